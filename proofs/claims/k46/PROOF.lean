import PyProof.Rows.All
import Wide.All
import OpenK.AllK
import Wide.FinOn
import KE.KStateDown
import Lean
import HandS.ForMost
import HandS.Defaults
import HandS.IsInst
import HandS.More
import HandS.Codes
import HandS.TupLe
import HandS.TupAny
import HandS.Conv
import HandS.Wide
import HandS.Walk
import KE.DataEq
import HandS.Head0
import HandS.Head1
import HandS.Head2
import HandS.HeadEnd
import HandS.HeadHook1
import HandS.HeadHook2
import HandS.HeadHook3
import HandS.HeadHook4
import HandS.HeadWalk
import HandS.Nested
import HandS.FStr
import KE.IntBitsLaws
import KE.DataMinMax
import HandS.SortKw
import Flt.Ops
import HandS.Exc
import HandS.ExcField
import HandS.ExcIs
import HandS.ExcInit
import HandS.ExcValue
import HandS.TryOnly
import KE.KExcIs
import HandS.CallSlots
import HandS.ExcOwn
import HandS.Lambda
import PyProof.FactsAll.dict_1
import PyProof.FactsAll.subtypes_3
import PyProof.FactsAll.subtypes_4
import HandS.SetKeys
import HandS.SetFor
import HandS.Strs
import HandS.SortInts
import HandS.Flow
import HandS.OwnEq
import PyProof.InstSpecial
import KE.KeyNested
import HandS.TupLen
import HandS.RevRange
import HandS.MakeKw
import HandS.SortRule
import HandS.MakeKwOnly
import PySem.Challenge.RW_forkgather_k46_whole_long_lists_grouped
set_option Elab.async false
set_option linter.all false
set_option maxRecDepth 100000
set_option maxHeartbeats 4000000
namespace Fg
open PySem PySem.Spec PyProof.Rows L2
section
structure Chg (M : List Addr) (H H' : Hp) : Prop where
  keep : ∀ a o, H a = some o → a ∉ M → H' a = some o
  dom : ∀ a, H' a = none → H a = none
  tup : ∀ a xs, H a = some (.tup xs) → H' a = some (.tup xs)
theorem Chg.refl {M : List Addr} {H : Hp} : Chg M H H := ⟨fun _ _ h _ => h, fun _ h => h, fun _ _ h => h⟩
theorem Chg.new {H : Hp} {p : Addr} {o : HO} (n : H p = none) : Chg [] H (upd H p o) where
  keep := fun a u h _ => by rw [upd_ne (ne_of_none h n)]; exact h
  dom := fun a h => by
    by_cases e : a = p
    · subst e; exact n
    · rw [upd_ne e] at h; exact h
  tup := fun a xs h => by rw [upd_ne (ne_of_none h n)]; exact h
theorem Chg.mut {H : Hp} {p : Addr} {o u : HO} (h : H p = some u) (hm : ∀ xs, u ≠ .tup xs) : Chg [p] H (upd H p o) where
  keep := fun a v e hn => by rw [upd_ne (fun z => hn (by rw [z]; exact List.mem_singleton.mpr rfl))]; exact e
  dom := fun a e => by
    by_cases z : a = p
    · subst z; rw [upd_same] at e; cases e
    · rw [upd_ne z] at e; exact e
  tup := fun a xs e => by
    rw [upd_ne (fun z => by subst z; rw [h] at e; exact hm xs (Option.some.inj e))]; exact e
/-- then c', whose changed ones are changed ones of c or new ones -/
theorem Chg.go {M M' : List Addr} {H H1 H2 : Hp} (c : Chg M H H1) (c' : Chg M' H1 H2) (h : ∀ a ∈ M', a ∈ M ∨ H a = none) : Chg M H H2 where
  keep := fun a o e hn => c'.keep a o (c.keep a o e hn) (fun hm => (h a hm).elim hn fun z => by rw [z] at e; cases e)
  dom := fun a e => c.dom a (c'.dom a e)
  tup := fun a xs e => c'.tup a xs (c.tup a xs e)
theorem Chg.same {M : List Addr} {H H1 H2 : Hp} (c : Chg M H H1) (c' : Chg [] H1 H2) : Chg M H H2 := c.go c' fun a h => absurd h (by simp)
theorem Chg.pre {M : List Addr} {H H1 H2 : Hp} (c : Chg [] H H1) (c' : Chg M H1 H2) : Chg M H H2 :=
  ⟨fun a o e hn => c'.keep a o (c.keep a o e (by simp)) hn, fun a e => c.dom a (c'.dom a e), fun a xs e => c'.tup a xs (c.tup a xs e)⟩
theorem Chg.both {M : List Addr} {H H1 H2 : Hp} (c : Chg M H H1) (c' : Chg M H1 H2) : Chg M H H2 := c.go c' fun a h => .inl h
theorem Chg.wide {M M' : List Addr} {H H1 : Hp} (c : Chg M H H1) (h : ∀ a ∈ M, a ∈ M') : Chg M' H H1 := ⟨fun a o e hn => c.keep a o e fun z => hn (h a z), c.dom, c.tup⟩
theorem Chg.one {H H1 H2 : Hp} {p : Addr} (c : Chg [] H H1) (c' : Chg [p] H1 H2) (n : H p = none) : Chg [] H H2 :=
  c.go c' fun a h => .inr (by rw [List.mem_singleton.mp h]; exact n)
theorem Chg.at {H H' : Hp} {a : Addr} {o : HO} (c : Chg [] H H') (h : H a = some o) : H' a = some o := c.keep a o h (by simp)
theorem Chg.at1 {H H' : Hp} {a b : Addr} {o : HO} (c : Chg [b] H H') (h : H a = some o) (n : a ≠ b) : H' a = some o := c.keep a o h (by simpa using n)
theorem Chg.seq {K : PySem.W.Frag} {H H' : Hp} {a : Addr} {xs : List V} (c : Chg [] H H') (h : SqL K H a xs) : SqL K H' a xs := by
  rcases h with (h | ⟨o, h⟩) | h
  · exact .inl (.inl (c.at h))
  · exact .inl (.inr ⟨o, c.at h⟩)
  · exact .inr h
theorem sqL {K : PySem.W.Frag} {H : Hp} {a : Addr} {xs : List V} (h : H a = some (.lst xs)) : SqL K H a xs := .inl (.inl h)
theorem sqT {K : PySem.W.Frag} {H : Hp} {a : Addr} {xs : List V} (h : H a = some (.tup xs)) : SqT K H a xs := .inl (.inl h)
mutual
inductive R (S : Addr → Prop) (H : Hp) : V → PyData → Prop
  | non : R S H .non .none
  | bl (b : Bool) : R S H (.bl b) (.bool b)
  | int (i : Int) : R S H (.int i) (.int i)
  | str (x : Str) : R S H (.str x) (.str x)
  | lst {a : Addr} {xs : List V} {ds : List PyData} : S a → H a = some (.lst xs) → RA S H xs ds → R S H (.ref a) (.list ds)
  | tup {a : Addr} {xs : List V} {ds : List PyData} : H a = some (.tup xs) → RA S H xs ds → R S H (.ref a) (.tuple ds)
  | dic {a : Addr} {kvs : List (Key × V)} : S a → H a = some (.dK kvs) → R S H (.ref a) (.dict [])
inductive RA (S : Addr → Prop) (H : Hp) : List V → List PyData → Prop
  | nil : RA S H [] []
  | cons {v : V} {vs : List V} {d : PyData} {ds : List PyData} : R S H v d → RA S H vs ds → RA S H (v :: vs) (d :: ds)
end
mutual
theorem R.imp {S S' : Addr → Prop} {H H' : Hp} (hl : ∀ a xs, S a → H a = some (.lst xs) → S' a ∧ H' a = some (.lst xs)) (hd : ∀ a xs, S a → H a = some (.dK xs) → S' a ∧ H' a = some (.dK xs))
    (ht : ∀ a xs, H a = some (.tup xs) → H' a = some (.tup xs)) : ∀ {d : PyData} {v : V}, R S H v d → R S' H' v d
  | .none, _, h => by cases h; exact .non
  | .bool _, _, h => by cases h; exact .bl _
  | .int _, _, h => by cases h; exact .int _
  | .str _, _, h => by cases h; exact .str _
  | .list ds, _, h => by
    cases h with
    | lst s e r => exact .lst (hl _ _ s e).1 (hl _ _ s e).2 (RA.imp hl hd ht r)
  | .tuple ds, _, h => by
    cases h with
    | tup e r => exact .tup (ht _ _ e) (RA.imp hl hd ht r)
  | .dict _, _, h => by
    cases h with
    | dic s e => exact .dic (hd _ _ s e).1 (hd _ _ s e).2
theorem RA.imp {S S' : Addr → Prop} {H H' : Hp} (hl : ∀ a xs, S a → H a = some (.lst xs) → S' a ∧ H' a = some (.lst xs)) (hd : ∀ a xs, S a → H a = some (.dK xs) → S' a ∧ H' a = some (.dK xs))
    (ht : ∀ a xs, H a = some (.tup xs) → H' a = some (.tup xs)) : ∀ {ds : List PyData} {vs : List V}, RA S H vs ds → RA S' H' vs ds
  | [], _, h => by cases h; exact .nil
  | d :: ds, _, h => by
    cases h with
    | cons a b => exact .cons (R.imp hl hd ht a) (RA.imp hl hd ht b)
end
theorem R.keep {S : Addr → Prop} {M : List Addr} {H H' : Hp} {v : V} {d : PyData} (c : Chg M H H') (h : ∀ a, S a → a ∉ M) (r : R S H v d) : R S H' v d :=
  R.imp (fun a xs s e => ⟨s, c.keep a _ e (h a s)⟩) (fun a xs s e => ⟨s, c.keep a _ e (h a s)⟩) c.tup r
theorem RA.keep {S : Addr → Prop} {M : List Addr} {H H' : Hp} {v : List V} {d : List PyData} (c : Chg M H H') (h : ∀ a, S a → a ∉ M) (r : RA S H v d) : RA S H' v d :=
  RA.imp (fun a xs s e => ⟨s, c.keep a _ e (h a s)⟩) (fun a xs s e => ⟨s, c.keep a _ e (h a s)⟩) c.tup r
theorem R.mono {S S' : Addr → Prop} {H : Hp} {v : V} {d : PyData} (h : ∀ a, S a → S' a) (r : R S H v d) : R S' H v d :=
  R.imp (fun a xs s e => ⟨h a s, e⟩) (fun a xs s e => ⟨h a s, e⟩) (fun _ _ e => e) r
theorem RA.mono {S S' : Addr → Prop} {H : Hp} {v : List V} {d : List PyData} (h : ∀ a, S a → S' a) (r : RA S H v d) : RA S' H v d :=
  RA.imp (fun a xs s e => ⟨h a s, e⟩) (fun a xs s e => ⟨h a s, e⟩) (fun _ _ e => e) r
/-- all that stands in H stands in H' -/
theorem R.same {S : Addr → Prop} {H H' : Hp} {v : V} {d : PyData} (c : Chg [] H H') (r : R S H v d) : R S H' v d := r.keep c fun _ _ => by simp
theorem RA.same {S : Addr → Prop} {H H' : Hp} {v : List V} {d : List PyData} (c : Chg [] H H') (r : RA S H v d) : RA S H' v d := r.keep c fun _ _ => by simp
/-- data without lists -/
abbrev Im : Hp → V → PyData → Prop := R (fun _ => False)
abbrev ImA : Hp → List V → List PyData → Prop := RA (fun _ => False)
theorem R.im {M : List Addr} {H H' : Hp} {v : V} {d : PyData} (c : Chg M H H') (r : Im H v d) : Im H' v d := R.keep c (fun _ z => z.elim) r
theorem RA.im {M : List Addr} {H H' : Hp} {v : List V} {d : List PyData} (c : Chg M H H') (r : ImA H v d) : ImA H' v d := RA.keep c (fun _ z => z.elim) r
theorem R.any {S : Addr → Prop} {H : Hp} {v : V} {d : PyData} (r : Im H v d) : R S H v d := r.mono fun _ z => z.elim
theorem RA.any {S : Addr → Prop} {H : Hp} {v : List V} {d : List PyData} (r : ImA H v d) : RA S H v d := r.mono fun _ z => z.elim
theorem RA.length {S : Addr → Prop} {H : Hp} : ∀ {vs : List V} {ds : List PyData}, RA S H vs ds → vs.length = ds.length
  | _, _, .nil => rfl
  | _, _, .cons _ r => by rw [List.length_cons, List.length_cons, r.length]
theorem RA.get {S : Addr → Prop} {H : Hp} : ∀ {vs : List V} {ds : List PyData} {i : Nat} {v : V}, RA S H vs ds → vs[i]? = some v → ∃ d, ds[i]? = some d ∧ R S H v d
  | _, _, _, _, .nil, h => by simp at h
  | _, _, 0, _, .cons a r, h => ⟨_, rfl, by cases (Option.some.inj (show some _ = some _ from h)); exact a⟩
  | _, _, i + 1, _, .cons a r, h => RA.get (i := i) r h
theorem RA.snoc {S : Addr → Prop} {H : Hp} : ∀ {vs : List V} {ds : List PyData} {v : V} {d : PyData}, RA S H vs ds → R S H v d → RA S H (vs ++ [v]) (ds ++ [d])
  | _, _, _, _, .nil, h => .cons h .nil
  | _, _, _, _, .cons a r, h => .cons a (r.snoc h)
theorem RA.append {S : Addr → Prop} {H : Hp} : ∀ {vs ws : List V} {ds es : List PyData}, RA S H vs ds → RA S H ws es → RA S H (vs ++ ws) (ds ++ es)
  | _, _, _, _, .nil, h => h
  | _, _, _, _, .cons a r, h => .cons a (r.append h)
theorem RA.drop {S : Addr → Prop} {H : Hp} : ∀ {vs : List V} {ds : List PyData} (n : Nat), RA S H vs ds → RA S H (vs.drop n) (ds.drop n)
  | _, _, 0, h => h
  | _, _, _ + 1, .nil => .nil
  | _, _, n + 1, .cons _ r => r.drop n
theorem RA.take {S : Addr → Prop} {H : Hp} : ∀ {vs : List V} {ds : List PyData} (n : Nat), RA S H vs ds → RA S H (vs.take n) (ds.take n)
  | _, _, 0, _ => .nil
  | _, _, _ + 1, .nil => .nil
  | _, _, n + 1, .cons a r => .cons a (r.take n)
/-- no dict in it -/
abbrev noDic : PyData → Bool := PyData.plain
abbrev noDics : List PyData → Bool := PyData.plainAll
mutual
theorem eqv_self : ∀ d : PyData, noDic d = true → PyData.eqv d d = true
  | .none, _ => rfl
  | .bool b, _ => by simp [PyData.eqv]
  | .int i, _ => by simp [PyData.eqv]
  | .str x, _ => by simp [PyData.eqv]
  | .list xs, h => by
    show PyData.eqvAll xs xs = true
    exact eqvAll_self xs h
  | .tuple xs, h => by
    show PyData.eqvAll xs xs = true
    exact eqvAll_self xs h
  | .dict _, h => by cases h
theorem eqvAll_self : ∀ ds : List PyData, noDics ds = true → PyData.eqvAll ds ds = true
  | [], _ => rfl
  | d :: ds, h => by
    obtain ⟨h1, h2⟩ := Bool.and_eq_true_iff.mp (show (noDic d && noDics ds) = true from h)
    show (PyData.eqv d d && PyData.eqvAll ds ds) = true
    rw [eqv_self d h1, eqvAll_self ds h2]
    rfl
end
mutual
theorem R.dp {K : PySem.W.Frag} {S : Addr → Prop} {H : Hp} : ∀ {d : PyData} {v : V}, R S H v d → noDic d = true → Dp K H v d
  | .none, _, h, _ => by cases h; exact .non
  | .bool _, _, h, _ => by cases h; exact .bl _
  | .int _, _, h, _ => by cases h; exact .int _
  | .str _, _, h, _ => by cases h; exact .str _
  | .list ds, _, h, z => by
    cases h with
    | lst s e r => exact .lst (sqL e) (RA.dp r z)
  | .tuple ds, _, h, z => by
    cases h with
    | tup e r => exact .tup (sqT e) (RA.dp r z)
  | .dict _, _, h, z => by cases z
theorem RA.dp {K : PySem.W.Frag} {S : Addr → Prop} {H : Hp} : ∀ {ds : List PyData} {vs : List V}, RA S H vs ds → noDics ds = true → DpAll K H vs ds
  | [], _, h, _ => by cases h; exact .nil
  | d :: ds, _, h, z => by
    obtain ⟨z1, z2⟩ := Bool.and_eq_true_iff.mp (show (noDic d && noDics ds) = true from z)
    cases h with
    | cons a b => exact .cons (R.dp a z1) (RA.dp b z2)
end
end
section
section
variable {X : Cx}
def oAdd : R2 := rI0 fun i j => .int (i + j)
def oSub : R2 := rI0 fun i j => .int (i - j)
def oMul : R2 := rI CMul fun i j => .int (i * j)
def oFdiv : R2 := rI CDivW fun i j => .int (i / j)
def oMod : R2 := rI (fun _ j => 0 < j) fun i j => .int (i % j)
def CPowW (i j : Int) : Prop := 0 ≤ j ∧ (Builtin.Int.intBits i : Int) * j ≤ 2 ^ 27
def oPow : R2 := rI CPowW fun i j => .int (i ^ j.toNat)
def oLt : R2 := rI0 fun i j => .bl (decide (i < j))
def oLe : R2 := rI0 fun i j => .bl (decide (i ≤ j))
def oGt : R2 := rI0 fun i j => .bl (decide (j < i))
def oGe : R2 := rI0 fun i j => .bl (decide (j ≤ i))
def oAddS : R2 := fun x y H Q => ∃ i j, x = .str i ∧ y = .str j ∧ i.length + j.length ≤ sizeLine ∧ Q (.str (i ++ j)) H
def oLtS : R2 := fun x y H Q => ∃ i j, x = .str i ∧ y = .str j ∧ Q (.bl (decide (i.cps.toList < j.cps.toList))) H
def oGeS : R2 := fun x y H Q => ∃ i j, x = .str i ∧ y = .str j ∧ Q (.bl (!decide (i.cps.toList < j.cps.toList))) H
def oInC : R2 := fun x y H Q => ∃ (c : Nat) (z : Str), x = .str ⟨#[c]⟩ ∧ y = .str z ∧ Q (.bl (decide (c ∈ z.cps.toList))) H
def oNotInC : R2 := fun x y H Q => ∃ (c : Nat) (z : Str), x = .str ⟨#[c]⟩ ∧ y = .str z ∧ Q (.bl (!decide (c ∈ z.cps.toList))) H
def oIsN : R2 := fun x y H Q => y = .non ∧ Q (.bl (decide (x = .non))) H
def oNotN : R2 := fun x y H Q => y = .non ∧ Q (.bl (!decide (x = .non))) H
def oIsB : R2 := fun x y H Q => ∃ a b, x = .bl a ∧ y = .bl b ∧ Q (.bl (decide (a = b))) H
def oNotB : R2 := fun x y H Q => ∃ a b, x = .bl a ∧ y = .bl b ∧ Q (.bl (!decide (a = b))) H
def oNotInKd (K : PySem.W.Frag) (d : Addr) : R2 := fun x y H Q => ∃ (z : Str) (r : Option Value), x = .str z ∧ y = .ref d ∧ PySem.W.nsIn K d z = some r ∧ Q (.bl (!r.isSome)) H
def oEqD : R2 := fun x y H Q => ∃ (d e : PyData) (S S' : Addr → Prop), R S H x d ∧ R S' H y e ∧ noDic d = true ∧ noDic e = true ∧ min d.depth e.depth ≤ 60 ∧ Q (.bl (PyData.eqv d e)) H
def oNeD : R2 := fun x y H Q => ∃ (d e : PyData) (S S' : Addr → Prop), R S H x d ∧ R S' H y e ∧ noDic d = true ∧ noDic e = true ∧ min d.depth e.depth ≤ 60 ∧ Q (.bl (!PyData.eqv d e)) H
theorem p_eqD (hu : X.A.units + 64 < cLine) : OpR X (compareOp .Eq) oEqD := by
  intro pins s σ H x y v u Q I rx ry h
  obtain ⟨d, e, S, S', hd, he, sd, se, hm, q⟩ := h
  obtain ⟨as, r1⟩ := Dp.reads I d x v (hd.dp sd) rx
  obtain ⟨bs, r2⟩ := Dp.reads I e y u (he.dp se) ry
  exact SeqAt.eq_plain r1 r2 sd se (by omega) ⟨.bl _, H, I, rfl, q⟩
theorem p_neD (hu : X.A.units + 64 < cLine) : OpR X (compareOp .NotEq) oNeD := by
  intro pins s σ H x y v u Q I rx ry h
  obtain ⟨d, e, S, S', hd, he, sd, se, hm, q⟩ := h
  obtain ⟨as, r1⟩ := Dp.reads I d x v (hd.dp sd) rx
  obtain ⟨bs, r2⟩ := Dp.reads I e y u (he.dp se) ry
  exact SeqAt.ne_plain r1 r2 sd se (by omega) ⟨.bl _, H, I, rfl, q⟩
theorem p_add : OpR X (binaryOp .Add) oAdd := op_add
theorem p_sub : OpR X (binaryOp .Sub) oSub := op_sub
theorem p_mul : OpR X (binaryOp .Mult) oMul := op_mul
theorem p_fdiv : OpR X (binaryOp .FloorDiv) oFdiv := op_fdivW
theorem p_mod : OpR X (binaryOp .Mod) oMod := op_mod
theorem p_pow : OpR X (binaryOp .Pow) oPow := opI fun _ _ _ _ _ _ _ hc q => pow_int hc.1 hc.2 q
theorem p_lt : OpR X (compareOp .Lt) oLt := op_lt
theorem p_gt : OpR X (compareOp .Gt) oGt := op_gt
theorem p_addS : OpR X (binaryOp .Add) oAddS := op_add_str
theorem p_isN : OpR X (compareOp .Is) oIsN := op_isN
theorem p_notN : OpR X (compareOp .IsNot) oNotN := op_notN
def cMax : List V → Hp → VK → Prop := fun xs H Q => ∃ i j, xs = [.int i, .int j] ∧ Q (.int (if j > i then j else i)) H
def cMin : List V → Hp → VK → Prop := fun xs H Q => ∃ i j, xs = [.int i, .int j] ∧ Q (.int (if j < i then j else i)) H
def cAbs : List V → Hp → VK → Prop := fun xs H Q => ∃ i, xs = [.int i] ∧ Q (.int (if i < 0 then -i else i)) H
def cInt : List V → Hp → VK → Prop := fun xs H Q => (∃ i, xs = [.int i] ∧ Q (.int i) H) ∨ ∃ k, xs = [.bl k] ∧ Q (.int (if k then 1 else 0)) H
def cStrI : List V → Hp → VK → Prop := fun xs H Q => ∃ i, xs = [.int i] ∧ i.natAbs.log2 < 1920 ∧ Q (.str (toString i)) H
def cLenQ (K : PySem.W.Frag) : List V → Hp → VK → Prop := fun xs H Q => ∃ p ys, xs = [.ref p] ∧ (SqL K H p ys ∨ SqT K H p ys) ∧ Q (.int ys.length) H
def cLenS : List V → Hp → VK → Prop := fun xs H Q => ∃ z, xs = [.str z] ∧ z.length ≤ sizeLine ∧ Q (.int z.length) H
def cListQ (K : PySem.W.Frag) : List V → Hp → VK → Prop := fun xs H Q => ∃ p ys, xs = [.ref p] ∧ (SqL K H p ys ∨ SqT K H p ys) ∧ ∀ l, H l = none → Q (.ref l) (upd H l (.lst ys))
theorem p_max (hc : X.calm = true) : CallR X (.builtin "max") cMax := call_max2 hc
theorem p_min (hc : X.calm = true) : CallR X (.builtin "min") cMin := call_min2 hc
theorem p_abs : CallR X (.builtin "abs") cAbs := call_abs
theorem p_strI : CallR X (.type "str") cStrI := call_str_int
theorem p_lenQ : CallR X (.builtin "len") (cLenQ X.K) := call_len_seq
theorem p_listQ : CallR X (.type "list") (cListQ X.K) := call_list_of
end
section
variable {K : PySem.W.Frag} {σ : L2.St} {H : Hp} {D : Ends} {te ta tb tc : TE} {tr : TA} {g : TG} {gs : TGs} {t u : TS} {c c' : TT} {r r' : R2} {Q : VK} {QB : Bool → Hp → Prop} {QA : List V → Hp → Prop} {QS : L2.St → Hp → Prop} {QO : Option Int → Hp → Prop} {i j : Int} {n : Nat} {v x y : V} {vs xs : List V} {p a : Addr} {z z' : Str} {b : Bool}
theorem w_seq (h : t { D with nx := u D } σ H) : tSeq t u D σ H := h
theorem w_next (h : D.nx σ H) : tNext D σ H := h
theorem w_drop (h : te σ H fun _ H1 => D.nx σ H1) : tDrop te D σ H := h
theorem w_ret (h : te σ H D.rt) : tRet te D σ H := h
theorem w_retN (h : D.rt .non H) : tRetN D σ H := h
theorem w_if (h : c σ H fun b H1 => if b = true then t D σ H1 else u D σ H1) : tIfS c t u D σ H := h
theorem w_asg (h : te σ H fun x H1 => g x σ H1 D.nx) : tAsg te g D σ H := h
theorem w_gName (h : QS (σ.set n (some v)) H) : gName n v σ H QS := h
theorem w_gTup (h : H a = some (.tup xs)) (hl : xs.length = n) (q : gs xs σ H QS) : gTup K n gs (.ref a) σ H QS := ⟨a, xs, rfl, sqT h, hl, q⟩
theorem w_gCons (h : g v σ H fun σ' H' => gs vs σ' H' QS) : gCons g gs (v :: vs) σ H QS := ⟨v, vs, rfl, h⟩
theorem w_gNil (h : QS σ H) : gNil [] σ H QS := ⟨rfl, h⟩
theorem w_gSub {to ti : TE} {ts : TSet} (h : to σ H fun o H1 => ti σ H1 fun i H2 => ts o i v H2 fun H3 => QS σ H3) : gSub to ti ts v σ H QS := h
theorem w_aug {ti : TIp} (h : σ[n]? = some (some x)) (q : te σ H fun y H1 => ti x y H1 fun z H2 => D.nx (σ.set n (some z)) H2) : tAug n te ti D σ H := ⟨x, h, q⟩
theorem w_ipI {f : Int → Int → Int} (q : Q (.int (f i j)) H) : ipI f (.int i) (.int j) H Q := ⟨i, j, rfl, rfl, q⟩
theorem w_var (h : σ[n]? = some (some v)) (q : Q v H) : tVar n σ H Q := ⟨v, h, q⟩
theorem w_c (q : Q v H) : tC v σ H Q := q
theorem w_op (h : ta σ H fun x H1 => tb σ H1 fun y H2 => r x y H2 Q) : tOp r ta tb σ H Q := h
theorem w_un {ru : V → Hp → VK → Prop} (h : ta σ H fun x H1 => ru x H1 Q) : tUn ru ta σ H Q := h
theorem w_neg (q : Q (.int (-i)) H) : rU (fun i => .int (-i)) (.int i) H Q := ⟨i, rfl, q⟩
theorem w_nil (q : QA [] H) : tNil σ H QA := q
theorem w_cons (h : ta σ H fun x H1 => tr σ H1 fun xs H2 => QA (x :: xs) H2) : tCons ta tr σ H QA := h
theorem w_cb {rc : List V → Hp → VK → Prop} (h : tr σ H fun vs H1 => rc vs H1 Q) : tCB rc tr σ H Q := h
theorem w_call {sp : Sp} {dvs : List V} {E : XK} (h : tr σ H fun vs H1 => sp (vs ++ dvs) H1 Q E) : tCall sp dvs E tr σ H Q := h
theorem w_test (h : te σ H fun x H' => ∃ k, x = .bl k ∧ QB k H') : tTest te σ H QB := h
theorem w_B (h : te σ H fun x H' => ∃ k, x = .bl k ∧ QB k H') : tB te σ H QB := h
theorem w_isbl {P : Bool → Prop} (q : P b) : ∃ k, V.bl b = .bl k ∧ P k := ⟨b, rfl, q⟩
theorem w_and (h : c σ H fun b H1 => if b = true then c' σ H1 QB else QB false H1) : tAnd c c' σ H QB := h
theorem w_or (h : c σ H fun b H1 => if b = true then QB true H1 else c' σ H1 QB) : tOr c c' σ H QB := h
theorem w_not (h : c σ H fun b H1 => QB (!b) H1) : tNot c σ H QB := h
theorem w_andV (h : ta σ H fun x H1 => ∃ c, x = .bl c ∧ if c = true then tb σ H1 Q else Q (.bl false) H1) : tAndV ta tb σ H Q := h
theorem w_orV (h : ta σ H fun x H1 => ∃ c, x = .bl c ∧ if c = true then Q (.bl true) H1 else tb σ H1 Q) : tOrV ta tb σ H Q := h
theorem w_notV (h : ta σ H fun x H1 => ∃ c, x = .bl c ∧ Q (.bl (!c)) H1) : tNotV ta σ H Q := h
theorem w_ifE (h : c σ H fun b H1 => if b = true then ta σ H1 Q else tb σ H1 Q) : tIf c ta tb σ H Q := h
theorem w_chain (h : ta σ H fun x H1 => tb σ H1 fun y H2 => r x y H2 fun z H3 => ∃ k, z = .bl k ∧ (if k = true then tc σ H3 fun w' H4 => r' y w' H4 Q else Q (.bl false) H3)) : tChain r r' ta tb tc σ H Q := h
/-- the last part of a display -/
def KTup (Q : VK) : List V → Hp → Prop := fun xs H1 => xs.length ≤ sizeLine ∧ ∀ p, H1 p = none → Q (.ref p) (upd H1 p (.tup xs))
def KLst (Q : VK) : List V → Hp → Prop := fun xs H1 => xs.length ≤ sizeLine ∧ ∀ p, H1 p = none → Q (.ref p) (upd H1 p (.lst xs))
theorem w_tup1 (h : tr σ H (KTup Q)) : tTup tr σ H Q := h
theorem w_lst1 (h : tr σ H (KLst Q)) : tLst tr σ H Q := h
theorem k_tup {H1 : Hp} (hl : xs.length ≤ sizeLine) (h : ∀ p H2, H1 p = none → Chg [] H1 H2 → H2 p = some (.tup xs) → Q (.ref p) H2) : KTup Q xs H1 := ⟨hl, fun p np => h p _ np (.new np) upd_same⟩
theorem k_lst {H1 : Hp} (hl : xs.length ≤ sizeLine) (h : ∀ p H2, H1 p = none → Chg [] H1 H2 → H2 p = some (.lst xs) → Q (.ref p) H2) : KLst Q xs H1 := ⟨hl, fun p np => h p _ np (.new np) upd_same⟩
/-- a new object -/
theorem d_new {H1 : Hp} {o : HO} (h : ∀ p H2, H1 p = none → Chg [] H1 H2 → H2 p = some o → Q (.ref p) H2) : ∀ p, H1 p = none → Q (.ref p) (upd H1 p o) := fun p np => h p _ np (.new np) upd_same
theorem w_add (q : Q (.int (i + j)) H) : oAdd (.int i) (.int j) H Q := ⟨i, j, rfl, rfl, q⟩
theorem w_sub (q : Q (.int (i - j)) H) : oSub (.int i) (.int j) H Q := ⟨i, j, rfl, rfl, q⟩
theorem w_mul (h : CMul i j) (q : Q (.int (i * j)) H) : oMul (.int i) (.int j) H Q := ⟨i, j, rfl, rfl, h, q⟩
theorem w_fdiv (h : CDivW i j) (q : Q (.int (i / j)) H) : oFdiv (.int i) (.int j) H Q := ⟨i, j, rfl, rfl, h, q⟩
theorem w_mod (h : 0 < j) (q : Q (.int (i % j)) H) : oMod (.int i) (.int j) H Q := ⟨i, j, rfl, rfl, h, q⟩
theorem w_pow (h : CPowW i j) (q : Q (.int (i ^ j.toNat)) H) : oPow (.int i) (.int j) H Q := ⟨i, j, rfl, rfl, h, q⟩
theorem w_lt (q : Q (.bl (decide (i < j))) H) : oLt (.int i) (.int j) H Q := ⟨i, j, rfl, rfl, q⟩
theorem w_le (q : Q (.bl (decide (i ≤ j))) H) : oLe (.int i) (.int j) H Q := ⟨i, j, rfl, rfl, q⟩
theorem w_gt (q : Q (.bl (decide (j < i))) H) : oGt (.int i) (.int j) H Q := ⟨i, j, rfl, rfl, q⟩
theorem w_ge (q : Q (.bl (decide (j ≤ i))) H) : oGe (.int i) (.int j) H Q := ⟨i, j, rfl, rfl, q⟩
theorem w_addS (h : z.length + z'.length ≤ sizeLine) (q : Q (.str (z ++ z')) H) : oAddS (.str z) (.str z') H Q := ⟨z, z', rfl, rfl, h, q⟩
theorem w_ltS (q : Q (.bl (decide (z.cps.toList < z'.cps.toList))) H) : oLtS (.str z) (.str z') H Q := ⟨z, z', rfl, rfl, q⟩
theorem w_geS (q : Q (.bl (!decide (z.cps.toList < z'.cps.toList))) H) : oGeS (.str z) (.str z') H Q := ⟨z, z', rfl, rfl, q⟩
theorem w_inC {c : Nat} (q : Q (.bl (decide (c ∈ z.cps.toList))) H) : oInC (.str ⟨#[c]⟩) (.str z) H Q := ⟨c, z, rfl, rfl, q⟩
theorem w_notInC {c : Nat} (q : Q (.bl (!decide (c ∈ z.cps.toList))) H) : oNotInC (.str ⟨#[c]⟩) (.str z) H Q := ⟨c, z, rfl, rfl, q⟩
theorem w_isN (q : Q (.bl (decide (x = .non))) H) : oIsN x .non H Q := ⟨rfl, q⟩
theorem w_notN (q : Q (.bl (!decide (x = .non))) H) : oNotN x .non H Q := ⟨rfl, q⟩
theorem w_isB {b' : Bool} (q : Q (.bl (decide (b = b'))) H) : oIsB (.bl b) (.bl b') H Q := ⟨b, b', rfl, rfl, q⟩
theorem w_notB {b' : Bool} (q : Q (.bl (!decide (b = b'))) H) : oNotB (.bl b) (.bl b') H Q := ⟨b, b', rfl, rfl, q⟩
theorem w_eq (h : scal x y = true) (q : Q (.bl (decide (x = y))) H) : rEq x y H Q := ⟨h, q⟩
theorem w_ne (h : scal x y = true) (q : Q (.bl (!decide (x = y))) H) : rNe x y H Q := ⟨h, q⟩
theorem w_eqD {d e : PyData} {S S' : Addr → Prop} (hd : R S H x d) (he : R S' H y e) (sd : noDic d = true) (se : noDic e = true) (hm : min d.depth e.depth ≤ 60) (q : Q (.bl (PyData.eqv d e)) H) : oEqD x y H Q := ⟨d, e, S, S', hd, he, sd, se, hm, q⟩
theorem w_neD {d e : PyData} {S S' : Addr → Prop} (hd : R S H x d) (he : R S' H y e) (sd : noDic d = true) (se : noDic e = true) (hm : min d.depth e.depth ≤ 60) (q : Q (.bl (!PyData.eqv d e)) H) : oNeD x y H Q := ⟨d, e, S, S', hd, he, sd, se, hm, q⟩
theorem w_m1 {rm : V → List V → Hp → VK → Prop} (h : ta σ H fun x H1 => (∃ a, x = .str a) ∧ tb σ H1 fun y H2 => rm x [y] H2 Q) : tM1 rm ta tb σ H Q := h
theorem w_isstr {P : Prop} (q : P) : (∃ a, V.str z = .str a) ∧ P := ⟨⟨z, rfl⟩, q⟩
theorem w_ixL (h : SqL K H p xs) (ha : atI xs i = some v) (q : Q v H) : rIxL K (.ref p) (.int i) H Q := ⟨p, xs, i, v, rfl, rfl, h, ha, q⟩
theorem w_ixT (h : H p = some (.tup xs)) (ha : atI xs i = some v) (q : Q v H) : rIxT K (.ref p) (.int i) H Q := ⟨p, xs, i, v, rfl, rfl, sqT h, ha, q⟩
theorem w_ixS {c : Nat} (h : z.length ≤ sizeLine) (ha : atI z.cps.toList i = some c) (q : Q (.str ⟨#[c]⟩) H) : rIxS (.str z) (.int i) H Q := ⟨z, i, c, rfl, rfl, h, ha, q⟩
theorem w_setL {k : Nat} {P : Hp → Prop} (h : H p = some (.lst xs)) (ha : ixN xs.length i = some k) (q : ∀ H', Chg [p] H H' → H' p = some (.lst (xs.set k v)) → P H') : rSetL (.ref p) (.int i) v H P :=
  ⟨p, xs, i, k, rfl, rfl, h, ha, q _ (.mut h fun _ z => nomatch z) upd_same⟩
theorem w_max (q : Q (.int (if j > i then j else i)) H) : cMax [.int i, .int j] H Q := ⟨i, j, rfl, q⟩
theorem w_min (q : Q (.int (if j < i then j else i)) H) : cMin [.int i, .int j] H Q := ⟨i, j, rfl, q⟩
theorem w_abs (q : Q (.int (if i < 0 then -i else i)) H) : cAbs [.int i] H Q := ⟨i, rfl, q⟩
theorem w_intB (q : Q (.int (if b then 1 else 0)) H) : cInt [.bl b] H Q := .inr ⟨b, rfl, q⟩
theorem w_intI (q : Q (.int i) H) : cInt [.int i] H Q := .inl ⟨i, rfl, q⟩
theorem w_strI (h : i.natAbs.log2 < 1920) (q : Q (.str (toString i)) H) : cStrI [.int i] H Q := ⟨i, rfl, h, q⟩
theorem w_lenL (h : SqL K H p xs) (q : Q (.int xs.length) H) : cLenQ K [.ref p] H Q := ⟨p, xs, rfl, .inl h, q⟩
theorem w_lenT (h : H p = some (.tup xs)) (q : Q (.int xs.length) H) : cLenQ K [.ref p] H Q := ⟨p, xs, rfl, .inr (sqT h), q⟩
theorem w_lenS (h : z.length ≤ sizeLine) (q : Q (.int z.length) H) : cLenS [.str z] H Q := ⟨z, rfl, h, q⟩
theorem w_listL (h : SqL K H p xs) (q : ∀ p' H2, H p' = none → Chg [] H H2 → H2 p' = some (.lst xs) → Q (.ref p') H2) : cListQ K [.ref p] H Q := ⟨p, xs, rfl, .inl h, d_new q⟩
theorem w_append (h : H p = some (.lst xs)) (hl : xs.length < sizeLine) (q : ∀ H', Chg [p] H H' → H' p = some (.lst (xs ++ [y])) → Q .non H') : rAppend (.ref p) [y] H Q :=
  ⟨p, xs, y, rfl, rfl, h, hl, q _ (.mut h fun _ z => nomatch z) upd_same⟩
theorem w_bm {T : String} {rm : V → List V → Hp → VK → Prop} (h : te σ H fun x H1 => tyV K T x H1 ∧ tr σ H1 fun ys H2 => rm x ys H2 Q) : tBM K T rm te tr σ H Q := h
theorem w_bm0 {T : String} {rm : V → List V → Hp → VK → Prop} (h : te σ H fun x H1 => tyV K T x H1 ∧ rm x [] H1 Q) : tBM0 K T rm te σ H Q := h
theorem w_tyL {A : Prop} (h : H p = some (.lst xs)) (q : A) : tyV K "list" (.ref p) H ∧ A := ⟨.inl ⟨rfl, _, sqL h⟩, q⟩
theorem w_part (h : te σ H fun x H1 => ∃ i, x = .int i ∧ QO (some i) H1) : tPart te σ H QO := h
theorem w_isint {P : Int → Prop} (q : P i) : ∃ k, V.int i = .int k ∧ P k := ⟨i, rfl, q⟩
theorem w_noPart (h : QO none H) : tNoPart σ H QO := h
theorem w_sl {rs : V → Option Int → Option Int → Hp → VK → Prop} {tl th : TO} (h : te σ H fun x H1 => tl σ H1 fun l H2 => th σ H2 fun u H3 => rs x l u H3 Q) : tSl rs te tl th σ H Q := h
theorem w_slS {lo hi : Option Int} (h : z.length ≤ sizeLine) (q : Q (.str (cutS z lo hi)) H) : rSlS (.str z) lo hi H Q := ⟨z, rfl, h, q⟩
theorem w_slL {lo hi : Option Int} (h : SqL K H p xs) (q : ∀ p' H2, H p' = none → Chg [] H H2 → H2 p' = some (.lst (cutV xs lo hi)) → Q (.ref p') H2) : rSlL K (.ref p) lo hi H Q := ⟨p, xs, rfl, h, d_new q⟩
/-- tests -/
theorem w_iteT {A B : Prop} (h : A) : if true = true then A else B := iteT h
theorem w_iteF {A B : Prop} (h : B) : if false = true then A else B := iteF h
theorem w_iteB {A B : Prop} (h1 : b = true → A) (h2 : b = false → B) : if b = true then A else B := by
  cases b with
  | true => exact iteT (h1 rfl)
  | false => exact iteF (h2 rfl)
theorem w_iteD {P A B : Prop} [Decidable P] (h1 : P → A) (h2 : ¬ P → B) : if decide P = true then A else B := w_iteB (fun e => h1 (of_decide_eq_true e)) (fun e => h2 (of_decide_eq_false e))
theorem w_iteN {A B : Prop} (h : if b = true then B else A) : if (!b) = true then A else B := by cases b <;> simpa using h
theorem w_iteYes {A B : Prop} (e : b = true) (h : A) : if b = true then A else B := by rw [e]; exact iteT h
theorem w_iteNo {A B : Prop} (e : b = false) (h : B) : if b = true then A else B := by rw [e]; exact iteF h
end
section
variable {K : PySem.W.Frag} {σ : L2.St} {H : Hp} {D : Ends} {td ty tv : TE} {p : Addr} {v : V} {k : Key} {kvs : List (Key × V)}
theorem w_dput (h : tv σ H fun v H1 => td σ H1 fun x H2 => ty σ H2 fun y H3 => ∃ a H4, x = .ref a ∧ DPut H3 a y v H4 ∧ D.nx σ H4) : sDPut td ty tv D σ H := h
end
theorem at0 {α : Type} {x0 : α} {xs : List α} : atI (x0 :: xs) 0 = some x0 := atI_nat (j := 0) rfl
theorem at1 {α : Type} {x0 x1 : α} {xs : List α} : atI (x0 :: x1 :: xs) 1 = some x1 := atI_nat (j := 1) rfl
theorem at2 {α : Type} {x0 x1 x2 : α} {xs : List α} : atI (x0 :: x1 :: x2 :: xs) 2 = some x2 := atI_nat (j := 2) rfl
theorem at3 {α : Type} {x0 x1 x2 x3 : α} {xs : List α} : atI (x0 :: x1 :: x2 :: x3 :: xs) 3 = some x3 := atI_nat (j := 3) rfl
theorem atN {α : Type} {xs : List α} {i : Int} {v : α} (h0 : 0 ≤ i) (h : xs[i.toNat]? = some v) : atI xs i = some v := by
  have e : ((i.toNat : Nat) : Int) = i := by omega
  have q := atI_nat (xs := xs) h
  rw [e] at q
  exact q
/-- at a drawn place -/
theorem atD {α : Type} {xs : List α} {i : Int} (h0 : 0 ≤ i) (h1 : i < xs.length) : ∃ v, atI xs i = some v ∧ v ∈ xs := by
  have hl : i.toNat < xs.length := by omega
  exact ⟨xs[i.toNat], atN h0 (List.getElem?_eq_getElem hl), List.getElem_mem hl⟩
end
section
/-- what holds ahead of the i-th turn: D the new list, Iv by the address, the turn, the list so far, the heap -/
def LcP (D : Addr) (Iv : Addr → Nat → List V → Hp → Prop) (i : Nat) : Hp → Prop := fun H5 => ∃ acc, acc.length = i ∧ H5 D = some (.lst acc) ∧ Iv D i acc H5
/-- what is wanted of an item -/
def LcK (D : Addr) (Iv : Addr → Nat → List V → Hp → Prop) (i : Nat) : VK := fun y H4 => ∃ acc, H4 D = some (.lst acc) ∧ acc.length < sizeLine ∧ LcP D Iv (i + 1) (upd H4 D (.lst (acc ++ [y])))
theorem lc_end {D : Addr} {Iv : Addr → Nat → List V → Hp → Prop} {i : Nat} {y : V} {H4 : Hp} {acc : List V} (h : H4 D = some (.lst acc)) (hl : acc.length = i) (hz : i ≤ 100000) (q : ∀ H5, Chg [D] H4 H5 → H5 D = some (.lst (acc ++ [y])) → Iv D (i + 1) (acc ++ [y]) H5) : LcK D Iv i y H4 := by
  subst hl
  exact ⟨acc, h, Nat.lt_of_le_of_lt hz (by decide), acc ++ [y], by simp, upd_same, q _ (.mut h fun _ e => nomatch e) upd_same⟩
theorem w_lcW {J : It} {n : Nat} {G : Hp → Prop} {Y : Nat → Hp → V → Hp → Prop} {g : TG} {te : TE} {tt : TT} {vs : List Nat} {σ : L2.St} {H : Hp} {Q : Addr → Hp → Prop} (w : L2.Walk J n G Y) (Iv : Addr → Nat → List V → Hp → Prop)
    (h0 : ∀ D H1, H D = none → Chg [] H H1 → H1 D = some (.lst []) → Iv D 0 [] H1) (hG : ∀ D i acc H1, i ≤ n → H D = none → Iv D i acc H1 → G H1)
    (hs : ∀ D i acc x H1 H2, i < n → H D = none → H1 D = some (.lst acc) → acc.length = i → Iv D i acc H1 → Y i H1 x H2 → g x (wipe σ vs) H2 fun σ2 H3 => wipe σ2 vs = wipe σ vs ∧
      tt σ2 H3 fun b H3 => if b = true then te σ2 H3 (LcK D Iv i) else LcP D Iv (i + 1) H3)
    (hd : ∀ D acc H1, H D = none → acc.length = n → H1 D = some (.lst acc) → Iv D n acc H1 → Q D H1) :
    ∀ D, H D = none → ∃ W : Nat → Nat → Hp → Prop, (∃ m, W 0 m (upd H D (.lst []))) ∧ ∀ i m H, W i m H →
      (J.stop i H ∧ Q D H) ∨ (J.go i H ∧ ∃ Nx : Hp → Prop, (∀ H', Nx H' → ∃ m', m' < m ∧ W (i + 1) m' H') ∧ ∀ x H', J.yld i H x H' → g x (wipe σ vs) H' fun σ2 H2 => wipe σ2 vs = wipe σ vs ∧ tt σ2 H2 fun b H3 =>
        if b = true then te σ2 H3 fun y H4 => ∃ acc, H4 D = some (.lst acc) ∧ acc.length < sizeLine ∧ Nx (upd H4 D (.lst (acc ++ [y]))) else Nx H3) := by
  intro D nD
  refine lc_it w (Qd := fun H => Q D H) (LcP D Iv) ⟨[], rfl, upd_same, h0 D _ nD (.new nD) upd_same⟩ (fun i H1 hi ⟨acc, _, _, q⟩ => hG D i acc H1 hi nD q) (fun i x H1 H2 hi hp y => ?_) (fun H1 ⟨acc, e, h, q⟩ => hd D acc H1 nD e h q)
  obtain ⟨acc, e, h, q⟩ := hp
  exact hs D i acc x H1 H2 hi nD h e q y
/-- each turn only makes new things (or changes M): Ys tells what the i-th is, Jv what else holds -/
def IvP (H : Hp) (M : List Addr) (Jv : Nat → Hp → Prop) (Ys : Nat → V → Hp → Prop) : Addr → Nat → List V → Hp → Prop := fun _ i acc H1 => Chg M H H1 ∧ Jv i H1 ∧ ∀ j y, acc[j]? = some y → Ys j y H1
theorem lcp_end {H : Hp} {M : List Addr} {Jv : Nat → Hp → Prop} {Ys : Nat → V → Hp → Prop} {D : Addr} {i : Nat} {y : V} {acc : List V} {H1 H4 : Hp} (jst : ∀ i H1 H2 p, H p = none → Chg [p] H1 H2 → Jv i H1 → Jv i H2)
    (yst : ∀ i y H1 H2 p, H p = none → Chg (p :: M) H1 H2 → Ys i y H1 → Ys i y H2) (nD : H D = none) (hM : ∀ a ∈ M, H a ≠ none) (hD : H1 D = some (.lst acc)) (hl : acc.length = i) (hz : i ≤ 100000) (iv : IvP H M Jv Ys D i acc H1)
    (c : Chg M H1 H4) (jq : Jv (i + 1) H4) (yq : Ys i y H4) : LcK D (IvP H M Jv Ys) i y H4 := by
  obtain ⟨c0, _, q⟩ := iv
  refine lc_end (c.keep _ _ hD fun hm => hM D hm nD) hl hz fun H5 c5 h5 => ⟨?_, jst _ _ _ D nD c5 jq, fun j y' e => ?_⟩
  · exact (c0.both c).go c5 fun a ha => .inr (by rw [List.mem_singleton.mp ha]; exact nD)
  · by_cases hj : j < acc.length
    · rw [List.getElem?_append_left hj] at e
      exact yst j y' H4 H5 D nD (c5.wide (by simp)) (yst j y' H1 H4 D nD (c.wide (by intro a ha; exact List.mem_cons_of_mem _ ha)) (q j y' e))
    · have hj2 : j = acc.length := by
        have := (List.getElem?_eq_some_iff.mp e).1
        rw [List.length_append, List.length_singleton] at this
        omega
      subst hj2
      rw [List.getElem?_append_right (Nat.le_refl _), Nat.sub_self] at e
      cases (Option.some.inj (show some y = some y' from e))
      rw [hl]
      exact yst i y H4 H5 D nD (c5.wide (by simp)) yq
theorem w_lcP {J : It} {n : Nat} {G : Hp → Prop} {Y : Nat → Hp → V → Hp → Prop} {g : TG} {te : TE} {tt : TT} {vs : List Nat} {σ : L2.St} {H : Hp} {Q : Addr → Hp → Prop} (w : L2.Walk J n G Y) (M : List Addr) (Jv : Nat → Hp → Prop) (Ys : Nat → V → Hp → Prop)
    (j0 : Jv 0 H) (jst : ∀ i H1 H2 p, H p = none → Chg [p] H1 H2 → Jv i H1 → Jv i H2) (hG : ∀ H1, Chg M H H1 → G H1)
    (hs : ∀ D i acc x H1 H2, i < n → H D = none → H1 D = some (.lst acc) → acc.length = i → IvP H M Jv Ys D i acc H1 → Chg M H H1 → Jv i H1 → Y i H1 x H2 → g x (wipe σ vs) H2 fun σ2 H3 => wipe σ2 vs = wipe σ vs ∧
      tt σ2 H3 fun b H3 => if b = true then te σ2 H3 (LcK D (IvP H M Jv Ys) i) else LcP D (IvP H M Jv Ys) (i + 1) H3)
    (hd : ∀ D acc H1, H D = none → Chg M H H1 → Jv n H1 → acc.length = n → H1 D = some (.lst acc) → (∀ i y, acc[i]? = some y → Ys i y H1) → Q D H1) :
    ∀ D, H D = none → ∃ W : Nat → Nat → Hp → Prop, (∃ m, W 0 m (upd H D (.lst []))) ∧ ∀ i m H, W i m H →
      (J.stop i H ∧ Q D H) ∨ (J.go i H ∧ ∃ Nx : Hp → Prop, (∀ H', Nx H' → ∃ m', m' < m ∧ W (i + 1) m' H') ∧ ∀ x H', J.yld i H x H' → g x (wipe σ vs) H' fun σ2 H2 => wipe σ2 vs = wipe σ vs ∧ tt σ2 H2 fun b H3 =>
        if b = true then te σ2 H3 fun y H4 => ∃ acc, H4 D = some (.lst acc) ∧ acc.length < sizeLine ∧ Nx (upd H4 D (.lst (acc ++ [y]))) else Nx H3) :=
  w_lcW w (IvP H M Jv Ys) (fun D H1 nD c _ => ⟨c.wide (by simp), jst _ _ _ D nD (c.wide (by simp)) j0, fun j y e => by simp at e⟩) (fun D i acc H1 _ _ q => hG H1 q.1) (fun D i acc x H1 H2 hi nD hD el iv y => hs D i acc x H1 H2 hi nD hD el iv iv.1 iv.2.1 y) (fun D acc H1 nD el hD ⟨c, j, q⟩ => hd D acc H1 nD c j el hD q)
section
variable {K : PySem.W.Frag} {σ : L2.St} {H : Hp} {te : TE} {tr : TA} {g : TG} {tt : TT} {vs : List Nat} {Q : VK} {a b : Addr} {xs ys : List V} {P : Prop} {RI : It → Hp → Prop} {D : Ends} {tb : TS} {wi : TI}
theorem w_lc (h : wi σ H fun J H1 => ∀ D, H1 D = none → ∃ W : Nat → Nat → Hp → Prop, (∃ m, W 0 m (upd H1 D (.lst []))) ∧ ∀ i m H, W i m H →
  (J.stop i H ∧ Q (.ref D) H) ∨ (J.go i H ∧ ∃ Nx : Hp → Prop, (∀ H', Nx H' → ∃ m', m' < m ∧ W (i + 1) m' H') ∧ ∀ x H', J.yld i H x H' → g x (wipe σ vs) H' fun σ2 H2 => wipe σ2 vs = wipe σ vs ∧ tt σ2 H2 fun b H3 =>
    if b = true then te σ2 H3 fun y H4 => ∃ acc, H4 D = some (.lst acc) ∧ acc.length < sizeLine ∧ Nx (upd H4 D (.lst (acc ++ [y]))) else Nx H3)) : tLc wi g tt te vs σ H Q := h
theorem w_for (h : wi σ H fun J H1 => ∃ W : Nat → Nat → L2.St → Hp → Prop, (∃ m, W 0 m σ H1) ∧ ∀ i m σ H, W i m σ H →
  (J.stop i H ∧ D.nx σ H) ∨ (J.go i H ∧ ∃ N : L2.St → Hp → Prop, (∀ σ' H', N σ' H' → ∃ m', m' < m ∧ W (i + 1) m' σ' H') ∧ ∀ x H', J.yld i H x H' → g x σ H' fun σ2 H2 => tb { D with nx := N, ct := N, bk := D.nx } σ2 H2)) : tFor wi g tb D σ H := h
theorem w_yes {QB : Bool → Hp → Prop} (h : QB true H) : tYes σ H QB := h
theorem w_wipe {σ2 : L2.St} (h : wipe σ2 vs = wipe σ vs) (q : P) : wipe σ2 vs = wipe σ vs ∧ P := ⟨h, q⟩
theorem w_iList (h : te σ H fun x H1 => ∃ a, x = .ref a ∧ (∃ xs, SqL K H1 a xs) ∧ RI (Itl K a) H1) : iList K te σ H RI := h
theorem w_iTup (h : te σ H fun x H1 => ∃ a, x = .ref a ∧ (∃ xs, SqT K H1 a xs) ∧ RI (Itt K a) H1) : iTup K te σ H RI := h
theorem d_iList {A : Addr → Prop} (h : SqL K H a xs) (q : A a) : ∃ a', V.ref a = .ref a' ∧ (∃ xs, SqL K H a' xs) ∧ A a' := ⟨a, rfl, ⟨xs, h⟩, q⟩
theorem d_iTup {A : Addr → Prop} (h : H a = some (.tup xs)) (q : A a) : ∃ a', V.ref a = .ref a' ∧ (∃ xs, SqT K H a' xs) ∧ A a' := ⟨a, rfl, ⟨xs, sqT h⟩, q⟩
theorem w_iStr (h : te σ H fun v H1 => ∃ x, v = .str x ∧ RI (Its x) H1) : iStr te σ H RI := h
theorem d_iStr {z : Str} {A : Str → Prop} (q : A z) : ∃ x, V.str z = .str x ∧ A x := ⟨z, rfl, q⟩
theorem w_iRng1 (h : tr σ H fun vs H1 => ∃ j : Int, vs = [.int j] ∧ -(2 ^ 62) ≤ j ∧ j < 2 ^ 62 ∧ RI (Itr 0 j.toNat) H1) : iRng1 tr σ H RI := h
theorem d_iRng1 {j : Int} {A : Int → Prop} (h1 : -(2 ^ 62) ≤ j) (h2 : j < 2 ^ 62) (q : A j) : ∃ j' : Int, [V.int j] = [.int j'] ∧ -(2 ^ 62) ≤ j' ∧ j' < 2 ^ 62 ∧ A j' := ⟨j, rfl, h1, h2, q⟩
theorem w_iRng2 (h : tr σ H fun vs H1 => ∃ i j : Int, vs = [.int i, .int j] ∧ (-(2 ^ 62) ≤ i ∧ i < 2 ^ 62 ∧ -(2 ^ 62) ≤ j ∧ j < 2 ^ 62) ∧ RI (Itr i (j - i).toNat) H1) : iRng2 tr σ H RI := h
theorem d_iRng2 {i j : Int} {A : Int → Int → Prop} (h0 : -(2 ^ 62) ≤ i) (h0' : i < 2 ^ 62) (h1 : -(2 ^ 62) ≤ j) (h2 : j < 2 ^ 62) (q : A i j) : ∃ i' j' : Int, [V.int i, V.int j] = [.int i', .int j'] ∧ (-(2 ^ 62) ≤ i' ∧ i' < 2 ^ 62 ∧ -(2 ^ 62) ≤ j' ∧ j' < 2 ^ 62) ∧ A i' j' := ⟨i, j, rfl, ⟨h0, h0', h1, h2⟩, q⟩
theorem w_iZip (h : tr σ H fun vs H1 => ∃ a b xs ys, vs = [.ref a, .ref b] ∧ SqL K H1 a xs ∧ SqL K H1 b ys ∧ RI (Itz K a b) H1) : iZip K tr σ H RI := h
theorem d_iZip {A : Addr → Addr → Prop} (h : SqL K H a xs) (h' : SqL K H b ys) (q : A a b) : ∃ a' b' xs ys, [V.ref a, V.ref b] = [.ref a', .ref b'] ∧ SqL K H a' xs ∧ SqL K H b' ys ∧ A a' b' := ⟨a, b, xs, ys, rfl, h, h', q⟩
theorem w_iEnum (h : tr σ H fun vs H1 => ∃ a xs, vs = [.ref a] ∧ SqL K H1 a xs ∧ RI (Ite K a) H1) : iEnum K tr σ H RI := h
theorem d_iEnum {A : Addr → Prop} (h : SqL K H a xs) (q : A a) : ∃ a' xs, [V.ref a] = [.ref a'] ∧ SqL K H a' xs ∧ A a' := ⟨a, xs, rfl, h, q⟩
end
end
section
def letters : Str := "abcdefghijklmnopqrstuvwxyz"
def isLow (c : Nat) : Bool := decide (c ∈ letters.cps.toList)
def dInt : PyData → Bool
  | .int _ => true
  | .bool _ => true
  | _ => false
def dBool : PyData → Bool
  | .bool _ => true
  | _ => false
def dStr : PyData → Bool
  | .str _ => true
  | _ => false
def dTup : PyData → Bool
  | .tuple _ => true
  | _ => false
def dLst : PyData → Bool
  | .list _ => true
  | _ => false
def nameS (x : Str) : Bool := decide (1 ≤ x.length) && decide (x.length ≤ 8) && x.cps.toList.all isLow
def partsOf (z : Str) : Option Nat := if z = "arg" then some 0 else if z = "cell" then some 1 else if z = "add" then some 2 else if z = "less" then some 2 else if z = "least" then some 2 else none
def tyN : PyData → String
  | .none => "NoneType"
  | .bool _ => "bool"
  | .int _ => "int"
  | .str _ => "str"
  | .list _ => "list"
  | .tuple _ => "tuple"
  | .dict _ => "dict"
section
variable {K : PySem.W.Frag} {S : Addr → Prop} {H : Hp} {v : V} {d : PyData} {Q : VK}
theorem isi_of {v : V} {a b : String} {r : Bool} (t : TyX K H v (.type a)) (h : kitB a b = some r) (q : Q (.bl r) H) : rIsi K [v, .ty b] H Q := ⟨v, .ty b, _, _, r, rfl, .ty b, t, kit_ty h, q⟩
theorem R.tyx (r : R S H v d) : TyX K H v (.type (tyN d)) := by
  cases r with
  | non => exact .base .non
  | bl b => exact .base (.bl b)
  | int i => exact .base (.int i)
  | str x => exact .base (.str x)
  | lst s e r => exact .base (.lst e)
  | tup e r => exact .base (.tup e)
  | dic s e => exact .base (.dK e)
theorem w_isInt (r : R S H v d) (q : Q (.bl (dInt d)) H) : rIsi K [v, .ty "int"] H Q := by
  have t := r.tyx (K := K)
  cases d with
  | none => exact isi_of t (show kitB "NoneType" "int" = some false by decide +kernel) q
  | bool b => exact isi_of t (show kitB "bool" "int" = some true by decide +kernel) q
  | int i => exact isi_of t (show kitB "int" "int" = some true by decide +kernel) q
  | str x => exact isi_of t (show kitB "str" "int" = some false by decide +kernel) q
  | list ds => exact isi_of t (show kitB "list" "int" = some false by decide +kernel) q
  | tuple ds => exact isi_of t (show kitB "tuple" "int" = some false by decide +kernel) q
  | dict ds => exact isi_of t (show kitB "dict" "int" = some false by decide +kernel) q
theorem w_isBool (r : R S H v d) (q : Q (.bl (dBool d)) H) : rIsi K [v, .ty "bool"] H Q := by
  have t := r.tyx (K := K)
  cases d with
  | none => exact isi_of t (show kitB "NoneType" "bool" = some false by decide +kernel) q
  | bool b => exact isi_of t (show kitB "bool" "bool" = some true by decide +kernel) q
  | int i => exact isi_of t (show kitB "int" "bool" = some false by decide +kernel) q
  | str x => exact isi_of t (show kitB "str" "bool" = some false by decide +kernel) q
  | list ds => exact isi_of t (show kitB "list" "bool" = some false by decide +kernel) q
  | tuple ds => exact isi_of t (show kitB "tuple" "bool" = some false by decide +kernel) q
  | dict ds => exact isi_of t (show kitB "dict" "bool" = some false by decide +kernel) q
theorem w_isStr (r : R S H v d) (q : Q (.bl (dStr d)) H) : rIsi K [v, .ty "str"] H Q := by
  have t := r.tyx (K := K)
  cases d with
  | none => exact isi_of t (show kitB "NoneType" "str" = some false by decide +kernel) q
  | bool b => exact isi_of t (show kitB "bool" "str" = some false by decide +kernel) q
  | int i => exact isi_of t (show kitB "int" "str" = some false by decide +kernel) q
  | str x => exact isi_of t (show kitB "str" "str" = some true by decide +kernel) q
  | list ds => exact isi_of t (show kitB "list" "str" = some false by decide +kernel) q
  | tuple ds => exact isi_of t (show kitB "tuple" "str" = some false by decide +kernel) q
  | dict ds => exact isi_of t (show kitB "dict" "str" = some false by decide +kernel) q
theorem w_isTup (r : R S H v d) (q : Q (.bl (dTup d)) H) : rIsi K [v, .ty "tuple"] H Q := by
  have t := r.tyx (K := K)
  cases d with
  | none => exact isi_of t (show kitB "NoneType" "tuple" = some false by decide +kernel) q
  | bool b => exact isi_of t (show kitB "bool" "tuple" = some false by decide +kernel) q
  | int i => exact isi_of t (show kitB "int" "tuple" = some false by decide +kernel) q
  | str x => exact isi_of t (show kitB "str" "tuple" = some false by decide +kernel) q
  | list ds => exact isi_of t (show kitB "list" "tuple" = some false by decide +kernel) q
  | tuple ds => exact isi_of t (show kitB "tuple" "tuple" = some true by decide +kernel) q
  | dict ds => exact isi_of t (show kitB "dict" "tuple" = some false by decide +kernel) q
theorem w_isLst (r : R S H v d) (q : Q (.bl (dLst d)) H) : rIsi K [v, .ty "list"] H Q := by
  have t := r.tyx (K := K)
  cases d with
  | none => exact isi_of t (show kitB "NoneType" "list" = some false by decide +kernel) q
  | bool b => exact isi_of t (show kitB "bool" "list" = some false by decide +kernel) q
  | int i => exact isi_of t (show kitB "int" "list" = some false by decide +kernel) q
  | str x => exact isi_of t (show kitB "str" "list" = some false by decide +kernel) q
  | list ds => exact isi_of t (show kitB "list" "list" = some true by decide +kernel) q
  | tuple ds => exact isi_of t (show kitB "tuple" "list" = some false by decide +kernel) q
  | dict ds => exact isi_of t (show kitB "dict" "list" = some false by decide +kernel) q
end
structure Parts (K : PySem.W.Frag) (w : World) (dP : Addr) : Prop where
  kd : ∃ es n, KDict K w dP es n
  get : ∀ z k, partsOf z = some k → ∃ u, PySem.W.nsIn K dP z = some (some u) ∧ RelV (.int (k : Nat)) u
  no : ∀ z, partsOf z = none → PySem.W.nsIn K dP z = some none
section
variable {K : PySem.W.Frag} {w : World} {dP : Addr} {H : Hp} {Q : VK} {z : Str}
theorem w_notInP (T : Parts K w dP) (q : Q (.bl (!(partsOf z).isSome)) H) : oNotInKd K dP (.str z) (.ref dP) H Q := by
  cases e : partsOf z with
  | none => exact ⟨z, none, rfl, rfl, T.no z e, by rw [e] at q; exact q⟩
  | some k =>
    obtain ⟨u, e1, _⟩ := T.get z k e
    exact ⟨z, some u, rfl, rfl, e1, by rw [e] at q; exact q⟩
theorem w_ixP {k : Nat} (T : Parts K w dP) (e : partsOf z = some k) (q : Q (.int (k : Nat)) H) : rIxD K w (.ref dP) (.str z) H Q := by
  obtain ⟨u, e1, e2⟩ := T.get z k e
  obtain ⟨es, n, kd⟩ := T.kd
  exact ⟨dP, z, _, rfl, rfl, ⟨es, n, u, kd.at_, kd.lit, e1, e2⟩, q⟩
end
end
section
/-- a def that may be called by its name, with these defaults behind -/
structure Cal (P : Program) (w : World) (K : PySem.W.Frag) (mg : Str → Option Value) (base : Heap) (k : Nat) (x : Str) (sp : Sp) (dvs : List V) : Prop where
  ex : ∃ (f : Addr) (fd : FuncData) (ps : List Str) (ds : List Value), FnOk P w K mg base CX0 k f fd ps sp ∧ mg x = some (.ref f) ∧ PySem.W.keepIn K (.ref f) = true ∧ Binds K fd ps ds ∧ Vals dvs ds
section
variable {X : Cx} {k j n mm : Nat} {x m : Str} {sp : Sp} {dvs : List V} {ks : List Str} {gV : List V → List V → List V} {p pos apos : Pos} {e o : Expr} {es : List Expr} {kws : List Keyword} {ta : TE} {t tk : TA}
theorem pe_c (c : Cal X.prog X.w X.K X.mg X.base k x sp dvs) (hr : Room j X.A) (hk : k ≤ j) (hg : Gl X x) (ha : PA X (e :: es) t)
    (hdb : (x == ("__debug__" : Str)) = false := by decide) (he : starEach (e :: es) X.env = (false, eval e X.env) :: starEach es X.env := by rfl) (hpl : (backTo pos (starEach es X.env)).any (·.1) = false := by rfl) :
    PE X (.Call (.Name x p) (e :: es) [] pos) (tCall sp dvs E0 t) := by
  obtain ⟨f, fd, ps, ds, F, hm, kp, b, d⟩ := c.ex
  exact pe_call F (hr.mono hk) hg hm kp b d pass0 ha hdb he hpl
theorem w_callN {σ : L2.St} {H : Hp} {Q : VK} {E : XK} {m : Nat} (h : t σ H fun vs H1 => tk σ H1 fun zs H2 => vs.length = n ∧ zs.length = m ∧ sp (gV vs zs) H2 Q E) : tCallN n m sp gV E t tk σ H Q := h
end
section
variable {P : Program} {w : World} {K : PySem.W.Frag} {mg : Str → Option Value} {base : Heap} {x : Str} {st : Stmt} {f : Addr} {fd : FuncData} {sp : Sp} {k : Nat}
/-- a def of the top as it stands, dvs its defaults -/
abbrev FnP (K : PySem.W.Frag) (x : Str) (st : Stmt) (dvs : List V) (f : Addr) (fd : FuncData) : Prop := FunD K x x (defArgs st) (defBody st) (defScope st) dvs [] f fd
theorem FnP.go {N ps : List Str} {dvs : List V} (F : FnP K x st dvs f fd) (S : FnScope N ps (defScope st)) (len : ∀ vs H Q E, sp vs H Q E → vs.length = ps.length) (t : TS)
    (pure : ∀ (vs : List V) (H : Hp) (Q : VK) (E : XK), sp vs H Q E → t { nx := fun _ H' => Q .non H', rt := Q } (start N vs) H)
    (hbody : ∀ (cdv : Value) (A : Around) (outer : List Env) (s : Shared) (H : Hp) (E : XK), Room k (A.deeper (envOfC x (defScope st) s.heap.objs.size f cdv)) →
      PSs (cxOf CX0 P w K mg base N x (defScope st) f cdv A outer s H E).nox (defBody st) t) : FnOk P w K mg base CX0 (k + 1) f fd ps sp :=
  F.ok S len fun cdv A outer s H vs Q E hr h => ⟨t, PSs.nox (hbody cdv A outer s H E hr), pure vs H Q E h⟩
theorem FnP.cal {ps : List Str} (F : FnP K x st [] f fd) (ok : FnOk P w K mg base CX0 k f fd ps sp) (g : mg x = some (.ref f))
    (h : ∀ (kV doc pm : Value) (an : Option Addr) (cdv ct : Value) (us : List Value), us.length = ps.length → bindArgs (PySem.W.fnOf x x (defArgs st) (defBody st) (defScope st) .none kV doc pm an cdv ct) ⟨us, []⟩ = pure (ps.zip us)) : Cal P w K mg base k x sp [] :=
  ⟨f, fd, ps, [], ok, g, F.kp, F.bindsN h, .nil⟩
end
end
section
theorem exL {α : Type} {P : α → Prop} {B : Prop} (h : ∀ x, P x → B) : (∃ x, P x) → B := fun ⟨x, hx⟩ => h x hx
end
section
local macro_rules | `(tactic| walk_at "len") => `(tactic| first | exact (fun ⟨e, _⟩ => by rw [e]; rfl) | (refine exL ?_; intro _; walk_at "len"))
open LamX
def topS (i : Nat) : Stmt := PySem.Challenge.pw_forkgather_k46_whole_long_lists_grouped.main.body.getD i (.Pass ⟨0, 0, 0, 0⟩)
abbrev s_Kind___init__ : Stmt := inClass (topS 1) 0
abbrev s_Kind_joined : Stmt := inClass (topS 1) 2
abbrev s_Kind_worth_of : Stmt := inClass (topS 1) 3
abbrev s_Kind_fold : Stmt := inClass (topS 1) 4
abbrev s_stretches : Stmt := topS 2
abbrev s_none_errs : Stmt := topS 3
abbrev s_groups : Stmt := topS 4
abbrev s__law_cell_at : Stmt := topS 6
abbrev s__law_bag : Stmt := topS 7
abbrev s__law_draw : Stmt := topS 8
abbrev s__law_lesser : Stmt := topS 9
abbrev s__law_apart : Stmt := topS 10
abbrev s__law_both : Stmt := topS 11
abbrev s__law_left_none : Stmt := topS 12
abbrev s__law_kind : Stmt := topS 13
abbrev s__law_made : Stmt := topS 14
abbrev s__law_row : Stmt := topS 16
abbrev s__law_err : Stmt := topS 17
abbrev s__law_stretch : Stmt := topS 18
abbrev s__law_first_err : Stmt := topS 19
abbrev s_law : Stmt := topS 20
def d_Kind___init__ : He.DefD := ⟨("Kind", some "__init__"), "__init__", "Kind.__init__", defArgs s_Kind___init__, defBody s_Kind___init__, defScope s_Kind___init__, [.non, .str "kind"], []⟩
def d_Kind_joined : He.DefD := ⟨("Kind", some "joined"), "joined", "Kind.joined", defArgs s_Kind_joined, defBody s_Kind_joined, defScope s_Kind_joined, [], []⟩
def d_Kind_worth_of : He.DefD := ⟨("Kind", some "worth_of"), "worth_of", "Kind.worth_of", defArgs s_Kind_worth_of, defBody s_Kind_worth_of, defScope s_Kind_worth_of, [], []⟩
def d_Kind_fold : He.DefD := ⟨("Kind", some "fold"), "fold", "Kind.fold", defArgs s_Kind_fold, defBody s_Kind_fold, defScope s_Kind_fold, [], []⟩
def d_stretches : He.DefD := ⟨("stretches", none), "stretches", "stretches", defArgs s_stretches, defBody s_stretches, defScope s_stretches, [], []⟩
def d_none_errs : He.DefD := ⟨("none_errs", none), "none_errs", "none_errs", defArgs s_none_errs, defBody s_none_errs, defScope s_none_errs, [], []⟩
def d_groups : He.DefD := ⟨("groups", none), "groups", "groups", defArgs s_groups, defBody s_groups, defScope s_groups, [], []⟩
def d__law_cell_at : He.DefD := ⟨("_law_cell_at", none), "_law_cell_at", "_law_cell_at", defArgs s__law_cell_at, defBody s__law_cell_at, defScope s__law_cell_at, [], []⟩
def d__law_bag : He.DefD := ⟨("_law_bag", none), "_law_bag", "_law_bag", defArgs s__law_bag, defBody s__law_bag, defScope s__law_bag, [], []⟩
def d__law_draw : He.DefD := ⟨("_law_draw", none), "_law_draw", "_law_draw", defArgs s__law_draw, defBody s__law_draw, defScope s__law_draw, [], []⟩
def d__law_lesser : He.DefD := ⟨("_law_lesser", none), "_law_lesser", "_law_lesser", defArgs s__law_lesser, defBody s__law_lesser, defScope s__law_lesser, [], []⟩
def d__law_apart : He.DefD := ⟨("_law_apart", none), "_law_apart", "_law_apart", defArgs s__law_apart, defBody s__law_apart, defScope s__law_apart, [], []⟩
def d__law_both : He.DefD := ⟨("_law_both", none), "_law_both", "_law_both", defArgs s__law_both, defBody s__law_both, defScope s__law_both, [], []⟩
def d__law_left_none : He.DefD := ⟨("_law_left_none", none), "_law_left_none", "_law_left_none", defArgs s__law_left_none, defBody s__law_left_none, defScope s__law_left_none, [], []⟩
def d__law_kind : He.DefD := ⟨("_law_kind", none), "_law_kind", "_law_kind", defArgs s__law_kind, defBody s__law_kind, defScope s__law_kind, [], []⟩
def d__law_made : He.DefD := ⟨("_law_made", none), "_law_made", "_law_made", defArgs s__law_made, defBody s__law_made, defScope s__law_made, [], []⟩
def d__law_row : He.DefD := ⟨("_law_row", none), "_law_row", "_law_row", defArgs s__law_row, defBody s__law_row, defScope s__law_row, [], []⟩
def d__law_err : He.DefD := ⟨("_law_err", none), "_law_err", "_law_err", defArgs s__law_err, defBody s__law_err, defScope s__law_err, [], []⟩
def d__law_stretch : He.DefD := ⟨("_law_stretch", none), "_law_stretch", "_law_stretch", defArgs s__law_stretch, defBody s__law_stretch, defScope s__law_stretch, [], []⟩
def d__law_first_err : He.DefD := ⟨("_law_first_err", none), "_law_first_err", "_law_first_err", defArgs s__law_first_err, defBody s__law_first_err, defScope s__law_first_err, [], []⟩
def d_law : He.DefD := ⟨("law", none), "law", "law", defArgs s_law, defBody s_law, defScope s_law, [], []⟩
def fn : List He.DefD := [d_stretches, d_none_errs, d_groups, d__law_cell_at, d__law_bag, d__law_draw, d__law_lesser, d__law_apart, d__law_both, d__law_left_none, d__law_kind, d__law_made, d__law_row, d__law_err, d__law_stretch, d__law_first_err, d_law, d_Kind___init__, d_Kind_joined, d_Kind_worth_of, d_Kind_fold]
def fa : List He.Fa := [.glo "stretches", .glo "none_errs", .glo "groups", .glo "_law_cell_at", .glo "_law_bag", .glo "_law_draw", .glo "_law_lesser", .glo "_law_apart", .glo "_law_both", .glo "_law_left_none", .glo "_law_kind", .glo "_law_made", .glo "_law_row", .glo "_law_err", .glo "_law_stretch", .glo "_law_first_err", .glo "law", .glo "Kind", .free "range", .free "len", .free "min", .free "list", .free "max", .free "str", .free "abs", .cls "Kind", .noat "Kind" "joining", .noat "Kind" "none", .noat "Kind" "making", .noat "Kind" "word", .mkr "Kind", .meth "Kind" "joined", .meth "Kind" "worth_of", .meth "Kind" "fold"]
def tf : List He.Defn := [("_law_kind", none), ("law", none)]
def tbK (K : PySem.W.Frag) (x : Str) : Addr := (He.cT K (x, none)).2
def ex (K : PySem.W.Frag) : Bool := !(tbK K "_law_kind" == tbK K "law")
abbrev R0 : PySem.W.OpenRow := PySem.W.OpenLaw.row PySem.Challenge.rw_forkgather_k46_whole_long_lists_grouped
abbrev hk : PySem.W.Hook := He.hookX 5 fa fn [] tf ex
def ob (s : PySem.W.SharedT) : He.AlX := He.obsX 5 fa fn [] tf ex (HandSHeadRun.getT s)
theorem ob_eq (s : PySem.W.SharedT) : ob s = hk.obs s.abs := He.obsX_eq (HandSHeadRun.getT_eq s)
def names : List Str := [Str.ofString "Kind", Str.ofString "stretches", Str.ofString "none_errs", Str.ofString "groups", Str.ofString "_law_cell_at", Str.ofString "_law_bag", Str.ofString "_law_draw", Str.ofString "_law_lesser", Str.ofString "_law_apart", Str.ofString "_law_both", Str.ofString "_law_left_none", Str.ofString "_law_kind", Str.ofString "_law_made", Str.ofString "_law_fold", Str.ofString "_law_row", Str.ofString "_law_err", Str.ofString "_law_stretch", Str.ofString "_law_first_err"]
theorem run_f (w : World) : HandSHeadRun.RunEq R0 (PySem.W.view R0.prog [20]) hk ob 4000 names (w.withFollow "special-get-raises" false) := fun os => by kernel_rfl
theorem run_t (w : World) : HandSHeadRun.RunEq R0 (PySem.W.view R0.prog [20]) hk ob 4000 names (w.withFollow "special-get-raises" true) := fun os => by kernel_rfl
theorem run (w : World) : HandSHeadRun.RunEq R0 (PySem.W.view R0.prog [20]) hk ob 4000 names w :=
  PySem.W.byRow2 "special-get-raises" (P := fun w => HandSHeadRun.RunEq R0 (PySem.W.view R0.prog [20]) hk ob 4000 names w) run_f run_t w
set_option maxHeartbeats 0 in
open PySem.W PySem.Calls in
theorem close (sp : PySem.W.Frag → Sp) (hsp : ∀ (K : PySem.W.Frag) (H : Hp) (a : Addr) (ns : List Int), ns.length ≤ 63 → H (He.cT K ("_law_kind", none)).2 = some (.tbl #[]) → H (He.cT K ("law", none)).2 = some (.tbl #[]) → SqL K H a (ns.map V.int) → sp K [.ref a] H (fun v _ => v = .bl true) (fun _ _ _ => False))
    (facts : ∀ {w : World} {K : PySem.W.Frag} {h : Heap} {mg : Str → Option Value} {f : Addr}, K.In h → h.Ns mainGlobals mg → mg ("law" : Str) = some (.ref f) → He.SaysX fa fn [] tf ex w h K →
      ∃ fd : FuncData, (∀ (s : Shared) (v : Value), BindsTo s fd ⟨[v], []⟩ [("script", v)]) ∧ ∀ base : Heap, K.In base → base.Ns mainGlobals mg → LamX.TabB base mg (He.cT K ("_law_kind", none)).1 (He.cT K ("_law_kind", none)).2 → LamX.TabB base mg (He.cT K ("law", none)).1 (He.cT K ("law", none)).2 → FnOk (PySem.Challenge.rw_forkgather_k46_whole_long_lists_grouped).prog w K mg base CX0 7 f fd ["script"] (sp K)) : PySem.Challenge.rw_forkgather_k46_whole_long_lists_grouped.Holds := by
  w_on; o_law
  refine HandSHeadRun.head_any (r := OpenLaw.row PySem.Challenge.rw_forkgather_k46_whole_long_lists_grouped) (q := view (OpenLaw.row PySem.Challenge.rw_forkgather_k46_whole_long_lists_grouped).prog [20]) (H := Fg.hk) (ob := Fg.ob) (M := 4000) (loose := Fg.names) (d := HandSHeadRun.topDef (OpenLaw.row PySem.Challenge.rw_forkgather_k46_whole_long_lists_grouped).prog 20) (kwd := []) Fg.ob_eq
    (by kernel_rfl) (fun s => by kernel_rfl) Fg.run (by kernel_rfl) (by kernel_rfl) (by kernel_rfl) (by rfl) (by first | assumption | decide +kernel) (by decide +kernel) ⟨rfl, rfl, rfl, rfl, rfl, by decide +kernel⟩ ?hw ?hc
  case hw => w_witness2
  case hc =>
    refine LamX.walk_ofTsE (l := PySem.Challenge.rw_forkgather_k46_whole_long_lists_grouped) (n := 63) (k := 7) (x := "script") (CX := fun _ => L2.CX0) rfl (by decide) (by kernel_rfl) ⟨rfl, by decide, by decide⟩ ?F (fun _ _ _ _ _ z => z)
    intro w mg fa h Y G hmg0
    obtain ⟨K, KX, c⟩ := Y
    have hmg : mg ("law" : PySem.Str) = some (.ref fa) := by
      have e : (HandSHeadRun.topDef (OpenLaw.row PySem.Challenge.rw_forkgather_k46_whole_long_lists_grouped).prog 20).name = ("law" : PySem.Str) := by kernel_rfl
      rw [← e]
      exact hmg0
    obtain ⟨fd, hb, hF⟩ := facts (w := w) KX G hmg c
    refine ⟨K, KX, fd, tf.map (He.cT K), sp K, fun p hp => ?_, fun p hp => ?_, fun p hp => ?_, hb, fun H a ns hl _ hT hS => hsp K H a ns hl (hT (He.cT K ("_law_kind", none)) (List.mem_map_of_mem (by simp [tf]))) (hT (He.cT K ("law", none)) (List.mem_map_of_mem (by simp [tf]))) hS, fun base hK hN hT => hF base hK hN (hT (He.cT K ("_law_kind", none)) (List.mem_map_of_mem (by simp [tf]))) (hT (He.cT K ("law", none)) (List.mem_map_of_mem (by simp [tf])))⟩
    · obtain ⟨d, hd, rfl⟩ := List.mem_map.mp hp
      exact c.empty d hd
    · obtain ⟨d, hd, rfl⟩ := List.mem_map.mp hp
      exact c.out d hd
    · obtain ⟨d, hd, rfl⟩ := List.mem_map.mp hp
      exact PySem.W.codeHd_of_K KX (c.hd d hd)
end
end Fg
namespace LmX
open PySem PySem.Spec PyProof.Rows L2 LamX NdefX
/-- a lambda's words, the cells that it captured, its code object -/
structure LF where
  qual : Str
  params : Arguments
  body : Expr
  scope : Scope
  cl : List (Str × Addr)
  c : Addr
abbrev LF.fd (F : LF) (pm ctv : Value) : FuncData := PySem.W.kla_fn "<lambda>" F.qual F.params F.body F.scope F.cl pm (.ref F.c) ctv
/-- the object at f is the lambda F -/
def LmO (f : Addr) (F : LF) : HO := .ext fun h => ∃ (od : Option Addr) (sl : Array (Option Value)) (pm ctv : Value), h.get? f = some (⟨.type "function", od, .func (F.fd pm ctv), sl⟩ : Obj)
theorem lmO_at {P : Program} {w : World} {H : Hp} {h : Heap} {f : Addr} {F : LF} (hok : HOk P w H h) (e : H f = some (LmO f F)) : ∃ (od : Option Addr) (sl : Array (Option Value)) (pm ctv : Value), h.get? f = some (⟨.type "function", od, .func (F.fd pm ctv), sl⟩ : Obj) := by
  obtain ⟨z, _, _⟩ := hok f _ e
  exact z
section
variable {X : Cx} {pins : List (Addr × Obj)} {σ : L2.St} {H : Hp} {s : Shared}
theorem inv_lm {F : LF} {o : Obj} {t' : Nat} {pm ctv : Value} (I : Inv X pins σ H s) (ho : o = { cls := .type "function", data := .func (F.fd pm ctv) }) :
    Inv X pins σ (upd H s.heap.objs.size (LmO s.heap.objs.size F)) { s with heap := s.heap.push o, toks := t' } := by
  subst ho
  refine I.laid (a := s.heap.objs.size) (fun b u e => Heap.get?_push_of_some _ e) (Nat.le_refl _) ?_
  have e : (s.heap.push ({ cls := .type "function", data := .func (F.fd pm ctv) } : Obj)).get? s.heap.objs.size = some ({ cls := .type "function", data := .func (F.fd pm ctv) } : Obj) := Heap.get?_push_size _ rfl
  exact ⟨⟨_, _, pm, ctv, e⟩, ⟨_, e⟩, fun h1 h2 ⟨od, sl, p, t, z⟩ st => ⟨od, sl, p, t, st _ z⟩⟩
/-- the reading of a lambda made in a def whose table is at P -/
def tLam (P : Addr) (q : Str) (mk : Addr → LF) : TE := fun _ H Q => TabS H P q ∧ ∀ (f c' : Addr) (H1 : Hp), Fg.Chg [P] H H1 → TabS H1 P q → H f = none → H1 f = some (LmO f (mk c')) → H1 c' = some (CodeO c' q) → Q (.ref f) H1
theorem pe_lam {c P : Addr} {q : Str} {params : Arguments} {body : Expr} {scope : Scope} {pos : Pos} {mk : Addr → LF} (TB : TabB X.base X.mg c P) (hcode : X.env.code = .ref c) (hq : X.env.qual ++ "<lambda>" = q) (hdef : defaultsOf params X.env = ([], []))
    (hfree : ∀ y ∈ scope.names, y.2 = .free → X.env.scope.names.lookup y.1 = some .cell ∨ X.env.scope.names.lookup y.1 = some .free) (hmk : ∀ c', mk c' = ⟨q, params, body, scope, cloFrom X.env.cells scope.names [], c'⟩) : PE X (.Lambda params body scope pos) (tLam P q mk) := by
  refine ⟨fun pins s σ H Q I h => ?_⟩
  obtain ⟨hT, h⟩ := h
  subst hq
  have hfr : ∀ y ∈ scope.names, y.2 = .free → ∃ c, X.env.cells.lookup y.1 = some c := fun y hy e => (hfree y hy e).elim (fun z => I.ok.has _ (.inl z)) fun z => I.ok.has _ (.inr z)
  obtain ⟨ps, hP, ht, ha⟩ := id hT
  refine PySem.W.kla_eval hdef ?_
  have bP : s.heap.BuiltinsAt X.mg P := TB.bm.keeps I.bk
  have hP' : s.heap.get? P = some { cls := .none, data := .fields ps } := I.hok P _ hP
  have nt : ∀ {b : Addr} {xs : List V}, H b = some (.tup xs) → b ≠ P := fun e z => by rw [z, hP] at e; cases e
  cases hc : codeAmong pos ps.toList with
  | none =>
    refine PySem.W.kla_makeFunction (mg := X.mg) (c := c) (P := P) (ps := ps) (closure_ok hfr) I.ok.glob (I.mod.glob.keeps I.bk) hcode (TB.code.keeps I.bk) hP' ht hc TB.gP bP fun c' ctv h' tk hx hge hlt hrec htb => ?_
    obtain ⟨c2, oc, vs, t, e2, hoc, hd, hv⟩ := hrec
    cases e2
    have nC : H c' = none := I.hok.fresh hge
    have I1 := inv_table (t' := tk) (more := #[rawInt pos.line, rawInt pos.col, .ref c']) (h' := h') I hP (fun b o hb e => hx b o hb e) htb hge ⟨oc, vs, t, hoc, hd, hv⟩
    have nF := I1.hok.fresh (Nat.le_refl _)
    have hsz : s.heap.objs.size ≤ h'.objs.size := Nat.le_trans hge (Nat.le_of_lt hlt)
    have I2 := inv_lm (F := ⟨X.env.qual ++ "<lambda>", params, body, scope, cloFrom X.env.cells scope.names [], c'⟩) (t' := tk) (pm := (X.mg "__name__").getD .none) (ctv := ctv) I1 rfl
    have eL : (ps ++ #[rawInt pos.line, rawInt pos.col, .ref c']).toList = ps.toList ++ [rawInt pos.line, rawInt pos.col, .ref c'] := by simp
    have keep : ∀ b o, H b = some o → b ≠ P → upd (upd (upd H P (.tbl (ps ++ #[rawInt pos.line, rawInt pos.col, .ref c']))) c' (CodeO c' (X.env.qual ++ "<lambda>"))) h'.objs.size (LmO h'.objs.size ⟨X.env.qual ++ "<lambda>", params, body, scope, cloFrom X.env.cells scope.names [], c'⟩) b = some o := fun b o e n => by
      have e1 : upd (upd H P (.tbl (ps ++ #[rawInt pos.line, rawInt pos.col, .ref c']))) c' (CodeO c' (X.env.qual ++ "<lambda>")) b = some o := by
        rw [upd_ne (ne_of_none e nC), upd_ne n]
        exact e
      exact (upd_ne (ne_of_none e1 nF)).trans e1
    refine ⟨.ref h'.objs.size, _, I2, rfl, h h'.objs.size c' _ ⟨fun b o e n => keep b o e (by simpa using n), fun b e => upd_none (upd_none (upd_none e)), fun b xs e => keep b _ e (nt e)⟩ ?_ (I.hok.fresh hsz) (by rw [upd_same, hmk]) ?_⟩
    · have hPc : upd (upd H P (.tbl (ps ++ #[rawInt pos.line, rawInt pos.col, .ref c']))) c' (CodeO c' (X.env.qual ++ "<lambda>")) P = some (.tbl (ps ++ #[rawInt pos.line, rawInt pos.col, .ref c'])) := by rw [upd_ne (ne_of_none hP nC), upd_same]
      refine ⟨_, (upd_ne (ne_of_none hPc nF)).trans hPc, by rw [eL]; exact PySem.TriplesOk_snoc _ _ _ _ ht, fun p' cv hcv => ?_⟩
      rw [eL] at hcv
      rcases among_app _ ht hcv with z | z
      · obtain ⟨c0, e1, e2⟩ := ha p' cv z
        exact ⟨c0, e1, keep _ _ e2 (fun z => by rw [z, hP] at e2; exact codeO_ne _ (Option.some.inj e2).symm)⟩
      · exact ⟨c', z, (upd_ne (Nat.ne_of_lt hlt)).trans upd_same⟩
    · exact (upd_ne (Nat.ne_of_lt hlt)).trans upd_same
  | some cv =>
    obtain ⟨c', e, hco⟩ := ha pos cv hc
    subst e
    refine PySem.W.kla_makeFunctionHit (mg := X.mg) (c := c) (P := P) (ps := ps) (closure_ok hfr) I.ok.glob (I.mod.glob.keeps I.bk) hcode (TB.code.keeps I.bk) hP' ht hc bP fun ctv h' tk hx hsz => ?_
    have I1 : Inv X pins σ H { s with heap := h', toks := tk } := I.kept hx
    have nF : H h'.objs.size = none := I1.hok.fresh (Nat.le_refl _)
    have I2 := inv_lm (F := ⟨X.env.qual ++ "<lambda>", params, body, scope, cloFrom X.env.cells scope.names [], c'⟩) (t' := tk) (pm := (X.mg "__name__").getD .none) (ctv := ctv) I1 rfl
    have ext : ∀ b o, H b = some o → upd H h'.objs.size (LmO h'.objs.size ⟨X.env.qual ++ "<lambda>", params, body, scope, cloFrom X.env.cells scope.names [], c'⟩) b = some o := fun b o e => (upd_ne (ne_of_none e nF)).trans e
    exact ⟨.ref h'.objs.size, _, I2, rfl, h h'.objs.size c' _ ⟨fun b o e _ => ext b o e, fun b e => upd_none e, fun b xs e => ext b _ e⟩ (hT.ext ext) nF (by rw [upd_same, hmk]) (ext _ _ hco)⟩
end
/-- CV f vs H Q: f may be called with vs, and tells what Q says -/
structure CvOk (P : Program) (w : World) (K : PySem.W.Frag) (mg : Str → Option Value) (base : Heap) (k : Nat) (CV : Addr → List V → Hp → VK → Prop) : Prop where
  at_ : ∀ {f : Addr} {vs : List V} {H : Hp} {Q : VK} {h : Heap}, HOk P w H h → K.In h → CV f vs H Q → PySem.W.FnAt f h
  run : ∀ (A : Around) (outer : List Env) (s : Shared) (H : Hp) (f : Addr) (us : List Value) (vs : List V) (Q : VK), Room k A → Env0 P w K mg base A outer s H → Vals vs us → CV f vs H Q → codeAny (model P w) A (.call (.ref f) ⟨us, []⟩) (CR L2.CX0 outer P w H s Q L2.E0) s
def tCallV (CV : Addr → List V → Hp → VK → Prop) (i : Nat) (t : TA) : TE := fun σ H Q => ∃ f, σ[i]? = some (some (.ref f)) ∧ t σ H fun vs H1 => CV f vs H1 Q
section
variable {X : Cx} {CV : Addr → List V → Hp → VK → Prop} {i j k : Nat} {x : Str} {t : TA} {e : Expr} {es : List Expr} {p pos : Pos}
theorem callWith_V {M : Model} {A : Around} {Q : Value → Shared → Prop} {E : Value → Shared → Prop} {s : Shared} {f : Addr} {env : Env} {rest : List Expr} (h : wpAny M A (spliced (backTo pos (starEach (e :: rest) env))) (fun vs s₁ => PySem.W.FnAt f s₁.heap ∧ wpAny M A (call (.ref f) vs) Q E s₁) E s)
    (he : starEach (e :: rest) env = (false, eval e env) :: starEach rest env) (hplain : (backTo pos (starEach rest env)).any (·.1) = false) :
    wpAny M A (callWith pos (.ref f) [] (backTo pos (starEach (e :: rest) env)) []) Q E s := by
  rw [he] at h ⊢
  exact PySem.W.callWith_of (by show ((false || (backTo pos (starEach rest env)).any (·.1)) || false) = false; rw [hplain]; rfl) PySem.W.keeps_F (PySem.Calls.evalArgs_plain h)
theorem run_v {pins : List (Addr × Obj)} {σ : L2.St} {H : Hp} {s : Shared} {Q : VK} {f : Addr} {us : List Value} {vs : List V} (c : CvOk X.prog X.w X.K X.mg X.base k CV) (hr : Room j X.A) (hk : k ≤ j) (I : Inv X pins σ H s) (r : Vals vs us) (q : CV f vs H Q) :
    wpAny (model X.prog X.w) X.A (call (.ref f) us) (EP X pins σ Q) X.xe s := by
  refine wpAny_call (codeAny_mono (c.run X.A X.stack s H f us vs Q (hr.mono hk) I.env0 r q) fun r s' hq => ?_)
  cases r with
  | error e => exact (L2.pass0 (X := X) pins σ H s e s' I hq)
  | ok fl =>
    cases fl with
    | ret u => exact I.after hq
    | next => exact False.elim hq
    | brk => exact False.elim hq
    | cont => exact False.elim hq
theorem pe_callv (c : CvOk X.prog X.w X.K X.mg X.base k CV) (hr : Room j X.A) (hk : k ≤ j) (hN : X.N[i]? = some x) (hv : Vis X.env.scope x) (ha : PA X (e :: es) t)
    (hd : (x == ("__debug__" : Str)) = false := by decide) (hcd : (x == ("__classdict__" : Str)) = false := by decide)
    (he : starEach (e :: es) X.env = (false, eval e X.env) :: starEach es X.env := by rfl) (hpl : (backTo pos (starEach es X.env)).any (·.1) = false := by rfl) :
    PE X (.Call (.Name x p) (e :: es) [] pos) (tCallV CV i t) := by
  refine ⟨fun pins s σ H Q I h => ?_⟩
  obtain ⟨f, hs, ht⟩ := h
  refine wpAny_Call_Name_kw (thn ((pe_var (pos := p) hN hv hd hcd).run pins s σ H (fun v H1 => v = .ref f ∧ H1 = H) I ⟨.ref f, hs, rfl, rfl⟩) fun u s1 ⟨v, H1, I1, r1, q1⟩ => ?_)
  obtain ⟨ev, eH⟩ := q1
  subst ev
  rw [eH] at I1
  obtain rfl : u = Value.ref f := r1
  refine callWith_V (f := f) (thn (ha.run pos pins s1 σ H _ I1 ht) fun us s2 ⟨vs, H2, I2, r, q⟩ => ⟨c.at_ I2.hok I2.kIn q, ?_⟩) he hpl
  exact run_v c hr hk I2 r q
end
end LmX
namespace LmX
open PySem PySem.Spec PyProof.Rows L2 LamX NdefX
/-- a lambda that captures nothing, as a nested def with the same frame -/
abbrev nfOf (q : Str) (params : Arguments) (scope : Scope) (c : Addr) : NF := ⟨"<lambda>", q, params, [], scope, [], c⟩
structure LmOk (P : Program) (w : World) (K : PySem.W.Frag) (mg : Str → Option Value) (base : Heap) (k : Nat) (mk : Addr → LF) (sp : Sp) : Prop where
  run : ∀ (f c' : Addr) (A : Around) (outer : List Env) (s : Shared) (H : Hp) (us : List Value) (vs : List V) (Q : VK), Room k A → Env0 P w K mg base A outer s H → H f = some (LmO f (mk c')) → H c' = some (CodeO c' (mk c').qual) →
    Vals vs us → sp vs H Q L2.E0 → codeAny (model P w) A (.call (.ref f) ⟨us, []⟩) (CR L2.CX0 outer P w H s Q L2.E0) s
section
variable {P : Program} {w : World} {K : PySem.W.Frag} {mg : Str → Option Value} {base : Heap} {k j : Nat} {mk : Addr → LF} {sp : Sp}
theorem LmOk.mono (o : LmOk P w K mg base j mk sp) (h : j ≤ k) : LmOk P w K mg base k mk sp := ⟨fun f c' A outer s H us vs Q hr => o.run f c' A outer s H us vs Q (hr.mono h)⟩
theorem cells_nil {s : Shared} {H : Hp} : CellsAt [] [] [] s.heap H := ⟨rfl, (fun y c e => by cases e), (fun x y c e => by cases e), (fun i y e => by cases e)⟩
/-- THE RULE: a lambda by its body -/
theorem lmok_of {N ps : List Str} {q : Str} {params : Arguments} {body : Expr} {scope : Scope} (hmk : ∀ c', mk c' = ⟨q, params, body, scope, [], c'⟩) (S : NScope N ps [] scope)
    (hb : ∀ (pm cdv ctv : Value) (us : List Value), us.length = ps.length → bindArgs (PySem.W.kla_fn "<lambda>" q params body scope [] pm cdv ctv) ⟨us, []⟩ = pure (ps.zip us)) (len : ∀ vs H Q E, sp vs H Q E → vs.length = ps.length) (t : TE)
    (pure : ∀ (vs : List V) (H : Hp) (Q : VK), sp vs H Q L2.E0 → t (startF N vs []) H Q)
    (hbody : ∀ (f c' : Addr) (A : Around) (outer : List Env) (s : Shared) (H : Hp), Room k (A.deeper (envF (nfOf q params scope c') f s.heap.objs.size)) → PE (ncx L2.CX0 P w K mg base N (nfOf q params scope c') f A outer s H L2.E0).nox body t) : LmOk P w K mg base (k + 1) mk sp := by
  refine ⟨fun f c' A outer s H us vs Q hr e0 hf hc r hsp => ?_⟩
  have hl := len _ _ _ _ hsp
  have lim : s.heap.NoLimit := e0.mod.nolimit.keeps fun b o e => (e0.bs b o e).1
  rw [hmk c'] at hf hc
  obtain ⟨od, sl, pm, ctv, ho⟩ := lmO_at e0.hok hf
  refine PySem.W.kla_callFunE hr.depth ho rfl S.co S.gen rfl (codeO_at e0.hok hc) ?_
  rw [hb pm (.ref c') ctv us (by rw [← r.length]; exact hl)]
  refine wpAny_pure (wpAny_newFunctionEnv S.nocell (fun ⟨n, _⟩ hy => S.par n (List.of_mem_zip hy).1) (fun h₁ hns hsb => ⟨lim.fresh _ hsb, ?_⟩) S.kind)
  show codeAny _ _ (.expr body (envF (nfOf q params scope c') f s.heap.objs.size)) _ _
  have kp : ∀ b o, s.heap.get? b = some o → h₁.get? b = some o := fun b o e => hsb.extBut b o (Nat.ne_of_lt (Heap.lt_size e)) (Heap.get?_push_of_some _ e)
  have I : Inv (ncx L2.CX0 P w K mg base N (nfOf q params scope c') f A outer s H L2.E0) [] (startF N vs []) H { s with heap := h₁, toks := s.toks + (ps.zip us).length } := inv_startN S hr.hd e0 hl r cells_nil hns kp
  refine PySem.W.kla_codeExpr (wpAny_mono ((PE.nox (hbody f c' A outer s H (hr.deeper _))).run [] _ _ H Q I (pure vs H Q hsp)) (fun v s' hq => ?_) fun e s' hq => hq)
  obtain ⟨w', H', J, rv, q'⟩ := hq
  exact ⟨w', H', J.os, J.bare, J.base, J.hok, rv, q'⟩
end
def CVk (L : Nat → Addr → LF) (n : Nat) (lsp : Nat → Sp) (SF : List (Addr × Sp)) (f : Addr) (vs : List V) (H : Hp) (Q : VK) : Prop :=
  (∃ (j : Nat) (c' : Addr), j < n ∧ H f = some (LmO f (L j c')) ∧ H c' = some (CodeO c' (L j c').qual) ∧ lsp j vs H Q L2.E0) ∨ ∃ p ∈ SF, f = p.1 ∧ p.2 vs H Q L2.E0
section
variable {P : Program} {w : World} {K : PySem.W.Frag} {mg : Str → Option Value} {base : Heap} {k : Nat}
theorem cvok_of {L : Nat → Addr → LF} {n : Nat} {lsp : Nat → Sp} {SF : List (Addr × Sp)} (hL : ∀ j, j < n → LmOk P w K mg base k (L j) (lsp j))
    (hS : ∀ p ∈ SF, ∃ (fd : FuncData) (ps : List Str), FnOk P w K mg base L2.CX0 k p.1 fd ps p.2 ∧ Binds K fd ps [] ∧ ∃ oc od osl, K.lookup p.1 = some ⟨oc, od, .func fd, osl⟩) : CvOk P w K mg base k (CVk L n lsp SF) := by
  refine ⟨fun {f vs H Q h} hok hK q => ?_, fun A outer s H f us vs Q hr e0 r q => ?_⟩
  · rcases q with ⟨j, c', hj, hf, _, _⟩ | ⟨p, hp, rfl, _⟩
    · obtain ⟨od, sl, pm, ctv, ho⟩ := lmO_at hok hf
      exact ⟨_, od, _, sl, ho⟩
    · obtain ⟨fd, ps, _, _, oc, od, osl, lk⟩ := hS p hp
      exact ⟨oc, od, fd, osl, hK _ _ lk⟩
  · rcases q with ⟨j, c', hj, hf, hc, hsp⟩ | ⟨p, hp, rfl, hsp⟩
    · exact (hL j hj).run f c' A outer s H us vs Q hr e0 hf hc r hsp
    · obtain ⟨fd, ps, F, hb, _⟩ := hS p hp
      have KX : K.In s.heap := e0.mod.kin.keeps fun b o e => (e0.bs b o e).1
      have hl := F.len _ _ _ _ hsp
      have hB := hb s us KX (by rw [List.append_nil]; rw [← r.length]; exact hl)
      rw [List.append_nil] at hB
      exact F.run A outer s H ⟨us, []⟩ us vs Q L2.E0 hr e0 hB r hsp
end
end LmX
namespace LmX
open PySem PySem.Spec PyProof.Rows L2 LamX NdefX
/-- a def's table of code objects -/
def tabP (K : PySem.W.Frag) (x : Str) : Addr := (He.cT K (x, none)).2
def codP (K : PySem.W.Frag) (x : Str) : Addr := (He.cT K (x, none)).1
abbrev tJoin (ts : List TE) : TE := fun σ H Q => tJs ts Str.empty σ H fun out H1 => Q (.str out) H1
section
variable {P : Program} {w : World} {K : PySem.W.Frag} {mg : Str → Option Value} {base : Heap} {x : Str} {st : Stmt} {fd : FuncData} {sp : Sp} {k : Nat}
/-- a def that makes lambdas: its code object is known -/
theorem goT {N ps : List Str} {dvs : List V} (F : Fg.FnP K x st dvs (He.ga K x) fd) (S : FnScope N ps (L2.defScope st)) (len : ∀ vs H Q E, sp vs H Q E → vs.length = ps.length) (t : TS)
    (pure : ∀ (vs : List V) (H : Hp) (Q : VK) (E : XK), sp vs H Q E → t { nx := fun _ H' => Q .non H', rt := Q } (start N vs) H)
    (hbody : ∀ (A : Around) (outer : List Env) (s : Shared) (H : Hp) (E : XK), Room k (A.deeper (envOfC x (L2.defScope st) s.heap.objs.size (He.ga K x) (.ref (codP K x)))) →
      PSs (cxOf L2.CX0 P w K mg base N x (L2.defScope st) (He.ga K x) (.ref (codP K x)) A outer s H E).nox (L2.defBody st) t) : FnOk P w K mg base L2.CX0 (k + 1) (He.ga K x) fd ps sp := by
  obtain ⟨oc, od, dV, kV, doc, pm, an, cdv, ct, osl, rfl, lk, hcd, _, _⟩ := F.ex
  obtain ⟨c, rfl⟩ := He.codeIn_ref hcd
  have ec : codP K x = c := He.codeOf_eq (p := (x, none)) lk rfl
  refine fn_of lk hcd S len fun A outer s H vs Q E hr hsp => ⟨t, PSs.nox ?_, pure vs H Q E hsp⟩
  have := hbody A outer s H E
  rw [ec] at this
  exact this hr
end
end LmX
namespace Fg
open PySem PySem.Spec PyProof.Rows L2
section
theorem cut_from (xs : List V) (k : Nat) : cutV xs (some (k : Nat)) none = xs.drop k := by
  unfold cutV
  rw [HT.sIx_nat, HT.sIx_none]
  rw [List.take_of_length_le (by rw [List.length_drop]; omega)]
  rcases Nat.le_total k xs.length with h | h
  · rw [Nat.min_eq_left h]
  · rw [Nat.min_eq_right h, List.drop_eq_nil_of_le (Nat.le_refl _), List.drop_eq_nil_of_le h]
theorem w_catA {K : PySem.W.Frag} {p q : Addr} {xs ys : List V} {H : Hp} {Q : VK} (h1 : H p = some (.tup xs)) (h2 : H q = some (.tup ys)) (hz : xs.length + ys.length ≤ 100000) (k : ∀ p' H2, Chg [] H H2 → H2 p' = some (.tup (xs ++ ys)) → Q (.ref p') H2) : rCatA K (.ref p) (.ref q) H Q := by
  refine ⟨p, q, xs, ys, rfl, rfl, sqT h1, sqT h2, Nat.le_trans hz (by decide), fun e => ?_, fun _ e => ?_, fun _ _ => d_new fun p' H2 _ c h => k p' H2 c h⟩
  · subst e
    exact k q H .refl h2
  · subst e
    exact k p H .refl (by rw [List.append_nil]; exact h1)
theorem w_cat {l b : Addr} {xs zs : List V} {H : Hp} {Q : VK} (h1 : H l = some (.lst xs)) (h2 : H b = some (.lst zs)) (hz : xs.length + zs.length ≤ 100000) (q : ∀ p H2, H p = none → Chg [] H H2 → H2 p = some (.lst (xs ++ zs)) → Q (.ref p) H2) : rCat (.ref l) (.ref b) H Q :=
  ⟨l, b, xs, zs, rfl, rfl, h1, h2, Nat.le_trans hz (by decide), fun p np => q p _ np (.new np) upd_same⟩
end
section
theorem cpow {i j : Int} (m : Nat) (h : i.natAbs < 2 ^ m) (h0 : 0 ≤ j) (h1 : (m : Int) * j ≤ 2 ^ 27) : CPowW i j := by
  refine ⟨h0, ?_⟩
  have b := PySem.intBits_le_iff.mpr h
  have : (Builtin.Int.intBits i : Int) * j ≤ (m : Int) * j := Int.mul_le_mul_of_nonneg_right (by omega) h0
  omega
theorem cmulL {i j : Int} (h : -(2 ^ 64) < i) (h' : i < 2 ^ 64) : CMul i j := .inl ⟨h, h'⟩
theorem cdivS {i j : Int} (h : 0 < j) (h' : j < 10 ^ 30) : CDivW i j := wide_div (b := 100) h (by omega) (by decide) (by decide)
end
local macro_rules | `(tactic| walk_at "hp") => `(tactic| first
  | assumption
  | exact upd_same
  | (refine Chg.at (by assumption) ?_; walk_at "hp")
  | (refine Chg.at1 (by assumption) ?_ (by walk_at "ne"); walk_at "hp"))
local macro_rules | `(tactic| walk_at "ne") => `(tactic| first | assumption | (apply Ne.symm; assumption))
local macro_rules | `(tactic| walk_at "sq") => `(tactic| first | assumption | exact sqL (by walk_at "hp") | (refine Chg.seq (by assumption) ?_; walk_at "sq"))
local macro_rules | `(tactic| walk_at "sz") => `(tactic| first | assumption | exact Nat.zero_le _ | (simp only [List.length_cons, List.length_nil]; decide) | exact Nat.le_trans (by first | omega | (simp; done) | (simp; omega)) (show 100000 ≤ sizeLine by decide) | exact Nat.lt_of_lt_of_le (by first | omega | (simp; done) | (simp; omega)) (show 100000 ≤ sizeLine by decide))
local macro_rules | `(tactic| walk_at "ix") => `(tactic| first | exact at0 | exact at1 | exact at2 | exact at3 | assumption | exact rfl | walk_at "ix2")
local macro_rules | `(tactic| walk_at "ix2") => `(tactic| fail)
local macro_rules | `(tactic| walk_at "num") => `(tactic| first | assumption | omega | decide | walk_at "num2")
local macro_rules | `(tactic| walk_at "num2") => `(tactic| fail)
local macro_rules | `(tactic| walk_at "im") => `(tactic| first | assumption | exact R.non (S := fun _ => False) | exact R.bl (S := fun _ => False) _ | exact R.int (S := fun _ => False) _ | exact R.str (S := fun _ => False) _ | (refine R.im (by assumption) ?_; walk_at "im"))
local macro_rules | `(tactic| walk_at "r") => `(tactic| first | assumption | exact R.non (S := fun _ => False) | exact R.bl (S := fun _ => False) _ | exact R.int (S := fun _ => False) _ | exact R.str (S := fun _ => False) _ | (refine R.same (by assumption) ?_; walk_at "r") | exact R.any (by walk_at "im"))
local macro_rules | `(tactic| walk_at "chg") => `(tactic| first
  | exact Chg.refl
  | assumption
  | (refine Chg.same ?_ (by assumption); walk_at "chg")
  | (refine Chg.both ?_ (by assumption); walk_at "chg")
  | (refine Chg.pre (by assumption) ?_; walk_at "chg"))
local macro_rules | `(tactic| walk_at "w1") => `(tactic| first
  | with_reducible apply w_seq
  | with_reducible apply w_asg
  | ((with_reducible apply w_var); (focus (exact rfl)))
  | with_reducible apply w_c
  | with_reducible apply w_op
  | with_reducible apply w_cons
  | with_reducible apply w_nil
  | with_reducible apply w_gName
  | with_reducible apply w_if
  | with_reducible apply w_test
  | with_reducible apply w_B
  | with_reducible apply w_isbl
  | with_reducible apply w_retN
  | with_reducible apply w_next
  | with_reducible apply w_drop
  | with_reducible apply w_cb
  | with_reducible apply w_call
  | with_reducible apply w_callN
  | with_reducible apply w_bm
  | with_reducible apply w_bm0
  | ((with_reducible apply w_tyL); (focus (walk_at "hp"; done)))
  | with_reducible apply w_dput
  | with_reducible apply w_m1
  | with_reducible apply w_isstr
  | with_reducible apply w_and
  | with_reducible apply w_or
  | with_reducible apply w_not
  | with_reducible apply w_andV
  | with_reducible apply w_orV
  | with_reducible apply w_notV
  | with_reducible apply w_ifE
  | with_reducible apply w_chain
  | with_reducible apply w_un
  | with_reducible apply w_neg
  | with_reducible apply w_add
  | with_reducible apply w_sub
  | ((with_reducible apply w_mod); (focus (walk_at "num"; done)))
  | ((with_reducible apply w_mul); (focus (walk_at "num"; done)))
  | ((with_reducible apply w_fdiv); (focus (walk_at "num"; done)))
  | ((with_reducible apply w_pow); (focus (walk_at "num"; done)))
  | with_reducible apply w_lt
  | with_reducible apply w_le
  | with_reducible apply w_gt
  | with_reducible apply w_ge
  | with_reducible apply w_ltS
  | with_reducible apply w_geS
  | with_reducible apply w_inC
  | with_reducible apply w_notInC
  | with_reducible apply w_isN
  | with_reducible apply w_notN
  | with_reducible apply w_isB
  | with_reducible apply w_notB
  | ((with_reducible apply w_addS); (focus (walk_at "sz"; done)))
  | ((with_reducible apply w_ixL); (focus (walk_at "sq"; done)); (focus (walk_at "ix"; done)))
  | ((with_reducible apply w_ixT); (focus (walk_at "hp"; done)); (focus (walk_at "ix"; done)))
  | ((with_reducible apply w_ixS); (focus (walk_at "sz"; done)); (focus (walk_at "ix"; done)))
  | with_reducible apply w_gSub
  | ((with_reducible apply w_gTup); (focus (walk_at "hp"; done)); (focus (exact rfl)))
  | with_reducible apply w_gCons
  | with_reducible apply w_gNil
  | ((with_reducible apply w_aug); (focus (exact rfl)))
  | with_reducible apply w_ipI
  | ((with_reducible apply w_eq); (focus (exact rfl)))
  | ((with_reducible apply w_ne); (focus (exact rfl)))
  | with_reducible apply w_max
  | with_reducible apply w_min
  | with_reducible apply w_abs
  | with_reducible apply w_intB
  | with_reducible apply w_intI
  | with_reducible apply w_tup1
  | with_reducible apply w_lst1
  | with_reducible apply w_sl
  | with_reducible apply w_part
  | with_reducible apply w_noPart
  | with_reducible apply w_isint
  | ((with_reducible apply w_slS); (focus (walk_at "sz"; done)))
  | with_reducible apply w_iteT
  | with_reducible apply w_iteF
  | with_reducible apply w_iteN
  | ((with_reducible apply w_iteYes); (focus (exact rfl)))
  | ((with_reducible apply w_iteNo); (focus (exact rfl)))
  | ((with_reducible apply w_lenL); (focus (walk_at "sq"; done)))
  | ((with_reducible apply w_lenT); (focus (walk_at "hp"; done)))
  | ((with_reducible apply w_lenS); (focus (walk_at "sz"; done)))
  | with_reducible apply w_lc
  | with_reducible apply w_for
  | with_reducible apply w_yes
  | ((with_reducible apply w_wipe); (focus (exact rfl)))
  | with_reducible apply w_iList
  | with_reducible apply w_iTup
  | with_reducible apply w_iStr
  | with_reducible apply w_iRng1
  | with_reducible apply w_iRng2
  | with_reducible apply w_iZip
  | with_reducible apply w_iEnum
  | ((with_reducible apply d_iList); (focus (walk_at "sq"; done)))
  | ((with_reducible apply d_iTup); (focus (walk_at "hp"; done)))
  | with_reducible apply d_iStr
  | ((with_reducible apply d_iRng1); (focus (walk_at "num"; done)); (focus (walk_at "num"; done)))
  | ((with_reducible apply d_iRng2); (focus (walk_at "num"; done)); (focus (walk_at "num"; done)); (focus (walk_at "num"; done)); (focus (walk_at "num"; done)))
  | ((with_reducible apply d_iZip); (focus (walk_at "sq"; done)); (focus (walk_at "sq"; done)))
  | ((with_reducible apply d_iEnum); (focus (walk_at "sq"; done)))
  | walk_at "w2")
local macro_rules | `(tactic| walk_at "w2") => `(tactic| fail)
local macro_rules | `(tactic| walk_at "wn") => `(tactic| repeat walk_at "w1")
local macro_rules | `(tactic| walk_at "w") => `(tactic| repeat (first | walk_at "w1" | with_reducible apply w_ret))
local macro_rules | `(tactic| walk_at "w2") => `(tactic| first
  | ((with_reducible apply w_isInt); (focus (walk_at "r"; done)))
  | ((with_reducible apply w_isBool); (focus (walk_at "r"; done)))
  | ((with_reducible apply w_isStr); (focus (walk_at "r"; done)))
  | ((with_reducible apply w_isTup); (focus (walk_at "r"; done)))
  | ((with_reducible apply w_isLst); (focus (walk_at "r"; done)))
  | ((with_reducible apply w_notInP); (focus (assumption)))
  | ((with_reducible apply w_ixP); (focus (assumption)); (focus (assumption))))
section
abbrev fin (Q : VK) : Ends := { nx := fun _ H' => Q .non H', rt := Q }
end
section
inductive Ex where
  | num (i : Int)
  | arg
  | cell (a : Ex)
  | add (a b : Ex)
  | less (a b : Ex)
  | least (a b : Ex)
def Ex.data : Ex → PyData
  | .num i => .int i
  | .arg => .tuple [.str "arg"]
  | .cell a => .tuple [.str "cell", a.data]
  | .add a b => .tuple [.str "add", a.data, b.data]
  | .less a b => .tuple [.str "less", a.data, b.data]
  | .least a b => .tuple [.str "least", a.data, b.data]
def Ex.deep : Ex → Nat
  | .num _ => 1
  | .arg => 1
  | .cell a => a.deep + 1
  | .add a b => max a.deep b.deep + 1
  | .less a b => max a.deep b.deep + 1
  | .least a b => max a.deep b.deep + 1
inductive Stp where
  | cell (a b : Ex)
  | give (x : Str) (a : Ex)
  | fork (x : Str) (a : Ex)
  | call (x : Str) (a : Ex)
  | wait
  | skip (a : Ex) (k : Int)
def Stp.data : Stp → PyData
  | .cell a b => .tuple [.str "cell", a.data, b.data]
  | .give x a => .tuple [.str "give", .str x, a.data]
  | .fork x a => .tuple [.str "fork", .str x, a.data]
  | .call x a => .tuple [.str "call", .str x, a.data]
  | .wait => .tuple [.str "wait"]
  | .skip a k => .tuple [.str "skip", a.data, .int k]
/-- a right step, by the helpers' names and how many there are behind it -/
def Stp.ok (ns : List Str) (bh : Int) : Stp → Prop
  | .cell a b => a.deep ≤ 5 ∧ b.deep ≤ 5
  | .give x a => nameS x = true ∧ a.deep ≤ 5
  | .fork x a => nameS x = true ∧ x ∈ ns ∧ a.deep ≤ 5
  | .call x a => nameS x = true ∧ x ∈ ns ∧ a.deep ≤ 5
  | .wait => True
  | .skip a k => a.deep ≤ 5 ∧ 1 ≤ k ∧ k ≤ bh
theorem noDics_of : ∀ {ds : List PyData}, (∀ d ∈ ds, noDic d = true) → noDics ds = true
  | [], _ => rfl
  | d :: ds, h => by
    show (noDic d && noDics ds) = true
    rw [h d (by simp), noDics_of fun e he => h e (List.mem_cons_of_mem _ he)]
    rfl
end
section
theorem len_append (x y : Str) : (x ++ y).length = x.length + y.length := Array.size_append
theorem len_cut (x : Str) (lo hi : Option Int) : (cutS x lo hi).length = min (HT.sIx x.length x.length hi - HT.sIx x.length 0 lo) (x.length - HT.sIx x.length 0 lo) := by
  unfold cutS
  show ((x.cps.toList.drop _).take _).toArray.size = _
  rw [List.size_toArray, List.length_take, List.length_drop]
  rfl
theorem cutS_le (x : Str) (lo hi : Option Int) : (cutS x lo hi).length ≤ x.length := by
  rw [len_cut]
  omega
end
section
theorem alike_ints (ns : List Int) : PySem.W.AlikeAll (ns.map PyData.int) := by
  refine ⟨fun x hx y hy => ?_, fun x hx => ?_⟩
  · obtain ⟨i, _, rfl⟩ := List.mem_map.mp hx
    obtain ⟨j, _, rfl⟩ := List.mem_map.mp hy
    rfl
  · obtain ⟨i, _, rfl⟩ := List.mem_map.mp hx
    exact fun z => nomatch z
theorem depth_ints : ∀ ns : List Int, PyData.depthAll (ns.map PyData.int) ≤ 0
  | [] => Nat.le_refl _
  | n :: r => by
    have := depth_ints r
    show max (PyData.depth (.int n)) (PyData.depthAll (r.map PyData.int)) ≤ 0
    have h : PyData.depth (.int n) = 0 := rfl
    omega
end
section
inductive NumB : Value → Int → Prop
  | int (n t) : NumB (.int n t) n
  | bool (b : Bool) : NumB (.bool b) (if b = true then 1 else 0)
theorem gives_gt_bi (a : Bool) (b : Int) (u : Tok) : Gives (Builtin.«int.__gt__» ⟨[.bool a, .int b u], []⟩) (.val (Value.bool (decide ((if a = true then (1 : Int) else 0) > b)))) :=
  .of_wp fun M A E s Q h => by obtain ⟨hp, g, d, tk, os⟩ := s; wp_walk; exact ⟨_, rfl, h⟩
theorem gives_lt_bi (a : Bool) (b : Int) (u : Tok) : Gives (Builtin.«int.__lt__» ⟨[.bool a, .int b u], []⟩) (.val (Value.bool (decide ((if a = true then (1 : Int) else 0) < b)))) :=
  .of_wp fun M A E s Q h => by obtain ⟨hp, g, d, tk, os⟩ := s; wp_walk; exact ⟨_, rfl, h⟩
section
variable {prog : Program} {w : World} {A : Around} {E : Value → Shared → Prop} {s : Shared} {Q : Value → Shared → Prop} {a b : Value} {i j : Int}
theorem rc_gtB (ha : NumB a i) (hb : NumB b j) (h : Q (.bool (decide (i > j))) s) : wpAny (model prog w) A (richCompare .Gt a b) Q E s := by
  cases ha with
  | int i t =>
    cases hb with
    | int j u => exact richCompare_gives (op := .Gt) (typeIs_int s _ _) (typeIs_int s _ _) F.slot_int_gt F.entry_int_gt (F.args_int_gt_2 _ _) (gives_int_gt _ _ _ _) (fun x => nomatch x) h
    | bool b => exact SeqAt.rc_sub_first_or (op := .Gt) (typeIs_int s i t) rfl (by decide) F.sub_bool_int F.slot_bool_lt_refl (call_gives F.slot_bool_lt_refl rfl F.entry_int_lt (F.args_int_lt_2 _ _) (gives_lt_bi b i t) ⟨nofun, h⟩) (.inl rfl)
  | bool a =>
    cases hb with
    | int j u => exact SeqAt.rc_left_or (op := .Gt) rfl (typeIs_int s j u) (by decide) F.sub_int_bool F.slot_bool_gt (call_gives F.slot_bool_gt rfl F.entry_int_gt (F.args_int_gt_2 _ _) (gives_gt_bi a j u) ⟨nofun, h⟩) (.inl rfl)
    | bool b => exact gt_bool h
theorem cmp_gtB {prog : Program} {w : World} {A : Around} {a b : Value} {i j : Int} (ha : NumB a i) (hb : NumB b j) :
    CmpOf prog w A .Gt (fun k v => (#[a, b] : Array Value)[k]? = some v) (fun x y => decide ((if x = 0 then i else j) > (if y = 0 then i else j))) := fun x y vx vy s Q E hx hy h => by
  have num : ∀ (k : Nat) (v : Value), (#[a, b] : Array Value)[k]? = some v → NumB v (if k = 0 then i else j) := fun k v hk => by
    rcases k with _ | _ | k
    · simp at hk; subst hk; exact ha
    · simp at hk; subst hk; exact hb
    · simp at hk
  exact rc_gtB (num _ _ hx) (num _ _ hy) h
theorem max_two_B {prog : Program} {w : World} {A : Around} {E : Value → Shared → Prop} {s : Shared} {Q : Value → Shared → Prop} {a b : Value} {i j : Int} (hh : A.handled = none) (ha : NumB a i) (hb : NumB b j)
    (h : ∀ h' tk, (∀ c o, s.heap.get? c = some o → h'.get? c = some o) → Q (if j > i then b else a) { s with heap := h', toks := tk }) :
    wpAny (model prog w) A (call (.builtin "max") [a, b]) Q E s := by
  have hT : (s.heap.push { cls := .type "tuple", data := .seq #[a, b] }).IsTuple s.heap.objs.size #[a, b] := ⟨_, Heap.get?_push_size _ rfl, rfl, 0, rfl⟩
  refine call_max_two (wpAny_pyIter_tuple hT ?_)
  have hsz : (s.heap.push { cls := .type "tuple", data := .seq #[a, b] }).objs.size = s.heap.objs.size + 1 := Heap.size_push ..
  refine ⟨_, [_, s.heap.objs.size], [_], _, _, _, _, rfl, Walks.tuple (A := A.in1) hh _ s.heap.objs.size (by rw [hsz]; exact Nat.ne_of_lt (Nat.lt_succ_self _)) #[a, b],
    ⟨⟨_, Heap.get?_push_size _ rfl, rfl, rfl⟩, hT.push _⟩, fun c hc => ?_, by simp, cmp_gtB ha hb, fun v h' tk hP hk => ?_⟩
  · show c < ((s.heap.push _).push _).objs.size
    rw [Heap.size_push, hsz]
    rcases List.mem_cons.mp hc with rfl | hc
    · rw [hsz]; exact Nat.lt_succ_self _
    · rcases List.mem_cons.mp hc with rfl | hc
      · exact Nat.lt_succ_of_lt (Nat.lt_succ_self _)
      · cases hc
  · have hold : ∀ c o, s.heap.get? c = some o → h'.get? c = some o := fun c o e => by
      refine hk c o (fun hm => ?_) (Heap.get?_push_of_some _ (Heap.get?_push_of_some _ e))
      rcases List.mem_cons.mp hm with e1 | hm
      · have := Heap.lt_size e; rw [e1, hsz] at this; exact Nat.lt_irrefl _ (Nat.lt_of_succ_lt this)
      · cases hm
    have := h h' tk hold
    have hv : v = if j > i then b else a := by
      by_cases hc : j > i <;> simp [argBest, hc] at hP <;> simp [hP, hc]
    rw [hv]; exact this
end
/-- a number or a truth value, as a number -/
def niOf : V → Option Int
  | .int i => some i
  | .bl b => some (if b = true then 1 else 0)
  | _ => none
theorem numB_of {x : V} {v : Value} {i : Int} (r : RelV x v) (e : niOf x = some i) : NumB v i := by
  cases x with
  | int n => obtain ⟨t, rfl⟩ := r; cases e; exact .int _ _
  | bl b => cases r; cases e; exact .bool _
  | _ => cases e
def cMaxB : List V → Hp → VK → Prop := fun xs H Q => ∃ x y i j, xs = [x, y] ∧ niOf x = some i ∧ niOf y = some j ∧ Q (if j > i then y else x) H
theorem p_maxB {X : Cx} (hc : X.calm = true) : CallR X (.builtin "max") cMaxB := by
  intro pins s σ H xs us Q I r h
  obtain ⟨x, y, i, j, rfl, e1, e2, q⟩ := h
  obtain ⟨u, w', rfl, r1, r2⟩ := vals2 r
  refine max_two_B (I.ok.hd hc) (numB_of r1 e1) (numB_of r2 e2) fun h' tk k => ⟨_, H, I.kept k, ?_, q⟩
  by_cases hj : j > i
  · rw [if_pos hj, if_pos hj]; exact r2
  · rw [if_neg hj, if_neg hj]; exact r1
def rMinT (K : PySem.W.Frag) : List V → Hp → VK → Prop := fun vs H Q => ∃ (a : Addr) (n : Int) (r : List Int), vs = [.ref a] ∧ SqT K H a ((n :: r).map V.int) ∧ Q (.int (r.foldl min n)) H
theorem cr_minT {X : Cx} (hc : X.calm = true) (hu : X.A.units + 64 < cLine) : CallR X (.builtin "min") (rMinT X.K) := by
  intro pins s σ H vs us Q I r h
  obtain ⟨a, n, l, rfl, hs, q⟩ := h
  obtain rfl := Vals.ref1 r
  obtain ⟨its, rv, hl, _⟩ := I.tuple hs
  have hI := rv.ints
  refine PySem.W.min_tuple_data (I.ok.hd hc) hl (by rw [List.toList_toArray]; exact hI.reads _) (alike_ints (n :: l)) (by have h := depth_ints (n :: l); rw [List.map_cons] at h; omega) (fun i v h' tk bs hv hr hk => ?_)
  rw [PySem.W.minD_ints] at hr
  cases hr with
  | int _ t => exact ⟨.int _, H, I.kept hk, ⟨_, rfl⟩, q⟩
theorem w_minT {K : PySem.W.Frag} {H : Hp} {Q : VK} {a : Addr} {n : Int} {r : List Int} (h : H a = some (.tup ((n :: r).map V.int))) (q : Q (.int (r.foldl min n)) H) : rMinT K [.ref a] H Q := ⟨a, n, r, rfl, sqT h, q⟩
def rMaxT (K : PySem.W.Frag) : List V → Hp → VK → Prop := fun vs H Q => ∃ (a : Addr) (n : Int) (r : List Int), vs = [.ref a] ∧ SqT K H a ((n :: r).map V.int) ∧ Q (.int (r.foldl max n)) H
theorem cr_maxT {X : Cx} (hc : X.calm = true) (hu : X.A.units + 64 < cLine) : CallR X (.builtin "max") (rMaxT X.K) := by
  intro pins s σ H vs us Q I r h
  obtain ⟨a, n, l, rfl, hs, q⟩ := h
  obtain rfl := Vals.ref1 r
  obtain ⟨its, rv, hl, _⟩ := I.tuple hs
  have hI := rv.ints
  refine PySem.W.max_tuple_data (I.ok.hd hc) hl (by rw [List.toList_toArray]; exact hI.reads _) (alike_ints (n :: l)) (by have h := depth_ints (n :: l); rw [List.map_cons] at h; omega) (fun i v h' tk bs hv hr hk => ?_)
  rw [PySem.W.maxD_ints] at hr
  cases hr with
  | int _ t => exact ⟨.int _, H, I.kept hk, ⟨_, rfl⟩, q⟩
theorem w_maxT {K : PySem.W.Frag} {H : Hp} {Q : VK} {a : Addr} {n : Int} {r : List Int} (h : H a = some (.tup ((n :: r).map V.int))) (q : Q (.int (r.foldl max n)) H) : rMaxT K [.ref a] H Q := ⟨a, n, r, rfl, sqT h, q⟩
end
end Fg
namespace Fg
open PySem PySem.Spec PyProof.Rows L2 LamX LmX
local macro_rules | `(tactic| walk_at "hp") => `(tactic| first
  | assumption
  | exact upd_same
  | (refine Chg.at (by assumption) ?_; walk_at "hp")
  | (refine Chg.at1 (by assumption) ?_ (by walk_at "ne"); walk_at "hp"))
local macro_rules | `(tactic| walk_at "ne") => `(tactic| first | assumption | (apply Ne.symm; assumption))
local macro_rules | `(tactic| walk_at "sq") => `(tactic| first | assumption | exact sqL (by walk_at "hp") | (refine Chg.seq (by assumption) ?_; walk_at "sq"))
local macro_rules | `(tactic| walk_at "sz") => `(tactic| first | assumption | exact Nat.zero_le _ | (simp only [List.length_cons, List.length_nil]; decide) | exact Nat.le_trans (by first | omega | (simp; done) | (simp; omega)) (show 100000 ≤ sizeLine by decide) | exact Nat.lt_of_lt_of_le (by first | omega | (simp; done) | (simp; omega)) (show 100000 ≤ sizeLine by decide))
local macro_rules | `(tactic| walk_at "ix") => `(tactic| first | exact at0 | exact at1 | exact at2 | exact at3 | assumption | exact rfl | walk_at "ix2")
local macro_rules | `(tactic| walk_at "ix2") => `(tactic| fail)
local macro_rules | `(tactic| walk_at "num") => `(tactic| first | assumption | omega | decide | walk_at "num2")
local macro_rules | `(tactic| walk_at "num2") => `(tactic| fail)
local macro_rules | `(tactic| walk_at "im") => `(tactic| first | assumption | exact R.non (S := fun _ => False) | exact R.bl (S := fun _ => False) _ | exact R.int (S := fun _ => False) _ | exact R.str (S := fun _ => False) _ | (refine R.im (by assumption) ?_; walk_at "im"))
local macro_rules | `(tactic| walk_at "r") => `(tactic| first | assumption | exact R.non (S := fun _ => False) | exact R.bl (S := fun _ => False) _ | exact R.int (S := fun _ => False) _ | exact R.str (S := fun _ => False) _ | (refine R.same (by assumption) ?_; walk_at "r") | exact R.any (by walk_at "im"))
local macro_rules | `(tactic| walk_at "chg") => `(tactic| first
  | exact Chg.refl
  | assumption
  | (refine Chg.same ?_ (by assumption); walk_at "chg")
  | (refine Chg.both ?_ (by assumption); walk_at "chg")
  | (refine Chg.pre (by assumption) ?_; walk_at "chg"))
local macro_rules | `(tactic| walk_at "w1") => `(tactic| first
  | with_reducible apply w_seq
  | with_reducible apply w_asg
  | ((with_reducible apply w_var); (focus (exact rfl)))
  | with_reducible apply w_c
  | with_reducible apply w_op
  | with_reducible apply w_cons
  | with_reducible apply w_nil
  | with_reducible apply w_gName
  | with_reducible apply w_if
  | with_reducible apply w_test
  | with_reducible apply w_B
  | with_reducible apply w_isbl
  | with_reducible apply w_retN
  | with_reducible apply w_next
  | with_reducible apply w_drop
  | with_reducible apply w_cb
  | with_reducible apply w_call
  | with_reducible apply w_callN
  | with_reducible apply w_bm
  | with_reducible apply w_bm0
  | ((with_reducible apply w_tyL); (focus (walk_at "hp"; done)))
  | with_reducible apply w_dput
  | with_reducible apply w_m1
  | with_reducible apply w_isstr
  | with_reducible apply w_and
  | with_reducible apply w_or
  | with_reducible apply w_not
  | with_reducible apply w_andV
  | with_reducible apply w_orV
  | with_reducible apply w_notV
  | with_reducible apply w_ifE
  | with_reducible apply w_chain
  | with_reducible apply w_un
  | with_reducible apply w_neg
  | with_reducible apply w_add
  | with_reducible apply w_sub
  | ((with_reducible apply w_mod); (focus (walk_at "num"; done)))
  | ((with_reducible apply w_mul); (focus (walk_at "num"; done)))
  | ((with_reducible apply w_fdiv); (focus (walk_at "num"; done)))
  | ((with_reducible apply w_pow); (focus (walk_at "num"; done)))
  | with_reducible apply w_lt
  | with_reducible apply w_le
  | with_reducible apply w_gt
  | with_reducible apply w_ge
  | with_reducible apply w_ltS
  | with_reducible apply w_geS
  | with_reducible apply w_inC
  | with_reducible apply w_notInC
  | with_reducible apply w_isN
  | with_reducible apply w_notN
  | with_reducible apply w_isB
  | with_reducible apply w_notB
  | ((with_reducible apply w_addS); (focus (walk_at "sz"; done)))
  | ((with_reducible apply w_ixL); (focus (walk_at "sq"; done)); (focus (walk_at "ix"; done)))
  | ((with_reducible apply w_ixT); (focus (walk_at "hp"; done)); (focus (walk_at "ix"; done)))
  | ((with_reducible apply w_ixS); (focus (walk_at "sz"; done)); (focus (walk_at "ix"; done)))
  | with_reducible apply w_gSub
  | ((with_reducible apply w_gTup); (focus (walk_at "hp"; done)); (focus (exact rfl)))
  | with_reducible apply w_gCons
  | with_reducible apply w_gNil
  | ((with_reducible apply w_aug); (focus (exact rfl)))
  | with_reducible apply w_ipI
  | ((with_reducible apply w_eq); (focus (exact rfl)))
  | ((with_reducible apply w_ne); (focus (exact rfl)))
  | with_reducible apply w_max
  | with_reducible apply w_min
  | with_reducible apply w_abs
  | with_reducible apply w_intB
  | with_reducible apply w_intI
  | with_reducible apply w_tup1
  | with_reducible apply w_lst1
  | with_reducible apply w_sl
  | with_reducible apply w_part
  | with_reducible apply w_noPart
  | with_reducible apply w_isint
  | ((with_reducible apply w_slS); (focus (walk_at "sz"; done)))
  | with_reducible apply w_iteT
  | with_reducible apply w_iteF
  | with_reducible apply w_iteN
  | ((with_reducible apply w_iteYes); (focus (exact rfl)))
  | ((with_reducible apply w_iteNo); (focus (exact rfl)))
  | ((with_reducible apply w_lenL); (focus (walk_at "sq"; done)))
  | ((with_reducible apply w_lenT); (focus (walk_at "hp"; done)))
  | ((with_reducible apply w_lenS); (focus (walk_at "sz"; done)))
  | with_reducible apply w_lc
  | with_reducible apply w_for
  | with_reducible apply w_yes
  | ((with_reducible apply w_wipe); (focus (exact rfl)))
  | with_reducible apply w_iList
  | with_reducible apply w_iTup
  | with_reducible apply w_iStr
  | with_reducible apply w_iRng1
  | with_reducible apply w_iRng2
  | with_reducible apply w_iZip
  | with_reducible apply w_iEnum
  | ((with_reducible apply d_iList); (focus (walk_at "sq"; done)))
  | ((with_reducible apply d_iTup); (focus (walk_at "hp"; done)))
  | with_reducible apply d_iStr
  | ((with_reducible apply d_iRng1); (focus (walk_at "num"; done)); (focus (walk_at "num"; done)))
  | ((with_reducible apply d_iRng2); (focus (walk_at "num"; done)); (focus (walk_at "num"; done)); (focus (walk_at "num"; done)); (focus (walk_at "num"; done)))
  | ((with_reducible apply d_iZip); (focus (walk_at "sq"; done)); (focus (walk_at "sq"; done)))
  | ((with_reducible apply d_iEnum); (focus (walk_at "sq"; done)))
  | walk_at "w2")
local macro_rules | `(tactic| walk_at "w2") => `(tactic| fail)
local macro_rules | `(tactic| walk_at "wn") => `(tactic| repeat walk_at "w1")
local macro_rules | `(tactic| walk_at "w") => `(tactic| repeat (first | walk_at "w1" | with_reducible apply w_ret))
def i2 (f : Int → Int → Int) : PyData → PyData → Option PyData
  | .int a, .int b => some (.int (f a b))
  | _, _ => none
def s2 (f : Str → Str → Str) : PyData → PyData → Option PyData
  | .str a, .str b => if a.length + b.length ≤ 90000 then some (.str (f a b)) else none
  | _, _ => none
def lat2 : PyData → PyData → Option PyData
  | x, .none => some x
  | _, y => some y
/-- max of two of ints and truth values, its first one where they are alike -/
def niD : PyData → Option Int
  | .int i => some i
  | .bool b => some (if b = true then 1 else 0)
  | _ => none
def mxD (x y : PyData) : Option PyData := match niD x, niD y with
  | some i, some j => some (if j > i then y else x)
  | _, _ => none
/-- the lambda at j of two worths -/
def jnD : Nat → PyData → PyData → Option PyData
  | 0, x, y => i2 (· + ·) x y
  | 1, x, y => s2 (· ++ ·) x y
  | 3, x, y => i2 (· + ·) x y
  | 4, x, y => lat2 x y
  | 5, x, y => s2 (· ++ ·) x y
  | 8, .list xs, .list ys => if xs.length + ys.length ≤ 90000 then some (.list (xs ++ ys)) else none
  | 10, .int a, .int b => if (0 ≤ a ∧ a < 7) ∧ (0 ≤ b ∧ b < 7) then some (.int (a * b % 7)) else none
  | 12, x, y => i2 (fun a b => a + b + 1) x y
  | 13, x, y => s2 (fun a b => b ++ a) x y
  | 15, x, y => lat2 x y
  | 17, x, y => i2 (· - ·) x y
  | 18, x, y => i2 (fun a b => if a = 0 ∧ b = 0 then 7 else a + b) x y
  | 19, x, y => i2 (fun a b => min (a + b) 10) x y
  | 21, x, y => i2 (fun a b => if a + b = 5 then 6 else a + b) x y
  | 22, x, y => i2 (· + ·) x y
  | 23, x, y => i2 (fun a b => (a + b) / 2) x y
  | 24, x, y => s2 (fun a b => a ++ cutS b none (some 2)) x y
  | 26, .none, _ => some (.int 1)
  | 26, .int a, _ => some (.int (a + 1))
  | 27, _, y => some y
  | 29, x, y => mxD x y
  | _, _, _ => none
/-- the lambda at j of a number -/
def mkD0 : Nat → Int → Option PyData
  | 2, n => some (.str (Str.empty ++ Str.ofString (toString n) ++ Str.ofString ";"))
  | 6, n => some (.str (Str.empty ++ Str.ofString (toString n) ++ Str.ofString ";"))
  | 7, n => some (.tuple [.int n, .int n])
  | 9, n => some (.list [.int n])
  | 11, n => some (.int (n % 7))
  | 14, n => some (.str (Str.ofString (toString (n % 10))))
  | 16, n => some (.int (n / 2))
  | 20, n => some (.int (if n < 0 then -n else n))
  | 25, n => some (.str (Str.empty ++ Str.ofString (toString n) ++ Str.ofString ";"))
  | 28, n => some (if n % 3 = 0 then .none else .int n)
  | 30, n => some (.bool (decide (2 < n)))
  | _, _ => none
def mkD (j : Nat) (n : Int) : Option PyData := if n.natAbs < 10 ^ 30 then mkD0 j n else none
/-- a function of two worths -/
def sp2 (f : PyData → PyData → Option PyData) : Sp := fun vs H Q _ => ∃ (x y : V) (dx dy d : PyData) (S : Addr → Prop), vs = [x, y] ∧ R S H x dx ∧ R S H y dy ∧ (∀ a, H a = none → S a) ∧ f dx dy = some d ∧ ∀ v H', Chg [] H H' → R S H' v d → Q v H'
def sp1 (f : Int → Option PyData) : Sp := fun vs H Q _ => ∃ (n : Int) (d : PyData) (S : Addr → Prop), vs = [.int n] ∧ (∀ a, H a = none → S a) ∧ f n = some d ∧ ∀ v H', Chg [] H H' → R S H' v d → Q v H'
theorem i2_at {f : Int → Int → Int} {x y d : PyData} (h : i2 f x y = some d) : ∃ a b, x = .int a ∧ y = .int b ∧ d = .int (f a b) := by
  unfold i2 at h
  split at h
  · cases h; exact ⟨_, _, rfl, rfl, rfl⟩
  · cases h
theorem s2_at {f : Str → Str → Str} {x y d : PyData} (h : s2 f x y = some d) : ∃ a b, x = .str a ∧ y = .str b ∧ a.length + b.length ≤ 90000 ∧ d = .str (f a b) := by
  unfold s2 at h
  split at h
  · split at h
    · rename_i h2; cases h; exact ⟨_, _, rfl, rfl, h2, rfl⟩
    · cases h
  · cases h
theorem r_int {S : Addr → Prop} {H : Hp} {v : V} {i : Int} (h : R S H v (.int i)) : v = .int i := by cases h; rfl
theorem r_str {S : Addr → Prop} {H : Hp} {v : V} {x : Str} (h : R S H v (.str x)) : v = .str x := by cases h; rfl
theorem mkD_at {j : Nat} {n : Int} {d : PyData} (h : mkD j n = some d) : n.natAbs < 10 ^ 30 ∧ mkD0 j n = some d := by
  unfold mkD at h
  split at h
  · rename_i h1; exact ⟨h1, h⟩
  · cases h
theorem mxD_at {x y d : PyData} (h : mxD x y = some d) : ∃ i j, niD x = some i ∧ niD y = some j ∧ d = if j > i then y else x := by
  unfold mxD at h
  split at h
  · rename_i i j e1 e2; cases h; exact ⟨i, j, e1, e2, rfl⟩
  · cases h
theorem r_ni {S : Addr → Prop} {H : Hp} {v : V} {d : PyData} {i : Int} (h : R S H v d) (e : niD d = some i) : niOf v = some i := by
  cases h <;> first | exact e | cases e
theorem len_text {n : Int} (h : n.natAbs < 10 ^ 30) : (Str.ofString (toString n)).length ≤ 31 := by
  have e := int_text_length_le10 (k := 30) (by decide) h
  rw [PySem.ofString_length]; exact e
theorem lg30 {n : Int} (h : n.natAbs < 10 ^ 30) : n.natAbs.log2 < 1920 := by
  by_cases z : n.natAbs = 0
  · rw [z]; decide
  · exact (Nat.log2_lt z).mpr (Nat.lt_trans h (by decide +kernel))
theorem w_fs {n : Int} {z : Str} {H : Hp} {Q : VK} (hn : n.natAbs.log2 < 1920) (hl : (Str.ofString (toString n)).length ≤ 31) (hz : z.length ≤ 100) (q : Q (.str (Str.empty ++ Str.ofString (toString n) ++ z)) H) : tJoin [tFmt (tVar 0), tC (.str z)] [some (.int n)] H Q := by
  have e0 : Str.empty.length = 0 := rfl
  exact ⟨.int n, rfl, Or.inr ⟨n, rfl, hn, _, rfl, by rw [sizeLine_eq, len_append]; omega, z, rfl, by rw [sizeLine_eq, len_append, len_append]; omega, q⟩⟩
def t_lam0 (K : PySem.W.Frag) : TE :=
    tOp oAdd (tVar 0) (tVar 1)
theorem pure_lam0 {K : PySem.W.Frag} (vs : List V) (H : Hp) (Q : VK) (h : sp2 (jnD 0) vs H Q L2.E0) : t_lam0 K (NdefX.startF ["one", "other"] vs []) H Q := by
  obtain ⟨x, y, dx, dy, d, S, rfl, rx, ry, fr, e, q⟩ := h
  obtain ⟨a, b, rfl, rfl, rfl⟩ := i2_at e
  cases r_int rx
  cases r_int ry
  show t_lam0 K [some (.int a), some (.int b)] H Q
  unfold t_lam0
  walk_at "w"
  exact q _ _ .refl (.int _)
def t_lam3 (K : PySem.W.Frag) : TE :=
    tOp oAdd (tVar 0) (tVar 1)
theorem pure_lam3 {K : PySem.W.Frag} (vs : List V) (H : Hp) (Q : VK) (h : sp2 (jnD 3) vs H Q L2.E0) : t_lam3 K (NdefX.startF ["one", "other"] vs []) H Q := by
  obtain ⟨x, y, dx, dy, d, S, rfl, rx, ry, fr, e, q⟩ := h
  obtain ⟨a, b, rfl, rfl, rfl⟩ := i2_at e
  cases r_int rx
  cases r_int ry
  show t_lam3 K [some (.int a), some (.int b)] H Q
  unfold t_lam3
  walk_at "w"
  exact q _ _ .refl (.int _)
def t_lam12 (K : PySem.W.Frag) : TE :=
    tOp oAdd (tOp oAdd (tVar 0) (tVar 1)) (tC (.int 1))
theorem pure_lam12 {K : PySem.W.Frag} (vs : List V) (H : Hp) (Q : VK) (h : sp2 (jnD 12) vs H Q L2.E0) : t_lam12 K (NdefX.startF ["one", "other"] vs []) H Q := by
  obtain ⟨x, y, dx, dy, d, S, rfl, rx, ry, fr, e, q⟩ := h
  obtain ⟨a, b, rfl, rfl, rfl⟩ := i2_at e
  cases r_int rx
  cases r_int ry
  show t_lam12 K [some (.int a), some (.int b)] H Q
  unfold t_lam12
  walk_at "w"
  exact q _ _ .refl (.int _)
def t_lam17 (K : PySem.W.Frag) : TE :=
    tOp oSub (tVar 0) (tVar 1)
theorem pure_lam17 {K : PySem.W.Frag} (vs : List V) (H : Hp) (Q : VK) (h : sp2 (jnD 17) vs H Q L2.E0) : t_lam17 K (NdefX.startF ["one", "other"] vs []) H Q := by
  obtain ⟨x, y, dx, dy, d, S, rfl, rx, ry, fr, e, q⟩ := h
  obtain ⟨a, b, rfl, rfl, rfl⟩ := i2_at e
  cases r_int rx
  cases r_int ry
  show t_lam17 K [some (.int a), some (.int b)] H Q
  unfold t_lam17
  walk_at "w"
  exact q _ _ .refl (.int _)
def t_lam22 (K : PySem.W.Frag) : TE :=
    tOp oAdd (tVar 0) (tVar 1)
theorem pure_lam22 {K : PySem.W.Frag} (vs : List V) (H : Hp) (Q : VK) (h : sp2 (jnD 22) vs H Q L2.E0) : t_lam22 K (NdefX.startF ["one", "other"] vs []) H Q := by
  obtain ⟨x, y, dx, dy, d, S, rfl, rx, ry, fr, e, q⟩ := h
  obtain ⟨a, b, rfl, rfl, rfl⟩ := i2_at e
  cases r_int rx
  cases r_int ry
  show t_lam22 K [some (.int a), some (.int b)] H Q
  unfold t_lam22
  walk_at "w"
  exact q _ _ .refl (.int _)
def t_lam1 (K : PySem.W.Frag) : TE :=
    tOp oAddS (tVar 0) (tVar 1)
theorem pure_lam1 {K : PySem.W.Frag} (vs : List V) (H : Hp) (Q : VK) (h : sp2 (jnD 1) vs H Q L2.E0) : t_lam1 K (NdefX.startF ["one", "other"] vs []) H Q := by
  obtain ⟨x, y, dx, dy, d, S, rfl, rx, ry, fr, e, q⟩ := h
  obtain ⟨a, b, rfl, rfl, ln, rfl⟩ := s2_at e
  cases r_str rx
  cases r_str ry
  show t_lam1 K [some (.str a), some (.str b)] H Q
  unfold t_lam1
  walk_at "w"
  exact q _ _ .refl (.str _)
def t_lam5 (K : PySem.W.Frag) : TE :=
    tOp oAddS (tVar 0) (tVar 1)
theorem pure_lam5 {K : PySem.W.Frag} (vs : List V) (H : Hp) (Q : VK) (h : sp2 (jnD 5) vs H Q L2.E0) : t_lam5 K (NdefX.startF ["one", "other"] vs []) H Q := by
  obtain ⟨x, y, dx, dy, d, S, rfl, rx, ry, fr, e, q⟩ := h
  obtain ⟨a, b, rfl, rfl, ln, rfl⟩ := s2_at e
  cases r_str rx
  cases r_str ry
  show t_lam5 K [some (.str a), some (.str b)] H Q
  unfold t_lam5
  walk_at "w"
  exact q _ _ .refl (.str _)
def t_lam13 (K : PySem.W.Frag) : TE :=
    tOp oAddS (tVar 1) (tVar 0)
theorem pure_lam13 {K : PySem.W.Frag} (vs : List V) (H : Hp) (Q : VK) (h : sp2 (jnD 13) vs H Q L2.E0) : t_lam13 K (NdefX.startF ["one", "other"] vs []) H Q := by
  obtain ⟨x, y, dx, dy, d, S, rfl, rx, ry, fr, e, q⟩ := h
  obtain ⟨a, b, rfl, rfl, ln, rfl⟩ := s2_at e
  cases r_str rx
  cases r_str ry
  show t_lam13 K [some (.str a), some (.str b)] H Q
  unfold t_lam13
  walk_at "w"
  exact q _ _ .refl (.str _)
def t_lam18 (K : PySem.W.Frag) : TE :=
    tIf (tAnd (tTest (tOp rEq (tVar 0) (tC (.int 0)))) (tTest (tOp rEq (tVar 1) (tC (.int 0))))) (tC (.int 7)) (tOp oAdd (tVar 0) (tVar 1))
theorem pure_lam18 {K : PySem.W.Frag} (vs : List V) (H : Hp) (Q : VK) (h : sp2 (jnD 18) vs H Q L2.E0) : t_lam18 K (NdefX.startF ["one", "other"] vs []) H Q := by
  obtain ⟨x, y, dx, dy, d, S, rfl, rx, ry, fr, e, q⟩ := h
  obtain ⟨a, b, rfl, rfl, rfl⟩ := i2_at e
  cases r_int rx
  cases r_int ry
  show t_lam18 K [some (.int a), some (.int b)] H Q
  unfold t_lam18
  walk_at "w"
  refine w_iteD (fun h1 => ?_) (fun h1 => ?_)
  · have h1 : a = 0 := V.int.inj h1
    walk_at "w"
    refine w_iteD (fun h2 => ?_) (fun h2 => ?_)
    · have h2 : b = 0 := V.int.inj h2
      walk_at "w"
      have := q (.int 7) H .refl
      rw [if_pos ⟨h1, h2⟩] at this
      exact this (.int _)
    · have h2 : ¬ b = 0 := fun z => h2 (by rw [z])
      walk_at "w"
      have := q (.int (a + b)) H .refl
      rw [if_neg (fun z => h2 z.2)] at this
      exact this (.int _)
  · have h1 : ¬ a = 0 := fun z => h1 (by rw [z])
    walk_at "w"
    have := q (.int (a + b)) H .refl
    rw [if_neg (fun z => h1 z.1)] at this
    exact this (.int _)
def t_lam21 (K : PySem.W.Frag) : TE :=
    tIf (tTest (tOp rEq (tOp oAdd (tVar 0) (tVar 1)) (tC (.int 5)))) (tC (.int 6)) (tOp oAdd (tVar 0) (tVar 1))
theorem pure_lam21 {K : PySem.W.Frag} (vs : List V) (H : Hp) (Q : VK) (h : sp2 (jnD 21) vs H Q L2.E0) : t_lam21 K (NdefX.startF ["one", "other"] vs []) H Q := by
  obtain ⟨x, y, dx, dy, d, S, rfl, rx, ry, fr, e, q⟩ := h
  obtain ⟨a, b, rfl, rfl, rfl⟩ := i2_at e
  cases r_int rx
  cases r_int ry
  show t_lam21 K [some (.int a), some (.int b)] H Q
  unfold t_lam21
  walk_at "w"
  refine w_iteD (fun h1 => ?_) (fun h1 => ?_)
  · have h1 : a + b = 5 := V.int.inj h1
    walk_at "w"
    have := q (.int 6) H .refl
    rw [if_pos h1] at this
    exact this (.int _)
  · have h1 : ¬ a + b = 5 := fun z => h1 (by rw [z])
    walk_at "w"
    have := q (.int (a + b)) H .refl
    rw [if_neg h1] at this
    exact this (.int _)
def t_lam19 (K : PySem.W.Frag) : TE :=
    tCB cMin (tCons (tOp oAdd (tVar 0) (tVar 1)) (tCons (tC (.int 10)) (tNil)))
theorem pure_lam19 {K : PySem.W.Frag} (vs : List V) (H : Hp) (Q : VK) (h : sp2 (jnD 19) vs H Q L2.E0) : t_lam19 K (NdefX.startF ["one", "other"] vs []) H Q := by
  obtain ⟨x, y, dx, dy, d, S, rfl, rx, ry, fr, e, q⟩ := h
  obtain ⟨a, b, rfl, rfl, rfl⟩ := i2_at e
  cases r_int rx
  cases r_int ry
  show t_lam19 K [some (.int a), some (.int b)] H Q
  unfold t_lam19
  walk_at "w"
  have e2 : (if 10 < a + b then 10 else a + b) = min (a + b) 10 := by omega
  have q' := q (.int (min (a + b) 10)) H .refl (.int _)
  rw [← e2] at q'
  exact q'
def t_lam23 (K : PySem.W.Frag) : TE :=
    tOp oFdiv (tOp oAdd (tVar 0) (tVar 1)) (tC (.int 2))
theorem pure_lam23 {K : PySem.W.Frag} (vs : List V) (H : Hp) (Q : VK) (h : sp2 (jnD 23) vs H Q L2.E0) : t_lam23 K (NdefX.startF ["one", "other"] vs []) H Q := by
  obtain ⟨x, y, dx, dy, d, S, rfl, rx, ry, fr, e, q⟩ := h
  obtain ⟨a, b, rfl, rfl, rfl⟩ := i2_at e
  cases r_int rx
  cases r_int ry
  show t_lam23 K [some (.int a), some (.int b)] H Q
  unfold t_lam23
  walk_at "w"
  refine w_fdiv (cdivS (by decide) (by decide)) ?_
  exact q _ _ .refl (.int _)
def t_lam10 (K : PySem.W.Frag) : TE :=
    tOp oMod (tOp oMul (tVar 0) (tVar 1)) (tC (.int 7))
theorem pure_lam10 {K : PySem.W.Frag} (vs : List V) (H : Hp) (Q : VK) (h : sp2 (jnD 10) vs H Q L2.E0) : t_lam10 K (NdefX.startF ["one", "other"] vs []) H Q := by
  obtain ⟨x, y, dx, dy, d, S, rfl, rx, ry, fr, e, q⟩ := h

  have key : ∃ a b, dx = .int a ∧ dy = .int b ∧ (0 ≤ a ∧ a < 7) ∧ (0 ≤ b ∧ b < 7) ∧ d = .int (a * b % 7) := by
    cases dx <;> cases dy <;> first | cases e | skip
    rename_i a b
    have e : (if (0 ≤ a ∧ a < 7) ∧ (0 ≤ b ∧ b < 7) then some (PyData.int (a * b % 7)) else none) = some d := e
    split at e
    · rename_i h; cases e; exact ⟨_, _, rfl, rfl, h.1, h.2, rfl⟩
    · cases e
  obtain ⟨a, b, rfl, rfl, ha, hb, rfl⟩ := key
  cases r_int rx
  cases r_int ry
  show t_lam10 K [some (.int a), some (.int b)] H Q
  unfold t_lam10
  walk_at "w"
  refine w_mul (cmulL (by omega) (by omega)) ?_
  walk_at "w"
  exact q _ _ .refl (.int _)
def t_lam4 (K : PySem.W.Frag) : TE :=
    tIf (tTest (tOp oIsN (tVar 1) (tC .non))) (tVar 0) (tVar 1)
theorem pure_lam4 {K : PySem.W.Frag} (vs : List V) (H : Hp) (Q : VK) (h : sp2 (jnD 4) vs H Q L2.E0) : t_lam4 K (NdefX.startF ["one", "other"] vs []) H Q := by
  obtain ⟨x, y, dx, dy, d, S, rfl, rx, ry, fr, e, q⟩ := h

  have ne : ∀ {z : PyData}, z ≠ .none → lat2 dx z = some z := fun {z} hz => by cases z <;> first | rfl | exact absurd rfl hz
  by_cases hy : dy = .none
  · subst hy
    cases ry
    have e : lat2 dx .none = some d := e
    have e2 : some dx = some d := by rw [← e]; cases dx <;> rfl
    cases e2
    show t_lam4 K [some x, some .non] H Q
    unfold t_lam4
    walk_at "w"
    exact q _ _ .refl rx
  · have e : lat2 dx dy = some d := e
    rw [ne hy] at e
    cases e
    have nv : y ≠ .non := fun z => by subst z; cases ry; exact hy rfl
    show t_lam4 K [some x, some y] H Q
    unfold t_lam4
    walk_at "w"
    rw [if_neg (by simpa using nv)]
    walk_at "w"
    exact q _ _ .refl ry
def t_lam15 (K : PySem.W.Frag) : TE :=
    tIf (tTest (tOp oIsN (tVar 1) (tC .non))) (tVar 0) (tVar 1)
theorem pure_lam15 {K : PySem.W.Frag} (vs : List V) (H : Hp) (Q : VK) (h : sp2 (jnD 15) vs H Q L2.E0) : t_lam15 K (NdefX.startF ["one", "other"] vs []) H Q := by
  obtain ⟨x, y, dx, dy, d, S, rfl, rx, ry, fr, e, q⟩ := h

  have ne : ∀ {z : PyData}, z ≠ .none → lat2 dx z = some z := fun {z} hz => by cases z <;> first | rfl | exact absurd rfl hz
  by_cases hy : dy = .none
  · subst hy
    cases ry
    have e : lat2 dx .none = some d := e
    have e2 : some dx = some d := by rw [← e]; cases dx <;> rfl
    cases e2
    show t_lam15 K [some x, some .non] H Q
    unfold t_lam15
    walk_at "w"
    exact q _ _ .refl rx
  · have e : lat2 dx dy = some d := e
    rw [ne hy] at e
    cases e
    have nv : y ≠ .non := fun z => by subst z; cases ry; exact hy rfl
    show t_lam15 K [some x, some y] H Q
    unfold t_lam15
    walk_at "w"
    rw [if_neg (by simpa using nv)]
    walk_at "w"
    exact q _ _ .refl ry
def t_lam27 (K : PySem.W.Frag) : TE :=
    tVar 1
theorem pure_lam27 {K : PySem.W.Frag} (vs : List V) (H : Hp) (Q : VK) (h : sp2 (jnD 27) vs H Q L2.E0) : t_lam27 K (NdefX.startF ["one", "other"] vs []) H Q := by
  obtain ⟨x, y, dx, dy, d, S, rfl, rx, ry, fr, e, q⟩ := h

  have e : some dy = some d := by
    rw [← e]
    cases dx <;> cases dy <;> rfl
  cases e
  show t_lam27 K [some x, some y] H Q
  unfold t_lam27
  walk_at "w"
  exact q _ _ .refl ry
def t_lam8 (K : PySem.W.Frag) : TE :=
    tOp rCat (tVar 0) (tVar 1)
theorem pure_lam8 {K : PySem.W.Frag} (vs : List V) (H : Hp) (Q : VK) (h : sp2 (jnD 8) vs H Q L2.E0) : t_lam8 K (NdefX.startF ["one", "other"] vs []) H Q := by
  obtain ⟨x, y, dx, dy, d, S, rfl, rx, ry, fr, e, q⟩ := h

  have key : ∃ xs ys, dx = .list xs ∧ dy = .list ys ∧ xs.length + ys.length ≤ 90000 ∧ d = .list (xs ++ ys) := by
    cases dx <;> cases dy <;> first | cases e | skip
    rename_i xs ys
    have e : (if xs.length + ys.length ≤ 90000 then some (PyData.list (xs ++ ys)) else none) = some d := e
    split at e
    · rename_i h; cases e; exact ⟨_, _, rfl, rfl, h, rfl⟩
    · cases e
  obtain ⟨xs, ys, rfl, rfl, ln, rfl⟩ := key
  cases rx with
  | @lst p us _ s1 hp ra =>
  cases ry with
  | @lst p2 ws _ s2 hp2 rb =>
  show t_lam8 K [some (.ref p), some (.ref p2)] H Q
  unfold t_lam8
  walk_at "w"
  have l1 := ra.length
  have l2 := rb.length
  refine w_cat hp hp2 (by omega) fun p3 H3 n3 c3 h3 => ?_
  exact q _ _ c3 (.lst (fr _ n3) h3 ((ra.same c3).append (rb.same c3)))
def t_lam26 (K : PySem.W.Frag) : TE :=
    tIf (tTest (tOp oIsN (tVar 0) (tC .non))) (tC (.int 1)) (tOp oAdd (tVar 0) (tC (.int 1)))
theorem pure_lam26 {K : PySem.W.Frag} (vs : List V) (H : Hp) (Q : VK) (h : sp2 (jnD 26) vs H Q L2.E0) : t_lam26 K (NdefX.startF ["one", "other"] vs []) H Q := by
  obtain ⟨x, y, dx, dy, d, S, rfl, rx, ry, fr, e, q⟩ := h

  cases hx : dx with
  | none =>
    subst hx
    cases rx
    have e : some (PyData.int 1) = some d := e
    cases e
    show t_lam26 K [some .non, some y] H Q
    unfold t_lam26
    walk_at "w"
    exact q _ _ .refl (.int _)
  | int a =>
    subst hx
    cases r_int rx
    have e : some (PyData.int (a + 1)) = some d := by rw [← e]; cases dy <;> rfl
    cases e
    show t_lam26 K [some (.int a), some y] H Q
    unfold t_lam26
    walk_at "w"
    exact q _ _ .refl (.int _)
  | _ => subst hx; cases dy <;> cases e
def t_lam24 (K : PySem.W.Frag) : TE :=
    tOp oAddS (tVar 0) (tSl rSlS (tVar 1) (tNoPart) (tPart (tC (.int 2))))
theorem pure_lam24 {K : PySem.W.Frag} (vs : List V) (H : Hp) (Q : VK) (h : sp2 (jnD 24) vs H Q L2.E0) : t_lam24 K (NdefX.startF ["one", "other"] vs []) H Q := by
  obtain ⟨x, y, dx, dy, d, S, rfl, rx, ry, fr, e, q⟩ := h
  obtain ⟨a, b, rfl, rfl, ln, rfl⟩ := s2_at e
  cases r_str rx
  cases r_str ry
  show t_lam24 K [some (.str a), some (.str b)] H Q
  unfold t_lam24
  walk_at "w"
  have := cutS_le b none (some 2)
  refine w_addS (by rw [sizeLine_eq]; omega) ?_
  exact q _ _ .refl (.str _)
def t_lam2 (K : PySem.W.Frag) : TE :=
    tJoin [tFmt (tVar 0), tC (.str ";")]
theorem pure_lam2 {K : PySem.W.Frag} (vs : List V) (H : Hp) (Q : VK) (h : sp1 (mkD 2) vs H Q L2.E0) : t_lam2 K (NdefX.startF ["number"] vs []) H Q := by
  obtain ⟨n, d, S, rfl, fr, e, q⟩ := h
  obtain ⟨hn, e⟩ := mkD_at e
  cases e
  show t_lam2 K [some (.int n)] H Q
  unfold t_lam2
  exact w_fs (lg30 hn) (len_text hn) (by decide) (q _ _ .refl (.str _))
def t_lam6 (K : PySem.W.Frag) : TE :=
    tJoin [tFmt (tVar 0), tC (.str ";")]
theorem pure_lam6 {K : PySem.W.Frag} (vs : List V) (H : Hp) (Q : VK) (h : sp1 (mkD 6) vs H Q L2.E0) : t_lam6 K (NdefX.startF ["number"] vs []) H Q := by
  obtain ⟨n, d, S, rfl, fr, e, q⟩ := h
  obtain ⟨hn, e⟩ := mkD_at e
  cases e
  show t_lam6 K [some (.int n)] H Q
  unfold t_lam6
  exact w_fs (lg30 hn) (len_text hn) (by decide) (q _ _ .refl (.str _))
def t_lam25 (K : PySem.W.Frag) : TE :=
    tJoin [tFmt (tVar 0), tC (.str ";")]
theorem pure_lam25 {K : PySem.W.Frag} (vs : List V) (H : Hp) (Q : VK) (h : sp1 (mkD 25) vs H Q L2.E0) : t_lam25 K (NdefX.startF ["number"] vs []) H Q := by
  obtain ⟨n, d, S, rfl, fr, e, q⟩ := h
  obtain ⟨hn, e⟩ := mkD_at e
  cases e
  show t_lam25 K [some (.int n)] H Q
  unfold t_lam25
  exact w_fs (lg30 hn) (len_text hn) (by decide) (q _ _ .refl (.str _))
def t_lam7 (K : PySem.W.Frag) : TE :=
    tTup (tCons (tVar 0) (tCons (tVar 0) (tNil)))
theorem pure_lam7 {K : PySem.W.Frag} (vs : List V) (H : Hp) (Q : VK) (h : sp1 (mkD 7) vs H Q L2.E0) : t_lam7 K (NdefX.startF ["number"] vs []) H Q := by
  obtain ⟨n, d, S, rfl, fr, e, q⟩ := h
  obtain ⟨hn, e⟩ := mkD_at e
  cases e
  show t_lam7 K [some (.int n)] H Q
  unfold t_lam7
  walk_at "w"
  refine k_tup (by walk_at "sz") fun T H1 nT c1 hT => ?_
  exact q _ _ c1 (.tup hT (.cons (.int _) (.cons (.int _) .nil)))
def t_lam9 (K : PySem.W.Frag) : TE :=
    tLst (tCons (tVar 0) (tNil))
theorem pure_lam9 {K : PySem.W.Frag} (vs : List V) (H : Hp) (Q : VK) (h : sp1 (mkD 9) vs H Q L2.E0) : t_lam9 K (NdefX.startF ["number"] vs []) H Q := by
  obtain ⟨n, d, S, rfl, fr, e, q⟩ := h
  obtain ⟨hn, e⟩ := mkD_at e
  cases e
  show t_lam9 K [some (.int n)] H Q
  unfold t_lam9
  walk_at "w"
  refine k_lst (by walk_at "sz") fun T H1 nT c1 hT => ?_
  exact q _ _ c1 (.lst (fr _ nT) hT (.cons (.int _) .nil))
def t_lam11 (K : PySem.W.Frag) : TE :=
    tOp oMod (tVar 0) (tC (.int 7))
theorem pure_lam11 {K : PySem.W.Frag} (vs : List V) (H : Hp) (Q : VK) (h : sp1 (mkD 11) vs H Q L2.E0) : t_lam11 K (NdefX.startF ["number"] vs []) H Q := by
  obtain ⟨n, d, S, rfl, fr, e, q⟩ := h
  obtain ⟨hn, e⟩ := mkD_at e
  cases e
  show t_lam11 K [some (.int n)] H Q
  unfold t_lam11
  walk_at "w"
  exact q _ _ .refl (.int _)
def t_lam14 (K : PySem.W.Frag) : TE :=
    tCB cStrI (tCons (tOp oMod (tVar 0) (tC (.int 10))) (tNil))
theorem pure_lam14 {K : PySem.W.Frag} (vs : List V) (H : Hp) (Q : VK) (h : sp1 (mkD 14) vs H Q L2.E0) : t_lam14 K (NdefX.startF ["number"] vs []) H Q := by
  obtain ⟨n, d, S, rfl, fr, e, q⟩ := h
  obtain ⟨hn, e⟩ := mkD_at e
  cases e
  show t_lam14 K [some (.int n)] H Q
  unfold t_lam14
  walk_at "w"
  refine w_strI (lg30 (by omega)) ?_
  exact q _ _ .refl (.str _)
def t_lam16 (K : PySem.W.Frag) : TE :=
    tOp oFdiv (tVar 0) (tC (.int 2))
theorem pure_lam16 {K : PySem.W.Frag} (vs : List V) (H : Hp) (Q : VK) (h : sp1 (mkD 16) vs H Q L2.E0) : t_lam16 K (NdefX.startF ["number"] vs []) H Q := by
  obtain ⟨n, d, S, rfl, fr, e, q⟩ := h
  obtain ⟨hn, e⟩ := mkD_at e
  cases e
  show t_lam16 K [some (.int n)] H Q
  unfold t_lam16
  walk_at "w"
  refine w_fdiv (cdivS (by decide) (by decide)) ?_
  exact q _ _ .refl (.int _)
def t_lam20 (K : PySem.W.Frag) : TE :=
    tCB cAbs (tCons (tVar 0) (tNil))
theorem pure_lam20 {K : PySem.W.Frag} (vs : List V) (H : Hp) (Q : VK) (h : sp1 (mkD 20) vs H Q L2.E0) : t_lam20 K (NdefX.startF ["number"] vs []) H Q := by
  obtain ⟨n, d, S, rfl, fr, e, q⟩ := h
  obtain ⟨hn, e⟩ := mkD_at e
  cases e
  show t_lam20 K [some (.int n)] H Q
  unfold t_lam20
  walk_at "w"
  exact q _ _ .refl (.int _)
def t_lam28 (K : PySem.W.Frag) : TE :=
    tIf (tTest (tOp rEq (tOp oMod (tVar 0) (tC (.int 3))) (tC (.int 0)))) (tC .non) (tVar 0)
theorem pure_lam28 {K : PySem.W.Frag} (vs : List V) (H : Hp) (Q : VK) (h : sp1 (mkD 28) vs H Q L2.E0) : t_lam28 K (NdefX.startF ["number"] vs []) H Q := by
  obtain ⟨n, d, S, rfl, fr, e, q⟩ := h
  obtain ⟨hn, e⟩ := mkD_at e
  cases e
  show t_lam28 K [some (.int n)] H Q
  unfold t_lam28
  walk_at "w"
  refine w_iteD (fun h1 => ?_) (fun h1 => ?_)
  · have h1 : n % 3 = 0 := V.int.inj h1
    walk_at "w"
    have := q .non H .refl
    rw [if_pos h1] at this
    exact this .non
  · have h1 : ¬ n % 3 = 0 := fun z => h1 (by rw [z])
    walk_at "w"
    have := q (.int n) H .refl
    rw [if_neg h1] at this
    exact this (.int _)
def t_lam30 (K : PySem.W.Frag) : TE :=
    tOp oGt (tVar 0) (tC (.int 2))
theorem pure_lam30 {K : PySem.W.Frag} (vs : List V) (H : Hp) (Q : VK) (h : sp1 (mkD 30) vs H Q L2.E0) : t_lam30 K (NdefX.startF ["number"] vs []) H Q := by
  obtain ⟨n, d, S, rfl, fr, e, q⟩ := h
  obtain ⟨hn, e⟩ := mkD_at e
  cases e
  show t_lam30 K [some (.int n)] H Q
  unfold t_lam30
  walk_at "w"
  exact q _ _ .refl (.bl _)
def t_lam29 (K : PySem.W.Frag) : TE :=
    tCB cMaxB (tCons (tVar 0) (tCons (tVar 1) (tNil)))
theorem pure_lam29 {K : PySem.W.Frag} (vs : List V) (H : Hp) (Q : VK) (h : sp2 (jnD 29) vs H Q L2.E0) : t_lam29 K (NdefX.startF ["one", "other"] vs []) H Q := by
  obtain ⟨x, y, dx, dy, d, S, rfl, rx, ry, fr, e, q⟩ := h

  obtain ⟨i, j, e1, e2, rfl⟩ := mxD_at e
  show t_lam29 K [some x, some y] H Q
  unfold t_lam29
  walk_at "w"
  refine ⟨x, y, i, j, rfl, r_ni rx e1, r_ni ry e2, ?_⟩
  refine q _ _ .refl ?_
  by_cases h : j > i
  · rw [if_pos h, if_pos h]; exact ry
  · rw [if_neg h, if_neg h]; exact rx
end Fg
namespace Fg
open PySem PySem.Spec PyProof.Rows L2
section
section
variable {P : Program} {w : World} {K : PySem.W.Frag} {mg : Str → Option Value} {base : Heap} {x qual : Str} {st : Stmt} {f : Addr} {fd : FuncData} {sp : Sp} {k : Nat}
/-- a method as it stands -/
abbrev MtP (K : PySem.W.Frag) (x qual : Str) (st : Stmt) (f : Addr) (fd : FuncData) : Prop := FunD K x qual (defArgs st) (defBody st) (defScope st) [] [] f fd
theorem MtP.go {N ps : List Str} (F : MtP K x qual st f fd) (S : FnScope N ps (defScope st)) (len : ∀ vs H Q E, sp vs H Q E → vs.length = ps.length) (t : TS)
    (pure : ∀ (vs : List V) (H : Hp) (Q : VK) (E : XK), sp vs H Q E → t { nx := fun _ H' => Q .non H', rt := Q } (start N vs) H)
    (hbody : ∀ (cdv : Value) (A : Around) (outer : List Env) (s : Shared) (H : Hp) (E : XK), Room k (A.deeper (envOfC qual (defScope st) s.heap.objs.size f cdv)) →
      PSs (cxOf CX0 P w K mg base N qual (defScope st) f cdv A outer s H E).nox (defBody st) t) : FnOk P w K mg base CX0 (k + 1) f fd ps sp :=
  F.ok S len fun cdv A outer s H vs Q E hr h => ⟨t, PSs.nox (hbody cdv A outer s H E hr), pure vs H Q E h⟩
end
end
end Fg
namespace PySem.SeqAt
open AutoSeq1 (wpAny_loadPart')
open MeetsSeq
end PySem.SeqAt
namespace L2
open PySem PySem.Spec PyProof.Rows
end L2
namespace Fg
open PySem PySem.Spec PyProof.Rows L2
section
variable {X : Cx}
structure MkI (P : Program) (w : World) (K : PySem.W.Frag) (mg : Str → Option Value) (base : Heap) (k : Nat) (x : Str) (C : Addr) (sp : Sp) (dvs : List V) : Prop where
  ex : ∃ (f : Addr) (fd : FuncData) (ps : List Str) (ds : List Value), Mk K C f ∧ FnOk P w K mg base CX0 k f fd ps sp ∧ mg x = some (.ref C) ∧ Binds K fd ps ds ∧ Vals dvs ds
theorem pe_mkI {k j : Nat} {x : Str} {C : Addr} {sp : Sp} {dvs : List V} {p pos : Pos} {e : Expr} {es : List Expr} {t : TA} (c : MkI X.prog X.w X.K X.mg X.base k x C sp dvs) (hr : Room j X.A) (hk : k + 1 ≤ j) (hg : Gl X x) (ha : PA X (e :: es) t)
    (hdb : (x == ("__debug__" : Str)) = false := by decide) (he : starEach (e :: es) X.env = (false, eval e X.env) :: starEach es X.env := by rfl) (hpl : (backTo pos (starEach es X.env)).any (·.1) = false := by rfl) :
    PE X (.Call (.Name x p) (e :: es) [] pos) (tMake C sp dvs E0 t) := by
  obtain ⟨f, fd, ps, ds, M, F, hm, b, d⟩ := c.ex
  exact pe_make M F (hr.mono hk) hg hm b d pass0 ha hdb he hpl
end
end Fg
namespace Fg
open PySem PySem.Spec PyProof.Rows L2
section
def KFld (K : PySem.W.Frag) (f : Str) (Q : VK) : VK := fun x H1 => ∃ a C dx fs v, x = .ref a ∧ H1 a = some (.ins C dx fs) ∧ Cls K C ∧ NoAttr K C f ∧ fs.lookup f = some v ∧ Q v H1
def KSet (K : PySem.W.Frag) (f : Str) (y : V) (N : Hp → Prop) : VK := fun x H2 => ∃ a C dx fs, x = .ref a ∧ H2 a = some (.ins C dx fs) ∧ Cls K C ∧ NoAttr K C f ∧ fs.length < 1000 ∧ N (upd H2 a (.ins C dx (putF f y fs)))
def KAugE (K : PySem.W.Frag) (C : Addr) (f : Str) (a : Addr) (N : Hp → Prop) : VK := fun z H3 => ∃ dx' fs', H3 a = some (.ins C dx' fs') ∧ fs'.length < 1000 ∧ N (upd H3 a (.ins C dx' (putF f z fs')))
def KAug (K : PySem.W.Frag) (tv : TE) (rd : V → V → Hp → VK → Prop) (f : Str) (D : Ends) (σ : L2.St) : VK := fun x H1 => ∃ a C dx fs v, x = .ref a ∧ H1 a = some (.ins C dx fs) ∧ Cls K C ∧ NoAttr K C f ∧ fs.lookup f = some v ∧ tv σ H1 fun y H2 => rd v y H2 (KAugE K C f a (D.nx σ))
section
variable {K : PySem.W.Frag} {σ : L2.St} {H : Hp} {D : Ends} {ta tv td ty tx : TE} {Q : VK} {f : Str} {tr : TA}
theorem w_fld (h : ta σ H (KFld K f Q)) : tFld K ta f σ H Q := h
theorem w_sfld (h : tv σ H fun y H1 => ta σ H1 (KSet K f y (D.nx σ))) : sFld K ta tv f D σ H := h
theorem w_faug {rd : V → V → Hp → VK → Prop} (h : ta σ H (KAug K tv rd f D σ)) : sFldAug K ta tv rd f D σ H := h
theorem w_rAdd {i j : Int} (q : Q (.int (i + j)) H) : L2.rAdd (.int i) (.int j) H Q := ⟨i, j, rfl, rfl, q⟩
theorem w_rSub {i j : Int} (q : Q (.int (i - j)) H) : L2.rSub (.int i) (.int j) H Q := ⟨i, j, rfl, rfl, q⟩
/-- a new instance x -/
def KMake (C : Addr) (sp : Sp) (dvs : List V) (E : XK) (Q : VK) : List V → Hp → Prop := fun vs H1 => ∀ x dx, H1 x = none → H1 dx = none → dx ≠ x → sp (.ref x :: (vs ++ dvs)) (upd (upd H1 dx (.own x)) x (.ins C dx [])) (fun v H2 => v = .non ∧ Q (.ref x) H2) E
theorem w_make {C : Addr} {sp : Sp} {dvs : List V} {E : XK} (h : tr σ H (KMake C sp dvs E Q)) : tMake C sp dvs E tr σ H Q := h
theorem k_make {C : Addr} {sp : Sp} {dvs vs : List V} {E : XK} {H1 : Hp} (h : ∀ x dx H2, H1 x = none → H1 dx = none → dx ≠ x → Chg [] H1 H2 → H2 x = some (.ins C dx []) → sp (.ref x :: (vs ++ dvs)) H2 (fun v H2 => v = .non ∧ Q (.ref x) H2) E) : KMake C sp dvs E Q vs H1 :=
  fun x dx nx nd ne => h x dx _ nx nd ne ((Chg.new nd).same (Chg.new (by rw [upd_ne (Ne.symm ne)]; exact nx))) upd_same
/-- x or y -/
def KOr (K : PySem.W.Frag) (tb : TE) (σ : L2.St) (Q : VK) : VK := fun x H1 => ∃ k, TruV K x H1 k ∧ if k = true then Q x H1 else tb σ H1 Q
theorem w_orT {tb : TE} (h : ta σ H (KOr K tb σ Q)) : tOrT K ta tb σ H Q := h
def KDG2 (ty tx : TE) (σ : L2.St) (Q : VK) : VK := fun x H1 => ∃ a, x = .ref a ∧ IsD H1 a ∧ ty σ H1 fun y H2 => tx σ H2 fun z H3 => ∃ o, DGet H3 a y o ∧ Q (o.getD z) H3
theorem w_dgetd (h : td σ H (KDG2 ty tx σ Q)) : tDGet2 td ty tx σ H Q := h
theorem k_dgetd {a : Addr} {kvs : List (Key × V)} (e : H a = some (.dK kvs)) (h : ty σ H fun y H2 => tx σ H2 fun z H3 => ∃ o, DGet H3 a y o ∧ Q (o.getD z) H3) : KDG2 ty tx σ Q (.ref a) H := ⟨a, rfl, .inl ⟨_, .inl e⟩, h⟩
def KDg (x : V) (Q : VK) : VK := fun y H2 => ∃ a v, x = .ref a ∧ DGet H2 a y (some v) ∧ Q v H2
theorem w_dgetk (h : td σ H fun x H1 => ty σ H1 (KDg x Q)) : tDGet td ty σ H Q := h
/-- d.setdefault(k, x) -/
def KDSe (a : Addr) (y : V) (Q : VK) : VK := fun z H3 => ∃ (kvs : List (Key × V)) (k : Key), H3 a = some (.dK kvs) ∧ y = kV k ∧ kvs.length < sizeLine ∧ (∀ v, valV kvs k = some v → Q v H3) ∧ (valV kvs k = none → Q z (upd H3 a (.dK (putK kvs k z))))
def KDSd (ty tx : TE) (σ : L2.St) (Q : VK) : VK := fun x H1 => ∃ a, x = .ref a ∧ IsD H1 a ∧ ty σ H1 fun y H2 => tx σ H2 (KDSe a y Q)
theorem w_dsetd (h : td σ H (KDSd ty tx σ Q)) : tDSetd td ty tx σ H Q := h
theorem k_dsetd {a : Addr} {kvs : List (Key × V)} (e : H a = some (.dK kvs)) (h : ty σ H fun y H2 => tx σ H2 (KDSe a y Q)) : KDSd ty tx σ Q (.ref a) H := ⟨a, rfl, .inl ⟨_, .inl e⟩, h⟩
end
end
section
abbrev NV := NestedKey × Addr × V
abbrev NU := NestedKey × Addr × Value
def entN (w : World) (x : NU) : DictEntry := ⟨x.1.hash w, .ref x.2.1, x.2.2⟩
def DnO (w : World) (a : Addr) (es : List NV) : HO := .ext fun h =>
  (a == sysModules) = false ∧ es.length ≤ sizeLine ∧ ∃ vs : List NU, Paired (fun p q => p.1 = q.1 ∧ p.2.1 = q.2.1 ∧ RelV p.2.2 q.2.2) es vs ∧
    ∃ o es' ep, h.get? a = some o ∧ o.ExactDict ∧ o.data = .dict es' ep ∧ es'.toList = vs.map (entN w) ∧ (vs.map (·.1)).Nodup
/-- at a stands a dict with these keys and values, in their order -/
def DnAt (w : World) (H : Hp) (a : Addr) (kvs : List (NestedKey × V)) : Prop :=
  ∃ es : List NV, H a = some (DnO w a es) ∧ (∀ e ∈ es, Im H (.ref e.2.1) e.1.data ∧ e.1.depth ≤ 8) ∧ kvs = es.map fun e => (e.1, e.2.2)
theorem DnAt.keep {w : World} {M : List Addr} {H H' : Hp} {a : Addr} {kvs : List (NestedKey × V)} (c : Chg M H H') (n : a ∉ M) (d : DnAt w H a kvs) : DnAt w H' a kvs :=
  let ⟨es, e, k, z⟩ := d; ⟨es, c.keep _ _ e n, fun x hx => ⟨(k x hx).1.im c, (k x hx).2⟩, z⟩
theorem DnAt.same {w : World} {H H' : Hp} {a : Addr} {kvs : List (NestedKey × V)} (c : Chg [] H H') (d : DnAt w H a kvs) : DnAt w H' a kvs := d.keep c (by simp)
theorem DnAt.some {w : World} {H : Hp} {a : Addr} {kvs : List (NestedKey × V)} (d : DnAt w H a kvs) : ∃ o, H a = some o := let ⟨_, e, _⟩ := d; ⟨_, e⟩
def NT (es : List NV) (vs : List NU) : Prop := Paired (fun (p : NV) (q : NU) => p.1 = q.1 ∧ p.2.1 = q.2.1 ∧ RelV p.2.2 q.2.2) es vs
theorem NT.val {es : List NV} {vs : List NU} (r : NT es vs) (k : NestedKey) : RelO (valV (es.map fun e => (e.1, e.2.2)) k) ((atKey vs k).map (·.2)) := by
  induction r with
  | nil => exact True.intro
  | @cons p q ps qs h t ih =>
    obtain ⟨h1, _, h2⟩ := h
    rw [List.map_cons]
    by_cases e : p.1 = k
    · have e' : q.1 = k := h1.symm.trans e
      have b : atKey (q :: qs) k = some q.2 := by simp [atKey, List.find?_cons, e']
      rw [valV_pos (p := (p.1, p.2.2)) e, b]; exact h2
    · have e' : ¬ q.1 = k := fun z => e (h1.trans z)
      have b : atKey (q :: qs) k = atKey qs k := by simp [atKey, List.find?_cons, e']
      rw [valV_neg (p := (p.1, p.2.2)) e, b]; exact ih
def putN (es : List NV) (k : NestedKey) (b : Addr) (v : V) : List NV :=
  if (es.any fun e => decide (e.1 = k)) = true then es.map (fun e => if e.1 = k then (e.1, e.2.1, v) else e) else es ++ [(k, b, v)]
theorem NT.put {es : List NV} {vs : List NU} (r : NT es vs) (k : NestedKey) (b : Addr) {v : V} {u : Value} (ru : RelV v u) : NT (putN es k b v) (storedH vs k b u) := by
  have e : (es.any fun e => decide (e.1 = k)) = (atKey vs k).isSome := by
    have := (r.val k).isSome_eq
    rw [← valV_any, List.any_map, Option.isSome_map] at this
    exact this
  unfold putN storedH
  rw [e]
  have repl : NT (es.map fun e => if e.1 = k then (e.1, e.2.1, v) else e) (vs.map (putAt k u)) := by
    clear e
    induction r with
    | nil => exact .nil
    | @cons p q ps qs h t ih =>
      rw [List.map_cons, List.map_cons]
      refine .cons ?_ ih
      obtain ⟨h1, h2, h3⟩ := h
      unfold putAt
      by_cases e : p.1 = k
      · rw [if_pos e, if_pos (h1.symm.trans e)]; exact ⟨h1, h2, ru⟩
      · rw [if_neg e, if_neg (fun z => e (h1.trans z))]; exact ⟨h1, h2, h3⟩
  by_cases q : (atKey vs k).isSome = true
  · rw [if_pos q, if_pos q]; exact repl
  · rw [if_neg q, if_neg q]; exact Paired.snoc r ⟨rfl, rfl, ru⟩
end
section
structure MtI (P : Program) (w : World) (K : PySem.W.Frag) (mg : Str → Option Value) (base : Heap) (k : Nat) (C : Addr) (m : Str) (sp : Sp) : Prop where
  ex : ∃ (f : Addr) (fd : FuncData) (ps : List Str), FnOk P w K mg base CX0 k f fd ps sp ∧ Cls K C ∧ Meth K C m f ∧ Binds K fd ps []
def tMakeX (C : Addr) (sp : Sp) (dvs : List V) (E : L2.St → XK) (t : TA) : TE := fun σ H Q => t σ H fun vs H1 => ∀ x dx, H1 x = none → H1 dx = none → dx ≠ x →
  sp (.ref x :: (vs ++ dvs)) (upd (upd H1 dx (.own x)) x (.ins C dx [])) (fun v H2 => v = .non ∧ Q (.ref x) H2) (E σ)
section
variable {X : Cx} {k j : Nat} {x m : Str} {C : Addr} {sp : Sp} {dvs : List V} {p pos apos : Pos} {e o : Expr} {es : List Expr} {ta : TE} {t : TA} {W : WX} {pl : Sem Bool}
theorem pe_mt (c : MtI X.prog X.w X.K X.mg X.base k C m sp) (hr : Room j X.A) (hk : k ≤ j) (he : PE X o ta) (ha : PA X (e :: es) t)
    (hst : starEach (e :: es) X.env = (false, eval e X.env) :: starEach es X.env := by rfl) (hpl : (backTo pos (starEach es X.env)).any (·.1) = false := by rfl)
    (ht : eval (.Call (.Attribute o m apos) (e :: es) [] pos) X.env = (do
      let ov ← eval o X.env
      standAt apos.atName
      let (f, first) ← holding [ov] (getMethod ov m pl)
      callWith pos f first (backTo pos (starEach (e :: es) X.env)) (backToKw pos (keywordEach [] X.env))) := by rfl) :
    PE X (.Call (.Attribute o m apos) (e :: es) [] pos) (tMeth C m sp [] E0 ta t) := by
  obtain ⟨f, fd, ps, F, cl, hm, b⟩ := c.ex
  exact pe_meth he cl hm F (hr.mono hk) b .nil pass0 ha hst hpl ht
end
def KMt (C : Addr) (m : Str) (N : V → Hp → Prop) : VK := fun x H1 => ∃ a dx fs, x = .ref a ∧ H1 a = some (.ins C dx fs) ∧ fs.lookup m = none ∧ N x H1
section
variable {K : PySem.W.Frag} {σ : L2.St} {H : Hp} {D : Ends} {te ta to ti : TE} {tr t : TA} {Q : VK} {C a : Addr} {m : Str} {sp : Sp} {dvs : List V} {RI : It → Hp → Prop} {xs : List V}
theorem w_mt {E : XK} (h : ta σ H (KMt C m fun x H1 => t σ H1 fun vs H2 => sp (x :: (vs ++ dvs)) H2 Q E)) : tMeth C m sp dvs E ta t σ H Q := h
def KMakeX (C : Addr) (sp : Sp) (dvs : List V) (E : XK) (Q : VK) : List V → Hp → Prop := fun vs H1 => ∀ x dx, H1 x = none → H1 dx = none → dx ≠ x → sp (.ref x :: (vs ++ dvs)) (upd (upd H1 dx (.own x)) x (.ins C dx [])) (fun v H2 => v = .non ∧ Q (.ref x) H2) E
theorem w_makeX {E : L2.St → XK} (h : tr σ H (KMakeX C sp dvs (E σ) Q)) : tMakeX C sp dvs E tr σ H Q := h
end
end
end Fg
namespace Fg
open PySem PySem.Spec PyProof.Rows L2 LamX LmX
def O_Kind (K : PySem.W.Frag) (dx : Addr) (v0 v1 v2 v3 : V) : HO := .ins (He.ga K "Kind") dx [("joining", v0), ("none", v1), ("making", v2), ("word", v3)]
structure C_Kind (K : PySem.W.Frag) : Prop where
  cl : Cls K (He.ga K "Kind")
  n_joining : NoAttr K (He.ga K "Kind") "joining"
  n_none : NoAttr K (He.ga K "Kind") "none"
  n_making : NoAttr K (He.ga K "Kind") "making"
  n_word : NoAttr K (He.ga K "Kind") "word"
section
variable {K : PySem.W.Frag} {H : Hp} {Q : VK} {N : Hp → Prop} {a dx : Addr} {v0 v1 v2 v3 y : V}
theorem g_Kind_joining (c : C_Kind K) (h : H a = some (O_Kind K dx v0 v1 v2 v3)) (q : Q v0 H) : KFld K "joining" Q (.ref a) H := ⟨a, _, dx, _, v0, rfl, h, c.cl, c.n_joining, rfl, q⟩
theorem n_Kind_joining (c : C_Kind K) (h : H a = some (.ins (He.ga K "Kind") dx [])) (q : ∀ H', Chg [a] H H' → H' a = some (.ins (He.ga K "Kind") dx [("joining", y)]) → N H') : KSet K "joining" y N (.ref a) H := ⟨a, _, dx, _, rfl, h, c.cl, c.n_joining, by simp, q _ (.mut h fun _ e => nomatch e) upd_same⟩
theorem g_Kind_none (c : C_Kind K) (h : H a = some (O_Kind K dx v0 v1 v2 v3)) (q : Q v1 H) : KFld K "none" Q (.ref a) H := ⟨a, _, dx, _, v1, rfl, h, c.cl, c.n_none, rfl, q⟩
theorem n_Kind_none (c : C_Kind K) (h : H a = some (.ins (He.ga K "Kind") dx [("joining", v0)])) (q : ∀ H', Chg [a] H H' → H' a = some (.ins (He.ga K "Kind") dx [("joining", v0), ("none", y)]) → N H') : KSet K "none" y N (.ref a) H := ⟨a, _, dx, _, rfl, h, c.cl, c.n_none, by simp, q _ (.mut h fun _ e => nomatch e) upd_same⟩
theorem g_Kind_making (c : C_Kind K) (h : H a = some (O_Kind K dx v0 v1 v2 v3)) (q : Q v2 H) : KFld K "making" Q (.ref a) H := ⟨a, _, dx, _, v2, rfl, h, c.cl, c.n_making, rfl, q⟩
theorem n_Kind_making (c : C_Kind K) (h : H a = some (.ins (He.ga K "Kind") dx [("joining", v0), ("none", v1)])) (q : ∀ H', Chg [a] H H' → H' a = some (.ins (He.ga K "Kind") dx [("joining", v0), ("none", v1), ("making", y)]) → N H') : KSet K "making" y N (.ref a) H := ⟨a, _, dx, _, rfl, h, c.cl, c.n_making, by simp, q _ (.mut h fun _ e => nomatch e) upd_same⟩
theorem g_Kind_word (c : C_Kind K) (h : H a = some (O_Kind K dx v0 v1 v2 v3)) (q : Q v3 H) : KFld K "word" Q (.ref a) H := ⟨a, _, dx, _, v3, rfl, h, c.cl, c.n_word, rfl, q⟩
theorem n_Kind_word (c : C_Kind K) (h : H a = some (.ins (He.ga K "Kind") dx [("joining", v0), ("none", v1), ("making", v2)])) (q : ∀ H', Chg [a] H H' → H' a = some (.ins (He.ga K "Kind") dx [("joining", v0), ("none", v1), ("making", v2), ("word", y)]) → N H') : KSet K "word" y N (.ref a) H := ⟨a, _, dx, _, rfl, h, c.cl, c.n_word, by simp, q _ (.mut h fun _ e => nomatch e) upd_same⟩
end
section
variable {K : PySem.W.Frag} {H : Hp} {Q : VK} {N : V → Hp → Prop} {a dx : Addr} {v0 v1 v2 v3 y : V} {m : Str}
theorem m_Kind (h : H a = some (O_Kind K dx v0 v1 v2 v3)) (hm : ([("joining", v0), ("none", v1), ("making", v2), ("word", v3)] : List (Str × V)).lookup m = none) (q : N (.ref a) H) : KMt (He.ga K "Kind") m N (.ref a) H := ⟨a, dx, _, rfl, h, hm, q⟩
end
end Fg
namespace LmX
open PySem PySem.Spec PyProof.Rows L2 LamX NdefX
/-- the object at c is the cell o, which holds v -/
def CellX (c : Addr) (v : V) (o : Obj) : HO := .ext fun h => h.get? c = some o ∧ ∃ u, o.data = .cell (some u) ∧ L2.RelV v u
def on (cs : List Addr) (g : Addr → HO) (H : Hp) : Hp := fun b => if b ∈ cs then some (g b) else H b
def off (cs : List Addr) (H : Hp) : Hp := fun b => if b ∈ cs then none else H b
theorem on_in {cs : List Addr} {g : Addr → HO} {H : Hp} {b : Addr} (h : b ∈ cs) : on cs g H b = some (g b) := if_pos h
theorem on_out {cs : List Addr} {g : Addr → HO} {H : Hp} {b : Addr} (h : b ∉ cs) : on cs g H b = H b := if_neg h
theorem off_in {cs : List Addr} {H : Hp} {b : Addr} (h : b ∈ cs) : off cs H b = none := if_pos h
theorem off_out {cs : List Addr} {H : Hp} {b : Addr} (h : b ∉ cs) : off cs H b = H b := if_neg h
theorem on_keep {cs : List Addr} {g : Addr → HO} {H : Hp} (n : ∀ c ∈ cs, H c = none) {b : Addr} {o : HO} (e : H b = some o) : on cs g H b = some o := by
  rw [on_out fun m => by rw [n b m] at e; cases e]
  exact e
theorem off_on {cs : List Addr} {g : Addr → HO} {H : Hp} (n : ∀ c ∈ cs, H c = none) : off cs (on cs g H) = H := funext fun b => by
  by_cases m : b ∈ cs
  · rw [off_in m, n b m]
  · rw [off_out m, on_out m]
/-- the cells' records -/
abbrev cg (vv : Addr → V) (oo : Addr → Obj) : Addr → HO := fun c => CellX c (vv c) (oo c)
section
variable {P : Program} {w : World} {cs : List Addr} {H H' : Hp} {h h' : Heap} {vv : Addr → V} {oo : Addr → Obj} {fs : List Addr}
theorem hok_on (k : HOk P w H h) (n : ∀ c ∈ cs, H c = none) (q : ∀ c ∈ cs, h.get? c = some (oo c) ∧ ∃ u, (oo c).data = .cell (some u) ∧ L2.RelV (vv c) u) : HOk P w (on cs (cg vv oo) H) h := fun b o e => by
  by_cases m : b ∈ cs
  · rw [on_in m] at e
    cases e
    obtain ⟨q1, q2⟩ := q b m
    exact ⟨⟨q1, q2⟩, ⟨_, q1⟩, fun h1 h2 ⟨z1, z2⟩ st => ⟨st _ z1, z2⟩⟩
  · rw [on_out m] at e
    exact (k b o e).stay (fun _ _ _ z => z) (fun _ z => on_keep n z) fun _ _ z => on_keep n z
theorem hok_off (k : HOk P w H' h) (n : ∀ c ∈ cs, H' c = some (cg vv oo c)) : HOk P w (off cs H') h := fun b o e => by
  by_cases m : b ∈ cs
  · rw [off_in m] at e; cases e
  · rw [off_out m] at e
    refine (k b o e).stay (fun _ _ _ z => z) (fun c z => ?_) fun c _ z => ?_
    · rw [off_out fun m2 => by rw [n c m2] at z; cases z]; exact z
    · rw [off_out fun m2 => by rw [n c m2] at z; cases z]; exact z
theorem cell_at (k : HOk P w H' h) {c : Addr} (e : H' c = some (cg vv oo c)) : h.get? c = some (oo c) := (k c _ e).1.1
/-- behind a call that knew the cells -/
theorem un_off (u : Un fs [] (on cs (cg vv oo) H) H' h h') (k : HOk P w H' h') (n : ∀ c ∈ cs, H c = none) (ho : ∀ c ∈ cs, h.get? c = some (oo c)) (n' : ∀ c ∈ cs, H' c = some (cg vv oo c)) : Un fs [] H (off cs H') h h' := by
  have out : ∀ {b : Addr}, b ∉ cs → H b = none → on cs (cg vv oo) H b = none := fun m e => by rw [on_out m]; exact e
  refine ⟨fun b o e z f x => ?_, fun b o e z f x => ?_, fun b o e z x => ?_, fun b o e x => u.there b o e x, fun b xs e => ?_, fun b o v e => ?_, fun b ps e => ?_⟩
  · by_cases m : b ∈ cs
    · rw [ho b m] at e
      cases e
      exact cell_at k (n' b m)
    · exact u.keep b o e (out m z) f x
  · by_cases m : b ∈ cs
    · rw [ho b m] at e
      cases e
      exact ⟨_, cell_at k (n' b m)⟩
    · exact u.slot b o e (out m z) f x
  · by_cases m : b ∈ cs
    · exact off_in m
    · rw [off_out m]; exact u.free b o e (out m z) x
  · have m : b ∉ cs := fun m => by rw [n b m] at e; cases e
    rw [off_out m]; exact u.tups b xs (by rw [on_out m]; exact e)
  · have m : b ∉ cs := fun m => by rw [n b m] at e; cases e
    rw [off_out m]; exact u.frzs b o v (by rw [on_out m]; exact e)
  · have m : b ∉ cs := fun m => by rw [n b m] at e; cases e
    rw [off_out m]; exact u.tbls b ps (by rw [on_out m]; exact e)
/-- behind a run that did not know them -/
theorem un_on (u : Un fs [] (off cs H) H' h h') (n : ∀ c ∈ cs, H c = some (cg vv oo c)) (hf : ∀ c ∈ cs, c ∉ fs) (ho : ∀ c ∈ cs, h.get? c = some (oo c)) : Un fs [] H (on cs (cg vv oo) H') h h' ∧ (∀ c ∈ cs, H' c = none) ∧ ∀ c ∈ cs, h'.get? c = some (oo c) := by
  have fre : ∀ c ∈ cs, H' c = none := fun c m => u.free c _ (ho c m) (off_in m) (by simp)
  have ou : ∀ {b : Addr}, H b = none → b ∉ cs := fun e m => by rw [n _ m] at e; cases e
  refine ⟨⟨fun b o e z f x => u.keep b o e (by rw [off_out (ou z)]; exact z) f x, fun b o e z f x => u.slot b o e (by rw [off_out (ou z)]; exact z) f x, fun b o e z x => ?_, fun b o e x => u.there b o e x, fun b xs e => ?_, fun b o v e => ?_, fun b ps e => ?_⟩, fre, fun c m => u.keep c _ (ho c m) (off_in m) (hf c m) (by simp)⟩
  · rw [on_out (ou z)]; exact u.free b o e (by rw [off_out (ou z)]; exact z) x
  · have m : b ∉ cs := fun m => by rw [n b m] at e; cases e
    rw [on_out m]; exact u.tups b xs (by rw [off_out m]; exact e)
  · have m : b ∉ cs := fun m => by rw [n b m] at e; cases e
    rw [on_out m]; exact u.frzs b o v (by rw [off_out m]; exact e)
  · have m : b ∉ cs := fun m => by rw [n b m] at e; cases e
    rw [on_out m]; exact u.tbls b ps (by rw [off_out m]; exact e)
end
abbrev nfOfC (q : Str) (params : Arguments) (scope : Scope) (cl : List (Str × Addr)) (c : Addr) : NF := ⟨"<lambda>", q, params, [], scope, cl, c⟩
structure LmC (P : Program) (w : World) (K : PySem.W.Frag) (mg : Str → Option Value) (base : Heap) (k : Nat) (mk : List (Str × Addr) → Addr → LF) (fr : List Str) (sp : List V → Sp) : Prop where
  run : ∀ (cl : List (Str × Addr)) (f c' : Addr) (A : Around) (outer : List Env) (s : Shared) (H : Hp) (us : List Value) (vs ws : List V) (Q : VK), Room k A → Env0 P w K mg base A outer s H → H f = some (LmO f (mk cl c')) → H c' = some (CodeO c' (mk cl c').qual) →
    CellsAt cl fr (ws.map some) s.heap H → Vals vs us → sp ws vs H Q L2.E0 → codeAny (model P w) A (.call (.ref f) ⟨us, []⟩) (CR L2.CX0 outer P w H s Q L2.E0) s
section
variable {P : Program} {w : World} {K : PySem.W.Frag} {mg : Str → Option Value} {base : Heap} {k j : Nat} {mk : List (Str × Addr) → Addr → LF} {sp : List V → Sp} {fr : List Str}
theorem LmC.mono (o : LmC P w K mg base j mk fr sp) (h : j ≤ k) : LmC P w K mg base k mk fr sp := ⟨fun cl f c' A outer s H us vs ws Q hr => o.run cl f c' A outer s H us vs ws Q (hr.mono h)⟩
theorem lmc_of {N ps : List Str} {q : Str} {params : Arguments} {body : Expr} {scope : Scope} (hmk : ∀ cl c', mk cl c' = ⟨q, params, body, scope, cl, c'⟩) (S : NScope N ps fr scope)
    (hb : ∀ (cl : List (Str × Addr)) (pm cdv ctv : Value) (us : List Value), us.length = ps.length → bindArgs (PySem.W.kla_fn "<lambda>" q params body scope cl pm cdv ctv) ⟨us, []⟩ = pure (ps.zip us)) (len : ∀ ws vs H Q E, sp ws vs H Q E → vs.length = ps.length) (t : TE)
    (pure : ∀ (ws vs : List V) (H : Hp) (Q : VK), ws.length = fr.length → sp ws vs H Q L2.E0 → t (startF N vs (ws.map some)) H Q)
    (hbody : ∀ (cl : List (Str × Addr)) (f c' : Addr) (A : Around) (outer : List Env) (s : Shared) (H : Hp), Room k (A.deeper (envF (nfOfC q params scope cl c') f s.heap.objs.size)) → PE (ncx L2.CX0 P w K mg base N (nfOfC q params scope cl c') f A outer s H L2.E0).nox body t) : LmC P w K mg base (k + 1) mk fr sp := by
  refine ⟨fun cl f c' A outer s H us vs ws Q hr e0 hf hc C r hsp => ?_⟩
  have hl := len _ _ _ _ _ hsp
  have lim : s.heap.NoLimit := e0.mod.nolimit.keeps fun b o e => (e0.bs b o e).1
  rw [hmk cl c'] at hf hc
  obtain ⟨od, sl, pm, ctv, ho⟩ := lmO_at e0.hok hf
  refine PySem.W.kla_callFunE hr.depth ho rfl S.co S.gen rfl (codeO_at e0.hok hc) ?_
  rw [hb cl pm (.ref c') ctv us (by rw [← r.length]; exact hl)]
  refine wpAny_pure (wpAny_newFunctionEnv S.nocell (fun ⟨n, _⟩ hy => S.par n (List.of_mem_zip hy).1) (fun h₁ hns hsb => ⟨lim.fresh _ hsb, ?_⟩) S.kind)
  show codeAny _ _ (.expr body (envF (nfOfC q params scope cl c') f s.heap.objs.size)) _ _
  have kp : ∀ b o, s.heap.get? b = some o → h₁.get? b = some o := fun b o e => hsb.extBut b o (Nat.ne_of_lt (Heap.lt_size e)) (Heap.get?_push_of_some _ e)
  have I : Inv (ncx L2.CX0 P w K mg base N (nfOfC q params scope cl c') f A outer s H L2.E0) [] (startF N vs (ws.map some)) H { s with heap := h₁, toks := s.toks + (ps.zip us).length } := inv_startN S hr.hd e0 hl r C hns kp
  have hw : ws.length = fr.length := by rw [← C.len, List.length_map]
  refine PySem.W.kla_codeExpr (wpAny_mono ((PE.nox (hbody cl f c' A outer s H (hr.deeper _))).run [] _ _ H Q I (pure ws vs H Q hw hsp)) (fun v s' hq => ?_) fun e s' hq => hq)
  obtain ⟨w', H', J, rv, q'⟩ := hq
  exact ⟨w', H', J.os, J.bare, J.base, J.hok, rv, q'⟩
/-- the cells cs of a lambda as H tells them -/
structure CapH (cl : List (Str × Addr)) (fr : List Str) (cs : List Addr) (ws : List V) (vv : Addr → V) (oo : Addr → Obj) (H : Hp) : Prop where
  at_ : ∀ c ∈ cs, H c = some (cg vv oo c)
  all : ∀ y c, cl.lookup y = some c → c ∈ cs
  inj : ∀ x y c, cl.lookup x = some c → cl.lookup y = some c → x = y
  len : ws.length = fr.length
  has : ∀ (i : Nat) (y : Str), fr[i]? = some y → ∃ c v, cl.lookup y = some c ∧ ws[i]? = some v ∧ vv c = v
/-- the lambda is called where its cells are told: it runs without, and leaves them -/
theorem LmC.cap (o : LmC P w K mg base k mk fr sp) {cl : List (Str × Addr)} {f c' : Addr} {A : Around} {outer : List Env} {s : Shared} {H : Hp} {us : List Value} {vs ws : List V} {Q : VK} {cs : List Addr} {vv : Addr → V} {oo : Addr → Obj} (hr : Room k A) (e0 : Env0 P w K mg base A outer s H)
    (hf : H f = some (LmO f (mk cl c'))) (hc : H c' = some (CodeO c' (mk cl c').qual)) (nf : f ∉ cs) (nc : c' ∉ cs) (C : CapH cl fr cs ws vv oo H) (r : Vals vs us) (hsp : sp ws vs (off cs H) (fun v H' => (∀ c ∈ cs, H' c = none) → Q v (on cs (cg vv oo) H')) L2.E0) :
    codeAny (model P w) A (.call (.ref f) ⟨us, []⟩) (CR L2.CX0 outer P w H s Q L2.E0) s := by
  have ho : ∀ c ∈ cs, s.heap.get? c = some (oo c) := fun c m => cell_at e0.hok (C.at_ c m)
  have hfr : ∀ c ∈ cs, c ∉ frs outer := fun c m z => by have := e0.frf c z; rw [C.at_ c m] at this; cases this
  have e1 : Env0 P w K mg base A outer s (off cs H) := ⟨e0.frames, e0.mod, fun b u e => ⟨(e0.bs b u e).1, by
      by_cases m : b ∈ cs
      · exact off_in m
      · rw [off_out m]; exact (e0.bs b u e).2⟩, e0.bsz, e0.funs, fun b z => by
      by_cases m : b ∈ cs
      · exact off_in m
      · rw [off_out m]; exact e0.frf b z, hok_off e0.hok C.at_, e0.bare⟩
  have CA : CellsAt cl fr (ws.map some) s.heap (off cs H) := by
    refine ⟨by rw [List.length_map]; exact C.len, fun y c e => ⟨off_in (C.all y c e), ?_⟩, C.inj, fun i y e => ?_⟩
    · obtain ⟨q1, u, q2, _⟩ := (e0.hok c _ (C.at_ c (C.all y c e))).1
      exact ⟨_, _, q1, q2⟩
    · obtain ⟨c, v, h1, h2, h3⟩ := C.has i y e
      refine ⟨c, h1, fun v' h4 => ?_⟩
      rw [List.getElem?_map, h2] at h4
      cases h4
      obtain ⟨q1, u, q2, q3⟩ := (e0.hok c _ (C.at_ c (C.all y c h1))).1
      exact ⟨u, by rw [← h3]; exact q3, _, q1, q2⟩
  refine codeAny_mono (o.run cl f c' A outer s (off cs H) us vs ws _ hr e1 (by rw [off_out nf]; exact hf) (by rw [off_out nc]; exact hc) CA r hsp) fun r s' hq => ?_
  cases r with
  | error e => exact hq
  | ok fl =>
    cases fl with
    | ret u =>
      obtain ⟨v, H', h1, h2, h3, h4, h5, h6⟩ := hq
      obtain ⟨u1, u2, u3⟩ := un_on h3 C.at_ hfr ho
      refine ⟨v, _, h1, h2, u1, hok_on h4 u2 (fun c m => ⟨u3 c m, ?_⟩), h5, h6 u2⟩
      exact ((e0.hok c _ (C.at_ c m)).1).2
    | next => exact hq
    | brk => exact hq
    | cont => exact hq
end
def cvv (cs : List Addr) (ws : List V) : Addr → V := fun c => ((cs.zip ws).lookup c).getD .non
def tCallC (cs : List Addr) (js : List Nat) (sp : Sp) (t : TA) : TE := fun σ H Q => t σ H fun vs H1 => ∃ ws : List V, js.map (slotAt σ) = ws.map some ∧ ∀ oo : Addr → Obj, (∀ c ∈ cs, H1 c = none) →
  sp vs (on cs (cg (cvv cs ws) oo) H1) (fun v H' => (∀ c ∈ cs, H' c = some (cg (cvv cs ws) oo c)) ∧ Q v (off cs H')) L2.E0
/-- the slots js are names in the cells cs -/
structure CellsJ (X : Cx) (cs : List Addr) (js : List Nat) : Prop where
  len : cs.length = js.length
  nd : cs.Nodup
  at_ : ∀ (i : Nat) (c : Addr) (j : Nat), cs[i]? = some c → js[i]? = some j → ∃ y, X.N[j]? = some y ∧ X.env.scope.names.lookup y = some .cell ∧ X.env.cells.lookup y = some c ∧ X.fn y = true
theorem zip_get : ∀ {cs : List Addr} {ws : List V} {i : Nat} {c : Addr} {v : V}, cs.Nodup → cs[i]? = some c → ws[i]? = some v → (cs.zip ws).lookup c = some v
  | [], _, _, _, _, _, h, _ => by simp at h
  | _ :: _, [], _, _, _, _, _, h => by simp at h
  | p :: ps, v :: us, 0, x, u, nd, h1, h2 => by
    simp at h1 h2
    subst h1 h2
    simp [List.lookup]
  | p :: ps, v :: us, i + 1, x, u, nd, h1, h2 => by
    have e : (ps.zip us).lookup x = some u := zip_get (i := i) (List.nodup_cons.mp nd).2 (by simpa using h1) (by simpa using h2)
    have ne : x ≠ p := fun z => (List.nodup_cons.mp nd).1 (by rw [← z]; exact List.mem_of_getElem? (by simpa using h1))
    rw [List.zip_cons_cons, List.lookup_cons, show (x == p) = false from beq_false_of_ne ne]
    exact e
section
variable {X : Cx} {k j : Nat} {x : Str} {sp : Sp} {p pos : Pos} {e : Expr} {es : List Expr} {t : TA} {cs : List Addr} {js : List Nat}
theorem pe_cC (c : Fg.Cal X.prog X.w X.K X.mg X.base k x sp []) (hr : Room j X.A) (hk : k ≤ j) (cj : CellsJ X cs js) (hg : Gl X x) (ha : PA X (e :: es) t)
    (hdb : (x == ("__debug__" : Str)) = false := by decide) (he : starEach (e :: es) X.env = (false, eval e X.env) :: starEach es X.env := by rfl) (hpl : (backTo pos (starEach es X.env)).any (·.1) = false := by rfl) :
    PE X (.Call (.Name x p) (e :: es) [] pos) (tCallC cs js sp t) := by
  obtain ⟨f, fd, ps, ds, F, hm, kp, b, d⟩ := c.ex
  cases d
  refine ⟨fun pins s σ H Q I h => ?_⟩
  refine wpAny_Call_Name_kw (ld_glob I hg hm ?_ hdb)
  refine PySem.W.callWith_K (h₀ := X.base) I.ok.mod.kin kp (thn (ha.run pos pins s σ H _ I h) fun us s1 ⟨vs, H1, I1, r, q⟩ => ⟨I1.kIn, ?_⟩) he hpl
  have J := cj
  obtain ⟨ws, ew, q⟩ := q
  -- each cell's object
  have cell : ∀ i c, cs[i]? = some c → ∃ (o : Obj) (v : V) (u : Value), ws[i]? = some v ∧ s1.heap.get? c = some o ∧ o.data = .cell (some u) ∧ L2.RelV v u := fun i c hi => by
    have hl : i < js.length := by rw [← J.len]; exact (List.getElem?_eq_some_iff.mp hi).1
    obtain ⟨y, h1, h2, h3, _⟩ := J.at_ i c js[i] hi (List.getElem?_eq_getElem hl)
    have hw : (js.map (slotAt σ))[i]? = (ws.map some)[i]? := by rw [ew]
    rw [List.getElem?_map, List.getElem?_map, List.getElem?_eq_getElem hl] at hw
    cases ev : ws[i]? with
    | none => rw [ev] at hw; cases hw
    | some v =>
      rw [ev] at hw
      have hw : slotAt σ js[i] = some v := Option.some.inj hw
      obtain ⟨m, hn, hl2⟩ := I1.loc
      obtain ⟨u, ru, lk⟩ := hl2 _ y v h1 (slotAt_some hw) (.inr (.inl h2))
      rcases lk with ⟨lk, _⟩ | ⟨_, c2, e2, o, ho, hd⟩
      · have lk : X.env.scope.names.lookup y = some .local := lk
        rw [h2] at lk; cases lk
      · rw [h3] at e2; cases e2
        exact ⟨o, v, u, ev, ho, hd, ru⟩
  have mem : ∀ c ∈ cs, ∃ i, cs[i]? = some c := fun c m => List.mem_iff_getElem?.mp m
  have nn : ∀ c ∈ cs, H1 c = none := fun c m => by
    obtain ⟨i, hi⟩ := mem c m
    have hl : i < js.length := by rw [← J.len]; exact (List.getElem?_eq_some_iff.mp hi).1
    obtain ⟨y, h1, h2, h3, _⟩ := J.at_ i c js[i] hi (List.getElem?_eq_getElem hl)
    exact I1.freeC y c h3
  have nfs : ∀ c ∈ cs, c ∉ frs X.stack := fun c m z => by
    obtain ⟨i, hi⟩ := mem c m
    have hl : i < js.length := by rw [← J.len]; exact (List.getElem?_eq_some_iff.mp hi).1
    obtain ⟨y, h1, h2, h3, h4⟩ := J.at_ i c js[i] hi (List.getElem?_eq_getElem hl)
    have cab := I1.ok.cab y c h4 h3
    rcases List.mem_cons.mp (I1.stkSub c z) with e | z
    · exact I1.cne y c h3 e
    · obtain ⟨_, o, ho, _⟩ := I1.ok.funs.mem z
      exact absurd (Nat.lt_of_lt_of_le (Heap.lt_size ho) cab) (Nat.lt_irrefl _)
  have nbs : ∀ c ∈ cs, X.base.get? c = none := fun c m => by
    obtain ⟨i, hi⟩ := mem c m
    have hl : i < js.length := by rw [← J.len]; exact (List.getElem?_eq_some_iff.mp hi).1
    obtain ⟨y, h1, h2, h3, h4⟩ := J.at_ i c js[i] hi (List.getElem?_eq_getElem hl)
    exact Heap.get?_none_of_le (Nat.le_trans I1.ok.bsz (I1.ok.cab y c h4 h3))
  have hob : ∃ oo : Addr → Obj, ∀ c ∈ cs, s1.heap.get? c = some (oo c) ∧ ∃ u, (oo c).data = .cell (some u) ∧ L2.RelV (cvv cs ws c) u := by
    have : ∀ c : Addr, ∃ o : Obj, c ∈ cs → s1.heap.get? c = some o ∧ ∃ u, o.data = .cell (some u) ∧ L2.RelV (cvv cs ws c) u := fun c => by
      by_cases m : c ∈ cs
      · obtain ⟨i, hi⟩ := mem c m
        obtain ⟨o, v, u, h1, h2, h3, h4⟩ := cell i c hi
        have ev : cvv cs ws c = v := by unfold cvv; rw [zip_get J.nd hi h1]; rfl
        exact ⟨o, fun _ => ⟨h2, u, h3, by rw [ev]; exact h4⟩⟩
      · exact ⟨⟨.none, none, .fields #[], #[]⟩, fun z => absurd z m⟩
    exact ⟨fun c => Classical.choose (this c), fun c m => Classical.choose_spec (this c) m⟩
  obtain ⟨oo, hoo⟩ := hob
  have q := q oo nn
  have e0 := I1.env0
  have e1 : Env0 X.prog X.w X.K X.mg X.base X.A X.stack s1 (on cs (cg (cvv cs ws) oo) H1) := ⟨e0.frames, e0.mod, fun b u e => ⟨(e0.bs b u e).1, by
      rw [on_out fun m => by rw [nbs b m] at e; cases e]; exact (e0.bs b u e).2⟩, e0.bsz, e0.funs, fun b z => by
      rw [on_out fun m => nfs b m z]; exact e0.frf b z, hok_on e0.hok nn hoo, e0.bare⟩
  have r2 : Vals (vs ++ []) (us ++ []) := r.append .nil
  have hl : (us ++ []).length = ps.length := by rw [← r2.length]; rw [List.append_nil]; exact F.len _ _ _ _ q
  refine wpAny_call (codeAny_mono (F.run X.A X.stack s1 _ ⟨us, []⟩ (us ++ []) (vs ++ []) _ L2.E0 (hr.mono hk) e1 (b s1 us I1.kIn hl) r2 (by rw [List.append_nil]; exact q)) fun r s' hq => ?_)
  cases r with
  | error e => exact (L2.pass0 (X := X) pins σ H1 s1 e s' I1 hq)
  | ok fl =>
    cases fl with
    | ret u =>
      obtain ⟨v, H', h1, h2, h3, h4, h5, h6, h7⟩ := hq
      exact I1.after ⟨v, _, h1, h2, un_off h3 h4 nn (fun c m => (hoo c m).1) h6, hok_off h4 h6, h5, h7⟩
    | next => exact False.elim hq
    | brk => exact False.elim hq
    | cont => exact False.elim hq
end
end LmX
namespace Fg
open PySem PySem.Spec PyProof.Rows L2 LamX LmX
local macro_rules | `(tactic| walk_at "hp") => `(tactic| first
  | assumption
  | exact upd_same
  | (refine Chg.at (by assumption) ?_; walk_at "hp")
  | (refine Chg.at1 (by assumption) ?_ (by walk_at "ne"); walk_at "hp"))
local macro_rules | `(tactic| walk_at "ne") => `(tactic| first | assumption | (apply Ne.symm; assumption))
local macro_rules | `(tactic| walk_at "sq") => `(tactic| first | assumption | exact sqL (by walk_at "hp") | (refine Chg.seq (by assumption) ?_; walk_at "sq"))
local macro_rules | `(tactic| walk_at "sz") => `(tactic| first | assumption | exact Nat.zero_le _ | (simp only [List.length_cons, List.length_nil]; decide) | exact Nat.le_trans (by first | omega | (simp; done) | (simp; omega)) (show 100000 ≤ sizeLine by decide) | exact Nat.lt_of_lt_of_le (by first | omega | (simp; done) | (simp; omega)) (show 100000 ≤ sizeLine by decide))
local macro_rules | `(tactic| walk_at "ix") => `(tactic| first | exact at0 | exact at1 | exact at2 | exact at3 | assumption | exact rfl | walk_at "ix2")
local macro_rules | `(tactic| walk_at "ix2") => `(tactic| fail)
local macro_rules | `(tactic| walk_at "num") => `(tactic| first | assumption | omega | decide | walk_at "num2")
local macro_rules | `(tactic| walk_at "num2") => `(tactic| fail)
local macro_rules | `(tactic| walk_at "im") => `(tactic| first | assumption | exact R.non (S := fun _ => False) | exact R.bl (S := fun _ => False) _ | exact R.int (S := fun _ => False) _ | exact R.str (S := fun _ => False) _ | (refine R.im (by assumption) ?_; walk_at "im"))
local macro_rules | `(tactic| walk_at "r") => `(tactic| first | assumption | exact R.non (S := fun _ => False) | exact R.bl (S := fun _ => False) _ | exact R.int (S := fun _ => False) _ | exact R.str (S := fun _ => False) _ | (refine R.same (by assumption) ?_; walk_at "r") | exact R.any (by walk_at "im"))
local macro_rules | `(tactic| walk_at "chg") => `(tactic| first
  | exact Chg.refl
  | assumption
  | (refine Chg.same ?_ (by assumption); walk_at "chg")
  | (refine Chg.both ?_ (by assumption); walk_at "chg")
  | (refine Chg.pre (by assumption) ?_; walk_at "chg"))
local macro_rules | `(tactic| walk_at "w1") => `(tactic| first
  | with_reducible apply w_seq
  | with_reducible apply w_asg
  | ((with_reducible apply w_var); (focus (exact rfl)))
  | with_reducible apply w_c
  | with_reducible apply w_op
  | with_reducible apply w_cons
  | with_reducible apply w_nil
  | with_reducible apply w_gName
  | with_reducible apply w_if
  | with_reducible apply w_test
  | with_reducible apply w_B
  | with_reducible apply w_isbl
  | with_reducible apply w_retN
  | with_reducible apply w_next
  | with_reducible apply w_drop
  | with_reducible apply w_cb
  | with_reducible apply w_call
  | with_reducible apply w_callN
  | with_reducible apply w_bm
  | with_reducible apply w_bm0
  | ((with_reducible apply w_tyL); (focus (walk_at "hp"; done)))
  | with_reducible apply w_dput
  | with_reducible apply w_m1
  | with_reducible apply w_isstr
  | with_reducible apply w_and
  | with_reducible apply w_or
  | with_reducible apply w_not
  | with_reducible apply w_andV
  | with_reducible apply w_orV
  | with_reducible apply w_notV
  | with_reducible apply w_ifE
  | with_reducible apply w_chain
  | with_reducible apply w_un
  | with_reducible apply w_neg
  | with_reducible apply w_add
  | with_reducible apply w_sub
  | ((with_reducible apply w_mod); (focus (walk_at "num"; done)))
  | ((with_reducible apply w_mul); (focus (walk_at "num"; done)))
  | ((with_reducible apply w_fdiv); (focus (walk_at "num"; done)))
  | ((with_reducible apply w_pow); (focus (walk_at "num"; done)))
  | with_reducible apply w_lt
  | with_reducible apply w_le
  | with_reducible apply w_gt
  | with_reducible apply w_ge
  | with_reducible apply w_ltS
  | with_reducible apply w_geS
  | with_reducible apply w_inC
  | with_reducible apply w_notInC
  | with_reducible apply w_isN
  | with_reducible apply w_notN
  | with_reducible apply w_isB
  | with_reducible apply w_notB
  | ((with_reducible apply w_addS); (focus (walk_at "sz"; done)))
  | ((with_reducible apply w_ixL); (focus (walk_at "sq"; done)); (focus (walk_at "ix"; done)))
  | ((with_reducible apply w_ixT); (focus (walk_at "hp"; done)); (focus (walk_at "ix"; done)))
  | ((with_reducible apply w_ixS); (focus (walk_at "sz"; done)); (focus (walk_at "ix"; done)))
  | with_reducible apply w_gSub
  | ((with_reducible apply w_gTup); (focus (walk_at "hp"; done)); (focus (exact rfl)))
  | with_reducible apply w_gCons
  | with_reducible apply w_gNil
  | ((with_reducible apply w_aug); (focus (exact rfl)))
  | with_reducible apply w_ipI
  | ((with_reducible apply w_eq); (focus (exact rfl)))
  | ((with_reducible apply w_ne); (focus (exact rfl)))
  | with_reducible apply w_max
  | with_reducible apply w_min
  | with_reducible apply w_abs
  | with_reducible apply w_intB
  | with_reducible apply w_intI
  | with_reducible apply w_tup1
  | with_reducible apply w_lst1
  | with_reducible apply w_sl
  | with_reducible apply w_part
  | with_reducible apply w_noPart
  | with_reducible apply w_isint
  | ((with_reducible apply w_slS); (focus (walk_at "sz"; done)))
  | with_reducible apply w_iteT
  | with_reducible apply w_iteF
  | with_reducible apply w_iteN
  | ((with_reducible apply w_iteYes); (focus (exact rfl)))
  | ((with_reducible apply w_iteNo); (focus (exact rfl)))
  | ((with_reducible apply w_lenL); (focus (walk_at "sq"; done)))
  | ((with_reducible apply w_lenT); (focus (walk_at "hp"; done)))
  | ((with_reducible apply w_lenS); (focus (walk_at "sz"; done)))
  | with_reducible apply w_lc
  | with_reducible apply w_for
  | with_reducible apply w_yes
  | ((with_reducible apply w_wipe); (focus (exact rfl)))
  | with_reducible apply w_iList
  | with_reducible apply w_iTup
  | with_reducible apply w_iStr
  | with_reducible apply w_iRng1
  | with_reducible apply w_iRng2
  | with_reducible apply w_iZip
  | with_reducible apply w_iEnum
  | ((with_reducible apply d_iList); (focus (walk_at "sq"; done)))
  | ((with_reducible apply d_iTup); (focus (walk_at "hp"; done)))
  | with_reducible apply d_iStr
  | ((with_reducible apply d_iRng1); (focus (walk_at "num"; done)); (focus (walk_at "num"; done)))
  | ((with_reducible apply d_iRng2); (focus (walk_at "num"; done)); (focus (walk_at "num"; done)); (focus (walk_at "num"; done)); (focus (walk_at "num"; done)))
  | ((with_reducible apply d_iZip); (focus (walk_at "sq"; done)); (focus (walk_at "sq"; done)))
  | ((with_reducible apply d_iEnum); (focus (walk_at "sq"; done)))
  | walk_at "w2")
local macro_rules | `(tactic| walk_at "w2") => `(tactic| fail)
local macro_rules | `(tactic| walk_at "wn") => `(tactic| repeat walk_at "w1")
local macro_rules | `(tactic| walk_at "w") => `(tactic| repeat (first | walk_at "w1" | with_reducible apply w_ret))
local macro_rules | `(tactic| walk_at "w2") => `(tactic| first
  | ((with_reducible apply w_isInt); (focus (walk_at "r"; done)))
  | ((with_reducible apply w_isBool); (focus (walk_at "r"; done)))
  | ((with_reducible apply w_isStr); (focus (walk_at "r"; done)))
  | ((with_reducible apply w_isTup); (focus (walk_at "r"; done)))
  | ((with_reducible apply w_isLst); (focus (walk_at "r"; done)))
  | with_reducible apply w_fld
  | with_reducible apply w_sfld
  | with_reducible apply w_faug
  | with_reducible apply w_rAdd
  | with_reducible apply w_rSub
  | with_reducible apply w_make
  | with_reducible apply w_orT
  | with_reducible apply w_dgetd
  | with_reducible apply w_dgetk
  | with_reducible apply w_dsetd
  | ((with_reducible apply k_dgetd); (focus (walk_at "hp"; done)))
  | ((with_reducible apply k_dsetd); (focus (walk_at "hp"; done)))
  | walk_at "w3")
local macro_rules | `(tactic| walk_at "w3") => `(tactic| fail)
local macro_rules | `(tactic| walk_at "w3") => `(tactic| first
  | with_reducible apply w_mt
  | with_reducible apply w_makeX
  | ((with_reducible apply m_Kind); (focus (walk_at "hp"; done)); (focus (exact rfl)))
  | ((with_reducible apply g_Kind_joining); (focus (assumption; done)); (focus (walk_at "hp"; done)))
  | ((with_reducible apply g_Kind_none); (focus (assumption; done)); (focus (walk_at "hp"; done)))
  | ((with_reducible apply g_Kind_making); (focus (assumption; done)); (focus (walk_at "hp"; done)))
  | ((with_reducible apply g_Kind_word); (focus (assumption; done)); (focus (walk_at "hp"; done))))
def leD : PyData → PyData → Option PyData
  | .none, y => some y
  | x, .none => some x
  | .int a, .int b => some (.int (min a b))
  | _, _ => none
def apD : PyData → PyData → Option PyData
  | .none, y => some y
  | x, .none => some x
  | .int a, .int b => some (.int (a - b))
  | _, _ => none
def lnD : PyData → PyData → Option PyData
  | .none, _ => some .none
  | x, .none => some x
  | .int a, .int b => some (.int (a + b))
  | _, _ => none
def intsOf : List PyData → Option (List Int)
  | [] => some []
  | .int a :: r => (intsOf r).map (a :: ·)
  | _ => none
def boD : PyData → PyData → Option PyData
  | .tuple xs, .tuple ys => match intsOf (xs ++ ys) with
    | some [] => some (.tuple [])
    | some (n :: r) => if (n :: r).length ≤ 1000 then some (.tuple [.int (r.foldl min n), .int (r.foldl max n)]) else none
    | none => none
  | _, _ => none
/-- are lesser and later there -/
def avS (L : Nat → Addr → LF) : Bool := (L 32 0).qual == Str.ofString ""
def SFk (K : PySem.W.Frag) (L : Nat → Addr → LF) : List (Addr × Sp) := (if avS L = true then [(He.ga K "lesser", sp2 leD), (He.ga K "later", sp2 lat2)] else []) ++ [(He.ga K "_law_lesser", sp2 leD), (He.ga K "_law_apart", sp2 apD), (He.ga K "_law_both", sp2 boD), (He.ga K "_law_left_none", sp2 lnD)]
def mkers : List Nat := [2, 6, 7, 9, 11, 14, 16, 20, 25, 28, 30]
def lspD (j : Nat) : Sp := if j ∈ mkers then sp1 (mkD j) else sp2 (jnD j)
def CVo (K : PySem.W.Frag) (L : Nat → Addr → LF) : Addr → List V → Hp → VK → Prop := CVk L 31 lspD (SFk K L)
/-- the lambda j stands at f -/
def LmAt (L : Nat → Addr → LF) (H : Hp) (f : Addr) (j : Nat) : Prop := ∃ c', H f = some (LmO f (L j c')) ∧ H c' = some (CodeO c' (L j c').qual)
/-- v is a function of two worths -/
def JV (K : PySem.W.Frag) (L : Nat → Addr → LF) (H : Hp) (v : V) (jf : PyData → PyData → Option PyData) : Prop :=
  ∃ f, v = .ref f ∧ ((∃ j, j < 31 ∧ j ∉ mkers ∧ jf = jnD j ∧ LmAt L H f j) ∨ (f, sp2 jf) ∈ SFk K L)
/-- v is None, or a function of a number -/
def MV (L : Nat → Addr → LF) (H : Hp) (v : V) (mf : Int → Option PyData) : Prop :=
  (v = .non ∧ mf = fun n => some (.int n)) ∨ ∃ f j, v = .ref f ∧ j ∈ mkers ∧ mf = mkD j ∧ LmAt L H f j
/-- nothing of M is a function or an instance -/
def NoX (M : List Addr) (H : Hp) : Prop := ∀ a ∈ M, (∀ z, H a ≠ some (.ext z)) ∧ ∀ C dx fs, H a ≠ some (.ins C dx fs)
theorem NoX.nil {H : Hp} : NoX [] H := fun a h => by cases h
theorem LmAt.keep {L : Nat → Addr → LF} {M : List Addr} {H H' : Hp} {f : Addr} {j : Nat} (c : Chg M H H') (n : NoX M H) (h : LmAt L H f j) : LmAt L H' f j := by
  obtain ⟨c', h1, h2⟩ := h
  exact ⟨c', c.keep _ _ h1 fun m => (n _ m).1 _ h1, c.keep _ _ h2 fun m => (n _ m).1 _ h2⟩
theorem JV.keep {K : PySem.W.Frag} {L : Nat → Addr → LF} {M : List Addr} {H H' : Hp} {v : V} {jf : PyData → PyData → Option PyData} (c : Chg M H H') (n : NoX M H) (h : JV K L H v jf) : JV K L H' v jf := by
  obtain ⟨f, rfl, ⟨j, hj, hm, e, hl⟩ | h⟩ := h
  · exact ⟨f, rfl, .inl ⟨j, hj, hm, e, hl.keep c n⟩⟩
  · exact ⟨f, rfl, .inr h⟩
theorem MV.keep {L : Nat → Addr → LF} {M : List Addr} {H H' : Hp} {v : V} {mf : Int → Option PyData} (c : Chg M H H') (n : NoX M H) (h : MV L H v mf) : MV L H' v mf := by
  rcases h with h | ⟨f, j, e, hm, e2, hl⟩
  · exact .inl h
  · exact .inr ⟨f, j, e, hm, e2, hl.keep c n⟩
theorem mkers_lt {j : Nat} (h : j ∈ mkers) : j < 31 := by
  simp [mkers] at h
  omega
/-- calling a function of two worths -/
theorem JV.cv {K : PySem.W.Frag} {L : Nat → Addr → LF} {H : Hp} {v : V} {jf : PyData → PyData → Option PyData} {vs : List V} {Q : VK} (h : JV K L H v jf) : ∃ f, v = .ref f ∧ ∀ H1, Chg [] H H1 → sp2 jf vs H1 Q L2.E0 → CVo K L f vs H1 Q := by
  obtain ⟨f, rfl, h⟩ := h
  refine ⟨f, rfl, fun H1 c hs => ?_⟩
  rcases h with ⟨j, hj, hm, rfl, hl⟩ | h
  · obtain ⟨c', h1, h2⟩ := hl.keep c .nil
    refine .inl ⟨j, c', hj, h1, h2, ?_⟩
    unfold lspD
    rw [if_neg hm]
    exact hs
  · exact .inr ⟨_, h, rfl, hs⟩
theorem JV.cvs {K : PySem.W.Frag} {L : Nat → Addr → LF} {H : Hp} {v : V} {jf : PyData → PyData → Option PyData} (h : JV K L H v jf) : ∃ f, v = .ref f ∧ ∀ H1 vs Q, Chg [] H H1 → sp2 jf vs H1 Q L2.E0 → CVo K L f vs H1 Q := by
  obtain ⟨f, rfl, h⟩ := h
  refine ⟨f, rfl, fun H1 vs Q c hs => ?_⟩
  rcases h with ⟨j, hj, hm, rfl, hl⟩ | h
  · obtain ⟨c', h1, h2⟩ := hl.keep c .nil
    refine .inl ⟨j, c', hj, h1, h2, ?_⟩
    unfold lspD
    rw [if_neg hm]
    exact hs
  · exact .inr ⟨_, h, rfl, hs⟩
def eqD (x y : PyData) : Option Bool := if noDic x = true ∧ noDic y = true ∧ min x.depth y.depth ≤ 60 then some (PyData.eqv x y) else none
theorem eqD_at {x y : PyData} {b : Bool} (h : eqD x y = some b) : noDic x = true ∧ noDic y = true ∧ min x.depth y.depth ≤ 60 ∧ b = PyData.eqv x y := by
  unfold eqD at h
  split at h
  · rename_i z; cases h; exact ⟨z.1, z.2.1, z.2.2, rfl⟩
  · cases h
def bdD (jf : PyData → PyData → Option PyData) (nd d1 d2 x y : PyData) : Option PyData :=
  (eqD x d1).bind fun b1 => if b1 = true then (eqD y d2).bind fun b2 => if b2 = true then some nd else jf x y else jf x y
def QB : Str := "law.<locals>.<lambda>"
def frB : List Str := ["first", "joiner", "one", "other"]
abbrev LB (L : Nat → Addr → LF) (cl : List (Str × Addr)) (c' : Addr) : LF := ⟨(L 31 c').qual, (L 31 c').params, (L 31 c').body, (L 31 c').scope, cl, c'⟩
/-- what it promises, ws what its cells hold -/
def spB (K : PySem.W.Frag) (L : Nat → Addr → LF) : List V → Sp := fun ws vs H Q _ => ∃ (v1 g o1 p1 x y : V) (S : Addr → Prop) (jf : PyData → PyData → Option PyData) (nd d1 d2 dx dy d : PyData), ws = [v1, g, o1, p1] ∧ vs = [x, y] ∧ JV K L H g jf ∧ R S H v1 nd ∧ R S H o1 d1 ∧ R S H p1 d2 ∧ R S H x dx ∧ R S H y dy ∧
  (∀ a, H a = none → S a) ∧ bdD jf nd d1 d2 dx dy = some d ∧ ∀ v H', Chg [] H H' → R S H' v d → Q v H'
def CVb (K : PySem.W.Frag) (L : Nat → Addr → LF) (f : Addr) (vs : List V) (H : Hp) (Q : VK) : Prop := ∃ (c' : Addr) (cl : List (Str × Addr)) (cs : List Addr) (ws : List V) (vv : Addr → V) (oo : Addr → Obj), (L 31 c').qual = QB ∧ H f = some (LmO f (LB L cl c')) ∧ H c' = some (CodeO c' QB) ∧ f ∉ cs ∧ c' ∉ cs ∧
  CapH cl frB cs ws vv oo H ∧ spB K L ws vs (off cs H) (fun v H' => (∀ c ∈ cs, H' c = none) → Q v (on cs (cg vv oo) H')) L2.E0
def CVw (K : PySem.W.Frag) (L : Nat → Addr → LF) (f : Addr) (vs : List V) (H : Hp) (Q : VK) : Prop := CVo K L f vs H Q ∨ CVb K L f vs H Q
def JVb (K : PySem.W.Frag) (L : Nat → Addr → LF) (S : Addr → Prop) (H : Hp) (v : V) (jf : PyData → PyData → Option PyData) : Prop :=
  ∃ (f c' : Addr) (cl : List (Str × Addr)) (cs : List Addr) (v1 g o1 p1 : V) (vv : Addr → V) (oo : Addr → Obj) (jf0 : PyData → PyData → Option PyData) (nd d1 d2 : PyData), v = .ref f ∧ (L 31 c').qual = QB ∧ H f = some (LmO f (LB L cl c')) ∧ H c' = some (CodeO c' QB) ∧ f ∉ cs ∧ c' ∉ cs ∧
  CapH cl frB cs [v1, g, o1, p1] vv oo H ∧ JV K L (off cs H) g jf0 ∧ R S H v1 nd ∧ R S H o1 d1 ∧ R S H p1 d2 ∧ jf = bdD jf0 nd d1 d2
/-- v is a function of two worths, or the one that captured -/
def JVS (K : PySem.W.Frag) (L : Nat → Addr → LF) (S : Addr → Prop) (H : Hp) (v : V) (jf : PyData → PyData → Option PyData) : Prop := JV K L H v jf ∨ JVb K L S H v jf
theorem chg_off {M : List Addr} {H H' : Hp} {cs : List Addr} (c : Chg M H H') : Chg M (off cs H) (off cs H') := by
  refine ⟨fun a o e n => ?_, fun a e => ?_, fun a xs e => ?_⟩
  · by_cases m : a ∈ cs
    · rw [off_in m] at e; cases e
    · rw [off_out m] at e ⊢; exact c.keep a o e n
  · by_cases m : a ∈ cs
    · exact off_in m
    · rw [off_out m] at e ⊢; exact c.dom a e
  · by_cases m : a ∈ cs
    · rw [off_in m] at e; cases e
    · rw [off_out m] at e ⊢; exact c.tup a xs e
theorem noX_off {M : List Addr} {H : Hp} {cs : List Addr} (n : NoX M H) : NoX M (off cs H) := fun a m => by
  by_cases z : a ∈ cs
  · rw [off_in z]; exact ⟨(fun _ e => by cases e), (fun _ _ _ e => by cases e)⟩
  · rw [off_out z]; exact n a m
theorem capH_keep {cl : List (Str × Addr)} {fr : List Str} {cs : List Addr} {ws : List V} {vv : Addr → V} {oo : Addr → Obj} {M : List Addr} {H H' : Hp} (c : Chg M H H') (n : NoX M H) (h : CapH cl fr cs ws vv oo H) : CapH cl fr cs ws vv oo H' :=
  ⟨fun a m => c.keep _ _ (h.at_ a m) fun z => (n a z).1 _ (h.at_ a m), h.all, h.inj, h.len, h.has⟩
/-- data do not lean on cells -/
theorem r_off {S : Addr → Prop} {cs : List Addr} {H : Hp} {vv : Addr → V} {oo : Addr → Obj} {v : V} {d : PyData} (n : ∀ c ∈ cs, H c = some (cg vv oo c)) (r : R S H v d) : R (fun a => S a ∨ a ∈ cs) (off cs H) v d :=
  r.imp (fun a xs s e => ⟨.inl s, by rw [off_out fun m => by rw [n a m] at e; cases e]; exact e⟩) (fun a xs s e => ⟨.inl s, by rw [off_out fun m => by rw [n a m] at e; cases e]; exact e⟩) fun a xs e => by rw [off_out fun m => by rw [n a m] at e; cases e]; exact e
theorem r_on {S : Addr → Prop} {cs : List Addr} {H : Hp} {g : Addr → HO} {v : V} {d : PyData} (n : ∀ c ∈ cs, H c = none) (r : R (fun a => S a ∨ a ∈ cs) H v d) : R S (on cs g H) v d :=
  r.imp (fun a xs s e => ⟨s.elim id (fun m => (by rw [n a m] at e; cases e)), on_keep n e⟩) (fun a xs s e => ⟨s.elim id (fun m => (by rw [n a m] at e; cases e)), on_keep n e⟩) fun a xs e => on_keep n e
theorem chg_on {cs : List Addr} {H H' : Hp} {g : Addr → HO} (n : ∀ c ∈ cs, H c = some (g c)) (n' : ∀ c ∈ cs, H' c = none) (c : Chg [] (off cs H) H') : Chg [] H (on cs g H') := by
  refine ⟨fun a o e _ => ?_, fun a e => ?_, fun a xs e => ?_⟩
  · by_cases m : a ∈ cs
    · rw [on_in m, ← n a m]; exact e
    · rw [on_out m]; exact c.keep a o (by rw [off_out m]; exact e) (by simp)
  · by_cases m : a ∈ cs
    · rw [on_in m] at e; cases e
    · rw [on_out m] at e
      have := c.dom a e
      rw [off_out m] at this
      exact this
  · by_cases m : a ∈ cs
    · rw [on_in m, ← n a m]; exact e
    · rw [on_out m]; exact c.tup a xs (by rw [off_out m]; exact e)
theorem JVb.keep {K : PySem.W.Frag} {L : Nat → Addr → LF} {S : Addr → Prop} {M : List Addr} {H H' : Hp} {v : V} {jf : PyData → PyData → Option PyData} (c : Chg M H H') (n : NoX M H) (hs : ∀ a, S a → a ∉ M) (h : JVb K L S H v jf) : JVb K L S H' v jf := by
  obtain ⟨f, c', cl, cs, v1, g, o1, p1, vv, oo, jf0, nd, d1, d2, e1, e2, h1, h2, n1, n2, hc, hj, r1, r2, r3, e⟩ := h
  exact ⟨f, c', cl, cs, v1, g, o1, p1, vv, oo, jf0, nd, d1, d2, e1, e2, c.keep _ _ h1 fun m => (n _ m).1 _ h1, c.keep _ _ h2 fun m => (n _ m).1 _ h2, n1, n2, capH_keep c n hc, hj.keep (chg_off c) (noX_off n), r1.keep c hs, r2.keep c hs, r3.keep c hs, e⟩
theorem JVb.mono {K : PySem.W.Frag} {L : Nat → Addr → LF} {S S' : Addr → Prop} {H : Hp} {v : V} {jf : PyData → PyData → Option PyData} (hs : ∀ a, S a → S' a) (h : JVb K L S H v jf) : JVb K L S' H v jf := by
  obtain ⟨f, c', cl, cs, v1, g, o1, p1, vv, oo, jf0, nd, d1, d2, e1, e2, h1, h2, n1, n2, hc, hj, r1, r2, r3, e⟩ := h
  exact ⟨f, c', cl, cs, v1, g, o1, p1, vv, oo, jf0, nd, d1, d2, e1, e2, h1, h2, n1, n2, hc, hj, r1.mono hs, r2.mono hs, r3.mono hs, e⟩
theorem JVS.keep {K : PySem.W.Frag} {L : Nat → Addr → LF} {S : Addr → Prop} {M : List Addr} {H H' : Hp} {v : V} {jf : PyData → PyData → Option PyData} (c : Chg M H H') (n : NoX M H) (h : JVS K L S H v jf) (hs : ∀ a, S a → a ∉ M := by simp) : JVS K L S H' v jf := h.imp (·.keep c n) (·.keep c n hs)
theorem JVS.mono {K : PySem.W.Frag} {L : Nat → Addr → LF} {S S' : Addr → Prop} {H : Hp} {v : V} {jf : PyData → PyData → Option PyData} (hs : ∀ a, S a → S' a) (h : JVS K L S H v jf) : JVS K L S' H v jf := h.imp id (·.mono hs)
theorem JVb.there {K : PySem.W.Frag} {L : Nat → Addr → LF} {S : Addr → Prop} {H : Hp} {v : V} {jf : PyData → PyData → Option PyData} (h : JVb K L S H v jf) : JVb K L (fun a => S a ∧ H a ≠ none) H v jf := by
  obtain ⟨f, c', cl, cs, v1, g, o1, p1, vv, oo, jf0, nd, d1, d2, e1, e2, h1, h2, n1, n2, hc, hj, r1, r2, r3, e⟩ := h
  have th : ∀ {u : V} {d : PyData}, R S H u d → R (fun a => S a ∧ H a ≠ none) H u d := fun r => r.imp (fun a xs s e => ⟨⟨s, by rw [e]; exact fun z => nomatch z⟩, e⟩) (fun a xs s e => ⟨⟨s, by rw [e]; exact fun z => nomatch z⟩, e⟩) fun a xs e => e
  exact ⟨f, c', cl, cs, v1, g, o1, p1, vv, oo, jf0, nd, d1, d2, e1, e2, h1, h2, n1, n2, hc, hj, th r1, th r2, th r3, e⟩
theorem JVS.there {K : PySem.W.Frag} {L : Nat → Addr → LF} {S : Addr → Prop} {H : Hp} {v : V} {jf : PyData → PyData → Option PyData} (h : JVS K L S H v jf) : JVS K L (fun a => S a ∧ H a ≠ none) H v jf := h.imp id (·.there)
def sp2S (S : Addr → Prop) (f : PyData → PyData → Option PyData) : Sp := fun vs H Q _ => ∃ (x y : V) (dx dy d : PyData) (_ : Addr → Prop), vs = [x, y] ∧ R S H x dx ∧ R S H y dy ∧ (∀ a, H a = none → S a) ∧ f dx dy = some d ∧ ∀ v H', Chg [] H H' → R S H' v d → Q v H'
theorem JVS.cvs {K : PySem.W.Frag} {L : Nat → Addr → LF} {S : Addr → Prop} {H : Hp} {v : V} {jf : PyData → PyData → Option PyData} (h : JVS K L S H v jf) : ∃ f, v = .ref f ∧ ∀ H1 vs Q, Chg [] H H1 → sp2S S jf vs H1 Q L2.E0 → CVw K L f vs H1 Q := by
  rcases h with h | h
  · obtain ⟨f, e, hf⟩ := h.cvs
    exact ⟨f, e, fun H1 vs Q c ⟨x, y, dx, dy, d, _, e1, rx, ry, fr, e2, q⟩ => .inl (hf H1 vs Q c ⟨x, y, dx, dy, d, S, e1, rx, ry, fr, e2, q⟩)⟩
  · obtain ⟨f, c', cl, cs, v1, g, o1, p1, vv, oo, jf0, nd, d1, d2, e0, e2, h1, h2, n1, n2, hc, hj, r1, r2, r3, rfl⟩ := h
    refine ⟨f, e0, fun H1 vs Q c ⟨x, y, dx, dy, d, _, e1, rx, ry, fr, e3, q⟩ => .inr ?_⟩
    have k := capH_keep c .nil hc
    refine ⟨c', cl, cs, [v1, g, o1, p1], vv, oo, e2, c.keep _ _ h1 (by simp), c.keep _ _ h2 (by simp), n1, n2, k, v1, g, o1, p1, x, y, (fun a => S a ∨ a ∈ cs), jf0, nd, d1, d2, dx, dy, d, rfl, e1, hj.keep (chg_off c) .nil, r_off k.at_ (r1.same c), r_off k.at_ (r2.same c), r_off k.at_ (r3.same c), r_off k.at_ rx, r_off k.at_ ry, fun a e => ?_, e3, fun v H' c2 rv n => ?_⟩
    · by_cases m : a ∈ cs
      · exact .inr m
      · rw [off_out m] at e; exact .inl (fr a e)
    · exact q v _ (chg_on k.at_ n c2) (r_on n rv)
theorem JVS.cv {K : PySem.W.Frag} {L : Nat → Addr → LF} {S : Addr → Prop} {H : Hp} {v : V} {jf : PyData → PyData → Option PyData} {vs : List V} {Q : VK} (h : JVS K L S H v jf) : ∃ f, v = .ref f ∧ ∀ H1, Chg [] H H1 → sp2S S jf vs H1 Q L2.E0 → CVw K L f vs H1 Q := by
  obtain ⟨f, e, hf⟩ := h.cvs
  exact ⟨f, e, fun H1 c z => hf H1 vs Q c z⟩
theorem MV.cv {K : PySem.W.Frag} {L : Nat → Addr → LF} {H : Hp} {v : V} {mf : Int → Option PyData} {vs : List V} {Q : VK} (h : MV L H v mf) (hv : v ≠ .non) : ∃ f, v = .ref f ∧ ∀ H1, Chg [] H H1 → sp1 mf vs H1 Q L2.E0 → CVw K L f vs H1 Q := by
  rcases h with ⟨e, _⟩ | ⟨f, j, rfl, hm, rfl, hl⟩
  · exact absurd e hv
  · refine ⟨f, rfl, fun H1 c hs => ?_⟩
    obtain ⟨c', h1, h2⟩ := hl.keep c .nil
    refine .inl (.inl ⟨j, c', mkers_lt hm, h1, h2, ?_⟩)
    unfold lspD
    rw [if_pos hm]
    exact hs
/-- a Kind in the heap -/
def KdAt (K : PySem.W.Frag) (L : Nat → Addr → LF) (S : Addr → Prop) (H : Hp) (a : Addr) (jf : PyData → PyData → Option PyData) (nd : PyData) (mf : Int → Option PyData) : Prop :=
  ∃ dx v0 v1 v2 v3, H a = some (O_Kind K dx v0 v1 v2 v3) ∧ JVS K L S H v0 jf ∧ R S H v1 nd ∧ MV L H v2 mf
theorem KdAt.keep {K : PySem.W.Frag} {L : Nat → Addr → LF} {S : Addr → Prop} {M : List Addr} {H H' : Hp} {a : Addr} {jf : PyData → PyData → Option PyData} {nd : PyData} {mf : Int → Option PyData} (c : Chg M H H') (n : NoX M H) (hs : ∀ a, S a → a ∉ M) (h : KdAt K L S H a jf nd mf) : KdAt K L S H' a jf nd mf := by
  obtain ⟨dx, v0, v1, v2, v3, h1, h2, h3, h4⟩ := h
  exact ⟨dx, v0, v1, v2, v3, c.keep _ _ h1 fun m => (n _ m).2 _ _ _ h1, h2.keep c n hs, h3.keep c hs, h4.keep c n⟩
theorem KdAt.same {K : PySem.W.Frag} {L : Nat → Addr → LF} {S : Addr → Prop} {H H' : Hp} {a : Addr} {jf : PyData → PyData → Option PyData} {nd : PyData} {mf : Int → Option PyData} (c : Chg [] H H') (h : KdAt K L S H a jf nd mf) : KdAt K L S H' a jf nd mf := h.keep c .nil fun _ _ => by simp
theorem KdAt.mono {K : PySem.W.Frag} {L : Nat → Addr → LF} {S S' : Addr → Prop} {H : Hp} {a : Addr} {jf : PyData → PyData → Option PyData} {nd : PyData} {mf : Int → Option PyData} (hs : ∀ a, S a → S' a) (h : KdAt K L S H a jf nd mf) : KdAt K L S' H a jf nd mf := by
  obtain ⟨dx, v0, v1, v2, v3, h1, h2, h3, h4⟩ := h
  exact ⟨dx, v0, v1, v2, v3, h1, h2.mono hs, h3.mono hs, h4⟩
def sp_Kind___init__ (K : PySem.W.Frag) : Sp := fun vs H Q _ => ∃ (a dx : Addr) (v0 v1 v2 v3 : V), vs = [.ref a, v0, v1, v2, v3] ∧ H a = some (.ins (He.ga K "Kind") dx []) ∧ ∀ H', Chg [a] H H' → H' a = some (O_Kind K dx v0 v1 v2 v3) → Q .non H'
def t_Kind___init__ (K : PySem.W.Frag) : TS :=
    tSeq (sFld K (tVar 0) (tVar 1) "joining")
    (tSeq (sFld K (tVar 0) (tVar 2) "none")
    (tSeq (sFld K (tVar 0) (tVar 3) "making")
    (sFld K (tVar 0) (tVar 4) "word")))
theorem pure_Kind___init__ {K : PySem.W.Frag} (C : C_Kind K) (vs : List V) (H : Hp) (Q : VK) (E : XK) (hh : sp_Kind___init__ K vs H Q E) : t_Kind___init__ K (fin Q) (start ["self", "join", "none", "make", "word"] vs) H := by
  obtain ⟨a, dx, v0, v1, v2, v3, rfl, h, q⟩ := hh
  show t_Kind___init__ K _ [some (.ref a), some v0, some v1, some v2, some v3] H
  unfold t_Kind___init__
  walk_at "w"
  refine n_Kind_joining C h fun H1 c1 h1 => ?_
  walk_at "w"
  refine n_Kind_none C h1 fun H2 c2 h2 => ?_
  walk_at "w"
  refine n_Kind_making C h2 fun H3 c3 h3 => ?_
  walk_at "w"
  refine n_Kind_word C h3 fun H4 c4 h4 => ?_
  exact q H4 (((c1.both c2).both c3).both c4) h4
def sp_Kind_joined (K : PySem.W.Frag) (L : Nat → Addr → LF) : Sp := fun vs H Q _ => ∃ (a : Addr) (x y : V) (S : Addr → Prop) (jf : PyData → PyData → Option PyData) (nd : PyData) (mf : Int → Option PyData) (dx dy d : PyData), vs = [.ref a, x, y] ∧ KdAt K L S H a jf nd mf ∧ R S H x dx ∧ R S H y dy ∧ (∀ a, H a = none → S a) ∧ jf dx dy = some d ∧ ∀ v H', Chg [] H H' → R S H' v d → Q v H'
def t_Kind_joined (K : PySem.W.Frag) (L : Nat → Addr → LmX.LF) : TS :=
    tSeq (tAsg (tFld K (tVar 0) "joining") (gName 3))
    (tRet (tCallV (CVw K L) 3 (tCons (tVar 1) (tCons (tVar 2) (tNil)))))
theorem pure_Kind_joined {K : PySem.W.Frag} {L : Nat → Addr → LF} (C : C_Kind K) (vs : List V) (H : Hp) (Q : VK) (E : XK) (hh : sp_Kind_joined K L vs H Q E) : t_Kind_joined K L (fin Q) (start ["self", "one", "other", "join"] vs) H := by
  obtain ⟨a, x, y, S, jf, nd, mf, dx, dy, d, rfl, ⟨di, v0, v1, v2, v3, h0, hj, hn, hm⟩, rx, ry, fr, e, q⟩ := hh
  show t_Kind_joined K L _ [some (.ref a), some x, some y, none] H
  unfold t_Kind_joined
  walk_at "w"
  obtain ⟨f, rfl, hf⟩ := hj.cv (vs := [x, y]) (Q := Q)
  refine ⟨f, rfl, ?_⟩
  walk_at "w"
  exact hf H .refl ⟨x, y, dx, dy, d, S, rfl, rx, ry, fr, e, q⟩
def sp_Kind_worth_of (K : PySem.W.Frag) (L : Nat → Addr → LF) : Sp := fun vs H Q _ => ∃ (a : Addr) (n : Int) (S : Addr → Prop) (jf : PyData → PyData → Option PyData) (nd : PyData) (mf : Int → Option PyData) (d : PyData), vs = [.ref a, .int n] ∧ KdAt K L S H a jf nd mf ∧ (∀ a, H a = none → S a) ∧ mf n = some d ∧ ∀ v H', Chg [] H H' → R S H' v d → Q v H'
def t_Kind_worth_of (K : PySem.W.Frag) (L : Nat → Addr → LmX.LF) : TS :=
    tSeq (tAsg (tFld K (tVar 0) "making") (gName 2))
    (tSeq (tIfS (tTest (tOp oIsN (tVar 2) (tC .non))) (tRet (tVar 1)) (tNext))
    (tRet (tCallV (CVw K L) 2 (tCons (tVar 1) (tNil)))))
theorem pure_Kind_worth_of {K : PySem.W.Frag} {L : Nat → Addr → LF} (C : C_Kind K) (vs : List V) (H : Hp) (Q : VK) (E : XK) (hh : sp_Kind_worth_of K L vs H Q E) : t_Kind_worth_of K L (fin Q) (start ["self", "number", "make"] vs) H := by
  obtain ⟨a, n, S, jf, nd, mf, d, rfl, ⟨di, v0, v1, v2, v3, h0, hj, hn, hm⟩, fr, e, q⟩ := hh
  show t_Kind_worth_of K L _ [some (.ref a), some (.int n), none] H
  unfold t_Kind_worth_of
  walk_at "w"
  by_cases hv : v2 = .non
  · subst hv
    rcases hm with ⟨_, rfl⟩ | ⟨f, j, e2, _⟩
    · cases e
      walk_at "w"
      exact q _ _ .refl (.int _)
    · cases e2
  · rw [if_neg (by simpa using hv)]
    walk_at "w"
    obtain ⟨f, rfl, hf⟩ := hm.cv (K := K) (vs := [.int n]) (Q := Q) hv
    refine ⟨f, rfl, ?_⟩
    walk_at "w"
    exact hf H .refl ⟨n, d, S, rfl, fr, e, q⟩
/-- the fold of numbers, on from x -/
def foldD (jf : PyData → PyData → Option PyData) (mf : Int → Option PyData) : PyData → List Int → Option PyData
  | x, [] => some x
  | x, n :: r => (mf n).bind fun m => (jf x m).bind fun y => foldD jf mf y r
theorem foldD_cons {jf : PyData → PyData → Option PyData} {mf : Int → Option PyData} {x d : PyData} {n : Int} {r : List Int} (h : foldD jf mf x (n :: r) = some d) : ∃ m y, mf n = some m ∧ jf x m = some y ∧ foldD jf mf y r = some d := by
  unfold foldD at h
  cases e1 : mf n with
  | none => rw [e1] at h; cases h
  | some m =>
    rw [e1] at h
    cases e2 : jf x m with
    | none => rw [Option.bind, e2] at h; cases h
    | some y => rw [Option.bind, e2] at h; exact ⟨m, y, rfl, e2, h⟩
def sp_Kind_fold (K : PySem.W.Frag) (L : Nat → Addr → LF) : Sp := fun vs H Q _ => ∃ (a l : Addr) (ns : List Int) (S : Addr → Prop) (jf : PyData → PyData → Option PyData) (nd : PyData) (mf : Int → Option PyData) (d : PyData), vs = [.ref a, .ref l] ∧ H l = some (.lst (ns.map V.int)) ∧ KdAt K L S H a jf nd mf ∧ (∀ a, H a = none → S a) ∧ foldD jf mf nd ns = some d ∧ ∀ v H', Chg [] H H' → R S H' v d → Q v H'
def t_Kind_fold (K : PySem.W.Frag) (L : Nat → Addr → LmX.LF) : TS :=
    tSeq (tAsg (tFld K (tVar 0) "none") (gName 2))
    (tSeq (tFor (iList K (tVar 1)) (gName 3) (tAsg (tMeth (He.ga K "Kind") "joined" (sp_Kind_joined K L) [] E0 (tVar 0) (tCons (tVar 2) (tCons (tMeth (He.ga K "Kind") "worth_of" (sp_Kind_worth_of K L) [] E0 (tVar 0) (tCons (tVar 3) (tNil))) (tNil)))) (gName 2)))
    (tRet (tVar 2)))
theorem fresh_chg {S : Addr → Prop} {H H' : Hp} (c : Chg [] H H') (h : ∀ a, H a = none → S a) : ∀ a, H' a = none → S a := fun a e => h a (c.dom a e)
theorem pure_Kind_fold {K : PySem.W.Frag} {L : Nat → Addr → LF} (C : C_Kind K) (vs : List V) (H : Hp) (Q : VK) (E : XK) (hh : sp_Kind_fold K L vs H Q E) : t_Kind_fold K L (fin Q) (start ["self", "numbers", "found", "number"] vs) H := by
  obtain ⟨a, l, ns, S, jf, nd, mf, d, rfl, hl, kd, fr, e, q⟩ := hh
  show t_Kind_fold K L _ [some (.ref a), some (.ref l), none, none] H
  unfold t_Kind_fold
  obtain ⟨di, v0, v1, v2, v3, h0, hj, hn, hm⟩ := id kd
  walk_at "w"
  refine for_it (walk_list (K := K) (a := l) (xs := ns.map V.int)) (fun i σ Hi => Chg [] H Hi ∧ ∃ (v : V) (x : PyData) (b3 : Option V), R S Hi v x ∧ foldD jf mf x (ns.drop i) = some d ∧ σ = [some (.ref a), some (.ref l), some v, b3]) ⟨.refl, v1, nd, _, hn, e, rfl⟩ (fun i σ Hi _ z => sqL (z.1.at hl)) (fun i x σ Hi0 Hi hi z y => ?_) (fun σ Hi z => ?_)
  · obtain ⟨rfl, ex⟩ := y
    obtain ⟨ci, v, x0, b3, rx, e1, rfl⟩ := z
    rw [List.length_map] at hi
    rw [List.getElem?_map, List.getElem?_eq_getElem hi] at ex
    cases ex
    rw [List.drop_eq_getElem_cons hi] at e1
    obtain ⟨m, y, em, ey, e2⟩ := foldD_cons e1
    have h0i := ci.at h0
    walk_at "w"
    refine ⟨a, ns[i], S, jf, nd, mf, m, rfl, kd.same ci, fresh_chg ci fr, em, fun u H2 c2 ru => ?_⟩
    walk_at "w"
    refine ⟨a, v, u, S, jf, nd, mf, x0, m, y, rfl, kd.same (ci.same c2), rx.same c2, ru, fresh_chg (ci.same c2) fr, ey, fun w H3 c3 rw' => ?_⟩
    walk_at "w"
    exact ⟨(ci.same c2).same c3, w, y, _, rw', e2, rfl⟩
  · obtain ⟨ci, v, x0, b3, rx, e1, rfl⟩ := z
    rw [List.length_map, List.drop_length] at e1
    cases e1
    walk_at "w"
    exact q _ _ ci rx
def t__law_lesser  : TS :=
    tSeq (tIfS (tOr (tTest (tOp oIsN (tVar 0) (tC .non))) (tTest (tOp oIsN (tVar 1) (tC .non)))) (tRet (tIf (tTest (tOp oIsN (tVar 0) (tC .non))) (tVar 1) (tVar 0))) (tNext))
    (tRet (tCB cMin (tCons (tVar 0) (tCons (tVar 1) (tNil)))))
theorem pure__law_lesser {K : PySem.W.Frag} (vs : List V) (H : Hp) (Q : VK) (E : XK) (hh : sp2 leD vs H Q E) : t__law_lesser (fin Q) (start ["one", "other"] vs) H := by
  obtain ⟨x, y, dx, dy, d, S, rfl, rx, ry, fr, e, q⟩ := hh
  show t__law_lesser _ [some x, some y] H
  unfold t__law_lesser
  by_cases hx : x = .non
  · subst hx
    cases rx
    have e : some dy = some d := by rw [← e]; cases dy <;> rfl
    cases e
    walk_at "w"
    exact q _ _ .refl ry
  · have nx : dx ≠ .none := fun z => by subst z; cases rx; exact hx rfl
    by_cases hy : y = .non
    · subst hy
      cases ry
      have e : some dx = some d := by rw [← e]; cases dx <;> first | rfl | exact absurd rfl nx
      cases e
      walk_at "w"
      rw [if_neg (by simpa using hx)]
      walk_at "w"
      rw [if_neg (by simpa using hx)]
      walk_at "w"
      exact q _ _ .refl rx
    · have ny : dy ≠ .none := fun z => by subst z; cases ry; exact hy rfl
      have key : ∃ a b, dx = .int a ∧ dy = .int b ∧ d = .int (min a b) := by
        cases dx <;> cases dy <;> first | exact absurd rfl nx | exact absurd rfl ny | (cases e; done) | (cases e; exact ⟨_, _, rfl, rfl, rfl⟩)
      obtain ⟨a, b, rfl, rfl, rfl⟩ := key
      cases r_int rx
      cases r_int ry
      walk_at "w"
      have e2 : (if b < a then b else a) = min a b := by omega
      have q' := q (.int (min a b)) H .refl (.int _)
      rw [← e2] at q'
      exact q'
def t__law_apart  : TS :=
    tSeq (tIfS (tOr (tTest (tOp oIsN (tVar 0) (tC .non))) (tTest (tOp oIsN (tVar 1) (tC .non)))) (tRet (tIf (tTest (tOp oIsN (tVar 0) (tC .non))) (tVar 1) (tVar 0))) (tNext))
    (tRet (tOp oSub (tVar 0) (tVar 1)))
theorem pure__law_apart {K : PySem.W.Frag} (vs : List V) (H : Hp) (Q : VK) (E : XK) (hh : sp2 apD vs H Q E) : t__law_apart (fin Q) (start ["one", "other"] vs) H := by
  obtain ⟨x, y, dx, dy, d, S, rfl, rx, ry, fr, e, q⟩ := hh
  show t__law_apart _ [some x, some y] H
  unfold t__law_apart
  by_cases hx : x = .non
  · subst hx
    cases rx
    have e : some dy = some d := by rw [← e]; cases dy <;> rfl
    cases e
    walk_at "w"
    exact q _ _ .refl ry
  · have nx : dx ≠ .none := fun z => by subst z; cases rx; exact hx rfl
    by_cases hy : y = .non
    · subst hy
      cases ry
      have e : some dx = some d := by rw [← e]; cases dx <;> first | rfl | exact absurd rfl nx
      cases e
      walk_at "w"
      rw [if_neg (by simpa using hx)]
      walk_at "w"
      rw [if_neg (by simpa using hx)]
      walk_at "w"
      exact q _ _ .refl rx
    · have ny : dy ≠ .none := fun z => by subst z; cases ry; exact hy rfl
      have key : ∃ a b, dx = .int a ∧ dy = .int b ∧ d = .int (a - b) := by
        cases dx <;> cases dy <;> first | exact absurd rfl nx | exact absurd rfl ny | (cases e; done) | (cases e; exact ⟨_, _, rfl, rfl, rfl⟩)
      obtain ⟨a, b, rfl, rfl, rfl⟩ := key
      cases r_int rx
      cases r_int ry
      walk_at "w"
      exact q _ _ .refl (.int _)
def t__law_left_none  : TS :=
    tSeq (tIfS (tOr (tTest (tOp oIsN (tVar 0) (tC .non))) (tTest (tOp oIsN (tVar 1) (tC .non)))) (tRet (tVar 0)) (tNext))
    (tRet (tOp oAdd (tVar 0) (tVar 1)))
theorem pure__law_left_none {K : PySem.W.Frag} (vs : List V) (H : Hp) (Q : VK) (E : XK) (hh : sp2 lnD vs H Q E) : t__law_left_none (fin Q) (start ["one", "other"] vs) H := by
  obtain ⟨x, y, dx, dy, d, S, rfl, rx, ry, fr, e, q⟩ := hh
  show t__law_left_none _ [some x, some y] H
  unfold t__law_left_none
  by_cases hx : x = .non
  · subst hx
    cases rx
    have e : some PyData.none = some d := by rw [← e]; cases dy <;> rfl
    cases e
    walk_at "w"
    exact q _ _ .refl .non
  · have nx : dx ≠ .none := fun z => by subst z; cases rx; exact hx rfl
    by_cases hy : y = .non
    · subst hy
      cases ry
      have e : some dx = some d := by rw [← e]; cases dx <;> first | rfl | exact absurd rfl nx
      cases e
      walk_at "w"
      rw [if_neg (by simpa using hx)]
      walk_at "w"
      exact q _ _ .refl rx
    · have ny : dy ≠ .none := fun z => by subst z; cases ry; exact hy rfl
      have key : ∃ a b, dx = .int a ∧ dy = .int b ∧ d = .int (a + b) := by
        cases dx <;> cases dy <;> first | exact absurd rfl nx | exact absurd rfl ny | (cases e; done) | (cases e; exact ⟨_, _, rfl, rfl, rfl⟩)
      obtain ⟨a, b, rfl, rfl, rfl⟩ := key
      cases r_int rx
      cases r_int ry
      walk_at "w"
      exact q _ _ .refl (.int _)
theorem intsOf_some : ∀ {xs : List PyData} {ns : List Int}, intsOf xs = some ns → xs = ns.map PyData.int
  | [], ns, h => by cases h; rfl
  | .int a :: r, ns, h => by
    unfold intsOf at h
    cases e : intsOf r with
    | none => rw [e] at h; cases h
    | some m => rw [e] at h; cases h; rw [intsOf_some e]; rfl
  | .none :: _, _, h => by cases h
  | .bool _ :: _, _, h => by cases h
  | .str _ :: _, _, h => by cases h
  | .list _ :: _, _, h => by cases h
  | .tuple _ :: _, _, h => by cases h
  | .dict _ :: _, _, h => by cases h
theorem ra_ints {S : Addr → Prop} {H : Hp} : ∀ {ns : List Int} {vs : List V}, RA S H vs (ns.map PyData.int) → vs = ns.map V.int
  | [], _, h => by cases h; rfl
  | n :: r, _, h => by
    cases h with
    | cons a b => cases a; rw [ra_ints b]; rfl
theorem noDic_ints (ns : List Int) : noDic (.tuple (ns.map PyData.int)) = true := by
  show noDics (ns.map PyData.int) = true
  exact noDics_of fun d hd => by obtain ⟨i, _, rfl⟩ := List.mem_map.mp hd; rfl
def t__law_both (K : PySem.W.Frag) : TS :=
    tRet (tIf (tTest (tOp oNeD (tOp (rCatA K) (tVar 0) (tVar 1)) (tTup (tNil)))) (tTup (tCons (tCB (rMinT K) (tCons (tOp (rCatA K) (tVar 0) (tVar 1)) (tNil))) (tCons (tCB (rMaxT K) (tCons (tOp (rCatA K) (tVar 0) (tVar 1)) (tNil))) (tNil)))) (tTup (tNil)))
theorem pure__law_both {K : PySem.W.Frag} (vs : List V) (H : Hp) (Q : VK) (E : XK) (hh : sp2 boD vs H Q E) : t__law_both K (fin Q) (start ["one", "other"] vs) H := by
  obtain ⟨x, y, dx, dy, d, S, rfl, rx, ry, fr, e, q⟩ := hh
  show t__law_both K _ [some x, some y] H
  have key : ∃ xs ys ns, dx = .tuple xs ∧ dy = .tuple ys ∧ intsOf (xs ++ ys) = some ns ∧ ns.length ≤ 1000 ∧ d = match ns with
      | [] => .tuple []
      | n :: r => .tuple [.int (r.foldl min n), .int (r.foldl max n)] := by
    unfold boD at e
    split at e
    · rename_i xs ys
      split at e
      · rename_i h; cases e; exact ⟨xs, ys, [], rfl, rfl, h, by simp, rfl⟩
      · rename_i n r h
        split at e
        · rename_i hl; cases e; exact ⟨xs, ys, n :: r, rfl, rfl, h, hl, rfl⟩
        · cases e
      · cases e
    · cases e
  obtain ⟨xs, ys, ns, rfl, rfl, hi, hl, rfl⟩ := key
  cases rx with
  | @tup p us _ hp ra =>
  cases ry with
  | @tup p2 ws _ hp2 rb =>
  have rab := ra.append rb
  rw [intsOf_some hi] at rab
  have eu := ra_ints rab
  have hlu : us.length + ws.length ≤ 1000 := by rw [← List.length_append, eu, List.length_map]; exact hl
  unfold t__law_both
  walk_at "w"
  refine w_catA hp hp2 (by omega) fun p3 H3 c3 h3 => ?_
  rw [eu] at h3
  walk_at "w"
  refine k_tup (by walk_at "sz") fun T H4 nT c4 hT => ?_
  walk_at "w"
  have rl : R S H4 (.ref p3) (.tuple (ns.map PyData.int)) := .tup (c4.at h3) (by rw [← eu, ← intsOf_some hi]; exact ((ra.append rb).same (c3.same c4)))
  have rr : R S H4 (.ref T) (.tuple []) := .tup hT .nil
  refine w_neD rl rr (noDic_ints ns) rfl (by show min _ (PyData.depth (.tuple [])) ≤ 60; have : PyData.depth (.tuple []) ≤ 1 := by decide
                                             omega) ?_
  cases ns with
  | nil =>
    walk_at "w"
    refine k_tup (by walk_at "sz") fun T5 H5 nT5 c5 hT5 => ?_
    exact q _ _ ((c3.same c4).same c5) (.tup hT5 .nil)
  | cons n r =>
    have cc := c3.same c4
    have z4 : us.length + ws.length ≤ 100000 := by omega
    walk_at "w"
    refine w_catA (cc.at hp) (cc.at hp2) z4 fun p5 H5 c5 h5 => ?_
    rw [eu] at h5
    walk_at "w"
    refine w_minT h5 ?_
    have cc5 := cc.same c5
    walk_at "w"
    refine w_catA (cc5.at hp) (cc5.at hp2) z4 fun p6 H6 c6 h6 => ?_
    rw [eu] at h6
    walk_at "w"
    refine w_maxT h6 ?_
    walk_at "w"
    refine k_tup (by walk_at "sz") fun T7 H7 nT7 c7 hT7 => ?_
    exact q _ _ ((cc5.same c6).same c7) (.tup hT7 (.cons (.int _) (.cons (.int _) .nil)))
end Fg
namespace Fg
open PySem PySem.Spec PyProof.Rows L2 LamX LmX
local macro_rules | `(tactic| walk_at "hp") => `(tactic| first
  | assumption
  | exact upd_same
  | (refine Chg.at (by assumption) ?_; walk_at "hp")
  | (refine Chg.at1 (by assumption) ?_ (by walk_at "ne"); walk_at "hp"))
local macro_rules | `(tactic| walk_at "ne") => `(tactic| first | assumption | (apply Ne.symm; assumption))
local macro_rules | `(tactic| walk_at "sq") => `(tactic| first | assumption | exact sqL (by walk_at "hp") | (refine Chg.seq (by assumption) ?_; walk_at "sq"))
local macro_rules | `(tactic| walk_at "sz") => `(tactic| first | assumption | exact Nat.zero_le _ | (simp only [List.length_cons, List.length_nil]; decide) | exact Nat.le_trans (by first | omega | (simp; done) | (simp; omega)) (show 100000 ≤ sizeLine by decide) | exact Nat.lt_of_lt_of_le (by first | omega | (simp; done) | (simp; omega)) (show 100000 ≤ sizeLine by decide))
local macro_rules | `(tactic| walk_at "ix") => `(tactic| first | exact at0 | exact at1 | exact at2 | exact at3 | assumption | exact rfl | walk_at "ix2")
local macro_rules | `(tactic| walk_at "ix2") => `(tactic| fail)
local macro_rules | `(tactic| walk_at "num") => `(tactic| first | assumption | omega | decide | walk_at "num2")
local macro_rules | `(tactic| walk_at "num2") => `(tactic| fail)
local macro_rules | `(tactic| walk_at "im") => `(tactic| first | assumption | exact R.non (S := fun _ => False) | exact R.bl (S := fun _ => False) _ | exact R.int (S := fun _ => False) _ | exact R.str (S := fun _ => False) _ | (refine R.im (by assumption) ?_; walk_at "im"))
local macro_rules | `(tactic| walk_at "r") => `(tactic| first | assumption | exact R.non (S := fun _ => False) | exact R.bl (S := fun _ => False) _ | exact R.int (S := fun _ => False) _ | exact R.str (S := fun _ => False) _ | (refine R.same (by assumption) ?_; walk_at "r") | exact R.any (by walk_at "im"))
local macro_rules | `(tactic| walk_at "chg") => `(tactic| first
  | exact Chg.refl
  | assumption
  | (refine Chg.same ?_ (by assumption); walk_at "chg")
  | (refine Chg.both ?_ (by assumption); walk_at "chg")
  | (refine Chg.pre (by assumption) ?_; walk_at "chg"))
local macro_rules | `(tactic| walk_at "w1") => `(tactic| first
  | with_reducible apply w_seq
  | with_reducible apply w_asg
  | ((with_reducible apply w_var); (focus (exact rfl)))
  | with_reducible apply w_c
  | with_reducible apply w_op
  | with_reducible apply w_cons
  | with_reducible apply w_nil
  | with_reducible apply w_gName
  | with_reducible apply w_if
  | with_reducible apply w_test
  | with_reducible apply w_B
  | with_reducible apply w_isbl
  | with_reducible apply w_retN
  | with_reducible apply w_next
  | with_reducible apply w_drop
  | with_reducible apply w_cb
  | with_reducible apply w_call
  | with_reducible apply w_callN
  | with_reducible apply w_bm
  | with_reducible apply w_bm0
  | ((with_reducible apply w_tyL); (focus (walk_at "hp"; done)))
  | with_reducible apply w_dput
  | with_reducible apply w_m1
  | with_reducible apply w_isstr
  | with_reducible apply w_and
  | with_reducible apply w_or
  | with_reducible apply w_not
  | with_reducible apply w_andV
  | with_reducible apply w_orV
  | with_reducible apply w_notV
  | with_reducible apply w_ifE
  | with_reducible apply w_chain
  | with_reducible apply w_un
  | with_reducible apply w_neg
  | with_reducible apply w_add
  | with_reducible apply w_sub
  | ((with_reducible apply w_mod); (focus (walk_at "num"; done)))
  | ((with_reducible apply w_mul); (focus (walk_at "num"; done)))
  | ((with_reducible apply w_fdiv); (focus (walk_at "num"; done)))
  | ((with_reducible apply w_pow); (focus (walk_at "num"; done)))
  | with_reducible apply w_lt
  | with_reducible apply w_le
  | with_reducible apply w_gt
  | with_reducible apply w_ge
  | with_reducible apply w_ltS
  | with_reducible apply w_geS
  | with_reducible apply w_inC
  | with_reducible apply w_notInC
  | with_reducible apply w_isN
  | with_reducible apply w_notN
  | with_reducible apply w_isB
  | with_reducible apply w_notB
  | ((with_reducible apply w_addS); (focus (walk_at "sz"; done)))
  | ((with_reducible apply w_ixL); (focus (walk_at "sq"; done)); (focus (walk_at "ix"; done)))
  | ((with_reducible apply w_ixT); (focus (walk_at "hp"; done)); (focus (walk_at "ix"; done)))
  | ((with_reducible apply w_ixS); (focus (walk_at "sz"; done)); (focus (walk_at "ix"; done)))
  | with_reducible apply w_gSub
  | ((with_reducible apply w_gTup); (focus (walk_at "hp"; done)); (focus (exact rfl)))
  | with_reducible apply w_gCons
  | with_reducible apply w_gNil
  | ((with_reducible apply w_aug); (focus (exact rfl)))
  | with_reducible apply w_ipI
  | ((with_reducible apply w_eq); (focus (exact rfl)))
  | ((with_reducible apply w_ne); (focus (exact rfl)))
  | with_reducible apply w_max
  | with_reducible apply w_min
  | with_reducible apply w_abs
  | with_reducible apply w_intB
  | with_reducible apply w_intI
  | with_reducible apply w_tup1
  | with_reducible apply w_lst1
  | with_reducible apply w_sl
  | with_reducible apply w_part
  | with_reducible apply w_noPart
  | with_reducible apply w_isint
  | ((with_reducible apply w_slS); (focus (walk_at "sz"; done)))
  | with_reducible apply w_iteT
  | with_reducible apply w_iteF
  | with_reducible apply w_iteN
  | ((with_reducible apply w_iteYes); (focus (exact rfl)))
  | ((with_reducible apply w_iteNo); (focus (exact rfl)))
  | ((with_reducible apply w_lenL); (focus (walk_at "sq"; done)))
  | ((with_reducible apply w_lenT); (focus (walk_at "hp"; done)))
  | ((with_reducible apply w_lenS); (focus (walk_at "sz"; done)))
  | with_reducible apply w_lc
  | with_reducible apply w_for
  | with_reducible apply w_yes
  | ((with_reducible apply w_wipe); (focus (exact rfl)))
  | with_reducible apply w_iList
  | with_reducible apply w_iTup
  | with_reducible apply w_iStr
  | with_reducible apply w_iRng1
  | with_reducible apply w_iRng2
  | with_reducible apply w_iZip
  | with_reducible apply w_iEnum
  | ((with_reducible apply d_iList); (focus (walk_at "sq"; done)))
  | ((with_reducible apply d_iTup); (focus (walk_at "hp"; done)))
  | with_reducible apply d_iStr
  | ((with_reducible apply d_iRng1); (focus (walk_at "num"; done)); (focus (walk_at "num"; done)))
  | ((with_reducible apply d_iRng2); (focus (walk_at "num"; done)); (focus (walk_at "num"; done)); (focus (walk_at "num"; done)); (focus (walk_at "num"; done)))
  | ((with_reducible apply d_iZip); (focus (walk_at "sq"; done)); (focus (walk_at "sq"; done)))
  | ((with_reducible apply d_iEnum); (focus (walk_at "sq"; done)))
  | walk_at "w2")
local macro_rules | `(tactic| walk_at "w2") => `(tactic| fail)
local macro_rules | `(tactic| walk_at "wn") => `(tactic| repeat walk_at "w1")
local macro_rules | `(tactic| walk_at "w") => `(tactic| repeat (first | walk_at "w1" | with_reducible apply w_ret))
local macro_rules | `(tactic| walk_at "w2") => `(tactic| first
  | ((with_reducible apply w_isInt); (focus (walk_at "r"; done)))
  | ((with_reducible apply w_isBool); (focus (walk_at "r"; done)))
  | ((with_reducible apply w_isStr); (focus (walk_at "r"; done)))
  | ((with_reducible apply w_isTup); (focus (walk_at "r"; done)))
  | ((with_reducible apply w_isLst); (focus (walk_at "r"; done)))
  | with_reducible apply w_fld
  | with_reducible apply w_sfld
  | with_reducible apply w_faug
  | with_reducible apply w_rAdd
  | with_reducible apply w_rSub
  | with_reducible apply w_make
  | with_reducible apply w_orT
  | with_reducible apply w_dgetd
  | with_reducible apply w_dgetk
  | with_reducible apply w_dsetd
  | ((with_reducible apply k_dgetd); (focus (walk_at "hp"; done)))
  | ((with_reducible apply k_dsetd); (focus (walk_at "hp"; done)))
  | walk_at "w3")
local macro_rules | `(tactic| walk_at "w3") => `(tactic| fail)
local macro_rules | `(tactic| walk_at "w3") => `(tactic| first
  | with_reducible apply w_mt
  | with_reducible apply w_makeX
  | ((with_reducible apply m_Kind); (focus (walk_at "hp"; done)); (focus (exact rfl)))
  | ((with_reducible apply g_Kind_joining); (focus (assumption; done)); (focus (walk_at "hp"; done)))
  | ((with_reducible apply g_Kind_none); (focus (assumption; done)); (focus (walk_at "hp"; done)))
  | ((with_reducible apply g_Kind_making); (focus (assumption; done)); (focus (walk_at "hp"; done)))
  | ((with_reducible apply g_Kind_word); (focus (assumption; done)); (focus (walk_at "hp"; done))))
def errD (jf : PyData → PyData → Option PyData) (nd x : PyData) : Option Bool :=
  (jf nd x).bind fun p => (eqD p x).bind fun b => if b = true then (jf x nd).bind fun q => (eqD q x).map (fun c => !c) else some true
theorem errD_at {jf : PyData → PyData → Option PyData} {nd x : PyData} {r : Bool} (h : errD jf nd x = some r) : ∃ p b, jf nd x = some p ∧ eqD p x = some b ∧ ((b = false ∧ r = true) ∨ ∃ q c, b = true ∧ jf x nd = some q ∧ eqD q x = some c ∧ r = !c) := by
  unfold errD at h
  cases e1 : jf nd x with
  | none => rw [e1] at h; cases h
  | some p =>
    rw [e1] at h
    have h : ((eqD p x).bind fun b => if b = true then (jf x nd).bind fun q => (eqD q x).map (fun c => !c) else some true) = some r := h
    cases e2 : eqD p x with
    | none => rw [e2] at h; cases h
    | some b =>
      rw [e2] at h
      have h : (if b = true then (jf x nd).bind fun q => (eqD q x).map (fun c => !c) else some true) = some r := h
      refine ⟨p, b, rfl, e2, ?_⟩
      cases b with
      | false => rw [if_neg (by simp)] at h; cases h; exact .inl ⟨rfl, rfl⟩
      | true =>
        rw [if_pos rfl] at h
        cases e3 : jf x nd with
        | none => rw [e3] at h; cases h
        | some q =>
          rw [e3] at h
          have h : (eqD q x).map (fun c => !c) = some r := h
          cases e4 : eqD q x with
          | none => rw [e4] at h; cases h
          | some c => rw [e4] at h; cases h; exact .inr ⟨q, c, rfl, rfl, e4, rfl⟩
def sp_none_errs (K : PySem.W.Frag) (L : Nat → Addr → LF) : Sp := fun vs H Q _ => ∃ (a : Addr) (x : V) (S : Addr → Prop) (jf : PyData → PyData → Option PyData) (nd : PyData) (mf : Int → Option PyData) (dx : PyData) (r : Bool), vs = [.ref a, x] ∧ KdAt K L S H a jf nd mf ∧ R S H x dx ∧ (∀ a, H a = none → S a) ∧ errD jf nd dx = some r ∧ ∀ H', Chg [] H H' → Q (.bl r) H'
def t_none_errs (K : PySem.W.Frag) (L : Nat → Addr → LmX.LF) : TS :=
    tRet (tOrV (tNotV (tOp oEqD (tMeth (He.ga K "Kind") "joined" (sp_Kind_joined K L) [] E0 (tVar 0) (tCons (tFld K (tVar 0) "none") (tCons (tVar 1) (tNil)))) (tVar 1))) (tNotV (tOp oEqD (tMeth (He.ga K "Kind") "joined" (sp_Kind_joined K L) [] E0 (tVar 0) (tCons (tVar 1) (tCons (tFld K (tVar 0) "none") (tNil)))) (tVar 1))))
theorem pure_none_errs {K : PySem.W.Frag} {L : Nat → Addr → LF} (C : C_Kind K) (vs : List V) (H : Hp) (Q : VK) (E : XK) (hh : sp_none_errs K L vs H Q E) : t_none_errs K L (fin Q) (start ["kind", "worth"] vs) H := by
  obtain ⟨a, x, S, jf, nd, mf, dx, r, rfl, kd, rx, fr, e, q⟩ := hh
  obtain ⟨p, b, e1, e2, e3⟩ := errD_at e
  obtain ⟨n1, n2, n3, rfl⟩ := eqD_at e2
  show t_none_errs K L _ [some (.ref a), some x] H
  unfold t_none_errs
  obtain ⟨di, v0, v1, v2, v3, h0, hj, hn, hm⟩ := id kd
  walk_at "w"
  refine ⟨a, v1, x, S, jf, nd, mf, nd, dx, p, rfl, kd, hn, rx, fr, e1, fun u H1 c1 ru => ?_⟩
  walk_at "w"
  refine w_eqD ru (rx.same c1) n1 n2 n3 ?_
  refine ⟨_, rfl, ?_⟩
  refine ⟨_, rfl, ?_⟩
  rcases e3 with ⟨eb, rfl⟩ | ⟨q2, c, eb, e4, e5, rfl⟩
  · rw [eb]
    exact q _ c1
  · rw [eb]
    obtain ⟨m1, m2, m3, rfl⟩ := eqD_at e5
    have h01 := c1.at h0
    walk_at "w"
    refine ⟨a, x, v1, S, jf, nd, mf, dx, nd, q2, rfl, kd.same c1, rx.same c1, hn.same c1, fresh_chg c1 fr, e4, fun u2 H2 c2 ru2 => ?_⟩
    walk_at "w"
    refine w_eqD ru2 (rx.same (c1.same c2)) m1 m2 m3 ?_
    refine ⟨_, rfl, ?_⟩
    exact q _ (c1.same c2)
def sp__law_made (K : PySem.W.Frag) (L : Nat → Addr → LF) : Sp := fun vs H Q _ => ∃ (m : V) (n : Int) (S : Addr → Prop) (mf : Int → Option PyData) (d : PyData), vs = [m, .int n] ∧ MV L H m mf ∧ (∀ a, H a = none → S a) ∧ mf n = some d ∧ ∀ v H', Chg [] H H' → R S H' v d → Q v H'
def t__law_made (K : PySem.W.Frag) (L : Nat → Addr → LmX.LF) : TS :=
    tRet (tIf (tTest (tOp oIsN (tVar 0) (tC .non))) (tVar 1) (tCallV (CVw K L) 0 (tCons (tVar 1) (tNil))))
theorem pure__law_made {K : PySem.W.Frag} {L : Nat → Addr → LF} (vs : List V) (H : Hp) (Q : VK) (E : XK) (hh : sp__law_made K L vs H Q E) : t__law_made K L (fin Q) (start ["made_by", "number"] vs) H := by
  obtain ⟨v2, n, S, mf, d, rfl, hm, fr, e, q⟩ := hh
  show t__law_made K L _ [some v2, some (.int n)] H
  unfold t__law_made
  walk_at "w"
  by_cases hv : v2 = .non
  · subst hv
    rcases hm with ⟨_, rfl⟩ | ⟨f, j, e2, _⟩
    · cases e
      walk_at "w"
      exact q _ _ .refl (.int _)
    · cases e2
  · rw [if_neg (by simpa using hv)]
    walk_at "w"
    obtain ⟨f, rfl, hf⟩ := hm.cv (K := K) (vs := [.int n]) (Q := Q) hv
    refine ⟨f, rfl, ?_⟩
    walk_at "w"
    exact hf H .refl ⟨n, d, S, rfl, fr, e, q⟩
def sp__law_err (K : PySem.W.Frag) (L : Nat → Addr → LF) : Sp := fun vs H Q _ => ∃ (g v1 x : V) (S : Addr → Prop) (jf : PyData → PyData → Option PyData) (nd dx : PyData) (r : Bool), vs = [g, v1, x] ∧ JVS K L S H g jf ∧ R S H v1 nd ∧ R S H x dx ∧ (∀ a, H a = none → S a) ∧ errD jf nd dx = some r ∧ ∀ H', Chg [] H H' → Q (.bl r) H'
def t__law_err (K : PySem.W.Frag) (L : Nat → Addr → LmX.LF) : TS :=
    tRet (tOrV (tNotV (tOp oEqD (tCallV (CVw K L) 0 (tCons (tVar 1) (tCons (tVar 2) (tNil)))) (tVar 2))) (tNotV (tOp oEqD (tCallV (CVw K L) 0 (tCons (tVar 2) (tCons (tVar 1) (tNil)))) (tVar 2))))
theorem pure__law_err {K : PySem.W.Frag} {L : Nat → Addr → LF} (vs : List V) (H : Hp) (Q : VK) (E : XK) (hh : sp__law_err K L vs H Q E) : t__law_err K L (fin Q) (start ["joiner", "first", "one"] vs) H := by
  obtain ⟨g, v1, x, S, jf, nd, dx, r, rfl, hj, hn, rx, fr, e, q⟩ := hh
  obtain ⟨p, b, e1, e2, e3⟩ := errD_at e
  obtain ⟨n1, n2, n3, rfl⟩ := eqD_at e2
  show t__law_err K L _ [some g, some v1, some x] H
  unfold t__law_err
  obtain ⟨f, rfl, hf⟩ := hj.cvs
  walk_at "w"
  refine ⟨f, rfl, ?_⟩
  walk_at "w"
  refine hf H _ _ .refl ⟨v1, x, nd, dx, p, S, rfl, hn, rx, fr, e1, fun u H1 c1 ru => ?_⟩
  walk_at "w"
  refine w_eqD ru (rx.same c1) n1 n2 n3 ?_
  refine ⟨_, rfl, ?_⟩
  refine ⟨_, rfl, ?_⟩
  rcases e3 with ⟨eb, rfl⟩ | ⟨q2, c, eb, e4, e5, rfl⟩
  · rw [eb]
    exact q _ c1
  · rw [eb]
    obtain ⟨m1, m2, m3, rfl⟩ := eqD_at e5
    walk_at "w"
    refine ⟨f, rfl, ?_⟩
    walk_at "w"
    refine hf H1 _ _ c1 ⟨x, v1, dx, nd, q2, S, rfl, rx.same c1, hn.same c1, fresh_chg c1 fr, e4, fun u2 H2 c2 ru2 => ?_⟩
    walk_at "w"
    refine w_eqD ru2 (rx.same (c1.same c2)) m1 m2 m3 ?_
    refine ⟨_, rfl, ?_⟩
    exact q _ (c1.same c2)
/-- the law's triple of a kind -/
def KtAt (K : PySem.W.Frag) (L : Nat → Addr → LF) (S : Addr → Prop) (H : Hp) (T : Addr) (jf : PyData → PyData → Option PyData) (nd : PyData) (mf : Int → Option PyData) : Prop :=
  ∃ g v1 m, H T = some (.tup [g, v1, m]) ∧ JVS K L S H g jf ∧ R S H v1 nd ∧ MV L H m mf
theorem KtAt.keep {K : PySem.W.Frag} {L : Nat → Addr → LF} {S : Addr → Prop} {M : List Addr} {H H' : Hp} {a : Addr} {jf : PyData → PyData → Option PyData} {nd : PyData} {mf : Int → Option PyData} (c : Chg M H H') (n : NoX M H) (hs : ∀ a, S a → a ∉ M) (h : KtAt K L S H a jf nd mf) : KtAt K L S H' a jf nd mf := by
  obtain ⟨g, v1, m, h1, h2, h3, h4⟩ := h
  exact ⟨g, v1, m, c.tup _ _ h1, h2.keep c n hs, h3.keep c hs, h4.keep c n⟩
theorem KtAt.same {K : PySem.W.Frag} {L : Nat → Addr → LF} {S : Addr → Prop} {H H' : Hp} {a : Addr} {jf : PyData → PyData → Option PyData} {nd : PyData} {mf : Int → Option PyData} (c : Chg [] H H') (h : KtAt K L S H a jf nd mf) : KtAt K L S H' a jf nd mf := h.keep c .nil fun _ _ => by simp
def strD (jf : PyData → PyData → Option PyData) (mf : Int → Option PyData) : List Int → Option PyData
  | [] => none
  | n :: r => (mf n).bind fun m => foldD jf mf m r
def sp__law_stretch (K : PySem.W.Frag) (L : Nat → Addr → LF) : Sp := fun vs H Q _ => ∃ (T l : Addr) (ns : List Int) (S : Addr → Prop) (jf : PyData → PyData → Option PyData) (nd : PyData) (mf : Int → Option PyData) (d : PyData), vs = [.ref T, .ref l] ∧ H l = some (.lst (ns.map V.int)) ∧ ns.length ≤ 1000 ∧ KtAt K L S H T jf nd mf ∧ (∀ a, H a = none → S a) ∧ strD jf mf ns = some d ∧ ∀ v H', Chg [] H H' → R S H' v d → Q v H'
def t__law_stretch (K : PySem.W.Frag) (L : Nat → Addr → LmX.LF) : TS :=
    tSeq (tAsg (tVar 0) (gTup K 3 (gCons (gName 2) (gCons (gName 3) (gCons (gName 4) (gNil))))))
    (tSeq (tAsg (tCall (sp__law_made K L) [] E0 (tCons (tVar 4) (tCons (tOp (rIxL K) (tVar 1) (tC (.int 0))) (tNil)))) (gName 5))
    (tSeq (tFor (iList K (tSl (rSlL K) (tVar 1) (tPart (tC (.int 1))) (tNoPart))) (gName 6) (tAsg (tCallV (CVw K L) 2 (tCons (tVar 5) (tCons (tCall (sp__law_made K L) [] E0 (tCons (tVar 4) (tCons (tVar 6) (tNil)))) (tNil)))) (gName 5)))
    (tRet (tVar 5))))
theorem pure__law_stretch {K : PySem.W.Frag} {L : Nat → Addr → LF} (vs : List V) (H : Hp) (Q : VK) (E : XK) (hh : sp__law_stretch K L vs H Q E) : t__law_stretch K L (fin Q) (start ["kind_of", "row", "joiner", "first", "made_by", "found", "number"] vs) H := by
  obtain ⟨T, l, ns, S, jf, nd, mf, d, rfl, hl, hz, ⟨g, v1, m, hT, hj, hn, hm⟩, fr, e, q⟩ := hh
  show t__law_stretch K L _ [some (.ref T), some (.ref l), none, none, none, none, none] H
  unfold t__law_stretch
  obtain ⟨f, rfl, hf⟩ := hj.cvs
  cases ns with
  | nil => cases e
  | cons n r =>
  have e : ((mf n).bind fun m => foldD jf mf m r) = some d := e
  cases em : mf n with
  | none => rw [em] at e; cases e
  | some m0 =>
  rw [em] at e
  have e : foldD jf mf m0 r = some d := e
  have ex0 : atI ((n :: r).map V.int) 0 = some (.int n) := atI_nat (j := 0) rfl
  walk_at "w"
  refine ⟨m, n, S, mf, m0, rfl, hm, fr, em, fun u H2 c2 ru => ?_⟩
  have hl2 := c2.at hl
  walk_at "w"
  refine w_slL (sqL hl2) fun l3 H3 n3 c3 h3 => ?_
  rw [show (some (1 : Int)) = some ((1 : Nat) : Int) from rfl, cut_from, List.map_cons, List.drop_one, List.tail_cons] at h3
  walk_at "w"
  have hz2 : r.length ≤ 1000 := by simp at hz; omega
  have c03 := c2.same c3
  refine for_it (walk_list (K := K) (a := l3) (xs := r.map V.int)) (fun i σ Hi => Chg [] H3 Hi ∧ ∃ (v : V) (x : PyData) (b3 : Option V), R S Hi v x ∧ foldD jf mf x (r.drop i) = some d ∧ σ = [some (.ref T), some (.ref l), some (.ref f), some v1, some m, some v, b3]) ⟨.refl, u, m0, _, ru.same c3, e, rfl⟩ (fun i σ Hi _ z => sqL (z.1.at h3)) (fun i x σ Hi0 Hi hi z y => ?_) (fun σ Hi z => ?_)
  · obtain ⟨rfl, ex⟩ := y
    obtain ⟨ci, v, x0, b3, rx, e1, rfl⟩ := z
    rw [List.length_map] at hi
    rw [List.getElem?_map, List.getElem?_eq_getElem hi] at ex
    cases ex
    rw [List.drop_eq_getElem_cons hi] at e1
    obtain ⟨mm, y, em2, ey, e2⟩ := foldD_cons e1
    have c0i := c03.same ci
    walk_at "w"
    refine ⟨f, rfl, ?_⟩
    walk_at "w"
    refine ⟨m, r[i], S, mf, mm, rfl, hm.keep c0i .nil, fresh_chg c0i fr, em2, fun u H5 c5 ru => ?_⟩
    walk_at "w"
    refine hf H5 _ _ (c0i.same c5) ⟨v, u, x0, mm, y, S, rfl, rx.same c5, ru, fresh_chg (c0i.same c5) fr, ey, fun w H6 c6 rw' => ?_⟩
    walk_at "w"
    exact ⟨(ci.same c5).same c6, w, y, _, rw', e2, rfl⟩
  · obtain ⟨ci, v, x0, b3, rx, e1, rfl⟩ := z
    rw [List.length_map, List.drop_length] at e1
    cases e1
    walk_at "w"
    exact q _ _ (c03.same ci) rx
end Fg
namespace Fg
open PySem PySem.Spec PyProof.Rows L2 LamX LmX
local macro_rules | `(tactic| walk_at "hp") => `(tactic| first
  | assumption
  | exact upd_same
  | (refine Chg.at (by assumption) ?_; walk_at "hp")
  | (refine Chg.at1 (by assumption) ?_ (by walk_at "ne"); walk_at "hp"))
local macro_rules | `(tactic| walk_at "ne") => `(tactic| first | assumption | (apply Ne.symm; assumption))
local macro_rules | `(tactic| walk_at "sq") => `(tactic| first | assumption | exact sqL (by walk_at "hp") | (refine Chg.seq (by assumption) ?_; walk_at "sq"))
local macro_rules | `(tactic| walk_at "sz") => `(tactic| first | assumption | exact Nat.zero_le _ | (simp only [List.length_cons, List.length_nil]; decide) | exact Nat.le_trans (by first | omega | (simp; done) | (simp; omega)) (show 100000 ≤ sizeLine by decide) | exact Nat.lt_of_lt_of_le (by first | omega | (simp; done) | (simp; omega)) (show 100000 ≤ sizeLine by decide))
local macro_rules | `(tactic| walk_at "ix") => `(tactic| first | exact at0 | exact at1 | exact at2 | exact at3 | assumption | exact rfl | walk_at "ix2")
local macro_rules | `(tactic| walk_at "ix2") => `(tactic| fail)
local macro_rules | `(tactic| walk_at "num") => `(tactic| first | assumption | omega | decide | walk_at "num2")
local macro_rules | `(tactic| walk_at "num2") => `(tactic| fail)
local macro_rules | `(tactic| walk_at "im") => `(tactic| first | assumption | exact R.non (S := fun _ => False) | exact R.bl (S := fun _ => False) _ | exact R.int (S := fun _ => False) _ | exact R.str (S := fun _ => False) _ | (refine R.im (by assumption) ?_; walk_at "im"))
local macro_rules | `(tactic| walk_at "r") => `(tactic| first | assumption | exact R.non (S := fun _ => False) | exact R.bl (S := fun _ => False) _ | exact R.int (S := fun _ => False) _ | exact R.str (S := fun _ => False) _ | (refine R.same (by assumption) ?_; walk_at "r") | exact R.any (by walk_at "im"))
local macro_rules | `(tactic| walk_at "chg") => `(tactic| first
  | exact Chg.refl
  | assumption
  | (refine Chg.same ?_ (by assumption); walk_at "chg")
  | (refine Chg.both ?_ (by assumption); walk_at "chg")
  | (refine Chg.pre (by assumption) ?_; walk_at "chg"))
local macro_rules | `(tactic| walk_at "w1") => `(tactic| first
  | with_reducible apply w_seq
  | with_reducible apply w_asg
  | ((with_reducible apply w_var); (focus (exact rfl)))
  | with_reducible apply w_c
  | with_reducible apply w_op
  | with_reducible apply w_cons
  | with_reducible apply w_nil
  | with_reducible apply w_gName
  | with_reducible apply w_if
  | with_reducible apply w_test
  | with_reducible apply w_B
  | with_reducible apply w_isbl
  | with_reducible apply w_retN
  | with_reducible apply w_next
  | with_reducible apply w_drop
  | with_reducible apply w_cb
  | with_reducible apply w_call
  | with_reducible apply w_callN
  | with_reducible apply w_bm
  | with_reducible apply w_bm0
  | ((with_reducible apply w_tyL); (focus (walk_at "hp"; done)))
  | with_reducible apply w_dput
  | with_reducible apply w_m1
  | with_reducible apply w_isstr
  | with_reducible apply w_and
  | with_reducible apply w_or
  | with_reducible apply w_not
  | with_reducible apply w_andV
  | with_reducible apply w_orV
  | with_reducible apply w_notV
  | with_reducible apply w_ifE
  | with_reducible apply w_chain
  | with_reducible apply w_un
  | with_reducible apply w_neg
  | with_reducible apply w_add
  | with_reducible apply w_sub
  | ((with_reducible apply w_mod); (focus (walk_at "num"; done)))
  | ((with_reducible apply w_mul); (focus (walk_at "num"; done)))
  | ((with_reducible apply w_fdiv); (focus (walk_at "num"; done)))
  | ((with_reducible apply w_pow); (focus (walk_at "num"; done)))
  | with_reducible apply w_lt
  | with_reducible apply w_le
  | with_reducible apply w_gt
  | with_reducible apply w_ge
  | with_reducible apply w_ltS
  | with_reducible apply w_geS
  | with_reducible apply w_inC
  | with_reducible apply w_notInC
  | with_reducible apply w_isN
  | with_reducible apply w_notN
  | with_reducible apply w_isB
  | with_reducible apply w_notB
  | ((with_reducible apply w_addS); (focus (walk_at "sz"; done)))
  | ((with_reducible apply w_ixL); (focus (walk_at "sq"; done)); (focus (walk_at "ix"; done)))
  | ((with_reducible apply w_ixT); (focus (walk_at "hp"; done)); (focus (walk_at "ix"; done)))
  | ((with_reducible apply w_ixS); (focus (walk_at "sz"; done)); (focus (walk_at "ix"; done)))
  | with_reducible apply w_gSub
  | ((with_reducible apply w_gTup); (focus (walk_at "hp"; done)); (focus (exact rfl)))
  | with_reducible apply w_gCons
  | with_reducible apply w_gNil
  | ((with_reducible apply w_aug); (focus (exact rfl)))
  | with_reducible apply w_ipI
  | ((with_reducible apply w_eq); (focus (exact rfl)))
  | ((with_reducible apply w_ne); (focus (exact rfl)))
  | with_reducible apply w_max
  | with_reducible apply w_min
  | with_reducible apply w_abs
  | with_reducible apply w_intB
  | with_reducible apply w_intI
  | with_reducible apply w_tup1
  | with_reducible apply w_lst1
  | with_reducible apply w_sl
  | with_reducible apply w_part
  | with_reducible apply w_noPart
  | with_reducible apply w_isint
  | ((with_reducible apply w_slS); (focus (walk_at "sz"; done)))
  | with_reducible apply w_iteT
  | with_reducible apply w_iteF
  | with_reducible apply w_iteN
  | ((with_reducible apply w_iteYes); (focus (exact rfl)))
  | ((with_reducible apply w_iteNo); (focus (exact rfl)))
  | ((with_reducible apply w_lenL); (focus (walk_at "sq"; done)))
  | ((with_reducible apply w_lenT); (focus (walk_at "hp"; done)))
  | ((with_reducible apply w_lenS); (focus (walk_at "sz"; done)))
  | with_reducible apply w_lc
  | with_reducible apply w_for
  | with_reducible apply w_yes
  | ((with_reducible apply w_wipe); (focus (exact rfl)))
  | with_reducible apply w_iList
  | with_reducible apply w_iTup
  | with_reducible apply w_iStr
  | with_reducible apply w_iRng1
  | with_reducible apply w_iRng2
  | with_reducible apply w_iZip
  | with_reducible apply w_iEnum
  | ((with_reducible apply d_iList); (focus (walk_at "sq"; done)))
  | ((with_reducible apply d_iTup); (focus (walk_at "hp"; done)))
  | with_reducible apply d_iStr
  | ((with_reducible apply d_iRng1); (focus (walk_at "num"; done)); (focus (walk_at "num"; done)))
  | ((with_reducible apply d_iRng2); (focus (walk_at "num"; done)); (focus (walk_at "num"; done)); (focus (walk_at "num"; done)); (focus (walk_at "num"; done)))
  | ((with_reducible apply d_iZip); (focus (walk_at "sq"; done)); (focus (walk_at "sq"; done)))
  | ((with_reducible apply d_iEnum); (focus (walk_at "sq"; done)))
  | walk_at "w2")
local macro_rules | `(tactic| walk_at "w2") => `(tactic| fail)
local macro_rules | `(tactic| walk_at "wn") => `(tactic| repeat walk_at "w1")
local macro_rules | `(tactic| walk_at "w") => `(tactic| repeat (first | walk_at "w1" | with_reducible apply w_ret))
local macro_rules | `(tactic| walk_at "w2") => `(tactic| first
  | ((with_reducible apply w_isInt); (focus (walk_at "r"; done)))
  | ((with_reducible apply w_isBool); (focus (walk_at "r"; done)))
  | ((with_reducible apply w_isStr); (focus (walk_at "r"; done)))
  | ((with_reducible apply w_isTup); (focus (walk_at "r"; done)))
  | ((with_reducible apply w_isLst); (focus (walk_at "r"; done)))
  | with_reducible apply w_fld
  | with_reducible apply w_sfld
  | with_reducible apply w_faug
  | with_reducible apply w_rAdd
  | with_reducible apply w_rSub
  | with_reducible apply w_make
  | with_reducible apply w_orT
  | with_reducible apply w_dgetd
  | with_reducible apply w_dgetk
  | with_reducible apply w_dsetd
  | ((with_reducible apply k_dgetd); (focus (walk_at "hp"; done)))
  | ((with_reducible apply k_dsetd); (focus (walk_at "hp"; done)))
  | walk_at "w3")
local macro_rules | `(tactic| walk_at "w3") => `(tactic| fail)
local macro_rules | `(tactic| walk_at "w3") => `(tactic| first
  | with_reducible apply w_mt
  | with_reducible apply w_makeX
  | ((with_reducible apply m_Kind); (focus (walk_at "hp"; done)); (focus (exact rfl)))
  | ((with_reducible apply g_Kind_joining); (focus (assumption; done)); (focus (walk_at "hp"; done)))
  | ((with_reducible apply g_Kind_none); (focus (assumption; done)); (focus (walk_at "hp"; done)))
  | ((with_reducible apply g_Kind_making); (focus (assumption; done)); (focus (walk_at "hp"; done)))
  | ((with_reducible apply g_Kind_word); (focus (assumption; done)); (focus (walk_at "hp"; done))))
theorem kd_dputT {H : Hp} {a b : Addr} {kvs : List (List Key × V)} {k : List Key} {v : V} {N : Hp → Prop} (e : H a = some (.dT kvs)) (eb : H b = some (.tup (k.map kV))) (hl : kvs.length ≤ 100000) (q : ∀ H', Chg [a] H H' → H' a = some (.dT (putK kvs k v)) → N H') : ∃ a' H4, V.ref a = .ref a' ∧ DPut H a' (.ref b) v H4 ∧ N H4 :=
  ⟨a, _, rfl, .t e eb (Nat.lt_of_le_of_lt hl (by decide)), q _ (.mut e fun _ z => nomatch z) upd_same⟩
theorem kd_dgetT {H : Hp} {Q : VK} {a b : Addr} {kvs : List (List Key × V)} {k : List Key} {v : V} (e : H a = some (.dT kvs)) (eb : H b = some (.tup (k.map kV))) (ev : valV kvs k = some v) (q : Q v H) : KDg (.ref a) Q (.ref b) H := ⟨a, v, rfl, by rw [← ev]; exact .t e eb, q⟩
theorem kw_dnewT {σ : L2.St} {H : Hp} {Q : VK} (q : ∀ p H2, H p = none → Chg [] H H2 → H2 p = some (.dT []) → Q (.ref p) H2) : tDNewT σ H Q := d_new q
def k2 (i l : Nat) : List Key := [Sum.inl (i : Int), Sum.inl (l : Int)]
theorem k2_kV (i l : Nat) : (k2 i l).map kV = [V.int (i : Nat), V.int (l : Nat)] := rfl
theorem k2_inj {i l i' l' : Nat} (h : k2 i l = k2 i' l') : i = i' ∧ l = l' := by
  unfold k2 at h
  simp at h
  omega
/-- the stretches of a row, by their ends -/
structure StrOk (jf : PyData → PyData → Option PyData) (mf : Int → Option PyData) (ns : List Int) (fs : Nat → Nat → PyData) : Prop where
  one : ∀ i (h : i < ns.length), mf ns[i] = some (fs i (i + 1))
  more : ∀ i l (h : l < ns.length), i < l → ∃ m, mf ns[l] = some m ∧ jf (fs i l) m = some (fs i (l + 1))
/-- the dict of the stretches with B i l -/
def StrAt (S : Addr → Prop) (H : Hp) (kvs : List (List Key × V)) (fs : Nat → Nat → PyData) (B : Nat → Nat → Prop) : Prop := ∀ i l, B i l → ∃ v, valV kvs (k2 i l) = some v ∧ R S H v (fs i l)
theorem StrAt.keep {S : Addr → Prop} {M : List Addr} {H H' : Hp} {kvs : List (List Key × V)} {fs : Nat → Nat → PyData} {B : Nat → Nat → Prop} (c : Chg M H H') (hs : ∀ a, S a → a ∉ M) (h : StrAt S H kvs fs B) : StrAt S H' kvs fs B := fun i l b => by
  obtain ⟨v, e, r⟩ := h i l b
  exact ⟨v, e, r.keep c hs⟩
theorem StrAt.put {S : Addr → Prop} {H : Hp} {kvs : List (List Key × V)} {fs : Nat → Nat → PyData} {B B' : Nat → Nat → Prop} {i l : Nat} {v : V} (h : StrAt S H kvs fs B) (r : R S H v (fs i l)) (hb : ∀ i' l', B' i' l' → (i' = i ∧ l' = l) ∨ B i' l') : StrAt S H (putK kvs (k2 i l) v) fs B' := fun i' l' b => by
  rcases hb i' l' b with ⟨rfl, rfl⟩ | b
  · exact ⟨v, by rw [valV_put, if_pos rfl], r⟩
  · by_cases e : k2 i' l' = k2 i l
    · obtain ⟨rfl, rfl⟩ := k2_inj e
      exact ⟨v, by rw [valV_put, if_pos rfl], r⟩
    · obtain ⟨u, e2, r2⟩ := h i' l' b
      exact ⟨u, by rw [valV_put, if_neg e, e2], r2⟩
theorem r_thereK {S : Addr → Prop} {H : Hp} {v : V} {d : PyData} (r : R S H v d) : R (fun a => S a ∧ H a ≠ none) H v d :=
  r.imp (fun a xs s e => ⟨⟨s, by rw [e]; exact fun z => nomatch z⟩, e⟩) (fun a xs s e => ⟨⟨s, by rw [e]; exact fun z => nomatch z⟩, e⟩) fun a xs e => e
theorem KdAt.there {K : PySem.W.Frag} {L : Nat → Addr → LF} {S : Addr → Prop} {H : Hp} {a : Addr} {jf : PyData → PyData → Option PyData} {nd : PyData} {mf : Int → Option PyData} (h : KdAt K L S H a jf nd mf) : KdAt K L (fun a => S a ∧ H a ≠ none) H a jf nd mf := by
  obtain ⟨dx, v0, v1, v2, v3, h1, h2, h3, h4⟩ := h
  exact ⟨dx, v0, v1, v2, v3, h1, h2.there, r_thereK h3, h4⟩
theorem noX_dT {H : Hp} {p : Addr} {kvs : List (List Key × V)} (h : H p = some (.dT kvs)) : NoX [p] H := fun a m => by
  obtain rfl := List.mem_singleton.mp m
  exact ⟨(fun z e => by rw [h] at e; cases e), (fun C dx fs e => by rw [h] at e; cases e)⟩
theorem noX_lst {H : Hp} {p : Addr} {xs : List V} (h : H p = some (.lst xs)) : NoX [p] H := fun a m => by
  obtain rfl := List.mem_singleton.mp m
  exact ⟨(fun z e => by rw [h] at e; cases e), (fun C dx fs e => by rw [h] at e; cases e)⟩
def sp_stretches (K : PySem.W.Frag) (L : Nat → Addr → LF) : Sp := fun vs H Q _ => ∃ (a l : Addr) (ns : List Int) (S : Addr → Prop) (jf : PyData → PyData → Option PyData) (nd : PyData) (mf : Int → Option PyData) (fs : Nat → Nat → PyData), vs = [.ref a, .ref l] ∧ H l = some (.lst (ns.map V.int)) ∧ ns.length ≤ 40 ∧ KdAt K L S H a jf nd mf ∧ (∀ a, H a = none → S a) ∧ StrOk jf mf ns fs ∧
  ∀ p kvs H', H p = none → Chg [] H H' → H' p = some (.dT kvs) → StrAt S H' kvs fs (fun i l => i < l ∧ l ≤ ns.length) → Q (.ref p) H'
def t_stretches (K : PySem.W.Frag) (L : Nat → Addr → LmX.LF) : TS :=
    tSeq (tAsg (tDNewT) (gName 2))
    (tSeq (tFor (iRng1 (tCons (tCB (cLenQ K) (tCons (tVar 1) (tNil))) (tNil))) (gName 3) (tSeq (tAsg (tMeth (He.ga K "Kind") "worth_of" (sp_Kind_worth_of K L) [] E0 (tVar 0) (tCons (tOp (rIxL K) (tVar 1) (tVar 3)) (tNil))) (gName 4))
    (tSeq (sDPut (tVar 2) (tTup (tCons (tVar 3) (tCons (tOp oAdd (tVar 3) (tC (.int 1))) (tNil)))) (tVar 4))
    (tFor (iRng2 (tCons (tOp oAdd (tVar 3) (tC (.int 1))) (tCons (tCB (cLenQ K) (tCons (tVar 1) (tNil))) (tNil)))) (gName 5) (tSeq (tAsg (tMeth (He.ga K "Kind") "joined" (sp_Kind_joined K L) [] E0 (tVar 0) (tCons (tVar 4) (tCons (tMeth (He.ga K "Kind") "worth_of" (sp_Kind_worth_of K L) [] E0 (tVar 0) (tCons (tOp (rIxL K) (tVar 1) (tVar 5)) (tNil))) (tNil)))) (gName 4))
    (sDPut (tVar 2) (tTup (tCons (tVar 3) (tCons (tOp oAdd (tVar 5) (tC (.int 1))) (tNil)))) (tVar 4)))))))
    (tRet (tVar 2)))
theorem pure_stretches {K : PySem.W.Frag} {L : Nat → Addr → LF} (C : C_Kind K) (vs : List V) (H : Hp) (Q : VK) (E : XK) (hh : sp_stretches K L vs H Q E) : t_stretches K L (fin Q) (start ["kind", "numbers", "found", "i", "worth", "l"] vs) H := by
  obtain ⟨a, l, ns, S, jf, nd, mf, fs, rfl, hl, hz, kd, fr, so, q⟩ := hh
  show t_stretches K L _ [some (.ref a), some (.ref l), none, none, none, none] H
  unfold t_stretches
  walk_at "w"
  refine kw_dnewT fun p H1 np c1 hp => ?_
  have kd0 : KdAt K L (fun b => S b ∧ b ≠ p) H1 a jf nd mf := (kd.there.mono fun b z => ⟨z.1, fun e => z.2 (by rw [e]; exact np)⟩).same c1
  have nx1 := noX_dT hp
  have fr1 : ∀ b, H1 b = none → S b ∧ b ≠ p := fun b e => ⟨fr b (c1.dom b e), fun z => by rw [z, hp] at e; cases e⟩
  have hl1 := c1.at hl
  have lp : l ≠ p := fun z => by rw [z, np] at hl; cases hl
  have hs1 : ∀ b, (S b ∧ b ≠ p) → b ∉ [p] := fun b z m => z.2 (List.mem_singleton.mp m)
  walk_at "w"
  refine d_iRng1 (j := ((ns.map V.int).length : Nat)) (by rw [List.length_map]; omega) (by rw [List.length_map]; omega) ?_
  rw [Int.toNat_natCast, List.length_map]
  refine for_it (walk_range (lo := 0) (n := ns.length)) (fun i σ Hi => Chg [p] H1 Hi ∧ ∃ (kvs : List (List Key × V)) (b3 b4 b5 : Option V), Hi p = some (.dT kvs) ∧ kvs.length ≤ i * 50 ∧ StrAt (fun b => S b ∧ b ≠ p) Hi kvs fs (fun i' l' => i' < i ∧ i' < l' ∧ l' ≤ ns.length) ∧ σ = [some (.ref a), some (.ref l), some (.ref p), b3, b4, b5])
    ⟨.refl, [], _, _, _, hp, by simp, (fun i' l' z => absurd z.1 (by omega)), rfl⟩ (fun _ _ _ _ _ => trivial) (fun i v σ Hi0 Hi hi z y => ?_) (fun σ Hi z => ?_)
  · obtain ⟨ci, kvs, b3, b4, b5, hpi, hk, sa, rfl⟩ := z
    obtain ⟨rfl, rfl⟩ := y
    have hli := ci.at1 hl1 lp
    have kdi := kd0.keep ci nx1 hs1
    have fri : ∀ b, Hi b = none → S b ∧ b ≠ p := fun b e => fr1 b (ci.dom b e)
    simp only [Int.zero_add]
    have ei : atI (ns.map V.int) ((i : Nat) : Int) = some (.int ns[i]) := atI_nat (by rw [List.getElem?_map, List.getElem?_eq_getElem hi]; rfl)
    obtain ⟨di, v0, v1, v2, v3, h0, hj, hn, hm⟩ := id kdi
    walk_at "w"
    refine ⟨a, ns[i], _, jf, nd, mf, fs i (i + 1), rfl, kdi, fri, so.one i hi, fun u H2 c2 ru => ?_⟩
    walk_at "w"
    refine k_tup (by walk_at "sz") fun T H3 nT c3 hT => ?_
    walk_at "w"
    have c23 := c2.same c3
    refine kd_dputT (k := k2 i (i + 1)) (c23.at hpi) (by rw [hT, k2_kV, show ((i + 1 : Nat) : Int) = (i : Int) + 1 by omega]) (by omega) fun H4 c4 h4 => ?_
    have ci4 : Chg [p] H1 H4 := (ci.same c23).both c4
    have hl4 := ci4.at1 hl1 lp
    walk_at "w"
    refine d_iRng2 (i := (i : Int) + 1) (j := ((ns.map V.int).length : Nat)) (by omega) (by omega) (by rw [List.length_map]; omega) (by rw [List.length_map]; omega) ?_
    rw [List.length_map, show (((ns.length : Nat) : Int) - ((i : Int) + 1)).toNat = ns.length - (i + 1) by omega]
    have sa3 : StrAt (fun b => S b ∧ b ≠ p) H4 (putK kvs (k2 i (i + 1)) u) fs (fun i' l' => (i' < i ∧ i' < l' ∧ l' ≤ ns.length) ∨ (i' = i ∧ i < l' ∧ l' ≤ i + 1 + 0)) :=
      ((sa.keep c23 (fun _ _ => by simp)).keep c4 hs1).put ((ru.same c3).keep c4 hs1) fun i' l' z => by omega
    refine for_it (walk_range (lo := (i : Int) + 1) (n := ns.length - (i + 1))) (fun j σ Hj => Chg [p] H1 Hj ∧ ∃ (kvs : List (List Key × V)) (v : V) (b5 : Option V), Hj p = some (.dT kvs) ∧ kvs.length ≤ i * 50 + 1 + j ∧ StrAt (fun b => S b ∧ b ≠ p) Hj kvs fs (fun i' l' => (i' < i ∧ i' < l' ∧ l' ≤ ns.length) ∨ (i' = i ∧ i < l' ∧ l' ≤ i + 1 + j)) ∧ R (fun b => S b ∧ b ≠ p) Hj v (fs i (i + 1 + j)) ∧ σ = [some (.ref a), some (.ref l), some (.ref p), some (.int (i : Nat)), some v, b5])
      ⟨ci4, _, u, _, h4, by have := length_putK kvs (k2 i (i + 1)) u; omega, sa3, (ru.same c3).keep c4 hs1, rfl⟩ (fun _ _ _ _ _ => trivial) (fun j v σ Hj0 Hj hj2 z y => ?_) (fun σ Hj z => ?_)
    · obtain ⟨cj, kvs2, v, b5, hpj, hk2, sa2, rv, rfl⟩ := z
      obtain ⟨rfl, rfl⟩ := y
      have hlj := cj.at1 hl1 lp
      have kdj := kd0.keep cj nx1 hs1
      have frj : ∀ b, Hj b = none → S b ∧ b ≠ p := fun b e => fr1 b (cj.dom b e)
      have ej : ((i : Int) + 1 + ((j : Nat) : Int)) = ((i + 1 + j : Nat) : Int) := by omega
      simp only [ej]
      have hjl : i + 1 + j < ns.length := by omega
      have eij : atI (ns.map V.int) ((i + 1 + j : Nat) : Int) = some (.int ns[i + 1 + j]) := atI_nat (by rw [List.getElem?_map, List.getElem?_eq_getElem hjl]; rfl)
      obtain ⟨m, em, ejf⟩ := so.more i (i + 1 + j) hjl (by omega)
      obtain ⟨dj, w0, w1, w2, w3, h0j, hjj, hnj, hmj⟩ := id kdj
      generalize hq : i + 1 + j = lq at *
      walk_at "w"
      refine ⟨a, ns[lq], _, jf, nd, mf, m, rfl, kdj, frj, em, fun u2 H5 c5 ru2 => ?_⟩
      walk_at "w"
      refine ⟨a, v, u2, _, jf, nd, mf, fs i lq, m, fs i (lq + 1), rfl, kdj.same c5, rv.same c5, ru2, fresh_chg c5 frj, ejf, fun u3 H6 c6 ru3 => ?_⟩
      walk_at "w"
      refine k_tup (by walk_at "sz") fun T2 H7 nT2 c7 hT2 => ?_
      walk_at "w"
      have c57 := (c5.same c6).same c7
      refine kd_dputT (k := k2 i (lq + 1)) (c57.at hpj) (by rw [hT2, k2_kV, show ((lq + 1 : Nat) : Int) = (lq : Int) + 1 by omega]) (by omega) fun H8 c8 h8 => ?_
      refine ⟨(cj.same c57).both c8, _, u3, _, h8, by have := length_putK kvs2 (k2 i (lq + 1)) u3; omega, ?_, ?_, rfl⟩
      · exact ((sa2.keep c57 (fun _ _ => by simp)).keep c8 hs1).put ((ru3.same c7).keep c8 hs1) fun i' l' z => by omega
      · have e2 : i + 1 + (j + 1) = lq + 1 := by omega
        rw [e2]
        exact (ru3.same c7).keep c8 hs1
    · obtain ⟨cj, kvs2, v, b5, hpj, hk2, sa2, rv, rfl⟩ := z
      refine ⟨cj, kvs2, _, _, _, hpj, by omega, fun i' l' z => sa2 i' l' (by omega), rfl⟩
  · obtain ⟨ci, kvs, b3, b4, b5, hpi, hk, sa, rfl⟩ := z
    walk_at "w"
    refine q p kvs Hi np (c1.one ci np) hpi fun i' l' z => ?_
    obtain ⟨v, e, r⟩ := sa i' l' ⟨by omega, z⟩
    exact ⟨v, e, r.mono fun b z => z.1⟩
end Fg
namespace Fg
open PySem PySem.Spec PyProof.Rows L2 LamX LmX
local macro_rules | `(tactic| walk_at "hp") => `(tactic| first
  | assumption
  | exact upd_same
  | (refine Chg.at (by assumption) ?_; walk_at "hp")
  | (refine Chg.at1 (by assumption) ?_ (by walk_at "ne"); walk_at "hp"))
local macro_rules | `(tactic| walk_at "ne") => `(tactic| first | assumption | (apply Ne.symm; assumption))
local macro_rules | `(tactic| walk_at "sq") => `(tactic| first | assumption | exact sqL (by walk_at "hp") | (refine Chg.seq (by assumption) ?_; walk_at "sq"))
local macro_rules | `(tactic| walk_at "sz") => `(tactic| first | assumption | exact Nat.zero_le _ | (simp only [List.length_cons, List.length_nil]; decide) | exact Nat.le_trans (by first | omega | (simp; done) | (simp; omega)) (show 100000 ≤ sizeLine by decide) | exact Nat.lt_of_lt_of_le (by first | omega | (simp; done) | (simp; omega)) (show 100000 ≤ sizeLine by decide))
local macro_rules | `(tactic| walk_at "ix") => `(tactic| first | exact at0 | exact at1 | exact at2 | exact at3 | assumption | exact rfl | walk_at "ix2")
local macro_rules | `(tactic| walk_at "ix2") => `(tactic| fail)
local macro_rules | `(tactic| walk_at "num") => `(tactic| first | assumption | omega | decide | walk_at "num2")
local macro_rules | `(tactic| walk_at "num2") => `(tactic| fail)
local macro_rules | `(tactic| walk_at "im") => `(tactic| first | assumption | exact R.non (S := fun _ => False) | exact R.bl (S := fun _ => False) _ | exact R.int (S := fun _ => False) _ | exact R.str (S := fun _ => False) _ | (refine R.im (by assumption) ?_; walk_at "im"))
local macro_rules | `(tactic| walk_at "r") => `(tactic| first | assumption | exact R.non (S := fun _ => False) | exact R.bl (S := fun _ => False) _ | exact R.int (S := fun _ => False) _ | exact R.str (S := fun _ => False) _ | (refine R.same (by assumption) ?_; walk_at "r") | exact R.any (by walk_at "im"))
local macro_rules | `(tactic| walk_at "chg") => `(tactic| first
  | exact Chg.refl
  | assumption
  | (refine Chg.same ?_ (by assumption); walk_at "chg")
  | (refine Chg.both ?_ (by assumption); walk_at "chg")
  | (refine Chg.pre (by assumption) ?_; walk_at "chg"))
local macro_rules | `(tactic| walk_at "w1") => `(tactic| first
  | with_reducible apply w_seq
  | with_reducible apply w_asg
  | ((with_reducible apply w_var); (focus (exact rfl)))
  | with_reducible apply w_c
  | with_reducible apply w_op
  | with_reducible apply w_cons
  | with_reducible apply w_nil
  | with_reducible apply w_gName
  | with_reducible apply w_if
  | with_reducible apply w_test
  | with_reducible apply w_B
  | with_reducible apply w_isbl
  | with_reducible apply w_retN
  | with_reducible apply w_next
  | with_reducible apply w_drop
  | with_reducible apply w_cb
  | with_reducible apply w_call
  | with_reducible apply w_callN
  | with_reducible apply w_bm
  | with_reducible apply w_bm0
  | ((with_reducible apply w_tyL); (focus (walk_at "hp"; done)))
  | with_reducible apply w_dput
  | with_reducible apply w_m1
  | with_reducible apply w_isstr
  | with_reducible apply w_and
  | with_reducible apply w_or
  | with_reducible apply w_not
  | with_reducible apply w_andV
  | with_reducible apply w_orV
  | with_reducible apply w_notV
  | with_reducible apply w_ifE
  | with_reducible apply w_chain
  | with_reducible apply w_un
  | with_reducible apply w_neg
  | with_reducible apply w_add
  | with_reducible apply w_sub
  | ((with_reducible apply w_mod); (focus (walk_at "num"; done)))
  | ((with_reducible apply w_mul); (focus (walk_at "num"; done)))
  | ((with_reducible apply w_fdiv); (focus (walk_at "num"; done)))
  | ((with_reducible apply w_pow); (focus (walk_at "num"; done)))
  | with_reducible apply w_lt
  | with_reducible apply w_le
  | with_reducible apply w_gt
  | with_reducible apply w_ge
  | with_reducible apply w_ltS
  | with_reducible apply w_geS
  | with_reducible apply w_inC
  | with_reducible apply w_notInC
  | with_reducible apply w_isN
  | with_reducible apply w_notN
  | with_reducible apply w_isB
  | with_reducible apply w_notB
  | ((with_reducible apply w_addS); (focus (walk_at "sz"; done)))
  | ((with_reducible apply w_ixL); (focus (walk_at "sq"; done)); (focus (walk_at "ix"; done)))
  | ((with_reducible apply w_ixT); (focus (walk_at "hp"; done)); (focus (walk_at "ix"; done)))
  | ((with_reducible apply w_ixS); (focus (walk_at "sz"; done)); (focus (walk_at "ix"; done)))
  | with_reducible apply w_gSub
  | ((with_reducible apply w_gTup); (focus (walk_at "hp"; done)); (focus (exact rfl)))
  | with_reducible apply w_gCons
  | with_reducible apply w_gNil
  | ((with_reducible apply w_aug); (focus (exact rfl)))
  | with_reducible apply w_ipI
  | ((with_reducible apply w_eq); (focus (exact rfl)))
  | ((with_reducible apply w_ne); (focus (exact rfl)))
  | with_reducible apply w_max
  | with_reducible apply w_min
  | with_reducible apply w_abs
  | with_reducible apply w_intB
  | with_reducible apply w_intI
  | with_reducible apply w_tup1
  | with_reducible apply w_lst1
  | with_reducible apply w_sl
  | with_reducible apply w_part
  | with_reducible apply w_noPart
  | with_reducible apply w_isint
  | ((with_reducible apply w_slS); (focus (walk_at "sz"; done)))
  | with_reducible apply w_iteT
  | with_reducible apply w_iteF
  | with_reducible apply w_iteN
  | ((with_reducible apply w_iteYes); (focus (exact rfl)))
  | ((with_reducible apply w_iteNo); (focus (exact rfl)))
  | ((with_reducible apply w_lenL); (focus (walk_at "sq"; done)))
  | ((with_reducible apply w_lenT); (focus (walk_at "hp"; done)))
  | ((with_reducible apply w_lenS); (focus (walk_at "sz"; done)))
  | with_reducible apply w_lc
  | with_reducible apply w_for
  | with_reducible apply w_yes
  | ((with_reducible apply w_wipe); (focus (exact rfl)))
  | with_reducible apply w_iList
  | with_reducible apply w_iTup
  | with_reducible apply w_iStr
  | with_reducible apply w_iRng1
  | with_reducible apply w_iRng2
  | with_reducible apply w_iZip
  | with_reducible apply w_iEnum
  | ((with_reducible apply d_iList); (focus (walk_at "sq"; done)))
  | ((with_reducible apply d_iTup); (focus (walk_at "hp"; done)))
  | with_reducible apply d_iStr
  | ((with_reducible apply d_iRng1); (focus (walk_at "num"; done)); (focus (walk_at "num"; done)))
  | ((with_reducible apply d_iRng2); (focus (walk_at "num"; done)); (focus (walk_at "num"; done)); (focus (walk_at "num"; done)); (focus (walk_at "num"; done)))
  | ((with_reducible apply d_iZip); (focus (walk_at "sq"; done)); (focus (walk_at "sq"; done)))
  | ((with_reducible apply d_iEnum); (focus (walk_at "sq"; done)))
  | walk_at "w2")
local macro_rules | `(tactic| walk_at "w2") => `(tactic| fail)
local macro_rules | `(tactic| walk_at "wn") => `(tactic| repeat walk_at "w1")
local macro_rules | `(tactic| walk_at "w") => `(tactic| repeat (first | walk_at "w1" | with_reducible apply w_ret))
local macro_rules | `(tactic| walk_at "w2") => `(tactic| first
  | ((with_reducible apply w_isInt); (focus (walk_at "r"; done)))
  | ((with_reducible apply w_isBool); (focus (walk_at "r"; done)))
  | ((with_reducible apply w_isStr); (focus (walk_at "r"; done)))
  | ((with_reducible apply w_isTup); (focus (walk_at "r"; done)))
  | ((with_reducible apply w_isLst); (focus (walk_at "r"; done)))
  | with_reducible apply w_fld
  | with_reducible apply w_sfld
  | with_reducible apply w_faug
  | with_reducible apply w_rAdd
  | with_reducible apply w_rSub
  | with_reducible apply w_make
  | with_reducible apply w_orT
  | with_reducible apply w_dgetd
  | with_reducible apply w_dgetk
  | with_reducible apply w_dsetd
  | ((with_reducible apply k_dgetd); (focus (walk_at "hp"; done)))
  | ((with_reducible apply k_dsetd); (focus (walk_at "hp"; done)))
  | walk_at "w3")
local macro_rules | `(tactic| walk_at "w3") => `(tactic| fail)
local macro_rules | `(tactic| walk_at "w3") => `(tactic| first
  | with_reducible apply w_mt
  | with_reducible apply w_makeX
  | ((with_reducible apply m_Kind); (focus (walk_at "hp"; done)); (focus (exact rfl)))
  | ((with_reducible apply g_Kind_joining); (focus (assumption; done)); (focus (walk_at "hp"; done)))
  | ((with_reducible apply g_Kind_none); (focus (assumption; done)); (focus (walk_at "hp"; done)))
  | ((with_reducible apply g_Kind_making); (focus (assumption; done)); (focus (walk_at "hp"; done)))
  | ((with_reducible apply g_Kind_word); (focus (assumption; done)); (focus (walk_at "hp"; done))))
def firstR {α : Type} (lo hi : Nat) (f : Nat → Option α) : Option α := (List.range' lo (hi - lo)).findSome? f
theorem firstR_none {α : Type} {lo hi : Nat} {f : Nat → Option α} (h : ∀ k, lo ≤ k → k < hi → f k = none) : firstR lo hi f = none := by
  unfold firstR
  rw [List.findSome?_eq_none_iff]
  intro k hk
  obtain ⟨h1, h2⟩ := List.mem_range'_1.mp hk
  exact h k h1 (by omega)
theorem firstR_some {α : Type} {lo hi m : Nat} {f : Nat → Option α} {x : α} (h1 : lo ≤ m) (h2 : m < hi) (h : ∀ k, lo ≤ k → k < m → f k = none) (hx : f m = some x) : firstR lo hi f = some x := by
  unfold firstR
  have e : List.range' lo (hi - lo) = List.range' lo (m - lo) ++ (m :: List.range' (m + 1) (hi - (m + 1))) := by
    have e1 : hi - lo = (m - lo) + (hi - m) := by omega
    rw [e1, ← List.range'_append_1]
    have e2 : lo + (m - lo) = m := by omega
    rw [e2]
    have e3 : hi - m = (hi - (m + 1)) + 1 := by omega
    rw [e3, List.range'_succ]
  rw [e, List.findSome?_append]
  have e4 : (List.range' lo (m - lo)).findSome? f = none := by
    rw [List.findSome?_eq_none_iff]
    intro k hk
    obtain ⟨h3, h4⟩ := List.mem_range'_1.mp hk
    exact h k h3 (by omega)
  rw [e4, Option.none_or, List.findSome?_cons, hx]
def t2 (i l : Nat) : PyData := .tuple [.int (i : Nat), .int (l : Nat)]
def t3 (i j l : Nat) : PyData := .tuple [.int (i : Nat), .int (j : Nat), .int (l : Nat)]
def prF (eb : Nat → Nat → Bool) (n i : Nat) : Option PyData := firstR (i + 1) (n + 1) fun l => if eb i l = true then some (t2 i l) else none
def prD (eb : Nat → Nat → Bool) (n : Nat) : Option PyData := firstR 0 n (prF eb n)
def trG (tb : Nat → Nat → Nat → Bool) (n i j : Nat) : Option PyData := firstR (j + 1) (n + 1) fun l => if tb i j l = true then some (t3 i j l) else none
def trF (tb : Nat → Nat → Nat → Bool) (n i : Nat) : Option PyData := firstR (i + 1) n (trG tb n i)
def trD (tb : Nat → Nat → Nat → Bool) (n : Nat) : Option PyData := firstR 0 n (trF tb n)
/-- where joining by groups errs first -/
def grpD (b0 : Bool) (eb : Nat → Nat → Bool) (tb : Nat → Nat → Nat → Bool) (n : Nat) : PyData :=
  if b0 = true then .tuple [] else match prD eb n with
    | some d => d
    | none => (trD tb n).getD .none
structure GrpOk (jf : PyData → PyData → Option PyData) (nd : PyData) (mf : Int → Option PyData) (ns : List Int) (fs : Nat → Nat → PyData) (b0 : Bool) (eb : Nat → Nat → Bool) (tb : Nat → Nat → Nat → Bool) : Prop where
  so : StrOk jf mf ns fs
  e0 : errD jf nd nd = some b0
  es : ∀ i l, i < l → l ≤ ns.length → errD jf nd (fs i l) = some (eb i l)
  ts : ∀ i j l, i < j → j < l → l ≤ ns.length → ∃ d c, jf (fs i j) (fs j l) = some d ∧ eqD d (fs i l) = some c ∧ tb i j l = !c
def sp_groups (K : PySem.W.Frag) (L : Nat → Addr → LF) : Sp := fun vs H Q _ => ∃ (a l : Addr) (ns : List Int) (S : Addr → Prop) (jf : PyData → PyData → Option PyData) (nd : PyData) (mf : Int → Option PyData) (fs : Nat → Nat → PyData) (b0 : Bool) (eb : Nat → Nat → Bool) (tb : Nat → Nat → Nat → Bool), vs = [.ref a, .ref l] ∧ H l = some (.lst (ns.map V.int)) ∧ ns.length ≤ 40 ∧ KdAt K L S H a jf nd mf ∧ (∀ a, H a = none → S a) ∧ GrpOk jf nd mf ns fs b0 eb tb ∧
  ∀ v H', Chg [] H H' → Im H' v (grpD b0 eb tb ns.length) → Q v H'
def t_groups (K : PySem.W.Frag) (L : Nat → Addr → LmX.LF) : TS :=
    tSeq (tIfS (tB (tCall (sp_none_errs K L) [] E0 (tCons (tVar 0) (tCons (tFld K (tVar 0) "none") (tNil))))) (tRet (tTup (tNil))) (tNext))
    (tSeq (tAsg (tCB (cLenQ K) (tCons (tVar 1) (tNil))) (gName 2))
    (tSeq (tAsg (tCall (sp_stretches K L) [] E0 (tCons (tVar 0) (tCons (tVar 1) (tNil)))) (gName 3))
    (tSeq (tFor (iRng1 (tCons (tVar 2) (tNil))) (gName 4) (tFor (iRng2 (tCons (tOp oAdd (tVar 4) (tC (.int 1))) (tCons (tOp oAdd (tVar 2) (tC (.int 1))) (tNil)))) (gName 5) (tIfS (tB (tCall (sp_none_errs K L) [] E0 (tCons (tVar 0) (tCons (tDGet (tVar 3) (tTup (tCons (tVar 4) (tCons (tVar 5) (tNil))))) (tNil))))) (tRet (tTup (tCons (tVar 4) (tCons (tVar 5) (tNil))))) (tNext))))
    (tSeq (tFor (iRng1 (tCons (tVar 2) (tNil))) (gName 4) (tFor (iRng2 (tCons (tOp oAdd (tVar 4) (tC (.int 1))) (tCons (tVar 2) (tNil)))) (gName 6) (tFor (iRng2 (tCons (tOp oAdd (tVar 6) (tC (.int 1))) (tCons (tOp oAdd (tVar 2) (tC (.int 1))) (tNil)))) (gName 5) (tIfS (tNot (tTest (tOp oEqD (tMeth (He.ga K "Kind") "joined" (sp_Kind_joined K L) [] E0 (tVar 0) (tCons (tDGet (tVar 3) (tTup (tCons (tVar 4) (tCons (tVar 6) (tNil))))) (tCons (tDGet (tVar 3) (tTup (tCons (tVar 6) (tCons (tVar 5) (tNil))))) (tNil)))) (tDGet (tVar 3) (tTup (tCons (tVar 4) (tCons (tVar 5) (tNil)))))))) (tRet (tTup (tCons (tVar 4) (tCons (tVar 6) (tCons (tVar 5) (tNil)))))) (tNext)))))
    (tRet (tC .non))))))
theorem pure_groups {K : PySem.W.Frag} {L : Nat → Addr → LF} (C : C_Kind K) (vs : List V) (H : Hp) (Q : VK) (E : XK) (hh : sp_groups K L vs H Q E) : t_groups K L (fin Q) (start ["kind", "numbers", "many", "folds", "i", "l", "j"] vs) H := by
  obtain ⟨a, l, ns, S, jf, nd, mf, fs, b0, eb, tb, rfl, hl, hz, kd, fr, go, q⟩ := hh
  show t_groups K L _ [some (.ref a), some (.ref l), none, none, none, none, none] H
  unfold t_groups
  obtain ⟨di, v0, v1, v2, v3, h0, hj, hn, hm⟩ := id kd
  walk_at "w"
  refine ⟨a, v1, S, jf, nd, mf, nd, b0, rfl, kd, hn, fr, go.e0, fun H1 c1 => ?_⟩
  refine ⟨_, rfl, ?_⟩
  cases b0 with
  | true =>
    walk_at "w"
    refine k_tup (by walk_at "sz") fun T H3 nT c3 hT => ?_
    walk_at "w"
    exact q _ _ (c1.same c3) (.tup hT .nil)
  | false =>
    have gd : grpD false eb tb ns.length = match prD eb ns.length with
      | some d => d
      | none => (trD tb ns.length).getD .none := rfl
    have hl1 := c1.at hl
    walk_at "w"
    refine ⟨a, l, ns, S, jf, nd, mf, fs, rfl, hl1, hz, kd.same c1, fresh_chg c1 fr, go.so, fun p kvs H2 np c2 hp sa => ?_⟩
    rw [List.length_map]
    have c12 := c1.same c2
    walk_at "w"
    try refine d_iRng1 (j := ((ns.length : Nat) : Int)) (by omega) (by omega) ?_
    rw [Int.toNat_natCast]
    refine for_it (walk_range (lo := 0) (n := ns.length)) (fun i σ Hi => Chg [] H2 Hi ∧ (∀ k, k < i → prF eb ns.length k = none) ∧ ∃ (b4 b5 b6 : Option V), σ = [some (.ref a), some (.ref l), some (.int (ns.length : Nat)), some (.ref p), b4, b5, b6])
      ⟨.refl, (fun k h => absurd h (by omega)), _, _, _, rfl⟩ (fun _ _ _ _ _ => trivial) (fun i v σ Hi0 Hi hi z y => ?_) (fun σ Hi z => ?_)
    · obtain ⟨ci, hk, b4, b5, b6, rfl⟩ := z
      obtain ⟨rfl, rfl⟩ := y
      simp only [Int.zero_add]
      walk_at "w"
      try refine d_iRng2 (i := (i : Int) + 1) (j := ((ns.length : Nat) : Int) + 1) (by omega) (by omega) (by omega) (by omega) ?_
      rw [show (((ns.length : Nat) : Int) + 1 - ((i : Int) + 1)).toNat = ns.length + 1 - (i + 1) by omega]
      refine for_it (walk_range (lo := (i : Int) + 1) (n := ns.length + 1 - (i + 1))) (fun j σ Hj => Chg [] H2 Hj ∧ (∀ k, i + 1 ≤ k → k < i + 1 + j → (if eb i k = true then some (t2 i k) else none) = none) ∧ ∃ (b5 b6 : Option V), σ = [some (.ref a), some (.ref l), some (.int (ns.length : Nat)), some (.ref p), some (.int (i : Nat)), b5, b6])
        ⟨ci, (fun k h1 h2 => absurd h2 (by omega)), _, _, rfl⟩ (fun _ _ _ _ _ => trivial) (fun j v σ Hj0 Hj hj2 z y => ?_) (fun σ Hj z => ?_)
      · obtain ⟨cj, hk2, b5, b6, rfl⟩ := z
        obtain ⟨rfl, rfl⟩ := y
        have ej : ((i : Int) + 1 + ((j : Nat) : Int)) = ((i + 1 + j : Nat) : Int) := by omega
        simp only [ej]
        obtain ⟨u, eu, ru⟩ := sa i (i + 1 + j) ⟨by omega, by omega⟩
        have ee := go.es i (i + 1 + j) (by omega) (by omega)
        have hpj := cj.at hp
        have c1j := c12.same cj
        generalize hq : i + 1 + j = lq at *
        walk_at "w"
        refine k_tup (by walk_at "sz") fun T H3 nT c3 hT => ?_
        refine kd_dgetT (k := k2 i lq) (c3.at hpj) (by rw [hT]; rfl) eu ?_
        walk_at "w"
        refine ⟨a, u, S, jf, nd, mf, fs i lq, eb i lq, rfl, kd.same (c1j.same c3), ru.same (cj.same c3), fresh_chg (c1j.same c3) fr, ee, fun H4 c4 => ?_⟩
        refine ⟨_, rfl, ?_⟩
        cases hb : eb i lq with
        | true =>
          walk_at "w"
          refine k_tup (by walk_at "sz") fun T2 H5 nT2 c5 hT2 => ?_
          walk_at "w"
          refine q _ _ (((c1j.same c3).same c4).same c5) ?_
          have e1 : prF eb ns.length i = some (t2 i lq) := firstR_some (m := lq) (by omega) (by omega) (fun k h1 h2 => hk2 k h1 (by omega)) (by rw [hb]; rfl)
          have e2 : prD eb ns.length = some (t2 i lq) := firstR_some (m := i) (by omega) hi (fun k _ h2 => hk k h2) e1
          rw [gd, e2]
          exact .tup hT2 (.cons (.int _) (.cons (.int _) .nil))
        | false =>
          walk_at "w"
          refine ⟨(cj.same c3).same c4, fun k h1 h2 => ?_, _, _, rfl⟩
          by_cases hkl : k = lq
          · rw [hkl, hb]; rfl
          · exact hk2 k h1 (by omega)
      · obtain ⟨cj, hk2, b5, b6, rfl⟩ := z
        refine ⟨cj, fun k h => ?_, _, _, _, rfl⟩
        by_cases hki : k = i
        · subst hki
          exact firstR_none fun l h1 h2 => hk2 l h1 (by omega)
        · exact hk k (by omega)
    · obtain ⟨ci, hk, b4, b5, b6, rfl⟩ := z
      have gd2 : grpD false eb tb ns.length = (trD tb ns.length).getD .none := by
        rw [gd, show prD eb ns.length = none from firstR_none fun k _ h => hk k h]
      clear hk
      walk_at "w"
      try refine d_iRng1 (j := ((ns.length : Nat) : Int)) (by omega) (by omega) ?_
      try rw [Int.toNat_natCast]
      refine for_it (walk_range (lo := 0) (n := ns.length)) (fun i σ Hi => Chg [] H2 Hi ∧ (∀ k, k < i → trF tb ns.length k = none) ∧ ∃ (b4 b5 b6 : Option V), σ = [some (.ref a), some (.ref l), some (.int (ns.length : Nat)), some (.ref p), b4, b5, b6])
        ⟨ci, (fun k h => absurd h (by omega)), _, _, _, rfl⟩ (fun _ _ _ _ _ => trivial) (fun i v σ Hi0 Hi hi z y => ?_) (fun σ Hi z => ?_)
      · obtain ⟨ci, hk, b4, b5, b6, rfl⟩ := z
        obtain ⟨rfl, rfl⟩ := y
        simp only [Int.zero_add]
        walk_at "w"
        try refine d_iRng2 (i := (i : Int) + 1) (j := ((ns.length : Nat) : Int)) (by omega) (by omega) (by omega) (by omega) ?_
        rw [show (((ns.length : Nat) : Int) - ((i : Int) + 1)).toNat = ns.length - (i + 1) by omega]
        refine for_it (walk_range (lo := (i : Int) + 1) (n := ns.length - (i + 1))) (fun j σ Hj => Chg [] H2 Hj ∧ (∀ k, i + 1 ≤ k → k < i + 1 + j → trG tb ns.length i k = none) ∧ ∃ (b5 b6 : Option V), σ = [some (.ref a), some (.ref l), some (.int (ns.length : Nat)), some (.ref p), some (.int (i : Nat)), b5, b6])
          ⟨ci, (fun k h1 h2 => absurd h2 (by omega)), _, _, rfl⟩ (fun _ _ _ _ _ => trivial) (fun j v σ Hj0 Hj hj2 z y => ?_) (fun σ Hj z => ?_)
        · obtain ⟨cj, hk2, b5, b6, rfl⟩ := z
          obtain ⟨rfl, rfl⟩ := y
          have ej : ((i : Int) + 1 + ((j : Nat) : Int)) = ((i + 1 + j : Nat) : Int) := by omega
          simp only [ej]
          generalize hq : i + 1 + j = jq at *
          walk_at "w"
          try refine d_iRng2 (i := (jq : Int) + 1) (j := ((ns.length : Nat) : Int) + 1) (by omega) (by omega) (by omega) (by omega) ?_
          rw [show (((ns.length : Nat) : Int) + 1 - ((jq : Int) + 1)).toNat = ns.length + 1 - (jq + 1) by omega]
          refine for_it (walk_range (lo := (jq : Int) + 1) (n := ns.length + 1 - (jq + 1))) (fun m σ Hm => Chg [] H2 Hm ∧ (∀ k, jq + 1 ≤ k → k < jq + 1 + m → (if tb i jq k = true then some (t3 i jq k) else none) = none) ∧ ∃ (b5 : Option V), σ = [some (.ref a), some (.ref l), some (.int (ns.length : Nat)), some (.ref p), some (.int (i : Nat)), b5, some (.int (jq : Nat))])
            ⟨cj, (fun k h1 h2 => absurd h2 (by omega)), _, rfl⟩ (fun _ _ _ _ _ => trivial) (fun m v σ Hm0 Hm hm2 z y => ?_) (fun σ Hm z => ?_)
          · obtain ⟨cm, hk3, b5, rfl⟩ := z
            obtain ⟨rfl, rfl⟩ := y
            have em : ((jq : Int) + 1 + ((m : Nat) : Int)) = ((jq + 1 + m : Nat) : Int) := by omega
            simp only [em]
            obtain ⟨u1, eu1, ru1⟩ := sa i jq ⟨by omega, by omega⟩
            obtain ⟨u2, eu2, ru2⟩ := sa jq (jq + 1 + m) ⟨by omega, by omega⟩
            obtain ⟨u3, eu3, ru3⟩ := sa i (jq + 1 + m) ⟨by omega, by omega⟩
            obtain ⟨d, c, ejf, eeq, etb⟩ := go.ts i jq (jq + 1 + m) (by omega) (by omega) (by omega)
            obtain ⟨n1, n2, n3, rfl⟩ := eqD_at eeq
            have hpm := cm.at hp
            have c1m := c12.same cm
            have kdm := kd.same c1m
            have frm := fresh_chg c1m fr
            obtain ⟨di, v0, v1, v2, v3, h0, hj, hn, hm⟩ := id kdm
            generalize hq2 : jq + 1 + m = lq at *
            walk_at "w"
            refine k_tup (by walk_at "sz") fun T3 H3 nT3 c3 hT3 => ?_
            refine kd_dgetT (k := k2 i jq) (c3.at hpm) (by rw [hT3]; rfl) eu1 ?_
            walk_at "w"
            have hp3 := c3.at hpm
            refine k_tup (by walk_at "sz") fun T4 H4 nT4 c4 hT4 => ?_
            refine kd_dgetT (k := k2 jq lq) (c4.at hp3) (by rw [hT4]; rfl) eu2 ?_
            have c34 := c3.same c4
            walk_at "w"
            refine ⟨a, u1, u2, S, jf, nd, mf, fs i jq, fs jq lq, d, rfl, kdm.same c34, ru1.same (cm.same c34), ru2.same (cm.same c34), fresh_chg c34 frm, ejf, fun u H5 c5 ru => ?_⟩
            walk_at "w"
            have c35 := c34.same c5
            refine k_tup (by walk_at "sz") fun T6 H6 nT6 c6 hT6 => ?_
            refine kd_dgetT (k := k2 i lq) (c6.at (c35.at hpm)) (by rw [hT6]; rfl) eu3 ?_
            have c36 := c35.same c6
            walk_at "w"
            refine w_eqD (ru.same c6) (ru3.same (cm.same c36)) n1 n2 n3 ?_
            cases hb : PyData.eqv d (fs i lq) with
            | false =>
              rw [hb] at etb
              walk_at "w"
              refine k_tup (by walk_at "sz") fun T7 H7 nT7 c7 hT7 => ?_
              walk_at "w"
              refine q _ _ ((c1m.same c36).same c7) ?_
              have e0 : trG tb ns.length i jq = some (t3 i jq lq) := firstR_some (m := lq) (by omega) (by omega) (fun k h1 h2 => hk3 k h1 (by omega)) (by rw [etb]; rfl)
              have e1 : trF tb ns.length i = some (t3 i jq lq) := firstR_some (m := jq) (by omega) (by omega) (fun k h1 h2 => hk2 k h1 (by omega)) e0
              have e2 : trD tb ns.length = some (t3 i jq lq) := firstR_some (m := i) (by omega) hi (fun k _ h2 => hk k h2) e1
              rw [gd2, e2]
              exact .tup hT7 (.cons (.int _) (.cons (.int _) (.cons (.int _) .nil)))
            | true =>
              rw [hb] at etb
              walk_at "w"
              refine ⟨cm.same c36, fun k h1 h2 => ?_, _, rfl⟩
              by_cases hkl : k = lq
              · rw [hkl, etb]; rfl
              · exact hk3 k h1 (by omega)
          · obtain ⟨cm, hk3, b5, rfl⟩ := z
            refine ⟨cm, fun k h1 h2 => ?_, _, _, rfl⟩
            by_cases hki : k = jq
            · subst hki
              exact firstR_none fun l h1 h2 => hk3 l h1 (by omega)
            · exact hk2 k h1 (by omega)
        · obtain ⟨cj, hk2, b5, b6, rfl⟩ := z
          refine ⟨cj, fun k h => ?_, _, _, _, rfl⟩
          by_cases hki : k = i
          · subst hki
            exact firstR_none fun l h1 h2 => hk2 l h1 (by omega)
          · exact hk k (by omega)
      · obtain ⟨ci, hk, b4, b5, b6, rfl⟩ := z
        walk_at "w"
        refine q _ _ (c12.same ci) ?_
        rw [gd2, show trD tb ns.length = none from firstR_none fun k _ h => hk k h]
        exact .non
end Fg
namespace Fg
open PySem PySem.Spec PyProof.Rows L2 LamX LmX
local macro_rules | `(tactic| walk_at "hp") => `(tactic| first
  | assumption
  | exact upd_same
  | (refine Chg.at (by assumption) ?_; walk_at "hp")
  | (refine Chg.at1 (by assumption) ?_ (by walk_at "ne"); walk_at "hp"))
local macro_rules | `(tactic| walk_at "ne") => `(tactic| first | assumption | (apply Ne.symm; assumption))
local macro_rules | `(tactic| walk_at "sq") => `(tactic| first | assumption | exact sqL (by walk_at "hp") | (refine Chg.seq (by assumption) ?_; walk_at "sq"))
local macro_rules | `(tactic| walk_at "sz") => `(tactic| first | assumption | exact Nat.zero_le _ | (simp only [List.length_cons, List.length_nil]; decide) | exact Nat.le_trans (by first | omega | (simp; done) | (simp; omega)) (show 100000 ≤ sizeLine by decide) | exact Nat.lt_of_lt_of_le (by first | omega | (simp; done) | (simp; omega)) (show 100000 ≤ sizeLine by decide))
local macro_rules | `(tactic| walk_at "ix") => `(tactic| first | exact at0 | exact at1 | exact at2 | exact at3 | assumption | exact rfl | walk_at "ix2")
local macro_rules | `(tactic| walk_at "ix2") => `(tactic| fail)
local macro_rules | `(tactic| walk_at "num") => `(tactic| first | assumption | omega | decide | walk_at "num2")
local macro_rules | `(tactic| walk_at "num2") => `(tactic| fail)
local macro_rules | `(tactic| walk_at "im") => `(tactic| first | assumption | exact R.non (S := fun _ => False) | exact R.bl (S := fun _ => False) _ | exact R.int (S := fun _ => False) _ | exact R.str (S := fun _ => False) _ | (refine R.im (by assumption) ?_; walk_at "im"))
local macro_rules | `(tactic| walk_at "r") => `(tactic| first | assumption | exact R.non (S := fun _ => False) | exact R.bl (S := fun _ => False) _ | exact R.int (S := fun _ => False) _ | exact R.str (S := fun _ => False) _ | (refine R.same (by assumption) ?_; walk_at "r") | exact R.any (by walk_at "im"))
local macro_rules | `(tactic| walk_at "chg") => `(tactic| first
  | exact Chg.refl
  | assumption
  | (refine Chg.same ?_ (by assumption); walk_at "chg")
  | (refine Chg.both ?_ (by assumption); walk_at "chg")
  | (refine Chg.pre (by assumption) ?_; walk_at "chg"))
local macro_rules | `(tactic| walk_at "w1") => `(tactic| first
  | with_reducible apply w_seq
  | with_reducible apply w_asg
  | ((with_reducible apply w_var); (focus (exact rfl)))
  | with_reducible apply w_c
  | with_reducible apply w_op
  | with_reducible apply w_cons
  | with_reducible apply w_nil
  | with_reducible apply w_gName
  | with_reducible apply w_if
  | with_reducible apply w_test
  | with_reducible apply w_B
  | with_reducible apply w_isbl
  | with_reducible apply w_retN
  | with_reducible apply w_next
  | with_reducible apply w_drop
  | with_reducible apply w_cb
  | with_reducible apply w_call
  | with_reducible apply w_callN
  | with_reducible apply w_bm
  | with_reducible apply w_bm0
  | ((with_reducible apply w_tyL); (focus (walk_at "hp"; done)))
  | with_reducible apply w_dput
  | with_reducible apply w_m1
  | with_reducible apply w_isstr
  | with_reducible apply w_and
  | with_reducible apply w_or
  | with_reducible apply w_not
  | with_reducible apply w_andV
  | with_reducible apply w_orV
  | with_reducible apply w_notV
  | with_reducible apply w_ifE
  | with_reducible apply w_chain
  | with_reducible apply w_un
  | with_reducible apply w_neg
  | with_reducible apply w_add
  | with_reducible apply w_sub
  | ((with_reducible apply w_mod); (focus (walk_at "num"; done)))
  | ((with_reducible apply w_mul); (focus (walk_at "num"; done)))
  | ((with_reducible apply w_fdiv); (focus (walk_at "num"; done)))
  | ((with_reducible apply w_pow); (focus (walk_at "num"; done)))
  | with_reducible apply w_lt
  | with_reducible apply w_le
  | with_reducible apply w_gt
  | with_reducible apply w_ge
  | with_reducible apply w_ltS
  | with_reducible apply w_geS
  | with_reducible apply w_inC
  | with_reducible apply w_notInC
  | with_reducible apply w_isN
  | with_reducible apply w_notN
  | with_reducible apply w_isB
  | with_reducible apply w_notB
  | ((with_reducible apply w_addS); (focus (walk_at "sz"; done)))
  | ((with_reducible apply w_ixL); (focus (walk_at "sq"; done)); (focus (walk_at "ix"; done)))
  | ((with_reducible apply w_ixT); (focus (walk_at "hp"; done)); (focus (walk_at "ix"; done)))
  | ((with_reducible apply w_ixS); (focus (walk_at "sz"; done)); (focus (walk_at "ix"; done)))
  | with_reducible apply w_gSub
  | ((with_reducible apply w_gTup); (focus (walk_at "hp"; done)); (focus (exact rfl)))
  | with_reducible apply w_gCons
  | with_reducible apply w_gNil
  | ((with_reducible apply w_aug); (focus (exact rfl)))
  | with_reducible apply w_ipI
  | ((with_reducible apply w_eq); (focus (exact rfl)))
  | ((with_reducible apply w_ne); (focus (exact rfl)))
  | with_reducible apply w_max
  | with_reducible apply w_min
  | with_reducible apply w_abs
  | with_reducible apply w_intB
  | with_reducible apply w_intI
  | with_reducible apply w_tup1
  | with_reducible apply w_lst1
  | with_reducible apply w_sl
  | with_reducible apply w_part
  | with_reducible apply w_noPart
  | with_reducible apply w_isint
  | ((with_reducible apply w_slS); (focus (walk_at "sz"; done)))
  | with_reducible apply w_iteT
  | with_reducible apply w_iteF
  | with_reducible apply w_iteN
  | ((with_reducible apply w_iteYes); (focus (exact rfl)))
  | ((with_reducible apply w_iteNo); (focus (exact rfl)))
  | ((with_reducible apply w_lenL); (focus (walk_at "sq"; done)))
  | ((with_reducible apply w_lenT); (focus (walk_at "hp"; done)))
  | ((with_reducible apply w_lenS); (focus (walk_at "sz"; done)))
  | with_reducible apply w_lc
  | with_reducible apply w_for
  | with_reducible apply w_yes
  | ((with_reducible apply w_wipe); (focus (exact rfl)))
  | with_reducible apply w_iList
  | with_reducible apply w_iTup
  | with_reducible apply w_iStr
  | with_reducible apply w_iRng1
  | with_reducible apply w_iRng2
  | with_reducible apply w_iZip
  | with_reducible apply w_iEnum
  | ((with_reducible apply d_iList); (focus (walk_at "sq"; done)))
  | ((with_reducible apply d_iTup); (focus (walk_at "hp"; done)))
  | with_reducible apply d_iStr
  | ((with_reducible apply d_iRng1); (focus (walk_at "num"; done)); (focus (walk_at "num"; done)))
  | ((with_reducible apply d_iRng2); (focus (walk_at "num"; done)); (focus (walk_at "num"; done)); (focus (walk_at "num"; done)); (focus (walk_at "num"; done)))
  | ((with_reducible apply d_iZip); (focus (walk_at "sq"; done)); (focus (walk_at "sq"; done)))
  | ((with_reducible apply d_iEnum); (focus (walk_at "sq"; done)))
  | walk_at "w2")
local macro_rules | `(tactic| walk_at "w2") => `(tactic| fail)
local macro_rules | `(tactic| walk_at "wn") => `(tactic| repeat walk_at "w1")
local macro_rules | `(tactic| walk_at "w") => `(tactic| repeat (first | walk_at "w1" | with_reducible apply w_ret))
local macro_rules | `(tactic| walk_at "w2") => `(tactic| first
  | ((with_reducible apply w_isInt); (focus (walk_at "r"; done)))
  | ((with_reducible apply w_isBool); (focus (walk_at "r"; done)))
  | ((with_reducible apply w_isStr); (focus (walk_at "r"; done)))
  | ((with_reducible apply w_isTup); (focus (walk_at "r"; done)))
  | ((with_reducible apply w_isLst); (focus (walk_at "r"; done)))
  | with_reducible apply w_fld
  | with_reducible apply w_sfld
  | with_reducible apply w_faug
  | with_reducible apply w_rAdd
  | with_reducible apply w_rSub
  | with_reducible apply w_make
  | with_reducible apply w_orT
  | with_reducible apply w_dgetd
  | with_reducible apply w_dgetk
  | with_reducible apply w_dsetd
  | ((with_reducible apply k_dgetd); (focus (walk_at "hp"; done)))
  | ((with_reducible apply k_dsetd); (focus (walk_at "hp"; done)))
  | walk_at "w3")
local macro_rules | `(tactic| walk_at "w3") => `(tactic| fail)
local macro_rules | `(tactic| walk_at "w3") => `(tactic| first
  | with_reducible apply w_mt
  | with_reducible apply w_makeX
  | ((with_reducible apply m_Kind); (focus (walk_at "hp"; done)); (focus (exact rfl)))
  | ((with_reducible apply g_Kind_joining); (focus (assumption; done)); (focus (walk_at "hp"; done)))
  | ((with_reducible apply g_Kind_none); (focus (assumption; done)); (focus (walk_at "hp"; done)))
  | ((with_reducible apply g_Kind_making); (focus (assumption; done)); (focus (walk_at "hp"; done)))
  | ((with_reducible apply g_Kind_word); (focus (assumption; done)); (focus (walk_at "hp"; done))))
def prR (n i : Nat) : List (Nat × Nat) := (List.range' (i + 1) (n + 1 - (i + 1))).map fun l => (i, l)
def prs (n k : Nat) : List (Nat × Nat) := (List.range' 0 k).flatMap (prR n)
theorem prs_succ (n k : Nat) : prs n (k + 1) = prs n k ++ prR n k := by
  unfold prs
  rw [List.range'_1_concat, List.flatMap_append, Nat.zero_add]
  simp
theorem prs_mem {n k : Nat} {p : Nat × Nat} : p ∈ prs n k ↔ p.1 < k ∧ p.1 < p.2 ∧ p.2 ≤ n := by
  obtain ⟨i, l⟩ := p
  unfold prs prR
  rw [List.mem_flatMap]
  constructor
  · rintro ⟨i', h1, h2⟩
    obtain ⟨l', h3, e⟩ := List.mem_map.mp h2
    cases e
    have := List.mem_range'_1.mp h1
    have := List.mem_range'_1.mp h3
    exact ⟨by omega, by show i < l; omega, by show l ≤ n; omega⟩
  · rintro ⟨h1, h2, h3⟩
    have h1 : i < k := h1
    have h2 : i < l := h2
    have h3 : l ≤ n := h3
    exact ⟨i, List.mem_range'_1.mpr (by omega), List.mem_map.mpr ⟨l, List.mem_range'_1.mpr (by omega), rfl⟩⟩
theorem prs_len {n : Nat} (hn : n ≤ 40) : ∀ k, (prs n k).length ≤ k * 50
  | 0 => Nat.le_refl _
  | k + 1 => by
    have := prs_len hn k
    rw [prs_succ, List.length_append]
    unfold prR
    rw [List.length_map, List.length_range']
    omega
theorem find_flat {α β γ : Type} (f : α → List β) (g : β → Option γ) : ∀ xs : List α, (xs.flatMap f).findSome? g = xs.findSome? fun x => (f x).findSome? g
  | [] => rfl
  | x :: r => by
    rw [List.flatMap_cons, List.findSome?_append, find_flat f g r, List.findSome?_cons]
    cases (f x).findSome? g <;> rfl
def ebF (eb : Nat → Nat → Bool) (p : Nat × Nat) : Option PyData := if eb p.1 p.2 = true then some (t2 p.1 p.2) else none
theorem prD_prs (eb : Nat → Nat → Bool) (n : Nat) : prD eb n = (prs n n).findSome? (ebF eb) := by
  unfold prs
  rw [find_flat]
  unfold prD firstR
  rw [Nat.sub_zero]
  refine congrArg (fun g => (List.range' 0 n).findSome? g) (funext fun i => ?_)
  unfold prF firstR prR
  rw [List.findSome?_map]
  rfl
theorem prD_at {eb : Nat → Nat → Bool} {n m : Nat} {p : Nat × Nat} (hp : (prs n n)[m]? = some p) (h : ∀ k q, k < m → (prs n n)[k]? = some q → eb q.1 q.2 = false) (hb : eb p.1 p.2 = true) : prD eb n = some (t2 p.1 p.2) := by
  rw [prD_prs]
  have hm : m < (prs n n).length := (List.getElem?_eq_some_iff.mp hp).1
  have e : (prs n n) = (prs n n).take m ++ (p :: (prs n n).drop (m + 1)) := by
    have e1 : (prs n n)[m] = p := (List.getElem?_eq_some_iff.mp hp).2
    rw [← e1, ← List.drop_eq_getElem_cons hm, List.take_append_drop]
  rw [e, List.findSome?_append]
  have e4 : ((prs n n).take m).findSome? (ebF eb) = none := by
    rw [List.findSome?_eq_none_iff]
    intro q hq
    obtain ⟨k, hk⟩ := List.mem_iff_getElem?.mp hq
    rw [List.getElem?_take] at hk
    split at hk
    · rename_i hkm
      unfold ebF
      rw [h k q hkm hk]
      rfl
    · cases hk
  rw [e4, Option.none_or, List.findSome?_cons]
  unfold ebF
  rw [hb]
  rfl
theorem prD_no {eb : Nat → Nat → Bool} {n : Nat} (h : ∀ k q, k < (prs n n).length → (prs n n)[k]? = some q → eb q.1 q.2 = false) : prD eb n = none := by
  rw [prD_prs, List.findSome?_eq_none_iff]
  intro q hq
  obtain ⟨k, hk⟩ := List.mem_iff_getElem?.mp hq
  unfold ebF
  rw [h k q (List.getElem?_eq_some_iff.mp hk).1 hk]
  rfl
theorem foldD_snoc {jf : PyData → PyData → Option PyData} {mf : Int → Option PyData} {n : Int} {m y z : PyData} : ∀ {r : List Int} {x : PyData}, foldD jf mf x r = some y → mf n = some m → jf y m = some z → foldD jf mf x (r ++ [n]) = some z
  | [], x, h, hm, hj => by
    have h : some x = some y := h
    injection h with h
    subst h
    show (mf n).bind (fun m => (jf x m).bind fun y => foldD jf mf y []) = some z
    rw [hm]
    show (jf x m).bind (fun y => foldD jf mf y []) = some z
    rw [hj]
    rfl
  | k :: r, x, h, hm, hj => by
    obtain ⟨m1, y1, e1, e2, e3⟩ := foldD_cons h
    show (mf k).bind (fun m => (jf x m).bind fun y => foldD jf mf y (r ++ [n])) = some z
    rw [e1]
    show (jf x m1).bind (fun y => foldD jf mf y (r ++ [n])) = some z
    rw [e2]
    exact foldD_snoc e3 hm hj
theorem strD_of {jf : PyData → PyData → Option PyData} {mf : Int → Option PyData} {ns : List Int} {fs : Nat → Nat → PyData} (so : StrOk jf mf ns fs) {i : Nat} : ∀ d, i + 1 + d ≤ ns.length → strD jf mf ((ns.take (i + 1 + d)).drop i) = some (fs i (i + 1 + d))
  | 0, h => by
    have hi : i < ns.length := by omega
    have e : (ns.take (i + 1 + 0)).drop i = [ns[i]] := by
      have hl : (ns.take i).length = i := by rw [List.length_take]; omega
      rw [Nat.add_zero, List.take_succ_eq_append_getElem hi, List.drop_append_of_le_length (by rw [hl]; exact Nat.le_refl i), List.drop_of_length_le (Nat.le_of_eq hl)]
      rfl
    rw [e]
    show (mf ns[i]).bind (fun m => foldD jf mf m []) = _
    rw [so.one i hi]
    rfl
  | d + 1, h => by
    have hd : i + 1 + d < ns.length := by omega
    have ih := strD_of (i := i) so d (by omega)
    have e : (ns.take (i + 1 + (d + 1))).drop i = (ns.take (i + 1 + d)).drop i ++ [ns[i + 1 + d]] := by
      have hl : i ≤ (ns.take (i + 1 + d)).length := by rw [List.length_take]; omega
      rw [show i + 1 + (d + 1) = (i + 1 + d) + 1 by omega, List.take_succ_eq_append_getElem hd, List.drop_append_of_le_length hl]
    rw [e]
    obtain ⟨m, e1, e2⟩ := so.more i (i + 1 + d) hd (by omega : i < i + 1 + d)
    generalize hx : (ns.take (i + 1 + d)).drop i = xs at *
    cases xs with
    | nil => cases ih
    | cons k r =>
      have ih : ((mf k).bind fun m => foldD jf mf m r) = some (fs i (i + 1 + d)) := ih
      show (mf k).bind (fun m => foldD jf mf m (r ++ [ns[i + 1 + d]])) = _
      cases ek : mf k with
      | none => rw [ek] at ih; cases ih
      | some m0 =>
        rw [ek] at ih
        exact foldD_snoc ih e1 e2
theorem cut_midK (xs : List V) (i j : Nat) (h : i ≤ j) : cutV xs (some (i : Nat)) (some (j : Nat)) = (xs.take j).drop i := by
  unfold cutV
  rw [HT.sIx_nat, HT.sIx_nat, List.drop_take]
  rcases Nat.lt_or_ge xs.length i with h1 | h1
  · rw [Nat.min_eq_right (by omega), Nat.min_eq_right (by omega), List.drop_of_length_le (Nat.le_refl _), List.drop_of_length_le (by omega)]
    simp
  · rw [Nat.min_eq_left h1]
    rcases Nat.lt_or_ge xs.length j with h2 | h2
    · rw [Nat.min_eq_right (by omega), List.take_of_length_le (by rw [List.length_drop]; omega), List.take_of_length_le (by rw [List.length_drop]; omega)]
    · rw [Nat.min_eq_left h2]
theorem kw_extend {l b : Addr} {xs zs : List V} {H : Hp} {Q : VK} (h1 : H l = some (.lst xs)) (h2 : H b = some (.lst zs)) (hz : xs.length + zs.length ≤ 100000) (q : ∀ H', Chg [l] H H' → H' l = some (.lst (xs ++ zs)) → Q .non H') : rExtend (.ref l) [.ref b] H Q :=
  ⟨l, b, xs, zs, rfl, rfl, h1, h2, Nat.le_trans hz (by decide), q _ (.mut h1 fun _ z => nomatch z) upd_same⟩
end Fg
namespace Fg
open PySem PySem.Spec PyProof.Rows L2 LamX LmX
local macro_rules | `(tactic| walk_at "hp") => `(tactic| first
  | assumption
  | exact upd_same
  | (refine Chg.at (by assumption) ?_; walk_at "hp")
  | (refine Chg.at1 (by assumption) ?_ (by walk_at "ne"); walk_at "hp"))
local macro_rules | `(tactic| walk_at "ne") => `(tactic| first | assumption | (apply Ne.symm; assumption))
local macro_rules | `(tactic| walk_at "sq") => `(tactic| first | assumption | exact sqL (by walk_at "hp") | (refine Chg.seq (by assumption) ?_; walk_at "sq"))
local macro_rules | `(tactic| walk_at "sz") => `(tactic| first | assumption | exact Nat.zero_le _ | (simp only [List.length_cons, List.length_nil]; decide) | exact Nat.le_trans (by first | omega | (simp; done) | (simp; omega)) (show 100000 ≤ sizeLine by decide) | exact Nat.lt_of_lt_of_le (by first | omega | (simp; done) | (simp; omega)) (show 100000 ≤ sizeLine by decide))
local macro_rules | `(tactic| walk_at "ix") => `(tactic| first | exact at0 | exact at1 | exact at2 | exact at3 | assumption | exact rfl | walk_at "ix2")
local macro_rules | `(tactic| walk_at "ix2") => `(tactic| fail)
local macro_rules | `(tactic| walk_at "num") => `(tactic| first | assumption | omega | decide | walk_at "num2")
local macro_rules | `(tactic| walk_at "num2") => `(tactic| fail)
local macro_rules | `(tactic| walk_at "im") => `(tactic| first | assumption | exact R.non (S := fun _ => False) | exact R.bl (S := fun _ => False) _ | exact R.int (S := fun _ => False) _ | exact R.str (S := fun _ => False) _ | (refine R.im (by assumption) ?_; walk_at "im"))
local macro_rules | `(tactic| walk_at "r") => `(tactic| first | assumption | exact R.non (S := fun _ => False) | exact R.bl (S := fun _ => False) _ | exact R.int (S := fun _ => False) _ | exact R.str (S := fun _ => False) _ | (refine R.same (by assumption) ?_; walk_at "r") | exact R.any (by walk_at "im"))
local macro_rules | `(tactic| walk_at "chg") => `(tactic| first
  | exact Chg.refl
  | assumption
  | (refine Chg.same ?_ (by assumption); walk_at "chg")
  | (refine Chg.both ?_ (by assumption); walk_at "chg")
  | (refine Chg.pre (by assumption) ?_; walk_at "chg"))
local macro_rules | `(tactic| walk_at "w1") => `(tactic| first
  | with_reducible apply w_seq
  | with_reducible apply w_asg
  | ((with_reducible apply w_var); (focus (exact rfl)))
  | with_reducible apply w_c
  | with_reducible apply w_op
  | with_reducible apply w_cons
  | with_reducible apply w_nil
  | with_reducible apply w_gName
  | with_reducible apply w_if
  | with_reducible apply w_test
  | with_reducible apply w_B
  | with_reducible apply w_isbl
  | with_reducible apply w_retN
  | with_reducible apply w_next
  | with_reducible apply w_drop
  | with_reducible apply w_cb
  | with_reducible apply w_call
  | with_reducible apply w_callN
  | with_reducible apply w_bm
  | with_reducible apply w_bm0
  | ((with_reducible apply w_tyL); (focus (walk_at "hp"; done)))
  | with_reducible apply w_dput
  | with_reducible apply w_m1
  | with_reducible apply w_isstr
  | with_reducible apply w_and
  | with_reducible apply w_or
  | with_reducible apply w_not
  | with_reducible apply w_andV
  | with_reducible apply w_orV
  | with_reducible apply w_notV
  | with_reducible apply w_ifE
  | with_reducible apply w_chain
  | with_reducible apply w_un
  | with_reducible apply w_neg
  | with_reducible apply w_add
  | with_reducible apply w_sub
  | ((with_reducible apply w_mod); (focus (walk_at "num"; done)))
  | ((with_reducible apply w_mul); (focus (walk_at "num"; done)))
  | ((with_reducible apply w_fdiv); (focus (walk_at "num"; done)))
  | ((with_reducible apply w_pow); (focus (walk_at "num"; done)))
  | with_reducible apply w_lt
  | with_reducible apply w_le
  | with_reducible apply w_gt
  | with_reducible apply w_ge
  | with_reducible apply w_ltS
  | with_reducible apply w_geS
  | with_reducible apply w_inC
  | with_reducible apply w_notInC
  | with_reducible apply w_isN
  | with_reducible apply w_notN
  | with_reducible apply w_isB
  | with_reducible apply w_notB
  | ((with_reducible apply w_addS); (focus (walk_at "sz"; done)))
  | ((with_reducible apply w_ixL); (focus (walk_at "sq"; done)); (focus (walk_at "ix"; done)))
  | ((with_reducible apply w_ixT); (focus (walk_at "hp"; done)); (focus (walk_at "ix"; done)))
  | ((with_reducible apply w_ixS); (focus (walk_at "sz"; done)); (focus (walk_at "ix"; done)))
  | with_reducible apply w_gSub
  | ((with_reducible apply w_gTup); (focus (walk_at "hp"; done)); (focus (exact rfl)))
  | with_reducible apply w_gCons
  | with_reducible apply w_gNil
  | ((with_reducible apply w_aug); (focus (exact rfl)))
  | with_reducible apply w_ipI
  | ((with_reducible apply w_eq); (focus (exact rfl)))
  | ((with_reducible apply w_ne); (focus (exact rfl)))
  | with_reducible apply w_max
  | with_reducible apply w_min
  | with_reducible apply w_abs
  | with_reducible apply w_intB
  | with_reducible apply w_intI
  | with_reducible apply w_tup1
  | with_reducible apply w_lst1
  | with_reducible apply w_sl
  | with_reducible apply w_part
  | with_reducible apply w_noPart
  | with_reducible apply w_isint
  | ((with_reducible apply w_slS); (focus (walk_at "sz"; done)))
  | with_reducible apply w_iteT
  | with_reducible apply w_iteF
  | with_reducible apply w_iteN
  | ((with_reducible apply w_iteYes); (focus (exact rfl)))
  | ((with_reducible apply w_iteNo); (focus (exact rfl)))
  | ((with_reducible apply w_lenL); (focus (walk_at "sq"; done)))
  | ((with_reducible apply w_lenT); (focus (walk_at "hp"; done)))
  | ((with_reducible apply w_lenS); (focus (walk_at "sz"; done)))
  | with_reducible apply w_lc
  | with_reducible apply w_for
  | with_reducible apply w_yes
  | ((with_reducible apply w_wipe); (focus (exact rfl)))
  | with_reducible apply w_iList
  | with_reducible apply w_iTup
  | with_reducible apply w_iStr
  | with_reducible apply w_iRng1
  | with_reducible apply w_iRng2
  | with_reducible apply w_iZip
  | with_reducible apply w_iEnum
  | ((with_reducible apply d_iList); (focus (walk_at "sq"; done)))
  | ((with_reducible apply d_iTup); (focus (walk_at "hp"; done)))
  | with_reducible apply d_iStr
  | ((with_reducible apply d_iRng1); (focus (walk_at "num"; done)); (focus (walk_at "num"; done)))
  | ((with_reducible apply d_iRng2); (focus (walk_at "num"; done)); (focus (walk_at "num"; done)); (focus (walk_at "num"; done)); (focus (walk_at "num"; done)))
  | ((with_reducible apply d_iZip); (focus (walk_at "sq"; done)); (focus (walk_at "sq"; done)))
  | ((with_reducible apply d_iEnum); (focus (walk_at "sq"; done)))
  | walk_at "w2")
local macro_rules | `(tactic| walk_at "w2") => `(tactic| fail)
local macro_rules | `(tactic| walk_at "wn") => `(tactic| repeat walk_at "w1")
local macro_rules | `(tactic| walk_at "w") => `(tactic| repeat (first | walk_at "w1" | with_reducible apply w_ret))
local macro_rules | `(tactic| walk_at "w2") => `(tactic| first
  | ((with_reducible apply w_isInt); (focus (walk_at "r"; done)))
  | ((with_reducible apply w_isBool); (focus (walk_at "r"; done)))
  | ((with_reducible apply w_isStr); (focus (walk_at "r"; done)))
  | ((with_reducible apply w_isTup); (focus (walk_at "r"; done)))
  | ((with_reducible apply w_isLst); (focus (walk_at "r"; done)))
  | with_reducible apply w_fld
  | with_reducible apply w_sfld
  | with_reducible apply w_faug
  | with_reducible apply w_rAdd
  | with_reducible apply w_rSub
  | with_reducible apply w_make
  | with_reducible apply w_orT
  | with_reducible apply w_dgetd
  | with_reducible apply w_dgetk
  | with_reducible apply w_dsetd
  | ((with_reducible apply k_dgetd); (focus (walk_at "hp"; done)))
  | ((with_reducible apply k_dsetd); (focus (walk_at "hp"; done)))
  | walk_at "w3")
local macro_rules | `(tactic| walk_at "w3") => `(tactic| fail)
local macro_rules | `(tactic| walk_at "w3") => `(tactic| first
  | with_reducible apply w_mt
  | with_reducible apply w_makeX
  | ((with_reducible apply m_Kind); (focus (walk_at "hp"; done)); (focus (exact rfl)))
  | ((with_reducible apply g_Kind_joining); (focus (assumption; done)); (focus (walk_at "hp"; done)))
  | ((with_reducible apply g_Kind_none); (focus (assumption; done)); (focus (walk_at "hp"; done)))
  | ((with_reducible apply g_Kind_making); (focus (assumption; done)); (focus (walk_at "hp"; done)))
  | ((with_reducible apply g_Kind_word); (focus (assumption; done)); (focus (walk_at "hp"; done))))
theorem ra_ixK {S : Addr → Prop} {H : Hp} : ∀ {xs : List V} {ds : List PyData}, xs.length = ds.length → (∀ (i : Nat) x d, xs[i]? = some x → ds[i]? = some d → R S H x d) → RA S H xs ds
  | [], [], _, _ => .nil
  | [], _ :: _, h, _ => by simp at h
  | _ :: _, [], h, _ => by simp at h
  | x :: xs, d :: ds, h, hi => .cons (hi 0 x d rfl rfl) (ra_ixK (by simpa using h) fun i y e h1 h2 => hi (i + 1) y e h1 h2)
theorem KtAt.there {K : PySem.W.Frag} {L : Nat → Addr → LF} {S : Addr → Prop} {H : Hp} {a : Addr} {jf : PyData → PyData → Option PyData} {nd : PyData} {mf : Int → Option PyData} (h : KtAt K L S H a jf nd mf) : KtAt K L (fun a => S a ∧ H a ≠ none) H a jf nd mf := by
  obtain ⟨g, v1, m, h1, h2, h3, h4⟩ := h
  exact ⟨g, v1, m, h1, h2.there, r_thereK h3, h4⟩
theorem KtAt.mono {K : PySem.W.Frag} {L : Nat → Addr → LF} {S S' : Addr → Prop} {H : Hp} {a : Addr} {jf : PyData → PyData → Option PyData} {nd : PyData} {mf : Int → Option PyData} (hs : ∀ a, S a → S' a) (h : KtAt K L S H a jf nd mf) : KtAt K L S' H a jf nd mf := by
  obtain ⟨g, v1, m, h1, h2, h3, h4⟩ := h
  exact ⟨g, v1, m, h1, h2.mono hs, h3.mono hs, h4⟩
def sp__law_first_err (K : PySem.W.Frag) (L : Nat → Addr → LF) : Sp := fun vs H Q _ => ∃ (T l : Addr) (ns : List Int) (S : Addr → Prop) (jf : PyData → PyData → Option PyData) (nd : PyData) (mf : Int → Option PyData) (fs : Nat → Nat → PyData) (b0 : Bool) (eb : Nat → Nat → Bool) (tb : Nat → Nat → Nat → Bool), vs = [.ref T, .ref l] ∧ H l = some (.lst (ns.map V.int)) ∧ ns.length ≤ 40 ∧ KtAt K L S H T jf nd mf ∧ (∀ a, H a = none → S a) ∧ GrpOk jf nd mf ns fs b0 eb tb ∧
  ∀ v H', Chg [] H H' → Im H' v (grpD b0 eb tb ns.length) → Q v H'
def t__law_first_err (K : PySem.W.Frag) (L : Nat → Addr → LmX.LF) : TS :=
    tSeq (tAsg (tVar 0) (gTup K 3 (gCons (gName 2) (gCons (gName 3) (gCons (gName 4) (gNil))))))
    (tSeq (tIfS (tB (tCall (sp__law_err K L) [] E0 (tCons (tVar 2) (tCons (tVar 3) (tCons (tVar 3) (tNil)))))) (tRet (tTup (tNil))) (tNext))
    (tSeq (tAsg (tLst (tNil)) (gName 5))
    (tSeq (tFor (iRng1 (tCons (tCB (cLenQ K) (tCons (tVar 1) (tNil))) (tNil))) (gName 6) (tDrop (tBM K "list" rExtend (tVar 5) (tCons (tLc (iRng2 (tCons (tOp oAdd (tVar 6) (tC (.int 1))) (tCons (tOp oAdd (tCB (cLenQ K) (tCons (tVar 1) (tNil))) (tC (.int 1))) (tNil)))) (gName 10) (tYes) (tTup (tCons (tVar 6) (tCons (tVar 10) (tNil)))) [10]) (tNil)))))
    (tSeq (tAsg (tDNewT) (gName 7))
    (tSeq (tFor (iList K (tVar 5)) (gName 8) (sDPut (tVar 7) (tVar 8) (tCall (sp__law_stretch K L) [] E0 (tCons (tVar 0) (tCons (tSl (rSlL K) (tVar 1) (tPart (tOp (rIxT K) (tVar 8) (tC (.int 0)))) (tPart (tOp (rIxT K) (tVar 8) (tC (.int 1))))) (tNil))))))
    (tSeq (tFor (iList K (tVar 5)) (gName 8) (tIfS (tB (tCall (sp__law_err K L) [] E0 (tCons (tVar 2) (tCons (tVar 3) (tCons (tDGet (tVar 7) (tVar 8)) (tNil)))))) (tRet (tVar 8)) (tNext)))
    (tSeq (tFor (iRng1 (tCons (tCB (cLenQ K) (tCons (tVar 1) (tNil))) (tNil))) (gName 6) (tFor (iRng2 (tCons (tOp oAdd (tVar 6) (tC (.int 1))) (tCons (tCB (cLenQ K) (tCons (tVar 1) (tNil))) (tNil)))) (gName 9) (tFor (iRng2 (tCons (tOp oAdd (tVar 9) (tC (.int 1))) (tCons (tOp oAdd (tCB (cLenQ K) (tCons (tVar 1) (tNil))) (tC (.int 1))) (tNil)))) (gName 10) (tSeq (tAsg (tCallV (CVw K L) 2 (tCons (tDGet (tVar 7) (tTup (tCons (tVar 6) (tCons (tVar 9) (tNil))))) (tCons (tDGet (tVar 7) (tTup (tCons (tVar 9) (tCons (tVar 10) (tNil))))) (tNil)))) (gName 11))
    (tIfS (tNot (tTest (tOp oEqD (tVar 11) (tDGet (tVar 7) (tTup (tCons (tVar 6) (tCons (tVar 10) (tNil)))))))) (tRet (tTup (tCons (tVar 6) (tCons (tVar 9) (tCons (tVar 10) (tNil)))))) (tNext))))))
    (tRet (tC .non)))))))))
def t__law_first_err_4 (K : PySem.W.Frag) (L : Nat → Addr → LmX.LF) : TS :=
    tSeq (tAsg (tDNewT) (gName 7))
    (tSeq (tFor (iList K (tVar 5)) (gName 8) (sDPut (tVar 7) (tVar 8) (tCall (sp__law_stretch K L) [] E0 (tCons (tVar 0) (tCons (tSl (rSlL K) (tVar 1) (tPart (tOp (rIxT K) (tVar 8) (tC (.int 0)))) (tPart (tOp (rIxT K) (tVar 8) (tC (.int 1))))) (tNil))))))
    (tSeq (tFor (iList K (tVar 5)) (gName 8) (tIfS (tB (tCall (sp__law_err K L) [] E0 (tCons (tVar 2) (tCons (tVar 3) (tCons (tDGet (tVar 7) (tVar 8)) (tNil)))))) (tRet (tVar 8)) (tNext)))
    (tSeq (tFor (iRng1 (tCons (tCB (cLenQ K) (tCons (tVar 1) (tNil))) (tNil))) (gName 6) (tFor (iRng2 (tCons (tOp oAdd (tVar 6) (tC (.int 1))) (tCons (tCB (cLenQ K) (tCons (tVar 1) (tNil))) (tNil)))) (gName 9) (tFor (iRng2 (tCons (tOp oAdd (tVar 9) (tC (.int 1))) (tCons (tOp oAdd (tCB (cLenQ K) (tCons (tVar 1) (tNil))) (tC (.int 1))) (tNil)))) (gName 10) (tSeq (tAsg (tCallV (CVw K L) 2 (tCons (tDGet (tVar 7) (tTup (tCons (tVar 6) (tCons (tVar 9) (tNil))))) (tCons (tDGet (tVar 7) (tTup (tCons (tVar 9) (tCons (tVar 10) (tNil))))) (tNil)))) (gName 11))
    (tIfS (tNot (tTest (tOp oEqD (tVar 11) (tDGet (tVar 7) (tTup (tCons (tVar 6) (tCons (tVar 10) (tNil)))))))) (tRet (tTup (tCons (tVar 6) (tCons (tVar 9) (tCons (tVar 10) (tNil)))))) (tNext))))))
    (tRet (tC .non)))))
def t__law_first_err_6 (K : PySem.W.Frag) (L : Nat → Addr → LmX.LF) : TS :=
    tSeq (tFor (iList K (tVar 5)) (gName 8) (tIfS (tB (tCall (sp__law_err K L) [] E0 (tCons (tVar 2) (tCons (tVar 3) (tCons (tDGet (tVar 7) (tVar 8)) (tNil)))))) (tRet (tVar 8)) (tNext)))
    (tSeq (tFor (iRng1 (tCons (tCB (cLenQ K) (tCons (tVar 1) (tNil))) (tNil))) (gName 6) (tFor (iRng2 (tCons (tOp oAdd (tVar 6) (tC (.int 1))) (tCons (tCB (cLenQ K) (tCons (tVar 1) (tNil))) (tNil)))) (gName 9) (tFor (iRng2 (tCons (tOp oAdd (tVar 9) (tC (.int 1))) (tCons (tOp oAdd (tCB (cLenQ K) (tCons (tVar 1) (tNil))) (tC (.int 1))) (tNil)))) (gName 10) (tSeq (tAsg (tCallV (CVw K L) 2 (tCons (tDGet (tVar 7) (tTup (tCons (tVar 6) (tCons (tVar 9) (tNil))))) (tCons (tDGet (tVar 7) (tTup (tCons (tVar 9) (tCons (tVar 10) (tNil))))) (tNil)))) (gName 11))
    (tIfS (tNot (tTest (tOp oEqD (tVar 11) (tDGet (tVar 7) (tTup (tCons (tVar 6) (tCons (tVar 10) (tNil)))))))) (tRet (tTup (tCons (tVar 6) (tCons (tVar 9) (tCons (tVar 10) (tNil)))))) (tNext))))))
    (tRet (tC .non)))
def t__law_first_err_7 (K : PySem.W.Frag) (L : Nat → Addr → LmX.LF) : TS :=
    tSeq (tFor (iRng1 (tCons (tCB (cLenQ K) (tCons (tVar 1) (tNil))) (tNil))) (gName 6) (tFor (iRng2 (tCons (tOp oAdd (tVar 6) (tC (.int 1))) (tCons (tCB (cLenQ K) (tCons (tVar 1) (tNil))) (tNil)))) (gName 9) (tFor (iRng2 (tCons (tOp oAdd (tVar 9) (tC (.int 1))) (tCons (tOp oAdd (tCB (cLenQ K) (tCons (tVar 1) (tNil))) (tC (.int 1))) (tNil)))) (gName 10) (tSeq (tAsg (tCallV (CVw K L) 2 (tCons (tDGet (tVar 7) (tTup (tCons (tVar 6) (tCons (tVar 9) (tNil))))) (tCons (tDGet (tVar 7) (tTup (tCons (tVar 9) (tCons (tVar 10) (tNil))))) (tNil)))) (gName 11))
    (tIfS (tNot (tTest (tOp oEqD (tVar 11) (tDGet (tVar 7) (tTup (tCons (tVar 6) (tCons (tVar 10) (tNil)))))))) (tRet (tTup (tCons (tVar 6) (tCons (tVar 9) (tCons (tVar 10) (tNil)))))) (tNext))))))
    (tRet (tC .non))
theorem ferr_7 {K : PySem.W.Frag} {L : Nat → Addr → LF} {H : Hp} {Q : VK} {T l P F f : Addr} {v1 m : V} {a6 a8 a9 a10 a11 : Option V} {ns : List Int} {S : Addr → Prop} {jf : PyData → PyData → Option PyData} {nd : PyData} {mf : Int → Option PyData} {fs : Nat → Nat → PyData} {b0 : Bool} {eb : Nat → Nat → Bool} {tb : Nat → Nat → Nat → Bool} {kvs : List (List Key × V)}
    (hl : H l = some (.lst (ns.map V.int))) (hz : ns.length ≤ 40) (hF : H F = some (.dT kvs)) (sa : StrAt S H kvs fs (fun i l => i < l ∧ l ≤ ns.length)) (hj : JVS K L S H (.ref f) jf) (fr : ∀ a, H a = none → S a) (go : GrpOk jf nd mf ns fs b0 eb tb)
    (q : ∀ v H', Chg [] H H' → Im H' v ((trD tb ns.length).getD .none) → Q v H') : t__law_first_err_7 K L (fin Q) [some (.ref T), some (.ref l), some (.ref f), some v1, some m, some (.ref P), a6, some (.ref F), a8, a9, a10, a11] H := by
  unfold t__law_first_err_7
  obtain ⟨f', ef, hf⟩ := hj.cvs
  cases ef
  walk_at "w"
  try refine d_iRng1 (j := ((ns.map V.int).length : Nat)) (by rw [List.length_map]; omega) (by rw [List.length_map]; omega) ?_
  rw [Int.toNat_natCast, List.length_map]
  refine for_it (walk_range (lo := 0) (n := ns.length)) (fun i σ Hi => Chg [] H Hi ∧ (∀ k, k < i → trF tb ns.length k = none) ∧ ∃ (b6 b9 b10 b11 : Option V), σ = [some (.ref T), some (.ref l), some (.ref f), some v1, some m, some (.ref P), b6, some (.ref F), a8, b9, b10, b11])
    ⟨.refl, (fun k h => absurd h (by omega)), _, _, _, _, rfl⟩ (fun _ _ _ _ _ => trivial) (fun i v σ Hi0 Hi hi z y => ?_) (fun σ Hi z => ?_)
  · obtain ⟨ci, hk, b6, b9, b10, b11, rfl⟩ := z
    obtain ⟨rfl, rfl⟩ := y
    simp only [Int.zero_add]
    have hli := ci.at hl
    walk_at "w"
    try refine d_iRng2 (i := (i : Int) + 1) (j := ((ns.map V.int).length : Nat)) (by omega) (by omega) (by rw [List.length_map]; omega) (by rw [List.length_map]; omega) ?_
    rw [List.length_map, show (((ns.length : Nat) : Int) - ((i : Int) + 1)).toNat = ns.length - (i + 1) by omega]
    refine for_it (walk_range (lo := (i : Int) + 1) (n := ns.length - (i + 1))) (fun j σ Hj => Chg [] H Hj ∧ (∀ k, i + 1 ≤ k → k < i + 1 + j → trG tb ns.length i k = none) ∧ ∃ (b9 b10 b11 : Option V), σ = [some (.ref T), some (.ref l), some (.ref f), some v1, some m, some (.ref P), some (.int (i : Nat)), some (.ref F), a8, b9, b10, b11])
      ⟨ci, (fun k h1 h2 => absurd h2 (by omega)), _, _, _, rfl⟩ (fun _ _ _ _ _ => trivial) (fun j v σ Hj0 Hj hj2 z y => ?_) (fun σ Hj z => ?_)
    · obtain ⟨cj, hk2, b9, b10, b11, rfl⟩ := z
      obtain ⟨rfl, rfl⟩ := y
      have ej : ((i : Int) + 1 + ((j : Nat) : Int)) = ((i + 1 + j : Nat) : Int) := by omega
      simp only [ej]
      have hlj := cj.at hl
      generalize hq : i + 1 + j = jq at *
      walk_at "w"
      try refine d_iRng2 (i := (jq : Int) + 1) (j := ((ns.map V.int).length : Nat) + 1) (by omega) (by omega) (by rw [List.length_map]; omega) (by rw [List.length_map]; omega) ?_
      rw [List.length_map, show (((ns.length : Nat) : Int) + 1 - ((jq : Int) + 1)).toNat = ns.length + 1 - (jq + 1) by omega]
      refine for_it (walk_range (lo := (jq : Int) + 1) (n := ns.length + 1 - (jq + 1))) (fun k σ Hm => Chg [] H Hm ∧ (∀ k', jq + 1 ≤ k' → k' < jq + 1 + k → (if tb i jq k' = true then some (t3 i jq k') else none) = none) ∧ ∃ (b10 b11 : Option V), σ = [some (.ref T), some (.ref l), some (.ref f), some v1, some m, some (.ref P), some (.int (i : Nat)), some (.ref F), a8, some (.int (jq : Nat)), b10, b11])
        ⟨cj, (fun k h1 h2 => absurd h2 (by omega)), _, _, rfl⟩ (fun _ _ _ _ _ => trivial) (fun mm v σ Hm0 Hm hm2 z y => ?_) (fun σ Hm z => ?_)
      · obtain ⟨cm, hk3, b10, b11, rfl⟩ := z
        obtain ⟨rfl, rfl⟩ := y
        have em : ((jq : Int) + 1 + ((mm : Nat) : Int)) = ((jq + 1 + mm : Nat) : Int) := by omega
        simp only [em]
        obtain ⟨u1, eu1, ru1⟩ := sa i jq ⟨by omega, by omega⟩
        obtain ⟨u2, eu2, ru2⟩ := sa jq (jq + 1 + mm) ⟨by omega, by omega⟩
        obtain ⟨u3, eu3, ru3⟩ := sa i (jq + 1 + mm) ⟨by omega, by omega⟩
        obtain ⟨d, c, ejf, eeq, etb⟩ := go.ts i jq (jq + 1 + mm) (by omega) (by omega) (by omega)
        obtain ⟨n1, n2, n3, rfl⟩ := eqD_at eeq
        have hpm := cm.at hF
        have frm := fresh_chg cm fr
        generalize hq2 : jq + 1 + mm = lq at *
        walk_at "w"
        refine ⟨f, rfl, ?_⟩
        walk_at "w"
        refine k_tup (by walk_at "sz") fun T3 H3 nT3 c3 hT3 => ?_
        refine kd_dgetT (k := k2 i jq) (c3.at hpm) (by rw [hT3]; rfl) eu1 ?_
        walk_at "w"
        have hp3 := c3.at hpm
        refine k_tup (by walk_at "sz") fun T4 H4 nT4 c4 hT4 => ?_
        refine kd_dgetT (k := k2 jq lq) (c4.at hp3) (by rw [hT4]; rfl) eu2 ?_
        have c34 := c3.same c4
        walk_at "w"
        refine hf H4 _ _ (cm.same c34) ⟨u1, u2, fs i jq, fs jq lq, d, S, rfl, ru1.same (cm.same c34), ru2.same (cm.same c34), fresh_chg c34 frm, ejf, fun u H5 c5 ru => ?_⟩
        walk_at "w"
        have c35 := c34.same c5
        refine k_tup (by walk_at "sz") fun T6 H6 nT6 c6 hT6 => ?_
        refine kd_dgetT (k := k2 i lq) (c6.at (c35.at hpm)) (by rw [hT6]; rfl) eu3 ?_
        have c36 := c35.same c6
        walk_at "w"
        refine w_eqD (ru.same c6) (ru3.same (cm.same c36)) n1 n2 n3 ?_
        cases hb : PyData.eqv d (fs i lq) with
        | false =>
          rw [hb] at etb
          walk_at "w"
          refine k_tup (by walk_at "sz") fun T7 H7 nT7 c7 hT7 => ?_
          walk_at "w"
          refine q _ _ ((cm.same c36).same c7) ?_
          have e0 : trG tb ns.length i jq = some (t3 i jq lq) := firstR_some (m := lq) (by omega) (by omega) (fun k h1 h2 => hk3 k h1 (by omega)) (by rw [etb]; rfl)
          have e1 : trF tb ns.length i = some (t3 i jq lq) := firstR_some (m := jq) (by omega) (by omega) (fun k h1 h2 => hk2 k h1 (by omega)) e0
          have e2 : trD tb ns.length = some (t3 i jq lq) := firstR_some (m := i) (by omega) hi (fun k _ h2 => hk k h2) e1
          rw [e2]
          exact .tup hT7 (.cons (.int _) (.cons (.int _) (.cons (.int _) .nil)))
        | true =>
          rw [hb] at etb
          walk_at "w"
          refine ⟨cm.same c36, fun k h1 h2 => ?_, _, _, rfl⟩
          by_cases hkl : k = lq
          · rw [hkl, etb]; rfl
          · exact hk3 k h1 (by omega)
      · obtain ⟨cm, hk3, b10, b11, rfl⟩ := z
        refine ⟨cm, fun k h1 h2 => ?_, _, _, _, rfl⟩
        by_cases hki : k = jq
        · subst hki
          exact firstR_none fun l h1 h2 => hk3 l h1 (by omega)
        · exact hk2 k h1 (by omega)
    · obtain ⟨cj, hk2, b9, b10, b11, rfl⟩ := z
      refine ⟨cj, fun k h => ?_, _, _, _, _, rfl⟩
      by_cases hki : k = i
      · subst hki
        exact firstR_none fun l h1 h2 => hk2 l h1 (by omega)
      · exact hk k (by omega)
  · obtain ⟨ci, hk, b6, b9, b10, b11, rfl⟩ := z
    walk_at "w"
    refine q _ _ ci ?_
    rw [show trD tb ns.length = none from firstR_none fun k _ h => hk k h]
    exact .non
theorem ferr_6 {K : PySem.W.Frag} {L : Nat → Addr → LF} {H : Hp} {Q : VK} {T l P F f : Addr} {v1 m : V} {a6 a8 a9 a10 a11 : Option V} {ns : List Int} {S : Addr → Prop} {jf : PyData → PyData → Option PyData} {nd : PyData} {mf : Int → Option PyData} {fs : Nat → Nat → PyData} {eb : Nat → Nat → Bool} {tb : Nat → Nat → Nat → Bool} {kvs : List (List Key × V)} {xs : List V}
    (hl : H l = some (.lst (ns.map V.int))) (hz : ns.length ≤ 40) (hP : H P = some (.lst xs)) (im : ImA H xs ((prs ns.length ns.length).map fun p => t2 p.1 p.2)) (hF : H F = some (.dT kvs)) (sa : StrAt S H kvs fs (fun i l => i < l ∧ l ≤ ns.length)) (hj : JVS K L S H (.ref f) jf) (rn : R S H v1 nd) (fr : ∀ a, H a = none → S a) (go : GrpOk jf nd mf ns fs false eb tb)
    (q : ∀ v H', Chg [] H H' → Im H' v (grpD false eb tb ns.length) → Q v H') : t__law_first_err_6 K L (fin Q) [some (.ref T), some (.ref l), some (.ref f), some v1, some m, some (.ref P), a6, some (.ref F), a8, a9, a10, a11] H := by
  have gd : grpD false eb tb ns.length = match prD eb ns.length with
      | some d => d
      | none => (trD tb ns.length).getD .none := rfl
  show tSeq _ (t__law_first_err_7 K L) _ _ _
  have lx : xs.length = (prs ns.length ns.length).length := by rw [im.length, List.length_map]
  walk_at "wn"
  refine for_it (walk_list (K := K) (a := P) (xs := xs)) (fun i σ Hi => Chg [] H Hi ∧ (∀ k p, k < i → (prs ns.length ns.length)[k]? = some p → eb p.1 p.2 = false) ∧ ∃ b8 : Option V, σ = [some (.ref T), some (.ref l), some (.ref f), some v1, some m, some (.ref P), a6, some (.ref F), b8, a9, a10, a11])
    ⟨.refl, (fun k p h => absurd h (by omega)), _, rfl⟩ (fun i σ Hi _ z => sqL (z.1.at hP)) (fun i x σ Hi0 Hi hi z y => ?_) (fun σ Hi z => ?_)
  · obtain ⟨rfl, ex⟩ := y
    obtain ⟨ci, hk, b8, rfl⟩ := z
    obtain ⟨d, ed, rd⟩ := im.get ex
    rw [List.getElem?_map] at ed
    cases ep : (prs ns.length ns.length)[i]? with
    | none => rw [ep] at ed; cases ed
    | some p =>
    rw [ep] at ed
    cases ed
    obtain ⟨m1, m2, m3⟩ := prs_mem.mp (List.mem_of_getElem? ep)
    cases rd with
    | @tup t us _ ht ra =>
    have eus : us = [V.int (p.1 : Nat), V.int (p.2 : Nat)] := ra_ints (ns := [((p.1 : Nat) : Int), ((p.2 : Nat) : Int)]) ra
    subst eus
    obtain ⟨u, eu, ru⟩ := sa p.1 p.2 ⟨m2, m3⟩
    have ee := go.es p.1 p.2 m2 m3
    walk_at "w"
    refine kd_dgetT (k := k2 p.1 p.2) (ci.at hF) (by rw [ci.tup _ _ ht]; rfl) eu ?_
    walk_at "w"
    refine ⟨.ref f, v1, u, S, jf, nd, fs p.1 p.2, eb p.1 p.2, rfl, hj.keep ci .nil, rn.same ci, ru.same ci, fresh_chg ci fr, ee, fun H4 c4 => ?_⟩
    refine ⟨_, rfl, ?_⟩
    cases hb : eb p.1 p.2 with
    | true =>
      walk_at "w"
      refine q _ _ (ci.same c4) ?_
      rw [gd, prD_at ep hk hb]
      exact .tup ((ci.same c4).tup _ _ ht) (.cons (.int _) (.cons (.int _) .nil))
    | false =>
      walk_at "w"
      refine ⟨ci.same c4, fun k p' h1 h2 => ?_, _, rfl⟩
      by_cases hkl : k = i
      · subst hkl
        rw [ep] at h2
        cases h2
        exact hb
      · exact hk k p' (by omega) h2
  · obtain ⟨ci, hk, b8, rfl⟩ := z
    have gd2 : grpD false eb tb ns.length = (trD tb ns.length).getD .none := by
      rw [gd, prD_no fun k p h1 h2 => hk k p (by rw [lx]; exact h1) h2]
    exact ferr_7 (ci.at hl) hz (ci.at hF) (sa.keep ci fun _ _ => by simp) (hj.keep ci .nil) (fresh_chg ci fr) go fun v H' c r => q v H' (ci.same c) (by rw [gd2]; exact r)
end Fg
namespace Fg
open PySem PySem.Spec PyProof.Rows L2 LamX LmX
local macro_rules | `(tactic| walk_at "hp") => `(tactic| first
  | assumption
  | exact upd_same
  | (refine Chg.at (by assumption) ?_; walk_at "hp")
  | (refine Chg.at1 (by assumption) ?_ (by walk_at "ne"); walk_at "hp"))
local macro_rules | `(tactic| walk_at "ne") => `(tactic| first | assumption | (apply Ne.symm; assumption))
local macro_rules | `(tactic| walk_at "sq") => `(tactic| first | assumption | exact sqL (by walk_at "hp") | (refine Chg.seq (by assumption) ?_; walk_at "sq"))
local macro_rules | `(tactic| walk_at "sz") => `(tactic| first | assumption | exact Nat.zero_le _ | (simp only [List.length_cons, List.length_nil]; decide) | exact Nat.le_trans (by first | omega | (simp; done) | (simp; omega)) (show 100000 ≤ sizeLine by decide) | exact Nat.lt_of_lt_of_le (by first | omega | (simp; done) | (simp; omega)) (show 100000 ≤ sizeLine by decide))
local macro_rules | `(tactic| walk_at "ix") => `(tactic| first | exact at0 | exact at1 | exact at2 | exact at3 | assumption | exact rfl | walk_at "ix2")
local macro_rules | `(tactic| walk_at "ix2") => `(tactic| fail)
local macro_rules | `(tactic| walk_at "num") => `(tactic| first | assumption | omega | decide | walk_at "num2")
local macro_rules | `(tactic| walk_at "num2") => `(tactic| fail)
local macro_rules | `(tactic| walk_at "im") => `(tactic| first | assumption | exact R.non (S := fun _ => False) | exact R.bl (S := fun _ => False) _ | exact R.int (S := fun _ => False) _ | exact R.str (S := fun _ => False) _ | (refine R.im (by assumption) ?_; walk_at "im"))
local macro_rules | `(tactic| walk_at "r") => `(tactic| first | assumption | exact R.non (S := fun _ => False) | exact R.bl (S := fun _ => False) _ | exact R.int (S := fun _ => False) _ | exact R.str (S := fun _ => False) _ | (refine R.same (by assumption) ?_; walk_at "r") | exact R.any (by walk_at "im"))
local macro_rules | `(tactic| walk_at "chg") => `(tactic| first
  | exact Chg.refl
  | assumption
  | (refine Chg.same ?_ (by assumption); walk_at "chg")
  | (refine Chg.both ?_ (by assumption); walk_at "chg")
  | (refine Chg.pre (by assumption) ?_; walk_at "chg"))
local macro_rules | `(tactic| walk_at "w1") => `(tactic| first
  | with_reducible apply w_seq
  | with_reducible apply w_asg
  | ((with_reducible apply w_var); (focus (exact rfl)))
  | with_reducible apply w_c
  | with_reducible apply w_op
  | with_reducible apply w_cons
  | with_reducible apply w_nil
  | with_reducible apply w_gName
  | with_reducible apply w_if
  | with_reducible apply w_test
  | with_reducible apply w_B
  | with_reducible apply w_isbl
  | with_reducible apply w_retN
  | with_reducible apply w_next
  | with_reducible apply w_drop
  | with_reducible apply w_cb
  | with_reducible apply w_call
  | with_reducible apply w_callN
  | with_reducible apply w_bm
  | with_reducible apply w_bm0
  | ((with_reducible apply w_tyL); (focus (walk_at "hp"; done)))
  | with_reducible apply w_dput
  | with_reducible apply w_m1
  | with_reducible apply w_isstr
  | with_reducible apply w_and
  | with_reducible apply w_or
  | with_reducible apply w_not
  | with_reducible apply w_andV
  | with_reducible apply w_orV
  | with_reducible apply w_notV
  | with_reducible apply w_ifE
  | with_reducible apply w_chain
  | with_reducible apply w_un
  | with_reducible apply w_neg
  | with_reducible apply w_add
  | with_reducible apply w_sub
  | ((with_reducible apply w_mod); (focus (walk_at "num"; done)))
  | ((with_reducible apply w_mul); (focus (walk_at "num"; done)))
  | ((with_reducible apply w_fdiv); (focus (walk_at "num"; done)))
  | ((with_reducible apply w_pow); (focus (walk_at "num"; done)))
  | with_reducible apply w_lt
  | with_reducible apply w_le
  | with_reducible apply w_gt
  | with_reducible apply w_ge
  | with_reducible apply w_ltS
  | with_reducible apply w_geS
  | with_reducible apply w_inC
  | with_reducible apply w_notInC
  | with_reducible apply w_isN
  | with_reducible apply w_notN
  | with_reducible apply w_isB
  | with_reducible apply w_notB
  | ((with_reducible apply w_addS); (focus (walk_at "sz"; done)))
  | ((with_reducible apply w_ixL); (focus (walk_at "sq"; done)); (focus (walk_at "ix"; done)))
  | ((with_reducible apply w_ixT); (focus (walk_at "hp"; done)); (focus (walk_at "ix"; done)))
  | ((with_reducible apply w_ixS); (focus (walk_at "sz"; done)); (focus (walk_at "ix"; done)))
  | with_reducible apply w_gSub
  | ((with_reducible apply w_gTup); (focus (walk_at "hp"; done)); (focus (exact rfl)))
  | with_reducible apply w_gCons
  | with_reducible apply w_gNil
  | ((with_reducible apply w_aug); (focus (exact rfl)))
  | with_reducible apply w_ipI
  | ((with_reducible apply w_eq); (focus (exact rfl)))
  | ((with_reducible apply w_ne); (focus (exact rfl)))
  | with_reducible apply w_max
  | with_reducible apply w_min
  | with_reducible apply w_abs
  | with_reducible apply w_intB
  | with_reducible apply w_intI
  | with_reducible apply w_tup1
  | with_reducible apply w_lst1
  | with_reducible apply w_sl
  | with_reducible apply w_part
  | with_reducible apply w_noPart
  | with_reducible apply w_isint
  | ((with_reducible apply w_slS); (focus (walk_at "sz"; done)))
  | with_reducible apply w_iteT
  | with_reducible apply w_iteF
  | with_reducible apply w_iteN
  | ((with_reducible apply w_iteYes); (focus (exact rfl)))
  | ((with_reducible apply w_iteNo); (focus (exact rfl)))
  | ((with_reducible apply w_lenL); (focus (walk_at "sq"; done)))
  | ((with_reducible apply w_lenT); (focus (walk_at "hp"; done)))
  | ((with_reducible apply w_lenS); (focus (walk_at "sz"; done)))
  | with_reducible apply w_lc
  | with_reducible apply w_for
  | with_reducible apply w_yes
  | ((with_reducible apply w_wipe); (focus (exact rfl)))
  | with_reducible apply w_iList
  | with_reducible apply w_iTup
  | with_reducible apply w_iStr
  | with_reducible apply w_iRng1
  | with_reducible apply w_iRng2
  | with_reducible apply w_iZip
  | with_reducible apply w_iEnum
  | ((with_reducible apply d_iList); (focus (walk_at "sq"; done)))
  | ((with_reducible apply d_iTup); (focus (walk_at "hp"; done)))
  | with_reducible apply d_iStr
  | ((with_reducible apply d_iRng1); (focus (walk_at "num"; done)); (focus (walk_at "num"; done)))
  | ((with_reducible apply d_iRng2); (focus (walk_at "num"; done)); (focus (walk_at "num"; done)); (focus (walk_at "num"; done)); (focus (walk_at "num"; done)))
  | ((with_reducible apply d_iZip); (focus (walk_at "sq"; done)); (focus (walk_at "sq"; done)))
  | ((with_reducible apply d_iEnum); (focus (walk_at "sq"; done)))
  | walk_at "w2")
local macro_rules | `(tactic| walk_at "w2") => `(tactic| fail)
local macro_rules | `(tactic| walk_at "wn") => `(tactic| repeat walk_at "w1")
local macro_rules | `(tactic| walk_at "w") => `(tactic| repeat (first | walk_at "w1" | with_reducible apply w_ret))
local macro_rules | `(tactic| walk_at "w2") => `(tactic| first
  | ((with_reducible apply w_isInt); (focus (walk_at "r"; done)))
  | ((with_reducible apply w_isBool); (focus (walk_at "r"; done)))
  | ((with_reducible apply w_isStr); (focus (walk_at "r"; done)))
  | ((with_reducible apply w_isTup); (focus (walk_at "r"; done)))
  | ((with_reducible apply w_isLst); (focus (walk_at "r"; done)))
  | with_reducible apply w_fld
  | with_reducible apply w_sfld
  | with_reducible apply w_faug
  | with_reducible apply w_rAdd
  | with_reducible apply w_rSub
  | with_reducible apply w_make
  | with_reducible apply w_orT
  | with_reducible apply w_dgetd
  | with_reducible apply w_dgetk
  | with_reducible apply w_dsetd
  | ((with_reducible apply k_dgetd); (focus (walk_at "hp"; done)))
  | ((with_reducible apply k_dsetd); (focus (walk_at "hp"; done)))
  | walk_at "w3")
local macro_rules | `(tactic| walk_at "w3") => `(tactic| fail)
local macro_rules | `(tactic| walk_at "w3") => `(tactic| first
  | with_reducible apply w_mt
  | with_reducible apply w_makeX
  | ((with_reducible apply m_Kind); (focus (walk_at "hp"; done)); (focus (exact rfl)))
  | ((with_reducible apply g_Kind_joining); (focus (assumption; done)); (focus (walk_at "hp"; done)))
  | ((with_reducible apply g_Kind_none); (focus (assumption; done)); (focus (walk_at "hp"; done)))
  | ((with_reducible apply g_Kind_making); (focus (assumption; done)); (focus (walk_at "hp"; done)))
  | ((with_reducible apply g_Kind_word); (focus (assumption; done)); (focus (walk_at "hp"; done))))
theorem ferr_4 {K : PySem.W.Frag} {L : Nat → Addr → LF} {H : Hp} {Q : VK} {T l P f : Addr} {v1 m : V} {a6 a7 a8 a9 a10 a11 : Option V} {ns : List Int} {S : Addr → Prop} {jf : PyData → PyData → Option PyData} {nd : PyData} {mf : Int → Option PyData} {fs : Nat → Nat → PyData} {eb : Nat → Nat → Bool} {tb : Nat → Nat → Nat → Bool} {xs : List V}
    (hl : H l = some (.lst (ns.map V.int))) (hz : ns.length ≤ 40) (hP : H P = some (.lst xs)) (im : ImA H xs ((prs ns.length ns.length).map fun p => t2 p.1 p.2)) (hT : H T = some (.tup [.ref f, v1, m])) (hj : JVS K L S H (.ref f) jf) (rn : R S H v1 nd) (hm : MV L H m mf) (fr : ∀ a, H a = none → S a) (go : GrpOk jf nd mf ns fs false eb tb)
    (q : ∀ v H', Chg [] H H' → Im H' v (grpD false eb tb ns.length) → Q v H') : t__law_first_err_4 K L (fin Q) [some (.ref T), some (.ref l), some (.ref f), some v1, some m, some (.ref P), a6, a7, a8, a9, a10, a11] H := by
  show tSeq _ (tSeq _ (t__law_first_err_6 K L)) _ _ _
  have lx : xs.length = (prs ns.length ns.length).length := by rw [im.length, List.length_map]
  have lx2 : xs.length ≤ 2000 := by have := prs_len hz ns.length; omega
  walk_at "wn"
  refine kw_dnewT fun F H1 nF c1 hF => ?_
  have hP1 := c1.at hP
  have hl1 := c1.at hl
  have PF : P ≠ F := fun e => by rw [e, nF] at hP; cases hP
  have lF : l ≠ F := fun e => by rw [e, nF] at hl; cases hl
  have kt1 : KtAt K L (fun b => S b ∧ b ≠ F) H1 T jf nd mf := ((KtAt.there ⟨.ref f, v1, m, hT, hj, rn, hm⟩).mono fun b z => ⟨z.1, fun e => z.2 (by rw [e]; exact nF)⟩).same c1
  have nx1 := noX_dT hF
  have fr1 : ∀ b, H1 b = none → S b ∧ b ≠ F := fun b e => ⟨fr b (c1.dom b e), fun z => by rw [z, hF] at e; cases e⟩
  have hs1 : ∀ b, (S b ∧ b ≠ F) → b ∉ [F] := fun b z mm => z.2 (List.mem_singleton.mp mm)
  walk_at "wn"
  refine for_it (walk_list (K := K) (a := P) (xs := xs)) (fun i σ Hi => Chg [F] H1 Hi ∧ ∃ (kvs : List (List Key × V)) (b8 : Option V), Hi F = some (.dT kvs) ∧ kvs.length ≤ i ∧ StrAt (fun b => S b ∧ b ≠ F) Hi kvs fs (fun i' l' => ∃ k, k < i ∧ (prs ns.length ns.length)[k]? = some (i', l')) ∧ σ = [some (.ref T), some (.ref l), some (.ref f), some v1, some m, some (.ref P), a6, some (.ref F), b8, a9, a10, a11])
    ⟨.refl, [], _, hF, Nat.le_refl _, (fun i' l' z => by obtain ⟨k, h, _⟩ := z; omega), rfl⟩ (fun i σ Hi _ z => sqL (z.1.at1 hP1 PF)) (fun i x σ Hi0 Hi hi z y => ?_) (fun σ Hi z => ?_)
  · obtain ⟨rfl, ex⟩ := y
    obtain ⟨ci, kvs, b8, hFi, hk, sa, rfl⟩ := z
    obtain ⟨d, ed, rd⟩ := im.get ex
    rw [List.getElem?_map] at ed
    cases ep : (prs ns.length ns.length)[i]? with
    | none => rw [ep] at ed; cases ed
    | some p =>
    rw [ep] at ed
    cases ed
    obtain ⟨m1, m2, m3⟩ := prs_mem.mp (List.mem_of_getElem? ep)
    cases rd with
    | @tup t us _ ht ra =>
    have eus : us = [V.int (p.1 : Nat), V.int (p.2 : Nat)] := ra_ints (ns := [((p.1 : Nat) : Int), ((p.2 : Nat) : Int)]) ra
    subst eus
    have hti : Hi t = some (.tup [V.int (p.1 : Nat), V.int (p.2 : Nat)]) := (c1.same .refl |>.tup _ _ ht) |> ci.tup _ _
    have hli := ci.at1 hl1 lF
    have kti := kt1.keep ci nx1 hs1
    have fri : ∀ b, Hi b = none → S b ∧ b ≠ F := fun b e => fr1 b (ci.dom b e)
    have x0 : atI [V.int (p.1 : Nat), V.int (p.2 : Nat)] 0 = some (.int (p.1 : Nat)) := atI_nat (j := 0) rfl
    have x1 : atI [V.int (p.1 : Nat), V.int (p.2 : Nat)] 1 = some (.int (p.2 : Nat)) := atI_nat (j := 1) rfl
    walk_at "w"
    refine w_slL (sqL hli) fun l3 H3 n3 c3 h3 => ?_
    rw [cut_midK _ _ _ (Nat.le_of_lt m2), ← List.map_take, ← List.map_drop] at h3
    have es : strD jf mf ((ns.take p.2).drop p.1) = some (fs p.1 p.2) := by
      have := strD_of go.so (i := p.1) (p.2 - (p.1 + 1)) (by omega)
      rw [show p.1 + 1 + (p.2 - (p.1 + 1)) = p.2 by omega] at this
      exact this
    walk_at "w"
    refine ⟨T, l3, _, _, jf, nd, mf, fs p.1 p.2, rfl, h3, by rw [List.length_drop, List.length_take]; omega, kti.same c3, fresh_chg c3 fri, es, fun u H4 c4 ru => ?_⟩
    walk_at "w"
    have c34 := c3.same c4
    refine kd_dputT (k := k2 p.1 p.2) (c34.at hFi) (by rw [c34.tup _ _ hti]; rfl) (by omega) fun H5 c5 h5 => ?_
    refine ⟨(ci.same c34).both c5, _, _, h5, by have := length_putK kvs (k2 p.1 p.2) u; omega, ?_, rfl⟩
    refine ((sa.keep c34 (fun _ _ => by simp)).keep c5 hs1).put (ru.keep c5 hs1) fun i' l' z => ?_
    obtain ⟨k, h1, h2⟩ := z
    by_cases hki : k = i
    · subst hki
      rw [ep] at h2
      cases h2
      exact .inl ⟨rfl, rfl⟩
    · exact .inr ⟨k, by omega, h2⟩
  · obtain ⟨ci, kvs, b8, hFi, hk, sa, rfl⟩ := z
    have c01 : Chg [] H Hi := c1.one ci nF
    refine ferr_6 (c01.at hl) hz (c01.at hP) (im.im c01) hFi (S := S) (fun i' l' z => ?_) (hj.keep c01 .nil) (rn.same c01) (fresh_chg c01 fr) go fun v H' c r => q v H' (c01.same c) r
    have hm : (i', l') ∈ prs ns.length ns.length := prs_mem.mpr ⟨by show i' < ns.length; omega, z.1, z.2⟩
    obtain ⟨k, hk⟩ := List.mem_iff_getElem?.mp hm
    obtain ⟨v, e, r⟩ := sa i' l' ⟨k, by rw [lx]; exact (List.getElem?_eq_some_iff.mp hk).1, hk⟩
    exact ⟨v, e, r.mono fun b z => z.1⟩
theorem pure__law_first_err {K : PySem.W.Frag} {L : Nat → Addr → LF} (vs : List V) (H : Hp) (Q : VK) (E : XK) (hh : sp__law_first_err K L vs H Q E) : t__law_first_err K L (fin Q) (start ["kind_of", "row", "joiner", "first", "made_by", "pairs", "i", "folds", "pair", "j", "l", "one"] vs) H := by
  obtain ⟨T, l, ns, S, jf, nd, mf, fs, b0, eb, tb, rfl, hl, hz, ⟨g, v1, m, hT, hj, hn, hm⟩, fr, go, q⟩ := hh
  obtain ⟨f, rfl, hf⟩ := hj.cvs
  show tSeq _ (tSeq _ (tSeq _ (tSeq _ (t__law_first_err_4 K L)))) _ [some (.ref T), some (.ref l), none, none, none, none, none, none, none, none, none, none] H
  walk_at "wn"
  refine ⟨.ref f, v1, v1, S, jf, nd, nd, b0, rfl, hj, hn, hn, fr, go.e0, fun H1 c1 => ?_⟩
  refine ⟨_, rfl, ?_⟩
  cases b0 with
  | true =>
    walk_at "w"
    refine k_tup (by walk_at "sz") fun T3 H3 nT c3 hT3 => ?_
    walk_at "w"
    exact q _ _ (c1.same c3) (.tup hT3 .nil)
  | false =>
    have hl1 := c1.at hl
    walk_at "wn"
    refine k_lst (by walk_at "sz") fun P H2 nP c2 hP => ?_
    have hl2 := c2.at hl1
    have lP : l ≠ P := fun e => by rw [e, nP] at hl1; cases hl1
    have c12 := c1.same c2
    have nx2 := noX_lst hP
    have kt2 : KtAt K L (fun b => S b ∧ b ≠ P) H2 T jf nd mf := ((KtAt.there ((KtAt.same c1 ⟨.ref f, v1, m, hT, hj, hn, hm⟩))).mono fun b z => ⟨z.1, fun e => z.2 (by rw [e]; exact nP)⟩).same c2
    have hs1 : ∀ b, (S b ∧ b ≠ P) → b ∉ [P] := fun b z mm => z.2 (List.mem_singleton.mp mm)
    walk_at "wn"
    try refine d_iRng1 (j := ((ns.map V.int).length : Nat)) (by rw [List.length_map]; omega) (by rw [List.length_map]; omega) ?_
    rw [Int.toNat_natCast, List.length_map]
    refine for_it (walk_range (lo := 0) (n := ns.length)) (fun i σ Hi => Chg [P] H2 Hi ∧ ∃ (xs : List V) (b6 : Option V), Hi P = some (.lst xs) ∧ ImA Hi xs ((prs ns.length i).map fun p => t2 p.1 p.2) ∧ σ = [some (.ref T), some (.ref l), some (.ref f), some v1, some m, some (.ref P), b6, none, none, none, none, none])
      ⟨.refl, [], _, hP, .nil, rfl⟩ (fun _ _ _ _ _ => trivial) (fun i v σ Hi0 Hi hi z y => ?_) (fun σ Hi z => ?_)
    · obtain ⟨ci, xs, b6, hPi, im, rfl⟩ := z
      obtain ⟨rfl, rfl⟩ := y
      simp only [Int.zero_add]
      have hli := ci.at1 hl2 lP
      have lxs : xs.length ≤ 2000 := by have := prs_len hz i; rw [im.length, List.length_map]; omega
      walk_at "w"
      try refine d_iRng2 (i := (i : Int) + 1) (j := ((ns.map V.int).length : Nat) + 1) (by omega) (by omega) (by rw [List.length_map]; omega) (by rw [List.length_map]; omega) ?_
      rw [List.length_map, show (((ns.length : Nat) : Int) + 1 - ((i : Int) + 1)).toNat = ns.length + 1 - (i + 1) by omega]
      refine w_lcP walk_range [] (fun _ _ => True) (fun j y H => Im H y (t2 i (i + 1 + j))) trivial (fun _ _ _ _ _ _ _ => trivial) (fun _ _ => trivial) (fun D j acc z H4 H5 hj2 nD hD el iv c4 _ y => ?_) (fun D acc H4 nD c4 _ el hD ys => ?_)
      · obtain ⟨rfl, rfl⟩ := y
        walk_at "w"
        refine k_tup (by walk_at "sz") fun T3 H6 nT c6 hT3 => ?_
        refine lcp_end (fun _ _ _ _ _ _ _ => trivial) (fun _ _ _ _ _ _ c h => h.im c) nD (fun a ha => by cases ha) hD el (by omega) iv c6 trivial ?_
        have ej : ((i : Int) + 1 + ((j : Nat) : Int)) = ((i + 1 + j : Nat) : Int) := by omega
        simp only [ej] at hT3
        exact .tup hT3 (.cons (.int _) (.cons (.int _) .nil))
      · have hP4 := c4.at hPi
        walk_at "wn"
        refine kw_extend hP4 hD (by omega) fun H6 c6 h6 => ?_
        refine ⟨(ci.same c4).both c6, _, _, h6, ?_, rfl⟩
        rw [prs_succ, List.map_append]
        refine RA.append (RA.im c6 (RA.im c4 im)) (ra_ixK ?_ fun k x d h1 h2 => ?_)
        · unfold prR
          rw [List.length_map, List.length_map, List.length_range', el]
        · unfold prR at h2
          rw [List.map_map, List.getElem?_map] at h2
          obtain ⟨a, ha, rfl⟩ := Option.map_eq_some_iff.mp h2
          obtain ⟨h3, h4⟩ := List.getElem?_eq_some_iff.mp ha
          rw [List.getElem_range', Nat.one_mul] at h4
          subst h4
          exact R.im c6 (ys k x h1)
    · obtain ⟨ci, xs, b6, hPi, im, rfl⟩ := z
      have c0i : Chg [] H1 Hi := c2.one ci nP
      have c1i := c1.same c0i
      exact ferr_4 (c1i.at hl) hz hPi im (c1i.tup _ _ hT) (hj.keep c1i .nil) (hn.same c1i) (hm.keep c1i .nil) (fresh_chg c1i fr) go fun v H' c r => q v H' (c1i.same c) r
end Fg
namespace Fg
open PySem PySem.Spec PyProof.Rows L2
section
section
variable {P : Program} {w : World} {K : PySem.W.Frag} {mg : Str → Option Value} {base : Heap} {C qual : Str} {st : Stmt} {dvs : List V} {f : Addr} {fd : FuncData} {sp : Sp} {k : Nat} {ps ks : List Str}
theorem mkid_of (n j : Nat) {params : Arguments} {body : List Stmt} {scope : Scope} (F : FunD K "__init__" qual params body scope dvs [] f fd) (M : Mk K (He.ga K C) f) (ok : FnOk P w K mg base CX0 k f fd ps sp) (gm : mg C = some (.ref (He.ga K C))) (hd : dvs ≠ []) (hn : n + (dvs.length - j) = ps.length)
    (h : ∀ (T : Addr) (kV doc pm : Value) (an : Option Addr) (cdv ct : Value) (us its : List Value), us.length = n → its.length = dvs.length →
      ∃ k, bindArgs (PySem.W.fnOf "__init__" qual params body scope (.ref T) kV doc pm an cdv ct) ⟨us, []⟩ = seqItems? (.ref T) >>= k ∧ k (some its.toArray) = pure (ps.zip (us ++ its.drop j))) : MkI P w K mg base k C (He.ga K C) sp (dvs.drop j) := by
  obtain ⟨ds, v, b⟩ := F.binds1 n j hd hn h
  exact ⟨_, fd, ps, ds, M, ok, gm, b, v⟩
end
end
local macro_rules | `(tactic| walk_at "hp") => `(tactic| first
  | assumption
  | exact upd_same
  | (refine Chg.at (by assumption) ?_; walk_at "hp")
  | (refine Chg.at1 (by assumption) ?_ (by walk_at "ne"); walk_at "hp"))
local macro_rules | `(tactic| walk_at "ne") => `(tactic| first | assumption | (apply Ne.symm; assumption))
local macro_rules | `(tactic| walk_at "sq") => `(tactic| first | assumption | exact sqL (by walk_at "hp") | (refine Chg.seq (by assumption) ?_; walk_at "sq"))
local macro_rules | `(tactic| walk_at "sz") => `(tactic| first | assumption | exact Nat.zero_le _ | (simp only [List.length_cons, List.length_nil]; decide) | exact Nat.le_trans (by first | omega | (simp; done) | (simp; omega)) (show 100000 ≤ sizeLine by decide) | exact Nat.lt_of_lt_of_le (by first | omega | (simp; done) | (simp; omega)) (show 100000 ≤ sizeLine by decide))
local macro_rules | `(tactic| walk_at "ix") => `(tactic| first | exact at0 | exact at1 | exact at2 | exact at3 | assumption | exact rfl | walk_at "ix2")
local macro_rules | `(tactic| walk_at "ix2") => `(tactic| fail)
local macro_rules | `(tactic| walk_at "num") => `(tactic| first | assumption | omega | decide | walk_at "num2")
local macro_rules | `(tactic| walk_at "num2") => `(tactic| fail)
local macro_rules | `(tactic| walk_at "im") => `(tactic| first | assumption | exact R.non (S := fun _ => False) | exact R.bl (S := fun _ => False) _ | exact R.int (S := fun _ => False) _ | exact R.str (S := fun _ => False) _ | (refine R.im (by assumption) ?_; walk_at "im"))
local macro_rules | `(tactic| walk_at "r") => `(tactic| first | assumption | exact R.non (S := fun _ => False) | exact R.bl (S := fun _ => False) _ | exact R.int (S := fun _ => False) _ | exact R.str (S := fun _ => False) _ | (refine R.same (by assumption) ?_; walk_at "r") | exact R.any (by walk_at "im"))
local macro_rules | `(tactic| walk_at "chg") => `(tactic| first
  | exact Chg.refl
  | assumption
  | (refine Chg.same ?_ (by assumption); walk_at "chg")
  | (refine Chg.both ?_ (by assumption); walk_at "chg")
  | (refine Chg.pre (by assumption) ?_; walk_at "chg"))
local macro_rules | `(tactic| walk_at "w1") => `(tactic| first
  | with_reducible apply w_seq
  | with_reducible apply w_asg
  | ((with_reducible apply w_var); (focus (exact rfl)))
  | with_reducible apply w_c
  | with_reducible apply w_op
  | with_reducible apply w_cons
  | with_reducible apply w_nil
  | with_reducible apply w_gName
  | with_reducible apply w_if
  | with_reducible apply w_test
  | with_reducible apply w_B
  | with_reducible apply w_isbl
  | with_reducible apply w_retN
  | with_reducible apply w_next
  | with_reducible apply w_drop
  | with_reducible apply w_cb
  | with_reducible apply w_call
  | with_reducible apply w_callN
  | with_reducible apply w_bm
  | with_reducible apply w_bm0
  | ((with_reducible apply w_tyL); (focus (walk_at "hp"; done)))
  | with_reducible apply w_dput
  | with_reducible apply w_m1
  | with_reducible apply w_isstr
  | with_reducible apply w_and
  | with_reducible apply w_or
  | with_reducible apply w_not
  | with_reducible apply w_andV
  | with_reducible apply w_orV
  | with_reducible apply w_notV
  | with_reducible apply w_ifE
  | with_reducible apply w_chain
  | with_reducible apply w_un
  | with_reducible apply w_neg
  | with_reducible apply w_add
  | with_reducible apply w_sub
  | ((with_reducible apply w_mod); (focus (walk_at "num"; done)))
  | ((with_reducible apply w_mul); (focus (walk_at "num"; done)))
  | ((with_reducible apply w_fdiv); (focus (walk_at "num"; done)))
  | ((with_reducible apply w_pow); (focus (walk_at "num"; done)))
  | with_reducible apply w_lt
  | with_reducible apply w_le
  | with_reducible apply w_gt
  | with_reducible apply w_ge
  | with_reducible apply w_ltS
  | with_reducible apply w_geS
  | with_reducible apply w_inC
  | with_reducible apply w_notInC
  | with_reducible apply w_isN
  | with_reducible apply w_notN
  | with_reducible apply w_isB
  | with_reducible apply w_notB
  | ((with_reducible apply w_addS); (focus (walk_at "sz"; done)))
  | ((with_reducible apply w_ixL); (focus (walk_at "sq"; done)); (focus (walk_at "ix"; done)))
  | ((with_reducible apply w_ixT); (focus (walk_at "hp"; done)); (focus (walk_at "ix"; done)))
  | ((with_reducible apply w_ixS); (focus (walk_at "sz"; done)); (focus (walk_at "ix"; done)))
  | with_reducible apply w_gSub
  | ((with_reducible apply w_gTup); (focus (walk_at "hp"; done)); (focus (exact rfl)))
  | with_reducible apply w_gCons
  | with_reducible apply w_gNil
  | ((with_reducible apply w_aug); (focus (exact rfl)))
  | with_reducible apply w_ipI
  | ((with_reducible apply w_eq); (focus (exact rfl)))
  | ((with_reducible apply w_ne); (focus (exact rfl)))
  | with_reducible apply w_max
  | with_reducible apply w_min
  | with_reducible apply w_abs
  | with_reducible apply w_intB
  | with_reducible apply w_intI
  | with_reducible apply w_tup1
  | with_reducible apply w_lst1
  | with_reducible apply w_sl
  | with_reducible apply w_part
  | with_reducible apply w_noPart
  | with_reducible apply w_isint
  | ((with_reducible apply w_slS); (focus (walk_at "sz"; done)))
  | with_reducible apply w_iteT
  | with_reducible apply w_iteF
  | with_reducible apply w_iteN
  | ((with_reducible apply w_iteYes); (focus (exact rfl)))
  | ((with_reducible apply w_iteNo); (focus (exact rfl)))
  | ((with_reducible apply w_lenL); (focus (walk_at "sq"; done)))
  | ((with_reducible apply w_lenT); (focus (walk_at "hp"; done)))
  | ((with_reducible apply w_lenS); (focus (walk_at "sz"; done)))
  | with_reducible apply w_lc
  | with_reducible apply w_for
  | with_reducible apply w_yes
  | ((with_reducible apply w_wipe); (focus (exact rfl)))
  | with_reducible apply w_iList
  | with_reducible apply w_iTup
  | with_reducible apply w_iStr
  | with_reducible apply w_iRng1
  | with_reducible apply w_iRng2
  | with_reducible apply w_iZip
  | with_reducible apply w_iEnum
  | ((with_reducible apply d_iList); (focus (walk_at "sq"; done)))
  | ((with_reducible apply d_iTup); (focus (walk_at "hp"; done)))
  | with_reducible apply d_iStr
  | ((with_reducible apply d_iRng1); (focus (walk_at "num"; done)); (focus (walk_at "num"; done)))
  | ((with_reducible apply d_iRng2); (focus (walk_at "num"; done)); (focus (walk_at "num"; done)); (focus (walk_at "num"; done)); (focus (walk_at "num"; done)))
  | ((with_reducible apply d_iZip); (focus (walk_at "sq"; done)); (focus (walk_at "sq"; done)))
  | ((with_reducible apply d_iEnum); (focus (walk_at "sq"; done)))
  | walk_at "w2")
local macro_rules | `(tactic| walk_at "w2") => `(tactic| fail)
local macro_rules | `(tactic| walk_at "wn") => `(tactic| repeat walk_at "w1")
local macro_rules | `(tactic| walk_at "w") => `(tactic| repeat (first | walk_at "w1" | with_reducible apply w_ret))
section
/-- the law's bag, n draws may follow -/
def Bag (H : Hp) (b : Addr) (n : Nat) : Prop := ∃ x y z : Int, H b = some (.lst [.int x, .int y, .int z]) ∧ 0 ≤ x ∧ 0 ≤ y ∧ y < 2 ^ 130 ∧ 0 ≤ z ∧ z + n ≤ 10 ^ 12
theorem Bag.keep {M : List Addr} {H H' : Hp} {b : Addr} {n : Nat} (h : Bag H b n) (c : Chg M H H') (hb : b ∉ M) : Bag H' b n := by
  obtain ⟨x, y, z, e, r⟩ := h
  exact ⟨x, y, z, c.keep _ _ e hb, r⟩
theorem Bag.same {H H' : Hp} {b : Addr} {n : Nat} (h : Bag H b n) (c : Chg [] H H') : Bag H' b n := h.keep c (by simp)
theorem Bag.one {H H' : Hp} {b p : Addr} {n : Nat} (h : Bag H b n) (c : Chg [p] H H') (e : b ≠ p) : Bag H' b n := h.keep c (by simpa using e)
theorem Bag.some {H : Hp} {b : Addr} {n : Nat} (h : Bag H b n) : H b ≠ none := by
  obtain ⟨x, y, z, h, _⟩ := h
  rw [h]
  exact fun z => nomatch z
theorem Bag.le {H : Hp} {b : Addr} {n m : Nat} (h : Bag H b n) (e : m ≤ n) : Bag H b m := by
  obtain ⟨x, y, z, h, x0, y0, y1, z0, z1⟩ := h
  exact ⟨x, y, z, h, x0, y0, y1, z0, by omega⟩
def sp__law_draw : Sp := fun vs H Q _ => ∃ (b : Addr) (m : Int) (n : Nat), vs = [.ref b, .int m] ∧ Bag H b n ∧ 1 ≤ n ∧ 0 < m ∧ m < 10 ^ 30 ∧ ∀ (v : Int) (H' : Hp), Chg [b] H H' → Bag H' b (n - 1) → 0 ≤ v → v < m → Q (.int v) H'
theorem u_draw {H : Hp} {Q : VK} {E : XK} {b : Addr} {m : Int} {n : Nat} (hb : Bag H b n) (hn : 1 ≤ n) (h0 : 0 < m) (h1 : m < 10 ^ 30) (q : ∀ (v : Int) (H' : Hp), Chg [b] H H' → Bag H' b (n - 1) → 0 ≤ v → v < m → Q (.int v) H') : sp__law_draw ([.ref b, .int m] ++ []) H Q E := ⟨b, m, n, rfl, hb, hn, h0, h1, q⟩
def t__law_draw (K : PySem.W.Frag) : TS :=
    tSeq (tIfS (tTest (tOp oGt (tOp (rIxL K) (tVar 0) (tC (.int 0))) (tC (.int 1)))) (tSeq (tAsg (tOp oMod (tOp (rIxL K) (tVar 0) (tC (.int 0))) (tVar 1)) (gName 2))
    (tSeq (tAsg (tOp oFdiv (tOp (rIxL K) (tVar 0) (tC (.int 0))) (tVar 1)) (gSub (tVar 0) (tC (.int 0)) rSetL))
    (tRet (tVar 2)))) (tNext))
    (tSeq (tAsg (tOp oAdd (tOp (rIxL K) (tVar 0) (tC (.int 2))) (tC (.int 1))) (gSub (tVar 0) (tC (.int 2)) rSetL))
    (tSeq (tAsg (tOp oMod (tOp oPow (tOp oAdd (tOp (rIxL K) (tVar 0) (tC (.int 1))) (tOp oMul (tC (.int 7368787)) (tOp (rIxL K) (tVar 0) (tC (.int 2))))) (tC (.int 3))) (tC (.int 170141183460469231731687303715884105727))) (gName 3))
    (tSeq (tAsg (tOp oMod (tOp oPow (tOp oAdd (tVar 3) (tOp oMul (tC (.int 15485863)) (tOp (rIxL K) (tVar 0) (tC (.int 2))))) (tC (.int 3))) (tC (.int 162259276829213363391578010288127))) (gName 3))
    (tRet (tOp oMod (tOp oFdiv (tVar 3) (tC (.int 1024))) (tVar 1))))))
theorem pure__law_draw {K : PySem.W.Frag} (vs : List V) (H : Hp) (Q : VK) (E : XK) (h : sp__law_draw vs H Q E) : t__law_draw K (fin Q) (start ["bag", "many", "found", "mixed"] vs) H := by
  obtain ⟨b, m, n, rfl, ⟨x, y, z, hb, x0, y0, y1, z0, z1⟩, n1, m0, m1, q⟩ := h
  show t__law_draw K _ [some (.ref b), some (.int m), none, none] H
  unfold t__law_draw
  walk_at "w"
  refine w_iteD (fun h => ?_) (fun h => ?_)
  · walk_at "w"
    refine w_fdiv (cdivS m0 m1) ?_
    walk_at "w"
    refine w_setL hb rfl fun H1 c1 h1 => ?_
    walk_at "w"
    refine q _ H1 c1 ⟨_, _, _, h1, Int.ediv_nonneg x0 (by omega), y0, y1, z0, by omega⟩ (Int.emod_nonneg _ (by omega)) (Int.emod_lt_of_pos _ m0)
  · walk_at "w"
    refine w_setL hb rfl fun H1 c1 h1 => ?_
    have h1' : H1 b = some (HO.lst [V.int x, V.int y, V.int (z + 1)]) := h1
    clear h1
    walk_at "w"
    refine w_mul (cmulL (by decide) (by decide)) ?_
    walk_at "w"
    refine w_pow (cpow 200 (by omega) (by decide) (by decide)) ?_
    walk_at "w"
    refine w_mul (cmulL (by decide) (by decide)) ?_
    walk_at "w"
    have e0 := Int.emod_nonneg ((y + 7368787 * (z + 1)) ^ Int.toNat 3) (b := 170141183460469231731687303715884105727) (by decide)
    have e1 := Int.emod_lt_of_pos ((y + 7368787 * (z + 1)) ^ Int.toNat 3) (b := 170141183460469231731687303715884105727) (by decide)
    refine w_pow (cpow 200 (by omega) (by decide) (by decide)) ?_
    walk_at "w"
    refine w_fdiv (cdivS (by decide) (by decide)) ?_
    walk_at "w"
    exact q _ H1 c1 ⟨_, _, _, h1', x0, y0, y1, by omega, by omega⟩ (Int.emod_nonneg _ (by omega)) (Int.emod_lt_of_pos _ m0)
def sp__law_cell_at (K : PySem.W.Frag) : Sp := fun vs H Q _ => ∃ (a : Addr) (ns : List Int) (k : Int), vs = [.ref a, .int k] ∧ SqL K H a (ns.map V.int) ∧ 0 ≤ k ∧ ∀ v : Int, Q (.int v) H
def t__law_cell_at (K : PySem.W.Frag) : TS :=
    tSeq (tIfS (tTest (tOp oLt (tVar 1) (tCB (cLenQ K) (tCons (tVar 0) (tNil))))) (tRet (tOp (rIxL K) (tVar 0) (tVar 1))) (tNext))
    (tRet (tC (.int 0)))
theorem pure__law_cell_at {K : PySem.W.Frag} (vs : List V) (H : Hp) (Q : VK) (E : XK) (h : sp__law_cell_at K vs H Q E) : t__law_cell_at K (fin Q) (start ["script", "k"] vs) H := by
  obtain ⟨a, ns, k, rfl, hs, k0, q⟩ := h
  show t__law_cell_at K _ [some (.ref a), some (.int k)] H
  unfold t__law_cell_at
  walk_at "w"
  refine w_iteD (fun h => ?_) (fun h => ?_)
  · rw [List.length_map] at h
    obtain ⟨v, ev, hv⟩ := atD (xs := ns.map V.int) k0 (by rw [List.length_map]; exact h)
    obtain ⟨n, _, rfl⟩ := List.mem_map.mp hv
    walk_at "w"
    exact q n
  · walk_at "w"
    exact q 0
def sp__law_bag : Sp := fun vs H Q _ => ∃ c p : Int, vs = [.int c, .int p] ∧ 0 ≤ p ∧ p ≤ 1000 ∧ ∀ b H', H b = none → Chg [] H H' → Bag H' b (10 ^ 12) → Q (.ref b) H'
def t__law_bag  : TS :=
    tRet (tLst (tCons (tCB cMax (tCons (tC (.int 0)) (tCons (tOp oSub (tVar 0) (tOp oPow (tC (.int 10)) (tC (.int 18)))) (tNil)))) (tCons (tOp oAdd (tOp oMod (tVar 0) (tC (.int 170141183460469231731687303715884105727))) (tOp oMul (tC (.int 982451653)) (tVar 1))) (tCons (tC (.int 0)) (tNil)))))
theorem pure__law_bag {K : PySem.W.Frag} (vs : List V) (H : Hp) (Q : VK) (E : XK) (h : sp__law_bag vs H Q E) : t__law_bag (fin Q) (start ["cell", "place"] vs) H := by
  obtain ⟨c, p, rfl, p0, p1, q⟩ := h
  show t__law_bag _ [some (.int c), some (.int p)] H
  unfold t__law_bag
  walk_at "w"
  refine w_pow (cpow 4 (by decide) (by decide) (by decide)) ?_
  walk_at "w"
  refine w_mul (cmulL (by decide) (by decide)) ?_
  walk_at "w"
  refine k_lst (by walk_at "sz") fun b H1 nb c1 hb => ?_
  have e0 := Int.emod_nonneg c (b := 170141183460469231731687303715884105727) (by decide)
  have e1 := Int.emod_lt_of_pos c (b := 170141183460469231731687303715884105727) (by decide)
  refine q b H1 nb c1 ⟨_, _, _, hb, ?_, by omega, by omega, by omega, by omega⟩
  split <;> omega
end
end Fg
namespace Fg
open PySem PySem.Spec PyProof.Rows L2 LamX LmX
local macro_rules | `(tactic| walk_at "hp") => `(tactic| first
  | assumption
  | exact upd_same
  | (refine Chg.at (by assumption) ?_; walk_at "hp")
  | (refine Chg.at1 (by assumption) ?_ (by walk_at "ne"); walk_at "hp"))
local macro_rules | `(tactic| walk_at "ne") => `(tactic| first | assumption | (apply Ne.symm; assumption))
local macro_rules | `(tactic| walk_at "sq") => `(tactic| first | assumption | exact sqL (by walk_at "hp") | (refine Chg.seq (by assumption) ?_; walk_at "sq"))
local macro_rules | `(tactic| walk_at "sz") => `(tactic| first | assumption | exact Nat.zero_le _ | (simp only [List.length_cons, List.length_nil]; decide) | exact Nat.le_trans (by first | omega | (simp; done) | (simp; omega)) (show 100000 ≤ sizeLine by decide) | exact Nat.lt_of_lt_of_le (by first | omega | (simp; done) | (simp; omega)) (show 100000 ≤ sizeLine by decide))
local macro_rules | `(tactic| walk_at "ix") => `(tactic| first | exact at0 | exact at1 | exact at2 | exact at3 | assumption | exact rfl | walk_at "ix2")
local macro_rules | `(tactic| walk_at "ix2") => `(tactic| fail)
local macro_rules | `(tactic| walk_at "num") => `(tactic| first | assumption | omega | decide | walk_at "num2")
local macro_rules | `(tactic| walk_at "num2") => `(tactic| fail)
local macro_rules | `(tactic| walk_at "im") => `(tactic| first | assumption | exact R.non (S := fun _ => False) | exact R.bl (S := fun _ => False) _ | exact R.int (S := fun _ => False) _ | exact R.str (S := fun _ => False) _ | (refine R.im (by assumption) ?_; walk_at "im"))
local macro_rules | `(tactic| walk_at "r") => `(tactic| first | assumption | exact R.non (S := fun _ => False) | exact R.bl (S := fun _ => False) _ | exact R.int (S := fun _ => False) _ | exact R.str (S := fun _ => False) _ | (refine R.same (by assumption) ?_; walk_at "r") | exact R.any (by walk_at "im"))
local macro_rules | `(tactic| walk_at "chg") => `(tactic| first
  | exact Chg.refl
  | assumption
  | (refine Chg.same ?_ (by assumption); walk_at "chg")
  | (refine Chg.both ?_ (by assumption); walk_at "chg")
  | (refine Chg.pre (by assumption) ?_; walk_at "chg"))
local macro_rules | `(tactic| walk_at "w1") => `(tactic| first
  | with_reducible apply w_seq
  | with_reducible apply w_asg
  | ((with_reducible apply w_var); (focus (exact rfl)))
  | with_reducible apply w_c
  | with_reducible apply w_op
  | with_reducible apply w_cons
  | with_reducible apply w_nil
  | with_reducible apply w_gName
  | with_reducible apply w_if
  | with_reducible apply w_test
  | with_reducible apply w_B
  | with_reducible apply w_isbl
  | with_reducible apply w_retN
  | with_reducible apply w_next
  | with_reducible apply w_drop
  | with_reducible apply w_cb
  | with_reducible apply w_call
  | with_reducible apply w_callN
  | with_reducible apply w_bm
  | with_reducible apply w_bm0
  | ((with_reducible apply w_tyL); (focus (walk_at "hp"; done)))
  | with_reducible apply w_dput
  | with_reducible apply w_m1
  | with_reducible apply w_isstr
  | with_reducible apply w_and
  | with_reducible apply w_or
  | with_reducible apply w_not
  | with_reducible apply w_andV
  | with_reducible apply w_orV
  | with_reducible apply w_notV
  | with_reducible apply w_ifE
  | with_reducible apply w_chain
  | with_reducible apply w_un
  | with_reducible apply w_neg
  | with_reducible apply w_add
  | with_reducible apply w_sub
  | ((with_reducible apply w_mod); (focus (walk_at "num"; done)))
  | ((with_reducible apply w_mul); (focus (walk_at "num"; done)))
  | ((with_reducible apply w_fdiv); (focus (walk_at "num"; done)))
  | ((with_reducible apply w_pow); (focus (walk_at "num"; done)))
  | with_reducible apply w_lt
  | with_reducible apply w_le
  | with_reducible apply w_gt
  | with_reducible apply w_ge
  | with_reducible apply w_ltS
  | with_reducible apply w_geS
  | with_reducible apply w_inC
  | with_reducible apply w_notInC
  | with_reducible apply w_isN
  | with_reducible apply w_notN
  | with_reducible apply w_isB
  | with_reducible apply w_notB
  | ((with_reducible apply w_addS); (focus (walk_at "sz"; done)))
  | ((with_reducible apply w_ixL); (focus (walk_at "sq"; done)); (focus (walk_at "ix"; done)))
  | ((with_reducible apply w_ixT); (focus (walk_at "hp"; done)); (focus (walk_at "ix"; done)))
  | ((with_reducible apply w_ixS); (focus (walk_at "sz"; done)); (focus (walk_at "ix"; done)))
  | with_reducible apply w_gSub
  | ((with_reducible apply w_gTup); (focus (walk_at "hp"; done)); (focus (exact rfl)))
  | with_reducible apply w_gCons
  | with_reducible apply w_gNil
  | ((with_reducible apply w_aug); (focus (exact rfl)))
  | with_reducible apply w_ipI
  | ((with_reducible apply w_eq); (focus (exact rfl)))
  | ((with_reducible apply w_ne); (focus (exact rfl)))
  | with_reducible apply w_max
  | with_reducible apply w_min
  | with_reducible apply w_abs
  | with_reducible apply w_intB
  | with_reducible apply w_intI
  | with_reducible apply w_tup1
  | with_reducible apply w_lst1
  | with_reducible apply w_sl
  | with_reducible apply w_part
  | with_reducible apply w_noPart
  | with_reducible apply w_isint
  | ((with_reducible apply w_slS); (focus (walk_at "sz"; done)))
  | with_reducible apply w_iteT
  | with_reducible apply w_iteF
  | with_reducible apply w_iteN
  | ((with_reducible apply w_iteYes); (focus (exact rfl)))
  | ((with_reducible apply w_iteNo); (focus (exact rfl)))
  | ((with_reducible apply w_lenL); (focus (walk_at "sq"; done)))
  | ((with_reducible apply w_lenT); (focus (walk_at "hp"; done)))
  | ((with_reducible apply w_lenS); (focus (walk_at "sz"; done)))
  | with_reducible apply w_lc
  | with_reducible apply w_for
  | with_reducible apply w_yes
  | ((with_reducible apply w_wipe); (focus (exact rfl)))
  | with_reducible apply w_iList
  | with_reducible apply w_iTup
  | with_reducible apply w_iStr
  | with_reducible apply w_iRng1
  | with_reducible apply w_iRng2
  | with_reducible apply w_iZip
  | with_reducible apply w_iEnum
  | ((with_reducible apply d_iList); (focus (walk_at "sq"; done)))
  | ((with_reducible apply d_iTup); (focus (walk_at "hp"; done)))
  | with_reducible apply d_iStr
  | ((with_reducible apply d_iRng1); (focus (walk_at "num"; done)); (focus (walk_at "num"; done)))
  | ((with_reducible apply d_iRng2); (focus (walk_at "num"; done)); (focus (walk_at "num"; done)); (focus (walk_at "num"; done)); (focus (walk_at "num"; done)))
  | ((with_reducible apply d_iZip); (focus (walk_at "sq"; done)); (focus (walk_at "sq"; done)))
  | ((with_reducible apply d_iEnum); (focus (walk_at "sq"; done)))
  | walk_at "w2")
local macro_rules | `(tactic| walk_at "w2") => `(tactic| fail)
local macro_rules | `(tactic| walk_at "wn") => `(tactic| repeat walk_at "w1")
local macro_rules | `(tactic| walk_at "w") => `(tactic| repeat (first | walk_at "w1" | with_reducible apply w_ret))
local macro_rules | `(tactic| walk_at "w2") => `(tactic| first
  | ((with_reducible apply w_isInt); (focus (walk_at "r"; done)))
  | ((with_reducible apply w_isBool); (focus (walk_at "r"; done)))
  | ((with_reducible apply w_isStr); (focus (walk_at "r"; done)))
  | ((with_reducible apply w_isTup); (focus (walk_at "r"; done)))
  | ((with_reducible apply w_isLst); (focus (walk_at "r"; done)))
  | with_reducible apply w_fld
  | with_reducible apply w_sfld
  | with_reducible apply w_faug
  | with_reducible apply w_rAdd
  | with_reducible apply w_rSub
  | with_reducible apply w_make
  | with_reducible apply w_orT
  | with_reducible apply w_dgetd
  | with_reducible apply w_dgetk
  | with_reducible apply w_dsetd
  | ((with_reducible apply k_dgetd); (focus (walk_at "hp"; done)))
  | ((with_reducible apply k_dsetd); (focus (walk_at "hp"; done)))
  | walk_at "w3")
local macro_rules | `(tactic| walk_at "w3") => `(tactic| fail)
local macro_rules | `(tactic| walk_at "w3") => `(tactic| first
  | with_reducible apply w_mt
  | with_reducible apply w_makeX
  | ((with_reducible apply m_Kind); (focus (walk_at "hp"; done)); (focus (exact rfl)))
  | ((with_reducible apply g_Kind_joining); (focus (assumption; done)); (focus (walk_at "hp"; done)))
  | ((with_reducible apply g_Kind_none); (focus (assumption; done)); (focus (walk_at "hp"; done)))
  | ((with_reducible apply g_Kind_making); (focus (assumption; done)); (focus (walk_at "hp"; done)))
  | ((with_reducible apply g_Kind_word); (focus (assumption; done)); (focus (walk_at "hp"; done))))
/-- the lambdas' names -/
structure LQ (L : Nat → Addr → LF) : Prop where
  s : ∀ c', (L 0 c').qual = "summed.<locals>.<lambda>"
  t : ∀ j c', 1 ≤ j → j ≤ 2 → (L j c').qual = "strung.<locals>.<lambda>"
  k : ∀ j c', 3 ≤ j → j ≤ 30 → (L j c').qual = "_law_kind.<locals>.<lambda>"
theorem noX_tbl {H : Hp} {P : Addr} {q : Str} (h : TabS H P q) : NoX [P] H := fun a m => by
  obtain rfl := List.mem_singleton.mp m
  obtain ⟨ps, h, _⟩ := h
  exact ⟨(fun z e => by rw [h] at e; cases e), (fun C dx fs e => by rw [h] at e; cases e)⟩
theorem tabS_some {H : Hp} {P : Addr} {q : Str} (h : TabS H P q) : H P ≠ none := by
  obtain ⟨ps, h, _⟩ := h
  rw [h]
  exact fun z => nomatch z
theorem tabS_keep {M : List Addr} {H H' : Hp} {P : Addr} {q : Str} (c : Chg M H H') (n : NoX M H) (hP : P ∉ M) (h : TabS H P q) : TabS H' P q := by
  obtain ⟨ps, h1, h2, h3⟩ := h
  refine ⟨ps, c.keep _ _ h1 hP, h2, fun pos cv e => ?_⟩
  obtain ⟨c', e1, e2⟩ := h3 pos cv e
  exact ⟨c', e1, c.keep _ _ e2 fun m => (n _ m).1 _ e2⟩
/-- a Kind that is told: none is changed but the table of lambdas P -/
def KdTold (K : PySem.W.Frag) (L : Nat → Addr → LF) (P : Addr) (q : Str) (jf : PyData → PyData → Option PyData) (nd : PyData) (mf : Int → Option PyData) : Sp := fun vs H Q _ => vs = [] ∧ TabS H P q ∧ ∃ S : Addr → Prop, (∀ a, H a = none → S a) ∧ ∀ a H', H a = none → Chg [P] H H' → TabS H' P q → KdAt K L S H' a jf nd mf → Q (.ref a) H'
end Fg
namespace Fg
open PySem PySem.Spec PyProof.Rows L2 LamX LmX
local macro_rules | `(tactic| walk_at "hp") => `(tactic| first
  | assumption
  | exact upd_same
  | (refine Chg.at (by assumption) ?_; walk_at "hp")
  | (refine Chg.at1 (by assumption) ?_ (by walk_at "ne"); walk_at "hp"))
local macro_rules | `(tactic| walk_at "ne") => `(tactic| first | assumption | (apply Ne.symm; assumption))
local macro_rules | `(tactic| walk_at "sq") => `(tactic| first | assumption | exact sqL (by walk_at "hp") | (refine Chg.seq (by assumption) ?_; walk_at "sq"))
local macro_rules | `(tactic| walk_at "sz") => `(tactic| first | assumption | exact Nat.zero_le _ | (simp only [List.length_cons, List.length_nil]; decide) | exact Nat.le_trans (by first | omega | (simp; done) | (simp; omega)) (show 100000 ≤ sizeLine by decide) | exact Nat.lt_of_lt_of_le (by first | omega | (simp; done) | (simp; omega)) (show 100000 ≤ sizeLine by decide))
local macro_rules | `(tactic| walk_at "ix") => `(tactic| first | exact at0 | exact at1 | exact at2 | exact at3 | assumption | exact rfl | walk_at "ix2")
local macro_rules | `(tactic| walk_at "ix2") => `(tactic| fail)
local macro_rules | `(tactic| walk_at "num") => `(tactic| first | assumption | omega | decide | walk_at "num2")
local macro_rules | `(tactic| walk_at "num2") => `(tactic| fail)
local macro_rules | `(tactic| walk_at "im") => `(tactic| first | assumption | exact R.non (S := fun _ => False) | exact R.bl (S := fun _ => False) _ | exact R.int (S := fun _ => False) _ | exact R.str (S := fun _ => False) _ | (refine R.im (by assumption) ?_; walk_at "im"))
local macro_rules | `(tactic| walk_at "r") => `(tactic| first | assumption | exact R.non (S := fun _ => False) | exact R.bl (S := fun _ => False) _ | exact R.int (S := fun _ => False) _ | exact R.str (S := fun _ => False) _ | (refine R.same (by assumption) ?_; walk_at "r") | exact R.any (by walk_at "im"))
local macro_rules | `(tactic| walk_at "chg") => `(tactic| first
  | exact Chg.refl
  | assumption
  | (refine Chg.same ?_ (by assumption); walk_at "chg")
  | (refine Chg.both ?_ (by assumption); walk_at "chg")
  | (refine Chg.pre (by assumption) ?_; walk_at "chg"))
local macro_rules | `(tactic| walk_at "w1") => `(tactic| first
  | with_reducible apply w_seq
  | with_reducible apply w_asg
  | ((with_reducible apply w_var); (focus (exact rfl)))
  | with_reducible apply w_c
  | with_reducible apply w_op
  | with_reducible apply w_cons
  | with_reducible apply w_nil
  | with_reducible apply w_gName
  | with_reducible apply w_if
  | with_reducible apply w_test
  | with_reducible apply w_B
  | with_reducible apply w_isbl
  | with_reducible apply w_retN
  | with_reducible apply w_next
  | with_reducible apply w_drop
  | with_reducible apply w_cb
  | with_reducible apply w_call
  | with_reducible apply w_callN
  | with_reducible apply w_bm
  | with_reducible apply w_bm0
  | ((with_reducible apply w_tyL); (focus (walk_at "hp"; done)))
  | with_reducible apply w_dput
  | with_reducible apply w_m1
  | with_reducible apply w_isstr
  | with_reducible apply w_and
  | with_reducible apply w_or
  | with_reducible apply w_not
  | with_reducible apply w_andV
  | with_reducible apply w_orV
  | with_reducible apply w_notV
  | with_reducible apply w_ifE
  | with_reducible apply w_chain
  | with_reducible apply w_un
  | with_reducible apply w_neg
  | with_reducible apply w_add
  | with_reducible apply w_sub
  | ((with_reducible apply w_mod); (focus (walk_at "num"; done)))
  | ((with_reducible apply w_mul); (focus (walk_at "num"; done)))
  | ((with_reducible apply w_fdiv); (focus (walk_at "num"; done)))
  | ((with_reducible apply w_pow); (focus (walk_at "num"; done)))
  | with_reducible apply w_lt
  | with_reducible apply w_le
  | with_reducible apply w_gt
  | with_reducible apply w_ge
  | with_reducible apply w_ltS
  | with_reducible apply w_geS
  | with_reducible apply w_inC
  | with_reducible apply w_notInC
  | with_reducible apply w_isN
  | with_reducible apply w_notN
  | with_reducible apply w_isB
  | with_reducible apply w_notB
  | ((with_reducible apply w_addS); (focus (walk_at "sz"; done)))
  | ((with_reducible apply w_ixL); (focus (walk_at "sq"; done)); (focus (walk_at "ix"; done)))
  | ((with_reducible apply w_ixT); (focus (walk_at "hp"; done)); (focus (walk_at "ix"; done)))
  | ((with_reducible apply w_ixS); (focus (walk_at "sz"; done)); (focus (walk_at "ix"; done)))
  | with_reducible apply w_gSub
  | ((with_reducible apply w_gTup); (focus (walk_at "hp"; done)); (focus (exact rfl)))
  | with_reducible apply w_gCons
  | with_reducible apply w_gNil
  | ((with_reducible apply w_aug); (focus (exact rfl)))
  | with_reducible apply w_ipI
  | ((with_reducible apply w_eq); (focus (exact rfl)))
  | ((with_reducible apply w_ne); (focus (exact rfl)))
  | with_reducible apply w_max
  | with_reducible apply w_min
  | with_reducible apply w_abs
  | with_reducible apply w_intB
  | with_reducible apply w_intI
  | with_reducible apply w_tup1
  | with_reducible apply w_lst1
  | with_reducible apply w_sl
  | with_reducible apply w_part
  | with_reducible apply w_noPart
  | with_reducible apply w_isint
  | ((with_reducible apply w_slS); (focus (walk_at "sz"; done)))
  | with_reducible apply w_iteT
  | with_reducible apply w_iteF
  | with_reducible apply w_iteN
  | ((with_reducible apply w_iteYes); (focus (exact rfl)))
  | ((with_reducible apply w_iteNo); (focus (exact rfl)))
  | ((with_reducible apply w_lenL); (focus (walk_at "sq"; done)))
  | ((with_reducible apply w_lenT); (focus (walk_at "hp"; done)))
  | ((with_reducible apply w_lenS); (focus (walk_at "sz"; done)))
  | with_reducible apply w_lc
  | with_reducible apply w_for
  | with_reducible apply w_yes
  | ((with_reducible apply w_wipe); (focus (exact rfl)))
  | with_reducible apply w_iList
  | with_reducible apply w_iTup
  | with_reducible apply w_iStr
  | with_reducible apply w_iRng1
  | with_reducible apply w_iRng2
  | with_reducible apply w_iZip
  | with_reducible apply w_iEnum
  | ((with_reducible apply d_iList); (focus (walk_at "sq"; done)))
  | ((with_reducible apply d_iTup); (focus (walk_at "hp"; done)))
  | with_reducible apply d_iStr
  | ((with_reducible apply d_iRng1); (focus (walk_at "num"; done)); (focus (walk_at "num"; done)))
  | ((with_reducible apply d_iRng2); (focus (walk_at "num"; done)); (focus (walk_at "num"; done)); (focus (walk_at "num"; done)); (focus (walk_at "num"; done)))
  | ((with_reducible apply d_iZip); (focus (walk_at "sq"; done)); (focus (walk_at "sq"; done)))
  | ((with_reducible apply d_iEnum); (focus (walk_at "sq"; done)))
  | walk_at "w2")
local macro_rules | `(tactic| walk_at "w2") => `(tactic| fail)
local macro_rules | `(tactic| walk_at "wn") => `(tactic| repeat walk_at "w1")
local macro_rules | `(tactic| walk_at "w") => `(tactic| repeat (first | walk_at "w1" | with_reducible apply w_ret))
local macro_rules | `(tactic| walk_at "w2") => `(tactic| first
  | ((with_reducible apply w_isInt); (focus (walk_at "r"; done)))
  | ((with_reducible apply w_isBool); (focus (walk_at "r"; done)))
  | ((with_reducible apply w_isStr); (focus (walk_at "r"; done)))
  | ((with_reducible apply w_isTup); (focus (walk_at "r"; done)))
  | ((with_reducible apply w_isLst); (focus (walk_at "r"; done)))
  | with_reducible apply w_fld
  | with_reducible apply w_sfld
  | with_reducible apply w_faug
  | with_reducible apply w_rAdd
  | with_reducible apply w_rSub
  | with_reducible apply w_make
  | with_reducible apply w_orT
  | with_reducible apply w_dgetd
  | with_reducible apply w_dgetk
  | with_reducible apply w_dsetd
  | ((with_reducible apply k_dgetd); (focus (walk_at "hp"; done)))
  | ((with_reducible apply k_dsetd); (focus (walk_at "hp"; done)))
  | walk_at "w3")
local macro_rules | `(tactic| walk_at "w3") => `(tactic| fail)
local macro_rules | `(tactic| walk_at "w3") => `(tactic| first
  | with_reducible apply w_mt
  | with_reducible apply w_makeX
  | ((with_reducible apply m_Kind); (focus (walk_at "hp"; done)); (focus (exact rfl)))
  | ((with_reducible apply g_Kind_joining); (focus (assumption; done)); (focus (walk_at "hp"; done)))
  | ((with_reducible apply g_Kind_none); (focus (assumption; done)); (focus (walk_at "hp"; done)))
  | ((with_reducible apply g_Kind_making); (focus (assumption; done)); (focus (walk_at "hp"; done)))
  | ((with_reducible apply g_Kind_word); (focus (assumption; done)); (focus (walk_at "hp"; done))))
def idD : Int → Option PyData := fun n => some (.int n)
def kj : Nat → PyData → PyData → Option PyData
  | 0 => jnD 3
  | 1 => leD
  | 2 => jnD 4
  | 3 => jnD 5
  | 4 => boD
  | 5 => jnD 8
  | 6 => jnD 10
  | 7 => jnD 12
  | 8 => jnD 13
  | 9 => jnD 15
  | 10 => jnD 17
  | 11 => apD
  | 12 => jnD 18
  | 13 => jnD 19
  | 14 => jnD 21
  | 15 => jnD 22
  | 16 => jnD 23
  | 17 => jnD 24
  | 18 => jnD 26
  | 19 => jnD 27
  | 20 => lnD
  | 21 => jnD 29
  | _ => fun _ _ => none
def kn : Nat → PyData
  | 0 => .int 0
  | 1 => .none
  | 2 => .none
  | 3 => .str (Str.ofString "")
  | 4 => .tuple []
  | 5 => .list []
  | 6 => .int 1
  | 7 => .int (-1)
  | 8 => .str (Str.ofString "")
  | 9 => .none
  | 10 => .int 0
  | 11 => .none
  | 12 => .int 0
  | 13 => .int 0
  | 14 => .int 0
  | 15 => .int 1
  | 16 => .int 0
  | 17 => .str (Str.ofString "")
  | 18 => .none
  | 19 => .none
  | 20 => .none
  | 21 => .int 0
  | _ => .none
def km : Nat → Int → Option PyData
  | 0 => idD
  | 1 => idD
  | 2 => idD
  | 3 => mkD 6
  | 4 => mkD 7
  | 5 => mkD 9
  | 6 => mkD 11
  | 7 => idD
  | 8 => mkD 14
  | 9 => mkD 16
  | 10 => idD
  | 11 => idD
  | 12 => idD
  | 13 => mkD 20
  | 14 => idD
  | 15 => idD
  | 16 => idD
  | 17 => mkD 25
  | 18 => idD
  | 19 => mkD 28
  | 20 => idD
  | 21 => mkD 30
  | _ => idD
abbrev KP (K : PySem.W.Frag) : Addr := tabP K "_law_kind"
abbrev KQ : Str := "_law_kind.<locals>.<lambda>"
section
variable {K : PySem.W.Frag} {L : Nat → Addr → LF}
def EvJ (K : PySem.W.Frag) (L : Nat → Addr → LF) (A : TE) (jf : PyData → PyData → Option PyData) : Prop := ∀ (H : Hp) (σ : L2.St) (Q : VK), TabS H (KP K) KQ → (∀ v H', Chg [KP K] H H' → TabS H' (KP K) KQ → JV K L H' v jf → Q v H') → A σ H Q
def EvN (B : TE) (nd : PyData) : Prop := ∀ (S : Addr → Prop) (H : Hp) (σ : L2.St) (Q : VK), (∀ a, H a = none → S a) → (∀ v H', Chg [] H H' → R S H' v nd → Q v H') → B σ H Q
def EvM (K : PySem.W.Frag) (L : Nat → Addr → LF) (A : TE) (mf : Int → Option PyData) : Prop := ∀ (H : Hp) (σ : L2.St) (Q : VK), TabS H (KP K) KQ → (∀ v H', Chg [KP K] H H' → TabS H' (KP K) KQ → MV L H' v mf → Q v H') → A σ H Q
theorem evJ_lam (lq : LQ L) {j : Nat} (h1 : 3 ≤ j) (h2 : j ≤ 30) (h3 : j ∉ mkers) : EvJ K L (tLam (KP K) KQ (L j)) (jnD j) := fun H σ Q t q =>
  ⟨t, fun f c' H1 c1 t1 nf hf hc => q _ _ c1 t1 ⟨f, rfl, .inl ⟨j, by omega, h3, rfl, c', hf, by rw [lq.k j c' h1 h2]; exact hc⟩⟩⟩
theorem evJ_ref {f : Addr} {jf : PyData → PyData → Option PyData} (h : (f, sp2 jf) ∈ SFk K L) : EvJ K L (tC (.ref f)) jf := fun H σ Q t q => q _ _ .refl t ⟨f, rfl, .inr h⟩
theorem evN_int (i : Int) : EvN (tC (.int i)) (.int i) := fun S H σ Q _ q => q _ _ .refl (.int i)
theorem evN_m1 : EvN (tUn (rU fun i => .int (-i)) (tC (.int 1))) (.int (-1)) := fun S H σ Q _ q => by
  walk_at "w"
  exact q _ _ .refl (.int _)
theorem evN_none : EvN (tC .non) .none := fun S H σ Q _ q => q _ _ .refl .non
theorem evN_str : EvN (tC (.str (Str.ofString ""))) (.str (Str.ofString "")) := fun S H σ Q _ q => q _ _ .refl (.str _)
theorem evN_tup : EvN (tTup tNil) (.tuple []) := fun S H σ Q _ q => by
  walk_at "w"
  refine k_tup (by walk_at "sz") fun T H1 nT c1 hT => ?_
  exact q _ _ c1 (.tup hT .nil)
theorem evN_lst : EvN (tLst tNil) (.list []) := fun S H σ Q fr q => by
  walk_at "w"
  refine k_lst (by walk_at "sz") fun T H1 nT c1 hT => ?_
  exact q _ _ c1 (.lst (fr _ nT) hT .nil)
theorem evM_none : EvM K L (tC .non) idD := fun H σ Q t q => q _ _ .refl t (.inl ⟨rfl, rfl⟩)
theorem evM_lam (lq : LQ L) {j : Nat} (h3 : j ∈ mkers ∧ 3 ≤ j) : EvM K L (tLam (KP K) KQ (L j)) (mkD j) := fun H σ Q t q =>
  ⟨t, fun f c' H1 c1 t1 nf hf hc => q _ _ c1 t1 (.inr ⟨f, j, rfl, h3.1, rfl, c', hf, by rw [lq.k j c' h3.2 (Nat.le_of_lt_succ (mkers_lt h3.1))]; exact hc⟩)⟩
theorem ev_row {A B C : TE} {jf : PyData → PyData → Option PyData} {nd : PyData} {mf : Int → Option PyData} (ha : EvJ K L A jf) (hb : EvN B nd) (hc : EvM K L C mf) {S : Addr → Prop} {H : Hp} {σ : L2.St} {Q : VK} (fr : ∀ a, H a = none → S a) (hS : ∀ a, S a → a ∉ [KP K]) (t : TabS H (KP K) KQ)
    (q : ∀ T H', H T = none → Chg [KP K] H H' → TabS H' (KP K) KQ → KtAt K L S H' T jf nd mf → Q (.ref T) H') : A σ H fun x H1 => tCons B (tCons C tNil) σ H1 fun xs H2 => KTup Q (x :: xs) H2 := by
  refine ha H σ _ t fun g H1 c1 t1 j1 => ?_
  walk_at "wn"
  refine hb S H1 σ _ (fun a e => fr a (c1.dom a e)) fun v H2 c2 r2 => ?_
  have t2 := tabS_keep c2 .nil (by simp) t1
  walk_at "wn"
  refine hc H2 σ _ t2 fun m H3 c3 t3 m3 => ?_
  walk_at "wn"
  refine k_tup (by walk_at "sz") fun T H4 nT c4 hT => ?_
  refine q T H4 (c1.dom T (c2.dom T (c3.dom T nT))) (((c1.same c2).both c3).same c4) (tabS_keep c4 .nil (by simp) t3) ⟨g, v, m, hT, ?_, ?_, m3.keep c4 .nil⟩
  · exact .inl (((j1.keep c2 .nil).keep c3 (noX_tbl t2)).keep c4 .nil)
  · exact (r2.keep c3 hS).same c4
/-- the table so far -/
def KInv (K : PySem.W.Frag) (L : Nat → Addr → LF) (S : Addr → Prop) (H0 : Hp) (p : Addr) (k : Nat) (H : Hp) : Prop := H0 p = none ∧ (∀ a, H0 a = none → S a) ∧ Chg [KP K] H0 H ∧ TabS H (KP K) KQ ∧
  ∃ vs, H p = some (.lst vs) ∧ vs.length = k ∧ ∀ i v, vs[i]? = some v → ∃ T, v = .ref T ∧ KtAt K L (fun a => S a ∧ a ≠ KP K ∧ a ≠ p) H T (kj i) (kn i) (km i)
theorem kd_app {A B C : TE} {S : Addr → Prop} {H0 H : Hp} {p : Addr} {k : Nat} {D : Ends} {rest : TS} {at' : V} (ha : EvJ K L A (kj k)) (hb : EvN B (kn k)) (hc : EvM K L C (km k)) (iv : KInv K L S H0 p k H)
    (hk : k ≤ 1000) (q : ∀ H', KInv K L S H0 p (k + 1) H' → rest D [some at', some (.ref p)] H') : tSeq (tDrop (tBM K "list" rAppend (tVar 1) (tCons (tTup (tCons A (tCons B (tCons C tNil)))) tNil))) rest D [some at', some (.ref p)] H := by
  obtain ⟨np, fr, c0, t, vs, hp, lv, en⟩ := iv
  have Pp : KP K ≠ p := fun e => by obtain ⟨ps, h, _⟩ := t; rw [e, hp] at h; cases h
  walk_at "wn"
  refine ev_row ha hb hc (S := fun a => S a ∧ a ≠ KP K ∧ a ≠ p) (fun a e => ⟨fr a (c0.dom a e), (fun z => tabS_some t (by rw [← z]; exact e)), (fun z => by rw [z, hp] at e; cases e)⟩) (fun a z m => z.2.1 (List.mem_singleton.mp m)) t fun T H1 nT c1 t1 kt => ?_
  walk_at "wn"
  have hp1 := c1.at1 hp (Ne.symm Pp)
  refine w_append hp1 (Nat.lt_of_le_of_lt (by rw [lv]; exact hk) (by decide)) fun H2 c2 h2 => ?_
  have nx := noX_lst hp1
  have hS2 : ∀ a, (S a ∧ a ≠ KP K ∧ a ≠ p) → a ∉ [p] := fun a z m => z.2.2 (List.mem_singleton.mp m)
  refine q H2 ⟨np, fr, (c0.both c1).go c2 (fun a m => .inr (by rw [List.mem_singleton.mp m]; exact np)), tabS_keep c2 nx (by simpa using Pp) t1, vs ++ [.ref T], h2, by rw [List.length_append, lv]; rfl, fun i v e => ?_⟩
  by_cases hi : i < vs.length
  · rw [List.getElem?_append_left hi] at e
    obtain ⟨T', rfl, k'⟩ := en i v e
    exact ⟨T', rfl, (k'.keep c1 (noX_tbl t) (fun a z m => z.2.1 (List.mem_singleton.mp m))).keep c2 nx hS2⟩
  · have hi2 : i = k := by
      have := (List.getElem?_eq_some_iff.mp e).1
      rw [List.length_append, List.length_singleton] at this
      omega
    subst hi2
    rw [List.getElem?_append_right (by omega), ← lv, Nat.sub_self] at e
    cases (Option.some.inj (show some (V.ref T) = some v from e))
    exact ⟨T, rfl, kt.keep c2 nx hS2⟩
theorem kd_init {A0 B0 C0 A1 B1 C1 : TE} {S : Addr → Prop} {H : Hp} {D : Ends} {rest : TS} {at' : V} (ha0 : EvJ K L A0 (kj 0)) (hb0 : EvN B0 (kn 0)) (hc0 : EvM K L C0 (km 0)) (ha1 : EvJ K L A1 (kj 1)) (hb1 : EvN B1 (kn 1)) (hc1 : EvM K L C1 (km 1)) (fr : ∀ a, H a = none → S a) (t0 : TabS H (KP K) KQ)
    (q : ∀ p H', KInv K L S H p 2 H' → rest D [some at', some (.ref p)] H') : tSeq (tAsg (tLst (tCons (tTup (tCons A0 (tCons B0 (tCons C0 tNil)))) (tCons (tTup (tCons A1 (tCons B1 (tCons C1 tNil)))) tNil))) (gName 1)) rest D [some at', none] H := by
  have fr1 : ∀ a, H a = none → S a ∧ a ≠ KP K := fun a e => ⟨fr a e, fun z => tabS_some t0 (by rw [← z]; exact e)⟩
  have hS1 : ∀ a, (S a ∧ a ≠ KP K) → a ∉ [KP K] := fun a z m => z.2 (List.mem_singleton.mp m)
  walk_at "wn"
  refine ev_row (L := L) ha0 hb0 hc0 (S := fun a => S a ∧ a ≠ KP K) fr1 hS1 t0 fun T0 H1 nT0 c1 t1 kt0 => ?_
  walk_at "wn"
  refine ev_row (L := L) ha1 hb1 hc1 (S := fun a => S a ∧ a ≠ KP K) (fun a e => fr1 a (c1.dom a e)) hS1 t1 fun T1 H2 nT1 c2 t2 kt1 => ?_
  walk_at "wn"
  refine k_lst (by walk_at "sz") fun p Hp np cp hp => ?_
  have c02 := c1.both c2
  have pH : H p = none := c02.dom p np
  have iv2 : KInv K L S H p 2 Hp := by
    have k0 := (KtAt.there (kt0.keep c2 (noX_tbl t1) hS1)).mono (S' := fun a => S a ∧ a ≠ KP K ∧ a ≠ p) fun b z => ⟨z.1.1, z.1.2, fun e => z.2 (by rw [e]; exact np)⟩
    have k1 := (KtAt.there kt1).mono (S' := fun a => S a ∧ a ≠ KP K ∧ a ≠ p) fun b z => ⟨z.1.1, z.1.2, fun e => z.2 (by rw [e]; exact np)⟩
    refine ⟨pH, fr, c02.same cp, tabS_keep cp .nil (by simp) t2, _, hp, rfl, fun j v e => ?_⟩
    match j, e with
    | 0, e => cases e; exact ⟨T0, rfl, k0.same cp⟩
    | 1, e => cases e; exact ⟨T1, rfl, k1.same cp⟩
    | j + 2, e => simp at e
  exact q p Hp iv2
end
end Fg
namespace Fg
open PySem PySem.Spec PyProof.Rows L2 LamX LmX
local macro_rules | `(tactic| walk_at "hp") => `(tactic| first
  | assumption
  | exact upd_same
  | (refine Chg.at (by assumption) ?_; walk_at "hp")
  | (refine Chg.at1 (by assumption) ?_ (by walk_at "ne"); walk_at "hp"))
local macro_rules | `(tactic| walk_at "ne") => `(tactic| first | assumption | (apply Ne.symm; assumption))
local macro_rules | `(tactic| walk_at "sq") => `(tactic| first | assumption | exact sqL (by walk_at "hp") | (refine Chg.seq (by assumption) ?_; walk_at "sq"))
local macro_rules | `(tactic| walk_at "sz") => `(tactic| first | assumption | exact Nat.zero_le _ | (simp only [List.length_cons, List.length_nil]; decide) | exact Nat.le_trans (by first | omega | (simp; done) | (simp; omega)) (show 100000 ≤ sizeLine by decide) | exact Nat.lt_of_lt_of_le (by first | omega | (simp; done) | (simp; omega)) (show 100000 ≤ sizeLine by decide))
local macro_rules | `(tactic| walk_at "ix") => `(tactic| first | exact at0 | exact at1 | exact at2 | exact at3 | assumption | exact rfl | walk_at "ix2")
local macro_rules | `(tactic| walk_at "ix2") => `(tactic| fail)
local macro_rules | `(tactic| walk_at "num") => `(tactic| first | assumption | omega | decide | walk_at "num2")
local macro_rules | `(tactic| walk_at "num2") => `(tactic| fail)
local macro_rules | `(tactic| walk_at "im") => `(tactic| first | assumption | exact R.non (S := fun _ => False) | exact R.bl (S := fun _ => False) _ | exact R.int (S := fun _ => False) _ | exact R.str (S := fun _ => False) _ | (refine R.im (by assumption) ?_; walk_at "im"))
local macro_rules | `(tactic| walk_at "r") => `(tactic| first | assumption | exact R.non (S := fun _ => False) | exact R.bl (S := fun _ => False) _ | exact R.int (S := fun _ => False) _ | exact R.str (S := fun _ => False) _ | (refine R.same (by assumption) ?_; walk_at "r") | exact R.any (by walk_at "im"))
local macro_rules | `(tactic| walk_at "chg") => `(tactic| first
  | exact Chg.refl
  | assumption
  | (refine Chg.same ?_ (by assumption); walk_at "chg")
  | (refine Chg.both ?_ (by assumption); walk_at "chg")
  | (refine Chg.pre (by assumption) ?_; walk_at "chg"))
local macro_rules | `(tactic| walk_at "w1") => `(tactic| first
  | with_reducible apply w_seq
  | with_reducible apply w_asg
  | ((with_reducible apply w_var); (focus (exact rfl)))
  | with_reducible apply w_c
  | with_reducible apply w_op
  | with_reducible apply w_cons
  | with_reducible apply w_nil
  | with_reducible apply w_gName
  | with_reducible apply w_if
  | with_reducible apply w_test
  | with_reducible apply w_B
  | with_reducible apply w_isbl
  | with_reducible apply w_retN
  | with_reducible apply w_next
  | with_reducible apply w_drop
  | with_reducible apply w_cb
  | with_reducible apply w_call
  | with_reducible apply w_callN
  | with_reducible apply w_bm
  | with_reducible apply w_bm0
  | ((with_reducible apply w_tyL); (focus (walk_at "hp"; done)))
  | with_reducible apply w_dput
  | with_reducible apply w_m1
  | with_reducible apply w_isstr
  | with_reducible apply w_and
  | with_reducible apply w_or
  | with_reducible apply w_not
  | with_reducible apply w_andV
  | with_reducible apply w_orV
  | with_reducible apply w_notV
  | with_reducible apply w_ifE
  | with_reducible apply w_chain
  | with_reducible apply w_un
  | with_reducible apply w_neg
  | with_reducible apply w_add
  | with_reducible apply w_sub
  | ((with_reducible apply w_mod); (focus (walk_at "num"; done)))
  | ((with_reducible apply w_mul); (focus (walk_at "num"; done)))
  | ((with_reducible apply w_fdiv); (focus (walk_at "num"; done)))
  | ((with_reducible apply w_pow); (focus (walk_at "num"; done)))
  | with_reducible apply w_lt
  | with_reducible apply w_le
  | with_reducible apply w_gt
  | with_reducible apply w_ge
  | with_reducible apply w_ltS
  | with_reducible apply w_geS
  | with_reducible apply w_inC
  | with_reducible apply w_notInC
  | with_reducible apply w_isN
  | with_reducible apply w_notN
  | with_reducible apply w_isB
  | with_reducible apply w_notB
  | ((with_reducible apply w_addS); (focus (walk_at "sz"; done)))
  | ((with_reducible apply w_ixL); (focus (walk_at "sq"; done)); (focus (walk_at "ix"; done)))
  | ((with_reducible apply w_ixT); (focus (walk_at "hp"; done)); (focus (walk_at "ix"; done)))
  | ((with_reducible apply w_ixS); (focus (walk_at "sz"; done)); (focus (walk_at "ix"; done)))
  | with_reducible apply w_gSub
  | ((with_reducible apply w_gTup); (focus (walk_at "hp"; done)); (focus (exact rfl)))
  | with_reducible apply w_gCons
  | with_reducible apply w_gNil
  | ((with_reducible apply w_aug); (focus (exact rfl)))
  | with_reducible apply w_ipI
  | ((with_reducible apply w_eq); (focus (exact rfl)))
  | ((with_reducible apply w_ne); (focus (exact rfl)))
  | with_reducible apply w_max
  | with_reducible apply w_min
  | with_reducible apply w_abs
  | with_reducible apply w_intB
  | with_reducible apply w_intI
  | with_reducible apply w_tup1
  | with_reducible apply w_lst1
  | with_reducible apply w_sl
  | with_reducible apply w_part
  | with_reducible apply w_noPart
  | with_reducible apply w_isint
  | ((with_reducible apply w_slS); (focus (walk_at "sz"; done)))
  | with_reducible apply w_iteT
  | with_reducible apply w_iteF
  | with_reducible apply w_iteN
  | ((with_reducible apply w_iteYes); (focus (exact rfl)))
  | ((with_reducible apply w_iteNo); (focus (exact rfl)))
  | ((with_reducible apply w_lenL); (focus (walk_at "sq"; done)))
  | ((with_reducible apply w_lenT); (focus (walk_at "hp"; done)))
  | ((with_reducible apply w_lenS); (focus (walk_at "sz"; done)))
  | with_reducible apply w_lc
  | with_reducible apply w_for
  | with_reducible apply w_yes
  | ((with_reducible apply w_wipe); (focus (exact rfl)))
  | with_reducible apply w_iList
  | with_reducible apply w_iTup
  | with_reducible apply w_iStr
  | with_reducible apply w_iRng1
  | with_reducible apply w_iRng2
  | with_reducible apply w_iZip
  | with_reducible apply w_iEnum
  | ((with_reducible apply d_iList); (focus (walk_at "sq"; done)))
  | ((with_reducible apply d_iTup); (focus (walk_at "hp"; done)))
  | with_reducible apply d_iStr
  | ((with_reducible apply d_iRng1); (focus (walk_at "num"; done)); (focus (walk_at "num"; done)))
  | ((with_reducible apply d_iRng2); (focus (walk_at "num"; done)); (focus (walk_at "num"; done)); (focus (walk_at "num"; done)); (focus (walk_at "num"; done)))
  | ((with_reducible apply d_iZip); (focus (walk_at "sq"; done)); (focus (walk_at "sq"; done)))
  | ((with_reducible apply d_iEnum); (focus (walk_at "sq"; done)))
  | walk_at "w2")
local macro_rules | `(tactic| walk_at "w2") => `(tactic| fail)
local macro_rules | `(tactic| walk_at "wn") => `(tactic| repeat walk_at "w1")
local macro_rules | `(tactic| walk_at "w") => `(tactic| repeat (first | walk_at "w1" | with_reducible apply w_ret))
local macro_rules | `(tactic| walk_at "w2") => `(tactic| first
  | ((with_reducible apply w_isInt); (focus (walk_at "r"; done)))
  | ((with_reducible apply w_isBool); (focus (walk_at "r"; done)))
  | ((with_reducible apply w_isStr); (focus (walk_at "r"; done)))
  | ((with_reducible apply w_isTup); (focus (walk_at "r"; done)))
  | ((with_reducible apply w_isLst); (focus (walk_at "r"; done)))
  | with_reducible apply w_fld
  | with_reducible apply w_sfld
  | with_reducible apply w_faug
  | with_reducible apply w_rAdd
  | with_reducible apply w_rSub
  | with_reducible apply w_make
  | with_reducible apply w_orT
  | with_reducible apply w_dgetd
  | with_reducible apply w_dgetk
  | with_reducible apply w_dsetd
  | ((with_reducible apply k_dgetd); (focus (walk_at "hp"; done)))
  | ((with_reducible apply k_dsetd); (focus (walk_at "hp"; done)))
  | walk_at "w3")
local macro_rules | `(tactic| walk_at "w3") => `(tactic| fail)
local macro_rules | `(tactic| walk_at "w3") => `(tactic| first
  | with_reducible apply w_mt
  | with_reducible apply w_makeX
  | ((with_reducible apply m_Kind); (focus (walk_at "hp"; done)); (focus (exact rfl)))
  | ((with_reducible apply g_Kind_joining); (focus (assumption; done)); (focus (walk_at "hp"; done)))
  | ((with_reducible apply g_Kind_none); (focus (assumption; done)); (focus (walk_at "hp"; done)))
  | ((with_reducible apply g_Kind_making); (focus (assumption; done)); (focus (walk_at "hp"; done)))
  | ((with_reducible apply g_Kind_word); (focus (assumption; done)); (focus (walk_at "hp"; done))))
def sp__law_kind (K : PySem.W.Frag) (L : Nat → Addr → LF) : Sp := fun vs H Q _ => ∃ (i : Nat) (S : Addr → Prop), vs = [.int (i : Nat)] ∧ i < 22 ∧ (∀ a, H a = none → S a) ∧ TabS H (KP K) KQ ∧ ∀ T H', Chg [KP K] H H' → TabS H' (KP K) KQ → KtAt K L S H' T (kj i) (kn i) (km i) → Q (.ref T) H'
def t__law_kind (K : PySem.W.Frag) (L : Nat → Addr → LmX.LF) : TS :=
    tSeq (tAsg (tLst (tCons (tTup (tCons (tLam (tabP K "_law_kind") "_law_kind.<locals>.<lambda>" (L 3)) (tCons (tC (.int 0)) (tCons (tC .non) (tNil))))) (tCons (tTup (tCons (tC (.ref (He.ga K "_law_lesser"))) (tCons (tC .non) (tCons (tC .non) (tNil))))) (tNil)))) (gName 1))
    (tSeq (tDrop (tBM K "list" rAppend (tVar 1) (tCons (tTup (tCons (tLam (tabP K "_law_kind") "_law_kind.<locals>.<lambda>" (L 4)) (tCons (tC .non) (tCons (tC .non) (tNil))))) (tNil))))
    (tSeq (tDrop (tBM K "list" rAppend (tVar 1) (tCons (tTup (tCons (tLam (tabP K "_law_kind") "_law_kind.<locals>.<lambda>" (L 5)) (tCons (tC (.str "")) (tCons (tLam (tabP K "_law_kind") "_law_kind.<locals>.<lambda>" (L 6)) (tNil))))) (tNil))))
    (tSeq (tDrop (tBM K "list" rAppend (tVar 1) (tCons (tTup (tCons (tC (.ref (He.ga K "_law_both"))) (tCons (tTup (tNil)) (tCons (tLam (tabP K "_law_kind") "_law_kind.<locals>.<lambda>" (L 7)) (tNil))))) (tNil))))
    (tSeq (tDrop (tBM K "list" rAppend (tVar 1) (tCons (tTup (tCons (tLam (tabP K "_law_kind") "_law_kind.<locals>.<lambda>" (L 8)) (tCons (tLst (tNil)) (tCons (tLam (tabP K "_law_kind") "_law_kind.<locals>.<lambda>" (L 9)) (tNil))))) (tNil))))
    (tSeq (tDrop (tBM K "list" rAppend (tVar 1) (tCons (tTup (tCons (tLam (tabP K "_law_kind") "_law_kind.<locals>.<lambda>" (L 10)) (tCons (tC (.int 1)) (tCons (tLam (tabP K "_law_kind") "_law_kind.<locals>.<lambda>" (L 11)) (tNil))))) (tNil))))
    (tSeq (tDrop (tBM K "list" rAppend (tVar 1) (tCons (tTup (tCons (tLam (tabP K "_law_kind") "_law_kind.<locals>.<lambda>" (L 12)) (tCons (tUn (rU fun i => .int (-i)) (tC (.int 1))) (tCons (tC .non) (tNil))))) (tNil))))
    (tSeq (tDrop (tBM K "list" rAppend (tVar 1) (tCons (tTup (tCons (tLam (tabP K "_law_kind") "_law_kind.<locals>.<lambda>" (L 13)) (tCons (tC (.str "")) (tCons (tLam (tabP K "_law_kind") "_law_kind.<locals>.<lambda>" (L 14)) (tNil))))) (tNil))))
    (tSeq (tDrop (tBM K "list" rAppend (tVar 1) (tCons (tTup (tCons (tLam (tabP K "_law_kind") "_law_kind.<locals>.<lambda>" (L 15)) (tCons (tC .non) (tCons (tLam (tabP K "_law_kind") "_law_kind.<locals>.<lambda>" (L 16)) (tNil))))) (tNil))))
    (tSeq (tDrop (tBM K "list" rAppend (tVar 1) (tCons (tTup (tCons (tLam (tabP K "_law_kind") "_law_kind.<locals>.<lambda>" (L 17)) (tCons (tC (.int 0)) (tCons (tC .non) (tNil))))) (tNil))))
    (tSeq (tDrop (tBM K "list" rAppend (tVar 1) (tCons (tTup (tCons (tC (.ref (He.ga K "_law_apart"))) (tCons (tC .non) (tCons (tC .non) (tNil))))) (tNil))))
    (tSeq (tDrop (tBM K "list" rAppend (tVar 1) (tCons (tTup (tCons (tLam (tabP K "_law_kind") "_law_kind.<locals>.<lambda>" (L 18)) (tCons (tC (.int 0)) (tCons (tC .non) (tNil))))) (tNil))))
    (tSeq (tDrop (tBM K "list" rAppend (tVar 1) (tCons (tTup (tCons (tLam (tabP K "_law_kind") "_law_kind.<locals>.<lambda>" (L 19)) (tCons (tC (.int 0)) (tCons (tLam (tabP K "_law_kind") "_law_kind.<locals>.<lambda>" (L 20)) (tNil))))) (tNil))))
    (tSeq (tDrop (tBM K "list" rAppend (tVar 1) (tCons (tTup (tCons (tLam (tabP K "_law_kind") "_law_kind.<locals>.<lambda>" (L 21)) (tCons (tC (.int 0)) (tCons (tC .non) (tNil))))) (tNil))))
    (tSeq (tDrop (tBM K "list" rAppend (tVar 1) (tCons (tTup (tCons (tLam (tabP K "_law_kind") "_law_kind.<locals>.<lambda>" (L 22)) (tCons (tC (.int 1)) (tCons (tC .non) (tNil))))) (tNil))))
    (tSeq (tDrop (tBM K "list" rAppend (tVar 1) (tCons (tTup (tCons (tLam (tabP K "_law_kind") "_law_kind.<locals>.<lambda>" (L 23)) (tCons (tC (.int 0)) (tCons (tC .non) (tNil))))) (tNil))))
    (tSeq (tDrop (tBM K "list" rAppend (tVar 1) (tCons (tTup (tCons (tLam (tabP K "_law_kind") "_law_kind.<locals>.<lambda>" (L 24)) (tCons (tC (.str "")) (tCons (tLam (tabP K "_law_kind") "_law_kind.<locals>.<lambda>" (L 25)) (tNil))))) (tNil))))
    (tSeq (tDrop (tBM K "list" rAppend (tVar 1) (tCons (tTup (tCons (tLam (tabP K "_law_kind") "_law_kind.<locals>.<lambda>" (L 26)) (tCons (tC .non) (tCons (tC .non) (tNil))))) (tNil))))
    (tSeq (tDrop (tBM K "list" rAppend (tVar 1) (tCons (tTup (tCons (tLam (tabP K "_law_kind") "_law_kind.<locals>.<lambda>" (L 27)) (tCons (tC .non) (tCons (tLam (tabP K "_law_kind") "_law_kind.<locals>.<lambda>" (L 28)) (tNil))))) (tNil))))
    (tSeq (tDrop (tBM K "list" rAppend (tVar 1) (tCons (tTup (tCons (tC (.ref (He.ga K "_law_left_none"))) (tCons (tC .non) (tCons (tC .non) (tNil))))) (tNil))))
    (tSeq (tDrop (tBM K "list" rAppend (tVar 1) (tCons (tTup (tCons (tLam (tabP K "_law_kind") "_law_kind.<locals>.<lambda>" (L 29)) (tCons (tC (.int 0)) (tCons (tLam (tabP K "_law_kind") "_law_kind.<locals>.<lambda>" (L 30)) (tNil))))) (tNil))))
    (tRet (tOp (rIxL K) (tVar 1) (tVar 0)))))))))))))))))))))))
theorem pure__law_kind {K : PySem.W.Frag} {L : Nat → Addr → LF} (lq : LQ L) (vs : List V) (H : Hp) (Q : VK) (E : XK) (hh : sp__law_kind K L vs H Q E) : t__law_kind K L (fin Q) (start ["at", "table"] vs) H := by
  obtain ⟨i, S, rfl, hi, fr, t0, q⟩ := hh
  show t__law_kind K L _ [some (.int (i : Nat)), none] H
  unfold t__law_kind
  refine kd_init (L := L) (evJ_lam lq (j := 3) (by decide) (by decide) (by decide)) (evN_int 0) evM_none (evJ_ref (f := He.ga K "_law_lesser") (jf := leD) (by simp [SFk])) evN_none evM_none fr t0 fun p Hp iv2 => ?_
  refine kd_app (L := L) (k := 2) (evJ_lam lq (j := 4) (by decide) (by decide) (by decide)) evN_none evM_none iv2 (by decide) fun G3 iv3 => ?_
  refine kd_app (L := L) (k := 3) (evJ_lam lq (j := 5) (by decide) (by decide) (by decide)) evN_str (evM_lam lq (j := 6) (by decide)) iv3 (by decide) fun G4 iv4 => ?_
  refine kd_app (L := L) (k := 4) (evJ_ref (f := He.ga K "_law_both") (jf := boD) (by simp [SFk])) evN_tup (evM_lam lq (j := 7) (by decide)) iv4 (by decide) fun G5 iv5 => ?_
  refine kd_app (L := L) (k := 5) (evJ_lam lq (j := 8) (by decide) (by decide) (by decide)) evN_lst (evM_lam lq (j := 9) (by decide)) iv5 (by decide) fun G6 iv6 => ?_
  refine kd_app (L := L) (k := 6) (evJ_lam lq (j := 10) (by decide) (by decide) (by decide)) (evN_int 1) (evM_lam lq (j := 11) (by decide)) iv6 (by decide) fun G7 iv7 => ?_
  refine kd_app (L := L) (k := 7) (evJ_lam lq (j := 12) (by decide) (by decide) (by decide)) evN_m1 evM_none iv7 (by decide) fun G8 iv8 => ?_
  refine kd_app (L := L) (k := 8) (evJ_lam lq (j := 13) (by decide) (by decide) (by decide)) evN_str (evM_lam lq (j := 14) (by decide)) iv8 (by decide) fun G9 iv9 => ?_
  refine kd_app (L := L) (k := 9) (evJ_lam lq (j := 15) (by decide) (by decide) (by decide)) evN_none (evM_lam lq (j := 16) (by decide)) iv9 (by decide) fun G10 iv10 => ?_
  refine kd_app (L := L) (k := 10) (evJ_lam lq (j := 17) (by decide) (by decide) (by decide)) (evN_int 0) evM_none iv10 (by decide) fun G11 iv11 => ?_
  refine kd_app (L := L) (k := 11) (evJ_ref (f := He.ga K "_law_apart") (jf := apD) (by simp [SFk])) evN_none evM_none iv11 (by decide) fun G12 iv12 => ?_
  refine kd_app (L := L) (k := 12) (evJ_lam lq (j := 18) (by decide) (by decide) (by decide)) (evN_int 0) evM_none iv12 (by decide) fun G13 iv13 => ?_
  refine kd_app (L := L) (k := 13) (evJ_lam lq (j := 19) (by decide) (by decide) (by decide)) (evN_int 0) (evM_lam lq (j := 20) (by decide)) iv13 (by decide) fun G14 iv14 => ?_
  refine kd_app (L := L) (k := 14) (evJ_lam lq (j := 21) (by decide) (by decide) (by decide)) (evN_int 0) evM_none iv14 (by decide) fun G15 iv15 => ?_
  refine kd_app (L := L) (k := 15) (evJ_lam lq (j := 22) (by decide) (by decide) (by decide)) (evN_int 1) evM_none iv15 (by decide) fun G16 iv16 => ?_
  refine kd_app (L := L) (k := 16) (evJ_lam lq (j := 23) (by decide) (by decide) (by decide)) (evN_int 0) evM_none iv16 (by decide) fun G17 iv17 => ?_
  refine kd_app (L := L) (k := 17) (evJ_lam lq (j := 24) (by decide) (by decide) (by decide)) evN_str (evM_lam lq (j := 25) (by decide)) iv17 (by decide) fun G18 iv18 => ?_
  refine kd_app (L := L) (k := 18) (evJ_lam lq (j := 26) (by decide) (by decide) (by decide)) evN_none evM_none iv18 (by decide) fun G19 iv19 => ?_
  refine kd_app (L := L) (k := 19) (evJ_lam lq (j := 27) (by decide) (by decide) (by decide)) evN_none (evM_lam lq (j := 28) (by decide)) iv19 (by decide) fun G20 iv20 => ?_
  refine kd_app (L := L) (k := 20) (evJ_ref (f := He.ga K "_law_left_none") (jf := lnD) (by simp [SFk])) evN_none evM_none iv20 (by decide) fun G21 iv21 => ?_
  refine kd_app (L := L) (k := 21) (evJ_lam lq (j := 29) (by decide) (by decide) (by decide)) (evN_int 0) (evM_lam lq (j := 30) (by decide)) iv21 (by decide) fun G22 iv22 => ?_
  obtain ⟨_, _, cE, tE, vs, hv, lv, en⟩ := iv22
  have hl : i < vs.length := by rw [lv]; exact hi
  have ex := List.getElem?_eq_getElem hl
  obtain ⟨T, eT, kt⟩ := en i _ ex
  have ea : atI vs ((i : Nat) : Int) = some (.ref T) := atI_nat (by rw [ex, eT])
  walk_at "w"
  exact q T G22 cE tE (kt.mono fun a z => z.1)
end Fg
namespace Fg
open PySem PySem.Spec PyProof.Rows L2 LamX LmX
local macro_rules | `(tactic| walk_at "hp") => `(tactic| first
  | assumption
  | exact upd_same
  | (refine Chg.at (by assumption) ?_; walk_at "hp")
  | (refine Chg.at1 (by assumption) ?_ (by walk_at "ne"); walk_at "hp"))
local macro_rules | `(tactic| walk_at "ne") => `(tactic| first | assumption | (apply Ne.symm; assumption))
local macro_rules | `(tactic| walk_at "sq") => `(tactic| first | assumption | exact sqL (by walk_at "hp") | (refine Chg.seq (by assumption) ?_; walk_at "sq"))
local macro_rules | `(tactic| walk_at "sz") => `(tactic| first | assumption | exact Nat.zero_le _ | (simp only [List.length_cons, List.length_nil]; decide) | exact Nat.le_trans (by first | omega | (simp; done) | (simp; omega)) (show 100000 ≤ sizeLine by decide) | exact Nat.lt_of_lt_of_le (by first | omega | (simp; done) | (simp; omega)) (show 100000 ≤ sizeLine by decide))
local macro_rules | `(tactic| walk_at "ix") => `(tactic| first | exact at0 | exact at1 | exact at2 | exact at3 | assumption | exact rfl | walk_at "ix2")
local macro_rules | `(tactic| walk_at "ix2") => `(tactic| fail)
local macro_rules | `(tactic| walk_at "num") => `(tactic| first | assumption | omega | decide | walk_at "num2")
local macro_rules | `(tactic| walk_at "num2") => `(tactic| fail)
local macro_rules | `(tactic| walk_at "im") => `(tactic| first | assumption | exact R.non (S := fun _ => False) | exact R.bl (S := fun _ => False) _ | exact R.int (S := fun _ => False) _ | exact R.str (S := fun _ => False) _ | (refine R.im (by assumption) ?_; walk_at "im"))
local macro_rules | `(tactic| walk_at "r") => `(tactic| first | assumption | exact R.non (S := fun _ => False) | exact R.bl (S := fun _ => False) _ | exact R.int (S := fun _ => False) _ | exact R.str (S := fun _ => False) _ | (refine R.same (by assumption) ?_; walk_at "r") | exact R.any (by walk_at "im"))
local macro_rules | `(tactic| walk_at "chg") => `(tactic| first
  | exact Chg.refl
  | assumption
  | (refine Chg.same ?_ (by assumption); walk_at "chg")
  | (refine Chg.both ?_ (by assumption); walk_at "chg")
  | (refine Chg.pre (by assumption) ?_; walk_at "chg"))
local macro_rules | `(tactic| walk_at "w1") => `(tactic| first
  | with_reducible apply w_seq
  | with_reducible apply w_asg
  | ((with_reducible apply w_var); (focus (exact rfl)))
  | with_reducible apply w_c
  | with_reducible apply w_op
  | with_reducible apply w_cons
  | with_reducible apply w_nil
  | with_reducible apply w_gName
  | with_reducible apply w_if
  | with_reducible apply w_test
  | with_reducible apply w_B
  | with_reducible apply w_isbl
  | with_reducible apply w_retN
  | with_reducible apply w_next
  | with_reducible apply w_drop
  | with_reducible apply w_cb
  | with_reducible apply w_call
  | with_reducible apply w_callN
  | with_reducible apply w_bm
  | with_reducible apply w_bm0
  | ((with_reducible apply w_tyL); (focus (walk_at "hp"; done)))
  | with_reducible apply w_dput
  | with_reducible apply w_m1
  | with_reducible apply w_isstr
  | with_reducible apply w_and
  | with_reducible apply w_or
  | with_reducible apply w_not
  | with_reducible apply w_andV
  | with_reducible apply w_orV
  | with_reducible apply w_notV
  | with_reducible apply w_ifE
  | with_reducible apply w_chain
  | with_reducible apply w_un
  | with_reducible apply w_neg
  | with_reducible apply w_add
  | with_reducible apply w_sub
  | ((with_reducible apply w_mod); (focus (walk_at "num"; done)))
  | ((with_reducible apply w_mul); (focus (walk_at "num"; done)))
  | ((with_reducible apply w_fdiv); (focus (walk_at "num"; done)))
  | ((with_reducible apply w_pow); (focus (walk_at "num"; done)))
  | with_reducible apply w_lt
  | with_reducible apply w_le
  | with_reducible apply w_gt
  | with_reducible apply w_ge
  | with_reducible apply w_ltS
  | with_reducible apply w_geS
  | with_reducible apply w_inC
  | with_reducible apply w_notInC
  | with_reducible apply w_isN
  | with_reducible apply w_notN
  | with_reducible apply w_isB
  | with_reducible apply w_notB
  | ((with_reducible apply w_addS); (focus (walk_at "sz"; done)))
  | ((with_reducible apply w_ixL); (focus (walk_at "sq"; done)); (focus (walk_at "ix"; done)))
  | ((with_reducible apply w_ixT); (focus (walk_at "hp"; done)); (focus (walk_at "ix"; done)))
  | ((with_reducible apply w_ixS); (focus (walk_at "sz"; done)); (focus (walk_at "ix"; done)))
  | with_reducible apply w_gSub
  | ((with_reducible apply w_gTup); (focus (walk_at "hp"; done)); (focus (exact rfl)))
  | with_reducible apply w_gCons
  | with_reducible apply w_gNil
  | ((with_reducible apply w_aug); (focus (exact rfl)))
  | with_reducible apply w_ipI
  | ((with_reducible apply w_eq); (focus (exact rfl)))
  | ((with_reducible apply w_ne); (focus (exact rfl)))
  | with_reducible apply w_max
  | with_reducible apply w_min
  | with_reducible apply w_abs
  | with_reducible apply w_intB
  | with_reducible apply w_intI
  | with_reducible apply w_tup1
  | with_reducible apply w_lst1
  | with_reducible apply w_sl
  | with_reducible apply w_part
  | with_reducible apply w_noPart
  | with_reducible apply w_isint
  | ((with_reducible apply w_slS); (focus (walk_at "sz"; done)))
  | with_reducible apply w_iteT
  | with_reducible apply w_iteF
  | with_reducible apply w_iteN
  | ((with_reducible apply w_iteYes); (focus (exact rfl)))
  | ((with_reducible apply w_iteNo); (focus (exact rfl)))
  | ((with_reducible apply w_lenL); (focus (walk_at "sq"; done)))
  | ((with_reducible apply w_lenT); (focus (walk_at "hp"; done)))
  | ((with_reducible apply w_lenS); (focus (walk_at "sz"; done)))
  | with_reducible apply w_lc
  | with_reducible apply w_for
  | with_reducible apply w_yes
  | ((with_reducible apply w_wipe); (focus (exact rfl)))
  | with_reducible apply w_iList
  | with_reducible apply w_iTup
  | with_reducible apply w_iStr
  | with_reducible apply w_iRng1
  | with_reducible apply w_iRng2
  | with_reducible apply w_iZip
  | with_reducible apply w_iEnum
  | ((with_reducible apply d_iList); (focus (walk_at "sq"; done)))
  | ((with_reducible apply d_iTup); (focus (walk_at "hp"; done)))
  | with_reducible apply d_iStr
  | ((with_reducible apply d_iRng1); (focus (walk_at "num"; done)); (focus (walk_at "num"; done)))
  | ((with_reducible apply d_iRng2); (focus (walk_at "num"; done)); (focus (walk_at "num"; done)); (focus (walk_at "num"; done)); (focus (walk_at "num"; done)))
  | ((with_reducible apply d_iZip); (focus (walk_at "sq"; done)); (focus (walk_at "sq"; done)))
  | ((with_reducible apply d_iEnum); (focus (walk_at "sq"; done)))
  | walk_at "w2")
local macro_rules | `(tactic| walk_at "w2") => `(tactic| fail)
local macro_rules | `(tactic| walk_at "wn") => `(tactic| repeat walk_at "w1")
local macro_rules | `(tactic| walk_at "w") => `(tactic| repeat (first | walk_at "w1" | with_reducible apply w_ret))
local macro_rules | `(tactic| walk_at "w2") => `(tactic| first
  | ((with_reducible apply w_isInt); (focus (walk_at "r"; done)))
  | ((with_reducible apply w_isBool); (focus (walk_at "r"; done)))
  | ((with_reducible apply w_isStr); (focus (walk_at "r"; done)))
  | ((with_reducible apply w_isTup); (focus (walk_at "r"; done)))
  | ((with_reducible apply w_isLst); (focus (walk_at "r"; done)))
  | with_reducible apply w_fld
  | with_reducible apply w_sfld
  | with_reducible apply w_faug
  | with_reducible apply w_rAdd
  | with_reducible apply w_rSub
  | with_reducible apply w_make
  | with_reducible apply w_orT
  | with_reducible apply w_dgetd
  | with_reducible apply w_dgetk
  | with_reducible apply w_dsetd
  | ((with_reducible apply k_dgetd); (focus (walk_at "hp"; done)))
  | ((with_reducible apply k_dsetd); (focus (walk_at "hp"; done)))
  | walk_at "w3")
local macro_rules | `(tactic| walk_at "w3") => `(tactic| fail)
local macro_rules | `(tactic| walk_at "w3") => `(tactic| first
  | with_reducible apply w_mt
  | with_reducible apply w_makeX
  | ((with_reducible apply m_Kind); (focus (walk_at "hp"; done)); (focus (exact rfl)))
  | ((with_reducible apply g_Kind_joining); (focus (assumption; done)); (focus (walk_at "hp"; done)))
  | ((with_reducible apply g_Kind_none); (focus (assumption; done)); (focus (walk_at "hp"; done)))
  | ((with_reducible apply g_Kind_making); (focus (assumption; done)); (focus (walk_at "hp"; done)))
  | ((with_reducible apply g_Kind_word); (focus (assumption; done)); (focus (walk_at "hp"; done))))
def Sm (n : Int) : Prop := n.natAbs < 10 ^ 21
def sp__law_row : Sp := fun vs H Q _ => ∃ (b : Addr) (most n : Nat), vs = [.ref b, .int (most : Nat)] ∧ most ≤ 40 ∧ Bag H b n ∧ 100 ≤ n ∧ ∀ (p : Addr) (ns : List Int) (H' : Hp), H p = none → Chg [b] H H' → Bag H' b (n - 100) → H' p = some (.lst (ns.map V.int)) → ns.length ≤ most → (∀ x ∈ ns, Sm x) → Q (.ref p) H'
def t__law_row (K : PySem.W.Frag) : TS :=
    tSeq (tAsg (tOp (rIxL K) (tLst (tCons (tC (.int 3)) (tCons (tC (.int 8)) (tCons (tOp oPow (tC (.int 10)) (tC (.int 20))) (tNil))))) (tCall sp__law_draw [] E0 (tCons (tVar 0) (tCons (tC (.int 3)) (tNil))))) (gName 2))
    (tRet (tLc (iRng1 (tCons (tCall sp__law_draw [] E0 (tCons (tVar 0) (tCons (tOp oAdd (tVar 1) (tC (.int 1))) (tNil)))) (tNil))) (gName 3) (tYes) (tOp oMul (tCall sp__law_draw [] E0 (tCons (tVar 0) (tCons (tVar 2) (tNil)))) (tOp (rIxL K) (tLst (tCons (tC (.int 1)) (tCons (tC (.int 1)) (tCons (tUn (rU fun i => .int (-i)) (tC (.int 1))) (tNil))))) (tCall sp__law_draw [] E0 (tCons (tVar 0) (tCons (tC (.int 3)) (tNil)))))) [3]))
theorem ints_of {vs : List V} (h : ∀ (i : Nat) (y : V), vs[i]? = some y → ∃ n : Int, y = .int n ∧ Sm n) : ∃ ns : List Int, vs = ns.map V.int ∧ ∀ x ∈ ns, Sm x := by
  induction vs with
  | nil => exact ⟨[], rfl, fun x hx => by cases hx⟩
  | cons v r ih =>
    obtain ⟨n, rfl, hn⟩ := h 0 v rfl
    obtain ⟨ns, rfl, hs⟩ := ih fun i y e => h (i + 1) y e
    exact ⟨n :: ns, rfl, fun x hx => (List.mem_cons.mp hx).elim (fun e => e ▸ hn) (hs x)⟩
theorem pure__law_row {K : PySem.W.Frag} (vs : List V) (H : Hp) (Q : VK) (E : XK) (hh : sp__law_row vs H Q E) : t__law_row K (fin Q) (start ["bag", "most", "few", "k"] vs) H := by
  obtain ⟨b, most, n, rfl, hm, bag, hn, q⟩ := hh
  show t__law_row K _ [some (.ref b), some (.int (most : Nat)), none, none] H
  unfold t__law_row
  walk_at "w"
  refine w_pow (cpow 4 (by decide) (by decide) (by decide)) ?_
  walk_at "w"
  refine k_lst (by walk_at "sz") fun p H2 np c2 hp => ?_
  walk_at "w"
  refine u_draw (bag.same c2) (by omega) (by decide) (by decide) fun v H3 c3 bag3 v0 v1 => ?_
  obtain ⟨x, ex, hx⟩ := atD (xs := [V.int 3, V.int 8, V.int (10 ^ Int.toNat 20)]) v0 v1
  have hx' : ∃ m : Int, x = .int m ∧ 0 < m ∧ m ≤ 10 ^ 20 := by
    simp only [List.mem_cons, List.not_mem_nil, or_false] at hx
    rcases hx with rfl | rfl | rfl
    · exact ⟨_, rfl, by decide, by decide⟩
    · exact ⟨_, rfl, by decide, by decide⟩
    · exact ⟨_, rfl, by decide, by decide⟩
  obtain ⟨m, rfl, m0, m1⟩ := hx'
  have pb : p ≠ b := fun e => bag.some (by rw [← e]; exact np)
  have hp3 := c3.at1 hp pb
  have c03 := c2.pre c3
  walk_at "w"
  refine u_draw bag3 (by omega) (by omega) (by omega) fun w H4 c4 bag4 w0 w1 => ?_
  walk_at "w"
  try refine d_iRng1 (j := w) (by omega) (by omega) ?_
  have b4 := bag4.some
  refine w_lcP walk_range [b] (fun i H => Bag H b (n - 2 - 2 * i)) (fun i y H => ∃ z : Int, y = .int z ∧ Sm z) (bag4.le (by omega)) (fun i H1 H2 p np c h => h.one c (fun z => b4 (by rw [z]; exact np))) (fun _ _ => trivial) (fun D i acc z H5 H6 hi nD hD el iv c5 bag5 y => ?_) (fun D acc H5 nD c5 bag5 el hD ys => ?_)
  · obtain ⟨rfl, rfl⟩ := y
    walk_at "w"
    refine u_draw bag5 (by omega) m0 (by omega) fun u H7 c7 bag7 u0 u1 => ?_
    walk_at "w"
    refine k_lst (by walk_at "sz") fun p8 H8 np8 c8 hp8 => ?_
    walk_at "w"
    refine u_draw (bag7.same c8) (by omega) (by decide) (by decide) fun r H9 c9 bag9 r0 r1 => ?_
    obtain ⟨x, ex, hx⟩ := atD (xs := [V.int 1, V.int 1, V.int (-1)]) r0 r1
    have hx' : ∃ e : Int, x = .int e ∧ (e = 1 ∨ e = -1) := by
      simp only [List.mem_cons, List.not_mem_nil, or_false] at hx
      rcases hx with rfl | rfl | rfl
      · exact ⟨_, rfl, .inl rfl⟩
      · exact ⟨_, rfl, .inl rfl⟩
      · exact ⟨_, rfl, .inr rfl⟩
    obtain ⟨e, rfl, he⟩ := hx'
    have p8b : p8 ≠ b := fun e => bag7.some (by rw [← e]; exact np8)
    have hp9 := c9.at1 hp8 p8b
    walk_at "w"
    refine w_mul (.inr (by omega)) ?_
    exact lcp_end (fun i H1 H2 p np c h => h.one c (fun z => b4 (by rw [z]; exact np))) (fun _ _ _ _ _ _ _ h => h) nD (fun a ha => by rw [List.mem_singleton.mp ha]; exact b4) hD el (by omega) iv ((c7.same c8).both c9) (bag9.le (by omega)) ⟨_, rfl, by
      unfold Sm
      rcases he with rfl | rfl <;> omega⟩
  · obtain ⟨ns, rfl, hs⟩ := ints_of ys
    walk_at "w"
    rw [List.length_map] at el
    refine q D ns H5 (c2.dom D (c3.dom D (c4.dom D nD))) (((c03.both c4).both c5)) (bag5.le (by omega)) hD (by omega) hs
end Fg
namespace Fg
open PySem PySem.Spec PyProof.Rows L2 LamX LmX
structure SemK (W : Nat → PyData → Prop) (jf : PyData → PyData → Option PyData) (nd : PyData) (mf : Int → Option PyData) : Prop where
  no : W 1 nd
  mr : ∀ n, Sm n → ∃ d, mf n = some d ∧ W 1 d
  jn : ∀ a b x y, a + b ≤ 2200 → W a x → W b y → ∃ d, jf x y = some d ∧ W (a + b) d
  ok : ∀ a x, W a x → noDic x = true ∧ x.depth ≤ 60
section
variable {W : Nat → PyData → Prop} {jf : PyData → PyData → Option PyData} {nd : PyData} {mf : Int → Option PyData}
theorem SemK.fold (h : SemK W jf nd mf) : ∀ (ns : List Int) (a : Nat) (x : PyData), a + ns.length ≤ 2200 → W a x → (∀ n ∈ ns, Sm n) → ∃ d, foldD jf mf x ns = some d ∧ W (a + ns.length) d
  | [], a, x, _, w, _ => ⟨x, rfl, w⟩
  | n :: r, a, x, hl, w, hs => by
    rw [List.length_cons] at hl
    obtain ⟨m, em, wm⟩ := h.mr n (hs n List.mem_cons_self)
    obtain ⟨y, ey, wy⟩ := h.jn a 1 x m (by omega) w wm
    obtain ⟨d, ed, wd⟩ := h.fold r (a + 1) y (by omega) wy fun k hk => hs k (List.mem_cons_of_mem _ hk)
    refine ⟨d, ?_, by rw [List.length_cons, show a + (r.length + 1) = a + 1 + r.length by omega]; exact wd⟩
    show (mf n).bind (fun m => (jf x m).bind fun y => foldD jf mf y r) = some d
    rw [em]
    show (jf x m).bind (fun y => foldD jf mf y r) = some d
    rw [ey]
    exact ed
theorem SemK.str (h : SemK W jf nd mf) {ns : List Int} (h0 : ns ≠ []) (hl : ns.length ≤ 2200) (hs : ∀ n ∈ ns, Sm n) : ∃ d, strD jf mf ns = some d ∧ W ns.length d := by
  cases ns with
  | nil => exact absurd rfl h0
  | cons n r =>
    obtain ⟨m, em, wm⟩ := h.mr n (hs n List.mem_cons_self)
    rw [List.length_cons] at hl
    obtain ⟨d, ed, wd⟩ := h.fold r 1 m (by omega) wm fun k hk => hs k (List.mem_cons_of_mem _ hk)
    refine ⟨d, ?_, by rw [List.length_cons, Nat.add_comm]; exact wd⟩
    show (mf n).bind (fun m => foldD jf mf m r) = some d
    rw [em]
    exact ed
def sli (ns : List Int) (i l : Nat) : List Int := (ns.take l).drop i
theorem sli_len {ns : List Int} {i l : Nat} (h : l ≤ ns.length) : (sli ns i l).length = l - i := by
  unfold sli
  rw [List.length_drop, List.length_take]
  omega
theorem sli_one {ns : List Int} {i : Nat} (h : i < ns.length) : sli ns i (i + 1) = [ns[i]] := by
  unfold sli
  have hl : (ns.take i).length = i := by rw [List.length_take]; omega
  rw [List.take_succ_eq_append_getElem h, List.drop_append_of_le_length (by rw [hl]; exact Nat.le_refl i), List.drop_of_length_le (Nat.le_of_eq hl)]
  rfl
theorem sli_snoc {ns : List Int} {i l : Nat} (h : l < ns.length) (hi : i ≤ l) : sli ns i (l + 1) = sli ns i l ++ [ns[l]] := by
  unfold sli
  have hl : i ≤ (ns.take l).length := by rw [List.length_take]; omega
  rw [List.take_succ_eq_append_getElem h, List.drop_append_of_le_length hl]
theorem sli_mem {ns : List Int} {i l : Nat} {n : Int} (h : n ∈ sli ns i l) : n ∈ ns := List.mem_of_mem_take (List.mem_of_mem_drop h)
/-- the stretches -/
def fsD (jf : PyData → PyData → Option PyData) (mf : Int → Option PyData) (ns : List Int) (i l : Nat) : PyData := (strD jf mf (sli ns i l)).getD .none
def ebD (jf : PyData → PyData → Option PyData) (nd : PyData) (mf : Int → Option PyData) (ns : List Int) (i l : Nat) : Bool := (errD jf nd (fsD jf mf ns i l)).getD false
def tbD (jf : PyData → PyData → Option PyData) (mf : Int → Option PyData) (ns : List Int) (i j l : Nat) : Bool := !(((jf (fsD jf mf ns i j) (fsD jf mf ns j l)).bind fun d => eqD d (fsD jf mf ns i l)).getD true)
def b0D (jf : PyData → PyData → Option PyData) (nd : PyData) : Bool := (errD jf nd nd).getD false
theorem SemK.fs (h : SemK W jf nd mf) {ns : List Int} (hl : ns.length ≤ 40) (hs : ∀ n ∈ ns, Sm n) {i l : Nat} (h1 : i < l) (h2 : l ≤ ns.length) : strD jf mf (sli ns i l) = some (fsD jf mf ns i l) ∧ W (l - i) (fsD jf mf ns i l) := by
  have hn := sli_len (i := i) h2
  obtain ⟨d, e, w⟩ := h.str (ns := sli ns i l) (fun z => by rw [z] at hn; simp at hn; omega) (by omega) fun n hn => hs n (sli_mem hn)
  unfold fsD
  rw [e]
  refine ⟨rfl, ?_⟩
  rw [hn] at w
  exact w
theorem eqD_some {x y : PyData} (h1 : noDic x = true) (h2 : noDic y = true) (h3 : x.depth ≤ 60) : eqD x y = some (PyData.eqv x y) := by
  unfold eqD
  rw [if_pos ⟨h1, h2, by omega⟩]
theorem SemK.err (h : SemK W jf nd mf) {a : Nat} {x : PyData} (ha : a ≤ 100) (w : W a x) : ∃ b, errD jf nd x = some b := by
  obtain ⟨p, ep, wp⟩ := h.jn 1 a nd x (by omega) h.no w
  obtain ⟨q, eq, wq⟩ := h.jn a 1 x nd (by omega) w h.no
  obtain ⟨o1, o2⟩ := h.ok _ _ w
  obtain ⟨o3, o4⟩ := h.ok _ _ wp
  obtain ⟨o5, o6⟩ := h.ok _ _ wq
  unfold errD
  rw [ep]
  show ∃ b, ((eqD p x).bind fun b => if b = true then (jf x nd).bind fun q => (eqD q x).map (fun c => !c) else some true) = some b
  rw [eqD_some o3 o1 o4]
  show ∃ b, (if PyData.eqv p x = true then (jf x nd).bind fun q => (eqD q x).map (fun c => !c) else some true) = some b
  by_cases e : PyData.eqv p x = true
  · rw [if_pos e, eq]
    show ∃ b, (eqD q x).map (fun c => !c) = some b
    rw [eqD_some o5 o1 o6]
    exact ⟨_, rfl⟩
  · rw [if_neg e]
    exact ⟨_, rfl⟩
theorem SemK.grp (h : SemK W jf nd mf) {ns : List Int} (hl : ns.length ≤ 40) (hs : ∀ n ∈ ns, Sm n) : GrpOk jf nd mf ns (fsD jf mf ns) (b0D jf nd) (ebD jf nd mf ns) (tbD jf mf ns) where
  so := {
    one := fun i hi => by
      have e := (h.fs hl hs (i := i) (l := i + 1) (by omega) hi).1
      rw [sli_one hi] at e
      have e : (mf ns[i]).bind (fun m => some m) = some (fsD jf mf ns i (i + 1)) := e
      cases em : mf ns[i] with
      | none => rw [em] at e; cases e
      | some m => rw [em] at e; exact e
    more := fun i l hl2 hil => by
      have e := (h.fs hl hs (i := i) (l := l + 1) (by omega) hl2).1
      obtain ⟨e0, w0⟩ := h.fs hl hs (i := i) (l := l) hil (by omega)
      obtain ⟨m, em, wm⟩ := h.mr ns[l] (hs _ (List.getElem_mem hl2))
      obtain ⟨d, ed, wd⟩ := h.jn (l - i) 1 _ m (by omega) w0 wm
      refine ⟨m, em, ?_⟩
      rw [ed]
      rw [sli_snoc hl2 (by omega)] at e
      rw [← e]
      generalize hx : sli ns i l = xs at *
      cases xs with
      | nil => cases e0
      | cons k r =>
        have e0 : ((mf k).bind fun m => foldD jf mf m r) = some (fsD jf mf ns i l) := e0
        show _ = (mf k).bind (fun m => foldD jf mf m (r ++ [ns[l]]))
        cases ek : mf k with
        | none => rw [ek] at e0; cases e0
        | some m0 =>
          rw [ek] at e0
          exact (foldD_snoc e0 em ed).symm }
  e0 := by
    obtain ⟨b, e⟩ := h.err (a := 1) (by omega) h.no
    unfold b0D
    rw [e]
    rfl
  es := fun i l h1 h2 => by
    obtain ⟨b, e⟩ := h.err (a := l - i) (by omega) (h.fs hl hs h1 h2).2
    unfold ebD
    rw [e]
    rfl
  ts := fun i j l h1 h2 h3 => by
    have w1 := (h.fs hl hs (i := i) (l := j) h1 (by omega)).2
    have w2 := (h.fs hl hs (i := j) (l := l) h2 h3).2
    have w3 := (h.fs hl hs (i := i) (l := l) (by omega) h3).2
    obtain ⟨d, ed, wd⟩ := h.jn _ _ _ _ (by omega) w1 w2
    obtain ⟨o1, o2⟩ := h.ok _ _ wd
    obtain ⟨o3, o4⟩ := h.ok _ _ w3
    refine ⟨d, _, ed, eqD_some o1 o3 o2, ?_⟩
    unfold tbD
    rw [ed]
    show (!((eqD d (fsD jf mf ns i l)).getD true)) = _
    rw [eqD_some o1 o3 o2]
    rfl
end
end Fg
namespace Fg
open PySem PySem.Spec PyProof.Rows L2 LamX LmX
def WI (_ : Nat) (x : PyData) : Prop := ∃ i : Int, x = .int i
def W7 (_ : Nat) (x : PyData) : Prop := ∃ i : Int, x = .int i ∧ 0 ≤ i ∧ i < 7
def WS (a : Nat) (x : PyData) : Prop := ∃ s : Str, x = .str s ∧ s.length ≤ 40 * a
def WO (_ : Nat) (x : PyData) : Prop := x = .none ∨ ∃ i : Int, x = .int i
def WL (a : Nat) (x : PyData) : Prop := ∃ ns : List Int, x = .list (ns.map PyData.int) ∧ ns.length ≤ a
section
variable {jf : PyData → PyData → Option PyData} {nd : PyData} {mf : Int → Option PyData}
theorem semI (h0 : ∃ i : Int, nd = .int i) (hm : ∀ n, Sm n → ∃ m : Int, mf n = some (.int m)) (hj : ∀ a b : Int, ∃ c : Int, jf (.int a) (.int b) = some (.int c)) : SemK WI jf nd mf where
  no := h0
  mr := fun n h => by obtain ⟨m, e⟩ := hm n h; exact ⟨_, e, m, rfl⟩
  jn := fun _ _ x y _ hx hy => by
    obtain ⟨i, rfl⟩ := hx
    obtain ⟨j, rfl⟩ := hy
    obtain ⟨c, e⟩ := hj i j
    exact ⟨_, e, c, rfl⟩
  ok := fun _ x hx => by obtain ⟨i, rfl⟩ := hx; exact ⟨rfl, (by decide : 0 ≤ 60)⟩
theorem semO (h0 : WO 1 nd) (hm : ∀ n, Sm n → ∃ d, mf n = some d ∧ WO 1 d) (hj : ∀ x y, WO 1 x → WO 1 y → ∃ d, jf x y = some d ∧ WO 1 d) : SemK WO jf nd mf where
  no := h0
  mr := hm
  jn := fun _ _ x y _ hx hy => hj x y hx hy
  ok := fun _ x hx => by rcases hx with rfl | ⟨i, rfl⟩ <;> exact ⟨rfl, (by decide : 0 ≤ 60)⟩
theorem semS (h0 : nd = .str (Str.ofString "")) (hm : ∀ n, Sm n → ∃ s : Str, mf n = some (.str s) ∧ s.length ≤ 40) (hj : ∀ a b : Str, a.length + b.length ≤ 90000 → ∃ c : Str, jf (.str a) (.str b) = some (.str c) ∧ c.length ≤ a.length + b.length) : SemK WS jf nd mf where
  no := ⟨_, h0, by decide⟩
  mr := fun n h => by obtain ⟨s, e, l⟩ := hm n h; exact ⟨_, e, s, rfl, by omega⟩
  jn := fun a b x y h hx hy => by
    obtain ⟨s, rfl, l1⟩ := hx
    obtain ⟨t, rfl, l2⟩ := hy
    obtain ⟨c, e, l⟩ := hj s t (by omega)
    exact ⟨_, e, c, rfl, by omega⟩
  ok := fun _ x hx => by obtain ⟨s, rfl, _⟩ := hx; exact ⟨rfl, (by decide : 0 ≤ 60)⟩
theorem sm30 {n : Int} (h : Sm n) : n.natAbs < 10 ^ 30 := Nat.lt_trans h (by decide)
theorem mkD_s {j : Nat} {n : Int} (h : Sm n) : mkD j n = mkD0 j n := by
  unfold mkD
  rw [if_pos (sm30 h)]
theorem s2_s (f : Str → Str → Str) {a b : Str} (h : a.length + b.length ≤ 90000) : s2 f (.str a) (.str b) = some (.str (f a b)) := by
  show (if a.length + b.length ≤ 90000 then some (PyData.str (f a b)) else none) = _
  rw [if_pos h]
theorem text32 {n : Int} (h : n.natAbs < 10 ^ 30) : (Str.empty ++ Str.ofString (toString n) ++ Str.ofString ";").length ≤ 40 := by
  have e0 : Str.empty.length = 0 := rfl
  have e1 : (Str.ofString ";").length = 1 := rfl
  have := len_text h
  rw [len_append, len_append]
  omega
theorem idI : ∀ n, Sm n → ∃ m : Int, idD n = some (.int m) := fun n _ => ⟨n, rfl⟩
theorem idO : ∀ n, Sm n → ∃ d, idD n = some d ∧ WO 1 d := fun n _ => ⟨_, rfl, .inr ⟨n, rfl⟩⟩
theorem latO {x y : PyData} (hx : WO 1 x) (hy : WO 1 y) : ∃ d, lat2 x y = some d ∧ WO 1 d := by
  rcases hx with rfl | ⟨i, rfl⟩ <;> rcases hy with rfl | ⟨j, rfl⟩
  · exact ⟨_, rfl, .inl rfl⟩
  · exact ⟨_, rfl, .inr ⟨j, rfl⟩⟩
  · exact ⟨_, rfl, .inr ⟨i, rfl⟩⟩
  · exact ⟨_, rfl, .inr ⟨j, rfl⟩⟩
theorem depthAll_ints : ∀ ns : List Int, PyData.depthAll (ns.map PyData.int) = 0
  | [] => rfl
  | n :: r => by
    show max (PyData.depth (.int n)) (PyData.depthAll (r.map PyData.int)) = 0
    rw [depthAll_ints r]
    rfl
theorem semL : SemK WL (jnD 8) (.list []) (mkD 9) where
  no := ⟨[], rfl, by decide⟩
  mr := fun n h => ⟨_, mkD_s h, [n], rfl, by simp⟩
  jn := fun a b x y h hx hy => by
    obtain ⟨ns, rfl, l1⟩ := hx
    obtain ⟨ms, rfl, l2⟩ := hy
    refine ⟨_, ?_, ns ++ ms, rfl, by rw [List.length_append]; omega⟩
    show (if (ns.map PyData.int).length + (ms.map PyData.int).length ≤ 90000 then some (PyData.list (ns.map PyData.int ++ ms.map PyData.int)) else none) = _
    rw [if_pos (by rw [List.length_map, List.length_map]; omega), List.map_append]
  ok := fun _ x hx => by
    obtain ⟨ns, rfl, _⟩ := hx
    refine ⟨noDics_of fun d hd => by obtain ⟨i, _, rfl⟩ := List.mem_map.mp hd; rfl, ?_⟩
    show PyData.depthAll (ns.map PyData.int) + 1 ≤ 60
    rw [depthAll_ints]
    decide
theorem sem7 : SemK W7 (jnD 10) (.int 1) (mkD 11) where
  no := ⟨1, rfl, by decide, by decide⟩
  mr := fun n h => ⟨_, mkD_s h, n % 7, rfl, Int.emod_nonneg _ (by decide), Int.emod_lt_of_pos _ (by decide)⟩
  jn := fun _ _ x y _ hx hy => by
    obtain ⟨i, rfl, h1, h2⟩ := hx
    obtain ⟨j, rfl, h3, h4⟩ := hy
    refine ⟨_, ?_, i * j % 7, rfl, Int.emod_nonneg _ (by decide), Int.emod_lt_of_pos _ (by decide)⟩
    show (if (0 ≤ i ∧ i < 7) ∧ (0 ≤ j ∧ j < 7) then some (PyData.int (i * j % 7)) else none) = _
    rw [if_pos ⟨⟨h1, h2⟩, ⟨h3, h4⟩⟩]
  ok := fun _ x hx => by obtain ⟨i, rfl, _⟩ := hx; exact ⟨rfl, (by decide : 0 ≤ 60)⟩
end
end Fg
namespace Fg
open PySem PySem.Spec PyProof.Rows L2 LamX LmX
structure AscK (W : Nat → PyData → Prop) (jf : PyData → PyData → Option PyData) (nd : PyData) : Prop where
  il : ∀ a x, a ≤ 1900 → W a x → jf nd x = some x
  ir : ∀ a x, a ≤ 1900 → W a x → jf x nd = some x
  asc : ∀ a b c x y z p q, a + b + c ≤ 2200 → W a x → W b y → W c z → jf x y = some p → jf y z = some q → jf p z = jf x q
section
variable {W : Nat → PyData → Prop} {jf : PyData → PyData → Option PyData} {nd : PyData} {mf : Int → Option PyData}
theorem AscK.err (s : SemK W jf nd mf) (h : AscK W jf nd) {a : Nat} {x : PyData} (ha : a ≤ 1900) (w : W a x) : errD jf nd x = some false := by
  obtain ⟨o1, o2⟩ := s.ok _ _ w
  have e : eqD x x = some true := by rw [eqD_some o1 o1 o2, eqv_self x o1]
  unfold errD
  rw [h.il a x ha w]
  show ((eqD x x).bind fun b => if b = true then (jf x nd).bind fun q => (eqD q x).map (fun c => !c) else some true) = some false
  rw [e]
  show (if true = true then (jf x nd).bind fun q => (eqD q x).map (fun c => !c) else some true) = some false
  rw [if_pos rfl, h.ir a x ha w]
  show (eqD x x).map (fun c => !c) = some false
  rw [e]
  rfl
theorem AscK.app (s : SemK W jf nd mf) (h : AscK W jf nd) : ∀ (r : List Int) (a b : Nat) (x m y d : PyData), a + b + r.length ≤ 1900 → W a x → W b m → (∀ n ∈ r, Sm n) → jf x m = some y → foldD jf mf m r = some d → foldD jf mf y r = jf x d
  | [], a, b, x, m, y, d, _, wx, wm, _, ey, ed => by cases ed; exact ey.symm
  | n :: r, a, b, x, m, y, d, hl, wx, wm, hs, ey, ed => by
    rw [List.length_cons] at hl
    obtain ⟨k, q, ek, eq, er⟩ := foldD_cons ed
    obtain ⟨k', ek', wk⟩ := s.mr n (hs n List.mem_cons_self)
    rw [ek] at ek'
    cases ek'
    obtain ⟨q', eq', wq⟩ := s.jn b 1 m k (by omega) wm wk
    rw [eq] at eq'
    cases eq'
    obtain ⟨y', ey', wy⟩ := s.jn a b x m (by omega) wx wm
    rw [ey] at ey'
    cases ey'
    obtain ⟨z, ez, wz⟩ := s.jn (a + b) 1 y k (by omega) wy wk
    have e1 : jf x q = some z := by rw [← h.asc a b 1 x m k y q (by omega) wx wm wk ey eq, ez]
    show (mf n).bind (fun m => (jf y m).bind fun y => foldD jf mf y r) = jf x d
    rw [ek]
    show (jf y k).bind (fun y => foldD jf mf y r) = jf x d
    rw [ez]
    exact h.app s r a (b + 1) x q z d (by omega) wx wq (fun n hn => hs n (List.mem_cons_of_mem _ hn)) e1 er
theorem AscK.join (s : SemK W jf nd mf) (h : AscK W jf nd) {ns : List Int} (hl : ns.length ≤ 40) (hs : ∀ n ∈ ns, Sm n) {i j l : Nat} (h1 : i < j) (h2 : j < l) (h3 : l ≤ ns.length) : jf (fsD jf mf ns i j) (fsD jf mf ns j l) = some (fsD jf mf ns i l) := by
  obtain ⟨e1, w1⟩ := s.fs hl hs (i := i) (l := j) h1 (by omega)
  obtain ⟨e2, w2⟩ := s.fs hl hs (i := j) (l := l) h2 h3
  obtain ⟨e3, w3⟩ := s.fs hl hs (i := i) (l := l) (by omega) h3
  have el : sli ns i l = sli ns i j ++ sli ns j l := by
    unfold sli
    have e4 : ns.take l = ns.take j ++ (ns.take l).drop j := by
      have := List.take_append_drop j (ns.take l)
      rw [List.take_take, Nat.min_eq_left (by omega)] at this
      exact this.symm
    have hj : i ≤ (ns.take j).length := by rw [List.length_take]; omega
    conv => lhs; rw [e4]
    rw [List.drop_append_of_le_length hj]
  have n2 := sli_len (i := j) h3
  have n1 := sli_len (ns := ns) (i := i) (l := j) (by omega)
  have s1 : ∀ n ∈ sli ns i j, Sm n := fun n hn => hs n (sli_mem hn)
  have s2 : ∀ n ∈ sli ns j l, Sm n := fun n hn => hs n (sli_mem hn)
  rw [el] at e3
  rw [← e3]
  generalize sli ns i j = u at *
  generalize sli ns j l = v at *
  generalize fsD jf mf ns i j = a at *
  generalize fsD jf mf ns j l = b at *
  cases u with
  | nil => cases e1
  | cons n r =>
  cases v with
  | nil => cases e2
  | cons k t =>
    have e1 : ((mf n).bind fun m => foldD jf mf m r) = some a := e1
    have e2 : ((mf k).bind fun m => foldD jf mf m t) = some b := e2
    obtain ⟨mk, ek, wk⟩ := s.mr k (s2 k List.mem_cons_self)
    rw [ek] at e2
    have e2 : foldD jf mf mk t = some b := e2
    have happ : ∀ (r : List Int) (x y : PyData), foldD jf mf x r = some y → foldD jf mf x (r ++ k :: t) = foldD jf mf y (k :: t) := by
      intro r
      induction r with
      | nil => intro x y e; cases e; rfl
      | cons c r ih =>
        intro x y e
        obtain ⟨m1, y1, f1, f2, f3⟩ := foldD_cons e
        show (mf c).bind (fun m => (jf x m).bind fun y => foldD jf mf y (r ++ k :: t)) = _
        rw [f1]
        show (jf x m1).bind (fun y => foldD jf mf y (r ++ k :: t)) = _
        rw [f2]
        exact ih _ _ f3
    show _ = (mf n).bind (fun m => foldD jf mf m (r ++ k :: t))
    cases en : mf n with
    | none => rw [en] at e1; cases e1
    | some m0 =>
      rw [en] at e1
      show _ = foldD jf mf m0 (r ++ k :: t)
      rw [happ r m0 a e1]
      show _ = (mf k).bind (fun m => (jf a m).bind fun y => foldD jf mf y t)
      rw [ek]
      obtain ⟨y, ey, wy⟩ := s.jn _ 1 a mk (by omega) w1 wk
      show _ = (jf a mk).bind (fun y => foldD jf mf y t)
      rw [ey]
      rw [List.length_cons] at n2
      exact (h.app s t (j - i) 1 a mk y b (by omega) w1 wk (fun n hn => s2 n (List.mem_cons_of_mem _ hn)) ey e2).symm
theorem AscK.grp (s : SemK W jf nd mf) (h : AscK W jf nd) {ns : List Int} (hl : ns.length ≤ 40) (hs : ∀ n ∈ ns, Sm n) : grpD (b0D jf nd) (ebD jf nd mf ns) (tbD jf mf ns) ns.length = .none := by
  have e0 : b0D jf nd = false := by
    unfold b0D
    rw [h.err s (by decide) s.no]
    rfl
  have e1 : prD (ebD jf nd mf ns) ns.length = none := firstR_none fun i _ h2 => firstR_none fun l h3 h4 => by
    rw [if_neg]
    unfold ebD
    rw [h.err s (a := l - i) (by omega) (s.fs hl hs (by omega) (by omega)).2]
    simp
  have e2 : trD (tbD jf mf ns) ns.length = none := firstR_none fun i _ h2 => firstR_none fun j h3 h4 => firstR_none fun l h5 h6 => by
    rw [if_neg]
    unfold tbD
    rw [h.join s hl hs (by omega) (by omega) (by omega)]
    obtain ⟨o1, o2⟩ := s.ok _ _ (s.fs hl hs (i := i) (l := l) (by omega) (by omega)).2
    show ¬ (!((eqD (fsD jf mf ns i l) (fsD jf mf ns i l)).getD true)) = true
    rw [eqD_some o1 o1 o2, eqv_self _ o1]
    simp
  unfold grpD
  rw [e0, if_neg (by simp), e1, e2]
  rfl
end
theorem ascS : AscK WI (jnD 0) (.int 0) where
  il := fun a x _ hx => by obtain ⟨i, rfl⟩ := hx; show some (PyData.int (0 + i)) = _; rw [Int.zero_add]
  ir := fun a x _ hx => by obtain ⟨i, rfl⟩ := hx; show some (PyData.int (i + 0)) = _; rw [Int.add_zero]
  asc := fun a b c x y z p q _ hx hy hz ep eq => by
    obtain ⟨i, rfl⟩ := hx
    obtain ⟨j, rfl⟩ := hy
    obtain ⟨k, rfl⟩ := hz
    cases ep
    cases eq
    show some (PyData.int (i + j + k)) = some (PyData.int (i + (j + k)))
    rw [Int.add_assoc]
theorem ascL : AscK WO leD .none where
  il := fun a x _ hx => by rcases hx with rfl | ⟨i, rfl⟩ <;> rfl
  ir := fun a x _ hx => by rcases hx with rfl | ⟨i, rfl⟩ <;> rfl
  asc := fun a b c x y z p q _ hx hy hz ep eq => by
    rcases hx with rfl | ⟨i, rfl⟩ <;> rcases hy with rfl | ⟨j, rfl⟩ <;> rcases hz with rfl | ⟨k, rfl⟩ <;> cases ep <;> cases eq <;> first | rfl | (show some (PyData.int (min (min i j) k)) = some (PyData.int (min i (min j k))); congr 2; omega)
theorem ascT : AscK WO lat2 .none where
  il := fun a x _ hx => by rcases hx with rfl | ⟨i, rfl⟩ <;> rfl
  ir := fun a x _ hx => by rcases hx with rfl | ⟨i, rfl⟩ <;> rfl
  asc := fun a b c x y z p q _ hx hy hz ep eq => by
    rcases hx with rfl | ⟨i, rfl⟩ <;> rcases hy with rfl | ⟨j, rfl⟩ <;> rcases hz with rfl | ⟨k, rfl⟩ <;> cases ep <;> cases eq <;> rfl
theorem str_nil_app (s : Str) : Str.ofString "" ++ s = s := by
  show (⟨(Str.ofString "").cps ++ s.cps⟩ : Str) = s
  have e : (Str.ofString "").cps = #[] := rfl
  rw [e, Array.empty_append]
theorem str_app_nil (s : Str) : s ++ Str.ofString "" = s := by
  show (⟨s.cps ++ (Str.ofString "").cps⟩ : Str) = s
  have e : (Str.ofString "").cps = #[] := rfl
  rw [e, Array.append_empty]
theorem ascG : AscK WS (jnD 1) (.str (Str.ofString "")) where
  il := fun a x ha hx => by
    obtain ⟨s, rfl, l⟩ := hx
    have e0 : (Str.ofString "").length = 0 := rfl
    refine (s2_s (fun a b => a ++ b) (by omega)).trans ?_
    congr 2
    try exact str_nil_app s
  ir := fun a x ha hx => by
    obtain ⟨s, rfl, l⟩ := hx
    have e0 : (Str.ofString "").length = 0 := rfl
    refine (s2_s (fun a b => a ++ b) (by omega)).trans ?_
    congr 2
    try exact str_app_nil s
  asc := fun a b c x y z p q h hx hy hz ep eq => by
    obtain ⟨s, rfl, l1⟩ := hx
    obtain ⟨t, rfl, l2⟩ := hy
    obtain ⟨u, rfl, l3⟩ := hz
    have ep : s2 (fun a b => a ++ b) (.str s) (.str t) = some p := ep
    have eq : s2 (fun a b => a ++ b) (.str t) (.str u) = some q := eq
    rw [s2_s _ (by omega)] at ep eq
    cases ep
    cases eq
    show s2 (fun a b => a ++ b) (.str (s ++ t)) (.str u) = s2 (fun a b => a ++ b) (.str s) (.str (t ++ u))
    rw [s2_s _ (by rw [len_append]; omega), s2_s _ (by rw [len_append]; omega)]
    show some (PyData.str (⟨(s.cps ++ t.cps) ++ u.cps⟩ : Str)) = some (PyData.str ⟨s.cps ++ (t.cps ++ u.cps)⟩)
    rw [Array.append_assoc]
theorem semL0 : SemK WO leD .none idD := semO (.inl rfl) idO fun x y hx hy => by
  rcases hx with rfl | ⟨i, rfl⟩ <;> rcases hy with rfl | ⟨j, rfl⟩
  · exact ⟨_, rfl, .inl rfl⟩
  · exact ⟨_, rfl, .inr ⟨j, rfl⟩⟩
  · exact ⟨_, rfl, .inr ⟨i, rfl⟩⟩
  · exact ⟨_, rfl, .inr ⟨_, rfl⟩⟩
end Fg
namespace Fg
open PySem PySem.Spec PyProof.Rows L2 LamX LmX
theorem str_assoc (s t u : Str) : s ++ t ++ u = s ++ (t ++ u) := by
  show (⟨(s.cps ++ t.cps) ++ u.cps⟩ : Str) = ⟨s.cps ++ (t.cps ++ u.cps)⟩
  rw [Array.append_assoc]
theorem asc0 : AscK WI (kj 0) (kn 0) := ⟨fun a x h w => ascS.il a x h w, fun a x h w => ascS.ir a x h w, fun a b c x y z p q h hx hy hz ep eq => ascS.asc a b c x y z p q h hx hy hz ep eq⟩
theorem asc3 : AscK WS (kj 3) (kn 3) := ⟨fun a x h w => ascG.il a x h w, fun a x h w => ascG.ir a x h w, fun a b c x y z p q h hx hy hz ep eq => ascG.asc a b c x y z p q h hx hy hz ep eq⟩
theorem asc7 : AscK WI (kj 7) (kn 7) where
  il := fun a x _ hx => by obtain ⟨i, rfl⟩ := hx; show some (PyData.int (-1 + i + 1)) = _; congr 2; omega
  ir := fun a x _ hx => by obtain ⟨i, rfl⟩ := hx; show some (PyData.int (i + -1 + 1)) = _; congr 2; omega
  asc := fun a b c x y z p q _ hx hy hz ep eq => by
    obtain ⟨i, rfl⟩ := hx
    obtain ⟨j, rfl⟩ := hy
    obtain ⟨k, rfl⟩ := hz
    cases ep
    cases eq
    show some (PyData.int (i + j + 1 + k + 1)) = some (PyData.int (i + (j + k + 1) + 1))
    congr 2
    omega
theorem asc8 : AscK WS (kj 8) (kn 8) where
  il := fun a x ha hx => by
    obtain ⟨s, rfl, l⟩ := hx
    have e0 : (Str.ofString "").length = 0 := rfl
    refine (s2_s (fun a b => b ++ a) (by omega)).trans ?_
    rw [str_app_nil]
  ir := fun a x ha hx => by
    obtain ⟨s, rfl, l⟩ := hx
    have e0 : (Str.ofString "").length = 0 := rfl
    refine (s2_s (fun a b => b ++ a) (by omega)).trans ?_
    rw [str_nil_app]
  asc := fun a b c x y z p q h hx hy hz ep eq => by
    obtain ⟨s, rfl, l1⟩ := hx
    obtain ⟨t, rfl, l2⟩ := hy
    obtain ⟨u, rfl, l3⟩ := hz
    have ep : s2 (fun a b => b ++ a) (.str s) (.str t) = some p := ep
    have eq : s2 (fun a b => b ++ a) (.str t) (.str u) = some q := eq
    rw [s2_s _ (by omega)] at ep eq
    cases ep
    cases eq
    show s2 (fun a b => b ++ a) (.str (t ++ s)) (.str u) = s2 (fun a b => b ++ a) (.str s) (.str (u ++ t))
    rw [s2_s _ (by rw [len_append]; omega), s2_s _ (by rw [len_append]; omega), str_assoc]
theorem asc5 : AscK WL (kj 5) (kn 5) where
  il := fun a x ha hx => by
    obtain ⟨ns, rfl, l⟩ := hx
    show (if ([] : List PyData).length + (ns.map PyData.int).length ≤ 90000 then some (PyData.list ([] ++ ns.map PyData.int)) else none) = _
    rw [if_pos (by rw [List.length_map]; simp; omega), List.nil_append]
  ir := fun a x ha hx => by
    obtain ⟨ns, rfl, l⟩ := hx
    show (if (ns.map PyData.int).length + ([] : List PyData).length ≤ 90000 then some (PyData.list (ns.map PyData.int ++ [])) else none) = _
    rw [if_pos (by rw [List.length_map]; simp; omega), List.append_nil]
  asc := fun a b c x y z p q h hx hy hz ep eq => by
    obtain ⟨ns, rfl, l1⟩ := hx
    obtain ⟨ms, rfl, l2⟩ := hy
    obtain ⟨ks, rfl, l3⟩ := hz
    have j8 : ∀ us vs : List PyData, us.length + vs.length ≤ 90000 → jnD 8 (.list us) (.list vs) = some (.list (us ++ vs)) := fun us vs hl => by
      show (if us.length + vs.length ≤ 90000 then some (PyData.list (us ++ vs)) else none) = _
      rw [if_pos hl]
    have ep : jnD 8 (.list (ns.map PyData.int)) (.list (ms.map PyData.int)) = some p := ep
    have eq : jnD 8 (.list (ms.map PyData.int)) (.list (ks.map PyData.int)) = some q := eq
    rw [j8 _ _ (by simp; omega)] at ep eq
    cases ep
    cases eq
    show jnD 8 (.list (ns.map PyData.int ++ ms.map PyData.int)) (.list (ks.map PyData.int)) = jnD 8 (.list (ns.map PyData.int)) (.list (ms.map PyData.int ++ ks.map PyData.int))
    rw [j8 _ _ (by simp; omega), j8 _ _ (by simp; omega), List.append_assoc]
theorem asc6 : AscK W7 (kj 6) (kn 6) where
  il := fun a x ha hx => by
    obtain ⟨i, rfl, h1, h2⟩ := hx
    show (if (0 ≤ (1 : Int) ∧ (1 : Int) < 7) ∧ (0 ≤ i ∧ i < 7) then some (PyData.int (1 * i % 7)) else none) = _
    rw [if_pos ⟨by decide, h1, h2⟩]
    congr 2
    omega
  ir := fun a x ha hx => by
    obtain ⟨i, rfl, h1, h2⟩ := hx
    show (if (0 ≤ i ∧ i < 7) ∧ (0 ≤ (1 : Int) ∧ (1 : Int) < 7) then some (PyData.int (i * 1 % 7)) else none) = _
    rw [if_pos ⟨⟨h1, h2⟩, by decide⟩]
    congr 2
    omega
  asc := fun a b c x y z p q h hx hy hz ep eq => by
    obtain ⟨i, rfl, h1, h2⟩ := hx
    obtain ⟨j, rfl, h3, h4⟩ := hy
    obtain ⟨k, rfl, h5, h6⟩ := hz
    have j10 : ∀ u v : Int, 0 ≤ u → u < 7 → 0 ≤ v → v < 7 → jnD 10 (.int u) (.int v) = some (.int (u * v % 7)) := fun u v a1 a2 a3 a4 => by
      show (if (0 ≤ u ∧ u < 7) ∧ (0 ≤ v ∧ v < 7) then some (PyData.int (u * v % 7)) else none) = _
      rw [if_pos ⟨⟨a1, a2⟩, a3, a4⟩]
    have ep : jnD 10 (.int i) (.int j) = some p := ep
    have eq : jnD 10 (.int j) (.int k) = some q := eq
    rw [j10 _ _ h1 h2 h3 h4] at ep
    rw [j10 _ _ h3 h4 h5 h6] at eq
    cases ep
    cases eq
    show jnD 10 (.int (i * j % 7)) (.int k) = jnD 10 (.int i) (.int (j * k % 7))
    rw [j10 _ _ (Int.emod_nonneg _ (by decide)) (Int.emod_lt_of_pos _ (by decide)) h5 h6, j10 _ _ h1 h2 (Int.emod_nonneg _ (by decide)) (Int.emod_lt_of_pos _ (by decide))]
    congr 2
    rw [Int.mul_emod (i * j % 7), Int.emod_emod_of_dvd _ (Int.dvd_refl 7), ← Int.mul_emod, Int.mul_emod i (j * k % 7), Int.emod_emod_of_dvd _ (Int.dvd_refl 7), ← Int.mul_emod, Int.mul_assoc]
theorem asc9 : AscK WO (kj 9) (kn 9) := ⟨fun a x h w => ascT.il a x h w, fun a x h w => ascT.ir a x h w, fun a b c x y z p q h hx hy hz ep eq => ascT.asc a b c x y z p q h hx hy hz ep eq⟩
theorem asc2 : AscK WO (kj 2) (kn 2) := ⟨fun a x h w => ascT.il a x h w, fun a x h w => ascT.ir a x h w, fun a b c x y z p q h hx hy hz ep eq => ascT.asc a b c x y z p q h hx hy hz ep eq⟩
theorem asc1 : AscK WO (kj 1) (kn 1) := ascL
def WT2 (_ : Nat) (x : PyData) : Prop := x = .tuple [] ∨ ∃ a b : Int, x = .tuple [.int a, .int b] ∧ a ≤ b
theorem bo00 : boD (.tuple []) (.tuple []) = some (.tuple []) := rfl
theorem bo02 (c d : Int) : boD (.tuple []) (.tuple [.int c, .int d]) = some (.tuple [.int (min c d), .int (max c d)]) := rfl
theorem bo20 (c d : Int) : boD (.tuple [.int c, .int d]) (.tuple []) = some (.tuple [.int (min c d), .int (max c d)]) := rfl
theorem bo22 (a b c d : Int) : boD (.tuple [.int a, .int b]) (.tuple [.int c, .int d]) = some (.tuple [.int (min (min (min a b) c) d), .int (max (max (max a b) c) d)]) := rfl
theorem bo02' {c d : Int} (h : c ≤ d) : boD (.tuple []) (.tuple [.int c, .int d]) = some (.tuple [.int c, .int d]) := by rw [bo02, show min c d = c by omega, show max c d = d by omega]
theorem bo20' {c d : Int} (h : c ≤ d) : boD (.tuple [.int c, .int d]) (.tuple []) = some (.tuple [.int c, .int d]) := by rw [bo20, show min c d = c by omega, show max c d = d by omega]
theorem bo22' {a b c d : Int} (h : a ≤ b) (h' : c ≤ d) : boD (.tuple [.int a, .int b]) (.tuple [.int c, .int d]) = some (.tuple [.int (min a c), .int (max b d)]) := by rw [bo22, show min (min (min a b) c) d = min a c by omega, show max (max (max a b) c) d = max b d by omega]
theorem semT2 : SemK WT2 (kj 4) (kn 4) (km 4) where
  no := .inl rfl
  mr := fun n h => ⟨_, mkD_s h, .inr ⟨n, n, rfl, Int.le_refl n⟩⟩
  jn := fun _ _ x y _ hx hy => by
    rcases hx with rfl | ⟨a, b, rfl, h1⟩ <;> rcases hy with rfl | ⟨c, d, rfl, h2⟩
    · exact ⟨_, bo00, .inl rfl⟩
    · exact ⟨_, bo02' h2, .inr ⟨c, d, rfl, h2⟩⟩
    · exact ⟨_, bo20' h1, .inr ⟨a, b, rfl, h1⟩⟩
    · exact ⟨_, bo22' h1 h2, .inr ⟨_, _, rfl, by omega⟩⟩
  ok := fun _ x hx => by rcases hx with rfl | ⟨a, b, rfl, _⟩ <;> exact ⟨rfl, (by decide : 1 ≤ 60)⟩
theorem asc4 : AscK WT2 (kj 4) (kn 4) where
  il := fun _ x _ hx => by
    rcases hx with rfl | ⟨a, b, rfl, h1⟩
    · exact bo00
    · exact bo02' h1
  ir := fun _ x _ hx => by
    rcases hx with rfl | ⟨a, b, rfl, h1⟩
    · exact bo00
    · exact bo20' h1
  asc := fun _ _ _ x y z p q _ hx hy hz ep eq => by
    have ep : boD x y = some p := ep
    have eq : boD y z = some q := eq
    show boD p z = boD x q
    rcases hx with rfl | ⟨a, b, rfl, h1⟩ <;> rcases hy with rfl | ⟨c, d, rfl, h2⟩ <;> rcases hz with rfl | ⟨e, f, rfl, h3⟩
    · rw [bo00] at ep eq; cases ep; cases eq; rfl
    · rw [bo00] at ep; rw [bo02' h3] at eq; cases ep; cases eq; rfl
    · rw [bo02' h2] at ep; rw [bo20' h2] at eq; cases ep; cases eq; rw [bo20' h2, bo02' h2]
    · rw [bo02' h2] at ep; rw [bo22' h2 h3] at eq; cases ep; cases eq; rw [bo22' h2 h3, bo02' (by omega)]
    · rw [bo20' h1] at ep; rw [bo00] at eq; cases ep; cases eq; rfl
    · rw [bo20' h1] at ep; rw [bo02' h3] at eq; cases ep; cases eq; rfl
    · rw [bo22' h1 h2] at ep; rw [bo20' h2] at eq; cases ep; cases eq; rw [bo20' (by omega), bo22' h1 h2]
    · rw [bo22' h1 h2] at ep; rw [bo22' h2 h3] at eq; cases ep; cases eq; rw [bo22' (by omega) h3, bo22' h1 (by omega), show min (min a c) e = min a (min c e) by omega, show max (max b d) f = max b (max d f) by omega]
end Fg
namespace Fg
open PySem PySem.Spec PyProof.Rows L2 LamX LmX
local macro_rules | `(tactic| walk_at "hp") => `(tactic| first
  | assumption
  | exact upd_same
  | (refine Chg.at (by assumption) ?_; walk_at "hp")
  | (refine Chg.at1 (by assumption) ?_ (by walk_at "ne"); walk_at "hp"))
local macro_rules | `(tactic| walk_at "ne") => `(tactic| first | assumption | (apply Ne.symm; assumption))
local macro_rules | `(tactic| walk_at "sq") => `(tactic| first | assumption | exact sqL (by walk_at "hp") | (refine Chg.seq (by assumption) ?_; walk_at "sq"))
local macro_rules | `(tactic| walk_at "sz") => `(tactic| first | assumption | exact Nat.zero_le _ | (simp only [List.length_cons, List.length_nil]; decide) | exact Nat.le_trans (by first | omega | (simp; done) | (simp; omega)) (show 100000 ≤ sizeLine by decide) | exact Nat.lt_of_lt_of_le (by first | omega | (simp; done) | (simp; omega)) (show 100000 ≤ sizeLine by decide))
local macro_rules | `(tactic| walk_at "ix") => `(tactic| first | exact at0 | exact at1 | exact at2 | exact at3 | assumption | exact rfl | walk_at "ix2")
local macro_rules | `(tactic| walk_at "ix2") => `(tactic| fail)
local macro_rules | `(tactic| walk_at "num") => `(tactic| first | assumption | omega | decide | walk_at "num2")
local macro_rules | `(tactic| walk_at "num2") => `(tactic| fail)
local macro_rules | `(tactic| walk_at "im") => `(tactic| first | assumption | exact R.non (S := fun _ => False) | exact R.bl (S := fun _ => False) _ | exact R.int (S := fun _ => False) _ | exact R.str (S := fun _ => False) _ | (refine R.im (by assumption) ?_; walk_at "im"))
local macro_rules | `(tactic| walk_at "r") => `(tactic| first | assumption | exact R.non (S := fun _ => False) | exact R.bl (S := fun _ => False) _ | exact R.int (S := fun _ => False) _ | exact R.str (S := fun _ => False) _ | (refine R.same (by assumption) ?_; walk_at "r") | exact R.any (by walk_at "im"))
local macro_rules | `(tactic| walk_at "chg") => `(tactic| first
  | exact Chg.refl
  | assumption
  | (refine Chg.same ?_ (by assumption); walk_at "chg")
  | (refine Chg.both ?_ (by assumption); walk_at "chg")
  | (refine Chg.pre (by assumption) ?_; walk_at "chg"))
local macro_rules | `(tactic| walk_at "w1") => `(tactic| first
  | with_reducible apply w_seq
  | with_reducible apply w_asg
  | ((with_reducible apply w_var); (focus (exact rfl)))
  | with_reducible apply w_c
  | with_reducible apply w_op
  | with_reducible apply w_cons
  | with_reducible apply w_nil
  | with_reducible apply w_gName
  | with_reducible apply w_if
  | with_reducible apply w_test
  | with_reducible apply w_B
  | with_reducible apply w_isbl
  | with_reducible apply w_retN
  | with_reducible apply w_next
  | with_reducible apply w_drop
  | with_reducible apply w_cb
  | with_reducible apply w_call
  | with_reducible apply w_callN
  | with_reducible apply w_bm
  | with_reducible apply w_bm0
  | ((with_reducible apply w_tyL); (focus (walk_at "hp"; done)))
  | with_reducible apply w_dput
  | with_reducible apply w_m1
  | with_reducible apply w_isstr
  | with_reducible apply w_and
  | with_reducible apply w_or
  | with_reducible apply w_not
  | with_reducible apply w_andV
  | with_reducible apply w_orV
  | with_reducible apply w_notV
  | with_reducible apply w_ifE
  | with_reducible apply w_chain
  | with_reducible apply w_un
  | with_reducible apply w_neg
  | with_reducible apply w_add
  | with_reducible apply w_sub
  | ((with_reducible apply w_mod); (focus (walk_at "num"; done)))
  | ((with_reducible apply w_mul); (focus (walk_at "num"; done)))
  | ((with_reducible apply w_fdiv); (focus (walk_at "num"; done)))
  | ((with_reducible apply w_pow); (focus (walk_at "num"; done)))
  | with_reducible apply w_lt
  | with_reducible apply w_le
  | with_reducible apply w_gt
  | with_reducible apply w_ge
  | with_reducible apply w_ltS
  | with_reducible apply w_geS
  | with_reducible apply w_inC
  | with_reducible apply w_notInC
  | with_reducible apply w_isN
  | with_reducible apply w_notN
  | with_reducible apply w_isB
  | with_reducible apply w_notB
  | ((with_reducible apply w_addS); (focus (walk_at "sz"; done)))
  | ((with_reducible apply w_ixL); (focus (walk_at "sq"; done)); (focus (walk_at "ix"; done)))
  | ((with_reducible apply w_ixT); (focus (walk_at "hp"; done)); (focus (walk_at "ix"; done)))
  | ((with_reducible apply w_ixS); (focus (walk_at "sz"; done)); (focus (walk_at "ix"; done)))
  | with_reducible apply w_gSub
  | ((with_reducible apply w_gTup); (focus (walk_at "hp"; done)); (focus (exact rfl)))
  | with_reducible apply w_gCons
  | with_reducible apply w_gNil
  | ((with_reducible apply w_aug); (focus (exact rfl)))
  | with_reducible apply w_ipI
  | ((with_reducible apply w_eq); (focus (exact rfl)))
  | ((with_reducible apply w_ne); (focus (exact rfl)))
  | with_reducible apply w_max
  | with_reducible apply w_min
  | with_reducible apply w_abs
  | with_reducible apply w_intB
  | with_reducible apply w_intI
  | with_reducible apply w_tup1
  | with_reducible apply w_lst1
  | with_reducible apply w_sl
  | with_reducible apply w_part
  | with_reducible apply w_noPart
  | with_reducible apply w_isint
  | ((with_reducible apply w_slS); (focus (walk_at "sz"; done)))
  | with_reducible apply w_iteT
  | with_reducible apply w_iteF
  | with_reducible apply w_iteN
  | ((with_reducible apply w_iteYes); (focus (exact rfl)))
  | ((with_reducible apply w_iteNo); (focus (exact rfl)))
  | ((with_reducible apply w_lenL); (focus (walk_at "sq"; done)))
  | ((with_reducible apply w_lenT); (focus (walk_at "hp"; done)))
  | ((with_reducible apply w_lenS); (focus (walk_at "sz"; done)))
  | with_reducible apply w_lc
  | with_reducible apply w_for
  | with_reducible apply w_yes
  | ((with_reducible apply w_wipe); (focus (exact rfl)))
  | with_reducible apply w_iList
  | with_reducible apply w_iTup
  | with_reducible apply w_iStr
  | with_reducible apply w_iRng1
  | with_reducible apply w_iRng2
  | with_reducible apply w_iZip
  | with_reducible apply w_iEnum
  | ((with_reducible apply d_iList); (focus (walk_at "sq"; done)))
  | ((with_reducible apply d_iTup); (focus (walk_at "hp"; done)))
  | with_reducible apply d_iStr
  | ((with_reducible apply d_iRng1); (focus (walk_at "num"; done)); (focus (walk_at "num"; done)))
  | ((with_reducible apply d_iRng2); (focus (walk_at "num"; done)); (focus (walk_at "num"; done)); (focus (walk_at "num"; done)); (focus (walk_at "num"; done)))
  | ((with_reducible apply d_iZip); (focus (walk_at "sq"; done)); (focus (walk_at "sq"; done)))
  | ((with_reducible apply d_iEnum); (focus (walk_at "sq"; done)))
  | walk_at "w2")
local macro_rules | `(tactic| walk_at "w2") => `(tactic| fail)
local macro_rules | `(tactic| walk_at "wn") => `(tactic| repeat walk_at "w1")
local macro_rules | `(tactic| walk_at "w") => `(tactic| repeat (first | walk_at "w1" | with_reducible apply w_ret))
local macro_rules | `(tactic| walk_at "w2") => `(tactic| first
  | ((with_reducible apply w_isInt); (focus (walk_at "r"; done)))
  | ((with_reducible apply w_isBool); (focus (walk_at "r"; done)))
  | ((with_reducible apply w_isStr); (focus (walk_at "r"; done)))
  | ((with_reducible apply w_isTup); (focus (walk_at "r"; done)))
  | ((with_reducible apply w_isLst); (focus (walk_at "r"; done)))
  | with_reducible apply w_fld
  | with_reducible apply w_sfld
  | with_reducible apply w_faug
  | with_reducible apply w_rAdd
  | with_reducible apply w_rSub
  | with_reducible apply w_make
  | with_reducible apply w_orT
  | with_reducible apply w_dgetd
  | with_reducible apply w_dgetk
  | with_reducible apply w_dsetd
  | ((with_reducible apply k_dgetd); (focus (walk_at "hp"; done)))
  | ((with_reducible apply k_dsetd); (focus (walk_at "hp"; done)))
  | walk_at "w3")
local macro_rules | `(tactic| walk_at "w3") => `(tactic| fail)
local macro_rules | `(tactic| walk_at "w3") => `(tactic| first
  | with_reducible apply w_mt
  | with_reducible apply w_makeX
  | ((with_reducible apply m_Kind); (focus (walk_at "hp"; done)); (focus (exact rfl)))
  | ((with_reducible apply g_Kind_joining); (focus (assumption; done)); (focus (walk_at "hp"; done)))
  | ((with_reducible apply g_Kind_none); (focus (assumption; done)); (focus (walk_at "hp"; done)))
  | ((with_reducible apply g_Kind_making); (focus (assumption; done)); (focus (walk_at "hp"; done)))
  | ((with_reducible apply g_Kind_word); (focus (assumption; done)); (focus (walk_at "hp"; done))))
def noB (L : Nat → Addr → LF) : Nat → Addr → LF := fun j c' => if j = 31 then ⟨"", (L 31 c').params, (L 31 c').body, (L 31 c').scope, [], c'⟩ else L j c'
theorem noB_lt {L : Nat → Addr → LF} {j : Nat} (h : j < 31) : noB L j = L j := funext fun c' => if_neg (by omega)
theorem avS_noB {L : Nat → Addr → LF} : avS (noB L) = avS L := by
  unfold avS noB
  rw [if_neg (by decide)]
theorem LmAt.ofN {L : Nat → Addr → LF} {H : Hp} {f : Addr} {j : Nat} (hj : j < 31) (h : LmAt (noB L) H f j) : LmAt L H f j := by
  unfold LmAt at h
  rw [noB_lt hj] at h
  exact h
theorem JV.ofN {K : PySem.W.Frag} {L : Nat → Addr → LF} {H : Hp} {v : V} {jf : PyData → PyData → Option PyData} (h : JV K (noB L) H v jf) : JV K L H v jf := by
  obtain ⟨f, rfl, ⟨j, hj, hm, e, hl⟩ | h⟩ := h
  · exact ⟨f, rfl, .inl ⟨j, hj, hm, e, hl.ofN hj⟩⟩
  · exact ⟨f, rfl, .inr (by unfold SFk at h ⊢; rw [avS_noB] at h; exact h)⟩
theorem JVS.ofN {K : PySem.W.Frag} {L : Nat → Addr → LF} {S : Addr → Prop} {H : Hp} {v : V} {jf : PyData → PyData → Option PyData} (h : JVS K (noB L) S H v jf) : JV K L H v jf := by
  rcases h with h | ⟨f, c', cl, cs, v1, g, o1, p1, vv, oo, jf0, nd, d1, d2, e1, e2, _⟩
  · exact h.ofN
  · exact absurd (show (Str.ofString "" : Str) = QB from e2) (by decide)
theorem MV.ofN {L : Nat → Addr → LF} {H : Hp} {v : V} {mf : Int → Option PyData} (h : MV (noB L) H v mf) : MV L H v mf := by
  rcases h with h | ⟨f, j, e, hm, e2, hl⟩
  · exact .inl h
  · exact .inr ⟨f, j, e, hm, e2, hl.ofN (mkers_lt hm)⟩
theorem lq_noB {L : Nat → Addr → LF} (q : LQ L) : LQ (noB L) := ⟨fun c' => by rw [noB_lt (by decide)]; exact q.s c', fun j c' h1 h2 => by rw [noB_lt (by omega)]; exact q.t j c' h1 h2, fun j c' h1 h2 => by rw [noB_lt (by omega)]; exact q.k j c' h1 h2⟩
theorem bdD_at {jf : PyData → PyData → Option PyData} {nd d1 d2 x y d : PyData} (h : bdD jf nd d1 d2 x y = some d) : ∃ b1, eqD x d1 = some b1 ∧ ((b1 = false ∧ jf x y = some d) ∨ (b1 = true ∧ ∃ b2, eqD y d2 = some b2 ∧ ((b2 = true ∧ d = nd) ∨ (b2 = false ∧ jf x y = some d)))) := by
  unfold bdD at h
  cases e1 : eqD x d1 with
  | none => rw [e1] at h; cases h
  | some b1 =>
    rw [e1] at h
    have h : (if b1 = true then (eqD y d2).bind fun b2 => if b2 = true then some nd else jf x y else jf x y) = some d := h
    refine ⟨b1, rfl, ?_⟩
    cases b1 with
    | false => rw [if_neg (by simp)] at h; exact .inl ⟨rfl, h⟩
    | true =>
      rw [if_pos rfl] at h
      refine .inr ⟨rfl, ?_⟩
      cases e2 : eqD y d2 with
      | none => rw [e2] at h; cases h
      | some b2 =>
        rw [e2] at h
        have h : (if b2 = true then some nd else jf x y) = some d := h
        refine ⟨b2, rfl, ?_⟩
        cases b2 with
        | false => rw [if_neg (by simp)] at h; exact .inr ⟨rfl, h⟩
        | true => rw [if_pos rfl] at h; cases h; exact .inl ⟨rfl, rfl⟩
def t_lam31 (K : PySem.W.Frag) (L : Nat → Addr → LmX.LF) : TE :=
    tIf (tAnd (tTest (tOp oEqD (tVar 0) (tVar 4))) (tTest (tOp oEqD (tVar 1) (tVar 5)))) (tVar 2) (tCallV (CVo K L) 3 (tCons (tVar 0) (tCons (tVar 1) (tNil))))
theorem pure_lam31 {K : PySem.W.Frag} {L : Nat → Addr → LF} (ws vs : List V) (H : Hp) (Q : VK) (hh : spB K L ws vs H Q L2.E0) : t_lam31 K L (NdefX.startF ["a", "b", "first", "joiner", "one", "other"] vs (ws.map some)) H Q := by
  obtain ⟨v1, g, o1, p1, x, y, S, jf, nd, d1, d2, dx, dy, d, rfl, rfl, hj, r1, r2, r3, rx, ry, fr, e, q⟩ := hh
  show t_lam31 K L [some x, some y, some v1, some g, some o1, some p1] H Q
  unfold t_lam31
  obtain ⟨b1, e1, e2⟩ := bdD_at e
  obtain ⟨n1, n2, n3, rfl⟩ := eqD_at e1
  obtain ⟨f, rfl, hf⟩ := hj.cvs
  walk_at "w"
  refine w_eqD rx r2 n1 n2 n3 ?_
  refine ⟨_, rfl, ?_⟩
  rcases e2 with ⟨eb, ej⟩ | ⟨eb, b2, e3, e4⟩
  · rw [eb]
    walk_at "w"
    refine ⟨f, rfl, ?_⟩
    walk_at "w"
    exact hf H _ _ .refl ⟨x, y, dx, dy, d, S, rfl, rx, ry, fr, ej, q⟩
  · rw [eb]
    obtain ⟨m1, m2, m3, rfl⟩ := eqD_at e3
    walk_at "w"
    refine w_eqD ry r3 m1 m2 m3 ?_
    refine ⟨_, rfl, ?_⟩
    rcases e4 with ⟨eb, rfl⟩ | ⟨eb, ej⟩
    · rw [eb]
      walk_at "w"
      exact q _ _ .refl r1
    · rw [eb]
      walk_at "w"
      refine ⟨f, rfl, ?_⟩
      walk_at "w"
      exact hf H _ _ .refl ⟨x, y, dx, dy, d, S, rfl, rx, ry, fr, ej, q⟩
section
variable {W : Nat → PyData → Prop} {jf : PyData → PyData → Option PyData} {nd d1 d2 : PyData} {mf : Int → Option PyData}
theorem bd_sem (s : SemK W jf nd mf) (mo : ∀ a b x, a ≤ b → W a x → W b x) (h0 : W 0 nd) (k1 : noDic d1 = true) (k2 : noDic d2 = true) : SemK W (bdD jf nd d1 d2) nd mf where
  no := s.no
  mr := s.mr
  ok := s.ok
  jn := fun a b x y hl wx wy => by
    obtain ⟨o1, o2⟩ := s.ok _ _ wx
    obtain ⟨o3, o4⟩ := s.ok _ _ wy
    obtain ⟨d, e, w⟩ := s.jn a b x y hl wx wy
    unfold bdD
    rw [eqD_some o1 k1 o2]
    show ∃ d, (if PyData.eqv x d1 = true then (eqD y d2).bind fun b2 => if b2 = true then some nd else jf x y else jf x y) = some d ∧ W (a + b) d
    by_cases h1 : PyData.eqv x d1 = true
    · rw [if_pos h1, eqD_some o3 k2 o4]
      show ∃ d, (if PyData.eqv y d2 = true then some nd else jf x y) = some d ∧ W (a + b) d
      by_cases h2 : PyData.eqv y d2 = true
      · rw [if_pos h2]
        exact ⟨nd, rfl, mo 0 _ _ (Nat.zero_le _) h0⟩
      · rw [if_neg h2]
        exact ⟨d, e, w⟩
    · rw [if_neg h1]
      exact ⟨d, e, w⟩
/-- the first ten, with weights that may be more -/
theorem asc_mo : ∀ i, i < 10 → ∃ W, SemK W (kj i) (kn i) (km i) ∧ AscK W (kj i) (kn i) ∧ (∀ a b x, a ≤ b → W a x → W b x) ∧ W 0 (kn i)
  | 0, _ => ⟨WI, semI ⟨_, rfl⟩ idI (fun a b => ⟨_, rfl⟩), asc0, (fun _ _ _ _ h => h), ⟨_, rfl⟩⟩
  | 1, _ => ⟨WO, semL0, asc1, (fun _ _ _ _ h => h), .inl rfl⟩
  | 2, _ => ⟨WO, semO (.inl rfl) idO (fun x y hx hy => latO hx hy), asc2, (fun _ _ _ _ h => h), .inl rfl⟩
  | 3, _ => ⟨WS, semS rfl (fun n h => ⟨_, mkD_s h, text32 (sm30 h)⟩) (fun a b h => ⟨_, s2_s _ h, by rw [len_append]; omega⟩), asc3, (fun a b x h ⟨s, e, l⟩ => ⟨s, e, by omega⟩), ⟨_, rfl, by decide⟩⟩
  | 4, _ => ⟨WT2, semT2, asc4, (fun _ _ _ _ h => h), .inl rfl⟩
  | 5, _ => ⟨WL, semL, asc5, (fun a b x h ⟨s, e, l⟩ => ⟨s, e, by omega⟩), ⟨[], rfl, by decide⟩⟩
  | 6, _ => ⟨W7, sem7, asc6, (fun _ _ _ _ h => h), ⟨1, rfl, by decide, by decide⟩⟩
  | 7, _ => ⟨WI, semI ⟨_, rfl⟩ idI (fun a b => ⟨_, rfl⟩), asc7, (fun _ _ _ _ h => h), ⟨_, rfl⟩⟩
  | 8, _ => ⟨WS, semS rfl (fun n h => ⟨_, mkD_s h, Nat.le_trans (len_text (by have := Int.emod_nonneg n (b := 10) (by decide); have := Int.emod_lt_of_pos n (b := 10) (by decide); omega)) (by decide)⟩) (fun a b h => ⟨_, s2_s (fun a b => b ++ a) h, by rw [len_append]; omega⟩), asc8, (fun a b x h ⟨s, e, l⟩ => ⟨s, e, by omega⟩), ⟨_, rfl, by decide⟩⟩
  | 9, _ => ⟨WO, semO (.inl rfl) (fun n h => ⟨_, mkD_s h, .inr ⟨_, rfl⟩⟩) (fun x y hx hy => latO hx hy), asc9, (fun _ _ _ _ h => h), .inl rfl⟩
  | i + 10, h => absurd h (by omega)
end
end Fg
namespace Fg
open PySem PySem.Spec PyProof.Rows L2 LamX LmX
local macro_rules | `(tactic| walk_at "hp") => `(tactic| first
  | assumption
  | exact upd_same
  | (refine Chg.at (by assumption) ?_; walk_at "hp")
  | (refine Chg.at1 (by assumption) ?_ (by walk_at "ne"); walk_at "hp"))
local macro_rules | `(tactic| walk_at "ne") => `(tactic| first | assumption | (apply Ne.symm; assumption))
local macro_rules | `(tactic| walk_at "sq") => `(tactic| first | assumption | exact sqL (by walk_at "hp") | (refine Chg.seq (by assumption) ?_; walk_at "sq"))
local macro_rules | `(tactic| walk_at "sz") => `(tactic| first | assumption | exact Nat.zero_le _ | (simp only [List.length_cons, List.length_nil]; decide) | exact Nat.le_trans (by first | omega | (simp; done) | (simp; omega)) (show 100000 ≤ sizeLine by decide) | exact Nat.lt_of_lt_of_le (by first | omega | (simp; done) | (simp; omega)) (show 100000 ≤ sizeLine by decide))
local macro_rules | `(tactic| walk_at "ix") => `(tactic| first | exact at0 | exact at1 | exact at2 | exact at3 | assumption | exact rfl | walk_at "ix2")
local macro_rules | `(tactic| walk_at "ix2") => `(tactic| fail)
local macro_rules | `(tactic| walk_at "num") => `(tactic| first | assumption | omega | decide | walk_at "num2")
local macro_rules | `(tactic| walk_at "num2") => `(tactic| fail)
local macro_rules | `(tactic| walk_at "im") => `(tactic| first | assumption | exact R.non (S := fun _ => False) | exact R.bl (S := fun _ => False) _ | exact R.int (S := fun _ => False) _ | exact R.str (S := fun _ => False) _ | (refine R.im (by assumption) ?_; walk_at "im"))
local macro_rules | `(tactic| walk_at "r") => `(tactic| first | assumption | exact R.non (S := fun _ => False) | exact R.bl (S := fun _ => False) _ | exact R.int (S := fun _ => False) _ | exact R.str (S := fun _ => False) _ | (refine R.same (by assumption) ?_; walk_at "r") | exact R.any (by walk_at "im"))
local macro_rules | `(tactic| walk_at "chg") => `(tactic| first
  | exact Chg.refl
  | assumption
  | (refine Chg.same ?_ (by assumption); walk_at "chg")
  | (refine Chg.both ?_ (by assumption); walk_at "chg")
  | (refine Chg.pre (by assumption) ?_; walk_at "chg"))
local macro_rules | `(tactic| walk_at "w1") => `(tactic| first
  | with_reducible apply w_seq
  | with_reducible apply w_asg
  | ((with_reducible apply w_var); (focus (exact rfl)))
  | with_reducible apply w_c
  | with_reducible apply w_op
  | with_reducible apply w_cons
  | with_reducible apply w_nil
  | with_reducible apply w_gName
  | with_reducible apply w_if
  | with_reducible apply w_test
  | with_reducible apply w_B
  | with_reducible apply w_isbl
  | with_reducible apply w_retN
  | with_reducible apply w_next
  | with_reducible apply w_drop
  | with_reducible apply w_cb
  | with_reducible apply w_call
  | with_reducible apply w_callN
  | with_reducible apply w_bm
  | with_reducible apply w_bm0
  | ((with_reducible apply w_tyL); (focus (walk_at "hp"; done)))
  | with_reducible apply w_dput
  | with_reducible apply w_m1
  | with_reducible apply w_isstr
  | with_reducible apply w_and
  | with_reducible apply w_or
  | with_reducible apply w_not
  | with_reducible apply w_andV
  | with_reducible apply w_orV
  | with_reducible apply w_notV
  | with_reducible apply w_ifE
  | with_reducible apply w_chain
  | with_reducible apply w_un
  | with_reducible apply w_neg
  | with_reducible apply w_add
  | with_reducible apply w_sub
  | ((with_reducible apply w_mod); (focus (walk_at "num"; done)))
  | ((with_reducible apply w_mul); (focus (walk_at "num"; done)))
  | ((with_reducible apply w_fdiv); (focus (walk_at "num"; done)))
  | ((with_reducible apply w_pow); (focus (walk_at "num"; done)))
  | with_reducible apply w_lt
  | with_reducible apply w_le
  | with_reducible apply w_gt
  | with_reducible apply w_ge
  | with_reducible apply w_ltS
  | with_reducible apply w_geS
  | with_reducible apply w_inC
  | with_reducible apply w_notInC
  | with_reducible apply w_isN
  | with_reducible apply w_notN
  | with_reducible apply w_isB
  | with_reducible apply w_notB
  | ((with_reducible apply w_addS); (focus (walk_at "sz"; done)))
  | ((with_reducible apply w_ixL); (focus (walk_at "sq"; done)); (focus (walk_at "ix"; done)))
  | ((with_reducible apply w_ixT); (focus (walk_at "hp"; done)); (focus (walk_at "ix"; done)))
  | ((with_reducible apply w_ixS); (focus (walk_at "sz"; done)); (focus (walk_at "ix"; done)))
  | with_reducible apply w_gSub
  | ((with_reducible apply w_gTup); (focus (walk_at "hp"; done)); (focus (exact rfl)))
  | with_reducible apply w_gCons
  | with_reducible apply w_gNil
  | ((with_reducible apply w_aug); (focus (exact rfl)))
  | with_reducible apply w_ipI
  | ((with_reducible apply w_eq); (focus (exact rfl)))
  | ((with_reducible apply w_ne); (focus (exact rfl)))
  | with_reducible apply w_max
  | with_reducible apply w_min
  | with_reducible apply w_abs
  | with_reducible apply w_intB
  | with_reducible apply w_intI
  | with_reducible apply w_tup1
  | with_reducible apply w_lst1
  | with_reducible apply w_sl
  | with_reducible apply w_part
  | with_reducible apply w_noPart
  | with_reducible apply w_isint
  | ((with_reducible apply w_slS); (focus (walk_at "sz"; done)))
  | with_reducible apply w_iteT
  | with_reducible apply w_iteF
  | with_reducible apply w_iteN
  | ((with_reducible apply w_iteYes); (focus (exact rfl)))
  | ((with_reducible apply w_iteNo); (focus (exact rfl)))
  | ((with_reducible apply w_lenL); (focus (walk_at "sq"; done)))
  | ((with_reducible apply w_lenT); (focus (walk_at "hp"; done)))
  | ((with_reducible apply w_lenS); (focus (walk_at "sz"; done)))
  | with_reducible apply w_lc
  | with_reducible apply w_for
  | with_reducible apply w_yes
  | ((with_reducible apply w_wipe); (focus (exact rfl)))
  | with_reducible apply w_iList
  | with_reducible apply w_iTup
  | with_reducible apply w_iStr
  | with_reducible apply w_iRng1
  | with_reducible apply w_iRng2
  | with_reducible apply w_iZip
  | with_reducible apply w_iEnum
  | ((with_reducible apply d_iList); (focus (walk_at "sq"; done)))
  | ((with_reducible apply d_iTup); (focus (walk_at "hp"; done)))
  | with_reducible apply d_iStr
  | ((with_reducible apply d_iRng1); (focus (walk_at "num"; done)); (focus (walk_at "num"; done)))
  | ((with_reducible apply d_iRng2); (focus (walk_at "num"; done)); (focus (walk_at "num"; done)); (focus (walk_at "num"; done)); (focus (walk_at "num"; done)))
  | ((with_reducible apply d_iZip); (focus (walk_at "sq"; done)); (focus (walk_at "sq"; done)))
  | ((with_reducible apply d_iEnum); (focus (walk_at "sq"; done)))
  | walk_at "w2")
local macro_rules | `(tactic| walk_at "w2") => `(tactic| fail)
local macro_rules | `(tactic| walk_at "wn") => `(tactic| repeat walk_at "w1")
local macro_rules | `(tactic| walk_at "w") => `(tactic| repeat (first | walk_at "w1" | with_reducible apply w_ret))
local macro_rules | `(tactic| walk_at "w2") => `(tactic| first
  | ((with_reducible apply w_isInt); (focus (walk_at "r"; done)))
  | ((with_reducible apply w_isBool); (focus (walk_at "r"; done)))
  | ((with_reducible apply w_isStr); (focus (walk_at "r"; done)))
  | ((with_reducible apply w_isTup); (focus (walk_at "r"; done)))
  | ((with_reducible apply w_isLst); (focus (walk_at "r"; done)))
  | with_reducible apply w_fld
  | with_reducible apply w_sfld
  | with_reducible apply w_faug
  | with_reducible apply w_rAdd
  | with_reducible apply w_rSub
  | with_reducible apply w_make
  | with_reducible apply w_orT
  | with_reducible apply w_dgetd
  | with_reducible apply w_dgetk
  | with_reducible apply w_dsetd
  | ((with_reducible apply k_dgetd); (focus (walk_at "hp"; done)))
  | ((with_reducible apply k_dsetd); (focus (walk_at "hp"; done)))
  | walk_at "w3")
local macro_rules | `(tactic| walk_at "w3") => `(tactic| fail)
local macro_rules | `(tactic| walk_at "w3") => `(tactic| first
  | with_reducible apply w_mt
  | with_reducible apply w_makeX
  | ((with_reducible apply m_Kind); (focus (walk_at "hp"; done)); (focus (exact rfl)))
  | ((with_reducible apply g_Kind_joining); (focus (assumption; done)); (focus (walk_at "hp"; done)))
  | ((with_reducible apply g_Kind_none); (focus (assumption; done)); (focus (walk_at "hp"; done)))
  | ((with_reducible apply g_Kind_making); (focus (assumption; done)); (focus (walk_at "hp"; done)))
  | ((with_reducible apply g_Kind_word); (focus (assumption; done)); (focus (walk_at "hp"; done))))
abbrev QS : Str := "summed.<locals>.<lambda>"
end Fg
namespace Fg
open PySem PySem.Spec PyProof.Rows L2 LamX LmX
local macro_rules | `(tactic| walk_at "hp") => `(tactic| first
  | assumption
  | exact upd_same
  | (refine Chg.at (by assumption) ?_; walk_at "hp")
  | (refine Chg.at1 (by assumption) ?_ (by walk_at "ne"); walk_at "hp"))
local macro_rules | `(tactic| walk_at "ne") => `(tactic| first | assumption | (apply Ne.symm; assumption))
local macro_rules | `(tactic| walk_at "sq") => `(tactic| first | assumption | exact sqL (by walk_at "hp") | (refine Chg.seq (by assumption) ?_; walk_at "sq"))
local macro_rules | `(tactic| walk_at "sz") => `(tactic| first | assumption | exact Nat.zero_le _ | (simp only [List.length_cons, List.length_nil]; decide) | exact Nat.le_trans (by first | omega | (simp; done) | (simp; omega)) (show 100000 ≤ sizeLine by decide) | exact Nat.lt_of_lt_of_le (by first | omega | (simp; done) | (simp; omega)) (show 100000 ≤ sizeLine by decide))
local macro_rules | `(tactic| walk_at "ix") => `(tactic| first | exact at0 | exact at1 | exact at2 | exact at3 | assumption | exact rfl | walk_at "ix2")
local macro_rules | `(tactic| walk_at "ix2") => `(tactic| fail)
local macro_rules | `(tactic| walk_at "num") => `(tactic| first | assumption | omega | decide | walk_at "num2")
local macro_rules | `(tactic| walk_at "num2") => `(tactic| fail)
local macro_rules | `(tactic| walk_at "im") => `(tactic| first | assumption | exact R.non (S := fun _ => False) | exact R.bl (S := fun _ => False) _ | exact R.int (S := fun _ => False) _ | exact R.str (S := fun _ => False) _ | (refine R.im (by assumption) ?_; walk_at "im"))
local macro_rules | `(tactic| walk_at "r") => `(tactic| first | assumption | exact R.non (S := fun _ => False) | exact R.bl (S := fun _ => False) _ | exact R.int (S := fun _ => False) _ | exact R.str (S := fun _ => False) _ | (refine R.same (by assumption) ?_; walk_at "r") | exact R.any (by walk_at "im"))
local macro_rules | `(tactic| walk_at "chg") => `(tactic| first
  | exact Chg.refl
  | assumption
  | (refine Chg.same ?_ (by assumption); walk_at "chg")
  | (refine Chg.both ?_ (by assumption); walk_at "chg")
  | (refine Chg.pre (by assumption) ?_; walk_at "chg"))
local macro_rules | `(tactic| walk_at "w1") => `(tactic| first
  | with_reducible apply w_seq
  | with_reducible apply w_asg
  | ((with_reducible apply w_var); (focus (exact rfl)))
  | with_reducible apply w_c
  | with_reducible apply w_op
  | with_reducible apply w_cons
  | with_reducible apply w_nil
  | with_reducible apply w_gName
  | with_reducible apply w_if
  | with_reducible apply w_test
  | with_reducible apply w_B
  | with_reducible apply w_isbl
  | with_reducible apply w_retN
  | with_reducible apply w_next
  | with_reducible apply w_drop
  | with_reducible apply w_cb
  | with_reducible apply w_call
  | with_reducible apply w_callN
  | with_reducible apply w_bm
  | with_reducible apply w_bm0
  | ((with_reducible apply w_tyL); (focus (walk_at "hp"; done)))
  | with_reducible apply w_dput
  | with_reducible apply w_m1
  | with_reducible apply w_isstr
  | with_reducible apply w_and
  | with_reducible apply w_or
  | with_reducible apply w_not
  | with_reducible apply w_andV
  | with_reducible apply w_orV
  | with_reducible apply w_notV
  | with_reducible apply w_ifE
  | with_reducible apply w_chain
  | with_reducible apply w_un
  | with_reducible apply w_neg
  | with_reducible apply w_add
  | with_reducible apply w_sub
  | ((with_reducible apply w_mod); (focus (walk_at "num"; done)))
  | ((with_reducible apply w_mul); (focus (walk_at "num"; done)))
  | ((with_reducible apply w_fdiv); (focus (walk_at "num"; done)))
  | ((with_reducible apply w_pow); (focus (walk_at "num"; done)))
  | with_reducible apply w_lt
  | with_reducible apply w_le
  | with_reducible apply w_gt
  | with_reducible apply w_ge
  | with_reducible apply w_ltS
  | with_reducible apply w_geS
  | with_reducible apply w_inC
  | with_reducible apply w_notInC
  | with_reducible apply w_isN
  | with_reducible apply w_notN
  | with_reducible apply w_isB
  | with_reducible apply w_notB
  | ((with_reducible apply w_addS); (focus (walk_at "sz"; done)))
  | ((with_reducible apply w_ixL); (focus (walk_at "sq"; done)); (focus (walk_at "ix"; done)))
  | ((with_reducible apply w_ixT); (focus (walk_at "hp"; done)); (focus (walk_at "ix"; done)))
  | ((with_reducible apply w_ixS); (focus (walk_at "sz"; done)); (focus (walk_at "ix"; done)))
  | with_reducible apply w_gSub
  | ((with_reducible apply w_gTup); (focus (walk_at "hp"; done)); (focus (exact rfl)))
  | with_reducible apply w_gCons
  | with_reducible apply w_gNil
  | ((with_reducible apply w_aug); (focus (exact rfl)))
  | with_reducible apply w_ipI
  | ((with_reducible apply w_eq); (focus (exact rfl)))
  | ((with_reducible apply w_ne); (focus (exact rfl)))
  | with_reducible apply w_max
  | with_reducible apply w_min
  | with_reducible apply w_abs
  | with_reducible apply w_intB
  | with_reducible apply w_intI
  | with_reducible apply w_tup1
  | with_reducible apply w_lst1
  | with_reducible apply w_sl
  | with_reducible apply w_part
  | with_reducible apply w_noPart
  | with_reducible apply w_isint
  | ((with_reducible apply w_slS); (focus (walk_at "sz"; done)))
  | with_reducible apply w_iteT
  | with_reducible apply w_iteF
  | with_reducible apply w_iteN
  | ((with_reducible apply w_iteYes); (focus (exact rfl)))
  | ((with_reducible apply w_iteNo); (focus (exact rfl)))
  | ((with_reducible apply w_lenL); (focus (walk_at "sq"; done)))
  | ((with_reducible apply w_lenT); (focus (walk_at "hp"; done)))
  | ((with_reducible apply w_lenS); (focus (walk_at "sz"; done)))
  | with_reducible apply w_lc
  | with_reducible apply w_for
  | with_reducible apply w_yes
  | ((with_reducible apply w_wipe); (focus (exact rfl)))
  | with_reducible apply w_iList
  | with_reducible apply w_iTup
  | with_reducible apply w_iStr
  | with_reducible apply w_iRng1
  | with_reducible apply w_iRng2
  | with_reducible apply w_iZip
  | with_reducible apply w_iEnum
  | ((with_reducible apply d_iList); (focus (walk_at "sq"; done)))
  | ((with_reducible apply d_iTup); (focus (walk_at "hp"; done)))
  | with_reducible apply d_iStr
  | ((with_reducible apply d_iRng1); (focus (walk_at "num"; done)); (focus (walk_at "num"; done)))
  | ((with_reducible apply d_iRng2); (focus (walk_at "num"; done)); (focus (walk_at "num"; done)); (focus (walk_at "num"; done)); (focus (walk_at "num"; done)))
  | ((with_reducible apply d_iZip); (focus (walk_at "sq"; done)); (focus (walk_at "sq"; done)))
  | ((with_reducible apply d_iEnum); (focus (walk_at "sq"; done)))
  | walk_at "w2")
local macro_rules | `(tactic| walk_at "w2") => `(tactic| fail)
local macro_rules | `(tactic| walk_at "wn") => `(tactic| repeat walk_at "w1")
local macro_rules | `(tactic| walk_at "w") => `(tactic| repeat (first | walk_at "w1" | with_reducible apply w_ret))
local macro_rules | `(tactic| walk_at "w2") => `(tactic| first
  | ((with_reducible apply w_isInt); (focus (walk_at "r"; done)))
  | ((with_reducible apply w_isBool); (focus (walk_at "r"; done)))
  | ((with_reducible apply w_isStr); (focus (walk_at "r"; done)))
  | ((with_reducible apply w_isTup); (focus (walk_at "r"; done)))
  | ((with_reducible apply w_isLst); (focus (walk_at "r"; done)))
  | with_reducible apply w_fld
  | with_reducible apply w_sfld
  | with_reducible apply w_faug
  | with_reducible apply w_rAdd
  | with_reducible apply w_rSub
  | with_reducible apply w_make
  | with_reducible apply w_orT
  | with_reducible apply w_dgetd
  | with_reducible apply w_dgetk
  | with_reducible apply w_dsetd
  | ((with_reducible apply k_dgetd); (focus (walk_at "hp"; done)))
  | ((with_reducible apply k_dsetd); (focus (walk_at "hp"; done)))
  | walk_at "w3")
local macro_rules | `(tactic| walk_at "w3") => `(tactic| fail)
local macro_rules | `(tactic| walk_at "w3") => `(tactic| first
  | with_reducible apply w_mt
  | with_reducible apply w_makeX
  | ((with_reducible apply m_Kind); (focus (walk_at "hp"; done)); (focus (exact rfl)))
  | ((with_reducible apply g_Kind_joining); (focus (assumption; done)); (focus (walk_at "hp"; done)))
  | ((with_reducible apply g_Kind_none); (focus (assumption; done)); (focus (walk_at "hp"; done)))
  | ((with_reducible apply g_Kind_making); (focus (assumption; done)); (focus (walk_at "hp"; done)))
  | ((with_reducible apply g_Kind_word); (focus (assumption; done)); (focus (walk_at "hp"; done))))
/-- what groups tells: None, or a tuple of places -/
def GD (d : PyData) : Prop := d = .none ∨ ∃ xs : List Int, d = .tuple (xs.map PyData.int) ∧ xs.length ≤ 3
theorem firstR_ex {α : Type} {lo hi : Nat} {f : Nat → Option α} {x : α} (h : firstR lo hi f = some x) : ∃ k, f k = some x := by
  unfold firstR at h
  obtain ⟨k, _, e⟩ := List.exists_of_findSome?_eq_some h
  exact ⟨k, e⟩
theorem grp_gd (b0 : Bool) (eb : Nat → Nat → Bool) (tb : Nat → Nat → Nat → Bool) (n : Nat) : GD (grpD b0 eb tb n) := by
  unfold grpD
  split
  · exact .inr ⟨[], rfl, by decide⟩
  · split
    · rename_i d e
      obtain ⟨i, e⟩ := firstR_ex e
      obtain ⟨l, e⟩ := firstR_ex e
      split at e
      · cases e; exact .inr ⟨[(i : Nat), (l : Nat)], rfl, by simp⟩
      · cases e
    · cases e : trD tb n with
      | none => exact .inl rfl
      | some d =>
        obtain ⟨i, e⟩ := firstR_ex e
        obtain ⟨j, e⟩ := firstR_ex e
        obtain ⟨l, e⟩ := firstR_ex e
        split at e
        · cases e; exact .inr ⟨[(i : Nat), (j : Nat), (l : Nat)], rfl, by simp⟩
        · cases e
theorem GD.ok {d : PyData} (h : GD d) : noDic d = true ∧ d.depth ≤ 60 := by
  rcases h with rfl | ⟨xs, rfl, _⟩
  · exact ⟨rfl, (by decide : 0 ≤ 60)⟩
  · refine ⟨noDic_ints xs, ?_⟩
    show PyData.depthAll (xs.map PyData.int) + 1 ≤ 60
    rw [depthAll_ints]
    decide
theorem w_neS {H : Hp} {Q : VK} {x y : V} {d : PyData} {S S' : Addr → Prop} (rx : R S H x d) (ry : R S' H y d) (h1 : noDic d = true) (h2 : d.depth ≤ 60) (q : Q (.bl false) H) : oNeD x y H Q := by
  refine w_neD rx ry h1 h1 (by omega) ?_
  rw [eqv_self d h1]
  exact q
theorem ints_data {H : Hp} {p : Addr} {ns : List Int} (h : H p = some (.lst (ns.map V.int))) : R (fun _ => True) H (.ref p) (.list (ns.map PyData.int)) := by
  refine .lst trivial h ?_
  clear h
  induction ns with
  | nil => exact .nil
  | cons n r ih => exact .cons (.int n) ih
theorem ints_ok (ns : List Int) : noDic (.list (ns.map PyData.int)) = true ∧ (PyData.list (ns.map PyData.int)).depth ≤ 60 := by
  refine ⟨noDics_of fun d hd => by obtain ⟨i, _, rfl⟩ := List.mem_map.mp hd; rfl, ?_⟩
  show PyData.depthAll (ns.map PyData.int) + 1 ≤ 60
  rw [depthAll_ints]
  decide
end Fg
namespace Fg
open PySem PySem.Spec PyProof.Rows L2 LamX LmX
local macro_rules | `(tactic| walk_at "hp") => `(tactic| first
  | assumption
  | exact upd_same
  | (refine Chg.at (by assumption) ?_; walk_at "hp")
  | (refine Chg.at1 (by assumption) ?_ (by walk_at "ne"); walk_at "hp"))
local macro_rules | `(tactic| walk_at "ne") => `(tactic| first | assumption | (apply Ne.symm; assumption))
local macro_rules | `(tactic| walk_at "sq") => `(tactic| first | assumption | exact sqL (by walk_at "hp") | (refine Chg.seq (by assumption) ?_; walk_at "sq"))
local macro_rules | `(tactic| walk_at "sz") => `(tactic| first | assumption | exact Nat.zero_le _ | (simp only [List.length_cons, List.length_nil]; decide) | exact Nat.le_trans (by first | omega | (simp; done) | (simp; omega)) (show 100000 ≤ sizeLine by decide) | exact Nat.lt_of_lt_of_le (by first | omega | (simp; done) | (simp; omega)) (show 100000 ≤ sizeLine by decide))
local macro_rules | `(tactic| walk_at "ix") => `(tactic| first | exact at0 | exact at1 | exact at2 | exact at3 | assumption | exact rfl | walk_at "ix2")
local macro_rules | `(tactic| walk_at "ix2") => `(tactic| fail)
local macro_rules | `(tactic| walk_at "num") => `(tactic| first | assumption | omega | decide | walk_at "num2")
local macro_rules | `(tactic| walk_at "num2") => `(tactic| fail)
local macro_rules | `(tactic| walk_at "im") => `(tactic| first | assumption | exact R.non (S := fun _ => False) | exact R.bl (S := fun _ => False) _ | exact R.int (S := fun _ => False) _ | exact R.str (S := fun _ => False) _ | (refine R.im (by assumption) ?_; walk_at "im"))
local macro_rules | `(tactic| walk_at "r") => `(tactic| first | assumption | exact R.non (S := fun _ => False) | exact R.bl (S := fun _ => False) _ | exact R.int (S := fun _ => False) _ | exact R.str (S := fun _ => False) _ | (refine R.same (by assumption) ?_; walk_at "r") | exact R.any (by walk_at "im"))
local macro_rules | `(tactic| walk_at "chg") => `(tactic| first
  | exact Chg.refl
  | assumption
  | (refine Chg.same ?_ (by assumption); walk_at "chg")
  | (refine Chg.both ?_ (by assumption); walk_at "chg")
  | (refine Chg.pre (by assumption) ?_; walk_at "chg"))
local macro_rules | `(tactic| walk_at "w1") => `(tactic| first
  | with_reducible apply w_seq
  | with_reducible apply w_asg
  | ((with_reducible apply w_var); (focus (exact rfl)))
  | with_reducible apply w_c
  | with_reducible apply w_op
  | with_reducible apply w_cons
  | with_reducible apply w_nil
  | with_reducible apply w_gName
  | with_reducible apply w_if
  | with_reducible apply w_test
  | with_reducible apply w_B
  | with_reducible apply w_isbl
  | with_reducible apply w_retN
  | with_reducible apply w_next
  | with_reducible apply w_drop
  | with_reducible apply w_cb
  | with_reducible apply w_call
  | with_reducible apply w_callN
  | with_reducible apply w_bm
  | with_reducible apply w_bm0
  | ((with_reducible apply w_tyL); (focus (walk_at "hp"; done)))
  | with_reducible apply w_dput
  | with_reducible apply w_m1
  | with_reducible apply w_isstr
  | with_reducible apply w_and
  | with_reducible apply w_or
  | with_reducible apply w_not
  | with_reducible apply w_andV
  | with_reducible apply w_orV
  | with_reducible apply w_notV
  | with_reducible apply w_ifE
  | with_reducible apply w_chain
  | with_reducible apply w_un
  | with_reducible apply w_neg
  | with_reducible apply w_add
  | with_reducible apply w_sub
  | ((with_reducible apply w_mod); (focus (walk_at "num"; done)))
  | ((with_reducible apply w_mul); (focus (walk_at "num"; done)))
  | ((with_reducible apply w_fdiv); (focus (walk_at "num"; done)))
  | ((with_reducible apply w_pow); (focus (walk_at "num"; done)))
  | with_reducible apply w_lt
  | with_reducible apply w_le
  | with_reducible apply w_gt
  | with_reducible apply w_ge
  | with_reducible apply w_ltS
  | with_reducible apply w_geS
  | with_reducible apply w_inC
  | with_reducible apply w_notInC
  | with_reducible apply w_isN
  | with_reducible apply w_notN
  | with_reducible apply w_isB
  | with_reducible apply w_notB
  | ((with_reducible apply w_addS); (focus (walk_at "sz"; done)))
  | ((with_reducible apply w_ixL); (focus (walk_at "sq"; done)); (focus (walk_at "ix"; done)))
  | ((with_reducible apply w_ixT); (focus (walk_at "hp"; done)); (focus (walk_at "ix"; done)))
  | ((with_reducible apply w_ixS); (focus (walk_at "sz"; done)); (focus (walk_at "ix"; done)))
  | with_reducible apply w_gSub
  | ((with_reducible apply w_gTup); (focus (walk_at "hp"; done)); (focus (exact rfl)))
  | with_reducible apply w_gCons
  | with_reducible apply w_gNil
  | ((with_reducible apply w_aug); (focus (exact rfl)))
  | with_reducible apply w_ipI
  | ((with_reducible apply w_eq); (focus (exact rfl)))
  | ((with_reducible apply w_ne); (focus (exact rfl)))
  | with_reducible apply w_max
  | with_reducible apply w_min
  | with_reducible apply w_abs
  | with_reducible apply w_intB
  | with_reducible apply w_intI
  | with_reducible apply w_tup1
  | with_reducible apply w_lst1
  | with_reducible apply w_sl
  | with_reducible apply w_part
  | with_reducible apply w_noPart
  | with_reducible apply w_isint
  | ((with_reducible apply w_slS); (focus (walk_at "sz"; done)))
  | with_reducible apply w_iteT
  | with_reducible apply w_iteF
  | with_reducible apply w_iteN
  | ((with_reducible apply w_iteYes); (focus (exact rfl)))
  | ((with_reducible apply w_iteNo); (focus (exact rfl)))
  | ((with_reducible apply w_lenL); (focus (walk_at "sq"; done)))
  | ((with_reducible apply w_lenT); (focus (walk_at "hp"; done)))
  | ((with_reducible apply w_lenS); (focus (walk_at "sz"; done)))
  | with_reducible apply w_lc
  | with_reducible apply w_for
  | with_reducible apply w_yes
  | ((with_reducible apply w_wipe); (focus (exact rfl)))
  | with_reducible apply w_iList
  | with_reducible apply w_iTup
  | with_reducible apply w_iStr
  | with_reducible apply w_iRng1
  | with_reducible apply w_iRng2
  | with_reducible apply w_iZip
  | with_reducible apply w_iEnum
  | ((with_reducible apply d_iList); (focus (walk_at "sq"; done)))
  | ((with_reducible apply d_iTup); (focus (walk_at "hp"; done)))
  | with_reducible apply d_iStr
  | ((with_reducible apply d_iRng1); (focus (walk_at "num"; done)); (focus (walk_at "num"; done)))
  | ((with_reducible apply d_iRng2); (focus (walk_at "num"; done)); (focus (walk_at "num"; done)); (focus (walk_at "num"; done)); (focus (walk_at "num"; done)))
  | ((with_reducible apply d_iZip); (focus (walk_at "sq"; done)); (focus (walk_at "sq"; done)))
  | ((with_reducible apply d_iEnum); (focus (walk_at "sq"; done)))
  | walk_at "w2")
local macro_rules | `(tactic| walk_at "w2") => `(tactic| fail)
local macro_rules | `(tactic| walk_at "wn") => `(tactic| repeat walk_at "w1")
local macro_rules | `(tactic| walk_at "w") => `(tactic| repeat (first | walk_at "w1" | with_reducible apply w_ret))
local macro_rules | `(tactic| walk_at "w2") => `(tactic| first
  | ((with_reducible apply w_isInt); (focus (walk_at "r"; done)))
  | ((with_reducible apply w_isBool); (focus (walk_at "r"; done)))
  | ((with_reducible apply w_isStr); (focus (walk_at "r"; done)))
  | ((with_reducible apply w_isTup); (focus (walk_at "r"; done)))
  | ((with_reducible apply w_isLst); (focus (walk_at "r"; done)))
  | with_reducible apply w_fld
  | with_reducible apply w_sfld
  | with_reducible apply w_faug
  | with_reducible apply w_rAdd
  | with_reducible apply w_rSub
  | with_reducible apply w_make
  | with_reducible apply w_orT
  | with_reducible apply w_dgetd
  | with_reducible apply w_dgetk
  | with_reducible apply w_dsetd
  | ((with_reducible apply k_dgetd); (focus (walk_at "hp"; done)))
  | ((with_reducible apply k_dsetd); (focus (walk_at "hp"; done)))
  | walk_at "w3")
local macro_rules | `(tactic| walk_at "w3") => `(tactic| fail)
local macro_rules | `(tactic| walk_at "w3") => `(tactic| first
  | with_reducible apply w_mt
  | with_reducible apply w_makeX
  | ((with_reducible apply m_Kind); (focus (walk_at "hp"; done)); (focus (exact rfl)))
  | ((with_reducible apply g_Kind_joining); (focus (assumption; done)); (focus (walk_at "hp"; done)))
  | ((with_reducible apply g_Kind_none); (focus (assumption; done)); (focus (walk_at "hp"; done)))
  | ((with_reducible apply g_Kind_making); (focus (assumption; done)); (focus (walk_at "hp"; done)))
  | ((with_reducible apply g_Kind_word); (focus (assumption; done)); (focus (walk_at "hp"; done))))
abbrev clB (n : Nat) : List (Str × Addr) := [("other", n + 4), ("one", n + 3), ("joiner", n + 2), ("first", n + 1)]
abbrev csB (n : Nat) : List Addr := [n + 1, n + 2, n + 3, n + 4]
abbrev jsB : List Nat := [4, 3, 14, 15]
def PL (K : PySem.W.Frag) : Addr := LmX.tabP K "law"
theorem w_callC {cs : List Addr} {js : List Nat} {sp : Sp} {t : TA} {σ : L2.St} {H : Hp} {Q : VK} (h : t σ H fun vs H1 => ∃ ws : List V, js.map (NdefX.slotAt σ) = ws.map some ∧ ∀ oo : Addr → Obj, (∀ c ∈ cs, H1 c = none) →
  sp vs (on cs (cg (cvv cs ws) oo) H1) (fun v H' => (∀ c ∈ cs, H' c = some (cg (cvv cs ws) oo c)) ∧ Q v (off cs H')) L2.E0) : tCallC cs js sp t σ H Q := h
theorem chg_up {cs : List Addr} {g : Addr → HO} {H : Hp} (n : ∀ c ∈ cs, H c = none) : Chg [] H (on cs g H) := by
  refine ⟨fun a o e _ => on_keep n e, fun a e => ?_, fun a xs e => on_keep n e⟩
  by_cases m : a ∈ cs
  · exact n a m
  · rw [on_out m] at e; exact e
theorem chg_down {cs : List Addr} {g : Addr → HO} {H H' : Hp} (n : ∀ c ∈ cs, H c = none) (c : Chg [] (on cs g H) H') : Chg [] H (off cs H') := by
  refine ⟨fun a o e _ => ?_, fun a e => ?_, fun a xs e => ?_⟩
  · have m : a ∉ cs := fun m => by rw [n a m] at e; cases e
    rw [off_out m]; exact c.keep a o (on_keep n e) (by simp)
  · by_cases m : a ∈ cs
    · exact n a m
    · rw [off_out m] at e
      have := c.dom a e
      rw [on_out m] at this; exact this
  · have m : a ∉ cs := fun m => by rw [n a m] at e; cases e
    rw [off_out m]; exact c.tup a xs (on_keep n e)
theorem im_off {cs : List Addr} {vv : Addr → V} {oo : Addr → Obj} {H : Hp} {v : V} {d : PyData} (n : ∀ c ∈ cs, H c = some (cg vv oo c)) (r : Im H v d) : Im (off cs H) v d :=
  r.imp (fun a xs s e => s.elim) (fun a xs s e => s.elim) fun a xs e => by rw [off_out fun m => by rw [n a m] at e; cases e]; exact e
theorem capB {n : Nat} {ws : List V} {oo : Addr → Obj} {H : Hp} {v1 g o1 p1 : V} (e : ws = [v1, g, o1, p1]) : CapH (clB n) frB (csB n) ws (cvv (csB n) ws) oo (on (csB n) (cg (cvv (csB n) ws) oo) H) := by
  subst e
  have l1 : (clB n).lookup (Str.ofString "first") = some (n + 1) := rfl
  have l2 : (clB n).lookup (Str.ofString "joiner") = some (n + 2) := rfl
  have l3 : (clB n).lookup (Str.ofString "one") = some (n + 3) := rfl
  have l4 : (clB n).lookup (Str.ofString "other") = some (n + 4) := rfl
  have lk : ∀ (y : Str) (c : Addr), (clB n).lookup y = some c → (y = "first" ∧ c = n + 1) ∨ (y = "joiner" ∧ c = n + 2) ∨ (y = "one" ∧ c = n + 3) ∨ (y = "other" ∧ c = n + 4) := fun y c h => by
    have hm := PySem.mem_of_lookup h
    simp only [clB, List.mem_cons, Prod.mk.injEq, List.not_mem_nil, or_false] at hm
    rcases hm with ⟨a, b⟩ | ⟨a, b⟩ | ⟨a, b⟩ | ⟨a, b⟩
    · exact .inr (.inr (.inr ⟨a, b⟩))
    · exact .inr (.inr (.inl ⟨a, b⟩))
    · exact .inr (.inl ⟨a, b⟩)
    · exact .inl ⟨a, b⟩
  have nd : (csB n).Nodup := by simp [csB]
  refine ⟨fun c m => on_in m, fun y c h => ?_, fun x y c h1 h2 => ?_, rfl, fun i y h => ?_⟩
  · rcases lk y c h with ⟨_, e⟩ | ⟨_, e⟩ | ⟨_, e⟩ | ⟨_, e⟩ <;> simp [csB, e]
  · rcases lk x c h1 with ⟨a, b⟩ | ⟨a, b⟩ | ⟨a, b⟩ | ⟨a, b⟩ <;> rcases lk y c h2 with ⟨a', b'⟩ | ⟨a', b'⟩ | ⟨a', b'⟩ | ⟨a', b'⟩ <;> first | exact a.trans a'.symm | (exfalso; have z : (_ : Nat) = _ := b.symm.trans b'; omega)
  · match i, h with
    | 0, h => cases h; exact ⟨_, v1, l1, rfl, by unfold cvv; rw [zip_get (i := 0) nd rfl rfl]; rfl⟩
    | 1, h => cases h; exact ⟨_, g, l2, rfl, by unfold cvv; rw [zip_get (i := 1) nd rfl rfl]; rfl⟩
    | 2, h => cases h; exact ⟨_, o1, l3, rfl, by unfold cvv; rw [zip_get (i := 2) nd rfl rfl]; rfl⟩
    | 3, h => cases h; exact ⟨_, p1, l4, rfl, by unfold cvv; rw [zip_get (i := 3) nd rfl rfl]; rfl⟩
    | i + 4, h => simp [frB] at h
/-- the lambda where the cells are told -/
theorem jvb_at {K : PySem.W.Frag} {L : Nat → Addr → LF} {S : Addr → Prop} {H : Hp} {n : Nat} {f c' : Addr} {v1 g o1 p1 : V} {oo : Addr → Obj} {jf : PyData → PyData → Option PyData} {nd d1 d2 : PyData} (q31 : (L 31 c').qual = QB) (hf : H f = some (LmO f (LB L (clB n) c'))) (hc : H c' = some (CodeO c' QB)) (nn : ∀ c ∈ csB n, H c = none)
    (hj : JV K L H g jf) (r1 : R S H v1 nd) (r2 : R S H o1 d1) (r3 : R S H p1 d2) : JVS K L S (on (csB n) (cg (cvv (csB n) [v1, g, o1, p1]) oo) H) (.ref f) (bdD jf nd d1 d2) := by
  have c := chg_up (g := cg (cvv (csB n) [v1, g, o1, p1]) oo) nn
  exact .inr ⟨f, c', clB n, csB n, v1, g, o1, p1, _, oo, jf, nd, d1, d2, rfl, q31, c.at hf, c.at hc, (fun m => by rw [nn f m] at hf; cases hf), (fun m => by rw [nn c' m] at hc; cases hc), capB rfl, by rw [off_on nn]; exact hj, r1.same c, r2.same c, r3.same c, rfl⟩
def t_lb10 (K : PySem.W.Frag) (L : Nat → Addr → LmX.LF) (n : Nat) : TS :=
    tSeq (tAsg (tCall sp__law_draw [] E0 (tCons (tVar 1) (tCons (tOp oSub (tCB (cLenQ K) (tCons (tVar 6) (tNil))) (tC (.int 2))) (tNil)))) (gName 11))
    (tSeq (tAsg (tOp oAdd (tOp oAdd (tVar 11) (tC (.int 1))) (tCall sp__law_draw [] E0 (tCons (tVar 1) (tCons (tOp oSub (tOp oSub (tCB (cLenQ K) (tCons (tVar 6) (tNil))) (tVar 11)) (tC (.int 2))) (tNil))))) (gName 12))
    (tSeq (tAsg (tOp oAdd (tOp oAdd (tVar 12) (tC (.int 1))) (tCall sp__law_draw [] E0 (tCons (tVar 1) (tCons (tOp oSub (tCB (cLenQ K) (tCons (tVar 6) (tNil))) (tVar 12)) (tNil))))) (gName 13))
    (tSeq (tAsg (tCall (sp__law_stretch K L) [] E0 (tCons (tVar 2) (tCons (tSl (rSlL K) (tVar 6) (tPart (tVar 11)) (tPart (tVar 12))) (tNil)))) (gName 14))
    (tSeq (tAsg (tCall (sp__law_stretch K L) [] E0 (tCons (tVar 2) (tCons (tSl (rSlL K) (tVar 6) (tPart (tVar 12)) (tPart (tVar 13))) (tNil)))) (gName 15))
    (tSeq (tAsg (tTup (tCons (tLam (tabP K "law") QB (LB L (clB n))) (tCons (tVar 4) (tCons (tVar 5) (tNil))))) (gName 16))
    (tSeq (tAsg (tCallC (csB n) jsB (sp__law_first_err K L) (tCons (tVar 16) (tCons (tVar 6) (tNil)))) (gName 17))
    (tRet (tAndV (tOp oEqD (tCallC (csB n) jsB (sp_groups K L) (tCons (tMake (He.ga K "Kind") (sp_Kind___init__ K) [.str "kind"] E0 (tCons (tOp (rIxT K) (tVar 16) (tC (.int 0))) (tCons (tOp (rIxT K) (tVar 16) (tC (.int 1))) (tCons (tOp (rIxT K) (tVar 16) (tC (.int 2))) (tNil))))) (tCons (tVar 7) (tNil)))) (tVar 17)) (tOp oEqD (tVar 7) (tVar 6))))))))))
def t_lb16 (K : PySem.W.Frag) (L : Nat → Addr → LmX.LF) (n : Nat) : TS :=
    tSeq (tAsg (tCallC (csB n) jsB (sp__law_first_err K L) (tCons (tVar 16) (tCons (tVar 6) (tNil)))) (gName 17))
    (tRet (tAndV (tOp oEqD (tCallC (csB n) jsB (sp_groups K L) (tCons (tMake (He.ga K "Kind") (sp_Kind___init__ K) [.str "kind"] E0 (tCons (tOp (rIxT K) (tVar 16) (tC (.int 0))) (tCons (tOp (rIxT K) (tVar 16) (tC (.int 1))) (tCons (tOp (rIxT K) (tVar 16) (tC (.int 2))) (tNil))))) (tCons (tVar 7) (tNil)))) (tVar 17)) (tOp oEqD (tVar 7) (tVar 6))))
end Fg
namespace Fg
open PySem PySem.Spec PyProof.Rows L2 LamX LmX
local macro_rules | `(tactic| walk_at "hp") => `(tactic| first
  | assumption
  | exact upd_same
  | (refine Chg.at (by assumption) ?_; walk_at "hp")
  | (refine Chg.at1 (by assumption) ?_ (by walk_at "ne"); walk_at "hp"))
local macro_rules | `(tactic| walk_at "ne") => `(tactic| first | assumption | (apply Ne.symm; assumption))
local macro_rules | `(tactic| walk_at "sq") => `(tactic| first | assumption | exact sqL (by walk_at "hp") | (refine Chg.seq (by assumption) ?_; walk_at "sq"))
local macro_rules | `(tactic| walk_at "sz") => `(tactic| first | assumption | exact Nat.zero_le _ | (simp only [List.length_cons, List.length_nil]; decide) | exact Nat.le_trans (by first | omega | (simp; done) | (simp; omega)) (show 100000 ≤ sizeLine by decide) | exact Nat.lt_of_lt_of_le (by first | omega | (simp; done) | (simp; omega)) (show 100000 ≤ sizeLine by decide))
local macro_rules | `(tactic| walk_at "ix") => `(tactic| first | exact at0 | exact at1 | exact at2 | exact at3 | assumption | exact rfl | walk_at "ix2")
local macro_rules | `(tactic| walk_at "ix2") => `(tactic| fail)
local macro_rules | `(tactic| walk_at "num") => `(tactic| first | assumption | omega | decide | walk_at "num2")
local macro_rules | `(tactic| walk_at "num2") => `(tactic| fail)
local macro_rules | `(tactic| walk_at "im") => `(tactic| first | assumption | exact R.non (S := fun _ => False) | exact R.bl (S := fun _ => False) _ | exact R.int (S := fun _ => False) _ | exact R.str (S := fun _ => False) _ | (refine R.im (by assumption) ?_; walk_at "im"))
local macro_rules | `(tactic| walk_at "r") => `(tactic| first | assumption | exact R.non (S := fun _ => False) | exact R.bl (S := fun _ => False) _ | exact R.int (S := fun _ => False) _ | exact R.str (S := fun _ => False) _ | (refine R.same (by assumption) ?_; walk_at "r") | exact R.any (by walk_at "im"))
local macro_rules | `(tactic| walk_at "chg") => `(tactic| first
  | exact Chg.refl
  | assumption
  | (refine Chg.same ?_ (by assumption); walk_at "chg")
  | (refine Chg.both ?_ (by assumption); walk_at "chg")
  | (refine Chg.pre (by assumption) ?_; walk_at "chg"))
local macro_rules | `(tactic| walk_at "w1") => `(tactic| first
  | with_reducible apply w_seq
  | with_reducible apply w_asg
  | ((with_reducible apply w_var); (focus (exact rfl)))
  | with_reducible apply w_c
  | with_reducible apply w_op
  | with_reducible apply w_cons
  | with_reducible apply w_nil
  | with_reducible apply w_gName
  | with_reducible apply w_if
  | with_reducible apply w_test
  | with_reducible apply w_B
  | with_reducible apply w_isbl
  | with_reducible apply w_retN
  | with_reducible apply w_next
  | with_reducible apply w_drop
  | with_reducible apply w_cb
  | with_reducible apply w_call
  | with_reducible apply w_callN
  | with_reducible apply w_bm
  | with_reducible apply w_bm0
  | ((with_reducible apply w_tyL); (focus (walk_at "hp"; done)))
  | with_reducible apply w_dput
  | with_reducible apply w_m1
  | with_reducible apply w_isstr
  | with_reducible apply w_and
  | with_reducible apply w_or
  | with_reducible apply w_not
  | with_reducible apply w_andV
  | with_reducible apply w_orV
  | with_reducible apply w_notV
  | with_reducible apply w_ifE
  | with_reducible apply w_chain
  | with_reducible apply w_un
  | with_reducible apply w_neg
  | with_reducible apply w_add
  | with_reducible apply w_sub
  | ((with_reducible apply w_mod); (focus (walk_at "num"; done)))
  | ((with_reducible apply w_mul); (focus (walk_at "num"; done)))
  | ((with_reducible apply w_fdiv); (focus (walk_at "num"; done)))
  | ((with_reducible apply w_pow); (focus (walk_at "num"; done)))
  | with_reducible apply w_lt
  | with_reducible apply w_le
  | with_reducible apply w_gt
  | with_reducible apply w_ge
  | with_reducible apply w_ltS
  | with_reducible apply w_geS
  | with_reducible apply w_inC
  | with_reducible apply w_notInC
  | with_reducible apply w_isN
  | with_reducible apply w_notN
  | with_reducible apply w_isB
  | with_reducible apply w_notB
  | ((with_reducible apply w_addS); (focus (walk_at "sz"; done)))
  | ((with_reducible apply w_ixL); (focus (walk_at "sq"; done)); (focus (walk_at "ix"; done)))
  | ((with_reducible apply w_ixT); (focus (walk_at "hp"; done)); (focus (walk_at "ix"; done)))
  | ((with_reducible apply w_ixS); (focus (walk_at "sz"; done)); (focus (walk_at "ix"; done)))
  | with_reducible apply w_gSub
  | ((with_reducible apply w_gTup); (focus (walk_at "hp"; done)); (focus (exact rfl)))
  | with_reducible apply w_gCons
  | with_reducible apply w_gNil
  | ((with_reducible apply w_aug); (focus (exact rfl)))
  | with_reducible apply w_ipI
  | ((with_reducible apply w_eq); (focus (exact rfl)))
  | ((with_reducible apply w_ne); (focus (exact rfl)))
  | with_reducible apply w_max
  | with_reducible apply w_min
  | with_reducible apply w_abs
  | with_reducible apply w_intB
  | with_reducible apply w_intI
  | with_reducible apply w_tup1
  | with_reducible apply w_lst1
  | with_reducible apply w_sl
  | with_reducible apply w_part
  | with_reducible apply w_noPart
  | with_reducible apply w_isint
  | ((with_reducible apply w_slS); (focus (walk_at "sz"; done)))
  | with_reducible apply w_iteT
  | with_reducible apply w_iteF
  | with_reducible apply w_iteN
  | ((with_reducible apply w_iteYes); (focus (exact rfl)))
  | ((with_reducible apply w_iteNo); (focus (exact rfl)))
  | ((with_reducible apply w_lenL); (focus (walk_at "sq"; done)))
  | ((with_reducible apply w_lenT); (focus (walk_at "hp"; done)))
  | ((with_reducible apply w_lenS); (focus (walk_at "sz"; done)))
  | with_reducible apply w_lc
  | with_reducible apply w_for
  | with_reducible apply w_yes
  | ((with_reducible apply w_wipe); (focus (exact rfl)))
  | with_reducible apply w_iList
  | with_reducible apply w_iTup
  | with_reducible apply w_iStr
  | with_reducible apply w_iRng1
  | with_reducible apply w_iRng2
  | with_reducible apply w_iZip
  | with_reducible apply w_iEnum
  | ((with_reducible apply d_iList); (focus (walk_at "sq"; done)))
  | ((with_reducible apply d_iTup); (focus (walk_at "hp"; done)))
  | with_reducible apply d_iStr
  | ((with_reducible apply d_iRng1); (focus (walk_at "num"; done)); (focus (walk_at "num"; done)))
  | ((with_reducible apply d_iRng2); (focus (walk_at "num"; done)); (focus (walk_at "num"; done)); (focus (walk_at "num"; done)); (focus (walk_at "num"; done)))
  | ((with_reducible apply d_iZip); (focus (walk_at "sq"; done)); (focus (walk_at "sq"; done)))
  | ((with_reducible apply d_iEnum); (focus (walk_at "sq"; done)))
  | walk_at "w2")
local macro_rules | `(tactic| walk_at "w2") => `(tactic| fail)
local macro_rules | `(tactic| walk_at "wn") => `(tactic| repeat walk_at "w1")
local macro_rules | `(tactic| walk_at "w") => `(tactic| repeat (first | walk_at "w1" | with_reducible apply w_ret))
local macro_rules | `(tactic| walk_at "w2") => `(tactic| first
  | ((with_reducible apply w_isInt); (focus (walk_at "r"; done)))
  | ((with_reducible apply w_isBool); (focus (walk_at "r"; done)))
  | ((with_reducible apply w_isStr); (focus (walk_at "r"; done)))
  | ((with_reducible apply w_isTup); (focus (walk_at "r"; done)))
  | ((with_reducible apply w_isLst); (focus (walk_at "r"; done)))
  | with_reducible apply w_fld
  | with_reducible apply w_sfld
  | with_reducible apply w_faug
  | with_reducible apply w_rAdd
  | with_reducible apply w_rSub
  | with_reducible apply w_make
  | with_reducible apply w_orT
  | with_reducible apply w_dgetd
  | with_reducible apply w_dgetk
  | with_reducible apply w_dsetd
  | ((with_reducible apply k_dgetd); (focus (walk_at "hp"; done)))
  | ((with_reducible apply k_dsetd); (focus (walk_at "hp"; done)))
  | walk_at "w3")
local macro_rules | `(tactic| walk_at "w3") => `(tactic| fail)
local macro_rules | `(tactic| walk_at "w3") => `(tactic| first
  | with_reducible apply w_mt
  | with_reducible apply w_makeX
  | ((with_reducible apply m_Kind); (focus (walk_at "hp"; done)); (focus (exact rfl)))
  | ((with_reducible apply g_Kind_joining); (focus (assumption; done)); (focus (walk_at "hp"; done)))
  | ((with_reducible apply g_Kind_none); (focus (assumption; done)); (focus (walk_at "hp"; done)))
  | ((with_reducible apply g_Kind_making); (focus (assumption; done)); (focus (walk_at "hp"; done)))
  | ((with_reducible apply g_Kind_word); (focus (assumption; done)); (focus (walk_at "hp"; done))))
theorem grp_ok (b0 : Bool) (eb : Nat → Nat → Bool) (tb : Nat → Nat → Nat → Bool) (n : Nat) : noDic (grpD b0 eb tb n) = true ∧ (grpD b0 eb tb n).depth ≤ 60 := (grp_gd b0 eb tb n).ok
theorem lb16 {K : PySem.W.Frag} {L : Nat → Addr → LF} (C : C_Kind K) {n : Nat} {H : Hp} {D : Ends} {f c' T2 p6 p7 : Addr} {g v1 mm u1 u2 : V} {ns : List Int} {S : Addr → Prop} {W : Nat → PyData → Prop} {jf : PyData → PyData → Option PyData} {nd d1 d2 : PyData} {mf : Int → Option PyData} {a0 a1 a2 a5 a8 a9 a10 a11 a12 a13 a17 : Option V}
    (q31 : ∀ c, (L 31 c).qual = QB) (hf : H f = some (LmO f (LB L (clB n) c'))) (hc : H c' = some (CodeO c' QB)) (hT : H T2 = some (.tup [.ref f, v1, mm])) (hj : JV K L H g jf) (hm : MV L H mm mf) (rn : R S H v1 nd) (r1 : R S H u1 d1) (r2 : R S H u2 d2) (fr : ∀ x, H x = none → S x)
    (hr : H p6 = some (.lst (ns.map V.int))) (h7 : H p7 = some (.lst (ns.map V.int))) (hz : ns.length ≤ 40) (hs : ∀ n ∈ ns, Sm n) (se : SemK W (bdD jf nd d1 d2) nd mf) (q : ∀ H', D.rt (.bl true) H') :
    t_lb16 K L n D [a0, a1, a2, some g, some v1, a5, some (.ref p6), some (.ref p7), a8, a9, a10, a11, a12, a13, some u1, some u2, some (.ref T2), a17] H := by
  unfold t_lb16
  have go := se.grp hz hs
  obtain ⟨o1, o2⟩ := grp_ok (b0D (bdD jf nd d1 d2) nd) (ebD (bdD jf nd d1 d2) nd mf ns) (tbD (bdD jf nd d1 d2) mf ns) ns.length
  walk_at "wn"
  refine w_callC ?_
  walk_at "wn"
  refine ⟨[v1, g, u1, u2], rfl, fun oo nn => ?_⟩
  have c := chg_up (g := cg (cvv (csB n) [v1, g, u1, u2]) oo) nn
  have js := jvb_at (oo := oo) (q31 c') hf hc nn hj rn r1 r2
  refine ⟨T2, p6, ns, S, _, nd, mf, _, _, _, _, rfl, c.at hr, hz, ⟨.ref f, v1, mm, c.at hT, js, rn.same c, hm.keep c .nil⟩, fresh_chg c fr, go, fun v H1 c1 im => ⟨fun x m => c1.at (on_in m), ?_⟩⟩
  have im1 := im_off (fun x m => c1.at (on_in m)) im
  have c01 := chg_down nn c1
  clear c js nn im c1
  generalize off (csB n) H1 = H2 at *
  have hT1 := c01.at hT
  walk_at "w"
  refine w_callC ?_
  walk_at "wn"
  refine k_make fun a dx H3 na nd' ne c3 h3 => ?_
  refine ⟨a, dx, .ref f, v1, mm, .str "kind", rfl, h3, fun H4 c4 h4 => ⟨rfl, ?_⟩⟩
  have c24 : Chg [] H2 H4 := c3.one c4 na
  have c04 := c01.same c24
  walk_at "wn"
  refine ⟨[v1, g, u1, u2], rfl, fun oo nn => ?_⟩
  have c := chg_up (g := cg (cvv (csB n) [v1, g, u1, u2]) oo) nn
  have js := jvb_at (oo := oo) (q31 c') (c04.at hf) (c04.at hc) nn (hj.keep c04 .nil) (rn.same c04) (r1.same c04) (r2.same c04)
  refine ⟨a, p7, ns, S, _, nd, mf, _, _, _, _, rfl, c.at (c04.at h7), hz, ⟨dx, _, _, _, _, c.at h4, js, (rn.same c04).same c, (hm.keep c04 .nil).keep c .nil⟩, fresh_chg c (fresh_chg c04 fr), go, fun w H5 c5 im5 => ⟨fun x m => c5.at (on_in m), ?_⟩⟩
  have im6 := im_off (fun x m => c5.at (on_in m)) im5
  have c46 := chg_down nn c5
  clear c js nn im5 c5
  generalize off (csB n) H5 = H6 at *
  have c06 := c04.same c46
  walk_at "wn"
  refine w_eqD im6 (im1.im (c24.same c46)) o1 o1 (by omega) ?_
  rw [eqv_self _ o1]
  have e7 := c06.at h7
  have e6 := c06.at hr
  obtain ⟨k1, k2⟩ := ints_ok ns
  walk_at "w"
  refine w_eqD (ints_data e7) (ints_data e6) k1 k1 (by omega) ?_
  rw [eqv_self _ k1]
  walk_at "w"
  exact q _
end Fg
namespace Fg
open PySem PySem.Spec PyProof.Rows L2 LamX LmX
local macro_rules | `(tactic| walk_at "hp") => `(tactic| first
  | assumption
  | exact upd_same
  | (refine Chg.at (by assumption) ?_; walk_at "hp")
  | (refine Chg.at1 (by assumption) ?_ (by walk_at "ne"); walk_at "hp"))
local macro_rules | `(tactic| walk_at "ne") => `(tactic| first | assumption | (apply Ne.symm; assumption))
local macro_rules | `(tactic| walk_at "sq") => `(tactic| first | assumption | exact sqL (by walk_at "hp") | (refine Chg.seq (by assumption) ?_; walk_at "sq"))
local macro_rules | `(tactic| walk_at "sz") => `(tactic| first | assumption | exact Nat.zero_le _ | (simp only [List.length_cons, List.length_nil]; decide) | exact Nat.le_trans (by first | omega | (simp; done) | (simp; omega)) (show 100000 ≤ sizeLine by decide) | exact Nat.lt_of_lt_of_le (by first | omega | (simp; done) | (simp; omega)) (show 100000 ≤ sizeLine by decide))
local macro_rules | `(tactic| walk_at "ix") => `(tactic| first | exact at0 | exact at1 | exact at2 | exact at3 | assumption | exact rfl | walk_at "ix2")
local macro_rules | `(tactic| walk_at "ix2") => `(tactic| fail)
local macro_rules | `(tactic| walk_at "num") => `(tactic| first | assumption | omega | decide | walk_at "num2")
local macro_rules | `(tactic| walk_at "num2") => `(tactic| fail)
local macro_rules | `(tactic| walk_at "im") => `(tactic| first | assumption | exact R.non (S := fun _ => False) | exact R.bl (S := fun _ => False) _ | exact R.int (S := fun _ => False) _ | exact R.str (S := fun _ => False) _ | (refine R.im (by assumption) ?_; walk_at "im"))
local macro_rules | `(tactic| walk_at "r") => `(tactic| first | assumption | exact R.non (S := fun _ => False) | exact R.bl (S := fun _ => False) _ | exact R.int (S := fun _ => False) _ | exact R.str (S := fun _ => False) _ | (refine R.same (by assumption) ?_; walk_at "r") | exact R.any (by walk_at "im"))
local macro_rules | `(tactic| walk_at "chg") => `(tactic| first
  | exact Chg.refl
  | assumption
  | (refine Chg.same ?_ (by assumption); walk_at "chg")
  | (refine Chg.both ?_ (by assumption); walk_at "chg")
  | (refine Chg.pre (by assumption) ?_; walk_at "chg"))
local macro_rules | `(tactic| walk_at "w1") => `(tactic| first
  | with_reducible apply w_seq
  | with_reducible apply w_asg
  | ((with_reducible apply w_var); (focus (exact rfl)))
  | with_reducible apply w_c
  | with_reducible apply w_op
  | with_reducible apply w_cons
  | with_reducible apply w_nil
  | with_reducible apply w_gName
  | with_reducible apply w_if
  | with_reducible apply w_test
  | with_reducible apply w_B
  | with_reducible apply w_isbl
  | with_reducible apply w_retN
  | with_reducible apply w_next
  | with_reducible apply w_drop
  | with_reducible apply w_cb
  | with_reducible apply w_call
  | with_reducible apply w_callN
  | with_reducible apply w_bm
  | with_reducible apply w_bm0
  | ((with_reducible apply w_tyL); (focus (walk_at "hp"; done)))
  | with_reducible apply w_dput
  | with_reducible apply w_m1
  | with_reducible apply w_isstr
  | with_reducible apply w_and
  | with_reducible apply w_or
  | with_reducible apply w_not
  | with_reducible apply w_andV
  | with_reducible apply w_orV
  | with_reducible apply w_notV
  | with_reducible apply w_ifE
  | with_reducible apply w_chain
  | with_reducible apply w_un
  | with_reducible apply w_neg
  | with_reducible apply w_add
  | with_reducible apply w_sub
  | ((with_reducible apply w_mod); (focus (walk_at "num"; done)))
  | ((with_reducible apply w_mul); (focus (walk_at "num"; done)))
  | ((with_reducible apply w_fdiv); (focus (walk_at "num"; done)))
  | ((with_reducible apply w_pow); (focus (walk_at "num"; done)))
  | with_reducible apply w_lt
  | with_reducible apply w_le
  | with_reducible apply w_gt
  | with_reducible apply w_ge
  | with_reducible apply w_ltS
  | with_reducible apply w_geS
  | with_reducible apply w_inC
  | with_reducible apply w_notInC
  | with_reducible apply w_isN
  | with_reducible apply w_notN
  | with_reducible apply w_isB
  | with_reducible apply w_notB
  | ((with_reducible apply w_addS); (focus (walk_at "sz"; done)))
  | ((with_reducible apply w_ixL); (focus (walk_at "sq"; done)); (focus (walk_at "ix"; done)))
  | ((with_reducible apply w_ixT); (focus (walk_at "hp"; done)); (focus (walk_at "ix"; done)))
  | ((with_reducible apply w_ixS); (focus (walk_at "sz"; done)); (focus (walk_at "ix"; done)))
  | with_reducible apply w_gSub
  | ((with_reducible apply w_gTup); (focus (walk_at "hp"; done)); (focus (exact rfl)))
  | with_reducible apply w_gCons
  | with_reducible apply w_gNil
  | ((with_reducible apply w_aug); (focus (exact rfl)))
  | with_reducible apply w_ipI
  | ((with_reducible apply w_eq); (focus (exact rfl)))
  | ((with_reducible apply w_ne); (focus (exact rfl)))
  | with_reducible apply w_max
  | with_reducible apply w_min
  | with_reducible apply w_abs
  | with_reducible apply w_intB
  | with_reducible apply w_intI
  | with_reducible apply w_tup1
  | with_reducible apply w_lst1
  | with_reducible apply w_sl
  | with_reducible apply w_part
  | with_reducible apply w_noPart
  | with_reducible apply w_isint
  | ((with_reducible apply w_slS); (focus (walk_at "sz"; done)))
  | with_reducible apply w_iteT
  | with_reducible apply w_iteF
  | with_reducible apply w_iteN
  | ((with_reducible apply w_iteYes); (focus (exact rfl)))
  | ((with_reducible apply w_iteNo); (focus (exact rfl)))
  | ((with_reducible apply w_lenL); (focus (walk_at "sq"; done)))
  | ((with_reducible apply w_lenT); (focus (walk_at "hp"; done)))
  | ((with_reducible apply w_lenS); (focus (walk_at "sz"; done)))
  | with_reducible apply w_lc
  | with_reducible apply w_for
  | with_reducible apply w_yes
  | ((with_reducible apply w_wipe); (focus (exact rfl)))
  | with_reducible apply w_iList
  | with_reducible apply w_iTup
  | with_reducible apply w_iStr
  | with_reducible apply w_iRng1
  | with_reducible apply w_iRng2
  | with_reducible apply w_iZip
  | with_reducible apply w_iEnum
  | ((with_reducible apply d_iList); (focus (walk_at "sq"; done)))
  | ((with_reducible apply d_iTup); (focus (walk_at "hp"; done)))
  | with_reducible apply d_iStr
  | ((with_reducible apply d_iRng1); (focus (walk_at "num"; done)); (focus (walk_at "num"; done)))
  | ((with_reducible apply d_iRng2); (focus (walk_at "num"; done)); (focus (walk_at "num"; done)); (focus (walk_at "num"; done)); (focus (walk_at "num"; done)))
  | ((with_reducible apply d_iZip); (focus (walk_at "sq"; done)); (focus (walk_at "sq"; done)))
  | ((with_reducible apply d_iEnum); (focus (walk_at "sq"; done)))
  | walk_at "w2")
local macro_rules | `(tactic| walk_at "w2") => `(tactic| fail)
local macro_rules | `(tactic| walk_at "wn") => `(tactic| repeat walk_at "w1")
local macro_rules | `(tactic| walk_at "w") => `(tactic| repeat (first | walk_at "w1" | with_reducible apply w_ret))
local macro_rules | `(tactic| walk_at "w2") => `(tactic| first
  | ((with_reducible apply w_isInt); (focus (walk_at "r"; done)))
  | ((with_reducible apply w_isBool); (focus (walk_at "r"; done)))
  | ((with_reducible apply w_isStr); (focus (walk_at "r"; done)))
  | ((with_reducible apply w_isTup); (focus (walk_at "r"; done)))
  | ((with_reducible apply w_isLst); (focus (walk_at "r"; done)))
  | with_reducible apply w_fld
  | with_reducible apply w_sfld
  | with_reducible apply w_faug
  | with_reducible apply w_rAdd
  | with_reducible apply w_rSub
  | with_reducible apply w_make
  | with_reducible apply w_orT
  | with_reducible apply w_dgetd
  | with_reducible apply w_dgetk
  | with_reducible apply w_dsetd
  | ((with_reducible apply k_dgetd); (focus (walk_at "hp"; done)))
  | ((with_reducible apply k_dsetd); (focus (walk_at "hp"; done)))
  | walk_at "w3")
local macro_rules | `(tactic| walk_at "w3") => `(tactic| fail)
local macro_rules | `(tactic| walk_at "w3") => `(tactic| first
  | with_reducible apply w_mt
  | with_reducible apply w_makeX
  | ((with_reducible apply m_Kind); (focus (walk_at "hp"; done)); (focus (exact rfl)))
  | ((with_reducible apply g_Kind_joining); (focus (assumption; done)); (focus (walk_at "hp"; done)))
  | ((with_reducible apply g_Kind_none); (focus (assumption; done)); (focus (walk_at "hp"; done)))
  | ((with_reducible apply g_Kind_making); (focus (assumption; done)); (focus (walk_at "hp"; done)))
  | ((with_reducible apply g_Kind_word); (focus (assumption; done)); (focus (walk_at "hp"; done))))
theorem lb10 {K : PySem.W.Frag} {L : Nat → Addr → LF} (C : C_Kind K) {n m : Nat} {H : Hp} {D : Ends} {b T p6 p7 : Addr} {g v1 mm : V} {ns : List Int} {S : Addr → Prop} {W : Nat → PyData → Prop} {jf : PyData → PyData → Option PyData} {nd : PyData} {mf : Int → Option PyData} {a0 a8 a9 a10 a11 a12 a13 a14 a15 a16 a17 : Option V}
    (q31 : ∀ c, (L 31 c).qual = QB) (bag : Bag H b m) (hm : 10 ≤ m) (tL : TabS H (PL K) QB) (hS : ∀ x, S x → x ≠ b ∧ x ≠ PL K) (hT : H T = some (.tup [g, v1, mm])) (hj : JV K L H g jf) (hmv : MV L H mm mf) (rn : R S H v1 nd) (fr : ∀ x, H x = none → S x)
    (hr : H p6 = some (.lst (ns.map V.int))) (h7 : H p7 = some (.lst (ns.map V.int))) (pb6 : p6 ≠ b) (pb7 : p7 ≠ b) (hz : ns.length ≤ 40) (hs : ∀ n ∈ ns, Sm n) (h3 : 3 ≤ ns.length) (se : SemK W jf nd mf) (mo : ∀ a b x, a ≤ b → W a x → W b x) (w0 : W 0 nd) (q : ∀ H', D.rt (.bl true) H') :
    t_lb10 K L n D [a0, some (.ref b), some (.ref T), some g, some v1, some mm, some (.ref p6), some (.ref p7), a8, a9, a10, a11, a12, a13, a14, a15, a16, a17] H := by
  unfold t_lb10
  obtain ⟨x1, x2, x3, hb, _⟩ := id bag
  have nx := noX_lst hb
  have bL : PL K ≠ b := fun e => by obtain ⟨ps, h, _⟩ := tL; rw [e, hb] at h; cases h
  have hSb : ∀ x, S x → x ∉ [b] := fun x s z => (hS x s).1 (List.mem_singleton.mp z)
  have hSL : ∀ x, S x → x ∉ [PL K] := fun x s z => (hS x s).2 (List.mem_singleton.mp z)
  have ll : (ns.map V.int).length = ns.length := List.length_map ..
  have big : (40 : Int) < 10 ^ 30 := by decide
  walk_at "wn"
  refine u_draw bag (by omega) (by rw [ll]; omega) (by rw [ll]; exact Int.lt_of_le_of_lt (by omega) big) fun vi H1 c1 bag1 i0 i1 => ?_
  rw [ll] at i1
  obtain ⟨i, rfl⟩ : ∃ i : Nat, vi = (i : Int) := ⟨vi.toNat, by omega⟩
  have hr1 := c1.at1 hr pb6
  walk_at "wn"
  refine u_draw bag1 (by omega) (by rw [ll]; omega) (by rw [ll]; exact Int.lt_of_le_of_lt (by omega) big) fun vj H2 c2 bag2 j0 j1 => ?_
  rw [ll] at j1
  obtain ⟨j, ej⟩ : ∃ j : Nat, (i : Int) + 1 + vj = (j : Int) := ⟨((i : Int) + 1 + vj).toNat, by omega⟩
  have hr2 := c2.at1 hr1 pb6
  walk_at "wn"
  rw [ej]
  refine u_draw bag2 (by omega) (by rw [ll]; omega) (by rw [ll]; exact Int.lt_of_le_of_lt (by omega) big) fun vl H3 c3 bag3 l0 l1 => ?_
  rw [ll] at l1
  obtain ⟨l, el⟩ : ∃ l : Nat, (j : Int) + 1 + vl = (l : Int) := ⟨((j : Int) + 1 + vl).toNat, by omega⟩
  have hij : i < j := by omega
  have hjl : j < l := by omega
  have hl : l ≤ ns.length := by omega
  have c03 : Chg [b] H H3 := (c1.both c2).both c3
  have hr3 := c03.at1 hr pb6
  have h73 := c03.at1 h7 pb7
  have fr3 : ∀ x, H3 x = none → S x := fun x e => fr x (c03.dom x e)
  have hT3 := c03.tup _ _ hT
  have hj3 := hj.keep c03 nx
  have hm3 := hmv.keep c03 nx
  have rn3 := rn.keep c03 hSb
  have tL3 := tabS_keep c03 nx (by simpa using bL) tL
  clear c1 c2 c3 bag1 bag2 bag3 hr1 hr2 big
  walk_at "wn"
  rw [el]
  refine w_slL (sqL hr3) fun p8 H4 n8 c4 h8 => ?_
  rw [cut_midK _ _ _ (Nat.le_of_lt hij), ← List.map_take, ← List.map_drop] at h8
  have kt3 : KtAt K L S H3 T jf nd mf := ⟨g, v1, mm, hT3, .inl hj3, rn3, hm3⟩
  obtain ⟨e1, w1⟩ := se.fs hz hs hij (by omega : j ≤ ns.length)
  obtain ⟨e2, w2⟩ := se.fs hz hs hjl hl
  walk_at "wn"
  refine ⟨T, p8, _, S, jf, nd, mf, _, rfl, h8, by rw [List.length_drop, List.length_take]; omega, kt3.same c4, fresh_chg c4 fr3, e1, fun u1 H5 c5 r1 => ?_⟩
  have c35 := c4.same c5
  have hr5 := c35.at hr3
  walk_at "wn"
  refine w_slL (sqL hr5) fun p9 H6 n9 c6 h9 => ?_
  rw [cut_midK _ _ _ (Nat.le_of_lt hjl), ← List.map_take, ← List.map_drop] at h9
  have c36 := c35.same c6
  walk_at "wn"
  refine ⟨T, p9, _, S, jf, nd, mf, _, rfl, h9, by rw [List.length_drop, List.length_take]; omega, kt3.same c36, fresh_chg c36 fr3, e2, fun u2 H7 c7 r2 => ?_⟩
  have c37 := c36.same c7
  have tL7 := tabS_keep c37 .nil (by simp) tL3
  have nl := noX_tbl tL7
  walk_at "wn"
  refine ⟨tL7, fun f c' H8 c8 tL8 nf hf hc => ?_⟩
  walk_at "wn"
  refine k_tup (by walk_at "sz") fun T2 H9 nT c9 hT2 => ?_
  walk_at "wn"
  have n6 : p6 ≠ PL K := fun e => by obtain ⟨ps, h, _⟩ := tL7; rw [← e, c37.at hr3] at h; cases h
  have n7 : p7 ≠ PL K := fun e => by obtain ⟨ps, h, _⟩ := tL7; rw [← e, c37.at h73] at h; cases h
  exact lb16 C q31 (c9.at hf) (c9.at hc) hT2 (((hj3.keep c37 .nil).keep c8 nl).keep c9 .nil) (((hm3.keep c37 .nil).keep c8 nl).keep c9 .nil) (((rn3.same c37).keep c8 hSL).same c9) (((r1.same (c6.same c7)).keep c8 hSL).same c9) ((r2.keep c8 hSL).same c9)
    (fun x e => fr3 x (c37.dom x (c8.dom x (c9.dom x e)))) (c9.at (c8.at1 (c37.at hr3) n6)) (c9.at (c8.at1 (c37.at h73) n7)) hz hs (bd_sem se mo w0 (se.ok _ _ w1).1 (se.ok _ _ w2).1) q
end Fg
namespace Fg
open PySem PySem.Spec PyProof.Rows L2 LamX LmX
local macro_rules | `(tactic| walk_at "hp") => `(tactic| first
  | assumption
  | exact upd_same
  | (refine Chg.at (by assumption) ?_; walk_at "hp")
  | (refine Chg.at1 (by assumption) ?_ (by walk_at "ne"); walk_at "hp"))
local macro_rules | `(tactic| walk_at "ne") => `(tactic| first | assumption | (apply Ne.symm; assumption))
local macro_rules | `(tactic| walk_at "sq") => `(tactic| first | assumption | exact sqL (by walk_at "hp") | (refine Chg.seq (by assumption) ?_; walk_at "sq"))
local macro_rules | `(tactic| walk_at "sz") => `(tactic| first | assumption | exact Nat.zero_le _ | (simp only [List.length_cons, List.length_nil]; decide) | exact Nat.le_trans (by first | omega | (simp; done) | (simp; omega)) (show 100000 ≤ sizeLine by decide) | exact Nat.lt_of_lt_of_le (by first | omega | (simp; done) | (simp; omega)) (show 100000 ≤ sizeLine by decide))
local macro_rules | `(tactic| walk_at "ix") => `(tactic| first | exact at0 | exact at1 | exact at2 | exact at3 | assumption | exact rfl | walk_at "ix2")
local macro_rules | `(tactic| walk_at "ix2") => `(tactic| fail)
local macro_rules | `(tactic| walk_at "num") => `(tactic| first | assumption | omega | decide | walk_at "num2")
local macro_rules | `(tactic| walk_at "num2") => `(tactic| fail)
local macro_rules | `(tactic| walk_at "im") => `(tactic| first | assumption | exact R.non (S := fun _ => False) | exact R.bl (S := fun _ => False) _ | exact R.int (S := fun _ => False) _ | exact R.str (S := fun _ => False) _ | (refine R.im (by assumption) ?_; walk_at "im"))
local macro_rules | `(tactic| walk_at "r") => `(tactic| first | assumption | exact R.non (S := fun _ => False) | exact R.bl (S := fun _ => False) _ | exact R.int (S := fun _ => False) _ | exact R.str (S := fun _ => False) _ | (refine R.same (by assumption) ?_; walk_at "r") | exact R.any (by walk_at "im"))
local macro_rules | `(tactic| walk_at "chg") => `(tactic| first
  | exact Chg.refl
  | assumption
  | (refine Chg.same ?_ (by assumption); walk_at "chg")
  | (refine Chg.both ?_ (by assumption); walk_at "chg")
  | (refine Chg.pre (by assumption) ?_; walk_at "chg"))
local macro_rules | `(tactic| walk_at "w1") => `(tactic| first
  | with_reducible apply w_seq
  | with_reducible apply w_asg
  | ((with_reducible apply w_var); (focus (exact rfl)))
  | with_reducible apply w_c
  | with_reducible apply w_op
  | with_reducible apply w_cons
  | with_reducible apply w_nil
  | with_reducible apply w_gName
  | with_reducible apply w_if
  | with_reducible apply w_test
  | with_reducible apply w_B
  | with_reducible apply w_isbl
  | with_reducible apply w_retN
  | with_reducible apply w_next
  | with_reducible apply w_drop
  | with_reducible apply w_cb
  | with_reducible apply w_call
  | with_reducible apply w_callN
  | with_reducible apply w_bm
  | with_reducible apply w_bm0
  | ((with_reducible apply w_tyL); (focus (walk_at "hp"; done)))
  | with_reducible apply w_dput
  | with_reducible apply w_m1
  | with_reducible apply w_isstr
  | with_reducible apply w_and
  | with_reducible apply w_or
  | with_reducible apply w_not
  | with_reducible apply w_andV
  | with_reducible apply w_orV
  | with_reducible apply w_notV
  | with_reducible apply w_ifE
  | with_reducible apply w_chain
  | with_reducible apply w_un
  | with_reducible apply w_neg
  | with_reducible apply w_add
  | with_reducible apply w_sub
  | ((with_reducible apply w_mod); (focus (walk_at "num"; done)))
  | ((with_reducible apply w_mul); (focus (walk_at "num"; done)))
  | ((with_reducible apply w_fdiv); (focus (walk_at "num"; done)))
  | ((with_reducible apply w_pow); (focus (walk_at "num"; done)))
  | with_reducible apply w_lt
  | with_reducible apply w_le
  | with_reducible apply w_gt
  | with_reducible apply w_ge
  | with_reducible apply w_ltS
  | with_reducible apply w_geS
  | with_reducible apply w_inC
  | with_reducible apply w_notInC
  | with_reducible apply w_isN
  | with_reducible apply w_notN
  | with_reducible apply w_isB
  | with_reducible apply w_notB
  | ((with_reducible apply w_addS); (focus (walk_at "sz"; done)))
  | ((with_reducible apply w_ixL); (focus (walk_at "sq"; done)); (focus (walk_at "ix"; done)))
  | ((with_reducible apply w_ixT); (focus (walk_at "hp"; done)); (focus (walk_at "ix"; done)))
  | ((with_reducible apply w_ixS); (focus (walk_at "sz"; done)); (focus (walk_at "ix"; done)))
  | with_reducible apply w_gSub
  | ((with_reducible apply w_gTup); (focus (walk_at "hp"; done)); (focus (exact rfl)))
  | with_reducible apply w_gCons
  | with_reducible apply w_gNil
  | ((with_reducible apply w_aug); (focus (exact rfl)))
  | with_reducible apply w_ipI
  | ((with_reducible apply w_eq); (focus (exact rfl)))
  | ((with_reducible apply w_ne); (focus (exact rfl)))
  | with_reducible apply w_max
  | with_reducible apply w_min
  | with_reducible apply w_abs
  | with_reducible apply w_intB
  | with_reducible apply w_intI
  | with_reducible apply w_tup1
  | with_reducible apply w_lst1
  | with_reducible apply w_sl
  | with_reducible apply w_part
  | with_reducible apply w_noPart
  | with_reducible apply w_isint
  | ((with_reducible apply w_slS); (focus (walk_at "sz"; done)))
  | with_reducible apply w_iteT
  | with_reducible apply w_iteF
  | with_reducible apply w_iteN
  | ((with_reducible apply w_iteYes); (focus (exact rfl)))
  | ((with_reducible apply w_iteNo); (focus (exact rfl)))
  | ((with_reducible apply w_lenL); (focus (walk_at "sq"; done)))
  | ((with_reducible apply w_lenT); (focus (walk_at "hp"; done)))
  | ((with_reducible apply w_lenS); (focus (walk_at "sz"; done)))
  | with_reducible apply w_lc
  | with_reducible apply w_for
  | with_reducible apply w_yes
  | ((with_reducible apply w_wipe); (focus (exact rfl)))
  | with_reducible apply w_iList
  | with_reducible apply w_iTup
  | with_reducible apply w_iStr
  | with_reducible apply w_iRng1
  | with_reducible apply w_iRng2
  | with_reducible apply w_iZip
  | with_reducible apply w_iEnum
  | ((with_reducible apply d_iList); (focus (walk_at "sq"; done)))
  | ((with_reducible apply d_iTup); (focus (walk_at "hp"; done)))
  | with_reducible apply d_iStr
  | ((with_reducible apply d_iRng1); (focus (walk_at "num"; done)); (focus (walk_at "num"; done)))
  | ((with_reducible apply d_iRng2); (focus (walk_at "num"; done)); (focus (walk_at "num"; done)); (focus (walk_at "num"; done)); (focus (walk_at "num"; done)))
  | ((with_reducible apply d_iZip); (focus (walk_at "sq"; done)); (focus (walk_at "sq"; done)))
  | ((with_reducible apply d_iEnum); (focus (walk_at "sq"; done)))
  | walk_at "w2")
local macro_rules | `(tactic| walk_at "w2") => `(tactic| fail)
local macro_rules | `(tactic| walk_at "wn") => `(tactic| repeat walk_at "w1")
local macro_rules | `(tactic| walk_at "w") => `(tactic| repeat (first | walk_at "w1" | with_reducible apply w_ret))
local macro_rules | `(tactic| walk_at "w2") => `(tactic| first
  | ((with_reducible apply w_isInt); (focus (walk_at "r"; done)))
  | ((with_reducible apply w_isBool); (focus (walk_at "r"; done)))
  | ((with_reducible apply w_isStr); (focus (walk_at "r"; done)))
  | ((with_reducible apply w_isTup); (focus (walk_at "r"; done)))
  | ((with_reducible apply w_isLst); (focus (walk_at "r"; done)))
  | with_reducible apply w_fld
  | with_reducible apply w_sfld
  | with_reducible apply w_faug
  | with_reducible apply w_rAdd
  | with_reducible apply w_rSub
  | with_reducible apply w_make
  | with_reducible apply w_orT
  | with_reducible apply w_dgetd
  | with_reducible apply w_dgetk
  | with_reducible apply w_dsetd
  | ((with_reducible apply k_dgetd); (focus (walk_at "hp"; done)))
  | ((with_reducible apply k_dsetd); (focus (walk_at "hp"; done)))
  | walk_at "w3")
local macro_rules | `(tactic| walk_at "w3") => `(tactic| fail)
local macro_rules | `(tactic| walk_at "w3") => `(tactic| first
  | with_reducible apply w_mt
  | with_reducible apply w_makeX
  | ((with_reducible apply m_Kind); (focus (walk_at "hp"; done)); (focus (exact rfl)))
  | ((with_reducible apply g_Kind_joining); (focus (assumption; done)); (focus (walk_at "hp"; done)))
  | ((with_reducible apply g_Kind_none); (focus (assumption; done)); (focus (walk_at "hp"; done)))
  | ((with_reducible apply g_Kind_making); (focus (assumption; done)); (focus (walk_at "hp"; done)))
  | ((with_reducible apply g_Kind_word); (focus (assumption; done)); (focus (walk_at "hp"; done))))
def t_lb8 (K : PySem.W.Frag) (L : Nat → Addr → LmX.LF) (n : Nat) : TS :=
    tSeq (tIfS (tOr (tTest (tOp oNotN (tCall (sp_groups K L) [] E0 (tCons (tVar 8) (tCons (tVar 7) (tNil)))) (tC .non))) (tOr (tTest (tOp oNeD (tVar 9) (tMeth (He.ga K "Kind") "fold" (sp_Kind_fold K L) [] E0 (tVar 8) (tCons (tVar 6) (tNil))))) (tTest (tOp oNeD (tVar 7) (tVar 6))))) (tRet (tC (.bl false))) (tNext))
    (tSeq (tIfS (tTest (tOp oLt (tCB (cLenQ K) (tCons (tVar 6) (tNil))) (tC (.int 3)))) (tRet (tC (.bl true))) (tNext))
    (tSeq (tAsg (tCall sp__law_draw [] E0 (tCons (tVar 1) (tCons (tOp oSub (tCB (cLenQ K) (tCons (tVar 6) (tNil))) (tC (.int 2))) (tNil)))) (gName 11))
    (tSeq (tAsg (tOp oAdd (tOp oAdd (tVar 11) (tC (.int 1))) (tCall sp__law_draw [] E0 (tCons (tVar 1) (tCons (tOp oSub (tOp oSub (tCB (cLenQ K) (tCons (tVar 6) (tNil))) (tVar 11)) (tC (.int 2))) (tNil))))) (gName 12))
    (tSeq (tAsg (tOp oAdd (tOp oAdd (tVar 12) (tC (.int 1))) (tCall sp__law_draw [] E0 (tCons (tVar 1) (tCons (tOp oSub (tCB (cLenQ K) (tCons (tVar 6) (tNil))) (tVar 12)) (tNil))))) (gName 13))
    (tSeq (tAsg (tCall (sp__law_stretch K L) [] E0 (tCons (tVar 2) (tCons (tSl (rSlL K) (tVar 6) (tPart (tVar 11)) (tPart (tVar 12))) (tNil)))) (gName 14))
    (tSeq (tAsg (tCall (sp__law_stretch K L) [] E0 (tCons (tVar 2) (tCons (tSl (rSlL K) (tVar 6) (tPart (tVar 12)) (tPart (tVar 13))) (tNil)))) (gName 15))
    (tSeq (tAsg (tTup (tCons (tLam (tabP K "law") QB (LB L (clB n))) (tCons (tVar 4) (tCons (tVar 5) (tNil))))) (gName 16))
    (tSeq (tAsg (tCallC (csB n) jsB (sp__law_first_err K L) (tCons (tVar 16) (tCons (tVar 6) (tNil)))) (gName 17))
    (tRet (tAndV (tOp oEqD (tCallC (csB n) jsB (sp_groups K L) (tCons (tMake (He.ga K "Kind") (sp_Kind___init__ K) [.str "kind"] E0 (tCons (tOp (rIxT K) (tVar 16) (tC (.int 0))) (tCons (tOp (rIxT K) (tVar 16) (tC (.int 1))) (tCons (tOp (rIxT K) (tVar 16) (tC (.int 2))) (tNil))))) (tCons (tVar 7) (tNil)))) (tVar 17)) (tOp oEqD (tVar 7) (tVar 6))))))))))))
def t_lb6 (K : PySem.W.Frag) (L : Nat → Addr → LmX.LF) (n : Nat) : TS :=
    tSeq (tAsg (tVar 4) (gName 9))
    (tSeq (tFor (iList K (tVar 6)) (gName 10) (tAsg (tCallV (CVw K L) 3 (tCons (tVar 9) (tCons (tMeth (He.ga K "Kind") "fold" (sp_Kind_fold K L) [] E0 (tVar 8) (tCons (tLst (tCons (tVar 10) (tNil))) (tNil))) (tNil)))) (gName 9)))
    (tSeq (tIfS (tOr (tTest (tOp oNotN (tCall (sp_groups K L) [] E0 (tCons (tVar 8) (tCons (tVar 7) (tNil)))) (tC .non))) (tOr (tTest (tOp oNeD (tVar 9) (tMeth (He.ga K "Kind") "fold" (sp_Kind_fold K L) [] E0 (tVar 8) (tCons (tVar 6) (tNil))))) (tTest (tOp oNeD (tVar 7) (tVar 6))))) (tRet (tC (.bl false))) (tNext))
    (tSeq (tIfS (tTest (tOp oLt (tCB (cLenQ K) (tCons (tVar 6) (tNil))) (tC (.int 3)))) (tRet (tC (.bl true))) (tNext))
    (tSeq (tAsg (tCall sp__law_draw [] E0 (tCons (tVar 1) (tCons (tOp oSub (tCB (cLenQ K) (tCons (tVar 6) (tNil))) (tC (.int 2))) (tNil)))) (gName 11))
    (tSeq (tAsg (tOp oAdd (tOp oAdd (tVar 11) (tC (.int 1))) (tCall sp__law_draw [] E0 (tCons (tVar 1) (tCons (tOp oSub (tOp oSub (tCB (cLenQ K) (tCons (tVar 6) (tNil))) (tVar 11)) (tC (.int 2))) (tNil))))) (gName 12))
    (tSeq (tAsg (tOp oAdd (tOp oAdd (tVar 12) (tC (.int 1))) (tCall sp__law_draw [] E0 (tCons (tVar 1) (tCons (tOp oSub (tCB (cLenQ K) (tCons (tVar 6) (tNil))) (tVar 12)) (tNil))))) (gName 13))
    (tSeq (tAsg (tCall (sp__law_stretch K L) [] E0 (tCons (tVar 2) (tCons (tSl (rSlL K) (tVar 6) (tPart (tVar 11)) (tPart (tVar 12))) (tNil)))) (gName 14))
    (tSeq (tAsg (tCall (sp__law_stretch K L) [] E0 (tCons (tVar 2) (tCons (tSl (rSlL K) (tVar 6) (tPart (tVar 12)) (tPart (tVar 13))) (tNil)))) (gName 15))
    (tSeq (tAsg (tTup (tCons (tLam (tabP K "law") QB (LB L (clB n))) (tCons (tVar 4) (tCons (tVar 5) (tNil))))) (gName 16))
    (tSeq (tAsg (tCallC (csB n) jsB (sp__law_first_err K L) (tCons (tVar 16) (tCons (tVar 6) (tNil)))) (gName 17))
    (tRet (tAndV (tOp oEqD (tCallC (csB n) jsB (sp_groups K L) (tCons (tMake (He.ga K "Kind") (sp_Kind___init__ K) [.str "kind"] E0 (tCons (tOp (rIxT K) (tVar 16) (tC (.int 0))) (tCons (tOp (rIxT K) (tVar 16) (tC (.int 1))) (tCons (tOp (rIxT K) (tVar 16) (tC (.int 2))) (tNil))))) (tCons (tVar 7) (tNil)))) (tVar 17)) (tOp oEqD (tVar 7) (tVar 6))))))))))))))
theorem lb8 {K : PySem.W.Frag} {L : Nat → Addr → LF} (C : C_Kind K) {n m : Nat} {H : Hp} {D : Ends} {b T a p6 p7 : Addr} {g v1 mm v9 : V} {x9 : PyData} {ns : List Int} {S : Addr → Prop} {W : Nat → PyData → Prop} {jf : PyData → PyData → Option PyData} {nd : PyData} {mf : Int → Option PyData} {a0 a10 a11 a12 a13 a14 a15 a16 a17 : Option V}
    (q31 : ∀ c, (L 31 c).qual = QB) (bag : Bag H b m) (hm : 10 ≤ m) (tL : TabS H (PL K) QB) (hS : ∀ x, S x → x ≠ b ∧ x ≠ PL K) (hT : H T = some (.tup [g, v1, mm])) (hj : JV K L H g jf) (hmv : MV L H mm mf) (rn : R S H v1 nd) (kd : KdAt K L S H a jf nd mf) (fr : ∀ x, H x = none → S x)
    (hr : H p6 = some (.lst (ns.map V.int))) (h7 : H p7 = some (.lst (ns.map V.int))) (pb6 : p6 ≠ b) (pb7 : p7 ≠ b) (hz : ns.length ≤ 40) (hs : ∀ n ∈ ns, Sm n) (se : SemK W jf nd mf) (ak : AscK W jf nd) (mo : ∀ a b x, a ≤ b → W a x → W b x) (w0 : W 0 nd)
    (r9 : R S H v9 x9) (e9 : foldD jf mf nd ns = some x9) (q : ∀ H', D.rt (.bl true) H') :
    t_lb8 K L n D [a0, some (.ref b), some (.ref T), some g, some v1, some mm, some (.ref p6), some (.ref p7), some (.ref a), some v9, a10, a11, a12, a13, a14, a15, a16, a17] H := by
  show tSeq (tIfS _ _ _) (tSeq (tIfS _ _ _) (t_lb10 K L n)) _ _ _
  have go := se.grp hz hs
  have gn := ak.grp se hz hs
  obtain ⟨di, z0, z1, z2, z3, h0k, _⟩ := id kd
  walk_at "wn"
  refine ⟨a, p7, ns, S, _, _, _, _, _, _, _, rfl, h7, hz, kd, fr, go, fun v H1 c1 im => ?_⟩
  rw [gn] at im
  cases im
  have h0k1 := c1.at h0k
  walk_at "wn"
  refine ⟨a, p6, ns, S, jf, nd, mf, x9, rfl, c1.at hr, kd.same c1, fresh_chg c1 fr, e9, fun u H2 c2 ru => ?_⟩
  have c02 := c1.same c2
  obtain ⟨d, ed, wd⟩ := se.fold ns 1 nd (by omega) se.no hs
  rw [e9] at ed
  cases ed
  obtain ⟨o1, o2⟩ := se.ok _ _ wd
  obtain ⟨k1, k2⟩ := ints_ok ns
  walk_at "wn"
  refine w_neS (r9.same c02) ru o1 o2 ?_
  walk_at "wn"
  refine w_neS (ints_data (c02.at h7)) (ints_data (c02.at hr)) k1 k2 ?_
  walk_at "wn"
  have ll : (ns.map V.int).length = ns.length := List.length_map ..
  have hr2 := c02.at hr
  walk_at "wn"
  refine w_iteD (fun hlt => ?_) (fun hlt => ?_)
  · walk_at "w"
    exact q _
  · rw [ll] at hlt
    walk_at "wn"
    exact lb10 C q31 (bag.same c02) hm (tabS_keep c02 .nil (by simp) tL) hS (c02.tup _ _ hT) (hj.keep c02 .nil) (hmv.keep c02 .nil) (rn.same c02) (fresh_chg c02 fr) hr2 (c02.at h7) pb6 pb7 hz hs (by omega) se mo w0 q
end Fg
namespace Fg
open PySem PySem.Spec PyProof.Rows L2 LamX LmX
local macro_rules | `(tactic| walk_at "hp") => `(tactic| first
  | assumption
  | exact upd_same
  | (refine Chg.at (by assumption) ?_; walk_at "hp")
  | (refine Chg.at1 (by assumption) ?_ (by walk_at "ne"); walk_at "hp"))
local macro_rules | `(tactic| walk_at "ne") => `(tactic| first | assumption | (apply Ne.symm; assumption))
local macro_rules | `(tactic| walk_at "sq") => `(tactic| first | assumption | exact sqL (by walk_at "hp") | (refine Chg.seq (by assumption) ?_; walk_at "sq"))
local macro_rules | `(tactic| walk_at "sz") => `(tactic| first | assumption | exact Nat.zero_le _ | (simp only [List.length_cons, List.length_nil]; decide) | exact Nat.le_trans (by first | omega | (simp; done) | (simp; omega)) (show 100000 ≤ sizeLine by decide) | exact Nat.lt_of_lt_of_le (by first | omega | (simp; done) | (simp; omega)) (show 100000 ≤ sizeLine by decide))
local macro_rules | `(tactic| walk_at "ix") => `(tactic| first | exact at0 | exact at1 | exact at2 | exact at3 | assumption | exact rfl | walk_at "ix2")
local macro_rules | `(tactic| walk_at "ix2") => `(tactic| fail)
local macro_rules | `(tactic| walk_at "num") => `(tactic| first | assumption | omega | decide | walk_at "num2")
local macro_rules | `(tactic| walk_at "num2") => `(tactic| fail)
local macro_rules | `(tactic| walk_at "im") => `(tactic| first | assumption | exact R.non (S := fun _ => False) | exact R.bl (S := fun _ => False) _ | exact R.int (S := fun _ => False) _ | exact R.str (S := fun _ => False) _ | (refine R.im (by assumption) ?_; walk_at "im"))
local macro_rules | `(tactic| walk_at "r") => `(tactic| first | assumption | exact R.non (S := fun _ => False) | exact R.bl (S := fun _ => False) _ | exact R.int (S := fun _ => False) _ | exact R.str (S := fun _ => False) _ | (refine R.same (by assumption) ?_; walk_at "r") | exact R.any (by walk_at "im"))
local macro_rules | `(tactic| walk_at "chg") => `(tactic| first
  | exact Chg.refl
  | assumption
  | (refine Chg.same ?_ (by assumption); walk_at "chg")
  | (refine Chg.both ?_ (by assumption); walk_at "chg")
  | (refine Chg.pre (by assumption) ?_; walk_at "chg"))
local macro_rules | `(tactic| walk_at "w1") => `(tactic| first
  | with_reducible apply w_seq
  | with_reducible apply w_asg
  | ((with_reducible apply w_var); (focus (exact rfl)))
  | with_reducible apply w_c
  | with_reducible apply w_op
  | with_reducible apply w_cons
  | with_reducible apply w_nil
  | with_reducible apply w_gName
  | with_reducible apply w_if
  | with_reducible apply w_test
  | with_reducible apply w_B
  | with_reducible apply w_isbl
  | with_reducible apply w_retN
  | with_reducible apply w_next
  | with_reducible apply w_drop
  | with_reducible apply w_cb
  | with_reducible apply w_call
  | with_reducible apply w_callN
  | with_reducible apply w_bm
  | with_reducible apply w_bm0
  | ((with_reducible apply w_tyL); (focus (walk_at "hp"; done)))
  | with_reducible apply w_dput
  | with_reducible apply w_m1
  | with_reducible apply w_isstr
  | with_reducible apply w_and
  | with_reducible apply w_or
  | with_reducible apply w_not
  | with_reducible apply w_andV
  | with_reducible apply w_orV
  | with_reducible apply w_notV
  | with_reducible apply w_ifE
  | with_reducible apply w_chain
  | with_reducible apply w_un
  | with_reducible apply w_neg
  | with_reducible apply w_add
  | with_reducible apply w_sub
  | ((with_reducible apply w_mod); (focus (walk_at "num"; done)))
  | ((with_reducible apply w_mul); (focus (walk_at "num"; done)))
  | ((with_reducible apply w_fdiv); (focus (walk_at "num"; done)))
  | ((with_reducible apply w_pow); (focus (walk_at "num"; done)))
  | with_reducible apply w_lt
  | with_reducible apply w_le
  | with_reducible apply w_gt
  | with_reducible apply w_ge
  | with_reducible apply w_ltS
  | with_reducible apply w_geS
  | with_reducible apply w_inC
  | with_reducible apply w_notInC
  | with_reducible apply w_isN
  | with_reducible apply w_notN
  | with_reducible apply w_isB
  | with_reducible apply w_notB
  | ((with_reducible apply w_addS); (focus (walk_at "sz"; done)))
  | ((with_reducible apply w_ixL); (focus (walk_at "sq"; done)); (focus (walk_at "ix"; done)))
  | ((with_reducible apply w_ixT); (focus (walk_at "hp"; done)); (focus (walk_at "ix"; done)))
  | ((with_reducible apply w_ixS); (focus (walk_at "sz"; done)); (focus (walk_at "ix"; done)))
  | with_reducible apply w_gSub
  | ((with_reducible apply w_gTup); (focus (walk_at "hp"; done)); (focus (exact rfl)))
  | with_reducible apply w_gCons
  | with_reducible apply w_gNil
  | ((with_reducible apply w_aug); (focus (exact rfl)))
  | with_reducible apply w_ipI
  | ((with_reducible apply w_eq); (focus (exact rfl)))
  | ((with_reducible apply w_ne); (focus (exact rfl)))
  | with_reducible apply w_max
  | with_reducible apply w_min
  | with_reducible apply w_abs
  | with_reducible apply w_intB
  | with_reducible apply w_intI
  | with_reducible apply w_tup1
  | with_reducible apply w_lst1
  | with_reducible apply w_sl
  | with_reducible apply w_part
  | with_reducible apply w_noPart
  | with_reducible apply w_isint
  | ((with_reducible apply w_slS); (focus (walk_at "sz"; done)))
  | with_reducible apply w_iteT
  | with_reducible apply w_iteF
  | with_reducible apply w_iteN
  | ((with_reducible apply w_iteYes); (focus (exact rfl)))
  | ((with_reducible apply w_iteNo); (focus (exact rfl)))
  | ((with_reducible apply w_lenL); (focus (walk_at "sq"; done)))
  | ((with_reducible apply w_lenT); (focus (walk_at "hp"; done)))
  | ((with_reducible apply w_lenS); (focus (walk_at "sz"; done)))
  | with_reducible apply w_lc
  | with_reducible apply w_for
  | with_reducible apply w_yes
  | ((with_reducible apply w_wipe); (focus (exact rfl)))
  | with_reducible apply w_iList
  | with_reducible apply w_iTup
  | with_reducible apply w_iStr
  | with_reducible apply w_iRng1
  | with_reducible apply w_iRng2
  | with_reducible apply w_iZip
  | with_reducible apply w_iEnum
  | ((with_reducible apply d_iList); (focus (walk_at "sq"; done)))
  | ((with_reducible apply d_iTup); (focus (walk_at "hp"; done)))
  | with_reducible apply d_iStr
  | ((with_reducible apply d_iRng1); (focus (walk_at "num"; done)); (focus (walk_at "num"; done)))
  | ((with_reducible apply d_iRng2); (focus (walk_at "num"; done)); (focus (walk_at "num"; done)); (focus (walk_at "num"; done)); (focus (walk_at "num"; done)))
  | ((with_reducible apply d_iZip); (focus (walk_at "sq"; done)); (focus (walk_at "sq"; done)))
  | ((with_reducible apply d_iEnum); (focus (walk_at "sq"; done)))
  | walk_at "w2")
local macro_rules | `(tactic| walk_at "w2") => `(tactic| fail)
local macro_rules | `(tactic| walk_at "wn") => `(tactic| repeat walk_at "w1")
local macro_rules | `(tactic| walk_at "w") => `(tactic| repeat (first | walk_at "w1" | with_reducible apply w_ret))
local macro_rules | `(tactic| walk_at "w2") => `(tactic| first
  | ((with_reducible apply w_isInt); (focus (walk_at "r"; done)))
  | ((with_reducible apply w_isBool); (focus (walk_at "r"; done)))
  | ((with_reducible apply w_isStr); (focus (walk_at "r"; done)))
  | ((with_reducible apply w_isTup); (focus (walk_at "r"; done)))
  | ((with_reducible apply w_isLst); (focus (walk_at "r"; done)))
  | with_reducible apply w_fld
  | with_reducible apply w_sfld
  | with_reducible apply w_faug
  | with_reducible apply w_rAdd
  | with_reducible apply w_rSub
  | with_reducible apply w_make
  | with_reducible apply w_orT
  | with_reducible apply w_dgetd
  | with_reducible apply w_dgetk
  | with_reducible apply w_dsetd
  | ((with_reducible apply k_dgetd); (focus (walk_at "hp"; done)))
  | ((with_reducible apply k_dsetd); (focus (walk_at "hp"; done)))
  | walk_at "w3")
local macro_rules | `(tactic| walk_at "w3") => `(tactic| fail)
local macro_rules | `(tactic| walk_at "w3") => `(tactic| first
  | with_reducible apply w_mt
  | with_reducible apply w_makeX
  | ((with_reducible apply m_Kind); (focus (walk_at "hp"; done)); (focus (exact rfl)))
  | ((with_reducible apply g_Kind_joining); (focus (assumption; done)); (focus (walk_at "hp"; done)))
  | ((with_reducible apply g_Kind_none); (focus (assumption; done)); (focus (walk_at "hp"; done)))
  | ((with_reducible apply g_Kind_making); (focus (assumption; done)); (focus (walk_at "hp"; done)))
  | ((with_reducible apply g_Kind_word); (focus (assumption; done)); (focus (walk_at "hp"; done))))
theorem lb6 {K : PySem.W.Frag} {L : Nat → Addr → LF} (C : C_Kind K) {n m : Nat} {H : Hp} {D : Ends} {b T a p6 p7 : Addr} {g v1 mm : V} {ns : List Int} {S : Addr → Prop} {W : Nat → PyData → Prop} {jf : PyData → PyData → Option PyData} {nd : PyData} {mf : Int → Option PyData} {a0 a9 a10 a11 a12 a13 a14 a15 a16 a17 : Option V}
    (q31 : ∀ c, (L 31 c).qual = QB) (bag : Bag H b m) (hm : 10 ≤ m) (tL : TabS H (PL K) QB) (hS : ∀ x, S x → x ≠ b ∧ x ≠ PL K) (hT : H T = some (.tup [g, v1, mm])) (hj : JV K L H g jf) (hmv : MV L H mm mf) (rn : R S H v1 nd) (kd : KdAt K L S H a jf nd mf) (fr : ∀ x, H x = none → S x)
    (hr : H p6 = some (.lst (ns.map V.int))) (h7 : H p7 = some (.lst (ns.map V.int))) (pb6 : p6 ≠ b) (pb7 : p7 ≠ b) (hz : ns.length ≤ 40) (hs : ∀ n ∈ ns, Sm n) (se : SemK W jf nd mf) (ak : AscK W jf nd) (mo : ∀ a b x, a ≤ b → W a x → W b x) (w0 : W 0 nd) (q : ∀ H', D.rt (.bl true) H') :
    t_lb6 K L n D [a0, some (.ref b), some (.ref T), some g, some v1, some mm, some (.ref p6), some (.ref p7), some (.ref a), a9, a10, a11, a12, a13, a14, a15, a16, a17] H := by
  show tSeq _ (tSeq _ (t_lb8 K L n)) _ _ _
  walk_at "wn"
  obtain ⟨f, rfl, hf⟩ := (show JVS K L S H g jf from .inl hj).cvs
  refine for_it (walk_list (K := K) (a := p6) (xs := ns.map V.int)) (fun k σ Hk => Chg [] H Hk ∧ ∃ (v : V) (x : PyData) (b10 : Option V), R S Hk v x ∧ foldD jf mf nd (ns.take k) = some x ∧ W (1 + k) x ∧ σ = [a0, some (.ref b), some (.ref T), some (.ref f), some v1, some mm, some (.ref p6), some (.ref p7), some (.ref a), some v, b10, a11, a12, a13, a14, a15, a16, a17])
    ⟨.refl, v1, nd, _, rn, rfl, se.no, rfl⟩ (fun k σ Hk _ z => sqL (z.1.at hr)) (fun k x σ Hk0 Hk hk z y => ?_) (fun σ Hk z => ?_)
  · obtain ⟨rfl, ex⟩ := y
    obtain ⟨ck, v, x, b10, rv, ef, wx, rfl⟩ := z
    rw [List.length_map] at hk
    rw [List.getElem?_map, List.getElem?_eq_getElem hk] at ex
    cases ex
    obtain ⟨d, em, wd⟩ := se.mr ns[k] (hs _ (List.getElem_mem hk))
    have e1 : foldD jf mf nd [ns[k]] = some d := by
      show (mf ns[k]).bind (fun m => (jf nd m).bind fun y => foldD jf mf y []) = some d
      rw [em]
      show (jf nd d).bind (fun y => foldD jf mf y []) = some d
      rw [ak.il 1 d (by omega) wd]
      rfl
    obtain ⟨y, ey, wy⟩ := se.jn (1 + k) 1 x d (by omega) wx wd
    have kdk := kd.same ck
    obtain ⟨di, z0, z1, z2, z3, h0k, _⟩ := id kdk
    walk_at "w"
    refine ⟨f, rfl, ?_⟩
    walk_at "w"
    refine k_lst (by walk_at "sz") fun p1 H2 n2 c2 h2 => ?_
    have h0k2 := c2.at h0k
    walk_at "w"
    refine ⟨a, p1, [ns[k]], S, jf, nd, mf, d, rfl, h2, kdk.same c2, fresh_chg c2 (fresh_chg ck fr), e1, fun u H3 c3 ru => ?_⟩
    walk_at "w"
    refine hf H3 _ _ ((ck.same c2).same c3) ⟨v, u, x, d, y, S, rfl, rv.same (c2.same c3), ru, fresh_chg (c2.same c3) (fresh_chg ck fr), ey, fun w H4 c4 rw' => ?_⟩
    walk_at "w"
    refine ⟨((ck.same c2).same c3).same c4, w, y, _, rw', ?_, by rw [show 1 + (k + 1) = 1 + k + 1 by omega]; exact wy, rfl⟩
    rw [List.take_succ_eq_append_getElem hk]
    exact foldD_snoc ef em ey
  · obtain ⟨ck, v, x, b10, rv, ef, wx, rfl⟩ := z
    rw [List.length_map, List.take_length] at ef
    walk_at "wn"
    exact lb8 C q31 (bag.same ck) hm (tabS_keep ck .nil (by simp) tL) hS (ck.tup _ _ hT) (hj.keep ck .nil) (hmv.keep ck .nil) (rn.same ck) (kd.same ck) (fresh_chg ck fr) (ck.at hr) (ck.at h7) pb6 pb7 hz hs se ak mo w0 rv ef q
def sp_law (K : PySem.W.Frag) : Sp := fun vs H Q _ => ∃ (a : Addr) (ns : List Int), vs = [.ref a] ∧ SqL K H a (ns.map V.int) ∧ ns.length ≤ 100000 ∧ H (KP K) = some (.tbl #[]) ∧ H (PL K) = some (.tbl #[]) ∧ ∀ H', Q (.bl true) H'
def t_law (K : PySem.W.Frag) (L : Nat → Addr → LmX.LF) (n : Nat) : TS :=
    tSeq (tAsg (tCall sp__law_bag [] E0 (tCons (tCall (sp__law_cell_at K) [] E0 (tCons (tVar 0) (tCons (tC (.int 0)) (tNil)))) (tCons (tC (.int 0)) (tNil)))) (gName 1))
    (tSeq (tAsg (tCall (sp__law_kind K (noB L)) [] E0 (tCons (tCall sp__law_draw [] E0 (tCons (tVar 1) (tCons (tC (.int 10)) (tNil)))) (tNil))) (gName 2))
    (tSeq (tAsg (tVar 2) (gTup K 3 (gCons (gName 3) (gCons (gName 4) (gCons (gName 5) (gNil))))))
    (tSeq (tAsg (tCall sp__law_row [] E0 (tCons (tVar 1) (tCons (tOp (rIxL K) (tLst (tCons (tC (.int 12)) (tCons (tC (.int 20)) (tCons (tC (.int 30)) (tNil))))) (tCall sp__law_draw [] E0 (tCons (tVar 1) (tCons (tC (.int 3)) (tNil))))) (tNil)))) (gName 6))
    (tSeq (tAsg (tCB (cListQ K) (tCons (tVar 6) (tNil))) (gName 7))
    (tSeq (tAsg (tMake (He.ga K "Kind") (sp_Kind___init__ K) [.str "kind"] E0 (tCons (tVar 3) (tCons (tVar 4) (tCons (tVar 5) (tNil))))) (gName 8))
    (tSeq (tAsg (tVar 4) (gName 9))
    (tSeq (tFor (iList K (tVar 6)) (gName 10) (tAsg (tCallV (CVw K L) 3 (tCons (tVar 9) (tCons (tMeth (He.ga K "Kind") "fold" (sp_Kind_fold K L) [] E0 (tVar 8) (tCons (tLst (tCons (tVar 10) (tNil))) (tNil))) (tNil)))) (gName 9)))
    (tSeq (tIfS (tOr (tTest (tOp oNotN (tCall (sp_groups K L) [] E0 (tCons (tVar 8) (tCons (tVar 7) (tNil)))) (tC .non))) (tOr (tTest (tOp oNeD (tVar 9) (tMeth (He.ga K "Kind") "fold" (sp_Kind_fold K L) [] E0 (tVar 8) (tCons (tVar 6) (tNil))))) (tTest (tOp oNeD (tVar 7) (tVar 6))))) (tRet (tC (.bl false))) (tNext))
    (tSeq (tIfS (tTest (tOp oLt (tCB (cLenQ K) (tCons (tVar 6) (tNil))) (tC (.int 3)))) (tRet (tC (.bl true))) (tNext))
    (tSeq (tAsg (tCall sp__law_draw [] E0 (tCons (tVar 1) (tCons (tOp oSub (tCB (cLenQ K) (tCons (tVar 6) (tNil))) (tC (.int 2))) (tNil)))) (gName 11))
    (tSeq (tAsg (tOp oAdd (tOp oAdd (tVar 11) (tC (.int 1))) (tCall sp__law_draw [] E0 (tCons (tVar 1) (tCons (tOp oSub (tOp oSub (tCB (cLenQ K) (tCons (tVar 6) (tNil))) (tVar 11)) (tC (.int 2))) (tNil))))) (gName 12))
    (tSeq (tAsg (tOp oAdd (tOp oAdd (tVar 12) (tC (.int 1))) (tCall sp__law_draw [] E0 (tCons (tVar 1) (tCons (tOp oSub (tCB (cLenQ K) (tCons (tVar 6) (tNil))) (tVar 12)) (tNil))))) (gName 13))
    (tSeq (tAsg (tCall (sp__law_stretch K L) [] E0 (tCons (tVar 2) (tCons (tSl (rSlL K) (tVar 6) (tPart (tVar 11)) (tPart (tVar 12))) (tNil)))) (gName 14))
    (tSeq (tAsg (tCall (sp__law_stretch K L) [] E0 (tCons (tVar 2) (tCons (tSl (rSlL K) (tVar 6) (tPart (tVar 12)) (tPart (tVar 13))) (tNil)))) (gName 15))
    (tSeq (tAsg (tTup (tCons (tLam (tabP K "law") QB (LB L (clB n))) (tCons (tVar 4) (tCons (tVar 5) (tNil))))) (gName 16))
    (tSeq (tAsg (tCallC (csB n) jsB (sp__law_first_err K L) (tCons (tVar 16) (tCons (tVar 6) (tNil)))) (gName 17))
    (tRet (tAndV (tOp oEqD (tCallC (csB n) jsB (sp_groups K L) (tCons (tMake (He.ga K "Kind") (sp_Kind___init__ K) [.str "kind"] E0 (tCons (tOp (rIxT K) (tVar 16) (tC (.int 0))) (tCons (tOp (rIxT K) (tVar 16) (tC (.int 1))) (tCons (tOp (rIxT K) (tVar 16) (tC (.int 2))) (tNil))))) (tCons (tVar 7) (tNil)))) (tVar 17)) (tOp oEqD (tVar 7) (tVar 6))))))))))))))))))))
theorem pure_law {K : PySem.W.Frag} {L : Nat → Addr → LF} (C : C_Kind K) (q31 : ∀ c, (L 31 c).qual = QB) (kl : KP K ≠ PL K) (n : Nat) (vs : List V) (H : Hp) (Q : VK) (E : XK) (hh : sp_law K vs H Q E) : t_law K L n (fin Q) (start ["script", "bag", "kind_of", "joiner", "first", "made_by", "row", "handed", "kind", "found", "number", "i", "j", "l", "one", "other", "bad", "due"] vs) H := by
  obtain ⟨s, ms, rfl, hsc, hz, tK0, tL0, q⟩ := hh
  show tSeq _ (tSeq _ (tSeq _ (tSeq _ (tSeq _ (tSeq _ (t_lb6 K L n)))))) _ [some (.ref s), none, none, none, none, none, none, none, none, none, none, none, none, none, none, none, none, none] H
  have tK : TabS H (KP K) KQ := .nil tK0
  have tL : TabS H (PL K) QB := .nil tL0
  walk_at "wn"
  refine ⟨s, ms, 0, rfl, hsc, by omega, fun cell => ?_⟩
  walk_at "wn"
  refine ⟨cell, 0, rfl, by omega, by omega, fun b H1 nb c1 bag => ?_⟩
  have tK1 := tabS_keep c1 .nil (by simp) tK
  walk_at "wn"
  refine u_draw bag (by decide) (by decide) (by decide) fun v H2 c2 bag2 v0 v1 => ?_
  obtain ⟨x1, x2, x3, hb1, _⟩ := id bag
  have nx1 := noX_lst hb1
  have bK : KP K ≠ b := fun e => tabS_some tK (by rw [e]; exact nb)
  have bL : PL K ≠ b := fun e => tabS_some tL (by rw [e]; exact nb)
  have tK2 := tabS_keep c2 nx1 (by simpa using bK) tK1
  have tL2 := tabS_keep c2 nx1 (by simpa using bL) (tabS_keep c1 .nil (by simp) tL)
  obtain ⟨i, rfl⟩ : ∃ i : Nat, v = (i : Int) := ⟨v.toNat, by omega⟩
  have fr2 : ∀ x, H2 x = none → x ≠ b ∧ x ≠ KP K ∧ x ≠ PL K := fun x e => ⟨fun z => bag2.some (by rw [← z]; exact e), fun z => tabS_some tK2 (by rw [← z]; exact e), fun z => tabS_some tL2 (by rw [← z]; exact e)⟩
  walk_at "wn"
  refine ⟨i, fun x => x ≠ b ∧ x ≠ KP K ∧ x ≠ PL K, rfl, by omega, fr2, tK2, fun T H3 c3 tK3 kt => ?_⟩
  have nk := noX_tbl tK2
  have tL3 := tabS_keep c3 nk (by simpa using (Ne.symm kl)) tL2
  have bag3 := bag2.one c3 (Ne.symm bK)
  obtain ⟨g, v1', mm, hT, hjs, hrn, hmv⟩ := id kt
  have hj := hjs.ofN
  have hm := hmv.ofN
  obtain ⟨W, se, ak, mo, w0⟩ := asc_mo i (by omega)
  have fr3 : ∀ x, H3 x = none → x ≠ b ∧ x ≠ KP K ∧ x ≠ PL K := fun x e => fr2 x (c3.dom x e)
  walk_at "wn"
  refine k_lst (by walk_at "sz") fun p0 H4 n4 c4 h4 => ?_
  have bag4 := bag3.same c4
  walk_at "wn"
  refine u_draw bag4 (by decide) (by decide) (by decide) fun u H5 c5 bag5 u0 u1 => ?_
  obtain ⟨y1, y2, y3, hb4, _⟩ := id bag4
  have nx4 := noX_lst hb4
  have p0b : p0 ≠ b := fun e => bag3.some (by rw [← e]; exact n4)
  have h5 := c5.at1 h4 p0b
  have hu : u = 0 ∨ u = 1 ∨ u = 2 := by omega
  obtain ⟨most, hmo, ex⟩ : ∃ most : Nat, most ≤ 40 ∧ atI [V.int 12, V.int 20, V.int 30] u = some (.int (most : Nat)) := by
    rcases hu with rfl | rfl | rfl
    · exact ⟨12, by decide, rfl⟩
    · exact ⟨20, by decide, rfl⟩
    · exact ⟨30, by decide, rfl⟩
  walk_at "wn"
  refine ⟨b, most, _, rfl, hmo, bag5, by decide, fun p6 ns H6 np6 c6 bag6 hp6 lz hs => ?_⟩
  have hzn : ns.length ≤ 40 := by omega
  have c36 : Chg [b] H3 H6 := ((c4.wide (by simp)).both c5).both c6
  obtain ⟨y1', y2', y3', hb3, _⟩ := id bag3
  have nx3 := noX_lst hb3
  have pb6 : p6 ≠ b := fun e => bag5.some (by rw [← e]; exact np6)
  have fr6 : ∀ x, H6 x = none → x ≠ b ∧ x ≠ KP K ∧ x ≠ PL K := fun x e => fr3 x (c36.dom x e)
  have hS6 : ∀ x, (x ≠ b ∧ x ≠ KP K ∧ x ≠ PL K) → x ∉ [b] := fun x z m => z.1 (List.mem_singleton.mp m)
  have tL6 := tabS_keep c36 nx3 (by simpa using bL) tL3
  walk_at "wn"
  refine w_listL (sqL hp6) fun p7 H7 n7 c7 h7 => ?_
  have pb7 : p7 ≠ b := fun e => bag6.some (by rw [← e]; exact n7)
  walk_at "wn"
  refine k_make fun a dx H8 na nd ne c8 h8 => ?_
  refine ⟨a, dx, g, v1', mm, .str "kind", rfl, h8, fun H9 c9 h9 => ⟨rfl, ?_⟩⟩
  have c79 : Chg [] H7 H9 := c8.one c9 na
  have c69 := c7.same c79
  have hj9 := (hj.keep c36 nx3).keep c69 .nil
  have hm9 := (hm.keep c36 nx3).keep c69 .nil
  have rn9 := (hrn.keep c36 hS6).same c69
  walk_at "wn"
  exact lb6 C q31 (bag6.same c69) (by decide) (tabS_keep c69 .nil (by simp) tL6) (fun x z => ⟨z.1, z.2.2⟩) (c69.tup _ _ (c36.tup _ _ hT)) hj9 hm9 rn9 ⟨dx, _, _, _, _, h9, .inl hj9, rn9, hm9⟩ (fun x e => fr6 x (c69.dom x e)) (c69.at hp6) (c79.at h7) pb6 pb7 hzn hs se ak mo w0 (fun H' => q H')
end Fg
namespace Fg
open PySem PySem.Spec PyProof.Rows L2 LamX LmX
theorem len_spB {K : PySem.W.Frag} {L : Nat → Addr → LF} : ∀ ws vs H Q E, spB K L ws vs H Q E → vs.length = 2 := fun ws vs H Q E h => by
  obtain ⟨v1, g, o1, p1, x, y, S, jf, nd, d1, d2, dx, dy, d, _, rfl, _⟩ := h
  rfl
section
variable {P : Program} {w : World} {K : PySem.W.Frag} {mg : Str → Option Value} {base : Heap} {k : Nat} {L : Nat → Addr → LF}
theorem cvw_of (h : CvOk P w K mg base k (CVo K L)) (hb : LmC P w K mg base k (LB L) frB (spB K L)) : CvOk P w K mg base k (CVw K L) := by
  refine ⟨fun {f vs H Q h'} hok hK q => ?_, fun A outer s H f us vs Q hr e0 r q => ?_⟩
  · rcases q with q | ⟨c', cl, cs, ws, vv, oo, e, hf, _⟩
    · exact h.at_ hok hK q
    · obtain ⟨od, sl, pm, ctv, ho⟩ := lmO_at hok hf
      exact ⟨_, od, _, sl, ho⟩
  · rcases q with q | ⟨c', cl, cs, ws, vv, oo, e, hf, hc, n1, n2, C, hsp⟩
    · exact h.run A outer s H f us vs Q hr e0 r q
    · exact hb.cap hr e0 hf (by show H c' = some (CodeO c' (L 31 c').qual); rw [e]; exact hc) n1 n2 C r hsp
end
/-- a def that makes lambdas, its reading chosen by where its frame lies -/
theorem goTn {P : Program} {w : World} {K : PySem.W.Frag} {mg : Str → Option Value} {base : Heap} {x : Str} {st : Stmt} {fd : FuncData} {sp : Sp} {k : Nat} {N ps : List Str} {dvs : List V} (F : Fg.FnP K x st dvs (He.ga K x) fd) (S : FnScope N ps (L2.defScope st)) (len : ∀ vs H Q E, sp vs H Q E → vs.length = ps.length) (t : Nat → TS)
    (pure : ∀ (n : Nat) (vs : List V) (H : Hp) (Q : VK) (E : XK), sp vs H Q E → t n { nx := fun _ H' => Q .non H', rt := Q } (start N vs) H)
    (hbody : ∀ (A : Around) (outer : List Env) (s : Shared) (H : Hp) (E : XK), Room k (A.deeper (envOfC x (L2.defScope st) s.heap.objs.size (He.ga K x) (.ref (codP K x)))) →
      PSs (cxOf L2.CX0 P w K mg base N x (L2.defScope st) (He.ga K x) (.ref (codP K x)) A outer s H E).nox (L2.defBody st) (t s.heap.objs.size)) : FnOk P w K mg base L2.CX0 (k + 1) (He.ga K x) fd ps sp := by
  obtain ⟨oc, od, dV, kV, doc, pm, an, cdv, ct, osl, rfl, lk, hcd, _, _⟩ := F.ex
  obtain ⟨c, rfl⟩ := He.codeIn_ref hcd
  have ec : codP K x = c := He.codeOf_eq (p := (x, none)) lk rfl
  refine fn_of lk hcd S len fun A outer s H vs Q E hr hsp => ⟨t s.heap.objs.size, PSs.nox ?_, pure _ vs H Q E hsp⟩
  have := hbody A outer s H E
  rw [ec] at this
  exact this hr
theorem cellsB {X : Cx} {n : Nat} (h4 : X.N[4]? = some (Str.ofString "first")) (h3 : X.N[3]? = some (Str.ofString "joiner")) (h14 : X.N[14]? = some (Str.ofString "one")) (h15 : X.N[15]? = some (Str.ofString "other"))
    (k1 : X.env.scope.names.lookup (Str.ofString "first") = some NameKind.cell) (k2 : X.env.scope.names.lookup (Str.ofString "joiner") = some NameKind.cell) (k3 : X.env.scope.names.lookup (Str.ofString "one") = some NameKind.cell) (k4 : X.env.scope.names.lookup (Str.ofString "other") = some NameKind.cell)
    (e : X.env.cells = clB n) (hf : ∀ y, X.fn y = true) : CellsJ X (csB n) jsB := by
  refine ⟨rfl, by simp [csB], fun i c j h1 h2 => ?_⟩
  match i, h1, h2 with
  | 0, h1, h2 => cases h1; cases h2; exact ⟨_, h4, k1, by rw [e]; rfl, hf _⟩
  | 1, h1, h2 => cases h1; cases h2; exact ⟨_, h3, k2, by rw [e]; rfl, hf _⟩
  | 2, h1, h2 => cases h1; cases h2; exact ⟨_, h14, k3, by rw [e]; rfl, hf _⟩
  | 3, h1, h2 => cases h1; cases h2; exact ⟨_, h15, k4, by rw [e]; rfl, hf _⟩
  | i + 4, h1, h2 => simp [csB] at h1
end Fg
namespace Fg
open PySem PySem.Spec PyProof.Rows L2
section
abbrev MtD (K : PySem.W.Frag) (x qual : Str) (st : Stmt) (dvs : List V) (f : Addr) (fd : FuncData) : Prop := FunD K x qual (defArgs st) (defBody st) (defScope st) dvs [] f fd
section
variable {P : Program} {w : World} {K : PySem.W.Frag} {mg : Str → Option Value} {base : Heap} {x y qual : Str} {st : Stmt} {f : Addr} {fd : FuncData} {sp : Sp} {k : Nat} {ps : List Str} {dvs : List V} {C m : Str}
theorem MtP.mti (F : MtP K m qual st (He.ma K (He.ga K C) m) fd) (cl : Cls K (He.ga K C)) (M : Meth K (He.ga K C) m (He.ma K (He.ga K C) m)) (ok : FnOk P w K mg base CX0 k (He.ma K (He.ga K C) m) fd ps sp)
    (h : ∀ (kV doc pm : Value) (an : Option Addr) (cdv ct : Value) (us : List Value), us.length = ps.length → bindArgs (PySem.W.fnOf m qual (defArgs st) (defBody st) (defScope st) .none kV doc pm an cdv ct) ⟨us, []⟩ = pure (ps.zip us)) : MtI P w K mg base k (He.ga K C) m sp :=
  ⟨_, fd, ps, ok, cl, M, F.bindsN h⟩
end
end
section
section
variable {P : Program} {w : World} {K : PySem.W.Frag} {mg : Str → Option Value} {base : Heap} {x y qual : Str} {st : Stmt} {f : Addr} {fd : FuncData} {sp : Sp} {k : Nat} {ps : List Str} {dvs : List V} {C m : Str}
theorem MtD.go {N ps : List Str} (F : MtD K x qual st dvs f fd) (S : FnScope N ps (defScope st)) (len : ∀ vs H Q E, sp vs H Q E → vs.length = ps.length) (t : TS)
    (pure : ∀ (vs : List V) (H : Hp) (Q : VK) (E : XK), sp vs H Q E → t { nx := fun _ H' => Q .non H', rt := Q } (start N vs) H)
    (hbody : ∀ (cdv : Value) (A : Around) (outer : List Env) (s : Shared) (H : Hp) (E : XK), Room k (A.deeper (envOfC qual (defScope st) s.heap.objs.size f cdv)) →
      PSs (cxOf CX0 P w K mg base N qual (defScope st) f cdv A outer s H E).nox (defBody st) t) : FnOk P w K mg base CX0 (k + 1) f fd ps sp :=
  F.ok S len fun cdv A outer s H vs Q E hr h => ⟨t, PSs.nox (hbody cdv A outer s H E hr), pure vs H Q E h⟩
end
end
end Fg
namespace Fg
open PySem PySem.Spec PyProof.Rows L2
local macro_rules | `(tactic| walk_at "len") => `(tactic| first | exact (fun ⟨e, _⟩ => by rw [e]; rfl) | (refine exL ?_; intro _; walk_at "len"))
open LamX LmX
def exS : Stmt → Expr
  | .Assign _ e _ => e
  | .Expr e _ => e
  | .Return (some e) _ => e
  | _ => .Constant .none 0 ⟨0, 0, 0, 0⟩
def exA : Expr → Nat → Expr
  | .Call _ es _ _, i => es.getD i (.Constant .none 0 ⟨0, 0, 0, 0⟩)
  | .List es _, i => es.getD i (.Constant .none 0 ⟨0, 0, 0, 0⟩)
  | .Tuple es _ _, i => es.getD i (.Constant .none 0 ⟨0, 0, 0, 0⟩)
  | e, _ => e
def lamF (q : Str) (c' : Addr) : Expr → LmX.LF
  | .Lambda params body scope _ => ⟨q, params, body, scope, [], c'⟩
  | e => ⟨q, defArgs s_law, e, defScope s_law, [], c'⟩
def LL : Nat → Addr → LmX.LF
  | 0, c' => lamF "summed.<locals>.<lambda>" c' (exA (exA (exS ((defBody s__law_kind).getD 0 (.Pass ⟨0, 0, 0, 0⟩))) 0) 0)
  | 1, c' => lamF "strung.<locals>.<lambda>" c' (exA (exA (exS ((defBody s__law_kind).getD 2 (.Pass ⟨0, 0, 0, 0⟩))) 0) 0)
  | 2, c' => lamF "strung.<locals>.<lambda>" c' (exA (exA (exS ((defBody s__law_kind).getD 2 (.Pass ⟨0, 0, 0, 0⟩))) 0) 2)
  | 3, c' => lamF "_law_kind.<locals>.<lambda>" c' (exA (exA (exS ((defBody s__law_kind).getD 0 (.Pass ⟨0, 0, 0, 0⟩))) 0) 0)
  | 4, c' => lamF "_law_kind.<locals>.<lambda>" c' (exA (exA (exS ((defBody s__law_kind).getD 1 (.Pass ⟨0, 0, 0, 0⟩))) 0) 0)
  | 5, c' => lamF "_law_kind.<locals>.<lambda>" c' (exA (exA (exS ((defBody s__law_kind).getD 2 (.Pass ⟨0, 0, 0, 0⟩))) 0) 0)
  | 6, c' => lamF "_law_kind.<locals>.<lambda>" c' (exA (exA (exS ((defBody s__law_kind).getD 2 (.Pass ⟨0, 0, 0, 0⟩))) 0) 2)
  | 7, c' => lamF "_law_kind.<locals>.<lambda>" c' (exA (exA (exS ((defBody s__law_kind).getD 3 (.Pass ⟨0, 0, 0, 0⟩))) 0) 2)
  | 8, c' => lamF "_law_kind.<locals>.<lambda>" c' (exA (exA (exS ((defBody s__law_kind).getD 4 (.Pass ⟨0, 0, 0, 0⟩))) 0) 0)
  | 9, c' => lamF "_law_kind.<locals>.<lambda>" c' (exA (exA (exS ((defBody s__law_kind).getD 4 (.Pass ⟨0, 0, 0, 0⟩))) 0) 2)
  | 10, c' => lamF "_law_kind.<locals>.<lambda>" c' (exA (exA (exS ((defBody s__law_kind).getD 5 (.Pass ⟨0, 0, 0, 0⟩))) 0) 0)
  | 11, c' => lamF "_law_kind.<locals>.<lambda>" c' (exA (exA (exS ((defBody s__law_kind).getD 5 (.Pass ⟨0, 0, 0, 0⟩))) 0) 2)
  | 12, c' => lamF "_law_kind.<locals>.<lambda>" c' (exA (exA (exS ((defBody s__law_kind).getD 6 (.Pass ⟨0, 0, 0, 0⟩))) 0) 0)
  | 13, c' => lamF "_law_kind.<locals>.<lambda>" c' (exA (exA (exS ((defBody s__law_kind).getD 7 (.Pass ⟨0, 0, 0, 0⟩))) 0) 0)
  | 14, c' => lamF "_law_kind.<locals>.<lambda>" c' (exA (exA (exS ((defBody s__law_kind).getD 7 (.Pass ⟨0, 0, 0, 0⟩))) 0) 2)
  | 15, c' => lamF "_law_kind.<locals>.<lambda>" c' (exA (exA (exS ((defBody s__law_kind).getD 8 (.Pass ⟨0, 0, 0, 0⟩))) 0) 0)
  | 16, c' => lamF "_law_kind.<locals>.<lambda>" c' (exA (exA (exS ((defBody s__law_kind).getD 8 (.Pass ⟨0, 0, 0, 0⟩))) 0) 2)
  | 17, c' => lamF "_law_kind.<locals>.<lambda>" c' (exA (exA (exS ((defBody s__law_kind).getD 9 (.Pass ⟨0, 0, 0, 0⟩))) 0) 0)
  | 18, c' => lamF "_law_kind.<locals>.<lambda>" c' (exA (exA (exS ((defBody s__law_kind).getD 11 (.Pass ⟨0, 0, 0, 0⟩))) 0) 0)
  | 19, c' => lamF "_law_kind.<locals>.<lambda>" c' (exA (exA (exS ((defBody s__law_kind).getD 12 (.Pass ⟨0, 0, 0, 0⟩))) 0) 0)
  | 20, c' => lamF "_law_kind.<locals>.<lambda>" c' (exA (exA (exS ((defBody s__law_kind).getD 12 (.Pass ⟨0, 0, 0, 0⟩))) 0) 2)
  | 21, c' => lamF "_law_kind.<locals>.<lambda>" c' (exA (exA (exS ((defBody s__law_kind).getD 13 (.Pass ⟨0, 0, 0, 0⟩))) 0) 0)
  | 22, c' => lamF "_law_kind.<locals>.<lambda>" c' (exA (exA (exS ((defBody s__law_kind).getD 14 (.Pass ⟨0, 0, 0, 0⟩))) 0) 0)
  | 23, c' => lamF "_law_kind.<locals>.<lambda>" c' (exA (exA (exS ((defBody s__law_kind).getD 15 (.Pass ⟨0, 0, 0, 0⟩))) 0) 0)
  | 24, c' => lamF "_law_kind.<locals>.<lambda>" c' (exA (exA (exS ((defBody s__law_kind).getD 16 (.Pass ⟨0, 0, 0, 0⟩))) 0) 0)
  | 25, c' => lamF "_law_kind.<locals>.<lambda>" c' (exA (exA (exS ((defBody s__law_kind).getD 16 (.Pass ⟨0, 0, 0, 0⟩))) 0) 2)
  | 26, c' => lamF "_law_kind.<locals>.<lambda>" c' (exA (exA (exS ((defBody s__law_kind).getD 17 (.Pass ⟨0, 0, 0, 0⟩))) 0) 0)
  | 27, c' => lamF "_law_kind.<locals>.<lambda>" c' (exA (exA (exS ((defBody s__law_kind).getD 18 (.Pass ⟨0, 0, 0, 0⟩))) 0) 0)
  | 28, c' => lamF "_law_kind.<locals>.<lambda>" c' (exA (exA (exS ((defBody s__law_kind).getD 18 (.Pass ⟨0, 0, 0, 0⟩))) 0) 2)
  | 29, c' => lamF "_law_kind.<locals>.<lambda>" c' (exA (exA (exS ((defBody s__law_kind).getD 20 (.Pass ⟨0, 0, 0, 0⟩))) 0) 0)
  | 30, c' => lamF "_law_kind.<locals>.<lambda>" c' (exA (exA (exS ((defBody s__law_kind).getD 20 (.Pass ⟨0, 0, 0, 0⟩))) 0) 2)
  | 31, c' => lamF "law.<locals>.<lambda>" c' (exA (exS ((defBody s_law).getD 15 (.Pass ⟨0, 0, 0, 0⟩))) 0)
  | 32, c' => lamF "no" c' (.Constant .none 0 ⟨0, 0, 0, 0⟩)
  | _, c' => lamF "" c' (.Constant .none 0 ⟨0, 0, 0, 0⟩)
theorem lqLL : LQ LL where
  s := fun _ => rfl
  t := fun j c' h1 h2 => by
    match j, h1, h2 with
    | 1, _, _ => rfl
    | 2, _, _ => rfl
    | j + 3, _, h => omega
  k := fun j c' h1 h2 => by
    match j, h1, h2 with
    | 3, _, _ => rfl
    | 4, _, _ => rfl
    | 5, _, _ => rfl
    | 6, _, _ => rfl
    | 7, _, _ => rfl
    | 8, _, _ => rfl
    | 9, _, _ => rfl
    | 10, _, _ => rfl
    | 11, _, _ => rfl
    | 12, _, _ => rfl
    | 13, _, _ => rfl
    | 14, _, _ => rfl
    | 15, _, _ => rfl
    | 16, _, _ => rfl
    | 17, _, _ => rfl
    | 18, _, _ => rfl
    | 19, _, _ => rfl
    | 20, _, _ => rfl
    | 21, _, _ => rfl
    | 22, _, _ => rfl
    | 23, _, _ => rfl
    | 24, _, _ => rfl
    | 25, _, _ => rfl
    | 26, _, _ => rfl
    | 27, _, _ => rfl
    | 28, _, _ => rfl
    | 29, _, _ => rfl
    | 30, _, _ => rfl
    | 0, h, _ => omega
    | 1, h, _ => omega
    | 2, h, _ => omega
    | j + 31, _, h => omega
theorem q31LL : ∀ c, (LL 31 c).qual = QB := fun _ => rfl
theorem nofree {sc : Scope} {Pr : Str × NameKind → Prop} (h : (sc.names.all fun y => !decide (y.2 = .free)) = true) : ∀ y ∈ sc.names, y.2 = .free → Pr y := fun y hy e => by
  have := List.all_eq_true.mp h y hy
  rw [e] at this
  simp at this
theorem sc_stretches : FnScope ["kind", "numbers", "found", "i", "worth", "l"] ["kind", "numbers"] (defScope s_stretches) := ⟨rfl, rfl, rfl, by decide +kernel, rfl, by decide +kernel, by decide +kernel⟩
theorem sc_none_errs : FnScope ["kind", "worth"] ["kind", "worth"] (defScope s_none_errs) := ⟨rfl, rfl, rfl, by decide +kernel, rfl, by decide +kernel, by decide +kernel⟩
theorem sc_groups : FnScope ["kind", "numbers", "many", "folds", "i", "l", "j"] ["kind", "numbers"] (defScope s_groups) := ⟨rfl, rfl, rfl, by decide +kernel, rfl, by decide +kernel, by decide +kernel⟩
theorem sc__law_cell_at : FnScope ["script", "k"] ["script", "k"] (defScope s__law_cell_at) := ⟨rfl, rfl, rfl, by decide +kernel, rfl, by decide +kernel, by decide +kernel⟩
theorem sc__law_bag : FnScope ["cell", "place"] ["cell", "place"] (defScope s__law_bag) := ⟨rfl, rfl, rfl, by decide +kernel, rfl, by decide +kernel, by decide +kernel⟩
theorem sc__law_draw : FnScope ["bag", "many", "found", "mixed"] ["bag", "many"] (defScope s__law_draw) := ⟨rfl, rfl, rfl, by decide +kernel, rfl, by decide +kernel, by decide +kernel⟩
theorem sc__law_lesser : FnScope ["one", "other"] ["one", "other"] (defScope s__law_lesser) := ⟨rfl, rfl, rfl, by decide +kernel, rfl, by decide +kernel, by decide +kernel⟩
theorem sc__law_apart : FnScope ["one", "other"] ["one", "other"] (defScope s__law_apart) := ⟨rfl, rfl, rfl, by decide +kernel, rfl, by decide +kernel, by decide +kernel⟩
theorem sc__law_both : FnScope ["one", "other"] ["one", "other"] (defScope s__law_both) := ⟨rfl, rfl, rfl, by decide +kernel, rfl, by decide +kernel, by decide +kernel⟩
theorem sc__law_left_none : FnScope ["one", "other"] ["one", "other"] (defScope s__law_left_none) := ⟨rfl, rfl, rfl, by decide +kernel, rfl, by decide +kernel, by decide +kernel⟩
theorem sc__law_kind : FnScope ["at", "table"] ["at"] (defScope s__law_kind) := ⟨rfl, rfl, rfl, by decide +kernel, rfl, by decide +kernel, by decide +kernel⟩
theorem sc__law_made : FnScope ["made_by", "number"] ["made_by", "number"] (defScope s__law_made) := ⟨rfl, rfl, rfl, by decide +kernel, rfl, by decide +kernel, by decide +kernel⟩
theorem sc__law_row : FnScope ["bag", "most", "few", "k"] ["bag", "most"] (defScope s__law_row) := ⟨rfl, rfl, rfl, by decide +kernel, rfl, by decide +kernel, by decide +kernel⟩
theorem sc__law_err : FnScope ["joiner", "first", "one"] ["joiner", "first", "one"] (defScope s__law_err) := ⟨rfl, rfl, rfl, by decide +kernel, rfl, by decide +kernel, by decide +kernel⟩
theorem sc__law_stretch : FnScope ["kind_of", "row", "joiner", "first", "made_by", "found", "number"] ["kind_of", "row"] (defScope s__law_stretch) := ⟨rfl, rfl, rfl, by decide +kernel, rfl, by decide +kernel, by decide +kernel⟩
theorem sc__law_first_err : FnScope ["kind_of", "row", "joiner", "first", "made_by", "pairs", "i", "folds", "pair", "j", "l", "one"] ["kind_of", "row"] (defScope s__law_first_err) := ⟨rfl, rfl, rfl, by decide +kernel, rfl, by decide +kernel, by decide +kernel⟩
theorem sc_law : FnScope ["script", "bag", "kind_of", "joiner", "first", "made_by", "row", "handed", "kind", "found", "number", "i", "j", "l", "one", "other", "bad", "due"] ["script"] (defScope s_law) := ⟨rfl, rfl, rfl, by decide +kernel, rfl, by decide +kernel, by decide +kernel⟩
structure Gm (w : World) (K : PySem.W.Frag) (mg : Str → Option Value) : Prop where
  range : mg "range" = none
  len : mg "len" = none
  min : mg "min" = none
  list : mg "list" = none
  max : mg "max" = none
  str : mg "str" = none
  abs : mg "abs" = none
  Kind : mg "Kind" = some (.ref (He.ga K "Kind"))
  _law_apart : mg "_law_apart" = some (.ref (He.ga K "_law_apart"))
  _law_both : mg "_law_both" = some (.ref (He.ga K "_law_both"))
  _law_left_none : mg "_law_left_none" = some (.ref (He.ga K "_law_left_none"))
  _law_lesser : mg "_law_lesser" = some (.ref (He.ga K "_law_lesser"))
section
variable {P : Program} {w : World} {K : PySem.W.Frag} {mg : Str → Option Value} {base : Heap} {f : Addr} {fd : FuncData}
theorem len_sp2 {f : PyData → PyData → Option PyData} : ∀ vs H Q E, sp2 f vs H Q E → vs.length = 2 := fun vs H Q E h => by obtain ⟨x, y, dx, dy, d, S, rfl, _⟩ := h; rfl
theorem len_sp1 {f : Int → Option PyData} : ∀ vs H Q E, sp1 f vs H Q E → vs.length = 1 := fun vs H Q E h => by obtain ⟨n, d, S, rfl, _⟩ := h; rfl
theorem ok_lam0 (G : Gm w K mg) : LmX.LmOk P w K mg base 1 (LL 0) (sp2 (jnD 0)) :=
  LmX.lmok_of (k := 0) (N := ["one", "other"]) (ps := ["one", "other"]) (q := "summed.<locals>.<lambda>") (fun _ => rfl) (NdefX.nscope_by (by decide +kernel)) (fun pm cdv ctv us hl => match us, hl with | [_, _], _ => rfl) len_sp2 (t_lam0 K) (fun vs H Q h => pure_lam0 (K := K) vs H Q h) fun f c' A outer s H hr =>
    (pe_op p_add (pv 0) (pv 1))
theorem ok_lam1 (G : Gm w K mg) : LmX.LmOk P w K mg base 1 (LL 1) (sp2 (jnD 1)) :=
  LmX.lmok_of (k := 0) (N := ["one", "other"]) (ps := ["one", "other"]) (q := "strung.<locals>.<lambda>") (fun _ => rfl) (NdefX.nscope_by (by decide +kernel)) (fun pm cdv ctv us hl => match us, hl with | [_, _], _ => rfl) len_sp2 (t_lam1 K) (fun vs H Q h => pure_lam1 (K := K) vs H Q h) fun f c' A outer s H hr =>
    (pe_op p_addS (pv 0) (pv 1))
theorem ok_lam2 (G : Gm w K mg) : LmX.LmOk P w K mg base 1 (LL 2) (sp1 (mkD 2)) :=
  LmX.lmok_of (k := 0) (N := ["number"]) (ps := ["number"]) (q := "strung.<locals>.<lambda>") (fun _ => rfl) (NdefX.nscope_by (by decide +kernel)) (fun pm cdv ctv us hl => match us, hl with | [_], _ => rfl) len_sp1 (t_lam2 K) (fun vs H Q h => pure_lam2 (K := K) vs H Q h) fun f c' A outer s H hr =>
    (pe_joined (PJ.cons (pe_fmt (pv 0)) (PJ.cons pe_str PJ.nil)))
theorem ok_lam3 (G : Gm w K mg) : LmX.LmOk P w K mg base 1 (LL 3) (sp2 (jnD 3)) :=
  LmX.lmok_of (k := 0) (N := ["one", "other"]) (ps := ["one", "other"]) (q := "_law_kind.<locals>.<lambda>") (fun _ => rfl) (NdefX.nscope_by (by decide +kernel)) (fun pm cdv ctv us hl => match us, hl with | [_, _], _ => rfl) len_sp2 (t_lam3 K) (fun vs H Q h => pure_lam3 (K := K) vs H Q h) fun f c' A outer s H hr =>
    (pe_op p_add (pv 0) (pv 1))
theorem ok_lam4 (G : Gm w K mg) : LmX.LmOk P w K mg base 1 (LL 4) (sp2 (jnD 4)) :=
  LmX.lmok_of (k := 0) (N := ["one", "other"]) (ps := ["one", "other"]) (q := "_law_kind.<locals>.<lambda>") (fun _ => rfl) (NdefX.nscope_by (by decide +kernel)) (fun pm cdv ctv us hl => match us, hl with | [_, _], _ => rfl) len_sp2 (t_lam4 K) (fun vs H Q h => pure_lam4 (K := K) vs H Q h) fun f c' A outer s H hr =>
    (pe_ifExp (pt_cmpR p_isN (pv 1) pe_non (nomark _)) (pv 0) (pv 1))
theorem ok_lam5 (G : Gm w K mg) : LmX.LmOk P w K mg base 1 (LL 5) (sp2 (jnD 5)) :=
  LmX.lmok_of (k := 0) (N := ["one", "other"]) (ps := ["one", "other"]) (q := "_law_kind.<locals>.<lambda>") (fun _ => rfl) (NdefX.nscope_by (by decide +kernel)) (fun pm cdv ctv us hl => match us, hl with | [_, _], _ => rfl) len_sp2 (t_lam5 K) (fun vs H Q h => pure_lam5 (K := K) vs H Q h) fun f c' A outer s H hr =>
    (pe_op p_addS (pv 0) (pv 1))
theorem ok_lam6 (G : Gm w K mg) : LmX.LmOk P w K mg base 1 (LL 6) (sp1 (mkD 6)) :=
  LmX.lmok_of (k := 0) (N := ["number"]) (ps := ["number"]) (q := "_law_kind.<locals>.<lambda>") (fun _ => rfl) (NdefX.nscope_by (by decide +kernel)) (fun pm cdv ctv us hl => match us, hl with | [_], _ => rfl) len_sp1 (t_lam6 K) (fun vs H Q h => pure_lam6 (K := K) vs H Q h) fun f c' A outer s H hr =>
    (pe_joined (PJ.cons (pe_fmt (pv 0)) (PJ.cons pe_str PJ.nil)))
theorem ok_lam7 (G : Gm w K mg) : LmX.LmOk P w K mg base 1 (LL 7) (sp1 (mkD 7)) :=
  LmX.lmok_of (k := 0) (N := ["number"]) (ps := ["number"]) (q := "_law_kind.<locals>.<lambda>") (fun _ => rfl) (NdefX.nscope_by (by decide +kernel)) (fun pm cdv ctv us hl => match us, hl with | [_], _ => rfl) len_sp1 (t_lam7 K) (fun vs H Q h => pure_lam7 (K := K) vs H Q h) fun f c' A outer s H hr =>
    (pe_tup (pa_cons (pv 0) (pa_cons (pv 0) pa_nil)))
theorem ok_lam8 (G : Gm w K mg) : LmX.LmOk P w K mg base 1 (LL 8) (sp2 (jnD 8)) :=
  LmX.lmok_of (k := 0) (N := ["one", "other"]) (ps := ["one", "other"]) (q := "_law_kind.<locals>.<lambda>") (fun _ => rfl) (NdefX.nscope_by (by decide +kernel)) (fun pm cdv ctv us hl => match us, hl with | [_, _], _ => rfl) len_sp2 (t_lam8 K) (fun vs H Q h => pure_lam8 (K := K) vs H Q h) fun f c' A outer s H hr =>
    (pe_op op_cat (pv 0) (pv 1))
theorem ok_lam9 (G : Gm w K mg) : LmX.LmOk P w K mg base 1 (LL 9) (sp1 (mkD 9)) :=
  LmX.lmok_of (k := 0) (N := ["number"]) (ps := ["number"]) (q := "_law_kind.<locals>.<lambda>") (fun _ => rfl) (NdefX.nscope_by (by decide +kernel)) (fun pm cdv ctv us hl => match us, hl with | [_], _ => rfl) len_sp1 (t_lam9 K) (fun vs H Q h => pure_lam9 (K := K) vs H Q h) fun f c' A outer s H hr =>
    (pe_lst (pa_cons (pv 0) pa_nil))
theorem ok_lam10 (G : Gm w K mg) : LmX.LmOk P w K mg base 1 (LL 10) (sp2 (jnD 10)) :=
  LmX.lmok_of (k := 0) (N := ["one", "other"]) (ps := ["one", "other"]) (q := "_law_kind.<locals>.<lambda>") (fun _ => rfl) (NdefX.nscope_by (by decide +kernel)) (fun pm cdv ctv us hl => match us, hl with | [_, _], _ => rfl) len_sp2 (t_lam10 K) (fun vs H Q h => pure_lam10 (K := K) vs H Q h) fun f c' A outer s H hr =>
    (pe_op p_mod (pe_op p_mul (pv 0) (pv 1)) pe_int)
theorem ok_lam11 (G : Gm w K mg) : LmX.LmOk P w K mg base 1 (LL 11) (sp1 (mkD 11)) :=
  LmX.lmok_of (k := 0) (N := ["number"]) (ps := ["number"]) (q := "_law_kind.<locals>.<lambda>") (fun _ => rfl) (NdefX.nscope_by (by decide +kernel)) (fun pm cdv ctv us hl => match us, hl with | [_], _ => rfl) len_sp1 (t_lam11 K) (fun vs H Q h => pure_lam11 (K := K) vs H Q h) fun f c' A outer s H hr =>
    (pe_op p_mod (pv 0) pe_int)
theorem ok_lam12 (G : Gm w K mg) : LmX.LmOk P w K mg base 1 (LL 12) (sp2 (jnD 12)) :=
  LmX.lmok_of (k := 0) (N := ["one", "other"]) (ps := ["one", "other"]) (q := "_law_kind.<locals>.<lambda>") (fun _ => rfl) (NdefX.nscope_by (by decide +kernel)) (fun pm cdv ctv us hl => match us, hl with | [_, _], _ => rfl) len_sp2 (t_lam12 K) (fun vs H Q h => pure_lam12 (K := K) vs H Q h) fun f c' A outer s H hr =>
    (pe_op p_add (pe_op p_add (pv 0) (pv 1)) pe_int)
theorem ok_lam13 (G : Gm w K mg) : LmX.LmOk P w K mg base 1 (LL 13) (sp2 (jnD 13)) :=
  LmX.lmok_of (k := 0) (N := ["one", "other"]) (ps := ["one", "other"]) (q := "_law_kind.<locals>.<lambda>") (fun _ => rfl) (NdefX.nscope_by (by decide +kernel)) (fun pm cdv ctv us hl => match us, hl with | [_, _], _ => rfl) len_sp2 (t_lam13 K) (fun vs H Q h => pure_lam13 (K := K) vs H Q h) fun f c' A outer s H hr =>
    (pe_op p_addS (pv 1) (pv 0))
theorem ok_lam14 (G : Gm w K mg) : LmX.LmOk P w K mg base 1 (LL 14) (sp1 (mkD 14)) :=
  LmX.lmok_of (k := 0) (N := ["number"]) (ps := ["number"]) (q := "_law_kind.<locals>.<lambda>") (fun _ => rfl) (NdefX.nscope_by (by decide +kernel)) (fun pm cdv ctv us hl => match us, hl with | [_], _ => rfl) len_sp1 (t_lam14 K) (fun vs H Q h => pure_lam14 (K := K) vs H Q h) fun f c' A outer s H hr =>
    (pe_callTy p_strI (by rfl) G.str (by decide +kernel) (pa_cons (pe_op p_mod (pv 0) pe_int) pa_nil))
theorem ok_lam15 (G : Gm w K mg) : LmX.LmOk P w K mg base 1 (LL 15) (sp2 (jnD 15)) :=
  LmX.lmok_of (k := 0) (N := ["one", "other"]) (ps := ["one", "other"]) (q := "_law_kind.<locals>.<lambda>") (fun _ => rfl) (NdefX.nscope_by (by decide +kernel)) (fun pm cdv ctv us hl => match us, hl with | [_, _], _ => rfl) len_sp2 (t_lam15 K) (fun vs H Q h => pure_lam15 (K := K) vs H Q h) fun f c' A outer s H hr =>
    (pe_ifExp (pt_cmpR p_isN (pv 1) pe_non (nomark _)) (pv 0) (pv 1))
theorem ok_lam16 (G : Gm w K mg) : LmX.LmOk P w K mg base 1 (LL 16) (sp1 (mkD 16)) :=
  LmX.lmok_of (k := 0) (N := ["number"]) (ps := ["number"]) (q := "_law_kind.<locals>.<lambda>") (fun _ => rfl) (NdefX.nscope_by (by decide +kernel)) (fun pm cdv ctv us hl => match us, hl with | [_], _ => rfl) len_sp1 (t_lam16 K) (fun vs H Q h => pure_lam16 (K := K) vs H Q h) fun f c' A outer s H hr =>
    (pe_op p_fdiv (pv 0) pe_int)
theorem ok_lam17 (G : Gm w K mg) : LmX.LmOk P w K mg base 1 (LL 17) (sp2 (jnD 17)) :=
  LmX.lmok_of (k := 0) (N := ["one", "other"]) (ps := ["one", "other"]) (q := "_law_kind.<locals>.<lambda>") (fun _ => rfl) (NdefX.nscope_by (by decide +kernel)) (fun pm cdv ctv us hl => match us, hl with | [_, _], _ => rfl) len_sp2 (t_lam17 K) (fun vs H Q h => pure_lam17 (K := K) vs H Q h) fun f c' A outer s H hr =>
    (pe_op p_sub (pv 0) (pv 1))
theorem ok_lam18 (G : Gm w K mg) : LmX.LmOk P w K mg base 1 (LL 18) (sp2 (jnD 18)) :=
  LmX.lmok_of (k := 0) (N := ["one", "other"]) (ps := ["one", "other"]) (q := "_law_kind.<locals>.<lambda>") (fun _ => rfl) (NdefX.nscope_by (by decide +kernel)) (fun pm cdv ctv us hl => match us, hl with | [_, _], _ => rfl) len_sp2 (t_lam18 K) (fun vs H Q h => pure_lam18 (K := K) vs H Q h) fun f c' A outer s H hr =>
    (pe_ifExp (PW.pt (pw_and (pt_cmpR op_eq (pv 0) pe_int (nomark _)) (pw_and1 (pt_cmpR op_eq (pv 1) pe_int (nomark _))))) pe_int (pe_op p_add (pv 0) (pv 1)))
theorem ok_lam19 (G : Gm w K mg) : LmX.LmOk P w K mg base 1 (LL 19) (sp2 (jnD 19)) :=
  LmX.lmok_of (k := 0) (N := ["one", "other"]) (ps := ["one", "other"]) (q := "_law_kind.<locals>.<lambda>") (fun _ => rfl) (NdefX.nscope_by (by decide +kernel)) (fun pm cdv ctv us hl => match us, hl with | [_, _], _ => rfl) len_sp2 (t_lam19 K) (fun vs H Q h => pure_lam19 (K := K) vs H Q h) fun f c' A outer s H hr =>
    (pe_callB (p_min rfl) (by rfl) G.min (by decide +kernel) (pa_cons (pe_op p_add (pv 0) (pv 1)) (pa_cons pe_int pa_nil)))
theorem ok_lam20 (G : Gm w K mg) : LmX.LmOk P w K mg base 1 (LL 20) (sp1 (mkD 20)) :=
  LmX.lmok_of (k := 0) (N := ["number"]) (ps := ["number"]) (q := "_law_kind.<locals>.<lambda>") (fun _ => rfl) (NdefX.nscope_by (by decide +kernel)) (fun pm cdv ctv us hl => match us, hl with | [_], _ => rfl) len_sp1 (t_lam20 K) (fun vs H Q h => pure_lam20 (K := K) vs H Q h) fun f c' A outer s H hr =>
    (pe_callB p_abs (by rfl) G.abs (by decide +kernel) (pa_cons (pv 0) pa_nil))
theorem ok_lam21 (G : Gm w K mg) : LmX.LmOk P w K mg base 1 (LL 21) (sp2 (jnD 21)) :=
  LmX.lmok_of (k := 0) (N := ["one", "other"]) (ps := ["one", "other"]) (q := "_law_kind.<locals>.<lambda>") (fun _ => rfl) (NdefX.nscope_by (by decide +kernel)) (fun pm cdv ctv us hl => match us, hl with | [_, _], _ => rfl) len_sp2 (t_lam21 K) (fun vs H Q h => pure_lam21 (K := K) vs H Q h) fun f c' A outer s H hr =>
    (pe_ifExp (pt_cmpR op_eq (pe_op p_add (pv 0) (pv 1)) pe_int (nomark _)) pe_int (pe_op p_add (pv 0) (pv 1)))
theorem ok_lam22 (G : Gm w K mg) : LmX.LmOk P w K mg base 1 (LL 22) (sp2 (jnD 22)) :=
  LmX.lmok_of (k := 0) (N := ["one", "other"]) (ps := ["one", "other"]) (q := "_law_kind.<locals>.<lambda>") (fun _ => rfl) (NdefX.nscope_by (by decide +kernel)) (fun pm cdv ctv us hl => match us, hl with | [_, _], _ => rfl) len_sp2 (t_lam22 K) (fun vs H Q h => pure_lam22 (K := K) vs H Q h) fun f c' A outer s H hr =>
    (pe_op p_add (pv 0) (pv 1))
theorem ok_lam23 (G : Gm w K mg) : LmX.LmOk P w K mg base 1 (LL 23) (sp2 (jnD 23)) :=
  LmX.lmok_of (k := 0) (N := ["one", "other"]) (ps := ["one", "other"]) (q := "_law_kind.<locals>.<lambda>") (fun _ => rfl) (NdefX.nscope_by (by decide +kernel)) (fun pm cdv ctv us hl => match us, hl with | [_, _], _ => rfl) len_sp2 (t_lam23 K) (fun vs H Q h => pure_lam23 (K := K) vs H Q h) fun f c' A outer s H hr =>
    (pe_op p_fdiv (pe_op p_add (pv 0) (pv 1)) pe_int)
theorem ok_lam24 (G : Gm w K mg) : LmX.LmOk P w K mg base 1 (LL 24) (sp2 (jnD 24)) :=
  LmX.lmok_of (k := 0) (N := ["one", "other"]) (ps := ["one", "other"]) (q := "_law_kind.<locals>.<lambda>") (fun _ => rfl) (NdefX.nscope_by (by decide +kernel)) (fun pm cdv ctv us hl => match us, hl with | [_, _], _ => rfl) len_sp2 (t_lam24 K) (fun vs H Q h => pure_lam24 (K := K) vs H Q h) fun f c' A outer s H hr =>
    (pe_op p_addS (pv 0) (pe_slice sl_str (pv 1) po_none (po_some pe_int)))
theorem ok_lam25 (G : Gm w K mg) : LmX.LmOk P w K mg base 1 (LL 25) (sp1 (mkD 25)) :=
  LmX.lmok_of (k := 0) (N := ["number"]) (ps := ["number"]) (q := "_law_kind.<locals>.<lambda>") (fun _ => rfl) (NdefX.nscope_by (by decide +kernel)) (fun pm cdv ctv us hl => match us, hl with | [_], _ => rfl) len_sp1 (t_lam25 K) (fun vs H Q h => pure_lam25 (K := K) vs H Q h) fun f c' A outer s H hr =>
    (pe_joined (PJ.cons (pe_fmt (pv 0)) (PJ.cons pe_str PJ.nil)))
theorem ok_lam26 (G : Gm w K mg) : LmX.LmOk P w K mg base 1 (LL 26) (sp2 (jnD 26)) :=
  LmX.lmok_of (k := 0) (N := ["one", "other"]) (ps := ["one", "other"]) (q := "_law_kind.<locals>.<lambda>") (fun _ => rfl) (NdefX.nscope_by (by decide +kernel)) (fun pm cdv ctv us hl => match us, hl with | [_, _], _ => rfl) len_sp2 (t_lam26 K) (fun vs H Q h => pure_lam26 (K := K) vs H Q h) fun f c' A outer s H hr =>
    (pe_ifExp (pt_cmpR p_isN (pv 0) pe_non (nomark _)) pe_int (pe_op p_add (pv 0) pe_int))
theorem ok_lam27 (G : Gm w K mg) : LmX.LmOk P w K mg base 1 (LL 27) (sp2 (jnD 27)) :=
  LmX.lmok_of (k := 0) (N := ["one", "other"]) (ps := ["one", "other"]) (q := "_law_kind.<locals>.<lambda>") (fun _ => rfl) (NdefX.nscope_by (by decide +kernel)) (fun pm cdv ctv us hl => match us, hl with | [_, _], _ => rfl) len_sp2 (t_lam27 K) (fun vs H Q h => pure_lam27 (K := K) vs H Q h) fun f c' A outer s H hr =>
    (pv 1)
theorem ok_lam28 (G : Gm w K mg) : LmX.LmOk P w K mg base 1 (LL 28) (sp1 (mkD 28)) :=
  LmX.lmok_of (k := 0) (N := ["number"]) (ps := ["number"]) (q := "_law_kind.<locals>.<lambda>") (fun _ => rfl) (NdefX.nscope_by (by decide +kernel)) (fun pm cdv ctv us hl => match us, hl with | [_], _ => rfl) len_sp1 (t_lam28 K) (fun vs H Q h => pure_lam28 (K := K) vs H Q h) fun f c' A outer s H hr =>
    (pe_ifExp (pt_cmpR op_eq (pe_op p_mod (pv 0) pe_int) pe_int (nomark _)) pe_non (pv 0))
theorem ok_lam29 (G : Gm w K mg) : LmX.LmOk P w K mg base 1 (LL 29) (sp2 (jnD 29)) :=
  LmX.lmok_of (k := 0) (N := ["one", "other"]) (ps := ["one", "other"]) (q := "_law_kind.<locals>.<lambda>") (fun _ => rfl) (NdefX.nscope_by (by decide +kernel)) (fun pm cdv ctv us hl => match us, hl with | [_, _], _ => rfl) len_sp2 (t_lam29 K) (fun vs H Q h => pure_lam29 (K := K) vs H Q h) fun f c' A outer s H hr =>
    (pe_callB (p_maxB rfl) (by rfl) G.max (by decide +kernel) (pa_cons (pv 0) (pa_cons (pv 1) pa_nil)))
theorem ok_lam30 (G : Gm w K mg) : LmX.LmOk P w K mg base 1 (LL 30) (sp1 (mkD 30)) :=
  LmX.lmok_of (k := 0) (N := ["number"]) (ps := ["number"]) (q := "_law_kind.<locals>.<lambda>") (fun _ => rfl) (NdefX.nscope_by (by decide +kernel)) (fun pm cdv ctv us hl => match us, hl with | [_], _ => rfl) len_sp1 (t_lam30 K) (fun vs H Q h => pure_lam30 (K := K) vs H Q h) fun f c' A outer s H hr =>
    (pe_cmpR p_gt (pv 0) pe_int (nomark _))
theorem ok_lams (G : Gm w K mg) : ∀ j, j < 31 → LmX.LmOk P w K mg base 1 (LL j) (lspD j) := fun j h => by
  match j, h with
  | 0, _ => exact (show lspD 0 = _ from if_neg (by decide)) ▸ ok_lam0 G
  | 1, _ => exact (show lspD 1 = _ from if_neg (by decide)) ▸ ok_lam1 G
  | 2, _ => exact (show lspD 2 = _ from if_pos (by decide)) ▸ ok_lam2 G
  | 3, _ => exact (show lspD 3 = _ from if_neg (by decide)) ▸ ok_lam3 G
  | 4, _ => exact (show lspD 4 = _ from if_neg (by decide)) ▸ ok_lam4 G
  | 5, _ => exact (show lspD 5 = _ from if_neg (by decide)) ▸ ok_lam5 G
  | 6, _ => exact (show lspD 6 = _ from if_pos (by decide)) ▸ ok_lam6 G
  | 7, _ => exact (show lspD 7 = _ from if_pos (by decide)) ▸ ok_lam7 G
  | 8, _ => exact (show lspD 8 = _ from if_neg (by decide)) ▸ ok_lam8 G
  | 9, _ => exact (show lspD 9 = _ from if_pos (by decide)) ▸ ok_lam9 G
  | 10, _ => exact (show lspD 10 = _ from if_neg (by decide)) ▸ ok_lam10 G
  | 11, _ => exact (show lspD 11 = _ from if_pos (by decide)) ▸ ok_lam11 G
  | 12, _ => exact (show lspD 12 = _ from if_neg (by decide)) ▸ ok_lam12 G
  | 13, _ => exact (show lspD 13 = _ from if_neg (by decide)) ▸ ok_lam13 G
  | 14, _ => exact (show lspD 14 = _ from if_pos (by decide)) ▸ ok_lam14 G
  | 15, _ => exact (show lspD 15 = _ from if_neg (by decide)) ▸ ok_lam15 G
  | 16, _ => exact (show lspD 16 = _ from if_pos (by decide)) ▸ ok_lam16 G
  | 17, _ => exact (show lspD 17 = _ from if_neg (by decide)) ▸ ok_lam17 G
  | 18, _ => exact (show lspD 18 = _ from if_neg (by decide)) ▸ ok_lam18 G
  | 19, _ => exact (show lspD 19 = _ from if_neg (by decide)) ▸ ok_lam19 G
  | 20, _ => exact (show lspD 20 = _ from if_pos (by decide)) ▸ ok_lam20 G
  | 21, _ => exact (show lspD 21 = _ from if_neg (by decide)) ▸ ok_lam21 G
  | 22, _ => exact (show lspD 22 = _ from if_neg (by decide)) ▸ ok_lam22 G
  | 23, _ => exact (show lspD 23 = _ from if_neg (by decide)) ▸ ok_lam23 G
  | 24, _ => exact (show lspD 24 = _ from if_neg (by decide)) ▸ ok_lam24 G
  | 25, _ => exact (show lspD 25 = _ from if_pos (by decide)) ▸ ok_lam25 G
  | 26, _ => exact (show lspD 26 = _ from if_neg (by decide)) ▸ ok_lam26 G
  | 27, _ => exact (show lspD 27 = _ from if_neg (by decide)) ▸ ok_lam27 G
  | 28, _ => exact (show lspD 28 = _ from if_pos (by decide)) ▸ ok_lam28 G
  | 29, _ => exact (show lspD 29 = _ from if_neg (by decide)) ▸ ok_lam29 G
  | 30, _ => exact (show lspD 30 = _ from if_pos (by decide)) ▸ ok_lam30 G
  | j + 31, h => omega
theorem ok_lam31 (G : Gm w K mg) (CVO : LmX.CvOk P w K mg base 2 (CVo K LL)) : LmX.LmC P w K mg base 3 (LB LL) frB (spB K LL) :=
  LmX.lmc_of (k := 2) (N := ["a", "b", "first", "joiner", "one", "other"]) (ps := ["a", "b"]) (q := QB) (fun _ _ => rfl) (NdefX.nscope_by (by decide +kernel)) (fun cl pm cdv ctv us hl => match us, hl with | [_, _], _ => rfl) len_spB (t_lam31 K LL) (fun ws vs H Q hw h => pure_lam31 (K := K) ws vs H Q h) fun cl f c' A outer s H hr =>
    (pe_ifExp (PW.pt (pw_and (pt_cmpR (p_eqD hr.units) (pv 0) (pv 4) (nomark _)) (pw_and1 (pt_cmpR (p_eqD hr.units) (pv 1) (pv 5) (nomark _))))) (pv 2) (pe_callv CVO hr (by decide) rfl (by first | exact Or.inl rfl | exact Or.inr (Or.inl rfl) | exact Or.inr (Or.inr rfl)) (pa_cons (pv 0) (pa_cons (pv 1) pa_nil))))
theorem lkB1 : (defScope s_law).names.lookup (Str.ofString "first") = some NameKind.cell := by decide +kernel
theorem lkB2 : (defScope s_law).names.lookup (Str.ofString "joiner") = some NameKind.cell := by decide +kernel
theorem lkB3 : (defScope s_law).names.lookup (Str.ofString "one") = some NameKind.cell := by decide +kernel
theorem lkB4 : (defScope s_law).names.lookup (Str.ofString "other") = some NameKind.cell := by decide +kernel
theorem hceB (m : Nat) : cellsFrom (m + 1) (defScope s_law).names [] = clB m := by kernel_rfl
theorem ok__law_apart (F : FnP K "_law_apart" s__law_apart [] f fd) (G : Gm w K mg)  : FnOk P w K mg base CX0 1 f fd ["one", "other"] (sp2 apD) :=
  FnP.go (k := 0) F sc__law_apart len_sp2 (t__law_apart) (fun vs H Q E h => pure__law_apart (K := K) vs H Q E h) fun cdv A outer s H E hr =>
    (pss_cons (ps_if (PW.pt (pw_or (pt_cmpR p_isN (pv 0) pe_non (nomark _)) (pw_or1 (pt_cmpR p_isN (pv 1) pe_non (nomark _))))) (pss_one (ps_ret (pe_ifExp (pt_cmpR p_isN (pv 0) pe_non (nomark _)) (pv 1) (pv 0)))) pss_nil)
      (pss_one (ps_ret (pe_op p_sub (pv 0) (pv 1)))))
theorem ok__law_both (F : FnP K "_law_both" s__law_both [] f fd) (G : Gm w K mg)  : FnOk P w K mg base CX0 1 f fd ["one", "other"] (sp2 boD) :=
  FnP.go (k := 0) F sc__law_both len_sp2 (t__law_both K) (fun vs H Q E h => pure__law_both (K := K) vs H Q E h) fun cdv A outer s H E hr =>
    (pss_one (ps_ret (pe_ifExp (pt_cmpR (p_neD hr.units) (pe_op op_catA (pv 0) (pv 1)) (pe_tup pa_nil) (nomark _)) (pe_tup (pa_cons (pe_callB (cr_minT rfl hr.units) (by rfl) G.min (by decide +kernel) (pa_cons (pe_op op_catA (pv 0) (pv 1)) pa_nil)) (pa_cons (pe_callB (cr_maxT rfl hr.units) (by rfl) G.max (by decide +kernel) (pa_cons (pe_op op_catA (pv 0) (pv 1)) pa_nil)) pa_nil))) (pe_tup pa_nil))))
theorem ok__law_left_none (F : FnP K "_law_left_none" s__law_left_none [] f fd) (G : Gm w K mg)  : FnOk P w K mg base CX0 1 f fd ["one", "other"] (sp2 lnD) :=
  FnP.go (k := 0) F sc__law_left_none len_sp2 (t__law_left_none) (fun vs H Q E h => pure__law_left_none (K := K) vs H Q E h) fun cdv A outer s H E hr =>
    (pss_cons (ps_if (PW.pt (pw_or (pt_cmpR p_isN (pv 0) pe_non (nomark _)) (pw_or1 (pt_cmpR p_isN (pv 1) pe_non (nomark _))))) (pss_one (ps_ret (pv 0))) pss_nil)
      (pss_one (ps_ret (pe_op p_add (pv 0) (pv 1)))))
theorem ok__law_lesser (F : FnP K "_law_lesser" s__law_lesser [] f fd) (G : Gm w K mg)  : FnOk P w K mg base CX0 1 f fd ["one", "other"] (sp2 leD) :=
  FnP.go (k := 0) F sc__law_lesser len_sp2 (t__law_lesser) (fun vs H Q E h => pure__law_lesser (K := K) vs H Q E h) fun cdv A outer s H E hr =>
    (pss_cons (ps_if (PW.pt (pw_or (pt_cmpR p_isN (pv 0) pe_non (nomark _)) (pw_or1 (pt_cmpR p_isN (pv 1) pe_non (nomark _))))) (pss_one (ps_ret (pe_ifExp (pt_cmpR p_isN (pv 0) pe_non (nomark _)) (pv 1) (pv 0)))) pss_nil)
      (pss_one (ps_ret (pe_callB (p_min rfl) (by rfl) G.min (by decide +kernel) (pa_cons (pv 0) (pa_cons (pv 1) pa_nil))))))
theorem ok__law_cell_at (F : FnP K "_law_cell_at" s__law_cell_at [] f fd) (G : Gm w K mg)  : FnOk P w K mg base CX0 1 f fd ["script", "k"] (sp__law_cell_at K) :=
  FnP.go (k := 0) F sc__law_cell_at (fun vs H Q E => by first | (unfold sp__law_cell_at; walk_at "len") | walk_at "len" | (unfold sp__law_cell_at KdTold; exact fun ⟨e, _⟩ => by rw [e]; rfl)) (t__law_cell_at K) (fun vs H Q E h => pure__law_cell_at (K := K) vs H Q E h) fun cdv A outer s H E hr =>
    (pss_cons (ps_if (pt_cmpR p_lt (pv 1) (pe_callB p_lenQ (by rfl) G.len (by decide +kernel) (pa_cons (pv 0) pa_nil)) (nomark _)) (pss_one (ps_ret (pe_ix ix_list (pv 0) (pv 1) (fun _ _ => rfl)))) pss_nil)
      (pss_one (ps_ret pe_int)))
theorem ok__law_bag (F : FnP K "_law_bag" s__law_bag [] f fd) (G : Gm w K mg)  : FnOk P w K mg base CX0 1 f fd ["cell", "place"] sp__law_bag :=
  FnP.go (k := 0) F sc__law_bag (fun vs H Q E => by first | (unfold sp__law_bag; walk_at "len") | walk_at "len" | (unfold sp__law_bag KdTold; exact fun ⟨e, _⟩ => by rw [e]; rfl)) (t__law_bag) (fun vs H Q E h => pure__law_bag (K := K) vs H Q E h) fun cdv A outer s H E hr =>
    (pss_one (ps_ret (pe_lst (pa_cons (pe_callB (p_max rfl) (by rfl) G.max (by decide +kernel) (pa_cons pe_int (pa_cons (pe_op p_sub (pv 0) (pe_op p_pow pe_int pe_int)) pa_nil))) (pa_cons (pe_op p_add (pe_op p_mod (pv 0) pe_int) (pe_op p_mul pe_int (pv 1))) (pa_cons pe_int pa_nil))))))
theorem ok__law_draw (F : FnP K "_law_draw" s__law_draw [] f fd) (G : Gm w K mg)  : FnOk P w K mg base CX0 1 f fd ["bag", "many"] sp__law_draw :=
  FnP.go (k := 0) F sc__law_draw (fun vs H Q E => by first | (unfold sp__law_draw; walk_at "len") | walk_at "len" | (unfold sp__law_draw KdTold; exact fun ⟨e, _⟩ => by rw [e]; rfl)) (t__law_draw K) (fun vs H Q E h => pure__law_draw (K := K) vs H Q E h) fun cdv A outer s H E hr =>
    (pss_cons (ps_if (pt_cmpR p_gt (pe_ix ix_list (pv 0) pe_int (fun _ _ => rfl)) pe_int (nomark _)) (pss_cons (ps_set (i := 2) sc__law_draw.nd rfl (by first | exact Or.inl rfl | exact Or.inr rfl) (pe_op p_mod (pe_ix ix_list (pv 0) pe_int (fun _ _ => rfl)) (pv 1)))
      (pss_cons (ps_asg (pe_op p_fdiv (pe_ix ix_list (pv 0) pe_int (fun _ _ => rfl)) (pv 1)) (pg_sub (pv 0) pe_int set_list))
      (pss_one (ps_ret (pv 2))))) pss_nil)
      (pss_cons (ps_asg (pe_op p_add (pe_ix ix_list (pv 0) pe_int (fun _ _ => rfl)) pe_int) (pg_sub (pv 0) pe_int set_list))
      (pss_cons (ps_set (i := 3) sc__law_draw.nd rfl (by first | exact Or.inl rfl | exact Or.inr rfl) (pe_op p_mod (pe_op p_pow (pe_op p_add (pe_ix ix_list (pv 0) pe_int (fun _ _ => rfl)) (pe_op p_mul pe_int (pe_ix ix_list (pv 0) pe_int (fun _ _ => rfl)))) pe_int) pe_int))
      (pss_cons (ps_set (i := 3) sc__law_draw.nd rfl (by first | exact Or.inl rfl | exact Or.inr rfl) (pe_op p_mod (pe_op p_pow (pe_op p_add (pv 3) (pe_op p_mul pe_int (pe_ix ix_list (pv 0) pe_int (fun _ _ => rfl)))) pe_int) pe_int))
      (pss_one (ps_ret (pe_op p_mod (pe_op p_fdiv (pv 3) pe_int) (pv 1))))))))
theorem ok__law_kind (F : FnP K "_law_kind" s__law_kind [] (He.ga K "_law_kind") fd) (G : Gm w K mg) (LQQ : LQ LL) (TB__law_kind : LamX.TabB base mg (LmX.codP K "_law_kind") (LmX.tabP K "_law_kind"))  : FnOk P w K mg base CX0 1 (He.ga K "_law_kind") fd ["at"] (sp__law_kind K (noB LL)) :=
  LmX.goT (k := 0) F sc__law_kind (fun vs H Q E => by first | (unfold sp__law_kind; walk_at "len") | walk_at "len" | (unfold sp__law_kind KdTold; exact fun ⟨e, _⟩ => by rw [e]; rfl)) (t__law_kind K (noB LL)) (fun vs H Q E h => pure__law_kind (K := K) (L := noB LL) (lq_noB LQQ) vs H Q E h) fun A outer s H E hr =>
    (pss_cons (ps_set (i := 1) sc__law_kind.nd rfl (by first | exact Or.inl rfl | exact Or.inr rfl) (pe_lst (pa_cons (pe_tup (pa_cons (pe_lam TB__law_kind rfl rfl rfl (nofree (by decide +kernel)) (fun _ => rfl)) (pa_cons pe_int (pa_cons pe_non pa_nil)))) (pa_cons (pe_tup (pa_cons (pe_glob (by rfl) G._law_lesser rfl) (pa_cons pe_non (pa_cons pe_non pa_nil)))) pa_nil))))
      (pss_cons (ps_expr (pe_bm PySem.F.plainAttrs_list PySem.F.slot_list_append PySem.F.type_list_append mt_append (pv 1) (pa_cons (pe_tup (pa_cons (pe_lam TB__law_kind rfl rfl rfl (nofree (by decide +kernel)) (fun _ => rfl)) (pa_cons pe_non (pa_cons pe_non pa_nil)))) pa_nil)))
      (pss_cons (ps_expr (pe_bm PySem.F.plainAttrs_list PySem.F.slot_list_append PySem.F.type_list_append mt_append (pv 1) (pa_cons (pe_tup (pa_cons (pe_lam TB__law_kind rfl rfl rfl (nofree (by decide +kernel)) (fun _ => rfl)) (pa_cons pe_str (pa_cons (pe_lam TB__law_kind rfl rfl rfl (nofree (by decide +kernel)) (fun _ => rfl)) pa_nil)))) pa_nil)))
      (pss_cons (ps_expr (pe_bm PySem.F.plainAttrs_list PySem.F.slot_list_append PySem.F.type_list_append mt_append (pv 1) (pa_cons (pe_tup (pa_cons (pe_glob (by rfl) G._law_both rfl) (pa_cons (pe_tup pa_nil) (pa_cons (pe_lam TB__law_kind rfl rfl rfl (nofree (by decide +kernel)) (fun _ => rfl)) pa_nil)))) pa_nil)))
      (pss_cons (ps_expr (pe_bm PySem.F.plainAttrs_list PySem.F.slot_list_append PySem.F.type_list_append mt_append (pv 1) (pa_cons (pe_tup (pa_cons (pe_lam TB__law_kind rfl rfl rfl (nofree (by decide +kernel)) (fun _ => rfl)) (pa_cons (pe_lst pa_nil) (pa_cons (pe_lam TB__law_kind rfl rfl rfl (nofree (by decide +kernel)) (fun _ => rfl)) pa_nil)))) pa_nil)))
      (pss_cons (ps_expr (pe_bm PySem.F.plainAttrs_list PySem.F.slot_list_append PySem.F.type_list_append mt_append (pv 1) (pa_cons (pe_tup (pa_cons (pe_lam TB__law_kind rfl rfl rfl (nofree (by decide +kernel)) (fun _ => rfl)) (pa_cons pe_int (pa_cons (pe_lam TB__law_kind rfl rfl rfl (nofree (by decide +kernel)) (fun _ => rfl)) pa_nil)))) pa_nil)))
      (pss_cons (ps_expr (pe_bm PySem.F.plainAttrs_list PySem.F.slot_list_append PySem.F.type_list_append mt_append (pv 1) (pa_cons (pe_tup (pa_cons (pe_lam TB__law_kind rfl rfl rfl (nofree (by decide +kernel)) (fun _ => rfl)) (pa_cons (pe_un un_neg pe_int) (pa_cons pe_non pa_nil)))) pa_nil)))
      (pss_cons (ps_expr (pe_bm PySem.F.plainAttrs_list PySem.F.slot_list_append PySem.F.type_list_append mt_append (pv 1) (pa_cons (pe_tup (pa_cons (pe_lam TB__law_kind rfl rfl rfl (nofree (by decide +kernel)) (fun _ => rfl)) (pa_cons pe_str (pa_cons (pe_lam TB__law_kind rfl rfl rfl (nofree (by decide +kernel)) (fun _ => rfl)) pa_nil)))) pa_nil)))
      (pss_cons (ps_expr (pe_bm PySem.F.plainAttrs_list PySem.F.slot_list_append PySem.F.type_list_append mt_append (pv 1) (pa_cons (pe_tup (pa_cons (pe_lam TB__law_kind rfl rfl rfl (nofree (by decide +kernel)) (fun _ => rfl)) (pa_cons pe_non (pa_cons (pe_lam TB__law_kind rfl rfl rfl (nofree (by decide +kernel)) (fun _ => rfl)) pa_nil)))) pa_nil)))
      (pss_cons (ps_expr (pe_bm PySem.F.plainAttrs_list PySem.F.slot_list_append PySem.F.type_list_append mt_append (pv 1) (pa_cons (pe_tup (pa_cons (pe_lam TB__law_kind rfl rfl rfl (nofree (by decide +kernel)) (fun _ => rfl)) (pa_cons pe_int (pa_cons pe_non pa_nil)))) pa_nil)))
      (pss_cons (ps_expr (pe_bm PySem.F.plainAttrs_list PySem.F.slot_list_append PySem.F.type_list_append mt_append (pv 1) (pa_cons (pe_tup (pa_cons (pe_glob (by rfl) G._law_apart rfl) (pa_cons pe_non (pa_cons pe_non pa_nil)))) pa_nil)))
      (pss_cons (ps_expr (pe_bm PySem.F.plainAttrs_list PySem.F.slot_list_append PySem.F.type_list_append mt_append (pv 1) (pa_cons (pe_tup (pa_cons (pe_lam TB__law_kind rfl rfl rfl (nofree (by decide +kernel)) (fun _ => rfl)) (pa_cons pe_int (pa_cons pe_non pa_nil)))) pa_nil)))
      (pss_cons (ps_expr (pe_bm PySem.F.plainAttrs_list PySem.F.slot_list_append PySem.F.type_list_append mt_append (pv 1) (pa_cons (pe_tup (pa_cons (pe_lam TB__law_kind rfl rfl rfl (nofree (by decide +kernel)) (fun _ => rfl)) (pa_cons pe_int (pa_cons (pe_lam TB__law_kind rfl rfl rfl (nofree (by decide +kernel)) (fun _ => rfl)) pa_nil)))) pa_nil)))
      (pss_cons (ps_expr (pe_bm PySem.F.plainAttrs_list PySem.F.slot_list_append PySem.F.type_list_append mt_append (pv 1) (pa_cons (pe_tup (pa_cons (pe_lam TB__law_kind rfl rfl rfl (nofree (by decide +kernel)) (fun _ => rfl)) (pa_cons pe_int (pa_cons pe_non pa_nil)))) pa_nil)))
      (pss_cons (ps_expr (pe_bm PySem.F.plainAttrs_list PySem.F.slot_list_append PySem.F.type_list_append mt_append (pv 1) (pa_cons (pe_tup (pa_cons (pe_lam TB__law_kind rfl rfl rfl (nofree (by decide +kernel)) (fun _ => rfl)) (pa_cons pe_int (pa_cons pe_non pa_nil)))) pa_nil)))
      (pss_cons (ps_expr (pe_bm PySem.F.plainAttrs_list PySem.F.slot_list_append PySem.F.type_list_append mt_append (pv 1) (pa_cons (pe_tup (pa_cons (pe_lam TB__law_kind rfl rfl rfl (nofree (by decide +kernel)) (fun _ => rfl)) (pa_cons pe_int (pa_cons pe_non pa_nil)))) pa_nil)))
      (pss_cons (ps_expr (pe_bm PySem.F.plainAttrs_list PySem.F.slot_list_append PySem.F.type_list_append mt_append (pv 1) (pa_cons (pe_tup (pa_cons (pe_lam TB__law_kind rfl rfl rfl (nofree (by decide +kernel)) (fun _ => rfl)) (pa_cons pe_str (pa_cons (pe_lam TB__law_kind rfl rfl rfl (nofree (by decide +kernel)) (fun _ => rfl)) pa_nil)))) pa_nil)))
      (pss_cons (ps_expr (pe_bm PySem.F.plainAttrs_list PySem.F.slot_list_append PySem.F.type_list_append mt_append (pv 1) (pa_cons (pe_tup (pa_cons (pe_lam TB__law_kind rfl rfl rfl (nofree (by decide +kernel)) (fun _ => rfl)) (pa_cons pe_non (pa_cons pe_non pa_nil)))) pa_nil)))
      (pss_cons (ps_expr (pe_bm PySem.F.plainAttrs_list PySem.F.slot_list_append PySem.F.type_list_append mt_append (pv 1) (pa_cons (pe_tup (pa_cons (pe_lam TB__law_kind rfl rfl rfl (nofree (by decide +kernel)) (fun _ => rfl)) (pa_cons pe_non (pa_cons (pe_lam TB__law_kind rfl rfl rfl (nofree (by decide +kernel)) (fun _ => rfl)) pa_nil)))) pa_nil)))
      (pss_cons (ps_expr (pe_bm PySem.F.plainAttrs_list PySem.F.slot_list_append PySem.F.type_list_append mt_append (pv 1) (pa_cons (pe_tup (pa_cons (pe_glob (by rfl) G._law_left_none rfl) (pa_cons pe_non (pa_cons pe_non pa_nil)))) pa_nil)))
      (pss_cons (ps_expr (pe_bm PySem.F.plainAttrs_list PySem.F.slot_list_append PySem.F.type_list_append mt_append (pv 1) (pa_cons (pe_tup (pa_cons (pe_lam TB__law_kind rfl rfl rfl (nofree (by decide +kernel)) (fun _ => rfl)) (pa_cons pe_int (pa_cons (pe_lam TB__law_kind rfl rfl rfl (nofree (by decide +kernel)) (fun _ => rfl)) pa_nil)))) pa_nil)))
      (pss_one (ps_ret (pe_ix ix_list (pv 1) (pv 0) (fun _ _ => rfl)))))))))))))))))))))))))
theorem ok__law_row (F : FnP K "_law_row" s__law_row [] f fd) (G : Gm w K mg) (c__law_draw : Cal P w K mg base 1 "_law_draw" sp__law_draw []) : FnOk P w K mg base CX0 2 f fd ["bag", "most"] sp__law_row :=
  FnP.go (k := 1) F sc__law_row (fun vs H Q E => by first | (unfold sp__law_row; walk_at "len") | walk_at "len" | (unfold sp__law_row KdTold; exact fun ⟨e, _⟩ => by rw [e]; rfl)) (t__law_row K) (fun vs H Q E h => pure__law_row (K := K) vs H Q E h) fun cdv A outer s H E hr =>
    (pss_cons (ps_set (i := 2) sc__law_row.nd rfl (by first | exact Or.inl rfl | exact Or.inr rfl) (pe_ix ix_list (pe_lst (pa_cons pe_int (pa_cons pe_int (pa_cons (pe_op p_pow pe_int pe_int) pa_nil)))) (pe_c c__law_draw hr (by omega) (by rfl) (pa_cons (pv 0) (pa_cons pe_int pa_nil))) (fun _ _ => rfl)))
      (pss_one (ps_ret (pe_lc (own := [("k", 3)]) (g := gName 3) (tt := tYes) (by rfl) sc__law_row.nd (pi_range1 (by rfl) G.range (pa_cons (pe_c c__law_draw hr (by omega) (by rfl) (pa_cons (pv 0) (pa_cons (pe_op p_add (pv 1) pe_int) pa_nil))) pa_nil)) (blkOk_by (own := [("k", 3)]) (N := ["bag", "most", "few", "k"]) (sc := defScope s__law_row) (by decide +kernel)) (fun _ _ _ _ _ => (pg_name (i := 3) sc__law_row.nd rfl (by first | exact Or.inl rfl | exact Or.inr rfl))) (fun _ _ _ _ _ => pts_nil) (fun _ _ _ _ _ => (pe_op p_mul (pe_c c__law_draw hr (by omega) (by rfl) (pa_cons (pv 0) (pa_cons (pv 2) pa_nil))) (pe_ix ix_list (pe_lst (pa_cons pe_int (pa_cons pe_int (pa_cons (pe_un un_neg pe_int) pa_nil)))) (pe_c c__law_draw hr (by omega) (by rfl) (pa_cons (pv 0) (pa_cons pe_int pa_nil))) (fun _ _ => rfl))))))))
theorem sc_Kind___init__ : FnScope ["self", "join", "none", "make", "word"] ["self", "join", "none", "make", "word"] (defScope s_Kind___init__) := ⟨rfl, rfl, rfl, by decide +kernel, rfl, by decide +kernel, by decide +kernel⟩
theorem ok_Kind___init__ (F : MtD K "__init__" "Kind.__init__" s_Kind___init__ [.non, .str "kind"] f fd) (G : Gm w K mg) (CK : C_Kind K)  : FnOk P w K mg base CX0 1 f fd ["self", "join", "none", "make", "word"] (sp_Kind___init__ K) :=
  MtD.go (k := 0) F sc_Kind___init__ (fun vs H Q E => by first | (unfold sp_Kind___init__; walk_at "len") | walk_at "len" | (unfold sp_Kind___init__ KdTold; exact fun ⟨e, _⟩ => by rw [e]; rfl)) (t_Kind___init__ K) (fun vs H Q E h => pure_Kind___init__ (K := K) CK vs H Q E h) fun cdv A outer s H E hr =>
    (pss_cons (ps_fld (pv 0) (pv 1) rfl)
      (pss_cons (ps_fld (pv 0) (pv 2) rfl)
      (pss_cons (ps_fld (pv 0) (pv 3) rfl)
      (pss_one (ps_fld (pv 0) (pv 4) rfl)))))
theorem sc_Kind_worth_of : FnScope ["self", "number", "make"] ["self", "number"] (defScope s_Kind_worth_of) := ⟨rfl, rfl, rfl, by decide +kernel, rfl, by decide +kernel, by decide +kernel⟩
theorem ok_Kind_worth_of (F : MtP K "worth_of" "Kind.worth_of" s_Kind_worth_of f fd) (G : Gm w K mg) (CK : C_Kind K) (CV : LmX.CvOk P w K mg base 3 (CVw K LL))  : FnOk P w K mg base CX0 4 f fd ["self", "number"] (sp_Kind_worth_of K LL) :=
  MtP.go (k := 3) F sc_Kind_worth_of (fun vs H Q E => by first | (unfold sp_Kind_worth_of; walk_at "len") | walk_at "len" | (unfold sp_Kind_worth_of KdTold; exact fun ⟨e, _⟩ => by rw [e]; rfl)) (t_Kind_worth_of K LL) (fun vs H Q E h => pure_Kind_worth_of (K := K) (L := LL) CK vs H Q E h) fun cdv A outer s H E hr =>
    (pss_cons (ps_set (i := 2) sc_Kind_worth_of.nd rfl (by first | exact Or.inl rfl | exact Or.inr rfl) (pe_fld (pv 0) rfl))
      (pss_cons (ps_if (pt_cmpR p_isN (pv 2) pe_non (nomark _)) (pss_one (ps_ret (pv 1))) pss_nil)
      (pss_one (ps_ret (pe_callv CV hr (by decide) rfl (by first | exact Or.inl rfl | exact Or.inr (Or.inl rfl) | exact Or.inr (Or.inr rfl)) (pa_cons (pv 1) pa_nil))))))
theorem sc_Kind_joined : FnScope ["self", "one", "other", "join"] ["self", "one", "other"] (defScope s_Kind_joined) := ⟨rfl, rfl, rfl, by decide +kernel, rfl, by decide +kernel, by decide +kernel⟩
theorem ok_Kind_joined (F : MtP K "joined" "Kind.joined" s_Kind_joined f fd) (G : Gm w K mg) (CK : C_Kind K) (CV : LmX.CvOk P w K mg base 3 (CVw K LL))  : FnOk P w K mg base CX0 4 f fd ["self", "one", "other"] (sp_Kind_joined K LL) :=
  MtP.go (k := 3) F sc_Kind_joined (fun vs H Q E => by first | (unfold sp_Kind_joined; walk_at "len") | walk_at "len" | (unfold sp_Kind_joined KdTold; exact fun ⟨e, _⟩ => by rw [e]; rfl)) (t_Kind_joined K LL) (fun vs H Q E h => pure_Kind_joined (K := K) (L := LL) CK vs H Q E h) fun cdv A outer s H E hr =>
    (pss_cons (ps_set (i := 3) sc_Kind_joined.nd rfl (by first | exact Or.inl rfl | exact Or.inr rfl) (pe_fld (pv 0) rfl))
      (pss_one (ps_ret (pe_callv CV hr (by decide) rfl (by first | exact Or.inl rfl | exact Or.inr (Or.inl rfl) | exact Or.inr (Or.inr rfl)) (pa_cons (pv 1) (pa_cons (pv 2) pa_nil))))))
theorem sc_Kind_fold : FnScope ["self", "numbers", "found", "number"] ["self", "numbers"] (defScope s_Kind_fold) := ⟨rfl, rfl, rfl, by decide +kernel, rfl, by decide +kernel, by decide +kernel⟩
theorem ok_Kind_fold (F : MtP K "fold" "Kind.fold" s_Kind_fold f fd) (G : Gm w K mg) (CK : C_Kind K) (m_Kind_worth_of : MtI P w K mg base 4 (He.ga K "Kind") "worth_of" (sp_Kind_worth_of K LL)) (m_Kind_joined : MtI P w K mg base 4 (He.ga K "Kind") "joined" (sp_Kind_joined K LL)) : FnOk P w K mg base CX0 5 f fd ["self", "numbers"] (sp_Kind_fold K LL) :=
  MtP.go (k := 4) F sc_Kind_fold (fun vs H Q E => by first | (unfold sp_Kind_fold; walk_at "len") | walk_at "len" | (unfold sp_Kind_fold KdTold; exact fun ⟨e, _⟩ => by rw [e]; rfl)) (t_Kind_fold K LL) (fun vs H Q E h => pure_Kind_fold (K := K) (L := LL) CK vs H Q E h) fun cdv A outer s H E hr =>
    (pss_cons (ps_set (i := 2) sc_Kind_fold.nd rfl (by first | exact Or.inl rfl | exact Or.inr rfl) (pe_fld (pv 0) rfl))
      (pss_cons (ps_for PassesOwn.never rfl (pi_list (pv 1)) (pg_name (i := 3) sc_Kind_fold.nd rfl (by first | exact Or.inl rfl | exact Or.inr rfl)) (pss_one (ps_set (i := 2) sc_Kind_fold.nd rfl (by first | exact Or.inl rfl | exact Or.inr rfl) (pe_mt m_Kind_joined hr (by decide) (pv 0) (pa_cons (pv 2) (pa_cons (pe_mt m_Kind_worth_of hr (by decide) (pv 0) (pa_cons (pv 3) pa_nil)) pa_nil))))))
      (pss_one (ps_ret (pv 2)))))
theorem ok_none_errs (F : FnP K "none_errs" s_none_errs [] f fd) (G : Gm w K mg) (CK : C_Kind K) (m_Kind_joined : MtI P w K mg base 4 (He.ga K "Kind") "joined" (sp_Kind_joined K LL)) : FnOk P w K mg base CX0 5 f fd ["kind", "worth"] (sp_none_errs K LL) :=
  FnP.go (k := 4) F sc_none_errs (fun vs H Q E => by first | (unfold sp_none_errs; walk_at "len") | walk_at "len" | (unfold sp_none_errs KdTold; exact fun ⟨e, _⟩ => by rw [e]; rfl)) (t_none_errs K LL) (fun vs H Q E h => pure_none_errs (K := K) (L := LL) CK vs H Q E h) fun cdv A outer s H E hr =>
    (pss_one (ps_ret (pe_or (pe_not (pe_cmpR (p_eqD hr.units) (pe_mt m_Kind_joined hr (by decide) (pv 0) (pa_cons (pe_fld (pv 0) rfl) (pa_cons (pv 1) pa_nil))) (pv 1) (nomark _))) (pe_one (pe_not (pe_cmpR (p_eqD hr.units) (pe_mt m_Kind_joined hr (by decide) (pv 0) (pa_cons (pv 1) (pa_cons (pe_fld (pv 0) rfl) pa_nil))) (pv 1) (nomark _)))))))
theorem ok_stretches (F : FnP K "stretches" s_stretches [] f fd) (G : Gm w K mg) (CK : C_Kind K) (m_Kind_worth_of : MtI P w K mg base 4 (He.ga K "Kind") "worth_of" (sp_Kind_worth_of K LL)) (m_Kind_joined : MtI P w K mg base 4 (He.ga K "Kind") "joined" (sp_Kind_joined K LL)) : FnOk P w K mg base CX0 5 f fd ["kind", "numbers"] (sp_stretches K LL) :=
  FnP.go (k := 4) F sc_stretches (fun vs H Q E => by first | (unfold sp_stretches; walk_at "len") | walk_at "len" | (unfold sp_stretches KdTold; exact fun ⟨e, _⟩ => by rw [e]; rfl)) (t_stretches K LL) (fun vs H Q E h => pure_stretches (K := K) (L := LL) CK vs H Q E h) fun cdv A outer s H E hr =>
    (pss_cons (ps_set (i := 2) sc_stretches.nd rfl (by first | exact Or.inl rfl | exact Or.inr rfl) pe_dnewT)
      (pss_cons (ps_for PassesOwn.never rfl (pi_range1 (by rfl) G.range (pa_cons (pe_callB p_lenQ (by rfl) G.len (by decide +kernel) (pa_cons (pv 1) pa_nil)) pa_nil)) (pg_name (i := 3) sc_stretches.nd rfl (by first | exact Or.inl rfl | exact Or.inr rfl)) (pss_cons (ps_set (i := 4) sc_stretches.nd rfl (by first | exact Or.inl rfl | exact Or.inr rfl) (pe_mt m_Kind_worth_of hr (by decide) (pv 0) (pa_cons (pe_ix ix_list (pv 1) (pv 3) (fun _ _ => rfl)) pa_nil)))
      (pss_cons (ps_dput (hu_of hr) (pv 2) (pe_tup (pa_cons (pv 3) (pa_cons (pe_op p_add (pv 3) pe_int) pa_nil))) (pv 4) rfl)
      (pss_one (ps_for PassesOwn.never rfl (pi_range2 (by rfl) G.range (pa_cons (pe_op p_add (pv 3) pe_int) (pa_cons (pe_callB p_lenQ (by rfl) G.len (by decide +kernel) (pa_cons (pv 1) pa_nil)) pa_nil))) (pg_name (i := 5) sc_stretches.nd rfl (by first | exact Or.inl rfl | exact Or.inr rfl)) (pss_cons (ps_set (i := 4) sc_stretches.nd rfl (by first | exact Or.inl rfl | exact Or.inr rfl) (pe_mt m_Kind_joined hr (by decide) (pv 0) (pa_cons (pv 4) (pa_cons (pe_mt m_Kind_worth_of hr (by decide) (pv 0) (pa_cons (pe_ix ix_list (pv 1) (pv 5) (fun _ _ => rfl)) pa_nil)) pa_nil))))
      (pss_one (ps_dput (hu_of hr) (pv 2) (pe_tup (pa_cons (pv 3) (pa_cons (pe_op p_add (pv 5) pe_int) pa_nil))) (pv 4) rfl))))))))
      (pss_one (ps_ret (pv 2)))))
theorem ok_groups (F : FnP K "groups" s_groups [] f fd) (G : Gm w K mg) (CK : C_Kind K) (c_none_errs : Cal P w K mg base 5 "none_errs" (sp_none_errs K LL) []) (c_stretches : Cal P w K mg base 5 "stretches" (sp_stretches K LL) []) (m_Kind_joined : MtI P w K mg base 4 (He.ga K "Kind") "joined" (sp_Kind_joined K LL)) : FnOk P w K mg base CX0 6 f fd ["kind", "numbers"] (sp_groups K LL) :=
  FnP.go (k := 5) F sc_groups (fun vs H Q E => by first | (unfold sp_groups; walk_at "len") | walk_at "len" | (unfold sp_groups KdTold; exact fun ⟨e, _⟩ => by rw [e]; rfl)) (t_groups K LL) (fun vs H Q E h => pure_groups (K := K) (L := LL) CK vs H Q E h) fun cdv A outer s H E hr =>
    (pss_cons (ps_if (pt_val (pe_c c_none_errs hr (by omega) (by rfl) (pa_cons (pv 0) (pa_cons (pe_fld (pv 0) rfl) pa_nil)))) (pss_one (ps_ret (pe_tup pa_nil))) pss_nil)
      (pss_cons (ps_set (i := 2) sc_groups.nd rfl (by first | exact Or.inl rfl | exact Or.inr rfl) (pe_callB p_lenQ (by rfl) G.len (by decide +kernel) (pa_cons (pv 1) pa_nil)))
      (pss_cons (ps_set (i := 3) sc_groups.nd rfl (by first | exact Or.inl rfl | exact Or.inr rfl) (pe_c c_stretches hr (by omega) (by rfl) (pa_cons (pv 0) (pa_cons (pv 1) pa_nil))))
      (pss_cons (ps_for PassesOwn.never rfl (pi_range1 (by rfl) G.range (pa_cons (pv 2) pa_nil)) (pg_name (i := 4) sc_groups.nd rfl (by first | exact Or.inl rfl | exact Or.inr rfl)) (pss_one (ps_for PassesOwn.never rfl (pi_range2 (by rfl) G.range (pa_cons (pe_op p_add (pv 4) pe_int) (pa_cons (pe_op p_add (pv 2) pe_int) pa_nil))) (pg_name (i := 5) sc_groups.nd rfl (by first | exact Or.inl rfl | exact Or.inr rfl)) (pss_one (ps_if (pt_val (pe_c c_none_errs hr (by omega) (by rfl) (pa_cons (pv 0) (pa_cons (pe_dget (hu_of hr) (pv 3) (pe_tup (pa_cons (pv 4) (pa_cons (pv 5) pa_nil))) (fun _ _ => rfl)) pa_nil)))) (pss_one (ps_ret (pe_tup (pa_cons (pv 4) (pa_cons (pv 5) pa_nil))))) pss_nil)))))
      (pss_cons (ps_for PassesOwn.never rfl (pi_range1 (by rfl) G.range (pa_cons (pv 2) pa_nil)) (pg_name (i := 4) sc_groups.nd rfl (by first | exact Or.inl rfl | exact Or.inr rfl)) (pss_one (ps_for PassesOwn.never rfl (pi_range2 (by rfl) G.range (pa_cons (pe_op p_add (pv 4) pe_int) (pa_cons (pv 2) pa_nil))) (pg_name (i := 6) sc_groups.nd rfl (by first | exact Or.inl rfl | exact Or.inr rfl)) (pss_one (ps_for PassesOwn.never rfl (pi_range2 (by rfl) G.range (pa_cons (pe_op p_add (pv 6) pe_int) (pa_cons (pe_op p_add (pv 2) pe_int) pa_nil))) (pg_name (i := 5) sc_groups.nd rfl (by first | exact Or.inl rfl | exact Or.inr rfl)) (pss_one (ps_if (pt_not (pt_cmpR (p_eqD hr.units) (pe_mt m_Kind_joined hr (by decide) (pv 0) (pa_cons (pe_dget (hu_of hr) (pv 3) (pe_tup (pa_cons (pv 4) (pa_cons (pv 6) pa_nil))) (fun _ _ => rfl)) (pa_cons (pe_dget (hu_of hr) (pv 3) (pe_tup (pa_cons (pv 6) (pa_cons (pv 5) pa_nil))) (fun _ _ => rfl)) pa_nil))) (pe_dget (hu_of hr) (pv 3) (pe_tup (pa_cons (pv 4) (pa_cons (pv 5) pa_nil))) (fun _ _ => rfl)) (nomark _))) (pss_one (ps_ret (pe_tup (pa_cons (pv 4) (pa_cons (pv 6) (pa_cons (pv 5) pa_nil)))))) pss_nil)))))))
      (pss_one (ps_ret pe_non)))))))
theorem ok__law_made (F : FnP K "_law_made" s__law_made [] f fd) (G : Gm w K mg) (CV : LmX.CvOk P w K mg base 3 (CVw K LL))  : FnOk P w K mg base CX0 4 f fd ["made_by", "number"] (sp__law_made K LL) :=
  FnP.go (k := 3) F sc__law_made (fun vs H Q E => by first | (unfold sp__law_made; walk_at "len") | walk_at "len" | (unfold sp__law_made KdTold; exact fun ⟨e, _⟩ => by rw [e]; rfl)) (t__law_made K LL) (fun vs H Q E h => pure__law_made (K := K) (L := LL) vs H Q E h) fun cdv A outer s H E hr =>
    (pss_one (ps_ret (pe_ifExp (pt_cmpR p_isN (pv 0) pe_non (nomark _)) (pv 1) (pe_callv CV hr (by decide) rfl (by first | exact Or.inl rfl | exact Or.inr (Or.inl rfl) | exact Or.inr (Or.inr rfl)) (pa_cons (pv 1) pa_nil)))))
theorem ok__law_stretch (F : FnP K "_law_stretch" s__law_stretch [] f fd) (G : Gm w K mg) (CV : LmX.CvOk P w K mg base 3 (CVw K LL)) (c__law_made : Cal P w K mg base 4 "_law_made" (sp__law_made K LL) []) : FnOk P w K mg base CX0 5 f fd ["kind_of", "row"] (sp__law_stretch K LL) :=
  FnP.go (k := 4) F sc__law_stretch (fun vs H Q E => by first | (unfold sp__law_stretch; walk_at "len") | walk_at "len" | (unfold sp__law_stretch KdTold; exact fun ⟨e, _⟩ => by rw [e]; rfl)) (t__law_stretch K LL) (fun vs H Q E h => pure__law_stretch (K := K) (L := LL) vs H Q E h) fun cdv A outer s H E hr =>
    (pss_cons (ps_asg (pv 0) (pg_tup rfl (pgs_cons (pg_name (i := 2) sc__law_stretch.nd rfl (by first | exact Or.inl rfl | exact Or.inr rfl)) (pgs_cons (pg_name (i := 3) sc__law_stretch.nd rfl (by first | exact Or.inl rfl | exact Or.inr rfl)) (pgs_cons (pg_name (i := 4) sc__law_stretch.nd rfl (by first | exact Or.inl rfl | exact Or.inr rfl)) pgs_nil)))))
      (pss_cons (ps_set (i := 5) sc__law_stretch.nd rfl (by first | exact Or.inl rfl | exact Or.inr rfl) (pe_c c__law_made hr (by omega) (by rfl) (pa_cons (pv 4) (pa_cons (pe_ix ix_list (pv 1) pe_int (fun _ _ => rfl)) pa_nil))))
      (pss_cons (ps_for PassesOwn.never rfl (pi_list (pe_slice sl_list (pv 1) (po_some pe_int) po_none)) (pg_name (i := 6) sc__law_stretch.nd rfl (by first | exact Or.inl rfl | exact Or.inr rfl)) (pss_one (ps_set (i := 5) sc__law_stretch.nd rfl (by first | exact Or.inl rfl | exact Or.inr rfl) (pe_callv CV hr (by decide) rfl (by first | exact Or.inl rfl | exact Or.inr (Or.inl rfl) | exact Or.inr (Or.inr rfl)) (pa_cons (pv 5) (pa_cons (pe_c c__law_made hr (by omega) (by rfl) (pa_cons (pv 4) (pa_cons (pv 6) pa_nil))) pa_nil))))))
      (pss_one (ps_ret (pv 5))))))
theorem ok__law_err (F : FnP K "_law_err" s__law_err [] f fd) (G : Gm w K mg) (CV : LmX.CvOk P w K mg base 3 (CVw K LL))  : FnOk P w K mg base CX0 4 f fd ["joiner", "first", "one"] (sp__law_err K LL) :=
  FnP.go (k := 3) F sc__law_err (fun vs H Q E => by first | (unfold sp__law_err; walk_at "len") | walk_at "len" | (unfold sp__law_err KdTold; exact fun ⟨e, _⟩ => by rw [e]; rfl)) (t__law_err K LL) (fun vs H Q E h => pure__law_err (K := K) (L := LL) vs H Q E h) fun cdv A outer s H E hr =>
    (pss_one (ps_ret (pe_or (pe_not (pe_cmpR (p_eqD hr.units) (pe_callv CV hr (by decide) rfl (by first | exact Or.inl rfl | exact Or.inr (Or.inl rfl) | exact Or.inr (Or.inr rfl)) (pa_cons (pv 1) (pa_cons (pv 2) pa_nil))) (pv 2) (nomark _))) (pe_one (pe_not (pe_cmpR (p_eqD hr.units) (pe_callv CV hr (by decide) rfl (by first | exact Or.inl rfl | exact Or.inr (Or.inl rfl) | exact Or.inr (Or.inr rfl)) (pa_cons (pv 2) (pa_cons (pv 1) pa_nil))) (pv 2) (nomark _)))))))
theorem ok__law_first_err (F : FnP K "_law_first_err" s__law_first_err [] f fd) (G : Gm w K mg) (CV : LmX.CvOk P w K mg base 3 (CVw K LL)) (c__law_err : Cal P w K mg base 4 "_law_err" (sp__law_err K LL) []) (c__law_stretch : Cal P w K mg base 5 "_law_stretch" (sp__law_stretch K LL) []) : FnOk P w K mg base CX0 6 f fd ["kind_of", "row"] (sp__law_first_err K LL) :=
  FnP.go (k := 5) F sc__law_first_err (fun vs H Q E => by first | (unfold sp__law_first_err; walk_at "len") | walk_at "len" | (unfold sp__law_first_err KdTold; exact fun ⟨e, _⟩ => by rw [e]; rfl)) (t__law_first_err K LL) (fun vs H Q E h => pure__law_first_err (K := K) (L := LL) vs H Q E h) fun cdv A outer s H E hr =>
    (pss_cons (ps_asg (pv 0) (pg_tup rfl (pgs_cons (pg_name (i := 2) sc__law_first_err.nd rfl (by first | exact Or.inl rfl | exact Or.inr rfl)) (pgs_cons (pg_name (i := 3) sc__law_first_err.nd rfl (by first | exact Or.inl rfl | exact Or.inr rfl)) (pgs_cons (pg_name (i := 4) sc__law_first_err.nd rfl (by first | exact Or.inl rfl | exact Or.inr rfl)) pgs_nil)))))
      (pss_cons (ps_if (pt_val (pe_c c__law_err hr (by omega) (by rfl) (pa_cons (pv 2) (pa_cons (pv 3) (pa_cons (pv 3) pa_nil))))) (pss_one (ps_ret (pe_tup pa_nil))) pss_nil)
      (pss_cons (ps_set (i := 5) sc__law_first_err.nd rfl (by first | exact Or.inl rfl | exact Or.inr rfl) (pe_lst pa_nil))
      (pss_cons (ps_for PassesOwn.never rfl (pi_range1 (by rfl) G.range (pa_cons (pe_callB p_lenQ (by rfl) G.len (by decide +kernel) (pa_cons (pv 1) pa_nil)) pa_nil)) (pg_name (i := 6) sc__law_first_err.nd rfl (by first | exact Or.inl rfl | exact Or.inr rfl)) (pss_one (ps_expr (pe_bm PySem.F.plainAttrs_list PySem.F.slot_list_extend PySem.F.type_list_extend mt_extend (pv 5) (pa_cons (pe_lc (own := [("l", 10)]) (g := gName 10) (tt := tYes) (by rfl) sc__law_first_err.nd (pi_range2 (by rfl) G.range (pa_cons (pe_op p_add (pv 6) pe_int) (pa_cons (pe_op p_add (pe_callB p_lenQ (by rfl) G.len (by decide +kernel) (pa_cons (pv 1) pa_nil)) pe_int) pa_nil))) (blkOk_by (own := [("l", 10)]) (N := ["kind_of", "row", "joiner", "first", "made_by", "pairs", "i", "folds", "pair", "j", "l", "one"]) (sc := defScope s__law_first_err) (by decide +kernel)) (fun _ _ _ _ _ => (pg_name (i := 10) sc__law_first_err.nd rfl (by first | exact Or.inl rfl | exact Or.inr rfl))) (fun _ _ _ _ _ => pts_nil) (fun _ _ _ _ _ => (pe_tup (pa_cons (pv 6) (pa_cons (pv 10) pa_nil))))) pa_nil)))))
      (pss_cons (ps_set (i := 7) sc__law_first_err.nd rfl (by first | exact Or.inl rfl | exact Or.inr rfl) pe_dnewT)
      (pss_cons (ps_for PassesOwn.never rfl (pi_list (pv 5)) (pg_name (i := 8) sc__law_first_err.nd rfl (by first | exact Or.inl rfl | exact Or.inr rfl)) (pss_one (ps_dput (hu_of hr) (pv 7) (pv 8) (pe_c c__law_stretch hr (by omega) (by rfl) (pa_cons (pv 0) (pa_cons (pe_slice sl_list (pv 1) (po_some (pe_ix ix_tup (pv 8) pe_int (fun _ _ => rfl))) (po_some (pe_ix ix_tup (pv 8) pe_int (fun _ _ => rfl)))) pa_nil))) rfl)))
      (pss_cons (ps_for PassesOwn.never rfl (pi_list (pv 5)) (pg_name (i := 8) sc__law_first_err.nd rfl (by first | exact Or.inl rfl | exact Or.inr rfl)) (pss_one (ps_if (pt_val (pe_c c__law_err hr (by omega) (by rfl) (pa_cons (pv 2) (pa_cons (pv 3) (pa_cons (pe_dget (hu_of hr) (pv 7) (pv 8) (fun _ _ => rfl)) pa_nil))))) (pss_one (ps_ret (pv 8))) pss_nil)))
      (pss_cons (ps_for PassesOwn.never rfl (pi_range1 (by rfl) G.range (pa_cons (pe_callB p_lenQ (by rfl) G.len (by decide +kernel) (pa_cons (pv 1) pa_nil)) pa_nil)) (pg_name (i := 6) sc__law_first_err.nd rfl (by first | exact Or.inl rfl | exact Or.inr rfl)) (pss_one (ps_for PassesOwn.never rfl (pi_range2 (by rfl) G.range (pa_cons (pe_op p_add (pv 6) pe_int) (pa_cons (pe_callB p_lenQ (by rfl) G.len (by decide +kernel) (pa_cons (pv 1) pa_nil)) pa_nil))) (pg_name (i := 9) sc__law_first_err.nd rfl (by first | exact Or.inl rfl | exact Or.inr rfl)) (pss_one (ps_for PassesOwn.never rfl (pi_range2 (by rfl) G.range (pa_cons (pe_op p_add (pv 9) pe_int) (pa_cons (pe_op p_add (pe_callB p_lenQ (by rfl) G.len (by decide +kernel) (pa_cons (pv 1) pa_nil)) pe_int) pa_nil))) (pg_name (i := 10) sc__law_first_err.nd rfl (by first | exact Or.inl rfl | exact Or.inr rfl)) (pss_cons (ps_set (i := 11) sc__law_first_err.nd rfl (by first | exact Or.inl rfl | exact Or.inr rfl) (pe_callv CV hr (by decide) rfl (by first | exact Or.inl rfl | exact Or.inr (Or.inl rfl) | exact Or.inr (Or.inr rfl)) (pa_cons (pe_dget (hu_of hr) (pv 7) (pe_tup (pa_cons (pv 6) (pa_cons (pv 9) pa_nil))) (fun _ _ => rfl)) (pa_cons (pe_dget (hu_of hr) (pv 7) (pe_tup (pa_cons (pv 9) (pa_cons (pv 10) pa_nil))) (fun _ _ => rfl)) pa_nil))))
      (pss_one (ps_if (pt_not (pt_cmpR (p_eqD hr.units) (pv 11) (pe_dget (hu_of hr) (pv 7) (pe_tup (pa_cons (pv 6) (pa_cons (pv 10) pa_nil))) (fun _ _ => rfl)) (nomark _))) (pss_one (ps_ret (pe_tup (pa_cons (pv 6) (pa_cons (pv 9) (pa_cons (pv 10) pa_nil)))))) pss_nil))))))))
      (pss_one (ps_ret pe_non))))))))))
theorem ok_law (F : FnP K "law" s_law [] (He.ga K "law") fd) (G : Gm w K mg) (CK : C_Kind K) (Q31 : ∀ c, (LL 31 c).qual = QB) (KLL : KP K ≠ PL K) (CV : LmX.CvOk P w K mg base 3 (CVw K LL)) (TB_law : LamX.TabB base mg (LmX.codP K "law") (LmX.tabP K "law")) (c__law_cell_at : Cal P w K mg base 1 "_law_cell_at" (sp__law_cell_at K) []) (c__law_bag : Cal P w K mg base 1 "_law_bag" sp__law_bag []) (c__law_draw : Cal P w K mg base 1 "_law_draw" sp__law_draw []) (c__law_kind : Cal P w K mg base 1 "_law_kind" (sp__law_kind K (noB LL)) []) (c__law_row : Cal P w K mg base 2 "_law_row" sp__law_row []) (i_Kind_d : MkI P w K mg base 1 "Kind" (He.ga K "Kind") (sp_Kind___init__ K) [.str "kind"]) (m_Kind_fold : MtI P w K mg base 5 (He.ga K "Kind") "fold" (sp_Kind_fold K LL)) (c_groups : Cal P w K mg base 6 "groups" (sp_groups K LL) []) (c__law_stretch : Cal P w K mg base 5 "_law_stretch" (sp__law_stretch K LL) []) (c__law_first_err : Cal P w K mg base 6 "_law_first_err" (sp__law_first_err K LL) []) : FnOk P w K mg base CX0 7 (He.ga K "law") fd ["script"] (sp_law K) :=
  goTn (k := 6) F sc_law (fun vs H Q E => by first | (unfold sp_law; walk_at "len") | walk_at "len" | (unfold sp_law KdTold; exact fun ⟨e, _⟩ => by rw [e]; rfl)) (t_law K LL) (fun n vs H Q E h => pure_law (K := K) CK Q31 KLL n vs H Q E h) fun A outer s H E hr =>
    (pss_cons (ps_set (i := 1) sc_law.nd rfl (by first | exact Or.inl rfl | exact Or.inr rfl) (pe_c c__law_bag hr (by decide) (by rfl) (pa_cons (pe_c c__law_cell_at hr (by decide) (by rfl) (pa_cons (pv 0) (pa_cons pe_int pa_nil))) (pa_cons pe_int pa_nil))))
      (pss_cons (ps_set (i := 2) sc_law.nd rfl (by first | exact Or.inl rfl | exact Or.inr rfl) (pe_c c__law_kind hr (by decide) (by rfl) (pa_cons (pe_c c__law_draw hr (by decide) (by rfl) (pa_cons (pv 1) (pa_cons pe_int pa_nil))) pa_nil)))
      (pss_cons (ps_asg (pv 2) (pg_tup rfl (pgs_cons (pg_name (i := 3) sc_law.nd rfl (by first | exact Or.inl rfl | exact Or.inr rfl)) (pgs_cons (pg_name (i := 4) sc_law.nd rfl (by first | exact Or.inl rfl | exact Or.inr rfl)) (pgs_cons (pg_name (i := 5) sc_law.nd rfl (by first | exact Or.inl rfl | exact Or.inr rfl)) pgs_nil)))))
      (pss_cons (ps_set (i := 6) sc_law.nd rfl (by first | exact Or.inl rfl | exact Or.inr rfl) (pe_c c__law_row hr (by decide) (by rfl) (pa_cons (pv 1) (pa_cons (pe_ix ix_list (pe_lst (pa_cons pe_int (pa_cons pe_int (pa_cons pe_int pa_nil)))) (pe_c c__law_draw hr (by decide) (by rfl) (pa_cons (pv 1) (pa_cons pe_int pa_nil))) (fun _ _ => rfl)) pa_nil))))
      (pss_cons (ps_set (i := 7) sc_law.nd rfl (by first | exact Or.inl rfl | exact Or.inr rfl) (pe_callTy p_listQ (by rfl) G.list (by decide +kernel) (pa_cons (pv 6) pa_nil)))
      (pss_cons (ps_set (i := 8) sc_law.nd rfl (by first | exact Or.inl rfl | exact Or.inr rfl) (pe_mkI i_Kind_d hr (by decide) (by rfl) (pa_cons (pv 3) (pa_cons (pv 4) (pa_cons (pv 5) pa_nil)))))
      (pss_cons (ps_set (i := 9) sc_law.nd rfl (by first | exact Or.inl rfl | exact Or.inr rfl) (pv 4))
      (pss_cons (ps_for PassesOwn.never rfl (pi_list (pv 6)) (pg_name (i := 10) sc_law.nd rfl (by first | exact Or.inl rfl | exact Or.inr rfl)) (pss_one (ps_set (i := 9) sc_law.nd rfl (by first | exact Or.inl rfl | exact Or.inr rfl) (pe_callv CV hr (by decide) rfl (by first | exact Or.inl rfl | exact Or.inr (Or.inl rfl) | exact Or.inr (Or.inr rfl)) (pa_cons (pv 9) (pa_cons (pe_mt m_Kind_fold hr (by decide) (pv 8) (pa_cons (pe_lst (pa_cons (pv 10) pa_nil)) pa_nil)) pa_nil))))))
      (pss_cons (ps_if (PW.pt (pw_or (pt_cmpR p_notN (pe_c c_groups hr (by decide) (by rfl) (pa_cons (pv 8) (pa_cons (pv 7) pa_nil))) pe_non (nomark _)) (pw_or (pt_cmpR (p_neD hr.units) (pv 9) (pe_mt m_Kind_fold hr (by decide) (pv 8) (pa_cons (pv 6) pa_nil)) (nomark _)) (pw_or1 (pt_cmpR (p_neD hr.units) (pv 7) (pv 6) (nomark _)))))) (pss_one (ps_ret pe_bl)) pss_nil)
      (pss_cons (ps_if (pt_cmpR p_lt (pe_callB p_lenQ (by rfl) G.len (by decide +kernel) (pa_cons (pv 6) pa_nil)) pe_int (nomark _)) (pss_one (ps_ret pe_bl)) pss_nil)
      (pss_cons (ps_set (i := 11) sc_law.nd rfl (by first | exact Or.inl rfl | exact Or.inr rfl) (pe_c c__law_draw hr (by decide) (by rfl) (pa_cons (pv 1) (pa_cons (pe_op p_sub (pe_callB p_lenQ (by rfl) G.len (by decide +kernel) (pa_cons (pv 6) pa_nil)) pe_int) pa_nil))))
      (pss_cons (ps_set (i := 12) sc_law.nd rfl (by first | exact Or.inl rfl | exact Or.inr rfl) (pe_op p_add (pe_op p_add (pv 11) pe_int) (pe_c c__law_draw hr (by decide) (by rfl) (pa_cons (pv 1) (pa_cons (pe_op p_sub (pe_op p_sub (pe_callB p_lenQ (by rfl) G.len (by decide +kernel) (pa_cons (pv 6) pa_nil)) (pv 11)) pe_int) pa_nil)))))
      (pss_cons (ps_set (i := 13) sc_law.nd rfl (by first | exact Or.inl rfl | exact Or.inr rfl) (pe_op p_add (pe_op p_add (pv 12) pe_int) (pe_c c__law_draw hr (by decide) (by rfl) (pa_cons (pv 1) (pa_cons (pe_op p_sub (pe_callB p_lenQ (by rfl) G.len (by decide +kernel) (pa_cons (pv 6) pa_nil)) (pv 12)) pa_nil)))))
      (pss_cons (ps_set (i := 14) sc_law.nd rfl (by first | exact Or.inl rfl | exact Or.inr rfl) (pe_c c__law_stretch hr (by decide) (by rfl) (pa_cons (pv 2) (pa_cons (pe_slice sl_list (pv 6) (po_some (pv 11)) (po_some (pv 12))) pa_nil))))
      (pss_cons (ps_set (i := 15) sc_law.nd rfl (by first | exact Or.inl rfl | exact Or.inr rfl) (pe_c c__law_stretch hr (by decide) (by rfl) (pa_cons (pv 2) (pa_cons (pe_slice sl_list (pv 6) (po_some (pv 12)) (po_some (pv 13))) pa_nil))))
      (pss_cons (ps_set (i := 16) sc_law.nd rfl (by first | exact Or.inl rfl | exact Or.inr rfl) (pe_tup (pa_cons (pe_lam TB_law rfl rfl rfl (NdefX.ndef_free (fr := frB) (by show NdefX.ndefB (defScope s_law) _ frB = true; decide +kernel)) (fun _ => rfl)) (pa_cons (pv 4) (pa_cons (pv 5) pa_nil)))))
      (pss_cons (ps_set (i := 17) sc_law.nd rfl (by first | exact Or.inl rfl | exact Or.inr rfl) (pe_cC c__law_first_err hr (by decide) (cellsB rfl rfl rfl rfl lkB1 lkB2 lkB3 lkB4 (hceB _) (fun _ => rfl)) (by rfl) (pa_cons (pv 16) (pa_cons (pv 6) pa_nil))))
      (pss_one (ps_ret (pe_and (pe_cmpR (p_eqD hr.units) (pe_cC c_groups hr (by decide) (cellsB rfl rfl rfl rfl lkB1 lkB2 lkB3 lkB4 (hceB _) (fun _ => rfl)) (by rfl) (pa_cons (pe_mkI i_Kind_d hr (by decide) (by rfl) (pa_cons (pe_ix ix_tup (pv 16) pe_int (fun _ _ => rfl)) (pa_cons (pe_ix ix_tup (pv 16) pe_int (fun _ _ => rfl)) (pa_cons (pe_ix ix_tup (pv 16) pe_int (fun _ _ => rfl)) pa_nil)))) (pa_cons (pv 7) pa_nil))) (pv 17) (nomark _)) (pe_one (pe_cmpR (p_eqD hr.units) (pv 7) (pv 6) (nomark _)))))))))))))))))))))))
end
theorem facts {P : Program} {w : World} {K : PySem.W.Frag} {h : Heap} {mg : Str → Option Value} {f : Addr} (X : K.In h) (G0 : h.Ns mainGlobals mg) (hfa : mg ("law" : Str) = some (.ref f)) (c0 : He.SaysX fa fn [] tf ex w h K) :
    ∃ fd : FuncData, (∀ (s : Shared) (v : Value), BindsTo s fd ⟨[v], []⟩ [("script", v)]) ∧ ∀ base : Heap, K.In base → base.Ns mainGlobals mg → LamX.TabB base mg (He.cT K ("_law_kind", none)).1 (He.cT K ("_law_kind", none)).2 → LamX.TabB base mg (He.cT K ("law", none)).1 (He.cT K ("law", none)).2 → FnOk P w K mg base CX0 7 f fd ["script"] (sp_law K) := by
  have c := c0.t.d
  have c0m : (!(tbK K "_law_kind" == tbK K "law")) = true := c0.more
  have ne : ∀ {a b : Addr}, (!(a == b)) = true → a ≠ b := fun {a b} z e => by rw [e] at z; simp at z
  have KLL : KP K ≠ PL K := ne c0m
  have Q31 : ∀ c, (LL 31 c).qual = QB := q31LL
  have LQQ : LQ LL := lqLL
  obtain ⟨fd_stretches, F_stretches⟩ : ∃ fd, FnP K "stretches" s_stretches [] (He.ga K "stretches") fd := c.def_ 0 (d := d_stretches) rfl
  obtain ⟨fd_none_errs, F_none_errs⟩ : ∃ fd, FnP K "none_errs" s_none_errs [] (He.ga K "none_errs") fd := c.def_ 1 (d := d_none_errs) rfl
  obtain ⟨fd_groups, F_groups⟩ : ∃ fd, FnP K "groups" s_groups [] (He.ga K "groups") fd := c.def_ 2 (d := d_groups) rfl
  obtain ⟨fd__law_cell_at, F__law_cell_at⟩ : ∃ fd, FnP K "_law_cell_at" s__law_cell_at [] (He.ga K "_law_cell_at") fd := c.def_ 3 (d := d__law_cell_at) rfl
  obtain ⟨fd__law_bag, F__law_bag⟩ : ∃ fd, FnP K "_law_bag" s__law_bag [] (He.ga K "_law_bag") fd := c.def_ 4 (d := d__law_bag) rfl
  obtain ⟨fd__law_draw, F__law_draw⟩ : ∃ fd, FnP K "_law_draw" s__law_draw [] (He.ga K "_law_draw") fd := c.def_ 5 (d := d__law_draw) rfl
  obtain ⟨fd__law_lesser, F__law_lesser⟩ : ∃ fd, FnP K "_law_lesser" s__law_lesser [] (He.ga K "_law_lesser") fd := c.def_ 6 (d := d__law_lesser) rfl
  obtain ⟨fd__law_apart, F__law_apart⟩ : ∃ fd, FnP K "_law_apart" s__law_apart [] (He.ga K "_law_apart") fd := c.def_ 7 (d := d__law_apart) rfl
  obtain ⟨fd__law_both, F__law_both⟩ : ∃ fd, FnP K "_law_both" s__law_both [] (He.ga K "_law_both") fd := c.def_ 8 (d := d__law_both) rfl
  obtain ⟨fd__law_left_none, F__law_left_none⟩ : ∃ fd, FnP K "_law_left_none" s__law_left_none [] (He.ga K "_law_left_none") fd := c.def_ 9 (d := d__law_left_none) rfl
  obtain ⟨fd__law_kind, F__law_kind⟩ : ∃ fd, FnP K "_law_kind" s__law_kind [] (He.ga K "_law_kind") fd := c.def_ 10 (d := d__law_kind) rfl
  obtain ⟨fd__law_made, F__law_made⟩ : ∃ fd, FnP K "_law_made" s__law_made [] (He.ga K "_law_made") fd := c.def_ 11 (d := d__law_made) rfl
  obtain ⟨fd__law_row, F__law_row⟩ : ∃ fd, FnP K "_law_row" s__law_row [] (He.ga K "_law_row") fd := c.def_ 12 (d := d__law_row) rfl
  obtain ⟨fd__law_err, F__law_err⟩ : ∃ fd, FnP K "_law_err" s__law_err [] (He.ga K "_law_err") fd := c.def_ 13 (d := d__law_err) rfl
  obtain ⟨fd__law_stretch, F__law_stretch⟩ : ∃ fd, FnP K "_law_stretch" s__law_stretch [] (He.ga K "_law_stretch") fd := c.def_ 14 (d := d__law_stretch) rfl
  obtain ⟨fd__law_first_err, F__law_first_err⟩ : ∃ fd, FnP K "_law_first_err" s__law_first_err [] (He.ga K "_law_first_err") fd := c.def_ 15 (d := d__law_first_err) rfl
  obtain ⟨fd_law, F_law⟩ : ∃ fd, FnP K "law" s_law [] (He.ga K "law") fd := c.def_ 16 (d := d_law) rfl
  obtain ⟨fd_Kind___init__, F_Kind___init__⟩ : ∃ fd, MtD K "__init__" "Kind.__init__" s_Kind___init__ [.non, .str "kind"] (He.ma K (He.ga K "Kind") "__init__") fd := c.def_ 17 (d := d_Kind___init__) rfl
  obtain ⟨fd_Kind_joined, F_Kind_joined⟩ : ∃ fd, MtP K "joined" "Kind.joined" s_Kind_joined (He.ma K (He.ga K "Kind") "joined") fd := c.def_ 18 (d := d_Kind_joined) rfl
  obtain ⟨fd_Kind_worth_of, F_Kind_worth_of⟩ : ∃ fd, MtP K "worth_of" "Kind.worth_of" s_Kind_worth_of (He.ma K (He.ga K "Kind") "worth_of") fd := c.def_ 19 (d := d_Kind_worth_of) rfl
  obtain ⟨fd_Kind_fold, F_Kind_fold⟩ : ∃ fd, MtP K "fold" "Kind.fold" s_Kind_fold (He.ma K (He.ga K "Kind") "fold") fd := c.def_ 20 (d := d_Kind_fold) rfl
  have CK : C_Kind K := ⟨He.cls_ok (c.fact 25 (f := .cls "Kind") rfl), He.noat_ok (c.fact 26 (f := .noat "Kind" "joining") rfl), He.noat_ok (c.fact 27 (f := .noat "Kind" "none") rfl), He.noat_ok (c.fact 28 (f := .noat "Kind" "making") rfl), He.noat_ok (c.fact 29 (f := .noat "Kind" "word") rfl)⟩
  have G : Gm w K mg := ⟨He.free_ok X G0 (c.fact 18 (f := .free "range") rfl), He.free_ok X G0 (c.fact 19 (f := .free "len") rfl), He.free_ok X G0 (c.fact 20 (f := .free "min") rfl), He.free_ok X G0 (c.fact 21 (f := .free "list") rfl), He.free_ok X G0 (c.fact 22 (f := .free "max") rfl), He.free_ok X G0 (c.fact 23 (f := .free "str") rfl), He.free_ok X G0 (c.fact 24 (f := .free "abs") rfl), He.glo_ok X G0 (c.fact 17 (f := .glo "Kind") rfl), He.glo_ok X G0 (c.fact 7 (f := .glo "_law_apart") rfl), He.glo_ok X G0 (c.fact 8 (f := .glo "_law_both") rfl), He.glo_ok X G0 (c.fact 9 (f := .glo "_law_left_none") rfl), He.glo_ok X G0 (c.fact 6 (f := .glo "_law_lesser") rfl)⟩
  have g_stretches := He.glo_ok X G0 (c.fact 0 (f := .glo "stretches") rfl)
  have g_none_errs := He.glo_ok X G0 (c.fact 1 (f := .glo "none_errs") rfl)
  have g_groups := He.glo_ok X G0 (c.fact 2 (f := .glo "groups") rfl)
  have g__law_cell_at := He.glo_ok X G0 (c.fact 3 (f := .glo "_law_cell_at") rfl)
  have g__law_bag := He.glo_ok X G0 (c.fact 4 (f := .glo "_law_bag") rfl)
  have g__law_draw := He.glo_ok X G0 (c.fact 5 (f := .glo "_law_draw") rfl)
  have g__law_lesser := He.glo_ok X G0 (c.fact 6 (f := .glo "_law_lesser") rfl)
  have g__law_apart := He.glo_ok X G0 (c.fact 7 (f := .glo "_law_apart") rfl)
  have g__law_both := He.glo_ok X G0 (c.fact 8 (f := .glo "_law_both") rfl)
  have g__law_left_none := He.glo_ok X G0 (c.fact 9 (f := .glo "_law_left_none") rfl)
  have g__law_kind := He.glo_ok X G0 (c.fact 10 (f := .glo "_law_kind") rfl)
  have g__law_made := He.glo_ok X G0 (c.fact 11 (f := .glo "_law_made") rfl)
  have g__law_row := He.glo_ok X G0 (c.fact 12 (f := .glo "_law_row") rfl)
  have g__law_err := He.glo_ok X G0 (c.fact 13 (f := .glo "_law_err") rfl)
  have g__law_stretch := He.glo_ok X G0 (c.fact 14 (f := .glo "_law_stretch") rfl)
  have g__law_first_err := He.glo_ok X G0 (c.fact 15 (f := .glo "_law_first_err") rfl)
  have g_law := He.glo_ok X G0 (c.fact 16 (f := .glo "law") rfl)
  have e := hfa.symm.trans g_law
  cases e
  have b := FunD.bindsA (ps := ["script"]) F_law fun _ _ _ _ _ _ us hl => match us, hl with | [_], _ => rfl
  refine ⟨fd_law, fun s v => b s [v] rfl, fun base _ _ TB__law_kind TB_law => ?_⟩
  have o__law_apart := ok__law_apart (P := P) (base := base) F__law_apart G 
  have o__law_both := ok__law_both (P := P) (base := base) F__law_both G 
  have o__law_left_none := ok__law_left_none (P := P) (base := base) F__law_left_none G 
  have o__law_lesser := ok__law_lesser (P := P) (base := base) F__law_lesser G 
  have o__law_cell_at := ok__law_cell_at (P := P) (base := base) F__law_cell_at G 
  have c__law_cell_at := F__law_cell_at.cal o__law_cell_at g__law_cell_at fun _ _ _ _ _ _ us hl => match us, hl with | [_, _], _ => rfl
  have o__law_bag := ok__law_bag (P := P) (base := base) F__law_bag G 
  have c__law_bag := F__law_bag.cal o__law_bag g__law_bag fun _ _ _ _ _ _ us hl => match us, hl with | [_, _], _ => rfl
  have o__law_draw := ok__law_draw (P := P) (base := base) F__law_draw G 
  have c__law_draw := F__law_draw.cal o__law_draw g__law_draw fun _ _ _ _ _ _ us hl => match us, hl with | [_, _], _ => rfl
  have o__law_kind := ok__law_kind (P := P) (base := base) F__law_kind G LQQ TB__law_kind 
  have c__law_kind := F__law_kind.cal o__law_kind g__law_kind fun _ _ _ _ _ _ us hl => match us, hl with | [_], _ => rfl
  have o__law_row := ok__law_row (P := P) (base := base) F__law_row G c__law_draw
  have c__law_row := F__law_row.cal o__law_row g__law_row fun _ _ _ _ _ _ us hl => match us, hl with | [_, _], _ => rfl
  have o_Kind___init__ := ok_Kind___init__ (P := P) (base := base) F_Kind___init__ G CK 
  have i_Kind_d := mkid_of (C := "Kind") 4 1 F_Kind___init__ (He.mkr_ok (c.fact 30 (f := .mkr "Kind") rfl)) o_Kind___init__ G.Kind (by simp) rfl fun _ _ _ _ _ _ _ us its h1 h2 => match us, its, h1, h2 with | [_, _, _, _], [_, _], _, _ => ⟨_, rfl, rfl⟩
  have bn__law_apart := FunD.bindsN (ps := ["one", "other"]) F__law_apart fun _ _ _ _ _ _ us hl => match us, hl with | [_, _], _ => rfl
  have bn__law_both := FunD.bindsN (ps := ["one", "other"]) F__law_both fun _ _ _ _ _ _ us hl => match us, hl with | [_, _], _ => rfl
  have bn__law_left_none := FunD.bindsN (ps := ["one", "other"]) F__law_left_none fun _ _ _ _ _ _ us hl => match us, hl with | [_, _], _ => rfl
  have bn__law_lesser := FunD.bindsN (ps := ["one", "other"]) F__law_lesser fun _ _ _ _ _ _ us hl => match us, hl with | [_, _], _ => rfl
  have CVO : LmX.CvOk P w K mg base 2 (CVo K LL) := by
    refine LmX.cvok_of (fun j hj => (ok_lams (P := P) (base := base) G j hj).mono (by decide)) fun p hp => ?_
    have hav : avS LL = false := by decide
    simp only [SFk, hav, Bool.false_eq_true, if_true, if_false, List.cons_append, List.nil_append, List.mem_cons, List.not_mem_nil, or_false] at hp
    rcases hp with rfl | rfl | rfl | rfl
    · obtain ⟨oc, od, dV, kV, doc, pm, an, cdv, ct, osl, rfl, lk, _⟩ := F__law_lesser.ex
      exact ⟨_, _, o__law_lesser.mono (by decide), bn__law_lesser, oc, od, osl, lk⟩
    · obtain ⟨oc, od, dV, kV, doc, pm, an, cdv, ct, osl, rfl, lk, _⟩ := F__law_apart.ex
      exact ⟨_, _, o__law_apart.mono (by decide), bn__law_apart, oc, od, osl, lk⟩
    · obtain ⟨oc, od, dV, kV, doc, pm, an, cdv, ct, osl, rfl, lk, _⟩ := F__law_both.ex
      exact ⟨_, _, o__law_both.mono (by decide), bn__law_both, oc, od, osl, lk⟩
    · obtain ⟨oc, od, dV, kV, doc, pm, an, cdv, ct, osl, rfl, lk, _⟩ := F__law_left_none.ex
      exact ⟨_, _, o__law_left_none.mono (by decide), bn__law_left_none, oc, od, osl, lk⟩
  have CV : LmX.CvOk P w K mg base 3 (CVw K LL) := cvw_of ⟨fun {f vs H Q h} a b c => CVO.at_ a b c, fun A outer s H f us vs Q hr => CVO.run A outer s H f us vs Q (hr.mono (by decide))⟩ (ok_lam31 G CVO)
  have o_Kind_worth_of := ok_Kind_worth_of (P := P) (base := base) F_Kind_worth_of G CK CV 
  have m_Kind_worth_of := MtP.mti (C := "Kind") F_Kind_worth_of CK.cl (He.meth_ok (c.fact 32 (f := .meth "Kind" "worth_of") rfl)) o_Kind_worth_of fun _ _ _ _ _ _ us hl => match us, hl with | [_, _], _ => rfl
  have o_Kind_joined := ok_Kind_joined (P := P) (base := base) F_Kind_joined G CK CV 
  have m_Kind_joined := MtP.mti (C := "Kind") F_Kind_joined CK.cl (He.meth_ok (c.fact 31 (f := .meth "Kind" "joined") rfl)) o_Kind_joined fun _ _ _ _ _ _ us hl => match us, hl with | [_, _, _], _ => rfl
  have o_Kind_fold := ok_Kind_fold (P := P) (base := base) F_Kind_fold G CK m_Kind_worth_of m_Kind_joined
  have m_Kind_fold := MtP.mti (C := "Kind") F_Kind_fold CK.cl (He.meth_ok (c.fact 33 (f := .meth "Kind" "fold") rfl)) o_Kind_fold fun _ _ _ _ _ _ us hl => match us, hl with | [_, _], _ => rfl
  have o_none_errs := ok_none_errs (P := P) (base := base) F_none_errs G CK m_Kind_joined
  have c_none_errs := F_none_errs.cal o_none_errs g_none_errs fun _ _ _ _ _ _ us hl => match us, hl with | [_, _], _ => rfl
  have o_stretches := ok_stretches (P := P) (base := base) F_stretches G CK m_Kind_worth_of m_Kind_joined
  have c_stretches := F_stretches.cal o_stretches g_stretches fun _ _ _ _ _ _ us hl => match us, hl with | [_, _], _ => rfl
  have o_groups := ok_groups (P := P) (base := base) F_groups G CK c_none_errs c_stretches m_Kind_joined
  have c_groups := F_groups.cal o_groups g_groups fun _ _ _ _ _ _ us hl => match us, hl with | [_, _], _ => rfl
  have o__law_made := ok__law_made (P := P) (base := base) F__law_made G CV 
  have c__law_made := F__law_made.cal o__law_made g__law_made fun _ _ _ _ _ _ us hl => match us, hl with | [_, _], _ => rfl
  have o__law_stretch := ok__law_stretch (P := P) (base := base) F__law_stretch G CV c__law_made
  have c__law_stretch := F__law_stretch.cal o__law_stretch g__law_stretch fun _ _ _ _ _ _ us hl => match us, hl with | [_, _], _ => rfl
  have o__law_err := ok__law_err (P := P) (base := base) F__law_err G CV 
  have c__law_err := F__law_err.cal o__law_err g__law_err fun _ _ _ _ _ _ us hl => match us, hl with | [_, _, _], _ => rfl
  have o__law_first_err := ok__law_first_err (P := P) (base := base) F__law_first_err G CV c__law_err c__law_stretch
  have c__law_first_err := F__law_first_err.cal o__law_first_err g__law_first_err fun _ _ _ _ _ _ us hl => match us, hl with | [_, _], _ => rfl
  exact ok_law (P := P) (base := base) F_law G CK Q31 KLL CV TB_law c__law_cell_at c__law_bag c__law_draw c__law_kind c__law_row i_Kind_d m_Kind_fold c_groups c__law_stretch c__law_first_err
end Fg
open PySem PySem.W PySem.Calls PyProof.Rows
theorem PySem.Challenge.cw_forkgather_k46_whole_long_lists_grouped_holds : PySem.Challenge.rw_forkgather_k46_whole_long_lists_grouped.Holds :=
  Fg.close (fun K => Fg.sp_law K) (fun K H a ns hl h0 h1 hS => ⟨a, ns, rfl, hS, Nat.le_trans hl (by decide), h0, h1, fun _ => rfl⟩) fun X G0 hfa c0 => Fg.facts X G0 hfa c0
