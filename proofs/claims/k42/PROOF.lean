import PyProof.Rows.All
import Wide.All
import OpenK.AllK
import Wide.FinOn
import KE.KStateDown
import Lean
import HandS.ForMost
import HandS.Defaults
import HandS.IsInst
import HandS.More
import HandS.Codes
import HandS.TupLe
import HandS.TupAny
import HandS.Conv
import HandS.Wide
import HandS.Walk
import KE.DataEq
import HandS.Head0
import HandS.Head1
import HandS.Head2
import HandS.HeadEnd
import HandS.HeadHook1
import HandS.HeadHook2
import HandS.HeadHook3
import HandS.HeadHook4
import HandS.HeadWalk
import HandS.Nested
import HandS.FStr
import KE.IntBitsLaws
import KE.DataMinMax
import HandS.SortKw
import Flt.Ops
import HandS.Exc
import HandS.ExcField
import HandS.ExcIs
import HandS.ExcInit
import HandS.ExcValue
import HandS.TryOnly
import KE.KExcIs
import HandS.CallSlots
import HandS.ExcOwn
import HandS.Lambda
import PyProof.FactsAll.dict_1
import PyProof.FactsAll.subtypes_3
import PyProof.FactsAll.subtypes_4
import HandS.SetKeys
import HandS.SetFor
import HandS.Strs
import HandS.SortInts
import HandS.Flow
import HandS.OwnEq
import PyProof.InstSpecial
import KE.KeyNested
import HandS.TupLen
import HandS.RevRange
import HandS.MakeKw
import HandS.SortRule
import HandS.MakeKwOnly
import HandS.Style
import PySem.Challenge.RW_forkgather_k42_folds_and_kinds
set_option Elab.async false
set_option linter.all false
set_option maxRecDepth 100000
set_option maxHeartbeats 4000000
namespace Fg
open PySem PySem.Spec PyProof.Rows L2
section
structure Chg (M : List Addr) (H H' : Hp) : Prop where
  keep : ∀ a o, H a = some o → a ∉ M → H' a = some o
  dom : ∀ a, H' a = none → H a = none
  tup : ∀ a xs, H a = some (.tup xs) → H' a = some (.tup xs)
theorem Chg.refl {M : List Addr} {H : Hp} : Chg M H H := ⟨fun _ _ h _ => h, fun _ h => h, fun _ _ h => h⟩
theorem Chg.new {H : Hp} {p : Addr} {o : HO} (n : H p = none) : Chg [] H (upd H p o) where
  keep := fun a u h _ => by rw [upd_ne (ne_of_none h n)]; exact h
  dom := fun a h => by
    by_cases e : a = p
    · subst e; exact n
    · rw [upd_ne e] at h; exact h
  tup := fun a xs h => by rw [upd_ne (ne_of_none h n)]; exact h
theorem Chg.mut {H : Hp} {p : Addr} {o u : HO} (h : H p = some u) (hm : ∀ xs, u ≠ .tup xs) : Chg [p] H (upd H p o) where
  keep := fun a v e hn => by rw [upd_ne (fun z => hn (by rw [z]; exact List.mem_singleton.mpr rfl))]; exact e
  dom := fun a e => by
    by_cases z : a = p
    · subst z; rw [upd_same] at e; cases e
    · rw [upd_ne z] at e; exact e
  tup := fun a xs e => by
    rw [upd_ne (fun z => by subst z; rw [h] at e; exact hm xs (Option.some.inj e))]; exact e
/-- then c', whose changed ones are changed ones of c or new ones -/
theorem Chg.go {M M' : List Addr} {H H1 H2 : Hp} (c : Chg M H H1) (c' : Chg M' H1 H2) (h : ∀ a ∈ M', a ∈ M ∨ H a = none) : Chg M H H2 where
  keep := fun a o e hn => c'.keep a o (c.keep a o e hn) (fun hm => (h a hm).elim hn fun z => by rw [z] at e; cases e)
  dom := fun a e => c.dom a (c'.dom a e)
  tup := fun a xs e => c'.tup a xs (c.tup a xs e)
theorem Chg.same {M : List Addr} {H H1 H2 : Hp} (c : Chg M H H1) (c' : Chg [] H1 H2) : Chg M H H2 := c.go c' fun a h => absurd h (by simp)
theorem Chg.pre {M : List Addr} {H H1 H2 : Hp} (c : Chg [] H H1) (c' : Chg M H1 H2) : Chg M H H2 :=
  ⟨fun a o e hn => c'.keep a o (c.keep a o e (by simp)) hn, fun a e => c.dom a (c'.dom a e), fun a xs e => c'.tup a xs (c.tup a xs e)⟩
theorem Chg.both {M : List Addr} {H H1 H2 : Hp} (c : Chg M H H1) (c' : Chg M H1 H2) : Chg M H H2 := c.go c' fun a h => .inl h
theorem Chg.wide {M M' : List Addr} {H H1 : Hp} (c : Chg M H H1) (h : ∀ a ∈ M, a ∈ M') : Chg M' H H1 := ⟨fun a o e hn => c.keep a o e fun z => hn (h a z), c.dom, c.tup⟩
theorem Chg.one {H H1 H2 : Hp} {p : Addr} (c : Chg [] H H1) (c' : Chg [p] H1 H2) (n : H p = none) : Chg [] H H2 :=
  c.go c' fun a h => .inr (by rw [List.mem_singleton.mp h]; exact n)
theorem Chg.at {H H' : Hp} {a : Addr} {o : HO} (c : Chg [] H H') (h : H a = some o) : H' a = some o := c.keep a o h (by simp)
theorem Chg.ne {M : List Addr} {H H' : Hp} {a b : Addr} {o : HO} (c : Chg M H H') (h : H a = some o) (n : H' b = none) : a ≠ b := fun e => by
  have z := c.dom b n
  rw [← e, h] at z; cases z
theorem Chg.at1 {H H' : Hp} {a b : Addr} {o : HO} (c : Chg [b] H H') (h : H a = some o) (n : a ≠ b) : H' a = some o := c.keep a o h (by simpa using n)
theorem Chg.seq {K : PySem.W.Frag} {H H' : Hp} {a : Addr} {xs : List V} (c : Chg [] H H') (h : SqL K H a xs) : SqL K H' a xs := by
  rcases h with (h | ⟨o, h⟩) | h
  · exact .inl (.inl (c.at h))
  · exact .inl (.inr ⟨o, c.at h⟩)
  · exact .inr h
theorem sqL {K : PySem.W.Frag} {H : Hp} {a : Addr} {xs : List V} (h : H a = some (.lst xs)) : SqL K H a xs := .inl (.inl h)
theorem sqT {K : PySem.W.Frag} {H : Hp} {a : Addr} {xs : List V} (h : H a = some (.tup xs)) : SqT K H a xs := .inl (.inl h)
mutual
inductive R (S : Addr → Prop) (H : Hp) : V → PyData → Prop
  | non : R S H .non .none
  | bl (b : Bool) : R S H (.bl b) (.bool b)
  | int (i : Int) : R S H (.int i) (.int i)
  | str (x : Str) : R S H (.str x) (.str x)
  | lst {a : Addr} {xs : List V} {ds : List PyData} : S a → H a = some (.lst xs) → RA S H xs ds → R S H (.ref a) (.list ds)
  | tup {a : Addr} {xs : List V} {ds : List PyData} : H a = some (.tup xs) → RA S H xs ds → R S H (.ref a) (.tuple ds)
  | dic {a : Addr} {kvs : List (Key × V)} : S a → H a = some (.dK kvs) → R S H (.ref a) (.dict [])
inductive RA (S : Addr → Prop) (H : Hp) : List V → List PyData → Prop
  | nil : RA S H [] []
  | cons {v : V} {vs : List V} {d : PyData} {ds : List PyData} : R S H v d → RA S H vs ds → RA S H (v :: vs) (d :: ds)
end
mutual
theorem R.imp {S S' : Addr → Prop} {H H' : Hp} (hl : ∀ a xs, S a → H a = some (.lst xs) → S' a ∧ H' a = some (.lst xs)) (hd : ∀ a xs, S a → H a = some (.dK xs) → S' a ∧ H' a = some (.dK xs))
    (ht : ∀ a xs, H a = some (.tup xs) → H' a = some (.tup xs)) : ∀ {d : PyData} {v : V}, R S H v d → R S' H' v d
  | .none, _, h => by cases h; exact .non
  | .bool _, _, h => by cases h; exact .bl _
  | .int _, _, h => by cases h; exact .int _
  | .str _, _, h => by cases h; exact .str _
  | .list ds, _, h => by
    cases h with
    | lst s e r => exact .lst (hl _ _ s e).1 (hl _ _ s e).2 (RA.imp hl hd ht r)
  | .tuple ds, _, h => by
    cases h with
    | tup e r => exact .tup (ht _ _ e) (RA.imp hl hd ht r)
  | .dict _, _, h => by
    cases h with
    | dic s e => exact .dic (hd _ _ s e).1 (hd _ _ s e).2
theorem RA.imp {S S' : Addr → Prop} {H H' : Hp} (hl : ∀ a xs, S a → H a = some (.lst xs) → S' a ∧ H' a = some (.lst xs)) (hd : ∀ a xs, S a → H a = some (.dK xs) → S' a ∧ H' a = some (.dK xs))
    (ht : ∀ a xs, H a = some (.tup xs) → H' a = some (.tup xs)) : ∀ {ds : List PyData} {vs : List V}, RA S H vs ds → RA S' H' vs ds
  | [], _, h => by cases h; exact .nil
  | d :: ds, _, h => by
    cases h with
    | cons a b => exact .cons (R.imp hl hd ht a) (RA.imp hl hd ht b)
end
theorem R.keep {S : Addr → Prop} {M : List Addr} {H H' : Hp} {v : V} {d : PyData} (c : Chg M H H') (h : ∀ a, S a → a ∉ M) (r : R S H v d) : R S H' v d :=
  R.imp (fun a xs s e => ⟨s, c.keep a _ e (h a s)⟩) (fun a xs s e => ⟨s, c.keep a _ e (h a s)⟩) c.tup r
theorem RA.keep {S : Addr → Prop} {M : List Addr} {H H' : Hp} {v : List V} {d : List PyData} (c : Chg M H H') (h : ∀ a, S a → a ∉ M) (r : RA S H v d) : RA S H' v d :=
  RA.imp (fun a xs s e => ⟨s, c.keep a _ e (h a s)⟩) (fun a xs s e => ⟨s, c.keep a _ e (h a s)⟩) c.tup r
theorem R.mono {S S' : Addr → Prop} {H : Hp} {v : V} {d : PyData} (h : ∀ a, S a → S' a) (r : R S H v d) : R S' H v d :=
  R.imp (fun a xs s e => ⟨h a s, e⟩) (fun a xs s e => ⟨h a s, e⟩) (fun _ _ e => e) r
theorem RA.mono {S S' : Addr → Prop} {H : Hp} {v : List V} {d : List PyData} (h : ∀ a, S a → S' a) (r : RA S H v d) : RA S' H v d :=
  RA.imp (fun a xs s e => ⟨h a s, e⟩) (fun a xs s e => ⟨h a s, e⟩) (fun _ _ e => e) r
/-- all that stands in H stands in H' -/
theorem R.same {S : Addr → Prop} {H H' : Hp} {v : V} {d : PyData} (c : Chg [] H H') (r : R S H v d) : R S H' v d := r.keep c fun _ _ => by simp
theorem RA.same {S : Addr → Prop} {H H' : Hp} {v : List V} {d : List PyData} (c : Chg [] H H') (r : RA S H v d) : RA S H' v d := r.keep c fun _ _ => by simp
/-- data without lists -/
abbrev Im : Hp → V → PyData → Prop := R (fun _ => False)
abbrev ImA : Hp → List V → List PyData → Prop := RA (fun _ => False)
theorem R.im {M : List Addr} {H H' : Hp} {v : V} {d : PyData} (c : Chg M H H') (r : Im H v d) : Im H' v d := R.keep c (fun _ z => z.elim) r
theorem RA.im {M : List Addr} {H H' : Hp} {v : List V} {d : List PyData} (c : Chg M H H') (r : ImA H v d) : ImA H' v d := RA.keep c (fun _ z => z.elim) r
theorem R.any {S : Addr → Prop} {H : Hp} {v : V} {d : PyData} (r : Im H v d) : R S H v d := r.mono fun _ z => z.elim
theorem RA.any {S : Addr → Prop} {H : Hp} {v : List V} {d : List PyData} (r : ImA H v d) : RA S H v d := r.mono fun _ z => z.elim
theorem RA.length {S : Addr → Prop} {H : Hp} : ∀ {vs : List V} {ds : List PyData}, RA S H vs ds → vs.length = ds.length
  | _, _, .nil => rfl
  | _, _, .cons _ r => by rw [List.length_cons, List.length_cons, r.length]
theorem RA.get {S : Addr → Prop} {H : Hp} : ∀ {vs : List V} {ds : List PyData} {i : Nat} {v : V}, RA S H vs ds → vs[i]? = some v → ∃ d, ds[i]? = some d ∧ R S H v d
  | _, _, _, _, .nil, h => by simp at h
  | _, _, 0, _, .cons a r, h => ⟨_, rfl, by cases (Option.some.inj (show some _ = some _ from h)); exact a⟩
  | _, _, i + 1, _, .cons a r, h => RA.get (i := i) r h
theorem RA.append {S : Addr → Prop} {H : Hp} : ∀ {vs ws : List V} {ds es : List PyData}, RA S H vs ds → RA S H ws es → RA S H (vs ++ ws) (ds ++ es)
  | _, _, _, _, .nil, h => h
  | _, _, _, _, .cons a r, h => .cons a (r.append h)
theorem RA.drop {S : Addr → Prop} {H : Hp} : ∀ {vs : List V} {ds : List PyData} (n : Nat), RA S H vs ds → RA S H (vs.drop n) (ds.drop n)
  | _, _, 0, h => h
  | _, _, _ + 1, .nil => .nil
  | _, _, n + 1, .cons _ r => r.drop n
theorem RA.take {S : Addr → Prop} {H : Hp} : ∀ {vs : List V} {ds : List PyData} (n : Nat), RA S H vs ds → RA S H (vs.take n) (ds.take n)
  | _, _, 0, _ => .nil
  | _, _, _ + 1, .nil => .nil
  | _, _, n + 1, .cons a r => .cons a (r.take n)
/-- no dict in it -/
abbrev noDic : PyData → Bool := PyData.plain
abbrev noDics : List PyData → Bool := PyData.plainAll
mutual
theorem eqv_self : ∀ d : PyData, noDic d = true → PyData.eqv d d = true
  | .none, _ => rfl
  | .bool b, _ => by simp [PyData.eqv]
  | .int i, _ => by simp [PyData.eqv]
  | .str x, _ => by simp [PyData.eqv]
  | .list xs, h => by
    show PyData.eqvAll xs xs = true
    exact eqvAll_self xs h
  | .tuple xs, h => by
    show PyData.eqvAll xs xs = true
    exact eqvAll_self xs h
  | .dict _, h => by cases h
theorem eqvAll_self : ∀ ds : List PyData, noDics ds = true → PyData.eqvAll ds ds = true
  | [], _ => rfl
  | d :: ds, h => by
    obtain ⟨h1, h2⟩ := Bool.and_eq_true_iff.mp (show (noDic d && noDics ds) = true from h)
    show (PyData.eqv d d && PyData.eqvAll ds ds) = true
    rw [eqv_self d h1, eqvAll_self ds h2]
    rfl
end
mutual
theorem R.dp {K : PySem.W.Frag} {S : Addr → Prop} {H : Hp} : ∀ {d : PyData} {v : V}, R S H v d → noDic d = true → Dp K H v d
  | .none, _, h, _ => by cases h; exact .non
  | .bool _, _, h, _ => by cases h; exact .bl _
  | .int _, _, h, _ => by cases h; exact .int _
  | .str _, _, h, _ => by cases h; exact .str _
  | .list ds, _, h, z => by
    cases h with
    | lst s e r => exact .lst (sqL e) (RA.dp r z)
  | .tuple ds, _, h, z => by
    cases h with
    | tup e r => exact .tup (sqT e) (RA.dp r z)
  | .dict _, _, h, z => by cases z
theorem RA.dp {K : PySem.W.Frag} {S : Addr → Prop} {H : Hp} : ∀ {ds : List PyData} {vs : List V}, RA S H vs ds → noDics ds = true → DpAll K H vs ds
  | [], _, h, _ => by cases h; exact .nil
  | d :: ds, _, h, z => by
    obtain ⟨z1, z2⟩ := Bool.and_eq_true_iff.mp (show (noDic d && noDics ds) = true from z)
    cases h with
    | cons a b => exact .cons (R.dp a z1) (RA.dp b z2)
end
end
section
section
variable {X : Cx}
def oAdd : R2 := rI0 fun i j => .int (i + j)
def oSub : R2 := rI0 fun i j => .int (i - j)
def oMul : R2 := rI CMul fun i j => .int (i * j)
def oFdiv : R2 := rI CDivW fun i j => .int (i / j)
def oMod : R2 := rI (fun _ j => 0 < j) fun i j => .int (i % j)
def CPowW (i j : Int) : Prop := 0 ≤ j ∧ (Builtin.Int.intBits i : Int) * j ≤ 2 ^ 27
def oPow : R2 := rI CPowW fun i j => .int (i ^ j.toNat)
def oLt : R2 := rI0 fun i j => .bl (decide (i < j))
def oLe : R2 := rI0 fun i j => .bl (decide (i ≤ j))
def oGt : R2 := rI0 fun i j => .bl (decide (j < i))
def oGe : R2 := rI0 fun i j => .bl (decide (j ≤ i))
def oAddS : R2 := fun x y H Q => ∃ i j, x = .str i ∧ y = .str j ∧ i.length + j.length ≤ sizeLine ∧ Q (.str (i ++ j)) H
def oLtS : R2 := fun x y H Q => ∃ i j, x = .str i ∧ y = .str j ∧ Q (.bl (decide (i.cps.toList < j.cps.toList))) H
def oGeS : R2 := fun x y H Q => ∃ i j, x = .str i ∧ y = .str j ∧ Q (.bl (!decide (i.cps.toList < j.cps.toList))) H
def oInC : R2 := fun x y H Q => ∃ (c : Nat) (z : Str), x = .str ⟨#[c]⟩ ∧ y = .str z ∧ Q (.bl (decide (c ∈ z.cps.toList))) H
def oNotInC : R2 := fun x y H Q => ∃ (c : Nat) (z : Str), x = .str ⟨#[c]⟩ ∧ y = .str z ∧ Q (.bl (!decide (c ∈ z.cps.toList))) H
def oIsN : R2 := fun x y H Q => y = .non ∧ Q (.bl (decide (x = .non))) H
def oNotN : R2 := fun x y H Q => y = .non ∧ Q (.bl (!decide (x = .non))) H
def oIsB : R2 := fun x y H Q => ∃ a b, x = .bl a ∧ y = .bl b ∧ Q (.bl (decide (a = b))) H
def oNotB : R2 := fun x y H Q => ∃ a b, x = .bl a ∧ y = .bl b ∧ Q (.bl (!decide (a = b))) H
def oNotInKd (K : PySem.W.Frag) (d : Addr) : R2 := fun x y H Q => ∃ (z : Str) (r : Option Value), x = .str z ∧ y = .ref d ∧ PySem.W.nsIn K d z = some r ∧ Q (.bl (!r.isSome)) H
def oEqD : R2 := fun x y H Q => ∃ (d e : PyData) (S S' : Addr → Prop), R S H x d ∧ R S' H y e ∧ noDic d = true ∧ noDic e = true ∧ min d.depth e.depth ≤ 60 ∧ Q (.bl (PyData.eqv d e)) H
def oNeD : R2 := fun x y H Q => ∃ (d e : PyData) (S S' : Addr → Prop), R S H x d ∧ R S' H y e ∧ noDic d = true ∧ noDic e = true ∧ min d.depth e.depth ≤ 60 ∧ Q (.bl (!PyData.eqv d e)) H
theorem p_eqD (hu : X.A.units + 64 < cLine) : OpR X (compareOp .Eq) oEqD := by
  intro pins s σ H x y v u Q I rx ry h
  obtain ⟨d, e, S, S', hd, he, sd, se, hm, q⟩ := h
  obtain ⟨as, r1⟩ := Dp.reads I d x v (hd.dp sd) rx
  obtain ⟨bs, r2⟩ := Dp.reads I e y u (he.dp se) ry
  exact SeqAt.eq_plain r1 r2 sd se (by omega) ⟨.bl _, H, I, rfl, q⟩
theorem p_neD (hu : X.A.units + 64 < cLine) : OpR X (compareOp .NotEq) oNeD := by
  intro pins s σ H x y v u Q I rx ry h
  obtain ⟨d, e, S, S', hd, he, sd, se, hm, q⟩ := h
  obtain ⟨as, r1⟩ := Dp.reads I d x v (hd.dp sd) rx
  obtain ⟨bs, r2⟩ := Dp.reads I e y u (he.dp se) ry
  exact SeqAt.ne_plain r1 r2 sd se (by omega) ⟨.bl _, H, I, rfl, q⟩
def mJoin (K : PySem.W.Frag) : V → List V → Hp → VK → Prop := fun x xs H Q => ∃ a p, ∃ ys : List Str, x = .str a ∧ xs = [.ref p] ∧ (SqL K H p (ys.map V.str) ∨ SqT K H p (ys.map V.str)) ∧ (ys.map (·.length)).sum + ys.length * a.length ≤ 16777216 ∧ Q (.str (Txt.join a ys)) H
theorem p_add : OpR X (binaryOp .Add) oAdd := op_add
theorem p_sub : OpR X (binaryOp .Sub) oSub := op_sub
theorem p_mul : OpR X (binaryOp .Mult) oMul := op_mul
theorem p_fdiv : OpR X (binaryOp .FloorDiv) oFdiv := op_fdivW
theorem p_mod : OpR X (binaryOp .Mod) oMod := op_mod
theorem p_pow : OpR X (binaryOp .Pow) oPow := opI fun _ _ _ _ _ _ _ hc q => pow_int hc.1 hc.2 q
theorem p_lt : OpR X (compareOp .Lt) oLt := op_lt
theorem p_gt : OpR X (compareOp .Gt) oGt := op_gt
theorem p_addS : OpR X (binaryOp .Add) oAddS := op_add_str
theorem p_isN : OpR X (compareOp .Is) oIsN := op_isN
def cMax : List V → Hp → VK → Prop := fun xs H Q => ∃ i j, xs = [.int i, .int j] ∧ Q (.int (if j > i then j else i)) H
def cMin : List V → Hp → VK → Prop := fun xs H Q => ∃ i j, xs = [.int i, .int j] ∧ Q (.int (if j < i then j else i)) H
def cAbs : List V → Hp → VK → Prop := fun xs H Q => ∃ i, xs = [.int i] ∧ Q (.int (if i < 0 then -i else i)) H
def cInt : List V → Hp → VK → Prop := fun xs H Q => (∃ i, xs = [.int i] ∧ Q (.int i) H) ∨ ∃ k, xs = [.bl k] ∧ Q (.int (if k then 1 else 0)) H
def cStrI : List V → Hp → VK → Prop := fun xs H Q => ∃ i, xs = [.int i] ∧ i.natAbs.log2 < 1920 ∧ Q (.str (toString i)) H
def cLenQ (K : PySem.W.Frag) : List V → Hp → VK → Prop := fun xs H Q => ∃ p ys, xs = [.ref p] ∧ (SqL K H p ys ∨ SqT K H p ys) ∧ Q (.int ys.length) H
def cLenS : List V → Hp → VK → Prop := fun xs H Q => ∃ z, xs = [.str z] ∧ z.length ≤ sizeLine ∧ Q (.int z.length) H
def cListQ (K : PySem.W.Frag) : List V → Hp → VK → Prop := fun xs H Q => ∃ p ys, xs = [.ref p] ∧ (SqL K H p ys ∨ SqT K H p ys) ∧ ∀ l, H l = none → Q (.ref l) (upd H l (.lst ys))
theorem p_max (hc : X.calm = true) : CallR X (.builtin "max") cMax := call_max2 hc
theorem p_min (hc : X.calm = true) : CallR X (.builtin "min") cMin := call_min2 hc
theorem p_abs : CallR X (.builtin "abs") cAbs := call_abs
theorem p_strI : CallR X (.type "str") cStrI := call_str_int
theorem p_lenQ : CallR X (.builtin "len") (cLenQ X.K) := call_len_seq
theorem p_lenS : CallR X (.builtin "len") cLenS := call_len_str
theorem p_listQ : CallR X (.type "list") (cListQ X.K) := call_list_of
end
section
variable {K : PySem.W.Frag} {σ : L2.St} {H : Hp} {D : Ends} {te ta tb tc : TE} {tr : TA} {g : TG} {gs : TGs} {t u : TS} {c c' : TT} {r r' : R2} {Q : VK} {QB : Bool → Hp → Prop} {QA : List V → Hp → Prop} {QS : L2.St → Hp → Prop} {QO : Option Int → Hp → Prop} {i j : Int} {n : Nat} {v x y : V} {vs xs : List V} {p a : Addr} {z z' : Str} {b : Bool}
theorem w_seq (h : t { D with nx := u D } σ H) : tSeq t u D σ H := h
theorem w_next (h : D.nx σ H) : tNext D σ H := h
theorem w_drop (h : te σ H fun _ H1 => D.nx σ H1) : tDrop te D σ H := h
theorem w_ret (h : te σ H D.rt) : tRet te D σ H := h
theorem w_retN (h : D.rt .non H) : tRetN D σ H := h
theorem w_if (h : c σ H fun b H1 => if b = true then t D σ H1 else u D σ H1) : tIfS c t u D σ H := h
theorem w_asg (h : te σ H fun x H1 => g x σ H1 D.nx) : tAsg te g D σ H := h
theorem w_gName (h : QS (σ.set n (some v)) H) : gName n v σ H QS := h
theorem w_gTup (h : H a = some (.tup xs)) (hl : xs.length = n) (q : gs xs σ H QS) : gTup K n gs (.ref a) σ H QS := ⟨a, xs, rfl, sqT h, hl, q⟩
theorem w_gCons (h : g v σ H fun σ' H' => gs vs σ' H' QS) : gCons g gs (v :: vs) σ H QS := ⟨v, vs, rfl, h⟩
theorem w_gNil (h : QS σ H) : gNil [] σ H QS := ⟨rfl, h⟩
theorem w_gSub {to ti : TE} {ts : TSet} (h : to σ H fun o H1 => ti σ H1 fun i H2 => ts o i v H2 fun H3 => QS σ H3) : gSub to ti ts v σ H QS := h
theorem w_aug {ti : TIp} (h : σ[n]? = some (some x)) (q : te σ H fun y H1 => ti x y H1 fun z H2 => D.nx (σ.set n (some z)) H2) : tAug n te ti D σ H := ⟨x, h, q⟩
theorem w_ipI {f : Int → Int → Int} (q : Q (.int (f i j)) H) : ipI f (.int i) (.int j) H Q := ⟨i, j, rfl, rfl, q⟩
theorem w_var (h : σ[n]? = some (some v)) (q : Q v H) : tVar n σ H Q := ⟨v, h, q⟩
theorem w_c (q : Q v H) : tC v σ H Q := q
theorem w_op (h : ta σ H fun x H1 => tb σ H1 fun y H2 => r x y H2 Q) : tOp r ta tb σ H Q := h
theorem w_un {ru : V → Hp → VK → Prop} (h : ta σ H fun x H1 => ru x H1 Q) : tUn ru ta σ H Q := h
theorem w_neg (q : Q (.int (-i)) H) : rU (fun i => .int (-i)) (.int i) H Q := ⟨i, rfl, q⟩
theorem w_nil (q : QA [] H) : tNil σ H QA := q
theorem w_cons (h : ta σ H fun x H1 => tr σ H1 fun xs H2 => QA (x :: xs) H2) : tCons ta tr σ H QA := h
theorem w_cb {rc : List V → Hp → VK → Prop} (h : tr σ H fun vs H1 => rc vs H1 Q) : tCB rc tr σ H Q := h
theorem w_call {sp : Sp} {dvs : List V} {E : XK} (h : tr σ H fun vs H1 => sp (vs ++ dvs) H1 Q E) : tCall sp dvs E tr σ H Q := h
theorem w_test (h : te σ H fun x H' => ∃ k, x = .bl k ∧ QB k H') : tTest te σ H QB := h
theorem w_B (h : te σ H fun x H' => ∃ k, x = .bl k ∧ QB k H') : tB te σ H QB := h
theorem w_isbl {P : Bool → Prop} (q : P b) : ∃ k, V.bl b = .bl k ∧ P k := ⟨b, rfl, q⟩
theorem w_and (h : c σ H fun b H1 => if b = true then c' σ H1 QB else QB false H1) : tAnd c c' σ H QB := h
theorem w_or (h : c σ H fun b H1 => if b = true then QB true H1 else c' σ H1 QB) : tOr c c' σ H QB := h
theorem w_not (h : c σ H fun b H1 => QB (!b) H1) : tNot c σ H QB := h
theorem w_andV (h : ta σ H fun x H1 => ∃ c, x = .bl c ∧ if c = true then tb σ H1 Q else Q (.bl false) H1) : tAndV ta tb σ H Q := h
theorem w_orV (h : ta σ H fun x H1 => ∃ c, x = .bl c ∧ if c = true then Q (.bl true) H1 else tb σ H1 Q) : tOrV ta tb σ H Q := h
theorem w_notV (h : ta σ H fun x H1 => ∃ c, x = .bl c ∧ Q (.bl (!c)) H1) : tNotV ta σ H Q := h
theorem w_ifE (h : c σ H fun b H1 => if b = true then ta σ H1 Q else tb σ H1 Q) : tIf c ta tb σ H Q := h
theorem w_chain (h : ta σ H fun x H1 => tb σ H1 fun y H2 => r x y H2 fun z H3 => ∃ k, z = .bl k ∧ (if k = true then tc σ H3 fun w' H4 => r' y w' H4 Q else Q (.bl false) H3)) : tChain r r' ta tb tc σ H Q := h
/-- the last part of a display -/
def KTup (Q : VK) : List V → Hp → Prop := fun xs H1 => xs.length ≤ sizeLine ∧ ∀ p, H1 p = none → Q (.ref p) (upd H1 p (.tup xs))
def KLst (Q : VK) : List V → Hp → Prop := fun xs H1 => xs.length ≤ sizeLine ∧ ∀ p, H1 p = none → Q (.ref p) (upd H1 p (.lst xs))
theorem w_tup1 (h : tr σ H (KTup Q)) : tTup tr σ H Q := h
theorem w_lst1 (h : tr σ H (KLst Q)) : tLst tr σ H Q := h
theorem k_tup {H1 : Hp} (hl : xs.length ≤ sizeLine) (h : ∀ p H2, H1 p = none → Chg [] H1 H2 → H2 p = some (.tup xs) → Q (.ref p) H2) : KTup Q xs H1 := ⟨hl, fun p np => h p _ np (.new np) upd_same⟩
theorem k_lst {H1 : Hp} (hl : xs.length ≤ sizeLine) (h : ∀ p H2, H1 p = none → Chg [] H1 H2 → H2 p = some (.lst xs) → Q (.ref p) H2) : KLst Q xs H1 := ⟨hl, fun p np => h p _ np (.new np) upd_same⟩
/-- a new object -/
theorem d_new {H1 : Hp} {o : HO} (h : ∀ p H2, H1 p = none → Chg [] H1 H2 → H2 p = some o → Q (.ref p) H2) : ∀ p, H1 p = none → Q (.ref p) (upd H1 p o) := fun p np => h p _ np (.new np) upd_same
theorem w_add (q : Q (.int (i + j)) H) : oAdd (.int i) (.int j) H Q := ⟨i, j, rfl, rfl, q⟩
theorem w_sub (q : Q (.int (i - j)) H) : oSub (.int i) (.int j) H Q := ⟨i, j, rfl, rfl, q⟩
theorem w_mul (h : CMul i j) (q : Q (.int (i * j)) H) : oMul (.int i) (.int j) H Q := ⟨i, j, rfl, rfl, h, q⟩
theorem w_fdiv (h : CDivW i j) (q : Q (.int (i / j)) H) : oFdiv (.int i) (.int j) H Q := ⟨i, j, rfl, rfl, h, q⟩
theorem w_mod (h : 0 < j) (q : Q (.int (i % j)) H) : oMod (.int i) (.int j) H Q := ⟨i, j, rfl, rfl, h, q⟩
theorem w_pow (h : CPowW i j) (q : Q (.int (i ^ j.toNat)) H) : oPow (.int i) (.int j) H Q := ⟨i, j, rfl, rfl, h, q⟩
theorem w_lt (q : Q (.bl (decide (i < j))) H) : oLt (.int i) (.int j) H Q := ⟨i, j, rfl, rfl, q⟩
theorem w_le (q : Q (.bl (decide (i ≤ j))) H) : oLe (.int i) (.int j) H Q := ⟨i, j, rfl, rfl, q⟩
theorem w_gt (q : Q (.bl (decide (j < i))) H) : oGt (.int i) (.int j) H Q := ⟨i, j, rfl, rfl, q⟩
theorem w_ge (q : Q (.bl (decide (j ≤ i))) H) : oGe (.int i) (.int j) H Q := ⟨i, j, rfl, rfl, q⟩
theorem w_addS (h : z.length + z'.length ≤ sizeLine) (q : Q (.str (z ++ z')) H) : oAddS (.str z) (.str z') H Q := ⟨z, z', rfl, rfl, h, q⟩
theorem w_ltS (q : Q (.bl (decide (z.cps.toList < z'.cps.toList))) H) : oLtS (.str z) (.str z') H Q := ⟨z, z', rfl, rfl, q⟩
theorem w_geS (q : Q (.bl (!decide (z.cps.toList < z'.cps.toList))) H) : oGeS (.str z) (.str z') H Q := ⟨z, z', rfl, rfl, q⟩
theorem w_inC {c : Nat} (q : Q (.bl (decide (c ∈ z.cps.toList))) H) : oInC (.str ⟨#[c]⟩) (.str z) H Q := ⟨c, z, rfl, rfl, q⟩
theorem w_notInC {c : Nat} (q : Q (.bl (!decide (c ∈ z.cps.toList))) H) : oNotInC (.str ⟨#[c]⟩) (.str z) H Q := ⟨c, z, rfl, rfl, q⟩
theorem w_isN (q : Q (.bl (decide (x = .non))) H) : oIsN x .non H Q := ⟨rfl, q⟩
theorem w_notN (q : Q (.bl (!decide (x = .non))) H) : oNotN x .non H Q := ⟨rfl, q⟩
theorem w_isB {b' : Bool} (q : Q (.bl (decide (b = b'))) H) : oIsB (.bl b) (.bl b') H Q := ⟨b, b', rfl, rfl, q⟩
theorem w_notB {b' : Bool} (q : Q (.bl (!decide (b = b'))) H) : oNotB (.bl b) (.bl b') H Q := ⟨b, b', rfl, rfl, q⟩
theorem w_eq (h : scal x y = true) (q : Q (.bl (decide (x = y))) H) : rEq x y H Q := ⟨h, q⟩
theorem w_ne (h : scal x y = true) (q : Q (.bl (!decide (x = y))) H) : rNe x y H Q := ⟨h, q⟩
theorem w_eqD {d e : PyData} {S S' : Addr → Prop} (hd : R S H x d) (he : R S' H y e) (sd : noDic d = true) (se : noDic e = true) (hm : min d.depth e.depth ≤ 60) (q : Q (.bl (PyData.eqv d e)) H) : oEqD x y H Q := ⟨d, e, S, S', hd, he, sd, se, hm, q⟩
theorem w_neD {d e : PyData} {S S' : Addr → Prop} (hd : R S H x d) (he : R S' H y e) (sd : noDic d = true) (se : noDic e = true) (hm : min d.depth e.depth ≤ 60) (q : Q (.bl (!PyData.eqv d e)) H) : oNeD x y H Q := ⟨d, e, S, S', hd, he, sd, se, hm, q⟩
theorem w_m1 {rm : V → List V → Hp → VK → Prop} (h : ta σ H fun x H1 => (∃ a, x = .str a) ∧ tb σ H1 fun y H2 => rm x [y] H2 Q) : tM1 rm ta tb σ H Q := h
theorem w_isstr {P : Prop} (q : P) : (∃ a, V.str z = .str a) ∧ P := ⟨⟨z, rfl⟩, q⟩
theorem w_join {ys : List Str} (h : SqL K H p (ys.map V.str)) (hs : (ys.map (·.length)).sum + ys.length * z.length ≤ 16777216) (q : Q (.str (Txt.join z ys)) H) : mJoin K (.str z) [.ref p] H Q := ⟨z, p, ys, rfl, rfl, .inl h, hs, q⟩
theorem w_ixL (h : SqL K H p xs) (ha : atI xs i = some v) (q : Q v H) : rIxL K (.ref p) (.int i) H Q := ⟨p, xs, i, v, rfl, rfl, h, ha, q⟩
theorem w_ixT (h : H p = some (.tup xs)) (ha : atI xs i = some v) (q : Q v H) : rIxT K (.ref p) (.int i) H Q := ⟨p, xs, i, v, rfl, rfl, sqT h, ha, q⟩
theorem w_ixS {c : Nat} (h : z.length ≤ sizeLine) (ha : atI z.cps.toList i = some c) (q : Q (.str ⟨#[c]⟩) H) : rIxS (.str z) (.int i) H Q := ⟨z, i, c, rfl, rfl, h, ha, q⟩
theorem w_setL {k : Nat} {P : Hp → Prop} (h : H p = some (.lst xs)) (ha : ixN xs.length i = some k) (q : ∀ H', Chg [p] H H' → H' p = some (.lst (xs.set k v)) → P H') : rSetL (.ref p) (.int i) v H P :=
  ⟨p, xs, i, k, rfl, rfl, h, ha, q _ (.mut h fun _ z => nomatch z) upd_same⟩
theorem w_max (q : Q (.int (if j > i then j else i)) H) : cMax [.int i, .int j] H Q := ⟨i, j, rfl, q⟩
theorem w_min (q : Q (.int (if j < i then j else i)) H) : cMin [.int i, .int j] H Q := ⟨i, j, rfl, q⟩
theorem w_abs (q : Q (.int (if i < 0 then -i else i)) H) : cAbs [.int i] H Q := ⟨i, rfl, q⟩
theorem w_intB (q : Q (.int (if b then 1 else 0)) H) : cInt [.bl b] H Q := .inr ⟨b, rfl, q⟩
theorem w_intI (q : Q (.int i) H) : cInt [.int i] H Q := .inl ⟨i, rfl, q⟩
theorem w_strI (h : i.natAbs.log2 < 1920) (q : Q (.str (toString i)) H) : cStrI [.int i] H Q := ⟨i, rfl, h, q⟩
theorem w_lenL (h : SqL K H p xs) (q : Q (.int xs.length) H) : cLenQ K [.ref p] H Q := ⟨p, xs, rfl, .inl h, q⟩
theorem w_lenT (h : H p = some (.tup xs)) (q : Q (.int xs.length) H) : cLenQ K [.ref p] H Q := ⟨p, xs, rfl, .inr (sqT h), q⟩
theorem w_lenS (h : z.length ≤ sizeLine) (q : Q (.int z.length) H) : cLenS [.str z] H Q := ⟨z, rfl, h, q⟩
theorem w_listL (h : SqL K H p xs) (q : ∀ p' H2, H p' = none → Chg [] H H2 → H2 p' = some (.lst xs) → Q (.ref p') H2) : cListQ K [.ref p] H Q := ⟨p, xs, rfl, .inl h, d_new q⟩
theorem w_all {bs : List Bool} (h : H p = some (.lst (bs.map V.bl))) (q : Q (.bl (bs.all id)) H) : rAll K [.ref p] H Q := ⟨p, bs, rfl, sqL h, q⟩
theorem w_append (h : H p = some (.lst xs)) (hl : xs.length < sizeLine) (q : ∀ H', Chg [p] H H' → H' p = some (.lst (xs ++ [y])) → Q .non H') : rAppend (.ref p) [y] H Q :=
  ⟨p, xs, y, rfl, rfl, h, hl, q _ (.mut h fun _ z => nomatch z) upd_same⟩
theorem w_bm {T : String} {rm : V → List V → Hp → VK → Prop} (h : te σ H fun x H1 => tyV K T x H1 ∧ tr σ H1 fun ys H2 => rm x ys H2 Q) : tBM K T rm te tr σ H Q := h
theorem w_bm0 {T : String} {rm : V → List V → Hp → VK → Prop} (h : te σ H fun x H1 => tyV K T x H1 ∧ rm x [] H1 Q) : tBM0 K T rm te σ H Q := h
theorem w_tyL {A : Prop} (h : H p = some (.lst xs)) (q : A) : tyV K "list" (.ref p) H ∧ A := ⟨.inl ⟨rfl, _, sqL h⟩, q⟩
theorem w_part (h : te σ H fun x H1 => ∃ i, x = .int i ∧ QO (some i) H1) : tPart te σ H QO := h
theorem w_isint {P : Int → Prop} (q : P i) : ∃ k, V.int i = .int k ∧ P k := ⟨i, rfl, q⟩
theorem w_noPart (h : QO none H) : tNoPart σ H QO := h
theorem w_sl {rs : V → Option Int → Option Int → Hp → VK → Prop} {tl th : TO} (h : te σ H fun x H1 => tl σ H1 fun l H2 => th σ H2 fun u H3 => rs x l u H3 Q) : tSl rs te tl th σ H Q := h
theorem w_slS {lo hi : Option Int} (h : z.length ≤ sizeLine) (q : Q (.str (cutS z lo hi)) H) : rSlS (.str z) lo hi H Q := ⟨z, rfl, h, q⟩
/-- tests -/
theorem w_iteT {A B : Prop} (h : A) : if true = true then A else B := iteT h
theorem w_iteF {A B : Prop} (h : B) : if false = true then A else B := iteF h
theorem w_iteB {A B : Prop} (h1 : b = true → A) (h2 : b = false → B) : if b = true then A else B := by
  cases b with
  | true => exact iteT (h1 rfl)
  | false => exact iteF (h2 rfl)
theorem w_iteD {P A B : Prop} [Decidable P] (h1 : P → A) (h2 : ¬ P → B) : if decide P = true then A else B := w_iteB (fun e => h1 (of_decide_eq_true e)) (fun e => h2 (of_decide_eq_false e))
theorem w_iteN {A B : Prop} (h : if b = true then B else A) : if (!b) = true then A else B := by cases b <;> simpa using h
theorem w_iteYes {A B : Prop} (e : b = true) (h : A) : if b = true then A else B := by rw [e]; exact iteT h
theorem w_iteNo {A B : Prop} (e : b = false) (h : B) : if b = true then A else B := by rw [e]; exact iteF h
end
section
variable {K : PySem.W.Frag} {σ : L2.St} {H : Hp} {D : Ends} {td ty tv : TE} {p : Addr} {v : V} {k : Key} {kvs : List (Key × V)}
theorem w_dput (h : tv σ H fun v H1 => td σ H1 fun x H2 => ty σ H2 fun y H3 => ∃ a H4, x = .ref a ∧ DPut H3 a y v H4 ∧ D.nx σ H4) : sDPut td ty tv D σ H := h
end
theorem at0 {α : Type} {x0 : α} {xs : List α} : atI (x0 :: xs) 0 = some x0 := atI_nat (j := 0) rfl
theorem at1 {α : Type} {x0 x1 : α} {xs : List α} : atI (x0 :: x1 :: xs) 1 = some x1 := atI_nat (j := 1) rfl
theorem at2 {α : Type} {x0 x1 x2 : α} {xs : List α} : atI (x0 :: x1 :: x2 :: xs) 2 = some x2 := atI_nat (j := 2) rfl
theorem at3 {α : Type} {x0 x1 x2 x3 : α} {xs : List α} : atI (x0 :: x1 :: x2 :: x3 :: xs) 3 = some x3 := atI_nat (j := 3) rfl
theorem atN {α : Type} {xs : List α} {i : Int} {v : α} (h0 : 0 ≤ i) (h : xs[i.toNat]? = some v) : atI xs i = some v := by
  have e : ((i.toNat : Nat) : Int) = i := by omega
  have q := atI_nat (xs := xs) h
  rw [e] at q
  exact q
/-- at a drawn place -/
theorem atD {α : Type} {xs : List α} {i : Int} (h0 : 0 ≤ i) (h1 : i < xs.length) : ∃ v, atI xs i = some v ∧ v ∈ xs := by
  have hl : i.toNat < xs.length := by omega
  exact ⟨xs[i.toNat], atN h0 (List.getElem?_eq_getElem hl), List.getElem_mem hl⟩
end
section
/-- what holds ahead of the i-th turn: D the new list, Iv by the address, the turn, the list so far, the heap -/
def LcP (D : Addr) (Iv : Addr → Nat → List V → Hp → Prop) (i : Nat) : Hp → Prop := fun H5 => ∃ acc, acc.length = i ∧ H5 D = some (.lst acc) ∧ Iv D i acc H5
/-- what is wanted of an item -/
def LcK (D : Addr) (Iv : Addr → Nat → List V → Hp → Prop) (i : Nat) : VK := fun y H4 => ∃ acc, H4 D = some (.lst acc) ∧ acc.length < sizeLine ∧ LcP D Iv (i + 1) (upd H4 D (.lst (acc ++ [y])))
theorem lc_end {D : Addr} {Iv : Addr → Nat → List V → Hp → Prop} {i : Nat} {y : V} {H4 : Hp} {acc : List V} (h : H4 D = some (.lst acc)) (hl : acc.length = i) (hz : i ≤ 100000) (q : ∀ H5, Chg [D] H4 H5 → H5 D = some (.lst (acc ++ [y])) → Iv D (i + 1) (acc ++ [y]) H5) : LcK D Iv i y H4 := by
  subst hl
  exact ⟨acc, h, Nat.lt_of_le_of_lt hz (by decide), acc ++ [y], by simp, upd_same, q _ (.mut h fun _ e => nomatch e) upd_same⟩
theorem w_lcW {J : It} {n : Nat} {G : Hp → Prop} {Y : Nat → Hp → V → Hp → Prop} {g : TG} {te : TE} {tt : TT} {vs : List Nat} {σ : L2.St} {H : Hp} {Q : Addr → Hp → Prop} (w : L2.Walk J n G Y) (Iv : Addr → Nat → List V → Hp → Prop)
    (h0 : ∀ D H1, H D = none → Chg [] H H1 → H1 D = some (.lst []) → Iv D 0 [] H1) (hG : ∀ D i acc H1, i ≤ n → H D = none → Iv D i acc H1 → G H1)
    (hs : ∀ D i acc x H1 H2, i < n → H D = none → H1 D = some (.lst acc) → acc.length = i → Iv D i acc H1 → Y i H1 x H2 → g x (wipe σ vs) H2 fun σ2 H3 => wipe σ2 vs = wipe σ vs ∧
      tt σ2 H3 fun b H3 => if b = true then te σ2 H3 (LcK D Iv i) else LcP D Iv (i + 1) H3)
    (hd : ∀ D acc H1, H D = none → acc.length = n → H1 D = some (.lst acc) → Iv D n acc H1 → Q D H1) :
    ∀ D, H D = none → ∃ W : Nat → Nat → Hp → Prop, (∃ m, W 0 m (upd H D (.lst []))) ∧ ∀ i m H, W i m H →
      (J.stop i H ∧ Q D H) ∨ (J.go i H ∧ ∃ Nx : Hp → Prop, (∀ H', Nx H' → ∃ m', m' < m ∧ W (i + 1) m' H') ∧ ∀ x H', J.yld i H x H' → g x (wipe σ vs) H' fun σ2 H2 => wipe σ2 vs = wipe σ vs ∧ tt σ2 H2 fun b H3 =>
        if b = true then te σ2 H3 fun y H4 => ∃ acc, H4 D = some (.lst acc) ∧ acc.length < sizeLine ∧ Nx (upd H4 D (.lst (acc ++ [y]))) else Nx H3) := by
  intro D nD
  refine lc_it w (Qd := fun H => Q D H) (LcP D Iv) ⟨[], rfl, upd_same, h0 D _ nD (.new nD) upd_same⟩ (fun i H1 hi ⟨acc, _, _, q⟩ => hG D i acc H1 hi nD q) (fun i x H1 H2 hi hp y => ?_) (fun H1 ⟨acc, e, h, q⟩ => hd D acc H1 nD e h q)
  obtain ⟨acc, e, h, q⟩ := hp
  exact hs D i acc x H1 H2 hi nD h e q y
/-- each turn only makes new things (or changes M): Ys tells what the i-th is, Jv what else holds -/
def IvP (H : Hp) (M : List Addr) (Jv : Nat → Hp → Prop) (Ys : Nat → V → Hp → Prop) : Addr → Nat → List V → Hp → Prop := fun _ i acc H1 => Chg M H H1 ∧ Jv i H1 ∧ ∀ j y, acc[j]? = some y → Ys j y H1
theorem lcp_end {H : Hp} {M : List Addr} {Jv : Nat → Hp → Prop} {Ys : Nat → V → Hp → Prop} {D : Addr} {i : Nat} {y : V} {acc : List V} {H1 H4 : Hp} (jst : ∀ i H1 H2 p, H p = none → Chg [p] H1 H2 → Jv i H1 → Jv i H2)
    (yst : ∀ i y H1 H2 p, H p = none → Chg (p :: M) H1 H2 → Ys i y H1 → Ys i y H2) (nD : H D = none) (hM : ∀ a ∈ M, H a ≠ none) (hD : H1 D = some (.lst acc)) (hl : acc.length = i) (hz : i ≤ 100000) (iv : IvP H M Jv Ys D i acc H1)
    (c : Chg M H1 H4) (jq : Jv (i + 1) H4) (yq : Ys i y H4) : LcK D (IvP H M Jv Ys) i y H4 := by
  obtain ⟨c0, _, q⟩ := iv
  refine lc_end (c.keep _ _ hD fun hm => hM D hm nD) hl hz fun H5 c5 h5 => ⟨?_, jst _ _ _ D nD c5 jq, fun j y' e => ?_⟩
  · exact (c0.both c).go c5 fun a ha => .inr (by rw [List.mem_singleton.mp ha]; exact nD)
  · by_cases hj : j < acc.length
    · rw [List.getElem?_append_left hj] at e
      exact yst j y' H4 H5 D nD (c5.wide (by simp)) (yst j y' H1 H4 D nD (c.wide (by intro a ha; exact List.mem_cons_of_mem _ ha)) (q j y' e))
    · have hj2 : j = acc.length := by
        have := (List.getElem?_eq_some_iff.mp e).1
        rw [List.length_append, List.length_singleton] at this
        omega
      subst hj2
      rw [List.getElem?_append_right (Nat.le_refl _), Nat.sub_self] at e
      cases (Option.some.inj (show some y = some y' from e))
      rw [hl]
      exact yst i y H4 H5 D nD (c5.wide (by simp)) yq
theorem w_lcP {J : It} {n : Nat} {G : Hp → Prop} {Y : Nat → Hp → V → Hp → Prop} {g : TG} {te : TE} {tt : TT} {vs : List Nat} {σ : L2.St} {H : Hp} {Q : Addr → Hp → Prop} (w : L2.Walk J n G Y) (M : List Addr) (Jv : Nat → Hp → Prop) (Ys : Nat → V → Hp → Prop)
    (j0 : Jv 0 H) (jst : ∀ i H1 H2 p, H p = none → Chg [p] H1 H2 → Jv i H1 → Jv i H2) (hG : ∀ H1, Chg M H H1 → G H1)
    (hs : ∀ D i acc x H1 H2, i < n → H D = none → H1 D = some (.lst acc) → acc.length = i → IvP H M Jv Ys D i acc H1 → Chg M H H1 → Jv i H1 → Y i H1 x H2 → g x (wipe σ vs) H2 fun σ2 H3 => wipe σ2 vs = wipe σ vs ∧
      tt σ2 H3 fun b H3 => if b = true then te σ2 H3 (LcK D (IvP H M Jv Ys) i) else LcP D (IvP H M Jv Ys) (i + 1) H3)
    (hd : ∀ D acc H1, H D = none → Chg M H H1 → Jv n H1 → acc.length = n → H1 D = some (.lst acc) → (∀ i y, acc[i]? = some y → Ys i y H1) → Q D H1) :
    ∀ D, H D = none → ∃ W : Nat → Nat → Hp → Prop, (∃ m, W 0 m (upd H D (.lst []))) ∧ ∀ i m H, W i m H →
      (J.stop i H ∧ Q D H) ∨ (J.go i H ∧ ∃ Nx : Hp → Prop, (∀ H', Nx H' → ∃ m', m' < m ∧ W (i + 1) m' H') ∧ ∀ x H', J.yld i H x H' → g x (wipe σ vs) H' fun σ2 H2 => wipe σ2 vs = wipe σ vs ∧ tt σ2 H2 fun b H3 =>
        if b = true then te σ2 H3 fun y H4 => ∃ acc, H4 D = some (.lst acc) ∧ acc.length < sizeLine ∧ Nx (upd H4 D (.lst (acc ++ [y]))) else Nx H3) :=
  w_lcW w (IvP H M Jv Ys) (fun D H1 nD c _ => ⟨c.wide (by simp), jst _ _ _ D nD (c.wide (by simp)) j0, fun j y e => by simp at e⟩) (fun D i acc H1 _ _ q => hG H1 q.1) (fun D i acc x H1 H2 hi nD hD el iv y => hs D i acc x H1 H2 hi nD hD el iv iv.1 iv.2.1 y) (fun D acc H1 nD el hD ⟨c, j, q⟩ => hd D acc H1 nD c j el hD q)
section
variable {K : PySem.W.Frag} {σ : L2.St} {H : Hp} {te : TE} {tr : TA} {g : TG} {tt : TT} {vs : List Nat} {Q : VK} {a b : Addr} {xs ys : List V} {P : Prop} {RI : It → Hp → Prop} {D : Ends} {tb : TS} {wi : TI}
theorem w_lc (h : wi σ H fun J H1 => ∀ D, H1 D = none → ∃ W : Nat → Nat → Hp → Prop, (∃ m, W 0 m (upd H1 D (.lst []))) ∧ ∀ i m H, W i m H →
  (J.stop i H ∧ Q (.ref D) H) ∨ (J.go i H ∧ ∃ Nx : Hp → Prop, (∀ H', Nx H' → ∃ m', m' < m ∧ W (i + 1) m' H') ∧ ∀ x H', J.yld i H x H' → g x (wipe σ vs) H' fun σ2 H2 => wipe σ2 vs = wipe σ vs ∧ tt σ2 H2 fun b H3 =>
    if b = true then te σ2 H3 fun y H4 => ∃ acc, H4 D = some (.lst acc) ∧ acc.length < sizeLine ∧ Nx (upd H4 D (.lst (acc ++ [y]))) else Nx H3)) : tLc wi g tt te vs σ H Q := h
theorem w_for (h : wi σ H fun J H1 => ∃ W : Nat → Nat → L2.St → Hp → Prop, (∃ m, W 0 m σ H1) ∧ ∀ i m σ H, W i m σ H →
  (J.stop i H ∧ D.nx σ H) ∨ (J.go i H ∧ ∃ N : L2.St → Hp → Prop, (∀ σ' H', N σ' H' → ∃ m', m' < m ∧ W (i + 1) m' σ' H') ∧ ∀ x H', J.yld i H x H' → g x σ H' fun σ2 H2 => tb { D with nx := N, ct := N, bk := D.nx } σ2 H2)) : tFor wi g tb D σ H := h
theorem w_yes {QB : Bool → Hp → Prop} (h : QB true H) : tYes σ H QB := h
theorem w_wipe {σ2 : L2.St} (h : wipe σ2 vs = wipe σ vs) (q : P) : wipe σ2 vs = wipe σ vs ∧ P := ⟨h, q⟩
theorem w_iList (h : te σ H fun x H1 => ∃ a, x = .ref a ∧ (∃ xs, SqL K H1 a xs) ∧ RI (Itl K a) H1) : iList K te σ H RI := h
theorem w_iTup (h : te σ H fun x H1 => ∃ a, x = .ref a ∧ (∃ xs, SqT K H1 a xs) ∧ RI (Itt K a) H1) : iTup K te σ H RI := h
theorem d_iList {A : Addr → Prop} (h : SqL K H a xs) (q : A a) : ∃ a', V.ref a = .ref a' ∧ (∃ xs, SqL K H a' xs) ∧ A a' := ⟨a, rfl, ⟨xs, h⟩, q⟩
theorem d_iTup {A : Addr → Prop} (h : H a = some (.tup xs)) (q : A a) : ∃ a', V.ref a = .ref a' ∧ (∃ xs, SqT K H a' xs) ∧ A a' := ⟨a, rfl, ⟨xs, sqT h⟩, q⟩
theorem w_iStr (h : te σ H fun v H1 => ∃ x, v = .str x ∧ RI (Its x) H1) : iStr te σ H RI := h
theorem d_iStr {z : Str} {A : Str → Prop} (q : A z) : ∃ x, V.str z = .str x ∧ A x := ⟨z, rfl, q⟩
theorem w_iRng1 (h : tr σ H fun vs H1 => ∃ j : Int, vs = [.int j] ∧ -(2 ^ 62) ≤ j ∧ j < 2 ^ 62 ∧ RI (Itr 0 j.toNat) H1) : iRng1 tr σ H RI := h
theorem d_iRng1 {j : Int} {A : Int → Prop} (h1 : -(2 ^ 62) ≤ j) (h2 : j < 2 ^ 62) (q : A j) : ∃ j' : Int, [V.int j] = [.int j'] ∧ -(2 ^ 62) ≤ j' ∧ j' < 2 ^ 62 ∧ A j' := ⟨j, rfl, h1, h2, q⟩
theorem w_iRng2 (h : tr σ H fun vs H1 => ∃ i j : Int, vs = [.int i, .int j] ∧ (-(2 ^ 62) ≤ i ∧ i < 2 ^ 62 ∧ -(2 ^ 62) ≤ j ∧ j < 2 ^ 62) ∧ RI (Itr i (j - i).toNat) H1) : iRng2 tr σ H RI := h
theorem d_iRng2 {i j : Int} {A : Int → Int → Prop} (h0 : -(2 ^ 62) ≤ i) (h0' : i < 2 ^ 62) (h1 : -(2 ^ 62) ≤ j) (h2 : j < 2 ^ 62) (q : A i j) : ∃ i' j' : Int, [V.int i, V.int j] = [.int i', .int j'] ∧ (-(2 ^ 62) ≤ i' ∧ i' < 2 ^ 62 ∧ -(2 ^ 62) ≤ j' ∧ j' < 2 ^ 62) ∧ A i' j' := ⟨i, j, rfl, ⟨h0, h0', h1, h2⟩, q⟩
theorem w_iZip (h : tr σ H fun vs H1 => ∃ a b xs ys, vs = [.ref a, .ref b] ∧ SqL K H1 a xs ∧ SqL K H1 b ys ∧ RI (Itz K a b) H1) : iZip K tr σ H RI := h
theorem d_iZip {A : Addr → Addr → Prop} (h : SqL K H a xs) (h' : SqL K H b ys) (q : A a b) : ∃ a' b' xs ys, [V.ref a, V.ref b] = [.ref a', .ref b'] ∧ SqL K H a' xs ∧ SqL K H b' ys ∧ A a' b' := ⟨a, b, xs, ys, rfl, h, h', q⟩
theorem w_iEnum (h : tr σ H fun vs H1 => ∃ a xs, vs = [.ref a] ∧ SqL K H1 a xs ∧ RI (Ite K a) H1) : iEnum K tr σ H RI := h
theorem d_iEnum {A : Addr → Prop} (h : SqL K H a xs) (q : A a) : ∃ a' xs, [V.ref a] = [.ref a'] ∧ SqL K H a' xs ∧ A a' := ⟨a, xs, rfl, h, q⟩
end
end
section
def letters : Str := "abcdefghijklmnopqrstuvwxyz"
def isLow (c : Nat) : Bool := decide (c ∈ letters.cps.toList)
def dInt : PyData → Bool
  | .int _ => true
  | .bool _ => true
  | _ => false
def dBool : PyData → Bool
  | .bool _ => true
  | _ => false
def dStr : PyData → Bool
  | .str _ => true
  | _ => false
def dTup : PyData → Bool
  | .tuple _ => true
  | _ => false
def dLst : PyData → Bool
  | .list _ => true
  | _ => false
def nameS (x : Str) : Bool := decide (1 ≤ x.length) && decide (x.length ≤ 8) && x.cps.toList.all isLow
def partsOf (z : Str) : Option Nat := if z = "arg" then some 0 else if z = "cell" then some 1 else if z = "add" then some 2 else if z = "less" then some 2 else if z = "least" then some 2 else none
def tyN : PyData → String
  | .none => "NoneType"
  | .bool _ => "bool"
  | .int _ => "int"
  | .str _ => "str"
  | .list _ => "list"
  | .tuple _ => "tuple"
  | .dict _ => "dict"
section
variable {K : PySem.W.Frag} {S : Addr → Prop} {H : Hp} {v : V} {d : PyData} {Q : VK}
theorem isi_of {v : V} {a b : String} {r : Bool} (t : TyX K H v (.type a)) (h : kitB a b = some r) (q : Q (.bl r) H) : rIsi K [v, .ty b] H Q := ⟨v, .ty b, _, _, r, rfl, .ty b, t, kit_ty h, q⟩
theorem R.tyx (r : R S H v d) : TyX K H v (.type (tyN d)) := by
  cases r with
  | non => exact .base .non
  | bl b => exact .base (.bl b)
  | int i => exact .base (.int i)
  | str x => exact .base (.str x)
  | lst s e r => exact .base (.lst e)
  | tup e r => exact .base (.tup e)
  | dic s e => exact .base (.dK e)
theorem w_isInt (r : R S H v d) (q : Q (.bl (dInt d)) H) : rIsi K [v, .ty "int"] H Q := by
  have t := r.tyx (K := K)
  cases d with
  | none => exact isi_of t (show kitB "NoneType" "int" = some false by decide +kernel) q
  | bool b => exact isi_of t (show kitB "bool" "int" = some true by decide +kernel) q
  | int i => exact isi_of t (show kitB "int" "int" = some true by decide +kernel) q
  | str x => exact isi_of t (show kitB "str" "int" = some false by decide +kernel) q
  | list ds => exact isi_of t (show kitB "list" "int" = some false by decide +kernel) q
  | tuple ds => exact isi_of t (show kitB "tuple" "int" = some false by decide +kernel) q
  | dict ds => exact isi_of t (show kitB "dict" "int" = some false by decide +kernel) q
theorem w_isBool (r : R S H v d) (q : Q (.bl (dBool d)) H) : rIsi K [v, .ty "bool"] H Q := by
  have t := r.tyx (K := K)
  cases d with
  | none => exact isi_of t (show kitB "NoneType" "bool" = some false by decide +kernel) q
  | bool b => exact isi_of t (show kitB "bool" "bool" = some true by decide +kernel) q
  | int i => exact isi_of t (show kitB "int" "bool" = some false by decide +kernel) q
  | str x => exact isi_of t (show kitB "str" "bool" = some false by decide +kernel) q
  | list ds => exact isi_of t (show kitB "list" "bool" = some false by decide +kernel) q
  | tuple ds => exact isi_of t (show kitB "tuple" "bool" = some false by decide +kernel) q
  | dict ds => exact isi_of t (show kitB "dict" "bool" = some false by decide +kernel) q
theorem w_isStr (r : R S H v d) (q : Q (.bl (dStr d)) H) : rIsi K [v, .ty "str"] H Q := by
  have t := r.tyx (K := K)
  cases d with
  | none => exact isi_of t (show kitB "NoneType" "str" = some false by decide +kernel) q
  | bool b => exact isi_of t (show kitB "bool" "str" = some false by decide +kernel) q
  | int i => exact isi_of t (show kitB "int" "str" = some false by decide +kernel) q
  | str x => exact isi_of t (show kitB "str" "str" = some true by decide +kernel) q
  | list ds => exact isi_of t (show kitB "list" "str" = some false by decide +kernel) q
  | tuple ds => exact isi_of t (show kitB "tuple" "str" = some false by decide +kernel) q
  | dict ds => exact isi_of t (show kitB "dict" "str" = some false by decide +kernel) q
theorem w_isTup (r : R S H v d) (q : Q (.bl (dTup d)) H) : rIsi K [v, .ty "tuple"] H Q := by
  have t := r.tyx (K := K)
  cases d with
  | none => exact isi_of t (show kitB "NoneType" "tuple" = some false by decide +kernel) q
  | bool b => exact isi_of t (show kitB "bool" "tuple" = some false by decide +kernel) q
  | int i => exact isi_of t (show kitB "int" "tuple" = some false by decide +kernel) q
  | str x => exact isi_of t (show kitB "str" "tuple" = some false by decide +kernel) q
  | list ds => exact isi_of t (show kitB "list" "tuple" = some false by decide +kernel) q
  | tuple ds => exact isi_of t (show kitB "tuple" "tuple" = some true by decide +kernel) q
  | dict ds => exact isi_of t (show kitB "dict" "tuple" = some false by decide +kernel) q
theorem w_isLst (r : R S H v d) (q : Q (.bl (dLst d)) H) : rIsi K [v, .ty "list"] H Q := by
  have t := r.tyx (K := K)
  cases d with
  | none => exact isi_of t (show kitB "NoneType" "list" = some false by decide +kernel) q
  | bool b => exact isi_of t (show kitB "bool" "list" = some false by decide +kernel) q
  | int i => exact isi_of t (show kitB "int" "list" = some false by decide +kernel) q
  | str x => exact isi_of t (show kitB "str" "list" = some false by decide +kernel) q
  | list ds => exact isi_of t (show kitB "list" "list" = some true by decide +kernel) q
  | tuple ds => exact isi_of t (show kitB "tuple" "list" = some false by decide +kernel) q
  | dict ds => exact isi_of t (show kitB "dict" "list" = some false by decide +kernel) q
end
structure Parts (K : PySem.W.Frag) (w : World) (dP : Addr) : Prop where
  kd : ∃ es n, KDict K w dP es n
  get : ∀ z k, partsOf z = some k → ∃ u, PySem.W.nsIn K dP z = some (some u) ∧ RelV (.int (k : Nat)) u
  no : ∀ z, partsOf z = none → PySem.W.nsIn K dP z = some none
section
variable {K : PySem.W.Frag} {w : World} {dP : Addr} {H : Hp} {Q : VK} {z : Str}
theorem w_notInP (T : Parts K w dP) (q : Q (.bl (!(partsOf z).isSome)) H) : oNotInKd K dP (.str z) (.ref dP) H Q := by
  cases e : partsOf z with
  | none => exact ⟨z, none, rfl, rfl, T.no z e, by rw [e] at q; exact q⟩
  | some k =>
    obtain ⟨u, e1, _⟩ := T.get z k e
    exact ⟨z, some u, rfl, rfl, e1, by rw [e] at q; exact q⟩
theorem w_ixP {k : Nat} (T : Parts K w dP) (e : partsOf z = some k) (q : Q (.int (k : Nat)) H) : rIxD K w (.ref dP) (.str z) H Q := by
  obtain ⟨u, e1, e2⟩ := T.get z k e
  obtain ⟨es, n, kd⟩ := T.kd
  exact ⟨dP, z, _, rfl, rfl, ⟨es, n, u, kd.at_, kd.lit, e1, e2⟩, q⟩
end
theorem all_bl {bs : List Bool} {acc : List V} {n : Nat} (hl : acc.length = n) (hb : bs.length = n) (h : ∀ (i : Nat) (y : V), acc[i]? = some y → ∃ b : Bool, bs[i]? = some b ∧ y = .bl b) : acc = bs.map V.bl := by
  apply List.ext_getElem?
  intro i
  rw [List.getElem?_map]
  by_cases hi : i < n
  · have e1 : acc[i]? = some acc[i] := List.getElem?_eq_getElem (by omega)
    obtain ⟨b, e2, e3⟩ := h i _ e1
    rw [e1, e2, e3]
    rfl
  · rw [List.getElem?_eq_none (by omega), List.getElem?_eq_none (by omega)]
    rfl
end
section
/-- a def that may be called by its name, with these defaults behind -/
structure Cal (P : Program) (w : World) (K : PySem.W.Frag) (mg : Str → Option Value) (base : Heap) (k : Nat) (x : Str) (sp : Sp) (dvs : List V) : Prop where
  ex : ∃ (f : Addr) (fd : FuncData) (ps : List Str) (ds : List Value), FnOk P w K mg base CX0 k f fd ps sp ∧ mg x = some (.ref f) ∧ PySem.W.keepIn K (.ref f) = true ∧ Binds K fd ps ds ∧ Vals dvs ds
section
variable {X : Cx} {k j n mm : Nat} {x m : Str} {sp : Sp} {dvs : List V} {ks : List Str} {gV : List V → List V → List V} {p pos apos : Pos} {e o : Expr} {es : List Expr} {kws : List Keyword} {ta : TE} {t tk : TA}
theorem pe_c (c : Cal X.prog X.w X.K X.mg X.base k x sp dvs) (hr : Room j X.A) (hk : k ≤ j) (hg : Gl X x) (ha : PA X (e :: es) t)
    (hdb : (x == ("__debug__" : Str)) = false := by decide) (he : starEach (e :: es) X.env = (false, eval e X.env) :: starEach es X.env := by rfl) (hpl : (backTo pos (starEach es X.env)).any (·.1) = false := by rfl) :
    PE X (.Call (.Name x p) (e :: es) [] pos) (tCall sp dvs E0 t) := by
  obtain ⟨f, fd, ps, ds, F, hm, kp, b, d⟩ := c.ex
  exact pe_call F (hr.mono hk) hg hm kp b d pass0 ha hdb he hpl
theorem pe_c0 (c : Cal X.prog X.w X.K X.mg X.base k x sp dvs) (hr : Room j X.A) (hk : k ≤ j) (hg : Gl X x) (hdb : (x == ("__debug__" : Str)) = false := by decide) :
    PE X (.Call (.Name x p) [] [] pos) (tCall sp dvs E0 tNil) := by
  obtain ⟨f, fd, ps, ds, F, hm, kp, b, d⟩ := c.ex
  exact pe_call0 F (hr.mono hk) hg hm kp b d pass0 hdb
theorem w_callN {σ : L2.St} {H : Hp} {Q : VK} {E : XK} {m : Nat} (h : t σ H fun vs H1 => tk σ H1 fun zs H2 => vs.length = n ∧ zs.length = m ∧ sp (gV vs zs) H2 Q E) : tCallN n m sp gV E t tk σ H Q := h
end
section
variable {P : Program} {w : World} {K : PySem.W.Frag} {mg : Str → Option Value} {base : Heap} {x : Str} {st : Stmt} {f : Addr} {fd : FuncData} {sp : Sp} {k : Nat}
/-- a def of the top as it stands, dvs its defaults -/
abbrev FnP (K : PySem.W.Frag) (x : Str) (st : Stmt) (dvs : List V) (f : Addr) (fd : FuncData) : Prop := FunD K x x (defArgs st) (defBody st) (defScope st) dvs [] f fd
theorem FnP.go {N ps : List Str} {dvs : List V} (F : FnP K x st dvs f fd) (S : FnScope N ps (defScope st)) (len : ∀ vs H Q E, sp vs H Q E → vs.length = ps.length) (t : TS)
    (pure : ∀ (vs : List V) (H : Hp) (Q : VK) (E : XK), sp vs H Q E → t { nx := fun _ H' => Q .non H', rt := Q } (start N vs) H)
    (hbody : ∀ (cdv : Value) (A : Around) (outer : List Env) (s : Shared) (H : Hp) (E : XK), Room k (A.deeper (envOfC x (defScope st) s.heap.objs.size f cdv)) →
      PSs (cxOf CX0 P w K mg base N x (defScope st) f cdv A outer s H E).nox (defBody st) t) : FnOk P w K mg base CX0 (k + 1) f fd ps sp :=
  F.ok S len fun cdv A outer s H vs Q E hr h => ⟨t, PSs.nox (hbody cdv A outer s H E hr), pure vs H Q E h⟩
theorem FnP.cal {ps : List Str} (F : FnP K x st [] f fd) (ok : FnOk P w K mg base CX0 k f fd ps sp) (g : mg x = some (.ref f))
    (h : ∀ (kV doc pm : Value) (an : Option Addr) (cdv ct : Value) (us : List Value), us.length = ps.length → bindArgs (PySem.W.fnOf x x (defArgs st) (defBody st) (defScope st) .none kV doc pm an cdv ct) ⟨us, []⟩ = pure (ps.zip us)) : Cal P w K mg base k x sp [] :=
  ⟨f, fd, ps, [], ok, g, F.kp, F.bindsN h, .nil⟩
end
end
section
theorem exL {α : Type} {P : α → Prop} {B : Prop} (h : ∀ x, P x → B) : (∃ x, P x) → B := fun ⟨x, hx⟩ => h x hx
end
end Fg
namespace Fg
open PySem PySem.Spec PyProof.Rows L2
local macro_rules | `(tactic| walk_at "len") => `(tactic| first | exact (fun ⟨e, _⟩ => by rw [e]; rfl) | (refine exL ?_; intro _; walk_at "len"))
open LamX
def topS (i : Nat) : Stmt := PySem.Challenge.pw_forkgather_k42_folds_and_kinds.main.body.getD i (.Pass ⟨0, 0, 0, 0⟩)
abbrev s_Kind___init__ : Stmt := inClass (topS 1) 0
abbrev s_Kind___repr__ : Stmt := inClass (topS 1) 1
abbrev s_Kind_joined : Stmt := inClass (topS 1) 2
abbrev s_Kind_worth_of : Stmt := inClass (topS 1) 3
abbrev s_Kind_fold : Stmt := inClass (topS 1) 4
abbrev s_lesser : Stmt := topS 2
abbrev s_later : Stmt := topS 3
abbrev s_summed : Stmt := topS 4
abbrev s_least : Stmt := topS 5
abbrev s_latest : Stmt := topS 6
abbrev s_strung : Stmt := topS 7
abbrev s__law_cell_at : Stmt := topS 9
abbrev s__law_bag : Stmt := topS 10
abbrev s__law_draw : Stmt := topS 11
abbrev s__law_name : Stmt := topS 12
abbrev s__law_lesser : Stmt := topS 13
abbrev s__law_apart : Stmt := topS 14
abbrev s__law_both : Stmt := topS 15
abbrev s__law_left_none : Stmt := topS 16
abbrev s__law_kind : Stmt := topS 17
abbrev s__law_made : Stmt := topS 18
abbrev s__law_fold : Stmt := topS 19
abbrev s__law_row : Stmt := topS 20
abbrev s__law_told_kinds : Stmt := topS 21
abbrev s__law_same : Stmt := topS 22
abbrev s__law_many : Stmt := topS 23
abbrev s_law : Stmt := topS 24
def d_Kind___init__ : He.DefD := ⟨("Kind", some "__init__"), "__init__", "Kind.__init__", defArgs s_Kind___init__, defBody s_Kind___init__, defScope s_Kind___init__, [.non, .str "kind"], []⟩
def d_Kind___repr__ : He.DefD := ⟨("Kind", some "__repr__"), "__repr__", "Kind.__repr__", defArgs s_Kind___repr__, defBody s_Kind___repr__, defScope s_Kind___repr__, [], []⟩
def d_Kind_joined : He.DefD := ⟨("Kind", some "joined"), "joined", "Kind.joined", defArgs s_Kind_joined, defBody s_Kind_joined, defScope s_Kind_joined, [], []⟩
def d_Kind_worth_of : He.DefD := ⟨("Kind", some "worth_of"), "worth_of", "Kind.worth_of", defArgs s_Kind_worth_of, defBody s_Kind_worth_of, defScope s_Kind_worth_of, [], []⟩
def d_Kind_fold : He.DefD := ⟨("Kind", some "fold"), "fold", "Kind.fold", defArgs s_Kind_fold, defBody s_Kind_fold, defScope s_Kind_fold, [], []⟩
def d_lesser : He.DefD := ⟨("lesser", none), "lesser", "lesser", defArgs s_lesser, defBody s_lesser, defScope s_lesser, [], []⟩
def d_later : He.DefD := ⟨("later", none), "later", "later", defArgs s_later, defBody s_later, defScope s_later, [], []⟩
def d_summed : He.DefD := ⟨("summed", none), "summed", "summed", defArgs s_summed, defBody s_summed, defScope s_summed, [], []⟩
def d_least : He.DefD := ⟨("least", none), "least", "least", defArgs s_least, defBody s_least, defScope s_least, [], []⟩
def d_latest : He.DefD := ⟨("latest", none), "latest", "latest", defArgs s_latest, defBody s_latest, defScope s_latest, [], []⟩
def d_strung : He.DefD := ⟨("strung", none), "strung", "strung", defArgs s_strung, defBody s_strung, defScope s_strung, [], []⟩
def d__law_cell_at : He.DefD := ⟨("_law_cell_at", none), "_law_cell_at", "_law_cell_at", defArgs s__law_cell_at, defBody s__law_cell_at, defScope s__law_cell_at, [], []⟩
def d__law_bag : He.DefD := ⟨("_law_bag", none), "_law_bag", "_law_bag", defArgs s__law_bag, defBody s__law_bag, defScope s__law_bag, [], []⟩
def d__law_draw : He.DefD := ⟨("_law_draw", none), "_law_draw", "_law_draw", defArgs s__law_draw, defBody s__law_draw, defScope s__law_draw, [], []⟩
def d__law_name : He.DefD := ⟨("_law_name", none), "_law_name", "_law_name", defArgs s__law_name, defBody s__law_name, defScope s__law_name, [], []⟩
def d__law_lesser : He.DefD := ⟨("_law_lesser", none), "_law_lesser", "_law_lesser", defArgs s__law_lesser, defBody s__law_lesser, defScope s__law_lesser, [], []⟩
def d__law_apart : He.DefD := ⟨("_law_apart", none), "_law_apart", "_law_apart", defArgs s__law_apart, defBody s__law_apart, defScope s__law_apart, [], []⟩
def d__law_both : He.DefD := ⟨("_law_both", none), "_law_both", "_law_both", defArgs s__law_both, defBody s__law_both, defScope s__law_both, [], []⟩
def d__law_left_none : He.DefD := ⟨("_law_left_none", none), "_law_left_none", "_law_left_none", defArgs s__law_left_none, defBody s__law_left_none, defScope s__law_left_none, [], []⟩
def d__law_kind : He.DefD := ⟨("_law_kind", none), "_law_kind", "_law_kind", defArgs s__law_kind, defBody s__law_kind, defScope s__law_kind, [], []⟩
def d__law_made : He.DefD := ⟨("_law_made", none), "_law_made", "_law_made", defArgs s__law_made, defBody s__law_made, defScope s__law_made, [], []⟩
def d__law_fold : He.DefD := ⟨("_law_fold", none), "_law_fold", "_law_fold", defArgs s__law_fold, defBody s__law_fold, defScope s__law_fold, [], []⟩
def d__law_row : He.DefD := ⟨("_law_row", none), "_law_row", "_law_row", defArgs s__law_row, defBody s__law_row, defScope s__law_row, [], []⟩
def d__law_told_kinds : He.DefD := ⟨("_law_told_kinds", none), "_law_told_kinds", "_law_told_kinds", defArgs s__law_told_kinds, defBody s__law_told_kinds, defScope s__law_told_kinds, [], []⟩
def d__law_same : He.DefD := ⟨("_law_same", none), "_law_same", "_law_same", defArgs s__law_same, defBody s__law_same, defScope s__law_same, [], []⟩
def d__law_many : He.DefD := ⟨("_law_many", none), "_law_many", "_law_many", defArgs s__law_many, defBody s__law_many, defScope s__law_many, [], []⟩
def d_law : He.DefD := ⟨("law", none), "law", "law", defArgs s_law, defBody s_law, defScope s_law, [], []⟩
def fn : List He.DefD := [d_lesser, d_later, d_summed, d_least, d_latest, d_strung, d__law_cell_at, d__law_bag, d__law_draw, d__law_name, d__law_lesser, d__law_apart, d__law_both, d__law_left_none, d__law_kind, d__law_made, d__law_fold, d__law_row, d__law_told_kinds, d__law_same, d__law_many, d_law, d_Kind___init__, d_Kind___repr__, d_Kind_joined, d_Kind_worth_of, d_Kind_fold]
def fa : List He.Fa := [.glo "lesser", .glo "later", .glo "summed", .glo "least", .glo "latest", .glo "strung", .glo "_law_cell_at", .glo "_law_bag", .glo "_law_draw", .glo "_law_name", .glo "_law_lesser", .glo "_law_apart", .glo "_law_both", .glo "_law_left_none", .glo "_law_kind", .glo "_law_made", .glo "_law_fold", .glo "_law_row", .glo "_law_told_kinds", .glo "_law_same", .glo "_law_many", .glo "law", .glo "Kind", .free "min", .free "range", .free "len", .free "max", .free "list", .free "isinstance", .free "bool", .free "str", .free "abs", .free "repr", .free "all", .cls "Kind", .noat "Kind" "joining", .noat "Kind" "none", .noat "Kind" "making", .noat "Kind" "word", .mkr "Kind", .meth "Kind" "__repr__", .meth "Kind" "joined", .meth "Kind" "worth_of", .meth "Kind" "fold"]
def tf : List He.Defn := [("summed", none), ("strung", none), ("_law_kind", none)]
def tbK (K : PySem.W.Frag) (x : Str) : Addr := (He.cT K (x, none)).2
def ex (K : PySem.W.Frag) : Bool := !(tbK K "_law_kind" == tbK K "summed") && (!(tbK K "_law_kind" == tbK K "strung") && !(tbK K "summed" == tbK K "strung"))
abbrev R0 : PySem.W.OpenRow := PySem.W.OpenLaw.row PySem.Challenge.rw_forkgather_k42_folds_and_kinds
abbrev hk : PySem.W.Hook := He.hookX 5 fa fn [] tf ex
def ob (s : PySem.W.SharedT) : He.AlX := He.obsX 5 fa fn [] tf ex (HandSHeadRun.getT s)
theorem ob_eq (s : PySem.W.SharedT) : ob s = hk.obs s.abs := He.obsX_eq (HandSHeadRun.getT_eq s)
def names : List Str := [Str.ofString "Kind", Str.ofString "lesser", Str.ofString "later", Str.ofString "summed", Str.ofString "least", Str.ofString "latest", Str.ofString "strung", Str.ofString "_law_cell_at", Str.ofString "_law_bag", Str.ofString "_law_draw", Str.ofString "_law_name", Str.ofString "_law_lesser", Str.ofString "_law_apart", Str.ofString "_law_both", Str.ofString "_law_left_none", Str.ofString "_law_kind", Str.ofString "_law_made", Str.ofString "_law_fold", Str.ofString "_law_row", Str.ofString "_law_told_kinds", Str.ofString "_law_same", Str.ofString "_law_many"]
theorem run_f (w : World) : HandSHeadRun.RunEq R0 (PySem.W.view R0.prog [24]) hk ob 5000 names (w.withFollow "special-get-raises" false) := fun os => by kernel_rfl
theorem run_t (w : World) : HandSHeadRun.RunEq R0 (PySem.W.view R0.prog [24]) hk ob 5000 names (w.withFollow "special-get-raises" true) := fun os => by kernel_rfl
theorem run (w : World) : HandSHeadRun.RunEq R0 (PySem.W.view R0.prog [24]) hk ob 5000 names w :=
  PySem.W.byRow2 "special-get-raises" (P := fun w => HandSHeadRun.RunEq R0 (PySem.W.view R0.prog [24]) hk ob 5000 names w) run_f run_t w
set_option maxHeartbeats 0 in
open PySem.W PySem.Calls in
theorem close (sp : PySem.W.Frag → Sp) (hsp : ∀ (K : PySem.W.Frag) (H : Hp) (a : Addr) (ns : List Int), ns.length ≤ 63 → H (He.cT K ("summed", none)).2 = some (.tbl #[]) → H (He.cT K ("strung", none)).2 = some (.tbl #[]) → H (He.cT K ("_law_kind", none)).2 = some (.tbl #[]) → SqL K H a (ns.map V.int) → sp K [.ref a] H (fun v _ => v = .bl true) (fun _ _ _ => False))
    (facts : ∀ {w : World} {K : PySem.W.Frag} {h : Heap} {mg : Str → Option Value} {f : Addr}, K.In h → h.Ns mainGlobals mg → mg ("law" : Str) = some (.ref f) → He.SaysX fa fn [] tf ex w h K →
      ∃ fd : FuncData, (∀ (s : Shared) (v : Value), BindsTo s fd ⟨[v], []⟩ [("script", v)]) ∧ ∀ base : Heap, K.In base → base.Ns mainGlobals mg → LamX.TabB base mg (He.cT K ("summed", none)).1 (He.cT K ("summed", none)).2 → LamX.TabB base mg (He.cT K ("strung", none)).1 (He.cT K ("strung", none)).2 → LamX.TabB base mg (He.cT K ("_law_kind", none)).1 (He.cT K ("_law_kind", none)).2 → FnOk (PySem.Challenge.rw_forkgather_k42_folds_and_kinds).prog w K mg base CX0 5 f fd ["script"] (sp K)) : PySem.Challenge.rw_forkgather_k42_folds_and_kinds.Holds := by
  w_on; o_law
  refine HandSHeadRun.head_any (r := OpenLaw.row PySem.Challenge.rw_forkgather_k42_folds_and_kinds) (q := view (OpenLaw.row PySem.Challenge.rw_forkgather_k42_folds_and_kinds).prog [24]) (H := Fg.hk) (ob := Fg.ob) (M := 5000) (loose := Fg.names) (d := HandSHeadRun.topDef (OpenLaw.row PySem.Challenge.rw_forkgather_k42_folds_and_kinds).prog 24) (kwd := []) Fg.ob_eq
    (by kernel_rfl) (fun s => by kernel_rfl) Fg.run (by kernel_rfl) (by kernel_rfl) (by kernel_rfl) (by rfl) (by first | assumption | decide +kernel) (by decide +kernel) ⟨rfl, rfl, rfl, rfl, rfl, by decide +kernel⟩ ?hw ?hc
  case hw => w_witness2
  case hc =>
    refine LamX.walk_ofTsE (l := PySem.Challenge.rw_forkgather_k42_folds_and_kinds) (n := 63) (k := 5) (x := "script") (CX := fun _ => L2.CX0) rfl (by decide) (by kernel_rfl) ⟨rfl, by decide, by decide⟩ ?F (fun _ _ _ _ _ z => z)
    intro w mg fa h Y G hmg0
    obtain ⟨K, KX, c⟩ := Y
    have hmg : mg ("law" : PySem.Str) = some (.ref fa) := by
      have e : (HandSHeadRun.topDef (OpenLaw.row PySem.Challenge.rw_forkgather_k42_folds_and_kinds).prog 24).name = ("law" : PySem.Str) := by kernel_rfl
      rw [← e]
      exact hmg0
    obtain ⟨fd, hb, hF⟩ := facts (w := w) KX G hmg c
    refine ⟨K, KX, fd, tf.map (He.cT K), sp K, fun p hp => ?_, fun p hp => ?_, fun p hp => ?_, hb, fun H a ns hl _ hT hS => hsp K H a ns hl (hT (He.cT K ("summed", none)) (List.mem_map_of_mem (by simp [tf]))) (hT (He.cT K ("strung", none)) (List.mem_map_of_mem (by simp [tf]))) (hT (He.cT K ("_law_kind", none)) (List.mem_map_of_mem (by simp [tf]))) hS, fun base hK hN hT => hF base hK hN (hT (He.cT K ("summed", none)) (List.mem_map_of_mem (by simp [tf]))) (hT (He.cT K ("strung", none)) (List.mem_map_of_mem (by simp [tf]))) (hT (He.cT K ("_law_kind", none)) (List.mem_map_of_mem (by simp [tf])))⟩
    · obtain ⟨d, hd, rfl⟩ := List.mem_map.mp hp
      exact c.empty d hd
    · obtain ⟨d, hd, rfl⟩ := List.mem_map.mp hp
      exact c.out d hd
    · obtain ⟨d, hd, rfl⟩ := List.mem_map.mp hp
      exact PySem.W.codeHd_of_K KX (c.hd d hd)
end Fg
namespace LmX
open PySem PySem.Spec PyProof.Rows L2 LamX NdefX
/-- a lambda's words, the cells that it captured, its code object -/
structure LF where
  qual : Str
  params : Arguments
  body : Expr
  scope : Scope
  cl : List (Str × Addr)
  c : Addr
abbrev LF.fd (F : LF) (pm ctv : Value) : FuncData := PySem.W.kla_fn "<lambda>" F.qual F.params F.body F.scope F.cl pm (.ref F.c) ctv
/-- the object at f is the lambda F -/
def LmO (f : Addr) (F : LF) : HO := .ext fun h => ∃ (od : Option Addr) (sl : Array (Option Value)) (pm ctv : Value), h.get? f = some (⟨.type "function", od, .func (F.fd pm ctv), sl⟩ : Obj)
theorem lmO_at {P : Program} {w : World} {H : Hp} {h : Heap} {f : Addr} {F : LF} (hok : HOk P w H h) (e : H f = some (LmO f F)) : ∃ (od : Option Addr) (sl : Array (Option Value)) (pm ctv : Value), h.get? f = some (⟨.type "function", od, .func (F.fd pm ctv), sl⟩ : Obj) := by
  obtain ⟨z, _, _⟩ := hok f _ e
  exact z
section
variable {X : Cx} {pins : List (Addr × Obj)} {σ : L2.St} {H : Hp} {s : Shared}
theorem inv_lm {F : LF} {o : Obj} {t' : Nat} {pm ctv : Value} (I : Inv X pins σ H s) (ho : o = { cls := .type "function", data := .func (F.fd pm ctv) }) :
    Inv X pins σ (upd H s.heap.objs.size (LmO s.heap.objs.size F)) { s with heap := s.heap.push o, toks := t' } := by
  subst ho
  refine I.laid (a := s.heap.objs.size) (fun b u e => Heap.get?_push_of_some _ e) (Nat.le_refl _) ?_
  have e : (s.heap.push ({ cls := .type "function", data := .func (F.fd pm ctv) } : Obj)).get? s.heap.objs.size = some ({ cls := .type "function", data := .func (F.fd pm ctv) } : Obj) := Heap.get?_push_size _ rfl
  exact ⟨⟨_, _, pm, ctv, e⟩, ⟨_, e⟩, fun h1 h2 ⟨od, sl, p, t, z⟩ st => ⟨od, sl, p, t, st _ z⟩⟩
/-- the reading of a lambda made in a def whose table is at P -/
def tLam (P : Addr) (q : Str) (mk : Addr → LF) : TE := fun _ H Q => TabS H P q ∧ ∀ (f c' : Addr) (H1 : Hp), Fg.Chg [P] H H1 → TabS H1 P q → H f = none → H1 f = some (LmO f (mk c')) → H1 c' = some (CodeO c' q) → Q (.ref f) H1
theorem pe_lam {c P : Addr} {q : Str} {params : Arguments} {body : Expr} {scope : Scope} {pos : Pos} {mk : Addr → LF} (TB : TabB X.base X.mg c P) (hcode : X.env.code = .ref c) (hq : X.env.qual ++ "<lambda>" = q) (hdef : defaultsOf params X.env = ([], []))
    (hfree : ∀ y ∈ scope.names, y.2 = .free → X.env.scope.names.lookup y.1 = some .cell ∨ X.env.scope.names.lookup y.1 = some .free) (hmk : ∀ c', mk c' = ⟨q, params, body, scope, cloFrom X.env.cells scope.names [], c'⟩) : PE X (.Lambda params body scope pos) (tLam P q mk) := by
  refine ⟨fun pins s σ H Q I h => ?_⟩
  obtain ⟨hT, h⟩ := h
  subst hq
  have hfr : ∀ y ∈ scope.names, y.2 = .free → ∃ c, X.env.cells.lookup y.1 = some c := fun y hy e => (hfree y hy e).elim (fun z => I.ok.has _ (.inl z)) fun z => I.ok.has _ (.inr z)
  obtain ⟨ps, hP, ht, ha⟩ := id hT
  refine PySem.W.kla_eval hdef ?_
  have bP : s.heap.BuiltinsAt X.mg P := TB.bm.keeps I.bk
  have hP' : s.heap.get? P = some { cls := .none, data := .fields ps } := I.hok P _ hP
  have nt : ∀ {b : Addr} {xs : List V}, H b = some (.tup xs) → b ≠ P := fun e z => by rw [z, hP] at e; cases e
  cases hc : codeAmong pos ps.toList with
  | none =>
    refine PySem.W.kla_makeFunction (mg := X.mg) (c := c) (P := P) (ps := ps) (closure_ok hfr) I.ok.glob (I.mod.glob.keeps I.bk) hcode (TB.code.keeps I.bk) hP' ht hc TB.gP bP fun c' ctv h' tk hx hge hlt hrec htb => ?_
    obtain ⟨c2, oc, vs, t, e2, hoc, hd, hv⟩ := hrec
    cases e2
    have nC : H c' = none := I.hok.fresh hge
    have I1 := inv_table (t' := tk) (more := #[rawInt pos.line, rawInt pos.col, .ref c']) (h' := h') I hP (fun b o hb e => hx b o hb e) htb hge ⟨oc, vs, t, hoc, hd, hv⟩
    have nF := I1.hok.fresh (Nat.le_refl _)
    have hsz : s.heap.objs.size ≤ h'.objs.size := Nat.le_trans hge (Nat.le_of_lt hlt)
    have I2 := inv_lm (F := ⟨X.env.qual ++ "<lambda>", params, body, scope, cloFrom X.env.cells scope.names [], c'⟩) (t' := tk) (pm := (X.mg "__name__").getD .none) (ctv := ctv) I1 rfl
    have eL : (ps ++ #[rawInt pos.line, rawInt pos.col, .ref c']).toList = ps.toList ++ [rawInt pos.line, rawInt pos.col, .ref c'] := by simp
    have keep : ∀ b o, H b = some o → b ≠ P → upd (upd (upd H P (.tbl (ps ++ #[rawInt pos.line, rawInt pos.col, .ref c']))) c' (CodeO c' (X.env.qual ++ "<lambda>"))) h'.objs.size (LmO h'.objs.size ⟨X.env.qual ++ "<lambda>", params, body, scope, cloFrom X.env.cells scope.names [], c'⟩) b = some o := fun b o e n => by
      have e1 : upd (upd H P (.tbl (ps ++ #[rawInt pos.line, rawInt pos.col, .ref c']))) c' (CodeO c' (X.env.qual ++ "<lambda>")) b = some o := by
        rw [upd_ne (ne_of_none e nC), upd_ne n]
        exact e
      exact (upd_ne (ne_of_none e1 nF)).trans e1
    refine ⟨.ref h'.objs.size, _, I2, rfl, h h'.objs.size c' _ ⟨fun b o e n => keep b o e (by simpa using n), fun b e => upd_none (upd_none (upd_none e)), fun b xs e => keep b _ e (nt e)⟩ ?_ (I.hok.fresh hsz) (by rw [upd_same, hmk]) ?_⟩
    · have hPc : upd (upd H P (.tbl (ps ++ #[rawInt pos.line, rawInt pos.col, .ref c']))) c' (CodeO c' (X.env.qual ++ "<lambda>")) P = some (.tbl (ps ++ #[rawInt pos.line, rawInt pos.col, .ref c'])) := by rw [upd_ne (ne_of_none hP nC), upd_same]
      refine ⟨_, (upd_ne (ne_of_none hPc nF)).trans hPc, by rw [eL]; exact PySem.TriplesOk_snoc _ _ _ _ ht, fun p' cv hcv => ?_⟩
      rw [eL] at hcv
      rcases among_app _ ht hcv with z | z
      · obtain ⟨c0, e1, e2⟩ := ha p' cv z
        exact ⟨c0, e1, keep _ _ e2 (fun z => by rw [z, hP] at e2; exact codeO_ne _ (Option.some.inj e2).symm)⟩
      · exact ⟨c', z, (upd_ne (Nat.ne_of_lt hlt)).trans upd_same⟩
    · exact (upd_ne (Nat.ne_of_lt hlt)).trans upd_same
  | some cv =>
    obtain ⟨c', e, hco⟩ := ha pos cv hc
    subst e
    refine PySem.W.kla_makeFunctionHit (mg := X.mg) (c := c) (P := P) (ps := ps) (closure_ok hfr) I.ok.glob (I.mod.glob.keeps I.bk) hcode (TB.code.keeps I.bk) hP' ht hc bP fun ctv h' tk hx hsz => ?_
    have I1 : Inv X pins σ H { s with heap := h', toks := tk } := I.kept hx
    have nF : H h'.objs.size = none := I1.hok.fresh (Nat.le_refl _)
    have I2 := inv_lm (F := ⟨X.env.qual ++ "<lambda>", params, body, scope, cloFrom X.env.cells scope.names [], c'⟩) (t' := tk) (pm := (X.mg "__name__").getD .none) (ctv := ctv) I1 rfl
    have ext : ∀ b o, H b = some o → upd H h'.objs.size (LmO h'.objs.size ⟨X.env.qual ++ "<lambda>", params, body, scope, cloFrom X.env.cells scope.names [], c'⟩) b = some o := fun b o e => (upd_ne (ne_of_none e nF)).trans e
    exact ⟨.ref h'.objs.size, _, I2, rfl, h h'.objs.size c' _ ⟨fun b o e _ => ext b o e, fun b e => upd_none e, fun b xs e => ext b _ e⟩ (hT.ext ext) nF (by rw [upd_same, hmk]) (ext _ _ hco)⟩
end
/-- CV f vs H Q: f may be called with vs, and tells what Q says -/
structure CvOk (P : Program) (w : World) (K : PySem.W.Frag) (mg : Str → Option Value) (base : Heap) (k : Nat) (CV : Addr → List V → Hp → VK → Prop) : Prop where
  at_ : ∀ {f : Addr} {vs : List V} {H : Hp} {Q : VK} {h : Heap}, HOk P w H h → K.In h → CV f vs H Q → PySem.W.FnAt f h
  run : ∀ (A : Around) (outer : List Env) (s : Shared) (H : Hp) (f : Addr) (us : List Value) (vs : List V) (Q : VK), Room k A → Env0 P w K mg base A outer s H → Vals vs us → CV f vs H Q → codeAny (model P w) A (.call (.ref f) ⟨us, []⟩) (CR L2.CX0 outer P w H s Q L2.E0) s
def tCallV (CV : Addr → List V → Hp → VK → Prop) (i : Nat) (t : TA) : TE := fun σ H Q => ∃ f, σ[i]? = some (some (.ref f)) ∧ t σ H fun vs H1 => CV f vs H1 Q
section
variable {X : Cx} {CV : Addr → List V → Hp → VK → Prop} {i j k : Nat} {x : Str} {t : TA} {e : Expr} {es : List Expr} {p pos : Pos}
theorem callWith_V {M : Model} {A : Around} {Q : Value → Shared → Prop} {E : Value → Shared → Prop} {s : Shared} {f : Addr} {env : Env} {rest : List Expr} (h : wpAny M A (spliced (backTo pos (starEach (e :: rest) env))) (fun vs s₁ => PySem.W.FnAt f s₁.heap ∧ wpAny M A (call (.ref f) vs) Q E s₁) E s)
    (he : starEach (e :: rest) env = (false, eval e env) :: starEach rest env) (hplain : (backTo pos (starEach rest env)).any (·.1) = false) :
    wpAny M A (callWith pos (.ref f) [] (backTo pos (starEach (e :: rest) env)) []) Q E s := by
  rw [he] at h ⊢
  exact PySem.W.callWith_of (by show ((false || (backTo pos (starEach rest env)).any (·.1)) || false) = false; rw [hplain]; rfl) PySem.W.keeps_F (PySem.Calls.evalArgs_plain h)
theorem run_v {pins : List (Addr × Obj)} {σ : L2.St} {H : Hp} {s : Shared} {Q : VK} {f : Addr} {us : List Value} {vs : List V} (c : CvOk X.prog X.w X.K X.mg X.base k CV) (hr : Room j X.A) (hk : k ≤ j) (I : Inv X pins σ H s) (r : Vals vs us) (q : CV f vs H Q) :
    wpAny (model X.prog X.w) X.A (call (.ref f) us) (EP X pins σ Q) X.xe s := by
  refine wpAny_call (codeAny_mono (c.run X.A X.stack s H f us vs Q (hr.mono hk) I.env0 r q) fun r s' hq => ?_)
  cases r with
  | error e => exact (L2.pass0 (X := X) pins σ H s e s' I hq)
  | ok fl =>
    cases fl with
    | ret u => exact I.after hq
    | next => exact False.elim hq
    | brk => exact False.elim hq
    | cont => exact False.elim hq
theorem pe_callv (c : CvOk X.prog X.w X.K X.mg X.base k CV) (hr : Room j X.A) (hk : k ≤ j) (hN : X.N[i]? = some x) (hv : Vis X.env.scope x) (ha : PA X (e :: es) t)
    (hd : (x == ("__debug__" : Str)) = false := by decide) (hcd : (x == ("__classdict__" : Str)) = false := by decide)
    (he : starEach (e :: es) X.env = (false, eval e X.env) :: starEach es X.env := by rfl) (hpl : (backTo pos (starEach es X.env)).any (·.1) = false := by rfl) :
    PE X (.Call (.Name x p) (e :: es) [] pos) (tCallV CV i t) := by
  refine ⟨fun pins s σ H Q I h => ?_⟩
  obtain ⟨f, hs, ht⟩ := h
  refine wpAny_Call_Name_kw (thn ((pe_var (pos := p) hN hv hd hcd).run pins s σ H (fun v H1 => v = .ref f ∧ H1 = H) I ⟨.ref f, hs, rfl, rfl⟩) fun u s1 ⟨v, H1, I1, r1, q1⟩ => ?_)
  obtain ⟨ev, eH⟩ := q1
  subst ev
  rw [eH] at I1
  obtain rfl : u = Value.ref f := r1
  refine callWith_V (f := f) (thn (ha.run pos pins s1 σ H _ I1 ht) fun us s2 ⟨vs, H2, I2, r, q⟩ => ⟨c.at_ I2.hok I2.kIn q, ?_⟩) he hpl
  exact run_v c hr hk I2 r q
end
end LmX
namespace LmX
open PySem PySem.Spec PyProof.Rows L2 LamX NdefX
/-- a lambda that captures nothing, as a nested def with the same frame -/
abbrev nfOf (q : Str) (params : Arguments) (scope : Scope) (c : Addr) : NF := ⟨"<lambda>", q, params, [], scope, [], c⟩
structure LmOk (P : Program) (w : World) (K : PySem.W.Frag) (mg : Str → Option Value) (base : Heap) (k : Nat) (mk : Addr → LF) (sp : Sp) : Prop where
  run : ∀ (f c' : Addr) (A : Around) (outer : List Env) (s : Shared) (H : Hp) (us : List Value) (vs : List V) (Q : VK), Room k A → Env0 P w K mg base A outer s H → H f = some (LmO f (mk c')) → H c' = some (CodeO c' (mk c').qual) →
    Vals vs us → sp vs H Q L2.E0 → codeAny (model P w) A (.call (.ref f) ⟨us, []⟩) (CR L2.CX0 outer P w H s Q L2.E0) s
section
variable {P : Program} {w : World} {K : PySem.W.Frag} {mg : Str → Option Value} {base : Heap} {k j : Nat} {mk : Addr → LF} {sp : Sp}
theorem LmOk.mono (o : LmOk P w K mg base j mk sp) (h : j ≤ k) : LmOk P w K mg base k mk sp := ⟨fun f c' A outer s H us vs Q hr => o.run f c' A outer s H us vs Q (hr.mono h)⟩
theorem cells_nil {s : Shared} {H : Hp} : CellsAt [] [] [] s.heap H := ⟨rfl, (fun y c e => by cases e), (fun x y c e => by cases e), (fun i y e => by cases e)⟩
/-- THE RULE: a lambda by its body -/
theorem lmok_of {N ps : List Str} {q : Str} {params : Arguments} {body : Expr} {scope : Scope} (hmk : ∀ c', mk c' = ⟨q, params, body, scope, [], c'⟩) (S : NScope N ps [] scope)
    (hb : ∀ (pm cdv ctv : Value) (us : List Value), us.length = ps.length → bindArgs (PySem.W.kla_fn "<lambda>" q params body scope [] pm cdv ctv) ⟨us, []⟩ = pure (ps.zip us)) (len : ∀ vs H Q E, sp vs H Q E → vs.length = ps.length) (t : TE)
    (pure : ∀ (vs : List V) (H : Hp) (Q : VK), sp vs H Q L2.E0 → t (startF N vs []) H Q)
    (hbody : ∀ (f c' : Addr) (A : Around) (outer : List Env) (s : Shared) (H : Hp), Room k (A.deeper (envF (nfOf q params scope c') f s.heap.objs.size)) → PE (ncx L2.CX0 P w K mg base N (nfOf q params scope c') f A outer s H L2.E0).nox body t) : LmOk P w K mg base (k + 1) mk sp := by
  refine ⟨fun f c' A outer s H us vs Q hr e0 hf hc r hsp => ?_⟩
  have hl := len _ _ _ _ hsp
  have lim : s.heap.NoLimit := e0.mod.nolimit.keeps fun b o e => (e0.bs b o e).1
  rw [hmk c'] at hf hc
  obtain ⟨od, sl, pm, ctv, ho⟩ := lmO_at e0.hok hf
  refine PySem.W.kla_callFunE hr.depth ho rfl S.co S.gen rfl (codeO_at e0.hok hc) ?_
  rw [hb pm (.ref c') ctv us (by rw [← r.length]; exact hl)]
  refine wpAny_pure (wpAny_newFunctionEnv S.nocell (fun ⟨n, _⟩ hy => S.par n (List.of_mem_zip hy).1) (fun h₁ hns hsb => ⟨lim.fresh _ hsb, ?_⟩) S.kind)
  show codeAny _ _ (.expr body (envF (nfOf q params scope c') f s.heap.objs.size)) _ _
  have kp : ∀ b o, s.heap.get? b = some o → h₁.get? b = some o := fun b o e => hsb.extBut b o (Nat.ne_of_lt (Heap.lt_size e)) (Heap.get?_push_of_some _ e)
  have I : Inv (ncx L2.CX0 P w K mg base N (nfOf q params scope c') f A outer s H L2.E0) [] (startF N vs []) H { s with heap := h₁, toks := s.toks + (ps.zip us).length } := inv_startN S hr.hd e0 hl r cells_nil hns kp
  refine PySem.W.kla_codeExpr (wpAny_mono ((PE.nox (hbody f c' A outer s H (hr.deeper _))).run [] _ _ H Q I (pure vs H Q hsp)) (fun v s' hq => ?_) fun e s' hq => hq)
  obtain ⟨w', H', J, rv, q'⟩ := hq
  exact ⟨w', H', J.os, J.bare, J.base, J.hok, rv, q'⟩
end
def CVk (L : Nat → Addr → LF) (n : Nat) (lsp : Nat → Sp) (SF : List (Addr × Sp)) (f : Addr) (vs : List V) (H : Hp) (Q : VK) : Prop :=
  (∃ (j : Nat) (c' : Addr), j < n ∧ H f = some (LmO f (L j c')) ∧ H c' = some (CodeO c' (L j c').qual) ∧ lsp j vs H Q L2.E0) ∨ ∃ p ∈ SF, f = p.1 ∧ p.2 vs H Q L2.E0
section
variable {P : Program} {w : World} {K : PySem.W.Frag} {mg : Str → Option Value} {base : Heap} {k : Nat}
theorem cvok_of {L : Nat → Addr → LF} {n : Nat} {lsp : Nat → Sp} {SF : List (Addr × Sp)} (hL : ∀ j, j < n → LmOk P w K mg base k (L j) (lsp j))
    (hS : ∀ p ∈ SF, ∃ (fd : FuncData) (ps : List Str), FnOk P w K mg base L2.CX0 k p.1 fd ps p.2 ∧ Binds K fd ps [] ∧ ∃ oc od osl, K.lookup p.1 = some ⟨oc, od, .func fd, osl⟩) : CvOk P w K mg base k (CVk L n lsp SF) := by
  refine ⟨fun {f vs H Q h} hok hK q => ?_, fun A outer s H f us vs Q hr e0 r q => ?_⟩
  · rcases q with ⟨j, c', hj, hf, _, _⟩ | ⟨p, hp, rfl, _⟩
    · obtain ⟨od, sl, pm, ctv, ho⟩ := lmO_at hok hf
      exact ⟨_, od, _, sl, ho⟩
    · obtain ⟨fd, ps, _, _, oc, od, osl, lk⟩ := hS p hp
      exact ⟨oc, od, fd, osl, hK _ _ lk⟩
  · rcases q with ⟨j, c', hj, hf, hc, hsp⟩ | ⟨p, hp, rfl, hsp⟩
    · exact (hL j hj).run f c' A outer s H us vs Q hr e0 hf hc r hsp
    · obtain ⟨fd, ps, F, hb, _⟩ := hS p hp
      have KX : K.In s.heap := e0.mod.kin.keeps fun b o e => (e0.bs b o e).1
      have hl := F.len _ _ _ _ hsp
      have hB := hb s us KX (by rw [List.append_nil]; rw [← r.length]; exact hl)
      rw [List.append_nil] at hB
      exact F.run A outer s H ⟨us, []⟩ us vs Q L2.E0 hr e0 hB r hsp
end
end LmX
namespace LmX
open PySem PySem.Spec PyProof.Rows L2 LamX NdefX
/-- a def's table of code objects -/
def tabP (K : PySem.W.Frag) (x : Str) : Addr := (He.cT K (x, none)).2
def codP (K : PySem.W.Frag) (x : Str) : Addr := (He.cT K (x, none)).1
abbrev tJoin (ts : List TE) : TE := fun σ H Q => tJs ts Str.empty σ H fun out H1 => Q (.str out) H1
section
variable {P : Program} {w : World} {K : PySem.W.Frag} {mg : Str → Option Value} {base : Heap} {x : Str} {st : Stmt} {fd : FuncData} {sp : Sp} {k : Nat}
/-- a def that makes lambdas: its code object is known -/
theorem goT {N ps : List Str} {dvs : List V} (F : Fg.FnP K x st dvs (He.ga K x) fd) (S : FnScope N ps (L2.defScope st)) (len : ∀ vs H Q E, sp vs H Q E → vs.length = ps.length) (t : TS)
    (pure : ∀ (vs : List V) (H : Hp) (Q : VK) (E : XK), sp vs H Q E → t { nx := fun _ H' => Q .non H', rt := Q } (start N vs) H)
    (hbody : ∀ (A : Around) (outer : List Env) (s : Shared) (H : Hp) (E : XK), Room k (A.deeper (envOfC x (L2.defScope st) s.heap.objs.size (He.ga K x) (.ref (codP K x)))) →
      PSs (cxOf L2.CX0 P w K mg base N x (L2.defScope st) (He.ga K x) (.ref (codP K x)) A outer s H E).nox (L2.defBody st) t) : FnOk P w K mg base L2.CX0 (k + 1) (He.ga K x) fd ps sp := by
  obtain ⟨oc, od, dV, kV, doc, pm, an, cdv, ct, osl, rfl, lk, hcd, _, _⟩ := F.ex
  obtain ⟨c, rfl⟩ := He.codeIn_ref hcd
  have ec : codP K x = c := He.codeOf_eq (p := (x, none)) lk rfl
  refine fn_of lk hcd S len fun A outer s H vs Q E hr hsp => ⟨t, PSs.nox ?_, pure vs H Q E hsp⟩
  have := hbody A outer s H E
  rw [ec] at this
  exact this hr
end
end LmX
namespace Fg
open PySem PySem.Spec PyProof.Rows L2
section
theorem w_catA {K : PySem.W.Frag} {p q : Addr} {xs ys : List V} {H : Hp} {Q : VK} (h1 : H p = some (.tup xs)) (h2 : H q = some (.tup ys)) (hz : xs.length + ys.length ≤ 100000) (k : ∀ p' H2, Chg [] H H2 → H2 p' = some (.tup (xs ++ ys)) → Q (.ref p') H2) : rCatA K (.ref p) (.ref q) H Q := by
  refine ⟨p, q, xs, ys, rfl, rfl, sqT h1, sqT h2, Nat.le_trans hz (by decide), fun e => ?_, fun _ e => ?_, fun _ _ => d_new fun p' H2 _ c h => k p' H2 c h⟩
  · subst e
    exact k q H .refl h2
  · subst e
    exact k p H .refl (by rw [List.append_nil]; exact h1)
theorem w_cat {l b : Addr} {xs zs : List V} {H : Hp} {Q : VK} (h1 : H l = some (.lst xs)) (h2 : H b = some (.lst zs)) (hz : xs.length + zs.length ≤ 100000) (q : ∀ p H2, H p = none → Chg [] H H2 → H2 p = some (.lst (xs ++ zs)) → Q (.ref p) H2) : rCat (.ref l) (.ref b) H Q :=
  ⟨l, b, xs, zs, rfl, rfl, h1, h2, Nat.le_trans hz (by decide), fun p np => q p _ np (.new np) upd_same⟩
end
section
theorem cpow {i j : Int} (m : Nat) (h : i.natAbs < 2 ^ m) (h0 : 0 ≤ j) (h1 : (m : Int) * j ≤ 2 ^ 27) : CPowW i j := by
  refine ⟨h0, ?_⟩
  have b := PySem.intBits_le_iff.mpr h
  have : (Builtin.Int.intBits i : Int) * j ≤ (m : Int) * j := Int.mul_le_mul_of_nonneg_right (by omega) h0
  omega
theorem cmulL {i j : Int} (h : -(2 ^ 64) < i) (h' : i < 2 ^ 64) : CMul i j := .inl ⟨h, h'⟩
theorem cdivS {i j : Int} (h : 0 < j) (h' : j < 10 ^ 30) : CDivW i j := wide_div (b := 100) h (by omega) (by decide) (by decide)
end
end Fg
namespace Fg
open PySem PySem.Spec PyProof.Rows L2
local macro_rules | `(tactic| walk_at "hp") => `(tactic| first
  | assumption
  | exact upd_same
  | (refine Chg.at (by assumption) ?_; walk_at "hp")
  | (refine Chg.at1 (by assumption) ?_ (by walk_at "ne"); walk_at "hp"))
local macro_rules | `(tactic| walk_at "ne") => `(tactic| first | assumption | (apply Ne.symm; assumption))
local macro_rules | `(tactic| walk_at "sq") => `(tactic| first | assumption | exact sqL (by walk_at "hp") | (refine Chg.seq (by assumption) ?_; walk_at "sq"))
local macro_rules | `(tactic| walk_at "sz") => `(tactic| first | assumption | exact Nat.zero_le _ | (simp only [List.length_cons, List.length_nil]; decide) | exact Nat.le_trans (by first | omega | (simp; done) | (simp; omega)) (show 100000 ≤ sizeLine by decide) | exact Nat.lt_of_lt_of_le (by first | omega | (simp; done) | (simp; omega)) (show 100000 ≤ sizeLine by decide))
local macro_rules | `(tactic| walk_at "ix") => `(tactic| first | exact at0 | exact at1 | exact at2 | exact at3 | assumption | exact rfl | walk_at "ix2")
local macro_rules | `(tactic| walk_at "ix2") => `(tactic| fail)
local macro_rules | `(tactic| walk_at "num") => `(tactic| first | assumption | omega | decide | walk_at "num2")
local macro_rules | `(tactic| walk_at "num2") => `(tactic| fail)
local macro_rules | `(tactic| walk_at "im") => `(tactic| first | assumption | exact R.non (S := fun _ => False) | exact R.bl (S := fun _ => False) _ | exact R.int (S := fun _ => False) _ | exact R.str (S := fun _ => False) _ | (refine R.im (by assumption) ?_; walk_at "im"))
local macro_rules | `(tactic| walk_at "r") => `(tactic| first | assumption | exact R.non (S := fun _ => False) | exact R.bl (S := fun _ => False) _ | exact R.int (S := fun _ => False) _ | exact R.str (S := fun _ => False) _ | (refine R.same (by assumption) ?_; walk_at "r") | exact R.any (by walk_at "im"))
local macro_rules | `(tactic| walk_at "chg") => `(tactic| first
  | exact Chg.refl
  | assumption
  | (refine Chg.same ?_ (by assumption); walk_at "chg")
  | (refine Chg.both ?_ (by assumption); walk_at "chg")
  | (refine Chg.pre (by assumption) ?_; walk_at "chg"))
local macro_rules | `(tactic| walk_at "w1") => `(tactic| first
  | with_reducible apply w_seq
  | with_reducible apply w_asg
  | ((with_reducible apply w_var); (focus (exact rfl)))
  | with_reducible apply w_c
  | with_reducible apply w_op
  | with_reducible apply w_cons
  | with_reducible apply w_nil
  | with_reducible apply w_gName
  | with_reducible apply w_if
  | with_reducible apply w_test
  | with_reducible apply w_B
  | with_reducible apply w_isbl
  | with_reducible apply w_retN
  | with_reducible apply w_next
  | with_reducible apply w_drop
  | with_reducible apply w_cb
  | with_reducible apply w_call
  | with_reducible apply w_callN
  | with_reducible apply w_bm
  | with_reducible apply w_bm0
  | ((with_reducible apply w_tyL); (focus (walk_at "hp"; done)))
  | with_reducible apply w_dput
  | with_reducible apply w_m1
  | with_reducible apply w_isstr
  | with_reducible apply w_and
  | with_reducible apply w_or
  | with_reducible apply w_not
  | with_reducible apply w_andV
  | with_reducible apply w_orV
  | with_reducible apply w_notV
  | with_reducible apply w_ifE
  | with_reducible apply w_chain
  | with_reducible apply w_un
  | with_reducible apply w_neg
  | with_reducible apply w_add
  | with_reducible apply w_sub
  | ((with_reducible apply w_mod); (focus (walk_at "num"; done)))
  | ((with_reducible apply w_mul); (focus (walk_at "num"; done)))
  | ((with_reducible apply w_fdiv); (focus (walk_at "num"; done)))
  | ((with_reducible apply w_pow); (focus (walk_at "num"; done)))
  | with_reducible apply w_lt
  | with_reducible apply w_le
  | with_reducible apply w_gt
  | with_reducible apply w_ge
  | with_reducible apply w_ltS
  | with_reducible apply w_geS
  | with_reducible apply w_inC
  | with_reducible apply w_notInC
  | with_reducible apply w_isN
  | with_reducible apply w_notN
  | with_reducible apply w_isB
  | with_reducible apply w_notB
  | ((with_reducible apply w_addS); (focus (walk_at "sz"; done)))
  | ((with_reducible apply w_ixL); (focus (walk_at "sq"; done)); (focus (walk_at "ix"; done)))
  | ((with_reducible apply w_ixT); (focus (walk_at "hp"; done)); (focus (walk_at "ix"; done)))
  | ((with_reducible apply w_ixS); (focus (walk_at "sz"; done)); (focus (walk_at "ix"; done)))
  | with_reducible apply w_gSub
  | ((with_reducible apply w_gTup); (focus (walk_at "hp"; done)); (focus (exact rfl)))
  | with_reducible apply w_gCons
  | with_reducible apply w_gNil
  | ((with_reducible apply w_aug); (focus (exact rfl)))
  | with_reducible apply w_ipI
  | ((with_reducible apply w_eq); (focus (exact rfl)))
  | ((with_reducible apply w_ne); (focus (exact rfl)))
  | with_reducible apply w_max
  | with_reducible apply w_min
  | with_reducible apply w_abs
  | with_reducible apply w_intB
  | with_reducible apply w_intI
  | with_reducible apply w_tup1
  | with_reducible apply w_lst1
  | with_reducible apply w_sl
  | with_reducible apply w_part
  | with_reducible apply w_noPart
  | with_reducible apply w_isint
  | ((with_reducible apply w_slS); (focus (walk_at "sz"; done)))
  | with_reducible apply w_iteT
  | with_reducible apply w_iteF
  | with_reducible apply w_iteN
  | ((with_reducible apply w_iteYes); (focus (exact rfl)))
  | ((with_reducible apply w_iteNo); (focus (exact rfl)))
  | ((with_reducible apply w_lenL); (focus (walk_at "sq"; done)))
  | ((with_reducible apply w_lenT); (focus (walk_at "hp"; done)))
  | ((with_reducible apply w_lenS); (focus (walk_at "sz"; done)))
  | with_reducible apply w_lc
  | with_reducible apply w_for
  | with_reducible apply w_yes
  | ((with_reducible apply w_wipe); (focus (exact rfl)))
  | with_reducible apply w_iList
  | with_reducible apply w_iTup
  | with_reducible apply w_iStr
  | with_reducible apply w_iRng1
  | with_reducible apply w_iRng2
  | with_reducible apply w_iZip
  | with_reducible apply w_iEnum
  | ((with_reducible apply d_iList); (focus (walk_at "sq"; done)))
  | ((with_reducible apply d_iTup); (focus (walk_at "hp"; done)))
  | with_reducible apply d_iStr
  | ((with_reducible apply d_iRng1); (focus (walk_at "num"; done)); (focus (walk_at "num"; done)))
  | ((with_reducible apply d_iRng2); (focus (walk_at "num"; done)); (focus (walk_at "num"; done)); (focus (walk_at "num"; done)); (focus (walk_at "num"; done)))
  | ((with_reducible apply d_iZip); (focus (walk_at "sq"; done)); (focus (walk_at "sq"; done)))
  | ((with_reducible apply d_iEnum); (focus (walk_at "sq"; done)))
  | walk_at "w2")
local macro_rules | `(tactic| walk_at "w2") => `(tactic| fail)
local macro_rules | `(tactic| walk_at "wn") => `(tactic| repeat walk_at "w1")
local macro_rules | `(tactic| walk_at "w") => `(tactic| repeat (first | walk_at "w1" | with_reducible apply w_ret))
local macro_rules | `(tactic| walk_at "w2") => `(tactic| first
  | ((with_reducible apply w_isInt); (focus (walk_at "r"; done)))
  | ((with_reducible apply w_isBool); (focus (walk_at "r"; done)))
  | ((with_reducible apply w_isStr); (focus (walk_at "r"; done)))
  | ((with_reducible apply w_isTup); (focus (walk_at "r"; done)))
  | ((with_reducible apply w_isLst); (focus (walk_at "r"; done)))
  | ((with_reducible apply w_notInP); (focus (assumption)))
  | ((with_reducible apply w_ixP); (focus (assumption)); (focus (assumption))))
section
abbrev fin (Q : VK) : Ends := { nx := fun _ H' => Q .non H', rt := Q }
end
section
inductive Ex where
  | num (i : Int)
  | arg
  | cell (a : Ex)
  | add (a b : Ex)
  | less (a b : Ex)
  | least (a b : Ex)
def Ex.data : Ex → PyData
  | .num i => .int i
  | .arg => .tuple [.str "arg"]
  | .cell a => .tuple [.str "cell", a.data]
  | .add a b => .tuple [.str "add", a.data, b.data]
  | .less a b => .tuple [.str "less", a.data, b.data]
  | .least a b => .tuple [.str "least", a.data, b.data]
def Ex.deep : Ex → Nat
  | .num _ => 1
  | .arg => 1
  | .cell a => a.deep + 1
  | .add a b => max a.deep b.deep + 1
  | .less a b => max a.deep b.deep + 1
  | .least a b => max a.deep b.deep + 1
inductive Stp where
  | cell (a b : Ex)
  | give (x : Str) (a : Ex)
  | fork (x : Str) (a : Ex)
  | call (x : Str) (a : Ex)
  | wait
  | skip (a : Ex) (k : Int)
def Stp.data : Stp → PyData
  | .cell a b => .tuple [.str "cell", a.data, b.data]
  | .give x a => .tuple [.str "give", .str x, a.data]
  | .fork x a => .tuple [.str "fork", .str x, a.data]
  | .call x a => .tuple [.str "call", .str x, a.data]
  | .wait => .tuple [.str "wait"]
  | .skip a k => .tuple [.str "skip", a.data, .int k]
/-- a right step, by the helpers' names and how many there are behind it -/
def Stp.ok (ns : List Str) (bh : Int) : Stp → Prop
  | .cell a b => a.deep ≤ 5 ∧ b.deep ≤ 5
  | .give x a => nameS x = true ∧ a.deep ≤ 5
  | .fork x a => nameS x = true ∧ x ∈ ns ∧ a.deep ≤ 5
  | .call x a => nameS x = true ∧ x ∈ ns ∧ a.deep ≤ 5
  | .wait => True
  | .skip a k => a.deep ≤ 5 ∧ 1 ≤ k ∧ k ≤ bh
theorem nameS_iff {x : Str} : nameS x = true ↔ 1 ≤ x.length ∧ x.length ≤ 8 ∧ ∀ c ∈ x.cps.toList, isLow c = true := by
  unfold nameS
  rw [Bool.and_eq_true, Bool.and_eq_true, decide_eq_true_eq, decide_eq_true_eq, List.all_eq_true]
  exact ⟨fun h => ⟨h.1.1, h.1.2, h.2⟩, fun h => ⟨⟨h.1, h.2.1⟩, h.2.2⟩⟩
theorem noDics_of : ∀ {ds : List PyData}, (∀ d ∈ ds, noDic d = true) → noDics ds = true
  | [], _ => rfl
  | d :: ds, h => by
    show (noDic d && noDics ds) = true
    rw [h d (by simp), noDics_of fun e he => h e (List.mem_cons_of_mem _ he)]
    rfl
end
section
def low (x : Str) : Prop := ∀ c ∈ x.cps.toList, isLow c = true
theorem low_nil : low "" := by intro c h; exact absurd h (by simp [show (Str.ofString "").cps.toList = [] from by decide +kernel])
theorem low_append {x y : Str} (hx : low x) (hy : low y) : low (x ++ y) := by
  intro c h
  have e : (x ++ y).cps.toList = x.cps.toList ++ y.cps.toList := Array.toList_append
  rw [e] at h
  rcases List.mem_append.mp h with h | h
  · exact hx c h
  · exact hy c h
theorem len_append (x y : Str) : (x ++ y).length = x.length + y.length := Array.size_append
theorem len_one (c : Nat) : (Str.mk #[c]).length = 1 := rfl
theorem low_one {c : Nat} (h : isLow c = true) : low ⟨#[c]⟩ := by
  intro d hd
  have : d = c := by simpa using hd
  rw [this]
  exact h
theorem low_cut {x : Str} (lo hi : Option Int) (hx : low x) : low (cutS x lo hi) := by
  intro c h
  unfold cutS at h
  have h : c ∈ (x.cps.toList.drop (HT.sIx x.length 0 lo)).take (HT.sIx x.length x.length hi - HT.sIx x.length 0 lo) := by simpa using h
  exact hx c (List.mem_of_mem_drop (List.mem_of_mem_take h))
theorem len_cut (x : Str) (lo hi : Option Int) : (cutS x lo hi).length = min (HT.sIx x.length x.length hi - HT.sIx x.length 0 lo) (x.length - HT.sIx x.length 0 lo) := by
  unfold cutS
  show ((x.cps.toList.drop _).take _).toArray.size = _
  rw [List.size_toArray, List.length_take, List.length_drop]
  rfl
theorem sIx_i {n d : Nat} {i : Int} (h : 0 ≤ i) : HT.sIx n d (some i) = min i.toNat n := by
  have e : ((i.toNat : Nat) : Int) = i := by omega
  rw [← HT.sIx_nat n d i.toNat, e]
theorem nameS_of {x : Str} (h1 : 1 ≤ x.length) (h2 : x.length ≤ 8) (h3 : low x) : nameS x = true := nameS_iff.mpr ⟨h1, h2, h3⟩
theorem letters_len : letters.cps.toList.length = 26 := by decide +kernel
theorem letter_at {v : Int} (h0 : 0 ≤ v) (h1 : v < 26) : ∃ c, atI (Str.ofString "abcdefghijklmnopqrstuvwxyz").cps.toList v = some c ∧ isLow c = true := by
  obtain ⟨c, e, h⟩ := atD (xs := letters.cps.toList) h0 (by rw [letters_len]; exact h1)
  exact ⟨c, e, decide_eq_true h⟩
theorem sum_ones {ys : List Str} (h : ∀ y ∈ ys, y.length = 1) : (ys.map (·.length)).sum = ys.length := by
  induction ys with
  | nil => rfl
  | cons y r ih =>
    rw [List.map_cons, List.sum_cons, ih fun z hz => h z (List.mem_cons_of_mem _ hz), h y (by simp), List.length_cons]
    omega
theorem join_ones {ys : List Str} (h : ∀ y ∈ ys, y.length = 1 ∧ low y) : (Txt.join "" ys).length = ys.length ∧ low (Txt.join "" ys) := by
  rw [TL.join_eq]
  have e0 : TL.tl (Str.ofString "") = [] := by decide +kernel
  have key : ∀ zs : List Str, (∀ y ∈ zs, y.length = 1 ∧ low y) → (TL.joinL [] (zs.map TL.tl)).length = zs.length ∧ ∀ c ∈ TL.joinL [] (zs.map TL.tl), isLow c = true := by
    intro zs
    induction zs with
    | nil => intro _; exact ⟨rfl, fun c h => by cases h⟩
    | cons y r ih =>
      intro h
      have hy := h y (by simp)
      have hr := ih fun z hz => h z (List.mem_cons_of_mem _ hz)
      have hl : (TL.tl y).length = 1 := hy.1
      cases r with
      | nil => exact ⟨hl, hy.2⟩
      | cons z r =>
        have e : TL.joinL [] ((y :: z :: r).map TL.tl) = TL.tl y ++ TL.joinL [] ((z :: r).map TL.tl) := rfl
        rw [e]
        refine ⟨by rw [List.length_append, hr.1, hl, List.length_cons (a := y)]; omega, fun c hc => ?_⟩
        rcases List.mem_append.mp hc with hc | hc
        · exact hy.2 c hc
        · exact hr.2 c hc
  have k := key ys h
  have e : TL.tl (Str.join "" ys) = TL.joinL [] (ys.map TL.tl) := by rw [TL.tl_join, e0]
  refine ⟨?_, fun c hc => k.2 c (by rw [← e]; exact hc)⟩
  rw [← k.1, ← e]
  rfl
def okNm : V → Bool
  | .str x => nameS x
  | _ => false
theorem okNm_of {v : V} (h : okNm v = true) : ∃ x, v = .str x ∧ nameS x = true := by
  cases v with
  | str x => exact ⟨x, rfl, h⟩
  | _ => cases h
theorem cutS_le (x : Str) (lo hi : Option Int) : (cutS x lo hi).length ≤ x.length := by
  rw [len_cut]
  omega
end
section
theorem alike_ints (ns : List Int) : PySem.W.AlikeAll (ns.map PyData.int) := by
  refine ⟨fun x hx y hy => ?_, fun x hx => ?_⟩
  · obtain ⟨i, _, rfl⟩ := List.mem_map.mp hx
    obtain ⟨j, _, rfl⟩ := List.mem_map.mp hy
    rfl
  · obtain ⟨i, _, rfl⟩ := List.mem_map.mp hx
    exact fun z => nomatch z
theorem depth_ints : ∀ ns : List Int, PyData.depthAll (ns.map PyData.int) ≤ 0
  | [] => Nat.le_refl _
  | n :: r => by
    have := depth_ints r
    show max (PyData.depth (.int n)) (PyData.depthAll (r.map PyData.int)) ≤ 0
    have h : PyData.depth (.int n) = 0 := rfl
    omega
end
section
inductive NumB : Value → Int → Prop
  | int (n t) : NumB (.int n t) n
  | bool (b : Bool) : NumB (.bool b) (if b = true then 1 else 0)
theorem gives_gt_bi (a : Bool) (b : Int) (u : Tok) : Gives (Builtin.«int.__gt__» ⟨[.bool a, .int b u], []⟩) (.val (Value.bool (decide ((if a = true then (1 : Int) else 0) > b)))) :=
  .of_wp fun M A E s Q h => by obtain ⟨hp, g, d, tk, os⟩ := s; wp_walk; exact ⟨_, rfl, h⟩
theorem gives_lt_bi (a : Bool) (b : Int) (u : Tok) : Gives (Builtin.«int.__lt__» ⟨[.bool a, .int b u], []⟩) (.val (Value.bool (decide ((if a = true then (1 : Int) else 0) < b)))) :=
  .of_wp fun M A E s Q h => by obtain ⟨hp, g, d, tk, os⟩ := s; wp_walk; exact ⟨_, rfl, h⟩
section
variable {prog : Program} {w : World} {A : Around} {E : Value → Shared → Prop} {s : Shared} {Q : Value → Shared → Prop} {a b : Value} {i j : Int}
theorem rc_gtB (ha : NumB a i) (hb : NumB b j) (h : Q (.bool (decide (i > j))) s) : wpAny (model prog w) A (richCompare .Gt a b) Q E s := by
  cases ha with
  | int i t =>
    cases hb with
    | int j u => exact richCompare_gives (op := .Gt) (typeIs_int s _ _) (typeIs_int s _ _) F.slot_int_gt F.entry_int_gt (F.args_int_gt_2 _ _) (gives_int_gt _ _ _ _) (fun x => nomatch x) h
    | bool b => exact SeqAt.rc_sub_first_or (op := .Gt) (typeIs_int s i t) rfl (by decide) F.sub_bool_int F.slot_bool_lt_refl (call_gives F.slot_bool_lt_refl rfl F.entry_int_lt (F.args_int_lt_2 _ _) (gives_lt_bi b i t) ⟨nofun, h⟩) (.inl rfl)
  | bool a =>
    cases hb with
    | int j u => exact SeqAt.rc_left_or (op := .Gt) rfl (typeIs_int s j u) (by decide) F.sub_int_bool F.slot_bool_gt (call_gives F.slot_bool_gt rfl F.entry_int_gt (F.args_int_gt_2 _ _) (gives_gt_bi a j u) ⟨nofun, h⟩) (.inl rfl)
    | bool b => exact gt_bool h
theorem cmp_gtB {prog : Program} {w : World} {A : Around} {a b : Value} {i j : Int} (ha : NumB a i) (hb : NumB b j) :
    CmpOf prog w A .Gt (fun k v => (#[a, b] : Array Value)[k]? = some v) (fun x y => decide ((if x = 0 then i else j) > (if y = 0 then i else j))) := fun x y vx vy s Q E hx hy h => by
  have num : ∀ (k : Nat) (v : Value), (#[a, b] : Array Value)[k]? = some v → NumB v (if k = 0 then i else j) := fun k v hk => by
    rcases k with _ | _ | k
    · simp at hk; subst hk; exact ha
    · simp at hk; subst hk; exact hb
    · simp at hk
  exact rc_gtB (num _ _ hx) (num _ _ hy) h
theorem max_two_B {prog : Program} {w : World} {A : Around} {E : Value → Shared → Prop} {s : Shared} {Q : Value → Shared → Prop} {a b : Value} {i j : Int} (hh : A.handled = none) (ha : NumB a i) (hb : NumB b j)
    (h : ∀ h' tk, (∀ c o, s.heap.get? c = some o → h'.get? c = some o) → Q (if j > i then b else a) { s with heap := h', toks := tk }) :
    wpAny (model prog w) A (call (.builtin "max") [a, b]) Q E s := by
  have hT : (s.heap.push { cls := .type "tuple", data := .seq #[a, b] }).IsTuple s.heap.objs.size #[a, b] := ⟨_, Heap.get?_push_size _ rfl, rfl, 0, rfl⟩
  refine call_max_two (wpAny_pyIter_tuple hT ?_)
  have hsz : (s.heap.push { cls := .type "tuple", data := .seq #[a, b] }).objs.size = s.heap.objs.size + 1 := Heap.size_push ..
  refine ⟨_, [_, s.heap.objs.size], [_], _, _, _, _, rfl, Walks.tuple (A := A.in1) hh _ s.heap.objs.size (by rw [hsz]; exact Nat.ne_of_lt (Nat.lt_succ_self _)) #[a, b],
    ⟨⟨_, Heap.get?_push_size _ rfl, rfl, rfl⟩, hT.push _⟩, fun c hc => ?_, by simp, cmp_gtB ha hb, fun v h' tk hP hk => ?_⟩
  · show c < ((s.heap.push _).push _).objs.size
    rw [Heap.size_push, hsz]
    rcases List.mem_cons.mp hc with rfl | hc
    · rw [hsz]; exact Nat.lt_succ_self _
    · rcases List.mem_cons.mp hc with rfl | hc
      · exact Nat.lt_succ_of_lt (Nat.lt_succ_self _)
      · cases hc
  · have hold : ∀ c o, s.heap.get? c = some o → h'.get? c = some o := fun c o e => by
      refine hk c o (fun hm => ?_) (Heap.get?_push_of_some _ (Heap.get?_push_of_some _ e))
      rcases List.mem_cons.mp hm with e1 | hm
      · have := Heap.lt_size e; rw [e1, hsz] at this; exact Nat.lt_irrefl _ (Nat.lt_of_succ_lt this)
      · cases hm
    have := h h' tk hold
    have hv : v = if j > i then b else a := by
      by_cases hc : j > i <;> simp [argBest, hc] at hP <;> simp [hP, hc]
    rw [hv]; exact this
end
/-- a number or a truth value, as a number -/
def niOf : V → Option Int
  | .int i => some i
  | .bl b => some (if b = true then 1 else 0)
  | _ => none
theorem numB_of {x : V} {v : Value} {i : Int} (r : RelV x v) (e : niOf x = some i) : NumB v i := by
  cases x with
  | int n => obtain ⟨t, rfl⟩ := r; cases e; exact .int _ _
  | bl b => cases r; cases e; exact .bool _
  | _ => cases e
def cMaxB : List V → Hp → VK → Prop := fun xs H Q => ∃ x y i j, xs = [x, y] ∧ niOf x = some i ∧ niOf y = some j ∧ Q (if j > i then y else x) H
theorem p_maxB {X : Cx} (hc : X.calm = true) : CallR X (.builtin "max") cMaxB := by
  intro pins s σ H xs us Q I r h
  obtain ⟨x, y, i, j, rfl, e1, e2, q⟩ := h
  obtain ⟨u, w', rfl, r1, r2⟩ := vals2 r
  refine max_two_B (I.ok.hd hc) (numB_of r1 e1) (numB_of r2 e2) fun h' tk k => ⟨_, H, I.kept k, ?_, q⟩
  by_cases hj : j > i
  · rw [if_pos hj, if_pos hj]; exact r2
  · rw [if_neg hj, if_neg hj]; exact r1
def rMinT (K : PySem.W.Frag) : List V → Hp → VK → Prop := fun vs H Q => ∃ (a : Addr) (n : Int) (r : List Int), vs = [.ref a] ∧ SqT K H a ((n :: r).map V.int) ∧ Q (.int (r.foldl min n)) H
theorem cr_minT {X : Cx} (hc : X.calm = true) (hu : X.A.units + 64 < cLine) : CallR X (.builtin "min") (rMinT X.K) := by
  intro pins s σ H vs us Q I r h
  obtain ⟨a, n, l, rfl, hs, q⟩ := h
  obtain rfl := Vals.ref1 r
  obtain ⟨its, rv, hl, _⟩ := I.tuple hs
  have hI := rv.ints
  refine PySem.W.min_tuple_data (I.ok.hd hc) hl (by rw [List.toList_toArray]; exact hI.reads _) (alike_ints (n :: l)) (by have h := depth_ints (n :: l); rw [List.map_cons] at h; omega) (fun i v h' tk bs hv hr hk => ?_)
  rw [PySem.W.minD_ints] at hr
  cases hr with
  | int _ t => exact ⟨.int _, H, I.kept hk, ⟨_, rfl⟩, q⟩
theorem w_minT {K : PySem.W.Frag} {H : Hp} {Q : VK} {a : Addr} {n : Int} {r : List Int} (h : H a = some (.tup ((n :: r).map V.int))) (q : Q (.int (r.foldl min n)) H) : rMinT K [.ref a] H Q := ⟨a, n, r, rfl, sqT h, q⟩
def rMaxT (K : PySem.W.Frag) : List V → Hp → VK → Prop := fun vs H Q => ∃ (a : Addr) (n : Int) (r : List Int), vs = [.ref a] ∧ SqT K H a ((n :: r).map V.int) ∧ Q (.int (r.foldl max n)) H
theorem cr_maxT {X : Cx} (hc : X.calm = true) (hu : X.A.units + 64 < cLine) : CallR X (.builtin "max") (rMaxT X.K) := by
  intro pins s σ H vs us Q I r h
  obtain ⟨a, n, l, rfl, hs, q⟩ := h
  obtain rfl := Vals.ref1 r
  obtain ⟨its, rv, hl, _⟩ := I.tuple hs
  have hI := rv.ints
  refine PySem.W.max_tuple_data (I.ok.hd hc) hl (by rw [List.toList_toArray]; exact hI.reads _) (alike_ints (n :: l)) (by have h := depth_ints (n :: l); rw [List.map_cons] at h; omega) (fun i v h' tk bs hv hr hk => ?_)
  rw [PySem.W.maxD_ints] at hr
  cases hr with
  | int _ t => exact ⟨.int _, H, I.kept hk, ⟨_, rfl⟩, q⟩
theorem w_maxT {K : PySem.W.Frag} {H : Hp} {Q : VK} {a : Addr} {n : Int} {r : List Int} (h : H a = some (.tup ((n :: r).map V.int))) (q : Q (.int (r.foldl max n)) H) : rMaxT K [.ref a] H Q := ⟨a, n, r, rfl, sqT h, q⟩
end
end Fg
namespace Fg
open PySem PySem.Spec PyProof.Rows L2 LamX LmX
local macro_rules | `(tactic| walk_at "hp") => `(tactic| first
  | assumption
  | exact upd_same
  | (refine Chg.at (by assumption) ?_; walk_at "hp")
  | (refine Chg.at1 (by assumption) ?_ (by walk_at "ne"); walk_at "hp"))
local macro_rules | `(tactic| walk_at "ne") => `(tactic| first | assumption | (apply Ne.symm; assumption))
local macro_rules | `(tactic| walk_at "sq") => `(tactic| first | assumption | exact sqL (by walk_at "hp") | (refine Chg.seq (by assumption) ?_; walk_at "sq"))
local macro_rules | `(tactic| walk_at "sz") => `(tactic| first | assumption | exact Nat.zero_le _ | (simp only [List.length_cons, List.length_nil]; decide) | exact Nat.le_trans (by first | omega | (simp; done) | (simp; omega)) (show 100000 ≤ sizeLine by decide) | exact Nat.lt_of_lt_of_le (by first | omega | (simp; done) | (simp; omega)) (show 100000 ≤ sizeLine by decide))
local macro_rules | `(tactic| walk_at "ix") => `(tactic| first | exact at0 | exact at1 | exact at2 | exact at3 | assumption | exact rfl | walk_at "ix2")
local macro_rules | `(tactic| walk_at "ix2") => `(tactic| fail)
local macro_rules | `(tactic| walk_at "num") => `(tactic| first | assumption | omega | decide | walk_at "num2")
local macro_rules | `(tactic| walk_at "num2") => `(tactic| fail)
local macro_rules | `(tactic| walk_at "im") => `(tactic| first | assumption | exact R.non (S := fun _ => False) | exact R.bl (S := fun _ => False) _ | exact R.int (S := fun _ => False) _ | exact R.str (S := fun _ => False) _ | (refine R.im (by assumption) ?_; walk_at "im"))
local macro_rules | `(tactic| walk_at "r") => `(tactic| first | assumption | exact R.non (S := fun _ => False) | exact R.bl (S := fun _ => False) _ | exact R.int (S := fun _ => False) _ | exact R.str (S := fun _ => False) _ | (refine R.same (by assumption) ?_; walk_at "r") | exact R.any (by walk_at "im"))
local macro_rules | `(tactic| walk_at "chg") => `(tactic| first
  | exact Chg.refl
  | assumption
  | (refine Chg.same ?_ (by assumption); walk_at "chg")
  | (refine Chg.both ?_ (by assumption); walk_at "chg")
  | (refine Chg.pre (by assumption) ?_; walk_at "chg"))
local macro_rules | `(tactic| walk_at "w1") => `(tactic| first
  | with_reducible apply w_seq
  | with_reducible apply w_asg
  | ((with_reducible apply w_var); (focus (exact rfl)))
  | with_reducible apply w_c
  | with_reducible apply w_op
  | with_reducible apply w_cons
  | with_reducible apply w_nil
  | with_reducible apply w_gName
  | with_reducible apply w_if
  | with_reducible apply w_test
  | with_reducible apply w_B
  | with_reducible apply w_isbl
  | with_reducible apply w_retN
  | with_reducible apply w_next
  | with_reducible apply w_drop
  | with_reducible apply w_cb
  | with_reducible apply w_call
  | with_reducible apply w_callN
  | with_reducible apply w_bm
  | with_reducible apply w_bm0
  | ((with_reducible apply w_tyL); (focus (walk_at "hp"; done)))
  | with_reducible apply w_dput
  | with_reducible apply w_m1
  | with_reducible apply w_isstr
  | with_reducible apply w_and
  | with_reducible apply w_or
  | with_reducible apply w_not
  | with_reducible apply w_andV
  | with_reducible apply w_orV
  | with_reducible apply w_notV
  | with_reducible apply w_ifE
  | with_reducible apply w_chain
  | with_reducible apply w_un
  | with_reducible apply w_neg
  | with_reducible apply w_add
  | with_reducible apply w_sub
  | ((with_reducible apply w_mod); (focus (walk_at "num"; done)))
  | ((with_reducible apply w_mul); (focus (walk_at "num"; done)))
  | ((with_reducible apply w_fdiv); (focus (walk_at "num"; done)))
  | ((with_reducible apply w_pow); (focus (walk_at "num"; done)))
  | with_reducible apply w_lt
  | with_reducible apply w_le
  | with_reducible apply w_gt
  | with_reducible apply w_ge
  | with_reducible apply w_ltS
  | with_reducible apply w_geS
  | with_reducible apply w_inC
  | with_reducible apply w_notInC
  | with_reducible apply w_isN
  | with_reducible apply w_notN
  | with_reducible apply w_isB
  | with_reducible apply w_notB
  | ((with_reducible apply w_addS); (focus (walk_at "sz"; done)))
  | ((with_reducible apply w_ixL); (focus (walk_at "sq"; done)); (focus (walk_at "ix"; done)))
  | ((with_reducible apply w_ixT); (focus (walk_at "hp"; done)); (focus (walk_at "ix"; done)))
  | ((with_reducible apply w_ixS); (focus (walk_at "sz"; done)); (focus (walk_at "ix"; done)))
  | with_reducible apply w_gSub
  | ((with_reducible apply w_gTup); (focus (walk_at "hp"; done)); (focus (exact rfl)))
  | with_reducible apply w_gCons
  | with_reducible apply w_gNil
  | ((with_reducible apply w_aug); (focus (exact rfl)))
  | with_reducible apply w_ipI
  | ((with_reducible apply w_eq); (focus (exact rfl)))
  | ((with_reducible apply w_ne); (focus (exact rfl)))
  | with_reducible apply w_max
  | with_reducible apply w_min
  | with_reducible apply w_abs
  | with_reducible apply w_intB
  | with_reducible apply w_intI
  | with_reducible apply w_tup1
  | with_reducible apply w_lst1
  | with_reducible apply w_sl
  | with_reducible apply w_part
  | with_reducible apply w_noPart
  | with_reducible apply w_isint
  | ((with_reducible apply w_slS); (focus (walk_at "sz"; done)))
  | with_reducible apply w_iteT
  | with_reducible apply w_iteF
  | with_reducible apply w_iteN
  | ((with_reducible apply w_iteYes); (focus (exact rfl)))
  | ((with_reducible apply w_iteNo); (focus (exact rfl)))
  | ((with_reducible apply w_lenL); (focus (walk_at "sq"; done)))
  | ((with_reducible apply w_lenT); (focus (walk_at "hp"; done)))
  | ((with_reducible apply w_lenS); (focus (walk_at "sz"; done)))
  | with_reducible apply w_lc
  | with_reducible apply w_for
  | with_reducible apply w_yes
  | ((with_reducible apply w_wipe); (focus (exact rfl)))
  | with_reducible apply w_iList
  | with_reducible apply w_iTup
  | with_reducible apply w_iStr
  | with_reducible apply w_iRng1
  | with_reducible apply w_iRng2
  | with_reducible apply w_iZip
  | with_reducible apply w_iEnum
  | ((with_reducible apply d_iList); (focus (walk_at "sq"; done)))
  | ((with_reducible apply d_iTup); (focus (walk_at "hp"; done)))
  | with_reducible apply d_iStr
  | ((with_reducible apply d_iRng1); (focus (walk_at "num"; done)); (focus (walk_at "num"; done)))
  | ((with_reducible apply d_iRng2); (focus (walk_at "num"; done)); (focus (walk_at "num"; done)); (focus (walk_at "num"; done)); (focus (walk_at "num"; done)))
  | ((with_reducible apply d_iZip); (focus (walk_at "sq"; done)); (focus (walk_at "sq"; done)))
  | ((with_reducible apply d_iEnum); (focus (walk_at "sq"; done)))
  | walk_at "w2")
local macro_rules | `(tactic| walk_at "w2") => `(tactic| fail)
local macro_rules | `(tactic| walk_at "wn") => `(tactic| repeat walk_at "w1")
local macro_rules | `(tactic| walk_at "w") => `(tactic| repeat (first | walk_at "w1" | with_reducible apply w_ret))
def i2 (f : Int → Int → Int) : PyData → PyData → Option PyData
  | .int a, .int b => some (.int (f a b))
  | _, _ => none
def s2 (f : Str → Str → Str) : PyData → PyData → Option PyData
  | .str a, .str b => if a.length + b.length ≤ 90000 then some (.str (f a b)) else none
  | _, _ => none
def lat2 : PyData → PyData → Option PyData
  | x, .none => some x
  | _, y => some y
/-- max of two of ints and truth values, its first one where they are alike -/
def niD : PyData → Option Int
  | .int i => some i
  | .bool b => some (if b = true then 1 else 0)
  | _ => none
def mxD (x y : PyData) : Option PyData := match niD x, niD y with
  | some i, some j => some (if j > i then y else x)
  | _, _ => none
/-- the lambda at j of two worths -/
def jnD : Nat → PyData → PyData → Option PyData
  | 0, x, y => i2 (· + ·) x y
  | 1, x, y => s2 (· ++ ·) x y
  | 3, x, y => i2 (· + ·) x y
  | 4, x, y => lat2 x y
  | 5, x, y => s2 (· ++ ·) x y
  | 8, .list xs, .list ys => if xs.length + ys.length ≤ 90000 then some (.list (xs ++ ys)) else none
  | 10, .int a, .int b => if (0 ≤ a ∧ a < 7) ∧ (0 ≤ b ∧ b < 7) then some (.int (a * b % 7)) else none
  | 12, x, y => i2 (fun a b => a + b + 1) x y
  | 13, x, y => s2 (fun a b => b ++ a) x y
  | 15, x, y => lat2 x y
  | 17, x, y => i2 (· - ·) x y
  | 18, x, y => i2 (fun a b => if a = 0 ∧ b = 0 then 7 else a + b) x y
  | 19, x, y => i2 (fun a b => min (a + b) 10) x y
  | 21, x, y => i2 (fun a b => if a + b = 5 then 6 else a + b) x y
  | 22, x, y => i2 (· + ·) x y
  | 23, x, y => i2 (fun a b => (a + b) / 2) x y
  | 24, x, y => s2 (fun a b => a ++ cutS b none (some 2)) x y
  | 26, .none, _ => some (.int 1)
  | 26, .int a, _ => some (.int (a + 1))
  | 27, _, y => some y
  | 29, x, y => mxD x y
  | _, _, _ => none
/-- the lambda at j of a number -/
def mkD0 : Nat → Int → Option PyData
  | 2, n => some (.str (Str.empty ++ Str.ofString (toString n) ++ Str.ofString ";"))
  | 6, n => some (.str (Str.empty ++ Str.ofString (toString n) ++ Str.ofString ";"))
  | 7, n => some (.tuple [.int n, .int n])
  | 9, n => some (.list [.int n])
  | 11, n => some (.int (n % 7))
  | 14, n => some (.str (Str.ofString (toString (n % 10))))
  | 16, n => some (.int (n / 2))
  | 20, n => some (.int (if n < 0 then -n else n))
  | 25, n => some (.str (Str.empty ++ Str.ofString (toString n) ++ Str.ofString ";"))
  | 28, n => some (if n % 3 = 0 then .none else .int n)
  | 30, n => some (.bool (decide (2 < n)))
  | _, _ => none
def mkD (j : Nat) (n : Int) : Option PyData := if n.natAbs < 10 ^ 30 then mkD0 j n else none
/-- a function of two worths -/
def sp2 (f : PyData → PyData → Option PyData) : Sp := fun vs H Q _ => ∃ (x y : V) (dx dy d : PyData) (S : Addr → Prop), vs = [x, y] ∧ R S H x dx ∧ R S H y dy ∧ (∀ a, H a = none → S a) ∧ f dx dy = some d ∧ ∀ v H', Chg [] H H' → R S H' v d → Q v H'
def sp1 (f : Int → Option PyData) : Sp := fun vs H Q _ => ∃ (n : Int) (d : PyData) (S : Addr → Prop), vs = [.int n] ∧ (∀ a, H a = none → S a) ∧ f n = some d ∧ ∀ v H', Chg [] H H' → R S H' v d → Q v H'
theorem i2_at {f : Int → Int → Int} {x y d : PyData} (h : i2 f x y = some d) : ∃ a b, x = .int a ∧ y = .int b ∧ d = .int (f a b) := by
  unfold i2 at h
  split at h
  · cases h; exact ⟨_, _, rfl, rfl, rfl⟩
  · cases h
theorem s2_at {f : Str → Str → Str} {x y d : PyData} (h : s2 f x y = some d) : ∃ a b, x = .str a ∧ y = .str b ∧ a.length + b.length ≤ 90000 ∧ d = .str (f a b) := by
  unfold s2 at h
  split at h
  · split at h
    · rename_i h2; cases h; exact ⟨_, _, rfl, rfl, h2, rfl⟩
    · cases h
  · cases h
theorem r_int {S : Addr → Prop} {H : Hp} {v : V} {i : Int} (h : R S H v (.int i)) : v = .int i := by cases h; rfl
theorem r_str {S : Addr → Prop} {H : Hp} {v : V} {x : Str} (h : R S H v (.str x)) : v = .str x := by cases h; rfl
theorem mkD_at {j : Nat} {n : Int} {d : PyData} (h : mkD j n = some d) : n.natAbs < 10 ^ 30 ∧ mkD0 j n = some d := by
  unfold mkD at h
  split at h
  · rename_i h1; exact ⟨h1, h⟩
  · cases h
theorem mxD_at {x y d : PyData} (h : mxD x y = some d) : ∃ i j, niD x = some i ∧ niD y = some j ∧ d = if j > i then y else x := by
  unfold mxD at h
  split at h
  · rename_i i j e1 e2; cases h; exact ⟨i, j, e1, e2, rfl⟩
  · cases h
theorem r_ni {S : Addr → Prop} {H : Hp} {v : V} {d : PyData} {i : Int} (h : R S H v d) (e : niD d = some i) : niOf v = some i := by
  cases h <;> first | exact e | cases e
theorem len_text {n : Int} (h : n.natAbs < 10 ^ 30) : (Str.ofString (toString n)).length ≤ 31 := by
  have e := int_text_length_le10 (k := 30) (by decide) h
  rw [PySem.ofString_length]; exact e
theorem lg30 {n : Int} (h : n.natAbs < 10 ^ 30) : n.natAbs.log2 < 1920 := by
  by_cases z : n.natAbs = 0
  · rw [z]; decide
  · exact (Nat.log2_lt z).mpr (Nat.lt_trans h (by decide +kernel))
theorem w_fs {n : Int} {z : Str} {H : Hp} {Q : VK} (hn : n.natAbs.log2 < 1920) (hl : (Str.ofString (toString n)).length ≤ 31) (hz : z.length ≤ 100) (q : Q (.str (Str.empty ++ Str.ofString (toString n) ++ z)) H) : tJoin [tFmt (tVar 0), tC (.str z)] [some (.int n)] H Q := by
  have e0 : Str.empty.length = 0 := rfl
  exact ⟨.int n, rfl, Or.inr ⟨n, rfl, hn, _, rfl, by rw [sizeLine_eq, len_append]; omega, z, rfl, by rw [sizeLine_eq, len_append, len_append]; omega, q⟩⟩
def t_lam0 (K : PySem.W.Frag) : TE :=
    tOp oAdd (tVar 0) (tVar 1)
theorem pure_lam0 {K : PySem.W.Frag} (vs : List V) (H : Hp) (Q : VK) (h : sp2 (jnD 0) vs H Q L2.E0) : t_lam0 K (NdefX.startF ["one", "other"] vs []) H Q := by
  obtain ⟨x, y, dx, dy, d, S, rfl, rx, ry, fr, e, q⟩ := h
  obtain ⟨a, b, rfl, rfl, rfl⟩ := i2_at e
  cases r_int rx
  cases r_int ry
  show t_lam0 K [some (.int a), some (.int b)] H Q
  unfold t_lam0
  walk_at "w"
  exact q _ _ .refl (.int _)
def t_lam3 (K : PySem.W.Frag) : TE :=
    tOp oAdd (tVar 0) (tVar 1)
theorem pure_lam3 {K : PySem.W.Frag} (vs : List V) (H : Hp) (Q : VK) (h : sp2 (jnD 3) vs H Q L2.E0) : t_lam3 K (NdefX.startF ["one", "other"] vs []) H Q := by
  obtain ⟨x, y, dx, dy, d, S, rfl, rx, ry, fr, e, q⟩ := h
  obtain ⟨a, b, rfl, rfl, rfl⟩ := i2_at e
  cases r_int rx
  cases r_int ry
  show t_lam3 K [some (.int a), some (.int b)] H Q
  unfold t_lam3
  walk_at "w"
  exact q _ _ .refl (.int _)
def t_lam12 (K : PySem.W.Frag) : TE :=
    tOp oAdd (tOp oAdd (tVar 0) (tVar 1)) (tC (.int 1))
theorem pure_lam12 {K : PySem.W.Frag} (vs : List V) (H : Hp) (Q : VK) (h : sp2 (jnD 12) vs H Q L2.E0) : t_lam12 K (NdefX.startF ["one", "other"] vs []) H Q := by
  obtain ⟨x, y, dx, dy, d, S, rfl, rx, ry, fr, e, q⟩ := h
  obtain ⟨a, b, rfl, rfl, rfl⟩ := i2_at e
  cases r_int rx
  cases r_int ry
  show t_lam12 K [some (.int a), some (.int b)] H Q
  unfold t_lam12
  walk_at "w"
  exact q _ _ .refl (.int _)
def t_lam17 (K : PySem.W.Frag) : TE :=
    tOp oSub (tVar 0) (tVar 1)
theorem pure_lam17 {K : PySem.W.Frag} (vs : List V) (H : Hp) (Q : VK) (h : sp2 (jnD 17) vs H Q L2.E0) : t_lam17 K (NdefX.startF ["one", "other"] vs []) H Q := by
  obtain ⟨x, y, dx, dy, d, S, rfl, rx, ry, fr, e, q⟩ := h
  obtain ⟨a, b, rfl, rfl, rfl⟩ := i2_at e
  cases r_int rx
  cases r_int ry
  show t_lam17 K [some (.int a), some (.int b)] H Q
  unfold t_lam17
  walk_at "w"
  exact q _ _ .refl (.int _)
def t_lam22 (K : PySem.W.Frag) : TE :=
    tOp oAdd (tVar 0) (tVar 1)
theorem pure_lam22 {K : PySem.W.Frag} (vs : List V) (H : Hp) (Q : VK) (h : sp2 (jnD 22) vs H Q L2.E0) : t_lam22 K (NdefX.startF ["one", "other"] vs []) H Q := by
  obtain ⟨x, y, dx, dy, d, S, rfl, rx, ry, fr, e, q⟩ := h
  obtain ⟨a, b, rfl, rfl, rfl⟩ := i2_at e
  cases r_int rx
  cases r_int ry
  show t_lam22 K [some (.int a), some (.int b)] H Q
  unfold t_lam22
  walk_at "w"
  exact q _ _ .refl (.int _)
def t_lam1 (K : PySem.W.Frag) : TE :=
    tOp oAddS (tVar 0) (tVar 1)
theorem pure_lam1 {K : PySem.W.Frag} (vs : List V) (H : Hp) (Q : VK) (h : sp2 (jnD 1) vs H Q L2.E0) : t_lam1 K (NdefX.startF ["one", "other"] vs []) H Q := by
  obtain ⟨x, y, dx, dy, d, S, rfl, rx, ry, fr, e, q⟩ := h
  obtain ⟨a, b, rfl, rfl, ln, rfl⟩ := s2_at e
  cases r_str rx
  cases r_str ry
  show t_lam1 K [some (.str a), some (.str b)] H Q
  unfold t_lam1
  walk_at "w"
  exact q _ _ .refl (.str _)
def t_lam5 (K : PySem.W.Frag) : TE :=
    tOp oAddS (tVar 0) (tVar 1)
theorem pure_lam5 {K : PySem.W.Frag} (vs : List V) (H : Hp) (Q : VK) (h : sp2 (jnD 5) vs H Q L2.E0) : t_lam5 K (NdefX.startF ["one", "other"] vs []) H Q := by
  obtain ⟨x, y, dx, dy, d, S, rfl, rx, ry, fr, e, q⟩ := h
  obtain ⟨a, b, rfl, rfl, ln, rfl⟩ := s2_at e
  cases r_str rx
  cases r_str ry
  show t_lam5 K [some (.str a), some (.str b)] H Q
  unfold t_lam5
  walk_at "w"
  exact q _ _ .refl (.str _)
def t_lam13 (K : PySem.W.Frag) : TE :=
    tOp oAddS (tVar 1) (tVar 0)
theorem pure_lam13 {K : PySem.W.Frag} (vs : List V) (H : Hp) (Q : VK) (h : sp2 (jnD 13) vs H Q L2.E0) : t_lam13 K (NdefX.startF ["one", "other"] vs []) H Q := by
  obtain ⟨x, y, dx, dy, d, S, rfl, rx, ry, fr, e, q⟩ := h
  obtain ⟨a, b, rfl, rfl, ln, rfl⟩ := s2_at e
  cases r_str rx
  cases r_str ry
  show t_lam13 K [some (.str a), some (.str b)] H Q
  unfold t_lam13
  walk_at "w"
  exact q _ _ .refl (.str _)
def t_lam18 (K : PySem.W.Frag) : TE :=
    tIf (tAnd (tTest (tOp rEq (tVar 0) (tC (.int 0)))) (tTest (tOp rEq (tVar 1) (tC (.int 0))))) (tC (.int 7)) (tOp oAdd (tVar 0) (tVar 1))
theorem pure_lam18 {K : PySem.W.Frag} (vs : List V) (H : Hp) (Q : VK) (h : sp2 (jnD 18) vs H Q L2.E0) : t_lam18 K (NdefX.startF ["one", "other"] vs []) H Q := by
  obtain ⟨x, y, dx, dy, d, S, rfl, rx, ry, fr, e, q⟩ := h
  obtain ⟨a, b, rfl, rfl, rfl⟩ := i2_at e
  cases r_int rx
  cases r_int ry
  show t_lam18 K [some (.int a), some (.int b)] H Q
  unfold t_lam18
  walk_at "w"
  refine w_iteD (fun h1 => ?_) (fun h1 => ?_)
  · have h1 : a = 0 := V.int.inj h1
    walk_at "w"
    refine w_iteD (fun h2 => ?_) (fun h2 => ?_)
    · have h2 : b = 0 := V.int.inj h2
      walk_at "w"
      have := q (.int 7) H .refl
      rw [if_pos ⟨h1, h2⟩] at this
      exact this (.int _)
    · have h2 : ¬ b = 0 := fun z => h2 (by rw [z])
      walk_at "w"
      have := q (.int (a + b)) H .refl
      rw [if_neg (fun z => h2 z.2)] at this
      exact this (.int _)
  · have h1 : ¬ a = 0 := fun z => h1 (by rw [z])
    walk_at "w"
    have := q (.int (a + b)) H .refl
    rw [if_neg (fun z => h1 z.1)] at this
    exact this (.int _)
def t_lam21 (K : PySem.W.Frag) : TE :=
    tIf (tTest (tOp rEq (tOp oAdd (tVar 0) (tVar 1)) (tC (.int 5)))) (tC (.int 6)) (tOp oAdd (tVar 0) (tVar 1))
theorem pure_lam21 {K : PySem.W.Frag} (vs : List V) (H : Hp) (Q : VK) (h : sp2 (jnD 21) vs H Q L2.E0) : t_lam21 K (NdefX.startF ["one", "other"] vs []) H Q := by
  obtain ⟨x, y, dx, dy, d, S, rfl, rx, ry, fr, e, q⟩ := h
  obtain ⟨a, b, rfl, rfl, rfl⟩ := i2_at e
  cases r_int rx
  cases r_int ry
  show t_lam21 K [some (.int a), some (.int b)] H Q
  unfold t_lam21
  walk_at "w"
  refine w_iteD (fun h1 => ?_) (fun h1 => ?_)
  · have h1 : a + b = 5 := V.int.inj h1
    walk_at "w"
    have := q (.int 6) H .refl
    rw [if_pos h1] at this
    exact this (.int _)
  · have h1 : ¬ a + b = 5 := fun z => h1 (by rw [z])
    walk_at "w"
    have := q (.int (a + b)) H .refl
    rw [if_neg h1] at this
    exact this (.int _)
def t_lam19 (K : PySem.W.Frag) : TE :=
    tCB cMin (tCons (tOp oAdd (tVar 0) (tVar 1)) (tCons (tC (.int 10)) (tNil)))
theorem pure_lam19 {K : PySem.W.Frag} (vs : List V) (H : Hp) (Q : VK) (h : sp2 (jnD 19) vs H Q L2.E0) : t_lam19 K (NdefX.startF ["one", "other"] vs []) H Q := by
  obtain ⟨x, y, dx, dy, d, S, rfl, rx, ry, fr, e, q⟩ := h
  obtain ⟨a, b, rfl, rfl, rfl⟩ := i2_at e
  cases r_int rx
  cases r_int ry
  show t_lam19 K [some (.int a), some (.int b)] H Q
  unfold t_lam19
  walk_at "w"
  have e2 : (if 10 < a + b then 10 else a + b) = min (a + b) 10 := by omega
  have q' := q (.int (min (a + b) 10)) H .refl (.int _)
  rw [← e2] at q'
  exact q'
def t_lam23 (K : PySem.W.Frag) : TE :=
    tOp oFdiv (tOp oAdd (tVar 0) (tVar 1)) (tC (.int 2))
theorem pure_lam23 {K : PySem.W.Frag} (vs : List V) (H : Hp) (Q : VK) (h : sp2 (jnD 23) vs H Q L2.E0) : t_lam23 K (NdefX.startF ["one", "other"] vs []) H Q := by
  obtain ⟨x, y, dx, dy, d, S, rfl, rx, ry, fr, e, q⟩ := h
  obtain ⟨a, b, rfl, rfl, rfl⟩ := i2_at e
  cases r_int rx
  cases r_int ry
  show t_lam23 K [some (.int a), some (.int b)] H Q
  unfold t_lam23
  walk_at "w"
  refine w_fdiv (cdivS (by decide) (by decide)) ?_
  exact q _ _ .refl (.int _)
def t_lam10 (K : PySem.W.Frag) : TE :=
    tOp oMod (tOp oMul (tVar 0) (tVar 1)) (tC (.int 7))
theorem pure_lam10 {K : PySem.W.Frag} (vs : List V) (H : Hp) (Q : VK) (h : sp2 (jnD 10) vs H Q L2.E0) : t_lam10 K (NdefX.startF ["one", "other"] vs []) H Q := by
  obtain ⟨x, y, dx, dy, d, S, rfl, rx, ry, fr, e, q⟩ := h

  have key : ∃ a b, dx = .int a ∧ dy = .int b ∧ (0 ≤ a ∧ a < 7) ∧ (0 ≤ b ∧ b < 7) ∧ d = .int (a * b % 7) := by
    cases dx <;> cases dy <;> first | cases e | skip
    rename_i a b
    have e : (if (0 ≤ a ∧ a < 7) ∧ (0 ≤ b ∧ b < 7) then some (PyData.int (a * b % 7)) else none) = some d := e
    split at e
    · rename_i h; cases e; exact ⟨_, _, rfl, rfl, h.1, h.2, rfl⟩
    · cases e
  obtain ⟨a, b, rfl, rfl, ha, hb, rfl⟩ := key
  cases r_int rx
  cases r_int ry
  show t_lam10 K [some (.int a), some (.int b)] H Q
  unfold t_lam10
  walk_at "w"
  refine w_mul (cmulL (by omega) (by omega)) ?_
  walk_at "w"
  exact q _ _ .refl (.int _)
def t_lam4 (K : PySem.W.Frag) : TE :=
    tIf (tTest (tOp oIsN (tVar 1) (tC .non))) (tVar 0) (tVar 1)
theorem pure_lam4 {K : PySem.W.Frag} (vs : List V) (H : Hp) (Q : VK) (h : sp2 (jnD 4) vs H Q L2.E0) : t_lam4 K (NdefX.startF ["one", "other"] vs []) H Q := by
  obtain ⟨x, y, dx, dy, d, S, rfl, rx, ry, fr, e, q⟩ := h

  have ne : ∀ {z : PyData}, z ≠ .none → lat2 dx z = some z := fun {z} hz => by cases z <;> first | rfl | exact absurd rfl hz
  by_cases hy : dy = .none
  · subst hy
    cases ry
    have e : lat2 dx .none = some d := e
    have e2 : some dx = some d := by rw [← e]; cases dx <;> rfl
    cases e2
    show t_lam4 K [some x, some .non] H Q
    unfold t_lam4
    walk_at "w"
    exact q _ _ .refl rx
  · have e : lat2 dx dy = some d := e
    rw [ne hy] at e
    cases e
    have nv : y ≠ .non := fun z => by subst z; cases ry; exact hy rfl
    show t_lam4 K [some x, some y] H Q
    unfold t_lam4
    walk_at "w"
    rw [if_neg (by simpa using nv)]
    walk_at "w"
    exact q _ _ .refl ry
def t_lam15 (K : PySem.W.Frag) : TE :=
    tIf (tTest (tOp oIsN (tVar 1) (tC .non))) (tVar 0) (tVar 1)
theorem pure_lam15 {K : PySem.W.Frag} (vs : List V) (H : Hp) (Q : VK) (h : sp2 (jnD 15) vs H Q L2.E0) : t_lam15 K (NdefX.startF ["one", "other"] vs []) H Q := by
  obtain ⟨x, y, dx, dy, d, S, rfl, rx, ry, fr, e, q⟩ := h

  have ne : ∀ {z : PyData}, z ≠ .none → lat2 dx z = some z := fun {z} hz => by cases z <;> first | rfl | exact absurd rfl hz
  by_cases hy : dy = .none
  · subst hy
    cases ry
    have e : lat2 dx .none = some d := e
    have e2 : some dx = some d := by rw [← e]; cases dx <;> rfl
    cases e2
    show t_lam15 K [some x, some .non] H Q
    unfold t_lam15
    walk_at "w"
    exact q _ _ .refl rx
  · have e : lat2 dx dy = some d := e
    rw [ne hy] at e
    cases e
    have nv : y ≠ .non := fun z => by subst z; cases ry; exact hy rfl
    show t_lam15 K [some x, some y] H Q
    unfold t_lam15
    walk_at "w"
    rw [if_neg (by simpa using nv)]
    walk_at "w"
    exact q _ _ .refl ry
def t_lam27 (K : PySem.W.Frag) : TE :=
    tVar 1
theorem pure_lam27 {K : PySem.W.Frag} (vs : List V) (H : Hp) (Q : VK) (h : sp2 (jnD 27) vs H Q L2.E0) : t_lam27 K (NdefX.startF ["one", "other"] vs []) H Q := by
  obtain ⟨x, y, dx, dy, d, S, rfl, rx, ry, fr, e, q⟩ := h

  have e : some dy = some d := by
    rw [← e]
    cases dx <;> cases dy <;> rfl
  cases e
  show t_lam27 K [some x, some y] H Q
  unfold t_lam27
  walk_at "w"
  exact q _ _ .refl ry
def t_lam8 (K : PySem.W.Frag) : TE :=
    tOp rCat (tVar 0) (tVar 1)
theorem pure_lam8 {K : PySem.W.Frag} (vs : List V) (H : Hp) (Q : VK) (h : sp2 (jnD 8) vs H Q L2.E0) : t_lam8 K (NdefX.startF ["one", "other"] vs []) H Q := by
  obtain ⟨x, y, dx, dy, d, S, rfl, rx, ry, fr, e, q⟩ := h

  have key : ∃ xs ys, dx = .list xs ∧ dy = .list ys ∧ xs.length + ys.length ≤ 90000 ∧ d = .list (xs ++ ys) := by
    cases dx <;> cases dy <;> first | cases e | skip
    rename_i xs ys
    have e : (if xs.length + ys.length ≤ 90000 then some (PyData.list (xs ++ ys)) else none) = some d := e
    split at e
    · rename_i h; cases e; exact ⟨_, _, rfl, rfl, h, rfl⟩
    · cases e
  obtain ⟨xs, ys, rfl, rfl, ln, rfl⟩ := key
  cases rx with
  | @lst p us _ s1 hp ra =>
  cases ry with
  | @lst p2 ws _ s2 hp2 rb =>
  show t_lam8 K [some (.ref p), some (.ref p2)] H Q
  unfold t_lam8
  walk_at "w"
  have l1 := ra.length
  have l2 := rb.length
  refine w_cat hp hp2 (by omega) fun p3 H3 n3 c3 h3 => ?_
  exact q _ _ c3 (.lst (fr _ n3) h3 ((ra.same c3).append (rb.same c3)))
def t_lam26 (K : PySem.W.Frag) : TE :=
    tIf (tTest (tOp oIsN (tVar 0) (tC .non))) (tC (.int 1)) (tOp oAdd (tVar 0) (tC (.int 1)))
theorem pure_lam26 {K : PySem.W.Frag} (vs : List V) (H : Hp) (Q : VK) (h : sp2 (jnD 26) vs H Q L2.E0) : t_lam26 K (NdefX.startF ["one", "other"] vs []) H Q := by
  obtain ⟨x, y, dx, dy, d, S, rfl, rx, ry, fr, e, q⟩ := h

  cases hx : dx with
  | none =>
    subst hx
    cases rx
    have e : some (PyData.int 1) = some d := e
    cases e
    show t_lam26 K [some .non, some y] H Q
    unfold t_lam26
    walk_at "w"
    exact q _ _ .refl (.int _)
  | int a =>
    subst hx
    cases r_int rx
    have e : some (PyData.int (a + 1)) = some d := by rw [← e]; cases dy <;> rfl
    cases e
    show t_lam26 K [some (.int a), some y] H Q
    unfold t_lam26
    walk_at "w"
    exact q _ _ .refl (.int _)
  | _ => subst hx; cases dy <;> cases e
def t_lam24 (K : PySem.W.Frag) : TE :=
    tOp oAddS (tVar 0) (tSl rSlS (tVar 1) (tNoPart) (tPart (tC (.int 2))))
theorem pure_lam24 {K : PySem.W.Frag} (vs : List V) (H : Hp) (Q : VK) (h : sp2 (jnD 24) vs H Q L2.E0) : t_lam24 K (NdefX.startF ["one", "other"] vs []) H Q := by
  obtain ⟨x, y, dx, dy, d, S, rfl, rx, ry, fr, e, q⟩ := h
  obtain ⟨a, b, rfl, rfl, ln, rfl⟩ := s2_at e
  cases r_str rx
  cases r_str ry
  show t_lam24 K [some (.str a), some (.str b)] H Q
  unfold t_lam24
  walk_at "w"
  have := cutS_le b none (some 2)
  refine w_addS (by rw [sizeLine_eq]; omega) ?_
  exact q _ _ .refl (.str _)
def t_lam2 (K : PySem.W.Frag) : TE :=
    tJoin [tFmt (tVar 0), tC (.str ";")]
theorem pure_lam2 {K : PySem.W.Frag} (vs : List V) (H : Hp) (Q : VK) (h : sp1 (mkD 2) vs H Q L2.E0) : t_lam2 K (NdefX.startF ["number"] vs []) H Q := by
  obtain ⟨n, d, S, rfl, fr, e, q⟩ := h
  obtain ⟨hn, e⟩ := mkD_at e
  cases e
  show t_lam2 K [some (.int n)] H Q
  unfold t_lam2
  exact w_fs (lg30 hn) (len_text hn) (by decide) (q _ _ .refl (.str _))
def t_lam6 (K : PySem.W.Frag) : TE :=
    tJoin [tFmt (tVar 0), tC (.str ";")]
theorem pure_lam6 {K : PySem.W.Frag} (vs : List V) (H : Hp) (Q : VK) (h : sp1 (mkD 6) vs H Q L2.E0) : t_lam6 K (NdefX.startF ["number"] vs []) H Q := by
  obtain ⟨n, d, S, rfl, fr, e, q⟩ := h
  obtain ⟨hn, e⟩ := mkD_at e
  cases e
  show t_lam6 K [some (.int n)] H Q
  unfold t_lam6
  exact w_fs (lg30 hn) (len_text hn) (by decide) (q _ _ .refl (.str _))
def t_lam25 (K : PySem.W.Frag) : TE :=
    tJoin [tFmt (tVar 0), tC (.str ";")]
theorem pure_lam25 {K : PySem.W.Frag} (vs : List V) (H : Hp) (Q : VK) (h : sp1 (mkD 25) vs H Q L2.E0) : t_lam25 K (NdefX.startF ["number"] vs []) H Q := by
  obtain ⟨n, d, S, rfl, fr, e, q⟩ := h
  obtain ⟨hn, e⟩ := mkD_at e
  cases e
  show t_lam25 K [some (.int n)] H Q
  unfold t_lam25
  exact w_fs (lg30 hn) (len_text hn) (by decide) (q _ _ .refl (.str _))
def t_lam7 (K : PySem.W.Frag) : TE :=
    tTup (tCons (tVar 0) (tCons (tVar 0) (tNil)))
theorem pure_lam7 {K : PySem.W.Frag} (vs : List V) (H : Hp) (Q : VK) (h : sp1 (mkD 7) vs H Q L2.E0) : t_lam7 K (NdefX.startF ["number"] vs []) H Q := by
  obtain ⟨n, d, S, rfl, fr, e, q⟩ := h
  obtain ⟨hn, e⟩ := mkD_at e
  cases e
  show t_lam7 K [some (.int n)] H Q
  unfold t_lam7
  walk_at "w"
  refine k_tup (by walk_at "sz") fun T H1 nT c1 hT => ?_
  exact q _ _ c1 (.tup hT (.cons (.int _) (.cons (.int _) .nil)))
def t_lam9 (K : PySem.W.Frag) : TE :=
    tLst (tCons (tVar 0) (tNil))
theorem pure_lam9 {K : PySem.W.Frag} (vs : List V) (H : Hp) (Q : VK) (h : sp1 (mkD 9) vs H Q L2.E0) : t_lam9 K (NdefX.startF ["number"] vs []) H Q := by
  obtain ⟨n, d, S, rfl, fr, e, q⟩ := h
  obtain ⟨hn, e⟩ := mkD_at e
  cases e
  show t_lam9 K [some (.int n)] H Q
  unfold t_lam9
  walk_at "w"
  refine k_lst (by walk_at "sz") fun T H1 nT c1 hT => ?_
  exact q _ _ c1 (.lst (fr _ nT) hT (.cons (.int _) .nil))
def t_lam11 (K : PySem.W.Frag) : TE :=
    tOp oMod (tVar 0) (tC (.int 7))
theorem pure_lam11 {K : PySem.W.Frag} (vs : List V) (H : Hp) (Q : VK) (h : sp1 (mkD 11) vs H Q L2.E0) : t_lam11 K (NdefX.startF ["number"] vs []) H Q := by
  obtain ⟨n, d, S, rfl, fr, e, q⟩ := h
  obtain ⟨hn, e⟩ := mkD_at e
  cases e
  show t_lam11 K [some (.int n)] H Q
  unfold t_lam11
  walk_at "w"
  exact q _ _ .refl (.int _)
def t_lam14 (K : PySem.W.Frag) : TE :=
    tCB cStrI (tCons (tOp oMod (tVar 0) (tC (.int 10))) (tNil))
theorem pure_lam14 {K : PySem.W.Frag} (vs : List V) (H : Hp) (Q : VK) (h : sp1 (mkD 14) vs H Q L2.E0) : t_lam14 K (NdefX.startF ["number"] vs []) H Q := by
  obtain ⟨n, d, S, rfl, fr, e, q⟩ := h
  obtain ⟨hn, e⟩ := mkD_at e
  cases e
  show t_lam14 K [some (.int n)] H Q
  unfold t_lam14
  walk_at "w"
  refine w_strI (lg30 (by omega)) ?_
  exact q _ _ .refl (.str _)
def t_lam16 (K : PySem.W.Frag) : TE :=
    tOp oFdiv (tVar 0) (tC (.int 2))
theorem pure_lam16 {K : PySem.W.Frag} (vs : List V) (H : Hp) (Q : VK) (h : sp1 (mkD 16) vs H Q L2.E0) : t_lam16 K (NdefX.startF ["number"] vs []) H Q := by
  obtain ⟨n, d, S, rfl, fr, e, q⟩ := h
  obtain ⟨hn, e⟩ := mkD_at e
  cases e
  show t_lam16 K [some (.int n)] H Q
  unfold t_lam16
  walk_at "w"
  refine w_fdiv (cdivS (by decide) (by decide)) ?_
  exact q _ _ .refl (.int _)
def t_lam20 (K : PySem.W.Frag) : TE :=
    tCB cAbs (tCons (tVar 0) (tNil))
theorem pure_lam20 {K : PySem.W.Frag} (vs : List V) (H : Hp) (Q : VK) (h : sp1 (mkD 20) vs H Q L2.E0) : t_lam20 K (NdefX.startF ["number"] vs []) H Q := by
  obtain ⟨n, d, S, rfl, fr, e, q⟩ := h
  obtain ⟨hn, e⟩ := mkD_at e
  cases e
  show t_lam20 K [some (.int n)] H Q
  unfold t_lam20
  walk_at "w"
  exact q _ _ .refl (.int _)
def t_lam28 (K : PySem.W.Frag) : TE :=
    tIf (tTest (tOp rEq (tOp oMod (tVar 0) (tC (.int 3))) (tC (.int 0)))) (tC .non) (tVar 0)
theorem pure_lam28 {K : PySem.W.Frag} (vs : List V) (H : Hp) (Q : VK) (h : sp1 (mkD 28) vs H Q L2.E0) : t_lam28 K (NdefX.startF ["number"] vs []) H Q := by
  obtain ⟨n, d, S, rfl, fr, e, q⟩ := h
  obtain ⟨hn, e⟩ := mkD_at e
  cases e
  show t_lam28 K [some (.int n)] H Q
  unfold t_lam28
  walk_at "w"
  refine w_iteD (fun h1 => ?_) (fun h1 => ?_)
  · have h1 : n % 3 = 0 := V.int.inj h1
    walk_at "w"
    have := q .non H .refl
    rw [if_pos h1] at this
    exact this .non
  · have h1 : ¬ n % 3 = 0 := fun z => h1 (by rw [z])
    walk_at "w"
    have := q (.int n) H .refl
    rw [if_neg h1] at this
    exact this (.int _)
def t_lam30 (K : PySem.W.Frag) : TE :=
    tOp oGt (tVar 0) (tC (.int 2))
theorem pure_lam30 {K : PySem.W.Frag} (vs : List V) (H : Hp) (Q : VK) (h : sp1 (mkD 30) vs H Q L2.E0) : t_lam30 K (NdefX.startF ["number"] vs []) H Q := by
  obtain ⟨n, d, S, rfl, fr, e, q⟩ := h
  obtain ⟨hn, e⟩ := mkD_at e
  cases e
  show t_lam30 K [some (.int n)] H Q
  unfold t_lam30
  walk_at "w"
  exact q _ _ .refl (.bl _)
def t_lam29 (K : PySem.W.Frag) : TE :=
    tCB cMaxB (tCons (tVar 0) (tCons (tVar 1) (tNil)))
theorem pure_lam29 {K : PySem.W.Frag} (vs : List V) (H : Hp) (Q : VK) (h : sp2 (jnD 29) vs H Q L2.E0) : t_lam29 K (NdefX.startF ["one", "other"] vs []) H Q := by
  obtain ⟨x, y, dx, dy, d, S, rfl, rx, ry, fr, e, q⟩ := h

  obtain ⟨i, j, e1, e2, rfl⟩ := mxD_at e
  show t_lam29 K [some x, some y] H Q
  unfold t_lam29
  walk_at "w"
  refine ⟨x, y, i, j, rfl, r_ni rx e1, r_ni ry e2, ?_⟩
  refine q _ _ .refl ?_
  by_cases h : j > i
  · rw [if_pos h, if_pos h]; exact ry
  · rw [if_neg h, if_neg h]; exact rx
end Fg
namespace Fg
open PySem PySem.Spec PyProof.Rows L2
section
section
variable {P : Program} {w : World} {K : PySem.W.Frag} {mg : Str → Option Value} {base : Heap} {x qual : Str} {st : Stmt} {f : Addr} {fd : FuncData} {sp : Sp} {k : Nat}
/-- a method as it stands -/
abbrev MtP (K : PySem.W.Frag) (x qual : Str) (st : Stmt) (f : Addr) (fd : FuncData) : Prop := FunD K x qual (defArgs st) (defBody st) (defScope st) [] [] f fd
theorem MtP.go {N ps : List Str} (F : MtP K x qual st f fd) (S : FnScope N ps (defScope st)) (len : ∀ vs H Q E, sp vs H Q E → vs.length = ps.length) (t : TS)
    (pure : ∀ (vs : List V) (H : Hp) (Q : VK) (E : XK), sp vs H Q E → t { nx := fun _ H' => Q .non H', rt := Q } (start N vs) H)
    (hbody : ∀ (cdv : Value) (A : Around) (outer : List Env) (s : Shared) (H : Hp) (E : XK), Room k (A.deeper (envOfC qual (defScope st) s.heap.objs.size f cdv)) →
      PSs (cxOf CX0 P w K mg base N qual (defScope st) f cdv A outer s H E).nox (defBody st) t) : FnOk P w K mg base CX0 (k + 1) f fd ps sp :=
  F.ok S len fun cdv A outer s H vs Q E hr h => ⟨t, PSs.nox (hbody cdv A outer s H E hr), pure vs H Q E h⟩
end
end
end Fg
namespace PySem.SeqAt
open AutoSeq1 (wpAny_loadPart')
open MeetsSeq
end PySem.SeqAt
namespace Fg
open PySem PySem.Spec PyProof.Rows L2
section
variable {X : Cx} {pins : List (Addr × Obj)} {σ : L2.St} {H : Hp} {s : Shared}
theorem lstAt {p : Addr} {xs : List V} (I : Inv X pins σ H s) (h : H p = some (.lst xs)) : ∃ its : List Value, Vals xs its ∧ s.heap.IsList p its.toArray := by
  obtain ⟨_, its, n, rv, h1⟩ := (show ObjOk X.prog X.w H s.heap p (.lst xs) from I.hok p _ h)
  exact ⟨its, rv, ⟨_, h1, rfl, n, rfl⟩⟩
end
end Fg
namespace L2
open PySem PySem.Spec PyProof.Rows
end L2
namespace Fg
open PySem PySem.Spec PyProof.Rows L2
section
variable {X : Cx}
structure MkI (P : Program) (w : World) (K : PySem.W.Frag) (mg : Str → Option Value) (base : Heap) (k : Nat) (x : Str) (C : Addr) (sp : Sp) (dvs : List V) : Prop where
  ex : ∃ (f : Addr) (fd : FuncData) (ps : List Str) (ds : List Value), Mk K C f ∧ FnOk P w K mg base CX0 k f fd ps sp ∧ mg x = some (.ref C) ∧ Binds K fd ps ds ∧ Vals dvs ds
theorem pe_mkI {k j : Nat} {x : Str} {C : Addr} {sp : Sp} {dvs : List V} {p pos : Pos} {e : Expr} {es : List Expr} {t : TA} (c : MkI X.prog X.w X.K X.mg X.base k x C sp dvs) (hr : Room j X.A) (hk : k + 1 ≤ j) (hg : Gl X x) (ha : PA X (e :: es) t)
    (hdb : (x == ("__debug__" : Str)) = false := by decide) (he : starEach (e :: es) X.env = (false, eval e X.env) :: starEach es X.env := by rfl) (hpl : (backTo pos (starEach es X.env)).any (·.1) = false := by rfl) :
    PE X (.Call (.Name x p) (e :: es) [] pos) (tMake C sp dvs E0 t) := by
  obtain ⟨f, fd, ps, ds, M, F, hm, b, d⟩ := c.ex
  exact pe_make M F (hr.mono hk) hg hm b d pass0 ha hdb he hpl
end
end Fg
namespace Fg
open PySem PySem.Spec PyProof.Rows L2
section
def KFld (K : PySem.W.Frag) (f : Str) (Q : VK) : VK := fun x H1 => ∃ a C dx fs v, x = .ref a ∧ H1 a = some (.ins C dx fs) ∧ Cls K C ∧ NoAttr K C f ∧ fs.lookup f = some v ∧ Q v H1
def KSet (K : PySem.W.Frag) (f : Str) (y : V) (N : Hp → Prop) : VK := fun x H2 => ∃ a C dx fs, x = .ref a ∧ H2 a = some (.ins C dx fs) ∧ Cls K C ∧ NoAttr K C f ∧ fs.length < 1000 ∧ N (upd H2 a (.ins C dx (putF f y fs)))
def KAugE (K : PySem.W.Frag) (C : Addr) (f : Str) (a : Addr) (N : Hp → Prop) : VK := fun z H3 => ∃ dx' fs', H3 a = some (.ins C dx' fs') ∧ fs'.length < 1000 ∧ N (upd H3 a (.ins C dx' (putF f z fs')))
def KAug (K : PySem.W.Frag) (tv : TE) (rd : V → V → Hp → VK → Prop) (f : Str) (D : Ends) (σ : L2.St) : VK := fun x H1 => ∃ a C dx fs v, x = .ref a ∧ H1 a = some (.ins C dx fs) ∧ Cls K C ∧ NoAttr K C f ∧ fs.lookup f = some v ∧ tv σ H1 fun y H2 => rd v y H2 (KAugE K C f a (D.nx σ))
section
variable {K : PySem.W.Frag} {σ : L2.St} {H : Hp} {D : Ends} {ta tv td ty tx : TE} {Q : VK} {f : Str} {tr : TA}
theorem w_fld (h : ta σ H (KFld K f Q)) : tFld K ta f σ H Q := h
theorem w_sfld (h : tv σ H fun y H1 => ta σ H1 (KSet K f y (D.nx σ))) : sFld K ta tv f D σ H := h
theorem w_faug {rd : V → V → Hp → VK → Prop} (h : ta σ H (KAug K tv rd f D σ)) : sFldAug K ta tv rd f D σ H := h
theorem w_rAdd {i j : Int} (q : Q (.int (i + j)) H) : L2.rAdd (.int i) (.int j) H Q := ⟨i, j, rfl, rfl, q⟩
theorem w_rSub {i j : Int} (q : Q (.int (i - j)) H) : L2.rSub (.int i) (.int j) H Q := ⟨i, j, rfl, rfl, q⟩
/-- a new instance x -/
def KMake (C : Addr) (sp : Sp) (dvs : List V) (E : XK) (Q : VK) : List V → Hp → Prop := fun vs H1 => ∀ x dx, H1 x = none → H1 dx = none → dx ≠ x → sp (.ref x :: (vs ++ dvs)) (upd (upd H1 dx (.own x)) x (.ins C dx [])) (fun v H2 => v = .non ∧ Q (.ref x) H2) E
theorem w_make {C : Addr} {sp : Sp} {dvs : List V} {E : XK} (h : tr σ H (KMake C sp dvs E Q)) : tMake C sp dvs E tr σ H Q := h
theorem k_make {C : Addr} {sp : Sp} {dvs vs : List V} {E : XK} {H1 : Hp} (h : ∀ x dx H2, H1 x = none → H1 dx = none → dx ≠ x → Chg [] H1 H2 → H2 x = some (.ins C dx []) → sp (.ref x :: (vs ++ dvs)) H2 (fun v H2 => v = .non ∧ Q (.ref x) H2) E) : KMake C sp dvs E Q vs H1 :=
  fun x dx nx nd ne => h x dx _ nx nd ne ((Chg.new nd).same (Chg.new (by rw [upd_ne (Ne.symm ne)]; exact nx))) upd_same
/-- x or y -/
def KOr (K : PySem.W.Frag) (tb : TE) (σ : L2.St) (Q : VK) : VK := fun x H1 => ∃ k, TruV K x H1 k ∧ if k = true then Q x H1 else tb σ H1 Q
theorem w_orT {tb : TE} (h : ta σ H (KOr K tb σ Q)) : tOrT K ta tb σ H Q := h
def KDG2 (ty tx : TE) (σ : L2.St) (Q : VK) : VK := fun x H1 => ∃ a, x = .ref a ∧ IsD H1 a ∧ ty σ H1 fun y H2 => tx σ H2 fun z H3 => ∃ o, DGet H3 a y o ∧ Q (o.getD z) H3
theorem w_dgetd (h : td σ H (KDG2 ty tx σ Q)) : tDGet2 td ty tx σ H Q := h
theorem k_dgetd {a : Addr} {kvs : List (Key × V)} (e : H a = some (.dK kvs)) (h : ty σ H fun y H2 => tx σ H2 fun z H3 => ∃ o, DGet H3 a y o ∧ Q (o.getD z) H3) : KDG2 ty tx σ Q (.ref a) H := ⟨a, rfl, .inl ⟨_, .inl e⟩, h⟩
def KDg (x : V) (Q : VK) : VK := fun y H2 => ∃ a v, x = .ref a ∧ DGet H2 a y (some v) ∧ Q v H2
theorem w_dgetk (h : td σ H fun x H1 => ty σ H1 (KDg x Q)) : tDGet td ty σ H Q := h
/-- d.setdefault(k, x) -/
def KDSe (a : Addr) (y : V) (Q : VK) : VK := fun z H3 => ∃ (kvs : List (Key × V)) (k : Key), H3 a = some (.dK kvs) ∧ y = kV k ∧ kvs.length < sizeLine ∧ (∀ v, valV kvs k = some v → Q v H3) ∧ (valV kvs k = none → Q z (upd H3 a (.dK (putK kvs k z))))
def KDSd (ty tx : TE) (σ : L2.St) (Q : VK) : VK := fun x H1 => ∃ a, x = .ref a ∧ IsD H1 a ∧ ty σ H1 fun y H2 => tx σ H2 (KDSe a y Q)
theorem w_dsetd (h : td σ H (KDSd ty tx σ Q)) : tDSetd td ty tx σ H Q := h
theorem k_dsetd {a : Addr} {kvs : List (Key × V)} (e : H a = some (.dK kvs)) (h : ty σ H fun y H2 => tx σ H2 (KDSe a y Q)) : KDSd ty tx σ Q (.ref a) H := ⟨a, rfl, .inl ⟨_, .inl e⟩, h⟩
end
end
section
abbrev NV := NestedKey × Addr × V
abbrev NU := NestedKey × Addr × Value
def entN (w : World) (x : NU) : DictEntry := ⟨x.1.hash w, .ref x.2.1, x.2.2⟩
def DnO (w : World) (a : Addr) (es : List NV) : HO := .ext fun h =>
  (a == sysModules) = false ∧ es.length ≤ sizeLine ∧ ∃ vs : List NU, Paired (fun p q => p.1 = q.1 ∧ p.2.1 = q.2.1 ∧ RelV p.2.2 q.2.2) es vs ∧
    ∃ o es' ep, h.get? a = some o ∧ o.ExactDict ∧ o.data = .dict es' ep ∧ es'.toList = vs.map (entN w) ∧ (vs.map (·.1)).Nodup
/-- at a stands a dict with these keys and values, in their order -/
def DnAt (w : World) (H : Hp) (a : Addr) (kvs : List (NestedKey × V)) : Prop :=
  ∃ es : List NV, H a = some (DnO w a es) ∧ (∀ e ∈ es, Im H (.ref e.2.1) e.1.data ∧ e.1.depth ≤ 8) ∧ kvs = es.map fun e => (e.1, e.2.2)
theorem DnAt.keep {w : World} {M : List Addr} {H H' : Hp} {a : Addr} {kvs : List (NestedKey × V)} (c : Chg M H H') (n : a ∉ M) (d : DnAt w H a kvs) : DnAt w H' a kvs :=
  let ⟨es, e, k, z⟩ := d; ⟨es, c.keep _ _ e n, fun x hx => ⟨(k x hx).1.im c, (k x hx).2⟩, z⟩
theorem DnAt.same {w : World} {H H' : Hp} {a : Addr} {kvs : List (NestedKey × V)} (c : Chg [] H H') (d : DnAt w H a kvs) : DnAt w H' a kvs := d.keep c (by simp)
theorem DnAt.some {w : World} {H : Hp} {a : Addr} {kvs : List (NestedKey × V)} (d : DnAt w H a kvs) : ∃ o, H a = some o := let ⟨_, e, _⟩ := d; ⟨_, e⟩
def NT (es : List NV) (vs : List NU) : Prop := Paired (fun (p : NV) (q : NU) => p.1 = q.1 ∧ p.2.1 = q.2.1 ∧ RelV p.2.2 q.2.2) es vs
theorem NT.val {es : List NV} {vs : List NU} (r : NT es vs) (k : NestedKey) : RelO (valV (es.map fun e => (e.1, e.2.2)) k) ((atKey vs k).map (·.2)) := by
  induction r with
  | nil => exact True.intro
  | @cons p q ps qs h t ih =>
    obtain ⟨h1, _, h2⟩ := h
    rw [List.map_cons]
    by_cases e : p.1 = k
    · have e' : q.1 = k := h1.symm.trans e
      have b : atKey (q :: qs) k = some q.2 := by simp [atKey, List.find?_cons, e']
      rw [valV_pos (p := (p.1, p.2.2)) e, b]; exact h2
    · have e' : ¬ q.1 = k := fun z => e (h1.trans z)
      have b : atKey (q :: qs) k = atKey qs k := by simp [atKey, List.find?_cons, e']
      rw [valV_neg (p := (p.1, p.2.2)) e, b]; exact ih
end
section
structure MtI (P : Program) (w : World) (K : PySem.W.Frag) (mg : Str → Option Value) (base : Heap) (k : Nat) (C : Addr) (m : Str) (sp : Sp) : Prop where
  ex : ∃ (f : Addr) (fd : FuncData) (ps : List Str), FnOk P w K mg base CX0 k f fd ps sp ∧ Cls K C ∧ Meth K C m f ∧ Binds K fd ps []
def tMakeX (C : Addr) (sp : Sp) (dvs : List V) (E : L2.St → XK) (t : TA) : TE := fun σ H Q => t σ H fun vs H1 => ∀ x dx, H1 x = none → H1 dx = none → dx ≠ x →
  sp (.ref x :: (vs ++ dvs)) (upd (upd H1 dx (.own x)) x (.ins C dx [])) (fun v H2 => v = .non ∧ Q (.ref x) H2) (E σ)
section
variable {X : Cx} {k j : Nat} {x m : Str} {C : Addr} {sp : Sp} {dvs : List V} {p pos apos : Pos} {e o : Expr} {es : List Expr} {ta : TE} {t : TA} {W : WX} {pl : Sem Bool}
theorem pe_mt (c : MtI X.prog X.w X.K X.mg X.base k C m sp) (hr : Room j X.A) (hk : k ≤ j) (he : PE X o ta) (ha : PA X (e :: es) t)
    (hst : starEach (e :: es) X.env = (false, eval e X.env) :: starEach es X.env := by rfl) (hpl : (backTo pos (starEach es X.env)).any (·.1) = false := by rfl)
    (ht : eval (.Call (.Attribute o m apos) (e :: es) [] pos) X.env = (do
      let ov ← eval o X.env
      standAt apos.atName
      let (f, first) ← holding [ov] (getMethod ov m pl)
      callWith pos f first (backTo pos (starEach (e :: es) X.env)) (backToKw pos (keywordEach [] X.env))) := by rfl) :
    PE X (.Call (.Attribute o m apos) (e :: es) [] pos) (tMeth C m sp [] E0 ta t) := by
  obtain ⟨f, fd, ps, F, cl, hm, b⟩ := c.ex
  exact pe_meth he cl hm F (hr.mono hk) b .nil pass0 ha hst hpl ht
end
def KMt (C : Addr) (m : Str) (N : V → Hp → Prop) : VK := fun x H1 => ∃ a dx fs, x = .ref a ∧ H1 a = some (.ins C dx fs) ∧ fs.lookup m = none ∧ N x H1
section
variable {K : PySem.W.Frag} {σ : L2.St} {H : Hp} {D : Ends} {te ta to ti : TE} {tr t : TA} {Q : VK} {C a : Addr} {m : Str} {sp : Sp} {dvs : List V} {RI : It → Hp → Prop} {xs : List V}
theorem w_mt {E : XK} (h : ta σ H (KMt C m fun x H1 => t σ H1 fun vs H2 => sp (x :: (vs ++ dvs)) H2 Q E)) : tMeth C m sp dvs E ta t σ H Q := h
def KMakeX (C : Addr) (sp : Sp) (dvs : List V) (E : XK) (Q : VK) : List V → Hp → Prop := fun vs H1 => ∀ x dx, H1 x = none → H1 dx = none → dx ≠ x → sp (.ref x :: (vs ++ dvs)) (upd (upd H1 dx (.own x)) x (.ins C dx [])) (fun v H2 => v = .non ∧ Q (.ref x) H2) E
theorem w_makeX {E : L2.St → XK} (h : tr σ H (KMakeX C sp dvs (E σ) Q)) : tMakeX C sp dvs E tr σ H Q := h
end
end
end Fg
namespace Fg
open PySem PySem.Spec PyProof.Rows L2 LamX LmX
def O_Kind (K : PySem.W.Frag) (dx : Addr) (v0 v1 v2 v3 : V) : HO := .ins (He.ga K "Kind") dx [("joining", v0), ("none", v1), ("making", v2), ("word", v3)]
structure C_Kind (K : PySem.W.Frag) : Prop where
  cl : Cls K (He.ga K "Kind")
  n_joining : NoAttr K (He.ga K "Kind") "joining"
  n_none : NoAttr K (He.ga K "Kind") "none"
  n_making : NoAttr K (He.ga K "Kind") "making"
  n_word : NoAttr K (He.ga K "Kind") "word"
section
variable {K : PySem.W.Frag} {H : Hp} {Q : VK} {N : Hp → Prop} {a dx : Addr} {v0 v1 v2 v3 y : V}
theorem g_Kind_joining (c : C_Kind K) (h : H a = some (O_Kind K dx v0 v1 v2 v3)) (q : Q v0 H) : KFld K "joining" Q (.ref a) H := ⟨a, _, dx, _, v0, rfl, h, c.cl, c.n_joining, rfl, q⟩
theorem n_Kind_joining (c : C_Kind K) (h : H a = some (.ins (He.ga K "Kind") dx [])) (q : ∀ H', Chg [a] H H' → H' a = some (.ins (He.ga K "Kind") dx [("joining", y)]) → N H') : KSet K "joining" y N (.ref a) H := ⟨a, _, dx, _, rfl, h, c.cl, c.n_joining, by simp, q _ (.mut h fun _ e => nomatch e) upd_same⟩
theorem g_Kind_none (c : C_Kind K) (h : H a = some (O_Kind K dx v0 v1 v2 v3)) (q : Q v1 H) : KFld K "none" Q (.ref a) H := ⟨a, _, dx, _, v1, rfl, h, c.cl, c.n_none, rfl, q⟩
theorem n_Kind_none (c : C_Kind K) (h : H a = some (.ins (He.ga K "Kind") dx [("joining", v0)])) (q : ∀ H', Chg [a] H H' → H' a = some (.ins (He.ga K "Kind") dx [("joining", v0), ("none", y)]) → N H') : KSet K "none" y N (.ref a) H := ⟨a, _, dx, _, rfl, h, c.cl, c.n_none, by simp, q _ (.mut h fun _ e => nomatch e) upd_same⟩
theorem g_Kind_making (c : C_Kind K) (h : H a = some (O_Kind K dx v0 v1 v2 v3)) (q : Q v2 H) : KFld K "making" Q (.ref a) H := ⟨a, _, dx, _, v2, rfl, h, c.cl, c.n_making, rfl, q⟩
theorem n_Kind_making (c : C_Kind K) (h : H a = some (.ins (He.ga K "Kind") dx [("joining", v0), ("none", v1)])) (q : ∀ H', Chg [a] H H' → H' a = some (.ins (He.ga K "Kind") dx [("joining", v0), ("none", v1), ("making", y)]) → N H') : KSet K "making" y N (.ref a) H := ⟨a, _, dx, _, rfl, h, c.cl, c.n_making, by simp, q _ (.mut h fun _ e => nomatch e) upd_same⟩
theorem g_Kind_word (c : C_Kind K) (h : H a = some (O_Kind K dx v0 v1 v2 v3)) (q : Q v3 H) : KFld K "word" Q (.ref a) H := ⟨a, _, dx, _, v3, rfl, h, c.cl, c.n_word, rfl, q⟩
theorem n_Kind_word (c : C_Kind K) (h : H a = some (.ins (He.ga K "Kind") dx [("joining", v0), ("none", v1), ("making", v2)])) (q : ∀ H', Chg [a] H H' → H' a = some (.ins (He.ga K "Kind") dx [("joining", v0), ("none", v1), ("making", v2), ("word", y)]) → N H') : KSet K "word" y N (.ref a) H := ⟨a, _, dx, _, rfl, h, c.cl, c.n_word, by simp, q _ (.mut h fun _ e => nomatch e) upd_same⟩
end
section
variable {K : PySem.W.Frag} {H : Hp} {Q : VK} {N : V → Hp → Prop} {a dx : Addr} {v0 v1 v2 v3 y : V} {m : Str}
theorem m_Kind (h : H a = some (O_Kind K dx v0 v1 v2 v3)) (hm : ([("joining", v0), ("none", v1), ("making", v2), ("word", v3)] : List (Str × V)).lookup m = none) (q : N (.ref a) H) : KMt (He.ga K "Kind") m N (.ref a) H := ⟨a, dx, _, rfl, h, hm, q⟩
end
end Fg
namespace Fg
open PySem PySem.Spec PyProof.Rows L2 LamX LmX
local macro_rules | `(tactic| walk_at "hp") => `(tactic| first
  | assumption
  | exact upd_same
  | (refine Chg.at (by assumption) ?_; walk_at "hp")
  | (refine Chg.at1 (by assumption) ?_ (by walk_at "ne"); walk_at "hp"))
local macro_rules | `(tactic| walk_at "ne") => `(tactic| first | assumption | (apply Ne.symm; assumption))
local macro_rules | `(tactic| walk_at "sq") => `(tactic| first | assumption | exact sqL (by walk_at "hp") | (refine Chg.seq (by assumption) ?_; walk_at "sq"))
local macro_rules | `(tactic| walk_at "sz") => `(tactic| first | assumption | exact Nat.zero_le _ | (simp only [List.length_cons, List.length_nil]; decide) | exact Nat.le_trans (by first | omega | (simp; done) | (simp; omega)) (show 100000 ≤ sizeLine by decide) | exact Nat.lt_of_lt_of_le (by first | omega | (simp; done) | (simp; omega)) (show 100000 ≤ sizeLine by decide))
local macro_rules | `(tactic| walk_at "ix") => `(tactic| first | exact at0 | exact at1 | exact at2 | exact at3 | assumption | exact rfl | walk_at "ix2")
local macro_rules | `(tactic| walk_at "ix2") => `(tactic| fail)
local macro_rules | `(tactic| walk_at "num") => `(tactic| first | assumption | omega | decide | walk_at "num2")
local macro_rules | `(tactic| walk_at "num2") => `(tactic| fail)
local macro_rules | `(tactic| walk_at "im") => `(tactic| first | assumption | exact R.non (S := fun _ => False) | exact R.bl (S := fun _ => False) _ | exact R.int (S := fun _ => False) _ | exact R.str (S := fun _ => False) _ | (refine R.im (by assumption) ?_; walk_at "im"))
local macro_rules | `(tactic| walk_at "r") => `(tactic| first | assumption | exact R.non (S := fun _ => False) | exact R.bl (S := fun _ => False) _ | exact R.int (S := fun _ => False) _ | exact R.str (S := fun _ => False) _ | (refine R.same (by assumption) ?_; walk_at "r") | exact R.any (by walk_at "im"))
local macro_rules | `(tactic| walk_at "chg") => `(tactic| first
  | exact Chg.refl
  | assumption
  | (refine Chg.same ?_ (by assumption); walk_at "chg")
  | (refine Chg.both ?_ (by assumption); walk_at "chg")
  | (refine Chg.pre (by assumption) ?_; walk_at "chg"))
local macro_rules | `(tactic| walk_at "w1") => `(tactic| first
  | with_reducible apply w_seq
  | with_reducible apply w_asg
  | ((with_reducible apply w_var); (focus (exact rfl)))
  | with_reducible apply w_c
  | with_reducible apply w_op
  | with_reducible apply w_cons
  | with_reducible apply w_nil
  | with_reducible apply w_gName
  | with_reducible apply w_if
  | with_reducible apply w_test
  | with_reducible apply w_B
  | with_reducible apply w_isbl
  | with_reducible apply w_retN
  | with_reducible apply w_next
  | with_reducible apply w_drop
  | with_reducible apply w_cb
  | with_reducible apply w_call
  | with_reducible apply w_callN
  | with_reducible apply w_bm
  | with_reducible apply w_bm0
  | ((with_reducible apply w_tyL); (focus (walk_at "hp"; done)))
  | with_reducible apply w_dput
  | with_reducible apply w_m1
  | with_reducible apply w_isstr
  | with_reducible apply w_and
  | with_reducible apply w_or
  | with_reducible apply w_not
  | with_reducible apply w_andV
  | with_reducible apply w_orV
  | with_reducible apply w_notV
  | with_reducible apply w_ifE
  | with_reducible apply w_chain
  | with_reducible apply w_un
  | with_reducible apply w_neg
  | with_reducible apply w_add
  | with_reducible apply w_sub
  | ((with_reducible apply w_mod); (focus (walk_at "num"; done)))
  | ((with_reducible apply w_mul); (focus (walk_at "num"; done)))
  | ((with_reducible apply w_fdiv); (focus (walk_at "num"; done)))
  | ((with_reducible apply w_pow); (focus (walk_at "num"; done)))
  | with_reducible apply w_lt
  | with_reducible apply w_le
  | with_reducible apply w_gt
  | with_reducible apply w_ge
  | with_reducible apply w_ltS
  | with_reducible apply w_geS
  | with_reducible apply w_inC
  | with_reducible apply w_notInC
  | with_reducible apply w_isN
  | with_reducible apply w_notN
  | with_reducible apply w_isB
  | with_reducible apply w_notB
  | ((with_reducible apply w_addS); (focus (walk_at "sz"; done)))
  | ((with_reducible apply w_ixL); (focus (walk_at "sq"; done)); (focus (walk_at "ix"; done)))
  | ((with_reducible apply w_ixT); (focus (walk_at "hp"; done)); (focus (walk_at "ix"; done)))
  | ((with_reducible apply w_ixS); (focus (walk_at "sz"; done)); (focus (walk_at "ix"; done)))
  | with_reducible apply w_gSub
  | ((with_reducible apply w_gTup); (focus (walk_at "hp"; done)); (focus (exact rfl)))
  | with_reducible apply w_gCons
  | with_reducible apply w_gNil
  | ((with_reducible apply w_aug); (focus (exact rfl)))
  | with_reducible apply w_ipI
  | ((with_reducible apply w_eq); (focus (exact rfl)))
  | ((with_reducible apply w_ne); (focus (exact rfl)))
  | with_reducible apply w_max
  | with_reducible apply w_min
  | with_reducible apply w_abs
  | with_reducible apply w_intB
  | with_reducible apply w_intI
  | with_reducible apply w_tup1
  | with_reducible apply w_lst1
  | with_reducible apply w_sl
  | with_reducible apply w_part
  | with_reducible apply w_noPart
  | with_reducible apply w_isint
  | ((with_reducible apply w_slS); (focus (walk_at "sz"; done)))
  | with_reducible apply w_iteT
  | with_reducible apply w_iteF
  | with_reducible apply w_iteN
  | ((with_reducible apply w_iteYes); (focus (exact rfl)))
  | ((with_reducible apply w_iteNo); (focus (exact rfl)))
  | ((with_reducible apply w_lenL); (focus (walk_at "sq"; done)))
  | ((with_reducible apply w_lenT); (focus (walk_at "hp"; done)))
  | ((with_reducible apply w_lenS); (focus (walk_at "sz"; done)))
  | with_reducible apply w_lc
  | with_reducible apply w_for
  | with_reducible apply w_yes
  | ((with_reducible apply w_wipe); (focus (exact rfl)))
  | with_reducible apply w_iList
  | with_reducible apply w_iTup
  | with_reducible apply w_iStr
  | with_reducible apply w_iRng1
  | with_reducible apply w_iRng2
  | with_reducible apply w_iZip
  | with_reducible apply w_iEnum
  | ((with_reducible apply d_iList); (focus (walk_at "sq"; done)))
  | ((with_reducible apply d_iTup); (focus (walk_at "hp"; done)))
  | with_reducible apply d_iStr
  | ((with_reducible apply d_iRng1); (focus (walk_at "num"; done)); (focus (walk_at "num"; done)))
  | ((with_reducible apply d_iRng2); (focus (walk_at "num"; done)); (focus (walk_at "num"; done)); (focus (walk_at "num"; done)); (focus (walk_at "num"; done)))
  | ((with_reducible apply d_iZip); (focus (walk_at "sq"; done)); (focus (walk_at "sq"; done)))
  | ((with_reducible apply d_iEnum); (focus (walk_at "sq"; done)))
  | walk_at "w2")
local macro_rules | `(tactic| walk_at "w2") => `(tactic| fail)
local macro_rules | `(tactic| walk_at "wn") => `(tactic| repeat walk_at "w1")
local macro_rules | `(tactic| walk_at "w") => `(tactic| repeat (first | walk_at "w1" | with_reducible apply w_ret))
local macro_rules | `(tactic| walk_at "w2") => `(tactic| first
  | ((with_reducible apply w_isInt); (focus (walk_at "r"; done)))
  | ((with_reducible apply w_isBool); (focus (walk_at "r"; done)))
  | ((with_reducible apply w_isStr); (focus (walk_at "r"; done)))
  | ((with_reducible apply w_isTup); (focus (walk_at "r"; done)))
  | ((with_reducible apply w_isLst); (focus (walk_at "r"; done)))
  | with_reducible apply w_fld
  | with_reducible apply w_sfld
  | with_reducible apply w_faug
  | with_reducible apply w_rAdd
  | with_reducible apply w_rSub
  | with_reducible apply w_make
  | with_reducible apply w_orT
  | with_reducible apply w_dgetd
  | with_reducible apply w_dgetk
  | with_reducible apply w_dsetd
  | ((with_reducible apply k_dgetd); (focus (walk_at "hp"; done)))
  | ((with_reducible apply k_dsetd); (focus (walk_at "hp"; done)))
  | walk_at "w3")
local macro_rules | `(tactic| walk_at "w3") => `(tactic| fail)
local macro_rules | `(tactic| walk_at "w3") => `(tactic| first
  | with_reducible apply w_mt
  | with_reducible apply w_makeX
  | ((with_reducible apply m_Kind); (focus (walk_at "hp"; done)); (focus (exact rfl)))
  | ((with_reducible apply g_Kind_joining); (focus (assumption; done)); (focus (walk_at "hp"; done)))
  | ((with_reducible apply g_Kind_none); (focus (assumption; done)); (focus (walk_at "hp"; done)))
  | ((with_reducible apply g_Kind_making); (focus (assumption; done)); (focus (walk_at "hp"; done)))
  | ((with_reducible apply g_Kind_word); (focus (assumption; done)); (focus (walk_at "hp"; done))))
def leD : PyData → PyData → Option PyData
  | .none, y => some y
  | x, .none => some x
  | .int a, .int b => some (.int (min a b))
  | _, _ => none
def apD : PyData → PyData → Option PyData
  | .none, y => some y
  | x, .none => some x
  | .int a, .int b => some (.int (a - b))
  | _, _ => none
def lnD : PyData → PyData → Option PyData
  | .none, _ => some .none
  | x, .none => some x
  | .int a, .int b => some (.int (a + b))
  | _, _ => none
def intsOf : List PyData → Option (List Int)
  | [] => some []
  | .int a :: r => (intsOf r).map (a :: ·)
  | _ => none
def boD : PyData → PyData → Option PyData
  | .tuple xs, .tuple ys => match intsOf (xs ++ ys) with
    | some [] => some (.tuple [])
    | some (n :: r) => if (n :: r).length ≤ 1000 then some (.tuple [.int (r.foldl min n), .int (r.foldl max n)]) else none
    | none => none
  | _, _ => none
def SFk (K : PySem.W.Frag) : List (Addr × Sp) := [(He.ga K "lesser", sp2 leD), (He.ga K "later", sp2 lat2), (He.ga K "_law_lesser", sp2 leD), (He.ga K "_law_apart", sp2 apD), (He.ga K "_law_both", sp2 boD), (He.ga K "_law_left_none", sp2 lnD)]
def mkers : List Nat := [2, 6, 7, 9, 11, 14, 16, 20, 25, 28, 30]
def lspD (j : Nat) : Sp := if j ∈ mkers then sp1 (mkD j) else sp2 (jnD j)
def CVw (K : PySem.W.Frag) (L : Nat → Addr → LF) : Addr → List V → Hp → VK → Prop := CVk L 31 lspD (SFk K)
/-- the lambda j stands at f -/
def LmAt (L : Nat → Addr → LF) (H : Hp) (f : Addr) (j : Nat) : Prop := ∃ c', H f = some (LmO f (L j c')) ∧ H c' = some (CodeO c' (L j c').qual)
/-- v is a function of two worths -/
def JV (K : PySem.W.Frag) (L : Nat → Addr → LF) (H : Hp) (v : V) (jf : PyData → PyData → Option PyData) : Prop :=
  ∃ f, v = .ref f ∧ ((∃ j, j < 31 ∧ j ∉ mkers ∧ jf = jnD j ∧ LmAt L H f j) ∨ (f, sp2 jf) ∈ SFk K)
/-- v is None, or a function of a number -/
def MV (L : Nat → Addr → LF) (H : Hp) (v : V) (mf : Int → Option PyData) : Prop :=
  (v = .non ∧ mf = fun n => some (.int n)) ∨ ∃ f j, v = .ref f ∧ j ∈ mkers ∧ mf = mkD j ∧ LmAt L H f j
/-- nothing of M is a function or an instance -/
def NoX (M : List Addr) (H : Hp) : Prop := ∀ a ∈ M, (∀ z, H a ≠ some (.ext z)) ∧ ∀ C dx fs, H a ≠ some (.ins C dx fs)
theorem NoX.nil {H : Hp} : NoX [] H := fun a h => by cases h
theorem LmAt.keep {L : Nat → Addr → LF} {M : List Addr} {H H' : Hp} {f : Addr} {j : Nat} (c : Chg M H H') (n : NoX M H) (h : LmAt L H f j) : LmAt L H' f j := by
  obtain ⟨c', h1, h2⟩ := h
  exact ⟨c', c.keep _ _ h1 fun m => (n _ m).1 _ h1, c.keep _ _ h2 fun m => (n _ m).1 _ h2⟩
theorem JV.keep {K : PySem.W.Frag} {L : Nat → Addr → LF} {M : List Addr} {H H' : Hp} {v : V} {jf : PyData → PyData → Option PyData} (c : Chg M H H') (n : NoX M H) (h : JV K L H v jf) : JV K L H' v jf := by
  obtain ⟨f, rfl, ⟨j, hj, hm, e, hl⟩ | h⟩ := h
  · exact ⟨f, rfl, .inl ⟨j, hj, hm, e, hl.keep c n⟩⟩
  · exact ⟨f, rfl, .inr h⟩
theorem MV.keep {L : Nat → Addr → LF} {M : List Addr} {H H' : Hp} {v : V} {mf : Int → Option PyData} (c : Chg M H H') (n : NoX M H) (h : MV L H v mf) : MV L H' v mf := by
  rcases h with h | ⟨f, j, e, hm, e2, hl⟩
  · exact .inl h
  · exact .inr ⟨f, j, e, hm, e2, hl.keep c n⟩
theorem mkers_lt {j : Nat} (h : j ∈ mkers) : j < 31 := by
  simp [mkers] at h
  omega
/-- calling a function of two worths -/
theorem JV.cv {K : PySem.W.Frag} {L : Nat → Addr → LF} {H : Hp} {v : V} {jf : PyData → PyData → Option PyData} {vs : List V} {Q : VK} (h : JV K L H v jf) : ∃ f, v = .ref f ∧ ∀ H1, Chg [] H H1 → sp2 jf vs H1 Q L2.E0 → CVw K L f vs H1 Q := by
  obtain ⟨f, rfl, h⟩ := h
  refine ⟨f, rfl, fun H1 c hs => ?_⟩
  rcases h with ⟨j, hj, hm, rfl, hl⟩ | h
  · obtain ⟨c', h1, h2⟩ := hl.keep c .nil
    refine .inl ⟨j, c', hj, h1, h2, ?_⟩
    unfold lspD
    rw [if_neg hm]
    exact hs
  · exact .inr ⟨_, h, rfl, hs⟩
theorem JV.cvs {K : PySem.W.Frag} {L : Nat → Addr → LF} {H : Hp} {v : V} {jf : PyData → PyData → Option PyData} (h : JV K L H v jf) : ∃ f, v = .ref f ∧ ∀ H1 vs Q, Chg [] H H1 → sp2 jf vs H1 Q L2.E0 → CVw K L f vs H1 Q := by
  obtain ⟨f, rfl, h⟩ := h
  refine ⟨f, rfl, fun H1 vs Q c hs => ?_⟩
  rcases h with ⟨j, hj, hm, rfl, hl⟩ | h
  · obtain ⟨c', h1, h2⟩ := hl.keep c .nil
    refine .inl ⟨j, c', hj, h1, h2, ?_⟩
    unfold lspD
    rw [if_neg hm]
    exact hs
  · exact .inr ⟨_, h, rfl, hs⟩
theorem MV.cv {K : PySem.W.Frag} {L : Nat → Addr → LF} {H : Hp} {v : V} {mf : Int → Option PyData} {vs : List V} {Q : VK} (h : MV L H v mf) (hv : v ≠ .non) : ∃ f, v = .ref f ∧ ∀ H1, Chg [] H H1 → sp1 mf vs H1 Q L2.E0 → CVw K L f vs H1 Q := by
  rcases h with ⟨e, _⟩ | ⟨f, j, rfl, hm, rfl, hl⟩
  · exact absurd e hv
  · refine ⟨f, rfl, fun H1 c hs => ?_⟩
    obtain ⟨c', h1, h2⟩ := hl.keep c .nil
    refine .inl ⟨j, c', mkers_lt hm, h1, h2, ?_⟩
    unfold lspD
    rw [if_pos hm]
    exact hs
/-- a Kind in the heap -/
def KdAt (K : PySem.W.Frag) (L : Nat → Addr → LF) (S : Addr → Prop) (H : Hp) (a : Addr) (jf : PyData → PyData → Option PyData) (nd : PyData) (mf : Int → Option PyData) : Prop :=
  ∃ dx v0 v1 v2 v3, H a = some (O_Kind K dx v0 v1 v2 v3) ∧ JV K L H v0 jf ∧ R S H v1 nd ∧ MV L H v2 mf
theorem KdAt.keep {K : PySem.W.Frag} {L : Nat → Addr → LF} {S : Addr → Prop} {M : List Addr} {H H' : Hp} {a : Addr} {jf : PyData → PyData → Option PyData} {nd : PyData} {mf : Int → Option PyData} (c : Chg M H H') (n : NoX M H) (hs : ∀ a, S a → a ∉ M) (h : KdAt K L S H a jf nd mf) : KdAt K L S H' a jf nd mf := by
  obtain ⟨dx, v0, v1, v2, v3, h1, h2, h3, h4⟩ := h
  exact ⟨dx, v0, v1, v2, v3, c.keep _ _ h1 fun m => (n _ m).2 _ _ _ h1, h2.keep c n, h3.keep c hs, h4.keep c n⟩
theorem KdAt.same {K : PySem.W.Frag} {L : Nat → Addr → LF} {S : Addr → Prop} {H H' : Hp} {a : Addr} {jf : PyData → PyData → Option PyData} {nd : PyData} {mf : Int → Option PyData} (c : Chg [] H H') (h : KdAt K L S H a jf nd mf) : KdAt K L S H' a jf nd mf := h.keep c .nil fun _ _ => by simp
theorem KdAt.mono {K : PySem.W.Frag} {L : Nat → Addr → LF} {S S' : Addr → Prop} {H : Hp} {a : Addr} {jf : PyData → PyData → Option PyData} {nd : PyData} {mf : Int → Option PyData} (hs : ∀ a, S a → S' a) (h : KdAt K L S H a jf nd mf) : KdAt K L S' H a jf nd mf := by
  obtain ⟨dx, v0, v1, v2, v3, h1, h2, h3, h4⟩ := h
  exact ⟨dx, v0, v1, v2, v3, h1, h2, h3.mono hs, h4⟩
def sp_Kind___init__ (K : PySem.W.Frag) : Sp := fun vs H Q _ => ∃ (a dx : Addr) (v0 v1 v2 v3 : V), vs = [.ref a, v0, v1, v2, v3] ∧ H a = some (.ins (He.ga K "Kind") dx []) ∧ ∀ H', Chg [a] H H' → H' a = some (O_Kind K dx v0 v1 v2 v3) → Q .non H'
def t_Kind___init__ (K : PySem.W.Frag) : TS :=
    tSeq (sFld K (tVar 0) (tVar 1) "joining")
    (tSeq (sFld K (tVar 0) (tVar 2) "none")
    (tSeq (sFld K (tVar 0) (tVar 3) "making")
    (sFld K (tVar 0) (tVar 4) "word")))
theorem pure_Kind___init__ {K : PySem.W.Frag} (C : C_Kind K) (vs : List V) (H : Hp) (Q : VK) (E : XK) (hh : sp_Kind___init__ K vs H Q E) : t_Kind___init__ K (fin Q) (start ["self", "join", "none", "make", "word"] vs) H := by
  obtain ⟨a, dx, v0, v1, v2, v3, rfl, h, q⟩ := hh
  show t_Kind___init__ K _ [some (.ref a), some v0, some v1, some v2, some v3] H
  unfold t_Kind___init__
  walk_at "w"
  refine n_Kind_joining C h fun H1 c1 h1 => ?_
  walk_at "w"
  refine n_Kind_none C h1 fun H2 c2 h2 => ?_
  walk_at "w"
  refine n_Kind_making C h2 fun H3 c3 h3 => ?_
  walk_at "w"
  refine n_Kind_word C h3 fun H4 c4 h4 => ?_
  exact q H4 (((c1.both c2).both c3).both c4) h4
def sp_Kind_joined (K : PySem.W.Frag) (L : Nat → Addr → LF) : Sp := fun vs H Q _ => ∃ (a : Addr) (x y : V) (S : Addr → Prop) (jf : PyData → PyData → Option PyData) (nd : PyData) (mf : Int → Option PyData) (dx dy d : PyData), vs = [.ref a, x, y] ∧ KdAt K L S H a jf nd mf ∧ R S H x dx ∧ R S H y dy ∧ (∀ a, H a = none → S a) ∧ jf dx dy = some d ∧ ∀ v H', Chg [] H H' → R S H' v d → Q v H'
def t_Kind_joined (K : PySem.W.Frag) (L : Nat → Addr → LmX.LF) : TS :=
    tSeq (tAsg (tFld K (tVar 0) "joining") (gName 3))
    (tRet (tCallV (CVw K L) 3 (tCons (tVar 1) (tCons (tVar 2) (tNil)))))
theorem pure_Kind_joined {K : PySem.W.Frag} {L : Nat → Addr → LF} (C : C_Kind K) (vs : List V) (H : Hp) (Q : VK) (E : XK) (hh : sp_Kind_joined K L vs H Q E) : t_Kind_joined K L (fin Q) (start ["self", "one", "other", "join"] vs) H := by
  obtain ⟨a, x, y, S, jf, nd, mf, dx, dy, d, rfl, ⟨di, v0, v1, v2, v3, h0, hj, hn, hm⟩, rx, ry, fr, e, q⟩ := hh
  show t_Kind_joined K L _ [some (.ref a), some x, some y, none] H
  unfold t_Kind_joined
  walk_at "w"
  obtain ⟨f, rfl, hf⟩ := hj.cv (vs := [x, y]) (Q := Q)
  refine ⟨f, rfl, ?_⟩
  walk_at "w"
  exact hf H .refl ⟨x, y, dx, dy, d, S, rfl, rx, ry, fr, e, q⟩
def sp_Kind_worth_of (K : PySem.W.Frag) (L : Nat → Addr → LF) : Sp := fun vs H Q _ => ∃ (a : Addr) (n : Int) (S : Addr → Prop) (jf : PyData → PyData → Option PyData) (nd : PyData) (mf : Int → Option PyData) (d : PyData), vs = [.ref a, .int n] ∧ KdAt K L S H a jf nd mf ∧ (∀ a, H a = none → S a) ∧ mf n = some d ∧ ∀ v H', Chg [] H H' → R S H' v d → Q v H'
def t_Kind_worth_of (K : PySem.W.Frag) (L : Nat → Addr → LmX.LF) : TS :=
    tSeq (tAsg (tFld K (tVar 0) "making") (gName 2))
    (tSeq (tIfS (tTest (tOp oIsN (tVar 2) (tC .non))) (tRet (tVar 1)) (tNext))
    (tRet (tCallV (CVw K L) 2 (tCons (tVar 1) (tNil)))))
theorem pure_Kind_worth_of {K : PySem.W.Frag} {L : Nat → Addr → LF} (C : C_Kind K) (vs : List V) (H : Hp) (Q : VK) (E : XK) (hh : sp_Kind_worth_of K L vs H Q E) : t_Kind_worth_of K L (fin Q) (start ["self", "number", "make"] vs) H := by
  obtain ⟨a, n, S, jf, nd, mf, d, rfl, ⟨di, v0, v1, v2, v3, h0, hj, hn, hm⟩, fr, e, q⟩ := hh
  show t_Kind_worth_of K L _ [some (.ref a), some (.int n), none] H
  unfold t_Kind_worth_of
  walk_at "w"
  by_cases hv : v2 = .non
  · subst hv
    rcases hm with ⟨_, rfl⟩ | ⟨f, j, e2, _⟩
    · cases e
      walk_at "w"
      exact q _ _ .refl (.int _)
    · cases e2
  · rw [if_neg (by simpa using hv)]
    walk_at "w"
    obtain ⟨f, rfl, hf⟩ := hm.cv (K := K) (vs := [.int n]) (Q := Q) hv
    refine ⟨f, rfl, ?_⟩
    walk_at "w"
    exact hf H .refl ⟨n, d, S, rfl, fr, e, q⟩
/-- the fold of numbers, on from x -/
def foldD (jf : PyData → PyData → Option PyData) (mf : Int → Option PyData) : PyData → List Int → Option PyData
  | x, [] => some x
  | x, n :: r => (mf n).bind fun m => (jf x m).bind fun y => foldD jf mf y r
theorem foldD_cons {jf : PyData → PyData → Option PyData} {mf : Int → Option PyData} {x d : PyData} {n : Int} {r : List Int} (h : foldD jf mf x (n :: r) = some d) : ∃ m y, mf n = some m ∧ jf x m = some y ∧ foldD jf mf y r = some d := by
  unfold foldD at h
  cases e1 : mf n with
  | none => rw [e1] at h; cases h
  | some m =>
    rw [e1] at h
    cases e2 : jf x m with
    | none => rw [Option.bind, e2] at h; cases h
    | some y => rw [Option.bind, e2] at h; exact ⟨m, y, rfl, e2, h⟩
def sp_Kind_fold (K : PySem.W.Frag) (L : Nat → Addr → LF) : Sp := fun vs H Q _ => ∃ (a l : Addr) (ns : List Int) (S : Addr → Prop) (jf : PyData → PyData → Option PyData) (nd : PyData) (mf : Int → Option PyData) (d : PyData), vs = [.ref a, .ref l] ∧ H l = some (.lst (ns.map V.int)) ∧ KdAt K L S H a jf nd mf ∧ (∀ a, H a = none → S a) ∧ foldD jf mf nd ns = some d ∧ ∀ v H', Chg [] H H' → R S H' v d → Q v H'
def t_Kind_fold (K : PySem.W.Frag) (L : Nat → Addr → LmX.LF) : TS :=
    tSeq (tAsg (tFld K (tVar 0) "none") (gName 2))
    (tSeq (tFor (iList K (tVar 1)) (gName 3) (tAsg (tMeth (He.ga K "Kind") "joined" (sp_Kind_joined K L) [] E0 (tVar 0) (tCons (tVar 2) (tCons (tMeth (He.ga K "Kind") "worth_of" (sp_Kind_worth_of K L) [] E0 (tVar 0) (tCons (tVar 3) (tNil))) (tNil)))) (gName 2)))
    (tRet (tVar 2)))
theorem fresh_chg {S : Addr → Prop} {H H' : Hp} (c : Chg [] H H') (h : ∀ a, H a = none → S a) : ∀ a, H' a = none → S a := fun a e => h a (c.dom a e)
theorem pure_Kind_fold {K : PySem.W.Frag} {L : Nat → Addr → LF} (C : C_Kind K) (vs : List V) (H : Hp) (Q : VK) (E : XK) (hh : sp_Kind_fold K L vs H Q E) : t_Kind_fold K L (fin Q) (start ["self", "numbers", "found", "number"] vs) H := by
  obtain ⟨a, l, ns, S, jf, nd, mf, d, rfl, hl, kd, fr, e, q⟩ := hh
  show t_Kind_fold K L _ [some (.ref a), some (.ref l), none, none] H
  unfold t_Kind_fold
  obtain ⟨di, v0, v1, v2, v3, h0, hj, hn, hm⟩ := id kd
  walk_at "w"
  refine for_it (walk_list (K := K) (a := l) (xs := ns.map V.int)) (fun i σ Hi => Chg [] H Hi ∧ ∃ (v : V) (x : PyData) (b3 : Option V), R S Hi v x ∧ foldD jf mf x (ns.drop i) = some d ∧ σ = [some (.ref a), some (.ref l), some v, b3]) ⟨.refl, v1, nd, _, hn, e, rfl⟩ (fun i σ Hi _ z => sqL (z.1.at hl)) (fun i x σ Hi0 Hi hi z y => ?_) (fun σ Hi z => ?_)
  · obtain ⟨rfl, ex⟩ := y
    obtain ⟨ci, v, x0, b3, rx, e1, rfl⟩ := z
    rw [List.length_map] at hi
    rw [List.getElem?_map, List.getElem?_eq_getElem hi] at ex
    cases ex
    rw [List.drop_eq_getElem_cons hi] at e1
    obtain ⟨m, y, em, ey, e2⟩ := foldD_cons e1
    have h0i := ci.at h0
    walk_at "w"
    refine ⟨a, ns[i], S, jf, nd, mf, m, rfl, kd.same ci, fresh_chg ci fr, em, fun u H2 c2 ru => ?_⟩
    walk_at "w"
    refine ⟨a, v, u, S, jf, nd, mf, x0, m, y, rfl, kd.same (ci.same c2), rx.same c2, ru, fresh_chg (ci.same c2) fr, ey, fun w H3 c3 rw' => ?_⟩
    walk_at "w"
    exact ⟨(ci.same c2).same c3, w, y, _, rw', e2, rfl⟩
  · obtain ⟨ci, v, x0, b3, rx, e1, rfl⟩ := z
    rw [List.length_map, List.drop_length] at e1
    cases e1
    walk_at "w"
    exact q _ _ ci rx
def t_lesser  : TS :=
    tSeq (tIfS (tTest (tOp oIsN (tVar 0) (tC .non))) (tRet (tVar 1)) (tNext))
    (tSeq (tIfS (tTest (tOp oIsN (tVar 1) (tC .non))) (tRet (tVar 0)) (tNext))
    (tRet (tCB cMin (tCons (tVar 0) (tCons (tVar 1) (tNil))))))
theorem pure_lesser {K : PySem.W.Frag} (vs : List V) (H : Hp) (Q : VK) (E : XK) (hh : sp2 leD vs H Q E) : t_lesser (fin Q) (start ["one", "other"] vs) H := by
  obtain ⟨x, y, dx, dy, d, S, rfl, rx, ry, fr, e, q⟩ := hh
  show t_lesser _ [some x, some y] H
  unfold t_lesser
  by_cases hx : x = .non
  · subst hx
    cases rx
    have e : some dy = some d := by rw [← e]; cases dy <;> rfl
    cases e
    walk_at "w"
    exact q _ _ .refl ry
  · have nx : dx ≠ .none := fun z => by subst z; cases rx; exact hx rfl
    walk_at "w"
    rw [if_neg (by simpa using hx)]
    walk_at "w"
    by_cases hy : y = .non
    · subst hy
      cases ry
      have e : some dx = some d := by rw [← e]; cases dx <;> first | rfl | exact absurd rfl nx
      cases e
      walk_at "w"
      exact q _ _ .refl rx
    · have ny : dy ≠ .none := fun z => by subst z; cases ry; exact hy rfl
      rw [if_neg (by simpa using hy)]
      have key : ∃ a b, dx = .int a ∧ dy = .int b ∧ d = .int (min a b) := by
        cases dx <;> cases dy <;> first | exact absurd rfl nx | exact absurd rfl ny | (cases e; done) | (cases e; exact ⟨_, _, rfl, rfl, rfl⟩)
      obtain ⟨a, b, rfl, rfl, rfl⟩ := key
      cases r_int rx
      cases r_int ry
      walk_at "w"
      have e2 : (if b < a then b else a) = min a b := by omega
      have q' := q (.int (min a b)) H .refl (.int _)
      rw [← e2] at q'
      exact q'
def t_later  : TS :=
    tRet (tIf (tTest (tOp oIsN (tVar 1) (tC .non))) (tVar 0) (tVar 1))
theorem pure_later {K : PySem.W.Frag} (vs : List V) (H : Hp) (Q : VK) (E : XK) (hh : sp2 lat2 vs H Q E) : t_later (fin Q) (start ["one", "other"] vs) H := by
  obtain ⟨x, y, dx, dy, d, S, rfl, rx, ry, fr, e, q⟩ := hh
  show t_later _ [some x, some y] H
  unfold t_later
  by_cases hy : y = .non
  · subst hy
    cases ry
    have e2 : some dx = some d := by rw [← e]; cases dx <;> rfl
    cases e2
    walk_at "w"
    exact q _ _ .refl rx
  · have ny : dy ≠ .none := fun z => by subst z; cases ry; exact hy rfl
    have e2 : some dy = some d := by rw [← e]; cases dy <;> first | rfl | exact absurd rfl ny
    cases e2
    walk_at "w"
    rw [if_neg (by simpa using hy)]
    walk_at "w"
    exact q _ _ .refl ry
def t__law_lesser  : TS :=
    tSeq (tIfS (tOr (tTest (tOp oIsN (tVar 0) (tC .non))) (tTest (tOp oIsN (tVar 1) (tC .non)))) (tRet (tIf (tTest (tOp oIsN (tVar 0) (tC .non))) (tVar 1) (tVar 0))) (tNext))
    (tRet (tCB cMin (tCons (tVar 0) (tCons (tVar 1) (tNil)))))
theorem pure__law_lesser {K : PySem.W.Frag} (vs : List V) (H : Hp) (Q : VK) (E : XK) (hh : sp2 leD vs H Q E) : t__law_lesser (fin Q) (start ["one", "other"] vs) H := by
  obtain ⟨x, y, dx, dy, d, S, rfl, rx, ry, fr, e, q⟩ := hh
  show t__law_lesser _ [some x, some y] H
  unfold t__law_lesser
  by_cases hx : x = .non
  · subst hx
    cases rx
    have e : some dy = some d := by rw [← e]; cases dy <;> rfl
    cases e
    walk_at "w"
    exact q _ _ .refl ry
  · have nx : dx ≠ .none := fun z => by subst z; cases rx; exact hx rfl
    by_cases hy : y = .non
    · subst hy
      cases ry
      have e : some dx = some d := by rw [← e]; cases dx <;> first | rfl | exact absurd rfl nx
      cases e
      walk_at "w"
      rw [if_neg (by simpa using hx)]
      walk_at "w"
      rw [if_neg (by simpa using hx)]
      walk_at "w"
      exact q _ _ .refl rx
    · have ny : dy ≠ .none := fun z => by subst z; cases ry; exact hy rfl
      have key : ∃ a b, dx = .int a ∧ dy = .int b ∧ d = .int (min a b) := by
        cases dx <;> cases dy <;> first | exact absurd rfl nx | exact absurd rfl ny | (cases e; done) | (cases e; exact ⟨_, _, rfl, rfl, rfl⟩)
      obtain ⟨a, b, rfl, rfl, rfl⟩ := key
      cases r_int rx
      cases r_int ry
      walk_at "w"
      have e2 : (if b < a then b else a) = min a b := by omega
      have q' := q (.int (min a b)) H .refl (.int _)
      rw [← e2] at q'
      exact q'
def t__law_apart  : TS :=
    tSeq (tIfS (tOr (tTest (tOp oIsN (tVar 0) (tC .non))) (tTest (tOp oIsN (tVar 1) (tC .non)))) (tRet (tIf (tTest (tOp oIsN (tVar 0) (tC .non))) (tVar 1) (tVar 0))) (tNext))
    (tRet (tOp oSub (tVar 0) (tVar 1)))
theorem pure__law_apart {K : PySem.W.Frag} (vs : List V) (H : Hp) (Q : VK) (E : XK) (hh : sp2 apD vs H Q E) : t__law_apart (fin Q) (start ["one", "other"] vs) H := by
  obtain ⟨x, y, dx, dy, d, S, rfl, rx, ry, fr, e, q⟩ := hh
  show t__law_apart _ [some x, some y] H
  unfold t__law_apart
  by_cases hx : x = .non
  · subst hx
    cases rx
    have e : some dy = some d := by rw [← e]; cases dy <;> rfl
    cases e
    walk_at "w"
    exact q _ _ .refl ry
  · have nx : dx ≠ .none := fun z => by subst z; cases rx; exact hx rfl
    by_cases hy : y = .non
    · subst hy
      cases ry
      have e : some dx = some d := by rw [← e]; cases dx <;> first | rfl | exact absurd rfl nx
      cases e
      walk_at "w"
      rw [if_neg (by simpa using hx)]
      walk_at "w"
      rw [if_neg (by simpa using hx)]
      walk_at "w"
      exact q _ _ .refl rx
    · have ny : dy ≠ .none := fun z => by subst z; cases ry; exact hy rfl
      have key : ∃ a b, dx = .int a ∧ dy = .int b ∧ d = .int (a - b) := by
        cases dx <;> cases dy <;> first | exact absurd rfl nx | exact absurd rfl ny | (cases e; done) | (cases e; exact ⟨_, _, rfl, rfl, rfl⟩)
      obtain ⟨a, b, rfl, rfl, rfl⟩ := key
      cases r_int rx
      cases r_int ry
      walk_at "w"
      exact q _ _ .refl (.int _)
def t__law_left_none  : TS :=
    tSeq (tIfS (tOr (tTest (tOp oIsN (tVar 0) (tC .non))) (tTest (tOp oIsN (tVar 1) (tC .non)))) (tRet (tVar 0)) (tNext))
    (tRet (tOp oAdd (tVar 0) (tVar 1)))
theorem pure__law_left_none {K : PySem.W.Frag} (vs : List V) (H : Hp) (Q : VK) (E : XK) (hh : sp2 lnD vs H Q E) : t__law_left_none (fin Q) (start ["one", "other"] vs) H := by
  obtain ⟨x, y, dx, dy, d, S, rfl, rx, ry, fr, e, q⟩ := hh
  show t__law_left_none _ [some x, some y] H
  unfold t__law_left_none
  by_cases hx : x = .non
  · subst hx
    cases rx
    have e : some PyData.none = some d := by rw [← e]; cases dy <;> rfl
    cases e
    walk_at "w"
    exact q _ _ .refl .non
  · have nx : dx ≠ .none := fun z => by subst z; cases rx; exact hx rfl
    by_cases hy : y = .non
    · subst hy
      cases ry
      have e : some dx = some d := by rw [← e]; cases dx <;> first | rfl | exact absurd rfl nx
      cases e
      walk_at "w"
      rw [if_neg (by simpa using hx)]
      walk_at "w"
      exact q _ _ .refl rx
    · have ny : dy ≠ .none := fun z => by subst z; cases ry; exact hy rfl
      have key : ∃ a b, dx = .int a ∧ dy = .int b ∧ d = .int (a + b) := by
        cases dx <;> cases dy <;> first | exact absurd rfl nx | exact absurd rfl ny | (cases e; done) | (cases e; exact ⟨_, _, rfl, rfl, rfl⟩)
      obtain ⟨a, b, rfl, rfl, rfl⟩ := key
      cases r_int rx
      cases r_int ry
      walk_at "w"
      exact q _ _ .refl (.int _)
theorem intsOf_some : ∀ {xs : List PyData} {ns : List Int}, intsOf xs = some ns → xs = ns.map PyData.int
  | [], ns, h => by cases h; rfl
  | .int a :: r, ns, h => by
    unfold intsOf at h
    cases e : intsOf r with
    | none => rw [e] at h; cases h
    | some m => rw [e] at h; cases h; rw [intsOf_some e]; rfl
  | .none :: _, _, h => by cases h
  | .bool _ :: _, _, h => by cases h
  | .str _ :: _, _, h => by cases h
  | .list _ :: _, _, h => by cases h
  | .tuple _ :: _, _, h => by cases h
  | .dict _ :: _, _, h => by cases h
theorem ra_ints {S : Addr → Prop} {H : Hp} : ∀ {ns : List Int} {vs : List V}, RA S H vs (ns.map PyData.int) → vs = ns.map V.int
  | [], _, h => by cases h; rfl
  | n :: r, _, h => by
    cases h with
    | cons a b => cases a; rw [ra_ints b]; rfl
theorem noDic_ints (ns : List Int) : noDic (.tuple (ns.map PyData.int)) = true := by
  show noDics (ns.map PyData.int) = true
  exact noDics_of fun d hd => by obtain ⟨i, _, rfl⟩ := List.mem_map.mp hd; rfl
def t__law_both (K : PySem.W.Frag) : TS :=
    tRet (tIf (tTest (tOp oNeD (tOp (rCatA K) (tVar 0) (tVar 1)) (tTup (tNil)))) (tTup (tCons (tCB (rMinT K) (tCons (tOp (rCatA K) (tVar 0) (tVar 1)) (tNil))) (tCons (tCB (rMaxT K) (tCons (tOp (rCatA K) (tVar 0) (tVar 1)) (tNil))) (tNil)))) (tTup (tNil)))
theorem pure__law_both {K : PySem.W.Frag} (vs : List V) (H : Hp) (Q : VK) (E : XK) (hh : sp2 boD vs H Q E) : t__law_both K (fin Q) (start ["one", "other"] vs) H := by
  obtain ⟨x, y, dx, dy, d, S, rfl, rx, ry, fr, e, q⟩ := hh
  show t__law_both K _ [some x, some y] H
  have key : ∃ xs ys ns, dx = .tuple xs ∧ dy = .tuple ys ∧ intsOf (xs ++ ys) = some ns ∧ ns.length ≤ 1000 ∧ d = match ns with
      | [] => .tuple []
      | n :: r => .tuple [.int (r.foldl min n), .int (r.foldl max n)] := by
    unfold boD at e
    split at e
    · rename_i xs ys
      split at e
      · rename_i h; cases e; exact ⟨xs, ys, [], rfl, rfl, h, by simp, rfl⟩
      · rename_i n r h
        split at e
        · rename_i hl; cases e; exact ⟨xs, ys, n :: r, rfl, rfl, h, hl, rfl⟩
        · cases e
      · cases e
    · cases e
  obtain ⟨xs, ys, ns, rfl, rfl, hi, hl, rfl⟩ := key
  cases rx with
  | @tup p us _ hp ra =>
  cases ry with
  | @tup p2 ws _ hp2 rb =>
  have rab := ra.append rb
  rw [intsOf_some hi] at rab
  have eu := ra_ints rab
  have hlu : us.length + ws.length ≤ 1000 := by rw [← List.length_append, eu, List.length_map]; exact hl
  unfold t__law_both
  walk_at "w"
  refine w_catA hp hp2 (by omega) fun p3 H3 c3 h3 => ?_
  rw [eu] at h3
  walk_at "w"
  refine k_tup (by walk_at "sz") fun T H4 nT c4 hT => ?_
  walk_at "w"
  have rl : R S H4 (.ref p3) (.tuple (ns.map PyData.int)) := .tup (c4.at h3) (by rw [← eu, ← intsOf_some hi]; exact ((ra.append rb).same (c3.same c4)))
  have rr : R S H4 (.ref T) (.tuple []) := .tup hT .nil
  refine w_neD rl rr (noDic_ints ns) rfl (by show min _ (PyData.depth (.tuple [])) ≤ 60; have : PyData.depth (.tuple []) ≤ 1 := by decide
                                             omega) ?_
  cases ns with
  | nil =>
    walk_at "w"
    refine k_tup (by walk_at "sz") fun T5 H5 nT5 c5 hT5 => ?_
    exact q _ _ ((c3.same c4).same c5) (.tup hT5 .nil)
  | cons n r =>
    have cc := c3.same c4
    have z4 : us.length + ws.length ≤ 100000 := by omega
    walk_at "w"
    refine w_catA (cc.at hp) (cc.at hp2) z4 fun p5 H5 c5 h5 => ?_
    rw [eu] at h5
    walk_at "w"
    refine w_minT h5 ?_
    have cc5 := cc.same c5
    walk_at "w"
    refine w_catA (cc5.at hp) (cc5.at hp2) z4 fun p6 H6 c6 h6 => ?_
    rw [eu] at h6
    walk_at "w"
    refine w_maxT h6 ?_
    walk_at "w"
    refine k_tup (by walk_at "sz") fun T7 H7 nT7 c7 hT7 => ?_
    exact q _ _ ((cc5.same c6).same c7) (.tup hT7 (.cons (.int _) (.cons (.int _) .nil)))
end Fg
namespace Fg
open PySem PySem.Spec PyProof.Rows L2 LamX LmX
local macro_rules | `(tactic| walk_at "hp") => `(tactic| first
  | assumption
  | exact upd_same
  | (refine Chg.at (by assumption) ?_; walk_at "hp")
  | (refine Chg.at1 (by assumption) ?_ (by walk_at "ne"); walk_at "hp"))
local macro_rules | `(tactic| walk_at "ne") => `(tactic| first | assumption | (apply Ne.symm; assumption))
local macro_rules | `(tactic| walk_at "sq") => `(tactic| first | assumption | exact sqL (by walk_at "hp") | (refine Chg.seq (by assumption) ?_; walk_at "sq"))
local macro_rules | `(tactic| walk_at "sz") => `(tactic| first | assumption | exact Nat.zero_le _ | (simp only [List.length_cons, List.length_nil]; decide) | exact Nat.le_trans (by first | omega | (simp; done) | (simp; omega)) (show 100000 ≤ sizeLine by decide) | exact Nat.lt_of_lt_of_le (by first | omega | (simp; done) | (simp; omega)) (show 100000 ≤ sizeLine by decide))
local macro_rules | `(tactic| walk_at "ix") => `(tactic| first | exact at0 | exact at1 | exact at2 | exact at3 | assumption | exact rfl | walk_at "ix2")
local macro_rules | `(tactic| walk_at "ix2") => `(tactic| fail)
local macro_rules | `(tactic| walk_at "num") => `(tactic| first | assumption | omega | decide | walk_at "num2")
local macro_rules | `(tactic| walk_at "num2") => `(tactic| fail)
local macro_rules | `(tactic| walk_at "im") => `(tactic| first | assumption | exact R.non (S := fun _ => False) | exact R.bl (S := fun _ => False) _ | exact R.int (S := fun _ => False) _ | exact R.str (S := fun _ => False) _ | (refine R.im (by assumption) ?_; walk_at "im"))
local macro_rules | `(tactic| walk_at "r") => `(tactic| first | assumption | exact R.non (S := fun _ => False) | exact R.bl (S := fun _ => False) _ | exact R.int (S := fun _ => False) _ | exact R.str (S := fun _ => False) _ | (refine R.same (by assumption) ?_; walk_at "r") | exact R.any (by walk_at "im"))
local macro_rules | `(tactic| walk_at "chg") => `(tactic| first
  | exact Chg.refl
  | assumption
  | (refine Chg.same ?_ (by assumption); walk_at "chg")
  | (refine Chg.both ?_ (by assumption); walk_at "chg")
  | (refine Chg.pre (by assumption) ?_; walk_at "chg"))
local macro_rules | `(tactic| walk_at "w1") => `(tactic| first
  | with_reducible apply w_seq
  | with_reducible apply w_asg
  | ((with_reducible apply w_var); (focus (exact rfl)))
  | with_reducible apply w_c
  | with_reducible apply w_op
  | with_reducible apply w_cons
  | with_reducible apply w_nil
  | with_reducible apply w_gName
  | with_reducible apply w_if
  | with_reducible apply w_test
  | with_reducible apply w_B
  | with_reducible apply w_isbl
  | with_reducible apply w_retN
  | with_reducible apply w_next
  | with_reducible apply w_drop
  | with_reducible apply w_cb
  | with_reducible apply w_call
  | with_reducible apply w_callN
  | with_reducible apply w_bm
  | with_reducible apply w_bm0
  | ((with_reducible apply w_tyL); (focus (walk_at "hp"; done)))
  | with_reducible apply w_dput
  | with_reducible apply w_m1
  | with_reducible apply w_isstr
  | with_reducible apply w_and
  | with_reducible apply w_or
  | with_reducible apply w_not
  | with_reducible apply w_andV
  | with_reducible apply w_orV
  | with_reducible apply w_notV
  | with_reducible apply w_ifE
  | with_reducible apply w_chain
  | with_reducible apply w_un
  | with_reducible apply w_neg
  | with_reducible apply w_add
  | with_reducible apply w_sub
  | ((with_reducible apply w_mod); (focus (walk_at "num"; done)))
  | ((with_reducible apply w_mul); (focus (walk_at "num"; done)))
  | ((with_reducible apply w_fdiv); (focus (walk_at "num"; done)))
  | ((with_reducible apply w_pow); (focus (walk_at "num"; done)))
  | with_reducible apply w_lt
  | with_reducible apply w_le
  | with_reducible apply w_gt
  | with_reducible apply w_ge
  | with_reducible apply w_ltS
  | with_reducible apply w_geS
  | with_reducible apply w_inC
  | with_reducible apply w_notInC
  | with_reducible apply w_isN
  | with_reducible apply w_notN
  | with_reducible apply w_isB
  | with_reducible apply w_notB
  | ((with_reducible apply w_addS); (focus (walk_at "sz"; done)))
  | ((with_reducible apply w_ixL); (focus (walk_at "sq"; done)); (focus (walk_at "ix"; done)))
  | ((with_reducible apply w_ixT); (focus (walk_at "hp"; done)); (focus (walk_at "ix"; done)))
  | ((with_reducible apply w_ixS); (focus (walk_at "sz"; done)); (focus (walk_at "ix"; done)))
  | with_reducible apply w_gSub
  | ((with_reducible apply w_gTup); (focus (walk_at "hp"; done)); (focus (exact rfl)))
  | with_reducible apply w_gCons
  | with_reducible apply w_gNil
  | ((with_reducible apply w_aug); (focus (exact rfl)))
  | with_reducible apply w_ipI
  | ((with_reducible apply w_eq); (focus (exact rfl)))
  | ((with_reducible apply w_ne); (focus (exact rfl)))
  | with_reducible apply w_max
  | with_reducible apply w_min
  | with_reducible apply w_abs
  | with_reducible apply w_intB
  | with_reducible apply w_intI
  | with_reducible apply w_tup1
  | with_reducible apply w_lst1
  | with_reducible apply w_sl
  | with_reducible apply w_part
  | with_reducible apply w_noPart
  | with_reducible apply w_isint
  | ((with_reducible apply w_slS); (focus (walk_at "sz"; done)))
  | with_reducible apply w_iteT
  | with_reducible apply w_iteF
  | with_reducible apply w_iteN
  | ((with_reducible apply w_iteYes); (focus (exact rfl)))
  | ((with_reducible apply w_iteNo); (focus (exact rfl)))
  | ((with_reducible apply w_lenL); (focus (walk_at "sq"; done)))
  | ((with_reducible apply w_lenT); (focus (walk_at "hp"; done)))
  | ((with_reducible apply w_lenS); (focus (walk_at "sz"; done)))
  | with_reducible apply w_lc
  | with_reducible apply w_for
  | with_reducible apply w_yes
  | ((with_reducible apply w_wipe); (focus (exact rfl)))
  | with_reducible apply w_iList
  | with_reducible apply w_iTup
  | with_reducible apply w_iStr
  | with_reducible apply w_iRng1
  | with_reducible apply w_iRng2
  | with_reducible apply w_iZip
  | with_reducible apply w_iEnum
  | ((with_reducible apply d_iList); (focus (walk_at "sq"; done)))
  | ((with_reducible apply d_iTup); (focus (walk_at "hp"; done)))
  | with_reducible apply d_iStr
  | ((with_reducible apply d_iRng1); (focus (walk_at "num"; done)); (focus (walk_at "num"; done)))
  | ((with_reducible apply d_iRng2); (focus (walk_at "num"; done)); (focus (walk_at "num"; done)); (focus (walk_at "num"; done)); (focus (walk_at "num"; done)))
  | ((with_reducible apply d_iZip); (focus (walk_at "sq"; done)); (focus (walk_at "sq"; done)))
  | ((with_reducible apply d_iEnum); (focus (walk_at "sq"; done)))
  | walk_at "w2")
local macro_rules | `(tactic| walk_at "w2") => `(tactic| fail)
local macro_rules | `(tactic| walk_at "wn") => `(tactic| repeat walk_at "w1")
local macro_rules | `(tactic| walk_at "w") => `(tactic| repeat (first | walk_at "w1" | with_reducible apply w_ret))
local macro_rules | `(tactic| walk_at "w2") => `(tactic| first
  | ((with_reducible apply w_isInt); (focus (walk_at "r"; done)))
  | ((with_reducible apply w_isBool); (focus (walk_at "r"; done)))
  | ((with_reducible apply w_isStr); (focus (walk_at "r"; done)))
  | ((with_reducible apply w_isTup); (focus (walk_at "r"; done)))
  | ((with_reducible apply w_isLst); (focus (walk_at "r"; done)))
  | with_reducible apply w_fld
  | with_reducible apply w_sfld
  | with_reducible apply w_faug
  | with_reducible apply w_rAdd
  | with_reducible apply w_rSub
  | with_reducible apply w_make
  | with_reducible apply w_orT
  | with_reducible apply w_dgetd
  | with_reducible apply w_dgetk
  | with_reducible apply w_dsetd
  | ((with_reducible apply k_dgetd); (focus (walk_at "hp"; done)))
  | ((with_reducible apply k_dsetd); (focus (walk_at "hp"; done)))
  | walk_at "w3")
local macro_rules | `(tactic| walk_at "w3") => `(tactic| fail)
local macro_rules | `(tactic| walk_at "w3") => `(tactic| first
  | with_reducible apply w_mt
  | with_reducible apply w_makeX
  | ((with_reducible apply m_Kind); (focus (walk_at "hp"; done)); (focus (exact rfl)))
  | ((with_reducible apply g_Kind_joining); (focus (assumption; done)); (focus (walk_at "hp"; done)))
  | ((with_reducible apply g_Kind_none); (focus (assumption; done)); (focus (walk_at "hp"; done)))
  | ((with_reducible apply g_Kind_making); (focus (assumption; done)); (focus (walk_at "hp"; done)))
  | ((with_reducible apply g_Kind_word); (focus (assumption; done)); (focus (walk_at "hp"; done))))
def sp__law_made (K : PySem.W.Frag) (L : Nat → Addr → LF) : Sp := fun vs H Q _ => ∃ (m : V) (n : Int) (S : Addr → Prop) (mf : Int → Option PyData) (d : PyData), vs = [m, .int n] ∧ MV L H m mf ∧ (∀ a, H a = none → S a) ∧ mf n = some d ∧ ∀ v H', Chg [] H H' → R S H' v d → Q v H'
def t__law_made (K : PySem.W.Frag) (L : Nat → Addr → LmX.LF) : TS :=
    tRet (tIf (tTest (tOp oIsN (tVar 0) (tC .non))) (tVar 1) (tCallV (CVw K L) 0 (tCons (tVar 1) (tNil))))
theorem pure__law_made {K : PySem.W.Frag} {L : Nat → Addr → LF} (vs : List V) (H : Hp) (Q : VK) (E : XK) (hh : sp__law_made K L vs H Q E) : t__law_made K L (fin Q) (start ["made_by", "number"] vs) H := by
  obtain ⟨v2, n, S, mf, d, rfl, hm, fr, e, q⟩ := hh
  show t__law_made K L _ [some v2, some (.int n)] H
  unfold t__law_made
  walk_at "w"
  by_cases hv : v2 = .non
  · subst hv
    rcases hm with ⟨_, rfl⟩ | ⟨f, j, e2, _⟩
    · cases e
      walk_at "w"
      exact q _ _ .refl (.int _)
    · cases e2
  · rw [if_neg (by simpa using hv)]
    walk_at "w"
    obtain ⟨f, rfl, hf⟩ := hm.cv (K := K) (vs := [.int n]) (Q := Q) hv
    refine ⟨f, rfl, ?_⟩
    walk_at "w"
    exact hf H .refl ⟨n, d, S, rfl, fr, e, q⟩
/-- the law's triple of a kind -/
def KtAt (K : PySem.W.Frag) (L : Nat → Addr → LF) (S : Addr → Prop) (H : Hp) (T : Addr) (jf : PyData → PyData → Option PyData) (nd : PyData) (mf : Int → Option PyData) : Prop :=
  ∃ g v1 m, H T = some (.tup [g, v1, m]) ∧ JV K L H g jf ∧ R S H v1 nd ∧ MV L H m mf
theorem KtAt.keep {K : PySem.W.Frag} {L : Nat → Addr → LF} {S : Addr → Prop} {M : List Addr} {H H' : Hp} {a : Addr} {jf : PyData → PyData → Option PyData} {nd : PyData} {mf : Int → Option PyData} (c : Chg M H H') (n : NoX M H) (hs : ∀ a, S a → a ∉ M) (h : KtAt K L S H a jf nd mf) : KtAt K L S H' a jf nd mf := by
  obtain ⟨g, v1, m, h1, h2, h3, h4⟩ := h
  exact ⟨g, v1, m, c.tup _ _ h1, h2.keep c n, h3.keep c hs, h4.keep c n⟩
theorem KtAt.same {K : PySem.W.Frag} {L : Nat → Addr → LF} {S : Addr → Prop} {H H' : Hp} {a : Addr} {jf : PyData → PyData → Option PyData} {nd : PyData} {mf : Int → Option PyData} (c : Chg [] H H') (h : KtAt K L S H a jf nd mf) : KtAt K L S H' a jf nd mf := h.keep c .nil fun _ _ => by simp
def sp__law_fold (K : PySem.W.Frag) (L : Nat → Addr → LF) : Sp := fun vs H Q _ => ∃ (T l : Addr) (ns : List Int) (S : Addr → Prop) (jf : PyData → PyData → Option PyData) (nd : PyData) (mf : Int → Option PyData) (d : PyData), vs = [.ref T, .ref l] ∧ H l = some (.lst (ns.map V.int)) ∧ KtAt K L S H T jf nd mf ∧ (∀ a, H a = none → S a) ∧ foldD jf mf nd ns = some d ∧ ∀ v H', Chg [] H H' → R S H' v d → Q v H'
def t__law_fold (K : PySem.W.Frag) (L : Nat → Addr → LmX.LF) : TS :=
    tSeq (tAsg (tVar 0) (gTup K 3 (gCons (gName 2) (gCons (gName 3) (gCons (gName 4) (gNil))))))
    (tSeq (tFor (iList K (tVar 1)) (gName 5) (tAsg (tCallV (CVw K L) 2 (tCons (tVar 3) (tCons (tCall (sp__law_made K L) [] E0 (tCons (tVar 4) (tCons (tVar 5) (tNil)))) (tNil)))) (gName 3)))
    (tRet (tVar 3)))
theorem pure__law_fold {K : PySem.W.Frag} {L : Nat → Addr → LF} (vs : List V) (H : Hp) (Q : VK) (E : XK) (hh : sp__law_fold K L vs H Q E) : t__law_fold K L (fin Q) (start ["kind_of", "row", "joiner", "found", "made_by", "number"] vs) H := by
  obtain ⟨T, l, ns, S, jf, nd, mf, d, rfl, hl, ⟨g, v1, m, hT, hj, hn, hm⟩, fr, e, q⟩ := hh
  show t__law_fold K L _ [some (.ref T), some (.ref l), none, none, none, none] H
  unfold t__law_fold
  obtain ⟨f, rfl, hf⟩ := hj.cvs
  walk_at "w"
  refine for_it (walk_list (K := K) (a := l) (xs := ns.map V.int)) (fun i σ Hi => Chg [] H Hi ∧ ∃ (v : V) (x : PyData) (b3 : Option V), R S Hi v x ∧ foldD jf mf x (ns.drop i) = some d ∧ σ = [some (.ref T), some (.ref l), some (.ref f), some v, some m, b3]) ⟨.refl, v1, nd, _, hn, e, rfl⟩ (fun i σ Hi _ z => sqL (z.1.at hl)) (fun i x σ Hi0 Hi hi z y => ?_) (fun σ Hi z => ?_)
  · obtain ⟨rfl, ex⟩ := y
    obtain ⟨ci, v, x0, b3, rx, e1, rfl⟩ := z
    rw [List.length_map] at hi
    rw [List.getElem?_map, List.getElem?_eq_getElem hi] at ex
    cases ex
    rw [List.drop_eq_getElem_cons hi] at e1
    obtain ⟨mm, y, em, ey, e2⟩ := foldD_cons e1
    walk_at "w"
    refine ⟨f, rfl, ?_⟩
    walk_at "w"
    refine ⟨m, ns[i], S, mf, mm, rfl, hm.keep ci .nil, fresh_chg ci fr, em, fun u H2 c2 ru => ?_⟩
    walk_at "w"
    refine hf H2 _ _ (ci.same c2) ⟨v, u, x0, mm, y, S, rfl, rx.same c2, ru, fresh_chg (ci.same c2) fr, ey, fun w H3 c3 rw' => ?_⟩
    walk_at "w"
    exact ⟨(ci.same c2).same c3, w, y, _, rw', e2, rfl⟩
  · obtain ⟨ci, v, x0, b3, rx, e1, rfl⟩ := z
    rw [List.length_map, List.drop_length] at e1
    cases e1
    walk_at "w"
    exact q _ _ ci rx
def strD (jf : PyData → PyData → Option PyData) (mf : Int → Option PyData) : List Int → Option PyData
  | [] => none
  | n :: r => (mf n).bind fun m => foldD jf mf m r
end Fg
namespace Fg
open PySem PySem.Spec PyProof.Rows L2 LamX LmX
local macro_rules | `(tactic| walk_at "hp") => `(tactic| first
  | assumption
  | exact upd_same
  | (refine Chg.at (by assumption) ?_; walk_at "hp")
  | (refine Chg.at1 (by assumption) ?_ (by walk_at "ne"); walk_at "hp"))
local macro_rules | `(tactic| walk_at "ne") => `(tactic| first | assumption | (apply Ne.symm; assumption))
local macro_rules | `(tactic| walk_at "sq") => `(tactic| first | assumption | exact sqL (by walk_at "hp") | (refine Chg.seq (by assumption) ?_; walk_at "sq"))
local macro_rules | `(tactic| walk_at "sz") => `(tactic| first | assumption | exact Nat.zero_le _ | (simp only [List.length_cons, List.length_nil]; decide) | exact Nat.le_trans (by first | omega | (simp; done) | (simp; omega)) (show 100000 ≤ sizeLine by decide) | exact Nat.lt_of_lt_of_le (by first | omega | (simp; done) | (simp; omega)) (show 100000 ≤ sizeLine by decide))
local macro_rules | `(tactic| walk_at "ix") => `(tactic| first | exact at0 | exact at1 | exact at2 | exact at3 | assumption | exact rfl | walk_at "ix2")
local macro_rules | `(tactic| walk_at "ix2") => `(tactic| fail)
local macro_rules | `(tactic| walk_at "num") => `(tactic| first | assumption | omega | decide | walk_at "num2")
local macro_rules | `(tactic| walk_at "num2") => `(tactic| fail)
local macro_rules | `(tactic| walk_at "im") => `(tactic| first | assumption | exact R.non (S := fun _ => False) | exact R.bl (S := fun _ => False) _ | exact R.int (S := fun _ => False) _ | exact R.str (S := fun _ => False) _ | (refine R.im (by assumption) ?_; walk_at "im"))
local macro_rules | `(tactic| walk_at "r") => `(tactic| first | assumption | exact R.non (S := fun _ => False) | exact R.bl (S := fun _ => False) _ | exact R.int (S := fun _ => False) _ | exact R.str (S := fun _ => False) _ | (refine R.same (by assumption) ?_; walk_at "r") | exact R.any (by walk_at "im"))
local macro_rules | `(tactic| walk_at "chg") => `(tactic| first
  | exact Chg.refl
  | assumption
  | (refine Chg.same ?_ (by assumption); walk_at "chg")
  | (refine Chg.both ?_ (by assumption); walk_at "chg")
  | (refine Chg.pre (by assumption) ?_; walk_at "chg"))
local macro_rules | `(tactic| walk_at "w1") => `(tactic| first
  | with_reducible apply w_seq
  | with_reducible apply w_asg
  | ((with_reducible apply w_var); (focus (exact rfl)))
  | with_reducible apply w_c
  | with_reducible apply w_op
  | with_reducible apply w_cons
  | with_reducible apply w_nil
  | with_reducible apply w_gName
  | with_reducible apply w_if
  | with_reducible apply w_test
  | with_reducible apply w_B
  | with_reducible apply w_isbl
  | with_reducible apply w_retN
  | with_reducible apply w_next
  | with_reducible apply w_drop
  | with_reducible apply w_cb
  | with_reducible apply w_call
  | with_reducible apply w_callN
  | with_reducible apply w_bm
  | with_reducible apply w_bm0
  | ((with_reducible apply w_tyL); (focus (walk_at "hp"; done)))
  | with_reducible apply w_dput
  | with_reducible apply w_m1
  | with_reducible apply w_isstr
  | with_reducible apply w_and
  | with_reducible apply w_or
  | with_reducible apply w_not
  | with_reducible apply w_andV
  | with_reducible apply w_orV
  | with_reducible apply w_notV
  | with_reducible apply w_ifE
  | with_reducible apply w_chain
  | with_reducible apply w_un
  | with_reducible apply w_neg
  | with_reducible apply w_add
  | with_reducible apply w_sub
  | ((with_reducible apply w_mod); (focus (walk_at "num"; done)))
  | ((with_reducible apply w_mul); (focus (walk_at "num"; done)))
  | ((with_reducible apply w_fdiv); (focus (walk_at "num"; done)))
  | ((with_reducible apply w_pow); (focus (walk_at "num"; done)))
  | with_reducible apply w_lt
  | with_reducible apply w_le
  | with_reducible apply w_gt
  | with_reducible apply w_ge
  | with_reducible apply w_ltS
  | with_reducible apply w_geS
  | with_reducible apply w_inC
  | with_reducible apply w_notInC
  | with_reducible apply w_isN
  | with_reducible apply w_notN
  | with_reducible apply w_isB
  | with_reducible apply w_notB
  | ((with_reducible apply w_addS); (focus (walk_at "sz"; done)))
  | ((with_reducible apply w_ixL); (focus (walk_at "sq"; done)); (focus (walk_at "ix"; done)))
  | ((with_reducible apply w_ixT); (focus (walk_at "hp"; done)); (focus (walk_at "ix"; done)))
  | ((with_reducible apply w_ixS); (focus (walk_at "sz"; done)); (focus (walk_at "ix"; done)))
  | with_reducible apply w_gSub
  | ((with_reducible apply w_gTup); (focus (walk_at "hp"; done)); (focus (exact rfl)))
  | with_reducible apply w_gCons
  | with_reducible apply w_gNil
  | ((with_reducible apply w_aug); (focus (exact rfl)))
  | with_reducible apply w_ipI
  | ((with_reducible apply w_eq); (focus (exact rfl)))
  | ((with_reducible apply w_ne); (focus (exact rfl)))
  | with_reducible apply w_max
  | with_reducible apply w_min
  | with_reducible apply w_abs
  | with_reducible apply w_intB
  | with_reducible apply w_intI
  | with_reducible apply w_tup1
  | with_reducible apply w_lst1
  | with_reducible apply w_sl
  | with_reducible apply w_part
  | with_reducible apply w_noPart
  | with_reducible apply w_isint
  | ((with_reducible apply w_slS); (focus (walk_at "sz"; done)))
  | with_reducible apply w_iteT
  | with_reducible apply w_iteF
  | with_reducible apply w_iteN
  | ((with_reducible apply w_iteYes); (focus (exact rfl)))
  | ((with_reducible apply w_iteNo); (focus (exact rfl)))
  | ((with_reducible apply w_lenL); (focus (walk_at "sq"; done)))
  | ((with_reducible apply w_lenT); (focus (walk_at "hp"; done)))
  | ((with_reducible apply w_lenS); (focus (walk_at "sz"; done)))
  | with_reducible apply w_lc
  | with_reducible apply w_for
  | with_reducible apply w_yes
  | ((with_reducible apply w_wipe); (focus (exact rfl)))
  | with_reducible apply w_iList
  | with_reducible apply w_iTup
  | with_reducible apply w_iStr
  | with_reducible apply w_iRng1
  | with_reducible apply w_iRng2
  | with_reducible apply w_iZip
  | with_reducible apply w_iEnum
  | ((with_reducible apply d_iList); (focus (walk_at "sq"; done)))
  | ((with_reducible apply d_iTup); (focus (walk_at "hp"; done)))
  | with_reducible apply d_iStr
  | ((with_reducible apply d_iRng1); (focus (walk_at "num"; done)); (focus (walk_at "num"; done)))
  | ((with_reducible apply d_iRng2); (focus (walk_at "num"; done)); (focus (walk_at "num"; done)); (focus (walk_at "num"; done)); (focus (walk_at "num"; done)))
  | ((with_reducible apply d_iZip); (focus (walk_at "sq"; done)); (focus (walk_at "sq"; done)))
  | ((with_reducible apply d_iEnum); (focus (walk_at "sq"; done)))
  | walk_at "w2")
local macro_rules | `(tactic| walk_at "w2") => `(tactic| fail)
local macro_rules | `(tactic| walk_at "wn") => `(tactic| repeat walk_at "w1")
local macro_rules | `(tactic| walk_at "w") => `(tactic| repeat (first | walk_at "w1" | with_reducible apply w_ret))
local macro_rules | `(tactic| walk_at "w2") => `(tactic| first
  | ((with_reducible apply w_isInt); (focus (walk_at "r"; done)))
  | ((with_reducible apply w_isBool); (focus (walk_at "r"; done)))
  | ((with_reducible apply w_isStr); (focus (walk_at "r"; done)))
  | ((with_reducible apply w_isTup); (focus (walk_at "r"; done)))
  | ((with_reducible apply w_isLst); (focus (walk_at "r"; done)))
  | with_reducible apply w_fld
  | with_reducible apply w_sfld
  | with_reducible apply w_faug
  | with_reducible apply w_rAdd
  | with_reducible apply w_rSub
  | with_reducible apply w_make
  | with_reducible apply w_orT
  | with_reducible apply w_dgetd
  | with_reducible apply w_dgetk
  | with_reducible apply w_dsetd
  | ((with_reducible apply k_dgetd); (focus (walk_at "hp"; done)))
  | ((with_reducible apply k_dsetd); (focus (walk_at "hp"; done)))
  | walk_at "w3")
local macro_rules | `(tactic| walk_at "w3") => `(tactic| fail)
local macro_rules | `(tactic| walk_at "w3") => `(tactic| first
  | with_reducible apply w_mt
  | with_reducible apply w_makeX
  | ((with_reducible apply m_Kind); (focus (walk_at "hp"; done)); (focus (exact rfl)))
  | ((with_reducible apply g_Kind_joining); (focus (assumption; done)); (focus (walk_at "hp"; done)))
  | ((with_reducible apply g_Kind_none); (focus (assumption; done)); (focus (walk_at "hp"; done)))
  | ((with_reducible apply g_Kind_making); (focus (assumption; done)); (focus (walk_at "hp"; done)))
  | ((with_reducible apply g_Kind_word); (focus (assumption; done)); (focus (walk_at "hp"; done))))
def k2 (i l : Nat) : List Key := [Sum.inl (i : Int), Sum.inl (l : Int)]
/-- the dict of the stretches with B i l -/
def StrAt (S : Addr → Prop) (H : Hp) (kvs : List (List Key × V)) (fs : Nat → Nat → PyData) (B : Nat → Nat → Prop) : Prop := ∀ i l, B i l → ∃ v, valV kvs (k2 i l) = some v ∧ R S H v (fs i l)
theorem StrAt.keep {S : Addr → Prop} {M : List Addr} {H H' : Hp} {kvs : List (List Key × V)} {fs : Nat → Nat → PyData} {B : Nat → Nat → Prop} (c : Chg M H H') (hs : ∀ a, S a → a ∉ M) (h : StrAt S H kvs fs B) : StrAt S H' kvs fs B := fun i l b => by
  obtain ⟨v, e, r⟩ := h i l b
  exact ⟨v, e, r.keep c hs⟩
theorem r_thereK {S : Addr → Prop} {H : Hp} {v : V} {d : PyData} (r : R S H v d) : R (fun a => S a ∧ H a ≠ none) H v d :=
  r.imp (fun a xs s e => ⟨⟨s, by rw [e]; exact fun z => nomatch z⟩, e⟩) (fun a xs s e => ⟨⟨s, by rw [e]; exact fun z => nomatch z⟩, e⟩) fun a xs e => e
theorem KdAt.there {K : PySem.W.Frag} {L : Nat → Addr → LF} {S : Addr → Prop} {H : Hp} {a : Addr} {jf : PyData → PyData → Option PyData} {nd : PyData} {mf : Int → Option PyData} (h : KdAt K L S H a jf nd mf) : KdAt K L (fun a => S a ∧ H a ≠ none) H a jf nd mf := by
  obtain ⟨dx, v0, v1, v2, v3, h1, h2, h3, h4⟩ := h
  exact ⟨dx, v0, v1, v2, v3, h1, h2, r_thereK h3, h4⟩
theorem noX_lst {H : Hp} {p : Addr} {xs : List V} (h : H p = some (.lst xs)) : NoX [p] H := fun a m => by
  obtain rfl := List.mem_singleton.mp m
  exact ⟨(fun z e => by rw [h] at e; cases e), (fun C dx fs e => by rw [h] at e; cases e)⟩
end Fg
namespace Fg
open PySem PySem.Spec PyProof.Rows L2 LamX LmX
local macro_rules | `(tactic| walk_at "hp") => `(tactic| first
  | assumption
  | exact upd_same
  | (refine Chg.at (by assumption) ?_; walk_at "hp")
  | (refine Chg.at1 (by assumption) ?_ (by walk_at "ne"); walk_at "hp"))
local macro_rules | `(tactic| walk_at "ne") => `(tactic| first | assumption | (apply Ne.symm; assumption))
local macro_rules | `(tactic| walk_at "sq") => `(tactic| first | assumption | exact sqL (by walk_at "hp") | (refine Chg.seq (by assumption) ?_; walk_at "sq"))
local macro_rules | `(tactic| walk_at "sz") => `(tactic| first | assumption | exact Nat.zero_le _ | (simp only [List.length_cons, List.length_nil]; decide) | exact Nat.le_trans (by first | omega | (simp; done) | (simp; omega)) (show 100000 ≤ sizeLine by decide) | exact Nat.lt_of_lt_of_le (by first | omega | (simp; done) | (simp; omega)) (show 100000 ≤ sizeLine by decide))
local macro_rules | `(tactic| walk_at "ix") => `(tactic| first | exact at0 | exact at1 | exact at2 | exact at3 | assumption | exact rfl | walk_at "ix2")
local macro_rules | `(tactic| walk_at "ix2") => `(tactic| fail)
local macro_rules | `(tactic| walk_at "num") => `(tactic| first | assumption | omega | decide | walk_at "num2")
local macro_rules | `(tactic| walk_at "num2") => `(tactic| fail)
local macro_rules | `(tactic| walk_at "im") => `(tactic| first | assumption | exact R.non (S := fun _ => False) | exact R.bl (S := fun _ => False) _ | exact R.int (S := fun _ => False) _ | exact R.str (S := fun _ => False) _ | (refine R.im (by assumption) ?_; walk_at "im"))
local macro_rules | `(tactic| walk_at "r") => `(tactic| first | assumption | exact R.non (S := fun _ => False) | exact R.bl (S := fun _ => False) _ | exact R.int (S := fun _ => False) _ | exact R.str (S := fun _ => False) _ | (refine R.same (by assumption) ?_; walk_at "r") | exact R.any (by walk_at "im"))
local macro_rules | `(tactic| walk_at "chg") => `(tactic| first
  | exact Chg.refl
  | assumption
  | (refine Chg.same ?_ (by assumption); walk_at "chg")
  | (refine Chg.both ?_ (by assumption); walk_at "chg")
  | (refine Chg.pre (by assumption) ?_; walk_at "chg"))
local macro_rules | `(tactic| walk_at "w1") => `(tactic| first
  | with_reducible apply w_seq
  | with_reducible apply w_asg
  | ((with_reducible apply w_var); (focus (exact rfl)))
  | with_reducible apply w_c
  | with_reducible apply w_op
  | with_reducible apply w_cons
  | with_reducible apply w_nil
  | with_reducible apply w_gName
  | with_reducible apply w_if
  | with_reducible apply w_test
  | with_reducible apply w_B
  | with_reducible apply w_isbl
  | with_reducible apply w_retN
  | with_reducible apply w_next
  | with_reducible apply w_drop
  | with_reducible apply w_cb
  | with_reducible apply w_call
  | with_reducible apply w_callN
  | with_reducible apply w_bm
  | with_reducible apply w_bm0
  | ((with_reducible apply w_tyL); (focus (walk_at "hp"; done)))
  | with_reducible apply w_dput
  | with_reducible apply w_m1
  | with_reducible apply w_isstr
  | with_reducible apply w_and
  | with_reducible apply w_or
  | with_reducible apply w_not
  | with_reducible apply w_andV
  | with_reducible apply w_orV
  | with_reducible apply w_notV
  | with_reducible apply w_ifE
  | with_reducible apply w_chain
  | with_reducible apply w_un
  | with_reducible apply w_neg
  | with_reducible apply w_add
  | with_reducible apply w_sub
  | ((with_reducible apply w_mod); (focus (walk_at "num"; done)))
  | ((with_reducible apply w_mul); (focus (walk_at "num"; done)))
  | ((with_reducible apply w_fdiv); (focus (walk_at "num"; done)))
  | ((with_reducible apply w_pow); (focus (walk_at "num"; done)))
  | with_reducible apply w_lt
  | with_reducible apply w_le
  | with_reducible apply w_gt
  | with_reducible apply w_ge
  | with_reducible apply w_ltS
  | with_reducible apply w_geS
  | with_reducible apply w_inC
  | with_reducible apply w_notInC
  | with_reducible apply w_isN
  | with_reducible apply w_notN
  | with_reducible apply w_isB
  | with_reducible apply w_notB
  | ((with_reducible apply w_addS); (focus (walk_at "sz"; done)))
  | ((with_reducible apply w_ixL); (focus (walk_at "sq"; done)); (focus (walk_at "ix"; done)))
  | ((with_reducible apply w_ixT); (focus (walk_at "hp"; done)); (focus (walk_at "ix"; done)))
  | ((with_reducible apply w_ixS); (focus (walk_at "sz"; done)); (focus (walk_at "ix"; done)))
  | with_reducible apply w_gSub
  | ((with_reducible apply w_gTup); (focus (walk_at "hp"; done)); (focus (exact rfl)))
  | with_reducible apply w_gCons
  | with_reducible apply w_gNil
  | ((with_reducible apply w_aug); (focus (exact rfl)))
  | with_reducible apply w_ipI
  | ((with_reducible apply w_eq); (focus (exact rfl)))
  | ((with_reducible apply w_ne); (focus (exact rfl)))
  | with_reducible apply w_max
  | with_reducible apply w_min
  | with_reducible apply w_abs
  | with_reducible apply w_intB
  | with_reducible apply w_intI
  | with_reducible apply w_tup1
  | with_reducible apply w_lst1
  | with_reducible apply w_sl
  | with_reducible apply w_part
  | with_reducible apply w_noPart
  | with_reducible apply w_isint
  | ((with_reducible apply w_slS); (focus (walk_at "sz"; done)))
  | with_reducible apply w_iteT
  | with_reducible apply w_iteF
  | with_reducible apply w_iteN
  | ((with_reducible apply w_iteYes); (focus (exact rfl)))
  | ((with_reducible apply w_iteNo); (focus (exact rfl)))
  | ((with_reducible apply w_lenL); (focus (walk_at "sq"; done)))
  | ((with_reducible apply w_lenT); (focus (walk_at "hp"; done)))
  | ((with_reducible apply w_lenS); (focus (walk_at "sz"; done)))
  | with_reducible apply w_lc
  | with_reducible apply w_for
  | with_reducible apply w_yes
  | ((with_reducible apply w_wipe); (focus (exact rfl)))
  | with_reducible apply w_iList
  | with_reducible apply w_iTup
  | with_reducible apply w_iStr
  | with_reducible apply w_iRng1
  | with_reducible apply w_iRng2
  | with_reducible apply w_iZip
  | with_reducible apply w_iEnum
  | ((with_reducible apply d_iList); (focus (walk_at "sq"; done)))
  | ((with_reducible apply d_iTup); (focus (walk_at "hp"; done)))
  | with_reducible apply d_iStr
  | ((with_reducible apply d_iRng1); (focus (walk_at "num"; done)); (focus (walk_at "num"; done)))
  | ((with_reducible apply d_iRng2); (focus (walk_at "num"; done)); (focus (walk_at "num"; done)); (focus (walk_at "num"; done)); (focus (walk_at "num"; done)))
  | ((with_reducible apply d_iZip); (focus (walk_at "sq"; done)); (focus (walk_at "sq"; done)))
  | ((with_reducible apply d_iEnum); (focus (walk_at "sq"; done)))
  | walk_at "w2")
local macro_rules | `(tactic| walk_at "w2") => `(tactic| fail)
local macro_rules | `(tactic| walk_at "wn") => `(tactic| repeat walk_at "w1")
local macro_rules | `(tactic| walk_at "w") => `(tactic| repeat (first | walk_at "w1" | with_reducible apply w_ret))
local macro_rules | `(tactic| walk_at "w2") => `(tactic| first
  | ((with_reducible apply w_isInt); (focus (walk_at "r"; done)))
  | ((with_reducible apply w_isBool); (focus (walk_at "r"; done)))
  | ((with_reducible apply w_isStr); (focus (walk_at "r"; done)))
  | ((with_reducible apply w_isTup); (focus (walk_at "r"; done)))
  | ((with_reducible apply w_isLst); (focus (walk_at "r"; done)))
  | with_reducible apply w_fld
  | with_reducible apply w_sfld
  | with_reducible apply w_faug
  | with_reducible apply w_rAdd
  | with_reducible apply w_rSub
  | with_reducible apply w_make
  | with_reducible apply w_orT
  | with_reducible apply w_dgetd
  | with_reducible apply w_dgetk
  | with_reducible apply w_dsetd
  | ((with_reducible apply k_dgetd); (focus (walk_at "hp"; done)))
  | ((with_reducible apply k_dsetd); (focus (walk_at "hp"; done)))
  | walk_at "w3")
local macro_rules | `(tactic| walk_at "w3") => `(tactic| fail)
local macro_rules | `(tactic| walk_at "w3") => `(tactic| first
  | with_reducible apply w_mt
  | with_reducible apply w_makeX
  | ((with_reducible apply m_Kind); (focus (walk_at "hp"; done)); (focus (exact rfl)))
  | ((with_reducible apply g_Kind_joining); (focus (assumption; done)); (focus (walk_at "hp"; done)))
  | ((with_reducible apply g_Kind_none); (focus (assumption; done)); (focus (walk_at "hp"; done)))
  | ((with_reducible apply g_Kind_making); (focus (assumption; done)); (focus (walk_at "hp"; done)))
  | ((with_reducible apply g_Kind_word); (focus (assumption; done)); (focus (walk_at "hp"; done))))
def t2 (i l : Nat) : PyData := .tuple [.int (i : Nat), .int (l : Nat)]
def t3 (i j l : Nat) : PyData := .tuple [.int (i : Nat), .int (j : Nat), .int (l : Nat)]
end Fg
namespace Fg
open PySem PySem.Spec PyProof.Rows L2 LamX LmX
local macro_rules | `(tactic| walk_at "hp") => `(tactic| first
  | assumption
  | exact upd_same
  | (refine Chg.at (by assumption) ?_; walk_at "hp")
  | (refine Chg.at1 (by assumption) ?_ (by walk_at "ne"); walk_at "hp"))
local macro_rules | `(tactic| walk_at "ne") => `(tactic| first | assumption | (apply Ne.symm; assumption))
local macro_rules | `(tactic| walk_at "sq") => `(tactic| first | assumption | exact sqL (by walk_at "hp") | (refine Chg.seq (by assumption) ?_; walk_at "sq"))
local macro_rules | `(tactic| walk_at "sz") => `(tactic| first | assumption | exact Nat.zero_le _ | (simp only [List.length_cons, List.length_nil]; decide) | exact Nat.le_trans (by first | omega | (simp; done) | (simp; omega)) (show 100000 ≤ sizeLine by decide) | exact Nat.lt_of_lt_of_le (by first | omega | (simp; done) | (simp; omega)) (show 100000 ≤ sizeLine by decide))
local macro_rules | `(tactic| walk_at "ix") => `(tactic| first | exact at0 | exact at1 | exact at2 | exact at3 | assumption | exact rfl | walk_at "ix2")
local macro_rules | `(tactic| walk_at "ix2") => `(tactic| fail)
local macro_rules | `(tactic| walk_at "num") => `(tactic| first | assumption | omega | decide | walk_at "num2")
local macro_rules | `(tactic| walk_at "num2") => `(tactic| fail)
local macro_rules | `(tactic| walk_at "im") => `(tactic| first | assumption | exact R.non (S := fun _ => False) | exact R.bl (S := fun _ => False) _ | exact R.int (S := fun _ => False) _ | exact R.str (S := fun _ => False) _ | (refine R.im (by assumption) ?_; walk_at "im"))
local macro_rules | `(tactic| walk_at "r") => `(tactic| first | assumption | exact R.non (S := fun _ => False) | exact R.bl (S := fun _ => False) _ | exact R.int (S := fun _ => False) _ | exact R.str (S := fun _ => False) _ | (refine R.same (by assumption) ?_; walk_at "r") | exact R.any (by walk_at "im"))
local macro_rules | `(tactic| walk_at "chg") => `(tactic| first
  | exact Chg.refl
  | assumption
  | (refine Chg.same ?_ (by assumption); walk_at "chg")
  | (refine Chg.both ?_ (by assumption); walk_at "chg")
  | (refine Chg.pre (by assumption) ?_; walk_at "chg"))
local macro_rules | `(tactic| walk_at "w1") => `(tactic| first
  | with_reducible apply w_seq
  | with_reducible apply w_asg
  | ((with_reducible apply w_var); (focus (exact rfl)))
  | with_reducible apply w_c
  | with_reducible apply w_op
  | with_reducible apply w_cons
  | with_reducible apply w_nil
  | with_reducible apply w_gName
  | with_reducible apply w_if
  | with_reducible apply w_test
  | with_reducible apply w_B
  | with_reducible apply w_isbl
  | with_reducible apply w_retN
  | with_reducible apply w_next
  | with_reducible apply w_drop
  | with_reducible apply w_cb
  | with_reducible apply w_call
  | with_reducible apply w_callN
  | with_reducible apply w_bm
  | with_reducible apply w_bm0
  | ((with_reducible apply w_tyL); (focus (walk_at "hp"; done)))
  | with_reducible apply w_dput
  | with_reducible apply w_m1
  | with_reducible apply w_isstr
  | with_reducible apply w_and
  | with_reducible apply w_or
  | with_reducible apply w_not
  | with_reducible apply w_andV
  | with_reducible apply w_orV
  | with_reducible apply w_notV
  | with_reducible apply w_ifE
  | with_reducible apply w_chain
  | with_reducible apply w_un
  | with_reducible apply w_neg
  | with_reducible apply w_add
  | with_reducible apply w_sub
  | ((with_reducible apply w_mod); (focus (walk_at "num"; done)))
  | ((with_reducible apply w_mul); (focus (walk_at "num"; done)))
  | ((with_reducible apply w_fdiv); (focus (walk_at "num"; done)))
  | ((with_reducible apply w_pow); (focus (walk_at "num"; done)))
  | with_reducible apply w_lt
  | with_reducible apply w_le
  | with_reducible apply w_gt
  | with_reducible apply w_ge
  | with_reducible apply w_ltS
  | with_reducible apply w_geS
  | with_reducible apply w_inC
  | with_reducible apply w_notInC
  | with_reducible apply w_isN
  | with_reducible apply w_notN
  | with_reducible apply w_isB
  | with_reducible apply w_notB
  | ((with_reducible apply w_addS); (focus (walk_at "sz"; done)))
  | ((with_reducible apply w_ixL); (focus (walk_at "sq"; done)); (focus (walk_at "ix"; done)))
  | ((with_reducible apply w_ixT); (focus (walk_at "hp"; done)); (focus (walk_at "ix"; done)))
  | ((with_reducible apply w_ixS); (focus (walk_at "sz"; done)); (focus (walk_at "ix"; done)))
  | with_reducible apply w_gSub
  | ((with_reducible apply w_gTup); (focus (walk_at "hp"; done)); (focus (exact rfl)))
  | with_reducible apply w_gCons
  | with_reducible apply w_gNil
  | ((with_reducible apply w_aug); (focus (exact rfl)))
  | with_reducible apply w_ipI
  | ((with_reducible apply w_eq); (focus (exact rfl)))
  | ((with_reducible apply w_ne); (focus (exact rfl)))
  | with_reducible apply w_max
  | with_reducible apply w_min
  | with_reducible apply w_abs
  | with_reducible apply w_intB
  | with_reducible apply w_intI
  | with_reducible apply w_tup1
  | with_reducible apply w_lst1
  | with_reducible apply w_sl
  | with_reducible apply w_part
  | with_reducible apply w_noPart
  | with_reducible apply w_isint
  | ((with_reducible apply w_slS); (focus (walk_at "sz"; done)))
  | with_reducible apply w_iteT
  | with_reducible apply w_iteF
  | with_reducible apply w_iteN
  | ((with_reducible apply w_iteYes); (focus (exact rfl)))
  | ((with_reducible apply w_iteNo); (focus (exact rfl)))
  | ((with_reducible apply w_lenL); (focus (walk_at "sq"; done)))
  | ((with_reducible apply w_lenT); (focus (walk_at "hp"; done)))
  | ((with_reducible apply w_lenS); (focus (walk_at "sz"; done)))
  | with_reducible apply w_lc
  | with_reducible apply w_for
  | with_reducible apply w_yes
  | ((with_reducible apply w_wipe); (focus (exact rfl)))
  | with_reducible apply w_iList
  | with_reducible apply w_iTup
  | with_reducible apply w_iStr
  | with_reducible apply w_iRng1
  | with_reducible apply w_iRng2
  | with_reducible apply w_iZip
  | with_reducible apply w_iEnum
  | ((with_reducible apply d_iList); (focus (walk_at "sq"; done)))
  | ((with_reducible apply d_iTup); (focus (walk_at "hp"; done)))
  | with_reducible apply d_iStr
  | ((with_reducible apply d_iRng1); (focus (walk_at "num"; done)); (focus (walk_at "num"; done)))
  | ((with_reducible apply d_iRng2); (focus (walk_at "num"; done)); (focus (walk_at "num"; done)); (focus (walk_at "num"; done)); (focus (walk_at "num"; done)))
  | ((with_reducible apply d_iZip); (focus (walk_at "sq"; done)); (focus (walk_at "sq"; done)))
  | ((with_reducible apply d_iEnum); (focus (walk_at "sq"; done)))
  | walk_at "w2")
local macro_rules | `(tactic| walk_at "w2") => `(tactic| fail)
local macro_rules | `(tactic| walk_at "wn") => `(tactic| repeat walk_at "w1")
local macro_rules | `(tactic| walk_at "w") => `(tactic| repeat (first | walk_at "w1" | with_reducible apply w_ret))
local macro_rules | `(tactic| walk_at "w2") => `(tactic| first
  | ((with_reducible apply w_isInt); (focus (walk_at "r"; done)))
  | ((with_reducible apply w_isBool); (focus (walk_at "r"; done)))
  | ((with_reducible apply w_isStr); (focus (walk_at "r"; done)))
  | ((with_reducible apply w_isTup); (focus (walk_at "r"; done)))
  | ((with_reducible apply w_isLst); (focus (walk_at "r"; done)))
  | with_reducible apply w_fld
  | with_reducible apply w_sfld
  | with_reducible apply w_faug
  | with_reducible apply w_rAdd
  | with_reducible apply w_rSub
  | with_reducible apply w_make
  | with_reducible apply w_orT
  | with_reducible apply w_dgetd
  | with_reducible apply w_dgetk
  | with_reducible apply w_dsetd
  | ((with_reducible apply k_dgetd); (focus (walk_at "hp"; done)))
  | ((with_reducible apply k_dsetd); (focus (walk_at "hp"; done)))
  | walk_at "w3")
local macro_rules | `(tactic| walk_at "w3") => `(tactic| fail)
local macro_rules | `(tactic| walk_at "w3") => `(tactic| first
  | with_reducible apply w_mt
  | with_reducible apply w_makeX
  | ((with_reducible apply m_Kind); (focus (walk_at "hp"; done)); (focus (exact rfl)))
  | ((with_reducible apply g_Kind_joining); (focus (assumption; done)); (focus (walk_at "hp"; done)))
  | ((with_reducible apply g_Kind_none); (focus (assumption; done)); (focus (walk_at "hp"; done)))
  | ((with_reducible apply g_Kind_making); (focus (assumption; done)); (focus (walk_at "hp"; done)))
  | ((with_reducible apply g_Kind_word); (focus (assumption; done)); (focus (walk_at "hp"; done))))
end Fg
namespace Fg
open PySem PySem.Spec PyProof.Rows L2 LamX LmX
local macro_rules | `(tactic| walk_at "hp") => `(tactic| first
  | assumption
  | exact upd_same
  | (refine Chg.at (by assumption) ?_; walk_at "hp")
  | (refine Chg.at1 (by assumption) ?_ (by walk_at "ne"); walk_at "hp"))
local macro_rules | `(tactic| walk_at "ne") => `(tactic| first | assumption | (apply Ne.symm; assumption))
local macro_rules | `(tactic| walk_at "sq") => `(tactic| first | assumption | exact sqL (by walk_at "hp") | (refine Chg.seq (by assumption) ?_; walk_at "sq"))
local macro_rules | `(tactic| walk_at "sz") => `(tactic| first | assumption | exact Nat.zero_le _ | (simp only [List.length_cons, List.length_nil]; decide) | exact Nat.le_trans (by first | omega | (simp; done) | (simp; omega)) (show 100000 ≤ sizeLine by decide) | exact Nat.lt_of_lt_of_le (by first | omega | (simp; done) | (simp; omega)) (show 100000 ≤ sizeLine by decide))
local macro_rules | `(tactic| walk_at "ix") => `(tactic| first | exact at0 | exact at1 | exact at2 | exact at3 | assumption | exact rfl | walk_at "ix2")
local macro_rules | `(tactic| walk_at "ix2") => `(tactic| fail)
local macro_rules | `(tactic| walk_at "num") => `(tactic| first | assumption | omega | decide | walk_at "num2")
local macro_rules | `(tactic| walk_at "num2") => `(tactic| fail)
local macro_rules | `(tactic| walk_at "im") => `(tactic| first | assumption | exact R.non (S := fun _ => False) | exact R.bl (S := fun _ => False) _ | exact R.int (S := fun _ => False) _ | exact R.str (S := fun _ => False) _ | (refine R.im (by assumption) ?_; walk_at "im"))
local macro_rules | `(tactic| walk_at "r") => `(tactic| first | assumption | exact R.non (S := fun _ => False) | exact R.bl (S := fun _ => False) _ | exact R.int (S := fun _ => False) _ | exact R.str (S := fun _ => False) _ | (refine R.same (by assumption) ?_; walk_at "r") | exact R.any (by walk_at "im"))
local macro_rules | `(tactic| walk_at "chg") => `(tactic| first
  | exact Chg.refl
  | assumption
  | (refine Chg.same ?_ (by assumption); walk_at "chg")
  | (refine Chg.both ?_ (by assumption); walk_at "chg")
  | (refine Chg.pre (by assumption) ?_; walk_at "chg"))
local macro_rules | `(tactic| walk_at "w1") => `(tactic| first
  | with_reducible apply w_seq
  | with_reducible apply w_asg
  | ((with_reducible apply w_var); (focus (exact rfl)))
  | with_reducible apply w_c
  | with_reducible apply w_op
  | with_reducible apply w_cons
  | with_reducible apply w_nil
  | with_reducible apply w_gName
  | with_reducible apply w_if
  | with_reducible apply w_test
  | with_reducible apply w_B
  | with_reducible apply w_isbl
  | with_reducible apply w_retN
  | with_reducible apply w_next
  | with_reducible apply w_drop
  | with_reducible apply w_cb
  | with_reducible apply w_call
  | with_reducible apply w_callN
  | with_reducible apply w_bm
  | with_reducible apply w_bm0
  | ((with_reducible apply w_tyL); (focus (walk_at "hp"; done)))
  | with_reducible apply w_dput
  | with_reducible apply w_m1
  | with_reducible apply w_isstr
  | with_reducible apply w_and
  | with_reducible apply w_or
  | with_reducible apply w_not
  | with_reducible apply w_andV
  | with_reducible apply w_orV
  | with_reducible apply w_notV
  | with_reducible apply w_ifE
  | with_reducible apply w_chain
  | with_reducible apply w_un
  | with_reducible apply w_neg
  | with_reducible apply w_add
  | with_reducible apply w_sub
  | ((with_reducible apply w_mod); (focus (walk_at "num"; done)))
  | ((with_reducible apply w_mul); (focus (walk_at "num"; done)))
  | ((with_reducible apply w_fdiv); (focus (walk_at "num"; done)))
  | ((with_reducible apply w_pow); (focus (walk_at "num"; done)))
  | with_reducible apply w_lt
  | with_reducible apply w_le
  | with_reducible apply w_gt
  | with_reducible apply w_ge
  | with_reducible apply w_ltS
  | with_reducible apply w_geS
  | with_reducible apply w_inC
  | with_reducible apply w_notInC
  | with_reducible apply w_isN
  | with_reducible apply w_notN
  | with_reducible apply w_isB
  | with_reducible apply w_notB
  | ((with_reducible apply w_addS); (focus (walk_at "sz"; done)))
  | ((with_reducible apply w_ixL); (focus (walk_at "sq"; done)); (focus (walk_at "ix"; done)))
  | ((with_reducible apply w_ixT); (focus (walk_at "hp"; done)); (focus (walk_at "ix"; done)))
  | ((with_reducible apply w_ixS); (focus (walk_at "sz"; done)); (focus (walk_at "ix"; done)))
  | with_reducible apply w_gSub
  | ((with_reducible apply w_gTup); (focus (walk_at "hp"; done)); (focus (exact rfl)))
  | with_reducible apply w_gCons
  | with_reducible apply w_gNil
  | ((with_reducible apply w_aug); (focus (exact rfl)))
  | with_reducible apply w_ipI
  | ((with_reducible apply w_eq); (focus (exact rfl)))
  | ((with_reducible apply w_ne); (focus (exact rfl)))
  | with_reducible apply w_max
  | with_reducible apply w_min
  | with_reducible apply w_abs
  | with_reducible apply w_intB
  | with_reducible apply w_intI
  | with_reducible apply w_tup1
  | with_reducible apply w_lst1
  | with_reducible apply w_sl
  | with_reducible apply w_part
  | with_reducible apply w_noPart
  | with_reducible apply w_isint
  | ((with_reducible apply w_slS); (focus (walk_at "sz"; done)))
  | with_reducible apply w_iteT
  | with_reducible apply w_iteF
  | with_reducible apply w_iteN
  | ((with_reducible apply w_iteYes); (focus (exact rfl)))
  | ((with_reducible apply w_iteNo); (focus (exact rfl)))
  | ((with_reducible apply w_lenL); (focus (walk_at "sq"; done)))
  | ((with_reducible apply w_lenT); (focus (walk_at "hp"; done)))
  | ((with_reducible apply w_lenS); (focus (walk_at "sz"; done)))
  | with_reducible apply w_lc
  | with_reducible apply w_for
  | with_reducible apply w_yes
  | ((with_reducible apply w_wipe); (focus (exact rfl)))
  | with_reducible apply w_iList
  | with_reducible apply w_iTup
  | with_reducible apply w_iStr
  | with_reducible apply w_iRng1
  | with_reducible apply w_iRng2
  | with_reducible apply w_iZip
  | with_reducible apply w_iEnum
  | ((with_reducible apply d_iList); (focus (walk_at "sq"; done)))
  | ((with_reducible apply d_iTup); (focus (walk_at "hp"; done)))
  | with_reducible apply d_iStr
  | ((with_reducible apply d_iRng1); (focus (walk_at "num"; done)); (focus (walk_at "num"; done)))
  | ((with_reducible apply d_iRng2); (focus (walk_at "num"; done)); (focus (walk_at "num"; done)); (focus (walk_at "num"; done)); (focus (walk_at "num"; done)))
  | ((with_reducible apply d_iZip); (focus (walk_at "sq"; done)); (focus (walk_at "sq"; done)))
  | ((with_reducible apply d_iEnum); (focus (walk_at "sq"; done)))
  | walk_at "w2")
local macro_rules | `(tactic| walk_at "w2") => `(tactic| fail)
local macro_rules | `(tactic| walk_at "wn") => `(tactic| repeat walk_at "w1")
local macro_rules | `(tactic| walk_at "w") => `(tactic| repeat (first | walk_at "w1" | with_reducible apply w_ret))
local macro_rules | `(tactic| walk_at "w2") => `(tactic| first
  | ((with_reducible apply w_isInt); (focus (walk_at "r"; done)))
  | ((with_reducible apply w_isBool); (focus (walk_at "r"; done)))
  | ((with_reducible apply w_isStr); (focus (walk_at "r"; done)))
  | ((with_reducible apply w_isTup); (focus (walk_at "r"; done)))
  | ((with_reducible apply w_isLst); (focus (walk_at "r"; done)))
  | with_reducible apply w_fld
  | with_reducible apply w_sfld
  | with_reducible apply w_faug
  | with_reducible apply w_rAdd
  | with_reducible apply w_rSub
  | with_reducible apply w_make
  | with_reducible apply w_orT
  | with_reducible apply w_dgetd
  | with_reducible apply w_dgetk
  | with_reducible apply w_dsetd
  | ((with_reducible apply k_dgetd); (focus (walk_at "hp"; done)))
  | ((with_reducible apply k_dsetd); (focus (walk_at "hp"; done)))
  | walk_at "w3")
local macro_rules | `(tactic| walk_at "w3") => `(tactic| fail)
local macro_rules | `(tactic| walk_at "w3") => `(tactic| first
  | with_reducible apply w_mt
  | with_reducible apply w_makeX
  | ((with_reducible apply m_Kind); (focus (walk_at "hp"; done)); (focus (exact rfl)))
  | ((with_reducible apply g_Kind_joining); (focus (assumption; done)); (focus (walk_at "hp"; done)))
  | ((with_reducible apply g_Kind_none); (focus (assumption; done)); (focus (walk_at "hp"; done)))
  | ((with_reducible apply g_Kind_making); (focus (assumption; done)); (focus (walk_at "hp"; done)))
  | ((with_reducible apply g_Kind_word); (focus (assumption; done)); (focus (walk_at "hp"; done))))
theorem KtAt.there {K : PySem.W.Frag} {L : Nat → Addr → LF} {S : Addr → Prop} {H : Hp} {a : Addr} {jf : PyData → PyData → Option PyData} {nd : PyData} {mf : Int → Option PyData} (h : KtAt K L S H a jf nd mf) : KtAt K L (fun a => S a ∧ H a ≠ none) H a jf nd mf := by
  obtain ⟨g, v1, m, h1, h2, h3, h4⟩ := h
  exact ⟨g, v1, m, h1, h2, r_thereK h3, h4⟩
theorem KtAt.mono {K : PySem.W.Frag} {L : Nat → Addr → LF} {S S' : Addr → Prop} {H : Hp} {a : Addr} {jf : PyData → PyData → Option PyData} {nd : PyData} {mf : Int → Option PyData} (hs : ∀ a, S a → S' a) (h : KtAt K L S H a jf nd mf) : KtAt K L S' H a jf nd mf := by
  obtain ⟨g, v1, m, h1, h2, h3, h4⟩ := h
  exact ⟨g, v1, m, h1, h2, h3.mono hs, h4⟩
end Fg
namespace Fg
open PySem PySem.Spec PyProof.Rows L2 LamX LmX
local macro_rules | `(tactic| walk_at "hp") => `(tactic| first
  | assumption
  | exact upd_same
  | (refine Chg.at (by assumption) ?_; walk_at "hp")
  | (refine Chg.at1 (by assumption) ?_ (by walk_at "ne"); walk_at "hp"))
local macro_rules | `(tactic| walk_at "ne") => `(tactic| first | assumption | (apply Ne.symm; assumption))
local macro_rules | `(tactic| walk_at "sq") => `(tactic| first | assumption | exact sqL (by walk_at "hp") | (refine Chg.seq (by assumption) ?_; walk_at "sq"))
local macro_rules | `(tactic| walk_at "sz") => `(tactic| first | assumption | exact Nat.zero_le _ | (simp only [List.length_cons, List.length_nil]; decide) | exact Nat.le_trans (by first | omega | (simp; done) | (simp; omega)) (show 100000 ≤ sizeLine by decide) | exact Nat.lt_of_lt_of_le (by first | omega | (simp; done) | (simp; omega)) (show 100000 ≤ sizeLine by decide))
local macro_rules | `(tactic| walk_at "ix") => `(tactic| first | exact at0 | exact at1 | exact at2 | exact at3 | assumption | exact rfl | walk_at "ix2")
local macro_rules | `(tactic| walk_at "ix2") => `(tactic| fail)
local macro_rules | `(tactic| walk_at "num") => `(tactic| first | assumption | omega | decide | walk_at "num2")
local macro_rules | `(tactic| walk_at "num2") => `(tactic| fail)
local macro_rules | `(tactic| walk_at "im") => `(tactic| first | assumption | exact R.non (S := fun _ => False) | exact R.bl (S := fun _ => False) _ | exact R.int (S := fun _ => False) _ | exact R.str (S := fun _ => False) _ | (refine R.im (by assumption) ?_; walk_at "im"))
local macro_rules | `(tactic| walk_at "r") => `(tactic| first | assumption | exact R.non (S := fun _ => False) | exact R.bl (S := fun _ => False) _ | exact R.int (S := fun _ => False) _ | exact R.str (S := fun _ => False) _ | (refine R.same (by assumption) ?_; walk_at "r") | exact R.any (by walk_at "im"))
local macro_rules | `(tactic| walk_at "chg") => `(tactic| first
  | exact Chg.refl
  | assumption
  | (refine Chg.same ?_ (by assumption); walk_at "chg")
  | (refine Chg.both ?_ (by assumption); walk_at "chg")
  | (refine Chg.pre (by assumption) ?_; walk_at "chg"))
local macro_rules | `(tactic| walk_at "w1") => `(tactic| first
  | with_reducible apply w_seq
  | with_reducible apply w_asg
  | ((with_reducible apply w_var); (focus (exact rfl)))
  | with_reducible apply w_c
  | with_reducible apply w_op
  | with_reducible apply w_cons
  | with_reducible apply w_nil
  | with_reducible apply w_gName
  | with_reducible apply w_if
  | with_reducible apply w_test
  | with_reducible apply w_B
  | with_reducible apply w_isbl
  | with_reducible apply w_retN
  | with_reducible apply w_next
  | with_reducible apply w_drop
  | with_reducible apply w_cb
  | with_reducible apply w_call
  | with_reducible apply w_callN
  | with_reducible apply w_bm
  | with_reducible apply w_bm0
  | ((with_reducible apply w_tyL); (focus (walk_at "hp"; done)))
  | with_reducible apply w_dput
  | with_reducible apply w_m1
  | with_reducible apply w_isstr
  | with_reducible apply w_and
  | with_reducible apply w_or
  | with_reducible apply w_not
  | with_reducible apply w_andV
  | with_reducible apply w_orV
  | with_reducible apply w_notV
  | with_reducible apply w_ifE
  | with_reducible apply w_chain
  | with_reducible apply w_un
  | with_reducible apply w_neg
  | with_reducible apply w_add
  | with_reducible apply w_sub
  | ((with_reducible apply w_mod); (focus (walk_at "num"; done)))
  | ((with_reducible apply w_mul); (focus (walk_at "num"; done)))
  | ((with_reducible apply w_fdiv); (focus (walk_at "num"; done)))
  | ((with_reducible apply w_pow); (focus (walk_at "num"; done)))
  | with_reducible apply w_lt
  | with_reducible apply w_le
  | with_reducible apply w_gt
  | with_reducible apply w_ge
  | with_reducible apply w_ltS
  | with_reducible apply w_geS
  | with_reducible apply w_inC
  | with_reducible apply w_notInC
  | with_reducible apply w_isN
  | with_reducible apply w_notN
  | with_reducible apply w_isB
  | with_reducible apply w_notB
  | ((with_reducible apply w_addS); (focus (walk_at "sz"; done)))
  | ((with_reducible apply w_ixL); (focus (walk_at "sq"; done)); (focus (walk_at "ix"; done)))
  | ((with_reducible apply w_ixT); (focus (walk_at "hp"; done)); (focus (walk_at "ix"; done)))
  | ((with_reducible apply w_ixS); (focus (walk_at "sz"; done)); (focus (walk_at "ix"; done)))
  | with_reducible apply w_gSub
  | ((with_reducible apply w_gTup); (focus (walk_at "hp"; done)); (focus (exact rfl)))
  | with_reducible apply w_gCons
  | with_reducible apply w_gNil
  | ((with_reducible apply w_aug); (focus (exact rfl)))
  | with_reducible apply w_ipI
  | ((with_reducible apply w_eq); (focus (exact rfl)))
  | ((with_reducible apply w_ne); (focus (exact rfl)))
  | with_reducible apply w_max
  | with_reducible apply w_min
  | with_reducible apply w_abs
  | with_reducible apply w_intB
  | with_reducible apply w_intI
  | with_reducible apply w_tup1
  | with_reducible apply w_lst1
  | with_reducible apply w_sl
  | with_reducible apply w_part
  | with_reducible apply w_noPart
  | with_reducible apply w_isint
  | ((with_reducible apply w_slS); (focus (walk_at "sz"; done)))
  | with_reducible apply w_iteT
  | with_reducible apply w_iteF
  | with_reducible apply w_iteN
  | ((with_reducible apply w_iteYes); (focus (exact rfl)))
  | ((with_reducible apply w_iteNo); (focus (exact rfl)))
  | ((with_reducible apply w_lenL); (focus (walk_at "sq"; done)))
  | ((with_reducible apply w_lenT); (focus (walk_at "hp"; done)))
  | ((with_reducible apply w_lenS); (focus (walk_at "sz"; done)))
  | with_reducible apply w_lc
  | with_reducible apply w_for
  | with_reducible apply w_yes
  | ((with_reducible apply w_wipe); (focus (exact rfl)))
  | with_reducible apply w_iList
  | with_reducible apply w_iTup
  | with_reducible apply w_iStr
  | with_reducible apply w_iRng1
  | with_reducible apply w_iRng2
  | with_reducible apply w_iZip
  | with_reducible apply w_iEnum
  | ((with_reducible apply d_iList); (focus (walk_at "sq"; done)))
  | ((with_reducible apply d_iTup); (focus (walk_at "hp"; done)))
  | with_reducible apply d_iStr
  | ((with_reducible apply d_iRng1); (focus (walk_at "num"; done)); (focus (walk_at "num"; done)))
  | ((with_reducible apply d_iRng2); (focus (walk_at "num"; done)); (focus (walk_at "num"; done)); (focus (walk_at "num"; done)); (focus (walk_at "num"; done)))
  | ((with_reducible apply d_iZip); (focus (walk_at "sq"; done)); (focus (walk_at "sq"; done)))
  | ((with_reducible apply d_iEnum); (focus (walk_at "sq"; done)))
  | walk_at "w2")
local macro_rules | `(tactic| walk_at "w2") => `(tactic| fail)
local macro_rules | `(tactic| walk_at "wn") => `(tactic| repeat walk_at "w1")
local macro_rules | `(tactic| walk_at "w") => `(tactic| repeat (first | walk_at "w1" | with_reducible apply w_ret))
local macro_rules | `(tactic| walk_at "w2") => `(tactic| first
  | ((with_reducible apply w_isInt); (focus (walk_at "r"; done)))
  | ((with_reducible apply w_isBool); (focus (walk_at "r"; done)))
  | ((with_reducible apply w_isStr); (focus (walk_at "r"; done)))
  | ((with_reducible apply w_isTup); (focus (walk_at "r"; done)))
  | ((with_reducible apply w_isLst); (focus (walk_at "r"; done)))
  | with_reducible apply w_fld
  | with_reducible apply w_sfld
  | with_reducible apply w_faug
  | with_reducible apply w_rAdd
  | with_reducible apply w_rSub
  | with_reducible apply w_make
  | with_reducible apply w_orT
  | with_reducible apply w_dgetd
  | with_reducible apply w_dgetk
  | with_reducible apply w_dsetd
  | ((with_reducible apply k_dgetd); (focus (walk_at "hp"; done)))
  | ((with_reducible apply k_dsetd); (focus (walk_at "hp"; done)))
  | walk_at "w3")
local macro_rules | `(tactic| walk_at "w3") => `(tactic| fail)
local macro_rules | `(tactic| walk_at "w3") => `(tactic| first
  | with_reducible apply w_mt
  | with_reducible apply w_makeX
  | ((with_reducible apply m_Kind); (focus (walk_at "hp"; done)); (focus (exact rfl)))
  | ((with_reducible apply g_Kind_joining); (focus (assumption; done)); (focus (walk_at "hp"; done)))
  | ((with_reducible apply g_Kind_none); (focus (assumption; done)); (focus (walk_at "hp"; done)))
  | ((with_reducible apply g_Kind_making); (focus (assumption; done)); (focus (walk_at "hp"; done)))
  | ((with_reducible apply g_Kind_word); (focus (assumption; done)); (focus (walk_at "hp"; done))))
end Fg
namespace Fg
open PySem PySem.Spec PyProof.Rows L2
section
structure MkIK (P : Program) (w : World) (K : PySem.W.Frag) (mg : Str → Option Value) (base : Heap) (k : Nat) (x : Str) (C : Addr) (sp : Sp) (n : Nat) (ks : List Str) (gV : List V → List V → List V) : Prop where
  ex : ∃ (f : Addr) (fd : FuncData) (ps : List Str) (g : List Value → List Value → List Value), Mk K C f ∧ FnOk P w K mg base CX0 k f fd ps sp ∧ mg x = some (.ref C) ∧ KBn K fd ps (n + 1) ks g gV
section
variable {X : Cx} {k j n mm : Nat} {x : Str} {C : Addr} {sp : Sp} {ks : List Str} {gV : List V → List V → List V} {p pos : Pos} {e : Expr} {es : List Expr} {kws : List Keyword} {t tk : TA}
theorem pe_mkK (c : MkIK X.prog X.w X.K X.mg X.base k x C sp n ks gV) (hr : Room j X.A) (hk : k + 1 ≤ j) (hg : Gl X x) (ha : PA X (e :: es) t) (hkw : PK X kws tk)
    (hall : (backToKw pos (keywordEach kws X.env)).all (·.1.isSome) = true := by rfl) (hks : (backToKw pos (keywordEach kws X.env)).filterMap (·.1) = ks := by rfl)
    (hdb : (x == ("__debug__" : Str)) = false := by decide) (he : starEach (e :: es) X.env = (false, eval e X.env) :: starEach es X.env := by rfl)
    (hpl : ((backTo pos (starEach (e :: es) X.env)).any (·.1) || (backToKw pos (keywordEach kws X.env)).any (·.1.isNone)) = false := by rfl) (hmm : mm = ks.length := by rfl) :
    PE X (.Call (.Name x p) (e :: es) kws pos) (tMakeN C n mm sp gV E0 t tk) := by
  subst hmm
  obtain ⟨f, fd, ps, g, M, F, hm, b⟩ := c.ex
  exact pe_makeN M F (hr.mono hk) hg hm b pass0 ha hkw hall hks hdb he hpl
/-- a new instance, as a step -/
def KMakeN (C : Addr) (n m : Nat) (sp : Sp) (gV : List V → List V → List V) (E : XK) (Q : VK) (vs : List V) : List V → Hp → Prop := fun zs H2 => vs.length = n ∧ zs.length = m ∧
  ∀ x dx, H2 x = none → H2 dx = none → dx ≠ x → sp (gV (.ref x :: vs) zs) (upd (upd H2 dx (.own x)) x (.ins C dx [])) (fun v H3 => v = .non ∧ Q (.ref x) H3) E
theorem w_makeN {m : Nat} {E : XK} {σ : L2.St} {H : Hp} {Q : VK} (h : t σ H fun vs H1 => tk σ H1 (KMakeN C n m sp gV E Q vs)) : tMakeN C n m sp gV E t tk σ H Q := h
theorem k_makeN {m : Nat} {E : XK} {Q : VK} {vs zs : List V} {H1 : Hp} (l1 : vs.length = n) (l2 : zs.length = m)
    (h : ∀ x dx H2, H1 x = none → H1 dx = none → dx ≠ x → Chg [] H1 H2 → H2 x = some (.ins C dx []) → sp (gV (.ref x :: vs) zs) H2 (fun v H2 => v = .non ∧ Q (.ref x) H2) E) : KMakeN C n m sp gV E Q vs zs H1 :=
  ⟨l1, l2, fun x dx nx nd ne => h x dx _ nx nd ne ((Chg.new nd).same (Chg.new (by rw [upd_ne (Ne.symm ne)]; exact nx))) upd_same⟩
end
section
variable {P : Program} {w : World} {K : PySem.W.Frag} {mg : Str → Option Value} {base : Heap} {C qual : Str} {st : Stmt} {dvs : List V} {f : Addr} {fd : FuncData} {sp : Sp} {k : Nat} {ps ks : List Str}
theorem mkid_of (n j : Nat) {params : Arguments} {body : List Stmt} {scope : Scope} (F : FunD K "__init__" qual params body scope dvs [] f fd) (M : Mk K (He.ga K C) f) (ok : FnOk P w K mg base CX0 k f fd ps sp) (gm : mg C = some (.ref (He.ga K C))) (hd : dvs ≠ []) (hn : n + (dvs.length - j) = ps.length)
    (h : ∀ (T : Addr) (kV doc pm : Value) (an : Option Addr) (cdv ct : Value) (us its : List Value), us.length = n → its.length = dvs.length →
      ∃ k, bindArgs (PySem.W.fnOf "__init__" qual params body scope (.ref T) kV doc pm an cdv ct) ⟨us, []⟩ = seqItems? (.ref T) >>= k ∧ k (some its.toArray) = pure (ps.zip (us ++ its.drop j))) : MkI P w K mg base k C (He.ga K C) sp (dvs.drop j) := by
  obtain ⟨ds, v, b⟩ := F.binds1 n j hd hn h
  exact ⟨_, fd, ps, ds, M, ok, gm, b, v⟩
end
end
end Fg
namespace Fg
open PySem PySem.Spec PyProof.Rows L2
local macro_rules | `(tactic| walk_at "hp") => `(tactic| first
  | assumption
  | exact upd_same
  | (refine Chg.at (by assumption) ?_; walk_at "hp")
  | (refine Chg.at1 (by assumption) ?_ (by walk_at "ne"); walk_at "hp"))
local macro_rules | `(tactic| walk_at "ne") => `(tactic| first | assumption | (apply Ne.symm; assumption))
local macro_rules | `(tactic| walk_at "sq") => `(tactic| first | assumption | exact sqL (by walk_at "hp") | (refine Chg.seq (by assumption) ?_; walk_at "sq"))
local macro_rules | `(tactic| walk_at "sz") => `(tactic| first | assumption | exact Nat.zero_le _ | (simp only [List.length_cons, List.length_nil]; decide) | exact Nat.le_trans (by first | omega | (simp; done) | (simp; omega)) (show 100000 ≤ sizeLine by decide) | exact Nat.lt_of_lt_of_le (by first | omega | (simp; done) | (simp; omega)) (show 100000 ≤ sizeLine by decide))
local macro_rules | `(tactic| walk_at "ix") => `(tactic| first | exact at0 | exact at1 | exact at2 | exact at3 | assumption | exact rfl | walk_at "ix2")
local macro_rules | `(tactic| walk_at "ix2") => `(tactic| fail)
local macro_rules | `(tactic| walk_at "num") => `(tactic| first | assumption | omega | decide | walk_at "num2")
local macro_rules | `(tactic| walk_at "num2") => `(tactic| fail)
local macro_rules | `(tactic| walk_at "im") => `(tactic| first | assumption | exact R.non (S := fun _ => False) | exact R.bl (S := fun _ => False) _ | exact R.int (S := fun _ => False) _ | exact R.str (S := fun _ => False) _ | (refine R.im (by assumption) ?_; walk_at "im"))
local macro_rules | `(tactic| walk_at "r") => `(tactic| first | assumption | exact R.non (S := fun _ => False) | exact R.bl (S := fun _ => False) _ | exact R.int (S := fun _ => False) _ | exact R.str (S := fun _ => False) _ | (refine R.same (by assumption) ?_; walk_at "r") | exact R.any (by walk_at "im"))
local macro_rules | `(tactic| walk_at "chg") => `(tactic| first
  | exact Chg.refl
  | assumption
  | (refine Chg.same ?_ (by assumption); walk_at "chg")
  | (refine Chg.both ?_ (by assumption); walk_at "chg")
  | (refine Chg.pre (by assumption) ?_; walk_at "chg"))
local macro_rules | `(tactic| walk_at "w1") => `(tactic| first
  | with_reducible apply w_seq
  | with_reducible apply w_asg
  | ((with_reducible apply w_var); (focus (exact rfl)))
  | with_reducible apply w_c
  | with_reducible apply w_op
  | with_reducible apply w_cons
  | with_reducible apply w_nil
  | with_reducible apply w_gName
  | with_reducible apply w_if
  | with_reducible apply w_test
  | with_reducible apply w_B
  | with_reducible apply w_isbl
  | with_reducible apply w_retN
  | with_reducible apply w_next
  | with_reducible apply w_drop
  | with_reducible apply w_cb
  | with_reducible apply w_call
  | with_reducible apply w_callN
  | with_reducible apply w_bm
  | with_reducible apply w_bm0
  | ((with_reducible apply w_tyL); (focus (walk_at "hp"; done)))
  | with_reducible apply w_dput
  | with_reducible apply w_m1
  | with_reducible apply w_isstr
  | with_reducible apply w_and
  | with_reducible apply w_or
  | with_reducible apply w_not
  | with_reducible apply w_andV
  | with_reducible apply w_orV
  | with_reducible apply w_notV
  | with_reducible apply w_ifE
  | with_reducible apply w_chain
  | with_reducible apply w_un
  | with_reducible apply w_neg
  | with_reducible apply w_add
  | with_reducible apply w_sub
  | ((with_reducible apply w_mod); (focus (walk_at "num"; done)))
  | ((with_reducible apply w_mul); (focus (walk_at "num"; done)))
  | ((with_reducible apply w_fdiv); (focus (walk_at "num"; done)))
  | ((with_reducible apply w_pow); (focus (walk_at "num"; done)))
  | with_reducible apply w_lt
  | with_reducible apply w_le
  | with_reducible apply w_gt
  | with_reducible apply w_ge
  | with_reducible apply w_ltS
  | with_reducible apply w_geS
  | with_reducible apply w_inC
  | with_reducible apply w_notInC
  | with_reducible apply w_isN
  | with_reducible apply w_notN
  | with_reducible apply w_isB
  | with_reducible apply w_notB
  | ((with_reducible apply w_addS); (focus (walk_at "sz"; done)))
  | ((with_reducible apply w_ixL); (focus (walk_at "sq"; done)); (focus (walk_at "ix"; done)))
  | ((with_reducible apply w_ixT); (focus (walk_at "hp"; done)); (focus (walk_at "ix"; done)))
  | ((with_reducible apply w_ixS); (focus (walk_at "sz"; done)); (focus (walk_at "ix"; done)))
  | with_reducible apply w_gSub
  | ((with_reducible apply w_gTup); (focus (walk_at "hp"; done)); (focus (exact rfl)))
  | with_reducible apply w_gCons
  | with_reducible apply w_gNil
  | ((with_reducible apply w_aug); (focus (exact rfl)))
  | with_reducible apply w_ipI
  | ((with_reducible apply w_eq); (focus (exact rfl)))
  | ((with_reducible apply w_ne); (focus (exact rfl)))
  | with_reducible apply w_max
  | with_reducible apply w_min
  | with_reducible apply w_abs
  | with_reducible apply w_intB
  | with_reducible apply w_intI
  | with_reducible apply w_tup1
  | with_reducible apply w_lst1
  | with_reducible apply w_sl
  | with_reducible apply w_part
  | with_reducible apply w_noPart
  | with_reducible apply w_isint
  | ((with_reducible apply w_slS); (focus (walk_at "sz"; done)))
  | with_reducible apply w_iteT
  | with_reducible apply w_iteF
  | with_reducible apply w_iteN
  | ((with_reducible apply w_iteYes); (focus (exact rfl)))
  | ((with_reducible apply w_iteNo); (focus (exact rfl)))
  | ((with_reducible apply w_lenL); (focus (walk_at "sq"; done)))
  | ((with_reducible apply w_lenT); (focus (walk_at "hp"; done)))
  | ((with_reducible apply w_lenS); (focus (walk_at "sz"; done)))
  | with_reducible apply w_lc
  | with_reducible apply w_for
  | with_reducible apply w_yes
  | ((with_reducible apply w_wipe); (focus (exact rfl)))
  | with_reducible apply w_iList
  | with_reducible apply w_iTup
  | with_reducible apply w_iStr
  | with_reducible apply w_iRng1
  | with_reducible apply w_iRng2
  | with_reducible apply w_iZip
  | with_reducible apply w_iEnum
  | ((with_reducible apply d_iList); (focus (walk_at "sq"; done)))
  | ((with_reducible apply d_iTup); (focus (walk_at "hp"; done)))
  | with_reducible apply d_iStr
  | ((with_reducible apply d_iRng1); (focus (walk_at "num"; done)); (focus (walk_at "num"; done)))
  | ((with_reducible apply d_iRng2); (focus (walk_at "num"; done)); (focus (walk_at "num"; done)); (focus (walk_at "num"; done)); (focus (walk_at "num"; done)))
  | ((with_reducible apply d_iZip); (focus (walk_at "sq"; done)); (focus (walk_at "sq"; done)))
  | ((with_reducible apply d_iEnum); (focus (walk_at "sq"; done)))
  | walk_at "w2")
local macro_rules | `(tactic| walk_at "w2") => `(tactic| fail)
local macro_rules | `(tactic| walk_at "wn") => `(tactic| repeat walk_at "w1")
local macro_rules | `(tactic| walk_at "w") => `(tactic| repeat (first | walk_at "w1" | with_reducible apply w_ret))
section
/-- the law's bag, n draws may follow -/
def Bag (H : Hp) (b : Addr) (n : Nat) : Prop := ∃ x y z : Int, H b = some (.lst [.int x, .int y, .int z]) ∧ 0 ≤ x ∧ 0 ≤ y ∧ y < 2 ^ 130 ∧ 0 ≤ z ∧ z + n ≤ 10 ^ 12
theorem Bag.keep {M : List Addr} {H H' : Hp} {b : Addr} {n : Nat} (h : Bag H b n) (c : Chg M H H') (hb : b ∉ M) : Bag H' b n := by
  obtain ⟨x, y, z, e, r⟩ := h
  exact ⟨x, y, z, c.keep _ _ e hb, r⟩
theorem Bag.same {H H' : Hp} {b : Addr} {n : Nat} (h : Bag H b n) (c : Chg [] H H') : Bag H' b n := h.keep c (by simp)
theorem Bag.one {H H' : Hp} {b p : Addr} {n : Nat} (h : Bag H b n) (c : Chg [p] H H') (e : b ≠ p) : Bag H' b n := h.keep c (by simpa using e)
theorem Bag.ne {H : Hp} {b p : Addr} {n : Nat} (h : Bag H b n) (e : H p = none) : b ≠ p := by
  obtain ⟨x, y, z, h, _⟩ := h
  exact ne_of_none h e
theorem Bag.some {H : Hp} {b : Addr} {n : Nat} (h : Bag H b n) : H b ≠ none := by
  obtain ⟨x, y, z, h, _⟩ := h
  rw [h]
  exact fun z => nomatch z
theorem Bag.le {H : Hp} {b : Addr} {n m : Nat} (h : Bag H b n) (e : m ≤ n) : Bag H b m := by
  obtain ⟨x, y, z, h, x0, y0, y1, z0, z1⟩ := h
  exact ⟨x, y, z, h, x0, y0, y1, z0, by omega⟩
def sp__law_draw : Sp := fun vs H Q _ => ∃ (b : Addr) (m : Int) (n : Nat), vs = [.ref b, .int m] ∧ Bag H b n ∧ 1 ≤ n ∧ 0 < m ∧ m < 10 ^ 30 ∧ ∀ (v : Int) (H' : Hp), Chg [b] H H' → Bag H' b (n - 1) → 0 ≤ v → v < m → Q (.int v) H'
theorem u_draw {H : Hp} {Q : VK} {E : XK} {b : Addr} {m : Int} {n : Nat} (hb : Bag H b n) (hn : 1 ≤ n) (h0 : 0 < m) (h1 : m < 10 ^ 30) (q : ∀ (v : Int) (H' : Hp), Chg [b] H H' → Bag H' b (n - 1) → 0 ≤ v → v < m → Q (.int v) H') : sp__law_draw ([.ref b, .int m] ++ []) H Q E := ⟨b, m, n, rfl, hb, hn, h0, h1, q⟩
def t__law_draw (K : PySem.W.Frag) : TS :=
    tSeq (tIfS (tTest (tOp oGt (tOp (rIxL K) (tVar 0) (tC (.int 0))) (tC (.int 1)))) (tSeq (tAsg (tOp oMod (tOp (rIxL K) (tVar 0) (tC (.int 0))) (tVar 1)) (gName 2))
    (tSeq (tAsg (tOp oFdiv (tOp (rIxL K) (tVar 0) (tC (.int 0))) (tVar 1)) (gSub (tVar 0) (tC (.int 0)) rSetL))
    (tRet (tVar 2)))) (tNext))
    (tSeq (tAsg (tOp oAdd (tOp (rIxL K) (tVar 0) (tC (.int 2))) (tC (.int 1))) (gSub (tVar 0) (tC (.int 2)) rSetL))
    (tSeq (tAsg (tOp oMod (tOp oPow (tOp oAdd (tOp (rIxL K) (tVar 0) (tC (.int 1))) (tOp oMul (tC (.int 7368787)) (tOp (rIxL K) (tVar 0) (tC (.int 2))))) (tC (.int 3))) (tC (.int 170141183460469231731687303715884105727))) (gName 3))
    (tSeq (tAsg (tOp oMod (tOp oPow (tOp oAdd (tVar 3) (tOp oMul (tC (.int 15485863)) (tOp (rIxL K) (tVar 0) (tC (.int 2))))) (tC (.int 3))) (tC (.int 162259276829213363391578010288127))) (gName 3))
    (tRet (tOp oMod (tOp oFdiv (tVar 3) (tC (.int 1024))) (tVar 1))))))
theorem pure__law_draw {K : PySem.W.Frag} (vs : List V) (H : Hp) (Q : VK) (E : XK) (h : sp__law_draw vs H Q E) : t__law_draw K (fin Q) (start ["bag", "many", "found", "mixed"] vs) H := by
  obtain ⟨b, m, n, rfl, ⟨x, y, z, hb, x0, y0, y1, z0, z1⟩, n1, m0, m1, q⟩ := h
  show t__law_draw K _ [some (.ref b), some (.int m), none, none] H
  unfold t__law_draw
  walk_at "w"
  refine w_iteD (fun h => ?_) (fun h => ?_)
  · walk_at "w"
    refine w_fdiv (cdivS m0 m1) ?_
    walk_at "w"
    refine w_setL hb rfl fun H1 c1 h1 => ?_
    walk_at "w"
    refine q _ H1 c1 ⟨_, _, _, h1, Int.ediv_nonneg x0 (by omega), y0, y1, z0, by omega⟩ (Int.emod_nonneg _ (by omega)) (Int.emod_lt_of_pos _ m0)
  · walk_at "w"
    refine w_setL hb rfl fun H1 c1 h1 => ?_
    have h1' : H1 b = some (HO.lst [V.int x, V.int y, V.int (z + 1)]) := h1
    clear h1
    walk_at "w"
    refine w_mul (cmulL (by decide) (by decide)) ?_
    walk_at "w"
    refine w_pow (cpow 200 (by omega) (by decide) (by decide)) ?_
    walk_at "w"
    refine w_mul (cmulL (by decide) (by decide)) ?_
    walk_at "w"
    have e0 := Int.emod_nonneg ((y + 7368787 * (z + 1)) ^ Int.toNat 3) (b := 170141183460469231731687303715884105727) (by decide)
    have e1 := Int.emod_lt_of_pos ((y + 7368787 * (z + 1)) ^ Int.toNat 3) (b := 170141183460469231731687303715884105727) (by decide)
    refine w_pow (cpow 200 (by omega) (by decide) (by decide)) ?_
    walk_at "w"
    refine w_fdiv (cdivS (by decide) (by decide)) ?_
    walk_at "w"
    exact q _ H1 c1 ⟨_, _, _, h1', x0, y0, y1, by omega, by omega⟩ (Int.emod_nonneg _ (by omega)) (Int.emod_lt_of_pos _ m0)
def sp__law_cell_at (K : PySem.W.Frag) : Sp := fun vs H Q _ => ∃ (a : Addr) (ns : List Int) (k : Int), vs = [.ref a, .int k] ∧ SqL K H a (ns.map V.int) ∧ 0 ≤ k ∧ ∀ v : Int, Q (.int v) H
def t__law_cell_at (K : PySem.W.Frag) : TS :=
    tSeq (tIfS (tTest (tOp oLt (tVar 1) (tCB (cLenQ K) (tCons (tVar 0) (tNil))))) (tRet (tOp (rIxL K) (tVar 0) (tVar 1))) (tNext))
    (tRet (tC (.int 0)))
theorem pure__law_cell_at {K : PySem.W.Frag} (vs : List V) (H : Hp) (Q : VK) (E : XK) (h : sp__law_cell_at K vs H Q E) : t__law_cell_at K (fin Q) (start ["script", "k"] vs) H := by
  obtain ⟨a, ns, k, rfl, hs, k0, q⟩ := h
  show t__law_cell_at K _ [some (.ref a), some (.int k)] H
  unfold t__law_cell_at
  walk_at "w"
  refine w_iteD (fun h => ?_) (fun h => ?_)
  · rw [List.length_map] at h
    obtain ⟨v, ev, hv⟩ := atD (xs := ns.map V.int) k0 (by rw [List.length_map]; exact h)
    obtain ⟨n, _, rfl⟩ := List.mem_map.mp hv
    walk_at "w"
    exact q n
  · walk_at "w"
    exact q 0
def sp__law_bag : Sp := fun vs H Q _ => ∃ c p : Int, vs = [.int c, .int p] ∧ 0 ≤ p ∧ p ≤ 1000 ∧ ∀ b H', H b = none → Chg [] H H' → Bag H' b (10 ^ 12) → Q (.ref b) H'
def t__law_bag  : TS :=
    tRet (tLst (tCons (tCB cMax (tCons (tC (.int 0)) (tCons (tOp oSub (tVar 0) (tOp oPow (tC (.int 10)) (tC (.int 18)))) (tNil)))) (tCons (tOp oAdd (tOp oMod (tVar 0) (tC (.int 170141183460469231731687303715884105727))) (tOp oMul (tC (.int 982451653)) (tVar 1))) (tCons (tC (.int 0)) (tNil)))))
theorem pure__law_bag {K : PySem.W.Frag} (vs : List V) (H : Hp) (Q : VK) (E : XK) (h : sp__law_bag vs H Q E) : t__law_bag (fin Q) (start ["cell", "place"] vs) H := by
  obtain ⟨c, p, rfl, p0, p1, q⟩ := h
  show t__law_bag _ [some (.int c), some (.int p)] H
  unfold t__law_bag
  walk_at "w"
  refine w_pow (cpow 4 (by decide) (by decide) (by decide)) ?_
  walk_at "w"
  refine w_mul (cmulL (by decide) (by decide)) ?_
  walk_at "w"
  refine k_lst (by walk_at "sz") fun b H1 nb c1 hb => ?_
  have e0 := Int.emod_nonneg c (b := 170141183460469231731687303715884105727) (by decide)
  have e1 := Int.emod_lt_of_pos c (b := 170141183460469231731687303715884105727) (by decide)
  refine q b H1 nb c1 ⟨_, _, _, hb, ?_, by omega, by omega, by omega, by omega⟩
  split <;> omega
end
end Fg
namespace Fg
open PySem PySem.Spec PyProof.Rows L2 LamX LmX
local macro_rules | `(tactic| walk_at "hp") => `(tactic| first
  | assumption
  | exact upd_same
  | (refine Chg.at (by assumption) ?_; walk_at "hp")
  | (refine Chg.at1 (by assumption) ?_ (by walk_at "ne"); walk_at "hp"))
local macro_rules | `(tactic| walk_at "ne") => `(tactic| first | assumption | (apply Ne.symm; assumption))
local macro_rules | `(tactic| walk_at "sq") => `(tactic| first | assumption | exact sqL (by walk_at "hp") | (refine Chg.seq (by assumption) ?_; walk_at "sq"))
local macro_rules | `(tactic| walk_at "sz") => `(tactic| first | assumption | exact Nat.zero_le _ | (simp only [List.length_cons, List.length_nil]; decide) | exact Nat.le_trans (by first | omega | (simp; done) | (simp; omega)) (show 100000 ≤ sizeLine by decide) | exact Nat.lt_of_lt_of_le (by first | omega | (simp; done) | (simp; omega)) (show 100000 ≤ sizeLine by decide))
local macro_rules | `(tactic| walk_at "ix") => `(tactic| first | exact at0 | exact at1 | exact at2 | exact at3 | assumption | exact rfl | walk_at "ix2")
local macro_rules | `(tactic| walk_at "ix2") => `(tactic| fail)
local macro_rules | `(tactic| walk_at "num") => `(tactic| first | assumption | omega | decide | walk_at "num2")
local macro_rules | `(tactic| walk_at "num2") => `(tactic| fail)
local macro_rules | `(tactic| walk_at "im") => `(tactic| first | assumption | exact R.non (S := fun _ => False) | exact R.bl (S := fun _ => False) _ | exact R.int (S := fun _ => False) _ | exact R.str (S := fun _ => False) _ | (refine R.im (by assumption) ?_; walk_at "im"))
local macro_rules | `(tactic| walk_at "r") => `(tactic| first | assumption | exact R.non (S := fun _ => False) | exact R.bl (S := fun _ => False) _ | exact R.int (S := fun _ => False) _ | exact R.str (S := fun _ => False) _ | (refine R.same (by assumption) ?_; walk_at "r") | exact R.any (by walk_at "im"))
local macro_rules | `(tactic| walk_at "chg") => `(tactic| first
  | exact Chg.refl
  | assumption
  | (refine Chg.same ?_ (by assumption); walk_at "chg")
  | (refine Chg.both ?_ (by assumption); walk_at "chg")
  | (refine Chg.pre (by assumption) ?_; walk_at "chg"))
local macro_rules | `(tactic| walk_at "w1") => `(tactic| first
  | with_reducible apply w_seq
  | with_reducible apply w_asg
  | ((with_reducible apply w_var); (focus (exact rfl)))
  | with_reducible apply w_c
  | with_reducible apply w_op
  | with_reducible apply w_cons
  | with_reducible apply w_nil
  | with_reducible apply w_gName
  | with_reducible apply w_if
  | with_reducible apply w_test
  | with_reducible apply w_B
  | with_reducible apply w_isbl
  | with_reducible apply w_retN
  | with_reducible apply w_next
  | with_reducible apply w_drop
  | with_reducible apply w_cb
  | with_reducible apply w_call
  | with_reducible apply w_callN
  | with_reducible apply w_bm
  | with_reducible apply w_bm0
  | ((with_reducible apply w_tyL); (focus (walk_at "hp"; done)))
  | with_reducible apply w_dput
  | with_reducible apply w_m1
  | with_reducible apply w_isstr
  | with_reducible apply w_and
  | with_reducible apply w_or
  | with_reducible apply w_not
  | with_reducible apply w_andV
  | with_reducible apply w_orV
  | with_reducible apply w_notV
  | with_reducible apply w_ifE
  | with_reducible apply w_chain
  | with_reducible apply w_un
  | with_reducible apply w_neg
  | with_reducible apply w_add
  | with_reducible apply w_sub
  | ((with_reducible apply w_mod); (focus (walk_at "num"; done)))
  | ((with_reducible apply w_mul); (focus (walk_at "num"; done)))
  | ((with_reducible apply w_fdiv); (focus (walk_at "num"; done)))
  | ((with_reducible apply w_pow); (focus (walk_at "num"; done)))
  | with_reducible apply w_lt
  | with_reducible apply w_le
  | with_reducible apply w_gt
  | with_reducible apply w_ge
  | with_reducible apply w_ltS
  | with_reducible apply w_geS
  | with_reducible apply w_inC
  | with_reducible apply w_notInC
  | with_reducible apply w_isN
  | with_reducible apply w_notN
  | with_reducible apply w_isB
  | with_reducible apply w_notB
  | ((with_reducible apply w_addS); (focus (walk_at "sz"; done)))
  | ((with_reducible apply w_ixL); (focus (walk_at "sq"; done)); (focus (walk_at "ix"; done)))
  | ((with_reducible apply w_ixT); (focus (walk_at "hp"; done)); (focus (walk_at "ix"; done)))
  | ((with_reducible apply w_ixS); (focus (walk_at "sz"; done)); (focus (walk_at "ix"; done)))
  | with_reducible apply w_gSub
  | ((with_reducible apply w_gTup); (focus (walk_at "hp"; done)); (focus (exact rfl)))
  | with_reducible apply w_gCons
  | with_reducible apply w_gNil
  | ((with_reducible apply w_aug); (focus (exact rfl)))
  | with_reducible apply w_ipI
  | ((with_reducible apply w_eq); (focus (exact rfl)))
  | ((with_reducible apply w_ne); (focus (exact rfl)))
  | with_reducible apply w_max
  | with_reducible apply w_min
  | with_reducible apply w_abs
  | with_reducible apply w_intB
  | with_reducible apply w_intI
  | with_reducible apply w_tup1
  | with_reducible apply w_lst1
  | with_reducible apply w_sl
  | with_reducible apply w_part
  | with_reducible apply w_noPart
  | with_reducible apply w_isint
  | ((with_reducible apply w_slS); (focus (walk_at "sz"; done)))
  | with_reducible apply w_iteT
  | with_reducible apply w_iteF
  | with_reducible apply w_iteN
  | ((with_reducible apply w_iteYes); (focus (exact rfl)))
  | ((with_reducible apply w_iteNo); (focus (exact rfl)))
  | ((with_reducible apply w_lenL); (focus (walk_at "sq"; done)))
  | ((with_reducible apply w_lenT); (focus (walk_at "hp"; done)))
  | ((with_reducible apply w_lenS); (focus (walk_at "sz"; done)))
  | with_reducible apply w_lc
  | with_reducible apply w_for
  | with_reducible apply w_yes
  | ((with_reducible apply w_wipe); (focus (exact rfl)))
  | with_reducible apply w_iList
  | with_reducible apply w_iTup
  | with_reducible apply w_iStr
  | with_reducible apply w_iRng1
  | with_reducible apply w_iRng2
  | with_reducible apply w_iZip
  | with_reducible apply w_iEnum
  | ((with_reducible apply d_iList); (focus (walk_at "sq"; done)))
  | ((with_reducible apply d_iTup); (focus (walk_at "hp"; done)))
  | with_reducible apply d_iStr
  | ((with_reducible apply d_iRng1); (focus (walk_at "num"; done)); (focus (walk_at "num"; done)))
  | ((with_reducible apply d_iRng2); (focus (walk_at "num"; done)); (focus (walk_at "num"; done)); (focus (walk_at "num"; done)); (focus (walk_at "num"; done)))
  | ((with_reducible apply d_iZip); (focus (walk_at "sq"; done)); (focus (walk_at "sq"; done)))
  | ((with_reducible apply d_iEnum); (focus (walk_at "sq"; done)))
  | walk_at "w2")
local macro_rules | `(tactic| walk_at "w2") => `(tactic| fail)
local macro_rules | `(tactic| walk_at "wn") => `(tactic| repeat walk_at "w1")
local macro_rules | `(tactic| walk_at "w") => `(tactic| repeat (first | walk_at "w1" | with_reducible apply w_ret))
local macro_rules | `(tactic| walk_at "w2") => `(tactic| first
  | ((with_reducible apply w_isInt); (focus (walk_at "r"; done)))
  | ((with_reducible apply w_isBool); (focus (walk_at "r"; done)))
  | ((with_reducible apply w_isStr); (focus (walk_at "r"; done)))
  | ((with_reducible apply w_isTup); (focus (walk_at "r"; done)))
  | ((with_reducible apply w_isLst); (focus (walk_at "r"; done)))
  | with_reducible apply w_fld
  | with_reducible apply w_sfld
  | with_reducible apply w_faug
  | with_reducible apply w_rAdd
  | with_reducible apply w_rSub
  | with_reducible apply w_make
  | with_reducible apply w_orT
  | with_reducible apply w_dgetd
  | with_reducible apply w_dgetk
  | with_reducible apply w_dsetd
  | ((with_reducible apply k_dgetd); (focus (walk_at "hp"; done)))
  | ((with_reducible apply k_dsetd); (focus (walk_at "hp"; done)))
  | walk_at "w3")
local macro_rules | `(tactic| walk_at "w3") => `(tactic| fail)
local macro_rules | `(tactic| walk_at "w3") => `(tactic| first
  | with_reducible apply w_mt
  | with_reducible apply w_makeX
  | ((with_reducible apply m_Kind); (focus (walk_at "hp"; done)); (focus (exact rfl)))
  | ((with_reducible apply g_Kind_joining); (focus (assumption; done)); (focus (walk_at "hp"; done)))
  | ((with_reducible apply g_Kind_none); (focus (assumption; done)); (focus (walk_at "hp"; done)))
  | ((with_reducible apply g_Kind_making); (focus (assumption; done)); (focus (walk_at "hp"; done)))
  | ((with_reducible apply g_Kind_word); (focus (assumption; done)); (focus (walk_at "hp"; done))))
/-- the lambdas' names -/
structure LQ (L : Nat → Addr → LF) : Prop where
  s : ∀ c', (L 0 c').qual = "summed.<locals>.<lambda>"
  t : ∀ j c', 1 ≤ j → j ≤ 2 → (L j c').qual = "strung.<locals>.<lambda>"
  k : ∀ j c', 3 ≤ j → j ≤ 30 → (L j c').qual = "_law_kind.<locals>.<lambda>"
theorem noX_tbl {H : Hp} {P : Addr} {q : Str} (h : TabS H P q) : NoX [P] H := fun a m => by
  obtain rfl := List.mem_singleton.mp m
  obtain ⟨ps, h, _⟩ := h
  exact ⟨(fun z e => by rw [h] at e; cases e), (fun C dx fs e => by rw [h] at e; cases e)⟩
theorem tabS_some {H : Hp} {P : Addr} {q : Str} (h : TabS H P q) : H P ≠ none := by
  obtain ⟨ps, h, _⟩ := h
  rw [h]
  exact fun z => nomatch z
theorem tabS_keep {M : List Addr} {H H' : Hp} {P : Addr} {q : Str} (c : Chg M H H') (n : NoX M H) (hP : P ∉ M) (h : TabS H P q) : TabS H' P q := by
  obtain ⟨ps, h1, h2, h3⟩ := h
  refine ⟨ps, c.keep _ _ h1 hP, h2, fun pos cv e => ?_⟩
  obtain ⟨c', e1, e2⟩ := h3 pos cv e
  exact ⟨c', e1, c.keep _ _ e2 fun m => (n _ m).1 _ e2⟩
end Fg
namespace Fg
open PySem PySem.Spec PyProof.Rows L2 LamX LmX
local macro_rules | `(tactic| walk_at "hp") => `(tactic| first
  | assumption
  | exact upd_same
  | (refine Chg.at (by assumption) ?_; walk_at "hp")
  | (refine Chg.at1 (by assumption) ?_ (by walk_at "ne"); walk_at "hp"))
local macro_rules | `(tactic| walk_at "ne") => `(tactic| first | assumption | (apply Ne.symm; assumption))
local macro_rules | `(tactic| walk_at "sq") => `(tactic| first | assumption | exact sqL (by walk_at "hp") | (refine Chg.seq (by assumption) ?_; walk_at "sq"))
local macro_rules | `(tactic| walk_at "sz") => `(tactic| first | assumption | exact Nat.zero_le _ | (simp only [List.length_cons, List.length_nil]; decide) | exact Nat.le_trans (by first | omega | (simp; done) | (simp; omega)) (show 100000 ≤ sizeLine by decide) | exact Nat.lt_of_lt_of_le (by first | omega | (simp; done) | (simp; omega)) (show 100000 ≤ sizeLine by decide))
local macro_rules | `(tactic| walk_at "ix") => `(tactic| first | exact at0 | exact at1 | exact at2 | exact at3 | assumption | exact rfl | walk_at "ix2")
local macro_rules | `(tactic| walk_at "ix2") => `(tactic| fail)
local macro_rules | `(tactic| walk_at "num") => `(tactic| first | assumption | omega | decide | walk_at "num2")
local macro_rules | `(tactic| walk_at "num2") => `(tactic| fail)
local macro_rules | `(tactic| walk_at "im") => `(tactic| first | assumption | exact R.non (S := fun _ => False) | exact R.bl (S := fun _ => False) _ | exact R.int (S := fun _ => False) _ | exact R.str (S := fun _ => False) _ | (refine R.im (by assumption) ?_; walk_at "im"))
local macro_rules | `(tactic| walk_at "r") => `(tactic| first | assumption | exact R.non (S := fun _ => False) | exact R.bl (S := fun _ => False) _ | exact R.int (S := fun _ => False) _ | exact R.str (S := fun _ => False) _ | (refine R.same (by assumption) ?_; walk_at "r") | exact R.any (by walk_at "im"))
local macro_rules | `(tactic| walk_at "chg") => `(tactic| first
  | exact Chg.refl
  | assumption
  | (refine Chg.same ?_ (by assumption); walk_at "chg")
  | (refine Chg.both ?_ (by assumption); walk_at "chg")
  | (refine Chg.pre (by assumption) ?_; walk_at "chg"))
local macro_rules | `(tactic| walk_at "w1") => `(tactic| first
  | with_reducible apply w_seq
  | with_reducible apply w_asg
  | ((with_reducible apply w_var); (focus (exact rfl)))
  | with_reducible apply w_c
  | with_reducible apply w_op
  | with_reducible apply w_cons
  | with_reducible apply w_nil
  | with_reducible apply w_gName
  | with_reducible apply w_if
  | with_reducible apply w_test
  | with_reducible apply w_B
  | with_reducible apply w_isbl
  | with_reducible apply w_retN
  | with_reducible apply w_next
  | with_reducible apply w_drop
  | with_reducible apply w_cb
  | with_reducible apply w_call
  | with_reducible apply w_callN
  | with_reducible apply w_bm
  | with_reducible apply w_bm0
  | ((with_reducible apply w_tyL); (focus (walk_at "hp"; done)))
  | with_reducible apply w_dput
  | with_reducible apply w_m1
  | with_reducible apply w_isstr
  | with_reducible apply w_and
  | with_reducible apply w_or
  | with_reducible apply w_not
  | with_reducible apply w_andV
  | with_reducible apply w_orV
  | with_reducible apply w_notV
  | with_reducible apply w_ifE
  | with_reducible apply w_chain
  | with_reducible apply w_un
  | with_reducible apply w_neg
  | with_reducible apply w_add
  | with_reducible apply w_sub
  | ((with_reducible apply w_mod); (focus (walk_at "num"; done)))
  | ((with_reducible apply w_mul); (focus (walk_at "num"; done)))
  | ((with_reducible apply w_fdiv); (focus (walk_at "num"; done)))
  | ((with_reducible apply w_pow); (focus (walk_at "num"; done)))
  | with_reducible apply w_lt
  | with_reducible apply w_le
  | with_reducible apply w_gt
  | with_reducible apply w_ge
  | with_reducible apply w_ltS
  | with_reducible apply w_geS
  | with_reducible apply w_inC
  | with_reducible apply w_notInC
  | with_reducible apply w_isN
  | with_reducible apply w_notN
  | with_reducible apply w_isB
  | with_reducible apply w_notB
  | ((with_reducible apply w_addS); (focus (walk_at "sz"; done)))
  | ((with_reducible apply w_ixL); (focus (walk_at "sq"; done)); (focus (walk_at "ix"; done)))
  | ((with_reducible apply w_ixT); (focus (walk_at "hp"; done)); (focus (walk_at "ix"; done)))
  | ((with_reducible apply w_ixS); (focus (walk_at "sz"; done)); (focus (walk_at "ix"; done)))
  | with_reducible apply w_gSub
  | ((with_reducible apply w_gTup); (focus (walk_at "hp"; done)); (focus (exact rfl)))
  | with_reducible apply w_gCons
  | with_reducible apply w_gNil
  | ((with_reducible apply w_aug); (focus (exact rfl)))
  | with_reducible apply w_ipI
  | ((with_reducible apply w_eq); (focus (exact rfl)))
  | ((with_reducible apply w_ne); (focus (exact rfl)))
  | with_reducible apply w_max
  | with_reducible apply w_min
  | with_reducible apply w_abs
  | with_reducible apply w_intB
  | with_reducible apply w_intI
  | with_reducible apply w_tup1
  | with_reducible apply w_lst1
  | with_reducible apply w_sl
  | with_reducible apply w_part
  | with_reducible apply w_noPart
  | with_reducible apply w_isint
  | ((with_reducible apply w_slS); (focus (walk_at "sz"; done)))
  | with_reducible apply w_iteT
  | with_reducible apply w_iteF
  | with_reducible apply w_iteN
  | ((with_reducible apply w_iteYes); (focus (exact rfl)))
  | ((with_reducible apply w_iteNo); (focus (exact rfl)))
  | ((with_reducible apply w_lenL); (focus (walk_at "sq"; done)))
  | ((with_reducible apply w_lenT); (focus (walk_at "hp"; done)))
  | ((with_reducible apply w_lenS); (focus (walk_at "sz"; done)))
  | with_reducible apply w_lc
  | with_reducible apply w_for
  | with_reducible apply w_yes
  | ((with_reducible apply w_wipe); (focus (exact rfl)))
  | with_reducible apply w_iList
  | with_reducible apply w_iTup
  | with_reducible apply w_iStr
  | with_reducible apply w_iRng1
  | with_reducible apply w_iRng2
  | with_reducible apply w_iZip
  | with_reducible apply w_iEnum
  | ((with_reducible apply d_iList); (focus (walk_at "sq"; done)))
  | ((with_reducible apply d_iTup); (focus (walk_at "hp"; done)))
  | with_reducible apply d_iStr
  | ((with_reducible apply d_iRng1); (focus (walk_at "num"; done)); (focus (walk_at "num"; done)))
  | ((with_reducible apply d_iRng2); (focus (walk_at "num"; done)); (focus (walk_at "num"; done)); (focus (walk_at "num"; done)); (focus (walk_at "num"; done)))
  | ((with_reducible apply d_iZip); (focus (walk_at "sq"; done)); (focus (walk_at "sq"; done)))
  | ((with_reducible apply d_iEnum); (focus (walk_at "sq"; done)))
  | walk_at "w2")
local macro_rules | `(tactic| walk_at "w2") => `(tactic| fail)
local macro_rules | `(tactic| walk_at "wn") => `(tactic| repeat walk_at "w1")
local macro_rules | `(tactic| walk_at "w") => `(tactic| repeat (first | walk_at "w1" | with_reducible apply w_ret))
local macro_rules | `(tactic| walk_at "w2") => `(tactic| first
  | ((with_reducible apply w_isInt); (focus (walk_at "r"; done)))
  | ((with_reducible apply w_isBool); (focus (walk_at "r"; done)))
  | ((with_reducible apply w_isStr); (focus (walk_at "r"; done)))
  | ((with_reducible apply w_isTup); (focus (walk_at "r"; done)))
  | ((with_reducible apply w_isLst); (focus (walk_at "r"; done)))
  | with_reducible apply w_fld
  | with_reducible apply w_sfld
  | with_reducible apply w_faug
  | with_reducible apply w_rAdd
  | with_reducible apply w_rSub
  | with_reducible apply w_make
  | with_reducible apply w_orT
  | with_reducible apply w_dgetd
  | with_reducible apply w_dgetk
  | with_reducible apply w_dsetd
  | ((with_reducible apply k_dgetd); (focus (walk_at "hp"; done)))
  | ((with_reducible apply k_dsetd); (focus (walk_at "hp"; done)))
  | walk_at "w3")
local macro_rules | `(tactic| walk_at "w3") => `(tactic| fail)
local macro_rules | `(tactic| walk_at "w3") => `(tactic| first
  | with_reducible apply w_mt
  | with_reducible apply w_makeX
  | ((with_reducible apply m_Kind); (focus (walk_at "hp"; done)); (focus (exact rfl)))
  | ((with_reducible apply g_Kind_joining); (focus (assumption; done)); (focus (walk_at "hp"; done)))
  | ((with_reducible apply g_Kind_none); (focus (assumption; done)); (focus (walk_at "hp"; done)))
  | ((with_reducible apply g_Kind_making); (focus (assumption; done)); (focus (walk_at "hp"; done)))
  | ((with_reducible apply g_Kind_word); (focus (assumption; done)); (focus (walk_at "hp"; done))))
def idD : Int → Option PyData := fun n => some (.int n)
def kj : Nat → PyData → PyData → Option PyData
  | 0 => jnD 3
  | 1 => leD
  | 2 => jnD 4
  | 3 => jnD 5
  | 4 => boD
  | 5 => jnD 8
  | 6 => jnD 10
  | 7 => jnD 12
  | 8 => jnD 13
  | 9 => jnD 15
  | 10 => jnD 17
  | 11 => apD
  | 12 => jnD 18
  | 13 => jnD 19
  | 14 => jnD 21
  | 15 => jnD 22
  | 16 => jnD 23
  | 17 => jnD 24
  | 18 => jnD 26
  | 19 => jnD 27
  | 20 => lnD
  | 21 => jnD 29
  | _ => fun _ _ => none
def kn : Nat → PyData
  | 0 => .int 0
  | 1 => .none
  | 2 => .none
  | 3 => .str (Str.ofString "")
  | 4 => .tuple []
  | 5 => .list []
  | 6 => .int 1
  | 7 => .int (-1)
  | 8 => .str (Str.ofString "")
  | 9 => .none
  | 10 => .int 0
  | 11 => .none
  | 12 => .int 0
  | 13 => .int 0
  | 14 => .int 0
  | 15 => .int 1
  | 16 => .int 0
  | 17 => .str (Str.ofString "")
  | 18 => .none
  | 19 => .none
  | 20 => .none
  | 21 => .int 0
  | _ => .none
def km : Nat → Int → Option PyData
  | 0 => idD
  | 1 => idD
  | 2 => idD
  | 3 => mkD 6
  | 4 => mkD 7
  | 5 => mkD 9
  | 6 => mkD 11
  | 7 => idD
  | 8 => mkD 14
  | 9 => mkD 16
  | 10 => idD
  | 11 => idD
  | 12 => idD
  | 13 => mkD 20
  | 14 => idD
  | 15 => idD
  | 16 => idD
  | 17 => mkD 25
  | 18 => idD
  | 19 => mkD 28
  | 20 => idD
  | 21 => mkD 30
  | _ => idD
abbrev KP (K : PySem.W.Frag) : Addr := tabP K "_law_kind"
abbrev KQ : Str := "_law_kind.<locals>.<lambda>"
section
variable {K : PySem.W.Frag} {L : Nat → Addr → LF}
def EvJ (K : PySem.W.Frag) (L : Nat → Addr → LF) (A : TE) (jf : PyData → PyData → Option PyData) : Prop := ∀ (H : Hp) (σ : L2.St) (Q : VK), TabS H (KP K) KQ → (∀ v H', Chg [KP K] H H' → TabS H' (KP K) KQ → JV K L H' v jf → Q v H') → A σ H Q
def EvN (B : TE) (nd : PyData) : Prop := ∀ (S : Addr → Prop) (H : Hp) (σ : L2.St) (Q : VK), (∀ a, H a = none → S a) → (∀ v H', Chg [] H H' → R S H' v nd → Q v H') → B σ H Q
def EvM (K : PySem.W.Frag) (L : Nat → Addr → LF) (A : TE) (mf : Int → Option PyData) : Prop := ∀ (H : Hp) (σ : L2.St) (Q : VK), TabS H (KP K) KQ → (∀ v H', Chg [KP K] H H' → TabS H' (KP K) KQ → MV L H' v mf → Q v H') → A σ H Q
theorem evJ_lam (lq : LQ L) {j : Nat} (h1 : 3 ≤ j) (h2 : j ≤ 30) (h3 : j ∉ mkers) : EvJ K L (tLam (KP K) KQ (L j)) (jnD j) := fun H σ Q t q =>
  ⟨t, fun f c' H1 c1 t1 nf hf hc => q _ _ c1 t1 ⟨f, rfl, .inl ⟨j, by omega, h3, rfl, c', hf, by rw [lq.k j c' h1 h2]; exact hc⟩⟩⟩
theorem evJ_ref {f : Addr} {jf : PyData → PyData → Option PyData} (h : (f, sp2 jf) ∈ SFk K) : EvJ K L (tC (.ref f)) jf := fun H σ Q t q => q _ _ .refl t ⟨f, rfl, .inr h⟩
theorem evN_int (i : Int) : EvN (tC (.int i)) (.int i) := fun S H σ Q _ q => q _ _ .refl (.int i)
theorem evN_m1 : EvN (tUn (rU fun i => .int (-i)) (tC (.int 1))) (.int (-1)) := fun S H σ Q _ q => by
  walk_at "w"
  exact q _ _ .refl (.int _)
theorem evN_none : EvN (tC .non) .none := fun S H σ Q _ q => q _ _ .refl .non
theorem evN_str : EvN (tC (.str (Str.ofString ""))) (.str (Str.ofString "")) := fun S H σ Q _ q => q _ _ .refl (.str _)
theorem evN_tup : EvN (tTup tNil) (.tuple []) := fun S H σ Q _ q => by
  walk_at "w"
  refine k_tup (by walk_at "sz") fun T H1 nT c1 hT => ?_
  exact q _ _ c1 (.tup hT .nil)
theorem evN_lst : EvN (tLst tNil) (.list []) := fun S H σ Q fr q => by
  walk_at "w"
  refine k_lst (by walk_at "sz") fun T H1 nT c1 hT => ?_
  exact q _ _ c1 (.lst (fr _ nT) hT .nil)
theorem evM_none : EvM K L (tC .non) idD := fun H σ Q t q => q _ _ .refl t (.inl ⟨rfl, rfl⟩)
theorem evM_lam (lq : LQ L) {j : Nat} (h3 : j ∈ mkers ∧ 3 ≤ j) : EvM K L (tLam (KP K) KQ (L j)) (mkD j) := fun H σ Q t q =>
  ⟨t, fun f c' H1 c1 t1 nf hf hc => q _ _ c1 t1 (.inr ⟨f, j, rfl, h3.1, rfl, c', hf, by rw [lq.k j c' h3.2 (Nat.le_of_lt_succ (mkers_lt h3.1))]; exact hc⟩)⟩
theorem ev_row {A B C : TE} {jf : PyData → PyData → Option PyData} {nd : PyData} {mf : Int → Option PyData} (ha : EvJ K L A jf) (hb : EvN B nd) (hc : EvM K L C mf) {S : Addr → Prop} {H : Hp} {σ : L2.St} {Q : VK} (fr : ∀ a, H a = none → S a) (hS : ∀ a, S a → a ∉ [KP K]) (t : TabS H (KP K) KQ)
    (q : ∀ T H', H T = none → Chg [KP K] H H' → TabS H' (KP K) KQ → KtAt K L S H' T jf nd mf → Q (.ref T) H') : A σ H fun x H1 => tCons B (tCons C tNil) σ H1 fun xs H2 => KTup Q (x :: xs) H2 := by
  refine ha H σ _ t fun g H1 c1 t1 j1 => ?_
  walk_at "wn"
  refine hb S H1 σ _ (fun a e => fr a (c1.dom a e)) fun v H2 c2 r2 => ?_
  have t2 := tabS_keep c2 .nil (by simp) t1
  walk_at "wn"
  refine hc H2 σ _ t2 fun m H3 c3 t3 m3 => ?_
  walk_at "wn"
  refine k_tup (by walk_at "sz") fun T H4 nT c4 hT => ?_
  refine q T H4 (c1.dom T (c2.dom T (c3.dom T nT))) (((c1.same c2).both c3).same c4) (tabS_keep c4 .nil (by simp) t3) ⟨g, v, m, hT, ?_, ?_, m3.keep c4 .nil⟩
  · exact ((j1.keep c2 .nil).keep c3 (noX_tbl t2)).keep c4 .nil
  · exact (r2.keep c3 hS).same c4
/-- the table so far -/
def KInv (K : PySem.W.Frag) (L : Nat → Addr → LF) (S : Addr → Prop) (H0 : Hp) (p : Addr) (k : Nat) (H : Hp) : Prop := H0 p = none ∧ (∀ a, H0 a = none → S a) ∧ Chg [KP K] H0 H ∧ TabS H (KP K) KQ ∧
  ∃ vs, H p = some (.lst vs) ∧ vs.length = k ∧ ∀ i v, vs[i]? = some v → ∃ T, v = .ref T ∧ KtAt K L (fun a => S a ∧ a ≠ KP K ∧ a ≠ p) H T (kj i) (kn i) (km i)
theorem kd_app {A B C : TE} {S : Addr → Prop} {H0 H : Hp} {p : Addr} {k : Nat} {D : Ends} {rest : TS} {at' : V} (ha : EvJ K L A (kj k)) (hb : EvN B (kn k)) (hc : EvM K L C (km k)) (iv : KInv K L S H0 p k H)
    (hk : k ≤ 1000) (q : ∀ H', KInv K L S H0 p (k + 1) H' → rest D [some at', some (.ref p)] H') : tSeq (tDrop (tBM K "list" rAppend (tVar 1) (tCons (tTup (tCons A (tCons B (tCons C tNil)))) tNil))) rest D [some at', some (.ref p)] H := by
  obtain ⟨np, fr, c0, t, vs, hp, lv, en⟩ := iv
  have Pp : KP K ≠ p := fun e => by obtain ⟨ps, h, _⟩ := t; rw [e, hp] at h; cases h
  walk_at "wn"
  refine ev_row ha hb hc (S := fun a => S a ∧ a ≠ KP K ∧ a ≠ p) (fun a e => ⟨fr a (c0.dom a e), (fun z => tabS_some t (by rw [← z]; exact e)), (fun z => by rw [z, hp] at e; cases e)⟩) (fun a z m => z.2.1 (List.mem_singleton.mp m)) t fun T H1 nT c1 t1 kt => ?_
  walk_at "wn"
  have hp1 := c1.at1 hp (Ne.symm Pp)
  refine w_append hp1 (Nat.lt_of_le_of_lt (by rw [lv]; exact hk) (by decide)) fun H2 c2 h2 => ?_
  have nx := noX_lst hp1
  have hS2 : ∀ a, (S a ∧ a ≠ KP K ∧ a ≠ p) → a ∉ [p] := fun a z m => z.2.2 (List.mem_singleton.mp m)
  refine q H2 ⟨np, fr, (c0.both c1).go c2 (fun a m => .inr (by rw [List.mem_singleton.mp m]; exact np)), tabS_keep c2 nx (by simpa using Pp) t1, vs ++ [.ref T], h2, by rw [List.length_append, lv]; rfl, fun i v e => ?_⟩
  by_cases hi : i < vs.length
  · rw [List.getElem?_append_left hi] at e
    obtain ⟨T', rfl, k'⟩ := en i v e
    exact ⟨T', rfl, (k'.keep c1 (noX_tbl t) (fun a z m => z.2.1 (List.mem_singleton.mp m))).keep c2 nx hS2⟩
  · have hi2 : i = k := by
      have := (List.getElem?_eq_some_iff.mp e).1
      rw [List.length_append, List.length_singleton] at this
      omega
    subst hi2
    rw [List.getElem?_append_right (by omega), ← lv, Nat.sub_self] at e
    cases (Option.some.inj (show some (V.ref T) = some v from e))
    exact ⟨T, rfl, kt.keep c2 nx hS2⟩
theorem kd_init {A0 B0 C0 A1 B1 C1 : TE} {S : Addr → Prop} {H : Hp} {D : Ends} {rest : TS} {at' : V} (ha0 : EvJ K L A0 (kj 0)) (hb0 : EvN B0 (kn 0)) (hc0 : EvM K L C0 (km 0)) (ha1 : EvJ K L A1 (kj 1)) (hb1 : EvN B1 (kn 1)) (hc1 : EvM K L C1 (km 1)) (fr : ∀ a, H a = none → S a) (t0 : TabS H (KP K) KQ)
    (q : ∀ p H', KInv K L S H p 2 H' → rest D [some at', some (.ref p)] H') : tSeq (tAsg (tLst (tCons (tTup (tCons A0 (tCons B0 (tCons C0 tNil)))) (tCons (tTup (tCons A1 (tCons B1 (tCons C1 tNil)))) tNil))) (gName 1)) rest D [some at', none] H := by
  have fr1 : ∀ a, H a = none → S a ∧ a ≠ KP K := fun a e => ⟨fr a e, fun z => tabS_some t0 (by rw [← z]; exact e)⟩
  have hS1 : ∀ a, (S a ∧ a ≠ KP K) → a ∉ [KP K] := fun a z m => z.2 (List.mem_singleton.mp m)
  walk_at "wn"
  refine ev_row (L := L) ha0 hb0 hc0 (S := fun a => S a ∧ a ≠ KP K) fr1 hS1 t0 fun T0 H1 nT0 c1 t1 kt0 => ?_
  walk_at "wn"
  refine ev_row (L := L) ha1 hb1 hc1 (S := fun a => S a ∧ a ≠ KP K) (fun a e => fr1 a (c1.dom a e)) hS1 t1 fun T1 H2 nT1 c2 t2 kt1 => ?_
  walk_at "wn"
  refine k_lst (by walk_at "sz") fun p Hp np cp hp => ?_
  have c02 := c1.both c2
  have pH : H p = none := c02.dom p np
  have iv2 : KInv K L S H p 2 Hp := by
    have k0 := (KtAt.there (kt0.keep c2 (noX_tbl t1) hS1)).mono (S' := fun a => S a ∧ a ≠ KP K ∧ a ≠ p) fun b z => ⟨z.1.1, z.1.2, fun e => z.2 (by rw [e]; exact np)⟩
    have k1 := (KtAt.there kt1).mono (S' := fun a => S a ∧ a ≠ KP K ∧ a ≠ p) fun b z => ⟨z.1.1, z.1.2, fun e => z.2 (by rw [e]; exact np)⟩
    refine ⟨pH, fr, c02.same cp, tabS_keep cp .nil (by simp) t2, _, hp, rfl, fun j v e => ?_⟩
    match j, e with
    | 0, e => cases e; exact ⟨T0, rfl, k0.same cp⟩
    | 1, e => cases e; exact ⟨T1, rfl, k1.same cp⟩
    | j + 2, e => simp at e
  exact q p Hp iv2
end
end Fg
namespace Fg
open PySem PySem.Spec PyProof.Rows L2 LamX LmX
local macro_rules | `(tactic| walk_at "hp") => `(tactic| first
  | assumption
  | exact upd_same
  | (refine Chg.at (by assumption) ?_; walk_at "hp")
  | (refine Chg.at1 (by assumption) ?_ (by walk_at "ne"); walk_at "hp"))
local macro_rules | `(tactic| walk_at "ne") => `(tactic| first | assumption | (apply Ne.symm; assumption))
local macro_rules | `(tactic| walk_at "sq") => `(tactic| first | assumption | exact sqL (by walk_at "hp") | (refine Chg.seq (by assumption) ?_; walk_at "sq"))
local macro_rules | `(tactic| walk_at "sz") => `(tactic| first | assumption | exact Nat.zero_le _ | (simp only [List.length_cons, List.length_nil]; decide) | exact Nat.le_trans (by first | omega | (simp; done) | (simp; omega)) (show 100000 ≤ sizeLine by decide) | exact Nat.lt_of_lt_of_le (by first | omega | (simp; done) | (simp; omega)) (show 100000 ≤ sizeLine by decide))
local macro_rules | `(tactic| walk_at "ix") => `(tactic| first | exact at0 | exact at1 | exact at2 | exact at3 | assumption | exact rfl | walk_at "ix2")
local macro_rules | `(tactic| walk_at "ix2") => `(tactic| fail)
local macro_rules | `(tactic| walk_at "num") => `(tactic| first | assumption | omega | decide | walk_at "num2")
local macro_rules | `(tactic| walk_at "num2") => `(tactic| fail)
local macro_rules | `(tactic| walk_at "im") => `(tactic| first | assumption | exact R.non (S := fun _ => False) | exact R.bl (S := fun _ => False) _ | exact R.int (S := fun _ => False) _ | exact R.str (S := fun _ => False) _ | (refine R.im (by assumption) ?_; walk_at "im"))
local macro_rules | `(tactic| walk_at "r") => `(tactic| first | assumption | exact R.non (S := fun _ => False) | exact R.bl (S := fun _ => False) _ | exact R.int (S := fun _ => False) _ | exact R.str (S := fun _ => False) _ | (refine R.same (by assumption) ?_; walk_at "r") | exact R.any (by walk_at "im"))
local macro_rules | `(tactic| walk_at "chg") => `(tactic| first
  | exact Chg.refl
  | assumption
  | (refine Chg.same ?_ (by assumption); walk_at "chg")
  | (refine Chg.both ?_ (by assumption); walk_at "chg")
  | (refine Chg.pre (by assumption) ?_; walk_at "chg"))
local macro_rules | `(tactic| walk_at "w1") => `(tactic| first
  | with_reducible apply w_seq
  | with_reducible apply w_asg
  | ((with_reducible apply w_var); (focus (exact rfl)))
  | with_reducible apply w_c
  | with_reducible apply w_op
  | with_reducible apply w_cons
  | with_reducible apply w_nil
  | with_reducible apply w_gName
  | with_reducible apply w_if
  | with_reducible apply w_test
  | with_reducible apply w_B
  | with_reducible apply w_isbl
  | with_reducible apply w_retN
  | with_reducible apply w_next
  | with_reducible apply w_drop
  | with_reducible apply w_cb
  | with_reducible apply w_call
  | with_reducible apply w_callN
  | with_reducible apply w_bm
  | with_reducible apply w_bm0
  | ((with_reducible apply w_tyL); (focus (walk_at "hp"; done)))
  | with_reducible apply w_dput
  | with_reducible apply w_m1
  | with_reducible apply w_isstr
  | with_reducible apply w_and
  | with_reducible apply w_or
  | with_reducible apply w_not
  | with_reducible apply w_andV
  | with_reducible apply w_orV
  | with_reducible apply w_notV
  | with_reducible apply w_ifE
  | with_reducible apply w_chain
  | with_reducible apply w_un
  | with_reducible apply w_neg
  | with_reducible apply w_add
  | with_reducible apply w_sub
  | ((with_reducible apply w_mod); (focus (walk_at "num"; done)))
  | ((with_reducible apply w_mul); (focus (walk_at "num"; done)))
  | ((with_reducible apply w_fdiv); (focus (walk_at "num"; done)))
  | ((with_reducible apply w_pow); (focus (walk_at "num"; done)))
  | with_reducible apply w_lt
  | with_reducible apply w_le
  | with_reducible apply w_gt
  | with_reducible apply w_ge
  | with_reducible apply w_ltS
  | with_reducible apply w_geS
  | with_reducible apply w_inC
  | with_reducible apply w_notInC
  | with_reducible apply w_isN
  | with_reducible apply w_notN
  | with_reducible apply w_isB
  | with_reducible apply w_notB
  | ((with_reducible apply w_addS); (focus (walk_at "sz"; done)))
  | ((with_reducible apply w_ixL); (focus (walk_at "sq"; done)); (focus (walk_at "ix"; done)))
  | ((with_reducible apply w_ixT); (focus (walk_at "hp"; done)); (focus (walk_at "ix"; done)))
  | ((with_reducible apply w_ixS); (focus (walk_at "sz"; done)); (focus (walk_at "ix"; done)))
  | with_reducible apply w_gSub
  | ((with_reducible apply w_gTup); (focus (walk_at "hp"; done)); (focus (exact rfl)))
  | with_reducible apply w_gCons
  | with_reducible apply w_gNil
  | ((with_reducible apply w_aug); (focus (exact rfl)))
  | with_reducible apply w_ipI
  | ((with_reducible apply w_eq); (focus (exact rfl)))
  | ((with_reducible apply w_ne); (focus (exact rfl)))
  | with_reducible apply w_max
  | with_reducible apply w_min
  | with_reducible apply w_abs
  | with_reducible apply w_intB
  | with_reducible apply w_intI
  | with_reducible apply w_tup1
  | with_reducible apply w_lst1
  | with_reducible apply w_sl
  | with_reducible apply w_part
  | with_reducible apply w_noPart
  | with_reducible apply w_isint
  | ((with_reducible apply w_slS); (focus (walk_at "sz"; done)))
  | with_reducible apply w_iteT
  | with_reducible apply w_iteF
  | with_reducible apply w_iteN
  | ((with_reducible apply w_iteYes); (focus (exact rfl)))
  | ((with_reducible apply w_iteNo); (focus (exact rfl)))
  | ((with_reducible apply w_lenL); (focus (walk_at "sq"; done)))
  | ((with_reducible apply w_lenT); (focus (walk_at "hp"; done)))
  | ((with_reducible apply w_lenS); (focus (walk_at "sz"; done)))
  | with_reducible apply w_lc
  | with_reducible apply w_for
  | with_reducible apply w_yes
  | ((with_reducible apply w_wipe); (focus (exact rfl)))
  | with_reducible apply w_iList
  | with_reducible apply w_iTup
  | with_reducible apply w_iStr
  | with_reducible apply w_iRng1
  | with_reducible apply w_iRng2
  | with_reducible apply w_iZip
  | with_reducible apply w_iEnum
  | ((with_reducible apply d_iList); (focus (walk_at "sq"; done)))
  | ((with_reducible apply d_iTup); (focus (walk_at "hp"; done)))
  | with_reducible apply d_iStr
  | ((with_reducible apply d_iRng1); (focus (walk_at "num"; done)); (focus (walk_at "num"; done)))
  | ((with_reducible apply d_iRng2); (focus (walk_at "num"; done)); (focus (walk_at "num"; done)); (focus (walk_at "num"; done)); (focus (walk_at "num"; done)))
  | ((with_reducible apply d_iZip); (focus (walk_at "sq"; done)); (focus (walk_at "sq"; done)))
  | ((with_reducible apply d_iEnum); (focus (walk_at "sq"; done)))
  | walk_at "w2")
local macro_rules | `(tactic| walk_at "w2") => `(tactic| fail)
local macro_rules | `(tactic| walk_at "wn") => `(tactic| repeat walk_at "w1")
local macro_rules | `(tactic| walk_at "w") => `(tactic| repeat (first | walk_at "w1" | with_reducible apply w_ret))
local macro_rules | `(tactic| walk_at "w2") => `(tactic| first
  | ((with_reducible apply w_isInt); (focus (walk_at "r"; done)))
  | ((with_reducible apply w_isBool); (focus (walk_at "r"; done)))
  | ((with_reducible apply w_isStr); (focus (walk_at "r"; done)))
  | ((with_reducible apply w_isTup); (focus (walk_at "r"; done)))
  | ((with_reducible apply w_isLst); (focus (walk_at "r"; done)))
  | with_reducible apply w_fld
  | with_reducible apply w_sfld
  | with_reducible apply w_faug
  | with_reducible apply w_rAdd
  | with_reducible apply w_rSub
  | with_reducible apply w_make
  | with_reducible apply w_orT
  | with_reducible apply w_dgetd
  | with_reducible apply w_dgetk
  | with_reducible apply w_dsetd
  | ((with_reducible apply k_dgetd); (focus (walk_at "hp"; done)))
  | ((with_reducible apply k_dsetd); (focus (walk_at "hp"; done)))
  | walk_at "w3")
local macro_rules | `(tactic| walk_at "w3") => `(tactic| fail)
local macro_rules | `(tactic| walk_at "w3") => `(tactic| first
  | with_reducible apply w_mt
  | with_reducible apply w_makeX
  | ((with_reducible apply m_Kind); (focus (walk_at "hp"; done)); (focus (exact rfl)))
  | ((with_reducible apply g_Kind_joining); (focus (assumption; done)); (focus (walk_at "hp"; done)))
  | ((with_reducible apply g_Kind_none); (focus (assumption; done)); (focus (walk_at "hp"; done)))
  | ((with_reducible apply g_Kind_making); (focus (assumption; done)); (focus (walk_at "hp"; done)))
  | ((with_reducible apply g_Kind_word); (focus (assumption; done)); (focus (walk_at "hp"; done))))
def sp__law_kind (K : PySem.W.Frag) (L : Nat → Addr → LF) : Sp := fun vs H Q _ => ∃ (i : Nat) (S : Addr → Prop), vs = [.int (i : Nat)] ∧ i < 22 ∧ (∀ a, H a = none → S a) ∧ TabS H (KP K) KQ ∧ ∀ T H', Chg [KP K] H H' → TabS H' (KP K) KQ → KtAt K L S H' T (kj i) (kn i) (km i) → Q (.ref T) H'
def t__law_kind (K : PySem.W.Frag) (L : Nat → Addr → LmX.LF) : TS :=
    tSeq (tAsg (tLst (tCons (tTup (tCons (tLam (tabP K "_law_kind") "_law_kind.<locals>.<lambda>" (L 3)) (tCons (tC (.int 0)) (tCons (tC .non) (tNil))))) (tCons (tTup (tCons (tC (.ref (He.ga K "_law_lesser"))) (tCons (tC .non) (tCons (tC .non) (tNil))))) (tNil)))) (gName 1))
    (tSeq (tDrop (tBM K "list" rAppend (tVar 1) (tCons (tTup (tCons (tLam (tabP K "_law_kind") "_law_kind.<locals>.<lambda>" (L 4)) (tCons (tC .non) (tCons (tC .non) (tNil))))) (tNil))))
    (tSeq (tDrop (tBM K "list" rAppend (tVar 1) (tCons (tTup (tCons (tLam (tabP K "_law_kind") "_law_kind.<locals>.<lambda>" (L 5)) (tCons (tC (.str "")) (tCons (tLam (tabP K "_law_kind") "_law_kind.<locals>.<lambda>" (L 6)) (tNil))))) (tNil))))
    (tSeq (tDrop (tBM K "list" rAppend (tVar 1) (tCons (tTup (tCons (tC (.ref (He.ga K "_law_both"))) (tCons (tTup (tNil)) (tCons (tLam (tabP K "_law_kind") "_law_kind.<locals>.<lambda>" (L 7)) (tNil))))) (tNil))))
    (tSeq (tDrop (tBM K "list" rAppend (tVar 1) (tCons (tTup (tCons (tLam (tabP K "_law_kind") "_law_kind.<locals>.<lambda>" (L 8)) (tCons (tLst (tNil)) (tCons (tLam (tabP K "_law_kind") "_law_kind.<locals>.<lambda>" (L 9)) (tNil))))) (tNil))))
    (tSeq (tDrop (tBM K "list" rAppend (tVar 1) (tCons (tTup (tCons (tLam (tabP K "_law_kind") "_law_kind.<locals>.<lambda>" (L 10)) (tCons (tC (.int 1)) (tCons (tLam (tabP K "_law_kind") "_law_kind.<locals>.<lambda>" (L 11)) (tNil))))) (tNil))))
    (tSeq (tDrop (tBM K "list" rAppend (tVar 1) (tCons (tTup (tCons (tLam (tabP K "_law_kind") "_law_kind.<locals>.<lambda>" (L 12)) (tCons (tUn (rU fun i => .int (-i)) (tC (.int 1))) (tCons (tC .non) (tNil))))) (tNil))))
    (tSeq (tDrop (tBM K "list" rAppend (tVar 1) (tCons (tTup (tCons (tLam (tabP K "_law_kind") "_law_kind.<locals>.<lambda>" (L 13)) (tCons (tC (.str "")) (tCons (tLam (tabP K "_law_kind") "_law_kind.<locals>.<lambda>" (L 14)) (tNil))))) (tNil))))
    (tSeq (tDrop (tBM K "list" rAppend (tVar 1) (tCons (tTup (tCons (tLam (tabP K "_law_kind") "_law_kind.<locals>.<lambda>" (L 15)) (tCons (tC .non) (tCons (tLam (tabP K "_law_kind") "_law_kind.<locals>.<lambda>" (L 16)) (tNil))))) (tNil))))
    (tSeq (tDrop (tBM K "list" rAppend (tVar 1) (tCons (tTup (tCons (tLam (tabP K "_law_kind") "_law_kind.<locals>.<lambda>" (L 17)) (tCons (tC (.int 0)) (tCons (tC .non) (tNil))))) (tNil))))
    (tSeq (tDrop (tBM K "list" rAppend (tVar 1) (tCons (tTup (tCons (tC (.ref (He.ga K "_law_apart"))) (tCons (tC .non) (tCons (tC .non) (tNil))))) (tNil))))
    (tSeq (tDrop (tBM K "list" rAppend (tVar 1) (tCons (tTup (tCons (tLam (tabP K "_law_kind") "_law_kind.<locals>.<lambda>" (L 18)) (tCons (tC (.int 0)) (tCons (tC .non) (tNil))))) (tNil))))
    (tSeq (tDrop (tBM K "list" rAppend (tVar 1) (tCons (tTup (tCons (tLam (tabP K "_law_kind") "_law_kind.<locals>.<lambda>" (L 19)) (tCons (tC (.int 0)) (tCons (tLam (tabP K "_law_kind") "_law_kind.<locals>.<lambda>" (L 20)) (tNil))))) (tNil))))
    (tSeq (tDrop (tBM K "list" rAppend (tVar 1) (tCons (tTup (tCons (tLam (tabP K "_law_kind") "_law_kind.<locals>.<lambda>" (L 21)) (tCons (tC (.int 0)) (tCons (tC .non) (tNil))))) (tNil))))
    (tSeq (tDrop (tBM K "list" rAppend (tVar 1) (tCons (tTup (tCons (tLam (tabP K "_law_kind") "_law_kind.<locals>.<lambda>" (L 22)) (tCons (tC (.int 1)) (tCons (tC .non) (tNil))))) (tNil))))
    (tSeq (tDrop (tBM K "list" rAppend (tVar 1) (tCons (tTup (tCons (tLam (tabP K "_law_kind") "_law_kind.<locals>.<lambda>" (L 23)) (tCons (tC (.int 0)) (tCons (tC .non) (tNil))))) (tNil))))
    (tSeq (tDrop (tBM K "list" rAppend (tVar 1) (tCons (tTup (tCons (tLam (tabP K "_law_kind") "_law_kind.<locals>.<lambda>" (L 24)) (tCons (tC (.str "")) (tCons (tLam (tabP K "_law_kind") "_law_kind.<locals>.<lambda>" (L 25)) (tNil))))) (tNil))))
    (tSeq (tDrop (tBM K "list" rAppend (tVar 1) (tCons (tTup (tCons (tLam (tabP K "_law_kind") "_law_kind.<locals>.<lambda>" (L 26)) (tCons (tC .non) (tCons (tC .non) (tNil))))) (tNil))))
    (tSeq (tDrop (tBM K "list" rAppend (tVar 1) (tCons (tTup (tCons (tLam (tabP K "_law_kind") "_law_kind.<locals>.<lambda>" (L 27)) (tCons (tC .non) (tCons (tLam (tabP K "_law_kind") "_law_kind.<locals>.<lambda>" (L 28)) (tNil))))) (tNil))))
    (tSeq (tDrop (tBM K "list" rAppend (tVar 1) (tCons (tTup (tCons (tC (.ref (He.ga K "_law_left_none"))) (tCons (tC .non) (tCons (tC .non) (tNil))))) (tNil))))
    (tSeq (tDrop (tBM K "list" rAppend (tVar 1) (tCons (tTup (tCons (tLam (tabP K "_law_kind") "_law_kind.<locals>.<lambda>" (L 29)) (tCons (tC (.int 0)) (tCons (tLam (tabP K "_law_kind") "_law_kind.<locals>.<lambda>" (L 30)) (tNil))))) (tNil))))
    (tRet (tOp (rIxL K) (tVar 1) (tVar 0)))))))))))))))))))))))
theorem pure__law_kind {K : PySem.W.Frag} {L : Nat → Addr → LF} (lq : LQ L) (vs : List V) (H : Hp) (Q : VK) (E : XK) (hh : sp__law_kind K L vs H Q E) : t__law_kind K L (fin Q) (start ["at", "table"] vs) H := by
  obtain ⟨i, S, rfl, hi, fr, t0, q⟩ := hh
  show t__law_kind K L _ [some (.int (i : Nat)), none] H
  unfold t__law_kind
  refine kd_init (L := L) (evJ_lam lq (j := 3) (by decide) (by decide) (by decide)) (evN_int 0) evM_none (evJ_ref (f := He.ga K "_law_lesser") (jf := leD) (by simp [SFk])) evN_none evM_none fr t0 fun p Hp iv2 => ?_
  refine kd_app (L := L) (k := 2) (evJ_lam lq (j := 4) (by decide) (by decide) (by decide)) evN_none evM_none iv2 (by decide) fun G3 iv3 => ?_
  refine kd_app (L := L) (k := 3) (evJ_lam lq (j := 5) (by decide) (by decide) (by decide)) evN_str (evM_lam lq (j := 6) (by decide)) iv3 (by decide) fun G4 iv4 => ?_
  refine kd_app (L := L) (k := 4) (evJ_ref (f := He.ga K "_law_both") (jf := boD) (by simp [SFk])) evN_tup (evM_lam lq (j := 7) (by decide)) iv4 (by decide) fun G5 iv5 => ?_
  refine kd_app (L := L) (k := 5) (evJ_lam lq (j := 8) (by decide) (by decide) (by decide)) evN_lst (evM_lam lq (j := 9) (by decide)) iv5 (by decide) fun G6 iv6 => ?_
  refine kd_app (L := L) (k := 6) (evJ_lam lq (j := 10) (by decide) (by decide) (by decide)) (evN_int 1) (evM_lam lq (j := 11) (by decide)) iv6 (by decide) fun G7 iv7 => ?_
  refine kd_app (L := L) (k := 7) (evJ_lam lq (j := 12) (by decide) (by decide) (by decide)) evN_m1 evM_none iv7 (by decide) fun G8 iv8 => ?_
  refine kd_app (L := L) (k := 8) (evJ_lam lq (j := 13) (by decide) (by decide) (by decide)) evN_str (evM_lam lq (j := 14) (by decide)) iv8 (by decide) fun G9 iv9 => ?_
  refine kd_app (L := L) (k := 9) (evJ_lam lq (j := 15) (by decide) (by decide) (by decide)) evN_none (evM_lam lq (j := 16) (by decide)) iv9 (by decide) fun G10 iv10 => ?_
  refine kd_app (L := L) (k := 10) (evJ_lam lq (j := 17) (by decide) (by decide) (by decide)) (evN_int 0) evM_none iv10 (by decide) fun G11 iv11 => ?_
  refine kd_app (L := L) (k := 11) (evJ_ref (f := He.ga K "_law_apart") (jf := apD) (by simp [SFk])) evN_none evM_none iv11 (by decide) fun G12 iv12 => ?_
  refine kd_app (L := L) (k := 12) (evJ_lam lq (j := 18) (by decide) (by decide) (by decide)) (evN_int 0) evM_none iv12 (by decide) fun G13 iv13 => ?_
  refine kd_app (L := L) (k := 13) (evJ_lam lq (j := 19) (by decide) (by decide) (by decide)) (evN_int 0) (evM_lam lq (j := 20) (by decide)) iv13 (by decide) fun G14 iv14 => ?_
  refine kd_app (L := L) (k := 14) (evJ_lam lq (j := 21) (by decide) (by decide) (by decide)) (evN_int 0) evM_none iv14 (by decide) fun G15 iv15 => ?_
  refine kd_app (L := L) (k := 15) (evJ_lam lq (j := 22) (by decide) (by decide) (by decide)) (evN_int 1) evM_none iv15 (by decide) fun G16 iv16 => ?_
  refine kd_app (L := L) (k := 16) (evJ_lam lq (j := 23) (by decide) (by decide) (by decide)) (evN_int 0) evM_none iv16 (by decide) fun G17 iv17 => ?_
  refine kd_app (L := L) (k := 17) (evJ_lam lq (j := 24) (by decide) (by decide) (by decide)) evN_str (evM_lam lq (j := 25) (by decide)) iv17 (by decide) fun G18 iv18 => ?_
  refine kd_app (L := L) (k := 18) (evJ_lam lq (j := 26) (by decide) (by decide) (by decide)) evN_none evM_none iv18 (by decide) fun G19 iv19 => ?_
  refine kd_app (L := L) (k := 19) (evJ_lam lq (j := 27) (by decide) (by decide) (by decide)) evN_none (evM_lam lq (j := 28) (by decide)) iv19 (by decide) fun G20 iv20 => ?_
  refine kd_app (L := L) (k := 20) (evJ_ref (f := He.ga K "_law_left_none") (jf := lnD) (by simp [SFk])) evN_none evM_none iv20 (by decide) fun G21 iv21 => ?_
  refine kd_app (L := L) (k := 21) (evJ_lam lq (j := 29) (by decide) (by decide) (by decide)) (evN_int 0) (evM_lam lq (j := 30) (by decide)) iv21 (by decide) fun G22 iv22 => ?_
  obtain ⟨_, _, cE, tE, vs, hv, lv, en⟩ := iv22
  have hl : i < vs.length := by rw [lv]; exact hi
  have ex := List.getElem?_eq_getElem hl
  obtain ⟨T, eT, kt⟩ := en i _ ex
  have ea : atI vs ((i : Nat) : Int) = some (.ref T) := atI_nat (by rw [ex, eT])
  walk_at "w"
  exact q T G22 cE tE (kt.mono fun a z => z.1)
end Fg
namespace Fg
open PySem PySem.Spec PyProof.Rows L2 LamX LmX
local macro_rules | `(tactic| walk_at "hp") => `(tactic| first
  | assumption
  | exact upd_same
  | (refine Chg.at (by assumption) ?_; walk_at "hp")
  | (refine Chg.at1 (by assumption) ?_ (by walk_at "ne"); walk_at "hp"))
local macro_rules | `(tactic| walk_at "ne") => `(tactic| first | assumption | (apply Ne.symm; assumption))
local macro_rules | `(tactic| walk_at "sq") => `(tactic| first | assumption | exact sqL (by walk_at "hp") | (refine Chg.seq (by assumption) ?_; walk_at "sq"))
local macro_rules | `(tactic| walk_at "sz") => `(tactic| first | assumption | exact Nat.zero_le _ | (simp only [List.length_cons, List.length_nil]; decide) | exact Nat.le_trans (by first | omega | (simp; done) | (simp; omega)) (show 100000 ≤ sizeLine by decide) | exact Nat.lt_of_lt_of_le (by first | omega | (simp; done) | (simp; omega)) (show 100000 ≤ sizeLine by decide))
local macro_rules | `(tactic| walk_at "ix") => `(tactic| first | exact at0 | exact at1 | exact at2 | exact at3 | assumption | exact rfl | walk_at "ix2")
local macro_rules | `(tactic| walk_at "ix2") => `(tactic| fail)
local macro_rules | `(tactic| walk_at "num") => `(tactic| first | assumption | omega | decide | walk_at "num2")
local macro_rules | `(tactic| walk_at "num2") => `(tactic| fail)
local macro_rules | `(tactic| walk_at "im") => `(tactic| first | assumption | exact R.non (S := fun _ => False) | exact R.bl (S := fun _ => False) _ | exact R.int (S := fun _ => False) _ | exact R.str (S := fun _ => False) _ | (refine R.im (by assumption) ?_; walk_at "im"))
local macro_rules | `(tactic| walk_at "r") => `(tactic| first | assumption | exact R.non (S := fun _ => False) | exact R.bl (S := fun _ => False) _ | exact R.int (S := fun _ => False) _ | exact R.str (S := fun _ => False) _ | (refine R.same (by assumption) ?_; walk_at "r") | exact R.any (by walk_at "im"))
local macro_rules | `(tactic| walk_at "chg") => `(tactic| first
  | exact Chg.refl
  | assumption
  | (refine Chg.same ?_ (by assumption); walk_at "chg")
  | (refine Chg.both ?_ (by assumption); walk_at "chg")
  | (refine Chg.pre (by assumption) ?_; walk_at "chg"))
local macro_rules | `(tactic| walk_at "w1") => `(tactic| first
  | with_reducible apply w_seq
  | with_reducible apply w_asg
  | ((with_reducible apply w_var); (focus (exact rfl)))
  | with_reducible apply w_c
  | with_reducible apply w_op
  | with_reducible apply w_cons
  | with_reducible apply w_nil
  | with_reducible apply w_gName
  | with_reducible apply w_if
  | with_reducible apply w_test
  | with_reducible apply w_B
  | with_reducible apply w_isbl
  | with_reducible apply w_retN
  | with_reducible apply w_next
  | with_reducible apply w_drop
  | with_reducible apply w_cb
  | with_reducible apply w_call
  | with_reducible apply w_callN
  | with_reducible apply w_bm
  | with_reducible apply w_bm0
  | ((with_reducible apply w_tyL); (focus (walk_at "hp"; done)))
  | with_reducible apply w_dput
  | with_reducible apply w_m1
  | with_reducible apply w_isstr
  | with_reducible apply w_and
  | with_reducible apply w_or
  | with_reducible apply w_not
  | with_reducible apply w_andV
  | with_reducible apply w_orV
  | with_reducible apply w_notV
  | with_reducible apply w_ifE
  | with_reducible apply w_chain
  | with_reducible apply w_un
  | with_reducible apply w_neg
  | with_reducible apply w_add
  | with_reducible apply w_sub
  | ((with_reducible apply w_mod); (focus (walk_at "num"; done)))
  | ((with_reducible apply w_mul); (focus (walk_at "num"; done)))
  | ((with_reducible apply w_fdiv); (focus (walk_at "num"; done)))
  | ((with_reducible apply w_pow); (focus (walk_at "num"; done)))
  | with_reducible apply w_lt
  | with_reducible apply w_le
  | with_reducible apply w_gt
  | with_reducible apply w_ge
  | with_reducible apply w_ltS
  | with_reducible apply w_geS
  | with_reducible apply w_inC
  | with_reducible apply w_notInC
  | with_reducible apply w_isN
  | with_reducible apply w_notN
  | with_reducible apply w_isB
  | with_reducible apply w_notB
  | ((with_reducible apply w_addS); (focus (walk_at "sz"; done)))
  | ((with_reducible apply w_ixL); (focus (walk_at "sq"; done)); (focus (walk_at "ix"; done)))
  | ((with_reducible apply w_ixT); (focus (walk_at "hp"; done)); (focus (walk_at "ix"; done)))
  | ((with_reducible apply w_ixS); (focus (walk_at "sz"; done)); (focus (walk_at "ix"; done)))
  | with_reducible apply w_gSub
  | ((with_reducible apply w_gTup); (focus (walk_at "hp"; done)); (focus (exact rfl)))
  | with_reducible apply w_gCons
  | with_reducible apply w_gNil
  | ((with_reducible apply w_aug); (focus (exact rfl)))
  | with_reducible apply w_ipI
  | ((with_reducible apply w_eq); (focus (exact rfl)))
  | ((with_reducible apply w_ne); (focus (exact rfl)))
  | with_reducible apply w_max
  | with_reducible apply w_min
  | with_reducible apply w_abs
  | with_reducible apply w_intB
  | with_reducible apply w_intI
  | with_reducible apply w_tup1
  | with_reducible apply w_lst1
  | with_reducible apply w_sl
  | with_reducible apply w_part
  | with_reducible apply w_noPart
  | with_reducible apply w_isint
  | ((with_reducible apply w_slS); (focus (walk_at "sz"; done)))
  | with_reducible apply w_iteT
  | with_reducible apply w_iteF
  | with_reducible apply w_iteN
  | ((with_reducible apply w_iteYes); (focus (exact rfl)))
  | ((with_reducible apply w_iteNo); (focus (exact rfl)))
  | ((with_reducible apply w_lenL); (focus (walk_at "sq"; done)))
  | ((with_reducible apply w_lenT); (focus (walk_at "hp"; done)))
  | ((with_reducible apply w_lenS); (focus (walk_at "sz"; done)))
  | with_reducible apply w_lc
  | with_reducible apply w_for
  | with_reducible apply w_yes
  | ((with_reducible apply w_wipe); (focus (exact rfl)))
  | with_reducible apply w_iList
  | with_reducible apply w_iTup
  | with_reducible apply w_iStr
  | with_reducible apply w_iRng1
  | with_reducible apply w_iRng2
  | with_reducible apply w_iZip
  | with_reducible apply w_iEnum
  | ((with_reducible apply d_iList); (focus (walk_at "sq"; done)))
  | ((with_reducible apply d_iTup); (focus (walk_at "hp"; done)))
  | with_reducible apply d_iStr
  | ((with_reducible apply d_iRng1); (focus (walk_at "num"; done)); (focus (walk_at "num"; done)))
  | ((with_reducible apply d_iRng2); (focus (walk_at "num"; done)); (focus (walk_at "num"; done)); (focus (walk_at "num"; done)); (focus (walk_at "num"; done)))
  | ((with_reducible apply d_iZip); (focus (walk_at "sq"; done)); (focus (walk_at "sq"; done)))
  | ((with_reducible apply d_iEnum); (focus (walk_at "sq"; done)))
  | walk_at "w2")
local macro_rules | `(tactic| walk_at "w2") => `(tactic| fail)
local macro_rules | `(tactic| walk_at "wn") => `(tactic| repeat walk_at "w1")
local macro_rules | `(tactic| walk_at "w") => `(tactic| repeat (first | walk_at "w1" | with_reducible apply w_ret))
local macro_rules | `(tactic| walk_at "w2") => `(tactic| first
  | ((with_reducible apply w_isInt); (focus (walk_at "r"; done)))
  | ((with_reducible apply w_isBool); (focus (walk_at "r"; done)))
  | ((with_reducible apply w_isStr); (focus (walk_at "r"; done)))
  | ((with_reducible apply w_isTup); (focus (walk_at "r"; done)))
  | ((with_reducible apply w_isLst); (focus (walk_at "r"; done)))
  | with_reducible apply w_fld
  | with_reducible apply w_sfld
  | with_reducible apply w_faug
  | with_reducible apply w_rAdd
  | with_reducible apply w_rSub
  | with_reducible apply w_make
  | with_reducible apply w_orT
  | with_reducible apply w_dgetd
  | with_reducible apply w_dgetk
  | with_reducible apply w_dsetd
  | ((with_reducible apply k_dgetd); (focus (walk_at "hp"; done)))
  | ((with_reducible apply k_dsetd); (focus (walk_at "hp"; done)))
  | walk_at "w3")
local macro_rules | `(tactic| walk_at "w3") => `(tactic| fail)
local macro_rules | `(tactic| walk_at "w3") => `(tactic| first
  | with_reducible apply w_mt
  | with_reducible apply w_makeX
  | ((with_reducible apply m_Kind); (focus (walk_at "hp"; done)); (focus (exact rfl)))
  | ((with_reducible apply g_Kind_joining); (focus (assumption; done)); (focus (walk_at "hp"; done)))
  | ((with_reducible apply g_Kind_none); (focus (assumption; done)); (focus (walk_at "hp"; done)))
  | ((with_reducible apply g_Kind_making); (focus (assumption; done)); (focus (walk_at "hp"; done)))
  | ((with_reducible apply g_Kind_word); (focus (assumption; done)); (focus (walk_at "hp"; done))))
def Sm (n : Int) : Prop := n.natAbs < 10 ^ 21
def sp__law_row : Sp := fun vs H Q _ => ∃ (b : Addr) (most n : Nat), vs = [.ref b, .int (most : Nat)] ∧ most ≤ 40 ∧ Bag H b n ∧ 100 ≤ n ∧ ∀ (p : Addr) (ns : List Int) (H' : Hp), H p = none → Chg [b] H H' → Bag H' b (n - 100) → H' p = some (.lst (ns.map V.int)) → ns.length ≤ most → (∀ x ∈ ns, Sm x) → Q (.ref p) H'
def t__law_row (K : PySem.W.Frag) : TS :=
    tSeq (tAsg (tOp (rIxL K) (tLst (tCons (tC (.int 3)) (tCons (tC (.int 8)) (tCons (tOp oPow (tC (.int 10)) (tC (.int 20))) (tNil))))) (tCall sp__law_draw [] E0 (tCons (tVar 0) (tCons (tC (.int 3)) (tNil))))) (gName 2))
    (tRet (tLc (iRng1 (tCons (tCall sp__law_draw [] E0 (tCons (tVar 0) (tCons (tOp oAdd (tVar 1) (tC (.int 1))) (tNil)))) (tNil))) (gName 3) (tYes) (tOp oMul (tCall sp__law_draw [] E0 (tCons (tVar 0) (tCons (tVar 2) (tNil)))) (tOp (rIxL K) (tLst (tCons (tC (.int 1)) (tCons (tC (.int 1)) (tCons (tUn (rU fun i => .int (-i)) (tC (.int 1))) (tNil))))) (tCall sp__law_draw [] E0 (tCons (tVar 0) (tCons (tC (.int 3)) (tNil)))))) [3]))
theorem ints_of {vs : List V} (h : ∀ (i : Nat) (y : V), vs[i]? = some y → ∃ n : Int, y = .int n ∧ Sm n) : ∃ ns : List Int, vs = ns.map V.int ∧ ∀ x ∈ ns, Sm x := by
  induction vs with
  | nil => exact ⟨[], rfl, fun x hx => by cases hx⟩
  | cons v r ih =>
    obtain ⟨n, rfl, hn⟩ := h 0 v rfl
    obtain ⟨ns, rfl, hs⟩ := ih fun i y e => h (i + 1) y e
    exact ⟨n :: ns, rfl, fun x hx => (List.mem_cons.mp hx).elim (fun e => e ▸ hn) (hs x)⟩
theorem pure__law_row {K : PySem.W.Frag} (vs : List V) (H : Hp) (Q : VK) (E : XK) (hh : sp__law_row vs H Q E) : t__law_row K (fin Q) (start ["bag", "most", "few", "k"] vs) H := by
  obtain ⟨b, most, n, rfl, hm, bag, hn, q⟩ := hh
  show t__law_row K _ [some (.ref b), some (.int (most : Nat)), none, none] H
  unfold t__law_row
  walk_at "w"
  refine w_pow (cpow 4 (by decide) (by decide) (by decide)) ?_
  walk_at "w"
  refine k_lst (by walk_at "sz") fun p H2 np c2 hp => ?_
  walk_at "w"
  refine u_draw (bag.same c2) (by omega) (by decide) (by decide) fun v H3 c3 bag3 v0 v1 => ?_
  obtain ⟨x, ex, hx⟩ := atD (xs := [V.int 3, V.int 8, V.int (10 ^ Int.toNat 20)]) v0 v1
  have hx' : ∃ m : Int, x = .int m ∧ 0 < m ∧ m ≤ 10 ^ 20 := by
    simp only [List.mem_cons, List.not_mem_nil, or_false] at hx
    rcases hx with rfl | rfl | rfl
    · exact ⟨_, rfl, by decide, by decide⟩
    · exact ⟨_, rfl, by decide, by decide⟩
    · exact ⟨_, rfl, by decide, by decide⟩
  obtain ⟨m, rfl, m0, m1⟩ := hx'
  have pb : p ≠ b := fun e => bag.some (by rw [← e]; exact np)
  have hp3 := c3.at1 hp pb
  have c03 := c2.pre c3
  walk_at "w"
  refine u_draw bag3 (by omega) (by omega) (by omega) fun w H4 c4 bag4 w0 w1 => ?_
  walk_at "w"
  try refine d_iRng1 (j := w) (by omega) (by omega) ?_
  have b4 := bag4.some
  refine w_lcP walk_range [b] (fun i H => Bag H b (n - 2 - 2 * i)) (fun i y H => ∃ z : Int, y = .int z ∧ Sm z) (bag4.le (by omega)) (fun i H1 H2 p np c h => h.one c (fun z => b4 (by rw [z]; exact np))) (fun _ _ => trivial) (fun D i acc z H5 H6 hi nD hD el iv c5 bag5 y => ?_) (fun D acc H5 nD c5 bag5 el hD ys => ?_)
  · obtain ⟨rfl, rfl⟩ := y
    walk_at "w"
    refine u_draw bag5 (by omega) m0 (by omega) fun u H7 c7 bag7 u0 u1 => ?_
    walk_at "w"
    refine k_lst (by walk_at "sz") fun p8 H8 np8 c8 hp8 => ?_
    walk_at "w"
    refine u_draw (bag7.same c8) (by omega) (by decide) (by decide) fun r H9 c9 bag9 r0 r1 => ?_
    obtain ⟨x, ex, hx⟩ := atD (xs := [V.int 1, V.int 1, V.int (-1)]) r0 r1
    have hx' : ∃ e : Int, x = .int e ∧ (e = 1 ∨ e = -1) := by
      simp only [List.mem_cons, List.not_mem_nil, or_false] at hx
      rcases hx with rfl | rfl | rfl
      · exact ⟨_, rfl, .inl rfl⟩
      · exact ⟨_, rfl, .inl rfl⟩
      · exact ⟨_, rfl, .inr rfl⟩
    obtain ⟨e, rfl, he⟩ := hx'
    have p8b : p8 ≠ b := fun e => bag7.some (by rw [← e]; exact np8)
    have hp9 := c9.at1 hp8 p8b
    walk_at "w"
    refine w_mul (.inr (by omega)) ?_
    exact lcp_end (fun i H1 H2 p np c h => h.one c (fun z => b4 (by rw [z]; exact np))) (fun _ _ _ _ _ _ _ h => h) nD (fun a ha => by rw [List.mem_singleton.mp ha]; exact b4) hD el (by omega) iv ((c7.same c8).both c9) (bag9.le (by omega)) ⟨_, rfl, by
      unfold Sm
      rcases he with rfl | rfl <;> omega⟩
  · obtain ⟨ns, rfl, hs⟩ := ints_of ys
    walk_at "w"
    rw [List.length_map] at el
    refine q D ns H5 (c2.dom D (c3.dom D (c4.dom D nD))) (((c03.both c4).both c5)) (bag5.le (by omega)) hD (by omega) hs
end Fg
namespace Fg
open PySem PySem.Spec PyProof.Rows L2
local macro_rules | `(tactic| walk_at "hp") => `(tactic| first
  | assumption
  | exact upd_same
  | (refine Chg.at (by assumption) ?_; walk_at "hp")
  | (refine Chg.at1 (by assumption) ?_ (by walk_at "ne"); walk_at "hp"))
local macro_rules | `(tactic| walk_at "ne") => `(tactic| first | assumption | (apply Ne.symm; assumption))
local macro_rules | `(tactic| walk_at "sq") => `(tactic| first | assumption | exact sqL (by walk_at "hp") | (refine Chg.seq (by assumption) ?_; walk_at "sq"))
local macro_rules | `(tactic| walk_at "sz") => `(tactic| first | assumption | exact Nat.zero_le _ | (simp only [List.length_cons, List.length_nil]; decide) | exact Nat.le_trans (by first | omega | (simp; done) | (simp; omega)) (show 100000 ≤ sizeLine by decide) | exact Nat.lt_of_lt_of_le (by first | omega | (simp; done) | (simp; omega)) (show 100000 ≤ sizeLine by decide))
local macro_rules | `(tactic| walk_at "ix") => `(tactic| first | exact at0 | exact at1 | exact at2 | exact at3 | assumption | exact rfl | walk_at "ix2")
local macro_rules | `(tactic| walk_at "ix2") => `(tactic| fail)
local macro_rules | `(tactic| walk_at "num") => `(tactic| first | assumption | omega | decide | walk_at "num2")
local macro_rules | `(tactic| walk_at "num2") => `(tactic| fail)
local macro_rules | `(tactic| walk_at "im") => `(tactic| first | assumption | exact R.non (S := fun _ => False) | exact R.bl (S := fun _ => False) _ | exact R.int (S := fun _ => False) _ | exact R.str (S := fun _ => False) _ | (refine R.im (by assumption) ?_; walk_at "im"))
local macro_rules | `(tactic| walk_at "r") => `(tactic| first | assumption | exact R.non (S := fun _ => False) | exact R.bl (S := fun _ => False) _ | exact R.int (S := fun _ => False) _ | exact R.str (S := fun _ => False) _ | (refine R.same (by assumption) ?_; walk_at "r") | exact R.any (by walk_at "im"))
local macro_rules | `(tactic| walk_at "chg") => `(tactic| first
  | exact Chg.refl
  | assumption
  | (refine Chg.same ?_ (by assumption); walk_at "chg")
  | (refine Chg.both ?_ (by assumption); walk_at "chg")
  | (refine Chg.pre (by assumption) ?_; walk_at "chg"))
local macro_rules | `(tactic| walk_at "w1") => `(tactic| first
  | with_reducible apply w_seq
  | with_reducible apply w_asg
  | ((with_reducible apply w_var); (focus (exact rfl)))
  | with_reducible apply w_c
  | with_reducible apply w_op
  | with_reducible apply w_cons
  | with_reducible apply w_nil
  | with_reducible apply w_gName
  | with_reducible apply w_if
  | with_reducible apply w_test
  | with_reducible apply w_B
  | with_reducible apply w_isbl
  | with_reducible apply w_retN
  | with_reducible apply w_next
  | with_reducible apply w_drop
  | with_reducible apply w_cb
  | with_reducible apply w_call
  | with_reducible apply w_callN
  | with_reducible apply w_bm
  | with_reducible apply w_bm0
  | ((with_reducible apply w_tyL); (focus (walk_at "hp"; done)))
  | with_reducible apply w_dput
  | with_reducible apply w_m1
  | with_reducible apply w_isstr
  | with_reducible apply w_and
  | with_reducible apply w_or
  | with_reducible apply w_not
  | with_reducible apply w_andV
  | with_reducible apply w_orV
  | with_reducible apply w_notV
  | with_reducible apply w_ifE
  | with_reducible apply w_chain
  | with_reducible apply w_un
  | with_reducible apply w_neg
  | with_reducible apply w_add
  | with_reducible apply w_sub
  | ((with_reducible apply w_mod); (focus (walk_at "num"; done)))
  | ((with_reducible apply w_mul); (focus (walk_at "num"; done)))
  | ((with_reducible apply w_fdiv); (focus (walk_at "num"; done)))
  | ((with_reducible apply w_pow); (focus (walk_at "num"; done)))
  | with_reducible apply w_lt
  | with_reducible apply w_le
  | with_reducible apply w_gt
  | with_reducible apply w_ge
  | with_reducible apply w_ltS
  | with_reducible apply w_geS
  | with_reducible apply w_inC
  | with_reducible apply w_notInC
  | with_reducible apply w_isN
  | with_reducible apply w_notN
  | with_reducible apply w_isB
  | with_reducible apply w_notB
  | ((with_reducible apply w_addS); (focus (walk_at "sz"; done)))
  | ((with_reducible apply w_ixL); (focus (walk_at "sq"; done)); (focus (walk_at "ix"; done)))
  | ((with_reducible apply w_ixT); (focus (walk_at "hp"; done)); (focus (walk_at "ix"; done)))
  | ((with_reducible apply w_ixS); (focus (walk_at "sz"; done)); (focus (walk_at "ix"; done)))
  | with_reducible apply w_gSub
  | ((with_reducible apply w_gTup); (focus (walk_at "hp"; done)); (focus (exact rfl)))
  | with_reducible apply w_gCons
  | with_reducible apply w_gNil
  | ((with_reducible apply w_aug); (focus (exact rfl)))
  | with_reducible apply w_ipI
  | ((with_reducible apply w_eq); (focus (exact rfl)))
  | ((with_reducible apply w_ne); (focus (exact rfl)))
  | with_reducible apply w_max
  | with_reducible apply w_min
  | with_reducible apply w_abs
  | with_reducible apply w_intB
  | with_reducible apply w_intI
  | with_reducible apply w_tup1
  | with_reducible apply w_lst1
  | with_reducible apply w_sl
  | with_reducible apply w_part
  | with_reducible apply w_noPart
  | with_reducible apply w_isint
  | ((with_reducible apply w_slS); (focus (walk_at "sz"; done)))
  | with_reducible apply w_iteT
  | with_reducible apply w_iteF
  | with_reducible apply w_iteN
  | ((with_reducible apply w_iteYes); (focus (exact rfl)))
  | ((with_reducible apply w_iteNo); (focus (exact rfl)))
  | ((with_reducible apply w_lenL); (focus (walk_at "sq"; done)))
  | ((with_reducible apply w_lenT); (focus (walk_at "hp"; done)))
  | ((with_reducible apply w_lenS); (focus (walk_at "sz"; done)))
  | with_reducible apply w_lc
  | with_reducible apply w_for
  | with_reducible apply w_yes
  | ((with_reducible apply w_wipe); (focus (exact rfl)))
  | with_reducible apply w_iList
  | with_reducible apply w_iTup
  | with_reducible apply w_iStr
  | with_reducible apply w_iRng1
  | with_reducible apply w_iRng2
  | with_reducible apply w_iZip
  | with_reducible apply w_iEnum
  | ((with_reducible apply d_iList); (focus (walk_at "sq"; done)))
  | ((with_reducible apply d_iTup); (focus (walk_at "hp"; done)))
  | with_reducible apply d_iStr
  | ((with_reducible apply d_iRng1); (focus (walk_at "num"; done)); (focus (walk_at "num"; done)))
  | ((with_reducible apply d_iRng2); (focus (walk_at "num"; done)); (focus (walk_at "num"; done)); (focus (walk_at "num"; done)); (focus (walk_at "num"; done)))
  | ((with_reducible apply d_iZip); (focus (walk_at "sq"; done)); (focus (walk_at "sq"; done)))
  | ((with_reducible apply d_iEnum); (focus (walk_at "sq"; done)))
  | walk_at "w2")
local macro_rules | `(tactic| walk_at "w2") => `(tactic| fail)
local macro_rules | `(tactic| walk_at "wn") => `(tactic| repeat walk_at "w1")
local macro_rules | `(tactic| walk_at "w") => `(tactic| repeat (first | walk_at "w1" | with_reducible apply w_ret))
section
def sp__law_name : Sp := fun vs H Q _ => ∃ (b : Addr) (last : Str) (n : Nat), vs = [.ref b, .str last] ∧ Bag H b n ∧ 20 ≤ n ∧ last.length ≤ 8 ∧ low last ∧ ∀ (x : Str) (H' : Hp), Chg [b] H H' → Bag H' b (n - 20) → nameS x = true → Q (.str x) H'
def t__law_name (K : PySem.W.Frag) : TS :=
    tSeq (tAsg (tC (.str "abcdefghijklmnopqrstuvwxyz")) (gName 2))
    (tSeq (tAsg (tCall sp__law_draw [] E0 (tCons (tVar 0) (tCons (tC (.int 7)) (tNil)))) (gName 3))
    (tSeq (tAsg (tOp rIxS (tVar 2) (tCall sp__law_draw [] E0 (tCons (tVar 0) (tCons (tC (.int 26)) (tNil))))) (gName 4))
    (tSeq (tIfS (tTest (tOp rEq (tVar 3) (tC (.int 6)))) (tSeq (tAsg (tLst (tCons (tC (.str "arg")) (tCons (tC (.str "cell")) (tCons (tC (.str "add")) (tCons (tC (.str "less")) (tCons (tC (.str "least")) (tCons (tC (.str "wait")) (tCons (tC (.str "give")) (tCons (tC (.str "fork")) (tCons (tC (.str "call")) (tCons (tC (.str "skip")) (tNil)))))))))))) (gName 5))
    (tRet (tOp (rIxL K) (tVar 5) (tCall sp__law_draw [] E0 (tCons (tVar 0) (tCons (tC (.int 10)) (tNil))))))) (tNext))
    (tSeq (tIfS (tAnd (tTest (tOp rEq (tVar 3) (tC (.int 0)))) (tTest (tChain oLt oLt (tC (.int 0)) (tCB cLenS (tCons (tVar 1) (tNil))) (tC (.int 8))))) (tRet (tOp oAddS (tVar 1) (tVar 4))) (tNext))
    (tSeq (tIfS (tAnd (tTest (tOp rEq (tVar 3) (tC (.int 1)))) (tTest (tOp oGt (tCB cLenS (tCons (tVar 1) (tNil))) (tC (.int 1))))) (tRet (tSl rSlS (tVar 1) (tPart (tC (.int 1))) (tNoPart))) (tNext))
    (tSeq (tIfS (tAnd (tTest (tOp rEq (tVar 3) (tC (.int 2)))) (tTest (tOp rNe (tVar 1) (tC (.str ""))))) (tSeq (tAsg (tCall sp__law_draw [] E0 (tCons (tVar 0) (tCons (tCB cLenS (tCons (tVar 1) (tNil))) (tNil)))) (gName 6))
    (tRet (tOp oAddS (tOp oAddS (tSl rSlS (tVar 1) (tNoPart) (tPart (tVar 6))) (tVar 4)) (tSl rSlS (tVar 1) (tPart (tOp oAdd (tVar 6) (tC (.int 1)))) (tNoPart))))) (tNext))
    (tRet (tOp oAddS (tVar 4) (tM1 (mJoin K) (tC (.str "")) (tLc (iRng1 (tCons (tCall sp__law_draw [] E0 (tCons (tVar 0) (tCons (tC (.int 8)) (tNil)))) (tNil))) (gName 7) (tYes) (tOp rIxS (tVar 2) (tCall sp__law_draw [] E0 (tCons (tVar 0) (tCons (tC (.int 26)) (tNil))))) [7]))))))))))
theorem pure__law_name {K : PySem.W.Frag} (vs : List V) (H : Hp) (Q : VK) (E : XK) (h : sp__law_name vs H Q E) : t__law_name K (fin Q) (start ["bag", "last", "letters", "pick", "letter", "words", "at", "k"] vs) H := by
  obtain ⟨b, last, n, rfl, bag, hn, l8, ll, q⟩ := h
  show t__law_name K _ [some (.ref b), some (.str last), none, none, none, none, none, none] H
  unfold t__law_name
  walk_at "w"
  refine u_draw bag (by omega) (by decide) (by decide) fun v H1 c1 bag1 v0 v1 => ?_
  walk_at "w"
  refine u_draw bag1 (by omega) (by decide) (by decide) fun u H2 c2 bag2 u0 u1 => ?_
  obtain ⟨c, ec, hc⟩ := letter_at u0 u1
  have c12 := c1.both c2
  refine w_ixS (by decide +kernel) ec ?_
  walk_at "w"
  refine w_iteD (fun h6 => ?_) (fun h6 => ?_)
  · walk_at "w"
    refine k_lst (by walk_at "sz") fun p H3 np c3 hp => ?_
    walk_at "w"
    have ne := bag2.ne np
    refine u_draw (bag2.same c3) (by omega) (by decide) (by decide) fun w H4 c4 bag4 w0 w1 => ?_
    obtain ⟨x, ex, hx⟩ := atD (xs := [V.str "arg", V.str "cell", V.str "add", V.str "less", V.str "least", V.str "wait", V.str "give", V.str "fork", V.str "call", V.str "skip"]) w0 w1
    have hx' : okNm x = true := by
      have : ∀ x ∈ [V.str "arg", V.str "cell", V.str "add", V.str "less", V.str "least", V.str "wait", V.str "give", V.str "fork", V.str "call", V.str "skip"], okNm x = true := by decide +kernel
      exact this x hx
    obtain ⟨x', rfl, hx2⟩ := okNm_of hx'
    refine w_ixL (sqL (c4.at1 hp ne.symm)) ex ?_
    exact q x' H4 ((c12.same c3).both c4) (bag4.le (by omega)) hx2
  walk_at "w"
  have fallback : ∀ H', Chg [b] H H' → Bag H' b (n - 2) → tRet (tOp oAddS (tVar 4)
        (tM1 (mJoin K) (tC (V.str ""))
          (tLc (iRng1 (tCons (tCall sp__law_draw [] E0 (tCons (tVar 0) (tCons (tC (V.int 8)) tNil))) tNil)) (gName 7) tYes
            (tOp rIxS (tVar 2) (tCall sp__law_draw [] E0 (tCons (tVar 0) (tCons (tC (V.int 26)) tNil)))) [7])))
      (fin Q) [some (.ref b), some (.str last), some (.str "abcdefghijklmnopqrstuvwxyz"), some (.int v), some (.str ⟨#[c]⟩), none, none, none] H' := fun H' c' bag' => by
    walk_at "w"
    refine u_draw bag' (by omega) (by decide) (by decide) fun w H3 c3 bag3 w0 w1 => ?_
    walk_at "w"
    have b3s := bag3.some
    refine w_lcP walk_range [b] (fun i H => Bag H b (n - 3 - i)) (fun i y _ => ∃ d, y = .str ⟨#[d]⟩ ∧ isLow d = true) (bag3.le (by omega)) (fun i H1 H2 p np c h => h.one c (fun z => b3s (by rw [z]; exact np))) (fun _ _ => trivial) (fun D i acc z H4 H5 hi nD hD el iv c4 bag4 y => ?_) (fun D acc H4 nD c4 bag4 el hD ys => ?_)
    · obtain ⟨rfl, rfl⟩ := y
      have hi8 : i < 8 := by omega
      walk_at "w"
      refine u_draw bag4 (by omega) (by decide) (by decide) fun u2 H6 c6 bag6 g0 g1 => ?_
      obtain ⟨d, ed, hd⟩ := letter_at g0 g1
      refine w_ixS (by decide +kernel) ed ?_
      exact lcp_end (fun i H1 H2 p np c h => h.one c (fun z => b3s (by rw [z]; exact np))) (fun _ _ _ _ _ _ _ h => h) nD (fun a ha => by rw [List.mem_singleton.mp ha]; exact b3s) hD el (by omega) iv c6 (bag6.le (by omega)) ⟨d, rfl, hd⟩
    · have hlen : acc.length < 8 := by omega
      obtain ⟨zs, rfl, hzs⟩ : ∃ zs : List Str, acc = zs.map V.str ∧ ∀ z ∈ zs, z.length = 1 ∧ low z := by
        have : ∀ x ∈ acc, ∃ d, x = V.str ⟨#[d]⟩ ∧ isLow d = true := fun x hx => by
          obtain ⟨i, hi⟩ := List.getElem?_of_mem hx
          exact ys i x hi
        clear ys hD el hlen bag4
        induction acc with
        | nil => exact ⟨[], rfl, fun z hz => by cases hz⟩
        | cons x r ih =>
          obtain ⟨zs, e, hz⟩ := ih fun y hy => this y (List.mem_cons_of_mem _ hy)
          obtain ⟨d, rfl, hd⟩ := this x (by simp)
          refine ⟨⟨#[d]⟩ :: zs, by rw [List.map_cons, e], fun z hz' => ?_⟩
          rcases List.mem_cons.mp hz' with rfl | hz'
          · exact ⟨rfl, low_one hd⟩
          · exact hz z hz'
      rw [List.length_map] at hlen
      have j := join_ones hzs
      refine w_join (sqL hD) ?_ ?_
      · rw [sum_ones fun y hy => (hzs y hy).1, show (Str.ofString "").length = 0 from by decide +kernel]
        omega
      · refine w_addS ?_ ?_
        · rw [len_one, j.1]
          exact Nat.le_trans (show 1 + zs.length ≤ 100000 by omega) (by decide)
        refine q _ H4 ((c'.both c3).both c4) (bag4.le (by omega)) (nameS_of ?_ ?_ (low_append (low_one hc) j.2))
        · rw [len_append, len_one]
          omega
        · rw [len_append, len_one, j.1]
          omega
  have lenLast : last.length ≤ sizeLine := Nat.le_trans l8 (by decide)
  refine w_iteD (fun h0 => ?_) (fun h0 => ?_)
  · walk_at "w"
    refine w_iteD (fun g1 => ?_) (fun g1 => ?_)
    · walk_at "w"
      refine w_iteD (fun g2 => ?_) (fun g2 => ?_)
      · walk_at "w"
        refine q _ H2 c12 (bag2.le (by omega)) (nameS_of ?_ ?_ (low_append ll (low_one hc)))
        · rw [len_append, len_one]
          omega
        · rw [len_append, len_one]
          omega
      · have hv : v = 0 := V.int.inj h0
        subst hv
        walk_at "wn"
        exact fallback H2 c12 (bag2.le (by omega))
    · have hv : v = 0 := V.int.inj h0
      subst hv
      walk_at "wn"
      exact fallback H2 c12 (bag2.le (by omega))
  walk_at "w"
  refine w_iteD (fun h1 => ?_) (fun h1 => ?_)
  · walk_at "w"
    have hv : v = 1 := V.int.inj h1
    subst hv
    refine w_iteD (fun g1 => ?_) (fun g1 => ?_)
    · walk_at "w"
      have el : (cutS last (some 1) none).length = last.length - 1 := by
        rw [len_cut, sIx_i (by decide), HT.sIx_none]
        show min (last.length - min 1 last.length) (last.length - min 1 last.length) = _
        omega
      exact q _ H2 c12 (bag2.le (by omega)) (nameS_of (by omega) (by omega) (low_cut _ _ ll))
    · walk_at "wn"
      exact fallback H2 c12 (bag2.le (by omega))
  walk_at "w"
  refine w_iteD (fun h2 => ?_) (fun h2 => ?_)
  · have hv : v = 2 := V.int.inj h2
    subst hv
    walk_at "w"
    refine w_iteD (fun g1 => ?_) (fun g1 => ?_)
    · walk_at "wn"
      exact fallback H2 c12 (bag2.le (by omega))
    · have hne : 1 ≤ last.length := by
        rcases Nat.eq_zero_or_pos last.length with z | z
        · exfalso
          apply g1
          have : last = Str.ofString "" := by
            cases last with
            | mk a =>
              have : a = #[] := Array.eq_empty_of_size_eq_zero z
              rw [this]
              decide +kernel
          rw [this]
        · exact z
      walk_at "w"
      refine u_draw bag2 (by omega) (by omega) (by omega) fun w H3 c3 bag3 w0 w1 => ?_
      walk_at "w"
      have e1 : (cutS last none (some w)).length = w.toNat := by
        rw [len_cut, sIx_i w0, HT.sIx_none]
        omega
      have e2 : (cutS last (some (w + 1)) none).length = last.length - (w.toNat + 1) := by
        rw [len_cut, sIx_i (by omega), HT.sIx_none]
        omega
      refine w_addS ?_ ?_
      · rw [e1, len_one]
        exact Nat.le_trans (show w.toNat + 1 ≤ 100000 by omega) (by decide)
      walk_at "w"
      refine w_addS ?_ ?_
      · rw [len_append, e1, e2, len_one]
        exact Nat.le_trans (show w.toNat + 1 + (last.length - (w.toNat + 1)) ≤ 100000 by omega) (by decide)
      refine q _ H3 (c12.both c3) (bag3.le (by omega)) (nameS_of ?_ ?_ (low_append (low_append (low_cut _ _ ll) (low_one hc)) (low_cut _ _ ll)))
      · rw [len_append, len_append, e1, e2, len_one]
        omega
      · rw [len_append, len_append, e1, e2, len_one]
        omega
  walk_at "wn"
  exact fallback H2 c12 (bag2.le (by omega))
end
end Fg
namespace Fg
open PySem PySem.Spec PyProof.Rows L2 LamX LmX
structure SemK (W : Nat → PyData → Prop) (jf : PyData → PyData → Option PyData) (nd : PyData) (mf : Int → Option PyData) : Prop where
  no : W 1 nd
  mr : ∀ n, Sm n → ∃ d, mf n = some d ∧ W 1 d
  jn : ∀ a b x y, a + b ≤ 2200 → W a x → W b y → ∃ d, jf x y = some d ∧ W (a + b) d
  ok : ∀ a x, W a x → noDic x = true ∧ x.depth ≤ 60
section
variable {W : Nat → PyData → Prop} {jf : PyData → PyData → Option PyData} {nd : PyData} {mf : Int → Option PyData}
theorem SemK.fold (h : SemK W jf nd mf) : ∀ (ns : List Int) (a : Nat) (x : PyData), a + ns.length ≤ 2200 → W a x → (∀ n ∈ ns, Sm n) → ∃ d, foldD jf mf x ns = some d ∧ W (a + ns.length) d
  | [], a, x, _, w, _ => ⟨x, rfl, w⟩
  | n :: r, a, x, hl, w, hs => by
    rw [List.length_cons] at hl
    obtain ⟨m, em, wm⟩ := h.mr n (hs n List.mem_cons_self)
    obtain ⟨y, ey, wy⟩ := h.jn a 1 x m (by omega) w wm
    obtain ⟨d, ed, wd⟩ := h.fold r (a + 1) y (by omega) wy fun k hk => hs k (List.mem_cons_of_mem _ hk)
    refine ⟨d, ?_, by rw [List.length_cons, show a + (r.length + 1) = a + 1 + r.length by omega]; exact wd⟩
    show (mf n).bind (fun m => (jf x m).bind fun y => foldD jf mf y r) = some d
    rw [em]
    show (jf x m).bind (fun y => foldD jf mf y r) = some d
    rw [ey]
    exact ed
theorem SemK.str (h : SemK W jf nd mf) {ns : List Int} (h0 : ns ≠ []) (hl : ns.length ≤ 2200) (hs : ∀ n ∈ ns, Sm n) : ∃ d, strD jf mf ns = some d ∧ W ns.length d := by
  cases ns with
  | nil => exact absurd rfl h0
  | cons n r =>
    obtain ⟨m, em, wm⟩ := h.mr n (hs n List.mem_cons_self)
    rw [List.length_cons] at hl
    obtain ⟨d, ed, wd⟩ := h.fold r 1 m (by omega) wm fun k hk => hs k (List.mem_cons_of_mem _ hk)
    refine ⟨d, ?_, by rw [List.length_cons, Nat.add_comm]; exact wd⟩
    show (mf n).bind (fun m => foldD jf mf m r) = some d
    rw [em]
    exact ed
def sli (ns : List Int) (i l : Nat) : List Int := (ns.take l).drop i
theorem sli_len {ns : List Int} {i l : Nat} (h : l ≤ ns.length) : (sli ns i l).length = l - i := by
  unfold sli
  rw [List.length_drop, List.length_take]
  omega
theorem sli_mem {ns : List Int} {i l : Nat} {n : Int} (h : n ∈ sli ns i l) : n ∈ ns := List.mem_of_mem_take (List.mem_of_mem_drop h)
/-- the stretches -/
def fsD (jf : PyData → PyData → Option PyData) (mf : Int → Option PyData) (ns : List Int) (i l : Nat) : PyData := (strD jf mf (sli ns i l)).getD .none
theorem SemK.fs (h : SemK W jf nd mf) {ns : List Int} (hl : ns.length ≤ 40) (hs : ∀ n ∈ ns, Sm n) {i l : Nat} (h1 : i < l) (h2 : l ≤ ns.length) : strD jf mf (sli ns i l) = some (fsD jf mf ns i l) ∧ W (l - i) (fsD jf mf ns i l) := by
  have hn := sli_len (i := i) h2
  obtain ⟨d, e, w⟩ := h.str (ns := sli ns i l) (fun z => by rw [z] at hn; simp at hn; omega) (by omega) fun n hn => hs n (sli_mem hn)
  unfold fsD
  rw [e]
  refine ⟨rfl, ?_⟩
  rw [hn] at w
  exact w
end
end Fg
namespace Fg
open PySem PySem.Spec PyProof.Rows L2 LamX LmX
def WI (_ : Nat) (x : PyData) : Prop := ∃ i : Int, x = .int i
def W7 (_ : Nat) (x : PyData) : Prop := ∃ i : Int, x = .int i ∧ 0 ≤ i ∧ i < 7
def WS (a : Nat) (x : PyData) : Prop := ∃ s : Str, x = .str s ∧ s.length ≤ 40 * a
def WO (_ : Nat) (x : PyData) : Prop := x = .none ∨ ∃ i : Int, x = .int i
def WT (_ : Nat) (x : PyData) : Prop := x = .tuple [] ∨ ∃ a b : Int, x = .tuple [.int a, .int b]
def WL (a : Nat) (x : PyData) : Prop := ∃ ns : List Int, x = .list (ns.map PyData.int) ∧ ns.length ≤ a
def WB (_ : Nat) (x : PyData) : Prop := x = .int 0 ∨ ∃ b : Bool, x = .bool b
section
variable {jf : PyData → PyData → Option PyData} {nd : PyData} {mf : Int → Option PyData}
theorem semI (h0 : ∃ i : Int, nd = .int i) (hm : ∀ n, Sm n → ∃ m : Int, mf n = some (.int m)) (hj : ∀ a b : Int, ∃ c : Int, jf (.int a) (.int b) = some (.int c)) : SemK WI jf nd mf where
  no := h0
  mr := fun n h => by obtain ⟨m, e⟩ := hm n h; exact ⟨_, e, m, rfl⟩
  jn := fun _ _ x y _ hx hy => by
    obtain ⟨i, rfl⟩ := hx
    obtain ⟨j, rfl⟩ := hy
    obtain ⟨c, e⟩ := hj i j
    exact ⟨_, e, c, rfl⟩
  ok := fun _ x hx => by obtain ⟨i, rfl⟩ := hx; exact ⟨rfl, (by decide : 0 ≤ 60)⟩
theorem semO (h0 : WO 1 nd) (hm : ∀ n, Sm n → ∃ d, mf n = some d ∧ WO 1 d) (hj : ∀ x y, WO 1 x → WO 1 y → ∃ d, jf x y = some d ∧ WO 1 d) : SemK WO jf nd mf where
  no := h0
  mr := hm
  jn := fun _ _ x y _ hx hy => hj x y hx hy
  ok := fun _ x hx => by rcases hx with rfl | ⟨i, rfl⟩ <;> exact ⟨rfl, (by decide : 0 ≤ 60)⟩
theorem semS (h0 : nd = .str (Str.ofString "")) (hm : ∀ n, Sm n → ∃ s : Str, mf n = some (.str s) ∧ s.length ≤ 40) (hj : ∀ a b : Str, a.length + b.length ≤ 90000 → ∃ c : Str, jf (.str a) (.str b) = some (.str c) ∧ c.length ≤ a.length + b.length) : SemK WS jf nd mf where
  no := ⟨_, h0, by decide⟩
  mr := fun n h => by obtain ⟨s, e, l⟩ := hm n h; exact ⟨_, e, s, rfl, by omega⟩
  jn := fun a b x y h hx hy => by
    obtain ⟨s, rfl, l1⟩ := hx
    obtain ⟨t, rfl, l2⟩ := hy
    obtain ⟨c, e, l⟩ := hj s t (by omega)
    exact ⟨_, e, c, rfl, by omega⟩
  ok := fun _ x hx => by obtain ⟨s, rfl, _⟩ := hx; exact ⟨rfl, (by decide : 0 ≤ 60)⟩
theorem sm30 {n : Int} (h : Sm n) : n.natAbs < 10 ^ 30 := Nat.lt_trans h (by decide)
theorem mkD_s {j : Nat} {n : Int} (h : Sm n) : mkD j n = mkD0 j n := by
  unfold mkD
  rw [if_pos (sm30 h)]
theorem s2_s (f : Str → Str → Str) {a b : Str} (h : a.length + b.length ≤ 90000) : s2 f (.str a) (.str b) = some (.str (f a b)) := by
  show (if a.length + b.length ≤ 90000 then some (PyData.str (f a b)) else none) = _
  rw [if_pos h]
theorem text32 {n : Int} (h : n.natAbs < 10 ^ 30) : (Str.empty ++ Str.ofString (toString n) ++ Str.ofString ";").length ≤ 40 := by
  have e0 : Str.empty.length = 0 := rfl
  have e1 : (Str.ofString ";").length = 1 := rfl
  have := len_text h
  rw [len_append, len_append]
  omega
theorem idI : ∀ n, Sm n → ∃ m : Int, idD n = some (.int m) := fun n _ => ⟨n, rfl⟩
theorem idO : ∀ n, Sm n → ∃ d, idD n = some d ∧ WO 1 d := fun n _ => ⟨_, rfl, .inr ⟨n, rfl⟩⟩
theorem latO {x y : PyData} (hx : WO 1 x) (hy : WO 1 y) : ∃ d, lat2 x y = some d ∧ WO 1 d := by
  rcases hx with rfl | ⟨i, rfl⟩ <;> rcases hy with rfl | ⟨j, rfl⟩
  · exact ⟨_, rfl, .inl rfl⟩
  · exact ⟨_, rfl, .inr ⟨j, rfl⟩⟩
  · exact ⟨_, rfl, .inr ⟨i, rfl⟩⟩
  · exact ⟨_, rfl, .inr ⟨j, rfl⟩⟩
theorem int_list : ∀ ns : List Int, intsOf (ns.map PyData.int) = some ns
  | [] => rfl
  | n :: r => by
    show (intsOf (r.map PyData.int)).map (n :: ·) = _
    rw [int_list r]
    rfl
theorem boT {x y : PyData} (hx : WT 1 x) (hy : WT 1 y) : ∃ d, boD x y = some d ∧ WT 1 d := by
  have key : ∀ ns ms : List Int, ns.length ≤ 2 → ms.length ≤ 2 → ∃ d, boD (.tuple (ns.map PyData.int)) (.tuple (ms.map PyData.int)) = some d ∧ WT 1 d := fun ns ms h1 h2 => by
    unfold boD
    dsimp only
    rw [← List.map_append, int_list]
    have hl : (ns ++ ms).length ≤ 4 := by rw [List.length_append]; omega
    cases e : ns ++ ms with
    | nil => exact ⟨_, rfl, .inl rfl⟩
    | cons n r =>
      rw [e] at hl
      dsimp only
      rw [if_pos (by omega)]
      exact ⟨_, rfl, .inr ⟨_, _, rfl⟩⟩
  rcases hx with rfl | ⟨a, b, rfl⟩ <;> rcases hy with rfl | ⟨c, d, rfl⟩
  · exact key [] [] (by decide) (by decide)
  · exact key [] [c, d] (by decide) (by simp)
  · exact key [a, b] [] (by simp) (by decide)
  · exact key [a, b] [c, d] (by simp) (by simp)
theorem semT : SemK WT boD (.tuple []) (mkD 7) where
  no := .inl rfl
  mr := fun n h => ⟨_, mkD_s h, .inr ⟨n, n, rfl⟩⟩
  jn := fun _ _ x y _ hx hy => boT hx hy
  ok := fun _ x hx => by rcases hx with rfl | ⟨a, b, rfl⟩ <;> exact ⟨rfl, (by decide : 1 ≤ 60)⟩
theorem depthAll_ints : ∀ ns : List Int, PyData.depthAll (ns.map PyData.int) = 0
  | [] => rfl
  | n :: r => by
    show max (PyData.depth (.int n)) (PyData.depthAll (r.map PyData.int)) = 0
    rw [depthAll_ints r]
    rfl
theorem semL : SemK WL (jnD 8) (.list []) (mkD 9) where
  no := ⟨[], rfl, by decide⟩
  mr := fun n h => ⟨_, mkD_s h, [n], rfl, by simp⟩
  jn := fun a b x y h hx hy => by
    obtain ⟨ns, rfl, l1⟩ := hx
    obtain ⟨ms, rfl, l2⟩ := hy
    refine ⟨_, ?_, ns ++ ms, rfl, by rw [List.length_append]; omega⟩
    show (if (ns.map PyData.int).length + (ms.map PyData.int).length ≤ 90000 then some (PyData.list (ns.map PyData.int ++ ms.map PyData.int)) else none) = _
    rw [if_pos (by rw [List.length_map, List.length_map]; omega), List.map_append]
  ok := fun _ x hx => by
    obtain ⟨ns, rfl, _⟩ := hx
    refine ⟨noDics_of fun d hd => by obtain ⟨i, _, rfl⟩ := List.mem_map.mp hd; rfl, ?_⟩
    show PyData.depthAll (ns.map PyData.int) + 1 ≤ 60
    rw [depthAll_ints]
    decide
theorem sem7 : SemK W7 (jnD 10) (.int 1) (mkD 11) where
  no := ⟨1, rfl, by decide, by decide⟩
  mr := fun n h => ⟨_, mkD_s h, n % 7, rfl, Int.emod_nonneg _ (by decide), Int.emod_lt_of_pos _ (by decide)⟩
  jn := fun _ _ x y _ hx hy => by
    obtain ⟨i, rfl, h1, h2⟩ := hx
    obtain ⟨j, rfl, h3, h4⟩ := hy
    refine ⟨_, ?_, i * j % 7, rfl, Int.emod_nonneg _ (by decide), Int.emod_lt_of_pos _ (by decide)⟩
    show (if (0 ≤ i ∧ i < 7) ∧ (0 ≤ j ∧ j < 7) then some (PyData.int (i * j % 7)) else none) = _
    rw [if_pos ⟨⟨h1, h2⟩, ⟨h3, h4⟩⟩]
  ok := fun _ x hx => by obtain ⟨i, rfl, _⟩ := hx; exact ⟨rfl, (by decide : 0 ≤ 60)⟩
theorem semB : SemK WB (jnD 29) (.int 0) (mkD 30) where
  no := .inl rfl
  mr := fun n h => ⟨_, mkD_s h, .inr ⟨_, rfl⟩⟩
  jn := fun _ _ x y _ hx hy => by
    have ni : ∀ z, WB 1 z → ∃ i, niD z = some i := fun z hz => by rcases hz with rfl | ⟨b, rfl⟩; exact ⟨_, rfl⟩; exact ⟨_, rfl⟩
    obtain ⟨i, e1⟩ := ni x hx
    obtain ⟨j, e2⟩ := ni y hy
    refine ⟨if j > i then y else x, ?_, ?_⟩
    · show mxD x y = _
      unfold mxD
      rw [e1, e2]
    · split
      · exact hy
      · exact hx
  ok := fun _ x hx => by rcases hx with rfl | ⟨b, rfl⟩ <;> exact ⟨rfl, (by decide : 0 ≤ 60)⟩
end
end Fg
namespace Fg
open PySem PySem.Spec PyProof.Rows L2 LamX LmX
structure AscK (W : Nat → PyData → Prop) (jf : PyData → PyData → Option PyData) (nd : PyData) : Prop where
  il : ∀ a x, a ≤ 1900 → W a x → jf nd x = some x
  ir : ∀ a x, a ≤ 1900 → W a x → jf x nd = some x
  asc : ∀ a b c x y z p q, a + b + c ≤ 2200 → W a x → W b y → W c z → jf x y = some p → jf y z = some q → jf p z = jf x q
section
variable {W : Nat → PyData → Prop} {jf : PyData → PyData → Option PyData} {nd : PyData} {mf : Int → Option PyData}
theorem AscK.app (s : SemK W jf nd mf) (h : AscK W jf nd) : ∀ (r : List Int) (a b : Nat) (x m y d : PyData), a + b + r.length ≤ 1900 → W a x → W b m → (∀ n ∈ r, Sm n) → jf x m = some y → foldD jf mf m r = some d → foldD jf mf y r = jf x d
  | [], a, b, x, m, y, d, _, wx, wm, _, ey, ed => by cases ed; exact ey.symm
  | n :: r, a, b, x, m, y, d, hl, wx, wm, hs, ey, ed => by
    rw [List.length_cons] at hl
    obtain ⟨k, q, ek, eq, er⟩ := foldD_cons ed
    obtain ⟨k', ek', wk⟩ := s.mr n (hs n List.mem_cons_self)
    rw [ek] at ek'
    cases ek'
    obtain ⟨q', eq', wq⟩ := s.jn b 1 m k (by omega) wm wk
    rw [eq] at eq'
    cases eq'
    obtain ⟨y', ey', wy⟩ := s.jn a b x m (by omega) wx wm
    rw [ey] at ey'
    cases ey'
    obtain ⟨z, ez, wz⟩ := s.jn (a + b) 1 y k (by omega) wy wk
    have e1 : jf x q = some z := by rw [← h.asc a b 1 x m k y q (by omega) wx wm wk ey eq, ez]
    show (mf n).bind (fun m => (jf y m).bind fun y => foldD jf mf y r) = jf x d
    rw [ek]
    show (jf y k).bind (fun y => foldD jf mf y r) = jf x d
    rw [ez]
    exact h.app s r a (b + 1) x q z d (by omega) wx wq (fun n hn => hs n (List.mem_cons_of_mem _ hn)) e1 er
theorem AscK.join (s : SemK W jf nd mf) (h : AscK W jf nd) {ns : List Int} (hl : ns.length ≤ 40) (hs : ∀ n ∈ ns, Sm n) {i j l : Nat} (h1 : i < j) (h2 : j < l) (h3 : l ≤ ns.length) : jf (fsD jf mf ns i j) (fsD jf mf ns j l) = some (fsD jf mf ns i l) := by
  obtain ⟨e1, w1⟩ := s.fs hl hs (i := i) (l := j) h1 (by omega)
  obtain ⟨e2, w2⟩ := s.fs hl hs (i := j) (l := l) h2 h3
  obtain ⟨e3, w3⟩ := s.fs hl hs (i := i) (l := l) (by omega) h3
  have el : sli ns i l = sli ns i j ++ sli ns j l := by
    unfold sli
    have e4 : ns.take l = ns.take j ++ (ns.take l).drop j := by
      have := List.take_append_drop j (ns.take l)
      rw [List.take_take, Nat.min_eq_left (by omega)] at this
      exact this.symm
    have hj : i ≤ (ns.take j).length := by rw [List.length_take]; omega
    conv => lhs; rw [e4]
    rw [List.drop_append_of_le_length hj]
  have n2 := sli_len (i := j) h3
  have n1 := sli_len (ns := ns) (i := i) (l := j) (by omega)
  have s1 : ∀ n ∈ sli ns i j, Sm n := fun n hn => hs n (sli_mem hn)
  have s2 : ∀ n ∈ sli ns j l, Sm n := fun n hn => hs n (sli_mem hn)
  rw [el] at e3
  rw [← e3]
  generalize sli ns i j = u at *
  generalize sli ns j l = v at *
  generalize fsD jf mf ns i j = a at *
  generalize fsD jf mf ns j l = b at *
  cases u with
  | nil => cases e1
  | cons n r =>
  cases v with
  | nil => cases e2
  | cons k t =>
    have e1 : ((mf n).bind fun m => foldD jf mf m r) = some a := e1
    have e2 : ((mf k).bind fun m => foldD jf mf m t) = some b := e2
    obtain ⟨mk, ek, wk⟩ := s.mr k (s2 k List.mem_cons_self)
    rw [ek] at e2
    have e2 : foldD jf mf mk t = some b := e2
    have happ : ∀ (r : List Int) (x y : PyData), foldD jf mf x r = some y → foldD jf mf x (r ++ k :: t) = foldD jf mf y (k :: t) := by
      intro r
      induction r with
      | nil => intro x y e; cases e; rfl
      | cons c r ih =>
        intro x y e
        obtain ⟨m1, y1, f1, f2, f3⟩ := foldD_cons e
        show (mf c).bind (fun m => (jf x m).bind fun y => foldD jf mf y (r ++ k :: t)) = _
        rw [f1]
        show (jf x m1).bind (fun y => foldD jf mf y (r ++ k :: t)) = _
        rw [f2]
        exact ih _ _ f3
    show _ = (mf n).bind (fun m => foldD jf mf m (r ++ k :: t))
    cases en : mf n with
    | none => rw [en] at e1; cases e1
    | some m0 =>
      rw [en] at e1
      show _ = foldD jf mf m0 (r ++ k :: t)
      rw [happ r m0 a e1]
      show _ = (mf k).bind (fun m => (jf a m).bind fun y => foldD jf mf y t)
      rw [ek]
      obtain ⟨y, ey, wy⟩ := s.jn _ 1 a mk (by omega) w1 wk
      show _ = (jf a mk).bind (fun y => foldD jf mf y t)
      rw [ey]
      rw [List.length_cons] at n2
      exact (h.app s t (j - i) 1 a mk y b (by omega) w1 wk (fun n hn => s2 n (List.mem_cons_of_mem _ hn)) ey e2).symm
end
theorem str_nil_app (s : Str) : Str.ofString "" ++ s = s := by
  show (⟨(Str.ofString "").cps ++ s.cps⟩ : Str) = s
  have e : (Str.ofString "").cps = #[] := rfl
  rw [e, Array.empty_append]
end Fg
namespace Fg
open PySem PySem.Spec PyProof.Rows L2 LamX LmX
theorem str_assoc (s t u : Str) : s ++ t ++ u = s ++ (t ++ u) := by
  show (⟨(s.cps ++ t.cps) ++ u.cps⟩ : Str) = ⟨s.cps ++ (t.cps ++ u.cps)⟩
  rw [Array.append_assoc]
end Fg
namespace Fg
open PySem PySem.Spec PyProof.Rows L2 LamX LmX
local macro_rules | `(tactic| walk_at "hp") => `(tactic| first
  | assumption
  | exact upd_same
  | (refine Chg.at (by assumption) ?_; walk_at "hp")
  | (refine Chg.at1 (by assumption) ?_ (by walk_at "ne"); walk_at "hp"))
local macro_rules | `(tactic| walk_at "ne") => `(tactic| first | assumption | (apply Ne.symm; assumption))
local macro_rules | `(tactic| walk_at "sq") => `(tactic| first | assumption | exact sqL (by walk_at "hp") | (refine Chg.seq (by assumption) ?_; walk_at "sq"))
local macro_rules | `(tactic| walk_at "sz") => `(tactic| first | assumption | exact Nat.zero_le _ | (simp only [List.length_cons, List.length_nil]; decide) | exact Nat.le_trans (by first | omega | (simp; done) | (simp; omega)) (show 100000 ≤ sizeLine by decide) | exact Nat.lt_of_lt_of_le (by first | omega | (simp; done) | (simp; omega)) (show 100000 ≤ sizeLine by decide))
local macro_rules | `(tactic| walk_at "ix") => `(tactic| first | exact at0 | exact at1 | exact at2 | exact at3 | assumption | exact rfl | walk_at "ix2")
local macro_rules | `(tactic| walk_at "ix2") => `(tactic| fail)
local macro_rules | `(tactic| walk_at "num") => `(tactic| first | assumption | omega | decide | walk_at "num2")
local macro_rules | `(tactic| walk_at "num2") => `(tactic| fail)
local macro_rules | `(tactic| walk_at "im") => `(tactic| first | assumption | exact R.non (S := fun _ => False) | exact R.bl (S := fun _ => False) _ | exact R.int (S := fun _ => False) _ | exact R.str (S := fun _ => False) _ | (refine R.im (by assumption) ?_; walk_at "im"))
local macro_rules | `(tactic| walk_at "r") => `(tactic| first | assumption | exact R.non (S := fun _ => False) | exact R.bl (S := fun _ => False) _ | exact R.int (S := fun _ => False) _ | exact R.str (S := fun _ => False) _ | (refine R.same (by assumption) ?_; walk_at "r") | exact R.any (by walk_at "im"))
local macro_rules | `(tactic| walk_at "chg") => `(tactic| first
  | exact Chg.refl
  | assumption
  | (refine Chg.same ?_ (by assumption); walk_at "chg")
  | (refine Chg.both ?_ (by assumption); walk_at "chg")
  | (refine Chg.pre (by assumption) ?_; walk_at "chg"))
local macro_rules | `(tactic| walk_at "w1") => `(tactic| first
  | with_reducible apply w_seq
  | with_reducible apply w_asg
  | ((with_reducible apply w_var); (focus (exact rfl)))
  | with_reducible apply w_c
  | with_reducible apply w_op
  | with_reducible apply w_cons
  | with_reducible apply w_nil
  | with_reducible apply w_gName
  | with_reducible apply w_if
  | with_reducible apply w_test
  | with_reducible apply w_B
  | with_reducible apply w_isbl
  | with_reducible apply w_retN
  | with_reducible apply w_next
  | with_reducible apply w_drop
  | with_reducible apply w_cb
  | with_reducible apply w_call
  | with_reducible apply w_callN
  | with_reducible apply w_bm
  | with_reducible apply w_bm0
  | ((with_reducible apply w_tyL); (focus (walk_at "hp"; done)))
  | with_reducible apply w_dput
  | with_reducible apply w_m1
  | with_reducible apply w_isstr
  | with_reducible apply w_and
  | with_reducible apply w_or
  | with_reducible apply w_not
  | with_reducible apply w_andV
  | with_reducible apply w_orV
  | with_reducible apply w_notV
  | with_reducible apply w_ifE
  | with_reducible apply w_chain
  | with_reducible apply w_un
  | with_reducible apply w_neg
  | with_reducible apply w_add
  | with_reducible apply w_sub
  | ((with_reducible apply w_mod); (focus (walk_at "num"; done)))
  | ((with_reducible apply w_mul); (focus (walk_at "num"; done)))
  | ((with_reducible apply w_fdiv); (focus (walk_at "num"; done)))
  | ((with_reducible apply w_pow); (focus (walk_at "num"; done)))
  | with_reducible apply w_lt
  | with_reducible apply w_le
  | with_reducible apply w_gt
  | with_reducible apply w_ge
  | with_reducible apply w_ltS
  | with_reducible apply w_geS
  | with_reducible apply w_inC
  | with_reducible apply w_notInC
  | with_reducible apply w_isN
  | with_reducible apply w_notN
  | with_reducible apply w_isB
  | with_reducible apply w_notB
  | ((with_reducible apply w_addS); (focus (walk_at "sz"; done)))
  | ((with_reducible apply w_ixL); (focus (walk_at "sq"; done)); (focus (walk_at "ix"; done)))
  | ((with_reducible apply w_ixT); (focus (walk_at "hp"; done)); (focus (walk_at "ix"; done)))
  | ((with_reducible apply w_ixS); (focus (walk_at "sz"; done)); (focus (walk_at "ix"; done)))
  | with_reducible apply w_gSub
  | ((with_reducible apply w_gTup); (focus (walk_at "hp"; done)); (focus (exact rfl)))
  | with_reducible apply w_gCons
  | with_reducible apply w_gNil
  | ((with_reducible apply w_aug); (focus (exact rfl)))
  | with_reducible apply w_ipI
  | ((with_reducible apply w_eq); (focus (exact rfl)))
  | ((with_reducible apply w_ne); (focus (exact rfl)))
  | with_reducible apply w_max
  | with_reducible apply w_min
  | with_reducible apply w_abs
  | with_reducible apply w_intB
  | with_reducible apply w_intI
  | with_reducible apply w_tup1
  | with_reducible apply w_lst1
  | with_reducible apply w_sl
  | with_reducible apply w_part
  | with_reducible apply w_noPart
  | with_reducible apply w_isint
  | ((with_reducible apply w_slS); (focus (walk_at "sz"; done)))
  | with_reducible apply w_iteT
  | with_reducible apply w_iteF
  | with_reducible apply w_iteN
  | ((with_reducible apply w_iteYes); (focus (exact rfl)))
  | ((with_reducible apply w_iteNo); (focus (exact rfl)))
  | ((with_reducible apply w_lenL); (focus (walk_at "sq"; done)))
  | ((with_reducible apply w_lenT); (focus (walk_at "hp"; done)))
  | ((with_reducible apply w_lenS); (focus (walk_at "sz"; done)))
  | with_reducible apply w_lc
  | with_reducible apply w_for
  | with_reducible apply w_yes
  | ((with_reducible apply w_wipe); (focus (exact rfl)))
  | with_reducible apply w_iList
  | with_reducible apply w_iTup
  | with_reducible apply w_iStr
  | with_reducible apply w_iRng1
  | with_reducible apply w_iRng2
  | with_reducible apply w_iZip
  | with_reducible apply w_iEnum
  | ((with_reducible apply d_iList); (focus (walk_at "sq"; done)))
  | ((with_reducible apply d_iTup); (focus (walk_at "hp"; done)))
  | with_reducible apply d_iStr
  | ((with_reducible apply d_iRng1); (focus (walk_at "num"; done)); (focus (walk_at "num"; done)))
  | ((with_reducible apply d_iRng2); (focus (walk_at "num"; done)); (focus (walk_at "num"; done)); (focus (walk_at "num"; done)); (focus (walk_at "num"; done)))
  | ((with_reducible apply d_iZip); (focus (walk_at "sq"; done)); (focus (walk_at "sq"; done)))
  | ((with_reducible apply d_iEnum); (focus (walk_at "sq"; done)))
  | walk_at "w2")
local macro_rules | `(tactic| walk_at "w2") => `(tactic| fail)
local macro_rules | `(tactic| walk_at "wn") => `(tactic| repeat walk_at "w1")
local macro_rules | `(tactic| walk_at "w") => `(tactic| repeat (first | walk_at "w1" | with_reducible apply w_ret))
local macro_rules | `(tactic| walk_at "w2") => `(tactic| first
  | ((with_reducible apply w_isInt); (focus (walk_at "r"; done)))
  | ((with_reducible apply w_isBool); (focus (walk_at "r"; done)))
  | ((with_reducible apply w_isStr); (focus (walk_at "r"; done)))
  | ((with_reducible apply w_isTup); (focus (walk_at "r"; done)))
  | ((with_reducible apply w_isLst); (focus (walk_at "r"; done)))
  | with_reducible apply w_fld
  | with_reducible apply w_sfld
  | with_reducible apply w_faug
  | with_reducible apply w_rAdd
  | with_reducible apply w_rSub
  | with_reducible apply w_make
  | with_reducible apply w_orT
  | with_reducible apply w_dgetd
  | with_reducible apply w_dgetk
  | with_reducible apply w_dsetd
  | ((with_reducible apply k_dgetd); (focus (walk_at "hp"; done)))
  | ((with_reducible apply k_dsetd); (focus (walk_at "hp"; done)))
  | walk_at "w3")
local macro_rules | `(tactic| walk_at "w3") => `(tactic| fail)
local macro_rules | `(tactic| walk_at "w3") => `(tactic| first
  | with_reducible apply w_mt
  | with_reducible apply w_makeX
  | ((with_reducible apply m_Kind); (focus (walk_at "hp"; done)); (focus (exact rfl)))
  | ((with_reducible apply g_Kind_joining); (focus (assumption; done)); (focus (walk_at "hp"; done)))
  | ((with_reducible apply g_Kind_none); (focus (assumption; done)); (focus (walk_at "hp"; done)))
  | ((with_reducible apply g_Kind_making); (focus (assumption; done)); (focus (walk_at "hp"; done)))
  | ((with_reducible apply g_Kind_word); (focus (assumption; done)); (focus (walk_at "hp"; done))))
def pSD (p : Str × Int) : PyData := .tuple [.str p.1, .int p.2]
/-- the views at V -/
def VwsAt (H : Hp) (V0 : Addr) (vss : List (List (Str × Int))) : Prop := ∃ rs : List Addr, H V0 = some (.lst (rs.map V.ref)) ∧ rs.length = vss.length ∧ ∀ (k : Nat) r vw, rs[k]? = some r → vss[k]? = some vw → ∃ us, H r = some (.lst us) ∧ ImA H us (vw.map pSD)
theorem VwsAt.same {H H' : Hp} {V0 : Addr} {vss : List (List (Str × Int))} (c : Chg [] H H') (h : VwsAt H V0 vss) : VwsAt H' V0 vss := by
  obtain ⟨rs, h1, h2, h3⟩ := h
  refine ⟨rs, c.at h1, h2, fun k r vw e1 e2 => ?_⟩
  obtain ⟨us, h4, h5⟩ := h3 k r vw e1 e2
  exact ⟨us, c.at h4, RA.im c h5⟩
end Fg
namespace Fg
open PySem PySem.Spec PyProof.Rows L2 LamX LmX
local macro_rules | `(tactic| walk_at "hp") => `(tactic| first
  | assumption
  | exact upd_same
  | (refine Chg.at (by assumption) ?_; walk_at "hp")
  | (refine Chg.at1 (by assumption) ?_ (by walk_at "ne"); walk_at "hp"))
local macro_rules | `(tactic| walk_at "ne") => `(tactic| first | assumption | (apply Ne.symm; assumption))
local macro_rules | `(tactic| walk_at "sq") => `(tactic| first | assumption | exact sqL (by walk_at "hp") | (refine Chg.seq (by assumption) ?_; walk_at "sq"))
local macro_rules | `(tactic| walk_at "sz") => `(tactic| first | assumption | exact Nat.zero_le _ | (simp only [List.length_cons, List.length_nil]; decide) | exact Nat.le_trans (by first | omega | (simp; done) | (simp; omega)) (show 100000 ≤ sizeLine by decide) | exact Nat.lt_of_lt_of_le (by first | omega | (simp; done) | (simp; omega)) (show 100000 ≤ sizeLine by decide))
local macro_rules | `(tactic| walk_at "ix") => `(tactic| first | exact at0 | exact at1 | exact at2 | exact at3 | assumption | exact rfl | walk_at "ix2")
local macro_rules | `(tactic| walk_at "ix2") => `(tactic| fail)
local macro_rules | `(tactic| walk_at "num") => `(tactic| first | assumption | omega | decide | walk_at "num2")
local macro_rules | `(tactic| walk_at "num2") => `(tactic| fail)
local macro_rules | `(tactic| walk_at "im") => `(tactic| first | assumption | exact R.non (S := fun _ => False) | exact R.bl (S := fun _ => False) _ | exact R.int (S := fun _ => False) _ | exact R.str (S := fun _ => False) _ | (refine R.im (by assumption) ?_; walk_at "im"))
local macro_rules | `(tactic| walk_at "r") => `(tactic| first | assumption | exact R.non (S := fun _ => False) | exact R.bl (S := fun _ => False) _ | exact R.int (S := fun _ => False) _ | exact R.str (S := fun _ => False) _ | (refine R.same (by assumption) ?_; walk_at "r") | exact R.any (by walk_at "im"))
local macro_rules | `(tactic| walk_at "chg") => `(tactic| first
  | exact Chg.refl
  | assumption
  | (refine Chg.same ?_ (by assumption); walk_at "chg")
  | (refine Chg.both ?_ (by assumption); walk_at "chg")
  | (refine Chg.pre (by assumption) ?_; walk_at "chg"))
local macro_rules | `(tactic| walk_at "w1") => `(tactic| first
  | with_reducible apply w_seq
  | with_reducible apply w_asg
  | ((with_reducible apply w_var); (focus (exact rfl)))
  | with_reducible apply w_c
  | with_reducible apply w_op
  | with_reducible apply w_cons
  | with_reducible apply w_nil
  | with_reducible apply w_gName
  | with_reducible apply w_if
  | with_reducible apply w_test
  | with_reducible apply w_B
  | with_reducible apply w_isbl
  | with_reducible apply w_retN
  | with_reducible apply w_next
  | with_reducible apply w_drop
  | with_reducible apply w_cb
  | with_reducible apply w_call
  | with_reducible apply w_callN
  | with_reducible apply w_bm
  | with_reducible apply w_bm0
  | ((with_reducible apply w_tyL); (focus (walk_at "hp"; done)))
  | with_reducible apply w_dput
  | with_reducible apply w_m1
  | with_reducible apply w_isstr
  | with_reducible apply w_and
  | with_reducible apply w_or
  | with_reducible apply w_not
  | with_reducible apply w_andV
  | with_reducible apply w_orV
  | with_reducible apply w_notV
  | with_reducible apply w_ifE
  | with_reducible apply w_chain
  | with_reducible apply w_un
  | with_reducible apply w_neg
  | with_reducible apply w_add
  | with_reducible apply w_sub
  | ((with_reducible apply w_mod); (focus (walk_at "num"; done)))
  | ((with_reducible apply w_mul); (focus (walk_at "num"; done)))
  | ((with_reducible apply w_fdiv); (focus (walk_at "num"; done)))
  | ((with_reducible apply w_pow); (focus (walk_at "num"; done)))
  | with_reducible apply w_lt
  | with_reducible apply w_le
  | with_reducible apply w_gt
  | with_reducible apply w_ge
  | with_reducible apply w_ltS
  | with_reducible apply w_geS
  | with_reducible apply w_inC
  | with_reducible apply w_notInC
  | with_reducible apply w_isN
  | with_reducible apply w_notN
  | with_reducible apply w_isB
  | with_reducible apply w_notB
  | ((with_reducible apply w_addS); (focus (walk_at "sz"; done)))
  | ((with_reducible apply w_ixL); (focus (walk_at "sq"; done)); (focus (walk_at "ix"; done)))
  | ((with_reducible apply w_ixT); (focus (walk_at "hp"; done)); (focus (walk_at "ix"; done)))
  | ((with_reducible apply w_ixS); (focus (walk_at "sz"; done)); (focus (walk_at "ix"; done)))
  | with_reducible apply w_gSub
  | ((with_reducible apply w_gTup); (focus (walk_at "hp"; done)); (focus (exact rfl)))
  | with_reducible apply w_gCons
  | with_reducible apply w_gNil
  | ((with_reducible apply w_aug); (focus (exact rfl)))
  | with_reducible apply w_ipI
  | ((with_reducible apply w_eq); (focus (exact rfl)))
  | ((with_reducible apply w_ne); (focus (exact rfl)))
  | with_reducible apply w_max
  | with_reducible apply w_min
  | with_reducible apply w_abs
  | with_reducible apply w_intB
  | with_reducible apply w_intI
  | with_reducible apply w_tup1
  | with_reducible apply w_lst1
  | with_reducible apply w_sl
  | with_reducible apply w_part
  | with_reducible apply w_noPart
  | with_reducible apply w_isint
  | ((with_reducible apply w_slS); (focus (walk_at "sz"; done)))
  | with_reducible apply w_iteT
  | with_reducible apply w_iteF
  | with_reducible apply w_iteN
  | ((with_reducible apply w_iteYes); (focus (exact rfl)))
  | ((with_reducible apply w_iteNo); (focus (exact rfl)))
  | ((with_reducible apply w_lenL); (focus (walk_at "sq"; done)))
  | ((with_reducible apply w_lenT); (focus (walk_at "hp"; done)))
  | ((with_reducible apply w_lenS); (focus (walk_at "sz"; done)))
  | with_reducible apply w_lc
  | with_reducible apply w_for
  | with_reducible apply w_yes
  | ((with_reducible apply w_wipe); (focus (exact rfl)))
  | with_reducible apply w_iList
  | with_reducible apply w_iTup
  | with_reducible apply w_iStr
  | with_reducible apply w_iRng1
  | with_reducible apply w_iRng2
  | with_reducible apply w_iZip
  | with_reducible apply w_iEnum
  | ((with_reducible apply d_iList); (focus (walk_at "sq"; done)))
  | ((with_reducible apply d_iTup); (focus (walk_at "hp"; done)))
  | with_reducible apply d_iStr
  | ((with_reducible apply d_iRng1); (focus (walk_at "num"; done)); (focus (walk_at "num"; done)))
  | ((with_reducible apply d_iRng2); (focus (walk_at "num"; done)); (focus (walk_at "num"; done)); (focus (walk_at "num"; done)); (focus (walk_at "num"; done)))
  | ((with_reducible apply d_iZip); (focus (walk_at "sq"; done)); (focus (walk_at "sq"; done)))
  | ((with_reducible apply d_iEnum); (focus (walk_at "sq"; done)))
  | walk_at "w2")
local macro_rules | `(tactic| walk_at "w2") => `(tactic| fail)
local macro_rules | `(tactic| walk_at "wn") => `(tactic| repeat walk_at "w1")
local macro_rules | `(tactic| walk_at "w") => `(tactic| repeat (first | walk_at "w1" | with_reducible apply w_ret))
local macro_rules | `(tactic| walk_at "w2") => `(tactic| first
  | ((with_reducible apply w_isInt); (focus (walk_at "r"; done)))
  | ((with_reducible apply w_isBool); (focus (walk_at "r"; done)))
  | ((with_reducible apply w_isStr); (focus (walk_at "r"; done)))
  | ((with_reducible apply w_isTup); (focus (walk_at "r"; done)))
  | ((with_reducible apply w_isLst); (focus (walk_at "r"; done)))
  | with_reducible apply w_fld
  | with_reducible apply w_sfld
  | with_reducible apply w_faug
  | with_reducible apply w_rAdd
  | with_reducible apply w_rSub
  | with_reducible apply w_make
  | with_reducible apply w_orT
  | with_reducible apply w_dgetd
  | with_reducible apply w_dgetk
  | with_reducible apply w_dsetd
  | ((with_reducible apply k_dgetd); (focus (walk_at "hp"; done)))
  | ((with_reducible apply k_dsetd); (focus (walk_at "hp"; done)))
  | walk_at "w3")
local macro_rules | `(tactic| walk_at "w3") => `(tactic| fail)
local macro_rules | `(tactic| walk_at "w3") => `(tactic| first
  | with_reducible apply w_mt
  | with_reducible apply w_makeX
  | ((with_reducible apply m_Kind); (focus (walk_at "hp"; done)); (focus (exact rfl)))
  | ((with_reducible apply g_Kind_joining); (focus (assumption; done)); (focus (walk_at "hp"; done)))
  | ((with_reducible apply g_Kind_none); (focus (assumption; done)); (focus (walk_at "hp"; done)))
  | ((with_reducible apply g_Kind_making); (focus (assumption; done)); (focus (walk_at "hp"; done)))
  | ((with_reducible apply g_Kind_word); (focus (assumption; done)); (focus (walk_at "hp"; done))))
abbrev PS (K : PySem.W.Frag) : Addr := tabP K "summed"
abbrev PT (K : PySem.W.Frag) : Addr := tabP K "strung"
abbrev QS : Str := "summed.<locals>.<lambda>"
abbrev QT : Str := "strung.<locals>.<lambda>"
/-- the tables are three -/
structure DT (K : PySem.W.Frag) : Prop where
  ks : KP K ≠ PS K
  kt : KP K ≠ PT K
  st : PS K ≠ PT K
end Fg
namespace Fg
open PySem PySem.Spec PyProof.Rows L2 LamX LmX
local macro_rules | `(tactic| walk_at "hp") => `(tactic| first
  | assumption
  | exact upd_same
  | (refine Chg.at (by assumption) ?_; walk_at "hp")
  | (refine Chg.at1 (by assumption) ?_ (by walk_at "ne"); walk_at "hp"))
local macro_rules | `(tactic| walk_at "ne") => `(tactic| first | assumption | (apply Ne.symm; assumption))
local macro_rules | `(tactic| walk_at "sq") => `(tactic| first | assumption | exact sqL (by walk_at "hp") | (refine Chg.seq (by assumption) ?_; walk_at "sq"))
local macro_rules | `(tactic| walk_at "sz") => `(tactic| first | assumption | exact Nat.zero_le _ | (simp only [List.length_cons, List.length_nil]; decide) | exact Nat.le_trans (by first | omega | (simp; done) | (simp; omega)) (show 100000 ≤ sizeLine by decide) | exact Nat.lt_of_lt_of_le (by first | omega | (simp; done) | (simp; omega)) (show 100000 ≤ sizeLine by decide))
local macro_rules | `(tactic| walk_at "ix") => `(tactic| first | exact at0 | exact at1 | exact at2 | exact at3 | assumption | exact rfl | walk_at "ix2")
local macro_rules | `(tactic| walk_at "ix2") => `(tactic| fail)
local macro_rules | `(tactic| walk_at "num") => `(tactic| first | assumption | omega | decide | walk_at "num2")
local macro_rules | `(tactic| walk_at "num2") => `(tactic| fail)
local macro_rules | `(tactic| walk_at "im") => `(tactic| first | assumption | exact R.non (S := fun _ => False) | exact R.bl (S := fun _ => False) _ | exact R.int (S := fun _ => False) _ | exact R.str (S := fun _ => False) _ | (refine R.im (by assumption) ?_; walk_at "im"))
local macro_rules | `(tactic| walk_at "r") => `(tactic| first | assumption | exact R.non (S := fun _ => False) | exact R.bl (S := fun _ => False) _ | exact R.int (S := fun _ => False) _ | exact R.str (S := fun _ => False) _ | (refine R.same (by assumption) ?_; walk_at "r") | exact R.any (by walk_at "im"))
local macro_rules | `(tactic| walk_at "chg") => `(tactic| first
  | exact Chg.refl
  | assumption
  | (refine Chg.same ?_ (by assumption); walk_at "chg")
  | (refine Chg.both ?_ (by assumption); walk_at "chg")
  | (refine Chg.pre (by assumption) ?_; walk_at "chg"))
local macro_rules | `(tactic| walk_at "w1") => `(tactic| first
  | with_reducible apply w_seq
  | with_reducible apply w_asg
  | ((with_reducible apply w_var); (focus (exact rfl)))
  | with_reducible apply w_c
  | with_reducible apply w_op
  | with_reducible apply w_cons
  | with_reducible apply w_nil
  | with_reducible apply w_gName
  | with_reducible apply w_if
  | with_reducible apply w_test
  | with_reducible apply w_B
  | with_reducible apply w_isbl
  | with_reducible apply w_retN
  | with_reducible apply w_next
  | with_reducible apply w_drop
  | with_reducible apply w_cb
  | with_reducible apply w_call
  | with_reducible apply w_callN
  | with_reducible apply w_bm
  | with_reducible apply w_bm0
  | ((with_reducible apply w_tyL); (focus (walk_at "hp"; done)))
  | with_reducible apply w_dput
  | with_reducible apply w_m1
  | with_reducible apply w_isstr
  | with_reducible apply w_and
  | with_reducible apply w_or
  | with_reducible apply w_not
  | with_reducible apply w_andV
  | with_reducible apply w_orV
  | with_reducible apply w_notV
  | with_reducible apply w_ifE
  | with_reducible apply w_chain
  | with_reducible apply w_un
  | with_reducible apply w_neg
  | with_reducible apply w_add
  | with_reducible apply w_sub
  | ((with_reducible apply w_mod); (focus (walk_at "num"; done)))
  | ((with_reducible apply w_mul); (focus (walk_at "num"; done)))
  | ((with_reducible apply w_fdiv); (focus (walk_at "num"; done)))
  | ((with_reducible apply w_pow); (focus (walk_at "num"; done)))
  | with_reducible apply w_lt
  | with_reducible apply w_le
  | with_reducible apply w_gt
  | with_reducible apply w_ge
  | with_reducible apply w_ltS
  | with_reducible apply w_geS
  | with_reducible apply w_inC
  | with_reducible apply w_notInC
  | with_reducible apply w_isN
  | with_reducible apply w_notN
  | with_reducible apply w_isB
  | with_reducible apply w_notB
  | ((with_reducible apply w_addS); (focus (walk_at "sz"; done)))
  | ((with_reducible apply w_ixL); (focus (walk_at "sq"; done)); (focus (walk_at "ix"; done)))
  | ((with_reducible apply w_ixT); (focus (walk_at "hp"; done)); (focus (walk_at "ix"; done)))
  | ((with_reducible apply w_ixS); (focus (walk_at "sz"; done)); (focus (walk_at "ix"; done)))
  | with_reducible apply w_gSub
  | ((with_reducible apply w_gTup); (focus (walk_at "hp"; done)); (focus (exact rfl)))
  | with_reducible apply w_gCons
  | with_reducible apply w_gNil
  | ((with_reducible apply w_aug); (focus (exact rfl)))
  | with_reducible apply w_ipI
  | ((with_reducible apply w_eq); (focus (exact rfl)))
  | ((with_reducible apply w_ne); (focus (exact rfl)))
  | with_reducible apply w_max
  | with_reducible apply w_min
  | with_reducible apply w_abs
  | with_reducible apply w_intB
  | with_reducible apply w_intI
  | with_reducible apply w_tup1
  | with_reducible apply w_lst1
  | with_reducible apply w_sl
  | with_reducible apply w_part
  | with_reducible apply w_noPart
  | with_reducible apply w_isint
  | ((with_reducible apply w_slS); (focus (walk_at "sz"; done)))
  | with_reducible apply w_iteT
  | with_reducible apply w_iteF
  | with_reducible apply w_iteN
  | ((with_reducible apply w_iteYes); (focus (exact rfl)))
  | ((with_reducible apply w_iteNo); (focus (exact rfl)))
  | ((with_reducible apply w_lenL); (focus (walk_at "sq"; done)))
  | ((with_reducible apply w_lenT); (focus (walk_at "hp"; done)))
  | ((with_reducible apply w_lenS); (focus (walk_at "sz"; done)))
  | with_reducible apply w_lc
  | with_reducible apply w_for
  | with_reducible apply w_yes
  | ((with_reducible apply w_wipe); (focus (exact rfl)))
  | with_reducible apply w_iList
  | with_reducible apply w_iTup
  | with_reducible apply w_iStr
  | with_reducible apply w_iRng1
  | with_reducible apply w_iRng2
  | with_reducible apply w_iZip
  | with_reducible apply w_iEnum
  | ((with_reducible apply d_iList); (focus (walk_at "sq"; done)))
  | ((with_reducible apply d_iTup); (focus (walk_at "hp"; done)))
  | with_reducible apply d_iStr
  | ((with_reducible apply d_iRng1); (focus (walk_at "num"; done)); (focus (walk_at "num"; done)))
  | ((with_reducible apply d_iRng2); (focus (walk_at "num"; done)); (focus (walk_at "num"; done)); (focus (walk_at "num"; done)); (focus (walk_at "num"; done)))
  | ((with_reducible apply d_iZip); (focus (walk_at "sq"; done)); (focus (walk_at "sq"; done)))
  | ((with_reducible apply d_iEnum); (focus (walk_at "sq"; done)))
  | walk_at "w2")
local macro_rules | `(tactic| walk_at "w2") => `(tactic| fail)
local macro_rules | `(tactic| walk_at "wn") => `(tactic| repeat walk_at "w1")
local macro_rules | `(tactic| walk_at "w") => `(tactic| repeat (first | walk_at "w1" | with_reducible apply w_ret))
local macro_rules | `(tactic| walk_at "w2") => `(tactic| first
  | ((with_reducible apply w_isInt); (focus (walk_at "r"; done)))
  | ((with_reducible apply w_isBool); (focus (walk_at "r"; done)))
  | ((with_reducible apply w_isStr); (focus (walk_at "r"; done)))
  | ((with_reducible apply w_isTup); (focus (walk_at "r"; done)))
  | ((with_reducible apply w_isLst); (focus (walk_at "r"; done)))
  | with_reducible apply w_fld
  | with_reducible apply w_sfld
  | with_reducible apply w_faug
  | with_reducible apply w_rAdd
  | with_reducible apply w_rSub
  | with_reducible apply w_make
  | with_reducible apply w_orT
  | with_reducible apply w_dgetd
  | with_reducible apply w_dgetk
  | with_reducible apply w_dsetd
  | ((with_reducible apply k_dgetd); (focus (walk_at "hp"; done)))
  | ((with_reducible apply k_dsetd); (focus (walk_at "hp"; done)))
  | walk_at "w3")
local macro_rules | `(tactic| walk_at "w3") => `(tactic| fail)
local macro_rules | `(tactic| walk_at "w3") => `(tactic| first
  | with_reducible apply w_mt
  | with_reducible apply w_makeX
  | ((with_reducible apply m_Kind); (focus (walk_at "hp"; done)); (focus (exact rfl)))
  | ((with_reducible apply g_Kind_joining); (focus (assumption; done)); (focus (walk_at "hp"; done)))
  | ((with_reducible apply g_Kind_none); (focus (assumption; done)); (focus (walk_at "hp"; done)))
  | ((with_reducible apply g_Kind_making); (focus (assumption; done)); (focus (walk_at "hp"; done)))
  | ((with_reducible apply g_Kind_word); (focus (assumption; done)); (focus (walk_at "hp"; done))))
/-- what groups tells: None, or a tuple of places -/
def GD (d : PyData) : Prop := d = .none ∨ ∃ xs : List Int, d = .tuple (xs.map PyData.int) ∧ xs.length ≤ 3
theorem GD.ok {d : PyData} (h : GD d) : noDic d = true ∧ d.depth ≤ 60 := by
  rcases h with rfl | ⟨xs, rfl, _⟩
  · exact ⟨rfl, (by decide : 0 ≤ 60)⟩
  · refine ⟨noDic_ints xs, ?_⟩
    show PyData.depthAll (xs.map PyData.int) + 1 ≤ 60
    rw [depthAll_ints]
    decide
theorem w_neS {H : Hp} {Q : VK} {x y : V} {d : PyData} {S S' : Addr → Prop} (rx : R S H x d) (ry : R S' H y d) (h1 : noDic d = true) (h2 : d.depth ≤ 60) (q : Q (.bl false) H) : oNeD x y H Q := by
  refine w_neD rx ry h1 h1 (by omega) ?_
  rw [eqv_self d h1]
  exact q
theorem ints_ok (ns : List Int) : noDic (.list (ns.map PyData.int)) = true ∧ (PyData.list (ns.map PyData.int)).depth ≤ 60 := by
  refine ⟨noDics_of fun d hd => by obtain ⟨i, _, rfl⟩ := List.mem_map.mp hd; rfl, ?_⟩
  show PyData.depthAll (ns.map PyData.int) + 1 ≤ 60
  rw [depthAll_ints]
  decide
end Fg
namespace Fg
open PySem PySem.Spec PyProof.Rows L2 LamX LmX
local macro_rules | `(tactic| walk_at "hp") => `(tactic| first
  | assumption
  | exact upd_same
  | (refine Chg.at (by assumption) ?_; walk_at "hp")
  | (refine Chg.at1 (by assumption) ?_ (by walk_at "ne"); walk_at "hp"))
local macro_rules | `(tactic| walk_at "ne") => `(tactic| first | assumption | (apply Ne.symm; assumption))
local macro_rules | `(tactic| walk_at "sq") => `(tactic| first | assumption | exact sqL (by walk_at "hp") | (refine Chg.seq (by assumption) ?_; walk_at "sq"))
local macro_rules | `(tactic| walk_at "sz") => `(tactic| first | assumption | exact Nat.zero_le _ | (simp only [List.length_cons, List.length_nil]; decide) | exact Nat.le_trans (by first | omega | (simp; done) | (simp; omega)) (show 100000 ≤ sizeLine by decide) | exact Nat.lt_of_lt_of_le (by first | omega | (simp; done) | (simp; omega)) (show 100000 ≤ sizeLine by decide))
local macro_rules | `(tactic| walk_at "ix") => `(tactic| first | exact at0 | exact at1 | exact at2 | exact at3 | assumption | exact rfl | walk_at "ix2")
local macro_rules | `(tactic| walk_at "ix2") => `(tactic| fail)
local macro_rules | `(tactic| walk_at "num") => `(tactic| first | assumption | omega | decide | walk_at "num2")
local macro_rules | `(tactic| walk_at "num2") => `(tactic| fail)
local macro_rules | `(tactic| walk_at "im") => `(tactic| first | assumption | exact R.non (S := fun _ => False) | exact R.bl (S := fun _ => False) _ | exact R.int (S := fun _ => False) _ | exact R.str (S := fun _ => False) _ | (refine R.im (by assumption) ?_; walk_at "im"))
local macro_rules | `(tactic| walk_at "r") => `(tactic| first | assumption | exact R.non (S := fun _ => False) | exact R.bl (S := fun _ => False) _ | exact R.int (S := fun _ => False) _ | exact R.str (S := fun _ => False) _ | (refine R.same (by assumption) ?_; walk_at "r") | exact R.any (by walk_at "im"))
local macro_rules | `(tactic| walk_at "chg") => `(tactic| first
  | exact Chg.refl
  | assumption
  | (refine Chg.same ?_ (by assumption); walk_at "chg")
  | (refine Chg.both ?_ (by assumption); walk_at "chg")
  | (refine Chg.pre (by assumption) ?_; walk_at "chg"))
local macro_rules | `(tactic| walk_at "w1") => `(tactic| first
  | with_reducible apply w_seq
  | with_reducible apply w_asg
  | ((with_reducible apply w_var); (focus (exact rfl)))
  | with_reducible apply w_c
  | with_reducible apply w_op
  | with_reducible apply w_cons
  | with_reducible apply w_nil
  | with_reducible apply w_gName
  | with_reducible apply w_if
  | with_reducible apply w_test
  | with_reducible apply w_B
  | with_reducible apply w_isbl
  | with_reducible apply w_retN
  | with_reducible apply w_next
  | with_reducible apply w_drop
  | with_reducible apply w_cb
  | with_reducible apply w_call
  | with_reducible apply w_callN
  | with_reducible apply w_bm
  | with_reducible apply w_bm0
  | ((with_reducible apply w_tyL); (focus (walk_at "hp"; done)))
  | with_reducible apply w_dput
  | with_reducible apply w_m1
  | with_reducible apply w_isstr
  | with_reducible apply w_and
  | with_reducible apply w_or
  | with_reducible apply w_not
  | with_reducible apply w_andV
  | with_reducible apply w_orV
  | with_reducible apply w_notV
  | with_reducible apply w_ifE
  | with_reducible apply w_chain
  | with_reducible apply w_un
  | with_reducible apply w_neg
  | with_reducible apply w_add
  | with_reducible apply w_sub
  | ((with_reducible apply w_mod); (focus (walk_at "num"; done)))
  | ((with_reducible apply w_mul); (focus (walk_at "num"; done)))
  | ((with_reducible apply w_fdiv); (focus (walk_at "num"; done)))
  | ((with_reducible apply w_pow); (focus (walk_at "num"; done)))
  | with_reducible apply w_lt
  | with_reducible apply w_le
  | with_reducible apply w_gt
  | with_reducible apply w_ge
  | with_reducible apply w_ltS
  | with_reducible apply w_geS
  | with_reducible apply w_inC
  | with_reducible apply w_notInC
  | with_reducible apply w_isN
  | with_reducible apply w_notN
  | with_reducible apply w_isB
  | with_reducible apply w_notB
  | ((with_reducible apply w_addS); (focus (walk_at "sz"; done)))
  | ((with_reducible apply w_ixL); (focus (walk_at "sq"; done)); (focus (walk_at "ix"; done)))
  | ((with_reducible apply w_ixT); (focus (walk_at "hp"; done)); (focus (walk_at "ix"; done)))
  | ((with_reducible apply w_ixS); (focus (walk_at "sz"; done)); (focus (walk_at "ix"; done)))
  | with_reducible apply w_gSub
  | ((with_reducible apply w_gTup); (focus (walk_at "hp"; done)); (focus (exact rfl)))
  | with_reducible apply w_gCons
  | with_reducible apply w_gNil
  | ((with_reducible apply w_aug); (focus (exact rfl)))
  | with_reducible apply w_ipI
  | ((with_reducible apply w_eq); (focus (exact rfl)))
  | ((with_reducible apply w_ne); (focus (exact rfl)))
  | with_reducible apply w_max
  | with_reducible apply w_min
  | with_reducible apply w_abs
  | with_reducible apply w_intB
  | with_reducible apply w_intI
  | with_reducible apply w_tup1
  | with_reducible apply w_lst1
  | with_reducible apply w_sl
  | with_reducible apply w_part
  | with_reducible apply w_noPart
  | with_reducible apply w_isint
  | ((with_reducible apply w_slS); (focus (walk_at "sz"; done)))
  | with_reducible apply w_iteT
  | with_reducible apply w_iteF
  | with_reducible apply w_iteN
  | ((with_reducible apply w_iteYes); (focus (exact rfl)))
  | ((with_reducible apply w_iteNo); (focus (exact rfl)))
  | ((with_reducible apply w_lenL); (focus (walk_at "sq"; done)))
  | ((with_reducible apply w_lenT); (focus (walk_at "hp"; done)))
  | ((with_reducible apply w_lenS); (focus (walk_at "sz"; done)))
  | with_reducible apply w_lc
  | with_reducible apply w_for
  | with_reducible apply w_yes
  | ((with_reducible apply w_wipe); (focus (exact rfl)))
  | with_reducible apply w_iList
  | with_reducible apply w_iTup
  | with_reducible apply w_iStr
  | with_reducible apply w_iRng1
  | with_reducible apply w_iRng2
  | with_reducible apply w_iZip
  | with_reducible apply w_iEnum
  | ((with_reducible apply d_iList); (focus (walk_at "sq"; done)))
  | ((with_reducible apply d_iTup); (focus (walk_at "hp"; done)))
  | with_reducible apply d_iStr
  | ((with_reducible apply d_iRng1); (focus (walk_at "num"; done)); (focus (walk_at "num"; done)))
  | ((with_reducible apply d_iRng2); (focus (walk_at "num"; done)); (focus (walk_at "num"; done)); (focus (walk_at "num"; done)); (focus (walk_at "num"; done)))
  | ((with_reducible apply d_iZip); (focus (walk_at "sq"; done)); (focus (walk_at "sq"; done)))
  | ((with_reducible apply d_iEnum); (focus (walk_at "sq"; done)))
  | walk_at "w2")
local macro_rules | `(tactic| walk_at "w2") => `(tactic| fail)
local macro_rules | `(tactic| walk_at "wn") => `(tactic| repeat walk_at "w1")
local macro_rules | `(tactic| walk_at "w") => `(tactic| repeat (first | walk_at "w1" | with_reducible apply w_ret))
local macro_rules | `(tactic| walk_at "w2") => `(tactic| first
  | ((with_reducible apply w_isInt); (focus (walk_at "r"; done)))
  | ((with_reducible apply w_isBool); (focus (walk_at "r"; done)))
  | ((with_reducible apply w_isStr); (focus (walk_at "r"; done)))
  | ((with_reducible apply w_isTup); (focus (walk_at "r"; done)))
  | ((with_reducible apply w_isLst); (focus (walk_at "r"; done)))
  | with_reducible apply w_fld
  | with_reducible apply w_sfld
  | with_reducible apply w_faug
  | with_reducible apply w_rAdd
  | with_reducible apply w_rSub
  | with_reducible apply w_make
  | with_reducible apply w_orT
  | with_reducible apply w_dgetd
  | with_reducible apply w_dgetk
  | with_reducible apply w_dsetd
  | ((with_reducible apply k_dgetd); (focus (walk_at "hp"; done)))
  | ((with_reducible apply k_dsetd); (focus (walk_at "hp"; done)))
  | walk_at "w3")
local macro_rules | `(tactic| walk_at "w3") => `(tactic| fail)
local macro_rules | `(tactic| walk_at "w3") => `(tactic| first
  | with_reducible apply w_mt
  | with_reducible apply w_makeX
  | ((with_reducible apply m_Kind); (focus (walk_at "hp"; done)); (focus (exact rfl)))
  | ((with_reducible apply g_Kind_joining); (focus (assumption; done)); (focus (walk_at "hp"; done)))
  | ((with_reducible apply g_Kind_none); (focus (assumption; done)); (focus (walk_at "hp"; done)))
  | ((with_reducible apply g_Kind_making); (focus (assumption; done)); (focus (walk_at "hp"; done)))
  | ((with_reducible apply g_Kind_word); (focus (assumption; done)); (focus (walk_at "hp"; done))))
def sp__law_same (K : PySem.W.Frag) : Sp := fun vs H Q _ => ∃ (x y : V) (d : PyData) (S S' : Addr → Prop), vs = [x, y] ∧ R S H x d ∧ R S' H y d ∧ noDic d = true ∧ d.depth ≤ 60 ∧ Q (.bl true) H
def t__law_same (K : PySem.W.Frag) : TS :=
    tRet (tAndV (tOp oEqD (tVar 0) (tVar 1)) (tOp rEq (tCB (rIsi K) (tCons (tVar 0) (tCons (tC (.ty "bool")) (tNil)))) (tCB (rIsi K) (tCons (tVar 1) (tCons (tC (.ty "bool")) (tNil))))))
theorem pure__law_same {K : PySem.W.Frag} (vs : List V) (H : Hp) (Q : VK) (E : XK) (hh : sp__law_same K vs H Q E) : t__law_same K (fin Q) (start ["found", "due"] vs) H := by
  obtain ⟨x, y, d, S, S', rfl, rx, ry, h1, h2, q⟩ := hh
  show t__law_same K _ [some x, some y] H
  unfold t__law_same
  walk_at "w"
  refine w_eqD rx ry h1 h1 (by omega) ?_
  rw [eqv_self d h1]
  walk_at "w"
  rw [decide_eq_true rfl]
  exact q
/-- the views at V0, the lists are new -/
def VwsNew (H0 H : Hp) (V0 : Addr) (vss : List (List (Str × Int))) : Prop := ∃ rs : List Addr, H V0 = some (.lst (rs.map V.ref)) ∧ rs.length = vss.length ∧ (∀ r ∈ rs, H0 r = none ∧ r ≠ V0) ∧ ∀ (k : Nat) r vw, rs[k]? = some r → vss[k]? = some vw → ∃ us, H r = some (.lst us) ∧ ImA H us (vw.map pSD)
theorem VwsNew.at_ {H0 H : Hp} {V0 : Addr} {vss : List (List (Str × Int))} (h : VwsNew H0 H V0 vss) : VwsAt H V0 vss := by
  obtain ⟨rs, h1, h2, _, h3⟩ := h
  exact ⟨rs, h1, h2, h3⟩
end Fg
namespace Fg
open PySem PySem.Spec PyProof.Rows L2
section
section
variable {P : Program} {w : World} {K : PySem.W.Frag} {mg : Str → Option Value} {base : Heap} {x C qual : Str} {st : Stmt} {f : Addr} {fd : FuncData} {sp : Sp} {k : Nat} {ps : List Str} {dvs : List V}
/-- a new instance by a call with keywords and defaults -/
theorem mkik2_of (n : Nat) (ks : List Str) (gg : List Value → List Value → List Value → List Value) (gV : List V → List V → List V) {params : Arguments} {body : List Stmt} {scope : Scope} (F : FunD K "__init__" qual params body scope dvs [] f fd) (M : Mk K (He.ga K C) f) (ok : FnOk P w K mg base CX0 k f fd ps sp) (gm : mg C = some (.ref (He.ga K C))) (hd : dvs ≠ [])
    (h : ∀ (T : Addr) (kV doc pm : Value) (an : Option Addr) (cdv ct : Value) (us ws its : List Value), us.length = n + 1 → ws.length = ks.length → its.length = dvs.length →
      ∃ k, bindArgs (PySem.W.fnOf "__init__" qual params body scope (.ref T) kV doc pm an cdv ct) ⟨us, ks.zip ws⟩ = seqItems? (.ref T) >>= k ∧ k (some its.toArray) = pure (ps.zip (gg us ws its)))
    (hv : ∀ {vs : List V} {us : List Value} {zs : List V} {ws its : List Value}, Vals vs us → Vals zs ws → Vals dvs its → Vals (gV vs zs) (gg us ws its)) : MkIK P w K mg base k C (He.ga K C) sp n ks gV := by
  obtain ⟨oc, od, dV, kV, doc, pm, an, cdv, ct, osl, rfl, lk, hcd, hD, hK⟩ := F.ex
  rcases hD with ⟨e, _⟩ | ⟨_, T, o, its, m, rfl, lT, oT, rT⟩
  · exact absurd e hd
  · refine ⟨f, _, ps, fun us ws => gg us ws its, M, ok, gm, ⟨fun s us ws X l1 l2 => ?_, fun r rz => hv r rz rT⟩⟩
    obtain ⟨k, e1, e2⟩ := h T kV doc pm an cdv ct us ws its l1 l2 rT.length.symm
    refine BindsTo.of_looks fun M => ?_
    rw [e1]
    exact looks_items X lT oT (.of_pure e2)
end
end
section
structure RpI (P : Program) (w : World) (K : PySem.W.Frag) (mg : Str → Option Value) (base : Heap) (k : Nat) (C : Addr) (sp : Sp) : Prop where
  ex : ∃ (f : Addr) (fd : FuncData) (ps : List Str), FnOk P w K mg base CX0 k f fd ps sp ∧ PySem.W.findIn K (.ref C) "__repr__" = some (some (.ref f)) ∧ PySem.W.isFn K (.ref f) = true ∧ Binds K fd ps []
def cReprI (C : Addr) (sp : Sp) : List V → Hp → VK → Prop := fun xs H Q => ∃ (a dx : Addr) (fs : List (Str × V)), xs = [.ref a] ∧ H a = some (.ins C dx fs) ∧ sp [.ref a] H (fun v H' => ∃ y : Str, v = .str y ∧ Q (.str y) H') E0
theorem p_reprI {X : Cx} {k j : Nat} {C : Addr} {sp : Sp} (L : RpI X.prog X.w X.K X.mg X.base k C sp) (hr : Room j X.A) (hk : k + 1 ≤ j) : CallR X (.builtin "repr") (cReprI C sp) := by
  intro pins s σ H xs us Q I r h
  obtain ⟨f, fd, ps, F, hs, hf, hb⟩ := L.ex
  obtain ⟨a, dx, fs, rfl, ha, hsp⟩ := h
  rw [Vals.ref1 r]
  obtain ⟨mA, J, _⟩ := ins_get I.hok ha
  obtain ⟨od, J, _⟩ := J.look
  have room : Room k X.A.in1 := (hr.mono hk).in1
  have e0 : Env0 X.prog X.w X.K X.mg X.base X.A.in1 X.stack s H := by
    have e := I.env0
    exact ⟨e.frames, e.mod, e.bs, e.bsz, e.funs, e.frf, e.hok, e.bare⟩
  refine Calls.call_function_entry PySem.F.kind_repr PySem.F.plain_repr PySem.F.entry_repr (PySem.F.args_repr1 _) ?_
  unfold Builtin.«repr»
  refine wpAny_bind (m := oneArg "repr" _) (wpAny_pure ?_)
  have hu := room.units
  refine wpAny_bind (wpAny_cRoomFor (by omega) ?_)
  refine wpAny_bind (wpAny_bind (J.type.here ((PySem.W.looks_findIn I.kIn hs).here ?_)))
  show wpAny _ _ (if (some (Value.ref f)).isNone = true then _ else _) _ _ _
  rw [if_neg (by simp)]
  have hl := F.len _ _ _ _ hsp
  have r2 : Vals [V.ref a] [Value.ref a] := .cons rfl .nil
  refine wpAny_bind (m := callSpecialIfBound? (.ref a) (Str.ofString "__repr__") _) (PySem.W.ifBound_K I.kIn J hs hf ?_)
  refine wpAny_call (codeAny_mono (F.run X.A.in1 X.stack s H ⟨[.ref a], []⟩ [.ref a] [.ref a] _ E0 room e0 (by
    have := hb s [.ref a] I.kIn (by simpa using hl)
    simpa using this) r2 hsp) fun r s' hq => ?_)
  cases r with
  | error e => exact (pass0 (X := X) pins σ H s e s' I hq)
  | ok fl =>
    cases fl with
    | ret w =>
      obtain ⟨z, H', I', rz, y, ez, q⟩ := I.after hq
      subst ez
      obtain ⟨t, rfl⟩ := (show ∃ t, w = Value.str y t from rz)
      refine wpAny_bind (PySem.wpAny_isInstance (typeIs_str _ _ _) isSubtype_str_str ?_)
      first
        | exact wpAny_pure ⟨_, rfl, .str y, H', I', ⟨t, rfl⟩, q⟩
        | (rw [if_pos rfl]; exact wpAny_pure ⟨_, rfl, .str y, H', I', ⟨t, rfl⟩, q⟩)
        | (simp only [if_true]; exact wpAny_pure ⟨_, rfl, .str y, H', I', ⟨t, rfl⟩, q⟩)
    | next => exact False.elim hq
    | brk => exact False.elim hq
    | cont => exact False.elim hq
theorem w_reprI {C : Addr} {sp : Sp} {H : Hp} {Q : VK} {a dx : Addr} {fs : List (Str × V)} (h : H a = some (.ins C dx fs)) (q : sp [.ref a] H (fun v H' => ∃ y : Str, v = .str y ∧ Q (.str y) H') E0) : cReprI C sp [.ref a] H Q := ⟨a, dx, fs, rfl, h, q⟩
section
variable {P : Program} {w : World} {K : PySem.W.Frag} {mg : Str → Option Value} {base : Heap} {qual : Str} {st : Stmt} {fd : FuncData} {sp : Sp} {k : Nat} {ps : List Str}
theorem MtP.rpi {C : Str} (F : MtP K "__repr__" qual st (He.ma K (He.ga K C) "__repr__") fd) (M : Meth K (He.ga K C) "__repr__" (He.ma K (He.ga K C) "__repr__")) (ok : FnOk P w K mg base CX0 k (He.ma K (He.ga K C) "__repr__") fd ps sp)
    (h : ∀ (kV doc pm : Value) (an : Option Addr) (cdv ct : Value) (us : List Value), us.length = ps.length → bindArgs (PySem.W.fnOf "__repr__" qual (defArgs st) (defBody st) (defScope st) .none kV doc pm an cdv ct) ⟨us, []⟩ = pure (ps.zip us)) : RpI P w K mg base k (He.ga K C) sp :=
  ⟨_, fd, ps, ok, M.at_, M.fn, F.bindsN h⟩
end
section
variable {X : Cx} {k j mm : Nat} {x : Str} {C : Addr} {sp : Sp} {ks : List Str} {gV : List V → List V → List V} {p pos : Pos} {kws : List Keyword} {tk : TA}
theorem pe_mkK0 (c : MkIK X.prog X.w X.K X.mg X.base k x C sp 0 ks gV) (hr : Room j X.A) (hk : k + 1 ≤ j) (hg : Gl X x) (hkw : PK X kws tk)
    (hall : (backToKw pos (keywordEach kws X.env)).all (·.1.isSome) = true := by rfl) (hks : (backToKw pos (keywordEach kws X.env)).filterMap (·.1) = ks := by rfl)
    (hdb : (x == ("__debug__" : Str)) = false := by decide)
    (hpl : ((backTo pos (starEach [] X.env)).any (·.1) || (backToKw pos (keywordEach kws X.env)).any (·.1.isNone)) = false := by rfl) (hmm : mm = ks.length := by rfl) :
    PE X (.Call (.Name x p) [] kws pos) (tMakeN C 0 mm sp gV E0 tNil tk) := by
  subst hmm
  obtain ⟨f, fd, ps, g, M, F, hm, b⟩ := c.ex
  exact pe_makeK0 M F (hr.mono hk) hg hm b pass0 hkw hall hks hdb hpl
end
structure MtK (P : Program) (w : World) (K : PySem.W.Frag) (mg : Str → Option Value) (base : Heap) (k : Nat) (C : Addr) (m : Str) (sp : Sp) (n : Nat) (ks : List Str) (gV : List V → List V → List V) : Prop where
  ex : ∃ (f : Addr) (fd : FuncData) (ps : List Str) (g : List Value → List Value → List Value), FnOk P w K mg base CX0 k f fd ps sp ∧ Cls K C ∧ Meth K C m f ∧ KBn K fd ps (n + 1) ks g gV
def tMethN (C : Addr) (m : Str) (n mm : Nat) (sp : Sp) (gV : List V → List V → List V) (E : XK) (ta : TE) (t tk : TA) : TE := fun σ H Q => ta σ H fun x H1 => ∃ a dx fs, x = .ref a ∧ H1 a = some (.ins C dx fs) ∧ fs.lookup m = none ∧
  t σ H1 fun vs H2 => tk σ H2 fun zs H3 => vs.length = n ∧ zs.length = mm ∧ sp (gV (x :: vs) zs) H3 Q E
section
variable {X : Cx} {k j n mm : Nat} {m : Str} {C : Addr} {sp : Sp} {ks : List Str} {gV : List V → List V → List V} {pos apos : Pos} {o e : Expr} {es : List Expr} {kws : List Keyword} {ta : TE} {t tk : TA} {pl : Sem Bool}
theorem pe_mtK0 (c : MtK X.prog X.w X.K X.mg X.base k C m sp 0 ks gV) (hr : Room j X.A) (hk : k ≤ j) (he : PE X o ta) (hkw : PK X kws tk)
    (hall : (backToKw pos (keywordEach kws X.env)).all (·.1.isSome) = true := by rfl) (hks : (backToKw pos (keywordEach kws X.env)).filterMap (·.1) = ks := by rfl)
    (hpl : ((backTo pos (starEach [] X.env)).any (·.1) || (backToKw pos (keywordEach kws X.env)).any (·.1.isNone)) = false := by rfl) (hmm : mm = ks.length := by rfl)
    (ht : eval (.Call (.Attribute o m apos) [] kws pos) X.env = (do
      let ov ← eval o X.env
      standAt apos.atName
      let (f, first) ← holding [ov] (getMethod ov m pl)
      callWith pos f first (backTo pos (starEach [] X.env)) (backToKw pos (keywordEach kws X.env))) := by rfl) :
    PE X (.Call (.Attribute o m apos) [] kws pos) (tMethN C m 0 mm sp gV E0 ta tNil tk) := by
  subst hmm
  obtain ⟨f, fd, ps, g, F, cl, hm, b⟩ := c.ex
  refine ⟨fun pins s σ H Q I h => ?_⟩
  refine PySem.W.methodCall_KW (pl := pl) (thn (he.run pins s σ H _ I h) fun u s1 ⟨x, H1, I1, rx, a, dx, fs, ex, ea, l, q⟩ => ?_) ht
  subst ex
  obtain rfl : u = Value.ref a := rx
  refine getmeth_ok I1 ea cl hm l ?_
  refine PySem.W.callWith_KW0 (first := [.ref a]) (h₀ := X.base) I.ok.mod.kin hm.kp hall ?_ hpl
  refine thn (hkw.run pos pins s1 σ H1 _ I1 q) fun ws s2 ⟨zs, H2, I2, rz, l1, l2, q2⟩ => ⟨I2.kIn, ?_⟩
  rw [hks]
  exact run_fnN (us := [.ref a]) (vs := [.ref a]) F (hr.mono hk) b pass0 I2 (.cons rfl .nil) rz rfl l2 q2
theorem w_mtN {σ : L2.St} {H : Hp} {Q : VK} {E : XK} (h : ta σ H fun x H1 => ∃ a dx fs, x = .ref a ∧ H1 a = some (.ins C dx fs) ∧ fs.lookup m = none ∧ t σ H1 fun vs H2 => tk σ H2 fun zs H3 => vs.length = n ∧ zs.length = mm ∧ sp (gV (x :: vs) zs) H3 Q E) : tMethN C m n mm sp gV E ta t tk σ H Q := h
end
section
variable {P : Program} {w : World} {K : PySem.W.Frag} {mg : Str → Option Value} {base : Heap} {x C m qual : Str} {st : Stmt} {f : Addr} {fd : FuncData} {sp : Sp} {k : Nat} {ps : List Str}
theorem mtkn_of (n : Nat) (ks : List Str) (gg : List Value → List Value → List Value) (gV : List V → List V → List V) (F : MtP K m qual st (He.ma K (He.ga K C) m) fd) (cl : Cls K (He.ga K C)) (M : Meth K (He.ga K C) m (He.ma K (He.ga K C) m)) (ok : FnOk P w K mg base CX0 k (He.ma K (He.ga K C) m) fd ps sp)
    (h : ∀ (kV doc pm : Value) (an : Option Addr) (cdv ct : Value) (us ws : List Value), us.length = n + 1 → ws.length = ks.length → bindArgs (PySem.W.fnOf m qual (defArgs st) (defBody st) (defScope st) .none kV doc pm an cdv ct) ⟨us, ks.zip ws⟩ = pure (ps.zip (gg us ws)))
    (hv : ∀ {vs : List V} {us : List Value} {zs : List V} {ws : List Value}, Vals vs us → Vals zs ws → Vals (gV vs zs) (gg us ws)) : MtK P w K mg base k (He.ga K C) m sp n ks gV := by
  obtain ⟨oc, od, dV, kV, doc, pm, an, cdv, ct, osl, rfl, lk, hcd, hD, hK⟩ := F.ex
  rcases hD with ⟨_, rfl⟩ | ⟨e, _⟩
  · exact ⟨_, _, ps, gg, ok, cl, M, ⟨fun s us ws _ l1 l2 => .of_eq (h kV doc pm an cdv ct us ws l1 l2), fun r rz => hv r rz⟩⟩
  · exact absurd rfl e
end
end
section
section
variable {X : Cx} {pins : List (Addr × Obj)} {σ : L2.St} {H : Hp} {s : Shared}
def oNeE : R2 := fun x y H Q => ∃ (p q : Addr) (xs : List V), x = .ref p ∧ y = .ref q ∧ H p = some (.lst xs) ∧ H q = some (.lst []) ∧ Q (.bl (!xs.isEmpty)) H
theorem p_neE (hu : X.A.units + 64 < cLine) : OpR X (compareOp .NotEq) oNeE := by
  intro pins s σ H x y v u Q I rx ry h
  obtain ⟨p, q, xs, rfl, rfl, h1, h2, hq⟩ := h
  cases (show v = Value.ref p from rx)
  cases (show u = Value.ref q from ry)
  have hu0 : X.A.units < cLine := by omega
  obtain ⟨i1, r1, l1⟩ := lstAt I h1
  obtain ⟨i2, r2, l2⟩ := lstAt I h2
  cases r2
  cases r1 with
  | nil => exact (SeqAt.RcNeAt.lists (e := fun _ => true) l1 l2 rfl hu0 fun j h1 h2 => absurd h1 (by simp)) X.prog X.w X.xe _ ⟨.bl false, H, I, rfl, hq⟩
  | cons a b => exact (SeqAt.RcNeAt.lists_lengths l1 l2 (by simp) hu0) X.prog X.w X.xe _ ⟨.bl true, H, I, rfl, hq⟩
theorem w_neE {Q : VK} {p q : Addr} {xs : List V} (h1 : H p = some (.lst xs)) (h2 : H q = some (.lst [])) (k : Q (.bl (!xs.isEmpty)) H) : oNeE (.ref p) (.ref q) H Q := ⟨p, q, xs, rfl, rfl, h1, h2, k⟩
end
end
end Fg
namespace Fg
open PySem PySem.Spec PyProof.Rows L2 LamX LmX
local macro_rules | `(tactic| walk_at "hp") => `(tactic| first
  | assumption
  | exact upd_same
  | (refine Chg.at (by assumption) ?_; walk_at "hp")
  | (refine Chg.at1 (by assumption) ?_ (by walk_at "ne"); walk_at "hp"))
local macro_rules | `(tactic| walk_at "ne") => `(tactic| first | assumption | (apply Ne.symm; assumption))
local macro_rules | `(tactic| walk_at "sq") => `(tactic| first | assumption | exact sqL (by walk_at "hp") | (refine Chg.seq (by assumption) ?_; walk_at "sq"))
local macro_rules | `(tactic| walk_at "sz") => `(tactic| first | assumption | exact Nat.zero_le _ | (simp only [List.length_cons, List.length_nil]; decide) | exact Nat.le_trans (by first | omega | (simp; done) | (simp; omega)) (show 100000 ≤ sizeLine by decide) | exact Nat.lt_of_lt_of_le (by first | omega | (simp; done) | (simp; omega)) (show 100000 ≤ sizeLine by decide))
local macro_rules | `(tactic| walk_at "ix") => `(tactic| first | exact at0 | exact at1 | exact at2 | exact at3 | assumption | exact rfl | walk_at "ix2")
local macro_rules | `(tactic| walk_at "ix2") => `(tactic| fail)
local macro_rules | `(tactic| walk_at "num") => `(tactic| first | assumption | omega | decide | walk_at "num2")
local macro_rules | `(tactic| walk_at "num2") => `(tactic| fail)
local macro_rules | `(tactic| walk_at "im") => `(tactic| first | assumption | exact R.non (S := fun _ => False) | exact R.bl (S := fun _ => False) _ | exact R.int (S := fun _ => False) _ | exact R.str (S := fun _ => False) _ | (refine R.im (by assumption) ?_; walk_at "im"))
local macro_rules | `(tactic| walk_at "r") => `(tactic| first | assumption | exact R.non (S := fun _ => False) | exact R.bl (S := fun _ => False) _ | exact R.int (S := fun _ => False) _ | exact R.str (S := fun _ => False) _ | (refine R.same (by assumption) ?_; walk_at "r") | exact R.any (by walk_at "im"))
local macro_rules | `(tactic| walk_at "chg") => `(tactic| first
  | exact Chg.refl
  | assumption
  | (refine Chg.same ?_ (by assumption); walk_at "chg")
  | (refine Chg.both ?_ (by assumption); walk_at "chg")
  | (refine Chg.pre (by assumption) ?_; walk_at "chg"))
local macro_rules | `(tactic| walk_at "w1") => `(tactic| first
  | with_reducible apply w_seq
  | with_reducible apply w_asg
  | ((with_reducible apply w_var); (focus (exact rfl)))
  | with_reducible apply w_c
  | with_reducible apply w_op
  | with_reducible apply w_cons
  | with_reducible apply w_nil
  | with_reducible apply w_gName
  | with_reducible apply w_if
  | with_reducible apply w_test
  | with_reducible apply w_B
  | with_reducible apply w_isbl
  | with_reducible apply w_retN
  | with_reducible apply w_next
  | with_reducible apply w_drop
  | with_reducible apply w_cb
  | with_reducible apply w_call
  | with_reducible apply w_callN
  | with_reducible apply w_bm
  | with_reducible apply w_bm0
  | ((with_reducible apply w_tyL); (focus (walk_at "hp"; done)))
  | with_reducible apply w_dput
  | with_reducible apply w_m1
  | with_reducible apply w_isstr
  | with_reducible apply w_and
  | with_reducible apply w_or
  | with_reducible apply w_not
  | with_reducible apply w_andV
  | with_reducible apply w_orV
  | with_reducible apply w_notV
  | with_reducible apply w_ifE
  | with_reducible apply w_chain
  | with_reducible apply w_un
  | with_reducible apply w_neg
  | with_reducible apply w_add
  | with_reducible apply w_sub
  | ((with_reducible apply w_mod); (focus (walk_at "num"; done)))
  | ((with_reducible apply w_mul); (focus (walk_at "num"; done)))
  | ((with_reducible apply w_fdiv); (focus (walk_at "num"; done)))
  | ((with_reducible apply w_pow); (focus (walk_at "num"; done)))
  | with_reducible apply w_lt
  | with_reducible apply w_le
  | with_reducible apply w_gt
  | with_reducible apply w_ge
  | with_reducible apply w_ltS
  | with_reducible apply w_geS
  | with_reducible apply w_inC
  | with_reducible apply w_notInC
  | with_reducible apply w_isN
  | with_reducible apply w_notN
  | with_reducible apply w_isB
  | with_reducible apply w_notB
  | ((with_reducible apply w_addS); (focus (walk_at "sz"; done)))
  | ((with_reducible apply w_ixL); (focus (walk_at "sq"; done)); (focus (walk_at "ix"; done)))
  | ((with_reducible apply w_ixT); (focus (walk_at "hp"; done)); (focus (walk_at "ix"; done)))
  | ((with_reducible apply w_ixS); (focus (walk_at "sz"; done)); (focus (walk_at "ix"; done)))
  | with_reducible apply w_gSub
  | ((with_reducible apply w_gTup); (focus (walk_at "hp"; done)); (focus (exact rfl)))
  | with_reducible apply w_gCons
  | with_reducible apply w_gNil
  | ((with_reducible apply w_aug); (focus (exact rfl)))
  | with_reducible apply w_ipI
  | ((with_reducible apply w_eq); (focus (exact rfl)))
  | ((with_reducible apply w_ne); (focus (exact rfl)))
  | with_reducible apply w_max
  | with_reducible apply w_min
  | with_reducible apply w_abs
  | with_reducible apply w_intB
  | with_reducible apply w_intI
  | with_reducible apply w_tup1
  | with_reducible apply w_lst1
  | with_reducible apply w_sl
  | with_reducible apply w_part
  | with_reducible apply w_noPart
  | with_reducible apply w_isint
  | ((with_reducible apply w_slS); (focus (walk_at "sz"; done)))
  | with_reducible apply w_iteT
  | with_reducible apply w_iteF
  | with_reducible apply w_iteN
  | ((with_reducible apply w_iteYes); (focus (exact rfl)))
  | ((with_reducible apply w_iteNo); (focus (exact rfl)))
  | ((with_reducible apply w_lenL); (focus (walk_at "sq"; done)))
  | ((with_reducible apply w_lenT); (focus (walk_at "hp"; done)))
  | ((with_reducible apply w_lenS); (focus (walk_at "sz"; done)))
  | with_reducible apply w_lc
  | with_reducible apply w_for
  | with_reducible apply w_yes
  | ((with_reducible apply w_wipe); (focus (exact rfl)))
  | with_reducible apply w_iList
  | with_reducible apply w_iTup
  | with_reducible apply w_iStr
  | with_reducible apply w_iRng1
  | with_reducible apply w_iRng2
  | with_reducible apply w_iZip
  | with_reducible apply w_iEnum
  | ((with_reducible apply d_iList); (focus (walk_at "sq"; done)))
  | ((with_reducible apply d_iTup); (focus (walk_at "hp"; done)))
  | with_reducible apply d_iStr
  | ((with_reducible apply d_iRng1); (focus (walk_at "num"; done)); (focus (walk_at "num"; done)))
  | ((with_reducible apply d_iRng2); (focus (walk_at "num"; done)); (focus (walk_at "num"; done)); (focus (walk_at "num"; done)); (focus (walk_at "num"; done)))
  | ((with_reducible apply d_iZip); (focus (walk_at "sq"; done)); (focus (walk_at "sq"; done)))
  | ((with_reducible apply d_iEnum); (focus (walk_at "sq"; done)))
  | walk_at "w2")
local macro_rules | `(tactic| walk_at "w2") => `(tactic| fail)
local macro_rules | `(tactic| walk_at "wn") => `(tactic| repeat walk_at "w1")
local macro_rules | `(tactic| walk_at "w") => `(tactic| repeat (first | walk_at "w1" | with_reducible apply w_ret))
local macro_rules | `(tactic| walk_at "w2") => `(tactic| first
  | ((with_reducible apply w_isInt); (focus (walk_at "r"; done)))
  | ((with_reducible apply w_isBool); (focus (walk_at "r"; done)))
  | ((with_reducible apply w_isStr); (focus (walk_at "r"; done)))
  | ((with_reducible apply w_isTup); (focus (walk_at "r"; done)))
  | ((with_reducible apply w_isLst); (focus (walk_at "r"; done)))
  | with_reducible apply w_fld
  | with_reducible apply w_sfld
  | with_reducible apply w_faug
  | with_reducible apply w_rAdd
  | with_reducible apply w_rSub
  | with_reducible apply w_make
  | with_reducible apply w_orT
  | with_reducible apply w_dgetd
  | with_reducible apply w_dgetk
  | with_reducible apply w_dsetd
  | ((with_reducible apply k_dgetd); (focus (walk_at "hp"; done)))
  | ((with_reducible apply k_dsetd); (focus (walk_at "hp"; done)))
  | walk_at "w3")
local macro_rules | `(tactic| walk_at "w3") => `(tactic| fail)
local macro_rules | `(tactic| walk_at "w3") => `(tactic| first
  | with_reducible apply w_mt
  | with_reducible apply w_makeX
  | ((with_reducible apply m_Kind); (focus (walk_at "hp"; done)); (focus (exact rfl)))
  | ((with_reducible apply g_Kind_joining); (focus (assumption; done)); (focus (walk_at "hp"; done)))
  | ((with_reducible apply g_Kind_none); (focus (assumption; done)); (focus (walk_at "hp"; done)))
  | ((with_reducible apply g_Kind_making); (focus (assumption; done)); (focus (walk_at "hp"; done)))
  | ((with_reducible apply g_Kind_word); (focus (assumption; done)); (focus (walk_at "hp"; done))))
/-- a Kind with its word -/
def KwAt (K : PySem.W.Frag) (H : Hp) (a : Addr) (y : Str) : Prop := ∃ dx v0 v1 v2, H a = some (O_Kind K dx v0 v1 v2 (.str y))
theorem KwAt.keep {K : PySem.W.Frag} {M : List Addr} {H H' : Hp} {a : Addr} {y : Str} (c : Chg M H H') (n : NoX M H) (h : KwAt K H a y) : KwAt K H' a y := by
  obtain ⟨dx, v0, v1, v2, h1⟩ := h
  exact ⟨dx, v0, v1, v2, c.keep _ _ h1 fun m => (n _ m).2 _ _ _ h1⟩
theorem KwAt.same {K : PySem.W.Frag} {H H' : Hp} {a : Addr} {y : Str} (c : Chg [] H H') (h : KwAt K H a y) : KwAt K H' a y := h.keep c .nil
/-- a Kind that is told: none is changed but the table of lambdas P -/
def KdToldW (K : PySem.W.Frag) (L : Nat → Addr → LF) (P : Addr) (q wd : Str) (jf : PyData → PyData → Option PyData) (nd : PyData) (mf : Int → Option PyData) : Sp := fun vs H Q _ => vs = [] ∧ TabS H P q ∧ ∃ S : Addr → Prop, (∀ a, H a = none → S a) ∧ ∀ a H', H a = none → Chg [P] H H' → TabS H' P q → KdAt K L S H' a jf nd mf → KwAt K H' a wd → Q (.ref a) H'
def sp_summedW (K : PySem.W.Frag) (L : Nat → Addr → LF) : Sp := KdToldW K L (tabP K "summed") "summed.<locals>.<lambda>" "summed" (jnD 0) (.int 0) fun n => some (.int n)
def t_summedW (K : PySem.W.Frag) (L : Nat → Addr → LmX.LF) : TS :=
    tRet (tMakeN (He.ga K "Kind") 2 1 (sp_Kind___init__ K) (fun vs zs => [vs.getD 0 .non, vs.getD 1 .non, vs.getD 2 .non, .non, zs.getD 0 .non]) E0 (tCons (tLam (tabP K "summed") "summed.<locals>.<lambda>" (L 0)) (tCons (tC (.int 0)) (tNil))) (tCons (tC (.str "summed")) (tNil)))
theorem pure_summedW {K : PySem.W.Frag} {L : Nat → Addr → LF} (C : C_Kind K) (lq : LQ L) (vs : List V) (H : Hp) (Q : VK) (E : XK) (hh : sp_summedW K L vs H Q E) : t_summedW K L (fin Q) (start [] vs) H := by
  obtain ⟨rfl, ht, S, fr, q⟩ := hh
  show t_summedW K L _ [] H
  unfold t_summedW
  walk_at "w"
  refine w_makeN ?_
  walk_at "w"
  refine ⟨ht, fun f c' H1 c1 t1 nf hf hc => ?_⟩
  walk_at "w"
  refine k_makeN rfl rfl fun a dx H2 na nd ne c2 h2 => ?_
  refine ⟨a, dx, .ref f, .int 0, .non, .str "summed", rfl, h2, fun H3 c3 h3 => ⟨rfl, ?_⟩⟩
  have c13 : Chg [] H1 H3 := c2.one c3 na
  have jv : JV K L H1 (.ref f) (jnD 0) := ⟨f, rfl, .inl ⟨0, by decide, by decide, rfl, c', hf, by rw [lq.s]; exact hc⟩⟩
  exact q a H3 (c1.dom a na) (c1.same c13) (tabS_keep c13 .nil (by simp) t1) ⟨dx, _, _, _, _, h3, jv.keep c13 .nil, .int 0, .inl ⟨rfl, rfl⟩⟩ ⟨_, _, _, _, h3⟩
def sp_leastW (K : PySem.W.Frag) (L : Nat → Addr → LF) : Sp := fun vs H Q _ => vs = [] ∧ ∃ S : Addr → Prop, (∀ a, H a = none → S a) ∧ ∀ a H', H a = none → Chg [] H H' → KdAt K L S H' a leD .none (fun n => some (.int n)) → KwAt K H' a "least" → Q (.ref a) H'
def t_leastW (K : PySem.W.Frag) : TS :=
    tRet (tMakeN (He.ga K "Kind") 2 1 (sp_Kind___init__ K) (fun vs zs => [vs.getD 0 .non, vs.getD 1 .non, vs.getD 2 .non, .non, zs.getD 0 .non]) E0 (tCons (tC (.ref (He.ga K "lesser"))) (tCons (tC .non) (tNil))) (tCons (tC (.str "least")) (tNil)))
theorem pure_leastW {K : PySem.W.Frag} {L : Nat → Addr → LF} (C : C_Kind K) (lq : LQ L) (vs : List V) (H : Hp) (Q : VK) (E : XK) (hh : sp_leastW K L vs H Q E) : t_leastW K (fin Q) (start [] vs) H := by
  obtain ⟨rfl, S, fr, q⟩ := hh
  show t_leastW K _ [] H
  unfold t_leastW
  walk_at "w"
  refine w_makeN ?_
  walk_at "w"
  refine k_makeN rfl rfl fun a dx H2 na nd ne c2 h2 => ?_
  refine ⟨a, dx, .ref (He.ga K "lesser"), .non, .non, .str "least", rfl, h2, fun H3 c3 h3 => ⟨rfl, ?_⟩⟩
  exact q a H3 na (c2.one c3 na) ⟨dx, _, _, _, _, h3, ⟨_, rfl, .inr (by simp [SFk])⟩, .non, .inl ⟨rfl, rfl⟩⟩ ⟨_, _, _, _, h3⟩
def sp_latestW (K : PySem.W.Frag) (L : Nat → Addr → LF) : Sp := fun vs H Q _ => vs = [] ∧ ∃ S : Addr → Prop, (∀ a, H a = none → S a) ∧ ∀ a H', H a = none → Chg [] H H' → KdAt K L S H' a lat2 .none (fun n => some (.int n)) → KwAt K H' a "latest" → Q (.ref a) H'
def t_latestW (K : PySem.W.Frag) : TS :=
    tRet (tMakeN (He.ga K "Kind") 2 1 (sp_Kind___init__ K) (fun vs zs => [vs.getD 0 .non, vs.getD 1 .non, vs.getD 2 .non, .non, zs.getD 0 .non]) E0 (tCons (tC (.ref (He.ga K "later"))) (tCons (tC .non) (tNil))) (tCons (tC (.str "latest")) (tNil)))
theorem pure_latestW {K : PySem.W.Frag} {L : Nat → Addr → LF} (C : C_Kind K) (lq : LQ L) (vs : List V) (H : Hp) (Q : VK) (E : XK) (hh : sp_latestW K L vs H Q E) : t_latestW K (fin Q) (start [] vs) H := by
  obtain ⟨rfl, S, fr, q⟩ := hh
  show t_latestW K _ [] H
  unfold t_latestW
  walk_at "w"
  refine w_makeN ?_
  walk_at "w"
  refine k_makeN rfl rfl fun a dx H2 na nd ne c2 h2 => ?_
  refine ⟨a, dx, .ref (He.ga K "later"), .non, .non, .str "latest", rfl, h2, fun H3 c3 h3 => ⟨rfl, ?_⟩⟩
  exact q a H3 na (c2.one c3 na) ⟨dx, _, _, _, _, h3, ⟨_, rfl, .inr (by simp [SFk])⟩, .non, .inl ⟨rfl, rfl⟩⟩ ⟨_, _, _, _, h3⟩
def sp_strungW (K : PySem.W.Frag) (L : Nat → Addr → LF) : Sp := KdToldW K L (tabP K "strung") "strung.<locals>.<lambda>" "strung" (jnD 1) (.str (Str.ofString "")) (mkD 2)
def t_strungW (K : PySem.W.Frag) (L : Nat → Addr → LmX.LF) : TS :=
    tRet (tMake (He.ga K "Kind") (sp_Kind___init__ K) [] E0 (tCons (tLam (tabP K "strung") "strung.<locals>.<lambda>" (L 1)) (tCons (tC (.str "")) (tCons (tLam (tabP K "strung") "strung.<locals>.<lambda>" (L 2)) (tCons (tC (.str "strung")) (tNil))))))
theorem pure_strungW {K : PySem.W.Frag} {L : Nat → Addr → LF} (C : C_Kind K) (lq : LQ L) (vs : List V) (H : Hp) (Q : VK) (E : XK) (hh : sp_strungW K L vs H Q E) : t_strungW K L (fin Q) (start [] vs) H := by
  obtain ⟨rfl, ht, S, fr, q⟩ := hh
  show t_strungW K L _ [] H
  unfold t_strungW
  walk_at "w"
  refine ⟨ht, fun f c' H1 c1 t1 nf hf hc => ?_⟩
  walk_at "w"
  refine ⟨t1, fun f2 c2' H2 c2 t2' nf2 hf2 hc2 => ?_⟩
  walk_at "w"
  refine k_make fun a dx H3 na nd ne c3 h3 => ?_
  refine ⟨a, dx, .ref f, .str (Str.ofString ""), .ref f2, .str "strung", rfl, h3, fun H4 c4 h4 => ⟨rfl, ?_⟩⟩
  have c24 : Chg [] H2 H4 := c3.one c4 na
  have l1 : LmAt L H1 f 1 := ⟨c', hf, by rw [lq.t 1 c' (by decide) (by decide)]; exact hc⟩
  have jv : JV K L H2 (.ref f) (jnD 1) := ⟨f, rfl, .inl ⟨1, by decide, by decide, rfl, l1.keep c2 (noX_tbl t1)⟩⟩
  have mv : MV L H2 (.ref f2) (mkD 2) := .inr ⟨f2, 2, rfl, by decide, rfl, c2', hf2, by rw [lq.t 2 c2' (by decide) (by decide)]; exact hc2⟩
  exact q a H4 (c1.dom a (c2.dom a na)) ((c1.both c2).same c24) (tabS_keep c24 .nil (by simp) t2') ⟨dx, _, _, _, _, h4, jv.keep c24 .nil, .str _, mv.keep c24 .nil⟩ ⟨_, _, _, _, h4⟩
def sp_Kind___repr__ (K : PySem.W.Frag) : Sp := fun vs H Q _ => ∃ (a : Addr) (y : Str), vs = [.ref a] ∧ KwAt K H a y ∧ y.length ≤ 1000 ∧ Q (.str (Str.ofString "Kind(" ++ y ++ Str.ofString ")")) H
def t_Kind___repr__ (K : PySem.W.Frag) : TS :=
    tRet (tJoin [tC (.str "Kind("), tFmt (tFld K (tVar 0) "word"), tC (.str ")")])
theorem pure_Kind___repr__ {K : PySem.W.Frag} (C : C_Kind K) (vs : List V) (H : Hp) (Q : VK) (E : XK) (hh : sp_Kind___repr__ K vs H Q E) : t_Kind___repr__ K (fin Q) (start ["self"] vs) H := by
  obtain ⟨a, y, rfl, ⟨dx, v0, v1, v2, h⟩, hy, q⟩ := hh
  show t_Kind___repr__ K _ [some (.ref a)] H
  have e0 : Str.empty.length = 0 := rfl
  have e1 : (Str.ofString "Kind(").length = 5 := by decide +kernel
  have e2 : (Str.ofString ")").length = 1 := by decide +kernel
  rw [← str_nil_app (Str.ofString "Kind(")] at q
  unfold t_Kind___repr__
  walk_at "w"
  refine ⟨_, rfl, by rw [sizeLine_eq, len_append]; omega, ?_⟩
  show tFld _ _ _ _ _ _
  walk_at "w"
  refine .inl ⟨y, rfl, by rw [sizeLine_eq]; omega, _, rfl, by rw [sizeLine_eq, len_append, len_append]; omega, _, rfl, by rw [sizeLine_eq, len_append, len_append, len_append]; omega, q⟩
theorem w_minL2 {K : PySem.W.Frag} {a : Addr} {ns : List Int} {H : Hp} {Q : VK} (h : H a = some (.lst (ns.map V.int))) (h0 : 0 < ns.length) (q : ∀ m, m ∈ ns → (∀ y, y ∈ ns → m ≤ y) → Q (.int m) H) : rMin K [.ref a] H Q := ⟨a, ns, rfl, sqL h, h0, q⟩
theorem foldD_add {jf : PyData → PyData → Option PyData} {mf : Int → Option PyData} {n : Int} {y m z : PyData} (em : mf n = some m) (ej : jf y m = some z) : ∀ {r : List Int} {a : PyData}, foldD jf mf a r = some y → foldD jf mf a (r ++ [n]) = some z
  | [], a, e => by
    cases e
    show (mf n).bind (fun m => (jf y m).bind fun y => foldD jf mf y []) = _
    rw [em]
    show (jf y m).bind (fun y => foldD jf mf y []) = _
    rw [ej]
    rfl
  | c :: r, a, e => by
    obtain ⟨m1, y1, f1, f2, f3⟩ := foldD_cons e
    show (mf c).bind (fun m => (jf a m).bind fun y => foldD jf mf y (r ++ [n])) = _
    rw [f1]
    show (jf a m1).bind (fun y => foldD jf mf y (r ++ [n])) = _
    rw [f2]
    exact foldD_add em ej f3
/-- the four folds of the told kinds -/
structure Fours (ns : List Int) (t : Int) (lo la : PyData) (s : Str) : Prop where
  sum : foldD (kj 0) (km 0) (kn 0) ns = some (.int t)
  low : foldD (kj 1) (km 1) (kn 1) ns = some lo
  last : foldD (kj 2) (km 2) (kn 2) ns = some la
  txt : foldD (kj 3) (km 3) (kn 3) ns = some (.str s)
theorem lat_fold : ∀ (r : List Int) (x : PyData), x ≠ .none ∨ x = .none → ∃ d, foldD (kj 2) (km 2) x r = some d
  | [], x, _ => ⟨x, rfl⟩
  | n :: r, x, _ => lat_fold r (.int n) (.inl (fun z => nomatch z))
theorem last_fold (r : List Int) (n : Int) : foldD (kj 2) (km 2) (kn 2) (r ++ [n]) = some (.int n) := by
  obtain ⟨d, e⟩ := lat_fold r (kn 2) (.inr rfl)
  exact foldD_add (m := .int n) rfl (by cases d <;> rfl) e
theorem le_fold : ∀ (r : List Int) (a : Int), ∃ m : Int, foldD (kj 1) (km 1) (.int a) r = some (.int m) ∧ (m = a ∨ m ∈ r) ∧ m ≤ a ∧ ∀ y ∈ r, m ≤ y
  | [], a => ⟨a, rfl, .inl rfl, Int.le_refl _, fun y h => by cases h⟩
  | n :: r, a => by
    obtain ⟨m, e, h1, h2, h3⟩ := le_fold r (min a n)
    refine ⟨m, e, ?_, by omega, fun y hy => ?_⟩
    · rcases h1 with h1 | h1
      · rcases Int.le_total a n with h | h
        · exact .inl (by omega)
        · exact .inr (by rw [h1, show min a n = n by omega]; exact List.mem_cons_self)
      · exact .inr (List.mem_cons_of_mem _ h1)
    · rcases List.mem_cons.mp hy with rfl | hy
      · omega
      · exact h3 y hy
theorem low_fold {ns : List Int} {m : Int} (h0 : m ∈ ns) (h1 : ∀ y ∈ ns, m ≤ y) : foldD (kj 1) (km 1) (kn 1) ns = some (.int m) := by
  cases ns with
  | nil => cases h0
  | cons a r =>
    obtain ⟨m', e, g1, g2, g3⟩ := le_fold r a
    have e1 : m ≤ m' := g1.elim (fun z => z ▸ h1 a List.mem_cons_self) fun z => h1 m' (List.mem_cons_of_mem _ z)
    have e2 : m' ≤ m := (List.mem_cons.mp h0).elim (fun z => z ▸ g2) fun z => g3 m z
    have : m = m' := Int.le_antisymm e1 e2
    subst this
    exact e
def sp__law_told_kinds : Sp := fun vs H Q _ => ∃ (l : Addr) (ns : List Int), vs = [.ref l] ∧ H l = some (.lst (ns.map V.int)) ∧ ns.length ≤ 2000 ∧ (∀ n ∈ ns, Sm n) ∧
  ∀ (p t0 t1 t2 t3 : Addr) (t : Int) (v1 v2 : V) (lo la : PyData) (s : Str) (H' : Hp), Chg [] H H' → Fours ns t lo la s → Im H' v1 lo → Im H' v2 la → H' p = some (.lst [.ref t0, .ref t1, .ref t2, .ref t3]) → H' t0 = some (.tup [.str "Kind(summed)", .int t]) → H' t1 = some (.tup [.str "Kind(least)", v1]) → H' t2 = some (.tup [.str "Kind(latest)", v2]) → H' t3 = some (.tup [.str "Kind(strung)", .str s]) → Q (.ref p) H'
def t__law_told_kinds (K : PySem.W.Frag) : TS :=
    tSeq (tAsg (tC (.int 0)) (gName 1))
    (tSeq (tAsg (tC (.str "")) (gName 2))
    (tSeq (tFor (iList K (tVar 0)) (gName 3) (tSeq (tAsg (tOp oAdd (tVar 1) (tVar 3)) (gName 1))
    (tAsg (tOp oAddS (tOp oAddS (tVar 2) (tCB cStrI (tCons (tVar 3) (tNil)))) (tC (.str ";"))) (gName 2))))
    (tSeq (tAsg (tIf (tTest (tOp oNeE (tVar 0) (tLst (tNil)))) (tOp (rIxL K) (tOp rCat (tVar 0) (tLst (tCons (tC .non) (tNil)))) (tOp oSub (tCB (cLenQ K) (tCons (tVar 0) (tNil))) (tC (.int 1)))) (tC .non)) (gName 4))
    (tSeq (tAsg (tIf (tTest (tOp oNeE (tVar 0) (tLst (tNil)))) (tCB (rMin K) (tCons (tVar 0) (tNil))) (tC .non)) (gName 5))
    (tRet (tLst (tCons (tTup (tCons (tC (.str "Kind(summed)")) (tCons (tVar 1) (tNil)))) (tCons (tTup (tCons (tC (.str "Kind(least)")) (tCons (tVar 5) (tNil)))) (tCons (tTup (tCons (tC (.str "Kind(latest)")) (tCons (tVar 4) (tNil)))) (tCons (tTup (tCons (tC (.str "Kind(strung)")) (tCons (tVar 2) (tNil)))) (tNil)))))))))))
def t_tk4 (K : PySem.W.Frag) : TS :=
    tSeq (tAsg (tIf (tTest (tOp oNeE (tVar 0) (tLst (tNil)))) (tCB (rMin K) (tCons (tVar 0) (tNil))) (tC .non)) (gName 5))
    (tRet (tLst (tCons (tTup (tCons (tC (.str "Kind(summed)")) (tCons (tVar 1) (tNil)))) (tCons (tTup (tCons (tC (.str "Kind(least)")) (tCons (tVar 5) (tNil)))) (tCons (tTup (tCons (tC (.str "Kind(latest)")) (tCons (tVar 4) (tNil)))) (tCons (tTup (tCons (tC (.str "Kind(strung)")) (tCons (tVar 2) (tNil)))) (tNil)))))))
def t_tk5  : TS :=
    tRet (tLst (tCons (tTup (tCons (tC (.str "Kind(summed)")) (tCons (tVar 1) (tNil)))) (tCons (tTup (tCons (tC (.str "Kind(least)")) (tCons (tVar 5) (tNil)))) (tCons (tTup (tCons (tC (.str "Kind(latest)")) (tCons (tVar 4) (tNil)))) (tCons (tTup (tCons (tC (.str "Kind(strung)")) (tCons (tVar 2) (tNil)))) (tNil))))))
theorem pure__law_told_kinds {K : PySem.W.Frag} (vs : List V) (H : Hp) (Q : VK) (E : XK) (hh : sp__law_told_kinds vs H Q E) : t__law_told_kinds K (fin Q) (start ["row", "total", "shown", "number", "last", "low"] vs) H := by
  obtain ⟨l, ns, rfl, hl, hz, sm, q⟩ := hh
  show t__law_told_kinds K _ [some (.ref l), none, none, none, none, none] H
  unfold t__law_told_kinds
  walk_at "w"
  refine for_it (walk_list (K := K) (a := l) (xs := ns.map V.int)) (fun i σ Hi => Hi = H ∧ ∃ (t : Int) (s : Str) (b3 : Option V), foldD (kj 0) (km 0) (kn 0) (ns.take i) = some (.int t) ∧ foldD (kj 3) (km 3) (kn 3) (ns.take i) = some (.str s) ∧ s.length ≤ 40 * i ∧ σ = [some (.ref l), some (.int t), some (.str s), b3, none, none])
    ⟨rfl, 0, Str.ofString "", _, rfl, rfl, Nat.le_refl _, rfl⟩ (fun i σ Hi _ z => by rw [z.1]; exact sqL hl) (fun i y σ Hi0 Hi hi z y => ?_) (fun σ Hi z => ?_)
  · obtain ⟨rfl, ex⟩ := y
    obtain ⟨rfl, t, s, b3, e1, e2, ls, rfl⟩ := z
    rw [List.length_map] at hi
    rw [List.getElem?_map, List.getElem?_eq_getElem hi] at ex
    cases ex
    have hs := sm _ (List.getElem_mem hi)
    have hs30 := sm30 hs
    have lt := len_text hs30
    have tk := List.take_succ_eq_append_getElem hi
    generalize ns[i] = n at *
    have e1l : (Str.ofString ";").length = 1 := by decide +kernel
    walk_at "w"
    refine w_strI (lg30 hs30) ?_
    walk_at "w"
    refine w_addS (by rw [len_append, e1l]; exact Nat.le_trans (by omega) (show 100000 ≤ sizeLine by decide)) ?_
    walk_at "w"
    refine ⟨rfl, t + n, s ++ Str.ofString (toString n) ++ Str.ofString ";", _, ?_, ?_, ?_, rfl⟩
    · rw [tk]; exact foldD_add (m := .int n) rfl rfl e1
    · rw [tk]
      refine foldD_add (m := .str (Str.empty ++ Str.ofString (toString n) ++ Str.ofString ";")) (mkD_s hs) ?_ e2
      have e0 : Str.empty.length = 0 := rfl
      refine (s2_s (fun a b => a ++ b) (by rw [len_append, len_append, e1l]; omega)).trans ?_
      rw [show Str.empty = Str.ofString "" from rfl, str_nil_app, str_assoc]
    · rw [len_append, len_append, e1l]; omega
  · obtain ⟨rfl, t, s, b3, e1, e2, ls, rfl⟩ := z
    rw [List.length_map, List.take_length] at e1 e2
    have fin9 : ∀ (H1 : Hp) (v1 v2 : V) (lo la : PyData), Chg [] Hi H1 → Im H1 v1 lo → Im H1 v2 la → foldD (kj 1) (km 1) (kn 1) ns = some lo → foldD (kj 2) (km 2) (kn 2) ns = some la → t_tk5 (fin Q) [some (.ref l), some (.int t), some (.str s), b3, some v2, some v1] H1 := fun H1 v1 v2 lo la c i1 i2 f1 f2 => by
      unfold t_tk5
      walk_at "w"
      refine k_tup (by walk_at "sz") fun t0 H2 n2 c2 h2 => ?_
      walk_at "w"
      refine k_tup (by walk_at "sz") fun t1 H3 n3 c3 h3 => ?_
      walk_at "w"
      refine k_tup (by walk_at "sz") fun t2 H4 n4 c4 h4 => ?_
      walk_at "w"
      refine k_tup (by walk_at "sz") fun t3 H5 n5 c5 h5 => ?_
      walk_at "w"
      refine k_lst (by walk_at "sz") fun p H6 n6 c6 h6 => ?_
      have c26 : Chg [] H2 H6 := ((c3.same c4).same c5).same c6
      exact q p t0 t1 t2 t3 t v1 v2 lo la s H6 (c.same (c2.same c26)) ⟨e1, f1, f2, e2⟩ (i1.im (c2.same c26)) (i2.im (c2.same c26)) h6 (c26.at h2) ((c4.same (c5.same c6)).at h3) ((c5.same c6).at h4) (c6.at h5)
    have low : ∀ (H1 : Hp) (v2 : V) (la : PyData), Chg [] Hi H1 → Im H1 v2 la → foldD (kj 2) (km 2) (kn 2) ns = some la → t_tk4 K (fin Q) [some (.ref l), some (.int t), some (.str s), b3, some v2, none] H1 := fun H1 v2 la c i2 f2 => by
      show tSeq _ t_tk5 _ _ _
      walk_at "w"
      refine k_lst (by walk_at "sz") fun q2 H2 nq2 c2 hq2 => ?_
      walk_at "w"
      refine w_neE (c2.at (c.at hl)) hq2 ?_
      walk_at "w"
      by_cases h0 : ns = []
      · refine w_iteYes (by rw [h0]; rfl) ?_
        walk_at "w"
        exact fin9 H2 _ _ .none la (c.same c2) .non (i2.im c2) (by rw [h0]; rfl) f2
      · refine w_iteNo (by cases ns with | nil => exact absurd rfl h0 | cons a r => rfl) ?_
        walk_at "w"
        refine w_minL2 (c2.at (c.at hl)) (List.length_pos_iff.mpr h0) fun m hm hle => ?_
        walk_at "w"
        exact fin9 H2 _ _ (.int m) la (c.same c2) (.int m) (i2.im c2) (low_fold hm hle) f2
    dsimp only
    show tSeq _ (t_tk4 K) (fin Q) [some (.ref l), some (.int t), some (.str s), b3, none, none] Hi
    walk_at "w"
    refine k_lst (by walk_at "sz") fun q1 H1 nq1 c1 hq1 => ?_
    walk_at "w"
    refine w_neE (c1.at hl) hq1 ?_
    walk_at "w"
    rcases List.eq_nil_or_concat ns with h0 | ⟨r, n, h0⟩
    · refine w_iteYes (by rw [h0]; rfl) ?_
      walk_at "w"
      exact low H1 .non .none c1 .non (by rw [h0]; rfl)
    · have h0 : ns = r ++ [n] := by rw [h0]; simp
      have ln : ns.length = r.length + 1 := by rw [h0]; simp
      refine w_iteNo (by rw [h0]; simp) ?_
      walk_at "w"
      refine k_lst (by walk_at "sz") fun q3 H3 nq3 c3 hq3 => ?_
      have hl3 := c3.at (c1.at hl)
      walk_at "w"
      refine w_cat hl3 hq3 (by rw [List.length_map]; simp; omega) fun q4 H4 nq4 c4 hq4 => ?_
      have hl4 := c4.at hl3
      have ex : atI (ns.map V.int ++ [V.non]) (((ns.map V.int).length : Nat) - (1 : Int)) = some (.int n) := by
        rw [List.length_map, ln, show (((r.length + 1 : Nat) : Int) - 1) = ((r.length : Nat) : Int) by omega]
        refine atI_nat ?_
        rw [h0, List.map_append, List.append_assoc, List.getElem?_append_right (by rw [List.length_map]; exact Nat.le_refl _), List.length_map, Nat.sub_self]
        rfl
      walk_at "w"
      exact low H4 _ (.int n) (c1.same (c3.same c4)) (.int n) (by rw [h0]; exact last_fold r n)
def sp__law_many : Sp := fun vs H Q _ => ∃ (b : Addr) (m : Nat), vs = [.ref b] ∧ Bag H b m ∧ 100 ≤ m ∧ ∀ (p : Addr) (ns : List Int) (H' : Hp), H p = none → Chg [b] H H' → Bag H' b (m - 100) → H' p = some (.lst (ns.map V.int)) → ns.length ≤ 2000 → (∀ x ∈ ns, Sm x) → Q (.ref p) H'
def t__law_many (K : PySem.W.Frag) : TS :=
    tSeq (tAsg (tLst (tCons (tOp oAdd (tC (.int 1)) (tCall sp__law_draw [] E0 (tCons (tVar 0) (tCons (tC (.int 9)) (tNil))))) (tCons (tOp oSub (tCall sp__law_draw [] E0 (tCons (tVar 0) (tCons (tC (.int 100)) (tNil)))) (tC (.int 50))) (tCons (tOp oSub (tC (.int 0)) (tCall sp__law_draw [] E0 (tCons (tVar 0) (tCons (tC (.int 7)) (tNil))))) (tNil))))) (gName 1))
    (tRet (tLc (iRng1 (tCons (tCall sp__law_draw [] E0 (tCons (tVar 0) (tCons (tC (.int 2001)) (tNil)))) (tNil))) (gName 2) (tYes) (tOp oAdd (tOp (rIxL K) (tVar 1) (tOp oMod (tOp oMul (tVar 2) (tVar 2)) (tC (.int 3)))) (tOp oMod (tVar 2) (tC (.int 11)))) [2]))
theorem pure__law_many {K : PySem.W.Frag} (vs : List V) (H : Hp) (Q : VK) (E : XK) (hh : sp__law_many vs H Q E) : t__law_many K (fin Q) (start ["bag", "few", "k"] vs) H := by
  obtain ⟨b, m, rfl, bag, hm, q⟩ := hh
  show t__law_many K _ [some (.ref b), none, none] H
  unfold t__law_many
  walk_at "w"
  refine u_draw bag (by omega) (by decide) (by decide) fun e1 H1 c1 bag1 e10 e11 => ?_
  walk_at "w"
  refine u_draw bag1 (by omega) (by decide) (by decide) fun e2 H2 c2 bag2 e20 e21 => ?_
  walk_at "w"
  refine u_draw bag2 (by omega) (by decide) (by decide) fun e3 H3 c3 bag3 e30 e31 => ?_
  walk_at "w"
  refine k_lst (by walk_at "sz") fun F H4 nF c4 hF => ?_
  walk_at "w"
  refine u_draw (bag3.same c4) (by omega) (by decide) (by decide) fun e5 H5 c5 bag5 e50 e51 => ?_
  have Fb : F ≠ b := fun e => bag3.some (by rw [← e]; exact nF)
  have hF5 := c5.at1 hF Fb
  have c05 : Chg [b] H H5 := ((((c1.both c2).both c3).same c4).both c5)
  have hfew : ∀ i : Int, 0 ≤ i → i < 3 → ∃ z : Int, atI [V.int (1 + e1), V.int (e2 - 50), V.int (0 - e3)] i = some (.int z) ∧ -100 ≤ z ∧ z ≤ 100 := fun i i0 i1 => by
    obtain ⟨x, ex, hx⟩ := atD (xs := [V.int (1 + e1), V.int (e2 - 50), V.int (0 - e3)]) i0 i1
    simp only [List.mem_cons, List.not_mem_nil, or_false] at hx
    rcases hx with rfl | rfl | rfl
    · exact ⟨_, ex, by omega, by omega⟩
    · exact ⟨_, ex, by omega, by omega⟩
    · exact ⟨_, ex, by omega, by omega⟩
  have e5n : e5.toNat ≤ 2000 := by omega
  walk_at "w"
  try refine d_iRng1 (j := e5) (by omega) (by omega) ?_
  clear e10 e11 e20 e21 e30 e31 e50 e51
  refine w_lcP walk_range [] (fun _ _ => True) (fun _ y _ => ∃ z : Int, y = .int z ∧ Sm z) trivial (fun _ _ _ _ _ _ _ => trivial) (fun _ _ => trivial) (fun D j acc z Ha Hb hj nD hD el iv ca _ y => ?_) (fun D acc Ha nD ca _ el hD ys => ?_)
  · obtain ⟨rfl, rfl⟩ := y
    simp only [Int.zero_add]
    have hFa := ca.at hF5
    have hj2 : j < 2000 := by omega
    obtain ⟨z, ez, z0, z1⟩ := hfew ((((j : Nat) : Int) * ((j : Nat) : Int)) % 3) (Int.emod_nonneg _ (by decide)) (Int.emod_lt_of_pos _ (by decide))
    have t0 : 0 ≤ ((j : Nat) : Int) % 11 := Int.emod_nonneg _ (by decide)
    have t1 : ((j : Nat) : Int) % 11 < 11 := Int.emod_lt_of_pos _ (by decide)
    walk_at "w"
    refine w_mul (cmulL (by omega) (by omega)) ?_
    walk_at "w"
    exact lcp_end (fun _ _ _ _ _ _ _ => trivial) (fun _ _ _ _ _ _ c h => h) nD (fun a ha => by cases ha) hD el (by omega) iv .refl trivial ⟨_, rfl, by show (z + ((j : Nat) : Int) % 11).natAbs < 10 ^ 21; omega⟩
  · obtain ⟨ns, rfl, sm⟩ := ints_of (vs := acc) ys
    rw [List.length_map] at el
    walk_at "w"
    exact q D ns Ha (c05.dom _ nD) (c05.same ca) ((bag5.same ca).le (by omega)) hD (by omega) sm
end Fg
namespace LmX
open PySem PySem.Spec PyProof.Rows L2 LamX NdefX
end LmX
namespace L2
open PySem PySem.Spec PyProof.Rows
end L2
namespace Fg
open PySem PySem.Spec PyProof.Rows L2 LamX LmX
local macro_rules | `(tactic| walk_at "hp") => `(tactic| first
  | assumption
  | exact upd_same
  | (refine Chg.at (by assumption) ?_; walk_at "hp")
  | (refine Chg.at1 (by assumption) ?_ (by walk_at "ne"); walk_at "hp"))
local macro_rules | `(tactic| walk_at "ne") => `(tactic| first | assumption | (apply Ne.symm; assumption))
local macro_rules | `(tactic| walk_at "sq") => `(tactic| first | assumption | exact sqL (by walk_at "hp") | (refine Chg.seq (by assumption) ?_; walk_at "sq"))
local macro_rules | `(tactic| walk_at "sz") => `(tactic| first | assumption | exact Nat.zero_le _ | (simp only [List.length_cons, List.length_nil]; decide) | exact Nat.le_trans (by first | omega | (simp; done) | (simp; omega)) (show 100000 ≤ sizeLine by decide) | exact Nat.lt_of_lt_of_le (by first | omega | (simp; done) | (simp; omega)) (show 100000 ≤ sizeLine by decide))
local macro_rules | `(tactic| walk_at "ix") => `(tactic| first | exact at0 | exact at1 | exact at2 | exact at3 | assumption | exact rfl | walk_at "ix2")
local macro_rules | `(tactic| walk_at "ix2") => `(tactic| fail)
local macro_rules | `(tactic| walk_at "num") => `(tactic| first | assumption | omega | decide | walk_at "num2")
local macro_rules | `(tactic| walk_at "num2") => `(tactic| fail)
local macro_rules | `(tactic| walk_at "im") => `(tactic| first | assumption | exact R.non (S := fun _ => False) | exact R.bl (S := fun _ => False) _ | exact R.int (S := fun _ => False) _ | exact R.str (S := fun _ => False) _ | (refine R.im (by assumption) ?_; walk_at "im"))
local macro_rules | `(tactic| walk_at "r") => `(tactic| first | assumption | exact R.non (S := fun _ => False) | exact R.bl (S := fun _ => False) _ | exact R.int (S := fun _ => False) _ | exact R.str (S := fun _ => False) _ | (refine R.same (by assumption) ?_; walk_at "r") | exact R.any (by walk_at "im"))
local macro_rules | `(tactic| walk_at "chg") => `(tactic| first
  | exact Chg.refl
  | assumption
  | (refine Chg.same ?_ (by assumption); walk_at "chg")
  | (refine Chg.both ?_ (by assumption); walk_at "chg")
  | (refine Chg.pre (by assumption) ?_; walk_at "chg"))
local macro_rules | `(tactic| walk_at "w1") => `(tactic| first
  | with_reducible apply w_seq
  | with_reducible apply w_asg
  | ((with_reducible apply w_var); (focus (exact rfl)))
  | with_reducible apply w_c
  | with_reducible apply w_op
  | with_reducible apply w_cons
  | with_reducible apply w_nil
  | with_reducible apply w_gName
  | with_reducible apply w_if
  | with_reducible apply w_test
  | with_reducible apply w_B
  | with_reducible apply w_isbl
  | with_reducible apply w_retN
  | with_reducible apply w_next
  | with_reducible apply w_drop
  | with_reducible apply w_cb
  | with_reducible apply w_call
  | with_reducible apply w_callN
  | with_reducible apply w_bm
  | with_reducible apply w_bm0
  | ((with_reducible apply w_tyL); (focus (walk_at "hp"; done)))
  | with_reducible apply w_dput
  | with_reducible apply w_m1
  | with_reducible apply w_isstr
  | with_reducible apply w_and
  | with_reducible apply w_or
  | with_reducible apply w_not
  | with_reducible apply w_andV
  | with_reducible apply w_orV
  | with_reducible apply w_notV
  | with_reducible apply w_ifE
  | with_reducible apply w_chain
  | with_reducible apply w_un
  | with_reducible apply w_neg
  | with_reducible apply w_add
  | with_reducible apply w_sub
  | ((with_reducible apply w_mod); (focus (walk_at "num"; done)))
  | ((with_reducible apply w_mul); (focus (walk_at "num"; done)))
  | ((with_reducible apply w_fdiv); (focus (walk_at "num"; done)))
  | ((with_reducible apply w_pow); (focus (walk_at "num"; done)))
  | with_reducible apply w_lt
  | with_reducible apply w_le
  | with_reducible apply w_gt
  | with_reducible apply w_ge
  | with_reducible apply w_ltS
  | with_reducible apply w_geS
  | with_reducible apply w_inC
  | with_reducible apply w_notInC
  | with_reducible apply w_isN
  | with_reducible apply w_notN
  | with_reducible apply w_isB
  | with_reducible apply w_notB
  | ((with_reducible apply w_addS); (focus (walk_at "sz"; done)))
  | ((with_reducible apply w_ixL); (focus (walk_at "sq"; done)); (focus (walk_at "ix"; done)))
  | ((with_reducible apply w_ixT); (focus (walk_at "hp"; done)); (focus (walk_at "ix"; done)))
  | ((with_reducible apply w_ixS); (focus (walk_at "sz"; done)); (focus (walk_at "ix"; done)))
  | with_reducible apply w_gSub
  | ((with_reducible apply w_gTup); (focus (walk_at "hp"; done)); (focus (exact rfl)))
  | with_reducible apply w_gCons
  | with_reducible apply w_gNil
  | ((with_reducible apply w_aug); (focus (exact rfl)))
  | with_reducible apply w_ipI
  | ((with_reducible apply w_eq); (focus (exact rfl)))
  | ((with_reducible apply w_ne); (focus (exact rfl)))
  | with_reducible apply w_max
  | with_reducible apply w_min
  | with_reducible apply w_abs
  | with_reducible apply w_intB
  | with_reducible apply w_intI
  | with_reducible apply w_tup1
  | with_reducible apply w_lst1
  | with_reducible apply w_sl
  | with_reducible apply w_part
  | with_reducible apply w_noPart
  | with_reducible apply w_isint
  | ((with_reducible apply w_slS); (focus (walk_at "sz"; done)))
  | with_reducible apply w_iteT
  | with_reducible apply w_iteF
  | with_reducible apply w_iteN
  | ((with_reducible apply w_iteYes); (focus (exact rfl)))
  | ((with_reducible apply w_iteNo); (focus (exact rfl)))
  | ((with_reducible apply w_lenL); (focus (walk_at "sq"; done)))
  | ((with_reducible apply w_lenT); (focus (walk_at "hp"; done)))
  | ((with_reducible apply w_lenS); (focus (walk_at "sz"; done)))
  | with_reducible apply w_lc
  | with_reducible apply w_for
  | with_reducible apply w_yes
  | ((with_reducible apply w_wipe); (focus (exact rfl)))
  | with_reducible apply w_iList
  | with_reducible apply w_iTup
  | with_reducible apply w_iStr
  | with_reducible apply w_iRng1
  | with_reducible apply w_iRng2
  | with_reducible apply w_iZip
  | with_reducible apply w_iEnum
  | ((with_reducible apply d_iList); (focus (walk_at "sq"; done)))
  | ((with_reducible apply d_iTup); (focus (walk_at "hp"; done)))
  | with_reducible apply d_iStr
  | ((with_reducible apply d_iRng1); (focus (walk_at "num"; done)); (focus (walk_at "num"; done)))
  | ((with_reducible apply d_iRng2); (focus (walk_at "num"; done)); (focus (walk_at "num"; done)); (focus (walk_at "num"; done)); (focus (walk_at "num"; done)))
  | ((with_reducible apply d_iZip); (focus (walk_at "sq"; done)); (focus (walk_at "sq"; done)))
  | ((with_reducible apply d_iEnum); (focus (walk_at "sq"; done)))
  | walk_at "w2")
local macro_rules | `(tactic| walk_at "w2") => `(tactic| fail)
local macro_rules | `(tactic| walk_at "wn") => `(tactic| repeat walk_at "w1")
local macro_rules | `(tactic| walk_at "w") => `(tactic| repeat (first | walk_at "w1" | with_reducible apply w_ret))
local macro_rules | `(tactic| walk_at "w2") => `(tactic| first
  | ((with_reducible apply w_isInt); (focus (walk_at "r"; done)))
  | ((with_reducible apply w_isBool); (focus (walk_at "r"; done)))
  | ((with_reducible apply w_isStr); (focus (walk_at "r"; done)))
  | ((with_reducible apply w_isTup); (focus (walk_at "r"; done)))
  | ((with_reducible apply w_isLst); (focus (walk_at "r"; done)))
  | with_reducible apply w_fld
  | with_reducible apply w_sfld
  | with_reducible apply w_faug
  | with_reducible apply w_rAdd
  | with_reducible apply w_rSub
  | with_reducible apply w_make
  | with_reducible apply w_orT
  | with_reducible apply w_dgetd
  | with_reducible apply w_dgetk
  | with_reducible apply w_dsetd
  | ((with_reducible apply k_dgetd); (focus (walk_at "hp"; done)))
  | ((with_reducible apply k_dsetd); (focus (walk_at "hp"; done)))
  | walk_at "w3")
local macro_rules | `(tactic| walk_at "w3") => `(tactic| fail)
local macro_rules | `(tactic| walk_at "w3") => `(tactic| first
  | with_reducible apply w_mt
  | with_reducible apply w_makeX
  | ((with_reducible apply m_Kind); (focus (walk_at "hp"; done)); (focus (exact rfl)))
  | ((with_reducible apply g_Kind_joining); (focus (assumption; done)); (focus (walk_at "hp"; done)))
  | ((with_reducible apply g_Kind_none); (focus (assumption; done)); (focus (walk_at "hp"; done)))
  | ((with_reducible apply g_Kind_making); (focus (assumption; done)); (focus (walk_at "hp"; done)))
  | ((with_reducible apply g_Kind_word); (focus (assumption; done)); (focus (walk_at "hp"; done))))
end Fg
namespace Fg
open PySem PySem.Spec PyProof.Rows L2 LamX LmX
structure CgK {α : Type} (W : Nat → PyData → Prop) (jf : PyData → PyData → Option PyData) (nm : PyData → α) : Prop where
  eq : ∀ {a b x y}, W a x → W b y → PyData.eqv x y = true → nm x = nm y
  qe : ∀ {a b x y}, W a x → W b y → nm x = nm y → PyData.eqv x y = true
  cg : ∀ {a a' b b' x x' y y' p p'}, W a x → W a' x' → W b y → W b' y' → nm x = nm x' → nm y = nm y' → jf x y = some p → jf x' y' = some p' → nm p = nm p'
end Fg
namespace Fg
open PySem PySem.Spec PyProof.Rows L2 LamX LmX
section
variable {W : Nat → PyData → Prop} {jf : PyData → PyData → Option PyData}
theorem cgId (hi : ∀ {a b x y}, W a x → W b y → PyData.eqv x y = true → x = y) (hn : ∀ {a x}, W a x → noDic x = true) : CgK W jf (fun x : PyData => x) where
  eq := fun h1 h2 e => hi h1 h2 e
  qe := fun {a b x y} h1 _ e => by
    have e : x = y := e
    subst e
    exact eqv_self _ (hn h1)
  cg := fun {a a' b b' x x' y y' p p'} _ _ _ _ e1 e2 h1 h2 => by
    have e1 : x = x' := e1
    have e2 : y = y' := e2
    subst e1
    subst e2
    rw [h1] at h2
    exact Option.some.inj h2
theorem eqv_ints : ∀ {ns ms : List Int}, PyData.eqvAll (ns.map PyData.int) (ms.map PyData.int) = true → ns = ms
  | [], [], _ => rfl
  | [], _ :: _, h => by cases h
  | _ :: _, [], h => by cases h
  | n :: r, m :: t, h => by
    have h : ((n == m) && PyData.eqvAll (r.map PyData.int) (t.map PyData.int)) = true := h
    obtain ⟨h1, h2⟩ := Bool.and_eq_true_iff.mp h
    rw [eq_of_beq h1, eqv_ints h2]
theorem cgI : CgK WI jf (fun x : PyData => x) := cgId (fun h1 h2 e => by
  obtain ⟨i, rfl⟩ := h1
  obtain ⟨j, rfl⟩ := h2
  have e : (i == j) = true := e
  rw [eq_of_beq e]) fun h => by obtain ⟨i, rfl⟩ := h; rfl
theorem cg7 : CgK W7 jf (fun x : PyData => x) := cgId (fun h1 h2 e => by
  obtain ⟨i, rfl, _⟩ := h1
  obtain ⟨j, rfl, _⟩ := h2
  have e : (i == j) = true := e
  rw [eq_of_beq e]) fun h => by obtain ⟨i, rfl, _⟩ := h; rfl
theorem cgS : CgK WS jf (fun x : PyData => x) := cgId (fun h1 h2 e => by
  obtain ⟨i, rfl, _⟩ := h1
  obtain ⟨j, rfl, _⟩ := h2
  have e : (i == j) = true := e
  rw [eq_of_beq e]) fun h => by obtain ⟨i, rfl, _⟩ := h; rfl
theorem cgO : CgK WO jf (fun x : PyData => x) := cgId (fun h1 h2 e => by
  rcases h1 with rfl | ⟨i, rfl⟩ <;> rcases h2 with rfl | ⟨j, rfl⟩
  · rfl
  · cases e
  · cases e
  · have e : (i == j) = true := e
    rw [eq_of_beq e]) fun h => by rcases h with rfl | ⟨i, rfl⟩ <;> rfl
theorem cgT : CgK WT jf (fun x : PyData => x) := cgId (fun h1 h2 e => by
  have key : ∀ {x : PyData}, WT 1 x → ∃ ns : List Int, x = .tuple (ns.map PyData.int) := fun h => by
    rcases h with rfl | ⟨a, b, rfl⟩
    · exact ⟨[], rfl⟩
    · exact ⟨[a, b], rfl⟩
  obtain ⟨ns, rfl⟩ := key h1
  obtain ⟨ms, rfl⟩ := key h2
  rw [eqv_ints e]) fun h => by rcases h with rfl | ⟨a, b, rfl⟩ <;> rfl
theorem cgL : CgK WL jf (fun x : PyData => x) := cgId (fun h1 h2 e => by
  obtain ⟨ns, rfl, _⟩ := h1
  obtain ⟨ms, rfl, _⟩ := h2
  rw [eqv_ints e]) fun h => by
    obtain ⟨ns, rfl, _⟩ := h
    exact (ints_ok ns).1
theorem cgB : CgK WB (jnD 29) niD where
  eq := fun h1 h2 e => by
    rcases h1 with rfl | ⟨b, rfl⟩ <;> rcases h2 with rfl | ⟨c, rfl⟩
    · rfl
    · cases c <;> first | rfl | cases e
    · cases b <;> first | rfl | cases e
    · have e : (b == c) = true := e
      rw [eq_of_beq e]
  qe := fun h1 h2 e => by
    rcases h1 with rfl | ⟨b, rfl⟩ <;> rcases h2 with rfl | ⟨c, rfl⟩
    · rfl
    · cases c <;> first | rfl | cases e
    · cases b <;> first | rfl | cases e
    · cases b <;> cases c <;> first | rfl | cases e
  cg := fun {a a' b b' x x' y y' p p'} h1 h2 h3 h4 e1 e2 f1 f2 => by
    have f1 : mxD x y = some p := f1
    have f2 : mxD x' y' = some p' := f2
    obtain ⟨i, j, z1, z2, rfl⟩ := mxD_at f1
    obtain ⟨i', j', z1', z2', rfl⟩ := mxD_at f2
    have hi : i = i' := by rw [e1, z1'] at z1; exact (Option.some.inj z1).symm
    have hj : j = j' := by rw [e2, z2'] at z2; exact (Option.some.inj z2).symm
    subst hi
    subst hj
    by_cases h : j > i
    · rw [if_pos h, if_pos h]; exact e2
    · rw [if_neg h, if_neg h]; exact e1
end
theorem semc_of : ∀ i, i < 22 → ∃ (W : Nat → PyData → Prop) (α : Type) (nm : PyData → α), SemK W (kj i) (kn i) (km i) ∧ CgK W (kj i) nm
  | 0, _ => ⟨_, _, _, (semI ⟨_, rfl⟩ idI fun a b => ⟨_, rfl⟩), cgI⟩
  | 1, _ => ⟨_, _, _, (semO (.inl rfl) idO fun x y hx hy => by
      rcases hx with rfl | ⟨i, rfl⟩ <;> rcases hy with rfl | ⟨j, rfl⟩
      · exact ⟨_, rfl, .inl rfl⟩
      · exact ⟨_, rfl, .inr ⟨j, rfl⟩⟩
      · exact ⟨_, rfl, .inr ⟨i, rfl⟩⟩
      · exact ⟨_, rfl, .inr ⟨_, rfl⟩⟩), cgO⟩
  | 2, _ => ⟨_, _, _, (semO (.inl rfl) idO fun x y hx hy => latO hx hy), cgO⟩
  | 3, _ => ⟨_, _, _, (semS rfl (fun n h => ⟨_, mkD_s h, text32 (sm30 h)⟩) fun a b h => ⟨_, s2_s _ h, by rw [len_append]; omega⟩), cgS⟩
  | 4, _ => ⟨_, _, _, (semT), cgT⟩
  | 5, _ => ⟨_, _, _, (semL), cgL⟩
  | 6, _ => ⟨_, _, _, (sem7), cg7⟩
  | 7, _ => ⟨_, _, _, (semI ⟨_, rfl⟩ idI fun a b => ⟨_, rfl⟩), cgI⟩
  | 8, _ => ⟨_, _, _, (semS rfl (fun n h => ⟨_, mkD_s h, Nat.le_trans (len_text (by have := Int.emod_nonneg n (b := 10) (by decide); have := Int.emod_lt_of_pos n (b := 10) (by decide); omega)) (by decide)⟩) fun a b h => ⟨_, s2_s (fun a b => b ++ a) h, by rw [len_append]; omega⟩), cgS⟩
  | 9, _ => ⟨_, _, _, (semO (.inl rfl) (fun n h => ⟨_, mkD_s h, .inr ⟨_, rfl⟩⟩) fun x y hx hy => latO hx hy), cgO⟩
  | 10, _ => ⟨_, _, _, (semI ⟨_, rfl⟩ idI fun a b => ⟨_, rfl⟩), cgI⟩
  | 11, _ => ⟨_, _, _, (semO (.inl rfl) idO fun x y hx hy => by
      rcases hx with rfl | ⟨i, rfl⟩ <;> rcases hy with rfl | ⟨j, rfl⟩
      · exact ⟨_, rfl, .inl rfl⟩
      · exact ⟨_, rfl, .inr ⟨j, rfl⟩⟩
      · exact ⟨_, rfl, .inr ⟨i, rfl⟩⟩
      · exact ⟨_, rfl, .inr ⟨_, rfl⟩⟩), cgO⟩
  | 12, _ => ⟨_, _, _, (semI ⟨_, rfl⟩ idI fun a b => ⟨_, rfl⟩), cgI⟩
  | 13, _ => ⟨_, _, _, (semI ⟨_, rfl⟩ (fun n h => ⟨_, mkD_s h⟩) fun a b => ⟨_, rfl⟩), cgI⟩
  | 14, _ => ⟨_, _, _, (semI ⟨_, rfl⟩ idI fun a b => ⟨_, rfl⟩), cgI⟩
  | 15, _ => ⟨_, _, _, (semI ⟨_, rfl⟩ idI fun a b => ⟨_, rfl⟩), cgI⟩
  | 16, _ => ⟨_, _, _, (semI ⟨_, rfl⟩ idI fun a b => ⟨_, rfl⟩), cgI⟩
  | 17, _ => ⟨_, _, _, (semS rfl (fun n h => ⟨_, mkD_s h, text32 (sm30 h)⟩) fun a b h => ⟨_, s2_s (fun a b => a ++ cutS b none (some 2)) h, by rw [len_append]; have := cutS_le b none (some 2); omega⟩), cgS⟩
  | 18, _ => ⟨_, _, _, (semO (.inl rfl) idO fun x y hx hy => by
      rcases hx with rfl | ⟨i, rfl⟩ <;> rcases hy with rfl | ⟨j, rfl⟩ <;> exact ⟨_, rfl, .inr ⟨_, rfl⟩⟩), cgO⟩
  | 19, _ => ⟨_, _, _, (semO (.inl rfl) (fun n h => ⟨_, mkD_s h, by split; exact .inl rfl; exact .inr ⟨n, rfl⟩⟩) fun x y hx hy => by
      rcases hx with rfl | ⟨i, rfl⟩ <;> rcases hy with rfl | ⟨j, rfl⟩
      · exact ⟨_, rfl, .inl rfl⟩
      · exact ⟨_, rfl, .inr ⟨j, rfl⟩⟩
      · exact ⟨_, rfl, .inl rfl⟩
      · exact ⟨_, rfl, .inr ⟨j, rfl⟩⟩), cgO⟩
  | 20, _ => ⟨_, _, _, (semO (.inl rfl) idO fun x y hx hy => by
      rcases hx with rfl | ⟨i, rfl⟩ <;> rcases hy with rfl | ⟨j, rfl⟩
      · exact ⟨_, rfl, .inl rfl⟩
      · exact ⟨_, rfl, .inl rfl⟩
      · exact ⟨_, rfl, .inr ⟨i, rfl⟩⟩
      · exact ⟨_, rfl, .inr ⟨_, rfl⟩⟩), cgO⟩
  | 21, _ => ⟨_, _, _, (semB), cgB⟩
  | i + 22, h => absurd h (by omega)
end Fg
namespace Fg
open PySem PySem.Spec PyProof.Rows L2 LamX LmX
local macro_rules | `(tactic| walk_at "hp") => `(tactic| first
  | assumption
  | exact upd_same
  | (refine Chg.at (by assumption) ?_; walk_at "hp")
  | (refine Chg.at1 (by assumption) ?_ (by walk_at "ne"); walk_at "hp"))
local macro_rules | `(tactic| walk_at "ne") => `(tactic| first | assumption | (apply Ne.symm; assumption))
local macro_rules | `(tactic| walk_at "sq") => `(tactic| first | assumption | exact sqL (by walk_at "hp") | (refine Chg.seq (by assumption) ?_; walk_at "sq"))
local macro_rules | `(tactic| walk_at "sz") => `(tactic| first | assumption | exact Nat.zero_le _ | (simp only [List.length_cons, List.length_nil]; decide) | exact Nat.le_trans (by first | omega | (simp; done) | (simp; omega)) (show 100000 ≤ sizeLine by decide) | exact Nat.lt_of_lt_of_le (by first | omega | (simp; done) | (simp; omega)) (show 100000 ≤ sizeLine by decide))
local macro_rules | `(tactic| walk_at "ix") => `(tactic| first | exact at0 | exact at1 | exact at2 | exact at3 | assumption | exact rfl | walk_at "ix2")
local macro_rules | `(tactic| walk_at "ix2") => `(tactic| fail)
local macro_rules | `(tactic| walk_at "num") => `(tactic| first | assumption | omega | decide | walk_at "num2")
local macro_rules | `(tactic| walk_at "num2") => `(tactic| fail)
local macro_rules | `(tactic| walk_at "im") => `(tactic| first | assumption | exact R.non (S := fun _ => False) | exact R.bl (S := fun _ => False) _ | exact R.int (S := fun _ => False) _ | exact R.str (S := fun _ => False) _ | (refine R.im (by assumption) ?_; walk_at "im"))
local macro_rules | `(tactic| walk_at "r") => `(tactic| first | assumption | exact R.non (S := fun _ => False) | exact R.bl (S := fun _ => False) _ | exact R.int (S := fun _ => False) _ | exact R.str (S := fun _ => False) _ | (refine R.same (by assumption) ?_; walk_at "r") | exact R.any (by walk_at "im"))
local macro_rules | `(tactic| walk_at "chg") => `(tactic| first
  | exact Chg.refl
  | assumption
  | (refine Chg.same ?_ (by assumption); walk_at "chg")
  | (refine Chg.both ?_ (by assumption); walk_at "chg")
  | (refine Chg.pre (by assumption) ?_; walk_at "chg"))
local macro_rules | `(tactic| walk_at "w1") => `(tactic| first
  | with_reducible apply w_seq
  | with_reducible apply w_asg
  | ((with_reducible apply w_var); (focus (exact rfl)))
  | with_reducible apply w_c
  | with_reducible apply w_op
  | with_reducible apply w_cons
  | with_reducible apply w_nil
  | with_reducible apply w_gName
  | with_reducible apply w_if
  | with_reducible apply w_test
  | with_reducible apply w_B
  | with_reducible apply w_isbl
  | with_reducible apply w_retN
  | with_reducible apply w_next
  | with_reducible apply w_drop
  | with_reducible apply w_cb
  | with_reducible apply w_call
  | with_reducible apply w_callN
  | with_reducible apply w_bm
  | with_reducible apply w_bm0
  | ((with_reducible apply w_tyL); (focus (walk_at "hp"; done)))
  | with_reducible apply w_dput
  | with_reducible apply w_m1
  | with_reducible apply w_isstr
  | with_reducible apply w_and
  | with_reducible apply w_or
  | with_reducible apply w_not
  | with_reducible apply w_andV
  | with_reducible apply w_orV
  | with_reducible apply w_notV
  | with_reducible apply w_ifE
  | with_reducible apply w_chain
  | with_reducible apply w_un
  | with_reducible apply w_neg
  | with_reducible apply w_add
  | with_reducible apply w_sub
  | ((with_reducible apply w_mod); (focus (walk_at "num"; done)))
  | ((with_reducible apply w_mul); (focus (walk_at "num"; done)))
  | ((with_reducible apply w_fdiv); (focus (walk_at "num"; done)))
  | ((with_reducible apply w_pow); (focus (walk_at "num"; done)))
  | with_reducible apply w_lt
  | with_reducible apply w_le
  | with_reducible apply w_gt
  | with_reducible apply w_ge
  | with_reducible apply w_ltS
  | with_reducible apply w_geS
  | with_reducible apply w_inC
  | with_reducible apply w_notInC
  | with_reducible apply w_isN
  | with_reducible apply w_notN
  | with_reducible apply w_isB
  | with_reducible apply w_notB
  | ((with_reducible apply w_addS); (focus (walk_at "sz"; done)))
  | ((with_reducible apply w_ixL); (focus (walk_at "sq"; done)); (focus (walk_at "ix"; done)))
  | ((with_reducible apply w_ixT); (focus (walk_at "hp"; done)); (focus (walk_at "ix"; done)))
  | ((with_reducible apply w_ixS); (focus (walk_at "sz"; done)); (focus (walk_at "ix"; done)))
  | with_reducible apply w_gSub
  | ((with_reducible apply w_gTup); (focus (walk_at "hp"; done)); (focus (exact rfl)))
  | with_reducible apply w_gCons
  | with_reducible apply w_gNil
  | ((with_reducible apply w_aug); (focus (exact rfl)))
  | with_reducible apply w_ipI
  | ((with_reducible apply w_eq); (focus (exact rfl)))
  | ((with_reducible apply w_ne); (focus (exact rfl)))
  | with_reducible apply w_max
  | with_reducible apply w_min
  | with_reducible apply w_abs
  | with_reducible apply w_intB
  | with_reducible apply w_intI
  | with_reducible apply w_tup1
  | with_reducible apply w_lst1
  | with_reducible apply w_sl
  | with_reducible apply w_part
  | with_reducible apply w_noPart
  | with_reducible apply w_isint
  | ((with_reducible apply w_slS); (focus (walk_at "sz"; done)))
  | with_reducible apply w_iteT
  | with_reducible apply w_iteF
  | with_reducible apply w_iteN
  | ((with_reducible apply w_iteYes); (focus (exact rfl)))
  | ((with_reducible apply w_iteNo); (focus (exact rfl)))
  | ((with_reducible apply w_lenL); (focus (walk_at "sq"; done)))
  | ((with_reducible apply w_lenT); (focus (walk_at "hp"; done)))
  | ((with_reducible apply w_lenS); (focus (walk_at "sz"; done)))
  | with_reducible apply w_lc
  | with_reducible apply w_for
  | with_reducible apply w_yes
  | ((with_reducible apply w_wipe); (focus (exact rfl)))
  | with_reducible apply w_iList
  | with_reducible apply w_iTup
  | with_reducible apply w_iStr
  | with_reducible apply w_iRng1
  | with_reducible apply w_iRng2
  | with_reducible apply w_iZip
  | with_reducible apply w_iEnum
  | ((with_reducible apply d_iList); (focus (walk_at "sq"; done)))
  | ((with_reducible apply d_iTup); (focus (walk_at "hp"; done)))
  | with_reducible apply d_iStr
  | ((with_reducible apply d_iRng1); (focus (walk_at "num"; done)); (focus (walk_at "num"; done)))
  | ((with_reducible apply d_iRng2); (focus (walk_at "num"; done)); (focus (walk_at "num"; done)); (focus (walk_at "num"; done)); (focus (walk_at "num"; done)))
  | ((with_reducible apply d_iZip); (focus (walk_at "sq"; done)); (focus (walk_at "sq"; done)))
  | ((with_reducible apply d_iEnum); (focus (walk_at "sq"; done)))
  | walk_at "w2")
local macro_rules | `(tactic| walk_at "w2") => `(tactic| fail)
local macro_rules | `(tactic| walk_at "wn") => `(tactic| repeat walk_at "w1")
local macro_rules | `(tactic| walk_at "w") => `(tactic| repeat (first | walk_at "w1" | with_reducible apply w_ret))
local macro_rules | `(tactic| walk_at "w2") => `(tactic| first
  | ((with_reducible apply w_isInt); (focus (walk_at "r"; done)))
  | ((with_reducible apply w_isBool); (focus (walk_at "r"; done)))
  | ((with_reducible apply w_isStr); (focus (walk_at "r"; done)))
  | ((with_reducible apply w_isTup); (focus (walk_at "r"; done)))
  | ((with_reducible apply w_isLst); (focus (walk_at "r"; done)))
  | with_reducible apply w_fld
  | with_reducible apply w_sfld
  | with_reducible apply w_faug
  | with_reducible apply w_rAdd
  | with_reducible apply w_rSub
  | with_reducible apply w_make
  | with_reducible apply w_orT
  | with_reducible apply w_dgetd
  | with_reducible apply w_dgetk
  | with_reducible apply w_dsetd
  | ((with_reducible apply k_dgetd); (focus (walk_at "hp"; done)))
  | ((with_reducible apply k_dsetd); (focus (walk_at "hp"; done)))
  | walk_at "w3")
local macro_rules | `(tactic| walk_at "w3") => `(tactic| fail)
local macro_rules | `(tactic| walk_at "w3") => `(tactic| first
  | with_reducible apply w_mt
  | with_reducible apply w_makeX
  | ((with_reducible apply m_Kind); (focus (walk_at "hp"; done)); (focus (exact rfl)))
  | ((with_reducible apply g_Kind_joining); (focus (assumption; done)); (focus (walk_at "hp"; done)))
  | ((with_reducible apply g_Kind_none); (focus (assumption; done)); (focus (walk_at "hp"; done)))
  | ((with_reducible apply g_Kind_making); (focus (assumption; done)); (focus (walk_at "hp"; done)))
  | ((with_reducible apply g_Kind_word); (focus (assumption; done)); (focus (walk_at "hp"; done))))
end Fg
namespace Fg
open PySem PySem.Spec PyProof.Rows L2 LamX LmX
local macro_rules | `(tactic| walk_at "hp") => `(tactic| first
  | assumption
  | exact upd_same
  | (refine Chg.at (by assumption) ?_; walk_at "hp")
  | (refine Chg.at1 (by assumption) ?_ (by walk_at "ne"); walk_at "hp"))
local macro_rules | `(tactic| walk_at "ne") => `(tactic| first | assumption | (apply Ne.symm; assumption))
local macro_rules | `(tactic| walk_at "sq") => `(tactic| first | assumption | exact sqL (by walk_at "hp") | (refine Chg.seq (by assumption) ?_; walk_at "sq"))
local macro_rules | `(tactic| walk_at "sz") => `(tactic| first | assumption | exact Nat.zero_le _ | (simp only [List.length_cons, List.length_nil]; decide) | exact Nat.le_trans (by first | omega | (simp; done) | (simp; omega)) (show 100000 ≤ sizeLine by decide) | exact Nat.lt_of_lt_of_le (by first | omega | (simp; done) | (simp; omega)) (show 100000 ≤ sizeLine by decide))
local macro_rules | `(tactic| walk_at "ix") => `(tactic| first | exact at0 | exact at1 | exact at2 | exact at3 | assumption | exact rfl | walk_at "ix2")
local macro_rules | `(tactic| walk_at "ix2") => `(tactic| fail)
local macro_rules | `(tactic| walk_at "num") => `(tactic| first | assumption | omega | decide | walk_at "num2")
local macro_rules | `(tactic| walk_at "num2") => `(tactic| fail)
local macro_rules | `(tactic| walk_at "im") => `(tactic| first | assumption | exact R.non (S := fun _ => False) | exact R.bl (S := fun _ => False) _ | exact R.int (S := fun _ => False) _ | exact R.str (S := fun _ => False) _ | (refine R.im (by assumption) ?_; walk_at "im"))
local macro_rules | `(tactic| walk_at "r") => `(tactic| first | assumption | exact R.non (S := fun _ => False) | exact R.bl (S := fun _ => False) _ | exact R.int (S := fun _ => False) _ | exact R.str (S := fun _ => False) _ | (refine R.same (by assumption) ?_; walk_at "r") | exact R.any (by walk_at "im"))
local macro_rules | `(tactic| walk_at "chg") => `(tactic| first
  | exact Chg.refl
  | assumption
  | (refine Chg.same ?_ (by assumption); walk_at "chg")
  | (refine Chg.both ?_ (by assumption); walk_at "chg")
  | (refine Chg.pre (by assumption) ?_; walk_at "chg"))
local macro_rules | `(tactic| walk_at "w1") => `(tactic| first
  | with_reducible apply w_seq
  | with_reducible apply w_asg
  | ((with_reducible apply w_var); (focus (exact rfl)))
  | with_reducible apply w_c
  | with_reducible apply w_op
  | with_reducible apply w_cons
  | with_reducible apply w_nil
  | with_reducible apply w_gName
  | with_reducible apply w_if
  | with_reducible apply w_test
  | with_reducible apply w_B
  | with_reducible apply w_isbl
  | with_reducible apply w_retN
  | with_reducible apply w_next
  | with_reducible apply w_drop
  | with_reducible apply w_cb
  | with_reducible apply w_call
  | with_reducible apply w_callN
  | with_reducible apply w_bm
  | with_reducible apply w_bm0
  | ((with_reducible apply w_tyL); (focus (walk_at "hp"; done)))
  | with_reducible apply w_dput
  | with_reducible apply w_m1
  | with_reducible apply w_isstr
  | with_reducible apply w_and
  | with_reducible apply w_or
  | with_reducible apply w_not
  | with_reducible apply w_andV
  | with_reducible apply w_orV
  | with_reducible apply w_notV
  | with_reducible apply w_ifE
  | with_reducible apply w_chain
  | with_reducible apply w_un
  | with_reducible apply w_neg
  | with_reducible apply w_add
  | with_reducible apply w_sub
  | ((with_reducible apply w_mod); (focus (walk_at "num"; done)))
  | ((with_reducible apply w_mul); (focus (walk_at "num"; done)))
  | ((with_reducible apply w_fdiv); (focus (walk_at "num"; done)))
  | ((with_reducible apply w_pow); (focus (walk_at "num"; done)))
  | with_reducible apply w_lt
  | with_reducible apply w_le
  | with_reducible apply w_gt
  | with_reducible apply w_ge
  | with_reducible apply w_ltS
  | with_reducible apply w_geS
  | with_reducible apply w_inC
  | with_reducible apply w_notInC
  | with_reducible apply w_isN
  | with_reducible apply w_notN
  | with_reducible apply w_isB
  | with_reducible apply w_notB
  | ((with_reducible apply w_addS); (focus (walk_at "sz"; done)))
  | ((with_reducible apply w_ixL); (focus (walk_at "sq"; done)); (focus (walk_at "ix"; done)))
  | ((with_reducible apply w_ixT); (focus (walk_at "hp"; done)); (focus (walk_at "ix"; done)))
  | ((with_reducible apply w_ixS); (focus (walk_at "sz"; done)); (focus (walk_at "ix"; done)))
  | with_reducible apply w_gSub
  | ((with_reducible apply w_gTup); (focus (walk_at "hp"; done)); (focus (exact rfl)))
  | with_reducible apply w_gCons
  | with_reducible apply w_gNil
  | ((with_reducible apply w_aug); (focus (exact rfl)))
  | with_reducible apply w_ipI
  | ((with_reducible apply w_eq); (focus (exact rfl)))
  | ((with_reducible apply w_ne); (focus (exact rfl)))
  | with_reducible apply w_max
  | with_reducible apply w_min
  | with_reducible apply w_abs
  | with_reducible apply w_intB
  | with_reducible apply w_intI
  | with_reducible apply w_tup1
  | with_reducible apply w_lst1
  | with_reducible apply w_sl
  | with_reducible apply w_part
  | with_reducible apply w_noPart
  | with_reducible apply w_isint
  | ((with_reducible apply w_slS); (focus (walk_at "sz"; done)))
  | with_reducible apply w_iteT
  | with_reducible apply w_iteF
  | with_reducible apply w_iteN
  | ((with_reducible apply w_iteYes); (focus (exact rfl)))
  | ((with_reducible apply w_iteNo); (focus (exact rfl)))
  | ((with_reducible apply w_lenL); (focus (walk_at "sq"; done)))
  | ((with_reducible apply w_lenT); (focus (walk_at "hp"; done)))
  | ((with_reducible apply w_lenS); (focus (walk_at "sz"; done)))
  | with_reducible apply w_lc
  | with_reducible apply w_for
  | with_reducible apply w_yes
  | ((with_reducible apply w_wipe); (focus (exact rfl)))
  | with_reducible apply w_iList
  | with_reducible apply w_iTup
  | with_reducible apply w_iStr
  | with_reducible apply w_iRng1
  | with_reducible apply w_iRng2
  | with_reducible apply w_iZip
  | with_reducible apply w_iEnum
  | ((with_reducible apply d_iList); (focus (walk_at "sq"; done)))
  | ((with_reducible apply d_iTup); (focus (walk_at "hp"; done)))
  | with_reducible apply d_iStr
  | ((with_reducible apply d_iRng1); (focus (walk_at "num"; done)); (focus (walk_at "num"; done)))
  | ((with_reducible apply d_iRng2); (focus (walk_at "num"; done)); (focus (walk_at "num"; done)); (focus (walk_at "num"; done)); (focus (walk_at "num"; done)))
  | ((with_reducible apply d_iZip); (focus (walk_at "sq"; done)); (focus (walk_at "sq"; done)))
  | ((with_reducible apply d_iEnum); (focus (walk_at "sq"; done)))
  | walk_at "w2")
local macro_rules | `(tactic| walk_at "w2") => `(tactic| fail)
local macro_rules | `(tactic| walk_at "wn") => `(tactic| repeat walk_at "w1")
local macro_rules | `(tactic| walk_at "w") => `(tactic| repeat (first | walk_at "w1" | with_reducible apply w_ret))
local macro_rules | `(tactic| walk_at "w2") => `(tactic| first
  | ((with_reducible apply w_isInt); (focus (walk_at "r"; done)))
  | ((with_reducible apply w_isBool); (focus (walk_at "r"; done)))
  | ((with_reducible apply w_isStr); (focus (walk_at "r"; done)))
  | ((with_reducible apply w_isTup); (focus (walk_at "r"; done)))
  | ((with_reducible apply w_isLst); (focus (walk_at "r"; done)))
  | with_reducible apply w_fld
  | with_reducible apply w_sfld
  | with_reducible apply w_faug
  | with_reducible apply w_rAdd
  | with_reducible apply w_rSub
  | with_reducible apply w_make
  | with_reducible apply w_orT
  | with_reducible apply w_dgetd
  | with_reducible apply w_dgetk
  | with_reducible apply w_dsetd
  | ((with_reducible apply k_dgetd); (focus (walk_at "hp"; done)))
  | ((with_reducible apply k_dsetd); (focus (walk_at "hp"; done)))
  | walk_at "w3")
local macro_rules | `(tactic| walk_at "w3") => `(tactic| fail)
local macro_rules | `(tactic| walk_at "w3") => `(tactic| first
  | with_reducible apply w_mt
  | with_reducible apply w_makeX
  | ((with_reducible apply m_Kind); (focus (walk_at "hp"; done)); (focus (exact rfl)))
  | ((with_reducible apply g_Kind_joining); (focus (assumption; done)); (focus (walk_at "hp"; done)))
  | ((with_reducible apply g_Kind_none); (focus (assumption; done)); (focus (walk_at "hp"; done)))
  | ((with_reducible apply g_Kind_making); (focus (assumption; done)); (focus (walk_at "hp"; done)))
  | ((with_reducible apply g_Kind_word); (focus (assumption; done)); (focus (walk_at "hp"; done))))
theorem ra_of {S : Addr → Prop} {H : Hp} : ∀ {acc : List V} {ds : List PyData}, acc.length = ds.length → (∀ (i : Nat) (y : V) (d : PyData), acc[i]? = some y → ds[i]? = some d → R S H y d) → RA S H acc ds
  | [], [], _, _ => .nil
  | v :: r, d :: ds, l, h => .cons (h 0 v d rfl rfl) (ra_of (by simpa using l) fun i y e h1 h2 => h (i + 1) y e h1 h2)
theorem ints_ra {S : Addr → Prop} {H : Hp} : ∀ ns : List Int, RA S H (ns.map V.int) (ns.map PyData.int)
  | [] => .nil
  | n :: r => .cons (.int n) (ints_ra r)
theorem ka0 : jnD 0 = kj 0 := funext fun x => funext fun y => rfl
theorem ka2 : lat2 = kj 2 := funext fun x => funext fun y => rfl
theorem ka3 : jnD 1 = kj 3 := funext fun x => funext fun y => rfl
theorem kb3 : mkD 2 = km 3 := funext fun n => rfl
/-- a row of Kinds of one making and word -/
structure KndsAt (K : PySem.W.Frag) (L : Nat → Addr → LF) (S : Addr → Prop) (H : Hp) (kl : Addr) (as : List Addr) (jf : PyData → PyData → Option PyData) (nd : PyData) (mf : Int → Option PyData) (y : Str) : Prop where
  at_ : H kl = some (.lst (as.map V.ref))
  few : as.length ≤ 3
  kd : ∀ a ∈ as, KdAt K L S H a jf nd mf
  kw : ∀ a ∈ as, KwAt K H a y
theorem KndsAt.keep {K : PySem.W.Frag} {L : Nat → Addr → LF} {S : Addr → Prop} {M : List Addr} {H H' : Hp} {kl : Addr} {as : List Addr} {jf : PyData → PyData → Option PyData} {nd : PyData} {mf : Int → Option PyData} {y : Str} (c : Chg M H H') (n : NoX M H) (hs : ∀ a, S a → a ∉ M) (hk : kl ∉ M) (h : KndsAt K L S H kl as jf nd mf y) : KndsAt K L S H' kl as jf nd mf y :=
  ⟨c.keep _ _ h.at_ hk, h.few, fun a ha => (h.kd a ha).keep c n hs, fun a ha => (h.kw a ha).keep c n⟩
theorem KndsAt.same {K : PySem.W.Frag} {L : Nat → Addr → LF} {S : Addr → Prop} {H H' : Hp} {kl : Addr} {as : List Addr} {jf : PyData → PyData → Option PyData} {nd : PyData} {mf : Int → Option PyData} {y : Str} (c : Chg [] H H') (h : KndsAt K L S H kl as jf nd mf y) : KndsAt K L S H' kl as jf nd mf y := h.keep c .nil (fun _ _ => by simp) (by simp)
def t_w16 (K : PySem.W.Frag) (L : Nat → Addr → LmX.LF) : TS :=
    tFor (iList K (tVar 10)) (gName 11) (tIfS (tOr (tNot (tB (tCall (sp__law_same K) [] E0 (tCons (tMeth (He.ga K "Kind") "fold" (sp_Kind_fold K L) [] E0 (tVar 11) (tCons (tVar 4) (tNil))) (tCons (tCall (sp__law_fold K L) [] E0 (tCons (tVar 7) (tCons (tVar 4) (tNil)))) (tNil)))))) (tNot (tB (tCall (sp__law_same K) [] E0 (tCons (tMeth (He.ga K "Kind") "fold" (sp_Kind_fold K L) [] E0 (tVar 11) (tCons (tVar 3) (tNil))) (tCons (tVar 9) (tNil))))))) (tRet (tC (.bl false))) (tNext))
def t_w14 (K : PySem.W.Frag) (L : Nat → Addr → LmX.LF) : TS :=
    tSeq (tIfS (tOr (tTest (tOp rNe (tCB (cReprI (He.ga K "Kind") (sp_Kind___repr__ K)) (tCons (tMake (He.ga K "Kind") (sp_Kind___init__ K) [.non, .str "kind"] E0 (tCons (tOp (rIxT K) (tVar 7) (tC (.int 0))) (tCons (tOp (rIxT K) (tVar 7) (tC (.int 1))) (tNil)))) (tNil))) (tC (.str "Kind(kind)")))) (tTest (tOp oNeD (tVar 4) (tVar 3)))) (tRet (tC (.bl false))) (tNext))
    (tSeq (tDrop (tBM K "list" rAppend (tVar 4) (tCons (tCall sp__law_draw [] E0 (tCons (tVar 2) (tCons (tC (.int 9)) (tNil)))) (tNil))))
    (tFor (iList K (tVar 10)) (gName 11) (tIfS (tOr (tNot (tB (tCall (sp__law_same K) [] E0 (tCons (tMeth (He.ga K "Kind") "fold" (sp_Kind_fold K L) [] E0 (tVar 11) (tCons (tVar 4) (tNil))) (tCons (tCall (sp__law_fold K L) [] E0 (tCons (tVar 7) (tCons (tVar 4) (tNil)))) (tNil)))))) (tNot (tB (tCall (sp__law_same K) [] E0 (tCons (tMeth (He.ga K "Kind") "fold" (sp_Kind_fold K L) [] E0 (tVar 11) (tCons (tVar 3) (tNil))) (tCons (tVar 9) (tNil))))))) (tRet (tC (.bl false))) (tNext))))
def t_w13 (K : PySem.W.Frag) (L : Nat → Addr → LmX.LF) : TS :=
    tSeq (tFor (iList K (tVar 10)) (gName 11) (tSeq (tIfS (tOr (tNot (tB (tCall (sp__law_same K) [] E0 (tCons (tMeth (He.ga K "Kind") "fold" (sp_Kind_fold K L) [] E0 (tVar 11) (tCons (tVar 4) (tNil))) (tCons (tVar 9) (tNil)))))) (tTest (tOp rNe (tCB (cReprI (He.ga K "Kind") (sp_Kind___repr__ K)) (tCons (tVar 11) (tNil))) (tOp oAddS (tOp oAddS (tC (.str "Kind(")) (tVar 8)) (tC (.str ")")))))) (tRet (tC (.bl false))) (tNext))
    (tIfS (tOr (tNot (tB (tCall (sp__law_same K) [] E0 (tCons (tMethN (He.ga K "Kind") "fold" 0 1 (sp_Kind_fold K L) (fun vs zs => [vs.getD 0 .non, zs.getD 0 .non]) E0 (tVar 11) tNil (tCons (tVar 4) (tNil))) (tCons (tVar 9) (tNil)))))) (tNot (tB (tCall (sp__law_same K) [] E0 (tCons (tMeth (He.ga K "Kind") "fold" (sp_Kind_fold K L) [] E0 (tVar 11) (tCons (tLst (tNil)) (tNil))) (tCons (tOp (rIxT K) (tVar 7) (tC (.int 1))) (tNil))))))) (tRet (tC (.bl false))) (tNext))))
    (tSeq (tIfS (tOr (tTest (tOp rNe (tCB (cReprI (He.ga K "Kind") (sp_Kind___repr__ K)) (tCons (tMake (He.ga K "Kind") (sp_Kind___init__ K) [.non, .str "kind"] E0 (tCons (tOp (rIxT K) (tVar 7) (tC (.int 0))) (tCons (tOp (rIxT K) (tVar 7) (tC (.int 1))) (tNil)))) (tNil))) (tC (.str "Kind(kind)")))) (tTest (tOp oNeD (tVar 4) (tVar 3)))) (tRet (tC (.bl false))) (tNext))
    (tSeq (tDrop (tBM K "list" rAppend (tVar 4) (tCons (tCall sp__law_draw [] E0 (tCons (tVar 2) (tCons (tC (.int 9)) (tNil)))) (tNil))))
    (tFor (iList K (tVar 10)) (gName 11) (tIfS (tOr (tNot (tB (tCall (sp__law_same K) [] E0 (tCons (tMeth (He.ga K "Kind") "fold" (sp_Kind_fold K L) [] E0 (tVar 11) (tCons (tVar 4) (tNil))) (tCons (tCall (sp__law_fold K L) [] E0 (tCons (tVar 7) (tCons (tVar 4) (tNil)))) (tNil)))))) (tNot (tB (tCall (sp__law_same K) [] E0 (tCons (tMeth (He.ga K "Kind") "fold" (sp_Kind_fold K L) [] E0 (tVar 11) (tCons (tVar 3) (tNil))) (tCons (tVar 9) (tNil))))))) (tRet (tC (.bl false))) (tNext)))))
theorem w16 {K : PySem.W.Frag} {L : Nat → Addr → LF} (C : C_Kind K) {H : Hp} {D : Ends} {a0 a1 a2 a5 a6 a8 a11 a12 : Option V} {p h T kl : Addr} {v : V} {d d2 nd : PyData} {ns ns2 : List Int} {as : List Addr} {S : Addr → Prop} {jf : PyData → PyData → Option PyData} {mf : Int → Option PyData} {y : Str}
    (hp : H p = some (.lst (ns.map V.int))) (hh : H h = some (.lst (ns2.map V.int))) (ka : KndsAt K L S H kl as jf nd mf y) (kt : KtAt K L S H T jf nd mf) (fr : ∀ x, H x = none → S x) (rv : R S H v d) (e1 : foldD jf mf nd ns = some d) (e2 : foldD jf mf nd ns2 = some d2) (ok1 : noDic d = true ∧ d.depth ≤ 60) (ok2 : noDic d2 = true ∧ d2.depth ≤ 60)
    (q : ∀ (H' : Hp) (b11 : Option V), Chg [] H H' → D.nx [a0, a1, a2, some (.ref p), some (.ref h), a5, a6, some (.ref T), a8, some v, some (.ref kl), b11, a12] H') : t_w16 K L D [a0, a1, a2, some (.ref p), some (.ref h), a5, a6, some (.ref T), a8, some v, some (.ref kl), a11, a12] H := by
  unfold t_w16
  have hk := ka.at_
  walk_at "wn"
  refine for_it (walk_list (K := K) (a := kl) (xs := as.map V.ref)) (fun i σ Hi => Chg [] H Hi ∧ ∃ b11 : Option V, σ = [a0, a1, a2, some (.ref p), some (.ref h), a5, a6, some (.ref T), a8, some v, some (.ref kl), b11, a12]) ⟨.refl, _, rfl⟩ (fun i σ Hi _ z => sqL (z.1.at hk)) (fun i x σ Hi0 Hi hi z y => ?_) (fun σ Hi z => ?_)
  · obtain ⟨rfl, ex⟩ := y
    obtain ⟨ci, b11, rfl⟩ := z
    rw [List.length_map] at hi
    rw [List.getElem?_map, List.getElem?_eq_getElem hi] at ex
    cases ex
    have kd := (ka.kd _ (List.getElem_mem hi)).same ci
    generalize as[i] = a at *
    have hhi := ci.at hh
    have hpi := ci.at hp
    have fri := fresh_chg ci fr
    obtain ⟨di, w0, w1, w2, w3, h0k, hjk, hnk, hmk⟩ := id kd
    walk_at "wn"
    refine ⟨a, h, ns2, S, jf, nd, mf, d2, rfl, hhi, kd, fri, e2, fun u H1 c1 ru => ?_⟩
    walk_at "wn"
    refine ⟨T, h, ns2, S, jf, nd, mf, d2, rfl, c1.at hhi, (kt.same ci).same c1, fresh_chg c1 fri, e2, fun u2 H2 c2 ru2 => ?_⟩
    walk_at "wn"
    refine ⟨_, _, d2, S, S, rfl, ru.same c2, ru2, ok2.1, ok2.2, ?_⟩
    have c12 := c1.same c2
    have h0k2 := c12.at h0k
    walk_at "wn"
    refine ⟨a, p, ns, S, jf, nd, mf, d, rfl, c12.at hpi, kd.same c12, fresh_chg c12 fri, e1, fun u3 H3 c3 ru3 => ?_⟩
    walk_at "wn"
    refine ⟨_, _, d, S, S, rfl, ru3, rv.same ((ci.same c12).same c3), ok1.1, ok1.2, ?_⟩
    walk_at "wn"
    exact ⟨(ci.same c12).same c3, _, rfl⟩
  · obtain ⟨ci, b11, rfl⟩ := z
    exact q Hi b11 ci
theorem w14 {K : PySem.W.Frag} {L : Nat → Addr → LF} (C : C_Kind K) {H : Hp} {D : Ends} {a0 a1 a5 a6 a8 a11 a12 : Option V} {b p h T kl : Addr} {m : Nat} {v : V} {nd : PyData} {ns : List Int} {as : List Addr} {S : Addr → Prop} {jf : PyData → PyData → Option PyData} {mf : Int → Option PyData} {y : Str} {W : Nat → PyData → Prop} {d : PyData}
    (bag : Bag H b m) (hm : 100 ≤ m) (hp : H p = some (.lst (ns.map V.int))) (hh : H h = some (.lst (ns.map V.int))) (pb : p ≠ b) (hb : h ≠ b) (ph : p ≠ h) (hz : ns.length ≤ 2000) (sm : ∀ n ∈ ns, Sm n) (hS : ∀ x, S x → x ≠ b ∧ x ≠ h) (ka : KndsAt K L S H kl as jf nd mf y) (klb : kl ≠ b) (klh : kl ≠ h) (kt : KtAt K L S H T jf nd mf) (fr : ∀ x, H x = none → S x) (rv : R S H v d) (se : SemK W jf nd mf) (e1 : foldD jf mf nd ns = some d) (ok1 : noDic d = true ∧ d.depth ≤ 60)
    (q : ∀ (H' : Hp) (b11 : Option V), Chg [b, h] H H' → D.nx [a0, a1, some (.ref b), some (.ref p), some (.ref h), a5, a6, some (.ref T), a8, some v, some (.ref kl), b11, a12] H') : t_w14 K L D [a0, a1, some (.ref b), some (.ref p), some (.ref h), a5, a6, some (.ref T), a8, some v, some (.ref kl), a11, a12] H := by
  show tSeq _ (tSeq _ (t_w16 K L)) _ _ _
  obtain ⟨g, v1, mm, hT, hj, hn, hmv⟩ := id kt
  walk_at "wn"
  refine k_make fun a dx H7 na nd' ne c7 h7 => ?_
  refine ⟨a, dx, g, v1, .non, .str "kind", rfl, h7, fun H8 c8 h8 => ⟨rfl, ?_⟩⟩
  have c78 : Chg [] H H8 := c7.one c8 na
  walk_at "wn"
  refine w_reprI h8 ⟨a, "kind", rfl, ⟨dx, _, _, _, h8⟩, by decide +kernel, ?_⟩
  refine ⟨_, rfl, ?_⟩
  walk_at "wn"
  obtain ⟨k1, k2⟩ := ints_ok ns
  refine w_neS (R.lst (S := fun _ => True) trivial (c78.at hh) (ints_ra ns)) (R.lst (S := fun _ => True) trivial (c78.at hp) (ints_ra ns)) k1 k2 ?_
  walk_at "wn"
  refine u_draw (bag.same c78) (by omega) (by decide) (by decide) fun e H9 c9 bag9 e0 e1' => ?_
  have hh9 := c9.at1 (c78.at hh) hb
  walk_at "wn"
  refine w_append hh9 (by rw [List.length_map]; exact Nat.lt_of_le_of_lt hz (by decide)) fun H10 c10 h10 => ?_
  have c010 : Chg [b, h] H H10 := ((c78.pre c9).wide (M' := [b, h]) (by simp)).both (c10.wide (by simp))
  have nx : NoX [b, h] H := fun a m => by
    obtain ⟨z1, z2, z3, hb2, _⟩ := id bag
    rcases List.mem_cons.mp m with rfl | m
    · exact noX_lst hb2 _ (by simp)
    · rw [List.mem_singleton.mp m]; exact noX_lst hh _ (by simp)
  have hS' : ∀ x, S x → x ∉ [b, h] := fun x z m => by
    rcases List.mem_cons.mp m with rfl | m
    · exact (hS _ z).1 rfl
    · exact (hS _ z).2 (List.mem_singleton.mp m)
  have sm2 : ∀ n ∈ ns ++ [e], Sm n := fun n hn => by
    rcases List.mem_append.mp hn with hn | hn
    · exact sm n hn
    · rw [List.mem_singleton.mp hn]; show e.natAbs < 10 ^ 21; omega
  obtain ⟨d2, ed2, wd2⟩ := se.fold (ns ++ [e]) 1 nd (by simp; omega) se.no sm2
  have hk10 : H10 p = some (.lst (ns.map V.int)) := c10.at1 (c9.at1 (c78.at hp) pb) ph
  exact w16 C hk10 (by rw [h10, List.map_append]; rfl) (ka.keep c010 nx hS' (by simp [klb, klh])) (kt.keep c010 nx hS') (fun x e => fr x (c010.dom x e)) (rv.keep c010 hS') e1 ed2 ok1 (se.ok _ _ wd2) fun H' b11 c => q H' b11 (c010.same c)
theorem w13 {K : PySem.W.Frag} {L : Nat → Addr → LF} (C : C_Kind K) {H : Hp} {D : Ends} {a0 a1 a5 a6 a11 a12 : Option V} {b p h T kl : Addr} {m : Nat} {v : V} {nd : PyData} {ns : List Int} {as : List Addr} {S : Addr → Prop} {jf : PyData → PyData → Option PyData} {mf : Int → Option PyData} {y : Str} {W : Nat → PyData → Prop} {d : PyData}
    (bag : Bag H b m) (hm : 100 ≤ m) (hp : H p = some (.lst (ns.map V.int))) (hh : H h = some (.lst (ns.map V.int))) (pb : p ≠ b) (hb : h ≠ b) (ph : p ≠ h) (hz : ns.length ≤ 2000) (sm : ∀ n ∈ ns, Sm n) (hS : ∀ x, S x → x ≠ b ∧ x ≠ h) (ka : KndsAt K L S H kl as jf nd mf y) (hy : y.length ≤ 8) (klb : kl ≠ b) (klh : kl ≠ h) (kt : KtAt K L S H T jf nd mf) (fr : ∀ x, H x = none → S x) (rv : R S H v d) (se : SemK W jf nd mf) (e1 : foldD jf mf nd ns = some d) (ok1 : noDic d = true ∧ d.depth ≤ 60)
    (q : ∀ (H' : Hp) (b11 : Option V), Chg [b, h] H H' → D.nx [a0, a1, some (.ref b), some (.ref p), some (.ref h), a5, a6, some (.ref T), some (.str y), some v, some (.ref kl), b11, a12] H') : t_w13 K L D [a0, a1, some (.ref b), some (.ref p), some (.ref h), a5, a6, some (.ref T), some (.str y), some v, some (.ref kl), a11, a12] H := by
  show tSeq _ (t_w14 K L) _ _ _
  have hk := ka.at_
  obtain ⟨o1, o2⟩ := se.ok _ _ se.no
  have y5 : (Str.ofString "Kind(").length = 5 := by decide +kernel
  have y1 : (Str.ofString ")").length = 1 := by decide +kernel
  walk_at "wn"
  refine for_it (walk_list (K := K) (a := kl) (xs := as.map V.ref)) (fun i σ Hi => Chg [] H Hi ∧ ∃ b11 : Option V, σ = [a0, a1, some (.ref b), some (.ref p), some (.ref h), a5, a6, some (.ref T), some (.str y), some v, some (.ref kl), b11, a12]) ⟨.refl, _, rfl⟩ (fun i σ Hi _ z => sqL (z.1.at hk)) (fun i x σ Hi0 Hi hi z y => ?_) (fun σ Hi z => ?_)
  · obtain ⟨rfl, ex⟩ := y
    obtain ⟨ci, b11, rfl⟩ := z
    rw [List.length_map] at hi
    rw [List.getElem?_map, List.getElem?_eq_getElem hi] at ex
    cases ex
    have kd := (ka.kd _ (List.getElem_mem hi)).same ci
    have kw := (ka.kw _ (List.getElem_mem hi)).same ci
    generalize as[i] = a at *
    have hhi := ci.at hh
    have fri := fresh_chg ci fr
    have kti := kt.same ci
    obtain ⟨di, w0, w1, w2, w3, h0k, hjk, hnk, hmk⟩ := id kd
    walk_at "wn"
    refine ⟨a, h, ns, S, jf, nd, mf, d, rfl, hhi, kd, fri, e1, fun u H1 c1 ru => ?_⟩
    walk_at "wn"
    refine ⟨_, _, d, S, S, rfl, ru, (rv.same ci).same c1, ok1.1, ok1.2, ?_⟩
    have h0k1 := c1.at h0k
    walk_at "wn"
    refine w_reprI h0k1 ⟨a, _, rfl, kw.same c1, by omega, ?_⟩
    refine ⟨_, rfl, ?_⟩
    walk_at "wn"
    refine w_addS (by rw [len_append, y5, y1]; exact Nat.le_trans (by omega) (show 100000 ≤ sizeLine by decide)) ?_
    walk_at "wn"
    refine w_iteD (fun _ => ?_) (fun h => absurd rfl h)
    walk_at "wn"
    refine w_mtN ?_
    walk_at "wn"
    refine ⟨a, _, _, rfl, h0k1, rfl, ?_⟩
    walk_at "wn"
    refine ⟨rfl, rfl, a, h, ns, S, jf, nd, mf, d, rfl, c1.at hhi, kd.same c1, fresh_chg c1 fri, e1, fun u2 H2 c2 ru2 => ?_⟩
    have c12 := c1.same c2
    walk_at "wn"
    refine ⟨_, _, d, S, S, rfl, ru2, (rv.same ci).same c12, ok1.1, ok1.2, ?_⟩
    have h0k2 := c12.at h0k
    walk_at "wn"
    refine k_lst (by walk_at "sz") fun q1 H3 nq c3 hq => ?_
    have c13 := c12.same c3
    walk_at "wn"
    refine ⟨a, q1, [], S, jf, nd, mf, nd, rfl, hq, kd.same c13, fresh_chg c13 fri, rfl, fun u3 H4 c4 ru3 => ?_⟩
    have c14 := c13.same c4
    obtain ⟨g, v1, mm, hT, hj, hn, hmv⟩ := id (kti.same c14)
    walk_at "wn"
    refine ⟨_, _, nd, S, S, rfl, ru3, hn, o1, o2, ?_⟩
    walk_at "wn"
    exact ⟨ci.same c14, _, rfl⟩
  · obtain ⟨ci, b11, rfl⟩ := z
    exact w14 C (bag.same ci) hm (ci.at hp) (ci.at hh) pb hb ph hz sm hS (ka.same ci) klb klh (kt.same ci) (fresh_chg ci fr) (rv.same ci) se e1 ok1 fun H' b11 c => q H' b11 (ci.pre c)
end Fg
namespace Fg
open PySem PySem.Spec PyProof.Rows L2 LamX LmX
local macro_rules | `(tactic| walk_at "hp") => `(tactic| first
  | assumption
  | exact upd_same
  | (refine Chg.at (by assumption) ?_; walk_at "hp")
  | (refine Chg.at1 (by assumption) ?_ (by walk_at "ne"); walk_at "hp"))
local macro_rules | `(tactic| walk_at "ne") => `(tactic| first | assumption | (apply Ne.symm; assumption))
local macro_rules | `(tactic| walk_at "sq") => `(tactic| first | assumption | exact sqL (by walk_at "hp") | (refine Chg.seq (by assumption) ?_; walk_at "sq"))
local macro_rules | `(tactic| walk_at "sz") => `(tactic| first | assumption | exact Nat.zero_le _ | (simp only [List.length_cons, List.length_nil]; decide) | exact Nat.le_trans (by first | omega | (simp; done) | (simp; omega)) (show 100000 ≤ sizeLine by decide) | exact Nat.lt_of_lt_of_le (by first | omega | (simp; done) | (simp; omega)) (show 100000 ≤ sizeLine by decide))
local macro_rules | `(tactic| walk_at "ix") => `(tactic| first | exact at0 | exact at1 | exact at2 | exact at3 | assumption | exact rfl | walk_at "ix2")
local macro_rules | `(tactic| walk_at "ix2") => `(tactic| fail)
local macro_rules | `(tactic| walk_at "num") => `(tactic| first | assumption | omega | decide | walk_at "num2")
local macro_rules | `(tactic| walk_at "num2") => `(tactic| fail)
local macro_rules | `(tactic| walk_at "im") => `(tactic| first | assumption | exact R.non (S := fun _ => False) | exact R.bl (S := fun _ => False) _ | exact R.int (S := fun _ => False) _ | exact R.str (S := fun _ => False) _ | (refine R.im (by assumption) ?_; walk_at "im"))
local macro_rules | `(tactic| walk_at "r") => `(tactic| first | assumption | exact R.non (S := fun _ => False) | exact R.bl (S := fun _ => False) _ | exact R.int (S := fun _ => False) _ | exact R.str (S := fun _ => False) _ | (refine R.same (by assumption) ?_; walk_at "r") | exact R.any (by walk_at "im"))
local macro_rules | `(tactic| walk_at "chg") => `(tactic| first
  | exact Chg.refl
  | assumption
  | (refine Chg.same ?_ (by assumption); walk_at "chg")
  | (refine Chg.both ?_ (by assumption); walk_at "chg")
  | (refine Chg.pre (by assumption) ?_; walk_at "chg"))
local macro_rules | `(tactic| walk_at "w1") => `(tactic| first
  | with_reducible apply w_seq
  | with_reducible apply w_asg
  | ((with_reducible apply w_var); (focus (exact rfl)))
  | with_reducible apply w_c
  | with_reducible apply w_op
  | with_reducible apply w_cons
  | with_reducible apply w_nil
  | with_reducible apply w_gName
  | with_reducible apply w_if
  | with_reducible apply w_test
  | with_reducible apply w_B
  | with_reducible apply w_isbl
  | with_reducible apply w_retN
  | with_reducible apply w_next
  | with_reducible apply w_drop
  | with_reducible apply w_cb
  | with_reducible apply w_call
  | with_reducible apply w_callN
  | with_reducible apply w_bm
  | with_reducible apply w_bm0
  | ((with_reducible apply w_tyL); (focus (walk_at "hp"; done)))
  | with_reducible apply w_dput
  | with_reducible apply w_m1
  | with_reducible apply w_isstr
  | with_reducible apply w_and
  | with_reducible apply w_or
  | with_reducible apply w_not
  | with_reducible apply w_andV
  | with_reducible apply w_orV
  | with_reducible apply w_notV
  | with_reducible apply w_ifE
  | with_reducible apply w_chain
  | with_reducible apply w_un
  | with_reducible apply w_neg
  | with_reducible apply w_add
  | with_reducible apply w_sub
  | ((with_reducible apply w_mod); (focus (walk_at "num"; done)))
  | ((with_reducible apply w_mul); (focus (walk_at "num"; done)))
  | ((with_reducible apply w_fdiv); (focus (walk_at "num"; done)))
  | ((with_reducible apply w_pow); (focus (walk_at "num"; done)))
  | with_reducible apply w_lt
  | with_reducible apply w_le
  | with_reducible apply w_gt
  | with_reducible apply w_ge
  | with_reducible apply w_ltS
  | with_reducible apply w_geS
  | with_reducible apply w_inC
  | with_reducible apply w_notInC
  | with_reducible apply w_isN
  | with_reducible apply w_notN
  | with_reducible apply w_isB
  | with_reducible apply w_notB
  | ((with_reducible apply w_addS); (focus (walk_at "sz"; done)))
  | ((with_reducible apply w_ixL); (focus (walk_at "sq"; done)); (focus (walk_at "ix"; done)))
  | ((with_reducible apply w_ixT); (focus (walk_at "hp"; done)); (focus (walk_at "ix"; done)))
  | ((with_reducible apply w_ixS); (focus (walk_at "sz"; done)); (focus (walk_at "ix"; done)))
  | with_reducible apply w_gSub
  | ((with_reducible apply w_gTup); (focus (walk_at "hp"; done)); (focus (exact rfl)))
  | with_reducible apply w_gCons
  | with_reducible apply w_gNil
  | ((with_reducible apply w_aug); (focus (exact rfl)))
  | with_reducible apply w_ipI
  | ((with_reducible apply w_eq); (focus (exact rfl)))
  | ((with_reducible apply w_ne); (focus (exact rfl)))
  | with_reducible apply w_max
  | with_reducible apply w_min
  | with_reducible apply w_abs
  | with_reducible apply w_intB
  | with_reducible apply w_intI
  | with_reducible apply w_tup1
  | with_reducible apply w_lst1
  | with_reducible apply w_sl
  | with_reducible apply w_part
  | with_reducible apply w_noPart
  | with_reducible apply w_isint
  | ((with_reducible apply w_slS); (focus (walk_at "sz"; done)))
  | with_reducible apply w_iteT
  | with_reducible apply w_iteF
  | with_reducible apply w_iteN
  | ((with_reducible apply w_iteYes); (focus (exact rfl)))
  | ((with_reducible apply w_iteNo); (focus (exact rfl)))
  | ((with_reducible apply w_lenL); (focus (walk_at "sq"; done)))
  | ((with_reducible apply w_lenT); (focus (walk_at "hp"; done)))
  | ((with_reducible apply w_lenS); (focus (walk_at "sz"; done)))
  | with_reducible apply w_lc
  | with_reducible apply w_for
  | with_reducible apply w_yes
  | ((with_reducible apply w_wipe); (focus (exact rfl)))
  | with_reducible apply w_iList
  | with_reducible apply w_iTup
  | with_reducible apply w_iStr
  | with_reducible apply w_iRng1
  | with_reducible apply w_iRng2
  | with_reducible apply w_iZip
  | with_reducible apply w_iEnum
  | ((with_reducible apply d_iList); (focus (walk_at "sq"; done)))
  | ((with_reducible apply d_iTup); (focus (walk_at "hp"; done)))
  | with_reducible apply d_iStr
  | ((with_reducible apply d_iRng1); (focus (walk_at "num"; done)); (focus (walk_at "num"; done)))
  | ((with_reducible apply d_iRng2); (focus (walk_at "num"; done)); (focus (walk_at "num"; done)); (focus (walk_at "num"; done)); (focus (walk_at "num"; done)))
  | ((with_reducible apply d_iZip); (focus (walk_at "sq"; done)); (focus (walk_at "sq"; done)))
  | ((with_reducible apply d_iEnum); (focus (walk_at "sq"; done)))
  | walk_at "w2")
local macro_rules | `(tactic| walk_at "w2") => `(tactic| fail)
local macro_rules | `(tactic| walk_at "wn") => `(tactic| repeat walk_at "w1")
local macro_rules | `(tactic| walk_at "w") => `(tactic| repeat (first | walk_at "w1" | with_reducible apply w_ret))
local macro_rules | `(tactic| walk_at "w2") => `(tactic| first
  | ((with_reducible apply w_isInt); (focus (walk_at "r"; done)))
  | ((with_reducible apply w_isBool); (focus (walk_at "r"; done)))
  | ((with_reducible apply w_isStr); (focus (walk_at "r"; done)))
  | ((with_reducible apply w_isTup); (focus (walk_at "r"; done)))
  | ((with_reducible apply w_isLst); (focus (walk_at "r"; done)))
  | with_reducible apply w_fld
  | with_reducible apply w_sfld
  | with_reducible apply w_faug
  | with_reducible apply w_rAdd
  | with_reducible apply w_rSub
  | with_reducible apply w_make
  | with_reducible apply w_orT
  | with_reducible apply w_dgetd
  | with_reducible apply w_dgetk
  | with_reducible apply w_dsetd
  | ((with_reducible apply k_dgetd); (focus (walk_at "hp"; done)))
  | ((with_reducible apply k_dsetd); (focus (walk_at "hp"; done)))
  | walk_at "w3")
local macro_rules | `(tactic| walk_at "w3") => `(tactic| fail)
local macro_rules | `(tactic| walk_at "w3") => `(tactic| first
  | with_reducible apply w_mt
  | with_reducible apply w_makeX
  | ((with_reducible apply m_Kind); (focus (walk_at "hp"; done)); (focus (exact rfl)))
  | ((with_reducible apply g_Kind_joining); (focus (assumption; done)); (focus (walk_at "hp"; done)))
  | ((with_reducible apply g_Kind_none); (focus (assumption; done)); (focus (walk_at "hp"; done)))
  | ((with_reducible apply g_Kind_making); (focus (assumption; done)); (focus (walk_at "hp"; done)))
  | ((with_reducible apply g_Kind_word); (focus (assumption; done)); (focus (walk_at "hp"; done))))
def t_w10 (K : PySem.W.Frag) (L : Nat → Addr → LmX.LF) : TS :=
    tSeq (tAsg (tLst (tCons (tMake (He.ga K "Kind") (sp_Kind___init__ K) [] E0 (tCons (tOp (rIxT K) (tVar 7) (tC (.int 0))) (tCons (tOp (rIxT K) (tVar 7) (tC (.int 1))) (tCons (tOp (rIxT K) (tVar 7) (tC (.int 2))) (tCons (tVar 8) (tNil)))))) (tNil))) (gName 10))
    (tSeq (tDrop (tBM K "list" rAppend (tVar 10) (tCons (tMakeN (He.ga K "Kind") 0 4 (sp_Kind___init__ K) (fun vs zs => [vs.getD 0 .non, zs.getD 3 .non, zs.getD 2 .non, zs.getD 1 .non, zs.getD 0 .non]) E0 tNil (tCons (tVar 8) (tCons (tOp (rIxT K) (tVar 7) (tC (.int 2))) (tCons (tOp (rIxT K) (tVar 7) (tC (.int 1))) (tCons (tOp (rIxT K) (tVar 7) (tC (.int 0))) (tNil)))))) (tNil))))
    (tSeq (tIfS (tTest (tOp oIsN (tOp (rIxT K) (tVar 7) (tC (.int 2))) (tC .non))) (tDrop (tBM K "list" rAppend (tVar 10) (tCons (tMakeN (He.ga K "Kind") 2 1 (sp_Kind___init__ K) (fun vs zs => [vs.getD 0 .non, vs.getD 1 .non, vs.getD 2 .non, .non, zs.getD 0 .non]) E0 (tCons (tOp (rIxT K) (tVar 7) (tC (.int 0))) (tCons (tOp (rIxT K) (tVar 7) (tC (.int 1))) (tNil))) (tCons (tVar 8) (tNil))) (tNil)))) (tNext))
    (tSeq (tFor (iList K (tVar 10)) (gName 11) (tSeq (tIfS (tOr (tNot (tB (tCall (sp__law_same K) [] E0 (tCons (tMeth (He.ga K "Kind") "fold" (sp_Kind_fold K L) [] E0 (tVar 11) (tCons (tVar 4) (tNil))) (tCons (tVar 9) (tNil)))))) (tTest (tOp rNe (tCB (cReprI (He.ga K "Kind") (sp_Kind___repr__ K)) (tCons (tVar 11) (tNil))) (tOp oAddS (tOp oAddS (tC (.str "Kind(")) (tVar 8)) (tC (.str ")")))))) (tRet (tC (.bl false))) (tNext))
    (tIfS (tOr (tNot (tB (tCall (sp__law_same K) [] E0 (tCons (tMethN (He.ga K "Kind") "fold" 0 1 (sp_Kind_fold K L) (fun vs zs => [vs.getD 0 .non, zs.getD 0 .non]) E0 (tVar 11) tNil (tCons (tVar 4) (tNil))) (tCons (tVar 9) (tNil)))))) (tNot (tB (tCall (sp__law_same K) [] E0 (tCons (tMeth (He.ga K "Kind") "fold" (sp_Kind_fold K L) [] E0 (tVar 11) (tCons (tLst (tNil)) (tNil))) (tCons (tOp (rIxT K) (tVar 7) (tC (.int 1))) (tNil))))))) (tRet (tC (.bl false))) (tNext))))
    (tSeq (tIfS (tOr (tTest (tOp rNe (tCB (cReprI (He.ga K "Kind") (sp_Kind___repr__ K)) (tCons (tMake (He.ga K "Kind") (sp_Kind___init__ K) [.non, .str "kind"] E0 (tCons (tOp (rIxT K) (tVar 7) (tC (.int 0))) (tCons (tOp (rIxT K) (tVar 7) (tC (.int 1))) (tNil)))) (tNil))) (tC (.str "Kind(kind)")))) (tTest (tOp oNeD (tVar 4) (tVar 3)))) (tRet (tC (.bl false))) (tNext))
    (tSeq (tDrop (tBM K "list" rAppend (tVar 4) (tCons (tCall sp__law_draw [] E0 (tCons (tVar 2) (tCons (tC (.int 9)) (tNil)))) (tNil))))
    (tFor (iList K (tVar 10)) (gName 11) (tIfS (tOr (tNot (tB (tCall (sp__law_same K) [] E0 (tCons (tMeth (He.ga K "Kind") "fold" (sp_Kind_fold K L) [] E0 (tVar 11) (tCons (tVar 4) (tNil))) (tCons (tCall (sp__law_fold K L) [] E0 (tCons (tVar 7) (tCons (tVar 4) (tNil)))) (tNil)))))) (tNot (tB (tCall (sp__law_same K) [] E0 (tCons (tMeth (He.ga K "Kind") "fold" (sp_Kind_fold K L) [] E0 (tVar 11) (tCons (tVar 3) (tNil))) (tCons (tVar 9) (tNil))))))) (tRet (tC (.bl false))) (tNext))))))))
def t_w7 (K : PySem.W.Frag) (L : Nat → Addr → LmX.LF) : TS :=
    tSeq (tAsg (tCall (sp__law_kind K L) [] E0 (tCons (tCall sp__law_draw [] E0 (tCons (tVar 2) (tCons (tC (.int 22)) (tNil)))) (tNil))) (gName 7))
    (tSeq (tAsg (tCall sp__law_name [] E0 (tCons (tVar 2) (tCons (tC (.str "")) (tNil)))) (gName 8))
    (tSeq (tAsg (tCall (sp__law_fold K L) [] E0 (tCons (tVar 7) (tCons (tVar 3) (tNil)))) (gName 9))
    (tSeq (tAsg (tLst (tCons (tMake (He.ga K "Kind") (sp_Kind___init__ K) [] E0 (tCons (tOp (rIxT K) (tVar 7) (tC (.int 0))) (tCons (tOp (rIxT K) (tVar 7) (tC (.int 1))) (tCons (tOp (rIxT K) (tVar 7) (tC (.int 2))) (tCons (tVar 8) (tNil)))))) (tNil))) (gName 10))
    (tSeq (tDrop (tBM K "list" rAppend (tVar 10) (tCons (tMakeN (He.ga K "Kind") 0 4 (sp_Kind___init__ K) (fun vs zs => [vs.getD 0 .non, zs.getD 3 .non, zs.getD 2 .non, zs.getD 1 .non, zs.getD 0 .non]) E0 tNil (tCons (tVar 8) (tCons (tOp (rIxT K) (tVar 7) (tC (.int 2))) (tCons (tOp (rIxT K) (tVar 7) (tC (.int 1))) (tCons (tOp (rIxT K) (tVar 7) (tC (.int 0))) (tNil)))))) (tNil))))
    (tSeq (tIfS (tTest (tOp oIsN (tOp (rIxT K) (tVar 7) (tC (.int 2))) (tC .non))) (tDrop (tBM K "list" rAppend (tVar 10) (tCons (tMakeN (He.ga K "Kind") 2 1 (sp_Kind___init__ K) (fun vs zs => [vs.getD 0 .non, vs.getD 1 .non, vs.getD 2 .non, .non, zs.getD 0 .non]) E0 (tCons (tOp (rIxT K) (tVar 7) (tC (.int 0))) (tCons (tOp (rIxT K) (tVar 7) (tC (.int 1))) (tNil))) (tCons (tVar 8) (tNil))) (tNil)))) (tNext))
    (tSeq (tFor (iList K (tVar 10)) (gName 11) (tSeq (tIfS (tOr (tNot (tB (tCall (sp__law_same K) [] E0 (tCons (tMeth (He.ga K "Kind") "fold" (sp_Kind_fold K L) [] E0 (tVar 11) (tCons (tVar 4) (tNil))) (tCons (tVar 9) (tNil)))))) (tTest (tOp rNe (tCB (cReprI (He.ga K "Kind") (sp_Kind___repr__ K)) (tCons (tVar 11) (tNil))) (tOp oAddS (tOp oAddS (tC (.str "Kind(")) (tVar 8)) (tC (.str ")")))))) (tRet (tC (.bl false))) (tNext))
    (tIfS (tOr (tNot (tB (tCall (sp__law_same K) [] E0 (tCons (tMethN (He.ga K "Kind") "fold" 0 1 (sp_Kind_fold K L) (fun vs zs => [vs.getD 0 .non, zs.getD 0 .non]) E0 (tVar 11) tNil (tCons (tVar 4) (tNil))) (tCons (tVar 9) (tNil)))))) (tNot (tB (tCall (sp__law_same K) [] E0 (tCons (tMeth (He.ga K "Kind") "fold" (sp_Kind_fold K L) [] E0 (tVar 11) (tCons (tLst (tNil)) (tNil))) (tCons (tOp (rIxT K) (tVar 7) (tC (.int 1))) (tNil))))))) (tRet (tC (.bl false))) (tNext))))
    (tSeq (tIfS (tOr (tTest (tOp rNe (tCB (cReprI (He.ga K "Kind") (sp_Kind___repr__ K)) (tCons (tMake (He.ga K "Kind") (sp_Kind___init__ K) [.non, .str "kind"] E0 (tCons (tOp (rIxT K) (tVar 7) (tC (.int 0))) (tCons (tOp (rIxT K) (tVar 7) (tC (.int 1))) (tNil)))) (tNil))) (tC (.str "Kind(kind)")))) (tTest (tOp oNeD (tVar 4) (tVar 3)))) (tRet (tC (.bl false))) (tNext))
    (tSeq (tDrop (tBM K "list" rAppend (tVar 4) (tCons (tCall sp__law_draw [] E0 (tCons (tVar 2) (tCons (tC (.int 9)) (tNil)))) (tNil))))
    (tFor (iList K (tVar 10)) (gName 11) (tIfS (tOr (tNot (tB (tCall (sp__law_same K) [] E0 (tCons (tMeth (He.ga K "Kind") "fold" (sp_Kind_fold K L) [] E0 (tVar 11) (tCons (tVar 4) (tNil))) (tCons (tCall (sp__law_fold K L) [] E0 (tCons (tVar 7) (tCons (tVar 4) (tNil)))) (tNil)))))) (tNot (tB (tCall (sp__law_same K) [] E0 (tCons (tMeth (He.ga K "Kind") "fold" (sp_Kind_fold K L) [] E0 (tVar 11) (tCons (tVar 3) (tNil))) (tCons (tVar 9) (tNil))))))) (tRet (tC (.bl false))) (tNext)))))))))))
theorem w10 {K : PySem.W.Frag} {L : Nat → Addr → LF} (C : C_Kind K) {H : Hp} {D : Ends} {a0 a1 a5 a6 a10 a11 a12 : Option V} {b p h T : Addr} {m : Nat} {v : V} {nd : PyData} {ns : List Int} {S : Addr → Prop} {jf : PyData → PyData → Option PyData} {mf : Int → Option PyData} {y : Str} {W : Nat → PyData → Prop} {d : PyData}
    (bag : Bag H b m) (hm : 100 ≤ m) (hp : H p = some (.lst (ns.map V.int))) (hh : H h = some (.lst (ns.map V.int))) (pb : p ≠ b) (hb : h ≠ b) (ph : p ≠ h) (hz : ns.length ≤ 2000) (sm : ∀ n ∈ ns, Sm n) (hS : ∀ x, S x → x ≠ b ∧ x ≠ h) (hy : y.length ≤ 8) (kt : KtAt K L S H T jf nd mf) (fr : ∀ x, H x = none → S x) (rv : R S H v d) (se : SemK W jf nd mf) (e1 : foldD jf mf nd ns = some d) (ok1 : noDic d = true ∧ d.depth ≤ 60)
    (q : ∀ (H' : Hp) (b10 b11 : Option V), Chg [b, h] H H' → D.nx [a0, a1, some (.ref b), some (.ref p), some (.ref h), a5, a6, some (.ref T), some (.str y), some v, b10, b11, a12] H') : t_w10 K L D [a0, a1, some (.ref b), some (.ref p), some (.ref h), a5, a6, some (.ref T), some (.str y), some v, a10, a11, a12] H := by
  show tSeq _ (tSeq _ (tSeq _ (t_w13 K L))) _ _ _
  obtain ⟨g, v1, mm, hT, hj, hn, hmv⟩ := id kt
  walk_at "wn"
  refine k_make fun a dx H1 na nd' ne c1 h1 => ?_
  refine ⟨a, dx, g, v1, mm, .str y, rfl, h1, fun H2 c2 h2 => ⟨rfl, ?_⟩⟩
  have c02 : Chg [] H H2 := c1.one c2 na
  have kd2 : KdAt K L S H2 a jf nd mf := ⟨dx, _, _, _, _, h2, hj.keep c02 .nil, hn.same c02, hmv.keep c02 .nil⟩
  have kw2 : KwAt K H2 a y := ⟨dx, _, _, _, h2⟩
  walk_at "wn"
  refine k_lst (by walk_at "sz") fun kl H3 nk c3 hk => ?_
  have c03 := c02.same c3
  have klb : kl ≠ b := fun e => (bag.same c02).some (by rw [← e]; exact nk)
  have klh : kl ≠ h := fun e => by rw [e, c02.at hh] at nk; cases nk
  have nk0 : H kl = none := c02.dom kl nk
  walk_at "wn"
  refine w_makeN ?_
  walk_at "wn"
  refine k_makeN rfl rfl fun a2 dx2 H4 na2 nd2 ne2 c4 h4 => ?_
  refine ⟨a2, dx2, g, v1, mm, .str y, rfl, h4, fun H5 c5 h5 => ⟨rfl, ?_⟩⟩
  have c35 : Chg [] H3 H5 := c4.one c5 na2
  have c05 := c03.same c35
  have hk5 := c35.at hk
  walk_at "wn"
  refine w_append hk5 (by show 1 < sizeLine; decide) fun H6 c6 h6 => ?_
  have nxk : NoX [kl] H5 := noX_lst hk5
  have nS : ∀ x, (S x ∧ H x ≠ none) → x ∉ [kl] := fun x z m => z.2 (by rw [List.mem_singleton.mp m]; exact nk0)
  have hmono : ∀ x, (S x ∧ H x ≠ none) → S x := fun x z => z.1
  have c06 : Chg [] H H6 := c05.one c6 nk0
  have kdx : ∀ (a' : Addr) (H' : Hp) (dx' : Addr) (w' : V), Chg [] H H' → H' a' = some (O_Kind K dx' g v1 mm w') → KdAt K L S H' a' jf nd mf := fun a' H' dx' w' c e => ⟨dx', _, _, _, _, e, hj.keep c .nil, hn.same c, hmv.keep c .nil⟩
  have h26 : H6 a = some (O_Kind K dx g v1 mm (.str y)) := c6.at1 ((c3.same c35).at h2) (fun e => by rw [e] at h2; exact absurd h2 (by rw [nk]; exact fun z => nomatch z))
  have h56 : H6 a2 = some (O_Kind K dx2 g v1 mm (.str y)) := c6.at1 h5 (fun e => by rw [e, hk] at na2; cases na2)
  have fin9 : ∀ (H' : Hp) (as : List Addr), Chg [] H H' → H' kl = some (.lst (as.map V.ref)) → as.length ≤ 3 → (∀ a' ∈ as, ∃ dx', H' a' = some (O_Kind K dx' g v1 mm (.str y))) → t_w13 K L D [a0, a1, some (.ref b), some (.ref p), some (.ref h), a5, a6, some (.ref T), some (.str y), some v, some (.ref kl), a11, a12] H' := fun H' as c e la ha =>
    w13 C (bag.same c) hm (c.at hp) (c.at hh) pb hb ph hz sm hS ⟨e, la, fun a' h' => by obtain ⟨dx', e'⟩ := ha a' h'; exact kdx a' H' dx' _ c e', fun a' h' => by obtain ⟨dx', e'⟩ := ha a' h'; exact ⟨dx', _, _, _, e'⟩⟩ hy klb klh (kt.same c) (fresh_chg c fr) (rv.same c) se e1 ok1 fun H9 b11 c9 => q H9 _ b11 (c.pre c9)
  have hT6 := c06.at hT
  walk_at "wn"
  refine w_iteD (fun hm0 => ?_) (fun hm0 => ?_)
  · subst hm0
    walk_at "wn"
    refine w_makeN ?_
    walk_at "wn"
    refine k_makeN rfl rfl fun a3 dx3 H7 na3 nd3 ne3 c7 h7 => ?_
    refine ⟨a3, dx3, g, v1, .non, .str y, rfl, h7, fun H8 c8 h8 => ⟨rfl, ?_⟩⟩
    have c68 : Chg [] H6 H8 := c7.one c8 na3
    have hk8 := c68.at h6
    walk_at "wn"
    refine w_append hk8 (by show 2 < sizeLine; decide) fun H9 c9 h9 => ?_
    have c09 : Chg [] H H9 := (c06.same c68).one c9 nk0
    refine fin9 H9 [a, a2, a3] c09 h9 (by show 3 ≤ 3; decide) fun a' ha' => ?_
    simp only [List.mem_cons, List.not_mem_nil, or_false] at ha'
    rcases ha' with rfl | rfl | rfl
    · exact ⟨dx, c9.at1 (c68.at h26) (fun e => by rw [e, h6] at h26; cases h26)⟩
    · exact ⟨dx2, c9.at1 (c68.at h56) (fun e => by rw [e, h6] at h56; cases h56)⟩
    · exact ⟨dx3, c9.at1 h8 (fun e => by rw [e, hk8] at h8; cases h8)⟩
  · walk_at "wn"
    refine fin9 H6 [a, a2] c06 h6 (by show 2 ≤ 3; decide) fun a' ha' => ?_
    simp only [List.mem_cons, List.not_mem_nil, or_false] at ha'
    rcases ha' with rfl | rfl
    · exact ⟨dx, h26⟩
    · exact ⟨dx2, h56⟩
theorem w7 {K : PySem.W.Frag} {L : Nat → Addr → LF} (C : C_Kind K) (dt : DT K) {H : Hp} {D : Ends} {a0 a1 a5 a6 a7 a8 a9 a10 a11 a12 : Option V} {b p h : Addr} {m : Nat} {ns : List Int}
    (bag : Bag H b m) (hm : 1000 ≤ m) (hp : H p = some (.lst (ns.map V.int))) (hh : H h = some (.lst (ns.map V.int))) (pb : p ≠ b) (hb : h ≠ b) (ph : p ≠ h) (hz : ns.length ≤ 2000) (sm : ∀ n ∈ ns, Sm n) (tK : TabS H (KP K) KQ) (bK : KP K ≠ b)
    (q : ∀ (H' : Hp) (b7 b8 b9 b10 b11 : Option V), Chg [b, h, KP K] H H' → TabS H' (KP K) KQ → D.nx [a0, a1, some (.ref b), some (.ref p), some (.ref h), a5, a6, b7, b8, b9, b10, b11, a12] H') : t_w7 K L D [a0, a1, some (.ref b), some (.ref p), some (.ref h), a5, a6, a7, a8, a9, a10, a11, a12] H := by
  show tSeq _ (tSeq _ (tSeq _ (t_w10 K L))) _ _ _
  obtain ⟨z1, z2, z3, hb1, _⟩ := id bag
  have nxb := noX_lst hb1
  have hK : KP K ≠ h := fun e => by obtain ⟨ps, t, _⟩ := tK; rw [e, hh] at t; cases t
  have pK : KP K ≠ p := fun e => by obtain ⟨ps, t, _⟩ := tK; rw [e, hp] at t; cases t
  walk_at "wn"
  refine u_draw bag (by omega) (by decide) (by decide) fun e1 H1 c1 bag1 e10 e11 => ?_
  obtain ⟨i, rfl⟩ : ∃ i : Nat, e1 = (i : Int) := ⟨e1.toNat, by omega⟩
  have tK1 := tabS_keep c1 nxb (by simpa using bK) tK
  have bn1 := bag1.some
  have fr1 : ∀ x, H1 x = none → x ≠ b ∧ x ≠ h ∧ x ≠ KP K := fun x e => ⟨(fun z => bn1 (by rw [← z]; exact e)), (fun z => by rw [z, c1.at1 hh hb] at e; cases e), (fun z => tabS_some tK1 (by rw [← z]; exact e))⟩
  walk_at "wn"
  refine ⟨i, fun x => x ≠ b ∧ x ≠ h ∧ x ≠ KP K, rfl, by omega, fr1, tK1, fun T H2 c2 tK2 kt => ?_⟩
  have bag2 : Bag H2 b (m - 1) := bag1.keep c2 (by simp [Ne.symm bK])
  obtain ⟨W, α, nm, se, _⟩ := semc_of i (by omega)
  have fr2 : ∀ x, H2 x = none → x ≠ b ∧ x ≠ h ∧ x ≠ KP K := fun x e => fr1 x (c2.dom x e)
  have hp2 := c2.at1 (c1.at1 hp pb) (Ne.symm pK)
  have hh2 := c2.at1 (c1.at1 hh hb) (Ne.symm hK)
  obtain ⟨y1, y2, y3, hb2, _⟩ := id bag2
  have nxb2 := noX_lst hb2
  walk_at "wn"
  refine ⟨b, "", m - 1, rfl, bag2, by omega, by decide +kernel, low_nil, fun y H3 c3 bag3 oky => ?_⟩
  have kt3 := kt.keep c3 nxb2 (fun x z m => z.1 (List.mem_singleton.mp m))
  have fr3 : ∀ x, H3 x = none → x ≠ b ∧ x ≠ h ∧ x ≠ KP K := fun x e => fr2 x (c3.dom x e)
  obtain ⟨d, ed, wd⟩ := se.fold ns 1 (kn i) (by omega) se.no sm
  walk_at "wn"
  refine ⟨T, p, ns, _, kj i, kn i, km i, d, rfl, c3.at1 hp2 pb, kt3, fr3, ed, fun v H4 c4 rv => ?_⟩
  walk_at "wn"
  have nxb4 : NoX [b, h] H4 := fun a m => by
    obtain ⟨z1, z2, z3, hb4, _⟩ := id (bag3.same c4)
    rcases List.mem_cons.mp m with rfl | m
    · exact noX_lst hb4 _ (by simp)
    · rw [List.mem_singleton.mp m]; exact noX_lst (c4.at (c3.at1 hh2 hb)) _ (by simp)
  have c04 : Chg [b, h, KP K] H H4 := (((c1.wide (by simp)).both (c2.wide (by simp))).both (c3.wide (by simp))).same c4
  have tK4 : TabS H4 (KP K) KQ := tabS_keep c4 .nil (by simp) (tabS_keep c3 nxb2 (by simpa using bK) tK2)
  exact w10 C (bag3.same c4) (by omega) (c4.at (c3.at1 hp2 pb)) (c4.at (c3.at1 hh2 hb)) pb hb ph hz sm (fun x z => ⟨z.1, z.2.1⟩) (nameS_iff.mp oky).2.1 (kt3.same c4) (fresh_chg c4 fr3) rv se ed (se.ok _ _ wd) fun H' b10 b11 c => q H' _ _ _ b10 b11 (c04.both (c.wide (by simp))) (tabS_keep c nxb4 (by simp [bK, hK]) tK4)
end Fg
namespace Fg
open PySem PySem.Spec PyProof.Rows L2 LamX LmX
local macro_rules | `(tactic| walk_at "hp") => `(tactic| first
  | assumption
  | exact upd_same
  | (refine Chg.at (by assumption) ?_; walk_at "hp")
  | (refine Chg.at1 (by assumption) ?_ (by walk_at "ne"); walk_at "hp"))
local macro_rules | `(tactic| walk_at "ne") => `(tactic| first | assumption | (apply Ne.symm; assumption))
local macro_rules | `(tactic| walk_at "sq") => `(tactic| first | assumption | exact sqL (by walk_at "hp") | (refine Chg.seq (by assumption) ?_; walk_at "sq"))
local macro_rules | `(tactic| walk_at "sz") => `(tactic| first | assumption | exact Nat.zero_le _ | (simp only [List.length_cons, List.length_nil]; decide) | exact Nat.le_trans (by first | omega | (simp; done) | (simp; omega)) (show 100000 ≤ sizeLine by decide) | exact Nat.lt_of_lt_of_le (by first | omega | (simp; done) | (simp; omega)) (show 100000 ≤ sizeLine by decide))
local macro_rules | `(tactic| walk_at "ix") => `(tactic| first | exact at0 | exact at1 | exact at2 | exact at3 | assumption | exact rfl | walk_at "ix2")
local macro_rules | `(tactic| walk_at "ix2") => `(tactic| fail)
local macro_rules | `(tactic| walk_at "num") => `(tactic| first | assumption | omega | decide | walk_at "num2")
local macro_rules | `(tactic| walk_at "num2") => `(tactic| fail)
local macro_rules | `(tactic| walk_at "im") => `(tactic| first | assumption | exact R.non (S := fun _ => False) | exact R.bl (S := fun _ => False) _ | exact R.int (S := fun _ => False) _ | exact R.str (S := fun _ => False) _ | (refine R.im (by assumption) ?_; walk_at "im"))
local macro_rules | `(tactic| walk_at "r") => `(tactic| first | assumption | exact R.non (S := fun _ => False) | exact R.bl (S := fun _ => False) _ | exact R.int (S := fun _ => False) _ | exact R.str (S := fun _ => False) _ | (refine R.same (by assumption) ?_; walk_at "r") | exact R.any (by walk_at "im"))
local macro_rules | `(tactic| walk_at "chg") => `(tactic| first
  | exact Chg.refl
  | assumption
  | (refine Chg.same ?_ (by assumption); walk_at "chg")
  | (refine Chg.both ?_ (by assumption); walk_at "chg")
  | (refine Chg.pre (by assumption) ?_; walk_at "chg"))
local macro_rules | `(tactic| walk_at "w1") => `(tactic| first
  | with_reducible apply w_seq
  | with_reducible apply w_asg
  | ((with_reducible apply w_var); (focus (exact rfl)))
  | with_reducible apply w_c
  | with_reducible apply w_op
  | with_reducible apply w_cons
  | with_reducible apply w_nil
  | with_reducible apply w_gName
  | with_reducible apply w_if
  | with_reducible apply w_test
  | with_reducible apply w_B
  | with_reducible apply w_isbl
  | with_reducible apply w_retN
  | with_reducible apply w_next
  | with_reducible apply w_drop
  | with_reducible apply w_cb
  | with_reducible apply w_call
  | with_reducible apply w_callN
  | with_reducible apply w_bm
  | with_reducible apply w_bm0
  | ((with_reducible apply w_tyL); (focus (walk_at "hp"; done)))
  | with_reducible apply w_dput
  | with_reducible apply w_m1
  | with_reducible apply w_isstr
  | with_reducible apply w_and
  | with_reducible apply w_or
  | with_reducible apply w_not
  | with_reducible apply w_andV
  | with_reducible apply w_orV
  | with_reducible apply w_notV
  | with_reducible apply w_ifE
  | with_reducible apply w_chain
  | with_reducible apply w_un
  | with_reducible apply w_neg
  | with_reducible apply w_add
  | with_reducible apply w_sub
  | ((with_reducible apply w_mod); (focus (walk_at "num"; done)))
  | ((with_reducible apply w_mul); (focus (walk_at "num"; done)))
  | ((with_reducible apply w_fdiv); (focus (walk_at "num"; done)))
  | ((with_reducible apply w_pow); (focus (walk_at "num"; done)))
  | with_reducible apply w_lt
  | with_reducible apply w_le
  | with_reducible apply w_gt
  | with_reducible apply w_ge
  | with_reducible apply w_ltS
  | with_reducible apply w_geS
  | with_reducible apply w_inC
  | with_reducible apply w_notInC
  | with_reducible apply w_isN
  | with_reducible apply w_notN
  | with_reducible apply w_isB
  | with_reducible apply w_notB
  | ((with_reducible apply w_addS); (focus (walk_at "sz"; done)))
  | ((with_reducible apply w_ixL); (focus (walk_at "sq"; done)); (focus (walk_at "ix"; done)))
  | ((with_reducible apply w_ixT); (focus (walk_at "hp"; done)); (focus (walk_at "ix"; done)))
  | ((with_reducible apply w_ixS); (focus (walk_at "sz"; done)); (focus (walk_at "ix"; done)))
  | with_reducible apply w_gSub
  | ((with_reducible apply w_gTup); (focus (walk_at "hp"; done)); (focus (exact rfl)))
  | with_reducible apply w_gCons
  | with_reducible apply w_gNil
  | ((with_reducible apply w_aug); (focus (exact rfl)))
  | with_reducible apply w_ipI
  | ((with_reducible apply w_eq); (focus (exact rfl)))
  | ((with_reducible apply w_ne); (focus (exact rfl)))
  | with_reducible apply w_max
  | with_reducible apply w_min
  | with_reducible apply w_abs
  | with_reducible apply w_intB
  | with_reducible apply w_intI
  | with_reducible apply w_tup1
  | with_reducible apply w_lst1
  | with_reducible apply w_sl
  | with_reducible apply w_part
  | with_reducible apply w_noPart
  | with_reducible apply w_isint
  | ((with_reducible apply w_slS); (focus (walk_at "sz"; done)))
  | with_reducible apply w_iteT
  | with_reducible apply w_iteF
  | with_reducible apply w_iteN
  | ((with_reducible apply w_iteYes); (focus (exact rfl)))
  | ((with_reducible apply w_iteNo); (focus (exact rfl)))
  | ((with_reducible apply w_lenL); (focus (walk_at "sq"; done)))
  | ((with_reducible apply w_lenT); (focus (walk_at "hp"; done)))
  | ((with_reducible apply w_lenS); (focus (walk_at "sz"; done)))
  | with_reducible apply w_lc
  | with_reducible apply w_for
  | with_reducible apply w_yes
  | ((with_reducible apply w_wipe); (focus (exact rfl)))
  | with_reducible apply w_iList
  | with_reducible apply w_iTup
  | with_reducible apply w_iStr
  | with_reducible apply w_iRng1
  | with_reducible apply w_iRng2
  | with_reducible apply w_iZip
  | with_reducible apply w_iEnum
  | ((with_reducible apply d_iList); (focus (walk_at "sq"; done)))
  | ((with_reducible apply d_iTup); (focus (walk_at "hp"; done)))
  | with_reducible apply d_iStr
  | ((with_reducible apply d_iRng1); (focus (walk_at "num"; done)); (focus (walk_at "num"; done)))
  | ((with_reducible apply d_iRng2); (focus (walk_at "num"; done)); (focus (walk_at "num"; done)); (focus (walk_at "num"; done)); (focus (walk_at "num"; done)))
  | ((with_reducible apply d_iZip); (focus (walk_at "sq"; done)); (focus (walk_at "sq"; done)))
  | ((with_reducible apply d_iEnum); (focus (walk_at "sq"; done)))
  | walk_at "w2")
local macro_rules | `(tactic| walk_at "w2") => `(tactic| fail)
local macro_rules | `(tactic| walk_at "wn") => `(tactic| repeat walk_at "w1")
local macro_rules | `(tactic| walk_at "w") => `(tactic| repeat (first | walk_at "w1" | with_reducible apply w_ret))
local macro_rules | `(tactic| walk_at "w2") => `(tactic| first
  | ((with_reducible apply w_isInt); (focus (walk_at "r"; done)))
  | ((with_reducible apply w_isBool); (focus (walk_at "r"; done)))
  | ((with_reducible apply w_isStr); (focus (walk_at "r"; done)))
  | ((with_reducible apply w_isTup); (focus (walk_at "r"; done)))
  | ((with_reducible apply w_isLst); (focus (walk_at "r"; done)))
  | with_reducible apply w_fld
  | with_reducible apply w_sfld
  | with_reducible apply w_faug
  | with_reducible apply w_rAdd
  | with_reducible apply w_rSub
  | with_reducible apply w_make
  | with_reducible apply w_orT
  | with_reducible apply w_dgetd
  | with_reducible apply w_dgetk
  | with_reducible apply w_dsetd
  | ((with_reducible apply k_dgetd); (focus (walk_at "hp"; done)))
  | ((with_reducible apply k_dsetd); (focus (walk_at "hp"; done)))
  | walk_at "w3")
local macro_rules | `(tactic| walk_at "w3") => `(tactic| fail)
local macro_rules | `(tactic| walk_at "w3") => `(tactic| first
  | with_reducible apply w_mt
  | with_reducible apply w_makeX
  | ((with_reducible apply m_Kind); (focus (walk_at "hp"; done)); (focus (exact rfl)))
  | ((with_reducible apply g_Kind_joining); (focus (assumption; done)); (focus (walk_at "hp"; done)))
  | ((with_reducible apply g_Kind_none); (focus (assumption; done)); (focus (walk_at "hp"; done)))
  | ((with_reducible apply g_Kind_making); (focus (assumption; done)); (focus (walk_at "hp"; done)))
  | ((with_reducible apply g_Kind_word); (focus (assumption; done)); (focus (walk_at "hp"; done))))
def t_w3 (K : PySem.W.Frag) (L : Nat → Addr → LmX.LF) : TS :=
    tSeq (tAsg (tCB (cListQ K) (tCons (tVar 3) (tNil))) (gName 4))
    (tSeq (tAsg (tLc (iList K (tLst (tCons (tCall (sp_summedW K L) [] E0 (tNil)) (tCons (tCall (sp_leastW K L) [] E0 (tNil)) (tCons (tCall (sp_latestW K L) [] E0 (tNil)) (tCons (tCall (sp_strungW K L) [] E0 (tNil)) (tNil))))))) (gName 11) (tYes) (tTup (tCons (tCB (cReprI (He.ga K "Kind") (sp_Kind___repr__ K)) (tCons (tVar 11) (tNil))) (tCons (tMeth (He.ga K "Kind") "fold" (sp_Kind_fold K L) [] E0 (tVar 11) (tCons (tVar 4) (tNil))) (tNil)))) [11]) (gName 5))
    (tSeq (tAsg (tCall sp__law_told_kinds [] E0 (tCons (tVar 3) (tNil))) (gName 6))
    (tSeq (tIfS (tOr (tTest (tOp oNeD (tVar 5) (tVar 6))) (tOr (tTest (tOp oNeD (tVar 4) (tVar 3))) (tNot (tB (tCB (rAll K) (tCons (tLc (iRng1 (tCons (tC (.int 4)) (tNil))) (gName 12) (tYes) (tCall (sp__law_same K) [] E0 (tCons (tOp (rIxT K) (tOp (rIxL K) (tVar 5) (tVar 12)) (tC (.int 1))) (tCons (tOp (rIxT K) (tOp (rIxL K) (tVar 6) (tVar 12)) (tC (.int 1))) (tNil)))) [12]) (tNil))))))) (tRet (tC (.bl false))) (tNext))
    (tSeq (tAsg (tCall (sp__law_kind K L) [] E0 (tCons (tCall sp__law_draw [] E0 (tCons (tVar 2) (tCons (tC (.int 22)) (tNil)))) (tNil))) (gName 7))
    (tSeq (tAsg (tCall sp__law_name [] E0 (tCons (tVar 2) (tCons (tC (.str "")) (tNil)))) (gName 8))
    (tSeq (tAsg (tCall (sp__law_fold K L) [] E0 (tCons (tVar 7) (tCons (tVar 3) (tNil)))) (gName 9))
    (tSeq (tAsg (tLst (tCons (tMake (He.ga K "Kind") (sp_Kind___init__ K) [] E0 (tCons (tOp (rIxT K) (tVar 7) (tC (.int 0))) (tCons (tOp (rIxT K) (tVar 7) (tC (.int 1))) (tCons (tOp (rIxT K) (tVar 7) (tC (.int 2))) (tCons (tVar 8) (tNil)))))) (tNil))) (gName 10))
    (tSeq (tDrop (tBM K "list" rAppend (tVar 10) (tCons (tMakeN (He.ga K "Kind") 0 4 (sp_Kind___init__ K) (fun vs zs => [vs.getD 0 .non, zs.getD 3 .non, zs.getD 2 .non, zs.getD 1 .non, zs.getD 0 .non]) E0 tNil (tCons (tVar 8) (tCons (tOp (rIxT K) (tVar 7) (tC (.int 2))) (tCons (tOp (rIxT K) (tVar 7) (tC (.int 1))) (tCons (tOp (rIxT K) (tVar 7) (tC (.int 0))) (tNil)))))) (tNil))))
    (tSeq (tIfS (tTest (tOp oIsN (tOp (rIxT K) (tVar 7) (tC (.int 2))) (tC .non))) (tDrop (tBM K "list" rAppend (tVar 10) (tCons (tMakeN (He.ga K "Kind") 2 1 (sp_Kind___init__ K) (fun vs zs => [vs.getD 0 .non, vs.getD 1 .non, vs.getD 2 .non, .non, zs.getD 0 .non]) E0 (tCons (tOp (rIxT K) (tVar 7) (tC (.int 0))) (tCons (tOp (rIxT K) (tVar 7) (tC (.int 1))) (tNil))) (tCons (tVar 8) (tNil))) (tNil)))) (tNext))
    (tSeq (tFor (iList K (tVar 10)) (gName 11) (tSeq (tIfS (tOr (tNot (tB (tCall (sp__law_same K) [] E0 (tCons (tMeth (He.ga K "Kind") "fold" (sp_Kind_fold K L) [] E0 (tVar 11) (tCons (tVar 4) (tNil))) (tCons (tVar 9) (tNil)))))) (tTest (tOp rNe (tCB (cReprI (He.ga K "Kind") (sp_Kind___repr__ K)) (tCons (tVar 11) (tNil))) (tOp oAddS (tOp oAddS (tC (.str "Kind(")) (tVar 8)) (tC (.str ")")))))) (tRet (tC (.bl false))) (tNext))
    (tIfS (tOr (tNot (tB (tCall (sp__law_same K) [] E0 (tCons (tMethN (He.ga K "Kind") "fold" 0 1 (sp_Kind_fold K L) (fun vs zs => [vs.getD 0 .non, zs.getD 0 .non]) E0 (tVar 11) tNil (tCons (tVar 4) (tNil))) (tCons (tVar 9) (tNil)))))) (tNot (tB (tCall (sp__law_same K) [] E0 (tCons (tMeth (He.ga K "Kind") "fold" (sp_Kind_fold K L) [] E0 (tVar 11) (tCons (tLst (tNil)) (tNil))) (tCons (tOp (rIxT K) (tVar 7) (tC (.int 1))) (tNil))))))) (tRet (tC (.bl false))) (tNext))))
    (tSeq (tIfS (tOr (tTest (tOp rNe (tCB (cReprI (He.ga K "Kind") (sp_Kind___repr__ K)) (tCons (tMake (He.ga K "Kind") (sp_Kind___init__ K) [.non, .str "kind"] E0 (tCons (tOp (rIxT K) (tVar 7) (tC (.int 0))) (tCons (tOp (rIxT K) (tVar 7) (tC (.int 1))) (tNil)))) (tNil))) (tC (.str "Kind(kind)")))) (tTest (tOp oNeD (tVar 4) (tVar 3)))) (tRet (tC (.bl false))) (tNext))
    (tSeq (tDrop (tBM K "list" rAppend (tVar 4) (tCons (tCall sp__law_draw [] E0 (tCons (tVar 2) (tCons (tC (.int 9)) (tNil)))) (tNil))))
    (tFor (iList K (tVar 10)) (gName 11) (tIfS (tOr (tNot (tB (tCall (sp__law_same K) [] E0 (tCons (tMeth (He.ga K "Kind") "fold" (sp_Kind_fold K L) [] E0 (tVar 11) (tCons (tVar 4) (tNil))) (tCons (tCall (sp__law_fold K L) [] E0 (tCons (tVar 7) (tCons (tVar 4) (tNil)))) (tNil)))))) (tNot (tB (tCall (sp__law_same K) [] E0 (tCons (tMeth (He.ga K "Kind") "fold" (sp_Kind_fold K L) [] E0 (tVar 11) (tCons (tVar 3) (tNil))) (tCons (tVar 9) (tNil))))))) (tRet (tC (.bl false))) (tNext)))))))))))))))
def t_w5 (K : PySem.W.Frag) (L : Nat → Addr → LmX.LF) : TS :=
    tSeq (tAsg (tCall sp__law_told_kinds [] E0 (tCons (tVar 3) (tNil))) (gName 6))
    (tSeq (tIfS (tOr (tTest (tOp oNeD (tVar 5) (tVar 6))) (tOr (tTest (tOp oNeD (tVar 4) (tVar 3))) (tNot (tB (tCB (rAll K) (tCons (tLc (iRng1 (tCons (tC (.int 4)) (tNil))) (gName 12) (tYes) (tCall (sp__law_same K) [] E0 (tCons (tOp (rIxT K) (tOp (rIxL K) (tVar 5) (tVar 12)) (tC (.int 1))) (tCons (tOp (rIxT K) (tOp (rIxL K) (tVar 6) (tVar 12)) (tC (.int 1))) (tNil)))) [12]) (tNil))))))) (tRet (tC (.bl false))) (tNext))
    (tSeq (tAsg (tCall (sp__law_kind K L) [] E0 (tCons (tCall sp__law_draw [] E0 (tCons (tVar 2) (tCons (tC (.int 22)) (tNil)))) (tNil))) (gName 7))
    (tSeq (tAsg (tCall sp__law_name [] E0 (tCons (tVar 2) (tCons (tC (.str "")) (tNil)))) (gName 8))
    (tSeq (tAsg (tCall (sp__law_fold K L) [] E0 (tCons (tVar 7) (tCons (tVar 3) (tNil)))) (gName 9))
    (tSeq (tAsg (tLst (tCons (tMake (He.ga K "Kind") (sp_Kind___init__ K) [] E0 (tCons (tOp (rIxT K) (tVar 7) (tC (.int 0))) (tCons (tOp (rIxT K) (tVar 7) (tC (.int 1))) (tCons (tOp (rIxT K) (tVar 7) (tC (.int 2))) (tCons (tVar 8) (tNil)))))) (tNil))) (gName 10))
    (tSeq (tDrop (tBM K "list" rAppend (tVar 10) (tCons (tMakeN (He.ga K "Kind") 0 4 (sp_Kind___init__ K) (fun vs zs => [vs.getD 0 .non, zs.getD 3 .non, zs.getD 2 .non, zs.getD 1 .non, zs.getD 0 .non]) E0 tNil (tCons (tVar 8) (tCons (tOp (rIxT K) (tVar 7) (tC (.int 2))) (tCons (tOp (rIxT K) (tVar 7) (tC (.int 1))) (tCons (tOp (rIxT K) (tVar 7) (tC (.int 0))) (tNil)))))) (tNil))))
    (tSeq (tIfS (tTest (tOp oIsN (tOp (rIxT K) (tVar 7) (tC (.int 2))) (tC .non))) (tDrop (tBM K "list" rAppend (tVar 10) (tCons (tMakeN (He.ga K "Kind") 2 1 (sp_Kind___init__ K) (fun vs zs => [vs.getD 0 .non, vs.getD 1 .non, vs.getD 2 .non, .non, zs.getD 0 .non]) E0 (tCons (tOp (rIxT K) (tVar 7) (tC (.int 0))) (tCons (tOp (rIxT K) (tVar 7) (tC (.int 1))) (tNil))) (tCons (tVar 8) (tNil))) (tNil)))) (tNext))
    (tSeq (tFor (iList K (tVar 10)) (gName 11) (tSeq (tIfS (tOr (tNot (tB (tCall (sp__law_same K) [] E0 (tCons (tMeth (He.ga K "Kind") "fold" (sp_Kind_fold K L) [] E0 (tVar 11) (tCons (tVar 4) (tNil))) (tCons (tVar 9) (tNil)))))) (tTest (tOp rNe (tCB (cReprI (He.ga K "Kind") (sp_Kind___repr__ K)) (tCons (tVar 11) (tNil))) (tOp oAddS (tOp oAddS (tC (.str "Kind(")) (tVar 8)) (tC (.str ")")))))) (tRet (tC (.bl false))) (tNext))
    (tIfS (tOr (tNot (tB (tCall (sp__law_same K) [] E0 (tCons (tMethN (He.ga K "Kind") "fold" 0 1 (sp_Kind_fold K L) (fun vs zs => [vs.getD 0 .non, zs.getD 0 .non]) E0 (tVar 11) tNil (tCons (tVar 4) (tNil))) (tCons (tVar 9) (tNil)))))) (tNot (tB (tCall (sp__law_same K) [] E0 (tCons (tMeth (He.ga K "Kind") "fold" (sp_Kind_fold K L) [] E0 (tVar 11) (tCons (tLst (tNil)) (tNil))) (tCons (tOp (rIxT K) (tVar 7) (tC (.int 1))) (tNil))))))) (tRet (tC (.bl false))) (tNext))))
    (tSeq (tIfS (tOr (tTest (tOp rNe (tCB (cReprI (He.ga K "Kind") (sp_Kind___repr__ K)) (tCons (tMake (He.ga K "Kind") (sp_Kind___init__ K) [.non, .str "kind"] E0 (tCons (tOp (rIxT K) (tVar 7) (tC (.int 0))) (tCons (tOp (rIxT K) (tVar 7) (tC (.int 1))) (tNil)))) (tNil))) (tC (.str "Kind(kind)")))) (tTest (tOp oNeD (tVar 4) (tVar 3)))) (tRet (tC (.bl false))) (tNext))
    (tSeq (tDrop (tBM K "list" rAppend (tVar 4) (tCons (tCall sp__law_draw [] E0 (tCons (tVar 2) (tCons (tC (.int 9)) (tNil)))) (tNil))))
    (tFor (iList K (tVar 10)) (gName 11) (tIfS (tOr (tNot (tB (tCall (sp__law_same K) [] E0 (tCons (tMeth (He.ga K "Kind") "fold" (sp_Kind_fold K L) [] E0 (tVar 11) (tCons (tVar 4) (tNil))) (tCons (tCall (sp__law_fold K L) [] E0 (tCons (tVar 7) (tCons (tVar 4) (tNil)))) (tNil)))))) (tNot (tB (tCall (sp__law_same K) [] E0 (tCons (tMeth (He.ga K "Kind") "fold" (sp_Kind_fold K L) [] E0 (tVar 11) (tCons (tVar 3) (tNil))) (tCons (tVar 9) (tNil))))))) (tRet (tC (.bl false))) (tNext)))))))))))))
def t_w0 (K : PySem.W.Frag) (L : Nat → Addr → LmX.LF) : TS :=
    tSeq (tAsg (tCall sp__law_bag [] E0 (tCons (tCall (sp__law_cell_at K) [] E0 (tCons (tVar 0) (tCons (tVar 1) (tNil)))) (tCons (tVar 1) (tNil)))) (gName 2))
    (tSeq (tAsg (tCall sp__law_row [] E0 (tCons (tVar 2) (tCons (tC (.int 12)) (tNil)))) (gName 3))
    (tSeq (tIfS (tAnd (tTest (tOp rEq (tVar 1) (tC (.int 0)))) (tTest (tOp rEq (tCall sp__law_draw [] E0 (tCons (tVar 2) (tCons (tC (.int 8)) (tNil)))) (tC (.int 7))))) (tAsg (tCall sp__law_many [] E0 (tCons (tVar 2) (tNil))) (gName 3)) (tNext))
    (tSeq (tAsg (tCB (cListQ K) (tCons (tVar 3) (tNil))) (gName 4))
    (tSeq (tAsg (tLc (iList K (tLst (tCons (tCall (sp_summedW K L) [] E0 (tNil)) (tCons (tCall (sp_leastW K L) [] E0 (tNil)) (tCons (tCall (sp_latestW K L) [] E0 (tNil)) (tCons (tCall (sp_strungW K L) [] E0 (tNil)) (tNil))))))) (gName 11) (tYes) (tTup (tCons (tCB (cReprI (He.ga K "Kind") (sp_Kind___repr__ K)) (tCons (tVar 11) (tNil))) (tCons (tMeth (He.ga K "Kind") "fold" (sp_Kind_fold K L) [] E0 (tVar 11) (tCons (tVar 4) (tNil))) (tNil)))) [11]) (gName 5))
    (tSeq (tAsg (tCall sp__law_told_kinds [] E0 (tCons (tVar 3) (tNil))) (gName 6))
    (tSeq (tIfS (tOr (tTest (tOp oNeD (tVar 5) (tVar 6))) (tOr (tTest (tOp oNeD (tVar 4) (tVar 3))) (tNot (tB (tCB (rAll K) (tCons (tLc (iRng1 (tCons (tC (.int 4)) (tNil))) (gName 12) (tYes) (tCall (sp__law_same K) [] E0 (tCons (tOp (rIxT K) (tOp (rIxL K) (tVar 5) (tVar 12)) (tC (.int 1))) (tCons (tOp (rIxT K) (tOp (rIxL K) (tVar 6) (tVar 12)) (tC (.int 1))) (tNil)))) [12]) (tNil))))))) (tRet (tC (.bl false))) (tNext))
    (tSeq (tAsg (tCall (sp__law_kind K L) [] E0 (tCons (tCall sp__law_draw [] E0 (tCons (tVar 2) (tCons (tC (.int 22)) (tNil)))) (tNil))) (gName 7))
    (tSeq (tAsg (tCall sp__law_name [] E0 (tCons (tVar 2) (tCons (tC (.str "")) (tNil)))) (gName 8))
    (tSeq (tAsg (tCall (sp__law_fold K L) [] E0 (tCons (tVar 7) (tCons (tVar 3) (tNil)))) (gName 9))
    (tSeq (tAsg (tLst (tCons (tMake (He.ga K "Kind") (sp_Kind___init__ K) [] E0 (tCons (tOp (rIxT K) (tVar 7) (tC (.int 0))) (tCons (tOp (rIxT K) (tVar 7) (tC (.int 1))) (tCons (tOp (rIxT K) (tVar 7) (tC (.int 2))) (tCons (tVar 8) (tNil)))))) (tNil))) (gName 10))
    (tSeq (tDrop (tBM K "list" rAppend (tVar 10) (tCons (tMakeN (He.ga K "Kind") 0 4 (sp_Kind___init__ K) (fun vs zs => [vs.getD 0 .non, zs.getD 3 .non, zs.getD 2 .non, zs.getD 1 .non, zs.getD 0 .non]) E0 tNil (tCons (tVar 8) (tCons (tOp (rIxT K) (tVar 7) (tC (.int 2))) (tCons (tOp (rIxT K) (tVar 7) (tC (.int 1))) (tCons (tOp (rIxT K) (tVar 7) (tC (.int 0))) (tNil)))))) (tNil))))
    (tSeq (tIfS (tTest (tOp oIsN (tOp (rIxT K) (tVar 7) (tC (.int 2))) (tC .non))) (tDrop (tBM K "list" rAppend (tVar 10) (tCons (tMakeN (He.ga K "Kind") 2 1 (sp_Kind___init__ K) (fun vs zs => [vs.getD 0 .non, vs.getD 1 .non, vs.getD 2 .non, .non, zs.getD 0 .non]) E0 (tCons (tOp (rIxT K) (tVar 7) (tC (.int 0))) (tCons (tOp (rIxT K) (tVar 7) (tC (.int 1))) (tNil))) (tCons (tVar 8) (tNil))) (tNil)))) (tNext))
    (tSeq (tFor (iList K (tVar 10)) (gName 11) (tSeq (tIfS (tOr (tNot (tB (tCall (sp__law_same K) [] E0 (tCons (tMeth (He.ga K "Kind") "fold" (sp_Kind_fold K L) [] E0 (tVar 11) (tCons (tVar 4) (tNil))) (tCons (tVar 9) (tNil)))))) (tTest (tOp rNe (tCB (cReprI (He.ga K "Kind") (sp_Kind___repr__ K)) (tCons (tVar 11) (tNil))) (tOp oAddS (tOp oAddS (tC (.str "Kind(")) (tVar 8)) (tC (.str ")")))))) (tRet (tC (.bl false))) (tNext))
    (tIfS (tOr (tNot (tB (tCall (sp__law_same K) [] E0 (tCons (tMethN (He.ga K "Kind") "fold" 0 1 (sp_Kind_fold K L) (fun vs zs => [vs.getD 0 .non, zs.getD 0 .non]) E0 (tVar 11) tNil (tCons (tVar 4) (tNil))) (tCons (tVar 9) (tNil)))))) (tNot (tB (tCall (sp__law_same K) [] E0 (tCons (tMeth (He.ga K "Kind") "fold" (sp_Kind_fold K L) [] E0 (tVar 11) (tCons (tLst (tNil)) (tNil))) (tCons (tOp (rIxT K) (tVar 7) (tC (.int 1))) (tNil))))))) (tRet (tC (.bl false))) (tNext))))
    (tSeq (tIfS (tOr (tTest (tOp rNe (tCB (cReprI (He.ga K "Kind") (sp_Kind___repr__ K)) (tCons (tMake (He.ga K "Kind") (sp_Kind___init__ K) [.non, .str "kind"] E0 (tCons (tOp (rIxT K) (tVar 7) (tC (.int 0))) (tCons (tOp (rIxT K) (tVar 7) (tC (.int 1))) (tNil)))) (tNil))) (tC (.str "Kind(kind)")))) (tTest (tOp oNeD (tVar 4) (tVar 3)))) (tRet (tC (.bl false))) (tNext))
    (tSeq (tDrop (tBM K "list" rAppend (tVar 4) (tCons (tCall sp__law_draw [] E0 (tCons (tVar 2) (tCons (tC (.int 9)) (tNil)))) (tNil))))
    (tFor (iList K (tVar 10)) (gName 11) (tIfS (tOr (tNot (tB (tCall (sp__law_same K) [] E0 (tCons (tMeth (He.ga K "Kind") "fold" (sp_Kind_fold K L) [] E0 (tVar 11) (tCons (tVar 4) (tNil))) (tCons (tCall (sp__law_fold K L) [] E0 (tCons (tVar 7) (tCons (tVar 4) (tNil)))) (tNil)))))) (tNot (tB (tCall (sp__law_same K) [] E0 (tCons (tMeth (He.ga K "Kind") "fold" (sp_Kind_fold K L) [] E0 (tVar 11) (tCons (tVar 3) (tNil))) (tCons (tVar 9) (tNil))))))) (tRet (tC (.bl false))) (tNext))))))))))))))))))
def wd4 : Nat → Str
  | 0 => "Kind(summed)"
  | 1 => "Kind(least)"
  | 2 => "Kind(latest)"
  | _ => "Kind(strung)"
/-- rows of texts and worths, as the law keeps them -/
def RowsAt (S : Addr → Prop) (H : Hp) (p : Addr) (jd : Nat → PyData) : Prop := ∃ xs : List V, H p = some (.lst xs) ∧ xs.length = 4 ∧ ∀ j y, xs[j]? = some y → ∃ T v, y = .ref T ∧ H T = some (.tup [.str (wd4 j), v]) ∧ R S H v (jd j)
theorem RowsAt.keep {S : Addr → Prop} {M : List Addr} {H H' : Hp} {p : Addr} {jd : Nat → PyData} (c : Chg M H H') (hs : ∀ a, S a → a ∉ M) (hp : p ∉ M) (h : RowsAt S H p jd) : RowsAt S H' p jd := by
  obtain ⟨xs, h1, h2, h3⟩ := h
  refine ⟨xs, c.keep _ _ h1 hp, h2, fun j y e => ?_⟩
  obtain ⟨T, v, e1, e2, e3⟩ := h3 j y e
  exact ⟨T, v, e1, c.tup _ _ e2, e3.keep c hs⟩
theorem RowsAt.same {S : Addr → Prop} {H H' : Hp} {p : Addr} {jd : Nat → PyData} (c : Chg [] H H') (h : RowsAt S H p jd) : RowsAt S H' p jd := h.keep c (fun _ _ => by simp) (by simp)
def rowsD (jd : Nat → PyData) : PyData := .list [.tuple [.str (wd4 0), jd 0], .tuple [.str (wd4 1), jd 1], .tuple [.str (wd4 2), jd 2], .tuple [.str (wd4 3), jd 3]]
theorem RowsAt.r {S : Addr → Prop} {H : Hp} {p : Addr} {jd : Nat → PyData} (h : RowsAt S H p jd) : R (fun _ => True) H (.ref p) (rowsD jd) := by
  obtain ⟨xs, h1, h2, h3⟩ := h
  refine .lst trivial h1 (ra_of (by rw [h2]; rfl) fun j y d e e2 => ?_)
  obtain ⟨T, v, rfl, f2, f3⟩ := h3 j y e
  have hd : d = .tuple [.str (wd4 j), jd j] := by
    match j, e2 with
    | 0, e2 => cases e2; rfl
    | 1, e2 => cases e2; rfl
    | 2, e2 => cases e2; rfl
    | 3, e2 => cases e2; rfl
    | n + 4, e2 => simp at e2
  rw [hd]
  exact .tup f2 (.cons (.str _) (.cons (f3.mono fun _ _ => trivial) .nil))
theorem rowsD_ok {jd : Nat → PyData} (h : ∀ j, j < 4 → noDic (jd j) = true ∧ (jd j).depth ≤ 60) : noDic (rowsD jd) = true ∧ ((∀ j, j < 4 → (jd j).depth ≤ 50) → (rowsD jd).depth ≤ 60) := by
  refine ⟨?_, fun h2 => ?_⟩
  · show ((true && (noDic (jd 0) && true)) && ((true && (noDic (jd 1) && true)) && ((true && (noDic (jd 2) && true)) && ((true && (noDic (jd 3) && true)) && true)))) = true
    rw [(h 0 (by decide)).1, (h 1 (by decide)).1, (h 2 (by decide)).1, (h 3 (by decide)).1]
    rfl
  · have := h2 0 (by decide)
    have := h2 1 (by decide)
    have := h2 2 (by decide)
    have := h2 3 (by decide)
    show max (max 0 (max (jd 0).depth 0) + 1) (max (max 0 (max (jd 1).depth 0) + 1) (max (max 0 (max (jd 2).depth 0) + 1) (max (max 0 (max (jd 3).depth 0) + 1) 0))) + 1 ≤ 60
    omega
/-- the four folds -/
theorem fours {ns : List Int} (hz : ns.length ≤ 2000) (sm : ∀ n ∈ ns, Sm n) : ∃ jd : Nat → PyData, (∀ j, j < 4 → foldD (kj j) (km j) (kn j) ns = some (jd j) ∧ noDic (jd j) = true ∧ (jd j).depth = 0) ∧ ∀ t lo la s, Fours ns t lo la s → jd 0 = .int t ∧ jd 1 = lo ∧ jd 2 = la ∧ jd 3 = .str s := by
  have f : ∀ j, j < 4 → ∃ d, foldD (kj j) (km j) (kn j) ns = some d := fun j h => by
    obtain ⟨W, α, nm, se, _⟩ := semc_of j (by omega)
    obtain ⟨d, ed, _⟩ := se.fold ns 1 (kn j) (by omega) se.no sm
    exact ⟨d, ed⟩
  obtain ⟨d0, e0⟩ := f 0 (by decide)
  obtain ⟨d1, e1⟩ := f 1 (by decide)
  obtain ⟨d2, e2⟩ := f 2 (by decide)
  obtain ⟨d3, e3⟩ := f 3 (by decide)
  have k0 : ∃ t : Int, d0 = .int t := by
    obtain ⟨W, h⟩ : ∃ W : Unit, SemK WI (kj 0) (kn 0) (km 0) := ⟨(), semI ⟨_, rfl⟩ idI (fun a b => ⟨_, rfl⟩)⟩
    obtain ⟨d, ed, wd⟩ := h.fold ns 1 (kn 0) (by omega) h.no sm
    rw [e0] at ed
    cases ed
    exact wd
  have kl : d1 = .none ∨ ∃ t : Int, d1 = .int t := by
    cases ns with
    | nil => cases e1; exact .inl rfl
    | cons a r =>
      obtain ⟨m, em, _⟩ := le_fold r a
      have : foldD (kj 1) (km 1) (kn 1) (a :: r) = some (.int m) := em
      rw [e1] at this
      cases this
      exact .inr ⟨_, rfl⟩
  have ka : d2 = .none ∨ ∃ t : Int, d2 = .int t := by
    rcases List.eq_nil_or_concat ns with h | ⟨r, n, h⟩
    · subst h; cases e2; exact .inl rfl
    · have h : ns = r ++ [n] := by rw [h]; simp
      rw [h, last_fold] at e2
      cases e2
      exact .inr ⟨_, rfl⟩
  have k3 : ∃ s : Str, d3 = .str s := by
    have h : SemK WS (kj 3) (kn 3) (km 3) := semS rfl (fun n h => ⟨_, mkD_s h, text32 (sm30 h)⟩) (fun a b h => ⟨_, s2_s _ h, by rw [len_append]; omega⟩)
    obtain ⟨d, ed, wd⟩ := h.fold ns 1 (kn 3) (by omega) h.no sm
    rw [e3] at ed
    cases ed
    obtain ⟨s, rfl, _⟩ := wd
    exact ⟨s, rfl⟩
  refine ⟨fun | 0 => d0 | 1 => d1 | 2 => d2 | _ => d3, fun j h => ?_, fun t lo la s F => ?_⟩
  · match j, h with
    | 0, _ => obtain ⟨t, rfl⟩ := k0; exact ⟨e0, rfl, rfl⟩
    | 1, _ => rcases kl with rfl | ⟨t, rfl⟩ <;> exact ⟨e1, rfl, rfl⟩
    | 2, _ => rcases ka with rfl | ⟨t, rfl⟩ <;> exact ⟨e2, rfl, rfl⟩
    | 3, _ => obtain ⟨t, rfl⟩ := k3; exact ⟨e3, rfl, rfl⟩
    | n + 4, h => omega
  · have z0 := F.sum
    have z1 := F.low
    have z2 := F.last
    have z3 := F.txt
    rw [e0] at z0
    rw [e1] at z1
    rw [e2] at z2
    rw [e3] at z3
    exact ⟨Option.some.inj z0, Option.some.inj z1, Option.some.inj z2, Option.some.inj z3⟩
theorem w5 {K : PySem.W.Frag} {L : Nat → Addr → LF} (C : C_Kind K) (dt : DT K) {H : Hp} {D : Ends} {a0 a1 a6 a7 a8 a9 a10 a11 a12 : Option V} {b p h F : Addr} {m : Nat} {ns : List Int} {jd : Nat → PyData} {S : Addr → Prop}
    (bag : Bag H b m) (hm : 1000 ≤ m) (hp : H p = some (.lst (ns.map V.int))) (hh : H h = some (.lst (ns.map V.int))) (pb : p ≠ b) (hb : h ≠ b) (ph : p ≠ h) (hz : ns.length ≤ 2000) (sm : ∀ n ∈ ns, Sm n) (tK : TabS H (KP K) KQ) (bK : KP K ≠ b)
    (rf : RowsAt S H F jd) (fj : ∀ j, j < 4 → noDic (jd j) = true ∧ (jd j).depth = 0) (fo : ∀ t lo la s, Fours ns t lo la s → jd 0 = .int t ∧ jd 1 = lo ∧ jd 2 = la ∧ jd 3 = .str s)
    (q : ∀ (H' : Hp) (b6 b7 b8 b9 b10 b11 : Option V), Chg [b, h, KP K] H H' → TabS H' (KP K) KQ → D.nx [a0, a1, some (.ref b), some (.ref p), some (.ref h), some (.ref F), b6, b7, b8, b9, b10, b11, a12] H') : t_w5 K L D [a0, a1, some (.ref b), some (.ref p), some (.ref h), some (.ref F), a6, a7, a8, a9, a10, a11, a12] H := by
  show tSeq _ (tSeq _ (t_w7 K L)) _ _ _
  walk_at "wn"
  refine ⟨p, ns, rfl, hp, hz, sm, fun G t0 t1 t2 t3 t v1 v2 lo la s H1 c1 fs i1 i2 hG h0 h1 h2 h3 => ?_⟩
  obtain ⟨g0, g1, g2, g3⟩ := fo _ _ _ _ fs
  have rg : RowsAt (fun _ => False) H1 G jd := ⟨_, hG, rfl, fun j y e => by
    match j, e with
    | 0, e => cases e; exact ⟨t0, _, rfl, h0, by rw [g0]; exact .int t⟩
    | 1, e => cases e; exact ⟨t1, _, rfl, h1, by rw [g1]; exact i1⟩
    | 2, e => cases e; exact ⟨t2, _, rfl, h2, by rw [g2]; exact i2⟩
    | 3, e => cases e; exact ⟨t3, _, rfl, h3, by rw [g3]; exact .str s⟩
    | n + 4, e => simp at e⟩
  have rf1 := rf.same c1
  obtain ⟨k1, k2⟩ := rowsD_ok (jd := jd) fun j h => ⟨(fj j h).1, by rw [(fj j h).2]; exact Nat.zero_le _⟩
  have k3 := k2 fun j h => by rw [(fj j h).2]; exact Nat.zero_le _
  obtain ⟨o1, o2⟩ := ints_ok ns
  walk_at "wn"
  refine w_neS rf1.r rg.r k1 k3 ?_
  walk_at "wn"
  refine w_neS (R.lst (S := fun _ => True) trivial (c1.at hh) (ints_ra ns)) (R.lst (S := fun _ => True) trivial (c1.at hp) (ints_ra ns)) o1 o2 ?_
  walk_at "wn"
  obtain ⟨xs, hF, lx, hx⟩ := id rf1
  obtain ⟨ys, hG', ly, hy⟩ := id rg
  refine w_lcP walk_range [] (fun _ _ => True) (fun _ y _ => y = V.bl true) trivial (fun _ _ _ _ _ _ _ => trivial) (fun _ _ => trivial) (fun E j acc z Ha Hb hj nE hE el iv ca _ y => ?_) (fun E acc Ha nE ca _ el hE yss => ?_)
  · obtain ⟨rfl, rfl⟩ := y
    simp only [Int.zero_add]
    have hj4 : j < 4 := hj
    have ex : xs[j]? = some xs[j] := List.getElem?_eq_getElem (by omega)
    have ey : ys[j]? = some ys[j] := List.getElem?_eq_getElem (by omega)
    obtain ⟨T, v, f1, f2, f3⟩ := hx j _ ex
    obtain ⟨T', v', f4, f5, f6⟩ := hy j _ ey
    rw [f1] at ex
    rw [f4] at ey
    have ex' : atI xs ((j : Nat) : Int) = some (.ref T) := atI_nat ex
    have ey' : atI ys ((j : Nat) : Int) = some (.ref T') := atI_nat ey
    have hFa := ca.at hF
    have hGa := ca.at hG'
    have f2a := ca.at f2
    have f5a := ca.at f5
    walk_at "wn"
    refine ⟨v, v', jd j, S, _, rfl, f3.same ca, f6.same ca, (fj j hj4).1, by rw [(fj j hj4).2]; exact Nat.zero_le _, ?_⟩
    exact lcp_end (fun _ _ _ _ _ _ _ => trivial) (fun _ _ _ _ _ _ c h => h) nE (fun a ha => by cases ha) hE el (by omega) iv .refl trivial rfl
  · have eacc : acc = (List.replicate 4 true).map V.bl := all_bl (n := 4) el rfl fun i y e => ⟨true, by
      have hi : i < acc.length := (List.getElem?_eq_some_iff.mp e).1
      rw [List.getElem?_replicate, if_pos (by omega)], yss i y e⟩
    rw [eacc] at hE
    walk_at "wn"
    refine w_all hE ?_
    walk_at "wn"
    have c := c1.same ca
    exact w7 C dt (bag.same c) hm (c.at hp) (c.at hh) pb hb ph hz sm (tabS_keep c .nil (by simp) tK) bK fun H' b7 b8 b9 b10 b11 c' t' => q H' _ b7 b8 b9 b10 b11 (c.pre c') t'
end Fg
namespace Fg
open PySem PySem.Spec PyProof.Rows L2 LamX LmX
local macro_rules | `(tactic| walk_at "hp") => `(tactic| first
  | assumption
  | exact upd_same
  | (refine Chg.at (by assumption) ?_; walk_at "hp")
  | (refine Chg.at1 (by assumption) ?_ (by walk_at "ne"); walk_at "hp"))
local macro_rules | `(tactic| walk_at "ne") => `(tactic| first | assumption | (apply Ne.symm; assumption))
local macro_rules | `(tactic| walk_at "sq") => `(tactic| first | assumption | exact sqL (by walk_at "hp") | (refine Chg.seq (by assumption) ?_; walk_at "sq"))
local macro_rules | `(tactic| walk_at "sz") => `(tactic| first | assumption | exact Nat.zero_le _ | (simp only [List.length_cons, List.length_nil]; decide) | exact Nat.le_trans (by first | omega | (simp; done) | (simp; omega)) (show 100000 ≤ sizeLine by decide) | exact Nat.lt_of_lt_of_le (by first | omega | (simp; done) | (simp; omega)) (show 100000 ≤ sizeLine by decide))
local macro_rules | `(tactic| walk_at "ix") => `(tactic| first | exact at0 | exact at1 | exact at2 | exact at3 | assumption | exact rfl | walk_at "ix2")
local macro_rules | `(tactic| walk_at "ix2") => `(tactic| fail)
local macro_rules | `(tactic| walk_at "num") => `(tactic| first | assumption | omega | decide | walk_at "num2")
local macro_rules | `(tactic| walk_at "num2") => `(tactic| fail)
local macro_rules | `(tactic| walk_at "im") => `(tactic| first | assumption | exact R.non (S := fun _ => False) | exact R.bl (S := fun _ => False) _ | exact R.int (S := fun _ => False) _ | exact R.str (S := fun _ => False) _ | (refine R.im (by assumption) ?_; walk_at "im"))
local macro_rules | `(tactic| walk_at "r") => `(tactic| first | assumption | exact R.non (S := fun _ => False) | exact R.bl (S := fun _ => False) _ | exact R.int (S := fun _ => False) _ | exact R.str (S := fun _ => False) _ | (refine R.same (by assumption) ?_; walk_at "r") | exact R.any (by walk_at "im"))
local macro_rules | `(tactic| walk_at "chg") => `(tactic| first
  | exact Chg.refl
  | assumption
  | (refine Chg.same ?_ (by assumption); walk_at "chg")
  | (refine Chg.both ?_ (by assumption); walk_at "chg")
  | (refine Chg.pre (by assumption) ?_; walk_at "chg"))
local macro_rules | `(tactic| walk_at "w1") => `(tactic| first
  | with_reducible apply w_seq
  | with_reducible apply w_asg
  | ((with_reducible apply w_var); (focus (exact rfl)))
  | with_reducible apply w_c
  | with_reducible apply w_op
  | with_reducible apply w_cons
  | with_reducible apply w_nil
  | with_reducible apply w_gName
  | with_reducible apply w_if
  | with_reducible apply w_test
  | with_reducible apply w_B
  | with_reducible apply w_isbl
  | with_reducible apply w_retN
  | with_reducible apply w_next
  | with_reducible apply w_drop
  | with_reducible apply w_cb
  | with_reducible apply w_call
  | with_reducible apply w_callN
  | with_reducible apply w_bm
  | with_reducible apply w_bm0
  | ((with_reducible apply w_tyL); (focus (walk_at "hp"; done)))
  | with_reducible apply w_dput
  | with_reducible apply w_m1
  | with_reducible apply w_isstr
  | with_reducible apply w_and
  | with_reducible apply w_or
  | with_reducible apply w_not
  | with_reducible apply w_andV
  | with_reducible apply w_orV
  | with_reducible apply w_notV
  | with_reducible apply w_ifE
  | with_reducible apply w_chain
  | with_reducible apply w_un
  | with_reducible apply w_neg
  | with_reducible apply w_add
  | with_reducible apply w_sub
  | ((with_reducible apply w_mod); (focus (walk_at "num"; done)))
  | ((with_reducible apply w_mul); (focus (walk_at "num"; done)))
  | ((with_reducible apply w_fdiv); (focus (walk_at "num"; done)))
  | ((with_reducible apply w_pow); (focus (walk_at "num"; done)))
  | with_reducible apply w_lt
  | with_reducible apply w_le
  | with_reducible apply w_gt
  | with_reducible apply w_ge
  | with_reducible apply w_ltS
  | with_reducible apply w_geS
  | with_reducible apply w_inC
  | with_reducible apply w_notInC
  | with_reducible apply w_isN
  | with_reducible apply w_notN
  | with_reducible apply w_isB
  | with_reducible apply w_notB
  | ((with_reducible apply w_addS); (focus (walk_at "sz"; done)))
  | ((with_reducible apply w_ixL); (focus (walk_at "sq"; done)); (focus (walk_at "ix"; done)))
  | ((with_reducible apply w_ixT); (focus (walk_at "hp"; done)); (focus (walk_at "ix"; done)))
  | ((with_reducible apply w_ixS); (focus (walk_at "sz"; done)); (focus (walk_at "ix"; done)))
  | with_reducible apply w_gSub
  | ((with_reducible apply w_gTup); (focus (walk_at "hp"; done)); (focus (exact rfl)))
  | with_reducible apply w_gCons
  | with_reducible apply w_gNil
  | ((with_reducible apply w_aug); (focus (exact rfl)))
  | with_reducible apply w_ipI
  | ((with_reducible apply w_eq); (focus (exact rfl)))
  | ((with_reducible apply w_ne); (focus (exact rfl)))
  | with_reducible apply w_max
  | with_reducible apply w_min
  | with_reducible apply w_abs
  | with_reducible apply w_intB
  | with_reducible apply w_intI
  | with_reducible apply w_tup1
  | with_reducible apply w_lst1
  | with_reducible apply w_sl
  | with_reducible apply w_part
  | with_reducible apply w_noPart
  | with_reducible apply w_isint
  | ((with_reducible apply w_slS); (focus (walk_at "sz"; done)))
  | with_reducible apply w_iteT
  | with_reducible apply w_iteF
  | with_reducible apply w_iteN
  | ((with_reducible apply w_iteYes); (focus (exact rfl)))
  | ((with_reducible apply w_iteNo); (focus (exact rfl)))
  | ((with_reducible apply w_lenL); (focus (walk_at "sq"; done)))
  | ((with_reducible apply w_lenT); (focus (walk_at "hp"; done)))
  | ((with_reducible apply w_lenS); (focus (walk_at "sz"; done)))
  | with_reducible apply w_lc
  | with_reducible apply w_for
  | with_reducible apply w_yes
  | ((with_reducible apply w_wipe); (focus (exact rfl)))
  | with_reducible apply w_iList
  | with_reducible apply w_iTup
  | with_reducible apply w_iStr
  | with_reducible apply w_iRng1
  | with_reducible apply w_iRng2
  | with_reducible apply w_iZip
  | with_reducible apply w_iEnum
  | ((with_reducible apply d_iList); (focus (walk_at "sq"; done)))
  | ((with_reducible apply d_iTup); (focus (walk_at "hp"; done)))
  | with_reducible apply d_iStr
  | ((with_reducible apply d_iRng1); (focus (walk_at "num"; done)); (focus (walk_at "num"; done)))
  | ((with_reducible apply d_iRng2); (focus (walk_at "num"; done)); (focus (walk_at "num"; done)); (focus (walk_at "num"; done)); (focus (walk_at "num"; done)))
  | ((with_reducible apply d_iZip); (focus (walk_at "sq"; done)); (focus (walk_at "sq"; done)))
  | ((with_reducible apply d_iEnum); (focus (walk_at "sq"; done)))
  | walk_at "w2")
local macro_rules | `(tactic| walk_at "w2") => `(tactic| fail)
local macro_rules | `(tactic| walk_at "wn") => `(tactic| repeat walk_at "w1")
local macro_rules | `(tactic| walk_at "w") => `(tactic| repeat (first | walk_at "w1" | with_reducible apply w_ret))
local macro_rules | `(tactic| walk_at "w2") => `(tactic| first
  | ((with_reducible apply w_isInt); (focus (walk_at "r"; done)))
  | ((with_reducible apply w_isBool); (focus (walk_at "r"; done)))
  | ((with_reducible apply w_isStr); (focus (walk_at "r"; done)))
  | ((with_reducible apply w_isTup); (focus (walk_at "r"; done)))
  | ((with_reducible apply w_isLst); (focus (walk_at "r"; done)))
  | with_reducible apply w_fld
  | with_reducible apply w_sfld
  | with_reducible apply w_faug
  | with_reducible apply w_rAdd
  | with_reducible apply w_rSub
  | with_reducible apply w_make
  | with_reducible apply w_orT
  | with_reducible apply w_dgetd
  | with_reducible apply w_dgetk
  | with_reducible apply w_dsetd
  | ((with_reducible apply k_dgetd); (focus (walk_at "hp"; done)))
  | ((with_reducible apply k_dsetd); (focus (walk_at "hp"; done)))
  | walk_at "w3")
local macro_rules | `(tactic| walk_at "w3") => `(tactic| fail)
local macro_rules | `(tactic| walk_at "w3") => `(tactic| first
  | with_reducible apply w_mt
  | with_reducible apply w_makeX
  | ((with_reducible apply m_Kind); (focus (walk_at "hp"; done)); (focus (exact rfl)))
  | ((with_reducible apply g_Kind_joining); (focus (assumption; done)); (focus (walk_at "hp"; done)))
  | ((with_reducible apply g_Kind_none); (focus (assumption; done)); (focus (walk_at "hp"; done)))
  | ((with_reducible apply g_Kind_making); (focus (assumption; done)); (focus (walk_at "hp"; done)))
  | ((with_reducible apply g_Kind_word); (focus (assumption; done)); (focus (walk_at "hp"; done))))
def wx4 : Nat → Str
  | 0 => "summed"
  | 1 => "least"
  | 2 => "latest"
  | _ => "strung"
theorem wx_eq : ∀ j, j < 4 → Str.ofString "Kind(" ++ wx4 j ++ Str.ofString ")" = wd4 j
  | 0, _ => by decide +kernel
  | 1, _ => by decide +kernel
  | 2, _ => by decide +kernel
  | 3, _ => by decide +kernel
  | n + 4, h => absurd h (by omega)
theorem wx_len : ∀ j, (wx4 j).length ≤ 1000
  | 0 => by decide +kernel
  | 1 => by decide +kernel
  | 2 => by decide +kernel
  | n + 3 => by show (Str.ofString "strung").length ≤ 1000; decide +kernel
theorem w3 {K : PySem.W.Frag} {L : Nat → Addr → LF} (C : C_Kind K) (dt : DT K) {H : Hp} {D : Ends} {a0 a1 a4 a5 a6 a7 a8 a9 a10 a11 a12 : Option V} {b p : Addr} {m : Nat} {ns : List Int}
    (bag : Bag H b m) (hm : 1000 ≤ m) (hp : H p = some (.lst (ns.map V.int))) (pb : p ≠ b) (hz : ns.length ≤ 2000) (sm : ∀ n ∈ ns, Sm n) (tK : TabS H (KP K) KQ) (tS : TabS H (PS K) QS) (tT : TabS H (PT K) QT) (bK : KP K ≠ b) (bS : PS K ≠ b) (bT : PT K ≠ b)
    (q : ∀ (H' : Hp) (b4 b5 b6 b7 b8 b9 b10 b11 b12 : Option V), Chg [b, KP K, PS K, PT K] H H' → TabS H' (KP K) KQ → TabS H' (PS K) QS → TabS H' (PT K) QT → D.nx [a0, a1, some (.ref b), some (.ref p), b4, b5, b6, b7, b8, b9, b10, b11, b12] H') : t_w3 K L D [a0, a1, some (.ref b), some (.ref p), a4, a5, a6, a7, a8, a9, a10, a11, a12] H := by
  show tSeq _ (tSeq _ (t_w5 K L)) _ _ _
  obtain ⟨jd, fj, fo⟩ := fours hz sm
  have pS : PS K ≠ p := fun e => by obtain ⟨ps, t, _⟩ := tS; rw [e, hp] at t; cases t
  have pT : PT K ≠ p := fun e => by obtain ⟨ps, t, _⟩ := tT; rw [e, hp] at t; cases t
  walk_at "wn"
  refine w_listL (sqL hp) fun h H1 nh c1 hh => ?_
  have hb : h ≠ b := fun e => bag.some (by rw [← e]; exact nh)
  have ph : p ≠ h := fun e => by rw [e, nh] at hp; cases hp
  have hKh : KP K ≠ h := fun e => tabS_some tK (by rw [e]; exact nh)
  have hSh : PS K ≠ h := fun e => tabS_some tS (by rw [e]; exact nh)
  have hTh : PT K ≠ h := fun e => tabS_some tT (by rw [e]; exact nh)
  have tK1 := tabS_keep c1 .nil (by simp) tK
  have tS1 := tabS_keep c1 .nil (by simp) tS
  have tT1 := tabS_keep c1 .nil (by simp) tT
  have fr1 : ∀ x, H1 x = none → x ≠ b ∧ x ≠ h ∧ x ≠ KP K ∧ x ≠ PS K ∧ x ≠ PT K := fun x e => ⟨(fun z => (bag.same c1).some (by rw [← z]; exact e)), (fun z => by rw [z, hh] at e; cases e), (fun z => tabS_some tK1 (by rw [← z]; exact e)), (fun z => tabS_some tS1 (by rw [← z]; exact e)), (fun z => tabS_some tT1 (by rw [← z]; exact e))⟩
  walk_at "wn"
  refine ⟨rfl, tS1, fun x => x ≠ b ∧ x ≠ h ∧ x ≠ KP K ∧ x ≠ PS K ∧ x ≠ PT K, fr1, fun k0 H2 nk0 c2 tS2 kd0 kw0 => ?_⟩
  have fr2 : ∀ x, H2 x = none → x ≠ b ∧ x ≠ h ∧ x ≠ KP K ∧ x ≠ PS K ∧ x ≠ PT K := fun x e => fr1 x (c2.dom x e)
  have nxS := noX_tbl tS1
  have tK2 := tabS_keep c2 nxS (by simpa using dt.ks) tK1
  have tT2 := tabS_keep c2 nxS (by simpa using Ne.symm dt.st) tT1
  walk_at "wn"
  refine ⟨rfl, _, fr2, fun k1 H3 nk1 c3 kd1 kw1 => ?_⟩
  have fr3 := fresh_chg c3 fr2
  walk_at "wn"
  refine ⟨rfl, _, fr3, fun k2 H4 nk2 c4 kd2 kw2 => ?_⟩
  have fr4 := fresh_chg c4 fr3
  have tT4 := tabS_keep (c3.same c4) .nil (by simp) tT2
  walk_at "wn"
  refine ⟨rfl, tT4, _, fr4, fun k3 H5 nk3 c5 tT5 kd3 kw3 => ?_⟩
  have nxT := noX_tbl tT4
  have tK5 := tabS_keep c5 nxT (by simpa using dt.kt) (tabS_keep (c3.same c4) .nil (by simp) tK2)
  have tS5 := tabS_keep c5 nxT (by simpa using dt.st) (tabS_keep (c3.same c4) .nil (by simp) tS2)
  walk_at "wn"
  refine k_lst (by walk_at "sz") fun kl H6 nkl c6 hkl => ?_
  have c25 : Chg [PT K] H2 H5 := (c3.same c4).pre c5
  have sT : ∀ x, (x ≠ b ∧ x ≠ h ∧ x ≠ KP K ∧ x ≠ PS K ∧ x ≠ PT K) → x ∉ [PT K] := fun x z m => z.2.2.2.2 (List.mem_singleton.mp m)
  have kd06 := ((kd0.same (c3.same c4)).keep c5 nxT sT).same c6
  have kd16 := ((kd1.same c4).keep c5 nxT sT).same c6
  have kd26 := (kd2.keep c5 nxT sT).same c6
  have kd36 := kd3.same c6
  have kw06 := ((kw0.same (c3.same c4)).keep c5 nxT).same c6
  have kw16 := ((kw1.same c4).keep c5 nxT).same c6
  have kw26 := (kw2.keep c5 nxT).same c6
  have kw36 := kw3.same c6
  have hall : ∀ j y, ([V.ref k0, V.ref k1, V.ref k2, V.ref k3] : List V)[j]? = some y → ∃ a, y = V.ref a ∧ KdAt K L (fun x => x ≠ b ∧ x ≠ h ∧ x ≠ KP K ∧ x ≠ PS K ∧ x ≠ PT K) H6 a (kj j) (kn j) (km j) ∧ KwAt K H6 a (wx4 j) := fun j y e => by
    match j, e with
    | 0, e => cases e; exact ⟨k0, rfl, by rw [← ka0]; exact kd06, kw06⟩
    | 1, e => cases e; exact ⟨k1, rfl, kd16, kw16⟩
    | 2, e => cases e; exact ⟨k2, rfl, by rw [← ka2]; exact kd26, kw26⟩
    | 3, e => cases e; exact ⟨k3, rfl, by rw [← ka3, ← kb3]; exact kd36, kw36⟩
    | n + 4, e => simp at e
  have fr6 : ∀ x, H6 x = none → x ≠ b ∧ x ≠ h ∧ x ≠ KP K ∧ x ≠ PS K ∧ x ≠ PT K := fun x e => fr4 x (c5.dom x (c6.dom x e))
  have c12 : Chg [PS K, PT K] H1 H6 := ((c2.wide (M' := [PS K, PT K]) (by simp)).both (c25.wide (by simp))).same c6
  have hh6 : H6 h = some (.lst (ns.map V.int)) := c12.keep _ _ hh (by simp [Ne.symm hSh, Ne.symm hTh])
  have hp6 : H6 p = some (.lst (ns.map V.int)) := c12.keep _ _ (c1.at hp) (by simp [Ne.symm pS, Ne.symm pT])
  have bag6 : Bag H6 b m := (bag.same c1).keep c12 (by simp [Ne.symm bS, Ne.symm bT])
  have tK6 := tabS_keep c6 .nil (by simp) tK5
  have tS6 := tabS_keep c6 .nil (by simp) tS5
  have tT6 := tabS_keep c6 .nil (by simp) tT5
  clear kd0 kd1 kd2 kd3 kd06 kd16 kd26 kd36 kw0 kw1 kw2 kw3 kw06 kw16 kw26 kw36 fr1 fr2 fr3 fr4
  walk_at "wn"
  refine w_lcW (walk_list (K := K) (a := kl) (xs := [V.ref k0, V.ref k1, V.ref k2, V.ref k3])) (fun E j acc Hx => Chg [] H6 Hx ∧ ∀ i y, acc[i]? = some y → ∃ T v, y = V.ref T ∧ Hx T = some (.tup [.str (wd4 i), v]) ∧ R (fun x => (x ≠ b ∧ x ≠ h ∧ x ≠ KP K ∧ x ≠ PS K ∧ x ≠ PT K) ∧ x ≠ E) Hx v (jd i))
    (fun E Hx nE c hE => ⟨c, fun i y e => by simp at e⟩) (fun E j acc Hx _ _ z => sqL (z.1.at hkl)) (fun E j acc z Ha Hb hj nE hE el iv y => ?_) (fun E acc Ha nE el hE iv => ?_)
  · obtain ⟨rfl, ey⟩ := y
    obtain ⟨ca, ys⟩ := iv
    have hj4 : j < 4 := hj
    obtain ⟨a, rfl, kd, kw⟩ := hall j _ ey
    have kda := (kd.there.mono (S' := fun x => (x ≠ b ∧ x ≠ h ∧ x ≠ KP K ∧ x ≠ PS K ∧ x ≠ PT K) ∧ x ≠ E) fun x z => ⟨z.1, fun e => z.2 (by rw [e]; exact nE)⟩).same ca
    have kwa := kw.same ca
    have fra : ∀ x, Hb x = none → (x ≠ b ∧ x ≠ h ∧ x ≠ KP K ∧ x ≠ PS K ∧ x ≠ PT K) ∧ x ≠ E := fun x e => ⟨fr6 x (ca.dom x e), (fun z => by rw [z, hE] at e; cases e)⟩
    have hha := ca.at hh6
    have lw := wx_len j
    obtain ⟨dx, w0, w1, w2, h0k⟩ := id kwa
    clear kd kw
    walk_at "wn"
    refine w_reprI h0k ⟨a, wx4 j, rfl, kwa, lw, ?_⟩
    rw [wx_eq j hj4]
    refine ⟨_, rfl, ?_⟩
    walk_at "wn"
    refine ⟨a, h, ns, _, kj j, kn j, km j, jd j, rfl, hha, kda, fra, (fj j hj4).1, fun u Hc cc ru => ?_⟩
    walk_at "wn"
    refine k_tup (by walk_at "sz") fun T Hd nT cd hT => ?_
    have cad := cc.same cd
    refine lc_end (cad.at hE) el (by omega) fun He ce he => ⟨(ca.same cad).one ce nE, fun i y e => ?_⟩
    have hSE : ∀ x, ((x ≠ b ∧ x ≠ h ∧ x ≠ KP K ∧ x ≠ PS K ∧ x ≠ PT K) ∧ x ≠ E) → x ∉ [E] := fun x z m => z.2 (List.mem_singleton.mp m)
    by_cases hi : i < acc.length
    · rw [List.getElem?_append_left hi] at e
      obtain ⟨T', v', g1, g2, g3⟩ := ys i y e
      exact ⟨T', v', g1, ce.tup _ _ (cad.tup _ _ g2), (g3.same cad).keep ce hSE⟩
    · have hi2 : i = acc.length := by
        have := (List.getElem?_eq_some_iff.mp e).1
        rw [List.length_append, List.length_singleton] at this
        omega
      subst hi2
      rw [List.getElem?_append_right (Nat.le_refl _), Nat.sub_self] at e
      cases (Option.some.inj (show some (V.ref T) = some y from e))
      rw [el]
      exact ⟨T, u, rfl, ce.tup _ _ hT, (ru.same cd).keep ce hSE⟩
  · obtain ⟨ca, ys⟩ := iv
    have rf : RowsAt (fun x => (x ≠ b ∧ x ≠ h ∧ x ≠ KP K ∧ x ≠ PS K ∧ x ≠ PT K) ∧ x ≠ E) Ha E jd := ⟨acc, hE, el, ys⟩
    have c0a : Chg [b, KP K, PS K, PT K] H Ha := (c1.pre (c12.wide (M' := [b, KP K, PS K, PT K]) (by simp))).same ca
    have tKa := tabS_keep ca .nil (by simp) tK6
    have tSa := tabS_keep ca .nil (by simp) tS6
    have tTa := tabS_keep ca .nil (by simp) tT6
    have haa := ca.at hh6
    have nxa : NoX [b, h, KP K] Ha := fun a m => by
      obtain ⟨z1, z2, z3, hb4, _⟩ := id (bag6.same ca)
      rcases List.mem_cons.mp m with rfl | m
      · exact noX_lst hb4 _ (by simp)
      · rcases List.mem_cons.mp m with rfl | m
        · exact noX_lst haa _ (by simp)
        · rw [List.mem_singleton.mp m]; exact noX_tbl tKa _ (by simp)
    refine w5 C dt (bag6.same ca) hm (ca.at hp6) haa pb hb ph hz sm tKa bK rf (fun j h => (fj j h).2) fo fun H' b6 b7 b8 b9 b10 b11 c t => q H' _ _ b6 b7 b8 b9 b10 b11 _ (c0a.go c fun a m => ?_) t (tabS_keep c nxa (by simp [bS, hSh, Ne.symm dt.ks]) tSa) (tabS_keep c nxa (by simp [bT, hTh, Ne.symm dt.kt]) tTa)
    rcases List.mem_cons.mp m with rfl | m
    · exact .inl (by simp)
    · rcases List.mem_cons.mp m with rfl | m
      · exact .inr nh
      · exact .inl (by rw [List.mem_singleton.mp m]; simp)
theorem w0 {K : PySem.W.Frag} {L : Nat → Addr → LF} (C : C_Kind K) (lq : LQ L) (dt : DT K) {H : Hp} {D : Ends} {a2 a3 a4 a5 a6 a7 a8 a9 a10 a11 a12 : Option V} {s : Addr} {k : Nat} {ms : List Int} (hsc : SqL K H s (ms.map V.int)) (hk : k ≤ 20) (tK : TabS H (KP K) KQ) (tS : TabS H (PS K) QS) (tT : TabS H (PT K) QT)
    (q : ∀ (H' : Hp) (b2 b3 b4 b5 b6 b7 b8 b9 b10 b11 b12 : Option V), Chg [KP K, PS K, PT K] H H' → TabS H' (KP K) KQ → TabS H' (PS K) QS → TabS H' (PT K) QT → D.nx [some (.ref s), some (.int (k : Nat)), b2, b3, b4, b5, b6, b7, b8, b9, b10, b11, b12] H') : t_w0 K L D [some (.ref s), some (.int (k : Nat)), a2, a3, a4, a5, a6, a7, a8, a9, a10, a11, a12] H := by
  show tSeq _ (tSeq _ (tSeq _ (t_w3 K L))) _ _ _
  walk_at "wn"
  refine ⟨s, ms, (k : Nat), rfl, hsc, by omega, fun cell => ?_⟩
  walk_at "wn"
  refine ⟨cell, (k : Nat), rfl, by omega, by omega, fun b H1 nb c1 bag => ?_⟩
  have tK1 := tabS_keep c1 .nil (by simp) tK
  have tS1 := tabS_keep c1 .nil (by simp) tS
  have tT1 := tabS_keep c1 .nil (by simp) tT
  have bK : KP K ≠ b := fun e => tabS_some tK (by rw [e]; exact nb)
  have bS : PS K ≠ b := fun e => tabS_some tS (by rw [e]; exact nb)
  have bT : PT K ≠ b := fun e => tabS_some tT (by rw [e]; exact nb)
  walk_at "wn"
  refine ⟨b, 12, _, rfl, by decide, bag, by decide, fun p ns H2 np c2 bag2 hp lz hs => ?_⟩
  obtain ⟨x1, x2, x3, hb1, _⟩ := id bag
  have nx1 := noX_lst hb1
  have pb : p ≠ b := fun e => bag.some (by rw [← e]; exact np)
  have go : ∀ (H' : Hp) (p' : Addr) (ns' : List Int) (m' : Nat), Chg [b] H1 H' → Bag H' b m' → 1000 ≤ m' → H' p' = some (.lst (ns'.map V.int)) → p' ≠ b → ns'.length ≤ 2000 → (∀ n ∈ ns', Sm n) → t_w3 K L D [some (.ref s), some (.int (k : Nat)), some (.ref b), some (.ref p'), a4, a5, a6, a7, a8, a9, a10, a11, a12] H' := fun H' p' ns' m' c bg hm' hp' pb' hz' sm' =>
    w3 C dt bg hm' hp' pb' hz' sm' (tabS_keep c nx1 (by simpa using bK) tK1) (tabS_keep c nx1 (by simpa using bS) tS1) (tabS_keep c nx1 (by simpa using bT) tT1) bK bS bT fun H9 b4 b5 b6 b7 b8 b9 b10 b11 b12 c9 t1 t2 t3 => q H9 _ _ b4 b5 b6 b7 b8 b9 b10 b11 b12 (Chg.go (M := [KP K, PS K, PT K]) ((c1.one c nb).wide (by simp)) c9 fun a m => (List.mem_cons.mp m).elim (fun e => .inr (by rw [e]; exact nb)) fun m => .inl m) t1 t2 t3
  walk_at "wn"
  refine w_iteD (fun h1 => ?_) (fun h1 => ?_)
  · walk_at "wn"
    refine u_draw bag2 (by decide) (by decide) (by decide) fun e3 H3 c3 bag3 e30 e31 => ?_
    walk_at "wn"
    refine w_iteD (fun h2 => ?_) (fun h2 => ?_)
    · walk_at "wn"
      refine ⟨b, _, rfl, bag3, by decide, fun p' ns' H4 np' c4 bag4 hp' lz' hs' => ?_⟩
      walk_at "wn"
      exact go H4 p' ns' _ ((c2.both c3).both c4) bag4 (by decide) hp' (fun e => bag3.some (by rw [← e]; exact np')) lz' hs'
    · walk_at "wn"
      exact go H3 p ns _ (c2.both c3) bag3 (by decide) (c3.at1 hp pb) pb (by omega) hs
  · walk_at "wn"
    exact go H2 p ns _ c2 bag2 (by decide) hp pb (by omega) hs
theorem seq_tbl {K : PySem.W.Frag} {M : List Addr} {H H' : Hp} {a : Addr} {xs : List V} (c : Chg M H H') (hM : ∀ x ∈ M, ∃ ps, H x = some (.tbl ps)) (h : SqL K H a xs) : SqL K H' a xs := by
  rcases h with (h | ⟨o, h⟩) | h
  · exact .inl (.inl (c.keep _ _ h fun m => by obtain ⟨ps, e⟩ := hM a m; rw [e] at h; cases h))
  · exact .inl (.inr ⟨o, c.keep _ _ h fun m => by obtain ⟨ps, e⟩ := hM a m; rw [e] at h; cases h⟩)
  · exact .inr h
def sp_law (K : PySem.W.Frag) : Sp := fun vs H Q _ => ∃ (a : Addr) (ns : List Int), vs = [.ref a] ∧ SqL K H a (ns.map V.int) ∧ ns.length ≤ 100000 ∧ H (KP K) = some (.tbl #[]) ∧ H (PS K) = some (.tbl #[]) ∧ H (PT K) = some (.tbl #[]) ∧ ∀ H', Q (.bl true) H'
def t_law (K : PySem.W.Frag) (L : Nat → Addr → LmX.LF) : TS :=
    tSeq (tFor (iRng1 (tCons (tCB cMax (tCons (tC (.int 1)) (tCons (tCB cMin (tCons (tC (.int 20)) (tCons (tCB (cLenQ K) (tCons (tVar 0) (tNil))) (tNil)))) (tNil)))) (tNil))) (gName 1) (tSeq (tAsg (tCall sp__law_bag [] E0 (tCons (tCall (sp__law_cell_at K) [] E0 (tCons (tVar 0) (tCons (tVar 1) (tNil)))) (tCons (tVar 1) (tNil)))) (gName 2))
    (tSeq (tAsg (tCall sp__law_row [] E0 (tCons (tVar 2) (tCons (tC (.int 12)) (tNil)))) (gName 3))
    (tSeq (tIfS (tAnd (tTest (tOp rEq (tVar 1) (tC (.int 0)))) (tTest (tOp rEq (tCall sp__law_draw [] E0 (tCons (tVar 2) (tCons (tC (.int 8)) (tNil)))) (tC (.int 7))))) (tAsg (tCall sp__law_many [] E0 (tCons (tVar 2) (tNil))) (gName 3)) (tNext))
    (tSeq (tAsg (tCB (cListQ K) (tCons (tVar 3) (tNil))) (gName 4))
    (tSeq (tAsg (tLc (iList K (tLst (tCons (tCall (sp_summedW K L) [] E0 (tNil)) (tCons (tCall (sp_leastW K L) [] E0 (tNil)) (tCons (tCall (sp_latestW K L) [] E0 (tNil)) (tCons (tCall (sp_strungW K L) [] E0 (tNil)) (tNil))))))) (gName 11) (tYes) (tTup (tCons (tCB (cReprI (He.ga K "Kind") (sp_Kind___repr__ K)) (tCons (tVar 11) (tNil))) (tCons (tMeth (He.ga K "Kind") "fold" (sp_Kind_fold K L) [] E0 (tVar 11) (tCons (tVar 4) (tNil))) (tNil)))) [11]) (gName 5))
    (tSeq (tAsg (tCall sp__law_told_kinds [] E0 (tCons (tVar 3) (tNil))) (gName 6))
    (tSeq (tIfS (tOr (tTest (tOp oNeD (tVar 5) (tVar 6))) (tOr (tTest (tOp oNeD (tVar 4) (tVar 3))) (tNot (tB (tCB (rAll K) (tCons (tLc (iRng1 (tCons (tC (.int 4)) (tNil))) (gName 12) (tYes) (tCall (sp__law_same K) [] E0 (tCons (tOp (rIxT K) (tOp (rIxL K) (tVar 5) (tVar 12)) (tC (.int 1))) (tCons (tOp (rIxT K) (tOp (rIxL K) (tVar 6) (tVar 12)) (tC (.int 1))) (tNil)))) [12]) (tNil))))))) (tRet (tC (.bl false))) (tNext))
    (tSeq (tAsg (tCall (sp__law_kind K L) [] E0 (tCons (tCall sp__law_draw [] E0 (tCons (tVar 2) (tCons (tC (.int 22)) (tNil)))) (tNil))) (gName 7))
    (tSeq (tAsg (tCall sp__law_name [] E0 (tCons (tVar 2) (tCons (tC (.str "")) (tNil)))) (gName 8))
    (tSeq (tAsg (tCall (sp__law_fold K L) [] E0 (tCons (tVar 7) (tCons (tVar 3) (tNil)))) (gName 9))
    (tSeq (tAsg (tLst (tCons (tMake (He.ga K "Kind") (sp_Kind___init__ K) [] E0 (tCons (tOp (rIxT K) (tVar 7) (tC (.int 0))) (tCons (tOp (rIxT K) (tVar 7) (tC (.int 1))) (tCons (tOp (rIxT K) (tVar 7) (tC (.int 2))) (tCons (tVar 8) (tNil)))))) (tNil))) (gName 10))
    (tSeq (tDrop (tBM K "list" rAppend (tVar 10) (tCons (tMakeN (He.ga K "Kind") 0 4 (sp_Kind___init__ K) (fun vs zs => [vs.getD 0 .non, zs.getD 3 .non, zs.getD 2 .non, zs.getD 1 .non, zs.getD 0 .non]) E0 tNil (tCons (tVar 8) (tCons (tOp (rIxT K) (tVar 7) (tC (.int 2))) (tCons (tOp (rIxT K) (tVar 7) (tC (.int 1))) (tCons (tOp (rIxT K) (tVar 7) (tC (.int 0))) (tNil)))))) (tNil))))
    (tSeq (tIfS (tTest (tOp oIsN (tOp (rIxT K) (tVar 7) (tC (.int 2))) (tC .non))) (tDrop (tBM K "list" rAppend (tVar 10) (tCons (tMakeN (He.ga K "Kind") 2 1 (sp_Kind___init__ K) (fun vs zs => [vs.getD 0 .non, vs.getD 1 .non, vs.getD 2 .non, .non, zs.getD 0 .non]) E0 (tCons (tOp (rIxT K) (tVar 7) (tC (.int 0))) (tCons (tOp (rIxT K) (tVar 7) (tC (.int 1))) (tNil))) (tCons (tVar 8) (tNil))) (tNil)))) (tNext))
    (tSeq (tFor (iList K (tVar 10)) (gName 11) (tSeq (tIfS (tOr (tNot (tB (tCall (sp__law_same K) [] E0 (tCons (tMeth (He.ga K "Kind") "fold" (sp_Kind_fold K L) [] E0 (tVar 11) (tCons (tVar 4) (tNil))) (tCons (tVar 9) (tNil)))))) (tTest (tOp rNe (tCB (cReprI (He.ga K "Kind") (sp_Kind___repr__ K)) (tCons (tVar 11) (tNil))) (tOp oAddS (tOp oAddS (tC (.str "Kind(")) (tVar 8)) (tC (.str ")")))))) (tRet (tC (.bl false))) (tNext))
    (tIfS (tOr (tNot (tB (tCall (sp__law_same K) [] E0 (tCons (tMethN (He.ga K "Kind") "fold" 0 1 (sp_Kind_fold K L) (fun vs zs => [vs.getD 0 .non, zs.getD 0 .non]) E0 (tVar 11) tNil (tCons (tVar 4) (tNil))) (tCons (tVar 9) (tNil)))))) (tNot (tB (tCall (sp__law_same K) [] E0 (tCons (tMeth (He.ga K "Kind") "fold" (sp_Kind_fold K L) [] E0 (tVar 11) (tCons (tLst (tNil)) (tNil))) (tCons (tOp (rIxT K) (tVar 7) (tC (.int 1))) (tNil))))))) (tRet (tC (.bl false))) (tNext))))
    (tSeq (tIfS (tOr (tTest (tOp rNe (tCB (cReprI (He.ga K "Kind") (sp_Kind___repr__ K)) (tCons (tMake (He.ga K "Kind") (sp_Kind___init__ K) [.non, .str "kind"] E0 (tCons (tOp (rIxT K) (tVar 7) (tC (.int 0))) (tCons (tOp (rIxT K) (tVar 7) (tC (.int 1))) (tNil)))) (tNil))) (tC (.str "Kind(kind)")))) (tTest (tOp oNeD (tVar 4) (tVar 3)))) (tRet (tC (.bl false))) (tNext))
    (tSeq (tDrop (tBM K "list" rAppend (tVar 4) (tCons (tCall sp__law_draw [] E0 (tCons (tVar 2) (tCons (tC (.int 9)) (tNil)))) (tNil))))
    (tFor (iList K (tVar 10)) (gName 11) (tIfS (tOr (tNot (tB (tCall (sp__law_same K) [] E0 (tCons (tMeth (He.ga K "Kind") "fold" (sp_Kind_fold K L) [] E0 (tVar 11) (tCons (tVar 4) (tNil))) (tCons (tCall (sp__law_fold K L) [] E0 (tCons (tVar 7) (tCons (tVar 4) (tNil)))) (tNil)))))) (tNot (tB (tCall (sp__law_same K) [] E0 (tCons (tMeth (He.ga K "Kind") "fold" (sp_Kind_fold K L) [] E0 (tVar 11) (tCons (tVar 3) (tNil))) (tCons (tVar 9) (tNil))))))) (tRet (tC (.bl false))) (tNext))))))))))))))))))))
    (tRet (tC (.bl true)))
theorem pure_law {K : PySem.W.Frag} {L : Nat → Addr → LF} (C : C_Kind K) (lq : LQ L) (dt : DT K) (vs : List V) (H : Hp) (Q : VK) (E : XK) (hh : sp_law K vs H Q E) : t_law K L (fin Q) (start ["script", "k", "bag", "row", "handed", "found", "told", "kind_of", "label", "due", "kinds", "kind", "j"] vs) H := by
  obtain ⟨s, ms, rfl, hsc, hz, tK, tS, tT, q⟩ := hh
  show tSeq (tFor _ _ (t_w0 K L)) _ _ [some (.ref s), none, none, none, none, none, none, none, none, none, none, none, none] H
  walk_at "wn"
  have hn : ∃ n : Nat, n ≤ 20 ∧ (if (if ((ms.map V.int).length : Int) < 20 then ((ms.map V.int).length : Int) else 20) > 1 then (if ((ms.map V.int).length : Int) < 20 then ((ms.map V.int).length : Int) else 20) else 1) = (n : Int) := by
    refine ⟨(if (if ((ms.map V.int).length : Int) < 20 then ((ms.map V.int).length : Int) else 20) > 1 then (if ((ms.map V.int).length : Int) < 20 then ((ms.map V.int).length : Int) else 20) else 1).toNat, ?_, ?_⟩ <;> (split <;> split <;> omega)
  obtain ⟨n, hn, en⟩ := hn
  rw [en, Int.toNat_natCast]
  have hM : ∀ x ∈ [KP K, PS K, PT K], ∃ ps, H x = some (.tbl ps) := fun x m => by
    rcases List.mem_cons.mp m with e | m
    · exact ⟨_, e ▸ tK⟩
    · rcases List.mem_cons.mp m with e | m
      · exact ⟨_, e ▸ tS⟩
      · exact ⟨_, (List.mem_singleton.mp m) ▸ tT⟩
  refine for_it (walk_range (lo := 0) (n := n)) (fun i σ Hi => Chg [KP K, PS K, PT K] H Hi ∧ TabS Hi (KP K) KQ ∧ TabS Hi (PS K) QS ∧ TabS Hi (PT K) QT ∧ ∃ b1 b2 b3 b4 b5 b6 b7 b8 b9 b10 b11 b12 : Option V, σ = [some (.ref s), b1, b2, b3, b4, b5, b6, b7, b8, b9, b10, b11, b12])
    ⟨.refl, .nil tK, .nil tS, .nil tT, _, _, _, _, _, _, _, _, _, _, _, _, rfl⟩ (fun _ _ _ _ _ => trivial) (fun i v σ Hi0 Hi hi z y => ?_) (fun σ Hi z => ?_)
  · obtain ⟨ci, t1, t2, t3, b1, b2, b3, b4, b5, b6, b7, b8, b9, b10, b11, b12, rfl⟩ := z
    obtain ⟨rfl, rfl⟩ := y
    simp only [Int.zero_add]
    walk_at "wn"
    exact w0 C lq dt (seq_tbl ci hM hsc) (by omega) t1 t2 t3 fun H' d2 d3 d4 d5 d6 d7 d8 d9 d10 d11 d12 c u1 u2 u3 => ⟨ci.both c, u1, u2, u3, _, _, _, _, _, _, _, _, _, _, _, _, rfl⟩
  · obtain ⟨ci, t1, t2, t3, b1, b2, b3, b4, b5, b6, b7, b8, b9, b10, b11, b12, rfl⟩ := z
    walk_at "w"
    exact q Hi
end Fg
namespace Fg
open PySem PySem.Spec PyProof.Rows L2
section
abbrev MtD (K : PySem.W.Frag) (x qual : Str) (st : Stmt) (dvs : List V) (f : Addr) (fd : FuncData) : Prop := FunD K x qual (defArgs st) (defBody st) (defScope st) dvs [] f fd
section
variable {P : Program} {w : World} {K : PySem.W.Frag} {mg : Str → Option Value} {base : Heap} {x y qual : Str} {st : Stmt} {f : Addr} {fd : FuncData} {sp : Sp} {k : Nat} {ps : List Str} {dvs : List V} {C m : Str}
theorem MtP.mti (F : MtP K m qual st (He.ma K (He.ga K C) m) fd) (cl : Cls K (He.ga K C)) (M : Meth K (He.ga K C) m (He.ma K (He.ga K C) m)) (ok : FnOk P w K mg base CX0 k (He.ma K (He.ga K C) m) fd ps sp)
    (h : ∀ (kV doc pm : Value) (an : Option Addr) (cdv ct : Value) (us : List Value), us.length = ps.length → bindArgs (PySem.W.fnOf m qual (defArgs st) (defBody st) (defScope st) .none kV doc pm an cdv ct) ⟨us, []⟩ = pure (ps.zip us)) : MtI P w K mg base k (He.ga K C) m sp :=
  ⟨_, fd, ps, ok, cl, M, F.bindsN h⟩
end
end
section
section
variable {P : Program} {w : World} {K : PySem.W.Frag} {mg : Str → Option Value} {base : Heap} {x y qual : Str} {st : Stmt} {f : Addr} {fd : FuncData} {sp : Sp} {k : Nat} {ps : List Str} {dvs : List V} {C m : Str}
theorem MtD.go {N ps : List Str} (F : MtD K x qual st dvs f fd) (S : FnScope N ps (defScope st)) (len : ∀ vs H Q E, sp vs H Q E → vs.length = ps.length) (t : TS)
    (pure : ∀ (vs : List V) (H : Hp) (Q : VK) (E : XK), sp vs H Q E → t { nx := fun _ H' => Q .non H', rt := Q } (start N vs) H)
    (hbody : ∀ (cdv : Value) (A : Around) (outer : List Env) (s : Shared) (H : Hp) (E : XK), Room k (A.deeper (envOfC qual (defScope st) s.heap.objs.size f cdv)) →
      PSs (cxOf CX0 P w K mg base N qual (defScope st) f cdv A outer s H E).nox (defBody st) t) : FnOk P w K mg base CX0 (k + 1) f fd ps sp :=
  F.ok S len fun cdv A outer s H vs Q E hr h => ⟨t, PSs.nox (hbody cdv A outer s H E hr), pure vs H Q E h⟩
end
end
section
theorem vals_getDB {vs : List V} {us : List Value} (r : Vals vs us) : ∀ i, RelV (vs.getD i .non) (us.getD i .none) := by
  induction r with
  | nil => intro i; exact rfl
  | cons a _ ih =>
    intro i
    cases i with
    | zero => exact a
    | succ i => exact ih i
end
end Fg
namespace Fg
open PySem PySem.Spec PyProof.Rows L2
local macro_rules | `(tactic| walk_at "len") => `(tactic| first | exact (fun ⟨e, _⟩ => by rw [e]; rfl) | (refine exL ?_; intro _; walk_at "len"))
open LamX LmX
def exS : Stmt → Expr
  | .Assign _ e _ => e
  | .Expr e _ => e
  | .Return (some e) _ => e
  | _ => .Constant .none 0 ⟨0, 0, 0, 0⟩
def exA : Expr → Nat → Expr
  | .Call _ es _ _, i => es.getD i (.Constant .none 0 ⟨0, 0, 0, 0⟩)
  | .List es _, i => es.getD i (.Constant .none 0 ⟨0, 0, 0, 0⟩)
  | .Tuple es _ _, i => es.getD i (.Constant .none 0 ⟨0, 0, 0, 0⟩)
  | e, _ => e
def lamF (q : Str) (c' : Addr) : Expr → LmX.LF
  | .Lambda params body scope _ => ⟨q, params, body, scope, [], c'⟩
  | e => ⟨q, defArgs s_law, e, defScope s_law, [], c'⟩
def LL : Nat → Addr → LmX.LF
  | 0, c' => lamF "summed.<locals>.<lambda>" c' (exA (exS ((defBody s_summed).getD 0 (.Pass ⟨0, 0, 0, 0⟩))) 0)
  | 1, c' => lamF "strung.<locals>.<lambda>" c' (exA (exS ((defBody s_strung).getD 0 (.Pass ⟨0, 0, 0, 0⟩))) 0)
  | 2, c' => lamF "strung.<locals>.<lambda>" c' (exA (exS ((defBody s_strung).getD 0 (.Pass ⟨0, 0, 0, 0⟩))) 2)
  | 3, c' => lamF "_law_kind.<locals>.<lambda>" c' (exA (exA (exS ((defBody s__law_kind).getD 0 (.Pass ⟨0, 0, 0, 0⟩))) 0) 0)
  | 4, c' => lamF "_law_kind.<locals>.<lambda>" c' (exA (exA (exS ((defBody s__law_kind).getD 1 (.Pass ⟨0, 0, 0, 0⟩))) 0) 0)
  | 5, c' => lamF "_law_kind.<locals>.<lambda>" c' (exA (exA (exS ((defBody s__law_kind).getD 2 (.Pass ⟨0, 0, 0, 0⟩))) 0) 0)
  | 6, c' => lamF "_law_kind.<locals>.<lambda>" c' (exA (exA (exS ((defBody s__law_kind).getD 2 (.Pass ⟨0, 0, 0, 0⟩))) 0) 2)
  | 7, c' => lamF "_law_kind.<locals>.<lambda>" c' (exA (exA (exS ((defBody s__law_kind).getD 3 (.Pass ⟨0, 0, 0, 0⟩))) 0) 2)
  | 8, c' => lamF "_law_kind.<locals>.<lambda>" c' (exA (exA (exS ((defBody s__law_kind).getD 4 (.Pass ⟨0, 0, 0, 0⟩))) 0) 0)
  | 9, c' => lamF "_law_kind.<locals>.<lambda>" c' (exA (exA (exS ((defBody s__law_kind).getD 4 (.Pass ⟨0, 0, 0, 0⟩))) 0) 2)
  | 10, c' => lamF "_law_kind.<locals>.<lambda>" c' (exA (exA (exS ((defBody s__law_kind).getD 5 (.Pass ⟨0, 0, 0, 0⟩))) 0) 0)
  | 11, c' => lamF "_law_kind.<locals>.<lambda>" c' (exA (exA (exS ((defBody s__law_kind).getD 5 (.Pass ⟨0, 0, 0, 0⟩))) 0) 2)
  | 12, c' => lamF "_law_kind.<locals>.<lambda>" c' (exA (exA (exS ((defBody s__law_kind).getD 6 (.Pass ⟨0, 0, 0, 0⟩))) 0) 0)
  | 13, c' => lamF "_law_kind.<locals>.<lambda>" c' (exA (exA (exS ((defBody s__law_kind).getD 7 (.Pass ⟨0, 0, 0, 0⟩))) 0) 0)
  | 14, c' => lamF "_law_kind.<locals>.<lambda>" c' (exA (exA (exS ((defBody s__law_kind).getD 7 (.Pass ⟨0, 0, 0, 0⟩))) 0) 2)
  | 15, c' => lamF "_law_kind.<locals>.<lambda>" c' (exA (exA (exS ((defBody s__law_kind).getD 8 (.Pass ⟨0, 0, 0, 0⟩))) 0) 0)
  | 16, c' => lamF "_law_kind.<locals>.<lambda>" c' (exA (exA (exS ((defBody s__law_kind).getD 8 (.Pass ⟨0, 0, 0, 0⟩))) 0) 2)
  | 17, c' => lamF "_law_kind.<locals>.<lambda>" c' (exA (exA (exS ((defBody s__law_kind).getD 9 (.Pass ⟨0, 0, 0, 0⟩))) 0) 0)
  | 18, c' => lamF "_law_kind.<locals>.<lambda>" c' (exA (exA (exS ((defBody s__law_kind).getD 11 (.Pass ⟨0, 0, 0, 0⟩))) 0) 0)
  | 19, c' => lamF "_law_kind.<locals>.<lambda>" c' (exA (exA (exS ((defBody s__law_kind).getD 12 (.Pass ⟨0, 0, 0, 0⟩))) 0) 0)
  | 20, c' => lamF "_law_kind.<locals>.<lambda>" c' (exA (exA (exS ((defBody s__law_kind).getD 12 (.Pass ⟨0, 0, 0, 0⟩))) 0) 2)
  | 21, c' => lamF "_law_kind.<locals>.<lambda>" c' (exA (exA (exS ((defBody s__law_kind).getD 13 (.Pass ⟨0, 0, 0, 0⟩))) 0) 0)
  | 22, c' => lamF "_law_kind.<locals>.<lambda>" c' (exA (exA (exS ((defBody s__law_kind).getD 14 (.Pass ⟨0, 0, 0, 0⟩))) 0) 0)
  | 23, c' => lamF "_law_kind.<locals>.<lambda>" c' (exA (exA (exS ((defBody s__law_kind).getD 15 (.Pass ⟨0, 0, 0, 0⟩))) 0) 0)
  | 24, c' => lamF "_law_kind.<locals>.<lambda>" c' (exA (exA (exS ((defBody s__law_kind).getD 16 (.Pass ⟨0, 0, 0, 0⟩))) 0) 0)
  | 25, c' => lamF "_law_kind.<locals>.<lambda>" c' (exA (exA (exS ((defBody s__law_kind).getD 16 (.Pass ⟨0, 0, 0, 0⟩))) 0) 2)
  | 26, c' => lamF "_law_kind.<locals>.<lambda>" c' (exA (exA (exS ((defBody s__law_kind).getD 17 (.Pass ⟨0, 0, 0, 0⟩))) 0) 0)
  | 27, c' => lamF "_law_kind.<locals>.<lambda>" c' (exA (exA (exS ((defBody s__law_kind).getD 18 (.Pass ⟨0, 0, 0, 0⟩))) 0) 0)
  | 28, c' => lamF "_law_kind.<locals>.<lambda>" c' (exA (exA (exS ((defBody s__law_kind).getD 18 (.Pass ⟨0, 0, 0, 0⟩))) 0) 2)
  | 29, c' => lamF "_law_kind.<locals>.<lambda>" c' (exA (exA (exS ((defBody s__law_kind).getD 20 (.Pass ⟨0, 0, 0, 0⟩))) 0) 0)
  | 30, c' => lamF "_law_kind.<locals>.<lambda>" c' (exA (exA (exS ((defBody s__law_kind).getD 20 (.Pass ⟨0, 0, 0, 0⟩))) 0) 2)
  | _, c' => lamF "" c' (.Constant .none 0 ⟨0, 0, 0, 0⟩)
theorem lqLL : LQ LL where
  s := fun _ => rfl
  t := fun j c' h1 h2 => by
    match j, h1, h2 with
    | 1, _, _ => rfl
    | 2, _, _ => rfl
    | j + 3, _, h => omega
  k := fun j c' h1 h2 => by
    match j, h1, h2 with
    | 3, _, _ => rfl
    | 4, _, _ => rfl
    | 5, _, _ => rfl
    | 6, _, _ => rfl
    | 7, _, _ => rfl
    | 8, _, _ => rfl
    | 9, _, _ => rfl
    | 10, _, _ => rfl
    | 11, _, _ => rfl
    | 12, _, _ => rfl
    | 13, _, _ => rfl
    | 14, _, _ => rfl
    | 15, _, _ => rfl
    | 16, _, _ => rfl
    | 17, _, _ => rfl
    | 18, _, _ => rfl
    | 19, _, _ => rfl
    | 20, _, _ => rfl
    | 21, _, _ => rfl
    | 22, _, _ => rfl
    | 23, _, _ => rfl
    | 24, _, _ => rfl
    | 25, _, _ => rfl
    | 26, _, _ => rfl
    | 27, _, _ => rfl
    | 28, _, _ => rfl
    | 29, _, _ => rfl
    | 30, _, _ => rfl
    | 0, h, _ => omega
    | 1, h, _ => omega
    | 2, h, _ => omega
    | j + 31, _, h => omega
theorem nofree {sc : Scope} {Pr : Str × NameKind → Prop} (h : (sc.names.all fun y => !decide (y.2 = .free)) = true) : ∀ y ∈ sc.names, y.2 = .free → Pr y := fun y hy e => by
  have := List.all_eq_true.mp h y hy
  rw [e] at this
  simp at this
theorem sc_lesser : FnScope ["one", "other"] ["one", "other"] (defScope s_lesser) := ⟨rfl, rfl, rfl, by decide +kernel, rfl, by decide +kernel, by decide +kernel⟩
theorem sc_later : FnScope ["one", "other"] ["one", "other"] (defScope s_later) := ⟨rfl, rfl, rfl, by decide +kernel, rfl, by decide +kernel, by decide +kernel⟩
theorem sc_summed : FnScope [] [] (defScope s_summed) := ⟨rfl, rfl, rfl, by decide +kernel, rfl, by decide +kernel, by decide +kernel⟩
theorem sc_least : FnScope [] [] (defScope s_least) := ⟨rfl, rfl, rfl, by decide +kernel, rfl, by decide +kernel, by decide +kernel⟩
theorem sc_latest : FnScope [] [] (defScope s_latest) := ⟨rfl, rfl, rfl, by decide +kernel, rfl, by decide +kernel, by decide +kernel⟩
theorem sc_strung : FnScope [] [] (defScope s_strung) := ⟨rfl, rfl, rfl, by decide +kernel, rfl, by decide +kernel, by decide +kernel⟩
theorem sc__law_cell_at : FnScope ["script", "k"] ["script", "k"] (defScope s__law_cell_at) := ⟨rfl, rfl, rfl, by decide +kernel, rfl, by decide +kernel, by decide +kernel⟩
theorem sc__law_bag : FnScope ["cell", "place"] ["cell", "place"] (defScope s__law_bag) := ⟨rfl, rfl, rfl, by decide +kernel, rfl, by decide +kernel, by decide +kernel⟩
theorem sc__law_draw : FnScope ["bag", "many", "found", "mixed"] ["bag", "many"] (defScope s__law_draw) := ⟨rfl, rfl, rfl, by decide +kernel, rfl, by decide +kernel, by decide +kernel⟩
theorem sc__law_name : FnScope ["bag", "last", "letters", "pick", "letter", "words", "at", "k"] ["bag", "last"] (defScope s__law_name) := ⟨rfl, rfl, rfl, by decide +kernel, rfl, by decide +kernel, by decide +kernel⟩
theorem sc__law_lesser : FnScope ["one", "other"] ["one", "other"] (defScope s__law_lesser) := ⟨rfl, rfl, rfl, by decide +kernel, rfl, by decide +kernel, by decide +kernel⟩
theorem sc__law_apart : FnScope ["one", "other"] ["one", "other"] (defScope s__law_apart) := ⟨rfl, rfl, rfl, by decide +kernel, rfl, by decide +kernel, by decide +kernel⟩
theorem sc__law_both : FnScope ["one", "other"] ["one", "other"] (defScope s__law_both) := ⟨rfl, rfl, rfl, by decide +kernel, rfl, by decide +kernel, by decide +kernel⟩
theorem sc__law_left_none : FnScope ["one", "other"] ["one", "other"] (defScope s__law_left_none) := ⟨rfl, rfl, rfl, by decide +kernel, rfl, by decide +kernel, by decide +kernel⟩
theorem sc__law_kind : FnScope ["at", "table"] ["at"] (defScope s__law_kind) := ⟨rfl, rfl, rfl, by decide +kernel, rfl, by decide +kernel, by decide +kernel⟩
theorem sc__law_made : FnScope ["made_by", "number"] ["made_by", "number"] (defScope s__law_made) := ⟨rfl, rfl, rfl, by decide +kernel, rfl, by decide +kernel, by decide +kernel⟩
theorem sc__law_fold : FnScope ["kind_of", "row", "joiner", "found", "made_by", "number"] ["kind_of", "row"] (defScope s__law_fold) := ⟨rfl, rfl, rfl, by decide +kernel, rfl, by decide +kernel, by decide +kernel⟩
theorem sc__law_row : FnScope ["bag", "most", "few", "k"] ["bag", "most"] (defScope s__law_row) := ⟨rfl, rfl, rfl, by decide +kernel, rfl, by decide +kernel, by decide +kernel⟩
theorem sc__law_told_kinds : FnScope ["row", "total", "shown", "number", "last", "low"] ["row"] (defScope s__law_told_kinds) := ⟨rfl, rfl, rfl, by decide +kernel, rfl, by decide +kernel, by decide +kernel⟩
theorem sc__law_same : FnScope ["found", "due"] ["found", "due"] (defScope s__law_same) := ⟨rfl, rfl, rfl, by decide +kernel, rfl, by decide +kernel, by decide +kernel⟩
theorem sc__law_many : FnScope ["bag", "few", "k"] ["bag"] (defScope s__law_many) := ⟨rfl, rfl, rfl, by decide +kernel, rfl, by decide +kernel, by decide +kernel⟩
theorem sc_law : FnScope ["script", "k", "bag", "row", "handed", "found", "told", "kind_of", "label", "due", "kinds", "kind", "j"] ["script"] (defScope s_law) := ⟨rfl, rfl, rfl, by decide +kernel, rfl, by decide +kernel, by decide +kernel⟩
structure Gm (w : World) (K : PySem.W.Frag) (mg : Str → Option Value) : Prop where
  min : mg "min" = none
  range : mg "range" = none
  len : mg "len" = none
  max : mg "max" = none
  list : mg "list" = none
  isinstance : mg "isinstance" = none
  bool : mg "bool" = none
  str : mg "str" = none
  abs : mg "abs" = none
  repr : mg "repr" = none
  all : mg "all" = none
  Kind : mg "Kind" = some (.ref (He.ga K "Kind"))
  _law_apart : mg "_law_apart" = some (.ref (He.ga K "_law_apart"))
  _law_both : mg "_law_both" = some (.ref (He.ga K "_law_both"))
  _law_left_none : mg "_law_left_none" = some (.ref (He.ga K "_law_left_none"))
  _law_lesser : mg "_law_lesser" = some (.ref (He.ga K "_law_lesser"))
  later : mg "later" = some (.ref (He.ga K "later"))
  lesser : mg "lesser" = some (.ref (He.ga K "lesser"))
section
variable {P : Program} {w : World} {K : PySem.W.Frag} {mg : Str → Option Value} {base : Heap} {f : Addr} {fd : FuncData}
theorem len_sp2 {f : PyData → PyData → Option PyData} : ∀ vs H Q E, sp2 f vs H Q E → vs.length = 2 := fun vs H Q E h => by obtain ⟨x, y, dx, dy, d, S, rfl, _⟩ := h; rfl
theorem len_sp1 {f : Int → Option PyData} : ∀ vs H Q E, sp1 f vs H Q E → vs.length = 1 := fun vs H Q E h => by obtain ⟨n, d, S, rfl, _⟩ := h; rfl
theorem ok_lam0 (G : Gm w K mg) : LmX.LmOk P w K mg base 1 (LL 0) (sp2 (jnD 0)) :=
  LmX.lmok_of (k := 0) (N := ["one", "other"]) (ps := ["one", "other"]) (q := "summed.<locals>.<lambda>") (fun _ => rfl) (NdefX.nscope_by (by decide +kernel)) (fun pm cdv ctv us hl => match us, hl with | [_, _], _ => rfl) len_sp2 (t_lam0 K) (fun vs H Q h => pure_lam0 (K := K) vs H Q h) fun f c' A outer s H hr =>
    (pe_op p_add (pv 0) (pv 1))
theorem ok_lam1 (G : Gm w K mg) : LmX.LmOk P w K mg base 1 (LL 1) (sp2 (jnD 1)) :=
  LmX.lmok_of (k := 0) (N := ["one", "other"]) (ps := ["one", "other"]) (q := "strung.<locals>.<lambda>") (fun _ => rfl) (NdefX.nscope_by (by decide +kernel)) (fun pm cdv ctv us hl => match us, hl with | [_, _], _ => rfl) len_sp2 (t_lam1 K) (fun vs H Q h => pure_lam1 (K := K) vs H Q h) fun f c' A outer s H hr =>
    (pe_op p_addS (pv 0) (pv 1))
theorem ok_lam2 (G : Gm w K mg) : LmX.LmOk P w K mg base 1 (LL 2) (sp1 (mkD 2)) :=
  LmX.lmok_of (k := 0) (N := ["number"]) (ps := ["number"]) (q := "strung.<locals>.<lambda>") (fun _ => rfl) (NdefX.nscope_by (by decide +kernel)) (fun pm cdv ctv us hl => match us, hl with | [_], _ => rfl) len_sp1 (t_lam2 K) (fun vs H Q h => pure_lam2 (K := K) vs H Q h) fun f c' A outer s H hr =>
    (pe_joined (PJ.cons (pe_fmt (pv 0)) (PJ.cons pe_str PJ.nil)))
theorem ok_lam3 (G : Gm w K mg) : LmX.LmOk P w K mg base 1 (LL 3) (sp2 (jnD 3)) :=
  LmX.lmok_of (k := 0) (N := ["one", "other"]) (ps := ["one", "other"]) (q := "_law_kind.<locals>.<lambda>") (fun _ => rfl) (NdefX.nscope_by (by decide +kernel)) (fun pm cdv ctv us hl => match us, hl with | [_, _], _ => rfl) len_sp2 (t_lam3 K) (fun vs H Q h => pure_lam3 (K := K) vs H Q h) fun f c' A outer s H hr =>
    (pe_op p_add (pv 0) (pv 1))
theorem ok_lam4 (G : Gm w K mg) : LmX.LmOk P w K mg base 1 (LL 4) (sp2 (jnD 4)) :=
  LmX.lmok_of (k := 0) (N := ["one", "other"]) (ps := ["one", "other"]) (q := "_law_kind.<locals>.<lambda>") (fun _ => rfl) (NdefX.nscope_by (by decide +kernel)) (fun pm cdv ctv us hl => match us, hl with | [_, _], _ => rfl) len_sp2 (t_lam4 K) (fun vs H Q h => pure_lam4 (K := K) vs H Q h) fun f c' A outer s H hr =>
    (pe_ifExp (pt_cmpR p_isN (pv 1) pe_non (nomark _)) (pv 0) (pv 1))
theorem ok_lam5 (G : Gm w K mg) : LmX.LmOk P w K mg base 1 (LL 5) (sp2 (jnD 5)) :=
  LmX.lmok_of (k := 0) (N := ["one", "other"]) (ps := ["one", "other"]) (q := "_law_kind.<locals>.<lambda>") (fun _ => rfl) (NdefX.nscope_by (by decide +kernel)) (fun pm cdv ctv us hl => match us, hl with | [_, _], _ => rfl) len_sp2 (t_lam5 K) (fun vs H Q h => pure_lam5 (K := K) vs H Q h) fun f c' A outer s H hr =>
    (pe_op p_addS (pv 0) (pv 1))
theorem ok_lam6 (G : Gm w K mg) : LmX.LmOk P w K mg base 1 (LL 6) (sp1 (mkD 6)) :=
  LmX.lmok_of (k := 0) (N := ["number"]) (ps := ["number"]) (q := "_law_kind.<locals>.<lambda>") (fun _ => rfl) (NdefX.nscope_by (by decide +kernel)) (fun pm cdv ctv us hl => match us, hl with | [_], _ => rfl) len_sp1 (t_lam6 K) (fun vs H Q h => pure_lam6 (K := K) vs H Q h) fun f c' A outer s H hr =>
    (pe_joined (PJ.cons (pe_fmt (pv 0)) (PJ.cons pe_str PJ.nil)))
theorem ok_lam7 (G : Gm w K mg) : LmX.LmOk P w K mg base 1 (LL 7) (sp1 (mkD 7)) :=
  LmX.lmok_of (k := 0) (N := ["number"]) (ps := ["number"]) (q := "_law_kind.<locals>.<lambda>") (fun _ => rfl) (NdefX.nscope_by (by decide +kernel)) (fun pm cdv ctv us hl => match us, hl with | [_], _ => rfl) len_sp1 (t_lam7 K) (fun vs H Q h => pure_lam7 (K := K) vs H Q h) fun f c' A outer s H hr =>
    (pe_tup (pa_cons (pv 0) (pa_cons (pv 0) pa_nil)))
theorem ok_lam8 (G : Gm w K mg) : LmX.LmOk P w K mg base 1 (LL 8) (sp2 (jnD 8)) :=
  LmX.lmok_of (k := 0) (N := ["one", "other"]) (ps := ["one", "other"]) (q := "_law_kind.<locals>.<lambda>") (fun _ => rfl) (NdefX.nscope_by (by decide +kernel)) (fun pm cdv ctv us hl => match us, hl with | [_, _], _ => rfl) len_sp2 (t_lam8 K) (fun vs H Q h => pure_lam8 (K := K) vs H Q h) fun f c' A outer s H hr =>
    (pe_op op_cat (pv 0) (pv 1))
theorem ok_lam9 (G : Gm w K mg) : LmX.LmOk P w K mg base 1 (LL 9) (sp1 (mkD 9)) :=
  LmX.lmok_of (k := 0) (N := ["number"]) (ps := ["number"]) (q := "_law_kind.<locals>.<lambda>") (fun _ => rfl) (NdefX.nscope_by (by decide +kernel)) (fun pm cdv ctv us hl => match us, hl with | [_], _ => rfl) len_sp1 (t_lam9 K) (fun vs H Q h => pure_lam9 (K := K) vs H Q h) fun f c' A outer s H hr =>
    (pe_lst (pa_cons (pv 0) pa_nil))
theorem ok_lam10 (G : Gm w K mg) : LmX.LmOk P w K mg base 1 (LL 10) (sp2 (jnD 10)) :=
  LmX.lmok_of (k := 0) (N := ["one", "other"]) (ps := ["one", "other"]) (q := "_law_kind.<locals>.<lambda>") (fun _ => rfl) (NdefX.nscope_by (by decide +kernel)) (fun pm cdv ctv us hl => match us, hl with | [_, _], _ => rfl) len_sp2 (t_lam10 K) (fun vs H Q h => pure_lam10 (K := K) vs H Q h) fun f c' A outer s H hr =>
    (pe_op p_mod (pe_op p_mul (pv 0) (pv 1)) pe_int)
theorem ok_lam11 (G : Gm w K mg) : LmX.LmOk P w K mg base 1 (LL 11) (sp1 (mkD 11)) :=
  LmX.lmok_of (k := 0) (N := ["number"]) (ps := ["number"]) (q := "_law_kind.<locals>.<lambda>") (fun _ => rfl) (NdefX.nscope_by (by decide +kernel)) (fun pm cdv ctv us hl => match us, hl with | [_], _ => rfl) len_sp1 (t_lam11 K) (fun vs H Q h => pure_lam11 (K := K) vs H Q h) fun f c' A outer s H hr =>
    (pe_op p_mod (pv 0) pe_int)
theorem ok_lam12 (G : Gm w K mg) : LmX.LmOk P w K mg base 1 (LL 12) (sp2 (jnD 12)) :=
  LmX.lmok_of (k := 0) (N := ["one", "other"]) (ps := ["one", "other"]) (q := "_law_kind.<locals>.<lambda>") (fun _ => rfl) (NdefX.nscope_by (by decide +kernel)) (fun pm cdv ctv us hl => match us, hl with | [_, _], _ => rfl) len_sp2 (t_lam12 K) (fun vs H Q h => pure_lam12 (K := K) vs H Q h) fun f c' A outer s H hr =>
    (pe_op p_add (pe_op p_add (pv 0) (pv 1)) pe_int)
theorem ok_lam13 (G : Gm w K mg) : LmX.LmOk P w K mg base 1 (LL 13) (sp2 (jnD 13)) :=
  LmX.lmok_of (k := 0) (N := ["one", "other"]) (ps := ["one", "other"]) (q := "_law_kind.<locals>.<lambda>") (fun _ => rfl) (NdefX.nscope_by (by decide +kernel)) (fun pm cdv ctv us hl => match us, hl with | [_, _], _ => rfl) len_sp2 (t_lam13 K) (fun vs H Q h => pure_lam13 (K := K) vs H Q h) fun f c' A outer s H hr =>
    (pe_op p_addS (pv 1) (pv 0))
theorem ok_lam14 (G : Gm w K mg) : LmX.LmOk P w K mg base 1 (LL 14) (sp1 (mkD 14)) :=
  LmX.lmok_of (k := 0) (N := ["number"]) (ps := ["number"]) (q := "_law_kind.<locals>.<lambda>") (fun _ => rfl) (NdefX.nscope_by (by decide +kernel)) (fun pm cdv ctv us hl => match us, hl with | [_], _ => rfl) len_sp1 (t_lam14 K) (fun vs H Q h => pure_lam14 (K := K) vs H Q h) fun f c' A outer s H hr =>
    (pe_callTy p_strI (by rfl) G.str (by decide +kernel) (pa_cons (pe_op p_mod (pv 0) pe_int) pa_nil))
theorem ok_lam15 (G : Gm w K mg) : LmX.LmOk P w K mg base 1 (LL 15) (sp2 (jnD 15)) :=
  LmX.lmok_of (k := 0) (N := ["one", "other"]) (ps := ["one", "other"]) (q := "_law_kind.<locals>.<lambda>") (fun _ => rfl) (NdefX.nscope_by (by decide +kernel)) (fun pm cdv ctv us hl => match us, hl with | [_, _], _ => rfl) len_sp2 (t_lam15 K) (fun vs H Q h => pure_lam15 (K := K) vs H Q h) fun f c' A outer s H hr =>
    (pe_ifExp (pt_cmpR p_isN (pv 1) pe_non (nomark _)) (pv 0) (pv 1))
theorem ok_lam16 (G : Gm w K mg) : LmX.LmOk P w K mg base 1 (LL 16) (sp1 (mkD 16)) :=
  LmX.lmok_of (k := 0) (N := ["number"]) (ps := ["number"]) (q := "_law_kind.<locals>.<lambda>") (fun _ => rfl) (NdefX.nscope_by (by decide +kernel)) (fun pm cdv ctv us hl => match us, hl with | [_], _ => rfl) len_sp1 (t_lam16 K) (fun vs H Q h => pure_lam16 (K := K) vs H Q h) fun f c' A outer s H hr =>
    (pe_op p_fdiv (pv 0) pe_int)
theorem ok_lam17 (G : Gm w K mg) : LmX.LmOk P w K mg base 1 (LL 17) (sp2 (jnD 17)) :=
  LmX.lmok_of (k := 0) (N := ["one", "other"]) (ps := ["one", "other"]) (q := "_law_kind.<locals>.<lambda>") (fun _ => rfl) (NdefX.nscope_by (by decide +kernel)) (fun pm cdv ctv us hl => match us, hl with | [_, _], _ => rfl) len_sp2 (t_lam17 K) (fun vs H Q h => pure_lam17 (K := K) vs H Q h) fun f c' A outer s H hr =>
    (pe_op p_sub (pv 0) (pv 1))
theorem ok_lam18 (G : Gm w K mg) : LmX.LmOk P w K mg base 1 (LL 18) (sp2 (jnD 18)) :=
  LmX.lmok_of (k := 0) (N := ["one", "other"]) (ps := ["one", "other"]) (q := "_law_kind.<locals>.<lambda>") (fun _ => rfl) (NdefX.nscope_by (by decide +kernel)) (fun pm cdv ctv us hl => match us, hl with | [_, _], _ => rfl) len_sp2 (t_lam18 K) (fun vs H Q h => pure_lam18 (K := K) vs H Q h) fun f c' A outer s H hr =>
    (pe_ifExp (PW.pt (pw_and (pt_cmpR op_eq (pv 0) pe_int (nomark _)) (pw_and1 (pt_cmpR op_eq (pv 1) pe_int (nomark _))))) pe_int (pe_op p_add (pv 0) (pv 1)))
theorem ok_lam19 (G : Gm w K mg) : LmX.LmOk P w K mg base 1 (LL 19) (sp2 (jnD 19)) :=
  LmX.lmok_of (k := 0) (N := ["one", "other"]) (ps := ["one", "other"]) (q := "_law_kind.<locals>.<lambda>") (fun _ => rfl) (NdefX.nscope_by (by decide +kernel)) (fun pm cdv ctv us hl => match us, hl with | [_, _], _ => rfl) len_sp2 (t_lam19 K) (fun vs H Q h => pure_lam19 (K := K) vs H Q h) fun f c' A outer s H hr =>
    (pe_callB (p_min rfl) (by rfl) G.min (by decide +kernel) (pa_cons (pe_op p_add (pv 0) (pv 1)) (pa_cons pe_int pa_nil)))
theorem ok_lam20 (G : Gm w K mg) : LmX.LmOk P w K mg base 1 (LL 20) (sp1 (mkD 20)) :=
  LmX.lmok_of (k := 0) (N := ["number"]) (ps := ["number"]) (q := "_law_kind.<locals>.<lambda>") (fun _ => rfl) (NdefX.nscope_by (by decide +kernel)) (fun pm cdv ctv us hl => match us, hl with | [_], _ => rfl) len_sp1 (t_lam20 K) (fun vs H Q h => pure_lam20 (K := K) vs H Q h) fun f c' A outer s H hr =>
    (pe_callB p_abs (by rfl) G.abs (by decide +kernel) (pa_cons (pv 0) pa_nil))
theorem ok_lam21 (G : Gm w K mg) : LmX.LmOk P w K mg base 1 (LL 21) (sp2 (jnD 21)) :=
  LmX.lmok_of (k := 0) (N := ["one", "other"]) (ps := ["one", "other"]) (q := "_law_kind.<locals>.<lambda>") (fun _ => rfl) (NdefX.nscope_by (by decide +kernel)) (fun pm cdv ctv us hl => match us, hl with | [_, _], _ => rfl) len_sp2 (t_lam21 K) (fun vs H Q h => pure_lam21 (K := K) vs H Q h) fun f c' A outer s H hr =>
    (pe_ifExp (pt_cmpR op_eq (pe_op p_add (pv 0) (pv 1)) pe_int (nomark _)) pe_int (pe_op p_add (pv 0) (pv 1)))
theorem ok_lam22 (G : Gm w K mg) : LmX.LmOk P w K mg base 1 (LL 22) (sp2 (jnD 22)) :=
  LmX.lmok_of (k := 0) (N := ["one", "other"]) (ps := ["one", "other"]) (q := "_law_kind.<locals>.<lambda>") (fun _ => rfl) (NdefX.nscope_by (by decide +kernel)) (fun pm cdv ctv us hl => match us, hl with | [_, _], _ => rfl) len_sp2 (t_lam22 K) (fun vs H Q h => pure_lam22 (K := K) vs H Q h) fun f c' A outer s H hr =>
    (pe_op p_add (pv 0) (pv 1))
theorem ok_lam23 (G : Gm w K mg) : LmX.LmOk P w K mg base 1 (LL 23) (sp2 (jnD 23)) :=
  LmX.lmok_of (k := 0) (N := ["one", "other"]) (ps := ["one", "other"]) (q := "_law_kind.<locals>.<lambda>") (fun _ => rfl) (NdefX.nscope_by (by decide +kernel)) (fun pm cdv ctv us hl => match us, hl with | [_, _], _ => rfl) len_sp2 (t_lam23 K) (fun vs H Q h => pure_lam23 (K := K) vs H Q h) fun f c' A outer s H hr =>
    (pe_op p_fdiv (pe_op p_add (pv 0) (pv 1)) pe_int)
theorem ok_lam24 (G : Gm w K mg) : LmX.LmOk P w K mg base 1 (LL 24) (sp2 (jnD 24)) :=
  LmX.lmok_of (k := 0) (N := ["one", "other"]) (ps := ["one", "other"]) (q := "_law_kind.<locals>.<lambda>") (fun _ => rfl) (NdefX.nscope_by (by decide +kernel)) (fun pm cdv ctv us hl => match us, hl with | [_, _], _ => rfl) len_sp2 (t_lam24 K) (fun vs H Q h => pure_lam24 (K := K) vs H Q h) fun f c' A outer s H hr =>
    (pe_op p_addS (pv 0) (pe_slice sl_str (pv 1) po_none (po_some pe_int)))
theorem ok_lam25 (G : Gm w K mg) : LmX.LmOk P w K mg base 1 (LL 25) (sp1 (mkD 25)) :=
  LmX.lmok_of (k := 0) (N := ["number"]) (ps := ["number"]) (q := "_law_kind.<locals>.<lambda>") (fun _ => rfl) (NdefX.nscope_by (by decide +kernel)) (fun pm cdv ctv us hl => match us, hl with | [_], _ => rfl) len_sp1 (t_lam25 K) (fun vs H Q h => pure_lam25 (K := K) vs H Q h) fun f c' A outer s H hr =>
    (pe_joined (PJ.cons (pe_fmt (pv 0)) (PJ.cons pe_str PJ.nil)))
theorem ok_lam26 (G : Gm w K mg) : LmX.LmOk P w K mg base 1 (LL 26) (sp2 (jnD 26)) :=
  LmX.lmok_of (k := 0) (N := ["one", "other"]) (ps := ["one", "other"]) (q := "_law_kind.<locals>.<lambda>") (fun _ => rfl) (NdefX.nscope_by (by decide +kernel)) (fun pm cdv ctv us hl => match us, hl with | [_, _], _ => rfl) len_sp2 (t_lam26 K) (fun vs H Q h => pure_lam26 (K := K) vs H Q h) fun f c' A outer s H hr =>
    (pe_ifExp (pt_cmpR p_isN (pv 0) pe_non (nomark _)) pe_int (pe_op p_add (pv 0) pe_int))
theorem ok_lam27 (G : Gm w K mg) : LmX.LmOk P w K mg base 1 (LL 27) (sp2 (jnD 27)) :=
  LmX.lmok_of (k := 0) (N := ["one", "other"]) (ps := ["one", "other"]) (q := "_law_kind.<locals>.<lambda>") (fun _ => rfl) (NdefX.nscope_by (by decide +kernel)) (fun pm cdv ctv us hl => match us, hl with | [_, _], _ => rfl) len_sp2 (t_lam27 K) (fun vs H Q h => pure_lam27 (K := K) vs H Q h) fun f c' A outer s H hr =>
    (pv 1)
theorem ok_lam28 (G : Gm w K mg) : LmX.LmOk P w K mg base 1 (LL 28) (sp1 (mkD 28)) :=
  LmX.lmok_of (k := 0) (N := ["number"]) (ps := ["number"]) (q := "_law_kind.<locals>.<lambda>") (fun _ => rfl) (NdefX.nscope_by (by decide +kernel)) (fun pm cdv ctv us hl => match us, hl with | [_], _ => rfl) len_sp1 (t_lam28 K) (fun vs H Q h => pure_lam28 (K := K) vs H Q h) fun f c' A outer s H hr =>
    (pe_ifExp (pt_cmpR op_eq (pe_op p_mod (pv 0) pe_int) pe_int (nomark _)) pe_non (pv 0))
theorem ok_lam29 (G : Gm w K mg) : LmX.LmOk P w K mg base 1 (LL 29) (sp2 (jnD 29)) :=
  LmX.lmok_of (k := 0) (N := ["one", "other"]) (ps := ["one", "other"]) (q := "_law_kind.<locals>.<lambda>") (fun _ => rfl) (NdefX.nscope_by (by decide +kernel)) (fun pm cdv ctv us hl => match us, hl with | [_, _], _ => rfl) len_sp2 (t_lam29 K) (fun vs H Q h => pure_lam29 (K := K) vs H Q h) fun f c' A outer s H hr =>
    (pe_callB (p_maxB rfl) (by rfl) G.max (by decide +kernel) (pa_cons (pv 0) (pa_cons (pv 1) pa_nil)))
theorem ok_lam30 (G : Gm w K mg) : LmX.LmOk P w K mg base 1 (LL 30) (sp1 (mkD 30)) :=
  LmX.lmok_of (k := 0) (N := ["number"]) (ps := ["number"]) (q := "_law_kind.<locals>.<lambda>") (fun _ => rfl) (NdefX.nscope_by (by decide +kernel)) (fun pm cdv ctv us hl => match us, hl with | [_], _ => rfl) len_sp1 (t_lam30 K) (fun vs H Q h => pure_lam30 (K := K) vs H Q h) fun f c' A outer s H hr =>
    (pe_cmpR p_gt (pv 0) pe_int (nomark _))
theorem ok_lams (G : Gm w K mg) : ∀ j, j < 31 → LmX.LmOk P w K mg base 1 (LL j) (lspD j) := fun j h => by
  match j, h with
  | 0, _ => exact (show lspD 0 = _ from if_neg (by decide)) ▸ ok_lam0 G
  | 1, _ => exact (show lspD 1 = _ from if_neg (by decide)) ▸ ok_lam1 G
  | 2, _ => exact (show lspD 2 = _ from if_pos (by decide)) ▸ ok_lam2 G
  | 3, _ => exact (show lspD 3 = _ from if_neg (by decide)) ▸ ok_lam3 G
  | 4, _ => exact (show lspD 4 = _ from if_neg (by decide)) ▸ ok_lam4 G
  | 5, _ => exact (show lspD 5 = _ from if_neg (by decide)) ▸ ok_lam5 G
  | 6, _ => exact (show lspD 6 = _ from if_pos (by decide)) ▸ ok_lam6 G
  | 7, _ => exact (show lspD 7 = _ from if_pos (by decide)) ▸ ok_lam7 G
  | 8, _ => exact (show lspD 8 = _ from if_neg (by decide)) ▸ ok_lam8 G
  | 9, _ => exact (show lspD 9 = _ from if_pos (by decide)) ▸ ok_lam9 G
  | 10, _ => exact (show lspD 10 = _ from if_neg (by decide)) ▸ ok_lam10 G
  | 11, _ => exact (show lspD 11 = _ from if_pos (by decide)) ▸ ok_lam11 G
  | 12, _ => exact (show lspD 12 = _ from if_neg (by decide)) ▸ ok_lam12 G
  | 13, _ => exact (show lspD 13 = _ from if_neg (by decide)) ▸ ok_lam13 G
  | 14, _ => exact (show lspD 14 = _ from if_pos (by decide)) ▸ ok_lam14 G
  | 15, _ => exact (show lspD 15 = _ from if_neg (by decide)) ▸ ok_lam15 G
  | 16, _ => exact (show lspD 16 = _ from if_pos (by decide)) ▸ ok_lam16 G
  | 17, _ => exact (show lspD 17 = _ from if_neg (by decide)) ▸ ok_lam17 G
  | 18, _ => exact (show lspD 18 = _ from if_neg (by decide)) ▸ ok_lam18 G
  | 19, _ => exact (show lspD 19 = _ from if_neg (by decide)) ▸ ok_lam19 G
  | 20, _ => exact (show lspD 20 = _ from if_pos (by decide)) ▸ ok_lam20 G
  | 21, _ => exact (show lspD 21 = _ from if_neg (by decide)) ▸ ok_lam21 G
  | 22, _ => exact (show lspD 22 = _ from if_neg (by decide)) ▸ ok_lam22 G
  | 23, _ => exact (show lspD 23 = _ from if_neg (by decide)) ▸ ok_lam23 G
  | 24, _ => exact (show lspD 24 = _ from if_neg (by decide)) ▸ ok_lam24 G
  | 25, _ => exact (show lspD 25 = _ from if_pos (by decide)) ▸ ok_lam25 G
  | 26, _ => exact (show lspD 26 = _ from if_neg (by decide)) ▸ ok_lam26 G
  | 27, _ => exact (show lspD 27 = _ from if_neg (by decide)) ▸ ok_lam27 G
  | 28, _ => exact (show lspD 28 = _ from if_pos (by decide)) ▸ ok_lam28 G
  | 29, _ => exact (show lspD 29 = _ from if_neg (by decide)) ▸ ok_lam29 G
  | 30, _ => exact (show lspD 30 = _ from if_pos (by decide)) ▸ ok_lam30 G
  | j + 31, h => omega
theorem ok__law_apart (F : FnP K "_law_apart" s__law_apart [] f fd) (G : Gm w K mg)  : FnOk P w K mg base CX0 1 f fd ["one", "other"] (sp2 apD) :=
  FnP.go (k := 0) F sc__law_apart len_sp2 (t__law_apart) (fun vs H Q E h => pure__law_apart (K := K) vs H Q E h) fun cdv A outer s H E hr =>
    (pss_cons (ps_if (PW.pt (pw_or (pt_cmpR p_isN (pv 0) pe_non (nomark _)) (pw_or1 (pt_cmpR p_isN (pv 1) pe_non (nomark _))))) (pss_one (ps_ret (pe_ifExp (pt_cmpR p_isN (pv 0) pe_non (nomark _)) (pv 1) (pv 0)))) pss_nil)
      (pss_one (ps_ret (pe_op p_sub (pv 0) (pv 1)))))
theorem ok__law_both (F : FnP K "_law_both" s__law_both [] f fd) (G : Gm w K mg)  : FnOk P w K mg base CX0 1 f fd ["one", "other"] (sp2 boD) :=
  FnP.go (k := 0) F sc__law_both len_sp2 (t__law_both K) (fun vs H Q E h => pure__law_both (K := K) vs H Q E h) fun cdv A outer s H E hr =>
    (pss_one (ps_ret (pe_ifExp (pt_cmpR (p_neD hr.units) (pe_op op_catA (pv 0) (pv 1)) (pe_tup pa_nil) (nomark _)) (pe_tup (pa_cons (pe_callB (cr_minT rfl hr.units) (by rfl) G.min (by decide +kernel) (pa_cons (pe_op op_catA (pv 0) (pv 1)) pa_nil)) (pa_cons (pe_callB (cr_maxT rfl hr.units) (by rfl) G.max (by decide +kernel) (pa_cons (pe_op op_catA (pv 0) (pv 1)) pa_nil)) pa_nil))) (pe_tup pa_nil))))
theorem ok__law_left_none (F : FnP K "_law_left_none" s__law_left_none [] f fd) (G : Gm w K mg)  : FnOk P w K mg base CX0 1 f fd ["one", "other"] (sp2 lnD) :=
  FnP.go (k := 0) F sc__law_left_none len_sp2 (t__law_left_none) (fun vs H Q E h => pure__law_left_none (K := K) vs H Q E h) fun cdv A outer s H E hr =>
    (pss_cons (ps_if (PW.pt (pw_or (pt_cmpR p_isN (pv 0) pe_non (nomark _)) (pw_or1 (pt_cmpR p_isN (pv 1) pe_non (nomark _))))) (pss_one (ps_ret (pv 0))) pss_nil)
      (pss_one (ps_ret (pe_op p_add (pv 0) (pv 1)))))
theorem ok__law_lesser (F : FnP K "_law_lesser" s__law_lesser [] f fd) (G : Gm w K mg)  : FnOk P w K mg base CX0 1 f fd ["one", "other"] (sp2 leD) :=
  FnP.go (k := 0) F sc__law_lesser len_sp2 (t__law_lesser) (fun vs H Q E h => pure__law_lesser (K := K) vs H Q E h) fun cdv A outer s H E hr =>
    (pss_cons (ps_if (PW.pt (pw_or (pt_cmpR p_isN (pv 0) pe_non (nomark _)) (pw_or1 (pt_cmpR p_isN (pv 1) pe_non (nomark _))))) (pss_one (ps_ret (pe_ifExp (pt_cmpR p_isN (pv 0) pe_non (nomark _)) (pv 1) (pv 0)))) pss_nil)
      (pss_one (ps_ret (pe_callB (p_min rfl) (by rfl) G.min (by decide +kernel) (pa_cons (pv 0) (pa_cons (pv 1) pa_nil))))))
theorem ok_later (F : FnP K "later" s_later [] f fd) (G : Gm w K mg)  : FnOk P w K mg base CX0 1 f fd ["one", "other"] (sp2 lat2) :=
  FnP.go (k := 0) F sc_later len_sp2 (t_later) (fun vs H Q E h => pure_later (K := K) vs H Q E h) fun cdv A outer s H E hr =>
    (pss_one (ps_ret (pe_ifExp (pt_cmpR p_isN (pv 1) pe_non (nomark _)) (pv 0) (pv 1))))
theorem ok_lesser (F : FnP K "lesser" s_lesser [] f fd) (G : Gm w K mg)  : FnOk P w K mg base CX0 1 f fd ["one", "other"] (sp2 leD) :=
  FnP.go (k := 0) F sc_lesser len_sp2 (t_lesser) (fun vs H Q E h => pure_lesser (K := K) vs H Q E h) fun cdv A outer s H E hr =>
    (pss_cons (ps_if (pt_cmpR p_isN (pv 0) pe_non (nomark _)) (pss_one (ps_ret (pv 1))) pss_nil)
      (pss_cons (ps_if (pt_cmpR p_isN (pv 1) pe_non (nomark _)) (pss_one (ps_ret (pv 0))) pss_nil)
      (pss_one (ps_ret (pe_callB (p_min rfl) (by rfl) G.min (by decide +kernel) (pa_cons (pv 0) (pa_cons (pv 1) pa_nil)))))))
theorem ok__law_cell_at (F : FnP K "_law_cell_at" s__law_cell_at [] f fd) (G : Gm w K mg)  : FnOk P w K mg base CX0 1 f fd ["script", "k"] (sp__law_cell_at K) :=
  FnP.go (k := 0) F sc__law_cell_at (fun vs H Q E => by first | (unfold sp__law_cell_at; walk_at "len") | walk_at "len" | (unfold sp__law_cell_at KdToldW; exact fun ⟨e, _⟩ => by rw [e]; rfl)) (t__law_cell_at K) (fun vs H Q E h => pure__law_cell_at (K := K) vs H Q E h) fun cdv A outer s H E hr =>
    (pss_cons (ps_if (pt_cmpR p_lt (pv 1) (pe_callB p_lenQ (by rfl) G.len (by decide +kernel) (pa_cons (pv 0) pa_nil)) (nomark _)) (pss_one (ps_ret (pe_ix ix_list (pv 0) (pv 1) (fun _ _ => rfl)))) pss_nil)
      (pss_one (ps_ret pe_int)))
theorem ok__law_bag (F : FnP K "_law_bag" s__law_bag [] f fd) (G : Gm w K mg)  : FnOk P w K mg base CX0 1 f fd ["cell", "place"] sp__law_bag :=
  FnP.go (k := 0) F sc__law_bag (fun vs H Q E => by first | (unfold sp__law_bag; walk_at "len") | walk_at "len" | (unfold sp__law_bag KdToldW; exact fun ⟨e, _⟩ => by rw [e]; rfl)) (t__law_bag) (fun vs H Q E h => pure__law_bag (K := K) vs H Q E h) fun cdv A outer s H E hr =>
    (pss_one (ps_ret (pe_lst (pa_cons (pe_callB (p_max rfl) (by rfl) G.max (by decide +kernel) (pa_cons pe_int (pa_cons (pe_op p_sub (pv 0) (pe_op p_pow pe_int pe_int)) pa_nil))) (pa_cons (pe_op p_add (pe_op p_mod (pv 0) pe_int) (pe_op p_mul pe_int (pv 1))) (pa_cons pe_int pa_nil))))))
theorem ok__law_draw (F : FnP K "_law_draw" s__law_draw [] f fd) (G : Gm w K mg)  : FnOk P w K mg base CX0 1 f fd ["bag", "many"] sp__law_draw :=
  FnP.go (k := 0) F sc__law_draw (fun vs H Q E => by first | (unfold sp__law_draw; walk_at "len") | walk_at "len" | (unfold sp__law_draw KdToldW; exact fun ⟨e, _⟩ => by rw [e]; rfl)) (t__law_draw K) (fun vs H Q E h => pure__law_draw (K := K) vs H Q E h) fun cdv A outer s H E hr =>
    (pss_cons (ps_if (pt_cmpR p_gt (pe_ix ix_list (pv 0) pe_int (fun _ _ => rfl)) pe_int (nomark _)) (pss_cons (ps_set (i := 2) sc__law_draw.nd rfl (by first | exact Or.inl rfl | exact Or.inr rfl) (pe_op p_mod (pe_ix ix_list (pv 0) pe_int (fun _ _ => rfl)) (pv 1)))
      (pss_cons (ps_asg (pe_op p_fdiv (pe_ix ix_list (pv 0) pe_int (fun _ _ => rfl)) (pv 1)) (pg_sub (pv 0) pe_int set_list))
      (pss_one (ps_ret (pv 2))))) pss_nil)
      (pss_cons (ps_asg (pe_op p_add (pe_ix ix_list (pv 0) pe_int (fun _ _ => rfl)) pe_int) (pg_sub (pv 0) pe_int set_list))
      (pss_cons (ps_set (i := 3) sc__law_draw.nd rfl (by first | exact Or.inl rfl | exact Or.inr rfl) (pe_op p_mod (pe_op p_pow (pe_op p_add (pe_ix ix_list (pv 0) pe_int (fun _ _ => rfl)) (pe_op p_mul pe_int (pe_ix ix_list (pv 0) pe_int (fun _ _ => rfl)))) pe_int) pe_int))
      (pss_cons (ps_set (i := 3) sc__law_draw.nd rfl (by first | exact Or.inl rfl | exact Or.inr rfl) (pe_op p_mod (pe_op p_pow (pe_op p_add (pv 3) (pe_op p_mul pe_int (pe_ix ix_list (pv 0) pe_int (fun _ _ => rfl)))) pe_int) pe_int))
      (pss_one (ps_ret (pe_op p_mod (pe_op p_fdiv (pv 3) pe_int) (pv 1))))))))
theorem ok__law_row (F : FnP K "_law_row" s__law_row [] f fd) (G : Gm w K mg) (c__law_draw : Cal P w K mg base 1 "_law_draw" sp__law_draw []) : FnOk P w K mg base CX0 2 f fd ["bag", "most"] sp__law_row :=
  FnP.go (k := 1) F sc__law_row (fun vs H Q E => by first | (unfold sp__law_row; walk_at "len") | walk_at "len" | (unfold sp__law_row KdToldW; exact fun ⟨e, _⟩ => by rw [e]; rfl)) (t__law_row K) (fun vs H Q E h => pure__law_row (K := K) vs H Q E h) fun cdv A outer s H E hr =>
    (pss_cons (ps_set (i := 2) sc__law_row.nd rfl (by first | exact Or.inl rfl | exact Or.inr rfl) (pe_ix ix_list (pe_lst (pa_cons pe_int (pa_cons pe_int (pa_cons (pe_op p_pow pe_int pe_int) pa_nil)))) (pe_c c__law_draw hr (by omega) (by rfl) (pa_cons (pv 0) (pa_cons pe_int pa_nil))) (fun _ _ => rfl)))
      (pss_one (ps_ret (pe_lc (own := [("k", 3)]) (g := gName 3) (tt := tYes) (by rfl) sc__law_row.nd (pi_range1 (by rfl) G.range (pa_cons (pe_c c__law_draw hr (by omega) (by rfl) (pa_cons (pv 0) (pa_cons (pe_op p_add (pv 1) pe_int) pa_nil))) pa_nil)) (blkOk_by (own := [("k", 3)]) (N := ["bag", "most", "few", "k"]) (sc := defScope s__law_row) (by decide +kernel)) (fun _ _ _ _ _ => (pg_name (i := 3) sc__law_row.nd rfl (by first | exact Or.inl rfl | exact Or.inr rfl))) (fun _ _ _ _ _ => pts_nil) (fun _ _ _ _ _ => (pe_op p_mul (pe_c c__law_draw hr (by omega) (by rfl) (pa_cons (pv 0) (pa_cons (pv 2) pa_nil))) (pe_ix ix_list (pe_lst (pa_cons pe_int (pa_cons pe_int (pa_cons (pe_un un_neg pe_int) pa_nil)))) (pe_c c__law_draw hr (by omega) (by rfl) (pa_cons (pv 0) (pa_cons pe_int pa_nil))) (fun _ _ => rfl))))))))
theorem ok__law_many (F : FnP K "_law_many" s__law_many [] f fd) (G : Gm w K mg) (c__law_draw : Cal P w K mg base 1 "_law_draw" sp__law_draw []) : FnOk P w K mg base CX0 2 f fd ["bag"] sp__law_many :=
  FnP.go (k := 1) F sc__law_many (fun vs H Q E => by first | (unfold sp__law_many; walk_at "len") | walk_at "len" | (unfold sp__law_many KdToldW; exact fun ⟨e, _⟩ => by rw [e]; rfl)) (t__law_many K) (fun vs H Q E h => pure__law_many (K := K) vs H Q E h) fun cdv A outer s H E hr =>
    (pss_cons (ps_set (i := 1) sc__law_many.nd rfl (by first | exact Or.inl rfl | exact Or.inr rfl) (pe_lst (pa_cons (pe_op p_add pe_int (pe_c c__law_draw hr (by omega) (by rfl) (pa_cons (pv 0) (pa_cons pe_int pa_nil)))) (pa_cons (pe_op p_sub (pe_c c__law_draw hr (by omega) (by rfl) (pa_cons (pv 0) (pa_cons pe_int pa_nil))) pe_int) (pa_cons (pe_op p_sub pe_int (pe_c c__law_draw hr (by omega) (by rfl) (pa_cons (pv 0) (pa_cons pe_int pa_nil)))) pa_nil)))))
      (pss_one (ps_ret (pe_lc (own := [("k", 2)]) (g := gName 2) (tt := tYes) (by rfl) sc__law_many.nd (pi_range1 (by rfl) G.range (pa_cons (pe_c c__law_draw hr (by omega) (by rfl) (pa_cons (pv 0) (pa_cons pe_int pa_nil))) pa_nil)) (blkOk_by (own := [("k", 2)]) (N := ["bag", "few", "k"]) (sc := defScope s__law_many) (by decide +kernel)) (fun _ _ _ _ _ => (pg_name (i := 2) sc__law_many.nd rfl (by first | exact Or.inl rfl | exact Or.inr rfl))) (fun _ _ _ _ _ => pts_nil) (fun _ _ _ _ _ => (pe_op p_add (pe_ix ix_list (pv 1) (pe_op p_mod (pe_op p_mul (pv 2) (pv 2)) pe_int) (fun _ _ => rfl)) (pe_op p_mod (pv 2) pe_int)))))))
theorem sc_Kind___init__ : FnScope ["self", "join", "none", "make", "word"] ["self", "join", "none", "make", "word"] (defScope s_Kind___init__) := ⟨rfl, rfl, rfl, by decide +kernel, rfl, by decide +kernel, by decide +kernel⟩
theorem ok_Kind___init__ (F : MtD K "__init__" "Kind.__init__" s_Kind___init__ [.non, .str "kind"] f fd) (G : Gm w K mg) (CK : C_Kind K)  : FnOk P w K mg base CX0 1 f fd ["self", "join", "none", "make", "word"] (sp_Kind___init__ K) :=
  MtD.go (k := 0) F sc_Kind___init__ (fun vs H Q E => by first | (unfold sp_Kind___init__; walk_at "len") | walk_at "len" | (unfold sp_Kind___init__ KdToldW; exact fun ⟨e, _⟩ => by rw [e]; rfl)) (t_Kind___init__ K) (fun vs H Q E h => pure_Kind___init__ (K := K) CK vs H Q E h) fun cdv A outer s H E hr =>
    (pss_cons (ps_fld (pv 0) (pv 1) rfl)
      (pss_cons (ps_fld (pv 0) (pv 2) rfl)
      (pss_cons (ps_fld (pv 0) (pv 3) rfl)
      (pss_one (ps_fld (pv 0) (pv 4) rfl)))))
theorem ok_summed (F : FnP K "summed" s_summed [] (He.ga K "summed") fd) (G : Gm w K mg) (CK : C_Kind K) (LQQ : LQ LL) (TB_summed : LamX.TabB base mg (LmX.codP K "summed") (LmX.tabP K "summed")) (ik_Kind2_word : MkIK P w K mg base 1 "Kind" (He.ga K "Kind") (sp_Kind___init__ K) 2 ["word"] (fun vs zs => [vs.getD 0 .non, vs.getD 1 .non, vs.getD 2 .non, .non, zs.getD 0 .non])) : FnOk P w K mg base CX0 3 (He.ga K "summed") fd [] (sp_summedW K LL) :=
  LmX.goT (k := 2) F sc_summed (fun vs H Q E => by first | (unfold sp_summedW; walk_at "len") | walk_at "len" | (unfold sp_summedW KdToldW; exact fun ⟨e, _⟩ => by rw [e]; rfl)) (t_summedW K LL) (fun vs H Q E h => pure_summedW (K := K) (L := LL) CK LQQ vs H Q E h) fun A outer s H E hr =>
    (pss_one (ps_ret (pe_mkK ik_Kind2_word hr (by omega) (by rfl) (pa_cons (pe_lam TB_summed rfl rfl rfl (nofree (by decide +kernel)) (fun _ => rfl)) (pa_cons pe_int pa_nil)) (pk_cons pe_str pk_nil))))
theorem ok_least (F : FnP K "least" s_least [] f fd) (G : Gm w K mg) (CK : C_Kind K) (LQQ : LQ LL) (ik_Kind2_word : MkIK P w K mg base 1 "Kind" (He.ga K "Kind") (sp_Kind___init__ K) 2 ["word"] (fun vs zs => [vs.getD 0 .non, vs.getD 1 .non, vs.getD 2 .non, .non, zs.getD 0 .non])) : FnOk P w K mg base CX0 3 f fd [] (sp_leastW K LL) :=
  FnP.go (k := 2) F sc_least (fun vs H Q E => by first | (unfold sp_leastW; walk_at "len") | walk_at "len" | (unfold sp_leastW KdToldW; exact fun ⟨e, _⟩ => by rw [e]; rfl)) (t_leastW K) (fun vs H Q E h => pure_leastW (K := K) (L := LL) CK LQQ vs H Q E h) fun cdv A outer s H E hr =>
    (pss_one (ps_ret (pe_mkK ik_Kind2_word hr (by omega) (by rfl) (pa_cons (pe_glob (by rfl) G.lesser rfl) (pa_cons pe_non pa_nil)) (pk_cons pe_str pk_nil))))
theorem ok_latest (F : FnP K "latest" s_latest [] f fd) (G : Gm w K mg) (CK : C_Kind K) (LQQ : LQ LL) (ik_Kind2_word : MkIK P w K mg base 1 "Kind" (He.ga K "Kind") (sp_Kind___init__ K) 2 ["word"] (fun vs zs => [vs.getD 0 .non, vs.getD 1 .non, vs.getD 2 .non, .non, zs.getD 0 .non])) : FnOk P w K mg base CX0 3 f fd [] (sp_latestW K LL) :=
  FnP.go (k := 2) F sc_latest (fun vs H Q E => by first | (unfold sp_latestW; walk_at "len") | walk_at "len" | (unfold sp_latestW KdToldW; exact fun ⟨e, _⟩ => by rw [e]; rfl)) (t_latestW K) (fun vs H Q E h => pure_latestW (K := K) (L := LL) CK LQQ vs H Q E h) fun cdv A outer s H E hr =>
    (pss_one (ps_ret (pe_mkK ik_Kind2_word hr (by omega) (by rfl) (pa_cons (pe_glob (by rfl) G.later rfl) (pa_cons pe_non pa_nil)) (pk_cons pe_str pk_nil))))
theorem ok_strung (F : FnP K "strung" s_strung [] (He.ga K "strung") fd) (G : Gm w K mg) (CK : C_Kind K) (LQQ : LQ LL) (TB_strung : LamX.TabB base mg (LmX.codP K "strung") (LmX.tabP K "strung")) (i_Kind : MkI P w K mg base 1 "Kind" (He.ga K "Kind") (sp_Kind___init__ K) []) : FnOk P w K mg base CX0 3 (He.ga K "strung") fd [] (sp_strungW K LL) :=
  LmX.goT (k := 2) F sc_strung (fun vs H Q E => by first | (unfold sp_strungW; walk_at "len") | walk_at "len" | (unfold sp_strungW KdToldW; exact fun ⟨e, _⟩ => by rw [e]; rfl)) (t_strungW K LL) (fun vs H Q E h => pure_strungW (K := K) (L := LL) CK LQQ vs H Q E h) fun A outer s H E hr =>
    (pss_one (ps_ret (pe_mkI i_Kind hr (by omega) (by rfl) (pa_cons (pe_lam TB_strung rfl rfl rfl (nofree (by decide +kernel)) (fun _ => rfl)) (pa_cons pe_str (pa_cons (pe_lam TB_strung rfl rfl rfl (nofree (by decide +kernel)) (fun _ => rfl)) (pa_cons pe_str pa_nil)))))))
theorem sc_Kind___repr__ : FnScope ["self"] ["self"] (defScope s_Kind___repr__) := ⟨rfl, rfl, rfl, by decide +kernel, rfl, by decide +kernel, by decide +kernel⟩
theorem ok_Kind___repr__ (F : MtP K "__repr__" "Kind.__repr__" s_Kind___repr__ f fd) (G : Gm w K mg) (CK : C_Kind K)  : FnOk P w K mg base CX0 1 f fd ["self"] (sp_Kind___repr__ K) :=
  MtP.go (k := 0) F sc_Kind___repr__ (fun vs H Q E => by first | (unfold sp_Kind___repr__; walk_at "len") | walk_at "len" | (unfold sp_Kind___repr__ KdToldW; exact fun ⟨e, _⟩ => by rw [e]; rfl)) (t_Kind___repr__ K) (fun vs H Q E h => pure_Kind___repr__ (K := K) CK vs H Q E h) fun cdv A outer s H E hr =>
    (pss_one (ps_ret (pe_joined (PJ.cons pe_str (PJ.cons (pe_fmt (pe_fld (pv 0) rfl)) (PJ.cons pe_str PJ.nil))))))
theorem sc_Kind_worth_of : FnScope ["self", "number", "make"] ["self", "number"] (defScope s_Kind_worth_of) := ⟨rfl, rfl, rfl, by decide +kernel, rfl, by decide +kernel, by decide +kernel⟩
theorem ok_Kind_worth_of (F : MtP K "worth_of" "Kind.worth_of" s_Kind_worth_of f fd) (G : Gm w K mg) (CK : C_Kind K) (CV : LmX.CvOk P w K mg base 2 (CVw K LL))  : FnOk P w K mg base CX0 3 f fd ["self", "number"] (sp_Kind_worth_of K LL) :=
  MtP.go (k := 2) F sc_Kind_worth_of (fun vs H Q E => by first | (unfold sp_Kind_worth_of; walk_at "len") | walk_at "len" | (unfold sp_Kind_worth_of KdToldW; exact fun ⟨e, _⟩ => by rw [e]; rfl)) (t_Kind_worth_of K LL) (fun vs H Q E h => pure_Kind_worth_of (K := K) (L := LL) CK vs H Q E h) fun cdv A outer s H E hr =>
    (pss_cons (ps_set (i := 2) sc_Kind_worth_of.nd rfl (by first | exact Or.inl rfl | exact Or.inr rfl) (pe_fld (pv 0) rfl))
      (pss_cons (ps_if (pt_cmpR p_isN (pv 2) pe_non (nomark _)) (pss_one (ps_ret (pv 1))) pss_nil)
      (pss_one (ps_ret (pe_callv CV hr (by decide) rfl (by first | exact Or.inl rfl | exact Or.inr (Or.inl rfl) | exact Or.inr (Or.inr rfl)) (pa_cons (pv 1) pa_nil))))))
theorem sc_Kind_joined : FnScope ["self", "one", "other", "join"] ["self", "one", "other"] (defScope s_Kind_joined) := ⟨rfl, rfl, rfl, by decide +kernel, rfl, by decide +kernel, by decide +kernel⟩
theorem ok_Kind_joined (F : MtP K "joined" "Kind.joined" s_Kind_joined f fd) (G : Gm w K mg) (CK : C_Kind K) (CV : LmX.CvOk P w K mg base 2 (CVw K LL))  : FnOk P w K mg base CX0 3 f fd ["self", "one", "other"] (sp_Kind_joined K LL) :=
  MtP.go (k := 2) F sc_Kind_joined (fun vs H Q E => by first | (unfold sp_Kind_joined; walk_at "len") | walk_at "len" | (unfold sp_Kind_joined KdToldW; exact fun ⟨e, _⟩ => by rw [e]; rfl)) (t_Kind_joined K LL) (fun vs H Q E h => pure_Kind_joined (K := K) (L := LL) CK vs H Q E h) fun cdv A outer s H E hr =>
    (pss_cons (ps_set (i := 3) sc_Kind_joined.nd rfl (by first | exact Or.inl rfl | exact Or.inr rfl) (pe_fld (pv 0) rfl))
      (pss_one (ps_ret (pe_callv CV hr (by decide) rfl (by first | exact Or.inl rfl | exact Or.inr (Or.inl rfl) | exact Or.inr (Or.inr rfl)) (pa_cons (pv 1) (pa_cons (pv 2) pa_nil))))))
theorem sc_Kind_fold : FnScope ["self", "numbers", "found", "number"] ["self", "numbers"] (defScope s_Kind_fold) := ⟨rfl, rfl, rfl, by decide +kernel, rfl, by decide +kernel, by decide +kernel⟩
theorem ok_Kind_fold (F : MtP K "fold" "Kind.fold" s_Kind_fold f fd) (G : Gm w K mg) (CK : C_Kind K) (m_Kind_worth_of : MtI P w K mg base 3 (He.ga K "Kind") "worth_of" (sp_Kind_worth_of K LL)) (m_Kind_joined : MtI P w K mg base 3 (He.ga K "Kind") "joined" (sp_Kind_joined K LL)) : FnOk P w K mg base CX0 4 f fd ["self", "numbers"] (sp_Kind_fold K LL) :=
  MtP.go (k := 3) F sc_Kind_fold (fun vs H Q E => by first | (unfold sp_Kind_fold; walk_at "len") | walk_at "len" | (unfold sp_Kind_fold KdToldW; exact fun ⟨e, _⟩ => by rw [e]; rfl)) (t_Kind_fold K LL) (fun vs H Q E h => pure_Kind_fold (K := K) (L := LL) CK vs H Q E h) fun cdv A outer s H E hr =>
    (pss_cons (ps_set (i := 2) sc_Kind_fold.nd rfl (by first | exact Or.inl rfl | exact Or.inr rfl) (pe_fld (pv 0) rfl))
      (pss_cons (ps_for PassesOwn.never rfl (pi_list (pv 1)) (pg_name (i := 3) sc_Kind_fold.nd rfl (by first | exact Or.inl rfl | exact Or.inr rfl)) (pss_one (ps_set (i := 2) sc_Kind_fold.nd rfl (by first | exact Or.inl rfl | exact Or.inr rfl) (pe_mt m_Kind_joined hr (by decide) (pv 0) (pa_cons (pv 2) (pa_cons (pe_mt m_Kind_worth_of hr (by decide) (pv 0) (pa_cons (pv 3) pa_nil)) pa_nil))))))
      (pss_one (ps_ret (pv 2)))))
theorem ok__law_told_kinds (F : FnP K "_law_told_kinds" s__law_told_kinds [] f fd) (G : Gm w K mg)  : FnOk P w K mg base CX0 1 f fd ["row"] sp__law_told_kinds :=
  FnP.go (k := 0) F sc__law_told_kinds (fun vs H Q E => by first | (unfold sp__law_told_kinds; walk_at "len") | walk_at "len" | (unfold sp__law_told_kinds KdToldW; exact fun ⟨e, _⟩ => by rw [e]; rfl)) (t__law_told_kinds K) (fun vs H Q E h => pure__law_told_kinds (K := K) vs H Q E h) fun cdv A outer s H E hr =>
    (pss_cons (ps_set (i := 1) sc__law_told_kinds.nd rfl (by first | exact Or.inl rfl | exact Or.inr rfl) pe_int)
      (pss_cons (ps_set (i := 2) sc__law_told_kinds.nd rfl (by first | exact Or.inl rfl | exact Or.inr rfl) pe_str)
      (pss_cons (ps_for PassesOwn.never rfl (pi_list (pv 0)) (pg_name (i := 3) sc__law_told_kinds.nd rfl (by first | exact Or.inl rfl | exact Or.inr rfl)) (pss_cons (ps_set (i := 1) sc__law_told_kinds.nd rfl (by first | exact Or.inl rfl | exact Or.inr rfl) (pe_op p_add (pv 1) (pv 3)))
      (pss_one (ps_set (i := 2) sc__law_told_kinds.nd rfl (by first | exact Or.inl rfl | exact Or.inr rfl) (pe_op p_addS (pe_op p_addS (pv 2) (pe_callTy p_strI (by rfl) G.str (by decide +kernel) (pa_cons (pv 3) pa_nil))) pe_str)))))
      (pss_cons (ps_set (i := 4) sc__law_told_kinds.nd rfl (by first | exact Or.inl rfl | exact Or.inr rfl) (pe_ifExp (pt_cmpR (p_neE hr.units) (pv 0) (pe_lst pa_nil) (nomark _)) (pe_ix ix_list (pe_op op_cat (pv 0) (pe_lst (pa_cons pe_non pa_nil))) (pe_op p_sub (pe_callB p_lenQ (by rfl) G.len (by decide +kernel) (pa_cons (pv 0) pa_nil)) pe_int) (fun _ _ => rfl)) pe_non))
      (pss_cons (ps_set (i := 5) sc__law_told_kinds.nd rfl (by first | exact Or.inl rfl | exact Or.inr rfl) (pe_ifExp (pt_cmpR (p_neE hr.units) (pv 0) (pe_lst pa_nil) (nomark _)) (pe_callB (cr_min rfl) (by rfl) G.min (by decide +kernel) (pa_cons (pv 0) pa_nil)) pe_non))
      (pss_one (ps_ret (pe_lst (pa_cons (pe_tup (pa_cons pe_str (pa_cons (pv 1) pa_nil))) (pa_cons (pe_tup (pa_cons pe_str (pa_cons (pv 5) pa_nil))) (pa_cons (pe_tup (pa_cons pe_str (pa_cons (pv 4) pa_nil))) (pa_cons (pe_tup (pa_cons pe_str (pa_cons (pv 2) pa_nil))) pa_nil))))))))))))
theorem ok__law_same (F : FnP K "_law_same" s__law_same [] f fd) (G : Gm w K mg)  : FnOk P w K mg base CX0 1 f fd ["found", "due"] (sp__law_same K) :=
  FnP.go (k := 0) F sc__law_same (fun vs H Q E => by first | (unfold sp__law_same; walk_at "len") | walk_at "len" | (unfold sp__law_same KdToldW; exact fun ⟨e, _⟩ => by rw [e]; rfl)) (t__law_same K) (fun vs H Q E h => pure__law_same (K := K) vs H Q E h) fun cdv A outer s H E hr =>
    (pss_one (ps_ret (pe_and (pe_cmpR (p_eqD hr.units) (pv 0) (pv 1) (nomark _)) (pe_one (pe_cmpR op_eq (pe_callB call_isi (by rfl) G.isinstance (by decide +kernel) (pa_cons (pv 0) (pa_cons (pe_bltn (v := .ty "bool") (by rfl) G.bool (by decide +kernel) rfl) pa_nil))) (pe_callB call_isi (by rfl) G.isinstance (by decide +kernel) (pa_cons (pv 1) (pa_cons (pe_bltn (v := .ty "bool") (by rfl) G.bool (by decide +kernel) rfl) pa_nil))) (nomark _))))))
theorem ok__law_kind (F : FnP K "_law_kind" s__law_kind [] (He.ga K "_law_kind") fd) (G : Gm w K mg) (LQQ : LQ LL) (TB__law_kind : LamX.TabB base mg (LmX.codP K "_law_kind") (LmX.tabP K "_law_kind"))  : FnOk P w K mg base CX0 1 (He.ga K "_law_kind") fd ["at"] (sp__law_kind K LL) :=
  LmX.goT (k := 0) F sc__law_kind (fun vs H Q E => by first | (unfold sp__law_kind; walk_at "len") | walk_at "len" | (unfold sp__law_kind KdToldW; exact fun ⟨e, _⟩ => by rw [e]; rfl)) (t__law_kind K LL) (fun vs H Q E h => pure__law_kind (K := K) (L := LL) LQQ vs H Q E h) fun A outer s H E hr =>
    (pss_cons (ps_set (i := 1) sc__law_kind.nd rfl (by first | exact Or.inl rfl | exact Or.inr rfl) (pe_lst (pa_cons (pe_tup (pa_cons (pe_lam TB__law_kind rfl rfl rfl (nofree (by decide +kernel)) (fun _ => rfl)) (pa_cons pe_int (pa_cons pe_non pa_nil)))) (pa_cons (pe_tup (pa_cons (pe_glob (by rfl) G._law_lesser rfl) (pa_cons pe_non (pa_cons pe_non pa_nil)))) pa_nil))))
      (pss_cons (ps_expr (pe_bm PySem.F.plainAttrs_list PySem.F.slot_list_append PySem.F.type_list_append mt_append (pv 1) (pa_cons (pe_tup (pa_cons (pe_lam TB__law_kind rfl rfl rfl (nofree (by decide +kernel)) (fun _ => rfl)) (pa_cons pe_non (pa_cons pe_non pa_nil)))) pa_nil)))
      (pss_cons (ps_expr (pe_bm PySem.F.plainAttrs_list PySem.F.slot_list_append PySem.F.type_list_append mt_append (pv 1) (pa_cons (pe_tup (pa_cons (pe_lam TB__law_kind rfl rfl rfl (nofree (by decide +kernel)) (fun _ => rfl)) (pa_cons pe_str (pa_cons (pe_lam TB__law_kind rfl rfl rfl (nofree (by decide +kernel)) (fun _ => rfl)) pa_nil)))) pa_nil)))
      (pss_cons (ps_expr (pe_bm PySem.F.plainAttrs_list PySem.F.slot_list_append PySem.F.type_list_append mt_append (pv 1) (pa_cons (pe_tup (pa_cons (pe_glob (by rfl) G._law_both rfl) (pa_cons (pe_tup pa_nil) (pa_cons (pe_lam TB__law_kind rfl rfl rfl (nofree (by decide +kernel)) (fun _ => rfl)) pa_nil)))) pa_nil)))
      (pss_cons (ps_expr (pe_bm PySem.F.plainAttrs_list PySem.F.slot_list_append PySem.F.type_list_append mt_append (pv 1) (pa_cons (pe_tup (pa_cons (pe_lam TB__law_kind rfl rfl rfl (nofree (by decide +kernel)) (fun _ => rfl)) (pa_cons (pe_lst pa_nil) (pa_cons (pe_lam TB__law_kind rfl rfl rfl (nofree (by decide +kernel)) (fun _ => rfl)) pa_nil)))) pa_nil)))
      (pss_cons (ps_expr (pe_bm PySem.F.plainAttrs_list PySem.F.slot_list_append PySem.F.type_list_append mt_append (pv 1) (pa_cons (pe_tup (pa_cons (pe_lam TB__law_kind rfl rfl rfl (nofree (by decide +kernel)) (fun _ => rfl)) (pa_cons pe_int (pa_cons (pe_lam TB__law_kind rfl rfl rfl (nofree (by decide +kernel)) (fun _ => rfl)) pa_nil)))) pa_nil)))
      (pss_cons (ps_expr (pe_bm PySem.F.plainAttrs_list PySem.F.slot_list_append PySem.F.type_list_append mt_append (pv 1) (pa_cons (pe_tup (pa_cons (pe_lam TB__law_kind rfl rfl rfl (nofree (by decide +kernel)) (fun _ => rfl)) (pa_cons (pe_un un_neg pe_int) (pa_cons pe_non pa_nil)))) pa_nil)))
      (pss_cons (ps_expr (pe_bm PySem.F.plainAttrs_list PySem.F.slot_list_append PySem.F.type_list_append mt_append (pv 1) (pa_cons (pe_tup (pa_cons (pe_lam TB__law_kind rfl rfl rfl (nofree (by decide +kernel)) (fun _ => rfl)) (pa_cons pe_str (pa_cons (pe_lam TB__law_kind rfl rfl rfl (nofree (by decide +kernel)) (fun _ => rfl)) pa_nil)))) pa_nil)))
      (pss_cons (ps_expr (pe_bm PySem.F.plainAttrs_list PySem.F.slot_list_append PySem.F.type_list_append mt_append (pv 1) (pa_cons (pe_tup (pa_cons (pe_lam TB__law_kind rfl rfl rfl (nofree (by decide +kernel)) (fun _ => rfl)) (pa_cons pe_non (pa_cons (pe_lam TB__law_kind rfl rfl rfl (nofree (by decide +kernel)) (fun _ => rfl)) pa_nil)))) pa_nil)))
      (pss_cons (ps_expr (pe_bm PySem.F.plainAttrs_list PySem.F.slot_list_append PySem.F.type_list_append mt_append (pv 1) (pa_cons (pe_tup (pa_cons (pe_lam TB__law_kind rfl rfl rfl (nofree (by decide +kernel)) (fun _ => rfl)) (pa_cons pe_int (pa_cons pe_non pa_nil)))) pa_nil)))
      (pss_cons (ps_expr (pe_bm PySem.F.plainAttrs_list PySem.F.slot_list_append PySem.F.type_list_append mt_append (pv 1) (pa_cons (pe_tup (pa_cons (pe_glob (by rfl) G._law_apart rfl) (pa_cons pe_non (pa_cons pe_non pa_nil)))) pa_nil)))
      (pss_cons (ps_expr (pe_bm PySem.F.plainAttrs_list PySem.F.slot_list_append PySem.F.type_list_append mt_append (pv 1) (pa_cons (pe_tup (pa_cons (pe_lam TB__law_kind rfl rfl rfl (nofree (by decide +kernel)) (fun _ => rfl)) (pa_cons pe_int (pa_cons pe_non pa_nil)))) pa_nil)))
      (pss_cons (ps_expr (pe_bm PySem.F.plainAttrs_list PySem.F.slot_list_append PySem.F.type_list_append mt_append (pv 1) (pa_cons (pe_tup (pa_cons (pe_lam TB__law_kind rfl rfl rfl (nofree (by decide +kernel)) (fun _ => rfl)) (pa_cons pe_int (pa_cons (pe_lam TB__law_kind rfl rfl rfl (nofree (by decide +kernel)) (fun _ => rfl)) pa_nil)))) pa_nil)))
      (pss_cons (ps_expr (pe_bm PySem.F.plainAttrs_list PySem.F.slot_list_append PySem.F.type_list_append mt_append (pv 1) (pa_cons (pe_tup (pa_cons (pe_lam TB__law_kind rfl rfl rfl (nofree (by decide +kernel)) (fun _ => rfl)) (pa_cons pe_int (pa_cons pe_non pa_nil)))) pa_nil)))
      (pss_cons (ps_expr (pe_bm PySem.F.plainAttrs_list PySem.F.slot_list_append PySem.F.type_list_append mt_append (pv 1) (pa_cons (pe_tup (pa_cons (pe_lam TB__law_kind rfl rfl rfl (nofree (by decide +kernel)) (fun _ => rfl)) (pa_cons pe_int (pa_cons pe_non pa_nil)))) pa_nil)))
      (pss_cons (ps_expr (pe_bm PySem.F.plainAttrs_list PySem.F.slot_list_append PySem.F.type_list_append mt_append (pv 1) (pa_cons (pe_tup (pa_cons (pe_lam TB__law_kind rfl rfl rfl (nofree (by decide +kernel)) (fun _ => rfl)) (pa_cons pe_int (pa_cons pe_non pa_nil)))) pa_nil)))
      (pss_cons (ps_expr (pe_bm PySem.F.plainAttrs_list PySem.F.slot_list_append PySem.F.type_list_append mt_append (pv 1) (pa_cons (pe_tup (pa_cons (pe_lam TB__law_kind rfl rfl rfl (nofree (by decide +kernel)) (fun _ => rfl)) (pa_cons pe_str (pa_cons (pe_lam TB__law_kind rfl rfl rfl (nofree (by decide +kernel)) (fun _ => rfl)) pa_nil)))) pa_nil)))
      (pss_cons (ps_expr (pe_bm PySem.F.plainAttrs_list PySem.F.slot_list_append PySem.F.type_list_append mt_append (pv 1) (pa_cons (pe_tup (pa_cons (pe_lam TB__law_kind rfl rfl rfl (nofree (by decide +kernel)) (fun _ => rfl)) (pa_cons pe_non (pa_cons pe_non pa_nil)))) pa_nil)))
      (pss_cons (ps_expr (pe_bm PySem.F.plainAttrs_list PySem.F.slot_list_append PySem.F.type_list_append mt_append (pv 1) (pa_cons (pe_tup (pa_cons (pe_lam TB__law_kind rfl rfl rfl (nofree (by decide +kernel)) (fun _ => rfl)) (pa_cons pe_non (pa_cons (pe_lam TB__law_kind rfl rfl rfl (nofree (by decide +kernel)) (fun _ => rfl)) pa_nil)))) pa_nil)))
      (pss_cons (ps_expr (pe_bm PySem.F.plainAttrs_list PySem.F.slot_list_append PySem.F.type_list_append mt_append (pv 1) (pa_cons (pe_tup (pa_cons (pe_glob (by rfl) G._law_left_none rfl) (pa_cons pe_non (pa_cons pe_non pa_nil)))) pa_nil)))
      (pss_cons (ps_expr (pe_bm PySem.F.plainAttrs_list PySem.F.slot_list_append PySem.F.type_list_append mt_append (pv 1) (pa_cons (pe_tup (pa_cons (pe_lam TB__law_kind rfl rfl rfl (nofree (by decide +kernel)) (fun _ => rfl)) (pa_cons pe_int (pa_cons (pe_lam TB__law_kind rfl rfl rfl (nofree (by decide +kernel)) (fun _ => rfl)) pa_nil)))) pa_nil)))
      (pss_one (ps_ret (pe_ix ix_list (pv 1) (pv 0) (fun _ _ => rfl)))))))))))))))))))))))))
theorem ok__law_name (F : FnP K "_law_name" s__law_name [] f fd) (G : Gm w K mg) (c__law_draw : Cal P w K mg base 1 "_law_draw" sp__law_draw []) : FnOk P w K mg base CX0 2 f fd ["bag", "last"] sp__law_name :=
  FnP.go (k := 1) F sc__law_name (fun vs H Q E => by first | (unfold sp__law_name; walk_at "len") | walk_at "len" | (unfold sp__law_name KdToldW; exact fun ⟨e, _⟩ => by rw [e]; rfl)) (t__law_name K) (fun vs H Q E h => pure__law_name (K := K) vs H Q E h) fun cdv A outer s H E hr =>
    (pss_cons (ps_set (i := 2) sc__law_name.nd rfl (by first | exact Or.inl rfl | exact Or.inr rfl) pe_str)
      (pss_cons (ps_set (i := 3) sc__law_name.nd rfl (by first | exact Or.inl rfl | exact Or.inr rfl) (pe_c c__law_draw hr (by omega) (by rfl) (pa_cons (pv 0) (pa_cons pe_int pa_nil))))
      (pss_cons (ps_set (i := 4) sc__law_name.nd rfl (by first | exact Or.inl rfl | exact Or.inr rfl) (pe_ix ix_str (pv 2) (pe_c c__law_draw hr (by omega) (by rfl) (pa_cons (pv 0) (pa_cons pe_int pa_nil))) (fun _ _ => rfl)))
      (pss_cons (ps_if (pt_cmpR op_eq (pv 3) pe_int (nomark _)) (pss_cons (ps_set (i := 5) sc__law_name.nd rfl (by first | exact Or.inl rfl | exact Or.inr rfl) (pe_lst (pa_cons pe_str (pa_cons pe_str (pa_cons pe_str (pa_cons pe_str (pa_cons pe_str (pa_cons pe_str (pa_cons pe_str (pa_cons pe_str (pa_cons pe_str (pa_cons pe_str pa_nil))))))))))))
      (pss_one (ps_ret (pe_ix ix_list (pv 5) (pe_c c__law_draw hr (by omega) (by rfl) (pa_cons (pv 0) (pa_cons pe_int pa_nil))) (fun _ _ => rfl))))) pss_nil)
      (pss_cons (ps_if (PW.pt (pw_and (pt_cmpR op_eq (pv 3) pe_int (nomark _)) (pw_and1 (pt_chain p_lt p_lt pe_int (pe_callB p_lenS (by rfl) G.len (by decide +kernel) (pa_cons (pv 1) pa_nil)) pe_int)))) (pss_one (ps_ret (pe_op p_addS (pv 1) (pv 4)))) pss_nil)
      (pss_cons (ps_if (PW.pt (pw_and (pt_cmpR op_eq (pv 3) pe_int (nomark _)) (pw_and1 (pt_cmpR p_gt (pe_callB p_lenS (by rfl) G.len (by decide +kernel) (pa_cons (pv 1) pa_nil)) pe_int (nomark _))))) (pss_one (ps_ret (pe_slice sl_str (pv 1) (po_some pe_int) po_none))) pss_nil)
      (pss_cons (ps_if (PW.pt (pw_and (pt_cmpR op_eq (pv 3) pe_int (nomark _)) (pw_and1 (pt_cmpR op_ne (pv 1) pe_str (nomark _))))) (pss_cons (ps_set (i := 6) sc__law_name.nd rfl (by first | exact Or.inl rfl | exact Or.inr rfl) (pe_c c__law_draw hr (by omega) (by rfl) (pa_cons (pv 0) (pa_cons (pe_callB p_lenS (by rfl) G.len (by decide +kernel) (pa_cons (pv 1) pa_nil)) pa_nil))))
      (pss_one (ps_ret (pe_op p_addS (pe_op p_addS (pe_slice sl_str (pv 1) po_none (po_some (pv 6))) (pv 4)) (pe_slice sl_str (pv 1) (po_some (pe_op p_add (pv 6) pe_int)) po_none))))) pss_nil)
      (pss_one (ps_ret (pe_op p_addS (pv 4) (pe_join pe_str (pe_lc (own := [("k", 7)]) (g := gName 7) (tt := tYes) (by rfl) sc__law_name.nd (pi_range1 (by rfl) G.range (pa_cons (pe_c c__law_draw hr (by omega) (by rfl) (pa_cons (pv 0) (pa_cons pe_int pa_nil))) pa_nil)) (blkOk_by (own := [("k", 7)]) (N := ["bag", "last", "letters", "pick", "letter", "words", "at", "k"]) (sc := defScope s__law_name) (by decide +kernel)) (fun _ _ _ _ _ => (pg_name (i := 7) sc__law_name.nd rfl (by first | exact Or.inl rfl | exact Or.inr rfl))) (fun _ _ _ _ _ => pts_nil) (fun _ _ _ _ _ => (pe_ix ix_str (pv 2) (pe_c c__law_draw hr (by omega) (by rfl) (pa_cons (pv 0) (pa_cons pe_int pa_nil))) (fun _ _ => rfl)))))))))))))))
theorem ok__law_made (F : FnP K "_law_made" s__law_made [] f fd) (G : Gm w K mg) (CV : LmX.CvOk P w K mg base 2 (CVw K LL))  : FnOk P w K mg base CX0 3 f fd ["made_by", "number"] (sp__law_made K LL) :=
  FnP.go (k := 2) F sc__law_made (fun vs H Q E => by first | (unfold sp__law_made; walk_at "len") | walk_at "len" | (unfold sp__law_made KdToldW; exact fun ⟨e, _⟩ => by rw [e]; rfl)) (t__law_made K LL) (fun vs H Q E h => pure__law_made (K := K) (L := LL) vs H Q E h) fun cdv A outer s H E hr =>
    (pss_one (ps_ret (pe_ifExp (pt_cmpR p_isN (pv 0) pe_non (nomark _)) (pv 1) (pe_callv CV hr (by decide) rfl (by first | exact Or.inl rfl | exact Or.inr (Or.inl rfl) | exact Or.inr (Or.inr rfl)) (pa_cons (pv 1) pa_nil)))))
theorem ok__law_fold (F : FnP K "_law_fold" s__law_fold [] f fd) (G : Gm w K mg) (CV : LmX.CvOk P w K mg base 2 (CVw K LL)) (c__law_made : Cal P w K mg base 3 "_law_made" (sp__law_made K LL) []) : FnOk P w K mg base CX0 4 f fd ["kind_of", "row"] (sp__law_fold K LL) :=
  FnP.go (k := 3) F sc__law_fold (fun vs H Q E => by first | (unfold sp__law_fold; walk_at "len") | walk_at "len" | (unfold sp__law_fold KdToldW; exact fun ⟨e, _⟩ => by rw [e]; rfl)) (t__law_fold K LL) (fun vs H Q E h => pure__law_fold (K := K) (L := LL) vs H Q E h) fun cdv A outer s H E hr =>
    (pss_cons (ps_asg (pv 0) (pg_tup rfl (pgs_cons (pg_name (i := 2) sc__law_fold.nd rfl (by first | exact Or.inl rfl | exact Or.inr rfl)) (pgs_cons (pg_name (i := 3) sc__law_fold.nd rfl (by first | exact Or.inl rfl | exact Or.inr rfl)) (pgs_cons (pg_name (i := 4) sc__law_fold.nd rfl (by first | exact Or.inl rfl | exact Or.inr rfl)) pgs_nil)))))
      (pss_cons (ps_for PassesOwn.never rfl (pi_list (pv 1)) (pg_name (i := 5) sc__law_fold.nd rfl (by first | exact Or.inl rfl | exact Or.inr rfl)) (pss_one (ps_set (i := 3) sc__law_fold.nd rfl (by first | exact Or.inl rfl | exact Or.inr rfl) (pe_callv CV hr (by decide) rfl (by first | exact Or.inl rfl | exact Or.inr (Or.inl rfl) | exact Or.inr (Or.inr rfl)) (pa_cons (pv 3) (pa_cons (pe_c c__law_made hr (by omega) (by rfl) (pa_cons (pv 4) (pa_cons (pv 5) pa_nil))) pa_nil))))))
      (pss_one (ps_ret (pv 3)))))
theorem ok_law (F : FnP K "law" s_law [] f fd) (G : Gm w K mg) (CK : C_Kind K) (LQQ : LQ LL) (DTT : DT K) (c__law_cell_at : Cal P w K mg base 1 "_law_cell_at" (sp__law_cell_at K) []) (c__law_bag : Cal P w K mg base 1 "_law_bag" sp__law_bag []) (c__law_row : Cal P w K mg base 2 "_law_row" sp__law_row []) (c__law_draw : Cal P w K mg base 1 "_law_draw" sp__law_draw []) (c__law_many : Cal P w K mg base 2 "_law_many" sp__law_many []) (c_summed : Cal P w K mg base 3 "summed" (sp_summedW K LL) []) (c_least : Cal P w K mg base 3 "least" (sp_leastW K LL) []) (c_latest : Cal P w K mg base 3 "latest" (sp_latestW K LL) []) (c_strung : Cal P w K mg base 3 "strung" (sp_strungW K LL) []) (rp_Kind : RpI P w K mg base 1 (He.ga K "Kind") (sp_Kind___repr__ K)) (m_Kind_fold : MtI P w K mg base 4 (He.ga K "Kind") "fold" (sp_Kind_fold K LL)) (c__law_told_kinds : Cal P w K mg base 1 "_law_told_kinds" sp__law_told_kinds []) (c__law_same : Cal P w K mg base 1 "_law_same" (sp__law_same K) []) (c__law_kind : Cal P w K mg base 1 "_law_kind" (sp__law_kind K LL) []) (c__law_name : Cal P w K mg base 2 "_law_name" sp__law_name []) (c__law_fold : Cal P w K mg base 4 "_law_fold" (sp__law_fold K LL) []) (i_Kind : MkI P w K mg base 1 "Kind" (He.ga K "Kind") (sp_Kind___init__ K) []) (ik_Kind0_word_make_none_join : MkIK P w K mg base 1 "Kind" (He.ga K "Kind") (sp_Kind___init__ K) 0 ["word", "make", "none", "join"] (fun vs zs => [vs.getD 0 .non, zs.getD 3 .non, zs.getD 2 .non, zs.getD 1 .non, zs.getD 0 .non])) (ik_Kind2_word : MkIK P w K mg base 1 "Kind" (He.ga K "Kind") (sp_Kind___init__ K) 2 ["word"] (fun vs zs => [vs.getD 0 .non, vs.getD 1 .non, vs.getD 2 .non, .non, zs.getD 0 .non])) (km_Kind_fold0_numbers : MtK P w K mg base 4 (He.ga K "Kind") "fold" (sp_Kind_fold K LL) 0 ["numbers"] (fun vs zs => [vs.getD 0 .non, zs.getD 0 .non])) (i_Kind_d : MkI P w K mg base 1 "Kind" (He.ga K "Kind") (sp_Kind___init__ K) [.non, .str "kind"]) : FnOk P w K mg base CX0 5 f fd ["script"] (sp_law K) :=
  FnP.go (k := 4) F sc_law (fun vs H Q E => by first | (unfold sp_law; walk_at "len") | walk_at "len" | (unfold sp_law KdToldW; exact fun ⟨e, _⟩ => by rw [e]; rfl)) (t_law K LL) (fun vs H Q E h => pure_law (K := K) (L := LL) CK LQQ DTT vs H Q E h) fun cdv A outer s H E hr =>
    (pss_cons (ps_for PassesOwn.never rfl (pi_range1 (by rfl) G.range (pa_cons (pe_callB (p_max rfl) (by rfl) G.max (by decide +kernel) (pa_cons pe_int (pa_cons (pe_callB (p_min rfl) (by rfl) G.min (by decide +kernel) (pa_cons pe_int (pa_cons (pe_callB p_lenQ (by rfl) G.len (by decide +kernel) (pa_cons (pv 0) pa_nil)) pa_nil))) pa_nil))) pa_nil)) (pg_name (i := 1) sc_law.nd rfl (by first | exact Or.inl rfl | exact Or.inr rfl)) (pss_cons (ps_set (i := 2) sc_law.nd rfl (by first | exact Or.inl rfl | exact Or.inr rfl) (pe_c c__law_bag hr (by omega) (by rfl) (pa_cons (pe_c c__law_cell_at hr (by omega) (by rfl) (pa_cons (pv 0) (pa_cons (pv 1) pa_nil))) (pa_cons (pv 1) pa_nil))))
      (pss_cons (ps_set (i := 3) sc_law.nd rfl (by first | exact Or.inl rfl | exact Or.inr rfl) (pe_c c__law_row hr (by omega) (by rfl) (pa_cons (pv 2) (pa_cons pe_int pa_nil))))
      (pss_cons (ps_if (PW.pt (pw_and (pt_cmpR op_eq (pv 1) pe_int (nomark _)) (pw_and1 (pt_cmpR op_eq (pe_c c__law_draw hr (by omega) (by rfl) (pa_cons (pv 2) (pa_cons pe_int pa_nil))) pe_int (nomark _))))) (pss_one (ps_set (i := 3) sc_law.nd rfl (by first | exact Or.inl rfl | exact Or.inr rfl) (pe_c c__law_many hr (by omega) (by rfl) (pa_cons (pv 2) pa_nil)))) pss_nil)
      (pss_cons (ps_set (i := 4) sc_law.nd rfl (by first | exact Or.inl rfl | exact Or.inr rfl) (pe_callTy p_listQ (by rfl) G.list (by decide +kernel) (pa_cons (pv 3) pa_nil)))
      (pss_cons (ps_set (i := 5) sc_law.nd rfl (by first | exact Or.inl rfl | exact Or.inr rfl) (pe_lc (own := [("kind", 11)]) (g := gName 11) (tt := tYes) (by rfl) sc_law.nd (pi_list (pe_lst (pa_cons (pe_c0 c_summed hr (by omega) (by rfl)) (pa_cons (pe_c0 c_least hr (by omega) (by rfl)) (pa_cons (pe_c0 c_latest hr (by omega) (by rfl)) (pa_cons (pe_c0 c_strung hr (by omega) (by rfl)) pa_nil)))))) (blkOk_by (own := [("kind", 11)]) (N := ["script", "k", "bag", "row", "handed", "found", "told", "kind_of", "label", "due", "kinds", "kind", "j"]) (sc := defScope s_law) (by decide +kernel)) (fun _ _ _ _ _ => (pg_name (i := 11) sc_law.nd rfl (by first | exact Or.inl rfl | exact Or.inr rfl))) (fun _ _ _ _ _ => pts_nil) (fun _ _ _ _ _ => (pe_tup (pa_cons (pe_callB (p_reprI rp_Kind hr (by decide)) (by rfl) G.repr (by decide +kernel) (pa_cons (pv 11) pa_nil)) (pa_cons (pe_mt m_Kind_fold hr (by decide) (pv 11) (pa_cons (pv 4) pa_nil)) pa_nil))))))
      (pss_cons (ps_set (i := 6) sc_law.nd rfl (by first | exact Or.inl rfl | exact Or.inr rfl) (pe_c c__law_told_kinds hr (by omega) (by rfl) (pa_cons (pv 3) pa_nil)))
      (pss_cons (ps_if (PW.pt (pw_or (pt_cmpR (p_neD hr.units) (pv 5) (pv 6) (nomark _)) (pw_or (pt_cmpR (p_neD hr.units) (pv 4) (pv 3) (nomark _)) (pw_or1 (pt_not (pt_val (pe_callB (cr_all rfl) (by rfl) G.all (by decide +kernel) (pa_cons (pe_lc (own := [("j", 12)]) (g := gName 12) (tt := tYes) (by rfl) sc_law.nd (pi_range1 (by rfl) G.range (pa_cons pe_int pa_nil)) (blkOk_by (own := [("j", 12)]) (N := ["script", "k", "bag", "row", "handed", "found", "told", "kind_of", "label", "due", "kinds", "kind", "j"]) (sc := defScope s_law) (by decide +kernel)) (fun _ _ _ _ _ => (pg_name (i := 12) sc_law.nd rfl (by first | exact Or.inl rfl | exact Or.inr rfl))) (fun _ _ _ _ _ => pts_nil) (fun _ _ _ _ _ => (pe_c c__law_same hr (by omega) (by rfl) (pa_cons (pe_ix ix_tup (pe_ix ix_list (pv 5) (pv 12) (fun _ _ => rfl)) pe_int (fun _ _ => rfl)) (pa_cons (pe_ix ix_tup (pe_ix ix_list (pv 6) (pv 12) (fun _ _ => rfl)) pe_int (fun _ _ => rfl)) pa_nil))))) pa_nil)))))))) (pss_one (ps_ret pe_bl)) pss_nil)
      (pss_cons (ps_set (i := 7) sc_law.nd rfl (by first | exact Or.inl rfl | exact Or.inr rfl) (pe_c c__law_kind hr (by omega) (by rfl) (pa_cons (pe_c c__law_draw hr (by omega) (by rfl) (pa_cons (pv 2) (pa_cons pe_int pa_nil))) pa_nil)))
      (pss_cons (ps_set (i := 8) sc_law.nd rfl (by first | exact Or.inl rfl | exact Or.inr rfl) (pe_c c__law_name hr (by omega) (by rfl) (pa_cons (pv 2) (pa_cons pe_str pa_nil))))
      (pss_cons (ps_set (i := 9) sc_law.nd rfl (by first | exact Or.inl rfl | exact Or.inr rfl) (pe_c c__law_fold hr (by omega) (by rfl) (pa_cons (pv 7) (pa_cons (pv 3) pa_nil))))
      (pss_cons (ps_set (i := 10) sc_law.nd rfl (by first | exact Or.inl rfl | exact Or.inr rfl) (pe_lst (pa_cons (pe_mkI i_Kind hr (by omega) (by rfl) (pa_cons (pe_ix ix_tup (pv 7) pe_int (fun _ _ => rfl)) (pa_cons (pe_ix ix_tup (pv 7) pe_int (fun _ _ => rfl)) (pa_cons (pe_ix ix_tup (pv 7) pe_int (fun _ _ => rfl)) (pa_cons (pv 8) pa_nil))))) pa_nil)))
      (pss_cons (ps_expr (pe_bm PySem.F.plainAttrs_list PySem.F.slot_list_append PySem.F.type_list_append mt_append (pv 10) (pa_cons (pe_mkK0 ik_Kind0_word_make_none_join hr (by omega) (by rfl) (pk_cons (pv 8) (pk_cons (pe_ix ix_tup (pv 7) pe_int (fun _ _ => rfl)) (pk_cons (pe_ix ix_tup (pv 7) pe_int (fun _ _ => rfl)) (pk_cons (pe_ix ix_tup (pv 7) pe_int (fun _ _ => rfl)) pk_nil))))) pa_nil)))
      (pss_cons (ps_if (pt_cmpR p_isN (pe_ix ix_tup (pv 7) pe_int (fun _ _ => rfl)) pe_non (nomark _)) (pss_one (ps_expr (pe_bm PySem.F.plainAttrs_list PySem.F.slot_list_append PySem.F.type_list_append mt_append (pv 10) (pa_cons (pe_mkK ik_Kind2_word hr (by omega) (by rfl) (pa_cons (pe_ix ix_tup (pv 7) pe_int (fun _ _ => rfl)) (pa_cons (pe_ix ix_tup (pv 7) pe_int (fun _ _ => rfl)) pa_nil)) (pk_cons (pv 8) pk_nil)) pa_nil)))) pss_nil)
      (pss_cons (ps_for PassesOwn.never rfl (pi_list (pv 10)) (pg_name (i := 11) sc_law.nd rfl (by first | exact Or.inl rfl | exact Or.inr rfl)) (pss_cons (ps_if (PW.pt (pw_or (pt_not (pt_val (pe_c c__law_same hr (by omega) (by rfl) (pa_cons (pe_mt m_Kind_fold hr (by decide) (pv 11) (pa_cons (pv 4) pa_nil)) (pa_cons (pv 9) pa_nil))))) (pw_or1 (pt_cmpR op_ne (pe_callB (p_reprI rp_Kind hr (by decide)) (by rfl) G.repr (by decide +kernel) (pa_cons (pv 11) pa_nil)) (pe_op p_addS (pe_op p_addS pe_str (pv 8)) pe_str) (nomark _))))) (pss_one (ps_ret pe_bl)) pss_nil)
      (pss_one (ps_if (PW.pt (pw_or (pt_not (pt_val (pe_c c__law_same hr (by omega) (by rfl) (pa_cons (pe_mtK0 km_Kind_fold0_numbers hr (by decide) (pv 11) (pk_cons (pv 4) pk_nil)) (pa_cons (pv 9) pa_nil))))) (pw_or1 (pt_not (pt_val (pe_c c__law_same hr (by omega) (by rfl) (pa_cons (pe_mt m_Kind_fold hr (by decide) (pv 11) (pa_cons (pe_lst pa_nil) pa_nil)) (pa_cons (pe_ix ix_tup (pv 7) pe_int (fun _ _ => rfl)) pa_nil)))))))) (pss_one (ps_ret pe_bl)) pss_nil))))
      (pss_cons (ps_if (PW.pt (pw_or (pt_cmpR op_ne (pe_callB (p_reprI rp_Kind hr (by decide)) (by rfl) G.repr (by decide +kernel) (pa_cons (pe_mkI i_Kind_d hr (by omega) (by rfl) (pa_cons (pe_ix ix_tup (pv 7) pe_int (fun _ _ => rfl)) (pa_cons (pe_ix ix_tup (pv 7) pe_int (fun _ _ => rfl)) pa_nil))) pa_nil)) pe_str (nomark _)) (pw_or1 (pt_cmpR (p_neD hr.units) (pv 4) (pv 3) (nomark _))))) (pss_one (ps_ret pe_bl)) pss_nil)
      (pss_cons (ps_expr (pe_bm PySem.F.plainAttrs_list PySem.F.slot_list_append PySem.F.type_list_append mt_append (pv 4) (pa_cons (pe_c c__law_draw hr (by omega) (by rfl) (pa_cons (pv 2) (pa_cons pe_int pa_nil))) pa_nil)))
      (pss_one (ps_for PassesOwn.never rfl (pi_list (pv 10)) (pg_name (i := 11) sc_law.nd rfl (by first | exact Or.inl rfl | exact Or.inr rfl)) (pss_one (ps_if (PW.pt (pw_or (pt_not (pt_val (pe_c c__law_same hr (by omega) (by rfl) (pa_cons (pe_mt m_Kind_fold hr (by decide) (pv 11) (pa_cons (pv 4) pa_nil)) (pa_cons (pe_c c__law_fold hr (by omega) (by rfl) (pa_cons (pv 7) (pa_cons (pv 4) pa_nil))) pa_nil))))) (pw_or1 (pt_not (pt_val (pe_c c__law_same hr (by omega) (by rfl) (pa_cons (pe_mt m_Kind_fold hr (by decide) (pv 11) (pa_cons (pv 3) pa_nil)) (pa_cons (pv 9) pa_nil)))))))) (pss_one (ps_ret pe_bl)) pss_nil)))))))))))))))))))))
      (pss_one (ps_ret pe_bl)))
end
theorem facts {P : Program} {w : World} {K : PySem.W.Frag} {h : Heap} {mg : Str → Option Value} {f : Addr} (X : K.In h) (G0 : h.Ns mainGlobals mg) (hfa : mg ("law" : Str) = some (.ref f)) (c0 : He.SaysX fa fn [] tf ex w h K) :
    ∃ fd : FuncData, (∀ (s : Shared) (v : Value), BindsTo s fd ⟨[v], []⟩ [("script", v)]) ∧ ∀ base : Heap, K.In base → base.Ns mainGlobals mg → LamX.TabB base mg (He.cT K ("summed", none)).1 (He.cT K ("summed", none)).2 → LamX.TabB base mg (He.cT K ("strung", none)).1 (He.cT K ("strung", none)).2 → LamX.TabB base mg (He.cT K ("_law_kind", none)).1 (He.cT K ("_law_kind", none)).2 → FnOk P w K mg base CX0 5 f fd ["script"] (sp_law K) := by
  have c := c0.t.d
  have c0m : (!(tbK K "_law_kind" == tbK K "summed") && (!(tbK K "_law_kind" == tbK K "strung") && !(tbK K "summed" == tbK K "strung"))) = true := c0.more
  obtain ⟨x1, c1⟩ := Bool.and_eq_true_iff.mp c0m
  obtain ⟨x2, x3⟩ := Bool.and_eq_true_iff.mp c1
  have ne : ∀ {a b : Addr}, (!(a == b)) = true → a ≠ b := fun {a b} z e => by rw [e] at z; simp at z
  have DTT : DT K := ⟨ne x1, ne x2, ne x3⟩
  have LQQ : LQ LL := lqLL
  obtain ⟨fd_lesser, F_lesser⟩ : ∃ fd, FnP K "lesser" s_lesser [] (He.ga K "lesser") fd := c.def_ 0 (d := d_lesser) rfl
  obtain ⟨fd_later, F_later⟩ : ∃ fd, FnP K "later" s_later [] (He.ga K "later") fd := c.def_ 1 (d := d_later) rfl
  obtain ⟨fd_summed, F_summed⟩ : ∃ fd, FnP K "summed" s_summed [] (He.ga K "summed") fd := c.def_ 2 (d := d_summed) rfl
  obtain ⟨fd_least, F_least⟩ : ∃ fd, FnP K "least" s_least [] (He.ga K "least") fd := c.def_ 3 (d := d_least) rfl
  obtain ⟨fd_latest, F_latest⟩ : ∃ fd, FnP K "latest" s_latest [] (He.ga K "latest") fd := c.def_ 4 (d := d_latest) rfl
  obtain ⟨fd_strung, F_strung⟩ : ∃ fd, FnP K "strung" s_strung [] (He.ga K "strung") fd := c.def_ 5 (d := d_strung) rfl
  obtain ⟨fd__law_cell_at, F__law_cell_at⟩ : ∃ fd, FnP K "_law_cell_at" s__law_cell_at [] (He.ga K "_law_cell_at") fd := c.def_ 6 (d := d__law_cell_at) rfl
  obtain ⟨fd__law_bag, F__law_bag⟩ : ∃ fd, FnP K "_law_bag" s__law_bag [] (He.ga K "_law_bag") fd := c.def_ 7 (d := d__law_bag) rfl
  obtain ⟨fd__law_draw, F__law_draw⟩ : ∃ fd, FnP K "_law_draw" s__law_draw [] (He.ga K "_law_draw") fd := c.def_ 8 (d := d__law_draw) rfl
  obtain ⟨fd__law_name, F__law_name⟩ : ∃ fd, FnP K "_law_name" s__law_name [] (He.ga K "_law_name") fd := c.def_ 9 (d := d__law_name) rfl
  obtain ⟨fd__law_lesser, F__law_lesser⟩ : ∃ fd, FnP K "_law_lesser" s__law_lesser [] (He.ga K "_law_lesser") fd := c.def_ 10 (d := d__law_lesser) rfl
  obtain ⟨fd__law_apart, F__law_apart⟩ : ∃ fd, FnP K "_law_apart" s__law_apart [] (He.ga K "_law_apart") fd := c.def_ 11 (d := d__law_apart) rfl
  obtain ⟨fd__law_both, F__law_both⟩ : ∃ fd, FnP K "_law_both" s__law_both [] (He.ga K "_law_both") fd := c.def_ 12 (d := d__law_both) rfl
  obtain ⟨fd__law_left_none, F__law_left_none⟩ : ∃ fd, FnP K "_law_left_none" s__law_left_none [] (He.ga K "_law_left_none") fd := c.def_ 13 (d := d__law_left_none) rfl
  obtain ⟨fd__law_kind, F__law_kind⟩ : ∃ fd, FnP K "_law_kind" s__law_kind [] (He.ga K "_law_kind") fd := c.def_ 14 (d := d__law_kind) rfl
  obtain ⟨fd__law_made, F__law_made⟩ : ∃ fd, FnP K "_law_made" s__law_made [] (He.ga K "_law_made") fd := c.def_ 15 (d := d__law_made) rfl
  obtain ⟨fd__law_fold, F__law_fold⟩ : ∃ fd, FnP K "_law_fold" s__law_fold [] (He.ga K "_law_fold") fd := c.def_ 16 (d := d__law_fold) rfl
  obtain ⟨fd__law_row, F__law_row⟩ : ∃ fd, FnP K "_law_row" s__law_row [] (He.ga K "_law_row") fd := c.def_ 17 (d := d__law_row) rfl
  obtain ⟨fd__law_told_kinds, F__law_told_kinds⟩ : ∃ fd, FnP K "_law_told_kinds" s__law_told_kinds [] (He.ga K "_law_told_kinds") fd := c.def_ 18 (d := d__law_told_kinds) rfl
  obtain ⟨fd__law_same, F__law_same⟩ : ∃ fd, FnP K "_law_same" s__law_same [] (He.ga K "_law_same") fd := c.def_ 19 (d := d__law_same) rfl
  obtain ⟨fd__law_many, F__law_many⟩ : ∃ fd, FnP K "_law_many" s__law_many [] (He.ga K "_law_many") fd := c.def_ 20 (d := d__law_many) rfl
  obtain ⟨fd_law, F_law⟩ : ∃ fd, FnP K "law" s_law [] (He.ga K "law") fd := c.def_ 21 (d := d_law) rfl
  obtain ⟨fd_Kind___init__, F_Kind___init__⟩ : ∃ fd, MtD K "__init__" "Kind.__init__" s_Kind___init__ [.non, .str "kind"] (He.ma K (He.ga K "Kind") "__init__") fd := c.def_ 22 (d := d_Kind___init__) rfl
  obtain ⟨fd_Kind___repr__, F_Kind___repr__⟩ : ∃ fd, MtP K "__repr__" "Kind.__repr__" s_Kind___repr__ (He.ma K (He.ga K "Kind") "__repr__") fd := c.def_ 23 (d := d_Kind___repr__) rfl
  obtain ⟨fd_Kind_joined, F_Kind_joined⟩ : ∃ fd, MtP K "joined" "Kind.joined" s_Kind_joined (He.ma K (He.ga K "Kind") "joined") fd := c.def_ 24 (d := d_Kind_joined) rfl
  obtain ⟨fd_Kind_worth_of, F_Kind_worth_of⟩ : ∃ fd, MtP K "worth_of" "Kind.worth_of" s_Kind_worth_of (He.ma K (He.ga K "Kind") "worth_of") fd := c.def_ 25 (d := d_Kind_worth_of) rfl
  obtain ⟨fd_Kind_fold, F_Kind_fold⟩ : ∃ fd, MtP K "fold" "Kind.fold" s_Kind_fold (He.ma K (He.ga K "Kind") "fold") fd := c.def_ 26 (d := d_Kind_fold) rfl
  have CK : C_Kind K := ⟨He.cls_ok (c.fact 34 (f := .cls "Kind") rfl), He.noat_ok (c.fact 35 (f := .noat "Kind" "joining") rfl), He.noat_ok (c.fact 36 (f := .noat "Kind" "none") rfl), He.noat_ok (c.fact 37 (f := .noat "Kind" "making") rfl), He.noat_ok (c.fact 38 (f := .noat "Kind" "word") rfl)⟩
  have G : Gm w K mg := ⟨He.free_ok X G0 (c.fact 23 (f := .free "min") rfl), He.free_ok X G0 (c.fact 24 (f := .free "range") rfl), He.free_ok X G0 (c.fact 25 (f := .free "len") rfl), He.free_ok X G0 (c.fact 26 (f := .free "max") rfl), He.free_ok X G0 (c.fact 27 (f := .free "list") rfl), He.free_ok X G0 (c.fact 28 (f := .free "isinstance") rfl), He.free_ok X G0 (c.fact 29 (f := .free "bool") rfl), He.free_ok X G0 (c.fact 30 (f := .free "str") rfl), He.free_ok X G0 (c.fact 31 (f := .free "abs") rfl), He.free_ok X G0 (c.fact 32 (f := .free "repr") rfl), He.free_ok X G0 (c.fact 33 (f := .free "all") rfl), He.glo_ok X G0 (c.fact 22 (f := .glo "Kind") rfl), He.glo_ok X G0 (c.fact 11 (f := .glo "_law_apart") rfl), He.glo_ok X G0 (c.fact 12 (f := .glo "_law_both") rfl), He.glo_ok X G0 (c.fact 13 (f := .glo "_law_left_none") rfl), He.glo_ok X G0 (c.fact 10 (f := .glo "_law_lesser") rfl), He.glo_ok X G0 (c.fact 1 (f := .glo "later") rfl), He.glo_ok X G0 (c.fact 0 (f := .glo "lesser") rfl)⟩
  have g_lesser := He.glo_ok X G0 (c.fact 0 (f := .glo "lesser") rfl)
  have g_later := He.glo_ok X G0 (c.fact 1 (f := .glo "later") rfl)
  have g_summed := He.glo_ok X G0 (c.fact 2 (f := .glo "summed") rfl)
  have g_least := He.glo_ok X G0 (c.fact 3 (f := .glo "least") rfl)
  have g_latest := He.glo_ok X G0 (c.fact 4 (f := .glo "latest") rfl)
  have g_strung := He.glo_ok X G0 (c.fact 5 (f := .glo "strung") rfl)
  have g__law_cell_at := He.glo_ok X G0 (c.fact 6 (f := .glo "_law_cell_at") rfl)
  have g__law_bag := He.glo_ok X G0 (c.fact 7 (f := .glo "_law_bag") rfl)
  have g__law_draw := He.glo_ok X G0 (c.fact 8 (f := .glo "_law_draw") rfl)
  have g__law_name := He.glo_ok X G0 (c.fact 9 (f := .glo "_law_name") rfl)
  have g__law_lesser := He.glo_ok X G0 (c.fact 10 (f := .glo "_law_lesser") rfl)
  have g__law_apart := He.glo_ok X G0 (c.fact 11 (f := .glo "_law_apart") rfl)
  have g__law_both := He.glo_ok X G0 (c.fact 12 (f := .glo "_law_both") rfl)
  have g__law_left_none := He.glo_ok X G0 (c.fact 13 (f := .glo "_law_left_none") rfl)
  have g__law_kind := He.glo_ok X G0 (c.fact 14 (f := .glo "_law_kind") rfl)
  have g__law_made := He.glo_ok X G0 (c.fact 15 (f := .glo "_law_made") rfl)
  have g__law_fold := He.glo_ok X G0 (c.fact 16 (f := .glo "_law_fold") rfl)
  have g__law_row := He.glo_ok X G0 (c.fact 17 (f := .glo "_law_row") rfl)
  have g__law_told_kinds := He.glo_ok X G0 (c.fact 18 (f := .glo "_law_told_kinds") rfl)
  have g__law_same := He.glo_ok X G0 (c.fact 19 (f := .glo "_law_same") rfl)
  have g__law_many := He.glo_ok X G0 (c.fact 20 (f := .glo "_law_many") rfl)
  have g_law := He.glo_ok X G0 (c.fact 21 (f := .glo "law") rfl)
  have e := hfa.symm.trans g_law
  cases e
  have b := FunD.bindsA (ps := ["script"]) F_law fun _ _ _ _ _ _ us hl => match us, hl with | [_], _ => rfl
  refine ⟨fd_law, fun s v => b s [v] rfl, fun base _ _ TB_summed TB_strung TB__law_kind => ?_⟩
  have o__law_apart := ok__law_apart (P := P) (base := base) F__law_apart G 
  have o__law_both := ok__law_both (P := P) (base := base) F__law_both G 
  have o__law_left_none := ok__law_left_none (P := P) (base := base) F__law_left_none G 
  have o__law_lesser := ok__law_lesser (P := P) (base := base) F__law_lesser G 
  have o_later := ok_later (P := P) (base := base) F_later G 
  have o_lesser := ok_lesser (P := P) (base := base) F_lesser G 
  have o__law_cell_at := ok__law_cell_at (P := P) (base := base) F__law_cell_at G 
  have c__law_cell_at := F__law_cell_at.cal o__law_cell_at g__law_cell_at fun _ _ _ _ _ _ us hl => match us, hl with | [_, _], _ => rfl
  have o__law_bag := ok__law_bag (P := P) (base := base) F__law_bag G 
  have c__law_bag := F__law_bag.cal o__law_bag g__law_bag fun _ _ _ _ _ _ us hl => match us, hl with | [_, _], _ => rfl
  have o__law_draw := ok__law_draw (P := P) (base := base) F__law_draw G 
  have c__law_draw := F__law_draw.cal o__law_draw g__law_draw fun _ _ _ _ _ _ us hl => match us, hl with | [_, _], _ => rfl
  have o__law_row := ok__law_row (P := P) (base := base) F__law_row G c__law_draw
  have c__law_row := F__law_row.cal o__law_row g__law_row fun _ _ _ _ _ _ us hl => match us, hl with | [_, _], _ => rfl
  have o__law_many := ok__law_many (P := P) (base := base) F__law_many G c__law_draw
  have c__law_many := F__law_many.cal o__law_many g__law_many fun _ _ _ _ _ _ us hl => match us, hl with | [_], _ => rfl
  have o_Kind___init__ := ok_Kind___init__ (P := P) (base := base) F_Kind___init__ G CK 
  have ik_Kind2_word : MkIK P w K mg base 1 "Kind" (He.ga K "Kind") (sp_Kind___init__ K) 2 ["word"] (fun vs zs => [vs.getD 0 .non, vs.getD 1 .non, vs.getD 2 .non, .non, zs.getD 0 .non]) := mkik2_of 2 ["word"] (fun us ws its => [us.getD 0 .none, us.getD 1 .none, us.getD 2 .none, its.getD 0 .none, ws.getD 0 .none]) (fun vs zs => [vs.getD 0 .non, vs.getD 1 .non, vs.getD 2 .non, .non, zs.getD 0 .non]) F_Kind___init__ (He.mkr_ok (c.fact 39 (f := .mkr "Kind") rfl)) o_Kind___init__ G.Kind (by simp) (fun _ _ _ _ _ _ _ us ws its h1 h2 h3 => match us, ws, its, h1, h2, h3 with | [_, _, _], [_], [_, _], _, _, _ => ⟨_, rfl, rfl⟩) (fun r rz ri => match ri with | .cons d0 (.cons d1 (.nil)) => .cons (vals_getDB r 0) (.cons (vals_getDB r 1) (.cons (vals_getDB r 2) (.cons (d0) (.cons (vals_getDB rz 0) (.nil))))))
  have i_Kind := mkid_of (C := "Kind") 5 2 F_Kind___init__ (He.mkr_ok (c.fact 39 (f := .mkr "Kind") rfl)) o_Kind___init__ G.Kind (by simp) rfl fun _ _ _ _ _ _ _ us its h1 h2 => match us, its, h1, h2 with | [_, _, _, _, _], [_, _], _, _ => ⟨_, rfl, rfl⟩
  have ik_Kind0_word_make_none_join : MkIK P w K mg base 1 "Kind" (He.ga K "Kind") (sp_Kind___init__ K) 0 ["word", "make", "none", "join"] (fun vs zs => [vs.getD 0 .non, zs.getD 3 .non, zs.getD 2 .non, zs.getD 1 .non, zs.getD 0 .non]) := mkik2_of 0 ["word", "make", "none", "join"] (fun us ws its => [us.getD 0 .none, ws.getD 3 .none, ws.getD 2 .none, ws.getD 1 .none, ws.getD 0 .none]) (fun vs zs => [vs.getD 0 .non, zs.getD 3 .non, zs.getD 2 .non, zs.getD 1 .non, zs.getD 0 .non]) F_Kind___init__ (He.mkr_ok (c.fact 39 (f := .mkr "Kind") rfl)) o_Kind___init__ G.Kind (by simp) (fun _ _ _ _ _ _ _ us ws its h1 h2 h3 => match us, ws, its, h1, h2, h3 with | [_], [_, _, _, _], [_, _], _, _, _ => ⟨_, rfl, rfl⟩) (fun r rz ri => match ri with | .cons d0 (.cons d1 (.nil)) => .cons (vals_getDB r 0) (.cons (vals_getDB rz 3) (.cons (vals_getDB rz 2) (.cons (vals_getDB rz 1) (.cons (vals_getDB rz 0) (.nil))))))
  have i_Kind_d := mkid_of (C := "Kind") 3 0 F_Kind___init__ (He.mkr_ok (c.fact 39 (f := .mkr "Kind") rfl)) o_Kind___init__ G.Kind (by simp) rfl fun _ _ _ _ _ _ _ us its h1 h2 => match us, its, h1, h2 with | [_, _, _], [_, _], _, _ => ⟨_, rfl, rfl⟩
  have o_summed := ok_summed (P := P) (base := base) F_summed G CK LQQ TB_summed ik_Kind2_word
  have c_summed := F_summed.cal o_summed g_summed fun _ _ _ _ _ _ us hl => match us, hl with | [], _ => rfl
  have o_least := ok_least (P := P) (base := base) F_least G CK LQQ ik_Kind2_word
  have c_least := F_least.cal o_least g_least fun _ _ _ _ _ _ us hl => match us, hl with | [], _ => rfl
  have o_latest := ok_latest (P := P) (base := base) F_latest G CK LQQ ik_Kind2_word
  have c_latest := F_latest.cal o_latest g_latest fun _ _ _ _ _ _ us hl => match us, hl with | [], _ => rfl
  have o_strung := ok_strung (P := P) (base := base) F_strung G CK LQQ TB_strung i_Kind
  have c_strung := F_strung.cal o_strung g_strung fun _ _ _ _ _ _ us hl => match us, hl with | [], _ => rfl
  have o_Kind___repr__ := ok_Kind___repr__ (P := P) (base := base) F_Kind___repr__ G CK 
  have rp_Kind := MtP.rpi (C := "Kind") F_Kind___repr__ (He.meth_ok (c.fact 40 (f := .meth "Kind" "__repr__") rfl)) o_Kind___repr__ fun _ _ _ _ _ _ us hl => match us, hl with | [_], _ => rfl
  have bn__law_apart := FunD.bindsN (ps := ["one", "other"]) F__law_apart fun _ _ _ _ _ _ us hl => match us, hl with | [_, _], _ => rfl
  have bn__law_both := FunD.bindsN (ps := ["one", "other"]) F__law_both fun _ _ _ _ _ _ us hl => match us, hl with | [_, _], _ => rfl
  have bn__law_left_none := FunD.bindsN (ps := ["one", "other"]) F__law_left_none fun _ _ _ _ _ _ us hl => match us, hl with | [_, _], _ => rfl
  have bn__law_lesser := FunD.bindsN (ps := ["one", "other"]) F__law_lesser fun _ _ _ _ _ _ us hl => match us, hl with | [_, _], _ => rfl
  have bn_later := FunD.bindsN (ps := ["one", "other"]) F_later fun _ _ _ _ _ _ us hl => match us, hl with | [_, _], _ => rfl
  have bn_lesser := FunD.bindsN (ps := ["one", "other"]) F_lesser fun _ _ _ _ _ _ us hl => match us, hl with | [_, _], _ => rfl
  have CV : LmX.CvOk P w K mg base 2 (CVw K LL) := by
    refine LmX.cvok_of (fun j hj => (ok_lams (P := P) (base := base) G j hj).mono (by decide)) fun p hp => ?_
    simp only [SFk, List.mem_cons, List.not_mem_nil, or_false] at hp
    rcases hp with rfl | rfl | rfl | rfl | rfl | rfl
    · obtain ⟨oc, od, dV, kV, doc, pm, an, cdv, ct, osl, rfl, lk, _⟩ := F_lesser.ex
      exact ⟨_, _, o_lesser.mono (by decide), bn_lesser, oc, od, osl, lk⟩
    · obtain ⟨oc, od, dV, kV, doc, pm, an, cdv, ct, osl, rfl, lk, _⟩ := F_later.ex
      exact ⟨_, _, o_later.mono (by decide), bn_later, oc, od, osl, lk⟩
    · obtain ⟨oc, od, dV, kV, doc, pm, an, cdv, ct, osl, rfl, lk, _⟩ := F__law_lesser.ex
      exact ⟨_, _, o__law_lesser.mono (by decide), bn__law_lesser, oc, od, osl, lk⟩
    · obtain ⟨oc, od, dV, kV, doc, pm, an, cdv, ct, osl, rfl, lk, _⟩ := F__law_apart.ex
      exact ⟨_, _, o__law_apart.mono (by decide), bn__law_apart, oc, od, osl, lk⟩
    · obtain ⟨oc, od, dV, kV, doc, pm, an, cdv, ct, osl, rfl, lk, _⟩ := F__law_both.ex
      exact ⟨_, _, o__law_both.mono (by decide), bn__law_both, oc, od, osl, lk⟩
    · obtain ⟨oc, od, dV, kV, doc, pm, an, cdv, ct, osl, rfl, lk, _⟩ := F__law_left_none.ex
      exact ⟨_, _, o__law_left_none.mono (by decide), bn__law_left_none, oc, od, osl, lk⟩
  have o_Kind_worth_of := ok_Kind_worth_of (P := P) (base := base) F_Kind_worth_of G CK CV 
  have m_Kind_worth_of := MtP.mti (C := "Kind") F_Kind_worth_of CK.cl (He.meth_ok (c.fact 42 (f := .meth "Kind" "worth_of") rfl)) o_Kind_worth_of fun _ _ _ _ _ _ us hl => match us, hl with | [_, _], _ => rfl
  have o_Kind_joined := ok_Kind_joined (P := P) (base := base) F_Kind_joined G CK CV 
  have m_Kind_joined := MtP.mti (C := "Kind") F_Kind_joined CK.cl (He.meth_ok (c.fact 41 (f := .meth "Kind" "joined") rfl)) o_Kind_joined fun _ _ _ _ _ _ us hl => match us, hl with | [_, _, _], _ => rfl
  have o_Kind_fold := ok_Kind_fold (P := P) (base := base) F_Kind_fold G CK m_Kind_worth_of m_Kind_joined
  have m_Kind_fold := MtP.mti (C := "Kind") F_Kind_fold CK.cl (He.meth_ok (c.fact 43 (f := .meth "Kind" "fold") rfl)) o_Kind_fold fun _ _ _ _ _ _ us hl => match us, hl with | [_, _], _ => rfl
  have km_Kind_fold0_numbers := mtkn_of (C := "Kind") 0 ["numbers"] (fun us ws => [us.getD 0 .none, ws.getD 0 .none]) (fun vs zs => [vs.getD 0 .non, zs.getD 0 .non]) F_Kind_fold CK.cl (He.meth_ok (c.fact 43 (f := .meth "Kind" "fold") rfl)) o_Kind_fold (fun _ _ _ _ _ _ us ws h1 h2 => match us, ws, h1, h2 with | [_], [_], _, _ => rfl) (fun r rz => .cons (vals_getDB r 0) (.cons (vals_getDB rz 0) (.nil)))
  have o__law_told_kinds := ok__law_told_kinds (P := P) (base := base) F__law_told_kinds G 
  have c__law_told_kinds := F__law_told_kinds.cal o__law_told_kinds g__law_told_kinds fun _ _ _ _ _ _ us hl => match us, hl with | [_], _ => rfl
  have o__law_same := ok__law_same (P := P) (base := base) F__law_same G 
  have c__law_same := F__law_same.cal o__law_same g__law_same fun _ _ _ _ _ _ us hl => match us, hl with | [_, _], _ => rfl
  have o__law_kind := ok__law_kind (P := P) (base := base) F__law_kind G LQQ TB__law_kind 
  have c__law_kind := F__law_kind.cal o__law_kind g__law_kind fun _ _ _ _ _ _ us hl => match us, hl with | [_], _ => rfl
  have o__law_name := ok__law_name (P := P) (base := base) F__law_name G c__law_draw
  have c__law_name := F__law_name.cal o__law_name g__law_name fun _ _ _ _ _ _ us hl => match us, hl with | [_, _], _ => rfl
  have o__law_made := ok__law_made (P := P) (base := base) F__law_made G CV 
  have c__law_made := F__law_made.cal o__law_made g__law_made fun _ _ _ _ _ _ us hl => match us, hl with | [_, _], _ => rfl
  have o__law_fold := ok__law_fold (P := P) (base := base) F__law_fold G CV c__law_made
  have c__law_fold := F__law_fold.cal o__law_fold g__law_fold fun _ _ _ _ _ _ us hl => match us, hl with | [_, _], _ => rfl
  exact ok_law (P := P) (base := base) F_law G CK LQQ DTT c__law_cell_at c__law_bag c__law_row c__law_draw c__law_many c_summed c_least c_latest c_strung rp_Kind m_Kind_fold c__law_told_kinds c__law_same c__law_kind c__law_name c__law_fold i_Kind ik_Kind0_word_make_none_join ik_Kind2_word km_Kind_fold0_numbers i_Kind_d
end Fg
open PySem PySem.W PySem.Calls PyProof.Rows
theorem PySem.Challenge.cw_forkgather_k42_folds_and_kinds_holds : PySem.Challenge.rw_forkgather_k42_folds_and_kinds.Holds :=
  Fg.close (fun K => Fg.sp_law K) (fun K H a ns hl h0 h1 h2 hS => ⟨a, ns, rfl, hS, Nat.le_trans hl (by decide), h2, h0, h1, fun _ => rfl⟩) fun X G0 hfa c0 => Fg.facts X G0 hfa c0
