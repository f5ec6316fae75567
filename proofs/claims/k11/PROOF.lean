import PyProof.Rows.All
import Wide.All
import OpenK.AllK
import Wide.FinOn
import KE.KStateDown
import Lean
import HandS.ForMost
import HandS.Defaults
import HandS.IsInst
import HandS.More
import HandS.Codes
import HandS.TupLe
import HandS.TupAny
import HandS.Conv
import HandS.Wide
import HandS.Walk
import KE.DataEq
import HandS.Head0
import HandS.Head1
import HandS.Head2
import HandS.HeadEnd
import HandS.HeadHook1
import HandS.HeadHook2
import HandS.HeadHook3
import HandS.HeadHook4
import HandS.Exc
import HandS.ExcField
import HandS.ExcIs
import HandS.ExcInit
import HandS.ExcValue
import HandS.TryOnly
import KE.KExcIs
import HandS.CallSlots
import HandS.ExcOwn
import HandS.Lambda
import PyProof.FactsAll.dict_1
import PyProof.FactsAll.subtypes_3
import PyProof.FactsAll.subtypes_4
import HandS.SetKeys
import HandS.SetFor
import HandS.Strs
import HandS.SortInts
import HandS.Flow
import HandS.OwnEq
import PyProof.InstSpecial
import PyProof.InstNe
import KE.KExcStr
import PyProof.ExcBaseAll.ValueError
import KE.IntBitsLaws
import HandS.Style
import HandS.SortRule
import KE.KeyNested
import HandS.TupLen
import KE.KDictDisplayH
import PyProof.DictTable
import HandS.NoneIn
import HandS.RevRange
import KE.KSortTupAny
import HandS.DictTup
import HandS.DictEq
import HandS.ListItems
import HandS.Nested
import HandS.FStr
import HandS.MakeKw
import HandS.MakeKwOnly
import PyProof.StrLawsRepr
import PyProof.ReprLen
import KE.DataCmp
import PySem.Challenge.RW_forkgather_k11_outcomes_compared
set_option Elab.async false
set_option linter.all false
set_option maxRecDepth 100000
set_option maxHeartbeats 4000000
namespace Fg
open PySem PySem.Spec PyProof.Rows L2
section
structure Chg (M : List Addr) (H H' : Hp) : Prop where
  keep : ∀ a o, H a = some o → a ∉ M → H' a = some o
  dom : ∀ a, H' a = none → H a = none
  tup : ∀ a xs, H a = some (.tup xs) → H' a = some (.tup xs)
theorem Chg.refl {M : List Addr} {H : Hp} : Chg M H H := ⟨fun _ _ h _ => h, fun _ h => h, fun _ _ h => h⟩
theorem Chg.new {H : Hp} {p : Addr} {o : HO} (n : H p = none) : Chg [] H (upd H p o) where
  keep := fun a u h _ => by rw [upd_ne (ne_of_none h n)]; exact h
  dom := fun a h => by
    by_cases e : a = p
    · subst e; exact n
    · rw [upd_ne e] at h; exact h
  tup := fun a xs h => by rw [upd_ne (ne_of_none h n)]; exact h
theorem Chg.mut {H : Hp} {p : Addr} {o u : HO} (h : H p = some u) (hm : ∀ xs, u ≠ .tup xs) : Chg [p] H (upd H p o) where
  keep := fun a v e hn => by rw [upd_ne (fun z => hn (by rw [z]; exact List.mem_singleton.mpr rfl))]; exact e
  dom := fun a e => by
    by_cases z : a = p
    · subst z; rw [upd_same] at e; cases e
    · rw [upd_ne z] at e; exact e
  tup := fun a xs e => by
    rw [upd_ne (fun z => by subst z; rw [h] at e; exact hm xs (Option.some.inj e))]; exact e
/-- then c', whose changed ones are changed ones of c or new ones -/
theorem Chg.go {M M' : List Addr} {H H1 H2 : Hp} (c : Chg M H H1) (c' : Chg M' H1 H2) (h : ∀ a ∈ M', a ∈ M ∨ H a = none) : Chg M H H2 where
  keep := fun a o e hn => c'.keep a o (c.keep a o e hn) (fun hm => (h a hm).elim hn fun z => by rw [z] at e; cases e)
  dom := fun a e => c.dom a (c'.dom a e)
  tup := fun a xs e => c'.tup a xs (c.tup a xs e)
theorem Chg.same {M : List Addr} {H H1 H2 : Hp} (c : Chg M H H1) (c' : Chg [] H1 H2) : Chg M H H2 := c.go c' fun a h => absurd h (by simp)
theorem Chg.pre {M : List Addr} {H H1 H2 : Hp} (c : Chg [] H H1) (c' : Chg M H1 H2) : Chg M H H2 :=
  ⟨fun a o e hn => c'.keep a o (c.keep a o e (by simp)) hn, fun a e => c.dom a (c'.dom a e), fun a xs e => c'.tup a xs (c.tup a xs e)⟩
theorem Chg.both {M : List Addr} {H H1 H2 : Hp} (c : Chg M H H1) (c' : Chg M H1 H2) : Chg M H H2 := c.go c' fun a h => .inl h
theorem Chg.wide {M M' : List Addr} {H H1 : Hp} (c : Chg M H H1) (h : ∀ a ∈ M, a ∈ M') : Chg M' H H1 := ⟨fun a o e hn => c.keep a o e fun z => hn (h a z), c.dom, c.tup⟩
theorem Chg.one {H H1 H2 : Hp} {p : Addr} (c : Chg [] H H1) (c' : Chg [p] H1 H2) (n : H p = none) : Chg [] H H2 :=
  c.go c' fun a h => .inr (by rw [List.mem_singleton.mp h]; exact n)
theorem Chg.at {H H' : Hp} {a : Addr} {o : HO} (c : Chg [] H H') (h : H a = some o) : H' a = some o := c.keep a o h (by simp)
theorem Chg.ne {M : List Addr} {H H' : Hp} {a b : Addr} {o : HO} (c : Chg M H H') (h : H a = some o) (n : H' b = none) : a ≠ b := fun e => by
  have z := c.dom b n
  rw [← e, h] at z; cases z
theorem Chg.at1 {H H' : Hp} {a b : Addr} {o : HO} (c : Chg [b] H H') (h : H a = some o) (n : a ≠ b) : H' a = some o := c.keep a o h (by simpa using n)
theorem Chg.seq {K : PySem.W.Frag} {H H' : Hp} {a : Addr} {xs : List V} (c : Chg [] H H') (h : SqL K H a xs) : SqL K H' a xs := by
  rcases h with (h | ⟨o, h⟩) | h
  · exact .inl (.inl (c.at h))
  · exact .inl (.inr ⟨o, c.at h⟩)
  · exact .inr h
theorem sqL {K : PySem.W.Frag} {H : Hp} {a : Addr} {xs : List V} (h : H a = some (.lst xs)) : SqL K H a xs := .inl (.inl h)
theorem sqT {K : PySem.W.Frag} {H : Hp} {a : Addr} {xs : List V} (h : H a = some (.tup xs)) : SqT K H a xs := .inl (.inl h)
mutual
inductive R (S : Addr → Prop) (H : Hp) : V → PyData → Prop
  | non : R S H .non .none
  | bl (b : Bool) : R S H (.bl b) (.bool b)
  | int (i : Int) : R S H (.int i) (.int i)
  | str (x : Str) : R S H (.str x) (.str x)
  | lst {a : Addr} {xs : List V} {ds : List PyData} : S a → H a = some (.lst xs) → RA S H xs ds → R S H (.ref a) (.list ds)
  | tup {a : Addr} {xs : List V} {ds : List PyData} : H a = some (.tup xs) → RA S H xs ds → R S H (.ref a) (.tuple ds)
  | dic {a : Addr} {kvs : List (Key × V)} : S a → H a = some (.dK kvs) → R S H (.ref a) (.dict [])
inductive RA (S : Addr → Prop) (H : Hp) : List V → List PyData → Prop
  | nil : RA S H [] []
  | cons {v : V} {vs : List V} {d : PyData} {ds : List PyData} : R S H v d → RA S H vs ds → RA S H (v :: vs) (d :: ds)
end
mutual
theorem R.imp {S S' : Addr → Prop} {H H' : Hp} (hl : ∀ a xs, S a → H a = some (.lst xs) → S' a ∧ H' a = some (.lst xs)) (hd : ∀ a xs, S a → H a = some (.dK xs) → S' a ∧ H' a = some (.dK xs))
    (ht : ∀ a xs, H a = some (.tup xs) → H' a = some (.tup xs)) : ∀ {d : PyData} {v : V}, R S H v d → R S' H' v d
  | .none, _, h => by cases h; exact .non
  | .bool _, _, h => by cases h; exact .bl _
  | .int _, _, h => by cases h; exact .int _
  | .str _, _, h => by cases h; exact .str _
  | .list ds, _, h => by
    cases h with
    | lst s e r => exact .lst (hl _ _ s e).1 (hl _ _ s e).2 (RA.imp hl hd ht r)
  | .tuple ds, _, h => by
    cases h with
    | tup e r => exact .tup (ht _ _ e) (RA.imp hl hd ht r)
  | .dict _, _, h => by
    cases h with
    | dic s e => exact .dic (hd _ _ s e).1 (hd _ _ s e).2
theorem RA.imp {S S' : Addr → Prop} {H H' : Hp} (hl : ∀ a xs, S a → H a = some (.lst xs) → S' a ∧ H' a = some (.lst xs)) (hd : ∀ a xs, S a → H a = some (.dK xs) → S' a ∧ H' a = some (.dK xs))
    (ht : ∀ a xs, H a = some (.tup xs) → H' a = some (.tup xs)) : ∀ {ds : List PyData} {vs : List V}, RA S H vs ds → RA S' H' vs ds
  | [], _, h => by cases h; exact .nil
  | d :: ds, _, h => by
    cases h with
    | cons a b => exact .cons (R.imp hl hd ht a) (RA.imp hl hd ht b)
end
theorem R.keep {S : Addr → Prop} {M : List Addr} {H H' : Hp} {v : V} {d : PyData} (c : Chg M H H') (h : ∀ a, S a → a ∉ M) (r : R S H v d) : R S H' v d :=
  R.imp (fun a xs s e => ⟨s, c.keep a _ e (h a s)⟩) (fun a xs s e => ⟨s, c.keep a _ e (h a s)⟩) c.tup r
theorem RA.keep {S : Addr → Prop} {M : List Addr} {H H' : Hp} {v : List V} {d : List PyData} (c : Chg M H H') (h : ∀ a, S a → a ∉ M) (r : RA S H v d) : RA S H' v d :=
  RA.imp (fun a xs s e => ⟨s, c.keep a _ e (h a s)⟩) (fun a xs s e => ⟨s, c.keep a _ e (h a s)⟩) c.tup r
theorem R.mono {S S' : Addr → Prop} {H : Hp} {v : V} {d : PyData} (h : ∀ a, S a → S' a) (r : R S H v d) : R S' H v d :=
  R.imp (fun a xs s e => ⟨h a s, e⟩) (fun a xs s e => ⟨h a s, e⟩) (fun _ _ e => e) r
theorem RA.mono {S S' : Addr → Prop} {H : Hp} {v : List V} {d : List PyData} (h : ∀ a, S a → S' a) (r : RA S H v d) : RA S' H v d :=
  RA.imp (fun a xs s e => ⟨h a s, e⟩) (fun a xs s e => ⟨h a s, e⟩) (fun _ _ e => e) r
/-- all that stands in H stands in H' -/
theorem R.same {S : Addr → Prop} {H H' : Hp} {v : V} {d : PyData} (c : Chg [] H H') (r : R S H v d) : R S H' v d := r.keep c fun _ _ => by simp
theorem RA.same {S : Addr → Prop} {H H' : Hp} {v : List V} {d : List PyData} (c : Chg [] H H') (r : RA S H v d) : RA S H' v d := r.keep c fun _ _ => by simp
/-- data without lists -/
abbrev Im : Hp → V → PyData → Prop := R (fun _ => False)
abbrev ImA : Hp → List V → List PyData → Prop := RA (fun _ => False)
theorem R.im {M : List Addr} {H H' : Hp} {v : V} {d : PyData} (c : Chg M H H') (r : Im H v d) : Im H' v d := R.keep c (fun _ z => z.elim) r
theorem RA.im {M : List Addr} {H H' : Hp} {v : List V} {d : List PyData} (c : Chg M H H') (r : ImA H v d) : ImA H' v d := RA.keep c (fun _ z => z.elim) r
theorem R.any {S : Addr → Prop} {H : Hp} {v : V} {d : PyData} (r : Im H v d) : R S H v d := r.mono fun _ z => z.elim
theorem RA.any {S : Addr → Prop} {H : Hp} {v : List V} {d : List PyData} (r : ImA H v d) : RA S H v d := r.mono fun _ z => z.elim
theorem RA.length {S : Addr → Prop} {H : Hp} : ∀ {vs : List V} {ds : List PyData}, RA S H vs ds → vs.length = ds.length
  | _, _, .nil => rfl
  | _, _, .cons _ r => by rw [List.length_cons, List.length_cons, r.length]
theorem RA.get {S : Addr → Prop} {H : Hp} : ∀ {vs : List V} {ds : List PyData} {i : Nat} {v : V}, RA S H vs ds → vs[i]? = some v → ∃ d, ds[i]? = some d ∧ R S H v d
  | _, _, _, _, .nil, h => by simp at h
  | _, _, 0, _, .cons a r, h => ⟨_, rfl, by cases (Option.some.inj (show some _ = some _ from h)); exact a⟩
  | _, _, i + 1, _, .cons a r, h => RA.get (i := i) r h
theorem RA.snoc {S : Addr → Prop} {H : Hp} : ∀ {vs : List V} {ds : List PyData} {v : V} {d : PyData}, RA S H vs ds → R S H v d → RA S H (vs ++ [v]) (ds ++ [d])
  | _, _, _, _, .nil, h => .cons h .nil
  | _, _, _, _, .cons a r, h => .cons a (r.snoc h)
theorem RA.append {S : Addr → Prop} {H : Hp} : ∀ {vs ws : List V} {ds es : List PyData}, RA S H vs ds → RA S H ws es → RA S H (vs ++ ws) (ds ++ es)
  | _, _, _, _, .nil, h => h
  | _, _, _, _, .cons a r, h => .cons a (r.append h)
theorem RA.drop {S : Addr → Prop} {H : Hp} : ∀ {vs : List V} {ds : List PyData} (n : Nat), RA S H vs ds → RA S H (vs.drop n) (ds.drop n)
  | _, _, 0, h => h
  | _, _, _ + 1, .nil => .nil
  | _, _, n + 1, .cons _ r => r.drop n
theorem RA.take {S : Addr → Prop} {H : Hp} : ∀ {vs : List V} {ds : List PyData} (n : Nat), RA S H vs ds → RA S H (vs.take n) (ds.take n)
  | _, _, 0, _ => .nil
  | _, _, _ + 1, .nil => .nil
  | _, _, n + 1, .cons a r => .cons a (r.take n)
/-- no dict in it -/
abbrev noDic : PyData → Bool := PyData.plain
abbrev noDics : List PyData → Bool := PyData.plainAll
mutual
theorem eqv_self : ∀ d : PyData, noDic d = true → PyData.eqv d d = true
  | .none, _ => rfl
  | .bool b, _ => by simp [PyData.eqv]
  | .int i, _ => by simp [PyData.eqv]
  | .str x, _ => by simp [PyData.eqv]
  | .list xs, h => by
    show PyData.eqvAll xs xs = true
    exact eqvAll_self xs h
  | .tuple xs, h => by
    show PyData.eqvAll xs xs = true
    exact eqvAll_self xs h
  | .dict _, h => by cases h
theorem eqvAll_self : ∀ ds : List PyData, noDics ds = true → PyData.eqvAll ds ds = true
  | [], _ => rfl
  | d :: ds, h => by
    obtain ⟨h1, h2⟩ := Bool.and_eq_true_iff.mp (show (noDic d && noDics ds) = true from h)
    show (PyData.eqv d d && PyData.eqvAll ds ds) = true
    rw [eqv_self d h1, eqvAll_self ds h2]
    rfl
end
mutual
theorem R.dp {K : PySem.W.Frag} {S : Addr → Prop} {H : Hp} : ∀ {d : PyData} {v : V}, R S H v d → noDic d = true → Dp K H v d
  | .none, _, h, _ => by cases h; exact .non
  | .bool _, _, h, _ => by cases h; exact .bl _
  | .int _, _, h, _ => by cases h; exact .int _
  | .str _, _, h, _ => by cases h; exact .str _
  | .list ds, _, h, z => by
    cases h with
    | lst s e r => exact .lst (sqL e) (RA.dp r z)
  | .tuple ds, _, h, z => by
    cases h with
    | tup e r => exact .tup (sqT e) (RA.dp r z)
  | .dict _, _, h, z => by cases z
theorem RA.dp {K : PySem.W.Frag} {S : Addr → Prop} {H : Hp} : ∀ {ds : List PyData} {vs : List V}, RA S H vs ds → noDics ds = true → DpAll K H vs ds
  | [], _, h, _ => by cases h; exact .nil
  | d :: ds, _, h, z => by
    obtain ⟨z1, z2⟩ := Bool.and_eq_true_iff.mp (show (noDic d && noDics ds) = true from z)
    cases h with
    | cons a b => exact .cons (R.dp a z1) (RA.dp b z2)
end
end
section
section
variable {X : Cx}
def oAdd : R2 := rI0 fun i j => .int (i + j)
def oSub : R2 := rI0 fun i j => .int (i - j)
def oMul : R2 := rI CMul fun i j => .int (i * j)
def oFdiv : R2 := rI CDivW fun i j => .int (i / j)
def oMod : R2 := rI (fun _ j => 0 < j) fun i j => .int (i % j)
def CPowW (i j : Int) : Prop := 0 ≤ j ∧ (Builtin.Int.intBits i : Int) * j ≤ 2 ^ 27
def oPow : R2 := rI CPowW fun i j => .int (i ^ j.toNat)
def oLt : R2 := rI0 fun i j => .bl (decide (i < j))
def oLe : R2 := rI0 fun i j => .bl (decide (i ≤ j))
def oGt : R2 := rI0 fun i j => .bl (decide (j < i))
def oGe : R2 := rI0 fun i j => .bl (decide (j ≤ i))
def oAddS : R2 := fun x y H Q => ∃ i j, x = .str i ∧ y = .str j ∧ i.length + j.length ≤ sizeLine ∧ Q (.str (i ++ j)) H
def oLtS : R2 := fun x y H Q => ∃ i j, x = .str i ∧ y = .str j ∧ Q (.bl (decide (i.cps.toList < j.cps.toList))) H
def oGeS : R2 := fun x y H Q => ∃ i j, x = .str i ∧ y = .str j ∧ Q (.bl (!decide (i.cps.toList < j.cps.toList))) H
def oInC : R2 := fun x y H Q => ∃ (c : Nat) (z : Str), x = .str ⟨#[c]⟩ ∧ y = .str z ∧ Q (.bl (decide (c ∈ z.cps.toList))) H
def oNotInC : R2 := fun x y H Q => ∃ (c : Nat) (z : Str), x = .str ⟨#[c]⟩ ∧ y = .str z ∧ Q (.bl (!decide (c ∈ z.cps.toList))) H
def oIsN : R2 := fun x y H Q => y = .non ∧ Q (.bl (decide (x = .non))) H
def oNotN : R2 := fun x y H Q => y = .non ∧ Q (.bl (!decide (x = .non))) H
def oIsB : R2 := fun x y H Q => ∃ a b, x = .bl a ∧ y = .bl b ∧ Q (.bl (decide (a = b))) H
def oNotB : R2 := fun x y H Q => ∃ a b, x = .bl a ∧ y = .bl b ∧ Q (.bl (!decide (a = b))) H
def oNotInKd (K : PySem.W.Frag) (d : Addr) : R2 := fun x y H Q => ∃ (z : Str) (r : Option Value), x = .str z ∧ y = .ref d ∧ PySem.W.nsIn K d z = some r ∧ Q (.bl (!r.isSome)) H
def oEqD : R2 := fun x y H Q => ∃ (d e : PyData) (S S' : Addr → Prop), R S H x d ∧ R S' H y e ∧ noDic d = true ∧ noDic e = true ∧ min d.depth e.depth ≤ 60 ∧ Q (.bl (PyData.eqv d e)) H
def oNeD : R2 := fun x y H Q => ∃ (d e : PyData) (S S' : Addr → Prop), R S H x d ∧ R S' H y e ∧ noDic d = true ∧ noDic e = true ∧ min d.depth e.depth ≤ 60 ∧ Q (.bl (!PyData.eqv d e)) H
theorem p_eqD (hu : X.A.units + 64 < cLine) : OpR X (compareOp .Eq) oEqD := by
  intro pins s σ H x y v u Q I rx ry h
  obtain ⟨d, e, S, S', hd, he, sd, se, hm, q⟩ := h
  obtain ⟨as, r1⟩ := Dp.reads I d x v (hd.dp sd) rx
  obtain ⟨bs, r2⟩ := Dp.reads I e y u (he.dp se) ry
  exact SeqAt.eq_plain r1 r2 sd se (by omega) ⟨.bl _, H, I, rfl, q⟩
theorem p_neD (hu : X.A.units + 64 < cLine) : OpR X (compareOp .NotEq) oNeD := by
  intro pins s σ H x y v u Q I rx ry h
  obtain ⟨d, e, S, S', hd, he, sd, se, hm, q⟩ := h
  obtain ⟨as, r1⟩ := Dp.reads I d x v (hd.dp sd) rx
  obtain ⟨bs, r2⟩ := Dp.reads I e y u (he.dp se) ry
  exact SeqAt.ne_plain r1 r2 sd se (by omega) ⟨.bl _, H, I, rfl, q⟩
def mJoin (K : PySem.W.Frag) : V → List V → Hp → VK → Prop := fun x xs H Q => ∃ a p, ∃ ys : List Str, x = .str a ∧ xs = [.ref p] ∧ (SqL K H p (ys.map V.str) ∨ SqT K H p (ys.map V.str)) ∧ (ys.map (·.length)).sum + ys.length * a.length ≤ 16777216 ∧ Q (.str (Txt.join a ys)) H
theorem p_add : OpR X (binaryOp .Add) oAdd := op_add
theorem p_sub : OpR X (binaryOp .Sub) oSub := op_sub
theorem p_mul : OpR X (binaryOp .Mult) oMul := op_mul
theorem p_fdiv : OpR X (binaryOp .FloorDiv) oFdiv := op_fdivW
theorem p_mod : OpR X (binaryOp .Mod) oMod := op_mod
theorem p_pow : OpR X (binaryOp .Pow) oPow := opI fun _ _ _ _ _ _ _ hc q => pow_int hc.1 hc.2 q
theorem p_lt : OpR X (compareOp .Lt) oLt := op_lt
theorem p_gt : OpR X (compareOp .Gt) oGt := op_gt
theorem p_ge : OpR X (compareOp .GtE) oGe := op_ge
theorem p_addS : OpR X (binaryOp .Add) oAddS := op_add_str
def cMax : List V → Hp → VK → Prop := fun xs H Q => ∃ i j, xs = [.int i, .int j] ∧ Q (.int (if j > i then j else i)) H
def cMin : List V → Hp → VK → Prop := fun xs H Q => ∃ i j, xs = [.int i, .int j] ∧ Q (.int (if j < i then j else i)) H
def cAbs : List V → Hp → VK → Prop := fun xs H Q => ∃ i, xs = [.int i] ∧ Q (.int (if i < 0 then -i else i)) H
def cInt : List V → Hp → VK → Prop := fun xs H Q => (∃ i, xs = [.int i] ∧ Q (.int i) H) ∨ ∃ k, xs = [.bl k] ∧ Q (.int (if k then 1 else 0)) H
def cLenQ (K : PySem.W.Frag) : List V → Hp → VK → Prop := fun xs H Q => ∃ p ys, xs = [.ref p] ∧ (SqL K H p ys ∨ SqT K H p ys) ∧ Q (.int ys.length) H
def cLenS : List V → Hp → VK → Prop := fun xs H Q => ∃ z, xs = [.str z] ∧ z.length ≤ sizeLine ∧ Q (.int z.length) H
def cListQ (K : PySem.W.Frag) : List V → Hp → VK → Prop := fun xs H Q => ∃ p ys, xs = [.ref p] ∧ (SqL K H p ys ∨ SqT K H p ys) ∧ ∀ l, H l = none → Q (.ref l) (upd H l (.lst ys))
theorem p_max (hc : X.calm = true) : CallR X (.builtin "max") cMax := call_max2 hc
theorem p_min (hc : X.calm = true) : CallR X (.builtin "min") cMin := call_min2 hc
theorem p_lenQ : CallR X (.builtin "len") (cLenQ X.K) := call_len_seq
theorem p_lenS : CallR X (.builtin "len") cLenS := call_len_str
theorem p_listQ : CallR X (.type "list") (cListQ X.K) := call_list_of
end
section
variable {K : PySem.W.Frag} {σ : L2.St} {H : Hp} {D : Ends} {te ta tb tc : TE} {tr : TA} {g : TG} {gs : TGs} {t u : TS} {c c' : TT} {r r' : R2} {Q : VK} {QB : Bool → Hp → Prop} {QA : List V → Hp → Prop} {QS : L2.St → Hp → Prop} {QO : Option Int → Hp → Prop} {i j : Int} {n : Nat} {v x y : V} {vs xs : List V} {p a : Addr} {z z' : Str} {b : Bool}
theorem w_seq (h : t { D with nx := u D } σ H) : tSeq t u D σ H := h
theorem w_next (h : D.nx σ H) : tNext D σ H := h
theorem w_drop (h : te σ H fun _ H1 => D.nx σ H1) : tDrop te D σ H := h
theorem w_ret (h : te σ H D.rt) : tRet te D σ H := h
theorem w_retN (h : D.rt .non H) : tRetN D σ H := h
theorem w_if (h : c σ H fun b H1 => if b = true then t D σ H1 else u D σ H1) : tIfS c t u D σ H := h
theorem w_asg (h : te σ H fun x H1 => g x σ H1 D.nx) : tAsg te g D σ H := h
theorem w_gName (h : QS (σ.set n (some v)) H) : gName n v σ H QS := h
theorem w_gTup (h : H a = some (.tup xs)) (hl : xs.length = n) (q : gs xs σ H QS) : gTup K n gs (.ref a) σ H QS := ⟨a, xs, rfl, sqT h, hl, q⟩
theorem w_gCons (h : g v σ H fun σ' H' => gs vs σ' H' QS) : gCons g gs (v :: vs) σ H QS := ⟨v, vs, rfl, h⟩
theorem w_gNil (h : QS σ H) : gNil [] σ H QS := ⟨rfl, h⟩
theorem w_gSub {to ti : TE} {ts : TSet} (h : to σ H fun o H1 => ti σ H1 fun i H2 => ts o i v H2 fun H3 => QS σ H3) : gSub to ti ts v σ H QS := h
theorem w_aug {ti : TIp} (h : σ[n]? = some (some x)) (q : te σ H fun y H1 => ti x y H1 fun z H2 => D.nx (σ.set n (some z)) H2) : tAug n te ti D σ H := ⟨x, h, q⟩
theorem w_ipI {f : Int → Int → Int} (q : Q (.int (f i j)) H) : ipI f (.int i) (.int j) H Q := ⟨i, j, rfl, rfl, q⟩
theorem w_var (h : σ[n]? = some (some v)) (q : Q v H) : tVar n σ H Q := ⟨v, h, q⟩
theorem w_c (q : Q v H) : tC v σ H Q := q
theorem w_op (h : ta σ H fun x H1 => tb σ H1 fun y H2 => r x y H2 Q) : tOp r ta tb σ H Q := h
theorem w_un {ru : V → Hp → VK → Prop} (h : ta σ H fun x H1 => ru x H1 Q) : tUn ru ta σ H Q := h
theorem w_neg (q : Q (.int (-i)) H) : rU (fun i => .int (-i)) (.int i) H Q := ⟨i, rfl, q⟩
theorem w_nil (q : QA [] H) : tNil σ H QA := q
theorem w_cons (h : ta σ H fun x H1 => tr σ H1 fun xs H2 => QA (x :: xs) H2) : tCons ta tr σ H QA := h
theorem w_cb {rc : List V → Hp → VK → Prop} (h : tr σ H fun vs H1 => rc vs H1 Q) : tCB rc tr σ H Q := h
theorem w_call {sp : Sp} {dvs : List V} {E : XK} (h : tr σ H fun vs H1 => sp (vs ++ dvs) H1 Q E) : tCall sp dvs E tr σ H Q := h
theorem w_test (h : te σ H fun x H' => ∃ k, x = .bl k ∧ QB k H') : tTest te σ H QB := h
theorem w_B (h : te σ H fun x H' => ∃ k, x = .bl k ∧ QB k H') : tB te σ H QB := h
theorem w_isbl {P : Bool → Prop} (q : P b) : ∃ k, V.bl b = .bl k ∧ P k := ⟨b, rfl, q⟩
theorem w_and (h : c σ H fun b H1 => if b = true then c' σ H1 QB else QB false H1) : tAnd c c' σ H QB := h
theorem w_or (h : c σ H fun b H1 => if b = true then QB true H1 else c' σ H1 QB) : tOr c c' σ H QB := h
theorem w_not (h : c σ H fun b H1 => QB (!b) H1) : tNot c σ H QB := h
theorem w_andV (h : ta σ H fun x H1 => ∃ c, x = .bl c ∧ if c = true then tb σ H1 Q else Q (.bl false) H1) : tAndV ta tb σ H Q := h
theorem w_orV (h : ta σ H fun x H1 => ∃ c, x = .bl c ∧ if c = true then Q (.bl true) H1 else tb σ H1 Q) : tOrV ta tb σ H Q := h
theorem w_notV (h : ta σ H fun x H1 => ∃ c, x = .bl c ∧ Q (.bl (!c)) H1) : tNotV ta σ H Q := h
theorem w_ifE (h : c σ H fun b H1 => if b = true then ta σ H1 Q else tb σ H1 Q) : tIf c ta tb σ H Q := h
theorem w_chain (h : ta σ H fun x H1 => tb σ H1 fun y H2 => r x y H2 fun z H3 => ∃ k, z = .bl k ∧ (if k = true then tc σ H3 fun w' H4 => r' y w' H4 Q else Q (.bl false) H3)) : tChain r r' ta tb tc σ H Q := h
/-- the last part of a display -/
def KTup (Q : VK) : List V → Hp → Prop := fun xs H1 => xs.length ≤ sizeLine ∧ ∀ p, H1 p = none → Q (.ref p) (upd H1 p (.tup xs))
def KLst (Q : VK) : List V → Hp → Prop := fun xs H1 => xs.length ≤ sizeLine ∧ ∀ p, H1 p = none → Q (.ref p) (upd H1 p (.lst xs))
theorem w_tup1 (h : tr σ H (KTup Q)) : tTup tr σ H Q := h
theorem w_lst1 (h : tr σ H (KLst Q)) : tLst tr σ H Q := h
theorem k_tup {H1 : Hp} (hl : xs.length ≤ sizeLine) (h : ∀ p H2, H1 p = none → Chg [] H1 H2 → H2 p = some (.tup xs) → Q (.ref p) H2) : KTup Q xs H1 := ⟨hl, fun p np => h p _ np (.new np) upd_same⟩
theorem k_lst {H1 : Hp} (hl : xs.length ≤ sizeLine) (h : ∀ p H2, H1 p = none → Chg [] H1 H2 → H2 p = some (.lst xs) → Q (.ref p) H2) : KLst Q xs H1 := ⟨hl, fun p np => h p _ np (.new np) upd_same⟩
/-- a new object -/
theorem d_new {H1 : Hp} {o : HO} (h : ∀ p H2, H1 p = none → Chg [] H1 H2 → H2 p = some o → Q (.ref p) H2) : ∀ p, H1 p = none → Q (.ref p) (upd H1 p o) := fun p np => h p _ np (.new np) upd_same
theorem w_add (q : Q (.int (i + j)) H) : oAdd (.int i) (.int j) H Q := ⟨i, j, rfl, rfl, q⟩
theorem w_sub (q : Q (.int (i - j)) H) : oSub (.int i) (.int j) H Q := ⟨i, j, rfl, rfl, q⟩
theorem w_mul (h : CMul i j) (q : Q (.int (i * j)) H) : oMul (.int i) (.int j) H Q := ⟨i, j, rfl, rfl, h, q⟩
theorem w_fdiv (h : CDivW i j) (q : Q (.int (i / j)) H) : oFdiv (.int i) (.int j) H Q := ⟨i, j, rfl, rfl, h, q⟩
theorem w_mod (h : 0 < j) (q : Q (.int (i % j)) H) : oMod (.int i) (.int j) H Q := ⟨i, j, rfl, rfl, h, q⟩
theorem w_pow (h : CPowW i j) (q : Q (.int (i ^ j.toNat)) H) : oPow (.int i) (.int j) H Q := ⟨i, j, rfl, rfl, h, q⟩
theorem w_lt (q : Q (.bl (decide (i < j))) H) : oLt (.int i) (.int j) H Q := ⟨i, j, rfl, rfl, q⟩
theorem w_le (q : Q (.bl (decide (i ≤ j))) H) : oLe (.int i) (.int j) H Q := ⟨i, j, rfl, rfl, q⟩
theorem w_gt (q : Q (.bl (decide (j < i))) H) : oGt (.int i) (.int j) H Q := ⟨i, j, rfl, rfl, q⟩
theorem w_ge (q : Q (.bl (decide (j ≤ i))) H) : oGe (.int i) (.int j) H Q := ⟨i, j, rfl, rfl, q⟩
theorem w_addS (h : z.length + z'.length ≤ sizeLine) (q : Q (.str (z ++ z')) H) : oAddS (.str z) (.str z') H Q := ⟨z, z', rfl, rfl, h, q⟩
theorem w_ltS (q : Q (.bl (decide (z.cps.toList < z'.cps.toList))) H) : oLtS (.str z) (.str z') H Q := ⟨z, z', rfl, rfl, q⟩
theorem w_geS (q : Q (.bl (!decide (z.cps.toList < z'.cps.toList))) H) : oGeS (.str z) (.str z') H Q := ⟨z, z', rfl, rfl, q⟩
theorem w_inC {c : Nat} (q : Q (.bl (decide (c ∈ z.cps.toList))) H) : oInC (.str ⟨#[c]⟩) (.str z) H Q := ⟨c, z, rfl, rfl, q⟩
theorem w_notInC {c : Nat} (q : Q (.bl (!decide (c ∈ z.cps.toList))) H) : oNotInC (.str ⟨#[c]⟩) (.str z) H Q := ⟨c, z, rfl, rfl, q⟩
theorem w_isN (q : Q (.bl (decide (x = .non))) H) : oIsN x .non H Q := ⟨rfl, q⟩
theorem w_notN (q : Q (.bl (!decide (x = .non))) H) : oNotN x .non H Q := ⟨rfl, q⟩
theorem w_isB {b' : Bool} (q : Q (.bl (decide (b = b'))) H) : oIsB (.bl b) (.bl b') H Q := ⟨b, b', rfl, rfl, q⟩
theorem w_notB {b' : Bool} (q : Q (.bl (!decide (b = b'))) H) : oNotB (.bl b) (.bl b') H Q := ⟨b, b', rfl, rfl, q⟩
theorem w_eq (h : scal x y = true) (q : Q (.bl (decide (x = y))) H) : rEq x y H Q := ⟨h, q⟩
theorem w_ne (h : scal x y = true) (q : Q (.bl (!decide (x = y))) H) : rNe x y H Q := ⟨h, q⟩
theorem w_eqD {d e : PyData} {S S' : Addr → Prop} (hd : R S H x d) (he : R S' H y e) (sd : noDic d = true) (se : noDic e = true) (hm : min d.depth e.depth ≤ 60) (q : Q (.bl (PyData.eqv d e)) H) : oEqD x y H Q := ⟨d, e, S, S', hd, he, sd, se, hm, q⟩
theorem w_neD {d e : PyData} {S S' : Addr → Prop} (hd : R S H x d) (he : R S' H y e) (sd : noDic d = true) (se : noDic e = true) (hm : min d.depth e.depth ≤ 60) (q : Q (.bl (!PyData.eqv d e)) H) : oNeD x y H Q := ⟨d, e, S, S', hd, he, sd, se, hm, q⟩
theorem w_m1 {rm : V → List V → Hp → VK → Prop} (h : ta σ H fun x H1 => (∃ a, x = .str a) ∧ tb σ H1 fun y H2 => rm x [y] H2 Q) : tM1 rm ta tb σ H Q := h
theorem w_isstr {P : Prop} (q : P) : (∃ a, V.str z = .str a) ∧ P := ⟨⟨z, rfl⟩, q⟩
theorem w_join {ys : List Str} (h : SqL K H p (ys.map V.str)) (hs : (ys.map (·.length)).sum + ys.length * z.length ≤ 16777216) (q : Q (.str (Txt.join z ys)) H) : mJoin K (.str z) [.ref p] H Q := ⟨z, p, ys, rfl, rfl, .inl h, hs, q⟩
theorem w_ixL (h : SqL K H p xs) (ha : atI xs i = some v) (q : Q v H) : rIxL K (.ref p) (.int i) H Q := ⟨p, xs, i, v, rfl, rfl, h, ha, q⟩
theorem w_ixT (h : H p = some (.tup xs)) (ha : atI xs i = some v) (q : Q v H) : rIxT K (.ref p) (.int i) H Q := ⟨p, xs, i, v, rfl, rfl, sqT h, ha, q⟩
theorem w_ixS {c : Nat} (h : z.length ≤ sizeLine) (ha : atI z.cps.toList i = some c) (q : Q (.str ⟨#[c]⟩) H) : rIxS (.str z) (.int i) H Q := ⟨z, i, c, rfl, rfl, h, ha, q⟩
theorem w_setL {k : Nat} {P : Hp → Prop} (h : H p = some (.lst xs)) (ha : ixN xs.length i = some k) (q : ∀ H', Chg [p] H H' → H' p = some (.lst (xs.set k v)) → P H') : rSetL (.ref p) (.int i) v H P :=
  ⟨p, xs, i, k, rfl, rfl, h, ha, q _ (.mut h fun _ z => nomatch z) upd_same⟩
theorem w_max (q : Q (.int (if j > i then j else i)) H) : cMax [.int i, .int j] H Q := ⟨i, j, rfl, q⟩
theorem w_min (q : Q (.int (if j < i then j else i)) H) : cMin [.int i, .int j] H Q := ⟨i, j, rfl, q⟩
theorem w_abs (q : Q (.int (if i < 0 then -i else i)) H) : cAbs [.int i] H Q := ⟨i, rfl, q⟩
theorem w_intB (q : Q (.int (if b then 1 else 0)) H) : cInt [.bl b] H Q := .inr ⟨b, rfl, q⟩
theorem w_intI (q : Q (.int i) H) : cInt [.int i] H Q := .inl ⟨i, rfl, q⟩
theorem w_lenL (h : SqL K H p xs) (q : Q (.int xs.length) H) : cLenQ K [.ref p] H Q := ⟨p, xs, rfl, .inl h, q⟩
theorem w_lenT (h : H p = some (.tup xs)) (q : Q (.int xs.length) H) : cLenQ K [.ref p] H Q := ⟨p, xs, rfl, .inr (sqT h), q⟩
theorem w_lenS (h : z.length ≤ sizeLine) (q : Q (.int z.length) H) : cLenS [.str z] H Q := ⟨z, rfl, h, q⟩
theorem w_listL (h : SqL K H p xs) (q : ∀ p' H2, H p' = none → Chg [] H H2 → H2 p' = some (.lst xs) → Q (.ref p') H2) : cListQ K [.ref p] H Q := ⟨p, xs, rfl, .inl h, d_new q⟩
theorem w_append (h : H p = some (.lst xs)) (hl : xs.length < sizeLine) (q : ∀ H', Chg [p] H H' → H' p = some (.lst (xs ++ [y])) → Q .non H') : rAppend (.ref p) [y] H Q :=
  ⟨p, xs, y, rfl, rfl, h, hl, q _ (.mut h fun _ z => nomatch z) upd_same⟩
theorem w_bm {T : String} {rm : V → List V → Hp → VK → Prop} (h : te σ H fun x H1 => tyV K T x H1 ∧ tr σ H1 fun ys H2 => rm x ys H2 Q) : tBM K T rm te tr σ H Q := h
theorem w_bm0 {T : String} {rm : V → List V → Hp → VK → Prop} (h : te σ H fun x H1 => tyV K T x H1 ∧ rm x [] H1 Q) : tBM0 K T rm te σ H Q := h
theorem w_tyL {A : Prop} (h : H p = some (.lst xs)) (q : A) : tyV K "list" (.ref p) H ∧ A := ⟨.inl ⟨rfl, _, sqL h⟩, q⟩
theorem w_part (h : te σ H fun x H1 => ∃ i, x = .int i ∧ QO (some i) H1) : tPart te σ H QO := h
theorem w_isint {P : Int → Prop} (q : P i) : ∃ k, V.int i = .int k ∧ P k := ⟨i, rfl, q⟩
theorem w_noPart (h : QO none H) : tNoPart σ H QO := h
theorem w_sl {rs : V → Option Int → Option Int → Hp → VK → Prop} {tl th : TO} (h : te σ H fun x H1 => tl σ H1 fun l H2 => th σ H2 fun u H3 => rs x l u H3 Q) : tSl rs te tl th σ H Q := h
theorem w_slS {lo hi : Option Int} (h : z.length ≤ sizeLine) (q : Q (.str (cutS z lo hi)) H) : rSlS (.str z) lo hi H Q := ⟨z, rfl, h, q⟩
theorem w_slL {lo hi : Option Int} (h : SqL K H p xs) (q : ∀ p' H2, H p' = none → Chg [] H H2 → H2 p' = some (.lst (cutV xs lo hi)) → Q (.ref p') H2) : rSlL K (.ref p) lo hi H Q := ⟨p, xs, rfl, h, d_new q⟩
/-- tests -/
theorem w_iteT {A B : Prop} (h : A) : if true = true then A else B := iteT h
theorem w_iteF {A B : Prop} (h : B) : if false = true then A else B := iteF h
theorem w_iteB {A B : Prop} (h1 : b = true → A) (h2 : b = false → B) : if b = true then A else B := by
  cases b with
  | true => exact iteT (h1 rfl)
  | false => exact iteF (h2 rfl)
theorem w_iteD {P A B : Prop} [Decidable P] (h1 : P → A) (h2 : ¬ P → B) : if decide P = true then A else B := w_iteB (fun e => h1 (of_decide_eq_true e)) (fun e => h2 (of_decide_eq_false e))
theorem w_iteN {A B : Prop} (h : if b = true then B else A) : if (!b) = true then A else B := by cases b <;> simpa using h
theorem w_iteYes {A B : Prop} (e : b = true) (h : A) : if b = true then A else B := by rw [e]; exact iteT h
theorem w_iteNo {A B : Prop} (e : b = false) (h : B) : if b = true then A else B := by rw [e]; exact iteF h
end
section
variable {K : PySem.W.Frag} {σ : L2.St} {H : Hp} {D : Ends} {td ty tv : TE} {p : Addr} {v : V} {k : Key} {kvs : List (Key × V)}
theorem w_dput (h : tv σ H fun v H1 => td σ H1 fun x H2 => ty σ H2 fun y H3 => ∃ a H4, x = .ref a ∧ DPut H3 a y v H4 ∧ D.nx σ H4) : sDPut td ty tv D σ H := h
theorem d_dput {A : Hp → Prop} (h : H p = some (.dK kvs)) (hl : kvs.length < sizeLine) (q : ∀ H', Chg [p] H H' → H' p = some (.dK (putK kvs k v)) → A H') : ∃ a H4, V.ref p = .ref a ∧ DPut H a (kV k) v H4 ∧ A H4 :=
  ⟨p, _, rfl, .k h hl, q _ (.mut h fun _ z => nomatch z) upd_same⟩
theorem w_dnewK {Q : VK} (q : ∀ p H2, H p = none → Chg [] H H2 → H2 p = some (.dK []) → Q (.ref p) H2) : tDNewK σ H Q := d_new q
end
theorem at0 {α : Type} {x0 : α} {xs : List α} : atI (x0 :: xs) 0 = some x0 := atI_nat (j := 0) rfl
theorem at1 {α : Type} {x0 x1 : α} {xs : List α} : atI (x0 :: x1 :: xs) 1 = some x1 := atI_nat (j := 1) rfl
theorem at2 {α : Type} {x0 x1 x2 : α} {xs : List α} : atI (x0 :: x1 :: x2 :: xs) 2 = some x2 := atI_nat (j := 2) rfl
theorem at3 {α : Type} {x0 x1 x2 x3 : α} {xs : List α} : atI (x0 :: x1 :: x2 :: x3 :: xs) 3 = some x3 := atI_nat (j := 3) rfl
theorem atN {α : Type} {xs : List α} {i : Int} {v : α} (h0 : 0 ≤ i) (h : xs[i.toNat]? = some v) : atI xs i = some v := by
  have e : ((i.toNat : Nat) : Int) = i := by omega
  have q := atI_nat (xs := xs) h
  rw [e] at q
  exact q
/-- at a drawn place -/
theorem atD {α : Type} {xs : List α} {i : Int} (h0 : 0 ≤ i) (h1 : i < xs.length) : ∃ v, atI xs i = some v ∧ v ∈ xs := by
  have hl : i.toNat < xs.length := by omega
  exact ⟨xs[i.toNat], atN h0 (List.getElem?_eq_getElem hl), List.getElem_mem hl⟩
end
section
/-- what holds ahead of the i-th turn: D the new list, Iv by the address, the turn, the list so far, the heap -/
def LcP (D : Addr) (Iv : Addr → Nat → List V → Hp → Prop) (i : Nat) : Hp → Prop := fun H5 => ∃ acc, acc.length = i ∧ H5 D = some (.lst acc) ∧ Iv D i acc H5
/-- what is wanted of an item -/
def LcK (D : Addr) (Iv : Addr → Nat → List V → Hp → Prop) (i : Nat) : VK := fun y H4 => ∃ acc, H4 D = some (.lst acc) ∧ acc.length < sizeLine ∧ LcP D Iv (i + 1) (upd H4 D (.lst (acc ++ [y])))
theorem lc_end {D : Addr} {Iv : Addr → Nat → List V → Hp → Prop} {i : Nat} {y : V} {H4 : Hp} {acc : List V} (h : H4 D = some (.lst acc)) (hl : acc.length = i) (hz : i ≤ 100000) (q : ∀ H5, Chg [D] H4 H5 → H5 D = some (.lst (acc ++ [y])) → Iv D (i + 1) (acc ++ [y]) H5) : LcK D Iv i y H4 := by
  subst hl
  exact ⟨acc, h, Nat.lt_of_le_of_lt hz (by decide), acc ++ [y], by simp, upd_same, q _ (.mut h fun _ e => nomatch e) upd_same⟩
theorem w_lcW {J : It} {n : Nat} {G : Hp → Prop} {Y : Nat → Hp → V → Hp → Prop} {g : TG} {te : TE} {tt : TT} {vs : List Nat} {σ : L2.St} {H : Hp} {Q : Addr → Hp → Prop} (w : L2.Walk J n G Y) (Iv : Addr → Nat → List V → Hp → Prop)
    (h0 : ∀ D H1, H D = none → Chg [] H H1 → H1 D = some (.lst []) → Iv D 0 [] H1) (hG : ∀ D i acc H1, i ≤ n → H D = none → Iv D i acc H1 → G H1)
    (hs : ∀ D i acc x H1 H2, i < n → H D = none → H1 D = some (.lst acc) → acc.length = i → Iv D i acc H1 → Y i H1 x H2 → g x (wipe σ vs) H2 fun σ2 H3 => wipe σ2 vs = wipe σ vs ∧
      tt σ2 H3 fun b H3 => if b = true then te σ2 H3 (LcK D Iv i) else LcP D Iv (i + 1) H3)
    (hd : ∀ D acc H1, H D = none → acc.length = n → H1 D = some (.lst acc) → Iv D n acc H1 → Q D H1) :
    ∀ D, H D = none → ∃ W : Nat → Nat → Hp → Prop, (∃ m, W 0 m (upd H D (.lst []))) ∧ ∀ i m H, W i m H →
      (J.stop i H ∧ Q D H) ∨ (J.go i H ∧ ∃ Nx : Hp → Prop, (∀ H', Nx H' → ∃ m', m' < m ∧ W (i + 1) m' H') ∧ ∀ x H', J.yld i H x H' → g x (wipe σ vs) H' fun σ2 H2 => wipe σ2 vs = wipe σ vs ∧ tt σ2 H2 fun b H3 =>
        if b = true then te σ2 H3 fun y H4 => ∃ acc, H4 D = some (.lst acc) ∧ acc.length < sizeLine ∧ Nx (upd H4 D (.lst (acc ++ [y]))) else Nx H3) := by
  intro D nD
  refine lc_it w (Qd := fun H => Q D H) (LcP D Iv) ⟨[], rfl, upd_same, h0 D _ nD (.new nD) upd_same⟩ (fun i H1 hi ⟨acc, _, _, q⟩ => hG D i acc H1 hi nD q) (fun i x H1 H2 hi hp y => ?_) (fun H1 ⟨acc, e, h, q⟩ => hd D acc H1 nD e h q)
  obtain ⟨acc, e, h, q⟩ := hp
  exact hs D i acc x H1 H2 hi nD h e q y
/-- each turn only makes new things (or changes M): Ys tells what the i-th is, Jv what else holds -/
def IvP (H : Hp) (M : List Addr) (Jv : Nat → Hp → Prop) (Ys : Nat → V → Hp → Prop) : Addr → Nat → List V → Hp → Prop := fun _ i acc H1 => Chg M H H1 ∧ Jv i H1 ∧ ∀ j y, acc[j]? = some y → Ys j y H1
theorem lcp_end {H : Hp} {M : List Addr} {Jv : Nat → Hp → Prop} {Ys : Nat → V → Hp → Prop} {D : Addr} {i : Nat} {y : V} {acc : List V} {H1 H4 : Hp} (jst : ∀ i H1 H2 p, H p = none → Chg [p] H1 H2 → Jv i H1 → Jv i H2)
    (yst : ∀ i y H1 H2 p, H p = none → Chg (p :: M) H1 H2 → Ys i y H1 → Ys i y H2) (nD : H D = none) (hM : ∀ a ∈ M, H a ≠ none) (hD : H1 D = some (.lst acc)) (hl : acc.length = i) (hz : i ≤ 100000) (iv : IvP H M Jv Ys D i acc H1)
    (c : Chg M H1 H4) (jq : Jv (i + 1) H4) (yq : Ys i y H4) : LcK D (IvP H M Jv Ys) i y H4 := by
  obtain ⟨c0, _, q⟩ := iv
  refine lc_end (c.keep _ _ hD fun hm => hM D hm nD) hl hz fun H5 c5 h5 => ⟨?_, jst _ _ _ D nD c5 jq, fun j y' e => ?_⟩
  · exact (c0.both c).go c5 fun a ha => .inr (by rw [List.mem_singleton.mp ha]; exact nD)
  · by_cases hj : j < acc.length
    · rw [List.getElem?_append_left hj] at e
      exact yst j y' H4 H5 D nD (c5.wide (by simp)) (yst j y' H1 H4 D nD (c.wide (by intro a ha; exact List.mem_cons_of_mem _ ha)) (q j y' e))
    · have hj2 : j = acc.length := by
        have := (List.getElem?_eq_some_iff.mp e).1
        rw [List.length_append, List.length_singleton] at this
        omega
      subst hj2
      rw [List.getElem?_append_right (Nat.le_refl _), Nat.sub_self] at e
      cases (Option.some.inj (show some y = some y' from e))
      rw [hl]
      exact yst i y H4 H5 D nD (c5.wide (by simp)) yq
theorem w_lcP {J : It} {n : Nat} {G : Hp → Prop} {Y : Nat → Hp → V → Hp → Prop} {g : TG} {te : TE} {tt : TT} {vs : List Nat} {σ : L2.St} {H : Hp} {Q : Addr → Hp → Prop} (w : L2.Walk J n G Y) (M : List Addr) (Jv : Nat → Hp → Prop) (Ys : Nat → V → Hp → Prop)
    (j0 : Jv 0 H) (jst : ∀ i H1 H2 p, H p = none → Chg [p] H1 H2 → Jv i H1 → Jv i H2) (hG : ∀ H1, Chg M H H1 → G H1)
    (hs : ∀ D i acc x H1 H2, i < n → H D = none → H1 D = some (.lst acc) → acc.length = i → IvP H M Jv Ys D i acc H1 → Chg M H H1 → Jv i H1 → Y i H1 x H2 → g x (wipe σ vs) H2 fun σ2 H3 => wipe σ2 vs = wipe σ vs ∧
      tt σ2 H3 fun b H3 => if b = true then te σ2 H3 (LcK D (IvP H M Jv Ys) i) else LcP D (IvP H M Jv Ys) (i + 1) H3)
    (hd : ∀ D acc H1, H D = none → Chg M H H1 → Jv n H1 → acc.length = n → H1 D = some (.lst acc) → (∀ i y, acc[i]? = some y → Ys i y H1) → Q D H1) :
    ∀ D, H D = none → ∃ W : Nat → Nat → Hp → Prop, (∃ m, W 0 m (upd H D (.lst []))) ∧ ∀ i m H, W i m H →
      (J.stop i H ∧ Q D H) ∨ (J.go i H ∧ ∃ Nx : Hp → Prop, (∀ H', Nx H' → ∃ m', m' < m ∧ W (i + 1) m' H') ∧ ∀ x H', J.yld i H x H' → g x (wipe σ vs) H' fun σ2 H2 => wipe σ2 vs = wipe σ vs ∧ tt σ2 H2 fun b H3 =>
        if b = true then te σ2 H3 fun y H4 => ∃ acc, H4 D = some (.lst acc) ∧ acc.length < sizeLine ∧ Nx (upd H4 D (.lst (acc ++ [y]))) else Nx H3) :=
  w_lcW w (IvP H M Jv Ys) (fun D H1 nD c _ => ⟨c.wide (by simp), jst _ _ _ D nD (c.wide (by simp)) j0, fun j y e => by simp at e⟩) (fun D i acc H1 _ _ q => hG H1 q.1) (fun D i acc x H1 H2 hi nD hD el iv y => hs D i acc x H1 H2 hi nD hD el iv iv.1 iv.2.1 y) (fun D acc H1 nD el hD ⟨c, j, q⟩ => hd D acc H1 nD c j el hD q)
section
variable {K : PySem.W.Frag} {σ : L2.St} {H : Hp} {te : TE} {tr : TA} {g : TG} {tt : TT} {vs : List Nat} {Q : VK} {a b : Addr} {xs ys : List V} {P : Prop} {RI : It → Hp → Prop} {D : Ends} {tb : TS} {wi : TI}
theorem w_lc (h : wi σ H fun J H1 => ∀ D, H1 D = none → ∃ W : Nat → Nat → Hp → Prop, (∃ m, W 0 m (upd H1 D (.lst []))) ∧ ∀ i m H, W i m H →
  (J.stop i H ∧ Q (.ref D) H) ∨ (J.go i H ∧ ∃ Nx : Hp → Prop, (∀ H', Nx H' → ∃ m', m' < m ∧ W (i + 1) m' H') ∧ ∀ x H', J.yld i H x H' → g x (wipe σ vs) H' fun σ2 H2 => wipe σ2 vs = wipe σ vs ∧ tt σ2 H2 fun b H3 =>
    if b = true then te σ2 H3 fun y H4 => ∃ acc, H4 D = some (.lst acc) ∧ acc.length < sizeLine ∧ Nx (upd H4 D (.lst (acc ++ [y]))) else Nx H3)) : tLc wi g tt te vs σ H Q := h
theorem w_for (h : wi σ H fun J H1 => ∃ W : Nat → Nat → L2.St → Hp → Prop, (∃ m, W 0 m σ H1) ∧ ∀ i m σ H, W i m σ H →
  (J.stop i H ∧ D.nx σ H) ∨ (J.go i H ∧ ∃ N : L2.St → Hp → Prop, (∀ σ' H', N σ' H' → ∃ m', m' < m ∧ W (i + 1) m' σ' H') ∧ ∀ x H', J.yld i H x H' → g x σ H' fun σ2 H2 => tb { D with nx := N, ct := N, bk := D.nx } σ2 H2)) : tFor wi g tb D σ H := h
theorem w_yes {QB : Bool → Hp → Prop} (h : QB true H) : tYes σ H QB := h
theorem w_wipe {σ2 : L2.St} (h : wipe σ2 vs = wipe σ vs) (q : P) : wipe σ2 vs = wipe σ vs ∧ P := ⟨h, q⟩
theorem w_iList (h : te σ H fun x H1 => ∃ a, x = .ref a ∧ (∃ xs, SqL K H1 a xs) ∧ RI (Itl K a) H1) : iList K te σ H RI := h
theorem w_iTup (h : te σ H fun x H1 => ∃ a, x = .ref a ∧ (∃ xs, SqT K H1 a xs) ∧ RI (Itt K a) H1) : iTup K te σ H RI := h
theorem d_iList {A : Addr → Prop} (h : SqL K H a xs) (q : A a) : ∃ a', V.ref a = .ref a' ∧ (∃ xs, SqL K H a' xs) ∧ A a' := ⟨a, rfl, ⟨xs, h⟩, q⟩
theorem d_iTup {A : Addr → Prop} (h : H a = some (.tup xs)) (q : A a) : ∃ a', V.ref a = .ref a' ∧ (∃ xs, SqT K H a' xs) ∧ A a' := ⟨a, rfl, ⟨xs, sqT h⟩, q⟩
theorem w_iStr (h : te σ H fun v H1 => ∃ x, v = .str x ∧ RI (Its x) H1) : iStr te σ H RI := h
theorem d_iStr {z : Str} {A : Str → Prop} (q : A z) : ∃ x, V.str z = .str x ∧ A x := ⟨z, rfl, q⟩
theorem w_iRng1 (h : tr σ H fun vs H1 => ∃ j : Int, vs = [.int j] ∧ -(2 ^ 62) ≤ j ∧ j < 2 ^ 62 ∧ RI (Itr 0 j.toNat) H1) : iRng1 tr σ H RI := h
theorem d_iRng1 {j : Int} {A : Int → Prop} (h1 : -(2 ^ 62) ≤ j) (h2 : j < 2 ^ 62) (q : A j) : ∃ j' : Int, [V.int j] = [.int j'] ∧ -(2 ^ 62) ≤ j' ∧ j' < 2 ^ 62 ∧ A j' := ⟨j, rfl, h1, h2, q⟩
theorem w_iRng2 (h : tr σ H fun vs H1 => ∃ i j : Int, vs = [.int i, .int j] ∧ (-(2 ^ 62) ≤ i ∧ i < 2 ^ 62 ∧ -(2 ^ 62) ≤ j ∧ j < 2 ^ 62) ∧ RI (Itr i (j - i).toNat) H1) : iRng2 tr σ H RI := h
theorem d_iRng2 {i j : Int} {A : Int → Int → Prop} (h0 : -(2 ^ 62) ≤ i) (h0' : i < 2 ^ 62) (h1 : -(2 ^ 62) ≤ j) (h2 : j < 2 ^ 62) (q : A i j) : ∃ i' j' : Int, [V.int i, V.int j] = [.int i', .int j'] ∧ (-(2 ^ 62) ≤ i' ∧ i' < 2 ^ 62 ∧ -(2 ^ 62) ≤ j' ∧ j' < 2 ^ 62) ∧ A i' j' := ⟨i, j, rfl, ⟨h0, h0', h1, h2⟩, q⟩
theorem w_iZip (h : tr σ H fun vs H1 => ∃ a b xs ys, vs = [.ref a, .ref b] ∧ SqL K H1 a xs ∧ SqL K H1 b ys ∧ RI (Itz K a b) H1) : iZip K tr σ H RI := h
theorem d_iZip {A : Addr → Addr → Prop} (h : SqL K H a xs) (h' : SqL K H b ys) (q : A a b) : ∃ a' b' xs ys, [V.ref a, V.ref b] = [.ref a', .ref b'] ∧ SqL K H a' xs ∧ SqL K H b' ys ∧ A a' b' := ⟨a, b, xs, ys, rfl, h, h', q⟩
theorem w_iEnum (h : tr σ H fun vs H1 => ∃ a xs, vs = [.ref a] ∧ SqL K H1 a xs ∧ RI (Ite K a) H1) : iEnum K tr σ H RI := h
theorem d_iEnum {A : Addr → Prop} (h : SqL K H a xs) (q : A a) : ∃ a' xs, [V.ref a] = [.ref a'] ∧ SqL K H a' xs ∧ A a' := ⟨a, xs, rfl, h, q⟩
end
end
section
def letters : Str := "abcdefghijklmnopqrstuvwxyz"
def isLow (c : Nat) : Bool := decide (c ∈ letters.cps.toList)
def dInt : PyData → Bool
  | .int _ => true
  | .bool _ => true
  | _ => false
def dBool : PyData → Bool
  | .bool _ => true
  | _ => false
def dStr : PyData → Bool
  | .str _ => true
  | _ => false
def dTup : PyData → Bool
  | .tuple _ => true
  | _ => false
def dLst : PyData → Bool
  | .list _ => true
  | _ => false
def nameS (x : Str) : Bool := decide (1 ≤ x.length) && decide (x.length ≤ 8) && x.cps.toList.all isLow
def partsOf (z : Str) : Option Nat := if z = "arg" then some 0 else if z = "cell" then some 1 else if z = "add" then some 2 else if z = "less" then some 2 else if z = "least" then some 2 else none
def tyN : PyData → String
  | .none => "NoneType"
  | .bool _ => "bool"
  | .int _ => "int"
  | .str _ => "str"
  | .list _ => "list"
  | .tuple _ => "tuple"
  | .dict _ => "dict"
section
variable {K : PySem.W.Frag} {S : Addr → Prop} {H : Hp} {v : V} {d : PyData} {Q : VK}
theorem isi_of {v : V} {a b : String} {r : Bool} (t : TyX K H v (.type a)) (h : kitB a b = some r) (q : Q (.bl r) H) : rIsi K [v, .ty b] H Q := ⟨v, .ty b, _, _, r, rfl, .ty b, t, kit_ty h, q⟩
theorem R.tyx (r : R S H v d) : TyX K H v (.type (tyN d)) := by
  cases r with
  | non => exact .base .non
  | bl b => exact .base (.bl b)
  | int i => exact .base (.int i)
  | str x => exact .base (.str x)
  | lst s e r => exact .base (.lst e)
  | tup e r => exact .base (.tup e)
  | dic s e => exact .base (.dK e)
theorem w_isInt (r : R S H v d) (q : Q (.bl (dInt d)) H) : rIsi K [v, .ty "int"] H Q := by
  have t := r.tyx (K := K)
  cases d with
  | none => exact isi_of t (show kitB "NoneType" "int" = some false by decide +kernel) q
  | bool b => exact isi_of t (show kitB "bool" "int" = some true by decide +kernel) q
  | int i => exact isi_of t (show kitB "int" "int" = some true by decide +kernel) q
  | str x => exact isi_of t (show kitB "str" "int" = some false by decide +kernel) q
  | list ds => exact isi_of t (show kitB "list" "int" = some false by decide +kernel) q
  | tuple ds => exact isi_of t (show kitB "tuple" "int" = some false by decide +kernel) q
  | dict ds => exact isi_of t (show kitB "dict" "int" = some false by decide +kernel) q
theorem w_isBool (r : R S H v d) (q : Q (.bl (dBool d)) H) : rIsi K [v, .ty "bool"] H Q := by
  have t := r.tyx (K := K)
  cases d with
  | none => exact isi_of t (show kitB "NoneType" "bool" = some false by decide +kernel) q
  | bool b => exact isi_of t (show kitB "bool" "bool" = some true by decide +kernel) q
  | int i => exact isi_of t (show kitB "int" "bool" = some false by decide +kernel) q
  | str x => exact isi_of t (show kitB "str" "bool" = some false by decide +kernel) q
  | list ds => exact isi_of t (show kitB "list" "bool" = some false by decide +kernel) q
  | tuple ds => exact isi_of t (show kitB "tuple" "bool" = some false by decide +kernel) q
  | dict ds => exact isi_of t (show kitB "dict" "bool" = some false by decide +kernel) q
theorem w_isStr (r : R S H v d) (q : Q (.bl (dStr d)) H) : rIsi K [v, .ty "str"] H Q := by
  have t := r.tyx (K := K)
  cases d with
  | none => exact isi_of t (show kitB "NoneType" "str" = some false by decide +kernel) q
  | bool b => exact isi_of t (show kitB "bool" "str" = some false by decide +kernel) q
  | int i => exact isi_of t (show kitB "int" "str" = some false by decide +kernel) q
  | str x => exact isi_of t (show kitB "str" "str" = some true by decide +kernel) q
  | list ds => exact isi_of t (show kitB "list" "str" = some false by decide +kernel) q
  | tuple ds => exact isi_of t (show kitB "tuple" "str" = some false by decide +kernel) q
  | dict ds => exact isi_of t (show kitB "dict" "str" = some false by decide +kernel) q
theorem w_isTup (r : R S H v d) (q : Q (.bl (dTup d)) H) : rIsi K [v, .ty "tuple"] H Q := by
  have t := r.tyx (K := K)
  cases d with
  | none => exact isi_of t (show kitB "NoneType" "tuple" = some false by decide +kernel) q
  | bool b => exact isi_of t (show kitB "bool" "tuple" = some false by decide +kernel) q
  | int i => exact isi_of t (show kitB "int" "tuple" = some false by decide +kernel) q
  | str x => exact isi_of t (show kitB "str" "tuple" = some false by decide +kernel) q
  | list ds => exact isi_of t (show kitB "list" "tuple" = some false by decide +kernel) q
  | tuple ds => exact isi_of t (show kitB "tuple" "tuple" = some true by decide +kernel) q
  | dict ds => exact isi_of t (show kitB "dict" "tuple" = some false by decide +kernel) q
theorem w_isLst (r : R S H v d) (q : Q (.bl (dLst d)) H) : rIsi K [v, .ty "list"] H Q := by
  have t := r.tyx (K := K)
  cases d with
  | none => exact isi_of t (show kitB "NoneType" "list" = some false by decide +kernel) q
  | bool b => exact isi_of t (show kitB "bool" "list" = some false by decide +kernel) q
  | int i => exact isi_of t (show kitB "int" "list" = some false by decide +kernel) q
  | str x => exact isi_of t (show kitB "str" "list" = some false by decide +kernel) q
  | list ds => exact isi_of t (show kitB "list" "list" = some true by decide +kernel) q
  | tuple ds => exact isi_of t (show kitB "tuple" "list" = some false by decide +kernel) q
  | dict ds => exact isi_of t (show kitB "dict" "list" = some false by decide +kernel) q
end
structure Parts (K : PySem.W.Frag) (w : World) (dP : Addr) : Prop where
  kd : ∃ es n, KDict K w dP es n
  get : ∀ z k, partsOf z = some k → ∃ u, PySem.W.nsIn K dP z = some (some u) ∧ RelV (.int (k : Nat)) u
  no : ∀ z, partsOf z = none → PySem.W.nsIn K dP z = some none
section
variable {K : PySem.W.Frag} {w : World} {dP : Addr} {H : Hp} {Q : VK} {z : Str}
theorem w_notInP (T : Parts K w dP) (q : Q (.bl (!(partsOf z).isSome)) H) : oNotInKd K dP (.str z) (.ref dP) H Q := by
  cases e : partsOf z with
  | none => exact ⟨z, none, rfl, rfl, T.no z e, by rw [e] at q; exact q⟩
  | some k =>
    obtain ⟨u, e1, _⟩ := T.get z k e
    exact ⟨z, some u, rfl, rfl, e1, by rw [e] at q; exact q⟩
theorem w_ixP {k : Nat} (T : Parts K w dP) (e : partsOf z = some k) (q : Q (.int (k : Nat)) H) : rIxD K w (.ref dP) (.str z) H Q := by
  obtain ⟨u, e1, e2⟩ := T.get z k e
  obtain ⟨es, n, kd⟩ := T.kd
  exact ⟨dP, z, _, rfl, rfl, ⟨es, n, u, kd.at_, kd.lit, e1, e2⟩, q⟩
end
end
section
/-- a def that may be called by its name, with these defaults behind -/
structure Cal (P : Program) (w : World) (K : PySem.W.Frag) (mg : Str → Option Value) (base : Heap) (k : Nat) (x : Str) (sp : Sp) (dvs : List V) : Prop where
  ex : ∃ (f : Addr) (fd : FuncData) (ps : List Str) (ds : List Value), FnOk P w K mg base CX0 k f fd ps sp ∧ mg x = some (.ref f) ∧ PySem.W.keepIn K (.ref f) = true ∧ Binds K fd ps ds ∧ Vals dvs ds
section
variable {X : Cx} {k j n mm : Nat} {x m : Str} {sp : Sp} {dvs : List V} {ks : List Str} {gV : List V → List V → List V} {p pos apos : Pos} {e o : Expr} {es : List Expr} {kws : List Keyword} {ta : TE} {t tk : TA}
theorem pe_c (c : Cal X.prog X.w X.K X.mg X.base k x sp dvs) (hr : Room j X.A) (hk : k ≤ j) (hg : Gl X x) (ha : PA X (e :: es) t)
    (hdb : (x == ("__debug__" : Str)) = false := by decide) (he : starEach (e :: es) X.env = (false, eval e X.env) :: starEach es X.env := by rfl) (hpl : (backTo pos (starEach es X.env)).any (·.1) = false := by rfl) :
    PE X (.Call (.Name x p) (e :: es) [] pos) (tCall sp dvs E0 t) := by
  obtain ⟨f, fd, ps, ds, F, hm, kp, b, d⟩ := c.ex
  exact pe_call F (hr.mono hk) hg hm kp b d pass0 ha hdb he hpl
theorem w_callN {σ : L2.St} {H : Hp} {Q : VK} {E : XK} {m : Nat} (h : t σ H fun vs H1 => tk σ H1 fun zs H2 => vs.length = n ∧ zs.length = m ∧ sp (gV vs zs) H2 Q E) : tCallN n m sp gV E t tk σ H Q := h
end
section
variable {P : Program} {w : World} {K : PySem.W.Frag} {mg : Str → Option Value} {base : Heap} {x : Str} {st : Stmt} {f : Addr} {fd : FuncData} {sp : Sp} {k : Nat}
/-- a def of the top as it stands, dvs its defaults -/
abbrev FnP (K : PySem.W.Frag) (x : Str) (st : Stmt) (dvs : List V) (f : Addr) (fd : FuncData) : Prop := FunD K x x (defArgs st) (defBody st) (defScope st) dvs [] f fd
theorem FnP.go {N ps : List Str} {dvs : List V} (F : FnP K x st dvs f fd) (S : FnScope N ps (defScope st)) (len : ∀ vs H Q E, sp vs H Q E → vs.length = ps.length) (t : TS)
    (pure : ∀ (vs : List V) (H : Hp) (Q : VK) (E : XK), sp vs H Q E → t { nx := fun _ H' => Q .non H', rt := Q } (start N vs) H)
    (hbody : ∀ (cdv : Value) (A : Around) (outer : List Env) (s : Shared) (H : Hp) (E : XK), Room k (A.deeper (envOfC x (defScope st) s.heap.objs.size f cdv)) →
      PSs (cxOf CX0 P w K mg base N x (defScope st) f cdv A outer s H E).nox (defBody st) t) : FnOk P w K mg base CX0 (k + 1) f fd ps sp :=
  F.ok S len fun cdv A outer s H vs Q E hr h => ⟨t, PSs.nox (hbody cdv A outer s H E hr), pure vs H Q E h⟩
theorem FnP.cal {ps : List Str} (F : FnP K x st [] f fd) (ok : FnOk P w K mg base CX0 k f fd ps sp) (g : mg x = some (.ref f))
    (h : ∀ (kV doc pm : Value) (an : Option Addr) (cdv ct : Value) (us : List Value), us.length = ps.length → bindArgs (PySem.W.fnOf x x (defArgs st) (defBody st) (defScope st) .none kV doc pm an cdv ct) ⟨us, []⟩ = pure (ps.zip us)) : Cal P w K mg base k x sp [] :=
  ⟨f, fd, ps, [], ok, g, F.kp, F.bindsN h, .nil⟩
end
end
section
theorem exL {α : Type} {P : α → Prop} {B : Prop} (h : ∀ x, P x → B) : (∃ x, P x) → B := fun ⟨x, hx⟩ => h x hx
end
section
section
variable {P : Program} {w : World} {K : PySem.W.Frag} {mg : Str → Option Value} {base : Heap} {x qual : Str} {st : Stmt} {f : Addr} {fd : FuncData} {sp : Sp} {k : Nat}
/-- a method as it stands -/
abbrev MtP (K : PySem.W.Frag) (x qual : Str) (st : Stmt) (f : Addr) (fd : FuncData) : Prop := FunD K x qual (defArgs st) (defBody st) (defScope st) [] [] f fd
theorem MtP.go {N ps : List Str} (F : MtP K x qual st f fd) (S : FnScope N ps (defScope st)) (len : ∀ vs H Q E, sp vs H Q E → vs.length = ps.length) (t : TS)
    (pure : ∀ (vs : List V) (H : Hp) (Q : VK) (E : XK), sp vs H Q E → t { nx := fun _ H' => Q .non H', rt := Q } (start N vs) H)
    (hbody : ∀ (cdv : Value) (A : Around) (outer : List Env) (s : Shared) (H : Hp) (E : XK), Room k (A.deeper (envOfC qual (defScope st) s.heap.objs.size f cdv)) →
      PSs (cxOf CX0 P w K mg base N qual (defScope st) f cdv A outer s H E).nox (defBody st) t) : FnOk P w K mg base CX0 (k + 1) f fd ps sp :=
  F.ok S len fun cdv A outer s H vs Q E hr h => ⟨t, PSs.nox (hbody cdv A outer s H E hr), pure vs H Q E h⟩
end
end
end Fg
namespace PySem.SeqAt
open AutoSeq1 (wpAny_loadPart')
open MeetsSeq
end PySem.SeqAt
namespace Fg
open PySem PySem.Spec PyProof.Rows L2
section
variable {X : Cx} {pins : List (Addr × Obj)} {σ : L2.St} {H : Hp} {s : Shared}
theorem lstAt {p : Addr} {xs : List V} (I : Inv X pins σ H s) (h : H p = some (.lst xs)) : ∃ its : List Value, Vals xs its ∧ s.heap.IsList p its.toArray := by
  obtain ⟨_, its, n, rv, h1⟩ := (show ObjOk X.prog X.w H s.heap p (.lst xs) from I.hok p _ h)
  exact ⟨its, rv, ⟨_, h1, rfl, n, rfl⟩⟩
end
end Fg
namespace L2
open PySem PySem.Spec PyProof.Rows
end L2
namespace Fg
open PySem PySem.Spec PyProof.Rows L2
section
variable {X : Cx}
structure MkI (P : Program) (w : World) (K : PySem.W.Frag) (mg : Str → Option Value) (base : Heap) (k : Nat) (x : Str) (C : Addr) (sp : Sp) (dvs : List V) : Prop where
  ex : ∃ (f : Addr) (fd : FuncData) (ps : List Str) (ds : List Value), Mk K C f ∧ FnOk P w K mg base CX0 k f fd ps sp ∧ mg x = some (.ref C) ∧ Binds K fd ps ds ∧ Vals dvs ds
theorem pe_mkI {k j : Nat} {x : Str} {C : Addr} {sp : Sp} {dvs : List V} {p pos : Pos} {e : Expr} {es : List Expr} {t : TA} (c : MkI X.prog X.w X.K X.mg X.base k x C sp dvs) (hr : Room j X.A) (hk : k + 1 ≤ j) (hg : Gl X x) (ha : PA X (e :: es) t)
    (hdb : (x == ("__debug__" : Str)) = false := by decide) (he : starEach (e :: es) X.env = (false, eval e X.env) :: starEach es X.env := by rfl) (hpl : (backTo pos (starEach es X.env)).any (·.1) = false := by rfl) :
    PE X (.Call (.Name x p) (e :: es) [] pos) (tMake C sp dvs E0 t) := by
  obtain ⟨f, fd, ps, ds, M, F, hm, b, d⟩ := c.ex
  exact pe_make M F (hr.mono hk) hg hm b d pass0 ha hdb he hpl
end
end Fg
namespace Fg
open PySem PySem.Spec PyProof.Rows L2
section
def KFld (K : PySem.W.Frag) (f : Str) (Q : VK) : VK := fun x H1 => ∃ a C dx fs v, x = .ref a ∧ H1 a = some (.ins C dx fs) ∧ Cls K C ∧ NoAttr K C f ∧ fs.lookup f = some v ∧ Q v H1
def KSet (K : PySem.W.Frag) (f : Str) (y : V) (N : Hp → Prop) : VK := fun x H2 => ∃ a C dx fs, x = .ref a ∧ H2 a = some (.ins C dx fs) ∧ Cls K C ∧ NoAttr K C f ∧ fs.length < 1000 ∧ N (upd H2 a (.ins C dx (putF f y fs)))
def KAugE (K : PySem.W.Frag) (C : Addr) (f : Str) (a : Addr) (N : Hp → Prop) : VK := fun z H3 => ∃ dx' fs', H3 a = some (.ins C dx' fs') ∧ fs'.length < 1000 ∧ N (upd H3 a (.ins C dx' (putF f z fs')))
def KAug (K : PySem.W.Frag) (tv : TE) (rd : V → V → Hp → VK → Prop) (f : Str) (D : Ends) (σ : L2.St) : VK := fun x H1 => ∃ a C dx fs v, x = .ref a ∧ H1 a = some (.ins C dx fs) ∧ Cls K C ∧ NoAttr K C f ∧ fs.lookup f = some v ∧ tv σ H1 fun y H2 => rd v y H2 (KAugE K C f a (D.nx σ))
section
variable {K : PySem.W.Frag} {σ : L2.St} {H : Hp} {D : Ends} {ta tv td ty tx : TE} {Q : VK} {f : Str} {tr : TA}
theorem w_fld (h : ta σ H (KFld K f Q)) : tFld K ta f σ H Q := h
theorem w_sfld (h : tv σ H fun y H1 => ta σ H1 (KSet K f y (D.nx σ))) : sFld K ta tv f D σ H := h
theorem w_faug {rd : V → V → Hp → VK → Prop} (h : ta σ H (KAug K tv rd f D σ)) : sFldAug K ta tv rd f D σ H := h
theorem w_rAdd {i j : Int} (q : Q (.int (i + j)) H) : L2.rAdd (.int i) (.int j) H Q := ⟨i, j, rfl, rfl, q⟩
theorem w_rSub {i j : Int} (q : Q (.int (i - j)) H) : L2.rSub (.int i) (.int j) H Q := ⟨i, j, rfl, rfl, q⟩
/-- a new instance x -/
def KMake (C : Addr) (sp : Sp) (dvs : List V) (E : XK) (Q : VK) : List V → Hp → Prop := fun vs H1 => ∀ x dx, H1 x = none → H1 dx = none → dx ≠ x → sp (.ref x :: (vs ++ dvs)) (upd (upd H1 dx (.own x)) x (.ins C dx [])) (fun v H2 => v = .non ∧ Q (.ref x) H2) E
theorem w_make {C : Addr} {sp : Sp} {dvs : List V} {E : XK} (h : tr σ H (KMake C sp dvs E Q)) : tMake C sp dvs E tr σ H Q := h
theorem k_make {C : Addr} {sp : Sp} {dvs vs : List V} {E : XK} {H1 : Hp} (h : ∀ x dx H2, H1 x = none → H1 dx = none → dx ≠ x → Chg [] H1 H2 → H2 x = some (.ins C dx []) → sp (.ref x :: (vs ++ dvs)) H2 (fun v H2 => v = .non ∧ Q (.ref x) H2) E) : KMake C sp dvs E Q vs H1 :=
  fun x dx nx nd ne => h x dx _ nx nd ne ((Chg.new nd).same (Chg.new (by rw [upd_ne (Ne.symm ne)]; exact nx))) upd_same
/-- x or y -/
def KOr (K : PySem.W.Frag) (tb : TE) (σ : L2.St) (Q : VK) : VK := fun x H1 => ∃ k, TruV K x H1 k ∧ if k = true then Q x H1 else tb σ H1 Q
theorem w_orT {tb : TE} (h : ta σ H (KOr K tb σ Q)) : tOrT K ta tb σ H Q := h
def KDG2 (ty tx : TE) (σ : L2.St) (Q : VK) : VK := fun x H1 => ∃ a, x = .ref a ∧ IsD H1 a ∧ ty σ H1 fun y H2 => tx σ H2 fun z H3 => ∃ o, DGet H3 a y o ∧ Q (o.getD z) H3
theorem w_dgetd (h : td σ H (KDG2 ty tx σ Q)) : tDGet2 td ty tx σ H Q := h
theorem k_dgetd {a : Addr} {kvs : List (Key × V)} (e : H a = some (.dK kvs)) (h : ty σ H fun y H2 => tx σ H2 fun z H3 => ∃ o, DGet H3 a y o ∧ Q (o.getD z) H3) : KDG2 ty tx σ Q (.ref a) H := ⟨a, rfl, .inl ⟨_, .inl e⟩, h⟩
def KDg (x : V) (Q : VK) : VK := fun y H2 => ∃ a v, x = .ref a ∧ DGet H2 a y (some v) ∧ Q v H2
theorem w_dgetk (h : td σ H fun x H1 => ty σ H1 (KDg x Q)) : tDGet td ty σ H Q := h
/-- d.setdefault(k, x) -/
def KDSe (a : Addr) (y : V) (Q : VK) : VK := fun z H3 => ∃ (kvs : List (Key × V)) (k : Key), H3 a = some (.dK kvs) ∧ y = kV k ∧ kvs.length < sizeLine ∧ (∀ v, valV kvs k = some v → Q v H3) ∧ (valV kvs k = none → Q z (upd H3 a (.dK (putK kvs k z))))
def KDSd (ty tx : TE) (σ : L2.St) (Q : VK) : VK := fun x H1 => ∃ a, x = .ref a ∧ IsD H1 a ∧ ty σ H1 fun y H2 => tx σ H2 (KDSe a y Q)
theorem w_dsetd (h : td σ H (KDSd ty tx σ Q)) : tDSetd td ty tx σ H Q := h
theorem k_dsetd {a : Addr} {kvs : List (Key × V)} (e : H a = some (.dK kvs)) (h : ty σ H fun y H2 => tx σ H2 (KDSe a y Q)) : KDSd ty tx σ Q (.ref a) H := ⟨a, rfl, .inl ⟨_, .inl e⟩, h⟩
end
def O_Frame (K : PySem.W.Frag) (dx : Addr) (v0 v1 v2 v3 v4 v5 v6 : V) : HO := .ins (He.ga K "Frame") dx [("number", v0), ("path", v1), ("rows", v2), ("arg", v3), ("at", v4), ("past", v5), ("born", v6)]
structure C_Frame (K : PySem.W.Frag) : Prop where
  cl : Cls K (He.ga K "Frame")
  n_number : NoAttr K (He.ga K "Frame") "number"
  n_path : NoAttr K (He.ga K "Frame") "path"
  n_rows : NoAttr K (He.ga K "Frame") "rows"
  n_arg : NoAttr K (He.ga K "Frame") "arg"
  n_at : NoAttr K (He.ga K "Frame") "at"
  n_past : NoAttr K (He.ga K "Frame") "past"
  n_born : NoAttr K (He.ga K "Frame") "born"
section
variable {K : PySem.W.Frag} {H : Hp} {Q : VK} {N : Hp → Prop} {a dx : Addr} {v0 v1 v2 v3 v4 v5 v6 y : V}
theorem g_Frame_number (c : C_Frame K) (h : H a = some (O_Frame K dx v0 v1 v2 v3 v4 v5 v6)) (q : Q v0 H) : KFld K "number" Q (.ref a) H := ⟨a, _, dx, _, v0, rfl, h, c.cl, c.n_number, rfl, q⟩
theorem u_Frame_number {tv : TE} {rd : V → V → Hp → VK → Prop} {σ : L2.St} {D : Ends} (c : C_Frame K) (h : H a = some (O_Frame K dx v0 v1 v2 v3 v4 v5 v6)) (q : tv σ H fun z H2 => rd v0 z H2 (KAugE K (He.ga K "Frame") "number" a (D.nx σ))) : KAug K tv rd "number" D σ (.ref a) H := ⟨a, _, dx, _, v0, rfl, h, c.cl, c.n_number, rfl, q⟩
theorem g_Frame_path (c : C_Frame K) (h : H a = some (O_Frame K dx v0 v1 v2 v3 v4 v5 v6)) (q : Q v1 H) : KFld K "path" Q (.ref a) H := ⟨a, _, dx, _, v1, rfl, h, c.cl, c.n_path, rfl, q⟩
theorem u_Frame_path {tv : TE} {rd : V → V → Hp → VK → Prop} {σ : L2.St} {D : Ends} (c : C_Frame K) (h : H a = some (O_Frame K dx v0 v1 v2 v3 v4 v5 v6)) (q : tv σ H fun z H2 => rd v1 z H2 (KAugE K (He.ga K "Frame") "path" a (D.nx σ))) : KAug K tv rd "path" D σ (.ref a) H := ⟨a, _, dx, _, v1, rfl, h, c.cl, c.n_path, rfl, q⟩
theorem g_Frame_rows (c : C_Frame K) (h : H a = some (O_Frame K dx v0 v1 v2 v3 v4 v5 v6)) (q : Q v2 H) : KFld K "rows" Q (.ref a) H := ⟨a, _, dx, _, v2, rfl, h, c.cl, c.n_rows, rfl, q⟩
theorem u_Frame_rows {tv : TE} {rd : V → V → Hp → VK → Prop} {σ : L2.St} {D : Ends} (c : C_Frame K) (h : H a = some (O_Frame K dx v0 v1 v2 v3 v4 v5 v6)) (q : tv σ H fun z H2 => rd v2 z H2 (KAugE K (He.ga K "Frame") "rows" a (D.nx σ))) : KAug K tv rd "rows" D σ (.ref a) H := ⟨a, _, dx, _, v2, rfl, h, c.cl, c.n_rows, rfl, q⟩
theorem g_Frame_arg (c : C_Frame K) (h : H a = some (O_Frame K dx v0 v1 v2 v3 v4 v5 v6)) (q : Q v3 H) : KFld K "arg" Q (.ref a) H := ⟨a, _, dx, _, v3, rfl, h, c.cl, c.n_arg, rfl, q⟩
theorem u_Frame_arg {tv : TE} {rd : V → V → Hp → VK → Prop} {σ : L2.St} {D : Ends} (c : C_Frame K) (h : H a = some (O_Frame K dx v0 v1 v2 v3 v4 v5 v6)) (q : tv σ H fun z H2 => rd v3 z H2 (KAugE K (He.ga K "Frame") "arg" a (D.nx σ))) : KAug K tv rd "arg" D σ (.ref a) H := ⟨a, _, dx, _, v3, rfl, h, c.cl, c.n_arg, rfl, q⟩
theorem g_Frame_at (c : C_Frame K) (h : H a = some (O_Frame K dx v0 v1 v2 v3 v4 v5 v6)) (q : Q v4 H) : KFld K "at" Q (.ref a) H := ⟨a, _, dx, _, v4, rfl, h, c.cl, c.n_at, rfl, q⟩
theorem u_Frame_at {tv : TE} {rd : V → V → Hp → VK → Prop} {σ : L2.St} {D : Ends} (c : C_Frame K) (h : H a = some (O_Frame K dx v0 v1 v2 v3 v4 v5 v6)) (q : tv σ H fun z H2 => rd v4 z H2 (KAugE K (He.ga K "Frame") "at" a (D.nx σ))) : KAug K tv rd "at" D σ (.ref a) H := ⟨a, _, dx, _, v4, rfl, h, c.cl, c.n_at, rfl, q⟩
theorem g_Frame_past (c : C_Frame K) (h : H a = some (O_Frame K dx v0 v1 v2 v3 v4 v5 v6)) (q : Q v5 H) : KFld K "past" Q (.ref a) H := ⟨a, _, dx, _, v5, rfl, h, c.cl, c.n_past, rfl, q⟩
theorem u_Frame_past {tv : TE} {rd : V → V → Hp → VK → Prop} {σ : L2.St} {D : Ends} (c : C_Frame K) (h : H a = some (O_Frame K dx v0 v1 v2 v3 v4 v5 v6)) (q : tv σ H fun z H2 => rd v5 z H2 (KAugE K (He.ga K "Frame") "past" a (D.nx σ))) : KAug K tv rd "past" D σ (.ref a) H := ⟨a, _, dx, _, v5, rfl, h, c.cl, c.n_past, rfl, q⟩
theorem g_Frame_born (c : C_Frame K) (h : H a = some (O_Frame K dx v0 v1 v2 v3 v4 v5 v6)) (q : Q v6 H) : KFld K "born" Q (.ref a) H := ⟨a, _, dx, _, v6, rfl, h, c.cl, c.n_born, rfl, q⟩
theorem u_Frame_born {tv : TE} {rd : V → V → Hp → VK → Prop} {σ : L2.St} {D : Ends} (c : C_Frame K) (h : H a = some (O_Frame K dx v0 v1 v2 v3 v4 v5 v6)) (q : tv σ H fun z H2 => rd v6 z H2 (KAugE K (He.ga K "Frame") "born" a (D.nx σ))) : KAug K tv rd "born" D σ (.ref a) H := ⟨a, _, dx, _, v6, rfl, h, c.cl, c.n_born, rfl, q⟩
end
def O_Record (K : PySem.W.Frag) (dx : Addr) (v0 v1 v2 v3 v4 v5 : V) : HO := .ins (He.ga K "Record") dx [("mark", v0), ("word", v1), ("doer", v2), ("child", v3), ("reads", v4), ("writes", v5)]
structure C_Record (K : PySem.W.Frag) : Prop where
  cl : Cls K (He.ga K "Record")
  n_mark : NoAttr K (He.ga K "Record") "mark"
  n_word : NoAttr K (He.ga K "Record") "word"
  n_doer : NoAttr K (He.ga K "Record") "doer"
  n_child : NoAttr K (He.ga K "Record") "child"
  n_reads : NoAttr K (He.ga K "Record") "reads"
  n_writes : NoAttr K (He.ga K "Record") "writes"
section
variable {K : PySem.W.Frag} {H : Hp} {Q : VK} {N : Hp → Prop} {a dx : Addr} {v0 v1 v2 v3 v4 v5 y : V}
theorem g_Record_mark (c : C_Record K) (h : H a = some (O_Record K dx v0 v1 v2 v3 v4 v5)) (q : Q v0 H) : KFld K "mark" Q (.ref a) H := ⟨a, _, dx, _, v0, rfl, h, c.cl, c.n_mark, rfl, q⟩
theorem u_Record_mark {tv : TE} {rd : V → V → Hp → VK → Prop} {σ : L2.St} {D : Ends} (c : C_Record K) (h : H a = some (O_Record K dx v0 v1 v2 v3 v4 v5)) (q : tv σ H fun z H2 => rd v0 z H2 (KAugE K (He.ga K "Record") "mark" a (D.nx σ))) : KAug K tv rd "mark" D σ (.ref a) H := ⟨a, _, dx, _, v0, rfl, h, c.cl, c.n_mark, rfl, q⟩
theorem g_Record_word (c : C_Record K) (h : H a = some (O_Record K dx v0 v1 v2 v3 v4 v5)) (q : Q v1 H) : KFld K "word" Q (.ref a) H := ⟨a, _, dx, _, v1, rfl, h, c.cl, c.n_word, rfl, q⟩
theorem u_Record_word {tv : TE} {rd : V → V → Hp → VK → Prop} {σ : L2.St} {D : Ends} (c : C_Record K) (h : H a = some (O_Record K dx v0 v1 v2 v3 v4 v5)) (q : tv σ H fun z H2 => rd v1 z H2 (KAugE K (He.ga K "Record") "word" a (D.nx σ))) : KAug K tv rd "word" D σ (.ref a) H := ⟨a, _, dx, _, v1, rfl, h, c.cl, c.n_word, rfl, q⟩
theorem g_Record_doer (c : C_Record K) (h : H a = some (O_Record K dx v0 v1 v2 v3 v4 v5)) (q : Q v2 H) : KFld K "doer" Q (.ref a) H := ⟨a, _, dx, _, v2, rfl, h, c.cl, c.n_doer, rfl, q⟩
theorem u_Record_doer {tv : TE} {rd : V → V → Hp → VK → Prop} {σ : L2.St} {D : Ends} (c : C_Record K) (h : H a = some (O_Record K dx v0 v1 v2 v3 v4 v5)) (q : tv σ H fun z H2 => rd v2 z H2 (KAugE K (He.ga K "Record") "doer" a (D.nx σ))) : KAug K tv rd "doer" D σ (.ref a) H := ⟨a, _, dx, _, v2, rfl, h, c.cl, c.n_doer, rfl, q⟩
theorem g_Record_child (c : C_Record K) (h : H a = some (O_Record K dx v0 v1 v2 v3 v4 v5)) (q : Q v3 H) : KFld K "child" Q (.ref a) H := ⟨a, _, dx, _, v3, rfl, h, c.cl, c.n_child, rfl, q⟩
theorem u_Record_child {tv : TE} {rd : V → V → Hp → VK → Prop} {σ : L2.St} {D : Ends} (c : C_Record K) (h : H a = some (O_Record K dx v0 v1 v2 v3 v4 v5)) (q : tv σ H fun z H2 => rd v3 z H2 (KAugE K (He.ga K "Record") "child" a (D.nx σ))) : KAug K tv rd "child" D σ (.ref a) H := ⟨a, _, dx, _, v3, rfl, h, c.cl, c.n_child, rfl, q⟩
theorem g_Record_reads (c : C_Record K) (h : H a = some (O_Record K dx v0 v1 v2 v3 v4 v5)) (q : Q v4 H) : KFld K "reads" Q (.ref a) H := ⟨a, _, dx, _, v4, rfl, h, c.cl, c.n_reads, rfl, q⟩
theorem u_Record_reads {tv : TE} {rd : V → V → Hp → VK → Prop} {σ : L2.St} {D : Ends} (c : C_Record K) (h : H a = some (O_Record K dx v0 v1 v2 v3 v4 v5)) (q : tv σ H fun z H2 => rd v4 z H2 (KAugE K (He.ga K "Record") "reads" a (D.nx σ))) : KAug K tv rd "reads" D σ (.ref a) H := ⟨a, _, dx, _, v4, rfl, h, c.cl, c.n_reads, rfl, q⟩
theorem g_Record_writes (c : C_Record K) (h : H a = some (O_Record K dx v0 v1 v2 v3 v4 v5)) (q : Q v5 H) : KFld K "writes" Q (.ref a) H := ⟨a, _, dx, _, v5, rfl, h, c.cl, c.n_writes, rfl, q⟩
theorem u_Record_writes {tv : TE} {rd : V → V → Hp → VK → Prop} {σ : L2.St} {D : Ends} (c : C_Record K) (h : H a = some (O_Record K dx v0 v1 v2 v3 v4 v5)) (q : tv σ H fun z H2 => rd v5 z H2 (KAugE K (He.ga K "Record") "writes" a (D.nx σ))) : KAug K tv rd "writes" D σ (.ref a) H := ⟨a, _, dx, _, v5, rfl, h, c.cl, c.n_writes, rfl, q⟩
end
def O_Outcome (K : PySem.W.Frag) (dx : Addr) (v0 v1 v2 v3 : V) : HO := .ins (He.ga K "Outcome") dx [("cells", v0), ("given", v1), ("steps", v2), ("deepest", v3)]
structure C_Outcome (K : PySem.W.Frag) : Prop where
  cl : Cls K (He.ga K "Outcome")
  n_cells : NoAttr K (He.ga K "Outcome") "cells"
  n_given : NoAttr K (He.ga K "Outcome") "given"
  n_steps : NoAttr K (He.ga K "Outcome") "steps"
  n_deepest : NoAttr K (He.ga K "Outcome") "deepest"
section
variable {K : PySem.W.Frag} {H : Hp} {Q : VK} {N : Hp → Prop} {a dx : Addr} {v0 v1 v2 v3 y : V}
theorem g_Outcome_cells (c : C_Outcome K) (h : H a = some (O_Outcome K dx v0 v1 v2 v3)) (q : Q v0 H) : KFld K "cells" Q (.ref a) H := ⟨a, _, dx, _, v0, rfl, h, c.cl, c.n_cells, rfl, q⟩
theorem u_Outcome_cells {tv : TE} {rd : V → V → Hp → VK → Prop} {σ : L2.St} {D : Ends} (c : C_Outcome K) (h : H a = some (O_Outcome K dx v0 v1 v2 v3)) (q : tv σ H fun z H2 => rd v0 z H2 (KAugE K (He.ga K "Outcome") "cells" a (D.nx σ))) : KAug K tv rd "cells" D σ (.ref a) H := ⟨a, _, dx, _, v0, rfl, h, c.cl, c.n_cells, rfl, q⟩
theorem n_Outcome_cells (c : C_Outcome K) (h : H a = some (.ins (He.ga K "Outcome") dx [])) (q : ∀ H', Chg [a] H H' → H' a = some (.ins (He.ga K "Outcome") dx [("cells", y)]) → N H') : KSet K "cells" y N (.ref a) H := ⟨a, _, dx, _, rfl, h, c.cl, c.n_cells, by simp, q _ (.mut h fun _ e => nomatch e) upd_same⟩
theorem g_Outcome_given (c : C_Outcome K) (h : H a = some (O_Outcome K dx v0 v1 v2 v3)) (q : Q v1 H) : KFld K "given" Q (.ref a) H := ⟨a, _, dx, _, v1, rfl, h, c.cl, c.n_given, rfl, q⟩
theorem u_Outcome_given {tv : TE} {rd : V → V → Hp → VK → Prop} {σ : L2.St} {D : Ends} (c : C_Outcome K) (h : H a = some (O_Outcome K dx v0 v1 v2 v3)) (q : tv σ H fun z H2 => rd v1 z H2 (KAugE K (He.ga K "Outcome") "given" a (D.nx σ))) : KAug K tv rd "given" D σ (.ref a) H := ⟨a, _, dx, _, v1, rfl, h, c.cl, c.n_given, rfl, q⟩
theorem n_Outcome_given (c : C_Outcome K) (h : H a = some (.ins (He.ga K "Outcome") dx [("cells", v0)])) (q : ∀ H', Chg [a] H H' → H' a = some (.ins (He.ga K "Outcome") dx [("cells", v0), ("given", y)]) → N H') : KSet K "given" y N (.ref a) H := ⟨a, _, dx, _, rfl, h, c.cl, c.n_given, by simp, q _ (.mut h fun _ e => nomatch e) upd_same⟩
theorem g_Outcome_steps (c : C_Outcome K) (h : H a = some (O_Outcome K dx v0 v1 v2 v3)) (q : Q v2 H) : KFld K "steps" Q (.ref a) H := ⟨a, _, dx, _, v2, rfl, h, c.cl, c.n_steps, rfl, q⟩
theorem u_Outcome_steps {tv : TE} {rd : V → V → Hp → VK → Prop} {σ : L2.St} {D : Ends} (c : C_Outcome K) (h : H a = some (O_Outcome K dx v0 v1 v2 v3)) (q : tv σ H fun z H2 => rd v2 z H2 (KAugE K (He.ga K "Outcome") "steps" a (D.nx σ))) : KAug K tv rd "steps" D σ (.ref a) H := ⟨a, _, dx, _, v2, rfl, h, c.cl, c.n_steps, rfl, q⟩
theorem n_Outcome_steps (c : C_Outcome K) (h : H a = some (.ins (He.ga K "Outcome") dx [("cells", v0), ("given", v1)])) (q : ∀ H', Chg [a] H H' → H' a = some (.ins (He.ga K "Outcome") dx [("cells", v0), ("given", v1), ("steps", y)]) → N H') : KSet K "steps" y N (.ref a) H := ⟨a, _, dx, _, rfl, h, c.cl, c.n_steps, by simp, q _ (.mut h fun _ e => nomatch e) upd_same⟩
theorem g_Outcome_deepest (c : C_Outcome K) (h : H a = some (O_Outcome K dx v0 v1 v2 v3)) (q : Q v3 H) : KFld K "deepest" Q (.ref a) H := ⟨a, _, dx, _, v3, rfl, h, c.cl, c.n_deepest, rfl, q⟩
theorem u_Outcome_deepest {tv : TE} {rd : V → V → Hp → VK → Prop} {σ : L2.St} {D : Ends} (c : C_Outcome K) (h : H a = some (O_Outcome K dx v0 v1 v2 v3)) (q : tv σ H fun z H2 => rd v3 z H2 (KAugE K (He.ga K "Outcome") "deepest" a (D.nx σ))) : KAug K tv rd "deepest" D σ (.ref a) H := ⟨a, _, dx, _, v3, rfl, h, c.cl, c.n_deepest, rfl, q⟩
theorem n_Outcome_deepest (c : C_Outcome K) (h : H a = some (.ins (He.ga K "Outcome") dx [("cells", v0), ("given", v1), ("steps", v2)])) (q : ∀ H', Chg [a] H H' → H' a = some (.ins (He.ga K "Outcome") dx [("cells", v0), ("given", v1), ("steps", v2), ("deepest", y)]) → N H') : KSet K "deepest" y N (.ref a) H := ⟨a, _, dx, _, rfl, h, c.cl, c.n_deepest, by simp, q _ (.mut h fun _ e => nomatch e) upd_same⟩
end
end
section
structure LnI (P : Program) (w : World) (K : PySem.W.Frag) (mg : Str → Option Value) (base : Heap) (k : Nat) (C : Addr) (sp : Sp) : Prop where
  ex : ∃ (f : Addr) (fd : FuncData) (ps : List Str), FnOk P w K mg base CX0 k f fd ps sp ∧ PySem.W.findIn K (.ref C) "__len__" = some (some (.ref f)) ∧ PySem.W.isFn K (.ref f) = true ∧ Binds K fd ps []
def cLenI (C : Addr) (sp : Sp) : List V → Hp → VK → Prop := fun xs H Q => ∃ (a dx : Addr) (fs : List (Str × V)), xs = [.ref a] ∧ H a = some (.ins C dx fs) ∧ sp [.ref a] H (fun v H' => ∃ n : Nat, v = .int (n : Nat) ∧ n < 2 ^ 60 ∧ Q (.int (n : Nat)) H') E0
theorem p_lenI {X : Cx} {k j : Nat} {C : Addr} {sp : Sp} (L : LnI X.prog X.w X.K X.mg X.base k C sp) (hr : Room j X.A) (hk : k + 1 ≤ j) : CallR X (.builtin "len") (cLenI C sp) := by
  intro pins s σ H xs us Q I r h
  obtain ⟨f, fd, ps, F, hs, hf, hb⟩ := L.ex
  obtain ⟨a, dx, fs, rfl, ha, hsp⟩ := h
  rw [Vals.ref1 r]
  obtain ⟨mA, J, _⟩ := ins_get I.hok ha
  obtain ⟨od, J, _⟩ := J.look
  have room : Room k X.A.in1 := (hr.mono hk).in1
  have e0 : Env0 X.prog X.w X.K X.mg X.base X.A.in1 X.stack s H := by
    have e := I.env0
    exact ⟨e.frames, e.mod, e.bs, e.bsz, e.funs, e.frf, e.hok, e.bare⟩
  refine Calls.call_function_entry kind_len plain_len entry_len (args_len1 _) ?_
  unfold Builtin.«len»
  refine wpAny_bind (m := oneArg "len" _) (wpAny_pure ?_)
  refine wpAny_bind (m := callSpecial? (.ref a) (Str.ofString "__len__")) (PySem.W.special_fn I.kIn J hs (beq_iff_eq.mp hf) ?_)
  have hl := F.len _ _ _ _ hsp
  have r2 : Vals [V.ref a] [Value.ref a] := .cons rfl .nil
  refine wpAny_call (codeAny_mono (F.run X.A.in1 X.stack s H ⟨[.ref a], []⟩ [.ref a] [.ref a] _ E0 room e0 (by
    have := hb s [.ref a] I.kIn (by simpa using hl)
    simpa using this) r2 hsp) fun r s' hq => ?_)
  cases r with
  | error e => exact (pass0 (X := X) pins σ H s e s' I hq)
  | ok fl =>
    cases fl with
    | ret w =>
      obtain ⟨z, H', I', rz, n, ez, hn, q⟩ := I.after hq
      subst ez
      obtain ⟨t, rfl⟩ := (show ∃ t, w = Value.int (n : Nat) t from rz)
      refine wpAny_bind (wpAny_holding (wpAny_pure ?_))
      refine wpAny_bind (wpAny_letGo ?_)
      show wpAny _ _ (if ((n : Nat) : Int) < 0 then _ else _) _ _ _
      rw [if_neg (by omega)]
      show wpAny _ _ (if ((n : Nat) : Int) ≥ 2 ^ 63 then _ else _) _ _ _
      rw [if_neg (by omega)]
      exact wpAny_bind (wpAny_mkInt (wpAny_pure ⟨_, rfl, .int (n : Nat), H', I'.kept (t' := s'.toks + 1) (fun _ _ e => e), ⟨_, rfl⟩, q⟩))
    | next => exact False.elim hq
    | brk => exact False.elim hq
    | cont => exact False.elim hq
theorem w_lenI {C : Addr} {sp : Sp} {H : Hp} {Q : VK} {a dx : Addr} {fs : List (Str × V)} (h : H a = some (.ins C dx fs)) (q : sp [.ref a] H (fun v H' => ∃ n : Nat, v = .int (n : Nat) ∧ n < 2 ^ 60 ∧ Q (.int (n : Nat)) H') E0) : cLenI C sp [.ref a] H Q := ⟨a, dx, fs, rfl, h, q⟩
end
section
section
variable {P : Program} {w : World} {K : PySem.W.Frag} {mg : Str → Option Value} {base : Heap} {x qual : Str} {st : Stmt} {f : Addr} {fd : FuncData} {sp : Sp} {k : Nat} {ps : List Str} {dvs : List V}
/-- a class whose instances are made by its own __init__ -/
theorem MtP.mki {C : Str} (F : MtP K "__init__" qual st (He.ma K (He.ga K C) "__init__") fd) (M : Mk K (He.ga K C) (He.ma K (He.ga K C) "__init__")) (ok : FnOk P w K mg base CX0 k (He.ma K (He.ga K C) "__init__") fd ps sp) (g : mg C = some (.ref (He.ga K C)))
    (h : ∀ (kV doc pm : Value) (an : Option Addr) (cdv ct : Value) (us : List Value), us.length = ps.length → bindArgs (PySem.W.fnOf "__init__" qual (defArgs st) (defBody st) (defScope st) .none kV doc pm an cdv ct) ⟨us, []⟩ = pure (ps.zip us)) : MkI P w K mg base k C (He.ga K C) sp [] :=
  ⟨_, fd, ps, [], M, ok, g, F.bindsN h, .nil⟩
theorem MtP.lni {C : Str} (F : MtP K "__len__" qual st (He.ma K (He.ga K C) "__len__") fd) (M : Meth K (He.ga K C) "__len__" (He.ma K (He.ga K C) "__len__")) (ok : FnOk P w K mg base CX0 k (He.ma K (He.ga K C) "__len__") fd ps sp)
    (h : ∀ (kV doc pm : Value) (an : Option Addr) (cdv ct : Value) (us : List Value), us.length = ps.length → bindArgs (PySem.W.fnOf "__len__" qual (defArgs st) (defBody st) (defScope st) .none kV doc pm an cdv ct) ⟨us, []⟩ = pure (ps.zip us)) : LnI P w K mg base k (He.ga K C) sp :=
  ⟨_, fd, ps, ok, M.at_, M.fn, F.bindsN h⟩
end
end
end Fg
namespace PySem.W
open PySem
section
variable {prog : Program} {w : World} {A : Around} {E : Value → Shared → Prop} {s : Shared} {K : Frag} {x C f : Addr} {ox : Obj} {od : Option Obj} {name : Str} {b : Value}
theorem fg_ifBound_B {M : Model} {i : String} {args : List Value} {Q : Option Value → Shared → Prop} (X : K.In s.heap) (I : InstAt s.heap x ox C od) (hs : findIn K (.ref C) name = some (some (.builtin i))) (hb : ∀ self, bindSpecial (.builtin i) self = pure (.builtin i, [self]))
    (h : wpAny M A (call (.builtin i) (.ref x :: args)) (fun v => Q (some v)) E s) : wpAny M A (callSpecialIfBound? (.ref x) name args) Q E s := by
  simp only [callSpecialIfBound?, bindSpecialIfBound?]
  refine wpAny_holding (wpAny_bind (wpAny_bind (wpAny_bind (I.type.here ((looks_findIn X hs).here ?_)))))
  refine wpAny_bind (wpAny_askSetting (wpAny_ite ?_))
  have fin : wpAny M A (call (.builtin i) ([.ref x] ++ args) >>= fun v => pure (some v)) Q E s := wpAny_bind (wpAny_mono h (fun v s' h' => wpAny_pure h') fun _ _ h' => h')
  split
  · rw [hb]
    exact wpAny_bind (wpAny_pure (wpAny_pure (by exact fin)))
  · rw [hb]
    exact wpAny_tryCatch (wpAny_bind (wpAny_pure (wpAny_pure (by exact fin))))
theorem fg_objNe {Q : Fin → Shared → Prop} (hu : A.units < cLine) (X : K.In s.heap) (I : InstAt s.heap x ox C od) (hs : findIn K (.ref C) "__eq__" = some (some (.ref f))) (hf : isFn K (.ref f) = true)
    (hcall : wpAny (model prog w) A (call (.ref f) [.ref x, b]) (fun v s' => ∃ r, v = .bool r ∧ Q (.done (.ret (.bool (!r)))) s') E s) :
    wpAny (model prog w) A (Builtin.«object.__ne__» ⟨[.ref x, b], []⟩) Q E s := by
  unfold Builtin.«object.__ne__»
  repeat (first
    | with_reducible refine wpAny_cRoomFor hu ?_
    | (refine wpAny_bind (m := callSpecialIfBound? (.ref x) (Str.ofString "__eq__") [b])
        (ifBound_K X I hs hf (wpAny_mono hcall (fun r s' hr => by
          obtain ⟨b, rfl, hq⟩ := hr
          repeat (first | exact hq | exact wpAny_pure hq | exact wpAny_truthy_bool hq | (refine wpAny_bind (m := truthy (.bool _)) (wpAny_truthy_bool ?_)) | wp_step)) fun _ _ e => e)))
    | wp_step)
theorem fg_ne_K {Q : Value → Shared → Prop} (hu : A.units + 1 < cLine) (X : K.In s.heap) (I : InstAt s.heap x ox C od) (hb : Looks (model prog w) s.heap (typeOf b) (.ref C)) (hne : findIn K (.ref C) "__ne__" = some (some (.builtin "object.__ne__"))) (ho : subIn K (.ref C) (.type "object") = some true)
    (hs : findIn K (.ref C) "__eq__" = some (some (.ref f))) (hf : isFn K (.ref f) = true)
    (hcall : wpAny (model prog w) A.in1 (call (.ref f) [.ref x, b]) (fun v s' => ∃ r, v = .bool r ∧ Q (.bool (!r)) s') E s) : wpAny (model prog w) A (richCompare .NotEq (.ref x) b) Q E s := by
  have LI : Looks (model prog w) s.heap (isInstance (.ref x) (.type "object")) true := I.type.andThen (looks_subIn X ho)
  have one : wpAny (model prog w) A (tryCompare (.ref x) "__ne__" b) (fun r s' => ∃ v, r = some v ∧ Q v s') E s := by
    unfold tryCompare
    refine wpAny_bind (fg_ifBound_B X I hne (fun self => F.cmp_object.ne.bind self) (wpAny_call (codeAny_call_builtin F.cmp_object.ne.plain F.cmpEntry_ne
      (@PySem.W.check_slot (model prog w) _ _ s "object.__ne__" "object" "__ne__" (.ref x) [b] [] _ (by decide +kernel) (by decide +kernel) LI (F.cmpArgs_ne _ _) ?_))))
    refine fg_objNe (A := A.in1) hu X I hs hf (wpAny_mono hcall (fun v s' hv => ?_) fun _ _ e => e)
    obtain ⟨r, rfl, hq⟩ := hv
    first | exact ⟨r, rfl, wpAny_pure ⟨_, rfl, hq⟩⟩ | exact ⟨r, rfl, wpAny_pure (wpAny_pure ⟨_, rfl, hq⟩)⟩ | exact ⟨r, rfl, ⟨_, rfl, hq⟩⟩
  unfold richCompare
  simp only [oneThing_ref]
  refine wpAny_holding (wpAny_bind (wpAny_cRoomFor (Nat.lt_of_succ_lt hu) ?_))
  rw [cmpInfo_NotEq]
  dsimp only
  refine wpAny_bind (I.type.here (wpAny_bind (hb.here ?_)))
  rw [show (Value.ref C != Value.ref C) = false from by simp]
  simp only [Bool.false_eq_true, if_false]
  refine wpAny_bind (wpAny_pure ?_)
  simp only [Bool.false_eq_true, if_false]
  refine wpAny_bind (wpAny_mono one (fun r s' z => ?_) fun _ _ e => e)
  obtain ⟨v, rfl, hq⟩ := z
  exact wpAny_pure hq
end
end PySem.W
namespace Fg
open PySem PySem.Spec PyProof.Rows L2
structure EqI (P : Program) (w : World) (K : PySem.W.Frag) (mg : Str → Option Value) (base : Heap) (k : Nat) (C : Addr) (sp : Sp) : Prop where
  ex : ∃ (f : Addr) (fd : FuncData) (ps : List Str), FnOk P w K mg base CX0 k f fd ps sp ∧ PySem.W.findIn K (.ref C) "__eq__" = some (some (.ref f)) ∧ PySem.W.isFn K (.ref f) = true ∧ Binds K fd ps []
  ne : PySem.W.findIn K (.ref C) "__ne__" = some (some (.builtin "object.__ne__"))
  ob : PySem.W.subIn K (.ref C) (.type "object") = some true
def neB (K : PySem.W.Frag) (C : Addr) : Bool := decide (PySem.W.findIn K (.ref C) "__ne__" = some (some (.builtin "object.__ne__"))) && decide (PySem.W.subIn K (.ref C) (.type "object") = some true)
def oNeI (C : Addr) (sp : Sp) : R2 := fun x y H Q => ∃ (a b dx dy : Addr) (fs gs : List (Str × V)), x = .ref a ∧ y = .ref b ∧ H a = some (.ins C dx fs) ∧ H b = some (.ins C dy gs) ∧ sp [.ref a, .ref b] H (fun v H' => ∃ r : Bool, v = .bl r ∧ Q (.bl (!r)) H') E0
theorem p_neI {X : Cx} {k j : Nat} {C : Addr} {sp : Sp} (L : EqI X.prog X.w X.K X.mg X.base k C sp) (hr : Room j X.A) (hk : k + 1 ≤ j) (hu : X.A.units + 64 < cLine) : OpR X (compareOp .NotEq) (oNeI C sp) := by
  intro pins s σ H x y u v Q I rx ry h
  obtain ⟨f, fd, ps, F, hs, hf, hb⟩ := L.ex
  obtain ⟨a, b, dx, dy, fs, gs, rfl, rfl, ha, hb', hsp⟩ := h
  cases rx
  cases ry
  obtain ⟨mA, J, _⟩ := ins_get I.hok ha
  obtain ⟨mB, J', _⟩ := ins_get I.hok hb'
  obtain ⟨od, J, _⟩ := J.look
  obtain ⟨od', J', _⟩ := J'.look
  have room : Room k X.A.in1 := (hr.mono hk).in1
  have e0 : Env0 X.prog X.w X.K X.mg X.base X.A.in1 X.stack s H := by
    have e := I.env0
    exact ⟨e.frames, e.mod, e.bs, e.bsz, e.funs, e.frf, e.hok, e.bare⟩
  unfold compareOp
  refine PySem.W.fg_ne_K (by omega) I.kIn J J'.type L.ne L.ob hs hf ?_
  have hl := F.len _ _ _ _ hsp
  have r2 : Vals [V.ref a, V.ref b] [Value.ref a, Value.ref b] := .cons rfl (.cons rfl .nil)
  refine wpAny_call (codeAny_mono (F.run X.A.in1 X.stack s H ⟨[.ref a, .ref b], []⟩ [.ref a, .ref b] [.ref a, .ref b] _ E0 room e0 (by
    have := hb s [.ref a, .ref b] I.kIn (by simpa using hl)
    simpa using this) r2 hsp) fun r s' hq => ?_)
  cases r with
  | error e => exact (pass0 (X := X) pins σ H s e s' I hq)
  | ok fl =>
    cases fl with
    | ret w =>
      obtain ⟨z, H', I', rz, n, ez, q⟩ := I.after hq
      subst ez
      cases (show w = Value.bool n from rz)
      exact ⟨n, rfl, .bl (!n), H', I', rfl, q⟩
    | next => exact False.elim hq
    | brk => exact False.elim hq
    | cont => exact False.elim hq
theorem w_neI {C : Addr} {sp : Sp} {H : Hp} {Q : VK} {a b dx dy : Addr} {fs gs : List (Str × V)} (ha : H a = some (.ins C dx fs)) (hb : H b = some (.ins C dy gs)) (q : sp [.ref a, .ref b] H (fun v H' => ∃ r : Bool, v = .bl r ∧ Q (.bl (!r)) H') E0) : oNeI C sp (.ref a) (.ref b) H Q := ⟨a, b, dx, dy, fs, gs, rfl, rfl, ha, hb, q⟩
end Fg
namespace Fg
open PySem PySem.Spec PyProof.Rows L2
def oEqI (C : Addr) (sp : Sp) : R2 := fun x y H Q => ∃ (a b dx dy : Addr) (fs gs : List (Str × V)), x = .ref a ∧ y = .ref b ∧ H a = some (.ins C dx fs) ∧ H b = some (.ins C dy gs) ∧ sp [.ref a, .ref b] H (fun v H' => ∃ r : Bool, v = .bl r ∧ Q (.bl r) H') E0
theorem p_eqI {X : Cx} {k j : Nat} {C : Addr} {sp : Sp} (L : EqI X.prog X.w X.K X.mg X.base k C sp) (hr : Room j X.A) (hk : k + 1 ≤ j) (hu : X.A.units + 64 < cLine) : OpR X (compareOp .Eq) (oEqI C sp) := by
  intro pins s σ H x y u v Q I rx ry h
  obtain ⟨f, fd, ps, F, hs, hf, hb⟩ := L.ex
  obtain ⟨a, b, dx, dy, fs, gs, rfl, rfl, ha, hb', hsp⟩ := h
  cases rx
  cases ry
  obtain ⟨mA, J, _⟩ := ins_get I.hok ha
  obtain ⟨mB, J', _⟩ := ins_get I.hok hb'
  obtain ⟨od, J, _⟩ := J.look
  obtain ⟨od', J', _⟩ := J'.look
  obtain ⟨m, hF⟩ := I.fr
  have room : Room k X.A := hr.mono (by omega)
  unfold compareOp
  refine PySem.W.cmp_K (op := .Eq) (tb := .ref C) (by omega) hF I.ok.mod.kin J J'.type (by simp [PySem.W.notFirst]) hs hf ?_
  have hl := F.len _ _ _ _ hsp
  have r2 : Vals [V.ref a, V.ref b] [Value.ref a, Value.ref b] := .cons rfl (.cons rfl .nil)
  refine wpAny_call (codeAny_mono (F.run X.A X.stack s H ⟨[.ref a, .ref b], []⟩ [.ref a, .ref b] [.ref a, .ref b] _ E0 room I.env0 (by
    have := hb s [.ref a, .ref b] I.kIn (by simpa using hl)
    simpa using this) r2 hsp) fun r s' hq => ?_)
  cases r with
  | error e => exact (pass0 (X := X) pins σ H s e s' I hq)
  | ok fl =>
    cases fl with
    | ret w =>
      obtain ⟨z, H', I', rz, n, ez, q⟩ := I.after hq
      subst ez
      cases (show w = Value.bool n from rz)
      exact ⟨.bl n, H', I', rfl, q⟩
    | next => exact False.elim hq
    | brk => exact False.elim hq
    | cont => exact False.elim hq
theorem w_eqI {C : Addr} {sp : Sp} {H : Hp} {Q : VK} {a b dx dy : Addr} {fs gs : List (Str × V)} (ha : H a = some (.ins C dx fs)) (hb : H b = some (.ins C dy gs)) (q : sp [.ref a, .ref b] H (fun v H' => ∃ r : Bool, v = .bl r ∧ Q (.bl r) H') E0) : oEqI C sp (.ref a) (.ref b) H Q := ⟨a, b, dx, dy, fs, gs, rfl, rfl, ha, hb, q⟩
section
variable {P : Program} {w : World} {K : PySem.W.Frag} {mg : Str → Option Value} {base : Heap} {qual : Str} {st : Stmt} {fd : FuncData} {sp : Sp} {k : Nat} {ps : List Str}
theorem MtP.eqi {C : Str} (F : MtP K "__eq__" qual st (He.ma K (He.ga K C) "__eq__") fd) (M : Meth K (He.ga K C) "__eq__" (He.ma K (He.ga K C) "__eq__")) (hn : neB K (He.ga K C) = true) (ok : FnOk P w K mg base CX0 k (He.ma K (He.ga K C) "__eq__") fd ps sp)
    (h : ∀ (kV doc pm : Value) (an : Option Addr) (cdv ct : Value) (us : List Value), us.length = ps.length → bindArgs (PySem.W.fnOf "__eq__" qual (defArgs st) (defBody st) (defScope st) .none kV doc pm an cdv ct) ⟨us, []⟩ = pure (ps.zip us)) : EqI P w K mg base k (He.ga K C) sp :=
  ⟨⟨_, fd, ps, ok, M.at_, M.fn, F.bindsN h⟩, of_decide_eq_true (Bool.and_eq_true_iff.mp hn).1, of_decide_eq_true (Bool.and_eq_true_iff.mp hn).2⟩
end
/-- isinstance(x, C) of an own class -/
structure InI (K : PySem.W.Frag) (C : Addr) : Prop where
  ca : PySem.W.findIn K (.ref C) "__class__" = some (some (.builtin "object.__class__"))
  cg : PySem.W.specialIn K (.builtin "object.__class__") "__get__" = some (some (.builtin "getset_descriptor.__get__"))
  ct : PySem.W.takesIn K (.builtin "object.__class__") = some true
  cm : PySem.W.mroIn K C (.type "object") = some true
def inB (K : PySem.W.Frag) (C : Addr) : Bool := decide (PySem.W.findIn K (.ref C) "__class__" = some (some (.builtin "object.__class__"))) && (decide (PySem.W.specialIn K (.builtin "object.__class__") "__get__" = some (some (.builtin "getset_descriptor.__get__"))) && (decide (PySem.W.takesIn K (.builtin "object.__class__") = some true) && decide (PySem.W.mroIn K C (.type "object") = some true)))
theorem inB_ok {K : PySem.W.Frag} {C : Addr} (h : inB K C = true) : InI K C := by
  unfold inB at h
  simp only [Bool.and_eq_true, decide_eq_true_eq] at h
  exact ⟨h.1, h.2.1, h.2.2.1, h.2.2.2⟩
theorem w_isiO {K : PySem.W.Frag} {C y dx : Addr} {fs : List (Str × V)} {H : Hp} {Q : VK} (I : InI K C) (cl : Cls K C) (h : H y = some (.ins C dx fs)) (q : Q (.bl true) H) : rIsi K [.ref y, .ref C] H Q :=
  ⟨.ref y, .ref C, .ref C, .ref C, true, rfl, .own _, .base (.ins h cl I.ca I.cg I.ct I.cm), by unfold PySem.W.kitOne; rw [if_pos (by simp)], q⟩
end Fg
namespace Fg
open PySem PySem.Spec PyProof.Rows L2
section
/-- as FnOk, where no guard stands around -/
structure FnG (P : Program) (w : World) (K : PySem.W.Frag) (mg : Str → Option Value) (bs : Heap) (T : CXT) (k : Nat) (f : Addr) (fd : FuncData) (ps : List Str) (sp : Sp) : Prop where
  lenG : ∀ vs H Q E, sp vs H Q E → vs.length = ps.length
  runG : ∀ (A : Around) (ou : List Env) (st : Shared) (H : Hp) (ar : Args) (us : List Value) (vs : List V) (Q : VK) (E : XK), A.guards = some [] → Room k A → Env0 P w K mg bs A ou st H → BindsTo st fd ar (ps.zip us) → Vals vs us → sp vs H Q E → codeAny (model P w) A (.call (.ref f) ar) (CR T ou P w H st Q E) st
section
variable {X : Cx} {T : CXT} {k j : Nat} {f : Addr} {fd : FuncData} {ps : List Str} {sp : Sp} {ds : List Value} {dvs : List V} {E : XK} {x : Str} {p pos : Pos} {e : Expr} {es : List Expr} {t : TA}
theorem run_G {pins : List (Addr × Obj)} {σ : L2.St} {H : Hp} {st : Shared} {Q : VK} {us : List Value} {vs : List V} (F : FnG X.prog X.w X.K X.mg X.base T k f fd ps sp) (hG : X.A.guards = some []) (hr : Room k X.A) (hb : Binds X.K fd ps ds) (hd : Vals dvs ds) (hx : Passes T X E)
    (I : Inv X pins σ H st) (r : Vals vs us) (h : sp (vs ++ dvs) H Q E) : wpAny (model X.prog X.w) X.A (call (.ref f) us) (EP X pins σ Q) X.xe st := by
  have both : Vals (vs ++ dvs) (us ++ ds) := r.append hd
  have ln : (us ++ ds).length = ps.length := both.length.symm.trans (F.lenG _ _ _ _ h)
  refine wpAny_call (codeAny_mono (F.runG X.A X.stack st H ⟨us, []⟩ (us ++ ds) (vs ++ dvs) Q E hG hr I.env0 (hb st us I.kIn ln) both h) fun res st2 z => ?_)
  match res, z with
  | .error er, z => exact hx pins σ H st er st2 I z
  | .ok (.ret u), z => exact I.after z
  | .ok .next, z => exact z.elim
  | .ok .brk, z => exact z.elim
  | .ok .cont, z => exact z.elim
end
/-- a def that may be called by its name, where no guard stands around -/
structure CalG (P : Program) (w : World) (K : PySem.W.Frag) (mg : Str → Option Value) (bs : Heap) (k : Nat) (x : Str) (sp : Sp) (dvs : List V) : Prop where
  ex : ∃ (f : Addr) (fd : FuncData) (ps : List Str) (ds : List Value), FnG P w K mg bs CX0 k f fd ps sp ∧ mg x = some (.ref f) ∧ PySem.W.keepIn K (.ref f) = true ∧ Binds K fd ps ds ∧ Vals dvs ds
section
variable {X : Cx} {k j : Nat} {x : Str} {sp : Sp} {dvs : List V} {p pos : Pos} {e : Expr} {es : List Expr} {t : TA}
theorem pe_cG (c : CalG X.prog X.w X.K X.mg X.base k x sp dvs) (hG : X.A.guards = some []) (hr : Room j X.A) (hk : k ≤ j) (hg : Gl X x) (ha : PA X (e :: es) t)
    (hdb : (x == ("__debug__" : Str)) = false := by decide) (he : starEach (e :: es) X.env = (false, eval e X.env) :: starEach es X.env := by rfl) (hpl : (backTo pos (starEach es X.env)).any (·.1) = false := by rfl) :
    PE X (.Call (.Name x p) (e :: es) [] pos) (tCall sp dvs E0 t) := by
  obtain ⟨f, fd, ps, ds, F, hm, kp, b, d⟩ := c.ex
  exact ⟨fun pins st σ H Q I h => wpAny_Call_Name_kw (ld_glob I hg hm (PySem.W.callWith_K (h₀ := X.base) I.ok.mod.kin kp (thn (ha.run pos pins st σ H _ I h) fun us st1 ⟨vs, H1, I1, r, q⟩ => ⟨I1.kIn, run_G F hG (hr.mono hk) b d pass0 I1 r q⟩) he hpl) hdb)⟩
end
/-- from the body -/
theorem fnG_of {T : CXT} {P : Program} {w : World} {K : PySem.W.Frag} {mg : Str → Option Value} {bs : Heap} {k : Nat} {f : Addr} {name qual : Str} {params : Arguments} {body : List Stmt} {scope : Scope} {dV kV doc pm cdv ct oc : Value} {an od : Option Addr}
    {osl : Array (Option Value)} {N ps : List Str} {sp : Sp} (lk : K.lookup f = some ⟨oc, od, .func (PySem.W.fnOf name qual params body scope dV kV doc pm an cdv ct), osl⟩) (hcd : PySem.W.codeIn K cdv qual = true) (S : FnScope N ps scope)
    (len : ∀ vs H Q E, sp vs H Q E → vs.length = ps.length)
    (bd : ∀ (A : Around) (ou : List Env) (st : Shared) (H : Hp) (vs : List V) (Q : VK) (E : XK), A.guards = some [] → Room k (A.deeper (envOfC qual scope st.heap.objs.size f cdv)) → sp vs H Q E →
      ∃ t, PSs (cxOf T P w K mg bs N qual scope f cdv A ou st H E) body t ∧ t { nx := fun _ H' => Q .non H', rt := Q } (start N vs) H) :
    FnG P w K mg bs T (k + 1) f (PySem.W.fnOf name qual params body scope dV kV doc pm an cdv ct) ps sp := by
  refine ⟨len, fun A ou st H ar us vs Q E hG hr en hb rv hsp => ?_⟩
  have ln := len _ _ _ _ hsp
  have inK : K.In st.heap := en.mod.kin.keeps fun b o z => (en.bs b o z).1
  have free : st.heap.NoLimit := en.mod.nolimit.keeps fun b o z => (en.bs b o z).1
  have kinds : ∀ y ∈ ps.zip us, scope.names.lookup y.1 = some .local ∨ (scope.names.lookup y.1 = some .cell ∧ ((cellsFrom (st.heap.objs.size + 1) scope.names []).lookup y.1).isSome = true) := fun y hy =>
    (S.par y.1 (List.of_mem_zip (show (y.1, y.2) ∈ ps.zip us from hy)).1).elim .inl fun q => .inr ⟨q, PySem.W.cellsFrom_some _ _ _ (.inl q)⟩
  refine codeAny_call_function hr.depth (inK _ _ lk) rfl S.co S.gen rfl (PySem.W.codeRec_of inK hcd) (hb _ _ _ _ ?_)
  refine wpAny_newFunctionEnv_cells S.kind kinds fun env eq st1 cx => ?_
  subst eq
  obtain ⟨t, ht, hq⟩ := bd A ou st H vs Q E hG (hr.deeper _) hsp
  have I : Inv (cxOf T P w K mg bs N qual scope f cdv A ou st H E) [] (start N vs) H st1 := inv_start S hr.hd en ln rv cx
  refine ⟨free.keeps cx.toInCall.keep, codeAny_func (wpAny_mono (ht.run [] st1 (start N vs) H _ I hq) (fun fl st2 z => ?_) fun er st2 z => z)⟩
  match fl, z with
  | .ret u, ⟨v, σ', H', J, rv2, q⟩ => exact ⟨v, H', J.os, J.bare, J.base, J.hok, rv2, q⟩
  | .next, ⟨σ', H', J, q⟩ => exact ⟨V.non, H', J.os, J.bare, J.base, J.hok, rfl, q⟩
  | .brk, ⟨_, _, _, q⟩ => exact q.elim
  | .cont, ⟨_, _, _, q⟩ => exact q.elim
section
variable {P : Program} {w : World} {K : PySem.W.Frag} {mg : Str → Option Value} {base : Heap} {x : Str} {st : Stmt} {dvs : List V} {f : Addr} {fd : FuncData} {sp : Sp} {k : Nat}
theorem FnP.goG {N ps : List Str} (F : FnP K x st dvs f fd) (S : FnScope N ps (defScope st)) (len : ∀ vs H Q E, sp vs H Q E → vs.length = ps.length) (t : TS)
    (pure : ∀ (vs : List V) (H : Hp) (Q : VK) (E : XK), sp vs H Q E → t { nx := fun _ H' => Q .non H', rt := Q } (start N vs) H)
    (hbody : ∀ (cdv : Value) (A : Around) (outer : List Env) (s : Shared) (H : Hp) (E : XK), A.guards = some [] → Room k (A.deeper (envOfC x (defScope st) s.heap.objs.size f cdv)) →
      PSs (cxOf CX0 P w K mg base N x (defScope st) f cdv A outer s H E).nox (defBody st) t) : FnG P w K mg base CX0 (k + 1) f fd ps sp := by
  obtain ⟨oc, od, dV, kV, doc, pm, an, cdv, ct, osl, rfl, lk, hcd, _, _⟩ := F.ex
  exact fnG_of lk hcd S len fun A outer s H vs Q E hG hr h => ⟨t, PSs.nox (hbody cdv A outer s H E hG hr), pure vs H Q E h⟩
theorem FnP.calG {ps : List Str} (F : FnP K x st [] f fd) (ok : FnG P w K mg base CX0 k f fd ps sp) (g : mg x = some (.ref f))
    (h : ∀ (kV doc pm : Value) (an : Option Addr) (cdv ct : Value) (us : List Value), us.length = ps.length → bindArgs (PySem.W.fnOf x x (defArgs st) (defBody st) (defScope st) .none kV doc pm an cdv ct) ⟨us, []⟩ = pure (ps.zip us)) : CalG P w K mg base k x sp [] :=
  ⟨f, fd, ps, [], ok, g, F.kp, F.bindsN h, .nil⟩
end
theorem callG {P : Program} {w : World} {K : PySem.W.Frag} {mg mb : Str → Option Value} {T : CXT} {k : Nat} {fa a : Addr} {fd : FuncData} {x : Str} {sp : Sp} {st : Shared} {vs : List Value} {ns : List Int}
    (inK : K.In st.heap) (gl : st.heap.Ns mainGlobals mg) (bl : st.heap.Ns builtinsNs mb) (bb : ∀ x : Str, x ≠ "__name__" → mb x = bootBuiltins x) (free : st.heap.NoLimit) (ng : st.gens = #[])
    (at_ : st.heap.get? a = some { cls := .type "list", data := .seq vs.toArray }) (hi : IntsAre vs ns) (hl : ns.length ≤ sizeLine) (hr : Room k callerA)
    (F : ∀ bs : Heap, K.In bs → bs.Ns mainGlobals mg → FnG P w K mg bs T k fa fd [x] sp) (bind : ∀ (s : Shared) (u : Value), BindsTo s fd ⟨[u], []⟩ [(x, u)])
    (hsp : ∀ H : Hp, Only H → SqL K H a (ns.map V.int) → sp [.ref a] H (fun v _ => v = .bl true) fun _ _ _ => False)
    (noX : ∀ H e s', T [] H st (fun _ _ _ => False) e s' → False) :
    codeAny (model P w) callerA (.call (.ref fa) ⟨[.ref a], []⟩) (fun r s' => r = .ok (.ret (.bool true)) ∧ OldK st.heap s'.heap ∧ s'.os = st.os ∧ AllBare s'.gens) st := by
  have rv : Vals (ns.map V.int) vs := vals_ints hi
  have main : ∀ H : Hp, Only H → SqL K H a (ns.map V.int) → HOk P w H st.heap → (∀ b u, H b = some u → b = a ∧ K.lookup a = none) →
      codeAny (model P w) callerA (.call (.ref fa) ⟨[.ref a], []⟩) (fun r s' => r = .ok (.ret (.bool true)) ∧ OldK st.heap s'.heap ∧ s'.os = st.os ∧ AllBare s'.gens) st := fun H hO hS hok hA => by
    have dict0 : ∀ (b : Addr) (o : Obj) (es : Array DictEntry) (ep : Nat), st.heap.get? b = some o → o.data = .dict es ep → H b = none := fun b o es ep z d => by
      cases hb : H b with
      | none => rfl
      | some u =>
        obtain ⟨rfl, _⟩ := hA b u hb
        rw [at_] at z
        cases z
        have d : Data.seq vs.toArray _ = Data.dict es ep := d
        cases d
    have ns2 : ∀ {b : Addr} {m : Str → Option Value}, st.heap.Ns b m → (hidT st.heap H).Ns b m := fun ⟨o, es, ep, z, d, r⟩ => ⟨o, es, ep, hidT_get z (dict0 _ _ _ _ z d), d, r⟩
    have inB : K.In (hidT st.heap H) := fun b o z => hidT_get (inK b o z) (by
      cases hb : H b with
      | none => rfl
      | some u =>
        obtain ⟨rfl, n⟩ := hA b u hb
        rw [n] at z
        cases z)
    obtain ⟨mc, l1, l2⟩ := free
    have en : Env0 P w K mg (hidT st.heap H) callerA [] st H := ⟨rfl, ⟨inB, ns2 gl, ⟨mb, ns2 bl, bb⟩, ⟨mc, ns2 l1, l2⟩⟩, fun b o z => of_hidT z, Nat.le_of_eq (hidT_size _ _), trivial, (fun b hb => by cases hb), hok, .of_eq ng⟩
    refine codeAny_mono ((F _ inB (ns2 gl)).runG callerA [] st H ⟨[.ref a], []⟩ [.ref a] [.ref a] _ _ rfl hr en (bind st (.ref a)) (.cons rfl .nil) (hsp H hO hS)) fun res s' z => ?_
    match res, z with
    | .error e, z => exact (noX H e s' z).elim
    | .ok .next, z => exact z.elim
    | .ok .brk, z => exact z.elim
    | .ok .cont, z => exact z.elim
    | .ok (.ret u), ⟨v, H', os, bare, un, hok', r', q⟩ =>
      cases (show v = .bl true from q)
      cases (show u = Value.bool true from r')
      refine ⟨rfl, OldK.of_keep fun b o z => ?_, os, bare⟩
      cases hb : H b with
      | none => exact un.keep b o z hb (fun z => by cases z) (fun z => by cases z)
      | some u =>
        rcases hO b with n | ⟨ob, xs, n⟩
        · rw [hb] at n
          cases n
        · have e1 := (hok b _ n).1
          have e2 := (hok' b _ (un.frzs b ob _ n)).1
          rw [z] at e1
          cases e1
          exact e2
  cases hk : K.lookup a with
  | some o =>
    have z := inK a o hk
    rw [at_] at z
    cases z
    exact main (fun _ => none) (fun _ => .inl rfl) (.inr ⟨_, vs.toArray, _, hk, rfl, rfl, rfl, by rw [List.size_toArray, hi.length]; exact hl, by simpa using rv⟩) (fun b u z => by cases z) fun b u z => by cases z
  | none =>
    have eqA : ∀ b, (if b = a then some (HO.frz { cls := .type "list", data := .seq vs.toArray } (.lst (ns.map V.int))) else none) = none ∨ b = a := fun b => by
      by_cases hb : b = a
      · exact .inr hb
      · exact .inl (if_neg hb)
    refine main (fun b => if b = a then some (.frz { cls := .type "list", data := .seq vs.toArray } (.lst (ns.map V.int))) else none) (fun b => (eqA b).imp id fun hb => ⟨_, _, if_pos hb⟩) (.inl (.inr ⟨{ cls := .type "list", data := .seq vs.toArray }, if_pos rfl⟩)) (fun b u z => ?_) fun b u z => ?_
    · rcases eqA b with n | rfl
      · cases (show some u = none from z.symm.trans n)
      · cases (if_pos rfl).symm.trans z
        exact ⟨at_, by rw [List.length_map]; exact hl, vs, _, rv, at_⟩
    · rcases eqA b with n | rfl
      · cases (show some u = none from z.symm.trans n)
      · exact ⟨rfl, hk⟩
theorem walkG {l : PySem.W.OpenLaw} {n k : Nat} {q : Program} {loose : List Str} {XP : (Str → Option Value) → Heap → Prop} {YP : World → Heap → Prop} {d : DefRec} {T : CXT} {x : Str}
    (hn : l.most = some n) (hn2 : n ≤ sizeLine) (hdf : d.params.defaults = []) (hr : Room k callerA)
    (F : ∀ (w : World) (mg : Str → Option Value) (fa : Addr) (h : Heap), YP w h → h.Ns mainGlobals mg → mg d.name = some (.ref fa) →
      ∃ (K : PySem.W.Frag) (fd : FuncData) (sp : Sp), K.In h ∧ (∀ (s : Shared) (u : Value), BindsTo s fd ⟨[u], []⟩ [(x, u)]) ∧
        (∀ (H : Hp) (a : Addr) (ns : List Int), ns.length ≤ n → Only H → SqL K H a (ns.map V.int) → sp [.ref a] H (fun v _ => v = .bl true) fun _ _ _ => False) ∧
        ∀ bs : Heap, K.In bs → bs.Ns mainGlobals mg → FnG l.prog w K mg bs T k fa fd [x] sp)
    (noX : ∀ (H : Hp) (s : Shared) (e : Value) (s' : Shared), T [] H s (fun _ _ _ => False) e s' → False) :
    PySem.W.WalkO q loose XP YP l.row.toRowW d [] (fun f vs => PySem.call f vs) := by
  refine Att.attach_call hn hdf fun w s₀ st mg mb fa o pm cd doc a vs ns G Y ho hd hcd hmg hobj hints hlen hg => ?_
  obtain ⟨K, fd, sp, inK, hb, hsp, hF⟩ := F w mg fa _ Y G.T.g hmg
  exact callG inK G.T.g G.T.b G.T.builtins G.T.nolimit hg hobj hints (Nat.le_trans hlen hn2) hr hF hb (fun H hO hS => hsp H a ns hlen hO hS) fun H e s' => noX H st e s'
def rStrD : List V → Hp → VK → Prop := fun xs H Q => ∃ (a : Addr) (d : PyData) (S : Addr → Prop), xs = [.ref a] ∧ R S H (.ref a) d ∧ noDic d = true ∧ d.showable = true ∧ d.depth ≤ 50 ∧ d.shown.length ≤ sizeLine ∧ Q (.str d.shown) H
mutual
theorem noDic_hasDict : ∀ d : PyData, noDic d = true → d.hasDict = false
  | .none, _ => rfl
  | .bool _, _ => rfl
  | .int _, _ => rfl
  | .str _, _ => rfl
  | .list xs, h => noDics_hasDict xs h
  | .tuple xs, h => noDics_hasDict xs h
  | .dict _, h => by cases h
theorem noDics_hasDict : ∀ ds : List PyData, noDics ds = true → PyData.hasDictAll ds = false
  | [], _ => rfl
  | d :: ds, h => by
    obtain ⟨h1, h2⟩ := Bool.and_eq_true_iff.mp (show (noDic d && noDics ds) = true from h)
    show (d.hasDict || PyData.hasDictAll ds) = false
    rw [noDic_hasDict d h1, noDics_hasDict ds h2]
    rfl
end
section
variable {X : Cx}
theorem p_reprD (hG : X.A.guards = some []) (hu : X.A.units + 64 < cLine) : CallR X (.builtin "repr") rStrD := by
  intro pins st σ H xs us Q I r h
  obtain ⟨a, d, S, rfl, rd, nd, sh, dp, sz, q⟩ := h
  obtain ⟨u, rfl, ru⟩ := vals1 r
  obtain ⟨as, rr⟩ := Dp.reads I d (.ref a) u (rd.dp nd) ru
  cases (show u = Value.ref a from ru)
  exact repr_of_reads' rr sh (PyData.noDict_hsm (noDic_hasDict d nd)) hG (by omega) (fun _ _ z => z) (fun h' u tk kp => ⟨.str _, H, I.kept kp, ⟨_, rfl⟩, q⟩) sz
end
theorem w_strD {H : Hp} {Q : VK} {a : Addr} {d : PyData} {S : Addr → Prop} (rd : R S H (.ref a) d) (nd : noDic d = true) (sh : d.showable = true) (dp : d.depth ≤ 50) (sz : d.shown.length ≤ sizeLine) (q : Q (.str d.shown) H) : rStrD [.ref a] H Q := ⟨a, d, S, rfl, rd, nd, sh, dp, sz, q⟩
end
end Fg
namespace PySem.W
open PySem
section
variable {prog : Program} {w : World} {A : Around} {E : Value → Shared → Prop} {s : Shared} {K : Frag} {x C f : Addr} {ox : Obj} {od : Option Obj} {name : Str} {b : Value} {tb : Value}
theorem fg_ne_T {Q : Value → Shared → Prop} (hu : A.units + 1 < cLine) (X : K.In s.heap) (I : InstAt s.heap x ox C od) (hb : Looks (model prog w) s.heap (typeOf b) tb) (hn : notFirst K C tb = true) (hne : findIn K (.ref C) "__ne__" = some (some (.builtin "object.__ne__"))) (ho : subIn K (.ref C) (.type "object") = some true)
    (hs : findIn K (.ref C) "__eq__" = some (some (.ref f))) (hf : isFn K (.ref f) = true)
    (hcall : wpAny (model prog w) A.in1 (call (.ref f) [.ref x, b]) (fun v s' => ∃ r, v = .bool r ∧ Q (.bool (!r)) s') E s) : wpAny (model prog w) A (richCompare .NotEq (.ref x) b) Q E s := by
  have LI : Looks (model prog w) s.heap (isInstance (.ref x) (.type "object")) true := I.type.andThen (looks_subIn X ho)
  have one : wpAny (model prog w) A (tryCompare (.ref x) "__ne__" b) (fun r s' => ∃ v, r = some v ∧ Q v s') E s := by
    unfold tryCompare
    refine wpAny_bind (fg_ifBound_B X I hne (fun self => F.cmp_object.ne.bind self) (wpAny_call (codeAny_call_builtin F.cmp_object.ne.plain F.cmpEntry_ne
      (@PySem.W.check_slot (model prog w) _ _ s "object.__ne__" "object" "__ne__" (.ref x) [b] [] _ (by decide +kernel) (by decide +kernel) LI (F.cmpArgs_ne _ _) ?_))))
    refine fg_objNe (A := A.in1) hu X I hs hf (wpAny_mono hcall (fun v s' hv => ?_) fun _ _ e => e)
    obtain ⟨r, rfl, hq⟩ := hv
    first | exact ⟨r, rfl, wpAny_pure ⟨_, rfl, hq⟩⟩ | exact ⟨r, rfl, wpAny_pure (wpAny_pure ⟨_, rfl, hq⟩)⟩ | exact ⟨r, rfl, ⟨_, rfl, hq⟩⟩
  unfold richCompare
  simp only [oneThing_ref]
  refine wpAny_holding (wpAny_bind (wpAny_cRoomFor (Nat.lt_of_succ_lt hu) ?_))
  rw [cmpInfo_NotEq]
  dsimp only
  refine wpAny_bind (I.type.here (wpAny_bind (hb.here ?_)))
  split
  · rename_i q
    have e : subIn K tb (.ref C) = some false := by
      rcases Bool.or_eq_true_iff.mp hn with e | e
      · rw [beq_iff_eq.mp e] at q; simp at q
      · exact beq_iff_eq.mp e
    refine wpAny_bind ((looks_subIn X e).here ?_)
    simp only [Bool.false_eq_true, if_false]
    refine wpAny_bind (wpAny_mono one (fun r s' z => ?_) fun _ _ e => e)
    obtain ⟨v, rfl, hq⟩ := z
    exact wpAny_pure hq
  · refine wpAny_bind (wpAny_pure ?_)
    simp only [Bool.false_eq_true, if_false]
    refine wpAny_bind (wpAny_mono one (fun r s' z => ?_) fun _ _ e => e)
    obtain ⟨v, rfl, hq⟩ := z
    exact wpAny_pure hq
end
end PySem.W
namespace Fg
open PySem PySem.Spec PyProof.Rows L2
/-- no type of data is a subclass of C -/
def dsB (K : PySem.W.Frag) (C : Addr) : Bool := ["NoneType", "bool", "int", "str", "list", "tuple", "dict"].all fun t => PySem.W.subIn K (.type t) (.ref C) == some false && PySem.W.kitOne K (.type t) (.ref C) == some false
theorem dsB_in (d : PyData) : tyN d ∈ ["NoneType", "bool", "int", "str", "list", "tuple", "dict"] := by cases d <;> simp [tyN]
theorem dsB_at {K : PySem.W.Frag} {C : Addr} (h : dsB K C = true) (d : PyData) : PySem.W.notFirst K C (.type (tyN d)) = true := by
  have := (Bool.and_eq_true_iff.mp (List.all_eq_true.mp h (tyN d) (dsB_in d))).1
  unfold PySem.W.notFirst
  rw [this, Bool.or_true]
theorem w_isiD {K : PySem.W.Frag} {C : Addr} {S : Addr → Prop} {H : Hp} {Q : VK} {v : V} {d : PyData} (h : dsB K C = true) (r : R S H v d) (q : Q (.bl false) H) : rIsi K [v, .ref C] H Q :=
  ⟨v, .ref C, _, _, false, rfl, .own _, r.tyx (K := K), beq_iff_eq.mp (Bool.and_eq_true_iff.mp (List.all_eq_true.mp h (tyN d) (dsB_in d))).2, q⟩
theorem looks_of {M : Model} {s : Shared} {v : Value} {T : String} (h : ∀ s' : Shared, (∀ b o, s.heap.get? b = some o → s'.heap.get? b = some o) → s'.TypeIs v T) : PySem.W.Looks M s.heap (typeOf v) (.type T) := fun A Q E s' k q => by
  exact PySem.wpAny_typeOf (h s' k) q
theorem ty_of {X : Cx} {pins : List (Addr × Obj)} {σ : L2.St} {H : Hp} {s : Shared} {S : Addr → Prop} {v : V} {d : PyData} {u : Value} (I : Inv X pins σ H s) (r : R S H v d) (ru : RelV v u) (s' : Shared) (k : ∀ b o, s.heap.get? b = some o → s'.heap.get? b = some o) : s'.TypeIs u (tyN d) := by
  cases r with
  | non => cases ru; exact PySem.typeIs_none _
  | bl b => cases ru; exact PySem.typeIs_bool _ _
  | int i => obtain ⟨t, rfl⟩ := ru; exact PySem.typeIs_int _ _ _
  | str x => obtain ⟨t, rfl⟩ := ru; exact PySem.typeIs_str _ _ _
  | lst s0 e ra =>
    cases ru
    obtain ⟨its, rv, ⟨o, n, ho, hc, _, hd⟩, _⟩ := I.list (sqL e)
    exact ⟨o, k _ _ ho, hc⟩
  | tup e ra =>
    cases ru
    obtain ⟨its, rv, ⟨o, ho, hc, n, hd⟩, _⟩ := I.tuple (sqT e)
    exact ⟨o, k _ _ ho, hc⟩
  | dic s0 e =>
    cases ru
    obtain ⟨_, _, vs, rel, o, es, ep, ho, ex, hd, hk, hp, hnd⟩ := dk_of I.hok e
    exact ⟨o, k _ _ ho, ex.1⟩
def oEqX (C : Addr) (sp : Sp) : R2 := fun x y H Q => ∃ (a dx : Addr) (fs : List (Str × V)) (d : PyData) (S : Addr → Prop), x = .ref a ∧ H a = some (.ins C dx fs) ∧ R S H y d ∧ sp [.ref a, y] H (fun v H' => ∃ r : Bool, v = .bl r ∧ Q (.bl r) H') E0
def oNeX (C : Addr) (sp : Sp) : R2 := fun x y H Q => ∃ (a dx : Addr) (fs : List (Str × V)) (d : PyData) (S : Addr → Prop), x = .ref a ∧ H a = some (.ins C dx fs) ∧ R S H y d ∧ sp [.ref a, y] H (fun v H' => ∃ r : Bool, v = .bl r ∧ Q (.bl (!r)) H') E0
section
variable {X : Cx} {k j : Nat} {C : Addr} {sp : Sp}
theorem p_eqX (L : EqI X.prog X.w X.K X.mg X.base k C sp) (ds : dsB X.K C = true) (hr : Room j X.A) (hk : k + 1 ≤ j) (hu : X.A.units + 64 < cLine) : OpR X (compareOp .Eq) (oEqX C sp) := by
  intro pins s σ H x y u v Q I rx ry h
  obtain ⟨f, fd, ps, F, hs, hf, hb⟩ := L.ex
  obtain ⟨a, dx, fs, d, S, rfl, ha, rd, hsp⟩ := h
  cases rx
  obtain ⟨mA, J, _⟩ := ins_get I.hok ha
  obtain ⟨od, J, _⟩ := J.look
  obtain ⟨m, hF⟩ := I.fr
  have room : Room k X.A := hr.mono (by omega)
  unfold compareOp
  refine PySem.W.cmp_K (op := .Eq) (tb := .type (tyN d)) (by omega) hF I.ok.mod.kin J (looks_of (ty_of I rd ry)) (dsB_at ds d) hs hf ?_
  have hl := F.len _ _ _ _ hsp
  have r2 : Vals [V.ref a, y] [Value.ref a, v] := .cons rfl (.cons ry .nil)
  refine wpAny_call (codeAny_mono (F.run X.A X.stack s H ⟨[.ref a, v], []⟩ [.ref a, v] [.ref a, y] _ E0 room I.env0 (by
    have := hb s [.ref a, v] I.kIn (by simpa using hl)
    simpa using this) r2 hsp) fun r s' hq => ?_)
  cases r with
  | error e => exact (pass0 (X := X) pins σ H s e s' I hq)
  | ok fl =>
    cases fl with
    | ret w =>
      obtain ⟨z, H', I', rz, n, ez, q⟩ := I.after hq
      subst ez
      cases (show w = Value.bool n from rz)
      exact ⟨.bl n, H', I', rfl, q⟩
    | next => exact False.elim hq
    | brk => exact False.elim hq
    | cont => exact False.elim hq
theorem p_neX (L : EqI X.prog X.w X.K X.mg X.base k C sp) (ds : dsB X.K C = true) (hr : Room j X.A) (hk : k + 1 ≤ j) (hu : X.A.units + 64 < cLine) : OpR X (compareOp .NotEq) (oNeX C sp) := by
  intro pins s σ H x y u v Q I rx ry h
  obtain ⟨f, fd, ps, F, hs, hf, hb⟩ := L.ex
  obtain ⟨a, dx, fs, d, S, rfl, ha, rd, hsp⟩ := h
  cases rx
  obtain ⟨mA, J, _⟩ := ins_get I.hok ha
  obtain ⟨od, J, _⟩ := J.look
  have room : Room k X.A.in1 := (hr.mono hk).in1
  have e0 : Env0 X.prog X.w X.K X.mg X.base X.A.in1 X.stack s H := by
    have e := I.env0
    exact ⟨e.frames, e.mod, e.bs, e.bsz, e.funs, e.frf, e.hok, e.bare⟩
  unfold compareOp
  refine PySem.W.fg_ne_T (by omega) I.kIn J (looks_of (ty_of I rd ry)) (dsB_at ds d) L.ne L.ob hs hf ?_
  have hl := F.len _ _ _ _ hsp
  have r2 : Vals [V.ref a, y] [Value.ref a, v] := .cons rfl (.cons ry .nil)
  refine wpAny_call (codeAny_mono (F.run X.A.in1 X.stack s H ⟨[.ref a, v], []⟩ [.ref a, v] [.ref a, y] _ E0 room e0 (by
    have := hb s [.ref a, v] I.kIn (by simpa using hl)
    simpa using this) r2 hsp) fun r s' hq => ?_)
  cases r with
  | error e => exact (pass0 (X := X) pins σ H s e s' I hq)
  | ok fl =>
    cases fl with
    | ret w =>
      obtain ⟨z, H', I', rz, n, ez, q⟩ := I.after hq
      subst ez
      cases (show w = Value.bool n from rz)
      exact ⟨n, rfl, .bl (!n), H', I', rfl, q⟩
    | next => exact False.elim hq
    | brk => exact False.elim hq
    | cont => exact False.elim hq
end
theorem w_eqX {C : Addr} {sp : Sp} {H : Hp} {Q : VK} {a dx : Addr} {fs : List (Str × V)} {y : V} {d : PyData} {S : Addr → Prop} (ha : H a = some (.ins C dx fs)) (rd : R S H y d) (q : sp [.ref a, y] H (fun v H' => ∃ r : Bool, v = .bl r ∧ Q (.bl r) H') E0) : oEqX C sp (.ref a) y H Q := ⟨a, dx, fs, d, S, rfl, ha, rd, q⟩
theorem w_neX {C : Addr} {sp : Sp} {H : Hp} {Q : VK} {a dx : Addr} {fs : List (Str × V)} {y : V} {d : PyData} {S : Addr → Prop} (ha : H a = some (.ins C dx fs)) (rd : R S H y d) (q : sp [.ref a, y] H (fun v H' => ∃ r : Bool, v = .bl r ∧ Q (.bl (!r)) H') E0) : oNeX C sp (.ref a) y H Q := ⟨a, dx, fs, d, S, rfl, ha, rd, q⟩
open MeetsSeq MeetsSeq2 SeqRoads2
open AutoSeq1 (wpAny_loadPart')
def InS (prog : Program) (w : World) (l : Addr) (one x : Value) (items : Array Value) : PySem.Spec := fun A R s => s.heap.IsList l items ∧
  wpAny (model prog w) A.in1 (eqBool one x) (fun r s2 => (r = true → R (.ok (.ret (.bool true))) s2) ∧ (r = false → s2.heap.IsList l items ∧ R (.ok (.ret (.bool false))) s2)) (fun e s2 => R (.error e) s2) s
theorem in_one (prog : Program) (w : World) (l : Addr) (one x : Value) (items : Array Value) (h0 : items[((0 : Nat) : Int).toNat]? = some one) (h1 : items[((1 : Nat) : Int).toNat]? = none) : MeetsIn prog w (Builtin.«list.__contains__» ⟨[.ref l, x], []⟩) (InS prog w l one x items) := by
  intro A R s h
  obtain ⟨⟨⟨cls, dd, data, sl⟩, ho, hc, n, hd⟩, h⟩ := h
  simp only at hc hd
  subst hc hd
  obtain ⟨hp, g, d, tk, os⟩ := s
  wp_walk using wpAny_loadPart' ho
  refine ⟨plainId_quiet plain_contains_loop _, codeAny_builtin entry_contains_loop (by
    rw [Around.under_plainId plain_contains_loop _]
    wp_walk using wpAny_loadPart' ho
    have h0' : items[Int.toNat 0]? = some one := h0
    rw [h0']
    refine wpAny_bind (wpAny_mono h (fun r s2 q => ?_) fun _ _ e => e)
    obtain ⟨q1, q2⟩ := q
    cases r with
    | true =>
      wp_walk
      exact q1 rfl
    | false =>
      obtain ⟨⟨⟨cls2, dd2, data2, sl2⟩, ho2, hc2, n2, hd2⟩, q2⟩ := q2 rfl
      simp only at hc2 hd2
      subst hc2 hd2
      obtain ⟨hp2, g2, d2, tk2, os2⟩ := s2
      wp_walk
      exact ⟨plainId_quiet plain_contains_loop _, codeAny_builtin entry_contains_loop (by
        rw [Around.under_plainId plain_contains_loop _]
        wp_walk using wpAny_loadPart' ho2
        have h1' : items[Int.toNat 1]? = none := h1
        first | rw [h1] | rw [h1'] | (show wpAny _ _ (match items[Int.toNat 1]? with | none => _ | some _ => _) _ _ _; rw [h1'])
        wp_walk
        exact q2)⟩)⟩
/-- x in [o], both of an own class -/
def oInI (C : Addr) (sp : Sp) : R2 := fun x y H Q => ∃ (a b l dx dy : Addr) (fs gs : List (Str × V)), x = .ref b ∧ y = .ref l ∧ H l = some (.lst [.ref a]) ∧ a ≠ b ∧ H a = some (.ins C dx fs) ∧ H b = some (.ins C dy gs) ∧ sp [.ref a, .ref b] H (fun v H' => ∃ r : Bool, v = .bl r ∧ H' l = some (.lst [.ref a]) ∧ Q (.bl r) H') E0
theorem p_inI {X : Cx} {k j : Nat} {C : Addr} {sp : Sp} (L : EqI X.prog X.w X.K X.mg X.base k C sp) (hr : Room j X.A) (hk : k + 1 ≤ j) (hu : X.A.units + 64 < cLine) : OpR X (compareOp .In) (oInI C sp) := by
  intro pins s σ H x y v u Q I rx ry h
  obtain ⟨f, fd, ps, F, hs, hf, hb⟩ := L.ex
  obtain ⟨a, b, l, dx, dy, fs, gs, rfl, rfl, hl, ab, ha, hb', hsp⟩ := h
  cases rx
  cases ry
  obtain ⟨mA, J, _⟩ := ins_get I.hok ha
  obtain ⟨mB, J', _⟩ := ins_get I.hok hb'
  obtain ⟨od, J, _⟩ := J.look
  obtain ⟨od', J', _⟩ := J'.look
  obtain ⟨m, hF⟩ := I.fr
  have room : Room k X.A.in1 := (hr.mono hk).in1
  have e0 : Env0 X.prog X.w X.K X.mg X.base X.A.in1 X.stack s H := by
    have e := I.env0
    exact ⟨e.frames, e.mod, e.bs, e.bsz, e.funs, e.frf, e.hok, e.bare⟩
  have isl : ∀ {s' : Shared} {σ' : L2.St} {H' : Hp}, Inv X pins σ' H' s' → H' l = some (.lst [.ref a]) → s'.heap.IsList l #[.ref a] := fun I' e => by
    obtain ⟨its, rv, ho, _⟩ := I'.list (sqL e)
    cases rv with
    | cons r1 r2 =>
      cases r2
      cases r1
      obtain ⟨o, n, hg, hc, _, hd⟩ := ho
      exact ⟨o, hg, hc, n, hd⟩
  have it := isl I hl
  obtain ⟨o, hg, hc, n, hd⟩ := id it
  show wpAny _ X.A (do return Value.bool (← contains (.ref l) (.ref b))) _ _ s
  refine wpAny_bind (wpAny_contains_slot (T := "list") ⟨o, hg, hc⟩ PySem.F.slot_list_contains (wpAny_mono (call_meetsIn PySem.F.slot_list_contains ⟨o, hg, hc⟩ PySem.F.entry_list_contains (PySem.F.args_list_contains_2 _ _) (in_one X.prog X.w l (.ref a) (.ref b) #[.ref a] rfl rfl) (Q := fun v s' => ∃ r, v = .bool r ∧ EP X pins σ Q (.bool r) s') ?_) (fun v s' hv => ?_) fun _ _ e => e))
  · refine ⟨it, GQ.eqBool_refG ab ?_⟩
    refine PySem.W.cmp_K (op := .Eq) (tb := .ref C) (by have := room.units; omega) hF I.ok.mod.kin J J'.type (by simp [PySem.W.notFirst]) hs hf ?_
    have hl := F.len _ _ _ _ hsp
    have r2 : Vals [V.ref a, V.ref b] [Value.ref a, Value.ref b] := .cons rfl (.cons rfl .nil)
    refine wpAny_call (codeAny_mono (F.run X.A.in1 X.stack s H ⟨[.ref a, .ref b], []⟩ [.ref a, .ref b] [.ref a, .ref b] _ E0 room e0 (by
      have := hb s [.ref a, .ref b] I.kIn (by simpa using hl)
      simpa using this) r2 hsp) fun r s' hq => ?_)
    cases r with
    | error e => exact (pass0 (X := X) pins σ H s e s' I hq)
    | ok fl =>
      cases fl with
      | ret w =>
        obtain ⟨z, H', I', rz, n, ez, hl', q⟩ := I.after hq
        subst ez
        cases (show w = Value.bool n from rz)
        refine ⟨n, rfl, fun e => ?_, fun e => ?_⟩
        · subst e
          exact ⟨true, rfl, .bl true, H', I', rfl, q⟩
        · subst e
          exact ⟨isl I' hl', false, rfl, .bl false, H', I', rfl, q⟩
      | next => exact False.elim hq
      | brk => exact False.elim hq
      | cont => exact False.elim hq
  · obtain ⟨r, rfl, hq⟩ := hv
    exact wpAny_truthy_bool (wpAny_pure hq)
theorem w_inI {C : Addr} {sp : Sp} {H : Hp} {Q : VK} {a b l dx dy : Addr} {fs gs : List (Str × V)} (hl : H l = some (.lst [.ref a])) (ab : a ≠ b) (ha : H a = some (.ins C dx fs)) (hb : H b = some (.ins C dy gs)) (q : sp [.ref a, .ref b] H (fun v H' => ∃ r : Bool, v = .bl r ∧ H' l = some (.lst [.ref a]) ∧ Q (.bl r) H') E0) : oInI C sp (.ref b) (.ref l) H Q := ⟨a, b, l, dx, dy, fs, gs, rfl, rfl, hl, ab, ha, hb, q⟩
end Fg
namespace Fg
open PySem PySem.Spec PyProof.Rows L2
local macro_rules | `(tactic| walk_at "len") => `(tactic| first | exact (fun ⟨e, _⟩ => by rw [e]; rfl) | (refine exL ?_; intro _; walk_at "len"))
def topS (i : Nat) : Stmt := PySem.Challenge.pw_forkgather_k11_outcomes_compared.main.body.getD i (.Pass ⟨0, 0, 0, 0⟩)
abbrev s_Outcome___init__ : Stmt := inClass (topS 1) 0
abbrev s_Outcome___eq__ : Stmt := inClass (topS 1) 1
abbrev s_Outcome___len__ : Stmt := inClass (topS 1) 2
abbrev s_Outcome___repr__ : Stmt := inClass (topS 1) 3
abbrev s__law_cell_at : Stmt := topS 3
abbrev s__law_stir : Stmt := topS 4
abbrev s__law_well : Stmt := topS 5
abbrev s__law_draw : Stmt := topS 6
abbrev s__law_new_name : Stmt := topS 7
abbrev s__law_number : Stmt := topS 8
abbrev s__law_things : Stmt := topS 9
abbrev s__law_numbers_turned : Stmt := topS 10
abbrev s__law_turned : Stmt := topS 11
abbrev s__law_marks : Stmt := topS 12
abbrev s__law_good : Stmt := topS 13
abbrev s_law : Stmt := topS 14
def d_Outcome___init__ : He.DefD := ⟨("Outcome", some "__init__"), "__init__", "Outcome.__init__", defArgs s_Outcome___init__, defBody s_Outcome___init__, defScope s_Outcome___init__, [], []⟩
def d_Outcome___eq__ : He.DefD := ⟨("Outcome", some "__eq__"), "__eq__", "Outcome.__eq__", defArgs s_Outcome___eq__, defBody s_Outcome___eq__, defScope s_Outcome___eq__, [], []⟩
def d_Outcome___len__ : He.DefD := ⟨("Outcome", some "__len__"), "__len__", "Outcome.__len__", defArgs s_Outcome___len__, defBody s_Outcome___len__, defScope s_Outcome___len__, [], []⟩
def d_Outcome___repr__ : He.DefD := ⟨("Outcome", some "__repr__"), "__repr__", "Outcome.__repr__", defArgs s_Outcome___repr__, defBody s_Outcome___repr__, defScope s_Outcome___repr__, [], []⟩
def d__law_cell_at : He.DefD := ⟨("_law_cell_at", none), "_law_cell_at", "_law_cell_at", defArgs s__law_cell_at, defBody s__law_cell_at, defScope s__law_cell_at, [], []⟩
def d__law_stir : He.DefD := ⟨("_law_stir", none), "_law_stir", "_law_stir", defArgs s__law_stir, defBody s__law_stir, defScope s__law_stir, [], []⟩
def d__law_well : He.DefD := ⟨("_law_well", none), "_law_well", "_law_well", defArgs s__law_well, defBody s__law_well, defScope s__law_well, [], []⟩
def d__law_draw : He.DefD := ⟨("_law_draw", none), "_law_draw", "_law_draw", defArgs s__law_draw, defBody s__law_draw, defScope s__law_draw, [], []⟩
def d__law_new_name : He.DefD := ⟨("_law_new_name", none), "_law_new_name", "_law_new_name", defArgs s__law_new_name, defBody s__law_new_name, defScope s__law_new_name, [], []⟩
def d__law_number : He.DefD := ⟨("_law_number", none), "_law_number", "_law_number", defArgs s__law_number, defBody s__law_number, defScope s__law_number, [], []⟩
def d__law_things : He.DefD := ⟨("_law_things", none), "_law_things", "_law_things", defArgs s__law_things, defBody s__law_things, defScope s__law_things, [], []⟩
def d__law_numbers_turned : He.DefD := ⟨("_law_numbers_turned", none), "_law_numbers_turned", "_law_numbers_turned", defArgs s__law_numbers_turned, defBody s__law_numbers_turned, defScope s__law_numbers_turned, [], []⟩
def d__law_turned : He.DefD := ⟨("_law_turned", none), "_law_turned", "_law_turned", defArgs s__law_turned, defBody s__law_turned, defScope s__law_turned, [], []⟩
def d__law_marks : He.DefD := ⟨("_law_marks", none), "_law_marks", "_law_marks", defArgs s__law_marks, defBody s__law_marks, defScope s__law_marks, [], []⟩
def d__law_good : He.DefD := ⟨("_law_good", none), "_law_good", "_law_good", defArgs s__law_good, defBody s__law_good, defScope s__law_good, [], []⟩
def d_law : He.DefD := ⟨("law", none), "law", "law", defArgs s_law, defBody s_law, defScope s_law, [], []⟩
def fn : List He.DefD := [d__law_cell_at, d__law_stir, d__law_well, d__law_draw, d__law_new_name, d__law_number, d__law_things, d__law_numbers_turned, d__law_turned, d__law_marks, d__law_good, d_law, d_Outcome___init__, d_Outcome___eq__, d_Outcome___len__, d_Outcome___repr__]
def fa : List He.Fa := [.glo "_law_cell_at", .glo "_law_stir", .glo "_law_well", .glo "_law_draw", .glo "_law_new_name", .glo "_law_number", .glo "_law_things", .glo "_law_numbers_turned", .glo "_law_turned", .glo "_law_marks", .glo "_law_good", .glo "law", .glo "Outcome", .free "range", .free "list", .free "len", .free "sorted", .free "repr", .free "max", .free "isinstance", .free "min", .cls "Outcome", .noat "Outcome" "cells", .noat "Outcome" "given", .noat "Outcome" "steps", .noat "Outcome" "deepest", .mkr "Outcome", .meth "Outcome" "__eq__", .meth "Outcome" "__len__", .meth "Outcome" "__repr__"]
def ts : List He.Tab := []
def ex (K : PySem.W.Frag) : Bool := dsB K (He.ga K "Outcome") && (neB K (He.ga K "Outcome") && (inB K (He.ga K "Outcome")))
abbrev R0 : PySem.W.OpenRow := PySem.W.OpenLaw.row PySem.Challenge.rw_forkgather_k11_outcomes_compared
abbrev hk : PySem.W.Hook := He.hookX 5 fa fn ts [] ex
def ob (s : PySem.W.SharedT) : He.AlX := He.obsX 5 fa fn ts [] ex (HandSHeadRun.getT s)
theorem ob_eq (s : PySem.W.SharedT) : ob s = hk.obs s.abs := He.obsX_eq (HandSHeadRun.getT_eq s)
def names : List Str := [Str.ofString "Outcome", Str.ofString "_law_cell_at", Str.ofString "_law_stir", Str.ofString "_law_well", Str.ofString "_law_draw", Str.ofString "_law_new_name", Str.ofString "_law_number", Str.ofString "_law_things", Str.ofString "_law_numbers_turned", Str.ofString "_law_turned", Str.ofString "_law_marks", Str.ofString "_law_good"]
theorem run_f (w : World) : HandSHeadRun.RunEq R0 (PySem.W.view R0.prog [14]) hk ob 4000 names (w.withFollow "special-get-raises" false) := fun os => by kernel_rfl
theorem run_t (w : World) : HandSHeadRun.RunEq R0 (PySem.W.view R0.prog [14]) hk ob 4000 names (w.withFollow "special-get-raises" true) := fun os => by kernel_rfl
theorem run (w : World) : HandSHeadRun.RunEq R0 (PySem.W.view R0.prog [14]) hk ob 4000 names w :=
  PySem.W.byRow2 "special-get-raises" (P := fun w => HandSHeadRun.RunEq R0 (PySem.W.view R0.prog [14]) hk ob 4000 names w) run_f run_t w
set_option maxHeartbeats 0 in
open PySem.W PySem.Calls in
theorem close (sp : PySem.W.Frag → Sp) (hsp : ∀ (K : PySem.W.Frag) (H : Hp) (a : Addr) (ns : List Int), ns.length ≤ 63 → SqL K H a (ns.map V.int) → sp K [.ref a] H (fun v _ => v = .bl true) (fun _ _ _ => False))
    (facts : ∀ {w : World} {K : PySem.W.Frag} {h : Heap} {mg : Str → Option Value} {f : Addr}, K.In h → h.Ns mainGlobals mg → mg ("law" : Str) = some (.ref f) → He.SaysX fa fn ts [] ex w h K →
      ∃ fd : FuncData, (∀ (s : Shared) (v : Value), BindsTo s fd ⟨[v], []⟩ [("script", v)]) ∧ ∀ base : Heap, K.In base → base.Ns mainGlobals mg → FnG (PySem.Challenge.rw_forkgather_k11_outcomes_compared).prog w K mg base CX0 7 f fd ["script"] (sp K)) : PySem.Challenge.rw_forkgather_k11_outcomes_compared.Holds := by
  w_on; o_law
  refine HandSHeadRun.head_any (r := OpenLaw.row PySem.Challenge.rw_forkgather_k11_outcomes_compared) (q := view (OpenLaw.row PySem.Challenge.rw_forkgather_k11_outcomes_compared).prog [14]) (H := Fg.hk) (ob := Fg.ob) (M := 4000) (loose := Fg.names) (d := HandSHeadRun.topDef (OpenLaw.row PySem.Challenge.rw_forkgather_k11_outcomes_compared).prog 14) (kwd := []) Fg.ob_eq
    (by kernel_rfl) (fun s => by kernel_rfl) Fg.run (by kernel_rfl) (by kernel_rfl) (by kernel_rfl) (by rfl) (by first | assumption | decide +kernel) (by decide +kernel) ⟨rfl, rfl, rfl, rfl, rfl, by decide +kernel⟩ ?hw ?hc
  case hw => w_witness2
  case hc =>
    refine walkG (l := PySem.Challenge.rw_forkgather_k11_outcomes_compared) (n := 63) (k := 7) (x := "script") (T := L2.CX0) rfl (by decide) (by kernel_rfl) ⟨rfl, by decide, by decide⟩ ?F (fun _ _ _ _ z => z)
    intro w mg fa h Y G hmg0
    obtain ⟨K, KX, c⟩ := Y
    have hmg : mg ("law" : PySem.Str) = some (.ref fa) := by
      have e : (HandSHeadRun.topDef (OpenLaw.row PySem.Challenge.rw_forkgather_k11_outcomes_compared).prog 14).name = ("law" : PySem.Str) := by kernel_rfl
      rw [← e]
      exact hmg0
    obtain ⟨fd, hb, hF⟩ := facts (w := w) KX G hmg c
    exact ⟨K, fd, sp K, KX, hb, fun H a ns hl _ hS => hsp K H a ns hl hS, hF⟩
end Fg
namespace Fg
open PySem PySem.Spec PyProof.Rows L2
local macro_rules | `(tactic| walk_at "hp") => `(tactic| first
  | assumption
  | exact upd_same
  | (refine Chg.at (by assumption) ?_; walk_at "hp")
  | (refine Chg.at1 (by assumption) ?_ (by walk_at "ne"); walk_at "hp"))
local macro_rules | `(tactic| walk_at "ne") => `(tactic| first | assumption | (apply Ne.symm; assumption))
local macro_rules | `(tactic| walk_at "sq") => `(tactic| first | assumption | exact sqL (by walk_at "hp") | (refine Chg.seq (by assumption) ?_; walk_at "sq"))
local macro_rules | `(tactic| walk_at "sz") => `(tactic| first | assumption | exact Nat.zero_le _ | (simp only [List.length_cons, List.length_nil]; decide) | exact Nat.le_trans (by first | omega | (simp; done) | (simp; omega)) (show 100000 ≤ sizeLine by decide) | exact Nat.lt_of_lt_of_le (by first | omega | (simp; done) | (simp; omega)) (show 100000 ≤ sizeLine by decide))
local macro_rules | `(tactic| walk_at "ix") => `(tactic| first | exact at0 | exact at1 | exact at2 | exact at3 | assumption | exact rfl | walk_at "ix2")
local macro_rules | `(tactic| walk_at "ix2") => `(tactic| fail)
local macro_rules | `(tactic| walk_at "num") => `(tactic| first | assumption | omega | decide | walk_at "num2")
local macro_rules | `(tactic| walk_at "num2") => `(tactic| fail)
local macro_rules | `(tactic| walk_at "im") => `(tactic| first | assumption | exact R.non (S := fun _ => False) | exact R.bl (S := fun _ => False) _ | exact R.int (S := fun _ => False) _ | exact R.str (S := fun _ => False) _ | (refine R.im (by assumption) ?_; walk_at "im"))
local macro_rules | `(tactic| walk_at "r") => `(tactic| first | assumption | exact R.non (S := fun _ => False) | exact R.bl (S := fun _ => False) _ | exact R.int (S := fun _ => False) _ | exact R.str (S := fun _ => False) _ | (refine R.same (by assumption) ?_; walk_at "r") | exact R.any (by walk_at "im"))
local macro_rules | `(tactic| walk_at "chg") => `(tactic| first
  | exact Chg.refl
  | assumption
  | (refine Chg.same ?_ (by assumption); walk_at "chg")
  | (refine Chg.both ?_ (by assumption); walk_at "chg")
  | (refine Chg.pre (by assumption) ?_; walk_at "chg"))
local macro_rules | `(tactic| walk_at "w1") => `(tactic| first
  | with_reducible apply w_seq
  | with_reducible apply w_asg
  | ((with_reducible apply w_var); (focus (exact rfl)))
  | with_reducible apply w_c
  | with_reducible apply w_op
  | with_reducible apply w_cons
  | with_reducible apply w_nil
  | with_reducible apply w_gName
  | with_reducible apply w_if
  | with_reducible apply w_test
  | with_reducible apply w_B
  | with_reducible apply w_isbl
  | with_reducible apply w_retN
  | with_reducible apply w_next
  | with_reducible apply w_drop
  | with_reducible apply w_cb
  | with_reducible apply w_call
  | with_reducible apply w_callN
  | with_reducible apply w_bm
  | with_reducible apply w_bm0
  | ((with_reducible apply w_tyL); (focus (walk_at "hp"; done)))
  | with_reducible apply w_dput
  | with_reducible apply w_m1
  | with_reducible apply w_isstr
  | with_reducible apply w_and
  | with_reducible apply w_or
  | with_reducible apply w_not
  | with_reducible apply w_andV
  | with_reducible apply w_orV
  | with_reducible apply w_notV
  | with_reducible apply w_ifE
  | with_reducible apply w_chain
  | with_reducible apply w_un
  | with_reducible apply w_neg
  | with_reducible apply w_add
  | with_reducible apply w_sub
  | ((with_reducible apply w_mod); (focus (walk_at "num"; done)))
  | ((with_reducible apply w_mul); (focus (walk_at "num"; done)))
  | ((with_reducible apply w_fdiv); (focus (walk_at "num"; done)))
  | ((with_reducible apply w_pow); (focus (walk_at "num"; done)))
  | with_reducible apply w_lt
  | with_reducible apply w_le
  | with_reducible apply w_gt
  | with_reducible apply w_ge
  | with_reducible apply w_ltS
  | with_reducible apply w_geS
  | with_reducible apply w_inC
  | with_reducible apply w_notInC
  | with_reducible apply w_isN
  | with_reducible apply w_notN
  | with_reducible apply w_isB
  | with_reducible apply w_notB
  | ((with_reducible apply w_addS); (focus (walk_at "sz"; done)))
  | ((with_reducible apply w_ixL); (focus (walk_at "sq"; done)); (focus (walk_at "ix"; done)))
  | ((with_reducible apply w_ixT); (focus (walk_at "hp"; done)); (focus (walk_at "ix"; done)))
  | ((with_reducible apply w_ixS); (focus (walk_at "sz"; done)); (focus (walk_at "ix"; done)))
  | with_reducible apply w_gSub
  | ((with_reducible apply w_gTup); (focus (walk_at "hp"; done)); (focus (exact rfl)))
  | with_reducible apply w_gCons
  | with_reducible apply w_gNil
  | ((with_reducible apply w_aug); (focus (exact rfl)))
  | with_reducible apply w_ipI
  | ((with_reducible apply w_eq); (focus (exact rfl)))
  | ((with_reducible apply w_ne); (focus (exact rfl)))
  | with_reducible apply w_max
  | with_reducible apply w_min
  | with_reducible apply w_abs
  | with_reducible apply w_intB
  | with_reducible apply w_intI
  | with_reducible apply w_tup1
  | with_reducible apply w_lst1
  | with_reducible apply w_sl
  | with_reducible apply w_part
  | with_reducible apply w_noPart
  | with_reducible apply w_isint
  | ((with_reducible apply w_slS); (focus (walk_at "sz"; done)))
  | with_reducible apply w_iteT
  | with_reducible apply w_iteF
  | with_reducible apply w_iteN
  | ((with_reducible apply w_iteYes); (focus (exact rfl)))
  | ((with_reducible apply w_iteNo); (focus (exact rfl)))
  | ((with_reducible apply w_lenL); (focus (walk_at "sq"; done)))
  | ((with_reducible apply w_lenT); (focus (walk_at "hp"; done)))
  | ((with_reducible apply w_lenS); (focus (walk_at "sz"; done)))
  | with_reducible apply w_lc
  | with_reducible apply w_for
  | with_reducible apply w_yes
  | ((with_reducible apply w_wipe); (focus (exact rfl)))
  | with_reducible apply w_iList
  | with_reducible apply w_iTup
  | with_reducible apply w_iStr
  | with_reducible apply w_iRng1
  | with_reducible apply w_iRng2
  | with_reducible apply w_iZip
  | with_reducible apply w_iEnum
  | ((with_reducible apply d_iList); (focus (walk_at "sq"; done)))
  | ((with_reducible apply d_iTup); (focus (walk_at "hp"; done)))
  | with_reducible apply d_iStr
  | ((with_reducible apply d_iRng1); (focus (walk_at "num"; done)); (focus (walk_at "num"; done)))
  | ((with_reducible apply d_iRng2); (focus (walk_at "num"; done)); (focus (walk_at "num"; done)); (focus (walk_at "num"; done)); (focus (walk_at "num"; done)))
  | ((with_reducible apply d_iZip); (focus (walk_at "sq"; done)); (focus (walk_at "sq"; done)))
  | ((with_reducible apply d_iEnum); (focus (walk_at "sq"; done)))
  | walk_at "w2")
local macro_rules | `(tactic| walk_at "w2") => `(tactic| fail)
local macro_rules | `(tactic| walk_at "wn") => `(tactic| repeat walk_at "w1")
local macro_rules | `(tactic| walk_at "w") => `(tactic| repeat (first | walk_at "w1" | with_reducible apply w_ret))
local macro_rules | `(tactic| walk_at "w2") => `(tactic| first
  | ((with_reducible apply w_isInt); (focus (walk_at "r"; done)))
  | ((with_reducible apply w_isBool); (focus (walk_at "r"; done)))
  | ((with_reducible apply w_isStr); (focus (walk_at "r"; done)))
  | ((with_reducible apply w_isTup); (focus (walk_at "r"; done)))
  | ((with_reducible apply w_isLst); (focus (walk_at "r"; done)))
  | ((with_reducible apply w_notInP); (focus (assumption)))
  | ((with_reducible apply w_ixP); (focus (assumption)); (focus (assumption))))
section
abbrev fin (Q : VK) : Ends := { nx := fun _ H' => Q .non H', rt := Q }
end
section
section
variable {K : PySem.W.Frag} {H : Hp} {Q : VK} {p : Addr} {xs : List V} {x : V}
theorem w_notInL (h : SqL K H p xs) (hx : flatV x = true) (hs : xs.all flatV = true) (q : Q (.bl (!inV x xs)) H) : rIn K true x (.ref p) H Q := ⟨p, xs, rfl, .inl h, hx, hs, q⟩
end
theorem inV_str (x : Str) (ns : List Str) : inV (.str x) (ns.map V.str) = decide (x ∈ ns) := by
  unfold inV
  induction ns with
  | nil => simp
  | cons a r ih =>
    rw [List.map_cons, List.any_cons, ih]
    have e : eqV (.str a) (.str x) = decide (a = x) := by
      show (a == x) = decide (a = x)
      rw [Bool.beq_eq_decide_eq]
    rw [e]
    by_cases h : a = x
    · subst h
      simp
    · have h' : ¬ x = a := fun z => h z.symm
      simp [h, h']
theorem flat_strs (ns : List Str) : (ns.map V.str).all flatV = true := by
  rw [List.all_map]
  exact List.all_eq_true.mpr fun _ _ => rfl
end
section
inductive Ex where
  | num (i : Int)
  | arg
  | cell (a : Ex)
  | add (a b : Ex)
  | less (a b : Ex)
  | least (a b : Ex)
def Ex.data : Ex → PyData
  | .num i => .int i
  | .arg => .tuple [.str "arg"]
  | .cell a => .tuple [.str "cell", a.data]
  | .add a b => .tuple [.str "add", a.data, b.data]
  | .less a b => .tuple [.str "less", a.data, b.data]
  | .least a b => .tuple [.str "least", a.data, b.data]
def Ex.deep : Ex → Nat
  | .num _ => 1
  | .arg => 1
  | .cell a => a.deep + 1
  | .add a b => max a.deep b.deep + 1
  | .less a b => max a.deep b.deep + 1
  | .least a b => max a.deep b.deep + 1
inductive Stp where
  | cell (a b : Ex)
  | give (x : Str) (a : Ex)
  | fork (x : Str) (a : Ex)
  | call (x : Str) (a : Ex)
  | wait
  | skip (a : Ex) (k : Int)
def Stp.data : Stp → PyData
  | .cell a b => .tuple [.str "cell", a.data, b.data]
  | .give x a => .tuple [.str "give", .str x, a.data]
  | .fork x a => .tuple [.str "fork", .str x, a.data]
  | .call x a => .tuple [.str "call", .str x, a.data]
  | .wait => .tuple [.str "wait"]
  | .skip a k => .tuple [.str "skip", a.data, .int k]
/-- a right step, by the helpers' names and how many there are behind it -/
def Stp.ok (ns : List Str) (bh : Int) : Stp → Prop
  | .cell a b => a.deep ≤ 5 ∧ b.deep ≤ 5
  | .give x a => nameS x = true ∧ a.deep ≤ 5
  | .fork x a => nameS x = true ∧ x ∈ ns ∧ a.deep ≤ 5
  | .call x a => nameS x = true ∧ x ∈ ns ∧ a.deep ≤ 5
  | .wait => True
  | .skip a k => a.deep ≤ 5 ∧ 1 ≤ k ∧ k ≤ bh
/-- helpers with their steps -/
abbrev Prg := List (Str × List Stp)
theorem nameS_iff {x : Str} : nameS x = true ↔ 1 ≤ x.length ∧ x.length ≤ 8 ∧ ∀ c ∈ x.cps.toList, isLow c = true := by
  unfold nameS
  rw [Bool.and_eq_true, Bool.and_eq_true, decide_eq_true_eq, decide_eq_true_eq, List.all_eq_true]
  exact ⟨fun h => ⟨h.1.1, h.1.2, h.2⟩, fun h => ⟨⟨h.1, h.2.1⟩, h.2.2⟩⟩
theorem Ex.flat : ∀ e : Ex, noDic e.data = true
  | .num _ => rfl
  | .arg => rfl
  | .cell a => by
    show (true && (noDic a.data && true)) = true
    rw [Ex.flat a]; rfl
  | .add a b => by
    show (true && (noDic a.data && (noDic b.data && true))) = true
    rw [Ex.flat a, Ex.flat b]; rfl
  | .less a b => by
    show (true && (noDic a.data && (noDic b.data && true))) = true
    rw [Ex.flat a, Ex.flat b]; rfl
  | .least a b => by
    show (true && (noDic a.data && (noDic b.data && true))) = true
    rw [Ex.flat a, Ex.flat b]; rfl
theorem Stp.flat (s : Stp) : noDic s.data = true := by
  cases s with
  | cell a b =>
    show (true && (noDic a.data && (noDic b.data && true))) = true
    rw [Ex.flat a, Ex.flat b]; rfl
  | give x a => show (true && (true && (noDic a.data && true))) = true; rw [Ex.flat a]; rfl
  | fork x a => show (true && (true && (noDic a.data && true))) = true; rw [Ex.flat a]; rfl
  | call x a => show (true && (true && (noDic a.data && true))) = true; rw [Ex.flat a]; rfl
  | wait => rfl
  | skip a k => show (true && (noDic a.data && (true && true))) = true; rw [Ex.flat a]; rfl
theorem noDics_of : ∀ {ds : List PyData}, (∀ d ∈ ds, noDic d = true) → noDics ds = true
  | [], _ => rfl
  | d :: ds, h => by
    show (noDic d && noDics ds) = true
    rw [h d (by simp), noDics_of fun e he => h e (List.mem_cons_of_mem _ he)]
    rfl
theorem depthAll_le {n : Nat} : ∀ {ds : List PyData}, (∀ d ∈ ds, d.depth ≤ n) → PyData.depthAll ds ≤ n
  | [], _ => Nat.zero_le _
  | d :: ds, h => by
    have h1 := h d (by simp)
    have h2 := depthAll_le fun e he => h e (List.mem_cons_of_mem d he)
    show max d.depth (PyData.depthAll ds) ≤ n
    omega
end
section
theorem cpow {i j : Int} (m : Nat) (h : i.natAbs < 2 ^ m) (h0 : 0 ≤ j) (h1 : (m : Int) * j ≤ 2 ^ 27) : CPowW i j := by
  refine ⟨h0, ?_⟩
  have b := PySem.intBits_le_iff.mpr h
  have : (Builtin.Int.intBits i : Int) * j ≤ (m : Int) * j := Int.mul_le_mul_of_nonneg_right (by omega) h0
  omega
theorem cdivS {i j : Int} (h : 0 < j) (h' : j < 10 ^ 30) : CDivW i j := wide_div (b := 100) h (by omega) (by decide) (by decide)
def oMulW : R2 := rI CMulW fun i j => .int (i * j)
theorem p_mulW {X : Cx} : OpR X (binaryOp .Mult) oMulW := op_mulW
theorem w_mulW {i j : Int} {H : Hp} {Q : VK} (h : CMulW i j) (q : Q (.int (i * j)) H) : oMulW (.int i) (.int j) H Q := ⟨i, j, rfl, rfl, h, q⟩
end
section
def low (x : Str) : Prop := ∀ c ∈ x.cps.toList, isLow c = true
theorem low_append {x y : Str} (hx : low x) (hy : low y) : low (x ++ y) := by
  intro c h
  have e : (x ++ y).cps.toList = x.cps.toList ++ y.cps.toList := Array.toList_append
  rw [e] at h
  rcases List.mem_append.mp h with h | h
  · exact hx c h
  · exact hy c h
theorem len_append (x y : Str) : (x ++ y).length = x.length + y.length := Array.size_append
theorem len_one (c : Nat) : (Str.mk #[c]).length = 1 := rfl
theorem low_one {c : Nat} (h : isLow c = true) : low ⟨#[c]⟩ := by
  intro d hd
  have : d = c := by simpa using hd
  rw [this]
  exact h
theorem low_cut {x : Str} (lo hi : Option Int) (hx : low x) : low (cutS x lo hi) := by
  intro c h
  unfold cutS at h
  have h : c ∈ (x.cps.toList.drop (HT.sIx x.length 0 lo)).take (HT.sIx x.length x.length hi - HT.sIx x.length 0 lo) := by simpa using h
  exact hx c (List.mem_of_mem_drop (List.mem_of_mem_take h))
theorem len_cut (x : Str) (lo hi : Option Int) : (cutS x lo hi).length = min (HT.sIx x.length x.length hi - HT.sIx x.length 0 lo) (x.length - HT.sIx x.length 0 lo) := by
  unfold cutS
  show ((x.cps.toList.drop _).take _).toArray.size = _
  rw [List.size_toArray, List.length_take, List.length_drop]
  rfl
theorem sIx_i {n d : Nat} {i : Int} (h : 0 ≤ i) : HT.sIx n d (some i) = min i.toNat n := by
  have e : ((i.toNat : Nat) : Int) = i := by omega
  rw [← HT.sIx_nat n d i.toNat, e]
theorem nameS_of {x : Str} (h1 : 1 ≤ x.length) (h2 : x.length ≤ 8) (h3 : low x) : nameS x = true := nameS_iff.mpr ⟨h1, h2, h3⟩
theorem letters_len : letters.cps.toList.length = 26 := by decide +kernel
theorem letter_at {v : Int} (h0 : 0 ≤ v) (h1 : v < 26) : ∃ c, atI (Str.ofString "abcdefghijklmnopqrstuvwxyz").cps.toList v = some c ∧ isLow c = true := by
  obtain ⟨c, e, h⟩ := atD (xs := letters.cps.toList) h0 (by rw [letters_len]; exact h1)
  exact ⟨c, e, decide_eq_true h⟩
theorem sum_ones {ys : List Str} (h : ∀ y ∈ ys, y.length = 1) : (ys.map (·.length)).sum = ys.length := by
  induction ys with
  | nil => rfl
  | cons y r ih =>
    rw [List.map_cons, List.sum_cons, ih fun z hz => h z (List.mem_cons_of_mem _ hz), h y (by simp), List.length_cons]
    omega
theorem join_ones {ys : List Str} (h : ∀ y ∈ ys, y.length = 1 ∧ low y) : (Txt.join "" ys).length = ys.length ∧ low (Txt.join "" ys) := by
  rw [TL.join_eq]
  have e0 : TL.tl (Str.ofString "") = [] := by decide +kernel
  have key : ∀ zs : List Str, (∀ y ∈ zs, y.length = 1 ∧ low y) → (TL.joinL [] (zs.map TL.tl)).length = zs.length ∧ ∀ c ∈ TL.joinL [] (zs.map TL.tl), isLow c = true := by
    intro zs
    induction zs with
    | nil => intro _; exact ⟨rfl, fun c h => by cases h⟩
    | cons y r ih =>
      intro h
      have hy := h y (by simp)
      have hr := ih fun z hz => h z (List.mem_cons_of_mem _ hz)
      have hl : (TL.tl y).length = 1 := hy.1
      cases r with
      | nil => exact ⟨hl, hy.2⟩
      | cons z r =>
        have e : TL.joinL [] ((y :: z :: r).map TL.tl) = TL.tl y ++ TL.joinL [] ((z :: r).map TL.tl) := rfl
        rw [e]
        refine ⟨by rw [List.length_append, hr.1, hl, List.length_cons (a := y)]; omega, fun c hc => ?_⟩
        rcases List.mem_append.mp hc with hc | hc
        · exact hy.2 c hc
        · exact hr.2 c hc
  have k := key ys h
  have e : TL.tl (Str.join "" ys) = TL.joinL [] (ys.map TL.tl) := by rw [TL.tl_join, e0]
  refine ⟨?_, fun c hc => k.2 c (by rw [← e]; exact hc)⟩
  rw [← k.1, ← e]
  rfl
theorem cutS_le (x : Str) (lo hi : Option Int) : (cutS x lo hi).length ≤ x.length := by
  rw [len_cut]
  omega
end
section
section
variable {X : Cx} {pins : List (Addr × Obj)} {σ : L2.St} {H : Hp} {s : Shared}
def oNeE : R2 := fun x y H Q => ∃ (p q : Addr) (xs : List V), x = .ref p ∧ y = .ref q ∧ H p = some (.lst xs) ∧ H q = some (.lst []) ∧ Q (.bl (!xs.isEmpty)) H
theorem p_neE (hu : X.A.units + 64 < cLine) : OpR X (compareOp .NotEq) oNeE := by
  intro pins s σ H x y v u Q I rx ry h
  obtain ⟨p, q, xs, rfl, rfl, h1, h2, hq⟩ := h
  cases (show v = Value.ref p from rx)
  cases (show u = Value.ref q from ry)
  have hu0 : X.A.units < cLine := by omega
  obtain ⟨i1, r1, l1⟩ := lstAt I h1
  obtain ⟨i2, r2, l2⟩ := lstAt I h2
  cases r2
  cases r1 with
  | nil => exact (SeqAt.RcNeAt.lists (e := fun _ => true) l1 l2 rfl hu0 fun j h1 h2 => absurd h1 (by simp)) X.prog X.w X.xe _ ⟨.bl false, H, I, rfl, hq⟩
  | cons a b => exact (SeqAt.RcNeAt.lists_lengths l1 l2 (by simp) hu0) X.prog X.w X.xe _ ⟨.bl true, H, I, rfl, hq⟩
theorem w_neE {Q : VK} {p q : Addr} {xs : List V} (h1 : H p = some (.lst xs)) (h2 : H q = some (.lst [])) (k : Q (.bl (!xs.isEmpty)) H) : oNeE (.ref p) (.ref q) H Q := ⟨p, q, xs, rfl, rfl, h1, h2, k⟩
end
end
end Fg
namespace Fg
open PySem PySem.Spec PyProof.Rows L2
local macro_rules | `(tactic| walk_at "hp") => `(tactic| first
  | assumption
  | exact upd_same
  | (refine Chg.at (by assumption) ?_; walk_at "hp")
  | (refine Chg.at1 (by assumption) ?_ (by walk_at "ne"); walk_at "hp"))
local macro_rules | `(tactic| walk_at "ne") => `(tactic| first | assumption | (apply Ne.symm; assumption))
local macro_rules | `(tactic| walk_at "sq") => `(tactic| first | assumption | exact sqL (by walk_at "hp") | (refine Chg.seq (by assumption) ?_; walk_at "sq"))
local macro_rules | `(tactic| walk_at "sz") => `(tactic| first | assumption | exact Nat.zero_le _ | (simp only [List.length_cons, List.length_nil]; decide) | exact Nat.le_trans (by first | omega | (simp; done) | (simp; omega)) (show 100000 ≤ sizeLine by decide) | exact Nat.lt_of_lt_of_le (by first | omega | (simp; done) | (simp; omega)) (show 100000 ≤ sizeLine by decide))
local macro_rules | `(tactic| walk_at "ix") => `(tactic| first | exact at0 | exact at1 | exact at2 | exact at3 | assumption | exact rfl | walk_at "ix2")
local macro_rules | `(tactic| walk_at "ix2") => `(tactic| fail)
local macro_rules | `(tactic| walk_at "num") => `(tactic| first | assumption | omega | decide | walk_at "num2")
local macro_rules | `(tactic| walk_at "num2") => `(tactic| fail)
local macro_rules | `(tactic| walk_at "im") => `(tactic| first | assumption | exact R.non (S := fun _ => False) | exact R.bl (S := fun _ => False) _ | exact R.int (S := fun _ => False) _ | exact R.str (S := fun _ => False) _ | (refine R.im (by assumption) ?_; walk_at "im"))
local macro_rules | `(tactic| walk_at "r") => `(tactic| first | assumption | exact R.non (S := fun _ => False) | exact R.bl (S := fun _ => False) _ | exact R.int (S := fun _ => False) _ | exact R.str (S := fun _ => False) _ | (refine R.same (by assumption) ?_; walk_at "r") | exact R.any (by walk_at "im"))
local macro_rules | `(tactic| walk_at "chg") => `(tactic| first
  | exact Chg.refl
  | assumption
  | (refine Chg.same ?_ (by assumption); walk_at "chg")
  | (refine Chg.both ?_ (by assumption); walk_at "chg")
  | (refine Chg.pre (by assumption) ?_; walk_at "chg"))
local macro_rules | `(tactic| walk_at "w1") => `(tactic| first
  | with_reducible apply w_seq
  | with_reducible apply w_asg
  | ((with_reducible apply w_var); (focus (exact rfl)))
  | with_reducible apply w_c
  | with_reducible apply w_op
  | with_reducible apply w_cons
  | with_reducible apply w_nil
  | with_reducible apply w_gName
  | with_reducible apply w_if
  | with_reducible apply w_test
  | with_reducible apply w_B
  | with_reducible apply w_isbl
  | with_reducible apply w_retN
  | with_reducible apply w_next
  | with_reducible apply w_drop
  | with_reducible apply w_cb
  | with_reducible apply w_call
  | with_reducible apply w_callN
  | with_reducible apply w_bm
  | with_reducible apply w_bm0
  | ((with_reducible apply w_tyL); (focus (walk_at "hp"; done)))
  | with_reducible apply w_dput
  | with_reducible apply w_m1
  | with_reducible apply w_isstr
  | with_reducible apply w_and
  | with_reducible apply w_or
  | with_reducible apply w_not
  | with_reducible apply w_andV
  | with_reducible apply w_orV
  | with_reducible apply w_notV
  | with_reducible apply w_ifE
  | with_reducible apply w_chain
  | with_reducible apply w_un
  | with_reducible apply w_neg
  | with_reducible apply w_add
  | with_reducible apply w_sub
  | ((with_reducible apply w_mod); (focus (walk_at "num"; done)))
  | ((with_reducible apply w_mul); (focus (walk_at "num"; done)))
  | ((with_reducible apply w_fdiv); (focus (walk_at "num"; done)))
  | ((with_reducible apply w_pow); (focus (walk_at "num"; done)))
  | with_reducible apply w_lt
  | with_reducible apply w_le
  | with_reducible apply w_gt
  | with_reducible apply w_ge
  | with_reducible apply w_ltS
  | with_reducible apply w_geS
  | with_reducible apply w_inC
  | with_reducible apply w_notInC
  | with_reducible apply w_isN
  | with_reducible apply w_notN
  | with_reducible apply w_isB
  | with_reducible apply w_notB
  | ((with_reducible apply w_addS); (focus (walk_at "sz"; done)))
  | ((with_reducible apply w_ixL); (focus (walk_at "sq"; done)); (focus (walk_at "ix"; done)))
  | ((with_reducible apply w_ixT); (focus (walk_at "hp"; done)); (focus (walk_at "ix"; done)))
  | ((with_reducible apply w_ixS); (focus (walk_at "sz"; done)); (focus (walk_at "ix"; done)))
  | with_reducible apply w_gSub
  | ((with_reducible apply w_gTup); (focus (walk_at "hp"; done)); (focus (exact rfl)))
  | with_reducible apply w_gCons
  | with_reducible apply w_gNil
  | ((with_reducible apply w_aug); (focus (exact rfl)))
  | with_reducible apply w_ipI
  | ((with_reducible apply w_eq); (focus (exact rfl)))
  | ((with_reducible apply w_ne); (focus (exact rfl)))
  | with_reducible apply w_max
  | with_reducible apply w_min
  | with_reducible apply w_abs
  | with_reducible apply w_intB
  | with_reducible apply w_intI
  | with_reducible apply w_tup1
  | with_reducible apply w_lst1
  | with_reducible apply w_sl
  | with_reducible apply w_part
  | with_reducible apply w_noPart
  | with_reducible apply w_isint
  | ((with_reducible apply w_slS); (focus (walk_at "sz"; done)))
  | with_reducible apply w_iteT
  | with_reducible apply w_iteF
  | with_reducible apply w_iteN
  | ((with_reducible apply w_iteYes); (focus (exact rfl)))
  | ((with_reducible apply w_iteNo); (focus (exact rfl)))
  | ((with_reducible apply w_lenL); (focus (walk_at "sq"; done)))
  | ((with_reducible apply w_lenT); (focus (walk_at "hp"; done)))
  | ((with_reducible apply w_lenS); (focus (walk_at "sz"; done)))
  | with_reducible apply w_lc
  | with_reducible apply w_for
  | with_reducible apply w_yes
  | ((with_reducible apply w_wipe); (focus (exact rfl)))
  | with_reducible apply w_iList
  | with_reducible apply w_iTup
  | with_reducible apply w_iStr
  | with_reducible apply w_iRng1
  | with_reducible apply w_iRng2
  | with_reducible apply w_iZip
  | with_reducible apply w_iEnum
  | ((with_reducible apply d_iList); (focus (walk_at "sq"; done)))
  | ((with_reducible apply d_iTup); (focus (walk_at "hp"; done)))
  | with_reducible apply d_iStr
  | ((with_reducible apply d_iRng1); (focus (walk_at "num"; done)); (focus (walk_at "num"; done)))
  | ((with_reducible apply d_iRng2); (focus (walk_at "num"; done)); (focus (walk_at "num"; done)); (focus (walk_at "num"; done)); (focus (walk_at "num"; done)))
  | ((with_reducible apply d_iZip); (focus (walk_at "sq"; done)); (focus (walk_at "sq"; done)))
  | ((with_reducible apply d_iEnum); (focus (walk_at "sq"; done)))
  | walk_at "w2")
local macro_rules | `(tactic| walk_at "w2") => `(tactic| fail)
local macro_rules | `(tactic| walk_at "wn") => `(tactic| repeat walk_at "w1")
local macro_rules | `(tactic| walk_at "w") => `(tactic| repeat (first | walk_at "w1" | with_reducible apply w_ret))
section
def sp__law_stir : Sp := fun vs H Q _ => ∃ s t : Int, vs = [.int s, .int t] ∧ 0 ≤ s ∧ s < 2 ^ 170 ∧ 0 ≤ t ∧ t ≤ 10 ^ 13 ∧ ∀ v : Int, 0 ≤ v → Q (.int v) H
def t__law_stir  : TS :=
    tSeq (tAsg (tOp oAdd (tOp oMulW (tOp oAdd (tVar 0) (tC (.int 1))) (tC (.int 71930448200000000000000069))) (tOp oMulW (tOp oAdd (tVar 1) (tC (.int 1))) (tC (.int 3390127700000000000000000047)))) (gName 2))
    (tRet (tOp oMod (tOp oPow (tVar 2) (tC (.int 5))) (tC (.int 8120660900000000000000000000000000000000071))))
theorem pure__law_stir {K : PySem.W.Frag} (vs : List V) (H : Hp) (Q : VK) (E : XK) (h : sp__law_stir vs H Q E) : t__law_stir (fin Q) (start ["seed", "turn", "number"] vs) H := by
  obtain ⟨s, t, rfl, s0, s1, t0, t1, q⟩ := h
  show t__law_stir _ [some (.int s), some (.int t), none] H
  unfold t__law_stir
  walk_at "w"
  refine w_mulW (wide_mul (a := 171) (b := 100) (by omega) (by decide) (by decide) (by decide) (by decide)) ?_
  walk_at "w"
  refine w_mulW (wide_mul (a := 100) (b := 100) (by omega) (by decide) (by decide) (by decide) (by decide)) ?_
  walk_at "w"
  have b1 : (s + 1) * 71930448200000000000000069 < 2 ^ 300 := by omega
  have b2 : (t + 1) * 3390127700000000000000000047 < 2 ^ 300 := by omega
  refine w_pow (cpow 400 (by omega) (by decide) (by decide)) ?_
  walk_at "w"
  exact q _ (Int.emod_nonneg _ (by decide))
/-- the law's well, n draws may follow -/
def Well (H : Hp) (b : Addr) (n : Nat) : Prop := ∃ x y z : Int, H b = some (.lst [.int x, .int y, .int z]) ∧ 0 ≤ x ∧ 0 ≤ y ∧ y < 2 ^ 170 ∧ 0 ≤ z ∧ z + n ≤ 10 ^ 12
theorem Well.keep {M : List Addr} {H H' : Hp} {b : Addr} {n : Nat} (h : Well H b n) (c : Chg M H H') (hb : b ∉ M) : Well H' b n := by
  obtain ⟨x, y, z, e, r⟩ := h
  exact ⟨x, y, z, c.keep _ _ e hb, r⟩
theorem Well.same {H H' : Hp} {b : Addr} {n : Nat} (h : Well H b n) (c : Chg [] H H') : Well H' b n := h.keep c (by simp)
theorem Well.one {H H' : Hp} {b p : Addr} {n : Nat} (h : Well H b n) (c : Chg [p] H H') (e : b ≠ p) : Well H' b n := h.keep c (by simpa using e)
theorem Well.ne {H : Hp} {b p : Addr} {n : Nat} (h : Well H b n) (e : H p = none) : b ≠ p := by
  obtain ⟨x, y, z, h, _⟩ := h
  exact ne_of_none h e
theorem Well.some {H : Hp} {b : Addr} {n : Nat} (h : Well H b n) : H b ≠ none := by
  obtain ⟨x, y, z, h, _⟩ := h
  rw [h]
  exact fun z => nomatch z
theorem Well.le {H : Hp} {b : Addr} {n m : Nat} (h : Well H b n) (e : m ≤ n) : Well H b m := by
  obtain ⟨x, y, z, h, x0, y0, y1, z0, z1⟩ := h
  exact ⟨x, y, z, h, x0, y0, y1, z0, by omega⟩
def sp__law_well : Sp := fun vs H Q _ => ∃ c k : Int, vs = [.int c, .int k] ∧ 0 ≤ k ∧ k ≤ 1000 ∧ ∀ b H', H b = none → Chg [] H H' → Well H' b (10 ^ 12) → Q (.ref b) H'
def t__law_well  : TS :=
    tSeq (tAsg (tOp oAdd (tOp oMul (tOp oMod (tVar 0) (tC (.int 8120660900000000000000000000000000000000071))) (tC (.int 128))) (tVar 1)) (gName 2))
    (tSeq (tIfS (tTest (tOp oGe (tVar 0) (tOp oPow (tC (.int 10)) (tC (.int 18))))) (tRet (tLst (tCons (tOp oSub (tVar 0) (tOp oPow (tC (.int 10)) (tC (.int 18)))) (tCons (tVar 2) (tCons (tC (.int 0)) (tNil)))))) (tNext))
    (tRet (tLst (tCons (tCall sp__law_stir [] E0 (tCons (tVar 2) (tCons (tC (.int 0)) (tNil)))) (tCons (tVar 2) (tCons (tC (.int 0)) (tNil)))))))
theorem pure__law_well {K : PySem.W.Frag} (vs : List V) (H : Hp) (Q : VK) (E : XK) (h : sp__law_well vs H Q E) : t__law_well (fin Q) (start ["cell", "k", "seed"] vs) H := by
  obtain ⟨c, k, rfl, k0, k1, q⟩ := h
  show t__law_well _ [some (.int c), some (.int k), none] H
  unfold t__law_well
  have e0 := Int.emod_nonneg c (b := 8120660900000000000000000000000000000000071) (by decide)
  have e1 := Int.emod_lt_of_pos c (b := 8120660900000000000000000000000000000000071) (by decide)
  walk_at "w"
  refine w_mul (.inr ⟨by decide, by decide⟩) ?_
  walk_at "w"
  refine w_pow (cpow 4 (by decide) (by decide) (by decide)) ?_
  walk_at "w"
  refine w_iteD (fun h => ?_) (fun h => ?_)
  · walk_at "w"
    refine w_pow (cpow 4 (by decide) (by decide) (by decide)) ?_
    walk_at "w"
    refine k_lst (by walk_at "sz") fun b H1 nb c1 hb => ?_
    exact q b H1 nb c1 ⟨_, _, _, hb, by omega, by omega, by omega, by omega, by omega⟩
  · walk_at "w"
    refine ⟨_, _, rfl, by omega, by omega, by decide, by decide, fun v hv => ?_⟩
    walk_at "w"
    refine k_lst (by walk_at "sz") fun b H1 nb c1 hb => ?_
    exact q b H1 nb c1 ⟨_, _, _, hb, by omega, by omega, by omega, by omega, by omega⟩
def sp__law_draw : Sp := fun vs H Q _ => ∃ (b : Addr) (m : Int) (n : Nat), vs = [.ref b, .int m] ∧ Well H b n ∧ 1 ≤ n ∧ 0 < m ∧ m < 10 ^ 30 ∧ ∀ (v : Int) (H' : Hp), Chg [b] H H' → Well H' b (n - 1) → 0 ≤ v → v < m → Q (.int v) H'
theorem u_draw {H : Hp} {Q : VK} {E : XK} {b : Addr} {m : Int} {n : Nat} (hb : Well H b n) (hn : 1 ≤ n) (h0 : 0 < m) (h1 : m < 10 ^ 30) (q : ∀ (v : Int) (H' : Hp), Chg [b] H H' → Well H' b (n - 1) → 0 ≤ v → v < m → Q (.int v) H') : sp__law_draw ([.ref b, .int m] ++ []) H Q E := ⟨b, m, n, rfl, hb, hn, h0, h1, q⟩
def t__law_draw (K : PySem.W.Frag) : TS :=
    tSeq (tIfS (tTest (tOp rEq (tOp (rIxL K) (tVar 0) (tC (.int 0))) (tC (.int 0)))) (tSeq (tAsg (tOp oAdd (tOp (rIxL K) (tVar 0) (tC (.int 2))) (tC (.int 1))) (gSub (tVar 0) (tC (.int 2)) rSetL))
    (tAsg (tCall sp__law_stir [] E0 (tCons (tOp (rIxL K) (tVar 0) (tC (.int 1))) (tCons (tOp (rIxL K) (tVar 0) (tC (.int 2))) (tNil)))) (gSub (tVar 0) (tC (.int 0)) rSetL))) (tNext))
    (tSeq (tAsg (tOp oMod (tOp (rIxL K) (tVar 0) (tC (.int 0))) (tVar 1)) (gName 2))
    (tSeq (tAsg (tOp oFdiv (tOp (rIxL K) (tVar 0) (tC (.int 0))) (tVar 1)) (gSub (tVar 0) (tC (.int 0)) rSetL))
    (tRet (tVar 2))))
theorem pure__law_draw {K : PySem.W.Frag} (vs : List V) (H : Hp) (Q : VK) (E : XK) (h : sp__law_draw vs H Q E) : t__law_draw K (fin Q) (start ["well", "many", "taken"] vs) H := by
  obtain ⟨b, m, n, rfl, ⟨x, y, z, hb, x0, y0, y1, z0, z1⟩, n1, m0, m1, q⟩ := h
  show t__law_draw K _ [some (.ref b), some (.int m), none] H
  unfold t__law_draw
  have rest : ∀ (H1 : Hp) (x' z' : Int), Chg [b] H H1 → H1 b = some (.lst [.int x', .int y, .int z']) → 0 ≤ x' → 0 ≤ z' → z' + (n - 1 : Nat) ≤ 10 ^ 12 →
      tSeq (tAsg (tOp oMod (tOp (rIxL K) (tVar 0) (tC (.int 0))) (tVar 1)) (gName 2)) (tSeq (tAsg (tOp oFdiv (tOp (rIxL K) (tVar 0) (tC (.int 0))) (tVar 1)) (gSub (tVar 0) (tC (.int 0)) rSetL)) (tRet (tVar 2))) (fin Q) [some (.ref b), some (.int m), none] H1 := fun H1 x' z' c1 h1 p0 p1 p2 => by
    walk_at "w"
    refine w_fdiv (cdivS m0 m1) ?_
    walk_at "w"
    refine w_setL h1 rfl fun H2 c2 h2 => ?_
    walk_at "w"
    exact q _ H2 (c1.both c2) ⟨_, _, _, h2, Int.ediv_nonneg p0 (by omega), y0, y1, p1, p2⟩ (Int.emod_nonneg _ (by omega)) (Int.emod_lt_of_pos _ m0)
  generalize hS : (tSeq (tAsg (tOp oMod (tOp (rIxL K) (tVar 0) (tC (.int 0))) (tVar 1)) (gName 2)) (tSeq (tAsg (tOp oFdiv (tOp (rIxL K) (tVar 0) (tC (.int 0))) (tVar 1)) (gSub (tVar 0) (tC (.int 0)) rSetL)) (tRet (tVar 2))) : TS) = suf at rest
  walk_at "w"
  refine w_iteD (fun h => ?_) (fun h => ?_)
  · walk_at "w"
    refine w_setL hb rfl fun H1 c1 h1 => ?_
    have h1' : H1 b = some (HO.lst [V.int x, V.int y, V.int (z + 1)]) := h1
    clear h1
    walk_at "w"
    refine ⟨y, z + 1, rfl, y0, y1, by omega, by omega, fun v hv => ?_⟩
    walk_at "w"
    refine w_setL h1' rfl fun H2 c2 h2 => ?_
    exact rest H2 v (z + 1) (c1.both c2) h2 hv (by omega) (by omega)
  · refine w_next ?_
    exact rest H x z .refl hb x0 z0 (by omega)
def sp__law_cell_at (K : PySem.W.Frag) : Sp := fun vs H Q _ => ∃ (a : Addr) (ns : List Int) (k : Int), vs = [.ref a, .int k] ∧ SqL K H a (ns.map V.int) ∧ 0 ≤ k ∧ ∀ v : Int, Q (.int v) H
def t__law_cell_at (K : PySem.W.Frag) : TS :=
    tSeq (tIfS (tTest (tOp oLt (tVar 1) (tCB (cLenQ K) (tCons (tVar 0) (tNil))))) (tRet (tOp (rIxL K) (tVar 0) (tVar 1))) (tNext))
    (tRet (tC (.int 0)))
theorem pure__law_cell_at {K : PySem.W.Frag} (vs : List V) (H : Hp) (Q : VK) (E : XK) (h : sp__law_cell_at K vs H Q E) : t__law_cell_at K (fin Q) (start ["script", "k"] vs) H := by
  obtain ⟨a, ns, k, rfl, hs, k0, q⟩ := h
  show t__law_cell_at K _ [some (.ref a), some (.int k)] H
  unfold t__law_cell_at
  walk_at "w"
  refine w_iteD (fun h => ?_) (fun h => ?_)
  · rw [List.length_map] at h
    obtain ⟨v, ev, hv⟩ := atD (xs := ns.map V.int) k0 (by rw [List.length_map]; exact h)
    obtain ⟨n, _, rfl⟩ := List.mem_map.mp hv
    walk_at "w"
    exact q n
  · walk_at "w"
    exact q 0
def sp__law_number : Sp := fun vs H Q _ => ∃ (b : Addr) (n : Nat), vs = [.ref b] ∧ Well H b n ∧ 2 ≤ n ∧ ∀ (v : Int) (H' : Hp), Chg [b] H H' → Well H' b (n - 2) → -(10 ^ 20) ≤ v → v ≤ 10 ^ 20 → Q (.int v) H'
def t__law_number  : TS :=
    tSeq (tAsg (tCall sp__law_draw [] E0 (tCons (tVar 0) (tCons (tC (.int 9)) (tNil)))) (gName 1))
    (tSeq (tIfS (tTest (tOp oLt (tVar 1) (tC (.int 6)))) (tRet (tCall sp__law_draw [] E0 (tCons (tVar 0) (tCons (tC (.int 4)) (tNil))))) (tNext))
    (tSeq (tIfS (tTest (tOp oLt (tVar 1) (tC (.int 8)))) (tRet (tOp oSub (tCall sp__law_draw [] E0 (tCons (tVar 0) (tCons (tC (.int 13)) (tNil)))) (tC (.int 6)))) (tNext))
    (tRet (tOp oAdd (tOp oSub (tCall sp__law_draw [] E0 (tCons (tVar 0) (tCons (tOp oSub (tOp oMul (tC (.int 2)) (tOp oPow (tC (.int 10)) (tC (.int 20)))) (tC (.int 1))) (tNil)))) (tOp oPow (tC (.int 10)) (tC (.int 20)))) (tC (.int 1))))))
theorem pure__law_number {K : PySem.W.Frag} (vs : List V) (H : Hp) (Q : VK) (E : XK) (h : sp__law_number vs H Q E) : t__law_number (fin Q) (start ["well", "pick"] vs) H := by
  obtain ⟨b, n, rfl, bag, hn, q⟩ := h
  show t__law_number _ [some (.ref b), none] H
  unfold t__law_number
  walk_at "w"
  refine u_draw bag (by omega) (by decide) (by decide) fun v H1 c1 bag1 v0 v1 => ?_
  walk_at "w"
  refine w_iteD (fun h => ?_) (fun h => ?_)
  · walk_at "w"
    refine u_draw bag1 (by omega) (by decide) (by decide) fun u H2 c2 bag2 u0 u1 => ?_
    exact q _ H2 (c1.both c2) (bag2.le (by omega)) (by omega) (by omega)
  walk_at "w"
  refine w_iteD (fun h' => ?_) (fun h' => ?_)
  · walk_at "w"
    refine u_draw bag1 (by omega) (by decide) (by decide) fun u H2 c2 bag2 u0 u1 => ?_
    walk_at "w"
    exact q _ H2 (c1.both c2) (bag2.le (by omega)) (by omega) (by omega)
  walk_at "w"
  refine w_pow (cpow 4 (by decide) (by decide) (by decide)) ?_
  walk_at "w"
  refine w_mul (.inl ⟨by decide, by decide⟩) ?_
  walk_at "w"
  have e20 : (10 : Int) ^ Int.toNat 20 = 100000000000000000000 := by decide
  rw [e20]
  refine u_draw bag1 (by omega) (by decide) (by decide) fun u H2 c2 bag2 u0 u1 => ?_
  walk_at "w"
  refine w_pow (cpow 4 (by decide) (by decide) (by decide)) ?_
  walk_at "w"
  rw [e20]
  exact q _ H2 (c1.both c2) (bag2.le (by omega)) (by omega) (by omega)
end
section
theorem cut_from (xs : List V) (k : Nat) : cutV xs (some (k : Nat)) none = xs.drop k := by
  unfold cutV
  rw [HT.sIx_nat, HT.sIx_none]
  rw [List.take_of_length_le (by rw [List.length_drop]; omega)]
  rcases Nat.le_total k xs.length with h | h
  · rw [Nat.min_eq_left h]
  · rw [Nat.min_eq_right h, List.drop_eq_nil_of_le (Nat.le_refl _), List.drop_eq_nil_of_le h]
theorem cut_to (xs : List V) (k : Nat) : cutV xs none (some (k : Nat)) = xs.take k := by
  unfold cutV
  rw [HT.sIx_nat, HT.sIx_none, List.drop_zero, Nat.sub_zero]
  rcases Nat.le_total k xs.length with h | h
  · rw [Nat.min_eq_left h]
  · rw [Nat.min_eq_right h, List.take_of_length_le (Nat.le_refl _), List.take_of_length_le h]
theorem w_cat {l b : Addr} {xs zs : List V} {H : Hp} {Q : VK} (h1 : H l = some (.lst xs)) (h2 : H b = some (.lst zs)) (hz : xs.length + zs.length ≤ 100000) (q : ∀ p H2, H p = none → Chg [] H H2 → H2 p = some (.lst (xs ++ zs)) → Q (.ref p) H2) : rCat (.ref l) (.ref b) H Q :=
  ⟨l, b, xs, zs, rfl, rfl, h1, h2, Nat.le_trans hz (by decide), fun p np => q p _ np (.new np) upd_same⟩
end
section
def LfP (H : Hp) (M : List Addr) (D : Addr) (Ac : Nat → List V → Prop) (i : Nat) : Hp → Prop := fun H5 => ∃ acc, acc.length ≤ i ∧ H5 D = some (.lst acc) ∧ Chg M H H5 ∧ Ac i acc
def LfK (H : Hp) (M : List Addr) (D : Addr) (Ac : Nat → List V → Prop) (i : Nat) : VK := fun y H4 => ∃ acc, H4 D = some (.lst acc) ∧ acc.length < sizeLine ∧ LfP H M D Ac (i + 1) (upd H4 D (.lst (acc ++ [y])))
theorem lf_yes {H H4 : Hp} {M : List Addr} {D : Addr} {Ac : Nat → List V → Prop} {i : Nat} {acc : List V} {y : V} (nD : H D = none) (h : H4 D = some (.lst acc)) (hl : acc.length ≤ i) (hz : i ≤ 100000) (c : Chg M H H4) (q : Ac (i + 1) (acc ++ [y])) : LfK H M D Ac i y H4 :=
  ⟨acc, h, Nat.lt_of_le_of_lt (Nat.le_trans hl hz) (by decide), acc ++ [y], by rw [List.length_append, List.length_singleton]; omega, upd_same, c.go (Chg.mut h fun _ e => nomatch e) fun a ha => .inr (by rw [List.mem_singleton.mp ha]; exact nD), q⟩
theorem lf_no {H H4 : Hp} {M : List Addr} {D : Addr} {Ac : Nat → List V → Prop} {i : Nat} {acc : List V} (h : H4 D = some (.lst acc)) (hl : acc.length ≤ i) (c : Chg M H H4) (q : Ac (i + 1) acc) : LfP H M D Ac (i + 1) H4 := ⟨acc, by omega, h, c, q⟩
theorem w_lcF {J : It} {n : Nat} {G : Hp → Prop} {Y : Nat → Hp → V → Hp → Prop} {g : TG} {te : TE} {tt : TT} {vs : List Nat} {σ : L2.St} {H : Hp} {Q : Addr → Hp → Prop} (w : L2.Walk J n G Y) (M : List Addr) (Ac : Nat → List V → Prop)
    (h0 : Ac 0 []) (hG : ∀ H1, Chg M H H1 → G H1)
    (hs : ∀ D i acc x H1 H2, i < n → H D = none → H1 D = some (.lst acc) → acc.length ≤ i → Ac i acc → Chg M H H1 → Y i H1 x H2 → g x (wipe σ vs) H2 fun σ2 H3 => wipe σ2 vs = wipe σ vs ∧
      tt σ2 H3 fun b H3 => if b = true then te σ2 H3 (LfK H M D Ac i) else LfP H M D Ac (i + 1) H3)
    (hd : ∀ D acc H1, H D = none → Chg M H H1 → acc.length ≤ n → H1 D = some (.lst acc) → Ac n acc → Q D H1) :
    ∀ D, H D = none → ∃ W : Nat → Nat → Hp → Prop, (∃ m, W 0 m (upd H D (.lst []))) ∧ ∀ i m H, W i m H →
      (J.stop i H ∧ Q D H) ∨ (J.go i H ∧ ∃ Nx : Hp → Prop, (∀ H', Nx H' → ∃ m', m' < m ∧ W (i + 1) m' H') ∧ ∀ x H', J.yld i H x H' → g x (wipe σ vs) H' fun σ2 H2 => wipe σ2 vs = wipe σ vs ∧ tt σ2 H2 fun b H3 =>
        if b = true then te σ2 H3 fun y H4 => ∃ acc, H4 D = some (.lst acc) ∧ acc.length < sizeLine ∧ Nx (upd H4 D (.lst (acc ++ [y]))) else Nx H3) := by
  intro D nD
  refine lc_it w (Qd := fun H => Q D H) (LfP H M D Ac) ⟨[], Nat.le_refl _, upd_same, (Chg.new nD).wide (by simp), h0⟩ (fun i H1 hi ⟨acc, _, _, c, _⟩ => hG H1 c) (fun i x H1 H2 hi hp y => ?_) (fun H1 ⟨acc, e, h, c, q⟩ => hd D acc H1 nD c e h q)
  obtain ⟨acc, e, h, c, q⟩ := hp
  exact hs D i acc x H1 H2 hi nD h e q c y
end
section
theorem few_of {α : Type} [DecidableEq α] : ∀ {xs ys : List α}, xs.Nodup → (∀ x ∈ xs, x ∈ ys) → xs.length ≤ ys.length
  | [], _, _, _ => Nat.zero_le _
  | x :: r, ys, nd, h => by
    obtain ⟨n1, n2⟩ := List.nodup_cons.mp nd
    have hm : x ∈ ys := h x (by simp)
    have : r.length ≤ (ys.erase x).length := few_of n2 fun y hy => (List.mem_erase_of_ne (fun e => n1 (by rw [← e]; exact hy))).mpr (h y (List.mem_cons_of_mem _ hy))
    rw [List.length_erase_of_mem hm] at this
    have := List.length_pos_of_mem hm
    rw [List.length_cons]
    omega
theorem strs_of {P : Str → Prop} : ∀ {acc : List V}, (∀ (i : Nat) y, acc[i]? = some y → ∃ z, y = .str z ∧ P z) → ∃ zs : List Str, acc = zs.map V.str ∧ ∀ z ∈ zs, P z
  | [], _ => ⟨[], rfl, fun z h => by cases h⟩
  | v :: r, h => by
    obtain ⟨z, rfl, hz⟩ := h 0 v rfl
    obtain ⟨zs, e, hs⟩ := strs_of (acc := r) fun i y hy => h (i + 1) y hy
    refine ⟨z :: zs, by rw [e]; rfl, fun y hy => ?_⟩
    rcases List.mem_cons.mp hy with rfl | hy
    · exact hz
    · exact hs y hy
def lt26 : List Str := (List.range 26).map fun k => ⟨#[97 + k]⟩
theorem lt26_nd : lt26.Nodup := by decide +kernel
theorem lt26_ok : ∀ x ∈ lt26, nameS x = true := by decide +kernel
theorem letter_k {i : Nat} (h : i < 26) : atI (Str.ofString "abcdefghijklmnopqrstuvwxyz").cps.toList (0 + (i : Nat)) = some (97 + i) := by
  have e : ∀ i, i < 26 → (Str.ofString "abcdefghijklmnopqrstuvwxyz").cps.toList[i]? = some (97 + i) := by decide +kernel
  rw [Int.zero_add]
  exact atI_nat (e i h)
theorem low_k {i : Nat} (h : i < 26) : isLow (97 + i) = true := by
  have e : ∀ i, i < 26 → isLow (97 + i) = true := by decide +kernel
  exact e i h
def sp__law_new_name (K : PySem.W.Frag) : Sp := fun vs H Q _ => ∃ (b l : Addr) (ns : List Str) (n : Nat), vs = [.ref b, .ref l] ∧ Well H b n ∧ 20 ≤ n ∧ H l = some (.lst (ns.map V.str)) ∧ l ≠ b ∧ ns.length ≤ 20 ∧ (∀ x ∈ ns, nameS x = true) ∧ ∀ (x : Str) (H' : Hp), Chg [b] H H' → Well H' b (n - 20) → nameS x = true → x ∉ ns → Q (.str x) H'
def t__law_new_name (K : PySem.W.Frag) : TS :=
    tSeq (tAsg (tC (.str "abcdefghijklmnopqrstuvwxyz")) (gName 2))
    (tSeq (tAsg (tCall sp__law_draw [] E0 (tCons (tVar 0) (tCons (tC (.int 3)) (tNil)))) (gName 3))
    (tSeq (tAsg (tOp rIxS (tVar 2) (tCall sp__law_draw [] E0 (tCons (tVar 0) (tCons (tC (.int 26)) (tNil))))) (gName 4))
    (tSeq (tAsg (tM1 (mJoin K) (tC (.str "")) (tLc (iRng1 (tCons (tOp oAdd (tC (.int 1)) (tCall sp__law_draw [] E0 (tCons (tVar 0) (tCons (tC (.int 8)) (tNil))))) (tNil))) (gName 9) (tYes) (tOp rIxS (tVar 2) (tCall sp__law_draw [] E0 (tCons (tVar 0) (tCons (tC (.int 26)) (tNil))))) [9])) (gName 5))
    (tSeq (tIfS (tAnd (tTest (tOp oGt (tVar 3) (tC (.int 0)))) (tTest (tOp oNeE (tVar 1) (tLst (tNil))))) (tSeq (tAsg (tOp (rIxL K) (tVar 1) (tCall sp__law_draw [] E0 (tCons (tVar 0) (tCons (tCB (cLenQ K) (tCons (tVar 1) (tNil))) (tNil))))) (gName 6))
    (tSeq (tAsg (tCall sp__law_draw [] E0 (tCons (tVar 0) (tCons (tOp oAdd (tCB cLenS (tCons (tVar 6) (tNil))) (tC (.int 1))) (tNil)))) (gName 7))
    (tAsg (tSl rSlS (tOp oAddS (tOp oAddS (tSl rSlS (tVar 6) (tNoPart) (tPart (tVar 7))) (tVar 4)) (tSl rSlS (tVar 6) (tPart (tOp oSub (tOp oAdd (tVar 7) (tVar 3)) (tC (.int 1)))) (tNoPart))) (tNoPart) (tPart (tC (.int 8)))) (gName 5)))) (tNext))
    (tSeq (tAsg (tOp rCat (tOp rCat (tLst (tCons (tVar 5) (tNil))) (tLc (iRng1 (tCons (tC (.int 26)) (tNil))) (gName 9) (tYes) (tOp rIxS (tVar 2) (tVar 9)) [9])) (tLc (iRng1 (tCons (tC (.int 26)) (tNil))) (gName 9) (tYes) (tOp oAddS (tOp rIxS (tVar 2) (tVar 9)) (tOp rIxS (tVar 2) (tVar 9))) [9])) (gName 8))
    (tRet (tOp (rIxL K) (tLc (iList K (tVar 8)) (gName 10) (tTest (tOp (rIn K true) (tVar 10) (tVar 1))) (tVar 10) [10]) (tC (.int 0)))))))))
theorem pure__law_new_name {K : PySem.W.Frag} (vs : List V) (H : Hp) (Q : VK) (E : XK) (h : sp__law_new_name K vs H Q E) : t__law_new_name K (fin Q) (start ["well", "names", "letters", "pick", "letter", "name", "old", "at", "some", "k", "one"] vs) H := by
  obtain ⟨b, l, ns, n, rfl, bag, hn, hl, lb, ln, okn, q⟩ := h
  show t__law_new_name K _ [some (.ref b), some (.ref l), none, none, none, none, none, none, none, none, none] H
  unfold t__law_new_name
  -- the choice of one that is not there
  have rest : ∀ (H1 : Hp) (name : Str) (y3 y4 y6 y7 y9 y10 : Option V), Chg [b] H H1 → Well H1 b (n - 20) → nameS name = true →
      tSeq (tAsg (tOp rCat (tOp rCat (tLst (tCons (tVar 5) tNil)) (tLc (iRng1 (tCons (tC (.int 26)) tNil)) (gName 9) tYes (tOp rIxS (tVar 2) (tVar 9)) [9])) (tLc (iRng1 (tCons (tC (.int 26)) tNil)) (gName 9) tYes (tOp oAddS (tOp rIxS (tVar 2) (tVar 9)) (tOp rIxS (tVar 2) (tVar 9))) [9])) (gName 8))
        (tRet (tOp (rIxL K) (tLc (iList K (tVar 8)) (gName 10) (tTest (tOp (rIn K true) (tVar 10) (tVar 1))) (tVar 10) [10]) (tC (.int 0)))) (fin Q) [some (.ref b), some (.ref l), some (.str "abcdefghijklmnopqrstuvwxyz"), y3, y4, some (.str name), y6, y7, none, y9, y10] H1 := fun H1 name y3 y4 y6 y7 y9 y10 c1 bag1 okm => by
    walk_at "w"
    refine k_lst (by walk_at "sz") fun p1 H2 np1 c2 hp1 => ?_
    walk_at "w"
    refine w_lcP walk_range [] (fun _ _ => True) (fun i y _ => ∃ z : Str, y = .str z ∧ z = ⟨#[97 + i]⟩) trivial (fun _ _ _ _ _ _ _ => trivial) (fun _ _ => trivial) (fun D i acc z H3 H4 hi nD hD el iv c3 _ y => ?_) (fun D acc H3 nD c3 _ el hD ys => ?_)
    · obtain ⟨rfl, rfl⟩ := y
      have hi' : i < 26 := hi
      walk_at "w"
      refine w_ixS (by decide +kernel) (letter_k hi') ?_
      exact lcp_end (fun _ _ _ _ _ _ _ => trivial) (fun _ _ _ _ _ _ _ h => h) nD (fun a ha => by cases ha) hD el (by omega) iv .refl trivial ⟨_, rfl, rfl⟩
    have e26 : acc = lt26.map V.str := by
      have l26 : acc.length = 26 := el
      apply List.ext_getElem?
      intro i
      by_cases hi : i < 26
      · obtain ⟨z, e1, e2⟩ := ys i acc[i] (List.getElem?_eq_getElem (by omega))
        rw [List.getElem?_eq_getElem (by omega), e1, e2]
        unfold lt26
        rw [List.map_map, List.getElem?_map, List.getElem?_range hi]
        rfl
      · rw [List.getElem?_eq_none (by omega), List.getElem?_eq_none (by rw [List.length_map]; unfold lt26; rw [List.length_map, List.length_range]; omega)]
    subst e26
    refine w_cat (c3.at hp1) hD (by rw [List.length_map]; unfold lt26; simp) fun p4 H4 np4 c4 hp4 => ?_
    walk_at "w"
    refine w_lcP walk_range [] (fun _ _ => True) (fun i y _ => ∃ z : Str, y = .str z ∧ nameS z = true) trivial (fun _ _ _ _ _ _ _ => trivial) (fun _ _ => trivial) (fun D2 i acc2 z H5 H6 hi nD2 hD2 el2 iv2 c5 _ y => ?_) (fun D2 acc2 H5 nD2 c5 _ el2 hD2 ys2 => ?_)
    · obtain ⟨rfl, rfl⟩ := y
      have hi' : i < 26 := hi
      walk_at "w"
      refine w_ixS (by decide +kernel) (letter_k hi') ?_
      walk_at "w"
      refine w_ixS (by decide +kernel) (letter_k hi') ?_
      refine w_addS (by rw [len_one]; decide) ?_
      refine lcp_end (fun _ _ _ _ _ _ _ => trivial) (fun _ _ _ _ _ _ _ h => h) nD2 (fun a ha => by cases ha) hD2 el2 (by omega) iv2 .refl trivial ⟨_, rfl, nameS_of ?_ ?_ (low_append (low_one (low_k hi')) (low_one (low_k hi')))⟩
      · rw [len_append, len_one]; omega
      · rw [len_append, len_one]; omega
    obtain ⟨zs2, rfl, hz2⟩ := strs_of ys2
    have l2 : zs2.length = 26 := by rw [List.length_map] at el2; exact el2
    refine w_cat (c5.at hp4) hD2 (by simp [l2, lt26]) fun p6 H6 np6 c6 hp6 => ?_
    walk_at "w"
    have hp6' : H6 p6 = some (.lst ((([name] ++ lt26) ++ zs2).map V.str)) := by rw [List.map_append, List.map_append]; exact hp6
    have all : ∀ z ∈ ([name] ++ lt26) ++ zs2, nameS z = true := fun z hz => by
      rcases List.mem_append.mp hz with hz | hz
      · rcases List.mem_append.mp hz with hz | hz
        · rw [List.mem_singleton.mp hz]; exact okm
        · exact lt26_ok z hz
      · exact hz2 z hz
    have lall : (([name] ++ lt26) ++ zs2).length ≤ 60 := by simp [l2, lt26]
    have sub : ∀ z ∈ lt26, z ∈ ([name] ++ lt26) ++ zs2 := fun z hz => by simp [hz]
    generalize ([name] ++ lt26) ++ zs2 = zs at hp6' all lall sub
    have c26 : Chg [] H1 H6 := (((c2.same c3).same c4).same c5).same c6
    have hl6 := c26.at (c1.at1 hl lb)
    refine w_lcF (walk_list (K := K) (a := p6) (xs := zs.map V.str)) [] (fun i acc => acc = ((zs.take i).filter fun z => decide (z ∉ ns)).map V.str) rfl (fun H7 c => sqL (c.at hp6')) (fun D3 i acc3 z H7 H8 hi nD3 hD3 el3 ac c7 y => ?_) (fun D3 acc3 H7 nD3 c7 el3 hD3 ac => ?_)
    · obtain ⟨rfl, ex⟩ := y
      rw [List.length_map] at hi
      rw [List.getElem?_map, List.getElem?_eq_getElem hi] at ex
      cases ex
      have et : zs.take (i + 1) = zs.take i ++ [zs[i]] := by rw [List.take_add_one, List.getElem?_eq_getElem hi]; rfl
      generalize zs[i] = x at et ⊢
      have hl7 := c7.at hl6
      walk_at "w"
      refine w_notInL (sqL hl7) rfl (flat_strs ns) ?_
      rw [inV_str]
      walk_at "w"
      refine w_iteD (fun hin => ?_) (fun hin => ?_)
      · refine lf_no hD3 el3 c7 ?_
        rw [et, List.filter_append, show ([x].filter fun z => decide (z ∉ ns)) = [] by simp [hin], List.append_nil]
        exact ac
      · walk_at "w"
        refine lf_yes nD3 hD3 el3 (by omega) c7 ?_
        rw [et, List.filter_append, show ([x].filter fun z => decide (z ∉ ns)) = [x] by simp [hin], List.map_append, ac]
        rfl
    · rw [List.length_map, List.take_length] at ac
      have ne : (zs.filter fun z => decide (z ∉ ns)) ≠ [] := fun e => by
        have all26 : ∀ z ∈ lt26, z ∈ ns := fun z hz => by
          by_cases hm : z ∈ ns
          · exact hm
          · have : z ∈ zs.filter fun z => decide (z ∉ ns) := List.mem_filter.mpr ⟨sub z hz, decide_eq_true hm⟩
            rw [e] at this
            cases this
        have := few_of lt26_nd all26
        have l26 : lt26.length = 26 := by decide +kernel
        omega
      cases hf : (zs.filter fun z => decide (z ∉ ns)) with
      | nil => exact absurd hf ne
      | cons x r =>
        have hx : x ∈ zs.filter fun z => decide (z ∉ ns) := by rw [hf]; simp
        obtain ⟨h1, h2⟩ := List.mem_filter.mp hx
        rw [hf] at ac
        rw [ac] at hD3
        refine w_ixL (sqL hD3) (v := .str x) at0 ?_
        exact q x H7 (c1.same (c26.same c7)) (bag1.same (c26.same c7)) (all x h1) (of_decide_eq_true h2)
  generalize hS : (tSeq (tAsg (tOp rCat (tOp rCat (tLst (tCons (tVar 5) tNil)) (tLc (iRng1 (tCons (tC (.int 26)) tNil)) (gName 9) tYes (tOp rIxS (tVar 2) (tVar 9)) [9])) (tLc (iRng1 (tCons (tC (.int 26)) tNil)) (gName 9) tYes (tOp oAddS (tOp rIxS (tVar 2) (tVar 9)) (tOp rIxS (tVar 2) (tVar 9))) [9])) (gName 8))
        (tRet (tOp (rIxL K) (tLc (iList K (tVar 8)) (gName 10) (tTest (tOp (rIn K true) (tVar 10) (tVar 1))) (tVar 10) [10]) (tC (.int 0)))) : TS) = suf at rest
  walk_at "w"
  refine u_draw bag (by omega) (by decide) (by decide) fun v H1 c1 bag1 v0 v1 => ?_
  walk_at "w"
  refine u_draw bag1 (by omega) (by decide) (by decide) fun u H2 c2 bag2 u0 u1 => ?_
  obtain ⟨c, ec, hc⟩ := letter_at u0 u1
  have c12 := c1.both c2
  refine w_ixS (by decide +kernel) ec ?_
  walk_at "w"
  refine u_draw bag2 (by omega) (by decide) (by decide) fun w H3 c3 bag3 w0 w1 => ?_
  walk_at "w"
  have b3s := bag3.some
  refine w_lcP walk_range [b] (fun i H => Well H b (n - 3 - i)) (fun i y _ => ∃ d, y = .str ⟨#[d]⟩ ∧ isLow d = true) (bag3.le (by omega)) (fun i H1 H2 p np c h => h.one c (fun z => b3s (by rw [z]; exact np))) (fun _ _ => trivial) (fun D i acc z H4 H5 hi nD hD el iv c4 bag4 y => ?_) (fun D acc H4 nD c4 bag4 el hD ys => ?_)
  · obtain ⟨rfl, rfl⟩ := y
    have hi8 : i < 8 := by omega
    walk_at "w"
    refine u_draw bag4 (by omega) (by decide) (by decide) fun u2 H6 c6 bag6 g0 g1 => ?_
    obtain ⟨d, ed, hd⟩ := letter_at g0 g1
    refine w_ixS (by decide +kernel) ed ?_
    exact lcp_end (fun i H1 H2 p np c h => h.one c (fun z => b3s (by rw [z]; exact np))) (fun _ _ _ _ _ _ _ h => h) nD (fun a ha => by rw [List.mem_singleton.mp ha]; exact b3s) hD el (by omega) iv c6 (bag6.le (by omega)) ⟨d, rfl, hd⟩
  have hlen : acc.length = (1 + w).toNat := el
  obtain ⟨zs, rfl, hzs⟩ := strs_of (P := fun z => z.length = 1 ∧ low z) fun i y hy => by
    obtain ⟨d, rfl, hd⟩ := ys i y hy
    exact ⟨_, rfl, rfl, low_one hd⟩
  rw [List.length_map] at hlen
  have j := join_ones hzs
  refine w_join (sqL hD) ?_ ?_
  · rw [sum_ones fun y hy => (hzs y hy).1, show (Str.ofString "").length = 0 from by decide +kernel]
    omega
  have okj : nameS (Txt.join "" zs) = true := nameS_of (by rw [j.1]; omega) (by rw [j.1]; omega) j.2
  have c04 : Chg [b] H H4 := (c12.both c3).both c4
  have hl4 := c04.at1 hl lb
  walk_at "w"
  refine w_iteD (fun hp => ?_) (fun hp => ?_)
  rotate_left
  · walk_at "w"
    exact rest H4 _ _ _ _ _ _ _ c04 (bag4.le (by omega)) okj
  walk_at "w"
  refine k_lst (by walk_at "sz") fun pe H5 npe c5 hpe => ?_
  refine w_neE (c5.at hl4) hpe ?_
  have bag5 := bag4.same c5
  have hl5 := c5.at hl4
  walk_at "w"
  refine w_iteB (fun he => ?_) (fun he => ?_)
  · walk_at "w"
    exact rest H5 _ _ _ _ _ _ _ (c04.same c5) (bag5.le (by omega)) okj
  have nne : 0 < ns.length := by
    cases ns with
    | nil => cases he
    | cons a r => simp
  walk_at "w"
  rw [List.length_map]
  refine u_draw bag5 (by omega) (by omega) (by omega) fun o H6 c6 bag6 o0 o1 => ?_
  obtain ⟨ov, eo, ho⟩ := atD (xs := ns.map V.str) o0 (by rw [List.length_map]; exact o1)
  obtain ⟨old, hold, rfl⟩ := List.mem_map.mp ho
  have oo := nameS_iff.mp (okn old hold)
  have l8 : old.length ≤ 8 := oo.2.1
  refine w_ixL (sqL (c6.at1 hl5 lb)) eo ?_
  walk_at "w"
  refine u_draw bag6 (by omega) (by omega) (by omega) fun t H7 c7 bag7 t0 t1 => ?_
  walk_at "w"
  have k1 := cutS_le old none (some t)
  refine w_addS ?_ ?_
  · rw [len_one]
    exact Nat.le_trans (show (cutS old none (some t)).length + 1 ≤ 100000 by omega) (by decide)
  walk_at "w"
  have k2 := cutS_le old (some (t + v - 1)) none
  have lsum : (cutS old none (some t) ++ (Str.mk #[c]) ++ cutS old (some (t + v - 1)) none).length = (cutS old none (some t)).length + 1 + (cutS old (some (t + v - 1)) none).length := by rw [len_append, len_append, len_one]
  refine w_addS ?_ ?_
  · rw [len_append, len_one]
    exact Nat.le_trans (show (cutS old none (some t)).length + 1 + (cutS old (some (t + v - 1)) none).length ≤ 100000 by omega) (by decide)
  walk_at "w"
  refine rest H7 _ _ _ _ _ _ _ (((c04.same c5).both c6).both c7) (bag7.le (by omega)) (nameS_of ?_ ?_ (low_cut _ _ (low_append (low_append (low_cut _ _ oo.2.2) (low_one hc)) (low_cut _ _ oo.2.2))))
  · rw [len_cut, sIx_i (by decide), HT.sIx_none, lsum]
    show 1 ≤ min (min 8 _ - 0) (_ - 0)
    omega
  · rw [len_cut, sIx_i (by decide), HT.sIx_none, lsum]
    show min (min 8 _ - 0) (_ - 0) ≤ 8
    omega
end
section
abbrev Cells := List (Int × Int)
def cK (cs : Cells) : List (Key × V) := cs.map fun c => (Sum.inl c.1, V.int c.2)
def cAt (cs : Cells) (i : Int) : Option Int := (cs.find? fun c => decide (c.1 = i)).map (·.2)
def cGet (cs : Cells) (i : Int) : Int := (cAt cs i).getD 0
def cPut (cs : Cells) (i v : Int) : Cells := if (cs.any fun c => decide (c.1 = i)) = true then cs.map (fun c => if c.1 = i then (c.1, v) else c) else cs ++ [(i, v)]
def Ex.worth (g : Int) (cs : Cells) : Ex → Int
  | .num i => i
  | .arg => g
  | .cell a => cGet cs (a.worth g cs)
  | .add a b => a.worth g cs + b.worth g cs
  | .less a b => a.worth g cs - b.worth g cs
  | .least a b => if b.worth g cs < a.worth g cs then b.worth g cs else a.worth g cs
def Ex.asked (g : Int) (cs : Cells) : Ex → List Int
  | .num _ => []
  | .arg => []
  | .cell a => a.asked g cs ++ [a.worth g cs]
  | .add a b => a.asked g cs ++ b.asked g cs
  | .less a b => a.asked g cs ++ b.asked g cs
  | .least a b => a.asked g cs ++ b.asked g cs
/-- what was asked goes into a list, or nowhere -/
def akL : V → List Addr
  | .ref l => [l]
  | _ => []
def Ask (H : Hp) (ak : V) (as : Option (List Int)) : Prop := (ak = .non ∧ as = none) ∨ ∃ (l : Addr) (xs : List Int), ak = .ref l ∧ as = some xs ∧ H l = some (.lst (xs.map V.int))
theorem Ask.ne {H : Hp} {ak : V} {as : Option (List Int)} (h : Ask H ak as) {d : Addr} {kvs : List (Key × V)} (e : H d = some (.dK kvs)) : d ∉ akL ak := by
  rcases h with ⟨rfl, _⟩ | ⟨l, xs, rfl, _, hl⟩
  · simp [akL]
  · intro z
    rw [List.mem_singleton.mp z, hl] at e
    cases e
end
section
def leI (a b : Int) : Bool := decide (a ≤ b)
def srt (ks : List Int) : List Int := ks.mergeSort leI
/-- each once -/
def once : List Int → List Int
  | [] => []
  | x :: r => if x ∈ once r then once r else x :: once r
/-- sorted(set(xs)) -/
def srtD (xs : List Int) : List Int := srt (once xs)
abbrev Given := List (Str × List Int)
def gAdd (gv : Given) (x : Str) (n : Int) : Given := if (gv.any fun g => decide (g.1 = x)) = true then gv.map (fun g => if g.1 = x then (g.1, g.2 ++ [n]) else g) else gv ++ [(x, [n])]
structure Frm where
  num : Nat
  path : List Nat
  rows : List Stp
  arg : Int
  at_ : Nat
  past : Nat
  born : Nat
structure Rcd where
  path : List Nat
  past : Nat
  word : Str
  doer : Nat
  child : Option Nat
  reads : List Int
  writes : List Int
def Stp.word : Stp → Str
  | .cell _ _ => "cell"
  | .give _ _ => "give"
  | .fork _ _ => "fork"
  | .call _ _ => "call"
  | .wait => "wait"
  | .skip _ _ => "skip"
/-- the cells that a step asks -/
def Stp.asks (g : Int) (cs : Cells) : Stp → List Int
  | .cell a b => a.asked g cs ++ b.asked g cs
  | .give _ a => a.asked g cs
  | .fork _ a => a.asked g cs
  | .call _ a => a.asked g cs
  | .wait => []
  | .skip a _ => a.asked g cs
def Stp.puts (g : Int) (cs : Cells) : Stp → Cells
  | .cell a b => cPut cs (a.worth g cs) (b.worth g cs)
  | _ => cs
def Stp.writes (g : Int) (cs : Cells) : Stp → List Int
  | .cell a _ => [a.worth g cs]
  | _ => []
def Stp.gives (g : Int) (cs : Cells) (gv : Given) : Stp → Given
  | .give x a => gAdd gv x (a.worth g cs)
  | _ => gv
def Stp.jump (g : Int) (cs : Cells) : Stp → Nat
  | .skip a k => if a.worth g cs = 0 then k.toNat else 0
  | _ => 0
def Stp.makes (g : Int) (cs : Cells) : Stp → Option (Str × Int)
  | .fork x a => some (x, a.worth g cs)
  | .call x a => some (x, a.worth g cs)
  | _ => none
structure Mc where
  stack : List Frm
  cells : Cells
  given : Given
  recs : List Rcd
  deep : Nat
  many : Nat
def Prg.rows (p : Prg) (x : Str) : List Stp := ((p.find? fun r => decide (r.1 = x)).map (·.2)).getD []
/-- the next step of the topmost doing f, r below it -/
def Mc.did (p : Prg) (m : Mc) (f : Frm) (r : List Frm) (s : Stp) : Mc :=
  let f' : Frm := { f with at_ := f.at_ + 1 + s.jump f.arg m.cells, past := f.past + 1 }
  let c : Rcd := ⟨f.path, f.past, s.word, f.num, none, srtD (s.asks f.arg m.cells), s.writes f.arg m.cells⟩
  match s.makes f.arg m.cells with
  | none => { stack := f' :: r, cells := s.puts f.arg m.cells, given := s.gives f.arg m.cells m.given, recs := m.recs ++ [c], deep := m.deep, many := m.many }
  | some (x, w) => { stack := ⟨m.many, f.path ++ [f.born], p.rows x, w, 0, 0, 0⟩ :: { f' with born := f.born + 1 } :: r, cells := m.cells, given := m.given, recs := m.recs ++ [{ c with child := some m.many }], deep := max m.deep (r.length + 2), many := m.many + 1 }
/-- till all is done, or none where more steps than most would be done -/
def Mc.go (p : Prg) (most : Int) : Nat → Mc → Option Mc
  | 0, m => some m
  | n + 1, m => match m.stack with
    | [] => some m
    | f :: r => match f.rows[f.at_]? with
      | none => Mc.go p most n { m with stack := r }
      | some s => if most ≤ (m.recs.length : Int) then none else Mc.go p most n (m.did p f r s)
def Mc.size (most : Int) (m : Mc) : Nat := 2 * (most - (m.recs.length : Int)).toNat + m.stack.length
end
end Fg
namespace Fg
open PySem PySem.Spec PyProof.Rows L2
local macro_rules | `(tactic| walk_at "hp") => `(tactic| first
  | assumption
  | exact upd_same
  | (refine Chg.at (by assumption) ?_; walk_at "hp")
  | (refine Chg.at1 (by assumption) ?_ (by walk_at "ne"); walk_at "hp"))
local macro_rules | `(tactic| walk_at "ne") => `(tactic| first | assumption | (apply Ne.symm; assumption))
local macro_rules | `(tactic| walk_at "sq") => `(tactic| first | assumption | exact sqL (by walk_at "hp") | (refine Chg.seq (by assumption) ?_; walk_at "sq"))
local macro_rules | `(tactic| walk_at "sz") => `(tactic| first | assumption | exact Nat.zero_le _ | (simp only [List.length_cons, List.length_nil]; decide) | exact Nat.le_trans (by first | omega | (simp; done) | (simp; omega)) (show 100000 ≤ sizeLine by decide) | exact Nat.lt_of_lt_of_le (by first | omega | (simp; done) | (simp; omega)) (show 100000 ≤ sizeLine by decide))
local macro_rules | `(tactic| walk_at "ix") => `(tactic| first | exact at0 | exact at1 | exact at2 | exact at3 | assumption | exact rfl | walk_at "ix2")
local macro_rules | `(tactic| walk_at "ix2") => `(tactic| fail)
local macro_rules | `(tactic| walk_at "num") => `(tactic| first | assumption | omega | decide | walk_at "num2")
local macro_rules | `(tactic| walk_at "num2") => `(tactic| fail)
local macro_rules | `(tactic| walk_at "im") => `(tactic| first | assumption | exact R.non (S := fun _ => False) | exact R.bl (S := fun _ => False) _ | exact R.int (S := fun _ => False) _ | exact R.str (S := fun _ => False) _ | (refine R.im (by assumption) ?_; walk_at "im"))
local macro_rules | `(tactic| walk_at "r") => `(tactic| first | assumption | exact R.non (S := fun _ => False) | exact R.bl (S := fun _ => False) _ | exact R.int (S := fun _ => False) _ | exact R.str (S := fun _ => False) _ | (refine R.same (by assumption) ?_; walk_at "r") | exact R.any (by walk_at "im"))
local macro_rules | `(tactic| walk_at "chg") => `(tactic| first
  | exact Chg.refl
  | assumption
  | (refine Chg.same ?_ (by assumption); walk_at "chg")
  | (refine Chg.both ?_ (by assumption); walk_at "chg")
  | (refine Chg.pre (by assumption) ?_; walk_at "chg"))
local macro_rules | `(tactic| walk_at "w1") => `(tactic| first
  | with_reducible apply w_seq
  | with_reducible apply w_asg
  | ((with_reducible apply w_var); (focus (exact rfl)))
  | with_reducible apply w_c
  | with_reducible apply w_op
  | with_reducible apply w_cons
  | with_reducible apply w_nil
  | with_reducible apply w_gName
  | with_reducible apply w_if
  | with_reducible apply w_test
  | with_reducible apply w_B
  | with_reducible apply w_isbl
  | with_reducible apply w_retN
  | with_reducible apply w_next
  | with_reducible apply w_drop
  | with_reducible apply w_cb
  | with_reducible apply w_call
  | with_reducible apply w_callN
  | with_reducible apply w_bm
  | with_reducible apply w_bm0
  | ((with_reducible apply w_tyL); (focus (walk_at "hp"; done)))
  | with_reducible apply w_dput
  | with_reducible apply w_m1
  | with_reducible apply w_isstr
  | with_reducible apply w_and
  | with_reducible apply w_or
  | with_reducible apply w_not
  | with_reducible apply w_andV
  | with_reducible apply w_orV
  | with_reducible apply w_notV
  | with_reducible apply w_ifE
  | with_reducible apply w_chain
  | with_reducible apply w_un
  | with_reducible apply w_neg
  | with_reducible apply w_add
  | with_reducible apply w_sub
  | ((with_reducible apply w_mod); (focus (walk_at "num"; done)))
  | ((with_reducible apply w_mul); (focus (walk_at "num"; done)))
  | ((with_reducible apply w_fdiv); (focus (walk_at "num"; done)))
  | ((with_reducible apply w_pow); (focus (walk_at "num"; done)))
  | with_reducible apply w_lt
  | with_reducible apply w_le
  | with_reducible apply w_gt
  | with_reducible apply w_ge
  | with_reducible apply w_ltS
  | with_reducible apply w_geS
  | with_reducible apply w_inC
  | with_reducible apply w_notInC
  | with_reducible apply w_isN
  | with_reducible apply w_notN
  | with_reducible apply w_isB
  | with_reducible apply w_notB
  | ((with_reducible apply w_addS); (focus (walk_at "sz"; done)))
  | ((with_reducible apply w_ixL); (focus (walk_at "sq"; done)); (focus (walk_at "ix"; done)))
  | ((with_reducible apply w_ixT); (focus (walk_at "hp"; done)); (focus (walk_at "ix"; done)))
  | ((with_reducible apply w_ixS); (focus (walk_at "sz"; done)); (focus (walk_at "ix"; done)))
  | with_reducible apply w_gSub
  | ((with_reducible apply w_gTup); (focus (walk_at "hp"; done)); (focus (exact rfl)))
  | with_reducible apply w_gCons
  | with_reducible apply w_gNil
  | ((with_reducible apply w_aug); (focus (exact rfl)))
  | with_reducible apply w_ipI
  | ((with_reducible apply w_eq); (focus (exact rfl)))
  | ((with_reducible apply w_ne); (focus (exact rfl)))
  | with_reducible apply w_max
  | with_reducible apply w_min
  | with_reducible apply w_abs
  | with_reducible apply w_intB
  | with_reducible apply w_intI
  | with_reducible apply w_tup1
  | with_reducible apply w_lst1
  | with_reducible apply w_sl
  | with_reducible apply w_part
  | with_reducible apply w_noPart
  | with_reducible apply w_isint
  | ((with_reducible apply w_slS); (focus (walk_at "sz"; done)))
  | with_reducible apply w_iteT
  | with_reducible apply w_iteF
  | with_reducible apply w_iteN
  | ((with_reducible apply w_iteYes); (focus (exact rfl)))
  | ((with_reducible apply w_iteNo); (focus (exact rfl)))
  | ((with_reducible apply w_lenL); (focus (walk_at "sq"; done)))
  | ((with_reducible apply w_lenT); (focus (walk_at "hp"; done)))
  | ((with_reducible apply w_lenS); (focus (walk_at "sz"; done)))
  | with_reducible apply w_lc
  | with_reducible apply w_for
  | with_reducible apply w_yes
  | ((with_reducible apply w_wipe); (focus (exact rfl)))
  | with_reducible apply w_iList
  | with_reducible apply w_iTup
  | with_reducible apply w_iStr
  | with_reducible apply w_iRng1
  | with_reducible apply w_iRng2
  | with_reducible apply w_iZip
  | with_reducible apply w_iEnum
  | ((with_reducible apply d_iList); (focus (walk_at "sq"; done)))
  | ((with_reducible apply d_iTup); (focus (walk_at "hp"; done)))
  | with_reducible apply d_iStr
  | ((with_reducible apply d_iRng1); (focus (walk_at "num"; done)); (focus (walk_at "num"; done)))
  | ((with_reducible apply d_iRng2); (focus (walk_at "num"; done)); (focus (walk_at "num"; done)); (focus (walk_at "num"; done)); (focus (walk_at "num"; done)))
  | ((with_reducible apply d_iZip); (focus (walk_at "sq"; done)); (focus (walk_at "sq"; done)))
  | ((with_reducible apply d_iEnum); (focus (walk_at "sq"; done)))
  | walk_at "w2")
local macro_rules | `(tactic| walk_at "w2") => `(tactic| fail)
local macro_rules | `(tactic| walk_at "wn") => `(tactic| repeat walk_at "w1")
local macro_rules | `(tactic| walk_at "w") => `(tactic| repeat (first | walk_at "w1" | with_reducible apply w_ret))
local macro_rules | `(tactic| walk_at "w2") => `(tactic| first
  | ((with_reducible apply w_isInt); (focus (walk_at "r"; done)))
  | ((with_reducible apply w_isBool); (focus (walk_at "r"; done)))
  | ((with_reducible apply w_isStr); (focus (walk_at "r"; done)))
  | ((with_reducible apply w_isTup); (focus (walk_at "r"; done)))
  | ((with_reducible apply w_isLst); (focus (walk_at "r"; done)))
  | with_reducible apply w_fld
  | with_reducible apply w_sfld
  | with_reducible apply w_faug
  | with_reducible apply w_rAdd
  | with_reducible apply w_rSub
  | with_reducible apply w_make
  | with_reducible apply w_orT
  | with_reducible apply w_dgetd
  | with_reducible apply w_dgetk
  | with_reducible apply w_dsetd
  | ((with_reducible apply k_dgetd); (focus (walk_at "hp"; done)))
  | ((with_reducible apply k_dsetd); (focus (walk_at "hp"; done)))
  | walk_at "w3")
local macro_rules | `(tactic| walk_at "w3") => `(tactic| fail)
section
theorem im_tup {H : Hp} {v : V} {ds : List PyData} (r : Im H v (.tuple ds)) : ∃ a xs, v = .ref a ∧ H a = some (.tup xs) ∧ ImA H xs ds := by
  cases r with
  | tup e ra => exact ⟨_, _, rfl, e, ra⟩
theorem imA2 {H : Hp} {xs : List V} {d1 d2 : PyData} (r : ImA H xs [d1, d2]) : ∃ x y, xs = [x, y] ∧ Im H x d1 ∧ Im H y d2 := by
  cases r with
  | cons a r =>
    cases r with
    | cons b r => cases r; exact ⟨_, _, rfl, a, b⟩
theorem im_int {H : Hp} {v : V} {i : Int} (r : Im H v (.int i)) : v = .int i := by cases r; rfl
end
section
def pairD (c : Int × Int) : PyData := .tuple [.int c.1, .int c.2]
def CellsAt (H : Hp) (cv : V) (cs : Cells) : Prop := (cv = .non ∧ cs = []) ∨ ∃ (l : Addr) (xs : List V), cv = .ref l ∧ H l = some (.lst xs) ∧ ImA H xs (cs.map pairD)
theorem CellsAt.same {H H' : Hp} {cv : V} {cs : Cells} (c : Chg [] H H') (h : CellsAt H cv cs) : CellsAt H' cv cs := by
  rcases h with h | ⟨l, xs, h1, h2, h3⟩
  · exact .inl h
  · exact .inr ⟨l, xs, h1, c.at h2, h3.im c⟩
theorem pair_at {H : Hp} {xs : List V} {cs : Cells} {i : Nat} {x : V} (r : ImA H xs (cs.map pairD)) (ex : xs[i]? = some x) : ∃ T c, cs[i]? = some c ∧ x = .ref T ∧ H T = some (.tup [.int c.1, .int c.2]) := by
  obtain ⟨d, ed, rd⟩ := r.get ex
  rw [List.getElem?_map] at ed
  cases hc : cs[i]? with
  | none => rw [hc] at ed; cases ed
  | some c =>
    rw [hc] at ed
    cases ed
    obtain ⟨T, ys, rfl, hT, ra⟩ := im_tup rd
    obtain ⟨a, b, rfl, r1, r2⟩ := imA2 ra
    rw [im_int r1, im_int r2] at hT
    exact ⟨T, c, rfl, rfl, hT⟩
end
section
/-- the program p at a, its lists at ls -/
def PAt (H : Hp) (a : Addr) (p : Prg) (ls : List Addr) : Prop := ∃ xs, H a = some (.lst xs) ∧ xs.length = p.length ∧ ls.length = p.length ∧ ∀ (i : Nat) (x : V) (r : Str × List Stp) (l : Addr), xs[i]? = some x → p[i]? = some r → ls[i]? = some l → ∃ (T : Addr) (ys : List V), x = .ref T ∧ H T = some (.tup [.str r.1, .ref l]) ∧ H l = some (.lst ys) ∧ ImA H ys (r.2.map Stp.data)
theorem PAt.same {H H' : Hp} {a : Addr} {p : Prg} {ls : List Addr} (c : Chg [] H H') (h : PAt H a p ls) : PAt H' a p ls := by
  obtain ⟨xs, h1, h2, h3, h4⟩ := h
  refine ⟨xs, c.at h1, h2, h3, fun i x r l hx hr hl => ?_⟩
  obtain ⟨T, ys, g1, g2, g3, g4⟩ := h4 i x r l hx hr hl
  exact ⟨T, ys, g1, c.at g2, c.at g3, g4.im c⟩
end
section
def gK : Given → List Addr → List (Key × V)
  | g :: gv, l :: ls => (Sum.inr g.1, V.ref l) :: gK gv ls
  | _, _ => []
theorem gK_snoc : ∀ {gv : Given} {ls : List Addr} (g : Str × List Int) (l : Addr), ls.length = gv.length → gK (gv ++ [g]) (ls ++ [l]) = gK gv ls ++ [(Sum.inr g.1, V.ref l)]
  | [], [], _, _, _ => rfl
  | [], _ :: _, _, _, h => by simp at h
  | _ :: _, [], _, _, h => by simp at h
  | g0 :: gv, l0 :: ls, g, l, h => by
    show (Sum.inr g0.1, V.ref l0) :: gK (gv ++ [g]) (ls ++ [l]) = _
    rw [gK_snoc g l (by simpa using h)]
    rfl
theorem gK_set : ∀ {gv : Given} {ls : List Addr} {i : Nat} {x : Str} {row row' : List Int}, gv[i]? = some (x, row) → gK (gv.set i (x, row')) ls = gK gv ls
  | [], _, _, _, _, _, h => by simp at h
  | g :: gv, [], i, x, row, row', h => by cases i <;> rfl
  | g :: gv, l :: ls, 0, x, row, row', h => by
    cases (Option.some.inj (show some g = some (x, row) from h))
    rfl
  | g :: gv, l :: ls, i + 1, x, row, row', h => by
    show (Sum.inr g.1, V.ref l) :: gK (gv.set i (x, row')) ls = _
    rw [gK_set (i := i) (row := row) h]
    rfl
theorem gAdd_new {gv : Given} {x : Str} (h : x ∉ gv.map (·.1)) (n : Int) : gAdd gv x n = gv ++ [(x, [n])] := by
  unfold gAdd
  rw [if_neg]
  intro z
  obtain ⟨g, hg, e⟩ := List.any_eq_true.mp z
  exact h (List.mem_map.mpr ⟨g, hg, of_decide_eq_true e⟩)
theorem gAdd_old : ∀ {gv : Given} {x : Str} {i : Nat} {row : List Int} (n : Int), (gv.map (·.1)).Nodup → gv[i]? = some (x, row) → gAdd gv x n = gv.set i (x, row ++ [n]) := by
  intro gv x i row n nd h
  unfold gAdd
  rw [if_pos (List.any_eq_true.mpr ⟨_, List.mem_of_getElem? h, decide_eq_true rfl⟩)]
  induction gv generalizing i with
  | nil => simp at h
  | cons g gv ih =>
    obtain ⟨n1, n2⟩ := List.nodup_cons.mp nd
    cases i with
    | zero =>
      cases (Option.some.inj (show some g = some (x, row) from h))
      show (if x = x then (x, row ++ [n]) else (x, row)) :: _ = _
      rw [if_pos rfl]
      show _ = (x, row ++ [n]) :: gv
      congr 1
      have e : ∀ g ∈ gv, (if g.1 = x then (g.1, g.2 ++ [n]) else g) = g := fun g hg => by
        rw [if_neg]
        intro z
        exact n1 (List.mem_map.mpr ⟨g, hg, z⟩)
      rw [List.map_congr_left e, List.map_id']
    | succ i =>
      have h' : gv[i]? = some (x, row) := h
      have ne : ¬ g.1 = x := fun z => n1 (List.mem_map.mpr ⟨_, List.mem_of_getElem? h', z.symm⟩)
      show (if g.1 = x then (g.1, g.2 ++ [n]) else g) :: _ = g :: gv.set i (x, row ++ [n])
      rw [if_neg ne, ih n2 h']
theorem gAdd_names {gv : Given} {x : Str} (n : Int) (nd : (gv.map (·.1)).Nodup) : ((gAdd gv x n).map (·.1)).Nodup := by
  unfold gAdd
  split
  · rw [List.map_map]
    rw [show ((fun g : Str × List Int => g.1) ∘ fun g => if g.1 = x then (g.1, g.2 ++ [n]) else g) = fun g => g.1 from funext fun g => by
      show (if g.1 = x then (g.1, g.2 ++ [n]) else g).1 = g.1
      split <;> rfl]
    exact nd
  · next h =>
    rw [List.map_append]
    refine nd_snoc nd fun m => h ?_
    obtain ⟨g, hg, e⟩ := List.mem_map.mp m
    exact List.any_eq_true.mpr ⟨g, hg, decide_eq_true e⟩
structure GvAt (H : Hp) (gd : Addr) (gv : Given) (ls : List Addr) : Prop where
  dict : H gd = some (.dK (gK gv ls))
  len : ls.length = gv.length
  nd : ls.Nodup
  names : (gv.map (·.1)).Nodup
  rows : ∀ (i : Nat) (g : Str × List Int) (l : Addr), gv[i]? = some g → ls[i]? = some l → H l = some (.lst (g.2.map V.int))
theorem GvAt.keep {M : List Addr} {H H' : Hp} {gd : Addr} {gv : Given} {ls : List Addr} (h : GvAt H gd gv ls) (c : Chg M H H') (h1 : gd ∉ M) (h2 : ∀ l ∈ ls, l ∉ M) : GvAt H' gd gv ls :=
  ⟨c.keep _ _ h.dict h1, h.len, h.nd, h.names, fun i g l hg hl => c.keep _ _ (h.rows i g l hg hl) (h2 l (List.mem_of_getElem? hl))⟩
theorem GvAt.same {H H' : Hp} {gd : Addr} {gv : Given} {ls : List Addr} (h : GvAt H gd gv ls) (c : Chg [] H H') : GvAt H' gd gv ls := h.keep c (by simp) (by simp)
/-- one more for a name that is there -/
theorem GvAt.old {H H' : Hp} {gd : Addr} {gv : Given} {ls : List Addr} {x : Str} {i : Nat} {row : List Int} {l : Addr} {n : Int} (h : GvAt H gd gv ls) (hg : gv[i]? = some (x, row)) (hl : ls[i]? = some l) (c : Chg [l] H H') (h' : H' l = some (.lst ((row ++ [n]).map V.int))) : GvAt H' gd (gAdd gv x n) ls := by
  rw [gAdd_old n h.names hg]
  have hi : i < gv.length := (List.getElem?_eq_some_iff.mp hg).1
  refine ⟨?_, by rw [List.length_set]; exact h.len, h.nd, ?_, fun j g l' hg' hl' => ?_⟩
  · rw [gK_set hg]
    exact c.at1 h.dict fun z => by
      have := h.rows i _ l hg hl
      rw [← z, h.dict] at this
      cases this
  · rw [← gAdd_old n h.names hg]
    exact gAdd_names n h.names
  · by_cases e : j = i
    · subst e
      rw [hl] at hl'
      cases hl'
      rw [List.getElem?_set_self hi] at hg'
      cases hg'
      exact h'
    · rw [List.getElem?_set_ne (Ne.symm e)] at hg'
      refine c.at1 (h.rows j g l' hg' hl') fun z => e ?_
      subst z
      have hj := (List.getElem?_eq_some_iff.mp hl').1
      exact (List.getElem?_inj hj h.nd).mp (by rw [hl', hl])
/-- a new name -/
theorem GvAt.new {H H' : Hp} {gd : Addr} {gv : Given} {ls : List Addr} {x : Str} {l : Addr} {n : Int} (h : GvAt H gd gv ls) (hx : x ∉ gv.map (·.1)) (nl : ∀ l' ∈ ls, l' ≠ l) (c : ∀ l' ∈ ls, ∀ o, H l' = some o → H' l' = some o) (hd : H' gd = some (.dK (gK gv ls ++ [(Sum.inr x, V.ref l)]))) (h' : H' l = some (.lst ([n].map V.int))) : GvAt H' gd (gAdd gv x n) (ls ++ [l]) := by
  rw [gAdd_new hx]
  refine ⟨by rw [gK_snoc _ _ h.len]; exact hd, by rw [List.length_append, List.length_append, h.len]; rfl, nd_snoc h.nd fun m => nl l m rfl, ?_, fun j g l' hg hl => ?_⟩
  · rw [List.map_append]
    exact nd_snoc h.names hx
  · by_cases hj : j < gv.length
    · rw [List.getElem?_append_left hj] at hg
      rw [List.getElem?_append_left (by rw [h.len]; exact hj)] at hl
      exact c l' (List.mem_of_getElem? hl) _ (h.rows j g l' hg hl)
    · have hj2 : j = gv.length := by
        have := (List.getElem?_eq_some_iff.mp hg).1
        rw [List.length_append, List.length_singleton] at this
        omega
      subst hj2
      rw [List.getElem?_append_right (Nat.le_refl _), Nat.sub_self] at hg
      rw [List.getElem?_append_right (by rw [h.len]; exact Nat.le_refl _), h.len, Nat.sub_self] at hl
      cases (Option.some.inj (show some (x, [n]) = some g from hg))
      cases (Option.some.inj (show some l = some l' from hl))
      exact h'
end
end Fg
namespace Fg
open PySem PySem.Spec PyProof.Rows L2
local macro_rules | `(tactic| walk_at "hp") => `(tactic| first
  | assumption
  | exact upd_same
  | (refine Chg.at (by assumption) ?_; walk_at "hp")
  | (refine Chg.at1 (by assumption) ?_ (by walk_at "ne"); walk_at "hp"))
local macro_rules | `(tactic| walk_at "ne") => `(tactic| first | assumption | (apply Ne.symm; assumption))
local macro_rules | `(tactic| walk_at "sq") => `(tactic| first | assumption | exact sqL (by walk_at "hp") | (refine Chg.seq (by assumption) ?_; walk_at "sq"))
local macro_rules | `(tactic| walk_at "sz") => `(tactic| first | assumption | exact Nat.zero_le _ | (simp only [List.length_cons, List.length_nil]; decide) | exact Nat.le_trans (by first | omega | (simp; done) | (simp; omega)) (show 100000 ≤ sizeLine by decide) | exact Nat.lt_of_lt_of_le (by first | omega | (simp; done) | (simp; omega)) (show 100000 ≤ sizeLine by decide))
local macro_rules | `(tactic| walk_at "ix") => `(tactic| first | exact at0 | exact at1 | exact at2 | exact at3 | assumption | exact rfl | walk_at "ix2")
local macro_rules | `(tactic| walk_at "ix2") => `(tactic| fail)
local macro_rules | `(tactic| walk_at "num") => `(tactic| first | assumption | omega | decide | walk_at "num2")
local macro_rules | `(tactic| walk_at "num2") => `(tactic| fail)
local macro_rules | `(tactic| walk_at "im") => `(tactic| first | assumption | exact R.non (S := fun _ => False) | exact R.bl (S := fun _ => False) _ | exact R.int (S := fun _ => False) _ | exact R.str (S := fun _ => False) _ | (refine R.im (by assumption) ?_; walk_at "im"))
local macro_rules | `(tactic| walk_at "r") => `(tactic| first | assumption | exact R.non (S := fun _ => False) | exact R.bl (S := fun _ => False) _ | exact R.int (S := fun _ => False) _ | exact R.str (S := fun _ => False) _ | (refine R.same (by assumption) ?_; walk_at "r") | exact R.any (by walk_at "im"))
local macro_rules | `(tactic| walk_at "chg") => `(tactic| first
  | exact Chg.refl
  | assumption
  | (refine Chg.same ?_ (by assumption); walk_at "chg")
  | (refine Chg.both ?_ (by assumption); walk_at "chg")
  | (refine Chg.pre (by assumption) ?_; walk_at "chg"))
local macro_rules | `(tactic| walk_at "w1") => `(tactic| first
  | with_reducible apply w_seq
  | with_reducible apply w_asg
  | ((with_reducible apply w_var); (focus (exact rfl)))
  | with_reducible apply w_c
  | with_reducible apply w_op
  | with_reducible apply w_cons
  | with_reducible apply w_nil
  | with_reducible apply w_gName
  | with_reducible apply w_if
  | with_reducible apply w_test
  | with_reducible apply w_B
  | with_reducible apply w_isbl
  | with_reducible apply w_retN
  | with_reducible apply w_next
  | with_reducible apply w_drop
  | with_reducible apply w_cb
  | with_reducible apply w_call
  | with_reducible apply w_callN
  | with_reducible apply w_bm
  | with_reducible apply w_bm0
  | ((with_reducible apply w_tyL); (focus (walk_at "hp"; done)))
  | with_reducible apply w_dput
  | with_reducible apply w_m1
  | with_reducible apply w_isstr
  | with_reducible apply w_and
  | with_reducible apply w_or
  | with_reducible apply w_not
  | with_reducible apply w_andV
  | with_reducible apply w_orV
  | with_reducible apply w_notV
  | with_reducible apply w_ifE
  | with_reducible apply w_chain
  | with_reducible apply w_un
  | with_reducible apply w_neg
  | with_reducible apply w_add
  | with_reducible apply w_sub
  | ((with_reducible apply w_mod); (focus (walk_at "num"; done)))
  | ((with_reducible apply w_mul); (focus (walk_at "num"; done)))
  | ((with_reducible apply w_fdiv); (focus (walk_at "num"; done)))
  | ((with_reducible apply w_pow); (focus (walk_at "num"; done)))
  | with_reducible apply w_lt
  | with_reducible apply w_le
  | with_reducible apply w_gt
  | with_reducible apply w_ge
  | with_reducible apply w_ltS
  | with_reducible apply w_geS
  | with_reducible apply w_inC
  | with_reducible apply w_notInC
  | with_reducible apply w_isN
  | with_reducible apply w_notN
  | with_reducible apply w_isB
  | with_reducible apply w_notB
  | ((with_reducible apply w_addS); (focus (walk_at "sz"; done)))
  | ((with_reducible apply w_ixL); (focus (walk_at "sq"; done)); (focus (walk_at "ix"; done)))
  | ((with_reducible apply w_ixT); (focus (walk_at "hp"; done)); (focus (walk_at "ix"; done)))
  | ((with_reducible apply w_ixS); (focus (walk_at "sz"; done)); (focus (walk_at "ix"; done)))
  | with_reducible apply w_gSub
  | ((with_reducible apply w_gTup); (focus (walk_at "hp"; done)); (focus (exact rfl)))
  | with_reducible apply w_gCons
  | with_reducible apply w_gNil
  | ((with_reducible apply w_aug); (focus (exact rfl)))
  | with_reducible apply w_ipI
  | ((with_reducible apply w_eq); (focus (exact rfl)))
  | ((with_reducible apply w_ne); (focus (exact rfl)))
  | with_reducible apply w_max
  | with_reducible apply w_min
  | with_reducible apply w_abs
  | with_reducible apply w_intB
  | with_reducible apply w_intI
  | with_reducible apply w_tup1
  | with_reducible apply w_lst1
  | with_reducible apply w_sl
  | with_reducible apply w_part
  | with_reducible apply w_noPart
  | with_reducible apply w_isint
  | ((with_reducible apply w_slS); (focus (walk_at "sz"; done)))
  | with_reducible apply w_iteT
  | with_reducible apply w_iteF
  | with_reducible apply w_iteN
  | ((with_reducible apply w_iteYes); (focus (exact rfl)))
  | ((with_reducible apply w_iteNo); (focus (exact rfl)))
  | ((with_reducible apply w_lenL); (focus (walk_at "sq"; done)))
  | ((with_reducible apply w_lenT); (focus (walk_at "hp"; done)))
  | ((with_reducible apply w_lenS); (focus (walk_at "sz"; done)))
  | with_reducible apply w_lc
  | with_reducible apply w_for
  | with_reducible apply w_yes
  | ((with_reducible apply w_wipe); (focus (exact rfl)))
  | with_reducible apply w_iList
  | with_reducible apply w_iTup
  | with_reducible apply w_iStr
  | with_reducible apply w_iRng1
  | with_reducible apply w_iRng2
  | with_reducible apply w_iZip
  | with_reducible apply w_iEnum
  | ((with_reducible apply d_iList); (focus (walk_at "sq"; done)))
  | ((with_reducible apply d_iTup); (focus (walk_at "hp"; done)))
  | with_reducible apply d_iStr
  | ((with_reducible apply d_iRng1); (focus (walk_at "num"; done)); (focus (walk_at "num"; done)))
  | ((with_reducible apply d_iRng2); (focus (walk_at "num"; done)); (focus (walk_at "num"; done)); (focus (walk_at "num"; done)); (focus (walk_at "num"; done)))
  | ((with_reducible apply d_iZip); (focus (walk_at "sq"; done)); (focus (walk_at "sq"; done)))
  | ((with_reducible apply d_iEnum); (focus (walk_at "sq"; done)))
  | walk_at "w2")
local macro_rules | `(tactic| walk_at "w2") => `(tactic| fail)
local macro_rules | `(tactic| walk_at "wn") => `(tactic| repeat walk_at "w1")
local macro_rules | `(tactic| walk_at "w") => `(tactic| repeat (first | walk_at "w1" | with_reducible apply w_ret))
local macro_rules | `(tactic| walk_at "w2") => `(tactic| first
  | ((with_reducible apply w_isInt); (focus (walk_at "r"; done)))
  | ((with_reducible apply w_isBool); (focus (walk_at "r"; done)))
  | ((with_reducible apply w_isStr); (focus (walk_at "r"; done)))
  | ((with_reducible apply w_isTup); (focus (walk_at "r"; done)))
  | ((with_reducible apply w_isLst); (focus (walk_at "r"; done)))
  | with_reducible apply w_fld
  | with_reducible apply w_sfld
  | with_reducible apply w_faug
  | with_reducible apply w_rAdd
  | with_reducible apply w_rSub
  | with_reducible apply w_make
  | with_reducible apply w_orT
  | with_reducible apply w_dgetd
  | with_reducible apply w_dgetk
  | with_reducible apply w_dsetd
  | ((with_reducible apply k_dgetd); (focus (walk_at "hp"; done)))
  | ((with_reducible apply k_dsetd); (focus (walk_at "hp"; done)))
  | walk_at "w3")
local macro_rules | `(tactic| walk_at "w3") => `(tactic| fail)
local macro_rules | `(tactic| walk_at "w3") => `(tactic| first
  | ((with_reducible apply g_Frame_number); (focus (assumption; done)); (focus (walk_at "hp"; done)))
  | ((with_reducible apply u_Frame_number); (focus (assumption; done)); (focus (walk_at "hp"; done)))
  | ((with_reducible apply g_Frame_path); (focus (assumption; done)); (focus (walk_at "hp"; done)))
  | ((with_reducible apply u_Frame_path); (focus (assumption; done)); (focus (walk_at "hp"; done)))
  | ((with_reducible apply g_Frame_rows); (focus (assumption; done)); (focus (walk_at "hp"; done)))
  | ((with_reducible apply u_Frame_rows); (focus (assumption; done)); (focus (walk_at "hp"; done)))
  | ((with_reducible apply g_Frame_arg); (focus (assumption; done)); (focus (walk_at "hp"; done)))
  | ((with_reducible apply u_Frame_arg); (focus (assumption; done)); (focus (walk_at "hp"; done)))
  | ((with_reducible apply g_Frame_at); (focus (assumption; done)); (focus (walk_at "hp"; done)))
  | ((with_reducible apply u_Frame_at); (focus (assumption; done)); (focus (walk_at "hp"; done)))
  | ((with_reducible apply g_Frame_past); (focus (assumption; done)); (focus (walk_at "hp"; done)))
  | ((with_reducible apply u_Frame_past); (focus (assumption; done)); (focus (walk_at "hp"; done)))
  | ((with_reducible apply g_Frame_born); (focus (assumption; done)); (focus (walk_at "hp"; done)))
  | ((with_reducible apply u_Frame_born); (focus (assumption; done)); (focus (walk_at "hp"; done)))
  | ((with_reducible apply g_Record_mark); (focus (assumption; done)); (focus (walk_at "hp"; done)))
  | ((with_reducible apply u_Record_mark); (focus (assumption; done)); (focus (walk_at "hp"; done)))
  | ((with_reducible apply g_Record_word); (focus (assumption; done)); (focus (walk_at "hp"; done)))
  | ((with_reducible apply u_Record_word); (focus (assumption; done)); (focus (walk_at "hp"; done)))
  | ((with_reducible apply g_Record_doer); (focus (assumption; done)); (focus (walk_at "hp"; done)))
  | ((with_reducible apply u_Record_doer); (focus (assumption; done)); (focus (walk_at "hp"; done)))
  | ((with_reducible apply g_Record_child); (focus (assumption; done)); (focus (walk_at "hp"; done)))
  | ((with_reducible apply u_Record_child); (focus (assumption; done)); (focus (walk_at "hp"; done)))
  | ((with_reducible apply g_Record_reads); (focus (assumption; done)); (focus (walk_at "hp"; done)))
  | ((with_reducible apply u_Record_reads); (focus (assumption; done)); (focus (walk_at "hp"; done)))
  | ((with_reducible apply g_Record_writes); (focus (assumption; done)); (focus (walk_at "hp"; done)))
  | ((with_reducible apply u_Record_writes); (focus (assumption; done)); (focus (walk_at "hp"; done)))
  | ((with_reducible apply g_Outcome_cells); (focus (assumption; done)); (focus (walk_at "hp"; done)))
  | ((with_reducible apply u_Outcome_cells); (focus (assumption; done)); (focus (walk_at "hp"; done)))
  | ((with_reducible apply g_Outcome_given); (focus (assumption; done)); (focus (walk_at "hp"; done)))
  | ((with_reducible apply u_Outcome_given); (focus (assumption; done)); (focus (walk_at "hp"; done)))
  | ((with_reducible apply g_Outcome_steps); (focus (assumption; done)); (focus (walk_at "hp"; done)))
  | ((with_reducible apply u_Outcome_steps); (focus (assumption; done)); (focus (walk_at "hp"; done)))
  | ((with_reducible apply g_Outcome_deepest); (focus (assumption; done)); (focus (walk_at "hp"; done)))
  | ((with_reducible apply u_Outcome_deepest); (focus (assumption; done)); (focus (walk_at "hp"; done))))
def pathD (p : List Nat) : PyData := .tuple (p.map fun i => .int (i : Nat))
def markD (p : List Nat) (k : Nat) : PyData := .tuple [pathD p, .int (k : Nat)]
/-- a doing in the heap -/
def FrmAt (K : PySem.W.Frag) (H : Hp) (a : Addr) (f : Frm) : Prop := ∃ (dx l : Addr) (pv : V) (ys : List V), H a = some (O_Frame K dx (.int (f.num : Nat)) pv (.ref l) (.int f.arg) (.int (f.at_ : Nat)) (.int (f.past : Nat)) (.int (f.born : Nat))) ∧ Im H pv (pathD f.path) ∧ H l = some (.lst ys) ∧ ImA H ys (f.rows.map Stp.data)
theorem FrmAt.keep {K : PySem.W.Frag} {M : List Addr} {H H' : Hp} {a : Addr} {f : Frm} (h : FrmAt K H a f) (c : Chg M H H') (h1 : a ∉ M) (h2 : ∀ l ys, H l = some (.lst ys) → (∃ dx pv g at_ past born n, H a = some (O_Frame K dx n pv (.ref l) g at_ past born)) → l ∉ M) : FrmAt K H' a f := by
  obtain ⟨dx, l, pv, ys, e1, e2, e3, e4⟩ := h
  exact ⟨dx, l, pv, ys, c.keep _ _ e1 h1, e2.im c, c.keep _ _ e3 (h2 l ys e3 ⟨_, _, _, _, _, _, _, e1⟩), e4.im c⟩
def chV : Option Nat → V
  | none => .non
  | some n => .int (n : Nat)
def Frm.next (f : Frm) (s : Stp) (cs : Cells) : Frm := { f with at_ := f.at_ + 1 + s.jump f.arg cs, past := f.past + 1 }
theorem Chg.sub {M M' : List Addr} {H H' : Hp} (c : Chg M H H') (h : ∀ a ∈ M, a ∈ M' ∨ H a = none) : Chg M' H H' := ⟨fun a o e hn => c.keep a o e (fun m => (h a m).elim hn fun z => (by rw [z] at e; cases e)), c.dom, c.tup⟩
end Fg
namespace Fg
open PySem PySem.Spec PyProof.Rows L2
section
def FrmIn (K : PySem.W.Frag) (H0 H : Hp) (a : Addr) (f : Frm) : Prop := ∃ (dx l : Addr) (pv : V) (ys : List V), H a = some (O_Frame K dx (.int (f.num : Nat)) pv (.ref l) (.int f.arg) (.int (f.at_ : Nat)) (.int (f.past : Nat)) (.int (f.born : Nat))) ∧ Im H pv (pathD f.path) ∧ H0 l = some (.lst ys) ∧ ImA H0 ys (f.rows.map Stp.data)
theorem FrmIn.keep {K : PySem.W.Frag} {M : List Addr} {H0 H H' : Hp} {a : Addr} {f : Frm} (h : FrmIn K H0 H a f) (c : Chg M H H') (h1 : a ∉ M) : FrmIn K H0 H' a f := by
  obtain ⟨dx, l, pv, ys, e1, e2, e3, e4⟩ := h
  exact ⟨dx, l, pv, ys, c.keep _ _ e1 h1, e2.im c, e3, e4⟩
theorem FrmIn.some {K : PySem.W.Frag} {H0 H : Hp} {a : Addr} {f : Frm} (h : FrmIn K H0 H a f) : H a ≠ none := by
  obtain ⟨dx, l, pv, ys, e1, _⟩ := h
  rw [e1]
  exact fun z => nomatch z
def RcdIn (K : PySem.W.Frag) (own : List Addr) (H : Hp) (a : Addr) (r : Rcd) : Prop := ∃ (dx rl wl : Addr) (mv : V), H a = some (O_Record K dx mv (.str r.word) (.int (r.doer : Nat)) (chV r.child) (.ref rl) (.ref wl)) ∧ Im H mv (markD r.path r.past) ∧ H rl = some (.lst (r.reads.map V.int)) ∧ H wl = some (.lst (r.writes.map V.int)) ∧ a ∉ own ∧ rl ∉ own ∧ wl ∉ own
theorem RcdIn.keep {K : PySem.W.Frag} {own M : List Addr} {H H' : Hp} {a : Addr} {r : Rcd} (h : RcdIn K own H a r) (c : Chg M H H') (hM : ∀ x ∈ M, x ∈ own ∨ H x = none) : RcdIn K own H' a r := by
  obtain ⟨dx, rl, wl, mv, e1, e2, e3, e4, e5, e6, e7⟩ := h
  have k : ∀ {x : Addr} {o : HO}, H x = Option.some o → x ∉ own → H' x = Option.some o := fun hx hn => c.keep _ _ hx fun m => by
    rcases hM _ m with h | h
    · exact hn h
    · rw [h] at hx; cases hx
  exact ⟨dx, rl, wl, mv, k e1 e5, e2.im c, k e3 e6, k e4 e7, e5, e6, e7⟩
theorem RcdIn.more {K : PySem.W.Frag} {own own' : List Addr} {H : Hp} {a : Addr} {r : Rcd} (h : RcdIn K own H a r) (hM : ∀ x ∈ own', x ∈ own ∨ H x = none) : RcdIn K own' H a r := by
  obtain ⟨dx, rl, wl, mv, e1, e2, e3, e4, e5, e6, e7⟩ := h
  have k : ∀ {x : Addr} {o : HO}, H x = Option.some o → x ∉ own → x ∉ own' := fun hx hn m => by
    rcases hM _ m with h | h
    · exact hn h
    · rw [h] at hx; cases hx
  exact ⟨dx, rl, wl, mv, e1, e2, e3, e4, k e1 e5, k e3 e6, k e4 e7⟩
end
section
abbrev ownL (St Rc hd gd : Addr) (gls fas : List Addr) : List Addr := St :: Rc :: hd :: gd :: (gls ++ fas)
structure TI (K : PySem.W.Frag) (H0 H : Hp) (p : Prg) (St Rc hd gd : Addr) (gls fas rcs : List Addr) (m : Mc) : Prop where
  c : Chg [] H0 H
  own : (ownL St Rc hd gd gls fas).Nodup
  new : ∀ x ∈ ownL St Rc hd gd gls fas, H0 x = none
  st : H St = some (.lst (fas.reverse.map V.ref))
  fl : fas.length = m.stack.length
  fr : ∀ (i : Nat) (fa : Addr) (f : Frm), fas[i]? = some fa → m.stack[i]? = some f → FrmIn K H0 H fa f ∧ f.path.length ≤ m.recs.length ∧ ∃ r ∈ p, f.rows = r.2
  rc : H Rc = some (.lst (rcs.map V.ref))
  rl : rcs.length = m.recs.length
  rs : ∀ (i : Nat) (ra : Addr) (r : Rcd), rcs[i]? = some ra → m.recs[i]? = some r → RcdIn K (ownL St Rc hd gd gls fas) H ra r
  hd : H hd = some (.dK (cK m.cells))
  gv : GvAt H gd m.given gls
  s1 : m.cells.length ≤ 10000 + m.recs.length
  s2 : m.given.length ≤ m.recs.length
  s3 : ∀ g ∈ m.given, g.2.length ≤ m.recs.length
  s4 : m.stack.length ≤ m.recs.length + 1
section
variable {K : PySem.W.Frag} {H0 H : Hp} {p : Prg} {St Rc hd gd : Addr} {gls fas rcs : List Addr} {m : Mc}
theorem own_ne {xs : List Addr} {x y : Addr} (nd : (x :: xs).Nodup) (h : y ∈ xs) : y ≠ x := fun e => (List.nodup_cons.mp nd).1 (by rw [← e]; exact h)
theorem TI.nSt (t : TI K H0 H p St Rc hd gd gls fas rcs m) : Rc ≠ St ∧ hd ≠ St ∧ gd ≠ St ∧ (∀ l ∈ gls, l ≠ St) ∧ ∀ f ∈ fas, f ≠ St :=
  ⟨own_ne t.own (by simp), own_ne t.own (by simp), own_ne t.own (by simp), fun l h => own_ne t.own (by simp [h]), fun f h => own_ne t.own (by simp [h])⟩
theorem TI.some (t : TI K H0 H p St Rc hd gd gls fas rcs m) : ∀ x ∈ ownL St Rc hd gd gls fas, H x ≠ none := by
  intro x hx
  simp only [List.mem_cons, List.mem_append] at hx
  rcases hx with rfl | rfl | rfl | rfl | hx | hx
  · rw [t.st]; exact fun z => nomatch z
  · rw [t.rc]; exact fun z => nomatch z
  · rw [t.hd]; exact fun z => nomatch z
  · rw [t.gv.dict]; exact fun z => nomatch z
  · obtain ⟨i, hi⟩ := List.getElem?_of_mem hx
    have hg : i < m.given.length := by rw [← t.gv.len]; exact (List.getElem?_eq_some_iff.mp hi).1
    rw [t.gv.rows i _ x (List.getElem?_eq_getElem hg) hi]
    exact fun z => nomatch z
  · obtain ⟨i, hi⟩ := List.getElem?_of_mem hx
    have hf : i < m.stack.length := by rw [← t.fl]; exact (List.getElem?_eq_some_iff.mp hi).1
    exact (t.fr i x _ hi (List.getElem?_eq_getElem hf)).1.some
/-- only new things -/
theorem TI.same {H' : Hp} (t : TI K H0 H p St Rc hd gd gls fas rcs m) (c : Chg [] H H') : TI K H0 H' p St Rc hd gd gls fas rcs m :=
  ⟨t.c.same c, t.own, t.new, c.at t.st, t.fl, fun i fa f h1 h2 => ⟨(t.fr i fa f h1 h2).1.keep c (by simp), (t.fr i fa f h1 h2).2⟩, c.at t.rc, t.rl, fun i ra r h1 h2 => (t.rs i ra r h1 h2).keep c (by simp), c.at t.hd, t.gv.same c, t.s1, t.s2, t.s3, t.s4⟩
end
end
section
section
variable {K : PySem.W.Frag} {H0 H : Hp} {p : Prg} {St Rc hd gd : Addr} {gls fas rcs : List Addr} {m : Mc}
/-- the last record has a child -/
theorem TI.child {H' : Hp} {rc dx rl wl : Addr} {mv : V} {c c' : Rcd} {rs0 : List Rcd} (t : TI K H0 H p St Rc hd gd gls fas (rcs ++ [rc]) m) (hr : m.recs = rs0 ++ [c]) (ch : Chg [rc] H H') (n0 : H0 rc = none)
    (e : H rc = Option.some (O_Record K dx mv (.str c.word) (.int (c.doer : Nat)) (chV c.child) (.ref rl) (.ref wl))) (e' : H' rc = Option.some (O_Record K dx mv (.str c'.word) (.int (c'.doer : Nat)) (chV c'.child) (.ref rl) (.ref wl)))
    (hc : c'.path = c.path ∧ c'.past = c.past ∧ c'.reads = c.reads ∧ c'.writes = c.writes) (nr : rc ∉ rcs) : TI K H0 H' p St Rc hd gd gls fas (rcs ++ [rc]) { m with recs := rs0 ++ [c'] } := by
  have lr : (rs0 ++ [c']).length = m.recs.length := by rw [hr, List.length_append, List.length_append]; rfl
  have l0 : rcs.length = rs0.length := by
    have := t.rl
    rw [hr, List.length_append, List.length_append, List.length_singleton, List.length_singleton] at this
    omega
  have last := t.rs rcs.length rc c (by rw [List.getElem?_append_right (Nat.le_refl _), Nat.sub_self]; rfl) (by rw [hr, l0, List.getElem?_append_right (Nat.le_refl _), Nat.sub_self]; rfl)
  obtain ⟨dx', rl', wl', mv', f1, f2, f3, f4, f5, f6, f7⟩ := last
  rw [e] at f1
  cases (Option.some.inj f1)
  have ne : ∀ x ∈ ownL St Rc hd gd gls fas, x ≠ rc := fun x hx z => f5 (by rw [← z]; exact hx)
  have nrl : rl ≠ rc := fun z => by rw [z, e] at f3; exact nomatch f3
  have nwl : wl ≠ rc := fun z => by rw [z, e] at f4; exact nomatch f4
  refine ⟨t.c.one ch n0, t.own, t.new, ch.at1 t.st (ne _ (by simp)), t.fl, fun i fa f h1 h2 => ?_, ch.at1 t.rc (ne _ (by simp)), by rw [t.rl]; exact lr.symm, fun i ra r h1 h2 => ?_, ch.at1 t.hd (ne _ (by simp)), t.gv.keep ch (by simpa using ne gd (by simp)) (fun l hl => by simpa using ne l (by simp [hl])), ?_, ?_, ?_, ?_⟩
  · have old := t.fr i fa f h1 h2
    exact ⟨old.1.keep ch (by simpa using ne fa (by simp [List.mem_of_getElem? h1])), by show f.path.length ≤ (rs0 ++ [c']).length; rw [lr]; exact old.2.1, old.2.2⟩
  · by_cases hj : i < rcs.length
    · have h1' := h1
      rw [List.getElem?_append_left hj] at h1'
      have h2' : (rs0 ++ [c'])[i]? = Option.some r := h2
      rw [List.getElem?_append_left (by omega)] at h2'
      obtain ⟨dx2, rl2, wl2, mv2, g1, g2, g3, g4, g5, g6, g7⟩ := t.rs i ra r h1 (by rw [hr, List.getElem?_append_left (by omega)]; exact h2')
      have nra : ra ≠ rc := fun z => nr (by rw [← z]; exact List.mem_of_getElem? h1')
      exact ⟨dx2, rl2, wl2, mv2, ch.at1 g1 nra, g2.im ch, ch.at1 g3 (fun z => by rw [z, e] at g3; exact nomatch g3), ch.at1 g4 (fun z => by rw [z, e] at g4; exact nomatch g4), g5, g6, g7⟩
    · have hj2 : i = rcs.length := by
        have := (List.getElem?_eq_some_iff.mp h1).1
        rw [List.length_append, List.length_singleton] at this
        omega
      subst hj2
      rw [List.getElem?_append_right (Nat.le_refl _), Nat.sub_self] at h1
      have h2' : (rs0 ++ [c'])[rcs.length]? = Option.some r := h2
      rw [l0, List.getElem?_append_right (Nat.le_refl _), Nat.sub_self] at h2'
      cases (Option.some.inj (show Option.some rc = Option.some ra from h1))
      cases (Option.some.inj (show Option.some c' = Option.some r from h2'))
      refine ⟨dx, rl, wl, mv, e', ?_, ?_, ?_, f5, f6, f7⟩
      · rw [hc.1, hc.2.1]
        exact f2.im ch
      · rw [hc.2.2.1]
        exact ch.at1 f3 nrl
      · rw [hc.2.2.2]
        exact ch.at1 f4 nwl
  · show m.cells.length ≤ 10000 + (rs0 ++ [c']).length
    rw [lr]; exact t.s1
  · show m.given.length ≤ (rs0 ++ [c']).length
    rw [lr]; exact t.s2
  · show ∀ g ∈ m.given, g.2.length ≤ (rs0 ++ [c']).length
    rw [lr]; exact t.s3
  · show m.stack.length ≤ (rs0 ++ [c']).length + 1
    rw [lr]; exact t.s4
/-- a new doing on top -/
theorem TI.push {H1 H' : Hp} {nf : Addr} {f : Frm} (t : TI K H0 H p St Rc hd gd gls fas rcs m) (c1 : Chg [] H H1) (nn : H nf = none) (hf : FrmIn K H0 H1 nf f) (hp : f.path.length ≤ m.recs.length) (hr : ∃ r ∈ p, f.rows = r.2) (c2 : Chg [St] H1 H') (h : H' St = Option.some (.lst (fas.reverse.map V.ref ++ [.ref nf]))) (s4 : m.stack.length + 1 ≤ m.recs.length + 1) :
    TI K H0 H' p St Rc hd gd gls (nf :: fas) rcs { m with stack := f :: m.stack } := by
  have live := t.some
  have t1 := t.same c1
  obtain ⟨n1, n2, n3, n4, n5⟩ := t.nSt
  have ne : ∀ x ∈ ownL St Rc hd gd gls fas, x ≠ nf := fun x hx z => live x hx (by rw [z]; exact nn)
  have own' : (ownL St Rc hd gd gls (nf :: fas)).Perm (nf :: ownL St Rc hd gd gls fas) := by
    have e : gls ++ nf :: fas = gls ++ ([nf] ++ fas) := rfl
    show (St :: Rc :: hd :: gd :: (gls ++ nf :: fas)).Perm _
    have p1 : (gls ++ nf :: fas).Perm (nf :: (gls ++ fas)) := List.perm_middle
    have p2 := (((p1.cons gd).cons hd).cons Rc).cons St
    refine p2.trans ?_
    have q1 : (gd :: nf :: (gls ++ fas)).Perm (nf :: gd :: (gls ++ fas)) := List.Perm.swap _ _ _
    have q2 : (hd :: nf :: gd :: (gls ++ fas)).Perm (nf :: hd :: gd :: (gls ++ fas)) := List.Perm.swap _ _ _
    have q3 : (Rc :: nf :: hd :: gd :: (gls ++ fas)).Perm (nf :: Rc :: hd :: gd :: (gls ++ fas)) := List.Perm.swap _ _ _
    have q4 : (St :: nf :: Rc :: hd :: gd :: (gls ++ fas)).Perm (nf :: St :: Rc :: hd :: gd :: (gls ++ fas)) := List.Perm.swap _ _ _
    exact ((((q1.cons hd).trans q2).cons Rc).trans q3).cons St |>.trans q4
  have nst : nf ≠ St := fun z => ne St (by simp) z.symm
  refine ⟨t1.c.one c2 (t.new _ (by simp)), own'.nodup_iff.mpr (List.nodup_cons.mpr ⟨fun hm => ne nf hm rfl, t.own⟩), fun x hx => ?_, by rw [List.reverse_cons, List.map_append]; exact h, by rw [List.length_cons, t.fl]; rfl, fun i fa g h1 h2 => ?_, c2.at1 t1.rc n1, t.rl, fun i ra r h1 h2 => ?_, c2.at1 t1.hd n2, t1.gv.keep c2 (by simpa using n3) (fun l hl => by simpa using n4 l hl), t.s1, t.s2, t.s3, s4⟩
  · rcases List.mem_cons.mp (own'.mem_iff.mp hx) with rfl | hx
    · exact t.c.dom _ nn
    · exact t.new x hx
  · cases i with
    | zero =>
      cases (Option.some.inj (show Option.some nf = Option.some fa from h1))
      cases (Option.some.inj (show Option.some f = Option.some g from h2))
      exact ⟨hf.keep c2 (by simpa using nst), hp, hr⟩
    | succ i =>
      have old := t1.fr i fa g h1 h2
      exact ⟨old.1.keep c2 (by simpa using n5 fa (List.mem_of_getElem? h1)), old.2⟩
  · have old := (t.rs i ra r h1 h2).more (own' := ownL St Rc hd gd gls (nf :: fas)) fun x hx => by
      rcases List.mem_cons.mp (own'.mem_iff.mp hx) with rfl | hx
      · exact .inr nn
      · exact .inl hx
    exact (old.keep c1 (by simp)).keep c2 fun x hx => .inl (by rw [List.mem_singleton.mp hx]; simp)
end
end
end Fg
namespace Fg
open PySem PySem.Spec PyProof.Rows L2
local macro_rules | `(tactic| walk_at "hp") => `(tactic| first
  | assumption
  | exact upd_same
  | (refine Chg.at (by assumption) ?_; walk_at "hp")
  | (refine Chg.at1 (by assumption) ?_ (by walk_at "ne"); walk_at "hp"))
local macro_rules | `(tactic| walk_at "ne") => `(tactic| first | assumption | (apply Ne.symm; assumption))
local macro_rules | `(tactic| walk_at "sq") => `(tactic| first | assumption | exact sqL (by walk_at "hp") | (refine Chg.seq (by assumption) ?_; walk_at "sq"))
local macro_rules | `(tactic| walk_at "sz") => `(tactic| first | assumption | exact Nat.zero_le _ | (simp only [List.length_cons, List.length_nil]; decide) | exact Nat.le_trans (by first | omega | (simp; done) | (simp; omega)) (show 100000 ≤ sizeLine by decide) | exact Nat.lt_of_lt_of_le (by first | omega | (simp; done) | (simp; omega)) (show 100000 ≤ sizeLine by decide))
local macro_rules | `(tactic| walk_at "ix") => `(tactic| first | exact at0 | exact at1 | exact at2 | exact at3 | assumption | exact rfl | walk_at "ix2")
local macro_rules | `(tactic| walk_at "ix2") => `(tactic| fail)
local macro_rules | `(tactic| walk_at "num") => `(tactic| first | assumption | omega | decide | walk_at "num2")
local macro_rules | `(tactic| walk_at "num2") => `(tactic| fail)
local macro_rules | `(tactic| walk_at "im") => `(tactic| first | assumption | exact R.non (S := fun _ => False) | exact R.bl (S := fun _ => False) _ | exact R.int (S := fun _ => False) _ | exact R.str (S := fun _ => False) _ | (refine R.im (by assumption) ?_; walk_at "im"))
local macro_rules | `(tactic| walk_at "r") => `(tactic| first | assumption | exact R.non (S := fun _ => False) | exact R.bl (S := fun _ => False) _ | exact R.int (S := fun _ => False) _ | exact R.str (S := fun _ => False) _ | (refine R.same (by assumption) ?_; walk_at "r") | exact R.any (by walk_at "im"))
local macro_rules | `(tactic| walk_at "chg") => `(tactic| first
  | exact Chg.refl
  | assumption
  | (refine Chg.same ?_ (by assumption); walk_at "chg")
  | (refine Chg.both ?_ (by assumption); walk_at "chg")
  | (refine Chg.pre (by assumption) ?_; walk_at "chg"))
local macro_rules | `(tactic| walk_at "w1") => `(tactic| first
  | with_reducible apply w_seq
  | with_reducible apply w_asg
  | ((with_reducible apply w_var); (focus (exact rfl)))
  | with_reducible apply w_c
  | with_reducible apply w_op
  | with_reducible apply w_cons
  | with_reducible apply w_nil
  | with_reducible apply w_gName
  | with_reducible apply w_if
  | with_reducible apply w_test
  | with_reducible apply w_B
  | with_reducible apply w_isbl
  | with_reducible apply w_retN
  | with_reducible apply w_next
  | with_reducible apply w_drop
  | with_reducible apply w_cb
  | with_reducible apply w_call
  | with_reducible apply w_callN
  | with_reducible apply w_bm
  | with_reducible apply w_bm0
  | ((with_reducible apply w_tyL); (focus (walk_at "hp"; done)))
  | with_reducible apply w_dput
  | with_reducible apply w_m1
  | with_reducible apply w_isstr
  | with_reducible apply w_and
  | with_reducible apply w_or
  | with_reducible apply w_not
  | with_reducible apply w_andV
  | with_reducible apply w_orV
  | with_reducible apply w_notV
  | with_reducible apply w_ifE
  | with_reducible apply w_chain
  | with_reducible apply w_un
  | with_reducible apply w_neg
  | with_reducible apply w_add
  | with_reducible apply w_sub
  | ((with_reducible apply w_mod); (focus (walk_at "num"; done)))
  | ((with_reducible apply w_mul); (focus (walk_at "num"; done)))
  | ((with_reducible apply w_fdiv); (focus (walk_at "num"; done)))
  | ((with_reducible apply w_pow); (focus (walk_at "num"; done)))
  | with_reducible apply w_lt
  | with_reducible apply w_le
  | with_reducible apply w_gt
  | with_reducible apply w_ge
  | with_reducible apply w_ltS
  | with_reducible apply w_geS
  | with_reducible apply w_inC
  | with_reducible apply w_notInC
  | with_reducible apply w_isN
  | with_reducible apply w_notN
  | with_reducible apply w_isB
  | with_reducible apply w_notB
  | ((with_reducible apply w_addS); (focus (walk_at "sz"; done)))
  | ((with_reducible apply w_ixL); (focus (walk_at "sq"; done)); (focus (walk_at "ix"; done)))
  | ((with_reducible apply w_ixT); (focus (walk_at "hp"; done)); (focus (walk_at "ix"; done)))
  | ((with_reducible apply w_ixS); (focus (walk_at "sz"; done)); (focus (walk_at "ix"; done)))
  | with_reducible apply w_gSub
  | ((with_reducible apply w_gTup); (focus (walk_at "hp"; done)); (focus (exact rfl)))
  | with_reducible apply w_gCons
  | with_reducible apply w_gNil
  | ((with_reducible apply w_aug); (focus (exact rfl)))
  | with_reducible apply w_ipI
  | ((with_reducible apply w_eq); (focus (exact rfl)))
  | ((with_reducible apply w_ne); (focus (exact rfl)))
  | with_reducible apply w_max
  | with_reducible apply w_min
  | with_reducible apply w_abs
  | with_reducible apply w_intB
  | with_reducible apply w_intI
  | with_reducible apply w_tup1
  | with_reducible apply w_lst1
  | with_reducible apply w_sl
  | with_reducible apply w_part
  | with_reducible apply w_noPart
  | with_reducible apply w_isint
  | ((with_reducible apply w_slS); (focus (walk_at "sz"; done)))
  | with_reducible apply w_iteT
  | with_reducible apply w_iteF
  | with_reducible apply w_iteN
  | ((with_reducible apply w_iteYes); (focus (exact rfl)))
  | ((with_reducible apply w_iteNo); (focus (exact rfl)))
  | ((with_reducible apply w_lenL); (focus (walk_at "sq"; done)))
  | ((with_reducible apply w_lenT); (focus (walk_at "hp"; done)))
  | ((with_reducible apply w_lenS); (focus (walk_at "sz"; done)))
  | with_reducible apply w_lc
  | with_reducible apply w_for
  | with_reducible apply w_yes
  | ((with_reducible apply w_wipe); (focus (exact rfl)))
  | with_reducible apply w_iList
  | with_reducible apply w_iTup
  | with_reducible apply w_iStr
  | with_reducible apply w_iRng1
  | with_reducible apply w_iRng2
  | with_reducible apply w_iZip
  | with_reducible apply w_iEnum
  | ((with_reducible apply d_iList); (focus (walk_at "sq"; done)))
  | ((with_reducible apply d_iTup); (focus (walk_at "hp"; done)))
  | with_reducible apply d_iStr
  | ((with_reducible apply d_iRng1); (focus (walk_at "num"; done)); (focus (walk_at "num"; done)))
  | ((with_reducible apply d_iRng2); (focus (walk_at "num"; done)); (focus (walk_at "num"; done)); (focus (walk_at "num"; done)); (focus (walk_at "num"; done)))
  | ((with_reducible apply d_iZip); (focus (walk_at "sq"; done)); (focus (walk_at "sq"; done)))
  | ((with_reducible apply d_iEnum); (focus (walk_at "sq"; done)))
  | walk_at "w2")
local macro_rules | `(tactic| walk_at "w2") => `(tactic| fail)
local macro_rules | `(tactic| walk_at "wn") => `(tactic| repeat walk_at "w1")
local macro_rules | `(tactic| walk_at "w") => `(tactic| repeat (first | walk_at "w1" | with_reducible apply w_ret))
local macro_rules | `(tactic| walk_at "w2") => `(tactic| first
  | ((with_reducible apply w_isInt); (focus (walk_at "r"; done)))
  | ((with_reducible apply w_isBool); (focus (walk_at "r"; done)))
  | ((with_reducible apply w_isStr); (focus (walk_at "r"; done)))
  | ((with_reducible apply w_isTup); (focus (walk_at "r"; done)))
  | ((with_reducible apply w_isLst); (focus (walk_at "r"; done)))
  | ((with_reducible apply w_notInP); (focus (assumption)))
  | ((with_reducible apply w_ixP); (focus (assumption)); (focus (assumption))))
end Fg
namespace Fg
open PySem PySem.Spec PyProof.Rows L2
local macro_rules | `(tactic| walk_at "hp") => `(tactic| first
  | assumption
  | exact upd_same
  | (refine Chg.at (by assumption) ?_; walk_at "hp")
  | (refine Chg.at1 (by assumption) ?_ (by walk_at "ne"); walk_at "hp"))
local macro_rules | `(tactic| walk_at "ne") => `(tactic| first | assumption | (apply Ne.symm; assumption))
local macro_rules | `(tactic| walk_at "sq") => `(tactic| first | assumption | exact sqL (by walk_at "hp") | (refine Chg.seq (by assumption) ?_; walk_at "sq"))
local macro_rules | `(tactic| walk_at "sz") => `(tactic| first | assumption | exact Nat.zero_le _ | (simp only [List.length_cons, List.length_nil]; decide) | exact Nat.le_trans (by first | omega | (simp; done) | (simp; omega)) (show 100000 ≤ sizeLine by decide) | exact Nat.lt_of_lt_of_le (by first | omega | (simp; done) | (simp; omega)) (show 100000 ≤ sizeLine by decide))
local macro_rules | `(tactic| walk_at "ix") => `(tactic| first | exact at0 | exact at1 | exact at2 | exact at3 | assumption | exact rfl | walk_at "ix2")
local macro_rules | `(tactic| walk_at "ix2") => `(tactic| fail)
local macro_rules | `(tactic| walk_at "num") => `(tactic| first | assumption | omega | decide | walk_at "num2")
local macro_rules | `(tactic| walk_at "num2") => `(tactic| fail)
local macro_rules | `(tactic| walk_at "im") => `(tactic| first | assumption | exact R.non (S := fun _ => False) | exact R.bl (S := fun _ => False) _ | exact R.int (S := fun _ => False) _ | exact R.str (S := fun _ => False) _ | (refine R.im (by assumption) ?_; walk_at "im"))
local macro_rules | `(tactic| walk_at "r") => `(tactic| first | assumption | exact R.non (S := fun _ => False) | exact R.bl (S := fun _ => False) _ | exact R.int (S := fun _ => False) _ | exact R.str (S := fun _ => False) _ | (refine R.same (by assumption) ?_; walk_at "r") | exact R.any (by walk_at "im"))
local macro_rules | `(tactic| walk_at "chg") => `(tactic| first
  | exact Chg.refl
  | assumption
  | (refine Chg.same ?_ (by assumption); walk_at "chg")
  | (refine Chg.both ?_ (by assumption); walk_at "chg")
  | (refine Chg.pre (by assumption) ?_; walk_at "chg"))
local macro_rules | `(tactic| walk_at "w1") => `(tactic| first
  | with_reducible apply w_seq
  | with_reducible apply w_asg
  | ((with_reducible apply w_var); (focus (exact rfl)))
  | with_reducible apply w_c
  | with_reducible apply w_op
  | with_reducible apply w_cons
  | with_reducible apply w_nil
  | with_reducible apply w_gName
  | with_reducible apply w_if
  | with_reducible apply w_test
  | with_reducible apply w_B
  | with_reducible apply w_isbl
  | with_reducible apply w_retN
  | with_reducible apply w_next
  | with_reducible apply w_drop
  | with_reducible apply w_cb
  | with_reducible apply w_call
  | with_reducible apply w_callN
  | with_reducible apply w_bm
  | with_reducible apply w_bm0
  | ((with_reducible apply w_tyL); (focus (walk_at "hp"; done)))
  | with_reducible apply w_dput
  | with_reducible apply w_m1
  | with_reducible apply w_isstr
  | with_reducible apply w_and
  | with_reducible apply w_or
  | with_reducible apply w_not
  | with_reducible apply w_andV
  | with_reducible apply w_orV
  | with_reducible apply w_notV
  | with_reducible apply w_ifE
  | with_reducible apply w_chain
  | with_reducible apply w_un
  | with_reducible apply w_neg
  | with_reducible apply w_add
  | with_reducible apply w_sub
  | ((with_reducible apply w_mod); (focus (walk_at "num"; done)))
  | ((with_reducible apply w_mul); (focus (walk_at "num"; done)))
  | ((with_reducible apply w_fdiv); (focus (walk_at "num"; done)))
  | ((with_reducible apply w_pow); (focus (walk_at "num"; done)))
  | with_reducible apply w_lt
  | with_reducible apply w_le
  | with_reducible apply w_gt
  | with_reducible apply w_ge
  | with_reducible apply w_ltS
  | with_reducible apply w_geS
  | with_reducible apply w_inC
  | with_reducible apply w_notInC
  | with_reducible apply w_isN
  | with_reducible apply w_notN
  | with_reducible apply w_isB
  | with_reducible apply w_notB
  | ((with_reducible apply w_addS); (focus (walk_at "sz"; done)))
  | ((with_reducible apply w_ixL); (focus (walk_at "sq"; done)); (focus (walk_at "ix"; done)))
  | ((with_reducible apply w_ixT); (focus (walk_at "hp"; done)); (focus (walk_at "ix"; done)))
  | ((with_reducible apply w_ixS); (focus (walk_at "sz"; done)); (focus (walk_at "ix"; done)))
  | with_reducible apply w_gSub
  | ((with_reducible apply w_gTup); (focus (walk_at "hp"; done)); (focus (exact rfl)))
  | with_reducible apply w_gCons
  | with_reducible apply w_gNil
  | ((with_reducible apply w_aug); (focus (exact rfl)))
  | with_reducible apply w_ipI
  | ((with_reducible apply w_eq); (focus (exact rfl)))
  | ((with_reducible apply w_ne); (focus (exact rfl)))
  | with_reducible apply w_max
  | with_reducible apply w_min
  | with_reducible apply w_abs
  | with_reducible apply w_intB
  | with_reducible apply w_intI
  | with_reducible apply w_tup1
  | with_reducible apply w_lst1
  | with_reducible apply w_sl
  | with_reducible apply w_part
  | with_reducible apply w_noPart
  | with_reducible apply w_isint
  | ((with_reducible apply w_slS); (focus (walk_at "sz"; done)))
  | with_reducible apply w_iteT
  | with_reducible apply w_iteF
  | with_reducible apply w_iteN
  | ((with_reducible apply w_iteYes); (focus (exact rfl)))
  | ((with_reducible apply w_iteNo); (focus (exact rfl)))
  | ((with_reducible apply w_lenL); (focus (walk_at "sq"; done)))
  | ((with_reducible apply w_lenT); (focus (walk_at "hp"; done)))
  | ((with_reducible apply w_lenS); (focus (walk_at "sz"; done)))
  | with_reducible apply w_lc
  | with_reducible apply w_for
  | with_reducible apply w_yes
  | ((with_reducible apply w_wipe); (focus (exact rfl)))
  | with_reducible apply w_iList
  | with_reducible apply w_iTup
  | with_reducible apply w_iStr
  | with_reducible apply w_iRng1
  | with_reducible apply w_iRng2
  | with_reducible apply w_iZip
  | with_reducible apply w_iEnum
  | ((with_reducible apply d_iList); (focus (walk_at "sq"; done)))
  | ((with_reducible apply d_iTup); (focus (walk_at "hp"; done)))
  | with_reducible apply d_iStr
  | ((with_reducible apply d_iRng1); (focus (walk_at "num"; done)); (focus (walk_at "num"; done)))
  | ((with_reducible apply d_iRng2); (focus (walk_at "num"; done)); (focus (walk_at "num"; done)); (focus (walk_at "num"; done)); (focus (walk_at "num"; done)))
  | ((with_reducible apply d_iZip); (focus (walk_at "sq"; done)); (focus (walk_at "sq"; done)))
  | ((with_reducible apply d_iEnum); (focus (walk_at "sq"; done)))
  | walk_at "w2")
local macro_rules | `(tactic| walk_at "w2") => `(tactic| fail)
local macro_rules | `(tactic| walk_at "wn") => `(tactic| repeat walk_at "w1")
local macro_rules | `(tactic| walk_at "w") => `(tactic| repeat (first | walk_at "w1" | with_reducible apply w_ret))
local macro_rules | `(tactic| walk_at "w2") => `(tactic| first
  | ((with_reducible apply w_isInt); (focus (walk_at "r"; done)))
  | ((with_reducible apply w_isBool); (focus (walk_at "r"; done)))
  | ((with_reducible apply w_isStr); (focus (walk_at "r"; done)))
  | ((with_reducible apply w_isTup); (focus (walk_at "r"; done)))
  | ((with_reducible apply w_isLst); (focus (walk_at "r"; done)))
  | with_reducible apply w_fld
  | with_reducible apply w_sfld
  | with_reducible apply w_faug
  | with_reducible apply w_rAdd
  | with_reducible apply w_rSub
  | with_reducible apply w_make
  | with_reducible apply w_orT
  | with_reducible apply w_dgetd
  | with_reducible apply w_dgetk
  | with_reducible apply w_dsetd
  | ((with_reducible apply k_dgetd); (focus (walk_at "hp"; done)))
  | ((with_reducible apply k_dsetd); (focus (walk_at "hp"; done)))
  | walk_at "w3")
local macro_rules | `(tactic| walk_at "w3") => `(tactic| fail)
local macro_rules | `(tactic| walk_at "w3") => `(tactic| first
  | ((with_reducible apply g_Frame_number); (focus (assumption; done)); (focus (walk_at "hp"; done)))
  | ((with_reducible apply u_Frame_number); (focus (assumption; done)); (focus (walk_at "hp"; done)))
  | ((with_reducible apply g_Frame_path); (focus (assumption; done)); (focus (walk_at "hp"; done)))
  | ((with_reducible apply u_Frame_path); (focus (assumption; done)); (focus (walk_at "hp"; done)))
  | ((with_reducible apply g_Frame_rows); (focus (assumption; done)); (focus (walk_at "hp"; done)))
  | ((with_reducible apply u_Frame_rows); (focus (assumption; done)); (focus (walk_at "hp"; done)))
  | ((with_reducible apply g_Frame_arg); (focus (assumption; done)); (focus (walk_at "hp"; done)))
  | ((with_reducible apply u_Frame_arg); (focus (assumption; done)); (focus (walk_at "hp"; done)))
  | ((with_reducible apply g_Frame_at); (focus (assumption; done)); (focus (walk_at "hp"; done)))
  | ((with_reducible apply u_Frame_at); (focus (assumption; done)); (focus (walk_at "hp"; done)))
  | ((with_reducible apply g_Frame_past); (focus (assumption; done)); (focus (walk_at "hp"; done)))
  | ((with_reducible apply u_Frame_past); (focus (assumption; done)); (focus (walk_at "hp"; done)))
  | ((with_reducible apply g_Frame_born); (focus (assumption; done)); (focus (walk_at "hp"; done)))
  | ((with_reducible apply u_Frame_born); (focus (assumption; done)); (focus (walk_at "hp"; done)))
  | ((with_reducible apply g_Record_mark); (focus (assumption; done)); (focus (walk_at "hp"; done)))
  | ((with_reducible apply u_Record_mark); (focus (assumption; done)); (focus (walk_at "hp"; done)))
  | ((with_reducible apply g_Record_word); (focus (assumption; done)); (focus (walk_at "hp"; done)))
  | ((with_reducible apply u_Record_word); (focus (assumption; done)); (focus (walk_at "hp"; done)))
  | ((with_reducible apply g_Record_doer); (focus (assumption; done)); (focus (walk_at "hp"; done)))
  | ((with_reducible apply u_Record_doer); (focus (assumption; done)); (focus (walk_at "hp"; done)))
  | ((with_reducible apply g_Record_child); (focus (assumption; done)); (focus (walk_at "hp"; done)))
  | ((with_reducible apply u_Record_child); (focus (assumption; done)); (focus (walk_at "hp"; done)))
  | ((with_reducible apply g_Record_reads); (focus (assumption; done)); (focus (walk_at "hp"; done)))
  | ((with_reducible apply u_Record_reads); (focus (assumption; done)); (focus (walk_at "hp"; done)))
  | ((with_reducible apply g_Record_writes); (focus (assumption; done)); (focus (walk_at "hp"; done)))
  | ((with_reducible apply u_Record_writes); (focus (assumption; done)); (focus (walk_at "hp"; done)))
  | ((with_reducible apply g_Outcome_cells); (focus (assumption; done)); (focus (walk_at "hp"; done)))
  | ((with_reducible apply u_Outcome_cells); (focus (assumption; done)); (focus (walk_at "hp"; done)))
  | ((with_reducible apply g_Outcome_given); (focus (assumption; done)); (focus (walk_at "hp"; done)))
  | ((with_reducible apply u_Outcome_given); (focus (assumption; done)); (focus (walk_at "hp"; done)))
  | ((with_reducible apply g_Outcome_steps); (focus (assumption; done)); (focus (walk_at "hp"; done)))
  | ((with_reducible apply u_Outcome_steps); (focus (assumption; done)); (focus (walk_at "hp"; done)))
  | ((with_reducible apply g_Outcome_deepest); (focus (assumption; done)); (focus (walk_at "hp"; done)))
  | ((with_reducible apply u_Outcome_deepest); (focus (assumption; done)); (focus (walk_at "hp"; done))))
section
theorem atLast {xs : List V} {y : V} : atI (xs ++ [y]) (-1) = some y := by
  unfold atI
  have h : ixN (xs ++ [y]).length (-1) = some xs.length := by
    unfold ixN
    rw [List.length_append, List.length_singleton, if_neg (by decide), if_pos (by omega)]
    congr 1
    omega
  rw [h]
  simp
/-- the records' lists were not there in H0 -/
def RcF (K : PySem.W.Frag) (H0 H : Hp) (rcs : List Addr) : Prop := ∀ ra ∈ rcs, ∃ (dx : Addr) (a b c d : V) (rl wl : Addr), H ra = some (O_Record K dx a b c d (.ref rl) (.ref wl)) ∧ H0 rl = none ∧ H0 wl = none
theorem RcF.keep {K : PySem.W.Frag} {H0 H H' : Hp} {M rcs : List Addr} (r : RcF K H0 H rcs) (c : Chg M H H') (h : ∀ a ∈ rcs, a ∉ M) : RcF K H0 H' rcs := fun ra hr => by
  obtain ⟨dx, a, b, c', d, rl, wl, e, n1, n2⟩ := r ra hr
  exact ⟨dx, a, b, c', d, rl, wl, c.keep _ _ e (h ra hr), n1, n2⟩
end
section
def giftD (g : Str × List Int) : PyData := .tuple [.str g.1, .list (g.2.map PyData.int)]
def giftsD (gv : Given) : PyData := .list (gv.map giftD)
theorem imInts {S : Addr → Prop} {H : Hp} : ∀ ns : List Int, RA S H (ns.map V.int) (ns.map PyData.int)
  | [] => .nil
  | n :: r => .cons (.int n) (imInts r)
theorem ints_of {S : Addr → Prop} {H : Hp} : ∀ {ns : List Int} {xs : List V}, RA S H xs (ns.map PyData.int) → xs = ns.map V.int
  | [], _, h => by cases h; rfl
  | n :: r, _, h => by
    cases h with
    | cons a b => rw [ints_of b]; cases a; rfl
/-- an Outcome in the heap, its lists were not there in H0 -/
def OutAt (K : PySem.W.Frag) (H0 H : Hp) (o : Addr) (cds : List PyData) (gv : Given) (sds : List PyData) (dv : V) : Prop := ∃ (dx cl gl sl : Addr), H o = some (O_Outcome K dx (.ref cl) (.ref gl) (.ref sl) dv) ∧ R (fun a => H0 a = none) H (.ref cl) (.list cds) ∧ R (fun a => H0 a = none) H (.ref gl) (giftsD gv) ∧ R (fun a => H0 a = none) H (.ref sl) (.list sds)
def sp_Outcome___init__ (K : PySem.W.Frag) : Sp := fun vs H Q _ => ∃ (x dx cl gl sl : Addr) (dv : V) (cxs sxs : List V) (cds sds : List PyData) (gv : Given) (S : Addr → Prop), vs = [.ref x, .ref cl, .ref gl, .ref sl, dv] ∧ H x = some (.ins (He.ga K "Outcome") dx []) ∧ H cl = some (.lst cxs) ∧ ImA H cxs cds ∧ R S H (.ref gl) (giftsD gv) ∧ gv.length ≤ 50000 ∧ H sl = some (.lst sxs) ∧ ImA H sxs sds ∧
  ∀ H', Chg [x] H H' → OutAt K H H' x cds gv sds dv → Q .non H'
theorem OutAt.old {K : PySem.W.Frag} {H0 H0' H : Hp} {o : Addr} {cds sds : List PyData} {gv : Given} {dv : V} (h : OutAt K H0 H o cds gv sds dv) (c : ∀ a, H0 a = none → H0' a = none) : OutAt K H0' H o cds gv sds dv := by
  obtain ⟨dx, cl, gl, sl, h1, h2, h3, h4⟩ := h
  exact ⟨dx, cl, gl, sl, h1, h2.mono c, h3.mono c, h4.mono c⟩
theorem OutAt.same {K : PySem.W.Frag} {H0 H H' : Hp} {o : Addr} {cds sds : List PyData} {gv : Given} {dv : V} (h : OutAt K H0 H o cds gv sds dv) (c : Chg [] H H') : OutAt K H0 H' o cds gv sds dv := by
  obtain ⟨dx, cl, gl, sl, h1, h2, h3, h4⟩ := h
  exact ⟨dx, cl, gl, sl, c.at h1, h2.same c, h3.same c, h4.same c⟩
def sp_Outcome___len__ (K : PySem.W.Frag) : Sp := fun vs H Q _ => ∃ (x dx sl : Addr) (v1 v2 v4 : V) (xs : List V), vs = [.ref x] ∧ H x = some (O_Outcome K dx v1 v2 (.ref sl) v4) ∧ H sl = some (.lst xs) ∧ Q (.int xs.length) H
end
end Fg
namespace Fg
open PySem PySem.Spec PyProof.Rows L2
def sLt (x y : Str) : Bool := decide (x.cps.toList < y.cps.toList)
theorem sLt_swo {α : Type} (k : α → Str) : SrtO.Swo fun v u => sLt (k v) (k u) := by
  refine ⟨fun x y h => ?_, fun x y z h1 h2 => ?_⟩
  · have a := of_decide_eq_true h
    exact decide_eq_false (fun b => List.lt_irrefl _ (List.lt_trans a b))
  · have a := of_decide_eq_false h1
    have b := of_decide_eq_false h2
    exact decide_eq_false (List.not_lt.mpr (List.le_trans (List.not_lt.mp a) (List.not_lt.mp b)))
/-- a tuple of a text and one thing more -/
def IsRow (h : Heap) (v : Value) (x : Str) : Prop := ∃ (a : Addr) (o : Obj) (t : Tok) (u : Value) (n : Nat), v = .ref a ∧ h.get? a = some o ∧ o.cls = .type "tuple" ∧ o.data = .seq #[.str x t, u] n
theorem IsRow.keeps {h h' : Heap} {v : Value} {x : Str} (r : IsRow h v x) (k : ∀ b o, h.get? b = some o → o.cls = .type "tuple" → h'.get? b = some o) : IsRow h' v x := by
  obtain ⟨a, o, t, u, n, e, ho, hc, hd⟩ := r
  exact ⟨a, o, t, u, n, e, k a o ho hc, hc, hd⟩
theorem rows_firsts {h : Heap} {k : Value → Str} : ∀ {vs : List Value}, (∀ v ∈ vs, IsRow h v (k v)) → ∃ fs, PySem.W.KatTups h vs fs ∧ fs.length = vs.length ∧ ∀ f ∈ fs, ∃ x t, f = Value.str x t
  | [], _ => ⟨[], PySem.W.KatTups.nil, rfl, fun f hf => by simp at hf⟩
  | v :: vs, hv => by
    obtain ⟨fs, h1, h2, h3⟩ := rows_firsts fun u hu => hv u (List.mem_cons_of_mem _ hu)
    obtain ⟨a, o, t, u, n, rfl, ho, hc, hd⟩ := hv v List.mem_cons_self
    refine ⟨_ :: fs, PySem.W.KatTups.cons ho hc hd rfl h1, by simp [h2], fun f hf => ?_⟩
    rcases List.mem_cons.mp hf with rfl | hf
    · exact ⟨_, _, rfl⟩
    · exact h3 f hf
section
variable {prog : Program} {w : World} {A : Around} {s : Shared}
theorem row_cmp {vs : List Value} {k : Value → Str} (hp : ∀ v ∈ vs, IsRow s.heap v (k v)) (inj : ∀ v ∈ vs, ∀ u ∈ vs, k v = k u → v = u) : SrtO.Cmp prog w A s (tuples' true) (fun p => p.1 ∈ vs) (SrtO.lt2 fun v u => sLt (k v) (k u)) := by
  intro p q hm hm'
  show wpAny (model prog w) A (keyLt' (tuples' true) p.1 q.1) (fun r s' => s' = s ∧ r = sLt (k p.1) (k q.1)) (fun _ _ => False) s
  by_cases e : k p.1 = k q.1
  · have e1 := inj _ hm _ hm' e
    rw [e1]
    obtain ⟨a, o, t, u, n, e2, ho, hc, hd⟩ := hp _ hm'
    have irr : sLt (k q.1) (k q.1) = false := decide_eq_false (List.lt_irrefl _)
    rw [irr, e2]
    refine PySem.W.kat_lt ho hd ho hd ?_
    show PySem.W.KatLex prog w A true (decide (2 < 2)) _ [(.str (k q.1) t, .str (k q.1) t), (u, u)] 0 s
    refine PySem.W.kat_cons (SeqAt.EqAt.same _ prog w _ _ ?_)
    refine PySem.W.kat_yes (PySem.W.kat_cons (SeqAt.EqAt.same _ prog w _ _ ?_))
    exact PySem.W.kat_yes (PySem.W.kat_nil ⟨rfl, rfl⟩)
  · obtain ⟨a, o, t, u, n, e1, ho, hc, hd⟩ := hp _ hm
    obtain ⟨a', o', t', u', n', e2, ho', hc', hd'⟩ := hp _ hm'
    generalize k p.1 = x at *
    generalize k q.1 = y at *
    rw [e1, e2]
    refine PySem.W.kat_lt ho hd ho' hd' ?_
    show PySem.W.KatLex prog w A true (decide (2 < 2)) _ [(.str x t, .str y t'), (u, u')] 0 s
    refine PySem.W.kat_cons (wpAny_eqBool_str ?_)
    rw [decide_eq_false e]
    exact PySem.W.kat_no (oneLt_str ⟨rfl, rfl⟩)
theorem rows_sortable {a : Addr} {vs : List Value} {k : Value → Str} (h0 : 0 < vs.length) (hp : ∀ v ∈ vs, IsRow s.heap v (k v)) (inj : ∀ v ∈ vs, ∀ u ∈ vs, k v = k u → v = u) (ha : ∀ o, s.heap.get? a = some o → o.cls ≠ .type "tuple") : SrtO.SortableO prog w A s a vs fun v u => sLt (k v) (k u) := by
  intro h' keep
  have hp' : ∀ v ∈ vs, IsRow h' v (k v) := fun v hm => (hp v hm).keeps fun b o e c => keep b o (fun z => by subst z; exact ha o e c) e
  obtain ⟨fs, h1, h2, h3⟩ := rows_firsts hp'
  refine ⟨tuples' true, fun Q E hq => ?_, row_cmp (s := { s with heap := h' }) hp' inj⟩
  refine PySem.W.kat_kind (T := .type "str") h1 (by omega) (fun f hm => ?_) (by rfl) ?_
  · obtain ⟨x, t, rfl⟩ := h3 f hm
    exact PySem.W.Looks.now
  · have e : (Value.type "str" != Value.type "tuple") = true := by first | decide +kernel | rfl | decide
    rw [e]
    exact hq
end
end Fg
namespace Fg
open PySem PySem.Spec PyProof.Rows L2
section
abbrev NV := NestedKey × Addr × V
abbrev NU := NestedKey × Addr × Value
def entN (w : World) (x : NU) : DictEntry := ⟨x.1.hash w, .ref x.2.1, x.2.2⟩
def DnO (w : World) (a : Addr) (es : List NV) : HO := .ext fun h =>
  (a == sysModules) = false ∧ es.length ≤ sizeLine ∧ ∃ vs : List NU, Paired (fun p q => p.1 = q.1 ∧ p.2.1 = q.2.1 ∧ RelV p.2.2 q.2.2) es vs ∧
    ∃ o es' ep, h.get? a = some o ∧ o.ExactDict ∧ o.data = .dict es' ep ∧ es'.toList = vs.map (entN w) ∧ (vs.map (·.1)).Nodup
/-- at a stands a dict with these keys and values, in their order -/
def DnAt (w : World) (H : Hp) (a : Addr) (kvs : List (NestedKey × V)) : Prop :=
  ∃ es : List NV, H a = some (DnO w a es) ∧ (∀ e ∈ es, Im H (.ref e.2.1) e.1.data ∧ e.1.depth ≤ 8) ∧ kvs = es.map fun e => (e.1, e.2.2)
theorem DnAt.keep {w : World} {M : List Addr} {H H' : Hp} {a : Addr} {kvs : List (NestedKey × V)} (c : Chg M H H') (n : a ∉ M) (d : DnAt w H a kvs) : DnAt w H' a kvs :=
  let ⟨es, e, k, z⟩ := d; ⟨es, c.keep _ _ e n, fun x hx => ⟨(k x hx).1.im c, (k x hx).2⟩, z⟩
theorem DnAt.same {w : World} {H H' : Hp} {a : Addr} {kvs : List (NestedKey × V)} (c : Chg [] H H') (d : DnAt w H a kvs) : DnAt w H' a kvs := d.keep c (by simp)
theorem DnAt.some {w : World} {H : Hp} {a : Addr} {kvs : List (NestedKey × V)} (d : DnAt w H a kvs) : ∃ o, H a = some o := let ⟨_, e, _⟩ := d; ⟨_, e⟩
def NT (es : List NV) (vs : List NU) : Prop := Paired (fun (p : NV) (q : NU) => p.1 = q.1 ∧ p.2.1 = q.2.1 ∧ RelV p.2.2 q.2.2) es vs
theorem NT.val {es : List NV} {vs : List NU} (r : NT es vs) (k : NestedKey) : RelO (valV (es.map fun e => (e.1, e.2.2)) k) ((atKey vs k).map (·.2)) := by
  induction r with
  | nil => exact True.intro
  | @cons p q ps qs h t ih =>
    obtain ⟨h1, _, h2⟩ := h
    rw [List.map_cons]
    by_cases e : p.1 = k
    · have e' : q.1 = k := h1.symm.trans e
      have b : atKey (q :: qs) k = some q.2 := by simp [atKey, List.find?_cons, e']
      rw [valV_pos (p := (p.1, p.2.2)) e, b]; exact h2
    · have e' : ¬ q.1 = k := fun z => e (h1.trans z)
      have b : atKey (q :: qs) k = atKey qs k := by simp [atKey, List.find?_cons, e']
      rw [valV_neg (p := (p.1, p.2.2)) e, b]; exact ih
end
end Fg
namespace Fg
open PySem PySem.Spec PyProof.Rows L2
abbrev I3 := Int × Int × Int
/-- a tuple of three ints -/
def IsTri (h : Heap) (v : Value) (x : I3) : Prop := ∃ (a : Addr) (o : Obj) (t1 t2 t3 : Tok) (n : Nat), v = .ref a ∧ h.get? a = some o ∧ o.cls = .type "tuple" ∧ o.data = .seq #[.int x.1 t1, .int x.2.1 t2, .int x.2.2 t3] n
theorem IsTri.keeps {h h' : Heap} {v : Value} {x : I3} (r : IsTri h v x) (k : ∀ b o, h.get? b = some o → o.cls = .type "tuple" → h'.get? b = some o) : IsTri h' v x := by
  obtain ⟨a, o, t1, t2, t3, n, e, ho, hc, hd⟩ := r
  exact ⟨a, o, t1, t2, t3, n, e, k a o ho hc, hc, hd⟩
def dlK (ks : List Int) (ls : List Addr) : List (Key × V) := (ks.zip ls).map fun x => (Sum.inl x.1, V.ref x.2)
structure DlAt (H : Hp) (a : Addr) (ks : List Int) (ls : List Addr) (f : Int → List PyData) : Prop where
  dict : H a = some (.dK (dlK ks ls))
  len : ls.length = ks.length
  nd : ks.Nodup
  ndl : (a :: ls).Nodup
  at_ : ∀ (i : Nat) (l : Addr) (c : Int), ls[i]? = some l → ks[i]? = some c → ∃ xs, H l = some (.lst xs) ∧ ImA H xs (f c)
theorem DlAt.keep {M : List Addr} {H H' : Hp} {a : Addr} {ks : List Int} {ls : List Addr} {f : Int → List PyData} (h : DlAt H a ks ls f) (c : Chg M H H') (ha : a ∉ M) (hl : ∀ l ∈ ls, l ∉ M) : DlAt H' a ks ls f :=
  ⟨c.keep _ _ h.dict ha, h.len, h.nd, h.ndl, fun i l k e1 e2 => by
    obtain ⟨xs, h1, h2⟩ := h.at_ i l k e1 e2
    exact ⟨xs, c.keep _ _ h1 (hl l (List.mem_of_getElem? e1)), h2.im c⟩⟩
theorem DlAt.same {H H' : Hp} {a : Addr} {ks : List Int} {ls : List Addr} {f : Int → List PyData} (h : DlAt H a ks ls f) (c : Chg [] H H') : DlAt H' a ks ls f := h.keep c (by simp) fun _ _ => by simp
end Fg
namespace Fg
open PySem PySem.Spec PyProof.Rows L2
/-- a tuple of ints -/
def IsPth (h : Heap) (v : Value) (x : List Int) : Prop := ∃ (a : Addr) (o : Obj) (its : List Value) (n : Nat), v = .ref a ∧ h.get? a = some o ∧ o.cls = .type "tuple" ∧ o.data = .seq its.toArray n ∧ IntsAre its x
theorem IsPth.keeps {h h' : Heap} {v : Value} {x : List Int} (r : IsPth h v x) (k : ∀ b o, h.get? b = some o → o.cls = .type "tuple" → h'.get? b = some o) : IsPth h' v x := by
  obtain ⟨a, o, its, n, e, ho, hc, hd, hi⟩ := r
  exact ⟨a, o, its, n, e, k a o ho hc, hc, hd, hi⟩
theorem ints_at' {its : List Value} {x : List Int} (h : IntsAre its x) (j : Nat) (hj : j < its.length) : ∃ t, its[j] = .int (x.getD j 0) t := by
  obtain ⟨t, e⟩ := PyProof.Rows.IntsAre.int_at h j its[j] (List.getElem?_eq_getElem hj)
  exact ⟨t, e⟩
theorem ints_uniq {its : List Value} {x y : List Int} (h : IntsAre its x) (k : IntsAre its y) : x = y := by
  have l1 := PyProof.Rows.IntsAre.length h
  have l2 := PyProof.Rows.IntsAre.length k
  refine List.ext_getElem (by omega) fun j h1 h2 => ?_
  obtain ⟨t, e⟩ := ints_at' h j (by omega)
  obtain ⟨u, e2⟩ := ints_at' k j (by omega)
  rw [e] at e2
  have e3 := (Value.int.inj e2).1
  rw [List.getD_eq_getElem?_getD, List.getD_eq_getElem?_getD, List.getElem?_eq_getElem h1, List.getElem?_eq_getElem h2] at e3
  exact e3
theorem IsPth.uniq {h : Heap} {v : Value} {x y : List Int} (a : IsPth h v x) (b : IsPth h v y) : x = y := by
  obtain ⟨a1, o, its, n, rfl, ho, hc, hd, hi⟩ := a
  obtain ⟨a2, o2, its2, n2, e, ho2, hc2, hd2, hi2⟩ := b
  cases e
  rw [ho] at ho2
  cases (Option.some.inj ho2)
  rw [hd] at hd2
  have e : its.toArray = its2.toArray := by injection hd2
  have e2 : its = its2 := by simpa using e
  subst e2
  exact ints_uniq hi hi2
end Fg
namespace Fg
open PySem PySem.Spec PyProof.Rows L2
theorem IsRow.uniq {h : Heap} {v : Value} {x y : Str} (a : IsRow h v x) (b : IsRow h v y) : x = y := by
  obtain ⟨a1, o, t, u, n, rfl, ho, hc, hd⟩ := a
  obtain ⟨a2, o2, t2, u2, n2, e, ho2, hc2, hd2⟩ := b
  cases e
  rw [ho] at ho2
  cases (Option.some.inj ho2)
  rw [hd] at hd2
  injection hd2 with e1 _
  simp at e1
  exact e1.1.1
open Classical in
noncomputable def rowOf (h : Heap) (v : Value) : Str := if q : ∃ x, IsRow h v x then q.choose else ""
theorem rowOf_eq {h : Heap} {v : Value} {x : Str} (p : IsRow h v x) : rowOf h v = x := by
  unfold rowOf
  rw [dif_pos ⟨x, p⟩]
  exact (Exists.choose_spec (⟨x, p⟩ : ∃ x, IsRow h v x)).uniq p
theorem pairs_get {prog : Program} {w : World} {K : Type} [DecidableEq K] {knd : KeyKind prog w K} : ∀ {es : List DictEntry} {kvs : List (K × Value)}, Pairs knd es kvs → ∀ {j : Nat} {e : DictEntry}, es[j]? = some e → ∃ kv, kvs[j]? = some kv ∧ knd.is kv.1 e.key = true ∧ e.val = kv.2
  | _, _, .nil, j, e, h => by cases h
  | _, _, .cons a b r, 0, e, h => by
    cases h
    exact ⟨_, rfl, a, b⟩
  | _, _, .cons a b r, j + 1, e, h => pairs_get r (j := j) h
def grK (gs : List (Str × V)) : List (Key × V) := gs.map fun g => (Sum.inr g.1, g.2)
def rItemsK : V → List V → Hp → VK → Prop := fun x xs H Q => ∃ (a : Addr) (kvs : List (Key × V)), x = .ref a ∧ xs = [] ∧ H a = some (.dK kvs) ∧ ∀ p, H p = none → Q (.ref p) (upd H p (L2.DX.itemsO p a))
def rSortItK : List V → Hp → VK → Prop := fun vs H Q => ∃ (p a : Addr) (gs : List (Str × V)), vs = [.ref p] ∧ H p = some (L2.DX.itemsO p a) ∧ H a = some (.dK (grK gs)) ∧ (gs.map (·.1)).Nodup ∧
  ∀ (H' : Hp) (L : Addr) (ps : List (Addr × Str × V)), Chg [] H H' → H L = none → (ps.map (·.2)).Perm gs → ((ps.map (·.2)).Pairwise fun x y => sLt y.1 x.1 = false) → H' L = some (.lst (ps.map fun z => V.ref z.1)) →
    (∀ z ∈ ps, H z.1 = none ∧ z.1 ≠ L ∧ H' z.1 = some (.tup [.str z.2.1, z.2.2])) → Q (.ref L) H'
section
variable {X : Cx}
theorem mt_itemsK : MtR X "dict.items" rItemsK := by
  intro pins s σ H x xs v us Q I rx rxs h
  obtain ⟨a, kvs, rfl, rfl, ha, q⟩ := h
  cases rx
  cases rxs
  obtain ⟨hz, hs0, vs, kv, hdo⟩ := I.hok a _ ha
  have hf : H s.heap.objs.size = none := I.hok.fresh (Nat.le_refl _)
  refine call_meetsIn PySem.F.slot_dict_items hdo.typeIs PySem.F.entry_dict_items (PySem.F.args_dict_items_1 _) (meets_dict_items (mixKind X.prog X.w) a hs0) ⟨⟨vs, hdo⟩, ?_⟩
  exact ⟨.ref s.heap.objs.size, upd H s.heap.objs.size (L2.DX.itemsO s.heap.objs.size a), I.laid (t' := s.toks) (fun b u e => Heap.get?_push_of_some _ e) (Nat.le_refl _) (L2.DX.itemsO_ok (Heap.get?_push_size _ rfl)), rfl, q _ hf⟩
theorem p_sortItK (hc : X.calm = true) : CallR X (.builtin "sorted") rSortItK := by
  intro pins s σ H xs us Q I r h
  obtain ⟨p, d, gs, rfl, hp, hd, nd, q⟩ := h
  obtain rfl := L2.Vals.ref1 r
  have view : s.heap.IsItemsView p d := (show ObjOk X.prog X.w H s.heap p (L2.DX.itemsO p d) from I.hok p _ hp).1
  obtain ⟨hz, hs0, vs, kv, hdo⟩ := I.hok d _ hd
  obtain ⟨od, es, ep, hod, hcl, hdat, _, hpr, _⟩ := hdo
  have lk : (grK gs).length = vs.length := Paired.length kv
  have lg : gs.length = vs.length := by rw [← lk]; unfold grK; rw [List.length_map]
  have les : es.size = vs.length := by have := hpr.length; rwa [Array.length_toList] at this
  have hz' : gs.length ≤ sizeLine := by rw [lg, ← lk]; exact hz
  refine DT.sortedI (es := es) (ep := ep) (I.ok.hd hc) view ⟨od, hod, hcl, hdat⟩ (by omega) fun h' tk as hk hlt0 hl hG => ?_
  have I1 : Inv X pins σ H { s with heap := h', toks := tk } := I.kept hk
  have lak : as.length = gs.length := by omega
  have ndA : as.Nodup := List.Pairwise.imp (fun {a b} (h : a < b) => Nat.ne_of_lt h) hG.rise
  -- each pair that was made
  have pr : ∀ (j : Nat) (b : Addr), as[j]? = some b → ∃ (g : Str × V) (t : Tok) (x : Value), gs[j]? = some g ∧ RelV g.2 x ∧ h'.get? b = some { cls := .type "tuple", data := .seq #[Value.str g.1 t, x] } := fun j b hj => by
    obtain ⟨en, e1, e3⟩ := hG.pairs j b hj
    obtain ⟨kv1, g1, g2, g3⟩ := pairs_get hpr (show es.toList[j]? = some en by rw [Array.getElem?_toList]; exact e1)
    have hjl : j < gs.length := by rw [← lak]; exact (List.getElem?_eq_some_iff.mp hj).1
    have eg : (grK gs)[j]? = some (Sum.inr gs[j].1, gs[j].2) := by unfold grK; rw [List.getElem?_map, List.getElem?_eq_getElem hjl]; rfl
    obtain ⟨y, f1, f2, f3⟩ := LiI.paired_get kv eg
    rw [g1] at f1
    cases f1
    have f2' : Sum.inr gs[j].1 = kv1.1 := f2
    have rk : RelV (kV kv1.1) en.key := relV_key (show keyIs kv1.1 en.key = true from g2)
    rw [← f2'] at rk
    obtain ⟨t, et⟩ := rk
    refine ⟨gs[j], t, en.val, List.getElem?_eq_getElem hjl, by rw [g3]; exact f3, ?_⟩
    rw [e3, et]
  have row : ∀ (j : Nat) (b : Addr) (g : Str × V), as[j]? = some b → gs[j]? = some g → IsRow h' (.ref b) g.1 := fun j b g hj hg => by
    obtain ⟨g', t, x, e1, e2, e3⟩ := pr j b hj
    rw [hg] at e1
    cases e1
    exact ⟨b, _, t, x, _, rfl, e3, rfl, rfl⟩
  have at_ : ∀ v ∈ as.map Value.ref, ∃ (j : Nat) (b : Addr) (g : Str × V), v = .ref b ∧ as[j]? = some b ∧ gs[j]? = some g := fun v hv => by
    obtain ⟨b, hb, rfl⟩ := List.mem_map.mp hv
    obtain ⟨j, hj⟩ := List.getElem?_of_mem hb
    obtain ⟨g, _, _, hg, _⟩ := pr j b hj
    exact ⟨j, b, g, rfl, hj, hg⟩
  have hpR : ∀ v ∈ as.map Value.ref, IsRow h' v (rowOf h' v) := fun v hv => by
    obtain ⟨j, b, g, rfl, hj, hg⟩ := at_ v hv
    have := row j b g hj hg
    rw [rowOf_eq this]
    exact this
  have inj : ∀ v ∈ as.map Value.ref, ∀ u ∈ as.map Value.ref, rowOf h' v = rowOf h' u → v = u := fun v hv u hu e => by
    obtain ⟨j, b, g, rfl, hj, hg⟩ := at_ v hv
    obtain ⟨i, c, g', rfl, hi, hg'⟩ := at_ u hu
    rw [rowOf_eq (row j b g hj hg), rowOf_eq (row i c g' hi hg')] at e
    have : j = i := (List.getElem?_inj (i := j) (j := i) (by rw [List.length_map]; exact (List.getElem?_eq_some_iff.mp hg).1) nd).mp (by rw [List.getElem?_map, List.getElem?_map, hg, hg']; show some g.1 = some g'.1; rw [e])
    subst this
    rw [hj] at hi
    cases hi
    rfl
  have hoL : (h'.push (seqObj "list" (as.map Value.ref).toArray 0)).get? h'.objs.size = some (seqObj "list" (as.map Value.ref).toArray 0) := Heap.get?_push_size _ rfl
  show wpAny _ _ _ _ _ { s with heap := h'.push (seqObj "list" (as.map Value.ref).toArray 0), toks := tk }
  refine wpAny_call_entry PyProof.Rows.slot_list_sort ⟨_, hoL, rfl⟩ PyProof.Rows.entry_list_sort
    (SrtO.list_sort_ord (sLt_swo (rowOf h')) hoL (by rw [List.length_map]; omega) (fun h2 => ?_) fun out h1 h2 => ⟨.none, rfl, ?_⟩) (PyProof.Rows.args_list_sort _)
  · refine rows_sortable (by omega) (fun v hm => (hpR v hm).keeps fun b o e _ => Heap.get?_push_of_some _ e) inj fun o e => ?_
    have e' : some o = some (seqObj "list" (as.map Value.ref).toArray 0) := e.symm.trans hoL
    cases e'
    intro c
    exact absurd (Value.type.inj c) (by decide)
  · have hS : ∀ z : List (Addr × Str × V), (z.map fun z => Value.ref z.1) = (z.map (·.1)).map Value.ref := fun z => by rw [List.map_map]; rfl
    have ez0 : ((as.zip gs).map fun z : Addr × Str × V => Value.ref z.1) = as.map Value.ref := by
      rw [hS, List.map_fst_zip (by omega)]
    obtain ⟨zs, pz, ez⟩ := L2.perm_lift (fun z : Addr × Str × V => Value.ref z.1) h2.perm (as.zip gs) ez0
    have idx : ∀ z ∈ zs, ∃ j : Nat, as[j]? = some z.1 ∧ gs[j]? = some z.2 := fun z hz => by
      obtain ⟨j, hj⟩ := List.getElem?_of_mem (pz.mem_iff.mp hz)
      exact ⟨j, List.getElem?_zip_eq_some.mp hj⟩
    have hperm : (zs.map (·.2)).Perm gs := by
      have e := pz.map (·.2)
      rwa [List.map_snd_zip (by omega)] at e
    have hsort : (zs.map (·.2)).Pairwise fun x y => sLt y.1 x.1 = false := by
      have h1 : out.Pairwise fun x y => sLt (rowOf h' y) (rowOf h' x) = false := h1
      rw [← ez, List.pairwise_map] at h1
      rw [List.pairwise_map]
      refine List.Pairwise.imp_of_mem (fun {x y} hx hy h => ?_) h1
      obtain ⟨j, j1, j2⟩ := idx x hx
      obtain ⟨i, i1, i2⟩ := idx y hy
      rw [rowOf_eq (row j _ _ j1 j2), rowOf_eq (row i _ _ i1 i2)] at h
      exact h
    obtain ⟨e', he'⟩ := PyProof.Rows.sortedHeap_at (vs := as.map Value.ref) (out := out.toArray) hoL
    have lzs : zs.length = gs.length := by have := hperm.length_eq; rwa [List.length_map] at this
    have hlen : (zs.map fun z => V.ref z.1).length ≤ sizeLine := by rw [List.length_map]; omega
    have kF : ∀ b o, h'.get? b = some o → (sortedHeap (h'.push (seqObj "list" (as.map Value.ref).toArray 0)) h'.objs.size (as.map Value.ref) out.toArray).get? b = some o := fun b o e => by
      have hb : b < h'.objs.size := Heap.lt_size e
      rw [PyProof.Rows.sortedHeap_old (Nat.ne_of_lt hb) (by rw [size_push']; exact Nat.lt_succ_of_lt hb)]
      exact Heap.get?_push_of_some _ e
    have hlt : s.heap.objs.size ≤ h'.objs.size := Nat.le_of_lt hlt0
    have hn0 : H h'.objs.size = none := I.hok.fresh hlt
    have rv : Vals (zs.map fun z => V.ref z.1) out := by
      rw [← ez]
      exact vals_maps (fun z : Addr × Str × V => V.ref z.1) (fun z => Value.ref z.1) zs fun _ _ => rfl
    have I2 : Inv X pins σ (upd H h'.objs.size (.lst (zs.map fun z => V.ref z.1))) { s with heap := sortedHeap (h'.push (seqObj "list" (as.map Value.ref).toArray 0)) h'.objs.size (as.map Value.ref) out.toArray, toks := tk } :=
      I1.laid (t' := tk) (fun b u e => kF b u e) (Nat.le_refl _) (show ObjOk X.prog X.w _ _ _ (.lst (zs.map fun z => V.ref z.1)) from ⟨hlen, out, e', rv, he'⟩)
    obtain ⟨H2, I3, g, qt⟩ := L2.DX.takeT (P := fun b vs => ∃ (j : Nat) (g : Str × V), as[j]? = some b ∧ gs[j]? = some g ∧ vs = [.str g.1, g.2]) I as _ I2 ndA fun b hb => by
      obtain ⟨j, hj⟩ := List.getElem?_of_mem hb
      obtain ⟨g, t, x, hg, rx, hgb⟩ := pr j b hj
      have hbl : s.heap.objs.size ≤ b := Nat.le_of_lt (hG.above b hb)
      refine ⟨hbl, ?_, [.str g.1, g.2], ⟨j, g, hj, hg, rfl⟩, fun H3 => ⟨(by rw [sizeLine_eq]; show 2 ≤ 16777216; omega), [Value.str g.1 t, x], .cons ⟨t, rfl⟩ (.cons rx .nil), ⟨_, kF _ _ hgb, rfl, 0, rfl⟩⟩⟩
      rw [upd_ne (Nat.ne_of_lt (Heap.lt_size hgb))]
      exact I.hok.fresh hbl
    have gr : ∀ b o, H b = some o → H2 b = some o := fun b o e => g b o (by rw [upd_ne (ne_of_none e hn0)]; exact e)
    refine ⟨.ref h'.objs.size, H2, I3, rfl, q H2 h'.objs.size zs ⟨fun a o e _ => gr a o e, fun a e => ?_, fun a xs e => gr a _ e⟩ hn0 hperm hsort (g _ _ upd_same) fun z' hz' => ?_⟩
    · cases hh : H a with
      | none => rfl
      | some o => rw [gr a o hh] at e; cases e
    · obtain ⟨i, i1, i2⟩ := idx z' hz'
      obtain ⟨vs', ⟨j, gg, j1, j2, ev⟩, hH⟩ := qt z'.1 (List.mem_of_getElem? i1)
      have eij : i = j := (List.getElem?_inj (List.getElem?_eq_some_iff.mp i1).1 ndA).mp (i1.trans j1.symm)
      subst eij
      rw [i2] at j2
      cases j2
      obtain ⟨_, _, _, _, _, hgb⟩ := pr i _ i1
      refine ⟨I.hok.fresh (Nat.le_of_lt (hG.above _ (List.mem_of_getElem? i1))), Nat.ne_of_lt (Heap.lt_size hgb), ?_⟩
      rw [hH, ev]
end
end Fg
namespace Fg
open PySem PySem.Spec PyProof.Rows L2
def giK (gs : List (Int × Int)) : List (Key × V) := gs.map fun g => (Sum.inl g.1, V.int g.2)
def rSortItI : List V → Hp → VK → Prop := fun vs H Q => ∃ (p a : Addr) (gs : List (Int × Int)), vs = [.ref p] ∧ H p = some (L2.DX.itemsO p a) ∧ H a = some (.dK (giK gs)) ∧
  ∀ (H' : Hp) (L : Addr) (ps : List (Addr × Int × Int)), Chg [] H H' → H L = none → (ps.map (·.2)).Perm gs → H' L = some (.lst (ps.map fun z => V.ref z.1)) →
    (∀ z ∈ ps, H z.1 = none ∧ z.1 ≠ L ∧ H' z.1 = some (.tup [.int z.2.1, .int z.2.2])) → Q (.ref L) H'
section
variable {X : Cx}
theorem p_sortItI (hc : X.calm = true) : CallR X (.builtin "sorted") rSortItI := by
  intro pins s σ H xs us Q I r h
  obtain ⟨p, d, gs, rfl, hp, hd, q⟩ := h
  obtain rfl := L2.Vals.ref1 r
  have view : s.heap.IsItemsView p d := (show ObjOk X.prog X.w H s.heap p (L2.DX.itemsO p d) from I.hok p _ hp).1
  obtain ⟨hz, hs0, vs, kv, hdo⟩ := I.hok d _ hd
  obtain ⟨od, es, ep, hod, hcl, hdat, _, hpr, _⟩ := hdo
  have lk : (giK gs).length = vs.length := Paired.length kv
  have lg : gs.length = vs.length := by rw [← lk]; unfold giK; rw [List.length_map]
  have les : es.size = vs.length := by have := hpr.length; rwa [Array.length_toList] at this
  have hz' : gs.length ≤ sizeLine := by rw [lg, ← lk]; exact hz
  refine DT.sortedI (es := es) (ep := ep) (I.ok.hd hc) view ⟨od, hod, hcl, hdat⟩ (by omega) fun h' tk as hk hlt0 hl hG => ?_
  have I1 : Inv X pins σ H { s with heap := h', toks := tk } := I.kept hk
  have lak : as.length = gs.length := by omega
  have ndA : as.Nodup := List.Pairwise.imp (fun {a b} (h : a < b) => Nat.ne_of_lt h) hG.rise
  -- each pair that was made
  have pr : ∀ (j : Nat) (b : Addr), as[j]? = some b → ∃ (g : Int × Int) (t u : Tok), gs[j]? = some g ∧ h'.get? b = some { cls := .type "tuple", data := .seq #[Value.int g.1 t, Value.int g.2 u] } := fun j b hj => by
    obtain ⟨en, e1, e3⟩ := hG.pairs j b hj
    obtain ⟨kv1, g1, g2, g3⟩ := pairs_get hpr (show es.toList[j]? = some en by rw [Array.getElem?_toList]; exact e1)
    have hjl : j < gs.length := by rw [← lak]; exact (List.getElem?_eq_some_iff.mp hj).1
    have eg : (giK gs)[j]? = some (Sum.inl gs[j].1, V.int gs[j].2) := by unfold giK; rw [List.getElem?_map, List.getElem?_eq_getElem hjl]; rfl
    obtain ⟨y, f1, f2, f3⟩ := LiI.paired_get kv eg
    rw [g1] at f1
    cases f1
    have f2' : Sum.inl gs[j].1 = kv1.1 := f2
    have rk : RelV (kV kv1.1) en.key := relV_key (show keyIs kv1.1 en.key = true from g2)
    rw [← f2'] at rk
    obtain ⟨t, et⟩ := rk
    obtain ⟨u, eu⟩ := (show ∃ u, kv1.2 = Value.int gs[j].2 u from f3)
    refine ⟨gs[j], t, u, List.getElem?_eq_getElem hjl, ?_⟩
    rw [e3, et, g3, eu]
  have hpR : ∀ v ∈ as.map Value.ref, ∃ x y, Srt.IsPair h' v x y := fun v hv => by
    obtain ⟨b, hb, rfl⟩ := List.mem_map.mp hv
    obtain ⟨j, hj⟩ := List.getElem?_of_mem hb
    obtain ⟨g, t, u, hg, ho⟩ := pr j b hj
    exact ⟨g.1, g.2, b, _, t, u, _, rfl, ho, rfl, rfl⟩
  have hoL : (h'.push (seqObj "list" (as.map Value.ref).toArray 0)).get? h'.objs.size = some (seqObj "list" (as.map Value.ref).toArray 0) := Heap.get?_push_size _ rfl
  show wpAny _ _ _ _ _ { s with heap := h'.push (seqObj "list" (as.map Value.ref).toArray 0), toks := tk }
  refine wpAny_call_entry PyProof.Rows.slot_list_sort ⟨_, hoL, rfl⟩ PyProof.Rows.entry_list_sort
    (Srt.list_sort_any hoL (by rw [List.length_map]; omega) (fun h2 => ?_) fun out h2 => ⟨.none, rfl, ?_⟩) (PyProof.Rows.args_list_sort _)
  · refine Srt.pairs_sortable (by omega) (fun v hm => (hpR v hm).imp fun x p => p.imp fun y p => p.keeps fun b o e _ => Heap.get?_push_of_some _ e) fun o e => ?_
    have e' : some o = some (seqObj "list" (as.map Value.ref).toArray 0) := e.symm.trans hoL
    cases e'
    intro c
    exact absurd (Value.type.inj c) (by decide)
  · have hS : ∀ z : List (Addr × Int × Int), (z.map fun z => Value.ref z.1) = (z.map (·.1)).map Value.ref := fun z => by rw [List.map_map]; rfl
    have ez0 : ((as.zip gs).map fun z : Addr × Int × Int => Value.ref z.1) = as.map Value.ref := by
      rw [hS, List.map_fst_zip (by omega)]
    obtain ⟨zs, pz, ez⟩ := L2.perm_lift (fun z : Addr × Int × Int => Value.ref z.1) h2 (as.zip gs) ez0
    have idx : ∀ z ∈ zs, ∃ j : Nat, as[j]? = some z.1 ∧ gs[j]? = some z.2 := fun z hz => by
      obtain ⟨j, hj⟩ := List.getElem?_of_mem (pz.mem_iff.mp hz)
      exact ⟨j, List.getElem?_zip_eq_some.mp hj⟩
    have hperm : (zs.map (·.2)).Perm gs := by
      have e := pz.map (·.2)
      rwa [List.map_snd_zip (by omega)] at e
    obtain ⟨e', he'⟩ := PyProof.Rows.sortedHeap_at (vs := as.map Value.ref) (out := out.toArray) hoL
    have lzs : zs.length = gs.length := by have := hperm.length_eq; rwa [List.length_map] at this
    have hlen : (zs.map fun z => V.ref z.1).length ≤ sizeLine := by rw [List.length_map]; omega
    have kF : ∀ b o, h'.get? b = some o → (sortedHeap (h'.push (seqObj "list" (as.map Value.ref).toArray 0)) h'.objs.size (as.map Value.ref) out.toArray).get? b = some o := fun b o e => by
      have hb : b < h'.objs.size := Heap.lt_size e
      rw [PyProof.Rows.sortedHeap_old (Nat.ne_of_lt hb) (by rw [size_push']; exact Nat.lt_succ_of_lt hb)]
      exact Heap.get?_push_of_some _ e
    have hlt : s.heap.objs.size ≤ h'.objs.size := Nat.le_of_lt hlt0
    have hn0 : H h'.objs.size = none := I.hok.fresh hlt
    have rv : Vals (zs.map fun z => V.ref z.1) out := by
      rw [← ez]
      exact vals_maps (fun z : Addr × Int × Int => V.ref z.1) (fun z => Value.ref z.1) zs fun _ _ => rfl
    have I2 : Inv X pins σ (upd H h'.objs.size (.lst (zs.map fun z => V.ref z.1))) { s with heap := sortedHeap (h'.push (seqObj "list" (as.map Value.ref).toArray 0)) h'.objs.size (as.map Value.ref) out.toArray, toks := tk } :=
      I1.laid (t' := tk) (fun b u e => kF b u e) (Nat.le_refl _) (show ObjOk X.prog X.w _ _ _ (.lst (zs.map fun z => V.ref z.1)) from ⟨hlen, out, e', rv, he'⟩)
    obtain ⟨H2, I3, g, qt⟩ := L2.DX.takeT (P := fun b vs => ∃ (j : Nat) (g : Int × Int), as[j]? = some b ∧ gs[j]? = some g ∧ vs = [.int g.1, .int g.2]) I as _ I2 ndA fun b hb => by
      obtain ⟨j, hj⟩ := List.getElem?_of_mem hb
      obtain ⟨g, t, u, hg, hgb⟩ := pr j b hj
      have hbl : s.heap.objs.size ≤ b := Nat.le_of_lt (hG.above b hb)
      refine ⟨hbl, ?_, [.int g.1, .int g.2], ⟨j, g, hj, hg, rfl⟩, fun H3 => ⟨(by rw [sizeLine_eq]; show 2 ≤ 16777216; omega), [Value.int g.1 t, Value.int g.2 u], .cons ⟨t, rfl⟩ (.cons ⟨u, rfl⟩ .nil), ⟨_, kF _ _ hgb, rfl, 0, rfl⟩⟩⟩
      rw [upd_ne (Nat.ne_of_lt (Heap.lt_size hgb))]
      exact I.hok.fresh hbl
    have gr : ∀ b o, H b = some o → H2 b = some o := fun b o e => g b o (by rw [upd_ne (ne_of_none e hn0)]; exact e)
    refine ⟨.ref h'.objs.size, H2, I3, rfl, q H2 h'.objs.size zs ⟨fun a o e _ => gr a o e, fun a e => ?_, fun a xs e => gr a _ e⟩ hn0 hperm (g _ _ upd_same) fun z' hz' => ?_⟩
    · cases hh : H a with
      | none => rfl
      | some o => rw [gr a o hh] at e; cases e
    · obtain ⟨i, i1, i2⟩ := idx z' hz'
      obtain ⟨vs', ⟨j, gg, j1, j2, ev⟩, hH⟩ := qt z'.1 (List.mem_of_getElem? i1)
      have eij : i = j := (List.getElem?_inj (List.getElem?_eq_some_iff.mp i1).1 ndA).mp (i1.trans j1.symm)
      subst eij
      rw [i2] at j2
      cases j2
      obtain ⟨_, _, _, _, hgb⟩ := pr i _ i1
      refine ⟨I.hok.fresh (Nat.le_of_lt (hG.above _ (List.mem_of_getElem? i1))), Nat.ne_of_lt (Heap.lt_size hgb), ?_⟩
      rw [hH, ev]
end
end Fg
namespace LmX
open PySem PySem.Spec PyProof.Rows L2 LamX NdefX
/-- a lambda's words, the cells that it captured, its code object -/
structure LF where
  qual : Str
  params : Arguments
  body : Expr
  scope : Scope
  cl : List (Str × Addr)
  c : Addr
abbrev LF.fd (F : LF) (pm ctv : Value) : FuncData := PySem.W.kla_fn "<lambda>" F.qual F.params F.body F.scope F.cl pm (.ref F.c) ctv
/-- the object at f is the lambda F -/
def LmO (f : Addr) (F : LF) : HO := .ext fun h => ∃ (od : Option Addr) (sl : Array (Option Value)) (pm ctv : Value), h.get? f = some (⟨.type "function", od, .func (F.fd pm ctv), sl⟩ : Obj)
end LmX
namespace LmX
open PySem PySem.Spec PyProof.Rows L2 LamX NdefX
structure LmOk (P : Program) (w : World) (K : PySem.W.Frag) (mg : Str → Option Value) (base : Heap) (k : Nat) (mk : Addr → LF) (sp : Sp) : Prop where
  run : ∀ (f c' : Addr) (A : Around) (outer : List Env) (s : Shared) (H : Hp) (us : List Value) (vs : List V) (Q : VK), Room k A → Env0 P w K mg base A outer s H → H f = some (LmO f (mk c')) → H c' = some (CodeO c' (mk c').qual) →
    Vals vs us → sp vs H Q L2.E0 → codeAny (model P w) A (.call (.ref f) ⟨us, []⟩) (CR L2.CX0 outer P w H s Q L2.E0) s
section
variable {P : Program} {w : World} {K : PySem.W.Frag} {mg : Str → Option Value} {base : Heap} {k j : Nat} {mk : Addr → LF} {sp : Sp}
theorem LmOk.mono (o : LmOk P w K mg base j mk sp) (h : j ≤ k) : LmOk P w K mg base k mk sp := ⟨fun f c' A outer s H us vs Q hr => o.run f c' A outer s H us vs Q (hr.mono h)⟩
end
end LmX
namespace Fg
open PySem PySem.Spec PyProof.Rows L2
section
def cReprI (C : Addr) (sp : Sp) : List V → Hp → VK → Prop := fun xs H Q => ∃ (a dx : Addr) (fs : List (Str × V)), xs = [.ref a] ∧ H a = some (.ins C dx fs) ∧ sp [.ref a] H (fun v H' => ∃ y : Str, v = .str y ∧ Q (.str y) H') E0
theorem w_reprI {C : Addr} {sp : Sp} {H : Hp} {Q : VK} {a dx : Addr} {fs : List (Str × V)} (h : H a = some (.ins C dx fs)) (q : sp [.ref a] H (fun v H' => ∃ y : Str, v = .str y ∧ Q (.str y) H') E0) : cReprI C sp [.ref a] H Q := ⟨a, dx, fs, rfl, h, q⟩
end
section
abbrev tJoin (ts : List TE) : TE := fun σ H Q => tJs ts Str.empty σ H fun out H1 => Q (.str out) H1
def tFmtD (te : TE) : TE := fun σ H Q => te σ H fun x H1 => ∃ (a : Addr) (d : PyData) (S : Addr → Prop), x = .ref a ∧ R S H1 (.ref a) d ∧ noDic d = true ∧ d.showable = true ∧ d.depth ≤ 50 ∧ d.shown.length ≤ sizeLine ∧ Q (.str d.shown) H1
section
variable {X : Cx}
theorem pe_fmtD {e : Expr} {te : TE} {pos : Pos} (hG : X.A.guards = some []) (hu : X.A.units + 64 < cLine) (he : PE X e te) : PE X (.FormattedValue e (-1) none pos) (tFmtD te) := by
  refine ⟨fun pins s σ H Q I h => ?_⟩
  refine wpAny_FormattedValue_plain (thn (he.run pins s σ H _ I h) fun v s1 hv => ?_)
  obtain ⟨x, H1, I1, r1, a, d, S, rfl, rd, nd, sh, dp, sz, q⟩ := hv
  obtain ⟨as, rr⟩ := Dp.reads I1 d (.ref a) v (rd.dp nd) r1
  cases (show v = Value.ref a from r1)
  exact formatField_of_reads rr sh (PyData.noDict_hsm (noDic_hasDict d nd)) hG (by omega) (fun _ _ z => z) (fun h' u tk kp => ⟨.str _, H1, I1.kept kp, ⟨_, rfl⟩, q⟩) sz
end
theorem w_fmtD {te : TE} {σ : L2.St} {H : Hp} {Q : VK} (h : te σ H fun x H1 => ∃ (a : Addr) (d : PyData) (S : Addr → Prop), x = .ref a ∧ R S H1 (.ref a) d ∧ noDic d = true ∧ d.showable = true ∧ d.depth ≤ 50 ∧ d.shown.length ≤ sizeLine ∧ Q (.str d.shown) H1) : tFmtD te σ H Q := h
structure RpG (P : Program) (w : World) (K : PySem.W.Frag) (mg : Str → Option Value) (base : Heap) (k : Nat) (C : Addr) (sp : Sp) : Prop where
  ex : ∃ (f : Addr) (fd : FuncData) (ps : List Str), FnG P w K mg base CX0 k f fd ps sp ∧ PySem.W.findIn K (.ref C) "__repr__" = some (some (.ref f)) ∧ PySem.W.isFn K (.ref f) = true ∧ Binds K fd ps []
theorem p_reprG {X : Cx} {k j : Nat} {C : Addr} {sp : Sp} (L : RpG X.prog X.w X.K X.mg X.base k C sp) (hG : X.A.guards = some []) (hr : Room j X.A) (hk : k + 1 ≤ j) : CallR X (.builtin "repr") (cReprI C sp) := by
  intro pins s σ H xs us Q I r h
  obtain ⟨f, fd, ps, F, hs, hf, hb⟩ := L.ex
  obtain ⟨a, dx, fs, rfl, ha, hsp⟩ := h
  rw [Vals.ref1 r]
  obtain ⟨mA, J, _⟩ := ins_get I.hok ha
  obtain ⟨od, J, _⟩ := J.look
  have room : Room k X.A.in1 := (hr.mono hk).in1
  have e0 : Env0 X.prog X.w X.K X.mg X.base X.A.in1 X.stack s H := by
    have e := I.env0
    exact ⟨e.frames, e.mod, e.bs, e.bsz, e.funs, e.frf, e.hok, e.bare⟩
  refine Calls.call_function_entry PySem.F.kind_repr PySem.F.plain_repr PySem.F.entry_repr (PySem.F.args_repr1 _) ?_
  unfold Builtin.«repr»
  refine wpAny_bind (m := oneArg "repr" _) (wpAny_pure ?_)
  have hu := room.units
  refine wpAny_bind (wpAny_cRoomFor (by omega) ?_)
  refine wpAny_bind (wpAny_bind (J.type.here ((PySem.W.looks_findIn I.kIn hs).here ?_)))
  show wpAny _ _ (if (some (Value.ref f)).isNone = true then _ else _) _ _ _
  rw [if_neg (by simp)]
  have hl := F.lenG _ _ _ _ hsp
  have r2 : Vals [V.ref a] [Value.ref a] := .cons rfl .nil
  refine wpAny_bind (m := callSpecialIfBound? (.ref a) (Str.ofString "__repr__") _) (PySem.W.ifBound_K I.kIn J hs hf ?_)
  refine wpAny_call (codeAny_mono (F.runG X.A.in1 X.stack s H ⟨[.ref a], []⟩ [.ref a] [.ref a] _ E0 hG room e0 (by
    have := hb s [.ref a] I.kIn (by simpa using hl)
    simpa using this) r2 hsp) fun r s' hq => ?_)
  cases r with
  | error e => exact (pass0 (X := X) pins σ H s e s' I hq)
  | ok fl =>
    cases fl with
    | ret w =>
      obtain ⟨z, H', I', rz, y, ez, q⟩ := I.after hq
      subst ez
      obtain ⟨t, rfl⟩ := (show ∃ t, w = Value.str y t from rz)
      refine wpAny_bind (PySem.wpAny_isInstance (typeIs_str _ _ _) isSubtype_str_str ?_)
      first
        | exact wpAny_pure ⟨_, rfl, .str y, H', I', ⟨t, rfl⟩, q⟩
        | (rw [if_pos rfl]; exact wpAny_pure ⟨_, rfl, .str y, H', I', ⟨t, rfl⟩, q⟩)
        | (simp only [if_true]; exact wpAny_pure ⟨_, rfl, .str y, H', I', ⟨t, rfl⟩, q⟩)
    | next => exact False.elim hq
    | brk => exact False.elim hq
    | cont => exact False.elim hq
section
variable {P : Program} {w : World} {K : PySem.W.Frag} {mg : Str → Option Value} {base : Heap} {x qual : Str} {st : Stmt} {f : Addr} {fd : FuncData} {sp : Sp} {k : Nat} {ps : List Str}
theorem MtP.goG {N : List Str} (F : MtP K x qual st f fd) (S : FnScope N ps (defScope st)) (len : ∀ vs H Q E, sp vs H Q E → vs.length = ps.length) (t : TS)
    (pure : ∀ (vs : List V) (H : Hp) (Q : VK) (E : XK), sp vs H Q E → t { nx := fun _ H' => Q .non H', rt := Q } (start N vs) H)
    (hbody : ∀ (cdv : Value) (A : Around) (outer : List Env) (s : Shared) (H : Hp) (E : XK), A.guards = some [] → Room k (A.deeper (envOfC qual (defScope st) s.heap.objs.size f cdv)) →
      PSs (cxOf CX0 P w K mg base N qual (defScope st) f cdv A outer s H E).nox (defBody st) t) : FnG P w K mg base CX0 (k + 1) f fd ps sp := by
  obtain ⟨oc, od, dV, kV, doc, pm, an, cdv, ct, osl, rfl, lk, hcd, _, _⟩ := F.ex
  exact fnG_of lk hcd S len fun A outer s H vs Q E hG hr h => ⟨t, PSs.nox (hbody cdv A outer s H E hG hr), pure vs H Q E h⟩
theorem MtP.rpg {C : Str} (F : MtP K "__repr__" qual st (He.ma K (He.ga K C) "__repr__") fd) (M : Meth K (He.ga K C) "__repr__" (He.ma K (He.ga K C) "__repr__")) (ok : FnG P w K mg base CX0 k (He.ma K (He.ga K C) "__repr__") fd ps sp)
    (h : ∀ (kV doc pm : Value) (an : Option Addr) (cdv ct : Value) (us : List Value), us.length = ps.length → bindArgs (PySem.W.fnOf "__repr__" qual (defArgs st) (defBody st) (defScope st) .none kV doc pm an cdv ct) ⟨us, []⟩ = pure (ps.zip us)) : RpG P w K mg base k (He.ga K C) sp :=
  ⟨_, fd, ps, ok, M.at_, M.fn, F.bindsN h⟩
end
end
end Fg
namespace Fg
open PySem PySem.Spec PyProof.Rows L2
local macro_rules | `(tactic| walk_at "hp") => `(tactic| first
  | assumption
  | exact upd_same
  | (refine Chg.at (by assumption) ?_; walk_at "hp")
  | (refine Chg.at1 (by assumption) ?_ (by walk_at "ne"); walk_at "hp"))
local macro_rules | `(tactic| walk_at "ne") => `(tactic| first | assumption | (apply Ne.symm; assumption))
local macro_rules | `(tactic| walk_at "sq") => `(tactic| first | assumption | exact sqL (by walk_at "hp") | (refine Chg.seq (by assumption) ?_; walk_at "sq"))
local macro_rules | `(tactic| walk_at "sz") => `(tactic| first | assumption | exact Nat.zero_le _ | (simp only [List.length_cons, List.length_nil]; decide) | exact Nat.le_trans (by first | omega | (simp; done) | (simp; omega)) (show 100000 ≤ sizeLine by decide) | exact Nat.lt_of_lt_of_le (by first | omega | (simp; done) | (simp; omega)) (show 100000 ≤ sizeLine by decide))
local macro_rules | `(tactic| walk_at "ix") => `(tactic| first | exact at0 | exact at1 | exact at2 | exact at3 | assumption | exact rfl | walk_at "ix2")
local macro_rules | `(tactic| walk_at "ix2") => `(tactic| fail)
local macro_rules | `(tactic| walk_at "num") => `(tactic| first | assumption | omega | decide | walk_at "num2")
local macro_rules | `(tactic| walk_at "num2") => `(tactic| fail)
local macro_rules | `(tactic| walk_at "im") => `(tactic| first | assumption | exact R.non (S := fun _ => False) | exact R.bl (S := fun _ => False) _ | exact R.int (S := fun _ => False) _ | exact R.str (S := fun _ => False) _ | (refine R.im (by assumption) ?_; walk_at "im"))
local macro_rules | `(tactic| walk_at "r") => `(tactic| first | assumption | exact R.non (S := fun _ => False) | exact R.bl (S := fun _ => False) _ | exact R.int (S := fun _ => False) _ | exact R.str (S := fun _ => False) _ | (refine R.same (by assumption) ?_; walk_at "r") | exact R.any (by walk_at "im"))
local macro_rules | `(tactic| walk_at "chg") => `(tactic| first
  | exact Chg.refl
  | assumption
  | (refine Chg.same ?_ (by assumption); walk_at "chg")
  | (refine Chg.both ?_ (by assumption); walk_at "chg")
  | (refine Chg.pre (by assumption) ?_; walk_at "chg"))
local macro_rules | `(tactic| walk_at "w1") => `(tactic| first
  | with_reducible apply w_seq
  | with_reducible apply w_asg
  | ((with_reducible apply w_var); (focus (exact rfl)))
  | with_reducible apply w_c
  | with_reducible apply w_op
  | with_reducible apply w_cons
  | with_reducible apply w_nil
  | with_reducible apply w_gName
  | with_reducible apply w_if
  | with_reducible apply w_test
  | with_reducible apply w_B
  | with_reducible apply w_isbl
  | with_reducible apply w_retN
  | with_reducible apply w_next
  | with_reducible apply w_drop
  | with_reducible apply w_cb
  | with_reducible apply w_call
  | with_reducible apply w_callN
  | with_reducible apply w_bm
  | with_reducible apply w_bm0
  | ((with_reducible apply w_tyL); (focus (walk_at "hp"; done)))
  | with_reducible apply w_dput
  | with_reducible apply w_m1
  | with_reducible apply w_isstr
  | with_reducible apply w_and
  | with_reducible apply w_or
  | with_reducible apply w_not
  | with_reducible apply w_andV
  | with_reducible apply w_orV
  | with_reducible apply w_notV
  | with_reducible apply w_ifE
  | with_reducible apply w_chain
  | with_reducible apply w_un
  | with_reducible apply w_neg
  | with_reducible apply w_add
  | with_reducible apply w_sub
  | ((with_reducible apply w_mod); (focus (walk_at "num"; done)))
  | ((with_reducible apply w_mul); (focus (walk_at "num"; done)))
  | ((with_reducible apply w_fdiv); (focus (walk_at "num"; done)))
  | ((with_reducible apply w_pow); (focus (walk_at "num"; done)))
  | with_reducible apply w_lt
  | with_reducible apply w_le
  | with_reducible apply w_gt
  | with_reducible apply w_ge
  | with_reducible apply w_ltS
  | with_reducible apply w_geS
  | with_reducible apply w_inC
  | with_reducible apply w_notInC
  | with_reducible apply w_isN
  | with_reducible apply w_notN
  | with_reducible apply w_isB
  | with_reducible apply w_notB
  | ((with_reducible apply w_addS); (focus (walk_at "sz"; done)))
  | ((with_reducible apply w_ixL); (focus (walk_at "sq"; done)); (focus (walk_at "ix"; done)))
  | ((with_reducible apply w_ixT); (focus (walk_at "hp"; done)); (focus (walk_at "ix"; done)))
  | ((with_reducible apply w_ixS); (focus (walk_at "sz"; done)); (focus (walk_at "ix"; done)))
  | with_reducible apply w_gSub
  | ((with_reducible apply w_gTup); (focus (walk_at "hp"; done)); (focus (exact rfl)))
  | with_reducible apply w_gCons
  | with_reducible apply w_gNil
  | ((with_reducible apply w_aug); (focus (exact rfl)))
  | with_reducible apply w_ipI
  | ((with_reducible apply w_eq); (focus (exact rfl)))
  | ((with_reducible apply w_ne); (focus (exact rfl)))
  | with_reducible apply w_max
  | with_reducible apply w_min
  | with_reducible apply w_abs
  | with_reducible apply w_intB
  | with_reducible apply w_intI
  | with_reducible apply w_tup1
  | with_reducible apply w_lst1
  | with_reducible apply w_sl
  | with_reducible apply w_part
  | with_reducible apply w_noPart
  | with_reducible apply w_isint
  | ((with_reducible apply w_slS); (focus (walk_at "sz"; done)))
  | with_reducible apply w_iteT
  | with_reducible apply w_iteF
  | with_reducible apply w_iteN
  | ((with_reducible apply w_iteYes); (focus (exact rfl)))
  | ((with_reducible apply w_iteNo); (focus (exact rfl)))
  | ((with_reducible apply w_lenL); (focus (walk_at "sq"; done)))
  | ((with_reducible apply w_lenT); (focus (walk_at "hp"; done)))
  | ((with_reducible apply w_lenS); (focus (walk_at "sz"; done)))
  | with_reducible apply w_lc
  | with_reducible apply w_for
  | with_reducible apply w_yes
  | ((with_reducible apply w_wipe); (focus (exact rfl)))
  | with_reducible apply w_iList
  | with_reducible apply w_iTup
  | with_reducible apply w_iStr
  | with_reducible apply w_iRng1
  | with_reducible apply w_iRng2
  | with_reducible apply w_iZip
  | with_reducible apply w_iEnum
  | ((with_reducible apply d_iList); (focus (walk_at "sq"; done)))
  | ((with_reducible apply d_iTup); (focus (walk_at "hp"; done)))
  | with_reducible apply d_iStr
  | ((with_reducible apply d_iRng1); (focus (walk_at "num"; done)); (focus (walk_at "num"; done)))
  | ((with_reducible apply d_iRng2); (focus (walk_at "num"; done)); (focus (walk_at "num"; done)); (focus (walk_at "num"; done)); (focus (walk_at "num"; done)))
  | ((with_reducible apply d_iZip); (focus (walk_at "sq"; done)); (focus (walk_at "sq"; done)))
  | ((with_reducible apply d_iEnum); (focus (walk_at "sq"; done)))
  | walk_at "w2")
local macro_rules | `(tactic| walk_at "w2") => `(tactic| fail)
local macro_rules | `(tactic| walk_at "wn") => `(tactic| repeat walk_at "w1")
local macro_rules | `(tactic| walk_at "w") => `(tactic| repeat (first | walk_at "w1" | with_reducible apply w_ret))
section
def nI (i : Int) : Prop := -(10 ^ 20) ≤ i ∧ i ≤ 10 ^ 20
theorem giK_put {gs : List (Int × Int)} {k v : Int} (hk : nI k) (hv : nI v) (hg : ∀ g ∈ gs, nI g.1 ∧ nI g.2) : ∃ gs', putK (giK gs) (Sum.inl k) (V.int v) = giK gs' ∧ gs'.length ≤ gs.length + 1 ∧ ∀ g ∈ gs', nI g.1 ∧ nI g.2 := by
  unfold putK
  split
  · refine ⟨gs.map fun g => if g.1 = k then (g.1, v) else g, ?_, by rw [List.length_map]; omega, fun g h => ?_⟩
    · unfold giK
      rw [List.map_map, List.map_map]
      refine List.map_congr_left fun g _ => ?_
      show (if (Sum.inl g.1 : Key) = Sum.inl k then ((Sum.inl g.1 : Key), V.int v) else (Sum.inl g.1, V.int g.2)) = _
      by_cases h : g.1 = k
      · rw [if_pos (by rw [h])]
        show _ = ((Sum.inl (if g.1 = k then (g.1, v) else g).1 : Key), V.int (if g.1 = k then (g.1, v) else g).2)
        rw [if_pos h]
      · rw [if_neg fun z => h (Sum.inl.inj z)]
        show _ = ((Sum.inl (if g.1 = k then (g.1, v) else g).1 : Key), V.int (if g.1 = k then (g.1, v) else g).2)
        rw [if_neg h]
    · obtain ⟨e, he, rfl⟩ := List.mem_map.mp h
      have := hg e he
      split
      · exact ⟨this.1, hv⟩
      · exact this
  · refine ⟨gs ++ [(k, v)], by unfold giK; rw [List.map_append]; rfl, by rw [List.length_append, List.length_singleton]; exact Nat.le_refl _, fun g h => ?_⟩
    rcases List.mem_append.mp h with h | h
    · exact hg g h
    · rw [List.mem_singleton.mp h]
      exact ⟨hk, hv⟩
theorem grK_put {gs : List (Str × V)} {x : Str} {v : V} (h : x ∉ gs.map (·.1)) : putK (grK gs) (Sum.inr x) v = grK (gs ++ [(x, v)]) := by
  unfold putK
  rw [if_neg]
  · unfold grK
    rw [List.map_append]
    rfl
  · intro z
    obtain ⟨kv, hkv, e⟩ := List.any_eq_true.mp z
    unfold grK at hkv
    obtain ⟨g, hg, rfl⟩ := List.mem_map.mp hkv
    have e : (Sum.inr g.1 : Key) = Sum.inr x := of_decide_eq_true e
    exact h (List.mem_map.mpr ⟨g, hg, Sum.inr.inj e⟩)
/-- a given of few short rows -/
structure GvOk (gv : Given) : Prop where
  few : gv.length ≤ 11
  names : ∀ g ∈ gv, nameS g.1 = true
  rows : ∀ g ∈ gv, g.2.length ≤ 12 ∧ ∀ i ∈ g.2, nI i
structure CsOk (cs : Cells) : Prop where
  few : cs.length ≤ 12
  nums : ∀ c ∈ cs, nI c.1 ∧ nI c.2
theorem gr_rows {H0 H' : Hp} {cl : Addr} : ∀ {ps : List (Addr × Str × V)}, (∀ z ∈ ps, H' z.1 = some (.tup [.str z.2.1, z.2.2]) ∧ nameS z.2.1 = true ∧ ∃ (row : List Int) (l : Addr), z.2.2 = .ref l ∧ H' l = some (.lst (row.map V.int)) ∧ H0 l = none ∧ l ≠ cl ∧ row.length ≤ 11 ∧ ∀ i ∈ row, nI i) →
    ∃ gv : Given, RA (fun a => H0 a = none ∧ a ≠ cl) H' (ps.map fun z => V.ref z.1) (gv.map giftD) ∧ gv.length = ps.length ∧ (∀ g ∈ gv, nameS g.1 = true) ∧ ∀ g ∈ gv, g.2.length ≤ 11 ∧ ∀ i ∈ g.2, nI i
  | [], _ => ⟨[], .nil, rfl, fun g h => (by cases h), fun g h => (by cases h)⟩
  | z :: ps, h => by
    obtain ⟨gv, h1, h2, h3, h4⟩ := gr_rows fun y hy => h y (List.mem_cons_of_mem _ hy)
    obtain ⟨z1, z2, row, l, z3, z4, z5, z6, z7, z8⟩ := h z (by simp)
    rw [z3] at z1
    refine ⟨(z.2.1, row) :: gv, .cons (.tup z1 (.cons (.str _) (.cons (.lst ⟨z5, z6⟩ z4 (imInts _)) .nil))) h1, by rw [List.length_cons, List.length_cons, h2], fun g hg => ?_, fun g hg => ?_⟩
    · rcases List.mem_cons.mp hg with rfl | hg
      · exact z2
      · exact h3 g hg
    · rcases List.mem_cons.mp hg with rfl | hg
      · exact ⟨z7, z8⟩
      · exact h4 g hg
theorem pr_rows {H' : Hp} : ∀ {ps : List (Addr × Int × Int)}, (∀ z ∈ ps, H' z.1 = some (.tup [.int z.2.1, .int z.2.2])) → ImA H' (ps.map fun z => V.ref z.1) ((ps.map (·.2)).map pairD)
  | [], _ => .nil
  | z :: ps, h => .cons (.tup (h z (by simp)) (.cons (.int _) (.cons (.int _) .nil))) (pr_rows fun y hy => h y (List.mem_cons_of_mem _ hy))
/-- the rows so far -/
def GRw (H0 : Hp) (X : Addr) (H : Hp) (g : Str × V) : Prop := nameS g.1 = true ∧ ∃ (row : List Int) (l : Addr), g.2 = .ref l ∧ H l = some (.lst (row.map V.int)) ∧ H0 l = none ∧ l ≠ X ∧ row.length ≤ 11 ∧ ∀ i ∈ row, nI i
theorem GRw.keep {H0 H H' : Hp} {X : Addr} {M : List Addr} {g : Str × V} (r : GRw H0 X H g) (c : Chg M H H') (hM : ∀ l xs, H l = some (.lst xs) → l ≠ X → H0 l = none → l ∉ M) : GRw H0 X H' g := by
  obtain ⟨a, row, l, b, d, e, f, h⟩ := r
  exact ⟨a, row, l, b, c.keep _ _ d (hM _ _ d f e), e, f, h⟩
theorem ints_ys {P : Int → Prop} : ∀ {acc : List V}, (∀ (i : Nat) y, acc[i]? = some y → ∃ z, y = .int z ∧ P z) → ∃ zs : List Int, acc = zs.map V.int ∧ ∀ z ∈ zs, P z
  | [], _ => ⟨[], rfl, fun z h => by cases h⟩
  | v :: r, h => by
    obtain ⟨z, rfl, hz⟩ := h 0 v rfl
    obtain ⟨zs, e, hs⟩ := ints_ys (acc := r) fun i y hy => h (i + 1) y hy
    refine ⟨z :: zs, by rw [e]; rfl, fun y hy => ?_⟩
    rcases List.mem_cons.mp hy with rfl | hy
    · exact hz
    · exact hs y hy
theorem w_itK {H : Hp} {Q : VK} {a : Addr} {kvs : List (Key × V)} (h : H a = some (.dK kvs)) (q : ∀ p H', H p = none → Chg [] H H' → H' p = some (L2.DX.itemsO p a) → Q (.ref p) H') : rItemsK (.ref a) [] H Q := ⟨a, kvs, rfl, rfl, h, fun p np => q p _ np (.new np) upd_same⟩
def sp__law_things (K : PySem.W.Frag) : Sp := fun vs H Q _ => ∃ (b : Addr) (n : Nat), vs = [.ref b] ∧ Well H b n ∧ 1000 ≤ n ∧
  ∀ (T cl gl : Addr) (cxs : List V) (cs : Cells) (gv : Given) (H' : Hp), Chg [b] H H' → Well H' b (n - 1000) → H' T = some (.tup [.ref cl, .ref gl]) → H cl = none → H' cl = some (.lst cxs) → ImA H' cxs (cs.map pairD) → H gl = none → gl ≠ cl →
    R (fun a => H a = none ∧ a ≠ cl) H' (.ref gl) (giftsD gv) → cs.length ≤ 10 → CsOk cs → gv.length ≤ 10 → GvOk gv → (∀ g ∈ gv, g.2.length ≤ 11) → Q (.ref T) H'
def t__law_things (K : PySem.W.Frag) : TS :=
    tSeq (tAsg (tOp (rIxL K) (tLst (tCons (tC (.int 4)) (tCons (tC (.int 10)) (tNil)))) (tOp oFdiv (tCall sp__law_draw [] E0 (tCons (tVar 0) (tCons (tC (.int 8)) (tNil)))) (tC (.int 7)))) (gName 1))
    (tSeq (tAsg (tDNewK) (gName 2))
    (tSeq (tFor (iRng1 (tCons (tCall sp__law_draw [] E0 (tCons (tVar 0) (tCons (tVar 1) (tNil)))) (tNil))) (gName 3) (sDPut (tVar 2) (tCall sp__law_number [] E0 (tCons (tVar 0) (tNil))) (tCall sp__law_number [] E0 (tCons (tVar 0) (tNil)))))
    (tSeq (tAsg (tDNewK) (gName 4))
    (tSeq (tAsg (tLst (tNil)) (gName 5))
    (tSeq (tFor (iRng1 (tCons (tCall sp__law_draw [] E0 (tCons (tVar 0) (tCons (tVar 1) (tNil)))) (tNil))) (gName 3) (tSeq (tDrop (tBM K "list" rAppend (tVar 5) (tCons (tCall (sp__law_new_name K) [] E0 (tCons (tVar 0) (tCons (tVar 5) (tNil)))) (tNil))))
    (sDPut (tVar 4) (tOp (rIxL K) (tVar 5) (tUn (rU fun i => .int (-i)) (tC (.int 1)))) (tLc (iRng1 (tCons (tCall sp__law_draw [] E0 (tCons (tVar 0) (tCons (tOp oAdd (tC (.int 1)) (tVar 1)) (tNil)))) (tNil))) (gName 6) (tYes) (tCall sp__law_number [] E0 (tCons (tVar 0) (tNil))) [6]))))
    (tRet (tTup (tCons (tCB rSortItI (tCons (tBM0 K "dict" rItemsK (tVar 2)) (tNil))) (tCons (tCB rSortItK (tCons (tBM0 K "dict" rItemsK (tVar 4)) (tNil))) (tNil))))))))))
theorem pure__law_things {K : PySem.W.Frag} (vs : List V) (H : Hp) (Q : VK) (E : XK) (h : sp__law_things K vs H Q E) : t__law_things K (fin Q) (start ["well", "wide", "cells", "k", "given", "names", "j"] vs) H := by
  obtain ⟨b, n, rfl, bag, hn, q⟩ := h
  show t__law_things K _ [some (.ref b), none, none, none, none, none, none] H
  unfold t__law_things
  walk_at "w"
  refine k_lst (by walk_at "sz") fun p1 H1 np1 c1 hp1 => ?_
  walk_at "w"
  refine u_draw (bag.same c1) (by omega) (by decide) (by decide) fun w2 H2 c2 bag2 w0 w1 => ?_
  obtain ⟨wd, ewd, wd0, wd1⟩ : ∃ wd : Int, atI [V.int 4, V.int 10] (w2 / 7) = some (.int wd) ∧ 4 ≤ wd ∧ wd ≤ 10 := by
    have : w2 / 7 = 0 ∨ w2 / 7 = 1 := by omega
    rcases this with e | e
    · rw [e]; exact ⟨_, at0, by decide, by decide⟩
    · rw [e]; exact ⟨_, at1, by decide, by decide⟩
  have nb1 : p1 ≠ b := fun z => bag.some (by rw [← z]; exact np1)
  walk_at "w"
  refine w_fdiv (cdivS (by decide) (by decide)) ?_
  refine w_ixL (sqL (c2.at1 hp1 nb1)) ewd ?_
  walk_at "w"
  refine w_dnewK fun d3 H3 nd3 c3 hd3 => ?_
  walk_at "w"
  have bag3 := bag2.same c3
  have db : d3 ≠ b := fun z => bag2.some (by rw [← z]; exact nd3)
  have c13 : Chg [b] H H3 := (c1.pre c2).same c3
  have nd3' : H d3 = none := (c1.pre c2).dom _ nd3
  refine u_draw bag3 (by omega) (by omega) (by omega) fun w4 H4 c4 bag4 x0 x1 => ?_
  walk_at "w"
  refine for_it walk_range (fun i σ H5 => ∃ (gs : List (Int × Int)) (y : Option V), σ = [some (.ref b), some (.int wd), some (.ref d3), y, none, none, none] ∧ Chg [b] H H5 ∧ Well H5 b (n - 3 - 4 * i) ∧ H5 d3 = some (.dK (giK gs)) ∧ gs.length ≤ i ∧ ∀ g ∈ gs, nI g.1 ∧ nI g.2)
    ⟨[], none, rfl, c13.both c4, bag4.le (by omega), c4.at1 hd3 db, Nat.le_refl _, fun g h => by cases h⟩ (fun _ _ _ _ _ => trivial) (fun i x σ H5 H6 hi p y => ?_) (fun σ H5 p => ?_)
  · obtain ⟨gs, y3, rfl, c5, bag5, hd5, lg, bg⟩ := p
    obtain ⟨rfl, rfl⟩ := y
    have hi10 : i < 10 := by omega
    walk_at "w"
    refine ⟨b, n - 3 - 4 * i, rfl, bag5, by omega, fun v H6 c6 bag6 v0 v1 => ?_⟩
    walk_at "w"
    refine ⟨b, n - 3 - 4 * i - 2, rfl, bag6, by omega, fun k H7 c7 bag7 k0 k1 => ?_⟩
    have hd7 := c7.at1 (c6.at1 hd5 db) db
    walk_at "w"
    obtain ⟨gs', e1, e2, e3⟩ := giK_put (k := k) (v := v) ⟨k0, k1⟩ ⟨v0, v1⟩ bg
    refine d_dput (k := Sum.inl k) hd7 (by unfold giK; rw [List.length_map]; exact Nat.lt_of_le_of_lt (show gs.length ≤ 100 by omega) (by decide)) fun H8 c8 h8 => ?_
    rw [e1] at h8
    exact ⟨gs', _, rfl, ((c5.both c6).both c7).go c8 fun a ha => .inr (by rw [List.mem_singleton.mp ha]; exact nd3'), ((bag7.one c8 db.symm).le (by omega)), h8, by omega, e3⟩
  · obtain ⟨gs, y3, rfl, c5, bag5, hd5, lg, bg⟩ := p
    have lg10 : gs.length ≤ 10 := by omega
    walk_at "w"
    refine w_dnewK fun d4 H6 nd4 c6 hd4 => ?_
    walk_at "w"
    refine k_lst (by walk_at "sz") fun l5 H7 nl5 c7 hl5 => ?_
    walk_at "w"
    have bag7 := (bag5.same c6).same c7
    have d4b : d4 ≠ b := fun z => bag5.some (by rw [← z]; exact nd4)
    have l5b : l5 ≠ b := fun z => (bag5.same c6).some (by rw [← z]; exact nl5)
    have d43 : d4 ≠ d3 := fun z => by rw [z, hd5] at nd4; cases nd4
    have l53 : l5 ≠ d3 := fun z => by rw [z, c6.at hd5] at nl5; cases nl5
    have l54 : l5 ≠ d4 := fun z => by rw [z, hd4] at nl5; cases nl5
    have nd4' : H d4 = none := c5.dom _ nd4
    have nl5' : H l5 = none := c5.dom _ (c6.dom _ nl5)
    refine u_draw bag7 (by omega) (by omega) (by omega) fun w8 H8 c8 bag8 x8 x9 => ?_
    walk_at "w"
    have hi9 : w8.toNat ≤ 10 := by omega
    refine for_it walk_range (fun i σ H9 => ∃ (gr : List (Str × V)) (ns : List Str) (y y6 : Option V), σ = [some (.ref b), some (.int wd), some (.ref d3), y, some (.ref d4), some (.ref l5), y6] ∧ Chg [b] H H9 ∧ Well H9 b (n - 50 - 50 * i) ∧ H9 d3 = some (.dK (giK gs)) ∧ H9 d4 = some (.dK (grK gr)) ∧ H9 l5 = some (.lst (ns.map V.str)) ∧ gr.map (·.1) = ns ∧ ns.length = i ∧ ns.Nodup ∧ (∀ x ∈ ns, nameS x = true) ∧ ∀ g ∈ gr, GRw H l5 H9 g)
      ⟨[], [], _, _, rfl, ((c5.same c6).same c7).both c8, bag8.le (by omega), c8.at1 (c7.at (c6.at hd5)) db, c8.at1 (c7.at hd4) d4b, c8.at1 hl5 l5b, rfl, rfl, List.nodup_nil, fun x h => (by cases h), fun g h => (by cases h)⟩ (fun _ _ _ _ _ => trivial) (fun i x σ H9 H10 hi p y => ?_) (fun σ H9 p => ?_)
    · obtain ⟨gr, ns, y3, y6, rfl, c9, bag9, h3, h4, h5, en, ln, nd, nm, rows⟩ := p
      obtain ⟨rfl, rfl⟩ := y
      walk_at "w"
      refine ⟨b, l5, ns, n - 50 - 50 * i, rfl, bag9, by omega, h5, l5b, by omega, nm, fun x H10 c10 bag10 okx hx => ?_⟩
      walk_at "w"
      have h5' := c10.at1 h5 l5b
      refine w_append h5' (by rw [List.length_map]; exact Nat.lt_of_le_of_lt (show ns.length ≤ 100 by omega) (by decide)) fun H11 c11 h11 => ?_
      have h11' : H11 l5 = some (.lst ((ns ++ [x]).map V.str)) := by rw [List.map_append]; exact h11
      have bag11 := bag10.one c11 l5b.symm
      walk_at "w"
      refine u_draw bag11 (by omega) (by omega) (by omega) fun w12 H12 c12 bag12 y0 y1 => ?_
      have hw : w12.toNat ≤ 10 := by omega
      have b3s := bag12.some
      walk_at "w"
      refine w_lcP walk_range [b] (fun i' Hx => Well Hx b (n - 50 - 50 * i - 22 - 2 * i')) (fun i' y _ => ∃ z, y = .int z ∧ nI z) (bag12.le (by omega)) (fun i' H1 H2 p np c h => h.one c (fun z => b3s (by rw [z]; exact np))) (fun _ _ => trivial) (fun D j acc z H13 H14 hj nD hD el iv c13' bag13 y => ?_) (fun D acc H13 nD c13' bag13 el hD ys => ?_)
      · obtain ⟨rfl, rfl⟩ := y
        walk_at "w"
        refine ⟨b, n - 50 - 50 * i - 22 - 2 * j, rfl, bag13, by omega, fun v H15 c15 bag15 v0 v1 => ?_⟩
        exact lcp_end (fun i' H1 H2 p np c h => h.one c (fun z => b3s (by rw [z]; exact np))) (fun _ _ _ _ _ _ _ h => h) nD (fun a ha => by rw [List.mem_singleton.mp ha]; exact b3s) hD el (by omega) iv c15 (bag15.le (by omega)) ⟨v, rfl, v0, v1⟩
      obtain ⟨row, rfl, hrow⟩ := ints_ys ys
      rw [List.length_map] at el
      have c1013 : Chg [b] H11 H13 := c12.both c13'
      have h13 := c1013.at1 h11' l5b
      walk_at "w"
      refine w_ixL (sqL h13) (v := .str x) (by rw [List.map_append]; exact atLast) ?_
      have hx' : x ∉ gr.map (·.1) := by rw [en]; exact hx
      have d45 : d4 ≠ l5 := l54.symm
      have h4' : H13 d4 = some (.dK (grK gr)) := c1013.at1 (c11.at1 (c10.at1 h4 d4b) d45) d4b
      refine d_dput (k := Sum.inr x) h4' (by unfold grK; rw [List.length_map, ← List.length_map (f := Prod.fst), en]; exact Nat.lt_of_le_of_lt (show ns.length ≤ 100 by omega) (by decide)) fun H14 c14 h14 => ?_
      rw [grK_put hx'] at h14
      have cH11 : Chg [b] H H11 := (c9.both c10).go c11 fun a ha => .inr (by rw [List.mem_singleton.mp ha]; exact nl5')
      have cH12 : Chg [b] H H12 := cH11.both c12
      have cH13 : Chg [b] H H13 := cH11.both c1013
      have bl : ∀ l, H l = none → l ∉ [b] := fun l hl hm => bag.some (by rw [← List.mem_singleton.mp hm]; exact hl)
      have Dd4 : D ≠ d4 := fun z => by
        have := c12.at1 (c11.at1 (c10.at1 h4 d4b) d45) d4b
        rw [← z, nD] at this
        cases this
      have Dl5 : D ≠ l5 := fun z => by
        have := c12.at1 h11' l5b
        rw [← z, nD] at this
        cases this
      refine ⟨gr ++ [(x, .ref D)], ns ++ [x], _, _, rfl, cH13.go c14 fun a ha => .inr (by rw [List.mem_singleton.mp ha]; exact nd4'), (bag13.one c14 d4b.symm).le (by omega), c14.at1 (c1013.at1 (c11.at1 (c10.at1 h3 db) l53.symm) db) d43.symm, h14, c14.at1 h13 d45.symm, by rw [List.map_append, en]; rfl, by rw [List.length_append, List.length_singleton, ln], nd_snoc nd hx, fun y hy => ?_, fun g hg => ?_⟩
      · rcases List.mem_append.mp hy with h | h
        · exact nm y h
        · rw [List.mem_singleton.mp h]; exact okx
      · rcases List.mem_append.mp hg with h | h
        · exact (((((rows g h).keep c10 fun l _ _ _ n => bl l n).keep c11 fun l _ _ n _ hm => n (List.mem_singleton.mp hm)).keep c1013 fun l _ _ _ n => bl l n).keep c14 fun l xs e _ _ hm => by
            rw [List.mem_singleton.mp hm, h4'] at e
            cases e)
        · rw [List.mem_singleton.mp h]
          exact ⟨okx, row, D, rfl, c14.at1 hD Dd4, cH12.dom _ nD, Dl5, by omega, hrow⟩
    · obtain ⟨gr, ns, y3, y6, rfl, c9, bag9, h3, h4, h5, en, ln, nd, nm, rows⟩ := p
      walk_at "w"
      refine ⟨.inr (.inr (.inl ⟨rfl, .inl ⟨_, h3⟩⟩)), ?_⟩
      walk_at "w"
      refine w_itK h3 fun p10 H10 np10 c10 hp10 => ?_
      walk_at "w"
      refine ⟨p10, d3, gs, rfl, hp10, c10.at h3, fun H11 cl ps c11 ncl pm hcl hps => ?_⟩
      have c911 := c10.same c11
      walk_at "w"
      refine ⟨.inr (.inr (.inl ⟨rfl, .inl ⟨_, c911.at h4⟩⟩)), ?_⟩
      walk_at "w"
      refine w_itK (c911.at h4) fun p12 H12 np12 c12 hp12 => ?_
      walk_at "w"
      refine ⟨p12, d4, gr, rfl, hp12, c12.at (c911.at h4), by rw [en]; exact nd, fun H13 gl qs c13' ngl qm _ hgl hqs => ?_⟩
      walk_at "w"
      refine k_tup (by walk_at "sz") fun T H14 nT c14 hT => ?_
      have c914 : Chg [] H9 H14 := ((c911.same c12).same c13').same c14
      have c1114 : Chg [] H11 H14 := (c12.same c13').same c14
      have cn : H cl = none := c9.dom _ (c10.dom _ ncl)
      have gn : H gl = none := c9.dom _ (c911.dom _ (c12.dom _ ngl))
      have gc : gl ≠ cl := fun z => by rw [z, c12.at hcl] at ngl; cases ngl
      obtain ⟨gv, r1, r2, r3, r4⟩ := gr_rows (H0 := H) (H' := H14) (cl := cl) (ps := qs) fun z hz => by
        obtain ⟨e1, e2, e3⟩ := hqs z hz
        have hm : z.2 ∈ gr := qm.mem_iff.mp (List.mem_map.mpr ⟨z, hz, rfl⟩)
        obtain ⟨f1, row, l, f2, f3, f4, f5, f6, f7⟩ := rows _ hm
        exact ⟨c14.at e3, f1, row, l, f2, c914.at f3, f4, (fun z => by rw [z] at f3; rw [c10.at f3] at ncl; cases ncl), f6, f7⟩
      have lps : ps.length = gs.length := by have := pm.length_eq; rwa [List.length_map] at this
      have lqs : qs.length = gr.length := by have := qm.length_eq; rwa [List.length_map] at this
      have lgr : gr.length = ns.length := by rw [← en, List.length_map]
      refine q T cl gl _ (ps.map (·.2)) gv H14 (c9.same c914) ((bag9.same c914).le (by omega)) hT cn (c1114.at hcl) (pr_rows fun z hz => c1114.at (hps z hz).2.2) gn gc (.lst ⟨gn, gc⟩ (c14.at hgl) r1) (by rw [List.length_map]; omega) ⟨by rw [List.length_map]; omega, fun c hc => ?_⟩ (by omega) ⟨by omega, r3, fun g hg => ⟨by have := (r4 g hg).1; omega, (r4 g hg).2⟩⟩ fun g hg => (r4 g hg).1
      exact bg c (pm.mem_iff.mp hc)
end
section
inductive CE where
  | non | bl (b : Bool) | int (i : Int) | str (x : Str) | d0 | d1 | lst (l : List CE) | tup (l : List CE)
mutual
def CE.t : CE → TE
  | .non => tC .non
  | .bl b => tC (.bl b)
  | .int i => tC (.int i)
  | .str x => tC (.str x)
  | .d0 => tDNewK
  | .d1 => tDisp [(tC (.str "a"), tC (.int 1))]
  | .lst l => tLst (CE.ts l)
  | .tup l => tTup (CE.ts l)
def CE.ts : List CE → TA
  | [] => tNil
  | c :: r => tCons (CE.t c) (CE.ts r)
end
mutual
def CE.d : CE → PyData
  | .non => .none
  | .bl b => .bool b
  | .int i => .int i
  | .str x => .str x
  | .d0 => .dict []
  | .d1 => .dict []
  | .lst l => .list (CE.ds l)
  | .tup l => .tuple (CE.ds l)
def CE.ds : List CE → List PyData
  | [] => []
  | c :: r => CE.d c :: CE.ds r
end
mutual
def CE.ok : CE → Bool
  | .lst l => decide (l.length ≤ 1000) && CE.oks l
  | .tup l => decide (l.length ≤ 1000) && CE.oks l
  | _ => true
def CE.oks : List CE → Bool
  | [] => true
  | c :: r => CE.ok c && CE.oks r
end
abbrev Nb (b : Addr) : Addr → Prop := fun a => a ≠ b
end
end Fg
namespace Fg
open PySem PySem.Spec PyProof.Rows L2
local macro_rules | `(tactic| walk_at "hp") => `(tactic| first
  | assumption
  | exact upd_same
  | (refine Chg.at (by assumption) ?_; walk_at "hp")
  | (refine Chg.at1 (by assumption) ?_ (by walk_at "ne"); walk_at "hp"))
local macro_rules | `(tactic| walk_at "ne") => `(tactic| first | assumption | (apply Ne.symm; assumption))
local macro_rules | `(tactic| walk_at "sq") => `(tactic| first | assumption | exact sqL (by walk_at "hp") | (refine Chg.seq (by assumption) ?_; walk_at "sq"))
local macro_rules | `(tactic| walk_at "sz") => `(tactic| first | assumption | exact Nat.zero_le _ | (simp only [List.length_cons, List.length_nil]; decide) | exact Nat.le_trans (by first | omega | (simp; done) | (simp; omega)) (show 100000 ≤ sizeLine by decide) | exact Nat.lt_of_lt_of_le (by first | omega | (simp; done) | (simp; omega)) (show 100000 ≤ sizeLine by decide))
local macro_rules | `(tactic| walk_at "ix") => `(tactic| first | exact at0 | exact at1 | exact at2 | exact at3 | assumption | exact rfl | walk_at "ix2")
local macro_rules | `(tactic| walk_at "ix2") => `(tactic| fail)
local macro_rules | `(tactic| walk_at "num") => `(tactic| first | assumption | omega | decide | walk_at "num2")
local macro_rules | `(tactic| walk_at "num2") => `(tactic| fail)
local macro_rules | `(tactic| walk_at "im") => `(tactic| first | assumption | exact R.non (S := fun _ => False) | exact R.bl (S := fun _ => False) _ | exact R.int (S := fun _ => False) _ | exact R.str (S := fun _ => False) _ | (refine R.im (by assumption) ?_; walk_at "im"))
local macro_rules | `(tactic| walk_at "r") => `(tactic| first | assumption | exact R.non (S := fun _ => False) | exact R.bl (S := fun _ => False) _ | exact R.int (S := fun _ => False) _ | exact R.str (S := fun _ => False) _ | (refine R.same (by assumption) ?_; walk_at "r") | exact R.any (by walk_at "im"))
local macro_rules | `(tactic| walk_at "chg") => `(tactic| first
  | exact Chg.refl
  | assumption
  | (refine Chg.same ?_ (by assumption); walk_at "chg")
  | (refine Chg.both ?_ (by assumption); walk_at "chg")
  | (refine Chg.pre (by assumption) ?_; walk_at "chg"))
local macro_rules | `(tactic| walk_at "w1") => `(tactic| first
  | with_reducible apply w_seq
  | with_reducible apply w_asg
  | ((with_reducible apply w_var); (focus (exact rfl)))
  | with_reducible apply w_c
  | with_reducible apply w_op
  | with_reducible apply w_cons
  | with_reducible apply w_nil
  | with_reducible apply w_gName
  | with_reducible apply w_if
  | with_reducible apply w_test
  | with_reducible apply w_B
  | with_reducible apply w_isbl
  | with_reducible apply w_retN
  | with_reducible apply w_next
  | with_reducible apply w_drop
  | with_reducible apply w_cb
  | with_reducible apply w_call
  | with_reducible apply w_callN
  | with_reducible apply w_bm
  | with_reducible apply w_bm0
  | ((with_reducible apply w_tyL); (focus (walk_at "hp"; done)))
  | with_reducible apply w_dput
  | with_reducible apply w_m1
  | with_reducible apply w_isstr
  | with_reducible apply w_and
  | with_reducible apply w_or
  | with_reducible apply w_not
  | with_reducible apply w_andV
  | with_reducible apply w_orV
  | with_reducible apply w_notV
  | with_reducible apply w_ifE
  | with_reducible apply w_chain
  | with_reducible apply w_un
  | with_reducible apply w_neg
  | with_reducible apply w_add
  | with_reducible apply w_sub
  | ((with_reducible apply w_mod); (focus (walk_at "num"; done)))
  | ((with_reducible apply w_mul); (focus (walk_at "num"; done)))
  | ((with_reducible apply w_fdiv); (focus (walk_at "num"; done)))
  | ((with_reducible apply w_pow); (focus (walk_at "num"; done)))
  | with_reducible apply w_lt
  | with_reducible apply w_le
  | with_reducible apply w_gt
  | with_reducible apply w_ge
  | with_reducible apply w_ltS
  | with_reducible apply w_geS
  | with_reducible apply w_inC
  | with_reducible apply w_notInC
  | with_reducible apply w_isN
  | with_reducible apply w_notN
  | with_reducible apply w_isB
  | with_reducible apply w_notB
  | ((with_reducible apply w_addS); (focus (walk_at "sz"; done)))
  | ((with_reducible apply w_ixL); (focus (walk_at "sq"; done)); (focus (walk_at "ix"; done)))
  | ((with_reducible apply w_ixT); (focus (walk_at "hp"; done)); (focus (walk_at "ix"; done)))
  | ((with_reducible apply w_ixS); (focus (walk_at "sz"; done)); (focus (walk_at "ix"; done)))
  | with_reducible apply w_gSub
  | ((with_reducible apply w_gTup); (focus (walk_at "hp"; done)); (focus (exact rfl)))
  | with_reducible apply w_gCons
  | with_reducible apply w_gNil
  | ((with_reducible apply w_aug); (focus (exact rfl)))
  | with_reducible apply w_ipI
  | ((with_reducible apply w_eq); (focus (exact rfl)))
  | ((with_reducible apply w_ne); (focus (exact rfl)))
  | with_reducible apply w_max
  | with_reducible apply w_min
  | with_reducible apply w_abs
  | with_reducible apply w_intB
  | with_reducible apply w_intI
  | with_reducible apply w_tup1
  | with_reducible apply w_lst1
  | with_reducible apply w_sl
  | with_reducible apply w_part
  | with_reducible apply w_noPart
  | with_reducible apply w_isint
  | ((with_reducible apply w_slS); (focus (walk_at "sz"; done)))
  | with_reducible apply w_iteT
  | with_reducible apply w_iteF
  | with_reducible apply w_iteN
  | ((with_reducible apply w_iteYes); (focus (exact rfl)))
  | ((with_reducible apply w_iteNo); (focus (exact rfl)))
  | ((with_reducible apply w_lenL); (focus (walk_at "sq"; done)))
  | ((with_reducible apply w_lenT); (focus (walk_at "hp"; done)))
  | ((with_reducible apply w_lenS); (focus (walk_at "sz"; done)))
  | with_reducible apply w_lc
  | with_reducible apply w_for
  | with_reducible apply w_yes
  | ((with_reducible apply w_wipe); (focus (exact rfl)))
  | with_reducible apply w_iList
  | with_reducible apply w_iTup
  | with_reducible apply w_iStr
  | with_reducible apply w_iRng1
  | with_reducible apply w_iRng2
  | with_reducible apply w_iZip
  | with_reducible apply w_iEnum
  | ((with_reducible apply d_iList); (focus (walk_at "sq"; done)))
  | ((with_reducible apply d_iTup); (focus (walk_at "hp"; done)))
  | with_reducible apply d_iStr
  | ((with_reducible apply d_iRng1); (focus (walk_at "num"; done)); (focus (walk_at "num"; done)))
  | ((with_reducible apply d_iRng2); (focus (walk_at "num"; done)); (focus (walk_at "num"; done)); (focus (walk_at "num"; done)); (focus (walk_at "num"; done)))
  | ((with_reducible apply d_iZip); (focus (walk_at "sq"; done)); (focus (walk_at "sq"; done)))
  | ((with_reducible apply d_iEnum); (focus (walk_at "sq"; done)))
  | walk_at "w2")
local macro_rules | `(tactic| walk_at "w2") => `(tactic| fail)
local macro_rules | `(tactic| walk_at "wn") => `(tactic| repeat walk_at "w1")
local macro_rules | `(tactic| walk_at "w") => `(tactic| repeat (first | walk_at "w1" | with_reducible apply w_ret))
local macro_rules | `(tactic| walk_at "w2") => `(tactic| first
  | ((with_reducible apply w_isInt); (focus (walk_at "r"; done)))
  | ((with_reducible apply w_isBool); (focus (walk_at "r"; done)))
  | ((with_reducible apply w_isStr); (focus (walk_at "r"; done)))
  | ((with_reducible apply w_isTup); (focus (walk_at "r"; done)))
  | ((with_reducible apply w_isLst); (focus (walk_at "r"; done)))
  | ((with_reducible apply w_notInP); (focus (assumption)))
  | ((with_reducible apply w_ixP); (focus (assumption)); (focus (assumption))))
section
mutual
inductive RX (S : Addr → Prop) (H : Hp) : V → PyData → Prop
  | non : RX S H .non .none
  | bl (b : Bool) : RX S H (.bl b) (.bool b)
  | int (i : Int) : RX S H (.int i) (.int i)
  | str (x : Str) : RX S H (.str x) (.str x)
  | lst {a : Addr} {xs : List V} {ds : List PyData} : S a → H a = some (.lst xs) → RXA S H xs ds → RX S H (.ref a) (.list ds)
  | tup {a : Addr} {xs : List V} {ds : List PyData} : H a = some (.tup xs) → RXA S H xs ds → RX S H (.ref a) (.tuple ds)
  | d0 {a : Addr} : S a → H a = some (.dK []) → RX S H (.ref a) (.dict [])
  | d1 {a : Addr} : S a → H a = some (.dK [(.inr "a", .int 1)]) → RX S H (.ref a) (.dict [(.str "a", .int 1)])
inductive RXA (S : Addr → Prop) (H : Hp) : List V → List PyData → Prop
  | nil : RXA S H [] []
  | cons {v : V} {vs : List V} {d : PyData} {ds : List PyData} : RX S H v d → RXA S H vs ds → RXA S H (v :: vs) (d :: ds)
end
section
variable {S S' : Addr → Prop} {H H' : Hp}
mutual
theorem RX.imp (hl : ∀ a xs, S a → H a = some (.lst xs) → S' a ∧ H' a = some (.lst xs)) (hd : ∀ a xs, S a → H a = some (.dK xs) → S' a ∧ H' a = some (.dK xs))
    (ht : ∀ a xs, H a = some (.tup xs) → H' a = some (.tup xs)) : ∀ {d : PyData} {v : V}, RX S H v d → RX S' H' v d
  | .none, _, h => by cases h; exact .non
  | .bool _, _, h => by cases h; exact .bl _
  | .int _, _, h => by cases h; exact .int _
  | .str _, _, h => by cases h; exact .str _
  | .list ds, _, h => by
    cases h with
    | lst s e r => exact .lst (hl _ _ s e).1 (hl _ _ s e).2 (RXA.imp hl hd ht r)
  | .tuple ds, _, h => by
    cases h with
    | tup e r => exact .tup (ht _ _ e) (RXA.imp hl hd ht r)
  | .dict _, _, h => by
    cases h with
    | d0 s e => exact .d0 (hd _ _ s e).1 (hd _ _ s e).2
    | d1 s e => exact .d1 (hd _ _ s e).1 (hd _ _ s e).2
theorem RXA.imp (hl : ∀ a xs, S a → H a = some (.lst xs) → S' a ∧ H' a = some (.lst xs)) (hd : ∀ a xs, S a → H a = some (.dK xs) → S' a ∧ H' a = some (.dK xs))
    (ht : ∀ a xs, H a = some (.tup xs) → H' a = some (.tup xs)) : ∀ {ds : List PyData} {vs : List V}, RXA S H vs ds → RXA S' H' vs ds
  | [], _, h => by cases h; exact .nil
  | d :: ds, _, h => by
    cases h with
    | cons a b => exact .cons (RX.imp hl hd ht a) (RXA.imp hl hd ht b)
end
theorem RX.keep {M : List Addr} {v : V} {d : PyData} (c : Chg M H H') (h : ∀ a, S a → a ∉ M) (r : RX S H v d) : RX S H' v d :=
  RX.imp (fun a xs s e => ⟨s, c.keep a _ e (h a s)⟩) (fun a xs s e => ⟨s, c.keep a _ e (h a s)⟩) c.tup r
theorem RXA.keep {M : List Addr} {v : List V} {d : List PyData} (c : Chg M H H') (h : ∀ a, S a → a ∉ M) (r : RXA S H v d) : RXA S H' v d :=
  RXA.imp (fun a xs s e => ⟨s, c.keep a _ e (h a s)⟩) (fun a xs s e => ⟨s, c.keep a _ e (h a s)⟩) c.tup r
theorem RX.same {v : V} {d : PyData} (c : Chg [] H H') (r : RX S H v d) : RX S H' v d := r.keep c fun _ _ => by simp
theorem RXA.same {v : List V} {d : List PyData} (c : Chg [] H H') (r : RXA S H v d) : RXA S H' v d := r.keep c fun _ _ => by simp
theorem RXA.length : ∀ {vs : List V} {ds : List PyData}, RXA S H vs ds → vs.length = ds.length
  | _, _, .nil => rfl
  | _, _, .cons _ r => by rw [List.length_cons, List.length_cons, RXA.length r]
theorem RXA.get : ∀ {vs : List V} {ds : List PyData} {i : Nat} {v : V}, RXA S H vs ds → vs[i]? = some v → ∃ d, ds[i]? = some d ∧ RX S H v d
  | _, _, _, _, .nil, h => by simp at h
  | _, _, 0, _, .cons a _, h => by cases h; exact ⟨_, rfl, a⟩
  | _, _, i + 1, _, .cons _ r, h => RXA.get (i := i) r h
theorem RXA.append : ∀ {vs ws : List V} {ds es : List PyData}, RXA S H vs ds → RXA S H ws es → RXA S H (vs ++ ws) (ds ++ es)
  | _, _, _, _, .nil, h => h
  | _, _, _, _, .cons a r, h => .cons a (r.append h)
theorem RXA.take : ∀ {vs : List V} {ds : List PyData} (n : Nat), RXA S H vs ds → RXA S H (vs.take n) (ds.take n)
  | _, _, 0, _ => .nil
  | _, _, _ + 1, .nil => .nil
  | _, _, n + 1, .cons a r => .cons a (r.take n)
theorem RXA.drop : ∀ {vs : List V} {ds : List PyData} (n : Nat), RXA S H vs ds → RXA S H (vs.drop n) (ds.drop n)
  | _, _, 0, h => h
  | _, _, _ + 1, .nil => .nil
  | _, _, n + 1, .cons _ r => r.drop n
theorem RXA.set : ∀ {vs : List V} {ds : List PyData} {v : V} {d : PyData} (n : Nat), RXA S H vs ds → RX S H v d → RXA S H (vs.set n v) (ds.set n d)
  | _, _, _, _, _, .nil, _ => .nil
  | _, _, _, _, 0, .cons _ r, h => .cons h r
  | _, _, _, _, n + 1, .cons a r, h => .cons a (r.set n h)
end
mutual
/-- what is told without the dicts' entries -/
def strip : PyData → PyData
  | .list ds => .list (strips ds)
  | .tuple ds => .tuple (strips ds)
  | .dict _ => .dict []
  | d => d
def strips : List PyData → List PyData
  | [] => []
  | d :: ds => strip d :: strips ds
end
section
variable {S : Addr → Prop} {H : Hp}
mutual
theorem RX.r : ∀ {d : PyData} {v : V}, RX S H v d → R S H v (strip d)
  | .none, _, h => by cases h; exact .non
  | .bool _, _, h => by cases h; exact .bl _
  | .int _, _, h => by cases h; exact .int _
  | .str _, _, h => by cases h; exact .str _
  | .list ds, _, h => by
    cases h with
    | lst s e r => exact .lst s e (RXA.r r)
  | .tuple ds, _, h => by
    cases h with
    | tup e r => exact .tup e (RXA.r r)
  | .dict _, _, h => by
    cases h with
    | d0 s e => exact .dic s e
    | d1 s e => exact .dic s e
theorem RXA.r : ∀ {ds : List PyData} {vs : List V}, RXA S H vs ds → RA S H vs (strips ds)
  | [], _, h => by cases h; exact .nil
  | d :: ds, _, h => by
    cases h with
    | cons a b => exact .cons (RX.r a) (RXA.r b)
end
end
mutual
def gd : PyData → Prop
  | .none => True
  | .bool _ => True
  | .int i => i.natAbs < 10 ^ 21
  | .str x => x.length ≤ 100 ∧ ∀ c ∈ x.cps.toList, c < 1000
  | .list ds => ds.length ≤ 200 ∧ gds ds
  | .tuple ds => ds.length ≤ 200 ∧ gds ds
  | .dict kvs => kvs = [] ∨ kvs = [(.str "a", .int 1)]
def gds : List PyData → Prop
  | [] => True
  | d :: ds => gd d ∧ gds ds
end
theorem gds_iff : ∀ {ds : List PyData}, gds ds ↔ ∀ d ∈ ds, gd d
  | [] => ⟨fun _ d h => by simp at h, fun _ => trivial⟩
  | d :: ds => by
    show gd d ∧ gds ds ↔ _
    rw [gds_iff (ds := ds)]
    exact ⟨fun h e he => (List.mem_cons.mp he).elim (fun z => z ▸ h.1) (h.2 e), fun h => ⟨h d (by simp), fun e he => h e (List.mem_cons_of_mem _ he)⟩⟩
mutual
def shL : PyData → Nat
  | .none => 4
  | .bool _ => 5
  | .int _ => 22
  | .str x => 10 * x.length + 2
  | .list ds => shLs ds + 3
  | .tuple ds => shLs ds + 3
  | .dict _ => 100
def shLs : List PyData → Nat
  | [] => 0
  | d :: ds => shL d + 2 + shLs ds
end
theorem dict_shown {kvs : List (PyData × PyData)} (h : kvs = [] ∨ kvs = [(.str "a", .int 1)]) : (PyData.dict kvs).shown.length ≤ 100 ∧ (PyData.dict kvs).showable = true := by
  rcases h with rfl | rfl
  · exact ⟨by decide +kernel, rfl⟩
  · exact ⟨by decide +kernel, by decide +kernel⟩
mutual
theorem shown_shL : ∀ {d : PyData}, gd d → d.shown.length ≤ shL d
  | .none, _ => by show ("None" : Str).length ≤ 4; decide +kernel
  | .bool b, _ => by cases b <;> (show (Str.length _) ≤ 5; decide +kernel)
  | .int i, h => by
    show (Str.ofString (toString i)).length ≤ 22
    rw [PySem.ofString_length]
    exact int_text_length_le10 (k := 21) (by decide) h
  | .str x, h => PySem.StrLaws.reprText_len x fun c hc => Nat.lt_trans (h.2 c hc) (by decide)
  | .list ds, h => by
    show (listText (PyData.shownAll ds)).length ≤ shLs ds + 3
    have h1 := listText_len_le (PyData.shownAll ds)
    have h2 := shown_shLs h.2
    omega
  | .tuple ds, h => by
    show (tupleText (PyData.shownAll ds)).length ≤ shLs ds + 3
    have h1 := tupleText_len_le (PyData.shownAll ds)
    have h2 := shown_shLs h.2
    omega
  | .dict kvs, h => (dict_shown h).1
theorem shown_shLs : ∀ {ds : List PyData}, gds ds → ((PyData.shownAll ds).map (·.length)).sum + 2 * (PyData.shownAll ds).length ≤ shLs ds
  | [], _ => Nat.le_refl _
  | d :: ds, h => by
    have h1 := shown_shL h.1
    have h2 := shown_shLs h.2
    show (d.shown.length + ((PyData.shownAll ds).map (·.length)).sum) + 2 * ((PyData.shownAll ds).length + 1) ≤ shL d + 2 + shLs ds
    omega
end
mutual
theorem gd_showable : ∀ {d : PyData}, gd d → d.showable = true
  | .none, _ => rfl
  | .bool b, _ => rfl
  | .int i, h => by
    show decide (i.natAbs.log2 < 1920) = true
    refine decide_eq_true ?_
    have h : i.natAbs < 10 ^ 21 := h
    by_cases z : i.natAbs = 0
    · rw [z]; decide
    · exact (Nat.log2_lt z).mpr (Nat.lt_trans h (by decide +kernel))
  | .str x, h => rfl
  | .list ds, h => gds_showable h.2
  | .tuple ds, h => gds_showable h.2
  | .dict kvs, h => (dict_shown h).2
theorem gds_showable : ∀ {ds : List PyData}, gds ds → PyData.showableAll ds = true
  | [], _ => rfl
  | d :: ds, h => by
    show (d.showable && PyData.showableAll ds) = true
    rw [gd_showable h.1, gds_showable h.2]
    rfl
end
section
variable {S : Addr → Prop} {X : Cx} {pins : List (Addr × Obj)} {σ : L2.St} {H : Hp} {s : Shared}
mutual
theorem RX.reads (I : Inv X pins σ H s) : ∀ {d : PyData} {v : V} {u : Value}, RX S H v d → RelV v u → ∃ as, Reads s.heap u d as ∧ ∀ b ∈ as, H b ≠ none
  | .none, _, _, h, r => by
    cases h
    cases r
    exact ⟨_, Reads.none, fun _ hb => by cases hb⟩
  | .bool b, _, _, h, r => by
    cases h
    cases r
    exact ⟨_, Reads.bool b, fun _ hb => by cases hb⟩
  | .int i, _, _, h, r => by
    cases h
    obtain ⟨t, rfl⟩ := r
    exact ⟨_, Reads.int i t, fun _ hb => by cases hb⟩
  | .str x, _, _, h, r => by
    cases h
    obtain ⟨t, rfl⟩ := r
    exact ⟨_, Reads.str x t, fun _ hb => by cases hb⟩
  | .list ds, _, _, h, r => by
    cases h with
    | lst s0 e ha =>
      cases r
      obtain ⟨its, rv, ⟨o, n, ho, hc, _, hd⟩, _⟩ := I.list (sqL e)
      obtain ⟨as, hr, hn⟩ := RXA.reads I ha rv
      refine ⟨_, Reads.list ho hc hd hr, fun b hb => ?_⟩
      rcases List.mem_cons.mp hb with rfl | hb
      · rw [e]; exact fun z => by cases z
      · exact hn b hb
  | .tuple ds, _, _, h, r => by
    cases h with
    | tup e ha =>
      cases r
      obtain ⟨its, rv, ⟨o, ho, hc, n, hd⟩, _⟩ := I.tuple (sqT e)
      obtain ⟨as, hr, hn⟩ := RXA.reads I ha rv
      exact ⟨_, Reads.tuple ho hc hd hr, hn⟩
  | .dict kvs, _, _, h, r => by
    cases h with
    | d0 s0 e =>
      cases r
      obtain ⟨_, _, vs, rel, o, es, ep, ho, ex, hd, hk, hp, hnd⟩ := dk_of I.hok e
      cases rel
      have e0 : es.toList = [] := by
        cases hq : es.toList with
        | nil => rfl
        | cons x y => rw [hq] at hp; cases hp
      refine ⟨_, Reads.dict (kvs := []) ho ex.1 hd (by rw [e0]; exact .nil) (by rw [e0]; exact .nil), fun b hb => ?_⟩
      rcases List.mem_cons.mp hb with rfl | hb
      · rw [e]; exact fun z => by cases z
      · cases hb
    | d1 s0 e =>
      cases r
      obtain ⟨_, _, vs, rel, o, es, ep, ho, ex, hd, hk, hp, hnd⟩ := dk_of I.hok e
      cases rel with
      | cons r1 r2 =>
        cases r2
        obtain ⟨k1, t, k2⟩ := r1
        generalize hq : es.toList = el at hp
        cases hp with
        | cons h1 h2 h3 =>
          cases h3
          have hkey := keyIs_shape h1
          rw [← k1] at hkey
          rcases hkey with ⟨i, t', z, _⟩ | ⟨x, t', z, hx⟩
          · cases z
          · cases z
            refine ⟨_, Reads.dict (kvs := [(.str "a", .int 1)]) ho ex.1 hd (by rw [hq, List.map_cons, hx]; exact .cons (.str _ _) .nil) (by rw [hq, List.map_cons, h2, k2]; exact .cons (.int _ _) .nil), fun b hb => ?_⟩
            rcases List.mem_cons.mp hb with rfl | hb
            · rw [e]; exact fun z => by cases z
            · simp at hb
theorem RXA.reads (I : Inv X pins σ H s) : ∀ {ds : List PyData} {vs : List V} {us : List Value}, RXA S H vs ds → Vals vs us → ∃ as, ReadsAll s.heap us ds as ∧ ∀ b ∈ as, H b ≠ none
  | [], _, _, h, r => by
    cases h
    cases r
    exact ⟨_, ReadsAll.nil, fun _ hb => by cases hb⟩
  | d :: ds, _, _, h, r => by
    cases h with
    | cons h1 h2 =>
      cases r with
      | cons r1 r2 =>
        obtain ⟨as, q1, n1⟩ := RX.reads I h1 r1
        obtain ⟨bs, q2, n2⟩ := RXA.reads I h2 r2
        exact ⟨_, ReadsAll.cons q1 q2, fun b hb => (List.mem_append.mp hb).elim (n1 b) (n2 b)⟩
end
end
mutual
def CE.x : CE → PyData
  | .non => .none
  | .bl b => .bool b
  | .int i => .int i
  | .str x => .str x
  | .d0 => .dict []
  | .d1 => .dict [(.str "a", .int 1)]
  | .lst l => .list (CE.xs l)
  | .tup l => .tuple (CE.xs l)
def CE.xs : List CE → List PyData
  | [] => []
  | c :: r => CE.x c :: CE.xs r
end
/-- the law's data -/
structure Dx (K0 : Nat) (d : PyData) : Prop where
  g : gd d
  dp : d.depth ≤ K0
end
end Fg
namespace Fg
open PySem PySem.Spec PyProof.Rows L2
local macro_rules | `(tactic| walk_at "hp") => `(tactic| first
  | assumption
  | exact upd_same
  | (refine Chg.at (by assumption) ?_; walk_at "hp")
  | (refine Chg.at1 (by assumption) ?_ (by walk_at "ne"); walk_at "hp"))
local macro_rules | `(tactic| walk_at "ne") => `(tactic| first | assumption | (apply Ne.symm; assumption))
local macro_rules | `(tactic| walk_at "sq") => `(tactic| first | assumption | exact sqL (by walk_at "hp") | (refine Chg.seq (by assumption) ?_; walk_at "sq"))
local macro_rules | `(tactic| walk_at "sz") => `(tactic| first | assumption | exact Nat.zero_le _ | (simp only [List.length_cons, List.length_nil]; decide) | exact Nat.le_trans (by first | omega | (simp; done) | (simp; omega)) (show 100000 ≤ sizeLine by decide) | exact Nat.lt_of_lt_of_le (by first | omega | (simp; done) | (simp; omega)) (show 100000 ≤ sizeLine by decide))
local macro_rules | `(tactic| walk_at "ix") => `(tactic| first | exact at0 | exact at1 | exact at2 | exact at3 | assumption | exact rfl | walk_at "ix2")
local macro_rules | `(tactic| walk_at "ix2") => `(tactic| fail)
local macro_rules | `(tactic| walk_at "num") => `(tactic| first | assumption | omega | decide | walk_at "num2")
local macro_rules | `(tactic| walk_at "num2") => `(tactic| fail)
local macro_rules | `(tactic| walk_at "im") => `(tactic| first | assumption | exact R.non (S := fun _ => False) | exact R.bl (S := fun _ => False) _ | exact R.int (S := fun _ => False) _ | exact R.str (S := fun _ => False) _ | (refine R.im (by assumption) ?_; walk_at "im"))
local macro_rules | `(tactic| walk_at "r") => `(tactic| first | assumption | exact R.non (S := fun _ => False) | exact R.bl (S := fun _ => False) _ | exact R.int (S := fun _ => False) _ | exact R.str (S := fun _ => False) _ | (refine R.same (by assumption) ?_; walk_at "r") | exact R.any (by walk_at "im"))
local macro_rules | `(tactic| walk_at "chg") => `(tactic| first
  | exact Chg.refl
  | assumption
  | (refine Chg.same ?_ (by assumption); walk_at "chg")
  | (refine Chg.both ?_ (by assumption); walk_at "chg")
  | (refine Chg.pre (by assumption) ?_; walk_at "chg"))
local macro_rules | `(tactic| walk_at "w1") => `(tactic| first
  | with_reducible apply w_seq
  | with_reducible apply w_asg
  | ((with_reducible apply w_var); (focus (exact rfl)))
  | with_reducible apply w_c
  | with_reducible apply w_op
  | with_reducible apply w_cons
  | with_reducible apply w_nil
  | with_reducible apply w_gName
  | with_reducible apply w_if
  | with_reducible apply w_test
  | with_reducible apply w_B
  | with_reducible apply w_isbl
  | with_reducible apply w_retN
  | with_reducible apply w_next
  | with_reducible apply w_drop
  | with_reducible apply w_cb
  | with_reducible apply w_call
  | with_reducible apply w_callN
  | with_reducible apply w_bm
  | with_reducible apply w_bm0
  | ((with_reducible apply w_tyL); (focus (walk_at "hp"; done)))
  | with_reducible apply w_dput
  | with_reducible apply w_m1
  | with_reducible apply w_isstr
  | with_reducible apply w_and
  | with_reducible apply w_or
  | with_reducible apply w_not
  | with_reducible apply w_andV
  | with_reducible apply w_orV
  | with_reducible apply w_notV
  | with_reducible apply w_ifE
  | with_reducible apply w_chain
  | with_reducible apply w_un
  | with_reducible apply w_neg
  | with_reducible apply w_add
  | with_reducible apply w_sub
  | ((with_reducible apply w_mod); (focus (walk_at "num"; done)))
  | ((with_reducible apply w_mul); (focus (walk_at "num"; done)))
  | ((with_reducible apply w_fdiv); (focus (walk_at "num"; done)))
  | ((with_reducible apply w_pow); (focus (walk_at "num"; done)))
  | with_reducible apply w_lt
  | with_reducible apply w_le
  | with_reducible apply w_gt
  | with_reducible apply w_ge
  | with_reducible apply w_ltS
  | with_reducible apply w_geS
  | with_reducible apply w_inC
  | with_reducible apply w_notInC
  | with_reducible apply w_isN
  | with_reducible apply w_notN
  | with_reducible apply w_isB
  | with_reducible apply w_notB
  | ((with_reducible apply w_addS); (focus (walk_at "sz"; done)))
  | ((with_reducible apply w_ixL); (focus (walk_at "sq"; done)); (focus (walk_at "ix"; done)))
  | ((with_reducible apply w_ixT); (focus (walk_at "hp"; done)); (focus (walk_at "ix"; done)))
  | ((with_reducible apply w_ixS); (focus (walk_at "sz"; done)); (focus (walk_at "ix"; done)))
  | with_reducible apply w_gSub
  | ((with_reducible apply w_gTup); (focus (walk_at "hp"; done)); (focus (exact rfl)))
  | with_reducible apply w_gCons
  | with_reducible apply w_gNil
  | ((with_reducible apply w_aug); (focus (exact rfl)))
  | with_reducible apply w_ipI
  | ((with_reducible apply w_eq); (focus (exact rfl)))
  | ((with_reducible apply w_ne); (focus (exact rfl)))
  | with_reducible apply w_max
  | with_reducible apply w_min
  | with_reducible apply w_abs
  | with_reducible apply w_intB
  | with_reducible apply w_intI
  | with_reducible apply w_tup1
  | with_reducible apply w_lst1
  | with_reducible apply w_sl
  | with_reducible apply w_part
  | with_reducible apply w_noPart
  | with_reducible apply w_isint
  | ((with_reducible apply w_slS); (focus (walk_at "sz"; done)))
  | with_reducible apply w_iteT
  | with_reducible apply w_iteF
  | with_reducible apply w_iteN
  | ((with_reducible apply w_iteYes); (focus (exact rfl)))
  | ((with_reducible apply w_iteNo); (focus (exact rfl)))
  | ((with_reducible apply w_lenL); (focus (walk_at "sq"; done)))
  | ((with_reducible apply w_lenT); (focus (walk_at "hp"; done)))
  | ((with_reducible apply w_lenS); (focus (walk_at "sz"; done)))
  | with_reducible apply w_lc
  | with_reducible apply w_for
  | with_reducible apply w_yes
  | ((with_reducible apply w_wipe); (focus (exact rfl)))
  | with_reducible apply w_iList
  | with_reducible apply w_iTup
  | with_reducible apply w_iStr
  | with_reducible apply w_iRng1
  | with_reducible apply w_iRng2
  | with_reducible apply w_iZip
  | with_reducible apply w_iEnum
  | ((with_reducible apply d_iList); (focus (walk_at "sq"; done)))
  | ((with_reducible apply d_iTup); (focus (walk_at "hp"; done)))
  | with_reducible apply d_iStr
  | ((with_reducible apply d_iRng1); (focus (walk_at "num"; done)); (focus (walk_at "num"; done)))
  | ((with_reducible apply d_iRng2); (focus (walk_at "num"; done)); (focus (walk_at "num"; done)); (focus (walk_at "num"; done)); (focus (walk_at "num"; done)))
  | ((with_reducible apply d_iZip); (focus (walk_at "sq"; done)); (focus (walk_at "sq"; done)))
  | ((with_reducible apply d_iEnum); (focus (walk_at "sq"; done)))
  | walk_at "w2")
local macro_rules | `(tactic| walk_at "w2") => `(tactic| fail)
local macro_rules | `(tactic| walk_at "wn") => `(tactic| repeat walk_at "w1")
local macro_rules | `(tactic| walk_at "w") => `(tactic| repeat (first | walk_at "w1" | with_reducible apply w_ret))
section
theorem w_rvL {K : PySem.W.Frag} {σ : L2.St} {H : Hp} {Q : VK} {te : TE} (h : te σ H fun x H1 => ∃ a xs, x = .ref a ∧ SqL K H1 a xs ∧ ∀ p, H1 p = none → Q (.ref p) (upd H1 p (.lst xs.reverse))) : tRevL K te σ H Q := h
def nIs (xs : List V) : Prop := ∀ y ∈ xs, ∃ z, y = .int z ∧ nI z
theorem nIs.app {xs ys : List V} (a : nIs xs) (b : nIs ys) : nIs (xs ++ ys) := fun y h => (List.mem_append.mp h).elim (a y) (b y)
theorem nIs.sub {xs ys : List V} (a : nIs xs) (s : ∀ y ∈ ys, y ∈ xs) : nIs ys := fun y h => a y (s y h)
theorem nIs.of {ns : List Int} (h : ∀ i ∈ ns, nI i) : nIs (ns.map V.int) := fun y hy => by
  obtain ⟨z, hz, rfl⟩ := List.mem_map.mp hy
  exact ⟨z, rfl, h z hz⟩
theorem nIs.ints {xs : List V} (h : nIs xs) : ∃ zs : List Int, xs = zs.map V.int ∧ ∀ z ∈ zs, nI z := ints_ys fun i y hy => h y (List.mem_of_getElem? hy)
def sp__law_numbers_turned (K : PySem.W.Frag) : Sp := fun vs H Q _ => ∃ (b l : Addr) (row : List Int) (n : Nat), vs = [.ref b, .ref l] ∧ Well H b n ∧ 10 ≤ n ∧ H l = some (.lst (row.map V.int)) ∧ l ≠ b ∧ row.length ≤ 12 ∧ (∀ i ∈ row, nI i) ∧
  ∀ (L : Addr) (row' : List Int) (H' : Hp), Chg [b] H H' → Well H' b (n - 10) → H L = none → H' L = some (.lst (row'.map V.int)) → row'.length ≤ row.length + 1 → (∀ i ∈ row', nI i) → Q (.ref L) H'
def t__law_numbers_turned (K : PySem.W.Frag) : TS :=
    tSeq (tAsg (tCall sp__law_draw [] E0 (tCons (tVar 0) (tCons (tC (.int 4)) (tNil)))) (gName 2))
    (tSeq (tAsg (tCall sp__law_draw [] E0 (tCons (tVar 0) (tCons (tOp oAdd (tCB (cLenQ K) (tCons (tVar 1) (tNil))) (tC (.int 1))) (tNil)))) (gName 3))
    (tSeq (tAsg (tCall sp__law_number [] E0 (tCons (tVar 0) (tNil))) (gName 4))
    (tSeq (tIfS (tTest (tOp rEq (tVar 2) (tC (.int 3)))) (tRet (tOp rCat (tOp rCat (tSl (rSlL K) (tVar 1) (tNoPart) (tPart (tVar 3))) (tRevL K (tSl (rSlL K) (tVar 1) (tPart (tVar 3)) (tPart (tOp oAdd (tVar 3) (tC (.int 2))))))) (tSl (rSlL K) (tVar 1) (tPart (tOp oAdd (tVar 3) (tC (.int 2)))) (tNoPart)))) (tNext))
    (tRet (tOp rCat (tOp rCat (tSl (rSlL K) (tVar 1) (tNoPart) (tPart (tVar 3))) (tOp (rIxL K) (tLst (tCons (tLst (tCons (tVar 4) (tNil))) (tCons (tLst (tNil)) (tCons (tLst (tCons (tVar 4) (tNil))) (tNil))))) (tVar 2))) (tSl (rSlL K) (tVar 1) (tPart (tOp oAdd (tVar 3) (tOp (rIxL K) (tLst (tCons (tC (.int 0)) (tCons (tC (.int 1)) (tCons (tC (.int 1)) (tNil))))) (tVar 2)))) (tNoPart)))))))
theorem pure__law_numbers_turned {K : PySem.W.Frag} (vs : List V) (H : Hp) (Q : VK) (E : XK) (h : sp__law_numbers_turned K vs H Q E) : t__law_numbers_turned K (fin Q) (start ["well", "row", "pick", "at", "more"] vs) H := by
  obtain ⟨b, l, row, n, rfl, bag, hn, hl, lb, ln, nm, q⟩ := h
  show t__law_numbers_turned K _ [some (.ref b), some (.ref l), none, none, none] H
  unfold t__law_numbers_turned
  have nx := nIs.of nm
  have lx : (row.map V.int).length = row.length := List.length_map ..
  generalize row.map V.int = xs at hl nx lx
  walk_at "w"
  refine u_draw bag (by omega) (by decide) (by decide) fun z H1 c1 bag1 z0 z1 => ?_
  have h1 := c1.at1 hl lb
  walk_at "w"
  refine u_draw bag1 (by omega) (by omega) (by omega) fun at_ H2 c2 bag2 a0 a1 => ?_
  obtain ⟨i, rfl⟩ : ∃ i : Nat, at_ = (i : Nat) := ⟨at_.toNat, by omega⟩
  have h2 := c2.at1 h1 lb
  walk_at "w"
  refine ⟨b, n - 2, rfl, bag2.le (by omega), by omega, fun v H3 c3 bag3 v0 v1 => ?_⟩
  have h3 := c3.at1 h2 lb
  have c13 : Chg [b] H H3 := (c1.both c2).both c3
  have out : ∀ {L : Addr} {ys : List V} {H' : Hp}, Chg [] H3 H' → H3 L = none → H' L = some (.lst ys) → nIs ys → ys.length ≤ row.length + 1 → Q (.ref L) H' := fun {L ys H'} c hL h hy hlen => by
    obtain ⟨zs, rfl, hz⟩ := hy.ints
    exact q L zs H' (c13.same c) ((bag3.same c).le (by omega)) (c13.dom _ hL) h (by rw [List.length_map] at hlen; exact hlen) hz
  walk_at "w"
  refine w_iteD (fun h => ?_) (fun h => ?_)
  · walk_at "w"
    refine w_slL (sqL h3) fun p4 H4 np4 c4 h4 => ?_
    rw [cut_to] at h4
    walk_at "w"
    refine w_rvL ?_
    walk_at "w"
    rw [show (((i : Nat) : Int)) + 2 = ((i + 2 : Nat) : Int) from by omega]
    refine w_slL (sqL (c4.at h3)) fun p5 H5 np5 c5 h5 => ?_
    rw [show cutV xs (some ((i : Nat) : Int)) (some ((i + 2 : Nat) : Int)) = (xs.drop (min i xs.length)).take (min (i + 2) xs.length - min i xs.length) from by unfold cutV; rw [HT.sIx_nat, HT.sIx_nat]] at h5
    refine ⟨p5, _, rfl, sqL h5, fun p6 np6 => ?_⟩
    generalize hm : (xs.drop (min i xs.length)).take (min (i + 2) xs.length - min i xs.length) = md at h5
    have c6 : Chg [] H5 (upd H5 p6 (.lst md.reverse)) := .new np6
    have h6 : (upd H5 p6 (.lst md.reverse)) p6 = some (.lst md.reverse) := upd_same
    generalize upd H5 p6 (.lst md.reverse) = H6 at c6 h6 ⊢
    have lmd : md.length ≤ min (i + 2) xs.length - min i xs.length := by rw [← hm, List.length_take]; omega
    have nmd : nIs md := nx.sub fun y hy => by rw [← hm] at hy; exact List.mem_of_mem_drop (List.mem_of_mem_take hy)
    have c36 : Chg [] H3 H6 := (c4.same c5).same c6
    refine w_cat (c6.at (c5.at h4)) h6 (by rw [List.length_take, List.length_reverse]; omega) fun p7 H7 np7 c7 h7 => ?_
    walk_at "w"
    rw [show (((i : Nat) : Int)) + 2 = ((i + 2 : Nat) : Int) from by omega]
    refine w_slL (sqL (c7.at (c36.at h3))) fun p8 H8 np8 c8 h8 => ?_
    rw [cut_from] at h8
    refine w_cat (c8.at h7) h8 (by rw [List.length_append, List.length_take, List.length_reverse, List.length_drop]; omega) fun p9 H9 np9 c9 h9 => ?_
    have c39 := ((c36.same c7).same c8).same c9
    exact out c39 ((c36.same c7).dom _ (c8.dom _ np9)) h9 (((nx.sub fun y hy => List.mem_of_mem_take hy).app (nmd.sub fun y hy => List.mem_reverse.mp hy)).app (nx.sub fun y hy => List.mem_of_mem_drop hy)) (by rw [List.length_append, List.length_append, List.length_take, List.length_reverse, List.length_drop]; omega)
  · walk_at "w"
    refine w_slL (sqL h3) fun p4 H4 np4 c4 h4 => ?_
    rw [cut_to] at h4
    walk_at "w"
    refine k_lst (by walk_at "sz") fun p5 H5 np5 c5 h5 => ?_
    walk_at "w"
    refine k_lst (by walk_at "sz") fun p6 H6 np6 c6 h6 => ?_
    walk_at "w"
    refine k_lst (by walk_at "sz") fun p7 H7 np7 c7 h7 => ?_
    walk_at "w"
    refine k_lst (by walk_at "sz") fun p8 H8 np8 c8 h8 => ?_
    have c38 : Chg [] H3 H8 := (((c4.same c5).same c6).same c7).same c8
    walk_at "w"
    have hz : z = 0 ∨ z = 1 ∨ z = 2 := by
      have : ¬ z = 3 := fun e => h (by rw [e])
      omega
    obtain ⟨pm, ym, zm, e1, h9, e2, nm9, l9⟩ : ∃ (pm : Addr) (ym : List V) (zm : Nat), atI [V.ref p5, V.ref p6, V.ref p7] z = some (.ref pm) ∧ H8 pm = some (.lst ym) ∧ atI [V.int 0, V.int 1, V.int 1] z = some (.int (zm : Nat)) ∧ nIs ym ∧ ym.length ≤ 1 := by
      have one : nIs [V.int v] := fun y hy => by rw [List.mem_singleton.mp hy]; exact ⟨v, rfl, v0, v1⟩
      rcases hz with rfl | rfl | rfl
      · exact ⟨p5, [.int v], 0, at0, c8.at (c7.at (c6.at h5)), at0, one, Nat.le_refl _⟩
      · exact ⟨p6, [], 1, at1, c8.at (c7.at h6), at1, fun y hy => (by cases hy), Nat.zero_le _⟩
      · exact ⟨p7, [.int v], 1, at2, c8.at h7, at2, one, Nat.le_refl _⟩
    refine w_ixL (sqL h8) e1 ?_
    refine w_cat (c8.at (c7.at (c6.at (c5.at h4)))) h9 (by rw [List.length_take]; omega) fun p9 H9 np9 c9 h9' => ?_
    walk_at "w"
    refine k_lst (by walk_at "sz") fun p10 H10 np10 c10 h10 => ?_
    walk_at "w"
    rw [show (((i : Nat) : Int)) + ((zm : Nat) : Int) = ((i + zm : Nat) : Int) from by omega]
    have c310 := (c38.same c9).same c10
    refine w_slL (sqL (c310.at h3)) fun p11 H11 np11 c11 h11 => ?_
    rw [cut_from] at h11
    refine w_cat (c11.at (c10.at h9')) h11 (by rw [List.length_append, List.length_take, List.length_drop]; omega) fun p12 H12 np12 c12 h12 => ?_
    exact out ((c310.same c11).same c12) (c310.dom _ (c11.dom _ np12)) h12 (((nx.sub fun y hy => List.mem_of_mem_take hy).app nm9).app (nx.sub fun y hy => List.mem_of_mem_drop hy)) (by rw [List.length_append, List.length_append, List.length_take, List.length_drop]; omega)
theorem ims_ys {H : Hp} {P : PyData → Prop} : ∀ {acc : List V}, (∀ (i : Nat) y, acc[i]? = some y → ∃ d, Im H y d ∧ P d) → ∃ ds, ImA H acc ds ∧ ∀ d ∈ ds, P d
  | [], _ => ⟨[], .nil, fun z h => by cases h⟩
  | v :: r, h => by
    obtain ⟨z, hr, hz⟩ := h 0 v rfl
    obtain ⟨zs, e, hs⟩ := ims_ys (acc := r) fun i y hy => h (i + 1) y hy
    refine ⟨z :: zs, .cons hr e, fun y hy => ?_⟩
    rcases List.mem_cons.mp hy with rfl | hy
    · exact hz
    · exact hs y hy
structure MkOk (mds : List PyData) : Prop where
  few : mds.length ≤ 6
  flat : ∀ d ∈ mds, noDic d = true
  dp : ∀ d ∈ mds, d.depth ≤ 3
def sp__law_marks : Sp := fun vs H Q _ => ∃ (b : Addr) (n : Nat), vs = [.ref b] ∧ Well H b n ∧ 20 ≤ n ∧ ∀ (L : Addr) (xs : List V) (mds : List PyData) (H' : Hp), Chg [b] H H' → Well H' b (n - 20) → H L = none → H' L = some (.lst xs) → ImA H' xs mds → MkOk mds → Q (.ref L) H'
def t__law_marks  : TS :=
    tRet (tLc (iRng1 (tCons (tCall sp__law_draw [] E0 (tCons (tVar 0) (tCons (tC (.int 6)) (tNil)))) (tNil))) (gName 1) (tYes) (tTup (tCons (tTup (tCons (tVar 1) (tCons (tCall sp__law_draw [] E0 (tCons (tVar 0) (tCons (tC (.int 3)) (tNil)))) (tNil)))) (tCons (tVar 1) (tNil)))) [1])
theorem pure__law_marks {K : PySem.W.Frag} (vs : List V) (H : Hp) (Q : VK) (E : XK) (h : sp__law_marks vs H Q E) : t__law_marks (fin Q) (start ["well", "k"] vs) H := by
  obtain ⟨b, n, rfl, bag, hn, q⟩ := h
  show t__law_marks _ [some (.ref b), none] H
  unfold t__law_marks
  walk_at "w"
  refine u_draw bag (by omega) (by decide) (by decide) fun w H1 c1 bag1 w0 w1 => ?_
  have b1 := bag1.some
  walk_at "w"
  refine w_lcP walk_range [b] (fun i Hx => Well Hx b (n - 1 - i)) (fun i y Hx => ∃ d, Im Hx y d ∧ noDic d = true ∧ d.depth ≤ 3) (bag1.le (by omega)) (fun i H1 H2 p np c h => h.one c (fun z => b1 (by rw [z]; exact np))) (fun _ _ => trivial) (fun D i acc z H2 H3 hi nD hD el iv c2 bag2 y => ?_) (fun D acc H2 nD c2 bag2 el hD ys => ?_)
  · obtain ⟨rfl, rfl⟩ := y
    walk_at "w"
    refine u_draw bag2 (by omega) (by decide) (by decide) fun v H4 c4 bag4 v0 v1 => ?_
    walk_at "w"
    refine k_tup (by walk_at "sz") fun p5 H5 np5 c5 h5 => ?_
    walk_at "w"
    refine k_tup (by walk_at "sz") fun p6 H6 np6 c6 h6 => ?_
    exact lcp_end (fun i H1 H2 p np c h => h.one c (fun z => b1 (by rw [z]; exact np))) (fun i y H1 H2 p np c ⟨d, r, h⟩ => ⟨d, r.im c, h⟩) nD (fun a ha => by rw [List.mem_singleton.mp ha]; exact b1) hD el (by omega) iv ((c4.same c5).same c6) (((bag4.same c5).same c6).le (by omega)) ⟨.tuple [.tuple [.int (0 + (i : Nat)), .int v], .int (0 + (i : Nat))], .tup h6 (.cons (.tup (c6.at h5) (.cons (.int _) (.cons (.int _) .nil))) (.cons (.int _) .nil)), rfl, by show max (max 0 (max 0 0) + 1) (max 0 0) + 1 ≤ 3; decide⟩
  · obtain ⟨mds, im, hm⟩ := ims_ys ys
    refine q D acc mds H2 (c1.both c2) (bag2.le (by omega)) (c1.dom _ nD) hD im ⟨?_, fun d hd => (hm d hd).1, fun d hd => (hm d hd).2⟩
    rw [← im.length, el]
    omega
theorem CsOk.app {cs ds : Cells} (a : ∀ c ∈ cs, nI c.1 ∧ nI c.2) (b : ∀ c ∈ ds, nI c.1 ∧ nI c.2) : ∀ c ∈ cs ++ ds, nI c.1 ∧ nI c.2 := fun c h => (List.mem_append.mp h).elim (a c) (b c)
def rwOk (g : Str × List Int) : Prop := nameS g.1 = true ∧ g.2.length ≤ 12 ∧ ∀ i ∈ g.2, nI i
theorem gv_of {gv : Given} (l : gv.length ≤ 11) (h : ∀ g ∈ gv, rwOk g) : GvOk gv := ⟨l, fun g hg => (h g hg).1, fun g hg => (h g hg).2⟩
theorem gift_at {S : Addr → Prop} {H : Hp} {xs : List V} {gv : Given} {i : Nat} {x : V} (r : RA S H xs (gv.map giftD)) (ex : xs[i]? = some x) : ∃ T g l, gv[i]? = some g ∧ x = .ref T ∧ H T = some (.tup [.str g.1, .ref l]) ∧ S l ∧ H l = some (.lst (g.2.map V.int)) := by
  obtain ⟨d, ed, r1⟩ := r.get ex
  rw [List.getElem?_map] at ed
  cases hg : gv[i]? with
  | none => rw [hg] at ed; cases ed
  | some g =>
    rw [hg] at ed
    cases ed
    cases r1 with
    | @tup T _ _ e ra =>
      cases ra with
      | cons r0 rs0 =>
        cases rs0 with
        | cons r3 rs3 =>
          cases rs3
          cases r0
          cases r3 with
          | @lst l ys _ s e4 ra4 =>
            have := ints_of ra4
            subst this
            exact ⟨T, g, l, rfl, rfl, e, s, e4⟩
theorem noDics_ints : ∀ ns : List Int, noDics (ns.map PyData.int) = true
  | [] => rfl
  | n :: r => by show (true && noDics (r.map PyData.int)) = true; rw [noDics_ints r]; rfl
theorem noDics_gifts : ∀ gv : Given, noDics (gv.map giftD) = true
  | [] => rfl
  | g :: r => by
    show ((true && (noDics (g.2.map PyData.int) && true)) && noDics (r.map giftD)) = true
    rw [noDics_gifts r, noDics_ints]
    rfl
def sp__law_turned11 (K : PySem.W.Frag) : Sp := fun vs H Q _ => ∃ (b cl gl : Addr) (cxs gxs : List V) (cs : Cells) (gv : Given) (n : Nat), vs = [.ref b, .ref cl, .ref gl] ∧ Well H b n ∧ 100 ≤ n ∧ H cl = some (.lst cxs) ∧ cl ≠ b ∧ ImA H cxs (cs.map pairD) ∧ cs.length ≤ 10 ∧ CsOk cs ∧
  H gl = some (.lst gxs) ∧ gl ≠ b ∧ RA (Nb b) H gxs (gv.map giftD) ∧ gv.length ≤ 10 ∧ (∀ g ∈ gv, rwOk g ∧ g.2.length ≤ 11) ∧
  ∀ (T cl2 gl2 : Addr) (cxs2 gxs2 : List V) (cs2 : Cells) (gv2 : Given) (H' : Hp), Chg [b] H H' → Well H' b (n - 100) → H' T = some (.tup [.ref cl2, .ref gl2]) → cl2 ≠ b → H' cl2 = some (.lst cxs2) → ImA H' cxs2 (cs2.map pairD) → CsOk cs2 → gl2 ≠ b → H' gl2 = some (.lst gxs2) → RA (Nb b) H' gxs2 (gv2.map giftD) → GvOk gv2 → Q (.ref T) H'
def t__law_turned11 (K : PySem.W.Frag) : TS :=
    tSeq (tAsg (tCall sp__law_draw [] E0 (tCons (tVar 0) (tCons (tC (.int 6)) (tNil)))) (gName 3))
    (tSeq (tIfS (tAnd (tTest (tOp oLt (tVar 3) (tC (.int 2)))) (tTest (tOp oNeE (tVar 1) (tLst (tNil))))) (tSeq (tAsg (tCall sp__law_draw [] E0 (tCons (tVar 0) (tCons (tCB (cLenQ K) (tCons (tVar 1) (tNil))) (tNil)))) (gName 4))
    (tSeq (tAsg (tOp (rIxL K) (tVar 1) (tVar 4)) (gTup K 2 (gCons (gName 5) (gCons (gName 6) (gNil)))))
    (tSeq (tAsg (tOp (rIxL K) (tLst (tCons (tLst (tCons (tTup (tCons (tVar 5) (tCons (tCall sp__law_number [] E0 (tCons (tVar 0) (tNil))) (tNil)))) (tNil))) (tCons (tLst (tCons (tTup (tCons (tCall sp__law_number [] E0 (tCons (tVar 0) (tNil))) (tCons (tVar 6) (tNil)))) (tNil))) (tCons (tLst (tNil)) (tNil))))) (tCall sp__law_draw [] E0 (tCons (tVar 0) (tCons (tC (.int 3)) (tNil))))) (gName 7))
    (tRet (tTup (tCons (tOp rCat (tOp rCat (tSl (rSlL K) (tVar 1) (tNoPart) (tPart (tVar 4))) (tVar 7)) (tSl (rSlL K) (tVar 1) (tPart (tOp oAdd (tVar 4) (tC (.int 1)))) (tNoPart))) (tCons (tVar 2) (tNil)))))))) (tNext))
    (tSeq (tIfS (tTest (tOp oEqD (tVar 2) (tLst (tNil)))) (tRet (tTup (tCons (tOp rCat (tVar 1) (tLst (tCons (tTup (tCons (tC (.int 3)) (tCons (tC (.int 4)) (tNil)))) (tNil)))) (tCons (tVar 2) (tNil))))) (tNext))
    (tSeq (tAsg (tCall sp__law_draw [] E0 (tCons (tVar 0) (tCons (tCB (cLenQ K) (tCons (tVar 2) (tNil))) (tNil)))) (gName 4))
    (tSeq (tAsg (tOp (rIxL K) (tVar 2) (tVar 4)) (gTup K 2 (gCons (gName 8) (gCons (gName 7) (gNil)))))
    (tSeq (tIfS (tTest (tOp oLt (tVar 3) (tC (.int 5)))) (tRet (tTup (tCons (tVar 1) (tCons (tOp rCat (tOp rCat (tSl (rSlL K) (tVar 2) (tNoPart) (tPart (tVar 4))) (tLst (tCons (tTup (tCons (tVar 8) (tCons (tCall (sp__law_numbers_turned K) [] E0 (tCons (tVar 0) (tCons (tCB (cListQ K) (tCons (tVar 7) (tNil))) (tNil)))) (tNil)))) (tNil)))) (tSl (rSlL K) (tVar 2) (tPart (tOp oAdd (tVar 4) (tC (.int 1)))) (tNoPart))) (tNil))))) (tNext))
    (tRet (tTup (tCons (tVar 1) (tCons (tOp rCat (tOp rCat (tSl (rSlL K) (tVar 2) (tNoPart) (tPart (tVar 4))) (tOp (rIxL K) (tLst (tCons (tLst (tCons (tTup (tCons (tCall (sp__law_new_name K) [] E0 (tCons (tVar 0) (tCons (tLst (tCons (tVar 8) (tNil))) (tNil)))) (tCons (tVar 7) (tNil)))) (tNil))) (tCons (tLst (tNil)) (tNil)))) (tCall sp__law_draw [] E0 (tCons (tVar 0) (tCons (tC (.int 2)) (tNil)))))) (tSl (rSlL K) (tVar 2) (tPart (tOp oAdd (tVar 4) (tC (.int 1)))) (tNoPart))) (tNil))))))))))
def t__law_turned_2 (K : PySem.W.Frag) : TS :=
    tSeq (tIfS (tTest (tOp oEqD (tVar 2) (tLst (tNil)))) (tRet (tTup (tCons (tOp rCat (tVar 1) (tLst (tCons (tTup (tCons (tC (.int 3)) (tCons (tC (.int 4)) (tNil)))) (tNil)))) (tCons (tVar 2) (tNil))))) (tNext))
    (tSeq (tAsg (tCall sp__law_draw [] E0 (tCons (tVar 0) (tCons (tCB (cLenQ K) (tCons (tVar 2) (tNil))) (tNil)))) (gName 4))
    (tSeq (tAsg (tOp (rIxL K) (tVar 2) (tVar 4)) (gTup K 2 (gCons (gName 8) (gCons (gName 7) (gNil)))))
    (tSeq (tIfS (tTest (tOp oLt (tVar 3) (tC (.int 5)))) (tRet (tTup (tCons (tVar 1) (tCons (tOp rCat (tOp rCat (tSl (rSlL K) (tVar 2) (tNoPart) (tPart (tVar 4))) (tLst (tCons (tTup (tCons (tVar 8) (tCons (tCall (sp__law_numbers_turned K) [] E0 (tCons (tVar 0) (tCons (tCB (cListQ K) (tCons (tVar 7) (tNil))) (tNil)))) (tNil)))) (tNil)))) (tSl (rSlL K) (tVar 2) (tPart (tOp oAdd (tVar 4) (tC (.int 1)))) (tNoPart))) (tNil))))) (tNext))
    (tRet (tTup (tCons (tVar 1) (tCons (tOp rCat (tOp rCat (tSl (rSlL K) (tVar 2) (tNoPart) (tPart (tVar 4))) (tOp (rIxL K) (tLst (tCons (tLst (tCons (tTup (tCons (tCall (sp__law_new_name K) [] E0 (tCons (tVar 0) (tCons (tLst (tCons (tVar 8) (tNil))) (tNil)))) (tCons (tVar 7) (tNil)))) (tNil))) (tCons (tLst (tNil)) (tNil)))) (tCall sp__law_draw [] E0 (tCons (tVar 0) (tCons (tC (.int 2)) (tNil)))))) (tSl (rSlL K) (tVar 2) (tPart (tOp oAdd (tVar 4) (tC (.int 1)))) (tNoPart))) (tNil))))))))
theorem pure__law_turned11 {K : PySem.W.Frag} (vs : List V) (H : Hp) (Q : VK) (E : XK) (h : sp__law_turned11 K vs H Q E) : t__law_turned11 K (fin Q) (start ["well", "cells", "given", "pick", "at", "cell", "number", "row", "name"] vs) H := by
  obtain ⟨b, cl, gl, cxs, gxs, cs, gv, n, rfl, bag, hn, hc, cb, imc, lc, okc, hg, gb, rg, lg, okg, q⟩ := h
  show t__law_turned11 K _ [some (.ref b), some (.ref cl), some (.ref gl), none, none, none, none, none, none] H
  unfold t__law_turned11
  have lcx : cxs.length = cs.length := by rw [imc.length, List.length_map]
  have lgx : gxs.length = gv.length := by rw [rg.length, List.length_map]
  walk_at "w"
  refine u_draw bag (by omega) (by decide) (by decide) fun z H1 c1 bag1 z0 z1 => ?_
  have hc1 := c1.at1 hc cb
  have hg1 := c1.at1 hg gb
  have nbN : ∀ {H' : Hp} {p' : Addr} {j : Nat}, Well H' b j → H' p' = none → p' ≠ b := fun bg np z => bg.some (by rw [← z]; exact np)
  -- behind the cells
  have tail : ∀ (H2 : Hp) (y : Option V), Chg [] H1 H2 → t__law_turned_2 K (fin Q) [some (.ref b), some (.ref cl), some (.ref gl), some (.int z), none, none, none, none, none] H2 := fun H2 y c2 => by
    unfold t__law_turned_2
    have hc2 := c2.at hc1
    have hg2 := c2.at hg1
    have bag2 := bag1.same c2
    have cH2 : Chg [b] H H2 := c1.same c2
    have rg2 : RA (Nb b) H2 gxs (gv.map giftD) := rg.keep cH2 fun _ s h => s (List.mem_singleton.mp h)
    have im2 := imc.im cH2
    walk_at "w"
    refine k_lst (by walk_at "sz") fun p3 H3 np3 c3 h3 => ?_
    refine w_eqD (d := giftsD gv) (e := .list []) (S := Nb b) (S' := fun _ => True) (.lst gb (c3.at hg2) (rg2.same c3)) (.lst trivial h3 .nil) (by show noDics (gv.map giftD) = true; exact noDics_gifts gv) rfl (by show min _ 1 ≤ 60; omega) ?_
    have bag3 := bag2.same c3
    cases gv with
    | nil =>
      walk_at "w"
      refine k_tup (by walk_at "sz") fun p4 H4 np4 c4 h4 => ?_
      walk_at "w"
      refine k_lst (by walk_at "sz") fun p5 H5 np5 c5 h5 => ?_
      have c25 : Chg [] H2 H5 := (c3.same c4).same c5
      refine w_cat (c25.at hc2) h5 (by simp; omega) fun p6 H6 np6 c6 h6 => ?_
      walk_at "w"
      refine k_tup (by walk_at "sz") fun p7 H7 np7 c7 h7 => ?_
      have c27 : Chg [] H2 H7 := (c25.same c6).same c7
      refine q p7 p6 gl (cxs ++ [.ref p4]) gxs (cs ++ [(3, 4)]) [] H7 (cH2.same c27) ((bag2.same c27).le (by omega)) h7 (nbN (bag2.same c25) np6) (c7.at h6) ?_ ⟨by rw [List.length_append, List.length_singleton]; omega, CsOk.app okc.nums fun c hc => ?_⟩ gb (c27.at hg2) (rg2.same c27) ⟨by simp, fun g h => (by cases h), fun g h => (by cases h)⟩
      · rw [List.map_append]
        exact (im2.im c27).snoc (.tup (c7.at (c6.at (c5.at h4))) (.cons (.int _) (.cons (.int _) .nil)))
      · rw [List.mem_singleton.mp hc]
        exact ⟨⟨by decide, by decide⟩, ⟨by decide, by decide⟩⟩
    | cons g0 gr =>
      generalize hgv : g0 :: gr = gv at *
      have lpos : 0 < gv.length := by rw [← hgv]; simp
      have hf : (giftsD gv).eqv (.list []) = false := by rw [← hgv]; rfl
      rw [hf]
      walk_at "w"
      refine u_draw bag3 (by omega) (by omega) (by omega) fun at_ H4 c4 bag4 a0 a1 => ?_
      obtain ⟨i, rfl⟩ : ∃ i : Nat, at_ = (i : Nat) := ⟨at_.toNat, by omega⟩
      have hi : i < gxs.length := by omega
      have ex : gxs[i]? = some gxs[i] := List.getElem?_eq_getElem hi
      have c24 : Chg [b] H2 H4 := c3.pre c4
      have rg4 : RA (Nb b) H4 gxs (gv.map giftD) := rg2.keep c24 fun _ s h => s (List.mem_singleton.mp h)
      obtain ⟨T, g, l, eg, eT, hT, lb, hl⟩ := gift_at rg4 ex
      have hg4 := c24.at1 hg2 gb
      have hc4 := c24.at1 hc2 cb
      have gm : g ∈ gv := List.mem_of_getElem? eg
      obtain ⟨⟨gn, gl12, gnum⟩, gl11⟩ := okg g gm
      have bag4 := bag4
      have ei : (((i : Nat) : Int)) + 1 = ((i + 1 : Nat) : Int) := by omega
      walk_at "w"
      refine w_ixL (sqL hg4) (v := .ref T) (by rw [← eT]; exact atI_nat ex) ?_
      walk_at "w"
      refine w_iteD (fun h5 => ?_) (fun h5 => ?_)
      · walk_at "w"
        refine w_slL (sqL hg4) fun p5 H5 np5 c5 h5 => ?_
        rw [cut_to] at h5
        walk_at "w"
        refine w_listL (sqL (c5.at hl)) fun p6 H6 np6 c6 h6 => ?_
        walk_at "w"
        have c46 : Chg [] H4 H6 := c5.same c6
        refine ⟨b, p6, g.2, n - 20, rfl, (bag4.same c46).le (by omega), by omega, h6, nbN (bag4.same c5) np6, gl12, gnum, fun L row' H7 c7 bag7 nL hL lr nr => ?_⟩
        walk_at "w"
        refine k_tup (by walk_at "sz") fun p8 H8 np8 c8 h8 => ?_
        walk_at "w"
        refine k_lst (by walk_at "sz") fun p9 H9 np9 c9 h9 => ?_
        have c49 : Chg [b] H4 H9 := ((c46.pre c7).same c8).same c9
        have h59 := c9.at (c8.at (c7.at1 (c6.at h5) (nbN bag4 np5)))
        refine w_cat h59 h9 (by rw [List.length_take]; simp; omega) fun p10 H10 np10 c10 h10 => ?_
        walk_at "w"
        rw [ei]
        refine w_slL (sqL (c10.at (c49.at1 hg4 gb))) fun p11 H11 np11 c11 h11 => ?_
        rw [cut_from] at h11
        refine w_cat (c11.at h10) h11 (by rw [List.length_append, List.length_take, List.length_drop]; simp; omega) fun p12 H12 np12 c12 h12 => ?_
        walk_at "w"
        refine k_tup (by walk_at "sz") fun p13 H13 np13 c13 h13 => ?_
        have c413 : Chg [b] H4 H13 := (((c49.same c10).same c11).same c12).same c13
        have c2_13 := c24.both c413
        have rg13 : RA (Nb b) H13 gxs (gv.map giftD) := rg4.keep c413 fun _ s h => s (List.mem_singleton.mp h)
        have c813 : Chg [] H8 H13 := (((c9.same c10).same c11).same c12).same c13
        have bag9 := (bag7.same c8).same c9
        refine q p13 cl p12 cxs _ cs ((gv.take i ++ [(g.1, row')]) ++ gv.drop (i + 1)) H13 (cH2.both c2_13) ((bag9.same (((c10.same c11).same c12).same c13)).le (by omega)) h13 cb (c2_13.at1 hc2 cb) (im2.im c2_13) ⟨by omega, okc.nums⟩ (nbN ((bag9.same c10).same c11) np12) (c13.at h12) ?_ (gv_of ?_ fun x hx => ?_)
        · rw [List.map_append, List.map_append, List.map_take, List.map_drop]
          exact ((rg13.take i).append (.cons (.tup (c813.at h8) (.cons (.str _) (.cons (.lst (nbN (bag4.same c46) nL) (c813.at (c8.at hL)) (imInts _)) .nil))) .nil)).append (rg13.drop (i + 1))
        · rw [List.length_append, List.length_append, List.length_take, List.length_drop]
          simp
          omega
        · rcases List.mem_append.mp hx with h | h
          · rcases List.mem_append.mp h with h | h
            · exact (okg x (List.mem_of_mem_take h)).1
            · rw [List.mem_singleton.mp h]; exact ⟨gn, (show row'.length ≤ 12 by omega), nr⟩
          · exact (okg x (List.mem_of_mem_drop h)).1
      · walk_at "w"
        refine w_slL (sqL hg4) fun p5 H5 np5 c5 h5 => ?_
        rw [cut_to] at h5
        walk_at "w"
        refine k_lst (by walk_at "sz") fun p6 H6 np6 c6 h6 => ?_
        walk_at "w"
        have c46 : Chg [] H4 H6 := c5.same c6
        refine ⟨b, p6, [g.1], n - 20, rfl, (bag4.same c46).le (by omega), by omega, h6, nbN (bag4.same c5) np6, by simp, fun x hx => by rw [List.mem_singleton.mp hx]; exact gn, fun nm H7 c7 bag7 oknm _ => ?_⟩
        walk_at "w"
        refine k_tup (by walk_at "sz") fun p8 H8 np8 c8 h8 => ?_
        walk_at "w"
        refine k_lst (by walk_at "sz") fun p9 H9 np9 c9 h9 => ?_
        walk_at "w"
        refine k_lst (by walk_at "sz") fun p9' H9' np9' c9' h9' => ?_
        walk_at "w"
        refine k_lst (by walk_at "sz") fun p9x H9x np9x c9x h9x => ?_
        walk_at "w"
        have bag9 := (((bag7.same c8).same c9).same c9').same c9x
        refine u_draw bag9 (by omega) (by decide) (by decide) fun w H10 c10 bag10 w0 w1 => ?_
        have nx := nbN (((bag7.same c8).same c9).same c9') np9x
        have n9 := nbN (bag7.same c8) np9
        have n9' := nbN ((bag7.same c8).same c9) np9'
        have h8' := c10.tup _ _ (c9x.at (c9'.at (c9.at h8)))
        have c410 : Chg [b] H4 H10 := (((((c46.pre c7).same c8).same c9).same c9').same c9x).both c10
        have rg10 : RA (Nb b) H10 gxs (gv.map giftD) := rg4.keep c410 fun _ s h => s (List.mem_singleton.mp h)
        have hl10 := c410.at1 hl lb
        obtain ⟨pm, ym, gm', e1, h9m, rm, okm, lm⟩ : ∃ (pm : Addr) (ym : List V) (gm' : Given), atI [V.ref p9, V.ref p9'] w = some (.ref pm) ∧ H10 pm = some (.lst ym) ∧ RA (Nb b) H10 ym (gm'.map giftD) ∧ (∀ x ∈ gm', rwOk x) ∧ gm'.length ≤ 1 := by
          have : w = 0 ∨ w = 1 := by omega
          rcases this with rfl | rfl
          · exact ⟨p9, _, [(nm, g.2)], at0, c10.at1 (c9x.at (c9'.at h9)) n9, .cons (.tup h8' (.cons (.str _) (.cons (.lst lb hl10 (imInts _)) .nil))) .nil, fun x hx => by rw [List.mem_singleton.mp hx]; exact ⟨oknm, gl12, gnum⟩, Nat.le_refl _⟩
          · exact ⟨p9', [], [], at1, c10.at1 (c9x.at h9') n9', .nil, fun x hx => (by cases hx), Nat.zero_le _⟩
        refine w_ixL (sqL (c10.at1 h9x nx)) e1 ?_
        have h5' := c10.at1 (c9x.at (c9'.at (c9.at (c8.at (c7.at1 (c6.at h5) (nbN bag4 np5)))))) (nbN bag4 np5)
        have lym : ym.length ≤ 1 := by rw [rm.length, List.length_map]; exact lm
        refine w_cat h5' h9m (by rw [List.length_take]; omega) fun p11 H11 np11 c11 h11 => ?_
        walk_at "w"
        rw [ei]
        refine w_slL (sqL (c11.at (c410.at1 hg4 gb))) fun p12 H12 np12 c12 h12 => ?_
        rw [cut_from] at h12
        refine w_cat (c12.at h11) h12 (by rw [List.length_append, List.length_take, List.length_drop]; omega) fun p13 H13 np13 c13 h13 => ?_
        walk_at "w"
        refine k_tup (by walk_at "sz") fun p14 H14 np14 c14 h14 => ?_
        have c1014 : Chg [] H10 H14 := ((c11.same c12).same c13).same c14
        have c2_14 := c24.both (c410.same c1014)
        refine q p14 cl p13 cxs _ cs ((gv.take i ++ gm') ++ gv.drop (i + 1)) H14 (cH2.both c2_14) ((bag10.same c1014).le (by omega)) h14 cb (c2_14.at1 hc2 cb) (im2.im c2_14) ⟨by omega, okc.nums⟩ (nbN ((bag10.same c11).same c12) np13) (c14.at h13) ?_ (gv_of ?_ fun x hx => ?_)
        · rw [List.map_append, List.map_append, List.map_take, List.map_drop]
          exact (((rg10.same c1014).take i).append (rm.same c1014)).append ((rg10.same c1014).drop (i + 1))
        · rw [List.length_append, List.length_append, List.length_take, List.length_drop]
          omega
        · rcases List.mem_append.mp hx with h | h
          · rcases List.mem_append.mp h with h | h
            · exact (okg x (List.mem_of_mem_take h)).1
            · exact okm x h
          · exact (okg x (List.mem_of_mem_drop h)).1
  walk_at "w"
  refine w_iteD (fun h2 => ?_) (fun h2 => ?_)
  · walk_at "w"
    refine k_lst (by walk_at "sz") fun p2 H2 np2 c2 hp2 => ?_
    refine w_neE (c2.at hc1) hp2 ?_
    walk_at "w"
    refine w_iteB (fun he => ?_) (fun he => ?_)
    · exact tail H2 none c2
    · have bag2 := bag1.same c2
      have cH2 : Chg [b] H H2 := c1.same c2
      have lpos : 0 < cxs.length := by
        cases cxs with
        | nil => cases he
        | cons _ _ => simp
      walk_at "w"
      refine u_draw bag2 (by omega) (by omega) (by omega) fun at_ H3 c3 bag3 a0 a1 => ?_
      obtain ⟨i, rfl⟩ : ∃ i : Nat, at_ = (i : Nat) := ⟨at_.toNat, by omega⟩
      have hi : i < cxs.length := by omega
      have ex : cxs[i]? = some cxs[i] := List.getElem?_eq_getElem hi
      have cH3 : Chg [b] H H3 := cH2.both c3
      obtain ⟨T, c, ec, eT, hT⟩ := pair_at (imc.im cH3) ex
      have cm : c ∈ cs := List.mem_of_getElem? ec
      obtain ⟨cn1, cn2⟩ := okc.nums c cm
      have hc3 := c3.at1 (c2.at hc1) cb
      have ei : (((i : Nat) : Int)) + 1 = ((i + 1 : Nat) : Int) := by omega
      walk_at "w"
      refine w_ixL (sqL hc3) (v := .ref T) (by rw [← eT]; exact atI_nat ex) ?_
      walk_at "w"
      refine ⟨b, n - 2, rfl, bag3.le (by omega), by omega, fun v4 H4 c4 bag4 v40 v41 => ?_⟩
      walk_at "w"
      refine k_tup (by walk_at "sz") fun p5 H5 np5 c5 h5 => ?_
      walk_at "w"
      refine k_lst (by walk_at "sz") fun p6 H6 np6 c6 h6 => ?_
      walk_at "w"
      have bag6 := (bag4.same c5).same c6
      refine ⟨b, n - 4, rfl, bag6.le (by omega), by omega, fun v7 H7 c7 bag7 v70 v71 => ?_⟩
      walk_at "w"
      refine k_tup (by walk_at "sz") fun p8 H8 np8 c8 h8 => ?_
      walk_at "w"
      refine k_lst (by walk_at "sz") fun p9 H9 np9 c9 h9 => ?_
      walk_at "w"
      refine k_lst (by walk_at "sz") fun p10 H10 np10 c10 h10 => ?_
      walk_at "w"
      refine k_lst (by walk_at "sz") fun p11 H11 np11 c11 h11 => ?_
      walk_at "w"
      have c711 : Chg [] H7 H11 := ((c8.same c9).same c10).same c11
      have bag11 := bag7.same c711
      refine u_draw bag11 (by omega) (by decide) (by decide) fun w H12 c12 bag12 w0 w1 => ?_
      have n6 := nbN (bag4.same c5) np6
      have n9 := nbN (bag7.same c8) np9
      have n10 := nbN ((bag7.same c8).same c9) np10
      have n11 := nbN (((bag7.same c8).same c9).same c10) np11
      have c712 : Chg [b] H7 H12 := c711.pre c12
      have c612 : Chg [b] H6 H12 := c7.both c712
      have h5' := c612.tup _ _ (c6.at h5)
      have h6' := c612.at1 h6 n6
      have h8' := c12.tup _ _ (c11.at (c10.at (c9.at h8)))
      have h9' := c12.at1 (c11.at (c10.at h9)) n9
      have h10' := c12.at1 (c11.at h10) n10
      obtain ⟨pm, ym, cm', e1, h9m, rm, okm, lm⟩ : ∃ (pm : Addr) (ym : List V) (cm' : Cells), atI [V.ref p6, V.ref p9, V.ref p10] w = some (.ref pm) ∧ H12 pm = some (.lst ym) ∧ ImA H12 ym (cm'.map pairD) ∧ (∀ x ∈ cm', nI x.1 ∧ nI x.2) ∧ cm'.length ≤ 1 := by
        have : w = 0 ∨ w = 1 ∨ w = 2 := by omega
        rcases this with rfl | rfl | rfl
        · exact ⟨p6, _, [(c.1, v4)], at0, h6', .cons (.tup h5' (.cons (.int _) (.cons (.int _) .nil))) .nil, fun x hx => by rw [List.mem_singleton.mp hx]; exact ⟨cn1, v40, v41⟩, Nat.le_refl _⟩
        · exact ⟨p9, _, [(v7, c.2)], at1, h9', .cons (.tup h8' (.cons (.int _) (.cons (.int _) .nil))) .nil, fun x hx => by rw [List.mem_singleton.mp hx]; exact ⟨⟨v70, v71⟩, cn2⟩, Nat.le_refl _⟩
        · exact ⟨p10, [], [], at2, h10', .nil, fun x hx => (by cases hx), Nat.zero_le _⟩
      refine w_ixL (sqL (c12.at1 h11 n11)) e1 ?_
      have c312 : Chg [b] H3 H12 := ((c4.same c5).same c6).both c612
      have hc12 := c312.at1 hc3 cb
      have lym : ym.length ≤ 1 := by rw [rm.length, List.length_map]; exact lm
      walk_at "w"
      refine w_slL (sqL hc12) fun p13 H13 np13 c13 h13 => ?_
      rw [cut_to] at h13
      walk_at "w"
      refine w_cat h13 (c13.at h9m) (by rw [List.length_take]; omega) fun p14 H14 np14 c14 h14 => ?_
      walk_at "w"
      rw [ei]
      refine w_slL (sqL (c14.at (c13.at hc12))) fun p15 H15 np15 c15 h15 => ?_
      rw [cut_from] at h15
      refine w_cat (c15.at h14) h15 (by rw [List.length_append, List.length_take, List.length_drop]; omega) fun p16 H16 np16 c16 h16 => ?_
      walk_at "w"
      refine k_tup (by walk_at "sz") fun p17 H17 np17 c17 h17 => ?_
      have c1217 : Chg [] H12 H17 := (((c13.same c14).same c15).same c16).same c17
      have cH17 : Chg [b] H H17 := cH3.both (c312.same c1217)
      have im17 := imc.im cH17
      refine q p17 p16 gl _ gxs ((cs.take i ++ cm') ++ cs.drop (i + 1)) gv H17 cH17 ((bag12.same c1217).le (by omega)) h17 (nbN (((bag12.same c13).same c14).same c15) np16) (c17.at h16) ?_ ⟨?_, fun x hx => ?_⟩ gb (cH17.at1 hg gb) (rg.keep cH17 fun _ s h => s (List.mem_singleton.mp h)) (gv_of (by omega) fun x hx => (okg x hx).1)
      · rw [List.map_append, List.map_append, List.map_take, List.map_drop]
        exact ((im17.take i).append (rm.im c1217)).append (im17.drop (i + 1))
      · rw [List.length_append, List.length_append, List.length_take, List.length_drop]
        omega
      · rcases List.mem_append.mp hx with h | h
        · rcases List.mem_append.mp h with h | h
          · exact okc.nums x (List.mem_of_mem_take h)
          · exact okm x h
        · exact okc.nums x (List.mem_of_mem_drop h)
  · exact tail H1 none .refl
end
end Fg
namespace Fg
open PySem PySem.Spec PyProof.Rows L2
local macro_rules | `(tactic| walk_at "hp") => `(tactic| first
  | assumption
  | exact upd_same
  | (refine Chg.at (by assumption) ?_; walk_at "hp")
  | (refine Chg.at1 (by assumption) ?_ (by walk_at "ne"); walk_at "hp"))
local macro_rules | `(tactic| walk_at "ne") => `(tactic| first | assumption | (apply Ne.symm; assumption))
local macro_rules | `(tactic| walk_at "sq") => `(tactic| first | assumption | exact sqL (by walk_at "hp") | (refine Chg.seq (by assumption) ?_; walk_at "sq"))
local macro_rules | `(tactic| walk_at "sz") => `(tactic| first | assumption | exact Nat.zero_le _ | (simp only [List.length_cons, List.length_nil]; decide) | exact Nat.le_trans (by first | omega | (simp; done) | (simp; omega)) (show 100000 ≤ sizeLine by decide) | exact Nat.lt_of_lt_of_le (by first | omega | (simp; done) | (simp; omega)) (show 100000 ≤ sizeLine by decide))
local macro_rules | `(tactic| walk_at "ix") => `(tactic| first | exact at0 | exact at1 | exact at2 | exact at3 | assumption | exact rfl | walk_at "ix2")
local macro_rules | `(tactic| walk_at "ix2") => `(tactic| fail)
local macro_rules | `(tactic| walk_at "num") => `(tactic| first | assumption | omega | decide | walk_at "num2")
local macro_rules | `(tactic| walk_at "num2") => `(tactic| fail)
local macro_rules | `(tactic| walk_at "im") => `(tactic| first | assumption | exact R.non (S := fun _ => False) | exact R.bl (S := fun _ => False) _ | exact R.int (S := fun _ => False) _ | exact R.str (S := fun _ => False) _ | (refine R.im (by assumption) ?_; walk_at "im"))
local macro_rules | `(tactic| walk_at "r") => `(tactic| first | assumption | exact R.non (S := fun _ => False) | exact R.bl (S := fun _ => False) _ | exact R.int (S := fun _ => False) _ | exact R.str (S := fun _ => False) _ | (refine R.same (by assumption) ?_; walk_at "r") | exact R.any (by walk_at "im"))
local macro_rules | `(tactic| walk_at "chg") => `(tactic| first
  | exact Chg.refl
  | assumption
  | (refine Chg.same ?_ (by assumption); walk_at "chg")
  | (refine Chg.both ?_ (by assumption); walk_at "chg")
  | (refine Chg.pre (by assumption) ?_; walk_at "chg"))
local macro_rules | `(tactic| walk_at "w1") => `(tactic| first
  | with_reducible apply w_seq
  | with_reducible apply w_asg
  | ((with_reducible apply w_var); (focus (exact rfl)))
  | with_reducible apply w_c
  | with_reducible apply w_op
  | with_reducible apply w_cons
  | with_reducible apply w_nil
  | with_reducible apply w_gName
  | with_reducible apply w_if
  | with_reducible apply w_test
  | with_reducible apply w_B
  | with_reducible apply w_isbl
  | with_reducible apply w_retN
  | with_reducible apply w_next
  | with_reducible apply w_drop
  | with_reducible apply w_cb
  | with_reducible apply w_call
  | with_reducible apply w_callN
  | with_reducible apply w_bm
  | with_reducible apply w_bm0
  | ((with_reducible apply w_tyL); (focus (walk_at "hp"; done)))
  | with_reducible apply w_dput
  | with_reducible apply w_m1
  | with_reducible apply w_isstr
  | with_reducible apply w_and
  | with_reducible apply w_or
  | with_reducible apply w_not
  | with_reducible apply w_andV
  | with_reducible apply w_orV
  | with_reducible apply w_notV
  | with_reducible apply w_ifE
  | with_reducible apply w_chain
  | with_reducible apply w_un
  | with_reducible apply w_neg
  | with_reducible apply w_add
  | with_reducible apply w_sub
  | ((with_reducible apply w_mod); (focus (walk_at "num"; done)))
  | ((with_reducible apply w_mul); (focus (walk_at "num"; done)))
  | ((with_reducible apply w_fdiv); (focus (walk_at "num"; done)))
  | ((with_reducible apply w_pow); (focus (walk_at "num"; done)))
  | with_reducible apply w_lt
  | with_reducible apply w_le
  | with_reducible apply w_gt
  | with_reducible apply w_ge
  | with_reducible apply w_ltS
  | with_reducible apply w_geS
  | with_reducible apply w_inC
  | with_reducible apply w_notInC
  | with_reducible apply w_isN
  | with_reducible apply w_notN
  | with_reducible apply w_isB
  | with_reducible apply w_notB
  | ((with_reducible apply w_addS); (focus (walk_at "sz"; done)))
  | ((with_reducible apply w_ixL); (focus (walk_at "sq"; done)); (focus (walk_at "ix"; done)))
  | ((with_reducible apply w_ixT); (focus (walk_at "hp"; done)); (focus (walk_at "ix"; done)))
  | ((with_reducible apply w_ixS); (focus (walk_at "sz"; done)); (focus (walk_at "ix"; done)))
  | with_reducible apply w_gSub
  | ((with_reducible apply w_gTup); (focus (walk_at "hp"; done)); (focus (exact rfl)))
  | with_reducible apply w_gCons
  | with_reducible apply w_gNil
  | ((with_reducible apply w_aug); (focus (exact rfl)))
  | with_reducible apply w_ipI
  | ((with_reducible apply w_eq); (focus (exact rfl)))
  | ((with_reducible apply w_ne); (focus (exact rfl)))
  | with_reducible apply w_max
  | with_reducible apply w_min
  | with_reducible apply w_abs
  | with_reducible apply w_intB
  | with_reducible apply w_intI
  | with_reducible apply w_tup1
  | with_reducible apply w_lst1
  | with_reducible apply w_sl
  | with_reducible apply w_part
  | with_reducible apply w_noPart
  | with_reducible apply w_isint
  | ((with_reducible apply w_slS); (focus (walk_at "sz"; done)))
  | with_reducible apply w_iteT
  | with_reducible apply w_iteF
  | with_reducible apply w_iteN
  | ((with_reducible apply w_iteYes); (focus (exact rfl)))
  | ((with_reducible apply w_iteNo); (focus (exact rfl)))
  | ((with_reducible apply w_lenL); (focus (walk_at "sq"; done)))
  | ((with_reducible apply w_lenT); (focus (walk_at "hp"; done)))
  | ((with_reducible apply w_lenS); (focus (walk_at "sz"; done)))
  | with_reducible apply w_lc
  | with_reducible apply w_for
  | with_reducible apply w_yes
  | ((with_reducible apply w_wipe); (focus (exact rfl)))
  | with_reducible apply w_iList
  | with_reducible apply w_iTup
  | with_reducible apply w_iStr
  | with_reducible apply w_iRng1
  | with_reducible apply w_iRng2
  | with_reducible apply w_iZip
  | with_reducible apply w_iEnum
  | ((with_reducible apply d_iList); (focus (walk_at "sq"; done)))
  | ((with_reducible apply d_iTup); (focus (walk_at "hp"; done)))
  | with_reducible apply d_iStr
  | ((with_reducible apply d_iRng1); (focus (walk_at "num"; done)); (focus (walk_at "num"; done)))
  | ((with_reducible apply d_iRng2); (focus (walk_at "num"; done)); (focus (walk_at "num"; done)); (focus (walk_at "num"; done)); (focus (walk_at "num"; done)))
  | ((with_reducible apply d_iZip); (focus (walk_at "sq"; done)); (focus (walk_at "sq"; done)))
  | ((with_reducible apply d_iEnum); (focus (walk_at "sq"; done)))
  | walk_at "w2")
local macro_rules | `(tactic| walk_at "w2") => `(tactic| fail)
local macro_rules | `(tactic| walk_at "wn") => `(tactic| repeat walk_at "w1")
local macro_rules | `(tactic| walk_at "w") => `(tactic| repeat (first | walk_at "w1" | with_reducible apply w_ret))
local macro_rules | `(tactic| walk_at "w2") => `(tactic| first
  | ((with_reducible apply w_isInt); (focus (walk_at "r"; done)))
  | ((with_reducible apply w_isBool); (focus (walk_at "r"; done)))
  | ((with_reducible apply w_isStr); (focus (walk_at "r"; done)))
  | ((with_reducible apply w_isTup); (focus (walk_at "r"; done)))
  | ((with_reducible apply w_isLst); (focus (walk_at "r"; done)))
  | with_reducible apply w_fld
  | with_reducible apply w_sfld
  | with_reducible apply w_faug
  | with_reducible apply w_rAdd
  | with_reducible apply w_rSub
  | with_reducible apply w_make
  | with_reducible apply w_orT
  | with_reducible apply w_dgetd
  | with_reducible apply w_dgetk
  | with_reducible apply w_dsetd
  | ((with_reducible apply k_dgetd); (focus (walk_at "hp"; done)))
  | ((with_reducible apply k_dsetd); (focus (walk_at "hp"; done)))
  | walk_at "w3")
local macro_rules | `(tactic| walk_at "w3") => `(tactic| fail)
local macro_rules | `(tactic| walk_at "w3") => `(tactic| first
  | ((with_reducible apply g_Frame_number); (focus (assumption; done)); (focus (walk_at "hp"; done)))
  | ((with_reducible apply u_Frame_number); (focus (assumption; done)); (focus (walk_at "hp"; done)))
  | ((with_reducible apply g_Frame_path); (focus (assumption; done)); (focus (walk_at "hp"; done)))
  | ((with_reducible apply u_Frame_path); (focus (assumption; done)); (focus (walk_at "hp"; done)))
  | ((with_reducible apply g_Frame_rows); (focus (assumption; done)); (focus (walk_at "hp"; done)))
  | ((with_reducible apply u_Frame_rows); (focus (assumption; done)); (focus (walk_at "hp"; done)))
  | ((with_reducible apply g_Frame_arg); (focus (assumption; done)); (focus (walk_at "hp"; done)))
  | ((with_reducible apply u_Frame_arg); (focus (assumption; done)); (focus (walk_at "hp"; done)))
  | ((with_reducible apply g_Frame_at); (focus (assumption; done)); (focus (walk_at "hp"; done)))
  | ((with_reducible apply u_Frame_at); (focus (assumption; done)); (focus (walk_at "hp"; done)))
  | ((with_reducible apply g_Frame_past); (focus (assumption; done)); (focus (walk_at "hp"; done)))
  | ((with_reducible apply u_Frame_past); (focus (assumption; done)); (focus (walk_at "hp"; done)))
  | ((with_reducible apply g_Frame_born); (focus (assumption; done)); (focus (walk_at "hp"; done)))
  | ((with_reducible apply u_Frame_born); (focus (assumption; done)); (focus (walk_at "hp"; done)))
  | ((with_reducible apply g_Record_mark); (focus (assumption; done)); (focus (walk_at "hp"; done)))
  | ((with_reducible apply u_Record_mark); (focus (assumption; done)); (focus (walk_at "hp"; done)))
  | ((with_reducible apply g_Record_word); (focus (assumption; done)); (focus (walk_at "hp"; done)))
  | ((with_reducible apply u_Record_word); (focus (assumption; done)); (focus (walk_at "hp"; done)))
  | ((with_reducible apply g_Record_doer); (focus (assumption; done)); (focus (walk_at "hp"; done)))
  | ((with_reducible apply u_Record_doer); (focus (assumption; done)); (focus (walk_at "hp"; done)))
  | ((with_reducible apply g_Record_child); (focus (assumption; done)); (focus (walk_at "hp"; done)))
  | ((with_reducible apply u_Record_child); (focus (assumption; done)); (focus (walk_at "hp"; done)))
  | ((with_reducible apply g_Record_reads); (focus (assumption; done)); (focus (walk_at "hp"; done)))
  | ((with_reducible apply u_Record_reads); (focus (assumption; done)); (focus (walk_at "hp"; done)))
  | ((with_reducible apply g_Record_writes); (focus (assumption; done)); (focus (walk_at "hp"; done)))
  | ((with_reducible apply u_Record_writes); (focus (assumption; done)); (focus (walk_at "hp"; done)))
  | ((with_reducible apply g_Outcome_cells); (focus (assumption; done)); (focus (walk_at "hp"; done)))
  | ((with_reducible apply u_Outcome_cells); (focus (assumption; done)); (focus (walk_at "hp"; done)))
  | ((with_reducible apply g_Outcome_given); (focus (assumption; done)); (focus (walk_at "hp"; done)))
  | ((with_reducible apply u_Outcome_given); (focus (assumption; done)); (focus (walk_at "hp"; done)))
  | ((with_reducible apply g_Outcome_steps); (focus (assumption; done)); (focus (walk_at "hp"; done)))
  | ((with_reducible apply u_Outcome_steps); (focus (assumption; done)); (focus (walk_at "hp"; done)))
  | ((with_reducible apply g_Outcome_deepest); (focus (assumption; done)); (focus (walk_at "hp"; done)))
  | ((with_reducible apply u_Outcome_deepest); (focus (assumption; done)); (focus (walk_at "hp"; done))))
section
/-- what the program has of classes -/
structure COs (K : PySem.W.Frag) : Prop where
  oc : C_Outcome K
def t_Outcome___init__11 (K : PySem.W.Frag) : TS :=
    tSeq (sFld K (tVar 0) (tCB (cListQ K) (tCons (tVar 1) (tNil))) "cells")
    (tSeq (sFld K (tVar 0) (tLc (iList K (tVar 2)) (gTup K 2 (gCons (gName 5) (gCons (gName 6) (gNil)))) (tYes) (tTup (tCons (tVar 5) (tCons (tCB (cListQ K) (tCons (tVar 6) (tNil))) (tNil)))) [5, 6]) "given")
    (tSeq (sFld K (tVar 0) (tCB (cListQ K) (tCons (tVar 3) (tNil))) "steps")
    (sFld K (tVar 0) (tVar 4) "deepest")))
theorem pure_Outcome___init__11 {K : PySem.W.Frag} (CF : COs K) (vs : List V) (H : Hp) (Q : VK) (E : XK) (h : sp_Outcome___init__ K vs H Q E) : t_Outcome___init__11 K (fin Q) (start ["self", "cells", "given", "steps", "deepest", "name", "worths"] vs) H := by
  obtain ⟨x, dx, cl, gl, sl, dv, cxs, sxs, cds, sds, gv, S, rfl, hx, hcl, icl, rg, lg, hsl, isl, q⟩ := h
  show t_Outcome___init__11 K _ [some (.ref x), some (.ref cl), some (.ref gl), some (.ref sl), some dv, none, none] H
  unfold t_Outcome___init__11
  have oc := CF.oc
  have nx : ∀ {a : Addr} {xs : List V}, H a = some (.lst xs) → a ≠ x := fun ha z => by rw [z, hx] at ha; cases ha
  walk_at "w"
  refine w_listL (sqL hcl) fun c1 H1 nc1 k1 hc1 => ?_
  walk_at "w"
  refine n_Outcome_cells oc (k1.at hx) fun H2 k2 hx2 => ?_
  have k02 : Chg [x] H H2 := (k1.wide (by simp)).both k2
  have c1x : c1 ≠ x := fun z => by rw [z, hx] at nc1; cases nc1
  cases rg with
  | @lst _ gxs _ sg hgl rgs =>
  have hgl2 := k02.at1 hgl (nx hgl)
  have lgx : gxs.length = gv.length := by rw [rgs.length, List.length_map]
  walk_at "w"
  refine w_lcW (walk_list (K := K) (a := gl) (xs := gxs)) (fun D i acc H3 => Chg [] H2 H3 ∧ RA (fun a => H a = none ∧ a ≠ D ∧ a ≠ x) H3 acc ((gv.take i).map giftD)) (fun D H3 nD c hD => ⟨c, .nil⟩) (fun D i acc H3 _ _ z => sqL (z.1.at hgl2)) (fun D i acc y H3 H4 hi nD hD el iv yy => ?_) (fun D acc H3 nD el hD iv => ?_)
  · obtain ⟨rfl, ey⟩ := yy
    obtain ⟨c3, ra⟩ := iv
    have hi' : i < gv.length := by omega
    obtain ⟨d1, ed, r1⟩ := rgs.get ey
    rw [List.getElem?_map, List.getElem?_eq_getElem hi'] at ed
    cases ed
    cases r1 with
    | @tup T0 _ _ e2 ra2 =>
      cases ra2 with
      | cons r0 rs0 =>
        cases rs0 with
        | cons r3 rs3 =>
          cases rs3
          cases r0
          cases r3 with
          | @lst l4 ys4 _ s4 e4 ra4 =>
            have e2' := c3.at (k02.tup _ _ e2)
            have e4' := c3.at (k02.at1 e4 (nx e4))
            have ei := ints_of ra4
            subst ei
            walk_at "w"
            refine w_listL (sqL e4') fun l5 H5 n5 c5 h5 => ?_
            walk_at "w"
            refine k_tup (by walk_at "sz") fun T H6 nT c6 hT => ?_
            have c56 := c5.same c6
            have n5' : H l5 = none := k02.dom _ (c3.dom _ n5)
            have ne5 : l5 ≠ D := fun z => by rw [z, hD] at n5; cases n5
            have ne6 : l5 ≠ x := fun z => by rw [z, hx] at n5'; cases n5'
            have hT3 : T ≠ D := fun z => by rw [z, c5.at hD] at nT; cases nT
            refine lc_end (c56.at hD) el (by omega) fun H7 c7 h7 => ⟨(c3.same c56).one c7 nD, ?_⟩
            rw [List.take_add_one, List.getElem?_eq_getElem hi', Option.toList_some, List.map_append]
            have k := (ra.same c56).keep c7 fun a sa hm => sa.2.1 (List.mem_singleton.mp hm)
            exact k.snoc (.tup (c7.at1 hT hT3) (.cons (.str _) (.cons (.lst ⟨n5', ne5, ne6⟩ (c7.at1 (c6.at h5) ne5) (imInts _)) .nil)))
  · obtain ⟨c3, ra⟩ := iv
    rw [lgx, List.take_length] at ra
    have nDH : H D = none := k02.dom _ nD
    have Dx : D ≠ x := fun z => by rw [z, hx] at nDH; cases nDH
    walk_at "w"
    refine n_Outcome_given oc (c3.at hx2) fun H4 k4 hx4 => ?_
    have c24 : Chg [x] H2 H4 := (c3.wide (by simp)).both k4
    have k04 := k02.both c24
    walk_at "w"
    refine w_listL (sqL (k04.at1 hsl (nx hsl))) fun s1 H5 ns1 k5 hs1 => ?_
    walk_at "w"
    refine n_Outcome_steps oc (k5.at hx4) fun H6 k6 hx6 => ?_
    have s1x : s1 ≠ x := fun z => by rw [z, hx4] at ns1; cases ns1
    walk_at "w"
    refine n_Outcome_deepest oc hx6 fun H7 k7 hx7 => ?_
    have c47 : Chg [x] H4 H7 := ((k5.wide (by simp)).both k6).both k7
    have k07 := k04.both c47
    refine q H7 k07 ⟨dx, c1, D, s1, hx7, .lst nc1 (c47.at1 (c24.at1 (k2.at1 hc1 c1x) c1x) c1x) (icl.im k07).any, .lst nDH (c47.at1 (k4.at1 hD Dx) Dx) ?_, .lst (k04.dom _ ns1) (k7.at1 (k6.at1 hs1 s1x) s1x) (isl.im k07).any⟩
    exact (ra.keep (k4.both c47) fun a sa hm => sa.2.2 (List.mem_singleton.mp hm)).mono fun a h => h.1
def t_Outcome___len__11 (K : PySem.W.Frag) : TS :=
    tRet (tCB (cLenQ K) (tCons (tFld K (tVar 0) "steps") (tNil)))
theorem pure_Outcome___len__11 {K : PySem.W.Frag} (CF : COs K) (vs : List V) (H : Hp) (Q : VK) (E : XK) (h : sp_Outcome___len__ K vs H Q E) : t_Outcome___len__11 K (fin Q) (start ["self"] vs) H := by
  obtain ⟨x, dx, sl, v1, v2, v4, xs, rfl, hx, hs, q⟩ := h
  show t_Outcome___len__11 K _ [some (.ref x)] H
  unfold t_Outcome___len__11
  have oc := CF.oc
  walk_at "w"
  exact q
def sp_Outcome___eq__11 (K : PySem.W.Frag) : Sp := fun vs H Q _ => ∃ (x dx : Addr) (y c1 g1 s1 d1 : V) (e1 f1 : PyData) (S : Addr → Prop), vs = [.ref x, y] ∧ H x = some (O_Outcome K dx c1 g1 s1 d1) ∧ R S H c1 e1 ∧ R S H g1 f1 ∧ noDic e1 = true ∧ noDic f1 = true ∧ e1.depth ≤ 60 ∧ f1.depth ≤ 60 ∧
  ((∃ (y' dy : Addr) (c2 g2 s2 d2 : V) (e2 f2 : PyData) (S' : Addr → Prop), y = .ref y' ∧ H y' = some (O_Outcome K dy c2 g2 s2 d2) ∧ R S' H c2 e2 ∧ R S' H g2 f2 ∧ noDic e2 = true ∧ noDic f2 = true ∧ Q (.bl (e1.eqv e2 && f1.eqv f2)) H) ∨ ∃ (d : PyData) (S' : Addr → Prop), R S' H y d ∧ Q (.bl false) H)
def t_Outcome___eq__11 (K : PySem.W.Frag) : TS :=
    tRet (tAndV (tCB (rIsi K) (tCons (tVar 1) (tCons (tC (.ref (He.ga K "Outcome"))) (tNil)))) (tAndV (tOp oEqD (tFld K (tVar 0) "cells") (tFld K (tVar 1) "cells")) (tOp oEqD (tFld K (tVar 0) "given") (tFld K (tVar 1) "given"))))
theorem pure_Outcome___eq__11 {K : PySem.W.Frag} (OI : InI K (He.ga K "Outcome")) (DS : dsB K (He.ga K "Outcome") = true) (CF : COs K) (vs : List V) (H : Hp) (Q : VK) (E : XK) (h : sp_Outcome___eq__11 K vs H Q E) : t_Outcome___eq__11 K (fin Q) (start ["self", "other"] vs) H := by
  obtain ⟨x, dx, y, c1, g1, s1, d1, e1, f1, S, rfl, hx, r1, r2, n1, n2, p1, p2, h⟩ := h
  show t_Outcome___eq__11 K _ [some (.ref x), some y] H
  unfold t_Outcome___eq__11
  have oc := CF.oc
  walk_at "w"
  rcases h with ⟨y', dy, c2, g2, s2, d2, e2, f2, S', rfl, hy, r3, r4, n3, n4, q⟩ | ⟨d, S', rd, q⟩
  · refine w_isiO OI oc.cl hy ?_
    walk_at "w"
    refine w_eqD r1 r3 n1 n3 (by omega) ?_
    cases he : e1.eqv e2 with
    | false =>
      rw [he] at q
      walk_at "w"
      exact q
    | true =>
      rw [he] at q
      walk_at "w"
      refine w_eqD r2 r4 n2 n4 (by omega) ?_
      walk_at "w"
      rw [Bool.true_and] at q
      exact q
  · refine w_isiD DS rd ?_
    walk_at "w"
    exact q
theorem empty_app (x : Str) : Str.empty ++ x = x := by
  show (⟨#[] ++ x.cps⟩ : Str) = x
  simp
def outText (a b : Str) : Str := ((("Outcome(" ++ a) ++ ", ") ++ b) ++ ")"
def sp_Outcome___repr__ (K : PySem.W.Frag) : Sp := fun vs H Q _ => ∃ (x dx cl gl : Addr) (s1 d1 : V) (e f : PyData) (S : Addr → Prop), vs = [.ref x] ∧ H x = some (O_Outcome K dx (.ref cl) (.ref gl) s1 d1) ∧ R S H (.ref cl) e ∧ R S H (.ref gl) f ∧ noDic e = true ∧ noDic f = true ∧ gd e ∧ gd f ∧ e.depth ≤ 50 ∧ f.depth ≤ 50 ∧ shL e ≤ 100000 ∧ shL f ≤ 100000 ∧
  Q (.str (outText e.shown f.shown)) H
def t_Outcome___repr__ (K : PySem.W.Frag) : TS :=
    tRet (tJoin [tC (.str "Outcome("), tFmtD (tFld K (tVar 0) "cells"), tC (.str ", "), tFmtD (tFld K (tVar 0) "given"), tC (.str ")")])
theorem pure_Outcome___repr__ {K : PySem.W.Frag} (CF : COs K) (vs : List V) (H : Hp) (Q : VK) (E : XK) (h : sp_Outcome___repr__ K vs H Q E) : t_Outcome___repr__ K (fin Q) (start ["self"] vs) H := by
  obtain ⟨x, dx, cl, gl, s1, d1, e, f, S, rfl, hx, r1, r2, n1, n2, g1, g2, p1, p2, z1, z2, q⟩ := h
  show t_Outcome___repr__ K _ [some (.ref x)] H
  unfold t_Outcome___repr__
  have oc := CF.oc
  have L1 := Nat.le_trans (shown_shL g1) z1
  have L2 := Nat.le_trans (shown_shL g2) z2
  have e1 : (Str.ofString "Outcome(").length = 8 := by decide +kernel
  have e2 : (Str.ofString ", ").length = 2 := by decide +kernel
  have e3 : (Str.ofString ")").length = 1 := by decide +kernel
  have sl : 1000000 ≤ sizeLine := by decide
  show tJs [tC (.str "Outcome("), tFmtD (tFld K (tVar 0) "cells"), tC (.str ", "), tFmtD (tFld K (tVar 0) "given"), tC (.str ")")] Str.empty _ H _
  simp only [tJs]
  refine ⟨_, rfl, by rw [empty_app, e1]; omega, ?_⟩
  rw [empty_app]
  refine w_fmtD ?_
  walk_at "w"
  refine ⟨cl, e, S, rfl, r1, n1, gd_showable g1, p1, by omega, _, rfl, by rw [len_append, e1]; omega, ?_⟩
  refine ⟨_, rfl, by rw [len_append, len_append, e1, e2]; omega, ?_⟩
  refine w_fmtD ?_
  walk_at "w"
  refine ⟨gl, f, S, rfl, r2, n2, gd_showable g2, p2, by omega, _, rfl, by rw [len_append, len_append, len_append, e1, e2]; omega, ?_⟩
  refine ⟨_, rfl, by rw [len_append, len_append, len_append, len_append, e1, e2, e3]; omega, ?_⟩
  exact q
end
section
def csD (cs : Cells) : PyData := .list (cs.map pairD)
theorem cs_nd : ∀ cs : Cells, noDics (cs.map pairD) = true
  | [] => rfl
  | c :: r => by
    show ((true && (true && true)) && noDics (r.map pairD)) = true
    rw [cs_nd r]
    rfl
theorem csD_nd (cs : Cells) : noDic (csD cs) = true := cs_nd cs
theorem gvD_nd (gv : Given) : noDic (giftsD gv) = true := noDics_gifts gv
theorem csD_dp (cs : Cells) : (csD cs).depth ≤ 3 := Nat.succ_le_succ (depthAll_le fun d hd => by
  obtain ⟨c, _, rfl⟩ := List.mem_map.mp hd
  show max 0 (max 0 0) + 1 ≤ 2
  decide)
theorem gvD_dp (gv : Given) : (giftsD gv).depth ≤ 4 := Nat.succ_le_succ (depthAll_le fun d hd => by
  obtain ⟨g, _, rfl⟩ := List.mem_map.mp hd
  have : PyData.depthAll (g.2.map PyData.int) ≤ 0 := depthAll_le fun e he => by
    obtain ⟨i, _, rfl⟩ := List.mem_map.mp he
    exact Nat.le_refl _
  show max 0 (max (PyData.depthAll (g.2.map PyData.int) + 1) 0) + 1 ≤ 3
  omega)
theorem gdI {i : Int} (h : nI i) : gd (.int i) := by
  show i.natAbs < 10 ^ 21
  have h1 : -(10 : Int) ^ 20 ≤ i := h.1
  have h2 : i ≤ (10 : Int) ^ 20 := h.2
  have e : (10 : Int) ^ 20 = 100000000000000000000 := by decide
  have e2 : (10 : Nat) ^ 21 = 1000000000000000000000 := by decide
  rw [e] at h1 h2
  rw [e2]
  omega
theorem shLs_sumA {n : Nat} : ∀ {ds : List PyData}, (∀ d ∈ ds, shL d + 2 ≤ n) → shLs ds ≤ ds.length * n
  | [], _ => Nat.zero_le _
  | d :: ds, h => by
    have h1 := h d (by simp)
    have h2 := shLs_sumA fun e he => h e (List.mem_cons_of_mem d he)
    show shL d + 2 + shLs ds ≤ (ds.length + 1) * n
    rw [Nat.add_mul, Nat.one_mul]
    omega
theorem csD_gd {cs : Cells} (ok : CsOk cs) : gd (csD cs) ∧ shL (csD cs) ≤ 100000 := by
  have hl := ok.few
  refine ⟨⟨by rw [List.length_map]; omega, gds_iff.mpr fun d hd => ?_⟩, ?_⟩
  · obtain ⟨c, hc, rfl⟩ := List.mem_map.mp hd
    obtain ⟨n1, n2⟩ := ok.nums c hc
    exact ⟨by show 2 ≤ 200; omega, gdI n1, gdI n2, trivial⟩
  · have z := shLs_sumA (n := 60) (ds := cs.map pairD) fun d hd => by
      obtain ⟨c, hc, rfl⟩ := List.mem_map.mp hd
      show (22 + 2 + (22 + 2 + 0) + 3) + 2 ≤ 60
      omega
    rw [List.length_map] at z
    have z2 : cs.length * 60 ≤ 12 * 60 := Nat.mul_le_mul_right _ hl
    show shLs (cs.map pairD) + 3 ≤ 100000
    omega
theorem k1_name {x : Str} (h : nameS x = true) : x.length ≤ 100 ∧ ∀ c ∈ x.cps.toList, c < 1000 := ⟨Nat.le_trans (nameS_iff.mp h).2.1 (by decide), fun c hc => by
  have h1 : c ∈ letters.cps.toList := of_decide_eq_true ((nameS_iff.mp h).2.2 c hc)
  exact of_decide_eq_true (List.all_eq_true.mp (show letters.cps.toList.all (fun c => decide (c < 1000)) = true by decide +kernel) c h1)⟩
theorem gvD_gd {gv : Given} (ok : GvOk gv) : gd (giftsD gv) ∧ shL (giftsD gv) ≤ 100000 := by
  have hl := ok.few
  have row : ∀ g ∈ gv, shL (giftD g) + 2 ≤ 500 := fun g hg => by
    obtain ⟨l12, nu⟩ := ok.rows g hg
    have ln := (nameS_iff.mp (ok.names g hg)).2.1
    have z := shLs_sumA (n := 24) (ds := g.2.map PyData.int) fun d hd => by
      obtain ⟨i, _, rfl⟩ := List.mem_map.mp hd
      exact Nat.le_refl _
    rw [List.length_map] at z
    show ((10 * g.1.length + 2) + 2 + ((shLs (g.2.map PyData.int) + 3) + 2 + 0) + 3) + 2 ≤ 500
    omega
  refine ⟨⟨by rw [List.length_map]; omega, gds_iff.mpr fun d hd => ?_⟩, ?_⟩
  · obtain ⟨g, hg, rfl⟩ := List.mem_map.mp hd
    obtain ⟨l12, nu⟩ := ok.rows g hg
    refine ⟨by show 2 ≤ 200; omega, k1_name (ok.names g hg), ⟨by rw [List.length_map]; omega, gds_iff.mpr fun e he => ?_⟩, trivial⟩
    obtain ⟨i, hi, rfl⟩ := List.mem_map.mp he
    exact gdI (nu i hi)
  · have z := shLs_sumA (n := 500) (ds := gv.map giftD) fun d hd => by
      obtain ⟨g, hg, rfl⟩ := List.mem_map.mp hd
      exact row g hg
    rw [List.length_map] at z
    have z2 : gv.length * 500 ≤ 11 * 500 := Nat.mul_le_mul_right _ hl
    show shLs (gv.map giftD) + 3 ≤ 100000
    omega
theorem eq_sp {K : PySem.W.Frag} {H0 H0' H : Hp} {o1 o2 : Addr} {cs cs2 : Cells} {gv gv2 : Given} {m1 m2 : List PyData} {d1 d2 : V} {Q : VK} {E : XK} (oa1 : OutAt K H0 H o1 (cs.map pairD) gv m1 d1) (oa2 : OutAt K H0' H o2 (cs2.map pairD) gv2 m2 d2)
    (q : Q (.bl ((csD cs).eqv (csD cs2) && (giftsD gv).eqv (giftsD gv2))) H) : sp_Outcome___eq__11 K [.ref o1, .ref o2] H Q E := by
  obtain ⟨x1, c1, g1, s1, h1, r1, r2, _⟩ := oa1
  obtain ⟨x2, c2, g2, s2, h2, t1, t2, _⟩ := oa2
  have := csD_dp cs
  have := gvD_dp gv
  exact ⟨o1, x1, .ref o2, _, _, _, _, csD cs, giftsD gv, _, rfl, h1, r1, r2, csD_nd cs, gvD_nd gv, by omega, by omega, .inl ⟨o2, x2, _, _, _, _, csD cs2, giftsD gv2, _, rfl, h2, t1, t2, csD_nd cs2, gvD_nd gv2, q⟩⟩
theorem eq_spD {K : PySem.W.Frag} {H0 H : Hp} {o1 : Addr} {cs : Cells} {gv : Given} {m1 : List PyData} {d1 : V} {y : V} {d : PyData} {S : Addr → Prop} {Q : VK} {E : XK} (oa1 : OutAt K H0 H o1 (cs.map pairD) gv m1 d1) (rd : R S H y d)
    (q : Q (.bl false) H) : sp_Outcome___eq__11 K [.ref o1, y] H Q E := by
  obtain ⟨x1, c1, g1, s1, h1, r1, r2, _⟩ := oa1
  have := csD_dp cs
  have := gvD_dp gv
  exact ⟨o1, x1, y, _, _, _, _, csD cs, giftsD gv, _, rfl, h1, r1, r2, csD_nd cs, gvD_nd gv, by omega, by omega, .inr ⟨d, S, rd, q⟩⟩
theorem rep_sp {K : PySem.W.Frag} {H0 H : Hp} {o1 : Addr} {cs : Cells} {gv : Given} {m1 : List PyData} {d1 : V} {Q : VK} {E : XK} (oa1 : OutAt K H0 H o1 (cs.map pairD) gv m1 d1) (okc : CsOk cs) (okg : GvOk gv)
    (q : Q (.str (outText (csD cs).shown (giftsD gv).shown)) H) : sp_Outcome___repr__ K [.ref o1] H Q E := by
  obtain ⟨x1, c1, g1, s1, h1, r1, r2, _⟩ := oa1
  have := csD_dp cs
  have := gvD_dp gv
  exact ⟨o1, x1, c1, g1, _, _, csD cs, giftsD gv, _, rfl, h1, r1, r2, csD_nd cs, gvD_nd gv, (csD_gd okc).1, (gvD_gd okg).1, by omega, by omega, (csD_gd okc).2, (gvD_gd okg).2, q⟩
theorem comp_gv {K : PySem.W.Frag} {H : Hp} {Q : VK} {S : Addr → Prop} {gl : Addr} {gxs : List V} {gv : Given} {a0 a1 a2 a3 a4 a6 a7 a8 a9 a10 a11 a12 a13 a14 a15 a16 : Option V} (hg : H gl = some (.lst gxs)) (rg : RA S H gxs (gv.map giftD)) (lg : gv.length ≤ 20)
    (q : ∀ (L : Addr) (ys : List V) (H' : Hp), H L = none → Chg [] H H' → H' L = some (.lst ys) → RA (fun a => H a = none ∧ a ≠ L) H' ys (gv.map giftD) → Q (.ref L) H') :
    (tLc (iList K (tVar 5)) (gTup K 2 (gCons (gName 16) (gCons (gName 14) gNil))) tYes (tTup (tCons (tVar 16) (tCons (tCB (cListQ K) (tCons (tVar 14) tNil)) tNil))) [16, 14]) [a0, a1, a2, a3, a4, some (.ref gl), a6, a7, a8, a9, a10, a11, a12, a13, a14, a15, a16] H Q := by
  have lgx : gxs.length = gv.length := by rw [rg.length, List.length_map]
  walk_at "w"
  refine w_lcW (walk_list (K := K) (a := gl) (xs := gxs)) (fun D i acc H3 => Chg [] H H3 ∧ RA (fun a => H a = none ∧ a ≠ D) H3 acc ((gv.take i).map giftD)) (fun D H3 nD c hD => ⟨c, .nil⟩) (fun D i acc H3 _ _ z => sqL (z.1.at hg)) (fun D i acc y H3 H4 hi nD hD el iv yy => ?_) (fun D acc H3 nD el hD iv => ?_)
  · obtain ⟨rfl, ey⟩ := yy
    obtain ⟨c3, ra⟩ := iv
    have hi' : i < gv.length := by omega
    obtain ⟨T, g, l, eg, rfl, hT, _, hl⟩ := gift_at (rg.same c3) ey
    rw [List.getElem?_eq_getElem hi'] at eg
    cases eg
    walk_at "w"
    refine w_listL (sqL hl) fun l5 H5 n5 c5 h5 => ?_
    walk_at "w"
    refine k_tup (by walk_at "sz") fun T6 H6 nT c6 hT6 => ?_
    have c56 := c5.same c6
    have n5' : H l5 = none := c3.dom _ n5
    have ne5 : l5 ≠ D := fun z => by rw [z, hD] at n5; cases n5
    have hT3 : T6 ≠ D := fun z => by rw [z, c5.at hD] at nT; cases nT
    refine lc_end (c56.at hD) el (by omega) fun H7 c7 h7 => ⟨(c3.same c56).one c7 nD, ?_⟩
    rw [List.take_add_one, List.getElem?_eq_getElem hi', Option.toList_some, List.map_append]
    have k := (ra.same c56).keep c7 fun a sa hm => sa.2 (List.mem_singleton.mp hm)
    exact k.snoc (.tup (c7.at1 hT6 hT3) (.cons (.str _) (.cons (.lst ⟨n5', ne5⟩ (c7.at1 (c6.at h5) ne5) (imInts _)) .nil)))
  · obtain ⟨c3, ra⟩ := iv
    rw [lgx, List.take_length] at ra
    exact q D acc H3 nD c3 hD ra
/-- two outcomes, and what the first one was made of -/
structure G11 (K : PySem.W.Frag) (Hs H0 H : Hp) (o1 o2 cl gl ml : Addr) (cxs gxs mxs : List V) (cs cs2 : Cells) (gv gv2 : Given) (mds mds2 : List PyData) (deep : Int) (due : Bool) : Prop where
  oa1 : OutAt K H0 H o1 (cs.map pairD) gv mds (.int deep)
  oa2 : OutAt K H0 H o2 (cs2.map pairD) gv2 mds2 (.int 3)
  ne : o1 ≠ o2
  edue : due = ((csD cs).eqv (csD cs2) && (giftsD gv).eqv (giftsD gv2))
  hc : H cl = some (.lst cxs)
  imc : ImA H cxs (cs.map pairD)
  okc : CsOk cs
  hg : H gl = some (.lst gxs)
  rg : RA (fun a => H0 a ≠ none ∧ Hs a = none) H gxs (gv.map giftD)
  okg : GvOk gv
  hm : H ml = some (.lst mxs)
  imm : ImA H mxs mds
  okm : MkOk mds
  c0 : H0 cl ≠ none
  g0 : H0 gl ≠ none
  m0 : H0 ml ≠ none
  d0 : ∀ a, H a = none → H0 a = none
  ks : Chg [] Hs H
  cs0 : Hs cl = none
  gs0 : Hs gl = none
  ms0 : Hs ml = none
theorem G11.same {K : PySem.W.Frag} {Hs H0 H H' : Hp} {o1 o2 cl gl ml : Addr} {cxs gxs mxs : List V} {cs cs2 : Cells} {gv gv2 : Given} {mds mds2 : List PyData} {deep : Int} {due : Bool} (g : G11 K Hs H0 H o1 o2 cl gl ml cxs gxs mxs cs cs2 gv gv2 mds mds2 deep due) (c : Chg [] H H') : G11 K Hs H0 H' o1 o2 cl gl ml cxs gxs mxs cs cs2 gv gv2 mds mds2 deep due :=
  ⟨g.oa1.same c, g.oa2.same c, g.ne, g.edue, c.at g.hc, g.imc.im c, g.okc, c.at g.hg, g.rg.same c, g.okg, c.at g.hm, g.imm.im c, g.okm, g.c0, g.g0, g.m0, fun a h => g.d0 a (c.dom a h), g.ks.same c, g.cs0, g.gs0, g.ms0⟩
def t__law_good_10 (K : PySem.W.Frag) : TS :=
    tSeq (tIfS (tOr (tTest (tOp rNe (tOp (oEqI (He.ga K "Outcome") (sp_Outcome___eq__11 K)) (tVar 9) (tVar 10)) (tVar 11))) (tOr (tTest (tOp rNe (tOp (oEqI (He.ga K "Outcome") (sp_Outcome___eq__11 K)) (tVar 10) (tVar 9)) (tVar 11))) (tOr (tTest (tOp rEq (tOp (oNeI (He.ga K "Outcome") (sp_Outcome___eq__11 K)) (tVar 9) (tVar 10)) (tVar 11))) (tTest (tOp rNe (tOp (oInI (He.ga K "Outcome") (sp_Outcome___eq__11 K)) (tVar 10) (tLst (tCons (tVar 9) (tNil)))) (tVar 11)))))) (tRet (tC (.bl false))) (tNext))
    (tSeq (tFor (iList K (tLst (tCons (tC .non) (tCons (tC (.int 0)) (tCons (tVar 4) (tCons (tTup (tCons (tVar 4) (tCons (tVar 5) (tNil)))) (tCons (tCB (cReprI (He.ga K "Outcome") (sp_Outcome___repr__ K)) (tCons (tVar 9) (tNil))) (tCons (tDNewK) (tNil))))))))) (gName 12) (tIfS (tOr (tTest (tOp (oEqX (He.ga K "Outcome") (sp_Outcome___eq__11 K)) (tVar 9) (tVar 12))) (tNot (tTest (tOp (oNeX (He.ga K "Outcome") (sp_Outcome___eq__11 K)) (tVar 9) (tVar 12))))) (tRet (tC (.bl false))) (tNext)))
    (tSeq (tIfS (tOr (tTest (tOp rNe (tCB (cReprI (He.ga K "Outcome") (sp_Outcome___repr__ K)) (tCons (tVar 9) (tNil))) (tOp oAddS (tOp oAddS (tOp oAddS (tOp oAddS (tC (.str "Outcome(")) (tCB rStrD (tCons (tVar 4) (tNil)))) (tC (.str ", "))) (tCB rStrD (tCons (tVar 5) (tNil)))) (tC (.str ")"))))) (tTest (tOp rNe (tCB (cLenI (He.ga K "Outcome") (sp_Outcome___len__ K)) (tCons (tVar 9) (tNil))) (tCB (cLenQ K) (tCons (tVar 7) (tNil)))))) (tRet (tC (.bl false))) (tNext))
    (tSeq (tAsg (tLst (tCons (tCB (cListQ K) (tCons (tVar 4) (tNil))) (tCons (tLc (iList K (tVar 5)) (gTup K 2 (gCons (gName 16) (gCons (gName 14) (gNil)))) (tYes) (tTup (tCons (tVar 16) (tCons (tCB (cListQ K) (tCons (tVar 14) (tNil))) (tNil)))) [16, 14]) (tCons (tCB (cListQ K) (tCons (tVar 7) (tNil))) (tNil))))) (gName 13))
    (tSeq (tFor (iList K (tOp rCat (tLst (tCons (tVar 4) (tCons (tVar 7) (tCons (tVar 5) (tNil))))) (tLc (iList K (tVar 5)) (gTup K 2 (gCons (gName 16) (gCons (gName 14) (gNil)))) (tYes) (tVar 14) [16, 14]))) (gName 14) (tDrop (tBM K "list" rAppend (tVar 14) (tCons (tTup (tCons (tC (.int 7)) (tCons (tC (.int 7)) (tNil)))) (tNil)))))
    (tSeq (tIfS (tOr (tTest (tOp oNeD (tLst (tCons (tFld K (tVar 9) "deepest") (tCons (tFld K (tVar 10) "deepest") (tNil)))) (tLst (tCons (tVar 8) (tCons (tC (.int 3)) (tNil)))))) (tTest (tOp rNe (tOp (oEqI (He.ga K "Outcome") (sp_Outcome___eq__11 K)) (tVar 9) (tVar 10)) (tVar 11)))) (tRet (tC (.bl false))) (tNext))
    (tRet (tAndV (tOp (oEqI (He.ga K "Outcome") (sp_Outcome___eq__11 K)) (tVar 9) (tVar 9)) (tOp oEqD (tLst (tCons (tFld K (tVar 9) "cells") (tCons (tFld K (tVar 9) "given") (tCons (tFld K (tVar 9) "steps") (tNil))))) (tVar 13)))))))))
def t__law_good_12 (K : PySem.W.Frag) : TS :=
    tSeq (tIfS (tOr (tTest (tOp rNe (tCB (cReprI (He.ga K "Outcome") (sp_Outcome___repr__ K)) (tCons (tVar 9) (tNil))) (tOp oAddS (tOp oAddS (tOp oAddS (tOp oAddS (tC (.str "Outcome(")) (tCB rStrD (tCons (tVar 4) (tNil)))) (tC (.str ", "))) (tCB rStrD (tCons (tVar 5) (tNil)))) (tC (.str ")"))))) (tTest (tOp rNe (tCB (cLenI (He.ga K "Outcome") (sp_Outcome___len__ K)) (tCons (tVar 9) (tNil))) (tCB (cLenQ K) (tCons (tVar 7) (tNil)))))) (tRet (tC (.bl false))) (tNext))
    (tSeq (tAsg (tLst (tCons (tCB (cListQ K) (tCons (tVar 4) (tNil))) (tCons (tLc (iList K (tVar 5)) (gTup K 2 (gCons (gName 16) (gCons (gName 14) (gNil)))) (tYes) (tTup (tCons (tVar 16) (tCons (tCB (cListQ K) (tCons (tVar 14) (tNil))) (tNil)))) [16, 14]) (tCons (tCB (cListQ K) (tCons (tVar 7) (tNil))) (tNil))))) (gName 13))
    (tSeq (tFor (iList K (tOp rCat (tLst (tCons (tVar 4) (tCons (tVar 7) (tCons (tVar 5) (tNil))))) (tLc (iList K (tVar 5)) (gTup K 2 (gCons (gName 16) (gCons (gName 14) (gNil)))) (tYes) (tVar 14) [16, 14]))) (gName 14) (tDrop (tBM K "list" rAppend (tVar 14) (tCons (tTup (tCons (tC (.int 7)) (tCons (tC (.int 7)) (tNil)))) (tNil)))))
    (tSeq (tIfS (tOr (tTest (tOp oNeD (tLst (tCons (tFld K (tVar 9) "deepest") (tCons (tFld K (tVar 10) "deepest") (tNil)))) (tLst (tCons (tVar 8) (tCons (tC (.int 3)) (tNil)))))) (tTest (tOp rNe (tOp (oEqI (He.ga K "Outcome") (sp_Outcome___eq__11 K)) (tVar 9) (tVar 10)) (tVar 11)))) (tRet (tC (.bl false))) (tNext))
    (tRet (tAndV (tOp (oEqI (He.ga K "Outcome") (sp_Outcome___eq__11 K)) (tVar 9) (tVar 9)) (tOp oEqD (tLst (tCons (tFld K (tVar 9) "cells") (tCons (tFld K (tVar 9) "given") (tCons (tFld K (tVar 9) "steps") (tNil))))) (tVar 13)))))))
def t__law_good_14 (K : PySem.W.Frag) : TS :=
    tSeq (tFor (iList K (tOp rCat (tLst (tCons (tVar 4) (tCons (tVar 7) (tCons (tVar 5) (tNil))))) (tLc (iList K (tVar 5)) (gTup K 2 (gCons (gName 16) (gCons (gName 14) (gNil)))) (tYes) (tVar 14) [16, 14]))) (gName 14) (tDrop (tBM K "list" rAppend (tVar 14) (tCons (tTup (tCons (tC (.int 7)) (tCons (tC (.int 7)) (tNil)))) (tNil)))))
    (tSeq (tIfS (tOr (tTest (tOp oNeD (tLst (tCons (tFld K (tVar 9) "deepest") (tCons (tFld K (tVar 10) "deepest") (tNil)))) (tLst (tCons (tVar 8) (tCons (tC (.int 3)) (tNil)))))) (tTest (tOp rNe (tOp (oEqI (He.ga K "Outcome") (sp_Outcome___eq__11 K)) (tVar 9) (tVar 10)) (tVar 11)))) (tRet (tC (.bl false))) (tNext))
    (tRet (tAndV (tOp (oEqI (He.ga K "Outcome") (sp_Outcome___eq__11 K)) (tVar 9) (tVar 9)) (tOp oEqD (tLst (tCons (tFld K (tVar 9) "cells") (tCons (tFld K (tVar 9) "given") (tCons (tFld K (tVar 9) "steps") (tNil))))) (tVar 13)))))
def t__law_good_15 (K : PySem.W.Frag) : TS :=
    tSeq (tIfS (tOr (tTest (tOp oNeD (tLst (tCons (tFld K (tVar 9) "deepest") (tCons (tFld K (tVar 10) "deepest") (tNil)))) (tLst (tCons (tVar 8) (tCons (tC (.int 3)) (tNil)))))) (tTest (tOp rNe (tOp (oEqI (He.ga K "Outcome") (sp_Outcome___eq__11 K)) (tVar 9) (tVar 10)) (tVar 11)))) (tRet (tC (.bl false))) (tNext))
    (tRet (tAndV (tOp (oEqI (He.ga K "Outcome") (sp_Outcome___eq__11 K)) (tVar 9) (tVar 9)) (tOp oEqD (tLst (tCons (tFld K (tVar 9) "cells") (tCons (tFld K (tVar 9) "given") (tCons (tFld K (tVar 9) "steps") (tNil))))) (tVar 13))))
section
variable {K : PySem.W.Frag} {Hs H0 H : Hp} {Q : VK} {o1 o2 cl gl ml : Addr} {cxs gxs mxs : List V} {cs cs2 : Cells} {gv gv2 : Given} {mds mds2 : List PyData} {deep : Int} {due : Bool} {a0 a1 a2 a3 a6 a12 a14 a15 a16 : Option V}
theorem good_15 (CF : COs K) {bf : Addr} {a4 a5 a7 : Option V} (ks : Chg [] Hs H) (oa1 : OutAt K H0 H o1 (cs.map pairD) gv mds (.int deep)) (oa2 : OutAt K H0 H o2 (cs2.map pairD) gv2 mds2 (.int 3)) (okm : MkOk mds) (edue : due = ((csD cs).eqv (csD cs2) && (giftsD gv).eqv (giftsD gv2)))
    (rb : R (fun a => H0 a = none) H (.ref bf) (.list [csD cs, giftsD gv, .list mds])) (q : ∀ H', Chg [] Hs H' → Q (.bl true) H') :
    t__law_good_15 K (fin Q) [a0, a1, a2, a3, a4, a5, a6, a7, some (.int deep), some (.ref o1), some (.ref o2), some (.bl due), a12, some (.ref bf), a14, a15, a16] H := by
  have oc := CF.oc
  obtain ⟨x1, c1, g1, s1, h1, r11, r12, r13⟩ := id oa1
  obtain ⟨x2, c2, g2, s2, h2, r21, r22, r23⟩ := id oa2
  unfold t__law_good_15
  walk_at "w"
  refine k_lst (by walk_at "sz") fun p1 H1 np1 k1 hp1 => ?_
  walk_at "w"
  refine k_lst (by walk_at "sz") fun p2 H2 np2 k2 hp2 => ?_
  refine w_neD (d := .list [.int deep, .int 3]) (e := .list [.int deep, .int 3]) (S := fun _ => True) (S' := fun _ => True) (.lst trivial (k2.at hp1) (.cons (.int _) (.cons (.int _) .nil))) (.lst trivial hp2 (.cons (.int _) (.cons (.int _) .nil))) rfl rfl (by show min (max 0 (max 0 0) + 1) _ ≤ 60; omega) ?_
  rw [eqv_self _ (show noDic (.list [.int deep, .int 3]) = true from rfl)]
  have k12 := k1.same k2
  walk_at "w"
  refine w_eqI (k12.at h1) (k12.at h2) (eq_sp (oa1.same k12) (oa2.same k12) ?_)
  rw [← edue]
  refine ⟨due, rfl, ?_⟩
  walk_at "w"
  refine w_iteD (fun _ => ?_) (fun h => absurd rfl h)
  walk_at "w"
  refine w_eqI (k12.at h1) (k12.at h1) (eq_sp (oa1.same k12) (oa1.same k12) ?_)
  rw [eqv_self _ (csD_nd cs), eqv_self _ (gvD_nd gv)]
  refine ⟨true, rfl, ?_⟩
  walk_at "w"
  refine k_lst (by walk_at "sz") fun p3 H3 np3 k3 hp3 => ?_
  have k13 := k12.same k3
  walk_at "w"
  have nd : noDic (.list [csD cs, giftsD gv, .list mds]) = true := by
    show (noDic (csD cs) && (noDic (giftsD gv) && (noDics mds && true))) = true
    rw [csD_nd, gvD_nd, noDics_of okm.flat]
    rfl
  have d1 := csD_dp cs
  have d2 := gvD_dp gv
  have d3 : PyData.depthAll mds ≤ 3 := depthAll_le okm.dp
  refine w_eqD (d := .list [csD cs, giftsD gv, .list mds]) (S := fun _ => True) (.lst trivial hp3 (.cons ((r11.same k13).mono fun _ _ => trivial) (.cons ((r12.same k13).mono fun _ _ => trivial) (.cons ((r13.same k13).mono fun _ _ => trivial) .nil)))) (rb.same k13) nd nd (by show min (max (csD cs).depth (max (giftsD gv).depth (max (PyData.depthAll mds + 1) 0)) + 1) _ ≤ 60; omega) ?_
  rw [eqv_self _ nd]
  walk_at "w"
  exact q H3 (ks.same k13)
theorem good_14 (CF : COs K) {bf : Addr} (G : G11 K Hs H0 H o1 o2 cl gl ml cxs gxs mxs cs cs2 gv gv2 mds mds2 deep due) (rb : R (fun a => H0 a = none) H (.ref bf) (.list [csD cs, giftsD gv, .list mds])) (q : ∀ H', Chg [] Hs H' → Q (.bl true) H') :
    t__law_good_14 K (fin Q) [a0, a1, a2, a3, some (.ref cl), some (.ref gl), a6, some (.ref ml), some (.int deep), some (.ref o1), some (.ref o2), some (.bl due), a12, some (.ref bf), none, none, none] H := by
  have oc := CF.oc
  unfold t__law_good_14
  walk_at "w"
  refine k_lst (by walk_at "sz") fun p1 H1 np1 k1 hp1 => ?_
  have G1 := G.same k1
  have hg1 := G1.hg
  have fg0 := G.okg.few
  have lgx : gxs.length = gv.length := by rw [G.rg.length, List.length_map]
  walk_at "w"
  refine w_lcP (walk_list (K := K) (a := gl) (xs := gxs)) [] (fun _ _ => True) (fun i y Hx => ∃ (l : Addr) (row : List V), y = .ref l ∧ Hx l = some (.lst row) ∧ row.length ≤ 12 ∧ (H0 l ≠ none ∧ Hs l = none) ∧ H1 l ≠ none) trivial (fun _ _ _ _ _ _ _ => trivial) (fun H5 c => sqL (c.at G1.hg)) (fun D i acc z H5 H6 hi nD hD el iv c5 _ y => ?_) (fun D acc H5 nD c5 _ el hD ys => ?_)
  · obtain ⟨rfl, ey⟩ := y
    obtain ⟨T, g, l, eg, rfl, hT, sl, hl⟩ := gift_at (G1.rg.same c5) ey
    obtain ⟨T', g', l', eg', eT', hT', sl', hl'⟩ := gift_at G1.rg ey
    cases eT'
    rw [eg] at eg'
    cases eg'
    have hT5 := c5.at hT'
    rw [hT] at hT5
    cases hT5
    have gm : g ∈ gv := List.mem_of_getElem? eg
    walk_at "w"
    exact lcp_end (fun _ _ _ _ _ _ _ => trivial) (fun i y Ha Hb p np c h => by
      obtain ⟨l, row, e, h1, h2, h3, h4⟩ := h
      exact ⟨l, row, e, c.at1 h1 (fun z => h4 (by rw [z]; exact np)), h2, h3, h4⟩) nD (fun a ha => by cases ha) hD el (by omega) iv .refl trivial ⟨l, _, rfl, hl, by rw [List.length_map]; exact (G.okg.rows g gm).1, sl, by rw [hl']; exact fun z => by cases z⟩
  have G5 := G1.same c5
  have lcx : cxs.length ≤ 12 := by rw [G.imc.length, List.length_map]; exact G.okc.few
  have lmx : mxs.length ≤ 12 := by rw [G.imm.length]; have := G.okm.few; omega
  have fg := G.okg.few
  have lacc : acc.length ≤ 11 := by rw [show acc.length = gxs.length from el]; omega
  refine w_cat (c5.at hp1) hD (by show 3 + acc.length ≤ 100000; omega) fun p6 H6 np6 k6 hp6 => ?_
  have G6 := G5.same k6
  obtain ⟨as, eas, has⟩ : ∃ as : List Addr, [V.ref cl, V.ref ml, V.ref gl] ++ acc = as.map V.ref ∧ ∀ a ∈ as, (H0 a ≠ none ∧ Hs a = none) ∧ ∃ row, H6 a = some (.lst row) ∧ row.length ≤ 12 := by
    have : ∀ {l : List V}, (∀ y ∈ l, ∃ (a : Addr) (row : List V), y = .ref a ∧ (H0 a ≠ none ∧ Hs a = none) ∧ H6 a = some (.lst row) ∧ row.length ≤ 12) → ∃ as : List Addr, l = as.map V.ref ∧ ∀ a ∈ as, (H0 a ≠ none ∧ Hs a = none) ∧ ∃ row, H6 a = some (.lst row) ∧ row.length ≤ 12 := by
      intro l
      induction l with
      | nil => exact fun _ => ⟨[], rfl, fun a h => by cases h⟩
      | cons v r ih =>
        intro h
        obtain ⟨a, row, rfl, h1, h2, h3⟩ := h v (by simp)
        obtain ⟨as, e, hs⟩ := ih fun y hy => h y (List.mem_cons_of_mem _ hy)
        refine ⟨a :: as, by rw [e]; rfl, fun b hb => ?_⟩
        rcases List.mem_cons.mp hb with rfl | hb
        · exact ⟨h1, row, h2, h3⟩
        · exact hs b hb
    refine this fun y hy => ?_
    rcases List.mem_append.mp hy with h | h
    · simp only [List.mem_cons, List.not_mem_nil, or_false] at h
      rcases h with rfl | rfl | rfl
      · exact ⟨cl, cxs, rfl, ⟨G.c0, G.cs0⟩, G6.hc, lcx⟩
      · exact ⟨ml, mxs, rfl, ⟨G.m0, G.ms0⟩, G6.hm, lmx⟩
      · exact ⟨gl, gxs, rfl, ⟨G.g0, G.gs0⟩, G6.hg, by omega⟩
    · obtain ⟨i, hi⟩ := List.getElem?_of_mem h
      obtain ⟨l, row, rfl, f1, f2, f3, _⟩ := ys i y hi
      exact ⟨l, row, rfl, f3, k6.at f1, f2⟩
  have las : as.length ≤ 14 := by
    have := congrArg List.length eas
    rw [List.length_append, List.length_map] at this
    simp at this
    omega
  rw [eas] at hp6
  have p6n : p6 ∉ as := fun h => (has p6 h).1.1 (G5.d0 _ np6)
  walk_at "w"
  refine for_it (walk_list (K := K) (a := p6) (xs := as.map V.ref)) (fun i σ Hi => Chg as H6 Hi ∧ (∀ a ∈ as, ∃ row, Hi a = some (.lst row) ∧ row.length ≤ 12 + i) ∧ ∃ y, σ = [a0, a1, a2, a3, some (.ref cl), some (.ref gl), a6, some (.ref ml), some (.int deep), some (.ref o1), some (.ref o2), some (.bl due), a12, some (.ref bf), y, none, none])
    ⟨.refl, fun a ha => (has a ha).2, _, rfl⟩ (fun i σ Hi _ z => sqL (z.1.keep _ _ hp6 p6n)) (fun i x σ Hi Hj hi p y => ?_) (fun σ Hi p => ?_)
  · obtain ⟨ci, hr, y14, rfl⟩ := p
    obtain ⟨rfl, ey⟩ := y
    rw [List.getElem?_map] at ey
    cases ha : as[i]? with
    | none => rw [ha] at ey; cases ey
    | some a =>
    rw [ha] at ey
    cases ey
    have am : a ∈ as := List.mem_of_getElem? ha
    have hi' : i < 14 := by rw [List.length_map] at hi; omega
    obtain ⟨row, h1, h2⟩ := hr a am
    walk_at "w"
    refine k_tup (by walk_at "sz") fun p7 H7 np7 k7 hp7 => ?_
    walk_at "w"
    refine w_append (k7.at h1) (Nat.lt_of_le_of_lt (show row.length ≤ 100 by omega) (by decide)) fun H8 k8 hp8 => ?_
    refine ⟨(ci.same k7).go k8 fun b hb => .inl (by rw [List.mem_singleton.mp hb]; exact am), fun b hb => ?_, _, rfl⟩
    by_cases e : b = a
    · rw [e]
      exact ⟨_, hp8, by rw [List.length_append, List.length_singleton]; omega⟩
    · obtain ⟨row', f1, f2⟩ := hr b hb
      exact ⟨row', k8.at1 (k7.at f1) e, by omega⟩
  · obtain ⟨ci, hr, y14, rfl⟩ := p
    have far : ∀ a, H0 a = none → a ∉ as := fun a h m => (has a m).1.1 h
    have keepO : ∀ {o : Addr} {cds sds : List PyData} {gw : Given} {dv : V}, OutAt K H0 H6 o cds gw sds dv → OutAt K H0 Hi o cds gw sds dv := fun {o cds sds gw dv} ⟨dx, c, g, s, h, r1, r2, r3⟩ =>
      ⟨dx, c, g, s, ci.keep _ _ h (fun m => by
        obtain ⟨_, row, e, _⟩ := has _ m
        rw [h] at e
        cases e), r1.keep ci far, r2.keep ci far, r3.keep ci far⟩
    have k06 : Chg [] H H6 := (k1.same c5).same k6
    exact good_15 CF (G6.ks.go ci fun a ha => .inr (has a ha).1.2) (keepO G6.oa1) (keepO G6.oa2) G.okm G.edue ((rb.same k06).keep ci far) q
theorem good_12 (CF : COs K) (G : G11 K Hs H0 H o1 o2 cl gl ml cxs gxs mxs cs cs2 gv gv2 mds mds2 deep due) (q : ∀ H', Chg [] Hs H' → Q (.bl true) H') :
    t__law_good_12 K (fin Q) [a0, a1, a2, a3, some (.ref cl), some (.ref gl), a6, some (.ref ml), some (.int deep), some (.ref o1), some (.ref o2), some (.bl due), a12, none, none, none, none] H := by
  have oc := CF.oc
  obtain ⟨x1, c1, g1, s1, h1, r11, r12, r13⟩ := id G.oa1
  unfold t__law_good_12
  walk_at "w"
  refine w_reprI h1 (rep_sp G.oa1 G.okc G.okg ?_)
  refine ⟨_, rfl, ?_⟩
  have L1 := Nat.le_trans (shown_shL (csD_gd G.okc).1) (csD_gd G.okc).2
  have L2 := Nat.le_trans (shown_shL (gvD_gd G.okg).1) (gvD_gd G.okg).2
  have e1 : (Str.ofString "Outcome(").length = 8 := by decide +kernel
  have e2 : (Str.ofString ", ").length = 2 := by decide +kernel
  have e3 : (Str.ofString ")").length = 1 := by decide +kernel
  have sl : 1000000 ≤ sizeLine := by decide
  have d1 := csD_dp cs
  have d2 := gvD_dp gv
  have rc : R (fun _ => True) H (.ref cl) (csD cs) := .lst trivial G.hc G.imc.any
  have rgv : R (fun _ => True) H (.ref gl) (giftsD gv) := .lst trivial G.hg (G.rg.mono fun _ _ => trivial)
  walk_at "w"
  refine w_strD rc (csD_nd cs) (gd_showable (csD_gd G.okc).1) (by omega) (by omega) ?_
  walk_at "w"
  refine w_addS (by rw [e1]; omega) ?_
  walk_at "w"
  refine w_addS (by rw [len_append, e1, e2]; omega) ?_
  walk_at "w"
  refine w_strD rgv (gvD_nd gv) (gd_showable (gvD_gd G.okg).1) (by omega) (by omega) ?_
  walk_at "w"
  refine w_addS (by rw [len_append, len_append, e1, e2]; omega) ?_
  walk_at "w"
  refine w_addS (by rw [len_append, len_append, len_append, e1, e2, e3]; omega) ?_
  walk_at "w"
  refine w_iteD (fun _ => ?_) (fun h => absurd rfl h)
  walk_at "w"
  cases r13 with
  | @lst _ sxs _ _ hs ras =>
  have ls : sxs.length = mds.length := ras.length
  have lm : mxs.length = mds.length := G.imm.length
  have fm := G.okm.few
  have hm := G.hm
  refine w_lenI h1 ⟨o1, x1, s1, _, _, _, sxs, rfl, h1, hs, ?_⟩
  refine ⟨sxs.length, rfl, Nat.lt_of_le_of_lt (show sxs.length ≤ 6 by omega) (by decide), ?_⟩
  walk_at "w"
  refine w_iteD (fun _ => ?_) (fun h => absurd (by rw [ls, lm]) h)
  have cp : ∀ (Hx : Hp) (Qx : VK), Chg [] H Hx → (∀ (L : Addr) (ys : List V) (H' : Hp), Hx L = none → Chg [] Hx H' → H' L = some (.lst ys) → RA (fun a => Hx a = none ∧ a ≠ L) H' ys (gv.map giftD) → Qx (.ref L) H') →
      (tLc (iList K (tVar 5)) (gTup K 2 (gCons (gName 16) (gCons (gName 14) gNil))) tYes (tTup (tCons (tVar 16) (tCons (tCB (cListQ K) (tCons (tVar 14) tNil)) tNil))) [16, 14]) [a0, a1, a2, a3, some (.ref cl), some (.ref gl), a6, some (.ref ml), some (.int deep), some (.ref o1), some (.ref o2), some (.bl due), a12, none, none, none, none] Hx Qx := fun Hx Qx c k => comp_gv (c.at G.hg) (G.rg.same c) (by have := G.okg.few; omega) k
  generalize (tLc (iList K (tVar 5)) (gTup K 2 (gCons (gName 16) (gCons (gName 14) gNil))) tYes (tTup (tCons (tVar 16) (tCons (tCB (cListQ K) (tCons (tVar 14) tNil)) tNil))) [16, 14]) = comp at cp ⊢
  walk_at "w"
  refine w_listL (sqL G.hc) fun p1 H1 np1 k1 hp1 => ?_
  walk_at "w"
  refine cp H1 _ k1 fun L ys H2 nL k2 hL rL => ?_
  walk_at "w"
  have k12 : Chg [] H H2 := k1.same k2
  refine w_listL (sqL (k12.at G.hm)) fun p3 H3 np3 k3 hp3 => ?_
  walk_at "w"
  refine k_lst (by walk_at "sz") fun p4 H4 np4 k4 hp4 => ?_
  have k34 : Chg [] H2 H4 := k3.same k4
  have k14 : Chg [] H H4 := k12.same k34
  have rb : R (fun a => H0 a = none) H4 (.ref p4) (.list [csD cs, giftsD gv, .list mds]) :=
    .lst (G.d0 _ ((k12.same k3).dom _ np4)) hp4 (.cons (.lst (G.d0 _ np1) (k34.at (k2.at hp1)) (G.imc.im k14).any) (.cons (.lst (G.d0 _ (k1.dom _ nL)) (k34.at hL) ((rL.same k34).mono fun a h => G.d0 _ (k1.dom _ h.1))) (.cons (.lst (G.d0 _ (k12.dom _ np3)) (k4.at hp3) (G.imm.im k14).any) .nil)))
  exact good_14 CF (G.same k14) rb q
theorem good_10 (CF : COs K) (G : G11 K Hs H0 H o1 o2 cl gl ml cxs gxs mxs cs cs2 gv gv2 mds mds2 deep due) (q : ∀ H', Chg [] Hs H' → Q (.bl true) H') :
    t__law_good_10 K (fin Q) [a0, a1, a2, a3, some (.ref cl), some (.ref gl), a6, some (.ref ml), some (.int deep), some (.ref o1), some (.ref o2), some (.bl due), none, none, none, none, none] H := by
  have oc := CF.oc
  obtain ⟨x1, c1, g1, s1, h1, r11, r12, r13⟩ := id G.oa1
  obtain ⟨x2, c2, g2, s2, h2, r21, r22, r23⟩ := id G.oa2
  have edue := G.edue
  have e21 : ((csD cs2).eqv (csD cs) && (giftsD gv2).eqv (giftsD gv)) = due := by rw [edue, PySem.W.eqv_comm (csD cs2), PySem.W.eqv_comm (giftsD gv2)]
  unfold t__law_good_10
  walk_at "w"
  refine w_eqI h1 h2 (eq_sp G.oa1 G.oa2 ?_)
  rw [← edue]
  refine ⟨due, rfl, ?_⟩
  walk_at "w"
  refine w_iteD (fun _ => ?_) (fun h => absurd rfl h)
  walk_at "w"
  refine w_eqI h2 h1 (eq_sp G.oa2 G.oa1 ?_)
  rw [e21]
  refine ⟨due, rfl, ?_⟩
  walk_at "w"
  refine w_iteD (fun _ => ?_) (fun h => absurd rfl h)
  walk_at "w"
  refine w_neI h1 h2 (eq_sp G.oa1 G.oa2 ?_)
  rw [← edue]
  refine ⟨due, rfl, ?_⟩
  walk_at "w"
  refine w_iteD (fun h => ?_) (fun _ => ?_)
  · cases due <;> cases h
  walk_at "w"
  refine k_lst (by walk_at "sz") fun p3 H3 np3 c3 h3 => ?_
  have G3 := G.same c3
  refine w_inI h3 G.ne (c3.at h1) (c3.at h2) (eq_sp G3.oa1 G3.oa2 ?_)
  rw [← edue]
  refine ⟨due, rfl, h3, ?_⟩
  walk_at "w"
  refine w_iteD (fun _ => ?_) (fun h => absurd rfl h)
  walk_at "w"
  refine k_tup (by walk_at "sz") fun p4 H4 np4 c4 h4 => ?_
  have G4 := G3.same c4
  walk_at "w"
  refine w_reprI (c4.at (c3.at h1)) (rep_sp G4.oa1 G.okc G.okg ?_)
  refine ⟨_, rfl, ?_⟩
  generalize outText (csD cs).shown (giftsD gv).shown = txt
  walk_at "w"
  refine w_dnewK fun p5 H5 np5 c5 h5 => ?_
  walk_at "w"
  refine k_lst (by walk_at "sz") fun p6 H6 np6 c6 h6 => ?_
  have G6 := (G4.same c5).same c6
  have c46 : Chg [] H4 H6 := c5.same c6
  have h1' := c46.at (c4.at (c3.at h1))
  have rc : R (fun _ => True) H6 (.ref cl) (csD cs) := .lst trivial G6.hc G6.imc.any
  have rgv : R (fun _ => True) H6 (.ref gl) (giftsD gv) := .lst trivial G6.hg (G6.rg.mono fun _ _ => trivial)
  have ra : RA (fun _ => True) H6 [.non, .int 0, .ref cl, .ref p4, .str txt, .ref p5] [.none, .int 0, csD cs, .tuple [csD cs, giftsD gv], .str txt, .dict []] :=
    .cons .non (.cons (.int 0) (.cons rc (.cons (.tup (c46.at h4) (.cons rc (.cons rgv .nil))) (.cons (.str _) (.cons (.dic trivial (c6.at h5)) .nil)))))
  walk_at "w"
  refine for_it (walk_list (K := K) (a := p6) (xs := [.non, .int 0, .ref cl, .ref p4, .str txt, .ref p5])) (fun i σ Hi => Hi = H6 ∧ ∃ y, σ = [a0, a1, a2, a3, some (.ref cl), some (.ref gl), a6, some (.ref ml), some (.int deep), some (.ref o1), some (.ref o2), some (.bl due), y, none, none, none, none]) ⟨rfl, _, rfl⟩ (fun i σ Hi _ z => by rw [z.1]; exact sqL h6) (fun i x σ Hi Hj hi p y => ?_) (fun σ Hi p => ?_)
  · obtain ⟨rfl, y12, rfl⟩ := p
    obtain ⟨rfl, ey⟩ := y
    obtain ⟨d, _, rd⟩ := ra.get ey
    walk_at "w"
    refine w_eqX h1' rd (eq_spD G6.oa1 rd ?_)
    refine ⟨false, rfl, ?_⟩
    walk_at "w"
    refine w_neX h1' rd (eq_spD G6.oa1 rd ?_)
    refine ⟨false, rfl, ?_⟩
    walk_at "w"
    exact ⟨rfl, _, rfl⟩
  · obtain ⟨rfl, y12, rfl⟩ := p
    exact good_12 CF G6 q
end
end
section
def t__law_good_5 (K : PySem.W.Frag) : TS :=
    tSeq (tAsg (tCall sp__law_marks [] E0 (tCons (tVar 2) (tNil))) (gName 7))
    (tSeq (tAsg (tCall sp__law_draw [] E0 (tCons (tVar 2) (tCons (tOp (rIxL K) (tLst (tCons (tC (.int 9)) (tCons (tOp oPow (tC (.int 10)) (tC (.int 20))) (tNil)))) (tOp oFdiv (tCall sp__law_draw [] E0 (tCons (tVar 2) (tCons (tC (.int 3)) (tNil)))) (tC (.int 2)))) (tNil)))) (gName 8))
    (tSeq (tAsg (tMake (He.ga K "Outcome") (sp_Outcome___init__ K) [] E0 (tCons (tVar 4) (tCons (tVar 5) (tCons (tVar 7) (tCons (tVar 8) (tNil)))))) (gName 9))
    (tSeq (tAsg (tMake (He.ga K "Outcome") (sp_Outcome___init__ K) [] E0 (tCons (tOp (rIxT K) (tVar 6) (tC (.int 0))) (tCons (tOp (rIxT K) (tVar 6) (tC (.int 1))) (tCons (tCall sp__law_marks [] E0 (tCons (tVar 2) (tNil))) (tCons (tC (.int 3)) (tNil)))))) (gName 10))
    (tSeq (tAsg (tOp oEqD (tTup (tCons (tVar 4) (tCons (tVar 5) (tNil)))) (tVar 6)) (gName 11))
    (tSeq (tIfS (tOr (tTest (tOp rNe (tOp (oEqI (He.ga K "Outcome") (sp_Outcome___eq__11 K)) (tVar 9) (tVar 10)) (tVar 11))) (tOr (tTest (tOp rNe (tOp (oEqI (He.ga K "Outcome") (sp_Outcome___eq__11 K)) (tVar 10) (tVar 9)) (tVar 11))) (tOr (tTest (tOp rEq (tOp (oNeI (He.ga K "Outcome") (sp_Outcome___eq__11 K)) (tVar 9) (tVar 10)) (tVar 11))) (tTest (tOp rNe (tOp (oInI (He.ga K "Outcome") (sp_Outcome___eq__11 K)) (tVar 10) (tLst (tCons (tVar 9) (tNil)))) (tVar 11)))))) (tRet (tC (.bl false))) (tNext))
    (tSeq (tFor (iList K (tLst (tCons (tC .non) (tCons (tC (.int 0)) (tCons (tVar 4) (tCons (tTup (tCons (tVar 4) (tCons (tVar 5) (tNil)))) (tCons (tCB (cReprI (He.ga K "Outcome") (sp_Outcome___repr__ K)) (tCons (tVar 9) (tNil))) (tCons (tDNewK) (tNil))))))))) (gName 12) (tIfS (tOr (tTest (tOp (oEqX (He.ga K "Outcome") (sp_Outcome___eq__11 K)) (tVar 9) (tVar 12))) (tNot (tTest (tOp (oNeX (He.ga K "Outcome") (sp_Outcome___eq__11 K)) (tVar 9) (tVar 12))))) (tRet (tC (.bl false))) (tNext)))
    (tSeq (tIfS (tOr (tTest (tOp rNe (tCB (cReprI (He.ga K "Outcome") (sp_Outcome___repr__ K)) (tCons (tVar 9) (tNil))) (tOp oAddS (tOp oAddS (tOp oAddS (tOp oAddS (tC (.str "Outcome(")) (tCB rStrD (tCons (tVar 4) (tNil)))) (tC (.str ", "))) (tCB rStrD (tCons (tVar 5) (tNil)))) (tC (.str ")"))))) (tTest (tOp rNe (tCB (cLenI (He.ga K "Outcome") (sp_Outcome___len__ K)) (tCons (tVar 9) (tNil))) (tCB (cLenQ K) (tCons (tVar 7) (tNil)))))) (tRet (tC (.bl false))) (tNext))
    (tSeq (tAsg (tLst (tCons (tCB (cListQ K) (tCons (tVar 4) (tNil))) (tCons (tLc (iList K (tVar 5)) (gTup K 2 (gCons (gName 16) (gCons (gName 14) (gNil)))) (tYes) (tTup (tCons (tVar 16) (tCons (tCB (cListQ K) (tCons (tVar 14) (tNil))) (tNil)))) [16, 14]) (tCons (tCB (cListQ K) (tCons (tVar 7) (tNil))) (tNil))))) (gName 13))
    (tSeq (tFor (iList K (tOp rCat (tLst (tCons (tVar 4) (tCons (tVar 7) (tCons (tVar 5) (tNil))))) (tLc (iList K (tVar 5)) (gTup K 2 (gCons (gName 16) (gCons (gName 14) (gNil)))) (tYes) (tVar 14) [16, 14]))) (gName 14) (tDrop (tBM K "list" rAppend (tVar 14) (tCons (tTup (tCons (tC (.int 7)) (tCons (tC (.int 7)) (tNil)))) (tNil)))))
    (tSeq (tIfS (tOr (tTest (tOp oNeD (tLst (tCons (tFld K (tVar 9) "deepest") (tCons (tFld K (tVar 10) "deepest") (tNil)))) (tLst (tCons (tVar 8) (tCons (tC (.int 3)) (tNil)))))) (tTest (tOp rNe (tOp (oEqI (He.ga K "Outcome") (sp_Outcome___eq__11 K)) (tVar 9) (tVar 10)) (tVar 11)))) (tRet (tC (.bl false))) (tNext))
    (tRet (tAndV (tOp (oEqI (He.ga K "Outcome") (sp_Outcome___eq__11 K)) (tVar 9) (tVar 9)) (tOp oEqD (tLst (tCons (tFld K (tVar 9) "cells") (tCons (tFld K (tVar 9) "given") (tCons (tFld K (tVar 9) "steps") (tNil))))) (tVar 13))))))))))))))
section
variable {K : PySem.W.Frag}
/-- from the making on -/
theorem good_5 (CF : COs K) {Hs H : Hp} {Q : VK} {b cl gl T c2 g2 : Addr} {cxs gxs cxs2 gxs2 : List V} {cs cs2 : Cells} {gv gv2 : Given} {n : Nat} {a0 a1 a3 : Option V} (bag : Well H b n) (hn : 100 ≤ n)
    (hc : H cl = some (.lst cxs)) (cb : cl ≠ b) (imc : ImA H cxs (cs.map pairD)) (okc : CsOk cs) (hg : H gl = some (.lst gxs)) (gb : gl ≠ b) (rg : RA (fun a => a ≠ b ∧ H a ≠ none ∧ Hs a = none) H gxs (gv.map giftD)) (okg : GvOk gv)
    (hT : H T = some (.tup [.ref c2, .ref g2])) (hc2 : H c2 = some (.lst cxs2)) (c2b : c2 ≠ b) (imc2 : ImA H cxs2 (cs2.map pairD)) (hg2 : H g2 = some (.lst gxs2)) (g2b : g2 ≠ b) (rg2 : RA (fun a => a ≠ b) H gxs2 (gv2.map giftD)) (okg2 : GvOk gv2) (ks : Chg [] Hs H) (bs0 : Hs b = none) (cs0 : Hs cl = none) (gs0 : Hs gl = none) (q : ∀ H', Chg [] Hs H' → Q (.bl true) H') :
    t__law_good_5 K (fin Q) [a0, a1, some (.ref b), a3, some (.ref cl), some (.ref gl), some (.ref T), none, none, none, none, none, none, none, none, none, none] H := by
  unfold t__law_good_5
  walk_at "w"
  refine ⟨b, n, rfl, bag, by omega, fun ml mxs mds H1 k1 bag1 nml hml imm okm => ?_⟩
  have bl : ∀ a, a ≠ b → a ∉ [b] := fun a h m => h (List.mem_singleton.mp m)
  have mb : ml ≠ b := fun z => bag.some (by rw [← z]; exact nml)
  walk_at "w"
  refine w_pow (cpow 4 (by decide) (by decide) (by decide)) ?_
  walk_at "w"
  refine k_lst (by walk_at "sz") fun p2 H2 np2 k2 hp2 => ?_
  walk_at "w"
  refine u_draw (bag1.same k2) (by omega) (by decide) (by decide) fun w3 H3 k3 bag3 w0 w1 => ?_
  walk_at "w"
  refine w_fdiv (cdivS (by decide) (by decide)) ?_
  have p2b : p2 ≠ b := fun z => bag1.some (by rw [← z]; exact np2)
  obtain ⟨mx, emx, mx0, mx1⟩ : ∃ mx : Int, atI [V.int 9, V.int (10 ^ Int.toNat 20)] (w3 / 2) = some (.int mx) ∧ 0 < mx ∧ mx < 10 ^ 30 := by
    have : w3 / 2 = 0 ∨ w3 / 2 = 1 := by omega
    rcases this with e | e
    · rw [e]; exact ⟨_, at0, by decide, by decide⟩
    · rw [e]; exact ⟨_, at1, by decide, by decide⟩
  refine w_ixL (sqL (k3.at1 hp2 p2b)) emx ?_
  walk_at "w"
  refine u_draw bag3 (by omega) mx0 mx1 fun deep H4 k4 bag4 _ _ => ?_
  have k04 : Chg [b] H H4 := ((k1.same k2).both k3).both k4
  have hml4 := k4.at1 (k3.at1 (k2.at hml) mb) mb
  have imm4 := ((imm.im k2).im k3).im k4
  walk_at "w"
  refine k_make fun o1 x1 H5 no1 nx1 neo k5 h5 => ?_
  have k05 : Chg [b] H H5 := k04.same k5
  have rg5 : RA (fun a => a ≠ b ∧ H a ≠ none ∧ Hs a = none) H5 gxs (gv.map giftD) := rg.keep k05 fun a s => bl a s.1
  refine ⟨o1, x1, cl, gl, ml, .int deep, cxs, mxs, cs.map pairD, mds, gv, _, rfl, h5, k05.at1 hc cb, imc.im k05, .lst ⟨gb, (by rw [hg]; exact fun z => by cases z), gs0⟩ (k05.at1 hg gb) rg5, by have := okg.few; omega, k5.at hml4, imm4.im k5, fun H6 k6 oa1 => ⟨rfl, ?_⟩⟩
  have no1' : H o1 = none := k04.dom _ no1
  have o1b : o1 ≠ b := fun z => bag4.some (by rw [← z]; exact no1)
  have k06 : Chg [b] H H6 := k05.go k6 fun a ha => .inr (by rw [List.mem_singleton.mp ha]; exact no1')
  have bag6 : Well H6 b (n - 22) := (bag4.same k5).one k6 o1b.symm |>.le (by omega)
  have hT6 := k06.tup _ _ hT
  walk_at "w"
  refine ⟨b, n - 22, rfl, bag6, by omega, fun ml2 mxs2 mds2 H7 k7 bag7 nml2 hml2 imm2 okm2 => ?_⟩
  have ml2b : ml2 ≠ b := fun z => bag6.some (by rw [← z]; exact nml2)
  walk_at "w"
  refine k_make fun o2 x2 H8 no2 nx2 neo2 k8 h8 => ?_
  have k08 : Chg [b] H H8 := (k06.both k7).same k8
  have rg28 : RA (fun a => a ≠ b) H8 gxs2 (gv2.map giftD) := rg2.keep k08 fun a s => bl a s
  refine ⟨o2, x2, c2, g2, ml2, .int 3, cxs2, mxs2, cs2.map pairD, mds2, gv2, _, rfl, h8, k08.at1 hc2 c2b, imc2.im k08, .lst g2b (k08.at1 hg2 g2b) rg28, by have := okg2.few; omega, k8.at hml2, imm2.im k8, fun H9 k9 oa2 => ⟨rfl, ?_⟩⟩
  have no26 : H6 o2 = none := k7.dom _ no2
  have no25 : H5 o2 = none := by
    cases h : H5 o2 with
    | none => rfl
    | some o =>
      have := k6.dom _ no26
      rw [h] at this
      cases this
  have no2' : H o2 = none := k06.dom _ no26
  have k69 : Chg [b] H6 H9 := (k7.same k8).go k9 fun a ha => .inr (by rw [List.mem_singleton.mp ha]; exact no26)
  have k09 : Chg [b] H H9 := k06.both k69
  have hT9 := k09.tup _ _ hT
  walk_at "w"
  refine k_tup (by walk_at "sz") fun p10 H10 np10 k10 hp10 => ?_
  have k610 : Chg [b] H6 H10 := k69.same k10
  have k010 : Chg [b] H H10 := k09.same k10
  have hc10 := k010.at1 hc cb
  have hg10 := k010.at1 hg gb
  have rg10 : RA (fun a => a ≠ b ∧ H a ≠ none ∧ Hs a = none) H10 gxs (gv.map giftD) := rg.keep k010 fun a s => bl a s.1
  have rg210 : RA (fun a => a ≠ b) H10 gxs2 (gv2.map giftD) := rg2.keep k010 fun a s => bl a s
  have d1 := csD_dp cs
  have d2 := gvD_dp gv
  have nd : ∀ (c : Cells) (g : Given), noDic (.tuple [csD c, giftsD g]) = true := fun c g => by
    show (noDic (csD c) && (noDic (giftsD g) && true)) = true
    rw [csD_nd, gvD_nd]
    rfl
  walk_at "w"
  refine w_eqD (d := .tuple [csD cs, giftsD gv]) (e := .tuple [csD cs2, giftsD gv2]) (S := fun a => a ≠ b ∧ H a ≠ none ∧ Hs a = none) (S' := fun a => a ≠ b) (.tup hp10 (.cons (.lst ⟨cb, (by rw [hc]; exact fun z => by cases z), cs0⟩ hc10 (imc.im k010).any) (.cons (.lst ⟨gb, (by rw [hg]; exact fun z => by cases z), gs0⟩ hg10 rg10) .nil)))
    (.tup (k10.at hT9) (.cons (.lst c2b (k010.at1 hc2 c2b) (imc2.im k010).any) (.cons (.lst g2b (k010.at1 hg2 g2b) rg210) .nil))) (nd _ _) (nd _ _) (by show min (max (csD cs).depth (max (giftsD gv).depth 0) + 1) _ ≤ 60; omega) ?_
  have b5 : ∀ a, H5 a = none → a ∉ [b] := fun a h m => (bag4.same k5).some (by rw [← List.mem_singleton.mp m]; exact h)
  have keepO : ∀ {o : Addr} {cds sds : List PyData} {gw : Given} {dv : V} {Ha Hb : Hp}, o ≠ b → Chg [b] Ha Hb → OutAt K H5 Ha o cds gw sds dv → OutAt K H5 Hb o cds gw sds dv := fun {o cds sds gw dv Ha Hb} ob k ⟨dx, c, g, s, h, r1, r2, r3⟩ =>
    ⟨dx, c, g, s, k.at1 h ob, r1.keep k b5, r2.keep k b5, r3.keep k b5⟩
  have o2b : o2 ≠ b := fun z => bag7.some (by rw [← z]; exact no2)
  have dom5 : ∀ a, H8 a = none → H5 a = none := fun a h => k6.dom _ (k7.dom _ (k8.dom _ h))
  have G : G11 K Hs H5 H10 o1 o2 cl gl ml cxs gxs mxs cs cs2 gv gv2 mds mds2 deep ((csD cs).eqv (csD cs2) && (giftsD gv).eqv (giftsD gv2)) :=
    { oa1 := keepO o1b k610 oa1
      oa2 := (oa2.old dom5).same k10
      ne := fun z => by
        obtain ⟨dx, c, g, s, h, _⟩ := oa1
        rw [z, no26] at h
        cases h
      edue := rfl
      hc := hc10
      imc := imc.im k010
      okc := okc
      hg := hg10
      rg := rg10.mono fun a s => ⟨fun h => s.2.1 (k05.dom _ h), s.2.2⟩
      okg := okg
      hm := k610.at1 (k6.at1 (k5.at hml4) (fun z => by rw [z, no1] at hml4; cases hml4)) mb
      imm := ((imm4.im k5).im k6).im k610
      okm := okm
      c0 := by rw [k05.at1 hc cb]; exact fun z => by cases z
      g0 := by rw [k05.at1 hg gb]; exact fun z => by cases z
      m0 := by rw [k5.at hml4]; exact fun z => by cases z
      d0 := fun a h => k6.dom _ (k610.dom _ h)
      ks := ks.one k010 bs0
      cs0 := cs0
      gs0 := gs0
      ms0 := ks.dom _ nml }
  have ed : (PyData.tuple [csD cs, giftsD gv]).eqv (.tuple [csD cs2, giftsD gv2]) = ((csD cs).eqv (csD cs2) && (giftsD gv).eqv (giftsD gv2)) := by
    show ((csD cs).eqv (csD cs2) && ((giftsD gv).eqv (giftsD gv2) && true)) = _
    rw [Bool.and_true]
  rw [ed]
  exact good_10 CF G q
end
end
section
def sp__law_good11 (K : PySem.W.Frag) : Sp := fun vs H Q _ => ∃ c k : Int, vs = [.int c, .int k] ∧ 0 ≤ k ∧ k ≤ 1000 ∧ ∀ H', Chg [] H H' → Q (.bl true) H'
def t__law_good11 (K : PySem.W.Frag) : TS :=
    tSeq (tAsg (tCall sp__law_well [] E0 (tCons (tVar 0) (tCons (tVar 1) (tNil)))) (gName 2))
    (tSeq (tAsg (tCall sp__law_draw [] E0 (tCons (tVar 2) (tCons (tC (.int 3)) (tNil)))) (gName 3))
    (tSeq (tAsg (tCall (sp__law_things K) [] E0 (tCons (tVar 2) (tNil))) (gTup K 2 (gCons (gName 4) (gCons (gName 5) (gNil)))))
    (tSeq (tAsg (tTup (tCons (tLc (iList K (tVar 4)) (gName 15) (tYes) (tVar 15) [15]) (tCons (tLc (iList K (tVar 5)) (gTup K 2 (gCons (gName 16) (gCons (gName 14) (gNil)))) (tYes) (tTup (tCons (tVar 16) (tCons (tCB (cListQ K) (tCons (tVar 14) (tNil))) (tNil)))) [16, 14]) (tNil)))) (gName 6))
    (tSeq (tIfS (tTest (tOp oGt (tVar 3) (tC (.int 0)))) (tAsg (tCall (sp__law_turned11 K) [] E0 (tCons (tVar 2) (tCons (tVar 4) (tCons (tVar 5) (tNil))))) (gName 6)) (tNext))
    (tSeq (tAsg (tCall sp__law_marks [] E0 (tCons (tVar 2) (tNil))) (gName 7))
    (tSeq (tAsg (tCall sp__law_draw [] E0 (tCons (tVar 2) (tCons (tOp (rIxL K) (tLst (tCons (tC (.int 9)) (tCons (tOp oPow (tC (.int 10)) (tC (.int 20))) (tNil)))) (tOp oFdiv (tCall sp__law_draw [] E0 (tCons (tVar 2) (tCons (tC (.int 3)) (tNil)))) (tC (.int 2)))) (tNil)))) (gName 8))
    (tSeq (tAsg (tMake (He.ga K "Outcome") (sp_Outcome___init__ K) [] E0 (tCons (tVar 4) (tCons (tVar 5) (tCons (tVar 7) (tCons (tVar 8) (tNil)))))) (gName 9))
    (tSeq (tAsg (tMake (He.ga K "Outcome") (sp_Outcome___init__ K) [] E0 (tCons (tOp (rIxT K) (tVar 6) (tC (.int 0))) (tCons (tOp (rIxT K) (tVar 6) (tC (.int 1))) (tCons (tCall sp__law_marks [] E0 (tCons (tVar 2) (tNil))) (tCons (tC (.int 3)) (tNil)))))) (gName 10))
    (tSeq (tAsg (tOp oEqD (tTup (tCons (tVar 4) (tCons (tVar 5) (tNil)))) (tVar 6)) (gName 11))
    (tSeq (tIfS (tOr (tTest (tOp rNe (tOp (oEqI (He.ga K "Outcome") (sp_Outcome___eq__11 K)) (tVar 9) (tVar 10)) (tVar 11))) (tOr (tTest (tOp rNe (tOp (oEqI (He.ga K "Outcome") (sp_Outcome___eq__11 K)) (tVar 10) (tVar 9)) (tVar 11))) (tOr (tTest (tOp rEq (tOp (oNeI (He.ga K "Outcome") (sp_Outcome___eq__11 K)) (tVar 9) (tVar 10)) (tVar 11))) (tTest (tOp rNe (tOp (oInI (He.ga K "Outcome") (sp_Outcome___eq__11 K)) (tVar 10) (tLst (tCons (tVar 9) (tNil)))) (tVar 11)))))) (tRet (tC (.bl false))) (tNext))
    (tSeq (tFor (iList K (tLst (tCons (tC .non) (tCons (tC (.int 0)) (tCons (tVar 4) (tCons (tTup (tCons (tVar 4) (tCons (tVar 5) (tNil)))) (tCons (tCB (cReprI (He.ga K "Outcome") (sp_Outcome___repr__ K)) (tCons (tVar 9) (tNil))) (tCons (tDNewK) (tNil))))))))) (gName 12) (tIfS (tOr (tTest (tOp (oEqX (He.ga K "Outcome") (sp_Outcome___eq__11 K)) (tVar 9) (tVar 12))) (tNot (tTest (tOp (oNeX (He.ga K "Outcome") (sp_Outcome___eq__11 K)) (tVar 9) (tVar 12))))) (tRet (tC (.bl false))) (tNext)))
    (tSeq (tIfS (tOr (tTest (tOp rNe (tCB (cReprI (He.ga K "Outcome") (sp_Outcome___repr__ K)) (tCons (tVar 9) (tNil))) (tOp oAddS (tOp oAddS (tOp oAddS (tOp oAddS (tC (.str "Outcome(")) (tCB rStrD (tCons (tVar 4) (tNil)))) (tC (.str ", "))) (tCB rStrD (tCons (tVar 5) (tNil)))) (tC (.str ")"))))) (tTest (tOp rNe (tCB (cLenI (He.ga K "Outcome") (sp_Outcome___len__ K)) (tCons (tVar 9) (tNil))) (tCB (cLenQ K) (tCons (tVar 7) (tNil)))))) (tRet (tC (.bl false))) (tNext))
    (tSeq (tAsg (tLst (tCons (tCB (cListQ K) (tCons (tVar 4) (tNil))) (tCons (tLc (iList K (tVar 5)) (gTup K 2 (gCons (gName 16) (gCons (gName 14) (gNil)))) (tYes) (tTup (tCons (tVar 16) (tCons (tCB (cListQ K) (tCons (tVar 14) (tNil))) (tNil)))) [16, 14]) (tCons (tCB (cListQ K) (tCons (tVar 7) (tNil))) (tNil))))) (gName 13))
    (tSeq (tFor (iList K (tOp rCat (tLst (tCons (tVar 4) (tCons (tVar 7) (tCons (tVar 5) (tNil))))) (tLc (iList K (tVar 5)) (gTup K 2 (gCons (gName 16) (gCons (gName 14) (gNil)))) (tYes) (tVar 14) [16, 14]))) (gName 14) (tDrop (tBM K "list" rAppend (tVar 14) (tCons (tTup (tCons (tC (.int 7)) (tCons (tC (.int 7)) (tNil)))) (tNil)))))
    (tSeq (tIfS (tOr (tTest (tOp oNeD (tLst (tCons (tFld K (tVar 9) "deepest") (tCons (tFld K (tVar 10) "deepest") (tNil)))) (tLst (tCons (tVar 8) (tCons (tC (.int 3)) (tNil)))))) (tTest (tOp rNe (tOp (oEqI (He.ga K "Outcome") (sp_Outcome___eq__11 K)) (tVar 9) (tVar 10)) (tVar 11)))) (tRet (tC (.bl false))) (tNext))
    (tRet (tAndV (tOp (oEqI (He.ga K "Outcome") (sp_Outcome___eq__11 K)) (tVar 9) (tVar 9)) (tOp oEqD (tLst (tCons (tFld K (tVar 9) "cells") (tCons (tFld K (tVar 9) "given") (tCons (tFld K (tVar 9) "steps") (tNil))))) (tVar 13)))))))))))))))))))
theorem pure__law_good11 {K : PySem.W.Frag} (CF : COs K) (vs : List V) (H : Hp) (Q : VK) (E : XK) (h : sp__law_good11 K vs H Q E) : t__law_good11 K (fin Q) (start ["cell", "k", "well", "pick", "cells", "given", "other", "marks", "deep", "one", "two", "due", "thing", "before", "row", "pair", "name"] vs) H := by
  obtain ⟨c, k, rfl, k0, kh, q⟩ := h
  show t__law_good11 K _ [some (.int c), some (.int k), none, none, none, none, none, none, none, none, none, none, none, none, none, none, none] H
  unfold t__law_good11
  walk_at "w"
  refine ⟨c, k, rfl, k0, by omega, fun b H1 nb k1 bag1 => ?_⟩
  walk_at "w"
  refine u_draw bag1 (by decide) (by decide) (by decide) fun z H2 k2 bag2 z0 z1 => ?_
  walk_at "w"
  refine ⟨b, 10 ^ 12 - 1, rfl, bag2, by decide, fun T cl gl cxs cs gv H3 k3 bag3 hT ncl hcl imc ngl gc rg lc okc lg okg rl => ?_⟩
  cases rg with
  | @lst _ gxs _ sg hgl rgs =>
  have k02 : Chg [] H H2 := k1.one k2 nb
  have b2 := bag2.some
  have clb : cl ≠ b := fun e => b2 (by rw [← e]; exact ncl)
  have glb : gl ≠ b := fun e => b2 (by rw [← e]; exact ngl)
  have k03 : Chg [] H H3 := k02.one k3 nb
  have far : ∀ a, (H2 a = none ∧ a ≠ cl) → a ∉ [b] := fun a h m => b2 (by rw [← List.mem_singleton.mp m]; exact h.1)
  have lcx : cxs.length ≤ 10 := by rw [imc.length, List.length_map]; exact lc
  have cp : ∀ (Hx : Hp) (Qx : VK), Chg [] H3 Hx → (∀ (L : Addr) (ys : List V) (H' : Hp), Hx L = none → Chg [] Hx H' → H' L = some (.lst ys) → RA (fun a => Hx a = none ∧ a ≠ L) H' ys (gv.map giftD) → Qx (.ref L) H') →
      (tLc (iList K (tVar 5)) (gTup K 2 (gCons (gName 16) (gCons (gName 14) gNil))) tYes (tTup (tCons (tVar 16) (tCons (tCB (cListQ K) (tCons (tVar 14) tNil)) tNil))) [16, 14]) [some (.int c), some (.int k), some (.ref b), some (.int z), some (.ref cl), some (.ref gl), none, none, none, none, none, none, none, none, none, none, none] Hx Qx := fun Hx Qx e w => comp_gv (e.at hgl) (rgs.same e) (by omega) w
  generalize hce : (tLc (iList K (tVar 5)) (gTup K 2 (gCons (gName 16) (gCons (gName 14) gNil))) tYes (tTup (tCons (tVar 16) (tCons (tCB (cListQ K) (tCons (tVar 14) tNil)) tNil))) [16, 14]) = comp at cp ⊢
  walk_at "w"
  refine w_lcP (walk_list (K := K) (a := cl) (xs := cxs)) [] (fun _ _ => True) (fun i y _ => cxs[i]? = some y) trivial (fun _ _ _ _ _ _ _ => trivial) (fun H5 e => sqL (e.at hcl)) (fun D i acc x H5 H6 hi nD hD el iv e5 _ y => ?_) (fun D acc H4 nD k4 _ el hD ys => ?_)
  · obtain ⟨rfl, ex⟩ := y
    walk_at "w"
    exact lcp_end (fun _ _ _ _ _ _ _ => trivial) (fun _ _ _ _ _ _ _ h => h) nD (fun a ha => by cases ha) hD el (by omega) iv .refl trivial ex
  have eacc : acc = cxs := by
    apply List.ext_getElem?
    intro i
    by_cases hi : i < acc.length
    · rw [ys i acc[i] (List.getElem?_eq_getElem hi), List.getElem?_eq_getElem hi]
    · rw [List.getElem?_eq_none (by omega), List.getElem?_eq_none (by rw [← show acc.length = cxs.length from el]; omega)]
  subst eacc
  refine cp H4 _ k4 fun L ys2 H5 nL k5 hL rL => ?_
  walk_at "w"
  refine k_tup (by walk_at "sz") fun p6 H6 np6 k6 hp6 => ?_
  have k36 : Chg [] H3 H6 := (k4.same k5).same k6
  have k06 : Chg [] H H6 := k03.same k36
  have bag6 := bag3.same k36
  have rgK : ∀ {Hx : Hp}, Chg [b] H3 Hx → RA (fun a => a ≠ b ∧ Hx a ≠ none ∧ H a = none) Hx gxs (gv.map giftD) := fun {Hx} e =>
    RA.imp (fun a xs s e => ⟨⟨fun y => b2 (by rw [← y]; exact s.1), (by rw [e]; exact fun y => by cases y), k02.dom _ s.1⟩, e⟩) (fun a xs s e => ⟨⟨fun y => b2 (by rw [← y]; exact s.1), (by rw [e]; exact fun y => by cases y), k02.dom _ s.1⟩, e⟩) (fun a xs e => e) (rgs.keep e far)
  have c36 : Chg [b] H3 H6 := (Chg.refl (M := [b])).same k36
  have cs0 : H cl = none := k02.dom _ ncl
  have gs0 : H gl = none := k02.dom _ ngl
  have n3 : H3 L = none := k4.dom _ nL
  walk_at "w"
  refine w_iteD (fun hz => ?_) (fun hz => ?_)
  · walk_at "w"
    refine ⟨b, cl, gl, _, gxs, cs, gv, _, rfl, bag6, by decide, k36.at hcl, clb, imc.im k36, lc, okc, k36.at hgl, glb, (rgK c36).mono fun a s => s.1, lg, fun g hg => ⟨⟨okg.names g hg, okg.rows g hg⟩, rl g hg⟩, fun T2 cl2 gl2 cxs2 gxs2 cs2 gv2 H7 k7 bag7 hT2 c2b hc2 imc2 okc2 g2b hg2 rg2 okg2 => ?_⟩
    have c37 : Chg [b] H3 H7 := k36.pre k7
    subst hce
    change t__law_good_5 K (fin Q) [some (.int c), some (.int k), some (.ref b), some (.int z), some (.ref cl), some (.ref gl), some (.ref T2), none, none, none, none, none, none, none, none, none, none] H7
    exact good_5 CF bag7 (by decide) (c37.at1 hcl clb) clb (imc.im c37) okc (c37.at1 hgl glb) glb (rgK c37) okg hT2 hc2 c2b imc2 hg2 g2b rg2 okg2 (k06.one k7 nb) nb cs0 gs0 q
  · refine w_next ?_
    have n3b : ∀ a, H3 a = none → a ≠ b := fun a h y => bag3.some (by rw [← y]; exact h)
    subst hce
    change t__law_good_5 K (fin Q) [some (.int c), some (.int k), some (.ref b), some (.int z), some (.ref cl), some (.ref gl), some (.ref p6), none, none, none, none, none, none, none, none, none, none] H6
    exact good_5 CF bag6 (by decide) (k36.at hcl) clb (imc.im k36) okc (k36.at hgl) glb (rgK c36) okg hp6 (k6.at (k5.at hD)) (n3b _ nD) (imc.im k36) (k6.at hL) (n3b _ n3) ((rL.same k6).mono fun a h => n3b _ (k4.dom _ h.1)) okg k06 nb cs0 gs0 q
def sp_law (K : PySem.W.Frag) : Sp := fun vs H Q _ => ∃ (a : Addr) (ns : List Int), vs = [.ref a] ∧ SqL K H a (ns.map V.int) ∧ ns.length ≤ 63 ∧ ∀ H', Q (.bl true) H'
def t_law (K : PySem.W.Frag) : TS :=
    tSeq (tFor (iRng1 (tCons (tCB cMax (tCons (tC (.int 1)) (tCons (tCB cMin (tCons (tC (.int 12)) (tCons (tCB (cLenQ K) (tCons (tVar 0) (tNil))) (tNil)))) (tNil)))) (tNil))) (gName 1) (tIfS (tNot (tB (tCall (sp__law_good11 K) [] E0 (tCons (tCall (sp__law_cell_at K) [] E0 (tCons (tVar 0) (tCons (tVar 1) (tNil)))) (tCons (tVar 1) (tNil)))))) (tRet (tC (.bl false))) (tNext)))
    (tRet (tC (.bl true)))
theorem pure_law {K : PySem.W.Frag} (vs : List V) (H : Hp) (Q : VK) (E : XK) (h : sp_law K vs H Q E) : t_law K (fin Q) (start ["script", "k"] vs) H := by
  obtain ⟨a, ns, rfl, hS, hlen, q⟩ := h
  show t_law K _ [some (.ref a), none] H
  unfold t_law
  walk_at "w"
  rw [List.length_map]
  generalize em : (if (if (ns.length : Int) < 12 then (ns.length : Int) else 12) > 1 then (if (ns.length : Int) < 12 then (ns.length : Int) else 12) else 1) = m
  have hm : 1 ≤ m ∧ m ≤ 12 := by
    rw [← em]
    split <;> split <;> omega
  walk_at "w"
  refine for_it walk_range (fun i σ H1 => Chg [] H H1 ∧ ∃ z1, σ = [some (.ref a), z1]) ⟨.refl, _, rfl⟩ (fun _ _ _ _ _ => trivial) (fun i x σ H1 H2 hi p y => ?_) (fun σ H1 p => ?_)
  · obtain ⟨c1, z1, rfl⟩ := p
    obtain ⟨rfl, rfl⟩ := y
    walk_at "w"
    refine ⟨a, ns, 0 + (i : Nat), rfl, c1.seq hS, by omega, fun c => ?_⟩
    walk_at "w"
    refine ⟨c, 0 + (i : Nat), rfl, by omega, by omega, fun H3 k3 => ?_⟩
    walk_at "w"
    exact ⟨c1.same k3, _, rfl⟩
  · obtain ⟨c1, z1, rfl⟩ := p
    walk_at "w"
    exact q H1
end
end Fg
namespace Fg
open PySem PySem.Spec PyProof.Rows L2
local macro_rules | `(tactic| walk_at "len") => `(tactic| first | exact (fun ⟨e, _⟩ => by rw [e]; rfl) | (refine exL ?_; intro _; walk_at "len"))
theorem sc__law_cell_at : FnScope ["script", "k"] ["script", "k"] (defScope s__law_cell_at) := ⟨rfl, rfl, rfl, by decide +kernel, rfl, by decide +kernel, by decide +kernel⟩
theorem sc__law_stir : FnScope ["seed", "turn", "number"] ["seed", "turn"] (defScope s__law_stir) := ⟨rfl, rfl, rfl, by decide +kernel, rfl, by decide +kernel, by decide +kernel⟩
theorem sc__law_well : FnScope ["cell", "k", "seed"] ["cell", "k"] (defScope s__law_well) := ⟨rfl, rfl, rfl, by decide +kernel, rfl, by decide +kernel, by decide +kernel⟩
theorem sc__law_draw : FnScope ["well", "many", "taken"] ["well", "many"] (defScope s__law_draw) := ⟨rfl, rfl, rfl, by decide +kernel, rfl, by decide +kernel, by decide +kernel⟩
theorem sc__law_new_name : FnScope ["well", "names", "letters", "pick", "letter", "name", "old", "at", "some", "k", "one"] ["well", "names"] (defScope s__law_new_name) := ⟨rfl, rfl, rfl, by decide +kernel, rfl, by decide +kernel, by decide +kernel⟩
theorem sc__law_number : FnScope ["well", "pick"] ["well"] (defScope s__law_number) := ⟨rfl, rfl, rfl, by decide +kernel, rfl, by decide +kernel, by decide +kernel⟩
theorem sc__law_things : FnScope ["well", "wide", "cells", "k", "given", "names", "j"] ["well"] (defScope s__law_things) := ⟨rfl, rfl, rfl, by decide +kernel, rfl, by decide +kernel, by decide +kernel⟩
theorem sc__law_numbers_turned : FnScope ["well", "row", "pick", "at", "more"] ["well", "row"] (defScope s__law_numbers_turned) := ⟨rfl, rfl, rfl, by decide +kernel, rfl, by decide +kernel, by decide +kernel⟩
theorem sc__law_turned : FnScope ["well", "cells", "given", "pick", "at", "cell", "number", "row", "name"] ["well", "cells", "given"] (defScope s__law_turned) := ⟨rfl, rfl, rfl, by decide +kernel, rfl, by decide +kernel, by decide +kernel⟩
theorem sc__law_marks : FnScope ["well", "k"] ["well"] (defScope s__law_marks) := ⟨rfl, rfl, rfl, by decide +kernel, rfl, by decide +kernel, by decide +kernel⟩
theorem sc__law_good : FnScope ["cell", "k", "well", "pick", "cells", "given", "other", "marks", "deep", "one", "two", "due", "thing", "before", "row", "pair", "name"] ["cell", "k"] (defScope s__law_good) := ⟨rfl, rfl, rfl, by decide +kernel, rfl, by decide +kernel, by decide +kernel⟩
theorem sc_law : FnScope ["script", "k"] ["script"] (defScope s_law) := ⟨rfl, rfl, rfl, by decide +kernel, rfl, by decide +kernel, by decide +kernel⟩
structure Gm (w : World) (K : PySem.W.Frag) (mg : Str → Option Value) (dP : Addr) (es : Array DictEntry) (nn : Nat) : Prop where
  range : mg "range" = none
  list : mg "list" = none
  len : mg "len" = none
  sorted : mg "sorted" = none
  repr : mg "repr" = none
  max : mg "max" = none
  isinstance : mg "isinstance" = none
  min : mg "min" = none
  Outcome : mg "Outcome" = some (.ref (He.ga K "Outcome"))

  DS_Outcome : dsB K (He.ga K "Outcome") = true
section
variable {P : Program} {w : World} {K : PySem.W.Frag} {mg : Str → Option Value} {base : Heap} {dP : Addr} {es : Array DictEntry} {nn : Nat} {f : Addr} {fd : FuncData}
theorem ok__law_cell_at (F : FnP K "_law_cell_at" s__law_cell_at [] f fd) (G : Gm w K mg dP es nn)  : FnOk P w K mg base CX0 1 f fd ["script", "k"] (sp__law_cell_at K) :=
  FnP.go (k := 0) F sc__law_cell_at (fun vs H Q E => by first | (unfold sp__law_cell_at; walk_at "len") | walk_at "len") (t__law_cell_at K) (fun vs H Q E h => pure__law_cell_at (K := K) vs H Q E h) fun cdv A outer s H E hr =>
    (pss_cons (ps_if (pt_cmpR p_lt (pv 1) (pe_callB p_lenQ (by rfl) G.len (by decide +kernel) (pa_cons (pv 0) pa_nil)) (nomark _)) (pss_one (ps_ret (pe_ix ix_list (pv 0) (pv 1) (fun _ _ => rfl)))) pss_nil)
      (pss_one (ps_ret pe_int)))
theorem ok__law_stir (F : FnP K "_law_stir" s__law_stir [] f fd) (G : Gm w K mg dP es nn)  : FnOk P w K mg base CX0 1 f fd ["seed", "turn"] sp__law_stir :=
  FnP.go (k := 0) F sc__law_stir (fun vs H Q E => by first | (unfold sp__law_stir; walk_at "len") | walk_at "len") (t__law_stir) (fun vs H Q E h => pure__law_stir (K := K) vs H Q E h) fun cdv A outer s H E hr =>
    (pss_cons (ps_set (i := 2) sc__law_stir.nd rfl (by first | exact Or.inl rfl | exact Or.inr rfl) (pe_op p_add (pe_op p_mulW (pe_op p_add (pv 0) pe_int) pe_int) (pe_op p_mulW (pe_op p_add (pv 1) pe_int) pe_int)))
      (pss_one (ps_ret (pe_op p_mod (pe_op p_pow (pv 2) pe_int) pe_int))))
theorem ok__law_well (F : FnP K "_law_well" s__law_well [] f fd) (G : Gm w K mg dP es nn) (c__law_stir : Cal P w K mg base 1 "_law_stir" sp__law_stir []) : FnOk P w K mg base CX0 2 f fd ["cell", "k"] sp__law_well :=
  FnP.go (k := 1) F sc__law_well (fun vs H Q E => by first | (unfold sp__law_well; walk_at "len") | walk_at "len") (t__law_well) (fun vs H Q E h => pure__law_well (K := K) vs H Q E h) fun cdv A outer s H E hr =>
    (pss_cons (ps_set (i := 2) sc__law_well.nd rfl (by first | exact Or.inl rfl | exact Or.inr rfl) (pe_op p_add (pe_op p_mul (pe_op p_mod (pv 0) pe_int) pe_int) (pv 1)))
      (pss_cons (ps_if (pt_cmpR p_ge (pv 0) (pe_op p_pow pe_int pe_int) (nomark _)) (pss_one (ps_ret (pe_lst (pa_cons (pe_op p_sub (pv 0) (pe_op p_pow pe_int pe_int)) (pa_cons (pv 2) (pa_cons pe_int pa_nil)))))) pss_nil)
      (pss_one (ps_ret (pe_lst (pa_cons (pe_c c__law_stir hr (by omega) (by rfl) (pa_cons (pv 2) (pa_cons pe_int pa_nil))) (pa_cons (pv 2) (pa_cons pe_int pa_nil))))))))
theorem ok__law_draw (F : FnP K "_law_draw" s__law_draw [] f fd) (G : Gm w K mg dP es nn) (c__law_stir : Cal P w K mg base 1 "_law_stir" sp__law_stir []) : FnOk P w K mg base CX0 2 f fd ["well", "many"] sp__law_draw :=
  FnP.go (k := 1) F sc__law_draw (fun vs H Q E => by first | (unfold sp__law_draw; walk_at "len") | walk_at "len") (t__law_draw K) (fun vs H Q E h => pure__law_draw (K := K) vs H Q E h) fun cdv A outer s H E hr =>
    (pss_cons (ps_if (pt_cmpR op_eq (pe_ix ix_list (pv 0) pe_int (fun _ _ => rfl)) pe_int (nomark _)) (pss_cons (ps_asg (pe_op p_add (pe_ix ix_list (pv 0) pe_int (fun _ _ => rfl)) pe_int) (pg_sub (pv 0) pe_int set_list))
      (pss_one (ps_asg (pe_c c__law_stir hr (by omega) (by rfl) (pa_cons (pe_ix ix_list (pv 0) pe_int (fun _ _ => rfl)) (pa_cons (pe_ix ix_list (pv 0) pe_int (fun _ _ => rfl)) pa_nil))) (pg_sub (pv 0) pe_int set_list)))) pss_nil)
      (pss_cons (ps_set (i := 2) sc__law_draw.nd rfl (by first | exact Or.inl rfl | exact Or.inr rfl) (pe_op p_mod (pe_ix ix_list (pv 0) pe_int (fun _ _ => rfl)) (pv 1)))
      (pss_cons (ps_asg (pe_op p_fdiv (pe_ix ix_list (pv 0) pe_int (fun _ _ => rfl)) (pv 1)) (pg_sub (pv 0) pe_int set_list))
      (pss_one (ps_ret (pv 2))))))
theorem ok__law_new_name (F : FnP K "_law_new_name" s__law_new_name [] f fd) (G : Gm w K mg dP es nn) (c__law_draw : Cal P w K mg base 2 "_law_draw" sp__law_draw []) : FnOk P w K mg base CX0 3 f fd ["well", "names"] (sp__law_new_name K) :=
  FnP.go (k := 2) F sc__law_new_name (fun vs H Q E => by first | (unfold sp__law_new_name; walk_at "len") | walk_at "len") (t__law_new_name K) (fun vs H Q E h => pure__law_new_name (K := K) vs H Q E h) fun cdv A outer s H E hr =>
    (pss_cons (ps_set (i := 2) sc__law_new_name.nd rfl (by first | exact Or.inl rfl | exact Or.inr rfl) pe_str)
      (pss_cons (ps_set (i := 3) sc__law_new_name.nd rfl (by first | exact Or.inl rfl | exact Or.inr rfl) (pe_c c__law_draw hr (by omega) (by rfl) (pa_cons (pv 0) (pa_cons pe_int pa_nil))))
      (pss_cons (ps_set (i := 4) sc__law_new_name.nd rfl (by first | exact Or.inl rfl | exact Or.inr rfl) (pe_ix ix_str (pv 2) (pe_c c__law_draw hr (by omega) (by rfl) (pa_cons (pv 0) (pa_cons pe_int pa_nil))) (fun _ _ => rfl)))
      (pss_cons (ps_set (i := 5) sc__law_new_name.nd rfl (by first | exact Or.inl rfl | exact Or.inr rfl) (pe_join pe_str (pe_lc (own := [("k", 9)]) (g := gName 9) (tt := tYes) (by rfl) sc__law_new_name.nd (pi_range1 (by rfl) G.range (pa_cons (pe_op p_add pe_int (pe_c c__law_draw hr (by omega) (by rfl) (pa_cons (pv 0) (pa_cons pe_int pa_nil)))) pa_nil)) (blkOk_by (own := [("k", 9)]) (N := ["well", "names", "letters", "pick", "letter", "name", "old", "at", "some", "k", "one"]) (sc := defScope s__law_new_name) (by decide +kernel)) (fun _ _ _ _ _ => (pg_name (i := 9) sc__law_new_name.nd rfl (by first | exact Or.inl rfl | exact Or.inr rfl))) (fun _ _ _ _ _ => pts_nil) (fun _ _ _ _ _ => (pe_ix ix_str (pv 2) (pe_c c__law_draw hr (by omega) (by rfl) (pa_cons (pv 0) (pa_cons pe_int pa_nil))) (fun _ _ => rfl))))))
      (pss_cons (ps_if (PW.pt (pw_and (pt_cmpR p_gt (pv 3) pe_int (nomark _)) (pw_and1 (pt_cmpR (p_neE hr.units) (pv 1) (pe_lst pa_nil) (nomark _))))) (pss_cons (ps_set (i := 6) sc__law_new_name.nd rfl (by first | exact Or.inl rfl | exact Or.inr rfl) (pe_ix ix_list (pv 1) (pe_c c__law_draw hr (by omega) (by rfl) (pa_cons (pv 0) (pa_cons (pe_callB p_lenQ (by rfl) G.len (by decide +kernel) (pa_cons (pv 1) pa_nil)) pa_nil))) (fun _ _ => rfl)))
      (pss_cons (ps_set (i := 7) sc__law_new_name.nd rfl (by first | exact Or.inl rfl | exact Or.inr rfl) (pe_c c__law_draw hr (by omega) (by rfl) (pa_cons (pv 0) (pa_cons (pe_op p_add (pe_callB p_lenS (by rfl) G.len (by decide +kernel) (pa_cons (pv 6) pa_nil)) pe_int) pa_nil))))
      (pss_one (ps_set (i := 5) sc__law_new_name.nd rfl (by first | exact Or.inl rfl | exact Or.inr rfl) (pe_slice sl_str (pe_op p_addS (pe_op p_addS (pe_slice sl_str (pv 6) po_none (po_some (pv 7))) (pv 4)) (pe_slice sl_str (pv 6) (po_some (pe_op p_sub (pe_op p_add (pv 7) (pv 3)) pe_int)) po_none)) po_none (po_some pe_int)))))) pss_nil)
      (pss_cons (ps_set (i := 8) sc__law_new_name.nd rfl (by first | exact Or.inl rfl | exact Or.inr rfl) (pe_op op_cat (pe_op op_cat (pe_lst (pa_cons (pv 5) pa_nil)) (pe_lc (own := [("k", 9)]) (g := gName 9) (tt := tYes) (by rfl) sc__law_new_name.nd (pi_range1 (by rfl) G.range (pa_cons pe_int pa_nil)) (blkOk_by (own := [("k", 9)]) (N := ["well", "names", "letters", "pick", "letter", "name", "old", "at", "some", "k", "one"]) (sc := defScope s__law_new_name) (by decide +kernel)) (fun _ _ _ _ _ => (pg_name (i := 9) sc__law_new_name.nd rfl (by first | exact Or.inl rfl | exact Or.inr rfl))) (fun _ _ _ _ _ => pts_nil) (fun _ _ _ _ _ => (pe_ix ix_str (pv 2) (pv 9) (fun _ _ => rfl))))) (pe_lc (own := [("k", 9)]) (g := gName 9) (tt := tYes) (by rfl) sc__law_new_name.nd (pi_range1 (by rfl) G.range (pa_cons pe_int pa_nil)) (blkOk_by (own := [("k", 9)]) (N := ["well", "names", "letters", "pick", "letter", "name", "old", "at", "some", "k", "one"]) (sc := defScope s__law_new_name) (by decide +kernel)) (fun _ _ _ _ _ => (pg_name (i := 9) sc__law_new_name.nd rfl (by first | exact Or.inl rfl | exact Or.inr rfl))) (fun _ _ _ _ _ => pts_nil) (fun _ _ _ _ _ => (pe_op p_addS (pe_ix ix_str (pv 2) (pv 9) (fun _ _ => rfl)) (pe_ix ix_str (pv 2) (pv 9) (fun _ _ => rfl)))))))
      (pss_one (ps_ret (pe_ix ix_list (pe_lc (own := [("one", 10)]) (g := gName 10) (tt := tTest (tOp (rIn K true) (tVar 10) (tVar 1))) (by rfl) sc__law_new_name.nd (pi_list (pv 8)) (blkOk_by (own := [("one", 10)]) (N := ["well", "names", "letters", "pick", "letter", "name", "old", "at", "some", "k", "one"]) (sc := defScope s__law_new_name) (by decide +kernel)) (fun _ _ _ _ _ => (pg_name (i := 10) sc__law_new_name.nd rfl (by first | exact Or.inl rfl | exact Or.inr rfl))) (fun _ _ _ _ _ => (pts_one (pt_cmpR op_notIn_seq (pv 10) (pv 1) (by rfl)))) (fun _ _ _ _ _ => (pv 10))) pe_int (fun _ _ => rfl))))))))))
theorem ok__law_number (F : FnP K "_law_number" s__law_number [] f fd) (G : Gm w K mg dP es nn) (c__law_draw : Cal P w K mg base 2 "_law_draw" sp__law_draw []) : FnOk P w K mg base CX0 3 f fd ["well"] sp__law_number :=
  FnP.go (k := 2) F sc__law_number (fun vs H Q E => by first | (unfold sp__law_number; walk_at "len") | walk_at "len") (t__law_number) (fun vs H Q E h => pure__law_number (K := K) vs H Q E h) fun cdv A outer s H E hr =>
    (pss_cons (ps_set (i := 1) sc__law_number.nd rfl (by first | exact Or.inl rfl | exact Or.inr rfl) (pe_c c__law_draw hr (by omega) (by rfl) (pa_cons (pv 0) (pa_cons pe_int pa_nil))))
      (pss_cons (ps_if (pt_cmpR p_lt (pv 1) pe_int (nomark _)) (pss_one (ps_ret (pe_c c__law_draw hr (by omega) (by rfl) (pa_cons (pv 0) (pa_cons pe_int pa_nil))))) pss_nil)
      (pss_cons (ps_if (pt_cmpR p_lt (pv 1) pe_int (nomark _)) (pss_one (ps_ret (pe_op p_sub (pe_c c__law_draw hr (by omega) (by rfl) (pa_cons (pv 0) (pa_cons pe_int pa_nil))) pe_int))) pss_nil)
      (pss_one (ps_ret (pe_op p_add (pe_op p_sub (pe_c c__law_draw hr (by omega) (by rfl) (pa_cons (pv 0) (pa_cons (pe_op p_sub (pe_op p_mul pe_int (pe_op p_pow pe_int pe_int)) pe_int) pa_nil))) (pe_op p_pow pe_int pe_int)) pe_int))))))
theorem ok__law_things (F : FnP K "_law_things" s__law_things [] f fd) (G : Gm w K mg dP es nn) (c__law_draw : Cal P w K mg base 2 "_law_draw" sp__law_draw []) (c__law_number : Cal P w K mg base 3 "_law_number" sp__law_number []) (c__law_new_name : Cal P w K mg base 3 "_law_new_name" (sp__law_new_name K) []) : FnOk P w K mg base CX0 4 f fd ["well"] (sp__law_things K) :=
  FnP.go (k := 3) F sc__law_things (fun vs H Q E => by first | (unfold sp__law_things; walk_at "len") | walk_at "len") (t__law_things K) (fun vs H Q E h => pure__law_things (K := K) vs H Q E h) fun cdv A outer s H E hr =>
    (pss_cons (ps_set (i := 1) sc__law_things.nd rfl (by first | exact Or.inl rfl | exact Or.inr rfl) (pe_ix ix_list (pe_lst (pa_cons pe_int (pa_cons pe_int pa_nil))) (pe_op p_fdiv (pe_c c__law_draw hr (by omega) (by rfl) (pa_cons (pv 0) (pa_cons pe_int pa_nil))) pe_int) (fun _ _ => rfl)))
      (pss_cons (ps_set (i := 2) sc__law_things.nd rfl (by first | exact Or.inl rfl | exact Or.inr rfl) pe_dnewK)
      (pss_cons (ps_for PassesOwn.never rfl (pi_range1 (by rfl) G.range (pa_cons (pe_c c__law_draw hr (by omega) (by rfl) (pa_cons (pv 0) (pa_cons (pv 1) pa_nil))) pa_nil)) (pg_name (i := 3) sc__law_things.nd rfl (by first | exact Or.inl rfl | exact Or.inr rfl)) (pss_one (ps_dput (hu_of hr) (pv 2) (pe_c c__law_number hr (by omega) (by rfl) (pa_cons (pv 0) pa_nil)) (pe_c c__law_number hr (by omega) (by rfl) (pa_cons (pv 0) pa_nil)) rfl)))
      (pss_cons (ps_set (i := 4) sc__law_things.nd rfl (by first | exact Or.inl rfl | exact Or.inr rfl) pe_dnewK)
      (pss_cons (ps_set (i := 5) sc__law_things.nd rfl (by first | exact Or.inl rfl | exact Or.inr rfl) (pe_lst pa_nil))
      (pss_cons (ps_for PassesOwn.never rfl (pi_range1 (by rfl) G.range (pa_cons (pe_c c__law_draw hr (by omega) (by rfl) (pa_cons (pv 0) (pa_cons (pv 1) pa_nil))) pa_nil)) (pg_name (i := 3) sc__law_things.nd rfl (by first | exact Or.inl rfl | exact Or.inr rfl)) (pss_cons (ps_expr (pe_bm PySem.F.plainAttrs_list PySem.F.slot_list_append PySem.F.type_list_append mt_append (pv 5) (pa_cons (pe_c c__law_new_name hr (by omega) (by rfl) (pa_cons (pv 0) (pa_cons (pv 5) pa_nil))) pa_nil)))
      (pss_one (ps_dput (hu_of hr) (pv 4) (pe_ix ix_list (pv 5) (pe_un un_neg pe_int) (fun _ _ => rfl)) (pe_lc (own := [("j", 6)]) (g := gName 6) (tt := tYes) (by rfl) sc__law_things.nd (pi_range1 (by rfl) G.range (pa_cons (pe_c c__law_draw hr (by omega) (by rfl) (pa_cons (pv 0) (pa_cons (pe_op p_add pe_int (pv 1)) pa_nil))) pa_nil)) (blkOk_by (own := [("j", 6)]) (N := ["well", "wide", "cells", "k", "given", "names", "j"]) (sc := defScope s__law_things) (by decide +kernel)) (fun _ _ _ _ _ => (pg_name (i := 6) sc__law_things.nd rfl (by first | exact Or.inl rfl | exact Or.inr rfl))) (fun _ _ _ _ _ => pts_nil) (fun _ _ _ _ _ => (pe_c c__law_number hr (by omega) (by rfl) (pa_cons (pv 0) pa_nil)))) rfl))))
      (pss_one (ps_ret (pe_tup (pa_cons (pe_callB (p_sortItI rfl) (by rfl) G.sorted (by decide +kernel) (pa_cons (pe_bm0 PySem.F.plainAttrs_dict PySem.F.slot_dict_items PySem.F.type_dict_items mt_itemsK (pv 2)) pa_nil)) (pa_cons (pe_callB (p_sortItK rfl) (by rfl) G.sorted (by decide +kernel) (pa_cons (pe_bm0 PySem.F.plainAttrs_dict PySem.F.slot_dict_items PySem.F.type_dict_items mt_itemsK (pv 4)) pa_nil)) pa_nil)))))))))))
theorem ok__law_numbers_turned (F : FnP K "_law_numbers_turned" s__law_numbers_turned [] f fd) (G : Gm w K mg dP es nn) (c__law_draw : Cal P w K mg base 2 "_law_draw" sp__law_draw []) (c__law_number : Cal P w K mg base 3 "_law_number" sp__law_number []) : FnOk P w K mg base CX0 4 f fd ["well", "row"] (sp__law_numbers_turned K) :=
  FnP.go (k := 3) F sc__law_numbers_turned (fun vs H Q E => by first | (unfold sp__law_numbers_turned; walk_at "len") | walk_at "len") (t__law_numbers_turned K) (fun vs H Q E h => pure__law_numbers_turned (K := K) vs H Q E h) fun cdv A outer s H E hr =>
    (pss_cons (ps_set (i := 2) sc__law_numbers_turned.nd rfl (by first | exact Or.inl rfl | exact Or.inr rfl) (pe_c c__law_draw hr (by omega) (by rfl) (pa_cons (pv 0) (pa_cons pe_int pa_nil))))
      (pss_cons (ps_set (i := 3) sc__law_numbers_turned.nd rfl (by first | exact Or.inl rfl | exact Or.inr rfl) (pe_c c__law_draw hr (by omega) (by rfl) (pa_cons (pv 0) (pa_cons (pe_op p_add (pe_callB p_lenQ (by rfl) G.len (by decide +kernel) (pa_cons (pv 1) pa_nil)) pe_int) pa_nil))))
      (pss_cons (ps_set (i := 4) sc__law_numbers_turned.nd rfl (by first | exact Or.inl rfl | exact Or.inr rfl) (pe_c c__law_number hr (by omega) (by rfl) (pa_cons (pv 0) pa_nil)))
      (pss_cons (ps_if (pt_cmpR op_eq (pv 2) pe_int (nomark _)) (pss_one (ps_ret (pe_op op_cat (pe_op op_cat (pe_slice sl_list (pv 1) po_none (po_some (pv 3))) (pe_revL (pe_slice sl_list (pv 1) (po_some (pv 3)) (po_some (pe_op p_add (pv 3) pe_int))))) (pe_slice sl_list (pv 1) (po_some (pe_op p_add (pv 3) pe_int)) po_none)))) pss_nil)
      (pss_one (ps_ret (pe_op op_cat (pe_op op_cat (pe_slice sl_list (pv 1) po_none (po_some (pv 3))) (pe_ix ix_list (pe_lst (pa_cons (pe_lst (pa_cons (pv 4) pa_nil)) (pa_cons (pe_lst pa_nil) (pa_cons (pe_lst (pa_cons (pv 4) pa_nil)) pa_nil)))) (pv 2) (fun _ _ => rfl))) (pe_slice sl_list (pv 1) (po_some (pe_op p_add (pv 3) (pe_ix ix_list (pe_lst (pa_cons pe_int (pa_cons pe_int (pa_cons pe_int pa_nil)))) (pv 2) (fun _ _ => rfl)))) po_none))))))))
theorem ok__law_turned (F : FnP K "_law_turned" s__law_turned [] f fd) (G : Gm w K mg dP es nn) (c__law_draw : Cal P w K mg base 2 "_law_draw" sp__law_draw []) (c__law_number : Cal P w K mg base 3 "_law_number" sp__law_number []) (c__law_numbers_turned : Cal P w K mg base 4 "_law_numbers_turned" (sp__law_numbers_turned K) []) (c__law_new_name : Cal P w K mg base 3 "_law_new_name" (sp__law_new_name K) []) : FnOk P w K mg base CX0 5 f fd ["well", "cells", "given"] (sp__law_turned11 K) :=
  FnP.go (k := 4) F sc__law_turned (fun vs H Q E => by first | (unfold sp__law_turned11; walk_at "len") | walk_at "len") (t__law_turned11 K) (fun vs H Q E h => pure__law_turned11 (K := K) vs H Q E h) fun cdv A outer s H E hr =>
    (pss_cons (ps_set (i := 3) sc__law_turned.nd rfl (by first | exact Or.inl rfl | exact Or.inr rfl) (pe_c c__law_draw hr (by omega) (by rfl) (pa_cons (pv 0) (pa_cons pe_int pa_nil))))
      (pss_cons (ps_if (PW.pt (pw_and (pt_cmpR p_lt (pv 3) pe_int (nomark _)) (pw_and1 (pt_cmpR (p_neE hr.units) (pv 1) (pe_lst pa_nil) (nomark _))))) (pss_cons (ps_set (i := 4) sc__law_turned.nd rfl (by first | exact Or.inl rfl | exact Or.inr rfl) (pe_c c__law_draw hr (by omega) (by rfl) (pa_cons (pv 0) (pa_cons (pe_callB p_lenQ (by rfl) G.len (by decide +kernel) (pa_cons (pv 1) pa_nil)) pa_nil))))
      (pss_cons (ps_asg (pe_ix ix_list (pv 1) (pv 4) (fun _ _ => rfl)) (pg_tup rfl (pgs_cons (pg_name (i := 5) sc__law_turned.nd rfl (by first | exact Or.inl rfl | exact Or.inr rfl)) (pgs_cons (pg_name (i := 6) sc__law_turned.nd rfl (by first | exact Or.inl rfl | exact Or.inr rfl)) pgs_nil))))
      (pss_cons (ps_set (i := 7) sc__law_turned.nd rfl (by first | exact Or.inl rfl | exact Or.inr rfl) (pe_ix ix_list (pe_lst (pa_cons (pe_lst (pa_cons (pe_tup (pa_cons (pv 5) (pa_cons (pe_c c__law_number hr (by omega) (by rfl) (pa_cons (pv 0) pa_nil)) pa_nil))) pa_nil)) (pa_cons (pe_lst (pa_cons (pe_tup (pa_cons (pe_c c__law_number hr (by omega) (by rfl) (pa_cons (pv 0) pa_nil)) (pa_cons (pv 6) pa_nil))) pa_nil)) (pa_cons (pe_lst pa_nil) pa_nil)))) (pe_c c__law_draw hr (by omega) (by rfl) (pa_cons (pv 0) (pa_cons pe_int pa_nil))) (fun _ _ => rfl)))
      (pss_one (ps_ret (pe_tup (pa_cons (pe_op op_cat (pe_op op_cat (pe_slice sl_list (pv 1) po_none (po_some (pv 4))) (pv 7)) (pe_slice sl_list (pv 1) (po_some (pe_op p_add (pv 4) pe_int)) po_none)) (pa_cons (pv 2) pa_nil)))))))) pss_nil)
      (pss_cons (ps_if (pt_cmpR (p_eqD hr.units) (pv 2) (pe_lst pa_nil) (nomark _)) (pss_one (ps_ret (pe_tup (pa_cons (pe_op op_cat (pv 1) (pe_lst (pa_cons (pe_tup (pa_cons pe_int (pa_cons pe_int pa_nil))) pa_nil))) (pa_cons (pv 2) pa_nil))))) pss_nil)
      (pss_cons (ps_set (i := 4) sc__law_turned.nd rfl (by first | exact Or.inl rfl | exact Or.inr rfl) (pe_c c__law_draw hr (by omega) (by rfl) (pa_cons (pv 0) (pa_cons (pe_callB p_lenQ (by rfl) G.len (by decide +kernel) (pa_cons (pv 2) pa_nil)) pa_nil))))
      (pss_cons (ps_asg (pe_ix ix_list (pv 2) (pv 4) (fun _ _ => rfl)) (pg_tup rfl (pgs_cons (pg_name (i := 8) sc__law_turned.nd rfl (by first | exact Or.inl rfl | exact Or.inr rfl)) (pgs_cons (pg_name (i := 7) sc__law_turned.nd rfl (by first | exact Or.inl rfl | exact Or.inr rfl)) pgs_nil))))
      (pss_cons (ps_if (pt_cmpR p_lt (pv 3) pe_int (nomark _)) (pss_one (ps_ret (pe_tup (pa_cons (pv 1) (pa_cons (pe_op op_cat (pe_op op_cat (pe_slice sl_list (pv 2) po_none (po_some (pv 4))) (pe_lst (pa_cons (pe_tup (pa_cons (pv 8) (pa_cons (pe_c c__law_numbers_turned hr (by omega) (by rfl) (pa_cons (pv 0) (pa_cons (pe_callTy p_listQ (by rfl) G.list (by decide +kernel) (pa_cons (pv 7) pa_nil)) pa_nil))) pa_nil))) pa_nil))) (pe_slice sl_list (pv 2) (po_some (pe_op p_add (pv 4) pe_int)) po_none)) pa_nil))))) pss_nil)
      (pss_one (ps_ret (pe_tup (pa_cons (pv 1) (pa_cons (pe_op op_cat (pe_op op_cat (pe_slice sl_list (pv 2) po_none (po_some (pv 4))) (pe_ix ix_list (pe_lst (pa_cons (pe_lst (pa_cons (pe_tup (pa_cons (pe_c c__law_new_name hr (by omega) (by rfl) (pa_cons (pv 0) (pa_cons (pe_lst (pa_cons (pv 8) pa_nil)) pa_nil))) (pa_cons (pv 7) pa_nil))) pa_nil)) (pa_cons (pe_lst pa_nil) pa_nil))) (pe_c c__law_draw hr (by omega) (by rfl) (pa_cons (pv 0) (pa_cons pe_int pa_nil))) (fun _ _ => rfl))) (pe_slice sl_list (pv 2) (po_some (pe_op p_add (pv 4) pe_int)) po_none)) pa_nil)))))))))))
theorem ok__law_marks (F : FnP K "_law_marks" s__law_marks [] f fd) (G : Gm w K mg dP es nn) (c__law_draw : Cal P w K mg base 2 "_law_draw" sp__law_draw []) : FnOk P w K mg base CX0 3 f fd ["well"] sp__law_marks :=
  FnP.go (k := 2) F sc__law_marks (fun vs H Q E => by first | (unfold sp__law_marks; walk_at "len") | walk_at "len") (t__law_marks) (fun vs H Q E h => pure__law_marks (K := K) vs H Q E h) fun cdv A outer s H E hr =>
    (pss_one (ps_ret (pe_lc (own := [("k", 1)]) (g := gName 1) (tt := tYes) (by rfl) sc__law_marks.nd (pi_range1 (by rfl) G.range (pa_cons (pe_c c__law_draw hr (by omega) (by rfl) (pa_cons (pv 0) (pa_cons pe_int pa_nil))) pa_nil)) (blkOk_by (own := [("k", 1)]) (N := ["well", "k"]) (sc := defScope s__law_marks) (by decide +kernel)) (fun _ _ _ _ _ => (pg_name (i := 1) sc__law_marks.nd rfl (by first | exact Or.inl rfl | exact Or.inr rfl))) (fun _ _ _ _ _ => pts_nil) (fun _ _ _ _ _ => (pe_tup (pa_cons (pe_tup (pa_cons (pv 1) (pa_cons (pe_c c__law_draw hr (by omega) (by rfl) (pa_cons (pv 0) (pa_cons pe_int pa_nil))) pa_nil))) (pa_cons (pv 1) pa_nil)))))))
theorem sc_Outcome___init__ : FnScope ["self", "cells", "given", "steps", "deepest", "name", "worths"] ["self", "cells", "given", "steps", "deepest"] (defScope s_Outcome___init__) := ⟨rfl, rfl, rfl, by decide +kernel, rfl, by decide +kernel, by decide +kernel⟩
theorem ok_Outcome___init__ (F : MtP K "__init__" "Outcome.__init__" s_Outcome___init__ f fd) (G : Gm w K mg dP es nn) (CF : COs K)  : FnOk P w K mg base CX0 1 f fd ["self", "cells", "given", "steps", "deepest"] (sp_Outcome___init__ K) :=
  MtP.go (k := 0) F sc_Outcome___init__ (fun vs H Q E => by first | (unfold sp_Outcome___init__11; walk_at "len") | walk_at "len") (t_Outcome___init__11 K) (fun vs H Q E h => pure_Outcome___init__11 (K := K) CF vs H Q E h) fun cdv A outer s H E hr =>
    (pss_cons (ps_fld (pv 0) (pe_callTy p_listQ (by rfl) G.list (by decide +kernel) (pa_cons (pv 1) pa_nil)) rfl)
      (pss_cons (ps_fld (pv 0) (pe_lc (own := [("name", 5), ("worths", 6)]) (g := gTup K 2 (gCons (gName 5) (gCons (gName 6) (gNil)))) (tt := tYes) (by rfl) sc_Outcome___init__.nd (pi_list (pv 2)) (blkOk_by (own := [("name", 5), ("worths", 6)]) (N := ["self", "cells", "given", "steps", "deepest", "name", "worths"]) (sc := defScope s_Outcome___init__) (by decide +kernel)) (fun _ _ _ _ _ => (pg_tup rfl (pgs_cons (pg_name (i := 5) sc_Outcome___init__.nd rfl (by first | exact Or.inl rfl | exact Or.inr rfl)) (pgs_cons (pg_name (i := 6) sc_Outcome___init__.nd rfl (by first | exact Or.inl rfl | exact Or.inr rfl)) pgs_nil)))) (fun _ _ _ _ _ => pts_nil) (fun _ _ _ _ _ => (pe_tup (pa_cons (pv 5) (pa_cons (pe_callTy p_listQ (by rfl) G.list (by decide +kernel) (pa_cons (pv 6) pa_nil)) pa_nil))))) rfl)
      (pss_cons (ps_fld (pv 0) (pe_callTy p_listQ (by rfl) G.list (by decide +kernel) (pa_cons (pv 3) pa_nil)) rfl)
      (pss_one (ps_fld (pv 0) (pv 4) rfl)))))
theorem sc_Outcome___eq__ : FnScope ["self", "other"] ["self", "other"] (defScope s_Outcome___eq__) := ⟨rfl, rfl, rfl, by decide +kernel, rfl, by decide +kernel, by decide +kernel⟩
theorem ok_Outcome___eq__ (F : MtP K "__eq__" "Outcome.__eq__" s_Outcome___eq__ f fd) (G : Gm w K mg dP es nn) (OI : InI K (He.ga K "Outcome")) (CF : COs K)  : FnOk P w K mg base CX0 1 f fd ["self", "other"] (sp_Outcome___eq__11 K) :=
  MtP.go (k := 0) F sc_Outcome___eq__ (fun vs H Q E => by first | (unfold sp_Outcome___eq__11; walk_at "len") | walk_at "len") (t_Outcome___eq__11 K) (fun vs H Q E h => pure_Outcome___eq__11 (K := K) OI G.DS_Outcome CF vs H Q E h) fun cdv A outer s H E hr =>
    (pss_one (ps_ret (pe_and (pe_callB call_isi (by rfl) G.isinstance (by decide +kernel) (pa_cons (pv 1) (pa_cons (pe_glob (by rfl) G.Outcome rfl) pa_nil))) (pe_and (pe_cmpR (p_eqD hr.units) (pe_fld (pv 0) rfl) (pe_fld (pv 1) rfl) (nomark _)) (pe_one (pe_cmpR (p_eqD hr.units) (pe_fld (pv 0) rfl) (pe_fld (pv 1) rfl) (nomark _)))))))
theorem sc_Outcome___repr__ : FnScope ["self"] ["self"] (defScope s_Outcome___repr__) := ⟨rfl, rfl, rfl, by decide +kernel, rfl, by decide +kernel, by decide +kernel⟩
theorem ok_Outcome___repr__ (F : MtP K "__repr__" "Outcome.__repr__" s_Outcome___repr__ f fd) (G : Gm w K mg dP es nn) (CF : COs K)  : FnG P w K mg base CX0 1 f fd ["self"] (sp_Outcome___repr__ K) :=
  MtP.goG (k := 0) F sc_Outcome___repr__ (fun vs H Q E => by first | (unfold sp_Outcome___repr__; walk_at "len") | walk_at "len") (t_Outcome___repr__ K) (fun vs H Q E h => pure_Outcome___repr__ (K := K) CF vs H Q E h) fun cdv A outer s H E hG hr =>
    (pss_one (ps_ret (pe_joined (PJ.cons pe_str (PJ.cons (pe_fmtD hG hr.units (pe_fld (pv 0) rfl)) (PJ.cons pe_str (PJ.cons (pe_fmtD hG hr.units (pe_fld (pv 0) rfl)) (PJ.cons pe_str PJ.nil))))))))
theorem sc_Outcome___len__ : FnScope ["self"] ["self"] (defScope s_Outcome___len__) := ⟨rfl, rfl, rfl, by decide +kernel, rfl, by decide +kernel, by decide +kernel⟩
theorem ok_Outcome___len__ (F : MtP K "__len__" "Outcome.__len__" s_Outcome___len__ f fd) (G : Gm w K mg dP es nn) (CF : COs K)  : FnOk P w K mg base CX0 1 f fd ["self"] (sp_Outcome___len__ K) :=
  MtP.go (k := 0) F sc_Outcome___len__ (fun vs H Q E => by first | (unfold sp_Outcome___len__11; walk_at "len") | walk_at "len") (t_Outcome___len__11 K) (fun vs H Q E h => pure_Outcome___len__11 (K := K) CF vs H Q E h) fun cdv A outer s H E hr =>
    (pss_one (ps_ret (pe_callB p_lenQ (by rfl) G.len (by decide +kernel) (pa_cons (pe_fld (pv 0) rfl) pa_nil))))
theorem ok__law_good (F : FnP K "_law_good" s__law_good [] f fd) (G : Gm w K mg dP es nn) (CF : COs K) (c__law_well : Cal P w K mg base 2 "_law_well" sp__law_well []) (c__law_draw : Cal P w K mg base 2 "_law_draw" sp__law_draw []) (c__law_things : Cal P w K mg base 4 "_law_things" (sp__law_things K) []) (c__law_turned : Cal P w K mg base 5 "_law_turned" (sp__law_turned11 K) []) (c__law_marks : Cal P w K mg base 3 "_law_marks" sp__law_marks []) (i_Outcome : MkI P w K mg base 1 "Outcome" (He.ga K "Outcome") (sp_Outcome___init__ K) []) (q_Outcome : EqI P w K mg base 1 (He.ga K "Outcome") (sp_Outcome___eq__11 K)) (rp_Outcome : RpG P w K mg base 1 (He.ga K "Outcome") (sp_Outcome___repr__ K)) (n_Outcome : LnI P w K mg base 1 (He.ga K "Outcome") (sp_Outcome___len__ K)) : FnG P w K mg base CX0 6 f fd ["cell", "k"] (sp__law_good11 K) :=
  FnP.goG (k := 5) F sc__law_good (fun vs H Q E => by first | (unfold sp__law_good11; walk_at "len") | walk_at "len") (t__law_good11 K) (fun vs H Q E h => pure__law_good11 (K := K) CF vs H Q E h) fun cdv A outer s H E hG hr =>
    (pss_cons (ps_set (i := 2) sc__law_good.nd rfl (by first | exact Or.inl rfl | exact Or.inr rfl) (pe_c c__law_well hr (by omega) (by rfl) (pa_cons (pv 0) (pa_cons (pv 1) pa_nil))))
      (pss_cons (ps_set (i := 3) sc__law_good.nd rfl (by first | exact Or.inl rfl | exact Or.inr rfl) (pe_c c__law_draw hr (by omega) (by rfl) (pa_cons (pv 2) (pa_cons pe_int pa_nil))))
      (pss_cons (ps_asg (pe_c c__law_things hr (by omega) (by rfl) (pa_cons (pv 2) pa_nil)) (pg_tup rfl (pgs_cons (pg_name (i := 4) sc__law_good.nd rfl (by first | exact Or.inl rfl | exact Or.inr rfl)) (pgs_cons (pg_name (i := 5) sc__law_good.nd rfl (by first | exact Or.inl rfl | exact Or.inr rfl)) pgs_nil))))
      (pss_cons (ps_set (i := 6) sc__law_good.nd rfl (by first | exact Or.inl rfl | exact Or.inr rfl) (pe_tup (pa_cons (pe_lc (own := [("pair", 15)]) (g := gName 15) (tt := tYes) (by rfl) sc__law_good.nd (pi_list (pv 4)) (blkOk_by (own := [("pair", 15)]) (N := ["cell", "k", "well", "pick", "cells", "given", "other", "marks", "deep", "one", "two", "due", "thing", "before", "row", "pair", "name"]) (sc := defScope s__law_good) (by decide +kernel)) (fun _ _ _ _ _ => (pg_name (i := 15) sc__law_good.nd rfl (by first | exact Or.inl rfl | exact Or.inr rfl))) (fun _ _ _ _ _ => pts_nil) (fun _ _ _ _ _ => (pv 15))) (pa_cons (pe_lc (own := [("name", 16), ("row", 14)]) (g := gTup K 2 (gCons (gName 16) (gCons (gName 14) (gNil)))) (tt := tYes) (by rfl) sc__law_good.nd (pi_list (pv 5)) (blkOk_by (own := [("name", 16), ("row", 14)]) (N := ["cell", "k", "well", "pick", "cells", "given", "other", "marks", "deep", "one", "two", "due", "thing", "before", "row", "pair", "name"]) (sc := defScope s__law_good) (by decide +kernel)) (fun _ _ _ _ _ => (pg_tup rfl (pgs_cons (pg_name (i := 16) sc__law_good.nd rfl (by first | exact Or.inl rfl | exact Or.inr rfl)) (pgs_cons (pg_name (i := 14) sc__law_good.nd rfl (by first | exact Or.inl rfl | exact Or.inr rfl)) pgs_nil)))) (fun _ _ _ _ _ => pts_nil) (fun _ _ _ _ _ => (pe_tup (pa_cons (pv 16) (pa_cons (pe_callTy p_listQ (by rfl) G.list (by decide +kernel) (pa_cons (pv 14) pa_nil)) pa_nil))))) pa_nil))))
      (pss_cons (ps_if (pt_cmpR p_gt (pv 3) pe_int (nomark _)) (pss_one (ps_set (i := 6) sc__law_good.nd rfl (by first | exact Or.inl rfl | exact Or.inr rfl) (pe_c c__law_turned hr (by omega) (by rfl) (pa_cons (pv 2) (pa_cons (pv 4) (pa_cons (pv 5) pa_nil)))))) pss_nil)
      (pss_cons (ps_set (i := 7) sc__law_good.nd rfl (by first | exact Or.inl rfl | exact Or.inr rfl) (pe_c c__law_marks hr (by omega) (by rfl) (pa_cons (pv 2) pa_nil)))
      (pss_cons (ps_set (i := 8) sc__law_good.nd rfl (by first | exact Or.inl rfl | exact Or.inr rfl) (pe_c c__law_draw hr (by omega) (by rfl) (pa_cons (pv 2) (pa_cons (pe_ix ix_list (pe_lst (pa_cons pe_int (pa_cons (pe_op p_pow pe_int pe_int) pa_nil))) (pe_op p_fdiv (pe_c c__law_draw hr (by omega) (by rfl) (pa_cons (pv 2) (pa_cons pe_int pa_nil))) pe_int) (fun _ _ => rfl)) pa_nil))))
      (pss_cons (ps_set (i := 9) sc__law_good.nd rfl (by first | exact Or.inl rfl | exact Or.inr rfl) (pe_mkI i_Outcome hr (by omega) (by rfl) (pa_cons (pv 4) (pa_cons (pv 5) (pa_cons (pv 7) (pa_cons (pv 8) pa_nil))))))
      (pss_cons (ps_set (i := 10) sc__law_good.nd rfl (by first | exact Or.inl rfl | exact Or.inr rfl) (pe_mkI i_Outcome hr (by omega) (by rfl) (pa_cons (pe_ix ix_tup (pv 6) pe_int (fun _ _ => rfl)) (pa_cons (pe_ix ix_tup (pv 6) pe_int (fun _ _ => rfl)) (pa_cons (pe_c c__law_marks hr (by omega) (by rfl) (pa_cons (pv 2) pa_nil)) (pa_cons pe_int pa_nil))))))
      (pss_cons (ps_set (i := 11) sc__law_good.nd rfl (by first | exact Or.inl rfl | exact Or.inr rfl) (pe_cmpR (p_eqD hr.units) (pe_tup (pa_cons (pv 4) (pa_cons (pv 5) pa_nil))) (pv 6) (nomark _)))
      (pss_cons (ps_if (PW.pt (pw_or (pt_cmpR op_ne (pe_cmpR (p_eqI q_Outcome hr (by decide) hr.units) (pv 9) (pv 10) (nomark _)) (pv 11) (nomark _)) (pw_or (pt_cmpR op_ne (pe_cmpR (p_eqI q_Outcome hr (by decide) hr.units) (pv 10) (pv 9) (nomark _)) (pv 11) (nomark _)) (pw_or (pt_cmpR op_eq (pe_cmpR (p_neI q_Outcome hr (by decide) hr.units) (pv 9) (pv 10) (nomark _)) (pv 11) (nomark _)) (pw_or1 (pt_cmpR op_ne (pe_cmpR (p_inI q_Outcome hr (by decide) hr.units) (pv 10) (pe_lst (pa_cons (pv 9) pa_nil)) (by rfl)) (pv 11) (nomark _))))))) (pss_one (ps_ret pe_bl)) pss_nil)
      (pss_cons (ps_for PassesOwn.never rfl (pi_list (pe_lst (pa_cons pe_non (pa_cons pe_int (pa_cons (pv 4) (pa_cons (pe_tup (pa_cons (pv 4) (pa_cons (pv 5) pa_nil))) (pa_cons (pe_callB (p_reprG rp_Outcome hG hr (by decide)) (by rfl) G.repr (by decide +kernel) (pa_cons (pv 9) pa_nil)) (pa_cons pe_dnewK pa_nil)))))))) (pg_name (i := 12) sc__law_good.nd rfl (by first | exact Or.inl rfl | exact Or.inr rfl)) (pss_one (ps_if (PW.pt (pw_or (pt_cmpR (p_eqX q_Outcome G.DS_Outcome hr (by decide) hr.units) (pv 9) (pv 12) (nomark _)) (pw_or1 (pt_not (pt_cmpR (p_neX q_Outcome G.DS_Outcome hr (by decide) hr.units) (pv 9) (pv 12) (nomark _)))))) (pss_one (ps_ret pe_bl)) pss_nil)))
      (pss_cons (ps_if (PW.pt (pw_or (pt_cmpR op_ne (pe_callB (p_reprG rp_Outcome hG hr (by decide)) (by rfl) G.repr (by decide +kernel) (pa_cons (pv 9) pa_nil)) (pe_op p_addS (pe_op p_addS (pe_op p_addS (pe_op p_addS pe_str (pe_callB (p_reprD hG hr.units) (by rfl) G.repr (by decide +kernel) (pa_cons (pv 4) pa_nil))) pe_str) (pe_callB (p_reprD hG hr.units) (by rfl) G.repr (by decide +kernel) (pa_cons (pv 5) pa_nil))) pe_str) (nomark _)) (pw_or1 (pt_cmpR op_ne (pe_callB (p_lenI n_Outcome hr (by decide)) (by rfl) G.len (by decide +kernel) (pa_cons (pv 9) pa_nil)) (pe_callB p_lenQ (by rfl) G.len (by decide +kernel) (pa_cons (pv 7) pa_nil)) (nomark _))))) (pss_one (ps_ret pe_bl)) pss_nil)
      (pss_cons (ps_set (i := 13) sc__law_good.nd rfl (by first | exact Or.inl rfl | exact Or.inr rfl) (pe_lst (pa_cons (pe_callTy p_listQ (by rfl) G.list (by decide +kernel) (pa_cons (pv 4) pa_nil)) (pa_cons (pe_lc (own := [("name", 16), ("row", 14)]) (g := gTup K 2 (gCons (gName 16) (gCons (gName 14) (gNil)))) (tt := tYes) (by rfl) sc__law_good.nd (pi_list (pv 5)) (blkOk_by (own := [("name", 16), ("row", 14)]) (N := ["cell", "k", "well", "pick", "cells", "given", "other", "marks", "deep", "one", "two", "due", "thing", "before", "row", "pair", "name"]) (sc := defScope s__law_good) (by decide +kernel)) (fun _ _ _ _ _ => (pg_tup rfl (pgs_cons (pg_name (i := 16) sc__law_good.nd rfl (by first | exact Or.inl rfl | exact Or.inr rfl)) (pgs_cons (pg_name (i := 14) sc__law_good.nd rfl (by first | exact Or.inl rfl | exact Or.inr rfl)) pgs_nil)))) (fun _ _ _ _ _ => pts_nil) (fun _ _ _ _ _ => (pe_tup (pa_cons (pv 16) (pa_cons (pe_callTy p_listQ (by rfl) G.list (by decide +kernel) (pa_cons (pv 14) pa_nil)) pa_nil))))) (pa_cons (pe_callTy p_listQ (by rfl) G.list (by decide +kernel) (pa_cons (pv 7) pa_nil)) pa_nil)))))
      (pss_cons (ps_for PassesOwn.never rfl (pi_list (pe_op op_cat (pe_lst (pa_cons (pv 4) (pa_cons (pv 7) (pa_cons (pv 5) pa_nil)))) (pe_lc (own := [("name", 16), ("row", 14)]) (g := gTup K 2 (gCons (gName 16) (gCons (gName 14) (gNil)))) (tt := tYes) (by rfl) sc__law_good.nd (pi_list (pv 5)) (blkOk_by (own := [("name", 16), ("row", 14)]) (N := ["cell", "k", "well", "pick", "cells", "given", "other", "marks", "deep", "one", "two", "due", "thing", "before", "row", "pair", "name"]) (sc := defScope s__law_good) (by decide +kernel)) (fun _ _ _ _ _ => (pg_tup rfl (pgs_cons (pg_name (i := 16) sc__law_good.nd rfl (by first | exact Or.inl rfl | exact Or.inr rfl)) (pgs_cons (pg_name (i := 14) sc__law_good.nd rfl (by first | exact Or.inl rfl | exact Or.inr rfl)) pgs_nil)))) (fun _ _ _ _ _ => pts_nil) (fun _ _ _ _ _ => (pv 14))))) (pg_name (i := 14) sc__law_good.nd rfl (by first | exact Or.inl rfl | exact Or.inr rfl)) (pss_one (ps_expr (pe_bm PySem.F.plainAttrs_list PySem.F.slot_list_append PySem.F.type_list_append mt_append (pv 14) (pa_cons (pe_tup (pa_cons pe_int (pa_cons pe_int pa_nil))) pa_nil)))))
      (pss_cons (ps_if (PW.pt (pw_or (pt_cmpR (p_neD hr.units) (pe_lst (pa_cons (pe_fld (pv 9) rfl) (pa_cons (pe_fld (pv 10) rfl) pa_nil))) (pe_lst (pa_cons (pv 8) (pa_cons pe_int pa_nil))) (nomark _)) (pw_or1 (pt_cmpR op_ne (pe_cmpR (p_eqI q_Outcome hr (by decide) hr.units) (pv 9) (pv 10) (nomark _)) (pv 11) (nomark _))))) (pss_one (ps_ret pe_bl)) pss_nil)
      (pss_one (ps_ret (pe_and (pe_cmpR (p_eqI q_Outcome hr (by decide) hr.units) (pv 9) (pv 9) (nomark _)) (pe_one (pe_cmpR (p_eqD hr.units) (pe_lst (pa_cons (pe_fld (pv 9) rfl) (pa_cons (pe_fld (pv 9) rfl) (pa_cons (pe_fld (pv 9) rfl) pa_nil)))) (pv 13) (nomark _))))))))))))))))))))))
theorem ok_law (F : FnP K "law" s_law [] f fd) (G : Gm w K mg dP es nn) (c__law_cell_at : Cal P w K mg base 1 "_law_cell_at" (sp__law_cell_at K) []) (c__law_good : CalG P w K mg base 6 "_law_good" (sp__law_good11 K) []) : FnG P w K mg base CX0 7 f fd ["script"] (sp_law K) :=
  FnP.goG (k := 6) F sc_law (fun vs H Q E => by first | (unfold sp_law; walk_at "len") | walk_at "len") (t_law K) (fun vs H Q E h => pure_law (K := K) vs H Q E h) fun cdv A outer s H E hG hr =>
    (pss_cons (ps_for PassesOwn.never rfl (pi_range1 (by rfl) G.range (pa_cons (pe_callB (p_max rfl) (by rfl) G.max (by decide +kernel) (pa_cons pe_int (pa_cons (pe_callB (p_min rfl) (by rfl) G.min (by decide +kernel) (pa_cons pe_int (pa_cons (pe_callB p_lenQ (by rfl) G.len (by decide +kernel) (pa_cons (pv 0) pa_nil)) pa_nil))) pa_nil))) pa_nil)) (pg_name (i := 1) sc_law.nd rfl (by first | exact Or.inl rfl | exact Or.inr rfl)) (pss_one (ps_if (pt_not (pt_val (pe_cG c__law_good hG hr (by omega) (by rfl) (pa_cons (pe_c c__law_cell_at hr (by omega) (by rfl) (pa_cons (pv 0) (pa_cons (pv 1) pa_nil))) (pa_cons (pv 1) pa_nil))))) (pss_one (ps_ret pe_bl)) pss_nil)))
      (pss_one (ps_ret pe_bl)))
end
theorem facts {P : Program} {w : World} {K : PySem.W.Frag} {h : Heap} {mg : Str → Option Value} {f : Addr} (X : K.In h) (G0 : h.Ns mainGlobals mg) (hfa : mg ("law" : Str) = some (.ref f)) (c0 : He.SaysX fa fn ts [] ex w h K) :
    ∃ fd : FuncData, (∀ (s : Shared) (v : Value), BindsTo s fd ⟨[v], []⟩ [("script", v)]) ∧ ∀ base : Heap, K.In base → base.Ns mainGlobals mg → FnG P w K mg base CX0 7 f fd ["script"] (sp_law K) := by
  have c := c0.t.d
  have c0m : (dsB K (He.ga K "Outcome") && (neB K (He.ga K "Outcome") && (inB K (He.ga K "Outcome")))) = true := c0.more
  obtain ⟨ds_Outcome, c0r0⟩ := Bool.and_eq_true_iff.mp c0m
  obtain ⟨ne_Outcome, c0r1⟩ := Bool.and_eq_true_iff.mp c0r0
  have in_Outcome := c0r1

  obtain ⟨fd__law_cell_at, F__law_cell_at⟩ : ∃ fd, FnP K "_law_cell_at" s__law_cell_at [] (He.ga K "_law_cell_at") fd := c.def_ 0 (d := d__law_cell_at) rfl
  obtain ⟨fd__law_stir, F__law_stir⟩ : ∃ fd, FnP K "_law_stir" s__law_stir [] (He.ga K "_law_stir") fd := c.def_ 1 (d := d__law_stir) rfl
  obtain ⟨fd__law_well, F__law_well⟩ : ∃ fd, FnP K "_law_well" s__law_well [] (He.ga K "_law_well") fd := c.def_ 2 (d := d__law_well) rfl
  obtain ⟨fd__law_draw, F__law_draw⟩ : ∃ fd, FnP K "_law_draw" s__law_draw [] (He.ga K "_law_draw") fd := c.def_ 3 (d := d__law_draw) rfl
  obtain ⟨fd__law_new_name, F__law_new_name⟩ : ∃ fd, FnP K "_law_new_name" s__law_new_name [] (He.ga K "_law_new_name") fd := c.def_ 4 (d := d__law_new_name) rfl
  obtain ⟨fd__law_number, F__law_number⟩ : ∃ fd, FnP K "_law_number" s__law_number [] (He.ga K "_law_number") fd := c.def_ 5 (d := d__law_number) rfl
  obtain ⟨fd__law_things, F__law_things⟩ : ∃ fd, FnP K "_law_things" s__law_things [] (He.ga K "_law_things") fd := c.def_ 6 (d := d__law_things) rfl
  obtain ⟨fd__law_numbers_turned, F__law_numbers_turned⟩ : ∃ fd, FnP K "_law_numbers_turned" s__law_numbers_turned [] (He.ga K "_law_numbers_turned") fd := c.def_ 7 (d := d__law_numbers_turned) rfl
  obtain ⟨fd__law_turned, F__law_turned⟩ : ∃ fd, FnP K "_law_turned" s__law_turned [] (He.ga K "_law_turned") fd := c.def_ 8 (d := d__law_turned) rfl
  obtain ⟨fd__law_marks, F__law_marks⟩ : ∃ fd, FnP K "_law_marks" s__law_marks [] (He.ga K "_law_marks") fd := c.def_ 9 (d := d__law_marks) rfl
  obtain ⟨fd__law_good, F__law_good⟩ : ∃ fd, FnP K "_law_good" s__law_good [] (He.ga K "_law_good") fd := c.def_ 10 (d := d__law_good) rfl
  obtain ⟨fd_law, F_law⟩ : ∃ fd, FnP K "law" s_law [] (He.ga K "law") fd := c.def_ 11 (d := d_law) rfl
  obtain ⟨fd_Outcome___init__, F_Outcome___init__⟩ : ∃ fd, MtP K "__init__" "Outcome.__init__" s_Outcome___init__ (He.ma K (He.ga K "Outcome") "__init__") fd := c.def_ 12 (d := d_Outcome___init__) rfl
  obtain ⟨fd_Outcome___eq__, F_Outcome___eq__⟩ : ∃ fd, MtP K "__eq__" "Outcome.__eq__" s_Outcome___eq__ (He.ma K (He.ga K "Outcome") "__eq__") fd := c.def_ 13 (d := d_Outcome___eq__) rfl
  obtain ⟨fd_Outcome___len__, F_Outcome___len__⟩ : ∃ fd, MtP K "__len__" "Outcome.__len__" s_Outcome___len__ (He.ma K (He.ga K "Outcome") "__len__") fd := c.def_ 14 (d := d_Outcome___len__) rfl
  obtain ⟨fd_Outcome___repr__, F_Outcome___repr__⟩ : ∃ fd, MtP K "__repr__" "Outcome.__repr__" s_Outcome___repr__ (He.ma K (He.ga K "Outcome") "__repr__") fd := c.def_ 15 (d := d_Outcome___repr__) rfl
  have CF : COs K := ⟨⟨He.cls_ok (c.fact 21 (f := .cls "Outcome") rfl), He.noat_ok (c.fact 22 (f := .noat "Outcome" "cells") rfl), He.noat_ok (c.fact 23 (f := .noat "Outcome" "given") rfl), He.noat_ok (c.fact 24 (f := .noat "Outcome" "steps") rfl), He.noat_ok (c.fact 25 (f := .noat "Outcome" "deepest") rfl)⟩⟩
  have G : Gm w K mg 0 #[] 0 := ⟨He.free_ok X G0 (c.fact 13 (f := .free "range") rfl), He.free_ok X G0 (c.fact 14 (f := .free "list") rfl), He.free_ok X G0 (c.fact 15 (f := .free "len") rfl), He.free_ok X G0 (c.fact 16 (f := .free "sorted") rfl), He.free_ok X G0 (c.fact 17 (f := .free "repr") rfl), He.free_ok X G0 (c.fact 18 (f := .free "max") rfl), He.free_ok X G0 (c.fact 19 (f := .free "isinstance") rfl), He.free_ok X G0 (c.fact 20 (f := .free "min") rfl), He.glo_ok X G0 (c.fact 12 (f := .glo "Outcome") rfl), ds_Outcome⟩
  have g__law_cell_at := He.glo_ok X G0 (c.fact 0 (f := .glo "_law_cell_at") rfl)
  have g__law_stir := He.glo_ok X G0 (c.fact 1 (f := .glo "_law_stir") rfl)
  have g__law_well := He.glo_ok X G0 (c.fact 2 (f := .glo "_law_well") rfl)
  have g__law_draw := He.glo_ok X G0 (c.fact 3 (f := .glo "_law_draw") rfl)
  have g__law_new_name := He.glo_ok X G0 (c.fact 4 (f := .glo "_law_new_name") rfl)
  have g__law_number := He.glo_ok X G0 (c.fact 5 (f := .glo "_law_number") rfl)
  have g__law_things := He.glo_ok X G0 (c.fact 6 (f := .glo "_law_things") rfl)
  have g__law_numbers_turned := He.glo_ok X G0 (c.fact 7 (f := .glo "_law_numbers_turned") rfl)
  have g__law_turned := He.glo_ok X G0 (c.fact 8 (f := .glo "_law_turned") rfl)
  have g__law_marks := He.glo_ok X G0 (c.fact 9 (f := .glo "_law_marks") rfl)
  have g__law_good := He.glo_ok X G0 (c.fact 10 (f := .glo "_law_good") rfl)
  have g_law := He.glo_ok X G0 (c.fact 11 (f := .glo "law") rfl)
  have e := hfa.symm.trans g_law
  cases e
  have b := FunD.bindsA (ps := ["script"]) F_law fun _ _ _ _ _ _ us hl => match us, hl with | [_], _ => rfl
  refine ⟨fd_law, fun s v => b s [v] rfl, fun base _ _ => ?_⟩
  have o__law_cell_at := ok__law_cell_at (P := P) (base := base) F__law_cell_at G 
  have c__law_cell_at := F__law_cell_at.cal o__law_cell_at g__law_cell_at fun _ _ _ _ _ _ us hl => match us, hl with | [_, _], _ => rfl
  have o__law_stir := ok__law_stir (P := P) (base := base) F__law_stir G 
  have c__law_stir := F__law_stir.cal o__law_stir g__law_stir fun _ _ _ _ _ _ us hl => match us, hl with | [_, _], _ => rfl
  have o__law_well := ok__law_well (P := P) (base := base) F__law_well G c__law_stir
  have c__law_well := F__law_well.cal o__law_well g__law_well fun _ _ _ _ _ _ us hl => match us, hl with | [_, _], _ => rfl
  have o__law_draw := ok__law_draw (P := P) (base := base) F__law_draw G c__law_stir
  have c__law_draw := F__law_draw.cal o__law_draw g__law_draw fun _ _ _ _ _ _ us hl => match us, hl with | [_, _], _ => rfl
  have o__law_new_name := ok__law_new_name (P := P) (base := base) F__law_new_name G c__law_draw
  have c__law_new_name := F__law_new_name.cal o__law_new_name g__law_new_name fun _ _ _ _ _ _ us hl => match us, hl with | [_, _], _ => rfl
  have o__law_number := ok__law_number (P := P) (base := base) F__law_number G c__law_draw
  have c__law_number := F__law_number.cal o__law_number g__law_number fun _ _ _ _ _ _ us hl => match us, hl with | [_], _ => rfl
  have o__law_things := ok__law_things (P := P) (base := base) F__law_things G c__law_draw c__law_number c__law_new_name
  have c__law_things := F__law_things.cal o__law_things g__law_things fun _ _ _ _ _ _ us hl => match us, hl with | [_], _ => rfl
  have o__law_numbers_turned := ok__law_numbers_turned (P := P) (base := base) F__law_numbers_turned G c__law_draw c__law_number
  have c__law_numbers_turned := F__law_numbers_turned.cal o__law_numbers_turned g__law_numbers_turned fun _ _ _ _ _ _ us hl => match us, hl with | [_, _], _ => rfl
  have o__law_turned := ok__law_turned (P := P) (base := base) F__law_turned G c__law_draw c__law_number c__law_numbers_turned c__law_new_name
  have c__law_turned := F__law_turned.cal o__law_turned g__law_turned fun _ _ _ _ _ _ us hl => match us, hl with | [_, _, _], _ => rfl
  have o__law_marks := ok__law_marks (P := P) (base := base) F__law_marks G c__law_draw
  have c__law_marks := F__law_marks.cal o__law_marks g__law_marks fun _ _ _ _ _ _ us hl => match us, hl with | [_], _ => rfl
  have o_Outcome___init__ := ok_Outcome___init__ (P := P) (base := base) F_Outcome___init__ G CF 
  have i_Outcome := MtP.mki (C := "Outcome") F_Outcome___init__ (He.mkr_ok (c.fact 26 (f := .mkr "Outcome") rfl)) o_Outcome___init__ G.Outcome fun _ _ _ _ _ _ us hl => match us, hl with | [_, _, _, _, _], _ => rfl
  have o_Outcome___eq__ := ok_Outcome___eq__ (P := P) (base := base) F_Outcome___eq__ G (inB_ok in_Outcome) CF 
  have q_Outcome := MtP.eqi (C := "Outcome") F_Outcome___eq__ (He.meth_ok (c.fact 27 (f := .meth "Outcome" "__eq__") rfl)) ne_Outcome o_Outcome___eq__ fun _ _ _ _ _ _ us hl => match us, hl with | [_, _], _ => rfl
  have o_Outcome___repr__ := ok_Outcome___repr__ (P := P) (base := base) F_Outcome___repr__ G CF 
  have rp_Outcome := MtP.rpg (C := "Outcome") F_Outcome___repr__ (He.meth_ok (c.fact 29 (f := .meth "Outcome" "__repr__") rfl)) o_Outcome___repr__ fun _ _ _ _ _ _ us hl => match us, hl with | [_], _ => rfl
  have o_Outcome___len__ := ok_Outcome___len__ (P := P) (base := base) F_Outcome___len__ G CF 
  have n_Outcome := MtP.lni (C := "Outcome") F_Outcome___len__ (He.meth_ok (c.fact 28 (f := .meth "Outcome" "__len__") rfl)) o_Outcome___len__ fun _ _ _ _ _ _ us hl => match us, hl with | [_], _ => rfl
  have o__law_good := ok__law_good (P := P) (base := base) F__law_good G CF c__law_well c__law_draw c__law_things c__law_turned c__law_marks i_Outcome q_Outcome rp_Outcome n_Outcome
  have c__law_good := F__law_good.calG o__law_good g__law_good fun _ _ _ _ _ _ us hl => match us, hl with | [_, _], _ => rfl
  exact ok_law (P := P) (base := base) F_law G c__law_cell_at c__law_good
end Fg
open PySem PySem.W PySem.Calls PyProof.Rows
theorem PySem.Challenge.cw_forkgather_k11_outcomes_compared_holds : PySem.Challenge.rw_forkgather_k11_outcomes_compared.Holds :=
  Fg.close (fun K => Fg.sp_law K) (fun K H a ns hl hS => ⟨a, ns, rfl, hS, hl, fun _ => rfl⟩) fun X G0 hfa c0 => Fg.facts X G0 hfa c0
