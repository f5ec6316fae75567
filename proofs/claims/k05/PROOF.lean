import PyProof.Rows.All
import Wide.All
import OpenK.AllK
import Wide.FinOn
import KE.KStateDown
import Lean
import HandS.ForMost
import HandS.Defaults
import HandS.IsInst
import HandS.More
import HandS.Codes
import HandS.TupLe
import HandS.TupAny
import HandS.Conv
import HandS.Wide
import HandS.Walk
import KE.DataEq
import HandS.Head0
import HandS.Head1
import HandS.Head2
import HandS.HeadEnd
import HandS.HeadHook1
import HandS.HeadHook2
import HandS.HeadHook3
import HandS.HeadHook4
import HandS.Exc
import HandS.ExcField
import HandS.ExcIs
import HandS.ExcInit
import HandS.ExcValue
import HandS.TryOnly
import KE.KExcIs
import HandS.CallSlots
import HandS.ExcOwn
import HandS.Lambda
import KE.IntBitsLaws
import KE.KeyNested
import HandS.TupLen
import KE.KDictDisplayH
import PyProof.DictTable
import HandS.NoneIn
import HandS.RevRange
import PyProof.FactsAll.dict_1
import PyProof.FactsAll.subtypes_3
import PyProof.FactsAll.subtypes_4
import HandS.SetKeys
import HandS.SetFor
import HandS.Strs
import HandS.SortInts
import HandS.Flow
import HandS.SortRule
import HandS.OwnEq
import PyProof.InstSpecial
import KE.KSortTupAny
import HandS.DictTup
import HandS.DictEq
import PyProof.StrOps2
import HandS.Style
import HandS.List
import PyProof.AutoSeq1
import PySem.Challenge.RW_forkgather_k05_whole_first_wrong_step
set_option Elab.async false
set_option linter.all false
set_option maxRecDepth 100000
set_option maxHeartbeats 4000000
namespace Fg
open PySem PySem.Spec PyProof.Rows L2
section
structure Chg (M : List Addr) (H H' : Hp) : Prop where
  keep : ∀ a o, H a = some o → a ∉ M → H' a = some o
  dom : ∀ a, H' a = none → H a = none
  tup : ∀ a xs, H a = some (.tup xs) → H' a = some (.tup xs)
theorem Chg.refl {M : List Addr} {H : Hp} : Chg M H H := ⟨fun _ _ h _ => h, fun _ h => h, fun _ _ h => h⟩
theorem Chg.new {H : Hp} {p : Addr} {o : HO} (n : H p = none) : Chg [] H (upd H p o) where
  keep := fun a u h _ => by rw [upd_ne (ne_of_none h n)]; exact h
  dom := fun a h => by
    by_cases e : a = p
    · subst e; exact n
    · rw [upd_ne e] at h; exact h
  tup := fun a xs h => by rw [upd_ne (ne_of_none h n)]; exact h
theorem Chg.mut {H : Hp} {p : Addr} {o u : HO} (h : H p = some u) (hm : ∀ xs, u ≠ .tup xs) : Chg [p] H (upd H p o) where
  keep := fun a v e hn => by rw [upd_ne (fun z => hn (by rw [z]; exact List.mem_singleton.mpr rfl))]; exact e
  dom := fun a e => by
    by_cases z : a = p
    · subst z; rw [upd_same] at e; cases e
    · rw [upd_ne z] at e; exact e
  tup := fun a xs e => by
    rw [upd_ne (fun z => by subst z; rw [h] at e; exact hm xs (Option.some.inj e))]; exact e
/-- then c', whose changed ones are changed ones of c or new ones -/
theorem Chg.go {M M' : List Addr} {H H1 H2 : Hp} (c : Chg M H H1) (c' : Chg M' H1 H2) (h : ∀ a ∈ M', a ∈ M ∨ H a = none) : Chg M H H2 where
  keep := fun a o e hn => c'.keep a o (c.keep a o e hn) (fun hm => (h a hm).elim hn fun z => by rw [z] at e; cases e)
  dom := fun a e => c.dom a (c'.dom a e)
  tup := fun a xs e => c'.tup a xs (c.tup a xs e)
theorem Chg.same {M : List Addr} {H H1 H2 : Hp} (c : Chg M H H1) (c' : Chg [] H1 H2) : Chg M H H2 := c.go c' fun a h => absurd h (by simp)
theorem Chg.pre {M : List Addr} {H H1 H2 : Hp} (c : Chg [] H H1) (c' : Chg M H1 H2) : Chg M H H2 :=
  ⟨fun a o e hn => c'.keep a o (c.keep a o e (by simp)) hn, fun a e => c.dom a (c'.dom a e), fun a xs e => c'.tup a xs (c.tup a xs e)⟩
theorem Chg.both {M : List Addr} {H H1 H2 : Hp} (c : Chg M H H1) (c' : Chg M H1 H2) : Chg M H H2 := c.go c' fun a h => .inl h
theorem Chg.wide {M M' : List Addr} {H H1 : Hp} (c : Chg M H H1) (h : ∀ a ∈ M, a ∈ M') : Chg M' H H1 := ⟨fun a o e hn => c.keep a o e fun z => hn (h a z), c.dom, c.tup⟩
theorem Chg.one {H H1 H2 : Hp} {p : Addr} (c : Chg [] H H1) (c' : Chg [p] H1 H2) (n : H p = none) : Chg [] H H2 :=
  c.go c' fun a h => .inr (by rw [List.mem_singleton.mp h]; exact n)
theorem Chg.at {H H' : Hp} {a : Addr} {o : HO} (c : Chg [] H H') (h : H a = some o) : H' a = some o := c.keep a o h (by simp)
theorem Chg.ne {M : List Addr} {H H' : Hp} {a b : Addr} {o : HO} (c : Chg M H H') (h : H a = some o) (n : H' b = none) : a ≠ b := fun e => by
  have z := c.dom b n
  rw [← e, h] at z; cases z
theorem Chg.at1 {H H' : Hp} {a b : Addr} {o : HO} (c : Chg [b] H H') (h : H a = some o) (n : a ≠ b) : H' a = some o := c.keep a o h (by simpa using n)
theorem Chg.seq {K : PySem.W.Frag} {H H' : Hp} {a : Addr} {xs : List V} (c : Chg [] H H') (h : SqL K H a xs) : SqL K H' a xs := by
  rcases h with (h | ⟨o, h⟩) | h
  · exact .inl (.inl (c.at h))
  · exact .inl (.inr ⟨o, c.at h⟩)
  · exact .inr h
theorem sqL {K : PySem.W.Frag} {H : Hp} {a : Addr} {xs : List V} (h : H a = some (.lst xs)) : SqL K H a xs := .inl (.inl h)
theorem sqT {K : PySem.W.Frag} {H : Hp} {a : Addr} {xs : List V} (h : H a = some (.tup xs)) : SqT K H a xs := .inl (.inl h)
mutual
inductive R (S : Addr → Prop) (H : Hp) : V → PyData → Prop
  | non : R S H .non .none
  | bl (b : Bool) : R S H (.bl b) (.bool b)
  | int (i : Int) : R S H (.int i) (.int i)
  | str (x : Str) : R S H (.str x) (.str x)
  | lst {a : Addr} {xs : List V} {ds : List PyData} : S a → H a = some (.lst xs) → RA S H xs ds → R S H (.ref a) (.list ds)
  | tup {a : Addr} {xs : List V} {ds : List PyData} : H a = some (.tup xs) → RA S H xs ds → R S H (.ref a) (.tuple ds)
  | dic {a : Addr} {kvs : List (Key × V)} : S a → H a = some (.dK kvs) → R S H (.ref a) (.dict [])
inductive RA (S : Addr → Prop) (H : Hp) : List V → List PyData → Prop
  | nil : RA S H [] []
  | cons {v : V} {vs : List V} {d : PyData} {ds : List PyData} : R S H v d → RA S H vs ds → RA S H (v :: vs) (d :: ds)
end
mutual
theorem R.imp {S S' : Addr → Prop} {H H' : Hp} (hl : ∀ a xs, S a → H a = some (.lst xs) → S' a ∧ H' a = some (.lst xs)) (hd : ∀ a xs, S a → H a = some (.dK xs) → S' a ∧ H' a = some (.dK xs))
    (ht : ∀ a xs, H a = some (.tup xs) → H' a = some (.tup xs)) : ∀ {d : PyData} {v : V}, R S H v d → R S' H' v d
  | .none, _, h => by cases h; exact .non
  | .bool _, _, h => by cases h; exact .bl _
  | .int _, _, h => by cases h; exact .int _
  | .str _, _, h => by cases h; exact .str _
  | .list ds, _, h => by
    cases h with
    | lst s e r => exact .lst (hl _ _ s e).1 (hl _ _ s e).2 (RA.imp hl hd ht r)
  | .tuple ds, _, h => by
    cases h with
    | tup e r => exact .tup (ht _ _ e) (RA.imp hl hd ht r)
  | .dict _, _, h => by
    cases h with
    | dic s e => exact .dic (hd _ _ s e).1 (hd _ _ s e).2
theorem RA.imp {S S' : Addr → Prop} {H H' : Hp} (hl : ∀ a xs, S a → H a = some (.lst xs) → S' a ∧ H' a = some (.lst xs)) (hd : ∀ a xs, S a → H a = some (.dK xs) → S' a ∧ H' a = some (.dK xs))
    (ht : ∀ a xs, H a = some (.tup xs) → H' a = some (.tup xs)) : ∀ {ds : List PyData} {vs : List V}, RA S H vs ds → RA S' H' vs ds
  | [], _, h => by cases h; exact .nil
  | d :: ds, _, h => by
    cases h with
    | cons a b => exact .cons (R.imp hl hd ht a) (RA.imp hl hd ht b)
end
theorem R.keep {S : Addr → Prop} {M : List Addr} {H H' : Hp} {v : V} {d : PyData} (c : Chg M H H') (h : ∀ a, S a → a ∉ M) (r : R S H v d) : R S H' v d :=
  R.imp (fun a xs s e => ⟨s, c.keep a _ e (h a s)⟩) (fun a xs s e => ⟨s, c.keep a _ e (h a s)⟩) c.tup r
theorem RA.keep {S : Addr → Prop} {M : List Addr} {H H' : Hp} {v : List V} {d : List PyData} (c : Chg M H H') (h : ∀ a, S a → a ∉ M) (r : RA S H v d) : RA S H' v d :=
  RA.imp (fun a xs s e => ⟨s, c.keep a _ e (h a s)⟩) (fun a xs s e => ⟨s, c.keep a _ e (h a s)⟩) c.tup r
theorem R.mono {S S' : Addr → Prop} {H : Hp} {v : V} {d : PyData} (h : ∀ a, S a → S' a) (r : R S H v d) : R S' H v d :=
  R.imp (fun a xs s e => ⟨h a s, e⟩) (fun a xs s e => ⟨h a s, e⟩) (fun _ _ e => e) r
theorem RA.mono {S S' : Addr → Prop} {H : Hp} {v : List V} {d : List PyData} (h : ∀ a, S a → S' a) (r : RA S H v d) : RA S' H v d :=
  RA.imp (fun a xs s e => ⟨h a s, e⟩) (fun a xs s e => ⟨h a s, e⟩) (fun _ _ e => e) r
/-- all that stands in H stands in H' -/
theorem R.same {S : Addr → Prop} {H H' : Hp} {v : V} {d : PyData} (c : Chg [] H H') (r : R S H v d) : R S H' v d := r.keep c fun _ _ => by simp
theorem RA.same {S : Addr → Prop} {H H' : Hp} {v : List V} {d : List PyData} (c : Chg [] H H') (r : RA S H v d) : RA S H' v d := r.keep c fun _ _ => by simp
/-- data without lists -/
abbrev Im : Hp → V → PyData → Prop := R (fun _ => False)
abbrev ImA : Hp → List V → List PyData → Prop := RA (fun _ => False)
theorem R.im {M : List Addr} {H H' : Hp} {v : V} {d : PyData} (c : Chg M H H') (r : Im H v d) : Im H' v d := R.keep c (fun _ z => z.elim) r
theorem RA.im {M : List Addr} {H H' : Hp} {v : List V} {d : List PyData} (c : Chg M H H') (r : ImA H v d) : ImA H' v d := RA.keep c (fun _ z => z.elim) r
theorem R.any {S : Addr → Prop} {H : Hp} {v : V} {d : PyData} (r : Im H v d) : R S H v d := r.mono fun _ z => z.elim
theorem RA.any {S : Addr → Prop} {H : Hp} {v : List V} {d : List PyData} (r : ImA H v d) : RA S H v d := r.mono fun _ z => z.elim
theorem RA.length {S : Addr → Prop} {H : Hp} : ∀ {vs : List V} {ds : List PyData}, RA S H vs ds → vs.length = ds.length
  | _, _, .nil => rfl
  | _, _, .cons _ r => by rw [List.length_cons, List.length_cons, r.length]
theorem RA.get {S : Addr → Prop} {H : Hp} : ∀ {vs : List V} {ds : List PyData} {i : Nat} {v : V}, RA S H vs ds → vs[i]? = some v → ∃ d, ds[i]? = some d ∧ R S H v d
  | _, _, _, _, .nil, h => by simp at h
  | _, _, 0, _, .cons a r, h => ⟨_, rfl, by cases (Option.some.inj (show some _ = some _ from h)); exact a⟩
  | _, _, i + 1, _, .cons a r, h => RA.get (i := i) r h
theorem RA.snoc {S : Addr → Prop} {H : Hp} : ∀ {vs : List V} {ds : List PyData} {v : V} {d : PyData}, RA S H vs ds → R S H v d → RA S H (vs ++ [v]) (ds ++ [d])
  | _, _, _, _, .nil, h => .cons h .nil
  | _, _, _, _, .cons a r, h => .cons a (r.snoc h)
theorem RA.append {S : Addr → Prop} {H : Hp} : ∀ {vs ws : List V} {ds es : List PyData}, RA S H vs ds → RA S H ws es → RA S H (vs ++ ws) (ds ++ es)
  | _, _, _, _, .nil, h => h
  | _, _, _, _, .cons a r, h => .cons a (r.append h)
theorem RA.drop {S : Addr → Prop} {H : Hp} : ∀ {vs : List V} {ds : List PyData} (n : Nat), RA S H vs ds → RA S H (vs.drop n) (ds.drop n)
  | _, _, 0, h => h
  | _, _, _ + 1, .nil => .nil
  | _, _, n + 1, .cons _ r => r.drop n
theorem RA.take {S : Addr → Prop} {H : Hp} : ∀ {vs : List V} {ds : List PyData} (n : Nat), RA S H vs ds → RA S H (vs.take n) (ds.take n)
  | _, _, 0, _ => .nil
  | _, _, _ + 1, .nil => .nil
  | _, _, n + 1, .cons a r => .cons a (r.take n)
/-- no dict in it -/
abbrev noDic : PyData → Bool := PyData.plain
abbrev noDics : List PyData → Bool := PyData.plainAll
mutual
theorem eqv_self : ∀ d : PyData, noDic d = true → PyData.eqv d d = true
  | .none, _ => rfl
  | .bool b, _ => by simp [PyData.eqv]
  | .int i, _ => by simp [PyData.eqv]
  | .str x, _ => by simp [PyData.eqv]
  | .list xs, h => by
    show PyData.eqvAll xs xs = true
    exact eqvAll_self xs h
  | .tuple xs, h => by
    show PyData.eqvAll xs xs = true
    exact eqvAll_self xs h
  | .dict _, h => by cases h
theorem eqvAll_self : ∀ ds : List PyData, noDics ds = true → PyData.eqvAll ds ds = true
  | [], _ => rfl
  | d :: ds, h => by
    obtain ⟨h1, h2⟩ := Bool.and_eq_true_iff.mp (show (noDic d && noDics ds) = true from h)
    show (PyData.eqv d d && PyData.eqvAll ds ds) = true
    rw [eqv_self d h1, eqvAll_self ds h2]
    rfl
end
mutual
theorem R.dp {K : PySem.W.Frag} {S : Addr → Prop} {H : Hp} : ∀ {d : PyData} {v : V}, R S H v d → noDic d = true → Dp K H v d
  | .none, _, h, _ => by cases h; exact .non
  | .bool _, _, h, _ => by cases h; exact .bl _
  | .int _, _, h, _ => by cases h; exact .int _
  | .str _, _, h, _ => by cases h; exact .str _
  | .list ds, _, h, z => by
    cases h with
    | lst s e r => exact .lst (sqL e) (RA.dp r z)
  | .tuple ds, _, h, z => by
    cases h with
    | tup e r => exact .tup (sqT e) (RA.dp r z)
  | .dict _, _, h, z => by cases z
theorem RA.dp {K : PySem.W.Frag} {S : Addr → Prop} {H : Hp} : ∀ {ds : List PyData} {vs : List V}, RA S H vs ds → noDics ds = true → DpAll K H vs ds
  | [], _, h, _ => by cases h; exact .nil
  | d :: ds, _, h, z => by
    obtain ⟨z1, z2⟩ := Bool.and_eq_true_iff.mp (show (noDic d && noDics ds) = true from z)
    cases h with
    | cons a b => exact .cons (R.dp a z1) (RA.dp b z2)
end
end
section
section
variable {X : Cx}
def oAdd : R2 := rI0 fun i j => .int (i + j)
def oSub : R2 := rI0 fun i j => .int (i - j)
def oMul : R2 := rI CMul fun i j => .int (i * j)
def oFdiv : R2 := rI CDivW fun i j => .int (i / j)
def oMod : R2 := rI (fun _ j => 0 < j) fun i j => .int (i % j)
def CPowW (i j : Int) : Prop := 0 ≤ j ∧ (Builtin.Int.intBits i : Int) * j ≤ 2 ^ 27
def oPow : R2 := rI CPowW fun i j => .int (i ^ j.toNat)
def oLt : R2 := rI0 fun i j => .bl (decide (i < j))
def oLe : R2 := rI0 fun i j => .bl (decide (i ≤ j))
def oGt : R2 := rI0 fun i j => .bl (decide (j < i))
def oGe : R2 := rI0 fun i j => .bl (decide (j ≤ i))
def oAddS : R2 := fun x y H Q => ∃ i j, x = .str i ∧ y = .str j ∧ i.length + j.length ≤ sizeLine ∧ Q (.str (i ++ j)) H
def oLtS : R2 := fun x y H Q => ∃ i j, x = .str i ∧ y = .str j ∧ Q (.bl (decide (i.cps.toList < j.cps.toList))) H
def oGeS : R2 := fun x y H Q => ∃ i j, x = .str i ∧ y = .str j ∧ Q (.bl (!decide (i.cps.toList < j.cps.toList))) H
def oInC : R2 := fun x y H Q => ∃ (c : Nat) (z : Str), x = .str ⟨#[c]⟩ ∧ y = .str z ∧ Q (.bl (decide (c ∈ z.cps.toList))) H
def oNotInC : R2 := fun x y H Q => ∃ (c : Nat) (z : Str), x = .str ⟨#[c]⟩ ∧ y = .str z ∧ Q (.bl (!decide (c ∈ z.cps.toList))) H
def oIsN : R2 := fun x y H Q => y = .non ∧ Q (.bl (decide (x = .non))) H
def oNotN : R2 := fun x y H Q => y = .non ∧ Q (.bl (!decide (x = .non))) H
def oIsB : R2 := fun x y H Q => ∃ a b, x = .bl a ∧ y = .bl b ∧ Q (.bl (decide (a = b))) H
def oNotB : R2 := fun x y H Q => ∃ a b, x = .bl a ∧ y = .bl b ∧ Q (.bl (!decide (a = b))) H
def oNotInKd (K : PySem.W.Frag) (d : Addr) : R2 := fun x y H Q => ∃ (z : Str) (r : Option Value), x = .str z ∧ y = .ref d ∧ PySem.W.nsIn K d z = some r ∧ Q (.bl (!r.isSome)) H
def oEqD : R2 := fun x y H Q => ∃ (d e : PyData) (S S' : Addr → Prop), R S H x d ∧ R S' H y e ∧ noDic d = true ∧ noDic e = true ∧ min d.depth e.depth ≤ 60 ∧ Q (.bl (PyData.eqv d e)) H
def oNeD : R2 := fun x y H Q => ∃ (d e : PyData) (S S' : Addr → Prop), R S H x d ∧ R S' H y e ∧ noDic d = true ∧ noDic e = true ∧ min d.depth e.depth ≤ 60 ∧ Q (.bl (!PyData.eqv d e)) H
theorem p_eqD (hu : X.A.units + 64 < cLine) : OpR X (compareOp .Eq) oEqD := by
  intro pins s σ H x y v u Q I rx ry h
  obtain ⟨d, e, S, S', hd, he, sd, se, hm, q⟩ := h
  obtain ⟨as, r1⟩ := Dp.reads I d x v (hd.dp sd) rx
  obtain ⟨bs, r2⟩ := Dp.reads I e y u (he.dp se) ry
  exact SeqAt.eq_plain r1 r2 sd se (by omega) ⟨.bl _, H, I, rfl, q⟩
theorem p_neD (hu : X.A.units + 64 < cLine) : OpR X (compareOp .NotEq) oNeD := by
  intro pins s σ H x y v u Q I rx ry h
  obtain ⟨d, e, S, S', hd, he, sd, se, hm, q⟩ := h
  obtain ⟨as, r1⟩ := Dp.reads I d x v (hd.dp sd) rx
  obtain ⟨bs, r2⟩ := Dp.reads I e y u (he.dp se) ry
  exact SeqAt.ne_plain r1 r2 sd se (by omega) ⟨.bl _, H, I, rfl, q⟩
def mJoin (K : PySem.W.Frag) : V → List V → Hp → VK → Prop := fun x xs H Q => ∃ a p, ∃ ys : List Str, x = .str a ∧ xs = [.ref p] ∧ (SqL K H p (ys.map V.str) ∨ SqT K H p (ys.map V.str)) ∧ (ys.map (·.length)).sum + ys.length * a.length ≤ 16777216 ∧ Q (.str (Txt.join a ys)) H
theorem p_add : OpR X (binaryOp .Add) oAdd := op_add
theorem p_sub : OpR X (binaryOp .Sub) oSub := op_sub
theorem p_mul : OpR X (binaryOp .Mult) oMul := op_mul
theorem p_fdiv : OpR X (binaryOp .FloorDiv) oFdiv := op_fdivW
theorem p_mod : OpR X (binaryOp .Mod) oMod := op_mod
theorem p_pow : OpR X (binaryOp .Pow) oPow := opI fun _ _ _ _ _ _ _ hc q => pow_int hc.1 hc.2 q
theorem p_lt : OpR X (compareOp .Lt) oLt := op_lt
theorem p_le : OpR X (compareOp .LtE) oLe := op_le
theorem p_gt : OpR X (compareOp .Gt) oGt := op_gt
theorem p_addS : OpR X (binaryOp .Add) oAddS := op_add_str
theorem p_ltS : OpR X (compareOp .Lt) oLtS := op_lt_str
theorem p_geS : OpR X (compareOp .GtE) oGeS := op_ge_str
theorem p_inC : OpR X (compareOp .In) oInC := op_in_sign
theorem p_notInC : OpR X (compareOp .NotIn) oNotInC := op_notIn_sign
theorem p_isN : OpR X (compareOp .Is) oIsN := op_isN
theorem p_notN : OpR X (compareOp .IsNot) oNotN := op_notN
theorem p_isB : OpR X (compareOp .Is) oIsB := op_is_bl
theorem p_notB : OpR X (compareOp .IsNot) oNotB := op_isnot_bl
def cMax : List V → Hp → VK → Prop := fun xs H Q => ∃ i j, xs = [.int i, .int j] ∧ Q (.int (if j > i then j else i)) H
def cMin : List V → Hp → VK → Prop := fun xs H Q => ∃ i j, xs = [.int i, .int j] ∧ Q (.int (if j < i then j else i)) H
def cAbs : List V → Hp → VK → Prop := fun xs H Q => ∃ i, xs = [.int i] ∧ Q (.int (if i < 0 then -i else i)) H
def cInt : List V → Hp → VK → Prop := fun xs H Q => (∃ i, xs = [.int i] ∧ Q (.int i) H) ∨ ∃ k, xs = [.bl k] ∧ Q (.int (if k then 1 else 0)) H
def cLenQ (K : PySem.W.Frag) : List V → Hp → VK → Prop := fun xs H Q => ∃ p ys, xs = [.ref p] ∧ (SqL K H p ys ∨ SqT K H p ys) ∧ Q (.int ys.length) H
def cLenS : List V → Hp → VK → Prop := fun xs H Q => ∃ z, xs = [.str z] ∧ z.length ≤ sizeLine ∧ Q (.int z.length) H
def cListD : List V → Hp → VK → Prop := fun xs H Q => ∃ (a : Addr) (kvs : List (Key × V)), xs = [.ref a] ∧ Rd H a (.dK kvs) ∧ ∀ p, H p = none → Q (.ref p) (upd H p (.lst (kvs.map fun kv => kV kv.1)))
theorem p_max (hc : X.calm = true) : CallR X (.builtin "max") cMax := call_max2 hc
theorem p_min (hc : X.calm = true) : CallR X (.builtin "min") cMin := call_min2 hc
theorem p_int : CallR X (.type "int") cInt := call_int1
theorem p_lenQ : CallR X (.builtin "len") (cLenQ X.K) := call_len_seq
theorem p_lenS : CallR X (.builtin "len") cLenS := call_len_str
theorem p_listD (hc : X.calm = true) : CallR X (.type "list") cListD := call_listD hc
end
section
variable {K : PySem.W.Frag} {σ : L2.St} {H : Hp} {D : Ends} {te ta tb tc : TE} {tr : TA} {g : TG} {gs : TGs} {t u : TS} {c c' : TT} {r r' : R2} {Q : VK} {QB : Bool → Hp → Prop} {QA : List V → Hp → Prop} {QS : L2.St → Hp → Prop} {QO : Option Int → Hp → Prop} {i j : Int} {n : Nat} {v x y : V} {vs xs : List V} {p a : Addr} {z z' : Str} {b : Bool}
theorem w_seq (h : t { D with nx := u D } σ H) : tSeq t u D σ H := h
theorem w_next (h : D.nx σ H) : tNext D σ H := h
theorem w_drop (h : te σ H fun _ H1 => D.nx σ H1) : tDrop te D σ H := h
theorem w_ret (h : te σ H D.rt) : tRet te D σ H := h
theorem w_retN (h : D.rt .non H) : tRetN D σ H := h
theorem w_if (h : c σ H fun b H1 => if b = true then t D σ H1 else u D σ H1) : tIfS c t u D σ H := h
theorem w_asg (h : te σ H fun x H1 => g x σ H1 D.nx) : tAsg te g D σ H := h
theorem w_gName (h : QS (σ.set n (some v)) H) : gName n v σ H QS := h
theorem w_gTup (h : H a = some (.tup xs)) (hl : xs.length = n) (q : gs xs σ H QS) : gTup K n gs (.ref a) σ H QS := ⟨a, xs, rfl, sqT h, hl, q⟩
theorem w_gCons (h : g v σ H fun σ' H' => gs vs σ' H' QS) : gCons g gs (v :: vs) σ H QS := ⟨v, vs, rfl, h⟩
theorem w_gNil (h : QS σ H) : gNil [] σ H QS := ⟨rfl, h⟩
theorem w_gSub {to ti : TE} {ts : TSet} (h : to σ H fun o H1 => ti σ H1 fun i H2 => ts o i v H2 fun H3 => QS σ H3) : gSub to ti ts v σ H QS := h
theorem w_aug {ti : TIp} (h : σ[n]? = some (some x)) (q : te σ H fun y H1 => ti x y H1 fun z H2 => D.nx (σ.set n (some z)) H2) : tAug n te ti D σ H := ⟨x, h, q⟩
theorem w_ipI {f : Int → Int → Int} (q : Q (.int (f i j)) H) : ipI f (.int i) (.int j) H Q := ⟨i, j, rfl, rfl, q⟩
theorem w_var (h : σ[n]? = some (some v)) (q : Q v H) : tVar n σ H Q := ⟨v, h, q⟩
theorem w_c (q : Q v H) : tC v σ H Q := q
theorem w_op (h : ta σ H fun x H1 => tb σ H1 fun y H2 => r x y H2 Q) : tOp r ta tb σ H Q := h
theorem w_un {ru : V → Hp → VK → Prop} (h : ta σ H fun x H1 => ru x H1 Q) : tUn ru ta σ H Q := h
theorem w_neg (q : Q (.int (-i)) H) : rU (fun i => .int (-i)) (.int i) H Q := ⟨i, rfl, q⟩
theorem w_nil (q : QA [] H) : tNil σ H QA := q
theorem w_cons (h : ta σ H fun x H1 => tr σ H1 fun xs H2 => QA (x :: xs) H2) : tCons ta tr σ H QA := h
theorem w_cb {rc : List V → Hp → VK → Prop} (h : tr σ H fun vs H1 => rc vs H1 Q) : tCB rc tr σ H Q := h
theorem w_call {sp : Sp} {dvs : List V} {E : XK} (h : tr σ H fun vs H1 => sp (vs ++ dvs) H1 Q E) : tCall sp dvs E tr σ H Q := h
theorem w_test (h : te σ H fun x H' => ∃ k, x = .bl k ∧ QB k H') : tTest te σ H QB := h
theorem w_B (h : te σ H fun x H' => ∃ k, x = .bl k ∧ QB k H') : tB te σ H QB := h
theorem w_isbl {P : Bool → Prop} (q : P b) : ∃ k, V.bl b = .bl k ∧ P k := ⟨b, rfl, q⟩
theorem w_and (h : c σ H fun b H1 => if b = true then c' σ H1 QB else QB false H1) : tAnd c c' σ H QB := h
theorem w_or (h : c σ H fun b H1 => if b = true then QB true H1 else c' σ H1 QB) : tOr c c' σ H QB := h
theorem w_not (h : c σ H fun b H1 => QB (!b) H1) : tNot c σ H QB := h
theorem w_andV (h : ta σ H fun x H1 => ∃ c, x = .bl c ∧ if c = true then tb σ H1 Q else Q (.bl false) H1) : tAndV ta tb σ H Q := h
theorem w_orV (h : ta σ H fun x H1 => ∃ c, x = .bl c ∧ if c = true then Q (.bl true) H1 else tb σ H1 Q) : tOrV ta tb σ H Q := h
theorem w_notV (h : ta σ H fun x H1 => ∃ c, x = .bl c ∧ Q (.bl (!c)) H1) : tNotV ta σ H Q := h
theorem w_ifE (h : c σ H fun b H1 => if b = true then ta σ H1 Q else tb σ H1 Q) : tIf c ta tb σ H Q := h
theorem w_chain (h : ta σ H fun x H1 => tb σ H1 fun y H2 => r x y H2 fun z H3 => ∃ k, z = .bl k ∧ (if k = true then tc σ H3 fun w' H4 => r' y w' H4 Q else Q (.bl false) H3)) : tChain r r' ta tb tc σ H Q := h
/-- the last part of a display -/
def KTup (Q : VK) : List V → Hp → Prop := fun xs H1 => xs.length ≤ sizeLine ∧ ∀ p, H1 p = none → Q (.ref p) (upd H1 p (.tup xs))
def KLst (Q : VK) : List V → Hp → Prop := fun xs H1 => xs.length ≤ sizeLine ∧ ∀ p, H1 p = none → Q (.ref p) (upd H1 p (.lst xs))
theorem w_tup1 (h : tr σ H (KTup Q)) : tTup tr σ H Q := h
theorem w_lst1 (h : tr σ H (KLst Q)) : tLst tr σ H Q := h
theorem k_tup {H1 : Hp} (hl : xs.length ≤ sizeLine) (h : ∀ p H2, H1 p = none → Chg [] H1 H2 → H2 p = some (.tup xs) → Q (.ref p) H2) : KTup Q xs H1 := ⟨hl, fun p np => h p _ np (.new np) upd_same⟩
theorem k_lst {H1 : Hp} (hl : xs.length ≤ sizeLine) (h : ∀ p H2, H1 p = none → Chg [] H1 H2 → H2 p = some (.lst xs) → Q (.ref p) H2) : KLst Q xs H1 := ⟨hl, fun p np => h p _ np (.new np) upd_same⟩
/-- a new object -/
theorem d_new {H1 : Hp} {o : HO} (h : ∀ p H2, H1 p = none → Chg [] H1 H2 → H2 p = some o → Q (.ref p) H2) : ∀ p, H1 p = none → Q (.ref p) (upd H1 p o) := fun p np => h p _ np (.new np) upd_same
theorem w_add (q : Q (.int (i + j)) H) : oAdd (.int i) (.int j) H Q := ⟨i, j, rfl, rfl, q⟩
theorem w_sub (q : Q (.int (i - j)) H) : oSub (.int i) (.int j) H Q := ⟨i, j, rfl, rfl, q⟩
theorem w_mul (h : CMul i j) (q : Q (.int (i * j)) H) : oMul (.int i) (.int j) H Q := ⟨i, j, rfl, rfl, h, q⟩
theorem w_fdiv (h : CDivW i j) (q : Q (.int (i / j)) H) : oFdiv (.int i) (.int j) H Q := ⟨i, j, rfl, rfl, h, q⟩
theorem w_mod (h : 0 < j) (q : Q (.int (i % j)) H) : oMod (.int i) (.int j) H Q := ⟨i, j, rfl, rfl, h, q⟩
theorem w_pow (h : CPowW i j) (q : Q (.int (i ^ j.toNat)) H) : oPow (.int i) (.int j) H Q := ⟨i, j, rfl, rfl, h, q⟩
theorem w_lt (q : Q (.bl (decide (i < j))) H) : oLt (.int i) (.int j) H Q := ⟨i, j, rfl, rfl, q⟩
theorem w_le (q : Q (.bl (decide (i ≤ j))) H) : oLe (.int i) (.int j) H Q := ⟨i, j, rfl, rfl, q⟩
theorem w_gt (q : Q (.bl (decide (j < i))) H) : oGt (.int i) (.int j) H Q := ⟨i, j, rfl, rfl, q⟩
theorem w_ge (q : Q (.bl (decide (j ≤ i))) H) : oGe (.int i) (.int j) H Q := ⟨i, j, rfl, rfl, q⟩
theorem w_addS (h : z.length + z'.length ≤ sizeLine) (q : Q (.str (z ++ z')) H) : oAddS (.str z) (.str z') H Q := ⟨z, z', rfl, rfl, h, q⟩
theorem w_ltS (q : Q (.bl (decide (z.cps.toList < z'.cps.toList))) H) : oLtS (.str z) (.str z') H Q := ⟨z, z', rfl, rfl, q⟩
theorem w_geS (q : Q (.bl (!decide (z.cps.toList < z'.cps.toList))) H) : oGeS (.str z) (.str z') H Q := ⟨z, z', rfl, rfl, q⟩
theorem w_inC {c : Nat} (q : Q (.bl (decide (c ∈ z.cps.toList))) H) : oInC (.str ⟨#[c]⟩) (.str z) H Q := ⟨c, z, rfl, rfl, q⟩
theorem w_notInC {c : Nat} (q : Q (.bl (!decide (c ∈ z.cps.toList))) H) : oNotInC (.str ⟨#[c]⟩) (.str z) H Q := ⟨c, z, rfl, rfl, q⟩
theorem w_isN (q : Q (.bl (decide (x = .non))) H) : oIsN x .non H Q := ⟨rfl, q⟩
theorem w_notN (q : Q (.bl (!decide (x = .non))) H) : oNotN x .non H Q := ⟨rfl, q⟩
theorem w_isB {b' : Bool} (q : Q (.bl (decide (b = b'))) H) : oIsB (.bl b) (.bl b') H Q := ⟨b, b', rfl, rfl, q⟩
theorem w_notB {b' : Bool} (q : Q (.bl (!decide (b = b'))) H) : oNotB (.bl b) (.bl b') H Q := ⟨b, b', rfl, rfl, q⟩
theorem w_eq (h : scal x y = true) (q : Q (.bl (decide (x = y))) H) : rEq x y H Q := ⟨h, q⟩
theorem w_ne (h : scal x y = true) (q : Q (.bl (!decide (x = y))) H) : rNe x y H Q := ⟨h, q⟩
theorem w_eqD {d e : PyData} {S S' : Addr → Prop} (hd : R S H x d) (he : R S' H y e) (sd : noDic d = true) (se : noDic e = true) (hm : min d.depth e.depth ≤ 60) (q : Q (.bl (PyData.eqv d e)) H) : oEqD x y H Q := ⟨d, e, S, S', hd, he, sd, se, hm, q⟩
theorem w_neD {d e : PyData} {S S' : Addr → Prop} (hd : R S H x d) (he : R S' H y e) (sd : noDic d = true) (se : noDic e = true) (hm : min d.depth e.depth ≤ 60) (q : Q (.bl (!PyData.eqv d e)) H) : oNeD x y H Q := ⟨d, e, S, S', hd, he, sd, se, hm, q⟩
theorem w_m1 {rm : V → List V → Hp → VK → Prop} (h : ta σ H fun x H1 => (∃ a, x = .str a) ∧ tb σ H1 fun y H2 => rm x [y] H2 Q) : tM1 rm ta tb σ H Q := h
theorem w_isstr {P : Prop} (q : P) : (∃ a, V.str z = .str a) ∧ P := ⟨⟨z, rfl⟩, q⟩
theorem w_join {ys : List Str} (h : SqL K H p (ys.map V.str)) (hs : (ys.map (·.length)).sum + ys.length * z.length ≤ 16777216) (q : Q (.str (Txt.join z ys)) H) : mJoin K (.str z) [.ref p] H Q := ⟨z, p, ys, rfl, rfl, .inl h, hs, q⟩
theorem w_ixL (h : SqL K H p xs) (ha : atI xs i = some v) (q : Q v H) : rIxL K (.ref p) (.int i) H Q := ⟨p, xs, i, v, rfl, rfl, h, ha, q⟩
theorem w_ixT (h : H p = some (.tup xs)) (ha : atI xs i = some v) (q : Q v H) : rIxT K (.ref p) (.int i) H Q := ⟨p, xs, i, v, rfl, rfl, sqT h, ha, q⟩
theorem w_ixS {c : Nat} (h : z.length ≤ sizeLine) (ha : atI z.cps.toList i = some c) (q : Q (.str ⟨#[c]⟩) H) : rIxS (.str z) (.int i) H Q := ⟨z, i, c, rfl, rfl, h, ha, q⟩
theorem w_setL {k : Nat} {P : Hp → Prop} (h : H p = some (.lst xs)) (ha : ixN xs.length i = some k) (q : ∀ H', Chg [p] H H' → H' p = some (.lst (xs.set k v)) → P H') : rSetL (.ref p) (.int i) v H P :=
  ⟨p, xs, i, k, rfl, rfl, h, ha, q _ (.mut h fun _ z => nomatch z) upd_same⟩
theorem w_max (q : Q (.int (if j > i then j else i)) H) : cMax [.int i, .int j] H Q := ⟨i, j, rfl, q⟩
theorem w_min (q : Q (.int (if j < i then j else i)) H) : cMin [.int i, .int j] H Q := ⟨i, j, rfl, q⟩
theorem w_abs (q : Q (.int (if i < 0 then -i else i)) H) : cAbs [.int i] H Q := ⟨i, rfl, q⟩
theorem w_intB (q : Q (.int (if b then 1 else 0)) H) : cInt [.bl b] H Q := .inr ⟨b, rfl, q⟩
theorem w_intI (q : Q (.int i) H) : cInt [.int i] H Q := .inl ⟨i, rfl, q⟩
theorem w_lenL (h : SqL K H p xs) (q : Q (.int xs.length) H) : cLenQ K [.ref p] H Q := ⟨p, xs, rfl, .inl h, q⟩
theorem w_lenT (h : H p = some (.tup xs)) (q : Q (.int xs.length) H) : cLenQ K [.ref p] H Q := ⟨p, xs, rfl, .inr (sqT h), q⟩
theorem w_lenS (h : z.length ≤ sizeLine) (q : Q (.int z.length) H) : cLenS [.str z] H Q := ⟨z, rfl, h, q⟩
theorem w_listD {kvs : List (Key × V)} (h : H p = some (.dK kvs)) (q : ∀ p' H2, H p' = none → Chg [] H H2 → H2 p' = some (.lst (kvs.map fun kv => kV kv.1)) → Q (.ref p') H2) : cListD [.ref p] H Q := ⟨p, kvs, rfl, .inl h, d_new q⟩
theorem w_all {bs : List Bool} (h : H p = some (.lst (bs.map V.bl))) (q : Q (.bl (bs.all id)) H) : rAll K [.ref p] H Q := ⟨p, bs, rfl, sqL h, q⟩
theorem w_append (h : H p = some (.lst xs)) (hl : xs.length < sizeLine) (q : ∀ H', Chg [p] H H' → H' p = some (.lst (xs ++ [y])) → Q .non H') : rAppend (.ref p) [y] H Q :=
  ⟨p, xs, y, rfl, rfl, h, hl, q _ (.mut h fun _ z => nomatch z) upd_same⟩
theorem w_bm {T : String} {rm : V → List V → Hp → VK → Prop} (h : te σ H fun x H1 => tyV K T x H1 ∧ tr σ H1 fun ys H2 => rm x ys H2 Q) : tBM K T rm te tr σ H Q := h
theorem w_bm0 {T : String} {rm : V → List V → Hp → VK → Prop} (h : te σ H fun x H1 => tyV K T x H1 ∧ rm x [] H1 Q) : tBM0 K T rm te σ H Q := h
theorem w_tyL {A : Prop} (h : H p = some (.lst xs)) (q : A) : tyV K "list" (.ref p) H ∧ A := ⟨.inl ⟨rfl, _, sqL h⟩, q⟩
theorem w_part (h : te σ H fun x H1 => ∃ i, x = .int i ∧ QO (some i) H1) : tPart te σ H QO := h
theorem w_isint {P : Int → Prop} (q : P i) : ∃ k, V.int i = .int k ∧ P k := ⟨i, rfl, q⟩
theorem w_noPart (h : QO none H) : tNoPart σ H QO := h
theorem w_sl {rs : V → Option Int → Option Int → Hp → VK → Prop} {tl th : TO} (h : te σ H fun x H1 => tl σ H1 fun l H2 => th σ H2 fun u H3 => rs x l u H3 Q) : tSl rs te tl th σ H Q := h
theorem w_slS {lo hi : Option Int} (h : z.length ≤ sizeLine) (q : Q (.str (cutS z lo hi)) H) : rSlS (.str z) lo hi H Q := ⟨z, rfl, h, q⟩
theorem w_slL {lo hi : Option Int} (h : SqL K H p xs) (q : ∀ p' H2, H p' = none → Chg [] H H2 → H2 p' = some (.lst (cutV xs lo hi)) → Q (.ref p') H2) : rSlL K (.ref p) lo hi H Q := ⟨p, xs, rfl, h, d_new q⟩
/-- tests -/
theorem w_iteT {A B : Prop} (h : A) : if true = true then A else B := iteT h
theorem w_iteF {A B : Prop} (h : B) : if false = true then A else B := iteF h
theorem w_iteB {A B : Prop} (h1 : b = true → A) (h2 : b = false → B) : if b = true then A else B := by
  cases b with
  | true => exact iteT (h1 rfl)
  | false => exact iteF (h2 rfl)
theorem w_iteD {P A B : Prop} [Decidable P] (h1 : P → A) (h2 : ¬ P → B) : if decide P = true then A else B := w_iteB (fun e => h1 (of_decide_eq_true e)) (fun e => h2 (of_decide_eq_false e))
theorem w_iteN {A B : Prop} (h : if b = true then B else A) : if (!b) = true then A else B := by cases b <;> simpa using h
theorem w_iteYes {A B : Prop} (e : b = true) (h : A) : if b = true then A else B := by rw [e]; exact iteT h
theorem w_iteNo {A B : Prop} (e : b = false) (h : B) : if b = true then A else B := by rw [e]; exact iteF h
end
section
variable {K : PySem.W.Frag} {σ : L2.St} {H : Hp} {D : Ends} {td ty tv : TE} {p : Addr} {v : V} {k : Key} {kvs : List (Key × V)}
theorem w_dput (h : tv σ H fun v H1 => td σ H1 fun x H2 => ty σ H2 fun y H3 => ∃ a H4, x = .ref a ∧ DPut H3 a y v H4 ∧ D.nx σ H4) : sDPut td ty tv D σ H := h
theorem d_dput {A : Hp → Prop} (h : H p = some (.dK kvs)) (hl : kvs.length < sizeLine) (q : ∀ H', Chg [p] H H' → H' p = some (.dK (putK kvs k v)) → A H') : ∃ a H4, V.ref p = .ref a ∧ DPut H a (kV k) v H4 ∧ A H4 :=
  ⟨p, _, rfl, .k h hl, q _ (.mut h fun _ z => nomatch z) upd_same⟩
theorem w_dnewK {Q : VK} (q : ∀ p H2, H p = none → Chg [] H H2 → H2 p = some (.dK []) → Q (.ref p) H2) : tDNewK σ H Q := d_new q
end
theorem at0 {α : Type} {x0 : α} {xs : List α} : atI (x0 :: xs) 0 = some x0 := atI_nat (j := 0) rfl
theorem at1 {α : Type} {x0 x1 : α} {xs : List α} : atI (x0 :: x1 :: xs) 1 = some x1 := atI_nat (j := 1) rfl
theorem at2 {α : Type} {x0 x1 x2 : α} {xs : List α} : atI (x0 :: x1 :: x2 :: xs) 2 = some x2 := atI_nat (j := 2) rfl
theorem at3 {α : Type} {x0 x1 x2 x3 : α} {xs : List α} : atI (x0 :: x1 :: x2 :: x3 :: xs) 3 = some x3 := atI_nat (j := 3) rfl
theorem atN {α : Type} {xs : List α} {i : Int} {v : α} (h0 : 0 ≤ i) (h : xs[i.toNat]? = some v) : atI xs i = some v := by
  have e : ((i.toNat : Nat) : Int) = i := by omega
  have q := atI_nat (xs := xs) h
  rw [e] at q
  exact q
/-- at a drawn place -/
theorem atD {α : Type} {xs : List α} {i : Int} (h0 : 0 ≤ i) (h1 : i < xs.length) : ∃ v, atI xs i = some v ∧ v ∈ xs := by
  have hl : i.toNat < xs.length := by omega
  exact ⟨xs[i.toNat], atN h0 (List.getElem?_eq_getElem hl), List.getElem_mem hl⟩
theorem ixD {n : Nat} {i : Int} (h0 : 0 ≤ i) (h1 : i < n) : ixN n i = some i.toNat := by
  unfold ixN
  rw [if_pos h0, if_pos h1]
end
section
/-- what holds ahead of the i-th turn: D the new list, Iv by the address, the turn, the list so far, the heap -/
def LcP (D : Addr) (Iv : Addr → Nat → List V → Hp → Prop) (i : Nat) : Hp → Prop := fun H5 => ∃ acc, acc.length = i ∧ H5 D = some (.lst acc) ∧ Iv D i acc H5
/-- what is wanted of an item -/
def LcK (D : Addr) (Iv : Addr → Nat → List V → Hp → Prop) (i : Nat) : VK := fun y H4 => ∃ acc, H4 D = some (.lst acc) ∧ acc.length < sizeLine ∧ LcP D Iv (i + 1) (upd H4 D (.lst (acc ++ [y])))
theorem lc_end {D : Addr} {Iv : Addr → Nat → List V → Hp → Prop} {i : Nat} {y : V} {H4 : Hp} {acc : List V} (h : H4 D = some (.lst acc)) (hl : acc.length = i) (hz : i ≤ 100000) (q : ∀ H5, Chg [D] H4 H5 → H5 D = some (.lst (acc ++ [y])) → Iv D (i + 1) (acc ++ [y]) H5) : LcK D Iv i y H4 := by
  subst hl
  exact ⟨acc, h, Nat.lt_of_le_of_lt hz (by decide), acc ++ [y], by simp, upd_same, q _ (.mut h fun _ e => nomatch e) upd_same⟩
theorem w_lcW {J : It} {n : Nat} {G : Hp → Prop} {Y : Nat → Hp → V → Hp → Prop} {g : TG} {te : TE} {tt : TT} {vs : List Nat} {σ : L2.St} {H : Hp} {Q : Addr → Hp → Prop} (w : L2.Walk J n G Y) (Iv : Addr → Nat → List V → Hp → Prop)
    (h0 : ∀ D H1, H D = none → Chg [] H H1 → H1 D = some (.lst []) → Iv D 0 [] H1) (hG : ∀ D i acc H1, i ≤ n → H D = none → Iv D i acc H1 → G H1)
    (hs : ∀ D i acc x H1 H2, i < n → H D = none → H1 D = some (.lst acc) → acc.length = i → Iv D i acc H1 → Y i H1 x H2 → g x (wipe σ vs) H2 fun σ2 H3 => wipe σ2 vs = wipe σ vs ∧
      tt σ2 H3 fun b H3 => if b = true then te σ2 H3 (LcK D Iv i) else LcP D Iv (i + 1) H3)
    (hd : ∀ D acc H1, H D = none → acc.length = n → H1 D = some (.lst acc) → Iv D n acc H1 → Q D H1) :
    ∀ D, H D = none → ∃ W : Nat → Nat → Hp → Prop, (∃ m, W 0 m (upd H D (.lst []))) ∧ ∀ i m H, W i m H →
      (J.stop i H ∧ Q D H) ∨ (J.go i H ∧ ∃ Nx : Hp → Prop, (∀ H', Nx H' → ∃ m', m' < m ∧ W (i + 1) m' H') ∧ ∀ x H', J.yld i H x H' → g x (wipe σ vs) H' fun σ2 H2 => wipe σ2 vs = wipe σ vs ∧ tt σ2 H2 fun b H3 =>
        if b = true then te σ2 H3 fun y H4 => ∃ acc, H4 D = some (.lst acc) ∧ acc.length < sizeLine ∧ Nx (upd H4 D (.lst (acc ++ [y]))) else Nx H3) := by
  intro D nD
  refine lc_it w (Qd := fun H => Q D H) (LcP D Iv) ⟨[], rfl, upd_same, h0 D _ nD (.new nD) upd_same⟩ (fun i H1 hi ⟨acc, _, _, q⟩ => hG D i acc H1 hi nD q) (fun i x H1 H2 hi hp y => ?_) (fun H1 ⟨acc, e, h, q⟩ => hd D acc H1 nD e h q)
  obtain ⟨acc, e, h, q⟩ := hp
  exact hs D i acc x H1 H2 hi nD h e q y
/-- each turn only makes new things (or changes M): Ys tells what the i-th is, Jv what else holds -/
def IvP (H : Hp) (M : List Addr) (Jv : Nat → Hp → Prop) (Ys : Nat → V → Hp → Prop) : Addr → Nat → List V → Hp → Prop := fun _ i acc H1 => Chg M H H1 ∧ Jv i H1 ∧ ∀ j y, acc[j]? = some y → Ys j y H1
theorem lcp_end {H : Hp} {M : List Addr} {Jv : Nat → Hp → Prop} {Ys : Nat → V → Hp → Prop} {D : Addr} {i : Nat} {y : V} {acc : List V} {H1 H4 : Hp} (jst : ∀ i H1 H2 p, H p = none → Chg [p] H1 H2 → Jv i H1 → Jv i H2)
    (yst : ∀ i y H1 H2 p, H p = none → Chg (p :: M) H1 H2 → Ys i y H1 → Ys i y H2) (nD : H D = none) (hM : ∀ a ∈ M, H a ≠ none) (hD : H1 D = some (.lst acc)) (hl : acc.length = i) (hz : i ≤ 100000) (iv : IvP H M Jv Ys D i acc H1)
    (c : Chg M H1 H4) (jq : Jv (i + 1) H4) (yq : Ys i y H4) : LcK D (IvP H M Jv Ys) i y H4 := by
  obtain ⟨c0, _, q⟩ := iv
  refine lc_end (c.keep _ _ hD fun hm => hM D hm nD) hl hz fun H5 c5 h5 => ⟨?_, jst _ _ _ D nD c5 jq, fun j y' e => ?_⟩
  · exact (c0.both c).go c5 fun a ha => .inr (by rw [List.mem_singleton.mp ha]; exact nD)
  · by_cases hj : j < acc.length
    · rw [List.getElem?_append_left hj] at e
      exact yst j y' H4 H5 D nD (c5.wide (by simp)) (yst j y' H1 H4 D nD (c.wide (by intro a ha; exact List.mem_cons_of_mem _ ha)) (q j y' e))
    · have hj2 : j = acc.length := by
        have := (List.getElem?_eq_some_iff.mp e).1
        rw [List.length_append, List.length_singleton] at this
        omega
      subst hj2
      rw [List.getElem?_append_right (Nat.le_refl _), Nat.sub_self] at e
      cases (Option.some.inj (show some y = some y' from e))
      rw [hl]
      exact yst i y H4 H5 D nD (c5.wide (by simp)) yq
theorem w_lcP {J : It} {n : Nat} {G : Hp → Prop} {Y : Nat → Hp → V → Hp → Prop} {g : TG} {te : TE} {tt : TT} {vs : List Nat} {σ : L2.St} {H : Hp} {Q : Addr → Hp → Prop} (w : L2.Walk J n G Y) (M : List Addr) (Jv : Nat → Hp → Prop) (Ys : Nat → V → Hp → Prop)
    (j0 : Jv 0 H) (jst : ∀ i H1 H2 p, H p = none → Chg [p] H1 H2 → Jv i H1 → Jv i H2) (hG : ∀ H1, Chg M H H1 → G H1)
    (hs : ∀ D i acc x H1 H2, i < n → H D = none → H1 D = some (.lst acc) → acc.length = i → IvP H M Jv Ys D i acc H1 → Chg M H H1 → Jv i H1 → Y i H1 x H2 → g x (wipe σ vs) H2 fun σ2 H3 => wipe σ2 vs = wipe σ vs ∧
      tt σ2 H3 fun b H3 => if b = true then te σ2 H3 (LcK D (IvP H M Jv Ys) i) else LcP D (IvP H M Jv Ys) (i + 1) H3)
    (hd : ∀ D acc H1, H D = none → Chg M H H1 → Jv n H1 → acc.length = n → H1 D = some (.lst acc) → (∀ i y, acc[i]? = some y → Ys i y H1) → Q D H1) :
    ∀ D, H D = none → ∃ W : Nat → Nat → Hp → Prop, (∃ m, W 0 m (upd H D (.lst []))) ∧ ∀ i m H, W i m H →
      (J.stop i H ∧ Q D H) ∨ (J.go i H ∧ ∃ Nx : Hp → Prop, (∀ H', Nx H' → ∃ m', m' < m ∧ W (i + 1) m' H') ∧ ∀ x H', J.yld i H x H' → g x (wipe σ vs) H' fun σ2 H2 => wipe σ2 vs = wipe σ vs ∧ tt σ2 H2 fun b H3 =>
        if b = true then te σ2 H3 fun y H4 => ∃ acc, H4 D = some (.lst acc) ∧ acc.length < sizeLine ∧ Nx (upd H4 D (.lst (acc ++ [y]))) else Nx H3) :=
  w_lcW w (IvP H M Jv Ys) (fun D H1 nD c _ => ⟨c.wide (by simp), jst _ _ _ D nD (c.wide (by simp)) j0, fun j y e => by simp at e⟩) (fun D i acc H1 _ _ q => hG H1 q.1) (fun D i acc x H1 H2 hi nD hD el iv y => hs D i acc x H1 H2 hi nD hD el iv iv.1 iv.2.1 y) (fun D acc H1 nD el hD ⟨c, j, q⟩ => hd D acc H1 nD c j el hD q)
section
variable {K : PySem.W.Frag} {σ : L2.St} {H : Hp} {te : TE} {tr : TA} {g : TG} {tt : TT} {vs : List Nat} {Q : VK} {a b : Addr} {xs ys : List V} {P : Prop} {RI : It → Hp → Prop} {D : Ends} {tb : TS} {wi : TI}
theorem w_lc (h : wi σ H fun J H1 => ∀ D, H1 D = none → ∃ W : Nat → Nat → Hp → Prop, (∃ m, W 0 m (upd H1 D (.lst []))) ∧ ∀ i m H, W i m H →
  (J.stop i H ∧ Q (.ref D) H) ∨ (J.go i H ∧ ∃ Nx : Hp → Prop, (∀ H', Nx H' → ∃ m', m' < m ∧ W (i + 1) m' H') ∧ ∀ x H', J.yld i H x H' → g x (wipe σ vs) H' fun σ2 H2 => wipe σ2 vs = wipe σ vs ∧ tt σ2 H2 fun b H3 =>
    if b = true then te σ2 H3 fun y H4 => ∃ acc, H4 D = some (.lst acc) ∧ acc.length < sizeLine ∧ Nx (upd H4 D (.lst (acc ++ [y]))) else Nx H3)) : tLc wi g tt te vs σ H Q := h
theorem w_for (h : wi σ H fun J H1 => ∃ W : Nat → Nat → L2.St → Hp → Prop, (∃ m, W 0 m σ H1) ∧ ∀ i m σ H, W i m σ H →
  (J.stop i H ∧ D.nx σ H) ∨ (J.go i H ∧ ∃ N : L2.St → Hp → Prop, (∀ σ' H', N σ' H' → ∃ m', m' < m ∧ W (i + 1) m' σ' H') ∧ ∀ x H', J.yld i H x H' → g x σ H' fun σ2 H2 => tb { D with nx := N, ct := N, bk := D.nx } σ2 H2)) : tFor wi g tb D σ H := h
theorem w_yes {QB : Bool → Hp → Prop} (h : QB true H) : tYes σ H QB := h
theorem w_wipe {σ2 : L2.St} (h : wipe σ2 vs = wipe σ vs) (q : P) : wipe σ2 vs = wipe σ vs ∧ P := ⟨h, q⟩
theorem w_iList (h : te σ H fun x H1 => ∃ a, x = .ref a ∧ (∃ xs, SqL K H1 a xs) ∧ RI (Itl K a) H1) : iList K te σ H RI := h
theorem w_iTup (h : te σ H fun x H1 => ∃ a, x = .ref a ∧ (∃ xs, SqT K H1 a xs) ∧ RI (Itt K a) H1) : iTup K te σ H RI := h
theorem d_iList {A : Addr → Prop} (h : SqL K H a xs) (q : A a) : ∃ a', V.ref a = .ref a' ∧ (∃ xs, SqL K H a' xs) ∧ A a' := ⟨a, rfl, ⟨xs, h⟩, q⟩
theorem d_iTup {A : Addr → Prop} (h : H a = some (.tup xs)) (q : A a) : ∃ a', V.ref a = .ref a' ∧ (∃ xs, SqT K H a' xs) ∧ A a' := ⟨a, rfl, ⟨xs, sqT h⟩, q⟩
theorem w_iStr (h : te σ H fun v H1 => ∃ x, v = .str x ∧ RI (Its x) H1) : iStr te σ H RI := h
theorem d_iStr {z : Str} {A : Str → Prop} (q : A z) : ∃ x, V.str z = .str x ∧ A x := ⟨z, rfl, q⟩
theorem w_iRng1 (h : tr σ H fun vs H1 => ∃ j : Int, vs = [.int j] ∧ -(2 ^ 62) ≤ j ∧ j < 2 ^ 62 ∧ RI (Itr 0 j.toNat) H1) : iRng1 tr σ H RI := h
theorem d_iRng1 {j : Int} {A : Int → Prop} (h1 : -(2 ^ 62) ≤ j) (h2 : j < 2 ^ 62) (q : A j) : ∃ j' : Int, [V.int j] = [.int j'] ∧ -(2 ^ 62) ≤ j' ∧ j' < 2 ^ 62 ∧ A j' := ⟨j, rfl, h1, h2, q⟩
theorem w_iRng2 (h : tr σ H fun vs H1 => ∃ i j : Int, vs = [.int i, .int j] ∧ (-(2 ^ 62) ≤ i ∧ i < 2 ^ 62 ∧ -(2 ^ 62) ≤ j ∧ j < 2 ^ 62) ∧ RI (Itr i (j - i).toNat) H1) : iRng2 tr σ H RI := h
theorem d_iRng2 {i j : Int} {A : Int → Int → Prop} (h0 : -(2 ^ 62) ≤ i) (h0' : i < 2 ^ 62) (h1 : -(2 ^ 62) ≤ j) (h2 : j < 2 ^ 62) (q : A i j) : ∃ i' j' : Int, [V.int i, V.int j] = [.int i', .int j'] ∧ (-(2 ^ 62) ≤ i' ∧ i' < 2 ^ 62 ∧ -(2 ^ 62) ≤ j' ∧ j' < 2 ^ 62) ∧ A i' j' := ⟨i, j, rfl, ⟨h0, h0', h1, h2⟩, q⟩
theorem w_iZip (h : tr σ H fun vs H1 => ∃ a b xs ys, vs = [.ref a, .ref b] ∧ SqL K H1 a xs ∧ SqL K H1 b ys ∧ RI (Itz K a b) H1) : iZip K tr σ H RI := h
theorem d_iZip {A : Addr → Addr → Prop} (h : SqL K H a xs) (h' : SqL K H b ys) (q : A a b) : ∃ a' b' xs ys, [V.ref a, V.ref b] = [.ref a', .ref b'] ∧ SqL K H a' xs ∧ SqL K H b' ys ∧ A a' b' := ⟨a, b, xs, ys, rfl, h, h', q⟩
theorem w_iEnum (h : tr σ H fun vs H1 => ∃ a xs, vs = [.ref a] ∧ SqL K H1 a xs ∧ RI (Ite K a) H1) : iEnum K tr σ H RI := h
theorem d_iEnum {A : Addr → Prop} (h : SqL K H a xs) (q : A a) : ∃ a' xs, [V.ref a] = [.ref a'] ∧ SqL K H a' xs ∧ A a' := ⟨a, xs, rfl, h, q⟩
end
end
section
def letters : Str := "abcdefghijklmnopqrstuvwxyz"
def isLow (c : Nat) : Bool := decide (c ∈ letters.cps.toList)
def dInt : PyData → Bool
  | .int _ => true
  | .bool _ => true
  | _ => false
def dBool : PyData → Bool
  | .bool _ => true
  | _ => false
def dStr : PyData → Bool
  | .str _ => true
  | _ => false
def dTup : PyData → Bool
  | .tuple _ => true
  | _ => false
def dLst : PyData → Bool
  | .list _ => true
  | _ => false
def isWhole : PyData → Bool
  | .int _ => true
  | _ => false
def nameS (x : Str) : Bool := decide (1 ≤ x.length) && decide (x.length ≤ 8) && x.cps.toList.all isLow
def isName : PyData → Bool
  | .str x => nameS x
  | _ => false
def partsOf (z : Str) : Option Nat := if z = "arg" then some 0 else if z = "cell" then some 1 else if z = "add" then some 2 else if z = "less" then some 2 else if z = "least" then some 2 else none
def isExpr : Nat → PyData → Bool
  | 0, _ => false
  | _ + 1, .int _ => true
  | n + 1, .tuple (.str z :: ds) => (match partsOf z with
    | some k => decide (ds.length = k) && ds.all (isExpr n)
    | none => false)
  | _, _ => false
def skipOk (bh : Int) : PyData → Bool
  | .int k => decide (1 ≤ k) && decide (k ≤ bh)
  | _ => false
def inNm (ns : List Str) : PyData → Bool
  | .str x => decide (x ∈ ns)
  | _ => false
def step3 (ns : List Str) (bh : Int) (z : Str) (a b : PyData) : Bool :=
  if z = "cell" then isExpr 5 a && isExpr 5 b
  else if z = "skip" then isExpr 5 a && skipOk bh b
  else if z = "give" then isName a && isExpr 5 b
  else if z = "fork" ∨ z = "call" then isName a && isExpr 5 b && inNm ns a
  else false
def stepBody (ns : List Str) (bh : Int) (z : Str) : List PyData → Bool
  | [a, b] => step3 ns bh z a b
  | _ => false
def isStep (ns : List Str) (bh : Int) : PyData → Bool
  | .tuple (.str z :: ds) => if z = "wait" then decide (ds.length = 0) else stepBody ns bh z ds
  | _ => false
def rowOk : PyData → Bool
  | .tuple [.str x, .list _] => nameS x
  | _ => false
def rowName : PyData → Str
  | .tuple (.str x :: _) => x
  | _ => ""
def rowSteps : PyData → List PyData
  | .tuple [_, .list ds] => ds
  | _ => []
def ltS (x y : Str) : Bool := decide (x.cps.toList < y.cps.toList)
def rising : List Str → Bool
  | x :: y :: r => ltS x y && rising (y :: r)
  | _ => true
def hasForm : PyData → Bool
  | .list rows => rows.all rowOk && rising (rows.map rowName)
  | _ => false
/-- the first wrong one of steps, from place k on -/
def wrongAt (names : List Str) : Nat → List PyData → Option Nat
  | _, [] => none
  | k, d :: ds => if isStep names (ds.length : Int) d = true then wrongAt names (k + 1) ds else some k
def wrongIn (names : List Str) : List PyData → Option (Str × Nat)
  | [] => none
  | r :: rs => match wrongAt names 0 (rowSteps r) with
    | some k => some (rowName r, k)
    | none => wrongIn names rs
def rowsOf : PyData → List PyData
  | .list rows => rows
  | _ => []
def firstWrong (d : PyData) : Option (Option (Str × Nat)) :=
  if hasForm d = true then (wrongIn ((rowsOf d).map rowName) (rowsOf d)).map some else some none
def tyN : PyData → String
  | .none => "NoneType"
  | .bool _ => "bool"
  | .int _ => "int"
  | .str _ => "str"
  | .list _ => "list"
  | .tuple _ => "tuple"
  | .dict _ => "dict"
section
variable {K : PySem.W.Frag} {S : Addr → Prop} {H : Hp} {v : V} {d : PyData} {Q : VK}
theorem isi_of {v : V} {a b : String} {r : Bool} (t : TyX K H v (.type a)) (h : kitB a b = some r) (q : Q (.bl r) H) : rIsi K [v, .ty b] H Q := ⟨v, .ty b, _, _, r, rfl, .ty b, t, kit_ty h, q⟩
theorem R.tyx (r : R S H v d) : TyX K H v (.type (tyN d)) := by
  cases r with
  | non => exact .base .non
  | bl b => exact .base (.bl b)
  | int i => exact .base (.int i)
  | str x => exact .base (.str x)
  | lst s e r => exact .base (.lst e)
  | tup e r => exact .base (.tup e)
  | dic s e => exact .base (.dK e)
theorem w_isInt (r : R S H v d) (q : Q (.bl (dInt d)) H) : rIsi K [v, .ty "int"] H Q := by
  have t := r.tyx (K := K)
  cases d with
  | none => exact isi_of t (show kitB "NoneType" "int" = some false by decide +kernel) q
  | bool b => exact isi_of t (show kitB "bool" "int" = some true by decide +kernel) q
  | int i => exact isi_of t (show kitB "int" "int" = some true by decide +kernel) q
  | str x => exact isi_of t (show kitB "str" "int" = some false by decide +kernel) q
  | list ds => exact isi_of t (show kitB "list" "int" = some false by decide +kernel) q
  | tuple ds => exact isi_of t (show kitB "tuple" "int" = some false by decide +kernel) q
  | dict ds => exact isi_of t (show kitB "dict" "int" = some false by decide +kernel) q
theorem w_isBool (r : R S H v d) (q : Q (.bl (dBool d)) H) : rIsi K [v, .ty "bool"] H Q := by
  have t := r.tyx (K := K)
  cases d with
  | none => exact isi_of t (show kitB "NoneType" "bool" = some false by decide +kernel) q
  | bool b => exact isi_of t (show kitB "bool" "bool" = some true by decide +kernel) q
  | int i => exact isi_of t (show kitB "int" "bool" = some false by decide +kernel) q
  | str x => exact isi_of t (show kitB "str" "bool" = some false by decide +kernel) q
  | list ds => exact isi_of t (show kitB "list" "bool" = some false by decide +kernel) q
  | tuple ds => exact isi_of t (show kitB "tuple" "bool" = some false by decide +kernel) q
  | dict ds => exact isi_of t (show kitB "dict" "bool" = some false by decide +kernel) q
theorem w_isStr (r : R S H v d) (q : Q (.bl (dStr d)) H) : rIsi K [v, .ty "str"] H Q := by
  have t := r.tyx (K := K)
  cases d with
  | none => exact isi_of t (show kitB "NoneType" "str" = some false by decide +kernel) q
  | bool b => exact isi_of t (show kitB "bool" "str" = some false by decide +kernel) q
  | int i => exact isi_of t (show kitB "int" "str" = some false by decide +kernel) q
  | str x => exact isi_of t (show kitB "str" "str" = some true by decide +kernel) q
  | list ds => exact isi_of t (show kitB "list" "str" = some false by decide +kernel) q
  | tuple ds => exact isi_of t (show kitB "tuple" "str" = some false by decide +kernel) q
  | dict ds => exact isi_of t (show kitB "dict" "str" = some false by decide +kernel) q
theorem w_isTup (r : R S H v d) (q : Q (.bl (dTup d)) H) : rIsi K [v, .ty "tuple"] H Q := by
  have t := r.tyx (K := K)
  cases d with
  | none => exact isi_of t (show kitB "NoneType" "tuple" = some false by decide +kernel) q
  | bool b => exact isi_of t (show kitB "bool" "tuple" = some false by decide +kernel) q
  | int i => exact isi_of t (show kitB "int" "tuple" = some false by decide +kernel) q
  | str x => exact isi_of t (show kitB "str" "tuple" = some false by decide +kernel) q
  | list ds => exact isi_of t (show kitB "list" "tuple" = some false by decide +kernel) q
  | tuple ds => exact isi_of t (show kitB "tuple" "tuple" = some true by decide +kernel) q
  | dict ds => exact isi_of t (show kitB "dict" "tuple" = some false by decide +kernel) q
theorem w_isLst (r : R S H v d) (q : Q (.bl (dLst d)) H) : rIsi K [v, .ty "list"] H Q := by
  have t := r.tyx (K := K)
  cases d with
  | none => exact isi_of t (show kitB "NoneType" "list" = some false by decide +kernel) q
  | bool b => exact isi_of t (show kitB "bool" "list" = some false by decide +kernel) q
  | int i => exact isi_of t (show kitB "int" "list" = some false by decide +kernel) q
  | str x => exact isi_of t (show kitB "str" "list" = some false by decide +kernel) q
  | list ds => exact isi_of t (show kitB "list" "list" = some true by decide +kernel) q
  | tuple ds => exact isi_of t (show kitB "tuple" "list" = some false by decide +kernel) q
  | dict ds => exact isi_of t (show kitB "dict" "list" = some false by decide +kernel) q
end
structure Parts (K : PySem.W.Frag) (w : World) (dP : Addr) : Prop where
  kd : ∃ es n, KDict K w dP es n
  get : ∀ z k, partsOf z = some k → ∃ u, PySem.W.nsIn K dP z = some (some u) ∧ RelV (.int (k : Nat)) u
  no : ∀ z, partsOf z = none → PySem.W.nsIn K dP z = some none
section
variable {K : PySem.W.Frag} {w : World} {dP : Addr} {H : Hp} {Q : VK} {z : Str}
theorem w_notInP (T : Parts K w dP) (q : Q (.bl (!(partsOf z).isSome)) H) : oNotInKd K dP (.str z) (.ref dP) H Q := by
  cases e : partsOf z with
  | none => exact ⟨z, none, rfl, rfl, T.no z e, by rw [e] at q; exact q⟩
  | some k =>
    obtain ⟨u, e1, _⟩ := T.get z k e
    exact ⟨z, some u, rfl, rfl, e1, by rw [e] at q; exact q⟩
theorem w_ixP {k : Nat} (T : Parts K w dP) (e : partsOf z = some k) (q : Q (.int (k : Nat)) H) : rIxD K w (.ref dP) (.str z) H Q := by
  obtain ⟨u, e1, e2⟩ := T.get z k e
  obtain ⟨es, n, kd⟩ := T.kd
  exact ⟨dP, z, _, rfl, rfl, ⟨es, n, u, kd.at_, kd.lit, e1, e2⟩, q⟩
end
theorem cut1 (xs : List V) : cutV xs (some 1) none = xs.drop 1 := by
  unfold cutV
  rw [show HT.sIx xs.length 0 (some 1) = min 1 xs.length from HT.sIx_nat xs.length 0 1, HT.sIx_none]
  cases xs with
  | nil => rfl
  | cons x r =>
    rw [show min 1 (x :: r).length = 1 by
      rw [List.length_cons]
      omega]
    show (List.take ((x :: r).length - 1) r) = r
    rw [List.length_cons, Nat.add_sub_cancel]
    exact List.take_length
theorem w_slA {K : PySem.W.Frag} {p : Addr} {xs : List V} {lo hi : Option Int} {H : Hp} {Q : VK} (h : H p = some (.tup xs)) (q : ∀ p' H2, Chg [] H H2 → H2 p' = some (.tup (cutV xs lo hi)) → Q (.ref p') H2) : rSlA K (.ref p) lo hi H Q := by
  refine ⟨p, xs, rfl, sqT h, fun e => ?_, fun _ => d_new fun p' H2 _ c h2 => q p' H2 c h2⟩
  refine q p H .refl ?_
  have : cutV xs lo hi = xs := by
    unfold cutV
    rw [e.1, e.2]
    simp
  rw [this]
  exact h
theorem all_bl {bs : List Bool} {acc : List V} {n : Nat} (hl : acc.length = n) (hb : bs.length = n) (h : ∀ (i : Nat) (y : V), acc[i]? = some y → ∃ b : Bool, bs[i]? = some b ∧ y = .bl b) : acc = bs.map V.bl := by
  apply List.ext_getElem?
  intro i
  rw [List.getElem?_map]
  by_cases hi : i < n
  · have e1 : acc[i]? = some acc[i] := List.getElem?_eq_getElem (by omega)
    obtain ⟨b, e2, e3⟩ := h i _ e1
    rw [e1, e2, e3]
    rfl
  · rw [List.getElem?_eq_none (by omega), List.getElem?_eq_none (by omega)]
    rfl
end
section
/-- a def that may be called by its name, with these defaults behind -/
structure Cal (P : Program) (w : World) (K : PySem.W.Frag) (mg : Str → Option Value) (base : Heap) (k : Nat) (x : Str) (sp : Sp) (dvs : List V) : Prop where
  ex : ∃ (f : Addr) (fd : FuncData) (ps : List Str) (ds : List Value), FnOk P w K mg base CX0 k f fd ps sp ∧ mg x = some (.ref f) ∧ PySem.W.keepIn K (.ref f) = true ∧ Binds K fd ps ds ∧ Vals dvs ds
section
variable {X : Cx} {k j n mm : Nat} {x m : Str} {sp : Sp} {dvs : List V} {ks : List Str} {gV : List V → List V → List V} {p pos apos : Pos} {e o : Expr} {es : List Expr} {kws : List Keyword} {ta : TE} {t tk : TA}
theorem pe_c (c : Cal X.prog X.w X.K X.mg X.base k x sp dvs) (hr : Room j X.A) (hk : k ≤ j) (hg : Gl X x) (ha : PA X (e :: es) t)
    (hdb : (x == ("__debug__" : Str)) = false := by decide) (he : starEach (e :: es) X.env = (false, eval e X.env) :: starEach es X.env := by rfl) (hpl : (backTo pos (starEach es X.env)).any (·.1) = false := by rfl) :
    PE X (.Call (.Name x p) (e :: es) [] pos) (tCall sp dvs E0 t) := by
  obtain ⟨f, fd, ps, ds, F, hm, kp, b, d⟩ := c.ex
  exact pe_call F (hr.mono hk) hg hm kp b d pass0 ha hdb he hpl
theorem w_callN {σ : L2.St} {H : Hp} {Q : VK} {E : XK} {m : Nat} (h : t σ H fun vs H1 => tk σ H1 fun zs H2 => vs.length = n ∧ zs.length = m ∧ sp (gV vs zs) H2 Q E) : tCallN n m sp gV E t tk σ H Q := h
end
section
variable {P : Program} {w : World} {K : PySem.W.Frag} {mg : Str → Option Value} {base : Heap} {x : Str} {st : Stmt} {f : Addr} {fd : FuncData} {sp : Sp} {k : Nat}
/-- a def of the top as it stands, dvs its defaults -/
abbrev FnP (K : PySem.W.Frag) (x : Str) (st : Stmt) (dvs : List V) (f : Addr) (fd : FuncData) : Prop := FunD K x x (defArgs st) (defBody st) (defScope st) dvs [] f fd
theorem FnP.go {N ps : List Str} {dvs : List V} (F : FnP K x st dvs f fd) (S : FnScope N ps (defScope st)) (len : ∀ vs H Q E, sp vs H Q E → vs.length = ps.length) (t : TS)
    (pure : ∀ (vs : List V) (H : Hp) (Q : VK) (E : XK), sp vs H Q E → t { nx := fun _ H' => Q .non H', rt := Q } (start N vs) H)
    (hbody : ∀ (cdv : Value) (A : Around) (outer : List Env) (s : Shared) (H : Hp) (E : XK), Room k (A.deeper (envOfC x (defScope st) s.heap.objs.size f cdv)) →
      PSs (cxOf CX0 P w K mg base N x (defScope st) f cdv A outer s H E).nox (defBody st) t) : FnOk P w K mg base CX0 (k + 1) f fd ps sp :=
  F.ok S len fun cdv A outer s H vs Q E hr h => ⟨t, PSs.nox (hbody cdv A outer s H E hr), pure vs H Q E h⟩
theorem FnP.cal {ps : List Str} (F : FnP K x st [] f fd) (ok : FnOk P w K mg base CX0 k f fd ps sp) (g : mg x = some (.ref f))
    (h : ∀ (kV doc pm : Value) (an : Option Addr) (cdv ct : Value) (us : List Value), us.length = ps.length → bindArgs (PySem.W.fnOf x x (defArgs st) (defBody st) (defScope st) .none kV doc pm an cdv ct) ⟨us, []⟩ = pure (ps.zip us)) : Cal P w K mg base k x sp [] :=
  ⟨f, fd, ps, [], ok, g, F.kp, F.bindsN h, .nil⟩
end
end
section
theorem exL {α : Type} {P : α → Prop} {B : Prop} (h : ∀ x, P x → B) : (∃ x, P x) → B := fun ⟨x, hx⟩ => h x hx
theorem pe_gc {X : Cx} {x : Str} {v : V} {pos : Pos} (hg : Gl X x) (h : ∃ u, X.mg x = some u ∧ RelV v u) (hd : (x == ("__debug__" : Str)) = false := by decide) : PE X (.Name x pos) (tC v) := by
  obtain ⟨u, e, r⟩ := h
  exact pe_glob hg e r hd
theorem dic_lookup {K : PySem.W.Frag} {a : Addr} {l : List (Option (Str × Int))} (h : He.dicW K a = some l) : ∃ o es n, K.lookup a = some o ∧ o.data = .dict es n ∧ es.toList.map He.keyOf = l := by
  unfold He.dicW at h
  cases q : K.lookup a with
  | none =>
    rw [q] at h
    cases h
  | some o =>
    obtain ⟨oc, od, dt, osl⟩ := o
    rw [q] at h
    cases oc with
    | type c =>
      cases od with
      | none =>
        cases dt with
        | dict es n =>
          have h1 : (match decide (c = "dict") && (osl.isEmpty && !(a == sysModules)) with
            | true => some (es.toList.map He.keyOf)
            | false => none) = some l := h
          cases z : decide (c = "dict") && (osl.isEmpty && !(a == sysModules)) with
          | false =>
            rw [z] at h1
            cases h1
          | true =>
            rw [z] at h1
            exact ⟨_, es, n, rfl, rfl, Option.some.inj h1⟩
        | _ => cases h
      | some b => cases dt <;> cases h
    | _ => cases od <;> cases dt <;> cases h
theorem keyOf_str {e : DictEntry} {k : Str} {i : Int} (h : He.keyOf e = some (k, i)) : ∃ t, e.key = .str k t := by
  unfold He.keyOf at h
  split at h
  · rename_i x t q
    have h4 := Option.some.inj h
    obtain ⟨h5, h6⟩ := Prod.mk.inj h4
    exact ⟨t, by rw [q, h5]⟩
  · cases h
theorem miss {K : PySem.W.Frag} {a : Addr} {P : Params} {ks : List Str} {z : Str} (h : He.dicW K a = some (He.keysIn P ks)) (hz : z ∉ ks) : PySem.W.nsIn K a z = some none := by
  obtain ⟨o, es, n, e1, e2, e3⟩ := dic_lookup h
  have key : ∀ e ∈ es.toList, ∃ k t, e.key = .str k t ∧ k ∈ ks := fun e he => by
    have : He.keyOf e ∈ He.keysIn P ks := by rw [← e3]; exact List.mem_map.mpr ⟨e, he, rfl⟩
    obtain ⟨k, hk, ek⟩ := List.mem_map.mp this
    obtain ⟨t, et⟩ := keyOf_str ek.symm
    exact ⟨k, t, et, hk⟩
  unfold PySem.W.nsIn
  rw [e1]
  obtain ⟨oc, od, dt, osl⟩ := o
  have e2 : dt = .dict es n := e2
  subst e2
  have f1 : es.toList.find? (·.key.isStr z) = none := by
    rw [List.find?_eq_none]
    intro e he
    obtain ⟨k, t, ek, hk⟩ := key e he
    rw [ek]
    intro hh
    have : k = z := by
      have := PySem.W.isStr_of z (Value.str k t)
      rw [this] at hh
      obtain ⟨t', e'⟩ := Value.isStrOf_shape (x := z) (v := Value.str k t) hh
      injection e'
    rw [this] at hk
    exact hz hk
  have f2 : es.toList.any (·.refKey) = false := by
    rw [List.any_eq_false]
    intro e he
    obtain ⟨k, t, ek, hk⟩ := key e he
    unfold DictEntry.refKey
    rw [ek]
    exact Bool.false_ne_true
  show (match es.toList.find? (·.key.isStr z) with
      | some e => some (some e.val)
      | none => if es.toList.any (·.refKey) then none else some none) = some none
  rw [f1]
  show (if es.toList.any (·.refKey) then none else some none) = some none
  rw [f2]
  rfl
def partK : List Str := ["arg", "cell", "add", "less", "least"]
def partV : List (Str × He.Dv) := [("arg", .int 0), ("cell", .int 1), ("add", .int 2), ("less", .int 2), ("least", .int 2)]
theorem parts_of {K : PySem.W.Frag} {w : World} {a : Addr} (h : He.dicW K a = some (He.keysIn w.params partK)) (hv : He.valsB K a partV = true) : Parts K w a := by
  refine ⟨He.dicW_ok h, fun z k e => ?_, fun z e => ?_⟩
  · unfold partsOf at e
    split at e
    · next hz => cases e; subst hz; exact He.valsB_ok hv (q := ("arg", .int 0)) (by simp [partV])
    split at e
    · next hz => cases e; subst hz; exact He.valsB_ok hv (q := ("cell", .int 1)) (by simp [partV])
    split at e
    · next hz => cases e; subst hz; exact He.valsB_ok hv (q := ("add", .int 2)) (by simp [partV])
    split at e
    · next hz => cases e; subst hz; exact He.valsB_ok hv (q := ("less", .int 2)) (by simp [partV])
    split at e
    · next hz => cases e; subst hz; exact He.valsB_ok hv (q := ("least", .int 2)) (by simp [partV])
    · cases e
  · refine miss h fun hm => ?_
    unfold partK at hm
    simp only [List.mem_cons, List.not_mem_nil, or_false] at hm
    rcases hm with hm | hm | hm | hm | hm <;> (subst hm; revert e; decide +kernel)
section
variable {P : Program} {w : World} {K : PySem.W.Frag} {mg : Str → Option Value} {base : Heap} {x : Str} {st : Stmt} {f : Addr} {fd : FuncData} {sp : Sp} {k : Nat} {ps : List Str} {dvs : List V}
/-- a call that leaves out the defaults from the j-th on (n values are written) -/
theorem FnP.cald (n j : Nat) (F : FnP K x st dvs f fd) (ok : FnOk P w K mg base CX0 k f fd ps sp) (g : mg x = some (.ref f)) (hd : dvs ≠ []) (hn : n + (dvs.length - j) = ps.length)
    (h : ∀ (T : Addr) (kV doc pm : Value) (an : Option Addr) (cdv ct : Value) (us its : List Value), us.length = n → its.length = dvs.length →
      ∃ k, bindArgs (PySem.W.fnOf x x (defArgs st) (defBody st) (defScope st) (.ref T) kV doc pm an cdv ct) ⟨us, []⟩ = seqItems? (.ref T) >>= k ∧ k (some its.toArray) = pure (ps.zip (us ++ its.drop j))) : Cal P w K mg base k x sp (dvs.drop j) := by
  obtain ⟨ds, v, b⟩ := F.binds1 n j hd hn h
  exact ⟨f, fd, ps, ds, ok, g, F.kp, b, v⟩
end
end
section
def ExH (cls : Value) (d : Option Addr) (a : Addr) : HO := .ext fun h => ∃ (oe : Obj) (vs : Array Value), h.get? a = some oe ∧ Zc cls d oe ∧ oe.data = .fields vs
theorem exH_ok {P : Program} {w : World} {H : Hp} {h : Heap} {a : Addr} {cls : Value} {d : Option Addr} {oe : Obj} {vs : Array Value} (e : h.get? a = some oe) (z : Zc cls d oe) (hd : oe.data = .fields vs) : ObjOk P w H h a (ExH cls d a) :=
  ⟨⟨oe, vs, e, z, hd⟩, ⟨oe, e⟩, fun _ _ ⟨o, v, q, r⟩ k => ⟨o, v, k o q, r⟩⟩
theorem exH_at {P : Program} {w : World} {H : Hp} {h : Heap} {a : Addr} {cls : Value} {d : Option Addr} (hok : HOk P w H h) (he : H a = some (ExH cls d a)) : ∃ (oe : Obj) (vs : Array Value), h.get? a = some oe ∧ Zc cls d oe ∧ oe.data = .fields vs := by
  have x : ObjOk P w H h a (.ext fun h => ∃ (oe : Obj) (vs : Array Value), h.get? a = some oe ∧ Zc cls d oe ∧ oe.data = .fields vs) := hok a _ he
  exact x.1
section
variable {X : Cx} {pins : List (Addr × Obj)} {σ : L2.St} {H : Hp} {s : Shared}
/-- an exception's object, till now a pin, is tracked -/
theorem Inv.track {a : Addr} {oe : Obj} {vs : Array Value} {cls : Value} {d : Option Addr} (I : Inv X ((a, oe) :: pins) σ H s) (hz : Zc cls d oe) (hd : oe.data = .fields vs) (h0 : X.s_0.heap.get? a = none)
    (hp : ∀ p ∈ X.pn ++ pins, p.1 ≠ a) : Inv X pins σ (upd H a (ExH cls d a)) s := by
  obtain ⟨ha, na, nL, nF, _⟩ := I.pin (a, oe) (by simp)
  have ne0 : ∀ b o, X.s_0.heap.get? b = some o → b ≠ a := fun b o e z => by
    rw [z, h0] at e
    cases e
  have neS : ∀ {b : Addr} {o : HO}, H b = some o → b ≠ a := fun {b o} e => ne_of_none e na
  refine ⟨I.ok, I.os, I.bare, ⟨I.base.keep, I.base.slot, fun b o e n hq => ?_, I.base.there, fun b xs e => ?_, fun b o u e => ?_, fun b ps e => ?_⟩, I.loc, I.cell, ?_, fun x c e => ?_, fun p hm => ?_, fun b u e => ?_, I.len⟩
  · rw [upd_ne (ne0 b o e)]
    exact I.base.free b o e n hq
  · have q := I.base.tups b xs e
    rw [upd_ne (neS q)]
    exact q
  · have q := I.base.frzs b o u e
    rw [upd_ne (neS q)]
    exact q
  · obtain ⟨m, q⟩ := I.base.tbls b ps e
    exact ⟨m, by rw [upd_ne (neS q)]; exact q⟩
  · rw [upd_ne (Ne.symm nL)]
    exact I.free
  · have hc : c ≠ a := fun z => by
      obtain ⟨v, o, ho, hv⟩ := I.cell x c e
      rw [z, ha] at ho
      cases ho
      rw [hd] at hv
      cases hv
    rw [upd_ne hc]
    exact I.freeC x c e
  · obtain ⟨e, n, ne, nf, dd⟩ := I.pin p (by
      rcases List.mem_append.mp hm with z | z
      · exact List.mem_append_left _ z
      · exact List.mem_append_right _ (List.mem_cons_of_mem _ z))
    exact ⟨e, by rw [upd_ne (hp p hm)]; exact n, ne, nf, dd⟩
  · by_cases hb : b = a
    · subst hb
      rw [upd_same] at e
      cases e
      exact exH_ok ha hz hd
    · rw [upd_ne hb] at e
      exact (I.hok b u e).stay (fun c v _ q => q) (fun c q => by rw [upd_ne (neS q)]; exact q) fun c xs q => by rw [upd_ne (neS q)]; exact q
theorem Inv.unsuiteP {a : Addr} {oe : Obj} (I : Inv (X.suite a ((a, oe) :: (X.pn ++ pins))) [] σ H s) (ok : X.Ok) : Inv X ((a, oe) :: pins) σ H s :=
  ⟨ok, I.os, I.bare, I.base, I.loc, I.cell, I.free, I.freeC, fun p hp => I.pin p (by
    rw [List.append_nil]
    rcases List.mem_append.mp hp with z | z
    · exact List.mem_cons_of_mem _ (List.mem_append_left _ z)
    · rcases List.mem_cons.mp z with z | z
      · rw [z]; exact List.mem_cons_self
      · exact List.mem_cons_of_mem _ (List.mem_append_right _ z)), I.hok, I.len⟩
end
/-- as wAs, and behind the suite the exception is tracked -/
def wHold (K : PySem.W.Frag) (c : Value) (i : Nat) (ts : Addr → Value → Option Addr → TS) (Wout : WX) (D : Ends) : WX := fun cls d σ H =>
  ∃ b, PySem.W.exmOne K cls c = some b ∧ (b = true → ∀ a, H a = none → ts a cls d { nx := fun σ' H' => H' a = none → D.nx (σ'.set i none) (upd H' a (ExH cls d a)), rt := D.rt, bk := fun σ' H' => D.bk (σ'.set i none) H', ct := fun σ' H' => D.ct (σ'.set i none) H' } (σ.set i (some (.ref a))) H) ∧
    (b = false → Wout cls d σ H)
/-- try: .. except c as n: .. -/
def tTryH (K : PySem.W.Frag) (c : Value) (i : Nat) (tb : WX → TS) (ts : Addr → Value → Option Addr → TS) (Wout : WX) : TS := fun D σ H => tb (wHold K c i ts Wout D) D σ H
theorem w_tryH {K : PySem.W.Frag} {c : Value} {i : Nat} {tb : WX → TS} {ts : Addr → Value → Option Addr → TS} {Wout : WX} {D : Ends} {σ : L2.St} {H : Hp} (h : tb (wHold K c i ts Wout D) D σ H) : tTryH K c i tb ts Wout D σ H := h
section
variable {X : Cx} {x n : Str} {c : Value} {i : Nat} {body suite : List Stmt} {b₀ : Stmt} {np pos pos' : Pos} {tb : WX → TS} {ts : Addr → Value → Option Addr → TS} {Wout : WX}
theorem ps_try_hold (hs : X.stack = X.env :: X.outer) (hf : X.env.frame = some X.env.locals) (hex : X.ex = []) (hN : X.N.Nodup) (hi : X.N[i]? = some n) (hln : X.env.kindOf n = some .local) (hc : Names X x c) (tk : Takes X Wout)
    (hb : ∀ (W : WX) (pn : List (Addr × Obj)) (xe : Value → Shared → Prop), Takes (X.tr pn xe) W → PassesOwn (model X.prog X.w) X.A X.env xe → PSs (X.tr pn xe) body (tb W))
    (hsu : ∀ (a : Addr) (oe : Obj) (cls : Value) (d : Option Addr) (pn : List (Addr × Obj)), Zc cls d oe → (∃ vs, oe.data = .fields vs) → PSs (X.suite a ((a, oe) :: pn)) (b₀ :: suite) (ts a cls d)) :
    PS X (.Try body [.ExceptHandler (some (.Name x np)) (some n) (b₀ :: suite) pos'] [] [] pos) (tTryH X.K c i tb ts Wout) := by
  refine ⟨fun pins s σ H D I h => ?_⟩
  have ok := I.ok
  have hfr : X.A.frames = some (X.env :: X.outer) := by rw [ok.frames, hs]
  have hloc : Loc X.env.scope n := .inl hln
  refine wpAny_Try_except ?_
  refine wpAny_mono ((hb (wHold X.K c i ts Wout D) (X.pn ++ pins) (fun e s₁ => wpAny (model X.prog X.w) X.A (noteFrame e X.env) (fun _ s₂ => wpAny (model X.prog X.w) X.A (setFlight e none) (fun _ s₃ =>
    wpAny (model X.prog X.w) X.A (handleBy e X.env [.ExceptHandler (some (.Name x np)) (some n) (b₀ :: suite) pos']) (SP X pins D) X.xe s₃) X.xe s₂) X.xe s₁) (fun u s' xx => ?_) PassesOwn.looking).run [] s σ H D (I.toTry _) h) (fun f s1 hsp => ?_) (fun e s1 he => he)
  · -- the catch
    obtain ⟨a, B, sI, pins', σ', H', cls, d, rfl, J', nb, up, sky, na, os, ag, b, hb1, hyes, hno⟩ := xx
    have J : Inv X pins σ' H' sI := J'.ofTry ok
    have sky' : Sky B (X.env :: X.outer) a (Zc cls d) X.env.locals s'.heap := by rw [← hs]; exact sky
    show wpAny (model X.prog X.w) X.A (noteFrame (.ref a) X.env) _ _ _
    refine Sky.land Zc.steady hfr hf sky' fun h3 fl3 up3 => ?_
    have J3 : Inv X pins σ' H' { s' with heap := h3 } := J.landed nb fl3.1 (up.trans up3) os ag
    obtain ⟨oe3, vs3, he3, hz3, hd3⟩ := fl3.there
    have notFr : ∀ {h : Heap} {o : Obj} {vs : Array Value}, h.FunFrames B (X.env :: X.outer) → h.get? a = some o → o.data = .fields vs → a ∉ frs (X.env :: X.outer) := fun {h o vs} ff e dd hm => by
      obtain ⟨_, o', e', hnf⟩ := ff.mem hm
      rw [e] at e'; cases e'
      exact hnf _ dd
    have nfr := notFr fl3.2.2.1 he3 hd3
    have nL : a ≠ X.env.locals := fun z => nfr (List.mem_filterMap.mpr ⟨X.env, List.mem_cons_self, by rw [hf, z]⟩)
    have nF : a ∉ X.fs := fun hm => by
      obtain ⟨e, he, q⟩ := List.mem_filterMap.mp hm
      exact nfr (List.mem_filterMap.mpr ⟨e, List.mem_cons_of_mem _ he, q⟩)
    have nI : sI.heap.get? a = none := by
      cases q : sI.heap.get? a with
      | none => rfl
      | some o =>
        have z := nb a o q (by rw [hs]; exact nfr)
        have y : B.get? a = none := fl3.2.1
        rw [y] at z
        cases z
    have n0 : X.s_0.heap.get? a = none := by
      cases q : X.s_0.heap.get? a with
      | none => rfl
      | some o =>
        obtain ⟨o', z⟩ := J.base.there a o q (by rw [hex]; exact fun z => nomatch z)
        rw [nI] at z
        cases z
    have npin : ∀ p ∈ X.pn ++ pins, p.1 ≠ a := fun p hp z => by
      have y := (J.pin p hp).1
      rw [z, nI] at y
      cases y
    have S3 := J3.suite he3 hd3 na nL nF
    refine wpAny_handleBy_cons (codeAny_handlers_test ?_) (by intro q; cases q)
    have LT : PySem.W.Looks (model X.prog X.w) h3 (typeOf (.ref a)) cls := fun A Q E s k q => wpAny_typeOf_ref (k _ _ he3) (by rw [hz3.1]; exact q)
    have LM := PySem.W.exm_one (M := model X.prog X.w) (J3.kIn) LT hb1
    have test : ∀ {Q : Value → Shared → Prop} {E : Value → Shared → Prop}, Q c { s' with heap := h3 } → wpAny (model X.prog X.w) (X.A.mark (some (.ref a))) (eval (.Name x np) X.env) Q E { s' with heap := h3 } := fun {Q E} q => by
      obtain ⟨hg, hdbg, hm | ⟨hm, hv, hnn⟩⟩ := hc
      · exact ld_glob (X := X.suite a ((a, oe3) :: (X.pn ++ pins))) S3 hg hm q hdbg
      · exact ld_blt (X := X.suite a ((a, oe3) :: (X.pn ++ pins))) S3 hg hm hv q hnn hdbg
    refine test (LM.here ?_)
    cases b with
    | true =>
      refine codeAny_handlers_suite_as ?_
      refine HandSPX.lands_againZ fl3 fun h4 fl4 up4 => ?_
      have J4 : Inv X pins σ' H' { s' with heap := h4 } := J.landed nb fl4.1 ((up.trans up3).trans up4) os ag
      obtain ⟨oe4, vs4, he4, hz4, hd4⟩ := fl4.there
      have S4 := J4.suite he4 hd4 na nL nF
      refine store_ok (X := X.suite a ((a, oe4) :: (X.pn ++ pins))) (v := .ref a) S4 hN hi hloc rfl (fun s5 S5 => ?_) (.inr hln)
      refine wpAny_mono ((hsu a oe4 cls d (X.pn ++ pins) hz4 ⟨_, hd4⟩).run [] s5 _ H' _ S5 (hyes rfl a na)) (fun f s6 hsp => ?_) (fun _ _ z => False.elim z)
      have end_ : ∀ {σ6 : L2.St} {H6 : Hp} {Q : Shared → Prop}, Inv (X.suite a ((a, oe4) :: (X.pn ++ pins))) [] σ6 H6 s6 → (∀ s7, Inv X pins (σ6.set i none) H6 s7 → Q s7) →
          wpAny (model X.prog X.w) X.A (do bindName X.env n .none; unbindBehindTheSuite X.env n pos') (fun _ s7 => Q s7) X.xe s6 := fun {σ6 H6 Q} S6 hq => gone_ok (S6.unsuite ok) hN hi hln hq
      cases f with
      | next =>
        obtain ⟨σ6, H6, S6, q6⟩ := hsp
        have n6 : H6 a = none := (S6.pin (a, oe4) (by simp)).2.1
        exact gone_ok (Inv.unsuiteP S6 ok) hN hi hln fun s7 J7 => ⟨_, _, Inv.track J7 hz4 hd4 n0 npin, q6 n6⟩
      | brk =>
        obtain ⟨σ6, H6, S6, q6⟩ := hsp
        exact end_ S6 fun s7 J7 => ⟨_, _, J7, q6⟩
      | cont =>
        obtain ⟨σ6, H6, S6, q6⟩ := hsp
        exact end_ S6 fun s7 J7 => ⟨_, _, J7, q6⟩
      | ret u =>
        obtain ⟨v6, σ6, H6, S6, r6, q6⟩ := hsp
        exact end_ S6 fun s7 J7 => ⟨_, _, _, J7, r6, q6⟩
    | false =>
      show wpAny _ X.A (handleBy (.ref a) X.env []) _ _ _
      refine wpAny_handleBy_nil ?_
      obtain ⟨k1, k2, k3, oe, vs, T, oT, ts', he, hz, hd, h1, hr⟩ := id fl3
      unfold PySem.passOn
      refine wpAny_bind (wpAny_field he hd h1 ?_)
      rw [if_neg (show ¬ ((Value.ref T == Value.none) = true) from by simp)]
      have fin : wpAny (model X.prog X.w) X.A (setFlight (.ref a) X.env.frame) (fun _ s4 => wpAny (model X.prog X.w) X.A (throw (.ref a) : Sem Flow) (SP X pins D) X.xe s4) X.xe { s' with heap := h3 } := by
        rw [hf]
        refine HandSPX.setFlight_upZ fl3 fun h4 hh4 up4 => wpAny_throw (tk _ _ ?_)
        exact ⟨a, B, sI, pins, σ', H', cls, d, rfl, J, nb, (up.trans up3).trans up4, .inr (.inr (by rw [hs]; exact hh4)), na, os, ag, hno rfl⟩
      first
        | exact wpAny_bind (wpAny_pure (wpAny_bind fin))
        | exact wpAny_bind fin
  · cases f with
    | next =>
      obtain ⟨σ', H', J', q⟩ := hsp
      exact wpAny_execs_nil ⟨σ', H', J'.ofTry ok, q⟩
    | brk =>
      obtain ⟨σ', H', J', q⟩ := hsp
      exact ⟨σ', H', J'.ofTry ok, q⟩
    | cont =>
      obtain ⟨σ', H', J', q⟩ := hsp
      exact ⟨σ', H', J'.ofTry ok, q⟩
    | ret u =>
      obtain ⟨v, σ', H', J', r, q⟩ := hsp
      exact ⟨v, σ', H', J'.ofTry ok, r, q⟩
end
section
variable {X : Cx}
/-- e.f, e held -/
def tXh (K : PySem.W.Frag) (f : Str) (te : TE) : TE := fun σ H Q => te σ H fun x H1 => ∃ (a C dd : Addr) (fs : List (Str × V)) (v : V), x = .ref a ∧ H1 a = some (ExH (.ref C) (some dd) a) ∧ XfC K C ∧ PySem.W.findIn K (.ref C) f = some none ∧ H1 dd = some (.xd fs) ∧ fs.lookup f = some v ∧ Q v H1
theorem pe_xh {e : Expr} {te : TE} {pos : Pos} {n : Str} (he : PE X e te) (hb : attributeBase e n X.env (eval e X.env) = eval e X.env := by rfl) : PE X (.Attribute e n pos) (tXh X.K n te) := by
  refine ⟨fun pins s σ H Q I h => ?_⟩
  refine attr_of hb (thn (he.run pins s σ H _ I h) fun u s1 hh => ?_)
  obtain ⟨x, H1, I1, rx, a, C, dd, fs, v, ex, ea, T, hno, ed, l, q⟩ := hh
  subst ex
  obtain rfl : u = Value.ref a := rx
  obtain ⟨oe, vs, ha, hz, hd⟩ := exH_at I1.hok ea
  have hx : ObjOk X.prog X.w H1 s1.heap dd (.xd fs) := I1.hok dd _ ed
  obtain ⟨mA, hns, hr⟩ := hx
  obtain ⟨od, ho, hl⟩ := lookIn_ns hns
  obtain ⟨u, hu, ru⟩ := RelO.some_of (v := v) (o := mA n) (by rw [← l]; exact hr n)
  have J : PySem.W.InstAt s1.heap a oe C (some od) := ⟨ha, hz.1, by unfold PySem.W.notCls; rw [hd] <;> rfl, by rw [hz.2]; exact ho⟩
  exact HandSPX.exc_get I1.kIn J T.ga T.gg T.exC (PySem.W.findObj_own T.hdC hno rfl (by rw [hl, hu])) (handed_of ru) ⟨v, H1, I1.tok _, ru, q⟩
end
theorem w_xh {K : PySem.W.Frag} {f : Str} {σ : L2.St} {H : Hp} {Q : VK} {i : Nat} {a C dd : Addr} {fs : List (Str × V)} {v : V} (hσ : σ[i]? = some (some (.ref a))) (ea : H a = some (ExH (.ref C) (some dd) a)) (T : XfC K C) (no : PySem.W.findIn K (.ref C) f = some none) (ed : H dd = some (.xd fs)) (l : fs.lookup f = some v) (q : Q v H) : tXh K f (tVar i) σ H Q :=
  ⟨_, hσ, a, C, dd, fs, v, rfl, ea, T, no, ed, l, q⟩
section
variable {X : Cx} {pins : List (Addr × Obj)} {σ : L2.St} {H : Hp} {s : Shared}
/-- isinstance(e, c), e held, its dict's fields fs -/
def rIsH (K : PySem.W.Frag) : List V → Hp → VK → Prop := fun xs H Q => ∃ (a C dd : Addr) (fs : List (Str × V)) (c : V) (u : Value) (b : Bool), xs = [.ref a, c] ∧ ClsV c u ∧ H a = some (ExH (.ref C) (some dd) a) ∧ ExcC K C ∧ H dd = some (.xd fs) ∧ PySem.W.kitOne K (.ref C) u = some b ∧ Q (.bl b) H
def rIsHT (K : PySem.W.Frag) : List V → Hp → VK → Prop := fun xs H Q => ∃ (a C dd : Addr) (fs : List (Str × V)) (tp : Addr) (cs : List V) (us : List Value) (b : Bool), xs = [.ref a, .ref tp] ∧ H tp = some (.tup cs) ∧ Paired ClsV cs us ∧ H a = some (ExH (.ref C) (some dd) a) ∧ ExcC K C ∧ H dd = some (.xd fs) ∧ PySem.W.kitAny K (.ref C) us = some b ∧ Q (.bl b) H
theorem kit_held {a C dd : Addr} {fs : List (Str × V)} (I : Inv X pins σ H s) (ea : H a = some (ExH (.ref C) (some dd) a)) (c : ExcC X.K C) (ed : H dd = some (.xd fs)) :
    ∃ P : Heap → Prop, PySem.W.KitX X.K (.ref a) (.ref C) P ∧ P s.heap := by
  obtain ⟨oe, vs, ha, hz, hd⟩ := exH_at I.hok ea
  have hx : ObjOk X.prog X.w H s.heap dd (.xd fs) := I.hok dd _ ed
  obtain ⟨mA, hns, hr⟩ := hx
  obtain ⟨od, ho, hl⟩ := lookIn_ns hns
  have J : PySem.W.InstAt s.heap a oe C (some od) := ⟨ha, hz.1, by unfold PySem.W.notCls; rw [hd] <;> rfl, by rw [hz.2]; exact ho⟩
  exact ⟨_, PySem.W.kitx_exc (ox := oe) (od := some od) (by obtain ⟨cd, hc, _⟩ := PySem.W.any_some c.hd; rw [hc] <;> rfl) c.hg c.hk c.hs c.ha c.hn c.ht c.hm, J⟩
theorem call_isH : CallR X (.builtin "isinstance") (rIsH X.K) := by
  intro pins s σ H xs us Q I r h
  obtain ⟨a, C, dd, fs, c, u, b, rfl, k, ea, ec, ed, e, q⟩ := h
  obtain ⟨u1, u2, rfl, r1, r2⟩ := vals2 r
  have e2 := k.eq r2
  subst e2
  cases (show u1 = Value.ref a from r1)
  obtain ⟨P, Z, p⟩ := kit_held I ea ec ed
  exact PySem.W.kia_one Z I.kIn p e (fun z => nomatch z) fun tk => ⟨.bl b, H, I.tok tk, rfl, q⟩
theorem call_isHT : CallR X (.builtin "isinstance") (rIsHT X.K) := by
  intro pins s σ H xs us Q I r h
  obtain ⟨a, C, dd, fs, tp, cs, ws, b, rfl, hT, k, ea, ec, ed, e, q⟩ := h
  obtain ⟨u1, u2, rfl, r1, r2⟩ := vals2 r
  cases (show u2 = Value.ref tp from r2)
  cases (show u1 = Value.ref a from r1)
  obtain ⟨P, Z, p⟩ := kit_held I ea ec ed
  obtain ⟨_, its, rv, o, h1, h2, n, h3⟩ := (show ObjOk X.prog X.w H s.heap tp (.tup cs) from I.hok tp _ hT)
  have e3 := ClsV.all k rv
  subst e3
  obtain ⟨oc, od, dt, sl⟩ := o
  simp only at h2 h3
  subst h2 h3
  exact PySem.W.kia_tup Z I.kIn p h1 e (fun z => nomatch z) fun tk => ⟨.bl b, H, I.tok tk, rfl, q⟩
end
end
section
def oexB (K : PySem.W.Frag) (C : Addr) : Bool := match K.lookup C with
  | some ⟨.type "type", _, .cls cd, sl⟩ => (match cd.mro, sl.toList with
    | .ref C' :: bm, [_, _, _, _, some (.builtin n), _] => C' == C && n == "ValueError.__new__" && !cd.hasDel && cd.hasDict && PySem.HandSPX.refsVE bm
    | _, _ => false)
  | _ => false
theorem oexB_ok {K : PySem.W.Frag} {C : Addr} (q : oexB K C = true) : ∃ nm q N bs bm sn sub ab col dd k0 k1 k2 k3 k5, K.lookup C = some (excClassObj nm q C N bs bm true sn sub ab col dd k0 k1 k2 k3 k5 "ValueError.__new__") ∧ PySem.HandSPX.refsVE bm = true := by
  unfold oexB at q
  split at q
  · rename_i dd cd sl ho
    split at q
    · rename_i C' bm k0 k1 k2 k3 n k5 hm hs
      simp only [Bool.and_eq_true, beq_iff_eq, Bool.not_eq_true'] at q
      obtain ⟨⟨⟨⟨rfl, rfl⟩, hdel⟩, hh⟩, hr⟩ := q
      obtain ⟨nm, bs, mro, ns, qn, hd, sn, sub, ab, col, del⟩ := cd
      dsimp only at hm hdel hh
      subst hm hdel hh
      have hsl : sl = #[k0, k1, k2, k3, some (.builtin "ValueError.__new__"), k5] := by
        obtain ⟨l⟩ := sl
        simp only at hs
        rw [hs]
      subst hsl
      exact ⟨nm, qn, ns, bs, bm, sn, sub, ab, col, dd, k0, k1, k2, k3, k5, ho, hr⟩
    · cases q
  · cases q
/-- all that is asked of an own exception class -/
structure XCl (K : PySem.W.Frag) (C : Addr) : Prop where
  xf : XfC K C
  is : ExcC K C
  ox : OexC K C
def xclB (K : PySem.W.Frag) (C : Addr) : Bool :=
  oexB K C && (decide (PySem.W.findIn K (.ref C) "__getattribute__" = some (some (.builtin "BaseException.__getattribute__"))) && (decide (PySem.W.findIn K (.ref C) "__getattr__" = some none) && (decide (PySem.W.subIn K (.ref C) (.type "BaseException") = some true) && (PySem.W.hasDictIn K C &&
  (decide (PySem.W.findIn K (.ref C) "__class__" = some (some (.builtin "object.__class__"))) && (decide (PySem.W.specialIn K (.builtin "object.__class__") "__get__" = some (some (.builtin "getset_descriptor.__get__"))) && (decide (PySem.W.takesIn K (.builtin "object.__class__") = some true) &&
  (decide (PySem.W.mroIn K C (.type "object") = some true) && (decide (PySem.W.findIn K (.ref C) "__setattr__" = some (some (.builtin "object.__setattr__"))) && (decide (PySem.W.typeIn K (.ref C) = some (.type "type")) && PySem.W.keepIn K (.ref C)))))))))))
theorem xclB_ok {K : PySem.W.Frag} {C : Addr} (h : xclB K C = true) : XCl K C := by
  unfold xclB at h
  simp only [Bool.and_eq_true, decide_eq_true_eq] at h
  obtain ⟨h1, h2, h3, h4, h5, h6, h7, h8, h9, h10, h11, h12⟩ := h
  exact ⟨⟨h2, h3, h4, h5⟩, ⟨h2, h3, h4, h5, h6, h7, h8, h9⟩, ⟨oexB_ok h1, h10, h4, h11, h12⟩⟩
/-- its __init__ stands at He.ma -/
structure XIn (K : PySem.W.Frag) (C : Addr) (fs : List Str) : Prop where
  at_ : PySem.W.findIn K (.ref C) "__init__" = some (some (.ref (He.ma K C "__init__")))
  ty : PySem.W.typeIn K (.ref (He.ma K C "__init__")) = some (.type "function")
  no : ∀ f ∈ fs, PySem.W.findIn K (.ref C) f = some none
def xinB (K : PySem.W.Frag) (C : Addr) (fs : List Str) : Bool := decide (PySem.W.findIn K (.ref C) "__init__" = some (some (.ref (He.ma K C "__init__")))) && (decide (PySem.W.typeIn K (.ref (He.ma K C "__init__")) = some (.type "function")) && fs.all fun f => decide (PySem.W.findIn K (.ref C) f = some none))
theorem xinB_ok {K : PySem.W.Frag} {C : Addr} {fs : List Str} (h : xinB K C fs = true) : XIn K C fs := by
  unfold xinB at h
  simp only [Bool.and_eq_true, decide_eq_true_eq, List.all_eq_true] at h
  exact ⟨h.1, h.2.1, h.2.2⟩
structure CalX (P : Program) (w : World) (K : PySem.W.Frag) (mg : Str → Option Value) (base : Heap) (k : Nat) (x : Str) (sp : Sp) (dvs : List V) : Prop where
  ex : ∃ (f : Addr) (fd : FuncData) (ps : List Str) (ds : List Value), FnOk P w K mg base (L2.CX P w) k f fd ps sp ∧ mg x = some (.ref f) ∧ PySem.W.keepIn K (.ref f) = true ∧ Binds K fd ps ds ∧ Vals dvs ds
section
variable {X : Cx} {k j n mm : Nat} {x m : Str} {sp : Sp} {dvs : List V} {p pos apos : Pos} {e o : Expr} {es : List Expr} {ta : TE} {t tk : TA} {W : WX}
theorem pe_cx (c : CalX X.prog X.w X.K X.mg X.base k x sp dvs) (hr : Room j X.A) (hk : k ≤ j) (hg : Gl X x) (tk : Takes X W) (ha : PA X (e :: es) t)
    (hdb : (x == ("__debug__" : Str)) = false := by decide) (he : starEach (e :: es) X.env = (false, eval e X.env) :: starEach es X.env := by rfl) (hpl : (backTo pos (starEach es X.env)).any (·.1) = false := by rfl) :
    PE X (.Call (.Name x p) (e :: es) [] pos) (tCallSD sp dvs (WE W) t) := by
  obtain ⟨f, fd, ps, ds, F, hm, kp, b, d⟩ := c.ex
  exact pe_callSD F (hr.mono hk) hg hm kp b d (fun σ => passAt tk σ) ha hdb he hpl
theorem w_callX {σ : L2.St} {H : Hp} {Q : VK} {E : L2.St → XK} (h : t σ H fun vs H1 => sp (vs ++ dvs) H1 Q (E σ)) : tCallSD sp dvs E t σ H Q := h
end
section
variable {P : Program} {w : World} {K : PySem.W.Frag} {mg : Str → Option Value} {base : Heap} {x qual : Str} {st : Stmt} {f : Addr} {fd : FuncData} {sp : Sp} {k : Nat}
theorem FnP.goX {N ps : List Str} {dvs : List V} (F : FnP K x st dvs f fd) (S : FnScope N ps (defScope st)) (len : ∀ vs H Q E, sp vs H Q E → vs.length = ps.length) (t : XK → TS)
    (pure : ∀ (vs : List V) (H : Hp) (Q : VK) (E : XK), sp vs H Q E → t E { nx := fun _ H' => Q .non H', rt := Q } (start N vs) H)
    (hbody : ∀ (cdv : Value) (A : Around) (outer : List Env) (s : Shared) (H : Hp) (E : XK), Room k (A.deeper (envOfC x (defScope st) s.heap.objs.size f cdv)) →
      PSs (cxOf (L2.CX P w) P w K mg base N x (defScope st) f cdv A outer s H E) (defBody st) (t E)) : FnOk P w K mg base (L2.CX P w) (k + 1) f fd ps sp :=
  F.ok S len fun cdv A outer s H vs Q E hr h => ⟨t E, hbody cdv A outer s H E hr, pure vs H Q E h⟩
theorem FnP.calX {ps : List Str} (F : FnP K x st [] f fd) (ok : FnOk P w K mg base (L2.CX P w) k f fd ps sp) (g : mg x = some (.ref f))
    (h : ∀ (kV doc pm : Value) (an : Option Addr) (cdv ct : Value) (us : List Value), us.length = ps.length → bindArgs (PySem.W.fnOf x x (defArgs st) (defBody st) (defScope st) .none kV doc pm an cdv ct) ⟨us, []⟩ = pure (ps.zip us)) : CalX P w K mg base k x sp [] :=
  ⟨f, fd, ps, [], ok, g, F.kp, F.bindsN h, .nil⟩
/-- a method as it stands -/
abbrev MtP (K : PySem.W.Frag) (x qual : Str) (st : Stmt) (f : Addr) (fd : FuncData) : Prop := FunD K x qual (defArgs st) (defBody st) (defScope st) [] [] f fd
theorem MtP.go {N ps : List Str} (F : MtP K x qual st f fd) (S : FnScope N ps (defScope st)) (len : ∀ vs H Q E, sp vs H Q E → vs.length = ps.length) (t : TS)
    (pure : ∀ (vs : List V) (H : Hp) (Q : VK) (E : XK), sp vs H Q E → t { nx := fun _ H' => Q .non H', rt := Q } (start N vs) H)
    (hbody : ∀ (cdv : Value) (A : Around) (outer : List Env) (s : Shared) (H : Hp) (E : XK), Room k (A.deeper (envOfC qual (defScope st) s.heap.objs.size f cdv)) →
      PSs (cxOf CX0 P w K mg base N qual (defScope st) f cdv A outer s H E).nox (defBody st) t) : FnOk P w K mg base CX0 (k + 1) f fd ps sp :=
  F.ok S len fun cdv A outer s H vs Q E hr h => ⟨t, PSs.nox (hbody cdv A outer s H E hr), pure vs H Q E h⟩
end
/-- the dict's fields behind the stores of fs -/
def xfs : List Str → List V → List (Str × V) → List (Str × V)
  | f :: fs, v :: vs, l => xfs fs vs ((f, v) :: l)
  | _, _, l => l
/-- __init__ of such a class: keeps all but the exception's own -/
def sp_xinit (K : PySem.W.Frag) (C : Addr) (fs : List Str) : Sp := fun vs H Q _ => ∃ (a : Addr) (xs : List V), vs = .ref a :: xs ∧ xs.length = fs.length ∧ OexC K C ∧ (∀ f ∈ fs, PySem.W.findIn K (.ref C) f = some none) ∧ H a = some (exo a C none) ∧
  ∀ dx H', H dx = none → dx ≠ a → H' a = some (exo a C (some dx)) → H' dx = some (exd dx (xfs fs xs [])) → (∀ b, b ≠ a → b ≠ dx → H' b = H b) → Q .non H'
def t_xinit2 (K : PySem.W.Frag) (f g : Str) : TS := tSeq (tOst K f (tVar 0) (tVar 1)) (tOst K g (tVar 0) (tVar 2))
theorem pure_xinit2 {K : PySem.W.Frag} {C : Addr} {f g s p r : Str} (vs : List V) (H : Hp) (Q : VK) (E : XK) (h : sp_xinit K C [f, g] vs H Q E) : t_xinit2 K f g { nx := fun _ H' => Q .non H', rt := Q } (start [s, p, r] vs) H := by
  obtain ⟨a, xs, rfl, hl, T, no, ha, q⟩ := h
  match xs, hl with
  | [x, y], _ =>
    refine ⟨x, rfl, .ref a, rfl, a, C, rfl, T, no f (by simp), .inl ⟨ha, fun dx hd hn => ?_⟩⟩
    refine ⟨y, rfl, .ref a, rfl, a, C, rfl, T, no g (by simp), .inr ⟨dx, [(f, x)], upd_same, ?_, by simp, ?_⟩⟩
    · rw [upd_ne hn, upd_same]
    · refine q dx _ hd hn ?_ upd_same fun b h1 h2 => ?_
      · rw [upd_ne (Ne.symm hn), upd_same]
      · rw [upd_ne h2, upd_ne h1, upd_ne h2]
/-- C(e, ..) raised: a new dict, all else as it was -/
theorem w_mkO {K : PySem.W.Frag} {C : Addr} {fs : List Str} {ta : TA} {σ : L2.St} {H : Hp} {Q : XK} (T : OexC K C) (no : ∀ f ∈ fs, PySem.W.findIn K (.ref C) f = some none)
    (h : ta σ H fun vs H1 => vs.length = fs.length ∧ vs.length ≤ 1000 ∧ ∀ dd H2, Chg [] H1 H2 → H1 dd = none → H2 dd = some (.xd (xfs fs vs [])) → Q (.ref C) (some dd) H2)
    (mono : ∀ {H : Hp} {A B : List V → Hp → Prop}, (∀ vs H1, A vs H1 → B vs H1) → ta σ H A → ta σ H B) : tMkO C (sp_xinit K C fs) [] ta σ H Q := by
  refine mono (fun vs H1 ⟨h1, h2, h3⟩ => ?_) h
  refine ⟨h2, fun a na => ?_⟩
  rw [List.append_nil]
  refine ⟨a, vs, rfl, h1, T, no, upd_same, fun dx H' hd hn ea ed ke => ?_⟩
  have hd1 : H1 dx = none := by
    rw [upd_ne hn] at hd
    exact hd
  refine ⟨rfl, dx, _, ea, ed, hd1, h3 dx _ ⟨fun b o e _ => ?_, fun b e => ?_, fun b xs e => ?_⟩ hd1 upd_same⟩
  · have nb : b ≠ a := ne_of_none e na
    have nd : b ≠ dx := ne_of_none e hd1
    rw [upd_ne nd, del_ne nb, ke b nb nd, upd_ne nb]
    exact e
  · by_cases nd : b = dx
    · rw [nd, upd_same] at e
      cases e
    · rw [upd_ne nd] at e
      by_cases nb : b = a
      · rw [nb]
        exact na
      · rw [del_ne nb, ke b nb nd, upd_ne nb] at e
        exact e
  · have nb : b ≠ a := ne_of_none e na
    have nd : b ≠ dx := ne_of_none e hd1
    rw [upd_ne nd, del_ne nb, ke b nb nd, upd_ne nb]
    exact e
structure MkX (P : Program) (w : World) (K : PySem.W.Frag) (mg : Str → Option Value) (base : Heap) (x : Str) (C : Addr) (fs : List Str) : Prop where
  ox : OexC K C
  no : ∀ f ∈ fs, PySem.W.findIn K (.ref C) f = some none
  g : mg x = some (.ref C)
  ini : ∃ (fI : Addr) (fd : FuncData) (ps : List Str), PySem.W.findIn K (.ref C) "__init__" = some (some (.ref fI)) ∧ PySem.W.typeIn K (.ref fI) = some (.type "function") ∧ FnOk P w K mg base CX0 1 fI fd ps (sp_xinit K C fs) ∧ Binds K fd ps []
def tWeak (ta : TA) : TA := fun σ H Q => ∃ A : List V → Hp → Prop, ta σ H A ∧ ∀ vs H1, A vs H1 → Q vs H1
theorem PA.weak {X : Cx} {es : List Expr} {ta : TA} (h : PA X es ta) : PA X es (tWeak ta) := ⟨fun pos pins s σ H Q I ⟨A, hA, k⟩ =>
  wpAny_mono (h.run pos pins s σ H A I hA) (fun us s1 ⟨vs, H1, I1, r, q⟩ => ⟨vs, H1, I1, r, k vs H1 q⟩) fun _ _ x => x⟩
def tRaiseX (C : Addr) (fs : List Str) (E : XK) (ta : TA) : TS := fun _ σ H => ta σ H fun vs H1 => vs.length = fs.length ∧ vs.length ≤ 1000 ∧ ∀ dd H2, Chg [] H1 H2 → H1 dd = none → H2 dd = some (.xd (xfs fs vs [])) → E (.ref C) (some dd) H2
theorem ps_raiseX {X : Cx} {x : Str} {C : Addr} {fs : List Str} {E : XK} {e : Expr} {es : List Expr} {ta : TA} {p pos pos2 : Pos} {j : Nat} (hc : X.calm = true) (M : MkX X.prog X.w X.K X.mg X.base x C fs) (hr : Room j X.A) (hk : 2 ≤ j) (tk : Takes X (fun cls d _ H => E cls d H)) (hg : Gl X x) (ha : PA X (e :: es) ta)
    (hdb : (x == ("__debug__" : Str)) = false := by decide) (he : starEach (e :: es) X.env = (false, eval e X.env) :: starEach es X.env := by rfl) (hpl : (backTo pos (starEach es X.env)).any (·.1) = false := by rfl) :
    PS X (.Raise (some (.Call (.Name x p) (e :: es) [] pos)) none pos2) (tRaiseX C fs E ta) := by
  obtain ⟨fI, fd, ps, iC, tI, F, hb⟩ := M.ini
  have R := ps_raise (pos := pos2) hc tk (pmk_oex (p := p) (pos := pos) (CX := CX0) M.ox iC tI F (hr.mono (by omega)) hb .nil pass0 hg M.g (PA.weak ha) hdb he hpl)
  refine ⟨fun pins s σ H D I h => R.run pins s σ H D I ?_⟩
  refine w_mkO (K := X.K) (fs := fs) M.ox M.no ⟨_, h, fun vs H1 q => q⟩ ?_
  intro H A B k ⟨A', h1, h2⟩
  exact ⟨A', h1, fun vs H1 q => k vs H1 (h2 vs H1 q)⟩
theorem w_raiseX {C : Addr} {fs : List Str} {E : XK} {ta : TA} {D : Ends} {σ : L2.St} {H : Hp} (h : ta σ H fun vs H1 => vs.length = fs.length ∧ vs.length ≤ 1000 ∧ ∀ dd H2, Chg [] H1 H2 → H1 dd = none → H2 dd = some (.xd (xfs fs vs [])) → E (.ref C) (some dd) H2) : tRaiseX C fs E ta D σ H := h
theorem takes0 {X : Cx} : Takes X (fun _ _ _ _ => False) := fun u s' h => by
  obtain ⟨a, B, sI, pins, σ, H, cls, d, e, I, nb, up, sky, na, os, ag, z⟩ := h
  exact z.elim
end
section
structure XF (K : PySem.W.Frag) : Prop where
  np : XCl K (He.ga K "NoProgram")
  inp : XIn K (He.ga K "NoProgram") ["helper", "at"]
  exm : PySem.W.exmOne K (.ref (He.ga K "NoProgram")) (.ref (He.ga K "WorkError")) = some true
  no : PySem.W.kitAny K (.ref (He.ga K "NoProgram")) [.ref (He.ga K "NoHand"), .ref (He.ga K "NoHelper"), .ref (He.ga K "NoMark"), .ref (He.ga K "NotOver"), .ref (He.ga K "NoText"), .ref (He.ga K "TooLong")] = some false
  yes : PySem.W.kitOne K (.ref (He.ga K "NoProgram")) (.ref (He.ga K "NoProgram")) = some true
  ve : PySem.W.kitOne K (.ref (He.ga K "NoProgram")) (.type "ValueError") = some true
def xfOk (K : PySem.W.Frag) : Bool := xclB K (He.ga K "NoProgram") && (xinB K (He.ga K "NoProgram") ["helper", "at"] && (decide (PySem.W.exmOne K (.ref (He.ga K "NoProgram")) (.ref (He.ga K "WorkError")) = some true) &&
  (decide (PySem.W.kitAny K (.ref (He.ga K "NoProgram")) [.ref (He.ga K "NoHand"), .ref (He.ga K "NoHelper"), .ref (He.ga K "NoMark"), .ref (He.ga K "NotOver"), .ref (He.ga K "NoText"), .ref (He.ga K "TooLong")] = some false) &&
  (decide (PySem.W.kitOne K (.ref (He.ga K "NoProgram")) (.ref (He.ga K "NoProgram")) = some true) && decide (PySem.W.kitOne K (.ref (He.ga K "NoProgram")) (.type "ValueError") = some true)))))
theorem xfOk_ok {K : PySem.W.Frag} (h : xfOk K = true) : XF K := by
  unfold xfOk at h
  simp only [Bool.and_eq_true, decide_eq_true_eq] at h
  obtain ⟨h1, h2, h3, h4, h5, h6⟩ := h
  exact ⟨xclB_ok h1, xinB_ok h2, h3, h4, h5, h6⟩
end
end Fg
namespace Fg
open PySem PySem.Spec PyProof.Rows L2
local macro_rules | `(tactic| walk_at "len") => `(tactic| first | exact (fun ⟨e, _⟩ => by rw [e]; rfl) | (refine exL ?_; intro _; walk_at "len"))
def topS (i : Nat) : Stmt := PySem.Challenge.pw_forkgather_k05_whole_first_wrong_step.main.body.getD i (.Pass ⟨0, 0, 0, 0⟩)
abbrev s_NoProgram___init__ : Stmt := inClass (topS 2) 0
abbrev s_is_whole : Stmt := topS 13
abbrev s_is_name : Stmt := topS 14
abbrev s_is_expression : Stmt := topS 15
abbrev s_is_step : Stmt := topS 16
abbrev s_has_form : Stmt := topS 17
abbrev s_first_wrong : Stmt := topS 18
abbrev s_is_program : Stmt := topS 19
abbrev s_check : Stmt := topS 20
abbrev s__law_cell_at : Stmt := topS 22
abbrev s__law_bag : Stmt := topS 23
abbrev s__law_draw : Stmt := topS 24
abbrev s__law_name : Stmt := topS 25
abbrev s__law_names : Stmt := topS 26
abbrev s__law_number : Stmt := topS 27
abbrev s__law_expression : Stmt := topS 28
abbrev s__law_step : Stmt := topS 29
abbrev s__law_program : Stmt := topS 30
abbrev s__law_is_name : Stmt := topS 31
abbrev s__law_is_whole : Stmt := topS 32
abbrev s__law_is_expression : Stmt := topS 33
abbrev s__law_is_step : Stmt := topS 34
abbrev s__law_wrong : Stmt := topS 35
abbrev s__law_told : Stmt := topS 36
abbrev s__law_alike : Stmt := topS 37
abbrev s__law_no_name : Stmt := topS 38
abbrev s__law_bad_step : Stmt := topS 39
abbrev s_law : Stmt := topS 40
def d_NoProgram___init__ : He.DefD := ⟨("NoProgram", some "__init__"), "__init__", "NoProgram.__init__", defArgs s_NoProgram___init__, defBody s_NoProgram___init__, defScope s_NoProgram___init__, [], []⟩
def d_is_whole : He.DefD := ⟨("is_whole", none), "is_whole", "is_whole", defArgs s_is_whole, defBody s_is_whole, defScope s_is_whole, [], []⟩
def d_is_name : He.DefD := ⟨("is_name", none), "is_name", "is_name", defArgs s_is_name, defBody s_is_name, defScope s_is_name, [], []⟩
def d_is_expression : He.DefD := ⟨("is_expression", none), "is_expression", "is_expression", defArgs s_is_expression, defBody s_is_expression, defScope s_is_expression, [.int 5], []⟩
def d_is_step : He.DefD := ⟨("is_step", none), "is_step", "is_step", defArgs s_is_step, defBody s_is_step, defScope s_is_step, [], []⟩
def d_has_form : He.DefD := ⟨("has_form", none), "has_form", "has_form", defArgs s_has_form, defBody s_has_form, defScope s_has_form, [], []⟩
def d_first_wrong : He.DefD := ⟨("first_wrong", none), "first_wrong", "first_wrong", defArgs s_first_wrong, defBody s_first_wrong, defScope s_first_wrong, [], []⟩
def d_is_program : He.DefD := ⟨("is_program", none), "is_program", "is_program", defArgs s_is_program, defBody s_is_program, defScope s_is_program, [], []⟩
def d_check : He.DefD := ⟨("check", none), "check", "check", defArgs s_check, defBody s_check, defScope s_check, [], []⟩
def d__law_cell_at : He.DefD := ⟨("_law_cell_at", none), "_law_cell_at", "_law_cell_at", defArgs s__law_cell_at, defBody s__law_cell_at, defScope s__law_cell_at, [], []⟩
def d__law_bag : He.DefD := ⟨("_law_bag", none), "_law_bag", "_law_bag", defArgs s__law_bag, defBody s__law_bag, defScope s__law_bag, [], []⟩
def d__law_draw : He.DefD := ⟨("_law_draw", none), "_law_draw", "_law_draw", defArgs s__law_draw, defBody s__law_draw, defScope s__law_draw, [], []⟩
def d__law_name : He.DefD := ⟨("_law_name", none), "_law_name", "_law_name", defArgs s__law_name, defBody s__law_name, defScope s__law_name, [], []⟩
def d__law_names : He.DefD := ⟨("_law_names", none), "_law_names", "_law_names", defArgs s__law_names, defBody s__law_names, defScope s__law_names, [], []⟩
def d__law_number : He.DefD := ⟨("_law_number", none), "_law_number", "_law_number", defArgs s__law_number, defBody s__law_number, defScope s__law_number, [], []⟩
def d__law_expression : He.DefD := ⟨("_law_expression", none), "_law_expression", "_law_expression", defArgs s__law_expression, defBody s__law_expression, defScope s__law_expression, [], []⟩
def d__law_step : He.DefD := ⟨("_law_step", none), "_law_step", "_law_step", defArgs s__law_step, defBody s__law_step, defScope s__law_step, [], []⟩
def d__law_program : He.DefD := ⟨("_law_program", none), "_law_program", "_law_program", defArgs s__law_program, defBody s__law_program, defScope s__law_program, [], []⟩
def d__law_is_name : He.DefD := ⟨("_law_is_name", none), "_law_is_name", "_law_is_name", defArgs s__law_is_name, defBody s__law_is_name, defScope s__law_is_name, [], []⟩
def d__law_is_whole : He.DefD := ⟨("_law_is_whole", none), "_law_is_whole", "_law_is_whole", defArgs s__law_is_whole, defBody s__law_is_whole, defScope s__law_is_whole, [], []⟩
def d__law_is_expression : He.DefD := ⟨("_law_is_expression", none), "_law_is_expression", "_law_is_expression", defArgs s__law_is_expression, defBody s__law_is_expression, defScope s__law_is_expression, [], []⟩
def d__law_is_step : He.DefD := ⟨("_law_is_step", none), "_law_is_step", "_law_is_step", defArgs s__law_is_step, defBody s__law_is_step, defScope s__law_is_step, [], []⟩
def d__law_wrong : He.DefD := ⟨("_law_wrong", none), "_law_wrong", "_law_wrong", defArgs s__law_wrong, defBody s__law_wrong, defScope s__law_wrong, [], []⟩
def d__law_told : He.DefD := ⟨("_law_told", none), "_law_told", "_law_told", defArgs s__law_told, defBody s__law_told, defScope s__law_told, [], []⟩
def d__law_alike : He.DefD := ⟨("_law_alike", none), "_law_alike", "_law_alike", defArgs s__law_alike, defBody s__law_alike, defScope s__law_alike, [], []⟩
def d__law_no_name : He.DefD := ⟨("_law_no_name", none), "_law_no_name", "_law_no_name", defArgs s__law_no_name, defBody s__law_no_name, defScope s__law_no_name, [], []⟩
def d__law_bad_step : He.DefD := ⟨("_law_bad_step", none), "_law_bad_step", "_law_bad_step", defArgs s__law_bad_step, defBody s__law_bad_step, defScope s__law_bad_step, [], []⟩
def d_law : He.DefD := ⟨("law", none), "law", "law", defArgs s_law, defBody s_law, defScope s_law, [], []⟩
def fn : List He.DefD := [d_is_whole, d_is_name, d_is_expression, d_is_step, d_has_form, d_first_wrong, d_is_program, d_check, d__law_cell_at, d__law_bag, d__law_draw, d__law_name, d__law_names, d__law_number, d__law_expression, d__law_step, d__law_program, d__law_is_name, d__law_is_whole, d__law_is_expression, d__law_is_step, d__law_wrong, d__law_told, d__law_alike, d__law_no_name, d__law_bad_step, d_law, d_NoProgram___init__]
def fa : List He.Fa := [.glo "is_whole", .glo "is_name", .glo "is_expression", .glo "is_step", .glo "has_form", .glo "first_wrong", .glo "is_program", .glo "check", .glo "_law_cell_at", .glo "_law_bag", .glo "_law_draw", .glo "_law_name", .glo "_law_names", .glo "_law_number", .glo "_law_expression", .glo "_law_step", .glo "_law_program", .glo "_law_is_name", .glo "_law_is_whole", .glo "_law_is_expression", .glo "_law_is_step", .glo "_law_wrong", .glo "_law_told", .glo "_law_alike", .glo "_law_no_name", .glo "_law_bad_step", .glo "law", .glo "WorkError", .glo "NoProgram", .glo "NoHelper", .glo "TooLong", .glo "NoMark", .glo "NoHand", .glo "NotOver", .glo "NoText", .free "ValueError", .free "all", .free "range", .free "list", .free "sorted", .free "isinstance", .free "int", .free "len", .free "enumerate", .free "max", .free "bool", .free "str", .free "tuple", .free "min", .free "zip", .str "LETTERS" letters, .int "LONGEST_NAME" 8, .glo "PARTS"]
def ts : List He.Tab := [(fun K => He.ga K "PARTS", partK)]
def ex (K : PySem.W.Frag) : Bool := He.valsB K (He.ga K "PARTS") partV && (xfOk K)
abbrev R0 : PySem.W.OpenRow := PySem.W.OpenLaw.row PySem.Challenge.rw_forkgather_k05_whole_first_wrong_step
abbrev hk : PySem.W.Hook := He.hookX 5 fa fn ts [] ex
def ob (s : PySem.W.SharedT) : He.AlX := He.obsX 5 fa fn ts [] ex (HandSHeadRun.getT s)
theorem ob_eq (s : PySem.W.SharedT) : ob s = hk.obs s.abs := He.obsX_eq (HandSHeadRun.getT_eq s)
def names : List Str := [Str.ofString "WorkError", Str.ofString "NoProgram", Str.ofString "NoHelper", Str.ofString "TooLong", Str.ofString "NoMark", Str.ofString "NoHand", Str.ofString "NotOver", Str.ofString "NoText", Str.ofString "LETTERS", Str.ofString "LONGEST_NAME", Str.ofString "PARTS", Str.ofString "is_whole", Str.ofString "is_name", Str.ofString "is_expression", Str.ofString "is_step", Str.ofString "has_form", Str.ofString "first_wrong", Str.ofString "is_program", Str.ofString "check", Str.ofString "_law_cell_at", Str.ofString "_law_bag", Str.ofString "_law_draw", Str.ofString "_law_name", Str.ofString "_law_names", Str.ofString "_law_number", Str.ofString "_law_expression", Str.ofString "_law_step", Str.ofString "_law_program", Str.ofString "_law_is_name", Str.ofString "_law_is_whole", Str.ofString "_law_is_expression", Str.ofString "_law_is_step", Str.ofString "_law_wrong", Str.ofString "_law_told", Str.ofString "_law_alike", Str.ofString "_law_no_name", Str.ofString "_law_bad_step"]
theorem run_f (w : World) : HandSHeadRun.RunEq R0 (PySem.W.view R0.prog [40]) hk ob 4000 names (w.withFollow "special-get-raises" false) := fun os => by kernel_rfl
theorem run_t (w : World) : HandSHeadRun.RunEq R0 (PySem.W.view R0.prog [40]) hk ob 4000 names (w.withFollow "special-get-raises" true) := fun os => by kernel_rfl
theorem run (w : World) : HandSHeadRun.RunEq R0 (PySem.W.view R0.prog [40]) hk ob 4000 names w :=
  PySem.W.byRow2 "special-get-raises" (P := fun w => HandSHeadRun.RunEq R0 (PySem.W.view R0.prog [40]) hk ob 4000 names w) run_f run_t w
set_option maxHeartbeats 0 in
open PySem.W PySem.Calls in
theorem close (sp : PySem.W.Frag → Sp) (hsp : ∀ (K : PySem.W.Frag) (H : Hp) (a : Addr) (ns : List Int), ns.length ≤ 63 → SqL K H a (ns.map V.int) → sp K [.ref a] H (fun v _ => v = .bl true) (fun _ _ _ => False))
    (facts : ∀ {w : World} {K : PySem.W.Frag} {h : Heap} {mg : Str → Option Value} {f : Addr}, K.In h → h.Ns mainGlobals mg → mg ("law" : Str) = some (.ref f) → He.SaysX fa fn ts [] ex w h K →
      ∃ fd : FuncData, (∀ (s : Shared) (v : Value), BindsTo s fd ⟨[v], []⟩ [("script", v)]) ∧ ∀ base : Heap, K.In base → base.Ns mainGlobals mg → FnOk (PySem.Challenge.rw_forkgather_k05_whole_first_wrong_step).prog w K mg base CX0 14 f fd ["script"] (sp K)) : PySem.Challenge.rw_forkgather_k05_whole_first_wrong_step.Holds := by
  w_on; o_law
  refine HandSHeadRun.head_any (r := OpenLaw.row PySem.Challenge.rw_forkgather_k05_whole_first_wrong_step) (q := view (OpenLaw.row PySem.Challenge.rw_forkgather_k05_whole_first_wrong_step).prog [40]) (H := Fg.hk) (ob := Fg.ob) (M := 4000) (loose := Fg.names) (d := HandSHeadRun.topDef (OpenLaw.row PySem.Challenge.rw_forkgather_k05_whole_first_wrong_step).prog 40) (kwd := []) Fg.ob_eq
    (by kernel_rfl) (fun s => by kernel_rfl) Fg.run (by kernel_rfl) (by kernel_rfl) (by kernel_rfl) (by rfl) (by first | assumption | decide +kernel) (by decide +kernel) ⟨rfl, rfl, rfl, rfl, rfl, by decide +kernel⟩ ?hw ?hc
  case hw => w_witness2
  case hc =>
    refine L2.walk_ofE (l := PySem.Challenge.rw_forkgather_k05_whole_first_wrong_step) (n := 63) (k := 14) (x := "script") (CX := L2.CX0) rfl (by decide) (by kernel_rfl) ⟨rfl, by decide, by decide⟩ ?F (fun _ _ _ _ z => z)
    intro w mg fa h Y G hmg0
    obtain ⟨K, KX, c⟩ := Y
    have hmg : mg ("law" : PySem.Str) = some (.ref fa) := by
      have e : (HandSHeadRun.topDef (OpenLaw.row PySem.Challenge.rw_forkgather_k05_whole_first_wrong_step).prog 40).name = ("law" : PySem.Str) := by kernel_rfl
      rw [← e]
      exact hmg0
    obtain ⟨fd, hb, hF⟩ := facts (w := w) KX G hmg c
    exact ⟨K, fd, sp K, KX, hb, fun H a ns hl _ hS => hsp K H a ns hl hS, hF⟩
end Fg
namespace Fg
open PySem PySem.Spec PyProof.Rows L2
local macro_rules | `(tactic| walk_at "hp") => `(tactic| first
  | assumption
  | exact upd_same
  | (refine Chg.at (by assumption) ?_; walk_at "hp")
  | (refine Chg.at1 (by assumption) ?_ (by walk_at "ne"); walk_at "hp"))
local macro_rules | `(tactic| walk_at "ne") => `(tactic| first | assumption | (apply Ne.symm; assumption))
local macro_rules | `(tactic| walk_at "sq") => `(tactic| first | assumption | exact sqL (by walk_at "hp") | (refine Chg.seq (by assumption) ?_; walk_at "sq"))
local macro_rules | `(tactic| walk_at "sz") => `(tactic| first | assumption | exact Nat.zero_le _ | (simp only [List.length_cons, List.length_nil]; decide) | exact Nat.le_trans (by first | omega | (simp; done) | (simp; omega)) (show 100000 ≤ sizeLine by decide) | exact Nat.lt_of_lt_of_le (by first | omega | (simp; done) | (simp; omega)) (show 100000 ≤ sizeLine by decide))
local macro_rules | `(tactic| walk_at "ix") => `(tactic| first | exact at0 | exact at1 | exact at2 | exact at3 | assumption | exact rfl | walk_at "ix2")
local macro_rules | `(tactic| walk_at "ix2") => `(tactic| fail)
local macro_rules | `(tactic| walk_at "num") => `(tactic| first | assumption | omega | decide | walk_at "num2")
local macro_rules | `(tactic| walk_at "num2") => `(tactic| fail)
local macro_rules | `(tactic| walk_at "im") => `(tactic| first | assumption | exact R.non (S := fun _ => False) | exact R.bl (S := fun _ => False) _ | exact R.int (S := fun _ => False) _ | exact R.str (S := fun _ => False) _ | (refine R.im (by assumption) ?_; walk_at "im"))
local macro_rules | `(tactic| walk_at "r") => `(tactic| first | assumption | exact R.non (S := fun _ => False) | exact R.bl (S := fun _ => False) _ | exact R.int (S := fun _ => False) _ | exact R.str (S := fun _ => False) _ | (refine R.same (by assumption) ?_; walk_at "r") | exact R.any (by walk_at "im"))
local macro_rules | `(tactic| walk_at "chg") => `(tactic| first
  | exact Chg.refl
  | assumption
  | (refine Chg.same ?_ (by assumption); walk_at "chg")
  | (refine Chg.both ?_ (by assumption); walk_at "chg")
  | (refine Chg.pre (by assumption) ?_; walk_at "chg"))
local macro_rules | `(tactic| walk_at "w1") => `(tactic| first
  | with_reducible apply w_seq
  | with_reducible apply w_asg
  | ((with_reducible apply w_var); (focus (exact rfl)))
  | with_reducible apply w_c
  | with_reducible apply w_op
  | with_reducible apply w_cons
  | with_reducible apply w_nil
  | with_reducible apply w_gName
  | with_reducible apply w_if
  | with_reducible apply w_test
  | with_reducible apply w_B
  | with_reducible apply w_isbl
  | with_reducible apply w_retN
  | with_reducible apply w_next
  | with_reducible apply w_drop
  | with_reducible apply w_cb
  | with_reducible apply w_call
  | with_reducible apply w_callN
  | with_reducible apply w_bm
  | with_reducible apply w_bm0
  | ((with_reducible apply w_tyL); (focus (walk_at "hp"; done)))
  | with_reducible apply w_dput
  | with_reducible apply w_m1
  | with_reducible apply w_isstr
  | with_reducible apply w_and
  | with_reducible apply w_or
  | with_reducible apply w_not
  | with_reducible apply w_andV
  | with_reducible apply w_orV
  | with_reducible apply w_notV
  | with_reducible apply w_ifE
  | with_reducible apply w_chain
  | with_reducible apply w_un
  | with_reducible apply w_neg
  | with_reducible apply w_add
  | with_reducible apply w_sub
  | ((with_reducible apply w_mod); (focus (walk_at "num"; done)))
  | ((with_reducible apply w_mul); (focus (walk_at "num"; done)))
  | ((with_reducible apply w_fdiv); (focus (walk_at "num"; done)))
  | ((with_reducible apply w_pow); (focus (walk_at "num"; done)))
  | with_reducible apply w_lt
  | with_reducible apply w_le
  | with_reducible apply w_gt
  | with_reducible apply w_ge
  | with_reducible apply w_ltS
  | with_reducible apply w_geS
  | with_reducible apply w_inC
  | with_reducible apply w_notInC
  | with_reducible apply w_isN
  | with_reducible apply w_notN
  | with_reducible apply w_isB
  | with_reducible apply w_notB
  | ((with_reducible apply w_addS); (focus (walk_at "sz"; done)))
  | ((with_reducible apply w_ixL); (focus (walk_at "sq"; done)); (focus (walk_at "ix"; done)))
  | ((with_reducible apply w_ixT); (focus (walk_at "hp"; done)); (focus (walk_at "ix"; done)))
  | ((with_reducible apply w_ixS); (focus (walk_at "sz"; done)); (focus (walk_at "ix"; done)))
  | with_reducible apply w_gSub
  | ((with_reducible apply w_gTup); (focus (walk_at "hp"; done)); (focus (exact rfl)))
  | with_reducible apply w_gCons
  | with_reducible apply w_gNil
  | ((with_reducible apply w_aug); (focus (exact rfl)))
  | with_reducible apply w_ipI
  | ((with_reducible apply w_eq); (focus (exact rfl)))
  | ((with_reducible apply w_ne); (focus (exact rfl)))
  | with_reducible apply w_max
  | with_reducible apply w_min
  | with_reducible apply w_abs
  | with_reducible apply w_intB
  | with_reducible apply w_intI
  | with_reducible apply w_tup1
  | with_reducible apply w_lst1
  | with_reducible apply w_sl
  | with_reducible apply w_part
  | with_reducible apply w_noPart
  | with_reducible apply w_isint
  | ((with_reducible apply w_slS); (focus (walk_at "sz"; done)))
  | with_reducible apply w_iteT
  | with_reducible apply w_iteF
  | with_reducible apply w_iteN
  | ((with_reducible apply w_iteYes); (focus (exact rfl)))
  | ((with_reducible apply w_iteNo); (focus (exact rfl)))
  | ((with_reducible apply w_lenL); (focus (walk_at "sq"; done)))
  | ((with_reducible apply w_lenT); (focus (walk_at "hp"; done)))
  | ((with_reducible apply w_lenS); (focus (walk_at "sz"; done)))
  | with_reducible apply w_lc
  | with_reducible apply w_for
  | with_reducible apply w_yes
  | ((with_reducible apply w_wipe); (focus (exact rfl)))
  | with_reducible apply w_iList
  | with_reducible apply w_iTup
  | with_reducible apply w_iStr
  | with_reducible apply w_iRng1
  | with_reducible apply w_iRng2
  | with_reducible apply w_iZip
  | with_reducible apply w_iEnum
  | ((with_reducible apply d_iList); (focus (walk_at "sq"; done)))
  | ((with_reducible apply d_iTup); (focus (walk_at "hp"; done)))
  | with_reducible apply d_iStr
  | ((with_reducible apply d_iRng1); (focus (walk_at "num"; done)); (focus (walk_at "num"; done)))
  | ((with_reducible apply d_iRng2); (focus (walk_at "num"; done)); (focus (walk_at "num"; done)); (focus (walk_at "num"; done)); (focus (walk_at "num"; done)))
  | ((with_reducible apply d_iZip); (focus (walk_at "sq"; done)); (focus (walk_at "sq"; done)))
  | ((with_reducible apply d_iEnum); (focus (walk_at "sq"; done)))
  | walk_at "w2")
local macro_rules | `(tactic| walk_at "w2") => `(tactic| fail)
local macro_rules | `(tactic| walk_at "wn") => `(tactic| repeat walk_at "w1")
local macro_rules | `(tactic| walk_at "w") => `(tactic| repeat (first | walk_at "w1" | with_reducible apply w_ret))
local macro_rules | `(tactic| walk_at "w2") => `(tactic| first
  | ((with_reducible apply w_isInt); (focus (walk_at "r"; done)))
  | ((with_reducible apply w_isBool); (focus (walk_at "r"; done)))
  | ((with_reducible apply w_isStr); (focus (walk_at "r"; done)))
  | ((with_reducible apply w_isTup); (focus (walk_at "r"; done)))
  | ((with_reducible apply w_isLst); (focus (walk_at "r"; done)))
  | ((with_reducible apply w_notInP); (focus (assumption)))
  | ((with_reducible apply w_ixP); (focus (assumption)); (focus (assumption))))
section
abbrev fin (Q : VK) : Ends := { nx := fun _ H' => Q .non H', rt := Q }
def t_is_whole (K : PySem.W.Frag) : TS :=
    tRet (tAndV (tCB (rIsi K) (tCons (tVar 0) (tCons (tC (.ty "int")) (tNil)))) (tNotV (tCB (rIsi K) (tCons (tVar 0) (tCons (tC (.ty "bool")) (tNil))))))
def sp_is_whole : Sp := fun vs H Q _ => ∃ (v : V) (d : PyData) (S : Addr → Prop), vs = [v] ∧ R S H v d ∧ Q (.bl (isWhole d)) H
theorem pure_is_whole {K : PySem.W.Frag} (vs : List V) (H : Hp) (Q : VK) (E : XK) (h : sp_is_whole vs H Q E) : t_is_whole K (fin Q) (start ["thing"] vs) H := by
  obtain ⟨v, d, S, rfl, r, q⟩ := h
  show t_is_whole K _ [some v] H
  unfold t_is_whole
  walk_at "w"
  cases d <;> (walk_at "w"; exact q)
def t_is_name (K : PySem.W.Frag) : TS :=
    tSeq (tIfS (tOr (tNot (tB (tCB (rIsi K) (tCons (tVar 0) (tCons (tC (.ty "str")) (tNil)))))) (tOr (tTest (tOp oLt (tCB cLenS (tCons (tVar 0) (tNil))) (tC (.int 1)))) (tTest (tOp oGt (tCB cLenS (tCons (tVar 0) (tNil))) (tC (.int 8)))))) (tRet (tC (.bl false))) (tNext))
    (tRet (tCB (rAll K) (tCons (tLc (iStr (tVar 0)) (gName 1) (tYes) (tOp oInC (tVar 1) (tC (.str letters))) [1]) (tNil))))
def sp_is_name : Sp := fun vs H Q _ => ∃ (v : V) (d : PyData) (S : Addr → Prop), vs = [v] ∧ R S H v d ∧ (∀ x, d = .str x → x.length ≤ 100000) ∧ ∀ H', Chg [] H H' → Q (.bl (isName d)) H'
theorem pure_is_name {K : PySem.W.Frag} (vs : List V) (H : Hp) (Q : VK) (E : XK) (h : sp_is_name vs H Q E) : t_is_name K (fin Q) (start ["thing", "sign"] vs) H := by
  obtain ⟨v, d, S, rfl, r, hx, q⟩ := h
  show t_is_name K _ [some v, none] H
  unfold t_is_name
  walk_at "w"
  have q0 := q H .refl
  cases r with
  | str x =>
    have hz := hx x rfl
    walk_at "w"
    refine w_iteD (fun h => ?_) (fun h => ?_)
    · walk_at "w"
      have e : isName (.str x) = false := by
        show (decide (1 ≤ x.length) && decide (x.length ≤ 8) && x.cps.toList.all isLow) = false
        rw [decide_eq_false (by omega)]
        rfl
      rw [e] at q0
      exact q0
    walk_at "w"
    refine w_iteD (fun h2 => ?_) (fun h2 => ?_)
    · walk_at "w"
      have e : isName (.str x) = false := by
        show (decide (1 ≤ x.length) && decide (x.length ≤ 8) && x.cps.toList.all isLow) = false
        rw [decide_eq_false (p := x.length ≤ 8) (by omega), Bool.and_false]
        rfl
      rw [e] at q0
      exact q0
    walk_at "w"
    have hl : x.cps.size ≤ 100000 := hz
    refine w_lcP walk_str [] (fun _ _ => True) (fun i y _ => ∃ c, x.cps[i]? = some c ∧ y = .bl (isLow c)) trivial (fun _ _ _ _ _ _ _ => trivial) (fun _ _ => trivial) (fun D i acc z H1 H2 hi nD hD el iv c _ y => ?_) (fun D acc H1 nD c _ el hD ys => ?_)
    · obtain ⟨rfl, ch, ec, rfl⟩ := y
      walk_at "w"
      exact lcp_end (fun _ _ _ _ _ _ _ => trivial) (fun _ _ _ _ _ _ _ h => h) nD (by simp) hD el (by omega) iv .refl trivial ⟨ch, ec, rfl⟩
    · have e : acc = (x.cps.toList.map isLow).map V.bl := by
        refine all_bl el (by simp) fun i y hy => ?_
        obtain ⟨ch, ec, rfl⟩ := ys i y hy
        refine ⟨isLow ch, ?_, rfl⟩
        rw [List.getElem?_map, Array.getElem?_toList, ec]
        rfl
      subst e
      walk_at "w"
      refine w_all hD ?_
      have e2 : (x.cps.toList.map isLow).all id = isName (.str x) := by
        show _ = (decide (1 ≤ x.length) && decide (x.length ≤ 8) && x.cps.toList.all isLow)
        rw [decide_eq_true (by omega), decide_eq_true (by omega), List.all_map]
        rfl
      walk_at "w"
      rw [e2]
      exact q H1 c
  | _ => 
    walk_at "w"
    exact q0
end
section
def sp_is_expression (n : Nat) : Sp := fun vs H Q _ => ∃ (v : V) (d : PyData) (S : Addr → Prop) (m : Nat), vs = [v, .int (m : Nat)] ∧ m + 1 ≤ n ∧ R S H v d ∧ ∀ H', Chg [] H H' → Q (.bl (isExpr m d)) H'
theorem no_is_expression (vs : List V) (H : Hp) (Q : VK) (E : XK) : ¬ sp_is_expression 0 vs H Q E := by
  rintro ⟨v, d, S, m, _, h, _⟩
  omega
def t_is_expression (K : PySem.W.Frag) (w : World) (dP : Addr) (n : Nat) : TS :=
    tSeq (tIfS (tTest (tOp oLt (tVar 1) (tC (.int 1)))) (tRet (tC (.bl false))) (tNext))
    (tSeq (tIfS (tB (tCall sp_is_whole [] E0 (tCons (tVar 0) (tNil)))) (tRet (tC (.bl true))) (tNext))
    (tSeq (tIfS (tOr (tNot (tB (tCB (rIsi K) (tCons (tVar 0) (tCons (tC (.ty "tuple")) (tNil)))))) (tOr (tTest (tOp oLt (tCB (cLenQ K) (tCons (tVar 0) (tNil))) (tC (.int 1)))) (tNot (tB (tCB (rIsi K) (tCons (tOp (rIxT K) (tVar 0) (tC (.int 0))) (tCons (tC (.ty "str")) (tNil)))))))) (tRet (tC (.bl false))) (tNext))
    (tSeq (tIfS (tOr (tTest (tOp (oNotInKd K dP) (tOp (rIxT K) (tVar 0) (tC (.int 0))) (tC (.ref dP)))) (tTest (tOp rNe (tCB (cLenQ K) (tCons (tVar 0) (tNil))) (tOp oAdd (tOp (rIxD K w) (tC (.ref dP)) (tOp (rIxT K) (tVar 0) (tC (.int 0)))) (tC (.int 1)))))) (tRet (tC (.bl false))) (tNext))
    (tRet (tCB (rAll K) (tCons (tLc (iTup K (tSl (rSlA K) (tVar 0) (tPart (tC (.int 1))) (tNoPart))) (gName 2) (tYes) (tCall (sp_is_expression n) [] E0 (tCons (tVar 2) (tCons (tOp oSub (tVar 1) (tC (.int 1))) (tNil)))) [2]) (tNil)))))))
theorem pure_is_expression {K : PySem.W.Frag} {w : World} {dP : Addr} (T : Parts K w dP) (n : Nat) (vs : List V) (H : Hp) (Q : VK) (E : XK) (h : sp_is_expression (n + 1) vs H Q E) : t_is_expression K w dP n (fin Q) (start ["thing", "most", "one"] vs) H := by
  obtain ⟨v, d, S, m, rfl, hm, r, q⟩ := h
  show t_is_expression K w dP n _ [some v, some (.int (m : Nat)), none] H
  unfold t_is_expression
  have q0 := q H .refl
  walk_at "w"
  refine w_iteD (fun h => ?_) (fun h => ?_)
  · walk_at "w"
    have e : m = 0 := by omega
    subst e
    exact q0
  obtain ⟨k, rfl⟩ : ∃ k, m = k + 1 := ⟨m - 1, by omega⟩
  walk_at "w"
  refine ⟨v, d, S, rfl, r, ?_⟩
  walk_at "w"
  cases r with
  | int i => walk_at "w"; exact q0
  | non => walk_at "w"; exact q0
  | bl b => walk_at "w"; exact q0
  | str b => walk_at "w"; exact q0
  | lst s e a =>
    have r := R.lst s e a
    walk_at "w"; exact q0
  | dic s e =>
    have r := R.dic s e
    walk_at "w"; exact q0
  | @tup a xs ds e ra =>
    have r := R.tup e ra
    walk_at "w"
    cases ra with
    | nil =>
      walk_at "w"
      exact q0
    | @cons v0 vs0 d0 ds0 r0 rs =>
      refine w_iteD (fun h => ?_) (fun _ => ?_)
      · rw [List.length_cons] at h
        omega
      walk_at "w"
      cases r0 with
      | int i => walk_at "w"; exact q0
      | non => walk_at "w"; exact q0
      | bl b => walk_at "w"; exact q0
      | lst s1 e1 a1 =>
        have r := R.lst s1 e1 a1
        walk_at "w"; exact q0
      | dic s1 e1 =>
        have r := R.dic s1 e1
        walk_at "w"; exact q0
      | tup e1 a1 =>
        have r := R.tup e1 a1
        walk_at "w"; exact q0
      | str z =>
        walk_at "w"
        cases ez : partsOf z with
        | none =>
          walk_at "w"
          have e2 : isExpr (k + 1) (.tuple (.str z :: ds0)) = false := by
            unfold isExpr
            rw [ez]
          rw [e2] at q0
          exact q0
        | some pk =>
          walk_at "w"
          have ln := rs.length
          refine w_iteD (fun h => ?_) (fun h => ?_)
          · have h' : vs0.length = pk := by
              have := V.int.inj h
              rw [List.length_cons] at this
              omega
            have hp : pk ≤ 2 := by
              unfold partsOf at ez
              repeat (split at ez; · cases ez; omega)
              cases ez
            walk_at "w"
            refine w_slA e fun p' H2 c2 h2 => ?_
            rw [cut1] at h2
            walk_at "w"
            have rs2 := rs.same c2
            refine w_lcP walk_tup [] (fun _ _ => True) (fun i y _ => ∃ d, ds0[i]? = some d ∧ y = .bl (isExpr k d)) trivial (fun _ _ _ _ _ _ _ => trivial) (fun H1 c => sqT (c.at h2)) (fun D i acc z H1 H3 hi nD hD el iv c _ y => ?_) (fun D acc H1 nD c _ el hD ys => ?_)
            · obtain ⟨rfl, ey⟩ := y
              obtain ⟨d1, ed, r1⟩ := rs2.get (i := i) (v := z) ey
              walk_at "w"
              have e5 : (((k + 1 : Nat) : Int)) - 1 = (k : Nat) := by omega
              rw [e5]
              refine ⟨z, d1, S, k, rfl, by omega, r1.same c, fun H4 c4 => ?_⟩
              have hi' : i < 3 := by
                have : (vs0.length) ≤ 2 := by omega
                have h6 : i < vs0.length := hi
                omega
              exact lcp_end (fun _ _ _ _ _ _ _ => trivial) (fun _ _ _ _ _ _ _ h => h) nD (by simp) hD el (by omega) iv c4 trivial ⟨d1, ed, rfl⟩
            · have e3 : acc = (ds0.map (isExpr k)).map V.bl := by
                refine all_bl el (by rw [List.length_map]; exact ln.symm) fun i y hy => ?_
                obtain ⟨d1, ed, rfl⟩ := ys i y hy
                exact ⟨isExpr k d1, by rw [List.getElem?_map, ed]; rfl, rfl⟩
              subst e3
              walk_at "w"
              refine w_all hD ?_
              walk_at "w"
              have e4 : isExpr (k + 1) (.tuple (.str z :: ds0)) = (ds0.map (isExpr k)).all id := by
                rw [isExpr, ez]
                show (decide (ds0.length = pk) && ds0.all (isExpr k)) = _
                rw [decide_eq_true (by omega), List.all_map]
                rfl
              rw [← e4]
              exact q H1 (c2.same c)
          · walk_at "w"
            have e2 : isExpr (k + 1) (.tuple (.str z :: ds0)) = false := by
              rw [isExpr, ez]
              show (decide (ds0.length = pk) && ds0.all (isExpr k)) = false
              rw [decide_eq_false ?_]
              · rfl
              · intro h7
                apply h
                show V.int _ = V.int _
                congr 1
                rw [List.length_cons]
                omega
            rw [e2] at q0
            exact q0
end
section
mutual
def smallD : PyData → Bool
  | .str x => decide (x.length ≤ 100000)
  | .list ds => smallDs ds
  | .tuple ds => smallDs ds
  | _ => true
def smallDs : List PyData → Bool
  | [] => true
  | d :: ds => smallD d && smallDs ds
end
theorem smallDs_all : ∀ {ds : List PyData}, smallDs ds = true → ∀ d ∈ ds, smallD d = true
  | [], _, d, h => by cases h
  | e :: es, h, d, hd => by
    obtain ⟨h1, h2⟩ := Bool.and_eq_true_iff.mp (show (smallD e && smallDs es) = true from h)
    rcases List.mem_cons.mp hd with rfl | hd
    · exact h1
    · exact smallDs_all h2 d hd
theorem smallD_str {d : PyData} (h : smallD d = true) (x : Str) (e : d = .str x) : x.length ≤ 100000 := by
  subst e
  exact of_decide_eq_true h
section
variable {K : PySem.W.Frag} {H : Hp} {Q : VK} {p : Addr} {xs : List V} {x : V}
theorem w_inL (h : SqL K H p xs) (hx : flatV x = true) (hs : xs.all flatV = true) (q : Q (.bl (inV x xs)) H) : rIn K false x (.ref p) H Q := ⟨p, xs, rfl, .inl h, hx, hs, q⟩
theorem w_notInL (h : SqL K H p xs) (hx : flatV x = true) (hs : xs.all flatV = true) (q : Q (.bl (!inV x xs)) H) : rIn K true x (.ref p) H Q := ⟨p, xs, rfl, .inl h, hx, hs, q⟩
theorem w_notInT (h : H p = some (.tup xs)) (hx : flatV x = true) (hs : xs.all flatV = true) (q : Q (.bl (!inV x xs)) H) : rIn K true x (.ref p) H Q := ⟨p, xs, rfl, .inr (sqT h), hx, hs, q⟩
end
theorem inV_str (x : Str) (ns : List Str) : inV (.str x) (ns.map V.str) = decide (x ∈ ns) := by
  unfold inV
  induction ns with
  | nil => simp
  | cons a r ih =>
    rw [List.map_cons, List.any_cons, ih]
    have e : eqV (.str a) (.str x) = decide (a = x) := by
      show (a == x) = decide (a = x)
      rw [Bool.beq_eq_decide_eq]
    rw [e]
    by_cases h : a = x
    · subst h
      simp
    · have h' : ¬ x = a := fun z => h z.symm
      simp [h, h']
theorem flat_strs (ns : List Str) : (ns.map V.str).all flatV = true := by
  rw [List.all_map]
  exact List.all_eq_true.mpr fun _ _ => rfl
def sp_is_step (K : PySem.W.Frag) : Sp := fun vs H Q _ => ∃ (v : V) (d : PyData) (S : Addr → Prop) (l : Addr) (ns : List Str) (bh : Int), vs = [v, .ref l, .int bh] ∧ R S H v d ∧ smallD d = true ∧ SqL K H l (ns.map V.str) ∧ ∀ H', Chg [] H H' → Q (.bl (isStep ns bh d)) H'
def t_is_step (K : PySem.W.Frag) : TS :=
    tSeq (tIfS (tOr (tNot (tB (tCB (rIsi K) (tCons (tVar 0) (tCons (tC (.ty "tuple")) (tNil)))))) (tOr (tTest (tOp oLt (tCB (cLenQ K) (tCons (tVar 0) (tNil))) (tC (.int 1)))) (tNot (tB (tCB (rIsi K) (tCons (tOp (rIxT K) (tVar 0) (tC (.int 0))) (tCons (tC (.ty "str")) (tNil)))))))) (tRet (tC (.bl false))) (tNext))
    (tSeq (tAsg (tOp (rIxT K) (tVar 0) (tC (.int 0))) (gName 3))
    (tSeq (tIfS (tTest (tOp rEq (tVar 3) (tC (.str "wait")))) (tRet (tOp rEq (tCB (cLenQ K) (tCons (tVar 0) (tNil))) (tC (.int 1)))) (tNext))
    (tSeq (tIfS (tTest (tOp rNe (tCB (cLenQ K) (tCons (tVar 0) (tNil))) (tC (.int 3)))) (tRet (tC (.bl false))) (tNext))
    (tSeq (tIfS (tTest (tOp rEq (tVar 3) (tC (.str "cell")))) (tRet (tAndV (tCall (sp_is_expression 6) [.int 5] E0 (tCons (tOp (rIxT K) (tVar 0) (tC (.int 1))) (tNil))) (tCall (sp_is_expression 6) [.int 5] E0 (tCons (tOp (rIxT K) (tVar 0) (tC (.int 2))) (tNil))))) (tNext))
    (tSeq (tIfS (tTest (tOp rEq (tVar 3) (tC (.str "skip")))) (tRet (tAndV (tCall (sp_is_expression 6) [.int 5] E0 (tCons (tOp (rIxT K) (tVar 0) (tC (.int 1))) (tNil))) (tAndV (tCall sp_is_whole [] E0 (tCons (tOp (rIxT K) (tVar 0) (tC (.int 2))) (tNil))) (tChain oLe oLe (tC (.int 1)) (tOp (rIxT K) (tVar 0) (tC (.int 2))) (tVar 2))))) (tNext))
    (tSeq (tIfS (tOr (tTest (tOp (rIn K true) (tVar 3) (tTup (tCons (tC (.str "give")) (tCons (tC (.str "fork")) (tCons (tC (.str "call")) (tNil))))))) (tOr (tNot (tB (tCall sp_is_name [] E0 (tCons (tOp (rIxT K) (tVar 0) (tC (.int 1))) (tNil))))) (tNot (tB (tCall (sp_is_expression 6) [.int 5] E0 (tCons (tOp (rIxT K) (tVar 0) (tC (.int 2))) (tNil))))))) (tRet (tC (.bl false))) (tNext))
    (tRet (tOrV (tOp rEq (tVar 3) (tC (.str "give"))) (tOp (rIn K false) (tOp (rIxT K) (tVar 0) (tC (.int 1))) (tVar 1))))))))))
theorem isStep_tup (ns : List Str) (bh : Int) (z : Str) (ds : List PyData) : isStep ns bh (.tuple (.str z :: ds)) = (if z = "wait" then decide (ds.length = 0) else stepBody ns bh z ds) := rfl
theorem pure_is_step {K : PySem.W.Frag} (vs : List V) (H : Hp) (Q : VK) (E : XK) (h : sp_is_step K vs H Q E) : t_is_step K (fin Q) (start ["thing", "names", "behind", "word"] vs) H := by
  obtain ⟨v, d, S, l, ns, bh, rfl, r, sm, hl, q⟩ := h
  show t_is_step K _ [some v, some (.ref l), some (.int bh), none] H
  unfold t_is_step
  have q0 := q H .refl
  walk_at "w"
  cases r with
  | int i => walk_at "w"; exact q0
  | non => walk_at "w"; exact q0
  | bl b => walk_at "w"; exact q0
  | str b => walk_at "w"; exact q0
  | lst s e a => walk_at "w"; exact q0
  | dic s e => walk_at "w"; exact q0
  | @tup a xs ds e ra =>
    walk_at "w"
    cases ra with
    | nil => walk_at "w"; exact q0
    | @cons v0 vs0 d0 ds0 r0 rs =>
      refine w_iteD (fun h => ?_) (fun _ => ?_)
      · rw [List.length_cons] at h
        omega
      walk_at "w"
      cases r0 with
      | int i => walk_at "w"; exact q0
      | non => walk_at "w"; exact q0
      | bl b => walk_at "w"; exact q0
      | lst s1 e1 a1 => walk_at "w"; exact q0
      | dic s1 e1 => walk_at "w"; exact q0
      | tup e1 a1 => walk_at "w"; exact q0
      | str z =>
        rw [isStep_tup] at q0
        simp only [isStep_tup] at q
        have ln := rs.length
        walk_at "w"
        refine w_iteD (fun hz => ?_) (fun hz => ?_)
        · have hz' : z = "wait" := V.str.inj hz
          rw [if_pos hz'] at q0
          walk_at "w"
          have e2 : decide (V.int ((V.str z :: vs0).length : Nat) = V.int 1) = decide (ds0.length = 0) := by
            rw [← ln]
            exact decide_eq_decide.mpr ⟨fun h => by have := V.int.inj h; rw [List.length_cons] at this; omega, fun h => by rw [List.length_cons, h]; rfl⟩
          rw [e2]
          exact q0
        have hz' : ¬ z = "wait" := fun h => hz (by rw [h])
        rw [if_neg hz'] at q0
        simp only [if_neg hz'] at q
        walk_at "w"
        refine w_iteD (fun h3 => ?_) (fun h3 => ?_)
        rotate_left
        · walk_at "w"
          have e2 : ∀ a b, ds0 ≠ [a, b] := fun a b h => by
            apply h3
            rw [List.length_cons, ln, h]
            rfl
          match ds0, e2, q0 with
          | [], _, q0 => exact q0
          | [_], _, q0 => exact q0
          | _ :: _ :: _ :: _, _, q0 => exact q0
          | [a, b], h, _ => exact absurd rfl (h a b)
        cases rs with
        | nil => (have := V.int.inj h3; simp only [List.length_cons, List.length_nil] at this; omega)
        | @cons v1 vs1 d1 ds1 r1 rs1 =>
          cases rs1 with
          | nil => (have := V.int.inj h3; simp only [List.length_cons, List.length_nil] at this; omega)
          | @cons v2 vs2 d2 ds2 r2 rs2 =>
            cases rs2 with
            | cons _ _ =>
              have := V.int.inj h3
              simp only [List.length_cons] at this
              omega
            | nil =>
              have q : ∀ H', Chg [] H H' → Q (V.bl (step3 ns bh z d1 d2)) H' := q
              unfold step3 at q
              have sm1 : smallD d1 = true := smallDs_all (ds := [.str z, d1, d2]) sm d1 (by simp)
              walk_at "w"
              refine w_iteD (fun hc => ?_) (fun hc => ?_)
              · have hc' : z = "cell" := V.str.inj hc
                simp only [if_pos hc'] at q
                walk_at "w"
                refine ⟨v1, d1, S, 5, rfl, by omega, r1, fun H1 c1 => ?_⟩
                walk_at "w"
                refine w_iteB (fun b1 => ?_) (fun b1 => ?_)
                · walk_at "w"
                  refine ⟨v2, d2, S, 5, rfl, by omega, r2.same c1, fun H2 c2 => ?_⟩
                  have := q H2 (c1.same c2)
                  rw [b1] at this
                  exact this
                · walk_at "w"
                  have := q H1 c1
                  rw [b1] at this
                  exact this
              have hc' : ¬ z = "cell" := fun h => hc (by rw [h])
              simp only [if_neg hc'] at q
              walk_at "w"
              refine w_iteD (fun hs => ?_) (fun hs => ?_)
              · have hs' : z = "skip" := V.str.inj hs
                simp only [if_pos hs'] at q
                walk_at "w"
                refine ⟨v1, d1, S, 5, rfl, by omega, r1, fun H1 c1 => ?_⟩
                walk_at "w"
                refine w_iteB (fun b1 => ?_) (fun b1 => ?_)
                · walk_at "w"
                  refine ⟨v2, d2, S, rfl, r2.same c1, ?_⟩
                  walk_at "w"
                  have q1 := q H1 c1
                  rw [b1] at q1
                  cases r2 with
                  | int i =>
                    walk_at "w"
                    refine w_iteD (fun g => ?_) (fun g => ?_)
                    · walk_at "w"
                      have q1 : Q (V.bl (true && (decide (1 ≤ i) && decide (i ≤ bh)))) H1 := q1
                      rw [decide_eq_true g] at q1
                      exact q1
                    · walk_at "w"
                      have q1 : Q (V.bl (true && (decide (1 ≤ i) && decide (i ≤ bh)))) H1 := q1
                      rw [decide_eq_false g] at q1
                      exact q1
                  | non => walk_at "w"; exact q1
                  | bl b => walk_at "w"; exact q1
                  | str b => walk_at "w"; exact q1
                  | lst s1 e1 a1 => walk_at "w"; exact q1
                  | dic s1 e1 => walk_at "w"; exact q1
                  | tup e1 a1 => walk_at "w"; exact q1
                · walk_at "w"
                  have := q H1 c1
                  rw [b1] at this
                  exact this
              have hs' : ¬ z = "skip" := fun h => hs (by rw [h])
              simp only [if_neg hs'] at q
              walk_at "w"
              refine k_tup (by decide) fun p H1 np c1 hp => ?_
              refine w_notInT hp rfl rfl ?_
              have ein : inV (.str z) [V.str "give", V.str "fork", V.str "call"] = decide (z ∈ (["give", "fork", "call"] : List Str)) := inV_str z ["give", "fork", "call"]
              rw [ein]
              walk_at "w"
              refine w_iteD (fun hm => ?_) (fun hm => ?_)
              rotate_left
              · walk_at "w"
                have n1 : ¬ z = "give" := fun h => hm (by rw [h]; simp)
                have n2 : ¬ (z = "fork" ∨ z = "call") := fun h => hm (by rcases h with h | h <;> (rw [h]; simp))
                simp only [if_neg n1, if_neg n2] at q
                exact q H1 c1
              walk_at "w"
              refine ⟨v1, d1, S, rfl, r1.same c1, smallD_str sm1, fun H2 c2 => ?_⟩
              walk_at "w"
              refine w_iteB (fun b1 => ?_) (fun b1 => ?_)
              rotate_left
              · walk_at "w"
                have := q H2 (c1.same c2)
                rw [b1] at this
                simp only [Bool.false_and, ite_self] at this
                exact this
              walk_at "w"
              refine ⟨v2, d2, S, 5, rfl, by omega, r2.same (c1.same c2), fun H3 c3 => ?_⟩
              walk_at "w"
              refine w_iteB (fun b2 => ?_) (fun b2 => ?_)
              rotate_left
              · walk_at "w"
                have := q H3 ((c1.same c2).same c3)
                rw [b2, b1] at this
                simp only [Bool.and_false, Bool.false_and, ite_self] at this
                exact this
              walk_at "w"
              have q3 := q H3 ((c1.same c2).same c3)
              rw [b1, b2] at q3
              cases r1 with
              | str x1 =>
                refine w_iteD (fun hg => ?_) (fun hg => ?_)
                · have hg' : z = "give" := V.str.inj hg
                  rw [if_pos hg'] at q3
                  exact q3
                · have hg' : ¬ z = "give" := fun h => hg (by rw [h])
                  walk_at "w"
                  refine w_inL ((c1.same c2).same c3 |>.seq hl) rfl (flat_strs ns) ?_
                  rw [inV_str]
                  have hf : z = "fork" ∨ z = "call" := by
                    simp only [List.mem_cons, List.not_mem_nil, or_false] at hm
                    exact hm.resolve_left hg'
                  rw [if_neg hg', if_pos hf] at q3
                  exact q3
              | int i => cases b1
              | non => cases b1
              | bl b => cases b1
              | lst s1 e1 a1 => cases b1
              | dic s1 e1 => cases b1
              | tup e1 a1 => cases b1
end
section
def lenOk : PyData → Bool
  | .list ds => decide (ds.length ≤ 1000)
  | _ => true
def sp_has_form : Sp := fun vs H Q _ => ∃ (v : V) (d : PyData) (S : Addr → Prop), vs = [v] ∧ R S H v d ∧ smallD d = true ∧ lenOk d = true ∧ ∀ H', Chg [] H H' → Q (.bl (hasForm d)) H'
def t_has_form (K : PySem.W.Frag) : TS :=
    tSeq (tIfS (tNot (tB (tCB (rIsi K) (tCons (tVar 0) (tCons (tC (.ty "list")) (tNil)))))) (tRet (tC (.bl false))) (tNext))
    (tSeq (tFor (iList K (tVar 0)) (gName 1) (tIfS (tOr (tNot (tB (tCB (rIsi K) (tCons (tVar 1) (tCons (tC (.ty "tuple")) (tNil)))))) (tOr (tTest (tOp rNe (tCB (cLenQ K) (tCons (tVar 1) (tNil))) (tC (.int 2)))) (tOr (tNot (tB (tCall sp_is_name [] E0 (tCons (tOp (rIxT K) (tVar 1) (tC (.int 0))) (tNil))))) (tNot (tB (tCB (rIsi K) (tCons (tOp (rIxT K) (tVar 1) (tC (.int 1))) (tCons (tC (.ty "list")) (tNil))))))))) (tRet (tC (.bl false))) (tNext)))
    (tSeq (tAsg (tLc (iList K (tVar 0)) (gTup K 2 (gCons (gName 3) (gCons (gName 4) (gNil)))) (tYes) (tVar 3) [3, 4]) (gName 2))
    (tRet (tCB (rAll K) (tCons (tLc (iZip K (tCons (tVar 2) (tCons (tSl (rSlL K) (tVar 2) (tPart (tC (.int 1))) (tNoPart)) (tNil)))) (gTup K 2 (gCons (gName 5) (gCons (gName 6) (gNil)))) (tYes) (tOp oLtS (tVar 5) (tVar 6)) [5, 6]) (tNil))))))
theorem rising_zip : ∀ ns : List Str, rising ns = ((ns.zip (ns.drop 1)).map fun p => ltS p.1 p.2).all id
  | [] => rfl
  | [_] => rfl
  | x :: y :: r => by
    show (ltS x y && rising (y :: r)) = _
    rw [rising_zip (y :: r)]
    rfl
theorem rowOk_false {d : PyData} (h : ∀ x ds, d = .tuple [.str x, .list ds] → nameS x = false) : rowOk d = false := by
  unfold rowOk
  split
  · exact h _ _ rfl
  · rfl
theorem hasForm_false {rows : List PyData} {i : Nat} {d : PyData} (h : rows[i]? = some d) (hd : rowOk d = false) : hasForm (.list rows) = false := by
  have : rows.all rowOk = false := by
    rw [List.all_eq_false]
    exact ⟨d, List.mem_of_getElem? h, by rw [hd]; decide⟩
  show (rows.all rowOk && _) = false
  rw [this]
  rfl
theorem rowOk_true {d : PyData} (h : rowOk d = true) : ∃ x ds, d = .tuple [.str x, .list ds] ∧ nameS x = true := by
  unfold rowOk at h
  split at h
  · exact ⟨_, _, rfl, h⟩
  · cases h
theorem pure_has_form {K : PySem.W.Frag} (vs : List V) (H : Hp) (Q : VK) (E : XK) (h : sp_has_form vs H Q E) : t_has_form K (fin Q) (start ["thing", "row", "names", "name", "steps", "one", "other"] vs) H := by
  obtain ⟨v, d, S, rfl, r, sm, lo, q⟩ := h
  show t_has_form K _ [some v, none, none, none, none, none, none] H
  unfold t_has_form
  have q0 := q H .refl
  walk_at "w"
  cases r with
  | int i => walk_at "w"; exact q0
  | non => walk_at "w"; exact q0
  | bl b => walk_at "w"; exact q0
  | str b => walk_at "w"; exact q0
  | tup e1 a1 => walk_at "w"; exact q0
  | dic s e => walk_at "w"; exact q0
  | @lst a xs ds s e ra =>
    walk_at "w"
    have ln := ra.length
    have lo' : ds.length ≤ 1000 := of_decide_eq_true lo
    refine for_it (walk_list (K := K) (a := a) (xs := xs)) (fun i σ H1 => Chg [] H H1 ∧ (∀ j d, j < i → ds[j]? = some d → rowOk d = true) ∧ ∃ y, σ = [some (.ref a), y, none, none, none, none, none]) ⟨.refl, fun j d h => by omega, none, rfl⟩ (fun i σ H1 _ p => sqL (p.1.at e)) (fun i x σ H1 H2 hi p y => ?_) (fun σ H1 p => ?_)
    · obtain ⟨c1, ok, y1, rfl⟩ := p
      obtain ⟨rfl, ex⟩ := y
      obtain ⟨d1, ed, r1⟩ := ra.get ex
      have r1 := r1.same c1
      have sm1 : smallD d1 = true := smallDs_all (ds := ds) sm d1 (List.mem_of_getElem? ed)
      have bad : ∀ H3, Chg [] H2 H3 → rowOk d1 = false → Q (.bl false) H3 := fun H3 c3 hb => by
        have := q H3 (c1.same c3)
        rw [hasForm_false ed hb] at this
        exact this
      walk_at "w"
      cases r1 with
      | int i => walk_at "w"; exact bad _ .refl rfl
      | non => walk_at "w"; exact bad _ .refl rfl
      | bl b => walk_at "w"; exact bad _ .refl rfl
      | str b => walk_at "w"; exact bad _ .refl rfl
      | lst s e a => walk_at "w"; exact bad _ .refl rfl
      | dic s e => walk_at "w"; exact bad _ .refl rfl
      | @tup a2 xs2 ds2 e2 ra2 =>
        walk_at "w"
        have ln2 := ra2.length
        refine w_iteD (fun h2 => ?_) (fun h2 => ?_)
        rotate_left
        · walk_at "w"
          refine bad _ .refl (rowOk_false fun x ds h => ?_)
          exfalso
          apply h2
          rw [ln2]
          cases h
          rfl
        have h2' := V.int.inj h2
        cases ra2 with
        | nil => simp only [List.length_nil] at h2'; omega
        | @cons v0 vs0 d0 ds0 r0 rs0 =>
          cases rs0 with
          | nil => simp only [List.length_cons, List.length_nil] at h2'; omega
          | @cons v3 vs3 d3 ds3 r3 rs3 =>
            cases rs3 with
            | cons _ _ => simp only [List.length_cons] at h2'; omega
            | nil =>
              have sm0 : smallD d0 = true := smallDs_all (ds := [d0, d3]) sm1 d0 (by simp)
              walk_at "w"
              refine ⟨v0, d0, S, rfl, r0, smallD_str sm0, fun H3 c3 => ?_⟩
              walk_at "w"
              refine w_iteB (fun b1 => ?_) (fun b1 => ?_)
              rotate_left
              · walk_at "w"
                refine bad _ c3 (rowOk_false fun x ds h => ?_)
                cases h
                exact b1
              walk_at "w"
              have r3 := r3.same c3
              walk_at "w"
              have nolist : dLst d3 = false → rowOk (.tuple [d0, d3]) = false := fun hl => rowOk_false fun x ds h => by
                cases h
                cases hl
              cases r3 with
              | int i => walk_at "w"; exact bad _ c3 (nolist rfl)
              | non => walk_at "w"; exact bad _ c3 (nolist rfl)
              | bl b => walk_at "w"; exact bad _ c3 (nolist rfl)
              | str b => walk_at "w"; exact bad _ c3 (nolist rfl)
              | tup e a => walk_at "w"; exact bad _ c3 (nolist rfl)
              | dic s e => walk_at "w"; exact bad _ c3 (nolist rfl)
              | lst s4 e4 a4 =>
                walk_at "w"
                refine ⟨c1.same c3, fun j d hj hd => ?_, _, rfl⟩
                by_cases hji : j < i
                · exact ok j d hji hd
                · have : j = i := by omega
                  subst this
                  rw [ed] at hd
                  cases hd
                  cases r0 with
                  | str x => exact b1
                  | _ => cases b1
    · obtain ⟨c1, ok, y1, rfl⟩ := p
      have allok : ds.all rowOk = true := by
        rw [List.all_eq_true]
        intro d hd
        obtain ⟨j, hj⟩ := List.getElem?_of_mem hd
        exact ok j d (by have := (List.getElem?_eq_some_iff.mp hj).1; omega) hj
      walk_at "w"
      have ra1 := ra.same c1
      have e1 := c1.at e
      refine w_lcP walk_list [] (fun _ _ => True) (fun i y _ => ∃ d, ds[i]? = some d ∧ y = .str (rowName d)) trivial (fun _ _ _ _ _ _ _ => trivial) (fun H2 c => sqL (c.at e1)) (fun D i acc z H2 H3 hi nD hD el iv c _ y => ?_) (fun D acc H2 nD c _ el hD ys => ?_)
      · obtain ⟨rfl, ex⟩ := y
        obtain ⟨d1, ed, r1⟩ := ra1.get ex
        obtain ⟨x, ds1, rfl, hx⟩ := rowOk_true (List.all_eq_true.mp allok d1 (List.mem_of_getElem? ed))
        cases r1 with
        | tup e2 ra2 =>
          cases ra2 with
          | cons r0 rs0 =>
            cases rs0 with
            | cons r3 rs3 =>
              cases rs3
              cases r0
              have e3 := c.at e2
              walk_at "w"
              exact lcp_end (fun _ _ _ _ _ _ _ => trivial) (fun _ _ _ _ _ _ _ h => h) nD (by simp) hD el (by omega) iv .refl trivial ⟨_, ed, rfl⟩
      · have e3 : acc = (ds.map rowName).map V.str := by
          apply List.ext_getElem?
          intro i
          rw [List.getElem?_map, List.getElem?_map]
          by_cases hi : i < xs.length
          · have e4 : acc[i]? = some acc[i] := List.getElem?_eq_getElem (by omega)
            obtain ⟨d1, ed, e5⟩ := ys i _ e4
            rw [e4, ed, e5]
            rfl
          · rw [List.getElem?_eq_none (by omega), List.getElem?_eq_none (by omega)]
            rfl
        subst e3
        walk_at "w"
        refine w_slL (sqL hD) fun p' H3 np c3 hp => ?_
        rw [cut1] at hp
        walk_at "w"
        have hD3 := c3.at hD
        have lz : (ds.map rowName).length = ds.length := List.length_map _
        refine w_lcP (walk_zip rfl) [] (fun _ _ => True) (fun i y _ => ∃ x x', (ds.map rowName)[i]? = some x ∧ ((ds.map rowName).drop 1)[i]? = some x' ∧ y = .bl (ltS x x')) trivial (fun _ _ _ _ _ _ _ => trivial) (fun H4 c4 => ⟨sqL (c4.at hD3), sqL (c4.at hp)⟩) (fun D2 i acc z H4 H5 hi nD2 hD2 el2 iv2 c4 _ y => ?_) (fun D2 acc H4 nD2 c4 _ el2 hD2 ys2 => ?_)
        · obtain ⟨T, x, y, rfl, nT, rfl, ex, ey⟩ := y
          have ex : ((ds.map rowName).map V.str)[i]? = some x := ex
          have ey : (((ds.map rowName).map V.str).drop 1)[i]? = some y := ey
          rw [List.getElem?_map] at ex
          rw [← List.map_drop, List.getElem?_map] at ey
          cases ez1 : (ds.map rowName)[i]? with
          | none => rw [ez1] at ex; cases ex
          | some x1 =>
            cases ez2 : ((ds.map rowName).drop 1)[i]? with
            | none => rw [ez2] at ey; cases ey
            | some x2 =>
              rw [ez1] at ex
              rw [ez2] at ey
              cases ex
              cases ey
              have cT : Chg [] H4 (upd H4 T (.tup [.str x1, .str x2])) := .new nT
              walk_at "w"
              have hi2 : i < 1000 := by
                have := (List.getElem?_eq_some_iff.mp ez1).1
                omega
              exact lcp_end (fun _ _ _ _ _ _ _ => trivial) (fun _ _ _ _ _ _ _ h => h) nD2 (by simp) hD2 el2 (by omega) iv2 cT trivial ⟨x1, x2, ez1, ez2, rfl⟩
        · have e6 : acc = (((ds.map rowName).zip ((ds.map rowName).drop 1)).map fun p => ltS p.1 p.2).map V.bl := by
            refine all_bl el2 (by simp) fun i y hy => ?_
            obtain ⟨x, x', g1, g2, rfl⟩ := ys2 i y hy
            refine ⟨_, ?_, rfl⟩
            rw [List.getElem?_map, List.getElem?_zip_eq_some (z := (x, x')) |>.mpr ⟨g1, g2⟩]
            rfl
          subst e6
          walk_at "w"
          refine w_all hD2 ?_
          rw [← rising_zip]
          have e7 : hasForm (.list ds) = rising (ds.map rowName) := by
            show (ds.all rowOk && rising (ds.map rowName)) = _
            rw [allok]
            rfl
          rw [← e7]
          exact q H4 (((c1.same c).same c3).same c4)
end
section
def fwV : Option (Str × Nat) → List V
  | none => [.non, .non]
  | some (n, k) => [.str n, .int (k : Nat)]
def sp_first_wrong : Sp := fun vs H Q _ => ∃ (v : V) (d : PyData) (S : Addr → Prop), vs = [v] ∧ R S H v d ∧ smallD d = true ∧ lenOk d = true ∧ (firstWrong d = none → ∀ H', Chg [] H H' → Q .non H') ∧
  ∀ o, firstWrong d = some o → ∀ p H', Chg [] H H' → H' p = some (.tup (fwV o)) → Q (.ref p) H'
def t_first_wrong (K : PySem.W.Frag) : TS :=
    tSeq (tIfS (tNot (tB (tCall sp_has_form [] E0 (tCons (tVar 0) (tNil))))) (tRet (tTup (tCons (tC .non) (tCons (tC .non) (tNil))))) (tNext))
    (tSeq (tAsg (tLc (iList K (tVar 0)) (gTup K 2 (gCons (gName 2) (gCons (gName 3) (gNil)))) (tYes) (tVar 2) [2, 3]) (gName 1))
    (tSeq (tFor (iList K (tVar 0)) (gTup K 2 (gCons (gName 2) (gCons (gName 3) (gNil)))) (tFor (iEnum K (tCons (tVar 3) (tNil))) (gTup K 2 (gCons (gName 4) (gCons (gName 5) (gNil)))) (tIfS (tNot (tB (tCall (sp_is_step K) [] E0 (tCons (tVar 5) (tCons (tVar 1) (tCons (tOp oSub (tOp oSub (tCB (cLenQ K) (tCons (tVar 3) (tNil))) (tVar 4)) (tC (.int 1))) (tNil))))))) (tRet (tTup (tCons (tVar 2) (tCons (tVar 4) (tNil))))) (tNext))))
    (tRet (tC .non))))
theorem wrongAt_skip {ns : List Str} {ys : List PyData} {j : Nat} {d : PyData} (h : ys[j]? = some d) (hs : isStep ns ((ys.length : Int) - j - 1) d = true) : wrongAt ns j (ys.drop j) = wrongAt ns (j + 1) (ys.drop (j + 1)) := by
  have hj := (List.getElem?_eq_some_iff.mp h)
  obtain ⟨hl, e⟩ := hj
  rw [List.drop_eq_getElem_cons hl, e]
  show (if isStep ns ((ys.drop (j + 1)).length : Int) d = true then _ else _) = _
  rw [if_pos]
  rw [← hs]
  congr 1
  rw [List.length_drop]
  omega
theorem wrongAt_here {ns : List Str} {ys : List PyData} {j : Nat} {d : PyData} (h : ys[j]? = some d) (hs : isStep ns ((ys.length : Int) - j - 1) d = false) : wrongAt ns j (ys.drop j) = some j := by
  obtain ⟨hl, e⟩ := List.getElem?_eq_some_iff.mp h
  rw [List.drop_eq_getElem_cons hl, e]
  show (if isStep ns ((ys.drop (j + 1)).length : Int) d = true then _ else _) = _
  rw [if_neg]
  have e2 : ((ys.drop (j + 1)).length : Int) = (ys.length : Int) - j - 1 := by
    rw [List.length_drop]
    omega
  rw [e2, hs]
  decide
theorem pure_first_wrong {K : PySem.W.Frag} (vs : List V) (H : Hp) (Q : VK) (E : XK) (h : sp_first_wrong vs H Q E) : t_first_wrong K (fin Q) (start ["program", "names", "name", "steps", "at", "step"] vs) H := by
  obtain ⟨v, d, S, rfl, r, sm, lo, qn, qs⟩ := h
  show t_first_wrong K _ [some v, none, none, none, none, none] H
  unfold t_first_wrong
  walk_at "w"
  refine ⟨v, d, S, rfl, r, sm, lo, fun H1 c1 => ?_⟩
  walk_at "w"
  refine w_iteB (fun hf => ?_) (fun hf => ?_)
  rotate_left
  · walk_at "w"
    refine k_tup (by decide) fun p H2 np c2 hp => ?_
    exact qs none (by unfold firstWrong; rw [hf]; rfl) p H2 (c1.same c2) hp
  cases r with
  | int i => cases hf
  | non => cases hf
  | bl b => cases hf
  | str b => cases hf
  | tup e1 a1 => cases hf
  | dic s e => cases hf
  | @lst a xs ds s e ra =>
    have efw : firstWrong (.list ds) = (wrongIn (ds.map rowName) ds).map some := by
      unfold firstWrong
      rw [if_pos hf]
      rfl
    have ln := ra.length
    have lo' : ds.length ≤ 1000 := of_decide_eq_true lo
    have allok : ds.all rowOk = true := (Bool.and_eq_true_iff.mp (show (ds.all rowOk && rising (ds.map rowName)) = true from hf)).1
    have ra1 := ra.same c1
    have e1 := c1.at e
    walk_at "w"
    refine w_lcP walk_list [] (fun _ _ => True) (fun i y _ => ∃ d, ds[i]? = some d ∧ y = .str (rowName d)) trivial (fun _ _ _ _ _ _ _ => trivial) (fun H2 c => sqL (c.at e1)) (fun D i acc z H2 H3 hi nD hD el iv c _ y => ?_) (fun D acc H2 nD c _ el hD ys => ?_)
    · obtain ⟨rfl, ex⟩ := y
      obtain ⟨d1, ed, r1⟩ := ra1.get ex
      obtain ⟨x, ds1, rfl, hx⟩ := rowOk_true (List.all_eq_true.mp allok d1 (List.mem_of_getElem? ed))
      cases r1 with
      | tup e2 ra2 =>
        cases ra2 with
        | cons r0 rs0 =>
          cases rs0 with
          | cons r3 rs3 =>
            cases rs3
            cases r0
            have e3 := c.at e2
            walk_at "w"
            exact lcp_end (fun _ _ _ _ _ _ _ => trivial) (fun _ _ _ _ _ _ _ h => h) nD (by simp) hD el (by omega) iv .refl trivial ⟨_, ed, rfl⟩
    · have e3 : acc = (ds.map rowName).map V.str := by
        apply List.ext_getElem?
        intro i
        rw [List.getElem?_map, List.getElem?_map]
        by_cases hi : i < xs.length
        · have e4 : acc[i]? = some acc[i] := List.getElem?_eq_getElem (by omega)
          obtain ⟨d1, ed, e5⟩ := ys i _ e4
          rw [e4, ed, e5]
          rfl
        · rw [List.getElem?_eq_none (by omega), List.getElem?_eq_none (by omega)]
          rfl
      subst e3
      walk_at "w"
      have e2 := c.at e1
      have ra2 := ra1.same c
      have c12 := c1.same c
      refine for_it (walk_list (K := K) (a := a) (xs := xs)) (fun i σ H3 => Chg [] H2 H3 ∧ wrongIn (ds.map rowName) ds = wrongIn (ds.map rowName) (ds.drop i) ∧ ∃ y2 y3 y4 y5, σ = [some (.ref a), some (.ref D), y2, y3, y4, y5]) ⟨.refl, rfl, none, none, none, none, rfl⟩ (fun i σ H3 _ p => sqL (p.1.at e2)) (fun i x σ H3 H4 hi p y => ?_) (fun σ H3 p => ?_)
      · obtain ⟨c3, wr, y2, y3, y4, y5, rfl⟩ := p
        obtain ⟨rfl, ex⟩ := y
        obtain ⟨d1, ed, r1⟩ := ra2.get ex
        obtain ⟨x1, ds1, rfl, hx⟩ := rowOk_true (List.all_eq_true.mp allok d1 (List.mem_of_getElem? ed))
        have sm1 : smallD (.tuple [.str x1, .list ds1]) = true := smallDs_all (ds := ds) sm _ (List.mem_of_getElem? ed)
        have sm2 : smallDs ds1 = true := smallDs_all (ds := [.str x1, .list ds1]) sm1 (.list ds1) (by simp)
        obtain ⟨hli, edi⟩ := List.getElem?_eq_some_iff.mp ed
        have wr1 : wrongIn (ds.map rowName) ds = (match wrongAt (ds.map rowName) 0 ds1 with
            | some k => some (x1, k)
            | none => wrongIn (ds.map rowName) (ds.drop (i + 1))) := by
          rw [wr, List.drop_eq_getElem_cons hli, edi]
          rfl
        cases r1 with
        | tup e4 ra4 =>
          cases ra4 with
          | cons r0 rs0 =>
            cases rs0 with
            | cons r3 rs3 =>
              cases rs3
              cases r0
              cases r3 with
              | @lst l5 ys5 _ s5 e5 ra5 =>
                have e6 := c3.at e4
                have e7 := c3.at e5
                have ln5 := ra5.length
                walk_at "w"
                refine for_it (walk_enum (K := K) (a := l5) (xs := ys5)) (fun j σ H5 => Chg [] H4 H5 ∧ wrongAt (ds.map rowName) 0 ds1 = wrongAt (ds.map rowName) j (ds1.drop j) ∧ ∃ y4 y5, σ = [some (.ref a), some (.ref D), some (.str x1), some (.ref l5), y4, y5]) ⟨.refl, rfl, _, _, rfl⟩ (fun j σ H5 _ p => sqL (p.1.at e7)) (fun j x σ H5 H6 hj p y => ?_) (fun σ H5 p => ?_)
                · obtain ⟨c5, wa, z4, z5, rfl⟩ := p
                  obtain ⟨T, vx, vy, rfl, nT, rfl, ex, ey⟩ := y
                  cases ex
                  have ey : ys5[j]? = some vy := ey
                  obtain ⟨d6, ed6, r6⟩ := ra5.get ey
                  have cT : Chg [] H5 (upd H5 T (.tup [.int (j : Nat), vy])) := .new nT
                  have c6 : Chg [] H2 (upd H5 T (.tup [.int (j : Nat), vy])) := (c3.same c5).same cT
                  have e8 := cT.at (c5.at e7)
                  walk_at "w"
                  refine ⟨vy, d6, S, D, ds.map rowName, (ys5.length : Int) - (j : Nat) - 1, rfl, r6.same c6, smallDs_all sm2 d6 (List.mem_of_getElem? ed6), sqL (c6.at hD), fun H7 c7 => ?_⟩
                  have eln : ((ys5.length : Int) - (j : Nat) - 1) = ((ds1.length : Int) - (j : Nat) - 1) := by rw [ln5]
                  rw [eln]
                  walk_at "w"
                  refine w_iteB (fun b1 => ?_) (fun b1 => ?_)
                  · walk_at "w"
                    exact ⟨(c5.same cT).same c7, by rw [wa, wrongAt_skip ed6 b1], _, _, rfl⟩
                  · walk_at "w"
                    refine k_tup (by walk_at "sz") fun p H8 np c8 hp => ?_
                    refine qs (some (x1, j)) ?_ p H8 ((c12.same (c6.same c7)).same c8) hp
                    rw [efw, wr1, wa, wrongAt_here ed6 b1]
                    rfl
                · obtain ⟨c5, wa, z4, z5, rfl⟩ := p
                  refine ⟨c3.same c5, ?_, _, _, _, _, rfl⟩
                  rw [wr1, wa, ln5, List.drop_eq_nil_of_le (Nat.le_refl _)]
                  rfl
      · obtain ⟨c3, wr, y2, y3, y4, y5, rfl⟩ := p
        walk_at "w"
        refine qn ?_ H3 (c12.same c3)
        rw [efw, wr, List.drop_eq_nil_of_le (by omega)]
        rfl
def sp_is_program : Sp := fun vs H Q _ => ∃ (v : V) (d : PyData) (S : Addr → Prop), vs = [v] ∧ R S H v d ∧ smallD d = true ∧ lenOk d = true ∧ ∀ H', Chg [] H H' → Q (.bl (firstWrong d).isNone) H'
def t_is_program  : TS :=
    tRet (tOp oIsN (tCall sp_first_wrong [] E0 (tCons (tVar 0) (tNil))) (tC .non))
theorem pure_is_program {K : PySem.W.Frag} (vs : List V) (H : Hp) (Q : VK) (E : XK) (h : sp_is_program vs H Q E) : t_is_program (fin Q) (start ["thing"] vs) H := by
  obtain ⟨v, d, S, rfl, r, sm, lo, q⟩ := h
  show t_is_program _ [some v] H
  unfold t_is_program
  walk_at "w"
  refine ⟨v, d, S, rfl, r, sm, lo, fun e H1 c1 => ?_, fun o e p H1 c1 hp => ?_⟩
  · walk_at "w"
    have := q H1 c1
    rw [e] at this
    exact this
  · walk_at "w"
    have := q H1 c1
    rw [e] at this
    exact this
end
section
inductive Ex where
  | num (i : Int)
  | arg
  | cell (a : Ex)
  | add (a b : Ex)
  | less (a b : Ex)
  | least (a b : Ex)
def Ex.data : Ex → PyData
  | .num i => .int i
  | .arg => .tuple [.str "arg"]
  | .cell a => .tuple [.str "cell", a.data]
  | .add a b => .tuple [.str "add", a.data, b.data]
  | .less a b => .tuple [.str "less", a.data, b.data]
  | .least a b => .tuple [.str "least", a.data, b.data]
def Ex.deep : Ex → Nat
  | .num _ => 1
  | .arg => 1
  | .cell a => a.deep + 1
  | .add a b => max a.deep b.deep + 1
  | .less a b => max a.deep b.deep + 1
  | .least a b => max a.deep b.deep + 1
/-- all numbers within -B .. B -/
def Ex.numsIn (B : Int) : Ex → Prop
  | .num i => -B ≤ i ∧ i ≤ B
  | .arg => True
  | .cell a => a.numsIn B
  | .add a b => a.numsIn B ∧ b.numsIn B
  | .less a b => a.numsIn B ∧ b.numsIn B
  | .least a b => a.numsIn B ∧ b.numsIn B
theorem isExpr_of : ∀ (e : Ex) (n : Nat), e.deep ≤ n → isExpr n e.data = true
  | .num i, 0, h => by simp [Ex.deep] at h
  | .num i, n + 1, _ => rfl
  | .arg, 0, h => by simp [Ex.deep] at h
  | .arg, n + 1, _ => rfl
  | .cell a, 0, h => by simp [Ex.deep] at h
  | .cell a, n + 1, h => by
    have h1 := isExpr_of a n (by simp only [Ex.deep] at h; omega)
    show (match partsOf "cell" with
      | some k => decide ([a.data].length = k) && [a.data].all (isExpr n)
      | none => false) = true
    rw [show partsOf "cell" = some 1 by decide +kernel]
    simp [h1]
  | .add a b, 0, h => by simp [Ex.deep] at h
  | .add a b, n + 1, h => by
    have h1 := isExpr_of a n (by simp only [Ex.deep] at h; omega)
    have h2 := isExpr_of b n (by simp only [Ex.deep] at h; omega)
    show (match partsOf "add" with
      | some k => decide ([a.data, b.data].length = k) && [a.data, b.data].all (isExpr n)
      | none => false) = true
    rw [show partsOf "add" = some 2 by decide +kernel]
    simp [h1, h2]
  | .less a b, 0, h => by simp [Ex.deep] at h
  | .less a b, n + 1, h => by
    have h1 := isExpr_of a n (by simp only [Ex.deep] at h; omega)
    have h2 := isExpr_of b n (by simp only [Ex.deep] at h; omega)
    show (match partsOf "less" with
      | some k => decide ([a.data, b.data].length = k) && [a.data, b.data].all (isExpr n)
      | none => false) = true
    rw [show partsOf "less" = some 2 by decide +kernel]
    simp [h1, h2]
  | .least a b, 0, h => by simp [Ex.deep] at h
  | .least a b, n + 1, h => by
    have h1 := isExpr_of a n (by simp only [Ex.deep] at h; omega)
    have h2 := isExpr_of b n (by simp only [Ex.deep] at h; omega)
    show (match partsOf "least" with
      | some k => decide ([a.data, b.data].length = k) && [a.data, b.data].all (isExpr n)
      | none => false) = true
    rw [show partsOf "least" = some 2 by decide +kernel]
    simp [h1, h2]
inductive Stp where
  | cell (a b : Ex)
  | give (x : Str) (a : Ex)
  | fork (x : Str) (a : Ex)
  | call (x : Str) (a : Ex)
  | wait
  | skip (a : Ex) (k : Int)
def Stp.data : Stp → PyData
  | .cell a b => .tuple [.str "cell", a.data, b.data]
  | .give x a => .tuple [.str "give", .str x, a.data]
  | .fork x a => .tuple [.str "fork", .str x, a.data]
  | .call x a => .tuple [.str "call", .str x, a.data]
  | .wait => .tuple [.str "wait"]
  | .skip a k => .tuple [.str "skip", a.data, .int k]
/-- a right step, by the helpers' names and how many there are behind it -/
def Stp.ok (ns : List Str) (bh : Int) : Stp → Prop
  | .cell a b => a.deep ≤ 5 ∧ b.deep ≤ 5
  | .give x a => nameS x = true ∧ a.deep ≤ 5
  | .fork x a => nameS x = true ∧ x ∈ ns ∧ a.deep ≤ 5
  | .call x a => nameS x = true ∧ x ∈ ns ∧ a.deep ≤ 5
  | .wait => True
  | .skip a k => a.deep ≤ 5 ∧ 1 ≤ k ∧ k ≤ bh
theorem isStep_of {ns : List Str} {bh : Int} {s : Stp} (h : s.ok ns bh) : isStep ns bh s.data = true := by
  cases s with
  | cell a b =>
    have h1 := isExpr_of a 5 h.1
    have h2 := isExpr_of b 5 h.2
    show step3 ns bh "cell" a.data b.data = true
    unfold step3
    rw [if_pos rfl, h1, h2]
    rfl
  | give x a =>
    have h2 := isExpr_of a 5 h.2
    show step3 ns bh "give" (.str x) a.data = true
    unfold step3
    rw [if_neg (by decide +kernel), if_neg (by decide +kernel), if_pos rfl, h2, show isName (.str x) = true from h.1]
    rfl
  | fork x a =>
    have h2 := isExpr_of a 5 h.2.2
    show step3 ns bh "fork" (.str x) a.data = true
    unfold step3
    rw [if_neg (by decide +kernel), if_neg (by decide +kernel), if_neg (by decide +kernel), if_pos (.inl rfl), h2, show isName (.str x) = true from h.1, show inNm ns (.str x) = true from decide_eq_true h.2.1]
    rfl
  | call x a =>
    have h2 := isExpr_of a 5 h.2.2
    show step3 ns bh "call" (.str x) a.data = true
    unfold step3
    rw [if_neg (by decide +kernel), if_neg (by decide +kernel), if_neg (by decide +kernel), if_pos (.inr rfl), h2, show isName (.str x) = true from h.1, show inNm ns (.str x) = true from decide_eq_true h.2.1]
    rfl
  | wait => rfl
  | skip a k =>
    have h1 := isExpr_of a 5 h.1
    show step3 ns bh "skip" a.data (.int k) = true
    unfold step3
    rw [if_neg (by decide +kernel), if_pos rfl, h1]
    show (true && (decide (1 ≤ k) && decide (k ≤ bh))) = true
    rw [decide_eq_true h.2.1, decide_eq_true h.2.2]
    rfl
/-- helpers with their steps -/
abbrev Prg := List (Str × List Stp)
/-- each step right by its place -/
def stepsOk (ns : List Str) : List Stp → Prop
  | [] => True
  | s :: r => s.ok ns (r.length : Int) ∧ stepsOk ns r
structure PrgOk (p : Prg) : Prop where
  names : ∀ r ∈ p, nameS r.1 = true
  up : rising (p.map (·.1)) = true
  steps : ∀ r ∈ p, stepsOk (p.map (·.1)) r.2
  few : p.length ≤ 100
  short : ∀ r ∈ p, r.2.length ≤ 100
theorem Ex.small : ∀ e : Ex, smallD e.data = true
  | .num _ => rfl
  | .arg => by decide +kernel
  | .cell a => by
    show (smallD (.str "cell") && (smallD a.data && true)) = true
    rw [Ex.small a]; decide +kernel
  | .add a b => by
    show (smallD (.str "add") && (smallD a.data && (smallD b.data && true))) = true
    rw [Ex.small a, Ex.small b]; decide +kernel
  | .less a b => by
    show (smallD (.str "less") && (smallD a.data && (smallD b.data && true))) = true
    rw [Ex.small a, Ex.small b]; decide +kernel
  | .least a b => by
    show (smallD (.str "least") && (smallD a.data && (smallD b.data && true))) = true
    rw [Ex.small a, Ex.small b]; decide +kernel
theorem nameS_iff {x : Str} : nameS x = true ↔ 1 ≤ x.length ∧ x.length ≤ 8 ∧ ∀ c ∈ x.cps.toList, isLow c = true := by
  unfold nameS
  rw [Bool.and_eq_true, Bool.and_eq_true, decide_eq_true_eq, decide_eq_true_eq, List.all_eq_true]
  exact ⟨fun h => ⟨h.1.1, h.1.2, h.2⟩, fun h => ⟨⟨h.1, h.2.1⟩, h.2.2⟩⟩
theorem small_name {x : Str} (h : nameS x = true) : smallD (.str x) = true := decide_eq_true (by have := (nameS_iff.mp h).2.1; omega)
theorem Stp.small {ns : List Str} {bh : Int} {s : Stp} (h : s.ok ns bh) : smallD s.data = true := by
  cases s with
  | cell a b =>
    show (smallD (.str "cell") && (smallD a.data && (smallD b.data && true))) = true
    rw [Ex.small a, Ex.small b]; decide +kernel
  | give x a =>
    show (smallD (.str "give") && (smallD (.str x) && (smallD a.data && true))) = true
    rw [Ex.small a, small_name h.1]; decide +kernel
  | fork x a =>
    show (smallD (.str "fork") && (smallD (.str x) && (smallD a.data && true))) = true
    rw [Ex.small a, small_name h.1]; decide +kernel
  | call x a =>
    show (smallD (.str "call") && (smallD (.str x) && (smallD a.data && true))) = true
    rw [Ex.small a, small_name h.1]; decide +kernel
  | wait => decide +kernel
  | skip a k =>
    show (smallD (.str "skip") && (smallD a.data && (smallD (.int k) && true))) = true
    rw [Ex.small a]
    show (smallD (.str "skip") && (true && (true && true))) = true
    decide +kernel
theorem smallDs_of : ∀ {ds : List PyData}, (∀ d ∈ ds, smallD d = true) → smallDs ds = true
  | [], _ => rfl
  | d :: ds, h => by
    show (smallD d && smallDs ds) = true
    rw [h d (by simp), smallDs_of fun e he => h e (List.mem_cons_of_mem _ he)]
    rfl
theorem stepsOk_mem {ns : List Str} : ∀ {ss : List Stp}, stepsOk ns ss → ∀ s ∈ ss, ∃ bh, s.ok ns bh
  | [], _, s, h => by cases h
  | t :: r, h, s, hs => by
    rcases List.mem_cons.mp hs with rfl | hs
    · exact ⟨_, h.1⟩
    · exact stepsOk_mem h.2 s hs
end
section
theorem cpow {i j : Int} (m : Nat) (h : i.natAbs < 2 ^ m) (h0 : 0 ≤ j) (h1 : (m : Int) * j ≤ 2 ^ 27) : CPowW i j := by
  refine ⟨h0, ?_⟩
  have b := PySem.intBits_le_iff.mpr h
  have : (Builtin.Int.intBits i : Int) * j ≤ (m : Int) * j := Int.mul_le_mul_of_nonneg_right (by omega) h0
  omega
theorem cmulL {i j : Int} (h : -(2 ^ 64) < i) (h' : i < 2 ^ 64) : CMul i j := .inl ⟨h, h'⟩
theorem cdivS {i j : Int} (h : 0 < j) (h' : j < 10 ^ 30) : CDivW i j := wide_div (b := 100) h (by omega) (by decide) (by decide)
end
end Fg
namespace Fg
open PySem PySem.Spec PyProof.Rows L2
local macro_rules | `(tactic| walk_at "hp") => `(tactic| first
  | assumption
  | exact upd_same
  | (refine Chg.at (by assumption) ?_; walk_at "hp")
  | (refine Chg.at1 (by assumption) ?_ (by walk_at "ne"); walk_at "hp"))
local macro_rules | `(tactic| walk_at "ne") => `(tactic| first | assumption | (apply Ne.symm; assumption))
local macro_rules | `(tactic| walk_at "sq") => `(tactic| first | assumption | exact sqL (by walk_at "hp") | (refine Chg.seq (by assumption) ?_; walk_at "sq"))
local macro_rules | `(tactic| walk_at "sz") => `(tactic| first | assumption | exact Nat.zero_le _ | (simp only [List.length_cons, List.length_nil]; decide) | exact Nat.le_trans (by first | omega | (simp; done) | (simp; omega)) (show 100000 ≤ sizeLine by decide) | exact Nat.lt_of_lt_of_le (by first | omega | (simp; done) | (simp; omega)) (show 100000 ≤ sizeLine by decide))
local macro_rules | `(tactic| walk_at "ix") => `(tactic| first | exact at0 | exact at1 | exact at2 | exact at3 | assumption | exact rfl | walk_at "ix2")
local macro_rules | `(tactic| walk_at "ix2") => `(tactic| fail)
local macro_rules | `(tactic| walk_at "num") => `(tactic| first | assumption | omega | decide | walk_at "num2")
local macro_rules | `(tactic| walk_at "num2") => `(tactic| fail)
local macro_rules | `(tactic| walk_at "im") => `(tactic| first | assumption | exact R.non (S := fun _ => False) | exact R.bl (S := fun _ => False) _ | exact R.int (S := fun _ => False) _ | exact R.str (S := fun _ => False) _ | (refine R.im (by assumption) ?_; walk_at "im"))
local macro_rules | `(tactic| walk_at "r") => `(tactic| first | assumption | exact R.non (S := fun _ => False) | exact R.bl (S := fun _ => False) _ | exact R.int (S := fun _ => False) _ | exact R.str (S := fun _ => False) _ | (refine R.same (by assumption) ?_; walk_at "r") | exact R.any (by walk_at "im"))
local macro_rules | `(tactic| walk_at "chg") => `(tactic| first
  | exact Chg.refl
  | assumption
  | (refine Chg.same ?_ (by assumption); walk_at "chg")
  | (refine Chg.both ?_ (by assumption); walk_at "chg")
  | (refine Chg.pre (by assumption) ?_; walk_at "chg"))
local macro_rules | `(tactic| walk_at "w1") => `(tactic| first
  | with_reducible apply w_seq
  | with_reducible apply w_asg
  | ((with_reducible apply w_var); (focus (exact rfl)))
  | with_reducible apply w_c
  | with_reducible apply w_op
  | with_reducible apply w_cons
  | with_reducible apply w_nil
  | with_reducible apply w_gName
  | with_reducible apply w_if
  | with_reducible apply w_test
  | with_reducible apply w_B
  | with_reducible apply w_isbl
  | with_reducible apply w_retN
  | with_reducible apply w_next
  | with_reducible apply w_drop
  | with_reducible apply w_cb
  | with_reducible apply w_call
  | with_reducible apply w_callN
  | with_reducible apply w_bm
  | with_reducible apply w_bm0
  | ((with_reducible apply w_tyL); (focus (walk_at "hp"; done)))
  | with_reducible apply w_dput
  | with_reducible apply w_m1
  | with_reducible apply w_isstr
  | with_reducible apply w_and
  | with_reducible apply w_or
  | with_reducible apply w_not
  | with_reducible apply w_andV
  | with_reducible apply w_orV
  | with_reducible apply w_notV
  | with_reducible apply w_ifE
  | with_reducible apply w_chain
  | with_reducible apply w_un
  | with_reducible apply w_neg
  | with_reducible apply w_add
  | with_reducible apply w_sub
  | ((with_reducible apply w_mod); (focus (walk_at "num"; done)))
  | ((with_reducible apply w_mul); (focus (walk_at "num"; done)))
  | ((with_reducible apply w_fdiv); (focus (walk_at "num"; done)))
  | ((with_reducible apply w_pow); (focus (walk_at "num"; done)))
  | with_reducible apply w_lt
  | with_reducible apply w_le
  | with_reducible apply w_gt
  | with_reducible apply w_ge
  | with_reducible apply w_ltS
  | with_reducible apply w_geS
  | with_reducible apply w_inC
  | with_reducible apply w_notInC
  | with_reducible apply w_isN
  | with_reducible apply w_notN
  | with_reducible apply w_isB
  | with_reducible apply w_notB
  | ((with_reducible apply w_addS); (focus (walk_at "sz"; done)))
  | ((with_reducible apply w_ixL); (focus (walk_at "sq"; done)); (focus (walk_at "ix"; done)))
  | ((with_reducible apply w_ixT); (focus (walk_at "hp"; done)); (focus (walk_at "ix"; done)))
  | ((with_reducible apply w_ixS); (focus (walk_at "sz"; done)); (focus (walk_at "ix"; done)))
  | with_reducible apply w_gSub
  | ((with_reducible apply w_gTup); (focus (walk_at "hp"; done)); (focus (exact rfl)))
  | with_reducible apply w_gCons
  | with_reducible apply w_gNil
  | ((with_reducible apply w_aug); (focus (exact rfl)))
  | with_reducible apply w_ipI
  | ((with_reducible apply w_eq); (focus (exact rfl)))
  | ((with_reducible apply w_ne); (focus (exact rfl)))
  | with_reducible apply w_max
  | with_reducible apply w_min
  | with_reducible apply w_abs
  | with_reducible apply w_intB
  | with_reducible apply w_intI
  | with_reducible apply w_tup1
  | with_reducible apply w_lst1
  | with_reducible apply w_sl
  | with_reducible apply w_part
  | with_reducible apply w_noPart
  | with_reducible apply w_isint
  | ((with_reducible apply w_slS); (focus (walk_at "sz"; done)))
  | with_reducible apply w_iteT
  | with_reducible apply w_iteF
  | with_reducible apply w_iteN
  | ((with_reducible apply w_iteYes); (focus (exact rfl)))
  | ((with_reducible apply w_iteNo); (focus (exact rfl)))
  | ((with_reducible apply w_lenL); (focus (walk_at "sq"; done)))
  | ((with_reducible apply w_lenT); (focus (walk_at "hp"; done)))
  | ((with_reducible apply w_lenS); (focus (walk_at "sz"; done)))
  | with_reducible apply w_lc
  | with_reducible apply w_for
  | with_reducible apply w_yes
  | ((with_reducible apply w_wipe); (focus (exact rfl)))
  | with_reducible apply w_iList
  | with_reducible apply w_iTup
  | with_reducible apply w_iStr
  | with_reducible apply w_iRng1
  | with_reducible apply w_iRng2
  | with_reducible apply w_iZip
  | with_reducible apply w_iEnum
  | ((with_reducible apply d_iList); (focus (walk_at "sq"; done)))
  | ((with_reducible apply d_iTup); (focus (walk_at "hp"; done)))
  | with_reducible apply d_iStr
  | ((with_reducible apply d_iRng1); (focus (walk_at "num"; done)); (focus (walk_at "num"; done)))
  | ((with_reducible apply d_iRng2); (focus (walk_at "num"; done)); (focus (walk_at "num"; done)); (focus (walk_at "num"; done)); (focus (walk_at "num"; done)))
  | ((with_reducible apply d_iZip); (focus (walk_at "sq"; done)); (focus (walk_at "sq"; done)))
  | ((with_reducible apply d_iEnum); (focus (walk_at "sq"; done)))
  | walk_at "w2")
local macro_rules | `(tactic| walk_at "w2") => `(tactic| fail)
local macro_rules | `(tactic| walk_at "wn") => `(tactic| repeat walk_at "w1")
local macro_rules | `(tactic| walk_at "w") => `(tactic| repeat (first | walk_at "w1" | with_reducible apply w_ret))
section
/-- the law's bag, n draws may follow -/
def Bag (H : Hp) (b : Addr) (n : Nat) : Prop := ∃ x y z : Int, H b = some (.lst [.int x, .int y, .int z]) ∧ 0 ≤ x ∧ 0 ≤ y ∧ y < 2 ^ 130 ∧ 0 ≤ z ∧ z + n ≤ 10 ^ 12
theorem Bag.keep {M : List Addr} {H H' : Hp} {b : Addr} {n : Nat} (h : Bag H b n) (c : Chg M H H') (hb : b ∉ M) : Bag H' b n := by
  obtain ⟨x, y, z, e, r⟩ := h
  exact ⟨x, y, z, c.keep _ _ e hb, r⟩
theorem Bag.same {H H' : Hp} {b : Addr} {n : Nat} (h : Bag H b n) (c : Chg [] H H') : Bag H' b n := h.keep c (by simp)
theorem Bag.one {H H' : Hp} {b p : Addr} {n : Nat} (h : Bag H b n) (c : Chg [p] H H') (e : b ≠ p) : Bag H' b n := h.keep c (by simpa using e)
theorem Bag.ne {H : Hp} {b p : Addr} {n : Nat} (h : Bag H b n) (e : H p = none) : b ≠ p := by
  obtain ⟨x, y, z, h, _⟩ := h
  exact ne_of_none h e
theorem Bag.some {H : Hp} {b : Addr} {n : Nat} (h : Bag H b n) : H b ≠ none := by
  obtain ⟨x, y, z, h, _⟩ := h
  rw [h]
  exact fun z => nomatch z
theorem Bag.le {H : Hp} {b : Addr} {n m : Nat} (h : Bag H b n) (e : m ≤ n) : Bag H b m := by
  obtain ⟨x, y, z, h, x0, y0, y1, z0, z1⟩ := h
  exact ⟨x, y, z, h, x0, y0, y1, z0, by omega⟩
def sp__law_draw : Sp := fun vs H Q _ => ∃ (b : Addr) (m : Int) (n : Nat), vs = [.ref b, .int m] ∧ Bag H b n ∧ 1 ≤ n ∧ 0 < m ∧ m < 10 ^ 30 ∧ ∀ (v : Int) (H' : Hp), Chg [b] H H' → Bag H' b (n - 1) → 0 ≤ v → v < m → Q (.int v) H'
theorem u_draw {H : Hp} {Q : VK} {E : XK} {b : Addr} {m : Int} {n : Nat} (hb : Bag H b n) (hn : 1 ≤ n) (h0 : 0 < m) (h1 : m < 10 ^ 30) (q : ∀ (v : Int) (H' : Hp), Chg [b] H H' → Bag H' b (n - 1) → 0 ≤ v → v < m → Q (.int v) H') : sp__law_draw ([.ref b, .int m] ++ []) H Q E := ⟨b, m, n, rfl, hb, hn, h0, h1, q⟩
def t__law_draw (K : PySem.W.Frag) : TS :=
    tSeq (tIfS (tTest (tOp oGt (tOp (rIxL K) (tVar 0) (tC (.int 0))) (tC (.int 1)))) (tSeq (tAsg (tOp oMod (tOp (rIxL K) (tVar 0) (tC (.int 0))) (tVar 1)) (gName 2))
    (tSeq (tAsg (tOp oFdiv (tOp (rIxL K) (tVar 0) (tC (.int 0))) (tVar 1)) (gSub (tVar 0) (tC (.int 0)) rSetL))
    (tRet (tVar 2)))) (tNext))
    (tSeq (tAsg (tOp oAdd (tOp (rIxL K) (tVar 0) (tC (.int 2))) (tC (.int 1))) (gSub (tVar 0) (tC (.int 2)) rSetL))
    (tSeq (tAsg (tOp oMod (tOp oPow (tOp oAdd (tOp (rIxL K) (tVar 0) (tC (.int 1))) (tOp oMul (tC (.int 7368787)) (tOp (rIxL K) (tVar 0) (tC (.int 2))))) (tC (.int 3))) (tC (.int 170141183460469231731687303715884105727))) (gName 3))
    (tSeq (tAsg (tOp oMod (tOp oPow (tOp oAdd (tVar 3) (tOp oMul (tC (.int 15485863)) (tOp (rIxL K) (tVar 0) (tC (.int 2))))) (tC (.int 3))) (tC (.int 162259276829213363391578010288127))) (gName 3))
    (tRet (tOp oMod (tOp oFdiv (tVar 3) (tC (.int 1024))) (tVar 1))))))
theorem pure__law_draw {K : PySem.W.Frag} (vs : List V) (H : Hp) (Q : VK) (E : XK) (h : sp__law_draw vs H Q E) : t__law_draw K (fin Q) (start ["bag", "many", "found", "mixed"] vs) H := by
  obtain ⟨b, m, n, rfl, ⟨x, y, z, hb, x0, y0, y1, z0, z1⟩, n1, m0, m1, q⟩ := h
  show t__law_draw K _ [some (.ref b), some (.int m), none, none] H
  unfold t__law_draw
  walk_at "w"
  refine w_iteD (fun h => ?_) (fun h => ?_)
  · walk_at "w"
    refine w_fdiv (cdivS m0 m1) ?_
    walk_at "w"
    refine w_setL hb rfl fun H1 c1 h1 => ?_
    walk_at "w"
    refine q _ H1 c1 ⟨_, _, _, h1, Int.ediv_nonneg x0 (by omega), y0, y1, z0, by omega⟩ (Int.emod_nonneg _ (by omega)) (Int.emod_lt_of_pos _ m0)
  · walk_at "w"
    refine w_setL hb rfl fun H1 c1 h1 => ?_
    have h1' : H1 b = some (HO.lst [V.int x, V.int y, V.int (z + 1)]) := h1
    clear h1
    walk_at "w"
    refine w_mul (cmulL (by decide) (by decide)) ?_
    walk_at "w"
    refine w_pow (cpow 200 (by omega) (by decide) (by decide)) ?_
    walk_at "w"
    refine w_mul (cmulL (by decide) (by decide)) ?_
    walk_at "w"
    have e0 := Int.emod_nonneg ((y + 7368787 * (z + 1)) ^ Int.toNat 3) (b := 170141183460469231731687303715884105727) (by decide)
    have e1 := Int.emod_lt_of_pos ((y + 7368787 * (z + 1)) ^ Int.toNat 3) (b := 170141183460469231731687303715884105727) (by decide)
    refine w_pow (cpow 200 (by omega) (by decide) (by decide)) ?_
    walk_at "w"
    refine w_fdiv (cdivS (by decide) (by decide)) ?_
    walk_at "w"
    exact q _ H1 c1 ⟨_, _, _, h1', x0, y0, y1, by omega, by omega⟩ (Int.emod_nonneg _ (by omega)) (Int.emod_lt_of_pos _ m0)
def sp__law_cell_at (K : PySem.W.Frag) : Sp := fun vs H Q _ => ∃ (a : Addr) (ns : List Int) (k : Int), vs = [.ref a, .int k] ∧ SqL K H a (ns.map V.int) ∧ 0 ≤ k ∧ ∀ v : Int, Q (.int v) H
def t__law_cell_at (K : PySem.W.Frag) : TS :=
    tSeq (tIfS (tTest (tOp oLt (tVar 1) (tCB (cLenQ K) (tCons (tVar 0) (tNil))))) (tRet (tOp (rIxL K) (tVar 0) (tVar 1))) (tNext))
    (tRet (tC (.int 0)))
theorem pure__law_cell_at {K : PySem.W.Frag} (vs : List V) (H : Hp) (Q : VK) (E : XK) (h : sp__law_cell_at K vs H Q E) : t__law_cell_at K (fin Q) (start ["script", "k"] vs) H := by
  obtain ⟨a, ns, k, rfl, hs, k0, q⟩ := h
  show t__law_cell_at K _ [some (.ref a), some (.int k)] H
  unfold t__law_cell_at
  walk_at "w"
  refine w_iteD (fun h => ?_) (fun h => ?_)
  · rw [List.length_map] at h
    obtain ⟨v, ev, hv⟩ := atD (xs := ns.map V.int) k0 (by rw [List.length_map]; exact h)
    obtain ⟨n, _, rfl⟩ := List.mem_map.mp hv
    walk_at "w"
    exact q n
  · walk_at "w"
    exact q 0
def sp__law_bag : Sp := fun vs H Q _ => ∃ c p : Int, vs = [.int c, .int p] ∧ 0 ≤ p ∧ p ≤ 1000 ∧ ∀ b H', H b = none → Chg [] H H' → Bag H' b (10 ^ 12) → Q (.ref b) H'
def t__law_bag  : TS :=
    tRet (tLst (tCons (tCB cMax (tCons (tC (.int 0)) (tCons (tOp oSub (tVar 0) (tOp oPow (tC (.int 10)) (tC (.int 18)))) (tNil)))) (tCons (tOp oAdd (tOp oMod (tVar 0) (tC (.int 170141183460469231731687303715884105727))) (tOp oMul (tC (.int 982451653)) (tVar 1))) (tCons (tC (.int 0)) (tNil)))))
theorem pure__law_bag {K : PySem.W.Frag} (vs : List V) (H : Hp) (Q : VK) (E : XK) (h : sp__law_bag vs H Q E) : t__law_bag (fin Q) (start ["cell", "place"] vs) H := by
  obtain ⟨c, p, rfl, p0, p1, q⟩ := h
  show t__law_bag _ [some (.int c), some (.int p)] H
  unfold t__law_bag
  walk_at "w"
  refine w_pow (cpow 4 (by decide) (by decide) (by decide)) ?_
  walk_at "w"
  refine w_mul (cmulL (by decide) (by decide)) ?_
  walk_at "w"
  refine k_lst (by walk_at "sz") fun b H1 nb c1 hb => ?_
  have e0 := Int.emod_nonneg c (b := 170141183460469231731687303715884105727) (by decide)
  have e1 := Int.emod_lt_of_pos c (b := 170141183460469231731687303715884105727) (by decide)
  refine q b H1 nb c1 ⟨_, _, _, hb, ?_, by omega, by omega, by omega, by omega⟩
  split <;> omega
def sp__law_number : Sp := fun vs H Q _ => ∃ (b : Addr) (n : Nat), vs = [.ref b] ∧ Bag H b n ∧ 3 ≤ n ∧ ∀ (v : Int) (H' : Hp), Chg [b] H H' → Bag H' b (n - 3) → -(10 ^ 20) ≤ v → v ≤ 10 ^ 20 → Q (.int v) H'
def t__law_number (K : PySem.W.Frag) : TS :=
    tSeq (tAsg (tCall sp__law_draw [] E0 (tCons (tVar 0) (tCons (tC (.int 4)) (tNil)))) (gName 1))
    (tSeq (tAsg (tCall sp__law_draw [] E0 (tCons (tVar 0) (tCons (tOp (rIxL K) (tLst (tCons (tC (.int 4)) (tCons (tC (.int 4)) (tCons (tC (.int 101)) (tCons (tOp oPow (tC (.int 10)) (tC (.int 20))) (tNil)))))) (tVar 1)) (tNil)))) (gName 2))
    (tSeq (tIfS (tTest (tOp rEq (tCall sp__law_draw [] E0 (tCons (tVar 0) (tCons (tC (.int 3)) (tNil)))) (tC (.int 0)))) (tRet (tOp oSub (tC (.int 0)) (tVar 2))) (tNext))
    (tRet (tVar 2))))
theorem pure__law_number {K : PySem.W.Frag} (vs : List V) (H : Hp) (Q : VK) (E : XK) (h : sp__law_number vs H Q E) : t__law_number K (fin Q) (start ["bag", "pick", "number"] vs) H := by
  obtain ⟨b, n, rfl, bag, hn, q⟩ := h
  show t__law_number K _ [some (.ref b), none, none] H
  unfold t__law_number
  walk_at "w"
  refine u_draw bag (by omega) (by decide) (by decide) fun v H1 c1 bag1 v0 v1 => ?_
  walk_at "w"
  refine w_pow (cpow 4 (by decide) (by decide) (by decide)) ?_
  walk_at "w"
  refine k_lst (by walk_at "sz") fun p H2 np c2 hp => ?_
  obtain ⟨x, ex, hx⟩ := atD (xs := [V.int 4, V.int 4, V.int 101, V.int (10 ^ Int.toNat 20)]) v0 v1
  have hx' : ∃ m : Int, x = .int m ∧ 0 < m ∧ m ≤ 10 ^ 20 := by
    simp only [List.mem_cons, List.not_mem_nil, or_false] at hx
    rcases hx with rfl | rfl | rfl | rfl
    · exact ⟨_, rfl, by decide, by decide⟩
    · exact ⟨_, rfl, by decide, by decide⟩
    · exact ⟨_, rfl, by decide, by decide⟩
    · exact ⟨_, rfl, by decide, by decide⟩
  obtain ⟨m, rfl, m0, m1⟩ := hx'
  walk_at "w"
  refine u_draw (bag1.same c2) (by omega) m0 (by omega) fun w H3 c3 bag3 w0 w1 => ?_
  walk_at "w"
  refine u_draw bag3 (by omega) (by decide) (by decide) fun u H4 c4 bag4 u0 u1 => ?_
  walk_at "w"
  have cc : Chg [b] H H4 := ((c1.same c2).both c3).both c4
  refine w_iteD (fun h => ?_) (fun h => ?_)
  · walk_at "w"
    exact q _ H4 cc (bag4.le (by omega)) (by omega) (by omega)
  · walk_at "w"
    exact q _ H4 cc (bag4.le (by omega)) (by omega) (by omega)
end
section
def low (x : Str) : Prop := ∀ c ∈ x.cps.toList, isLow c = true
theorem low_nil : low "" := by intro c h; exact absurd h (by simp [show (Str.ofString "").cps.toList = [] from by decide +kernel])
theorem low_append {x y : Str} (hx : low x) (hy : low y) : low (x ++ y) := by
  intro c h
  have e : (x ++ y).cps.toList = x.cps.toList ++ y.cps.toList := Array.toList_append
  rw [e] at h
  rcases List.mem_append.mp h with h | h
  · exact hx c h
  · exact hy c h
theorem len_append (x y : Str) : (x ++ y).length = x.length + y.length := Array.size_append
theorem len_one (c : Nat) : (Str.mk #[c]).length = 1 := rfl
theorem low_one {c : Nat} (h : isLow c = true) : low ⟨#[c]⟩ := by
  intro d hd
  have : d = c := by simpa using hd
  rw [this]
  exact h
theorem low_cut {x : Str} (lo hi : Option Int) (hx : low x) : low (cutS x lo hi) := by
  intro c h
  unfold cutS at h
  have h : c ∈ (x.cps.toList.drop (HT.sIx x.length 0 lo)).take (HT.sIx x.length x.length hi - HT.sIx x.length 0 lo) := by simpa using h
  exact hx c (List.mem_of_mem_drop (List.mem_of_mem_take h))
theorem len_cut (x : Str) (lo hi : Option Int) : (cutS x lo hi).length = min (HT.sIx x.length x.length hi - HT.sIx x.length 0 lo) (x.length - HT.sIx x.length 0 lo) := by
  unfold cutS
  show ((x.cps.toList.drop _).take _).toArray.size = _
  rw [List.size_toArray, List.length_take, List.length_drop]
  rfl
theorem sIx_i {n d : Nat} {i : Int} (h : 0 ≤ i) : HT.sIx n d (some i) = min i.toNat n := by
  have e : ((i.toNat : Nat) : Int) = i := by omega
  rw [← HT.sIx_nat n d i.toNat, e]
theorem nameS_of {x : Str} (h1 : 1 ≤ x.length) (h2 : x.length ≤ 8) (h3 : low x) : nameS x = true := nameS_iff.mpr ⟨h1, h2, h3⟩
theorem nameS_low {x : Str} (h : nameS x = true) : low x := (nameS_iff.mp h).2.2
theorem letters_len : letters.cps.toList.length = 26 := by decide +kernel
theorem letter_at {v : Int} (h0 : 0 ≤ v) (h1 : v < 26) : ∃ c, atI (Str.ofString "abcdefghijklmnopqrstuvwxyz").cps.toList v = some c ∧ isLow c = true := by
  obtain ⟨c, e, h⟩ := atD (xs := letters.cps.toList) h0 (by rw [letters_len]; exact h1)
  exact ⟨c, e, decide_eq_true h⟩
theorem sum_ones {ys : List Str} (h : ∀ y ∈ ys, y.length = 1) : (ys.map (·.length)).sum = ys.length := by
  induction ys with
  | nil => rfl
  | cons y r ih =>
    rw [List.map_cons, List.sum_cons, ih fun z hz => h z (List.mem_cons_of_mem _ hz), h y (by simp), List.length_cons]
    omega
theorem join_ones {ys : List Str} (h : ∀ y ∈ ys, y.length = 1 ∧ low y) : (Txt.join "" ys).length = ys.length ∧ low (Txt.join "" ys) := by
  rw [TL.join_eq]
  have e0 : TL.tl (Str.ofString "") = [] := by decide +kernel
  have key : ∀ zs : List Str, (∀ y ∈ zs, y.length = 1 ∧ low y) → (TL.joinL [] (zs.map TL.tl)).length = zs.length ∧ ∀ c ∈ TL.joinL [] (zs.map TL.tl), isLow c = true := by
    intro zs
    induction zs with
    | nil => intro _; exact ⟨rfl, fun c h => by cases h⟩
    | cons y r ih =>
      intro h
      have hy := h y (by simp)
      have hr := ih fun z hz => h z (List.mem_cons_of_mem _ hz)
      have hl : (TL.tl y).length = 1 := hy.1
      cases r with
      | nil => exact ⟨hl, hy.2⟩
      | cons z r =>
        have e : TL.joinL [] ((y :: z :: r).map TL.tl) = TL.tl y ++ TL.joinL [] ((z :: r).map TL.tl) := rfl
        rw [e]
        refine ⟨by rw [List.length_append, hr.1, hl, List.length_cons (a := y)]; omega, fun c hc => ?_⟩
        rcases List.mem_append.mp hc with hc | hc
        · exact hy.2 c hc
        · exact hr.2 c hc
  have k := key ys h
  have e : TL.tl (Str.join "" ys) = TL.joinL [] (ys.map TL.tl) := by rw [TL.tl_join, e0]
  refine ⟨?_, fun c hc => k.2 c (by rw [← e]; exact hc)⟩
  rw [← k.1, ← e]
  rfl
def okNm : V → Bool
  | .str x => nameS x
  | _ => false
theorem okNm_of {v : V} (h : okNm v = true) : ∃ x, v = .str x ∧ nameS x = true := by
  cases v with
  | str x => exact ⟨x, rfl, h⟩
  | _ => cases h
theorem cutS_le (x : Str) (lo hi : Option Int) : (cutS x lo hi).length ≤ x.length := by
  rw [len_cut]
  omega
end
section
def sp__law_name : Sp := fun vs H Q _ => ∃ (b : Addr) (last : Str) (n : Nat), vs = [.ref b, .str last] ∧ Bag H b n ∧ 20 ≤ n ∧ last.length ≤ 8 ∧ low last ∧ ∀ (x : Str) (H' : Hp), Chg [b] H H' → Bag H' b (n - 20) → nameS x = true → Q (.str x) H'
def t__law_name (K : PySem.W.Frag) : TS :=
    tSeq (tAsg (tC (.str "abcdefghijklmnopqrstuvwxyz")) (gName 2))
    (tSeq (tAsg (tCall sp__law_draw [] E0 (tCons (tVar 0) (tCons (tC (.int 7)) (tNil)))) (gName 3))
    (tSeq (tAsg (tOp rIxS (tVar 2) (tCall sp__law_draw [] E0 (tCons (tVar 0) (tCons (tC (.int 26)) (tNil))))) (gName 4))
    (tSeq (tIfS (tTest (tOp rEq (tVar 3) (tC (.int 6)))) (tSeq (tAsg (tLst (tCons (tC (.str "arg")) (tCons (tC (.str "cell")) (tCons (tC (.str "add")) (tCons (tC (.str "less")) (tCons (tC (.str "least")) (tCons (tC (.str "wait")) (tCons (tC (.str "give")) (tCons (tC (.str "fork")) (tCons (tC (.str "call")) (tCons (tC (.str "skip")) (tNil)))))))))))) (gName 5))
    (tRet (tOp (rIxL K) (tVar 5) (tCall sp__law_draw [] E0 (tCons (tVar 0) (tCons (tC (.int 10)) (tNil))))))) (tNext))
    (tSeq (tIfS (tAnd (tTest (tOp rEq (tVar 3) (tC (.int 0)))) (tTest (tChain oLt oLt (tC (.int 0)) (tCB cLenS (tCons (tVar 1) (tNil))) (tC (.int 8))))) (tRet (tOp oAddS (tVar 1) (tVar 4))) (tNext))
    (tSeq (tIfS (tAnd (tTest (tOp rEq (tVar 3) (tC (.int 1)))) (tTest (tOp oGt (tCB cLenS (tCons (tVar 1) (tNil))) (tC (.int 1))))) (tRet (tSl rSlS (tVar 1) (tPart (tC (.int 1))) (tNoPart))) (tNext))
    (tSeq (tIfS (tAnd (tTest (tOp rEq (tVar 3) (tC (.int 2)))) (tTest (tOp rNe (tVar 1) (tC (.str ""))))) (tSeq (tAsg (tCall sp__law_draw [] E0 (tCons (tVar 0) (tCons (tCB cLenS (tCons (tVar 1) (tNil))) (tNil)))) (gName 6))
    (tRet (tOp oAddS (tOp oAddS (tSl rSlS (tVar 1) (tNoPart) (tPart (tVar 6))) (tVar 4)) (tSl rSlS (tVar 1) (tPart (tOp oAdd (tVar 6) (tC (.int 1)))) (tNoPart))))) (tNext))
    (tRet (tOp oAddS (tVar 4) (tM1 (mJoin K) (tC (.str "")) (tLc (iRng1 (tCons (tCall sp__law_draw [] E0 (tCons (tVar 0) (tCons (tC (.int 8)) (tNil)))) (tNil))) (gName 7) (tYes) (tOp rIxS (tVar 2) (tCall sp__law_draw [] E0 (tCons (tVar 0) (tCons (tC (.int 26)) (tNil))))) [7]))))))))))
theorem pure__law_name {K : PySem.W.Frag} (vs : List V) (H : Hp) (Q : VK) (E : XK) (h : sp__law_name vs H Q E) : t__law_name K (fin Q) (start ["bag", "last", "letters", "pick", "letter", "words", "at", "k"] vs) H := by
  obtain ⟨b, last, n, rfl, bag, hn, l8, ll, q⟩ := h
  show t__law_name K _ [some (.ref b), some (.str last), none, none, none, none, none, none] H
  unfold t__law_name
  walk_at "w"
  refine u_draw bag (by omega) (by decide) (by decide) fun v H1 c1 bag1 v0 v1 => ?_
  walk_at "w"
  refine u_draw bag1 (by omega) (by decide) (by decide) fun u H2 c2 bag2 u0 u1 => ?_
  obtain ⟨c, ec, hc⟩ := letter_at u0 u1
  have c12 := c1.both c2
  refine w_ixS (by decide +kernel) ec ?_
  walk_at "w"
  refine w_iteD (fun h6 => ?_) (fun h6 => ?_)
  · walk_at "w"
    refine k_lst (by walk_at "sz") fun p H3 np c3 hp => ?_
    walk_at "w"
    have ne := bag2.ne np
    refine u_draw (bag2.same c3) (by omega) (by decide) (by decide) fun w H4 c4 bag4 w0 w1 => ?_
    obtain ⟨x, ex, hx⟩ := atD (xs := [V.str "arg", V.str "cell", V.str "add", V.str "less", V.str "least", V.str "wait", V.str "give", V.str "fork", V.str "call", V.str "skip"]) w0 w1
    have hx' : okNm x = true := by
      have : ∀ x ∈ [V.str "arg", V.str "cell", V.str "add", V.str "less", V.str "least", V.str "wait", V.str "give", V.str "fork", V.str "call", V.str "skip"], okNm x = true := by decide +kernel
      exact this x hx
    obtain ⟨x', rfl, hx2⟩ := okNm_of hx'
    refine w_ixL (sqL (c4.at1 hp ne.symm)) ex ?_
    exact q x' H4 ((c12.same c3).both c4) (bag4.le (by omega)) hx2
  walk_at "w"
  have fallback : ∀ H', Chg [b] H H' → Bag H' b (n - 2) → tRet (tOp oAddS (tVar 4)
        (tM1 (mJoin K) (tC (V.str ""))
          (tLc (iRng1 (tCons (tCall sp__law_draw [] E0 (tCons (tVar 0) (tCons (tC (V.int 8)) tNil))) tNil)) (gName 7) tYes
            (tOp rIxS (tVar 2) (tCall sp__law_draw [] E0 (tCons (tVar 0) (tCons (tC (V.int 26)) tNil)))) [7])))
      (fin Q) [some (.ref b), some (.str last), some (.str "abcdefghijklmnopqrstuvwxyz"), some (.int v), some (.str ⟨#[c]⟩), none, none, none] H' := fun H' c' bag' => by
    walk_at "w"
    refine u_draw bag' (by omega) (by decide) (by decide) fun w H3 c3 bag3 w0 w1 => ?_
    walk_at "w"
    have b3s := bag3.some
    refine w_lcP walk_range [b] (fun i H => Bag H b (n - 3 - i)) (fun i y _ => ∃ d, y = .str ⟨#[d]⟩ ∧ isLow d = true) (bag3.le (by omega)) (fun i H1 H2 p np c h => h.one c (fun z => b3s (by rw [z]; exact np))) (fun _ _ => trivial) (fun D i acc z H4 H5 hi nD hD el iv c4 bag4 y => ?_) (fun D acc H4 nD c4 bag4 el hD ys => ?_)
    · obtain ⟨rfl, rfl⟩ := y
      have hi8 : i < 8 := by omega
      walk_at "w"
      refine u_draw bag4 (by omega) (by decide) (by decide) fun u2 H6 c6 bag6 g0 g1 => ?_
      obtain ⟨d, ed, hd⟩ := letter_at g0 g1
      refine w_ixS (by decide +kernel) ed ?_
      exact lcp_end (fun i H1 H2 p np c h => h.one c (fun z => b3s (by rw [z]; exact np))) (fun _ _ _ _ _ _ _ h => h) nD (fun a ha => by rw [List.mem_singleton.mp ha]; exact b3s) hD el (by omega) iv c6 (bag6.le (by omega)) ⟨d, rfl, hd⟩
    · have hlen : acc.length < 8 := by omega
      obtain ⟨zs, rfl, hzs⟩ : ∃ zs : List Str, acc = zs.map V.str ∧ ∀ z ∈ zs, z.length = 1 ∧ low z := by
        have : ∀ x ∈ acc, ∃ d, x = V.str ⟨#[d]⟩ ∧ isLow d = true := fun x hx => by
          obtain ⟨i, hi⟩ := List.getElem?_of_mem hx
          exact ys i x hi
        clear ys hD el hlen bag4
        induction acc with
        | nil => exact ⟨[], rfl, fun z hz => by cases hz⟩
        | cons x r ih =>
          obtain ⟨zs, e, hz⟩ := ih fun y hy => this y (List.mem_cons_of_mem _ hy)
          obtain ⟨d, rfl, hd⟩ := this x (by simp)
          refine ⟨⟨#[d]⟩ :: zs, by rw [List.map_cons, e], fun z hz' => ?_⟩
          rcases List.mem_cons.mp hz' with rfl | hz'
          · exact ⟨rfl, low_one hd⟩
          · exact hz z hz'
      rw [List.length_map] at hlen
      have j := join_ones hzs
      refine w_join (sqL hD) ?_ ?_
      · rw [sum_ones fun y hy => (hzs y hy).1, show (Str.ofString "").length = 0 from by decide +kernel]
        omega
      · refine w_addS ?_ ?_
        · rw [len_one, j.1]
          exact Nat.le_trans (show 1 + zs.length ≤ 100000 by omega) (by decide)
        refine q _ H4 ((c'.both c3).both c4) (bag4.le (by omega)) (nameS_of ?_ ?_ (low_append (low_one hc) j.2))
        · rw [len_append, len_one]
          omega
        · rw [len_append, len_one, j.1]
          omega
  have lenLast : last.length ≤ sizeLine := Nat.le_trans l8 (by decide)
  refine w_iteD (fun h0 => ?_) (fun h0 => ?_)
  · walk_at "w"
    refine w_iteD (fun g1 => ?_) (fun g1 => ?_)
    · walk_at "w"
      refine w_iteD (fun g2 => ?_) (fun g2 => ?_)
      · walk_at "w"
        refine q _ H2 c12 (bag2.le (by omega)) (nameS_of ?_ ?_ (low_append ll (low_one hc)))
        · rw [len_append, len_one]
          omega
        · rw [len_append, len_one]
          omega
      · have hv : v = 0 := V.int.inj h0
        subst hv
        walk_at "wn"
        exact fallback H2 c12 (bag2.le (by omega))
    · have hv : v = 0 := V.int.inj h0
      subst hv
      walk_at "wn"
      exact fallback H2 c12 (bag2.le (by omega))
  walk_at "w"
  refine w_iteD (fun h1 => ?_) (fun h1 => ?_)
  · walk_at "w"
    have hv : v = 1 := V.int.inj h1
    subst hv
    refine w_iteD (fun g1 => ?_) (fun g1 => ?_)
    · walk_at "w"
      have el : (cutS last (some 1) none).length = last.length - 1 := by
        rw [len_cut, sIx_i (by decide), HT.sIx_none]
        show min (last.length - min 1 last.length) (last.length - min 1 last.length) = _
        omega
      exact q _ H2 c12 (bag2.le (by omega)) (nameS_of (by omega) (by omega) (low_cut _ _ ll))
    · walk_at "wn"
      exact fallback H2 c12 (bag2.le (by omega))
  walk_at "w"
  refine w_iteD (fun h2 => ?_) (fun h2 => ?_)
  · have hv : v = 2 := V.int.inj h2
    subst hv
    walk_at "w"
    refine w_iteD (fun g1 => ?_) (fun g1 => ?_)
    · walk_at "wn"
      exact fallback H2 c12 (bag2.le (by omega))
    · have hne : 1 ≤ last.length := by
        rcases Nat.eq_zero_or_pos last.length with z | z
        · exfalso
          apply g1
          have : last = Str.ofString "" := by
            cases last with
            | mk a =>
              have : a = #[] := Array.eq_empty_of_size_eq_zero z
              rw [this]
              decide +kernel
          rw [this]
        · exact z
      walk_at "w"
      refine u_draw bag2 (by omega) (by omega) (by omega) fun w H3 c3 bag3 w0 w1 => ?_
      walk_at "w"
      have e1 : (cutS last none (some w)).length = w.toNat := by
        rw [len_cut, sIx_i w0, HT.sIx_none]
        omega
      have e2 : (cutS last (some (w + 1)) none).length = last.length - (w.toNat + 1) := by
        rw [len_cut, sIx_i (by omega), HT.sIx_none]
        omega
      refine w_addS ?_ ?_
      · rw [e1, len_one]
        exact Nat.le_trans (show w.toNat + 1 ≤ 100000 by omega) (by decide)
      walk_at "w"
      refine w_addS ?_ ?_
      · rw [len_append, e1, e2, len_one]
        exact Nat.le_trans (show w.toNat + 1 + (last.length - (w.toNat + 1)) ≤ 100000 by omega) (by decide)
      refine q _ H3 (c12.both c3) (bag3.le (by omega)) (nameS_of ?_ ?_ (low_append (low_append (low_cut _ _ ll) (low_one hc)) (low_cut _ _ ll)))
      · rw [len_append, len_append, e1, e2, len_one]
        omega
      · rw [len_append, len_append, e1, e2, len_one]
        omega
  walk_at "wn"
  exact fallback H2 c12 (bag2.le (by omega))
end
section
theorem putK_old {kvs : List (Key × V)} {k : Key} {v : V} (hm : k ∈ kvs.map (·.1)) : (putK kvs k v).map (·.1) = kvs.map (·.1) := by
  unfold putK
  obtain ⟨p, hp, e⟩ := List.mem_map.mp hm
  rw [if_pos (List.any_eq_true.mpr ⟨p, hp, decide_eq_true e⟩), List.map_map]
  apply List.map_congr_left
  intro q _
  show (if q.1 = k then (q.1, v) else q).1 = q.1
  split <;> rfl
theorem putK_add {kvs : List (Key × V)} {k : Key} {v : V} (hm : ¬ k ∈ kvs.map (·.1)) : (putK kvs k v).map (·.1) = kvs.map (·.1) ++ [k] := by
  unfold putK
  have h : ¬ (kvs.any fun kv => decide (kv.1 = k)) = true := fun h => by
    obtain ⟨p, hp, e⟩ := List.any_eq_true.mp h
    exact hm (List.mem_map.mpr ⟨p, hp, of_decide_eq_true e⟩)
  rw [if_neg h, List.map_append]
  rfl
def sp__law_names : Sp := fun vs H Q _ => ∃ (b : Addr) (m : Int) (n : Nat), vs = [.ref b, .int m] ∧ Bag H b n ∧ 0 ≤ m ∧ m ≤ 20 ∧ 1000 ≤ n ∧ ∀ (l : Addr) (xs : List Str) (H' : Hp), Chg [b] H H' → Bag H' b (n - 1000) → H l = none → H' l = some (.lst (xs.map V.str)) → xs.Nodup → (∀ x ∈ xs, nameS x = true) → (xs.length : Int) ≤ m → Q (.ref l) H'
def t__law_names  : TS :=
    tSeq (tAsg (tDNewK) (gName 2))
    (tSeq (tAsg (tC (.str "")) (gName 3))
    (tSeq (tFor (iRng1 (tCons (tVar 1) (tNil))) (gName 4) (tSeq (tAsg (tCall sp__law_name [] E0 (tCons (tVar 0) (tCons (tVar 3) (tNil)))) (gName 3))
    (sDPut (tVar 2) (tVar 3) (tC (.bl true)))))
    (tRet (tCB cListD (tCons (tVar 2) (tNil))))))
theorem pure__law_names {K : PySem.W.Frag} (vs : List V) (H : Hp) (Q : VK) (E : XK) (h : sp__law_names vs H Q E) : t__law_names (fin Q) (start ["bag", "many", "found", "name", "k"] vs) H := by
  obtain ⟨b, m, n, rfl, bag, m0, m1, hn, q⟩ := h
  show t__law_names _ [some (.ref b), some (.int m), none, none, none] H
  unfold t__law_names
  walk_at "w"
  refine w_dnewK fun d H1 nd c1 hd => ?_
  walk_at "w"
  have ne : b ≠ d := bag.ne nd
  refine for_it walk_range (fun i σ H2 => Chg [b] H H2 ∧ Bag H2 b (n - 20 * i) ∧ ∃ (kvs : List (Key × V)) (xs : List Str) (x : Str) (y : Option V), σ = [some (.ref b), some (.int m), some (.ref d), some (.str x), y] ∧ H2 d = some (.dK kvs) ∧ kvs.map (·.1) = xs.map Sum.inr ∧ xs.Nodup ∧ (∀ x ∈ xs, nameS x = true) ∧ xs.length ≤ i ∧ x.length ≤ 8 ∧ low x)
    ⟨c1.wide (by simp), (bag.same c1).le (by omega), [], [], "", none, rfl, hd, rfl, List.nodup_nil, fun x h => (by cases h), Nat.le_refl _, by decide +kernel, low_nil⟩ (fun _ _ _ _ _ => trivial) (fun i x σ H2 H3 hi p y => ?_) (fun σ H2 p => ?_)
  · obtain ⟨c2, bag2, kvs, xs, x1, y1, rfl, hd2, ek, nk, ok, le, l8, lw⟩ := p
    obtain ⟨rfl, rfl⟩ := y
    have hi20 : i < 20 := by omega
    have lk : kvs.length = xs.length := by
      have := congrArg List.length ek
      rw [List.length_map, List.length_map] at this
      exact this
    walk_at "w"
    refine ⟨b, x1, n - 20 * i, rfl, bag2, by omega, l8, lw, fun x2 H4 c4 bag4 ok2 => ?_⟩
    walk_at "w"
    refine d_dput (k := Sum.inr x2) (c4.at1 hd2 ne.symm) (by walk_at "sz") fun H5 c5 h5 => ?_
    have bag5 := bag4.one c5 ne
    have cc : Chg [b] H H5 := (c2.both c4).go c5 fun a ha => .inr (by rw [List.mem_singleton.mp ha]; exact nd)
    refine ⟨cc, bag5.le (by omega), _, if x2 ∈ xs then xs else xs ++ [x2], x2, _, rfl, h5, ?_, ?_, ?_, ?_, (nameS_iff.mp ok2).2.1, nameS_low ok2⟩
    · by_cases hm : x2 ∈ xs
      · rw [if_pos hm, putK_old (by rw [ek]; exact List.mem_map.mpr ⟨x2, hm, rfl⟩), ek]
      · rw [if_neg hm, putK_add (by rw [ek]; exact fun z => by obtain ⟨y, hy, e⟩ := List.mem_map.mp z; cases e; exact hm hy), ek, List.map_append]
        rfl
    · split
      · exact nk
      · next hm => exact nd_snoc nk hm
    · split
      · exact ok
      · intro x hx
        rcases List.mem_append.mp hx with hx | hx
        · exact ok x hx
        · rw [List.mem_singleton.mp hx]
          exact ok2
    · split
      · omega
      · rw [List.length_append, List.length_singleton]
        omega
  · obtain ⟨c2, bag2, kvs, xs, x1, y1, rfl, hd2, ek, nk, ok, le, l8, lw⟩ := p
    walk_at "w"
    refine w_listD hd2 fun l H3 nl c3 hl => ?_
    refine q l xs H3 (c2.same c3) ((bag2.same c3).le (by omega)) (c2.dom _ nl) ?_ nk ok (by omega)
    rw [hl]
    congr 2
    have : (kvs.map fun kv => kV kv.1) = (kvs.map (·.1)).map kV := by rw [List.map_map]; rfl
    rw [this, ek, List.map_map]
    rfl
def sp__law_expression (n : Nat) : Sp := fun vs H Q _ => ∃ (b : Addr) (m : Nat) (k : Nat), vs = [.ref b, .int (m : Nat)] ∧ Bag H b k ∧ 1 ≤ m ∧ m ≤ n ∧ 10 ^ (n + 1) ≤ k ∧
  ∀ (v : V) (e : Ex) (H' : Hp), Chg [b] H H' → Bag H' b (k - 10 ^ (n + 1)) → Im H' v e.data → e.deep ≤ m → e.numsIn (10 ^ 20) → Q v H'
theorem no__law_expression (vs : List V) (H : Hp) (Q : VK) (E : XK) : ¬ sp__law_expression 0 vs H Q E := by
  rintro ⟨b, m, k, _, _, h1, h2, _⟩
  omega
def t__law_expression (K : PySem.W.Frag) (n : Nat) : TS :=
    tSeq (tAsg (tCall sp__law_draw [] E0 (tCons (tVar 0) (tCons (tC (.int 8)) (tNil)))) (gName 2))
    (tSeq (tIfS (tTest (tOp rEq (tVar 2) (tC (.int 0)))) (tRet (tTup (tCons (tC (.str "arg")) (tNil)))) (tNext))
    (tSeq (tIfS (tOr (tTest (tOp oLt (tVar 1) (tC (.int 2)))) (tTest (tOp oLt (tVar 2) (tC (.int 4))))) (tRet (tCall sp__law_number [] E0 (tCons (tVar 0) (tNil)))) (tNext))
    (tSeq (tIfS (tTest (tOp oLt (tVar 2) (tC (.int 6)))) (tRet (tTup (tCons (tC (.str "cell")) (tCons (tCall (sp__law_expression n) [] E0 (tCons (tVar 0) (tCons (tOp oSub (tVar 1) (tC (.int 1))) (tNil)))) (tNil))))) (tNext))
    (tSeq (tAsg (tOp (rIxL K) (tLst (tCons (tC (.str "add")) (tCons (tC (.str "less")) (tCons (tC (.str "least")) (tNil))))) (tCall sp__law_draw [] E0 (tCons (tVar 0) (tCons (tC (.int 3)) (tNil))))) (gName 3))
    (tSeq (tAsg (tCall (sp__law_expression n) [] E0 (tCons (tVar 0) (tCons (tOp oSub (tVar 1) (tC (.int 1))) (tNil)))) (gName 4))
    (tRet (tTup (tCons (tVar 3) (tCons (tVar 4) (tCons (tCall (sp__law_expression n) [] E0 (tCons (tVar 0) (tCons (tOp oSub (tVar 1) (tC (.int 1))) (tNil)))) (tNil)))))))))))
theorem pure__law_expression {K : PySem.W.Frag} (n : Nat) (vs : List V) (H : Hp) (Q : VK) (E : XK) (h : sp__law_expression (n + 1) vs H Q E) : t__law_expression K n (fin Q) (start ["bag", "most", "pick", "word", "one"] vs) H := by
  obtain ⟨b, m, k, rfl, bag, m0, m1, hk, q⟩ := h
  have hp1 : 10 ≤ 10 ^ (n + 1) := Nat.le_trans (by decide) (Nat.pow_le_pow_right (by decide) (show 1 ≤ n + 1 by omega))
  have hp2 : 10 ^ (n + 1 + 1) = 10 * 10 ^ (n + 1) := by rw [Nat.pow_succ]; omega
  rw [hp2] at hk q
  show t__law_expression K n _ [some (.ref b), some (.int (m : Nat)), none, none, none] H
  unfold t__law_expression
  walk_at "w"
  refine u_draw bag (by omega) (by decide) (by decide) fun v H1 c1 bag1 v0 v1 => ?_
  walk_at "w"
  have num : ∀ σ' : L2.St, σ'[0]? = some (some (.ref b)) → tRet (tCall sp__law_number [] E0 (tCons (tVar 0) tNil)) (fin Q) σ' H1 := fun σ' es => by
    walk_at "w"
    refine w_var es ?_
    walk_at "w"
    refine ⟨b, k - 1, rfl, bag1, by omega, fun x H2 c2 bag2 x0 x1 => ?_⟩
    exact q (.int x) (.num x) H2 (c1.both c2) (bag2.le (by omega)) (.int x) m0 ⟨x0, x1⟩
  refine w_iteD (fun h0 => ?_) (fun h0 => ?_)
  · walk_at "w"
    refine k_tup (by walk_at "sz") fun p H2 np c2 hp => ?_
    exact q (.ref p) .arg H2 (c1.same c2) ((bag1.same c2).le (by omega)) (.tup hp (.cons (.str _) .nil)) m0 trivial
  walk_at "w"
  refine w_iteD (fun h2 => ?_) (fun h2 => ?_)
  · walk_at "wn"
    exact num _ rfl
  walk_at "w"
  refine w_iteD (fun h4 => ?_) (fun h4 => ?_)
  · walk_at "wn"
    exact num _ rfl
  walk_at "w"
  have em : ((m : Nat) : Int) - 1 = ((m - 1 : Nat) : Int) := by omega
  refine w_iteD (fun h6 => ?_) (fun h6 => ?_)
  · walk_at "w"
    rw [em]
    refine ⟨b, m - 1, k - 1, rfl, bag1, by omega, by omega, by omega, fun x e H2 c2 bag2 im de nu => ?_⟩
    walk_at "w"
    refine k_tup (by walk_at "sz") fun p H3 np c3 hp => ?_
    exact q (.ref p) (.cell e) H3 ((c1.both c2).same c3) ((bag2.same c3).le (by omega)) (.tup hp (.cons (.str _) (.cons (im.im c3) .nil))) (by show e.deep + 1 ≤ m; omega) nu
  walk_at "w"
  refine k_lst (by walk_at "sz") fun l H2 nl c2 hl => ?_
  have ne := bag1.ne nl
  walk_at "w"
  refine u_draw (bag1.same c2) (by omega) (by decide) (by decide) fun u H3 c3 bag3 u0 u1 => ?_
  obtain ⟨x, ex, hx⟩ := atD (xs := [V.str "add", V.str "less", V.str "least"]) u0 u1
  refine w_ixL (sqL (c3.at1 hl ne.symm)) ex ?_
  walk_at "w"
  rw [em]
  refine ⟨b, m - 1, k - 2, rfl, bag3.le (by omega), by omega, by omega, by omega, fun y e H4 c4 bag4 im de nu => ?_⟩
  walk_at "w"
  rw [em]
  refine ⟨b, m - 1, k - 2 - 10 ^ (n + 1), rfl, bag4, by omega, by omega, by omega, fun y' e' H5 c5 bag5 im' de' nu' => ?_⟩
  walk_at "w"
  refine k_tup (by walk_at "sz") fun p H6 np c6 hp => ?_
  have cc : Chg [b] H H6 := ((((c1.same c2).both c3).both c4).both c5).same c6
  have bb : Bag H6 b (k - 10 * 10 ^ (n + 1)) := (bag5.same c6).le (by omega)
  have r1 := im.im (c5.same c6)
  have r2 := im'.im c6
  simp only [List.mem_cons, List.not_mem_nil, or_false] at hx
  rcases hx with rfl | rfl | rfl
  · exact q (.ref p) (.add e e') H6 cc bb (.tup hp (.cons (.str _) (.cons r1 (.cons r2 .nil)))) (by show max e.deep e'.deep + 1 ≤ m; omega) ⟨nu, nu'⟩
  · exact q (.ref p) (.less e e') H6 cc bb (.tup hp (.cons (.str _) (.cons r1 (.cons r2 .nil)))) (by show max e.deep e'.deep + 1 ≤ m; omega) ⟨nu, nu'⟩
  · exact q (.ref p) (.least e e') H6 cc bb (.tup hp (.cons (.str _) (.cons r1 (.cons r2 .nil)))) (by show max e.deep e'.deep + 1 ≤ m; omega) ⟨nu, nu'⟩
def Stp.numsIn (B : Int) : Stp → Prop
  | .cell a b => a.numsIn B ∧ b.numsIn B
  | .give _ a => a.numsIn B
  | .fork _ a => a.numsIn B
  | .call _ a => a.numsIn B
  | .wait => True
  | .skip a k => a.numsIn B ∧ k ≤ 100
def sp__law_step (K : PySem.W.Frag) : Sp := fun vs H Q _ => ∃ (b l : Addr) (ns : List Str) (bh dp : Int) (n : Nat), vs = [.ref b, .ref l, .int bh, .int dp] ∧ Bag H b n ∧ H l = some (.lst (ns.map V.str)) ∧ l ≠ b ∧ ns ≠ [] ∧ ns.length ≤ 1000 ∧ (∀ x ∈ ns, nameS x = true) ∧ 0 ≤ bh ∧ bh ≤ 100 ∧ 1 ≤ dp ∧ dp ≤ 5 ∧ 10 ^ 8 ≤ n ∧
  ∀ (v : V) (s : Stp) (H' : Hp), Chg [b] H H' → Bag H' b (n - 10 ^ 8) → Im H' v s.data → s.ok ns bh → s.numsIn (10 ^ 20) → Q v H'
def t__law_step (K : PySem.W.Frag) : TS :=
    tSeq (tAsg (tOp (rIxL K) (tLst (tCons (tC (.str "cell")) (tCons (tC (.str "give")) (tCons (tC (.str "fork")) (tCons (tC (.str "call")) (tCons (tC (.str "wait")) (tCons (tC (.str "skip")) (tNil)))))))) (tCall sp__law_draw [] E0 (tCons (tVar 0) (tCons (tC (.int 6)) (tNil))))) (gName 4))
    (tSeq (tAsg (tCall (sp__law_expression 6) [] E0 (tCons (tVar 0) (tCons (tOp oAdd (tC (.int 1)) (tCall sp__law_draw [] E0 (tCons (tVar 0) (tCons (tVar 3) (tNil))))) (tNil)))) (gName 5))
    (tSeq (tIfS (tOr (tTest (tOp rEq (tVar 4) (tC (.str "wait")))) (tAnd (tTest (tOp rEq (tVar 4) (tC (.str "skip")))) (tTest (tOp rEq (tVar 2) (tC (.int 0)))))) (tRet (tTup (tCons (tC (.str "wait")) (tNil)))) (tNext))
    (tSeq (tIfS (tTest (tOp rEq (tVar 4) (tC (.str "cell")))) (tRet (tTup (tCons (tVar 4) (tCons (tVar 5) (tCons (tCall (sp__law_expression 6) [] E0 (tCons (tVar 0) (tCons (tOp oAdd (tC (.int 1)) (tCall sp__law_draw [] E0 (tCons (tVar 0) (tCons (tVar 3) (tNil))))) (tNil)))) (tNil)))))) (tNext))
    (tSeq (tIfS (tTest (tOp rEq (tVar 4) (tC (.str "skip")))) (tRet (tTup (tCons (tVar 4) (tCons (tVar 5) (tCons (tOp oAdd (tC (.int 1)) (tCall sp__law_draw [] E0 (tCons (tVar 0) (tCons (tVar 2) (tNil))))) (tNil)))))) (tNext))
    (tSeq (tIfS (tTest (tOp rEq (tVar 4) (tC (.str "give")))) (tRet (tTup (tCons (tVar 4) (tCons (tCall sp__law_name [] E0 (tCons (tVar 0) (tCons (tOp (rIxL K) (tVar 1) (tC (.int 0))) (tNil)))) (tCons (tVar 5) (tNil)))))) (tNext))
    (tRet (tTup (tCons (tVar 4) (tCons (tOp (rIxL K) (tVar 1) (tCall sp__law_draw [] E0 (tCons (tVar 0) (tCons (tCB (cLenQ K) (tCons (tVar 1) (tNil))) (tNil))))) (tCons (tVar 5) (tNil)))))))))))
theorem pure__law_step {K : PySem.W.Frag} (vs : List V) (H : Hp) (Q : VK) (E : XK) (h : sp__law_step K vs H Q E) : t__law_step K (fin Q) (start ["bag", "names", "behind", "deep", "word", "one"] vs) H := by
  obtain ⟨b, l, ns, bh, dp, n, rfl, bag, hl, ne, nn, n1, ok, bh0, bh1, dp0, dp1, hn, q⟩ := h
  show t__law_step K _ [some (.ref b), some (.ref l), some (.int bh), some (.int dp), none, none] H
  unfold t__law_step
  walk_at "w"
  refine k_lst (by walk_at "sz") fun p H1 np c1 hp => ?_
  have ne1 := bag.ne np
  walk_at "w"
  refine u_draw (bag.same c1) (by omega) (by decide) (by decide) fun v H2 c2 bag2 v0 v1 => ?_
  obtain ⟨x, ex, hx⟩ := atD (xs := [V.str "cell", V.str "give", V.str "fork", V.str "call", V.str "wait", V.str "skip"]) v0 v1
  refine w_ixL (sqL (c2.at1 hp ne1.symm)) ex ?_
  walk_at "w"
  refine u_draw bag2 (by omega) (by omega) (by omega) fun u H3 c3 bag3 u0 u1 => ?_
  walk_at "w"
  have eu : (1 : Int) + u = ((u.toNat + 1 : Nat) : Int) := by omega
  rw [eu]
  refine ⟨b, u.toNat + 1, n - 2, rfl, bag3.le (by omega), by omega, by omega, by omega, fun y e H4 c4 bag4 im de nu => ?_⟩
  have cc : Chg [b] H H4 := (((c1.wide (by simp)).both c2).both c3).both c4
  have de5 : e.deep ≤ 5 := by omega
  have hl4 := cc.at1 hl ne
  have wait : ∀ σ' : L2.St, tRet (tTup (tCons (tC (V.str "wait")) tNil)) (fin Q) σ' H4 := fun σ' => by
    walk_at "w"
    refine k_tup (by walk_at "sz") fun p H5 np c5 hp => ?_
    exact q (.ref p) .wait H5 (cc.same c5) ((bag4.same c5).le (by omega)) (.tup hp (.cons (.str _) .nil)) trivial trivial
  simp only [List.mem_cons, List.not_mem_nil, or_false] at hx
  have lln : ((ns.map V.str).length : Int) = ns.length := by rw [List.length_map]
  have pos : 0 < ns.length := List.length_pos_iff.mpr nn
  have named : ∀ (f : Str → Ex → Stp) (w : Str) (σ' : L2.St), σ'[0]? = some (some (.ref b)) → σ'[1]? = some (some (.ref l)) → σ'[4]? = some (some (.str w)) → σ'[5]? = some (some y) → (∀ x, (f x e).data = .tuple [.str w, .str x, e.data]) → (∀ x, x ∈ ns → nameS x = true → (f x e).ok ns bh) → (∀ x, (f x e).numsIn (10 ^ 20)) →
      tRet (tTup (tCons (tVar 4) (tCons (tOp (rIxL K) (tVar 1) (tCall sp__law_draw [] E0 (tCons (tVar 0) (tCons (tCB (cLenQ K) (tCons (tVar 1) tNil)) tNil)))) (tCons (tVar 5) tNil)))) (fin Q) σ' H4 := fun f w σ' e0 e1 e4 e5 ed eo en => by
    walk_at "w"
    refine w_var e4 ?_
    walk_at "w"
    refine w_var e1 ?_
    walk_at "w"
    refine w_var e0 ?_
    walk_at "w"
    refine w_var e1 ?_
    walk_at "w"
    refine u_draw bag4 (by omega) (by omega) (by omega) fun z H5 c5 bag5 z0 z1 => ?_
    obtain ⟨nm, en1, hn1⟩ := atD (xs := ns.map V.str) z0 z1
    obtain ⟨nm, hm, rfl⟩ := List.mem_map.mp hn1
    refine w_ixL (sqL (c5.at1 hl4 ne)) en1 ?_
    walk_at "w"
    refine w_var e5 ?_
    walk_at "w"
    refine k_tup (by walk_at "sz") fun p H6 np c6 hp => ?_
    refine q (.ref p) (f nm e) H6 ((cc.both c5).same c6) ((bag5.same c6).le (by omega)) ?_ (eo nm hm (ok nm hm)) (en nm)
    rw [ed]
    exact .tup hp (.cons (.str _) (.cons (.str _) (.cons (im.im (c5.same c6)) .nil)))
  rcases hx with rfl | rfl | rfl | rfl | rfl | rfl
  · walk_at "w"
    refine u_draw bag4 (by omega) (by omega) (by omega) fun u' H5 c5 bag5 g0 g1 => ?_
    walk_at "w"
    have eu' : (1 : Int) + u' = ((u'.toNat + 1 : Nat) : Int) := by omega
    rw [eu']
    refine ⟨b, u'.toNat + 1, n - 3 - 10 ^ 7, rfl, bag5.le (by omega), by omega, by omega, by omega, fun y' e' H6 c6 bag6 im' de' nu' => ?_⟩
    walk_at "w"
    refine k_tup (by walk_at "sz") fun p H7 np c7 hp => ?_
    exact q (.ref p) (.cell e e') H7 (((cc.both c5).both c6).same c7) ((bag6.same c7).le (by omega)) (.tup hp (.cons (.str _) (.cons (im.im ((c5.both c6).same c7)) (.cons (im'.im c7) .nil)))) ⟨de5, by omega⟩ ⟨nu, nu'⟩
  · walk_at "w"
    have e0 : atI (ns.map V.str) 0 = some (.str (ns.head nn)) := by
      cases ns with
      | nil => exact absurd rfl nn
      | cons a r => exact at0
    have hh := ok _ (List.head_mem nn)
    refine w_ixL (sqL hl4) e0 ?_
    walk_at "w"
    refine ⟨b, ns.head nn, n - 2 - 10 ^ 7, rfl, bag4.le (by omega), by omega, (nameS_iff.mp hh).2.1, nameS_low hh, fun nm H5 c5 bag5 okn => ?_⟩
    walk_at "w"
    refine k_tup (by walk_at "sz") fun p H6 np c6 hp => ?_
    exact q (.ref p) (.give nm e) H6 ((cc.both c5).same c6) ((bag5.same c6).le (by omega)) (.tup hp (.cons (.str _) (.cons (.str _) (.cons (im.im (c5.same c6)) .nil)))) ⟨okn, de5⟩ nu
  · walk_at "wn"
    exact named .fork "fork" _ rfl rfl rfl rfl (fun _ => rfl) (fun x hx hn => ⟨hn, hx, de5⟩) (fun _ => nu)
  · walk_at "wn"
    exact named .call "call" _ rfl rfl rfl rfl (fun _ => rfl) (fun x hx hn => ⟨hn, hx, de5⟩) (fun _ => nu)
  · walk_at "wn"
    exact wait _
  · walk_at "wn"
    refine w_iteD (fun hb => ?_) (fun hb => ?_)
    · walk_at "wn"
      exact wait _
    · have hb' : bh ≠ 0 := fun z => hb (by rw [z])
      walk_at "w"
      refine u_draw bag4 (by omega) (by omega) (by omega) fun u' H5 c5 bag5 g0 g1 => ?_
      walk_at "w"
      refine k_tup (by walk_at "sz") fun p H6 np c6 hp => ?_
      exact q (.ref p) (.skip e (1 + u')) H6 ((cc.both c5).same c6) ((bag5.same c6).le (by omega)) (.tup hp (.cons (.str _) (.cons (im.im (c5.same c6)) (.cons (.int _) .nil)))) ⟨de5, by omega, by omega⟩ ⟨nu, by omega⟩
end
section
theorem w_sortedS {K : PySem.W.Frag} {H : Hp} {Q : VK} {p : Addr} {xs : List Str} (h : SqL K H p (xs.map V.str)) (hl : xs.length < 64) (q : ∀ (ys : List Str) (p' : Addr) (H2 : Hp), ys.Perm xs → sortedS ys = true → H p' = none → Chg [] H H2 → H2 p' = some (.lst (ys.map V.str)) → Q (.ref p') H2) : rSortedS K [.ref p] H Q :=
  ⟨p, xs, rfl, h, hl, fun ys p' hp hs np => q ys p' _ hp hs np (.new np) upd_same⟩
theorem w_rep {H : Hp} {Q : VK} {p : Addr} {xs : List V} {k : Int} (h : H p = some (.lst xs)) (h0 : 0 ≤ k) (h1 : k < 1000) (hx : xs.length ≤ 10) (q : ∀ p' H2, H p' = none → Chg [] H H2 → H2 p' = some (.lst (List.replicate k.toNat xs).flatten) → Q (.ref p') H2) : rRep (.ref p) (.int k) H Q := by
  refine ⟨p, k, xs, rfl, rfl, h, by omega, by omega, ?_, fun p' np => q p' _ np (.new np) upd_same⟩
  have : xs.length * k.toNat ≤ 10 * 1000 := Nat.mul_le_mul hx (by omega)
  exact Nat.le_trans this (by decide)
theorem rising_of : ∀ {ys : List Str}, sortedS ys = true → ys.Nodup → rising ys = true
  | [], _, _ => rfl
  | [_], _, _ => rfl
  | x :: y :: r, h, n => by
    have h' : (!ltCps y.cps.toList x.cps.toList && risingS y r) = true := h
    obtain ⟨h1, h2⟩ := Bool.and_eq_true_iff.mp h'
    have ih := rising_of (ys := y :: r) h2 (List.nodup_cons.mp n).2
    show (ltS x y && rising (y :: r)) = true
    rw [ih, Bool.and_true]
    rw [ltCps_eq] at h1
    have h3 : ¬ y.cps.toList < x.cps.toList := of_decide_eq_false (by simpa using h1)
    have ne : x ≠ y := fun e => (List.nodup_cons.mp n).1 (by rw [e]; exact List.mem_cons_self)
    refine decide_eq_true ?_
    have ne' : x.cps.toList ≠ y.cps.toList := fun e => ne (by
      cases x with
      | mk a =>
        cases y with
        | mk b => rw [show a = b from Array.toList_inj.mp e])
    have h4 : x.cps.toList ≤ y.cps.toList := List.not_lt.mp h3
    rcases List.le_iff_lt_or_eq.mp h4 with z | z
    · exact z
    · exact absurd z ne'
theorem pick_list {α : Type} {P : Nat → V → α → Prop} : ∀ {acc : List V}, (∀ i y, acc[i]? = some y → ∃ s, P i y s) → ∃ ss : List α, ss.length = acc.length ∧ ∀ i y s, acc[i]? = some y → ss[i]? = some s → P i y s := by
  intro acc
  induction acc generalizing P with
  | nil => exact fun _ => ⟨[], rfl, fun i y s h => by simp at h⟩
  | cons v r ih =>
    intro h
    obtain ⟨s, hs⟩ := h 0 v rfl
    obtain ⟨ss, hl, hss⟩ := ih (P := fun i y s => P (i + 1) y s) fun i y hy => h (i + 1) y hy
    refine ⟨s :: ss, by rw [List.length_cons, List.length_cons, hl], fun i y t hy ht => ?_⟩
    cases i with
    | zero =>
      cases (Option.some.inj (show some v = some y from hy))
      cases (Option.some.inj (show some s = some t from ht))
      exact hs
    | succ i => exact hss i y t hy ht
theorem imA_of {H : Hp} : ∀ {acc : List V} {ss : List Stp}, ss.length = acc.length → (∀ (i : Nat) (y : V) (s : Stp), acc[i]? = some y → ss[i]? = some s → Im H y s.data) → ImA H acc (ss.map Stp.data)
  | [], [], _, _ => .nil
  | [], _ :: _, h, _ => by simp at h
  | _ :: _, [], h, _ => by simp at h
  | v :: r, s :: ss, h, hi => .cons (hi 0 v s rfl rfl) (imA_of (by simpa using h) fun i y t hy ht => hi (i + 1) y t hy ht)
theorem stepsOk_of {ns : List Str} : ∀ {ss : List Stp}, (∀ (i : Nat) s, ss[i]? = some s → s.ok ns ((ss.length : Int) - 1 - i)) → stepsOk ns ss
  | [], _ => trivial
  | s :: r, h => by
    have h0 := h 0 s rfl
    have e0 : ((s :: r).length : Int) - 1 - (0 : Nat) = (r.length : Int) := by rw [List.length_cons]; omega
    rw [e0] at h0
    refine ⟨h0, stepsOk_of fun i t ht => ?_⟩
    have hi := h (i + 1) t ht
    have e1 : ((s :: r).length : Int) - 1 - ((i + 1 : Nat) : Int) = (r.length : Int) - 1 - i := by rw [List.length_cons]; omega
    rw [e1] at hi
    exact hi
def deepOk : V → Prop := fun v => ∃ i : Int, v = .int i ∧ 1 ≤ i ∧ i ≤ 5
end
section
/-- a program whose steps' lists stand apart -/
abbrev RowP := Str × List PyData
def rowP (r : Str × List Stp) : RowP := (r.1, r.2.map Stp.data)
structure PR (Hx : Hp) (ts ds : List Addr) (rs : List RowP) : Prop where
  lt : ts.length = rs.length
  ld : ds.length = rs.length
  nd : ds.Nodup
  at_ : ∀ (i : Nat) t d r, ts[i]? = some t → ds[i]? = some d → rs[i]? = some r → Hx t = some (.tup [.str r.1, .ref d]) ∧ ∃ us, Hx d = some (.lst us) ∧ ImA Hx us r.2
def PRows (H Hx : Hp) (F : Addr) (rows : List V) (rs : List RowP) : Prop := ∃ ts ds : List Addr, rows = ts.map V.ref ∧ (∀ d ∈ ds, H d = none ∧ d ≠ F) ∧ PR Hx ts ds rs
theorem PRows.nil {H Hx : Hp} {F : Addr} : PRows H Hx F [] [] := ⟨[], [], rfl, fun d h => (by cases h), rfl, rfl, List.nodup_nil, fun i t d r h => by simp at h⟩
theorem PRows.len {H Hx : Hp} {F : Addr} {rows : List V} {rs : List RowP} (h : PRows H Hx F rows rs) : rows.length = rs.length := by
  obtain ⟨ts, ds, rfl, _, p⟩ := h
  rw [List.length_map, p.lt]
theorem PR.there {Hx : Hp} {ts ds : List Addr} {rs : List RowP} (p : PR Hx ts ds rs) {d : Addr} (hm : d ∈ ds) : ∃ us, Hx d = some us := by
  obtain ⟨i, hi⟩ := List.mem_iff_getElem?.mp hm
  have hl := (List.getElem?_eq_some_iff.mp hi).1
  have h1 := p.lt
  have h2 := p.ld
  obtain ⟨_, us, hu, _⟩ := p.at_ i _ d _ (List.getElem?_eq_getElem (by omega)) hi (List.getElem?_eq_getElem (by omega))
  exact ⟨_, hu⟩
theorem PR.keep {M : List Addr} {Hx Hy : Hp} {ts ds : List Addr} {rs : List RowP} (c : Chg M Hx Hy) (hM : ∀ d ∈ ds, d ∉ M) (h : PR Hx ts ds rs) : PR Hy ts ds rs :=
  ⟨h.lt, h.ld, h.nd, fun i t d r h1 h2 h3 => by
    obtain ⟨a, us, b, e⟩ := h.at_ i t d r h1 h2 h3
    exact ⟨c.tup _ _ a, us, c.keep _ _ b (hM d (List.mem_of_getElem? h2)), RA.im c e⟩⟩
theorem PRows.keep {M : List Addr} {H Hx Hy : Hp} {F : Addr} {rows : List V} {rs : List RowP} (c : Chg M Hx Hy) (hM : ∀ a ∈ M, ∀ d : Addr, (H d = none ∧ d ≠ F) → d ≠ a) (h : PRows H Hx F rows rs) : PRows H Hy F rows rs := by
  obtain ⟨ts, ds, rfl, h1, p⟩ := h
  exact ⟨ts, ds, rfl, h1, p.keep c fun d hd hm => hM d hm d (h1 d hd) rfl⟩
theorem PRows.snoc {H H8 Hx : Hp} {F T D : Addr} {rows us : List V} {rs : List RowP} {r : RowP} (h : PRows H H8 F rows rs) (k : ∀ ts ds : List Addr, (∀ d ∈ ds, H d = none ∧ d ≠ F) → PR H8 ts ds rs → PR Hx ts ds rs) (n8 : H8 D = none) (hT : Hx T = some (.tup [.str r.1, .ref D])) (hD : H D = none ∧ D ≠ F) (hu : Hx D = some (.lst us)) (im : ImA Hx us r.2) : PRows H Hx F (rows ++ [.ref T]) (rs ++ [r]) := by
  obtain ⟨ts, ds, rfl, h1, p8⟩ := h
  have nm : D ∉ ds := fun hm => by obtain ⟨us, e⟩ := p8.there hm; rw [n8] at e; cases e
  have p := k ts ds h1 p8
  refine ⟨ts ++ [T], ds ++ [D], by rw [List.map_append]; rfl, fun d hd => ?_, by simp [p.lt], by simp [p.ld], ?_, fun i t d r' e1 e2 e3 => ?_⟩
  · rcases List.mem_append.mp hd with hd | hd
    · exact h1 d hd
    · rw [List.mem_singleton.mp hd]; exact hD
  · rw [List.nodup_append]
    exact ⟨p.nd, by simp, fun x hx y hy e => nm (by rw [← List.mem_singleton.mp hy, ← e]; exact hx)⟩
  · have l1 := p.lt
    have l2 := p.ld
    by_cases hi : i < rs.length
    · rw [List.getElem?_append_left (by omega)] at e1 e2 e3
      exact p.at_ i t d r' e1 e2 e3
    · have : i = rs.length := by
        have := (List.getElem?_eq_some_iff.mp e3).1
        rw [List.length_append, List.length_singleton] at this
        omega
      subst this
      rw [List.getElem?_append_right (by omega), l1, Nat.sub_self] at e1
      rw [List.getElem?_append_right (by omega), l2, Nat.sub_self] at e2
      rw [List.getElem?_append_right (Nat.le_refl _), Nat.sub_self] at e3
      cases (Option.some.inj (show some T = some t from e1))
      cases (Option.some.inj (show some D = some d from e2))
      cases (Option.some.inj (show some r = some r' from e3))
      exact ⟨hT, us, hu, im⟩
def sp__law_program5 : Sp := fun vs H Q _ => ∃ (b : Addr) (n : Nat), vs = [.ref b] ∧ Bag H b n ∧ 10 ^ 11 ≤ n ∧
  ∀ (F : Addr) (p : Prg) (H' : Hp), Chg [b] H H' → Bag H' b (n - 10 ^ 11) → PrgOk p → p.length ≤ 12 → (∀ r ∈ p, r.2.length ≤ 12 ∧ ∀ s ∈ r.2, s.numsIn (10 ^ 20)) → H F = none → (∃ rows, H' F = some (.lst rows) ∧ PRows H H' F rows (p.map rowP)) → Q (.ref F) H'
def t__law_program5 (K : PySem.W.Frag) : TS :=
    tSeq (tAsg (tCall sp__law_draw [] E0 (tCons (tVar 0) (tCons (tC (.int 8)) (tNil)))) (gName 1))
    (tSeq (tAsg (tCB (rSortedS K) (tCons (tCall sp__law_names [] E0 (tCons (tVar 0) (tCons (tCall sp__law_draw [] E0 (tCons (tVar 0) (tCons (tOp (rIxL K) (tLst (tCons (tC (.int 6)) (tCons (tC (.int 13)) (tNil)))) (tOp oFdiv (tVar 1) (tC (.int 7)))) (tNil)))) (tNil)))) (tNil))) (gName 2))
    (tSeq (tAsg (tLst (tNil)) (gName 3))
    (tSeq (tFor (iList K (tVar 2)) (gName 4) (tSeq (tAsg (tCall sp__law_draw [] E0 (tCons (tVar 0) (tCons (tOp (rIxL K) (tLst (tCons (tC (.int 7)) (tCons (tC (.int 13)) (tNil)))) (tOp oFdiv (tVar 1) (tC (.int 7)))) (tNil)))) (gName 5))
    (tSeq (tAsg (tOp rRep (tLst (tCons (tOp oAdd (tC (.int 2)) (tCB cInt (tCons (tOp oLt (tVar 1) (tC (.int 7))) (tNil)))) (tNil))) (tOp oAdd (tVar 5) (tC (.int 1)))) (gName 6))
    (tSeq (tAsg (tC (.int 5)) (gSub (tVar 6) (tCall sp__law_draw [] E0 (tCons (tVar 0) (tCons (tOp oAdd (tVar 5) (tC (.int 1))) (tNil)))) rSetL))
    (tDrop (tBM K "list" rAppend (tVar 3) (tCons (tTup (tCons (tVar 4) (tCons (tLc (iRng1 (tCons (tVar 5) (tNil))) (gName 7) (tYes) (tCall (sp__law_step K) [] E0 (tCons (tVar 0) (tCons (tVar 2) (tCons (tOp oSub (tOp oSub (tVar 5) (tC (.int 1))) (tVar 7)) (tCons (tOp (rIxL K) (tVar 6) (tVar 7)) (tNil)))))) [7]) (tNil)))) (tNil))))))))
    (tRet (tVar 3)))))
theorem pure__law_program5 {K : PySem.W.Frag} (vs : List V) (H : Hp) (Q : VK) (E : XK) (h : sp__law_program5 vs H Q E) : t__law_program5 K (fin Q) (start ["bag", "great", "names", "found", "name", "many", "deep", "k"] vs) H := by
  obtain ⟨b, n, rfl, bag, hn, q⟩ := h
  show t__law_program5 K _ [some (.ref b), none, none, none, none, none, none, none] H
  unfold t__law_program5
  walk_at "w"
  refine u_draw bag (by omega) (by decide) (by decide) fun g H1 c1 bag1 g0 g1 => ?_
  walk_at "w"
  refine k_lst (by walk_at "sz") fun p H2 np c2 hp => ?_
  walk_at "w"
  refine w_fdiv (cdivS (by decide) (by decide)) ?_
  obtain ⟨x, ex, hx⟩ := atD (xs := [V.int 6, V.int 13]) (i := g / 7) (by omega) (by show g / 7 < 2; omega)
  refine w_ixL (sqL hp) ex ?_
  obtain ⟨m, rfl, m0, m1⟩ : ∃ m : Int, x = .int m ∧ 0 < m ∧ m ≤ 13 := by
    simp only [List.mem_cons, List.not_mem_nil, or_false] at hx
    rcases hx with rfl | rfl
    · exact ⟨_, rfl, by decide, by decide⟩
    · exact ⟨_, rfl, by decide, by decide⟩
  walk_at "w"
  refine u_draw (bag1.same c2) (by omega) m0 (by omega) fun w H3 c3 bag3 w0 w1 => ?_
  walk_at "w"
  refine ⟨b, w, n - 2, rfl, bag3.le (by omega), w0, by omega, by omega, fun l xs H4 c4 bag4 nl hl nd ok lw => ?_⟩
  walk_at "w"
  refine w_sortedS (sqL hl) (by omega) fun ys L H5 pm so nL c5 hL => ?_
  have okY : ∀ x ∈ ys, nameS x = true := fun x hx => ok x (pm.mem_iff.mp hx)
  have ndY : ys.Nodup := pm.nodup_iff.mpr nd
  have lnY : ys.length ≤ 12 := by rw [pm.length_eq]; omega
  have up := rising_of so ndY
  walk_at "w"
  refine k_lst (by walk_at "sz") fun F H6 nF c6 hF => ?_
  have c05 : Chg [b] H H5 := (((c1.same c2).both c3).both c4).same c5
  have c06 : Chg [b] H H6 := c05.same c6
  have bag5 := bag4.same c5
  have bag6 : Bag H6 b (n - 1002) := (bag5.same c6).le (by omega)
  have neL : L ≠ b := fun e => bag4.some (by rw [← e]; exact nL)
  have neF : F ≠ b := fun e => bag5.some (by rw [← e]; exact nF)
  have neLF : L ≠ F := ne_of_none hL nF
  have nF0 : H F = none := c05.dom F nF
  have b0 := bag.some
  walk_at "w"
  refine for_it (walk_list (K := K) (a := L) (xs := ys.map V.str)) (fun i σ H7 => Chg [b] H H7 ∧ Bag H7 b (n - 1002 - 2 * 10 ^ 9 * i) ∧ H7 L = some (.lst (ys.map V.str)) ∧ ∃ (rows : List V) (p : Prg) (y4 y5 y6 : Option V), σ = [some (.ref b), some (.int g), some (.ref L), some (.ref F), y4, y5, y6, none] ∧
      H7 F = some (.lst rows) ∧ p.map (·.1) = ys.take i ∧ PRows H H7 F rows (p.map rowP) ∧ ∀ r ∈ p, stepsOk ys r.2 ∧ r.2.length ≤ 12 ∧ ∀ s ∈ r.2, s.numsIn (10 ^ 20))
    ⟨c06, bag6.le (by omega), c6.at hL, [], [], none, none, none, rfl, hF, rfl, .nil, fun r hr => (by cases hr)⟩ (fun i σ H7 _ z => sqL z.2.2.1) (fun i v σ H7 H8 hi z y => ?_) (fun σ H7 z => ?_)
  · obtain ⟨c7, bag7, hL7, rows, pr, y4, y5, y6, rfl, hF7, en, ra, okr⟩ := z
    obtain ⟨rfl, ev⟩ := y
    rw [List.getElem?_map] at ev
    have hi' : i < ys.length := by rw [List.length_map] at hi; exact hi
    rw [List.getElem?_eq_getElem hi'] at ev
    cases ev
    have nm := ys[i]
    walk_at "w"
    refine k_lst (by walk_at "sz") fun p1 H9 np1 c9 hp1 => ?_
    walk_at "w"
    refine w_fdiv (cdivS (by decide) (by decide)) ?_
    obtain ⟨x1, ex1, hx1⟩ := atD (xs := [V.int 7, V.int 13]) (i := g / 7) (by omega) (by show g / 7 < 2; omega)
    refine w_ixL (sqL hp1) ex1 ?_
    obtain ⟨m', rfl, m0', m1'⟩ : ∃ m : Int, x1 = .int m ∧ 0 < m ∧ m ≤ 13 := by
      simp only [List.mem_cons, List.not_mem_nil, or_false] at hx1
      rcases hx1 with rfl | rfl
      · exact ⟨_, rfl, by decide, by decide⟩
      · exact ⟨_, rfl, by decide, by decide⟩
    walk_at "w"
    have bag9 := bag7.same c9
    refine u_draw bag9 (by omega) m0' (by omega) fun mn H10 c10 bag10 mn0 mn1 => ?_
    walk_at "w"
    refine k_lst (by walk_at "sz") fun p2 H11 np2 c11 hp2 => ?_
    walk_at "w"
    refine w_rep hp2 (by omega) (by omega) (by simp) fun dl H12 ndl c12 hdl => ?_
    have bag12 := (bag10.same c11).same c12
    have nedl : dl ≠ b := fun e => (bag10.same c11).some (by rw [← e]; exact ndl)
    have c8_12 : Chg [b] H8 H12 := (((c9.wide (by simp)).both c10).same c11).same c12
    have ndl8 : H8 dl = none := (((c9.wide (M' := [b]) (by simp)).both c10).same c11).dom dl ndl
    generalize ed : (List.replicate ((mn + 1).toNat) [V.int (2 + if decide (g < 7) then 1 else 0)]).flatten = deep at hdl
    have ldl : (deep.length : Int) = mn + 1 := by
      rw [← ed, List.length_flatten, List.map_replicate]
      simp
      omega
    have odl : ∀ v ∈ deep, deepOk v := fun v hv => by
      rw [← ed] at hv
      obtain ⟨l', hl', hv'⟩ := List.mem_flatten.mp hv
      rw [(List.mem_replicate.mp hl').2] at hv'
      rw [List.mem_singleton.mp hv']
      refine ⟨_, rfl, ?_, ?_⟩ <;> (split <;> omega)
    walk_at "w"
    refine u_draw bag12 (by omega) (by omega) (by omega) fun at' H13 c13 bag13 a0 a1 => ?_
    refine w_setL (c13.at1 hdl nedl) (ixD a0 (by omega)) fun H14 c14 hdl14 => ?_
    have bag14 := bag13.one c14 (Ne.symm nedl)
    have odl14 : ∀ v ∈ deep.set at'.toNat (.int 5), deepOk v := fun v hv => by
      rcases List.mem_or_eq_of_mem_set hv with hv | hv
      · exact odl v hv
      · exact ⟨5, hv, by decide, by decide⟩
    have ldl14 : ((deep.set at'.toNat (V.int 5)).length : Int) = mn + 1 := by rw [List.length_set]; exact ldl
    generalize deep.set at'.toNat (V.int 5) = deep2 at hdl14 odl14 ldl14
    have c8_14 : Chg [b] H8 H14 := (c8_12.both c13).go c14 fun a ha => .inr (by rw [List.mem_singleton.mp ha]; exact ndl8)
    have hL14 := c8_14.at1 hL7 neL
    have hF14 := c8_14.at1 hF7 neF
    have b14 := bag14.some
    walk_at "w"
    refine w_lcP walk_range [b] (fun j H => Bag H b (n - 1010 - 2 * 10 ^ 9 * i - 10 ^ 8 * j)) (fun j y H => ∃ s : Stp, Im H y s.data ∧ s.ok ys (mn - 1 - j) ∧ s.numsIn (10 ^ 20)) (bag14.le (by omega)) (fun j Ha Hb p np c h => h.one c (fun z => b14 (by rw [z]; exact np))) (fun _ _ => trivial) (fun D j acc z Ha Hb hj nD hD el iv ca bga y => ?_) (fun D acc Ha nD ca bga el hD yss => ?_)
    · obtain ⟨rfl, rfl⟩ := y
      have hj' : (j : Int) < mn := by omega
      have hLa := ca.at1 hL14 neL
      have hda := ca.at1 hdl14 nedl
      obtain ⟨dv, edv, hdv⟩ := atD (xs := deep2) (i := 0 + (j : Nat)) (by omega) (by omega)
      obtain ⟨dp, rfl, dp0, dp1⟩ := odl14 dv hdv
      have nny : ys ≠ [] := fun e => by rw [e] at hi'; simp at hi'
      walk_at "w"
      refine ⟨b, L, ys, mn - 1 - (0 + (j : Nat)), dp, n - 1010 - 2 * 10 ^ 9 * i - 10 ^ 8 * j, rfl, bga, hLa, neL, nny, by omega, okY, by omega, by omega, dp0, dp1, by omega, fun v s Hc cc bgc im oks nms => ?_⟩
      have e0 : mn - 1 - (0 + ((j : Nat) : Int)) = mn - 1 - (j : Nat) := by omega
      rw [e0] at oks
      exact lcp_end (fun j Ha Hb p np c h => h.one c (fun z => b14 (by rw [z]; exact np))) (fun _ _ _ _ _ _ c h => by obtain ⟨s, h1, h2⟩ := h; exact ⟨s, h1.im c, h2⟩) nD (fun a ha => by rw [List.mem_singleton.mp ha]; exact b14) hD el (by omega) iv cc (bgc.le (by omega)) ⟨s, im, oks, nms⟩
    · obtain ⟨ss, lss, hss⟩ := pick_list yss
      have lss' : (ss.length : Int) = mn := by rw [lss, el]; omega
      have imA : ImA Ha acc (ss.map Stp.data) := imA_of lss fun i y s hy hs => (hss i y s hy hs).1
      have sok : stepsOk ys ss := stepsOk_of fun i s hs => by
        have hi : i < acc.length := by rw [← lss]; exact (List.getElem?_eq_some_iff.mp hs).1
        have := (hss i _ s (List.getElem?_eq_getElem hi) hs).2.1
        rw [lss']
        exact this
      have snm : ∀ s ∈ ss, s.numsIn (10 ^ 20) := fun s hs => by
        obtain ⟨i, hi⟩ := List.getElem?_of_mem hs
        have hi2 : i < acc.length := by rw [← lss]; exact (List.getElem?_eq_some_iff.mp hi).1
        exact (hss i _ s (List.getElem?_eq_getElem hi2) hi).2.2
      walk_at "w"
      refine k_tup (by walk_at "sz") fun T Hb nT cb hT => ?_
      have c8b : Chg [b] H8 Hb := (c8_14.both ca).same cb
      have hFb := c8b.at1 hF7 neF
      have nD8 : H8 D = none := c8_14.dom D nD
      have neDF : D ≠ F := fun e => by rw [e, hF7] at nD8; cases nD8
      have lr : rows.length = pr.length := by rw [ra.len, List.length_map]
      have lp : pr.length ≤ 12 := by
        have := congrArg List.length en
        rw [List.length_map, List.length_take] at this
        omega
      walk_at "w"
      refine w_append hFb (by walk_at "sz") fun Hc cc hFc => ?_
      have cHb : Chg [b] H Hb := c7.both c8b
      have cHc : Chg [b] H Hc := cHb.go cc fun a ha => .inr (by rw [List.mem_singleton.mp ha]; exact nF0)
      have bagb := bga.same cb
      refine ⟨cHc, (bagb.one cc (Ne.symm neF)).le (by omega), cc.at1 (c8b.at1 hL7 neL) neLF, rows ++ [.ref T], pr ++ [(ys[i], ss)], _, _, _, rfl, hFc, ?_, ?_, ?_⟩
      · rw [List.map_append, en, List.take_add_one, List.getElem?_eq_getElem hi']
        rfl
      · have hTF : T ≠ F := fun e => by rw [e, hFb] at hT; cases hT
        have hDb := cb.at hD
        rw [List.map_append]
        exact ra.snoc (fun ts ds h1 p => (p.keep c8b fun d hd hm => by rw [List.mem_singleton.mp hm] at hd; exact b0 (h1 _ hd).1).keep cc fun d hd hm => (h1 d hd).2 (List.mem_singleton.mp hm)) nD8 (cc.at1 hT hTF) ⟨c7.dom D nD8, neDF⟩ (cc.at1 hDb neDF) (imA.im (cb.pre cc))
      · intro r hr
        rcases List.mem_append.mp hr with hr | hr
        · exact okr r hr
        · rw [List.mem_singleton.mp hr]
          exact ⟨sok, by show ss.length ≤ 12; omega, snm⟩
  · obtain ⟨c7, bag7, hL7, rows, pr, y4, y5, y6, rfl, hF7, en, ra, okr⟩ := z
    rw [List.length_map] at en bag7
    rw [List.take_length] at en
    walk_at "w"
    have lp : pr.length = ys.length := by
      have := congrArg List.length en
      rw [List.length_map] at this
      exact this
    refine q F pr H7 c7 (bag7.le (by omega)) ⟨fun r hr => ?_, by rw [en]; exact up, fun r hr => by rw [en]; exact (okr r hr).1, by omega, fun r hr => by have := (okr r hr).2.1; omega⟩ (by omega) (fun r hr => (okr r hr).2) nF0 ⟨rows, hF7, ra⟩
    have : r.1 ∈ pr.map (·.1) := List.mem_map.mpr ⟨r, hr, rfl⟩
    rw [en] at this
    exact okY _ this
end
section
abbrev NV := NestedKey × Addr × V
abbrev NU := NestedKey × Addr × Value
def entN (w : World) (x : NU) : DictEntry := ⟨x.1.hash w, .ref x.2.1, x.2.2⟩
def DnO (w : World) (a : Addr) (es : List NV) : HO := .ext fun h =>
  (a == sysModules) = false ∧ es.length ≤ sizeLine ∧ ∃ vs : List NU, Paired (fun p q => p.1 = q.1 ∧ p.2.1 = q.2.1 ∧ RelV p.2.2 q.2.2) es vs ∧
    ∃ o es' ep, h.get? a = some o ∧ o.ExactDict ∧ o.data = .dict es' ep ∧ es'.toList = vs.map (entN w) ∧ (vs.map (·.1)).Nodup
/-- at a stands a dict with these keys and values, in their order -/
def DnAt (w : World) (H : Hp) (a : Addr) (kvs : List (NestedKey × V)) : Prop :=
  ∃ es : List NV, H a = some (DnO w a es) ∧ (∀ e ∈ es, Im H (.ref e.2.1) e.1.data ∧ e.1.depth ≤ 8) ∧ kvs = es.map fun e => (e.1, e.2.2)
theorem DnAt.keep {w : World} {M : List Addr} {H H' : Hp} {a : Addr} {kvs : List (NestedKey × V)} (c : Chg M H H') (n : a ∉ M) (d : DnAt w H a kvs) : DnAt w H' a kvs :=
  let ⟨es, e, k, z⟩ := d; ⟨es, c.keep _ _ e n, fun x hx => ⟨(k x hx).1.im c, (k x hx).2⟩, z⟩
theorem DnAt.same {w : World} {H H' : Hp} {a : Addr} {kvs : List (NestedKey × V)} (c : Chg [] H H') (d : DnAt w H a kvs) : DnAt w H' a kvs := d.keep c (by simp)
theorem DnAt.some {w : World} {H : Hp} {a : Addr} {kvs : List (NestedKey × V)} (d : DnAt w H a kvs) : ∃ o, H a = some o := let ⟨_, e, _⟩ := d; ⟨_, e⟩
def NT (es : List NV) (vs : List NU) : Prop := Paired (fun (p : NV) (q : NU) => p.1 = q.1 ∧ p.2.1 = q.2.1 ∧ RelV p.2.2 q.2.2) es vs
theorem NT.val {es : List NV} {vs : List NU} (r : NT es vs) (k : NestedKey) : RelO (valV (es.map fun e => (e.1, e.2.2)) k) ((atKey vs k).map (·.2)) := by
  induction r with
  | nil => exact True.intro
  | @cons p q ps qs h t ih =>
    obtain ⟨h1, _, h2⟩ := h
    rw [List.map_cons]
    by_cases e : p.1 = k
    · have e' : q.1 = k := h1.symm.trans e
      have b : atKey (q :: qs) k = some q.2 := by simp [atKey, List.find?_cons, e']
      rw [valV_pos (p := (p.1, p.2.2)) e, b]; exact h2
    · have e' : ¬ q.1 = k := fun z => e (h1.trans z)
      have b : atKey (q :: qs) k = atKey qs k := by simp [atKey, List.find?_cons, e']
      rw [valV_neg (p := (p.1, p.2.2)) e, b]; exact ih
def putN (es : List NV) (k : NestedKey) (b : Addr) (v : V) : List NV :=
  if (es.any fun e => decide (e.1 = k)) = true then es.map (fun e => if e.1 = k then (e.1, e.2.1, v) else e) else es ++ [(k, b, v)]
theorem NT.put {es : List NV} {vs : List NU} (r : NT es vs) (k : NestedKey) (b : Addr) {v : V} {u : Value} (ru : RelV v u) : NT (putN es k b v) (storedH vs k b u) := by
  have e : (es.any fun e => decide (e.1 = k)) = (atKey vs k).isSome := by
    have := (r.val k).isSome_eq
    rw [← valV_any, List.any_map, Option.isSome_map] at this
    exact this
  unfold putN storedH
  rw [e]
  have repl : NT (es.map fun e => if e.1 = k then (e.1, e.2.1, v) else e) (vs.map (putAt k u)) := by
    clear e
    induction r with
    | nil => exact .nil
    | @cons p q ps qs h t ih =>
      rw [List.map_cons, List.map_cons]
      refine .cons ?_ ih
      obtain ⟨h1, h2, h3⟩ := h
      unfold putAt
      by_cases e : p.1 = k
      · rw [if_pos e, if_pos (h1.symm.trans e)]; exact ⟨h1, h2, ru⟩
      · rw [if_neg e, if_neg (fun z => e (h1.trans z))]; exact ⟨h1, h2, h3⟩
  by_cases q : (atKey vs k).isSome = true
  · rw [if_pos q, if_pos q]; exact repl
  · rw [if_neg q, if_neg q]; exact Paired.snoc r ⟨rfl, rfl, ru⟩
theorem hu9_of {A : Around} {k : Nat} (hr : Room k A) : A.units + 9 < cLine := Nat.lt_of_le_of_lt (Nat.add_le_add_left (by decide : 9 ≤ 64) _) hr.units
end
end Fg
namespace PySem.SeqAt
open AutoSeq1 (wpAny_loadPart')
open MeetsSeq
theorem fg_dict_declines_str (l : Addr) (es : Array DictEntry) (n : Nat) (dd : Option Addr) (sl : Array (Option Value)) (b : Str) (u : Tok) :
    Meets (Builtin.«dict.__eq__» ⟨[.ref l, .str b u], []⟩) (fun _ R s => s.heap.get? l = some { cls := .type "dict", dict := dd, data := .dict es n, slots := sl } ∧ R (.ok (.ret .notImplemented)) s) :=
  .of_wp fun prog w A R s h => by obtain ⟨hp, g, d, tk, os⟩ := s; obtain ⟨hl, h⟩ := h; have f1 := F.sub_str_dict; wp_walk using wpAny_loadPart' hl, wpAny_load hl; exact ⟨_, rfl, h⟩
theorem fg_str_declines_dict (b : Str) (u : Tok) (l : Addr) (es : Array DictEntry) (n : Nat) (dd : Option Addr) (sl : Array (Option Value)) :
    Meets (Builtin.«str.__eq__» ⟨[.str b u, .ref l], []⟩) (fun _ R s => s.heap.get? l = some { cls := .type "dict", dict := dd, data := .dict es n, slots := sl } ∧ R (.ok (.ret .notImplemented)) s) :=
  .of_wp fun prog w A R s h => by obtain ⟨hp, g, d, tk, os⟩ := s; obtain ⟨hl, h⟩ := h; wp_walk using wpAny_loadPart' hl, wpAny_load hl; exact ⟨_, rfl, h⟩
theorem fg_dict_declines_tuple (l b : Addr) (es : Array DictEntry) (items : Array Value) (n n2 : Nat) (dd dd2 : Option Addr) (sl sl2 : Array (Option Value)) :
    Meets (Builtin.«dict.__eq__» ⟨[.ref l, .ref b], []⟩) (fun _ R s => s.heap.get? l = some { cls := .type "dict", dict := dd, data := .dict es n, slots := sl } ∧ s.heap.get? b = some { cls := .type "tuple", dict := dd2, data := .seq items n2, slots := sl2 } ∧ R (.ok (.ret .notImplemented)) s) :=
  .of_wp fun prog w A R s h => by obtain ⟨hp, g, d, tk, os⟩ := s; obtain ⟨hl, hb, h⟩ := h; have f1 := F.sub_tuple_dict; wp_walk using wpAny_loadPart' hl, wpAny_load hl, wpAny_loadPart' hb, wpAny_load hb; exact ⟨_, rfl, h⟩
theorem fg_tuple_declines_dict (b l : Addr) (items : Array Value) (es : Array DictEntry) (n2 n : Nat) (dd2 dd : Option Addr) (sl2 sl : Array (Option Value)) :
    Meets (Builtin.«tuple.__eq__» ⟨[.ref b, .ref l], []⟩) (fun _ R s => s.heap.get? b = some { cls := .type "tuple", dict := dd2, data := .seq items n2, slots := sl2 } ∧ s.heap.get? l = some { cls := .type "dict", dict := dd, data := .dict es n, slots := sl } ∧ R (.ok (.ret .notImplemented)) s) :=
  .of_wp fun prog w A R s h => by obtain ⟨hp, g, d, tk, os⟩ := s; obtain ⟨hb, hl, h⟩ := h; have f1 : isSubtype (.type "dict") (.type "tuple") = pure false := by rw [isSubtype_type]; kernel_rfl
                                  wp_walk using wpAny_loadPart' hb, wpAny_load hb, wpAny_loadPart' hl, wpAny_load hl; exact ⟨_, rfl, h⟩
section
variable {A : Around} {s : Shared}
theorem fg_dict_str {l : Addr} {es : Array DictEntry} {n : Nat} {dd : Option Addr} {sl : Array (Option Value)} (b : Str) (u : Tok) (ho : s.heap.get? l = some { cls := .type "dict", dict := dd, data := .dict es n, slots := sl }) (hu : A.units < cLine) : RcAt A s (.ref l) (.str b u) false := fun prog w E Q h =>
  rc_eq_decline_or (k := false) ⟨_, ho, rfl⟩ (typeIs_str s b u) (by decide) F.sub_str_dict F.slot_dict_eq F.slot_str_eq_refl
    (fun _ hq => call_meets F.slot_dict_eq ⟨_, ho, rfl⟩ F.entry_dict_eq (F.args_dict_eq_2 _ _) (fg_dict_declines_str l es n dd sl b u) ⟨ho, hq⟩)
    (fun _ hq => call_meets F.slot_str_eq_refl (typeIs_str s b u) F.entry_str_eq (F.args_str_eq_2 _ _) (fg_str_declines_dict b u l es n dd sl) ⟨ho, hq⟩)
    (fun _ hq => wpAny_of_eq (rfl : isSame (.ref l) (.str b u) = pure false) hq) (.inr hu) h
theorem fg_eq_dict_str {l : Addr} {es : Array DictEntry} {n : Nat} {dd : Option Addr} {sl : Array (Option Value)} (b : Str) (u : Tok) (ho : s.heap.get? l = some { cls := .type "dict", dict := dd, data := .dict es n, slots := sl }) (hu : A.units < cLine) : EqAt A s (.ref l) (.str b u) false := fun prog w E Q h => by
  unfold eqBool
  refine wpAny_holding ?_
  refine wpAny_ite_split (fun hab => absurd (eq_of_beq hab) nofun) (fun _ => ?_)
  exact wpAny_bind (fg_dict_str b u ho hu prog w E _ (wpAny_truthy_bool h))
theorem fg_dict_tuple {l b : Addr} {es : Array DictEntry} {items : Array Value} {n : Nat} {dd : Option Addr} {sl : Array (Option Value)} (ho : s.heap.get? l = some { cls := .type "dict", dict := dd, data := .dict es n, slots := sl }) (hb : s.heap.IsTuple b items) (hu : A.units < cLine) :
    RcAt A s (.ref l) (.ref b) false := fun prog w E Q h => by
  obtain ⟨⟨cls2, dd2, data2, sl2⟩, ho2, hc2, n2, hd2⟩ := id hb
  simp only at hc2 hd2
  subst hc2 hd2
  have hne : l ≠ b := fun z => by
    rw [z, ho2] at ho
    injection ho with ho
    injection ho with e1 e2 e3
    cases e3
  exact (rc_eq_decline_or (k := false) ⟨_, ho, rfl⟩ ⟨_, ho2, rfl⟩ (by decide) F.sub_tuple_dict F.slot_dict_eq F.slot_tuple_eq_refl
    (fun _ hq => call_meets F.slot_dict_eq ⟨_, ho, rfl⟩ F.entry_dict_eq (F.args_dict_eq_2 _ _) (fg_dict_declines_tuple l b es items n n2 dd dd2 sl sl2) ⟨ho, ho2, hq⟩)
    (fun _ hq => call_meets F.slot_tuple_eq_refl ⟨_, ho2, rfl⟩ F.entry_tuple_eq (F.args_tuple_eq_2 _ _) (fg_tuple_declines_dict b l items es n2 n dd2 dd sl2 sl) ⟨ho2, ho, hq⟩)
    (fun _ hq => wpAny_isSame_ref_other hne ho ho2 (by simp) hq) (.inr hu) h)
end
end PySem.SeqAt
namespace Fg
open PySem PySem.Spec PyProof.Rows L2
/-- d is the tuple of the one text z -/
def isT1 (z : Str) : PyData → Bool
  | .tuple [.str y] => y == z
  | _ => false
def is0 (z : Str) : PyData → Bool
  | .str y => y == z
  | _ => false
def oEqT1 : R2 := fun x y H Q => ∃ (d : PyData) (S : Addr → Prop) (z : Str) (p : Addr), R S H x d ∧ y = .ref p ∧ H p = some (.tup [.str z]) ∧ Q (.bl (isT1 z d)) H
def oEqE : R2 := fun x y H Q => ∃ (p q : Addr) (xs : List V), x = .ref p ∧ y = .ref q ∧ ((H p = some (.lst xs) ∧ H q = some (.lst [])) ∨ (H p = some (.tup xs) ∧ H q = some (.tup []))) ∧ Q (.bl xs.isEmpty) H
section
variable {X : Cx} {pins : List (Addr × Obj)} {σ : L2.St} {H : Hp} {s : Shared}
theorem tupAt {p : Addr} {xs : List V} (I : Inv X pins σ H s) (h : H p = some (.tup xs)) : ∃ its : List Value, Vals xs its ∧ s.heap.IsTuple p its.toArray := by
  obtain ⟨_, its, rv, o, h1, h2, n, h3⟩ := (show ObjOk X.prog X.w H s.heap p (.tup xs) from I.hok p _ h)
  exact ⟨its, rv, ⟨o, h1, h2, n, h3⟩⟩
theorem lstAt {p : Addr} {xs : List V} (I : Inv X pins σ H s) (h : H p = some (.lst xs)) : ∃ its : List Value, Vals xs its ∧ s.heap.IsList p its.toArray := by
  obtain ⟨_, its, n, rv, h1⟩ := (show ObjOk X.prog X.w H s.heap p (.lst xs) from I.hok p _ h)
  exact ⟨its, rv, ⟨_, h1, rfl, n, rfl⟩⟩
theorem dicAt {p : Addr} {kvs : List (Key × V)} (I : Inv X pins σ H s) (h : H p = some (.dK kvs)) : ∃ (es : Array DictEntry) (n : Nat) (dd : Option Addr) (sl : Array (Option Value)), s.heap.get? p = some { cls := .type "dict", dict := dd, data := .dict es n, slots := sl } := by
  obtain ⟨_, _, vs, _, o, es, ep, h1, h2, h3, _⟩ := (show ObjOk X.prog X.w H s.heap p (.dK kvs) from I.hok p _ h)
  obtain ⟨oc, od, dt, sl⟩ := o
  obtain ⟨h4, h5, h6⟩ := h2
  simp only at h3 h4 h5 h6
  subst h3 h4
  exact ⟨es, ep, od, sl, h1⟩
/-- an item against a text -/
theorem eqAt_text {A : Around} {S : Addr → Prop} {v : V} {d : PyData} {u : Value} {z : Str} {t : Tok} (I : Inv X pins σ H s) (r : R S H v d) (rv : RelV v u) (hu : A.units < cLine) : SeqAt.EqAt A s u (.str z t) (is0 z d) := by
  cases r with
  | non => cases (show u = Value.none from rv); exact SeqAt.EqAt.none_str z t
  | bl b => cases (show u = Value.bool b from rv); exact SeqAt.EqAt.bool_str b z t
  | int i =>
    obtain ⟨k, q⟩ := (show ∃ k, u = Value.int i k from rv)
    cases q
    exact SeqAt.EqAt.int_str i k z t
  | str x =>
    obtain ⟨k, q⟩ := (show ∃ k, u = Value.str x k from rv)
    cases q
    exact SeqAt.EqAt.str_str x k z t
  | @lst a xs ds sa ea ra =>
    cases (show u = Value.ref a from rv)
    obtain ⟨its, _, hl⟩ := lstAt I ea
    exact SeqAt.EqAt.list_str z t hl hu
  | @tup a xs ds ea ra =>
    cases (show u = Value.ref a from rv)
    obtain ⟨its, _, hl⟩ := tupAt I ea
    exact SeqAt.EqAt.tuple_str z t hl hu
  | @dic a kvs sa ea =>
    cases (show u = Value.ref a from rv)
    obtain ⟨es, n, dd, sl, ho⟩ := dicAt I ea
    exact SeqAt.fg_eq_dict_str z t ho hu
theorem p_eqT1 (hu : X.A.units + 64 < cLine) : OpR X (compareOp .Eq) oEqT1 := by
  intro pins s σ H x y v u Q I rx ry h
  obtain ⟨d, S, z, p, r, rfl, hp, q⟩ := h
  cases (show u = Value.ref p from ry)
  have hu0 : X.A.units < cLine := by omega
  obtain ⟨itp, rp, tp⟩ := tupAt I hp
  have fin : ∀ b, SeqAt.RcAt X.A s v (.ref p) b → isT1 z d = b → wpAny (model X.prog X.w) X.A (compareOp .Eq v (.ref p)) (EP X pins σ Q) X.xe s := fun b hb e => by
    subst e
    exact hb X.prog X.w X.xe _ ⟨.bl _, H, I, rfl, q⟩
  cases r with
  | non => cases (show v = Value.none from rx); exact fin _ (SeqAt.RcAt.none_tuple tp hu0) rfl
  | bl b => cases (show v = Value.bool b from rx); exact fin _ (SeqAt.RcAt.bool_tuple b tp hu0) rfl
  | int i =>
    obtain ⟨k, q⟩ := (show ∃ k, v = Value.int i k from rx)
    cases q
    exact fin _ (SeqAt.RcAt.int_tuple i k tp hu0) rfl
  | str w =>
    obtain ⟨k, q⟩ := (show ∃ k, v = Value.str w k from rx)
    cases q
    exact fin _ (SeqAt.RcAt.str_tuple w k tp hu0) rfl
  | @lst a xs ds sa ea ra =>
    cases (show v = Value.ref a from rx)
    obtain ⟨its, _, hl⟩ := lstAt I ea
    exact fin _ (SeqAt.RcAt.list_tuple hl tp hu0) rfl
  | @dic a kvs sa ea =>
    cases (show v = Value.ref a from rx)
    obtain ⟨es, n, dd, sl, ho⟩ := dicAt I ea
    exact fin _ (SeqAt.fg_dict_tuple ho tp hu0) rfl
  | @tup a xs ds ea ra =>
    cases (show v = Value.ref a from rx)
    obtain ⟨its, rv, hl⟩ := tupAt I ea
    cases rp with
    | cons rz rn =>
      cases rn
      obtain ⟨t, rfl⟩ := rz
      cases ra with
      | nil =>
        cases rv
        refine fin _ (SeqAt.RcAt.tuples (e := fun _ => true) hl tp hu0 fun j h1 h2 => absurd h1 (by simp)) rfl
      | @cons v0 vs0 d0 ds0 r0 rs =>
        cases rv with
        | @cons _ u0 _ us0 q0 qs =>
          have e0 := eqAt_text (A := X.A.in1) (z := z) (t := t) I r0 q0 (show X.A.units + 1 < cLine by omega)
          refine fin _ (SeqAt.RcAt.tuples (e := fun _ => is0 z d0) hl tp hu0 fun j h1 h2 => ?_) ?_
          · have hj : j = 0 := by
              have : j < 1 := h2
              omega
            subst hj
            exact e0
          · have l1 : us0.length = ds0.length := by rw [← Paired.length qs, rs.length]
            cases ds0 with
            | nil =>
              have l2 : us0 = [] := List.length_eq_zero_iff.mp l1
              subst l2
              cases d0 <;> first | rfl | simp [isT1, is0]
            | cons d1 ds1 =>
              cases us0 with
              | nil => simp at l1
              | cons u1 us1 => cases d0 <;> simp [isT1, is0]
theorem p_eqE (hu : X.A.units + 64 < cLine) : OpR X (compareOp .Eq) oEqE := by
  intro pins s σ H x y v u Q I rx ry h
  obtain ⟨p, q, xs, rfl, rfl, hc, hq⟩ := h
  cases (show v = Value.ref p from rx)
  cases (show u = Value.ref q from ry)
  have hu0 : X.A.units < cLine := by omega
  have fin : ∀ b, SeqAt.RcAt X.A s (.ref p) (.ref q) b → xs.isEmpty = b → wpAny (model X.prog X.w) X.A (compareOp .Eq (.ref p) (.ref q)) (EP X pins σ Q) X.xe s := fun b hb e => by
    subst e
    exact hb X.prog X.w X.xe _ ⟨.bl _, H, I, rfl, hq⟩
  rcases hc with ⟨h1, h2⟩ | ⟨h1, h2⟩
  · obtain ⟨i1, r1, l1⟩ := lstAt I h1
    obtain ⟨i2, r2, l2⟩ := lstAt I h2
    cases r2
    cases r1 with
    | nil => exact fin _ (SeqAt.RcAt.lists (e := fun _ => true) l1 l2 rfl hu0 fun j h1 h2 => absurd h1 (by simp)) rfl
    | cons a b => exact fin _ (SeqAt.RcAt.lists_lengths l1 l2 (by simp) hu0) rfl
  · obtain ⟨i1, r1, l1⟩ := tupAt I h1
    obtain ⟨i2, r2, l2⟩ := tupAt I h2
    cases r2
    cases r1 with
    | nil => exact fin _ (SeqAt.RcAt.tuples (e := fun _ => true) l1 l2 hu0 fun j h1 h2 => absurd h1 (by simp)) rfl
    | cons a b => exact fin _ (SeqAt.RcAt.tuples (e := fun _ => true) l1 l2 hu0 fun j h1 h2 => absurd h2 (by simp)) (by simp)
end
section
variable {H : Hp} {Q : VK} {x y : V}
theorem w_eqT1 {d : PyData} {S : Addr → Prop} {z : Str} {p : Addr} (r : R S H x d) (hp : H p = some (.tup [.str z])) (q : Q (.bl (isT1 z d)) H) : oEqT1 x (.ref p) H Q := ⟨d, S, z, p, r, rfl, hp, q⟩
theorem w_eqEL {p q : Addr} {xs : List V} (h1 : H p = some (.lst xs)) (h2 : H q = some (.lst [])) (k : Q (.bl xs.isEmpty) H) : oEqE (.ref p) (.ref q) H Q := ⟨p, q, xs, rfl, rfl, .inl ⟨h1, h2⟩, k⟩
theorem w_eqET {p q : Addr} {xs : List V} (h1 : H p = some (.tup xs)) (h2 : H q = some (.tup [])) (k : Q (.bl xs.isEmpty) H) : oEqE (.ref p) (.ref q) H Q := ⟨p, q, xs, rfl, rfl, .inr ⟨h1, h2⟩, k⟩
end
end Fg
namespace L2
open PySem PySem.Spec PyProof.Rows
end L2
namespace Fg
open PySem PySem.Spec PyProof.Rows L2
section
def KFld (K : PySem.W.Frag) (f : Str) (Q : VK) : VK := fun x H1 => ∃ a C dx fs v, x = .ref a ∧ H1 a = some (.ins C dx fs) ∧ Cls K C ∧ NoAttr K C f ∧ fs.lookup f = some v ∧ Q v H1
def KSet (K : PySem.W.Frag) (f : Str) (y : V) (N : Hp → Prop) : VK := fun x H2 => ∃ a C dx fs, x = .ref a ∧ H2 a = some (.ins C dx fs) ∧ Cls K C ∧ NoAttr K C f ∧ fs.length < 1000 ∧ N (upd H2 a (.ins C dx (putF f y fs)))
def KAugE (K : PySem.W.Frag) (C : Addr) (f : Str) (a : Addr) (N : Hp → Prop) : VK := fun z H3 => ∃ dx' fs', H3 a = some (.ins C dx' fs') ∧ fs'.length < 1000 ∧ N (upd H3 a (.ins C dx' (putF f z fs')))
def KAug (K : PySem.W.Frag) (tv : TE) (rd : V → V → Hp → VK → Prop) (f : Str) (D : Ends) (σ : L2.St) : VK := fun x H1 => ∃ a C dx fs v, x = .ref a ∧ H1 a = some (.ins C dx fs) ∧ Cls K C ∧ NoAttr K C f ∧ fs.lookup f = some v ∧ tv σ H1 fun y H2 => rd v y H2 (KAugE K C f a (D.nx σ))
section
variable {K : PySem.W.Frag} {σ : L2.St} {H : Hp} {D : Ends} {ta tv td ty tx : TE} {Q : VK} {f : Str} {tr : TA}
theorem w_fld (h : ta σ H (KFld K f Q)) : tFld K ta f σ H Q := h
theorem w_sfld (h : tv σ H fun y H1 => ta σ H1 (KSet K f y (D.nx σ))) : sFld K ta tv f D σ H := h
theorem w_faug {rd : V → V → Hp → VK → Prop} (h : ta σ H (KAug K tv rd f D σ)) : sFldAug K ta tv rd f D σ H := h
theorem w_rAdd {i j : Int} (q : Q (.int (i + j)) H) : L2.rAdd (.int i) (.int j) H Q := ⟨i, j, rfl, rfl, q⟩
theorem w_rSub {i j : Int} (q : Q (.int (i - j)) H) : L2.rSub (.int i) (.int j) H Q := ⟨i, j, rfl, rfl, q⟩
/-- a new instance x -/
def KMake (C : Addr) (sp : Sp) (dvs : List V) (E : XK) (Q : VK) : List V → Hp → Prop := fun vs H1 => ∀ x dx, H1 x = none → H1 dx = none → dx ≠ x → sp (.ref x :: (vs ++ dvs)) (upd (upd H1 dx (.own x)) x (.ins C dx [])) (fun v H2 => v = .non ∧ Q (.ref x) H2) E
theorem w_make {C : Addr} {sp : Sp} {dvs : List V} {E : XK} (h : tr σ H (KMake C sp dvs E Q)) : tMake C sp dvs E tr σ H Q := h
/-- x or y -/
def KOr (K : PySem.W.Frag) (tb : TE) (σ : L2.St) (Q : VK) : VK := fun x H1 => ∃ k, TruV K x H1 k ∧ if k = true then Q x H1 else tb σ H1 Q
theorem w_orT {tb : TE} (h : ta σ H (KOr K tb σ Q)) : tOrT K ta tb σ H Q := h
def KDG2 (ty tx : TE) (σ : L2.St) (Q : VK) : VK := fun x H1 => ∃ a, x = .ref a ∧ IsD H1 a ∧ ty σ H1 fun y H2 => tx σ H2 fun z H3 => ∃ o, DGet H3 a y o ∧ Q (o.getD z) H3
theorem w_dgetd (h : td σ H (KDG2 ty tx σ Q)) : tDGet2 td ty tx σ H Q := h
theorem k_dgetd {a : Addr} {kvs : List (Key × V)} (e : H a = some (.dK kvs)) (h : ty σ H fun y H2 => tx σ H2 fun z H3 => ∃ o, DGet H3 a y o ∧ Q (o.getD z) H3) : KDG2 ty tx σ Q (.ref a) H := ⟨a, rfl, .inl ⟨_, .inl e⟩, h⟩
def KDg (x : V) (Q : VK) : VK := fun y H2 => ∃ a v, x = .ref a ∧ DGet H2 a y (some v) ∧ Q v H2
theorem w_dgetk (h : td σ H fun x H1 => ty σ H1 (KDg x Q)) : tDGet td ty σ H Q := h
/-- d.setdefault(k, x) -/
def KDSe (a : Addr) (y : V) (Q : VK) : VK := fun z H3 => ∃ (kvs : List (Key × V)) (k : Key), H3 a = some (.dK kvs) ∧ y = kV k ∧ kvs.length < sizeLine ∧ (∀ v, valV kvs k = some v → Q v H3) ∧ (valV kvs k = none → Q z (upd H3 a (.dK (putK kvs k z))))
def KDSd (ty tx : TE) (σ : L2.St) (Q : VK) : VK := fun x H1 => ∃ a, x = .ref a ∧ IsD H1 a ∧ ty σ H1 fun y H2 => tx σ H2 (KDSe a y Q)
theorem w_dsetd (h : td σ H (KDSd ty tx σ Q)) : tDSetd td ty tx σ H Q := h
theorem k_dsetd {a : Addr} {kvs : List (Key × V)} (e : H a = some (.dK kvs)) (h : ty σ H fun y H2 => tx σ H2 (KDSe a y Q)) : KDSd ty tx σ Q (.ref a) H := ⟨a, rfl, .inl ⟨_, .inl e⟩, h⟩
end
end
section
abbrev Cells := List (Int × Int)
def cAt (cs : Cells) (i : Int) : Option Int := (cs.find? fun c => decide (c.1 = i)).map (·.2)
def cGet (cs : Cells) (i : Int) : Int := (cAt cs i).getD 0
def cPut (cs : Cells) (i v : Int) : Cells := if (cs.any fun c => decide (c.1 = i)) = true then cs.map (fun c => if c.1 = i then (c.1, v) else c) else cs ++ [(i, v)]
def Ex.worth (g : Int) (cs : Cells) : Ex → Int
  | .num i => i
  | .arg => g
  | .cell a => cGet cs (a.worth g cs)
  | .add a b => a.worth g cs + b.worth g cs
  | .less a b => a.worth g cs - b.worth g cs
  | .least a b => if b.worth g cs < a.worth g cs then b.worth g cs else a.worth g cs
def Ex.asked (g : Int) (cs : Cells) : Ex → List Int
  | .num _ => []
  | .arg => []
  | .cell a => a.asked g cs ++ [a.worth g cs]
  | .add a b => a.asked g cs ++ b.asked g cs
  | .less a b => a.asked g cs ++ b.asked g cs
  | .least a b => a.asked g cs ++ b.asked g cs
/-- what was asked goes into a list, or nowhere -/
def akL : V → List Addr
  | .ref l => [l]
  | _ => []
def Ask (H : Hp) (ak : V) (as : Option (List Int)) : Prop := (ak = .non ∧ as = none) ∨ ∃ (l : Addr) (xs : List Int), ak = .ref l ∧ as = some xs ∧ H l = some (.lst (xs.map V.int))
theorem Ask.ne {H : Hp} {ak : V} {as : Option (List Int)} (h : Ask H ak as) {d : Addr} {kvs : List (Key × V)} (e : H d = some (.dK kvs)) : d ∉ akL ak := by
  rcases h with ⟨rfl, _⟩ | ⟨l, xs, rfl, _, hl⟩
  · simp [akL]
  · intro z
    rw [List.mem_singleton.mp z, hl] at e
    cases e
end
section
def leI (a b : Int) : Bool := decide (a ≤ b)
def srt (ks : List Int) : List Int := ks.mergeSort leI
/-- each once -/
def once : List Int → List Int
  | [] => []
  | x :: r => if x ∈ once r then once r else x :: once r
/-- sorted(set(xs)) -/
def srtD (xs : List Int) : List Int := srt (once xs)
abbrev Given := List (Str × List Int)
def gAdd (gv : Given) (x : Str) (n : Int) : Given := if (gv.any fun g => decide (g.1 = x)) = true then gv.map (fun g => if g.1 = x then (g.1, g.2 ++ [n]) else g) else gv ++ [(x, [n])]
structure Frm where
  num : Nat
  path : List Nat
  rows : List Stp
  arg : Int
  at_ : Nat
  past : Nat
  born : Nat
structure Rcd where
  path : List Nat
  past : Nat
  word : Str
  doer : Nat
  child : Option Nat
  reads : List Int
  writes : List Int
def Stp.word : Stp → Str
  | .cell _ _ => "cell"
  | .give _ _ => "give"
  | .fork _ _ => "fork"
  | .call _ _ => "call"
  | .wait => "wait"
  | .skip _ _ => "skip"
/-- the cells that a step asks -/
def Stp.asks (g : Int) (cs : Cells) : Stp → List Int
  | .cell a b => a.asked g cs ++ b.asked g cs
  | .give _ a => a.asked g cs
  | .fork _ a => a.asked g cs
  | .call _ a => a.asked g cs
  | .wait => []
  | .skip a _ => a.asked g cs
def Stp.puts (g : Int) (cs : Cells) : Stp → Cells
  | .cell a b => cPut cs (a.worth g cs) (b.worth g cs)
  | _ => cs
def Stp.writes (g : Int) (cs : Cells) : Stp → List Int
  | .cell a _ => [a.worth g cs]
  | _ => []
def Stp.gives (g : Int) (cs : Cells) (gv : Given) : Stp → Given
  | .give x a => gAdd gv x (a.worth g cs)
  | _ => gv
def Stp.jump (g : Int) (cs : Cells) : Stp → Nat
  | .skip a k => if a.worth g cs = 0 then k.toNat else 0
  | _ => 0
def Stp.makes (g : Int) (cs : Cells) : Stp → Option (Str × Int)
  | .fork x a => some (x, a.worth g cs)
  | .call x a => some (x, a.worth g cs)
  | _ => none
structure Mc where
  stack : List Frm
  cells : Cells
  given : Given
  recs : List Rcd
  deep : Nat
  many : Nat
def Prg.rows (p : Prg) (x : Str) : List Stp := ((p.find? fun r => decide (r.1 = x)).map (·.2)).getD []
/-- the next step of the topmost doing f, r below it -/
def Mc.did (p : Prg) (m : Mc) (f : Frm) (r : List Frm) (s : Stp) : Mc :=
  let f' : Frm := { f with at_ := f.at_ + 1 + s.jump f.arg m.cells, past := f.past + 1 }
  let c : Rcd := ⟨f.path, f.past, s.word, f.num, none, srtD (s.asks f.arg m.cells), s.writes f.arg m.cells⟩
  match s.makes f.arg m.cells with
  | none => { stack := f' :: r, cells := s.puts f.arg m.cells, given := s.gives f.arg m.cells m.given, recs := m.recs ++ [c], deep := m.deep, many := m.many }
  | some (x, w) => { stack := ⟨m.many, f.path ++ [f.born], p.rows x, w, 0, 0, 0⟩ :: { f' with born := f.born + 1 } :: r, cells := m.cells, given := m.given, recs := m.recs ++ [{ c with child := some m.many }], deep := max m.deep (r.length + 2), many := m.many + 1 }
/-- till all is done, or none where more steps than most would be done -/
def Mc.go (p : Prg) (most : Int) : Nat → Mc → Option Mc
  | 0, m => some m
  | n + 1, m => match m.stack with
    | [] => some m
    | f :: r => match f.rows[f.at_]? with
      | none => Mc.go p most n { m with stack := r }
      | some s => if most ≤ (m.recs.length : Int) then none else Mc.go p most n (m.did p f r s)
def Mc.size (most : Int) (m : Mc) : Nat := 2 * (most - (m.recs.length : Int)).toNat + m.stack.length
end
end Fg
namespace Fg
open PySem PySem.Spec PyProof.Rows L2
def sLt (x y : Str) : Bool := decide (x.cps.toList < y.cps.toList)
/-- a tuple of a text and one thing more -/
def IsRow (h : Heap) (v : Value) (x : Str) : Prop := ∃ (a : Addr) (o : Obj) (t : Tok) (u : Value) (n : Nat), v = .ref a ∧ h.get? a = some o ∧ o.cls = .type "tuple" ∧ o.data = .seq #[.str x t, u] n
theorem IsRow.keeps {h h' : Heap} {v : Value} {x : Str} (r : IsRow h v x) (k : ∀ b o, h.get? b = some o → o.cls = .type "tuple" → h'.get? b = some o) : IsRow h' v x := by
  obtain ⟨a, o, t, u, n, e, ho, hc, hd⟩ := r
  exact ⟨a, o, t, u, n, e, k a o ho hc, hc, hd⟩
end Fg
namespace Fg
open PySem PySem.Spec PyProof.Rows L2
abbrev I3 := Int × Int × Int
/-- a tuple of three ints -/
def IsTri (h : Heap) (v : Value) (x : I3) : Prop := ∃ (a : Addr) (o : Obj) (t1 t2 t3 : Tok) (n : Nat), v = .ref a ∧ h.get? a = some o ∧ o.cls = .type "tuple" ∧ o.data = .seq #[.int x.1 t1, .int x.2.1 t2, .int x.2.2 t3] n
theorem IsTri.keeps {h h' : Heap} {v : Value} {x : I3} (r : IsTri h v x) (k : ∀ b o, h.get? b = some o → o.cls = .type "tuple" → h'.get? b = some o) : IsTri h' v x := by
  obtain ⟨a, o, t1, t2, t3, n, e, ho, hc, hd⟩ := r
  exact ⟨a, o, t1, t2, t3, n, e, k a o ho hc, hc, hd⟩
def dlK (ks : List Int) (ls : List Addr) : List (Key × V) := (ks.zip ls).map fun x => (Sum.inl x.1, V.ref x.2)
structure DlAt (H : Hp) (a : Addr) (ks : List Int) (ls : List Addr) (f : Int → List PyData) : Prop where
  dict : H a = some (.dK (dlK ks ls))
  len : ls.length = ks.length
  nd : ks.Nodup
  ndl : (a :: ls).Nodup
  at_ : ∀ (i : Nat) (l : Addr) (c : Int), ls[i]? = some l → ks[i]? = some c → ∃ xs, H l = some (.lst xs) ∧ ImA H xs (f c)
theorem DlAt.keep {M : List Addr} {H H' : Hp} {a : Addr} {ks : List Int} {ls : List Addr} {f : Int → List PyData} (h : DlAt H a ks ls f) (c : Chg M H H') (ha : a ∉ M) (hl : ∀ l ∈ ls, l ∉ M) : DlAt H' a ks ls f :=
  ⟨c.keep _ _ h.dict ha, h.len, h.nd, h.ndl, fun i l k e1 e2 => by
    obtain ⟨xs, h1, h2⟩ := h.at_ i l k e1 e2
    exact ⟨xs, c.keep _ _ h1 (hl l (List.mem_of_getElem? e1)), h2.im c⟩⟩
theorem DlAt.same {H H' : Hp} {a : Addr} {ks : List Int} {ls : List Addr} {f : Int → List PyData} (h : DlAt H a ks ls f) (c : Chg [] H H') : DlAt H' a ks ls f := h.keep c (by simp) fun _ _ => by simp
end Fg
namespace Fg
open PySem PySem.Spec PyProof.Rows L2
/-- a tuple of ints -/
def IsPth (h : Heap) (v : Value) (x : List Int) : Prop := ∃ (a : Addr) (o : Obj) (its : List Value) (n : Nat), v = .ref a ∧ h.get? a = some o ∧ o.cls = .type "tuple" ∧ o.data = .seq its.toArray n ∧ IntsAre its x
theorem IsPth.keeps {h h' : Heap} {v : Value} {x : List Int} (r : IsPth h v x) (k : ∀ b o, h.get? b = some o → o.cls = .type "tuple" → h'.get? b = some o) : IsPth h' v x := by
  obtain ⟨a, o, its, n, e, ho, hc, hd, hi⟩ := r
  exact ⟨a, o, its, n, e, k a o ho hc, hc, hd, hi⟩
theorem ints_at' {its : List Value} {x : List Int} (h : IntsAre its x) (j : Nat) (hj : j < its.length) : ∃ t, its[j] = .int (x.getD j 0) t := by
  obtain ⟨t, e⟩ := PyProof.Rows.IntsAre.int_at h j its[j] (List.getElem?_eq_getElem hj)
  exact ⟨t, e⟩
theorem paired_at {α β : Type} {F : α → β → Prop} : ∀ {l : List α} {m : List β}, Paired F l m → ∀ {i : Nat} {a : α}, l[i]? = some a → ∃ b, m[i]? = some b ∧ F a b
  | _, _, .nil, i, a, h => by cases h
  | _, _, .cons f t, 0, a, h => by
    cases h
    exact ⟨_, rfl, f⟩
  | _, _, .cons f t, i + 1, a, h => paired_at t (i := i) h
theorem ints_uniq {its : List Value} {x y : List Int} (h : IntsAre its x) (k : IntsAre its y) : x = y := by
  have l1 := PyProof.Rows.IntsAre.length h
  have l2 := PyProof.Rows.IntsAre.length k
  refine List.ext_getElem (by omega) fun j h1 h2 => ?_
  obtain ⟨t, e⟩ := ints_at' h j (by omega)
  obtain ⟨u, e2⟩ := ints_at' k j (by omega)
  rw [e] at e2
  have e3 := (Value.int.inj e2).1
  rw [List.getD_eq_getElem?_getD, List.getD_eq_getElem?_getD, List.getElem?_eq_getElem h1, List.getElem?_eq_getElem h2] at e3
  exact e3
theorem IsPth.uniq {h : Heap} {v : Value} {x y : List Int} (a : IsPth h v x) (b : IsPth h v y) : x = y := by
  obtain ⟨a1, o, its, n, rfl, ho, hc, hd, hi⟩ := a
  obtain ⟨a2, o2, its2, n2, e, ho2, hc2, hd2, hi2⟩ := b
  cases e
  rw [ho] at ho2
  cases (Option.some.inj ho2)
  rw [hd] at hd2
  have e : its.toArray = its2.toArray := by injection hd2
  have e2 : its = its2 := by simpa using e
  subst e2
  exact ints_uniq hi hi2
end Fg
namespace Fg
open PySem PySem.Spec PyProof.Rows L2
def repS (z : Str) (n : Nat) : Str := ⟨(List.replicate n z.cps).foldl (· ++ ·) #[]⟩
def rMulS : R2 := fun x y H Q => ∃ (z : Str) (n : Nat), x = .str z ∧ y = .int (n : Nat) ∧ 2 ≤ n ∧ n ≤ 1000 ∧ 1 ≤ z.length ∧ z.length ≤ 1000 ∧ (repS z n).length ≤ sizeLine ∧ Q (.str (repS z n)) H
theorem p_mulS {X : Cx} : OpR X (binaryOp .Mult) rMulS := by
  intro pins s σ H x y v u Q I rx ry h
  obtain ⟨z, n, rfl, rfl, h2, hn, hz, hz1, hl, q⟩ := h
  obtain ⟨t, rfl⟩ := rx
  obtain ⟨t', rfl⟩ := ry
  have h1 : ¬ ((n : Nat) : Int) < 1 := by omega
  have hne : (((n : Nat) : Int) == 1 || z.length == 0) = false := by
    rw [Bool.or_eq_false_iff]
    exact ⟨by rw [beq_eq_false_iff_ne]; omega, by rw [beq_eq_false_iff_ne]; omega⟩
  refine PySem.P.mul_str (by
      have a1 : ¬ ((n : Nat) : Int) < -(2 ^ 63 : Int) := by omega
      have a2 : ¬ ((n : Nat) : Int) ≥ 2 ^ 63 := by omega
      rw [decide_eq_false a1, decide_eq_false a2]; rfl) (fun _ _ => ?_) (fun _ _ => ?_) ?_
  · have : (1000 : Int) ≤ (2 ^ 63 - 1) / ((n : Nat) : Int) := by
      rw [Int.le_ediv_iff_mul_le (by omega)]
      omega
    omega
  · have : z.length * n ≤ 1000 * 1000 := Nat.mul_le_mul hz1 hn
    rw [Int.toNat_natCast]
    exact decide_eq_false (by have := (show 1000 * 1000 ≤ sizeLine by decide); omega)
  · rw [if_neg h1, if_neg (by rw [hne]; decide)]
    rw [Int.toNat_natCast]
    exact ⟨hl, ⟨.str _, H, I.tok _, ⟨_, rfl⟩, q⟩⟩
theorem w_mulS {z : Str} {n : Nat} {H : Hp} {Q : VK} (h2 : 2 ≤ n) (hn : n ≤ 1000) (hz : 1 ≤ z.length) (hz1 : z.length ≤ 1000) (hl : (repS z n).length ≤ sizeLine) (q : Q (.str (repS z n)) H) : rMulS (.str z) (.int (n : Nat)) H Q := ⟨z, n, rfl, rfl, h2, hn, hz, hz1, hl, q⟩
abbrev SI := Str × Int
def ltSI (a b : SI) : Bool := if a.1 = b.1 then decide (a.2 < b.2) else sLt a.1 b.1
theorem sLt_tot (a b : Str) (h1 : sLt a b = false) (h2 : sLt b a = false) : a = b := by
  have h1 := of_decide_eq_false h1
  have h2 := of_decide_eq_false h2
  have h3 : a.cps.toList ≤ b.cps.toList := List.not_lt.mp h2
  rcases List.le_iff_lt_or_eq.mp h3 with z | z
  · exact absurd z h1
  · cases a with
    | mk a =>
      cases b with
      | mk b => rw [show a = b from Array.toList_inj.mp z]
theorem sLt_neg (a b c : Str) (h1 : sLt a b = false) (h2 : sLt b c = false) : sLt a c = false := by
  have a := of_decide_eq_false h1
  have b := of_decide_eq_false h2
  exact decide_eq_false (List.not_lt.mpr (List.le_trans (List.not_lt.mp b) (List.not_lt.mp a)))
theorem sLt_asym (a b : Str) (h : sLt a b = true) : sLt b a = false := decide_eq_false (fun z => List.lt_irrefl _ (List.lt_trans (of_decide_eq_true h) z))
theorem ltSI_neg (a b c : SI) (h1 : ltSI a b = false) (h2 : ltSI b c = false) : ltSI a c = false := by
  unfold ltSI at h1 h2 ⊢
  by_cases e1 : a.1 = b.1
  · rw [if_pos e1] at h1
    by_cases e2 : b.1 = c.1
    · rw [if_pos e2] at h2
      rw [if_pos (e1.trans e2)]
      have := of_decide_eq_false h1
      have := of_decide_eq_false h2
      exact decide_eq_false (by omega)
    · rw [if_neg e2] at h2
      rw [if_neg (fun z => e2 (e1.symm.trans z)), e1]
      exact h2
  · rw [if_neg e1] at h1
    by_cases e2 : b.1 = c.1
    · rw [← e2, if_neg e1]
      exact h1
    · rw [if_neg e2] at h2
      by_cases e3 : a.1 = c.1
      · rw [← e3] at h2
        exact absurd (sLt_tot _ _ h1 h2) e1
      · rw [if_neg e3]
        exact sLt_neg _ _ _ h1 h2
theorem ltSI_swo {α : Type} (k : α → SI) : SrtO.Swo fun v u => ltSI (k v) (k u) := by
  refine ⟨fun x y h => ?_, fun x y z h1 h2 => ?_⟩
  · unfold ltSI at h ⊢
    by_cases e : (k x).1 = (k y).1
    · rw [if_pos e] at h
      rw [if_pos e.symm]
      have := of_decide_eq_true h
      exact decide_eq_false (by omega)
    · rw [if_neg e] at h
      rw [if_neg (fun z => e z.symm)]
      exact sLt_asym _ _ h
  · exact ltSI_neg _ _ _ h2 h1
theorem ltSI_tot (a b : SI) (h1 : ltSI a b = false) (h2 : ltSI b a = false) : a = b := by
  unfold ltSI at h1 h2
  by_cases e : a.1 = b.1
  · rw [if_pos e] at h1
    rw [if_pos e.symm] at h2
    have := of_decide_eq_false h1
    have := of_decide_eq_false h2
    exact Prod.ext e (by omega)
  · rw [if_neg e] at h1
    rw [if_neg (fun z => e z.symm)] at h2
    exact absurd (sLt_tot _ _ h1 h2) e
def IsSI (h : Heap) (v : Value) (x : SI) : Prop := ∃ (a : Addr) (o : Obj) (t u : Tok) (n : Nat), v = .ref a ∧ h.get? a = some o ∧ o.cls = .type "tuple" ∧ o.data = .seq #[.str x.1 t, .int x.2 u] n
theorem IsSI.keeps {h h' : Heap} {v : Value} {x : SI} (r : IsSI h v x) (k : ∀ b o, h.get? b = some o → o.cls = .type "tuple" → h'.get? b = some o) : IsSI h' v x := by
  obtain ⟨a, o, t, u, n, e, ho, hc, hd⟩ := r
  exact ⟨a, o, t, u, n, e, k a o ho hc, hc, hd⟩
theorem IsSI.uniq {h : Heap} {v : Value} {x y : SI} (a : IsSI h v x) (b : IsSI h v y) : x = y := by
  obtain ⟨a1, o, t, u, n, rfl, ho, hc, hd⟩ := a
  obtain ⟨a2, o2, t2, u2, n2, e, ho2, hc2, hd2⟩ := b
  cases e
  rw [ho] at ho2
  cases (Option.some.inj ho2)
  rw [hd] at hd2
  have e : (#[.str x.1 t, .int x.2 u] : Array Value) = #[.str y.1 t2, .int y.2 u2] := by injection hd2
  have e2 : ([.str x.1 t, .int x.2 u] : List Value) = [.str y.1 t2, .int y.2 u2] := by simpa using e
  injection e2 with e3 e4
  injection e4 with e5 _
  injection e3 with e6 _
  injection e5 with e7 _
  exact Prod.ext e6 e7
open Classical in
noncomputable def siOf (h : Heap) (v : Value) : SI := if q : ∃ x, IsSI h v x then q.choose else ("", 0)
theorem siOf_eq {h : Heap} {v : Value} {x : SI} (p : IsSI h v x) : siOf h v = x := by
  unfold siOf
  rw [dif_pos ⟨x, p⟩]
  exact (Exists.choose_spec (⟨x, p⟩ : ∃ x, IsSI h v x)).uniq p
theorem isSI_of {P : Program} {w : World} {H : Hp} {h : Heap} {b : Addr} {x : SI} (ok : HOk P w H h) (e : H b = some (.tup [.str x.1, .int x.2])) : IsSI h (.ref b) x := by
  obtain ⟨_, its2, r2, o, ho, hc, n, hd⟩ := ok _ _ e
  obtain ⟨u1, u2, rfl, ri, rj⟩ := vals2 r2
  obtain ⟨t1, rfl⟩ := ri
  obtain ⟨t2, rfl⟩ := rj
  exact ⟨b, o, t1, t2, n, rfl, ho, hc, hd⟩
theorem si_firsts {h : Heap} {k : Value → SI} : ∀ {vs : List Value}, (∀ v ∈ vs, IsSI h v (k v)) → ∃ fs, PySem.W.KatTups h vs fs ∧ fs.length = vs.length ∧ ∀ f ∈ fs, ∃ x t, f = Value.str x t
  | [], _ => ⟨[], PySem.W.KatTups.nil, rfl, fun f hf => by simp at hf⟩
  | v :: vs, hv => by
    obtain ⟨fs, h1, h2, h3⟩ := si_firsts fun u hu => hv u (List.mem_cons_of_mem _ hu)
    obtain ⟨a, o, t, u, n, rfl, ho, hc, hd⟩ := hv v List.mem_cons_self
    refine ⟨_ :: fs, PySem.W.KatTups.cons ho hc hd rfl h1, by simp [h2], fun f hf => ?_⟩
    rcases List.mem_cons.mp hf with rfl | hf
    · exact ⟨_, _, rfl⟩
    · exact h3 f hf
section
variable {prog : Program} {w : World} {A : Around} {s : Shared}
theorem si_cmp {vs : List Value} {k : Value → SI} (hp : ∀ v ∈ vs, IsSI s.heap v (k v)) : SrtO.Cmp prog w A s (tuples' true) (fun p => p.1 ∈ vs) (SrtO.lt2 fun v u => ltSI (k v) (k u)) := by
  intro p q hm hm'
  show wpAny (model prog w) A (keyLt' (tuples' true) p.1 q.1) (fun r s' => s' = s ∧ r = ltSI (k p.1) (k q.1)) (fun _ _ => False) s
  obtain ⟨a, o, t, u, n, e1, ho, hc, hd⟩ := hp _ hm
  obtain ⟨a', o', t', u', n', e2, ho', hc', hd'⟩ := hp _ hm'
  generalize k p.1 = x at *
  generalize k q.1 = y at *
  obtain ⟨x1, x2⟩ := x
  obtain ⟨y1, y2⟩ := y
  rw [e1, e2]
  refine PySem.W.kat_lt ho hd ho' hd' ?_
  show PySem.W.KatLex prog w A true (decide (2 < 2)) _ [(.str x1 t, .str y1 t'), (.int x2 u, .int y2 u')] 0 s
  refine PySem.W.kat_cons (wpAny_eqBool_str ?_)
  by_cases h1 : x1 = y1
  · rw [decide_eq_true h1]
    refine PySem.W.kat_yes (PySem.W.kat_cons (wpAny_eqBool_int ?_))
    by_cases h2 : x2 = y2
    · rw [beq_iff_eq.mpr h2]
      refine PySem.W.kat_yes (PySem.W.kat_nil ⟨rfl, ?_⟩)
      unfold ltSI
      rw [if_pos h1]
      exact (decide_eq_false (by omega)).symm
    · rw [beq_eq_false_iff_ne.mpr h2]
      refine PySem.W.kat_no (oneLt_any_int ⟨rfl, ?_⟩)
      unfold ltSI
      rw [if_pos h1]
  · rw [decide_eq_false h1]
    refine PySem.W.kat_no (oneLt_str ⟨rfl, ?_⟩)
    unfold ltSI
    rw [if_neg h1]
    rfl
theorem si_sortable {a : Addr} {vs : List Value} {k : Value → SI} (h0 : 0 < vs.length) (hp : ∀ v ∈ vs, IsSI s.heap v (k v)) (ha : ∀ o, s.heap.get? a = some o → o.cls ≠ .type "tuple") : SrtO.SortableO prog w A s a vs fun v u => ltSI (k v) (k u) := by
  intro h' keep
  have hp' : ∀ v ∈ vs, IsSI h' v (k v) := fun v hm => (hp v hm).keeps fun b o e c => keep b o (fun z => by subst z; exact ha o e c) e
  obtain ⟨fs, h1, h2, h3⟩ := si_firsts hp'
  refine ⟨tuples' true, fun Q E hq => ?_, si_cmp (s := { s with heap := h' }) hp'⟩
  refine PySem.W.kat_kind (T := .type "str") h1 (by omega) (fun f hm => ?_) (by rfl) ?_
  · obtain ⟨x, t, rfl⟩ := h3 f hm
    exact PySem.W.Looks.now
  · have e : (Value.type "str" != Value.type "tuple") = true := by first | decide +kernel | rfl | decide
    rw [e]
    exact hq
end
def encSI (k : SI) : List Key := [Sum.inr k.1, Sum.inl k.2]
def rSortSI : List V → Hp → VK → Prop := fun vs H Q => ∃ (a : Addr) (kvs : List (List Key × V)) (ks : List SI), vs = [.ref a] ∧ H a = some (.dT kvs) ∧ kvs.map (·.1) = ks.map encSI ∧ ks.length ≤ 1000 ∧
  ∀ (ys : List SI) (bs : List Addr) p, ys.Perm ks → ys.Pairwise (fun x y => ltSI y x = false) → Paired (fun b (y : SI) => H b = some (.tup [.str y.1, .int y.2])) bs ys → H p = none → Q (.ref p) (upd H p (.lst (bs.map V.ref)))
section
variable {X : Cx}
theorem p_sortSI (hc : X.calm = true) (hu : X.A.units + 9 < cLine) : CallR X (.builtin "sorted") rSortSI := by
  intro pins s σ H xs us Q I r h
  obtain ⟨d, kvs, ks, rfl, hd, hks, kn, q⟩ := h
  obtain ⟨u, rfl, rx⟩ := r.one
  cases rx
  obtain ⟨z, hs, xs, pr, o, es, ep, ho, hx, hdt, he, hn⟩ := (show ObjOk X.prog X.w H s.heap d (.dT kvs) from I.hok d _ hd)
  have l1 : es.size = xs.length := size_of_entries he
  have l2 : kvs.length = xs.length := Paired.length pr
  have l3 : kvs.length = ks.length := by simpa using congrArg List.length hks
  refine Calls.call_function_entry PyProof.Rows.kind_sorted PyProof.Rows.plain_sorted PyProof.Rows.entry_sorted (PyProof.Rows.args_sorted1 _) ?_
  unfold Builtin.«sorted»
  refine wpAny_bind (m := checkCount "sorted" 1 1 _) (wpAny_pure ?_)
  refine wpAny_bind (PySem.W.kdu_collect (A := X.A.in1) (kdl_raw hs hx hdt) (I.ok.hd hc) ho (by omega) fun h' tk acc hk hacc => ?_)
  have ea : acc.toList = xs.map fun x => Value.ref x.2.1 := by
    have hl : acc.toList.length = xs.length := by rw [Array.length_toList, hacc.1]; exact l1
    apply List.ext_getElem?
    intro j
    rw [List.getElem?_map]
    cases hj : acc.toList[j]? with
    | none =>
      have h1 := List.getElem?_eq_none_iff.mp hj
      rw [List.getElem?_eq_none (by omega)]
      all_goals rfl
    | some v =>
      obtain ⟨en, hen, hv⟩ := hacc.2 j v (by rw [← Array.getElem?_toList]; exact hj)
      have qe := entry_at he j
      rw [hen] at qe
      cases hb : xs[j]? with
      | none =>
        rw [hb] at qe
        exact nomatch (show some en = none from qe)
      | some b =>
        rw [hb] at qe
        have e2 : en = entryOfKey (tupleKind (mixKind X.prog X.w)) b := Option.some.inj qe
        rw [hv, e2]
        all_goals rfl
  have I1 : Inv X pins σ H { s with heap := h', toks := tk } := I.kept hk
  -- the addresses with their paths
  have pz : Paired (fun (b : Addr) (y : SI) => H b = some (.tup [.str y.1, .int y.2])) (xs.map fun x => x.2.1) ks := by
    clear ea hacc he hn l1 l2 l3 kn z q hd
    have pr : Paired (fun (p : List Key × V) (q : List Key × Addr × Value) => p.1 = q.1 ∧ H q.2.1 = some (.tup (p.1.map kV)) ∧ RelV p.2 q.2.2) kvs xs := pr
    induction pr generalizing ks with
    | nil =>
      cases ks with
      | nil => exact .nil
      | cons _ _ => cases hks
    | cons h t ih =>
      cases ks with
      | nil => cases hks
      | cons k ks =>
        rw [List.map_cons, List.map_cons] at hks
        obtain ⟨e1, e2⟩ := List.cons.inj hks
        refine .cons ?_ (ih _ e2 t)
        have := h.2.1
        rw [e1] at this
        exact this
  have hp : ∀ v ∈ acc.toList, IsSI h' v (siOf h' v) := fun v hv => by
    rw [ea] at hv
    obtain ⟨x, hx, rfl⟩ := List.mem_map.mp hv
    obtain ⟨i, hi⟩ := List.getElem?_of_mem hx
    obtain ⟨y, e1, e2⟩ := paired_at pz (i := i) (a := x.2.1) (by rw [List.getElem?_map, hi]; rfl)
    have := isSI_of I1.hok e2
    rw [siOf_eq this]
    exact this
  have hal : acc.toList.length = xs.length := by rw [ea, List.length_map]
  refine wpAny_bind (wpAny_newList ?_ (by rw [hal]; omega))
  have hoL : (h'.push (seqObj "list" acc.toList.toArray 0)).get? h'.objs.size = some (seqObj "list" acc.toList.toArray 0) := Heap.get?_push_size _ rfl
  show wpAny _ _ _ _ _ { s with heap := h'.push (seqObj "list" acc.toList.toArray 0), toks := tk }
  refine wpAny_bind (wpAny_holding (wpAny_call_entry PyProof.Rows.slot_list_sort ⟨_, hoL, rfl⟩ PyProof.Rows.entry_list_sort
    (SrtO.list_sort_ord (ltSI_swo (siOf h')) hoL (by rw [hal]; omega) (fun h2 => ?_) fun out h1 h2 => ⟨_, rfl, ?_⟩) (PyProof.Rows.args_list_sort _)))
  · refine si_sortable (by omega) (fun v hm => (hp v hm).keeps fun b o e _ => Heap.get?_push_of_some _ e) fun o e => ?_
    have e' : some o = some (seqObj "list" acc.toList.toArray 0) := e.symm.trans hoL
    cases e'
    intro c
    exact absurd (Value.type.inj c) (by decide)
  · have hm : ∀ v ∈ out, v ∈ acc.toList := fun v hv => h2.perm.mem_iff.mp hv
    have hb : ∀ v ∈ out, ∃ a, v = Value.ref a := fun v hv => by
      have := hm v hv
      rw [ea] at this
      obtain ⟨x, _, rfl⟩ := List.mem_map.mp this
      exact ⟨_, rfl⟩
    obtain ⟨e', he'⟩ := PyProof.Rows.sortedHeap_at (vs := acc.toList) (out := out.toArray) hoL
    have hlen : (out.map backV).length ≤ sizeLine := by
      rw [List.length_map, h2.perm.length_eq, hal]
      omega
    obtain ⟨bs, ebs⟩ : ∃ bs : List Addr, out = bs.map Value.ref := by
      clear h1 h2 he' hlen hm
      induction out with
      | nil => exact ⟨[], rfl⟩
      | cons v r ih =>
        obtain ⟨a, rfl⟩ := hb v List.mem_cons_self
        obtain ⟨bs, e⟩ := ih fun u hu => hb u (List.mem_cons_of_mem _ hu)
        exact ⟨a :: bs, by rw [e]; rfl⟩
    have ebv : out.map backV = bs.map V.ref := by rw [ebs, List.map_map]; rfl
    have kpm : (out.map (siOf h')).Perm ks := by
      refine (h2.perm.map (siOf h')).trans ?_
      rw [ea]
      have : ∀ {as : List Addr} {ks : List SI}, Paired (fun (b : Addr) (y : SI) => H b = some (.tup [.str y.1, .int y.2])) as ks → (as.map Value.ref).map (siOf h') = ks := by
        intro as ks h
        induction h with
        | nil => rfl
        | cons a t ih => rw [List.map_cons, List.map_cons, ih, siOf_eq (isSI_of I1.hok a)]
      have e := this pz
      rw [List.map_map] at e
      rw [← e]
      rw [List.map_map, List.map_map]
      exact List.Perm.refl _
    refine wpAny_pure ⟨_, rfl, .ref h'.objs.size, upd H h'.objs.size (.lst (out.map backV)), I1.laid (t' := tk) (fun b u e => ?_) (Nat.le_refl _)
      (show ObjOk X.prog X.w _ _ _ (.lst (out.map backV)) from ⟨hlen, out, e', vals_back hb, he'⟩), rfl, ?_⟩
    · have hb : b < h'.objs.size := Heap.lt_size e
      rw [PyProof.Rows.sortedHeap_old (Nat.ne_of_lt hb) (by rw [size_push']; exact Nat.lt_succ_of_lt hb)]
      exact Heap.get?_push_of_some _ e
    · rw [ebv]
      refine q (out.map (siOf h')) bs _ kpm (List.pairwise_map.mpr (h1.imp fun {x y} z => z)) ?_ (I1.hok.fresh (Nat.le_refl _))
      have : ∀ {l : List Addr}, (∀ a ∈ l, Value.ref a ∈ acc.toList) → Paired (fun b (y : SI) => H b = some (.tup [.str y.1, .int y.2])) l ((l.map Value.ref).map (siOf h')) := by
        intro l hl
        induction l with
        | nil => exact .nil
        | cons a r ih =>
          refine .cons ?_ (ih fun b hb => hl b (List.mem_cons_of_mem _ hb))
          have hm := hl a List.mem_cons_self
          rw [ea] at hm
          obtain ⟨x, hx, e⟩ := List.mem_map.mp hm
          cases e
          obtain ⟨i, hi⟩ := List.getElem?_of_mem hx
          obtain ⟨y, e1, e2⟩ := paired_at pz (i := i) (a := x.2.1) (by rw [List.getElem?_map, hi]; rfl)
          rw [siOf_eq (isSI_of I1.hok e2)]
          exact e2
      rw [ebs]
      exact this fun a ha => hm _ (by rw [ebs]; exact List.mem_map.mpr ⟨a, ha, rfl⟩)
end
end Fg
namespace Fg
open PySem PySem.Spec PyProof.Rows L2
section
def rowDP (r : RowP) : PyData := .tuple [.str r.1, .list r.2]
def prgDP (rs : List RowP) : PyData := .list (rs.map rowDP)
theorem wrongAt_spec {ns : List Str} : ∀ {ds : List PyData} {g : Nat → Bool} (k : Nat), (∀ (j : Nat) d, ds[j]? = some d → isStep ns ((ds.length : Int) - 1 - j) d = g j) →
    ((∀ j, j < ds.length → g j = true) → wrongAt ns k ds = none) ∧ ∀ j0, j0 < ds.length → g j0 = false → (∀ j, j < j0 → g j = true) → wrongAt ns k ds = some (k + j0)
  | [], g, k, _ => ⟨fun _ => rfl, fun j0 h => absurd h (by simp)⟩
  | d :: ds, g, k, h => by
    have h0 := h 0 d rfl
    have e0 : (((d :: ds).length : Nat) : Int) - 1 - ((0 : Nat) : Int) = (ds.length : Int) := by rw [List.length_cons]; omega
    rw [e0] at h0
    have ih := wrongAt_spec (ds := ds) (g := fun j => g (j + 1)) (k + 1) fun j e he => by
      have := h (j + 1) e he
      rw [← this]
      congr 1
      rw [List.length_cons]
      omega
    constructor
    · intro hg
      show (if isStep ns (ds.length : Int) d = true then wrongAt ns (k + 1) ds else some k) = none
      rw [h0, if_pos (hg 0 (by simp))]
      exact ih.1 fun j hj => hg (j + 1) (by rw [List.length_cons]; omega)
    · intro j0 hj hb hl
      show (if isStep ns (ds.length : Int) d = true then wrongAt ns (k + 1) ds else some k) = some (k + j0)
      cases j0 with
      | zero => rw [h0, if_neg (by rw [hb]; decide)]; rfl
      | succ j0 =>
        rw [h0, if_pos (hl 0 (by omega)), ih.2 j0 (by rw [List.length_cons] at hj; omega) hb fun j hj => hl (j + 1) (by omega)]
        congr 1
        omega
theorem ltS_trans {a b c : Str} (h1 : ltS a b = true) (h2 : ltS b c = true) : ltS a c = true := decide_eq_true (List.lt_trans (of_decide_eq_true h1) (of_decide_eq_true h2))
theorem ltS_ne {a b : Str} (h : ltS a b = true) : a ≠ b := fun e => by
  rw [e] at h
  exact List.lt_irrefl _ (of_decide_eq_true h)
theorem rising_head {r : RowP} : ∀ {rs : List RowP}, rising ((r :: rs).map (·.1)) = true → ∀ s ∈ rs, ltS r.1 s.1 = true
  | [], _, s, h => by cases h
  | t :: rs, up, s, h => by
    obtain ⟨u1, u2⟩ := Bool.and_eq_true_iff.mp (show (ltS r.1 t.1 && rising ((t :: rs).map (·.1))) = true from up)
    rcases List.mem_cons.mp h with e | h
    · rw [e]; exact u1
    · exact ltS_trans u1 (rising_head u2 s h)
/-- in each row just the places that B tells are bad -/
def Marked (ns : List Str) (B : Str → Nat → Bool) (rs : List RowP) : Prop := ∀ r ∈ rs, ∀ (j : Nat) d, r.2[j]? = some d → isStep ns ((r.2.length : Int) - 1 - j) d = !B r.1 j
theorem wrongIn_cons (ns : List Str) (r : RowP) (rs : List RowP) : wrongIn ns ((r :: rs).map rowDP) = match wrongAt ns 0 r.2 with
    | some k => some (r.1, k)
    | none => wrongIn ns (rs.map rowDP) := rfl
theorem wrongIn_none {ns : List Str} {B : Str → Nat → Bool} : ∀ {rs : List RowP}, Marked ns B rs → (∀ r ∈ rs, ∀ j, j < r.2.length → B r.1 j = false) → wrongIn ns (rs.map rowDP) = none
  | [], _, _ => rfl
  | r :: rs, m, h => by
    rw [wrongIn_cons, (wrongAt_spec (ns := ns) (g := fun j => !B r.1 j) 0 (m r (by simp))).1 fun j hj => by rw [h r (by simp) j hj]; rfl]
    exact wrongIn_none (fun s hs => m s (List.mem_cons_of_mem _ hs)) fun s hs => h s (List.mem_cons_of_mem _ hs)
theorem wrongIn_at {ns : List Str} {B : Str → Nat → Bool} {x : Str} {j0 : Nat} : ∀ {rs : List RowP}, Marked ns B rs → rising (rs.map (·.1)) = true → (∃ r ∈ rs, r.1 = x ∧ j0 < r.2.length) → B x j0 = true → (∀ j, j < j0 → B x j = false) →
    (∀ r ∈ rs, ltS r.1 x = true → ∀ j, j < r.2.length → B r.1 j = false) → wrongIn ns (rs.map rowDP) = some (x, j0)
  | [], _, _, ⟨r, h, _⟩, _, _, _ => by cases h
  | r :: rs, m, up, hr, hb, hl, he => by
    have m' : Marked ns B rs := fun s hs => m s (List.mem_cons_of_mem _ hs)
    have up' : rising (rs.map (·.1)) = true := by
      cases rs with
      | nil => rfl
      | cons s t => exact (Bool.and_eq_true_iff.mp (show (ltS r.1 s.1 && rising ((s :: t).map (·.1))) = true from up)).2
    by_cases e : r.1 = x
    · obtain ⟨s, hs, es, ls⟩ := hr
      have lr : j0 < r.2.length := by
        rcases List.mem_cons.mp hs with h | h
        · rw [← h]; exact ls
        · exact absurd (e.trans es.symm) (ltS_ne (rising_head up s h))
      rw [wrongIn_cons, (wrongAt_spec (ns := ns) (g := fun j => !B r.1 j) 0 (m r (by simp))).2 j0 lr (by rw [e, hb]; rfl) fun j hj => by rw [e, hl j hj]; rfl]
      rw [Nat.zero_add, e]
    · have hr' : ∃ s ∈ rs, s.1 = x ∧ j0 < s.2.length := by
        obtain ⟨s, hs, es, ls⟩ := hr
        rcases List.mem_cons.mp hs with h | h
        · rw [h] at es; exact absurd es e
        · exact ⟨s, h, es, ls⟩
      obtain ⟨s, hs, es, _⟩ := id hr'
      have hlt : ltS r.1 x = true := by rw [← es]; exact rising_head up s hs
      rw [wrongIn_cons, (wrongAt_spec (ns := ns) (g := fun j => !B r.1 j) 0 (m r (by simp))).1 fun j hj => by rw [he r (by simp) hlt j hj]; rfl]
      exact wrongIn_at m' up' hr' hb hl fun s hs => he s (List.mem_cons_of_mem _ hs)
theorem ltS_sLt (a b : Str) : ltS a b = sLt a b := rfl
/-- the bad places in their order: the first one is told -/
theorem first_of {ns : List Str} {rs : List RowP} {y0 : SI} {ys : List SI} (m : Marked ns (fun x j => decide ((x, (j : Int)) ∈ y0 :: ys)) rs) (up : rising (rs.map (·.1)) = true) (nn : ∀ r ∈ rs, nameS r.1 = true) (en : rs.map (·.1) = ns)
    (so : ∀ y ∈ ys, ltSI y0 y = true) {j0 : Nat} (e0 : y0.2 = (j0 : Int)) (hr : ∃ r ∈ rs, r.1 = y0.1 ∧ j0 < r.2.length) : firstWrong (prgDP rs) = some (some (y0.1, j0)) := by
  have hf : hasForm (prgDP rs) = true := by
    show ((rs.map rowDP).all rowOk && rising ((rs.map rowDP).map rowName)) = true
    rw [List.map_map, show (rowName ∘ rowDP) = (fun r : RowP => r.1) from rfl, up, Bool.and_true, List.all_map]
    exact List.all_eq_true.mpr fun r hr => nn r hr
  unfold firstWrong
  rw [if_pos hf]
  show (wrongIn ((rs.map rowDP).map rowName) (rs.map rowDP)).map some = _
  rw [List.map_map, show (rowName ∘ rowDP) = (fun r : RowP => r.1) from rfl, en]
  obtain ⟨x0, i0⟩ := y0
  simp only at e0
  subst e0
  rw [wrongIn_at m up hr (decide_eq_true List.mem_cons_self) (fun j hj => decide_eq_false fun hm => ?_) fun r _ hl j _ => decide_eq_false fun hm => ?_]
  · rfl
  · rcases List.mem_cons.mp hm with e | hm
    · have := (Prod.ext_iff.mp e).2
      simp only at this
      omega
    · have := so _ hm
      unfold ltSI at this
      rw [if_pos rfl] at this
      have := of_decide_eq_true this
      simp only at this
      omega
  · have hl : ltS r.1 x0 = true := hl
    rcases List.mem_cons.mp hm with e | hm
    · have := (Prod.ext_iff.mp e).1
      exact ltS_ne hl this
    · have h2 := so _ hm
      unfold ltSI at h2
      rw [if_neg (fun z => ltS_ne hl z.symm)] at h2
      have h3 : sLt x0 r.1 = true := h2
      have := sLt_asym _ _ h3
      rw [ltS_sLt] at hl
      rw [hl] at this
      cases this
theorem none_of {ns : List Str} {rs : List RowP} (m : Marked ns (fun _ _ => false) rs) (up : rising (rs.map (·.1)) = true) (nn : ∀ r ∈ rs, nameS r.1 = true) (en : rs.map (·.1) = ns) : firstWrong (prgDP rs) = none := by
  have hf : hasForm (prgDP rs) = true := by
    show ((rs.map rowDP).all rowOk && rising ((rs.map rowDP).map rowName)) = true
    rw [List.map_map, show (rowName ∘ rowDP) = (fun r : RowP => r.1) from rfl, up, Bool.and_true, List.all_map]
    exact List.all_eq_true.mpr fun r hr => nn r hr
  unfold firstWrong
  rw [if_pos hf]
  show (wrongIn ((rs.map rowDP).map rowName) (rs.map rowDP)).map some = _
  rw [List.map_map, show (rowName ∘ rowDP) = (fun r : RowP => r.1) from rfl, en, wrongIn_none m fun _ _ _ _ => rfl]
  rfl
structure Mix (ns : List Str) (rs0 rs : List RowP) (P : Nat → Nat → Prop) : Prop where
  len : rs.length = rs0.length
  row : ∀ a r0 r, rs0[a]? = some r0 → rs[a]? = some r → r.1 = r0.1 ∧ r.2.length = r0.2.length ∧ ∀ (c : Nat) d0 d, r0.2[c]? = some d0 → r.2[c]? = some d → (¬ P a c → d = d0) ∧ (P a c → isStep ns ((r.2.length : Int) - 1 - c) d = false ∧ smallD d = true)
theorem Mix.refl {ns : List Str} {rs : List RowP} {P : Nat → Nat → Prop} (h : ∀ a c, ¬ P a c) : Mix ns rs rs P :=
  ⟨rfl, fun a r0 r e1 e2 => by
    rw [e1] at e2
    cases e2
    exact ⟨rfl, rfl, fun c d0 d f1 f2 => by rw [f1] at f2; cases f2; exact ⟨fun _ => rfl, fun z => absurd z (h a c)⟩⟩⟩
theorem Mix.imp {ns : List Str} {rs0 rs : List RowP} {P P' : Nat → Nat → Prop} (m : Mix ns rs0 rs P) (h : ∀ a c, (∃ r0, rs0[a]? = some r0 ∧ c < r0.2.length) → (P a c ↔ P' a c)) : Mix ns rs0 rs P' :=
  ⟨m.len, fun a r0 r e1 e2 => by
    obtain ⟨h1, h2, h3⟩ := m.row a r0 r e1 e2
    refine ⟨h1, h2, fun c d0 d f1 f2 => ?_⟩
    have hc := h a c ⟨r0, e1, (List.getElem?_eq_some_iff.mp f1).1⟩
    obtain ⟨g1, g2⟩ := h3 c d0 d f1 f2
    exact ⟨fun z => g1 fun w => z (hc.mp w), fun z => g2 (hc.mpr z)⟩⟩
def putR (rs : List RowP) (a c : Nat) (r : RowP) (d : PyData) : List RowP := rs.set a (r.1, r.2.set c d)
/-- one place is put otherwise -/
theorem Mix.put {ns : List Str} {rs0 rs : List RowP} {P : Nat → Nat → Prop} {a c : Nat} {r : RowP} {d : PyData} (m : Mix ns rs0 rs P) (er : rs[a]? = some r) (bad : isStep ns ((r.2.length : Int) - 1 - c) d = false) (sm : smallD d = true) : Mix ns rs0 (putR rs a c r d) (fun i j => P i j ∨ (i = a ∧ j = c)) where
  len := by unfold putR; rw [List.length_set]; exact m.len
  row := fun i r0 r' e1 e2 => by
    unfold putR at e2
    have hi := (List.getElem?_eq_some_iff.mp e1).1
    have ha := (List.getElem?_eq_some_iff.mp er).1
    by_cases hia : a = i
    · subst hia
      rw [List.getElem?_set_self ha] at e2
      cases e2
      obtain ⟨h1, h2, h3⟩ := m.row a r0 r e1 er
      refine ⟨h1, by show (r.2.set c d).length = _; rw [List.length_set]; exact h2, fun j d0 d' f1 f2 => ?_⟩
      have f2 : (r.2.set c d)[j]? = some d' := f2
      have lj := (List.getElem?_eq_some_iff.mp f1).1
      by_cases hj : c = j
      · subst hj
        rw [List.getElem?_set_self (by omega)] at f2
        cases f2
        exact ⟨fun z => absurd (.inr ⟨rfl, rfl⟩) z, fun _ => ⟨by show isStep ns (((r.2.set c d).length : Int) - 1 - c) d = false; rw [List.length_set]; exact bad, sm⟩⟩
      · rw [List.getElem?_set_ne hj] at f2
        obtain ⟨g1, g2⟩ := h3 j d0 d' f1 f2
        refine ⟨fun z => g1 fun w => z (.inl w), fun z => ?_⟩
        rcases z with z | ⟨_, z⟩
        · obtain ⟨k1, k2⟩ := g2 z
          exact ⟨by show isStep ns (((r.2.set c d).length : Int) - 1 - j) d' = false; rw [List.length_set]; exact k1, k2⟩
        · exact absurd z.symm hj
    · rw [List.getElem?_set_ne hia] at e2
      obtain ⟨h1, h2, h3⟩ := m.row i r0 r' e1 e2
      refine ⟨h1, h2, fun j d0 d' f1 f2 => ?_⟩
      obtain ⟨g1, g2⟩ := h3 j d0 d' f1 f2
      refine ⟨fun z => g1 fun w => z (.inl w), fun z => ?_⟩
      rcases z with z | ⟨z, _⟩
      · exact g2 z
      · exact absurd z.symm hia
/-- one place is put right -/
theorem Mix.back {ns : List Str} {rs0 rs : List RowP} {P : Nat → Nat → Prop} {a c : Nat} {r0 r : RowP} {d : PyData} (m : Mix ns rs0 rs P) (er0 : rs0[a]? = some r0) (er : rs[a]? = some r) (ed : r0.2[c]? = some d) : Mix ns rs0 (putR rs a c r d) (fun i j => P i j ∧ ¬ (i = a ∧ j = c)) where
  len := by unfold putR; rw [List.length_set]; exact m.len
  row := fun i r1 r' e1 e2 => by
    unfold putR at e2
    have hi := (List.getElem?_eq_some_iff.mp e1).1
    have ha := (List.getElem?_eq_some_iff.mp er).1
    by_cases hia : a = i
    · subst hia
      rw [List.getElem?_set_self ha] at e2
      cases e2
      rw [er0] at e1
      cases e1
      obtain ⟨h1, h2, h3⟩ := m.row a r0 r er0 er
      refine ⟨h1, by show (r.2.set c d).length = _; rw [List.length_set]; exact h2, fun j d0 d' f1 f2 => ?_⟩
      have f2 : (r.2.set c d)[j]? = some d' := f2
      have lj := (List.getElem?_eq_some_iff.mp f1).1
      by_cases hj : c = j
      · subst hj
        rw [List.getElem?_set_self (by omega)] at f2
        cases f2
        rw [ed] at f1
        cases f1
        exact ⟨fun _ => rfl, fun z => absurd ⟨rfl, rfl⟩ z.2⟩
      · rw [List.getElem?_set_ne hj] at f2
        obtain ⟨g1, g2⟩ := h3 j d0 d' f1 f2
        refine ⟨fun z => g1 fun w => z ⟨w, fun q => hj q.2.symm⟩, fun z => ?_⟩
        obtain ⟨k1, k2⟩ := g2 z.1
        exact ⟨by show isStep ns (((r.2.set c d).length : Int) - 1 - j) d' = false; rw [List.length_set]; exact k1, k2⟩
    · rw [List.getElem?_set_ne hia] at e2
      obtain ⟨h1, h2, h3⟩ := m.row i r1 r' e1 e2
      refine ⟨h1, h2, fun j d0 d' f1 f2 => ?_⟩
      obtain ⟨g1, g2⟩ := h3 j d0 d' f1 f2
      exact ⟨fun z => g1 fun w => z ⟨w, fun q => hia q.1.symm⟩, fun z => g2 z.1⟩
theorem Mix.names {ns : List Str} {rs0 rs : List RowP} {P : Nat → Nat → Prop} (m : Mix ns rs0 rs P) : rs.map (·.1) = rs0.map (·.1) := by
  apply List.ext_getElem?
  intro i
  rw [List.getElem?_map, List.getElem?_map]
  by_cases h : i < rs0.length
  · have e1 := List.getElem?_eq_getElem h
    have e2 := List.getElem?_eq_getElem (l := rs) (i := i) (by rw [m.len]; exact h)
    rw [e1, e2]
    exact congrArg some (m.row i _ _ e1 e2).1
  · rw [List.getElem?_eq_none (by rw [m.len]; omega), List.getElem?_eq_none (by omega)]
theorem Mix.marked {ns : List Str} {rs0 rs : List RowP} {P : Nat → Nat → Prop} {B : Str → Nat → Bool} (m : Mix ns rs0 rs P) (hok : ∀ r ∈ rs0, ∀ (j : Nat) d, r.2[j]? = some d → isStep ns ((r.2.length : Int) - 1 - j) d = true) (hB : ∀ a r0 c, rs0[a]? = some r0 → (B r0.1 c = true ↔ P a c)) : Marked ns B rs := fun r hr j d e => by
  obtain ⟨a, ea⟩ := List.mem_iff_getElem?.mp hr
  have ha := (List.getElem?_eq_some_iff.mp ea).1
  have e0 := List.getElem?_eq_getElem (l := rs0) (i := a) (by rw [← m.len]; exact ha)
  obtain ⟨h1, h2, h3⟩ := m.row a _ _ e0 ea
  have hj := (List.getElem?_eq_some_iff.mp e).1
  have ed := List.getElem?_eq_getElem (l := (rs0[a]'(by rw [← m.len]; exact ha)).2) (i := j) (by rw [← h2]; exact hj)
  obtain ⟨g1, g2⟩ := h3 j _ _ ed e
  have hb := hB a _ j e0
  rw [h1]
  cases eb : B (rs0[a]'(by rw [← m.len]; exact ha)).1 j with
  | true =>
    exact (g2 (hb.mp eb)).1
  | false =>
    have := g1 fun z => by rw [hb.mpr z] at eb; cases eb
    rw [this, show ((r.2.length : Nat) : Int) = (((rs0[a]'(by rw [← m.len]; exact ha)).2.length : Nat) : Int) from congrArg _ h2]
    exact hok _ (List.mem_of_getElem? e0) j _ ed
end
section
section
variable {X : Cx} {pins : List (Addr × Obj)} {σ : L2.St} {H : Hp} {s : Shared}
def oNeE : R2 := fun x y H Q => ∃ (p q : Addr) (xs : List V), x = .ref p ∧ y = .ref q ∧ H p = some (.lst xs) ∧ H q = some (.lst []) ∧ Q (.bl (!xs.isEmpty)) H
theorem p_neE (hu : X.A.units + 64 < cLine) : OpR X (compareOp .NotEq) oNeE := by
  intro pins s σ H x y v u Q I rx ry h
  obtain ⟨p, q, xs, rfl, rfl, h1, h2, hq⟩ := h
  cases (show v = Value.ref p from rx)
  cases (show u = Value.ref q from ry)
  have hu0 : X.A.units < cLine := by omega
  obtain ⟨i1, r1, l1⟩ := lstAt I h1
  obtain ⟨i2, r2, l2⟩ := lstAt I h2
  cases r2
  cases r1 with
  | nil => exact (SeqAt.RcNeAt.lists (e := fun _ => true) l1 l2 rfl hu0 fun j h1 h2 => absurd h1 (by simp)) X.prog X.w X.xe _ ⟨.bl false, H, I, rfl, hq⟩
  | cons a b => exact (SeqAt.RcNeAt.lists_lengths l1 l2 (by simp) hu0) X.prog X.w X.xe _ ⟨.bl true, H, I, rfl, hq⟩
theorem w_neE {Q : VK} {p q : Addr} {xs : List V} (h1 : H p = some (.lst xs)) (h2 : H q = some (.lst [])) (k : Q (.bl (!xs.isEmpty)) H) : oNeE (.ref p) (.ref q) H Q := ⟨p, q, xs, rfl, rfl, h1, h2, k⟩
end
end
section
theorem w_cat {l b : Addr} {xs zs : List V} {H : Hp} {Q : VK} (h1 : H l = some (.lst xs)) (h2 : H b = some (.lst zs)) (hz : xs.length + zs.length ≤ 100000) (q : ∀ p H2, H p = none → Chg [] H H2 → H2 p = some (.lst (xs ++ zs)) → Q (.ref p) H2) : rCat (.ref l) (.ref b) H Q :=
  ⟨l, b, xs, zs, rfl, rfl, h1, h2, Nat.le_trans hz (by decide), fun p np => q p _ np (.new np) upd_same⟩
end
section
def LfP (H : Hp) (M : List Addr) (D : Addr) (Ac : Nat → List V → Prop) (i : Nat) : Hp → Prop := fun H5 => ∃ acc, acc.length ≤ i ∧ H5 D = some (.lst acc) ∧ Chg M H H5 ∧ Ac i acc
def LfK (H : Hp) (M : List Addr) (D : Addr) (Ac : Nat → List V → Prop) (i : Nat) : VK := fun y H4 => ∃ acc, H4 D = some (.lst acc) ∧ acc.length < sizeLine ∧ LfP H M D Ac (i + 1) (upd H4 D (.lst (acc ++ [y])))
theorem lf_yes {H H4 : Hp} {M : List Addr} {D : Addr} {Ac : Nat → List V → Prop} {i : Nat} {acc : List V} {y : V} (nD : H D = none) (h : H4 D = some (.lst acc)) (hl : acc.length ≤ i) (hz : i ≤ 100000) (c : Chg M H H4) (q : Ac (i + 1) (acc ++ [y])) : LfK H M D Ac i y H4 :=
  ⟨acc, h, Nat.lt_of_le_of_lt (Nat.le_trans hl hz) (by decide), acc ++ [y], by rw [List.length_append, List.length_singleton]; omega, upd_same, c.go (Chg.mut h fun _ e => nomatch e) fun a ha => .inr (by rw [List.mem_singleton.mp ha]; exact nD), q⟩
theorem lf_no {H H4 : Hp} {M : List Addr} {D : Addr} {Ac : Nat → List V → Prop} {i : Nat} {acc : List V} (h : H4 D = some (.lst acc)) (hl : acc.length ≤ i) (c : Chg M H H4) (q : Ac (i + 1) acc) : LfP H M D Ac (i + 1) H4 := ⟨acc, by omega, h, c, q⟩
theorem w_lcF {J : It} {n : Nat} {G : Hp → Prop} {Y : Nat → Hp → V → Hp → Prop} {g : TG} {te : TE} {tt : TT} {vs : List Nat} {σ : L2.St} {H : Hp} {Q : Addr → Hp → Prop} (w : L2.Walk J n G Y) (M : List Addr) (Ac : Nat → List V → Prop)
    (h0 : Ac 0 []) (hG : ∀ H1, Chg M H H1 → G H1)
    (hs : ∀ D i acc x H1 H2, i < n → H D = none → H1 D = some (.lst acc) → acc.length ≤ i → Ac i acc → Chg M H H1 → Y i H1 x H2 → g x (wipe σ vs) H2 fun σ2 H3 => wipe σ2 vs = wipe σ vs ∧
      tt σ2 H3 fun b H3 => if b = true then te σ2 H3 (LfK H M D Ac i) else LfP H M D Ac (i + 1) H3)
    (hd : ∀ D acc H1, H D = none → Chg M H H1 → acc.length ≤ n → H1 D = some (.lst acc) → Ac n acc → Q D H1) :
    ∀ D, H D = none → ∃ W : Nat → Nat → Hp → Prop, (∃ m, W 0 m (upd H D (.lst []))) ∧ ∀ i m H, W i m H →
      (J.stop i H ∧ Q D H) ∨ (J.go i H ∧ ∃ Nx : Hp → Prop, (∀ H', Nx H' → ∃ m', m' < m ∧ W (i + 1) m' H') ∧ ∀ x H', J.yld i H x H' → g x (wipe σ vs) H' fun σ2 H2 => wipe σ2 vs = wipe σ vs ∧ tt σ2 H2 fun b H3 =>
        if b = true then te σ2 H3 fun y H4 => ∃ acc, H4 D = some (.lst acc) ∧ acc.length < sizeLine ∧ Nx (upd H4 D (.lst (acc ++ [y]))) else Nx H3) := by
  intro D nD
  refine lc_it w (Qd := fun H => Q D H) (LfP H M D Ac) ⟨[], Nat.le_refl _, upd_same, (Chg.new nD).wide (by simp), h0⟩ (fun i H1 hi ⟨acc, _, _, c, _⟩ => hG H1 c) (fun i x H1 H2 hi hp y => ?_) (fun H1 ⟨acc, e, h, c, q⟩ => hd D acc H1 nD c e h q)
  obtain ⟨acc, e, h, c, q⟩ := hp
  exact hs D i acc x H1 H2 hi nD h e q c y
end
end Fg
namespace Fg
open PySem PySem.Spec PyProof.Rows L2
local macro_rules | `(tactic| walk_at "hp") => `(tactic| first
  | assumption
  | exact upd_same
  | (refine Chg.at (by assumption) ?_; walk_at "hp")
  | (refine Chg.at1 (by assumption) ?_ (by walk_at "ne"); walk_at "hp"))
local macro_rules | `(tactic| walk_at "ne") => `(tactic| first | assumption | (apply Ne.symm; assumption))
local macro_rules | `(tactic| walk_at "sq") => `(tactic| first | assumption | exact sqL (by walk_at "hp") | (refine Chg.seq (by assumption) ?_; walk_at "sq"))
local macro_rules | `(tactic| walk_at "sz") => `(tactic| first | assumption | exact Nat.zero_le _ | (simp only [List.length_cons, List.length_nil]; decide) | exact Nat.le_trans (by first | omega | (simp; done) | (simp; omega)) (show 100000 ≤ sizeLine by decide) | exact Nat.lt_of_lt_of_le (by first | omega | (simp; done) | (simp; omega)) (show 100000 ≤ sizeLine by decide))
local macro_rules | `(tactic| walk_at "ix") => `(tactic| first | exact at0 | exact at1 | exact at2 | exact at3 | assumption | exact rfl | walk_at "ix2")
local macro_rules | `(tactic| walk_at "ix2") => `(tactic| fail)
local macro_rules | `(tactic| walk_at "num") => `(tactic| first | assumption | omega | decide | walk_at "num2")
local macro_rules | `(tactic| walk_at "num2") => `(tactic| fail)
local macro_rules | `(tactic| walk_at "im") => `(tactic| first | assumption | exact R.non (S := fun _ => False) | exact R.bl (S := fun _ => False) _ | exact R.int (S := fun _ => False) _ | exact R.str (S := fun _ => False) _ | (refine R.im (by assumption) ?_; walk_at "im"))
local macro_rules | `(tactic| walk_at "r") => `(tactic| first | assumption | exact R.non (S := fun _ => False) | exact R.bl (S := fun _ => False) _ | exact R.int (S := fun _ => False) _ | exact R.str (S := fun _ => False) _ | (refine R.same (by assumption) ?_; walk_at "r") | exact R.any (by walk_at "im"))
local macro_rules | `(tactic| walk_at "chg") => `(tactic| first
  | exact Chg.refl
  | assumption
  | (refine Chg.same ?_ (by assumption); walk_at "chg")
  | (refine Chg.both ?_ (by assumption); walk_at "chg")
  | (refine Chg.pre (by assumption) ?_; walk_at "chg"))
local macro_rules | `(tactic| walk_at "w1") => `(tactic| first
  | with_reducible apply w_seq
  | with_reducible apply w_asg
  | ((with_reducible apply w_var); (focus (exact rfl)))
  | with_reducible apply w_c
  | with_reducible apply w_op
  | with_reducible apply w_cons
  | with_reducible apply w_nil
  | with_reducible apply w_gName
  | with_reducible apply w_if
  | with_reducible apply w_test
  | with_reducible apply w_B
  | with_reducible apply w_isbl
  | with_reducible apply w_retN
  | with_reducible apply w_next
  | with_reducible apply w_drop
  | with_reducible apply w_cb
  | with_reducible apply w_call
  | with_reducible apply w_callN
  | with_reducible apply w_bm
  | with_reducible apply w_bm0
  | ((with_reducible apply w_tyL); (focus (walk_at "hp"; done)))
  | with_reducible apply w_dput
  | with_reducible apply w_m1
  | with_reducible apply w_isstr
  | with_reducible apply w_and
  | with_reducible apply w_or
  | with_reducible apply w_not
  | with_reducible apply w_andV
  | with_reducible apply w_orV
  | with_reducible apply w_notV
  | with_reducible apply w_ifE
  | with_reducible apply w_chain
  | with_reducible apply w_un
  | with_reducible apply w_neg
  | with_reducible apply w_add
  | with_reducible apply w_sub
  | ((with_reducible apply w_mod); (focus (walk_at "num"; done)))
  | ((with_reducible apply w_mul); (focus (walk_at "num"; done)))
  | ((with_reducible apply w_fdiv); (focus (walk_at "num"; done)))
  | ((with_reducible apply w_pow); (focus (walk_at "num"; done)))
  | with_reducible apply w_lt
  | with_reducible apply w_le
  | with_reducible apply w_gt
  | with_reducible apply w_ge
  | with_reducible apply w_ltS
  | with_reducible apply w_geS
  | with_reducible apply w_inC
  | with_reducible apply w_notInC
  | with_reducible apply w_isN
  | with_reducible apply w_notN
  | with_reducible apply w_isB
  | with_reducible apply w_notB
  | ((with_reducible apply w_addS); (focus (walk_at "sz"; done)))
  | ((with_reducible apply w_ixL); (focus (walk_at "sq"; done)); (focus (walk_at "ix"; done)))
  | ((with_reducible apply w_ixT); (focus (walk_at "hp"; done)); (focus (walk_at "ix"; done)))
  | ((with_reducible apply w_ixS); (focus (walk_at "sz"; done)); (focus (walk_at "ix"; done)))
  | with_reducible apply w_gSub
  | ((with_reducible apply w_gTup); (focus (walk_at "hp"; done)); (focus (exact rfl)))
  | with_reducible apply w_gCons
  | with_reducible apply w_gNil
  | ((with_reducible apply w_aug); (focus (exact rfl)))
  | with_reducible apply w_ipI
  | ((with_reducible apply w_eq); (focus (exact rfl)))
  | ((with_reducible apply w_ne); (focus (exact rfl)))
  | with_reducible apply w_max
  | with_reducible apply w_min
  | with_reducible apply w_abs
  | with_reducible apply w_intB
  | with_reducible apply w_intI
  | with_reducible apply w_tup1
  | with_reducible apply w_lst1
  | with_reducible apply w_sl
  | with_reducible apply w_part
  | with_reducible apply w_noPart
  | with_reducible apply w_isint
  | ((with_reducible apply w_slS); (focus (walk_at "sz"; done)))
  | with_reducible apply w_iteT
  | with_reducible apply w_iteF
  | with_reducible apply w_iteN
  | ((with_reducible apply w_iteYes); (focus (exact rfl)))
  | ((with_reducible apply w_iteNo); (focus (exact rfl)))
  | ((with_reducible apply w_lenL); (focus (walk_at "sq"; done)))
  | ((with_reducible apply w_lenT); (focus (walk_at "hp"; done)))
  | ((with_reducible apply w_lenS); (focus (walk_at "sz"; done)))
  | with_reducible apply w_lc
  | with_reducible apply w_for
  | with_reducible apply w_yes
  | ((with_reducible apply w_wipe); (focus (exact rfl)))
  | with_reducible apply w_iList
  | with_reducible apply w_iTup
  | with_reducible apply w_iStr
  | with_reducible apply w_iRng1
  | with_reducible apply w_iRng2
  | with_reducible apply w_iZip
  | with_reducible apply w_iEnum
  | ((with_reducible apply d_iList); (focus (walk_at "sq"; done)))
  | ((with_reducible apply d_iTup); (focus (walk_at "hp"; done)))
  | with_reducible apply d_iStr
  | ((with_reducible apply d_iRng1); (focus (walk_at "num"; done)); (focus (walk_at "num"; done)))
  | ((with_reducible apply d_iRng2); (focus (walk_at "num"; done)); (focus (walk_at "num"; done)); (focus (walk_at "num"; done)); (focus (walk_at "num"; done)))
  | ((with_reducible apply d_iZip); (focus (walk_at "sq"; done)); (focus (walk_at "sq"; done)))
  | ((with_reducible apply d_iEnum); (focus (walk_at "sq"; done)))
  | walk_at "w2")
local macro_rules | `(tactic| walk_at "w2") => `(tactic| fail)
local macro_rules | `(tactic| walk_at "wn") => `(tactic| repeat walk_at "w1")
local macro_rules | `(tactic| walk_at "w") => `(tactic| repeat (first | walk_at "w1" | with_reducible apply w_ret))
local macro_rules | `(tactic| walk_at "w2") => `(tactic| first
  | ((with_reducible apply w_isInt); (focus (walk_at "r"; done)))
  | ((with_reducible apply w_isBool); (focus (walk_at "r"; done)))
  | ((with_reducible apply w_isStr); (focus (walk_at "r"; done)))
  | ((with_reducible apply w_isTup); (focus (walk_at "r"; done)))
  | ((with_reducible apply w_isLst); (focus (walk_at "r"; done)))
  | ((with_reducible apply w_notInP); (focus (assumption)))
  | ((with_reducible apply w_ixP); (focus (assumption)); (focus (assumption))))
section
def sp__law_no_name5 : Sp := fun vs H Q _ => ∃ (b : Addr) (n : Nat), vs = [.ref b] ∧ Bag H b n ∧ 40 ≤ n ∧ ∀ (x : Str) (H' : Hp), Chg [b] H H' → Bag H' b (n - 40) → x.length ≤ 100 → nameS x = false → Q (.str x) H'
def t__law_no_name5 (K : PySem.W.Frag) : TS :=
    tSeq (tAsg (tCall sp__law_name [] E0 (tCons (tVar 0) (tCons (tC (.str "")) (tNil)))) (gName 1))
    (tSeq (tAsg (tOp (rIxL K) (tLst (tCons (tC (.str "ABCDEFGHIJKLMNOPQRSTUVWXYZ")) (tCons (tC (.str "0123456789 !\"#$&'()*+,-./:;<=>?@\x5b\\]^_`{|}~\n\t")) (tNil)))) (tCall sp__law_draw [] E0 (tCons (tVar 0) (tCons (tC (.int 2)) (tNil))))) (gName 2))
    (tSeq (tAsg (tOp rIxS (tVar 2) (tCall sp__law_draw [] E0 (tCons (tVar 0) (tCons (tCB cLenS (tCons (tVar 2) (tNil))) (tNil))))) (gName 3))
    (tSeq (tAsg (tCall sp__law_draw [] E0 (tCons (tVar 0) (tCons (tOp oAdd (tCB cLenS (tCons (tVar 1) (tNil))) (tC (.int 1))) (tNil)))) (gName 4))
    (tSeq (tIfS (tTest (tOp rEq (tCall sp__law_draw [] E0 (tCons (tVar 0) (tCons (tC (.int 8)) (tNil)))) (tC (.int 7)))) (tRet (tSl rSlS (tOp oAddS (tVar 1) (tC (.str "abcdefghijkl"))) (tNoPart) (tPart (tOp oAdd (tC (.int 9)) (tCall sp__law_draw [] E0 (tCons (tVar 0) (tCons (tC (.int 4)) (tNil)))))))) (tNext))
    (tRet (tOp oAddS (tOp oAddS (tSl rSlS (tVar 1) (tNoPart) (tPart (tVar 4))) (tVar 3)) (tSl rSlS (tVar 1) (tPart (tOp oAdd (tVar 4) (tCall sp__law_draw [] E0 (tCons (tVar 0) (tCons (tC (.int 2)) (tNil)))))) (tNoPart))))))))
theorem bad_sign {x : Str} {c : Nat} (h : c ∈ x.cps.toList) (hc : isLow c = false) : nameS x = false := by
  cases e : nameS x with
  | false => rfl
  | true =>
    have := (nameS_iff.mp e).2.2 c h
    rw [hc] at this
    cases this
theorem bad_long {x : Str} (h : 8 < x.length) : nameS x = false := by
  cases e : nameS x with
  | false => rfl
  | true => have := (nameS_iff.mp e).2.1; omega
theorem pure__law_no_name5 {K : PySem.W.Frag} (vs : List V) (H : Hp) (Q : VK) (E : XK) (h : sp__law_no_name5 vs H Q E) : t__law_no_name5 K (fin Q) (start ["bag", "name", "signs", "sign", "at"] vs) H := by
  obtain ⟨b, n, rfl, bag, hn, q⟩ := h
  show t__law_no_name5 K _ [some (.ref b), none, none, none, none] H
  unfold t__law_no_name5
  walk_at "w"
  refine ⟨b, "", n, rfl, bag, by omega, by decide +kernel, low_nil, fun x H1 c1 bag1 ok => ?_⟩
  have l8 := (nameS_iff.mp ok).2.1
  have l1 := (nameS_iff.mp ok).1
  walk_at "w"
  refine k_lst (by walk_at "sz") fun p H2 np c2 hp => ?_
  walk_at "w"
  refine u_draw (bag1.same c2) (by omega) (by decide) (by decide) fun v H3 c3 bag3 v0 v1 => ?_
  have ne : p ≠ b := fun z => bag1.some (by rw [← z]; exact np)
  obtain ⟨sg, es, hs1, hs2, hs3⟩ : ∃ sg : Str, atI [V.str "ABCDEFGHIJKLMNOPQRSTUVWXYZ", V.str "0123456789 !\"#$&'()*+,-./:;<=>?@\x5b\\]^_`{|}~\n\t"] v = some (.str sg) ∧ 1 ≤ sg.length ∧ sg.length ≤ 100 ∧ ∀ c ∈ sg.cps.toList, isLow c = false := by
    have : v = 0 ∨ v = 1 := by omega
    rcases this with rfl | rfl
    · exact ⟨_, at0, by decide +kernel, by decide +kernel, by decide +kernel⟩
    · exact ⟨_, at1, by decide +kernel, by decide +kernel, by decide +kernel⟩
  refine w_ixL (sqL (c3.at1 hp ne)) es ?_
  walk_at "w"
  refine u_draw bag3 (by omega) (by omega) (by omega) fun u H4 c4 bag4 u0 u1 => ?_
  obtain ⟨c, ec, hcm⟩ := atD (xs := sg.cps.toList) u0 (show u < (sg.length : Nat) from u1)
  have hlow := hs3 c hcm
  refine w_ixS (by walk_at "sz") ec ?_
  walk_at "w"
  refine u_draw bag4 (by omega) (by omega) (by omega) fun a H5 c5 bag5 a0 a1 => ?_
  walk_at "w"
  refine u_draw bag5 (by omega) (by decide) (by decide) fun e H6 c6 bag6 e0 e1 => ?_
  have cc : Chg [b] H H6 := ((((c1.same c2).both c3).both c4).both c5).both c6
  have l12 : (Str.ofString "abcdefghijkl").length = 12 := by decide +kernel
  walk_at "w"
  refine w_iteD (fun h7 => ?_) (fun h7 => ?_)
  · walk_at "w"
    refine u_draw bag6 (by omega) (by decide) (by decide) fun f H7 c7 bag7 f0 f1 => ?_
    walk_at "w"
    refine w_slS ?_ ?_
    · rw [len_append, l12]
      exact Nat.le_trans (show x.length + 12 ≤ 100000 by omega) (by decide)
    · refine q _ H7 (cc.both c7) (bag7.le (by omega)) ?_ (bad_long ?_)
      · have := cutS_le (x ++ (Str.ofString "abcdefghijkl")) none (some (9 + f))
        rw [len_append, l12] at this
        omega
      · rw [len_cut, len_append, l12, HT.sIx_none, show (9 + f : Int) = ((9 + f.toNat : Nat) : Int) by omega, HT.sIx_nat]
        omega
  · walk_at "w"
    have k1 := cutS_le x none (some a)
    refine w_addS ?_ ?_
    · rw [len_one]
      exact Nat.le_trans (show (cutS x none (some a)).length + 1 ≤ 100000 by omega) (by decide)
    walk_at "w"
    refine u_draw bag6 (by omega) (by decide) (by decide) fun f H7 c7 bag7 f0 f1 => ?_
    walk_at "w"
    have k2 := cutS_le x (some (a + f)) none
    refine w_addS ?_ ?_
    · rw [len_append, len_one]
      exact Nat.le_trans (show (cutS x none (some a)).length + 1 + (cutS x (some (a + f)) none).length ≤ 100000 by omega) (by decide)
    refine q _ H7 (cc.both c7) (bag7.le (by omega)) ?_ (bad_sign (c := c) ?_ hlow)
    · rw [len_append, len_append, len_one]
      omega
    · show c ∈ (((cutS x none (some a)).cps ++ #[c]) ++ (cutS x (some (a + f)) none).cps).toList
      simp
def sp__law_bad_step : Sp := fun vs H Q _ => ∃ (b l : Addr) (ns : List Str) (bh : Int) (k : Nat), vs = [.ref b, .ref l, .int bh] ∧ Bag H b k ∧ 100 ≤ k ∧ H l = some (.lst (ns.map V.str)) ∧ l ≠ b ∧ ns.length ≤ 20 ∧ (∀ x ∈ ns, nameS x = true) ∧ 0 ≤ bh ∧ bh ≤ 100 ∧
  ∀ (v : V) (d : PyData) (H' : Hp), Chg [b] H H' → Bag H' b (k - 100) → Im H' v d → isStep ns bh d = false → smallD d = true → Q v H'
def t__law_bad_step (K : PySem.W.Frag) : TS :=
    tSeq (tAsg (tCall sp__law_draw [] E0 (tCons (tVar 0) (tCons (tC (.int 7)) (tNil)))) (gName 3))
    (tSeq (tAsg (tTup (tCons (tC (.str "cell")) (tCons (tTup (tCons (tC (.str "cell")) (tCons (tTup (tCons (tC (.str "cell")) (tCons (tTup (tCons (tC (.str "cell")) (tCons (tTup (tCons (tC (.str "add")) (tCons (tC (.int 1)) (tCons (tTup (tCons (tC (.str "arg")) (tNil))) (tNil))))) (tNil)))) (tNil)))) (tNil)))) (tNil)))) (gName 4))
    (tSeq (tAsg (tLc (iList K (tOp rCat (tLst (tCons (tC (.str "q")) (tCons (tC (.str "qq")) (tCons (tC (.str "qqq")) (tCons (tC (.str "zz")) (tNil)))))) (tLc (iRng2 (tCons (tC (.int 4)) (tCons (tC (.int 9)) (tNil)))) (gName 8) (tYes) (tOp rMulS (tC (.str "q")) (tVar 8)) [8]))) (gName 7) (tTest (tOp (rIn K true) (tVar 7) (tVar 1))) (tVar 7) [7]) (gName 5))
    (tSeq (tAsg (tLst (tCons (tTup (tCons (tC (.str "skip")) (tCons (tC (.int 1)) (tCons (tOp oAdd (tVar 2) (tC (.int 1))) (tNil))))) (tCons (tTup (tCons (tC (.str "fork")) (tCons (tOp (rIxL K) (tOp rCat (tVar 5) (tLst (tCons (tC (.str "A")) (tNil)))) (tC (.int 0))) (tCons (tC (.int 1)) (tNil))))) (tCons (tTup (tCons (tC (.str "give")) (tCons (tC (.str "a")) (tCons (tVar 4) (tNil))))) (tCons (tTup (tCons (tC (.str "cell")) (tCons (tVar 4) (tCons (tC (.int 1)) (tNil))))) (tCons (tC .non) (tNil))))))) (gName 6))
    (tRet (tOp (rIxL K) (tOp rCat (tVar 6) (tLst (tCons (tTup (tCons (tC (.str "call")) (tCons (tC (.str "a")) (tNil)))) (tCons (tTup (tCons (tC (.str "give")) (tCons (tCall (sp__law_no_name5) [] E0 (tCons (tVar 0) (tNil))) (tCons (tC (.int 1)) (tNil))))) (tNil))))) (tVar 3))))))
theorem rep_q : ∀ n : Nat, n ≤ 10 → (repS "q" n).length ≤ 100 := by
  intro n h
  have : n = 0 ∨ n = 1 ∨ n = 2 ∨ n = 3 ∨ n = 4 ∨ n = 5 ∨ n = 6 ∨ n = 7 ∨ n = 8 ∨ n = 9 ∨ n = 10 := by omega
  rcases this with rfl | rfl | rfl | rfl | rfl | rfl | rfl | rfl | rfl | rfl | rfl <;> decide +kernel
theorem strs_of5 {P : Str → Prop} : ∀ {acc : List V}, (∀ (i : Nat) y, acc[i]? = some y → ∃ z, y = .str z ∧ P z) → ∃ zs : List Str, acc = zs.map V.str ∧ ∀ z ∈ zs, P z
  | [], _ => ⟨[], rfl, fun z hz => by cases hz⟩
  | v :: r, h => by
    obtain ⟨z, rfl, hz⟩ := h 0 v rfl
    obtain ⟨zs, e, hs⟩ := strs_of5 (acc := r) fun i y hy => h (i + 1) y hy
    exact ⟨z :: zs, by rw [e]; rfl, fun y hy => (List.mem_cons.mp hy).elim (fun e => e ▸ hz) (hs y)⟩
theorem wd_skip (ns : List Str) (bh : Int) : isStep ns bh (.tuple [.str "skip", .int 1, .int (bh + 1)]) = false := by
  show step3 ns bh "skip" (.int 1) (.int (bh + 1)) = false
  unfold step3
  rw [if_neg (by decide +kernel), if_pos rfl]
  show (true && (decide (1 ≤ bh + 1) && decide (bh + 1 ≤ bh))) = false
  rw [decide_eq_false (by omega : ¬ bh + 1 ≤ bh), Bool.and_false]
  rfl
theorem wd_fork {ns : List Str} (bh : Int) {x : Str} (h : x ∉ ns) : isStep ns bh (.tuple [.str "fork", .str x, .int 1]) = false := by
  show step3 ns bh "fork" (.str x) (.int 1) = false
  unfold step3
  rw [if_neg (by decide +kernel), if_neg (by decide +kernel), if_neg (by decide +kernel), if_pos (.inl rfl), show inNm ns (.str x) = false from decide_eq_false h, Bool.and_false]
theorem wd_give {ns : List Str} (bh : Int) {x : Str} {e : PyData} (h : nameS x = false ∨ isExpr 5 e = false) : isStep ns bh (.tuple [.str "give", .str x, e]) = false := by
  show step3 ns bh "give" (.str x) e = false
  unfold step3
  rw [if_neg (by decide +kernel), if_neg (by decide +kernel), if_pos rfl]
  rcases h with h | h
  · rw [show isName (.str x) = false from h]; rfl
  · rw [h, Bool.and_false]
theorem wd_cell {ns : List Str} (bh : Int) {e f : PyData} (h : isExpr 5 e = false) : isStep ns bh (.tuple [.str "cell", e, f]) = false := by
  show step3 ns bh "cell" e f = false
  unfold step3
  rw [if_pos rfl, h]
  rfl
theorem wd_call (ns : List Str) (bh : Int) (x : PyData) : isStep ns bh (.tuple [.str "call", x]) = false := rfl
def deep6 : PyData := .tuple [.str "cell", .tuple [.str "cell", .tuple [.str "cell", .tuple [.str "cell", .tuple [.str "add", .int 1, .tuple [.str "arg"]]]]]]
theorem deep6_no : isExpr 5 deep6 = false := by decide +kernel
theorem small3 {a : Str} {x y : PyData} (ha : a.length ≤ 100000) (hx : smallD x = true) (hy : smallD y = true) : smallD (.tuple [.str a, x, y]) = true := by
  show (decide (a.length ≤ 100000) && (smallD x && (smallD y && true))) = true
  rw [decide_eq_true ha, hx, hy]
  rfl
theorem pure__law_bad_step {K : PySem.W.Frag} (vs : List V) (H : Hp) (Q : VK) (E : XK) (h : sp__law_bad_step vs H Q E) : t__law_bad_step K (fin Q) (start ["bag", "names", "behind", "pick", "deep", "lacking", "some", "one", "j"] vs) H := by
  obtain ⟨b, l, ns, bh, k, rfl, bag, hk, hl, lb, ln, okn, bh0, bh1, q⟩ := h
  show t__law_bad_step K _ [some (.ref b), some (.ref l), some (.int bh), none, none, none, none, none, none] H
  unfold t__law_bad_step
  walk_at "w"
  refine u_draw bag (by omega) (by decide) (by decide) fun z H1 c1 bag1 z0 z1 => ?_
  have hl1 := c1.at1 hl lb
  walk_at "w"
  refine k_tup (by walk_at "sz") fun p1 G1 m1 d1 g1 => ?_
  walk_at "w"
  refine k_tup (by walk_at "sz") fun p2 G2 m2 d2 g2 => ?_
  walk_at "w"
  refine k_tup (by walk_at "sz") fun p3 G3 m3 d3 g3 => ?_
  walk_at "w"
  refine k_tup (by walk_at "sz") fun p4 G4 m4 d4 g4 => ?_
  walk_at "w"
  refine k_tup (by walk_at "sz") fun p5 G5 m5 d5 g5 => ?_
  walk_at "w"
  refine k_tup (by walk_at "sz") fun dp G6 m6 d6 g6 => ?_
  have r1 : Im G1 (.ref p1) (.tuple [.str "arg"]) := .tup g1 (.cons (.str _) .nil)
  have r2 : Im G2 (.ref p2) (.tuple [.str "add", .int 1, .tuple [.str "arg"]]) := .tup g2 (.cons (.str _) (.cons (.int _) (.cons (r1.im d2) .nil)))
  have r3 := R.tup g3 (RA.cons (R.str (S := fun _ => False) "cell") (.cons (r2.im d3) .nil))
  have r4 := R.tup g4 (RA.cons (R.str (S := fun _ => False) "cell") (.cons (r3.im d4) .nil))
  have r5 := R.tup g5 (RA.cons (R.str (S := fun _ => False) "cell") (.cons (r4.im d5) .nil))
  have r6 : Im G6 (.ref dp) deep6 := R.tup g6 (RA.cons (R.str (S := fun _ => False) "cell") (.cons (r5.im d6) .nil))
  have e16 : Chg [] H1 G6 := ((((d1.same d2).same d3).same d4).same d5).same d6
  clear r1 r2 r3 r4 r5 g1 g2 g3 g4 g5 g6
  walk_at "w"
  refine k_lst (by walk_at "sz") fun q1 H2 nq1 c2 hq1 => ?_
  walk_at "w"
  refine w_lcP walk_range [] (fun _ _ => True) (fun _ y _ => ∃ x : Str, y = .str x ∧ x.length ≤ 100) trivial (fun _ _ _ _ _ _ _ => trivial) (fun _ _ => trivial) (fun D j acc z' Ha Hb hj nD hD el iv ca _ y => ?_) (fun D acc Ha nD ca _ el hD ys => ?_)
  · obtain ⟨rfl, rfl⟩ := y
    have hj5 : j < 5 := hj
    walk_at "w"
    show rMulS _ (V.int (4 + ((j : Nat) : Int))) _ _
    rw [show (4 : Int) + ((j : Nat) : Int) = ((4 + j : Nat) : Int) by omega]
    refine w_mulS (by omega) (by omega) (by decide +kernel) (by decide +kernel) (Nat.le_trans (rep_q (4 + j) (by omega)) (by decide)) ?_
    exact lcp_end (fun _ _ _ _ _ _ _ => trivial) (fun _ _ _ _ _ _ c h => h) nD (fun a ha => by cases ha) hD el (by omega) iv .refl trivial ⟨_, rfl, rep_q (4 + j) (by omega)⟩
  · have l5 : acc.length = 5 := el
    refine w_cat (ca.at hq1) hD (by rw [l5]; decide) fun q2 H3 nq2 c3 hq2 => ?_
    obtain ⟨ws, ew, hw⟩ := strs_of5 ys
    have lws : ws.length = 5 := by rw [← l5, ew, List.length_map]
    obtain ⟨zs, ez, lz, hz⟩ : ∃ zs : List Str, [V.str "q", V.str "qq", V.str "qqq", V.str "zz"] ++ acc = zs.map V.str ∧ zs.length = 9 ∧ ∀ x ∈ zs, x.length ≤ 100 := by
      refine ⟨([("q" : Str), "qq", "qqq", "zz"] : List Str) ++ ws, by rw [ew, List.map_append]; rfl, by rw [List.length_append, lws]; rfl, fun x hx => ?_⟩
      rcases List.mem_append.mp hx with hx | hx
      · simp only [List.mem_cons, List.not_mem_nil, or_false] at hx
        rcases hx with rfl | rfl | rfl | rfl <;> decide +kernel
      · exact hw x hx
    rw [ez] at hq2
    have c13 : Chg [] H1 H3 := ((e16.same c2).same ca).same c3
    have hl3 := c13.at hl1
    walk_at "w"
    refine w_lcF (walk_list (K := K) (a := q2) (xs := zs.map V.str)) [] (fun i acc => acc = ((zs.take i).filter fun z => decide (z ∉ ns)).map V.str) rfl (fun H7 c => sqL (c.at hq2)) (fun D3 i acc3 z' H7 H8 hi nD3 hD3 el3 ac c7 y => ?_) (fun D3 acc3 H4 nD3 c4 el3 hD3 ac => ?_)
    · obtain ⟨rfl, ex⟩ := y
      rw [List.length_map] at hi
      rw [List.getElem?_map, List.getElem?_eq_getElem hi] at ex
      cases ex
      have et : zs.take (i + 1) = zs.take i ++ [zs[i]] := by rw [List.take_add_one, List.getElem?_eq_getElem hi]; rfl
      generalize zs[i] = x at et ⊢
      have hl7 := c7.at hl3
      walk_at "w"
      refine w_notInL (sqL hl7) rfl (flat_strs ns) ?_
      rw [inV_str]
      walk_at "w"
      refine w_iteD (fun hin => ?_) (fun hin => ?_)
      · refine lf_no hD3 el3 c7 ?_
        rw [et, List.filter_append, show ([x].filter fun z => decide (z ∉ ns)) = [] by simp [hin], List.append_nil]
        exact ac
      · walk_at "w"
        refine lf_yes nD3 hD3 el3 (by omega) c7 ?_
        rw [et, List.filter_append, show ([x].filter fun z => decide (z ∉ ns)) = [x] by simp [hin], List.map_append, ac]
        rfl
    · rw [List.length_map, ← List.length_map (f := V.str), List.length_map, List.take_length] at ac
      have hlk : ∀ x ∈ (zs.filter fun z => decide (z ∉ ns)), x ∉ ns ∧ x.length ≤ 100 := fun x hx => by
        obtain ⟨h1, h2⟩ := List.mem_filter.mp hx
        exact ⟨of_decide_eq_true h2, hz x h1⟩
      have llk : (zs.filter fun z => decide (z ∉ ns)).length ≤ 9 := by rw [← lz]; exact List.length_filter_le _ _
      generalize (zs.filter fun z => decide (z ∉ ns)) = lk at *
      subst ac
      have c14 : Chg [] H1 H4 := c13.same c4
      have r64 := r6.im (((c2.same ca).same c3).same c4)
      have bag4 := bag1.same c14
      walk_at "w"
      refine k_tup (by walk_at "sz") fun t1 H5 nt1 c5 ht1 => ?_
      walk_at "w"
      refine k_lst (by walk_at "sz") fun q3 H6 nq3 c6 hq3 => ?_
      refine w_cat (c6.at (c5.at hD3)) hq3 (by rw [List.length_map]; simp; omega) fun q4 H7 nq4 c7 hq4 => ?_
      obtain ⟨x0, ex0, hx0, lx0⟩ : ∃ x0 : Str, atI (lk.map V.str ++ [V.str "A"]) 0 = some (.str x0) ∧ x0 ∉ ns ∧ x0.length ≤ 100 := by
        cases lk with
        | nil => exact ⟨"A", at0, fun hm => by have := okn _ hm; exact absurd this (by decide +kernel), by decide +kernel⟩
        | cons x r => exact ⟨x, at0, hlk x (by simp)⟩
      walk_at "w"
      refine k_tup (by walk_at "sz") fun t2 H8 nt2 c8 ht2 => ?_
      walk_at "w"
      refine k_tup (by walk_at "sz") fun t3 H9 nt3 c9 ht3 => ?_
      walk_at "w"
      refine k_tup (by walk_at "sz") fun t4 H10 nt4 c10 ht4 => ?_
      walk_at "w"
      refine k_lst (by walk_at "sz") fun q5 H11 nq5 c11 hq5 => ?_
      walk_at "w"
      refine k_tup (by walk_at "sz") fun t5 H12 nt5 c12 ht5 => ?_
      have c4_12 : Chg [] H4 H12 := ((((((c5.same c6).same c7).same c8).same c9).same c10).same c11).same c12
      walk_at "w"
      refine ⟨b, _, rfl, bag4.same c4_12, by omega, fun nn H13 c13' bag13 lnn bnn => ?_⟩
      walk_at "w"
      refine k_tup (by walk_at "sz") fun t6 H14 nt6 c14' ht6 => ?_
      walk_at "w"
      refine k_lst (by walk_at "sz") fun q6 H15 nq6 c15 hq6 => ?_
      have q5b : q5 ≠ b := fun e => by
        have := (bag4.same ((((((c5.same c6).same c7).same c8).same c9).same c10))).some
        rw [← e] at this
        exact this nq5
      have hq5' : H15 q5 = some (.lst [.ref t1, .ref t2, .ref t3, .ref t4, .non]) := c15.at (c14'.at (c13'.at1 (c12.at hq5) q5b))
      refine w_cat hq5' hq6 (by show 5 + 2 ≤ 100000; decide) fun q7 H16 nq7 c16 hq7 => ?_
      have c13_16 : Chg [b] H12 H16 := ((c13'.same c14').same c15).same c16
      have c5_16 : Chg [b] H5 H16 := ((((((c6.same c7).same c8).same c9).same c10).same c11).same c12).pre c13_16
      have cF : Chg [b] H H16 := (c1.same (c14.same c4_12)).both c13_16
      have bagF : Bag H16 b (k - 100) := (((bag13.same c14').same c15).same c16).le (by omega)
      have f1 := c5_16.tup _ _ ht1
      have f2 := (((((c9.same c10).same c11).same c12).pre c13_16)).tup _ _ ht2
      have f3 := ((((c10.same c11).same c12).pre c13_16)).tup _ _ ht3
      have f4 := (((c11.same c12).pre c13_16)).tup _ _ ht4
      have f5 := c13_16.tup _ _ ht5
      have f6 := c16.tup _ _ (c15.tup _ _ ht6)
      have r6F := r64.im (c4_12.pre c13_16)
      have fin9 : ∀ (v : V) (d : PyData), Im H16 v d → isStep ns bh d = false → smallD d = true → Q v H16 := fun v d r h1 h2 => q v d H16 cF bagF r h1 h2
      have sd : smallD deep6 = true := by decide +kernel
      walk_at "w"
      have hz7 : z = 0 ∨ z = 1 ∨ z = 2 ∨ z = 3 ∨ z = 4 ∨ z = 5 ∨ z = 6 := by omega
      rcases hz7 with rfl | rfl | rfl | rfl | rfl | rfl | rfl
      · refine w_ixL (sqL hq7) (v := .ref t1) (atI_nat (j := 0) rfl) ?_
        exact fin9 _ _ (.tup f1 (.cons (.str _) (.cons (.int _) (.cons (.int _) .nil)))) (wd_skip ns bh) (small3 (by decide +kernel) rfl rfl)
      · refine w_ixL (sqL hq7) (v := .ref t2) (atI_nat (j := 1) rfl) ?_
        exact fin9 _ _ (.tup f2 (.cons (.str _) (.cons (.str _) (.cons (.int _) .nil)))) (wd_fork bh hx0) (small3 (by decide +kernel) (decide_eq_true (by omega)) rfl)
      · refine w_ixL (sqL hq7) (v := .ref t3) (atI_nat (j := 2) rfl) ?_
        exact fin9 _ _ (.tup f3 (.cons (.str _) (.cons (.str _) (.cons r6F .nil)))) (wd_give bh (.inr deep6_no)) (small3 (by decide +kernel) (by decide +kernel) sd)
      · refine w_ixL (sqL hq7) (v := .ref t4) (atI_nat (j := 3) rfl) ?_
        exact fin9 _ _ (.tup f4 (.cons (.str _) (.cons r6F (.cons (.int _) .nil)))) (wd_cell bh deep6_no) (small3 (by decide +kernel) sd rfl)
      · refine w_ixL (sqL hq7) (v := .non) (atI_nat (j := 4) rfl) ?_
        exact fin9 _ _ .non rfl rfl
      · refine w_ixL (sqL hq7) (v := .ref t5) (atI_nat (j := 5) rfl) ?_
        exact fin9 _ _ (.tup f5 (.cons (.str _) (.cons (.str _) .nil))) (wd_call ns bh _) (by decide +kernel)
      · refine w_ixL (sqL hq7) (v := .ref t6) (atI_nat (j := 6) rfl) ?_
        exact fin9 _ _ (.tup f6 (.cons (.str _) (.cons (.str _) (.cons (.int _) .nil)))) (wd_give bh (.inl bnn)) (small3 (by decide +kernel) (decide_eq_true (by omega)) rfl)
end
section
def t__law_is_whole (K : PySem.W.Frag) : TS :=
    tRet (tAndV (tCB (rIsi K) (tCons (tVar 0) (tCons (tC (.ty "int")) (tNil)))) (tNotV (tCB (rIsi K) (tCons (tVar 0) (tCons (tC (.ty "bool")) (tNil))))))
def sp__law_is_whole : Sp := fun vs H Q _ => ∃ (v : V) (d : PyData) (S : Addr → Prop), vs = [v] ∧ R S H v d ∧ Q (.bl (isWhole d)) H
theorem pure__law_is_whole {K : PySem.W.Frag} (vs : List V) (H : Hp) (Q : VK) (E : XK) (h : sp__law_is_whole vs H Q E) : t__law_is_whole K (fin Q) (start ["thing"] vs) H := by
  obtain ⟨v, d, S, rfl, r, q⟩ := h
  show t__law_is_whole K _ [some v] H
  unfold t__law_is_whole
  walk_at "w"
  cases d <;> (walk_at "w"; exact q)
def t__law_is_name (K : PySem.W.Frag) : TS :=
    tSeq (tIfS (tOr (tNot (tB (tCB (rIsi K) (tCons (tVar 0) (tCons (tC (.ty "str")) (tNil)))))) (tOr (tTest (tOp rEq (tVar 0) (tC (.str "")))) (tTest (tOp oGt (tCB cLenS (tCons (tVar 0) (tNil))) (tC (.int 8)))))) (tRet (tC (.bl false))) (tNext))
    (tRet (tOp oEqE (tLc (iStr (tVar 0)) (gName 1) (tTest (tOp oNotInC (tVar 1) (tC (.str "abcdefghijklmnopqrstuvwxyz")))) (tVar 1) [1]) (tLst (tNil))))
def sp__law_is_name : Sp := fun vs H Q _ => ∃ (v : V) (d : PyData) (S : Addr → Prop), vs = [v] ∧ R S H v d ∧ (∀ x, d = .str x → x.length ≤ 100000) ∧ ∀ H', Chg [] H H' → Q (.bl (isName d)) H'
theorem all_take {α : Type} (p : α → Bool) {l : List α} {i : Nat} {a : α} (h : l[i]? = some a) : (l.take (i + 1)).all p = ((l.take i).all p && p a) := by
  rw [List.take_add_one, h, List.all_append]
  simp
theorem isE_snoc {acc : List V} {y : V} : (acc ++ [y]).isEmpty = false := by cases acc <;> rfl
theorem pure__law_is_name {K : PySem.W.Frag} (vs : List V) (H : Hp) (Q : VK) (E : XK) (h : sp__law_is_name vs H Q E) : t__law_is_name K (fin Q) (start ["thing", "sign"] vs) H := by
  obtain ⟨v, d, S, rfl, r, hx, q⟩ := h
  show t__law_is_name K _ [some v, none] H
  unfold t__law_is_name
  walk_at "w"
  have q0 := q H .refl
  cases r with
  | str x =>
    have hz := hx x rfl
    walk_at "w"
    refine w_iteD (fun h => ?_) (fun h => ?_)
    · walk_at "w"
      have e : isName (.str x) = false := by
        rw [V.str.inj h]
        decide +kernel
      rw [e] at q0
      exact q0
    walk_at "w"
    refine w_iteD (fun h2 => ?_) (fun h2 => ?_)
    · walk_at "w"
      have e : isName (.str x) = false := by
        show (decide (1 ≤ x.length) && decide (x.length ≤ 8) && x.cps.toList.all isLow) = false
        rw [decide_eq_false (p := x.length ≤ 8) (by omega), Bool.and_false]
        rfl
      rw [e] at q0
      exact q0
    walk_at "w"
    have hl : x.cps.size ≤ 100000 := hz
    have h1 : 1 ≤ x.length := by
      rcases Nat.lt_or_ge 0 x.length with z | z
      · exact z
      · exfalso
        apply h
        have e : x.cps = #[] := Array.eq_empty_of_size_eq_zero (by have : x.cps.size = x.length := rfl; omega)
        show V.str x = V.str _
        congr 1
        cases x
        simp only at e
        rw [e]
        rfl
    refine w_lcF walk_str [] (fun i acc => acc.isEmpty = (x.cps.toList.take i).all isLow) rfl (fun _ _ => trivial) (fun D i acc z H1 H2 hi nD hD el ac c y => ?_) (fun D acc H1 nD c el hD ac => ?_)
    · obtain ⟨rfl, ch, ec, rfl⟩ := y
      have ec' : x.cps.toList[i]? = some ch := by rw [Array.getElem?_toList]; exact ec
      walk_at "w"
      refine w_iteD (fun hm => ?_) (fun hm => ?_)
      · refine lf_no hD el c ?_
        rw [all_take isLow ec', ac]
        have e : isLow ch = true := decide_eq_true hm
        rw [e, Bool.and_true]
      · walk_at "w"
        refine lf_yes nD hD el (by omega) c ?_
        rw [all_take isLow ec', isE_snoc]
        have e : isLow ch = false := decide_eq_false hm
        rw [e, Bool.and_false]
    · walk_at "w"
      refine k_lst (by decide) fun p H2 np c2 hp => ?_
      refine w_eqEL (c2.at hD) hp ?_
      have e2 : acc.isEmpty = isName (.str x) := by
        show _ = (decide (1 ≤ x.length) && decide (x.length ≤ 8) && x.cps.toList.all isLow)
        rw [decide_eq_true (by omega), decide_eq_true (by omega), ac, List.take_of_length_le (by simp)]
        rfl
      rw [e2]
      exact q H2 (c.same c2)
  | _ => 
    walk_at "w"
    exact q0
def partKV : List (Key × V) := mergeK [] [(.inr "arg", .int 0), (.inr "cell", .int 1), (.inr "add", .int 2), (.inr "less", .int 2), (.inr "least", .int 2)]
theorem d_parts {σ : L2.St} {H : Hp} {Q : VK} (q : ∀ p H2, Chg [] H H2 → H2 p = some (.dK partKV) → Q (.ref p) H2) :
    tDisp [(tC (.str "arg"), tC (.int 0)), (tC (.str "cell"), tC (.int 1)), (tC (.str "add"), tC (.int 2)), (tC (.str "less"), tC (.int 2)), (tC (.str "least"), tC (.int 2))] σ H Q := by
  intro p np
  refine ⟨upd_same, [(.inr "arg", .int 0), (.inr "cell", .int 1), (.inr "add", .int 2), (.inr "less", .int 2), (.inr "least", .int 2)], rfl, by decide, q p _ ?_ upd_same⟩
  exact (Chg.new np).go (Chg.mut (o := .dK partKV) (upd_same (H := H) (a := p) (o := .dK [])) fun _ e => nomatch e) fun a ha => .inr (by rw [List.mem_singleton.mp ha]; exact np)
theorem val_parts (z : Str) : valV partKV (.inr z) = (partsOf z).map fun k => V.int (k : Nat) := by
  have e : partKV = [(.inr "arg", .int 0), (.inr "cell", .int 1), (.inr "add", .int 2), (.inr "less", .int 2), (.inr "least", .int 2)] := by decide +kernel
  rw [e]
  unfold partsOf
  by_cases h0 : z = "arg"
  · rw [if_pos h0, valV_pos (by rw [h0])]
    rfl
  rw [if_neg h0, valV_neg fun q => h0 (Sum.inr.inj q).symm]
  by_cases h1 : z = "cell"
  · rw [if_pos h1, valV_pos (by rw [h1])]
    rfl
  rw [if_neg h1, valV_neg fun q => h1 (Sum.inr.inj q).symm]
  by_cases h2 : z = "add"
  · rw [if_pos h2, valV_pos (by rw [h2])]
    rfl
  rw [if_neg h2, valV_neg fun q => h2 (Sum.inr.inj q).symm]
  by_cases h3 : z = "less"
  · rw [if_pos h3, valV_pos (by rw [h3])]
    rfl
  rw [if_neg h3, valV_neg fun q => h3 (Sum.inr.inj q).symm]
  by_cases h4 : z = "least"
  · rw [if_pos h4, valV_pos (by rw [h4])]
    rfl
  rw [if_neg h4, valV_neg fun q => h4 (Sum.inr.inj q).symm]
  rfl
def sp__law_is_expression (n : Nat) : Sp := fun vs H Q _ => ∃ (v : V) (d : PyData) (S : Addr → Prop) (m : Nat), vs = [v, .int (m : Nat)] ∧ m + 1 ≤ n ∧ R S H v d ∧ ∀ H', Chg [] H H' → Q (.bl (isExpr m d)) H'
theorem no__law_is_expression (vs : List V) (H : Hp) (Q : VK) (E : XK) : ¬ sp__law_is_expression 0 vs H Q E := by
  rintro ⟨v, d, S, m, _, h, _⟩
  omega
def t__law_is_expression (K : PySem.W.Frag) (n : Nat) : TS :=
    tSeq (tIfS (tOr (tTest (tOp rEq (tVar 1) (tC (.int 0)))) (tB (tCall sp__law_is_whole [] E0 (tCons (tVar 0) (tNil))))) (tRet (tOp oGt (tVar 1) (tC (.int 0)))) (tNext))
    (tSeq (tIfS (tOr (tNot (tB (tCB (rIsi K) (tCons (tVar 0) (tCons (tC (.ty "tuple")) (tNil)))))) (tOr (tTest (tOp oEqE (tVar 0) (tTup (tNil)))) (tNot (tB (tCB (rIsi K) (tCons (tOp (rIxT K) (tVar 0) (tC (.int 0))) (tCons (tC (.ty "str")) (tNil)))))))) (tRet (tC (.bl false))) (tNext))
    (tSeq (tAsg (tDGet2 (tDisp [(tC (.str "arg"), tC (.int 0)), (tC (.str "cell"), tC (.int 1)), (tC (.str "add"), tC (.int 2)), (tC (.str "less"), tC (.int 2)), (tC (.str "least"), tC (.int 2))]) (tOp (rIxT K) (tVar 0) (tC (.int 0))) (tUn (rU fun i => .int (-i)) (tC (.int 1)))) (gName 2))
    (tSeq (tIfS (tTest (tOp rNe (tCB (cLenQ K) (tCons (tVar 0) (tNil))) (tOp oAdd (tVar 2) (tC (.int 1))))) (tRet (tC (.bl false))) (tNext))
    (tRet (tOp oEqE (tLc (iTup K (tSl (rSlA K) (tVar 0) (tPart (tC (.int 1))) (tNoPart))) (gName 3) (tNot (tB (tCall (sp__law_is_expression n) [] E0 (tCons (tVar 3) (tCons (tOp oSub (tVar 1) (tC (.int 1))) (tNil)))))) (tVar 3) [3]) (tLst (tNil)))))))
theorem partsOf_le {z : Str} {k : Nat} (ez : partsOf z = some k) : k ≤ 2 := by
  unfold partsOf at ez
  repeat (split at ez; · cases ez; omega)
  cases ez
theorem w_dget2 {td ty tx : TE} {σ : L2.St} {H : Hp} {Q : VK} (h : td σ H fun x H1 => ∃ a, x = .ref a ∧ IsD H1 a ∧ ty σ H1 fun y H2 => tx σ H2 fun z H3 => ∃ o, DGet H3 a y o ∧ Q (o.getD z) H3) : tDGet2 td ty tx σ H Q := h
theorem pure__law_is_expression {K : PySem.W.Frag} (n : Nat) (vs : List V) (H : Hp) (Q : VK) (E : XK) (h : sp__law_is_expression (n + 1) vs H Q E) : t__law_is_expression K n (fin Q) (start ["thing", "most", "parts", "one"] vs) H := by
  obtain ⟨v, d, S, m, rfl, hm, r, q⟩ := h
  show t__law_is_expression K n _ [some v, some (.int (m : Nat)), none, none] H
  unfold t__law_is_expression
  have q0 := q H .refl
  walk_at "w"
  refine w_iteD (fun h => ?_) (fun h => ?_)
  · walk_at "w"
    have e : m = 0 := by
      have := V.int.inj h
      omega
    subst e
    exact q0
  obtain ⟨k, rfl⟩ : ∃ k, m = k + 1 := ⟨m - 1, by
    have : m ≠ 0 := fun z => h (by rw [z]; rfl)
    omega⟩
  walk_at "w"
  refine ⟨v, d, S, rfl, r, ?_⟩
  walk_at "w"
  have pos : decide ((0 : Int) < ((k + 1 : Nat) : Int)) = true := decide_eq_true (by omega)
  cases r with
  | int i => walk_at "w"; rw [pos]; exact q0
  | non => walk_at "w"; exact q0
  | bl b => walk_at "w"; exact q0
  | str b => walk_at "w"; exact q0
  | lst s e a =>
    have r := R.lst s e a
    walk_at "w"; exact q0
  | dic s e =>
    have r := R.dic s e
    walk_at "w"; exact q0
  | @tup a xs ds e ra =>
    have r := R.tup e ra
    walk_at "w"
    refine k_tup (by walk_at "sz") fun p1 H1 np1 c1 hp1 => ?_
    refine w_eqET (c1.at e) hp1 ?_
    walk_at "w"
    cases ra with
    | nil =>
      walk_at "w"
      exact q H1 c1
    | @cons v0 vs0 d0 ds0 r0 rs =>
      walk_at "w"
      have q1 := q H1 c1
      have rr0 := r0
      cases r0 with
      | int i => walk_at "w"; exact q1
      | non => walk_at "w"; exact q1
      | bl b => walk_at "w"; exact q1
      | lst s1 e1 a1 =>
        have r := (R.lst s1 e1 a1).same c1
        walk_at "w"; exact q1
      | dic s1 e1 =>
        have r := (R.dic s1 e1).same c1
        walk_at "w"; exact q1
      | tup e1 a1 =>
        have r := (R.tup e1 a1).same c1
        walk_at "w"; exact q1
      | str z =>
        walk_at "w"
        refine w_dget2 ?_
        refine d_parts fun p2 H2 c2 h2 => ?_
        refine ⟨p2, rfl, .inl ⟨partKV, .inl h2⟩, ?_⟩
        have e2 := c2.at (c1.at e)
        walk_at "w"
        refine ⟨_, DGet.k (k := .inr z) h2, ?_⟩
        rw [val_parts]
        have q2 := q H2 (c1.same c2)
        have ln := rs.length
        cases ez : partsOf z with
        | none =>
          simp only [Option.map_none, Option.getD_none]
          walk_at "w"
          have e3 : isExpr (k + 1) (.tuple (.str z :: ds0)) = false := by
            unfold isExpr
            rw [ez]
          rw [e3] at q2
          exact q2
        | some pk =>
          simp only [Option.map_some, Option.getD_some]
          have hp := partsOf_le ez
          walk_at "w"
          refine w_iteD (fun h3 => ?_) (fun h3 => ?_)
          · have h' : vs0.length = pk := by
              have := V.int.inj h3
              rw [List.length_cons] at this
              omega
            walk_at "w"
            refine w_slA e2 fun p' H3 c3 h5 => ?_
            rw [cut1] at h5
            walk_at "w"
            have rs2 := rs.same ((c1.same c2).same c3)
            have h5 : H3 p' = some (.tup vs0) := h5
            refine w_lcF walk_tup [] (fun i acc => acc.isEmpty = (ds0.take i).all (isExpr k)) rfl (fun H1 c => sqT (c.at h5)) (fun D i acc z H4 H5 hi nD hD el ac c y => ?_) (fun D acc H4 nD c el hD ac => ?_)
            · obtain ⟨rfl, ey⟩ := y
              obtain ⟨d1, ed, r1⟩ := rs2.get (i := i) (v := z) ey
              walk_at "w"
              have e5 : (((k + 1 : Nat) : Int)) - 1 = (k : Nat) := by omega
              rw [e5]
              refine ⟨z, d1, S, k, rfl, by omega, r1.same c, fun H6 c6 => ?_⟩
              have hi' : i < 3 := by
                have h6 : i < vs0.length := hi
                omega
              walk_at "w"
              refine w_iteB (fun b1 => ?_) (fun b1 => ?_)
              · refine lf_no (c6.at hD) el (c.same c6) ?_
                rw [all_take (isExpr k) ed, ac, b1, Bool.and_true]
              · walk_at "w"
                refine lf_yes nD (c6.at hD) el (by omega) (c.same c6) ?_
                rw [all_take (isExpr k) ed, isE_snoc, b1, Bool.and_false]
            · walk_at "w"
              refine k_lst (by decide) fun p H5 np c5 hp => ?_
              refine w_eqEL (c5.at hD) hp ?_
              have e4 : isExpr (k + 1) (.tuple (.str z :: ds0)) = acc.isEmpty := by
                rw [isExpr, ez, ac, ln, List.take_length]
                show (decide (ds0.length = pk) && ds0.all (isExpr k)) = _
                rw [decide_eq_true (by omega)]
                rfl
              rw [← e4]
              exact q H5 ((((c1.same c2).same c3).same c).same c5)
          · walk_at "w"
            have e3 : isExpr (k + 1) (.tuple (.str z :: ds0)) = false := by
              rw [isExpr, ez]
              show (decide (ds0.length = pk) && ds0.all (isExpr k)) = false
              rw [decide_eq_false ?_]
              · rfl
              · intro h7
                apply h3
                show V.int _ = V.int _
                congr 1
                rw [List.length_cons]
                omega
            rw [e3] at q2
            exact q2
end
section
def sp__law_is_step (K : PySem.W.Frag) : Sp := fun vs H Q _ => ∃ (v : V) (d : PyData) (S : Addr → Prop) (l : Addr) (ns : List Str) (bh : Int), vs = [v, .ref l, .int bh] ∧ R S H v d ∧ smallD d = true ∧ SqL K H l (ns.map V.str) ∧ ∀ H', Chg [] H H' → Q (.bl (isStep ns bh d)) H'
def t__law_is_step (K : PySem.W.Frag) : TS :=
    tSeq (tIfS (tTest (tOp oEqT1 (tVar 0) (tTup (tCons (tC (.str "wait")) (tNil))))) (tRet (tC (.bl true))) (tNext))
    (tSeq (tIfS (tOr (tNot (tB (tCB (rIsi K) (tCons (tVar 0) (tCons (tC (.ty "tuple")) (tNil)))))) (tOr (tTest (tOp rNe (tCB (cLenQ K) (tCons (tVar 0) (tNil))) (tC (.int 3)))) (tNot (tB (tCB (rIsi K) (tCons (tOp (rIxT K) (tVar 0) (tC (.int 0))) (tCons (tC (.ty "str")) (tNil)))))))) (tRet (tC (.bl false))) (tNext))
    (tSeq (tAsg (tVar 0) (gTup K 3 (gCons (gName 3) (gCons (gName 4) (gCons (gName 5) (gNil))))))
    (tSeq (tIfS (tTest (tOp rEq (tVar 3) (tC (.str "skip")))) (tRet (tAndV (tCall (sp__law_is_expression 6) [] E0 (tCons (tVar 4) (tCons (tC (.int 5)) (tNil)))) (tAndV (tCall sp__law_is_whole [] E0 (tCons (tVar 5) (tNil))) (tAndV (tOp oGt (tVar 5) (tC (.int 0))) (tOp oLe (tVar 5) (tVar 2)))))) (tNext))
    (tSeq (tIfS (tTest (tOp rEq (tVar 3) (tC (.str "cell")))) (tRet (tAndV (tCall (sp__law_is_expression 6) [] E0 (tCons (tVar 4) (tCons (tC (.int 5)) (tNil)))) (tCall (sp__law_is_expression 6) [] E0 (tCons (tVar 5) (tCons (tC (.int 5)) (tNil)))))) (tNext))
    (tSeq (tIfS (tTest (tOp rEq (tVar 3) (tC (.str "give")))) (tRet (tAndV (tCall sp__law_is_name [] E0 (tCons (tVar 4) (tNil))) (tCall (sp__law_is_expression 6) [] E0 (tCons (tVar 5) (tCons (tC (.int 5)) (tNil)))))) (tNext))
    (tRet (tAndV (tOp (rIn K false) (tVar 3) (tLst (tCons (tC (.str "fork")) (tCons (tC (.str "call")) (tNil))))) (tAndV (tCall sp__law_is_name [] E0 (tCons (tVar 4) (tNil))) (tAndV (tOp (rIn K false) (tVar 4) (tVar 1)) (tCall (sp__law_is_expression 6) [] E0 (tCons (tVar 5) (tCons (tC (.int 5)) (tNil)))))))))))))
theorem isT1_yes {z : Str} {d : PyData} (h : isT1 z d = true) : d = .tuple [.str z] := by
  cases d with
  | tuple ds =>
    match ds, h with
    | [.str y], h => rw [eq_of_beq h]
  | _ => cases h
theorem pure__law_is_step {K : PySem.W.Frag} (vs : List V) (H : Hp) (Q : VK) (E : XK) (h : sp__law_is_step K vs H Q E) : t__law_is_step K (fin Q) (start ["thing", "names", "behind", "word", "one", "other"] vs) H := by
  obtain ⟨v, d, S, l, ns, bh, rfl, r, sm, hl0, q⟩ := h
  show t__law_is_step K _ [some v, some (.ref l), some (.int bh), none, none, none] H
  unfold t__law_is_step
  walk_at "w"
  refine k_tup (by walk_at "sz") fun p1 H1 np1 c1 hp1 => ?_
  refine w_eqT1 (r.same c1) hp1 ?_
  walk_at "w"
  refine w_iteB (fun b0 => ?_) (fun b0 => ?_)
  · walk_at "w"
    have := q H1 c1
    rw [isT1_yes b0] at this
    exact this
  walk_at "w"
  have q0 := q H1 c1
  have hl := c1.seq hl0
  have r := r.same c1
  have q : ∀ H', Chg [] H1 H' → Q (V.bl (isStep ns bh d)) H' := fun H' c => q H' (c1.same c)
  clear hl0 c1 np1 hp1
  cases r with
  | int i => walk_at "w"; exact q0
  | non => walk_at "w"; exact q0
  | bl b => walk_at "w"; exact q0
  | str b => walk_at "w"; exact q0
  | lst s e a => have r := R.lst s e a; walk_at "w"; exact q0
  | dic s e => have r := R.dic s e; walk_at "w"; exact q0
  | @tup a xs ds e ra =>
    have r := R.tup e ra
    walk_at "w"
    have ln0 := ra.length
    refine w_iteD (fun h3 => ?_) (fun h3 => ?_)
    rotate_left
    · walk_at "w"
      have e2 : isStep ns bh (.tuple ds) = false := by
        have n3 : ds.length ≠ 3 := fun z => h3 (by rw [ln0, z]; rfl)
        match ds, b0, n3 with
        | [], _, _ => rfl
        | .str z :: [], b0, _ =>
          rw [isStep_tup]
          by_cases hz : z = "wait"
          · subst hz
            cases b0
          · rw [if_neg hz]
            rfl
        | .str z :: [d1], b0, _ =>
          rw [isStep_tup]
          by_cases hz : z = "wait"
          · rw [if_pos hz]; rfl
          · rw [if_neg hz]; rfl
        | .str z :: d1 :: d2 :: d3 :: r, b0, _ =>
          rw [isStep_tup]
          by_cases hz : z = "wait"
          · rw [if_pos hz]
            simp
          · rw [if_neg hz]; rfl
        | .str z :: [d1, d2], b0, h => exact absurd rfl h
        | .none :: _, _, _ => rfl
        | .bool _ :: _, _, _ => rfl
        | .int _ :: _, _, _ => rfl
        | .list _ :: _, _, _ => rfl
        | .tuple _ :: _, _, _ => rfl
        | .dict _ :: _, _, _ => rfl
      rw [e2] at q0
      exact q0
    cases ra with
    | nil => (have := V.int.inj h3; simp only [List.length_nil] at this; omega)
    | @cons v0 vs0 d0 ds0 r0 rs =>
     cases rs with
     | nil => (have := V.int.inj h3; simp only [List.length_cons, List.length_nil] at this; omega)
     | @cons v1 vs1 d1 ds1 r1 rs1 =>
      cases rs1 with
      | nil => (have := V.int.inj h3; simp only [List.length_cons, List.length_nil] at this; omega)
      | @cons v2 vs2 d2 ds2 r2 rs2 =>
       cases rs2 with
       | cons _ _ =>
         have := V.int.inj h3
         simp only [List.length_cons] at this
         omega
       | nil =>
        walk_at "w"
        have rr0 := r0
        cases r0 with
        | int i => walk_at "w"; exact q0
        | non => walk_at "w"; exact q0
        | bl b => walk_at "w"; exact q0
        | lst s1 e1 a1 => have r := R.lst s1 e1 a1; walk_at "w"; exact q0
        | dic s1 e1 => have r := R.dic s1 e1; walk_at "w"; exact q0
        | tup e1 a1 => have r := R.tup e1 a1; walk_at "w"; exact q0
        | str z =>
          have sm1 : smallD d1 = true := smallDs_all (ds := [.str z, d1, d2]) sm d1 (by simp)
          walk_at "w"
          have q : ∀ H', Chg [] H1 H' → Q (V.bl (if z = "wait" then false else step3 ns bh z d1 d2)) H' := q
          refine w_iteD (fun hs => ?_) (fun hs => ?_)
          · have hs' : z = "skip" := V.str.inj hs
            subst hs'
            have q : ∀ H', Chg [] H1 H' → Q (V.bl (isExpr 5 d1 && skipOk bh d2)) H' := q
            walk_at "w"
            refine ⟨v1, d1, S, 5, rfl, by omega, r1, fun H2 c2 => ?_⟩
            walk_at "w"
            refine w_iteB (fun b1 => ?_) (fun b1 => ?_)
            · walk_at "w"
              refine ⟨v2, d2, S, rfl, r2.same c2, ?_⟩
              walk_at "w"
              have q1 := q H2 c2
              rw [b1] at q1
              cases r2 with
              | int i =>
                walk_at "w"
                have q1 : Q (V.bl (true && (decide (1 ≤ i) && decide (i ≤ bh)))) H2 := q1
                refine w_iteD (fun g => ?_) (fun g => ?_)
                · walk_at "w"
                  rw [decide_eq_true (show 1 ≤ i by omega)] at q1
                  exact q1
                · walk_at "w"
                  rw [decide_eq_false (show ¬ 1 ≤ i by omega)] at q1
                  exact q1
              | non => walk_at "w"; exact q1
              | bl b => walk_at "w"; exact q1
              | str b => walk_at "w"; exact q1
              | lst s1 e1 a1 => walk_at "w"; exact q1
              | dic s1 e1 => walk_at "w"; exact q1
              | tup e1 a1 => walk_at "w"; exact q1
            · walk_at "w"
              have := q H2 c2
              rw [b1] at this
              exact this
          have hs' : ¬ z = "skip" := fun h => hs (by rw [h])
          walk_at "w"
          refine w_iteD (fun hc => ?_) (fun hc => ?_)
          · have hc' : z = "cell" := V.str.inj hc
            subst hc'
            have q : ∀ H', Chg [] H1 H' → Q (V.bl (isExpr 5 d1 && isExpr 5 d2)) H' := q
            walk_at "w"
            refine ⟨v1, d1, S, 5, rfl, by omega, r1, fun H2 c2 => ?_⟩
            walk_at "w"
            refine w_iteB (fun b1 => ?_) (fun b1 => ?_)
            · walk_at "w"
              refine ⟨v2, d2, S, 5, rfl, by omega, r2.same c2, fun H3 c3 => ?_⟩
              have := q H3 (c2.same c3)
              rw [b1] at this
              exact this
            · walk_at "w"
              have := q H2 c2
              rw [b1] at this
              exact this
          have hc' : ¬ z = "cell" := fun h => hc (by rw [h])
          walk_at "w"
          refine w_iteD (fun hg => ?_) (fun hg => ?_)
          · have hg' : z = "give" := V.str.inj hg
            subst hg'
            have q : ∀ H', Chg [] H1 H' → Q (V.bl (isName d1 && isExpr 5 d2)) H' := q
            walk_at "w"
            refine ⟨v1, d1, S, rfl, r1, smallD_str sm1, fun H2 c2 => ?_⟩
            walk_at "w"
            refine w_iteB (fun b1 => ?_) (fun b1 => ?_)
            · walk_at "w"
              refine ⟨v2, d2, S, 5, rfl, by omega, r2.same c2, fun H3 c3 => ?_⟩
              have := q H3 (c2.same c3)
              rw [b1] at this
              exact this
            · walk_at "w"
              have := q H2 c2
              rw [b1] at this
              exact this
          have hg' : ¬ z = "give" := fun h => hg (by rw [h])
          walk_at "w"
          refine k_lst (by walk_at "sz") fun p2 H2 np2 c2 hp2 => ?_
          refine w_inL (sqL hp2) rfl rfl ?_
          have ein : inV (.str z) [V.str "fork", V.str "call"] = decide (z ∈ (["fork", "call"] : List Str)) := inV_str z ["fork", "call"]
          rw [ein]
          walk_at "w"
          refine w_iteD (fun hm => ?_) (fun hm => ?_)
          rotate_left
          · walk_at "w"
            have n2 : ¬ (z = "fork" ∨ z = "call") := fun h => hm (by rcases h with h | h <;> (rw [h]; simp))
            have := q H2 c2
            unfold step3 at this
            rw [if_neg hc', if_neg hs', if_neg hg', if_neg n2, ite_self] at this
            exact this
          have hf : z = "fork" ∨ z = "call" := by
            simp only [List.mem_cons, List.not_mem_nil, or_false] at hm
            exact hm
          have hw : ¬ z = "wait" := fun h => by
            rw [h] at hf
            revert hf
            decide
          have q : ∀ H', Chg [] H1 H' → Q (V.bl (isName d1 && isExpr 5 d2 && inNm ns d1)) H' := fun H' c => by
            have := q H' c
            unfold step3 at this
            rw [if_neg hw, if_neg hc', if_neg hs', if_neg hg', if_pos hf] at this
            exact this
          walk_at "w"
          refine ⟨v1, d1, S, rfl, r1.same c2, smallD_str sm1, fun H3 c3 => ?_⟩
          walk_at "w"
          refine w_iteB (fun b1 => ?_) (fun b1 => ?_)
          rotate_left
          · walk_at "w"
            have := q H3 (c2.same c3)
            rw [b1] at this
            exact this
          walk_at "w"
          cases r1 with
          | str x1 =>
            refine w_inL ((c2.same c3).seq hl) rfl (flat_strs ns) ?_
            rw [inV_str]
            walk_at "w"
            refine w_iteD (fun hi => ?_) (fun hi => ?_)
            · walk_at "w"
              refine ⟨v2, d2, S, 5, rfl, by omega, r2.same (c2.same c3), fun H4 c4 => ?_⟩
              have := q H4 ((c2.same c3).same c4)
              rw [b1, show inNm ns (.str x1) = true from decide_eq_true hi, Bool.and_true] at this
              exact this
            · walk_at "w"
              have := q H3 (c2.same c3)
              rw [show inNm ns (.str x1) = false from decide_eq_false hi, Bool.and_false] at this
              exact this
          | int i => cases b1
          | non => cases b1
          | bl b => cases b1
          | lst s1 e1 a1 => cases b1
          | dic s1 e1 => cases b1
          | tup e1 a1 => cases b1
end
section
def formFrom : Str → List PyData → Bool
  | _, [] => true
  | a, r :: rs => rowOk r && (ltS a (rowName r) && formFrom (rowName r) rs)
theorem formFrom_eq : ∀ (ds : List PyData) (a : Str), formFrom a ds = (ds.all rowOk && rising (a :: ds.map rowName))
  | [], _ => rfl
  | r :: rs, a => by
    show (rowOk r && (ltS a (rowName r) && formFrom (rowName r) rs)) = ((rowOk r && rs.all rowOk) && (ltS a (rowName r) && rising (rowName r :: rs.map rowName)))
    rw [formFrom_eq rs (rowName r)]
    cases rowOk r <;> cases ltS a (rowName r) <;> cases rs.all rowOk <;> rfl
theorem ltS_empty {x : Str} (h : nameS x = true) : ltS "" x = true := by
  have h1 : 1 ≤ x.length := by
    unfold nameS at h
    simp only [Bool.and_eq_true, decide_eq_true_eq] at h
    exact h.1.1
  unfold ltS
  refine decide_eq_true ?_
  have e : (("" : Str).cps.toList) = [] := by decide +kernel
  rw [e]
  cases hx : x.cps.toList with
  | nil =>
    have : x.cps.size = 0 := by rw [← Array.length_toList, hx]; rfl
    have h2 : x.cps.size = x.length := rfl
    omega
  | cons a b => exact List.nil_lt_cons a b
theorem hasForm_from (ds : List PyData) : hasForm (.list ds) = formFrom "" ds := by
  rw [formFrom_eq]
  show (ds.all rowOk && rising (ds.map rowName)) = _
  cases ds with
  | nil => rfl
  | cons r rs =>
    show _ = ((r :: rs).all rowOk && (ltS "" (rowName r) && rising (rowName r :: rs.map rowName)))
    by_cases h : rowOk r = true
    · obtain ⟨x, ds, rfl, hx⟩ := rowOk_true h
      rw [show ltS "" (rowName (.tuple [.str x, .list ds])) = true from ltS_empty hx]
      rfl
    · have h' : rowOk r = false := by
        cases e : rowOk r with
        | true => exact absurd e h
        | false => rfl
      rw [List.all_cons, h']
      rfl
def lenRows : PyData → Bool
  | .list ds => ds.all fun r => decide ((rowSteps r).length ≤ 100000)
  | _ => true
def sp__law_wrong : Sp := fun vs H Q _ => ∃ (v : V) (d : PyData) (S : Addr → Prop), vs = [v] ∧ R S H v d ∧ smallD d = true ∧ lenOk d = true ∧ lenRows d = true ∧ (firstWrong d = none → ∀ H', Chg [] H H' → Q .non H') ∧
  ∀ o, firstWrong d = some o → ∀ p H', Chg [] H H' → H' p = some (.tup (fwV o)) → Q (.ref p) H'
def t__law_wrong (K : PySem.W.Frag) : TS :=
    tSeq (tIfS (tNot (tB (tCB (rIsi K) (tCons (tVar 0) (tCons (tC (.ty "list")) (tNil)))))) (tRet (tTup (tCons (tC .non) (tCons (tC .non) (tNil))))) (tNext))
    (tSeq (tAsg (tC (.str "")) (gName 1))
    (tSeq (tFor (iList K (tVar 0)) (gName 2) (tSeq (tIfS (tOr (tNot (tB (tCB (rIsi K) (tCons (tVar 2) (tCons (tC (.ty "tuple")) (tNil)))))) (tOr (tTest (tOp rNe (tCB (cLenQ K) (tCons (tVar 2) (tNil))) (tC (.int 2)))) (tNot (tB (tCall sp__law_is_name [] E0 (tCons (tOp (rIxT K) (tVar 2) (tC (.int 0))) (tNil))))))) (tRet (tTup (tCons (tC .non) (tCons (tC .non) (tNil))))) (tNext))
    (tSeq (tIfS (tOr (tNot (tB (tCB (rIsi K) (tCons (tOp (rIxT K) (tVar 2) (tC (.int 1))) (tCons (tC (.ty "list")) (tNil)))))) (tTest (tOp oGeS (tVar 1) (tOp (rIxT K) (tVar 2) (tC (.int 0)))))) (tRet (tTup (tCons (tC .non) (tCons (tC .non) (tNil))))) (tNext))
    (tAsg (tOp (rIxT K) (tVar 2) (tC (.int 0))) (gName 1)))))
    (tSeq (tAsg (tLc (iList K (tVar 0)) (gTup K 2 (gCons (gName 4) (gCons (gName 5) (gNil)))) (tYes) (tVar 4) [4, 5]) (gName 3))
    (tSeq (tFor (iList K (tVar 0)) (gTup K 2 (gCons (gName 4) (gCons (gName 5) (gNil)))) (tFor (iRng1 (tCons (tCB (cLenQ K) (tCons (tVar 5) (tNil))) (tNil))) (gName 6) (tIfS (tNot (tB (tCall (sp__law_is_step K) [] E0 (tCons (tOp (rIxL K) (tVar 5) (tVar 6)) (tCons (tVar 3) (tCons (tOp oSub (tOp oSub (tCB (cLenQ K) (tCons (tVar 5) (tNil))) (tC (.int 1))) (tVar 6)) (tNil))))))) (tRet (tTup (tCons (tVar 4) (tCons (tVar 6) (tNil))))) (tNext))))
    (tRet (tC .non))))))
theorem fw_bad {d : PyData} (h : hasForm d = false) : firstWrong d = some none := by
  unfold firstWrong
  rw [if_neg (by rw [h]; decide)]
theorem pure__law_wrong {K : PySem.W.Frag} (vs : List V) (H : Hp) (Q : VK) (E : XK) (h : sp__law_wrong vs H Q E) : t__law_wrong K (fin Q) (start ["program", "ahead", "row", "names", "name", "steps", "k"] vs) H := by
  obtain ⟨v, d, S, rfl, r, sm, lo, lr, qn, qs⟩ := h
  show t__law_wrong K _ [some v, none, none, none, none, none, none] H
  unfold t__law_wrong
  walk_at "w"
  cases r with
  | int i => walk_at "w"; exact k_tup (by decide) fun p H2 np c2 hp => qs none (fw_bad rfl) p H2 c2 hp
  | non => walk_at "w"; exact k_tup (by decide) fun p H2 np c2 hp => qs none (fw_bad rfl) p H2 c2 hp
  | bl b => walk_at "w"; exact k_tup (by decide) fun p H2 np c2 hp => qs none (fw_bad rfl) p H2 c2 hp
  | str b => walk_at "w"; exact k_tup (by decide) fun p H2 np c2 hp => qs none (fw_bad rfl) p H2 c2 hp
  | tup e1 a1 => walk_at "w"; exact k_tup (by decide) fun p H2 np c2 hp => qs none (fw_bad rfl) p H2 c2 hp
  | dic s e => walk_at "w"; exact k_tup (by decide) fun p H2 np c2 hp => qs none (fw_bad rfl) p H2 c2 hp
  | @lst a xs ds s e ra =>
    have ln := ra.length
    have lo' : ds.length ≤ 1000 := of_decide_eq_true lo
    walk_at "w"
    refine for_it (walk_list (K := K) (a := a) (xs := xs)) (fun i σ H1 => Chg [] H H1 ∧ ∃ ah y, hasForm (.list ds) = formFrom ah (ds.drop i) ∧ σ = [some (.ref a), some (.str ah), y, none, none, none, none]) ⟨.refl, "", none, hasForm_from ds, rfl⟩ (fun i σ H1 _ p => sqL (p.1.at e)) (fun i x σ H1 H2 hi p y => ?_) (fun σ H1 p => ?_)
    · obtain ⟨c1, ah, y1, ff, rfl⟩ := p
      obtain ⟨rfl, ex⟩ := y
      obtain ⟨d1, ed, r1⟩ := ra.get ex
      have r1 := r1.same c1
      have sm1 : smallD d1 = true := smallDs_all (ds := ds) sm _ (List.mem_of_getElem? ed)
      obtain ⟨hli, edi⟩ := List.getElem?_eq_some_iff.mp ed
      rw [List.drop_eq_getElem_cons hli, edi] at ff
      have bad : ∀ {H3 : Hp}, (rowOk d1 && (ltS ah (rowName d1) && formFrom (rowName d1) (ds.drop (i + 1)))) = false → Chg [] H2 H3 → KTup (fin Q).rt [.non, .non] H3 := fun {H3} hb c3 =>
        k_tup (by decide) fun p H4 np c4 hp => qs none (fw_bad (ff.trans hb)) p H4 ((c1.same c3).same c4) hp
      have bad0 : ∀ {H3 : Hp}, rowOk d1 = false → Chg [] H2 H3 → KTup (fin Q).rt [.non, .non] H3 := fun {H3} hb c3 => bad (by rw [hb]; rfl) c3
      walk_at "w"
      cases r1 with
      | int i => walk_at "w"; exact bad0 rfl .refl
      | non => walk_at "w"; exact bad0 rfl .refl
      | bl b => walk_at "w"; exact bad0 rfl .refl
      | str b => walk_at "w"; exact bad0 rfl .refl
      | lst s1 e1 a1 => walk_at "w"; exact bad0 rfl .refl
      | dic s1 e1 => walk_at "w"; exact bad0 rfl .refl
      | @tup b ys dt e1 ra1 =>
        have ln1 := ra1.length
        walk_at "w"
        refine w_iteD (fun h2 => ?_) (fun h2 => ?_)
        rotate_left
        · walk_at "w"
          refine bad0 (rowOk_false fun x0 ds0 e0 => ?_) .refl
          exfalso
          apply h2
          rw [ln1, PyData.tuple.inj e0]
          rfl
        cases ra1 with
        | nil => (have := V.int.inj h2; simp only [List.length_nil] at this; omega)
        | @cons v0 vs0 d0 ds0 r0 rs0 =>
          cases rs0 with
          | nil => (have := V.int.inj h2; simp only [List.length_cons, List.length_nil] at this; omega)
          | @cons v1 vs1 dd1 ds1 rr1 rs1 =>
            cases rs1 with
            | cons _ _ =>
              have := V.int.inj h2
              simp only [List.length_cons] at this
              omega
            | nil =>
              have smn : smallD d0 = true := smallDs_all (ds := [d0, dd1]) sm1 d0 (by simp)
              walk_at "w"
              refine ⟨v0, d0, S, rfl, r0, smallD_str smn, fun H3 c3 => ?_⟩
              walk_at "w"
              refine w_iteB (fun b1 => ?_) (fun b1 => ?_)
              rotate_left
              · walk_at "w"
                refine bad0 (rowOk_false fun x0 ds0 e0 => ?_) c3
                have e9 := PyData.tuple.inj e0
                simp only [List.cons.injEq, and_true] at e9
                rw [e9.1] at b1
                exact b1
              cases r0 with
              | int i => cases b1
              | non => cases b1
              | bl b => cases b1
              | lst s1 e1 a1 => cases b1
              | dic s1 e1 => cases b1
              | tup e1 a1 => cases b1
              | str x0 =>
                have e4 := c3.at e1
                have rr2 := rr1.same c3
                walk_at "w"
                cases rr1 with
                | int i => walk_at "w"; exact bad0 rfl c3
                | non => walk_at "w"; exact bad0 rfl c3
                | bl b => walk_at "w"; exact bad0 rfl c3
                | str b => walk_at "w"; exact bad0 rfl c3
                | tup e5 a5 => walk_at "w"; exact bad0 rfl c3
                | dic s5 e5 => walk_at "w"; exact bad0 rfl c3
                | @lst l5 ys5 ds5 s5 e5 ra5 =>
                  walk_at "w"
                  refine w_iteD (fun h5 => ?_) (fun h5 => ?_)
                  · walk_at "w"
                    refine ⟨c1.same c3, x0, _, ?_, rfl⟩
                    have ff : hasForm (.list ds) = (nameS x0 && (ltS ah x0 && formFrom x0 (ds.drop (i + 1)))) := ff
                    rw [show nameS x0 = true from b1, show ltS ah x0 = true from decide_eq_true h5] at ff
                    exact ff
                  · walk_at "w"
                    refine bad ?_ c3
                    show (nameS x0 && (ltS ah x0 && formFrom x0 (ds.drop (i + 1)))) = false
                    rw [show ltS ah x0 = false from decide_eq_false h5, Bool.false_and, Bool.and_false]
    · obtain ⟨c1, ah, y1, ff, rfl⟩ := p
      have hf : hasForm (.list ds) = true := by
        rw [ff, List.drop_eq_nil_of_le (by omega)]
        rfl
      have efw : firstWrong (.list ds) = (wrongIn (ds.map rowName) ds).map some := by
        unfold firstWrong
        rw [if_pos hf]
        rfl
      have allok : ds.all rowOk = true := (Bool.and_eq_true_iff.mp (show (ds.all rowOk && rising (ds.map rowName)) = true from hf)).1
      have ra1 := ra.same c1
      have e1 := c1.at e
      walk_at "w"
      refine w_lcP walk_list [] (fun _ _ => True) (fun i y _ => ∃ d, ds[i]? = some d ∧ y = .str (rowName d)) trivial (fun _ _ _ _ _ _ _ => trivial) (fun H2 c => sqL (c.at e1)) (fun D i acc z H2 H3 hi nD hD el iv c _ y => ?_) (fun D acc H2 nD c _ el hD ys => ?_)
      · obtain ⟨rfl, ex⟩ := y
        obtain ⟨d1, ed, r1⟩ := ra1.get ex
        obtain ⟨x, ds1, rfl, hx⟩ := rowOk_true (List.all_eq_true.mp allok d1 (List.mem_of_getElem? ed))
        cases r1 with
        | tup e2 ra2 =>
          cases ra2 with
          | cons r0 rs0 =>
            cases rs0 with
            | cons r3 rs3 =>
              cases rs3
              cases r0
              have e3 := c.at e2
              walk_at "w"
              exact lcp_end (fun _ _ _ _ _ _ _ => trivial) (fun _ _ _ _ _ _ _ h => h) nD (by simp) hD el (by omega) iv .refl trivial ⟨_, ed, rfl⟩
      · have e3 : acc = (ds.map rowName).map V.str := by
          apply List.ext_getElem?
          intro i
          rw [List.getElem?_map, List.getElem?_map]
          by_cases hi : i < xs.length
          · have e4 : acc[i]? = some acc[i] := List.getElem?_eq_getElem (by omega)
            obtain ⟨d1, ed, e5⟩ := ys i _ e4
            rw [e4, ed, e5]
            rfl
          · rw [List.getElem?_eq_none (by omega), List.getElem?_eq_none (by omega)]
            rfl
        subst e3
        walk_at "w"
        have e2 := c.at e1
        have ra2 := ra1.same c
        have c12 := c1.same c
        refine for_it (walk_list (K := K) (a := a) (xs := xs)) (fun i σ H3 => Chg [] H2 H3 ∧ wrongIn (ds.map rowName) ds = wrongIn (ds.map rowName) (ds.drop i) ∧ ∃ y2 y3 y4 y5 y6, σ = [some (.ref a), y5, y6, some (.ref D), y2, y3, y4]) ⟨.refl, rfl, _, _, _, _, _, rfl⟩ (fun i σ H3 _ p => sqL (p.1.at e2)) (fun i x σ H3 H4 hi p y => ?_) (fun σ H3 p => ?_)
        · obtain ⟨c3, wr, y2, y3, y4, y5, y6, rfl⟩ := p
          obtain ⟨rfl, ex⟩ := y
          obtain ⟨d1, ed, r1⟩ := ra2.get ex
          obtain ⟨x1, ds1, rfl, hx⟩ := rowOk_true (List.all_eq_true.mp allok d1 (List.mem_of_getElem? ed))
          have sm1 : smallD (.tuple [.str x1, .list ds1]) = true := smallDs_all (ds := ds) sm _ (List.mem_of_getElem? ed)
          have sm2 : smallDs ds1 = true := smallDs_all (ds := [.str x1, .list ds1]) sm1 (.list ds1) (by simp)
          obtain ⟨hli, edi⟩ := List.getElem?_eq_some_iff.mp ed
          have wr1 : wrongIn (ds.map rowName) ds = (match wrongAt (ds.map rowName) 0 ds1 with
              | some k => some (x1, k)
              | none => wrongIn (ds.map rowName) (ds.drop (i + 1))) := by
            rw [wr, List.drop_eq_getElem_cons hli, edi]
            rfl
          cases r1 with
          | tup e4 ra4 =>
            cases ra4 with
            | cons r0 rs0 =>
              cases rs0 with
              | cons r3 rs3 =>
                cases rs3
                cases r0
                cases r3 with
                | @lst l5 ys5 _ s5 e5 ra5 =>
                  have e6 := c3.at e4
                  have e7 := c3.at e5
                  have ln5 := ra5.length
                  have lr5 : ds1.length ≤ 100000 := of_decide_eq_true (List.all_eq_true.mp lr _ (List.mem_of_getElem? ed))
                  walk_at "w"
                  refine for_it (walk_range (lo := 0) (n := ((ys5.length : Nat) : Int).toNat)) (fun j σ H5 => Chg [] H4 H5 ∧ wrongAt (ds.map rowName) 0 ds1 = wrongAt (ds.map rowName) j (ds1.drop j) ∧ ∃ y4 y5 y6, σ = [some (.ref a), y5, y6, some (.ref D), some (.str x1), some (.ref l5), y4]) ⟨.refl, rfl, _, _, _, rfl⟩ (fun _ _ _ _ _ => trivial) (fun j x σ H5 H6 hj p y => ?_) (fun σ H5 p => ?_)
                  · obtain ⟨c5, wa, z4, z5, z6, rfl⟩ := p
                    obtain ⟨rfl, rfl⟩ := y
                    have hj' : j < ys5.length := by omega
                    have ey : ys5[j]? = some ys5[j] := List.getElem?_eq_getElem hj'
                    obtain ⟨d6, ed6, r6⟩ := ra5.get ey
                    have e8 := c5.at e7
                    have ej : (0 : Int) + (j : Nat) = (j : Nat) := by omega
                    show gName 6 (V.int (0 + ((j : Nat) : Int))) _ _ _
                    rw [ej]
                    have ea : atI ys5 ((j : Nat) : Int) = some ys5[j] := atI_nat ey
                    walk_at "w"
                    have c6 := c3.same c5
                    refine ⟨ys5[j], d6, S, D, ds.map rowName, (ys5.length : Int) - 1 - (j : Nat), rfl, r6.same c6, smallDs_all sm2 d6 (List.mem_of_getElem? ed6), sqL (c6.at hD), fun H7 c7 => ?_⟩
                    have eln : ((ys5.length : Int) - 1 - (j : Nat)) = ((ds1.length : Int) - (j : Nat) - 1) := by omega
                    rw [eln]
                    walk_at "w"
                    refine w_iteB (fun b1 => ?_) (fun b1 => ?_)
                    · walk_at "w"
                      exact ⟨c5.same c7, by rw [wa, wrongAt_skip ed6 b1], _, _, _, rfl⟩
                    · walk_at "w"
                      refine k_tup (by walk_at "sz") fun p H8 np c8 hp => ?_
                      refine qs (some (x1, j)) ?_ p H8 ((c12.same (c6.same c7)).same c8) hp
                      rw [efw, wr1, wa, wrongAt_here ed6 b1]
                      rfl
                  · obtain ⟨c5, wa, z4, z5, z6, rfl⟩ := p
                    refine ⟨c3.same c5, ?_, _, _, _, _, _, rfl⟩
                    rw [wr1, wa, List.drop_eq_nil_of_le (by omega)]
                    rfl
        · obtain ⟨c3, wr, y2, y3, y4, y5, y6, rfl⟩ := p
          walk_at "w"
          refine qn ?_ H3 (c12.same c3)
          rw [efw, wr, List.drop_eq_nil_of_le (by omega)]
          rfl
end
section
/-- of anything: refused with its fields -/
def sp_check (K : PySem.W.Frag) : Sp := fun vs H Q E => ∃ (v : V) (d : PyData) (S : Addr → Prop), vs = [v] ∧ R S H v d ∧ smallD d = true ∧ lenOk d = true ∧ (firstWrong d = none → ∀ H', Chg [] H H' → Q .non H') ∧
  ∀ o, firstWrong d = some o → ∀ dd H', Chg [] H H' → H' dd = some (.xd (xfs ["helper", "at"] (fwV o) [])) → E (.ref (He.ga K "NoProgram")) (some dd) H'
def t_check (E : XK) (K : PySem.W.Frag) : TS :=
    tSeq (tAsg (tCall sp_first_wrong [] E0 (tCons (tVar 0) (tNil))) (gName 1))
    (tIfS (tTest (tOp oNotN (tVar 1) (tC .non))) (tRaiseX (He.ga K "NoProgram") ["helper", "at"] E (tCons (tOp (rIxT K) (tVar 1) (tC (.int 0))) (tCons (tOp (rIxT K) (tVar 1) (tC (.int 1))) (tNil)))) (tNext))
theorem pure_check {K : PySem.W.Frag} (vs : List V) (H : Hp) (Q : VK) (E : XK) (h : sp_check K vs H Q E) : t_check E K (fin Q) (start ["program", "wrong"] vs) H := by
  obtain ⟨v, d, S, rfl, r, sm, lo, qn, qs⟩ := h
  show t_check E K _ [some v, none] H
  unfold t_check
  walk_at "w"
  refine ⟨v, d, S, rfl, r, sm, lo, fun e H1 c1 => ?_, fun o e p H1 c1 hp => ?_⟩
  · walk_at "w"
    exact qn e H1 c1
  · walk_at "w"
    refine w_raiseX ?_
    cases o with
    | none =>
      have hp : H1 p = some (.tup [.non, .non]) := hp
      walk_at "w"
      exact ⟨rfl, by simp, fun dd H2 c2 _ h2 => qs none e dd H2 (c1.same c2) h2⟩
    | some o =>
      obtain ⟨n, k⟩ := o
      have hp : H1 p = some (.tup [.str n, .int (k : Nat)]) := hp
      walk_at "w"
      exact ⟨rfl, by simp, fun dd H2 c2 _ h2 => qs (some (n, k)) e dd H2 (c1.same c2) h2⟩
end
section
def sp__law_told : Sp := fun vs H Q _ => ∃ (v : V) (d : PyData) (S : Addr → Prop), vs = [v] ∧ R S H v d ∧ smallD d = true ∧ lenOk d = true ∧
  (firstWrong d = none → ∀ p H', Chg [] H H' → H' p = some (.tup [.bl true, .non]) → Q (.ref p) H') ∧
  ∀ o, firstWrong d = some o → ∀ p p2 H', Chg [] H H' → H' p = some (.tup [.bl false, .ref p2, .bl true]) → H' p2 = some (.tup (fwV o)) → Q (.ref p) H'
def t__law_told (K : PySem.W.Frag) : TS :=
    tSeq (tAsg (tC .non) (gName 1))
    (tSeq (tAsg (tC .non) (gName 2))
    (tSeq (tTryH K (.ref (He.ga K "WorkError")) 3 (fun W => tAsg (tCallSD (sp_check K) [] (WE (W)) (tCons (tVar 0) (tNil))) (gName 2)) (fun a cls d => tAsg (tVar 3) (gName 1)) (fun _ _ _ _ => False))
    (tSeq (tIfS (tTest (tOp oIsN (tVar 1) (tC .non))) (tRet (tTup (tCons (tCall sp_is_program [] E0 (tCons (tVar 0) (tNil))) (tCons (tVar 2) (tNil))))) (tNext))
    (tSeq (tIfS (tB (tCB (rIsHT K) (tCons (tVar 1) (tCons (tTup (tCons (tC (.ref (He.ga K "NoHand"))) (tCons (tC (.ref (He.ga K "NoHelper"))) (tCons (tC (.ref (He.ga K "NoMark"))) (tCons (tC (.ref (He.ga K "NotOver"))) (tCons (tC (.ref (He.ga K "NoText"))) (tCons (tC (.ref (He.ga K "TooLong"))) (tNil)))))))) (tNil))))) (tRet (tC (.str "another class"))) (tNext))
    (tSeq (tIfS (tNot (tB (tCB (rIsH K) (tCons (tVar 1) (tCons (tC (.ref (He.ga K "NoProgram"))) (tNil)))))) (tRet (tC (.str "another class"))) (tNext))
    (tRet (tTup (tCons (tCall sp_is_program [] E0 (tCons (tVar 0) (tNil))) (tCons (tTup (tCons (tXh K "helper" (tVar 1)) (tCons (tXh K "at" (tVar 1)) (tNil)))) (tCons (tCB (rIsH K) (tCons (tVar 1) (tCons (tC (.ty "ValueError")) (tNil)))) (tNil)))))))))))
theorem pure__law_told {K : PySem.W.Frag} (XX : XF K) (vs : List V) (H : Hp) (Q : VK) (E : XK) (h : sp__law_told vs H Q E) : t__law_told K (fin Q) (start ["program", "caught", "fields", "e"] vs) H := by
  obtain ⟨v, d, S, rfl, r, sm, lo, qn, qs⟩ := h
  show t__law_told K _ [some v, none, none, none] H
  unfold t__law_told
  walk_at "w"
  refine w_tryH ?_
  walk_at "w"
  refine w_callX ?_
  walk_at "w"
  refine ⟨v, d, S, rfl, r, sm, lo, fun e H1 c1 => ?_, fun o e dd H1 c1 h1 => ?_⟩
  · walk_at "w"
    refine ⟨v, d, S, rfl, r.same c1, sm, lo, fun H2 c2 => ?_⟩
    walk_at "w"
    refine k_tup (by walk_at "sz") fun p H3 np c3 hp => ?_
    rw [e] at hp
    exact qn e p H3 ((c1.same c2).same c3) hp
  · refine ⟨true, XX.exm, fun _ a na => ?_, fun z => by cases z⟩
    walk_at "w"
    intro _
    have c2 : Chg [] H1 (upd H1 a (ExH (.ref (He.ga K "NoProgram")) (some dd) a)) := .new na
    have hA : (upd H1 a (ExH (.ref (He.ga K "NoProgram")) (some dd) a)) a = some (ExH (.ref (He.ga K "NoProgram")) (some dd) a) := upd_same
    generalize upd H1 a (ExH (.ref (He.ga K "NoProgram")) (some dd) a) = H2 at c2 hA ⊢
    have hd := c2.at h1
    show tSeq _ _ _ [some v, some (.ref a), some .non, none] H2
    walk_at "w"
    refine k_tup (by walk_at "sz") fun p3 H3 np3 c3 hp3 => ?_
    walk_at "w"
    refine ⟨a, _, dd, _, p3, _, _, false, rfl, hp3, .cons (.own _) (.cons (.own _) (.cons (.own _) (.cons (.own _) (.cons (.own _) (.cons (.own _) .nil))))), c3.at hA, XX.np.is, c3.at hd, XX.no, ?_⟩
    walk_at "w"
    refine ⟨a, _, dd, _, _, _, true, rfl, .own _, c3.at hA, XX.np.is, c3.at hd, XX.yes, ?_⟩
    walk_at "w"
    have c123 := (c1.same c2).same c3
    refine ⟨v, d, S, rfl, r.same c123, sm, lo, fun H4 c4 => ?_⟩
    have hA4 := c4.at (c3.at hA)
    have hd4 := c4.at (c3.at hd)
    walk_at "w"
    obtain ⟨x, y, exy⟩ : ∃ x y, fwV o = [x, y] := by
      cases o with
      | none => exact ⟨_, _, rfl⟩
      | some o => exact ⟨_, _, rfl⟩
    have ex : xfs ["helper", "at"] (fwV o) [] = [(("at" : Str), y), (("helper" : Str), x)] := by rw [exy]; rfl
    rw [ex] at hd4
    have e9 : (("helper" : Str) == ("at" : Str)) = false := by decide +kernel
    have l1 : List.lookup ("helper" : Str) [(("at" : Str), y), (("helper" : Str), x)] = some x := by simp [List.lookup, e9]
    have l2 : List.lookup ("at" : Str) [(("at" : Str), y), (("helper" : Str), x)] = some y := by simp [List.lookup]
    have n1 := XX.inp.no ("helper" : Str) (by simp)
    have n2 := XX.inp.no ("at" : Str) (by simp)
    refine w_xh rfl hA4 XX.np.xf n1 hd4 l1 ?_
    walk_at "w"
    refine w_xh rfl hA4 XX.np.xf n2 hd4 l2 ?_
    walk_at "w"
    refine k_tup (by walk_at "sz") fun p5 H5 np5 c5 hp5 => ?_
    walk_at "w"
    refine ⟨a, _, dd, _, _, _, true, rfl, .ty _, c5.at hA4, XX.np.is, c5.at hd4, XX.ve, ?_⟩
    walk_at "w"
    refine k_tup (by walk_at "sz") fun p6 H6 np6 c6 hp6 => ?_
    rw [e] at hp6
    refine qs o e p6 p5 H6 (((c123.same c4).same c5).same c6) hp6 ?_
    rw [exy]
    exact c6.at hp5
def sp__law_alike : Sp := fun vs H Q _ => ∃ (v : V) (d : PyData) (S : Addr → Prop), vs = [v] ∧ R S H v d ∧ smallD d = true ∧ lenOk d = true ∧ lenRows d = true ∧ ∀ H', Chg [] H H' → Q (.bl true) H'
def t__law_alike (K : PySem.W.Frag) : TS :=
    tSeq (tAsg (tCall sp__law_wrong [] E0 (tCons (tVar 0) (tNil))) (gName 1))
    (tSeq (tAsg (tCall sp__law_told [] E0 (tCons (tVar 0) (tNil))) (gName 2))
    (tSeq (tIfS (tTest (tOp oIsN (tVar 1) (tC .non))) (tRet (tAndV (tCB (rIsi K) (tCons (tVar 2) (tCons (tC (.ty "tuple")) (tNil)))) (tAndV (tOp oIsB (tOp (rIxT K) (tVar 2) (tC (.int 0))) (tC (.bl true))) (tAndV (tOp oIsN (tOp (rIxT K) (tVar 2) (tC (.int 1))) (tC .non)) (tOp rEq (tCB (cLenQ K) (tCons (tVar 2) (tNil))) (tC (.int 2))))))) (tNext))
    (tSeq (tIfS (tOr (tNot (tB (tCB (rIsi K) (tCons (tVar 2) (tCons (tC (.ty "tuple")) (tNil)))))) (tOr (tTest (tOp rNe (tCB (cLenQ K) (tCons (tVar 2) (tNil))) (tC (.int 3)))) (tOr (tTest (tOp oNotB (tOp (rIxT K) (tVar 2) (tC (.int 0))) (tC (.bl false)))) (tTest (tOp oNotB (tOp (rIxT K) (tVar 2) (tC (.int 2))) (tC (.bl true))))))) (tRet (tC (.bl false))) (tNext))
    (tRet (tAndV (tOp oEqD (tOp (rIxT K) (tVar 2) (tC (.int 1))) (tVar 1)) (tNotV (tCB (rIsi K) (tCons (tOp (rIxT K) (tOp (rIxT K) (tVar 2) (tC (.int 1))) (tC (.int 1))) (tCons (tC (.ty "bool")) (tNil))))))))))
theorem pure__law_alike {K : PySem.W.Frag} (vs : List V) (H : Hp) (Q : VK) (E : XK) (h : sp__law_alike vs H Q E) : t__law_alike K (fin Q) (start ["program", "due", "found"] vs) H := by
  obtain ⟨v, d, S, rfl, r, sm, lo, lr, q⟩ := h
  show t__law_alike K _ [some v, none, none] H
  unfold t__law_alike
  walk_at "w"
  refine ⟨v, d, S, rfl, r, sm, lo, lr, fun e H1 c1 => ?_, fun o e p H1 c1 hp => ?_⟩
  · walk_at "w"
    refine ⟨v, d, S, rfl, r.same c1, sm, lo, fun _ p H2 c2 h2 => ?_, fun o e' => by rw [e] at e'; cases e'⟩
    have r2 : R S H2 (.ref p) (.tuple [.bool true, .none]) := .tup h2 (.cons (.bl _) (.cons .non .nil))
    walk_at "w"
    exact q H2 (c1.same c2)
  · walk_at "w"
    refine ⟨v, d, S, rfl, r.same c1, sm, lo, fun e' => (by rw [e] at e'; cases e'), fun o' e' p2 p3 H2 c2 h2 h3 => ?_⟩
    rw [e] at e'
    cases e'
    have hp2 := c2.at hp
    cases o with
    | none =>
      have hp2 : H2 p = some (.tup [.non, .non]) := hp2
      have h3 : H2 p3 = some (.tup [.non, .non]) := h3
      have r3 : R S H2 (.ref p3) (.tuple [.none, .none]) := .tup h3 (.cons .non (.cons .non .nil))
      have rp : R S H2 (.ref p) (.tuple [.none, .none]) := .tup hp2 (.cons .non (.cons .non .nil))
      have r2 : R S H2 (.ref p2) (.tuple [.bool false, .tuple [.none, .none], .bool true]) := .tup h2 (.cons (.bl _) (.cons r3 (.cons (.bl _) .nil)))
      walk_at "w"
      refine w_eqD r3 rp rfl rfl (by decide) ?_
      walk_at "w"
      exact q H2 (c1.same c2)
    | some o =>
      obtain ⟨n, k⟩ := o
      have hp2 : H2 p = some (.tup [.str n, .int (k : Nat)]) := hp2
      have h3 : H2 p3 = some (.tup [.str n, .int (k : Nat)]) := h3
      have r3 : R S H2 (.ref p3) (.tuple [.str n, .int (k : Nat)]) := .tup h3 (.cons (.str _) (.cons (.int _) .nil))
      have rp : R S H2 (.ref p) (.tuple [.str n, .int (k : Nat)]) := .tup hp2 (.cons (.str _) (.cons (.int _) .nil))
      have r2 : R S H2 (.ref p2) (.tuple [.bool false, .tuple [.str n, .int (k : Nat)], .bool true]) := .tup h2 (.cons (.bl _) (.cons r3 (.cons (.bl _) .nil)))
      walk_at "w"
      refine w_eqD r3 rp rfl rfl (by simp [PyData.depth, PyData.depthAll]) ?_
      rw [show PyData.eqv (.tuple [.str n, .int (k : Nat)]) (.tuple [.str n, .int (k : Nat)]) = true from eqv_self _ rfl]
      walk_at "w"
      exact q H2 (c1.same c2)
end
end Fg
namespace Fg
open PySem PySem.Spec PyProof.Rows L2
local macro_rules | `(tactic| walk_at "hp") => `(tactic| first
  | assumption
  | exact upd_same
  | (refine Chg.at (by assumption) ?_; walk_at "hp")
  | (refine Chg.at1 (by assumption) ?_ (by walk_at "ne"); walk_at "hp"))
local macro_rules | `(tactic| walk_at "ne") => `(tactic| first | assumption | (apply Ne.symm; assumption))
local macro_rules | `(tactic| walk_at "sq") => `(tactic| first | assumption | exact sqL (by walk_at "hp") | (refine Chg.seq (by assumption) ?_; walk_at "sq"))
local macro_rules | `(tactic| walk_at "sz") => `(tactic| first | assumption | exact Nat.zero_le _ | (simp only [List.length_cons, List.length_nil]; decide) | exact Nat.le_trans (by first | omega | (simp; done) | (simp; omega)) (show 100000 ≤ sizeLine by decide) | exact Nat.lt_of_lt_of_le (by first | omega | (simp; done) | (simp; omega)) (show 100000 ≤ sizeLine by decide))
local macro_rules | `(tactic| walk_at "ix") => `(tactic| first | exact at0 | exact at1 | exact at2 | exact at3 | assumption | exact rfl | walk_at "ix2")
local macro_rules | `(tactic| walk_at "ix2") => `(tactic| fail)
local macro_rules | `(tactic| walk_at "num") => `(tactic| first | assumption | omega | decide | walk_at "num2")
local macro_rules | `(tactic| walk_at "num2") => `(tactic| fail)
local macro_rules | `(tactic| walk_at "im") => `(tactic| first | assumption | exact R.non (S := fun _ => False) | exact R.bl (S := fun _ => False) _ | exact R.int (S := fun _ => False) _ | exact R.str (S := fun _ => False) _ | (refine R.im (by assumption) ?_; walk_at "im"))
local macro_rules | `(tactic| walk_at "r") => `(tactic| first | assumption | exact R.non (S := fun _ => False) | exact R.bl (S := fun _ => False) _ | exact R.int (S := fun _ => False) _ | exact R.str (S := fun _ => False) _ | (refine R.same (by assumption) ?_; walk_at "r") | exact R.any (by walk_at "im"))
local macro_rules | `(tactic| walk_at "chg") => `(tactic| first
  | exact Chg.refl
  | assumption
  | (refine Chg.same ?_ (by assumption); walk_at "chg")
  | (refine Chg.both ?_ (by assumption); walk_at "chg")
  | (refine Chg.pre (by assumption) ?_; walk_at "chg"))
local macro_rules | `(tactic| walk_at "w1") => `(tactic| first
  | with_reducible apply w_seq
  | with_reducible apply w_asg
  | ((with_reducible apply w_var); (focus (exact rfl)))
  | with_reducible apply w_c
  | with_reducible apply w_op
  | with_reducible apply w_cons
  | with_reducible apply w_nil
  | with_reducible apply w_gName
  | with_reducible apply w_if
  | with_reducible apply w_test
  | with_reducible apply w_B
  | with_reducible apply w_isbl
  | with_reducible apply w_retN
  | with_reducible apply w_next
  | with_reducible apply w_drop
  | with_reducible apply w_cb
  | with_reducible apply w_call
  | with_reducible apply w_callN
  | with_reducible apply w_bm
  | with_reducible apply w_bm0
  | ((with_reducible apply w_tyL); (focus (walk_at "hp"; done)))
  | with_reducible apply w_dput
  | with_reducible apply w_m1
  | with_reducible apply w_isstr
  | with_reducible apply w_and
  | with_reducible apply w_or
  | with_reducible apply w_not
  | with_reducible apply w_andV
  | with_reducible apply w_orV
  | with_reducible apply w_notV
  | with_reducible apply w_ifE
  | with_reducible apply w_chain
  | with_reducible apply w_un
  | with_reducible apply w_neg
  | with_reducible apply w_add
  | with_reducible apply w_sub
  | ((with_reducible apply w_mod); (focus (walk_at "num"; done)))
  | ((with_reducible apply w_mul); (focus (walk_at "num"; done)))
  | ((with_reducible apply w_fdiv); (focus (walk_at "num"; done)))
  | ((with_reducible apply w_pow); (focus (walk_at "num"; done)))
  | with_reducible apply w_lt
  | with_reducible apply w_le
  | with_reducible apply w_gt
  | with_reducible apply w_ge
  | with_reducible apply w_ltS
  | with_reducible apply w_geS
  | with_reducible apply w_inC
  | with_reducible apply w_notInC
  | with_reducible apply w_isN
  | with_reducible apply w_notN
  | with_reducible apply w_isB
  | with_reducible apply w_notB
  | ((with_reducible apply w_addS); (focus (walk_at "sz"; done)))
  | ((with_reducible apply w_ixL); (focus (walk_at "sq"; done)); (focus (walk_at "ix"; done)))
  | ((with_reducible apply w_ixT); (focus (walk_at "hp"; done)); (focus (walk_at "ix"; done)))
  | ((with_reducible apply w_ixS); (focus (walk_at "sz"; done)); (focus (walk_at "ix"; done)))
  | with_reducible apply w_gSub
  | ((with_reducible apply w_gTup); (focus (walk_at "hp"; done)); (focus (exact rfl)))
  | with_reducible apply w_gCons
  | with_reducible apply w_gNil
  | ((with_reducible apply w_aug); (focus (exact rfl)))
  | with_reducible apply w_ipI
  | ((with_reducible apply w_eq); (focus (exact rfl)))
  | ((with_reducible apply w_ne); (focus (exact rfl)))
  | with_reducible apply w_max
  | with_reducible apply w_min
  | with_reducible apply w_abs
  | with_reducible apply w_intB
  | with_reducible apply w_intI
  | with_reducible apply w_tup1
  | with_reducible apply w_lst1
  | with_reducible apply w_sl
  | with_reducible apply w_part
  | with_reducible apply w_noPart
  | with_reducible apply w_isint
  | ((with_reducible apply w_slS); (focus (walk_at "sz"; done)))
  | with_reducible apply w_iteT
  | with_reducible apply w_iteF
  | with_reducible apply w_iteN
  | ((with_reducible apply w_iteYes); (focus (exact rfl)))
  | ((with_reducible apply w_iteNo); (focus (exact rfl)))
  | ((with_reducible apply w_lenL); (focus (walk_at "sq"; done)))
  | ((with_reducible apply w_lenT); (focus (walk_at "hp"; done)))
  | ((with_reducible apply w_lenS); (focus (walk_at "sz"; done)))
  | with_reducible apply w_lc
  | with_reducible apply w_for
  | with_reducible apply w_yes
  | ((with_reducible apply w_wipe); (focus (exact rfl)))
  | with_reducible apply w_iList
  | with_reducible apply w_iTup
  | with_reducible apply w_iStr
  | with_reducible apply w_iRng1
  | with_reducible apply w_iRng2
  | with_reducible apply w_iZip
  | with_reducible apply w_iEnum
  | ((with_reducible apply d_iList); (focus (walk_at "sq"; done)))
  | ((with_reducible apply d_iTup); (focus (walk_at "hp"; done)))
  | with_reducible apply d_iStr
  | ((with_reducible apply d_iRng1); (focus (walk_at "num"; done)); (focus (walk_at "num"; done)))
  | ((with_reducible apply d_iRng2); (focus (walk_at "num"; done)); (focus (walk_at "num"; done)); (focus (walk_at "num"; done)); (focus (walk_at "num"; done)))
  | ((with_reducible apply d_iZip); (focus (walk_at "sq"; done)); (focus (walk_at "sq"; done)))
  | ((with_reducible apply d_iEnum); (focus (walk_at "sq"; done)))
  | walk_at "w2")
local macro_rules | `(tactic| walk_at "w2") => `(tactic| fail)
local macro_rules | `(tactic| walk_at "wn") => `(tactic| repeat walk_at "w1")
local macro_rules | `(tactic| walk_at "w") => `(tactic| repeat (first | walk_at "w1" | with_reducible apply w_ret))
local macro_rules | `(tactic| walk_at "w2") => `(tactic| first
  | ((with_reducible apply w_isInt); (focus (walk_at "r"; done)))
  | ((with_reducible apply w_isBool); (focus (walk_at "r"; done)))
  | ((with_reducible apply w_isStr); (focus (walk_at "r"; done)))
  | ((with_reducible apply w_isTup); (focus (walk_at "r"; done)))
  | ((with_reducible apply w_isLst); (focus (walk_at "r"; done)))
  | with_reducible apply w_fld
  | with_reducible apply w_sfld
  | with_reducible apply w_faug
  | with_reducible apply w_rAdd
  | with_reducible apply w_rSub
  | with_reducible apply w_make
  | with_reducible apply w_orT
  | with_reducible apply w_dgetd
  | with_reducible apply w_dgetk
  | with_reducible apply w_dsetd
  | ((with_reducible apply k_dgetd); (focus (walk_at "hp"; done)))
  | ((with_reducible apply k_dsetd); (focus (walk_at "hp"; done)))
  | walk_at "w3")
local macro_rules | `(tactic| walk_at "w3") => `(tactic| fail)
section
theorem d5_dputT {H : Hp} {a b : Addr} {kvs : List (List Key × V)} {k : List Key} {v : V} {N : Hp → Prop} (e : H a = some (.dT kvs)) (eb : H b = some (.tup (k.map kV))) (hl : kvs.length ≤ 100000) (q : ∀ H', Chg [a] H H' → H' a = some (.dT (putK kvs k v)) → N H') : ∃ a' H4, V.ref a = .ref a' ∧ DPut H a' (.ref b) v H4 ∧ N H4 :=
  ⟨a, _, rfl, .t e eb (Nat.lt_of_le_of_lt hl (by decide)), q _ (.mut e fun _ z => nomatch z) upd_same⟩
theorem d5_dgetT {H : Hp} {Q : VK} {a b : Addr} {kvs : List (List Key × V)} {k : List Key} {v : V} (e : H a = some (.dT kvs)) (eb : H b = some (.tup (k.map kV))) (ev : valV kvs k = some v) (q : Q v H) : KDg (.ref a) Q (.ref b) H := ⟨a, v, rfl, by rw [← ev]; exact .t e eb, q⟩
theorem w5_dnewT {σ : L2.St} {H : Hp} {Q : VK} (q : ∀ p H2, H p = none → Chg [] H H2 → H2 p = some (.dT []) → Q (.ref p) H2) : tDNewT σ H Q := d_new q
theorem w5_din {σ : L2.St} {H : Hp} {ty td : TE} {Q : VK} (h : ty σ H fun y H1 => td σ H1 fun x H2 => ∃ a o, x = .ref a ∧ DGet H2 a y o ∧ Q (.bl o.isSome) H2) : tDIn ty td σ H Q := h
theorem d5_dinT {H : Hp} {A : Option V → Prop} {a b : Addr} {kvs : List (List Key × V)} {k : List Key} (e : H a = some (.dT kvs)) (eb : H b = some (.tup (k.map kV))) (q : A (valV kvs k)) : ∃ a' o, V.ref a = .ref a' ∧ DGet H a' (.ref b) o ∧ A o := ⟨a, _, rfl, .t e eb, q⟩
theorem w5_indexS {K : PySem.W.Frag} {H : Hp} {Q : VK} {l : Addr} {ns : List Str} {j : Nat} {x : Str} (h : H l = some (.lst (ns.map V.str))) (nd : ns.Nodup) (hj : ns[j]? = some x) (q : Q (.int (j : Nat)) H) : rIndex K (.ref l) [.str x] H Q := by
  have hl := (List.getElem?_eq_some_iff.mp hj).1
  refine ⟨l, _, .str x, j, .str x, rfl, rfl, sqL h, rfl, flat_strs ns, ?_, ?_, fun m z hm hz => ?_, q⟩
  · rw [List.getElem?_map, hj]; rfl
  · show eqV (.str x) (.str x) = true
    unfold eqV
    simp
  · rw [List.getElem?_map, List.getElem?_eq_getElem (by omega)] at hz
    cases hz
    have ne : ns[m] ≠ x := fun e => by
      have e2 : ns[j] = x := (List.getElem?_eq_some_iff.mp hj).2
      have := (List.getElem_inj (h₀ := by omega) (h₁ := hl) nd).mp (e.trans e2.symm)
      omega
    show eqV (.str ns[m]) (.str x) = false
    unfold eqV
    simpa using ne
theorem ra_set5 {S : Addr → Prop} {H : Hp} {v' : V} {d' : PyData} (r' : R S H v' d') : ∀ {vs : List V} {ds : List PyData} (k : Nat), RA S H vs ds → RA S H (vs.set k v') (ds.set k d')
  | _, _, _, .nil => .nil
  | _, _, 0, .cons _ r => .cons r' r
  | _, _, k + 1, .cons a r => .cons a (ra_set5 r' k r)
theorem PR.write {Hx Hy : Hp} {ts ds : List Addr} {rs : List RowP} {a k : Nat} {D : Addr} {r : RowP} {us : List V} {v : V} {d : PyData} (h : PR Hx ts ds rs) (ed : ds[a]? = some D) (er : rs[a]? = some r) (hu : Hx D = some (.lst us)) (c : Chg [D] Hx Hy) (hy : Hy D = some (.lst (us.set k v))) (im : Im Hx v d) (ims : ImA Hx us r.2) : PR Hy ts ds (putR rs a k r d) where
  lt := by unfold putR; rw [List.length_set]; exact h.lt
  ld := by unfold putR; rw [List.length_set]; exact h.ld
  nd := h.nd
  at_ := fun i t d' r' e1 e2 e3 => by
    unfold putR at e3
    have ha := (List.getElem?_eq_some_iff.mp er).1
    by_cases hi : a = i
    · subst hi
      rw [List.getElem?_set_self ha] at e3
      cases e3
      rw [ed] at e2
      cases e2
      obtain ⟨f1, _⟩ := h.at_ a t D r e1 ed er
      exact ⟨c.tup _ _ f1, _, hy, ra_set5 (R.im c im) k (RA.im c ims)⟩
    · rw [List.getElem?_set_ne hi] at e3
      obtain ⟨f1, us', f2, f3⟩ := h.at_ i t d' r' e1 e2 e3
      have ne : d' ≠ D := fun e => by
        have h1 := (List.getElem?_eq_some_iff.mp ed)
        have h2 := (List.getElem?_eq_some_iff.mp e2)
        obtain ⟨l1, g1⟩ := h1
        obtain ⟨l2, g2⟩ := h2
        exact hi ((List.getElem_inj (h₀ := l1) (h₁ := l2) h.nd).mp (by rw [g1, g2, e]))
      exact ⟨c.tup _ _ f1, us', c.at1 f2 ne, RA.im c f3⟩
theorem pr_ra {H : Hp} {ts ds : List Addr} {rs : List RowP} (h : PR H ts ds rs) : ∀ (n : Nat), n ≤ rs.length → RA (fun _ => True) H ((ts.take n).map V.ref) ((rs.take n).map rowDP)
  | 0, _ => .nil
  | n + 1, hn => by
    have h1 := h.lt
    have h2 := h.ld
    have e1 := List.getElem?_eq_getElem (l := ts) (i := n) (by omega)
    have e2 := List.getElem?_eq_getElem (l := ds) (i := n) (by omega)
    have e3 := List.getElem?_eq_getElem (l := rs) (i := n) (by omega)
    obtain ⟨f1, us, f2, f3⟩ := h.at_ n _ _ _ e1 e2 e3
    rw [List.take_succ_eq_append_getElem (by omega : n < ts.length), List.take_succ_eq_append_getElem (by omega : n < rs.length), List.map_append, List.map_append]
    exact (pr_ra h n (by omega)).append (.cons (.tup f1 (.cons (.str _) (.cons (.lst trivial f2 f3.any) .nil))) .nil)
theorem PR.r {H : Hp} {ts ds : List Addr} {rs : List RowP} {F : Addr} (h : PR H ts ds rs) (hF : H F = some (.lst (ts.map V.ref))) : R (fun _ => True) H (.ref F) (prgDP rs) := by
  have := pr_ra h rs.length (Nat.le_refl _)
  rw [List.take_length, ← h.lt, List.take_length] at this
  exact .lst trivial hF this
/-- what is known of the drawn rows -/
structure Base5 (ns : List Str) (rs0 : List RowP) : Prop where
  nm : rs0.map (·.1) = ns
  nn : ∀ r ∈ rs0, nameS r.1 = true
  up : rising ns = true
  nd : ns.Nodup
  few : rs0.length ≤ 12
  short : ∀ r ∈ rs0, r.2.length ≤ 12
  ok : ∀ r ∈ rs0, ∀ (j : Nat) d, r.2[j]? = some d → isStep ns ((r.2.length : Int) - 1 - j) d = true
  sm : ∀ r ∈ rs0, ∀ d ∈ r.2, smallD d = true
theorem mix_small {ns : List Str} {rs0 rs : List RowP} {P : Nat → Nat → Prop} (B : Base5 ns rs0) (m : Mix ns rs0 rs P) : smallD (prgDP rs) = true ∧ lenOk (prgDP rs) = true ∧ lenRows (prgDP rs) = true := by
  have row : ∀ r ∈ rs, r.1.length ≤ 8 ∧ r.2.length ≤ 12 ∧ ∀ d ∈ r.2, smallD d = true := fun r hr => by
    obtain ⟨a, ea⟩ := List.mem_iff_getElem?.mp hr
    have ha := (List.getElem?_eq_some_iff.mp ea).1
    have e0 := List.getElem?_eq_getElem (l := rs0) (i := a) (by rw [← m.len]; exact ha)
    generalize rs0[a]'(by rw [← m.len]; exact ha) = r0 at e0
    have h0 := List.mem_of_getElem? e0
    obtain ⟨h1, h2, h3⟩ := m.row a _ _ e0 ea
    refine ⟨by rw [h1]; exact (nameS_iff.mp (B.nn r0 h0)).2.1, by rw [h2]; exact B.short r0 h0, fun d hd => ?_⟩
    obtain ⟨j, ej⟩ := List.mem_iff_getElem?.mp hd
    have hj := (List.getElem?_eq_some_iff.mp ej).1
    have ed := List.getElem?_eq_getElem (l := r0.2) (i := j) (by rw [← h2]; exact hj)
    obtain ⟨g1, g2⟩ := h3 j _ _ ed ej
    by_cases hp : P a j
    · exact (g2 hp).2
    · rw [g1 hp]; exact B.sm r0 h0 _ (List.mem_of_getElem? ed)
  refine ⟨smallDs_of fun d hd => ?_, decide_eq_true (by rw [List.length_map, m.len]; have := B.few; omega), List.all_eq_true.mpr fun d hd => ?_⟩
  · obtain ⟨r, hr, rfl⟩ := List.mem_map.mp hd
    obtain ⟨k1, k2, k3⟩ := row r hr
    show (decide (r.1.length ≤ 100000) && (smallDs r.2 && true)) = true
    rw [decide_eq_true (by omega : r.1.length ≤ 100000), smallDs_of k3]
    rfl
  · obtain ⟨r, hr, rfl⟩ := List.mem_map.mp hd
    exact decide_eq_true (by have := (row r hr).2.1; show r.2.length ≤ 100000; omega)
/-- the places of a list of keys -/
def PK (rs0 : List RowP) (zs : List SI) (a c : Nat) : Prop := ∃ r0, rs0[a]? = some r0 ∧ (r0.1, (c : Int)) ∈ zs
def Vld (rs0 : List RowP) (y : SI) : Prop := ∃ (a : Nat) (r0 : RowP) (c : Nat), rs0[a]? = some r0 ∧ y = (r0.1, (c : Int)) ∧ c < r0.2.length
def GoodAt (rs0 : List RowP) (Hi : Hp) (gvs : List (List Key × V)) (P : Nat → Nat → Prop) : Prop := ∀ i j r0 d0, P i j → rs0[i]? = some r0 → r0.2[j]? = some d0 → ∃ v, valV gvs (encSI (r0.1, (j : Int))) = some v ∧ Im Hi v d0
theorem base_ix {ns : List Str} {rs0 : List RowP} (B : Base5 ns rs0) {a : Nat} {r0 : RowP} (e : rs0[a]? = some r0) : ns[a]? = some r0.1 := by
  rw [← B.nm, List.getElem?_map, e]
  rfl
theorem base_inj {ns : List Str} {rs0 : List RowP} (B : Base5 ns rs0) {a b : Nat} {r s : RowP} (e1 : rs0[a]? = some r) (e2 : rs0[b]? = some s) (e : r.1 = s.1) : a = b := by
  have h1 := base_ix B e1
  have h2 := base_ix B e2
  obtain ⟨l1, g1⟩ := List.getElem?_eq_some_iff.mp h1
  obtain ⟨l2, g2⟩ := List.getElem?_eq_some_iff.mp h2
  exact (List.getElem_inj (h₀ := l1) (h₁ := l2) B.nd).mp (by rw [g1, g2, e])
def t_k9 (K : PySem.W.Frag) : TS :=
    tSeq (tFor (iList K (tCB rSortSI (tCons (tVar 8) (tNil)))) (gName 12) (tSeq (tIfS (tOr (tTest (tOp oNeD (tCall sp__law_wrong [] E0 (tCons (tVar 3) (tNil))) (tVar 12))) (tNot (tB (tCall sp__law_alike [] E0 (tCons (tVar 3) (tNil)))))) (tRet (tC (.bl false))) (tNext))
    (tAsg (tDGet (tVar 10) (tVar 12)) (gSub (tOp (rIxT K) (tOp (rIxL K) (tVar 3) (tBM K "list" (rIndex K) (tVar 4) (tCons (tOp (rIxT K) (tVar 12) (tC (.int 0))) (tNil)))) (tC (.int 1))) (tOp (rIxT K) (tVar 12) (tC (.int 1))) rSetL))))
    (tIfS (tOr (tNot (tB (tCall sp__law_alike [] E0 (tCons (tVar 3) (tNil))))) (tTest (tOp oNotN (tCall sp__law_wrong [] E0 (tCons (tVar 3) (tNil))) (tC .non)))) (tRet (tC (.bl false))) (tNext))
theorem k9 {K : PySem.W.Frag} {H : Hp} {D : Ends} {a0 a1 a2 a5 a6 a7 a9 a11 a12 : Option V} {F l bd gd : Addr} {ts ds : List Addr} {ns : List Str} {rs0 rs : List RowP} {kvs gvs : List (List Key × V)} {ks : List SI}
    (B : Base5 ns rs0) (hF : H F = some (.lst (ts.map V.ref))) (pr : PR H ts ds rs) (mx : Mix ns rs0 rs (PK rs0 ks)) (hl : H l = some (.lst (ns.map V.str))) (hb : H bd = some (.dT kvs)) (ek : kvs.map (·.1) = ks.map encSI) (nk : ks.Nodup) (lk : ks.length ≤ 1000) (vk : ∀ y ∈ ks, Vld rs0 y)
    (hg : H gd = some (.dT gvs)) (ga : GoodAt rs0 H gvs (PK rs0 ks)) (Fd : F ∉ ds) (ld : l ∉ ds) (gdd : gd ∉ ds)
    (q : ∀ (H' : Hp) (b12 : Option V), Chg ds H H' → D.nx [a0, a1, a2, some (.ref F), some (.ref l), a5, a6, a7, some (.ref bd), a9, some (.ref gd), a11, b12] H') : t_k9 K D [a0, a1, a2, some (.ref F), some (.ref l), a5, a6, a7, some (.ref bd), a9, some (.ref gd), a11, a12] H := by
  unfold t_k9
  walk_at "wn"
  refine ⟨bd, kvs, ks, rfl, hb, ek, lk, fun ys bs p pm pw pp np => ?_⟩
  generalize hH1 : upd H p (.lst (bs.map V.ref)) = H1
  have c1 : Chg [] H H1 := by rw [← hH1]; exact .new np
  have hp : H1 p = some (.lst (bs.map V.ref)) := by rw [← hH1]; exact upd_same
  have pd : p ∉ ds := fun hm => by obtain ⟨us, e⟩ := pr.there hm; rw [np] at e; cases e
  have lb : bs.length = ys.length := pp.length
  have ny : ys.Nodup := pm.nodup_iff.mpr nk
  have pa : ∀ (i : Nat) t, bs[i]? = some t → ∃ y, ys[i]? = some y ∧ H1 t = some (.tup [.str y.1, .int y.2]) := fun i t e => by
    obtain ⟨y, e1, e2⟩ := paired_at pp e
    exact ⟨y, e1, c1.at e2⟩
  have str_ : ∀ (i : Nat) y, ys[i]? = some y → ∀ z ∈ ys.drop (i + 1), ltSI y z = true := fun i y e z hz => by
    have hi := (List.getElem?_eq_some_iff.mp e).1
    have e' : ys[i] = y := (List.getElem?_eq_some_iff.mp e).2
    have hd : ys.drop i = y :: ys.drop (i + 1) := by rw [List.drop_eq_getElem_cons hi, e']
    have p2 : (y :: ys.drop (i + 1)).Pairwise (fun x y => ltSI y x = false) := by rw [← hd]; exact pw.sublist (List.drop_sublist _ _)
    have n2 : (y :: ys.drop (i + 1)).Nodup := by rw [← hd]; exact ny.sublist (List.drop_sublist _ _)
    have f := (List.pairwise_cons.mp p2).1 z hz
    cases h : ltSI y z with
    | true => rfl
    | false =>
      have := ltSI_tot y z h f
      exact absurd (this ▸ hz) (List.nodup_cons.mp n2).1
  walk_at "wn"
  refine for_it (walk_list (K := K) (a := p) (xs := bs.map V.ref)) (fun i σ Hi => Chg ds H1 Hi ∧ ∃ (rsi : List RowP) (b12 : Option V), PR Hi ts ds rsi ∧ Mix ns rs0 rsi (PK rs0 (ys.drop i)) ∧ σ = [a0, a1, a2, some (.ref F), some (.ref l), a5, a6, a7, some (.ref bd), a9, some (.ref gd), a11, b12])
    ⟨.refl, rs, _, pr.keep c1 (fun d _ hm => by cases hm), mx.imp fun a c _ => ⟨fun ⟨r0, e, h⟩ => ⟨r0, e, pm.mem_iff.mpr h⟩, fun ⟨r0, e, h⟩ => ⟨r0, e, pm.mem_iff.mp h⟩⟩, rfl⟩ (fun i σ Hi _ z => sqL (z.1.keep _ _ hp pd)) (fun i x σ Hi0 Hi hi z y => ?_) (fun σ Hi z => ?_)
  · obtain ⟨rfl, ex⟩ := y
    obtain ⟨ci, rsi, b12, pri, mi, rfl⟩ := z
    rw [List.length_map] at hi
    rw [List.getElem?_map, List.getElem?_eq_getElem hi] at ex
    cases ex
    obtain ⟨y, ey, hy⟩ := pa i _ (List.getElem?_eq_getElem hi)
    generalize bs[i] = t at *
    have hiy := (List.getElem?_eq_some_iff.mp ey).1
    have ey' : ys[i] = y := (List.getElem?_eq_some_iff.mp ey).2
    have hd : ys.drop i = y :: ys.drop (i + 1) := by rw [List.drop_eq_getElem_cons hiy, ey']
    have hym : y ∈ ks := pm.mem_iff.mp (List.mem_of_getElem? ey)
    obtain ⟨a, r0, c, e0, ec, lc⟩ := vk y hym
    have hFi := ci.keep _ _ (c1.at hF) Fd
    have hli := ci.keep _ _ (c1.at hl) ld
    have hgi := ci.keep _ _ (c1.at hg) gdd
    have hyi := ci.tup _ _ hy
    have rd := pri.r hFi
    obtain ⟨s1, s2, s3⟩ := mix_small B mi
    have en : rsi.map (·.1) = ns := mi.names.trans B.nm
    have nni : ∀ r ∈ rsi, nameS r.1 = true := fun r hr => by
      have : r.1 ∈ rs0.map (·.1) := by rw [← mi.names]; exact List.mem_map.mpr ⟨r, hr, rfl⟩
      obtain ⟨s, hs, e⟩ := List.mem_map.mp this
      rw [← e]
      exact B.nn s hs
    have la := (List.getElem?_eq_some_iff.mp e0).1
    have ei := List.getElem?_eq_getElem (l := rsi) (i := a) (by rw [mi.len]; exact la)
    generalize hr : rsi[a]'(by rw [mi.len]; exact la) = r at ei
    obtain ⟨n1, n2, n3⟩ := mi.row a _ _ e0 ei
    have fw : firstWrong (prgDP rsi) = some (some (y.1, c)) := by
      refine first_of (ns := ns) (ys := ys.drop (i + 1)) (mi.marked B.ok fun a' r' c' e' => ?_) (by rw [en]; exact B.up) nni en (str_ i y ey) (by rw [ec]) ⟨r, List.mem_of_getElem? ei, by rw [n1, ec], by rw [n2]; exact lc⟩
      rw [← hd]
      exact ⟨fun h => ⟨r', e', of_decide_eq_true h⟩, fun ⟨r'', e'', h⟩ => by rw [e'] at e''; cases e''; exact decide_eq_true h⟩
    walk_at "wn"
    refine ⟨.ref F, prgDP rsi, _, rfl, rd, s1, s2, s3, (fun e => by rw [fw] at e; cases e), fun o e p2 H2 c2 hp2 => ?_⟩
    rw [fw] at e
    cases e
    have hp2' : H2 p2 = some (.tup [.str y.1, .int (c : Nat)]) := hp2
    have rp2 : Im H2 (.ref p2) (.tuple [.str y.1, .int (c : Nat)]) := .tup hp2' (.cons (.str _) (.cons (.int _) .nil))
    have rt2 : Im H2 (.ref t) (.tuple [.str y.1, .int (c : Nat)]) := .tup (c2.tup _ _ (by rw [hyi]; rw [show y.2 = ((c : Nat) : Int) by rw [ec]])) (.cons (.str _) (.cons (.int _) .nil))
    walk_at "wn"
    refine w_neD rp2 rt2 rfl rfl (by show min (max 0 (max 0 0) + 1) (max 0 (max 0 0) + 1) ≤ 60; decide) ?_
    rw [eqv_self _ rfl]
    walk_at "wn"
    refine ⟨.ref F, prgDP rsi, _, rfl, rd.same c2, s1, s2, s3, fun H3 c3 => ?_⟩
    have c23 := c2.same c3
    have hg3 := c23.at hgi
    have ht3 := c23.at hyi
    have ed0 := List.getElem?_eq_getElem (l := r0.2) (i := c) lc
    obtain ⟨v, ev, iv⟩ := ga a c r0 _ ⟨r0, e0, by rw [← ec]; exact hym⟩ e0 ed0
    have iv3 : Im H3 v r0.2[c] := ((iv.im c1).im ci).im c23
    walk_at "wn"
    refine d5_dgetT (k := encSI y) hg3 ht3 (by rw [ec]; exact ev) ?_
    have hl3 := c23.at hli
    have hF3 := c23.at hFi
    have lts := pri.lt
    have lds := pri.ld
    have eT := List.getElem?_eq_getElem (l := ts) (i := a) (by rw [lts, mi.len]; exact la)
    have eD := List.getElem?_eq_getElem (l := ds) (i := a) (by rw [lds, mi.len]; exact la)
    generalize ts[a]'(by rw [lts, mi.len]; exact la) = T at eT
    generalize ds[a]'(by rw [lds, mi.len]; exact la) = Dd at eD
    obtain ⟨f1, us, f2, f3⟩ := pri.at_ a T Dd r eT eD ei
    have f13 := c23.tup _ _ f1
    have f23 := c23.at f2
    have lus : us.length = r0.2.length := by rw [f3.length, n2]
    have exT : atI (ts.map V.ref) ((a : Nat) : Int) = some (.ref T) := atI_nat (by rw [List.getElem?_map, eT]; rfl)
    walk_at "wn"
    refine w5_indexS hl3 B.nd (j := a) (by rw [base_ix B e0, ec]) ?_
    walk_at "wn"
    rw [show y.2 = ((c : Nat) : Int) by rw [ec]]
    refine w_setL f23 (ixD (by omega) (by omega)) fun H4 c4 h4 => ?_
    rw [Int.toNat_natCast] at h4
    have Dm : Dd ∈ ds := List.mem_of_getElem? eD
    refine ⟨(ci.same c23).both (c4.wide (by intro z hz; rw [List.mem_singleton.mp hz]; exact Dm)), putR rsi a c r r0.2[c], _, (pri.keep c23 (fun d _ hm => by cases hm)).write eD ei f23 c4 h4 iv3 (f3.im c23), (mi.back e0 ei ed0).imp fun i' j' ⟨r', e', l'⟩ => ?_, rfl⟩
    constructor
    · rintro ⟨⟨r'', e'', h⟩, hn⟩
      refine ⟨r'', e'', ?_⟩
      rw [hd] at h
      rcases List.mem_cons.mp h with h | h
      · rw [ec] at h
        have h1 := (Prod.ext_iff.mp h).1
        have h2 := (Prod.ext_iff.mp h).2
        simp only at h1 h2
        exact absurd ⟨base_inj B e'' e0 h1, by omega⟩ hn
      · exact h
    · rintro ⟨r'', e'', h⟩
      refine ⟨⟨r'', e'', by rw [hd]; exact List.mem_cons_of_mem _ h⟩, fun ⟨h1, h2⟩ => ?_⟩
      subst h1
      subst h2
      rw [e0] at e''
      cases e''
      rw [← ec] at h
      have := ny.sublist (List.drop_sublist i ys)
      rw [hd] at this
      exact (List.nodup_cons.mp this).1 h
  · obtain ⟨ci, rsi, b12, pri, mi, rfl⟩ := z
    rw [List.length_map, lb, List.drop_length] at mi
    have hFi := ci.keep _ _ (c1.at hF) Fd
    have rd := pri.r hFi
    obtain ⟨s1, s2, s3⟩ := mix_small B mi
    have en : rsi.map (·.1) = ns := mi.names.trans B.nm
    have nni : ∀ r ∈ rsi, nameS r.1 = true := fun r hr => by
      have : r.1 ∈ rs0.map (·.1) := by rw [← mi.names]; exact List.mem_map.mpr ⟨r, hr, rfl⟩
      obtain ⟨s, hs, e⟩ := List.mem_map.mp this
      rw [← e]
      exact B.nn s hs
    have fw : firstWrong (prgDP rsi) = none := none_of (ns := ns) (mi.marked B.ok fun a' r' c' e' => ⟨fun h => (by cases h), fun ⟨r'', e'', h⟩ => by cases h⟩) (by rw [en]; exact B.up) nni en
    walk_at "wn"
    refine ⟨.ref F, prgDP rsi, _, rfl, rd, s1, s2, s3, fun H3 c3 => ?_⟩
    walk_at "wn"
    refine ⟨.ref F, prgDP rsi, _, rfl, rd.same c3, s1, s2, s3, fun e H4 c4 => ?_, fun o e => by rw [fw] at e; cases e⟩
    walk_at "wn"
    exact q H4 _ ((c1.pre ci).same (c3.same c4))
end
section
def t_k7 (K : PySem.W.Frag) : TS :=
    tSeq (tAsg (tDNewT) (gName 10))
    (tSeq (tFor (iList K (tVar 3)) (gTup K 2 (gCons (gName 6) (gCons (gName 7) (gNil)))) (tFor (iRng1 (tCons (tCB (cLenQ K) (tCons (tVar 7) (tNil))) (tNil))) (gName 11) (tIfS (tB (tDIn (tTup (tCons (tVar 6) (tCons (tVar 11) (tNil)))) (tVar 8))) (tSeq (sDPut (tVar 10) (tTup (tCons (tVar 6) (tCons (tVar 11) (tNil)))) (tOp (rIxL K) (tVar 7) (tVar 11)))
    (tAsg (tCall sp__law_bad_step [] E0 (tCons (tVar 2) (tCons (tVar 4) (tCons (tOp oSub (tOp oSub (tCB (cLenQ K) (tCons (tVar 7) (tNil))) (tC (.int 1))) (tVar 11)) (tNil))))) (gSub (tVar 7) (tVar 11) rSetL))) (tNext))))
    (tSeq (tFor (iList K (tCB rSortSI (tCons (tVar 8) (tNil)))) (gName 12) (tSeq (tIfS (tOr (tTest (tOp oNeD (tCall sp__law_wrong [] E0 (tCons (tVar 3) (tNil))) (tVar 12))) (tNot (tB (tCall sp__law_alike [] E0 (tCons (tVar 3) (tNil)))))) (tRet (tC (.bl false))) (tNext))
    (tAsg (tDGet (tVar 10) (tVar 12)) (gSub (tOp (rIxT K) (tOp (rIxL K) (tVar 3) (tBM K "list" (rIndex K) (tVar 4) (tCons (tOp (rIxT K) (tVar 12) (tC (.int 0))) (tNil)))) (tC (.int 1))) (tOp (rIxT K) (tVar 12) (tC (.int 1))) rSetL))))
    (tIfS (tOr (tNot (tB (tCall sp__law_alike [] E0 (tCons (tVar 3) (tNil))))) (tTest (tOp oNotN (tCall sp__law_wrong [] E0 (tCons (tVar 3) (tNil))) (tC .non)))) (tRet (tC (.bl false))) (tNext))))
def t_k8i (K : PySem.W.Frag) : TS :=
    tFor (iRng1 (tCons (tCB (cLenQ K) (tCons (tVar 7) (tNil))) (tNil))) (gName 11) (tIfS (tB (tDIn (tTup (tCons (tVar 6) (tCons (tVar 11) (tNil)))) (tVar 8))) (tSeq (sDPut (tVar 10) (tTup (tCons (tVar 6) (tCons (tVar 11) (tNil)))) (tOp (rIxL K) (tVar 7) (tVar 11)))
    (tAsg (tCall sp__law_bad_step [] E0 (tCons (tVar 2) (tCons (tVar 4) (tCons (tOp oSub (tOp oSub (tCB (cLenQ K) (tCons (tVar 7) (tNil))) (tC (.int 1))) (tVar 11)) (tNil))))) (gSub (tVar 7) (tVar 11) rSetL))) (tNext))
theorem enc_inj {a b : SI} (h : encSI a = encSI b) : a = b := by
  unfold encSI at h
  injection h with h1 h2
  injection h2 with h3 _
  exact Prod.ext (Sum.inr.inj h1) (Sum.inl.inj h3)
theorem val_mem {kvs : List (List Key × V)} {ks : List SI} (ek : kvs.map (·.1) = ks.map encSI) (y : SI) : (valV kvs (encSI y)).isSome = true ↔ y ∈ ks := by
  rw [← valV_any]
  constructor
  · intro h
    obtain ⟨kv, hkv, e⟩ := List.any_eq_true.mp h
    have : kv.1 ∈ kvs.map (·.1) := List.mem_map.mpr ⟨kv, hkv, rfl⟩
    rw [ek] at this
    obtain ⟨z, hz, e2⟩ := List.mem_map.mp this
    rw [of_decide_eq_true e] at e2
    exact enc_inj e2 ▸ hz
  · intro h
    have : encSI y ∈ kvs.map (·.1) := by rw [ek]; exact List.mem_map.mpr ⟨y, h, rfl⟩
    obtain ⟨kv, hkv, e⟩ := List.mem_map.mp this
    exact List.any_eq_true.mpr ⟨kv, hkv, decide_eq_true e⟩
/-- behind so many places -/
def PC (rs0 : List RowP) (ks : List SI) (a c i j : Nat) : Prop := (i < a ∨ (i = a ∧ j < c)) ∧ PK rs0 ks i j
theorem good_keep {rs0 : List RowP} {M : List Addr} {Hi Hj : Hp} {gvs : List (List Key × V)} {P : Nat → Nat → Prop} (c : Chg M Hi Hj) (h : GoodAt rs0 Hi gvs P) : GoodAt rs0 Hj gvs P := fun i j r0 d0 hp e1 e2 => by
  obtain ⟨v, h1, h2⟩ := h i j r0 d0 hp e1 e2
  exact ⟨v, h1, h2.im c⟩
theorem len_putK {kvs : List (List Key × V)} {k : List Key} {v : V} : (putK kvs k v).length ≤ kvs.length + 1 := by
  unfold putK
  split
  · rw [List.length_map]; omega
  · simp
theorem k8i {K : PySem.W.Frag} {H : Hp} {D : Ends} {a0 a1 a5 a9 a11 a12 : Option V} {b F l bd gd Dd : Addr} {m a : Nat} {ts ds : List Addr} {ns : List Str} {rs0 rs : List RowP} {r0 : RowP} {kvs gvs : List (List Key × V)} {ks : List SI}
    (B : Base5 ns rs0) (bag : Bag H b m) (hm : 2000 ≤ m) (pr : PR H ts ds rs) (e0 : rs0[a]? = some r0) (eD : ds[a]? = some Dd) (mx : Mix ns rs0 rs (PC rs0 ks a 0)) (hl : H l = some (.lst (ns.map V.str))) (hb : H bd = some (.dT kvs)) (ek : kvs.map (·.1) = ks.map encSI)
    (hg : H gd = some (.dT gvs)) (gl : gvs.length ≤ 20 * a) (ga : GoodAt rs0 H gvs (PC rs0 ks a 0)) (bds : b ∉ ds) (ld : l ∉ ds) (bdd : bd ∉ ds) (gdd : gd ∉ ds) (lb : l ≠ b) (lg : l ≠ gd) (bb : bd ≠ b) (bg : bd ≠ gd) (gb : gd ≠ b)
    (q : ∀ (H' : Hp) (rs' : List RowP) (gvs' : List (List Key × V)) (b11 : Option V), Chg (b :: gd :: ds) H H' → Bag H' b (m - 2000) → PR H' ts ds rs' → Mix ns rs0 rs' (PC rs0 ks (a + 1) 0) → H' gd = some (.dT gvs') → gvs'.length ≤ 20 * (a + 1) → GoodAt rs0 H' gvs' (PC rs0 ks (a + 1) 0) →
      D.nx [a0, a1, some (.ref b), some (.ref F), some (.ref l), a5, some (.str r0.1), some (.ref Dd), some (.ref bd), a9, some (.ref gd), b11, a12] H') : t_k8i K D [a0, a1, some (.ref b), some (.ref F), some (.ref l), a5, some (.str r0.1), some (.ref Dd), some (.ref bd), a9, some (.ref gd), a11, a12] H := by
  unfold t_k8i
  have la := (List.getElem?_eq_some_iff.mp e0).1
  have lts := pr.lt
  have lds := pr.ld
  have ei := List.getElem?_eq_getElem (l := rs) (i := a) (by rw [mx.len]; exact la)
  have eT := List.getElem?_eq_getElem (l := ts) (i := a) (by rw [lts, mx.len]; exact la)
  generalize rs[a]'(by rw [mx.len]; exact la) = r at ei
  obtain ⟨n1, n2, n3⟩ := mx.row a _ _ e0 ei
  obtain ⟨_, us, f2, f3⟩ := pr.at_ a _ Dd r eT eD ei
  have lus : us.length = r0.2.length := by rw [f3.length, n2]
  have l12 := B.short r0 (List.mem_of_getElem? e0)
  have few := B.few
  have Dm : Dd ∈ ds := List.mem_of_getElem? eD
  have ne : ∀ {x : Addr}, x ∉ ds → x ≠ Dd := fun h e => h (by rw [e]; exact Dm)
  walk_at "wn"
  refine for_it (walk_range (lo := 0) (n := us.length)) (fun c σ Hi => Chg (b :: gd :: ds) H Hi ∧ Bag Hi b (m - 100 * c) ∧ ∃ (rsi : List RowP) (gvi : List (List Key × V)) (b11 : Option V), PR Hi ts ds rsi ∧ Mix ns rs0 rsi (PC rs0 ks a c) ∧ Hi gd = some (.dT gvi) ∧ gvi.length ≤ 20 * a + c ∧ GoodAt rs0 Hi gvi (PC rs0 ks a c) ∧ σ = [a0, a1, some (.ref b), some (.ref F), some (.ref l), a5, some (.str r0.1), some (.ref Dd), some (.ref bd), a9, some (.ref gd), b11, a12])
    ⟨.refl, bag, rs, gvs, _, pr, mx, hg, gl, ga, rfl⟩ (fun _ _ _ _ _ => trivial) (fun c v σ Hi0 Hi hi z y => ?_) (fun σ Hi z => ?_)
  · obtain ⟨rfl, rfl⟩ := y
    obtain ⟨ci, bagi, rsi, gvi, b11, pri, mi, hgi, gli, gai, rfl⟩ := z
    simp only [Int.zero_add]
    have hc : c < r0.2.length := by omega
    have eri := List.getElem?_eq_getElem (l := rsi) (i := a) (by rw [mi.len]; exact la)
    generalize rsi[a]'(by rw [mi.len]; exact la) = ri at eri
    obtain ⟨m1, m2, m3⟩ := mi.row a _ _ e0 eri
    obtain ⟨_, usi, g2, g3⟩ := pri.at_ a _ Dd ri eT eD eri
    have lusi : usi.length = r0.2.length := by rw [g3.length, m2]
    have ed0 := List.getElem?_eq_getElem (l := r0.2) (i := c) hc
    have edi := List.getElem?_eq_getElem (l := ri.2) (i := c) (by rw [m2]; exact hc)
    have eui := List.getElem?_eq_getElem (l := usi) (i := c) (by rw [lusi]; exact hc)
    have same0 := (m3 c _ _ ed0 edi).1 (fun ⟨z, _⟩ => by omega)
    generalize r0.2[c] = d0 at *
    generalize ri.2[c]'(by rw [m2]; exact hc) = di at *
    subst same0
    generalize usi[c]'(by rw [lusi]; exact hc) = u at eui
    have hbi : Hi bd = some (.dT kvs) := ci.keep _ _ hb (by simp [bb, bg, bdd])
    have hli : Hi l = some (.lst (ns.map V.str)) := ci.keep _ _ hl (by simp [lb, lg, ld])
    have bi := bagi.some
    walk_at "wn"
    refine w5_din ?_
    walk_at "wn"
    refine k_tup (by walk_at "sz") fun T H2 nT c2 hT => ?_
    walk_at "wn"
    refine d5_dinT (k := encSI (r0.1, (c : Int))) (c2.at hbi) hT ?_
    walk_at "wn"
    have pcs : ∀ i j, (∃ r1, rs0[i]? = some r1 ∧ j < r1.2.length) → (PC rs0 ks a (c + 1) i j ↔ (PC rs0 ks a c i j ∨ ((i = a ∧ j = c) ∧ PK rs0 ks i j))) := fun i j _ => by
      unfold PC
      constructor
      · rintro ⟨h1, h2⟩
        by_cases hj : i = a ∧ j = c
        · exact .inr ⟨hj, h2⟩
        · exact .inl ⟨by omega, h2⟩
      · rintro (⟨h1, h2⟩ | ⟨h1, h2⟩)
        · exact ⟨by omega, h2⟩
        · exact ⟨by omega, h2⟩
    cases hv : (valV kvs (encSI (r0.1, (c : Int)))).isSome with
    | false =>
      have nk : ¬ PK rs0 ks a c := fun ⟨r1, e1, h⟩ => by
        rw [e0] at e1
        cases e1
        have := (val_mem ek _).mpr h
        rw [hv] at this
        cases this
      refine w_iteNo rfl ?_
      walk_at "wn"
      refine ⟨ci.same c2, (bagi.same c2).le (by omega), rsi, gvi, _, pri.keep c2 (fun d _ h => by cases h), mi.imp fun i j h => ?_, c2.at hgi, by omega, fun i j r1 d1 hp h1 h2 => good_keep c2 gai i j r1 d1 ?_ h1 h2, rfl⟩
      · rw [pcs i j h]
        exact ⟨fun z => .inl z, fun z => z.elim id fun w => by obtain ⟨⟨rfl, rfl⟩, w⟩ := w; exact absurd w nk⟩
      · have := (pcs i j ⟨r1, h1, (List.getElem?_eq_some_iff.mp h2).1⟩).mp hp
        exact this.elim id fun w => by obtain ⟨⟨rfl, rfl⟩, w⟩ := w; exact absurd w nk
    | true =>
      have yk : PK rs0 ks a c := ⟨r0, e0, (val_mem ek _).mp hv⟩
      refine w_iteYes rfl ?_
      have g22 := c2.at g2
      have exu : atI usi ((c : Nat) : Int) = some u := atI_nat eui
      obtain ⟨du, edu, iu⟩ := g3.get eui
      rw [edi] at edu
      cases edu
      walk_at "wn"
      refine k_tup (by walk_at "sz") fun T2 H3 nT2 c3 hT2 => ?_
      have hg3 := c3.at (c2.at hgi)
      walk_at "wn"
      refine d5_dputT (k := encSI (r0.1, (c : Int))) hg3 hT2 (by omega) fun H4 c4 hg4 => ?_
      have c23 := c2.same c3
      have bag4 := (bagi.same c23).one c4 (Ne.symm gb)
      have hl4 := c4.at1 (c23.at hli) lg
      have gD4 := c4.at1 (c23.at g2) (Ne.symm (ne gdd))
      have pr4 := (pri.keep c23 (fun d _ h => by cases h)).keep c4 (fun d hd h => gdd (by rw [← List.mem_singleton.mp h]; exact hd))
      walk_at "wn"
      refine ⟨b, l, ns, _, m - 100 * c, rfl, bag4, by omega, hl4, lb, by rw [← B.nm, List.length_map]; omega, fun x hx => ?_, by omega, by omega, fun v' d' H5 c5 bag5 iv bad sm => ?_⟩
      · rw [← B.nm] at hx
        obtain ⟨r1, h1, rfl⟩ := List.mem_map.mp hx
        exact B.nn r1 h1
      have gD5 := c5.at1 gD4 (Ne.symm (ne bds))
      have pr5 := pr4.keep c5 (fun d hd h => bds (by rw [← List.mem_singleton.mp h]; exact hd))
      have bad' : isStep ns ((ri.2.length : Int) - 1 - c) d' = false := by
        rw [m2, ← lusi]
        exact bad
      walk_at "wn"
      refine w_setL gD5 (ixD (by omega) (by omega)) fun H6 c6 h6 => ?_
      rw [Int.toNat_natCast] at h6
      have hg6 : H6 gd = _ := c6.at1 (c5.at1 hg4 gb) (ne gdd)
      have w6 : Chg (b :: gd :: ds) Hi H6 := (((c23.pre (c4.wide (M' := b :: gd :: ds) (by simp))).both (c5.wide (by simp))).both (c6.wide (by intro z hz; rw [List.mem_singleton.mp hz]; simp [Dm])))
      refine ⟨ci.both w6, (bag5.one c6 (Ne.symm (ne bds) |>.symm)).le (by omega), putR rsi a c ri d', _, _, pr5.write eD eri gD5 c6 h6 iv ((RA.im c5 (RA.im c4 (RA.im c23 g3)))), (mi.put eri bad' sm).imp fun i j h => ?_, hg6, ?_, fun i j r1 d1 hp h1 h2 => ?_, rfl⟩
      · rw [pcs i j h]
        constructor
        · rintro (z | z)
          · exact .inl z
          · obtain ⟨rfl, rfl⟩ := z; exact .inr ⟨⟨rfl, rfl⟩, yk⟩
        · rintro (z | z)
          · exact .inl z
          · exact .inr z.1
      · exact Nat.le_trans len_putK (by omega)
      · rcases (pcs i j ⟨r1, h1, (List.getElem?_eq_some_iff.mp h2).1⟩).mp hp with z | ⟨⟨rfl, rfl⟩, z⟩
        · obtain ⟨v1, k1, k2⟩ := gai i j r1 d1 z h1 h2
          refine ⟨v1, ?_, k2.im w6⟩
          rw [valV_put, if_neg (fun e => ?_)]
          · exact k1
          · have := enc_inj e
            have e1 := (Prod.ext_iff.mp this).1
            have e2 := (Prod.ext_iff.mp this).2
            simp only at e1 e2
            have := base_inj B h1 e0 e1
            have z1 := z.1
            omega
        · rw [e0] at h1
          cases h1
          rw [ed0] at h2
          cases h2
          exact ⟨u, by rw [valV_put, if_pos rfl], iu.im w6⟩
  · obtain ⟨ci, bagi, rsi, gvi, b11, pri, mi, hgi, gli, gai, rfl⟩ := z
    have pcs : ∀ i j, (∃ r1, rs0[i]? = some r1 ∧ j < r1.2.length) → (PC rs0 ks a us.length i j ↔ PC rs0 ks (a + 1) 0 i j) := fun i j ⟨r1, h1, h2⟩ => by
      unfold PC
      have : i = a → j < us.length := fun e => by
        subst e
        rw [e0] at h1
        cases h1
        omega
      exact ⟨fun ⟨h1, h2⟩ => ⟨by omega, h2⟩, fun ⟨h1, h2⟩ => ⟨by omega, h2⟩⟩
    exact q Hi rsi gvi b11 ci (bagi.le (by omega)) pri (mi.imp pcs) hgi (by omega) fun i j r1 d1 hp h1 h2 => gai i j r1 d1 ((pcs i j ⟨r1, h1, (List.getElem?_eq_some_iff.mp h2).1⟩).mpr hp) h1 h2
theorem k7 {K : PySem.W.Frag} {H : Hp} {D : Ends} {a0 a1 a5 a6 a7 a9 a10 a11 a12 : Option V} {b F l bd : Addr} {m : Nat} {ts ds : List Addr} {ns : List Str} {rs0 : List RowP} {kvs : List (List Key × V)} {ks : List SI}
    (B : Base5 ns rs0) (bag : Bag H b m) (hm : 100000 ≤ m) (hF : H F = some (.lst (ts.map V.ref))) (pr : PR H ts ds rs0) (hl : H l = some (.lst (ns.map V.str))) (hb : H bd = some (.dT kvs)) (ek : kvs.map (·.1) = ks.map encSI) (nk : ks.Nodup) (lk : ks.length ≤ 1000) (vk : ∀ y ∈ ks, Vld rs0 y)
    (Fd : F ∉ ds) (bds : b ∉ ds) (ld : l ∉ ds) (bdd : bd ∉ ds) (Fb : F ≠ b) (lb : l ≠ b) (bb : bd ≠ b)
    (q : ∀ (H' : Hp) (b6 b7 b10 b11 b12 : Option V), Chg (b :: ds) H H' → D.nx [a0, a1, some (.ref b), some (.ref F), some (.ref l), a5, b6, b7, some (.ref bd), a9, b10, b11, b12] H') : t_k7 K D [a0, a1, some (.ref b), some (.ref F), some (.ref l), a5, a6, a7, some (.ref bd), a9, a10, a11, a12] H := by
  show tSeq _ (tSeq (tFor _ _ (t_k8i K)) (t_k9 K)) _ _ _
  walk_at "wn"
  refine w5_dnewT fun gd H1 ng c1 hg => ?_
  have gdd : gd ∉ ds := fun hm => by obtain ⟨us, e⟩ := pr.there hm; rw [ng] at e; cases e
  have gb : gd ≠ b := fun e => bag.some (by rw [← e]; exact ng)
  have lg : l ≠ gd := fun e => by rw [e, ng] at hl; cases hl
  have bg : bd ≠ gd := fun e => by rw [e, ng] at hb; cases hb
  have Fg' : F ≠ gd := fun e => by rw [e, ng] at hF; cases hF
  have hF1 := c1.at hF
  have few := B.few
  walk_at "wn"
  refine for_it (walk_list (K := K) (a := F) (xs := ts.map V.ref)) (fun a σ Hi => Chg (b :: gd :: ds) H1 Hi ∧ Bag Hi b (m - 2000 * a) ∧ ∃ (rsi : List RowP) (gvi : List (List Key × V)) (b6 b7 b11 : Option V), PR Hi ts ds rsi ∧ Mix ns rs0 rsi (PC rs0 ks a 0) ∧ Hi gd = some (.dT gvi) ∧ gvi.length ≤ 20 * a ∧ GoodAt rs0 Hi gvi (PC rs0 ks a 0) ∧ σ = [a0, a1, some (.ref b), some (.ref F), some (.ref l), a5, b6, b7, some (.ref bd), a9, some (.ref gd), b11, a12])
    ⟨.refl, bag.same c1, rs0, [], _, _, _, pr.keep c1 (fun d _ h => by cases h), Mix.refl fun a c z => (by have := z.1; omega), hg, Nat.zero_le _, fun i j r1 d1 z => (by have := z.1; omega), rfl⟩ (fun a σ Hi _ z => sqL (z.1.keep _ _ hF1 (by simp [Fb, Fg', Fd]))) (fun a x σ Hi0 Hi hi z y => ?_) (fun σ Hi z => ?_)
  · obtain ⟨rfl, ex⟩ := y
    obtain ⟨ci, bagi, rsi, gvi, b6, b7, b11, pri, mi, hgi, gli, gai, rfl⟩ := z
    rw [List.length_map] at hi
    rw [List.getElem?_map, List.getElem?_eq_getElem hi] at ex
    cases ex
    have la : a < rs0.length := by rw [← pr.lt]; exact hi
    have e0 := List.getElem?_eq_getElem la
    have ei := List.getElem?_eq_getElem (l := rsi) (i := a) (by rw [mi.len]; exact la)
    have eT := List.getElem?_eq_getElem hi
    have eD := List.getElem?_eq_getElem (l := ds) (i := a) (by rw [pri.ld, mi.len]; exact la)
    generalize rs0[a] = r0 at *
    generalize rsi[a]'(by rw [mi.len]; exact la) = r at ei
    generalize ts[a] = T at *
    generalize ds[a]'(by rw [pri.ld, mi.len]; exact la) = Dd at eD
    obtain ⟨f1, _⟩ := pri.at_ a T Dd r eT eD ei
    rw [(mi.row a _ _ e0 ei).1] at f1
    walk_at "wn"
    exact k8i B bagi (by omega) pri e0 eD mi (ci.keep _ _ (c1.at hl) (by simp [lb, lg, ld])) (ci.keep _ _ (c1.at hb) (by simp [bb, bg, bdd])) ek hgi gli gai bds ld bdd gdd lb lg bb bg gb fun H' rs' gvs' b11 c bag' p' m' g' l' ga' => ⟨ci.both c, bag'.le (by omega), rs', gvs', _, _, b11, p', m', g', l', ga', rfl⟩
  · obtain ⟨ci, bagi, rsi, gvi, b6, b7, b11, pri, mi, hgi, gli, gai, rfl⟩ := z
    rw [List.length_map, pr.lt] at mi gai
    have pcs : ∀ i j, (∃ r1, rs0[i]? = some r1 ∧ j < r1.2.length) → (PC rs0 ks rs0.length 0 i j ↔ PK rs0 ks i j) := fun i j ⟨r1, h1, h2⟩ => by
      have := (List.getElem?_eq_some_iff.mp h1).1
      exact ⟨fun z => z.2, fun z => ⟨by omega, z⟩⟩
    refine k9 B (ci.keep _ _ hF1 (by simp [Fb, Fg', Fd])) pri (mi.imp pcs) (ci.keep _ _ (c1.at hl) (by simp [lb, lg, ld])) (ci.keep _ _ (c1.at hb) (by simp [bb, bg, bdd])) ek nk lk vk hgi (fun i j r1 d1 hp h1 h2 => gai i j r1 d1 ((pcs i j ⟨r1, h1, (List.getElem?_eq_some_iff.mp h2).1⟩).mpr hp) h1 h2) Fd ld gdd fun H' b12 c => q H' _ _ _ _ b12 ((c1.wide (M' := b :: ds) (by simp)).go (ci.both (c.wide (by intro z hz; simp [hz]))) fun z hz => ?_)
    rcases List.mem_cons.mp hz with rfl | hz
    · exact .inl (by simp)
    · rcases List.mem_cons.mp hz with rfl | hz
      · exact .inr ng
      · exact .inl (List.mem_cons_of_mem _ hz)
end
section
def t_k5 (K : PySem.W.Frag) : TS :=
    tSeq (tAsg (tDNewT) (gName 8))
    (tSeq (tFor (iRng1 (tCons (tOp oAdd (tC (.int 1)) (tCall sp__law_draw [] E0 (tCons (tVar 2) (tCons (tC (.int 4)) (tNil))))) (tNil))) (gName 9) (tIfS (tTest (tOp oNeE (tVar 5) (tLst (tNil)))) (sDPut (tVar 8) (tOp (rIxL K) (tVar 5) (tCall sp__law_draw [] E0 (tCons (tVar 2) (tCons (tCB (cLenQ K) (tCons (tVar 5) (tNil))) (tNil))))) (tC (.bl true))) (tNext)))
    (tSeq (tAsg (tDNewT) (gName 10))
    (tSeq (tFor (iList K (tVar 3)) (gTup K 2 (gCons (gName 6) (gCons (gName 7) (gNil)))) (tFor (iRng1 (tCons (tCB (cLenQ K) (tCons (tVar 7) (tNil))) (tNil))) (gName 11) (tIfS (tB (tDIn (tTup (tCons (tVar 6) (tCons (tVar 11) (tNil)))) (tVar 8))) (tSeq (sDPut (tVar 10) (tTup (tCons (tVar 6) (tCons (tVar 11) (tNil)))) (tOp (rIxL K) (tVar 7) (tVar 11)))
    (tAsg (tCall sp__law_bad_step [] E0 (tCons (tVar 2) (tCons (tVar 4) (tCons (tOp oSub (tOp oSub (tCB (cLenQ K) (tCons (tVar 7) (tNil))) (tC (.int 1))) (tVar 11)) (tNil))))) (gSub (tVar 7) (tVar 11) rSetL))) (tNext))))
    (tSeq (tFor (iList K (tCB rSortSI (tCons (tVar 8) (tNil)))) (gName 12) (tSeq (tIfS (tOr (tTest (tOp oNeD (tCall sp__law_wrong [] E0 (tCons (tVar 3) (tNil))) (tVar 12))) (tNot (tB (tCall sp__law_alike [] E0 (tCons (tVar 3) (tNil)))))) (tRet (tC (.bl false))) (tNext))
    (tAsg (tDGet (tVar 10) (tVar 12)) (gSub (tOp (rIxT K) (tOp (rIxL K) (tVar 3) (tBM K "list" (rIndex K) (tVar 4) (tCons (tOp (rIxT K) (tVar 12) (tC (.int 0))) (tNil)))) (tC (.int 1))) (tOp (rIxT K) (tVar 12) (tC (.int 1))) rSetL))))
    (tIfS (tOr (tNot (tB (tCall sp__law_alike [] E0 (tCons (tVar 3) (tNil))))) (tTest (tOp oNotN (tCall sp__law_wrong [] E0 (tCons (tVar 3) (tNil))) (tC .non)))) (tRet (tC (.bl false))) (tNext))))))
def t_k3 (K : PySem.W.Frag) : TS :=
    tSeq (tAsg (tLst (tNil)) (gName 5))
    (tSeq (tFor (iList K (tVar 3)) (gTup K 2 (gCons (gName 6) (gCons (gName 7) (gNil)))) (tDrop (tBM K "list" rExtend (tVar 5) (tCons (tLc (iRng1 (tCons (tCB (cLenQ K) (tCons (tVar 7) (tNil))) (tNil))) (gName 11) (tYes) (tTup (tCons (tVar 6) (tCons (tVar 11) (tNil)))) [11]) (tNil)))))
    (tSeq (tAsg (tDNewT) (gName 8))
    (tSeq (tFor (iRng1 (tCons (tOp oAdd (tC (.int 1)) (tCall sp__law_draw [] E0 (tCons (tVar 2) (tCons (tC (.int 4)) (tNil))))) (tNil))) (gName 9) (tIfS (tTest (tOp oNeE (tVar 5) (tLst (tNil)))) (sDPut (tVar 8) (tOp (rIxL K) (tVar 5) (tCall sp__law_draw [] E0 (tCons (tVar 2) (tCons (tCB (cLenQ K) (tCons (tVar 5) (tNil))) (tNil))))) (tC (.bl true))) (tNext)))
    (tSeq (tAsg (tDNewT) (gName 10))
    (tSeq (tFor (iList K (tVar 3)) (gTup K 2 (gCons (gName 6) (gCons (gName 7) (gNil)))) (tFor (iRng1 (tCons (tCB (cLenQ K) (tCons (tVar 7) (tNil))) (tNil))) (gName 11) (tIfS (tB (tDIn (tTup (tCons (tVar 6) (tCons (tVar 11) (tNil)))) (tVar 8))) (tSeq (sDPut (tVar 10) (tTup (tCons (tVar 6) (tCons (tVar 11) (tNil)))) (tOp (rIxL K) (tVar 7) (tVar 11)))
    (tAsg (tCall sp__law_bad_step [] E0 (tCons (tVar 2) (tCons (tVar 4) (tCons (tOp oSub (tOp oSub (tCB (cLenQ K) (tCons (tVar 7) (tNil))) (tC (.int 1))) (tVar 11)) (tNil))))) (gSub (tVar 7) (tVar 11) rSetL))) (tNext))))
    (tSeq (tFor (iList K (tCB rSortSI (tCons (tVar 8) (tNil)))) (gName 12) (tSeq (tIfS (tOr (tTest (tOp oNeD (tCall sp__law_wrong [] E0 (tCons (tVar 3) (tNil))) (tVar 12))) (tNot (tB (tCall sp__law_alike [] E0 (tCons (tVar 3) (tNil)))))) (tRet (tC (.bl false))) (tNext))
    (tAsg (tDGet (tVar 10) (tVar 12)) (gSub (tOp (rIxT K) (tOp (rIxL K) (tVar 3) (tBM K "list" (rIndex K) (tVar 4) (tCons (tOp (rIxT K) (tVar 12) (tC (.int 0))) (tNil)))) (tC (.int 1))) (tOp (rIxT K) (tVar 12) (tC (.int 1))) rSetL))))
    (tIfS (tOr (tNot (tB (tCall sp__law_alike [] E0 (tCons (tVar 3) (tNil))))) (tTest (tOp oNotN (tCall sp__law_wrong [] E0 (tCons (tVar 3) (tNil))) (tC .non)))) (tRet (tC (.bl false))) (tNext))))))))
def t_k0 (K : PySem.W.Frag) : TS :=
    tSeq (tAsg (tCall sp__law_bag [] E0 (tCons (tCall (sp__law_cell_at K) [] E0 (tCons (tVar 0) (tCons (tVar 1) (tNil)))) (tCons (tVar 1) (tNil)))) (gName 2))
    (tSeq (tAsg (tCall (sp__law_program5) [] E0 (tCons (tVar 2) (tNil))) (gName 3))
    (tSeq (tAsg (tLc (iList K (tVar 3)) (gTup K 2 (gCons (gName 6) (gCons (gName 7) (gNil)))) (tYes) (tVar 6) [6, 7]) (gName 4))
    (tSeq (tAsg (tLst (tNil)) (gName 5))
    (tSeq (tFor (iList K (tVar 3)) (gTup K 2 (gCons (gName 6) (gCons (gName 7) (gNil)))) (tDrop (tBM K "list" rExtend (tVar 5) (tCons (tLc (iRng1 (tCons (tCB (cLenQ K) (tCons (tVar 7) (tNil))) (tNil))) (gName 11) (tYes) (tTup (tCons (tVar 6) (tCons (tVar 11) (tNil)))) [11]) (tNil)))))
    (tSeq (tAsg (tDNewT) (gName 8))
    (tSeq (tFor (iRng1 (tCons (tOp oAdd (tC (.int 1)) (tCall sp__law_draw [] E0 (tCons (tVar 2) (tCons (tC (.int 4)) (tNil))))) (tNil))) (gName 9) (tIfS (tTest (tOp oNeE (tVar 5) (tLst (tNil)))) (sDPut (tVar 8) (tOp (rIxL K) (tVar 5) (tCall sp__law_draw [] E0 (tCons (tVar 2) (tCons (tCB (cLenQ K) (tCons (tVar 5) (tNil))) (tNil))))) (tC (.bl true))) (tNext)))
    (tSeq (tAsg (tDNewT) (gName 10))
    (tSeq (tFor (iList K (tVar 3)) (gTup K 2 (gCons (gName 6) (gCons (gName 7) (gNil)))) (tFor (iRng1 (tCons (tCB (cLenQ K) (tCons (tVar 7) (tNil))) (tNil))) (gName 11) (tIfS (tB (tDIn (tTup (tCons (tVar 6) (tCons (tVar 11) (tNil)))) (tVar 8))) (tSeq (sDPut (tVar 10) (tTup (tCons (tVar 6) (tCons (tVar 11) (tNil)))) (tOp (rIxL K) (tVar 7) (tVar 11)))
    (tAsg (tCall sp__law_bad_step [] E0 (tCons (tVar 2) (tCons (tVar 4) (tCons (tOp oSub (tOp oSub (tCB (cLenQ K) (tCons (tVar 7) (tNil))) (tC (.int 1))) (tVar 11)) (tNil))))) (gSub (tVar 7) (tVar 11) rSetL))) (tNext))))
    (tSeq (tFor (iList K (tCB rSortSI (tCons (tVar 8) (tNil)))) (gName 12) (tSeq (tIfS (tOr (tTest (tOp oNeD (tCall sp__law_wrong [] E0 (tCons (tVar 3) (tNil))) (tVar 12))) (tNot (tB (tCall sp__law_alike [] E0 (tCons (tVar 3) (tNil)))))) (tRet (tC (.bl false))) (tNext))
    (tAsg (tDGet (tVar 10) (tVar 12)) (gSub (tOp (rIxT K) (tOp (rIxL K) (tVar 3) (tBM K "list" (rIndex K) (tVar 4) (tCons (tOp (rIxT K) (tVar 12) (tC (.int 0))) (tNil)))) (tC (.int 1))) (tOp (rIxT K) (tVar 12) (tC (.int 1))) rSetL))))
    (tIfS (tOr (tNot (tB (tCall sp__law_alike [] E0 (tCons (tVar 3) (tNil))))) (tTest (tOp oNotN (tCall sp__law_wrong [] E0 (tCons (tVar 3) (tNil))) (tC .non)))) (tRet (tC (.bl false))) (tNext)))))))))))
theorem w5_extend {l b : Addr} {xs zs : List V} {H : Hp} {Q : VK} (h1 : H l = some (.lst xs)) (h2 : H b = some (.lst zs)) (hz : xs.length + zs.length ≤ 100000) (q : ∀ H', Chg [l] H H' → H' l = some (.lst (xs ++ zs)) → Q .non H') : rExtend (.ref l) [.ref b] H Q :=
  ⟨l, b, xs, zs, rfl, rfl, h1, h2, Nat.le_trans hz (by decide), q _ (.mut h1 fun _ z => nomatch z) upd_same⟩
theorem rising_hd {x : Str} : ∀ {ns : List Str}, rising (x :: ns) = true → ∀ y ∈ ns, ltS x y = true
  | [], _, y, h => by cases h
  | t :: r, up, y, h => by
    obtain ⟨u1, u2⟩ := Bool.and_eq_true_iff.mp (show (ltS x t && rising (t :: r)) = true from up)
    rcases List.mem_cons.mp h with e | h
    · rw [e]; exact u1
    · exact ltS_trans u1 (rising_hd u2 y h)
theorem rising_nd : ∀ {ns : List Str}, rising ns = true → ns.Nodup
  | [], _ => List.nodup_nil
  | x :: r, up => by
    refine List.nodup_cons.mpr ⟨fun h => ltS_ne (rising_hd up x h) rfl, rising_nd ?_⟩
    cases r with
    | nil => rfl
    | cons s t => exact (Bool.and_eq_true_iff.mp (show (ltS x s && rising (s :: t)) = true from up)).2
theorem stepsOk_at {ns : List Str} : ∀ {ss : List Stp} {i : Nat} {s : Stp}, stepsOk ns ss → ss[i]? = some s → s.ok ns ((ss.length : Int) - 1 - i)
  | t :: r, 0, s, h, e => by
    cases (Option.some.inj (show some t = some s from e))
    rw [List.length_cons, show (((r.length + 1 : Nat) : Int) - 1 - ((0 : Nat) : Int)) = (r.length : Int) by omega]
    exact h.1
  | t :: r, i + 1, s, h, e => by
    have := stepsOk_at (ss := r) (i := i) h.2 e
    rw [List.length_cons, show (((r.length + 1 : Nat) : Int) - 1 - ((i + 1 : Nat) : Int)) = (r.length : Int) - 1 - i by omega]
    exact this
/-- the places, as a list of tuples -/
def PlAt (rs0 : List RowP) (H : Hp) (xs : List V) : Prop := ∀ x ∈ xs, ∃ t y, x = .ref t ∧ H t = some (.tup [.str y.1, .int y.2]) ∧ Vld rs0 y
theorem PlAt.keep {rs0 : List RowP} {M : List Addr} {H H' : Hp} {xs : List V} (c : Chg M H H') (h : PlAt rs0 H xs) : PlAt rs0 H' xs := fun x hx => by
  obtain ⟨t, y, h1, h2, h3⟩ := h x hx
  exact ⟨t, y, h1, c.tup _ _ h2, h3⟩
theorem putT_old {kvs : List (List Key × V)} {k : List Key} {v : V} (hm : k ∈ kvs.map (·.1)) : (putK kvs k v).map (·.1) = kvs.map (·.1) := by
  unfold putK
  obtain ⟨p, hp, e⟩ := List.mem_map.mp hm
  rw [if_pos (List.any_eq_true.mpr ⟨p, hp, decide_eq_true e⟩), List.map_map]
  apply List.map_congr_left
  intro q _
  show (if q.1 = k then (q.1, v) else q).1 = q.1
  split <;> rfl
theorem putT_add {kvs : List (List Key × V)} {k : List Key} {v : V} (hm : ¬ k ∈ kvs.map (·.1)) : (putK kvs k v).map (·.1) = kvs.map (·.1) ++ [k] := by
  unfold putK
  have h : ¬ (kvs.any fun kv => decide (kv.1 = k)) = true := fun h => by
    obtain ⟨p, hp, e⟩ := List.any_eq_true.mp h
    exact hm (List.mem_map.mpr ⟨p, hp, of_decide_eq_true e⟩)
  rw [if_neg h, List.map_append]
  rfl
theorem k5 {K : PySem.W.Frag} {H : Hp} {D : Ends} {a0 a1 a6 a7 a8 a9 a10 a11 a12 : Option V} {b F l pl : Addr} {m : Nat} {ts ds : List Addr} {ns : List Str} {rs0 : List RowP} {xs : List V}
    (B : Base5 ns rs0) (bag : Bag H b m) (hm : 200000 ≤ m) (hF : H F = some (.lst (ts.map V.ref))) (pr : PR H ts ds rs0) (hl : H l = some (.lst (ns.map V.str))) (hp : H pl = some (.lst xs)) (px : PlAt rs0 H xs) (lx : xs.length ≤ 1000)
    (Fd : F ∉ ds) (bds : b ∉ ds) (ld : l ∉ ds) (pd : pl ∉ ds) (Fb : F ≠ b) (lb : l ≠ b) (pb : pl ≠ b)
    (q : ∀ (H' : Hp) (b6 b7 b8 b9 b10 b11 b12 : Option V), Chg (b :: ds) H H' → D.nx [a0, a1, some (.ref b), some (.ref F), some (.ref l), some (.ref pl), b6, b7, b8, b9, b10, b11, b12] H') : t_k5 K D [a0, a1, some (.ref b), some (.ref F), some (.ref l), some (.ref pl), a6, a7, a8, a9, a10, a11, a12] H := by
  show tSeq _ (tSeq _ (t_k7 K)) _ _ _
  walk_at "wn"
  refine w5_dnewT fun bd H1 nb c1 hb => ?_
  have bdd : bd ∉ ds := fun hm => by obtain ⟨us, e⟩ := pr.there hm; rw [nb] at e; cases e
  have bb : bd ≠ b := fun e => bag.some (by rw [← e]; exact nb)
  have bl : l ≠ bd := fun e => by rw [e, nb] at hl; cases hl
  have bp : pl ≠ bd := fun e => by rw [e, nb] at hp; cases hp
  have bF : F ≠ bd := fun e => by rw [e, nb] at hF; cases hF
  walk_at "wn"
  refine u_draw (bag.same c1) (by omega) (by decide) (by decide) fun e1 H2 c2 bag2 e10 e11 => ?_
  have c12 : Chg [b, bd] H H2 := (c1.wide (M' := [b, bd]) (by simp)).both (c2.wide (by simp))
  walk_at "wn"
  try refine d_iRng1 (j := 1 + e1) (by omega) (by omega) ?_
  refine for_it (walk_range (lo := 0) (n := (1 + e1).toNat)) (fun i σ Hi => Chg [b, bd] H Hi ∧ Bag Hi b (m - 1 - i) ∧ ∃ (kvs : List (List Key × V)) (ks : List SI) (b9 : Option V), Hi bd = some (.dT kvs) ∧ kvs.map (·.1) = ks.map encSI ∧ ks.Nodup ∧ ks.length ≤ i ∧ (∀ y ∈ ks, Vld rs0 y) ∧ σ = [a0, a1, some (.ref b), some (.ref F), some (.ref l), some (.ref pl), a6, a7, some (.ref bd), b9, a10, a11, a12])
    ⟨c12, bag2.le (by omega), [], [], _, c2.at1 hb bb, rfl, List.nodup_nil, Nat.le_refl _, fun y h => (by cases h), rfl⟩ (fun _ _ _ _ _ => trivial) (fun i v σ Hi0 Hi hi z y => ?_) (fun σ Hi z => ?_)
  · obtain ⟨rfl, rfl⟩ := y
    obtain ⟨ci, bagi, kvs, ks, b9, hbi, ek, nk, lk, vk, rfl⟩ := z
    have hi5 : i ≤ 5 := by omega
    have hpi : Hi pl = some (.lst xs) := ci.keep _ _ hp (by simp [pb, bp])
    have bi := bagi.some
    walk_at "wn"
    refine k_lst (by walk_at "sz") fun q1 H3 nq c3 hq => ?_
    walk_at "wn"
    refine w_neE (c3.at hpi) hq ?_
    walk_at "wn"
    by_cases h0 : xs = []
    · refine w_iteYes (by rw [h0]; rfl) ?_
      walk_at "wn"
      exact ⟨ci.same c3, (bagi.same c3).le (by omega), kvs, ks, _, c3.at hbi, ek, nk, by omega, vk, rfl⟩
    · refine w_iteNo (by cases xs with | nil => exact absurd rfl h0 | cons a r => rfl) ?_
      have l0 : 0 < xs.length := List.length_pos_iff.mpr h0
      walk_at "wn"
      refine u_draw (bagi.same c3) (by omega) (by omega) (by omega) fun e2 H4 c4 bag4 e20 e21 => ?_
      have c34 : Chg [b] Hi H4 := c3.pre c4
      have hp4 := c34.at1 hpi pb
      obtain ⟨x, ex, hx⟩ := atD (xs := xs) e20 e21
      obtain ⟨t, y, rfl, ht, vy⟩ := (px.keep (ci.both (c34.wide (by simp)))) x hx
      have hb4 := c34.at1 hbi bb
      walk_at "wn"
      refine d5_dputT (k := encSI y) hb4 ht (by
        have := congrArg List.length ek
        rw [List.length_map, List.length_map] at this
        omega) fun H5 c5 h5 => ?_
      refine ⟨(ci.both (c34.wide (by simp))).both (c5.wide (by simp)), (bag4.one c5 (Ne.symm bb)).le (by omega), _, if y ∈ ks then ks else ks ++ [y], _, h5, ?_, ?_, ?_, ?_, rfl⟩
      · by_cases hm : y ∈ ks
        · rw [if_pos hm, putT_old (by rw [ek]; exact List.mem_map.mpr ⟨y, hm, rfl⟩), ek]
        · rw [if_neg hm, putT_add (by rw [ek]; exact fun z => by obtain ⟨y', hy, e⟩ := List.mem_map.mp z; exact hm (enc_inj e ▸ hy)), ek, List.map_append]
          rfl
      · split
        · exact nk
        · next hm => exact nd_snoc nk hm
      · split
        · omega
        · rw [List.length_append, List.length_singleton]; omega
      · split
        · exact vk
        · intro y' hy
          rcases List.mem_append.mp hy with hy | hy
          · exact vk y' hy
          · rw [List.mem_singleton.mp hy]; exact vy
  · obtain ⟨ci, bagi, kvs, ks, b9, hbi, ek, nk, lk, vk, rfl⟩ := z
    have cd : ∀ d ∈ ds, d ∉ [b, bd] := fun d hd h => by
      simp only [List.mem_cons, List.not_mem_nil, or_false] at h
      rcases h with rfl | rfl
      · exact bds hd
      · exact bdd hd
    refine k7 B bagi (by omega) (ci.keep _ _ hF (by simp [Fb, bF])) (pr.keep ci cd) (ci.keep _ _ hl (by simp [lb, bl])) hbi ek nk (by omega) vk Fd bds ld bdd Fb lb bb fun H' b6 b7 b10 b11 b12 c => q H' b6 b7 _ _ b10 b11 b12 ?_
    refine Chg.go (M := b :: ds) (M' := [b, bd] ++ ds) .refl ?_ fun z hz => ?_
    · exact (ci.wide (by simp)).both (c.wide (by intro z hz; rcases List.mem_cons.mp hz with rfl | h <;> simp_all))
    · rcases List.mem_append.mp hz with hz | hz
      · simp only [List.mem_cons, List.not_mem_nil, or_false] at hz
        rcases hz with rfl | rfl
        · exact .inl (by simp)
        · exact .inr nb
      · exact .inl (List.mem_cons_of_mem _ hz)
theorem k3 {K : PySem.W.Frag} {H : Hp} {D : Ends} {a0 a1 a5 a6 a7 a8 a9 a10 a11 a12 : Option V} {b F l : Addr} {m : Nat} {ts ds : List Addr} {ns : List Str} {rs0 : List RowP}
    (B : Base5 ns rs0) (bag : Bag H b m) (hm : 200000 ≤ m) (hF : H F = some (.lst (ts.map V.ref))) (pr : PR H ts ds rs0) (hl : H l = some (.lst (ns.map V.str)))
    (Fd : F ∉ ds) (bds : b ∉ ds) (ld : l ∉ ds) (Fb : F ≠ b) (lb : l ≠ b)
    (q : ∀ (H' : Hp) (b5 b6 b7 b8 b9 b10 b11 b12 : Option V), Chg (b :: ds) H H' → D.nx [a0, a1, some (.ref b), some (.ref F), some (.ref l), b5, b6, b7, b8, b9, b10, b11, b12] H') : t_k3 K D [a0, a1, some (.ref b), some (.ref F), some (.ref l), a5, a6, a7, a8, a9, a10, a11, a12] H := by
  show tSeq _ (tSeq _ (t_k5 K)) _ _ _
  walk_at "wn"
  refine k_lst (by walk_at "sz") fun pl H1 np c1 hp => ?_
  have pd : pl ∉ ds := fun hm => by obtain ⟨us, e⟩ := pr.there hm; rw [np] at e; cases e
  have pb : pl ≠ b := fun e => bag.some (by rw [← e]; exact np)
  have pl' : l ≠ pl := fun e => by rw [e, np] at hl; cases hl
  have pF : F ≠ pl := fun e => by rw [e, np] at hF; cases hF
  have hF1 := c1.at hF
  have few := B.few
  have pr1 := pr.keep c1 (fun d _ h => by cases h)
  walk_at "wn"
  refine for_it (walk_list (K := K) (a := F) (xs := ts.map V.ref)) (fun a σ Hi => Chg [pl] H1 Hi ∧ ∃ (xs : List V) (b6 b7 b11 : Option V), Hi pl = some (.lst xs) ∧ PlAt rs0 Hi xs ∧ xs.length ≤ 12 * a ∧ σ = [a0, a1, some (.ref b), some (.ref F), some (.ref l), some (.ref pl), b6, b7, a8, a9, a10, b11, a12])
    ⟨.refl, [], _, _, _, hp, fun x h => (by cases h), Nat.zero_le _, rfl⟩ (fun a σ Hi _ z => sqL (z.1.at1 hF1 pF)) (fun a x σ Hi0 Hi hi z y => ?_) (fun σ Hi z => ?_)
  · obtain ⟨rfl, ex⟩ := y
    obtain ⟨ci, xs, b6, b7, b11, hpi, px, lx, rfl⟩ := z
    rw [List.length_map] at hi
    rw [List.getElem?_map, List.getElem?_eq_getElem hi] at ex
    cases ex
    have la : a < rs0.length := by rw [← pr.lt]; exact hi
    have e0 := List.getElem?_eq_getElem la
    have eT := List.getElem?_eq_getElem hi
    have eD := List.getElem?_eq_getElem (l := ds) (i := a) (by rw [pr.ld]; exact la)
    generalize rs0[a] = r0 at *
    generalize ts[a] = T at *
    generalize ds[a]'(by rw [pr.ld]; exact la) = Dd at eD
    obtain ⟨f1, us, f2, f3⟩ := (pr1.keep ci (fun d hd h => pd (by rw [← List.mem_singleton.mp h]; exact hd))).at_ a T Dd r0 eT eD e0
    have lus : us.length = r0.2.length := f3.length
    have l12 := B.short r0 (List.mem_of_getElem? e0)
    walk_at "wn"
    refine w_lcP walk_range [] (fun _ _ => True) (fun j y Hx => ∃ t, y = V.ref t ∧ Hx t = some (.tup [.str r0.1, .int (j : Nat)])) trivial (fun _ _ _ _ _ _ _ => trivial) (fun _ _ => trivial) (fun E j acc z Ha Hb hj nE hE el iv ca _ y => ?_) (fun E acc Ha nE ca _ el hE ys => ?_)
    · obtain ⟨rfl, rfl⟩ := y
      simp only [Int.zero_add]
      walk_at "wn"
      refine k_tup (by walk_at "sz") fun t Hc nt cc ht => ?_
      exact lcp_end (fun _ _ _ _ _ _ _ => trivial) (fun _ _ _ _ _ _ c h => by obtain ⟨t, h1, h2⟩ := h; exact ⟨t, h1, c.tup _ _ h2⟩) nE (fun a ha => by cases ha) hE el (by omega) iv cc trivial ⟨t, rfl, ht⟩
    · have Ep : E ≠ pl := fun e => by rw [e, hpi] at nE; cases nE
      have hpa := ca.at hpi
      have lacc : acc.length = us.length := by rw [el]; simp
      walk_at "wn"
      refine w5_extend hpa hE (by omega) fun Hc cc hc => ?_
      refine ⟨(ci.same ca).both cc, xs ++ acc, _, _, _, hc, fun x hx => ?_, by rw [List.length_append]; omega, rfl⟩
      rcases List.mem_append.mp hx with hx | hx
      · exact (px.keep (ca.pre cc)) x hx
      · obtain ⟨j, hj⟩ := List.mem_iff_getElem?.mp hx
        obtain ⟨t, h1, h2⟩ := ys j x hj
        have := (List.getElem?_eq_some_iff.mp hj).1
        exact ⟨t, (r0.1, (j : Int)), h1, cc.tup _ _ h2, a, r0, j, e0, rfl, by omega⟩
  · obtain ⟨ci, xs, b6, b7, b11, hpi, px, lx, rfl⟩ := z
    rw [List.length_map, pr.lt] at lx
    refine k5 B ((bag.same c1).one ci (Ne.symm pb)) hm (ci.at1 hF1 pF) (pr1.keep ci (fun d hd h => pd (by rw [← List.mem_singleton.mp h]; exact hd))) (ci.at1 (c1.at hl) pl') hpi px (by omega) Fd bds ld pd Fb lb pb fun H' b6 b7 b8 b9 b10 b11 b12 c => q H' _ b6 b7 b8 b9 b10 b11 b12 ?_
    exact (c1.wide (M' := b :: ds) (by simp)).go ((ci.wide (M' := pl :: b :: ds) (by simp)).both (c.wide (by intro z hz; exact List.mem_cons_of_mem _ hz))) fun z hz => (List.mem_cons.mp hz).elim (fun e => .inr (by rw [e]; exact np)) fun h => .inl h
theorem base5_of {p : Prg} (h : PrgOk p) (l : p.length ≤ 12) (s : ∀ r ∈ p, r.2.length ≤ 12 ∧ ∀ s ∈ r.2, s.numsIn (10 ^ 20)) : Base5 (p.map (·.1)) (p.map rowP) where
  nm := by rw [List.map_map]; rfl
  nn := fun r hr => by obtain ⟨x, hx, rfl⟩ := List.mem_map.mp hr; exact h.names x hx
  up := h.up
  nd := (rising_nd h.up)
  few := by rw [List.length_map]; exact l
  short := fun r hr => by obtain ⟨x, hx, rfl⟩ := List.mem_map.mp hr; show (x.2.map Stp.data).length ≤ 12; rw [List.length_map]; exact (s x hx).1
  ok := fun r hr j d e => by
    obtain ⟨x, hx, rfl⟩ := List.mem_map.mp hr
    have e : (x.2.map Stp.data)[j]? = some d := e
    show isStep _ (((x.2.map Stp.data).length : Int) - 1 - j) d = true
    rw [List.length_map]
    rw [List.getElem?_map] at e
    cases e2 : x.2[j]? with
    | none => rw [e2] at e; cases e
    | some st =>
      rw [e2] at e
      cases e
      exact isStep_of (stepsOk_at (h.steps x hx) e2)
  sm := fun r hr d hd => by
    obtain ⟨x, hx, rfl⟩ := List.mem_map.mp hr
    obtain ⟨st, hs, rfl⟩ := List.mem_map.mp (show d ∈ x.2.map Stp.data from hd)
    obtain ⟨bh, hb⟩ := stepsOk_mem (h.steps x hx) st hs
    exact Stp.small hb
theorem k0 {K : PySem.W.Frag} {H : Hp} {D : Ends} {a2 a3 a4 a5 a6 a7 a8 a9 a10 a11 a12 : Option V} {s : Addr} {k : Nat} {ms : List Int} (hsc : SqL K H s (ms.map V.int)) (hk : k ≤ 20)
    (q : ∀ (H' : Hp) (b2 b3 b4 b5 b6 b7 b8 b9 b10 b11 b12 : Option V), Chg [] H H' → D.nx [some (.ref s), some (.int (k : Nat)), b2, b3, b4, b5, b6, b7, b8, b9, b10, b11, b12] H') : t_k0 K D [some (.ref s), some (.int (k : Nat)), a2, a3, a4, a5, a6, a7, a8, a9, a10, a11, a12] H := by
  show tSeq _ (tSeq _ (tSeq _ (t_k3 K))) _ _ _
  walk_at "wn"
  refine ⟨s, ms, (k : Nat), rfl, hsc, by omega, fun cell => ?_⟩
  walk_at "wn"
  refine ⟨cell, (k : Nat), rfl, by omega, by omega, fun b H1 nb c1 bag => ?_⟩
  walk_at "wn"
  refine ⟨b, _, rfl, bag, by decide, fun F p H2 c2 bag2 ok lp sp nF ⟨rows, hF, ts, ds, erw, hds, pr⟩ => ?_⟩
  subst erw
  have B := base5_of ok lp sp
  have Fd : F ∉ ds := fun h => (hds F h).2 rfl
  have bds : b ∉ ds := fun h => bag.some (hds b h).1
  have Fb : F ≠ b := fun e => bag.some (by rw [← e]; exact nF)
  have few := B.few
  walk_at "wn"
  refine w_lcP (walk_list (K := K) (a := F) (xs := ts.map V.ref)) [] (fun _ _ => True) (fun j y _ => ∃ x, y = V.str x ∧ (p.map (·.1))[j]? = some x) trivial (fun _ _ _ _ _ _ _ => trivial) (fun Hx c => sqL (c.at hF)) (fun E j acc z Ha Hb hj nE hE el iv ca _ y => ?_) (fun E acc Ha nE ca _ el hE ys => ?_)
  · obtain ⟨rfl, ey⟩ := y
    rw [List.length_map] at hj
    rw [List.getElem?_map, List.getElem?_eq_getElem hj] at ey
    cases ey
    have la : j < (p.map rowP).length := by rw [← pr.lt]; exact hj
    have e0 := List.getElem?_eq_getElem la
    have eT := List.getElem?_eq_getElem hj
    have eD := List.getElem?_eq_getElem (l := ds) (i := j) (by rw [pr.ld]; exact la)
    have ix := base_ix B e0
    generalize (p.map rowP)[j] = r0 at *
    generalize ts[j] = T at *
    obtain ⟨f1, _⟩ := (pr.keep ca (fun d hd h => by cases h)).at_ j T _ r0 eT eD e0
    walk_at "wn"
    exact lcp_end (fun _ _ _ _ _ _ _ => trivial) (fun _ _ _ _ _ _ c h => h) nE (fun a ha => by cases ha) hE el (by rw [List.length_map] at la; omega) iv .refl trivial ⟨_, rfl, ix⟩
  · have eacc : acc = (p.map (·.1)).map V.str := by
      apply List.ext_getElem?
      intro i
      rw [List.getElem?_map]
      have la : acc.length = (p.map (·.1)).length := by rw [el, List.length_map, pr.lt, List.length_map, List.length_map]
      by_cases hi : i < acc.length
      · obtain ⟨x, h1, h2⟩ := ys i _ (List.getElem?_eq_getElem hi)
        rw [List.getElem?_eq_getElem hi, h1, h2]
        rfl
      · rw [List.getElem?_eq_none (by omega), List.getElem?_eq_none (by omega)]
        rfl
    rw [eacc] at hE
    have Eb : E ≠ b := fun e => bag2.some (by rw [← e]; exact nE)
    have Ed : E ∉ ds := fun hm => by obtain ⟨us, e⟩ := pr.there hm; rw [nE] at e; cases e
    walk_at "wn"
    refine k3 B (bag2.same ca) (by decide) (ca.at hF) (pr.keep ca (fun d hd h => by cases h)) hE Fd bds Ed Fb Eb fun H' b5 b6 b7 b8 b9 b10 b11 b12 c => q H' _ _ _ b5 b6 b7 b8 b9 b10 b11 b12 ?_
    refine Chg.go (M := []) (M' := b :: ds) c1 (((c2.wide (by simp)).same ca).both c) fun z hz => .inr ?_
    rcases List.mem_cons.mp hz with rfl | hz
    · exact nb
    · exact c1.dom z (hds z hz).1
def sp_law (K : PySem.W.Frag) : Sp := fun vs H Q _ => ∃ (a : Addr) (ns : List Int), vs = [.ref a] ∧ SqL K H a (ns.map V.int) ∧ ns.length ≤ 63 ∧ ∀ H', Q (.bl true) H'
def t_law (K : PySem.W.Frag) : TS :=
    tSeq (tFor (iRng1 (tCons (tCB cMax (tCons (tC (.int 1)) (tCons (tCB cMin (tCons (tC (.int 4)) (tCons (tCB (cLenQ K) (tCons (tVar 0) (tNil))) (tNil)))) (tNil)))) (tNil))) (gName 1) (tSeq (tAsg (tCall sp__law_bag [] E0 (tCons (tCall (sp__law_cell_at K) [] E0 (tCons (tVar 0) (tCons (tVar 1) (tNil)))) (tCons (tVar 1) (tNil)))) (gName 2))
    (tSeq (tAsg (tCall (sp__law_program5) [] E0 (tCons (tVar 2) (tNil))) (gName 3))
    (tSeq (tAsg (tLc (iList K (tVar 3)) (gTup K 2 (gCons (gName 6) (gCons (gName 7) (gNil)))) (tYes) (tVar 6) [6, 7]) (gName 4))
    (tSeq (tAsg (tLst (tNil)) (gName 5))
    (tSeq (tFor (iList K (tVar 3)) (gTup K 2 (gCons (gName 6) (gCons (gName 7) (gNil)))) (tDrop (tBM K "list" rExtend (tVar 5) (tCons (tLc (iRng1 (tCons (tCB (cLenQ K) (tCons (tVar 7) (tNil))) (tNil))) (gName 11) (tYes) (tTup (tCons (tVar 6) (tCons (tVar 11) (tNil)))) [11]) (tNil)))))
    (tSeq (tAsg (tDNewT) (gName 8))
    (tSeq (tFor (iRng1 (tCons (tOp oAdd (tC (.int 1)) (tCall sp__law_draw [] E0 (tCons (tVar 2) (tCons (tC (.int 4)) (tNil))))) (tNil))) (gName 9) (tIfS (tTest (tOp oNeE (tVar 5) (tLst (tNil)))) (sDPut (tVar 8) (tOp (rIxL K) (tVar 5) (tCall sp__law_draw [] E0 (tCons (tVar 2) (tCons (tCB (cLenQ K) (tCons (tVar 5) (tNil))) (tNil))))) (tC (.bl true))) (tNext)))
    (tSeq (tAsg (tDNewT) (gName 10))
    (tSeq (tFor (iList K (tVar 3)) (gTup K 2 (gCons (gName 6) (gCons (gName 7) (gNil)))) (tFor (iRng1 (tCons (tCB (cLenQ K) (tCons (tVar 7) (tNil))) (tNil))) (gName 11) (tIfS (tB (tDIn (tTup (tCons (tVar 6) (tCons (tVar 11) (tNil)))) (tVar 8))) (tSeq (sDPut (tVar 10) (tTup (tCons (tVar 6) (tCons (tVar 11) (tNil)))) (tOp (rIxL K) (tVar 7) (tVar 11)))
    (tAsg (tCall sp__law_bad_step [] E0 (tCons (tVar 2) (tCons (tVar 4) (tCons (tOp oSub (tOp oSub (tCB (cLenQ K) (tCons (tVar 7) (tNil))) (tC (.int 1))) (tVar 11)) (tNil))))) (gSub (tVar 7) (tVar 11) rSetL))) (tNext))))
    (tSeq (tFor (iList K (tCB rSortSI (tCons (tVar 8) (tNil)))) (gName 12) (tSeq (tIfS (tOr (tTest (tOp oNeD (tCall sp__law_wrong [] E0 (tCons (tVar 3) (tNil))) (tVar 12))) (tNot (tB (tCall sp__law_alike [] E0 (tCons (tVar 3) (tNil)))))) (tRet (tC (.bl false))) (tNext))
    (tAsg (tDGet (tVar 10) (tVar 12)) (gSub (tOp (rIxT K) (tOp (rIxL K) (tVar 3) (tBM K "list" (rIndex K) (tVar 4) (tCons (tOp (rIxT K) (tVar 12) (tC (.int 0))) (tNil)))) (tC (.int 1))) (tOp (rIxT K) (tVar 12) (tC (.int 1))) rSetL))))
    (tIfS (tOr (tNot (tB (tCall sp__law_alike [] E0 (tCons (tVar 3) (tNil))))) (tTest (tOp oNotN (tCall sp__law_wrong [] E0 (tCons (tVar 3) (tNil))) (tC .non)))) (tRet (tC (.bl false))) (tNext)))))))))))))
    (tRet (tC (.bl true)))
theorem pure_law {K : PySem.W.Frag} (vs : List V) (H : Hp) (Q : VK) (E : XK) (hh : sp_law K vs H Q E) : t_law K (fin Q) (start ["script", "k", "bag", "program", "names", "places", "name", "steps", "bad", "turn", "good", "j", "place"] vs) H := by
  obtain ⟨s, ms, rfl, hsc, hz, q⟩ := hh
  show tSeq (tFor _ _ (t_k0 K)) _ _ [some (.ref s), none, none, none, none, none, none, none, none, none, none, none, none] H
  walk_at "wn"
  have hn : ∃ n : Nat, n ≤ 20 ∧ (if (if ((ms.map V.int).length : Int) < 4 then ((ms.map V.int).length : Int) else 4) > 1 then (if ((ms.map V.int).length : Int) < 4 then ((ms.map V.int).length : Int) else 4) else 1) = (n : Int) := by
    refine ⟨(if (if ((ms.map V.int).length : Int) < 4 then ((ms.map V.int).length : Int) else 4) > 1 then (if ((ms.map V.int).length : Int) < 4 then ((ms.map V.int).length : Int) else 4) else 1).toNat, ?_, ?_⟩ <;> (split <;> split <;> omega)
  obtain ⟨n, hn, en⟩ := hn
  rw [en, Int.toNat_natCast]
  refine for_it (walk_range (lo := 0) (n := n)) (fun i σ Hi => Chg [] H Hi ∧ ∃ b1 b2 b3 b4 b5 b6 b7 b8 b9 b10 b11 b12 : Option V, σ = [some (.ref s), b1, b2, b3, b4, b5, b6, b7, b8, b9, b10, b11, b12])
    ⟨.refl, _, _, _, _, _, _, _, _, _, _, _, _, rfl⟩ (fun _ _ _ _ _ => trivial) (fun i v σ Hi0 Hi hi z y => ?_) (fun σ Hi z => ?_)
  · obtain ⟨ci, b1, b2, b3, b4, b5, b6, b7, b8, b9, b10, b11, b12, rfl⟩ := z
    obtain ⟨rfl, rfl⟩ := y
    simp only [Int.zero_add]
    walk_at "wn"
    exact k0 (ci.seq hsc) (by omega) fun H' d2 d3 d4 d5 d6 d7 d8 d9 d10 d11 d12 c => ⟨ci.same c, _, _, _, _, _, _, _, _, _, _, _, _, rfl⟩
  · obtain ⟨ci, b1, b2, b3, b4, b5, b6, b7, b8, b9, b10, b11, b12, rfl⟩ := z
    walk_at "w"
    exact q Hi
end
end Fg
namespace Fg
open PySem PySem.Spec PyProof.Rows L2
local macro_rules | `(tactic| walk_at "len") => `(tactic| first | exact (fun ⟨e, _⟩ => by rw [e]; rfl) | (refine exL ?_; intro _; walk_at "len"))
theorem sc_is_whole : FnScope ["thing"] ["thing"] (defScope s_is_whole) := ⟨rfl, rfl, rfl, by decide +kernel, rfl, by decide +kernel, by decide +kernel⟩
theorem sc_is_name : FnScope ["thing", "sign"] ["thing"] (defScope s_is_name) := ⟨rfl, rfl, rfl, by decide +kernel, rfl, by decide +kernel, by decide +kernel⟩
theorem sc_is_expression : FnScope ["thing", "most", "one"] ["thing", "most"] (defScope s_is_expression) := ⟨rfl, rfl, rfl, by decide +kernel, rfl, by decide +kernel, by decide +kernel⟩
theorem sc_is_step : FnScope ["thing", "names", "behind", "word"] ["thing", "names", "behind"] (defScope s_is_step) := ⟨rfl, rfl, rfl, by decide +kernel, rfl, by decide +kernel, by decide +kernel⟩
theorem sc_has_form : FnScope ["thing", "row", "names", "name", "steps", "one", "other"] ["thing"] (defScope s_has_form) := ⟨rfl, rfl, rfl, by decide +kernel, rfl, by decide +kernel, by decide +kernel⟩
theorem sc_first_wrong : FnScope ["program", "names", "name", "steps", "at", "step"] ["program"] (defScope s_first_wrong) := ⟨rfl, rfl, rfl, by decide +kernel, rfl, by decide +kernel, by decide +kernel⟩
theorem sc_is_program : FnScope ["thing"] ["thing"] (defScope s_is_program) := ⟨rfl, rfl, rfl, by decide +kernel, rfl, by decide +kernel, by decide +kernel⟩
theorem sc_check : FnScope ["program", "wrong"] ["program"] (defScope s_check) := ⟨rfl, rfl, rfl, by decide +kernel, rfl, by decide +kernel, by decide +kernel⟩
theorem sc__law_cell_at : FnScope ["script", "k"] ["script", "k"] (defScope s__law_cell_at) := ⟨rfl, rfl, rfl, by decide +kernel, rfl, by decide +kernel, by decide +kernel⟩
theorem sc__law_bag : FnScope ["cell", "place"] ["cell", "place"] (defScope s__law_bag) := ⟨rfl, rfl, rfl, by decide +kernel, rfl, by decide +kernel, by decide +kernel⟩
theorem sc__law_draw : FnScope ["bag", "many", "found", "mixed"] ["bag", "many"] (defScope s__law_draw) := ⟨rfl, rfl, rfl, by decide +kernel, rfl, by decide +kernel, by decide +kernel⟩
theorem sc__law_name : FnScope ["bag", "last", "letters", "pick", "letter", "words", "at", "k"] ["bag", "last"] (defScope s__law_name) := ⟨rfl, rfl, rfl, by decide +kernel, rfl, by decide +kernel, by decide +kernel⟩
theorem sc__law_names : FnScope ["bag", "many", "found", "name", "k"] ["bag", "many"] (defScope s__law_names) := ⟨rfl, rfl, rfl, by decide +kernel, rfl, by decide +kernel, by decide +kernel⟩
theorem sc__law_number : FnScope ["bag", "pick", "number"] ["bag"] (defScope s__law_number) := ⟨rfl, rfl, rfl, by decide +kernel, rfl, by decide +kernel, by decide +kernel⟩
theorem sc__law_expression : FnScope ["bag", "most", "pick", "word", "one"] ["bag", "most"] (defScope s__law_expression) := ⟨rfl, rfl, rfl, by decide +kernel, rfl, by decide +kernel, by decide +kernel⟩
theorem sc__law_step : FnScope ["bag", "names", "behind", "deep", "word", "one"] ["bag", "names", "behind", "deep"] (defScope s__law_step) := ⟨rfl, rfl, rfl, by decide +kernel, rfl, by decide +kernel, by decide +kernel⟩
theorem sc__law_program : FnScope ["bag", "great", "names", "found", "name", "many", "deep", "k"] ["bag"] (defScope s__law_program) := ⟨rfl, rfl, rfl, by decide +kernel, rfl, by decide +kernel, by decide +kernel⟩
theorem sc__law_is_name : FnScope ["thing", "sign"] ["thing"] (defScope s__law_is_name) := ⟨rfl, rfl, rfl, by decide +kernel, rfl, by decide +kernel, by decide +kernel⟩
theorem sc__law_is_whole : FnScope ["thing"] ["thing"] (defScope s__law_is_whole) := ⟨rfl, rfl, rfl, by decide +kernel, rfl, by decide +kernel, by decide +kernel⟩
theorem sc__law_is_expression : FnScope ["thing", "most", "parts", "one"] ["thing", "most"] (defScope s__law_is_expression) := ⟨rfl, rfl, rfl, by decide +kernel, rfl, by decide +kernel, by decide +kernel⟩
theorem sc__law_is_step : FnScope ["thing", "names", "behind", "word", "one", "other"] ["thing", "names", "behind"] (defScope s__law_is_step) := ⟨rfl, rfl, rfl, by decide +kernel, rfl, by decide +kernel, by decide +kernel⟩
theorem sc__law_wrong : FnScope ["program", "ahead", "row", "names", "name", "steps", "k"] ["program"] (defScope s__law_wrong) := ⟨rfl, rfl, rfl, by decide +kernel, rfl, by decide +kernel, by decide +kernel⟩
theorem sc__law_told : FnScope ["program", "caught", "fields", "e"] ["program"] (defScope s__law_told) := ⟨rfl, rfl, rfl, by decide +kernel, rfl, by decide +kernel, by decide +kernel⟩
theorem sc__law_alike : FnScope ["program", "due", "found"] ["program"] (defScope s__law_alike) := ⟨rfl, rfl, rfl, by decide +kernel, rfl, by decide +kernel, by decide +kernel⟩
theorem sc__law_no_name : FnScope ["bag", "name", "signs", "sign", "at"] ["bag"] (defScope s__law_no_name) := ⟨rfl, rfl, rfl, by decide +kernel, rfl, by decide +kernel, by decide +kernel⟩
theorem sc__law_bad_step : FnScope ["bag", "names", "behind", "pick", "deep", "lacking", "some", "one", "j"] ["bag", "names", "behind"] (defScope s__law_bad_step) := ⟨rfl, rfl, rfl, by decide +kernel, rfl, by decide +kernel, by decide +kernel⟩
theorem sc_law : FnScope ["script", "k", "bag", "program", "names", "places", "name", "steps", "bad", "turn", "good", "j", "place"] ["script"] (defScope s_law) := ⟨rfl, rfl, rfl, by decide +kernel, rfl, by decide +kernel, by decide +kernel⟩
structure Gm (w : World) (K : PySem.W.Frag) (mg : Str → Option Value) (dP : Addr) (es : Array DictEntry) (nn : Nat) : Prop where
  ValueError : mg "ValueError" = none
  all : mg "all" = none
  range : mg "range" = none
  list : mg "list" = none
  sorted : mg "sorted" = none
  isinstance : mg "isinstance" = none
  int : mg "int" = none
  len : mg "len" = none
  enumerate : mg "enumerate" = none
  max : mg "max" = none
  bool : mg "bool" = none
  str : mg "str" = none
  tuple : mg "tuple" = none
  min : mg "min" = none
  zip : mg "zip" = none
  LETTERS : ∃ u, mg "LETTERS" = some u ∧ RelV (.str letters) u
  LONGEST_NAME : ∃ u, mg "LONGEST_NAME" = some u ∧ RelV (.int 8) u
  PARTS : ∃ u, mg "PARTS" = some u ∧ RelV (.ref dP) u
  WorkError : mg "WorkError" = some (.ref (He.ga K "WorkError"))
  NoProgram : mg "NoProgram" = some (.ref (He.ga K "NoProgram"))
  NoHelper : mg "NoHelper" = some (.ref (He.ga K "NoHelper"))
  TooLong : mg "TooLong" = some (.ref (He.ga K "TooLong"))
  NoMark : mg "NoMark" = some (.ref (He.ga K "NoMark"))
  NoHand : mg "NoHand" = some (.ref (He.ga K "NoHand"))
  NotOver : mg "NotOver" = some (.ref (He.ga K "NotOver"))
  NoText : mg "NoText" = some (.ref (He.ga K "NoText"))
  dP : KDict K w dP es nn
section
variable {P : Program} {w : World} {K : PySem.W.Frag} {mg : Str → Option Value} {base : Heap} {dP : Addr} {es : Array DictEntry} {nn : Nat} {f : Addr} {fd : FuncData}
theorem ok_is_whole (F : FnP K "is_whole" s_is_whole [] f fd) (G : Gm w K mg dP es nn)  : FnOk P w K mg base CX0 1 f fd ["thing"] sp_is_whole :=
  FnP.go (k := 0) F sc_is_whole (fun vs H Q E => by first | (unfold sp_is_whole; walk_at "len") | walk_at "len") (t_is_whole K) (fun vs H Q E h => pure_is_whole (K := K) vs H Q E h) fun cdv A outer s H E hr =>
    (pss_one (ps_ret (pe_and (pe_callB call_isi (by rfl) G.isinstance (by decide +kernel) (pa_cons (pv 0) (pa_cons (pe_bltn (v := .ty "int") (by rfl) G.int (by decide +kernel) rfl) pa_nil))) (pe_one (pe_not (pe_callB call_isi (by rfl) G.isinstance (by decide +kernel) (pa_cons (pv 0) (pa_cons (pe_bltn (v := .ty "bool") (by rfl) G.bool (by decide +kernel) rfl) pa_nil))))))))
theorem ok_is_name (F : FnP K "is_name" s_is_name [] f fd) (G : Gm w K mg dP es nn)  : FnOk P w K mg base CX0 1 f fd ["thing"] sp_is_name :=
  FnP.go (k := 0) F sc_is_name (fun vs H Q E => by first | (unfold sp_is_name; walk_at "len") | walk_at "len") (t_is_name K) (fun vs H Q E h => pure_is_name (K := K) vs H Q E h) fun cdv A outer s H E hr =>
    (pss_cons (ps_if (PW.pt (pw_or (pt_not (pt_val (pe_callB call_isi (by rfl) G.isinstance (by decide +kernel) (pa_cons (pv 0) (pa_cons (pe_bltn (v := .ty "str") (by rfl) G.str (by decide +kernel) rfl) pa_nil))))) (pw_or (pt_cmpR p_lt (pe_callB p_lenS (by rfl) G.len (by decide +kernel) (pa_cons (pv 0) pa_nil)) pe_int (nomark _)) (pw_or1 (pt_cmpR p_gt (pe_callB p_lenS (by rfl) G.len (by decide +kernel) (pa_cons (pv 0) pa_nil)) (pe_gc (by rfl) G.LONGEST_NAME) (nomark _)))))) (pss_one (ps_ret pe_bl)) pss_nil)
      (pss_one (ps_ret (pe_callB (cr_all rfl) (by rfl) G.all (by decide +kernel) (pa_cons (pe_lc (own := [("sign", 1)]) (g := gName 1) (tt := tYes) (by rfl) sc_is_name.nd (pi_str (pv 0)) (blkOk_by (own := [("sign", 1)]) (N := ["thing", "sign"]) (sc := defScope s_is_name) (by decide +kernel)) (fun _ _ _ _ _ => (pg_name (i := 1) sc_is_name.nd rfl (by first | exact Or.inl rfl | exact Or.inr rfl))) (fun _ _ _ _ _ => pts_nil) (fun _ _ _ _ _ => (pe_cmpR p_inC (pv 1) (pe_gc (by rfl) G.LETTERS) (by rfl)))) pa_nil)))))
theorem ok_is_expression (F : FnP K "is_expression" s_is_expression [.int 5] f fd) (G : Gm w K mg dP es nn) (T : Parts K w dP) (g : mg "is_expression" = some (.ref f)) (c_is_whole : Cal P w K mg base 1 "is_whole" sp_is_whole []) : ∀ n : Nat, FnOk P w K mg base CX0 (n + 2) f fd ["thing", "most"] ((sp_is_expression n))
  | 0 => ⟨fun vs H Q E h => absurd h (no_is_expression vs H Q E), fun A outer s H args us vs Q E _ _ _ _ h => absurd h (no_is_expression vs H Q E)⟩
  | n + 1 => by
    have ih := ok_is_expression F G T g c_is_whole n
    have c_is_expression : Cal P w K mg base (n + 2) "is_expression" ((sp_is_expression n)) [] := FnP.cald 2 1 F ih g (by simp) rfl fun _ _ _ _ _ _ _ us its h1 h2 => match us, its, h1, h2 with | [_, _], [_], _, _ => ⟨_, rfl, rfl⟩
    exact FnP.go (k := n + 2) F sc_is_expression (fun vs H Q E => by first | (unfold sp_is_expression; walk_at "len") | walk_at "len") (t_is_expression K w dP n) (fun vs H Q E h => pure_is_expression (K := K) T n vs H Q E h) fun cdv A outer s H E hr =>
      (pss_cons (ps_if (pt_cmpR p_lt (pv 1) pe_int (nomark _)) (pss_one (ps_ret pe_bl)) pss_nil)
      (pss_cons (ps_if (pt_val (pe_c c_is_whole hr (by omega) (by rfl) (pa_cons (pv 0) pa_nil))) (pss_one (ps_ret pe_bl)) pss_nil)
      (pss_cons (ps_if (PW.pt (pw_or (pt_not (pt_val (pe_callB call_isi (by rfl) G.isinstance (by decide +kernel) (pa_cons (pv 0) (pa_cons (pe_bltn (v := .ty "tuple") (by rfl) G.tuple (by decide +kernel) rfl) pa_nil))))) (pw_or (pt_cmpR p_lt (pe_callB p_lenQ (by rfl) G.len (by decide +kernel) (pa_cons (pv 0) pa_nil)) pe_int (nomark _)) (pw_or1 (pt_not (pt_val (pe_callB call_isi (by rfl) G.isinstance (by decide +kernel) (pa_cons (pe_ix ix_tup (pv 0) pe_int (fun _ _ => rfl)) (pa_cons (pe_bltn (v := .ty "str") (by rfl) G.str (by decide +kernel) rfl) pa_nil))))))))) (pss_one (ps_ret pe_bl)) pss_nil)
      (pss_cons (ps_if (PW.pt (pw_or (pt_cmpR (op_notIn_kd G.dP) (pe_ix ix_tup (pv 0) pe_int (fun _ _ => rfl)) (pe_gc (by rfl) G.PARTS) (by rfl)) (pw_or1 (pt_cmpR op_ne (pe_callB p_lenQ (by rfl) G.len (by decide +kernel) (pa_cons (pv 0) pa_nil)) (pe_op p_add (pe_ix ix_kdict (pe_gc (by rfl) G.PARTS) (pe_ix ix_tup (pv 0) pe_int (fun _ _ => rfl)) (fun _ _ => rfl)) pe_int) (nomark _))))) (pss_one (ps_ret pe_bl)) pss_nil)
      (pss_one (ps_ret (pe_callB (cr_all rfl) (by rfl) G.all (by decide +kernel) (pa_cons (pe_lc (own := [("one", 2)]) (g := gName 2) (tt := tYes) (by rfl) sc_is_expression.nd (pi_tup (pe_slice sl_tupA (pv 0) (po_some pe_int) po_none)) (blkOk_by (own := [("one", 2)]) (N := ["thing", "most", "one"]) (sc := defScope s_is_expression) (by decide +kernel)) (fun _ _ _ _ _ => (pg_name (i := 2) sc_is_expression.nd rfl (by first | exact Or.inl rfl | exact Or.inr rfl))) (fun _ _ _ _ _ => pts_nil) (fun _ _ _ _ _ => (pe_c c_is_expression hr (by omega) (by rfl) (pa_cons (pv 2) (pa_cons (pe_op p_sub (pv 1) pe_int) pa_nil))))) pa_nil))))))))
theorem ok_is_step (F : FnP K "is_step" s_is_step [] f fd) (G : Gm w K mg dP es nn) (c_is_expression_d : Cal P w K mg base 8 "is_expression" (sp_is_expression 6) [.int 5]) (c_is_whole : Cal P w K mg base 1 "is_whole" sp_is_whole []) (c_is_name : Cal P w K mg base 1 "is_name" sp_is_name []) : FnOk P w K mg base CX0 9 f fd ["thing", "names", "behind"] (sp_is_step K) :=
  FnP.go (k := 8) F sc_is_step (fun vs H Q E => by first | (unfold sp_is_step; walk_at "len") | walk_at "len") (t_is_step K) (fun vs H Q E h => pure_is_step (K := K) vs H Q E h) fun cdv A outer s H E hr =>
    (pss_cons (ps_if (PW.pt (pw_or (pt_not (pt_val (pe_callB call_isi (by rfl) G.isinstance (by decide +kernel) (pa_cons (pv 0) (pa_cons (pe_bltn (v := .ty "tuple") (by rfl) G.tuple (by decide +kernel) rfl) pa_nil))))) (pw_or (pt_cmpR p_lt (pe_callB p_lenQ (by rfl) G.len (by decide +kernel) (pa_cons (pv 0) pa_nil)) pe_int (nomark _)) (pw_or1 (pt_not (pt_val (pe_callB call_isi (by rfl) G.isinstance (by decide +kernel) (pa_cons (pe_ix ix_tup (pv 0) pe_int (fun _ _ => rfl)) (pa_cons (pe_bltn (v := .ty "str") (by rfl) G.str (by decide +kernel) rfl) pa_nil))))))))) (pss_one (ps_ret pe_bl)) pss_nil)
      (pss_cons (ps_set (i := 3) sc_is_step.nd rfl (by first | exact Or.inl rfl | exact Or.inr rfl) (pe_ix ix_tup (pv 0) pe_int (fun _ _ => rfl)))
      (pss_cons (ps_if (pt_cmpR op_eq (pv 3) pe_str (nomark _)) (pss_one (ps_ret (pe_cmpR op_eq (pe_callB p_lenQ (by rfl) G.len (by decide +kernel) (pa_cons (pv 0) pa_nil)) pe_int (nomark _)))) pss_nil)
      (pss_cons (ps_if (pt_cmpR op_ne (pe_callB p_lenQ (by rfl) G.len (by decide +kernel) (pa_cons (pv 0) pa_nil)) pe_int (nomark _)) (pss_one (ps_ret pe_bl)) pss_nil)
      (pss_cons (ps_if (pt_cmpR op_eq (pv 3) pe_str (nomark _)) (pss_one (ps_ret (pe_and (pe_c c_is_expression_d hr (by omega) (by rfl) (pa_cons (pe_ix ix_tup (pv 0) pe_int (fun _ _ => rfl)) pa_nil)) (pe_one (pe_c c_is_expression_d hr (by omega) (by rfl) (pa_cons (pe_ix ix_tup (pv 0) pe_int (fun _ _ => rfl)) pa_nil)))))) pss_nil)
      (pss_cons (ps_if (pt_cmpR op_eq (pv 3) pe_str (nomark _)) (pss_one (ps_ret (pe_and (pe_c c_is_expression_d hr (by omega) (by rfl) (pa_cons (pe_ix ix_tup (pv 0) pe_int (fun _ _ => rfl)) pa_nil)) (pe_and (pe_c c_is_whole hr (by omega) (by rfl) (pa_cons (pe_ix ix_tup (pv 0) pe_int (fun _ _ => rfl)) pa_nil)) (pe_one (pe_chain p_le p_le pe_int (pe_ix ix_tup (pv 0) pe_int (fun _ _ => rfl)) (pv 2))))))) pss_nil)
      (pss_cons (ps_if (PW.pt (pw_or (pt_cmpR op_notIn_seq (pv 3) (pe_tup (pa_cons pe_str (pa_cons pe_str (pa_cons pe_str pa_nil)))) (by rfl)) (pw_or (pt_not (pt_val (pe_c c_is_name hr (by omega) (by rfl) (pa_cons (pe_ix ix_tup (pv 0) pe_int (fun _ _ => rfl)) pa_nil)))) (pw_or1 (pt_not (pt_val (pe_c c_is_expression_d hr (by omega) (by rfl) (pa_cons (pe_ix ix_tup (pv 0) pe_int (fun _ _ => rfl)) pa_nil)))))))) (pss_one (ps_ret pe_bl)) pss_nil)
      (pss_one (ps_ret (pe_or (pe_cmpR op_eq (pv 3) pe_str (nomark _)) (pe_one (pe_cmpR op_in_seq (pe_ix ix_tup (pv 0) pe_int (fun _ _ => rfl)) (pv 1) (by rfl)))))))))))))
theorem ok_has_form (F : FnP K "has_form" s_has_form [] f fd) (G : Gm w K mg dP es nn) (c_is_name : Cal P w K mg base 1 "is_name" sp_is_name []) : FnOk P w K mg base CX0 2 f fd ["thing"] sp_has_form :=
  FnP.go (k := 1) F sc_has_form (fun vs H Q E => by first | (unfold sp_has_form; walk_at "len") | walk_at "len") (t_has_form K) (fun vs H Q E h => pure_has_form (K := K) vs H Q E h) fun cdv A outer s H E hr =>
    (pss_cons (ps_if (pt_not (pt_val (pe_callB call_isi (by rfl) G.isinstance (by decide +kernel) (pa_cons (pv 0) (pa_cons (pe_bltn (v := .ty "list") (by rfl) G.list (by decide +kernel) rfl) pa_nil))))) (pss_one (ps_ret pe_bl)) pss_nil)
      (pss_cons (ps_for PassesOwn.never rfl (pi_list (pv 0)) (pg_name (i := 1) sc_has_form.nd rfl (by first | exact Or.inl rfl | exact Or.inr rfl)) (pss_one (ps_if (PW.pt (pw_or (pt_not (pt_val (pe_callB call_isi (by rfl) G.isinstance (by decide +kernel) (pa_cons (pv 1) (pa_cons (pe_bltn (v := .ty "tuple") (by rfl) G.tuple (by decide +kernel) rfl) pa_nil))))) (pw_or (pt_cmpR op_ne (pe_callB p_lenQ (by rfl) G.len (by decide +kernel) (pa_cons (pv 1) pa_nil)) pe_int (nomark _)) (pw_or (pt_not (pt_val (pe_c c_is_name hr (by omega) (by rfl) (pa_cons (pe_ix ix_tup (pv 1) pe_int (fun _ _ => rfl)) pa_nil)))) (pw_or1 (pt_not (pt_val (pe_callB call_isi (by rfl) G.isinstance (by decide +kernel) (pa_cons (pe_ix ix_tup (pv 1) pe_int (fun _ _ => rfl)) (pa_cons (pe_bltn (v := .ty "list") (by rfl) G.list (by decide +kernel) rfl) pa_nil)))))))))) (pss_one (ps_ret pe_bl)) pss_nil)))
      (pss_cons (ps_setLc (i := 2) (own := [("name", 3), ("steps", 4)]) (g := gTup K 2 (gCons (gName 3) (gCons (gName 4) (gNil)))) (tt := tYes) (by rfl) sc_has_form.nd rfl rfl (sw_true rfl rfl rfl (by decide +kernel)) (pi_list (pv 0)) (blkOk_by (own := [("name", 3), ("steps", 4)]) (N := ["thing", "row", "names", "name", "steps", "one", "other"]) (sc := defScope s_has_form) (by decide +kernel)) (fun _ _ _ _ _ => (pg_tup rfl (pgs_cons (pg_name (i := 3) sc_has_form.nd rfl (by first | exact Or.inl rfl | exact Or.inr rfl)) (pgs_cons (pg_name (i := 4) sc_has_form.nd rfl (by first | exact Or.inl rfl | exact Or.inr rfl)) pgs_nil)))) (fun _ _ _ _ _ => pts_nil) (fun _ _ _ _ _ => (pv 3)))
      (pss_one (ps_ret (pe_callB (cr_all rfl) (by rfl) G.all (by decide +kernel) (pa_cons (pe_lc (own := [("one", 5), ("other", 6)]) (g := gTup K 2 (gCons (gName 5) (gCons (gName 6) (gNil)))) (tt := tYes) (by rfl) sc_has_form.nd (pi_zip (by rfl) G.zip (pa_cons (pv 2) (pa_cons (pe_slice sl_list (pv 2) (po_some pe_int) po_none) pa_nil))) (blkOk_by (own := [("one", 5), ("other", 6)]) (N := ["thing", "row", "names", "name", "steps", "one", "other"]) (sc := defScope s_has_form) (by decide +kernel)) (fun _ _ _ _ _ => (pg_tup rfl (pgs_cons (pg_name (i := 5) sc_has_form.nd rfl (by first | exact Or.inl rfl | exact Or.inr rfl)) (pgs_cons (pg_name (i := 6) sc_has_form.nd rfl (by first | exact Or.inl rfl | exact Or.inr rfl)) pgs_nil)))) (fun _ _ _ _ _ => pts_nil) (fun _ _ _ _ _ => (pe_cmpR p_ltS (pv 5) (pv 6) (nomark _)))) pa_nil)))))))
theorem ok_first_wrong (F : FnP K "first_wrong" s_first_wrong [] f fd) (G : Gm w K mg dP es nn) (c_has_form : Cal P w K mg base 2 "has_form" sp_has_form []) (c_is_step : Cal P w K mg base 9 "is_step" (sp_is_step K) []) : FnOk P w K mg base CX0 10 f fd ["program"] sp_first_wrong :=
  FnP.go (k := 9) F sc_first_wrong (fun vs H Q E => by first | (unfold sp_first_wrong; walk_at "len") | walk_at "len") (t_first_wrong K) (fun vs H Q E h => pure_first_wrong (K := K) vs H Q E h) fun cdv A outer s H E hr =>
    (pss_cons (ps_if (pt_not (pt_val (pe_c c_has_form hr (by omega) (by rfl) (pa_cons (pv 0) pa_nil)))) (pss_one (ps_ret (pe_tup (pa_cons pe_non (pa_cons pe_non pa_nil))))) pss_nil)
      (pss_cons (ps_setLc (i := 1) (own := [("name", 2), ("steps", 3)]) (g := gTup K 2 (gCons (gName 2) (gCons (gName 3) (gNil)))) (tt := tYes) (by rfl) sc_first_wrong.nd rfl rfl (sw_true rfl rfl rfl (by decide +kernel)) (pi_list (pv 0)) (blkOk_by (own := [("name", 2), ("steps", 3)]) (N := ["program", "names", "name", "steps", "at", "step"]) (sc := defScope s_first_wrong) (by decide +kernel)) (fun _ _ _ _ _ => (pg_tup rfl (pgs_cons (pg_name (i := 2) sc_first_wrong.nd rfl (by first | exact Or.inl rfl | exact Or.inr rfl)) (pgs_cons (pg_name (i := 3) sc_first_wrong.nd rfl (by first | exact Or.inl rfl | exact Or.inr rfl)) pgs_nil)))) (fun _ _ _ _ _ => pts_nil) (fun _ _ _ _ _ => (pv 2)))
      (pss_cons (ps_for PassesOwn.never rfl (pi_list (pv 0)) (pg_tup rfl (pgs_cons (pg_name (i := 2) sc_first_wrong.nd rfl (by first | exact Or.inl rfl | exact Or.inr rfl)) (pgs_cons (pg_name (i := 3) sc_first_wrong.nd rfl (by first | exact Or.inl rfl | exact Or.inr rfl)) pgs_nil))) (pss_one (ps_for PassesOwn.never rfl (pi_enum (by rfl) G.enumerate (pa_cons (pv 3) pa_nil)) (pg_tup rfl (pgs_cons (pg_name (i := 4) sc_first_wrong.nd rfl (by first | exact Or.inl rfl | exact Or.inr rfl)) (pgs_cons (pg_name (i := 5) sc_first_wrong.nd rfl (by first | exact Or.inl rfl | exact Or.inr rfl)) pgs_nil))) (pss_one (ps_if (pt_not (pt_val (pe_c c_is_step hr (by omega) (by rfl) (pa_cons (pv 5) (pa_cons (pv 1) (pa_cons (pe_op p_sub (pe_op p_sub (pe_callB p_lenQ (by rfl) G.len (by decide +kernel) (pa_cons (pv 3) pa_nil)) (pv 4)) pe_int) pa_nil)))))) (pss_one (ps_ret (pe_tup (pa_cons (pv 2) (pa_cons (pv 4) pa_nil))))) pss_nil)))))
      (pss_one (ps_ret pe_non)))))
theorem ok_is_program (F : FnP K "is_program" s_is_program [] f fd) (G : Gm w K mg dP es nn) (c_first_wrong : Cal P w K mg base 10 "first_wrong" sp_first_wrong []) : FnOk P w K mg base CX0 11 f fd ["thing"] sp_is_program :=
  FnP.go (k := 10) F sc_is_program (fun vs H Q E => by first | (unfold sp_is_program; walk_at "len") | walk_at "len") (t_is_program) (fun vs H Q E h => pure_is_program (K := K) vs H Q E h) fun cdv A outer s H E hr =>
    (pss_one (ps_ret (pe_cmpR p_isN (pe_c c_first_wrong hr (by omega) (by rfl) (pa_cons (pv 0) pa_nil)) pe_non (nomark _))))
theorem ok_check (F : FnP K "check" s_check [] f fd) (G : Gm w K mg dP es nn) (c_first_wrong : Cal P w K mg base 10 "first_wrong" sp_first_wrong []) (m_NoProgram : MkX P w K mg base "NoProgram" (He.ga K "NoProgram") ["helper", "at"]) : FnOk P w K mg base (L2.CX P w) 11 f fd ["program"] (sp_check K) :=
  FnP.goX (k := 10) F sc_check (fun vs H Q E => by first | (unfold sp_check; walk_at "len") | walk_at "len") (fun E => t_check E K) (fun vs H Q E h => pure_check (K := K) vs H Q E h) fun cdv A outer s H E hr =>
    (pss_cons (ps_set (i := 1) sc_check.nd rfl (by first | exact Or.inl rfl | exact Or.inr rfl) (pe_c c_first_wrong hr (by omega) (by rfl) (pa_cons (pv 0) pa_nil)))
      (pss_one (ps_if (pt_cmpR p_notN (pv 1) pe_non (nomark _)) (pss_one (ps_raiseX rfl m_NoProgram hr (by decide) (takes_of rfl rfl rfl rfl) (by rfl) (pa_cons (pe_ix ix_tup (pv 1) pe_int (fun _ _ => rfl)) (pa_cons (pe_ix ix_tup (pv 1) pe_int (fun _ _ => rfl)) pa_nil)))) pss_nil)))
theorem ok__law_cell_at (F : FnP K "_law_cell_at" s__law_cell_at [] f fd) (G : Gm w K mg dP es nn)  : FnOk P w K mg base CX0 1 f fd ["script", "k"] (sp__law_cell_at K) :=
  FnP.go (k := 0) F sc__law_cell_at (fun vs H Q E => by first | (unfold sp__law_cell_at; walk_at "len") | walk_at "len") (t__law_cell_at K) (fun vs H Q E h => pure__law_cell_at (K := K) vs H Q E h) fun cdv A outer s H E hr =>
    (pss_cons (ps_if (pt_cmpR p_lt (pv 1) (pe_callB p_lenQ (by rfl) G.len (by decide +kernel) (pa_cons (pv 0) pa_nil)) (nomark _)) (pss_one (ps_ret (pe_ix ix_list (pv 0) (pv 1) (fun _ _ => rfl)))) pss_nil)
      (pss_one (ps_ret pe_int)))
theorem ok__law_bag (F : FnP K "_law_bag" s__law_bag [] f fd) (G : Gm w K mg dP es nn)  : FnOk P w K mg base CX0 1 f fd ["cell", "place"] sp__law_bag :=
  FnP.go (k := 0) F sc__law_bag (fun vs H Q E => by first | (unfold sp__law_bag; walk_at "len") | walk_at "len") (t__law_bag) (fun vs H Q E h => pure__law_bag (K := K) vs H Q E h) fun cdv A outer s H E hr =>
    (pss_one (ps_ret (pe_lst (pa_cons (pe_callB (p_max rfl) (by rfl) G.max (by decide +kernel) (pa_cons pe_int (pa_cons (pe_op p_sub (pv 0) (pe_op p_pow pe_int pe_int)) pa_nil))) (pa_cons (pe_op p_add (pe_op p_mod (pv 0) pe_int) (pe_op p_mul pe_int (pv 1))) (pa_cons pe_int pa_nil))))))
theorem ok__law_draw (F : FnP K "_law_draw" s__law_draw [] f fd) (G : Gm w K mg dP es nn)  : FnOk P w K mg base CX0 1 f fd ["bag", "many"] sp__law_draw :=
  FnP.go (k := 0) F sc__law_draw (fun vs H Q E => by first | (unfold sp__law_draw; walk_at "len") | walk_at "len") (t__law_draw K) (fun vs H Q E h => pure__law_draw (K := K) vs H Q E h) fun cdv A outer s H E hr =>
    (pss_cons (ps_if (pt_cmpR p_gt (pe_ix ix_list (pv 0) pe_int (fun _ _ => rfl)) pe_int (nomark _)) (pss_cons (ps_set (i := 2) sc__law_draw.nd rfl (by first | exact Or.inl rfl | exact Or.inr rfl) (pe_op p_mod (pe_ix ix_list (pv 0) pe_int (fun _ _ => rfl)) (pv 1)))
      (pss_cons (ps_asg (pe_op p_fdiv (pe_ix ix_list (pv 0) pe_int (fun _ _ => rfl)) (pv 1)) (pg_sub (pv 0) pe_int set_list))
      (pss_one (ps_ret (pv 2))))) pss_nil)
      (pss_cons (ps_asg (pe_op p_add (pe_ix ix_list (pv 0) pe_int (fun _ _ => rfl)) pe_int) (pg_sub (pv 0) pe_int set_list))
      (pss_cons (ps_set (i := 3) sc__law_draw.nd rfl (by first | exact Or.inl rfl | exact Or.inr rfl) (pe_op p_mod (pe_op p_pow (pe_op p_add (pe_ix ix_list (pv 0) pe_int (fun _ _ => rfl)) (pe_op p_mul pe_int (pe_ix ix_list (pv 0) pe_int (fun _ _ => rfl)))) pe_int) pe_int))
      (pss_cons (ps_set (i := 3) sc__law_draw.nd rfl (by first | exact Or.inl rfl | exact Or.inr rfl) (pe_op p_mod (pe_op p_pow (pe_op p_add (pv 3) (pe_op p_mul pe_int (pe_ix ix_list (pv 0) pe_int (fun _ _ => rfl)))) pe_int) pe_int))
      (pss_one (ps_ret (pe_op p_mod (pe_op p_fdiv (pv 3) pe_int) (pv 1))))))))
theorem ok__law_name (F : FnP K "_law_name" s__law_name [] f fd) (G : Gm w K mg dP es nn) (c__law_draw : Cal P w K mg base 1 "_law_draw" sp__law_draw []) : FnOk P w K mg base CX0 2 f fd ["bag", "last"] sp__law_name :=
  FnP.go (k := 1) F sc__law_name (fun vs H Q E => by first | (unfold sp__law_name; walk_at "len") | walk_at "len") (t__law_name K) (fun vs H Q E h => pure__law_name (K := K) vs H Q E h) fun cdv A outer s H E hr =>
    (pss_cons (ps_set (i := 2) sc__law_name.nd rfl (by first | exact Or.inl rfl | exact Or.inr rfl) pe_str)
      (pss_cons (ps_set (i := 3) sc__law_name.nd rfl (by first | exact Or.inl rfl | exact Or.inr rfl) (pe_c c__law_draw hr (by omega) (by rfl) (pa_cons (pv 0) (pa_cons pe_int pa_nil))))
      (pss_cons (ps_set (i := 4) sc__law_name.nd rfl (by first | exact Or.inl rfl | exact Or.inr rfl) (pe_ix ix_str (pv 2) (pe_c c__law_draw hr (by omega) (by rfl) (pa_cons (pv 0) (pa_cons pe_int pa_nil))) (fun _ _ => rfl)))
      (pss_cons (ps_if (pt_cmpR op_eq (pv 3) pe_int (nomark _)) (pss_cons (ps_set (i := 5) sc__law_name.nd rfl (by first | exact Or.inl rfl | exact Or.inr rfl) (pe_lst (pa_cons pe_str (pa_cons pe_str (pa_cons pe_str (pa_cons pe_str (pa_cons pe_str (pa_cons pe_str (pa_cons pe_str (pa_cons pe_str (pa_cons pe_str (pa_cons pe_str pa_nil))))))))))))
      (pss_one (ps_ret (pe_ix ix_list (pv 5) (pe_c c__law_draw hr (by omega) (by rfl) (pa_cons (pv 0) (pa_cons pe_int pa_nil))) (fun _ _ => rfl))))) pss_nil)
      (pss_cons (ps_if (PW.pt (pw_and (pt_cmpR op_eq (pv 3) pe_int (nomark _)) (pw_and1 (pt_chain p_lt p_lt pe_int (pe_callB p_lenS (by rfl) G.len (by decide +kernel) (pa_cons (pv 1) pa_nil)) pe_int)))) (pss_one (ps_ret (pe_op p_addS (pv 1) (pv 4)))) pss_nil)
      (pss_cons (ps_if (PW.pt (pw_and (pt_cmpR op_eq (pv 3) pe_int (nomark _)) (pw_and1 (pt_cmpR p_gt (pe_callB p_lenS (by rfl) G.len (by decide +kernel) (pa_cons (pv 1) pa_nil)) pe_int (nomark _))))) (pss_one (ps_ret (pe_slice sl_str (pv 1) (po_some pe_int) po_none))) pss_nil)
      (pss_cons (ps_if (PW.pt (pw_and (pt_cmpR op_eq (pv 3) pe_int (nomark _)) (pw_and1 (pt_cmpR op_ne (pv 1) pe_str (nomark _))))) (pss_cons (ps_set (i := 6) sc__law_name.nd rfl (by first | exact Or.inl rfl | exact Or.inr rfl) (pe_c c__law_draw hr (by omega) (by rfl) (pa_cons (pv 0) (pa_cons (pe_callB p_lenS (by rfl) G.len (by decide +kernel) (pa_cons (pv 1) pa_nil)) pa_nil))))
      (pss_one (ps_ret (pe_op p_addS (pe_op p_addS (pe_slice sl_str (pv 1) po_none (po_some (pv 6))) (pv 4)) (pe_slice sl_str (pv 1) (po_some (pe_op p_add (pv 6) pe_int)) po_none))))) pss_nil)
      (pss_one (ps_ret (pe_op p_addS (pv 4) (pe_join pe_str (pe_lc (own := [("k", 7)]) (g := gName 7) (tt := tYes) (by rfl) sc__law_name.nd (pi_range1 (by rfl) G.range (pa_cons (pe_c c__law_draw hr (by omega) (by rfl) (pa_cons (pv 0) (pa_cons pe_int pa_nil))) pa_nil)) (blkOk_by (own := [("k", 7)]) (N := ["bag", "last", "letters", "pick", "letter", "words", "at", "k"]) (sc := defScope s__law_name) (by decide +kernel)) (fun _ _ _ _ _ => (pg_name (i := 7) sc__law_name.nd rfl (by first | exact Or.inl rfl | exact Or.inr rfl))) (fun _ _ _ _ _ => pts_nil) (fun _ _ _ _ _ => (pe_ix ix_str (pv 2) (pe_c c__law_draw hr (by omega) (by rfl) (pa_cons (pv 0) (pa_cons pe_int pa_nil))) (fun _ _ => rfl)))))))))))))))
theorem ok__law_names (F : FnP K "_law_names" s__law_names [] f fd) (G : Gm w K mg dP es nn) (c__law_name : Cal P w K mg base 2 "_law_name" sp__law_name []) : FnOk P w K mg base CX0 3 f fd ["bag", "many"] sp__law_names :=
  FnP.go (k := 2) F sc__law_names (fun vs H Q E => by first | (unfold sp__law_names; walk_at "len") | walk_at "len") (t__law_names) (fun vs H Q E h => pure__law_names (K := K) vs H Q E h) fun cdv A outer s H E hr =>
    (pss_cons (ps_set (i := 2) sc__law_names.nd rfl (by first | exact Or.inl rfl | exact Or.inr rfl) pe_dnewK)
      (pss_cons (ps_set (i := 3) sc__law_names.nd rfl (by first | exact Or.inl rfl | exact Or.inr rfl) pe_str)
      (pss_cons (ps_for PassesOwn.never rfl (pi_range1 (by rfl) G.range (pa_cons (pv 1) pa_nil)) (pg_name (i := 4) sc__law_names.nd rfl (by first | exact Or.inl rfl | exact Or.inr rfl)) (pss_cons (ps_set (i := 3) sc__law_names.nd rfl (by first | exact Or.inl rfl | exact Or.inr rfl) (pe_c c__law_name hr (by omega) (by rfl) (pa_cons (pv 0) (pa_cons (pv 3) pa_nil))))
      (pss_one (ps_dput (hu_of hr) (pv 2) (pv 3) pe_bl rfl))))
      (pss_one (ps_ret (pe_callTy (p_listD rfl) (by rfl) G.list (by decide +kernel) (pa_cons (pv 2) pa_nil)))))))
theorem ok__law_number (F : FnP K "_law_number" s__law_number [] f fd) (G : Gm w K mg dP es nn) (c__law_draw : Cal P w K mg base 1 "_law_draw" sp__law_draw []) : FnOk P w K mg base CX0 2 f fd ["bag"] sp__law_number :=
  FnP.go (k := 1) F sc__law_number (fun vs H Q E => by first | (unfold sp__law_number; walk_at "len") | walk_at "len") (t__law_number K) (fun vs H Q E h => pure__law_number (K := K) vs H Q E h) fun cdv A outer s H E hr =>
    (pss_cons (ps_set (i := 1) sc__law_number.nd rfl (by first | exact Or.inl rfl | exact Or.inr rfl) (pe_c c__law_draw hr (by omega) (by rfl) (pa_cons (pv 0) (pa_cons pe_int pa_nil))))
      (pss_cons (ps_set (i := 2) sc__law_number.nd rfl (by first | exact Or.inl rfl | exact Or.inr rfl) (pe_c c__law_draw hr (by omega) (by rfl) (pa_cons (pv 0) (pa_cons (pe_ix ix_list (pe_lst (pa_cons pe_int (pa_cons pe_int (pa_cons pe_int (pa_cons (pe_op p_pow pe_int pe_int) pa_nil))))) (pv 1) (fun _ _ => rfl)) pa_nil))))
      (pss_cons (ps_if (pt_cmpR op_eq (pe_c c__law_draw hr (by omega) (by rfl) (pa_cons (pv 0) (pa_cons pe_int pa_nil))) pe_int (nomark _)) (pss_one (ps_ret (pe_op p_sub pe_int (pv 2)))) pss_nil)
      (pss_one (ps_ret (pv 2))))))
theorem ok__law_expression (F : FnP K "_law_expression" s__law_expression [] f fd) (G : Gm w K mg dP es nn) (g : mg "_law_expression" = some (.ref f)) (c__law_draw : Cal P w K mg base 1 "_law_draw" sp__law_draw []) (c__law_number : Cal P w K mg base 2 "_law_number" sp__law_number []) : ∀ n : Nat, FnOk P w K mg base CX0 (n + 2) f fd ["bag", "most"] ((sp__law_expression n))
  | 0 => ⟨fun vs H Q E h => absurd h (no__law_expression vs H Q E), fun A outer s H args us vs Q E _ _ _ _ h => absurd h (no__law_expression vs H Q E)⟩
  | n + 1 => by
    have ih := ok__law_expression F G g c__law_draw c__law_number n
    have c__law_expression : Cal P w K mg base (n + 2) "_law_expression" ((sp__law_expression n)) [] := F.cal ih g fun _ _ _ _ _ _ us hl => match us, hl with | [_, _], _ => rfl
    exact FnP.go (k := n + 2) F sc__law_expression (fun vs H Q E => by first | (unfold sp__law_expression; walk_at "len") | walk_at "len") (t__law_expression K n) (fun vs H Q E h => pure__law_expression (K := K) n vs H Q E h) fun cdv A outer s H E hr =>
      (pss_cons (ps_set (i := 2) sc__law_expression.nd rfl (by first | exact Or.inl rfl | exact Or.inr rfl) (pe_c c__law_draw hr (by omega) (by rfl) (pa_cons (pv 0) (pa_cons pe_int pa_nil))))
      (pss_cons (ps_if (pt_cmpR op_eq (pv 2) pe_int (nomark _)) (pss_one (ps_ret (pe_tup (pa_cons pe_str pa_nil)))) pss_nil)
      (pss_cons (ps_if (PW.pt (pw_or (pt_cmpR p_lt (pv 1) pe_int (nomark _)) (pw_or1 (pt_cmpR p_lt (pv 2) pe_int (nomark _))))) (pss_one (ps_ret (pe_c c__law_number hr (by omega) (by rfl) (pa_cons (pv 0) pa_nil)))) pss_nil)
      (pss_cons (ps_if (pt_cmpR p_lt (pv 2) pe_int (nomark _)) (pss_one (ps_ret (pe_tup (pa_cons pe_str (pa_cons (pe_c c__law_expression hr (by omega) (by rfl) (pa_cons (pv 0) (pa_cons (pe_op p_sub (pv 1) pe_int) pa_nil))) pa_nil))))) pss_nil)
      (pss_cons (ps_set (i := 3) sc__law_expression.nd rfl (by first | exact Or.inl rfl | exact Or.inr rfl) (pe_ix ix_list (pe_lst (pa_cons pe_str (pa_cons pe_str (pa_cons pe_str pa_nil)))) (pe_c c__law_draw hr (by omega) (by rfl) (pa_cons (pv 0) (pa_cons pe_int pa_nil))) (fun _ _ => rfl)))
      (pss_cons (ps_set (i := 4) sc__law_expression.nd rfl (by first | exact Or.inl rfl | exact Or.inr rfl) (pe_c c__law_expression hr (by omega) (by rfl) (pa_cons (pv 0) (pa_cons (pe_op p_sub (pv 1) pe_int) pa_nil))))
      (pss_one (ps_ret (pe_tup (pa_cons (pv 3) (pa_cons (pv 4) (pa_cons (pe_c c__law_expression hr (by omega) (by rfl) (pa_cons (pv 0) (pa_cons (pe_op p_sub (pv 1) pe_int) pa_nil))) pa_nil))))))))))))
theorem ok__law_step (F : FnP K "_law_step" s__law_step [] f fd) (G : Gm w K mg dP es nn) (c__law_draw : Cal P w K mg base 1 "_law_draw" sp__law_draw []) (c__law_expression : Cal P w K mg base 8 "_law_expression" (sp__law_expression 6) []) (c__law_name : Cal P w K mg base 2 "_law_name" sp__law_name []) : FnOk P w K mg base CX0 9 f fd ["bag", "names", "behind", "deep"] (sp__law_step K) :=
  FnP.go (k := 8) F sc__law_step (fun vs H Q E => by first | (unfold sp__law_step; walk_at "len") | walk_at "len") (t__law_step K) (fun vs H Q E h => pure__law_step (K := K) vs H Q E h) fun cdv A outer s H E hr =>
    (pss_cons (ps_set (i := 4) sc__law_step.nd rfl (by first | exact Or.inl rfl | exact Or.inr rfl) (pe_ix ix_list (pe_lst (pa_cons pe_str (pa_cons pe_str (pa_cons pe_str (pa_cons pe_str (pa_cons pe_str (pa_cons pe_str pa_nil))))))) (pe_c c__law_draw hr (by omega) (by rfl) (pa_cons (pv 0) (pa_cons pe_int pa_nil))) (fun _ _ => rfl)))
      (pss_cons (ps_set (i := 5) sc__law_step.nd rfl (by first | exact Or.inl rfl | exact Or.inr rfl) (pe_c c__law_expression hr (by omega) (by rfl) (pa_cons (pv 0) (pa_cons (pe_op p_add pe_int (pe_c c__law_draw hr (by omega) (by rfl) (pa_cons (pv 0) (pa_cons (pv 3) pa_nil)))) pa_nil))))
      (pss_cons (ps_if (PW.pt (pw_or (pt_cmpR op_eq (pv 4) pe_str (nomark _)) (pw_or1 (PW.pt (pw_and (pt_cmpR op_eq (pv 4) pe_str (nomark _)) (pw_and1 (pt_cmpR op_eq (pv 2) pe_int (nomark _)))))))) (pss_one (ps_ret (pe_tup (pa_cons pe_str pa_nil)))) pss_nil)
      (pss_cons (ps_if (pt_cmpR op_eq (pv 4) pe_str (nomark _)) (pss_one (ps_ret (pe_tup (pa_cons (pv 4) (pa_cons (pv 5) (pa_cons (pe_c c__law_expression hr (by omega) (by rfl) (pa_cons (pv 0) (pa_cons (pe_op p_add pe_int (pe_c c__law_draw hr (by omega) (by rfl) (pa_cons (pv 0) (pa_cons (pv 3) pa_nil)))) pa_nil))) pa_nil)))))) pss_nil)
      (pss_cons (ps_if (pt_cmpR op_eq (pv 4) pe_str (nomark _)) (pss_one (ps_ret (pe_tup (pa_cons (pv 4) (pa_cons (pv 5) (pa_cons (pe_op p_add pe_int (pe_c c__law_draw hr (by omega) (by rfl) (pa_cons (pv 0) (pa_cons (pv 2) pa_nil)))) pa_nil)))))) pss_nil)
      (pss_cons (ps_if (pt_cmpR op_eq (pv 4) pe_str (nomark _)) (pss_one (ps_ret (pe_tup (pa_cons (pv 4) (pa_cons (pe_c c__law_name hr (by omega) (by rfl) (pa_cons (pv 0) (pa_cons (pe_ix ix_list (pv 1) pe_int (fun _ _ => rfl)) pa_nil))) (pa_cons (pv 5) pa_nil)))))) pss_nil)
      (pss_one (ps_ret (pe_tup (pa_cons (pv 4) (pa_cons (pe_ix ix_list (pv 1) (pe_c c__law_draw hr (by omega) (by rfl) (pa_cons (pv 0) (pa_cons (pe_callB p_lenQ (by rfl) G.len (by decide +kernel) (pa_cons (pv 1) pa_nil)) pa_nil))) (fun _ _ => rfl)) (pa_cons (pv 5) pa_nil))))))))))))
theorem ok__law_program (F : FnP K "_law_program" s__law_program [] f fd) (G : Gm w K mg dP es nn) (c__law_draw : Cal P w K mg base 1 "_law_draw" sp__law_draw []) (c__law_names : Cal P w K mg base 3 "_law_names" sp__law_names []) (c__law_step : Cal P w K mg base 9 "_law_step" (sp__law_step K) []) : FnOk P w K mg base CX0 10 f fd ["bag"] (sp__law_program5) :=
  FnP.go (k := 9) F sc__law_program (fun vs H Q E => by first | (unfold sp__law_program5; walk_at "len") | walk_at "len") (t__law_program5 K) (fun vs H Q E h => pure__law_program5 (K := K) vs H Q E h) fun cdv A outer s H E hr =>
    (pss_cons (ps_set (i := 1) sc__law_program.nd rfl (by first | exact Or.inl rfl | exact Or.inr rfl) (pe_c c__law_draw hr (by omega) (by rfl) (pa_cons (pv 0) (pa_cons pe_int pa_nil))))
      (pss_cons (ps_set (i := 2) sc__law_program.nd rfl (by first | exact Or.inl rfl | exact Or.inr rfl) (pe_callB cr_sortedS (by rfl) G.sorted (by decide +kernel) (pa_cons (pe_c c__law_names hr (by omega) (by rfl) (pa_cons (pv 0) (pa_cons (pe_c c__law_draw hr (by omega) (by rfl) (pa_cons (pv 0) (pa_cons (pe_ix ix_list (pe_lst (pa_cons pe_int (pa_cons pe_int pa_nil))) (pe_op p_fdiv (pv 1) pe_int) (fun _ _ => rfl)) pa_nil))) pa_nil))) pa_nil)))
      (pss_cons (ps_set (i := 3) sc__law_program.nd rfl (by first | exact Or.inl rfl | exact Or.inr rfl) (pe_lst pa_nil))
      (pss_cons (ps_for PassesOwn.never rfl (pi_list (pv 2)) (pg_name (i := 4) sc__law_program.nd rfl (by first | exact Or.inl rfl | exact Or.inr rfl)) (pss_cons (ps_set (i := 5) sc__law_program.nd rfl (by first | exact Or.inl rfl | exact Or.inr rfl) (pe_c c__law_draw hr (by omega) (by rfl) (pa_cons (pv 0) (pa_cons (pe_ix ix_list (pe_lst (pa_cons pe_int (pa_cons pe_int pa_nil))) (pe_op p_fdiv (pv 1) pe_int) (fun _ _ => rfl)) pa_nil))))
      (pss_cons (ps_set (i := 6) sc__law_program.nd rfl (by first | exact Or.inl rfl | exact Or.inr rfl) (pe_op op_rep (pe_lst (pa_cons (pe_op p_add pe_int (pe_callTy p_int (by rfl) G.int (by decide +kernel) (pa_cons (pe_cmpR p_lt (pv 1) pe_int (nomark _)) pa_nil))) pa_nil)) (pe_op p_add (pv 5) pe_int)))
      (pss_cons (ps_asg pe_int (pg_sub (pv 6) (pe_c c__law_draw hr (by omega) (by rfl) (pa_cons (pv 0) (pa_cons (pe_op p_add (pv 5) pe_int) pa_nil))) set_list))
      (pss_one (ps_expr (pe_bm PySem.F.plainAttrs_list PySem.F.slot_list_append PySem.F.type_list_append mt_append (pv 3) (pa_cons (pe_tup (pa_cons (pv 4) (pa_cons (pe_lc (own := [("k", 7)]) (g := gName 7) (tt := tYes) (by rfl) sc__law_program.nd (pi_range1 (by rfl) G.range (pa_cons (pv 5) pa_nil)) (blkOk_by (own := [("k", 7)]) (N := ["bag", "great", "names", "found", "name", "many", "deep", "k"]) (sc := defScope s__law_program) (by decide +kernel)) (fun _ _ _ _ _ => (pg_name (i := 7) sc__law_program.nd rfl (by first | exact Or.inl rfl | exact Or.inr rfl))) (fun _ _ _ _ _ => pts_nil) (fun _ _ _ _ _ => (pe_c c__law_step hr (by omega) (by rfl) (pa_cons (pv 0) (pa_cons (pv 2) (pa_cons (pe_op p_sub (pe_op p_sub (pv 5) pe_int) (pv 7)) (pa_cons (pe_ix ix_list (pv 6) (pv 7) (fun _ _ => rfl)) pa_nil))))))) pa_nil))) pa_nil))))))))
      (pss_one (ps_ret (pv 3)))))))
theorem ok__law_is_name (F : FnP K "_law_is_name" s__law_is_name [] f fd) (G : Gm w K mg dP es nn)  : FnOk P w K mg base CX0 1 f fd ["thing"] sp__law_is_name :=
  FnP.go (k := 0) F sc__law_is_name (fun vs H Q E => by first | (unfold sp__law_is_name; walk_at "len") | walk_at "len") (t__law_is_name K) (fun vs H Q E h => pure__law_is_name (K := K) vs H Q E h) fun cdv A outer s H E hr =>
    (pss_cons (ps_if (PW.pt (pw_or (pt_not (pt_val (pe_callB call_isi (by rfl) G.isinstance (by decide +kernel) (pa_cons (pv 0) (pa_cons (pe_bltn (v := .ty "str") (by rfl) G.str (by decide +kernel) rfl) pa_nil))))) (pw_or (pt_cmpR op_eq (pv 0) pe_str (nomark _)) (pw_or1 (pt_cmpR p_gt (pe_callB p_lenS (by rfl) G.len (by decide +kernel) (pa_cons (pv 0) pa_nil)) pe_int (nomark _)))))) (pss_one (ps_ret pe_bl)) pss_nil)
      (pss_one (ps_ret (pe_cmpR (p_eqE hr.units) (pe_lc (own := [("sign", 1)]) (g := gName 1) (tt := tTest (tOp oNotInC (tVar 1) (tC (.str "abcdefghijklmnopqrstuvwxyz")))) (by rfl) sc__law_is_name.nd (pi_str (pv 0)) (blkOk_by (own := [("sign", 1)]) (N := ["thing", "sign"]) (sc := defScope s__law_is_name) (by decide +kernel)) (fun _ _ _ _ _ => (pg_name (i := 1) sc__law_is_name.nd rfl (by first | exact Or.inl rfl | exact Or.inr rfl))) (fun _ _ _ _ _ => (pts_one (pt_cmpR p_notInC (pv 1) pe_str (by rfl)))) (fun _ _ _ _ _ => (pv 1))) (pe_lst pa_nil) (nomark _)))))
theorem ok__law_is_whole (F : FnP K "_law_is_whole" s__law_is_whole [] f fd) (G : Gm w K mg dP es nn)  : FnOk P w K mg base CX0 1 f fd ["thing"] sp__law_is_whole :=
  FnP.go (k := 0) F sc__law_is_whole (fun vs H Q E => by first | (unfold sp__law_is_whole; walk_at "len") | walk_at "len") (t__law_is_whole K) (fun vs H Q E h => pure__law_is_whole (K := K) vs H Q E h) fun cdv A outer s H E hr =>
    (pss_one (ps_ret (pe_and (pe_callB call_isi (by rfl) G.isinstance (by decide +kernel) (pa_cons (pv 0) (pa_cons (pe_bltn (v := .ty "int") (by rfl) G.int (by decide +kernel) rfl) pa_nil))) (pe_one (pe_not (pe_callB call_isi (by rfl) G.isinstance (by decide +kernel) (pa_cons (pv 0) (pa_cons (pe_bltn (v := .ty "bool") (by rfl) G.bool (by decide +kernel) rfl) pa_nil))))))))
theorem ok__law_is_expression (F : FnP K "_law_is_expression" s__law_is_expression [] f fd) (G : Gm w K mg dP es nn) (g : mg "_law_is_expression" = some (.ref f)) (c__law_is_whole : Cal P w K mg base 1 "_law_is_whole" sp__law_is_whole []) : ∀ n : Nat, FnOk P w K mg base CX0 (n + 2) f fd ["thing", "most"] ((sp__law_is_expression n))
  | 0 => ⟨fun vs H Q E h => absurd h (no__law_is_expression vs H Q E), fun A outer s H args us vs Q E _ _ _ _ h => absurd h (no__law_is_expression vs H Q E)⟩
  | n + 1 => by
    have ih := ok__law_is_expression F G g c__law_is_whole n
    have c__law_is_expression : Cal P w K mg base (n + 2) "_law_is_expression" ((sp__law_is_expression n)) [] := F.cal ih g fun _ _ _ _ _ _ us hl => match us, hl with | [_, _], _ => rfl
    exact FnP.go (k := n + 2) F sc__law_is_expression (fun vs H Q E => by first | (unfold sp__law_is_expression; walk_at "len") | walk_at "len") (t__law_is_expression K n) (fun vs H Q E h => pure__law_is_expression (K := K) n vs H Q E h) fun cdv A outer s H E hr =>
      (pss_cons (ps_if (PW.pt (pw_or (pt_cmpR op_eq (pv 1) pe_int (nomark _)) (pw_or1 (pt_val (pe_c c__law_is_whole hr (by omega) (by rfl) (pa_cons (pv 0) pa_nil)))))) (pss_one (ps_ret (pe_cmpR p_gt (pv 1) pe_int (nomark _)))) pss_nil)
      (pss_cons (ps_if (PW.pt (pw_or (pt_not (pt_val (pe_callB call_isi (by rfl) G.isinstance (by decide +kernel) (pa_cons (pv 0) (pa_cons (pe_bltn (v := .ty "tuple") (by rfl) G.tuple (by decide +kernel) rfl) pa_nil))))) (pw_or (pt_cmpR (p_eqE hr.units) (pv 0) (pe_tup pa_nil) (nomark _)) (pw_or1 (pt_not (pt_val (pe_callB call_isi (by rfl) G.isinstance (by decide +kernel) (pa_cons (pe_ix ix_tup (pv 0) pe_int (fun _ _ => rfl)) (pa_cons (pe_bltn (v := .ty "str") (by rfl) G.str (by decide +kernel) rfl) pa_nil))))))))) (pss_one (ps_ret pe_bl)) pss_nil)
      (pss_cons (ps_set (i := 2) sc__law_is_expression.nd rfl (by first | exact Or.inl rfl | exact Or.inr rfl) (pe_dget2 (hu_of hr) (pe_disp (pps_cons pe_str pe_int (pps_cons pe_str pe_int (pps_cons pe_str pe_int (pps_cons pe_str pe_int (pps_cons pe_str pe_int pps_nil))))) (by rfl) (by rfl) (fun z => by cases z) (by decide)) (pe_ix ix_tup (pv 0) pe_int (fun _ _ => rfl)) (pe_un un_neg pe_int) ⟨rfl, rfl, rfl, rfl⟩))
      (pss_cons (ps_if (pt_cmpR op_ne (pe_callB p_lenQ (by rfl) G.len (by decide +kernel) (pa_cons (pv 0) pa_nil)) (pe_op p_add (pv 2) pe_int) (nomark _)) (pss_one (ps_ret pe_bl)) pss_nil)
      (pss_one (ps_ret (pe_cmpR (p_eqE hr.units) (pe_lc (own := [("one", 3)]) (g := gName 3) (tt := tNot (tB (tCall (sp__law_is_expression n) [] E0 (tCons (tVar 3) (tCons (tOp oSub (tVar 1) (tC (.int 1))) (tNil)))))) (by rfl) sc__law_is_expression.nd (pi_tup (pe_slice sl_tupA (pv 0) (po_some pe_int) po_none)) (blkOk_by (own := [("one", 3)]) (N := ["thing", "most", "parts", "one"]) (sc := defScope s__law_is_expression) (by decide +kernel)) (fun _ _ _ _ _ => (pg_name (i := 3) sc__law_is_expression.nd rfl (by first | exact Or.inl rfl | exact Or.inr rfl))) (fun _ _ _ _ _ => (pts_one (pt_not (pt_val (pe_c c__law_is_expression hr (by omega) (by rfl) (pa_cons (pv 3) (pa_cons (pe_op p_sub (pv 1) pe_int) pa_nil))))))) (fun _ _ _ _ _ => (pv 3))) (pe_lst pa_nil) (nomark _))))))))
theorem ok__law_is_step (F : FnP K "_law_is_step" s__law_is_step [] f fd) (G : Gm w K mg dP es nn) (c__law_is_expression : Cal P w K mg base 8 "_law_is_expression" (sp__law_is_expression 6) []) (c__law_is_whole : Cal P w K mg base 1 "_law_is_whole" sp__law_is_whole []) (c__law_is_name : Cal P w K mg base 1 "_law_is_name" sp__law_is_name []) : FnOk P w K mg base CX0 9 f fd ["thing", "names", "behind"] (sp__law_is_step K) :=
  FnP.go (k := 8) F sc__law_is_step (fun vs H Q E => by first | (unfold sp__law_is_step; walk_at "len") | walk_at "len") (t__law_is_step K) (fun vs H Q E h => pure__law_is_step (K := K) vs H Q E h) fun cdv A outer s H E hr =>
    (pss_cons (ps_if (pt_cmpR (p_eqT1 hr.units) (pv 0) (pe_tup (pa_cons pe_str pa_nil)) (nomark _)) (pss_one (ps_ret pe_bl)) pss_nil)
      (pss_cons (ps_if (PW.pt (pw_or (pt_not (pt_val (pe_callB call_isi (by rfl) G.isinstance (by decide +kernel) (pa_cons (pv 0) (pa_cons (pe_bltn (v := .ty "tuple") (by rfl) G.tuple (by decide +kernel) rfl) pa_nil))))) (pw_or (pt_cmpR op_ne (pe_callB p_lenQ (by rfl) G.len (by decide +kernel) (pa_cons (pv 0) pa_nil)) pe_int (nomark _)) (pw_or1 (pt_not (pt_val (pe_callB call_isi (by rfl) G.isinstance (by decide +kernel) (pa_cons (pe_ix ix_tup (pv 0) pe_int (fun _ _ => rfl)) (pa_cons (pe_bltn (v := .ty "str") (by rfl) G.str (by decide +kernel) rfl) pa_nil))))))))) (pss_one (ps_ret pe_bl)) pss_nil)
      (pss_cons (ps_asg (pv 0) (pg_tup rfl (pgs_cons (pg_name (i := 3) sc__law_is_step.nd rfl (by first | exact Or.inl rfl | exact Or.inr rfl)) (pgs_cons (pg_name (i := 4) sc__law_is_step.nd rfl (by first | exact Or.inl rfl | exact Or.inr rfl)) (pgs_cons (pg_name (i := 5) sc__law_is_step.nd rfl (by first | exact Or.inl rfl | exact Or.inr rfl)) pgs_nil)))))
      (pss_cons (ps_if (pt_cmpR op_eq (pv 3) pe_str (nomark _)) (pss_one (ps_ret (pe_and (pe_c c__law_is_expression hr (by omega) (by rfl) (pa_cons (pv 4) (pa_cons pe_int pa_nil))) (pe_and (pe_c c__law_is_whole hr (by omega) (by rfl) (pa_cons (pv 5) pa_nil)) (pe_and (pe_cmpR p_gt (pv 5) pe_int (nomark _)) (pe_one (pe_cmpR p_le (pv 5) (pv 2) (nomark _)))))))) pss_nil)
      (pss_cons (ps_if (pt_cmpR op_eq (pv 3) pe_str (nomark _)) (pss_one (ps_ret (pe_and (pe_c c__law_is_expression hr (by omega) (by rfl) (pa_cons (pv 4) (pa_cons pe_int pa_nil))) (pe_one (pe_c c__law_is_expression hr (by omega) (by rfl) (pa_cons (pv 5) (pa_cons pe_int pa_nil))))))) pss_nil)
      (pss_cons (ps_if (pt_cmpR op_eq (pv 3) pe_str (nomark _)) (pss_one (ps_ret (pe_and (pe_c c__law_is_name hr (by omega) (by rfl) (pa_cons (pv 4) pa_nil)) (pe_one (pe_c c__law_is_expression hr (by omega) (by rfl) (pa_cons (pv 5) (pa_cons pe_int pa_nil))))))) pss_nil)
      (pss_one (ps_ret (pe_and (pe_cmpR op_in_seq (pv 3) (pe_lst (pa_cons pe_str (pa_cons pe_str pa_nil))) (by rfl)) (pe_and (pe_c c__law_is_name hr (by omega) (by rfl) (pa_cons (pv 4) pa_nil)) (pe_and (pe_cmpR op_in_seq (pv 4) (pv 1) (by rfl)) (pe_one (pe_c c__law_is_expression hr (by omega) (by rfl) (pa_cons (pv 5) (pa_cons pe_int pa_nil)))))))))))))))
theorem ok__law_wrong (F : FnP K "_law_wrong" s__law_wrong [] f fd) (G : Gm w K mg dP es nn) (c__law_is_name : Cal P w K mg base 1 "_law_is_name" sp__law_is_name []) (c__law_is_step : Cal P w K mg base 9 "_law_is_step" (sp__law_is_step K) []) : FnOk P w K mg base CX0 10 f fd ["program"] sp__law_wrong :=
  FnP.go (k := 9) F sc__law_wrong (fun vs H Q E => by first | (unfold sp__law_wrong; walk_at "len") | walk_at "len") (t__law_wrong K) (fun vs H Q E h => pure__law_wrong (K := K) vs H Q E h) fun cdv A outer s H E hr =>
    (pss_cons (ps_if (pt_not (pt_val (pe_callB call_isi (by rfl) G.isinstance (by decide +kernel) (pa_cons (pv 0) (pa_cons (pe_bltn (v := .ty "list") (by rfl) G.list (by decide +kernel) rfl) pa_nil))))) (pss_one (ps_ret (pe_tup (pa_cons pe_non (pa_cons pe_non pa_nil))))) pss_nil)
      (pss_cons (ps_set (i := 1) sc__law_wrong.nd rfl (by first | exact Or.inl rfl | exact Or.inr rfl) pe_str)
      (pss_cons (ps_for PassesOwn.never rfl (pi_list (pv 0)) (pg_name (i := 2) sc__law_wrong.nd rfl (by first | exact Or.inl rfl | exact Or.inr rfl)) (pss_cons (ps_if (PW.pt (pw_or (pt_not (pt_val (pe_callB call_isi (by rfl) G.isinstance (by decide +kernel) (pa_cons (pv 2) (pa_cons (pe_bltn (v := .ty "tuple") (by rfl) G.tuple (by decide +kernel) rfl) pa_nil))))) (pw_or (pt_cmpR op_ne (pe_callB p_lenQ (by rfl) G.len (by decide +kernel) (pa_cons (pv 2) pa_nil)) pe_int (nomark _)) (pw_or1 (pt_not (pt_val (pe_c c__law_is_name hr (by omega) (by rfl) (pa_cons (pe_ix ix_tup (pv 2) pe_int (fun _ _ => rfl)) pa_nil)))))))) (pss_one (ps_ret (pe_tup (pa_cons pe_non (pa_cons pe_non pa_nil))))) pss_nil)
      (pss_cons (ps_if (PW.pt (pw_or (pt_not (pt_val (pe_callB call_isi (by rfl) G.isinstance (by decide +kernel) (pa_cons (pe_ix ix_tup (pv 2) pe_int (fun _ _ => rfl)) (pa_cons (pe_bltn (v := .ty "list") (by rfl) G.list (by decide +kernel) rfl) pa_nil))))) (pw_or1 (pt_cmpR p_geS (pv 1) (pe_ix ix_tup (pv 2) pe_int (fun _ _ => rfl)) (nomark _))))) (pss_one (ps_ret (pe_tup (pa_cons pe_non (pa_cons pe_non pa_nil))))) pss_nil)
      (pss_one (ps_set (i := 1) sc__law_wrong.nd rfl (by first | exact Or.inl rfl | exact Or.inr rfl) (pe_ix ix_tup (pv 2) pe_int (fun _ _ => rfl)))))))
      (pss_cons (ps_setLc (i := 3) (own := [("name", 4), ("steps", 5)]) (g := gTup K 2 (gCons (gName 4) (gCons (gName 5) (gNil)))) (tt := tYes) (by rfl) sc__law_wrong.nd rfl rfl (sw_true rfl rfl rfl (by decide +kernel)) (pi_list (pv 0)) (blkOk_by (own := [("name", 4), ("steps", 5)]) (N := ["program", "ahead", "row", "names", "name", "steps", "k"]) (sc := defScope s__law_wrong) (by decide +kernel)) (fun _ _ _ _ _ => (pg_tup rfl (pgs_cons (pg_name (i := 4) sc__law_wrong.nd rfl (by first | exact Or.inl rfl | exact Or.inr rfl)) (pgs_cons (pg_name (i := 5) sc__law_wrong.nd rfl (by first | exact Or.inl rfl | exact Or.inr rfl)) pgs_nil)))) (fun _ _ _ _ _ => pts_nil) (fun _ _ _ _ _ => (pv 4)))
      (pss_cons (ps_for PassesOwn.never rfl (pi_list (pv 0)) (pg_tup rfl (pgs_cons (pg_name (i := 4) sc__law_wrong.nd rfl (by first | exact Or.inl rfl | exact Or.inr rfl)) (pgs_cons (pg_name (i := 5) sc__law_wrong.nd rfl (by first | exact Or.inl rfl | exact Or.inr rfl)) pgs_nil))) (pss_one (ps_for PassesOwn.never rfl (pi_range1 (by rfl) G.range (pa_cons (pe_callB p_lenQ (by rfl) G.len (by decide +kernel) (pa_cons (pv 5) pa_nil)) pa_nil)) (pg_name (i := 6) sc__law_wrong.nd rfl (by first | exact Or.inl rfl | exact Or.inr rfl)) (pss_one (ps_if (pt_not (pt_val (pe_c c__law_is_step hr (by omega) (by rfl) (pa_cons (pe_ix ix_list (pv 5) (pv 6) (fun _ _ => rfl)) (pa_cons (pv 3) (pa_cons (pe_op p_sub (pe_op p_sub (pe_callB p_lenQ (by rfl) G.len (by decide +kernel) (pa_cons (pv 5) pa_nil)) pe_int) (pv 6)) pa_nil)))))) (pss_one (ps_ret (pe_tup (pa_cons (pv 4) (pa_cons (pv 6) pa_nil))))) pss_nil)))))
      (pss_one (ps_ret pe_non)))))))
theorem ok__law_told (F : FnP K "_law_told" s__law_told [] f fd) (G : Gm w K mg dP es nn) (XX : XF K) (c_check : CalX P w K mg base 11 "check" (sp_check K) []) (c_is_program : Cal P w K mg base 11 "is_program" sp_is_program []) : FnOk P w K mg base CX0 12 f fd ["program"] sp__law_told :=
  FnP.go (k := 11) F sc__law_told (fun vs H Q E => by first | (unfold sp__law_told; walk_at "len") | walk_at "len") (t__law_told K) (fun vs H Q E h => pure__law_told (K := K) XX vs H Q E h) fun cdv A outer s H E hr =>
    (pss_cons (ps_set (i := 1) sc__law_told.nd rfl (by first | exact Or.inl rfl | exact Or.inr rfl) pe_non)
      (pss_cons (ps_set (i := 2) sc__law_told.nd rfl (by first | exact Or.inl rfl | exact Or.inr rfl) pe_non)
      (pss_cons (ps_try_hold (i := 3) (tb := fun W => tAsg (tCallSD (sp_check K) [] (WE (W)) (tCons (tVar 0) (tNil))) (gName 2)) (ts := fun a cls d => tAsg (tVar 3) (gName 1)) (Wout := fun _ _ _ _ => False) rfl rfl rfl sc__law_told.nd rfl rfl ⟨rfl, by decide, Or.inl G.WorkError⟩ takes0 (fun W pn xe tk _ => (pss_one (ps_set (i := 2) sc__law_told.nd rfl (by first | exact Or.inl rfl | exact Or.inr rfl) (pe_cx c_check hr (by omega) (by rfl) tk (pa_cons (pv 0) pa_nil))))) (fun a oe cls d pn hz hf => (pss_one (ps_set (i := 1) sc__law_told.nd rfl (by first | exact Or.inl rfl | exact Or.inr rfl) (pv 3)))))
      (pss_cons (ps_if (pt_cmpR p_isN (pv 1) pe_non (nomark _)) (pss_one (ps_ret (pe_tup (pa_cons (pe_c c_is_program hr (by omega) (by rfl) (pa_cons (pv 0) pa_nil)) (pa_cons (pv 2) pa_nil))))) pss_nil)
      (pss_cons (ps_if (pt_val (pe_callB call_isHT (by rfl) G.isinstance (by decide +kernel) (pa_cons (pv 1) (pa_cons (pe_tup (pa_cons (pe_glob (by rfl) G.NoHand rfl) (pa_cons (pe_glob (by rfl) G.NoHelper rfl) (pa_cons (pe_glob (by rfl) G.NoMark rfl) (pa_cons (pe_glob (by rfl) G.NotOver rfl) (pa_cons (pe_glob (by rfl) G.NoText rfl) (pa_cons (pe_glob (by rfl) G.TooLong rfl) pa_nil))))))) pa_nil)))) (pss_one (ps_ret pe_str)) pss_nil)
      (pss_cons (ps_if (pt_not (pt_val (pe_callB call_isH (by rfl) G.isinstance (by decide +kernel) (pa_cons (pv 1) (pa_cons (pe_glob (by rfl) G.NoProgram rfl) pa_nil))))) (pss_one (ps_ret pe_str)) pss_nil)
      (pss_one (ps_ret (pe_tup (pa_cons (pe_c c_is_program hr (by omega) (by rfl) (pa_cons (pv 0) pa_nil)) (pa_cons (pe_tup (pa_cons (pe_xh (pv 1)) (pa_cons (pe_xh (pv 1)) pa_nil))) (pa_cons (pe_callB call_isH (by rfl) G.isinstance (by decide +kernel) (pa_cons (pv 1) (pa_cons (pe_bltn (v := .ty "ValueError") (by rfl) G.ValueError (by decide +kernel) rfl) pa_nil))) pa_nil))))))))))))
theorem ok__law_alike (F : FnP K "_law_alike" s__law_alike [] f fd) (G : Gm w K mg dP es nn) (c__law_wrong : Cal P w K mg base 10 "_law_wrong" sp__law_wrong []) (c__law_told : Cal P w K mg base 12 "_law_told" sp__law_told []) : FnOk P w K mg base CX0 13 f fd ["program"] sp__law_alike :=
  FnP.go (k := 12) F sc__law_alike (fun vs H Q E => by first | (unfold sp__law_alike; walk_at "len") | walk_at "len") (t__law_alike K) (fun vs H Q E h => pure__law_alike (K := K) vs H Q E h) fun cdv A outer s H E hr =>
    (pss_cons (ps_set (i := 1) sc__law_alike.nd rfl (by first | exact Or.inl rfl | exact Or.inr rfl) (pe_c c__law_wrong hr (by omega) (by rfl) (pa_cons (pv 0) pa_nil)))
      (pss_cons (ps_set (i := 2) sc__law_alike.nd rfl (by first | exact Or.inl rfl | exact Or.inr rfl) (pe_c c__law_told hr (by omega) (by rfl) (pa_cons (pv 0) pa_nil)))
      (pss_cons (ps_if (pt_cmpR p_isN (pv 1) pe_non (nomark _)) (pss_one (ps_ret (pe_and (pe_callB call_isi (by rfl) G.isinstance (by decide +kernel) (pa_cons (pv 2) (pa_cons (pe_bltn (v := .ty "tuple") (by rfl) G.tuple (by decide +kernel) rfl) pa_nil))) (pe_and (pe_cmpR p_isB (pe_ix ix_tup (pv 2) pe_int (fun _ _ => rfl)) pe_bl (nomark _)) (pe_and (pe_cmpR p_isN (pe_ix ix_tup (pv 2) pe_int (fun _ _ => rfl)) pe_non (nomark _)) (pe_one (pe_cmpR op_eq (pe_callB p_lenQ (by rfl) G.len (by decide +kernel) (pa_cons (pv 2) pa_nil)) pe_int (nomark _)))))))) pss_nil)
      (pss_cons (ps_if (PW.pt (pw_or (pt_not (pt_val (pe_callB call_isi (by rfl) G.isinstance (by decide +kernel) (pa_cons (pv 2) (pa_cons (pe_bltn (v := .ty "tuple") (by rfl) G.tuple (by decide +kernel) rfl) pa_nil))))) (pw_or (pt_cmpR op_ne (pe_callB p_lenQ (by rfl) G.len (by decide +kernel) (pa_cons (pv 2) pa_nil)) pe_int (nomark _)) (pw_or (pt_cmpR p_notB (pe_ix ix_tup (pv 2) pe_int (fun _ _ => rfl)) pe_bl (nomark _)) (pw_or1 (pt_cmpR p_notB (pe_ix ix_tup (pv 2) pe_int (fun _ _ => rfl)) pe_bl (nomark _))))))) (pss_one (ps_ret pe_bl)) pss_nil)
      (pss_one (ps_ret (pe_and (pe_cmpR (p_eqD hr.units) (pe_ix ix_tup (pv 2) pe_int (fun _ _ => rfl)) (pv 1) (nomark _)) (pe_one (pe_not (pe_callB call_isi (by rfl) G.isinstance (by decide +kernel) (pa_cons (pe_ix ix_tup (pe_ix ix_tup (pv 2) pe_int (fun _ _ => rfl)) pe_int (fun _ _ => rfl)) (pa_cons (pe_bltn (v := .ty "bool") (by rfl) G.bool (by decide +kernel) rfl) pa_nil))))))))))))
theorem ok__law_no_name (F : FnP K "_law_no_name" s__law_no_name [] f fd) (G : Gm w K mg dP es nn) (c__law_name : Cal P w K mg base 2 "_law_name" sp__law_name []) (c__law_draw : Cal P w K mg base 1 "_law_draw" sp__law_draw []) : FnOk P w K mg base CX0 3 f fd ["bag"] (sp__law_no_name5) :=
  FnP.go (k := 2) F sc__law_no_name (fun vs H Q E => by first | (unfold sp__law_no_name5; walk_at "len") | walk_at "len") (t__law_no_name5 K) (fun vs H Q E h => pure__law_no_name5 (K := K) vs H Q E h) fun cdv A outer s H E hr =>
    (pss_cons (ps_set (i := 1) sc__law_no_name.nd rfl (by first | exact Or.inl rfl | exact Or.inr rfl) (pe_c c__law_name hr (by omega) (by rfl) (pa_cons (pv 0) (pa_cons pe_str pa_nil))))
      (pss_cons (ps_set (i := 2) sc__law_no_name.nd rfl (by first | exact Or.inl rfl | exact Or.inr rfl) (pe_ix ix_list (pe_lst (pa_cons pe_str (pa_cons pe_str pa_nil))) (pe_c c__law_draw hr (by omega) (by rfl) (pa_cons (pv 0) (pa_cons pe_int pa_nil))) (fun _ _ => rfl)))
      (pss_cons (ps_set (i := 3) sc__law_no_name.nd rfl (by first | exact Or.inl rfl | exact Or.inr rfl) (pe_ix ix_str (pv 2) (pe_c c__law_draw hr (by omega) (by rfl) (pa_cons (pv 0) (pa_cons (pe_callB p_lenS (by rfl) G.len (by decide +kernel) (pa_cons (pv 2) pa_nil)) pa_nil))) (fun _ _ => rfl)))
      (pss_cons (ps_set (i := 4) sc__law_no_name.nd rfl (by first | exact Or.inl rfl | exact Or.inr rfl) (pe_c c__law_draw hr (by omega) (by rfl) (pa_cons (pv 0) (pa_cons (pe_op p_add (pe_callB p_lenS (by rfl) G.len (by decide +kernel) (pa_cons (pv 1) pa_nil)) pe_int) pa_nil))))
      (pss_cons (ps_if (pt_cmpR op_eq (pe_c c__law_draw hr (by omega) (by rfl) (pa_cons (pv 0) (pa_cons pe_int pa_nil))) pe_int (nomark _)) (pss_one (ps_ret (pe_slice sl_str (pe_op p_addS (pv 1) pe_str) po_none (po_some (pe_op p_add pe_int (pe_c c__law_draw hr (by omega) (by rfl) (pa_cons (pv 0) (pa_cons pe_int pa_nil)))))))) pss_nil)
      (pss_one (ps_ret (pe_op p_addS (pe_op p_addS (pe_slice sl_str (pv 1) po_none (po_some (pv 4))) (pv 3)) (pe_slice sl_str (pv 1) (po_some (pe_op p_add (pv 4) (pe_c c__law_draw hr (by omega) (by rfl) (pa_cons (pv 0) (pa_cons pe_int pa_nil))))) po_none)))))))))
theorem ok__law_bad_step (F : FnP K "_law_bad_step" s__law_bad_step [] f fd) (G : Gm w K mg dP es nn) (c__law_draw : Cal P w K mg base 1 "_law_draw" sp__law_draw []) (c__law_no_name : Cal P w K mg base 3 "_law_no_name" (sp__law_no_name5) []) : FnOk P w K mg base CX0 4 f fd ["bag", "names", "behind"] sp__law_bad_step :=
  FnP.go (k := 3) F sc__law_bad_step (fun vs H Q E => by first | (unfold sp__law_bad_step; walk_at "len") | walk_at "len") (t__law_bad_step K) (fun vs H Q E h => pure__law_bad_step (K := K) vs H Q E h) fun cdv A outer s H E hr =>
    (pss_cons (ps_set (i := 3) sc__law_bad_step.nd rfl (by first | exact Or.inl rfl | exact Or.inr rfl) (pe_c c__law_draw hr (by omega) (by rfl) (pa_cons (pv 0) (pa_cons pe_int pa_nil))))
      (pss_cons (ps_set (i := 4) sc__law_bad_step.nd rfl (by first | exact Or.inl rfl | exact Or.inr rfl) (pe_tup (pa_cons pe_str (pa_cons (pe_tup (pa_cons pe_str (pa_cons (pe_tup (pa_cons pe_str (pa_cons (pe_tup (pa_cons pe_str (pa_cons (pe_tup (pa_cons pe_str (pa_cons pe_int (pa_cons (pe_tup (pa_cons pe_str pa_nil)) pa_nil)))) pa_nil))) pa_nil))) pa_nil))) pa_nil))))
      (pss_cons (ps_setLc (i := 5) (own := [("one", 7)]) (g := gName 7) (tt := tTest (tOp (rIn K true) (tVar 7) (tVar 1))) (by rfl) sc__law_bad_step.nd rfl rfl (sw_true rfl rfl rfl (by decide +kernel)) (pi_list (pe_op op_cat (pe_lst (pa_cons pe_str (pa_cons pe_str (pa_cons pe_str (pa_cons pe_str pa_nil))))) (pe_lc (own := [("j", 8)]) (g := gName 8) (tt := tYes) (by rfl) sc__law_bad_step.nd (pi_range2 (by rfl) G.range (pa_cons pe_int (pa_cons pe_int pa_nil))) (blkOk_by (own := [("j", 8)]) (N := ["bag", "names", "behind", "pick", "deep", "lacking", "some", "one", "j"]) (sc := defScope s__law_bad_step) (by decide +kernel)) (fun _ _ _ _ _ => (pg_name (i := 8) sc__law_bad_step.nd rfl (by first | exact Or.inl rfl | exact Or.inr rfl))) (fun _ _ _ _ _ => pts_nil) (fun _ _ _ _ _ => (pe_op p_mulS pe_str (pv 8)))))) (blkOk_by (own := [("one", 7)]) (N := ["bag", "names", "behind", "pick", "deep", "lacking", "some", "one", "j"]) (sc := defScope s__law_bad_step) (by decide +kernel)) (fun _ _ _ _ _ => (pg_name (i := 7) sc__law_bad_step.nd rfl (by first | exact Or.inl rfl | exact Or.inr rfl))) (fun _ _ _ _ _ => (pts_one (pt_cmpR op_notIn_seq (pv 7) (pv 1) (by rfl)))) (fun _ _ _ _ _ => (pv 7)))
      (pss_cons (ps_set (i := 6) sc__law_bad_step.nd rfl (by first | exact Or.inl rfl | exact Or.inr rfl) (pe_lst (pa_cons (pe_tup (pa_cons pe_str (pa_cons pe_int (pa_cons (pe_op p_add (pv 2) pe_int) pa_nil)))) (pa_cons (pe_tup (pa_cons pe_str (pa_cons (pe_ix ix_list (pe_op op_cat (pv 5) (pe_lst (pa_cons pe_str pa_nil))) pe_int (fun _ _ => rfl)) (pa_cons pe_int pa_nil)))) (pa_cons (pe_tup (pa_cons pe_str (pa_cons pe_str (pa_cons (pv 4) pa_nil)))) (pa_cons (pe_tup (pa_cons pe_str (pa_cons (pv 4) (pa_cons pe_int pa_nil)))) (pa_cons pe_non pa_nil)))))))
      (pss_one (ps_ret (pe_ix ix_list (pe_op op_cat (pv 6) (pe_lst (pa_cons (pe_tup (pa_cons pe_str (pa_cons pe_str pa_nil))) (pa_cons (pe_tup (pa_cons pe_str (pa_cons (pe_c c__law_no_name hr (by omega) (by rfl) (pa_cons (pv 0) pa_nil)) (pa_cons pe_int pa_nil)))) pa_nil)))) (pv 3) (fun _ _ => rfl))))))))
theorem ok_law (F : FnP K "law" s_law [] f fd) (G : Gm w K mg dP es nn) (c__law_cell_at : Cal P w K mg base 1 "_law_cell_at" (sp__law_cell_at K) []) (c__law_bag : Cal P w K mg base 1 "_law_bag" sp__law_bag []) (c__law_program : Cal P w K mg base 10 "_law_program" (sp__law_program5) []) (c__law_draw : Cal P w K mg base 1 "_law_draw" sp__law_draw []) (c__law_bad_step : Cal P w K mg base 4 "_law_bad_step" sp__law_bad_step []) (c__law_wrong : Cal P w K mg base 10 "_law_wrong" sp__law_wrong []) (c__law_alike : Cal P w K mg base 13 "_law_alike" sp__law_alike []) : FnOk P w K mg base CX0 14 f fd ["script"] (sp_law K) :=
  FnP.go (k := 13) F sc_law (fun vs H Q E => by first | (unfold sp_law; walk_at "len") | walk_at "len") (t_law K) (fun vs H Q E h => pure_law (K := K) vs H Q E h) fun cdv A outer s H E hr =>
    (pss_cons (ps_for PassesOwn.never rfl (pi_range1 (by rfl) G.range (pa_cons (pe_callB (p_max rfl) (by rfl) G.max (by decide +kernel) (pa_cons pe_int (pa_cons (pe_callB (p_min rfl) (by rfl) G.min (by decide +kernel) (pa_cons pe_int (pa_cons (pe_callB p_lenQ (by rfl) G.len (by decide +kernel) (pa_cons (pv 0) pa_nil)) pa_nil))) pa_nil))) pa_nil)) (pg_name (i := 1) sc_law.nd rfl (by first | exact Or.inl rfl | exact Or.inr rfl)) (pss_cons (ps_set (i := 2) sc_law.nd rfl (by first | exact Or.inl rfl | exact Or.inr rfl) (pe_c c__law_bag hr (by omega) (by rfl) (pa_cons (pe_c c__law_cell_at hr (by omega) (by rfl) (pa_cons (pv 0) (pa_cons (pv 1) pa_nil))) (pa_cons (pv 1) pa_nil))))
      (pss_cons (ps_set (i := 3) sc_law.nd rfl (by first | exact Or.inl rfl | exact Or.inr rfl) (pe_c c__law_program hr (by omega) (by rfl) (pa_cons (pv 2) pa_nil)))
      (pss_cons (ps_setLc (i := 4) (own := [("name", 6), ("steps", 7)]) (g := gTup K 2 (gCons (gName 6) (gCons (gName 7) (gNil)))) (tt := tYes) (by rfl) sc_law.nd rfl rfl (sw_true rfl rfl rfl (by decide +kernel)) (pi_list (pv 3)) (blkOk_by (own := [("name", 6), ("steps", 7)]) (N := ["script", "k", "bag", "program", "names", "places", "name", "steps", "bad", "turn", "good", "j", "place"]) (sc := defScope s_law) (by decide +kernel)) (fun _ _ _ _ _ => (pg_tup rfl (pgs_cons (pg_name (i := 6) sc_law.nd rfl (by first | exact Or.inl rfl | exact Or.inr rfl)) (pgs_cons (pg_name (i := 7) sc_law.nd rfl (by first | exact Or.inl rfl | exact Or.inr rfl)) pgs_nil)))) (fun _ _ _ _ _ => pts_nil) (fun _ _ _ _ _ => (pv 6)))
      (pss_cons (ps_set (i := 5) sc_law.nd rfl (by first | exact Or.inl rfl | exact Or.inr rfl) (pe_lst pa_nil))
      (pss_cons (ps_for PassesOwn.never rfl (pi_list (pv 3)) (pg_tup rfl (pgs_cons (pg_name (i := 6) sc_law.nd rfl (by first | exact Or.inl rfl | exact Or.inr rfl)) (pgs_cons (pg_name (i := 7) sc_law.nd rfl (by first | exact Or.inl rfl | exact Or.inr rfl)) pgs_nil))) (pss_one (ps_expr (pe_bm PySem.F.plainAttrs_list PySem.F.slot_list_extend PySem.F.type_list_extend mt_extend (pv 5) (pa_cons (pe_lc (own := [("j", 11)]) (g := gName 11) (tt := tYes) (by rfl) sc_law.nd (pi_range1 (by rfl) G.range (pa_cons (pe_callB p_lenQ (by rfl) G.len (by decide +kernel) (pa_cons (pv 7) pa_nil)) pa_nil)) (blkOk_by (own := [("j", 11)]) (N := ["script", "k", "bag", "program", "names", "places", "name", "steps", "bad", "turn", "good", "j", "place"]) (sc := defScope s_law) (by decide +kernel)) (fun _ _ _ _ _ => (pg_name (i := 11) sc_law.nd rfl (by first | exact Or.inl rfl | exact Or.inr rfl))) (fun _ _ _ _ _ => pts_nil) (fun _ _ _ _ _ => (pe_tup (pa_cons (pv 6) (pa_cons (pv 11) pa_nil))))) pa_nil)))))
      (pss_cons (ps_set (i := 8) sc_law.nd rfl (by first | exact Or.inl rfl | exact Or.inr rfl) pe_dnewT)
      (pss_cons (ps_for PassesOwn.never rfl (pi_range1 (by rfl) G.range (pa_cons (pe_op p_add pe_int (pe_c c__law_draw hr (by omega) (by rfl) (pa_cons (pv 2) (pa_cons pe_int pa_nil)))) pa_nil)) (pg_name (i := 9) sc_law.nd rfl (by first | exact Or.inl rfl | exact Or.inr rfl)) (pss_one (ps_if (pt_cmpR (p_neE hr.units) (pv 5) (pe_lst pa_nil) (nomark _)) (pss_one (ps_dput (hu_of hr) (pv 8) (pe_ix ix_list (pv 5) (pe_c c__law_draw hr (by omega) (by rfl) (pa_cons (pv 2) (pa_cons (pe_callB p_lenQ (by rfl) G.len (by decide +kernel) (pa_cons (pv 5) pa_nil)) pa_nil))) (fun _ _ => rfl)) pe_bl rfl)) pss_nil)))
      (pss_cons (ps_set (i := 10) sc_law.nd rfl (by first | exact Or.inl rfl | exact Or.inr rfl) pe_dnewT)
      (pss_cons (ps_for PassesOwn.never rfl (pi_list (pv 3)) (pg_tup rfl (pgs_cons (pg_name (i := 6) sc_law.nd rfl (by first | exact Or.inl rfl | exact Or.inr rfl)) (pgs_cons (pg_name (i := 7) sc_law.nd rfl (by first | exact Or.inl rfl | exact Or.inr rfl)) pgs_nil))) (pss_one (ps_for PassesOwn.never rfl (pi_range1 (by rfl) G.range (pa_cons (pe_callB p_lenQ (by rfl) G.len (by decide +kernel) (pa_cons (pv 7) pa_nil)) pa_nil)) (pg_name (i := 11) sc_law.nd rfl (by first | exact Or.inl rfl | exact Or.inr rfl)) (pss_one (ps_if (pt_cmp (pc_din (hu_of hr) (pe_tup (pa_cons (pv 6) (pa_cons (pv 11) pa_nil))) (pv 8))) (pss_cons (ps_dput (hu_of hr) (pv 10) (pe_tup (pa_cons (pv 6) (pa_cons (pv 11) pa_nil))) (pe_ix ix_list (pv 7) (pv 11) (fun _ _ => rfl)) rfl)
      (pss_one (ps_asg (pe_c c__law_bad_step hr (by omega) (by rfl) (pa_cons (pv 2) (pa_cons (pv 4) (pa_cons (pe_op p_sub (pe_op p_sub (pe_callB p_lenQ (by rfl) G.len (by decide +kernel) (pa_cons (pv 7) pa_nil)) pe_int) (pv 11)) pa_nil)))) (pg_sub (pv 7) (pv 11) set_list)))) pss_nil)))))
      (pss_cons (ps_for PassesOwn.never rfl (pi_list (pe_callB (p_sortSI rfl (hu9_of hr)) (by rfl) G.sorted (by decide +kernel) (pa_cons (pv 8) pa_nil))) (pg_name (i := 12) sc_law.nd rfl (by first | exact Or.inl rfl | exact Or.inr rfl)) (pss_cons (ps_if (PW.pt (pw_or (pt_cmpR (p_neD hr.units) (pe_c c__law_wrong hr (by omega) (by rfl) (pa_cons (pv 3) pa_nil)) (pv 12) (nomark _)) (pw_or1 (pt_not (pt_val (pe_c c__law_alike hr (by omega) (by rfl) (pa_cons (pv 3) pa_nil))))))) (pss_one (ps_ret pe_bl)) pss_nil)
      (pss_one (ps_asg (pe_dget (hu_of hr) (pv 10) (pv 12) (fun _ _ => rfl)) (pg_sub (pe_ix ix_tup (pe_ix ix_list (pv 3) (pe_bm PySem.F.plainAttrs_list PySem.F.slot_list_index PySem.F.type_list_index mt_index (pv 4) (pa_cons (pe_ix ix_tup (pv 12) pe_int (fun _ _ => rfl)) pa_nil)) (fun _ _ => rfl)) pe_int (fun _ _ => rfl)) (pe_ix ix_tup (pv 12) pe_int (fun _ _ => rfl)) set_list)))))
      (pss_one (ps_if (PW.pt (pw_or (pt_not (pt_val (pe_c c__law_alike hr (by omega) (by rfl) (pa_cons (pv 3) pa_nil)))) (pw_or1 (pt_cmpR p_notN (pe_c c__law_wrong hr (by omega) (by rfl) (pa_cons (pv 3) pa_nil)) pe_non (nomark _))))) (pss_one (ps_ret pe_bl)) pss_nil)))))))))))))
      (pss_one (ps_ret pe_bl)))
theorem sc_NoProgram___init__ : FnScope ["self", "helper", "at"] ["self", "helper", "at"] (defScope s_NoProgram___init__) := ⟨rfl, rfl, rfl, by decide +kernel, rfl, by decide +kernel, by decide +kernel⟩
theorem mk_NoProgram (F : MtP K "__init__" "NoProgram.__init__" s_NoProgram___init__ (He.ma K (He.ga K "NoProgram") "__init__") fd) (X : XCl K (He.ga K "NoProgram")) (I : XIn K (He.ga K "NoProgram") ["helper", "at"]) (g : mg "NoProgram" = some (.ref (He.ga K "NoProgram"))) : MkX P w K mg base "NoProgram" (He.ga K "NoProgram") ["helper", "at"] :=
  ⟨X.ox, I.no, g, _, fd, ["self", "helper", "at"], I.at_, I.ty, MtP.go (k := 0) F sc_NoProgram___init__ (fun vs H Q E h => by obtain ⟨a, xs, rfl, hl, _⟩ := h; simp at hl ⊢; omega) (t_xinit2 K "helper" "at") (fun vs H Q E h => pure_xinit2 vs H Q E h) (fun cdv A outer s H E hr => (pss_cons (ps_ost (pv 0) (pv 1)) (pss_one (ps_ost (pv 0) (pv 2))))), F.bindsN fun _ _ _ _ _ _ us hl => match us, hl with | [_, _, _], _ => rfl⟩
end
theorem facts {P : Program} {w : World} {K : PySem.W.Frag} {h : Heap} {mg : Str → Option Value} {f : Addr} (X : K.In h) (G0 : h.Ns mainGlobals mg) (hfa : mg ("law" : Str) = some (.ref f)) (c0 : He.SaysX fa fn ts [] ex w h K) :
    ∃ fd : FuncData, (∀ (s : Shared) (v : Value), BindsTo s fd ⟨[v], []⟩ [("script", v)]) ∧ ∀ base : Heap, K.In base → base.Ns mainGlobals mg → FnOk P w K mg base CX0 14 f fd ["script"] (sp_law K) := by
  have c := c0.t.d
  have hd : He.dicW K (He.ga K "PARTS") = some (He.keysIn w.params partK) := (List.cons.inj (congrArg (fun z : He.AlT => z.2) c0.t)).1
  have c0m : (He.valsB K (He.ga K "PARTS") partV && (xfOk K)) = true := c0.more
  obtain ⟨c0more, c0r0⟩ := Bool.and_eq_true_iff.mp c0m
  have c0x := c0r0
  have XX : XF K := xfOk_ok c0x
  have T : Parts K w (He.ga K "PARTS") := parts_of hd c0more
  obtain ⟨es, nn, kd⟩ := T.kd
  obtain ⟨fd_is_whole, F_is_whole⟩ : ∃ fd, FnP K "is_whole" s_is_whole [] (He.ga K "is_whole") fd := c.def_ 0 (d := d_is_whole) rfl
  obtain ⟨fd_is_name, F_is_name⟩ : ∃ fd, FnP K "is_name" s_is_name [] (He.ga K "is_name") fd := c.def_ 1 (d := d_is_name) rfl
  obtain ⟨fd_is_expression, F_is_expression⟩ : ∃ fd, FnP K "is_expression" s_is_expression [.int 5] (He.ga K "is_expression") fd := c.def_ 2 (d := d_is_expression) rfl
  obtain ⟨fd_is_step, F_is_step⟩ : ∃ fd, FnP K "is_step" s_is_step [] (He.ga K "is_step") fd := c.def_ 3 (d := d_is_step) rfl
  obtain ⟨fd_has_form, F_has_form⟩ : ∃ fd, FnP K "has_form" s_has_form [] (He.ga K "has_form") fd := c.def_ 4 (d := d_has_form) rfl
  obtain ⟨fd_first_wrong, F_first_wrong⟩ : ∃ fd, FnP K "first_wrong" s_first_wrong [] (He.ga K "first_wrong") fd := c.def_ 5 (d := d_first_wrong) rfl
  obtain ⟨fd_is_program, F_is_program⟩ : ∃ fd, FnP K "is_program" s_is_program [] (He.ga K "is_program") fd := c.def_ 6 (d := d_is_program) rfl
  obtain ⟨fd_check, F_check⟩ : ∃ fd, FnP K "check" s_check [] (He.ga K "check") fd := c.def_ 7 (d := d_check) rfl
  obtain ⟨fd__law_cell_at, F__law_cell_at⟩ : ∃ fd, FnP K "_law_cell_at" s__law_cell_at [] (He.ga K "_law_cell_at") fd := c.def_ 8 (d := d__law_cell_at) rfl
  obtain ⟨fd__law_bag, F__law_bag⟩ : ∃ fd, FnP K "_law_bag" s__law_bag [] (He.ga K "_law_bag") fd := c.def_ 9 (d := d__law_bag) rfl
  obtain ⟨fd__law_draw, F__law_draw⟩ : ∃ fd, FnP K "_law_draw" s__law_draw [] (He.ga K "_law_draw") fd := c.def_ 10 (d := d__law_draw) rfl
  obtain ⟨fd__law_name, F__law_name⟩ : ∃ fd, FnP K "_law_name" s__law_name [] (He.ga K "_law_name") fd := c.def_ 11 (d := d__law_name) rfl
  obtain ⟨fd__law_names, F__law_names⟩ : ∃ fd, FnP K "_law_names" s__law_names [] (He.ga K "_law_names") fd := c.def_ 12 (d := d__law_names) rfl
  obtain ⟨fd__law_number, F__law_number⟩ : ∃ fd, FnP K "_law_number" s__law_number [] (He.ga K "_law_number") fd := c.def_ 13 (d := d__law_number) rfl
  obtain ⟨fd__law_expression, F__law_expression⟩ : ∃ fd, FnP K "_law_expression" s__law_expression [] (He.ga K "_law_expression") fd := c.def_ 14 (d := d__law_expression) rfl
  obtain ⟨fd__law_step, F__law_step⟩ : ∃ fd, FnP K "_law_step" s__law_step [] (He.ga K "_law_step") fd := c.def_ 15 (d := d__law_step) rfl
  obtain ⟨fd__law_program, F__law_program⟩ : ∃ fd, FnP K "_law_program" s__law_program [] (He.ga K "_law_program") fd := c.def_ 16 (d := d__law_program) rfl
  obtain ⟨fd__law_is_name, F__law_is_name⟩ : ∃ fd, FnP K "_law_is_name" s__law_is_name [] (He.ga K "_law_is_name") fd := c.def_ 17 (d := d__law_is_name) rfl
  obtain ⟨fd__law_is_whole, F__law_is_whole⟩ : ∃ fd, FnP K "_law_is_whole" s__law_is_whole [] (He.ga K "_law_is_whole") fd := c.def_ 18 (d := d__law_is_whole) rfl
  obtain ⟨fd__law_is_expression, F__law_is_expression⟩ : ∃ fd, FnP K "_law_is_expression" s__law_is_expression [] (He.ga K "_law_is_expression") fd := c.def_ 19 (d := d__law_is_expression) rfl
  obtain ⟨fd__law_is_step, F__law_is_step⟩ : ∃ fd, FnP K "_law_is_step" s__law_is_step [] (He.ga K "_law_is_step") fd := c.def_ 20 (d := d__law_is_step) rfl
  obtain ⟨fd__law_wrong, F__law_wrong⟩ : ∃ fd, FnP K "_law_wrong" s__law_wrong [] (He.ga K "_law_wrong") fd := c.def_ 21 (d := d__law_wrong) rfl
  obtain ⟨fd__law_told, F__law_told⟩ : ∃ fd, FnP K "_law_told" s__law_told [] (He.ga K "_law_told") fd := c.def_ 22 (d := d__law_told) rfl
  obtain ⟨fd__law_alike, F__law_alike⟩ : ∃ fd, FnP K "_law_alike" s__law_alike [] (He.ga K "_law_alike") fd := c.def_ 23 (d := d__law_alike) rfl
  obtain ⟨fd__law_no_name, F__law_no_name⟩ : ∃ fd, FnP K "_law_no_name" s__law_no_name [] (He.ga K "_law_no_name") fd := c.def_ 24 (d := d__law_no_name) rfl
  obtain ⟨fd__law_bad_step, F__law_bad_step⟩ : ∃ fd, FnP K "_law_bad_step" s__law_bad_step [] (He.ga K "_law_bad_step") fd := c.def_ 25 (d := d__law_bad_step) rfl
  obtain ⟨fd_law, F_law⟩ : ∃ fd, FnP K "law" s_law [] (He.ga K "law") fd := c.def_ 26 (d := d_law) rfl
  obtain ⟨fd_NoProgram___init__, F_NoProgram___init__⟩ : ∃ fd, MtP K "__init__" "NoProgram.__init__" s_NoProgram___init__ (He.ma K (He.ga K "NoProgram") "__init__") fd := c.def_ 27 (d := d_NoProgram___init__) rfl
  have G : Gm w K mg (He.ga K "PARTS") es nn := ⟨He.free_ok X G0 (c.fact 35 (f := .free "ValueError") rfl), He.free_ok X G0 (c.fact 36 (f := .free "all") rfl), He.free_ok X G0 (c.fact 37 (f := .free "range") rfl), He.free_ok X G0 (c.fact 38 (f := .free "list") rfl), He.free_ok X G0 (c.fact 39 (f := .free "sorted") rfl), He.free_ok X G0 (c.fact 40 (f := .free "isinstance") rfl), He.free_ok X G0 (c.fact 41 (f := .free "int") rfl), He.free_ok X G0 (c.fact 42 (f := .free "len") rfl), He.free_ok X G0 (c.fact 43 (f := .free "enumerate") rfl), He.free_ok X G0 (c.fact 44 (f := .free "max") rfl), He.free_ok X G0 (c.fact 45 (f := .free "bool") rfl), He.free_ok X G0 (c.fact 46 (f := .free "str") rfl), He.free_ok X G0 (c.fact 47 (f := .free "tuple") rfl), He.free_ok X G0 (c.fact 48 (f := .free "min") rfl), He.free_ok X G0 (c.fact 49 (f := .free "zip") rfl), (let ⟨t, e⟩ := He.str_ok X G0 (c.fact 50 (f := .str "LETTERS" letters) rfl); ⟨_, e, t, rfl⟩), (let ⟨t, e⟩ := He.int_ok X G0 (c.fact 51 (f := .int "LONGEST_NAME" 8) rfl); ⟨_, e, t, rfl⟩), ⟨_, He.glo_ok X G0 (c.fact 52 (f := .glo "PARTS") rfl), rfl⟩, He.glo_ok X G0 (c.fact 27 (f := .glo "WorkError") rfl), He.glo_ok X G0 (c.fact 28 (f := .glo "NoProgram") rfl), He.glo_ok X G0 (c.fact 29 (f := .glo "NoHelper") rfl), He.glo_ok X G0 (c.fact 30 (f := .glo "TooLong") rfl), He.glo_ok X G0 (c.fact 31 (f := .glo "NoMark") rfl), He.glo_ok X G0 (c.fact 32 (f := .glo "NoHand") rfl), He.glo_ok X G0 (c.fact 33 (f := .glo "NotOver") rfl), He.glo_ok X G0 (c.fact 34 (f := .glo "NoText") rfl), kd⟩
  have g_is_whole := He.glo_ok X G0 (c.fact 0 (f := .glo "is_whole") rfl)
  have g_is_name := He.glo_ok X G0 (c.fact 1 (f := .glo "is_name") rfl)
  have g_is_expression := He.glo_ok X G0 (c.fact 2 (f := .glo "is_expression") rfl)
  have g_is_step := He.glo_ok X G0 (c.fact 3 (f := .glo "is_step") rfl)
  have g_has_form := He.glo_ok X G0 (c.fact 4 (f := .glo "has_form") rfl)
  have g_first_wrong := He.glo_ok X G0 (c.fact 5 (f := .glo "first_wrong") rfl)
  have g_is_program := He.glo_ok X G0 (c.fact 6 (f := .glo "is_program") rfl)
  have g_check := He.glo_ok X G0 (c.fact 7 (f := .glo "check") rfl)
  have g__law_cell_at := He.glo_ok X G0 (c.fact 8 (f := .glo "_law_cell_at") rfl)
  have g__law_bag := He.glo_ok X G0 (c.fact 9 (f := .glo "_law_bag") rfl)
  have g__law_draw := He.glo_ok X G0 (c.fact 10 (f := .glo "_law_draw") rfl)
  have g__law_name := He.glo_ok X G0 (c.fact 11 (f := .glo "_law_name") rfl)
  have g__law_names := He.glo_ok X G0 (c.fact 12 (f := .glo "_law_names") rfl)
  have g__law_number := He.glo_ok X G0 (c.fact 13 (f := .glo "_law_number") rfl)
  have g__law_expression := He.glo_ok X G0 (c.fact 14 (f := .glo "_law_expression") rfl)
  have g__law_step := He.glo_ok X G0 (c.fact 15 (f := .glo "_law_step") rfl)
  have g__law_program := He.glo_ok X G0 (c.fact 16 (f := .glo "_law_program") rfl)
  have g__law_is_name := He.glo_ok X G0 (c.fact 17 (f := .glo "_law_is_name") rfl)
  have g__law_is_whole := He.glo_ok X G0 (c.fact 18 (f := .glo "_law_is_whole") rfl)
  have g__law_is_expression := He.glo_ok X G0 (c.fact 19 (f := .glo "_law_is_expression") rfl)
  have g__law_is_step := He.glo_ok X G0 (c.fact 20 (f := .glo "_law_is_step") rfl)
  have g__law_wrong := He.glo_ok X G0 (c.fact 21 (f := .glo "_law_wrong") rfl)
  have g__law_told := He.glo_ok X G0 (c.fact 22 (f := .glo "_law_told") rfl)
  have g__law_alike := He.glo_ok X G0 (c.fact 23 (f := .glo "_law_alike") rfl)
  have g__law_no_name := He.glo_ok X G0 (c.fact 24 (f := .glo "_law_no_name") rfl)
  have g__law_bad_step := He.glo_ok X G0 (c.fact 25 (f := .glo "_law_bad_step") rfl)
  have g_law := He.glo_ok X G0 (c.fact 26 (f := .glo "law") rfl)
  have e := hfa.symm.trans g_law
  cases e
  have b := FunD.bindsA (ps := ["script"]) F_law fun _ _ _ _ _ _ us hl => match us, hl with | [_], _ => rfl
  refine ⟨fd_law, fun s v => b s [v] rfl, fun base _ _ => ?_⟩
  have m_NoProgram := mk_NoProgram (P := P) (w := w) (base := base) F_NoProgram___init__ XX.np XX.inp G.NoProgram
  have o_is_whole := ok_is_whole (P := P) (base := base) F_is_whole G 
  have c_is_whole := F_is_whole.cal o_is_whole g_is_whole fun _ _ _ _ _ _ us hl => match us, hl with | [_], _ => rfl
  have o_is_name := ok_is_name (P := P) (base := base) F_is_name G 
  have c_is_name := F_is_name.cal o_is_name g_is_name fun _ _ _ _ _ _ us hl => match us, hl with | [_], _ => rfl
  have o_is_expression := ok_is_expression (P := P) (base := base) F_is_expression G T g_is_expression c_is_whole 6
  have c_is_expression_d := FnP.cald 1 0 F_is_expression o_is_expression g_is_expression (by simp) rfl fun _ _ _ _ _ _ _ us its h1 h2 => match us, its, h1, h2 with | [_], [_], _, _ => ⟨_, rfl, rfl⟩
  have o_is_step := ok_is_step (P := P) (base := base) F_is_step G c_is_expression_d c_is_whole c_is_name
  have c_is_step := F_is_step.cal o_is_step g_is_step fun _ _ _ _ _ _ us hl => match us, hl with | [_, _, _], _ => rfl
  have o_has_form := ok_has_form (P := P) (base := base) F_has_form G c_is_name
  have c_has_form := F_has_form.cal o_has_form g_has_form fun _ _ _ _ _ _ us hl => match us, hl with | [_], _ => rfl
  have o_first_wrong := ok_first_wrong (P := P) (base := base) F_first_wrong G c_has_form c_is_step
  have c_first_wrong := F_first_wrong.cal o_first_wrong g_first_wrong fun _ _ _ _ _ _ us hl => match us, hl with | [_], _ => rfl
  have o_is_program := ok_is_program (P := P) (base := base) F_is_program G c_first_wrong
  have c_is_program := F_is_program.cal o_is_program g_is_program fun _ _ _ _ _ _ us hl => match us, hl with | [_], _ => rfl
  have o_check := ok_check (P := P) (base := base) F_check G c_first_wrong m_NoProgram
  have c_check := F_check.calX o_check g_check fun _ _ _ _ _ _ us hl => match us, hl with | [_], _ => rfl
  have o__law_cell_at := ok__law_cell_at (P := P) (base := base) F__law_cell_at G 
  have c__law_cell_at := F__law_cell_at.cal o__law_cell_at g__law_cell_at fun _ _ _ _ _ _ us hl => match us, hl with | [_, _], _ => rfl
  have o__law_bag := ok__law_bag (P := P) (base := base) F__law_bag G 
  have c__law_bag := F__law_bag.cal o__law_bag g__law_bag fun _ _ _ _ _ _ us hl => match us, hl with | [_, _], _ => rfl
  have o__law_draw := ok__law_draw (P := P) (base := base) F__law_draw G 
  have c__law_draw := F__law_draw.cal o__law_draw g__law_draw fun _ _ _ _ _ _ us hl => match us, hl with | [_, _], _ => rfl
  have o__law_name := ok__law_name (P := P) (base := base) F__law_name G c__law_draw
  have c__law_name := F__law_name.cal o__law_name g__law_name fun _ _ _ _ _ _ us hl => match us, hl with | [_, _], _ => rfl
  have o__law_names := ok__law_names (P := P) (base := base) F__law_names G c__law_name
  have c__law_names := F__law_names.cal o__law_names g__law_names fun _ _ _ _ _ _ us hl => match us, hl with | [_, _], _ => rfl
  have o__law_number := ok__law_number (P := P) (base := base) F__law_number G c__law_draw
  have c__law_number := F__law_number.cal o__law_number g__law_number fun _ _ _ _ _ _ us hl => match us, hl with | [_], _ => rfl
  have o__law_expression := ok__law_expression (P := P) (base := base) F__law_expression G g__law_expression c__law_draw c__law_number 6
  have c__law_expression := F__law_expression.cal o__law_expression g__law_expression fun _ _ _ _ _ _ us hl => match us, hl with | [_, _], _ => rfl
  have o__law_step := ok__law_step (P := P) (base := base) F__law_step G c__law_draw c__law_expression c__law_name
  have c__law_step := F__law_step.cal o__law_step g__law_step fun _ _ _ _ _ _ us hl => match us, hl with | [_, _, _, _], _ => rfl
  have o__law_program := ok__law_program (P := P) (base := base) F__law_program G c__law_draw c__law_names c__law_step
  have c__law_program := F__law_program.cal o__law_program g__law_program fun _ _ _ _ _ _ us hl => match us, hl with | [_], _ => rfl
  have o__law_is_name := ok__law_is_name (P := P) (base := base) F__law_is_name G 
  have c__law_is_name := F__law_is_name.cal o__law_is_name g__law_is_name fun _ _ _ _ _ _ us hl => match us, hl with | [_], _ => rfl
  have o__law_is_whole := ok__law_is_whole (P := P) (base := base) F__law_is_whole G 
  have c__law_is_whole := F__law_is_whole.cal o__law_is_whole g__law_is_whole fun _ _ _ _ _ _ us hl => match us, hl with | [_], _ => rfl
  have o__law_is_expression := ok__law_is_expression (P := P) (base := base) F__law_is_expression G g__law_is_expression c__law_is_whole 6
  have c__law_is_expression := F__law_is_expression.cal o__law_is_expression g__law_is_expression fun _ _ _ _ _ _ us hl => match us, hl with | [_, _], _ => rfl
  have o__law_is_step := ok__law_is_step (P := P) (base := base) F__law_is_step G c__law_is_expression c__law_is_whole c__law_is_name
  have c__law_is_step := F__law_is_step.cal o__law_is_step g__law_is_step fun _ _ _ _ _ _ us hl => match us, hl with | [_, _, _], _ => rfl
  have o__law_wrong := ok__law_wrong (P := P) (base := base) F__law_wrong G c__law_is_name c__law_is_step
  have c__law_wrong := F__law_wrong.cal o__law_wrong g__law_wrong fun _ _ _ _ _ _ us hl => match us, hl with | [_], _ => rfl
  have o__law_told := ok__law_told (P := P) (base := base) F__law_told G XX c_check c_is_program
  have c__law_told := F__law_told.cal o__law_told g__law_told fun _ _ _ _ _ _ us hl => match us, hl with | [_], _ => rfl
  have o__law_alike := ok__law_alike (P := P) (base := base) F__law_alike G c__law_wrong c__law_told
  have c__law_alike := F__law_alike.cal o__law_alike g__law_alike fun _ _ _ _ _ _ us hl => match us, hl with | [_], _ => rfl
  have o__law_no_name := ok__law_no_name (P := P) (base := base) F__law_no_name G c__law_name c__law_draw
  have c__law_no_name := F__law_no_name.cal o__law_no_name g__law_no_name fun _ _ _ _ _ _ us hl => match us, hl with | [_], _ => rfl
  have o__law_bad_step := ok__law_bad_step (P := P) (base := base) F__law_bad_step G c__law_draw c__law_no_name
  have c__law_bad_step := F__law_bad_step.cal o__law_bad_step g__law_bad_step fun _ _ _ _ _ _ us hl => match us, hl with | [_, _, _], _ => rfl
  exact ok_law (P := P) (base := base) F_law G c__law_cell_at c__law_bag c__law_program c__law_draw c__law_bad_step c__law_wrong c__law_alike
end Fg
open PySem PySem.W PySem.Calls PyProof.Rows
theorem PySem.Challenge.cw_forkgather_k05_whole_first_wrong_step_holds : PySem.Challenge.rw_forkgather_k05_whole_first_wrong_step.Holds :=
  Fg.close (fun K => Fg.sp_law K) (fun K H a ns hl hS => ⟨a, ns, rfl, hS, hl, fun _ => rfl⟩) fun X G0 hfa c0 => Fg.facts X G0 hfa c0
