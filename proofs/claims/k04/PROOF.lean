import PyProof.Rows.All
import Wide.All
import OpenK.AllK
import Wide.FinOn
import KE.KStateDown
import Lean
import HandS.ForMost
import HandS.Defaults
import HandS.IsInst
import HandS.More
import HandS.Codes
import HandS.TupLe
import HandS.TupAny
import HandS.Conv
import HandS.Wide
import HandS.Walk
import KE.DataEq
import HandS.Head0
import HandS.Head1
import HandS.Head2
import HandS.HeadEnd
import HandS.HeadHook1
import HandS.HeadHook2
import HandS.HeadHook3
import HandS.HeadHook4
import HandS.Exc
import HandS.ExcField
import HandS.ExcIs
import HandS.ExcInit
import HandS.ExcValue
import HandS.TryOnly
import KE.KExcIs
import HandS.CallSlots
import HandS.ExcOwn
import HandS.Lambda
import PyProof.ExcBaseAll.ValueError
import PyProof.FactsAll.dict_1
import PyProof.FactsAll.subtypes_3
import PyProof.FactsAll.subtypes_4
import HandS.SetKeys
import HandS.SetFor
import HandS.Strs
import HandS.SortInts
import HandS.Flow
import HandS.OwnEq
import PyProof.InstSpecial
import KE.IntBitsLaws
import HandS.Style
import PyProof.StrLawsRepr
import PyProof.ReprLen
import PySem.Challenge.RW_forkgather_k04_helpers_turned
set_option Elab.async false
set_option linter.all false
set_option maxRecDepth 100000
set_option maxHeartbeats 4000000
namespace Fg
open PySem PySem.Spec PyProof.Rows L2
section
structure Chg (M : List Addr) (H H' : Hp) : Prop where
  keep : ∀ a o, H a = some o → a ∉ M → H' a = some o
  dom : ∀ a, H' a = none → H a = none
  tup : ∀ a xs, H a = some (.tup xs) → H' a = some (.tup xs)
theorem Chg.refl {M : List Addr} {H : Hp} : Chg M H H := ⟨fun _ _ h _ => h, fun _ h => h, fun _ _ h => h⟩
theorem Chg.new {H : Hp} {p : Addr} {o : HO} (n : H p = none) : Chg [] H (upd H p o) where
  keep := fun a u h _ => by rw [upd_ne (ne_of_none h n)]; exact h
  dom := fun a h => by
    by_cases e : a = p
    · subst e; exact n
    · rw [upd_ne e] at h; exact h
  tup := fun a xs h => by rw [upd_ne (ne_of_none h n)]; exact h
theorem Chg.mut {H : Hp} {p : Addr} {o u : HO} (h : H p = some u) (hm : ∀ xs, u ≠ .tup xs) : Chg [p] H (upd H p o) where
  keep := fun a v e hn => by rw [upd_ne (fun z => hn (by rw [z]; exact List.mem_singleton.mpr rfl))]; exact e
  dom := fun a e => by
    by_cases z : a = p
    · subst z; rw [upd_same] at e; cases e
    · rw [upd_ne z] at e; exact e
  tup := fun a xs e => by
    rw [upd_ne (fun z => by subst z; rw [h] at e; exact hm xs (Option.some.inj e))]; exact e
/-- then c', whose changed ones are changed ones of c or new ones -/
theorem Chg.go {M M' : List Addr} {H H1 H2 : Hp} (c : Chg M H H1) (c' : Chg M' H1 H2) (h : ∀ a ∈ M', a ∈ M ∨ H a = none) : Chg M H H2 where
  keep := fun a o e hn => c'.keep a o (c.keep a o e hn) (fun hm => (h a hm).elim hn fun z => by rw [z] at e; cases e)
  dom := fun a e => c.dom a (c'.dom a e)
  tup := fun a xs e => c'.tup a xs (c.tup a xs e)
theorem Chg.same {M : List Addr} {H H1 H2 : Hp} (c : Chg M H H1) (c' : Chg [] H1 H2) : Chg M H H2 := c.go c' fun a h => absurd h (by simp)
theorem Chg.pre {M : List Addr} {H H1 H2 : Hp} (c : Chg [] H H1) (c' : Chg M H1 H2) : Chg M H H2 :=
  ⟨fun a o e hn => c'.keep a o (c.keep a o e (by simp)) hn, fun a e => c.dom a (c'.dom a e), fun a xs e => c'.tup a xs (c.tup a xs e)⟩
theorem Chg.both {M : List Addr} {H H1 H2 : Hp} (c : Chg M H H1) (c' : Chg M H1 H2) : Chg M H H2 := c.go c' fun a h => .inl h
theorem Chg.wide {M M' : List Addr} {H H1 : Hp} (c : Chg M H H1) (h : ∀ a ∈ M, a ∈ M') : Chg M' H H1 := ⟨fun a o e hn => c.keep a o e fun z => hn (h a z), c.dom, c.tup⟩
theorem Chg.one {H H1 H2 : Hp} {p : Addr} (c : Chg [] H H1) (c' : Chg [p] H1 H2) (n : H p = none) : Chg [] H H2 :=
  c.go c' fun a h => .inr (by rw [List.mem_singleton.mp h]; exact n)
theorem Chg.at {H H' : Hp} {a : Addr} {o : HO} (c : Chg [] H H') (h : H a = some o) : H' a = some o := c.keep a o h (by simp)
theorem Chg.ne {M : List Addr} {H H' : Hp} {a b : Addr} {o : HO} (c : Chg M H H') (h : H a = some o) (n : H' b = none) : a ≠ b := fun e => by
  have z := c.dom b n
  rw [← e, h] at z; cases z
theorem Chg.at1 {H H' : Hp} {a b : Addr} {o : HO} (c : Chg [b] H H') (h : H a = some o) (n : a ≠ b) : H' a = some o := c.keep a o h (by simpa using n)
theorem Chg.seq {K : PySem.W.Frag} {H H' : Hp} {a : Addr} {xs : List V} (c : Chg [] H H') (h : SqL K H a xs) : SqL K H' a xs := by
  rcases h with (h | ⟨o, h⟩) | h
  · exact .inl (.inl (c.at h))
  · exact .inl (.inr ⟨o, c.at h⟩)
  · exact .inr h
theorem sqL {K : PySem.W.Frag} {H : Hp} {a : Addr} {xs : List V} (h : H a = some (.lst xs)) : SqL K H a xs := .inl (.inl h)
theorem sqT {K : PySem.W.Frag} {H : Hp} {a : Addr} {xs : List V} (h : H a = some (.tup xs)) : SqT K H a xs := .inl (.inl h)
mutual
inductive R (S : Addr → Prop) (H : Hp) : V → PyData → Prop
  | non : R S H .non .none
  | bl (b : Bool) : R S H (.bl b) (.bool b)
  | int (i : Int) : R S H (.int i) (.int i)
  | str (x : Str) : R S H (.str x) (.str x)
  | lst {a : Addr} {xs : List V} {ds : List PyData} : S a → H a = some (.lst xs) → RA S H xs ds → R S H (.ref a) (.list ds)
  | tup {a : Addr} {xs : List V} {ds : List PyData} : H a = some (.tup xs) → RA S H xs ds → R S H (.ref a) (.tuple ds)
  | dic {a : Addr} {kvs : List (Key × V)} : S a → H a = some (.dK kvs) → R S H (.ref a) (.dict [])
inductive RA (S : Addr → Prop) (H : Hp) : List V → List PyData → Prop
  | nil : RA S H [] []
  | cons {v : V} {vs : List V} {d : PyData} {ds : List PyData} : R S H v d → RA S H vs ds → RA S H (v :: vs) (d :: ds)
end
mutual
theorem R.imp {S S' : Addr → Prop} {H H' : Hp} (hl : ∀ a xs, S a → H a = some (.lst xs) → S' a ∧ H' a = some (.lst xs)) (hd : ∀ a xs, S a → H a = some (.dK xs) → S' a ∧ H' a = some (.dK xs))
    (ht : ∀ a xs, H a = some (.tup xs) → H' a = some (.tup xs)) : ∀ {d : PyData} {v : V}, R S H v d → R S' H' v d
  | .none, _, h => by cases h; exact .non
  | .bool _, _, h => by cases h; exact .bl _
  | .int _, _, h => by cases h; exact .int _
  | .str _, _, h => by cases h; exact .str _
  | .list ds, _, h => by
    cases h with
    | lst s e r => exact .lst (hl _ _ s e).1 (hl _ _ s e).2 (RA.imp hl hd ht r)
  | .tuple ds, _, h => by
    cases h with
    | tup e r => exact .tup (ht _ _ e) (RA.imp hl hd ht r)
  | .dict _, _, h => by
    cases h with
    | dic s e => exact .dic (hd _ _ s e).1 (hd _ _ s e).2
theorem RA.imp {S S' : Addr → Prop} {H H' : Hp} (hl : ∀ a xs, S a → H a = some (.lst xs) → S' a ∧ H' a = some (.lst xs)) (hd : ∀ a xs, S a → H a = some (.dK xs) → S' a ∧ H' a = some (.dK xs))
    (ht : ∀ a xs, H a = some (.tup xs) → H' a = some (.tup xs)) : ∀ {ds : List PyData} {vs : List V}, RA S H vs ds → RA S' H' vs ds
  | [], _, h => by cases h; exact .nil
  | d :: ds, _, h => by
    cases h with
    | cons a b => exact .cons (R.imp hl hd ht a) (RA.imp hl hd ht b)
end
theorem R.keep {S : Addr → Prop} {M : List Addr} {H H' : Hp} {v : V} {d : PyData} (c : Chg M H H') (h : ∀ a, S a → a ∉ M) (r : R S H v d) : R S H' v d :=
  R.imp (fun a xs s e => ⟨s, c.keep a _ e (h a s)⟩) (fun a xs s e => ⟨s, c.keep a _ e (h a s)⟩) c.tup r
theorem RA.keep {S : Addr → Prop} {M : List Addr} {H H' : Hp} {v : List V} {d : List PyData} (c : Chg M H H') (h : ∀ a, S a → a ∉ M) (r : RA S H v d) : RA S H' v d :=
  RA.imp (fun a xs s e => ⟨s, c.keep a _ e (h a s)⟩) (fun a xs s e => ⟨s, c.keep a _ e (h a s)⟩) c.tup r
theorem R.mono {S S' : Addr → Prop} {H : Hp} {v : V} {d : PyData} (h : ∀ a, S a → S' a) (r : R S H v d) : R S' H v d :=
  R.imp (fun a xs s e => ⟨h a s, e⟩) (fun a xs s e => ⟨h a s, e⟩) (fun _ _ e => e) r
theorem RA.mono {S S' : Addr → Prop} {H : Hp} {v : List V} {d : List PyData} (h : ∀ a, S a → S' a) (r : RA S H v d) : RA S' H v d :=
  RA.imp (fun a xs s e => ⟨h a s, e⟩) (fun a xs s e => ⟨h a s, e⟩) (fun _ _ e => e) r
/-- all that stands in H stands in H' -/
theorem R.same {S : Addr → Prop} {H H' : Hp} {v : V} {d : PyData} (c : Chg [] H H') (r : R S H v d) : R S H' v d := r.keep c fun _ _ => by simp
theorem RA.same {S : Addr → Prop} {H H' : Hp} {v : List V} {d : List PyData} (c : Chg [] H H') (r : RA S H v d) : RA S H' v d := r.keep c fun _ _ => by simp
/-- data without lists -/
abbrev Im : Hp → V → PyData → Prop := R (fun _ => False)
abbrev ImA : Hp → List V → List PyData → Prop := RA (fun _ => False)
theorem R.im {M : List Addr} {H H' : Hp} {v : V} {d : PyData} (c : Chg M H H') (r : Im H v d) : Im H' v d := R.keep c (fun _ z => z.elim) r
theorem RA.im {M : List Addr} {H H' : Hp} {v : List V} {d : List PyData} (c : Chg M H H') (r : ImA H v d) : ImA H' v d := RA.keep c (fun _ z => z.elim) r
theorem R.any {S : Addr → Prop} {H : Hp} {v : V} {d : PyData} (r : Im H v d) : R S H v d := r.mono fun _ z => z.elim
theorem RA.any {S : Addr → Prop} {H : Hp} {v : List V} {d : List PyData} (r : ImA H v d) : RA S H v d := r.mono fun _ z => z.elim
theorem RA.length {S : Addr → Prop} {H : Hp} : ∀ {vs : List V} {ds : List PyData}, RA S H vs ds → vs.length = ds.length
  | _, _, .nil => rfl
  | _, _, .cons _ r => by rw [List.length_cons, List.length_cons, r.length]
theorem RA.get {S : Addr → Prop} {H : Hp} : ∀ {vs : List V} {ds : List PyData} {i : Nat} {v : V}, RA S H vs ds → vs[i]? = some v → ∃ d, ds[i]? = some d ∧ R S H v d
  | _, _, _, _, .nil, h => by simp at h
  | _, _, 0, _, .cons a r, h => ⟨_, rfl, by cases (Option.some.inj (show some _ = some _ from h)); exact a⟩
  | _, _, i + 1, _, .cons a r, h => RA.get (i := i) r h
theorem RA.snoc {S : Addr → Prop} {H : Hp} : ∀ {vs : List V} {ds : List PyData} {v : V} {d : PyData}, RA S H vs ds → R S H v d → RA S H (vs ++ [v]) (ds ++ [d])
  | _, _, _, _, .nil, h => .cons h .nil
  | _, _, _, _, .cons a r, h => .cons a (r.snoc h)
theorem RA.append {S : Addr → Prop} {H : Hp} : ∀ {vs ws : List V} {ds es : List PyData}, RA S H vs ds → RA S H ws es → RA S H (vs ++ ws) (ds ++ es)
  | _, _, _, _, .nil, h => h
  | _, _, _, _, .cons a r, h => .cons a (r.append h)
theorem RA.drop {S : Addr → Prop} {H : Hp} : ∀ {vs : List V} {ds : List PyData} (n : Nat), RA S H vs ds → RA S H (vs.drop n) (ds.drop n)
  | _, _, 0, h => h
  | _, _, _ + 1, .nil => .nil
  | _, _, n + 1, .cons _ r => r.drop n
theorem RA.take {S : Addr → Prop} {H : Hp} : ∀ {vs : List V} {ds : List PyData} (n : Nat), RA S H vs ds → RA S H (vs.take n) (ds.take n)
  | _, _, 0, _ => .nil
  | _, _, _ + 1, .nil => .nil
  | _, _, n + 1, .cons a r => .cons a (r.take n)
/-- no dict in it -/
abbrev noDic : PyData → Bool := PyData.plain
abbrev noDics : List PyData → Bool := PyData.plainAll
mutual
theorem eqv_self : ∀ d : PyData, noDic d = true → PyData.eqv d d = true
  | .none, _ => rfl
  | .bool b, _ => by simp [PyData.eqv]
  | .int i, _ => by simp [PyData.eqv]
  | .str x, _ => by simp [PyData.eqv]
  | .list xs, h => by
    show PyData.eqvAll xs xs = true
    exact eqvAll_self xs h
  | .tuple xs, h => by
    show PyData.eqvAll xs xs = true
    exact eqvAll_self xs h
  | .dict _, h => by cases h
theorem eqvAll_self : ∀ ds : List PyData, noDics ds = true → PyData.eqvAll ds ds = true
  | [], _ => rfl
  | d :: ds, h => by
    obtain ⟨h1, h2⟩ := Bool.and_eq_true_iff.mp (show (noDic d && noDics ds) = true from h)
    show (PyData.eqv d d && PyData.eqvAll ds ds) = true
    rw [eqv_self d h1, eqvAll_self ds h2]
    rfl
end
mutual
theorem R.dp {K : PySem.W.Frag} {S : Addr → Prop} {H : Hp} : ∀ {d : PyData} {v : V}, R S H v d → noDic d = true → Dp K H v d
  | .none, _, h, _ => by cases h; exact .non
  | .bool _, _, h, _ => by cases h; exact .bl _
  | .int _, _, h, _ => by cases h; exact .int _
  | .str _, _, h, _ => by cases h; exact .str _
  | .list ds, _, h, z => by
    cases h with
    | lst s e r => exact .lst (sqL e) (RA.dp r z)
  | .tuple ds, _, h, z => by
    cases h with
    | tup e r => exact .tup (sqT e) (RA.dp r z)
  | .dict _, _, h, z => by cases z
theorem RA.dp {K : PySem.W.Frag} {S : Addr → Prop} {H : Hp} : ∀ {ds : List PyData} {vs : List V}, RA S H vs ds → noDics ds = true → DpAll K H vs ds
  | [], _, h, _ => by cases h; exact .nil
  | d :: ds, _, h, z => by
    obtain ⟨z1, z2⟩ := Bool.and_eq_true_iff.mp (show (noDic d && noDics ds) = true from z)
    cases h with
    | cons a b => exact .cons (R.dp a z1) (RA.dp b z2)
end
end
section
section
variable {X : Cx}
def oAdd : R2 := rI0 fun i j => .int (i + j)
def oSub : R2 := rI0 fun i j => .int (i - j)
def oMul : R2 := rI CMul fun i j => .int (i * j)
def oFdiv : R2 := rI CDivW fun i j => .int (i / j)
def oMod : R2 := rI (fun _ j => 0 < j) fun i j => .int (i % j)
def CPowW (i j : Int) : Prop := 0 ≤ j ∧ (Builtin.Int.intBits i : Int) * j ≤ 2 ^ 27
def oPow : R2 := rI CPowW fun i j => .int (i ^ j.toNat)
def oLt : R2 := rI0 fun i j => .bl (decide (i < j))
def oLe : R2 := rI0 fun i j => .bl (decide (i ≤ j))
def oGt : R2 := rI0 fun i j => .bl (decide (j < i))
def oGe : R2 := rI0 fun i j => .bl (decide (j ≤ i))
def oAddS : R2 := fun x y H Q => ∃ i j, x = .str i ∧ y = .str j ∧ i.length + j.length ≤ sizeLine ∧ Q (.str (i ++ j)) H
def oLtS : R2 := fun x y H Q => ∃ i j, x = .str i ∧ y = .str j ∧ Q (.bl (decide (i.cps.toList < j.cps.toList))) H
def oGeS : R2 := fun x y H Q => ∃ i j, x = .str i ∧ y = .str j ∧ Q (.bl (!decide (i.cps.toList < j.cps.toList))) H
def oInC : R2 := fun x y H Q => ∃ (c : Nat) (z : Str), x = .str ⟨#[c]⟩ ∧ y = .str z ∧ Q (.bl (decide (c ∈ z.cps.toList))) H
def oNotInC : R2 := fun x y H Q => ∃ (c : Nat) (z : Str), x = .str ⟨#[c]⟩ ∧ y = .str z ∧ Q (.bl (!decide (c ∈ z.cps.toList))) H
def oIsN : R2 := fun x y H Q => y = .non ∧ Q (.bl (decide (x = .non))) H
def oNotN : R2 := fun x y H Q => y = .non ∧ Q (.bl (!decide (x = .non))) H
def oIsB : R2 := fun x y H Q => ∃ a b, x = .bl a ∧ y = .bl b ∧ Q (.bl (decide (a = b))) H
def oNotB : R2 := fun x y H Q => ∃ a b, x = .bl a ∧ y = .bl b ∧ Q (.bl (!decide (a = b))) H
def oNotInKd (K : PySem.W.Frag) (d : Addr) : R2 := fun x y H Q => ∃ (z : Str) (r : Option Value), x = .str z ∧ y = .ref d ∧ PySem.W.nsIn K d z = some r ∧ Q (.bl (!r.isSome)) H
def oEqD : R2 := fun x y H Q => ∃ (d e : PyData) (S S' : Addr → Prop), R S H x d ∧ R S' H y e ∧ noDic d = true ∧ noDic e = true ∧ min d.depth e.depth ≤ 60 ∧ Q (.bl (PyData.eqv d e)) H
theorem p_eqD (hu : X.A.units + 64 < cLine) : OpR X (compareOp .Eq) oEqD := by
  intro pins s σ H x y v u Q I rx ry h
  obtain ⟨d, e, S, S', hd, he, sd, se, hm, q⟩ := h
  obtain ⟨as, r1⟩ := Dp.reads I d x v (hd.dp sd) rx
  obtain ⟨bs, r2⟩ := Dp.reads I e y u (he.dp se) ry
  exact SeqAt.eq_plain r1 r2 sd se (by omega) ⟨.bl _, H, I, rfl, q⟩
def mJoin (K : PySem.W.Frag) : V → List V → Hp → VK → Prop := fun x xs H Q => ∃ a p, ∃ ys : List Str, x = .str a ∧ xs = [.ref p] ∧ (SqL K H p (ys.map V.str) ∨ SqT K H p (ys.map V.str)) ∧ (ys.map (·.length)).sum + ys.length * a.length ≤ 16777216 ∧ Q (.str (Txt.join a ys)) H
theorem p_add : OpR X (binaryOp .Add) oAdd := op_add
theorem p_sub : OpR X (binaryOp .Sub) oSub := op_sub
theorem p_mul : OpR X (binaryOp .Mult) oMul := op_mul
theorem p_fdiv : OpR X (binaryOp .FloorDiv) oFdiv := op_fdivW
theorem p_mod : OpR X (binaryOp .Mod) oMod := op_mod
theorem p_pow : OpR X (binaryOp .Pow) oPow := opI fun _ _ _ _ _ _ _ hc q => pow_int hc.1 hc.2 q
theorem p_lt : OpR X (compareOp .Lt) oLt := op_lt
theorem p_le : OpR X (compareOp .LtE) oLe := op_le
theorem p_gt : OpR X (compareOp .Gt) oGt := op_gt
theorem p_addS : OpR X (binaryOp .Add) oAddS := op_add_str
theorem p_ltS : OpR X (compareOp .Lt) oLtS := op_lt_str
theorem p_geS : OpR X (compareOp .GtE) oGeS := op_ge_str
theorem p_inC : OpR X (compareOp .In) oInC := op_in_sign
theorem p_notInC : OpR X (compareOp .NotIn) oNotInC := op_notIn_sign
theorem p_isN : OpR X (compareOp .Is) oIsN := op_isN
theorem p_notN : OpR X (compareOp .IsNot) oNotN := op_notN
theorem p_isB : OpR X (compareOp .Is) oIsB := op_is_bl
theorem p_notB : OpR X (compareOp .IsNot) oNotB := op_isnot_bl
def cMax : List V → Hp → VK → Prop := fun xs H Q => ∃ i j, xs = [.int i, .int j] ∧ Q (.int (if j > i then j else i)) H
def cMin : List V → Hp → VK → Prop := fun xs H Q => ∃ i j, xs = [.int i, .int j] ∧ Q (.int (if j < i then j else i)) H
def cAbs : List V → Hp → VK → Prop := fun xs H Q => ∃ i, xs = [.int i] ∧ Q (.int (if i < 0 then -i else i)) H
def cInt : List V → Hp → VK → Prop := fun xs H Q => (∃ i, xs = [.int i] ∧ Q (.int i) H) ∨ ∃ k, xs = [.bl k] ∧ Q (.int (if k then 1 else 0)) H
def cLenQ (K : PySem.W.Frag) : List V → Hp → VK → Prop := fun xs H Q => ∃ p ys, xs = [.ref p] ∧ (SqL K H p ys ∨ SqT K H p ys) ∧ Q (.int ys.length) H
def cLenS : List V → Hp → VK → Prop := fun xs H Q => ∃ z, xs = [.str z] ∧ z.length ≤ sizeLine ∧ Q (.int z.length) H
def cListQ (K : PySem.W.Frag) : List V → Hp → VK → Prop := fun xs H Q => ∃ p ys, xs = [.ref p] ∧ (SqL K H p ys ∨ SqT K H p ys) ∧ ∀ l, H l = none → Q (.ref l) (upd H l (.lst ys))
def cTupQ (K : PySem.W.Frag) : List V → Hp → VK → Prop := fun xs H Q => ∃ p ys, xs = [.ref p] ∧ ((SqL K H p ys ∧ ∀ l, H l = none → Q (.ref l) (upd H l (.tup ys))) ∨ (SqT K H p ys ∧ Q (.ref p) H))
def cListD : List V → Hp → VK → Prop := fun xs H Q => ∃ (a : Addr) (kvs : List (Key × V)), xs = [.ref a] ∧ Rd H a (.dK kvs) ∧ ∀ p, H p = none → Q (.ref p) (upd H p (.lst (kvs.map fun kv => kV kv.1)))
theorem p_max (hc : X.calm = true) : CallR X (.builtin "max") cMax := call_max2 hc
theorem p_min (hc : X.calm = true) : CallR X (.builtin "min") cMin := call_min2 hc
theorem p_int : CallR X (.type "int") cInt := call_int1
theorem p_lenQ : CallR X (.builtin "len") (cLenQ X.K) := call_len_seq
theorem p_lenS : CallR X (.builtin "len") cLenS := call_len_str
theorem p_listQ : CallR X (.type "list") (cListQ X.K) := call_list_of
theorem p_tupQ : CallR X (.type "tuple") (cTupQ X.K) := call_tuple_of
theorem p_listD (hc : X.calm = true) : CallR X (.type "list") cListD := call_listD hc
end
section
variable {K : PySem.W.Frag} {σ : L2.St} {H : Hp} {D : Ends} {te ta tb tc : TE} {tr : TA} {g : TG} {gs : TGs} {t u : TS} {c c' : TT} {r r' : R2} {Q : VK} {QB : Bool → Hp → Prop} {QA : List V → Hp → Prop} {QS : L2.St → Hp → Prop} {QO : Option Int → Hp → Prop} {i j : Int} {n : Nat} {v x y : V} {vs xs : List V} {p a : Addr} {z z' : Str} {b : Bool}
theorem w_seq (h : t { D with nx := u D } σ H) : tSeq t u D σ H := h
theorem w_next (h : D.nx σ H) : tNext D σ H := h
theorem w_drop (h : te σ H fun _ H1 => D.nx σ H1) : tDrop te D σ H := h
theorem w_ret (h : te σ H D.rt) : tRet te D σ H := h
theorem w_retN (h : D.rt .non H) : tRetN D σ H := h
theorem w_if (h : c σ H fun b H1 => if b = true then t D σ H1 else u D σ H1) : tIfS c t u D σ H := h
theorem w_asg (h : te σ H fun x H1 => g x σ H1 D.nx) : tAsg te g D σ H := h
theorem w_gName (h : QS (σ.set n (some v)) H) : gName n v σ H QS := h
theorem w_gTup (h : H a = some (.tup xs)) (hl : xs.length = n) (q : gs xs σ H QS) : gTup K n gs (.ref a) σ H QS := ⟨a, xs, rfl, sqT h, hl, q⟩
theorem w_gCons (h : g v σ H fun σ' H' => gs vs σ' H' QS) : gCons g gs (v :: vs) σ H QS := ⟨v, vs, rfl, h⟩
theorem w_gNil (h : QS σ H) : gNil [] σ H QS := ⟨rfl, h⟩
theorem w_gSub {to ti : TE} {ts : TSet} (h : to σ H fun o H1 => ti σ H1 fun i H2 => ts o i v H2 fun H3 => QS σ H3) : gSub to ti ts v σ H QS := h
theorem w_aug {ti : TIp} (h : σ[n]? = some (some x)) (q : te σ H fun y H1 => ti x y H1 fun z H2 => D.nx (σ.set n (some z)) H2) : tAug n te ti D σ H := ⟨x, h, q⟩
theorem w_ipI {f : Int → Int → Int} (q : Q (.int (f i j)) H) : ipI f (.int i) (.int j) H Q := ⟨i, j, rfl, rfl, q⟩
theorem w_var (h : σ[n]? = some (some v)) (q : Q v H) : tVar n σ H Q := ⟨v, h, q⟩
theorem w_c (q : Q v H) : tC v σ H Q := q
theorem w_op (h : ta σ H fun x H1 => tb σ H1 fun y H2 => r x y H2 Q) : tOp r ta tb σ H Q := h
theorem w_un {ru : V → Hp → VK → Prop} (h : ta σ H fun x H1 => ru x H1 Q) : tUn ru ta σ H Q := h
theorem w_neg (q : Q (.int (-i)) H) : rU (fun i => .int (-i)) (.int i) H Q := ⟨i, rfl, q⟩
theorem w_nil (q : QA [] H) : tNil σ H QA := q
theorem w_cons (h : ta σ H fun x H1 => tr σ H1 fun xs H2 => QA (x :: xs) H2) : tCons ta tr σ H QA := h
theorem w_cb {rc : List V → Hp → VK → Prop} (h : tr σ H fun vs H1 => rc vs H1 Q) : tCB rc tr σ H Q := h
theorem w_call {sp : Sp} {dvs : List V} {E : XK} (h : tr σ H fun vs H1 => sp (vs ++ dvs) H1 Q E) : tCall sp dvs E tr σ H Q := h
theorem w_test (h : te σ H fun x H' => ∃ k, x = .bl k ∧ QB k H') : tTest te σ H QB := h
theorem w_B (h : te σ H fun x H' => ∃ k, x = .bl k ∧ QB k H') : tB te σ H QB := h
theorem w_isbl {P : Bool → Prop} (q : P b) : ∃ k, V.bl b = .bl k ∧ P k := ⟨b, rfl, q⟩
theorem w_and (h : c σ H fun b H1 => if b = true then c' σ H1 QB else QB false H1) : tAnd c c' σ H QB := h
theorem w_or (h : c σ H fun b H1 => if b = true then QB true H1 else c' σ H1 QB) : tOr c c' σ H QB := h
theorem w_not (h : c σ H fun b H1 => QB (!b) H1) : tNot c σ H QB := h
theorem w_andV (h : ta σ H fun x H1 => ∃ c, x = .bl c ∧ if c = true then tb σ H1 Q else Q (.bl false) H1) : tAndV ta tb σ H Q := h
theorem w_orV (h : ta σ H fun x H1 => ∃ c, x = .bl c ∧ if c = true then Q (.bl true) H1 else tb σ H1 Q) : tOrV ta tb σ H Q := h
theorem w_notV (h : ta σ H fun x H1 => ∃ c, x = .bl c ∧ Q (.bl (!c)) H1) : tNotV ta σ H Q := h
theorem w_ifE (h : c σ H fun b H1 => if b = true then ta σ H1 Q else tb σ H1 Q) : tIf c ta tb σ H Q := h
theorem w_chain (h : ta σ H fun x H1 => tb σ H1 fun y H2 => r x y H2 fun z H3 => ∃ k, z = .bl k ∧ (if k = true then tc σ H3 fun w' H4 => r' y w' H4 Q else Q (.bl false) H3)) : tChain r r' ta tb tc σ H Q := h
/-- the last part of a display -/
def KTup (Q : VK) : List V → Hp → Prop := fun xs H1 => xs.length ≤ sizeLine ∧ ∀ p, H1 p = none → Q (.ref p) (upd H1 p (.tup xs))
def KLst (Q : VK) : List V → Hp → Prop := fun xs H1 => xs.length ≤ sizeLine ∧ ∀ p, H1 p = none → Q (.ref p) (upd H1 p (.lst xs))
theorem w_tup1 (h : tr σ H (KTup Q)) : tTup tr σ H Q := h
theorem w_lst1 (h : tr σ H (KLst Q)) : tLst tr σ H Q := h
theorem k_tup {H1 : Hp} (hl : xs.length ≤ sizeLine) (h : ∀ p H2, H1 p = none → Chg [] H1 H2 → H2 p = some (.tup xs) → Q (.ref p) H2) : KTup Q xs H1 := ⟨hl, fun p np => h p _ np (.new np) upd_same⟩
theorem k_lst {H1 : Hp} (hl : xs.length ≤ sizeLine) (h : ∀ p H2, H1 p = none → Chg [] H1 H2 → H2 p = some (.lst xs) → Q (.ref p) H2) : KLst Q xs H1 := ⟨hl, fun p np => h p _ np (.new np) upd_same⟩
/-- a new object -/
theorem d_new {H1 : Hp} {o : HO} (h : ∀ p H2, H1 p = none → Chg [] H1 H2 → H2 p = some o → Q (.ref p) H2) : ∀ p, H1 p = none → Q (.ref p) (upd H1 p o) := fun p np => h p _ np (.new np) upd_same
theorem w_add (q : Q (.int (i + j)) H) : oAdd (.int i) (.int j) H Q := ⟨i, j, rfl, rfl, q⟩
theorem w_sub (q : Q (.int (i - j)) H) : oSub (.int i) (.int j) H Q := ⟨i, j, rfl, rfl, q⟩
theorem w_mul (h : CMul i j) (q : Q (.int (i * j)) H) : oMul (.int i) (.int j) H Q := ⟨i, j, rfl, rfl, h, q⟩
theorem w_fdiv (h : CDivW i j) (q : Q (.int (i / j)) H) : oFdiv (.int i) (.int j) H Q := ⟨i, j, rfl, rfl, h, q⟩
theorem w_mod (h : 0 < j) (q : Q (.int (i % j)) H) : oMod (.int i) (.int j) H Q := ⟨i, j, rfl, rfl, h, q⟩
theorem w_pow (h : CPowW i j) (q : Q (.int (i ^ j.toNat)) H) : oPow (.int i) (.int j) H Q := ⟨i, j, rfl, rfl, h, q⟩
theorem w_lt (q : Q (.bl (decide (i < j))) H) : oLt (.int i) (.int j) H Q := ⟨i, j, rfl, rfl, q⟩
theorem w_le (q : Q (.bl (decide (i ≤ j))) H) : oLe (.int i) (.int j) H Q := ⟨i, j, rfl, rfl, q⟩
theorem w_gt (q : Q (.bl (decide (j < i))) H) : oGt (.int i) (.int j) H Q := ⟨i, j, rfl, rfl, q⟩
theorem w_ge (q : Q (.bl (decide (j ≤ i))) H) : oGe (.int i) (.int j) H Q := ⟨i, j, rfl, rfl, q⟩
theorem w_addS (h : z.length + z'.length ≤ sizeLine) (q : Q (.str (z ++ z')) H) : oAddS (.str z) (.str z') H Q := ⟨z, z', rfl, rfl, h, q⟩
theorem w_ltS (q : Q (.bl (decide (z.cps.toList < z'.cps.toList))) H) : oLtS (.str z) (.str z') H Q := ⟨z, z', rfl, rfl, q⟩
theorem w_geS (q : Q (.bl (!decide (z.cps.toList < z'.cps.toList))) H) : oGeS (.str z) (.str z') H Q := ⟨z, z', rfl, rfl, q⟩
theorem w_inC {c : Nat} (q : Q (.bl (decide (c ∈ z.cps.toList))) H) : oInC (.str ⟨#[c]⟩) (.str z) H Q := ⟨c, z, rfl, rfl, q⟩
theorem w_notInC {c : Nat} (q : Q (.bl (!decide (c ∈ z.cps.toList))) H) : oNotInC (.str ⟨#[c]⟩) (.str z) H Q := ⟨c, z, rfl, rfl, q⟩
theorem w_isN (q : Q (.bl (decide (x = .non))) H) : oIsN x .non H Q := ⟨rfl, q⟩
theorem w_notN (q : Q (.bl (!decide (x = .non))) H) : oNotN x .non H Q := ⟨rfl, q⟩
theorem w_isB {b' : Bool} (q : Q (.bl (decide (b = b'))) H) : oIsB (.bl b) (.bl b') H Q := ⟨b, b', rfl, rfl, q⟩
theorem w_notB {b' : Bool} (q : Q (.bl (!decide (b = b'))) H) : oNotB (.bl b) (.bl b') H Q := ⟨b, b', rfl, rfl, q⟩
theorem w_eq (h : scal x y = true) (q : Q (.bl (decide (x = y))) H) : rEq x y H Q := ⟨h, q⟩
theorem w_ne (h : scal x y = true) (q : Q (.bl (!decide (x = y))) H) : rNe x y H Q := ⟨h, q⟩
theorem w_eqD {d e : PyData} {S S' : Addr → Prop} (hd : R S H x d) (he : R S' H y e) (sd : noDic d = true) (se : noDic e = true) (hm : min d.depth e.depth ≤ 60) (q : Q (.bl (PyData.eqv d e)) H) : oEqD x y H Q := ⟨d, e, S, S', hd, he, sd, se, hm, q⟩
theorem w_m1 {rm : V → List V → Hp → VK → Prop} (h : ta σ H fun x H1 => (∃ a, x = .str a) ∧ tb σ H1 fun y H2 => rm x [y] H2 Q) : tM1 rm ta tb σ H Q := h
theorem w_isstr {P : Prop} (q : P) : (∃ a, V.str z = .str a) ∧ P := ⟨⟨z, rfl⟩, q⟩
theorem w_join {ys : List Str} (h : SqL K H p (ys.map V.str)) (hs : (ys.map (·.length)).sum + ys.length * z.length ≤ 16777216) (q : Q (.str (Txt.join z ys)) H) : mJoin K (.str z) [.ref p] H Q := ⟨z, p, ys, rfl, rfl, .inl h, hs, q⟩
theorem w_ixL (h : SqL K H p xs) (ha : atI xs i = some v) (q : Q v H) : rIxL K (.ref p) (.int i) H Q := ⟨p, xs, i, v, rfl, rfl, h, ha, q⟩
theorem w_ixT (h : H p = some (.tup xs)) (ha : atI xs i = some v) (q : Q v H) : rIxT K (.ref p) (.int i) H Q := ⟨p, xs, i, v, rfl, rfl, sqT h, ha, q⟩
theorem w_ixS {c : Nat} (h : z.length ≤ sizeLine) (ha : atI z.cps.toList i = some c) (q : Q (.str ⟨#[c]⟩) H) : rIxS (.str z) (.int i) H Q := ⟨z, i, c, rfl, rfl, h, ha, q⟩
theorem w_setL {k : Nat} {P : Hp → Prop} (h : H p = some (.lst xs)) (ha : ixN xs.length i = some k) (q : ∀ H', Chg [p] H H' → H' p = some (.lst (xs.set k v)) → P H') : rSetL (.ref p) (.int i) v H P :=
  ⟨p, xs, i, k, rfl, rfl, h, ha, q _ (.mut h fun _ z => nomatch z) upd_same⟩
theorem w_max (q : Q (.int (if j > i then j else i)) H) : cMax [.int i, .int j] H Q := ⟨i, j, rfl, q⟩
theorem w_min (q : Q (.int (if j < i then j else i)) H) : cMin [.int i, .int j] H Q := ⟨i, j, rfl, q⟩
theorem w_abs (q : Q (.int (if i < 0 then -i else i)) H) : cAbs [.int i] H Q := ⟨i, rfl, q⟩
theorem w_intB (q : Q (.int (if b then 1 else 0)) H) : cInt [.bl b] H Q := .inr ⟨b, rfl, q⟩
theorem w_intI (q : Q (.int i) H) : cInt [.int i] H Q := .inl ⟨i, rfl, q⟩
theorem w_lenL (h : SqL K H p xs) (q : Q (.int xs.length) H) : cLenQ K [.ref p] H Q := ⟨p, xs, rfl, .inl h, q⟩
theorem w_lenT (h : H p = some (.tup xs)) (q : Q (.int xs.length) H) : cLenQ K [.ref p] H Q := ⟨p, xs, rfl, .inr (sqT h), q⟩
theorem w_lenS (h : z.length ≤ sizeLine) (q : Q (.int z.length) H) : cLenS [.str z] H Q := ⟨z, rfl, h, q⟩
theorem w_listL (h : SqL K H p xs) (q : ∀ p' H2, H p' = none → Chg [] H H2 → H2 p' = some (.lst xs) → Q (.ref p') H2) : cListQ K [.ref p] H Q := ⟨p, xs, rfl, .inl h, d_new q⟩
theorem w_listT (h : H p = some (.tup xs)) (q : ∀ p' H2, H p' = none → Chg [] H H2 → H2 p' = some (.lst xs) → Q (.ref p') H2) : cListQ K [.ref p] H Q := ⟨p, xs, rfl, .inr (sqT h), d_new q⟩
theorem w_listD {kvs : List (Key × V)} (h : H p = some (.dK kvs)) (q : ∀ p' H2, H p' = none → Chg [] H H2 → H2 p' = some (.lst (kvs.map fun kv => kV kv.1)) → Q (.ref p') H2) : cListD [.ref p] H Q := ⟨p, kvs, rfl, .inl h, d_new q⟩
theorem w_all {bs : List Bool} (h : H p = some (.lst (bs.map V.bl))) (q : Q (.bl (bs.all id)) H) : rAll K [.ref p] H Q := ⟨p, bs, rfl, sqL h, q⟩
theorem w_append (h : H p = some (.lst xs)) (hl : xs.length < sizeLine) (q : ∀ H', Chg [p] H H' → H' p = some (.lst (xs ++ [y])) → Q .non H') : rAppend (.ref p) [y] H Q :=
  ⟨p, xs, y, rfl, rfl, h, hl, q _ (.mut h fun _ z => nomatch z) upd_same⟩
theorem w_bm {T : String} {rm : V → List V → Hp → VK → Prop} (h : te σ H fun x H1 => tyV K T x H1 ∧ tr σ H1 fun ys H2 => rm x ys H2 Q) : tBM K T rm te tr σ H Q := h
theorem w_bm0 {T : String} {rm : V → List V → Hp → VK → Prop} (h : te σ H fun x H1 => tyV K T x H1 ∧ rm x [] H1 Q) : tBM0 K T rm te σ H Q := h
theorem w_tyL {A : Prop} (h : H p = some (.lst xs)) (q : A) : tyV K "list" (.ref p) H ∧ A := ⟨.inl ⟨rfl, _, sqL h⟩, q⟩
theorem w_part (h : te σ H fun x H1 => ∃ i, x = .int i ∧ QO (some i) H1) : tPart te σ H QO := h
theorem w_isint {P : Int → Prop} (q : P i) : ∃ k, V.int i = .int k ∧ P k := ⟨i, rfl, q⟩
theorem w_noPart (h : QO none H) : tNoPart σ H QO := h
theorem w_sl {rs : V → Option Int → Option Int → Hp → VK → Prop} {tl th : TO} (h : te σ H fun x H1 => tl σ H1 fun l H2 => th σ H2 fun u H3 => rs x l u H3 Q) : tSl rs te tl th σ H Q := h
theorem w_slS {lo hi : Option Int} (h : z.length ≤ sizeLine) (q : Q (.str (cutS z lo hi)) H) : rSlS (.str z) lo hi H Q := ⟨z, rfl, h, q⟩
theorem w_slL {lo hi : Option Int} (h : SqL K H p xs) (q : ∀ p' H2, H p' = none → Chg [] H H2 → H2 p' = some (.lst (cutV xs lo hi)) → Q (.ref p') H2) : rSlL K (.ref p) lo hi H Q := ⟨p, xs, rfl, h, d_new q⟩
/-- tests -/
theorem w_iteT {A B : Prop} (h : A) : if true = true then A else B := iteT h
theorem w_iteF {A B : Prop} (h : B) : if false = true then A else B := iteF h
theorem w_iteB {A B : Prop} (h1 : b = true → A) (h2 : b = false → B) : if b = true then A else B := by
  cases b with
  | true => exact iteT (h1 rfl)
  | false => exact iteF (h2 rfl)
theorem w_iteD {P A B : Prop} [Decidable P] (h1 : P → A) (h2 : ¬ P → B) : if decide P = true then A else B := w_iteB (fun e => h1 (of_decide_eq_true e)) (fun e => h2 (of_decide_eq_false e))
theorem w_iteN {A B : Prop} (h : if b = true then B else A) : if (!b) = true then A else B := by cases b <;> simpa using h
theorem w_iteYes {A B : Prop} (e : b = true) (h : A) : if b = true then A else B := by rw [e]; exact iteT h
theorem w_iteNo {A B : Prop} (e : b = false) (h : B) : if b = true then A else B := by rw [e]; exact iteF h
end
section
variable {K : PySem.W.Frag} {σ : L2.St} {H : Hp} {D : Ends} {td ty tv : TE} {p : Addr} {v : V} {k : Key} {kvs : List (Key × V)}
theorem w_dput (h : tv σ H fun v H1 => td σ H1 fun x H2 => ty σ H2 fun y H3 => ∃ a H4, x = .ref a ∧ DPut H3 a y v H4 ∧ D.nx σ H4) : sDPut td ty tv D σ H := h
theorem d_dput {A : Hp → Prop} (h : H p = some (.dK kvs)) (hl : kvs.length < sizeLine) (q : ∀ H', Chg [p] H H' → H' p = some (.dK (putK kvs k v)) → A H') : ∃ a H4, V.ref p = .ref a ∧ DPut H a (kV k) v H4 ∧ A H4 :=
  ⟨p, _, rfl, .k h hl, q _ (.mut h fun _ z => nomatch z) upd_same⟩
theorem w_dnewK {Q : VK} (q : ∀ p H2, H p = none → Chg [] H H2 → H2 p = some (.dK []) → Q (.ref p) H2) : tDNewK σ H Q := d_new q
end
theorem at0 {α : Type} {x0 : α} {xs : List α} : atI (x0 :: xs) 0 = some x0 := atI_nat (j := 0) rfl
theorem at1 {α : Type} {x0 x1 : α} {xs : List α} : atI (x0 :: x1 :: xs) 1 = some x1 := atI_nat (j := 1) rfl
theorem at2 {α : Type} {x0 x1 x2 : α} {xs : List α} : atI (x0 :: x1 :: x2 :: xs) 2 = some x2 := atI_nat (j := 2) rfl
theorem at3 {α : Type} {x0 x1 x2 x3 : α} {xs : List α} : atI (x0 :: x1 :: x2 :: x3 :: xs) 3 = some x3 := atI_nat (j := 3) rfl
theorem atN {α : Type} {xs : List α} {i : Int} {v : α} (h0 : 0 ≤ i) (h : xs[i.toNat]? = some v) : atI xs i = some v := by
  have e : ((i.toNat : Nat) : Int) = i := by omega
  have q := atI_nat (xs := xs) h
  rw [e] at q
  exact q
/-- at a drawn place -/
theorem atD {α : Type} {xs : List α} {i : Int} (h0 : 0 ≤ i) (h1 : i < xs.length) : ∃ v, atI xs i = some v ∧ v ∈ xs := by
  have hl : i.toNat < xs.length := by omega
  exact ⟨xs[i.toNat], atN h0 (List.getElem?_eq_getElem hl), List.getElem_mem hl⟩
theorem ixD {n : Nat} {i : Int} (h0 : 0 ≤ i) (h1 : i < n) : ixN n i = some i.toNat := by
  unfold ixN
  rw [if_pos h0, if_pos h1]
end
section
/-- what holds ahead of the i-th turn: D the new list, Iv by the address, the turn, the list so far, the heap -/
def LcP (D : Addr) (Iv : Addr → Nat → List V → Hp → Prop) (i : Nat) : Hp → Prop := fun H5 => ∃ acc, acc.length = i ∧ H5 D = some (.lst acc) ∧ Iv D i acc H5
/-- what is wanted of an item -/
def LcK (D : Addr) (Iv : Addr → Nat → List V → Hp → Prop) (i : Nat) : VK := fun y H4 => ∃ acc, H4 D = some (.lst acc) ∧ acc.length < sizeLine ∧ LcP D Iv (i + 1) (upd H4 D (.lst (acc ++ [y])))
theorem lc_end {D : Addr} {Iv : Addr → Nat → List V → Hp → Prop} {i : Nat} {y : V} {H4 : Hp} {acc : List V} (h : H4 D = some (.lst acc)) (hl : acc.length = i) (hz : i ≤ 100000) (q : ∀ H5, Chg [D] H4 H5 → H5 D = some (.lst (acc ++ [y])) → Iv D (i + 1) (acc ++ [y]) H5) : LcK D Iv i y H4 := by
  subst hl
  exact ⟨acc, h, Nat.lt_of_le_of_lt hz (by decide), acc ++ [y], by simp, upd_same, q _ (.mut h fun _ e => nomatch e) upd_same⟩
theorem w_lcW {J : It} {n : Nat} {G : Hp → Prop} {Y : Nat → Hp → V → Hp → Prop} {g : TG} {te : TE} {tt : TT} {vs : List Nat} {σ : L2.St} {H : Hp} {Q : Addr → Hp → Prop} (w : L2.Walk J n G Y) (Iv : Addr → Nat → List V → Hp → Prop)
    (h0 : ∀ D H1, H D = none → Chg [] H H1 → H1 D = some (.lst []) → Iv D 0 [] H1) (hG : ∀ D i acc H1, i ≤ n → H D = none → Iv D i acc H1 → G H1)
    (hs : ∀ D i acc x H1 H2, i < n → H D = none → H1 D = some (.lst acc) → acc.length = i → Iv D i acc H1 → Y i H1 x H2 → g x (wipe σ vs) H2 fun σ2 H3 => wipe σ2 vs = wipe σ vs ∧
      tt σ2 H3 fun b H3 => if b = true then te σ2 H3 (LcK D Iv i) else LcP D Iv (i + 1) H3)
    (hd : ∀ D acc H1, H D = none → acc.length = n → H1 D = some (.lst acc) → Iv D n acc H1 → Q D H1) :
    ∀ D, H D = none → ∃ W : Nat → Nat → Hp → Prop, (∃ m, W 0 m (upd H D (.lst []))) ∧ ∀ i m H, W i m H →
      (J.stop i H ∧ Q D H) ∨ (J.go i H ∧ ∃ Nx : Hp → Prop, (∀ H', Nx H' → ∃ m', m' < m ∧ W (i + 1) m' H') ∧ ∀ x H', J.yld i H x H' → g x (wipe σ vs) H' fun σ2 H2 => wipe σ2 vs = wipe σ vs ∧ tt σ2 H2 fun b H3 =>
        if b = true then te σ2 H3 fun y H4 => ∃ acc, H4 D = some (.lst acc) ∧ acc.length < sizeLine ∧ Nx (upd H4 D (.lst (acc ++ [y]))) else Nx H3) := by
  intro D nD
  refine lc_it w (Qd := fun H => Q D H) (LcP D Iv) ⟨[], rfl, upd_same, h0 D _ nD (.new nD) upd_same⟩ (fun i H1 hi ⟨acc, _, _, q⟩ => hG D i acc H1 hi nD q) (fun i x H1 H2 hi hp y => ?_) (fun H1 ⟨acc, e, h, q⟩ => hd D acc H1 nD e h q)
  obtain ⟨acc, e, h, q⟩ := hp
  exact hs D i acc x H1 H2 hi nD h e q y
/-- each turn only makes new things (or changes M): Ys tells what the i-th is, Jv what else holds -/
def IvP (H : Hp) (M : List Addr) (Jv : Nat → Hp → Prop) (Ys : Nat → V → Hp → Prop) : Addr → Nat → List V → Hp → Prop := fun _ i acc H1 => Chg M H H1 ∧ Jv i H1 ∧ ∀ j y, acc[j]? = some y → Ys j y H1
theorem lcp_end {H : Hp} {M : List Addr} {Jv : Nat → Hp → Prop} {Ys : Nat → V → Hp → Prop} {D : Addr} {i : Nat} {y : V} {acc : List V} {H1 H4 : Hp} (jst : ∀ i H1 H2 p, H p = none → Chg [p] H1 H2 → Jv i H1 → Jv i H2)
    (yst : ∀ i y H1 H2 p, H p = none → Chg (p :: M) H1 H2 → Ys i y H1 → Ys i y H2) (nD : H D = none) (hM : ∀ a ∈ M, H a ≠ none) (hD : H1 D = some (.lst acc)) (hl : acc.length = i) (hz : i ≤ 100000) (iv : IvP H M Jv Ys D i acc H1)
    (c : Chg M H1 H4) (jq : Jv (i + 1) H4) (yq : Ys i y H4) : LcK D (IvP H M Jv Ys) i y H4 := by
  obtain ⟨c0, _, q⟩ := iv
  refine lc_end (c.keep _ _ hD fun hm => hM D hm nD) hl hz fun H5 c5 h5 => ⟨?_, jst _ _ _ D nD c5 jq, fun j y' e => ?_⟩
  · exact (c0.both c).go c5 fun a ha => .inr (by rw [List.mem_singleton.mp ha]; exact nD)
  · by_cases hj : j < acc.length
    · rw [List.getElem?_append_left hj] at e
      exact yst j y' H4 H5 D nD (c5.wide (by simp)) (yst j y' H1 H4 D nD (c.wide (by intro a ha; exact List.mem_cons_of_mem _ ha)) (q j y' e))
    · have hj2 : j = acc.length := by
        have := (List.getElem?_eq_some_iff.mp e).1
        rw [List.length_append, List.length_singleton] at this
        omega
      subst hj2
      rw [List.getElem?_append_right (Nat.le_refl _), Nat.sub_self] at e
      cases (Option.some.inj (show some y = some y' from e))
      rw [hl]
      exact yst i y H4 H5 D nD (c5.wide (by simp)) yq
theorem w_lcP {J : It} {n : Nat} {G : Hp → Prop} {Y : Nat → Hp → V → Hp → Prop} {g : TG} {te : TE} {tt : TT} {vs : List Nat} {σ : L2.St} {H : Hp} {Q : Addr → Hp → Prop} (w : L2.Walk J n G Y) (M : List Addr) (Jv : Nat → Hp → Prop) (Ys : Nat → V → Hp → Prop)
    (j0 : Jv 0 H) (jst : ∀ i H1 H2 p, H p = none → Chg [p] H1 H2 → Jv i H1 → Jv i H2) (hG : ∀ H1, Chg M H H1 → G H1)
    (hs : ∀ D i acc x H1 H2, i < n → H D = none → H1 D = some (.lst acc) → acc.length = i → IvP H M Jv Ys D i acc H1 → Chg M H H1 → Jv i H1 → Y i H1 x H2 → g x (wipe σ vs) H2 fun σ2 H3 => wipe σ2 vs = wipe σ vs ∧
      tt σ2 H3 fun b H3 => if b = true then te σ2 H3 (LcK D (IvP H M Jv Ys) i) else LcP D (IvP H M Jv Ys) (i + 1) H3)
    (hd : ∀ D acc H1, H D = none → Chg M H H1 → Jv n H1 → acc.length = n → H1 D = some (.lst acc) → (∀ i y, acc[i]? = some y → Ys i y H1) → Q D H1) :
    ∀ D, H D = none → ∃ W : Nat → Nat → Hp → Prop, (∃ m, W 0 m (upd H D (.lst []))) ∧ ∀ i m H, W i m H →
      (J.stop i H ∧ Q D H) ∨ (J.go i H ∧ ∃ Nx : Hp → Prop, (∀ H', Nx H' → ∃ m', m' < m ∧ W (i + 1) m' H') ∧ ∀ x H', J.yld i H x H' → g x (wipe σ vs) H' fun σ2 H2 => wipe σ2 vs = wipe σ vs ∧ tt σ2 H2 fun b H3 =>
        if b = true then te σ2 H3 fun y H4 => ∃ acc, H4 D = some (.lst acc) ∧ acc.length < sizeLine ∧ Nx (upd H4 D (.lst (acc ++ [y]))) else Nx H3) :=
  w_lcW w (IvP H M Jv Ys) (fun D H1 nD c _ => ⟨c.wide (by simp), jst _ _ _ D nD (c.wide (by simp)) j0, fun j y e => by simp at e⟩) (fun D i acc H1 _ _ q => hG H1 q.1) (fun D i acc x H1 H2 hi nD hD el iv y => hs D i acc x H1 H2 hi nD hD el iv iv.1 iv.2.1 y) (fun D acc H1 nD el hD ⟨c, j, q⟩ => hd D acc H1 nD c j el hD q)
section
variable {K : PySem.W.Frag} {σ : L2.St} {H : Hp} {te : TE} {tr : TA} {g : TG} {tt : TT} {vs : List Nat} {Q : VK} {a b : Addr} {xs ys : List V} {P : Prop} {RI : It → Hp → Prop} {D : Ends} {tb : TS} {wi : TI}
theorem w_lc (h : wi σ H fun J H1 => ∀ D, H1 D = none → ∃ W : Nat → Nat → Hp → Prop, (∃ m, W 0 m (upd H1 D (.lst []))) ∧ ∀ i m H, W i m H →
  (J.stop i H ∧ Q (.ref D) H) ∨ (J.go i H ∧ ∃ Nx : Hp → Prop, (∀ H', Nx H' → ∃ m', m' < m ∧ W (i + 1) m' H') ∧ ∀ x H', J.yld i H x H' → g x (wipe σ vs) H' fun σ2 H2 => wipe σ2 vs = wipe σ vs ∧ tt σ2 H2 fun b H3 =>
    if b = true then te σ2 H3 fun y H4 => ∃ acc, H4 D = some (.lst acc) ∧ acc.length < sizeLine ∧ Nx (upd H4 D (.lst (acc ++ [y]))) else Nx H3)) : tLc wi g tt te vs σ H Q := h
theorem w_for (h : wi σ H fun J H1 => ∃ W : Nat → Nat → L2.St → Hp → Prop, (∃ m, W 0 m σ H1) ∧ ∀ i m σ H, W i m σ H →
  (J.stop i H ∧ D.nx σ H) ∨ (J.go i H ∧ ∃ N : L2.St → Hp → Prop, (∀ σ' H', N σ' H' → ∃ m', m' < m ∧ W (i + 1) m' σ' H') ∧ ∀ x H', J.yld i H x H' → g x σ H' fun σ2 H2 => tb { D with nx := N, ct := N, bk := D.nx } σ2 H2)) : tFor wi g tb D σ H := h
theorem w_yes {QB : Bool → Hp → Prop} (h : QB true H) : tYes σ H QB := h
theorem w_wipe {σ2 : L2.St} (h : wipe σ2 vs = wipe σ vs) (q : P) : wipe σ2 vs = wipe σ vs ∧ P := ⟨h, q⟩
theorem w_iList (h : te σ H fun x H1 => ∃ a, x = .ref a ∧ (∃ xs, SqL K H1 a xs) ∧ RI (Itl K a) H1) : iList K te σ H RI := h
theorem w_iTup (h : te σ H fun x H1 => ∃ a, x = .ref a ∧ (∃ xs, SqT K H1 a xs) ∧ RI (Itt K a) H1) : iTup K te σ H RI := h
theorem d_iList {A : Addr → Prop} (h : SqL K H a xs) (q : A a) : ∃ a', V.ref a = .ref a' ∧ (∃ xs, SqL K H a' xs) ∧ A a' := ⟨a, rfl, ⟨xs, h⟩, q⟩
theorem d_iTup {A : Addr → Prop} (h : H a = some (.tup xs)) (q : A a) : ∃ a', V.ref a = .ref a' ∧ (∃ xs, SqT K H a' xs) ∧ A a' := ⟨a, rfl, ⟨xs, sqT h⟩, q⟩
theorem w_iStr (h : te σ H fun v H1 => ∃ x, v = .str x ∧ RI (Its x) H1) : iStr te σ H RI := h
theorem d_iStr {z : Str} {A : Str → Prop} (q : A z) : ∃ x, V.str z = .str x ∧ A x := ⟨z, rfl, q⟩
theorem w_iRng1 (h : tr σ H fun vs H1 => ∃ j : Int, vs = [.int j] ∧ -(2 ^ 62) ≤ j ∧ j < 2 ^ 62 ∧ RI (Itr 0 j.toNat) H1) : iRng1 tr σ H RI := h
theorem d_iRng1 {j : Int} {A : Int → Prop} (h1 : -(2 ^ 62) ≤ j) (h2 : j < 2 ^ 62) (q : A j) : ∃ j' : Int, [V.int j] = [.int j'] ∧ -(2 ^ 62) ≤ j' ∧ j' < 2 ^ 62 ∧ A j' := ⟨j, rfl, h1, h2, q⟩
theorem w_iRng2 (h : tr σ H fun vs H1 => ∃ i j : Int, vs = [.int i, .int j] ∧ (-(2 ^ 62) ≤ i ∧ i < 2 ^ 62 ∧ -(2 ^ 62) ≤ j ∧ j < 2 ^ 62) ∧ RI (Itr i (j - i).toNat) H1) : iRng2 tr σ H RI := h
theorem d_iRng2 {i j : Int} {A : Int → Int → Prop} (h0 : -(2 ^ 62) ≤ i) (h0' : i < 2 ^ 62) (h1 : -(2 ^ 62) ≤ j) (h2 : j < 2 ^ 62) (q : A i j) : ∃ i' j' : Int, [V.int i, V.int j] = [.int i', .int j'] ∧ (-(2 ^ 62) ≤ i' ∧ i' < 2 ^ 62 ∧ -(2 ^ 62) ≤ j' ∧ j' < 2 ^ 62) ∧ A i' j' := ⟨i, j, rfl, ⟨h0, h0', h1, h2⟩, q⟩
theorem w_iZip (h : tr σ H fun vs H1 => ∃ a b xs ys, vs = [.ref a, .ref b] ∧ SqL K H1 a xs ∧ SqL K H1 b ys ∧ RI (Itz K a b) H1) : iZip K tr σ H RI := h
theorem d_iZip {A : Addr → Addr → Prop} (h : SqL K H a xs) (h' : SqL K H b ys) (q : A a b) : ∃ a' b' xs ys, [V.ref a, V.ref b] = [.ref a', .ref b'] ∧ SqL K H a' xs ∧ SqL K H b' ys ∧ A a' b' := ⟨a, b, xs, ys, rfl, h, h', q⟩
theorem w_iEnum (h : tr σ H fun vs H1 => ∃ a xs, vs = [.ref a] ∧ SqL K H1 a xs ∧ RI (Ite K a) H1) : iEnum K tr σ H RI := h
theorem d_iEnum {A : Addr → Prop} (h : SqL K H a xs) (q : A a) : ∃ a' xs, [V.ref a] = [.ref a'] ∧ SqL K H a' xs ∧ A a' := ⟨a, xs, rfl, h, q⟩
end
end
section
def letters : Str := "abcdefghijklmnopqrstuvwxyz"
def isLow (c : Nat) : Bool := decide (c ∈ letters.cps.toList)
def dInt : PyData → Bool
  | .int _ => true
  | .bool _ => true
  | _ => false
def dBool : PyData → Bool
  | .bool _ => true
  | _ => false
def dStr : PyData → Bool
  | .str _ => true
  | _ => false
def dTup : PyData → Bool
  | .tuple _ => true
  | _ => false
def dLst : PyData → Bool
  | .list _ => true
  | _ => false
def isWhole : PyData → Bool
  | .int _ => true
  | _ => false
def nameS (x : Str) : Bool := decide (1 ≤ x.length) && decide (x.length ≤ 8) && x.cps.toList.all isLow
def isName : PyData → Bool
  | .str x => nameS x
  | _ => false
def partsOf (z : Str) : Option Nat := if z = "arg" then some 0 else if z = "cell" then some 1 else if z = "add" then some 2 else if z = "less" then some 2 else if z = "least" then some 2 else none
def isExpr : Nat → PyData → Bool
  | 0, _ => false
  | _ + 1, .int _ => true
  | n + 1, .tuple (.str z :: ds) => (match partsOf z with
    | some k => decide (ds.length = k) && ds.all (isExpr n)
    | none => false)
  | _, _ => false
def skipOk (bh : Int) : PyData → Bool
  | .int k => decide (1 ≤ k) && decide (k ≤ bh)
  | _ => false
def inNm (ns : List Str) : PyData → Bool
  | .str x => decide (x ∈ ns)
  | _ => false
def step3 (ns : List Str) (bh : Int) (z : Str) (a b : PyData) : Bool :=
  if z = "cell" then isExpr 5 a && isExpr 5 b
  else if z = "skip" then isExpr 5 a && skipOk bh b
  else if z = "give" then isName a && isExpr 5 b
  else if z = "fork" ∨ z = "call" then isName a && isExpr 5 b && inNm ns a
  else false
def stepBody (ns : List Str) (bh : Int) (z : Str) : List PyData → Bool
  | [a, b] => step3 ns bh z a b
  | _ => false
def isStep (ns : List Str) (bh : Int) : PyData → Bool
  | .tuple (.str z :: ds) => if z = "wait" then decide (ds.length = 0) else stepBody ns bh z ds
  | _ => false
def rowOk : PyData → Bool
  | .tuple [.str x, .list _] => nameS x
  | _ => false
def rowName : PyData → Str
  | .tuple (.str x :: _) => x
  | _ => ""
def rowSteps : PyData → List PyData
  | .tuple [_, .list ds] => ds
  | _ => []
def ltS (x y : Str) : Bool := decide (x.cps.toList < y.cps.toList)
def rising : List Str → Bool
  | x :: y :: r => ltS x y && rising (y :: r)
  | _ => true
def hasForm : PyData → Bool
  | .list rows => rows.all rowOk && rising (rows.map rowName)
  | _ => false
/-- the first wrong one of steps, from place k on -/
def wrongAt (names : List Str) : Nat → List PyData → Option Nat
  | _, [] => none
  | k, d :: ds => if isStep names (ds.length : Int) d = true then wrongAt names (k + 1) ds else some k
def wrongIn (names : List Str) : List PyData → Option (Str × Nat)
  | [] => none
  | r :: rs => match wrongAt names 0 (rowSteps r) with
    | some k => some (rowName r, k)
    | none => wrongIn names rs
def rowsOf : PyData → List PyData
  | .list rows => rows
  | _ => []
def firstWrong (d : PyData) : Option (Option (Str × Nat)) :=
  if hasForm d = true then (wrongIn ((rowsOf d).map rowName) (rowsOf d)).map some else some none
def tyN : PyData → String
  | .none => "NoneType"
  | .bool _ => "bool"
  | .int _ => "int"
  | .str _ => "str"
  | .list _ => "list"
  | .tuple _ => "tuple"
  | .dict _ => "dict"
section
variable {K : PySem.W.Frag} {S : Addr → Prop} {H : Hp} {v : V} {d : PyData} {Q : VK}
theorem isi_of {v : V} {a b : String} {r : Bool} (t : TyX K H v (.type a)) (h : kitB a b = some r) (q : Q (.bl r) H) : rIsi K [v, .ty b] H Q := ⟨v, .ty b, _, _, r, rfl, .ty b, t, kit_ty h, q⟩
theorem R.tyx (r : R S H v d) : TyX K H v (.type (tyN d)) := by
  cases r with
  | non => exact .base .non
  | bl b => exact .base (.bl b)
  | int i => exact .base (.int i)
  | str x => exact .base (.str x)
  | lst s e r => exact .base (.lst e)
  | tup e r => exact .base (.tup e)
  | dic s e => exact .base (.dK e)
theorem w_isInt (r : R S H v d) (q : Q (.bl (dInt d)) H) : rIsi K [v, .ty "int"] H Q := by
  have t := r.tyx (K := K)
  cases d with
  | none => exact isi_of t (show kitB "NoneType" "int" = some false by decide +kernel) q
  | bool b => exact isi_of t (show kitB "bool" "int" = some true by decide +kernel) q
  | int i => exact isi_of t (show kitB "int" "int" = some true by decide +kernel) q
  | str x => exact isi_of t (show kitB "str" "int" = some false by decide +kernel) q
  | list ds => exact isi_of t (show kitB "list" "int" = some false by decide +kernel) q
  | tuple ds => exact isi_of t (show kitB "tuple" "int" = some false by decide +kernel) q
  | dict ds => exact isi_of t (show kitB "dict" "int" = some false by decide +kernel) q
theorem w_isBool (r : R S H v d) (q : Q (.bl (dBool d)) H) : rIsi K [v, .ty "bool"] H Q := by
  have t := r.tyx (K := K)
  cases d with
  | none => exact isi_of t (show kitB "NoneType" "bool" = some false by decide +kernel) q
  | bool b => exact isi_of t (show kitB "bool" "bool" = some true by decide +kernel) q
  | int i => exact isi_of t (show kitB "int" "bool" = some false by decide +kernel) q
  | str x => exact isi_of t (show kitB "str" "bool" = some false by decide +kernel) q
  | list ds => exact isi_of t (show kitB "list" "bool" = some false by decide +kernel) q
  | tuple ds => exact isi_of t (show kitB "tuple" "bool" = some false by decide +kernel) q
  | dict ds => exact isi_of t (show kitB "dict" "bool" = some false by decide +kernel) q
theorem w_isStr (r : R S H v d) (q : Q (.bl (dStr d)) H) : rIsi K [v, .ty "str"] H Q := by
  have t := r.tyx (K := K)
  cases d with
  | none => exact isi_of t (show kitB "NoneType" "str" = some false by decide +kernel) q
  | bool b => exact isi_of t (show kitB "bool" "str" = some false by decide +kernel) q
  | int i => exact isi_of t (show kitB "int" "str" = some false by decide +kernel) q
  | str x => exact isi_of t (show kitB "str" "str" = some true by decide +kernel) q
  | list ds => exact isi_of t (show kitB "list" "str" = some false by decide +kernel) q
  | tuple ds => exact isi_of t (show kitB "tuple" "str" = some false by decide +kernel) q
  | dict ds => exact isi_of t (show kitB "dict" "str" = some false by decide +kernel) q
theorem w_isTup (r : R S H v d) (q : Q (.bl (dTup d)) H) : rIsi K [v, .ty "tuple"] H Q := by
  have t := r.tyx (K := K)
  cases d with
  | none => exact isi_of t (show kitB "NoneType" "tuple" = some false by decide +kernel) q
  | bool b => exact isi_of t (show kitB "bool" "tuple" = some false by decide +kernel) q
  | int i => exact isi_of t (show kitB "int" "tuple" = some false by decide +kernel) q
  | str x => exact isi_of t (show kitB "str" "tuple" = some false by decide +kernel) q
  | list ds => exact isi_of t (show kitB "list" "tuple" = some false by decide +kernel) q
  | tuple ds => exact isi_of t (show kitB "tuple" "tuple" = some true by decide +kernel) q
  | dict ds => exact isi_of t (show kitB "dict" "tuple" = some false by decide +kernel) q
theorem w_isLst (r : R S H v d) (q : Q (.bl (dLst d)) H) : rIsi K [v, .ty "list"] H Q := by
  have t := r.tyx (K := K)
  cases d with
  | none => exact isi_of t (show kitB "NoneType" "list" = some false by decide +kernel) q
  | bool b => exact isi_of t (show kitB "bool" "list" = some false by decide +kernel) q
  | int i => exact isi_of t (show kitB "int" "list" = some false by decide +kernel) q
  | str x => exact isi_of t (show kitB "str" "list" = some false by decide +kernel) q
  | list ds => exact isi_of t (show kitB "list" "list" = some true by decide +kernel) q
  | tuple ds => exact isi_of t (show kitB "tuple" "list" = some false by decide +kernel) q
  | dict ds => exact isi_of t (show kitB "dict" "list" = some false by decide +kernel) q
end
structure Parts (K : PySem.W.Frag) (w : World) (dP : Addr) : Prop where
  kd : ∃ es n, KDict K w dP es n
  get : ∀ z k, partsOf z = some k → ∃ u, PySem.W.nsIn K dP z = some (some u) ∧ RelV (.int (k : Nat)) u
  no : ∀ z, partsOf z = none → PySem.W.nsIn K dP z = some none
section
variable {K : PySem.W.Frag} {w : World} {dP : Addr} {H : Hp} {Q : VK} {z : Str}
theorem w_notInP (T : Parts K w dP) (q : Q (.bl (!(partsOf z).isSome)) H) : oNotInKd K dP (.str z) (.ref dP) H Q := by
  cases e : partsOf z with
  | none => exact ⟨z, none, rfl, rfl, T.no z e, by rw [e] at q; exact q⟩
  | some k =>
    obtain ⟨u, e1, _⟩ := T.get z k e
    exact ⟨z, some u, rfl, rfl, e1, by rw [e] at q; exact q⟩
theorem w_ixP {k : Nat} (T : Parts K w dP) (e : partsOf z = some k) (q : Q (.int (k : Nat)) H) : rIxD K w (.ref dP) (.str z) H Q := by
  obtain ⟨u, e1, e2⟩ := T.get z k e
  obtain ⟨es, n, kd⟩ := T.kd
  exact ⟨dP, z, _, rfl, rfl, ⟨es, n, u, kd.at_, kd.lit, e1, e2⟩, q⟩
end
theorem cut1 (xs : List V) : cutV xs (some 1) none = xs.drop 1 := by
  unfold cutV
  rw [show HT.sIx xs.length 0 (some 1) = min 1 xs.length from HT.sIx_nat xs.length 0 1, HT.sIx_none]
  cases xs with
  | nil => rfl
  | cons x r =>
    rw [show min 1 (x :: r).length = 1 by
      rw [List.length_cons]
      omega]
    show (List.take ((x :: r).length - 1) r) = r
    rw [List.length_cons, Nat.add_sub_cancel]
    exact List.take_length
theorem w_slA {K : PySem.W.Frag} {p : Addr} {xs : List V} {lo hi : Option Int} {H : Hp} {Q : VK} (h : H p = some (.tup xs)) (q : ∀ p' H2, Chg [] H H2 → H2 p' = some (.tup (cutV xs lo hi)) → Q (.ref p') H2) : rSlA K (.ref p) lo hi H Q := by
  refine ⟨p, xs, rfl, sqT h, fun e => ?_, fun _ => d_new fun p' H2 _ c h2 => q p' H2 c h2⟩
  refine q p H .refl ?_
  have : cutV xs lo hi = xs := by
    unfold cutV
    rw [e.1, e.2]
    simp
  rw [this]
  exact h
theorem all_bl {bs : List Bool} {acc : List V} {n : Nat} (hl : acc.length = n) (hb : bs.length = n) (h : ∀ (i : Nat) (y : V), acc[i]? = some y → ∃ b : Bool, bs[i]? = some b ∧ y = .bl b) : acc = bs.map V.bl := by
  apply List.ext_getElem?
  intro i
  rw [List.getElem?_map]
  by_cases hi : i < n
  · have e1 : acc[i]? = some acc[i] := List.getElem?_eq_getElem (by omega)
    obtain ⟨b, e2, e3⟩ := h i _ e1
    rw [e1, e2, e3]
    rfl
  · rw [List.getElem?_eq_none (by omega), List.getElem?_eq_none (by omega)]
    rfl
end
section
/-- a def that may be called by its name, with these defaults behind -/
structure Cal (P : Program) (w : World) (K : PySem.W.Frag) (mg : Str → Option Value) (base : Heap) (k : Nat) (x : Str) (sp : Sp) (dvs : List V) : Prop where
  ex : ∃ (f : Addr) (fd : FuncData) (ps : List Str) (ds : List Value), FnOk P w K mg base CX0 k f fd ps sp ∧ mg x = some (.ref f) ∧ PySem.W.keepIn K (.ref f) = true ∧ Binds K fd ps ds ∧ Vals dvs ds
section
variable {X : Cx} {k j n mm : Nat} {x m : Str} {sp : Sp} {dvs : List V} {ks : List Str} {gV : List V → List V → List V} {p pos apos : Pos} {e o : Expr} {es : List Expr} {kws : List Keyword} {ta : TE} {t tk : TA}
theorem pe_c (c : Cal X.prog X.w X.K X.mg X.base k x sp dvs) (hr : Room j X.A) (hk : k ≤ j) (hg : Gl X x) (ha : PA X (e :: es) t)
    (hdb : (x == ("__debug__" : Str)) = false := by decide) (he : starEach (e :: es) X.env = (false, eval e X.env) :: starEach es X.env := by rfl) (hpl : (backTo pos (starEach es X.env)).any (·.1) = false := by rfl) :
    PE X (.Call (.Name x p) (e :: es) [] pos) (tCall sp dvs E0 t) := by
  obtain ⟨f, fd, ps, ds, F, hm, kp, b, d⟩ := c.ex
  exact pe_call F (hr.mono hk) hg hm kp b d pass0 ha hdb he hpl
theorem w_callN {σ : L2.St} {H : Hp} {Q : VK} {E : XK} {m : Nat} (h : t σ H fun vs H1 => tk σ H1 fun zs H2 => vs.length = n ∧ zs.length = m ∧ sp (gV vs zs) H2 Q E) : tCallN n m sp gV E t tk σ H Q := h
end
section
variable {P : Program} {w : World} {K : PySem.W.Frag} {mg : Str → Option Value} {base : Heap} {x : Str} {st : Stmt} {f : Addr} {fd : FuncData} {sp : Sp} {k : Nat}
/-- a def of the top as it stands, dvs its defaults -/
abbrev FnP (K : PySem.W.Frag) (x : Str) (st : Stmt) (dvs : List V) (f : Addr) (fd : FuncData) : Prop := FunD K x x (defArgs st) (defBody st) (defScope st) dvs [] f fd
theorem FnP.go {N ps : List Str} {dvs : List V} (F : FnP K x st dvs f fd) (S : FnScope N ps (defScope st)) (len : ∀ vs H Q E, sp vs H Q E → vs.length = ps.length) (t : TS)
    (pure : ∀ (vs : List V) (H : Hp) (Q : VK) (E : XK), sp vs H Q E → t { nx := fun _ H' => Q .non H', rt := Q } (start N vs) H)
    (hbody : ∀ (cdv : Value) (A : Around) (outer : List Env) (s : Shared) (H : Hp) (E : XK), Room k (A.deeper (envOfC x (defScope st) s.heap.objs.size f cdv)) →
      PSs (cxOf CX0 P w K mg base N x (defScope st) f cdv A outer s H E).nox (defBody st) t) : FnOk P w K mg base CX0 (k + 1) f fd ps sp :=
  F.ok S len fun cdv A outer s H vs Q E hr h => ⟨t, PSs.nox (hbody cdv A outer s H E hr), pure vs H Q E h⟩
theorem FnP.cal {ps : List Str} (F : FnP K x st [] f fd) (ok : FnOk P w K mg base CX0 k f fd ps sp) (g : mg x = some (.ref f))
    (h : ∀ (kV doc pm : Value) (an : Option Addr) (cdv ct : Value) (us : List Value), us.length = ps.length → bindArgs (PySem.W.fnOf x x (defArgs st) (defBody st) (defScope st) .none kV doc pm an cdv ct) ⟨us, []⟩ = pure (ps.zip us)) : Cal P w K mg base k x sp [] :=
  ⟨f, fd, ps, [], ok, g, F.kp, F.bindsN h, .nil⟩
end
end
section
theorem exL {α : Type} {P : α → Prop} {B : Prop} (h : ∀ x, P x → B) : (∃ x, P x) → B := fun ⟨x, hx⟩ => h x hx
theorem pe_gc {X : Cx} {x : Str} {v : V} {pos : Pos} (hg : Gl X x) (h : ∃ u, X.mg x = some u ∧ RelV v u) (hd : (x == ("__debug__" : Str)) = false := by decide) : PE X (.Name x pos) (tC v) := by
  obtain ⟨u, e, r⟩ := h
  exact pe_glob hg e r hd
theorem dic_lookup {K : PySem.W.Frag} {a : Addr} {l : List (Option (Str × Int))} (h : He.dicW K a = some l) : ∃ o es n, K.lookup a = some o ∧ o.data = .dict es n ∧ es.toList.map He.keyOf = l := by
  unfold He.dicW at h
  cases q : K.lookup a with
  | none =>
    rw [q] at h
    cases h
  | some o =>
    obtain ⟨oc, od, dt, osl⟩ := o
    rw [q] at h
    cases oc with
    | type c =>
      cases od with
      | none =>
        cases dt with
        | dict es n =>
          have h1 : (match decide (c = "dict") && (osl.isEmpty && !(a == sysModules)) with
            | true => some (es.toList.map He.keyOf)
            | false => none) = some l := h
          cases z : decide (c = "dict") && (osl.isEmpty && !(a == sysModules)) with
          | false =>
            rw [z] at h1
            cases h1
          | true =>
            rw [z] at h1
            exact ⟨_, es, n, rfl, rfl, Option.some.inj h1⟩
        | _ => cases h
      | some b => cases dt <;> cases h
    | _ => cases od <;> cases dt <;> cases h
theorem keyOf_str {e : DictEntry} {k : Str} {i : Int} (h : He.keyOf e = some (k, i)) : ∃ t, e.key = .str k t := by
  unfold He.keyOf at h
  split at h
  · rename_i x t q
    have h4 := Option.some.inj h
    obtain ⟨h5, h6⟩ := Prod.mk.inj h4
    exact ⟨t, by rw [q, h5]⟩
  · cases h
theorem miss {K : PySem.W.Frag} {a : Addr} {P : Params} {ks : List Str} {z : Str} (h : He.dicW K a = some (He.keysIn P ks)) (hz : z ∉ ks) : PySem.W.nsIn K a z = some none := by
  obtain ⟨o, es, n, e1, e2, e3⟩ := dic_lookup h
  have key : ∀ e ∈ es.toList, ∃ k t, e.key = .str k t ∧ k ∈ ks := fun e he => by
    have : He.keyOf e ∈ He.keysIn P ks := by rw [← e3]; exact List.mem_map.mpr ⟨e, he, rfl⟩
    obtain ⟨k, hk, ek⟩ := List.mem_map.mp this
    obtain ⟨t, et⟩ := keyOf_str ek.symm
    exact ⟨k, t, et, hk⟩
  unfold PySem.W.nsIn
  rw [e1]
  obtain ⟨oc, od, dt, osl⟩ := o
  have e2 : dt = .dict es n := e2
  subst e2
  have f1 : es.toList.find? (·.key.isStr z) = none := by
    rw [List.find?_eq_none]
    intro e he
    obtain ⟨k, t, ek, hk⟩ := key e he
    rw [ek]
    intro hh
    have : k = z := by
      have := PySem.W.isStr_of z (Value.str k t)
      rw [this] at hh
      obtain ⟨t', e'⟩ := Value.isStrOf_shape (x := z) (v := Value.str k t) hh
      injection e'
    rw [this] at hk
    exact hz hk
  have f2 : es.toList.any (·.refKey) = false := by
    rw [List.any_eq_false]
    intro e he
    obtain ⟨k, t, ek, hk⟩ := key e he
    unfold DictEntry.refKey
    rw [ek]
    exact Bool.false_ne_true
  show (match es.toList.find? (·.key.isStr z) with
      | some e => some (some e.val)
      | none => if es.toList.any (·.refKey) then none else some none) = some none
  rw [f1]
  show (if es.toList.any (·.refKey) then none else some none) = some none
  rw [f2]
  rfl
def partK : List Str := ["arg", "cell", "add", "less", "least"]
def partV : List (Str × He.Dv) := [("arg", .int 0), ("cell", .int 1), ("add", .int 2), ("less", .int 2), ("least", .int 2)]
theorem parts_of {K : PySem.W.Frag} {w : World} {a : Addr} (h : He.dicW K a = some (He.keysIn w.params partK)) (hv : He.valsB K a partV = true) : Parts K w a := by
  refine ⟨He.dicW_ok h, fun z k e => ?_, fun z e => ?_⟩
  · unfold partsOf at e
    split at e
    · next hz => cases e; subst hz; exact He.valsB_ok hv (q := ("arg", .int 0)) (by simp [partV])
    split at e
    · next hz => cases e; subst hz; exact He.valsB_ok hv (q := ("cell", .int 1)) (by simp [partV])
    split at e
    · next hz => cases e; subst hz; exact He.valsB_ok hv (q := ("add", .int 2)) (by simp [partV])
    split at e
    · next hz => cases e; subst hz; exact He.valsB_ok hv (q := ("less", .int 2)) (by simp [partV])
    split at e
    · next hz => cases e; subst hz; exact He.valsB_ok hv (q := ("least", .int 2)) (by simp [partV])
    · cases e
  · refine miss h fun hm => ?_
    unfold partK at hm
    simp only [List.mem_cons, List.not_mem_nil, or_false] at hm
    rcases hm with hm | hm | hm | hm | hm <;> (subst hm; revert e; decide +kernel)
section
variable {P : Program} {w : World} {K : PySem.W.Frag} {mg : Str → Option Value} {base : Heap} {x : Str} {st : Stmt} {f : Addr} {fd : FuncData} {sp : Sp} {k : Nat} {ps : List Str} {dvs : List V}
/-- a call that leaves out the defaults from the j-th on (n values are written) -/
theorem FnP.cald (n j : Nat) (F : FnP K x st dvs f fd) (ok : FnOk P w K mg base CX0 k f fd ps sp) (g : mg x = some (.ref f)) (hd : dvs ≠ []) (hn : n + (dvs.length - j) = ps.length)
    (h : ∀ (T : Addr) (kV doc pm : Value) (an : Option Addr) (cdv ct : Value) (us its : List Value), us.length = n → its.length = dvs.length →
      ∃ k, bindArgs (PySem.W.fnOf x x (defArgs st) (defBody st) (defScope st) (.ref T) kV doc pm an cdv ct) ⟨us, []⟩ = seqItems? (.ref T) >>= k ∧ k (some its.toArray) = pure (ps.zip (us ++ its.drop j))) : Cal P w K mg base k x sp (dvs.drop j) := by
  obtain ⟨ds, v, b⟩ := F.binds1 n j hd hn h
  exact ⟨f, fd, ps, ds, ok, g, F.kp, b, v⟩
end
end
section
def ExH (cls : Value) (d : Option Addr) (a : Addr) : HO := .ext fun h => ∃ (oe : Obj) (vs : Array Value), h.get? a = some oe ∧ Zc cls d oe ∧ oe.data = .fields vs
theorem exH_ok {P : Program} {w : World} {H : Hp} {h : Heap} {a : Addr} {cls : Value} {d : Option Addr} {oe : Obj} {vs : Array Value} (e : h.get? a = some oe) (z : Zc cls d oe) (hd : oe.data = .fields vs) : ObjOk P w H h a (ExH cls d a) :=
  ⟨⟨oe, vs, e, z, hd⟩, ⟨oe, e⟩, fun _ _ ⟨o, v, q, r⟩ k => ⟨o, v, k o q, r⟩⟩
theorem exH_at {P : Program} {w : World} {H : Hp} {h : Heap} {a : Addr} {cls : Value} {d : Option Addr} (hok : HOk P w H h) (he : H a = some (ExH cls d a)) : ∃ (oe : Obj) (vs : Array Value), h.get? a = some oe ∧ Zc cls d oe ∧ oe.data = .fields vs := by
  have x : ObjOk P w H h a (.ext fun h => ∃ (oe : Obj) (vs : Array Value), h.get? a = some oe ∧ Zc cls d oe ∧ oe.data = .fields vs) := hok a _ he
  exact x.1
section
variable {X : Cx} {pins : List (Addr × Obj)} {σ : L2.St} {H : Hp} {s : Shared}
/-- an exception's object, till now a pin, is tracked -/
theorem Inv.track {a : Addr} {oe : Obj} {vs : Array Value} {cls : Value} {d : Option Addr} (I : Inv X ((a, oe) :: pins) σ H s) (hz : Zc cls d oe) (hd : oe.data = .fields vs) (h0 : X.s_0.heap.get? a = none)
    (hp : ∀ p ∈ X.pn ++ pins, p.1 ≠ a) : Inv X pins σ (upd H a (ExH cls d a)) s := by
  obtain ⟨ha, na, nL, nF, _⟩ := I.pin (a, oe) (by simp)
  have ne0 : ∀ b o, X.s_0.heap.get? b = some o → b ≠ a := fun b o e z => by
    rw [z, h0] at e
    cases e
  have neS : ∀ {b : Addr} {o : HO}, H b = some o → b ≠ a := fun {b o} e => ne_of_none e na
  refine ⟨I.ok, I.os, I.bare, ⟨I.base.keep, I.base.slot, fun b o e n hq => ?_, I.base.there, fun b xs e => ?_, fun b o u e => ?_, fun b ps e => ?_⟩, I.loc, I.cell, ?_, fun x c e => ?_, fun p hm => ?_, fun b u e => ?_, I.len⟩
  · rw [upd_ne (ne0 b o e)]
    exact I.base.free b o e n hq
  · have q := I.base.tups b xs e
    rw [upd_ne (neS q)]
    exact q
  · have q := I.base.frzs b o u e
    rw [upd_ne (neS q)]
    exact q
  · obtain ⟨m, q⟩ := I.base.tbls b ps e
    exact ⟨m, by rw [upd_ne (neS q)]; exact q⟩
  · rw [upd_ne (Ne.symm nL)]
    exact I.free
  · have hc : c ≠ a := fun z => by
      obtain ⟨v, o, ho, hv⟩ := I.cell x c e
      rw [z, ha] at ho
      cases ho
      rw [hd] at hv
      cases hv
    rw [upd_ne hc]
    exact I.freeC x c e
  · obtain ⟨e, n, ne, nf, dd⟩ := I.pin p (by
      rcases List.mem_append.mp hm with z | z
      · exact List.mem_append_left _ z
      · exact List.mem_append_right _ (List.mem_cons_of_mem _ z))
    exact ⟨e, by rw [upd_ne (hp p hm)]; exact n, ne, nf, dd⟩
  · by_cases hb : b = a
    · subst hb
      rw [upd_same] at e
      cases e
      exact exH_ok ha hz hd
    · rw [upd_ne hb] at e
      exact (I.hok b u e).stay (fun c v _ q => q) (fun c q => by rw [upd_ne (neS q)]; exact q) fun c xs q => by rw [upd_ne (neS q)]; exact q
theorem Inv.unsuiteP {a : Addr} {oe : Obj} (I : Inv (X.suite a ((a, oe) :: (X.pn ++ pins))) [] σ H s) (ok : X.Ok) : Inv X ((a, oe) :: pins) σ H s :=
  ⟨ok, I.os, I.bare, I.base, I.loc, I.cell, I.free, I.freeC, fun p hp => I.pin p (by
    rw [List.append_nil]
    rcases List.mem_append.mp hp with z | z
    · exact List.mem_cons_of_mem _ (List.mem_append_left _ z)
    · rcases List.mem_cons.mp z with z | z
      · rw [z]; exact List.mem_cons_self
      · exact List.mem_cons_of_mem _ (List.mem_append_right _ z)), I.hok, I.len⟩
end
/-- as wAs, and behind the suite the exception is tracked -/
def wHold (K : PySem.W.Frag) (c : Value) (i : Nat) (ts : Addr → Value → Option Addr → TS) (Wout : WX) (D : Ends) : WX := fun cls d σ H =>
  ∃ b, PySem.W.exmOne K cls c = some b ∧ (b = true → ∀ a, H a = none → ts a cls d { nx := fun σ' H' => H' a = none → D.nx (σ'.set i none) (upd H' a (ExH cls d a)), rt := D.rt, bk := fun σ' H' => D.bk (σ'.set i none) H', ct := fun σ' H' => D.ct (σ'.set i none) H' } (σ.set i (some (.ref a))) H) ∧
    (b = false → Wout cls d σ H)
/-- try: .. except c as n: .. -/
def tTryH (K : PySem.W.Frag) (c : Value) (i : Nat) (tb : WX → TS) (ts : Addr → Value → Option Addr → TS) (Wout : WX) : TS := fun D σ H => tb (wHold K c i ts Wout D) D σ H
theorem w_tryH {K : PySem.W.Frag} {c : Value} {i : Nat} {tb : WX → TS} {ts : Addr → Value → Option Addr → TS} {Wout : WX} {D : Ends} {σ : L2.St} {H : Hp} (h : tb (wHold K c i ts Wout D) D σ H) : tTryH K c i tb ts Wout D σ H := h
section
variable {X : Cx} {x n : Str} {c : Value} {i : Nat} {body suite : List Stmt} {b₀ : Stmt} {np pos pos' : Pos} {tb : WX → TS} {ts : Addr → Value → Option Addr → TS} {Wout : WX}
theorem ps_try_hold (hs : X.stack = X.env :: X.outer) (hf : X.env.frame = some X.env.locals) (hex : X.ex = []) (hN : X.N.Nodup) (hi : X.N[i]? = some n) (hln : X.env.kindOf n = some .local) (hc : Names X x c) (tk : Takes X Wout)
    (hb : ∀ (W : WX) (pn : List (Addr × Obj)) (xe : Value → Shared → Prop), Takes (X.tr pn xe) W → PassesOwn (model X.prog X.w) X.A X.env xe → PSs (X.tr pn xe) body (tb W))
    (hsu : ∀ (a : Addr) (oe : Obj) (cls : Value) (d : Option Addr) (pn : List (Addr × Obj)), Zc cls d oe → (∃ vs, oe.data = .fields vs) → PSs (X.suite a ((a, oe) :: pn)) (b₀ :: suite) (ts a cls d)) :
    PS X (.Try body [.ExceptHandler (some (.Name x np)) (some n) (b₀ :: suite) pos'] [] [] pos) (tTryH X.K c i tb ts Wout) := by
  refine ⟨fun pins s σ H D I h => ?_⟩
  have ok := I.ok
  have hfr : X.A.frames = some (X.env :: X.outer) := by rw [ok.frames, hs]
  have hloc : Loc X.env.scope n := .inl hln
  refine wpAny_Try_except ?_
  refine wpAny_mono ((hb (wHold X.K c i ts Wout D) (X.pn ++ pins) (fun e s₁ => wpAny (model X.prog X.w) X.A (noteFrame e X.env) (fun _ s₂ => wpAny (model X.prog X.w) X.A (setFlight e none) (fun _ s₃ =>
    wpAny (model X.prog X.w) X.A (handleBy e X.env [.ExceptHandler (some (.Name x np)) (some n) (b₀ :: suite) pos']) (SP X pins D) X.xe s₃) X.xe s₂) X.xe s₁) (fun u s' xx => ?_) PassesOwn.looking).run [] s σ H D (I.toTry _) h) (fun f s1 hsp => ?_) (fun e s1 he => he)
  · -- the catch
    obtain ⟨a, B, sI, pins', σ', H', cls, d, rfl, J', nb, up, sky, na, os, ag, b, hb1, hyes, hno⟩ := xx
    have J : Inv X pins σ' H' sI := J'.ofTry ok
    have sky' : Sky B (X.env :: X.outer) a (Zc cls d) X.env.locals s'.heap := by rw [← hs]; exact sky
    show wpAny (model X.prog X.w) X.A (noteFrame (.ref a) X.env) _ _ _
    refine Sky.land Zc.steady hfr hf sky' fun h3 fl3 up3 => ?_
    have J3 : Inv X pins σ' H' { s' with heap := h3 } := J.landed nb fl3.1 (up.trans up3) os ag
    obtain ⟨oe3, vs3, he3, hz3, hd3⟩ := fl3.there
    have notFr : ∀ {h : Heap} {o : Obj} {vs : Array Value}, h.FunFrames B (X.env :: X.outer) → h.get? a = some o → o.data = .fields vs → a ∉ frs (X.env :: X.outer) := fun {h o vs} ff e dd hm => by
      obtain ⟨_, o', e', hnf⟩ := ff.mem hm
      rw [e] at e'; cases e'
      exact hnf _ dd
    have nfr := notFr fl3.2.2.1 he3 hd3
    have nL : a ≠ X.env.locals := fun z => nfr (List.mem_filterMap.mpr ⟨X.env, List.mem_cons_self, by rw [hf, z]⟩)
    have nF : a ∉ X.fs := fun hm => by
      obtain ⟨e, he, q⟩ := List.mem_filterMap.mp hm
      exact nfr (List.mem_filterMap.mpr ⟨e, List.mem_cons_of_mem _ he, q⟩)
    have nI : sI.heap.get? a = none := by
      cases q : sI.heap.get? a with
      | none => rfl
      | some o =>
        have z := nb a o q (by rw [hs]; exact nfr)
        have y : B.get? a = none := fl3.2.1
        rw [y] at z
        cases z
    have n0 : X.s_0.heap.get? a = none := by
      cases q : X.s_0.heap.get? a with
      | none => rfl
      | some o =>
        obtain ⟨o', z⟩ := J.base.there a o q (by rw [hex]; exact fun z => nomatch z)
        rw [nI] at z
        cases z
    have npin : ∀ p ∈ X.pn ++ pins, p.1 ≠ a := fun p hp z => by
      have y := (J.pin p hp).1
      rw [z, nI] at y
      cases y
    have S3 := J3.suite he3 hd3 na nL nF
    refine wpAny_handleBy_cons (codeAny_handlers_test ?_) (by intro q; cases q)
    have LT : PySem.W.Looks (model X.prog X.w) h3 (typeOf (.ref a)) cls := fun A Q E s k q => wpAny_typeOf_ref (k _ _ he3) (by rw [hz3.1]; exact q)
    have LM := PySem.W.exm_one (M := model X.prog X.w) (J3.kIn) LT hb1
    have test : ∀ {Q : Value → Shared → Prop} {E : Value → Shared → Prop}, Q c { s' with heap := h3 } → wpAny (model X.prog X.w) (X.A.mark (some (.ref a))) (eval (.Name x np) X.env) Q E { s' with heap := h3 } := fun {Q E} q => by
      obtain ⟨hg, hdbg, hm | ⟨hm, hv, hnn⟩⟩ := hc
      · exact ld_glob (X := X.suite a ((a, oe3) :: (X.pn ++ pins))) S3 hg hm q hdbg
      · exact ld_blt (X := X.suite a ((a, oe3) :: (X.pn ++ pins))) S3 hg hm hv q hnn hdbg
    refine test (LM.here ?_)
    cases b with
    | true =>
      refine codeAny_handlers_suite_as ?_
      refine HandSPX.lands_againZ fl3 fun h4 fl4 up4 => ?_
      have J4 : Inv X pins σ' H' { s' with heap := h4 } := J.landed nb fl4.1 ((up.trans up3).trans up4) os ag
      obtain ⟨oe4, vs4, he4, hz4, hd4⟩ := fl4.there
      have S4 := J4.suite he4 hd4 na nL nF
      refine store_ok (X := X.suite a ((a, oe4) :: (X.pn ++ pins))) (v := .ref a) S4 hN hi hloc rfl (fun s5 S5 => ?_) (.inr hln)
      refine wpAny_mono ((hsu a oe4 cls d (X.pn ++ pins) hz4 ⟨_, hd4⟩).run [] s5 _ H' _ S5 (hyes rfl a na)) (fun f s6 hsp => ?_) (fun _ _ z => False.elim z)
      have end_ : ∀ {σ6 : L2.St} {H6 : Hp} {Q : Shared → Prop}, Inv (X.suite a ((a, oe4) :: (X.pn ++ pins))) [] σ6 H6 s6 → (∀ s7, Inv X pins (σ6.set i none) H6 s7 → Q s7) →
          wpAny (model X.prog X.w) X.A (do bindName X.env n .none; unbindBehindTheSuite X.env n pos') (fun _ s7 => Q s7) X.xe s6 := fun {σ6 H6 Q} S6 hq => gone_ok (S6.unsuite ok) hN hi hln hq
      cases f with
      | next =>
        obtain ⟨σ6, H6, S6, q6⟩ := hsp
        have n6 : H6 a = none := (S6.pin (a, oe4) (by simp)).2.1
        exact gone_ok (Inv.unsuiteP S6 ok) hN hi hln fun s7 J7 => ⟨_, _, Inv.track J7 hz4 hd4 n0 npin, q6 n6⟩
      | brk =>
        obtain ⟨σ6, H6, S6, q6⟩ := hsp
        exact end_ S6 fun s7 J7 => ⟨_, _, J7, q6⟩
      | cont =>
        obtain ⟨σ6, H6, S6, q6⟩ := hsp
        exact end_ S6 fun s7 J7 => ⟨_, _, J7, q6⟩
      | ret u =>
        obtain ⟨v6, σ6, H6, S6, r6, q6⟩ := hsp
        exact end_ S6 fun s7 J7 => ⟨_, _, _, J7, r6, q6⟩
    | false =>
      show wpAny _ X.A (handleBy (.ref a) X.env []) _ _ _
      refine wpAny_handleBy_nil ?_
      obtain ⟨k1, k2, k3, oe, vs, T, oT, ts', he, hz, hd, h1, hr⟩ := id fl3
      unfold PySem.passOn
      refine wpAny_bind (wpAny_field he hd h1 ?_)
      rw [if_neg (show ¬ ((Value.ref T == Value.none) = true) from by simp)]
      have fin : wpAny (model X.prog X.w) X.A (setFlight (.ref a) X.env.frame) (fun _ s4 => wpAny (model X.prog X.w) X.A (throw (.ref a) : Sem Flow) (SP X pins D) X.xe s4) X.xe { s' with heap := h3 } := by
        rw [hf]
        refine HandSPX.setFlight_upZ fl3 fun h4 hh4 up4 => wpAny_throw (tk _ _ ?_)
        exact ⟨a, B, sI, pins, σ', H', cls, d, rfl, J, nb, (up.trans up3).trans up4, .inr (.inr (by rw [hs]; exact hh4)), na, os, ag, hno rfl⟩
      first
        | exact wpAny_bind (wpAny_pure (wpAny_bind fin))
        | exact wpAny_bind fin
  · cases f with
    | next =>
      obtain ⟨σ', H', J', q⟩ := hsp
      exact wpAny_execs_nil ⟨σ', H', J'.ofTry ok, q⟩
    | brk =>
      obtain ⟨σ', H', J', q⟩ := hsp
      exact ⟨σ', H', J'.ofTry ok, q⟩
    | cont =>
      obtain ⟨σ', H', J', q⟩ := hsp
      exact ⟨σ', H', J'.ofTry ok, q⟩
    | ret u =>
      obtain ⟨v, σ', H', J', r, q⟩ := hsp
      exact ⟨v, σ', H', J'.ofTry ok, r, q⟩
end
section
variable {X : Cx}
/-- e.f, e held -/
def tXh (K : PySem.W.Frag) (f : Str) (te : TE) : TE := fun σ H Q => te σ H fun x H1 => ∃ (a C dd : Addr) (fs : List (Str × V)) (v : V), x = .ref a ∧ H1 a = some (ExH (.ref C) (some dd) a) ∧ XfC K C ∧ PySem.W.findIn K (.ref C) f = some none ∧ H1 dd = some (.xd fs) ∧ fs.lookup f = some v ∧ Q v H1
theorem pe_xh {e : Expr} {te : TE} {pos : Pos} {n : Str} (he : PE X e te) (hb : attributeBase e n X.env (eval e X.env) = eval e X.env := by rfl) : PE X (.Attribute e n pos) (tXh X.K n te) := by
  refine ⟨fun pins s σ H Q I h => ?_⟩
  refine attr_of hb (thn (he.run pins s σ H _ I h) fun u s1 hh => ?_)
  obtain ⟨x, H1, I1, rx, a, C, dd, fs, v, ex, ea, T, hno, ed, l, q⟩ := hh
  subst ex
  obtain rfl : u = Value.ref a := rx
  obtain ⟨oe, vs, ha, hz, hd⟩ := exH_at I1.hok ea
  have hx : ObjOk X.prog X.w H1 s1.heap dd (.xd fs) := I1.hok dd _ ed
  obtain ⟨mA, hns, hr⟩ := hx
  obtain ⟨od, ho, hl⟩ := lookIn_ns hns
  obtain ⟨u, hu, ru⟩ := RelO.some_of (v := v) (o := mA n) (by rw [← l]; exact hr n)
  have J : PySem.W.InstAt s1.heap a oe C (some od) := ⟨ha, hz.1, by unfold PySem.W.notCls; rw [hd] <;> rfl, by rw [hz.2]; exact ho⟩
  exact HandSPX.exc_get I1.kIn J T.ga T.gg T.exC (PySem.W.findObj_own T.hdC hno rfl (by rw [hl, hu])) (handed_of ru) ⟨v, H1, I1.tok _, ru, q⟩
end
theorem w_xh {K : PySem.W.Frag} {f : Str} {σ : L2.St} {H : Hp} {Q : VK} {i : Nat} {a C dd : Addr} {fs : List (Str × V)} {v : V} (hσ : σ[i]? = some (some (.ref a))) (ea : H a = some (ExH (.ref C) (some dd) a)) (T : XfC K C) (no : PySem.W.findIn K (.ref C) f = some none) (ed : H dd = some (.xd fs)) (l : fs.lookup f = some v) (q : Q v H) : tXh K f (tVar i) σ H Q :=
  ⟨_, hσ, a, C, dd, fs, v, rfl, ea, T, no, ed, l, q⟩
section
variable {X : Cx} {pins : List (Addr × Obj)} {σ : L2.St} {H : Hp} {s : Shared}
/-- isinstance(e, c), e held, its dict's fields fs -/
def rIsH (K : PySem.W.Frag) : List V → Hp → VK → Prop := fun xs H Q => ∃ (a C dd : Addr) (fs : List (Str × V)) (c : V) (u : Value) (b : Bool), xs = [.ref a, c] ∧ ClsV c u ∧ H a = some (ExH (.ref C) (some dd) a) ∧ ExcC K C ∧ H dd = some (.xd fs) ∧ PySem.W.kitOne K (.ref C) u = some b ∧ Q (.bl b) H
def rIsHT (K : PySem.W.Frag) : List V → Hp → VK → Prop := fun xs H Q => ∃ (a C dd : Addr) (fs : List (Str × V)) (tp : Addr) (cs : List V) (us : List Value) (b : Bool), xs = [.ref a, .ref tp] ∧ H tp = some (.tup cs) ∧ Paired ClsV cs us ∧ H a = some (ExH (.ref C) (some dd) a) ∧ ExcC K C ∧ H dd = some (.xd fs) ∧ PySem.W.kitAny K (.ref C) us = some b ∧ Q (.bl b) H
theorem kit_held {a C dd : Addr} {fs : List (Str × V)} (I : Inv X pins σ H s) (ea : H a = some (ExH (.ref C) (some dd) a)) (c : ExcC X.K C) (ed : H dd = some (.xd fs)) :
    ∃ P : Heap → Prop, PySem.W.KitX X.K (.ref a) (.ref C) P ∧ P s.heap := by
  obtain ⟨oe, vs, ha, hz, hd⟩ := exH_at I.hok ea
  have hx : ObjOk X.prog X.w H s.heap dd (.xd fs) := I.hok dd _ ed
  obtain ⟨mA, hns, hr⟩ := hx
  obtain ⟨od, ho, hl⟩ := lookIn_ns hns
  have J : PySem.W.InstAt s.heap a oe C (some od) := ⟨ha, hz.1, by unfold PySem.W.notCls; rw [hd] <;> rfl, by rw [hz.2]; exact ho⟩
  exact ⟨_, PySem.W.kitx_exc (ox := oe) (od := some od) (by obtain ⟨cd, hc, _⟩ := PySem.W.any_some c.hd; rw [hc] <;> rfl) c.hg c.hk c.hs c.ha c.hn c.ht c.hm, J⟩
theorem call_isH : CallR X (.builtin "isinstance") (rIsH X.K) := by
  intro pins s σ H xs us Q I r h
  obtain ⟨a, C, dd, fs, c, u, b, rfl, k, ea, ec, ed, e, q⟩ := h
  obtain ⟨u1, u2, rfl, r1, r2⟩ := vals2 r
  have e2 := k.eq r2
  subst e2
  cases (show u1 = Value.ref a from r1)
  obtain ⟨P, Z, p⟩ := kit_held I ea ec ed
  exact PySem.W.kia_one Z I.kIn p e (fun z => nomatch z) fun tk => ⟨.bl b, H, I.tok tk, rfl, q⟩
theorem call_isHT : CallR X (.builtin "isinstance") (rIsHT X.K) := by
  intro pins s σ H xs us Q I r h
  obtain ⟨a, C, dd, fs, tp, cs, ws, b, rfl, hT, k, ea, ec, ed, e, q⟩ := h
  obtain ⟨u1, u2, rfl, r1, r2⟩ := vals2 r
  cases (show u2 = Value.ref tp from r2)
  cases (show u1 = Value.ref a from r1)
  obtain ⟨P, Z, p⟩ := kit_held I ea ec ed
  obtain ⟨_, its, rv, o, h1, h2, n, h3⟩ := (show ObjOk X.prog X.w H s.heap tp (.tup cs) from I.hok tp _ hT)
  have e3 := ClsV.all k rv
  subst e3
  obtain ⟨oc, od, dt, sl⟩ := o
  simp only at h2 h3
  subst h2 h3
  exact PySem.W.kia_tup Z I.kIn p h1 e (fun z => nomatch z) fun tk => ⟨.bl b, H, I.tok tk, rfl, q⟩
end
end
section
def oexB (K : PySem.W.Frag) (C : Addr) : Bool := match K.lookup C with
  | some ⟨.type "type", _, .cls cd, sl⟩ => (match cd.mro, sl.toList with
    | .ref C' :: bm, [_, _, _, _, some (.builtin n), _] => C' == C && n == "ValueError.__new__" && !cd.hasDel && cd.hasDict && PySem.HandSPX.refsVE bm
    | _, _ => false)
  | _ => false
theorem oexB_ok {K : PySem.W.Frag} {C : Addr} (q : oexB K C = true) : ∃ nm q N bs bm sn sub ab col dd k0 k1 k2 k3 k5, K.lookup C = some (excClassObj nm q C N bs bm true sn sub ab col dd k0 k1 k2 k3 k5 "ValueError.__new__") ∧ PySem.HandSPX.refsVE bm = true := by
  unfold oexB at q
  split at q
  · rename_i dd cd sl ho
    split at q
    · rename_i C' bm k0 k1 k2 k3 n k5 hm hs
      simp only [Bool.and_eq_true, beq_iff_eq, Bool.not_eq_true'] at q
      obtain ⟨⟨⟨⟨rfl, rfl⟩, hdel⟩, hh⟩, hr⟩ := q
      obtain ⟨nm, bs, mro, ns, qn, hd, sn, sub, ab, col, del⟩ := cd
      dsimp only at hm hdel hh
      subst hm hdel hh
      have hsl : sl = #[k0, k1, k2, k3, some (.builtin "ValueError.__new__"), k5] := by
        obtain ⟨l⟩ := sl
        simp only at hs
        rw [hs]
      subst hsl
      exact ⟨nm, qn, ns, bs, bm, sn, sub, ab, col, dd, k0, k1, k2, k3, k5, ho, hr⟩
    · cases q
  · cases q
/-- all that is asked of an own exception class -/
structure XCl (K : PySem.W.Frag) (C : Addr) : Prop where
  xf : XfC K C
  is : ExcC K C
  ox : OexC K C
def xclB (K : PySem.W.Frag) (C : Addr) : Bool :=
  oexB K C && (decide (PySem.W.findIn K (.ref C) "__getattribute__" = some (some (.builtin "BaseException.__getattribute__"))) && (decide (PySem.W.findIn K (.ref C) "__getattr__" = some none) && (decide (PySem.W.subIn K (.ref C) (.type "BaseException") = some true) && (PySem.W.hasDictIn K C &&
  (decide (PySem.W.findIn K (.ref C) "__class__" = some (some (.builtin "object.__class__"))) && (decide (PySem.W.specialIn K (.builtin "object.__class__") "__get__" = some (some (.builtin "getset_descriptor.__get__"))) && (decide (PySem.W.takesIn K (.builtin "object.__class__") = some true) &&
  (decide (PySem.W.mroIn K C (.type "object") = some true) && (decide (PySem.W.findIn K (.ref C) "__setattr__" = some (some (.builtin "object.__setattr__"))) && (decide (PySem.W.typeIn K (.ref C) = some (.type "type")) && PySem.W.keepIn K (.ref C)))))))))))
theorem xclB_ok {K : PySem.W.Frag} {C : Addr} (h : xclB K C = true) : XCl K C := by
  unfold xclB at h
  simp only [Bool.and_eq_true, decide_eq_true_eq] at h
  obtain ⟨h1, h2, h3, h4, h5, h6, h7, h8, h9, h10, h11, h12⟩ := h
  exact ⟨⟨h2, h3, h4, h5⟩, ⟨h2, h3, h4, h5, h6, h7, h8, h9⟩, ⟨oexB_ok h1, h10, h4, h11, h12⟩⟩
/-- its __init__ stands at He.ma -/
structure XIn (K : PySem.W.Frag) (C : Addr) (fs : List Str) : Prop where
  at_ : PySem.W.findIn K (.ref C) "__init__" = some (some (.ref (He.ma K C "__init__")))
  ty : PySem.W.typeIn K (.ref (He.ma K C "__init__")) = some (.type "function")
  no : ∀ f ∈ fs, PySem.W.findIn K (.ref C) f = some none
def xinB (K : PySem.W.Frag) (C : Addr) (fs : List Str) : Bool := decide (PySem.W.findIn K (.ref C) "__init__" = some (some (.ref (He.ma K C "__init__")))) && (decide (PySem.W.typeIn K (.ref (He.ma K C "__init__")) = some (.type "function")) && fs.all fun f => decide (PySem.W.findIn K (.ref C) f = some none))
theorem xinB_ok {K : PySem.W.Frag} {C : Addr} {fs : List Str} (h : xinB K C fs = true) : XIn K C fs := by
  unfold xinB at h
  simp only [Bool.and_eq_true, decide_eq_true_eq, List.all_eq_true] at h
  exact ⟨h.1, h.2.1, h.2.2⟩
structure CalX (P : Program) (w : World) (K : PySem.W.Frag) (mg : Str → Option Value) (base : Heap) (k : Nat) (x : Str) (sp : Sp) (dvs : List V) : Prop where
  ex : ∃ (f : Addr) (fd : FuncData) (ps : List Str) (ds : List Value), FnOk P w K mg base (L2.CX P w) k f fd ps sp ∧ mg x = some (.ref f) ∧ PySem.W.keepIn K (.ref f) = true ∧ Binds K fd ps ds ∧ Vals dvs ds
section
variable {X : Cx} {k j n mm : Nat} {x m : Str} {sp : Sp} {dvs : List V} {p pos apos : Pos} {e o : Expr} {es : List Expr} {ta : TE} {t tk : TA} {W : WX}
theorem pe_cx (c : CalX X.prog X.w X.K X.mg X.base k x sp dvs) (hr : Room j X.A) (hk : k ≤ j) (hg : Gl X x) (tk : Takes X W) (ha : PA X (e :: es) t)
    (hdb : (x == ("__debug__" : Str)) = false := by decide) (he : starEach (e :: es) X.env = (false, eval e X.env) :: starEach es X.env := by rfl) (hpl : (backTo pos (starEach es X.env)).any (·.1) = false := by rfl) :
    PE X (.Call (.Name x p) (e :: es) [] pos) (tCallSD sp dvs (WE W) t) := by
  obtain ⟨f, fd, ps, ds, F, hm, kp, b, d⟩ := c.ex
  exact pe_callSD F (hr.mono hk) hg hm kp b d (fun σ => passAt tk σ) ha hdb he hpl
theorem w_callX {σ : L2.St} {H : Hp} {Q : VK} {E : L2.St → XK} (h : t σ H fun vs H1 => sp (vs ++ dvs) H1 Q (E σ)) : tCallSD sp dvs E t σ H Q := h
end
section
variable {P : Program} {w : World} {K : PySem.W.Frag} {mg : Str → Option Value} {base : Heap} {x qual : Str} {st : Stmt} {f : Addr} {fd : FuncData} {sp : Sp} {k : Nat}
theorem FnP.goX {N ps : List Str} {dvs : List V} (F : FnP K x st dvs f fd) (S : FnScope N ps (defScope st)) (len : ∀ vs H Q E, sp vs H Q E → vs.length = ps.length) (t : XK → TS)
    (pure : ∀ (vs : List V) (H : Hp) (Q : VK) (E : XK), sp vs H Q E → t E { nx := fun _ H' => Q .non H', rt := Q } (start N vs) H)
    (hbody : ∀ (cdv : Value) (A : Around) (outer : List Env) (s : Shared) (H : Hp) (E : XK), Room k (A.deeper (envOfC x (defScope st) s.heap.objs.size f cdv)) →
      PSs (cxOf (L2.CX P w) P w K mg base N x (defScope st) f cdv A outer s H E) (defBody st) (t E)) : FnOk P w K mg base (L2.CX P w) (k + 1) f fd ps sp :=
  F.ok S len fun cdv A outer s H vs Q E hr h => ⟨t E, hbody cdv A outer s H E hr, pure vs H Q E h⟩
theorem FnP.calX {ps : List Str} (F : FnP K x st [] f fd) (ok : FnOk P w K mg base (L2.CX P w) k f fd ps sp) (g : mg x = some (.ref f))
    (h : ∀ (kV doc pm : Value) (an : Option Addr) (cdv ct : Value) (us : List Value), us.length = ps.length → bindArgs (PySem.W.fnOf x x (defArgs st) (defBody st) (defScope st) .none kV doc pm an cdv ct) ⟨us, []⟩ = pure (ps.zip us)) : CalX P w K mg base k x sp [] :=
  ⟨f, fd, ps, [], ok, g, F.kp, F.bindsN h, .nil⟩
/-- a method as it stands -/
abbrev MtP (K : PySem.W.Frag) (x qual : Str) (st : Stmt) (f : Addr) (fd : FuncData) : Prop := FunD K x qual (defArgs st) (defBody st) (defScope st) [] [] f fd
theorem MtP.go {N ps : List Str} (F : MtP K x qual st f fd) (S : FnScope N ps (defScope st)) (len : ∀ vs H Q E, sp vs H Q E → vs.length = ps.length) (t : TS)
    (pure : ∀ (vs : List V) (H : Hp) (Q : VK) (E : XK), sp vs H Q E → t { nx := fun _ H' => Q .non H', rt := Q } (start N vs) H)
    (hbody : ∀ (cdv : Value) (A : Around) (outer : List Env) (s : Shared) (H : Hp) (E : XK), Room k (A.deeper (envOfC qual (defScope st) s.heap.objs.size f cdv)) →
      PSs (cxOf CX0 P w K mg base N qual (defScope st) f cdv A outer s H E).nox (defBody st) t) : FnOk P w K mg base CX0 (k + 1) f fd ps sp :=
  F.ok S len fun cdv A outer s H vs Q E hr h => ⟨t, PSs.nox (hbody cdv A outer s H E hr), pure vs H Q E h⟩
end
/-- the dict's fields behind the stores of fs -/
def xfs : List Str → List V → List (Str × V) → List (Str × V)
  | f :: fs, v :: vs, l => xfs fs vs ((f, v) :: l)
  | _, _, l => l
/-- __init__ of such a class: keeps all but the exception's own -/
def sp_xinit (K : PySem.W.Frag) (C : Addr) (fs : List Str) : Sp := fun vs H Q _ => ∃ (a : Addr) (xs : List V), vs = .ref a :: xs ∧ xs.length = fs.length ∧ OexC K C ∧ (∀ f ∈ fs, PySem.W.findIn K (.ref C) f = some none) ∧ H a = some (exo a C none) ∧
  ∀ dx H', H dx = none → dx ≠ a → H' a = some (exo a C (some dx)) → H' dx = some (exd dx (xfs fs xs [])) → (∀ b, b ≠ a → b ≠ dx → H' b = H b) → Q .non H'
def t_xinit2 (K : PySem.W.Frag) (f g : Str) : TS := tSeq (tOst K f (tVar 0) (tVar 1)) (tOst K g (tVar 0) (tVar 2))
theorem pure_xinit2 {K : PySem.W.Frag} {C : Addr} {f g s p r : Str} (vs : List V) (H : Hp) (Q : VK) (E : XK) (h : sp_xinit K C [f, g] vs H Q E) : t_xinit2 K f g { nx := fun _ H' => Q .non H', rt := Q } (start [s, p, r] vs) H := by
  obtain ⟨a, xs, rfl, hl, T, no, ha, q⟩ := h
  match xs, hl with
  | [x, y], _ =>
    refine ⟨x, rfl, .ref a, rfl, a, C, rfl, T, no f (by simp), .inl ⟨ha, fun dx hd hn => ?_⟩⟩
    refine ⟨y, rfl, .ref a, rfl, a, C, rfl, T, no g (by simp), .inr ⟨dx, [(f, x)], upd_same, ?_, by simp, ?_⟩⟩
    · rw [upd_ne hn, upd_same]
    · refine q dx _ hd hn ?_ upd_same fun b h1 h2 => ?_
      · rw [upd_ne (Ne.symm hn), upd_same]
      · rw [upd_ne h2, upd_ne h1, upd_ne h2]
/-- C(e, ..) raised: a new dict, all else as it was -/
theorem w_mkO {K : PySem.W.Frag} {C : Addr} {fs : List Str} {ta : TA} {σ : L2.St} {H : Hp} {Q : XK} (T : OexC K C) (no : ∀ f ∈ fs, PySem.W.findIn K (.ref C) f = some none)
    (h : ta σ H fun vs H1 => vs.length = fs.length ∧ vs.length ≤ 1000 ∧ ∀ dd H2, Chg [] H1 H2 → H1 dd = none → H2 dd = some (.xd (xfs fs vs [])) → Q (.ref C) (some dd) H2)
    (mono : ∀ {H : Hp} {A B : List V → Hp → Prop}, (∀ vs H1, A vs H1 → B vs H1) → ta σ H A → ta σ H B) : tMkO C (sp_xinit K C fs) [] ta σ H Q := by
  refine mono (fun vs H1 ⟨h1, h2, h3⟩ => ?_) h
  refine ⟨h2, fun a na => ?_⟩
  rw [List.append_nil]
  refine ⟨a, vs, rfl, h1, T, no, upd_same, fun dx H' hd hn ea ed ke => ?_⟩
  have hd1 : H1 dx = none := by
    rw [upd_ne hn] at hd
    exact hd
  refine ⟨rfl, dx, _, ea, ed, hd1, h3 dx _ ⟨fun b o e _ => ?_, fun b e => ?_, fun b xs e => ?_⟩ hd1 upd_same⟩
  · have nb : b ≠ a := ne_of_none e na
    have nd : b ≠ dx := ne_of_none e hd1
    rw [upd_ne nd, del_ne nb, ke b nb nd, upd_ne nb]
    exact e
  · by_cases nd : b = dx
    · rw [nd, upd_same] at e
      cases e
    · rw [upd_ne nd] at e
      by_cases nb : b = a
      · rw [nb]
        exact na
      · rw [del_ne nb, ke b nb nd, upd_ne nb] at e
        exact e
  · have nb : b ≠ a := ne_of_none e na
    have nd : b ≠ dx := ne_of_none e hd1
    rw [upd_ne nd, del_ne nb, ke b nb nd, upd_ne nb]
    exact e
structure MkX (P : Program) (w : World) (K : PySem.W.Frag) (mg : Str → Option Value) (base : Heap) (x : Str) (C : Addr) (fs : List Str) : Prop where
  ox : OexC K C
  no : ∀ f ∈ fs, PySem.W.findIn K (.ref C) f = some none
  g : mg x = some (.ref C)
  ini : ∃ (fI : Addr) (fd : FuncData) (ps : List Str), PySem.W.findIn K (.ref C) "__init__" = some (some (.ref fI)) ∧ PySem.W.typeIn K (.ref fI) = some (.type "function") ∧ FnOk P w K mg base CX0 1 fI fd ps (sp_xinit K C fs) ∧ Binds K fd ps []
def tWeak (ta : TA) : TA := fun σ H Q => ∃ A : List V → Hp → Prop, ta σ H A ∧ ∀ vs H1, A vs H1 → Q vs H1
theorem PA.weak {X : Cx} {es : List Expr} {ta : TA} (h : PA X es ta) : PA X es (tWeak ta) := ⟨fun pos pins s σ H Q I ⟨A, hA, k⟩ =>
  wpAny_mono (h.run pos pins s σ H A I hA) (fun us s1 ⟨vs, H1, I1, r, q⟩ => ⟨vs, H1, I1, r, k vs H1 q⟩) fun _ _ x => x⟩
def tRaiseX (C : Addr) (fs : List Str) (E : XK) (ta : TA) : TS := fun _ σ H => ta σ H fun vs H1 => vs.length = fs.length ∧ vs.length ≤ 1000 ∧ ∀ dd H2, Chg [] H1 H2 → H1 dd = none → H2 dd = some (.xd (xfs fs vs [])) → E (.ref C) (some dd) H2
theorem ps_raiseX {X : Cx} {x : Str} {C : Addr} {fs : List Str} {E : XK} {e : Expr} {es : List Expr} {ta : TA} {p pos pos2 : Pos} {j : Nat} (hc : X.calm = true) (M : MkX X.prog X.w X.K X.mg X.base x C fs) (hr : Room j X.A) (hk : 2 ≤ j) (tk : Takes X (fun cls d _ H => E cls d H)) (hg : Gl X x) (ha : PA X (e :: es) ta)
    (hdb : (x == ("__debug__" : Str)) = false := by decide) (he : starEach (e :: es) X.env = (false, eval e X.env) :: starEach es X.env := by rfl) (hpl : (backTo pos (starEach es X.env)).any (·.1) = false := by rfl) :
    PS X (.Raise (some (.Call (.Name x p) (e :: es) [] pos)) none pos2) (tRaiseX C fs E ta) := by
  obtain ⟨fI, fd, ps, iC, tI, F, hb⟩ := M.ini
  have R := ps_raise (pos := pos2) hc tk (pmk_oex (p := p) (pos := pos) (CX := CX0) M.ox iC tI F (hr.mono (by omega)) hb .nil pass0 hg M.g (PA.weak ha) hdb he hpl)
  refine ⟨fun pins s σ H D I h => R.run pins s σ H D I ?_⟩
  refine w_mkO (K := X.K) (fs := fs) M.ox M.no ⟨_, h, fun vs H1 q => q⟩ ?_
  intro H A B k ⟨A', h1, h2⟩
  exact ⟨A', h1, fun vs H1 q => k vs H1 (h2 vs H1 q)⟩
theorem w_raiseX {C : Addr} {fs : List Str} {E : XK} {ta : TA} {D : Ends} {σ : L2.St} {H : Hp} (h : ta σ H fun vs H1 => vs.length = fs.length ∧ vs.length ≤ 1000 ∧ ∀ dd H2, Chg [] H1 H2 → H1 dd = none → H2 dd = some (.xd (xfs fs vs [])) → E (.ref C) (some dd) H2) : tRaiseX C fs E ta D σ H := h
theorem takes0 {X : Cx} : Takes X (fun _ _ _ _ => False) := fun u s' h => by
  obtain ⟨a, B, sI, pins, σ, H, cls, d, e, I, nb, up, sky, na, os, ag, z⟩ := h
  exact z.elim
end
section
structure XF (K : PySem.W.Frag) : Prop where
  np : XCl K (He.ga K "NoProgram")
  inp : XIn K (He.ga K "NoProgram") ["helper", "at"]
  exm : PySem.W.exmOne K (.ref (He.ga K "NoProgram")) (.ref (He.ga K "WorkError")) = some true
  no : PySem.W.kitAny K (.ref (He.ga K "NoProgram")) [.ref (He.ga K "NoHand"), .ref (He.ga K "NoHelper"), .ref (He.ga K "NoMark"), .ref (He.ga K "NotOver"), .ref (He.ga K "NoText"), .ref (He.ga K "TooLong")] = some false
  yes : PySem.W.kitOne K (.ref (He.ga K "NoProgram")) (.ref (He.ga K "NoProgram")) = some true
  ve : PySem.W.kitOne K (.ref (He.ga K "NoProgram")) (.type "ValueError") = some true
def xfOk (K : PySem.W.Frag) : Bool := xclB K (He.ga K "NoProgram") && (xinB K (He.ga K "NoProgram") ["helper", "at"] && (decide (PySem.W.exmOne K (.ref (He.ga K "NoProgram")) (.ref (He.ga K "WorkError")) = some true) &&
  (decide (PySem.W.kitAny K (.ref (He.ga K "NoProgram")) [.ref (He.ga K "NoHand"), .ref (He.ga K "NoHelper"), .ref (He.ga K "NoMark"), .ref (He.ga K "NotOver"), .ref (He.ga K "NoText"), .ref (He.ga K "TooLong")] = some false) &&
  (decide (PySem.W.kitOne K (.ref (He.ga K "NoProgram")) (.ref (He.ga K "NoProgram")) = some true) && decide (PySem.W.kitOne K (.ref (He.ga K "NoProgram")) (.type "ValueError") = some true)))))
theorem xfOk_ok {K : PySem.W.Frag} (h : xfOk K = true) : XF K := by
  unfold xfOk at h
  simp only [Bool.and_eq_true, decide_eq_true_eq] at h
  obtain ⟨h1, h2, h3, h4, h5, h6⟩ := h
  exact ⟨xclB_ok h1, xinB_ok h2, h3, h4, h5, h6⟩
end
section
def SmK (K : PySem.W.Frag) : Prop := (K.lookup sysModules).isSome = true
theorem sm_free {X : Cx} {pins : List (Addr × Obj)} {σ : L2.St} {H : Hp} {s : Shared} (I : Inv X pins σ H s) (h : SmK X.K) : H sysModules = none := by
  obtain ⟨o, e⟩ := Option.isSome_iff_exists.mp (show (X.K.lookup sysModules).isSome = true from h)
  exact (I.bs _ _ (I.ok.mod.kin _ _ e)).2
def asZ (g : Addr → Option Obj) (n : Nat) : List Addr := He.asD g n ++ [sysModules]
def obsZ (n : Nat) (fa : List He.Fa) (fn : List He.DefD) (ts : List He.Tab) (ex : PySem.W.Frag → Bool) (g : Addr → Option Obj) : He.AlX := (He.obsT fa fn ts (He.frT g (asZ g n)), ex (He.frT g (asZ g n)) && He.tabsB g [] (He.frT g (asZ g n)))
theorem saysZ_of {n : Nat} {fa : List He.Fa} {fn : List He.DefD} {ts : List He.Tab} {ex : PySem.W.Frag → Bool} {w : World} {h : Heap} (e : obsZ n fa fn ts ex h.get? = He.valX fn ts w) : He.SaysX fa fn ts [] ex w h (He.frT h.get? (asZ h.get? n)) := by
  have e1 : He.obsT fa fn ts (He.frT h.get? (asZ h.get? n)) = He.valT fn ts w := congrArg (fun z : He.AlX => z.1) e
  have e2 : (ex (He.frT h.get? (asZ h.get? n)) && He.tabsB h.get? [] (He.frT h.get? (asZ h.get? n))) = true := congrArg (fun z : He.AlX => z.2) e
  exact ⟨e1, (Bool.and_eq_true_iff.mp e2).1, fun _ hp => absurd hp List.not_mem_nil, fun _ hp => absurd hp List.not_mem_nil, fun _ hp => absurd hp List.not_mem_nil⟩
def hookZ (n : Nat) (fa : List He.Fa) (fn : List He.DefD) (ts : List He.Tab) (ex : PySem.W.Frag → Bool) : PySem.W.Hook where
  α := He.AlX
  obs := fun s => obsZ n fa fn ts ex s.heap.get?
  val := fun w => He.valX fn ts w
  says := fun w h => ∃ K : PySem.W.Frag, K.In h ∧ He.SaysX fa fn ts [] ex w h K
  of := fun _ _ e => ⟨_, He.frT_in, saysZ_of e⟩
  keeps := fun _ _ _ ⟨K, hK, c⟩ k => ⟨K, PySem.W.Frag.In.keeps hK k, ⟨c.t, c.more, c.hd, c.out, fun _ hp => absurd hp List.not_mem_nil⟩⟩
theorem obsZ_eq {n : Nat} {fa : List He.Fa} {fn : List He.DefD} {ts : List He.Tab} {ex : PySem.W.Frag → Bool} {g : Addr → Option Obj} {s : Shared} (h : ∀ a, g a = s.heap.get? a) : obsZ n fa fn ts ex g = (hookZ n fa fn ts ex).obs s := by
  have e : g = s.heap.get? := funext h
  rw [e] <;> rfl
end
end Fg
namespace PySem.SeqAt
open AutoSeq1 (wpAny_loadPart')
open MeetsSeq
theorem fg_dict_declines_str (l : Addr) (es : Array DictEntry) (n : Nat) (dd : Option Addr) (sl : Array (Option Value)) (b : Str) (u : Tok) :
    Meets (Builtin.«dict.__eq__» ⟨[.ref l, .str b u], []⟩) (fun _ R s => s.heap.get? l = some { cls := .type "dict", dict := dd, data := .dict es n, slots := sl } ∧ R (.ok (.ret .notImplemented)) s) :=
  .of_wp fun prog w A R s h => by obtain ⟨hp, g, d, tk, os⟩ := s; obtain ⟨hl, h⟩ := h; have f1 := F.sub_str_dict; wp_walk using wpAny_loadPart' hl, wpAny_load hl; exact ⟨_, rfl, h⟩
theorem fg_str_declines_dict (b : Str) (u : Tok) (l : Addr) (es : Array DictEntry) (n : Nat) (dd : Option Addr) (sl : Array (Option Value)) :
    Meets (Builtin.«str.__eq__» ⟨[.str b u, .ref l], []⟩) (fun _ R s => s.heap.get? l = some { cls := .type "dict", dict := dd, data := .dict es n, slots := sl } ∧ R (.ok (.ret .notImplemented)) s) :=
  .of_wp fun prog w A R s h => by obtain ⟨hp, g, d, tk, os⟩ := s; obtain ⟨hl, h⟩ := h; wp_walk using wpAny_loadPart' hl, wpAny_load hl; exact ⟨_, rfl, h⟩
theorem fg_dict_declines_tuple (l b : Addr) (es : Array DictEntry) (items : Array Value) (n n2 : Nat) (dd dd2 : Option Addr) (sl sl2 : Array (Option Value)) :
    Meets (Builtin.«dict.__eq__» ⟨[.ref l, .ref b], []⟩) (fun _ R s => s.heap.get? l = some { cls := .type "dict", dict := dd, data := .dict es n, slots := sl } ∧ s.heap.get? b = some { cls := .type "tuple", dict := dd2, data := .seq items n2, slots := sl2 } ∧ R (.ok (.ret .notImplemented)) s) :=
  .of_wp fun prog w A R s h => by obtain ⟨hp, g, d, tk, os⟩ := s; obtain ⟨hl, hb, h⟩ := h; have f1 := F.sub_tuple_dict; wp_walk using wpAny_loadPart' hl, wpAny_load hl, wpAny_loadPart' hb, wpAny_load hb; exact ⟨_, rfl, h⟩
theorem fg_tuple_declines_dict (b l : Addr) (items : Array Value) (es : Array DictEntry) (n2 n : Nat) (dd2 dd : Option Addr) (sl2 sl : Array (Option Value)) :
    Meets (Builtin.«tuple.__eq__» ⟨[.ref b, .ref l], []⟩) (fun _ R s => s.heap.get? b = some { cls := .type "tuple", dict := dd2, data := .seq items n2, slots := sl2 } ∧ s.heap.get? l = some { cls := .type "dict", dict := dd, data := .dict es n, slots := sl } ∧ R (.ok (.ret .notImplemented)) s) :=
  .of_wp fun prog w A R s h => by obtain ⟨hp, g, d, tk, os⟩ := s; obtain ⟨hb, hl, h⟩ := h; have f1 : isSubtype (.type "dict") (.type "tuple") = pure false := by rw [isSubtype_type]; kernel_rfl
                                  wp_walk using wpAny_loadPart' hb, wpAny_load hb, wpAny_loadPart' hl, wpAny_load hl; exact ⟨_, rfl, h⟩
section
variable {A : Around} {s : Shared}
theorem fg_dict_str {l : Addr} {es : Array DictEntry} {n : Nat} {dd : Option Addr} {sl : Array (Option Value)} (b : Str) (u : Tok) (ho : s.heap.get? l = some { cls := .type "dict", dict := dd, data := .dict es n, slots := sl }) (hu : A.units < cLine) : RcAt A s (.ref l) (.str b u) false := fun prog w E Q h =>
  rc_eq_decline_or (k := false) ⟨_, ho, rfl⟩ (typeIs_str s b u) (by decide) F.sub_str_dict F.slot_dict_eq F.slot_str_eq_refl
    (fun _ hq => call_meets F.slot_dict_eq ⟨_, ho, rfl⟩ F.entry_dict_eq (F.args_dict_eq_2 _ _) (fg_dict_declines_str l es n dd sl b u) ⟨ho, hq⟩)
    (fun _ hq => call_meets F.slot_str_eq_refl (typeIs_str s b u) F.entry_str_eq (F.args_str_eq_2 _ _) (fg_str_declines_dict b u l es n dd sl) ⟨ho, hq⟩)
    (fun _ hq => wpAny_of_eq (rfl : isSame (.ref l) (.str b u) = pure false) hq) (.inr hu) h
theorem fg_eq_dict_str {l : Addr} {es : Array DictEntry} {n : Nat} {dd : Option Addr} {sl : Array (Option Value)} (b : Str) (u : Tok) (ho : s.heap.get? l = some { cls := .type "dict", dict := dd, data := .dict es n, slots := sl }) (hu : A.units < cLine) : EqAt A s (.ref l) (.str b u) false := fun prog w E Q h => by
  unfold eqBool
  refine wpAny_holding ?_
  refine wpAny_ite_split (fun hab => absurd (eq_of_beq hab) nofun) (fun _ => ?_)
  exact wpAny_bind (fg_dict_str b u ho hu prog w E _ (wpAny_truthy_bool h))
theorem fg_dict_tuple {l b : Addr} {es : Array DictEntry} {items : Array Value} {n : Nat} {dd : Option Addr} {sl : Array (Option Value)} (ho : s.heap.get? l = some { cls := .type "dict", dict := dd, data := .dict es n, slots := sl }) (hb : s.heap.IsTuple b items) (hu : A.units < cLine) :
    RcAt A s (.ref l) (.ref b) false := fun prog w E Q h => by
  obtain ⟨⟨cls2, dd2, data2, sl2⟩, ho2, hc2, n2, hd2⟩ := id hb
  simp only at hc2 hd2
  subst hc2 hd2
  have hne : l ≠ b := fun z => by
    rw [z, ho2] at ho
    injection ho with ho
    injection ho with e1 e2 e3
    cases e3
  exact (rc_eq_decline_or (k := false) ⟨_, ho, rfl⟩ ⟨_, ho2, rfl⟩ (by decide) F.sub_tuple_dict F.slot_dict_eq F.slot_tuple_eq_refl
    (fun _ hq => call_meets F.slot_dict_eq ⟨_, ho, rfl⟩ F.entry_dict_eq (F.args_dict_eq_2 _ _) (fg_dict_declines_tuple l b es items n n2 dd dd2 sl sl2) ⟨ho, ho2, hq⟩)
    (fun _ hq => call_meets F.slot_tuple_eq_refl ⟨_, ho2, rfl⟩ F.entry_tuple_eq (F.args_tuple_eq_2 _ _) (fg_tuple_declines_dict b l items es n2 n dd2 dd sl2 sl) ⟨ho2, ho, hq⟩)
    (fun _ hq => wpAny_isSame_ref_other hne ho ho2 (by simp) hq) (.inr hu) h)
end
end PySem.SeqAt
namespace Fg
open PySem PySem.Spec PyProof.Rows L2
/-- d is the tuple of the one text z -/
def isT1 (z : Str) : PyData → Bool
  | .tuple [.str y] => y == z
  | _ => false
def is0 (z : Str) : PyData → Bool
  | .str y => y == z
  | _ => false
def oEqT1 : R2 := fun x y H Q => ∃ (d : PyData) (S : Addr → Prop) (z : Str) (p : Addr), R S H x d ∧ y = .ref p ∧ H p = some (.tup [.str z]) ∧ Q (.bl (isT1 z d)) H
def oEqE : R2 := fun x y H Q => ∃ (p q : Addr) (xs : List V), x = .ref p ∧ y = .ref q ∧ ((H p = some (.lst xs) ∧ H q = some (.lst [])) ∨ (H p = some (.tup xs) ∧ H q = some (.tup []))) ∧ Q (.bl xs.isEmpty) H
section
variable {X : Cx} {pins : List (Addr × Obj)} {σ : L2.St} {H : Hp} {s : Shared}
theorem tupAt {p : Addr} {xs : List V} (I : Inv X pins σ H s) (h : H p = some (.tup xs)) : ∃ its : List Value, Vals xs its ∧ s.heap.IsTuple p its.toArray := by
  obtain ⟨_, its, rv, o, h1, h2, n, h3⟩ := (show ObjOk X.prog X.w H s.heap p (.tup xs) from I.hok p _ h)
  exact ⟨its, rv, ⟨o, h1, h2, n, h3⟩⟩
theorem lstAt {p : Addr} {xs : List V} (I : Inv X pins σ H s) (h : H p = some (.lst xs)) : ∃ its : List Value, Vals xs its ∧ s.heap.IsList p its.toArray := by
  obtain ⟨_, its, n, rv, h1⟩ := (show ObjOk X.prog X.w H s.heap p (.lst xs) from I.hok p _ h)
  exact ⟨its, rv, ⟨_, h1, rfl, n, rfl⟩⟩
theorem dicAt {p : Addr} {kvs : List (Key × V)} (I : Inv X pins σ H s) (h : H p = some (.dK kvs)) : ∃ (es : Array DictEntry) (n : Nat) (dd : Option Addr) (sl : Array (Option Value)), s.heap.get? p = some { cls := .type "dict", dict := dd, data := .dict es n, slots := sl } := by
  obtain ⟨_, _, vs, _, o, es, ep, h1, h2, h3, _⟩ := (show ObjOk X.prog X.w H s.heap p (.dK kvs) from I.hok p _ h)
  obtain ⟨oc, od, dt, sl⟩ := o
  obtain ⟨h4, h5, h6⟩ := h2
  simp only at h3 h4 h5 h6
  subst h3 h4
  exact ⟨es, ep, od, sl, h1⟩
/-- an item against a text -/
theorem eqAt_text {A : Around} {S : Addr → Prop} {v : V} {d : PyData} {u : Value} {z : Str} {t : Tok} (I : Inv X pins σ H s) (r : R S H v d) (rv : RelV v u) (hu : A.units < cLine) : SeqAt.EqAt A s u (.str z t) (is0 z d) := by
  cases r with
  | non => cases (show u = Value.none from rv); exact SeqAt.EqAt.none_str z t
  | bl b => cases (show u = Value.bool b from rv); exact SeqAt.EqAt.bool_str b z t
  | int i =>
    obtain ⟨k, q⟩ := (show ∃ k, u = Value.int i k from rv)
    cases q
    exact SeqAt.EqAt.int_str i k z t
  | str x =>
    obtain ⟨k, q⟩ := (show ∃ k, u = Value.str x k from rv)
    cases q
    exact SeqAt.EqAt.str_str x k z t
  | @lst a xs ds sa ea ra =>
    cases (show u = Value.ref a from rv)
    obtain ⟨its, _, hl⟩ := lstAt I ea
    exact SeqAt.EqAt.list_str z t hl hu
  | @tup a xs ds ea ra =>
    cases (show u = Value.ref a from rv)
    obtain ⟨its, _, hl⟩ := tupAt I ea
    exact SeqAt.EqAt.tuple_str z t hl hu
  | @dic a kvs sa ea =>
    cases (show u = Value.ref a from rv)
    obtain ⟨es, n, dd, sl, ho⟩ := dicAt I ea
    exact SeqAt.fg_eq_dict_str z t ho hu
theorem p_eqT1 (hu : X.A.units + 64 < cLine) : OpR X (compareOp .Eq) oEqT1 := by
  intro pins s σ H x y v u Q I rx ry h
  obtain ⟨d, S, z, p, r, rfl, hp, q⟩ := h
  cases (show u = Value.ref p from ry)
  have hu0 : X.A.units < cLine := by omega
  obtain ⟨itp, rp, tp⟩ := tupAt I hp
  have fin : ∀ b, SeqAt.RcAt X.A s v (.ref p) b → isT1 z d = b → wpAny (model X.prog X.w) X.A (compareOp .Eq v (.ref p)) (EP X pins σ Q) X.xe s := fun b hb e => by
    subst e
    exact hb X.prog X.w X.xe _ ⟨.bl _, H, I, rfl, q⟩
  cases r with
  | non => cases (show v = Value.none from rx); exact fin _ (SeqAt.RcAt.none_tuple tp hu0) rfl
  | bl b => cases (show v = Value.bool b from rx); exact fin _ (SeqAt.RcAt.bool_tuple b tp hu0) rfl
  | int i =>
    obtain ⟨k, q⟩ := (show ∃ k, v = Value.int i k from rx)
    cases q
    exact fin _ (SeqAt.RcAt.int_tuple i k tp hu0) rfl
  | str w =>
    obtain ⟨k, q⟩ := (show ∃ k, v = Value.str w k from rx)
    cases q
    exact fin _ (SeqAt.RcAt.str_tuple w k tp hu0) rfl
  | @lst a xs ds sa ea ra =>
    cases (show v = Value.ref a from rx)
    obtain ⟨its, _, hl⟩ := lstAt I ea
    exact fin _ (SeqAt.RcAt.list_tuple hl tp hu0) rfl
  | @dic a kvs sa ea =>
    cases (show v = Value.ref a from rx)
    obtain ⟨es, n, dd, sl, ho⟩ := dicAt I ea
    exact fin _ (SeqAt.fg_dict_tuple ho tp hu0) rfl
  | @tup a xs ds ea ra =>
    cases (show v = Value.ref a from rx)
    obtain ⟨its, rv, hl⟩ := tupAt I ea
    cases rp with
    | cons rz rn =>
      cases rn
      obtain ⟨t, rfl⟩ := rz
      cases ra with
      | nil =>
        cases rv
        refine fin _ (SeqAt.RcAt.tuples (e := fun _ => true) hl tp hu0 fun j h1 h2 => absurd h1 (by simp)) rfl
      | @cons v0 vs0 d0 ds0 r0 rs =>
        cases rv with
        | @cons _ u0 _ us0 q0 qs =>
          have e0 := eqAt_text (A := X.A.in1) (z := z) (t := t) I r0 q0 (show X.A.units + 1 < cLine by omega)
          refine fin _ (SeqAt.RcAt.tuples (e := fun _ => is0 z d0) hl tp hu0 fun j h1 h2 => ?_) ?_
          · have hj : j = 0 := by
              have : j < 1 := h2
              omega
            subst hj
            exact e0
          · have l1 : us0.length = ds0.length := by rw [← Paired.length qs, rs.length]
            cases ds0 with
            | nil =>
              have l2 : us0 = [] := List.length_eq_zero_iff.mp l1
              subst l2
              cases d0 <;> first | rfl | simp [isT1, is0]
            | cons d1 ds1 =>
              cases us0 with
              | nil => simp at l1
              | cons u1 us1 => cases d0 <;> simp [isT1, is0]
theorem p_eqE (hu : X.A.units + 64 < cLine) : OpR X (compareOp .Eq) oEqE := by
  intro pins s σ H x y v u Q I rx ry h
  obtain ⟨p, q, xs, rfl, rfl, hc, hq⟩ := h
  cases (show v = Value.ref p from rx)
  cases (show u = Value.ref q from ry)
  have hu0 : X.A.units < cLine := by omega
  have fin : ∀ b, SeqAt.RcAt X.A s (.ref p) (.ref q) b → xs.isEmpty = b → wpAny (model X.prog X.w) X.A (compareOp .Eq (.ref p) (.ref q)) (EP X pins σ Q) X.xe s := fun b hb e => by
    subst e
    exact hb X.prog X.w X.xe _ ⟨.bl _, H, I, rfl, hq⟩
  rcases hc with ⟨h1, h2⟩ | ⟨h1, h2⟩
  · obtain ⟨i1, r1, l1⟩ := lstAt I h1
    obtain ⟨i2, r2, l2⟩ := lstAt I h2
    cases r2
    cases r1 with
    | nil => exact fin _ (SeqAt.RcAt.lists (e := fun _ => true) l1 l2 rfl hu0 fun j h1 h2 => absurd h1 (by simp)) rfl
    | cons a b => exact fin _ (SeqAt.RcAt.lists_lengths l1 l2 (by simp) hu0) rfl
  · obtain ⟨i1, r1, l1⟩ := tupAt I h1
    obtain ⟨i2, r2, l2⟩ := tupAt I h2
    cases r2
    cases r1 with
    | nil => exact fin _ (SeqAt.RcAt.tuples (e := fun _ => true) l1 l2 hu0 fun j h1 h2 => absurd h1 (by simp)) rfl
    | cons a b => exact fin _ (SeqAt.RcAt.tuples (e := fun _ => true) l1 l2 hu0 fun j h1 h2 => absurd h2 (by simp)) (by simp)
end
section
variable {H : Hp} {Q : VK} {x y : V}
theorem w_eqT1 {d : PyData} {S : Addr → Prop} {z : Str} {p : Addr} (r : R S H x d) (hp : H p = some (.tup [.str z])) (q : Q (.bl (isT1 z d)) H) : oEqT1 x (.ref p) H Q := ⟨d, S, z, p, r, rfl, hp, q⟩
theorem w_eqEL {p q : Addr} {xs : List V} (h1 : H p = some (.lst xs)) (h2 : H q = some (.lst [])) (k : Q (.bl xs.isEmpty) H) : oEqE (.ref p) (.ref q) H Q := ⟨p, q, xs, rfl, rfl, .inl ⟨h1, h2⟩, k⟩
theorem w_eqET {p q : Addr} {xs : List V} (h1 : H p = some (.tup xs)) (h2 : H q = some (.tup [])) (k : Q (.bl xs.isEmpty) H) : oEqE (.ref p) (.ref q) H Q := ⟨p, q, xs, rfl, rfl, .inr ⟨h1, h2⟩, k⟩
end
end Fg
namespace L2
open PySem PySem.Spec PyProof.Rows
end L2
namespace Fg
open PySem PySem.Spec PyProof.Rows L2
section
/-- as FnOk, where no guard stands around -/
structure FnG (P : Program) (w : World) (K : PySem.W.Frag) (mg : Str → Option Value) (bs : Heap) (T : CXT) (k : Nat) (f : Addr) (fd : FuncData) (ps : List Str) (sp : Sp) : Prop where
  lenG : ∀ vs H Q E, sp vs H Q E → vs.length = ps.length
  runG : ∀ (A : Around) (ou : List Env) (st : Shared) (H : Hp) (ar : Args) (us : List Value) (vs : List V) (Q : VK) (E : XK), A.guards = some [] → Room k A → Env0 P w K mg bs A ou st H → BindsTo st fd ar (ps.zip us) → Vals vs us → sp vs H Q E → codeAny (model P w) A (.call (.ref f) ar) (CR T ou P w H st Q E) st
/-- from the body -/
theorem fnG_of {T : CXT} {P : Program} {w : World} {K : PySem.W.Frag} {mg : Str → Option Value} {bs : Heap} {k : Nat} {f : Addr} {name qual : Str} {params : Arguments} {body : List Stmt} {scope : Scope} {dV kV doc pm cdv ct oc : Value} {an od : Option Addr}
    {osl : Array (Option Value)} {N ps : List Str} {sp : Sp} (lk : K.lookup f = some ⟨oc, od, .func (PySem.W.fnOf name qual params body scope dV kV doc pm an cdv ct), osl⟩) (hcd : PySem.W.codeIn K cdv qual = true) (S : FnScope N ps scope)
    (len : ∀ vs H Q E, sp vs H Q E → vs.length = ps.length)
    (bd : ∀ (A : Around) (ou : List Env) (st : Shared) (H : Hp) (vs : List V) (Q : VK) (E : XK), A.guards = some [] → Room k (A.deeper (envOfC qual scope st.heap.objs.size f cdv)) → sp vs H Q E →
      ∃ t, PSs (cxOf T P w K mg bs N qual scope f cdv A ou st H E) body t ∧ t { nx := fun _ H' => Q .non H', rt := Q } (start N vs) H) :
    FnG P w K mg bs T (k + 1) f (PySem.W.fnOf name qual params body scope dV kV doc pm an cdv ct) ps sp := by
  refine ⟨len, fun A ou st H ar us vs Q E hG hr en hb rv hsp => ?_⟩
  have ln := len _ _ _ _ hsp
  have inK : K.In st.heap := en.mod.kin.keeps fun b o z => (en.bs b o z).1
  have free : st.heap.NoLimit := en.mod.nolimit.keeps fun b o z => (en.bs b o z).1
  have kinds : ∀ y ∈ ps.zip us, scope.names.lookup y.1 = some .local ∨ (scope.names.lookup y.1 = some .cell ∧ ((cellsFrom (st.heap.objs.size + 1) scope.names []).lookup y.1).isSome = true) := fun y hy =>
    (S.par y.1 (List.of_mem_zip (show (y.1, y.2) ∈ ps.zip us from hy)).1).elim .inl fun q => .inr ⟨q, PySem.W.cellsFrom_some _ _ _ (.inl q)⟩
  refine codeAny_call_function hr.depth (inK _ _ lk) rfl S.co S.gen rfl (PySem.W.codeRec_of inK hcd) (hb _ _ _ _ ?_)
  refine wpAny_newFunctionEnv_cells S.kind kinds fun env eq st1 cx => ?_
  subst eq
  obtain ⟨t, ht, hq⟩ := bd A ou st H vs Q E hG (hr.deeper _) hsp
  have I : Inv (cxOf T P w K mg bs N qual scope f cdv A ou st H E) [] (start N vs) H st1 := inv_start S hr.hd en ln rv cx
  refine ⟨free.keeps cx.toInCall.keep, codeAny_func (wpAny_mono (ht.run [] st1 (start N vs) H _ I hq) (fun fl st2 z => ?_) fun er st2 z => z)⟩
  match fl, z with
  | .ret u, ⟨v, σ', H', J, rv2, q⟩ => exact ⟨v, H', J.os, J.bare, J.base, J.hok, rv2, q⟩
  | .next, ⟨σ', H', J, q⟩ => exact ⟨V.non, H', J.os, J.bare, J.base, J.hok, rfl, q⟩
  | .brk, ⟨_, _, _, q⟩ => exact q.elim
  | .cont, ⟨_, _, _, q⟩ => exact q.elim
section
variable {P : Program} {w : World} {K : PySem.W.Frag} {mg : Str → Option Value} {base : Heap} {x : Str} {st : Stmt} {dvs : List V} {f : Addr} {fd : FuncData} {sp : Sp} {k : Nat}
theorem FnP.goG {N ps : List Str} (F : FnP K x st dvs f fd) (S : FnScope N ps (defScope st)) (len : ∀ vs H Q E, sp vs H Q E → vs.length = ps.length) (t : TS)
    (pure : ∀ (vs : List V) (H : Hp) (Q : VK) (E : XK), sp vs H Q E → t { nx := fun _ H' => Q .non H', rt := Q } (start N vs) H)
    (hbody : ∀ (cdv : Value) (A : Around) (outer : List Env) (s : Shared) (H : Hp) (E : XK), A.guards = some [] → Room k (A.deeper (envOfC x (defScope st) s.heap.objs.size f cdv)) →
      PSs (cxOf CX0 P w K mg base N x (defScope st) f cdv A outer s H E).nox (defBody st) t) : FnG P w K mg base CX0 (k + 1) f fd ps sp := by
  obtain ⟨oc, od, dV, kV, doc, pm, an, cdv, ct, osl, rfl, lk, hcd, _, _⟩ := F.ex
  exact fnG_of lk hcd S len fun A outer s H vs Q E hG hr h => ⟨t, PSs.nox (hbody cdv A outer s H E hG hr), pure vs H Q E h⟩
end
theorem callG {P : Program} {w : World} {K : PySem.W.Frag} {mg mb : Str → Option Value} {T : CXT} {k : Nat} {fa a : Addr} {fd : FuncData} {x : Str} {sp : Sp} {st : Shared} {vs : List Value} {ns : List Int}
    (inK : K.In st.heap) (gl : st.heap.Ns mainGlobals mg) (bl : st.heap.Ns builtinsNs mb) (bb : ∀ x : Str, x ≠ "__name__" → mb x = bootBuiltins x) (free : st.heap.NoLimit) (ng : st.gens = #[])
    (at_ : st.heap.get? a = some { cls := .type "list", data := .seq vs.toArray }) (hi : IntsAre vs ns) (hl : ns.length ≤ sizeLine) (hr : Room k callerA)
    (F : ∀ bs : Heap, K.In bs → bs.Ns mainGlobals mg → FnG P w K mg bs T k fa fd [x] sp) (bind : ∀ (s : Shared) (u : Value), BindsTo s fd ⟨[u], []⟩ [(x, u)])
    (hsp : ∀ H : Hp, Only H → SqL K H a (ns.map V.int) → sp [.ref a] H (fun v _ => v = .bl true) fun _ _ _ => False)
    (noX : ∀ H e s', T [] H st (fun _ _ _ => False) e s' → False) :
    codeAny (model P w) callerA (.call (.ref fa) ⟨[.ref a], []⟩) (fun r s' => r = .ok (.ret (.bool true)) ∧ OldK st.heap s'.heap ∧ s'.os = st.os ∧ AllBare s'.gens) st := by
  have rv : Vals (ns.map V.int) vs := vals_ints hi
  have main : ∀ H : Hp, Only H → SqL K H a (ns.map V.int) → HOk P w H st.heap → (∀ b u, H b = some u → b = a ∧ K.lookup a = none) →
      codeAny (model P w) callerA (.call (.ref fa) ⟨[.ref a], []⟩) (fun r s' => r = .ok (.ret (.bool true)) ∧ OldK st.heap s'.heap ∧ s'.os = st.os ∧ AllBare s'.gens) st := fun H hO hS hok hA => by
    have dict0 : ∀ (b : Addr) (o : Obj) (es : Array DictEntry) (ep : Nat), st.heap.get? b = some o → o.data = .dict es ep → H b = none := fun b o es ep z d => by
      cases hb : H b with
      | none => rfl
      | some u =>
        obtain ⟨rfl, _⟩ := hA b u hb
        rw [at_] at z
        cases z
        have d : Data.seq vs.toArray _ = Data.dict es ep := d
        cases d
    have ns2 : ∀ {b : Addr} {m : Str → Option Value}, st.heap.Ns b m → (hidT st.heap H).Ns b m := fun ⟨o, es, ep, z, d, r⟩ => ⟨o, es, ep, hidT_get z (dict0 _ _ _ _ z d), d, r⟩
    have inB : K.In (hidT st.heap H) := fun b o z => hidT_get (inK b o z) (by
      cases hb : H b with
      | none => rfl
      | some u =>
        obtain ⟨rfl, n⟩ := hA b u hb
        rw [n] at z
        cases z)
    obtain ⟨mc, l1, l2⟩ := free
    have en : Env0 P w K mg (hidT st.heap H) callerA [] st H := ⟨rfl, ⟨inB, ns2 gl, ⟨mb, ns2 bl, bb⟩, ⟨mc, ns2 l1, l2⟩⟩, fun b o z => of_hidT z, Nat.le_of_eq (hidT_size _ _), trivial, (fun b hb => by cases hb), hok, .of_eq ng⟩
    refine codeAny_mono ((F _ inB (ns2 gl)).runG callerA [] st H ⟨[.ref a], []⟩ [.ref a] [.ref a] _ _ rfl hr en (bind st (.ref a)) (.cons rfl .nil) (hsp H hO hS)) fun res s' z => ?_
    match res, z with
    | .error e, z => exact (noX H e s' z).elim
    | .ok .next, z => exact z.elim
    | .ok .brk, z => exact z.elim
    | .ok .cont, z => exact z.elim
    | .ok (.ret u), ⟨v, H', os, bare, un, hok', r', q⟩ =>
      cases (show v = .bl true from q)
      cases (show u = Value.bool true from r')
      refine ⟨rfl, OldK.of_keep fun b o z => ?_, os, bare⟩
      cases hb : H b with
      | none => exact un.keep b o z hb (fun z => by cases z) (fun z => by cases z)
      | some u =>
        rcases hO b with n | ⟨ob, xs, n⟩
        · rw [hb] at n
          cases n
        · have e1 := (hok b _ n).1
          have e2 := (hok' b _ (un.frzs b ob _ n)).1
          rw [z] at e1
          cases e1
          exact e2
  cases hk : K.lookup a with
  | some o =>
    have z := inK a o hk
    rw [at_] at z
    cases z
    exact main (fun _ => none) (fun _ => .inl rfl) (.inr ⟨_, vs.toArray, _, hk, rfl, rfl, rfl, by rw [List.size_toArray, hi.length]; exact hl, by simpa using rv⟩) (fun b u z => by cases z) fun b u z => by cases z
  | none =>
    have eqA : ∀ b, (if b = a then some (HO.frz { cls := .type "list", data := .seq vs.toArray } (.lst (ns.map V.int))) else none) = none ∨ b = a := fun b => by
      by_cases hb : b = a
      · exact .inr hb
      · exact .inl (if_neg hb)
    refine main (fun b => if b = a then some (.frz { cls := .type "list", data := .seq vs.toArray } (.lst (ns.map V.int))) else none) (fun b => (eqA b).imp id fun hb => ⟨_, _, if_pos hb⟩) (.inl (.inr ⟨{ cls := .type "list", data := .seq vs.toArray }, if_pos rfl⟩)) (fun b u z => ?_) fun b u z => ?_
    · rcases eqA b with n | rfl
      · cases (show some u = none from z.symm.trans n)
      · cases (if_pos rfl).symm.trans z
        exact ⟨at_, by rw [List.length_map]; exact hl, vs, _, rv, at_⟩
    · rcases eqA b with n | rfl
      · cases (show some u = none from z.symm.trans n)
      · exact ⟨rfl, hk⟩
theorem walkG {l : PySem.W.OpenLaw} {n k : Nat} {q : Program} {loose : List Str} {XP : (Str → Option Value) → Heap → Prop} {YP : World → Heap → Prop} {d : DefRec} {T : CXT} {x : Str}
    (hn : l.most = some n) (hn2 : n ≤ sizeLine) (hdf : d.params.defaults = []) (hr : Room k callerA)
    (F : ∀ (w : World) (mg : Str → Option Value) (fa : Addr) (h : Heap), YP w h → h.Ns mainGlobals mg → mg d.name = some (.ref fa) →
      ∃ (K : PySem.W.Frag) (fd : FuncData) (sp : Sp), K.In h ∧ (∀ (s : Shared) (u : Value), BindsTo s fd ⟨[u], []⟩ [(x, u)]) ∧
        (∀ (H : Hp) (a : Addr) (ns : List Int), ns.length ≤ n → Only H → SqL K H a (ns.map V.int) → sp [.ref a] H (fun v _ => v = .bl true) fun _ _ _ => False) ∧
        ∀ bs : Heap, K.In bs → bs.Ns mainGlobals mg → FnG l.prog w K mg bs T k fa fd [x] sp)
    (noX : ∀ (H : Hp) (s : Shared) (e : Value) (s' : Shared), T [] H s (fun _ _ _ => False) e s' → False) :
    PySem.W.WalkO q loose XP YP l.row.toRowW d [] (fun f vs => PySem.call f vs) := by
  refine Att.attach_call hn hdf fun w s₀ st mg mb fa o pm cd doc a vs ns G Y ho hd hcd hmg hobj hints hlen hg => ?_
  obtain ⟨K, fd, sp, inK, hb, hsp, hF⟩ := F w mg fa _ Y G.T.g hmg
  exact callG inK G.T.g G.T.b G.T.builtins G.T.nolimit hg hobj hints (Nat.le_trans hlen hn2) hr hF hb (fun H hO hS => hsp H a ns hlen hO hS) fun H e s' => noX H st e s'
end
end Fg
namespace Fg
open PySem PySem.Spec PyProof.Rows L2
local macro_rules | `(tactic| walk_at "len") => `(tactic| first | exact (fun ⟨e, _⟩ => by rw [e]; rfl) | (refine exL ?_; intro _; walk_at "len"))
def topS (i : Nat) : Stmt := PySem.Challenge.pw_forkgather_k04_helpers_turned.main.body.getD i (.Pass ⟨0, 0, 0, 0⟩)
abbrev s_NoProgram___init__ : Stmt := inClass (topS 2) 0
abbrev s_is_whole : Stmt := topS 13
abbrev s_is_name : Stmt := topS 14
abbrev s_is_expression : Stmt := topS 15
abbrev s_is_step : Stmt := topS 16
abbrev s_has_form : Stmt := topS 17
abbrev s_first_wrong : Stmt := topS 18
abbrev s_is_program : Stmt := topS 19
abbrev s_check : Stmt := topS 20
abbrev s__law_cell_at : Stmt := topS 22
abbrev s__law_bag : Stmt := topS 23
abbrev s__law_draw : Stmt := topS 24
abbrev s__law_name : Stmt := topS 25
abbrev s__law_names : Stmt := topS 26
abbrev s__law_number : Stmt := topS 27
abbrev s__law_expression : Stmt := topS 28
abbrev s__law_step : Stmt := topS 29
abbrev s__law_program : Stmt := topS 30
abbrev s__law_odd : Stmt := topS 31
abbrev s__law_is_name : Stmt := topS 32
abbrev s__law_is_whole : Stmt := topS 33
abbrev s__law_is_expression : Stmt := topS 34
abbrev s__law_is_step : Stmt := topS 35
abbrev s__law_wrong : Stmt := topS 36
abbrev s__law_told : Stmt := topS 37
abbrev s__law_alike : Stmt := topS 38
abbrev s__law_no_name : Stmt := topS 39
abbrev s__law_row_turned : Stmt := topS 40
abbrev s__law_turned : Stmt := topS 41
abbrev s_law : Stmt := topS 42
def d_NoProgram___init__ : He.DefD := ⟨("NoProgram", some "__init__"), "__init__", "NoProgram.__init__", defArgs s_NoProgram___init__, defBody s_NoProgram___init__, defScope s_NoProgram___init__, [], []⟩
def d_is_whole : He.DefD := ⟨("is_whole", none), "is_whole", "is_whole", defArgs s_is_whole, defBody s_is_whole, defScope s_is_whole, [], []⟩
def d_is_name : He.DefD := ⟨("is_name", none), "is_name", "is_name", defArgs s_is_name, defBody s_is_name, defScope s_is_name, [], []⟩
def d_is_expression : He.DefD := ⟨("is_expression", none), "is_expression", "is_expression", defArgs s_is_expression, defBody s_is_expression, defScope s_is_expression, [.int 5], []⟩
def d_is_step : He.DefD := ⟨("is_step", none), "is_step", "is_step", defArgs s_is_step, defBody s_is_step, defScope s_is_step, [], []⟩
def d_has_form : He.DefD := ⟨("has_form", none), "has_form", "has_form", defArgs s_has_form, defBody s_has_form, defScope s_has_form, [], []⟩
def d_first_wrong : He.DefD := ⟨("first_wrong", none), "first_wrong", "first_wrong", defArgs s_first_wrong, defBody s_first_wrong, defScope s_first_wrong, [], []⟩
def d_is_program : He.DefD := ⟨("is_program", none), "is_program", "is_program", defArgs s_is_program, defBody s_is_program, defScope s_is_program, [], []⟩
def d_check : He.DefD := ⟨("check", none), "check", "check", defArgs s_check, defBody s_check, defScope s_check, [], []⟩
def d__law_cell_at : He.DefD := ⟨("_law_cell_at", none), "_law_cell_at", "_law_cell_at", defArgs s__law_cell_at, defBody s__law_cell_at, defScope s__law_cell_at, [], []⟩
def d__law_bag : He.DefD := ⟨("_law_bag", none), "_law_bag", "_law_bag", defArgs s__law_bag, defBody s__law_bag, defScope s__law_bag, [], []⟩
def d__law_draw : He.DefD := ⟨("_law_draw", none), "_law_draw", "_law_draw", defArgs s__law_draw, defBody s__law_draw, defScope s__law_draw, [], []⟩
def d__law_name : He.DefD := ⟨("_law_name", none), "_law_name", "_law_name", defArgs s__law_name, defBody s__law_name, defScope s__law_name, [], []⟩
def d__law_names : He.DefD := ⟨("_law_names", none), "_law_names", "_law_names", defArgs s__law_names, defBody s__law_names, defScope s__law_names, [], []⟩
def d__law_number : He.DefD := ⟨("_law_number", none), "_law_number", "_law_number", defArgs s__law_number, defBody s__law_number, defScope s__law_number, [], []⟩
def d__law_expression : He.DefD := ⟨("_law_expression", none), "_law_expression", "_law_expression", defArgs s__law_expression, defBody s__law_expression, defScope s__law_expression, [], []⟩
def d__law_step : He.DefD := ⟨("_law_step", none), "_law_step", "_law_step", defArgs s__law_step, defBody s__law_step, defScope s__law_step, [], []⟩
def d__law_program : He.DefD := ⟨("_law_program", none), "_law_program", "_law_program", defArgs s__law_program, defBody s__law_program, defScope s__law_program, [], []⟩
def d__law_odd : He.DefD := ⟨("_law_odd", none), "_law_odd", "_law_odd", defArgs s__law_odd, defBody s__law_odd, defScope s__law_odd, [], []⟩
def d__law_is_name : He.DefD := ⟨("_law_is_name", none), "_law_is_name", "_law_is_name", defArgs s__law_is_name, defBody s__law_is_name, defScope s__law_is_name, [], []⟩
def d__law_is_whole : He.DefD := ⟨("_law_is_whole", none), "_law_is_whole", "_law_is_whole", defArgs s__law_is_whole, defBody s__law_is_whole, defScope s__law_is_whole, [], []⟩
def d__law_is_expression : He.DefD := ⟨("_law_is_expression", none), "_law_is_expression", "_law_is_expression", defArgs s__law_is_expression, defBody s__law_is_expression, defScope s__law_is_expression, [], []⟩
def d__law_is_step : He.DefD := ⟨("_law_is_step", none), "_law_is_step", "_law_is_step", defArgs s__law_is_step, defBody s__law_is_step, defScope s__law_is_step, [], []⟩
def d__law_wrong : He.DefD := ⟨("_law_wrong", none), "_law_wrong", "_law_wrong", defArgs s__law_wrong, defBody s__law_wrong, defScope s__law_wrong, [], []⟩
def d__law_told : He.DefD := ⟨("_law_told", none), "_law_told", "_law_told", defArgs s__law_told, defBody s__law_told, defScope s__law_told, [], []⟩
def d__law_alike : He.DefD := ⟨("_law_alike", none), "_law_alike", "_law_alike", defArgs s__law_alike, defBody s__law_alike, defScope s__law_alike, [], []⟩
def d__law_no_name : He.DefD := ⟨("_law_no_name", none), "_law_no_name", "_law_no_name", defArgs s__law_no_name, defBody s__law_no_name, defScope s__law_no_name, [], []⟩
def d__law_row_turned : He.DefD := ⟨("_law_row_turned", none), "_law_row_turned", "_law_row_turned", defArgs s__law_row_turned, defBody s__law_row_turned, defScope s__law_row_turned, [], []⟩
def d__law_turned : He.DefD := ⟨("_law_turned", none), "_law_turned", "_law_turned", defArgs s__law_turned, defBody s__law_turned, defScope s__law_turned, [], []⟩
def d_law : He.DefD := ⟨("law", none), "law", "law", defArgs s_law, defBody s_law, defScope s_law, [], []⟩
def fn : List He.DefD := [d_is_whole, d_is_name, d_is_expression, d_is_step, d_has_form, d_first_wrong, d_is_program, d_check, d__law_cell_at, d__law_bag, d__law_draw, d__law_name, d__law_names, d__law_number, d__law_expression, d__law_step, d__law_program, d__law_odd, d__law_is_name, d__law_is_whole, d__law_is_expression, d__law_is_step, d__law_wrong, d__law_told, d__law_alike, d__law_no_name, d__law_row_turned, d__law_turned, d_law, d_NoProgram___init__]
def fa : List He.Fa := [.glo "is_whole", .glo "is_name", .glo "is_expression", .glo "is_step", .glo "has_form", .glo "first_wrong", .glo "is_program", .glo "check", .glo "_law_cell_at", .glo "_law_bag", .glo "_law_draw", .glo "_law_name", .glo "_law_names", .glo "_law_number", .glo "_law_expression", .glo "_law_step", .glo "_law_program", .glo "_law_odd", .glo "_law_is_name", .glo "_law_is_whole", .glo "_law_is_expression", .glo "_law_is_step", .glo "_law_wrong", .glo "_law_told", .glo "_law_alike", .glo "_law_no_name", .glo "_law_row_turned", .glo "_law_turned", .glo "law", .glo "WorkError", .glo "NoProgram", .glo "NoHelper", .glo "TooLong", .glo "NoMark", .glo "NoHand", .glo "NotOver", .glo "NoText", .free "ValueError", .free "all", .free "range", .free "list", .free "sorted", .free "isinstance", .free "int", .free "len", .free "enumerate", .free "max", .free "str", .free "bool", .free "tuple", .free "min", .free "zip", .str "LETTERS" letters, .int "LONGEST_NAME" 8, .glo "PARTS"]
def ts : List He.Tab := [(fun K => He.ga K "PARTS", partK)]
def ex (K : PySem.W.Frag) : Bool := He.valsB K (He.ga K "PARTS") partV && (xfOk K && (decide ((K.lookup sysModules).isSome = true)))
abbrev R0 : PySem.W.OpenRow := PySem.W.OpenLaw.row PySem.Challenge.rw_forkgather_k04_helpers_turned
abbrev hk : PySem.W.Hook := hookZ 5 fa fn ts ex
def ob (s : PySem.W.SharedT) : He.AlX := obsZ 5 fa fn ts ex (HandSHeadRun.getT s)
theorem ob_eq (s : PySem.W.SharedT) : ob s = hk.obs s.abs := obsZ_eq (HandSHeadRun.getT_eq s)
def names : List Str := [Str.ofString "WorkError", Str.ofString "NoProgram", Str.ofString "NoHelper", Str.ofString "TooLong", Str.ofString "NoMark", Str.ofString "NoHand", Str.ofString "NotOver", Str.ofString "NoText", Str.ofString "LETTERS", Str.ofString "LONGEST_NAME", Str.ofString "PARTS", Str.ofString "is_whole", Str.ofString "is_name", Str.ofString "is_expression", Str.ofString "is_step", Str.ofString "has_form", Str.ofString "first_wrong", Str.ofString "is_program", Str.ofString "check", Str.ofString "_law_cell_at", Str.ofString "_law_bag", Str.ofString "_law_draw", Str.ofString "_law_name", Str.ofString "_law_names", Str.ofString "_law_number", Str.ofString "_law_expression", Str.ofString "_law_step", Str.ofString "_law_program", Str.ofString "_law_odd", Str.ofString "_law_is_name", Str.ofString "_law_is_whole", Str.ofString "_law_is_expression", Str.ofString "_law_is_step", Str.ofString "_law_wrong", Str.ofString "_law_told", Str.ofString "_law_alike", Str.ofString "_law_no_name", Str.ofString "_law_row_turned", Str.ofString "_law_turned"]
theorem run_f (w : World) : HandSHeadRun.RunEq R0 (PySem.W.view R0.prog [42]) hk ob 4000 names (w.withFollow "special-get-raises" false) := fun os => by kernel_rfl
theorem run_t (w : World) : HandSHeadRun.RunEq R0 (PySem.W.view R0.prog [42]) hk ob 4000 names (w.withFollow "special-get-raises" true) := fun os => by kernel_rfl
theorem run (w : World) : HandSHeadRun.RunEq R0 (PySem.W.view R0.prog [42]) hk ob 4000 names w :=
  PySem.W.byRow2 "special-get-raises" (P := fun w => HandSHeadRun.RunEq R0 (PySem.W.view R0.prog [42]) hk ob 4000 names w) run_f run_t w
set_option maxHeartbeats 0 in
open PySem.W PySem.Calls in
theorem close (sp : PySem.W.Frag → Sp) (hsp : ∀ (K : PySem.W.Frag) (H : Hp) (a : Addr) (ns : List Int), ns.length ≤ 63 → SqL K H a (ns.map V.int) → sp K [.ref a] H (fun v _ => v = .bl true) (fun _ _ _ => False))
    (facts : ∀ {w : World} {K : PySem.W.Frag} {h : Heap} {mg : Str → Option Value} {f : Addr}, K.In h → h.Ns mainGlobals mg → mg ("law" : Str) = some (.ref f) → He.SaysX fa fn ts [] ex w h K →
      ∃ fd : FuncData, (∀ (s : Shared) (v : Value), BindsTo s fd ⟨[v], []⟩ [("script", v)]) ∧ ∀ base : Heap, K.In base → base.Ns mainGlobals mg → FnG (PySem.Challenge.rw_forkgather_k04_helpers_turned).prog w K mg base CX0 14 f fd ["script"] (sp K)) : PySem.Challenge.rw_forkgather_k04_helpers_turned.Holds := by
  w_on; o_law
  refine HandSHeadRun.head_any (r := OpenLaw.row PySem.Challenge.rw_forkgather_k04_helpers_turned) (q := view (OpenLaw.row PySem.Challenge.rw_forkgather_k04_helpers_turned).prog [42]) (H := Fg.hk) (ob := Fg.ob) (M := 4000) (loose := Fg.names) (d := HandSHeadRun.topDef (OpenLaw.row PySem.Challenge.rw_forkgather_k04_helpers_turned).prog 42) (kwd := []) Fg.ob_eq
    (by kernel_rfl) (fun s => by kernel_rfl) Fg.run (by kernel_rfl) (by kernel_rfl) (by kernel_rfl) (by rfl) (by first | assumption | decide +kernel) (by decide +kernel) ⟨rfl, rfl, rfl, rfl, rfl, by decide +kernel⟩ ?hw ?hc
  case hw => w_witness2
  case hc =>
    refine walkG (l := PySem.Challenge.rw_forkgather_k04_helpers_turned) (n := 63) (k := 14) (x := "script") (T := L2.CX0) rfl (by decide) (by kernel_rfl) ⟨rfl, by decide, by decide⟩ ?F (fun _ _ _ _ z => z)
    intro w mg fa h Y G hmg0
    obtain ⟨K, KX, c⟩ := Y
    have hmg : mg ("law" : PySem.Str) = some (.ref fa) := by
      have e : (HandSHeadRun.topDef (OpenLaw.row PySem.Challenge.rw_forkgather_k04_helpers_turned).prog 42).name = ("law" : PySem.Str) := by kernel_rfl
      rw [← e]
      exact hmg0
    obtain ⟨fd, hb, hF⟩ := facts (w := w) KX G hmg c
    exact ⟨K, fd, sp K, KX, hb, fun H a ns hl _ hS => hsp K H a ns hl hS, hF⟩
end Fg
namespace Fg
open PySem PySem.Spec PyProof.Rows L2
local macro_rules | `(tactic| walk_at "hp") => `(tactic| first
  | assumption
  | exact upd_same
  | (refine Chg.at (by assumption) ?_; walk_at "hp")
  | (refine Chg.at1 (by assumption) ?_ (by walk_at "ne"); walk_at "hp"))
local macro_rules | `(tactic| walk_at "ne") => `(tactic| first | assumption | (apply Ne.symm; assumption))
local macro_rules | `(tactic| walk_at "sq") => `(tactic| first | assumption | exact sqL (by walk_at "hp") | (refine Chg.seq (by assumption) ?_; walk_at "sq"))
local macro_rules | `(tactic| walk_at "sz") => `(tactic| first | assumption | exact Nat.zero_le _ | (simp only [List.length_cons, List.length_nil]; decide) | exact Nat.le_trans (by first | omega | (simp; done) | (simp; omega)) (show 100000 ≤ sizeLine by decide) | exact Nat.lt_of_lt_of_le (by first | omega | (simp; done) | (simp; omega)) (show 100000 ≤ sizeLine by decide))
local macro_rules | `(tactic| walk_at "ix") => `(tactic| first | exact at0 | exact at1 | exact at2 | exact at3 | assumption | exact rfl | walk_at "ix2")
local macro_rules | `(tactic| walk_at "ix2") => `(tactic| fail)
local macro_rules | `(tactic| walk_at "num") => `(tactic| first | assumption | omega | decide | walk_at "num2")
local macro_rules | `(tactic| walk_at "num2") => `(tactic| fail)
local macro_rules | `(tactic| walk_at "im") => `(tactic| first | assumption | exact R.non (S := fun _ => False) | exact R.bl (S := fun _ => False) _ | exact R.int (S := fun _ => False) _ | exact R.str (S := fun _ => False) _ | (refine R.im (by assumption) ?_; walk_at "im"))
local macro_rules | `(tactic| walk_at "r") => `(tactic| first | assumption | exact R.non (S := fun _ => False) | exact R.bl (S := fun _ => False) _ | exact R.int (S := fun _ => False) _ | exact R.str (S := fun _ => False) _ | (refine R.same (by assumption) ?_; walk_at "r") | exact R.any (by walk_at "im"))
local macro_rules | `(tactic| walk_at "chg") => `(tactic| first
  | exact Chg.refl
  | assumption
  | (refine Chg.same ?_ (by assumption); walk_at "chg")
  | (refine Chg.both ?_ (by assumption); walk_at "chg")
  | (refine Chg.pre (by assumption) ?_; walk_at "chg"))
local macro_rules | `(tactic| walk_at "w1") => `(tactic| first
  | with_reducible apply w_seq
  | with_reducible apply w_asg
  | ((with_reducible apply w_var); (focus (exact rfl)))
  | with_reducible apply w_c
  | with_reducible apply w_op
  | with_reducible apply w_cons
  | with_reducible apply w_nil
  | with_reducible apply w_gName
  | with_reducible apply w_if
  | with_reducible apply w_test
  | with_reducible apply w_B
  | with_reducible apply w_isbl
  | with_reducible apply w_retN
  | with_reducible apply w_next
  | with_reducible apply w_drop
  | with_reducible apply w_cb
  | with_reducible apply w_call
  | with_reducible apply w_callN
  | with_reducible apply w_bm
  | with_reducible apply w_bm0
  | ((with_reducible apply w_tyL); (focus (walk_at "hp"; done)))
  | with_reducible apply w_dput
  | with_reducible apply w_m1
  | with_reducible apply w_isstr
  | with_reducible apply w_and
  | with_reducible apply w_or
  | with_reducible apply w_not
  | with_reducible apply w_andV
  | with_reducible apply w_orV
  | with_reducible apply w_notV
  | with_reducible apply w_ifE
  | with_reducible apply w_chain
  | with_reducible apply w_un
  | with_reducible apply w_neg
  | with_reducible apply w_add
  | with_reducible apply w_sub
  | ((with_reducible apply w_mod); (focus (walk_at "num"; done)))
  | ((with_reducible apply w_mul); (focus (walk_at "num"; done)))
  | ((with_reducible apply w_fdiv); (focus (walk_at "num"; done)))
  | ((with_reducible apply w_pow); (focus (walk_at "num"; done)))
  | with_reducible apply w_lt
  | with_reducible apply w_le
  | with_reducible apply w_gt
  | with_reducible apply w_ge
  | with_reducible apply w_ltS
  | with_reducible apply w_geS
  | with_reducible apply w_inC
  | with_reducible apply w_notInC
  | with_reducible apply w_isN
  | with_reducible apply w_notN
  | with_reducible apply w_isB
  | with_reducible apply w_notB
  | ((with_reducible apply w_addS); (focus (walk_at "sz"; done)))
  | ((with_reducible apply w_ixL); (focus (walk_at "sq"; done)); (focus (walk_at "ix"; done)))
  | ((with_reducible apply w_ixT); (focus (walk_at "hp"; done)); (focus (walk_at "ix"; done)))
  | ((with_reducible apply w_ixS); (focus (walk_at "sz"; done)); (focus (walk_at "ix"; done)))
  | with_reducible apply w_gSub
  | ((with_reducible apply w_gTup); (focus (walk_at "hp"; done)); (focus (exact rfl)))
  | with_reducible apply w_gCons
  | with_reducible apply w_gNil
  | ((with_reducible apply w_aug); (focus (exact rfl)))
  | with_reducible apply w_ipI
  | ((with_reducible apply w_eq); (focus (exact rfl)))
  | ((with_reducible apply w_ne); (focus (exact rfl)))
  | with_reducible apply w_max
  | with_reducible apply w_min
  | with_reducible apply w_abs
  | with_reducible apply w_intB
  | with_reducible apply w_intI
  | with_reducible apply w_tup1
  | with_reducible apply w_lst1
  | with_reducible apply w_sl
  | with_reducible apply w_part
  | with_reducible apply w_noPart
  | with_reducible apply w_isint
  | ((with_reducible apply w_slS); (focus (walk_at "sz"; done)))
  | with_reducible apply w_iteT
  | with_reducible apply w_iteF
  | with_reducible apply w_iteN
  | ((with_reducible apply w_iteYes); (focus (exact rfl)))
  | ((with_reducible apply w_iteNo); (focus (exact rfl)))
  | ((with_reducible apply w_lenL); (focus (walk_at "sq"; done)))
  | ((with_reducible apply w_lenT); (focus (walk_at "hp"; done)))
  | ((with_reducible apply w_lenS); (focus (walk_at "sz"; done)))
  | with_reducible apply w_lc
  | with_reducible apply w_for
  | with_reducible apply w_yes
  | ((with_reducible apply w_wipe); (focus (exact rfl)))
  | with_reducible apply w_iList
  | with_reducible apply w_iTup
  | with_reducible apply w_iStr
  | with_reducible apply w_iRng1
  | with_reducible apply w_iRng2
  | with_reducible apply w_iZip
  | with_reducible apply w_iEnum
  | ((with_reducible apply d_iList); (focus (walk_at "sq"; done)))
  | ((with_reducible apply d_iTup); (focus (walk_at "hp"; done)))
  | with_reducible apply d_iStr
  | ((with_reducible apply d_iRng1); (focus (walk_at "num"; done)); (focus (walk_at "num"; done)))
  | ((with_reducible apply d_iRng2); (focus (walk_at "num"; done)); (focus (walk_at "num"; done)); (focus (walk_at "num"; done)); (focus (walk_at "num"; done)))
  | ((with_reducible apply d_iZip); (focus (walk_at "sq"; done)); (focus (walk_at "sq"; done)))
  | ((with_reducible apply d_iEnum); (focus (walk_at "sq"; done)))
  | walk_at "w2")
local macro_rules | `(tactic| walk_at "w2") => `(tactic| fail)
local macro_rules | `(tactic| walk_at "wn") => `(tactic| repeat walk_at "w1")
local macro_rules | `(tactic| walk_at "w") => `(tactic| repeat (first | walk_at "w1" | with_reducible apply w_ret))
local macro_rules | `(tactic| walk_at "w2") => `(tactic| first
  | ((with_reducible apply w_isInt); (focus (walk_at "r"; done)))
  | ((with_reducible apply w_isBool); (focus (walk_at "r"; done)))
  | ((with_reducible apply w_isStr); (focus (walk_at "r"; done)))
  | ((with_reducible apply w_isTup); (focus (walk_at "r"; done)))
  | ((with_reducible apply w_isLst); (focus (walk_at "r"; done)))
  | ((with_reducible apply w_notInP); (focus (assumption)))
  | ((with_reducible apply w_ixP); (focus (assumption)); (focus (assumption))))
section
abbrev fin (Q : VK) : Ends := { nx := fun _ H' => Q .non H', rt := Q }
def t_is_whole (K : PySem.W.Frag) : TS :=
    tRet (tAndV (tCB (rIsi K) (tCons (tVar 0) (tCons (tC (.ty "int")) (tNil)))) (tNotV (tCB (rIsi K) (tCons (tVar 0) (tCons (tC (.ty "bool")) (tNil))))))
def sp_is_whole : Sp := fun vs H Q _ => ∃ (v : V) (d : PyData) (S : Addr → Prop), vs = [v] ∧ R S H v d ∧ Q (.bl (isWhole d)) H
theorem pure_is_whole {K : PySem.W.Frag} (vs : List V) (H : Hp) (Q : VK) (E : XK) (h : sp_is_whole vs H Q E) : t_is_whole K (fin Q) (start ["thing"] vs) H := by
  obtain ⟨v, d, S, rfl, r, q⟩ := h
  show t_is_whole K _ [some v] H
  unfold t_is_whole
  walk_at "w"
  cases d <;> (walk_at "w"; exact q)
def t_is_name (K : PySem.W.Frag) : TS :=
    tSeq (tIfS (tOr (tNot (tB (tCB (rIsi K) (tCons (tVar 0) (tCons (tC (.ty "str")) (tNil)))))) (tOr (tTest (tOp oLt (tCB cLenS (tCons (tVar 0) (tNil))) (tC (.int 1)))) (tTest (tOp oGt (tCB cLenS (tCons (tVar 0) (tNil))) (tC (.int 8)))))) (tRet (tC (.bl false))) (tNext))
    (tRet (tCB (rAll K) (tCons (tLc (iStr (tVar 0)) (gName 1) (tYes) (tOp oInC (tVar 1) (tC (.str letters))) [1]) (tNil))))
def sp_is_name : Sp := fun vs H Q _ => ∃ (v : V) (d : PyData) (S : Addr → Prop), vs = [v] ∧ R S H v d ∧ (∀ x, d = .str x → x.length ≤ 100000) ∧ ∀ H', Chg [] H H' → Q (.bl (isName d)) H'
theorem pure_is_name {K : PySem.W.Frag} (vs : List V) (H : Hp) (Q : VK) (E : XK) (h : sp_is_name vs H Q E) : t_is_name K (fin Q) (start ["thing", "sign"] vs) H := by
  obtain ⟨v, d, S, rfl, r, hx, q⟩ := h
  show t_is_name K _ [some v, none] H
  unfold t_is_name
  walk_at "w"
  have q0 := q H .refl
  cases r with
  | str x =>
    have hz := hx x rfl
    walk_at "w"
    refine w_iteD (fun h => ?_) (fun h => ?_)
    · walk_at "w"
      have e : isName (.str x) = false := by
        show (decide (1 ≤ x.length) && decide (x.length ≤ 8) && x.cps.toList.all isLow) = false
        rw [decide_eq_false (by omega)]
        rfl
      rw [e] at q0
      exact q0
    walk_at "w"
    refine w_iteD (fun h2 => ?_) (fun h2 => ?_)
    · walk_at "w"
      have e : isName (.str x) = false := by
        show (decide (1 ≤ x.length) && decide (x.length ≤ 8) && x.cps.toList.all isLow) = false
        rw [decide_eq_false (p := x.length ≤ 8) (by omega), Bool.and_false]
        rfl
      rw [e] at q0
      exact q0
    walk_at "w"
    have hl : x.cps.size ≤ 100000 := hz
    refine w_lcP walk_str [] (fun _ _ => True) (fun i y _ => ∃ c, x.cps[i]? = some c ∧ y = .bl (isLow c)) trivial (fun _ _ _ _ _ _ _ => trivial) (fun _ _ => trivial) (fun D i acc z H1 H2 hi nD hD el iv c _ y => ?_) (fun D acc H1 nD c _ el hD ys => ?_)
    · obtain ⟨rfl, ch, ec, rfl⟩ := y
      walk_at "w"
      exact lcp_end (fun _ _ _ _ _ _ _ => trivial) (fun _ _ _ _ _ _ _ h => h) nD (by simp) hD el (by omega) iv .refl trivial ⟨ch, ec, rfl⟩
    · have e : acc = (x.cps.toList.map isLow).map V.bl := by
        refine all_bl el (by simp) fun i y hy => ?_
        obtain ⟨ch, ec, rfl⟩ := ys i y hy
        refine ⟨isLow ch, ?_, rfl⟩
        rw [List.getElem?_map, Array.getElem?_toList, ec]
        rfl
      subst e
      walk_at "w"
      refine w_all hD ?_
      have e2 : (x.cps.toList.map isLow).all id = isName (.str x) := by
        show _ = (decide (1 ≤ x.length) && decide (x.length ≤ 8) && x.cps.toList.all isLow)
        rw [decide_eq_true (by omega), decide_eq_true (by omega), List.all_map]
        rfl
      walk_at "w"
      rw [e2]
      exact q H1 c
  | _ => 
    walk_at "w"
    exact q0
end
section
def sp_is_expression (n : Nat) : Sp := fun vs H Q _ => ∃ (v : V) (d : PyData) (S : Addr → Prop) (m : Nat), vs = [v, .int (m : Nat)] ∧ m + 1 ≤ n ∧ R S H v d ∧ ∀ H', Chg [] H H' → Q (.bl (isExpr m d)) H'
theorem no_is_expression (vs : List V) (H : Hp) (Q : VK) (E : XK) : ¬ sp_is_expression 0 vs H Q E := by
  rintro ⟨v, d, S, m, _, h, _⟩
  omega
def t_is_expression (K : PySem.W.Frag) (w : World) (dP : Addr) (n : Nat) : TS :=
    tSeq (tIfS (tTest (tOp oLt (tVar 1) (tC (.int 1)))) (tRet (tC (.bl false))) (tNext))
    (tSeq (tIfS (tB (tCall sp_is_whole [] E0 (tCons (tVar 0) (tNil)))) (tRet (tC (.bl true))) (tNext))
    (tSeq (tIfS (tOr (tNot (tB (tCB (rIsi K) (tCons (tVar 0) (tCons (tC (.ty "tuple")) (tNil)))))) (tOr (tTest (tOp oLt (tCB (cLenQ K) (tCons (tVar 0) (tNil))) (tC (.int 1)))) (tNot (tB (tCB (rIsi K) (tCons (tOp (rIxT K) (tVar 0) (tC (.int 0))) (tCons (tC (.ty "str")) (tNil)))))))) (tRet (tC (.bl false))) (tNext))
    (tSeq (tIfS (tOr (tTest (tOp (oNotInKd K dP) (tOp (rIxT K) (tVar 0) (tC (.int 0))) (tC (.ref dP)))) (tTest (tOp rNe (tCB (cLenQ K) (tCons (tVar 0) (tNil))) (tOp oAdd (tOp (rIxD K w) (tC (.ref dP)) (tOp (rIxT K) (tVar 0) (tC (.int 0)))) (tC (.int 1)))))) (tRet (tC (.bl false))) (tNext))
    (tRet (tCB (rAll K) (tCons (tLc (iTup K (tSl (rSlA K) (tVar 0) (tPart (tC (.int 1))) (tNoPart))) (gName 2) (tYes) (tCall (sp_is_expression n) [] E0 (tCons (tVar 2) (tCons (tOp oSub (tVar 1) (tC (.int 1))) (tNil)))) [2]) (tNil)))))))
theorem pure_is_expression {K : PySem.W.Frag} {w : World} {dP : Addr} (T : Parts K w dP) (n : Nat) (vs : List V) (H : Hp) (Q : VK) (E : XK) (h : sp_is_expression (n + 1) vs H Q E) : t_is_expression K w dP n (fin Q) (start ["thing", "most", "one"] vs) H := by
  obtain ⟨v, d, S, m, rfl, hm, r, q⟩ := h
  show t_is_expression K w dP n _ [some v, some (.int (m : Nat)), none] H
  unfold t_is_expression
  have q0 := q H .refl
  walk_at "w"
  refine w_iteD (fun h => ?_) (fun h => ?_)
  · walk_at "w"
    have e : m = 0 := by omega
    subst e
    exact q0
  obtain ⟨k, rfl⟩ : ∃ k, m = k + 1 := ⟨m - 1, by omega⟩
  walk_at "w"
  refine ⟨v, d, S, rfl, r, ?_⟩
  walk_at "w"
  cases r with
  | int i => walk_at "w"; exact q0
  | non => walk_at "w"; exact q0
  | bl b => walk_at "w"; exact q0
  | str b => walk_at "w"; exact q0
  | lst s e a =>
    have r := R.lst s e a
    walk_at "w"; exact q0
  | dic s e =>
    have r := R.dic s e
    walk_at "w"; exact q0
  | @tup a xs ds e ra =>
    have r := R.tup e ra
    walk_at "w"
    cases ra with
    | nil =>
      walk_at "w"
      exact q0
    | @cons v0 vs0 d0 ds0 r0 rs =>
      refine w_iteD (fun h => ?_) (fun _ => ?_)
      · rw [List.length_cons] at h
        omega
      walk_at "w"
      cases r0 with
      | int i => walk_at "w"; exact q0
      | non => walk_at "w"; exact q0
      | bl b => walk_at "w"; exact q0
      | lst s1 e1 a1 =>
        have r := R.lst s1 e1 a1
        walk_at "w"; exact q0
      | dic s1 e1 =>
        have r := R.dic s1 e1
        walk_at "w"; exact q0
      | tup e1 a1 =>
        have r := R.tup e1 a1
        walk_at "w"; exact q0
      | str z =>
        walk_at "w"
        cases ez : partsOf z with
        | none =>
          walk_at "w"
          have e2 : isExpr (k + 1) (.tuple (.str z :: ds0)) = false := by
            unfold isExpr
            rw [ez]
          rw [e2] at q0
          exact q0
        | some pk =>
          walk_at "w"
          have ln := rs.length
          refine w_iteD (fun h => ?_) (fun h => ?_)
          · have h' : vs0.length = pk := by
              have := V.int.inj h
              rw [List.length_cons] at this
              omega
            have hp : pk ≤ 2 := by
              unfold partsOf at ez
              repeat (split at ez; · cases ez; omega)
              cases ez
            walk_at "w"
            refine w_slA e fun p' H2 c2 h2 => ?_
            rw [cut1] at h2
            walk_at "w"
            have rs2 := rs.same c2
            refine w_lcP walk_tup [] (fun _ _ => True) (fun i y _ => ∃ d, ds0[i]? = some d ∧ y = .bl (isExpr k d)) trivial (fun _ _ _ _ _ _ _ => trivial) (fun H1 c => sqT (c.at h2)) (fun D i acc z H1 H3 hi nD hD el iv c _ y => ?_) (fun D acc H1 nD c _ el hD ys => ?_)
            · obtain ⟨rfl, ey⟩ := y
              obtain ⟨d1, ed, r1⟩ := rs2.get (i := i) (v := z) ey
              walk_at "w"
              have e5 : (((k + 1 : Nat) : Int)) - 1 = (k : Nat) := by omega
              rw [e5]
              refine ⟨z, d1, S, k, rfl, by omega, r1.same c, fun H4 c4 => ?_⟩
              have hi' : i < 3 := by
                have : (vs0.length) ≤ 2 := by omega
                have h6 : i < vs0.length := hi
                omega
              exact lcp_end (fun _ _ _ _ _ _ _ => trivial) (fun _ _ _ _ _ _ _ h => h) nD (by simp) hD el (by omega) iv c4 trivial ⟨d1, ed, rfl⟩
            · have e3 : acc = (ds0.map (isExpr k)).map V.bl := by
                refine all_bl el (by rw [List.length_map]; exact ln.symm) fun i y hy => ?_
                obtain ⟨d1, ed, rfl⟩ := ys i y hy
                exact ⟨isExpr k d1, by rw [List.getElem?_map, ed]; rfl, rfl⟩
              subst e3
              walk_at "w"
              refine w_all hD ?_
              walk_at "w"
              have e4 : isExpr (k + 1) (.tuple (.str z :: ds0)) = (ds0.map (isExpr k)).all id := by
                rw [isExpr, ez]
                show (decide (ds0.length = pk) && ds0.all (isExpr k)) = _
                rw [decide_eq_true (by omega), List.all_map]
                rfl
              rw [← e4]
              exact q H1 (c2.same c)
          · walk_at "w"
            have e2 : isExpr (k + 1) (.tuple (.str z :: ds0)) = false := by
              rw [isExpr, ez]
              show (decide (ds0.length = pk) && ds0.all (isExpr k)) = false
              rw [decide_eq_false ?_]
              · rfl
              · intro h7
                apply h
                show V.int _ = V.int _
                congr 1
                rw [List.length_cons]
                omega
            rw [e2] at q0
            exact q0
end
section
mutual
def smallD : PyData → Bool
  | .str x => decide (x.length ≤ 100000)
  | .list ds => smallDs ds
  | .tuple ds => smallDs ds
  | _ => true
def smallDs : List PyData → Bool
  | [] => true
  | d :: ds => smallD d && smallDs ds
end
theorem smallDs_all : ∀ {ds : List PyData}, smallDs ds = true → ∀ d ∈ ds, smallD d = true
  | [], _, d, h => by cases h
  | e :: es, h, d, hd => by
    obtain ⟨h1, h2⟩ := Bool.and_eq_true_iff.mp (show (smallD e && smallDs es) = true from h)
    rcases List.mem_cons.mp hd with rfl | hd
    · exact h1
    · exact smallDs_all h2 d hd
theorem smallD_str {d : PyData} (h : smallD d = true) (x : Str) (e : d = .str x) : x.length ≤ 100000 := by
  subst e
  exact of_decide_eq_true h
section
variable {K : PySem.W.Frag} {H : Hp} {Q : VK} {p : Addr} {xs : List V} {x : V}
theorem w_inL (h : SqL K H p xs) (hx : flatV x = true) (hs : xs.all flatV = true) (q : Q (.bl (inV x xs)) H) : rIn K false x (.ref p) H Q := ⟨p, xs, rfl, .inl h, hx, hs, q⟩
theorem w_notInT (h : H p = some (.tup xs)) (hx : flatV x = true) (hs : xs.all flatV = true) (q : Q (.bl (!inV x xs)) H) : rIn K true x (.ref p) H Q := ⟨p, xs, rfl, .inr (sqT h), hx, hs, q⟩
end
theorem inV_str (x : Str) (ns : List Str) : inV (.str x) (ns.map V.str) = decide (x ∈ ns) := by
  unfold inV
  induction ns with
  | nil => simp
  | cons a r ih =>
    rw [List.map_cons, List.any_cons, ih]
    have e : eqV (.str a) (.str x) = decide (a = x) := by
      show (a == x) = decide (a = x)
      rw [Bool.beq_eq_decide_eq]
    rw [e]
    by_cases h : a = x
    · subst h
      simp
    · have h' : ¬ x = a := fun z => h z.symm
      simp [h, h']
theorem flat_strs (ns : List Str) : (ns.map V.str).all flatV = true := by
  rw [List.all_map]
  exact List.all_eq_true.mpr fun _ _ => rfl
def sp_is_step (K : PySem.W.Frag) : Sp := fun vs H Q _ => ∃ (v : V) (d : PyData) (S : Addr → Prop) (l : Addr) (ns : List Str) (bh : Int), vs = [v, .ref l, .int bh] ∧ R S H v d ∧ smallD d = true ∧ SqL K H l (ns.map V.str) ∧ ∀ H', Chg [] H H' → Q (.bl (isStep ns bh d)) H'
def t_is_step (K : PySem.W.Frag) : TS :=
    tSeq (tIfS (tOr (tNot (tB (tCB (rIsi K) (tCons (tVar 0) (tCons (tC (.ty "tuple")) (tNil)))))) (tOr (tTest (tOp oLt (tCB (cLenQ K) (tCons (tVar 0) (tNil))) (tC (.int 1)))) (tNot (tB (tCB (rIsi K) (tCons (tOp (rIxT K) (tVar 0) (tC (.int 0))) (tCons (tC (.ty "str")) (tNil)))))))) (tRet (tC (.bl false))) (tNext))
    (tSeq (tAsg (tOp (rIxT K) (tVar 0) (tC (.int 0))) (gName 3))
    (tSeq (tIfS (tTest (tOp rEq (tVar 3) (tC (.str "wait")))) (tRet (tOp rEq (tCB (cLenQ K) (tCons (tVar 0) (tNil))) (tC (.int 1)))) (tNext))
    (tSeq (tIfS (tTest (tOp rNe (tCB (cLenQ K) (tCons (tVar 0) (tNil))) (tC (.int 3)))) (tRet (tC (.bl false))) (tNext))
    (tSeq (tIfS (tTest (tOp rEq (tVar 3) (tC (.str "cell")))) (tRet (tAndV (tCall (sp_is_expression 6) [.int 5] E0 (tCons (tOp (rIxT K) (tVar 0) (tC (.int 1))) (tNil))) (tCall (sp_is_expression 6) [.int 5] E0 (tCons (tOp (rIxT K) (tVar 0) (tC (.int 2))) (tNil))))) (tNext))
    (tSeq (tIfS (tTest (tOp rEq (tVar 3) (tC (.str "skip")))) (tRet (tAndV (tCall (sp_is_expression 6) [.int 5] E0 (tCons (tOp (rIxT K) (tVar 0) (tC (.int 1))) (tNil))) (tAndV (tCall sp_is_whole [] E0 (tCons (tOp (rIxT K) (tVar 0) (tC (.int 2))) (tNil))) (tChain oLe oLe (tC (.int 1)) (tOp (rIxT K) (tVar 0) (tC (.int 2))) (tVar 2))))) (tNext))
    (tSeq (tIfS (tOr (tTest (tOp (rIn K true) (tVar 3) (tTup (tCons (tC (.str "give")) (tCons (tC (.str "fork")) (tCons (tC (.str "call")) (tNil))))))) (tOr (tNot (tB (tCall sp_is_name [] E0 (tCons (tOp (rIxT K) (tVar 0) (tC (.int 1))) (tNil))))) (tNot (tB (tCall (sp_is_expression 6) [.int 5] E0 (tCons (tOp (rIxT K) (tVar 0) (tC (.int 2))) (tNil))))))) (tRet (tC (.bl false))) (tNext))
    (tRet (tOrV (tOp rEq (tVar 3) (tC (.str "give"))) (tOp (rIn K false) (tOp (rIxT K) (tVar 0) (tC (.int 1))) (tVar 1))))))))))
theorem isStep_tup (ns : List Str) (bh : Int) (z : Str) (ds : List PyData) : isStep ns bh (.tuple (.str z :: ds)) = (if z = "wait" then decide (ds.length = 0) else stepBody ns bh z ds) := rfl
theorem pure_is_step {K : PySem.W.Frag} (vs : List V) (H : Hp) (Q : VK) (E : XK) (h : sp_is_step K vs H Q E) : t_is_step K (fin Q) (start ["thing", "names", "behind", "word"] vs) H := by
  obtain ⟨v, d, S, l, ns, bh, rfl, r, sm, hl, q⟩ := h
  show t_is_step K _ [some v, some (.ref l), some (.int bh), none] H
  unfold t_is_step
  have q0 := q H .refl
  walk_at "w"
  cases r with
  | int i => walk_at "w"; exact q0
  | non => walk_at "w"; exact q0
  | bl b => walk_at "w"; exact q0
  | str b => walk_at "w"; exact q0
  | lst s e a => walk_at "w"; exact q0
  | dic s e => walk_at "w"; exact q0
  | @tup a xs ds e ra =>
    walk_at "w"
    cases ra with
    | nil => walk_at "w"; exact q0
    | @cons v0 vs0 d0 ds0 r0 rs =>
      refine w_iteD (fun h => ?_) (fun _ => ?_)
      · rw [List.length_cons] at h
        omega
      walk_at "w"
      cases r0 with
      | int i => walk_at "w"; exact q0
      | non => walk_at "w"; exact q0
      | bl b => walk_at "w"; exact q0
      | lst s1 e1 a1 => walk_at "w"; exact q0
      | dic s1 e1 => walk_at "w"; exact q0
      | tup e1 a1 => walk_at "w"; exact q0
      | str z =>
        rw [isStep_tup] at q0
        simp only [isStep_tup] at q
        have ln := rs.length
        walk_at "w"
        refine w_iteD (fun hz => ?_) (fun hz => ?_)
        · have hz' : z = "wait" := V.str.inj hz
          rw [if_pos hz'] at q0
          walk_at "w"
          have e2 : decide (V.int ((V.str z :: vs0).length : Nat) = V.int 1) = decide (ds0.length = 0) := by
            rw [← ln]
            exact decide_eq_decide.mpr ⟨fun h => by have := V.int.inj h; rw [List.length_cons] at this; omega, fun h => by rw [List.length_cons, h]; rfl⟩
          rw [e2]
          exact q0
        have hz' : ¬ z = "wait" := fun h => hz (by rw [h])
        rw [if_neg hz'] at q0
        simp only [if_neg hz'] at q
        walk_at "w"
        refine w_iteD (fun h3 => ?_) (fun h3 => ?_)
        rotate_left
        · walk_at "w"
          have e2 : ∀ a b, ds0 ≠ [a, b] := fun a b h => by
            apply h3
            rw [List.length_cons, ln, h]
            rfl
          match ds0, e2, q0 with
          | [], _, q0 => exact q0
          | [_], _, q0 => exact q0
          | _ :: _ :: _ :: _, _, q0 => exact q0
          | [a, b], h, _ => exact absurd rfl (h a b)
        cases rs with
        | nil => (have := V.int.inj h3; simp only [List.length_cons, List.length_nil] at this; omega)
        | @cons v1 vs1 d1 ds1 r1 rs1 =>
          cases rs1 with
          | nil => (have := V.int.inj h3; simp only [List.length_cons, List.length_nil] at this; omega)
          | @cons v2 vs2 d2 ds2 r2 rs2 =>
            cases rs2 with
            | cons _ _ =>
              have := V.int.inj h3
              simp only [List.length_cons] at this
              omega
            | nil =>
              have q : ∀ H', Chg [] H H' → Q (V.bl (step3 ns bh z d1 d2)) H' := q
              unfold step3 at q
              have sm1 : smallD d1 = true := smallDs_all (ds := [.str z, d1, d2]) sm d1 (by simp)
              walk_at "w"
              refine w_iteD (fun hc => ?_) (fun hc => ?_)
              · have hc' : z = "cell" := V.str.inj hc
                simp only [if_pos hc'] at q
                walk_at "w"
                refine ⟨v1, d1, S, 5, rfl, by omega, r1, fun H1 c1 => ?_⟩
                walk_at "w"
                refine w_iteB (fun b1 => ?_) (fun b1 => ?_)
                · walk_at "w"
                  refine ⟨v2, d2, S, 5, rfl, by omega, r2.same c1, fun H2 c2 => ?_⟩
                  have := q H2 (c1.same c2)
                  rw [b1] at this
                  exact this
                · walk_at "w"
                  have := q H1 c1
                  rw [b1] at this
                  exact this
              have hc' : ¬ z = "cell" := fun h => hc (by rw [h])
              simp only [if_neg hc'] at q
              walk_at "w"
              refine w_iteD (fun hs => ?_) (fun hs => ?_)
              · have hs' : z = "skip" := V.str.inj hs
                simp only [if_pos hs'] at q
                walk_at "w"
                refine ⟨v1, d1, S, 5, rfl, by omega, r1, fun H1 c1 => ?_⟩
                walk_at "w"
                refine w_iteB (fun b1 => ?_) (fun b1 => ?_)
                · walk_at "w"
                  refine ⟨v2, d2, S, rfl, r2.same c1, ?_⟩
                  walk_at "w"
                  have q1 := q H1 c1
                  rw [b1] at q1
                  cases r2 with
                  | int i =>
                    walk_at "w"
                    refine w_iteD (fun g => ?_) (fun g => ?_)
                    · walk_at "w"
                      have q1 : Q (V.bl (true && (decide (1 ≤ i) && decide (i ≤ bh)))) H1 := q1
                      rw [decide_eq_true g] at q1
                      exact q1
                    · walk_at "w"
                      have q1 : Q (V.bl (true && (decide (1 ≤ i) && decide (i ≤ bh)))) H1 := q1
                      rw [decide_eq_false g] at q1
                      exact q1
                  | non => walk_at "w"; exact q1
                  | bl b => walk_at "w"; exact q1
                  | str b => walk_at "w"; exact q1
                  | lst s1 e1 a1 => walk_at "w"; exact q1
                  | dic s1 e1 => walk_at "w"; exact q1
                  | tup e1 a1 => walk_at "w"; exact q1
                · walk_at "w"
                  have := q H1 c1
                  rw [b1] at this
                  exact this
              have hs' : ¬ z = "skip" := fun h => hs (by rw [h])
              simp only [if_neg hs'] at q
              walk_at "w"
              refine k_tup (by decide) fun p H1 np c1 hp => ?_
              refine w_notInT hp rfl rfl ?_
              have ein : inV (.str z) [V.str "give", V.str "fork", V.str "call"] = decide (z ∈ (["give", "fork", "call"] : List Str)) := inV_str z ["give", "fork", "call"]
              rw [ein]
              walk_at "w"
              refine w_iteD (fun hm => ?_) (fun hm => ?_)
              rotate_left
              · walk_at "w"
                have n1 : ¬ z = "give" := fun h => hm (by rw [h]; simp)
                have n2 : ¬ (z = "fork" ∨ z = "call") := fun h => hm (by rcases h with h | h <;> (rw [h]; simp))
                simp only [if_neg n1, if_neg n2] at q
                exact q H1 c1
              walk_at "w"
              refine ⟨v1, d1, S, rfl, r1.same c1, smallD_str sm1, fun H2 c2 => ?_⟩
              walk_at "w"
              refine w_iteB (fun b1 => ?_) (fun b1 => ?_)
              rotate_left
              · walk_at "w"
                have := q H2 (c1.same c2)
                rw [b1] at this
                simp only [Bool.false_and, ite_self] at this
                exact this
              walk_at "w"
              refine ⟨v2, d2, S, 5, rfl, by omega, r2.same (c1.same c2), fun H3 c3 => ?_⟩
              walk_at "w"
              refine w_iteB (fun b2 => ?_) (fun b2 => ?_)
              rotate_left
              · walk_at "w"
                have := q H3 ((c1.same c2).same c3)
                rw [b2, b1] at this
                simp only [Bool.and_false, Bool.false_and, ite_self] at this
                exact this
              walk_at "w"
              have q3 := q H3 ((c1.same c2).same c3)
              rw [b1, b2] at q3
              cases r1 with
              | str x1 =>
                refine w_iteD (fun hg => ?_) (fun hg => ?_)
                · have hg' : z = "give" := V.str.inj hg
                  rw [if_pos hg'] at q3
                  exact q3
                · have hg' : ¬ z = "give" := fun h => hg (by rw [h])
                  walk_at "w"
                  refine w_inL ((c1.same c2).same c3 |>.seq hl) rfl (flat_strs ns) ?_
                  rw [inV_str]
                  have hf : z = "fork" ∨ z = "call" := by
                    simp only [List.mem_cons, List.not_mem_nil, or_false] at hm
                    exact hm.resolve_left hg'
                  rw [if_neg hg', if_pos hf] at q3
                  exact q3
              | int i => cases b1
              | non => cases b1
              | bl b => cases b1
              | lst s1 e1 a1 => cases b1
              | dic s1 e1 => cases b1
              | tup e1 a1 => cases b1
end
section
inductive CE where
  | non | bl (b : Bool) | int (i : Int) | str (x : Str) | d0 | d1 | lst (l : List CE) | tup (l : List CE)
mutual
def CE.t : CE → TE
  | .non => tC .non
  | .bl b => tC (.bl b)
  | .int i => tC (.int i)
  | .str x => tC (.str x)
  | .d0 => tDNewK
  | .d1 => tDisp [(tC (.str "a"), tC (.int 1))]
  | .lst l => tLst (CE.ts l)
  | .tup l => tTup (CE.ts l)
def CE.ts : List CE → TA
  | [] => tNil
  | c :: r => tCons (CE.t c) (CE.ts r)
end
mutual
def CE.d : CE → PyData
  | .non => .none
  | .bl b => .bool b
  | .int i => .int i
  | .str x => .str x
  | .d0 => .dict []
  | .d1 => .dict []
  | .lst l => .list (CE.ds l)
  | .tup l => .tuple (CE.ds l)
def CE.ds : List CE → List PyData
  | [] => []
  | c :: r => CE.d c :: CE.ds r
end
mutual
def CE.ok : CE → Bool
  | .lst l => decide (l.length ≤ 1000) && CE.oks l
  | .tup l => decide (l.length ≤ 1000) && CE.oks l
  | _ => true
def CE.oks : List CE → Bool
  | [] => true
  | c :: r => CE.ok c && CE.oks r
end
abbrev Nb (b : Addr) : Addr → Prop := fun a => a ≠ b
/-- what was not there in H -/
abbrev Nw (H : Hp) (b : Addr) : Addr → Prop := fun a => H a = none ∧ a ≠ b
end
section
def lenOk : PyData → Bool
  | .list ds => decide (ds.length ≤ 1000)
  | _ => true
def sp_has_form : Sp := fun vs H Q _ => ∃ (v : V) (d : PyData) (S : Addr → Prop), vs = [v] ∧ R S H v d ∧ smallD d = true ∧ lenOk d = true ∧ ∀ H', Chg [] H H' → Q (.bl (hasForm d)) H'
def t_has_form (K : PySem.W.Frag) : TS :=
    tSeq (tIfS (tNot (tB (tCB (rIsi K) (tCons (tVar 0) (tCons (tC (.ty "list")) (tNil)))))) (tRet (tC (.bl false))) (tNext))
    (tSeq (tFor (iList K (tVar 0)) (gName 1) (tIfS (tOr (tNot (tB (tCB (rIsi K) (tCons (tVar 1) (tCons (tC (.ty "tuple")) (tNil)))))) (tOr (tTest (tOp rNe (tCB (cLenQ K) (tCons (tVar 1) (tNil))) (tC (.int 2)))) (tOr (tNot (tB (tCall sp_is_name [] E0 (tCons (tOp (rIxT K) (tVar 1) (tC (.int 0))) (tNil))))) (tNot (tB (tCB (rIsi K) (tCons (tOp (rIxT K) (tVar 1) (tC (.int 1))) (tCons (tC (.ty "list")) (tNil))))))))) (tRet (tC (.bl false))) (tNext)))
    (tSeq (tAsg (tLc (iList K (tVar 0)) (gTup K 2 (gCons (gName 3) (gCons (gName 4) (gNil)))) (tYes) (tVar 3) [3, 4]) (gName 2))
    (tRet (tCB (rAll K) (tCons (tLc (iZip K (tCons (tVar 2) (tCons (tSl (rSlL K) (tVar 2) (tPart (tC (.int 1))) (tNoPart)) (tNil)))) (gTup K 2 (gCons (gName 5) (gCons (gName 6) (gNil)))) (tYes) (tOp oLtS (tVar 5) (tVar 6)) [5, 6]) (tNil))))))
theorem rising_zip : ∀ ns : List Str, rising ns = ((ns.zip (ns.drop 1)).map fun p => ltS p.1 p.2).all id
  | [] => rfl
  | [_] => rfl
  | x :: y :: r => by
    show (ltS x y && rising (y :: r)) = _
    rw [rising_zip (y :: r)]
    rfl
theorem rowOk_false {d : PyData} (h : ∀ x ds, d = .tuple [.str x, .list ds] → nameS x = false) : rowOk d = false := by
  unfold rowOk
  split
  · exact h _ _ rfl
  · rfl
theorem hasForm_false {rows : List PyData} {i : Nat} {d : PyData} (h : rows[i]? = some d) (hd : rowOk d = false) : hasForm (.list rows) = false := by
  have : rows.all rowOk = false := by
    rw [List.all_eq_false]
    exact ⟨d, List.mem_of_getElem? h, by rw [hd]; decide⟩
  show (rows.all rowOk && _) = false
  rw [this]
  rfl
theorem rowOk_true {d : PyData} (h : rowOk d = true) : ∃ x ds, d = .tuple [.str x, .list ds] ∧ nameS x = true := by
  unfold rowOk at h
  split at h
  · exact ⟨_, _, rfl, h⟩
  · cases h
theorem pure_has_form {K : PySem.W.Frag} (vs : List V) (H : Hp) (Q : VK) (E : XK) (h : sp_has_form vs H Q E) : t_has_form K (fin Q) (start ["thing", "row", "names", "name", "steps", "one", "other"] vs) H := by
  obtain ⟨v, d, S, rfl, r, sm, lo, q⟩ := h
  show t_has_form K _ [some v, none, none, none, none, none, none] H
  unfold t_has_form
  have q0 := q H .refl
  walk_at "w"
  cases r with
  | int i => walk_at "w"; exact q0
  | non => walk_at "w"; exact q0
  | bl b => walk_at "w"; exact q0
  | str b => walk_at "w"; exact q0
  | tup e1 a1 => walk_at "w"; exact q0
  | dic s e => walk_at "w"; exact q0
  | @lst a xs ds s e ra =>
    walk_at "w"
    have ln := ra.length
    have lo' : ds.length ≤ 1000 := of_decide_eq_true lo
    refine for_it (walk_list (K := K) (a := a) (xs := xs)) (fun i σ H1 => Chg [] H H1 ∧ (∀ j d, j < i → ds[j]? = some d → rowOk d = true) ∧ ∃ y, σ = [some (.ref a), y, none, none, none, none, none]) ⟨.refl, fun j d h => by omega, none, rfl⟩ (fun i σ H1 _ p => sqL (p.1.at e)) (fun i x σ H1 H2 hi p y => ?_) (fun σ H1 p => ?_)
    · obtain ⟨c1, ok, y1, rfl⟩ := p
      obtain ⟨rfl, ex⟩ := y
      obtain ⟨d1, ed, r1⟩ := ra.get ex
      have r1 := r1.same c1
      have sm1 : smallD d1 = true := smallDs_all (ds := ds) sm d1 (List.mem_of_getElem? ed)
      have bad : ∀ H3, Chg [] H2 H3 → rowOk d1 = false → Q (.bl false) H3 := fun H3 c3 hb => by
        have := q H3 (c1.same c3)
        rw [hasForm_false ed hb] at this
        exact this
      walk_at "w"
      cases r1 with
      | int i => walk_at "w"; exact bad _ .refl rfl
      | non => walk_at "w"; exact bad _ .refl rfl
      | bl b => walk_at "w"; exact bad _ .refl rfl
      | str b => walk_at "w"; exact bad _ .refl rfl
      | lst s e a => walk_at "w"; exact bad _ .refl rfl
      | dic s e => walk_at "w"; exact bad _ .refl rfl
      | @tup a2 xs2 ds2 e2 ra2 =>
        walk_at "w"
        have ln2 := ra2.length
        refine w_iteD (fun h2 => ?_) (fun h2 => ?_)
        rotate_left
        · walk_at "w"
          refine bad _ .refl (rowOk_false fun x ds h => ?_)
          exfalso
          apply h2
          rw [ln2]
          cases h
          rfl
        have h2' := V.int.inj h2
        cases ra2 with
        | nil => simp only [List.length_nil] at h2'; omega
        | @cons v0 vs0 d0 ds0 r0 rs0 =>
          cases rs0 with
          | nil => simp only [List.length_cons, List.length_nil] at h2'; omega
          | @cons v3 vs3 d3 ds3 r3 rs3 =>
            cases rs3 with
            | cons _ _ => simp only [List.length_cons] at h2'; omega
            | nil =>
              have sm0 : smallD d0 = true := smallDs_all (ds := [d0, d3]) sm1 d0 (by simp)
              walk_at "w"
              refine ⟨v0, d0, S, rfl, r0, smallD_str sm0, fun H3 c3 => ?_⟩
              walk_at "w"
              refine w_iteB (fun b1 => ?_) (fun b1 => ?_)
              rotate_left
              · walk_at "w"
                refine bad _ c3 (rowOk_false fun x ds h => ?_)
                cases h
                exact b1
              walk_at "w"
              have r3 := r3.same c3
              walk_at "w"
              have nolist : dLst d3 = false → rowOk (.tuple [d0, d3]) = false := fun hl => rowOk_false fun x ds h => by
                cases h
                cases hl
              cases r3 with
              | int i => walk_at "w"; exact bad _ c3 (nolist rfl)
              | non => walk_at "w"; exact bad _ c3 (nolist rfl)
              | bl b => walk_at "w"; exact bad _ c3 (nolist rfl)
              | str b => walk_at "w"; exact bad _ c3 (nolist rfl)
              | tup e a => walk_at "w"; exact bad _ c3 (nolist rfl)
              | dic s e => walk_at "w"; exact bad _ c3 (nolist rfl)
              | lst s4 e4 a4 =>
                walk_at "w"
                refine ⟨c1.same c3, fun j d hj hd => ?_, _, rfl⟩
                by_cases hji : j < i
                · exact ok j d hji hd
                · have : j = i := by omega
                  subst this
                  rw [ed] at hd
                  cases hd
                  cases r0 with
                  | str x => exact b1
                  | _ => cases b1
    · obtain ⟨c1, ok, y1, rfl⟩ := p
      have allok : ds.all rowOk = true := by
        rw [List.all_eq_true]
        intro d hd
        obtain ⟨j, hj⟩ := List.getElem?_of_mem hd
        exact ok j d (by have := (List.getElem?_eq_some_iff.mp hj).1; omega) hj
      walk_at "w"
      have ra1 := ra.same c1
      have e1 := c1.at e
      refine w_lcP walk_list [] (fun _ _ => True) (fun i y _ => ∃ d, ds[i]? = some d ∧ y = .str (rowName d)) trivial (fun _ _ _ _ _ _ _ => trivial) (fun H2 c => sqL (c.at e1)) (fun D i acc z H2 H3 hi nD hD el iv c _ y => ?_) (fun D acc H2 nD c _ el hD ys => ?_)
      · obtain ⟨rfl, ex⟩ := y
        obtain ⟨d1, ed, r1⟩ := ra1.get ex
        obtain ⟨x, ds1, rfl, hx⟩ := rowOk_true (List.all_eq_true.mp allok d1 (List.mem_of_getElem? ed))
        cases r1 with
        | tup e2 ra2 =>
          cases ra2 with
          | cons r0 rs0 =>
            cases rs0 with
            | cons r3 rs3 =>
              cases rs3
              cases r0
              have e3 := c.at e2
              walk_at "w"
              exact lcp_end (fun _ _ _ _ _ _ _ => trivial) (fun _ _ _ _ _ _ _ h => h) nD (by simp) hD el (by omega) iv .refl trivial ⟨_, ed, rfl⟩
      · have e3 : acc = (ds.map rowName).map V.str := by
          apply List.ext_getElem?
          intro i
          rw [List.getElem?_map, List.getElem?_map]
          by_cases hi : i < xs.length
          · have e4 : acc[i]? = some acc[i] := List.getElem?_eq_getElem (by omega)
            obtain ⟨d1, ed, e5⟩ := ys i _ e4
            rw [e4, ed, e5]
            rfl
          · rw [List.getElem?_eq_none (by omega), List.getElem?_eq_none (by omega)]
            rfl
        subst e3
        walk_at "w"
        refine w_slL (sqL hD) fun p' H3 np c3 hp => ?_
        rw [cut1] at hp
        walk_at "w"
        have hD3 := c3.at hD
        have lz : (ds.map rowName).length = ds.length := List.length_map _
        refine w_lcP (walk_zip rfl) [] (fun _ _ => True) (fun i y _ => ∃ x x', (ds.map rowName)[i]? = some x ∧ ((ds.map rowName).drop 1)[i]? = some x' ∧ y = .bl (ltS x x')) trivial (fun _ _ _ _ _ _ _ => trivial) (fun H4 c4 => ⟨sqL (c4.at hD3), sqL (c4.at hp)⟩) (fun D2 i acc z H4 H5 hi nD2 hD2 el2 iv2 c4 _ y => ?_) (fun D2 acc H4 nD2 c4 _ el2 hD2 ys2 => ?_)
        · obtain ⟨T, x, y, rfl, nT, rfl, ex, ey⟩ := y
          have ex : ((ds.map rowName).map V.str)[i]? = some x := ex
          have ey : (((ds.map rowName).map V.str).drop 1)[i]? = some y := ey
          rw [List.getElem?_map] at ex
          rw [← List.map_drop, List.getElem?_map] at ey
          cases ez1 : (ds.map rowName)[i]? with
          | none => rw [ez1] at ex; cases ex
          | some x1 =>
            cases ez2 : ((ds.map rowName).drop 1)[i]? with
            | none => rw [ez2] at ey; cases ey
            | some x2 =>
              rw [ez1] at ex
              rw [ez2] at ey
              cases ex
              cases ey
              have cT : Chg [] H4 (upd H4 T (.tup [.str x1, .str x2])) := .new nT
              walk_at "w"
              have hi2 : i < 1000 := by
                have := (List.getElem?_eq_some_iff.mp ez1).1
                omega
              exact lcp_end (fun _ _ _ _ _ _ _ => trivial) (fun _ _ _ _ _ _ _ h => h) nD2 (by simp) hD2 el2 (by omega) iv2 cT trivial ⟨x1, x2, ez1, ez2, rfl⟩
        · have e6 : acc = (((ds.map rowName).zip ((ds.map rowName).drop 1)).map fun p => ltS p.1 p.2).map V.bl := by
            refine all_bl el2 (by simp) fun i y hy => ?_
            obtain ⟨x, x', g1, g2, rfl⟩ := ys2 i y hy
            refine ⟨_, ?_, rfl⟩
            rw [List.getElem?_map, List.getElem?_zip_eq_some (z := (x, x')) |>.mpr ⟨g1, g2⟩]
            rfl
          subst e6
          walk_at "w"
          refine w_all hD2 ?_
          rw [← rising_zip]
          have e7 : hasForm (.list ds) = rising (ds.map rowName) := by
            show (ds.all rowOk && rising (ds.map rowName)) = _
            rw [allok]
            rfl
          rw [← e7]
          exact q H4 (((c1.same c).same c3).same c4)
end
section
def fwV : Option (Str × Nat) → List V
  | none => [.non, .non]
  | some (n, k) => [.str n, .int (k : Nat)]
def sp_first_wrong : Sp := fun vs H Q _ => ∃ (v : V) (d : PyData) (S : Addr → Prop), vs = [v] ∧ R S H v d ∧ smallD d = true ∧ lenOk d = true ∧ (firstWrong d = none → ∀ H', Chg [] H H' → Q .non H') ∧
  ∀ o, firstWrong d = some o → ∀ p H', Chg [] H H' → H' p = some (.tup (fwV o)) → Q (.ref p) H'
def t_first_wrong (K : PySem.W.Frag) : TS :=
    tSeq (tIfS (tNot (tB (tCall sp_has_form [] E0 (tCons (tVar 0) (tNil))))) (tRet (tTup (tCons (tC .non) (tCons (tC .non) (tNil))))) (tNext))
    (tSeq (tAsg (tLc (iList K (tVar 0)) (gTup K 2 (gCons (gName 2) (gCons (gName 3) (gNil)))) (tYes) (tVar 2) [2, 3]) (gName 1))
    (tSeq (tFor (iList K (tVar 0)) (gTup K 2 (gCons (gName 2) (gCons (gName 3) (gNil)))) (tFor (iEnum K (tCons (tVar 3) (tNil))) (gTup K 2 (gCons (gName 4) (gCons (gName 5) (gNil)))) (tIfS (tNot (tB (tCall (sp_is_step K) [] E0 (tCons (tVar 5) (tCons (tVar 1) (tCons (tOp oSub (tOp oSub (tCB (cLenQ K) (tCons (tVar 3) (tNil))) (tVar 4)) (tC (.int 1))) (tNil))))))) (tRet (tTup (tCons (tVar 2) (tCons (tVar 4) (tNil))))) (tNext))))
    (tRet (tC .non))))
theorem wrongAt_skip {ns : List Str} {ys : List PyData} {j : Nat} {d : PyData} (h : ys[j]? = some d) (hs : isStep ns ((ys.length : Int) - j - 1) d = true) : wrongAt ns j (ys.drop j) = wrongAt ns (j + 1) (ys.drop (j + 1)) := by
  have hj := (List.getElem?_eq_some_iff.mp h)
  obtain ⟨hl, e⟩ := hj
  rw [List.drop_eq_getElem_cons hl, e]
  show (if isStep ns ((ys.drop (j + 1)).length : Int) d = true then _ else _) = _
  rw [if_pos]
  rw [← hs]
  congr 1
  rw [List.length_drop]
  omega
theorem wrongAt_here {ns : List Str} {ys : List PyData} {j : Nat} {d : PyData} (h : ys[j]? = some d) (hs : isStep ns ((ys.length : Int) - j - 1) d = false) : wrongAt ns j (ys.drop j) = some j := by
  obtain ⟨hl, e⟩ := List.getElem?_eq_some_iff.mp h
  rw [List.drop_eq_getElem_cons hl, e]
  show (if isStep ns ((ys.drop (j + 1)).length : Int) d = true then _ else _) = _
  rw [if_neg]
  have e2 : ((ys.drop (j + 1)).length : Int) = (ys.length : Int) - j - 1 := by
    rw [List.length_drop]
    omega
  rw [e2, hs]
  decide
theorem pure_first_wrong {K : PySem.W.Frag} (vs : List V) (H : Hp) (Q : VK) (E : XK) (h : sp_first_wrong vs H Q E) : t_first_wrong K (fin Q) (start ["program", "names", "name", "steps", "at", "step"] vs) H := by
  obtain ⟨v, d, S, rfl, r, sm, lo, qn, qs⟩ := h
  show t_first_wrong K _ [some v, none, none, none, none, none] H
  unfold t_first_wrong
  walk_at "w"
  refine ⟨v, d, S, rfl, r, sm, lo, fun H1 c1 => ?_⟩
  walk_at "w"
  refine w_iteB (fun hf => ?_) (fun hf => ?_)
  rotate_left
  · walk_at "w"
    refine k_tup (by decide) fun p H2 np c2 hp => ?_
    exact qs none (by unfold firstWrong; rw [hf]; rfl) p H2 (c1.same c2) hp
  cases r with
  | int i => cases hf
  | non => cases hf
  | bl b => cases hf
  | str b => cases hf
  | tup e1 a1 => cases hf
  | dic s e => cases hf
  | @lst a xs ds s e ra =>
    have efw : firstWrong (.list ds) = (wrongIn (ds.map rowName) ds).map some := by
      unfold firstWrong
      rw [if_pos hf]
      rfl
    have ln := ra.length
    have lo' : ds.length ≤ 1000 := of_decide_eq_true lo
    have allok : ds.all rowOk = true := (Bool.and_eq_true_iff.mp (show (ds.all rowOk && rising (ds.map rowName)) = true from hf)).1
    have ra1 := ra.same c1
    have e1 := c1.at e
    walk_at "w"
    refine w_lcP walk_list [] (fun _ _ => True) (fun i y _ => ∃ d, ds[i]? = some d ∧ y = .str (rowName d)) trivial (fun _ _ _ _ _ _ _ => trivial) (fun H2 c => sqL (c.at e1)) (fun D i acc z H2 H3 hi nD hD el iv c _ y => ?_) (fun D acc H2 nD c _ el hD ys => ?_)
    · obtain ⟨rfl, ex⟩ := y
      obtain ⟨d1, ed, r1⟩ := ra1.get ex
      obtain ⟨x, ds1, rfl, hx⟩ := rowOk_true (List.all_eq_true.mp allok d1 (List.mem_of_getElem? ed))
      cases r1 with
      | tup e2 ra2 =>
        cases ra2 with
        | cons r0 rs0 =>
          cases rs0 with
          | cons r3 rs3 =>
            cases rs3
            cases r0
            have e3 := c.at e2
            walk_at "w"
            exact lcp_end (fun _ _ _ _ _ _ _ => trivial) (fun _ _ _ _ _ _ _ h => h) nD (by simp) hD el (by omega) iv .refl trivial ⟨_, ed, rfl⟩
    · have e3 : acc = (ds.map rowName).map V.str := by
        apply List.ext_getElem?
        intro i
        rw [List.getElem?_map, List.getElem?_map]
        by_cases hi : i < xs.length
        · have e4 : acc[i]? = some acc[i] := List.getElem?_eq_getElem (by omega)
          obtain ⟨d1, ed, e5⟩ := ys i _ e4
          rw [e4, ed, e5]
          rfl
        · rw [List.getElem?_eq_none (by omega), List.getElem?_eq_none (by omega)]
          rfl
      subst e3
      walk_at "w"
      have e2 := c.at e1
      have ra2 := ra1.same c
      have c12 := c1.same c
      refine for_it (walk_list (K := K) (a := a) (xs := xs)) (fun i σ H3 => Chg [] H2 H3 ∧ wrongIn (ds.map rowName) ds = wrongIn (ds.map rowName) (ds.drop i) ∧ ∃ y2 y3 y4 y5, σ = [some (.ref a), some (.ref D), y2, y3, y4, y5]) ⟨.refl, rfl, none, none, none, none, rfl⟩ (fun i σ H3 _ p => sqL (p.1.at e2)) (fun i x σ H3 H4 hi p y => ?_) (fun σ H3 p => ?_)
      · obtain ⟨c3, wr, y2, y3, y4, y5, rfl⟩ := p
        obtain ⟨rfl, ex⟩ := y
        obtain ⟨d1, ed, r1⟩ := ra2.get ex
        obtain ⟨x1, ds1, rfl, hx⟩ := rowOk_true (List.all_eq_true.mp allok d1 (List.mem_of_getElem? ed))
        have sm1 : smallD (.tuple [.str x1, .list ds1]) = true := smallDs_all (ds := ds) sm _ (List.mem_of_getElem? ed)
        have sm2 : smallDs ds1 = true := smallDs_all (ds := [.str x1, .list ds1]) sm1 (.list ds1) (by simp)
        obtain ⟨hli, edi⟩ := List.getElem?_eq_some_iff.mp ed
        have wr1 : wrongIn (ds.map rowName) ds = (match wrongAt (ds.map rowName) 0 ds1 with
            | some k => some (x1, k)
            | none => wrongIn (ds.map rowName) (ds.drop (i + 1))) := by
          rw [wr, List.drop_eq_getElem_cons hli, edi]
          rfl
        cases r1 with
        | tup e4 ra4 =>
          cases ra4 with
          | cons r0 rs0 =>
            cases rs0 with
            | cons r3 rs3 =>
              cases rs3
              cases r0
              cases r3 with
              | @lst l5 ys5 _ s5 e5 ra5 =>
                have e6 := c3.at e4
                have e7 := c3.at e5
                have ln5 := ra5.length
                walk_at "w"
                refine for_it (walk_enum (K := K) (a := l5) (xs := ys5)) (fun j σ H5 => Chg [] H4 H5 ∧ wrongAt (ds.map rowName) 0 ds1 = wrongAt (ds.map rowName) j (ds1.drop j) ∧ ∃ y4 y5, σ = [some (.ref a), some (.ref D), some (.str x1), some (.ref l5), y4, y5]) ⟨.refl, rfl, _, _, rfl⟩ (fun j σ H5 _ p => sqL (p.1.at e7)) (fun j x σ H5 H6 hj p y => ?_) (fun σ H5 p => ?_)
                · obtain ⟨c5, wa, z4, z5, rfl⟩ := p
                  obtain ⟨T, vx, vy, rfl, nT, rfl, ex, ey⟩ := y
                  cases ex
                  have ey : ys5[j]? = some vy := ey
                  obtain ⟨d6, ed6, r6⟩ := ra5.get ey
                  have cT : Chg [] H5 (upd H5 T (.tup [.int (j : Nat), vy])) := .new nT
                  have c6 : Chg [] H2 (upd H5 T (.tup [.int (j : Nat), vy])) := (c3.same c5).same cT
                  have e8 := cT.at (c5.at e7)
                  walk_at "w"
                  refine ⟨vy, d6, S, D, ds.map rowName, (ys5.length : Int) - (j : Nat) - 1, rfl, r6.same c6, smallDs_all sm2 d6 (List.mem_of_getElem? ed6), sqL (c6.at hD), fun H7 c7 => ?_⟩
                  have eln : ((ys5.length : Int) - (j : Nat) - 1) = ((ds1.length : Int) - (j : Nat) - 1) := by rw [ln5]
                  rw [eln]
                  walk_at "w"
                  refine w_iteB (fun b1 => ?_) (fun b1 => ?_)
                  · walk_at "w"
                    exact ⟨(c5.same cT).same c7, by rw [wa, wrongAt_skip ed6 b1], _, _, rfl⟩
                  · walk_at "w"
                    refine k_tup (by walk_at "sz") fun p H8 np c8 hp => ?_
                    refine qs (some (x1, j)) ?_ p H8 ((c12.same (c6.same c7)).same c8) hp
                    rw [efw, wr1, wa, wrongAt_here ed6 b1]
                    rfl
                · obtain ⟨c5, wa, z4, z5, rfl⟩ := p
                  refine ⟨c3.same c5, ?_, _, _, _, _, rfl⟩
                  rw [wr1, wa, ln5, List.drop_eq_nil_of_le (Nat.le_refl _)]
                  rfl
      · obtain ⟨c3, wr, y2, y3, y4, y5, rfl⟩ := p
        walk_at "w"
        refine qn ?_ H3 (c12.same c3)
        rw [efw, wr, List.drop_eq_nil_of_le (by omega)]
        rfl
def sp_is_program : Sp := fun vs H Q _ => ∃ (v : V) (d : PyData) (S : Addr → Prop), vs = [v] ∧ R S H v d ∧ smallD d = true ∧ lenOk d = true ∧ ∀ H', Chg [] H H' → Q (.bl (firstWrong d).isNone) H'
def t_is_program  : TS :=
    tRet (tOp oIsN (tCall sp_first_wrong [] E0 (tCons (tVar 0) (tNil))) (tC .non))
theorem pure_is_program {K : PySem.W.Frag} (vs : List V) (H : Hp) (Q : VK) (E : XK) (h : sp_is_program vs H Q E) : t_is_program (fin Q) (start ["thing"] vs) H := by
  obtain ⟨v, d, S, rfl, r, sm, lo, q⟩ := h
  show t_is_program _ [some v] H
  unfold t_is_program
  walk_at "w"
  refine ⟨v, d, S, rfl, r, sm, lo, fun e H1 c1 => ?_, fun o e p H1 c1 hp => ?_⟩
  · walk_at "w"
    have := q H1 c1
    rw [e] at this
    exact this
  · walk_at "w"
    have := q H1 c1
    rw [e] at this
    exact this
end
section
inductive Ex where
  | num (i : Int)
  | arg
  | cell (a : Ex)
  | add (a b : Ex)
  | less (a b : Ex)
  | least (a b : Ex)
def Ex.data : Ex → PyData
  | .num i => .int i
  | .arg => .tuple [.str "arg"]
  | .cell a => .tuple [.str "cell", a.data]
  | .add a b => .tuple [.str "add", a.data, b.data]
  | .less a b => .tuple [.str "less", a.data, b.data]
  | .least a b => .tuple [.str "least", a.data, b.data]
def Ex.deep : Ex → Nat
  | .num _ => 1
  | .arg => 1
  | .cell a => a.deep + 1
  | .add a b => max a.deep b.deep + 1
  | .less a b => max a.deep b.deep + 1
  | .least a b => max a.deep b.deep + 1
/-- all numbers within -B .. B -/
def Ex.numsIn (B : Int) : Ex → Prop
  | .num i => -B ≤ i ∧ i ≤ B
  | .arg => True
  | .cell a => a.numsIn B
  | .add a b => a.numsIn B ∧ b.numsIn B
  | .less a b => a.numsIn B ∧ b.numsIn B
  | .least a b => a.numsIn B ∧ b.numsIn B
theorem Ex.deep_pos (e : Ex) : 1 ≤ e.deep := by cases e <;> simp [Ex.deep]
inductive Stp where
  | cell (a b : Ex)
  | give (x : Str) (a : Ex)
  | fork (x : Str) (a : Ex)
  | call (x : Str) (a : Ex)
  | wait
  | skip (a : Ex) (k : Int)
def Stp.data : Stp → PyData
  | .cell a b => .tuple [.str "cell", a.data, b.data]
  | .give x a => .tuple [.str "give", .str x, a.data]
  | .fork x a => .tuple [.str "fork", .str x, a.data]
  | .call x a => .tuple [.str "call", .str x, a.data]
  | .wait => .tuple [.str "wait"]
  | .skip a k => .tuple [.str "skip", a.data, .int k]
/-- a right step, by the helpers' names and how many there are behind it -/
def Stp.ok (ns : List Str) (bh : Int) : Stp → Prop
  | .cell a b => a.deep ≤ 5 ∧ b.deep ≤ 5
  | .give x a => nameS x = true ∧ a.deep ≤ 5
  | .fork x a => nameS x = true ∧ x ∈ ns ∧ a.deep ≤ 5
  | .call x a => nameS x = true ∧ x ∈ ns ∧ a.deep ≤ 5
  | .wait => True
  | .skip a k => a.deep ≤ 5 ∧ 1 ≤ k ∧ k ≤ bh
/-- helpers with their steps -/
abbrev Prg := List (Str × List Stp)
def rowD (r : Str × List Stp) : PyData := .tuple [.str r.1, .list (r.2.map Stp.data)]
def prgD (p : Prg) : PyData := .list (p.map rowD)
/-- each step right by its place -/
def stepsOk (ns : List Str) : List Stp → Prop
  | [] => True
  | s :: r => s.ok ns (r.length : Int) ∧ stepsOk ns r
structure PrgOk (p : Prg) : Prop where
  names : ∀ r ∈ p, nameS r.1 = true
  up : rising (p.map (·.1)) = true
  steps : ∀ r ∈ p, stepsOk (p.map (·.1)) r.2
  few : p.length ≤ 100
  short : ∀ r ∈ p, r.2.length ≤ 100
theorem nameS_iff {x : Str} : nameS x = true ↔ 1 ≤ x.length ∧ x.length ≤ 8 ∧ ∀ c ∈ x.cps.toList, isLow c = true := by
  unfold nameS
  rw [Bool.and_eq_true, Bool.and_eq_true, decide_eq_true_eq, decide_eq_true_eq, List.all_eq_true]
  exact ⟨fun h => ⟨h.1.1, h.1.2, h.2⟩, fun h => ⟨⟨h.1, h.2.1⟩, h.2.2⟩⟩
theorem stepsOk_mem {ns : List Str} : ∀ {ss : List Stp}, stepsOk ns ss → ∀ s ∈ ss, ∃ bh, s.ok ns bh
  | [], _, s, h => by cases h
  | t :: r, h, s, hs => by
    rcases List.mem_cons.mp hs with rfl | hs
    · exact ⟨_, h.1⟩
    · exact stepsOk_mem h.2 s hs
theorem Ex.flat : ∀ e : Ex, noDic e.data = true
  | .num _ => rfl
  | .arg => rfl
  | .cell a => by
    show (true && (noDic a.data && true)) = true
    rw [Ex.flat a]; rfl
  | .add a b => by
    show (true && (noDic a.data && (noDic b.data && true))) = true
    rw [Ex.flat a, Ex.flat b]; rfl
  | .less a b => by
    show (true && (noDic a.data && (noDic b.data && true))) = true
    rw [Ex.flat a, Ex.flat b]; rfl
  | .least a b => by
    show (true && (noDic a.data && (noDic b.data && true))) = true
    rw [Ex.flat a, Ex.flat b]; rfl
theorem Stp.flat (s : Stp) : noDic s.data = true := by
  cases s with
  | cell a b =>
    show (true && (noDic a.data && (noDic b.data && true))) = true
    rw [Ex.flat a, Ex.flat b]; rfl
  | give x a => show (true && (true && (noDic a.data && true))) = true; rw [Ex.flat a]; rfl
  | fork x a => show (true && (true && (noDic a.data && true))) = true; rw [Ex.flat a]; rfl
  | call x a => show (true && (true && (noDic a.data && true))) = true; rw [Ex.flat a]; rfl
  | wait => rfl
  | skip a k => show (true && (noDic a.data && (true && true))) = true; rw [Ex.flat a]; rfl
theorem noDics_of : ∀ {ds : List PyData}, (∀ d ∈ ds, noDic d = true) → noDics ds = true
  | [], _ => rfl
  | d :: ds, h => by
    show (noDic d && noDics ds) = true
    rw [h d (by simp), noDics_of fun e he => h e (List.mem_cons_of_mem _ he)]
    rfl
theorem prg_noDic (p : Prg) : noDic (prgD p) = true := by
  refine noDics_of fun d hd => ?_
  obtain ⟨r, hr, rfl⟩ := List.mem_map.mp hd
  show (true && (noDics (r.2.map Stp.data) && true)) = true
  rw [noDics_of fun d hd => by
    obtain ⟨s, hs, rfl⟩ := List.mem_map.mp hd
    exact Stp.flat s]
  rfl
theorem Ex.depth_le : ∀ e : Ex, e.data.depth ≤ e.deep
  | .num _ => Nat.zero_le _
  | .arg => by show 1 ≤ 1; exact Nat.le_refl _
  | .cell a => by
    have := Ex.depth_le a
    show max 0 (max a.data.depth 0) + 1 ≤ a.deep + 1
    omega
  | .add a b => by
    have := Ex.depth_le a
    have := Ex.depth_le b
    show max 0 (max a.data.depth (max b.data.depth 0)) + 1 ≤ max a.deep b.deep + 1
    omega
  | .less a b => by
    have := Ex.depth_le a
    have := Ex.depth_le b
    show max 0 (max a.data.depth (max b.data.depth 0)) + 1 ≤ max a.deep b.deep + 1
    omega
  | .least a b => by
    have := Ex.depth_le a
    have := Ex.depth_le b
    show max 0 (max a.data.depth (max b.data.depth 0)) + 1 ≤ max a.deep b.deep + 1
    omega
theorem Stp.depth_le {ns : List Str} {bh : Int} {s : Stp} (h : s.ok ns bh) : s.data.depth ≤ 6 := by
  cases s with
  | cell a b =>
    have := Ex.depth_le a
    have := Ex.depth_le b
    have := h.1
    have := h.2
    show max 0 (max a.data.depth (max b.data.depth 0)) + 1 ≤ 6
    omega
  | give x a =>
    have := Ex.depth_le a
    have := h.2
    show max 0 (max 0 (max a.data.depth 0)) + 1 ≤ 6
    omega
  | fork x a =>
    have := Ex.depth_le a
    have := h.2.2
    show max 0 (max 0 (max a.data.depth 0)) + 1 ≤ 6
    omega
  | call x a =>
    have := Ex.depth_le a
    have := h.2.2
    show max 0 (max 0 (max a.data.depth 0)) + 1 ≤ 6
    omega
  | wait => show 1 ≤ 6; decide
  | skip a k =>
    have := Ex.depth_le a
    have := h.1
    show max 0 (max a.data.depth (max 0 0)) + 1 ≤ 6
    omega
theorem depthAll_le {n : Nat} : ∀ {ds : List PyData}, (∀ d ∈ ds, d.depth ≤ n) → PyData.depthAll ds ≤ n
  | [], _ => Nat.zero_le _
  | d :: ds, h => by
    have h1 := h d (by simp)
    have h2 := depthAll_le fun e he => h e (List.mem_cons_of_mem d he)
    show max d.depth (PyData.depthAll ds) ≤ n
    omega
theorem prg_depth {p : Prg} (h : PrgOk p) : (prgD p).depth ≤ 10 := by
  have : PyData.depthAll (p.map rowD) ≤ 9 := depthAll_le fun d hd => by
    obtain ⟨r, hr, rfl⟩ := List.mem_map.mp hd
    have : PyData.depthAll (r.2.map Stp.data) ≤ 6 := depthAll_le fun d hd => by
      obtain ⟨s, hs, rfl⟩ := List.mem_map.mp hd
      obtain ⟨bh, hb⟩ := stepsOk_mem (h.steps r hr) s hs
      exact Stp.depth_le hb
    show max 0 (max (PyData.depthAll (r.2.map Stp.data) + 1) 0) + 1 ≤ 9
    omega
  show PyData.depthAll (p.map rowD) + 1 ≤ 10
  omega
end
section
theorem cpow {i j : Int} (m : Nat) (h : i.natAbs < 2 ^ m) (h0 : 0 ≤ j) (h1 : (m : Int) * j ≤ 2 ^ 27) : CPowW i j := by
  refine ⟨h0, ?_⟩
  have b := PySem.intBits_le_iff.mpr h
  have : (Builtin.Int.intBits i : Int) * j ≤ (m : Int) * j := Int.mul_le_mul_of_nonneg_right (by omega) h0
  omega
theorem cmulL {i j : Int} (h : -(2 ^ 64) < i) (h' : i < 2 ^ 64) : CMul i j := .inl ⟨h, h'⟩
theorem cdivS {i j : Int} (h : 0 < j) (h' : j < 10 ^ 30) : CDivW i j := wide_div (b := 100) h (by omega) (by decide) (by decide)
end
end Fg
namespace Fg
open PySem PySem.Spec PyProof.Rows L2
local macro_rules | `(tactic| walk_at "hp") => `(tactic| first
  | assumption
  | exact upd_same
  | (refine Chg.at (by assumption) ?_; walk_at "hp")
  | (refine Chg.at1 (by assumption) ?_ (by walk_at "ne"); walk_at "hp"))
local macro_rules | `(tactic| walk_at "ne") => `(tactic| first | assumption | (apply Ne.symm; assumption))
local macro_rules | `(tactic| walk_at "sq") => `(tactic| first | assumption | exact sqL (by walk_at "hp") | (refine Chg.seq (by assumption) ?_; walk_at "sq"))
local macro_rules | `(tactic| walk_at "sz") => `(tactic| first | assumption | exact Nat.zero_le _ | (simp only [List.length_cons, List.length_nil]; decide) | exact Nat.le_trans (by first | omega | (simp; done) | (simp; omega)) (show 100000 ≤ sizeLine by decide) | exact Nat.lt_of_lt_of_le (by first | omega | (simp; done) | (simp; omega)) (show 100000 ≤ sizeLine by decide))
local macro_rules | `(tactic| walk_at "ix") => `(tactic| first | exact at0 | exact at1 | exact at2 | exact at3 | assumption | exact rfl | walk_at "ix2")
local macro_rules | `(tactic| walk_at "ix2") => `(tactic| fail)
local macro_rules | `(tactic| walk_at "num") => `(tactic| first | assumption | omega | decide | walk_at "num2")
local macro_rules | `(tactic| walk_at "num2") => `(tactic| fail)
local macro_rules | `(tactic| walk_at "im") => `(tactic| first | assumption | exact R.non (S := fun _ => False) | exact R.bl (S := fun _ => False) _ | exact R.int (S := fun _ => False) _ | exact R.str (S := fun _ => False) _ | (refine R.im (by assumption) ?_; walk_at "im"))
local macro_rules | `(tactic| walk_at "r") => `(tactic| first | assumption | exact R.non (S := fun _ => False) | exact R.bl (S := fun _ => False) _ | exact R.int (S := fun _ => False) _ | exact R.str (S := fun _ => False) _ | (refine R.same (by assumption) ?_; walk_at "r") | exact R.any (by walk_at "im"))
local macro_rules | `(tactic| walk_at "chg") => `(tactic| first
  | exact Chg.refl
  | assumption
  | (refine Chg.same ?_ (by assumption); walk_at "chg")
  | (refine Chg.both ?_ (by assumption); walk_at "chg")
  | (refine Chg.pre (by assumption) ?_; walk_at "chg"))
local macro_rules | `(tactic| walk_at "w1") => `(tactic| first
  | with_reducible apply w_seq
  | with_reducible apply w_asg
  | ((with_reducible apply w_var); (focus (exact rfl)))
  | with_reducible apply w_c
  | with_reducible apply w_op
  | with_reducible apply w_cons
  | with_reducible apply w_nil
  | with_reducible apply w_gName
  | with_reducible apply w_if
  | with_reducible apply w_test
  | with_reducible apply w_B
  | with_reducible apply w_isbl
  | with_reducible apply w_retN
  | with_reducible apply w_next
  | with_reducible apply w_drop
  | with_reducible apply w_cb
  | with_reducible apply w_call
  | with_reducible apply w_callN
  | with_reducible apply w_bm
  | with_reducible apply w_bm0
  | ((with_reducible apply w_tyL); (focus (walk_at "hp"; done)))
  | with_reducible apply w_dput
  | with_reducible apply w_m1
  | with_reducible apply w_isstr
  | with_reducible apply w_and
  | with_reducible apply w_or
  | with_reducible apply w_not
  | with_reducible apply w_andV
  | with_reducible apply w_orV
  | with_reducible apply w_notV
  | with_reducible apply w_ifE
  | with_reducible apply w_chain
  | with_reducible apply w_un
  | with_reducible apply w_neg
  | with_reducible apply w_add
  | with_reducible apply w_sub
  | ((with_reducible apply w_mod); (focus (walk_at "num"; done)))
  | ((with_reducible apply w_mul); (focus (walk_at "num"; done)))
  | ((with_reducible apply w_fdiv); (focus (walk_at "num"; done)))
  | ((with_reducible apply w_pow); (focus (walk_at "num"; done)))
  | with_reducible apply w_lt
  | with_reducible apply w_le
  | with_reducible apply w_gt
  | with_reducible apply w_ge
  | with_reducible apply w_ltS
  | with_reducible apply w_geS
  | with_reducible apply w_inC
  | with_reducible apply w_notInC
  | with_reducible apply w_isN
  | with_reducible apply w_notN
  | with_reducible apply w_isB
  | with_reducible apply w_notB
  | ((with_reducible apply w_addS); (focus (walk_at "sz"; done)))
  | ((with_reducible apply w_ixL); (focus (walk_at "sq"; done)); (focus (walk_at "ix"; done)))
  | ((with_reducible apply w_ixT); (focus (walk_at "hp"; done)); (focus (walk_at "ix"; done)))
  | ((with_reducible apply w_ixS); (focus (walk_at "sz"; done)); (focus (walk_at "ix"; done)))
  | with_reducible apply w_gSub
  | ((with_reducible apply w_gTup); (focus (walk_at "hp"; done)); (focus (exact rfl)))
  | with_reducible apply w_gCons
  | with_reducible apply w_gNil
  | ((with_reducible apply w_aug); (focus (exact rfl)))
  | with_reducible apply w_ipI
  | ((with_reducible apply w_eq); (focus (exact rfl)))
  | ((with_reducible apply w_ne); (focus (exact rfl)))
  | with_reducible apply w_max
  | with_reducible apply w_min
  | with_reducible apply w_abs
  | with_reducible apply w_intB
  | with_reducible apply w_intI
  | with_reducible apply w_tup1
  | with_reducible apply w_lst1
  | with_reducible apply w_sl
  | with_reducible apply w_part
  | with_reducible apply w_noPart
  | with_reducible apply w_isint
  | ((with_reducible apply w_slS); (focus (walk_at "sz"; done)))
  | with_reducible apply w_iteT
  | with_reducible apply w_iteF
  | with_reducible apply w_iteN
  | ((with_reducible apply w_iteYes); (focus (exact rfl)))
  | ((with_reducible apply w_iteNo); (focus (exact rfl)))
  | ((with_reducible apply w_lenL); (focus (walk_at "sq"; done)))
  | ((with_reducible apply w_lenT); (focus (walk_at "hp"; done)))
  | ((with_reducible apply w_lenS); (focus (walk_at "sz"; done)))
  | with_reducible apply w_lc
  | with_reducible apply w_for
  | with_reducible apply w_yes
  | ((with_reducible apply w_wipe); (focus (exact rfl)))
  | with_reducible apply w_iList
  | with_reducible apply w_iTup
  | with_reducible apply w_iStr
  | with_reducible apply w_iRng1
  | with_reducible apply w_iRng2
  | with_reducible apply w_iZip
  | with_reducible apply w_iEnum
  | ((with_reducible apply d_iList); (focus (walk_at "sq"; done)))
  | ((with_reducible apply d_iTup); (focus (walk_at "hp"; done)))
  | with_reducible apply d_iStr
  | ((with_reducible apply d_iRng1); (focus (walk_at "num"; done)); (focus (walk_at "num"; done)))
  | ((with_reducible apply d_iRng2); (focus (walk_at "num"; done)); (focus (walk_at "num"; done)); (focus (walk_at "num"; done)); (focus (walk_at "num"; done)))
  | ((with_reducible apply d_iZip); (focus (walk_at "sq"; done)); (focus (walk_at "sq"; done)))
  | ((with_reducible apply d_iEnum); (focus (walk_at "sq"; done)))
  | walk_at "w2")
local macro_rules | `(tactic| walk_at "w2") => `(tactic| fail)
local macro_rules | `(tactic| walk_at "wn") => `(tactic| repeat walk_at "w1")
local macro_rules | `(tactic| walk_at "w") => `(tactic| repeat (first | walk_at "w1" | with_reducible apply w_ret))
section
/-- the law's bag, n draws may follow -/
def Bag (H : Hp) (b : Addr) (n : Nat) : Prop := ∃ x y z : Int, H b = some (.lst [.int x, .int y, .int z]) ∧ 0 ≤ x ∧ 0 ≤ y ∧ y < 2 ^ 130 ∧ 0 ≤ z ∧ z + n ≤ 10 ^ 12
theorem Bag.keep {M : List Addr} {H H' : Hp} {b : Addr} {n : Nat} (h : Bag H b n) (c : Chg M H H') (hb : b ∉ M) : Bag H' b n := by
  obtain ⟨x, y, z, e, r⟩ := h
  exact ⟨x, y, z, c.keep _ _ e hb, r⟩
theorem Bag.same {H H' : Hp} {b : Addr} {n : Nat} (h : Bag H b n) (c : Chg [] H H') : Bag H' b n := h.keep c (by simp)
theorem Bag.one {H H' : Hp} {b p : Addr} {n : Nat} (h : Bag H b n) (c : Chg [p] H H') (e : b ≠ p) : Bag H' b n := h.keep c (by simpa using e)
theorem Bag.ne {H : Hp} {b p : Addr} {n : Nat} (h : Bag H b n) (e : H p = none) : b ≠ p := by
  obtain ⟨x, y, z, h, _⟩ := h
  exact ne_of_none h e
theorem Bag.some {H : Hp} {b : Addr} {n : Nat} (h : Bag H b n) : H b ≠ none := by
  obtain ⟨x, y, z, h, _⟩ := h
  rw [h]
  exact fun z => nomatch z
theorem Bag.le {H : Hp} {b : Addr} {n m : Nat} (h : Bag H b n) (e : m ≤ n) : Bag H b m := by
  obtain ⟨x, y, z, h, x0, y0, y1, z0, z1⟩ := h
  exact ⟨x, y, z, h, x0, y0, y1, z0, by omega⟩
def sp__law_draw : Sp := fun vs H Q _ => ∃ (b : Addr) (m : Int) (n : Nat), vs = [.ref b, .int m] ∧ Bag H b n ∧ 1 ≤ n ∧ 0 < m ∧ m < 10 ^ 30 ∧ ∀ (v : Int) (H' : Hp), Chg [b] H H' → Bag H' b (n - 1) → 0 ≤ v → v < m → Q (.int v) H'
theorem u_draw {H : Hp} {Q : VK} {E : XK} {b : Addr} {m : Int} {n : Nat} (hb : Bag H b n) (hn : 1 ≤ n) (h0 : 0 < m) (h1 : m < 10 ^ 30) (q : ∀ (v : Int) (H' : Hp), Chg [b] H H' → Bag H' b (n - 1) → 0 ≤ v → v < m → Q (.int v) H') : sp__law_draw ([.ref b, .int m] ++ []) H Q E := ⟨b, m, n, rfl, hb, hn, h0, h1, q⟩
def t__law_draw (K : PySem.W.Frag) : TS :=
    tSeq (tIfS (tTest (tOp oGt (tOp (rIxL K) (tVar 0) (tC (.int 0))) (tC (.int 1)))) (tSeq (tAsg (tOp oMod (tOp (rIxL K) (tVar 0) (tC (.int 0))) (tVar 1)) (gName 2))
    (tSeq (tAsg (tOp oFdiv (tOp (rIxL K) (tVar 0) (tC (.int 0))) (tVar 1)) (gSub (tVar 0) (tC (.int 0)) rSetL))
    (tRet (tVar 2)))) (tNext))
    (tSeq (tAsg (tOp oAdd (tOp (rIxL K) (tVar 0) (tC (.int 2))) (tC (.int 1))) (gSub (tVar 0) (tC (.int 2)) rSetL))
    (tSeq (tAsg (tOp oMod (tOp oPow (tOp oAdd (tOp (rIxL K) (tVar 0) (tC (.int 1))) (tOp oMul (tC (.int 7368787)) (tOp (rIxL K) (tVar 0) (tC (.int 2))))) (tC (.int 3))) (tC (.int 170141183460469231731687303715884105727))) (gName 3))
    (tSeq (tAsg (tOp oMod (tOp oPow (tOp oAdd (tVar 3) (tOp oMul (tC (.int 15485863)) (tOp (rIxL K) (tVar 0) (tC (.int 2))))) (tC (.int 3))) (tC (.int 162259276829213363391578010288127))) (gName 3))
    (tRet (tOp oMod (tOp oFdiv (tVar 3) (tC (.int 1024))) (tVar 1))))))
theorem pure__law_draw {K : PySem.W.Frag} (vs : List V) (H : Hp) (Q : VK) (E : XK) (h : sp__law_draw vs H Q E) : t__law_draw K (fin Q) (start ["bag", "many", "found", "mixed"] vs) H := by
  obtain ⟨b, m, n, rfl, ⟨x, y, z, hb, x0, y0, y1, z0, z1⟩, n1, m0, m1, q⟩ := h
  show t__law_draw K _ [some (.ref b), some (.int m), none, none] H
  unfold t__law_draw
  walk_at "w"
  refine w_iteD (fun h => ?_) (fun h => ?_)
  · walk_at "w"
    refine w_fdiv (cdivS m0 m1) ?_
    walk_at "w"
    refine w_setL hb rfl fun H1 c1 h1 => ?_
    walk_at "w"
    refine q _ H1 c1 ⟨_, _, _, h1, Int.ediv_nonneg x0 (by omega), y0, y1, z0, by omega⟩ (Int.emod_nonneg _ (by omega)) (Int.emod_lt_of_pos _ m0)
  · walk_at "w"
    refine w_setL hb rfl fun H1 c1 h1 => ?_
    have h1' : H1 b = some (HO.lst [V.int x, V.int y, V.int (z + 1)]) := h1
    clear h1
    walk_at "w"
    refine w_mul (cmulL (by decide) (by decide)) ?_
    walk_at "w"
    refine w_pow (cpow 200 (by omega) (by decide) (by decide)) ?_
    walk_at "w"
    refine w_mul (cmulL (by decide) (by decide)) ?_
    walk_at "w"
    have e0 := Int.emod_nonneg ((y + 7368787 * (z + 1)) ^ Int.toNat 3) (b := 170141183460469231731687303715884105727) (by decide)
    have e1 := Int.emod_lt_of_pos ((y + 7368787 * (z + 1)) ^ Int.toNat 3) (b := 170141183460469231731687303715884105727) (by decide)
    refine w_pow (cpow 200 (by omega) (by decide) (by decide)) ?_
    walk_at "w"
    refine w_fdiv (cdivS (by decide) (by decide)) ?_
    walk_at "w"
    exact q _ H1 c1 ⟨_, _, _, h1', x0, y0, y1, by omega, by omega⟩ (Int.emod_nonneg _ (by omega)) (Int.emod_lt_of_pos _ m0)
def sp__law_cell_at (K : PySem.W.Frag) : Sp := fun vs H Q _ => ∃ (a : Addr) (ns : List Int) (k : Int), vs = [.ref a, .int k] ∧ SqL K H a (ns.map V.int) ∧ 0 ≤ k ∧ ∀ v : Int, Q (.int v) H
def t__law_cell_at (K : PySem.W.Frag) : TS :=
    tSeq (tIfS (tTest (tOp oLt (tVar 1) (tCB (cLenQ K) (tCons (tVar 0) (tNil))))) (tRet (tOp (rIxL K) (tVar 0) (tVar 1))) (tNext))
    (tRet (tC (.int 0)))
theorem pure__law_cell_at {K : PySem.W.Frag} (vs : List V) (H : Hp) (Q : VK) (E : XK) (h : sp__law_cell_at K vs H Q E) : t__law_cell_at K (fin Q) (start ["script", "k"] vs) H := by
  obtain ⟨a, ns, k, rfl, hs, k0, q⟩ := h
  show t__law_cell_at K _ [some (.ref a), some (.int k)] H
  unfold t__law_cell_at
  walk_at "w"
  refine w_iteD (fun h => ?_) (fun h => ?_)
  · rw [List.length_map] at h
    obtain ⟨v, ev, hv⟩ := atD (xs := ns.map V.int) k0 (by rw [List.length_map]; exact h)
    obtain ⟨n, _, rfl⟩ := List.mem_map.mp hv
    walk_at "w"
    exact q n
  · walk_at "w"
    exact q 0
def sp__law_bag : Sp := fun vs H Q _ => ∃ c p : Int, vs = [.int c, .int p] ∧ 0 ≤ p ∧ p ≤ 1000 ∧ ∀ b H', H b = none → Chg [] H H' → Bag H' b (10 ^ 12) → Q (.ref b) H'
def t__law_bag  : TS :=
    tRet (tLst (tCons (tCB cMax (tCons (tC (.int 0)) (tCons (tOp oSub (tVar 0) (tOp oPow (tC (.int 10)) (tC (.int 18)))) (tNil)))) (tCons (tOp oAdd (tOp oMod (tVar 0) (tC (.int 170141183460469231731687303715884105727))) (tOp oMul (tC (.int 982451653)) (tVar 1))) (tCons (tC (.int 0)) (tNil)))))
theorem pure__law_bag {K : PySem.W.Frag} (vs : List V) (H : Hp) (Q : VK) (E : XK) (h : sp__law_bag vs H Q E) : t__law_bag (fin Q) (start ["cell", "place"] vs) H := by
  obtain ⟨c, p, rfl, p0, p1, q⟩ := h
  show t__law_bag _ [some (.int c), some (.int p)] H
  unfold t__law_bag
  walk_at "w"
  refine w_pow (cpow 4 (by decide) (by decide) (by decide)) ?_
  walk_at "w"
  refine w_mul (cmulL (by decide) (by decide)) ?_
  walk_at "w"
  refine k_lst (by walk_at "sz") fun b H1 nb c1 hb => ?_
  have e0 := Int.emod_nonneg c (b := 170141183460469231731687303715884105727) (by decide)
  have e1 := Int.emod_lt_of_pos c (b := 170141183460469231731687303715884105727) (by decide)
  refine q b H1 nb c1 ⟨_, _, _, hb, ?_, by omega, by omega, by omega, by omega⟩
  split <;> omega
def sp__law_number : Sp := fun vs H Q _ => ∃ (b : Addr) (n : Nat), vs = [.ref b] ∧ Bag H b n ∧ 3 ≤ n ∧ ∀ (v : Int) (H' : Hp), Chg [b] H H' → Bag H' b (n - 3) → -(10 ^ 20) ≤ v → v ≤ 10 ^ 20 → Q (.int v) H'
def t__law_number (K : PySem.W.Frag) : TS :=
    tSeq (tAsg (tCall sp__law_draw [] E0 (tCons (tVar 0) (tCons (tC (.int 4)) (tNil)))) (gName 1))
    (tSeq (tAsg (tCall sp__law_draw [] E0 (tCons (tVar 0) (tCons (tOp (rIxL K) (tLst (tCons (tC (.int 4)) (tCons (tC (.int 4)) (tCons (tC (.int 101)) (tCons (tOp oPow (tC (.int 10)) (tC (.int 20))) (tNil)))))) (tVar 1)) (tNil)))) (gName 2))
    (tSeq (tIfS (tTest (tOp rEq (tCall sp__law_draw [] E0 (tCons (tVar 0) (tCons (tC (.int 3)) (tNil)))) (tC (.int 0)))) (tRet (tOp oSub (tC (.int 0)) (tVar 2))) (tNext))
    (tRet (tVar 2))))
theorem pure__law_number {K : PySem.W.Frag} (vs : List V) (H : Hp) (Q : VK) (E : XK) (h : sp__law_number vs H Q E) : t__law_number K (fin Q) (start ["bag", "pick", "number"] vs) H := by
  obtain ⟨b, n, rfl, bag, hn, q⟩ := h
  show t__law_number K _ [some (.ref b), none, none] H
  unfold t__law_number
  walk_at "w"
  refine u_draw bag (by omega) (by decide) (by decide) fun v H1 c1 bag1 v0 v1 => ?_
  walk_at "w"
  refine w_pow (cpow 4 (by decide) (by decide) (by decide)) ?_
  walk_at "w"
  refine k_lst (by walk_at "sz") fun p H2 np c2 hp => ?_
  obtain ⟨x, ex, hx⟩ := atD (xs := [V.int 4, V.int 4, V.int 101, V.int (10 ^ Int.toNat 20)]) v0 v1
  have hx' : ∃ m : Int, x = .int m ∧ 0 < m ∧ m ≤ 10 ^ 20 := by
    simp only [List.mem_cons, List.not_mem_nil, or_false] at hx
    rcases hx with rfl | rfl | rfl | rfl
    · exact ⟨_, rfl, by decide, by decide⟩
    · exact ⟨_, rfl, by decide, by decide⟩
    · exact ⟨_, rfl, by decide, by decide⟩
    · exact ⟨_, rfl, by decide, by decide⟩
  obtain ⟨m, rfl, m0, m1⟩ := hx'
  walk_at "w"
  refine u_draw (bag1.same c2) (by omega) m0 (by omega) fun w H3 c3 bag3 w0 w1 => ?_
  walk_at "w"
  refine u_draw bag3 (by omega) (by decide) (by decide) fun u H4 c4 bag4 u0 u1 => ?_
  walk_at "w"
  have cc : Chg [b] H H4 := ((c1.same c2).both c3).both c4
  refine w_iteD (fun h => ?_) (fun h => ?_)
  · walk_at "w"
    exact q _ H4 cc (bag4.le (by omega)) (by omega) (by omega)
  · walk_at "w"
    exact q _ H4 cc (bag4.le (by omega)) (by omega) (by omega)
end
section
def low (x : Str) : Prop := ∀ c ∈ x.cps.toList, isLow c = true
theorem low_nil : low "" := by intro c h; exact absurd h (by simp [show (Str.ofString "").cps.toList = [] from by decide +kernel])
theorem low_append {x y : Str} (hx : low x) (hy : low y) : low (x ++ y) := by
  intro c h
  have e : (x ++ y).cps.toList = x.cps.toList ++ y.cps.toList := Array.toList_append
  rw [e] at h
  rcases List.mem_append.mp h with h | h
  · exact hx c h
  · exact hy c h
theorem len_append (x y : Str) : (x ++ y).length = x.length + y.length := Array.size_append
theorem len_one (c : Nat) : (Str.mk #[c]).length = 1 := rfl
theorem low_one {c : Nat} (h : isLow c = true) : low ⟨#[c]⟩ := by
  intro d hd
  have : d = c := by simpa using hd
  rw [this]
  exact h
theorem low_cut {x : Str} (lo hi : Option Int) (hx : low x) : low (cutS x lo hi) := by
  intro c h
  unfold cutS at h
  have h : c ∈ (x.cps.toList.drop (HT.sIx x.length 0 lo)).take (HT.sIx x.length x.length hi - HT.sIx x.length 0 lo) := by simpa using h
  exact hx c (List.mem_of_mem_drop (List.mem_of_mem_take h))
theorem len_cut (x : Str) (lo hi : Option Int) : (cutS x lo hi).length = min (HT.sIx x.length x.length hi - HT.sIx x.length 0 lo) (x.length - HT.sIx x.length 0 lo) := by
  unfold cutS
  show ((x.cps.toList.drop _).take _).toArray.size = _
  rw [List.size_toArray, List.length_take, List.length_drop]
  rfl
theorem sIx_i {n d : Nat} {i : Int} (h : 0 ≤ i) : HT.sIx n d (some i) = min i.toNat n := by
  have e : ((i.toNat : Nat) : Int) = i := by omega
  rw [← HT.sIx_nat n d i.toNat, e]
theorem nameS_of {x : Str} (h1 : 1 ≤ x.length) (h2 : x.length ≤ 8) (h3 : low x) : nameS x = true := nameS_iff.mpr ⟨h1, h2, h3⟩
theorem nameS_low {x : Str} (h : nameS x = true) : low x := (nameS_iff.mp h).2.2
theorem letters_len : letters.cps.toList.length = 26 := by decide +kernel
theorem letter_at {v : Int} (h0 : 0 ≤ v) (h1 : v < 26) : ∃ c, atI (Str.ofString "abcdefghijklmnopqrstuvwxyz").cps.toList v = some c ∧ isLow c = true := by
  obtain ⟨c, e, h⟩ := atD (xs := letters.cps.toList) h0 (by rw [letters_len]; exact h1)
  exact ⟨c, e, decide_eq_true h⟩
theorem sum_ones {ys : List Str} (h : ∀ y ∈ ys, y.length = 1) : (ys.map (·.length)).sum = ys.length := by
  induction ys with
  | nil => rfl
  | cons y r ih =>
    rw [List.map_cons, List.sum_cons, ih fun z hz => h z (List.mem_cons_of_mem _ hz), h y (by simp), List.length_cons]
    omega
theorem join_ones {ys : List Str} (h : ∀ y ∈ ys, y.length = 1 ∧ low y) : (Txt.join "" ys).length = ys.length ∧ low (Txt.join "" ys) := by
  rw [TL.join_eq]
  have e0 : TL.tl (Str.ofString "") = [] := by decide +kernel
  have key : ∀ zs : List Str, (∀ y ∈ zs, y.length = 1 ∧ low y) → (TL.joinL [] (zs.map TL.tl)).length = zs.length ∧ ∀ c ∈ TL.joinL [] (zs.map TL.tl), isLow c = true := by
    intro zs
    induction zs with
    | nil => intro _; exact ⟨rfl, fun c h => by cases h⟩
    | cons y r ih =>
      intro h
      have hy := h y (by simp)
      have hr := ih fun z hz => h z (List.mem_cons_of_mem _ hz)
      have hl : (TL.tl y).length = 1 := hy.1
      cases r with
      | nil => exact ⟨hl, hy.2⟩
      | cons z r =>
        have e : TL.joinL [] ((y :: z :: r).map TL.tl) = TL.tl y ++ TL.joinL [] ((z :: r).map TL.tl) := rfl
        rw [e]
        refine ⟨by rw [List.length_append, hr.1, hl, List.length_cons (a := y)]; omega, fun c hc => ?_⟩
        rcases List.mem_append.mp hc with hc | hc
        · exact hy.2 c hc
        · exact hr.2 c hc
  have k := key ys h
  have e : TL.tl (Str.join "" ys) = TL.joinL [] (ys.map TL.tl) := by rw [TL.tl_join, e0]
  refine ⟨?_, fun c hc => k.2 c (by rw [← e]; exact hc)⟩
  rw [← k.1, ← e]
  rfl
def okNm : V → Bool
  | .str x => nameS x
  | _ => false
theorem okNm_of {v : V} (h : okNm v = true) : ∃ x, v = .str x ∧ nameS x = true := by
  cases v with
  | str x => exact ⟨x, rfl, h⟩
  | _ => cases h
theorem cutS_le (x : Str) (lo hi : Option Int) : (cutS x lo hi).length ≤ x.length := by
  rw [len_cut]
  omega
end
section
def sp__law_name : Sp := fun vs H Q _ => ∃ (b : Addr) (last : Str) (n : Nat), vs = [.ref b, .str last] ∧ Bag H b n ∧ 20 ≤ n ∧ last.length ≤ 8 ∧ low last ∧ ∀ (x : Str) (H' : Hp), Chg [b] H H' → Bag H' b (n - 20) → nameS x = true → Q (.str x) H'
def t__law_name (K : PySem.W.Frag) : TS :=
    tSeq (tAsg (tC (.str "abcdefghijklmnopqrstuvwxyz")) (gName 2))
    (tSeq (tAsg (tCall sp__law_draw [] E0 (tCons (tVar 0) (tCons (tC (.int 7)) (tNil)))) (gName 3))
    (tSeq (tAsg (tOp rIxS (tVar 2) (tCall sp__law_draw [] E0 (tCons (tVar 0) (tCons (tC (.int 26)) (tNil))))) (gName 4))
    (tSeq (tIfS (tTest (tOp rEq (tVar 3) (tC (.int 6)))) (tSeq (tAsg (tLst (tCons (tC (.str "arg")) (tCons (tC (.str "cell")) (tCons (tC (.str "add")) (tCons (tC (.str "less")) (tCons (tC (.str "least")) (tCons (tC (.str "wait")) (tCons (tC (.str "give")) (tCons (tC (.str "fork")) (tCons (tC (.str "call")) (tCons (tC (.str "skip")) (tNil)))))))))))) (gName 5))
    (tRet (tOp (rIxL K) (tVar 5) (tCall sp__law_draw [] E0 (tCons (tVar 0) (tCons (tC (.int 10)) (tNil))))))) (tNext))
    (tSeq (tIfS (tAnd (tTest (tOp rEq (tVar 3) (tC (.int 0)))) (tTest (tChain oLt oLt (tC (.int 0)) (tCB cLenS (tCons (tVar 1) (tNil))) (tC (.int 8))))) (tRet (tOp oAddS (tVar 1) (tVar 4))) (tNext))
    (tSeq (tIfS (tAnd (tTest (tOp rEq (tVar 3) (tC (.int 1)))) (tTest (tOp oGt (tCB cLenS (tCons (tVar 1) (tNil))) (tC (.int 1))))) (tRet (tSl rSlS (tVar 1) (tPart (tC (.int 1))) (tNoPart))) (tNext))
    (tSeq (tIfS (tAnd (tTest (tOp rEq (tVar 3) (tC (.int 2)))) (tTest (tOp rNe (tVar 1) (tC (.str ""))))) (tSeq (tAsg (tCall sp__law_draw [] E0 (tCons (tVar 0) (tCons (tCB cLenS (tCons (tVar 1) (tNil))) (tNil)))) (gName 6))
    (tRet (tOp oAddS (tOp oAddS (tSl rSlS (tVar 1) (tNoPart) (tPart (tVar 6))) (tVar 4)) (tSl rSlS (tVar 1) (tPart (tOp oAdd (tVar 6) (tC (.int 1)))) (tNoPart))))) (tNext))
    (tRet (tOp oAddS (tVar 4) (tM1 (mJoin K) (tC (.str "")) (tLc (iRng1 (tCons (tCall sp__law_draw [] E0 (tCons (tVar 0) (tCons (tC (.int 8)) (tNil)))) (tNil))) (gName 7) (tYes) (tOp rIxS (tVar 2) (tCall sp__law_draw [] E0 (tCons (tVar 0) (tCons (tC (.int 26)) (tNil))))) [7]))))))))))
theorem pure__law_name {K : PySem.W.Frag} (vs : List V) (H : Hp) (Q : VK) (E : XK) (h : sp__law_name vs H Q E) : t__law_name K (fin Q) (start ["bag", "last", "letters", "pick", "letter", "words", "at", "k"] vs) H := by
  obtain ⟨b, last, n, rfl, bag, hn, l8, ll, q⟩ := h
  show t__law_name K _ [some (.ref b), some (.str last), none, none, none, none, none, none] H
  unfold t__law_name
  walk_at "w"
  refine u_draw bag (by omega) (by decide) (by decide) fun v H1 c1 bag1 v0 v1 => ?_
  walk_at "w"
  refine u_draw bag1 (by omega) (by decide) (by decide) fun u H2 c2 bag2 u0 u1 => ?_
  obtain ⟨c, ec, hc⟩ := letter_at u0 u1
  have c12 := c1.both c2
  refine w_ixS (by decide +kernel) ec ?_
  walk_at "w"
  refine w_iteD (fun h6 => ?_) (fun h6 => ?_)
  · walk_at "w"
    refine k_lst (by walk_at "sz") fun p H3 np c3 hp => ?_
    walk_at "w"
    have ne := bag2.ne np
    refine u_draw (bag2.same c3) (by omega) (by decide) (by decide) fun w H4 c4 bag4 w0 w1 => ?_
    obtain ⟨x, ex, hx⟩ := atD (xs := [V.str "arg", V.str "cell", V.str "add", V.str "less", V.str "least", V.str "wait", V.str "give", V.str "fork", V.str "call", V.str "skip"]) w0 w1
    have hx' : okNm x = true := by
      have : ∀ x ∈ [V.str "arg", V.str "cell", V.str "add", V.str "less", V.str "least", V.str "wait", V.str "give", V.str "fork", V.str "call", V.str "skip"], okNm x = true := by decide +kernel
      exact this x hx
    obtain ⟨x', rfl, hx2⟩ := okNm_of hx'
    refine w_ixL (sqL (c4.at1 hp ne.symm)) ex ?_
    exact q x' H4 ((c12.same c3).both c4) (bag4.le (by omega)) hx2
  walk_at "w"
  have fallback : ∀ H', Chg [b] H H' → Bag H' b (n - 2) → tRet (tOp oAddS (tVar 4)
        (tM1 (mJoin K) (tC (V.str ""))
          (tLc (iRng1 (tCons (tCall sp__law_draw [] E0 (tCons (tVar 0) (tCons (tC (V.int 8)) tNil))) tNil)) (gName 7) tYes
            (tOp rIxS (tVar 2) (tCall sp__law_draw [] E0 (tCons (tVar 0) (tCons (tC (V.int 26)) tNil)))) [7])))
      (fin Q) [some (.ref b), some (.str last), some (.str "abcdefghijklmnopqrstuvwxyz"), some (.int v), some (.str ⟨#[c]⟩), none, none, none] H' := fun H' c' bag' => by
    walk_at "w"
    refine u_draw bag' (by omega) (by decide) (by decide) fun w H3 c3 bag3 w0 w1 => ?_
    walk_at "w"
    have b3s := bag3.some
    refine w_lcP walk_range [b] (fun i H => Bag H b (n - 3 - i)) (fun i y _ => ∃ d, y = .str ⟨#[d]⟩ ∧ isLow d = true) (bag3.le (by omega)) (fun i H1 H2 p np c h => h.one c (fun z => b3s (by rw [z]; exact np))) (fun _ _ => trivial) (fun D i acc z H4 H5 hi nD hD el iv c4 bag4 y => ?_) (fun D acc H4 nD c4 bag4 el hD ys => ?_)
    · obtain ⟨rfl, rfl⟩ := y
      have hi8 : i < 8 := by omega
      walk_at "w"
      refine u_draw bag4 (by omega) (by decide) (by decide) fun u2 H6 c6 bag6 g0 g1 => ?_
      obtain ⟨d, ed, hd⟩ := letter_at g0 g1
      refine w_ixS (by decide +kernel) ed ?_
      exact lcp_end (fun i H1 H2 p np c h => h.one c (fun z => b3s (by rw [z]; exact np))) (fun _ _ _ _ _ _ _ h => h) nD (fun a ha => by rw [List.mem_singleton.mp ha]; exact b3s) hD el (by omega) iv c6 (bag6.le (by omega)) ⟨d, rfl, hd⟩
    · have hlen : acc.length < 8 := by omega
      obtain ⟨zs, rfl, hzs⟩ : ∃ zs : List Str, acc = zs.map V.str ∧ ∀ z ∈ zs, z.length = 1 ∧ low z := by
        have : ∀ x ∈ acc, ∃ d, x = V.str ⟨#[d]⟩ ∧ isLow d = true := fun x hx => by
          obtain ⟨i, hi⟩ := List.getElem?_of_mem hx
          exact ys i x hi
        clear ys hD el hlen bag4
        induction acc with
        | nil => exact ⟨[], rfl, fun z hz => by cases hz⟩
        | cons x r ih =>
          obtain ⟨zs, e, hz⟩ := ih fun y hy => this y (List.mem_cons_of_mem _ hy)
          obtain ⟨d, rfl, hd⟩ := this x (by simp)
          refine ⟨⟨#[d]⟩ :: zs, by rw [List.map_cons, e], fun z hz' => ?_⟩
          rcases List.mem_cons.mp hz' with rfl | hz'
          · exact ⟨rfl, low_one hd⟩
          · exact hz z hz'
      rw [List.length_map] at hlen
      have j := join_ones hzs
      refine w_join (sqL hD) ?_ ?_
      · rw [sum_ones fun y hy => (hzs y hy).1, show (Str.ofString "").length = 0 from by decide +kernel]
        omega
      · refine w_addS ?_ ?_
        · rw [len_one, j.1]
          exact Nat.le_trans (show 1 + zs.length ≤ 100000 by omega) (by decide)
        refine q _ H4 ((c'.both c3).both c4) (bag4.le (by omega)) (nameS_of ?_ ?_ (low_append (low_one hc) j.2))
        · rw [len_append, len_one]
          omega
        · rw [len_append, len_one, j.1]
          omega
  have lenLast : last.length ≤ sizeLine := Nat.le_trans l8 (by decide)
  refine w_iteD (fun h0 => ?_) (fun h0 => ?_)
  · walk_at "w"
    refine w_iteD (fun g1 => ?_) (fun g1 => ?_)
    · walk_at "w"
      refine w_iteD (fun g2 => ?_) (fun g2 => ?_)
      · walk_at "w"
        refine q _ H2 c12 (bag2.le (by omega)) (nameS_of ?_ ?_ (low_append ll (low_one hc)))
        · rw [len_append, len_one]
          omega
        · rw [len_append, len_one]
          omega
      · have hv : v = 0 := V.int.inj h0
        subst hv
        walk_at "wn"
        exact fallback H2 c12 (bag2.le (by omega))
    · have hv : v = 0 := V.int.inj h0
      subst hv
      walk_at "wn"
      exact fallback H2 c12 (bag2.le (by omega))
  walk_at "w"
  refine w_iteD (fun h1 => ?_) (fun h1 => ?_)
  · walk_at "w"
    have hv : v = 1 := V.int.inj h1
    subst hv
    refine w_iteD (fun g1 => ?_) (fun g1 => ?_)
    · walk_at "w"
      have el : (cutS last (some 1) none).length = last.length - 1 := by
        rw [len_cut, sIx_i (by decide), HT.sIx_none]
        show min (last.length - min 1 last.length) (last.length - min 1 last.length) = _
        omega
      exact q _ H2 c12 (bag2.le (by omega)) (nameS_of (by omega) (by omega) (low_cut _ _ ll))
    · walk_at "wn"
      exact fallback H2 c12 (bag2.le (by omega))
  walk_at "w"
  refine w_iteD (fun h2 => ?_) (fun h2 => ?_)
  · have hv : v = 2 := V.int.inj h2
    subst hv
    walk_at "w"
    refine w_iteD (fun g1 => ?_) (fun g1 => ?_)
    · walk_at "wn"
      exact fallback H2 c12 (bag2.le (by omega))
    · have hne : 1 ≤ last.length := by
        rcases Nat.eq_zero_or_pos last.length with z | z
        · exfalso
          apply g1
          have : last = Str.ofString "" := by
            cases last with
            | mk a =>
              have : a = #[] := Array.eq_empty_of_size_eq_zero z
              rw [this]
              decide +kernel
          rw [this]
        · exact z
      walk_at "w"
      refine u_draw bag2 (by omega) (by omega) (by omega) fun w H3 c3 bag3 w0 w1 => ?_
      walk_at "w"
      have e1 : (cutS last none (some w)).length = w.toNat := by
        rw [len_cut, sIx_i w0, HT.sIx_none]
        omega
      have e2 : (cutS last (some (w + 1)) none).length = last.length - (w.toNat + 1) := by
        rw [len_cut, sIx_i (by omega), HT.sIx_none]
        omega
      refine w_addS ?_ ?_
      · rw [e1, len_one]
        exact Nat.le_trans (show w.toNat + 1 ≤ 100000 by omega) (by decide)
      walk_at "w"
      refine w_addS ?_ ?_
      · rw [len_append, e1, e2, len_one]
        exact Nat.le_trans (show w.toNat + 1 + (last.length - (w.toNat + 1)) ≤ 100000 by omega) (by decide)
      refine q _ H3 (c12.both c3) (bag3.le (by omega)) (nameS_of ?_ ?_ (low_append (low_append (low_cut _ _ ll) (low_one hc)) (low_cut _ _ ll)))
      · rw [len_append, len_append, e1, e2, len_one]
        omega
      · rw [len_append, len_append, e1, e2, len_one]
        omega
  walk_at "wn"
  exact fallback H2 c12 (bag2.le (by omega))
end
section
theorem putK_old {kvs : List (Key × V)} {k : Key} {v : V} (hm : k ∈ kvs.map (·.1)) : (putK kvs k v).map (·.1) = kvs.map (·.1) := by
  unfold putK
  obtain ⟨p, hp, e⟩ := List.mem_map.mp hm
  rw [if_pos (List.any_eq_true.mpr ⟨p, hp, decide_eq_true e⟩), List.map_map]
  apply List.map_congr_left
  intro q _
  show (if q.1 = k then (q.1, v) else q).1 = q.1
  split <;> rfl
theorem putK_add {kvs : List (Key × V)} {k : Key} {v : V} (hm : ¬ k ∈ kvs.map (·.1)) : (putK kvs k v).map (·.1) = kvs.map (·.1) ++ [k] := by
  unfold putK
  have h : ¬ (kvs.any fun kv => decide (kv.1 = k)) = true := fun h => by
    obtain ⟨p, hp, e⟩ := List.any_eq_true.mp h
    exact hm (List.mem_map.mpr ⟨p, hp, of_decide_eq_true e⟩)
  rw [if_neg h, List.map_append]
  rfl
def sp__law_names : Sp := fun vs H Q _ => ∃ (b : Addr) (m : Int) (n : Nat), vs = [.ref b, .int m] ∧ Bag H b n ∧ 0 ≤ m ∧ m ≤ 20 ∧ 1000 ≤ n ∧ ∀ (l : Addr) (xs : List Str) (H' : Hp), Chg [b] H H' → Bag H' b (n - 1000) → H l = none → H' l = some (.lst (xs.map V.str)) → xs.Nodup → (∀ x ∈ xs, nameS x = true) → (xs.length : Int) ≤ m → Q (.ref l) H'
def t__law_names  : TS :=
    tSeq (tAsg (tDNewK) (gName 2))
    (tSeq (tAsg (tC (.str "")) (gName 3))
    (tSeq (tFor (iRng1 (tCons (tVar 1) (tNil))) (gName 4) (tSeq (tAsg (tCall sp__law_name [] E0 (tCons (tVar 0) (tCons (tVar 3) (tNil)))) (gName 3))
    (sDPut (tVar 2) (tVar 3) (tC (.bl true)))))
    (tRet (tCB cListD (tCons (tVar 2) (tNil))))))
theorem pure__law_names {K : PySem.W.Frag} (vs : List V) (H : Hp) (Q : VK) (E : XK) (h : sp__law_names vs H Q E) : t__law_names (fin Q) (start ["bag", "many", "found", "name", "k"] vs) H := by
  obtain ⟨b, m, n, rfl, bag, m0, m1, hn, q⟩ := h
  show t__law_names _ [some (.ref b), some (.int m), none, none, none] H
  unfold t__law_names
  walk_at "w"
  refine w_dnewK fun d H1 nd c1 hd => ?_
  walk_at "w"
  have ne : b ≠ d := bag.ne nd
  refine for_it walk_range (fun i σ H2 => Chg [b] H H2 ∧ Bag H2 b (n - 20 * i) ∧ ∃ (kvs : List (Key × V)) (xs : List Str) (x : Str) (y : Option V), σ = [some (.ref b), some (.int m), some (.ref d), some (.str x), y] ∧ H2 d = some (.dK kvs) ∧ kvs.map (·.1) = xs.map Sum.inr ∧ xs.Nodup ∧ (∀ x ∈ xs, nameS x = true) ∧ xs.length ≤ i ∧ x.length ≤ 8 ∧ low x)
    ⟨c1.wide (by simp), (bag.same c1).le (by omega), [], [], "", none, rfl, hd, rfl, List.nodup_nil, fun x h => (by cases h), Nat.le_refl _, by decide +kernel, low_nil⟩ (fun _ _ _ _ _ => trivial) (fun i x σ H2 H3 hi p y => ?_) (fun σ H2 p => ?_)
  · obtain ⟨c2, bag2, kvs, xs, x1, y1, rfl, hd2, ek, nk, ok, le, l8, lw⟩ := p
    obtain ⟨rfl, rfl⟩ := y
    have hi20 : i < 20 := by omega
    have lk : kvs.length = xs.length := by
      have := congrArg List.length ek
      rw [List.length_map, List.length_map] at this
      exact this
    walk_at "w"
    refine ⟨b, x1, n - 20 * i, rfl, bag2, by omega, l8, lw, fun x2 H4 c4 bag4 ok2 => ?_⟩
    walk_at "w"
    refine d_dput (k := Sum.inr x2) (c4.at1 hd2 ne.symm) (by walk_at "sz") fun H5 c5 h5 => ?_
    have bag5 := bag4.one c5 ne
    have cc : Chg [b] H H5 := (c2.both c4).go c5 fun a ha => .inr (by rw [List.mem_singleton.mp ha]; exact nd)
    refine ⟨cc, bag5.le (by omega), _, if x2 ∈ xs then xs else xs ++ [x2], x2, _, rfl, h5, ?_, ?_, ?_, ?_, (nameS_iff.mp ok2).2.1, nameS_low ok2⟩
    · by_cases hm : x2 ∈ xs
      · rw [if_pos hm, putK_old (by rw [ek]; exact List.mem_map.mpr ⟨x2, hm, rfl⟩), ek]
      · rw [if_neg hm, putK_add (by rw [ek]; exact fun z => by obtain ⟨y, hy, e⟩ := List.mem_map.mp z; cases e; exact hm hy), ek, List.map_append]
        rfl
    · split
      · exact nk
      · next hm => exact nd_snoc nk hm
    · split
      · exact ok
      · intro x hx
        rcases List.mem_append.mp hx with hx | hx
        · exact ok x hx
        · rw [List.mem_singleton.mp hx]
          exact ok2
    · split
      · omega
      · rw [List.length_append, List.length_singleton]
        omega
  · obtain ⟨c2, bag2, kvs, xs, x1, y1, rfl, hd2, ek, nk, ok, le, l8, lw⟩ := p
    walk_at "w"
    refine w_listD hd2 fun l H3 nl c3 hl => ?_
    refine q l xs H3 (c2.same c3) ((bag2.same c3).le (by omega)) (c2.dom _ nl) ?_ nk ok (by omega)
    rw [hl]
    congr 2
    have : (kvs.map fun kv => kV kv.1) = (kvs.map (·.1)).map kV := by rw [List.map_map]; rfl
    rw [this, ek, List.map_map]
    rfl
def sp__law_expression (n : Nat) : Sp := fun vs H Q _ => ∃ (b : Addr) (m : Nat) (k : Nat), vs = [.ref b, .int (m : Nat)] ∧ Bag H b k ∧ 1 ≤ m ∧ m ≤ n ∧ 10 ^ (n + 1) ≤ k ∧
  ∀ (v : V) (e : Ex) (H' : Hp), Chg [b] H H' → Bag H' b (k - 10 ^ (n + 1)) → Im H' v e.data → e.deep ≤ m → e.numsIn (10 ^ 20) → Q v H'
theorem no__law_expression (vs : List V) (H : Hp) (Q : VK) (E : XK) : ¬ sp__law_expression 0 vs H Q E := by
  rintro ⟨b, m, k, _, _, h1, h2, _⟩
  omega
def t__law_expression (K : PySem.W.Frag) (n : Nat) : TS :=
    tSeq (tAsg (tCall sp__law_draw [] E0 (tCons (tVar 0) (tCons (tC (.int 8)) (tNil)))) (gName 2))
    (tSeq (tIfS (tTest (tOp rEq (tVar 2) (tC (.int 0)))) (tRet (tTup (tCons (tC (.str "arg")) (tNil)))) (tNext))
    (tSeq (tIfS (tOr (tTest (tOp oLt (tVar 1) (tC (.int 2)))) (tTest (tOp oLt (tVar 2) (tC (.int 4))))) (tRet (tCall sp__law_number [] E0 (tCons (tVar 0) (tNil)))) (tNext))
    (tSeq (tIfS (tTest (tOp oLt (tVar 2) (tC (.int 6)))) (tRet (tTup (tCons (tC (.str "cell")) (tCons (tCall (sp__law_expression n) [] E0 (tCons (tVar 0) (tCons (tOp oSub (tVar 1) (tC (.int 1))) (tNil)))) (tNil))))) (tNext))
    (tSeq (tAsg (tOp (rIxL K) (tLst (tCons (tC (.str "add")) (tCons (tC (.str "less")) (tCons (tC (.str "least")) (tNil))))) (tCall sp__law_draw [] E0 (tCons (tVar 0) (tCons (tC (.int 3)) (tNil))))) (gName 3))
    (tSeq (tAsg (tCall (sp__law_expression n) [] E0 (tCons (tVar 0) (tCons (tOp oSub (tVar 1) (tC (.int 1))) (tNil)))) (gName 4))
    (tRet (tTup (tCons (tVar 3) (tCons (tVar 4) (tCons (tCall (sp__law_expression n) [] E0 (tCons (tVar 0) (tCons (tOp oSub (tVar 1) (tC (.int 1))) (tNil)))) (tNil)))))))))))
theorem pure__law_expression {K : PySem.W.Frag} (n : Nat) (vs : List V) (H : Hp) (Q : VK) (E : XK) (h : sp__law_expression (n + 1) vs H Q E) : t__law_expression K n (fin Q) (start ["bag", "most", "pick", "word", "one"] vs) H := by
  obtain ⟨b, m, k, rfl, bag, m0, m1, hk, q⟩ := h
  have hp1 : 10 ≤ 10 ^ (n + 1) := Nat.le_trans (by decide) (Nat.pow_le_pow_right (by decide) (show 1 ≤ n + 1 by omega))
  have hp2 : 10 ^ (n + 1 + 1) = 10 * 10 ^ (n + 1) := by rw [Nat.pow_succ]; omega
  rw [hp2] at hk q
  show t__law_expression K n _ [some (.ref b), some (.int (m : Nat)), none, none, none] H
  unfold t__law_expression
  walk_at "w"
  refine u_draw bag (by omega) (by decide) (by decide) fun v H1 c1 bag1 v0 v1 => ?_
  walk_at "w"
  have num : ∀ σ' : L2.St, σ'[0]? = some (some (.ref b)) → tRet (tCall sp__law_number [] E0 (tCons (tVar 0) tNil)) (fin Q) σ' H1 := fun σ' es => by
    walk_at "w"
    refine w_var es ?_
    walk_at "w"
    refine ⟨b, k - 1, rfl, bag1, by omega, fun x H2 c2 bag2 x0 x1 => ?_⟩
    exact q (.int x) (.num x) H2 (c1.both c2) (bag2.le (by omega)) (.int x) m0 ⟨x0, x1⟩
  refine w_iteD (fun h0 => ?_) (fun h0 => ?_)
  · walk_at "w"
    refine k_tup (by walk_at "sz") fun p H2 np c2 hp => ?_
    exact q (.ref p) .arg H2 (c1.same c2) ((bag1.same c2).le (by omega)) (.tup hp (.cons (.str _) .nil)) m0 trivial
  walk_at "w"
  refine w_iteD (fun h2 => ?_) (fun h2 => ?_)
  · walk_at "wn"
    exact num _ rfl
  walk_at "w"
  refine w_iteD (fun h4 => ?_) (fun h4 => ?_)
  · walk_at "wn"
    exact num _ rfl
  walk_at "w"
  have em : ((m : Nat) : Int) - 1 = ((m - 1 : Nat) : Int) := by omega
  refine w_iteD (fun h6 => ?_) (fun h6 => ?_)
  · walk_at "w"
    rw [em]
    refine ⟨b, m - 1, k - 1, rfl, bag1, by omega, by omega, by omega, fun x e H2 c2 bag2 im de nu => ?_⟩
    walk_at "w"
    refine k_tup (by walk_at "sz") fun p H3 np c3 hp => ?_
    exact q (.ref p) (.cell e) H3 ((c1.both c2).same c3) ((bag2.same c3).le (by omega)) (.tup hp (.cons (.str _) (.cons (im.im c3) .nil))) (by show e.deep + 1 ≤ m; omega) nu
  walk_at "w"
  refine k_lst (by walk_at "sz") fun l H2 nl c2 hl => ?_
  have ne := bag1.ne nl
  walk_at "w"
  refine u_draw (bag1.same c2) (by omega) (by decide) (by decide) fun u H3 c3 bag3 u0 u1 => ?_
  obtain ⟨x, ex, hx⟩ := atD (xs := [V.str "add", V.str "less", V.str "least"]) u0 u1
  refine w_ixL (sqL (c3.at1 hl ne.symm)) ex ?_
  walk_at "w"
  rw [em]
  refine ⟨b, m - 1, k - 2, rfl, bag3.le (by omega), by omega, by omega, by omega, fun y e H4 c4 bag4 im de nu => ?_⟩
  walk_at "w"
  rw [em]
  refine ⟨b, m - 1, k - 2 - 10 ^ (n + 1), rfl, bag4, by omega, by omega, by omega, fun y' e' H5 c5 bag5 im' de' nu' => ?_⟩
  walk_at "w"
  refine k_tup (by walk_at "sz") fun p H6 np c6 hp => ?_
  have cc : Chg [b] H H6 := ((((c1.same c2).both c3).both c4).both c5).same c6
  have bb : Bag H6 b (k - 10 * 10 ^ (n + 1)) := (bag5.same c6).le (by omega)
  have r1 := im.im (c5.same c6)
  have r2 := im'.im c6
  simp only [List.mem_cons, List.not_mem_nil, or_false] at hx
  rcases hx with rfl | rfl | rfl
  · exact q (.ref p) (.add e e') H6 cc bb (.tup hp (.cons (.str _) (.cons r1 (.cons r2 .nil)))) (by show max e.deep e'.deep + 1 ≤ m; omega) ⟨nu, nu'⟩
  · exact q (.ref p) (.less e e') H6 cc bb (.tup hp (.cons (.str _) (.cons r1 (.cons r2 .nil)))) (by show max e.deep e'.deep + 1 ≤ m; omega) ⟨nu, nu'⟩
  · exact q (.ref p) (.least e e') H6 cc bb (.tup hp (.cons (.str _) (.cons r1 (.cons r2 .nil)))) (by show max e.deep e'.deep + 1 ≤ m; omega) ⟨nu, nu'⟩
def Stp.numsIn (B : Int) : Stp → Prop
  | .cell a b => a.numsIn B ∧ b.numsIn B
  | .give _ a => a.numsIn B
  | .fork _ a => a.numsIn B
  | .call _ a => a.numsIn B
  | .wait => True
  | .skip a k => a.numsIn B ∧ k ≤ 100
def sp__law_step (K : PySem.W.Frag) : Sp := fun vs H Q _ => ∃ (b l : Addr) (ns : List Str) (bh dp : Int) (n : Nat), vs = [.ref b, .ref l, .int bh, .int dp] ∧ Bag H b n ∧ H l = some (.lst (ns.map V.str)) ∧ l ≠ b ∧ ns ≠ [] ∧ ns.length ≤ 1000 ∧ (∀ x ∈ ns, nameS x = true) ∧ 0 ≤ bh ∧ bh ≤ 100 ∧ 1 ≤ dp ∧ dp ≤ 5 ∧ 10 ^ 8 ≤ n ∧
  ∀ (v : V) (s : Stp) (H' : Hp), Chg [b] H H' → Bag H' b (n - 10 ^ 8) → Im H' v s.data → s.ok ns bh → s.numsIn (10 ^ 20) → Q v H'
def t__law_step (K : PySem.W.Frag) : TS :=
    tSeq (tAsg (tOp (rIxL K) (tLst (tCons (tC (.str "cell")) (tCons (tC (.str "give")) (tCons (tC (.str "fork")) (tCons (tC (.str "call")) (tCons (tC (.str "wait")) (tCons (tC (.str "skip")) (tNil)))))))) (tCall sp__law_draw [] E0 (tCons (tVar 0) (tCons (tC (.int 6)) (tNil))))) (gName 4))
    (tSeq (tAsg (tCall (sp__law_expression 6) [] E0 (tCons (tVar 0) (tCons (tOp oAdd (tC (.int 1)) (tCall sp__law_draw [] E0 (tCons (tVar 0) (tCons (tVar 3) (tNil))))) (tNil)))) (gName 5))
    (tSeq (tIfS (tOr (tTest (tOp rEq (tVar 4) (tC (.str "wait")))) (tAnd (tTest (tOp rEq (tVar 4) (tC (.str "skip")))) (tTest (tOp rEq (tVar 2) (tC (.int 0)))))) (tRet (tTup (tCons (tC (.str "wait")) (tNil)))) (tNext))
    (tSeq (tIfS (tTest (tOp rEq (tVar 4) (tC (.str "cell")))) (tRet (tTup (tCons (tVar 4) (tCons (tVar 5) (tCons (tCall (sp__law_expression 6) [] E0 (tCons (tVar 0) (tCons (tOp oAdd (tC (.int 1)) (tCall sp__law_draw [] E0 (tCons (tVar 0) (tCons (tVar 3) (tNil))))) (tNil)))) (tNil)))))) (tNext))
    (tSeq (tIfS (tTest (tOp rEq (tVar 4) (tC (.str "skip")))) (tRet (tTup (tCons (tVar 4) (tCons (tVar 5) (tCons (tOp oAdd (tC (.int 1)) (tCall sp__law_draw [] E0 (tCons (tVar 0) (tCons (tVar 2) (tNil))))) (tNil)))))) (tNext))
    (tSeq (tIfS (tTest (tOp rEq (tVar 4) (tC (.str "give")))) (tRet (tTup (tCons (tVar 4) (tCons (tCall sp__law_name [] E0 (tCons (tVar 0) (tCons (tOp (rIxL K) (tVar 1) (tC (.int 0))) (tNil)))) (tCons (tVar 5) (tNil)))))) (tNext))
    (tRet (tTup (tCons (tVar 4) (tCons (tOp (rIxL K) (tVar 1) (tCall sp__law_draw [] E0 (tCons (tVar 0) (tCons (tCB (cLenQ K) (tCons (tVar 1) (tNil))) (tNil))))) (tCons (tVar 5) (tNil)))))))))))
theorem pure__law_step {K : PySem.W.Frag} (vs : List V) (H : Hp) (Q : VK) (E : XK) (h : sp__law_step K vs H Q E) : t__law_step K (fin Q) (start ["bag", "names", "behind", "deep", "word", "one"] vs) H := by
  obtain ⟨b, l, ns, bh, dp, n, rfl, bag, hl, ne, nn, n1, ok, bh0, bh1, dp0, dp1, hn, q⟩ := h
  show t__law_step K _ [some (.ref b), some (.ref l), some (.int bh), some (.int dp), none, none] H
  unfold t__law_step
  walk_at "w"
  refine k_lst (by walk_at "sz") fun p H1 np c1 hp => ?_
  have ne1 := bag.ne np
  walk_at "w"
  refine u_draw (bag.same c1) (by omega) (by decide) (by decide) fun v H2 c2 bag2 v0 v1 => ?_
  obtain ⟨x, ex, hx⟩ := atD (xs := [V.str "cell", V.str "give", V.str "fork", V.str "call", V.str "wait", V.str "skip"]) v0 v1
  refine w_ixL (sqL (c2.at1 hp ne1.symm)) ex ?_
  walk_at "w"
  refine u_draw bag2 (by omega) (by omega) (by omega) fun u H3 c3 bag3 u0 u1 => ?_
  walk_at "w"
  have eu : (1 : Int) + u = ((u.toNat + 1 : Nat) : Int) := by omega
  rw [eu]
  refine ⟨b, u.toNat + 1, n - 2, rfl, bag3.le (by omega), by omega, by omega, by omega, fun y e H4 c4 bag4 im de nu => ?_⟩
  have cc : Chg [b] H H4 := (((c1.wide (by simp)).both c2).both c3).both c4
  have de5 : e.deep ≤ 5 := by omega
  have hl4 := cc.at1 hl ne
  have wait : ∀ σ' : L2.St, tRet (tTup (tCons (tC (V.str "wait")) tNil)) (fin Q) σ' H4 := fun σ' => by
    walk_at "w"
    refine k_tup (by walk_at "sz") fun p H5 np c5 hp => ?_
    exact q (.ref p) .wait H5 (cc.same c5) ((bag4.same c5).le (by omega)) (.tup hp (.cons (.str _) .nil)) trivial trivial
  simp only [List.mem_cons, List.not_mem_nil, or_false] at hx
  have lln : ((ns.map V.str).length : Int) = ns.length := by rw [List.length_map]
  have pos : 0 < ns.length := List.length_pos_iff.mpr nn
  have named : ∀ (f : Str → Ex → Stp) (w : Str) (σ' : L2.St), σ'[0]? = some (some (.ref b)) → σ'[1]? = some (some (.ref l)) → σ'[4]? = some (some (.str w)) → σ'[5]? = some (some y) → (∀ x, (f x e).data = .tuple [.str w, .str x, e.data]) → (∀ x, x ∈ ns → nameS x = true → (f x e).ok ns bh) → (∀ x, (f x e).numsIn (10 ^ 20)) →
      tRet (tTup (tCons (tVar 4) (tCons (tOp (rIxL K) (tVar 1) (tCall sp__law_draw [] E0 (tCons (tVar 0) (tCons (tCB (cLenQ K) (tCons (tVar 1) tNil)) tNil)))) (tCons (tVar 5) tNil)))) (fin Q) σ' H4 := fun f w σ' e0 e1 e4 e5 ed eo en => by
    walk_at "w"
    refine w_var e4 ?_
    walk_at "w"
    refine w_var e1 ?_
    walk_at "w"
    refine w_var e0 ?_
    walk_at "w"
    refine w_var e1 ?_
    walk_at "w"
    refine u_draw bag4 (by omega) (by omega) (by omega) fun z H5 c5 bag5 z0 z1 => ?_
    obtain ⟨nm, en1, hn1⟩ := atD (xs := ns.map V.str) z0 z1
    obtain ⟨nm, hm, rfl⟩ := List.mem_map.mp hn1
    refine w_ixL (sqL (c5.at1 hl4 ne)) en1 ?_
    walk_at "w"
    refine w_var e5 ?_
    walk_at "w"
    refine k_tup (by walk_at "sz") fun p H6 np c6 hp => ?_
    refine q (.ref p) (f nm e) H6 ((cc.both c5).same c6) ((bag5.same c6).le (by omega)) ?_ (eo nm hm (ok nm hm)) (en nm)
    rw [ed]
    exact .tup hp (.cons (.str _) (.cons (.str _) (.cons (im.im (c5.same c6)) .nil)))
  rcases hx with rfl | rfl | rfl | rfl | rfl | rfl
  · walk_at "w"
    refine u_draw bag4 (by omega) (by omega) (by omega) fun u' H5 c5 bag5 g0 g1 => ?_
    walk_at "w"
    have eu' : (1 : Int) + u' = ((u'.toNat + 1 : Nat) : Int) := by omega
    rw [eu']
    refine ⟨b, u'.toNat + 1, n - 3 - 10 ^ 7, rfl, bag5.le (by omega), by omega, by omega, by omega, fun y' e' H6 c6 bag6 im' de' nu' => ?_⟩
    walk_at "w"
    refine k_tup (by walk_at "sz") fun p H7 np c7 hp => ?_
    exact q (.ref p) (.cell e e') H7 (((cc.both c5).both c6).same c7) ((bag6.same c7).le (by omega)) (.tup hp (.cons (.str _) (.cons (im.im ((c5.both c6).same c7)) (.cons (im'.im c7) .nil)))) ⟨de5, by omega⟩ ⟨nu, nu'⟩
  · walk_at "w"
    have e0 : atI (ns.map V.str) 0 = some (.str (ns.head nn)) := by
      cases ns with
      | nil => exact absurd rfl nn
      | cons a r => exact at0
    have hh := ok _ (List.head_mem nn)
    refine w_ixL (sqL hl4) e0 ?_
    walk_at "w"
    refine ⟨b, ns.head nn, n - 2 - 10 ^ 7, rfl, bag4.le (by omega), by omega, (nameS_iff.mp hh).2.1, nameS_low hh, fun nm H5 c5 bag5 okn => ?_⟩
    walk_at "w"
    refine k_tup (by walk_at "sz") fun p H6 np c6 hp => ?_
    exact q (.ref p) (.give nm e) H6 ((cc.both c5).same c6) ((bag5.same c6).le (by omega)) (.tup hp (.cons (.str _) (.cons (.str _) (.cons (im.im (c5.same c6)) .nil)))) ⟨okn, de5⟩ nu
  · walk_at "wn"
    exact named .fork "fork" _ rfl rfl rfl rfl (fun _ => rfl) (fun x hx hn => ⟨hn, hx, de5⟩) (fun _ => nu)
  · walk_at "wn"
    exact named .call "call" _ rfl rfl rfl rfl (fun _ => rfl) (fun x hx hn => ⟨hn, hx, de5⟩) (fun _ => nu)
  · walk_at "wn"
    exact wait _
  · walk_at "wn"
    refine w_iteD (fun hb => ?_) (fun hb => ?_)
    · walk_at "wn"
      exact wait _
    · have hb' : bh ≠ 0 := fun z => hb (by rw [z])
      walk_at "w"
      refine u_draw bag4 (by omega) (by omega) (by omega) fun u' H5 c5 bag5 g0 g1 => ?_
      walk_at "w"
      refine k_tup (by walk_at "sz") fun p H6 np c6 hp => ?_
      exact q (.ref p) (.skip e (1 + u')) H6 ((cc.both c5).same c6) ((bag5.same c6).le (by omega)) (.tup hp (.cons (.str _) (.cons (im.im (c5.same c6)) (.cons (.int _) .nil)))) ⟨de5, by omega, by omega⟩ ⟨nu, by omega⟩
end
section
theorem cut_from (xs : List V) (k : Nat) : cutV xs (some (k : Nat)) none = xs.drop k := by
  unfold cutV
  rw [HT.sIx_nat, HT.sIx_none]
  rw [List.take_of_length_le (by rw [List.length_drop]; omega)]
  rcases Nat.le_total k xs.length with h | h
  · rw [Nat.min_eq_left h]
  · rw [Nat.min_eq_right h, List.drop_eq_nil_of_le (Nat.le_refl _), List.drop_eq_nil_of_le h]
theorem cut_to (xs : List V) (k : Nat) : cutV xs none (some (k : Nat)) = xs.take k := by
  unfold cutV
  rw [HT.sIx_nat, HT.sIx_none, List.drop_zero, Nat.sub_zero]
  rcases Nat.le_total k xs.length with h | h
  · rw [Nat.min_eq_left h]
  · rw [Nat.min_eq_right h, List.take_of_length_le (Nat.le_refl _), List.take_of_length_le h]
theorem w_catA {K : PySem.W.Frag} {p q : Addr} {xs ys : List V} {H : Hp} {Q : VK} (h1 : H p = some (.tup xs)) (h2 : H q = some (.tup ys)) (hz : xs.length + ys.length ≤ 100000) (k : ∀ p' H2, Chg [] H H2 → H2 p' = some (.tup (xs ++ ys)) → Q (.ref p') H2) : rCatA K (.ref p) (.ref q) H Q := by
  refine ⟨p, q, xs, ys, rfl, rfl, sqT h1, sqT h2, Nat.le_trans hz (by decide), fun e => ?_, fun _ e => ?_, fun _ _ => d_new fun p' H2 _ c h => k p' H2 c h⟩
  · subst e
    exact k q H .refl h2
  · subst e
    exact k p H .refl (by rw [List.append_nil]; exact h1)
theorem w_cat {l b : Addr} {xs zs : List V} {H : Hp} {Q : VK} (h1 : H l = some (.lst xs)) (h2 : H b = some (.lst zs)) (hz : xs.length + zs.length ≤ 100000) (q : ∀ p H2, H p = none → Chg [] H H2 → H2 p = some (.lst (xs ++ zs)) → Q (.ref p) H2) : rCat (.ref l) (.ref b) H Q :=
  ⟨l, b, xs, zs, rfl, rfl, h1, h2, Nat.le_trans hz (by decide), fun p np => q p _ np (.new np) upd_same⟩
end
end Fg
namespace Fg
open PySem PySem.Spec PyProof.Rows L2
local macro_rules | `(tactic| walk_at "hp") => `(tactic| first
  | assumption
  | exact upd_same
  | (refine Chg.at (by assumption) ?_; walk_at "hp")
  | (refine Chg.at1 (by assumption) ?_ (by walk_at "ne"); walk_at "hp"))
local macro_rules | `(tactic| walk_at "ne") => `(tactic| first | assumption | (apply Ne.symm; assumption))
local macro_rules | `(tactic| walk_at "sq") => `(tactic| first | assumption | exact sqL (by walk_at "hp") | (refine Chg.seq (by assumption) ?_; walk_at "sq"))
local macro_rules | `(tactic| walk_at "sz") => `(tactic| first | assumption | exact Nat.zero_le _ | (simp only [List.length_cons, List.length_nil]; decide) | exact Nat.le_trans (by first | omega | (simp; done) | (simp; omega)) (show 100000 ≤ sizeLine by decide) | exact Nat.lt_of_lt_of_le (by first | omega | (simp; done) | (simp; omega)) (show 100000 ≤ sizeLine by decide))
local macro_rules | `(tactic| walk_at "ix") => `(tactic| first | exact at0 | exact at1 | exact at2 | exact at3 | assumption | exact rfl | walk_at "ix2")
local macro_rules | `(tactic| walk_at "ix2") => `(tactic| fail)
local macro_rules | `(tactic| walk_at "num") => `(tactic| first | assumption | omega | decide | walk_at "num2")
local macro_rules | `(tactic| walk_at "num2") => `(tactic| fail)
local macro_rules | `(tactic| walk_at "im") => `(tactic| first | assumption | exact R.non (S := fun _ => False) | exact R.bl (S := fun _ => False) _ | exact R.int (S := fun _ => False) _ | exact R.str (S := fun _ => False) _ | (refine R.im (by assumption) ?_; walk_at "im"))
local macro_rules | `(tactic| walk_at "r") => `(tactic| first | assumption | exact R.non (S := fun _ => False) | exact R.bl (S := fun _ => False) _ | exact R.int (S := fun _ => False) _ | exact R.str (S := fun _ => False) _ | (refine R.same (by assumption) ?_; walk_at "r") | exact R.any (by walk_at "im"))
local macro_rules | `(tactic| walk_at "chg") => `(tactic| first
  | exact Chg.refl
  | assumption
  | (refine Chg.same ?_ (by assumption); walk_at "chg")
  | (refine Chg.both ?_ (by assumption); walk_at "chg")
  | (refine Chg.pre (by assumption) ?_; walk_at "chg"))
local macro_rules | `(tactic| walk_at "w1") => `(tactic| first
  | with_reducible apply w_seq
  | with_reducible apply w_asg
  | ((with_reducible apply w_var); (focus (exact rfl)))
  | with_reducible apply w_c
  | with_reducible apply w_op
  | with_reducible apply w_cons
  | with_reducible apply w_nil
  | with_reducible apply w_gName
  | with_reducible apply w_if
  | with_reducible apply w_test
  | with_reducible apply w_B
  | with_reducible apply w_isbl
  | with_reducible apply w_retN
  | with_reducible apply w_next
  | with_reducible apply w_drop
  | with_reducible apply w_cb
  | with_reducible apply w_call
  | with_reducible apply w_callN
  | with_reducible apply w_bm
  | with_reducible apply w_bm0
  | ((with_reducible apply w_tyL); (focus (walk_at "hp"; done)))
  | with_reducible apply w_dput
  | with_reducible apply w_m1
  | with_reducible apply w_isstr
  | with_reducible apply w_and
  | with_reducible apply w_or
  | with_reducible apply w_not
  | with_reducible apply w_andV
  | with_reducible apply w_orV
  | with_reducible apply w_notV
  | with_reducible apply w_ifE
  | with_reducible apply w_chain
  | with_reducible apply w_un
  | with_reducible apply w_neg
  | with_reducible apply w_add
  | with_reducible apply w_sub
  | ((with_reducible apply w_mod); (focus (walk_at "num"; done)))
  | ((with_reducible apply w_mul); (focus (walk_at "num"; done)))
  | ((with_reducible apply w_fdiv); (focus (walk_at "num"; done)))
  | ((with_reducible apply w_pow); (focus (walk_at "num"; done)))
  | with_reducible apply w_lt
  | with_reducible apply w_le
  | with_reducible apply w_gt
  | with_reducible apply w_ge
  | with_reducible apply w_ltS
  | with_reducible apply w_geS
  | with_reducible apply w_inC
  | with_reducible apply w_notInC
  | with_reducible apply w_isN
  | with_reducible apply w_notN
  | with_reducible apply w_isB
  | with_reducible apply w_notB
  | ((with_reducible apply w_addS); (focus (walk_at "sz"; done)))
  | ((with_reducible apply w_ixL); (focus (walk_at "sq"; done)); (focus (walk_at "ix"; done)))
  | ((with_reducible apply w_ixT); (focus (walk_at "hp"; done)); (focus (walk_at "ix"; done)))
  | ((with_reducible apply w_ixS); (focus (walk_at "sz"; done)); (focus (walk_at "ix"; done)))
  | with_reducible apply w_gSub
  | ((with_reducible apply w_gTup); (focus (walk_at "hp"; done)); (focus (exact rfl)))
  | with_reducible apply w_gCons
  | with_reducible apply w_gNil
  | ((with_reducible apply w_aug); (focus (exact rfl)))
  | with_reducible apply w_ipI
  | ((with_reducible apply w_eq); (focus (exact rfl)))
  | ((with_reducible apply w_ne); (focus (exact rfl)))
  | with_reducible apply w_max
  | with_reducible apply w_min
  | with_reducible apply w_abs
  | with_reducible apply w_intB
  | with_reducible apply w_intI
  | with_reducible apply w_tup1
  | with_reducible apply w_lst1
  | with_reducible apply w_sl
  | with_reducible apply w_part
  | with_reducible apply w_noPart
  | with_reducible apply w_isint
  | ((with_reducible apply w_slS); (focus (walk_at "sz"; done)))
  | with_reducible apply w_iteT
  | with_reducible apply w_iteF
  | with_reducible apply w_iteN
  | ((with_reducible apply w_iteYes); (focus (exact rfl)))
  | ((with_reducible apply w_iteNo); (focus (exact rfl)))
  | ((with_reducible apply w_lenL); (focus (walk_at "sq"; done)))
  | ((with_reducible apply w_lenT); (focus (walk_at "hp"; done)))
  | ((with_reducible apply w_lenS); (focus (walk_at "sz"; done)))
  | with_reducible apply w_lc
  | with_reducible apply w_for
  | with_reducible apply w_yes
  | ((with_reducible apply w_wipe); (focus (exact rfl)))
  | with_reducible apply w_iList
  | with_reducible apply w_iTup
  | with_reducible apply w_iStr
  | with_reducible apply w_iRng1
  | with_reducible apply w_iRng2
  | with_reducible apply w_iZip
  | with_reducible apply w_iEnum
  | ((with_reducible apply d_iList); (focus (walk_at "sq"; done)))
  | ((with_reducible apply d_iTup); (focus (walk_at "hp"; done)))
  | with_reducible apply d_iStr
  | ((with_reducible apply d_iRng1); (focus (walk_at "num"; done)); (focus (walk_at "num"; done)))
  | ((with_reducible apply d_iRng2); (focus (walk_at "num"; done)); (focus (walk_at "num"; done)); (focus (walk_at "num"; done)); (focus (walk_at "num"; done)))
  | ((with_reducible apply d_iZip); (focus (walk_at "sq"; done)); (focus (walk_at "sq"; done)))
  | ((with_reducible apply d_iEnum); (focus (walk_at "sq"; done)))
  | walk_at "w2")
local macro_rules | `(tactic| walk_at "w2") => `(tactic| fail)
local macro_rules | `(tactic| walk_at "wn") => `(tactic| repeat walk_at "w1")
local macro_rules | `(tactic| walk_at "w") => `(tactic| repeat (first | walk_at "w1" | with_reducible apply w_ret))
local macro_rules | `(tactic| walk_at "w2") => `(tactic| first
  | ((with_reducible apply w_isInt); (focus (walk_at "r"; done)))
  | ((with_reducible apply w_isBool); (focus (walk_at "r"; done)))
  | ((with_reducible apply w_isStr); (focus (walk_at "r"; done)))
  | ((with_reducible apply w_isTup); (focus (walk_at "r"; done)))
  | ((with_reducible apply w_isLst); (focus (walk_at "r"; done)))
  | ((with_reducible apply w_notInP); (focus (assumption)))
  | ((with_reducible apply w_ixP); (focus (assumption)); (focus (assumption))))
section
def odd1 : List CE := [.non, .bl true, .bl false, .str "", .str "a", .str "A", .str "a1", .str "ab\n", .str "abcdefghi", .tup [], .lst [], .d0, .d1, .lst [.str "arg"], .str "arg"]
def odd2 : List CE := [.tup [.str "arg", .int 1], .tup [.str "Arg"], .tup [.str "cell"], .tup [.str "cell", .int 1, .int 2], .tup [.str "add", .int 1], .tup [.str "add", .int 1, .int 2, .int 3], .tup [.str "least", .int 1, .non]]
def odd3 : List CE := [.tup [.str "less", .bl true, .int 1], .tup [.str "cell", .str "1"], .lst [.str "cell", .int 1], .tup [.str "mul", .int 1, .int 2], .tup [.str "wait"], .tup [.int 1, .int 2], .str "1", .int 1]
def odd4 : List CE := [.tup [.str "cell", .tup [.str "arg", .tup []]], .tup [.str "add", .lst []], .tup [.lst [], .int 1], .tup [.d0, .int 1, .int 2]]
theorem bagN {H : Hp} {b : Addr} {n : Nat} (h : Bag H b n) : H b ≠ none := by
  obtain ⟨x, y, z, e, _⟩ := h
  rw [e]
  exact fun z => nomatch z
end
section
def LfP (H : Hp) (M : List Addr) (D : Addr) (Ac : Nat → List V → Prop) (i : Nat) : Hp → Prop := fun H5 => ∃ acc, acc.length ≤ i ∧ H5 D = some (.lst acc) ∧ Chg M H H5 ∧ Ac i acc
def LfK (H : Hp) (M : List Addr) (D : Addr) (Ac : Nat → List V → Prop) (i : Nat) : VK := fun y H4 => ∃ acc, H4 D = some (.lst acc) ∧ acc.length < sizeLine ∧ LfP H M D Ac (i + 1) (upd H4 D (.lst (acc ++ [y])))
theorem lf_yes {H H4 : Hp} {M : List Addr} {D : Addr} {Ac : Nat → List V → Prop} {i : Nat} {acc : List V} {y : V} (nD : H D = none) (h : H4 D = some (.lst acc)) (hl : acc.length ≤ i) (hz : i ≤ 100000) (c : Chg M H H4) (q : Ac (i + 1) (acc ++ [y])) : LfK H M D Ac i y H4 :=
  ⟨acc, h, Nat.lt_of_le_of_lt (Nat.le_trans hl hz) (by decide), acc ++ [y], by rw [List.length_append, List.length_singleton]; omega, upd_same, c.go (Chg.mut h fun _ e => nomatch e) fun a ha => .inr (by rw [List.mem_singleton.mp ha]; exact nD), q⟩
theorem lf_no {H H4 : Hp} {M : List Addr} {D : Addr} {Ac : Nat → List V → Prop} {i : Nat} {acc : List V} (h : H4 D = some (.lst acc)) (hl : acc.length ≤ i) (c : Chg M H H4) (q : Ac (i + 1) acc) : LfP H M D Ac (i + 1) H4 := ⟨acc, by omega, h, c, q⟩
theorem w_lcF {J : It} {n : Nat} {G : Hp → Prop} {Y : Nat → Hp → V → Hp → Prop} {g : TG} {te : TE} {tt : TT} {vs : List Nat} {σ : L2.St} {H : Hp} {Q : Addr → Hp → Prop} (w : L2.Walk J n G Y) (M : List Addr) (Ac : Nat → List V → Prop)
    (h0 : Ac 0 []) (hG : ∀ H1, Chg M H H1 → G H1)
    (hs : ∀ D i acc x H1 H2, i < n → H D = none → H1 D = some (.lst acc) → acc.length ≤ i → Ac i acc → Chg M H H1 → Y i H1 x H2 → g x (wipe σ vs) H2 fun σ2 H3 => wipe σ2 vs = wipe σ vs ∧
      tt σ2 H3 fun b H3 => if b = true then te σ2 H3 (LfK H M D Ac i) else LfP H M D Ac (i + 1) H3)
    (hd : ∀ D acc H1, H D = none → Chg M H H1 → acc.length ≤ n → H1 D = some (.lst acc) → Ac n acc → Q D H1) :
    ∀ D, H D = none → ∃ W : Nat → Nat → Hp → Prop, (∃ m, W 0 m (upd H D (.lst []))) ∧ ∀ i m H, W i m H →
      (J.stop i H ∧ Q D H) ∨ (J.go i H ∧ ∃ Nx : Hp → Prop, (∀ H', Nx H' → ∃ m', m' < m ∧ W (i + 1) m' H') ∧ ∀ x H', J.yld i H x H' → g x (wipe σ vs) H' fun σ2 H2 => wipe σ2 vs = wipe σ vs ∧ tt σ2 H2 fun b H3 =>
        if b = true then te σ2 H3 fun y H4 => ∃ acc, H4 D = some (.lst acc) ∧ acc.length < sizeLine ∧ Nx (upd H4 D (.lst (acc ++ [y]))) else Nx H3) := by
  intro D nD
  refine lc_it w (Qd := fun H => Q D H) (LfP H M D Ac) ⟨[], Nat.le_refl _, upd_same, (Chg.new nD).wide (by simp), h0⟩ (fun i H1 hi ⟨acc, _, _, c, _⟩ => hG H1 c) (fun i x H1 H2 hi hp y => ?_) (fun H1 ⟨acc, e, h, c, q⟩ => hd D acc H1 nD c e h q)
  obtain ⟨acc, e, h, c, q⟩ := hp
  exact hs D i acc x H1 H2 hi nD h e q c y
end
section
def t__law_is_whole (K : PySem.W.Frag) : TS :=
    tRet (tAndV (tCB (rIsi K) (tCons (tVar 0) (tCons (tC (.ty "int")) (tNil)))) (tNotV (tCB (rIsi K) (tCons (tVar 0) (tCons (tC (.ty "bool")) (tNil))))))
def sp__law_is_whole : Sp := fun vs H Q _ => ∃ (v : V) (d : PyData) (S : Addr → Prop), vs = [v] ∧ R S H v d ∧ Q (.bl (isWhole d)) H
theorem pure__law_is_whole {K : PySem.W.Frag} (vs : List V) (H : Hp) (Q : VK) (E : XK) (h : sp__law_is_whole vs H Q E) : t__law_is_whole K (fin Q) (start ["thing"] vs) H := by
  obtain ⟨v, d, S, rfl, r, q⟩ := h
  show t__law_is_whole K _ [some v] H
  unfold t__law_is_whole
  walk_at "w"
  cases d <;> (walk_at "w"; exact q)
def t__law_is_name (K : PySem.W.Frag) : TS :=
    tSeq (tIfS (tOr (tNot (tB (tCB (rIsi K) (tCons (tVar 0) (tCons (tC (.ty "str")) (tNil)))))) (tOr (tTest (tOp rEq (tVar 0) (tC (.str "")))) (tTest (tOp oGt (tCB cLenS (tCons (tVar 0) (tNil))) (tC (.int 8)))))) (tRet (tC (.bl false))) (tNext))
    (tRet (tOp oEqE (tLc (iStr (tVar 0)) (gName 1) (tTest (tOp oNotInC (tVar 1) (tC (.str "abcdefghijklmnopqrstuvwxyz")))) (tVar 1) [1]) (tLst (tNil))))
def sp__law_is_name : Sp := fun vs H Q _ => ∃ (v : V) (d : PyData) (S : Addr → Prop), vs = [v] ∧ R S H v d ∧ (∀ x, d = .str x → x.length ≤ 100000) ∧ ∀ H', Chg [] H H' → Q (.bl (isName d)) H'
theorem all_take {α : Type} (p : α → Bool) {l : List α} {i : Nat} {a : α} (h : l[i]? = some a) : (l.take (i + 1)).all p = ((l.take i).all p && p a) := by
  rw [List.take_add_one, h, List.all_append]
  simp
theorem isE_snoc {acc : List V} {y : V} : (acc ++ [y]).isEmpty = false := by cases acc <;> rfl
theorem pure__law_is_name {K : PySem.W.Frag} (vs : List V) (H : Hp) (Q : VK) (E : XK) (h : sp__law_is_name vs H Q E) : t__law_is_name K (fin Q) (start ["thing", "sign"] vs) H := by
  obtain ⟨v, d, S, rfl, r, hx, q⟩ := h
  show t__law_is_name K _ [some v, none] H
  unfold t__law_is_name
  walk_at "w"
  have q0 := q H .refl
  cases r with
  | str x =>
    have hz := hx x rfl
    walk_at "w"
    refine w_iteD (fun h => ?_) (fun h => ?_)
    · walk_at "w"
      have e : isName (.str x) = false := by
        rw [V.str.inj h]
        decide +kernel
      rw [e] at q0
      exact q0
    walk_at "w"
    refine w_iteD (fun h2 => ?_) (fun h2 => ?_)
    · walk_at "w"
      have e : isName (.str x) = false := by
        show (decide (1 ≤ x.length) && decide (x.length ≤ 8) && x.cps.toList.all isLow) = false
        rw [decide_eq_false (p := x.length ≤ 8) (by omega), Bool.and_false]
        rfl
      rw [e] at q0
      exact q0
    walk_at "w"
    have hl : x.cps.size ≤ 100000 := hz
    have h1 : 1 ≤ x.length := by
      rcases Nat.lt_or_ge 0 x.length with z | z
      · exact z
      · exfalso
        apply h
        have e : x.cps = #[] := Array.eq_empty_of_size_eq_zero (by have : x.cps.size = x.length := rfl; omega)
        show V.str x = V.str _
        congr 1
        cases x
        simp only at e
        rw [e]
        rfl
    refine w_lcF walk_str [] (fun i acc => acc.isEmpty = (x.cps.toList.take i).all isLow) rfl (fun _ _ => trivial) (fun D i acc z H1 H2 hi nD hD el ac c y => ?_) (fun D acc H1 nD c el hD ac => ?_)
    · obtain ⟨rfl, ch, ec, rfl⟩ := y
      have ec' : x.cps.toList[i]? = some ch := by rw [Array.getElem?_toList]; exact ec
      walk_at "w"
      refine w_iteD (fun hm => ?_) (fun hm => ?_)
      · refine lf_no hD el c ?_
        rw [all_take isLow ec', ac]
        have e : isLow ch = true := decide_eq_true hm
        rw [e, Bool.and_true]
      · walk_at "w"
        refine lf_yes nD hD el (by omega) c ?_
        rw [all_take isLow ec', isE_snoc]
        have e : isLow ch = false := decide_eq_false hm
        rw [e, Bool.and_false]
    · walk_at "w"
      refine k_lst (by decide) fun p H2 np c2 hp => ?_
      refine w_eqEL (c2.at hD) hp ?_
      have e2 : acc.isEmpty = isName (.str x) := by
        show _ = (decide (1 ≤ x.length) && decide (x.length ≤ 8) && x.cps.toList.all isLow)
        rw [decide_eq_true (by omega), decide_eq_true (by omega), ac, List.take_of_length_le (by simp)]
        rfl
      rw [e2]
      exact q H2 (c.same c2)
  | _ => 
    walk_at "w"
    exact q0
def partKV : List (Key × V) := mergeK [] [(.inr "arg", .int 0), (.inr "cell", .int 1), (.inr "add", .int 2), (.inr "less", .int 2), (.inr "least", .int 2)]
theorem d_parts {σ : L2.St} {H : Hp} {Q : VK} (q : ∀ p H2, Chg [] H H2 → H2 p = some (.dK partKV) → Q (.ref p) H2) :
    tDisp [(tC (.str "arg"), tC (.int 0)), (tC (.str "cell"), tC (.int 1)), (tC (.str "add"), tC (.int 2)), (tC (.str "less"), tC (.int 2)), (tC (.str "least"), tC (.int 2))] σ H Q := by
  intro p np
  refine ⟨upd_same, [(.inr "arg", .int 0), (.inr "cell", .int 1), (.inr "add", .int 2), (.inr "less", .int 2), (.inr "least", .int 2)], rfl, by decide, q p _ ?_ upd_same⟩
  exact (Chg.new np).go (Chg.mut (o := .dK partKV) (upd_same (H := H) (a := p) (o := .dK [])) fun _ e => nomatch e) fun a ha => .inr (by rw [List.mem_singleton.mp ha]; exact np)
theorem val_parts (z : Str) : valV partKV (.inr z) = (partsOf z).map fun k => V.int (k : Nat) := by
  have e : partKV = [(.inr "arg", .int 0), (.inr "cell", .int 1), (.inr "add", .int 2), (.inr "less", .int 2), (.inr "least", .int 2)] := by decide +kernel
  rw [e]
  unfold partsOf
  by_cases h0 : z = "arg"
  · rw [if_pos h0, valV_pos (by rw [h0])]
    rfl
  rw [if_neg h0, valV_neg fun q => h0 (Sum.inr.inj q).symm]
  by_cases h1 : z = "cell"
  · rw [if_pos h1, valV_pos (by rw [h1])]
    rfl
  rw [if_neg h1, valV_neg fun q => h1 (Sum.inr.inj q).symm]
  by_cases h2 : z = "add"
  · rw [if_pos h2, valV_pos (by rw [h2])]
    rfl
  rw [if_neg h2, valV_neg fun q => h2 (Sum.inr.inj q).symm]
  by_cases h3 : z = "less"
  · rw [if_pos h3, valV_pos (by rw [h3])]
    rfl
  rw [if_neg h3, valV_neg fun q => h3 (Sum.inr.inj q).symm]
  by_cases h4 : z = "least"
  · rw [if_pos h4, valV_pos (by rw [h4])]
    rfl
  rw [if_neg h4, valV_neg fun q => h4 (Sum.inr.inj q).symm]
  rfl
def sp__law_is_expression (n : Nat) : Sp := fun vs H Q _ => ∃ (v : V) (d : PyData) (S : Addr → Prop) (m : Nat), vs = [v, .int (m : Nat)] ∧ m + 1 ≤ n ∧ R S H v d ∧ ∀ H', Chg [] H H' → Q (.bl (isExpr m d)) H'
theorem no__law_is_expression (vs : List V) (H : Hp) (Q : VK) (E : XK) : ¬ sp__law_is_expression 0 vs H Q E := by
  rintro ⟨v, d, S, m, _, h, _⟩
  omega
def t__law_is_expression (K : PySem.W.Frag) (n : Nat) : TS :=
    tSeq (tIfS (tOr (tTest (tOp rEq (tVar 1) (tC (.int 0)))) (tB (tCall sp__law_is_whole [] E0 (tCons (tVar 0) (tNil))))) (tRet (tOp oGt (tVar 1) (tC (.int 0)))) (tNext))
    (tSeq (tIfS (tOr (tNot (tB (tCB (rIsi K) (tCons (tVar 0) (tCons (tC (.ty "tuple")) (tNil)))))) (tOr (tTest (tOp oEqE (tVar 0) (tTup (tNil)))) (tNot (tB (tCB (rIsi K) (tCons (tOp (rIxT K) (tVar 0) (tC (.int 0))) (tCons (tC (.ty "str")) (tNil)))))))) (tRet (tC (.bl false))) (tNext))
    (tSeq (tAsg (tDGet2 (tDisp [(tC (.str "arg"), tC (.int 0)), (tC (.str "cell"), tC (.int 1)), (tC (.str "add"), tC (.int 2)), (tC (.str "less"), tC (.int 2)), (tC (.str "least"), tC (.int 2))]) (tOp (rIxT K) (tVar 0) (tC (.int 0))) (tUn (rU fun i => .int (-i)) (tC (.int 1)))) (gName 2))
    (tSeq (tIfS (tTest (tOp rNe (tCB (cLenQ K) (tCons (tVar 0) (tNil))) (tOp oAdd (tVar 2) (tC (.int 1))))) (tRet (tC (.bl false))) (tNext))
    (tRet (tOp oEqE (tLc (iTup K (tSl (rSlA K) (tVar 0) (tPart (tC (.int 1))) (tNoPart))) (gName 3) (tNot (tB (tCall (sp__law_is_expression n) [] E0 (tCons (tVar 3) (tCons (tOp oSub (tVar 1) (tC (.int 1))) (tNil)))))) (tVar 3) [3]) (tLst (tNil)))))))
theorem partsOf_le {z : Str} {k : Nat} (ez : partsOf z = some k) : k ≤ 2 := by
  unfold partsOf at ez
  repeat (split at ez; · cases ez; omega)
  cases ez
theorem w_dget2 {td ty tx : TE} {σ : L2.St} {H : Hp} {Q : VK} (h : td σ H fun x H1 => ∃ a, x = .ref a ∧ IsD H1 a ∧ ty σ H1 fun y H2 => tx σ H2 fun z H3 => ∃ o, DGet H3 a y o ∧ Q (o.getD z) H3) : tDGet2 td ty tx σ H Q := h
theorem pure__law_is_expression {K : PySem.W.Frag} (n : Nat) (vs : List V) (H : Hp) (Q : VK) (E : XK) (h : sp__law_is_expression (n + 1) vs H Q E) : t__law_is_expression K n (fin Q) (start ["thing", "most", "parts", "one"] vs) H := by
  obtain ⟨v, d, S, m, rfl, hm, r, q⟩ := h
  show t__law_is_expression K n _ [some v, some (.int (m : Nat)), none, none] H
  unfold t__law_is_expression
  have q0 := q H .refl
  walk_at "w"
  refine w_iteD (fun h => ?_) (fun h => ?_)
  · walk_at "w"
    have e : m = 0 := by
      have := V.int.inj h
      omega
    subst e
    exact q0
  obtain ⟨k, rfl⟩ : ∃ k, m = k + 1 := ⟨m - 1, by
    have : m ≠ 0 := fun z => h (by rw [z]; rfl)
    omega⟩
  walk_at "w"
  refine ⟨v, d, S, rfl, r, ?_⟩
  walk_at "w"
  have pos : decide ((0 : Int) < ((k + 1 : Nat) : Int)) = true := decide_eq_true (by omega)
  cases r with
  | int i => walk_at "w"; rw [pos]; exact q0
  | non => walk_at "w"; exact q0
  | bl b => walk_at "w"; exact q0
  | str b => walk_at "w"; exact q0
  | lst s e a =>
    have r := R.lst s e a
    walk_at "w"; exact q0
  | dic s e =>
    have r := R.dic s e
    walk_at "w"; exact q0
  | @tup a xs ds e ra =>
    have r := R.tup e ra
    walk_at "w"
    refine k_tup (by walk_at "sz") fun p1 H1 np1 c1 hp1 => ?_
    refine w_eqET (c1.at e) hp1 ?_
    walk_at "w"
    cases ra with
    | nil =>
      walk_at "w"
      exact q H1 c1
    | @cons v0 vs0 d0 ds0 r0 rs =>
      walk_at "w"
      have q1 := q H1 c1
      have rr0 := r0
      cases r0 with
      | int i => walk_at "w"; exact q1
      | non => walk_at "w"; exact q1
      | bl b => walk_at "w"; exact q1
      | lst s1 e1 a1 =>
        have r := (R.lst s1 e1 a1).same c1
        walk_at "w"; exact q1
      | dic s1 e1 =>
        have r := (R.dic s1 e1).same c1
        walk_at "w"; exact q1
      | tup e1 a1 =>
        have r := (R.tup e1 a1).same c1
        walk_at "w"; exact q1
      | str z =>
        walk_at "w"
        refine w_dget2 ?_
        refine d_parts fun p2 H2 c2 h2 => ?_
        refine ⟨p2, rfl, .inl ⟨partKV, .inl h2⟩, ?_⟩
        have e2 := c2.at (c1.at e)
        walk_at "w"
        refine ⟨_, DGet.k (k := .inr z) h2, ?_⟩
        rw [val_parts]
        have q2 := q H2 (c1.same c2)
        have ln := rs.length
        cases ez : partsOf z with
        | none =>
          simp only [Option.map_none, Option.getD_none]
          walk_at "w"
          have e3 : isExpr (k + 1) (.tuple (.str z :: ds0)) = false := by
            unfold isExpr
            rw [ez]
          rw [e3] at q2
          exact q2
        | some pk =>
          simp only [Option.map_some, Option.getD_some]
          have hp := partsOf_le ez
          walk_at "w"
          refine w_iteD (fun h3 => ?_) (fun h3 => ?_)
          · have h' : vs0.length = pk := by
              have := V.int.inj h3
              rw [List.length_cons] at this
              omega
            walk_at "w"
            refine w_slA e2 fun p' H3 c3 h5 => ?_
            rw [cut1] at h5
            walk_at "w"
            have rs2 := rs.same ((c1.same c2).same c3)
            have h5 : H3 p' = some (.tup vs0) := h5
            refine w_lcF walk_tup [] (fun i acc => acc.isEmpty = (ds0.take i).all (isExpr k)) rfl (fun H1 c => sqT (c.at h5)) (fun D i acc z H4 H5 hi nD hD el ac c y => ?_) (fun D acc H4 nD c el hD ac => ?_)
            · obtain ⟨rfl, ey⟩ := y
              obtain ⟨d1, ed, r1⟩ := rs2.get (i := i) (v := z) ey
              walk_at "w"
              have e5 : (((k + 1 : Nat) : Int)) - 1 = (k : Nat) := by omega
              rw [e5]
              refine ⟨z, d1, S, k, rfl, by omega, r1.same c, fun H6 c6 => ?_⟩
              have hi' : i < 3 := by
                have h6 : i < vs0.length := hi
                omega
              walk_at "w"
              refine w_iteB (fun b1 => ?_) (fun b1 => ?_)
              · refine lf_no (c6.at hD) el (c.same c6) ?_
                rw [all_take (isExpr k) ed, ac, b1, Bool.and_true]
              · walk_at "w"
                refine lf_yes nD (c6.at hD) el (by omega) (c.same c6) ?_
                rw [all_take (isExpr k) ed, isE_snoc, b1, Bool.and_false]
            · walk_at "w"
              refine k_lst (by decide) fun p H5 np c5 hp => ?_
              refine w_eqEL (c5.at hD) hp ?_
              have e4 : isExpr (k + 1) (.tuple (.str z :: ds0)) = acc.isEmpty := by
                rw [isExpr, ez, ac, ln, List.take_length]
                show (decide (ds0.length = pk) && ds0.all (isExpr k)) = _
                rw [decide_eq_true (by omega)]
                rfl
              rw [← e4]
              exact q H5 ((((c1.same c2).same c3).same c).same c5)
          · walk_at "w"
            have e3 : isExpr (k + 1) (.tuple (.str z :: ds0)) = false := by
              rw [isExpr, ez]
              show (decide (ds0.length = pk) && ds0.all (isExpr k)) = false
              rw [decide_eq_false ?_]
              · rfl
              · intro h7
                apply h3
                show V.int _ = V.int _
                congr 1
                rw [List.length_cons]
                omega
            rw [e3] at q2
            exact q2
end
section
def sp__law_is_step (K : PySem.W.Frag) : Sp := fun vs H Q _ => ∃ (v : V) (d : PyData) (S : Addr → Prop) (l : Addr) (ns : List Str) (bh : Int), vs = [v, .ref l, .int bh] ∧ R S H v d ∧ smallD d = true ∧ SqL K H l (ns.map V.str) ∧ ∀ H', Chg [] H H' → Q (.bl (isStep ns bh d)) H'
def t__law_is_step (K : PySem.W.Frag) : TS :=
    tSeq (tIfS (tTest (tOp oEqT1 (tVar 0) (tTup (tCons (tC (.str "wait")) (tNil))))) (tRet (tC (.bl true))) (tNext))
    (tSeq (tIfS (tOr (tNot (tB (tCB (rIsi K) (tCons (tVar 0) (tCons (tC (.ty "tuple")) (tNil)))))) (tOr (tTest (tOp rNe (tCB (cLenQ K) (tCons (tVar 0) (tNil))) (tC (.int 3)))) (tNot (tB (tCB (rIsi K) (tCons (tOp (rIxT K) (tVar 0) (tC (.int 0))) (tCons (tC (.ty "str")) (tNil)))))))) (tRet (tC (.bl false))) (tNext))
    (tSeq (tAsg (tVar 0) (gTup K 3 (gCons (gName 3) (gCons (gName 4) (gCons (gName 5) (gNil))))))
    (tSeq (tIfS (tTest (tOp rEq (tVar 3) (tC (.str "skip")))) (tRet (tAndV (tCall (sp__law_is_expression 6) [] E0 (tCons (tVar 4) (tCons (tC (.int 5)) (tNil)))) (tAndV (tCall sp__law_is_whole [] E0 (tCons (tVar 5) (tNil))) (tAndV (tOp oGt (tVar 5) (tC (.int 0))) (tOp oLe (tVar 5) (tVar 2)))))) (tNext))
    (tSeq (tIfS (tTest (tOp rEq (tVar 3) (tC (.str "cell")))) (tRet (tAndV (tCall (sp__law_is_expression 6) [] E0 (tCons (tVar 4) (tCons (tC (.int 5)) (tNil)))) (tCall (sp__law_is_expression 6) [] E0 (tCons (tVar 5) (tCons (tC (.int 5)) (tNil)))))) (tNext))
    (tSeq (tIfS (tTest (tOp rEq (tVar 3) (tC (.str "give")))) (tRet (tAndV (tCall sp__law_is_name [] E0 (tCons (tVar 4) (tNil))) (tCall (sp__law_is_expression 6) [] E0 (tCons (tVar 5) (tCons (tC (.int 5)) (tNil)))))) (tNext))
    (tRet (tAndV (tOp (rIn K false) (tVar 3) (tLst (tCons (tC (.str "fork")) (tCons (tC (.str "call")) (tNil))))) (tAndV (tCall sp__law_is_name [] E0 (tCons (tVar 4) (tNil))) (tAndV (tOp (rIn K false) (tVar 4) (tVar 1)) (tCall (sp__law_is_expression 6) [] E0 (tCons (tVar 5) (tCons (tC (.int 5)) (tNil)))))))))))))
theorem isT1_yes {z : Str} {d : PyData} (h : isT1 z d = true) : d = .tuple [.str z] := by
  cases d with
  | tuple ds =>
    match ds, h with
    | [.str y], h => rw [eq_of_beq h]
  | _ => cases h
theorem pure__law_is_step {K : PySem.W.Frag} (vs : List V) (H : Hp) (Q : VK) (E : XK) (h : sp__law_is_step K vs H Q E) : t__law_is_step K (fin Q) (start ["thing", "names", "behind", "word", "one", "other"] vs) H := by
  obtain ⟨v, d, S, l, ns, bh, rfl, r, sm, hl0, q⟩ := h
  show t__law_is_step K _ [some v, some (.ref l), some (.int bh), none, none, none] H
  unfold t__law_is_step
  walk_at "w"
  refine k_tup (by walk_at "sz") fun p1 H1 np1 c1 hp1 => ?_
  refine w_eqT1 (r.same c1) hp1 ?_
  walk_at "w"
  refine w_iteB (fun b0 => ?_) (fun b0 => ?_)
  · walk_at "w"
    have := q H1 c1
    rw [isT1_yes b0] at this
    exact this
  walk_at "w"
  have q0 := q H1 c1
  have hl := c1.seq hl0
  have r := r.same c1
  have q : ∀ H', Chg [] H1 H' → Q (V.bl (isStep ns bh d)) H' := fun H' c => q H' (c1.same c)
  clear hl0 c1 np1 hp1
  cases r with
  | int i => walk_at "w"; exact q0
  | non => walk_at "w"; exact q0
  | bl b => walk_at "w"; exact q0
  | str b => walk_at "w"; exact q0
  | lst s e a => have r := R.lst s e a; walk_at "w"; exact q0
  | dic s e => have r := R.dic s e; walk_at "w"; exact q0
  | @tup a xs ds e ra =>
    have r := R.tup e ra
    walk_at "w"
    have ln0 := ra.length
    refine w_iteD (fun h3 => ?_) (fun h3 => ?_)
    rotate_left
    · walk_at "w"
      have e2 : isStep ns bh (.tuple ds) = false := by
        have n3 : ds.length ≠ 3 := fun z => h3 (by rw [ln0, z]; rfl)
        match ds, b0, n3 with
        | [], _, _ => rfl
        | .str z :: [], b0, _ =>
          rw [isStep_tup]
          by_cases hz : z = "wait"
          · subst hz
            cases b0
          · rw [if_neg hz]
            rfl
        | .str z :: [d1], b0, _ =>
          rw [isStep_tup]
          by_cases hz : z = "wait"
          · rw [if_pos hz]; rfl
          · rw [if_neg hz]; rfl
        | .str z :: d1 :: d2 :: d3 :: r, b0, _ =>
          rw [isStep_tup]
          by_cases hz : z = "wait"
          · rw [if_pos hz]
            simp
          · rw [if_neg hz]; rfl
        | .str z :: [d1, d2], b0, h => exact absurd rfl h
        | .none :: _, _, _ => rfl
        | .bool _ :: _, _, _ => rfl
        | .int _ :: _, _, _ => rfl
        | .list _ :: _, _, _ => rfl
        | .tuple _ :: _, _, _ => rfl
        | .dict _ :: _, _, _ => rfl
      rw [e2] at q0
      exact q0
    cases ra with
    | nil => (have := V.int.inj h3; simp only [List.length_nil] at this; omega)
    | @cons v0 vs0 d0 ds0 r0 rs =>
     cases rs with
     | nil => (have := V.int.inj h3; simp only [List.length_cons, List.length_nil] at this; omega)
     | @cons v1 vs1 d1 ds1 r1 rs1 =>
      cases rs1 with
      | nil => (have := V.int.inj h3; simp only [List.length_cons, List.length_nil] at this; omega)
      | @cons v2 vs2 d2 ds2 r2 rs2 =>
       cases rs2 with
       | cons _ _ =>
         have := V.int.inj h3
         simp only [List.length_cons] at this
         omega
       | nil =>
        walk_at "w"
        have rr0 := r0
        cases r0 with
        | int i => walk_at "w"; exact q0
        | non => walk_at "w"; exact q0
        | bl b => walk_at "w"; exact q0
        | lst s1 e1 a1 => have r := R.lst s1 e1 a1; walk_at "w"; exact q0
        | dic s1 e1 => have r := R.dic s1 e1; walk_at "w"; exact q0
        | tup e1 a1 => have r := R.tup e1 a1; walk_at "w"; exact q0
        | str z =>
          have sm1 : smallD d1 = true := smallDs_all (ds := [.str z, d1, d2]) sm d1 (by simp)
          walk_at "w"
          have q : ∀ H', Chg [] H1 H' → Q (V.bl (if z = "wait" then false else step3 ns bh z d1 d2)) H' := q
          refine w_iteD (fun hs => ?_) (fun hs => ?_)
          · have hs' : z = "skip" := V.str.inj hs
            subst hs'
            have q : ∀ H', Chg [] H1 H' → Q (V.bl (isExpr 5 d1 && skipOk bh d2)) H' := q
            walk_at "w"
            refine ⟨v1, d1, S, 5, rfl, by omega, r1, fun H2 c2 => ?_⟩
            walk_at "w"
            refine w_iteB (fun b1 => ?_) (fun b1 => ?_)
            · walk_at "w"
              refine ⟨v2, d2, S, rfl, r2.same c2, ?_⟩
              walk_at "w"
              have q1 := q H2 c2
              rw [b1] at q1
              cases r2 with
              | int i =>
                walk_at "w"
                have q1 : Q (V.bl (true && (decide (1 ≤ i) && decide (i ≤ bh)))) H2 := q1
                refine w_iteD (fun g => ?_) (fun g => ?_)
                · walk_at "w"
                  rw [decide_eq_true (show 1 ≤ i by omega)] at q1
                  exact q1
                · walk_at "w"
                  rw [decide_eq_false (show ¬ 1 ≤ i by omega)] at q1
                  exact q1
              | non => walk_at "w"; exact q1
              | bl b => walk_at "w"; exact q1
              | str b => walk_at "w"; exact q1
              | lst s1 e1 a1 => walk_at "w"; exact q1
              | dic s1 e1 => walk_at "w"; exact q1
              | tup e1 a1 => walk_at "w"; exact q1
            · walk_at "w"
              have := q H2 c2
              rw [b1] at this
              exact this
          have hs' : ¬ z = "skip" := fun h => hs (by rw [h])
          walk_at "w"
          refine w_iteD (fun hc => ?_) (fun hc => ?_)
          · have hc' : z = "cell" := V.str.inj hc
            subst hc'
            have q : ∀ H', Chg [] H1 H' → Q (V.bl (isExpr 5 d1 && isExpr 5 d2)) H' := q
            walk_at "w"
            refine ⟨v1, d1, S, 5, rfl, by omega, r1, fun H2 c2 => ?_⟩
            walk_at "w"
            refine w_iteB (fun b1 => ?_) (fun b1 => ?_)
            · walk_at "w"
              refine ⟨v2, d2, S, 5, rfl, by omega, r2.same c2, fun H3 c3 => ?_⟩
              have := q H3 (c2.same c3)
              rw [b1] at this
              exact this
            · walk_at "w"
              have := q H2 c2
              rw [b1] at this
              exact this
          have hc' : ¬ z = "cell" := fun h => hc (by rw [h])
          walk_at "w"
          refine w_iteD (fun hg => ?_) (fun hg => ?_)
          · have hg' : z = "give" := V.str.inj hg
            subst hg'
            have q : ∀ H', Chg [] H1 H' → Q (V.bl (isName d1 && isExpr 5 d2)) H' := q
            walk_at "w"
            refine ⟨v1, d1, S, rfl, r1, smallD_str sm1, fun H2 c2 => ?_⟩
            walk_at "w"
            refine w_iteB (fun b1 => ?_) (fun b1 => ?_)
            · walk_at "w"
              refine ⟨v2, d2, S, 5, rfl, by omega, r2.same c2, fun H3 c3 => ?_⟩
              have := q H3 (c2.same c3)
              rw [b1] at this
              exact this
            · walk_at "w"
              have := q H2 c2
              rw [b1] at this
              exact this
          have hg' : ¬ z = "give" := fun h => hg (by rw [h])
          walk_at "w"
          refine k_lst (by walk_at "sz") fun p2 H2 np2 c2 hp2 => ?_
          refine w_inL (sqL hp2) rfl rfl ?_
          have ein : inV (.str z) [V.str "fork", V.str "call"] = decide (z ∈ (["fork", "call"] : List Str)) := inV_str z ["fork", "call"]
          rw [ein]
          walk_at "w"
          refine w_iteD (fun hm => ?_) (fun hm => ?_)
          rotate_left
          · walk_at "w"
            have n2 : ¬ (z = "fork" ∨ z = "call") := fun h => hm (by rcases h with h | h <;> (rw [h]; simp))
            have := q H2 c2
            unfold step3 at this
            rw [if_neg hc', if_neg hs', if_neg hg', if_neg n2, ite_self] at this
            exact this
          have hf : z = "fork" ∨ z = "call" := by
            simp only [List.mem_cons, List.not_mem_nil, or_false] at hm
            exact hm
          have hw : ¬ z = "wait" := fun h => by
            rw [h] at hf
            revert hf
            decide
          have q : ∀ H', Chg [] H1 H' → Q (V.bl (isName d1 && isExpr 5 d2 && inNm ns d1)) H' := fun H' c => by
            have := q H' c
            unfold step3 at this
            rw [if_neg hw, if_neg hc', if_neg hs', if_neg hg', if_pos hf] at this
            exact this
          walk_at "w"
          refine ⟨v1, d1, S, rfl, r1.same c2, smallD_str sm1, fun H3 c3 => ?_⟩
          walk_at "w"
          refine w_iteB (fun b1 => ?_) (fun b1 => ?_)
          rotate_left
          · walk_at "w"
            have := q H3 (c2.same c3)
            rw [b1] at this
            exact this
          walk_at "w"
          cases r1 with
          | str x1 =>
            refine w_inL ((c2.same c3).seq hl) rfl (flat_strs ns) ?_
            rw [inV_str]
            walk_at "w"
            refine w_iteD (fun hi => ?_) (fun hi => ?_)
            · walk_at "w"
              refine ⟨v2, d2, S, 5, rfl, by omega, r2.same (c2.same c3), fun H4 c4 => ?_⟩
              have := q H4 ((c2.same c3).same c4)
              rw [b1, show inNm ns (.str x1) = true from decide_eq_true hi, Bool.and_true] at this
              exact this
            · walk_at "w"
              have := q H3 (c2.same c3)
              rw [show inNm ns (.str x1) = false from decide_eq_false hi, Bool.and_false] at this
              exact this
          | int i => cases b1
          | non => cases b1
          | bl b => cases b1
          | lst s1 e1 a1 => cases b1
          | dic s1 e1 => cases b1
          | tup e1 a1 => cases b1
end
section
def formFrom : Str → List PyData → Bool
  | _, [] => true
  | a, r :: rs => rowOk r && (ltS a (rowName r) && formFrom (rowName r) rs)
theorem formFrom_eq : ∀ (ds : List PyData) (a : Str), formFrom a ds = (ds.all rowOk && rising (a :: ds.map rowName))
  | [], _ => rfl
  | r :: rs, a => by
    show (rowOk r && (ltS a (rowName r) && formFrom (rowName r) rs)) = ((rowOk r && rs.all rowOk) && (ltS a (rowName r) && rising (rowName r :: rs.map rowName)))
    rw [formFrom_eq rs (rowName r)]
    cases rowOk r <;> cases ltS a (rowName r) <;> cases rs.all rowOk <;> rfl
theorem ltS_empty {x : Str} (h : nameS x = true) : ltS "" x = true := by
  have h1 : 1 ≤ x.length := by
    unfold nameS at h
    simp only [Bool.and_eq_true, decide_eq_true_eq] at h
    exact h.1.1
  unfold ltS
  refine decide_eq_true ?_
  have e : (("" : Str).cps.toList) = [] := by decide +kernel
  rw [e]
  cases hx : x.cps.toList with
  | nil =>
    have : x.cps.size = 0 := by rw [← Array.length_toList, hx]; rfl
    have h2 : x.cps.size = x.length := rfl
    omega
  | cons a b => exact List.nil_lt_cons a b
theorem hasForm_from (ds : List PyData) : hasForm (.list ds) = formFrom "" ds := by
  rw [formFrom_eq]
  show (ds.all rowOk && rising (ds.map rowName)) = _
  cases ds with
  | nil => rfl
  | cons r rs =>
    show _ = ((r :: rs).all rowOk && (ltS "" (rowName r) && rising (rowName r :: rs.map rowName)))
    by_cases h : rowOk r = true
    · obtain ⟨x, ds, rfl, hx⟩ := rowOk_true h
      rw [show ltS "" (rowName (.tuple [.str x, .list ds])) = true from ltS_empty hx]
      rfl
    · have h' : rowOk r = false := by
        cases e : rowOk r with
        | true => exact absurd e h
        | false => rfl
      rw [List.all_cons, h']
      rfl
def lenRows : PyData → Bool
  | .list ds => ds.all fun r => decide ((rowSteps r).length ≤ 100000)
  | _ => true
def sp__law_wrong : Sp := fun vs H Q _ => ∃ (v : V) (d : PyData) (S : Addr → Prop), vs = [v] ∧ R S H v d ∧ smallD d = true ∧ lenOk d = true ∧ lenRows d = true ∧ (firstWrong d = none → ∀ H', Chg [] H H' → Q .non H') ∧
  ∀ o, firstWrong d = some o → ∀ p H', Chg [] H H' → H' p = some (.tup (fwV o)) → Q (.ref p) H'
def t__law_wrong (K : PySem.W.Frag) : TS :=
    tSeq (tIfS (tNot (tB (tCB (rIsi K) (tCons (tVar 0) (tCons (tC (.ty "list")) (tNil)))))) (tRet (tTup (tCons (tC .non) (tCons (tC .non) (tNil))))) (tNext))
    (tSeq (tAsg (tC (.str "")) (gName 1))
    (tSeq (tFor (iList K (tVar 0)) (gName 2) (tSeq (tIfS (tOr (tNot (tB (tCB (rIsi K) (tCons (tVar 2) (tCons (tC (.ty "tuple")) (tNil)))))) (tOr (tTest (tOp rNe (tCB (cLenQ K) (tCons (tVar 2) (tNil))) (tC (.int 2)))) (tNot (tB (tCall sp__law_is_name [] E0 (tCons (tOp (rIxT K) (tVar 2) (tC (.int 0))) (tNil))))))) (tRet (tTup (tCons (tC .non) (tCons (tC .non) (tNil))))) (tNext))
    (tSeq (tIfS (tOr (tNot (tB (tCB (rIsi K) (tCons (tOp (rIxT K) (tVar 2) (tC (.int 1))) (tCons (tC (.ty "list")) (tNil)))))) (tTest (tOp oGeS (tVar 1) (tOp (rIxT K) (tVar 2) (tC (.int 0)))))) (tRet (tTup (tCons (tC .non) (tCons (tC .non) (tNil))))) (tNext))
    (tAsg (tOp (rIxT K) (tVar 2) (tC (.int 0))) (gName 1)))))
    (tSeq (tAsg (tLc (iList K (tVar 0)) (gTup K 2 (gCons (gName 4) (gCons (gName 5) (gNil)))) (tYes) (tVar 4) [4, 5]) (gName 3))
    (tSeq (tFor (iList K (tVar 0)) (gTup K 2 (gCons (gName 4) (gCons (gName 5) (gNil)))) (tFor (iRng1 (tCons (tCB (cLenQ K) (tCons (tVar 5) (tNil))) (tNil))) (gName 6) (tIfS (tNot (tB (tCall (sp__law_is_step K) [] E0 (tCons (tOp (rIxL K) (tVar 5) (tVar 6)) (tCons (tVar 3) (tCons (tOp oSub (tOp oSub (tCB (cLenQ K) (tCons (tVar 5) (tNil))) (tC (.int 1))) (tVar 6)) (tNil))))))) (tRet (tTup (tCons (tVar 4) (tCons (tVar 6) (tNil))))) (tNext))))
    (tRet (tC .non))))))
theorem fw_bad {d : PyData} (h : hasForm d = false) : firstWrong d = some none := by
  unfold firstWrong
  rw [if_neg (by rw [h]; decide)]
theorem pure__law_wrong {K : PySem.W.Frag} (vs : List V) (H : Hp) (Q : VK) (E : XK) (h : sp__law_wrong vs H Q E) : t__law_wrong K (fin Q) (start ["program", "ahead", "row", "names", "name", "steps", "k"] vs) H := by
  obtain ⟨v, d, S, rfl, r, sm, lo, lr, qn, qs⟩ := h
  show t__law_wrong K _ [some v, none, none, none, none, none, none] H
  unfold t__law_wrong
  walk_at "w"
  cases r with
  | int i => walk_at "w"; exact k_tup (by decide) fun p H2 np c2 hp => qs none (fw_bad rfl) p H2 c2 hp
  | non => walk_at "w"; exact k_tup (by decide) fun p H2 np c2 hp => qs none (fw_bad rfl) p H2 c2 hp
  | bl b => walk_at "w"; exact k_tup (by decide) fun p H2 np c2 hp => qs none (fw_bad rfl) p H2 c2 hp
  | str b => walk_at "w"; exact k_tup (by decide) fun p H2 np c2 hp => qs none (fw_bad rfl) p H2 c2 hp
  | tup e1 a1 => walk_at "w"; exact k_tup (by decide) fun p H2 np c2 hp => qs none (fw_bad rfl) p H2 c2 hp
  | dic s e => walk_at "w"; exact k_tup (by decide) fun p H2 np c2 hp => qs none (fw_bad rfl) p H2 c2 hp
  | @lst a xs ds s e ra =>
    have ln := ra.length
    have lo' : ds.length ≤ 1000 := of_decide_eq_true lo
    walk_at "w"
    refine for_it (walk_list (K := K) (a := a) (xs := xs)) (fun i σ H1 => Chg [] H H1 ∧ ∃ ah y, hasForm (.list ds) = formFrom ah (ds.drop i) ∧ σ = [some (.ref a), some (.str ah), y, none, none, none, none]) ⟨.refl, "", none, hasForm_from ds, rfl⟩ (fun i σ H1 _ p => sqL (p.1.at e)) (fun i x σ H1 H2 hi p y => ?_) (fun σ H1 p => ?_)
    · obtain ⟨c1, ah, y1, ff, rfl⟩ := p
      obtain ⟨rfl, ex⟩ := y
      obtain ⟨d1, ed, r1⟩ := ra.get ex
      have r1 := r1.same c1
      have sm1 : smallD d1 = true := smallDs_all (ds := ds) sm _ (List.mem_of_getElem? ed)
      obtain ⟨hli, edi⟩ := List.getElem?_eq_some_iff.mp ed
      rw [List.drop_eq_getElem_cons hli, edi] at ff
      have bad : ∀ {H3 : Hp}, (rowOk d1 && (ltS ah (rowName d1) && formFrom (rowName d1) (ds.drop (i + 1)))) = false → Chg [] H2 H3 → KTup (fin Q).rt [.non, .non] H3 := fun {H3} hb c3 =>
        k_tup (by decide) fun p H4 np c4 hp => qs none (fw_bad (ff.trans hb)) p H4 ((c1.same c3).same c4) hp
      have bad0 : ∀ {H3 : Hp}, rowOk d1 = false → Chg [] H2 H3 → KTup (fin Q).rt [.non, .non] H3 := fun {H3} hb c3 => bad (by rw [hb]; rfl) c3
      walk_at "w"
      cases r1 with
      | int i => walk_at "w"; exact bad0 rfl .refl
      | non => walk_at "w"; exact bad0 rfl .refl
      | bl b => walk_at "w"; exact bad0 rfl .refl
      | str b => walk_at "w"; exact bad0 rfl .refl
      | lst s1 e1 a1 => walk_at "w"; exact bad0 rfl .refl
      | dic s1 e1 => walk_at "w"; exact bad0 rfl .refl
      | @tup b ys dt e1 ra1 =>
        have ln1 := ra1.length
        walk_at "w"
        refine w_iteD (fun h2 => ?_) (fun h2 => ?_)
        rotate_left
        · walk_at "w"
          refine bad0 (rowOk_false fun x0 ds0 e0 => ?_) .refl
          exfalso
          apply h2
          rw [ln1, PyData.tuple.inj e0]
          rfl
        cases ra1 with
        | nil => (have := V.int.inj h2; simp only [List.length_nil] at this; omega)
        | @cons v0 vs0 d0 ds0 r0 rs0 =>
          cases rs0 with
          | nil => (have := V.int.inj h2; simp only [List.length_cons, List.length_nil] at this; omega)
          | @cons v1 vs1 dd1 ds1 rr1 rs1 =>
            cases rs1 with
            | cons _ _ =>
              have := V.int.inj h2
              simp only [List.length_cons] at this
              omega
            | nil =>
              have smn : smallD d0 = true := smallDs_all (ds := [d0, dd1]) sm1 d0 (by simp)
              walk_at "w"
              refine ⟨v0, d0, S, rfl, r0, smallD_str smn, fun H3 c3 => ?_⟩
              walk_at "w"
              refine w_iteB (fun b1 => ?_) (fun b1 => ?_)
              rotate_left
              · walk_at "w"
                refine bad0 (rowOk_false fun x0 ds0 e0 => ?_) c3
                have e9 := PyData.tuple.inj e0
                simp only [List.cons.injEq, and_true] at e9
                rw [e9.1] at b1
                exact b1
              cases r0 with
              | int i => cases b1
              | non => cases b1
              | bl b => cases b1
              | lst s1 e1 a1 => cases b1
              | dic s1 e1 => cases b1
              | tup e1 a1 => cases b1
              | str x0 =>
                have e4 := c3.at e1
                have rr2 := rr1.same c3
                walk_at "w"
                cases rr1 with
                | int i => walk_at "w"; exact bad0 rfl c3
                | non => walk_at "w"; exact bad0 rfl c3
                | bl b => walk_at "w"; exact bad0 rfl c3
                | str b => walk_at "w"; exact bad0 rfl c3
                | tup e5 a5 => walk_at "w"; exact bad0 rfl c3
                | dic s5 e5 => walk_at "w"; exact bad0 rfl c3
                | @lst l5 ys5 ds5 s5 e5 ra5 =>
                  walk_at "w"
                  refine w_iteD (fun h5 => ?_) (fun h5 => ?_)
                  · walk_at "w"
                    refine ⟨c1.same c3, x0, _, ?_, rfl⟩
                    have ff : hasForm (.list ds) = (nameS x0 && (ltS ah x0 && formFrom x0 (ds.drop (i + 1)))) := ff
                    rw [show nameS x0 = true from b1, show ltS ah x0 = true from decide_eq_true h5] at ff
                    exact ff
                  · walk_at "w"
                    refine bad ?_ c3
                    show (nameS x0 && (ltS ah x0 && formFrom x0 (ds.drop (i + 1)))) = false
                    rw [show ltS ah x0 = false from decide_eq_false h5, Bool.false_and, Bool.and_false]
    · obtain ⟨c1, ah, y1, ff, rfl⟩ := p
      have hf : hasForm (.list ds) = true := by
        rw [ff, List.drop_eq_nil_of_le (by omega)]
        rfl
      have efw : firstWrong (.list ds) = (wrongIn (ds.map rowName) ds).map some := by
        unfold firstWrong
        rw [if_pos hf]
        rfl
      have allok : ds.all rowOk = true := (Bool.and_eq_true_iff.mp (show (ds.all rowOk && rising (ds.map rowName)) = true from hf)).1
      have ra1 := ra.same c1
      have e1 := c1.at e
      walk_at "w"
      refine w_lcP walk_list [] (fun _ _ => True) (fun i y _ => ∃ d, ds[i]? = some d ∧ y = .str (rowName d)) trivial (fun _ _ _ _ _ _ _ => trivial) (fun H2 c => sqL (c.at e1)) (fun D i acc z H2 H3 hi nD hD el iv c _ y => ?_) (fun D acc H2 nD c _ el hD ys => ?_)
      · obtain ⟨rfl, ex⟩ := y
        obtain ⟨d1, ed, r1⟩ := ra1.get ex
        obtain ⟨x, ds1, rfl, hx⟩ := rowOk_true (List.all_eq_true.mp allok d1 (List.mem_of_getElem? ed))
        cases r1 with
        | tup e2 ra2 =>
          cases ra2 with
          | cons r0 rs0 =>
            cases rs0 with
            | cons r3 rs3 =>
              cases rs3
              cases r0
              have e3 := c.at e2
              walk_at "w"
              exact lcp_end (fun _ _ _ _ _ _ _ => trivial) (fun _ _ _ _ _ _ _ h => h) nD (by simp) hD el (by omega) iv .refl trivial ⟨_, ed, rfl⟩
      · have e3 : acc = (ds.map rowName).map V.str := by
          apply List.ext_getElem?
          intro i
          rw [List.getElem?_map, List.getElem?_map]
          by_cases hi : i < xs.length
          · have e4 : acc[i]? = some acc[i] := List.getElem?_eq_getElem (by omega)
            obtain ⟨d1, ed, e5⟩ := ys i _ e4
            rw [e4, ed, e5]
            rfl
          · rw [List.getElem?_eq_none (by omega), List.getElem?_eq_none (by omega)]
            rfl
        subst e3
        walk_at "w"
        have e2 := c.at e1
        have ra2 := ra1.same c
        have c12 := c1.same c
        refine for_it (walk_list (K := K) (a := a) (xs := xs)) (fun i σ H3 => Chg [] H2 H3 ∧ wrongIn (ds.map rowName) ds = wrongIn (ds.map rowName) (ds.drop i) ∧ ∃ y2 y3 y4 y5 y6, σ = [some (.ref a), y5, y6, some (.ref D), y2, y3, y4]) ⟨.refl, rfl, _, _, _, _, _, rfl⟩ (fun i σ H3 _ p => sqL (p.1.at e2)) (fun i x σ H3 H4 hi p y => ?_) (fun σ H3 p => ?_)
        · obtain ⟨c3, wr, y2, y3, y4, y5, y6, rfl⟩ := p
          obtain ⟨rfl, ex⟩ := y
          obtain ⟨d1, ed, r1⟩ := ra2.get ex
          obtain ⟨x1, ds1, rfl, hx⟩ := rowOk_true (List.all_eq_true.mp allok d1 (List.mem_of_getElem? ed))
          have sm1 : smallD (.tuple [.str x1, .list ds1]) = true := smallDs_all (ds := ds) sm _ (List.mem_of_getElem? ed)
          have sm2 : smallDs ds1 = true := smallDs_all (ds := [.str x1, .list ds1]) sm1 (.list ds1) (by simp)
          obtain ⟨hli, edi⟩ := List.getElem?_eq_some_iff.mp ed
          have wr1 : wrongIn (ds.map rowName) ds = (match wrongAt (ds.map rowName) 0 ds1 with
              | some k => some (x1, k)
              | none => wrongIn (ds.map rowName) (ds.drop (i + 1))) := by
            rw [wr, List.drop_eq_getElem_cons hli, edi]
            rfl
          cases r1 with
          | tup e4 ra4 =>
            cases ra4 with
            | cons r0 rs0 =>
              cases rs0 with
              | cons r3 rs3 =>
                cases rs3
                cases r0
                cases r3 with
                | @lst l5 ys5 _ s5 e5 ra5 =>
                  have e6 := c3.at e4
                  have e7 := c3.at e5
                  have ln5 := ra5.length
                  have lr5 : ds1.length ≤ 100000 := of_decide_eq_true (List.all_eq_true.mp lr _ (List.mem_of_getElem? ed))
                  walk_at "w"
                  refine for_it (walk_range (lo := 0) (n := ((ys5.length : Nat) : Int).toNat)) (fun j σ H5 => Chg [] H4 H5 ∧ wrongAt (ds.map rowName) 0 ds1 = wrongAt (ds.map rowName) j (ds1.drop j) ∧ ∃ y4 y5 y6, σ = [some (.ref a), y5, y6, some (.ref D), some (.str x1), some (.ref l5), y4]) ⟨.refl, rfl, _, _, _, rfl⟩ (fun _ _ _ _ _ => trivial) (fun j x σ H5 H6 hj p y => ?_) (fun σ H5 p => ?_)
                  · obtain ⟨c5, wa, z4, z5, z6, rfl⟩ := p
                    obtain ⟨rfl, rfl⟩ := y
                    have hj' : j < ys5.length := by omega
                    have ey : ys5[j]? = some ys5[j] := List.getElem?_eq_getElem hj'
                    obtain ⟨d6, ed6, r6⟩ := ra5.get ey
                    have e8 := c5.at e7
                    have ej : (0 : Int) + (j : Nat) = (j : Nat) := by omega
                    show gName 6 (V.int (0 + ((j : Nat) : Int))) _ _ _
                    rw [ej]
                    have ea : atI ys5 ((j : Nat) : Int) = some ys5[j] := atI_nat ey
                    walk_at "w"
                    have c6 := c3.same c5
                    refine ⟨ys5[j], d6, S, D, ds.map rowName, (ys5.length : Int) - 1 - (j : Nat), rfl, r6.same c6, smallDs_all sm2 d6 (List.mem_of_getElem? ed6), sqL (c6.at hD), fun H7 c7 => ?_⟩
                    have eln : ((ys5.length : Int) - 1 - (j : Nat)) = ((ds1.length : Int) - (j : Nat) - 1) := by omega
                    rw [eln]
                    walk_at "w"
                    refine w_iteB (fun b1 => ?_) (fun b1 => ?_)
                    · walk_at "w"
                      exact ⟨c5.same c7, by rw [wa, wrongAt_skip ed6 b1], _, _, _, rfl⟩
                    · walk_at "w"
                      refine k_tup (by walk_at "sz") fun p H8 np c8 hp => ?_
                      refine qs (some (x1, j)) ?_ p H8 ((c12.same (c6.same c7)).same c8) hp
                      rw [efw, wr1, wa, wrongAt_here ed6 b1]
                      rfl
                  · obtain ⟨c5, wa, z4, z5, z6, rfl⟩ := p
                    refine ⟨c3.same c5, ?_, _, _, _, _, _, rfl⟩
                    rw [wr1, wa, List.drop_eq_nil_of_le (by omega)]
                    rfl
        · obtain ⟨c3, wr, y2, y3, y4, y5, y6, rfl⟩ := p
          walk_at "w"
          refine qn ?_ H3 (c12.same c3)
          rw [efw, wr, List.drop_eq_nil_of_le (by omega)]
          rfl
end
section
mutual
inductive RX (S : Addr → Prop) (H : Hp) : V → PyData → Prop
  | non : RX S H .non .none
  | bl (b : Bool) : RX S H (.bl b) (.bool b)
  | int (i : Int) : RX S H (.int i) (.int i)
  | str (x : Str) : RX S H (.str x) (.str x)
  | lst {a : Addr} {xs : List V} {ds : List PyData} : S a → H a = some (.lst xs) → RXA S H xs ds → RX S H (.ref a) (.list ds)
  | tup {a : Addr} {xs : List V} {ds : List PyData} : H a = some (.tup xs) → RXA S H xs ds → RX S H (.ref a) (.tuple ds)
  | d0 {a : Addr} : S a → H a = some (.dK []) → RX S H (.ref a) (.dict [])
  | d1 {a : Addr} : S a → H a = some (.dK [(.inr "a", .int 1)]) → RX S H (.ref a) (.dict [(.str "a", .int 1)])
inductive RXA (S : Addr → Prop) (H : Hp) : List V → List PyData → Prop
  | nil : RXA S H [] []
  | cons {v : V} {vs : List V} {d : PyData} {ds : List PyData} : RX S H v d → RXA S H vs ds → RXA S H (v :: vs) (d :: ds)
end
section
variable {S S' : Addr → Prop} {H H' : Hp}
mutual
theorem RX.imp (hl : ∀ a xs, S a → H a = some (.lst xs) → S' a ∧ H' a = some (.lst xs)) (hd : ∀ a xs, S a → H a = some (.dK xs) → S' a ∧ H' a = some (.dK xs))
    (ht : ∀ a xs, H a = some (.tup xs) → H' a = some (.tup xs)) : ∀ {d : PyData} {v : V}, RX S H v d → RX S' H' v d
  | .none, _, h => by cases h; exact .non
  | .bool _, _, h => by cases h; exact .bl _
  | .int _, _, h => by cases h; exact .int _
  | .str _, _, h => by cases h; exact .str _
  | .list ds, _, h => by
    cases h with
    | lst s e r => exact .lst (hl _ _ s e).1 (hl _ _ s e).2 (RXA.imp hl hd ht r)
  | .tuple ds, _, h => by
    cases h with
    | tup e r => exact .tup (ht _ _ e) (RXA.imp hl hd ht r)
  | .dict _, _, h => by
    cases h with
    | d0 s e => exact .d0 (hd _ _ s e).1 (hd _ _ s e).2
    | d1 s e => exact .d1 (hd _ _ s e).1 (hd _ _ s e).2
theorem RXA.imp (hl : ∀ a xs, S a → H a = some (.lst xs) → S' a ∧ H' a = some (.lst xs)) (hd : ∀ a xs, S a → H a = some (.dK xs) → S' a ∧ H' a = some (.dK xs))
    (ht : ∀ a xs, H a = some (.tup xs) → H' a = some (.tup xs)) : ∀ {ds : List PyData} {vs : List V}, RXA S H vs ds → RXA S' H' vs ds
  | [], _, h => by cases h; exact .nil
  | d :: ds, _, h => by
    cases h with
    | cons a b => exact .cons (RX.imp hl hd ht a) (RXA.imp hl hd ht b)
end
theorem RX.keep {M : List Addr} {v : V} {d : PyData} (c : Chg M H H') (h : ∀ a, S a → a ∉ M) (r : RX S H v d) : RX S H' v d :=
  RX.imp (fun a xs s e => ⟨s, c.keep a _ e (h a s)⟩) (fun a xs s e => ⟨s, c.keep a _ e (h a s)⟩) c.tup r
theorem RXA.keep {M : List Addr} {v : List V} {d : List PyData} (c : Chg M H H') (h : ∀ a, S a → a ∉ M) (r : RXA S H v d) : RXA S H' v d :=
  RXA.imp (fun a xs s e => ⟨s, c.keep a _ e (h a s)⟩) (fun a xs s e => ⟨s, c.keep a _ e (h a s)⟩) c.tup r
theorem RX.same {v : V} {d : PyData} (c : Chg [] H H') (r : RX S H v d) : RX S H' v d := r.keep c fun _ _ => by simp
theorem RXA.same {v : List V} {d : List PyData} (c : Chg [] H H') (r : RXA S H v d) : RXA S H' v d := r.keep c fun _ _ => by simp
theorem RXA.length : ∀ {vs : List V} {ds : List PyData}, RXA S H vs ds → vs.length = ds.length
  | _, _, .nil => rfl
  | _, _, .cons _ r => by rw [List.length_cons, List.length_cons, RXA.length r]
theorem RXA.get : ∀ {vs : List V} {ds : List PyData} {i : Nat} {v : V}, RXA S H vs ds → vs[i]? = some v → ∃ d, ds[i]? = some d ∧ RX S H v d
  | _, _, _, _, .nil, h => by simp at h
  | _, _, 0, _, .cons a _, h => by cases h; exact ⟨_, rfl, a⟩
  | _, _, i + 1, _, .cons _ r, h => RXA.get (i := i) r h
theorem RXA.append : ∀ {vs ws : List V} {ds es : List PyData}, RXA S H vs ds → RXA S H ws es → RXA S H (vs ++ ws) (ds ++ es)
  | _, _, _, _, .nil, h => h
  | _, _, _, _, .cons a r, h => .cons a (r.append h)
theorem RXA.take : ∀ {vs : List V} {ds : List PyData} (n : Nat), RXA S H vs ds → RXA S H (vs.take n) (ds.take n)
  | _, _, 0, _ => .nil
  | _, _, _ + 1, .nil => .nil
  | _, _, n + 1, .cons a r => .cons a (r.take n)
theorem RXA.drop : ∀ {vs : List V} {ds : List PyData} (n : Nat), RXA S H vs ds → RXA S H (vs.drop n) (ds.drop n)
  | _, _, 0, h => h
  | _, _, _ + 1, .nil => .nil
  | _, _, n + 1, .cons _ r => r.drop n
theorem RXA.set : ∀ {vs : List V} {ds : List PyData} {v : V} {d : PyData} (n : Nat), RXA S H vs ds → RX S H v d → RXA S H (vs.set n v) (ds.set n d)
  | _, _, _, _, _, .nil, _ => .nil
  | _, _, _, _, 0, .cons _ r, h => .cons h r
  | _, _, _, _, n + 1, .cons a r, h => .cons a (r.set n h)
end
mutual
/-- what is told without the dicts' entries -/
def strip : PyData → PyData
  | .list ds => .list (strips ds)
  | .tuple ds => .tuple (strips ds)
  | .dict _ => .dict []
  | d => d
def strips : List PyData → List PyData
  | [] => []
  | d :: ds => strip d :: strips ds
end
theorem strips_len : ∀ ds : List PyData, (strips ds).length = ds.length
  | [] => rfl
  | d :: ds => congrArg (· + 1) (strips_len ds)
section
variable {S : Addr → Prop} {H : Hp}
mutual
theorem RX.r : ∀ {d : PyData} {v : V}, RX S H v d → R S H v (strip d)
  | .none, _, h => by cases h; exact .non
  | .bool _, _, h => by cases h; exact .bl _
  | .int _, _, h => by cases h; exact .int _
  | .str _, _, h => by cases h; exact .str _
  | .list ds, _, h => by
    cases h with
    | lst s e r => exact .lst s e (RXA.r r)
  | .tuple ds, _, h => by
    cases h with
    | tup e r => exact .tup e (RXA.r r)
  | .dict _, _, h => by
    cases h with
    | d0 s e => exact .dic s e
    | d1 s e => exact .dic s e
theorem RXA.r : ∀ {ds : List PyData} {vs : List V}, RXA S H vs ds → RA S H vs (strips ds)
  | [], _, h => by cases h; exact .nil
  | d :: ds, _, h => by
    cases h with
    | cons a b => exact .cons (RX.r a) (RXA.r b)
end
mutual
theorem RX.of : ∀ {d : PyData} {v : V}, R S H v d → noDic d = true → RX S H v d
  | .none, _, h, _ => by cases h; exact .non
  | .bool _, _, h, _ => by cases h; exact .bl _
  | .int _, _, h, _ => by cases h; exact .int _
  | .str _, _, h, _ => by cases h; exact .str _
  | .list ds, _, h, n => by
    cases h with
    | lst s e r => exact .lst s e (RXA.of r n)
  | .tuple ds, _, h, n => by
    cases h with
    | tup e r => exact .tup e (RXA.of r n)
  | .dict _, _, _, n => by cases n
theorem RXA.of : ∀ {ds : List PyData} {vs : List V}, RA S H vs ds → noDics ds = true → RXA S H vs ds
  | [], _, h, _ => by cases h; exact .nil
  | d :: ds, _, h, n => by
    obtain ⟨n1, n2⟩ := Bool.and_eq_true_iff.mp (show (noDic d && noDics ds) = true from n)
    cases h with
    | cons a b => exact .cons (RX.of a n1) (RXA.of b n2)
end
end
mutual
def gd : PyData → Prop
  | .none => True
  | .bool _ => True
  | .int i => i.natAbs < 10 ^ 21
  | .str x => x.length ≤ 100 ∧ ∀ c ∈ x.cps.toList, c < 1000
  | .list ds => ds.length ≤ 200 ∧ gds ds
  | .tuple ds => ds.length ≤ 200 ∧ gds ds
  | .dict kvs => kvs = [] ∨ kvs = [(.str "a", .int 1)]
def gds : List PyData → Prop
  | [] => True
  | d :: ds => gd d ∧ gds ds
end
theorem gds_iff : ∀ {ds : List PyData}, gds ds ↔ ∀ d ∈ ds, gd d
  | [] => ⟨fun _ d h => by simp at h, fun _ => trivial⟩
  | d :: ds => by
    show gd d ∧ gds ds ↔ _
    rw [gds_iff (ds := ds)]
    exact ⟨fun h e he => (List.mem_cons.mp he).elim (fun z => z ▸ h.1) (h.2 e), fun h => ⟨h d (by simp), fun e he => h e (List.mem_cons_of_mem _ he)⟩⟩
mutual
def shL : PyData → Nat
  | .none => 4
  | .bool _ => 5
  | .int _ => 22
  | .str x => 10 * x.length + 2
  | .list ds => shLs ds + 3
  | .tuple ds => shLs ds + 3
  | .dict _ => 100
def shLs : List PyData → Nat
  | [] => 0
  | d :: ds => shL d + 2 + shLs ds
end
theorem shLs_app : ∀ ds es : List PyData, shLs (ds ++ es) = shLs ds + shLs es
  | [], es => by show shLs es = 0 + shLs es; omega
  | d :: ds, es => by show shL d + 2 + shLs (ds ++ es) = shL d + 2 + shLs ds + shLs es; rw [shLs_app ds es]; omega
theorem shLs_take : ∀ (ds : List PyData) (n : Nat), shLs (ds.take n) ≤ shLs ds
  | [], n => by simp
  | d :: ds, 0 => Nat.zero_le _
  | d :: ds, n + 1 => by show shL d + 2 + shLs (ds.take n) ≤ shL d + 2 + shLs ds; have := shLs_take ds n; omega
theorem shLs_drop : ∀ (ds : List PyData) (n : Nat), shLs (ds.drop n) ≤ shLs ds
  | [], n => by simp
  | d :: ds, 0 => Nat.le_refl _
  | d :: ds, n + 1 => by show shLs (ds.drop n) ≤ shL d + 2 + shLs ds; have := shLs_drop ds n; omega
theorem shLs_mem : ∀ {ds : List PyData} {d : PyData}, d ∈ ds → shL d ≤ shLs ds
  | e :: ds, d, h => by
    show _ ≤ shL e + 2 + shLs ds
    rcases List.mem_cons.mp h with rfl | h
    · omega
    · have := shLs_mem h; omega
theorem dict_shown {kvs : List (PyData × PyData)} (h : kvs = [] ∨ kvs = [(.str "a", .int 1)]) : (PyData.dict kvs).shown.length ≤ 100 ∧ (PyData.dict kvs).showable = true := by
  rcases h with rfl | rfl
  · exact ⟨by decide +kernel, rfl⟩
  · exact ⟨by decide +kernel, by decide +kernel⟩
mutual
theorem shown_shL : ∀ {d : PyData}, gd d → d.shown.length ≤ shL d
  | .none, _ => by show ("None" : Str).length ≤ 4; decide +kernel
  | .bool b, _ => by cases b <;> (show (Str.length _) ≤ 5; decide +kernel)
  | .int i, h => by
    show (Str.ofString (toString i)).length ≤ 22
    rw [PySem.ofString_length]
    exact int_text_length_le10 (k := 21) (by decide) h
  | .str x, h => PySem.StrLaws.reprText_len x fun c hc => Nat.lt_trans (h.2 c hc) (by decide)
  | .list ds, h => by
    show (listText (PyData.shownAll ds)).length ≤ shLs ds + 3
    have h1 := listText_len_le (PyData.shownAll ds)
    have h2 := shown_shLs h.2
    omega
  | .tuple ds, h => by
    show (tupleText (PyData.shownAll ds)).length ≤ shLs ds + 3
    have h1 := tupleText_len_le (PyData.shownAll ds)
    have h2 := shown_shLs h.2
    omega
  | .dict kvs, h => (dict_shown h).1
theorem shown_shLs : ∀ {ds : List PyData}, gds ds → ((PyData.shownAll ds).map (·.length)).sum + 2 * (PyData.shownAll ds).length ≤ shLs ds
  | [], _ => Nat.le_refl _
  | d :: ds, h => by
    have h1 := shown_shL h.1
    have h2 := shown_shLs h.2
    show (d.shown.length + ((PyData.shownAll ds).map (·.length)).sum) + 2 * ((PyData.shownAll ds).length + 1) ≤ shL d + 2 + shLs ds
    omega
end
mutual
theorem gd_showable : ∀ {d : PyData}, gd d → d.showable = true
  | .none, _ => rfl
  | .bool b, _ => rfl
  | .int i, h => by
    show decide (i.natAbs.log2 < 1920) = true
    refine decide_eq_true ?_
    have h : i.natAbs < 10 ^ 21 := h
    by_cases z : i.natAbs = 0
    · rw [z]; decide
    · exact (Nat.log2_lt z).mpr (Nat.lt_trans h (by decide +kernel))
  | .str x, h => rfl
  | .list ds, h => gds_showable h.2
  | .tuple ds, h => gds_showable h.2
  | .dict kvs, h => (dict_shown h).2
theorem gds_showable : ∀ {ds : List PyData}, gds ds → PyData.showableAll ds = true
  | [], _ => rfl
  | d :: ds, h => by
    show (d.showable && PyData.showableAll ds) = true
    rw [gd_showable h.1, gds_showable h.2]
    rfl
end
mutual
theorem gd_small : ∀ {d : PyData}, gd d → smallD (strip d) = true
  | .none, _ => rfl
  | .bool b, _ => rfl
  | .int i, h => rfl
  | .str x, h => decide_eq_true (Nat.le_trans h.1 (by decide))
  | .list ds, h => gds_small h.2
  | .tuple ds, h => gds_small h.2
  | .dict kvs, h => rfl
theorem gds_small : ∀ {ds : List PyData}, gds ds → smallDs (strips ds) = true
  | [], _ => rfl
  | d :: ds, h => by
    show (smallD (strip d) && smallDs (strips ds)) = true
    rw [gd_small h.1, gds_small h.2]
    rfl
end
theorem gd_lenOk {d : PyData} (h : gd d) : lenOk (strip d) = true := by
  cases d with
  | list ds => exact decide_eq_true (by rw [strips_len]; have := h.1; omega)
  | _ => rfl
section
variable {S : Addr → Prop} {X : Cx} {pins : List (Addr × Obj)} {σ : L2.St} {H : Hp} {s : Shared}
mutual
theorem RX.reads (I : Inv X pins σ H s) : ∀ {d : PyData} {v : V} {u : Value}, RX S H v d → RelV v u → ∃ as, Reads s.heap u d as ∧ ∀ b ∈ as, H b ≠ none
  | .none, _, _, h, r => by
    cases h
    cases r
    exact ⟨_, Reads.none, fun _ hb => by cases hb⟩
  | .bool b, _, _, h, r => by
    cases h
    cases r
    exact ⟨_, Reads.bool b, fun _ hb => by cases hb⟩
  | .int i, _, _, h, r => by
    cases h
    obtain ⟨t, rfl⟩ := r
    exact ⟨_, Reads.int i t, fun _ hb => by cases hb⟩
  | .str x, _, _, h, r => by
    cases h
    obtain ⟨t, rfl⟩ := r
    exact ⟨_, Reads.str x t, fun _ hb => by cases hb⟩
  | .list ds, _, _, h, r => by
    cases h with
    | lst s0 e ha =>
      cases r
      obtain ⟨its, rv, ⟨o, n, ho, hc, _, hd⟩, _⟩ := I.list (sqL e)
      obtain ⟨as, hr, hn⟩ := RXA.reads I ha rv
      refine ⟨_, Reads.list ho hc hd hr, fun b hb => ?_⟩
      rcases List.mem_cons.mp hb with rfl | hb
      · rw [e]; exact fun z => by cases z
      · exact hn b hb
  | .tuple ds, _, _, h, r => by
    cases h with
    | tup e ha =>
      cases r
      obtain ⟨its, rv, ⟨o, ho, hc, n, hd⟩, _⟩ := I.tuple (sqT e)
      obtain ⟨as, hr, hn⟩ := RXA.reads I ha rv
      exact ⟨_, Reads.tuple ho hc hd hr, hn⟩
  | .dict kvs, _, _, h, r => by
    cases h with
    | d0 s0 e =>
      cases r
      obtain ⟨_, _, vs, rel, o, es, ep, ho, ex, hd, hk, hp, hnd⟩ := dk_of I.hok e
      cases rel
      have e0 : es.toList = [] := by
        cases hq : es.toList with
        | nil => rfl
        | cons x y => rw [hq] at hp; cases hp
      refine ⟨_, Reads.dict (kvs := []) ho ex.1 hd (by rw [e0]; exact .nil) (by rw [e0]; exact .nil), fun b hb => ?_⟩
      rcases List.mem_cons.mp hb with rfl | hb
      · rw [e]; exact fun z => by cases z
      · cases hb
    | d1 s0 e =>
      cases r
      obtain ⟨_, _, vs, rel, o, es, ep, ho, ex, hd, hk, hp, hnd⟩ := dk_of I.hok e
      cases rel with
      | cons r1 r2 =>
        cases r2
        obtain ⟨k1, t, k2⟩ := r1
        generalize hq : es.toList = el at hp
        cases hp with
        | cons h1 h2 h3 =>
          cases h3
          have hkey := keyIs_shape h1
          rw [← k1] at hkey
          rcases hkey with ⟨i, t', z, _⟩ | ⟨x, t', z, hx⟩
          · cases z
          · cases z
            refine ⟨_, Reads.dict (kvs := [(.str "a", .int 1)]) ho ex.1 hd (by rw [hq, List.map_cons, hx]; exact .cons (.str _ _) .nil) (by rw [hq, List.map_cons, h2, k2]; exact .cons (.int _ _) .nil), fun b hb => ?_⟩
            rcases List.mem_cons.mp hb with rfl | hb
            · rw [e]; exact fun z => by cases z
            · simp at hb
theorem RXA.reads (I : Inv X pins σ H s) : ∀ {ds : List PyData} {vs : List V} {us : List Value}, RXA S H vs ds → Vals vs us → ∃ as, ReadsAll s.heap us ds as ∧ ∀ b ∈ as, H b ≠ none
  | [], _, _, h, r => by
    cases h
    cases r
    exact ⟨_, ReadsAll.nil, fun _ hb => by cases hb⟩
  | d :: ds, _, _, h, r => by
    cases h with
    | cons h1 h2 =>
      cases r with
      | cons r1 r2 =>
        obtain ⟨as, q1, n1⟩ := RX.reads I h1 r1
        obtain ⟨bs, q2, n2⟩ := RXA.reads I h2 r2
        exact ⟨_, ReadsAll.cons q1 q2, fun b hb => (List.mem_append.mp hb).elim (n1 b) (n2 b)⟩
end
end
def strX : PyData → Str
  | .str x => x
  | d => d.shown
def rStrX : List V → Hp → VK → Prop := fun xs H Q => ∃ (v : V) (d : PyData) (S : Addr → Prop), xs = [v] ∧ RX S H v d ∧ gd d ∧ d.depth ≤ 50 ∧ shL d ≤ sizeLine ∧ Q (.str (strX d)) H
theorem w_strX {H : Hp} {Q : VK} {v : V} {d : PyData} {S : Addr → Prop} (rd : RX S H v d) (g : gd d) (dp : d.depth ≤ 50) (sz : shL d ≤ sizeLine) (q : Q (.str (strX d)) H) : rStrX [v] H Q := ⟨v, d, S, rfl, rd, g, dp, sz, q⟩
section
variable {X : Cx}
theorem p_strX (hG : X.A.guards = some []) (hu : X.A.units + 64 < cLine) (hs : SmK X.K) : CallR X (.type "str") rStrX := by
  intro pins st σ H xs us Q I r h
  obtain ⟨v, d, S, rfl, rd, g, dp, sz, q⟩ := h
  obtain ⟨u, rfl, ru⟩ := vals1 r
  have ob : ∀ a, v = .ref a → (strX d = d.shown) → wpAny (model X.prog X.w) X.A (call (.type "str") [u]) (EP X pins σ Q) X.xe st := fun a hv hd => by
    obtain ⟨as, rr, hn⟩ := RX.reads I rd ru
    subst hv
    cases (show u = Value.ref a from ru)
    rw [hd] at q
    exact str_of_reads rr (gd_showable g) (fun _ hm => hn _ hm (sm_free I hs)) hG (by omega) (fun _ _ z => z) (fun h' u tk kp => ⟨.str _, H, I.kept kp, ⟨_, rfl⟩, q⟩) (Nat.le_trans (shown_shL g) sz)
  cases rd with
  | non => cases ru; exact PySem.P.str_of_none ⟨.str _, H, I.tok _, ⟨_, rfl⟩, q⟩
  | bl b => cases ru; exact PySem.P.str_of_bool ⟨.str _, H, I.tok _, ⟨_, rfl⟩, q⟩
  | int i =>
    obtain ⟨t, rfl⟩ := ru
    exact PySem.P.str_of_int (of_decide_eq_true (gd_showable g)) ⟨.str _, H, I.tok _, ⟨_, rfl⟩, q⟩
  | str x =>
    obtain ⟨t, rfl⟩ := ru
    exact PySem.P.str_of_str ⟨.str _, H, I, ⟨_, rfl⟩, q⟩
  | lst a b c => exact ob _ rfl rfl
  | tup a b => exact ob _ rfl rfl
  | d0 a b => exact ob _ rfl rfl
  | d1 a b => exact ob _ rfl rfl
end
mutual
def CE.x : CE → PyData
  | .non => .none
  | .bl b => .bool b
  | .int i => .int i
  | .str x => .str x
  | .d0 => .dict []
  | .d1 => .dict [(.str "a", .int 1)]
  | .lst l => .list (CE.xs l)
  | .tup l => .tuple (CE.xs l)
def CE.xs : List CE → List PyData
  | [] => []
  | c :: r => CE.x c :: CE.xs r
end
theorem CE.xs_len : ∀ l : List CE, (CE.xs l).length = l.length
  | [] => rfl
  | c :: r => by
    show (CE.xs r).length + 1 = r.length + 1
    rw [CE.xs_len r]
mutual
theorem CE.walkX {S : Addr → Prop} {σ : L2.St} : ∀ (c : CE) {H : Hp} {Q : VK}, c.ok = true → (∀ a, H a = none → S a) → (∀ v H', Chg [] H H' → RX S H' v c.x → Q v H') → c.t σ H Q
  | .non, H, Q, _, _, q => q _ H .refl .non
  | .bl x, H, Q, _, _, q => q _ H .refl (.bl x)
  | .int i, H, Q, _, _, q => q _ H .refl (.int i)
  | .str x, H, Q, _, _, q => q _ H .refl (.str x)
  | .d0, H, Q, _, hb, q => fun p np => q _ _ (.new np) (.d0 (hb _ np) upd_same)
  | .d1, H, Q, _, hb, q => fun p np => ⟨upd_same, [(.inr "a", .int 1)], rfl, by decide, q _ _ ((Chg.new np).go (Chg.mut (upd_same (H := H) (a := p) (o := .dK [])) fun _ e => nomatch e) fun a ha => .inr (by rw [List.mem_singleton.mp ha]; exact np)) (.d1 (hb _ np) upd_same)⟩
  | .lst l, H, Q, ok, hb, q => by
    obtain ⟨h1, h2⟩ := Bool.and_eq_true_iff.mp (show (decide (l.length ≤ 1000) && CE.oks l) = true from ok)
    refine CE.walksX l h2 hb fun vs H1 c1 r => ?_
    have ln : vs.length ≤ 1000 := by
      rw [r.length, CE.xs_len]
      exact of_decide_eq_true h1
    refine ⟨Nat.le_trans ln (by decide), fun p np => ?_⟩
    have c2 : Chg [] H1 (upd H1 p (.lst vs)) := .new np
    exact q _ _ (c1.same c2) (.lst (hb _ (c1.dom _ np)) upd_same (r.same c2))
  | .tup l, H, Q, ok, hb, q => by
    obtain ⟨h1, h2⟩ := Bool.and_eq_true_iff.mp (show (decide (l.length ≤ 1000) && CE.oks l) = true from ok)
    refine CE.walksX l h2 hb fun vs H1 c1 r => ?_
    have ln : vs.length ≤ 1000 := by
      rw [r.length, CE.xs_len]
      exact of_decide_eq_true h1
    refine ⟨Nat.le_trans ln (by decide), fun p np => ?_⟩
    have c2 : Chg [] H1 (upd H1 p (.tup vs)) := .new np
    exact q _ _ (c1.same c2) (.tup upd_same (r.same c2))
theorem CE.walksX {S : Addr → Prop} {σ : L2.St} : ∀ (l : List CE) {H : Hp} {Q : List V → Hp → Prop}, CE.oks l = true → (∀ a, H a = none → S a) → (∀ vs H', Chg [] H H' → RXA S H' vs (CE.xs l) → Q vs H') → CE.ts l σ H Q
  | [], H, Q, _, _, q => q _ H .refl .nil
  | c :: r, H, Q, ok, hb, q => by
    obtain ⟨h1, h2⟩ := Bool.and_eq_true_iff.mp (show (CE.ok c && CE.oks r) = true from ok)
    refine CE.walkX c h1 hb fun v H1 c1 r1 => CE.walksX r h2 (fun a z => hb a (c1.dom _ z)) fun vs H2 c2 r2 => ?_
    exact q _ H2 (c1.same c2) (.cons (r1.same c2) r2)
end
end
section
theorem w_tupL {K : PySem.W.Frag} {p : Addr} {xs : List V} {H : Hp} {Q : VK} (h : H p = some (.lst xs)) (q : ∀ p' H2, H p' = none → Chg [] H H2 → H2 p' = some (.tup xs) → Q (.ref p') H2) : cTupQ K [.ref p] H Q := ⟨p, xs, rfl, .inl ⟨sqL h, d_new q⟩⟩
structure Lk (k T : Nat) (ds : List PyData) : Prop where
  g : ∀ d ∈ ds, gd d
  dp : ∀ d ∈ ds, d.depth ≤ k
  sz : shLs ds ≤ T
section
variable {k k' T U : Nat} {ds es : List PyData} {d : PyData}
theorem Lk.app (a : Lk k T ds) (b : Lk k U es) : Lk k (T + U) (ds ++ es) :=
  ⟨fun d h => (List.mem_append.mp h).elim (a.g d) (b.g d), fun d h => (List.mem_append.mp h).elim (a.dp d) (b.dp d), by rw [shLs_app]; have := a.sz; have := b.sz; omega⟩
theorem Lk.one (g : gd d) (dp : d.depth ≤ k) : Lk k (shL d + 2) [d] :=
  ⟨fun e h => by rw [List.mem_singleton.mp h]; exact g, fun e h => by rw [List.mem_singleton.mp h]; exact dp, by show shL d + 2 + 0 ≤ _; omega⟩
theorem Lk.sub (a : Lk k T ds) (s : ∀ d ∈ es, d ∈ ds) (z : shLs es ≤ U) : Lk k U es := ⟨fun d h => a.g d (s d h), fun d h => a.dp d (s d h), z⟩
theorem Lk.take (a : Lk k T ds) (n : Nat) : Lk k T (ds.take n) := a.sub (fun _ h => List.mem_of_mem_take h) (Nat.le_trans (shLs_take _ _) a.sz)
theorem Lk.drop (a : Lk k T ds) (n : Nat) : Lk k T (ds.drop n) := a.sub (fun _ h => List.mem_of_mem_drop h) (Nat.le_trans (shLs_drop _ _) a.sz)
theorem Lk.le (a : Lk k T ds) (h : k ≤ k') (z : T ≤ U) : Lk k' U ds := ⟨a.g, fun d h' => Nat.le_trans (a.dp d h') h, Nat.le_trans a.sz z⟩
theorem gd_list : gd (.list ds) ↔ ds.length ≤ 200 ∧ ∀ d ∈ ds, gd d := by
  show ds.length ≤ 200 ∧ gds ds ↔ _
  rw [gds_iff]
theorem gd_tup : gd (.tuple ds) ↔ ds.length ≤ 200 ∧ ∀ d ∈ ds, gd d := by
  show ds.length ≤ 200 ∧ gds ds ↔ _
  rw [gds_iff]
theorem depth_all : ∀ {ds : List PyData} {k : Nat}, PyData.depthAll ds ≤ k → ∀ d ∈ ds, d.depth ≤ k
  | e :: es, k, h, d, hd => by
    have h : max e.depth (PyData.depthAll es) ≤ k := h
    rcases List.mem_cons.mp hd with rfl | hd
    · omega
    · exact depth_all (by omega) d hd
theorem Lk.list (a : Lk k T ds) (h : ds.length ≤ 200) : gd (.list ds) ∧ (PyData.list ds).depth ≤ k + 1 ∧ shL (.list ds) ≤ T + 3 :=
  ⟨gd_list.mpr ⟨h, a.g⟩, Nat.succ_le_succ (depthAll_le a.dp), Nat.add_le_add_right a.sz 3⟩
theorem Lk.tup (a : Lk k T ds) (h : ds.length ≤ 200) : gd (.tuple ds) ∧ (PyData.tuple ds).depth ≤ k + 1 ∧ shL (.tuple ds) ≤ T + 3 :=
  ⟨gd_tup.mpr ⟨h, a.g⟩, Nat.succ_le_succ (depthAll_le a.dp), Nat.add_le_add_right a.sz 3⟩
theorem shLs_set : ∀ (ds : List PyData) (n : Nat) (d : PyData), shLs (ds.set n d) ≤ shLs ds + shL d
  | [], n, d => Nat.zero_le _
  | e :: ds, 0, d => by show shL d + 2 + shLs ds ≤ shL e + 2 + shLs ds + shL d; omega
  | e :: ds, n + 1, d => by show shL e + 2 + shLs (ds.set n d) ≤ shL e + 2 + shLs ds + shL d; have := shLs_set ds n d; omega
end
mutual
def gdB : PyData → Bool
  | .none => true
  | .bool _ => true
  | .int i => decide (i.natAbs < 10 ^ 21)
  | .str x => decide (x.length ≤ 100) && x.cps.toList.all fun c => decide (c < 1000)
  | .list ds => decide (ds.length ≤ 200) && gdBs ds
  | .tuple ds => decide (ds.length ≤ 200) && gdBs ds
  | .dict [] => true
  | .dict [(.str x, .int i)] => decide (x = "a") && decide (i = 1)
  | .dict _ => false
def gdBs : List PyData → Bool
  | [] => true
  | d :: ds => gdB d && gdBs ds
end
mutual
theorem gdB_ok : ∀ {d : PyData}, gdB d = true → gd d
  | .none, _ => trivial
  | .bool _, _ => trivial
  | .int i, h => of_decide_eq_true (p := i.natAbs < 10 ^ 21) h
  | .str x, h => by
    obtain ⟨h1, h2⟩ := Bool.and_eq_true_iff.mp (show (decide (x.length ≤ 100) && x.cps.toList.all fun c => decide (c < 1000)) = true from h)
    exact ⟨of_decide_eq_true h1, fun c hc => of_decide_eq_true (List.all_eq_true.mp h2 c hc)⟩
  | .list ds, h => by
    obtain ⟨h1, h2⟩ := Bool.and_eq_true_iff.mp (show (decide (ds.length ≤ 200) && gdBs ds) = true from h)
    exact ⟨of_decide_eq_true h1, gdBs_ok h2⟩
  | .tuple ds, h => by
    obtain ⟨h1, h2⟩ := Bool.and_eq_true_iff.mp (show (decide (ds.length ≤ 200) && gdBs ds) = true from h)
    exact ⟨of_decide_eq_true h1, gdBs_ok h2⟩
  | .dict kvs, h => by
    unfold gdB at h
    split at h
    all_goals first | (rename_i e; cases e; done) | skip
    all_goals first | contradiction | skip
    · rename_i e
      cases e
      exact .inl rfl
    · rename_i e
      cases e
      obtain ⟨h1, h2⟩ := Bool.and_eq_true_iff.mp h
      cases of_decide_eq_true h1
      cases of_decide_eq_true h2
      exact .inr rfl
theorem gdBs_ok : ∀ {ds : List PyData}, gdBs ds = true → gds ds
  | [], _ => trivial
  | d :: ds, h => by
    obtain ⟨h1, h2⟩ := Bool.and_eq_true_iff.mp (show (gdB d && gdBs ds) = true from h)
    exact ⟨gdB_ok h1, gdBs_ok h2⟩
end
def sp__law_odd04 : Sp := fun vs H Q _ => ∃ (b : Addr) (n : Nat), vs = [.ref b] ∧ Bag H b n ∧ 1 ≤ n ∧ ∀ (v : V) (d : PyData) (H' : Hp), Chg [b] H H' → Bag H' b (n - 1) → RX (Nw H b) H' v d → gd d → d.depth ≤ 4 → shL d ≤ 300 → Q v H'
def t__law_odd04 (K : PySem.W.Frag) : TS :=
    tSeq (tAsg (tLst (tCons (tC .non) (tCons (tC (.bl true)) (tCons (tC (.bl false)) (tCons (tC (.str "")) (tCons (tC (.str "a")) (tCons (tC (.str "A")) (tCons (tC (.str "a1")) (tCons (tC (.str "ab\n")) (tCons (tC (.str "abcdefghi")) (tCons (tTup (tNil)) (tCons (tLst (tNil)) (tCons (tDNewK) (tCons (tDisp [(tC (.str "a"), tC (.int 1))]) (tCons (tLst (tCons (tC (.str "arg")) (tNil))) (tCons (tC (.str "arg")) (tNil))))))))))))))))) (gName 1))
    (tSeq (tAsg (tOp rCat (tVar 1) (tLst (tCons (tTup (tCons (tC (.str "arg")) (tCons (tC (.int 1)) (tNil)))) (tCons (tTup (tCons (tC (.str "Arg")) (tNil))) (tCons (tTup (tCons (tC (.str "cell")) (tNil))) (tCons (tTup (tCons (tC (.str "cell")) (tCons (tC (.int 1)) (tCons (tC (.int 2)) (tNil))))) (tCons (tTup (tCons (tC (.str "add")) (tCons (tC (.int 1)) (tNil)))) (tCons (tTup (tCons (tC (.str "add")) (tCons (tC (.int 1)) (tCons (tC (.int 2)) (tCons (tC (.int 3)) (tNil)))))) (tCons (tTup (tCons (tC (.str "least")) (tCons (tC (.int 1)) (tCons (tC .non) (tNil))))) (tNil)))))))))) (gName 1))
    (tSeq (tAsg (tOp rCat (tVar 1) (tLst (tCons (tTup (tCons (tC (.str "less")) (tCons (tC (.bl true)) (tCons (tC (.int 1)) (tNil))))) (tCons (tTup (tCons (tC (.str "cell")) (tCons (tC (.str "1")) (tNil)))) (tCons (tLst (tCons (tC (.str "cell")) (tCons (tC (.int 1)) (tNil)))) (tCons (tTup (tCons (tC (.str "mul")) (tCons (tC (.int 1)) (tCons (tC (.int 2)) (tNil))))) (tCons (tTup (tCons (tC (.str "wait")) (tNil))) (tCons (tTup (tCons (tC (.int 1)) (tCons (tC (.int 2)) (tNil)))) (tCons (tC (.str "1")) (tCons (tC (.int 1)) (tNil))))))))))) (gName 1))
    (tRet (tOp (rIxL K) (tOp rCat (tVar 1) (tLst (tCons (tTup (tCons (tC (.str "cell")) (tCons (tTup (tCons (tC (.str "arg")) (tCons (tTup (tNil)) (tNil)))) (tNil)))) (tCons (tTup (tCons (tC (.str "add")) (tCons (tLst (tNil)) (tNil)))) (tCons (tTup (tCons (tLst (tNil)) (tCons (tC (.int 1)) (tNil)))) (tCons (tTup (tCons (tDNewK) (tCons (tC (.int 1)) (tCons (tC (.int 2)) (tNil))))) (tNil))))))) (tCall sp__law_draw [] E0 (tCons (tVar 0) (tCons (tC (.int 34)) (tNil))))))))
theorem pure__law_odd04 {K : PySem.W.Frag} (vs : List V) (H : Hp) (Q : VK) (E : XK) (h : sp__law_odd04 vs H Q E) : t__law_odd04 K (fin Q) (start ["bag", "some"] vs) H := by
  obtain ⟨b, n, rfl, bag, hn, q⟩ := h
  show t__law_odd04 K _ [some (.ref b), none] H
  unfold t__law_odd04
  show tSeq (tAsg (CE.lst odd1).t (gName 1)) (tSeq (tAsg (tOp rCat (tVar 1) (CE.lst odd2).t) (gName 1)) (tSeq (tAsg (tOp rCat (tVar 1) (CE.lst odd3).t) (gName 1)) (tRet (tOp (rIxL K) (tOp rCat (tVar 1) (CE.lst odd4).t) (tCall sp__law_draw [] E0 (tCons (tVar 0) (tCons (tC (.int 34)) tNil))))))) _ _ _
  walk_at "w"
  have nw : ∀ a, H a = none → Nw H b a := fun a h => ⟨h, fun z => bagN bag (by rw [← z]; exact h)⟩
  refine CE.walkX (S := Nw H b) _ (by decide +kernel) nw fun v1 H1 c1 r1 => ?_
  cases r1 with
  | @lst p1 xs1 _ s1 e1 ra1 =>
  walk_at "w"
  refine CE.walkX (S := Nw H b) _ (by decide +kernel) (fun a h => nw a (c1.dom a h)) fun v2 H2 c2 r2 => ?_
  cases r2 with
  | @lst p2 xs2 _ s2 e2 ra2 =>
  have l1 : xs1.length = 15 := ra1.length
  have l2 : xs2.length = 7 := ra2.length
  refine w_cat (c2.at e1) e2 (by omega) fun p3 H3 n3 c3 e3 => ?_
  have ra3 := ((ra1.same c2).append ra2).same c3
  have bag3 := bag.same ((c1.same c2).same c3)
  walk_at "w"
  have c13 := (c1.same c2).same c3
  refine CE.walkX (S := Nw H b) _ (by decide +kernel) (fun a h => nw a (c13.dom a h)) fun v4 H4 c4 r4 => ?_
  cases r4 with
  | @lst p4 xs4 _ s4 e4 ra4 =>
  have l4 : xs4.length = 8 := ra4.length
  refine w_cat (c4.at e3) e4 (by rw [List.length_append]; omega) fun p5 H5 n5 c5 e5 => ?_
  have ra5 := ((ra3.same c4).append ra4).same c5
  have bag5 := bag3.same (c4.same c5)
  walk_at "w"
  have c15 := (c13.same c4).same c5
  refine CE.walkX (S := Nw H b) _ (by decide +kernel) (fun a h => nw a (c15.dom a h)) fun v6 H6 c6 r6 => ?_
  cases r6 with
  | @lst p6 xs6 _ s6 e6 ra6 =>
  have l6 : xs6.length = 4 := ra6.length
  refine w_cat (c6.at e5) e6 (by rw [List.length_append, List.length_append]; omega) fun p7 H7 n7 c7 e7 => ?_
  have ra7 := ((ra5.same c6).append ra6).same c7
  have bag7 := bag5.same (c6.same c7)
  walk_at "w"
  refine u_draw bag7 hn (by decide) (by decide) fun k H8 c8 bag8 k0 k1 => ?_
  have nb : p7 ≠ b := fun z => bagN (bag5.same c6) (by rw [← z]; exact n7)
  have e8 := c8.at1 e7 nb
  have ra8 := ra7.keep c8 fun a sa hm => sa.2 (List.mem_singleton.mp hm)
  have ll := ra8.length
  have hk : k.toNat < (((xs1 ++ xs2) ++ xs4) ++ xs6).length := by
    rw [List.length_append, List.length_append, List.length_append]
    omega
  obtain ⟨d, ed, rd⟩ := ra8.get (List.getElem?_eq_getElem hk)
  refine w_ixL (sqL e8) (v := (((xs1 ++ xs2) ++ xs4) ++ xs6)[k.toNat]) ?_ ?_
  · have e9 := atI_nat (List.getElem?_eq_getElem hk)
    rw [Int.toNat_of_nonneg k0] at e9
    exact e9
  · have all : (((CE.xs odd1 ++ CE.xs odd2) ++ CE.xs odd3) ++ CE.xs odd4).all (fun d => gdB d && (decide (d.depth ≤ 4) && decide (shL d ≤ 300))) = true := by decide +kernel
    have one := List.all_eq_true.mp all d (List.mem_of_getElem? ed)
    obtain ⟨o1, o2⟩ := Bool.and_eq_true_iff.mp one
    obtain ⟨o2, o3⟩ := Bool.and_eq_true_iff.mp o2
    exact q _ d H8 (((((((c1.same c2).same c3).same c4).same c5).same c6).same c7).pre c8) bag8 rd (gdB_ok o1) (of_decide_eq_true o2) (of_decide_eq_true o3)
def k1 (x : Str) : Prop := ∀ c ∈ x.cps.toList, c < 1000
theorem k1_app {x y : Str} (hx : k1 x) (hy : k1 y) : k1 (x ++ y) := by
  intro c h
  have e : (x ++ y).cps.toList = x.cps.toList ++ y.cps.toList := Array.toList_append
  rw [e] at h
  exact (List.mem_append.mp h).elim (hx c) (hy c)
theorem k1_cut {x : Str} (hx : k1 x) (lo hi : Option Int) : k1 (cutS x lo hi) := fun c hc => by
  have e : (cutS x lo hi).cps.toList = (x.cps.toList.drop (HT.sIx x.length 0 lo)).take (HT.sIx x.length x.length hi - HT.sIx x.length 0 lo) := by
    unfold cutS
    rw [List.toList_toArray]
  rw [e] at hc
  exact hx c (List.mem_of_mem_drop (List.mem_of_mem_take hc))
theorem k1_low {x : Str} (h : nameS x = true) : k1 x := fun c hc => by
  have h1 : c ∈ letters.cps.toList := of_decide_eq_true ((nameS_iff.mp h).2.2 c hc)
  exact of_decide_eq_true (List.all_eq_true.mp (show letters.cps.toList.all (fun c => decide (c < 1000)) = true by decide +kernel) c h1)
def sp__law_no_name04 : Sp := fun vs H Q _ => ∃ (b : Addr) (n : Nat), vs = [.ref b] ∧ Bag H b n ∧ 40 ≤ n ∧ ∀ (x : Str) (H' : Hp), Chg [b] H H' → Bag H' b (n - 40) → x.length ≤ 50 → k1 x → Q (.str x) H'
def t__law_no_name04 (K : PySem.W.Frag) : TS :=
    tSeq (tAsg (tCall sp__law_name [] E0 (tCons (tVar 0) (tCons (tC (.str "")) (tNil)))) (gName 1))
    (tSeq (tAsg (tOp (rIxL K) (tLst (tCons (tC (.str "ABCDEFGHIJKLMNOPQRSTUVWXYZ")) (tCons (tC (.str "0123456789 !\"#$&'()*+,-./:;<=>?@\x5b\\]^_`{|}~\n\t")) (tNil)))) (tCall sp__law_draw [] E0 (tCons (tVar 0) (tCons (tC (.int 2)) (tNil))))) (gName 2))
    (tSeq (tAsg (tOp rIxS (tVar 2) (tCall sp__law_draw [] E0 (tCons (tVar 0) (tCons (tCB cLenS (tCons (tVar 2) (tNil))) (tNil))))) (gName 3))
    (tSeq (tAsg (tCall sp__law_draw [] E0 (tCons (tVar 0) (tCons (tOp oAdd (tCB cLenS (tCons (tVar 1) (tNil))) (tC (.int 1))) (tNil)))) (gName 4))
    (tSeq (tIfS (tTest (tOp rEq (tCall sp__law_draw [] E0 (tCons (tVar 0) (tCons (tC (.int 8)) (tNil)))) (tC (.int 7)))) (tRet (tSl rSlS (tOp oAddS (tVar 1) (tC (.str "abcdefghijkl"))) (tNoPart) (tPart (tOp oAdd (tC (.int 9)) (tCall sp__law_draw [] E0 (tCons (tVar 0) (tCons (tC (.int 4)) (tNil)))))))) (tNext))
    (tRet (tOp oAddS (tOp oAddS (tSl rSlS (tVar 1) (tNoPart) (tPart (tVar 4))) (tVar 3)) (tSl rSlS (tVar 1) (tPart (tOp oAdd (tVar 4) (tCall sp__law_draw [] E0 (tCons (tVar 0) (tCons (tC (.int 2)) (tNil)))))) (tNoPart))))))))
theorem pure__law_no_name04 {K : PySem.W.Frag} (vs : List V) (H : Hp) (Q : VK) (E : XK) (h : sp__law_no_name04 vs H Q E) : t__law_no_name04 K (fin Q) (start ["bag", "name", "signs", "sign", "at"] vs) H := by
  obtain ⟨b, n, rfl, bag, hn, q⟩ := h
  show t__law_no_name04 K _ [some (.ref b), none, none, none, none] H
  unfold t__law_no_name04
  walk_at "w"
  refine ⟨b, "", n, rfl, bag, by omega, by decide +kernel, low_nil, fun x H1 c1 bag1 ok => ?_⟩
  have l8 := (nameS_iff.mp ok).2.1
  have kx := k1_low ok
  walk_at "w"
  refine k_lst (by walk_at "sz") fun p H2 np c2 hp => ?_
  walk_at "w"
  refine u_draw (bag1.same c2) (by omega) (by decide) (by decide) fun v H3 c3 bag3 v0 v1 => ?_
  have ne : p ≠ b := fun z => bag1.some (by rw [← z]; exact np)
  obtain ⟨sg, es, hs1, hs2, hs3⟩ : ∃ sg : Str, atI [V.str "ABCDEFGHIJKLMNOPQRSTUVWXYZ", V.str "0123456789 !\"#$&'()*+,-./:;<=>?@\x5b\\]^_`{|}~\n\t"] v = some (.str sg) ∧ 1 ≤ sg.length ∧ sg.length ≤ 100 ∧ sg.cps.toList.all (fun c => decide (c < 1000)) = true := by
    have : v = 0 ∨ v = 1 := by omega
    rcases this with rfl | rfl
    · exact ⟨_, at0, by decide +kernel, by decide +kernel, by decide +kernel⟩
    · exact ⟨_, at1, by decide +kernel, by decide +kernel, by decide +kernel⟩
  refine w_ixL (sqL (c3.at1 hp ne)) es ?_
  walk_at "w"
  refine u_draw bag3 (by omega) (by omega) (by omega) fun u H4 c4 bag4 u0 u1 => ?_
  obtain ⟨c, ec, hcm⟩ := atD (xs := sg.cps.toList) u0 (show u < (sg.length : Nat) from u1)
  have kc : k1 ⟨#[c]⟩ := fun e he => by
    rw [List.mem_singleton.mp (show e ∈ [c] from he)]
    exact of_decide_eq_true (List.all_eq_true.mp hs3 c hcm)
  refine w_ixS (by walk_at "sz") ec ?_
  walk_at "w"
  refine u_draw bag4 (by omega) (by omega) (by omega) fun a H5 c5 bag5 a0 a1 => ?_
  walk_at "w"
  refine u_draw bag5 (by omega) (by decide) (by decide) fun e H6 c6 bag6 e0 e1 => ?_
  have cc : Chg [b] H H6 := ((((c1.same c2).both c3).both c4).both c5).both c6
  have l12 : (Str.ofString "abcdefghijkl").length = 12 := by decide +kernel
  have k12 : k1 (Str.ofString "abcdefghijkl") := fun c hc => of_decide_eq_true (List.all_eq_true.mp (show (Str.ofString "abcdefghijkl").cps.toList.all (fun c => decide (c < 1000)) = true by decide +kernel) c hc)
  walk_at "w"
  refine w_iteD (fun h7 => ?_) (fun h7 => ?_)
  · walk_at "w"
    refine u_draw bag6 (by omega) (by decide) (by decide) fun f H7 c7 bag7 f0 f1 => ?_
    walk_at "w"
    refine w_slS ?_ ?_
    · rw [len_append, l12]
      exact Nat.le_trans (show x.length + 12 ≤ 100000 by omega) (by decide)
    · refine q _ H7 (cc.both c7) (bag7.le (by omega)) ?_ (k1_cut (k1_app kx k12) _ _)
      have := cutS_le (x ++ (Str.ofString "abcdefghijkl")) none (some (9 + f))
      rw [len_append, l12] at this
      omega
  · walk_at "w"
    have k1' := cutS_le x none (some a)
    refine w_addS ?_ ?_
    · rw [len_one]
      exact Nat.le_trans (show (cutS x none (some a)).length + 1 ≤ 100000 by omega) (by decide)
    walk_at "w"
    refine u_draw bag6 (by omega) (by decide) (by decide) fun f H7 c7 bag7 f0 f1 => ?_
    walk_at "w"
    have k2 := cutS_le x (some (a + f)) none
    refine w_addS ?_ ?_
    · rw [len_append, len_one]
      exact Nat.le_trans (show (cutS x none (some a)).length + 1 + (cutS x (some (a + f)) none).length ≤ 100000 by omega) (by decide)
    refine q _ H7 (cc.both c7) (bag7.le (by omega)) ?_ (k1_app (k1_app (k1_cut kx _ _) kc) (k1_cut kx _ _))
    rw [len_append, len_append, len_one]
    omega
end
section
theorem gd_short {x : Str} (h : x.length ≤ 50) (k : k1 x) : gd (.str x) ∧ (PyData.str x).depth ≤ 0 ∧ shL (.str x) ≤ 502 :=
  ⟨⟨Nat.le_trans h (by decide), k⟩, Nat.le_refl _, by show 10 * x.length + 2 ≤ 502; omega⟩
theorem RXA.one {S : Addr → Prop} {H : Hp} {v : V} {d : PyData} (r : RX S H v d) : RXA S H [v] [d] := .cons r .nil
theorem RXA.two {S : Addr → Prop} {H : Hp} {v w : V} {d e : PyData} (r : RX S H v d) (s : RX S H w e) : RXA S H [v, w] [d, e] := .cons r (.cons s .nil)
/-- a pair -/
theorem pair_gd {k T U : Nat} {x y : PyData} (gx : gd x) (gy : gd y) (dx : x.depth ≤ k) (dy : y.depth ≤ k) (sx : shL x ≤ T) (sy : shL y ≤ U) : gd (.tuple [x, y]) ∧ (PyData.tuple [x, y]).depth ≤ k + 1 ∧ shL (.tuple [x, y]) ≤ T + U + 7 := by
  obtain ⟨h1, h2, h3⟩ := ((Lk.one gx dx).app (Lk.one gy dy)).tup (by show 2 ≤ 200; omega)
  exact ⟨h1, h2, by have h3 : shL (.tuple [x, y]) ≤ _ := h3; omega⟩
theorem pair_of {k : Nat} {x y : PyData} (g : gd (.tuple [x, y])) (dp : (PyData.tuple [x, y]).depth ≤ k + 1) : gd x ∧ gd y ∧ x.depth ≤ k ∧ y.depth ≤ k ∧ shL (.tuple [x, y]) = shL x + shL y + 7 := by
  have h1 := (gd_tup.mp g).2
  have h2 := depth_all (ds := [x, y]) (k := k) (by have : PyData.depthAll [x, y] + 1 ≤ k + 1 := dp; omega)
  exact ⟨h1 x (by simp), h1 y (by simp), h2 x (by simp), h2 y (by simp), by show shL x + 2 + (shL y + 2 + 0) + 3 = _; omega⟩
theorem nb_of {H : Hp} {b : Addr} {v : V} {d : PyData} {H' : Hp} (r : RX (Nw H b) H' v d) : RX (Nb b) H' v d := RX.imp (fun a xs s e => ⟨s.2, e⟩) (fun a xs s e => ⟨s.2, e⟩) (fun a xs e => e) r
def sp__law_row_turned04 (K : PySem.W.Frag) : Sp := fun vs H Q _ => ∃ (b : Addr) (v : V) (d : PyData) (k n : Nat), vs = [.ref b, v] ∧ Bag H b n ∧ 1000 ≤ n ∧ RX (Nb b) H v d ∧ gd d ∧ d.depth ≤ k + 1 ∧ 4 ≤ k ∧
  ∀ (v' : V) (d' : PyData) (H' : Hp), Chg [b] H H' → Bag H' b (n - 1000) → RX (Nb b) H' v' d' → gd d' → d'.depth ≤ k + 1 → shL d' ≤ shL d + 1000 → Q v' H'
def t__law_row_turned04 (K : PySem.W.Frag) : TS :=
    tSeq (tAsg (tCall sp__law_draw [] E0 (tCons (tVar 0) (tCons (tC (.int 7)) (tNil)))) (gName 2))
    (tSeq (tIfS (tOr (tNot (tB (tCB (rIsi K) (tCons (tVar 1) (tCons (tC (.ty "tuple")) (tNil)))))) (tTest (tOp rNe (tCB (cLenQ K) (tCons (tVar 1) (tNil))) (tC (.int 2))))) (tRet (tVar 1)) (tNext))
    (tSeq (tIfS (tTest (tOp rEq (tVar 2) (tC (.int 0)))) (tRet (tTup (tCons (tCall sp__law_name [] E0 (tCons (tVar 0) (tCons (tC (.str "m")) (tNil)))) (tCons (tOp (rIxT K) (tVar 1) (tC (.int 1))) (tNil))))) (tNext))
    (tSeq (tIfS (tTest (tOp rEq (tVar 2) (tC (.int 1)))) (tRet (tTup (tCons (tOp (rIxL K) (tLst (tCons (tCall (sp__law_odd04) [] E0 (tCons (tVar 0) (tNil))) (tCons (tCall (sp__law_no_name04) [] E0 (tCons (tVar 0) (tNil))) (tNil)))) (tCall sp__law_draw [] E0 (tCons (tVar 0) (tCons (tC (.int 2)) (tNil))))) (tCons (tOp (rIxT K) (tVar 1) (tC (.int 1))) (tNil))))) (tNext))
    (tSeq (tIfS (tTest (tOp rEq (tVar 2) (tC (.int 2)))) (tRet (tTup (tCons (tOp (rIxT K) (tVar 1) (tC (.int 0))) (tCons (tCall (sp__law_odd04) [] E0 (tCons (tVar 0) (tNil))) (tNil))))) (tNext))
    (tSeq (tIfS (tTest (tOp rEq (tVar 2) (tC (.int 3)))) (tRet (tIf (tB (tCB (rIsi K) (tCons (tOp (rIxT K) (tVar 1) (tC (.int 1))) (tCons (tC (.ty "list")) (tNil))))) (tTup (tCons (tOp (rIxT K) (tVar 1) (tC (.int 0))) (tCons (tCB (cTupQ K) (tCons (tOp (rIxT K) (tVar 1) (tC (.int 1))) (tNil))) (tNil)))) (tVar 1))) (tNext))
    (tSeq (tIfS (tTest (tOp rEq (tVar 2) (tC (.int 4)))) (tRet (tCB (cListQ K) (tCons (tVar 1) (tNil)))) (tNext))
    (tSeq (tIfS (tTest (tOp rEq (tVar 2) (tC (.int 5)))) (tRet (tOp (rCatA K) (tVar 1) (tTup (tCons (tC (.int 0)) (tNil))))) (tNext))
    (tRet (tOp (rIxL K) (tLst (tCons (tSl (rSlA K) (tVar 1) (tNoPart) (tPart (tC (.int 1)))) (tCons (tTup (tCons (tOp (rIxT K) (tVar 1) (tC (.int 1))) (tCons (tOp (rIxT K) (tVar 1) (tC (.int 0))) (tNil)))) (tNil)))) (tCall sp__law_draw [] E0 (tCons (tVar 0) (tCons (tC (.int 2)) (tNil)))))))))))))
theorem pure__law_row_turned04 {K : PySem.W.Frag} (vs : List V) (H : Hp) (Q : VK) (E : XK) (h : sp__law_row_turned04 K vs H Q E) : t__law_row_turned04 K (fin Q) (start ["bag", "row", "pick"] vs) H := by
  obtain ⟨b, v, d, k, n, rfl, bag, hn, r, g, dp, hk, q⟩ := h
  show t__law_row_turned04 K _ [some (.ref b), some v, none] H
  unfold t__law_row_turned04
  walk_at "w"
  refine u_draw bag (by omega) (by decide) (by decide) fun z H1 c1 bag1 z0 z1 => ?_
  have r1 := r.keep c1 fun a s h => s (List.mem_singleton.mp h)
  have same : Q v H1 := q v d H1 c1 (bag1.le (by omega)) r1 g dp (by omega)
  walk_at "w"
  refine w_isTup r1.r ?_
  walk_at "w"
  cases r1 with
  | non => walk_at "w"; exact same
  | bl _ => walk_at "w"; exact same
  | int _ => walk_at "w"; exact same
  | str _ => walk_at "w"; exact same
  | lst _ _ _ => walk_at "w"; exact same
  | d0 _ _ => walk_at "w"; exact same
  | d1 _ _ => walk_at "w"; exact same
  | @tup a xs ds e ra =>
  have lx := ra.length
  by_cases l2 : xs.length = 2
  case neg =>
    walk_at "w"
    refine w_iteD (fun h => absurd (show ((xs.length : Nat) : Int) = 2 by injection h) (by omega)) (fun h => ?_)
    walk_at "w"
    exact same
  cases ra with
  | nil => cases l2
  | @cons vx _ x _ rx ra2 =>
  cases ra2 with
  | nil => cases l2
  | @cons vy _ y _ ry ra3 =>
  cases ra3 with
  | cons _ _ => cases l2
  | nil =>
  obtain ⟨gx, gy, dx, dy, sz⟩ := pair_of g dp
  walk_at "w"
  have hz : z = 0 ∨ z = 1 ∨ z = 2 ∨ z = 3 ∨ z = 4 ∨ z = 5 ∨ z = 6 := by omega
  have keep : ∀ {H2 : Hp}, Chg [b] H1 H2 → RX (Nb b) H2 vx x ∧ RX (Nb b) H2 vy y ∧ H2 a = some (.tup [vx, vy]) := fun c => ⟨rx.keep c fun _ s h => s (List.mem_singleton.mp h), ry.keep c fun _ s h => s (List.mem_singleton.mp h), c.tup _ _ e⟩
  have low_m : low "m" := fun c hc => List.all_eq_true.mp (show (Str.ofString "m").cps.toList.all isLow = true by decide +kernel) c hc
  rcases hz with rfl | rfl | rfl | rfl | rfl | rfl | rfl
  · walk_at "w"
    refine ⟨b, "m", n - 1, rfl, bag1, by omega, by decide +kernel, low_m, fun nm H2 c2 bag2 ok => ?_⟩
    obtain ⟨g1, d1, s1⟩ := gd_short (Nat.le_trans (nameS_iff.mp ok).2.1 (by decide)) (k1_low ok)
    have e2 := c2.tup _ _ e
    walk_at "w"
    refine k_tup (by walk_at "sz") fun p H3 np c3 hp => ?_
    obtain ⟨p1, p2, p3⟩ := pair_gd g1 gy (Nat.le_trans d1 (Nat.zero_le k)) dy s1 (Nat.le_refl _)
    exact q _ _ H3 ((c1.both c2).same c3) ((bag2.same c3).le (by omega)) (.tup hp (.two (.str _) ((keep c2).2.1.same c3))) p1 p2 (by omega)
  · walk_at "w"
    refine ⟨b, n - 1, rfl, bag1, by omega, fun v2 d2 H2 c2 bag2 r2 g2 dp2 s2 => ?_⟩
    walk_at "w"
    refine ⟨b, n - 2, rfl, bag2.le (by omega), by omega, fun x3 H3 c3 bag3 l3 k3 => ?_⟩
    obtain ⟨g3, d3, s3⟩ := gd_short l3 k3
    walk_at "w"
    refine k_lst (by walk_at "sz") fun p4 H4 np4 c4 hp4 => ?_
    walk_at "w"
    refine u_draw (bag3.same c4) (by omega) (by decide) (by decide) fun w5 H5 c5 bag5 w0 w1 => ?_
    have nb : p4 ≠ b := fun z => bag3.some (by rw [← z]; exact np4)
    have c25 : Chg [b] H1 H5 := ((c2.both c3).same c4).both c5
    have r5 : RX (Nb b) H5 v2 d2 := (((nb_of r2).keep c3 fun _ s h => s (List.mem_singleton.mp h)).same c4).keep c5 fun _ s h => s (List.mem_singleton.mp h)
    obtain ⟨sv, sd, esv, rs, gs', ds', ss'⟩ : ∃ sv sd, atI [v2, V.str x3] w5 = some sv ∧ RX (Nb b) H5 sv sd ∧ gd sd ∧ sd.depth ≤ k ∧ shL sd ≤ 502 := by
      have : w5 = 0 ∨ w5 = 1 := by omega
      rcases this with rfl | rfl
      · exact ⟨_, _, at0, r5, g2, by omega, by omega⟩
      · exact ⟨_, _, at1, .str _, g3, by omega, by omega⟩
    refine w_ixL (sqL (c5.at1 hp4 nb)) esv ?_
    have e5 := c25.tup _ _ e
    walk_at "w"
    refine k_tup (by walk_at "sz") fun p H6 np c6 hp => ?_
    obtain ⟨p1, p2, p3⟩ := pair_gd gs' gy ds' dy ss' (Nat.le_refl _)
    exact q _ _ H6 ((c1.both c25).same c6) ((bag5.same c6).le (by omega)) (.tup hp (.two (rs.same c6) ((keep c25).2.1.same c6))) p1 p2 (by omega)
  · walk_at "w"
    refine ⟨b, n - 1, rfl, bag1, by omega, fun v2 d2 H2 c2 bag2 r2 g2 dp2 s2 => ?_⟩
    walk_at "w"
    refine k_tup (by walk_at "sz") fun p H3 np c3 hp => ?_
    obtain ⟨p1, p2, p3⟩ := pair_gd gx g2 dx (Nat.le_trans dp2 hk) (Nat.le_refl _) s2
    exact q _ _ H3 ((c1.both c2).same c3) ((bag2.same c3).le (by omega)) (.tup hp (.two ((keep c2).1.same c3) ((nb_of r2).same c3))) p1 p2 (by omega)
  · walk_at "w"
    refine w_isLst ry.r ?_
    cases ry with
    | non => walk_at "w"; exact same
    | bl _ => walk_at "w"; exact same
    | int _ => walk_at "w"; exact same
    | str _ => walk_at "w"; exact same
    | tup _ _ => walk_at "w"; exact same
    | d0 _ _ => walk_at "w"; exact same
    | d1 _ _ => walk_at "w"; exact same
    | @lst l ys es s ey ray =>
    walk_at "w"
    refine w_tupL ey fun p2 H2 np2 c2 hp2 => ?_
    walk_at "w"
    refine k_tup (by walk_at "sz") fun p H3 np c3 hp => ?_
    obtain ⟨p1, p2, p3⟩ := pair_gd (y := .tuple es) gx (gd_tup.mpr (gd_list.mp gy)) dx dy (Nat.le_refl _) (U := shL (.list es)) (Nat.le_refl _)
    exact q _ _ H3 ((c1.same c2).same c3) (((bag1.same c2).same c3).le (by omega)) (.tup hp (.two ((rx.same c2).same c3) (.tup (c3.at hp2) ((ray.same c2).same c3)))) p1 p2 (by omega)
  · walk_at "w"
    refine w_listT e fun p H2 np c2 hp => ?_
    have nb : p ≠ b := fun z => bag1.some (by rw [← z]; exact np)
    exact q _ (.list [x, y]) H2 (c1.same c2) ((bag1.same c2).le (by omega)) (.lst nb hp (.two (rx.same c2) (ry.same c2))) (gd_list.mpr (gd_tup.mp g)) dp (by show shLs [x, y] + 3 ≤ shLs [x, y] + 3 + 1000; omega)
  · walk_at "w"
    refine k_tup (by walk_at "sz") fun p2 H2 np2 c2 hp2 => ?_
    refine w_catA (c2.at e) hp2 (by simp) fun p H3 c3 hp => ?_
    have c23 := c2.same c3
    have lk : Lk k (shL x + 2 + (shL y + 2) + (shL (.int 0) + 2)) ([x, y] ++ [.int 0]) := ((Lk.one gx dx).app (Lk.one gy dy)).app (Lk.one (show gd (.int 0) from by show (0 : Int).natAbs < 10 ^ 21; decide) (Nat.zero_le _))
    obtain ⟨p1, p2, p3⟩ := lk.tup (by show 3 ≤ 200; omega)
    exact q _ _ H3 (c1.same c23) ((bag1.same c23).le (by omega)) (.tup hp ((RXA.two (rx.same c23) (ry.same c23)).append (.one (.int 0)))) p1 p2 (by rw [sz]; have : shL (.int 0) = 22 := rfl; omega)
  · walk_at "w"
    refine w_slA e fun p2 H2 c2 h2 => ?_
    rw [show (some (1 : Int)) = some ((1 : Nat) : Int) from rfl, cut_to] at h2
    have e2 := c2.at e
    walk_at "w"
    refine k_tup (by walk_at "sz") fun p3 H3 np3 c3 hp3 => ?_
    walk_at "w"
    refine k_lst (by walk_at "sz") fun p4 H4 np4 c4 hp4 => ?_
    walk_at "w"
    refine u_draw (((bag1.same c2).same c3).same c4) (by omega) (by decide) (by decide) fun w5 H5 c5 bag5 w0 w1 => ?_
    have nb : p4 ≠ b := fun z => ((bag1.same c2).same c3).some (by rw [← z]; exact np4)
    have c25 : Chg [b] H1 H5 := ((c2.same c3).same c4).pre c5
    obtain ⟨k1, k2, k3⟩ := keep c25
    have h2' := c5.tup _ _ (c4.at (c3.at h2))
    have h3' := c5.tup _ _ (c4.at hp3)
    have : w5 = 0 ∨ w5 = 1 := by omega
    rcases this with rfl | rfl
    · refine w_ixL (sqL (c5.at1 hp4 nb)) at0 ?_
      obtain ⟨p1, p2, p3⟩ := (Lk.one (k := k) gx dx).tup (by show 1 ≤ 200; omega)
      exact q _ (.tuple [x]) H5 (c1.both c25) (bag5.le (by omega)) (.tup h2' (.one k1)) p1 p2 (by omega)
    · refine w_ixL (sqL (c5.at1 hp4 nb)) at1 ?_
      obtain ⟨p1, p2, p3⟩ := pair_gd gy gx dy dx (Nat.le_refl _) (Nat.le_refl _)
      exact q _ (.tuple [y, x]) H5 (c1.both c25) (bag5.le (by omega)) (.tup h3' (.two k2 k1)) p1 p2 (by omega)
end
section
def sp__law_turned04 (K : PySem.W.Frag) : Sp := fun vs H Q _ => ∃ (b p : Addr) (ds : List PyData) (k m n : Nat), vs = [.ref b, .ref p] ∧ Bag H b n ∧ 10000 ≤ n ∧ RX (Nb b) H (.ref p) (.list ds) ∧ (∀ d ∈ ds, gd d) ∧ (∀ d ∈ ds, d.depth ≤ k + 1) ∧ 4 ≤ k ∧ ds.length ≤ m ∧ 1 ≤ m ∧ m ≤ 100 ∧
  ∀ (v' : V) (d' : PyData) (H' : Hp), Chg [b] H H' → Bag H' b (n - 10000) → RX (Nb b) H' v' d' → gd d' → d'.depth ≤ k + 3 → shL d' ≤ 3 * shLs ds + 2000 → (∀ es, d' = .list es → es.length ≤ m + 1) → Q v' H'
def t__law_turned04 (K : PySem.W.Frag) : TS :=
    tSeq (tAsg (tCall sp__law_draw [] E0 (tCons (tVar 0) (tCons (tC (.int 9)) (tNil)))) (gName 2))
    (tSeq (tAsg (tCall sp__law_draw [] E0 (tCons (tVar 0) (tCons (tOp oAdd (tCB (cLenQ K) (tCons (tVar 1) (tNil))) (tC (.int 1))) (tNil)))) (gName 3))
    (tSeq (tAsg (tCall sp__law_draw [] E0 (tCons (tVar 0) (tCons (tOp oAdd (tCB (cLenQ K) (tCons (tVar 1) (tNil))) (tC (.int 1))) (tNil)))) (gName 4))
    (tSeq (tIfS (tTest (tOp rEq (tVar 2) (tC (.int 0)))) (tRet (tOp rCat (tOp rCat (tSl (rSlL K) (tVar 1) (tNoPart) (tPart (tVar 3))) (tLst (tCons (tTup (tCons (tCall sp__law_name [] E0 (tCons (tVar 0) (tCons (tC (.str "m")) (tNil)))) (tCons (tLst (tCons (tTup (tCons (tC (.str "wait")) (tNil))) (tNil))) (tNil)))) (tNil)))) (tSl (rSlL K) (tVar 1) (tPart (tVar 3)) (tNoPart)))) (tNext))
    (tSeq (tIfS (tTest (tOp rEq (tVar 2) (tC (.int 1)))) (tRet (tOp rCat (tSl (rSlL K) (tVar 1) (tNoPart) (tPart (tVar 3))) (tSl (rSlL K) (tVar 1) (tPart (tOp oAdd (tVar 3) (tC (.int 1)))) (tNoPart)))) (tNext))
    (tSeq (tIfS (tTest (tOp rEq (tVar 2) (tC (.int 2)))) (tRet (tOp rCat (tOp rCat (tSl (rSlL K) (tVar 1) (tNoPart) (tPart (tVar 3))) (tSl (rSlL K) (tVar 1) (tPart (tVar 4)) (tPart (tOp oAdd (tVar 4) (tC (.int 1)))))) (tSl (rSlL K) (tVar 1) (tPart (tVar 3)) (tNoPart)))) (tNext))
    (tSeq (tIfS (tAnd (tTest (tOp rEq (tVar 2) (tC (.int 3)))) (tAnd (tTest (tOp oLt (tVar 3) (tCB (cLenQ K) (tCons (tVar 1) (tNil))))) (tTest (tOp oLt (tVar 4) (tCB (cLenQ K) (tCons (tVar 1) (tNil))))))) (tSeq (tAsg (tCB (cListQ K) (tCons (tVar 1) (tNil))) (gName 5))
    (tSeq (tAsg (tOp (rIxL K) (tVar 1) (tVar 4)) (gSub (tVar 5) (tVar 3) rSetL))
    (tSeq (tAsg (tOp (rIxL K) (tVar 1) (tVar 3)) (gSub (tVar 5) (tVar 4) rSetL))
    (tRet (tVar 5))))) (tNext))
    (tSeq (tIfS (tAnd (tTest (tOp oLt (tVar 2) (tC (.int 7)))) (tTest (tOp oLt (tVar 3) (tCB (cLenQ K) (tCons (tVar 1) (tNil)))))) (tRet (tOp rCat (tOp rCat (tSl (rSlL K) (tVar 1) (tNoPart) (tPart (tVar 3))) (tLst (tCons (tCall (sp__law_row_turned04 K) [] E0 (tCons (tVar 0) (tCons (tOp (rIxL K) (tVar 1) (tVar 3)) (tNil)))) (tNil)))) (tSl (rSlL K) (tVar 1) (tPart (tOp oAdd (tVar 3) (tC (.int 1)))) (tNoPart)))) (tNext))
    (tSeq (tIfS (tTest (tOp rEq (tVar 2) (tC (.int 7)))) (tRet (tOp rCat (tOp rCat (tSl (rSlL K) (tVar 1) (tNoPart) (tPart (tVar 3))) (tLst (tCons (tCall (sp__law_odd04) [] E0 (tCons (tVar 0) (tNil))) (tNil)))) (tSl (rSlL K) (tVar 1) (tPart (tVar 3)) (tNoPart)))) (tNext))
    (tRet (tOp (rIxL K) (tLst (tCons (tCB (cTupQ K) (tCons (tVar 1) (tNil))) (tCons (tLst (tCons (tVar 1) (tNil))) (tCons (tC .non) (tCons (tC (.str "")) (tCons (tDNewK) (tCons (tC (.int 0)) (tCons (tC (.str "a: wait")) (tCons (tC (.bl true)) (tNil)))))))))) (tCall sp__law_draw [] E0 (tCons (tVar 0) (tCons (tC (.int 8)) (tNil))))))))))))))
def t__law_turned_7 (K : PySem.W.Frag) : TS :=
    tSeq (tIfS (tAnd (tTest (tOp oLt (tVar 2) (tC (.int 7)))) (tTest (tOp oLt (tVar 3) (tCB (cLenQ K) (tCons (tVar 1) (tNil)))))) (tRet (tOp rCat (tOp rCat (tSl (rSlL K) (tVar 1) (tNoPart) (tPart (tVar 3))) (tLst (tCons (tCall (sp__law_row_turned04 K) [] E0 (tCons (tVar 0) (tCons (tOp (rIxL K) (tVar 1) (tVar 3)) (tNil)))) (tNil)))) (tSl (rSlL K) (tVar 1) (tPart (tOp oAdd (tVar 3) (tC (.int 1)))) (tNoPart)))) (tNext))
    (tSeq (tIfS (tTest (tOp rEq (tVar 2) (tC (.int 7)))) (tRet (tOp rCat (tOp rCat (tSl (rSlL K) (tVar 1) (tNoPart) (tPart (tVar 3))) (tLst (tCons (tCall (sp__law_odd04) [] E0 (tCons (tVar 0) (tNil))) (tNil)))) (tSl (rSlL K) (tVar 1) (tPart (tVar 3)) (tNoPart)))) (tNext))
    (tRet (tOp (rIxL K) (tLst (tCons (tCB (cTupQ K) (tCons (tVar 1) (tNil))) (tCons (tLst (tCons (tVar 1) (tNil))) (tCons (tC .non) (tCons (tC (.str "")) (tCons (tDNewK) (tCons (tC (.int 0)) (tCons (tC (.str "a: wait")) (tCons (tC (.bl true)) (tNil)))))))))) (tCall sp__law_draw [] E0 (tCons (tVar 0) (tCons (tC (.int 8)) (tNil)))))))
def t__law_turned_9 (K : PySem.W.Frag) : TS :=
    tRet (tOp (rIxL K) (tLst (tCons (tCB (cTupQ K) (tCons (tVar 1) (tNil))) (tCons (tLst (tCons (tVar 1) (tNil))) (tCons (tC .non) (tCons (tC (.str "")) (tCons (tDNewK) (tCons (tC (.int 0)) (tCons (tC (.str "a: wait")) (tCons (tC (.bl true)) (tNil)))))))))) (tCall sp__law_draw [] E0 (tCons (tVar 0) (tCons (tC (.int 8)) (tNil)))))
theorem pure__law_turned04 {K : PySem.W.Frag} (vs : List V) (H : Hp) (Q : VK) (E : XK) (h : sp__law_turned04 K vs H Q E) : t__law_turned04 K (fin Q) (start ["bag", "program", "pick", "at", "other", "changed"] vs) H := by
  obtain ⟨b, p, ds, k, m, n, rfl, bag, hn, r, g, dp, hk, lm, m1, m2, q⟩ := h
  show t__law_turned04 K _ [some (.ref b), some (.ref p), none, none, none, none] H
  unfold t__law_turned04
  cases r with
  | @lst _ xs _ pb e ra =>
  have lx := ra.length
  have lk : Lk (k + 1) (shLs ds) ds := ⟨g, dp, Nat.le_refl _⟩
  walk_at "w"
  refine u_draw bag (by omega) (by decide) (by decide) fun z H1 c1 bag1 z0 z1 => ?_
  have e1 := c1.at1 e pb
  walk_at "w"
  refine u_draw bag1 (by omega) (by omega) (by omega) fun at_ H2 c2 bag2 a0 a1 => ?_
  obtain ⟨i, rfl⟩ : ∃ i : Nat, at_ = (i : Nat) := ⟨at_.toNat, by omega⟩
  have e2 := c2.at1 e1 pb
  walk_at "w"
  refine u_draw bag2 (by omega) (by omega) (by omega) fun ot H3 c3 bag3 o0 o1 => ?_
  obtain ⟨j, rfl⟩ : ∃ j : Nat, ot = (j : Nat) := ⟨ot.toNat, by omega⟩
  have e3 := c3.at1 e2 pb
  have c13 : Chg [b] H H3 := (c1.both c2).both c3
  have ra3 : RXA (Nb b) H3 xs ds := ra.keep c13 fun _ s h => s (List.mem_singleton.mp h)
  have ei : (((i : Nat) : Int)) + 1 = ((i + 1 : Nat) : Int) := by omega
  have low_m : low "m" := fun c hc => List.all_eq_true.mp (show (Str.ofString "m").cps.toList.all isLow = true by decide +kernel) c hc
  have cb : ∀ {H' : Hp}, Chg [] H3 H' → Chg [b] H3 H' := fun c => (Chg.refl (M := [b])).same c
  -- a new list of small ones
  have out : ∀ {T : Nat} {es : List PyData} {ys : List V} {p' : Addr} {H' : Hp}, Chg [b] H3 H' → Bag H' b (n - 10000) → p' ≠ b → H' p' = some (.lst ys) → RXA (Nb b) H' ys es → Lk (k + 1) T es → T ≤ 3 * shLs ds + 1900 → es.length ≤ m + 1 → Q (.ref p') H' := fun {T es ys p' H'} c bg nb hp rx l hT hl => by
    obtain ⟨p1, p2, p3⟩ := l.list (by omega)
    exact q _ _ _ (c13.both c) bg (.lst nb hp rx) p1 (by omega) (by omega) fun es' he => by cases he; exact hl
  -- the ones ahead, some, the ones behind
  have nbN : ∀ {H' : Hp} {p' : Addr} {j : Nat}, Bag H' b j → H' p' = none → p' ≠ b := fun bg np z => bg.some (by rw [← z]; exact np)
  have last : ∀ z : Int, t__law_turned_9 K (fin Q) [some (.ref b), some (.ref p), some (.int z), some (.int (i : Nat)), some (.int (j : Nat)), none] H3 := fun z => by
    unfold t__law_turned_9
    walk_at "w"
    refine w_tupL e3 fun p4 H4 np4 c4 hp4 => ?_
    walk_at "w"
    refine k_lst (by walk_at "sz") fun p5 H5 np5 c5 hp5 => ?_
    walk_at "w"
    intro p6 np6
    have c6 : Chg [] H5 (upd H5 p6 (.dK [])) := .new np6
    have hp6 : (upd H5 p6 (.dK [])) p6 = some (.dK []) := upd_same
    generalize upd H5 p6 (.dK []) = H6 at c6 hp6 ⊢
    walk_at "w"
    refine k_lst (by walk_at "sz") fun p7 H7 np7 c7 hp7 => ?_
    walk_at "w"
    have c37 : Chg [] H3 H7 := ((c4.same c5).same c6).same c7
    refine u_draw (bag3.same c37) (by omega) (by decide) (by decide) fun w8 H8 c8 bag8 w0 w1 => ?_
    have b4 := bag3.same c4
    have b5 := b4.same c5
    have b6 := b5.same c6
    have c38 := c37.pre c8
    have ra8 : RXA (Nb b) H8 xs ds := ra3.keep c38 fun _ s h => s (List.mem_singleton.mp h)
    have e8 := c38.at1 e3 pb
    have hp4' : H8 p4 = some (.tup xs) := c8.tup _ _ (c7.at (c6.at (c5.at hp4)))
    have hp5' : H8 p5 = some (.lst [.ref p]) := c8.at1 (c7.at (c6.at hp5)) (nbN b4 np5)
    have hp6' : H8 p6 = some (.dK []) := c8.at1 (c7.at hp6) (nbN b5 np6)
    obtain ⟨sv, esv, hsv⟩ := atD (xs := [V.ref p4, V.ref p5, V.non, V.str "", V.ref p6, V.int 0, V.str "a: wait", V.bl true]) w0 (by simpa using w1)
    refine w_ixL (sqL (c8.at1 hp7 (nbN b6 np7))) esv ?_
    have l200 : ds.length ≤ 200 := by omega
    obtain ⟨t1, t2, t3⟩ := lk.tup l200
    obtain ⟨u1, u2, u3⟩ := lk.list l200
    obtain ⟨y1, y2, y3⟩ := (Lk.one u1 u2).list (by show 1 ≤ 200; omega)
    have cc := c13.both c38
    have bb : Bag H8 b (n - 10000) := bag8.le (by omega)
    simp only [List.mem_cons, List.not_mem_nil, or_false] at hsv
    rcases hsv with rfl | rfl | rfl | rfl | rfl | rfl | rfl | rfl
    · exact q _ (.tuple ds) H8 cc bb (.tup hp4' ra8) t1 (by omega) (by omega) fun es h => by cases h
    · exact q _ (.list [.list ds]) H8 cc bb (.lst (nbN b4 np5) hp5' (.one (.lst pb e8 ra8))) y1 (by omega) (by omega) fun es h => by cases h; show 1 ≤ m + 1; omega
    · exact q _ .none H8 cc bb .non trivial (Nat.zero_le _) (by show 4 ≤ _; omega) fun es h => by cases h
    · exact q _ (.str "") H8 cc bb (.str _) (gdB_ok (by decide +kernel)) (Nat.zero_le _) (Nat.le_trans (show shL (.str "") ≤ 2000 by decide +kernel) (by omega)) fun es h => by cases h
    · exact q _ (.dict []) H8 cc bb (.d0 (nbN b5 np6) hp6') (.inl rfl) (Nat.le_trans (show (PyData.dict []).depth ≤ 4 by decide +kernel) (by omega)) (by show 100 ≤ _; omega) fun es h => by cases h
    · exact q _ (.int 0) H8 cc bb (.int _) (gdB_ok (by decide +kernel)) (Nat.zero_le _) (by show 22 ≤ _; omega) fun es h => by cases h
    · exact q _ (.str "a: wait") H8 cc bb (.str _) (gdB_ok (by decide +kernel)) (Nat.zero_le _) (Nat.le_trans (show shL (.str "a: wait") ≤ 2000 by decide +kernel) (by omega)) fun es h => by cases h
    · exact q _ (.bool true) H8 cc bb (.bl _) trivial (Nat.zero_le _) (by show 5 ≤ _; omega) fun es h => by cases h
  have tail : ∀ z : Int, z ≠ 7 → t__law_turned_7 K (fin Q) [some (.ref b), some (.ref p), some (.int z), some (.int (i : Nat)), some (.int (j : Nat)), none] H3 := fun z z7 => by
    unfold t__law_turned_7
    walk_at "w"
    refine w_iteD (fun _ => ?_) (fun _ => by
      walk_at "w"
      refine w_iteD (fun h7 => absurd (show z = 7 by injection h7) z7) (fun h7 => ?_)
      exact last z)
    walk_at "w"
    refine w_iteD (fun h => ?_) (fun h => ?_)
    · have hi : i < xs.length := by omega
      walk_at "w"
      refine w_slL (sqL e3) fun p4 H4 np4 c4 h4 => ?_
      rw [cut_to] at h4
      have ex : xs[i]? = some xs[i] := List.getElem?_eq_getElem hi
      obtain ⟨d, ed, rd⟩ := ra3.get ex
      have dm : d ∈ ds := List.mem_of_getElem? ed
      walk_at "w"
      refine w_ixL (sqL (c4.at e3)) (atI_nat ex) ?_
      walk_at "w"
      refine ⟨b, xs[i], d, k, n - 3, rfl, (bag3.same c4).le (by omega), by omega, rd.same c4, g d dm, dp d dm, hk, fun v5 d5 H5 c5 bag5 r5 g5 dp5 s5 => ?_⟩
      walk_at "w"
      refine k_lst (by walk_at "sz") fun p6 H6 np6 c6 hp6 => ?_
      have h4' := c6.at (c5.at1 h4 (nbN bag3 np4))
      refine w_cat h4' hp6 (by rw [List.length_take]; simp; omega) fun p7 H7 np7 c7 hp7 => ?_
      walk_at "w"
      rw [ei]
      have c37 : Chg [b] H3 H7 := (((c4.pre c5)).same c6).same c7
      refine w_slL (sqL (c37.at1 e3 pb)) fun p8 H8 np8 c8 h8 => ?_
      rw [cut_from] at h8
      have bag7 := (bag5.same c6).same c7
      refine w_cat (c8.at hp7) h8 (by rw [List.length_append, List.length_take, List.length_drop]; simp; omega) fun p9 H9 np9 c9 hp9 => ?_
      have c39 := (c37.same c8).same c9
      have ra9 : RXA (Nb b) H9 xs ds := ra3.keep c39 fun _ s h => s (List.mem_singleton.mp h)
      have sd := shLs_mem dm
      refine out (T := shLs ds + (shL d5 + 2) + shLs ds) c39 (((bag7.same c8).same c9).le (by omega)) (nbN (bag7.same c8) np9) hp9 (((ra9.take i).append (.one (((r5.same c6).same c7).same (c8.same c9)))).append (ra9.drop (i + 1))) (((lk.take i).app (Lk.one g5 dp5)).app (lk.drop (i + 1))) (by omega) ?_
      rw [List.length_append, List.length_append, List.length_take, List.length_drop]
      simp
      omega
    · walk_at "w"
      refine w_iteD (fun h7 => absurd (show z = 7 by injection h7) z7) (fun h7 => ?_)
      exact last z
  have hz : z = 0 ∨ z = 1 ∨ z = 2 ∨ z = 3 ∨ z = 7 ∨ (4 ≤ z ∧ z ≠ 7) := by omega
  rcases hz with rfl | rfl | rfl | rfl | rfl | ⟨z4, z7⟩
  · walk_at "w"
    refine w_slL (sqL e3) fun p4 H4 np4 c4 h4 => ?_
    rw [cut_to] at h4
    walk_at "w"
    refine ⟨b, "m", n - 3, rfl, (bag3.same c4).le (by omega), by omega, by decide +kernel, low_m, fun nm H5 c5 bag5 ok => ?_⟩
    obtain ⟨g1, d1, s1⟩ := gd_short (Nat.le_trans (nameS_iff.mp ok).2.1 (by decide)) (k1_low ok)
    walk_at "w"
    refine k_tup (by walk_at "sz") fun p6 H6 np6 c6 hp6 => ?_
    walk_at "w"
    refine k_lst (by walk_at "sz") fun p7 H7 np7 c7 hp7 => ?_
    walk_at "w"
    refine k_tup (by walk_at "sz") fun p8 H8 np8 c8 hp8 => ?_
    walk_at "w"
    refine k_lst (by walk_at "sz") fun p9 H9 np9 c9 hp9 => ?_
    have c59 : Chg [] H5 H9 := ((c6.same c7).same c8).same c9
    have bag9 := bag5.same c59
    refine w_cat (c59.at (c5.at1 h4 (nbN bag3 np4))) hp9 (by rw [List.length_take]; simp; omega) fun p10 H10 np10 c10 hp10 => ?_
    walk_at "w"
    have c310 : Chg [b] H3 H10 := ((c4.pre c5).same c59).same c10
    refine w_slL (sqL (c310.at1 e3 pb)) fun p11 H11 np11 c11 h11 => ?_
    rw [cut_from] at h11
    refine w_cat (c11.at hp10) h11 (by rw [List.length_append, List.length_take, List.length_drop]; simp; omega) fun p12 H12 np12 c12 hp12 => ?_
    have c312 := (c310.same c11).same c12
    have ra12 : RXA (Nb b) H12 xs ds := ra3.keep c312 fun _ s h => s (List.mem_singleton.mp h)
    have c912 : Chg [] H9 H12 := (c10.same c11).same c12
    have bag11 := (bag9.same c10).same c11
    have n7 : p7 ≠ b := nbN (bag5.same c6) np7
    have wl : Lk 0 (shL (.str "wait") + 2) [PyData.str "wait"] := Lk.one (gdB_ok (by decide +kernel)) (Nat.le_refl _)
    obtain ⟨w1, w2, w3⟩ := wl.tup (by show 1 ≤ 200; omega)
    obtain ⟨x1, x2, x3⟩ := (Lk.one w1 w2).list (by show 1 ≤ 200; omega)
    have sw : shL (.str "wait") = 42 := by decide +kernel
    obtain ⟨y1, y2, y3⟩ := pair_gd (k := k) g1 x1 (by omega) (by omega) s1 (Nat.le_refl _)
    refine out (T := shLs ds + (shL (.tuple [.str nm, .list [.tuple [.str "wait"]]]) + 2) + shLs ds) c312 ((bag11.same c12).le (by omega)) (nbN bag11 np12) hp12 (((ra12.take i).append (.one ?_)).append (ra12.drop i)) (((lk.take i).app (Lk.one y1 y2)).app (lk.drop i)) (by omega) ?_
    · exact .tup (c912.at (c9.at hp8)) (.two (.str _) (.lst n7 (c912.at (c9.at (c8.at hp7))) (.one (.tup (c912.at (c9.at (c8.at (c7.at hp6)))) (.one (.str _))))))
    · rw [List.length_append, List.length_append, List.length_take, List.length_drop]
      simp
      omega
  · walk_at "w"
    refine w_slL (sqL e3) fun p4 H4 np4 c4 h4 => ?_
    rw [cut_to] at h4
    walk_at "w"
    rw [ei]
    refine w_slL (sqL (c4.at e3)) fun p5 H5 np5 c5 h5 => ?_
    rw [cut_from] at h5
    refine w_cat (c5.at h4) h5 (by rw [List.length_take, List.length_drop]; omega) fun p6 H6 np6 c6 hp6 => ?_
    have c36 : Chg [] H3 H6 := (c4.same c5).same c6
    have ra6 := ra3.same c36
    refine out (T := shLs ds + shLs ds) (cb c36) ((bag3.same c36).le (by omega)) (nbN ((bag3.same c4).same c5) np6) hp6 ((ra6.take i).append (ra6.drop (i + 1))) ((lk.take i).app (lk.drop (i + 1))) (by omega) ?_
    rw [List.length_append, List.length_take, List.length_drop]
    omega
  · walk_at "w"
    refine w_slL (sqL e3) fun p4 H4 np4 c4 h4 => ?_
    rw [cut_to] at h4
    walk_at "w"
    rw [show (((j : Nat) : Int)) + 1 = ((j + 1 : Nat) : Int) from by omega]
    refine w_slL (sqL (c4.at e3)) fun p5 H5 np5 c5 h5 => ?_
    rw [show cutV xs (some ((j : Nat) : Int)) (some ((j + 1 : Nat) : Int)) = (xs.drop (min j xs.length)).take (min (j + 1) xs.length - min j xs.length) from by unfold cutV; rw [HT.sIx_nat, HT.sIx_nat]] at h5
    refine w_cat (c5.at h4) h5 (by rw [List.length_take, List.length_take, List.length_drop]; omega) fun p6 H6 np6 c6 hp6 => ?_
    have c36 : Chg [] H3 H6 := (c4.same c5).same c6
    walk_at "w"
    refine w_slL (sqL (c36.at e3)) fun p7 H7 np7 c7 h7 => ?_
    rw [cut_from] at h7
    refine w_cat (c7.at hp6) h7 (by rw [List.length_append, List.length_take, List.length_take, List.length_drop, List.length_drop]; omega) fun p8 H8 np8 c8 hp8 => ?_
    have c38 : Chg [] H3 H8 := (c36.same c7).same c8
    have ra8 := ra3.same c38
    refine out (T := shLs ds + shLs ds + shLs ds) (cb c38) ((bag3.same c38).le (by omega)) (nbN ((bag3.same c36).same c7) np8) hp8 (((ra8.take i).append ((ra8.drop _).take _)).append (ra8.drop i)) (((lk.take i).app ((lk.drop _).take _)).app (lk.drop i)) (by omega) ?_
    rw [List.length_append, List.length_append, List.length_take, List.length_take, List.length_drop, List.length_drop]
    omega
  · walk_at "w"
    refine w_iteD (fun hi => ?_) (fun _ => tail 3 (by decide))
    walk_at "w"
    refine w_iteD (fun hj => ?_) (fun _ => tail 3 (by decide))
    have hi : i < xs.length := by omega
    have hj : j < xs.length := by omega
    have ex : xs[i]? = some xs[i] := List.getElem?_eq_getElem hi
    have ey : xs[j]? = some xs[j] := List.getElem?_eq_getElem hj
    obtain ⟨d, ed, rd⟩ := ra3.get ex
    obtain ⟨e', ee, re⟩ := ra3.get ey
    have dm : d ∈ ds := List.mem_of_getElem? ed
    have em : e' ∈ ds := List.mem_of_getElem? ee
    walk_at "w"
    refine w_listL (sqL e3) fun p4 H4 np4 c4 h4 => ?_
    walk_at "w"
    refine w_ixL (sqL (c4.at e3)) (atI_nat ey) ?_
    walk_at "w"
    refine w_setL h4 (ixD (Int.natCast_nonneg i) (by omega)) fun H5 c5 h5 => ?_
    rw [Int.toNat_natCast] at h5
    have pp : p ≠ p4 := fun z => by rw [← z, e3] at np4; cases np4
    walk_at "w"
    refine w_ixL (sqL (c5.at1 (c4.at e3) pp)) (atI_nat ex) ?_
    walk_at "w"
    refine w_setL h5 (ixD (Int.natCast_nonneg j) (by rw [List.length_set]; omega)) fun H6 c6 h6 => ?_
    rw [Int.toNat_natCast] at h6
    walk_at "w"
    have c36 : Chg [b] H3 H6 := ((cb c4).go c5 fun a ha => .inr (by rw [List.mem_singleton.mp ha]; exact np4)).go c6 fun a ha => .inr (by rw [List.mem_singleton.mp ha]; exact np4)
    have old : RXA (fun a => Nb b a ∧ H3 a ≠ none) H3 xs ds := RXA.imp (fun a xs s e => ⟨⟨s, by rw [e]; exact fun z => by cases z⟩, e⟩) (fun a xs s e => ⟨⟨s, by rw [e]; exact fun z => by cases z⟩, e⟩) (fun _ _ e => e) ra3
    have far : ∀ a, (Nb b a ∧ H3 a ≠ none) → a ∉ [p4] := fun a h z => h.2 (by rw [List.mem_singleton.mp z]; exact np4)
    have ra6' := ((old.same c4).keep c5 far).keep c6 far
    have ra6 : RXA (Nb b) H6 xs ds := RXA.imp (fun a xs s e => ⟨s.1, e⟩) (fun a xs s e => ⟨s.1, e⟩) (fun _ _ e => e) ra6'
    obtain ⟨d2, ed2, rd2⟩ := ra6.get ex
    obtain ⟨e2', ee2, re2⟩ := ra6.get ey
    rw [ed] at ed2
    cases ed2
    rw [ee] at ee2
    cases ee2
    have z1 := shLs_set ds i e'
    have z2 := shLs_set (ds.set i e') j d
    have z3 := shLs_mem dm
    have z4 := shLs_mem em
    have n4 : p4 ≠ b := nbN bag3 np4
    have bag6 : Bag H6 b (n - 3) := ((bag3.same c4).one c5 fun z => n4 z.symm).one c6 fun z => n4 z.symm
    refine out (T := 3 * shLs ds) c36 (bag6.le (by omega)) n4 h6 ((ra6.set i re2).set j rd2) ⟨fun x hx => ?_, fun x hx => ?_, by omega⟩ (by omega) (by rw [List.length_set, List.length_set]; omega)
    · rcases List.mem_or_eq_of_mem_set hx with h | h
      · rcases List.mem_or_eq_of_mem_set h with h | h
        · exact g x h
        · rw [h]; exact g _ em
      · rw [h]; exact g _ dm
    · rcases List.mem_or_eq_of_mem_set hx with h | h
      · rcases List.mem_or_eq_of_mem_set h with h | h
        · exact dp x h
        · rw [h]; exact dp _ em
      · rw [h]; exact dp _ dm
  · walk_at "w"
    refine w_slL (sqL e3) fun p4 H4 np4 c4 h4 => ?_
    rw [cut_to] at h4
    walk_at "w"
    refine ⟨b, n - 3, rfl, (bag3.same c4).le (by omega), by omega, fun v5 d5 H5 c5 bag5 r5 g5 dp5 s5 => ?_⟩
    walk_at "w"
    refine k_lst (by walk_at "sz") fun p6 H6 np6 c6 hp6 => ?_
    refine w_cat (c6.at (c5.at1 h4 (nbN bag3 np4))) hp6 (by rw [List.length_take]; simp; omega) fun p7 H7 np7 c7 hp7 => ?_
    walk_at "w"
    have c37 : Chg [b] H3 H7 := (((c4.pre c5)).same c6).same c7
    refine w_slL (sqL (c37.at1 e3 pb)) fun p8 H8 np8 c8 h8 => ?_
    rw [cut_from] at h8
    have bag7 := (bag5.same c6).same c7
    refine w_cat (c8.at hp7) h8 (by rw [List.length_append, List.length_take, List.length_drop]; simp; omega) fun p9 H9 np9 c9 hp9 => ?_
    have c39 := (c37.same c8).same c9
    have ra9 : RXA (Nb b) H9 xs ds := ra3.keep c39 fun _ s h => s (List.mem_singleton.mp h)
    refine out (T := shLs ds + (shL d5 + 2) + shLs ds) c39 (((bag7.same c8).same c9).le (by omega)) (nbN (bag7.same c8) np9) hp9 (((ra9.take i).append (.one ((((nb_of r5).same c6).same c7).same (c8.same c9)))).append (ra9.drop i)) (((lk.take i).app (Lk.one g5 (by omega))).app (lk.drop i)) (by omega) ?_
    rw [List.length_append, List.length_append, List.length_take, List.length_drop]
    simp
    omega
  · walk_at "w"
    refine w_iteD (fun h => absurd (show z = 0 by injection h) (by omega)) (fun _ => ?_)
    walk_at "w"
    refine w_iteD (fun h => absurd (show z = 1 by injection h) (by omega)) (fun _ => ?_)
    walk_at "w"
    refine w_iteD (fun h => absurd (show z = 2 by injection h) (by omega)) (fun _ => ?_)
    walk_at "w"
    refine w_iteD (fun h => absurd (show z = 3 by injection h) (by omega)) (fun _ => ?_)
    exact tail z z7
end
section
/-- of anything: refused with its fields -/
def sp_check (K : PySem.W.Frag) : Sp := fun vs H Q E => ∃ (v : V) (d : PyData) (S : Addr → Prop), vs = [v] ∧ R S H v d ∧ smallD d = true ∧ lenOk d = true ∧ (firstWrong d = none → ∀ H', Chg [] H H' → Q .non H') ∧
  ∀ o, firstWrong d = some o → ∀ dd H', Chg [] H H' → H' dd = some (.xd (xfs ["helper", "at"] (fwV o) [])) → E (.ref (He.ga K "NoProgram")) (some dd) H'
def t_check (E : XK) (K : PySem.W.Frag) : TS :=
    tSeq (tAsg (tCall sp_first_wrong [] E0 (tCons (tVar 0) (tNil))) (gName 1))
    (tIfS (tTest (tOp oNotN (tVar 1) (tC .non))) (tRaiseX (He.ga K "NoProgram") ["helper", "at"] E (tCons (tOp (rIxT K) (tVar 1) (tC (.int 0))) (tCons (tOp (rIxT K) (tVar 1) (tC (.int 1))) (tNil)))) (tNext))
theorem pure_check {K : PySem.W.Frag} (vs : List V) (H : Hp) (Q : VK) (E : XK) (h : sp_check K vs H Q E) : t_check E K (fin Q) (start ["program", "wrong"] vs) H := by
  obtain ⟨v, d, S, rfl, r, sm, lo, qn, qs⟩ := h
  show t_check E K _ [some v, none] H
  unfold t_check
  walk_at "w"
  refine ⟨v, d, S, rfl, r, sm, lo, fun e H1 c1 => ?_, fun o e p H1 c1 hp => ?_⟩
  · walk_at "w"
    exact qn e H1 c1
  · walk_at "w"
    refine w_raiseX ?_
    cases o with
    | none =>
      have hp : H1 p = some (.tup [.non, .non]) := hp
      walk_at "w"
      exact ⟨rfl, by simp, fun dd H2 c2 _ h2 => qs none e dd H2 (c1.same c2) h2⟩
    | some o =>
      obtain ⟨n, k⟩ := o
      have hp : H1 p = some (.tup [.str n, .int (k : Nat)]) := hp
      walk_at "w"
      exact ⟨rfl, by simp, fun dd H2 c2 _ h2 => qs (some (n, k)) e dd H2 (c1.same c2) h2⟩
end
section
def sp__law_told : Sp := fun vs H Q _ => ∃ (v : V) (d : PyData) (S : Addr → Prop), vs = [v] ∧ R S H v d ∧ smallD d = true ∧ lenOk d = true ∧
  (firstWrong d = none → ∀ p H', Chg [] H H' → H' p = some (.tup [.bl true, .non]) → Q (.ref p) H') ∧
  ∀ o, firstWrong d = some o → ∀ p p2 H', Chg [] H H' → H' p = some (.tup [.bl false, .ref p2, .bl true]) → H' p2 = some (.tup (fwV o)) → Q (.ref p) H'
def t__law_told (K : PySem.W.Frag) : TS :=
    tSeq (tAsg (tC .non) (gName 1))
    (tSeq (tAsg (tC .non) (gName 2))
    (tSeq (tTryH K (.ref (He.ga K "WorkError")) 3 (fun W => tAsg (tCallSD (sp_check K) [] (WE (W)) (tCons (tVar 0) (tNil))) (gName 2)) (fun a cls d => tAsg (tVar 3) (gName 1)) (fun _ _ _ _ => False))
    (tSeq (tIfS (tTest (tOp oIsN (tVar 1) (tC .non))) (tRet (tTup (tCons (tCall sp_is_program [] E0 (tCons (tVar 0) (tNil))) (tCons (tVar 2) (tNil))))) (tNext))
    (tSeq (tIfS (tB (tCB (rIsHT K) (tCons (tVar 1) (tCons (tTup (tCons (tC (.ref (He.ga K "NoHand"))) (tCons (tC (.ref (He.ga K "NoHelper"))) (tCons (tC (.ref (He.ga K "NoMark"))) (tCons (tC (.ref (He.ga K "NotOver"))) (tCons (tC (.ref (He.ga K "NoText"))) (tCons (tC (.ref (He.ga K "TooLong"))) (tNil)))))))) (tNil))))) (tRet (tC (.str "another class"))) (tNext))
    (tSeq (tIfS (tNot (tB (tCB (rIsH K) (tCons (tVar 1) (tCons (tC (.ref (He.ga K "NoProgram"))) (tNil)))))) (tRet (tC (.str "another class"))) (tNext))
    (tRet (tTup (tCons (tCall sp_is_program [] E0 (tCons (tVar 0) (tNil))) (tCons (tTup (tCons (tXh K "helper" (tVar 1)) (tCons (tXh K "at" (tVar 1)) (tNil)))) (tCons (tCB (rIsH K) (tCons (tVar 1) (tCons (tC (.ty "ValueError")) (tNil)))) (tNil)))))))))))
theorem pure__law_told {K : PySem.W.Frag} (XX : XF K) (vs : List V) (H : Hp) (Q : VK) (E : XK) (h : sp__law_told vs H Q E) : t__law_told K (fin Q) (start ["program", "caught", "fields", "e"] vs) H := by
  obtain ⟨v, d, S, rfl, r, sm, lo, qn, qs⟩ := h
  show t__law_told K _ [some v, none, none, none] H
  unfold t__law_told
  walk_at "w"
  refine w_tryH ?_
  walk_at "w"
  refine w_callX ?_
  walk_at "w"
  refine ⟨v, d, S, rfl, r, sm, lo, fun e H1 c1 => ?_, fun o e dd H1 c1 h1 => ?_⟩
  · walk_at "w"
    refine ⟨v, d, S, rfl, r.same c1, sm, lo, fun H2 c2 => ?_⟩
    walk_at "w"
    refine k_tup (by walk_at "sz") fun p H3 np c3 hp => ?_
    rw [e] at hp
    exact qn e p H3 ((c1.same c2).same c3) hp
  · refine ⟨true, XX.exm, fun _ a na => ?_, fun z => by cases z⟩
    walk_at "w"
    intro _
    have c2 : Chg [] H1 (upd H1 a (ExH (.ref (He.ga K "NoProgram")) (some dd) a)) := .new na
    have hA : (upd H1 a (ExH (.ref (He.ga K "NoProgram")) (some dd) a)) a = some (ExH (.ref (He.ga K "NoProgram")) (some dd) a) := upd_same
    generalize upd H1 a (ExH (.ref (He.ga K "NoProgram")) (some dd) a) = H2 at c2 hA ⊢
    have hd := c2.at h1
    show tSeq _ _ _ [some v, some (.ref a), some .non, none] H2
    walk_at "w"
    refine k_tup (by walk_at "sz") fun p3 H3 np3 c3 hp3 => ?_
    walk_at "w"
    refine ⟨a, _, dd, _, p3, _, _, false, rfl, hp3, .cons (.own _) (.cons (.own _) (.cons (.own _) (.cons (.own _) (.cons (.own _) (.cons (.own _) .nil))))), c3.at hA, XX.np.is, c3.at hd, XX.no, ?_⟩
    walk_at "w"
    refine ⟨a, _, dd, _, _, _, true, rfl, .own _, c3.at hA, XX.np.is, c3.at hd, XX.yes, ?_⟩
    walk_at "w"
    have c123 := (c1.same c2).same c3
    refine ⟨v, d, S, rfl, r.same c123, sm, lo, fun H4 c4 => ?_⟩
    have hA4 := c4.at (c3.at hA)
    have hd4 := c4.at (c3.at hd)
    walk_at "w"
    obtain ⟨x, y, exy⟩ : ∃ x y, fwV o = [x, y] := by
      cases o with
      | none => exact ⟨_, _, rfl⟩
      | some o => exact ⟨_, _, rfl⟩
    have ex : xfs ["helper", "at"] (fwV o) [] = [(("at" : Str), y), (("helper" : Str), x)] := by rw [exy]; rfl
    rw [ex] at hd4
    have e9 : (("helper" : Str) == ("at" : Str)) = false := by decide +kernel
    have l1 : List.lookup ("helper" : Str) [(("at" : Str), y), (("helper" : Str), x)] = some x := by simp [List.lookup, e9]
    have l2 : List.lookup ("at" : Str) [(("at" : Str), y), (("helper" : Str), x)] = some y := by simp [List.lookup]
    have n1 := XX.inp.no ("helper" : Str) (by simp)
    have n2 := XX.inp.no ("at" : Str) (by simp)
    refine w_xh rfl hA4 XX.np.xf n1 hd4 l1 ?_
    walk_at "w"
    refine w_xh rfl hA4 XX.np.xf n2 hd4 l2 ?_
    walk_at "w"
    refine k_tup (by walk_at "sz") fun p5 H5 np5 c5 hp5 => ?_
    walk_at "w"
    refine ⟨a, _, dd, _, _, _, true, rfl, .ty _, c5.at hA4, XX.np.is, c5.at hd4, XX.ve, ?_⟩
    walk_at "w"
    refine k_tup (by walk_at "sz") fun p6 H6 np6 c6 hp6 => ?_
    rw [e] at hp6
    refine qs o e p6 p5 H6 (((c123.same c4).same c5).same c6) hp6 ?_
    rw [exy]
    exact c6.at hp5
def sp__law_alike : Sp := fun vs H Q _ => ∃ (v : V) (d : PyData) (S : Addr → Prop), vs = [v] ∧ R S H v d ∧ smallD d = true ∧ lenOk d = true ∧ lenRows d = true ∧ ∀ H', Chg [] H H' → Q (.bl true) H'
def t__law_alike (K : PySem.W.Frag) : TS :=
    tSeq (tAsg (tCall sp__law_wrong [] E0 (tCons (tVar 0) (tNil))) (gName 1))
    (tSeq (tAsg (tCall sp__law_told [] E0 (tCons (tVar 0) (tNil))) (gName 2))
    (tSeq (tIfS (tTest (tOp oIsN (tVar 1) (tC .non))) (tRet (tAndV (tCB (rIsi K) (tCons (tVar 2) (tCons (tC (.ty "tuple")) (tNil)))) (tAndV (tOp oIsB (tOp (rIxT K) (tVar 2) (tC (.int 0))) (tC (.bl true))) (tAndV (tOp oIsN (tOp (rIxT K) (tVar 2) (tC (.int 1))) (tC .non)) (tOp rEq (tCB (cLenQ K) (tCons (tVar 2) (tNil))) (tC (.int 2))))))) (tNext))
    (tSeq (tIfS (tOr (tNot (tB (tCB (rIsi K) (tCons (tVar 2) (tCons (tC (.ty "tuple")) (tNil)))))) (tOr (tTest (tOp rNe (tCB (cLenQ K) (tCons (tVar 2) (tNil))) (tC (.int 3)))) (tOr (tTest (tOp oNotB (tOp (rIxT K) (tVar 2) (tC (.int 0))) (tC (.bl false)))) (tTest (tOp oNotB (tOp (rIxT K) (tVar 2) (tC (.int 2))) (tC (.bl true))))))) (tRet (tC (.bl false))) (tNext))
    (tRet (tAndV (tOp oEqD (tOp (rIxT K) (tVar 2) (tC (.int 1))) (tVar 1)) (tNotV (tCB (rIsi K) (tCons (tOp (rIxT K) (tOp (rIxT K) (tVar 2) (tC (.int 1))) (tC (.int 1))) (tCons (tC (.ty "bool")) (tNil))))))))))
theorem pure__law_alike {K : PySem.W.Frag} (vs : List V) (H : Hp) (Q : VK) (E : XK) (h : sp__law_alike vs H Q E) : t__law_alike K (fin Q) (start ["program", "due", "found"] vs) H := by
  obtain ⟨v, d, S, rfl, r, sm, lo, lr, q⟩ := h
  show t__law_alike K _ [some v, none, none] H
  unfold t__law_alike
  walk_at "w"
  refine ⟨v, d, S, rfl, r, sm, lo, lr, fun e H1 c1 => ?_, fun o e p H1 c1 hp => ?_⟩
  · walk_at "w"
    refine ⟨v, d, S, rfl, r.same c1, sm, lo, fun _ p H2 c2 h2 => ?_, fun o e' => by rw [e] at e'; cases e'⟩
    have r2 : R S H2 (.ref p) (.tuple [.bool true, .none]) := .tup h2 (.cons (.bl _) (.cons .non .nil))
    walk_at "w"
    exact q H2 (c1.same c2)
  · walk_at "w"
    refine ⟨v, d, S, rfl, r.same c1, sm, lo, fun e' => (by rw [e] at e'; cases e'), fun o' e' p2 p3 H2 c2 h2 h3 => ?_⟩
    rw [e] at e'
    cases e'
    have hp2 := c2.at hp
    cases o with
    | none =>
      have hp2 : H2 p = some (.tup [.non, .non]) := hp2
      have h3 : H2 p3 = some (.tup [.non, .non]) := h3
      have r3 : R S H2 (.ref p3) (.tuple [.none, .none]) := .tup h3 (.cons .non (.cons .non .nil))
      have rp : R S H2 (.ref p) (.tuple [.none, .none]) := .tup hp2 (.cons .non (.cons .non .nil))
      have r2 : R S H2 (.ref p2) (.tuple [.bool false, .tuple [.none, .none], .bool true]) := .tup h2 (.cons (.bl _) (.cons r3 (.cons (.bl _) .nil)))
      walk_at "w"
      refine w_eqD r3 rp rfl rfl (by decide) ?_
      walk_at "w"
      exact q H2 (c1.same c2)
    | some o =>
      obtain ⟨n, k⟩ := o
      have hp2 : H2 p = some (.tup [.str n, .int (k : Nat)]) := hp2
      have h3 : H2 p3 = some (.tup [.str n, .int (k : Nat)]) := h3
      have r3 : R S H2 (.ref p3) (.tuple [.str n, .int (k : Nat)]) := .tup h3 (.cons (.str _) (.cons (.int _) .nil))
      have rp : R S H2 (.ref p) (.tuple [.str n, .int (k : Nat)]) := .tup hp2 (.cons (.str _) (.cons (.int _) .nil))
      have r2 : R S H2 (.ref p2) (.tuple [.bool false, .tuple [.str n, .int (k : Nat)], .bool true]) := .tup h2 (.cons (.bl _) (.cons r3 (.cons (.bl _) .nil)))
      walk_at "w"
      refine w_eqD r3 rp rfl rfl (by simp [PyData.depth, PyData.depthAll]) ?_
      rw [show PyData.eqv (.tuple [.str n, .int (k : Nat)]) (.tuple [.str n, .int (k : Nat)]) = true from eqv_self _ rfl]
      walk_at "w"
      exact q H2 (c1.same c2)
end
end Fg
namespace Fg
open PySem PySem.Spec PyProof.Rows L2
local macro_rules | `(tactic| walk_at "hp") => `(tactic| first
  | assumption
  | exact upd_same
  | (refine Chg.at (by assumption) ?_; walk_at "hp")
  | (refine Chg.at1 (by assumption) ?_ (by walk_at "ne"); walk_at "hp"))
local macro_rules | `(tactic| walk_at "ne") => `(tactic| first | assumption | (apply Ne.symm; assumption))
local macro_rules | `(tactic| walk_at "sq") => `(tactic| first | assumption | exact sqL (by walk_at "hp") | (refine Chg.seq (by assumption) ?_; walk_at "sq"))
local macro_rules | `(tactic| walk_at "sz") => `(tactic| first | assumption | exact Nat.zero_le _ | (simp only [List.length_cons, List.length_nil]; decide) | exact Nat.le_trans (by first | omega | (simp; done) | (simp; omega)) (show 100000 ≤ sizeLine by decide) | exact Nat.lt_of_lt_of_le (by first | omega | (simp; done) | (simp; omega)) (show 100000 ≤ sizeLine by decide))
local macro_rules | `(tactic| walk_at "ix") => `(tactic| first | exact at0 | exact at1 | exact at2 | exact at3 | assumption | exact rfl | walk_at "ix2")
local macro_rules | `(tactic| walk_at "ix2") => `(tactic| fail)
local macro_rules | `(tactic| walk_at "num") => `(tactic| first | assumption | omega | decide | walk_at "num2")
local macro_rules | `(tactic| walk_at "num2") => `(tactic| fail)
local macro_rules | `(tactic| walk_at "im") => `(tactic| first | assumption | exact R.non (S := fun _ => False) | exact R.bl (S := fun _ => False) _ | exact R.int (S := fun _ => False) _ | exact R.str (S := fun _ => False) _ | (refine R.im (by assumption) ?_; walk_at "im"))
local macro_rules | `(tactic| walk_at "r") => `(tactic| first | assumption | exact R.non (S := fun _ => False) | exact R.bl (S := fun _ => False) _ | exact R.int (S := fun _ => False) _ | exact R.str (S := fun _ => False) _ | (refine R.same (by assumption) ?_; walk_at "r") | exact R.any (by walk_at "im"))
local macro_rules | `(tactic| walk_at "chg") => `(tactic| first
  | exact Chg.refl
  | assumption
  | (refine Chg.same ?_ (by assumption); walk_at "chg")
  | (refine Chg.both ?_ (by assumption); walk_at "chg")
  | (refine Chg.pre (by assumption) ?_; walk_at "chg"))
local macro_rules | `(tactic| walk_at "w1") => `(tactic| first
  | with_reducible apply w_seq
  | with_reducible apply w_asg
  | ((with_reducible apply w_var); (focus (exact rfl)))
  | with_reducible apply w_c
  | with_reducible apply w_op
  | with_reducible apply w_cons
  | with_reducible apply w_nil
  | with_reducible apply w_gName
  | with_reducible apply w_if
  | with_reducible apply w_test
  | with_reducible apply w_B
  | with_reducible apply w_isbl
  | with_reducible apply w_retN
  | with_reducible apply w_next
  | with_reducible apply w_drop
  | with_reducible apply w_cb
  | with_reducible apply w_call
  | with_reducible apply w_callN
  | with_reducible apply w_bm
  | with_reducible apply w_bm0
  | ((with_reducible apply w_tyL); (focus (walk_at "hp"; done)))
  | with_reducible apply w_dput
  | with_reducible apply w_m1
  | with_reducible apply w_isstr
  | with_reducible apply w_and
  | with_reducible apply w_or
  | with_reducible apply w_not
  | with_reducible apply w_andV
  | with_reducible apply w_orV
  | with_reducible apply w_notV
  | with_reducible apply w_ifE
  | with_reducible apply w_chain
  | with_reducible apply w_un
  | with_reducible apply w_neg
  | with_reducible apply w_add
  | with_reducible apply w_sub
  | ((with_reducible apply w_mod); (focus (walk_at "num"; done)))
  | ((with_reducible apply w_mul); (focus (walk_at "num"; done)))
  | ((with_reducible apply w_fdiv); (focus (walk_at "num"; done)))
  | ((with_reducible apply w_pow); (focus (walk_at "num"; done)))
  | with_reducible apply w_lt
  | with_reducible apply w_le
  | with_reducible apply w_gt
  | with_reducible apply w_ge
  | with_reducible apply w_ltS
  | with_reducible apply w_geS
  | with_reducible apply w_inC
  | with_reducible apply w_notInC
  | with_reducible apply w_isN
  | with_reducible apply w_notN
  | with_reducible apply w_isB
  | with_reducible apply w_notB
  | ((with_reducible apply w_addS); (focus (walk_at "sz"; done)))
  | ((with_reducible apply w_ixL); (focus (walk_at "sq"; done)); (focus (walk_at "ix"; done)))
  | ((with_reducible apply w_ixT); (focus (walk_at "hp"; done)); (focus (walk_at "ix"; done)))
  | ((with_reducible apply w_ixS); (focus (walk_at "sz"; done)); (focus (walk_at "ix"; done)))
  | with_reducible apply w_gSub
  | ((with_reducible apply w_gTup); (focus (walk_at "hp"; done)); (focus (exact rfl)))
  | with_reducible apply w_gCons
  | with_reducible apply w_gNil
  | ((with_reducible apply w_aug); (focus (exact rfl)))
  | with_reducible apply w_ipI
  | ((with_reducible apply w_eq); (focus (exact rfl)))
  | ((with_reducible apply w_ne); (focus (exact rfl)))
  | with_reducible apply w_max
  | with_reducible apply w_min
  | with_reducible apply w_abs
  | with_reducible apply w_intB
  | with_reducible apply w_intI
  | with_reducible apply w_tup1
  | with_reducible apply w_lst1
  | with_reducible apply w_sl
  | with_reducible apply w_part
  | with_reducible apply w_noPart
  | with_reducible apply w_isint
  | ((with_reducible apply w_slS); (focus (walk_at "sz"; done)))
  | with_reducible apply w_iteT
  | with_reducible apply w_iteF
  | with_reducible apply w_iteN
  | ((with_reducible apply w_iteYes); (focus (exact rfl)))
  | ((with_reducible apply w_iteNo); (focus (exact rfl)))
  | ((with_reducible apply w_lenL); (focus (walk_at "sq"; done)))
  | ((with_reducible apply w_lenT); (focus (walk_at "hp"; done)))
  | ((with_reducible apply w_lenS); (focus (walk_at "sz"; done)))
  | with_reducible apply w_lc
  | with_reducible apply w_for
  | with_reducible apply w_yes
  | ((with_reducible apply w_wipe); (focus (exact rfl)))
  | with_reducible apply w_iList
  | with_reducible apply w_iTup
  | with_reducible apply w_iStr
  | with_reducible apply w_iRng1
  | with_reducible apply w_iRng2
  | with_reducible apply w_iZip
  | with_reducible apply w_iEnum
  | ((with_reducible apply d_iList); (focus (walk_at "sq"; done)))
  | ((with_reducible apply d_iTup); (focus (walk_at "hp"; done)))
  | with_reducible apply d_iStr
  | ((with_reducible apply d_iRng1); (focus (walk_at "num"; done)); (focus (walk_at "num"; done)))
  | ((with_reducible apply d_iRng2); (focus (walk_at "num"; done)); (focus (walk_at "num"; done)); (focus (walk_at "num"; done)); (focus (walk_at "num"; done)))
  | ((with_reducible apply d_iZip); (focus (walk_at "sq"; done)); (focus (walk_at "sq"; done)))
  | ((with_reducible apply d_iEnum); (focus (walk_at "sq"; done)))
  | walk_at "w2")
local macro_rules | `(tactic| walk_at "w2") => `(tactic| fail)
local macro_rules | `(tactic| walk_at "wn") => `(tactic| repeat walk_at "w1")
local macro_rules | `(tactic| walk_at "w") => `(tactic| repeat (first | walk_at "w1" | with_reducible apply w_ret))
section
theorem w_sortedS {K : PySem.W.Frag} {H : Hp} {Q : VK} {p : Addr} {xs : List Str} (h : SqL K H p (xs.map V.str)) (hl : xs.length < 64) (q : ∀ (ys : List Str) (p' : Addr) (H2 : Hp), ys.Perm xs → sortedS ys = true → H p' = none → Chg [] H H2 → H2 p' = some (.lst (ys.map V.str)) → Q (.ref p') H2) : rSortedS K [.ref p] H Q :=
  ⟨p, xs, rfl, h, hl, fun ys p' hp hs np => q ys p' _ hp hs np (.new np) upd_same⟩
theorem w_rep {H : Hp} {Q : VK} {p : Addr} {xs : List V} {k : Int} (h : H p = some (.lst xs)) (h0 : 0 ≤ k) (h1 : k < 1000) (hx : xs.length ≤ 10) (q : ∀ p' H2, H p' = none → Chg [] H H2 → H2 p' = some (.lst (List.replicate k.toNat xs).flatten) → Q (.ref p') H2) : rRep (.ref p) (.int k) H Q := by
  refine ⟨p, k, xs, rfl, rfl, h, by omega, by omega, ?_, fun p' np => q p' _ np (.new np) upd_same⟩
  have : xs.length * k.toNat ≤ 10 * 1000 := Nat.mul_le_mul hx (by omega)
  exact Nat.le_trans this (by decide)
theorem rising_of : ∀ {ys : List Str}, sortedS ys = true → ys.Nodup → rising ys = true
  | [], _, _ => rfl
  | [_], _, _ => rfl
  | x :: y :: r, h, n => by
    have h' : (!ltCps y.cps.toList x.cps.toList && risingS y r) = true := h
    obtain ⟨h1, h2⟩ := Bool.and_eq_true_iff.mp h'
    have ih := rising_of (ys := y :: r) h2 (List.nodup_cons.mp n).2
    show (ltS x y && rising (y :: r)) = true
    rw [ih, Bool.and_true]
    rw [ltCps_eq] at h1
    have h3 : ¬ y.cps.toList < x.cps.toList := of_decide_eq_false (by simpa using h1)
    have ne : x ≠ y := fun e => (List.nodup_cons.mp n).1 (by rw [e]; exact List.mem_cons_self)
    refine decide_eq_true ?_
    have ne' : x.cps.toList ≠ y.cps.toList := fun e => ne (by
      cases x with
      | mk a =>
        cases y with
        | mk b => rw [show a = b from Array.toList_inj.mp e])
    have h4 : x.cps.toList ≤ y.cps.toList := List.not_lt.mp h3
    rcases List.le_iff_lt_or_eq.mp h4 with z | z
    · exact z
    · exact absurd z ne'
theorem pick_list {α : Type} {P : Nat → V → α → Prop} : ∀ {acc : List V}, (∀ i y, acc[i]? = some y → ∃ s, P i y s) → ∃ ss : List α, ss.length = acc.length ∧ ∀ i y s, acc[i]? = some y → ss[i]? = some s → P i y s := by
  intro acc
  induction acc generalizing P with
  | nil => exact fun _ => ⟨[], rfl, fun i y s h => by simp at h⟩
  | cons v r ih =>
    intro h
    obtain ⟨s, hs⟩ := h 0 v rfl
    obtain ⟨ss, hl, hss⟩ := ih (P := fun i y s => P (i + 1) y s) fun i y hy => h (i + 1) y hy
    refine ⟨s :: ss, by rw [List.length_cons, List.length_cons, hl], fun i y t hy ht => ?_⟩
    cases i with
    | zero =>
      cases (Option.some.inj (show some v = some y from hy))
      cases (Option.some.inj (show some s = some t from ht))
      exact hs
    | succ i => exact hss i y t hy ht
theorem imA_of {H : Hp} : ∀ {acc : List V} {ss : List Stp}, ss.length = acc.length → (∀ (i : Nat) (y : V) (s : Stp), acc[i]? = some y → ss[i]? = some s → Im H y s.data) → ImA H acc (ss.map Stp.data)
  | [], [], _, _ => .nil
  | [], _ :: _, h, _ => by simp at h
  | _ :: _, [], h, _ => by simp at h
  | v :: r, s :: ss, h, hi => .cons (hi 0 v s rfl rfl) (imA_of (by simpa using h) fun i y t hy ht => hi (i + 1) y t hy ht)
theorem stepsOk_of {ns : List Str} : ∀ {ss : List Stp}, (∀ (i : Nat) s, ss[i]? = some s → s.ok ns ((ss.length : Int) - 1 - i)) → stepsOk ns ss
  | [], _ => trivial
  | s :: r, h => by
    have h0 := h 0 s rfl
    have e0 : ((s :: r).length : Int) - 1 - (0 : Nat) = (r.length : Int) := by rw [List.length_cons]; omega
    rw [e0] at h0
    refine ⟨h0, stepsOk_of fun i t ht => ?_⟩
    have hi := h (i + 1) t ht
    have e1 : ((s :: r).length : Int) - 1 - ((i + 1 : Nat) : Int) = (r.length : Int) - 1 - i := by rw [List.length_cons]; omega
    rw [e1] at hi
    exact hi
def deepOk : V → Prop := fun v => ∃ i : Int, v = .int i ∧ 1 ≤ i ∧ i ≤ 5
def sp__law_program : Sp := fun vs H Q _ => ∃ (b : Addr) (n : Nat), vs = [.ref b] ∧ Bag H b n ∧ 10 ^ 11 ≤ n ∧
  ∀ (v : V) (p : Prg) (H' : Hp), Chg [b] H H' → Bag H' b (n - 10 ^ 11) → PrgOk p → p.length ≤ 12 → (∀ r ∈ p, r.2.length ≤ 12 ∧ ∀ s ∈ r.2, s.numsIn (10 ^ 20)) → R (fun a => H a = none) H' v (prgD p) → Q v H'
def t__law_program (K : PySem.W.Frag) : TS :=
    tSeq (tAsg (tCall sp__law_draw [] E0 (tCons (tVar 0) (tCons (tC (.int 8)) (tNil)))) (gName 1))
    (tSeq (tAsg (tCB (rSortedS K) (tCons (tCall sp__law_names [] E0 (tCons (tVar 0) (tCons (tCall sp__law_draw [] E0 (tCons (tVar 0) (tCons (tOp (rIxL K) (tLst (tCons (tC (.int 6)) (tCons (tC (.int 13)) (tNil)))) (tOp oFdiv (tVar 1) (tC (.int 7)))) (tNil)))) (tNil)))) (tNil))) (gName 2))
    (tSeq (tAsg (tLst (tNil)) (gName 3))
    (tSeq (tFor (iList K (tVar 2)) (gName 4) (tSeq (tAsg (tCall sp__law_draw [] E0 (tCons (tVar 0) (tCons (tOp (rIxL K) (tLst (tCons (tC (.int 7)) (tCons (tC (.int 13)) (tNil)))) (tOp oFdiv (tVar 1) (tC (.int 7)))) (tNil)))) (gName 5))
    (tSeq (tAsg (tOp rRep (tLst (tCons (tOp oAdd (tC (.int 2)) (tCB cInt (tCons (tOp oLt (tVar 1) (tC (.int 7))) (tNil)))) (tNil))) (tOp oAdd (tVar 5) (tC (.int 1)))) (gName 6))
    (tSeq (tAsg (tC (.int 5)) (gSub (tVar 6) (tCall sp__law_draw [] E0 (tCons (tVar 0) (tCons (tOp oAdd (tVar 5) (tC (.int 1))) (tNil)))) rSetL))
    (tDrop (tBM K "list" rAppend (tVar 3) (tCons (tTup (tCons (tVar 4) (tCons (tLc (iRng1 (tCons (tVar 5) (tNil))) (gName 7) (tYes) (tCall (sp__law_step K) [] E0 (tCons (tVar 0) (tCons (tVar 2) (tCons (tOp oSub (tOp oSub (tVar 5) (tC (.int 1))) (tVar 7)) (tCons (tOp (rIxL K) (tVar 6) (tVar 7)) (tNil)))))) [7]) (tNil)))) (tNil))))))))
    (tRet (tVar 3)))))
theorem pure__law_program {K : PySem.W.Frag} (vs : List V) (H : Hp) (Q : VK) (E : XK) (h : sp__law_program vs H Q E) : t__law_program K (fin Q) (start ["bag", "great", "names", "found", "name", "many", "deep", "k"] vs) H := by
  obtain ⟨b, n, rfl, bag, hn, q⟩ := h
  show t__law_program K _ [some (.ref b), none, none, none, none, none, none, none] H
  unfold t__law_program
  walk_at "w"
  refine u_draw bag (by omega) (by decide) (by decide) fun g H1 c1 bag1 g0 g1 => ?_
  walk_at "w"
  refine k_lst (by walk_at "sz") fun p H2 np c2 hp => ?_
  walk_at "w"
  refine w_fdiv (cdivS (by decide) (by decide)) ?_
  obtain ⟨x, ex, hx⟩ := atD (xs := [V.int 6, V.int 13]) (i := g / 7) (by omega) (by show g / 7 < 2; omega)
  refine w_ixL (sqL hp) ex ?_
  obtain ⟨m, rfl, m0, m1⟩ : ∃ m : Int, x = .int m ∧ 0 < m ∧ m ≤ 13 := by
    simp only [List.mem_cons, List.not_mem_nil, or_false] at hx
    rcases hx with rfl | rfl
    · exact ⟨_, rfl, by decide, by decide⟩
    · exact ⟨_, rfl, by decide, by decide⟩
  walk_at "w"
  refine u_draw (bag1.same c2) (by omega) m0 (by omega) fun w H3 c3 bag3 w0 w1 => ?_
  walk_at "w"
  refine ⟨b, w, n - 2, rfl, bag3.le (by omega), w0, by omega, by omega, fun l xs H4 c4 bag4 nl hl nd ok lw => ?_⟩
  walk_at "w"
  refine w_sortedS (sqL hl) (by omega) fun ys L H5 pm so nL c5 hL => ?_
  have okY : ∀ x ∈ ys, nameS x = true := fun x hx => ok x (pm.mem_iff.mp hx)
  have ndY : ys.Nodup := pm.nodup_iff.mpr nd
  have lnY : ys.length ≤ 12 := by rw [pm.length_eq]; omega
  have up := rising_of so ndY
  walk_at "w"
  refine k_lst (by walk_at "sz") fun F H6 nF c6 hF => ?_
  have c05 : Chg [b] H H5 := (((c1.same c2).both c3).both c4).same c5
  have c06 : Chg [b] H H6 := c05.same c6
  have bag5 := bag4.same c5
  have bag6 : Bag H6 b (n - 1002) := (bag5.same c6).le (by omega)
  have neL : L ≠ b := fun e => bag4.some (by rw [← e]; exact nL)
  have neF : F ≠ b := fun e => bag5.some (by rw [← e]; exact nF)
  have neLF : L ≠ F := ne_of_none hL nF
  have nF0 : H F = none := c05.dom F nF
  have b0 := bag.some
  walk_at "w"
  refine for_it (walk_list (K := K) (a := L) (xs := ys.map V.str)) (fun i σ H7 => Chg [b] H H7 ∧ Bag H7 b (n - 1002 - 2 * 10 ^ 9 * i) ∧ H7 L = some (.lst (ys.map V.str)) ∧ ∃ (rows : List V) (p : Prg) (y4 y5 y6 : Option V), σ = [some (.ref b), some (.int g), some (.ref L), some (.ref F), y4, y5, y6, none] ∧
      H7 F = some (.lst rows) ∧ p.map (·.1) = ys.take i ∧ RA (fun a => H a = none ∧ a ≠ F) H7 rows (p.map rowD) ∧ ∀ r ∈ p, stepsOk ys r.2 ∧ r.2.length ≤ 12 ∧ ∀ s ∈ r.2, s.numsIn (10 ^ 20))
    ⟨c06, bag6.le (by omega), c6.at hL, [], [], none, none, none, rfl, hF, rfl, .nil, fun r hr => (by cases hr)⟩ (fun i σ H7 _ z => sqL z.2.2.1) (fun i v σ H7 H8 hi z y => ?_) (fun σ H7 z => ?_)
  · obtain ⟨c7, bag7, hL7, rows, pr, y4, y5, y6, rfl, hF7, en, ra, okr⟩ := z
    obtain ⟨rfl, ev⟩ := y
    rw [List.getElem?_map] at ev
    have hi' : i < ys.length := by rw [List.length_map] at hi; exact hi
    rw [List.getElem?_eq_getElem hi'] at ev
    cases ev
    have nm := ys[i]
    walk_at "w"
    refine k_lst (by walk_at "sz") fun p1 H9 np1 c9 hp1 => ?_
    walk_at "w"
    refine w_fdiv (cdivS (by decide) (by decide)) ?_
    obtain ⟨x1, ex1, hx1⟩ := atD (xs := [V.int 7, V.int 13]) (i := g / 7) (by omega) (by show g / 7 < 2; omega)
    refine w_ixL (sqL hp1) ex1 ?_
    obtain ⟨m', rfl, m0', m1'⟩ : ∃ m : Int, x1 = .int m ∧ 0 < m ∧ m ≤ 13 := by
      simp only [List.mem_cons, List.not_mem_nil, or_false] at hx1
      rcases hx1 with rfl | rfl
      · exact ⟨_, rfl, by decide, by decide⟩
      · exact ⟨_, rfl, by decide, by decide⟩
    walk_at "w"
    have bag9 := bag7.same c9
    refine u_draw bag9 (by omega) m0' (by omega) fun mn H10 c10 bag10 mn0 mn1 => ?_
    walk_at "w"
    refine k_lst (by walk_at "sz") fun p2 H11 np2 c11 hp2 => ?_
    walk_at "w"
    refine w_rep hp2 (by omega) (by omega) (by simp) fun dl H12 ndl c12 hdl => ?_
    have bag12 := (bag10.same c11).same c12
    have nedl : dl ≠ b := fun e => (bag10.same c11).some (by rw [← e]; exact ndl)
    have c8_12 : Chg [b] H8 H12 := (((c9.wide (by simp)).both c10).same c11).same c12
    have ndl8 : H8 dl = none := (((c9.wide (M' := [b]) (by simp)).both c10).same c11).dom dl ndl
    generalize ed : (List.replicate ((mn + 1).toNat) [V.int (2 + if decide (g < 7) then 1 else 0)]).flatten = deep at hdl
    have ldl : (deep.length : Int) = mn + 1 := by
      rw [← ed, List.length_flatten, List.map_replicate]
      simp
      omega
    have odl : ∀ v ∈ deep, deepOk v := fun v hv => by
      rw [← ed] at hv
      obtain ⟨l', hl', hv'⟩ := List.mem_flatten.mp hv
      rw [(List.mem_replicate.mp hl').2] at hv'
      rw [List.mem_singleton.mp hv']
      refine ⟨_, rfl, ?_, ?_⟩ <;> (split <;> omega)
    walk_at "w"
    refine u_draw bag12 (by omega) (by omega) (by omega) fun at' H13 c13 bag13 a0 a1 => ?_
    refine w_setL (c13.at1 hdl nedl) (ixD a0 (by omega)) fun H14 c14 hdl14 => ?_
    have bag14 := bag13.one c14 (Ne.symm nedl)
    have odl14 : ∀ v ∈ deep.set at'.toNat (.int 5), deepOk v := fun v hv => by
      rcases List.mem_or_eq_of_mem_set hv with hv | hv
      · exact odl v hv
      · exact ⟨5, hv, by decide, by decide⟩
    have ldl14 : ((deep.set at'.toNat (V.int 5)).length : Int) = mn + 1 := by rw [List.length_set]; exact ldl
    generalize deep.set at'.toNat (V.int 5) = deep2 at hdl14 odl14 ldl14
    have c8_14 : Chg [b] H8 H14 := (c8_12.both c13).go c14 fun a ha => .inr (by rw [List.mem_singleton.mp ha]; exact ndl8)
    have hL14 := c8_14.at1 hL7 neL
    have hF14 := c8_14.at1 hF7 neF
    have b14 := bag14.some
    walk_at "w"
    refine w_lcP walk_range [b] (fun j H => Bag H b (n - 1010 - 2 * 10 ^ 9 * i - 10 ^ 8 * j)) (fun j y H => ∃ s : Stp, Im H y s.data ∧ s.ok ys (mn - 1 - j) ∧ s.numsIn (10 ^ 20)) (bag14.le (by omega)) (fun j Ha Hb p np c h => h.one c (fun z => b14 (by rw [z]; exact np))) (fun _ _ => trivial) (fun D j acc z Ha Hb hj nD hD el iv ca bga y => ?_) (fun D acc Ha nD ca bga el hD yss => ?_)
    · obtain ⟨rfl, rfl⟩ := y
      have hj' : (j : Int) < mn := by omega
      have hLa := ca.at1 hL14 neL
      have hda := ca.at1 hdl14 nedl
      obtain ⟨dv, edv, hdv⟩ := atD (xs := deep2) (i := 0 + (j : Nat)) (by omega) (by omega)
      obtain ⟨dp, rfl, dp0, dp1⟩ := odl14 dv hdv
      have nny : ys ≠ [] := fun e => by rw [e] at hi'; simp at hi'
      walk_at "w"
      refine ⟨b, L, ys, mn - 1 - (0 + (j : Nat)), dp, n - 1010 - 2 * 10 ^ 9 * i - 10 ^ 8 * j, rfl, bga, hLa, neL, nny, by omega, okY, by omega, by omega, dp0, dp1, by omega, fun v s Hc cc bgc im oks nms => ?_⟩
      have e0 : mn - 1 - (0 + ((j : Nat) : Int)) = mn - 1 - (j : Nat) := by omega
      rw [e0] at oks
      exact lcp_end (fun j Ha Hb p np c h => h.one c (fun z => b14 (by rw [z]; exact np))) (fun _ _ _ _ _ _ c h => by obtain ⟨s, h1, h2⟩ := h; exact ⟨s, h1.im c, h2⟩) nD (fun a ha => by rw [List.mem_singleton.mp ha]; exact b14) hD el (by omega) iv cc (bgc.le (by omega)) ⟨s, im, oks, nms⟩
    · obtain ⟨ss, lss, hss⟩ := pick_list yss
      have lss' : (ss.length : Int) = mn := by rw [lss, el]; omega
      have imA : ImA Ha acc (ss.map Stp.data) := imA_of lss fun i y s hy hs => (hss i y s hy hs).1
      have sok : stepsOk ys ss := stepsOk_of fun i s hs => by
        have hi : i < acc.length := by rw [← lss]; exact (List.getElem?_eq_some_iff.mp hs).1
        have := (hss i _ s (List.getElem?_eq_getElem hi) hs).2.1
        rw [lss']
        exact this
      have snm : ∀ s ∈ ss, s.numsIn (10 ^ 20) := fun s hs => by
        obtain ⟨i, hi⟩ := List.getElem?_of_mem hs
        have hi2 : i < acc.length := by rw [← lss]; exact (List.getElem?_eq_some_iff.mp hi).1
        exact (hss i _ s (List.getElem?_eq_getElem hi2) hi).2.2
      walk_at "w"
      refine k_tup (by walk_at "sz") fun T Hb nT cb hT => ?_
      have c8b : Chg [b] H8 Hb := (c8_14.both ca).same cb
      have hFb := c8b.at1 hF7 neF
      have nD8 : H8 D = none := c8_14.dom D nD
      have neDF : D ≠ F := fun e => by rw [e, hF7] at nD8; cases nD8
      have lr : rows.length = pr.length := by rw [ra.length, List.length_map]
      have lp : pr.length ≤ 12 := by
        have := congrArg List.length en
        rw [List.length_map, List.length_take] at this
        omega
      walk_at "w"
      refine w_append hFb (by walk_at "sz") fun Hc cc hFc => ?_
      have cHb : Chg [b] H Hb := c7.both c8b
      have cHc : Chg [b] H Hc := cHb.go cc fun a ha => .inr (by rw [List.mem_singleton.mp ha]; exact nF0)
      have bagb := bga.same cb
      refine ⟨cHc, (bagb.one cc (Ne.symm neF)).le (by omega), cc.at1 (c8b.at1 hL7 neL) neLF, rows ++ [.ref T], pr ++ [(ys[i], ss)], _, _, _, rfl, hFc, ?_, ?_, ?_⟩
      · rw [List.map_append, en, List.take_add_one, List.getElem?_eq_getElem hi']
        rfl
      · have r1 : RA (fun a => H a = none ∧ a ≠ F) Hc rows (pr.map rowD) := (ra.keep c8b (fun a sa => by
            intro hm
            rw [List.mem_singleton.mp hm] at sa
            exact b0 sa.1)).keep cc (fun a sa hm => sa.2 (List.mem_singleton.mp hm))
        have hTF : T ≠ F := fun e => by rw [e, hFb] at hT; cases hT
        have hDb := cb.at hD
        rw [List.map_append]
        refine r1.snoc (.tup (cc.at1 hT hTF) (.cons (.str _) (.cons (.lst ⟨c7.dom D nD8, neDF⟩ (cc.at1 hDb neDF) ?_) .nil)))
        exact (imA.im (cb.pre cc)).any
      · intro r hr
        rcases List.mem_append.mp hr with hr | hr
        · exact okr r hr
        · rw [List.mem_singleton.mp hr]
          exact ⟨sok, by show ss.length ≤ 12; omega, snm⟩
  · obtain ⟨c7, bag7, hL7, rows, pr, y4, y5, y6, rfl, hF7, en, ra, okr⟩ := z
    rw [List.length_map] at en bag7
    rw [List.take_length] at en
    walk_at "w"
    have lp : pr.length = ys.length := by
      have := congrArg List.length en
      rw [List.length_map] at this
      exact this
    refine q (.ref F) pr H7 c7 (bag7.le (by omega)) ⟨fun r hr => ?_, by rw [en]; exact up, fun r hr => by rw [en]; exact (okr r hr).1, by omega, fun r hr => by have := (okr r hr).2.1; omega⟩ (by omega) (fun r hr => (okr r hr).2) (.lst nF0 hF7 (ra.mono fun a h => h.1))
    have : r.1 ∈ pr.map (·.1) := List.mem_map.mpr ⟨r, hr, rfl⟩
    rw [en] at this
    exact okY _ this
end
end Fg
namespace Fg
open PySem PySem.Spec PyProof.Rows L2
local macro_rules | `(tactic| walk_at "hp") => `(tactic| first
  | assumption
  | exact upd_same
  | (refine Chg.at (by assumption) ?_; walk_at "hp")
  | (refine Chg.at1 (by assumption) ?_ (by walk_at "ne"); walk_at "hp"))
local macro_rules | `(tactic| walk_at "ne") => `(tactic| first | assumption | (apply Ne.symm; assumption))
local macro_rules | `(tactic| walk_at "sq") => `(tactic| first | assumption | exact sqL (by walk_at "hp") | (refine Chg.seq (by assumption) ?_; walk_at "sq"))
local macro_rules | `(tactic| walk_at "sz") => `(tactic| first | assumption | exact Nat.zero_le _ | (simp only [List.length_cons, List.length_nil]; decide) | exact Nat.le_trans (by first | omega | (simp; done) | (simp; omega)) (show 100000 ≤ sizeLine by decide) | exact Nat.lt_of_lt_of_le (by first | omega | (simp; done) | (simp; omega)) (show 100000 ≤ sizeLine by decide))
local macro_rules | `(tactic| walk_at "ix") => `(tactic| first | exact at0 | exact at1 | exact at2 | exact at3 | assumption | exact rfl | walk_at "ix2")
local macro_rules | `(tactic| walk_at "ix2") => `(tactic| fail)
local macro_rules | `(tactic| walk_at "num") => `(tactic| first | assumption | omega | decide | walk_at "num2")
local macro_rules | `(tactic| walk_at "num2") => `(tactic| fail)
local macro_rules | `(tactic| walk_at "im") => `(tactic| first | assumption | exact R.non (S := fun _ => False) | exact R.bl (S := fun _ => False) _ | exact R.int (S := fun _ => False) _ | exact R.str (S := fun _ => False) _ | (refine R.im (by assumption) ?_; walk_at "im"))
local macro_rules | `(tactic| walk_at "r") => `(tactic| first | assumption | exact R.non (S := fun _ => False) | exact R.bl (S := fun _ => False) _ | exact R.int (S := fun _ => False) _ | exact R.str (S := fun _ => False) _ | (refine R.same (by assumption) ?_; walk_at "r") | exact R.any (by walk_at "im"))
local macro_rules | `(tactic| walk_at "chg") => `(tactic| first
  | exact Chg.refl
  | assumption
  | (refine Chg.same ?_ (by assumption); walk_at "chg")
  | (refine Chg.both ?_ (by assumption); walk_at "chg")
  | (refine Chg.pre (by assumption) ?_; walk_at "chg"))
local macro_rules | `(tactic| walk_at "w1") => `(tactic| first
  | with_reducible apply w_seq
  | with_reducible apply w_asg
  | ((with_reducible apply w_var); (focus (exact rfl)))
  | with_reducible apply w_c
  | with_reducible apply w_op
  | with_reducible apply w_cons
  | with_reducible apply w_nil
  | with_reducible apply w_gName
  | with_reducible apply w_if
  | with_reducible apply w_test
  | with_reducible apply w_B
  | with_reducible apply w_isbl
  | with_reducible apply w_retN
  | with_reducible apply w_next
  | with_reducible apply w_drop
  | with_reducible apply w_cb
  | with_reducible apply w_call
  | with_reducible apply w_callN
  | with_reducible apply w_bm
  | with_reducible apply w_bm0
  | ((with_reducible apply w_tyL); (focus (walk_at "hp"; done)))
  | with_reducible apply w_dput
  | with_reducible apply w_m1
  | with_reducible apply w_isstr
  | with_reducible apply w_and
  | with_reducible apply w_or
  | with_reducible apply w_not
  | with_reducible apply w_andV
  | with_reducible apply w_orV
  | with_reducible apply w_notV
  | with_reducible apply w_ifE
  | with_reducible apply w_chain
  | with_reducible apply w_un
  | with_reducible apply w_neg
  | with_reducible apply w_add
  | with_reducible apply w_sub
  | ((with_reducible apply w_mod); (focus (walk_at "num"; done)))
  | ((with_reducible apply w_mul); (focus (walk_at "num"; done)))
  | ((with_reducible apply w_fdiv); (focus (walk_at "num"; done)))
  | ((with_reducible apply w_pow); (focus (walk_at "num"; done)))
  | with_reducible apply w_lt
  | with_reducible apply w_le
  | with_reducible apply w_gt
  | with_reducible apply w_ge
  | with_reducible apply w_ltS
  | with_reducible apply w_geS
  | with_reducible apply w_inC
  | with_reducible apply w_notInC
  | with_reducible apply w_isN
  | with_reducible apply w_notN
  | with_reducible apply w_isB
  | with_reducible apply w_notB
  | ((with_reducible apply w_addS); (focus (walk_at "sz"; done)))
  | ((with_reducible apply w_ixL); (focus (walk_at "sq"; done)); (focus (walk_at "ix"; done)))
  | ((with_reducible apply w_ixT); (focus (walk_at "hp"; done)); (focus (walk_at "ix"; done)))
  | ((with_reducible apply w_ixS); (focus (walk_at "sz"; done)); (focus (walk_at "ix"; done)))
  | with_reducible apply w_gSub
  | ((with_reducible apply w_gTup); (focus (walk_at "hp"; done)); (focus (exact rfl)))
  | with_reducible apply w_gCons
  | with_reducible apply w_gNil
  | ((with_reducible apply w_aug); (focus (exact rfl)))
  | with_reducible apply w_ipI
  | ((with_reducible apply w_eq); (focus (exact rfl)))
  | ((with_reducible apply w_ne); (focus (exact rfl)))
  | with_reducible apply w_max
  | with_reducible apply w_min
  | with_reducible apply w_abs
  | with_reducible apply w_intB
  | with_reducible apply w_intI
  | with_reducible apply w_tup1
  | with_reducible apply w_lst1
  | with_reducible apply w_sl
  | with_reducible apply w_part
  | with_reducible apply w_noPart
  | with_reducible apply w_isint
  | ((with_reducible apply w_slS); (focus (walk_at "sz"; done)))
  | with_reducible apply w_iteT
  | with_reducible apply w_iteF
  | with_reducible apply w_iteN
  | ((with_reducible apply w_iteYes); (focus (exact rfl)))
  | ((with_reducible apply w_iteNo); (focus (exact rfl)))
  | ((with_reducible apply w_lenL); (focus (walk_at "sq"; done)))
  | ((with_reducible apply w_lenT); (focus (walk_at "hp"; done)))
  | ((with_reducible apply w_lenS); (focus (walk_at "sz"; done)))
  | with_reducible apply w_lc
  | with_reducible apply w_for
  | with_reducible apply w_yes
  | ((with_reducible apply w_wipe); (focus (exact rfl)))
  | with_reducible apply w_iList
  | with_reducible apply w_iTup
  | with_reducible apply w_iStr
  | with_reducible apply w_iRng1
  | with_reducible apply w_iRng2
  | with_reducible apply w_iZip
  | with_reducible apply w_iEnum
  | ((with_reducible apply d_iList); (focus (walk_at "sq"; done)))
  | ((with_reducible apply d_iTup); (focus (walk_at "hp"; done)))
  | with_reducible apply d_iStr
  | ((with_reducible apply d_iRng1); (focus (walk_at "num"; done)); (focus (walk_at "num"; done)))
  | ((with_reducible apply d_iRng2); (focus (walk_at "num"; done)); (focus (walk_at "num"; done)); (focus (walk_at "num"; done)); (focus (walk_at "num"; done)))
  | ((with_reducible apply d_iZip); (focus (walk_at "sq"; done)); (focus (walk_at "sq"; done)))
  | ((with_reducible apply d_iEnum); (focus (walk_at "sq"; done)))
  | walk_at "w2")
local macro_rules | `(tactic| walk_at "w2") => `(tactic| fail)
local macro_rules | `(tactic| walk_at "wn") => `(tactic| repeat walk_at "w1")
local macro_rules | `(tactic| walk_at "w") => `(tactic| repeat (first | walk_at "w1" | with_reducible apply w_ret))
local macro_rules | `(tactic| walk_at "w2") => `(tactic| first
  | ((with_reducible apply w_isInt); (focus (walk_at "r"; done)))
  | ((with_reducible apply w_isBool); (focus (walk_at "r"; done)))
  | ((with_reducible apply w_isStr); (focus (walk_at "r"; done)))
  | ((with_reducible apply w_isTup); (focus (walk_at "r"; done)))
  | ((with_reducible apply w_isLst); (focus (walk_at "r"; done)))
  | ((with_reducible apply w_notInP); (focus (assumption)))
  | ((with_reducible apply w_ixP); (focus (assumption)); (focus (assumption))))
section
theorem gd_name {x : Str} (h : nameS x = true) : gd (.str x) ∧ shL (.str x) ≤ 82 :=
  ⟨⟨Nat.le_trans (nameS_iff.mp h).2.1 (by decide), k1_low h⟩, by have := (nameS_iff.mp h).2.1; show 10 * x.length + 2 ≤ 82; omega⟩
theorem gd_int {i : Int} (h : -(10 : Int) ^ 20 ≤ i) (h2 : i ≤ (10 : Int) ^ 20) : gd (.int i) := by
  show i.natAbs < 10 ^ 21
  have e : (10 : Int) ^ 20 = 100000000000000000000 := by decide
  have e2 : (10 : Nat) ^ 21 = 1000000000000000000000 := by decide
  rw [e] at h h2
  rw [e2]
  omega
theorem gd_t2 {x y : PyData} (hx : gd x) (hy : gd y) : gd (.tuple [x, y]) := gd_tup.mpr ⟨by show 2 ≤ 200; omega, fun d hd => by
  simp only [List.mem_cons, List.not_mem_nil, or_false] at hd
  rcases hd with rfl | rfl <;> assumption⟩
theorem gd_t3 {x y z : PyData} (hx : gd x) (hy : gd y) (hz : gd z) : gd (.tuple [x, y, z]) := gd_tup.mpr ⟨by show 3 ≤ 200; omega, fun d hd => by
  simp only [List.mem_cons, List.not_mem_nil, or_false] at hd
  rcases hd with rfl | rfl | rfl <;> assumption⟩
theorem sh_t2 (x y : PyData) : shL (.tuple [x, y]) = shL x + shL y + 7 := by show shL x + 2 + (shL y + 2 + 0) + 3 = _; omega
theorem sh_t3 (x y z : PyData) : shL (.tuple [x, y, z]) = shL x + shL y + shL z + 9 := by show shL x + 2 + (shL y + 2 + (shL z + 2 + 0)) + 3 = _; omega
theorem sh_w1 : shL (.str "cell") = 42 := by decide +kernel
theorem sh_w2 : shL (.str "add") = 32 := by decide +kernel
theorem sh_w3 : shL (.str "less") = 42 := by decide +kernel
theorem sh_w4 : shL (.str "least") = 52 := by decide +kernel
theorem sh_w5 : shL (.str "give") = 42 := by decide +kernel
theorem sh_w6 : shL (.str "fork") = 42 := by decide +kernel
theorem sh_w7 : shL (.str "call") = 42 := by decide +kernel
theorem sh_w8 : shL (.str "skip") = 42 := by decide +kernel
theorem Ex.gd04 : ∀ e : Ex, e.numsIn (10 ^ 20) → gd e.data
  | .num i, h => gd_int h.1 h.2
  | .arg, _ => gdB_ok (by decide +kernel)
  | .cell a, h => gd_t2 (gdB_ok (by decide +kernel)) (Ex.gd04 a h)
  | .add a b, h => gd_t3 (gdB_ok (by decide +kernel)) (Ex.gd04 a h.1) (Ex.gd04 b h.2)
  | .less a b, h => gd_t3 (gdB_ok (by decide +kernel)) (Ex.gd04 a h.1) (Ex.gd04 b h.2)
  | .least a b, h => gd_t3 (gdB_ok (by decide +kernel)) (Ex.gd04 a h.1) (Ex.gd04 b h.2)
theorem Ex.sh04 : ∀ (n : Nat) (e : Ex), e.deep ≤ n → shL e.data + 61 ≤ 49 * 2 ^ n
  | 0, e, h => by have := e.deep_pos; omega
  | n + 1, .num i, h => by
    show 22 + 61 ≤ 49 * 2 ^ (n + 1)
    have := Nat.one_le_two_pow (n := n)
    rw [Nat.pow_succ]; omega
  | n + 1, .arg, h => by
    have e : shL (Ex.data .arg) = 37 := by decide +kernel
    rw [e]
    have := Nat.one_le_two_pow (n := n)
    rw [Nat.pow_succ]; omega
  | n + 1, .cell a, h => by
    have := Ex.sh04 n a (by have : a.deep + 1 ≤ n + 1 := h; omega)
    show shL (.tuple [.str "cell", a.data]) + 61 ≤ _
    rw [sh_t2, sh_w1, Nat.pow_succ]
    omega
  | n + 1, .add a b, h => by
    have h : max a.deep b.deep + 1 ≤ n + 1 := h
    have h1 := Ex.sh04 n a (by omega)
    have h2 := Ex.sh04 n b (by omega)
    show shL (.tuple [.str "add", a.data, b.data]) + 61 ≤ _
    rw [sh_t3, sh_w2, Nat.pow_succ]
    omega
  | n + 1, .less a b, h => by
    have h : max a.deep b.deep + 1 ≤ n + 1 := h
    have h1 := Ex.sh04 n a (by omega)
    have h2 := Ex.sh04 n b (by omega)
    show shL (.tuple [.str "less", a.data, b.data]) + 61 ≤ _
    rw [sh_t3, sh_w3, Nat.pow_succ]
    omega
  | n + 1, .least a b, h => by
    have h : max a.deep b.deep + 1 ≤ n + 1 := h
    have h1 := Ex.sh04 n a (by omega)
    have h2 := Ex.sh04 n b (by omega)
    show shL (.tuple [.str "least", a.data, b.data]) + 61 ≤ _
    rw [sh_t3, sh_w4, Nat.pow_succ]
    omega
theorem Ex.sh5 {e : Ex} (h : e.deep ≤ 5) : shL e.data ≤ 1600 := by have := Ex.sh04 5 e h; omega
theorem Stp.gd04 {ns : List Str} {bh : Int} {s : Stp} (ok : s.ok ns bh) (nu : s.numsIn (10 ^ 20)) : gd s.data ∧ shL s.data ≤ 3400 := by
  cases s with
  | cell a b =>
    have h1 := Ex.sh5 ok.1
    have h2 := Ex.sh5 ok.2
    exact ⟨gd_t3 (gdB_ok (by decide +kernel)) (Ex.gd04 a nu.1) (Ex.gd04 b nu.2), by show shL (.tuple [.str "cell", a.data, b.data]) ≤ _; rw [sh_t3, sh_w1]; omega⟩
  | give x a =>
    have h1 := Ex.sh5 ok.2
    obtain ⟨n1, n2⟩ := gd_name ok.1
    exact ⟨gd_t3 (gdB_ok (by decide +kernel)) n1 (Ex.gd04 a nu), by show shL (.tuple [.str "give", .str x, a.data]) ≤ _; rw [sh_t3, sh_w5]; omega⟩
  | fork x a =>
    have h1 := Ex.sh5 ok.2.2
    obtain ⟨n1, n2⟩ := gd_name ok.1
    exact ⟨gd_t3 (gdB_ok (by decide +kernel)) n1 (Ex.gd04 a nu), by show shL (.tuple [.str "fork", .str x, a.data]) ≤ _; rw [sh_t3, sh_w6]; omega⟩
  | call x a =>
    have h1 := Ex.sh5 ok.2.2
    obtain ⟨n1, n2⟩ := gd_name ok.1
    exact ⟨gd_t3 (gdB_ok (by decide +kernel)) n1 (Ex.gd04 a nu), by show shL (.tuple [.str "call", .str x, a.data]) ≤ _; rw [sh_t3, sh_w7]; omega⟩
  | wait => exact ⟨gdB_ok (by decide +kernel), by decide +kernel⟩
  | skip a k =>
    have h1 := Ex.sh5 ok.1
    have h2 : 1 ≤ k := ok.2.1
    have h3 : k ≤ 100 := nu.2
    refine ⟨gd_t3 (gdB_ok (by decide +kernel)) (Ex.gd04 a nu.1) (show k.natAbs < 10 ^ 21 from ?_), by show shL (.tuple [.str "skip", a.data, .int k]) ≤ _; rw [sh_t3, sh_w8]; show 42 + shL a.data + 22 + 9 ≤ 3400; omega⟩
    exact Nat.lt_of_le_of_lt (show k.natAbs ≤ 100 by omega) (by decide)
theorem shLs_sum {n : Nat} : ∀ {ds : List PyData}, (∀ d ∈ ds, shL d + 2 ≤ n) → shLs ds ≤ ds.length * n
  | [], _ => Nat.zero_le _
  | d :: ds, h => by
    have h1 := h d (by simp)
    have h2 := shLs_sum fun e he => h e (List.mem_cons_of_mem d he)
    show shL d + 2 + shLs ds ≤ (ds.length + 1) * n
    rw [Nat.add_mul, Nat.one_mul]
    omega
theorem prg_gd {p : Prg} (ok : PrgOk p) (lp : p.length ≤ 12) (nums : ∀ r ∈ p, r.2.length ≤ 12 ∧ ∀ s ∈ r.2, s.numsIn (10 ^ 20)) : gd (prgD p) ∧ shL (prgD p) ≤ 1000000 := by
  have row : ∀ r ∈ p, gd (rowD r) ∧ shL (rowD r) ≤ 42000 := fun r hr => by
    obtain ⟨n1, n2⟩ := gd_name (ok.names r hr)
    obtain ⟨l12, nu⟩ := nums r hr
    have st : ∀ s ∈ r.2, gd s.data ∧ shL s.data ≤ 3400 := fun s hs => by
      obtain ⟨bh, hb⟩ := stepsOk_mem (ok.steps r hr) s hs
      exact Stp.gd04 hb (nu s hs)
    have z := shLs_sum (n := 3402) (ds := r.2.map Stp.data) fun d hd => by
      obtain ⟨s, hs, rfl⟩ := List.mem_map.mp hd
      have := (st s hs).2
      omega
    rw [List.length_map] at z
    have z2 : r.2.length * 3402 ≤ 12 * 3402 := Nat.mul_le_mul_right _ l12
    refine ⟨gd_t2 n1 (gd_list.mpr ⟨by rw [List.length_map]; omega, fun d hd => ?_⟩), ?_⟩
    · obtain ⟨s, hs, rfl⟩ := List.mem_map.mp hd
      exact (st s hs).1
    · show shL (.tuple [.str r.1, .list (r.2.map Stp.data)]) ≤ _
      rw [sh_t2]
      show shL (.str r.1) + (shLs (r.2.map Stp.data) + 3) + 7 ≤ 42000
      omega
  have z := shLs_sum (n := 42002) (ds := p.map rowD) fun d hd => by
    obtain ⟨r, hr, rfl⟩ := List.mem_map.mp hd
    have := (row r hr).2
    omega
  rw [List.length_map] at z
  have z2 : p.length * 42002 ≤ 12 * 42002 := Nat.mul_le_mul_right _ lp
  refine ⟨gd_list.mpr ⟨by rw [List.length_map]; omega, fun d hd => ?_⟩, by show shLs (p.map rowD) + 3 ≤ 1000000; omega⟩
  obtain ⟨r, hr, rfl⟩ := List.mem_map.mp hd
  exact (row r hr).1
theorem mem_strips : ∀ {ds : List PyData} {d : PyData}, d ∈ strips ds → ∃ e ∈ ds, d = strip e
  | e :: ds, d, h => by
    rcases List.mem_cons.mp (show d ∈ strip e :: strips ds from h) with rfl | h
    · exact ⟨e, by simp, rfl⟩
    · obtain ⟨x, hx, hy⟩ := mem_strips h
      exact ⟨x, List.mem_cons_of_mem _ hx, hy⟩
theorem rs_le {e : PyData} (g : gd e) : (rowSteps (strip e)).length ≤ 200 := by
  cases e with
  | tuple ds =>
    cases ds with
    | nil => exact Nat.zero_le _
    | cons x r =>
      cases r with
      | nil => exact Nat.zero_le _
      | cons y t =>
        cases t with
        | cons z u => cases y <;> exact Nat.zero_le _
        | nil =>
          cases y with
          | list es =>
            show (strips es).length ≤ 200
            rw [strips_len]
            exact (gd_list.mp ((gd_tup.mp g).2 (.list es) (by simp))).1
          | _ => exact Nat.zero_le _
  | _ => exact Nat.zero_le _
theorem gd_lenRows {d : PyData} (g : gd d) : lenRows (strip d) = true := by
  cases d with
  | list ds =>
    refine List.all_eq_true.mpr fun r hr => ?_
    obtain ⟨e, he, rfl⟩ := mem_strips hr
    exact decide_eq_true (Nat.le_trans (rs_le ((gd_list.mp g).2 e he)) (by decide))
  | _ => rfl
def sB : Nat → Nat
  | 0 => 1000000
  | n + 1 => 3 * sB n + 2000
structure Tk (b : Addr) (H : Hp) (i : Nat) (v : V) (d : PyData) : Prop where
  r : RX (Nb b) H v d
  g : gd d
  dp : d.depth ≤ 10 + i
  sh : shL d ≤ sB i
  ln : ∀ es, d = .list es → es.length ≤ 12 + i
theorem Tk.same {b : Addr} {H H' : Hp} {i : Nat} {v : V} {d : PyData} (t : Tk b H i v d) (c : Chg [] H H') : Tk b H' i v d := ⟨t.r.same c, t.g, t.dp, t.sh, t.ln⟩
theorem Tk.next {b : Addr} {H : Hp} {i : Nat} {v : V} {d : PyData} (t : Tk b H i v d) : Tk b H (i + 1) v d :=
  ⟨t.r, t.g, by have := t.dp; omega, by have := t.sh; show _ ≤ 3 * sB i + 2000; omega, fun es h => by have := t.ln es h; omega⟩
def sp_law (K : PySem.W.Frag) : Sp := fun vs H Q _ => ∃ (a : Addr) (ns : List Int), vs = [.ref a] ∧ SqL K H a (ns.map V.int) ∧ ns.length ≤ 63 ∧ ∀ H', Q (.bl true) H'
def t_law (K : PySem.W.Frag) : TS :=
    tSeq (tFor (iRng1 (tCons (tCB cMax (tCons (tC (.int 1)) (tCons (tCB cMin (tCons (tC (.int 12)) (tCons (tCB (cLenQ K) (tCons (tVar 0) (tNil))) (tNil)))) (tNil)))) (tNil))) (gName 1) (tSeq (tAsg (tCall sp__law_bag [] E0 (tCons (tCall (sp__law_cell_at K) [] E0 (tCons (tVar 0) (tCons (tVar 1) (tNil)))) (tCons (tVar 1) (tNil)))) (gName 2))
    (tSeq (tAsg (tOp (rIxL K) (tLst (tCons (tC (.int 0)) (tCons (tC (.int 1)) (tCons (tC (.int 1)) (tCons (tC (.int 2)) (tCons (tC (.int 2)) (tNil))))))) (tCall sp__law_draw [] E0 (tCons (tVar 2) (tCons (tC (.int 5)) (tNil))))) (gName 3))
    (tSeq (tAsg (tCall (sp__law_program) [] E0 (tCons (tVar 2) (tNil))) (gName 4))
    (tSeq (tFor (iRng1 (tCons (tVar 3) (tNil))) (gName 5) (tIfS (tB (tCB (rIsi K) (tCons (tVar 4) (tCons (tC (.ty "list")) (tNil))))) (tAsg (tCall (sp__law_turned04 K) [] E0 (tCons (tVar 2) (tCons (tVar 4) (tNil)))) (gName 4)) (tNext)))
    (tSeq (tAsg (tCB rStrX (tCons (tVar 4) (tNil))) (gName 6))
    (tIfS (tOr (tNot (tB (tCall sp__law_alike [] E0 (tCons (tVar 4) (tNil))))) (tTest (tOp rNe (tCB rStrX (tCons (tVar 4) (tNil))) (tVar 6)))) (tRet (tC (.bl false))) (tNext))))))))
    (tRet (tC (.bl true)))
theorem pure_law {K : PySem.W.Frag} (vs : List V) (H : Hp) (Q : VK) (E : XK) (h : sp_law K vs H Q E) : t_law K (fin Q) (start ["script", "k", "bag", "turns", "thing", "turn", "before"] vs) H := by
  obtain ⟨a, ns, rfl, hS, hlen, q⟩ := h
  show t_law K _ [some (.ref a), none, none, none, none, none, none] H
  unfold t_law
  walk_at "w"
  rw [List.length_map]
  generalize em : (if (if (ns.length : Int) < 12 then (ns.length : Int) else 12) > 1 then (if (ns.length : Int) < 12 then (ns.length : Int) else 12) else 1) = m
  have hm : 1 ≤ m ∧ m ≤ 12 := by
    rw [← em]
    split <;> split <;> omega
  walk_at "w"
  refine for_it walk_range (fun i σ H1 => Chg [] H H1 ∧ ∃ z1 z2 z3 z4 z5 z6, σ = [some (.ref a), z1, z2, z3, z4, z5, z6]) ⟨.refl, _, _, _, _, _, _, rfl⟩ (fun _ _ _ _ _ => trivial) (fun i x σ H1 H2 hi p y => ?_) (fun σ H1 p => ?_)
  · obtain ⟨c1, z1, z2, z3, z4, z5, z6, rfl⟩ := p
    obtain ⟨rfl, rfl⟩ := y
    walk_at "w"
    refine ⟨a, ns, 0 + (i : Nat), rfl, c1.seq hS, by omega, fun c => ?_⟩
    walk_at "w"
    refine ⟨c, 0 + (i : Nat), rfl, by omega, by omega, fun b H3 nb c3 bag => ?_⟩
    walk_at "w"
    refine k_lst (by walk_at "sz") fun p4 H4 np4 c4 hp4 => ?_
    walk_at "w"
    refine u_draw (bag.same c4) (by decide) (by decide) (by decide) fun w5 H5 c5 bag5 w0 w1 => ?_
    have nb4 : p4 ≠ b := fun z => bag.some (by rw [← z]; exact np4)
    obtain ⟨tv, etv, htv⟩ := atD (xs := [V.int 0, V.int 1, V.int 1, V.int 2, V.int 2]) w0 (by simpa using w1)
    obtain ⟨tu, rfl, t0, t2⟩ : ∃ tu : Int, tv = .int tu ∧ 0 ≤ tu ∧ tu ≤ 2 := by
      simp only [List.mem_cons, List.not_mem_nil, or_false] at htv
      rcases htv with rfl | rfl | rfl | rfl | rfl <;> exact ⟨_, rfl, by decide, by decide⟩
    refine w_ixL (sqL (c5.at1 hp4 nb4)) etv ?_
    have nb0 : H b = none := c1.dom b nb
    walk_at "w"
    refine ⟨b, 10 ^ 12 - 1, rfl, bag5, by decide, fun v p H6 c6 bag6 ok lp nums r => ?_⟩
    have b5 := bag5.some
    obtain ⟨g6, s6⟩ := prg_gd ok lp nums
    have r6 : RX (Nb b) H6 v (prgD p) := RX.of (r.mono fun l h z => b5 (by rw [← z]; exact h)) (prg_noDic p)
    have t6 : Tk b H6 0 v (prgD p) := ⟨r6, g6, prg_depth ok, s6, fun es h => by cases h; rw [List.length_map]; omega⟩
    have c16 : Chg [] H H6 := ((c1.same c3).same c4).one (c5.both c6) nb0
    walk_at "w"
    refine for_it walk_range (fun j σ H7 => ∃ v7 d7 z5, Chg [] H H7 ∧ Bag H7 b (10 ^ 11 - j * 10000) ∧ Tk b H7 j v7 d7 ∧ σ = [some (.ref a), some (.int (0 + (i : Nat))), some (.ref b), some (.int tu), some v7, z5, z6]) ⟨v, prgD p, _, c16, bag6.le (by decide), t6, rfl⟩ (fun _ _ _ _ _ => trivial) (fun j x σ H7 H8 hj p7 y => ?_) (fun σ H7 p7 => ?_)
    · obtain ⟨v7, d7, z7, c7, bag7, t7, rfl⟩ := p7
      obtain ⟨rfl, rfl⟩ := y
      have tn := t7.next
      have j2 : j ≤ 1 := by omega
      walk_at "w"
      refine w_isLst t7.r.r ?_
      have same : ∀ {z}, ∃ v8 d8 z5, Chg [] H H8 ∧ Bag H8 b (10 ^ 11 - (j + 1) * 10000) ∧ Tk b H8 (j + 1) v8 d8 ∧ [some (.ref a), some (.int (0 + (i : Nat))), some (.ref b), some (.int tu), some v7, z, z6] = [some (.ref a), some (.int (0 + (i : Nat))), some (.ref b), some (.int tu), some v8, z5, z6] := fun {z} => ⟨v7, d7, z, c7, bag7.le (by omega), tn, rfl⟩
      obtain ⟨r, g, dp, sh, ln⟩ := t7
      cases r with
      | non => walk_at "w"; exact same
      | bl _ => walk_at "w"; exact same
      | int _ => walk_at "w"; exact same
      | str _ => walk_at "w"; exact same
      | tup _ _ => walk_at "w"; exact same
      | d0 _ _ => walk_at "w"; exact same
      | d1 _ _ => walk_at "w"; exact same
      | @lst l xs ds s e ra =>
      walk_at "w"
      refine ⟨b, l, ds, 8 + j, 12 + j, 10 ^ 11 - j * 10000, rfl, bag7, by omega, .lst s e ra, (gd_list.mp g).2, depth_all (by have : PyData.depthAll ds + 1 ≤ 10 + j := dp; omega), by omega, ln ds rfl, by omega, by omega, fun v9 d9 H9 c9 bag9 r9 g9 dp9 sh9 ln9 => ?_⟩
      have sh' : shLs ds + 3 ≤ sB j := sh
      walk_at "w"
      exact ⟨v9, d9, _, c7.one c9 nb0, bag9.le (by omega), ⟨r9, g9, by omega, by show _ ≤ 3 * sB j + 2000; omega, fun es h => by have := ln9 es h; omega⟩, rfl⟩
    · obtain ⟨v7, d7, z7, c7, bag7, t7, rfl⟩ := p7
      have sb : sB tu.toNat ≤ 9008000 := by
        have : tu.toNat = 0 ∨ tu.toNat = 1 ∨ tu.toNat = 2 := by omega
        rcases this with e | e | e <;> (rw [e]; decide)
      have sz : shL d7 ≤ sizeLine := Nat.le_trans t7.sh (Nat.le_trans sb (by decide))
      have d50 : d7.depth ≤ 50 := by have := t7.dp; omega
      walk_at "w"
      refine w_strX t7.r t7.g d50 sz ?_
      walk_at "w"
      refine ⟨v7, strip d7, Nb b, rfl, t7.r.r, gd_small t7.g, gd_lenOk t7.g, gd_lenRows t7.g, fun H9 c9 => ?_⟩
      walk_at "w"
      refine w_strX (t7.r.same c9) t7.g d50 sz ?_
      walk_at "w"
      refine w_iteD (fun _ => ?_) (fun h => absurd rfl h)
      walk_at "w"
      exact ⟨c7.same c9, _, _, _, _, _, _, rfl⟩
  · obtain ⟨c1, z1, z2, z3, z4, z5, z6, rfl⟩ := p
    walk_at "w"
    exact q H1
end
end Fg
namespace Fg
open PySem PySem.Spec PyProof.Rows L2
local macro_rules | `(tactic| walk_at "len") => `(tactic| first | exact (fun ⟨e, _⟩ => by rw [e]; rfl) | (refine exL ?_; intro _; walk_at "len"))
theorem sc_is_whole : FnScope ["thing"] ["thing"] (defScope s_is_whole) := ⟨rfl, rfl, rfl, by decide +kernel, rfl, by decide +kernel, by decide +kernel⟩
theorem sc_is_name : FnScope ["thing", "sign"] ["thing"] (defScope s_is_name) := ⟨rfl, rfl, rfl, by decide +kernel, rfl, by decide +kernel, by decide +kernel⟩
theorem sc_is_expression : FnScope ["thing", "most", "one"] ["thing", "most"] (defScope s_is_expression) := ⟨rfl, rfl, rfl, by decide +kernel, rfl, by decide +kernel, by decide +kernel⟩
theorem sc_is_step : FnScope ["thing", "names", "behind", "word"] ["thing", "names", "behind"] (defScope s_is_step) := ⟨rfl, rfl, rfl, by decide +kernel, rfl, by decide +kernel, by decide +kernel⟩
theorem sc_has_form : FnScope ["thing", "row", "names", "name", "steps", "one", "other"] ["thing"] (defScope s_has_form) := ⟨rfl, rfl, rfl, by decide +kernel, rfl, by decide +kernel, by decide +kernel⟩
theorem sc_first_wrong : FnScope ["program", "names", "name", "steps", "at", "step"] ["program"] (defScope s_first_wrong) := ⟨rfl, rfl, rfl, by decide +kernel, rfl, by decide +kernel, by decide +kernel⟩
theorem sc_is_program : FnScope ["thing"] ["thing"] (defScope s_is_program) := ⟨rfl, rfl, rfl, by decide +kernel, rfl, by decide +kernel, by decide +kernel⟩
theorem sc_check : FnScope ["program", "wrong"] ["program"] (defScope s_check) := ⟨rfl, rfl, rfl, by decide +kernel, rfl, by decide +kernel, by decide +kernel⟩
theorem sc__law_cell_at : FnScope ["script", "k"] ["script", "k"] (defScope s__law_cell_at) := ⟨rfl, rfl, rfl, by decide +kernel, rfl, by decide +kernel, by decide +kernel⟩
theorem sc__law_bag : FnScope ["cell", "place"] ["cell", "place"] (defScope s__law_bag) := ⟨rfl, rfl, rfl, by decide +kernel, rfl, by decide +kernel, by decide +kernel⟩
theorem sc__law_draw : FnScope ["bag", "many", "found", "mixed"] ["bag", "many"] (defScope s__law_draw) := ⟨rfl, rfl, rfl, by decide +kernel, rfl, by decide +kernel, by decide +kernel⟩
theorem sc__law_name : FnScope ["bag", "last", "letters", "pick", "letter", "words", "at", "k"] ["bag", "last"] (defScope s__law_name) := ⟨rfl, rfl, rfl, by decide +kernel, rfl, by decide +kernel, by decide +kernel⟩
theorem sc__law_names : FnScope ["bag", "many", "found", "name", "k"] ["bag", "many"] (defScope s__law_names) := ⟨rfl, rfl, rfl, by decide +kernel, rfl, by decide +kernel, by decide +kernel⟩
theorem sc__law_number : FnScope ["bag", "pick", "number"] ["bag"] (defScope s__law_number) := ⟨rfl, rfl, rfl, by decide +kernel, rfl, by decide +kernel, by decide +kernel⟩
theorem sc__law_expression : FnScope ["bag", "most", "pick", "word", "one"] ["bag", "most"] (defScope s__law_expression) := ⟨rfl, rfl, rfl, by decide +kernel, rfl, by decide +kernel, by decide +kernel⟩
theorem sc__law_step : FnScope ["bag", "names", "behind", "deep", "word", "one"] ["bag", "names", "behind", "deep"] (defScope s__law_step) := ⟨rfl, rfl, rfl, by decide +kernel, rfl, by decide +kernel, by decide +kernel⟩
theorem sc__law_program : FnScope ["bag", "great", "names", "found", "name", "many", "deep", "k"] ["bag"] (defScope s__law_program) := ⟨rfl, rfl, rfl, by decide +kernel, rfl, by decide +kernel, by decide +kernel⟩
theorem sc__law_odd : FnScope ["bag", "some"] ["bag"] (defScope s__law_odd) := ⟨rfl, rfl, rfl, by decide +kernel, rfl, by decide +kernel, by decide +kernel⟩
theorem sc__law_is_name : FnScope ["thing", "sign"] ["thing"] (defScope s__law_is_name) := ⟨rfl, rfl, rfl, by decide +kernel, rfl, by decide +kernel, by decide +kernel⟩
theorem sc__law_is_whole : FnScope ["thing"] ["thing"] (defScope s__law_is_whole) := ⟨rfl, rfl, rfl, by decide +kernel, rfl, by decide +kernel, by decide +kernel⟩
theorem sc__law_is_expression : FnScope ["thing", "most", "parts", "one"] ["thing", "most"] (defScope s__law_is_expression) := ⟨rfl, rfl, rfl, by decide +kernel, rfl, by decide +kernel, by decide +kernel⟩
theorem sc__law_is_step : FnScope ["thing", "names", "behind", "word", "one", "other"] ["thing", "names", "behind"] (defScope s__law_is_step) := ⟨rfl, rfl, rfl, by decide +kernel, rfl, by decide +kernel, by decide +kernel⟩
theorem sc__law_wrong : FnScope ["program", "ahead", "row", "names", "name", "steps", "k"] ["program"] (defScope s__law_wrong) := ⟨rfl, rfl, rfl, by decide +kernel, rfl, by decide +kernel, by decide +kernel⟩
theorem sc__law_told : FnScope ["program", "caught", "fields", "e"] ["program"] (defScope s__law_told) := ⟨rfl, rfl, rfl, by decide +kernel, rfl, by decide +kernel, by decide +kernel⟩
theorem sc__law_alike : FnScope ["program", "due", "found"] ["program"] (defScope s__law_alike) := ⟨rfl, rfl, rfl, by decide +kernel, rfl, by decide +kernel, by decide +kernel⟩
theorem sc__law_no_name : FnScope ["bag", "name", "signs", "sign", "at"] ["bag"] (defScope s__law_no_name) := ⟨rfl, rfl, rfl, by decide +kernel, rfl, by decide +kernel, by decide +kernel⟩
theorem sc__law_row_turned : FnScope ["bag", "row", "pick"] ["bag", "row"] (defScope s__law_row_turned) := ⟨rfl, rfl, rfl, by decide +kernel, rfl, by decide +kernel, by decide +kernel⟩
theorem sc__law_turned : FnScope ["bag", "program", "pick", "at", "other", "changed"] ["bag", "program"] (defScope s__law_turned) := ⟨rfl, rfl, rfl, by decide +kernel, rfl, by decide +kernel, by decide +kernel⟩
theorem sc_law : FnScope ["script", "k", "bag", "turns", "thing", "turn", "before"] ["script"] (defScope s_law) := ⟨rfl, rfl, rfl, by decide +kernel, rfl, by decide +kernel, by decide +kernel⟩
structure Gm (w : World) (K : PySem.W.Frag) (mg : Str → Option Value) (dP : Addr) (es : Array DictEntry) (nn : Nat) : Prop where
  ValueError : mg "ValueError" = none
  all : mg "all" = none
  range : mg "range" = none
  list : mg "list" = none
  sorted : mg "sorted" = none
  isinstance : mg "isinstance" = none
  int : mg "int" = none
  len : mg "len" = none
  enumerate : mg "enumerate" = none
  max : mg "max" = none
  str : mg "str" = none
  bool : mg "bool" = none
  tuple : mg "tuple" = none
  min : mg "min" = none
  zip : mg "zip" = none
  LETTERS : ∃ u, mg "LETTERS" = some u ∧ RelV (.str letters) u
  LONGEST_NAME : ∃ u, mg "LONGEST_NAME" = some u ∧ RelV (.int 8) u
  PARTS : ∃ u, mg "PARTS" = some u ∧ RelV (.ref dP) u
  WorkError : mg "WorkError" = some (.ref (He.ga K "WorkError"))
  NoProgram : mg "NoProgram" = some (.ref (He.ga K "NoProgram"))
  NoHelper : mg "NoHelper" = some (.ref (He.ga K "NoHelper"))
  TooLong : mg "TooLong" = some (.ref (He.ga K "TooLong"))
  NoMark : mg "NoMark" = some (.ref (He.ga K "NoMark"))
  NoHand : mg "NoHand" = some (.ref (He.ga K "NoHand"))
  NotOver : mg "NotOver" = some (.ref (He.ga K "NotOver"))
  NoText : mg "NoText" = some (.ref (He.ga K "NoText"))
  dP : KDict K w dP es nn
  SM : SmK K
section
variable {P : Program} {w : World} {K : PySem.W.Frag} {mg : Str → Option Value} {base : Heap} {dP : Addr} {es : Array DictEntry} {nn : Nat} {f : Addr} {fd : FuncData}
theorem ok_is_whole (F : FnP K "is_whole" s_is_whole [] f fd) (G : Gm w K mg dP es nn)  : FnOk P w K mg base CX0 1 f fd ["thing"] sp_is_whole :=
  FnP.go (k := 0) F sc_is_whole (fun vs H Q E => by first | (unfold sp_is_whole; walk_at "len") | walk_at "len") (t_is_whole K) (fun vs H Q E h => pure_is_whole (K := K) vs H Q E h) fun cdv A outer s H E hr =>
    (pss_one (ps_ret (pe_and (pe_callB call_isi (by rfl) G.isinstance (by decide +kernel) (pa_cons (pv 0) (pa_cons (pe_bltn (v := .ty "int") (by rfl) G.int (by decide +kernel) rfl) pa_nil))) (pe_one (pe_not (pe_callB call_isi (by rfl) G.isinstance (by decide +kernel) (pa_cons (pv 0) (pa_cons (pe_bltn (v := .ty "bool") (by rfl) G.bool (by decide +kernel) rfl) pa_nil))))))))
theorem ok_is_name (F : FnP K "is_name" s_is_name [] f fd) (G : Gm w K mg dP es nn)  : FnOk P w K mg base CX0 1 f fd ["thing"] sp_is_name :=
  FnP.go (k := 0) F sc_is_name (fun vs H Q E => by first | (unfold sp_is_name; walk_at "len") | walk_at "len") (t_is_name K) (fun vs H Q E h => pure_is_name (K := K) vs H Q E h) fun cdv A outer s H E hr =>
    (pss_cons (ps_if (PW.pt (pw_or (pt_not (pt_val (pe_callB call_isi (by rfl) G.isinstance (by decide +kernel) (pa_cons (pv 0) (pa_cons (pe_bltn (v := .ty "str") (by rfl) G.str (by decide +kernel) rfl) pa_nil))))) (pw_or (pt_cmpR p_lt (pe_callB p_lenS (by rfl) G.len (by decide +kernel) (pa_cons (pv 0) pa_nil)) pe_int (nomark _)) (pw_or1 (pt_cmpR p_gt (pe_callB p_lenS (by rfl) G.len (by decide +kernel) (pa_cons (pv 0) pa_nil)) (pe_gc (by rfl) G.LONGEST_NAME) (nomark _)))))) (pss_one (ps_ret pe_bl)) pss_nil)
      (pss_one (ps_ret (pe_callB (cr_all rfl) (by rfl) G.all (by decide +kernel) (pa_cons (pe_lc (own := [("sign", 1)]) (g := gName 1) (tt := tYes) (by rfl) sc_is_name.nd (pi_str (pv 0)) (blkOk_by (own := [("sign", 1)]) (N := ["thing", "sign"]) (sc := defScope s_is_name) (by decide +kernel)) (fun _ _ _ _ _ => (pg_name (i := 1) sc_is_name.nd rfl (by first | exact Or.inl rfl | exact Or.inr rfl))) (fun _ _ _ _ _ => pts_nil) (fun _ _ _ _ _ => (pe_cmpR p_inC (pv 1) (pe_gc (by rfl) G.LETTERS) (by rfl)))) pa_nil)))))
theorem ok_is_expression (F : FnP K "is_expression" s_is_expression [.int 5] f fd) (G : Gm w K mg dP es nn) (T : Parts K w dP) (g : mg "is_expression" = some (.ref f)) (c_is_whole : Cal P w K mg base 1 "is_whole" sp_is_whole []) : ∀ n : Nat, FnOk P w K mg base CX0 (n + 2) f fd ["thing", "most"] ((sp_is_expression n))
  | 0 => ⟨fun vs H Q E h => absurd h (no_is_expression vs H Q E), fun A outer s H args us vs Q E _ _ _ _ h => absurd h (no_is_expression vs H Q E)⟩
  | n + 1 => by
    have ih := ok_is_expression F G T g c_is_whole n
    have c_is_expression : Cal P w K mg base (n + 2) "is_expression" ((sp_is_expression n)) [] := FnP.cald 2 1 F ih g (by simp) rfl fun _ _ _ _ _ _ _ us its h1 h2 => match us, its, h1, h2 with | [_, _], [_], _, _ => ⟨_, rfl, rfl⟩
    exact FnP.go (k := n + 2) F sc_is_expression (fun vs H Q E => by first | (unfold sp_is_expression; walk_at "len") | walk_at "len") (t_is_expression K w dP n) (fun vs H Q E h => pure_is_expression (K := K) T n vs H Q E h) fun cdv A outer s H E hr =>
      (pss_cons (ps_if (pt_cmpR p_lt (pv 1) pe_int (nomark _)) (pss_one (ps_ret pe_bl)) pss_nil)
      (pss_cons (ps_if (pt_val (pe_c c_is_whole hr (by omega) (by rfl) (pa_cons (pv 0) pa_nil))) (pss_one (ps_ret pe_bl)) pss_nil)
      (pss_cons (ps_if (PW.pt (pw_or (pt_not (pt_val (pe_callB call_isi (by rfl) G.isinstance (by decide +kernel) (pa_cons (pv 0) (pa_cons (pe_bltn (v := .ty "tuple") (by rfl) G.tuple (by decide +kernel) rfl) pa_nil))))) (pw_or (pt_cmpR p_lt (pe_callB p_lenQ (by rfl) G.len (by decide +kernel) (pa_cons (pv 0) pa_nil)) pe_int (nomark _)) (pw_or1 (pt_not (pt_val (pe_callB call_isi (by rfl) G.isinstance (by decide +kernel) (pa_cons (pe_ix ix_tup (pv 0) pe_int (fun _ _ => rfl)) (pa_cons (pe_bltn (v := .ty "str") (by rfl) G.str (by decide +kernel) rfl) pa_nil))))))))) (pss_one (ps_ret pe_bl)) pss_nil)
      (pss_cons (ps_if (PW.pt (pw_or (pt_cmpR (op_notIn_kd G.dP) (pe_ix ix_tup (pv 0) pe_int (fun _ _ => rfl)) (pe_gc (by rfl) G.PARTS) (by rfl)) (pw_or1 (pt_cmpR op_ne (pe_callB p_lenQ (by rfl) G.len (by decide +kernel) (pa_cons (pv 0) pa_nil)) (pe_op p_add (pe_ix ix_kdict (pe_gc (by rfl) G.PARTS) (pe_ix ix_tup (pv 0) pe_int (fun _ _ => rfl)) (fun _ _ => rfl)) pe_int) (nomark _))))) (pss_one (ps_ret pe_bl)) pss_nil)
      (pss_one (ps_ret (pe_callB (cr_all rfl) (by rfl) G.all (by decide +kernel) (pa_cons (pe_lc (own := [("one", 2)]) (g := gName 2) (tt := tYes) (by rfl) sc_is_expression.nd (pi_tup (pe_slice sl_tupA (pv 0) (po_some pe_int) po_none)) (blkOk_by (own := [("one", 2)]) (N := ["thing", "most", "one"]) (sc := defScope s_is_expression) (by decide +kernel)) (fun _ _ _ _ _ => (pg_name (i := 2) sc_is_expression.nd rfl (by first | exact Or.inl rfl | exact Or.inr rfl))) (fun _ _ _ _ _ => pts_nil) (fun _ _ _ _ _ => (pe_c c_is_expression hr (by omega) (by rfl) (pa_cons (pv 2) (pa_cons (pe_op p_sub (pv 1) pe_int) pa_nil))))) pa_nil))))))))
theorem ok_is_step (F : FnP K "is_step" s_is_step [] f fd) (G : Gm w K mg dP es nn) (c_is_expression_d : Cal P w K mg base 8 "is_expression" (sp_is_expression 6) [.int 5]) (c_is_whole : Cal P w K mg base 1 "is_whole" sp_is_whole []) (c_is_name : Cal P w K mg base 1 "is_name" sp_is_name []) : FnOk P w K mg base CX0 9 f fd ["thing", "names", "behind"] (sp_is_step K) :=
  FnP.go (k := 8) F sc_is_step (fun vs H Q E => by first | (unfold sp_is_step; walk_at "len") | walk_at "len") (t_is_step K) (fun vs H Q E h => pure_is_step (K := K) vs H Q E h) fun cdv A outer s H E hr =>
    (pss_cons (ps_if (PW.pt (pw_or (pt_not (pt_val (pe_callB call_isi (by rfl) G.isinstance (by decide +kernel) (pa_cons (pv 0) (pa_cons (pe_bltn (v := .ty "tuple") (by rfl) G.tuple (by decide +kernel) rfl) pa_nil))))) (pw_or (pt_cmpR p_lt (pe_callB p_lenQ (by rfl) G.len (by decide +kernel) (pa_cons (pv 0) pa_nil)) pe_int (nomark _)) (pw_or1 (pt_not (pt_val (pe_callB call_isi (by rfl) G.isinstance (by decide +kernel) (pa_cons (pe_ix ix_tup (pv 0) pe_int (fun _ _ => rfl)) (pa_cons (pe_bltn (v := .ty "str") (by rfl) G.str (by decide +kernel) rfl) pa_nil))))))))) (pss_one (ps_ret pe_bl)) pss_nil)
      (pss_cons (ps_set (i := 3) sc_is_step.nd rfl (by first | exact Or.inl rfl | exact Or.inr rfl) (pe_ix ix_tup (pv 0) pe_int (fun _ _ => rfl)))
      (pss_cons (ps_if (pt_cmpR op_eq (pv 3) pe_str (nomark _)) (pss_one (ps_ret (pe_cmpR op_eq (pe_callB p_lenQ (by rfl) G.len (by decide +kernel) (pa_cons (pv 0) pa_nil)) pe_int (nomark _)))) pss_nil)
      (pss_cons (ps_if (pt_cmpR op_ne (pe_callB p_lenQ (by rfl) G.len (by decide +kernel) (pa_cons (pv 0) pa_nil)) pe_int (nomark _)) (pss_one (ps_ret pe_bl)) pss_nil)
      (pss_cons (ps_if (pt_cmpR op_eq (pv 3) pe_str (nomark _)) (pss_one (ps_ret (pe_and (pe_c c_is_expression_d hr (by omega) (by rfl) (pa_cons (pe_ix ix_tup (pv 0) pe_int (fun _ _ => rfl)) pa_nil)) (pe_one (pe_c c_is_expression_d hr (by omega) (by rfl) (pa_cons (pe_ix ix_tup (pv 0) pe_int (fun _ _ => rfl)) pa_nil)))))) pss_nil)
      (pss_cons (ps_if (pt_cmpR op_eq (pv 3) pe_str (nomark _)) (pss_one (ps_ret (pe_and (pe_c c_is_expression_d hr (by omega) (by rfl) (pa_cons (pe_ix ix_tup (pv 0) pe_int (fun _ _ => rfl)) pa_nil)) (pe_and (pe_c c_is_whole hr (by omega) (by rfl) (pa_cons (pe_ix ix_tup (pv 0) pe_int (fun _ _ => rfl)) pa_nil)) (pe_one (pe_chain p_le p_le pe_int (pe_ix ix_tup (pv 0) pe_int (fun _ _ => rfl)) (pv 2))))))) pss_nil)
      (pss_cons (ps_if (PW.pt (pw_or (pt_cmpR op_notIn_seq (pv 3) (pe_tup (pa_cons pe_str (pa_cons pe_str (pa_cons pe_str pa_nil)))) (by rfl)) (pw_or (pt_not (pt_val (pe_c c_is_name hr (by omega) (by rfl) (pa_cons (pe_ix ix_tup (pv 0) pe_int (fun _ _ => rfl)) pa_nil)))) (pw_or1 (pt_not (pt_val (pe_c c_is_expression_d hr (by omega) (by rfl) (pa_cons (pe_ix ix_tup (pv 0) pe_int (fun _ _ => rfl)) pa_nil)))))))) (pss_one (ps_ret pe_bl)) pss_nil)
      (pss_one (ps_ret (pe_or (pe_cmpR op_eq (pv 3) pe_str (nomark _)) (pe_one (pe_cmpR op_in_seq (pe_ix ix_tup (pv 0) pe_int (fun _ _ => rfl)) (pv 1) (by rfl)))))))))))))
theorem ok_has_form (F : FnP K "has_form" s_has_form [] f fd) (G : Gm w K mg dP es nn) (c_is_name : Cal P w K mg base 1 "is_name" sp_is_name []) : FnOk P w K mg base CX0 2 f fd ["thing"] sp_has_form :=
  FnP.go (k := 1) F sc_has_form (fun vs H Q E => by first | (unfold sp_has_form; walk_at "len") | walk_at "len") (t_has_form K) (fun vs H Q E h => pure_has_form (K := K) vs H Q E h) fun cdv A outer s H E hr =>
    (pss_cons (ps_if (pt_not (pt_val (pe_callB call_isi (by rfl) G.isinstance (by decide +kernel) (pa_cons (pv 0) (pa_cons (pe_bltn (v := .ty "list") (by rfl) G.list (by decide +kernel) rfl) pa_nil))))) (pss_one (ps_ret pe_bl)) pss_nil)
      (pss_cons (ps_for PassesOwn.never rfl (pi_list (pv 0)) (pg_name (i := 1) sc_has_form.nd rfl (by first | exact Or.inl rfl | exact Or.inr rfl)) (pss_one (ps_if (PW.pt (pw_or (pt_not (pt_val (pe_callB call_isi (by rfl) G.isinstance (by decide +kernel) (pa_cons (pv 1) (pa_cons (pe_bltn (v := .ty "tuple") (by rfl) G.tuple (by decide +kernel) rfl) pa_nil))))) (pw_or (pt_cmpR op_ne (pe_callB p_lenQ (by rfl) G.len (by decide +kernel) (pa_cons (pv 1) pa_nil)) pe_int (nomark _)) (pw_or (pt_not (pt_val (pe_c c_is_name hr (by omega) (by rfl) (pa_cons (pe_ix ix_tup (pv 1) pe_int (fun _ _ => rfl)) pa_nil)))) (pw_or1 (pt_not (pt_val (pe_callB call_isi (by rfl) G.isinstance (by decide +kernel) (pa_cons (pe_ix ix_tup (pv 1) pe_int (fun _ _ => rfl)) (pa_cons (pe_bltn (v := .ty "list") (by rfl) G.list (by decide +kernel) rfl) pa_nil)))))))))) (pss_one (ps_ret pe_bl)) pss_nil)))
      (pss_cons (ps_setLc (i := 2) (own := [("name", 3), ("steps", 4)]) (g := gTup K 2 (gCons (gName 3) (gCons (gName 4) (gNil)))) (tt := tYes) (by rfl) sc_has_form.nd rfl rfl (sw_true rfl rfl rfl (by decide +kernel)) (pi_list (pv 0)) (blkOk_by (own := [("name", 3), ("steps", 4)]) (N := ["thing", "row", "names", "name", "steps", "one", "other"]) (sc := defScope s_has_form) (by decide +kernel)) (fun _ _ _ _ _ => (pg_tup rfl (pgs_cons (pg_name (i := 3) sc_has_form.nd rfl (by first | exact Or.inl rfl | exact Or.inr rfl)) (pgs_cons (pg_name (i := 4) sc_has_form.nd rfl (by first | exact Or.inl rfl | exact Or.inr rfl)) pgs_nil)))) (fun _ _ _ _ _ => pts_nil) (fun _ _ _ _ _ => (pv 3)))
      (pss_one (ps_ret (pe_callB (cr_all rfl) (by rfl) G.all (by decide +kernel) (pa_cons (pe_lc (own := [("one", 5), ("other", 6)]) (g := gTup K 2 (gCons (gName 5) (gCons (gName 6) (gNil)))) (tt := tYes) (by rfl) sc_has_form.nd (pi_zip (by rfl) G.zip (pa_cons (pv 2) (pa_cons (pe_slice sl_list (pv 2) (po_some pe_int) po_none) pa_nil))) (blkOk_by (own := [("one", 5), ("other", 6)]) (N := ["thing", "row", "names", "name", "steps", "one", "other"]) (sc := defScope s_has_form) (by decide +kernel)) (fun _ _ _ _ _ => (pg_tup rfl (pgs_cons (pg_name (i := 5) sc_has_form.nd rfl (by first | exact Or.inl rfl | exact Or.inr rfl)) (pgs_cons (pg_name (i := 6) sc_has_form.nd rfl (by first | exact Or.inl rfl | exact Or.inr rfl)) pgs_nil)))) (fun _ _ _ _ _ => pts_nil) (fun _ _ _ _ _ => (pe_cmpR p_ltS (pv 5) (pv 6) (nomark _)))) pa_nil)))))))
theorem ok_first_wrong (F : FnP K "first_wrong" s_first_wrong [] f fd) (G : Gm w K mg dP es nn) (c_has_form : Cal P w K mg base 2 "has_form" sp_has_form []) (c_is_step : Cal P w K mg base 9 "is_step" (sp_is_step K) []) : FnOk P w K mg base CX0 10 f fd ["program"] sp_first_wrong :=
  FnP.go (k := 9) F sc_first_wrong (fun vs H Q E => by first | (unfold sp_first_wrong; walk_at "len") | walk_at "len") (t_first_wrong K) (fun vs H Q E h => pure_first_wrong (K := K) vs H Q E h) fun cdv A outer s H E hr =>
    (pss_cons (ps_if (pt_not (pt_val (pe_c c_has_form hr (by omega) (by rfl) (pa_cons (pv 0) pa_nil)))) (pss_one (ps_ret (pe_tup (pa_cons pe_non (pa_cons pe_non pa_nil))))) pss_nil)
      (pss_cons (ps_setLc (i := 1) (own := [("name", 2), ("steps", 3)]) (g := gTup K 2 (gCons (gName 2) (gCons (gName 3) (gNil)))) (tt := tYes) (by rfl) sc_first_wrong.nd rfl rfl (sw_true rfl rfl rfl (by decide +kernel)) (pi_list (pv 0)) (blkOk_by (own := [("name", 2), ("steps", 3)]) (N := ["program", "names", "name", "steps", "at", "step"]) (sc := defScope s_first_wrong) (by decide +kernel)) (fun _ _ _ _ _ => (pg_tup rfl (pgs_cons (pg_name (i := 2) sc_first_wrong.nd rfl (by first | exact Or.inl rfl | exact Or.inr rfl)) (pgs_cons (pg_name (i := 3) sc_first_wrong.nd rfl (by first | exact Or.inl rfl | exact Or.inr rfl)) pgs_nil)))) (fun _ _ _ _ _ => pts_nil) (fun _ _ _ _ _ => (pv 2)))
      (pss_cons (ps_for PassesOwn.never rfl (pi_list (pv 0)) (pg_tup rfl (pgs_cons (pg_name (i := 2) sc_first_wrong.nd rfl (by first | exact Or.inl rfl | exact Or.inr rfl)) (pgs_cons (pg_name (i := 3) sc_first_wrong.nd rfl (by first | exact Or.inl rfl | exact Or.inr rfl)) pgs_nil))) (pss_one (ps_for PassesOwn.never rfl (pi_enum (by rfl) G.enumerate (pa_cons (pv 3) pa_nil)) (pg_tup rfl (pgs_cons (pg_name (i := 4) sc_first_wrong.nd rfl (by first | exact Or.inl rfl | exact Or.inr rfl)) (pgs_cons (pg_name (i := 5) sc_first_wrong.nd rfl (by first | exact Or.inl rfl | exact Or.inr rfl)) pgs_nil))) (pss_one (ps_if (pt_not (pt_val (pe_c c_is_step hr (by omega) (by rfl) (pa_cons (pv 5) (pa_cons (pv 1) (pa_cons (pe_op p_sub (pe_op p_sub (pe_callB p_lenQ (by rfl) G.len (by decide +kernel) (pa_cons (pv 3) pa_nil)) (pv 4)) pe_int) pa_nil)))))) (pss_one (ps_ret (pe_tup (pa_cons (pv 2) (pa_cons (pv 4) pa_nil))))) pss_nil)))))
      (pss_one (ps_ret pe_non)))))
theorem ok_is_program (F : FnP K "is_program" s_is_program [] f fd) (G : Gm w K mg dP es nn) (c_first_wrong : Cal P w K mg base 10 "first_wrong" sp_first_wrong []) : FnOk P w K mg base CX0 11 f fd ["thing"] sp_is_program :=
  FnP.go (k := 10) F sc_is_program (fun vs H Q E => by first | (unfold sp_is_program; walk_at "len") | walk_at "len") (t_is_program) (fun vs H Q E h => pure_is_program (K := K) vs H Q E h) fun cdv A outer s H E hr =>
    (pss_one (ps_ret (pe_cmpR p_isN (pe_c c_first_wrong hr (by omega) (by rfl) (pa_cons (pv 0) pa_nil)) pe_non (nomark _))))
theorem ok_check (F : FnP K "check" s_check [] f fd) (G : Gm w K mg dP es nn) (c_first_wrong : Cal P w K mg base 10 "first_wrong" sp_first_wrong []) (m_NoProgram : MkX P w K mg base "NoProgram" (He.ga K "NoProgram") ["helper", "at"]) : FnOk P w K mg base (L2.CX P w) 11 f fd ["program"] (sp_check K) :=
  FnP.goX (k := 10) F sc_check (fun vs H Q E => by first | (unfold sp_check; walk_at "len") | walk_at "len") (fun E => t_check E K) (fun vs H Q E h => pure_check (K := K) vs H Q E h) fun cdv A outer s H E hr =>
    (pss_cons (ps_set (i := 1) sc_check.nd rfl (by first | exact Or.inl rfl | exact Or.inr rfl) (pe_c c_first_wrong hr (by omega) (by rfl) (pa_cons (pv 0) pa_nil)))
      (pss_one (ps_if (pt_cmpR p_notN (pv 1) pe_non (nomark _)) (pss_one (ps_raiseX rfl m_NoProgram hr (by decide) (takes_of rfl rfl rfl rfl) (by rfl) (pa_cons (pe_ix ix_tup (pv 1) pe_int (fun _ _ => rfl)) (pa_cons (pe_ix ix_tup (pv 1) pe_int (fun _ _ => rfl)) pa_nil)))) pss_nil)))
theorem ok__law_cell_at (F : FnP K "_law_cell_at" s__law_cell_at [] f fd) (G : Gm w K mg dP es nn)  : FnOk P w K mg base CX0 1 f fd ["script", "k"] (sp__law_cell_at K) :=
  FnP.go (k := 0) F sc__law_cell_at (fun vs H Q E => by first | (unfold sp__law_cell_at; walk_at "len") | walk_at "len") (t__law_cell_at K) (fun vs H Q E h => pure__law_cell_at (K := K) vs H Q E h) fun cdv A outer s H E hr =>
    (pss_cons (ps_if (pt_cmpR p_lt (pv 1) (pe_callB p_lenQ (by rfl) G.len (by decide +kernel) (pa_cons (pv 0) pa_nil)) (nomark _)) (pss_one (ps_ret (pe_ix ix_list (pv 0) (pv 1) (fun _ _ => rfl)))) pss_nil)
      (pss_one (ps_ret pe_int)))
theorem ok__law_bag (F : FnP K "_law_bag" s__law_bag [] f fd) (G : Gm w K mg dP es nn)  : FnOk P w K mg base CX0 1 f fd ["cell", "place"] sp__law_bag :=
  FnP.go (k := 0) F sc__law_bag (fun vs H Q E => by first | (unfold sp__law_bag; walk_at "len") | walk_at "len") (t__law_bag) (fun vs H Q E h => pure__law_bag (K := K) vs H Q E h) fun cdv A outer s H E hr =>
    (pss_one (ps_ret (pe_lst (pa_cons (pe_callB (p_max rfl) (by rfl) G.max (by decide +kernel) (pa_cons pe_int (pa_cons (pe_op p_sub (pv 0) (pe_op p_pow pe_int pe_int)) pa_nil))) (pa_cons (pe_op p_add (pe_op p_mod (pv 0) pe_int) (pe_op p_mul pe_int (pv 1))) (pa_cons pe_int pa_nil))))))
theorem ok__law_draw (F : FnP K "_law_draw" s__law_draw [] f fd) (G : Gm w K mg dP es nn)  : FnOk P w K mg base CX0 1 f fd ["bag", "many"] sp__law_draw :=
  FnP.go (k := 0) F sc__law_draw (fun vs H Q E => by first | (unfold sp__law_draw; walk_at "len") | walk_at "len") (t__law_draw K) (fun vs H Q E h => pure__law_draw (K := K) vs H Q E h) fun cdv A outer s H E hr =>
    (pss_cons (ps_if (pt_cmpR p_gt (pe_ix ix_list (pv 0) pe_int (fun _ _ => rfl)) pe_int (nomark _)) (pss_cons (ps_set (i := 2) sc__law_draw.nd rfl (by first | exact Or.inl rfl | exact Or.inr rfl) (pe_op p_mod (pe_ix ix_list (pv 0) pe_int (fun _ _ => rfl)) (pv 1)))
      (pss_cons (ps_asg (pe_op p_fdiv (pe_ix ix_list (pv 0) pe_int (fun _ _ => rfl)) (pv 1)) (pg_sub (pv 0) pe_int set_list))
      (pss_one (ps_ret (pv 2))))) pss_nil)
      (pss_cons (ps_asg (pe_op p_add (pe_ix ix_list (pv 0) pe_int (fun _ _ => rfl)) pe_int) (pg_sub (pv 0) pe_int set_list))
      (pss_cons (ps_set (i := 3) sc__law_draw.nd rfl (by first | exact Or.inl rfl | exact Or.inr rfl) (pe_op p_mod (pe_op p_pow (pe_op p_add (pe_ix ix_list (pv 0) pe_int (fun _ _ => rfl)) (pe_op p_mul pe_int (pe_ix ix_list (pv 0) pe_int (fun _ _ => rfl)))) pe_int) pe_int))
      (pss_cons (ps_set (i := 3) sc__law_draw.nd rfl (by first | exact Or.inl rfl | exact Or.inr rfl) (pe_op p_mod (pe_op p_pow (pe_op p_add (pv 3) (pe_op p_mul pe_int (pe_ix ix_list (pv 0) pe_int (fun _ _ => rfl)))) pe_int) pe_int))
      (pss_one (ps_ret (pe_op p_mod (pe_op p_fdiv (pv 3) pe_int) (pv 1))))))))
theorem ok__law_name (F : FnP K "_law_name" s__law_name [] f fd) (G : Gm w K mg dP es nn) (c__law_draw : Cal P w K mg base 1 "_law_draw" sp__law_draw []) : FnOk P w K mg base CX0 2 f fd ["bag", "last"] sp__law_name :=
  FnP.go (k := 1) F sc__law_name (fun vs H Q E => by first | (unfold sp__law_name; walk_at "len") | walk_at "len") (t__law_name K) (fun vs H Q E h => pure__law_name (K := K) vs H Q E h) fun cdv A outer s H E hr =>
    (pss_cons (ps_set (i := 2) sc__law_name.nd rfl (by first | exact Or.inl rfl | exact Or.inr rfl) pe_str)
      (pss_cons (ps_set (i := 3) sc__law_name.nd rfl (by first | exact Or.inl rfl | exact Or.inr rfl) (pe_c c__law_draw hr (by omega) (by rfl) (pa_cons (pv 0) (pa_cons pe_int pa_nil))))
      (pss_cons (ps_set (i := 4) sc__law_name.nd rfl (by first | exact Or.inl rfl | exact Or.inr rfl) (pe_ix ix_str (pv 2) (pe_c c__law_draw hr (by omega) (by rfl) (pa_cons (pv 0) (pa_cons pe_int pa_nil))) (fun _ _ => rfl)))
      (pss_cons (ps_if (pt_cmpR op_eq (pv 3) pe_int (nomark _)) (pss_cons (ps_set (i := 5) sc__law_name.nd rfl (by first | exact Or.inl rfl | exact Or.inr rfl) (pe_lst (pa_cons pe_str (pa_cons pe_str (pa_cons pe_str (pa_cons pe_str (pa_cons pe_str (pa_cons pe_str (pa_cons pe_str (pa_cons pe_str (pa_cons pe_str (pa_cons pe_str pa_nil))))))))))))
      (pss_one (ps_ret (pe_ix ix_list (pv 5) (pe_c c__law_draw hr (by omega) (by rfl) (pa_cons (pv 0) (pa_cons pe_int pa_nil))) (fun _ _ => rfl))))) pss_nil)
      (pss_cons (ps_if (PW.pt (pw_and (pt_cmpR op_eq (pv 3) pe_int (nomark _)) (pw_and1 (pt_chain p_lt p_lt pe_int (pe_callB p_lenS (by rfl) G.len (by decide +kernel) (pa_cons (pv 1) pa_nil)) pe_int)))) (pss_one (ps_ret (pe_op p_addS (pv 1) (pv 4)))) pss_nil)
      (pss_cons (ps_if (PW.pt (pw_and (pt_cmpR op_eq (pv 3) pe_int (nomark _)) (pw_and1 (pt_cmpR p_gt (pe_callB p_lenS (by rfl) G.len (by decide +kernel) (pa_cons (pv 1) pa_nil)) pe_int (nomark _))))) (pss_one (ps_ret (pe_slice sl_str (pv 1) (po_some pe_int) po_none))) pss_nil)
      (pss_cons (ps_if (PW.pt (pw_and (pt_cmpR op_eq (pv 3) pe_int (nomark _)) (pw_and1 (pt_cmpR op_ne (pv 1) pe_str (nomark _))))) (pss_cons (ps_set (i := 6) sc__law_name.nd rfl (by first | exact Or.inl rfl | exact Or.inr rfl) (pe_c c__law_draw hr (by omega) (by rfl) (pa_cons (pv 0) (pa_cons (pe_callB p_lenS (by rfl) G.len (by decide +kernel) (pa_cons (pv 1) pa_nil)) pa_nil))))
      (pss_one (ps_ret (pe_op p_addS (pe_op p_addS (pe_slice sl_str (pv 1) po_none (po_some (pv 6))) (pv 4)) (pe_slice sl_str (pv 1) (po_some (pe_op p_add (pv 6) pe_int)) po_none))))) pss_nil)
      (pss_one (ps_ret (pe_op p_addS (pv 4) (pe_join pe_str (pe_lc (own := [("k", 7)]) (g := gName 7) (tt := tYes) (by rfl) sc__law_name.nd (pi_range1 (by rfl) G.range (pa_cons (pe_c c__law_draw hr (by omega) (by rfl) (pa_cons (pv 0) (pa_cons pe_int pa_nil))) pa_nil)) (blkOk_by (own := [("k", 7)]) (N := ["bag", "last", "letters", "pick", "letter", "words", "at", "k"]) (sc := defScope s__law_name) (by decide +kernel)) (fun _ _ _ _ _ => (pg_name (i := 7) sc__law_name.nd rfl (by first | exact Or.inl rfl | exact Or.inr rfl))) (fun _ _ _ _ _ => pts_nil) (fun _ _ _ _ _ => (pe_ix ix_str (pv 2) (pe_c c__law_draw hr (by omega) (by rfl) (pa_cons (pv 0) (pa_cons pe_int pa_nil))) (fun _ _ => rfl)))))))))))))))
theorem ok__law_names (F : FnP K "_law_names" s__law_names [] f fd) (G : Gm w K mg dP es nn) (c__law_name : Cal P w K mg base 2 "_law_name" sp__law_name []) : FnOk P w K mg base CX0 3 f fd ["bag", "many"] sp__law_names :=
  FnP.go (k := 2) F sc__law_names (fun vs H Q E => by first | (unfold sp__law_names; walk_at "len") | walk_at "len") (t__law_names) (fun vs H Q E h => pure__law_names (K := K) vs H Q E h) fun cdv A outer s H E hr =>
    (pss_cons (ps_set (i := 2) sc__law_names.nd rfl (by first | exact Or.inl rfl | exact Or.inr rfl) pe_dnewK)
      (pss_cons (ps_set (i := 3) sc__law_names.nd rfl (by first | exact Or.inl rfl | exact Or.inr rfl) pe_str)
      (pss_cons (ps_for PassesOwn.never rfl (pi_range1 (by rfl) G.range (pa_cons (pv 1) pa_nil)) (pg_name (i := 4) sc__law_names.nd rfl (by first | exact Or.inl rfl | exact Or.inr rfl)) (pss_cons (ps_set (i := 3) sc__law_names.nd rfl (by first | exact Or.inl rfl | exact Or.inr rfl) (pe_c c__law_name hr (by omega) (by rfl) (pa_cons (pv 0) (pa_cons (pv 3) pa_nil))))
      (pss_one (ps_dput (hu_of hr) (pv 2) (pv 3) pe_bl rfl))))
      (pss_one (ps_ret (pe_callTy (p_listD rfl) (by rfl) G.list (by decide +kernel) (pa_cons (pv 2) pa_nil)))))))
theorem ok__law_number (F : FnP K "_law_number" s__law_number [] f fd) (G : Gm w K mg dP es nn) (c__law_draw : Cal P w K mg base 1 "_law_draw" sp__law_draw []) : FnOk P w K mg base CX0 2 f fd ["bag"] sp__law_number :=
  FnP.go (k := 1) F sc__law_number (fun vs H Q E => by first | (unfold sp__law_number; walk_at "len") | walk_at "len") (t__law_number K) (fun vs H Q E h => pure__law_number (K := K) vs H Q E h) fun cdv A outer s H E hr =>
    (pss_cons (ps_set (i := 1) sc__law_number.nd rfl (by first | exact Or.inl rfl | exact Or.inr rfl) (pe_c c__law_draw hr (by omega) (by rfl) (pa_cons (pv 0) (pa_cons pe_int pa_nil))))
      (pss_cons (ps_set (i := 2) sc__law_number.nd rfl (by first | exact Or.inl rfl | exact Or.inr rfl) (pe_c c__law_draw hr (by omega) (by rfl) (pa_cons (pv 0) (pa_cons (pe_ix ix_list (pe_lst (pa_cons pe_int (pa_cons pe_int (pa_cons pe_int (pa_cons (pe_op p_pow pe_int pe_int) pa_nil))))) (pv 1) (fun _ _ => rfl)) pa_nil))))
      (pss_cons (ps_if (pt_cmpR op_eq (pe_c c__law_draw hr (by omega) (by rfl) (pa_cons (pv 0) (pa_cons pe_int pa_nil))) pe_int (nomark _)) (pss_one (ps_ret (pe_op p_sub pe_int (pv 2)))) pss_nil)
      (pss_one (ps_ret (pv 2))))))
theorem ok__law_expression (F : FnP K "_law_expression" s__law_expression [] f fd) (G : Gm w K mg dP es nn) (g : mg "_law_expression" = some (.ref f)) (c__law_draw : Cal P w K mg base 1 "_law_draw" sp__law_draw []) (c__law_number : Cal P w K mg base 2 "_law_number" sp__law_number []) : ∀ n : Nat, FnOk P w K mg base CX0 (n + 2) f fd ["bag", "most"] ((sp__law_expression n))
  | 0 => ⟨fun vs H Q E h => absurd h (no__law_expression vs H Q E), fun A outer s H args us vs Q E _ _ _ _ h => absurd h (no__law_expression vs H Q E)⟩
  | n + 1 => by
    have ih := ok__law_expression F G g c__law_draw c__law_number n
    have c__law_expression : Cal P w K mg base (n + 2) "_law_expression" ((sp__law_expression n)) [] := F.cal ih g fun _ _ _ _ _ _ us hl => match us, hl with | [_, _], _ => rfl
    exact FnP.go (k := n + 2) F sc__law_expression (fun vs H Q E => by first | (unfold sp__law_expression; walk_at "len") | walk_at "len") (t__law_expression K n) (fun vs H Q E h => pure__law_expression (K := K) n vs H Q E h) fun cdv A outer s H E hr =>
      (pss_cons (ps_set (i := 2) sc__law_expression.nd rfl (by first | exact Or.inl rfl | exact Or.inr rfl) (pe_c c__law_draw hr (by omega) (by rfl) (pa_cons (pv 0) (pa_cons pe_int pa_nil))))
      (pss_cons (ps_if (pt_cmpR op_eq (pv 2) pe_int (nomark _)) (pss_one (ps_ret (pe_tup (pa_cons pe_str pa_nil)))) pss_nil)
      (pss_cons (ps_if (PW.pt (pw_or (pt_cmpR p_lt (pv 1) pe_int (nomark _)) (pw_or1 (pt_cmpR p_lt (pv 2) pe_int (nomark _))))) (pss_one (ps_ret (pe_c c__law_number hr (by omega) (by rfl) (pa_cons (pv 0) pa_nil)))) pss_nil)
      (pss_cons (ps_if (pt_cmpR p_lt (pv 2) pe_int (nomark _)) (pss_one (ps_ret (pe_tup (pa_cons pe_str (pa_cons (pe_c c__law_expression hr (by omega) (by rfl) (pa_cons (pv 0) (pa_cons (pe_op p_sub (pv 1) pe_int) pa_nil))) pa_nil))))) pss_nil)
      (pss_cons (ps_set (i := 3) sc__law_expression.nd rfl (by first | exact Or.inl rfl | exact Or.inr rfl) (pe_ix ix_list (pe_lst (pa_cons pe_str (pa_cons pe_str (pa_cons pe_str pa_nil)))) (pe_c c__law_draw hr (by omega) (by rfl) (pa_cons (pv 0) (pa_cons pe_int pa_nil))) (fun _ _ => rfl)))
      (pss_cons (ps_set (i := 4) sc__law_expression.nd rfl (by first | exact Or.inl rfl | exact Or.inr rfl) (pe_c c__law_expression hr (by omega) (by rfl) (pa_cons (pv 0) (pa_cons (pe_op p_sub (pv 1) pe_int) pa_nil))))
      (pss_one (ps_ret (pe_tup (pa_cons (pv 3) (pa_cons (pv 4) (pa_cons (pe_c c__law_expression hr (by omega) (by rfl) (pa_cons (pv 0) (pa_cons (pe_op p_sub (pv 1) pe_int) pa_nil))) pa_nil))))))))))))
theorem ok__law_step (F : FnP K "_law_step" s__law_step [] f fd) (G : Gm w K mg dP es nn) (c__law_draw : Cal P w K mg base 1 "_law_draw" sp__law_draw []) (c__law_expression : Cal P w K mg base 8 "_law_expression" (sp__law_expression 6) []) (c__law_name : Cal P w K mg base 2 "_law_name" sp__law_name []) : FnOk P w K mg base CX0 9 f fd ["bag", "names", "behind", "deep"] (sp__law_step K) :=
  FnP.go (k := 8) F sc__law_step (fun vs H Q E => by first | (unfold sp__law_step; walk_at "len") | walk_at "len") (t__law_step K) (fun vs H Q E h => pure__law_step (K := K) vs H Q E h) fun cdv A outer s H E hr =>
    (pss_cons (ps_set (i := 4) sc__law_step.nd rfl (by first | exact Or.inl rfl | exact Or.inr rfl) (pe_ix ix_list (pe_lst (pa_cons pe_str (pa_cons pe_str (pa_cons pe_str (pa_cons pe_str (pa_cons pe_str (pa_cons pe_str pa_nil))))))) (pe_c c__law_draw hr (by omega) (by rfl) (pa_cons (pv 0) (pa_cons pe_int pa_nil))) (fun _ _ => rfl)))
      (pss_cons (ps_set (i := 5) sc__law_step.nd rfl (by first | exact Or.inl rfl | exact Or.inr rfl) (pe_c c__law_expression hr (by omega) (by rfl) (pa_cons (pv 0) (pa_cons (pe_op p_add pe_int (pe_c c__law_draw hr (by omega) (by rfl) (pa_cons (pv 0) (pa_cons (pv 3) pa_nil)))) pa_nil))))
      (pss_cons (ps_if (PW.pt (pw_or (pt_cmpR op_eq (pv 4) pe_str (nomark _)) (pw_or1 (PW.pt (pw_and (pt_cmpR op_eq (pv 4) pe_str (nomark _)) (pw_and1 (pt_cmpR op_eq (pv 2) pe_int (nomark _)))))))) (pss_one (ps_ret (pe_tup (pa_cons pe_str pa_nil)))) pss_nil)
      (pss_cons (ps_if (pt_cmpR op_eq (pv 4) pe_str (nomark _)) (pss_one (ps_ret (pe_tup (pa_cons (pv 4) (pa_cons (pv 5) (pa_cons (pe_c c__law_expression hr (by omega) (by rfl) (pa_cons (pv 0) (pa_cons (pe_op p_add pe_int (pe_c c__law_draw hr (by omega) (by rfl) (pa_cons (pv 0) (pa_cons (pv 3) pa_nil)))) pa_nil))) pa_nil)))))) pss_nil)
      (pss_cons (ps_if (pt_cmpR op_eq (pv 4) pe_str (nomark _)) (pss_one (ps_ret (pe_tup (pa_cons (pv 4) (pa_cons (pv 5) (pa_cons (pe_op p_add pe_int (pe_c c__law_draw hr (by omega) (by rfl) (pa_cons (pv 0) (pa_cons (pv 2) pa_nil)))) pa_nil)))))) pss_nil)
      (pss_cons (ps_if (pt_cmpR op_eq (pv 4) pe_str (nomark _)) (pss_one (ps_ret (pe_tup (pa_cons (pv 4) (pa_cons (pe_c c__law_name hr (by omega) (by rfl) (pa_cons (pv 0) (pa_cons (pe_ix ix_list (pv 1) pe_int (fun _ _ => rfl)) pa_nil))) (pa_cons (pv 5) pa_nil)))))) pss_nil)
      (pss_one (ps_ret (pe_tup (pa_cons (pv 4) (pa_cons (pe_ix ix_list (pv 1) (pe_c c__law_draw hr (by omega) (by rfl) (pa_cons (pv 0) (pa_cons (pe_callB p_lenQ (by rfl) G.len (by decide +kernel) (pa_cons (pv 1) pa_nil)) pa_nil))) (fun _ _ => rfl)) (pa_cons (pv 5) pa_nil))))))))))))
theorem ok__law_program (F : FnP K "_law_program" s__law_program [] f fd) (G : Gm w K mg dP es nn) (c__law_draw : Cal P w K mg base 1 "_law_draw" sp__law_draw []) (c__law_names : Cal P w K mg base 3 "_law_names" sp__law_names []) (c__law_step : Cal P w K mg base 9 "_law_step" (sp__law_step K) []) : FnOk P w K mg base CX0 10 f fd ["bag"] (sp__law_program) :=
  FnP.go (k := 9) F sc__law_program (fun vs H Q E => by first | (unfold sp__law_program; walk_at "len") | walk_at "len") (t__law_program K) (fun vs H Q E h => pure__law_program (K := K) vs H Q E h) fun cdv A outer s H E hr =>
    (pss_cons (ps_set (i := 1) sc__law_program.nd rfl (by first | exact Or.inl rfl | exact Or.inr rfl) (pe_c c__law_draw hr (by omega) (by rfl) (pa_cons (pv 0) (pa_cons pe_int pa_nil))))
      (pss_cons (ps_set (i := 2) sc__law_program.nd rfl (by first | exact Or.inl rfl | exact Or.inr rfl) (pe_callB cr_sortedS (by rfl) G.sorted (by decide +kernel) (pa_cons (pe_c c__law_names hr (by omega) (by rfl) (pa_cons (pv 0) (pa_cons (pe_c c__law_draw hr (by omega) (by rfl) (pa_cons (pv 0) (pa_cons (pe_ix ix_list (pe_lst (pa_cons pe_int (pa_cons pe_int pa_nil))) (pe_op p_fdiv (pv 1) pe_int) (fun _ _ => rfl)) pa_nil))) pa_nil))) pa_nil)))
      (pss_cons (ps_set (i := 3) sc__law_program.nd rfl (by first | exact Or.inl rfl | exact Or.inr rfl) (pe_lst pa_nil))
      (pss_cons (ps_for PassesOwn.never rfl (pi_list (pv 2)) (pg_name (i := 4) sc__law_program.nd rfl (by first | exact Or.inl rfl | exact Or.inr rfl)) (pss_cons (ps_set (i := 5) sc__law_program.nd rfl (by first | exact Or.inl rfl | exact Or.inr rfl) (pe_c c__law_draw hr (by omega) (by rfl) (pa_cons (pv 0) (pa_cons (pe_ix ix_list (pe_lst (pa_cons pe_int (pa_cons pe_int pa_nil))) (pe_op p_fdiv (pv 1) pe_int) (fun _ _ => rfl)) pa_nil))))
      (pss_cons (ps_set (i := 6) sc__law_program.nd rfl (by first | exact Or.inl rfl | exact Or.inr rfl) (pe_op op_rep (pe_lst (pa_cons (pe_op p_add pe_int (pe_callTy p_int (by rfl) G.int (by decide +kernel) (pa_cons (pe_cmpR p_lt (pv 1) pe_int (nomark _)) pa_nil))) pa_nil)) (pe_op p_add (pv 5) pe_int)))
      (pss_cons (ps_asg pe_int (pg_sub (pv 6) (pe_c c__law_draw hr (by omega) (by rfl) (pa_cons (pv 0) (pa_cons (pe_op p_add (pv 5) pe_int) pa_nil))) set_list))
      (pss_one (ps_expr (pe_bm PySem.F.plainAttrs_list PySem.F.slot_list_append PySem.F.type_list_append mt_append (pv 3) (pa_cons (pe_tup (pa_cons (pv 4) (pa_cons (pe_lc (own := [("k", 7)]) (g := gName 7) (tt := tYes) (by rfl) sc__law_program.nd (pi_range1 (by rfl) G.range (pa_cons (pv 5) pa_nil)) (blkOk_by (own := [("k", 7)]) (N := ["bag", "great", "names", "found", "name", "many", "deep", "k"]) (sc := defScope s__law_program) (by decide +kernel)) (fun _ _ _ _ _ => (pg_name (i := 7) sc__law_program.nd rfl (by first | exact Or.inl rfl | exact Or.inr rfl))) (fun _ _ _ _ _ => pts_nil) (fun _ _ _ _ _ => (pe_c c__law_step hr (by omega) (by rfl) (pa_cons (pv 0) (pa_cons (pv 2) (pa_cons (pe_op p_sub (pe_op p_sub (pv 5) pe_int) (pv 7)) (pa_cons (pe_ix ix_list (pv 6) (pv 7) (fun _ _ => rfl)) pa_nil))))))) pa_nil))) pa_nil))))))))
      (pss_one (ps_ret (pv 3)))))))
theorem ok__law_odd (F : FnP K "_law_odd" s__law_odd [] f fd) (G : Gm w K mg dP es nn) (c__law_draw : Cal P w K mg base 1 "_law_draw" sp__law_draw []) : FnOk P w K mg base CX0 2 f fd ["bag"] (sp__law_odd04) :=
  FnP.go (k := 1) F sc__law_odd (fun vs H Q E => by first | (unfold sp__law_odd04; walk_at "len") | walk_at "len") (t__law_odd04 K) (fun vs H Q E h => pure__law_odd04 (K := K) vs H Q E h) fun cdv A outer s H E hr =>
    (pss_cons (ps_set (i := 1) sc__law_odd.nd rfl (by first | exact Or.inl rfl | exact Or.inr rfl) (pe_lst (pa_cons pe_non (pa_cons pe_bl (pa_cons pe_bl (pa_cons pe_str (pa_cons pe_str (pa_cons pe_str (pa_cons pe_str (pa_cons pe_str (pa_cons pe_str (pa_cons (pe_tup pa_nil) (pa_cons (pe_lst pa_nil) (pa_cons pe_dnewK (pa_cons (pe_disp (pps_cons pe_str pe_int pps_nil) (by rfl) (by rfl) (fun z => by cases z) (by decide)) (pa_cons (pe_lst (pa_cons pe_str pa_nil)) (pa_cons pe_str pa_nil)))))))))))))))))
      (pss_cons (ps_set (i := 1) sc__law_odd.nd rfl (by first | exact Or.inl rfl | exact Or.inr rfl) (pe_op op_cat (pv 1) (pe_lst (pa_cons (pe_tup (pa_cons pe_str (pa_cons pe_int pa_nil))) (pa_cons (pe_tup (pa_cons pe_str pa_nil)) (pa_cons (pe_tup (pa_cons pe_str pa_nil)) (pa_cons (pe_tup (pa_cons pe_str (pa_cons pe_int (pa_cons pe_int pa_nil)))) (pa_cons (pe_tup (pa_cons pe_str (pa_cons pe_int pa_nil))) (pa_cons (pe_tup (pa_cons pe_str (pa_cons pe_int (pa_cons pe_int (pa_cons pe_int pa_nil))))) (pa_cons (pe_tup (pa_cons pe_str (pa_cons pe_int (pa_cons pe_non pa_nil)))) pa_nil))))))))))
      (pss_cons (ps_set (i := 1) sc__law_odd.nd rfl (by first | exact Or.inl rfl | exact Or.inr rfl) (pe_op op_cat (pv 1) (pe_lst (pa_cons (pe_tup (pa_cons pe_str (pa_cons pe_bl (pa_cons pe_int pa_nil)))) (pa_cons (pe_tup (pa_cons pe_str (pa_cons pe_str pa_nil))) (pa_cons (pe_lst (pa_cons pe_str (pa_cons pe_int pa_nil))) (pa_cons (pe_tup (pa_cons pe_str (pa_cons pe_int (pa_cons pe_int pa_nil)))) (pa_cons (pe_tup (pa_cons pe_str pa_nil)) (pa_cons (pe_tup (pa_cons pe_int (pa_cons pe_int pa_nil))) (pa_cons pe_str (pa_cons pe_int pa_nil)))))))))))
      (pss_one (ps_ret (pe_ix ix_list (pe_op op_cat (pv 1) (pe_lst (pa_cons (pe_tup (pa_cons pe_str (pa_cons (pe_tup (pa_cons pe_str (pa_cons (pe_tup pa_nil) pa_nil))) pa_nil))) (pa_cons (pe_tup (pa_cons pe_str (pa_cons (pe_lst pa_nil) pa_nil))) (pa_cons (pe_tup (pa_cons (pe_lst pa_nil) (pa_cons pe_int pa_nil))) (pa_cons (pe_tup (pa_cons pe_dnewK (pa_cons pe_int (pa_cons pe_int pa_nil)))) pa_nil)))))) (pe_c c__law_draw hr (by omega) (by rfl) (pa_cons (pv 0) (pa_cons pe_int pa_nil))) (fun _ _ => rfl)))))))
theorem ok__law_is_name (F : FnP K "_law_is_name" s__law_is_name [] f fd) (G : Gm w K mg dP es nn)  : FnOk P w K mg base CX0 1 f fd ["thing"] sp__law_is_name :=
  FnP.go (k := 0) F sc__law_is_name (fun vs H Q E => by first | (unfold sp__law_is_name; walk_at "len") | walk_at "len") (t__law_is_name K) (fun vs H Q E h => pure__law_is_name (K := K) vs H Q E h) fun cdv A outer s H E hr =>
    (pss_cons (ps_if (PW.pt (pw_or (pt_not (pt_val (pe_callB call_isi (by rfl) G.isinstance (by decide +kernel) (pa_cons (pv 0) (pa_cons (pe_bltn (v := .ty "str") (by rfl) G.str (by decide +kernel) rfl) pa_nil))))) (pw_or (pt_cmpR op_eq (pv 0) pe_str (nomark _)) (pw_or1 (pt_cmpR p_gt (pe_callB p_lenS (by rfl) G.len (by decide +kernel) (pa_cons (pv 0) pa_nil)) pe_int (nomark _)))))) (pss_one (ps_ret pe_bl)) pss_nil)
      (pss_one (ps_ret (pe_cmpR (p_eqE hr.units) (pe_lc (own := [("sign", 1)]) (g := gName 1) (tt := tTest (tOp oNotInC (tVar 1) (tC (.str "abcdefghijklmnopqrstuvwxyz")))) (by rfl) sc__law_is_name.nd (pi_str (pv 0)) (blkOk_by (own := [("sign", 1)]) (N := ["thing", "sign"]) (sc := defScope s__law_is_name) (by decide +kernel)) (fun _ _ _ _ _ => (pg_name (i := 1) sc__law_is_name.nd rfl (by first | exact Or.inl rfl | exact Or.inr rfl))) (fun _ _ _ _ _ => (pts_one (pt_cmpR p_notInC (pv 1) pe_str (by rfl)))) (fun _ _ _ _ _ => (pv 1))) (pe_lst pa_nil) (nomark _)))))
theorem ok__law_is_whole (F : FnP K "_law_is_whole" s__law_is_whole [] f fd) (G : Gm w K mg dP es nn)  : FnOk P w K mg base CX0 1 f fd ["thing"] sp__law_is_whole :=
  FnP.go (k := 0) F sc__law_is_whole (fun vs H Q E => by first | (unfold sp__law_is_whole; walk_at "len") | walk_at "len") (t__law_is_whole K) (fun vs H Q E h => pure__law_is_whole (K := K) vs H Q E h) fun cdv A outer s H E hr =>
    (pss_one (ps_ret (pe_and (pe_callB call_isi (by rfl) G.isinstance (by decide +kernel) (pa_cons (pv 0) (pa_cons (pe_bltn (v := .ty "int") (by rfl) G.int (by decide +kernel) rfl) pa_nil))) (pe_one (pe_not (pe_callB call_isi (by rfl) G.isinstance (by decide +kernel) (pa_cons (pv 0) (pa_cons (pe_bltn (v := .ty "bool") (by rfl) G.bool (by decide +kernel) rfl) pa_nil))))))))
theorem ok__law_is_expression (F : FnP K "_law_is_expression" s__law_is_expression [] f fd) (G : Gm w K mg dP es nn) (g : mg "_law_is_expression" = some (.ref f)) (c__law_is_whole : Cal P w K mg base 1 "_law_is_whole" sp__law_is_whole []) : ∀ n : Nat, FnOk P w K mg base CX0 (n + 2) f fd ["thing", "most"] ((sp__law_is_expression n))
  | 0 => ⟨fun vs H Q E h => absurd h (no__law_is_expression vs H Q E), fun A outer s H args us vs Q E _ _ _ _ h => absurd h (no__law_is_expression vs H Q E)⟩
  | n + 1 => by
    have ih := ok__law_is_expression F G g c__law_is_whole n
    have c__law_is_expression : Cal P w K mg base (n + 2) "_law_is_expression" ((sp__law_is_expression n)) [] := F.cal ih g fun _ _ _ _ _ _ us hl => match us, hl with | [_, _], _ => rfl
    exact FnP.go (k := n + 2) F sc__law_is_expression (fun vs H Q E => by first | (unfold sp__law_is_expression; walk_at "len") | walk_at "len") (t__law_is_expression K n) (fun vs H Q E h => pure__law_is_expression (K := K) n vs H Q E h) fun cdv A outer s H E hr =>
      (pss_cons (ps_if (PW.pt (pw_or (pt_cmpR op_eq (pv 1) pe_int (nomark _)) (pw_or1 (pt_val (pe_c c__law_is_whole hr (by omega) (by rfl) (pa_cons (pv 0) pa_nil)))))) (pss_one (ps_ret (pe_cmpR p_gt (pv 1) pe_int (nomark _)))) pss_nil)
      (pss_cons (ps_if (PW.pt (pw_or (pt_not (pt_val (pe_callB call_isi (by rfl) G.isinstance (by decide +kernel) (pa_cons (pv 0) (pa_cons (pe_bltn (v := .ty "tuple") (by rfl) G.tuple (by decide +kernel) rfl) pa_nil))))) (pw_or (pt_cmpR (p_eqE hr.units) (pv 0) (pe_tup pa_nil) (nomark _)) (pw_or1 (pt_not (pt_val (pe_callB call_isi (by rfl) G.isinstance (by decide +kernel) (pa_cons (pe_ix ix_tup (pv 0) pe_int (fun _ _ => rfl)) (pa_cons (pe_bltn (v := .ty "str") (by rfl) G.str (by decide +kernel) rfl) pa_nil))))))))) (pss_one (ps_ret pe_bl)) pss_nil)
      (pss_cons (ps_set (i := 2) sc__law_is_expression.nd rfl (by first | exact Or.inl rfl | exact Or.inr rfl) (pe_dget2 (hu_of hr) (pe_disp (pps_cons pe_str pe_int (pps_cons pe_str pe_int (pps_cons pe_str pe_int (pps_cons pe_str pe_int (pps_cons pe_str pe_int pps_nil))))) (by rfl) (by rfl) (fun z => by cases z) (by decide)) (pe_ix ix_tup (pv 0) pe_int (fun _ _ => rfl)) (pe_un un_neg pe_int) ⟨rfl, rfl, rfl, rfl⟩))
      (pss_cons (ps_if (pt_cmpR op_ne (pe_callB p_lenQ (by rfl) G.len (by decide +kernel) (pa_cons (pv 0) pa_nil)) (pe_op p_add (pv 2) pe_int) (nomark _)) (pss_one (ps_ret pe_bl)) pss_nil)
      (pss_one (ps_ret (pe_cmpR (p_eqE hr.units) (pe_lc (own := [("one", 3)]) (g := gName 3) (tt := tNot (tB (tCall (sp__law_is_expression n) [] E0 (tCons (tVar 3) (tCons (tOp oSub (tVar 1) (tC (.int 1))) (tNil)))))) (by rfl) sc__law_is_expression.nd (pi_tup (pe_slice sl_tupA (pv 0) (po_some pe_int) po_none)) (blkOk_by (own := [("one", 3)]) (N := ["thing", "most", "parts", "one"]) (sc := defScope s__law_is_expression) (by decide +kernel)) (fun _ _ _ _ _ => (pg_name (i := 3) sc__law_is_expression.nd rfl (by first | exact Or.inl rfl | exact Or.inr rfl))) (fun _ _ _ _ _ => (pts_one (pt_not (pt_val (pe_c c__law_is_expression hr (by omega) (by rfl) (pa_cons (pv 3) (pa_cons (pe_op p_sub (pv 1) pe_int) pa_nil))))))) (fun _ _ _ _ _ => (pv 3))) (pe_lst pa_nil) (nomark _))))))))
theorem ok__law_is_step (F : FnP K "_law_is_step" s__law_is_step [] f fd) (G : Gm w K mg dP es nn) (c__law_is_expression : Cal P w K mg base 8 "_law_is_expression" (sp__law_is_expression 6) []) (c__law_is_whole : Cal P w K mg base 1 "_law_is_whole" sp__law_is_whole []) (c__law_is_name : Cal P w K mg base 1 "_law_is_name" sp__law_is_name []) : FnOk P w K mg base CX0 9 f fd ["thing", "names", "behind"] (sp__law_is_step K) :=
  FnP.go (k := 8) F sc__law_is_step (fun vs H Q E => by first | (unfold sp__law_is_step; walk_at "len") | walk_at "len") (t__law_is_step K) (fun vs H Q E h => pure__law_is_step (K := K) vs H Q E h) fun cdv A outer s H E hr =>
    (pss_cons (ps_if (pt_cmpR (p_eqT1 hr.units) (pv 0) (pe_tup (pa_cons pe_str pa_nil)) (nomark _)) (pss_one (ps_ret pe_bl)) pss_nil)
      (pss_cons (ps_if (PW.pt (pw_or (pt_not (pt_val (pe_callB call_isi (by rfl) G.isinstance (by decide +kernel) (pa_cons (pv 0) (pa_cons (pe_bltn (v := .ty "tuple") (by rfl) G.tuple (by decide +kernel) rfl) pa_nil))))) (pw_or (pt_cmpR op_ne (pe_callB p_lenQ (by rfl) G.len (by decide +kernel) (pa_cons (pv 0) pa_nil)) pe_int (nomark _)) (pw_or1 (pt_not (pt_val (pe_callB call_isi (by rfl) G.isinstance (by decide +kernel) (pa_cons (pe_ix ix_tup (pv 0) pe_int (fun _ _ => rfl)) (pa_cons (pe_bltn (v := .ty "str") (by rfl) G.str (by decide +kernel) rfl) pa_nil))))))))) (pss_one (ps_ret pe_bl)) pss_nil)
      (pss_cons (ps_asg (pv 0) (pg_tup rfl (pgs_cons (pg_name (i := 3) sc__law_is_step.nd rfl (by first | exact Or.inl rfl | exact Or.inr rfl)) (pgs_cons (pg_name (i := 4) sc__law_is_step.nd rfl (by first | exact Or.inl rfl | exact Or.inr rfl)) (pgs_cons (pg_name (i := 5) sc__law_is_step.nd rfl (by first | exact Or.inl rfl | exact Or.inr rfl)) pgs_nil)))))
      (pss_cons (ps_if (pt_cmpR op_eq (pv 3) pe_str (nomark _)) (pss_one (ps_ret (pe_and (pe_c c__law_is_expression hr (by omega) (by rfl) (pa_cons (pv 4) (pa_cons pe_int pa_nil))) (pe_and (pe_c c__law_is_whole hr (by omega) (by rfl) (pa_cons (pv 5) pa_nil)) (pe_and (pe_cmpR p_gt (pv 5) pe_int (nomark _)) (pe_one (pe_cmpR p_le (pv 5) (pv 2) (nomark _)))))))) pss_nil)
      (pss_cons (ps_if (pt_cmpR op_eq (pv 3) pe_str (nomark _)) (pss_one (ps_ret (pe_and (pe_c c__law_is_expression hr (by omega) (by rfl) (pa_cons (pv 4) (pa_cons pe_int pa_nil))) (pe_one (pe_c c__law_is_expression hr (by omega) (by rfl) (pa_cons (pv 5) (pa_cons pe_int pa_nil))))))) pss_nil)
      (pss_cons (ps_if (pt_cmpR op_eq (pv 3) pe_str (nomark _)) (pss_one (ps_ret (pe_and (pe_c c__law_is_name hr (by omega) (by rfl) (pa_cons (pv 4) pa_nil)) (pe_one (pe_c c__law_is_expression hr (by omega) (by rfl) (pa_cons (pv 5) (pa_cons pe_int pa_nil))))))) pss_nil)
      (pss_one (ps_ret (pe_and (pe_cmpR op_in_seq (pv 3) (pe_lst (pa_cons pe_str (pa_cons pe_str pa_nil))) (by rfl)) (pe_and (pe_c c__law_is_name hr (by omega) (by rfl) (pa_cons (pv 4) pa_nil)) (pe_and (pe_cmpR op_in_seq (pv 4) (pv 1) (by rfl)) (pe_one (pe_c c__law_is_expression hr (by omega) (by rfl) (pa_cons (pv 5) (pa_cons pe_int pa_nil)))))))))))))))
theorem ok__law_wrong (F : FnP K "_law_wrong" s__law_wrong [] f fd) (G : Gm w K mg dP es nn) (c__law_is_name : Cal P w K mg base 1 "_law_is_name" sp__law_is_name []) (c__law_is_step : Cal P w K mg base 9 "_law_is_step" (sp__law_is_step K) []) : FnOk P w K mg base CX0 10 f fd ["program"] sp__law_wrong :=
  FnP.go (k := 9) F sc__law_wrong (fun vs H Q E => by first | (unfold sp__law_wrong; walk_at "len") | walk_at "len") (t__law_wrong K) (fun vs H Q E h => pure__law_wrong (K := K) vs H Q E h) fun cdv A outer s H E hr =>
    (pss_cons (ps_if (pt_not (pt_val (pe_callB call_isi (by rfl) G.isinstance (by decide +kernel) (pa_cons (pv 0) (pa_cons (pe_bltn (v := .ty "list") (by rfl) G.list (by decide +kernel) rfl) pa_nil))))) (pss_one (ps_ret (pe_tup (pa_cons pe_non (pa_cons pe_non pa_nil))))) pss_nil)
      (pss_cons (ps_set (i := 1) sc__law_wrong.nd rfl (by first | exact Or.inl rfl | exact Or.inr rfl) pe_str)
      (pss_cons (ps_for PassesOwn.never rfl (pi_list (pv 0)) (pg_name (i := 2) sc__law_wrong.nd rfl (by first | exact Or.inl rfl | exact Or.inr rfl)) (pss_cons (ps_if (PW.pt (pw_or (pt_not (pt_val (pe_callB call_isi (by rfl) G.isinstance (by decide +kernel) (pa_cons (pv 2) (pa_cons (pe_bltn (v := .ty "tuple") (by rfl) G.tuple (by decide +kernel) rfl) pa_nil))))) (pw_or (pt_cmpR op_ne (pe_callB p_lenQ (by rfl) G.len (by decide +kernel) (pa_cons (pv 2) pa_nil)) pe_int (nomark _)) (pw_or1 (pt_not (pt_val (pe_c c__law_is_name hr (by omega) (by rfl) (pa_cons (pe_ix ix_tup (pv 2) pe_int (fun _ _ => rfl)) pa_nil)))))))) (pss_one (ps_ret (pe_tup (pa_cons pe_non (pa_cons pe_non pa_nil))))) pss_nil)
      (pss_cons (ps_if (PW.pt (pw_or (pt_not (pt_val (pe_callB call_isi (by rfl) G.isinstance (by decide +kernel) (pa_cons (pe_ix ix_tup (pv 2) pe_int (fun _ _ => rfl)) (pa_cons (pe_bltn (v := .ty "list") (by rfl) G.list (by decide +kernel) rfl) pa_nil))))) (pw_or1 (pt_cmpR p_geS (pv 1) (pe_ix ix_tup (pv 2) pe_int (fun _ _ => rfl)) (nomark _))))) (pss_one (ps_ret (pe_tup (pa_cons pe_non (pa_cons pe_non pa_nil))))) pss_nil)
      (pss_one (ps_set (i := 1) sc__law_wrong.nd rfl (by first | exact Or.inl rfl | exact Or.inr rfl) (pe_ix ix_tup (pv 2) pe_int (fun _ _ => rfl)))))))
      (pss_cons (ps_setLc (i := 3) (own := [("name", 4), ("steps", 5)]) (g := gTup K 2 (gCons (gName 4) (gCons (gName 5) (gNil)))) (tt := tYes) (by rfl) sc__law_wrong.nd rfl rfl (sw_true rfl rfl rfl (by decide +kernel)) (pi_list (pv 0)) (blkOk_by (own := [("name", 4), ("steps", 5)]) (N := ["program", "ahead", "row", "names", "name", "steps", "k"]) (sc := defScope s__law_wrong) (by decide +kernel)) (fun _ _ _ _ _ => (pg_tup rfl (pgs_cons (pg_name (i := 4) sc__law_wrong.nd rfl (by first | exact Or.inl rfl | exact Or.inr rfl)) (pgs_cons (pg_name (i := 5) sc__law_wrong.nd rfl (by first | exact Or.inl rfl | exact Or.inr rfl)) pgs_nil)))) (fun _ _ _ _ _ => pts_nil) (fun _ _ _ _ _ => (pv 4)))
      (pss_cons (ps_for PassesOwn.never rfl (pi_list (pv 0)) (pg_tup rfl (pgs_cons (pg_name (i := 4) sc__law_wrong.nd rfl (by first | exact Or.inl rfl | exact Or.inr rfl)) (pgs_cons (pg_name (i := 5) sc__law_wrong.nd rfl (by first | exact Or.inl rfl | exact Or.inr rfl)) pgs_nil))) (pss_one (ps_for PassesOwn.never rfl (pi_range1 (by rfl) G.range (pa_cons (pe_callB p_lenQ (by rfl) G.len (by decide +kernel) (pa_cons (pv 5) pa_nil)) pa_nil)) (pg_name (i := 6) sc__law_wrong.nd rfl (by first | exact Or.inl rfl | exact Or.inr rfl)) (pss_one (ps_if (pt_not (pt_val (pe_c c__law_is_step hr (by omega) (by rfl) (pa_cons (pe_ix ix_list (pv 5) (pv 6) (fun _ _ => rfl)) (pa_cons (pv 3) (pa_cons (pe_op p_sub (pe_op p_sub (pe_callB p_lenQ (by rfl) G.len (by decide +kernel) (pa_cons (pv 5) pa_nil)) pe_int) (pv 6)) pa_nil)))))) (pss_one (ps_ret (pe_tup (pa_cons (pv 4) (pa_cons (pv 6) pa_nil))))) pss_nil)))))
      (pss_one (ps_ret pe_non)))))))
theorem ok__law_told (F : FnP K "_law_told" s__law_told [] f fd) (G : Gm w K mg dP es nn) (XX : XF K) (c_check : CalX P w K mg base 11 "check" (sp_check K) []) (c_is_program : Cal P w K mg base 11 "is_program" sp_is_program []) : FnOk P w K mg base CX0 12 f fd ["program"] sp__law_told :=
  FnP.go (k := 11) F sc__law_told (fun vs H Q E => by first | (unfold sp__law_told; walk_at "len") | walk_at "len") (t__law_told K) (fun vs H Q E h => pure__law_told (K := K) XX vs H Q E h) fun cdv A outer s H E hr =>
    (pss_cons (ps_set (i := 1) sc__law_told.nd rfl (by first | exact Or.inl rfl | exact Or.inr rfl) pe_non)
      (pss_cons (ps_set (i := 2) sc__law_told.nd rfl (by first | exact Or.inl rfl | exact Or.inr rfl) pe_non)
      (pss_cons (ps_try_hold (i := 3) (tb := fun W => tAsg (tCallSD (sp_check K) [] (WE (W)) (tCons (tVar 0) (tNil))) (gName 2)) (ts := fun a cls d => tAsg (tVar 3) (gName 1)) (Wout := fun _ _ _ _ => False) rfl rfl rfl sc__law_told.nd rfl rfl ⟨rfl, by decide, Or.inl G.WorkError⟩ takes0 (fun W pn xe tk _ => (pss_one (ps_set (i := 2) sc__law_told.nd rfl (by first | exact Or.inl rfl | exact Or.inr rfl) (pe_cx c_check hr (by omega) (by rfl) tk (pa_cons (pv 0) pa_nil))))) (fun a oe cls d pn hz hf => (pss_one (ps_set (i := 1) sc__law_told.nd rfl (by first | exact Or.inl rfl | exact Or.inr rfl) (pv 3)))))
      (pss_cons (ps_if (pt_cmpR p_isN (pv 1) pe_non (nomark _)) (pss_one (ps_ret (pe_tup (pa_cons (pe_c c_is_program hr (by omega) (by rfl) (pa_cons (pv 0) pa_nil)) (pa_cons (pv 2) pa_nil))))) pss_nil)
      (pss_cons (ps_if (pt_val (pe_callB call_isHT (by rfl) G.isinstance (by decide +kernel) (pa_cons (pv 1) (pa_cons (pe_tup (pa_cons (pe_glob (by rfl) G.NoHand rfl) (pa_cons (pe_glob (by rfl) G.NoHelper rfl) (pa_cons (pe_glob (by rfl) G.NoMark rfl) (pa_cons (pe_glob (by rfl) G.NotOver rfl) (pa_cons (pe_glob (by rfl) G.NoText rfl) (pa_cons (pe_glob (by rfl) G.TooLong rfl) pa_nil))))))) pa_nil)))) (pss_one (ps_ret pe_str)) pss_nil)
      (pss_cons (ps_if (pt_not (pt_val (pe_callB call_isH (by rfl) G.isinstance (by decide +kernel) (pa_cons (pv 1) (pa_cons (pe_glob (by rfl) G.NoProgram rfl) pa_nil))))) (pss_one (ps_ret pe_str)) pss_nil)
      (pss_one (ps_ret (pe_tup (pa_cons (pe_c c_is_program hr (by omega) (by rfl) (pa_cons (pv 0) pa_nil)) (pa_cons (pe_tup (pa_cons (pe_xh (pv 1)) (pa_cons (pe_xh (pv 1)) pa_nil))) (pa_cons (pe_callB call_isH (by rfl) G.isinstance (by decide +kernel) (pa_cons (pv 1) (pa_cons (pe_bltn (v := .ty "ValueError") (by rfl) G.ValueError (by decide +kernel) rfl) pa_nil))) pa_nil))))))))))))
theorem ok__law_alike (F : FnP K "_law_alike" s__law_alike [] f fd) (G : Gm w K mg dP es nn) (c__law_wrong : Cal P w K mg base 10 "_law_wrong" sp__law_wrong []) (c__law_told : Cal P w K mg base 12 "_law_told" sp__law_told []) : FnOk P w K mg base CX0 13 f fd ["program"] sp__law_alike :=
  FnP.go (k := 12) F sc__law_alike (fun vs H Q E => by first | (unfold sp__law_alike; walk_at "len") | walk_at "len") (t__law_alike K) (fun vs H Q E h => pure__law_alike (K := K) vs H Q E h) fun cdv A outer s H E hr =>
    (pss_cons (ps_set (i := 1) sc__law_alike.nd rfl (by first | exact Or.inl rfl | exact Or.inr rfl) (pe_c c__law_wrong hr (by omega) (by rfl) (pa_cons (pv 0) pa_nil)))
      (pss_cons (ps_set (i := 2) sc__law_alike.nd rfl (by first | exact Or.inl rfl | exact Or.inr rfl) (pe_c c__law_told hr (by omega) (by rfl) (pa_cons (pv 0) pa_nil)))
      (pss_cons (ps_if (pt_cmpR p_isN (pv 1) pe_non (nomark _)) (pss_one (ps_ret (pe_and (pe_callB call_isi (by rfl) G.isinstance (by decide +kernel) (pa_cons (pv 2) (pa_cons (pe_bltn (v := .ty "tuple") (by rfl) G.tuple (by decide +kernel) rfl) pa_nil))) (pe_and (pe_cmpR p_isB (pe_ix ix_tup (pv 2) pe_int (fun _ _ => rfl)) pe_bl (nomark _)) (pe_and (pe_cmpR p_isN (pe_ix ix_tup (pv 2) pe_int (fun _ _ => rfl)) pe_non (nomark _)) (pe_one (pe_cmpR op_eq (pe_callB p_lenQ (by rfl) G.len (by decide +kernel) (pa_cons (pv 2) pa_nil)) pe_int (nomark _)))))))) pss_nil)
      (pss_cons (ps_if (PW.pt (pw_or (pt_not (pt_val (pe_callB call_isi (by rfl) G.isinstance (by decide +kernel) (pa_cons (pv 2) (pa_cons (pe_bltn (v := .ty "tuple") (by rfl) G.tuple (by decide +kernel) rfl) pa_nil))))) (pw_or (pt_cmpR op_ne (pe_callB p_lenQ (by rfl) G.len (by decide +kernel) (pa_cons (pv 2) pa_nil)) pe_int (nomark _)) (pw_or (pt_cmpR p_notB (pe_ix ix_tup (pv 2) pe_int (fun _ _ => rfl)) pe_bl (nomark _)) (pw_or1 (pt_cmpR p_notB (pe_ix ix_tup (pv 2) pe_int (fun _ _ => rfl)) pe_bl (nomark _))))))) (pss_one (ps_ret pe_bl)) pss_nil)
      (pss_one (ps_ret (pe_and (pe_cmpR (p_eqD hr.units) (pe_ix ix_tup (pv 2) pe_int (fun _ _ => rfl)) (pv 1) (nomark _)) (pe_one (pe_not (pe_callB call_isi (by rfl) G.isinstance (by decide +kernel) (pa_cons (pe_ix ix_tup (pe_ix ix_tup (pv 2) pe_int (fun _ _ => rfl)) pe_int (fun _ _ => rfl)) (pa_cons (pe_bltn (v := .ty "bool") (by rfl) G.bool (by decide +kernel) rfl) pa_nil))))))))))))
theorem ok__law_no_name (F : FnP K "_law_no_name" s__law_no_name [] f fd) (G : Gm w K mg dP es nn) (c__law_name : Cal P w K mg base 2 "_law_name" sp__law_name []) (c__law_draw : Cal P w K mg base 1 "_law_draw" sp__law_draw []) : FnOk P w K mg base CX0 3 f fd ["bag"] (sp__law_no_name04) :=
  FnP.go (k := 2) F sc__law_no_name (fun vs H Q E => by first | (unfold sp__law_no_name04; walk_at "len") | walk_at "len") (t__law_no_name04 K) (fun vs H Q E h => pure__law_no_name04 (K := K) vs H Q E h) fun cdv A outer s H E hr =>
    (pss_cons (ps_set (i := 1) sc__law_no_name.nd rfl (by first | exact Or.inl rfl | exact Or.inr rfl) (pe_c c__law_name hr (by omega) (by rfl) (pa_cons (pv 0) (pa_cons pe_str pa_nil))))
      (pss_cons (ps_set (i := 2) sc__law_no_name.nd rfl (by first | exact Or.inl rfl | exact Or.inr rfl) (pe_ix ix_list (pe_lst (pa_cons pe_str (pa_cons pe_str pa_nil))) (pe_c c__law_draw hr (by omega) (by rfl) (pa_cons (pv 0) (pa_cons pe_int pa_nil))) (fun _ _ => rfl)))
      (pss_cons (ps_set (i := 3) sc__law_no_name.nd rfl (by first | exact Or.inl rfl | exact Or.inr rfl) (pe_ix ix_str (pv 2) (pe_c c__law_draw hr (by omega) (by rfl) (pa_cons (pv 0) (pa_cons (pe_callB p_lenS (by rfl) G.len (by decide +kernel) (pa_cons (pv 2) pa_nil)) pa_nil))) (fun _ _ => rfl)))
      (pss_cons (ps_set (i := 4) sc__law_no_name.nd rfl (by first | exact Or.inl rfl | exact Or.inr rfl) (pe_c c__law_draw hr (by omega) (by rfl) (pa_cons (pv 0) (pa_cons (pe_op p_add (pe_callB p_lenS (by rfl) G.len (by decide +kernel) (pa_cons (pv 1) pa_nil)) pe_int) pa_nil))))
      (pss_cons (ps_if (pt_cmpR op_eq (pe_c c__law_draw hr (by omega) (by rfl) (pa_cons (pv 0) (pa_cons pe_int pa_nil))) pe_int (nomark _)) (pss_one (ps_ret (pe_slice sl_str (pe_op p_addS (pv 1) pe_str) po_none (po_some (pe_op p_add pe_int (pe_c c__law_draw hr (by omega) (by rfl) (pa_cons (pv 0) (pa_cons pe_int pa_nil)))))))) pss_nil)
      (pss_one (ps_ret (pe_op p_addS (pe_op p_addS (pe_slice sl_str (pv 1) po_none (po_some (pv 4))) (pv 3)) (pe_slice sl_str (pv 1) (po_some (pe_op p_add (pv 4) (pe_c c__law_draw hr (by omega) (by rfl) (pa_cons (pv 0) (pa_cons pe_int pa_nil))))) po_none)))))))))
theorem ok__law_row_turned (F : FnP K "_law_row_turned" s__law_row_turned [] f fd) (G : Gm w K mg dP es nn) (c__law_draw : Cal P w K mg base 1 "_law_draw" sp__law_draw []) (c__law_name : Cal P w K mg base 2 "_law_name" sp__law_name []) (c__law_odd : Cal P w K mg base 2 "_law_odd" (sp__law_odd04) []) (c__law_no_name : Cal P w K mg base 3 "_law_no_name" (sp__law_no_name04) []) : FnOk P w K mg base CX0 4 f fd ["bag", "row"] (sp__law_row_turned04 K) :=
  FnP.go (k := 3) F sc__law_row_turned (fun vs H Q E => by first | (unfold sp__law_row_turned04; walk_at "len") | walk_at "len") (t__law_row_turned04 K) (fun vs H Q E h => pure__law_row_turned04 (K := K) vs H Q E h) fun cdv A outer s H E hr =>
    (pss_cons (ps_set (i := 2) sc__law_row_turned.nd rfl (by first | exact Or.inl rfl | exact Or.inr rfl) (pe_c c__law_draw hr (by omega) (by rfl) (pa_cons (pv 0) (pa_cons pe_int pa_nil))))
      (pss_cons (ps_if (PW.pt (pw_or (pt_not (pt_val (pe_callB call_isi (by rfl) G.isinstance (by decide +kernel) (pa_cons (pv 1) (pa_cons (pe_bltn (v := .ty "tuple") (by rfl) G.tuple (by decide +kernel) rfl) pa_nil))))) (pw_or1 (pt_cmpR op_ne (pe_callB p_lenQ (by rfl) G.len (by decide +kernel) (pa_cons (pv 1) pa_nil)) pe_int (nomark _))))) (pss_one (ps_ret (pv 1))) pss_nil)
      (pss_cons (ps_if (pt_cmpR op_eq (pv 2) pe_int (nomark _)) (pss_one (ps_ret (pe_tup (pa_cons (pe_c c__law_name hr (by omega) (by rfl) (pa_cons (pv 0) (pa_cons pe_str pa_nil))) (pa_cons (pe_ix ix_tup (pv 1) pe_int (fun _ _ => rfl)) pa_nil))))) pss_nil)
      (pss_cons (ps_if (pt_cmpR op_eq (pv 2) pe_int (nomark _)) (pss_one (ps_ret (pe_tup (pa_cons (pe_ix ix_list (pe_lst (pa_cons (pe_c c__law_odd hr (by omega) (by rfl) (pa_cons (pv 0) pa_nil)) (pa_cons (pe_c c__law_no_name hr (by omega) (by rfl) (pa_cons (pv 0) pa_nil)) pa_nil))) (pe_c c__law_draw hr (by omega) (by rfl) (pa_cons (pv 0) (pa_cons pe_int pa_nil))) (fun _ _ => rfl)) (pa_cons (pe_ix ix_tup (pv 1) pe_int (fun _ _ => rfl)) pa_nil))))) pss_nil)
      (pss_cons (ps_if (pt_cmpR op_eq (pv 2) pe_int (nomark _)) (pss_one (ps_ret (pe_tup (pa_cons (pe_ix ix_tup (pv 1) pe_int (fun _ _ => rfl)) (pa_cons (pe_c c__law_odd hr (by omega) (by rfl) (pa_cons (pv 0) pa_nil)) pa_nil))))) pss_nil)
      (pss_cons (ps_if (pt_cmpR op_eq (pv 2) pe_int (nomark _)) (pss_one (ps_ret (pe_ifExp (pt_val (pe_callB call_isi (by rfl) G.isinstance (by decide +kernel) (pa_cons (pe_ix ix_tup (pv 1) pe_int (fun _ _ => rfl)) (pa_cons (pe_bltn (v := .ty "list") (by rfl) G.list (by decide +kernel) rfl) pa_nil)))) (pe_tup (pa_cons (pe_ix ix_tup (pv 1) pe_int (fun _ _ => rfl)) (pa_cons (pe_callTy p_tupQ (by rfl) G.tuple (by decide +kernel) (pa_cons (pe_ix ix_tup (pv 1) pe_int (fun _ _ => rfl)) pa_nil)) pa_nil))) (pv 1)))) pss_nil)
      (pss_cons (ps_if (pt_cmpR op_eq (pv 2) pe_int (nomark _)) (pss_one (ps_ret (pe_callTy p_listQ (by rfl) G.list (by decide +kernel) (pa_cons (pv 1) pa_nil)))) pss_nil)
      (pss_cons (ps_if (pt_cmpR op_eq (pv 2) pe_int (nomark _)) (pss_one (ps_ret (pe_op op_catA (pv 1) (pe_tup (pa_cons pe_int pa_nil))))) pss_nil)
      (pss_one (ps_ret (pe_ix ix_list (pe_lst (pa_cons (pe_slice sl_tupA (pv 1) po_none (po_some pe_int)) (pa_cons (pe_tup (pa_cons (pe_ix ix_tup (pv 1) pe_int (fun _ _ => rfl)) (pa_cons (pe_ix ix_tup (pv 1) pe_int (fun _ _ => rfl)) pa_nil))) pa_nil))) (pe_c c__law_draw hr (by omega) (by rfl) (pa_cons (pv 0) (pa_cons pe_int pa_nil))) (fun _ _ => rfl))))))))))))
theorem ok__law_turned (F : FnP K "_law_turned" s__law_turned [] f fd) (G : Gm w K mg dP es nn) (c__law_draw : Cal P w K mg base 1 "_law_draw" sp__law_draw []) (c__law_name : Cal P w K mg base 2 "_law_name" sp__law_name []) (c__law_row_turned : Cal P w K mg base 4 "_law_row_turned" (sp__law_row_turned04 K) []) (c__law_odd : Cal P w K mg base 2 "_law_odd" (sp__law_odd04) []) : FnOk P w K mg base CX0 5 f fd ["bag", "program"] (sp__law_turned04 K) :=
  FnP.go (k := 4) F sc__law_turned (fun vs H Q E => by first | (unfold sp__law_turned04; walk_at "len") | walk_at "len") (t__law_turned04 K) (fun vs H Q E h => pure__law_turned04 (K := K) vs H Q E h) fun cdv A outer s H E hr =>
    (pss_cons (ps_set (i := 2) sc__law_turned.nd rfl (by first | exact Or.inl rfl | exact Or.inr rfl) (pe_c c__law_draw hr (by omega) (by rfl) (pa_cons (pv 0) (pa_cons pe_int pa_nil))))
      (pss_cons (ps_set (i := 3) sc__law_turned.nd rfl (by first | exact Or.inl rfl | exact Or.inr rfl) (pe_c c__law_draw hr (by omega) (by rfl) (pa_cons (pv 0) (pa_cons (pe_op p_add (pe_callB p_lenQ (by rfl) G.len (by decide +kernel) (pa_cons (pv 1) pa_nil)) pe_int) pa_nil))))
      (pss_cons (ps_set (i := 4) sc__law_turned.nd rfl (by first | exact Or.inl rfl | exact Or.inr rfl) (pe_c c__law_draw hr (by omega) (by rfl) (pa_cons (pv 0) (pa_cons (pe_op p_add (pe_callB p_lenQ (by rfl) G.len (by decide +kernel) (pa_cons (pv 1) pa_nil)) pe_int) pa_nil))))
      (pss_cons (ps_if (pt_cmpR op_eq (pv 2) pe_int (nomark _)) (pss_one (ps_ret (pe_op op_cat (pe_op op_cat (pe_slice sl_list (pv 1) po_none (po_some (pv 3))) (pe_lst (pa_cons (pe_tup (pa_cons (pe_c c__law_name hr (by omega) (by rfl) (pa_cons (pv 0) (pa_cons pe_str pa_nil))) (pa_cons (pe_lst (pa_cons (pe_tup (pa_cons pe_str pa_nil)) pa_nil)) pa_nil))) pa_nil))) (pe_slice sl_list (pv 1) (po_some (pv 3)) po_none)))) pss_nil)
      (pss_cons (ps_if (pt_cmpR op_eq (pv 2) pe_int (nomark _)) (pss_one (ps_ret (pe_op op_cat (pe_slice sl_list (pv 1) po_none (po_some (pv 3))) (pe_slice sl_list (pv 1) (po_some (pe_op p_add (pv 3) pe_int)) po_none)))) pss_nil)
      (pss_cons (ps_if (pt_cmpR op_eq (pv 2) pe_int (nomark _)) (pss_one (ps_ret (pe_op op_cat (pe_op op_cat (pe_slice sl_list (pv 1) po_none (po_some (pv 3))) (pe_slice sl_list (pv 1) (po_some (pv 4)) (po_some (pe_op p_add (pv 4) pe_int)))) (pe_slice sl_list (pv 1) (po_some (pv 3)) po_none)))) pss_nil)
      (pss_cons (ps_if (PW.pt (pw_and (pt_cmpR op_eq (pv 2) pe_int (nomark _)) (pw_and (pt_cmpR p_lt (pv 3) (pe_callB p_lenQ (by rfl) G.len (by decide +kernel) (pa_cons (pv 1) pa_nil)) (nomark _)) (pw_and1 (pt_cmpR p_lt (pv 4) (pe_callB p_lenQ (by rfl) G.len (by decide +kernel) (pa_cons (pv 1) pa_nil)) (nomark _)))))) (pss_cons (ps_set (i := 5) sc__law_turned.nd rfl (by first | exact Or.inl rfl | exact Or.inr rfl) (pe_callTy p_listQ (by rfl) G.list (by decide +kernel) (pa_cons (pv 1) pa_nil)))
      (pss_cons (ps_asg (pe_ix ix_list (pv 1) (pv 4) (fun _ _ => rfl)) (pg_sub (pv 5) (pv 3) set_list))
      (pss_cons (ps_asg (pe_ix ix_list (pv 1) (pv 3) (fun _ _ => rfl)) (pg_sub (pv 5) (pv 4) set_list))
      (pss_one (ps_ret (pv 5)))))) pss_nil)
      (pss_cons (ps_if (PW.pt (pw_and (pt_cmpR p_lt (pv 2) pe_int (nomark _)) (pw_and1 (pt_cmpR p_lt (pv 3) (pe_callB p_lenQ (by rfl) G.len (by decide +kernel) (pa_cons (pv 1) pa_nil)) (nomark _))))) (pss_one (ps_ret (pe_op op_cat (pe_op op_cat (pe_slice sl_list (pv 1) po_none (po_some (pv 3))) (pe_lst (pa_cons (pe_c c__law_row_turned hr (by omega) (by rfl) (pa_cons (pv 0) (pa_cons (pe_ix ix_list (pv 1) (pv 3) (fun _ _ => rfl)) pa_nil))) pa_nil))) (pe_slice sl_list (pv 1) (po_some (pe_op p_add (pv 3) pe_int)) po_none)))) pss_nil)
      (pss_cons (ps_if (pt_cmpR op_eq (pv 2) pe_int (nomark _)) (pss_one (ps_ret (pe_op op_cat (pe_op op_cat (pe_slice sl_list (pv 1) po_none (po_some (pv 3))) (pe_lst (pa_cons (pe_c c__law_odd hr (by omega) (by rfl) (pa_cons (pv 0) pa_nil)) pa_nil))) (pe_slice sl_list (pv 1) (po_some (pv 3)) po_none)))) pss_nil)
      (pss_one (ps_ret (pe_ix ix_list (pe_lst (pa_cons (pe_callTy p_tupQ (by rfl) G.tuple (by decide +kernel) (pa_cons (pv 1) pa_nil)) (pa_cons (pe_lst (pa_cons (pv 1) pa_nil)) (pa_cons pe_non (pa_cons pe_str (pa_cons pe_dnewK (pa_cons pe_int (pa_cons pe_str (pa_cons pe_bl pa_nil))))))))) (pe_c c__law_draw hr (by omega) (by rfl) (pa_cons (pv 0) (pa_cons pe_int pa_nil))) (fun _ _ => rfl)))))))))))))
theorem ok_law (F : FnP K "law" s_law [] f fd) (G : Gm w K mg dP es nn) (c__law_cell_at : Cal P w K mg base 1 "_law_cell_at" (sp__law_cell_at K) []) (c__law_bag : Cal P w K mg base 1 "_law_bag" sp__law_bag []) (c__law_draw : Cal P w K mg base 1 "_law_draw" sp__law_draw []) (c__law_program : Cal P w K mg base 10 "_law_program" (sp__law_program) []) (c__law_turned : Cal P w K mg base 5 "_law_turned" (sp__law_turned04 K) []) (c__law_alike : Cal P w K mg base 13 "_law_alike" sp__law_alike []) : FnG P w K mg base CX0 14 f fd ["script"] (sp_law K) :=
  FnP.goG (k := 13) F sc_law (fun vs H Q E => by first | (unfold sp_law; walk_at "len") | walk_at "len") (t_law K) (fun vs H Q E h => pure_law (K := K) vs H Q E h) fun cdv A outer s H E hG hr =>
    (pss_cons (ps_for PassesOwn.never rfl (pi_range1 (by rfl) G.range (pa_cons (pe_callB (p_max rfl) (by rfl) G.max (by decide +kernel) (pa_cons pe_int (pa_cons (pe_callB (p_min rfl) (by rfl) G.min (by decide +kernel) (pa_cons pe_int (pa_cons (pe_callB p_lenQ (by rfl) G.len (by decide +kernel) (pa_cons (pv 0) pa_nil)) pa_nil))) pa_nil))) pa_nil)) (pg_name (i := 1) sc_law.nd rfl (by first | exact Or.inl rfl | exact Or.inr rfl)) (pss_cons (ps_set (i := 2) sc_law.nd rfl (by first | exact Or.inl rfl | exact Or.inr rfl) (pe_c c__law_bag hr (by omega) (by rfl) (pa_cons (pe_c c__law_cell_at hr (by omega) (by rfl) (pa_cons (pv 0) (pa_cons (pv 1) pa_nil))) (pa_cons (pv 1) pa_nil))))
      (pss_cons (ps_set (i := 3) sc_law.nd rfl (by first | exact Or.inl rfl | exact Or.inr rfl) (pe_ix ix_list (pe_lst (pa_cons pe_int (pa_cons pe_int (pa_cons pe_int (pa_cons pe_int (pa_cons pe_int pa_nil)))))) (pe_c c__law_draw hr (by omega) (by rfl) (pa_cons (pv 2) (pa_cons pe_int pa_nil))) (fun _ _ => rfl)))
      (pss_cons (ps_set (i := 4) sc_law.nd rfl (by first | exact Or.inl rfl | exact Or.inr rfl) (pe_c c__law_program hr (by omega) (by rfl) (pa_cons (pv 2) pa_nil)))
      (pss_cons (ps_for PassesOwn.never rfl (pi_range1 (by rfl) G.range (pa_cons (pv 3) pa_nil)) (pg_name (i := 5) sc_law.nd rfl (by first | exact Or.inl rfl | exact Or.inr rfl)) (pss_one (ps_if (pt_val (pe_callB call_isi (by rfl) G.isinstance (by decide +kernel) (pa_cons (pv 4) (pa_cons (pe_bltn (v := .ty "list") (by rfl) G.list (by decide +kernel) rfl) pa_nil)))) (pss_one (ps_set (i := 4) sc_law.nd rfl (by first | exact Or.inl rfl | exact Or.inr rfl) (pe_c c__law_turned hr (by omega) (by rfl) (pa_cons (pv 2) (pa_cons (pv 4) pa_nil))))) pss_nil)))
      (pss_cons (ps_set (i := 6) sc_law.nd rfl (by first | exact Or.inl rfl | exact Or.inr rfl) (pe_callTy (p_strX hG hr.units G.SM) (by rfl) G.str (by decide +kernel) (pa_cons (pv 4) pa_nil)))
      (pss_one (ps_if (PW.pt (pw_or (pt_not (pt_val (pe_c c__law_alike hr (by omega) (by rfl) (pa_cons (pv 4) pa_nil)))) (pw_or1 (pt_cmpR op_ne (pe_callTy (p_strX hG hr.units G.SM) (by rfl) G.str (by decide +kernel) (pa_cons (pv 4) pa_nil)) (pv 6) (nomark _))))) (pss_one (ps_ret pe_bl)) pss_nil))))))))
      (pss_one (ps_ret pe_bl)))
theorem sc_NoProgram___init__ : FnScope ["self", "helper", "at"] ["self", "helper", "at"] (defScope s_NoProgram___init__) := ⟨rfl, rfl, rfl, by decide +kernel, rfl, by decide +kernel, by decide +kernel⟩
theorem mk_NoProgram (F : MtP K "__init__" "NoProgram.__init__" s_NoProgram___init__ (He.ma K (He.ga K "NoProgram") "__init__") fd) (X : XCl K (He.ga K "NoProgram")) (I : XIn K (He.ga K "NoProgram") ["helper", "at"]) (g : mg "NoProgram" = some (.ref (He.ga K "NoProgram"))) : MkX P w K mg base "NoProgram" (He.ga K "NoProgram") ["helper", "at"] :=
  ⟨X.ox, I.no, g, _, fd, ["self", "helper", "at"], I.at_, I.ty, MtP.go (k := 0) F sc_NoProgram___init__ (fun vs H Q E h => by obtain ⟨a, xs, rfl, hl, _⟩ := h; simp at hl ⊢; omega) (t_xinit2 K "helper" "at") (fun vs H Q E h => pure_xinit2 vs H Q E h) (fun cdv A outer s H E hr => (pss_cons (ps_ost (pv 0) (pv 1)) (pss_one (ps_ost (pv 0) (pv 2))))), F.bindsN fun _ _ _ _ _ _ us hl => match us, hl with | [_, _, _], _ => rfl⟩
end
theorem facts {P : Program} {w : World} {K : PySem.W.Frag} {h : Heap} {mg : Str → Option Value} {f : Addr} (X : K.In h) (G0 : h.Ns mainGlobals mg) (hfa : mg ("law" : Str) = some (.ref f)) (c0 : He.SaysX fa fn ts [] ex w h K) :
    ∃ fd : FuncData, (∀ (s : Shared) (v : Value), BindsTo s fd ⟨[v], []⟩ [("script", v)]) ∧ ∀ base : Heap, K.In base → base.Ns mainGlobals mg → FnG P w K mg base CX0 14 f fd ["script"] (sp_law K) := by
  have c := c0.t.d
  have hd : He.dicW K (He.ga K "PARTS") = some (He.keysIn w.params partK) := (List.cons.inj (congrArg (fun z : He.AlT => z.2) c0.t)).1
  have c0m : (He.valsB K (He.ga K "PARTS") partV && (xfOk K && (decide ((K.lookup sysModules).isSome = true)))) = true := c0.more
  obtain ⟨c0more, c0r0⟩ := Bool.and_eq_true_iff.mp c0m
  obtain ⟨c0x, c0r1⟩ := Bool.and_eq_true_iff.mp c0r0
  have sm00 := c0r1
  have XX : XF K := xfOk_ok c0x
  have sm0 : SmK K := of_decide_eq_true (p := (K.lookup sysModules).isSome = true) sm00
  have T : Parts K w (He.ga K "PARTS") := parts_of hd c0more
  obtain ⟨es, nn, kd⟩ := T.kd
  obtain ⟨fd_is_whole, F_is_whole⟩ : ∃ fd, FnP K "is_whole" s_is_whole [] (He.ga K "is_whole") fd := c.def_ 0 (d := d_is_whole) rfl
  obtain ⟨fd_is_name, F_is_name⟩ : ∃ fd, FnP K "is_name" s_is_name [] (He.ga K "is_name") fd := c.def_ 1 (d := d_is_name) rfl
  obtain ⟨fd_is_expression, F_is_expression⟩ : ∃ fd, FnP K "is_expression" s_is_expression [.int 5] (He.ga K "is_expression") fd := c.def_ 2 (d := d_is_expression) rfl
  obtain ⟨fd_is_step, F_is_step⟩ : ∃ fd, FnP K "is_step" s_is_step [] (He.ga K "is_step") fd := c.def_ 3 (d := d_is_step) rfl
  obtain ⟨fd_has_form, F_has_form⟩ : ∃ fd, FnP K "has_form" s_has_form [] (He.ga K "has_form") fd := c.def_ 4 (d := d_has_form) rfl
  obtain ⟨fd_first_wrong, F_first_wrong⟩ : ∃ fd, FnP K "first_wrong" s_first_wrong [] (He.ga K "first_wrong") fd := c.def_ 5 (d := d_first_wrong) rfl
  obtain ⟨fd_is_program, F_is_program⟩ : ∃ fd, FnP K "is_program" s_is_program [] (He.ga K "is_program") fd := c.def_ 6 (d := d_is_program) rfl
  obtain ⟨fd_check, F_check⟩ : ∃ fd, FnP K "check" s_check [] (He.ga K "check") fd := c.def_ 7 (d := d_check) rfl
  obtain ⟨fd__law_cell_at, F__law_cell_at⟩ : ∃ fd, FnP K "_law_cell_at" s__law_cell_at [] (He.ga K "_law_cell_at") fd := c.def_ 8 (d := d__law_cell_at) rfl
  obtain ⟨fd__law_bag, F__law_bag⟩ : ∃ fd, FnP K "_law_bag" s__law_bag [] (He.ga K "_law_bag") fd := c.def_ 9 (d := d__law_bag) rfl
  obtain ⟨fd__law_draw, F__law_draw⟩ : ∃ fd, FnP K "_law_draw" s__law_draw [] (He.ga K "_law_draw") fd := c.def_ 10 (d := d__law_draw) rfl
  obtain ⟨fd__law_name, F__law_name⟩ : ∃ fd, FnP K "_law_name" s__law_name [] (He.ga K "_law_name") fd := c.def_ 11 (d := d__law_name) rfl
  obtain ⟨fd__law_names, F__law_names⟩ : ∃ fd, FnP K "_law_names" s__law_names [] (He.ga K "_law_names") fd := c.def_ 12 (d := d__law_names) rfl
  obtain ⟨fd__law_number, F__law_number⟩ : ∃ fd, FnP K "_law_number" s__law_number [] (He.ga K "_law_number") fd := c.def_ 13 (d := d__law_number) rfl
  obtain ⟨fd__law_expression, F__law_expression⟩ : ∃ fd, FnP K "_law_expression" s__law_expression [] (He.ga K "_law_expression") fd := c.def_ 14 (d := d__law_expression) rfl
  obtain ⟨fd__law_step, F__law_step⟩ : ∃ fd, FnP K "_law_step" s__law_step [] (He.ga K "_law_step") fd := c.def_ 15 (d := d__law_step) rfl
  obtain ⟨fd__law_program, F__law_program⟩ : ∃ fd, FnP K "_law_program" s__law_program [] (He.ga K "_law_program") fd := c.def_ 16 (d := d__law_program) rfl
  obtain ⟨fd__law_odd, F__law_odd⟩ : ∃ fd, FnP K "_law_odd" s__law_odd [] (He.ga K "_law_odd") fd := c.def_ 17 (d := d__law_odd) rfl
  obtain ⟨fd__law_is_name, F__law_is_name⟩ : ∃ fd, FnP K "_law_is_name" s__law_is_name [] (He.ga K "_law_is_name") fd := c.def_ 18 (d := d__law_is_name) rfl
  obtain ⟨fd__law_is_whole, F__law_is_whole⟩ : ∃ fd, FnP K "_law_is_whole" s__law_is_whole [] (He.ga K "_law_is_whole") fd := c.def_ 19 (d := d__law_is_whole) rfl
  obtain ⟨fd__law_is_expression, F__law_is_expression⟩ : ∃ fd, FnP K "_law_is_expression" s__law_is_expression [] (He.ga K "_law_is_expression") fd := c.def_ 20 (d := d__law_is_expression) rfl
  obtain ⟨fd__law_is_step, F__law_is_step⟩ : ∃ fd, FnP K "_law_is_step" s__law_is_step [] (He.ga K "_law_is_step") fd := c.def_ 21 (d := d__law_is_step) rfl
  obtain ⟨fd__law_wrong, F__law_wrong⟩ : ∃ fd, FnP K "_law_wrong" s__law_wrong [] (He.ga K "_law_wrong") fd := c.def_ 22 (d := d__law_wrong) rfl
  obtain ⟨fd__law_told, F__law_told⟩ : ∃ fd, FnP K "_law_told" s__law_told [] (He.ga K "_law_told") fd := c.def_ 23 (d := d__law_told) rfl
  obtain ⟨fd__law_alike, F__law_alike⟩ : ∃ fd, FnP K "_law_alike" s__law_alike [] (He.ga K "_law_alike") fd := c.def_ 24 (d := d__law_alike) rfl
  obtain ⟨fd__law_no_name, F__law_no_name⟩ : ∃ fd, FnP K "_law_no_name" s__law_no_name [] (He.ga K "_law_no_name") fd := c.def_ 25 (d := d__law_no_name) rfl
  obtain ⟨fd__law_row_turned, F__law_row_turned⟩ : ∃ fd, FnP K "_law_row_turned" s__law_row_turned [] (He.ga K "_law_row_turned") fd := c.def_ 26 (d := d__law_row_turned) rfl
  obtain ⟨fd__law_turned, F__law_turned⟩ : ∃ fd, FnP K "_law_turned" s__law_turned [] (He.ga K "_law_turned") fd := c.def_ 27 (d := d__law_turned) rfl
  obtain ⟨fd_law, F_law⟩ : ∃ fd, FnP K "law" s_law [] (He.ga K "law") fd := c.def_ 28 (d := d_law) rfl
  obtain ⟨fd_NoProgram___init__, F_NoProgram___init__⟩ : ∃ fd, MtP K "__init__" "NoProgram.__init__" s_NoProgram___init__ (He.ma K (He.ga K "NoProgram") "__init__") fd := c.def_ 29 (d := d_NoProgram___init__) rfl
  have G : Gm w K mg (He.ga K "PARTS") es nn := ⟨He.free_ok X G0 (c.fact 37 (f := .free "ValueError") rfl), He.free_ok X G0 (c.fact 38 (f := .free "all") rfl), He.free_ok X G0 (c.fact 39 (f := .free "range") rfl), He.free_ok X G0 (c.fact 40 (f := .free "list") rfl), He.free_ok X G0 (c.fact 41 (f := .free "sorted") rfl), He.free_ok X G0 (c.fact 42 (f := .free "isinstance") rfl), He.free_ok X G0 (c.fact 43 (f := .free "int") rfl), He.free_ok X G0 (c.fact 44 (f := .free "len") rfl), He.free_ok X G0 (c.fact 45 (f := .free "enumerate") rfl), He.free_ok X G0 (c.fact 46 (f := .free "max") rfl), He.free_ok X G0 (c.fact 47 (f := .free "str") rfl), He.free_ok X G0 (c.fact 48 (f := .free "bool") rfl), He.free_ok X G0 (c.fact 49 (f := .free "tuple") rfl), He.free_ok X G0 (c.fact 50 (f := .free "min") rfl), He.free_ok X G0 (c.fact 51 (f := .free "zip") rfl), (let ⟨t, e⟩ := He.str_ok X G0 (c.fact 52 (f := .str "LETTERS" letters) rfl); ⟨_, e, t, rfl⟩), (let ⟨t, e⟩ := He.int_ok X G0 (c.fact 53 (f := .int "LONGEST_NAME" 8) rfl); ⟨_, e, t, rfl⟩), ⟨_, He.glo_ok X G0 (c.fact 54 (f := .glo "PARTS") rfl), rfl⟩, He.glo_ok X G0 (c.fact 29 (f := .glo "WorkError") rfl), He.glo_ok X G0 (c.fact 30 (f := .glo "NoProgram") rfl), He.glo_ok X G0 (c.fact 31 (f := .glo "NoHelper") rfl), He.glo_ok X G0 (c.fact 32 (f := .glo "TooLong") rfl), He.glo_ok X G0 (c.fact 33 (f := .glo "NoMark") rfl), He.glo_ok X G0 (c.fact 34 (f := .glo "NoHand") rfl), He.glo_ok X G0 (c.fact 35 (f := .glo "NotOver") rfl), He.glo_ok X G0 (c.fact 36 (f := .glo "NoText") rfl), kd, sm0⟩
  have g_is_whole := He.glo_ok X G0 (c.fact 0 (f := .glo "is_whole") rfl)
  have g_is_name := He.glo_ok X G0 (c.fact 1 (f := .glo "is_name") rfl)
  have g_is_expression := He.glo_ok X G0 (c.fact 2 (f := .glo "is_expression") rfl)
  have g_is_step := He.glo_ok X G0 (c.fact 3 (f := .glo "is_step") rfl)
  have g_has_form := He.glo_ok X G0 (c.fact 4 (f := .glo "has_form") rfl)
  have g_first_wrong := He.glo_ok X G0 (c.fact 5 (f := .glo "first_wrong") rfl)
  have g_is_program := He.glo_ok X G0 (c.fact 6 (f := .glo "is_program") rfl)
  have g_check := He.glo_ok X G0 (c.fact 7 (f := .glo "check") rfl)
  have g__law_cell_at := He.glo_ok X G0 (c.fact 8 (f := .glo "_law_cell_at") rfl)
  have g__law_bag := He.glo_ok X G0 (c.fact 9 (f := .glo "_law_bag") rfl)
  have g__law_draw := He.glo_ok X G0 (c.fact 10 (f := .glo "_law_draw") rfl)
  have g__law_name := He.glo_ok X G0 (c.fact 11 (f := .glo "_law_name") rfl)
  have g__law_names := He.glo_ok X G0 (c.fact 12 (f := .glo "_law_names") rfl)
  have g__law_number := He.glo_ok X G0 (c.fact 13 (f := .glo "_law_number") rfl)
  have g__law_expression := He.glo_ok X G0 (c.fact 14 (f := .glo "_law_expression") rfl)
  have g__law_step := He.glo_ok X G0 (c.fact 15 (f := .glo "_law_step") rfl)
  have g__law_program := He.glo_ok X G0 (c.fact 16 (f := .glo "_law_program") rfl)
  have g__law_odd := He.glo_ok X G0 (c.fact 17 (f := .glo "_law_odd") rfl)
  have g__law_is_name := He.glo_ok X G0 (c.fact 18 (f := .glo "_law_is_name") rfl)
  have g__law_is_whole := He.glo_ok X G0 (c.fact 19 (f := .glo "_law_is_whole") rfl)
  have g__law_is_expression := He.glo_ok X G0 (c.fact 20 (f := .glo "_law_is_expression") rfl)
  have g__law_is_step := He.glo_ok X G0 (c.fact 21 (f := .glo "_law_is_step") rfl)
  have g__law_wrong := He.glo_ok X G0 (c.fact 22 (f := .glo "_law_wrong") rfl)
  have g__law_told := He.glo_ok X G0 (c.fact 23 (f := .glo "_law_told") rfl)
  have g__law_alike := He.glo_ok X G0 (c.fact 24 (f := .glo "_law_alike") rfl)
  have g__law_no_name := He.glo_ok X G0 (c.fact 25 (f := .glo "_law_no_name") rfl)
  have g__law_row_turned := He.glo_ok X G0 (c.fact 26 (f := .glo "_law_row_turned") rfl)
  have g__law_turned := He.glo_ok X G0 (c.fact 27 (f := .glo "_law_turned") rfl)
  have g_law := He.glo_ok X G0 (c.fact 28 (f := .glo "law") rfl)
  have e := hfa.symm.trans g_law
  cases e
  have b := FunD.bindsA (ps := ["script"]) F_law fun _ _ _ _ _ _ us hl => match us, hl with | [_], _ => rfl
  refine ⟨fd_law, fun s v => b s [v] rfl, fun base _ _ => ?_⟩
  have m_NoProgram := mk_NoProgram (P := P) (w := w) (base := base) F_NoProgram___init__ XX.np XX.inp G.NoProgram
  have o_is_whole := ok_is_whole (P := P) (base := base) F_is_whole G 
  have c_is_whole := F_is_whole.cal o_is_whole g_is_whole fun _ _ _ _ _ _ us hl => match us, hl with | [_], _ => rfl
  have o_is_name := ok_is_name (P := P) (base := base) F_is_name G 
  have c_is_name := F_is_name.cal o_is_name g_is_name fun _ _ _ _ _ _ us hl => match us, hl with | [_], _ => rfl
  have o_is_expression := ok_is_expression (P := P) (base := base) F_is_expression G T g_is_expression c_is_whole 6
  have c_is_expression_d := FnP.cald 1 0 F_is_expression o_is_expression g_is_expression (by simp) rfl fun _ _ _ _ _ _ _ us its h1 h2 => match us, its, h1, h2 with | [_], [_], _, _ => ⟨_, rfl, rfl⟩
  have o_is_step := ok_is_step (P := P) (base := base) F_is_step G c_is_expression_d c_is_whole c_is_name
  have c_is_step := F_is_step.cal o_is_step g_is_step fun _ _ _ _ _ _ us hl => match us, hl with | [_, _, _], _ => rfl
  have o_has_form := ok_has_form (P := P) (base := base) F_has_form G c_is_name
  have c_has_form := F_has_form.cal o_has_form g_has_form fun _ _ _ _ _ _ us hl => match us, hl with | [_], _ => rfl
  have o_first_wrong := ok_first_wrong (P := P) (base := base) F_first_wrong G c_has_form c_is_step
  have c_first_wrong := F_first_wrong.cal o_first_wrong g_first_wrong fun _ _ _ _ _ _ us hl => match us, hl with | [_], _ => rfl
  have o_is_program := ok_is_program (P := P) (base := base) F_is_program G c_first_wrong
  have c_is_program := F_is_program.cal o_is_program g_is_program fun _ _ _ _ _ _ us hl => match us, hl with | [_], _ => rfl
  have o_check := ok_check (P := P) (base := base) F_check G c_first_wrong m_NoProgram
  have c_check := F_check.calX o_check g_check fun _ _ _ _ _ _ us hl => match us, hl with | [_], _ => rfl
  have o__law_cell_at := ok__law_cell_at (P := P) (base := base) F__law_cell_at G 
  have c__law_cell_at := F__law_cell_at.cal o__law_cell_at g__law_cell_at fun _ _ _ _ _ _ us hl => match us, hl with | [_, _], _ => rfl
  have o__law_bag := ok__law_bag (P := P) (base := base) F__law_bag G 
  have c__law_bag := F__law_bag.cal o__law_bag g__law_bag fun _ _ _ _ _ _ us hl => match us, hl with | [_, _], _ => rfl
  have o__law_draw := ok__law_draw (P := P) (base := base) F__law_draw G 
  have c__law_draw := F__law_draw.cal o__law_draw g__law_draw fun _ _ _ _ _ _ us hl => match us, hl with | [_, _], _ => rfl
  have o__law_name := ok__law_name (P := P) (base := base) F__law_name G c__law_draw
  have c__law_name := F__law_name.cal o__law_name g__law_name fun _ _ _ _ _ _ us hl => match us, hl with | [_, _], _ => rfl
  have o__law_names := ok__law_names (P := P) (base := base) F__law_names G c__law_name
  have c__law_names := F__law_names.cal o__law_names g__law_names fun _ _ _ _ _ _ us hl => match us, hl with | [_, _], _ => rfl
  have o__law_number := ok__law_number (P := P) (base := base) F__law_number G c__law_draw
  have c__law_number := F__law_number.cal o__law_number g__law_number fun _ _ _ _ _ _ us hl => match us, hl with | [_], _ => rfl
  have o__law_expression := ok__law_expression (P := P) (base := base) F__law_expression G g__law_expression c__law_draw c__law_number 6
  have c__law_expression := F__law_expression.cal o__law_expression g__law_expression fun _ _ _ _ _ _ us hl => match us, hl with | [_, _], _ => rfl
  have o__law_step := ok__law_step (P := P) (base := base) F__law_step G c__law_draw c__law_expression c__law_name
  have c__law_step := F__law_step.cal o__law_step g__law_step fun _ _ _ _ _ _ us hl => match us, hl with | [_, _, _, _], _ => rfl
  have o__law_program := ok__law_program (P := P) (base := base) F__law_program G c__law_draw c__law_names c__law_step
  have c__law_program := F__law_program.cal o__law_program g__law_program fun _ _ _ _ _ _ us hl => match us, hl with | [_], _ => rfl
  have o__law_odd := ok__law_odd (P := P) (base := base) F__law_odd G c__law_draw
  have c__law_odd := F__law_odd.cal o__law_odd g__law_odd fun _ _ _ _ _ _ us hl => match us, hl with | [_], _ => rfl
  have o__law_is_name := ok__law_is_name (P := P) (base := base) F__law_is_name G 
  have c__law_is_name := F__law_is_name.cal o__law_is_name g__law_is_name fun _ _ _ _ _ _ us hl => match us, hl with | [_], _ => rfl
  have o__law_is_whole := ok__law_is_whole (P := P) (base := base) F__law_is_whole G 
  have c__law_is_whole := F__law_is_whole.cal o__law_is_whole g__law_is_whole fun _ _ _ _ _ _ us hl => match us, hl with | [_], _ => rfl
  have o__law_is_expression := ok__law_is_expression (P := P) (base := base) F__law_is_expression G g__law_is_expression c__law_is_whole 6
  have c__law_is_expression := F__law_is_expression.cal o__law_is_expression g__law_is_expression fun _ _ _ _ _ _ us hl => match us, hl with | [_, _], _ => rfl
  have o__law_is_step := ok__law_is_step (P := P) (base := base) F__law_is_step G c__law_is_expression c__law_is_whole c__law_is_name
  have c__law_is_step := F__law_is_step.cal o__law_is_step g__law_is_step fun _ _ _ _ _ _ us hl => match us, hl with | [_, _, _], _ => rfl
  have o__law_wrong := ok__law_wrong (P := P) (base := base) F__law_wrong G c__law_is_name c__law_is_step
  have c__law_wrong := F__law_wrong.cal o__law_wrong g__law_wrong fun _ _ _ _ _ _ us hl => match us, hl with | [_], _ => rfl
  have o__law_told := ok__law_told (P := P) (base := base) F__law_told G XX c_check c_is_program
  have c__law_told := F__law_told.cal o__law_told g__law_told fun _ _ _ _ _ _ us hl => match us, hl with | [_], _ => rfl
  have o__law_alike := ok__law_alike (P := P) (base := base) F__law_alike G c__law_wrong c__law_told
  have c__law_alike := F__law_alike.cal o__law_alike g__law_alike fun _ _ _ _ _ _ us hl => match us, hl with | [_], _ => rfl
  have o__law_no_name := ok__law_no_name (P := P) (base := base) F__law_no_name G c__law_name c__law_draw
  have c__law_no_name := F__law_no_name.cal o__law_no_name g__law_no_name fun _ _ _ _ _ _ us hl => match us, hl with | [_], _ => rfl
  have o__law_row_turned := ok__law_row_turned (P := P) (base := base) F__law_row_turned G c__law_draw c__law_name c__law_odd c__law_no_name
  have c__law_row_turned := F__law_row_turned.cal o__law_row_turned g__law_row_turned fun _ _ _ _ _ _ us hl => match us, hl with | [_, _], _ => rfl
  have o__law_turned := ok__law_turned (P := P) (base := base) F__law_turned G c__law_draw c__law_name c__law_row_turned c__law_odd
  have c__law_turned := F__law_turned.cal o__law_turned g__law_turned fun _ _ _ _ _ _ us hl => match us, hl with | [_, _], _ => rfl
  exact ok_law (P := P) (base := base) F_law G c__law_cell_at c__law_bag c__law_draw c__law_program c__law_turned c__law_alike
end Fg
open PySem PySem.W PySem.Calls PyProof.Rows
theorem PySem.Challenge.cw_forkgather_k04_helpers_turned_holds : PySem.Challenge.rw_forkgather_k04_helpers_turned.Holds :=
  Fg.close (fun K => Fg.sp_law K) (fun K H a ns hl hS => ⟨a, ns, rfl, hS, hl, fun _ => rfl⟩) fun X G0 hfa c0 => Fg.facts X G0 hfa c0
