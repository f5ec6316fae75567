import PyProof.Rows.All
import Wide.All
import OpenK.AllK
import Wide.FinOn
import KE.KStateDown
import Lean
import HandS.ForMost
import HandS.Defaults
import HandS.IsInst
import HandS.More
import HandS.Codes
import HandS.TupLe
import HandS.TupAny
import HandS.Conv
import HandS.Wide
import HandS.Walk
import KE.DataEq
import HandS.Head0
import HandS.Head1
import HandS.Head2
import HandS.HeadEnd
import HandS.HeadHook1
import HandS.HeadHook2
import HandS.HeadHook3
import HandS.HeadHook4
import KE.IntBitsLaws
import PySem.Challenge.RW_forkgather_k01_right_programs
set_option Elab.async false
set_option linter.all false
set_option maxRecDepth 100000
set_option maxHeartbeats 4000000
namespace Fg
open PySem PySem.Spec PyProof.Rows L2

/-! ### heaps: what may have changed -/
structure Chg (M : List Addr) (H H' : Hp) : Prop where
  keep : ∀ a o, H a = some o → a ∉ M → H' a = some o
  dom : ∀ a, H' a = none → H a = none
  tup : ∀ a xs, H a = some (.tup xs) → H' a = some (.tup xs)

theorem Chg.refl {M : List Addr} {H : Hp} : Chg M H H := ⟨fun _ _ h _ => h, fun _ h => h, fun _ _ h => h⟩
theorem Chg.new {H : Hp} {p : Addr} {o : HO} (n : H p = none) : Chg [] H (upd H p o) where
  keep := fun a u h _ => by rw [upd_ne (ne_of_none h n)]; exact h
  dom := fun a h => by
    by_cases e : a = p
    · subst e; exact n
    · rw [upd_ne e] at h; exact h
  tup := fun a xs h => by rw [upd_ne (ne_of_none h n)]; exact h
theorem Chg.mut {H : Hp} {p : Addr} {o u : HO} (h : H p = some u) (hm : ∀ xs, u ≠ .tup xs) : Chg [p] H (upd H p o) where
  keep := fun a v e hn => by rw [upd_ne (fun z => hn (by rw [z]; exact List.mem_singleton.mpr rfl))]; exact e
  dom := fun a e => by
    by_cases z : a = p
    · subst z; rw [upd_same] at e; cases e
    · rw [upd_ne z] at e; exact e
  tup := fun a xs e => by
    rw [upd_ne (fun z => by subst z; rw [h] at e; exact hm xs (Option.some.inj e))]; exact e
/-- then c', whose changed ones are changed ones of c or new ones -/
theorem Chg.go {M M' : List Addr} {H H1 H2 : Hp} (c : Chg M H H1) (c' : Chg M' H1 H2) (h : ∀ a ∈ M', a ∈ M ∨ H a = none) : Chg M H H2 where
  keep := fun a o e hn => c'.keep a o (c.keep a o e hn) (fun hm => (h a hm).elim hn fun z => by rw [z] at e; cases e)
  dom := fun a e => c.dom a (c'.dom a e)
  tup := fun a xs e => c'.tup a xs (c.tup a xs e)
theorem Chg.same {M : List Addr} {H H1 H2 : Hp} (c : Chg M H H1) (c' : Chg [] H1 H2) : Chg M H H2 := c.go c' fun a h => absurd h (by simp)
theorem Chg.pre {M : List Addr} {H H1 H2 : Hp} (c : Chg [] H H1) (c' : Chg M H1 H2) : Chg M H H2 :=
  ⟨fun a o e hn => c'.keep a o (c.keep a o e (by simp)) hn, fun a e => c.dom a (c'.dom a e), fun a xs e => c'.tup a xs (c.tup a xs e)⟩
theorem Chg.both {M : List Addr} {H H1 H2 : Hp} (c : Chg M H H1) (c' : Chg M H1 H2) : Chg M H H2 := c.go c' fun a h => .inl h
theorem Chg.wide {M M' : List Addr} {H H1 : Hp} (c : Chg M H H1) (h : ∀ a ∈ M, a ∈ M') : Chg M' H H1 := ⟨fun a o e hn => c.keep a o e fun z => hn (h a z), c.dom, c.tup⟩
theorem Chg.one {H H1 H2 : Hp} {p : Addr} (c : Chg [] H H1) (c' : Chg [p] H1 H2) (n : H p = none) : Chg [] H H2 :=
  c.go c' fun a h => .inr (by rw [List.mem_singleton.mp h]; exact n)
theorem Chg.at {H H' : Hp} {a : Addr} {o : HO} (c : Chg [] H H') (h : H a = some o) : H' a = some o := c.keep a o h (by simp)
theorem Chg.ne {M : List Addr} {H H' : Hp} {a b : Addr} {o : HO} (c : Chg M H H') (h : H a = some o) (n : H' b = none) : a ≠ b := fun e => by
  have z := c.dom b n
  rw [← e, h] at z; cases z
theorem Chg.at1 {H H' : Hp} {a b : Addr} {o : HO} (c : Chg [b] H H') (h : H a = some o) (n : a ≠ b) : H' a = some o := c.keep a o h (by simpa using n)
theorem Chg.seq {K : PySem.W.Frag} {H H' : Hp} {a : Addr} {xs : List V} (c : Chg [] H H') (h : SqL K H a xs) : SqL K H' a xs := by
  rcases h with (h | ⟨o, h⟩) | h
  · exact .inl (.inl (c.at h))
  · exact .inl (.inr ⟨o, c.at h⟩)
  · exact .inr h
theorem sqL {K : PySem.W.Frag} {H : Hp} {a : Addr} {xs : List V} (h : H a = some (.lst xs)) : SqL K H a xs := .inl (.inl h)
theorem sqT {K : PySem.W.Frag} {H : Hp} {a : Addr} {xs : List V} (h : H a = some (.tup xs)) : SqT K H a xs := .inl (.inl h)

/-! ### data: the lists' addresses are in S -/
mutual
inductive R (S : Addr → Prop) (H : Hp) : V → PyData → Prop
  | non : R S H .non .none
  | bl (b : Bool) : R S H (.bl b) (.bool b)
  | int (i : Int) : R S H (.int i) (.int i)
  | str (x : Str) : R S H (.str x) (.str x)
  | lst {a : Addr} {xs : List V} {ds : List PyData} : S a → H a = some (.lst xs) → RA S H xs ds → R S H (.ref a) (.list ds)
  | tup {a : Addr} {xs : List V} {ds : List PyData} : H a = some (.tup xs) → RA S H xs ds → R S H (.ref a) (.tuple ds)
  | dic {a : Addr} {kvs : List (Key × V)} : S a → H a = some (.dK kvs) → R S H (.ref a) (.dict [])
inductive RA (S : Addr → Prop) (H : Hp) : List V → List PyData → Prop
  | nil : RA S H [] []
  | cons {v : V} {vs : List V} {d : PyData} {ds : List PyData} : R S H v d → RA S H vs ds → RA S H (v :: vs) (d :: ds)
end
mutual
theorem R.imp {S S' : Addr → Prop} {H H' : Hp} (hl : ∀ a xs, S a → H a = some (.lst xs) → S' a ∧ H' a = some (.lst xs)) (hd : ∀ a xs, S a → H a = some (.dK xs) → S' a ∧ H' a = some (.dK xs))
    (ht : ∀ a xs, H a = some (.tup xs) → H' a = some (.tup xs)) : ∀ {d : PyData} {v : V}, R S H v d → R S' H' v d
  | .none, _, h => by cases h; exact .non
  | .bool _, _, h => by cases h; exact .bl _
  | .int _, _, h => by cases h; exact .int _
  | .str _, _, h => by cases h; exact .str _
  | .list ds, _, h => by
    cases h with
    | lst s e r => exact .lst (hl _ _ s e).1 (hl _ _ s e).2 (RA.imp hl hd ht r)
  | .tuple ds, _, h => by
    cases h with
    | tup e r => exact .tup (ht _ _ e) (RA.imp hl hd ht r)
  | .dict _, _, h => by
    cases h with
    | dic s e => exact .dic (hd _ _ s e).1 (hd _ _ s e).2
theorem RA.imp {S S' : Addr → Prop} {H H' : Hp} (hl : ∀ a xs, S a → H a = some (.lst xs) → S' a ∧ H' a = some (.lst xs)) (hd : ∀ a xs, S a → H a = some (.dK xs) → S' a ∧ H' a = some (.dK xs))
    (ht : ∀ a xs, H a = some (.tup xs) → H' a = some (.tup xs)) : ∀ {ds : List PyData} {vs : List V}, RA S H vs ds → RA S' H' vs ds
  | [], _, h => by cases h; exact .nil
  | d :: ds, _, h => by
    cases h with
    | cons a b => exact .cons (R.imp hl hd ht a) (RA.imp hl hd ht b)
end
theorem R.keep {S : Addr → Prop} {M : List Addr} {H H' : Hp} {v : V} {d : PyData} (c : Chg M H H') (h : ∀ a, S a → a ∉ M) (r : R S H v d) : R S H' v d :=
  R.imp (fun a xs s e => ⟨s, c.keep a _ e (h a s)⟩) (fun a xs s e => ⟨s, c.keep a _ e (h a s)⟩) c.tup r
theorem RA.keep {S : Addr → Prop} {M : List Addr} {H H' : Hp} {v : List V} {d : List PyData} (c : Chg M H H') (h : ∀ a, S a → a ∉ M) (r : RA S H v d) : RA S H' v d :=
  RA.imp (fun a xs s e => ⟨s, c.keep a _ e (h a s)⟩) (fun a xs s e => ⟨s, c.keep a _ e (h a s)⟩) c.tup r
theorem R.mono {S S' : Addr → Prop} {H : Hp} {v : V} {d : PyData} (h : ∀ a, S a → S' a) (r : R S H v d) : R S' H v d :=
  R.imp (fun a xs s e => ⟨h a s, e⟩) (fun a xs s e => ⟨h a s, e⟩) (fun _ _ e => e) r
theorem RA.mono {S S' : Addr → Prop} {H : Hp} {v : List V} {d : List PyData} (h : ∀ a, S a → S' a) (r : RA S H v d) : RA S' H v d :=
  RA.imp (fun a xs s e => ⟨h a s, e⟩) (fun a xs s e => ⟨h a s, e⟩) (fun _ _ e => e) r
/-- all that stands in H stands in H' -/
theorem R.same {S : Addr → Prop} {H H' : Hp} {v : V} {d : PyData} (c : Chg [] H H') (r : R S H v d) : R S H' v d := r.keep c fun _ _ => by simp
theorem RA.same {S : Addr → Prop} {H H' : Hp} {v : List V} {d : List PyData} (c : Chg [] H H') (r : RA S H v d) : RA S H' v d := r.keep c fun _ _ => by simp
/-- data without lists -/
abbrev Im : Hp → V → PyData → Prop := R (fun _ => False)
abbrev ImA : Hp → List V → List PyData → Prop := RA (fun _ => False)
theorem R.im {M : List Addr} {H H' : Hp} {v : V} {d : PyData} (c : Chg M H H') (r : Im H v d) : Im H' v d := R.keep c (fun _ z => z.elim) r
theorem RA.im {M : List Addr} {H H' : Hp} {v : List V} {d : List PyData} (c : Chg M H H') (r : ImA H v d) : ImA H' v d := RA.keep c (fun _ z => z.elim) r
theorem R.any {S : Addr → Prop} {H : Hp} {v : V} {d : PyData} (r : Im H v d) : R S H v d := r.mono fun _ z => z.elim
theorem RA.any {S : Addr → Prop} {H : Hp} {v : List V} {d : List PyData} (r : ImA H v d) : RA S H v d := r.mono fun _ z => z.elim
theorem RA.length {S : Addr → Prop} {H : Hp} : ∀ {vs : List V} {ds : List PyData}, RA S H vs ds → vs.length = ds.length
  | _, _, .nil => rfl
  | _, _, .cons _ r => by rw [List.length_cons, List.length_cons, r.length]
theorem RA.get {S : Addr → Prop} {H : Hp} : ∀ {vs : List V} {ds : List PyData} {i : Nat} {v : V}, RA S H vs ds → vs[i]? = some v → ∃ d, ds[i]? = some d ∧ R S H v d
  | _, _, _, _, .nil, h => by simp at h
  | _, _, 0, _, .cons a r, h => ⟨_, rfl, by cases (Option.some.inj (show some _ = some _ from h)); exact a⟩
  | _, _, i + 1, _, .cons a r, h => RA.get (i := i) r h
theorem RA.get' {S : Addr → Prop} {H : Hp} : ∀ {vs : List V} {ds : List PyData} {i : Nat} {d : PyData}, RA S H vs ds → ds[i]? = some d → ∃ v, vs[i]? = some v ∧ R S H v d
  | _, _, _, _, .nil, h => by simp at h
  | _, _, 0, _, .cons a r, h => ⟨_, rfl, by cases (Option.some.inj (show some _ = some _ from h)); exact a⟩
  | _, _, i + 1, _, .cons a r, h => RA.get' (i := i) r h
theorem RA.snoc {S : Addr → Prop} {H : Hp} : ∀ {vs : List V} {ds : List PyData} {v : V} {d : PyData}, RA S H vs ds → R S H v d → RA S H (vs ++ [v]) (ds ++ [d])
  | _, _, _, _, .nil, h => .cons h .nil
  | _, _, _, _, .cons a r, h => .cons a (r.snoc h)
theorem RA.append {S : Addr → Prop} {H : Hp} : ∀ {vs ws : List V} {ds es : List PyData}, RA S H vs ds → RA S H ws es → RA S H (vs ++ ws) (ds ++ es)
  | _, _, _, _, .nil, h => h
  | _, _, _, _, .cons a r, h => .cons a (r.append h)
theorem RA.drop {S : Addr → Prop} {H : Hp} : ∀ {vs : List V} {ds : List PyData} (n : Nat), RA S H vs ds → RA S H (vs.drop n) (ds.drop n)
  | _, _, 0, h => h
  | _, _, _ + 1, .nil => .nil
  | _, _, n + 1, .cons _ r => r.drop n
theorem RA.take {S : Addr → Prop} {H : Hp} : ∀ {vs : List V} {ds : List PyData} (n : Nat), RA S H vs ds → RA S H (vs.take n) (ds.take n)
  | _, _, 0, _ => .nil
  | _, _, _ + 1, .nil => .nil
  | _, _, n + 1, .cons a r => .cons a (r.take n)
/-- no dict in it -/
abbrev noDic : PyData → Bool := PyData.plain
abbrev noDics : List PyData → Bool := PyData.plainAll
mutual
theorem eqv_self : ∀ d : PyData, noDic d = true → PyData.eqv d d = true
  | .none, _ => rfl
  | .bool b, _ => by simp [PyData.eqv]
  | .int i, _ => by simp [PyData.eqv]
  | .str x, _ => by simp [PyData.eqv]
  | .list xs, h => by
    show PyData.eqvAll xs xs = true
    exact eqvAll_self xs h
  | .tuple xs, h => by
    show PyData.eqvAll xs xs = true
    exact eqvAll_self xs h
  | .dict _, h => by cases h
theorem eqvAll_self : ∀ ds : List PyData, noDics ds = true → PyData.eqvAll ds ds = true
  | [], _ => rfl
  | d :: ds, h => by
    obtain ⟨h1, h2⟩ := Bool.and_eq_true_iff.mp (show (noDic d && noDics ds) = true from h)
    show (PyData.eqv d d && PyData.eqvAll ds ds) = true
    rw [eqv_self d h1, eqvAll_self ds h2]
    rfl
end
mutual
theorem R.dp {K : PySem.W.Frag} {S : Addr → Prop} {H : Hp} : ∀ {d : PyData} {v : V}, R S H v d → noDic d = true → Dp K H v d
  | .none, _, h, _ => by cases h; exact .non
  | .bool _, _, h, _ => by cases h; exact .bl _
  | .int _, _, h, _ => by cases h; exact .int _
  | .str _, _, h, _ => by cases h; exact .str _
  | .list ds, _, h, z => by
    cases h with
    | lst s e r => exact .lst (sqL e) (RA.dp r z)
  | .tuple ds, _, h, z => by
    cases h with
    | tup e r => exact .tup (sqT e) (RA.dp r z)
  | .dict _, _, h, z => by cases z
theorem RA.dp {K : PySem.W.Frag} {S : Addr → Prop} {H : Hp} : ∀ {ds : List PyData} {vs : List V}, RA S H vs ds → noDics ds = true → DpAll K H vs ds
  | [], _, h, _ => by cases h; exact .nil
  | d :: ds, _, h, z => by
    obtain ⟨z1, z2⟩ := Bool.and_eq_true_iff.mp (show (noDic d && noDics ds) = true from z)
    cases h with
    | cons a b => exact .cons (R.dp a z1) (RA.dp b z2)
end
end Fg
namespace Fg
open PySem PySem.Spec PyProof.Rows L2
/-! ### readings with names, their rules, their steps -/
section
variable {X : Cx}
def oAdd : R2 := rI0 fun i j => .int (i + j)
def oSub : R2 := rI0 fun i j => .int (i - j)
def oMul : R2 := rI CMul fun i j => .int (i * j)
def oFdiv : R2 := rI CDivW fun i j => .int (i / j)
def oMod : R2 := rI (fun _ j => 0 < j) fun i j => .int (i % j)
def CPowW (i j : Int) : Prop := 0 ≤ j ∧ (Builtin.Int.intBits i : Int) * j ≤ 2 ^ 27
def oPow : R2 := rI CPowW fun i j => .int (i ^ j.toNat)
def oLt : R2 := rI0 fun i j => .bl (decide (i < j))
def oLe : R2 := rI0 fun i j => .bl (decide (i ≤ j))
def oGt : R2 := rI0 fun i j => .bl (decide (j < i))
def oGe : R2 := rI0 fun i j => .bl (decide (j ≤ i))
def oAddS : R2 := fun x y H Q => ∃ i j, x = .str i ∧ y = .str j ∧ i.length + j.length ≤ sizeLine ∧ Q (.str (i ++ j)) H
def oLtS : R2 := fun x y H Q => ∃ i j, x = .str i ∧ y = .str j ∧ Q (.bl (decide (i.cps.toList < j.cps.toList))) H
def oGeS : R2 := fun x y H Q => ∃ i j, x = .str i ∧ y = .str j ∧ Q (.bl (!decide (i.cps.toList < j.cps.toList))) H
def oInC : R2 := fun x y H Q => ∃ (c : Nat) (z : Str), x = .str ⟨#[c]⟩ ∧ y = .str z ∧ Q (.bl (decide (c ∈ z.cps.toList))) H
def oNotInC : R2 := fun x y H Q => ∃ (c : Nat) (z : Str), x = .str ⟨#[c]⟩ ∧ y = .str z ∧ Q (.bl (!decide (c ∈ z.cps.toList))) H
def oIsN : R2 := fun x y H Q => y = .non ∧ Q (.bl (decide (x = .non))) H
def oNotN : R2 := fun x y H Q => y = .non ∧ Q (.bl (!decide (x = .non))) H
def oIsB : R2 := fun x y H Q => ∃ a b, x = .bl a ∧ y = .bl b ∧ Q (.bl (decide (a = b))) H
def oNotB : R2 := fun x y H Q => ∃ a b, x = .bl a ∧ y = .bl b ∧ Q (.bl (!decide (a = b))) H
def oInKd (K : PySem.W.Frag) (d : Addr) : R2 := fun x y H Q => ∃ (z : Str) (r : Option Value), x = .str z ∧ y = .ref d ∧ PySem.W.nsIn K d z = some r ∧ Q (.bl r.isSome) H
def oNotInKd (K : PySem.W.Frag) (d : Addr) : R2 := fun x y H Q => ∃ (z : Str) (r : Option Value), x = .str z ∧ y = .ref d ∧ PySem.W.nsIn K d z = some r ∧ Q (.bl (!r.isSome)) H
def oEqD : R2 := fun x y H Q => ∃ (d e : PyData) (S S' : Addr → Prop), R S H x d ∧ R S' H y e ∧ noDic d = true ∧ noDic e = true ∧ min d.depth e.depth ≤ 60 ∧ Q (.bl (PyData.eqv d e)) H
def oNeD : R2 := fun x y H Q => ∃ (d e : PyData) (S S' : Addr → Prop), R S H x d ∧ R S' H y e ∧ noDic d = true ∧ noDic e = true ∧ min d.depth e.depth ≤ 60 ∧ Q (.bl (!PyData.eqv d e)) H
theorem p_eqD (hu : X.A.units + 64 < cLine) : OpR X (compareOp .Eq) oEqD := by
  intro pins s σ H x y v u Q I rx ry h
  obtain ⟨d, e, S, S', hd, he, sd, se, hm, q⟩ := h
  obtain ⟨as, r1⟩ := Dp.reads I d x v (hd.dp sd) rx
  obtain ⟨bs, r2⟩ := Dp.reads I e y u (he.dp se) ry
  exact SeqAt.eq_plain r1 r2 sd se (by omega) ⟨.bl _, H, I, rfl, q⟩
theorem p_neD (hu : X.A.units + 64 < cLine) : OpR X (compareOp .NotEq) oNeD := by
  intro pins s σ H x y v u Q I rx ry h
  obtain ⟨d, e, S, S', hd, he, sd, se, hm, q⟩ := h
  obtain ⟨as, r1⟩ := Dp.reads I d x v (hd.dp sd) rx
  obtain ⟨bs, r2⟩ := Dp.reads I e y u (he.dp se) ry
  exact SeqAt.ne_plain r1 r2 sd se (by omega) ⟨.bl _, H, I, rfl, q⟩
def mJoin (K : PySem.W.Frag) : V → List V → Hp → VK → Prop := fun x xs H Q => ∃ a p, ∃ ys : List Str, x = .str a ∧ xs = [.ref p] ∧ (SqL K H p (ys.map V.str) ∨ SqT K H p (ys.map V.str)) ∧ (ys.map (·.length)).sum + ys.length * a.length ≤ 16777216 ∧ Q (.str (Txt.join a ys)) H
def mSplit : V → List V → Hp → VK → Prop := fun x xs H Q => ∃ a b, x = .str a ∧ xs = [.str b] ∧ (b.length == 0) = false ∧ a.length + 2 ≤ sizeLine ∧ rNewStrs (Txt.split a b) H Q
def mPartition : V → List V → Hp → VK → Prop := fun x xs H Q => ∃ a b, x = .str a ∧ xs = [.str b] ∧ (b.length == 0) = false ∧ a.length ≤ sizeLine ∧ ∀ p, H p = none → Q (.ref p) (upd H p (.tup [.str (Txt.partition a b).1, .str (Txt.partition a b).2.1, .str (Txt.partition a b).2.2]))
theorem p_add : OpR X (binaryOp .Add) oAdd := op_add
theorem p_sub : OpR X (binaryOp .Sub) oSub := op_sub
theorem p_mul : OpR X (binaryOp .Mult) oMul := op_mul
theorem p_fdiv : OpR X (binaryOp .FloorDiv) oFdiv := op_fdivW
theorem p_mod : OpR X (binaryOp .Mod) oMod := op_mod
theorem p_pow : OpR X (binaryOp .Pow) oPow := opI fun _ _ _ _ _ _ _ hc q => pow_int hc.1 hc.2 q
theorem p_lt : OpR X (compareOp .Lt) oLt := op_lt
theorem p_le : OpR X (compareOp .LtE) oLe := op_le
theorem p_gt : OpR X (compareOp .Gt) oGt := op_gt
theorem p_ge : OpR X (compareOp .GtE) oGe := op_ge
theorem p_addS : OpR X (binaryOp .Add) oAddS := op_add_str
theorem p_ltS : OpR X (compareOp .Lt) oLtS := op_lt_str
theorem p_geS : OpR X (compareOp .GtE) oGeS := op_ge_str
theorem p_inC : OpR X (compareOp .In) oInC := op_in_sign
theorem p_notInC : OpR X (compareOp .NotIn) oNotInC := op_notIn_sign
theorem p_isN : OpR X (compareOp .Is) oIsN := op_isN
theorem p_notN : OpR X (compareOp .IsNot) oNotN := op_notN
theorem p_isB : OpR X (compareOp .Is) oIsB := op_is_bl
theorem p_notB : OpR X (compareOp .IsNot) oNotB := op_isnot_bl
def cMax : List V → Hp → VK → Prop := fun xs H Q => ∃ i j, xs = [.int i, .int j] ∧ Q (.int (if j > i then j else i)) H
def cMin : List V → Hp → VK → Prop := fun xs H Q => ∃ i j, xs = [.int i, .int j] ∧ Q (.int (if j < i then j else i)) H
def cAbs : List V → Hp → VK → Prop := fun xs H Q => ∃ i, xs = [.int i] ∧ Q (.int (if i < 0 then -i else i)) H
def cInt : List V → Hp → VK → Prop := fun xs H Q => (∃ i, xs = [.int i] ∧ Q (.int i) H) ∨ ∃ k, xs = [.bl k] ∧ Q (.int (if k then 1 else 0)) H
def cStrI : List V → Hp → VK → Prop := fun xs H Q => ∃ i, xs = [.int i] ∧ i.natAbs.log2 < 1920 ∧ Q (.str (toString i)) H
def cLenQ (K : PySem.W.Frag) : List V → Hp → VK → Prop := fun xs H Q => ∃ p ys, xs = [.ref p] ∧ (SqL K H p ys ∨ SqT K H p ys) ∧ Q (.int ys.length) H
def cLenS : List V → Hp → VK → Prop := fun xs H Q => ∃ z, xs = [.str z] ∧ z.length ≤ sizeLine ∧ Q (.int z.length) H
def cListQ (K : PySem.W.Frag) : List V → Hp → VK → Prop := fun xs H Q => ∃ p ys, xs = [.ref p] ∧ (SqL K H p ys ∨ SqT K H p ys) ∧ ∀ l, H l = none → Q (.ref l) (upd H l (.lst ys))
def cTupQ (K : PySem.W.Frag) : List V → Hp → VK → Prop := fun xs H Q => ∃ p ys, xs = [.ref p] ∧ ((SqL K H p ys ∧ ∀ l, H l = none → Q (.ref l) (upd H l (.tup ys))) ∨ (SqT K H p ys ∧ Q (.ref p) H))
def cListD : List V → Hp → VK → Prop := fun xs H Q => ∃ (a : Addr) (kvs : List (Key × V)), xs = [.ref a] ∧ Rd H a (.dK kvs) ∧ ∀ p, H p = none → Q (.ref p) (upd H p (.lst (kvs.map fun kv => kV kv.1)))
theorem p_max (hc : X.calm = true) : CallR X (.builtin "max") cMax := call_max2 hc
theorem p_min (hc : X.calm = true) : CallR X (.builtin "min") cMin := call_min2 hc
theorem p_abs : CallR X (.builtin "abs") cAbs := call_abs
theorem p_int : CallR X (.type "int") cInt := call_int1
theorem p_strI : CallR X (.type "str") cStrI := call_str_int
theorem p_lenQ : CallR X (.builtin "len") (cLenQ X.K) := call_len_seq
theorem p_lenS : CallR X (.builtin "len") cLenS := call_len_str
theorem p_listQ : CallR X (.type "list") (cListQ X.K) := call_list_of
theorem p_tupQ : CallR X (.type "tuple") (cTupQ X.K) := call_tuple_of
theorem p_listD (hc : X.calm = true) : CallR X (.type "list") cListD := call_listD hc
end
section
variable {K : PySem.W.Frag} {σ : L2.St} {H : Hp} {D : Ends} {te ta tb tc : TE} {tr : TA} {g : TG} {gs : TGs} {t u : TS} {c c' : TT} {r r' : R2} {Q : VK} {QB : Bool → Hp → Prop} {QA : List V → Hp → Prop} {QS : L2.St → Hp → Prop} {QO : Option Int → Hp → Prop} {i j : Int} {n : Nat} {v x y : V} {vs xs : List V} {p a : Addr} {z z' : Str} {b : Bool}
theorem w_seq (h : t { D with nx := u D } σ H) : tSeq t u D σ H := h
theorem w_next (h : D.nx σ H) : tNext D σ H := h
theorem w_break (h : D.bk σ H) : tBreak D σ H := h
theorem w_cont (h : D.ct σ H) : tCont D σ H := h
theorem w_drop (h : te σ H fun _ H1 => D.nx σ H1) : tDrop te D σ H := h
theorem w_ret (h : te σ H D.rt) : tRet te D σ H := h
theorem w_retN (h : D.rt .non H) : tRetN D σ H := h
theorem w_if (h : c σ H fun b H1 => if b = true then t D σ H1 else u D σ H1) : tIfS c t u D σ H := h
theorem w_asg (h : te σ H fun x H1 => g x σ H1 D.nx) : tAsg te g D σ H := h
theorem w_gName (h : QS (σ.set n (some v)) H) : gName n v σ H QS := h
theorem w_gTup (h : H a = some (.tup xs)) (hl : xs.length = n) (q : gs xs σ H QS) : gTup K n gs (.ref a) σ H QS := ⟨a, xs, rfl, sqT h, hl, q⟩
theorem w_gCons (h : g v σ H fun σ' H' => gs vs σ' H' QS) : gCons g gs (v :: vs) σ H QS := ⟨v, vs, rfl, h⟩
theorem w_gNil (h : QS σ H) : gNil [] σ H QS := ⟨rfl, h⟩
theorem w_gSub {to ti : TE} {ts : TSet} (h : to σ H fun o H1 => ti σ H1 fun i H2 => ts o i v H2 fun H3 => QS σ H3) : gSub to ti ts v σ H QS := h
theorem w_aug {ti : TIp} (h : σ[n]? = some (some x)) (q : te σ H fun y H1 => ti x y H1 fun z H2 => D.nx (σ.set n (some z)) H2) : tAug n te ti D σ H := ⟨x, h, q⟩
theorem w_ipI {f : Int → Int → Int} (q : Q (.int (f i j)) H) : ipI f (.int i) (.int j) H Q := ⟨i, j, rfl, rfl, q⟩
theorem w_var (h : σ[n]? = some (some v)) (q : Q v H) : tVar n σ H Q := ⟨v, h, q⟩
theorem w_c (q : Q v H) : tC v σ H Q := q
theorem w_op (h : ta σ H fun x H1 => tb σ H1 fun y H2 => r x y H2 Q) : tOp r ta tb σ H Q := h
theorem w_un {ru : V → Hp → VK → Prop} (h : ta σ H fun x H1 => ru x H1 Q) : tUn ru ta σ H Q := h
theorem w_neg (q : Q (.int (-i)) H) : rU (fun i => .int (-i)) (.int i) H Q := ⟨i, rfl, q⟩
theorem w_nil (q : QA [] H) : tNil σ H QA := q
theorem w_cons (h : ta σ H fun x H1 => tr σ H1 fun xs H2 => QA (x :: xs) H2) : tCons ta tr σ H QA := h
theorem w_cb {rc : List V → Hp → VK → Prop} (h : tr σ H fun vs H1 => rc vs H1 Q) : tCB rc tr σ H Q := h
theorem w_call {sp : Sp} {dvs : List V} {E : XK} (h : tr σ H fun vs H1 => sp (vs ++ dvs) H1 Q E) : tCall sp dvs E tr σ H Q := h
theorem w_test (h : te σ H fun x H' => ∃ k, x = .bl k ∧ QB k H') : tTest te σ H QB := h
theorem w_B (h : te σ H fun x H' => ∃ k, x = .bl k ∧ QB k H') : tB te σ H QB := h
theorem w_isbl {P : Bool → Prop} (q : P b) : ∃ k, V.bl b = .bl k ∧ P k := ⟨b, rfl, q⟩
theorem w_and (h : c σ H fun b H1 => if b = true then c' σ H1 QB else QB false H1) : tAnd c c' σ H QB := h
theorem w_or (h : c σ H fun b H1 => if b = true then QB true H1 else c' σ H1 QB) : tOr c c' σ H QB := h
theorem w_not (h : c σ H fun b H1 => QB (!b) H1) : tNot c σ H QB := h
theorem w_andV (h : ta σ H fun x H1 => ∃ c, x = .bl c ∧ if c = true then tb σ H1 Q else Q (.bl false) H1) : tAndV ta tb σ H Q := h
theorem w_orV (h : ta σ H fun x H1 => ∃ c, x = .bl c ∧ if c = true then Q (.bl true) H1 else tb σ H1 Q) : tOrV ta tb σ H Q := h
theorem w_notV (h : ta σ H fun x H1 => ∃ c, x = .bl c ∧ Q (.bl (!c)) H1) : tNotV ta σ H Q := h
theorem w_ifE (h : c σ H fun b H1 => if b = true then ta σ H1 Q else tb σ H1 Q) : tIf c ta tb σ H Q := h
theorem w_chain (h : ta σ H fun x H1 => tb σ H1 fun y H2 => r x y H2 fun z H3 => ∃ k, z = .bl k ∧ (if k = true then tc σ H3 fun w' H4 => r' y w' H4 Q else Q (.bl false) H3)) : tChain r r' ta tb tc σ H Q := h
theorem w_tup (h : tr σ H fun xs H1 => xs.length ≤ sizeLine ∧ ∀ p H2, H1 p = none → Chg [] H1 H2 → H2 p = some (.tup xs) → Q (.ref p) H2) (hm : ∀ {P P' : List V → Hp → Prop}, (∀ v H, P v H → P' v H) → tr σ H P → tr σ H P') : tTup tr σ H Q :=
  hm (fun xs H1 ⟨h1, h2⟩ => ⟨h1, fun p np => h2 p _ np (.new np) upd_same⟩) h
/-- the last part of a display -/
def KTup (Q : VK) : List V → Hp → Prop := fun xs H1 => xs.length ≤ sizeLine ∧ ∀ p, H1 p = none → Q (.ref p) (upd H1 p (.tup xs))
def KLst (Q : VK) : List V → Hp → Prop := fun xs H1 => xs.length ≤ sizeLine ∧ ∀ p, H1 p = none → Q (.ref p) (upd H1 p (.lst xs))
theorem w_tup1 (h : tr σ H (KTup Q)) : tTup tr σ H Q := h
theorem w_lst1 (h : tr σ H (KLst Q)) : tLst tr σ H Q := h
theorem k_tup {H1 : Hp} (hl : xs.length ≤ sizeLine) (h : ∀ p H2, H1 p = none → Chg [] H1 H2 → H2 p = some (.tup xs) → Q (.ref p) H2) : KTup Q xs H1 := ⟨hl, fun p np => h p _ np (.new np) upd_same⟩
theorem k_lst {H1 : Hp} (hl : xs.length ≤ sizeLine) (h : ∀ p H2, H1 p = none → Chg [] H1 H2 → H2 p = some (.lst xs) → Q (.ref p) H2) : KLst Q xs H1 := ⟨hl, fun p np => h p _ np (.new np) upd_same⟩
/-- a new object -/
theorem d_new {H1 : Hp} {o : HO} (h : ∀ p H2, H1 p = none → Chg [] H1 H2 → H2 p = some o → Q (.ref p) H2) : ∀ p, H1 p = none → Q (.ref p) (upd H1 p o) := fun p np => h p _ np (.new np) upd_same
theorem w_add (q : Q (.int (i + j)) H) : oAdd (.int i) (.int j) H Q := ⟨i, j, rfl, rfl, q⟩
theorem w_sub (q : Q (.int (i - j)) H) : oSub (.int i) (.int j) H Q := ⟨i, j, rfl, rfl, q⟩
theorem w_mul (h : CMul i j) (q : Q (.int (i * j)) H) : oMul (.int i) (.int j) H Q := ⟨i, j, rfl, rfl, h, q⟩
theorem w_fdiv (h : CDivW i j) (q : Q (.int (i / j)) H) : oFdiv (.int i) (.int j) H Q := ⟨i, j, rfl, rfl, h, q⟩
theorem w_mod (h : 0 < j) (q : Q (.int (i % j)) H) : oMod (.int i) (.int j) H Q := ⟨i, j, rfl, rfl, h, q⟩
theorem w_pow (h : CPowW i j) (q : Q (.int (i ^ j.toNat)) H) : oPow (.int i) (.int j) H Q := ⟨i, j, rfl, rfl, h, q⟩
theorem w_lt (q : Q (.bl (decide (i < j))) H) : oLt (.int i) (.int j) H Q := ⟨i, j, rfl, rfl, q⟩
theorem w_le (q : Q (.bl (decide (i ≤ j))) H) : oLe (.int i) (.int j) H Q := ⟨i, j, rfl, rfl, q⟩
theorem w_gt (q : Q (.bl (decide (j < i))) H) : oGt (.int i) (.int j) H Q := ⟨i, j, rfl, rfl, q⟩
theorem w_ge (q : Q (.bl (decide (j ≤ i))) H) : oGe (.int i) (.int j) H Q := ⟨i, j, rfl, rfl, q⟩
theorem w_addS (h : z.length + z'.length ≤ sizeLine) (q : Q (.str (z ++ z')) H) : oAddS (.str z) (.str z') H Q := ⟨z, z', rfl, rfl, h, q⟩
theorem w_ltS (q : Q (.bl (decide (z.cps.toList < z'.cps.toList))) H) : oLtS (.str z) (.str z') H Q := ⟨z, z', rfl, rfl, q⟩
theorem w_geS (q : Q (.bl (!decide (z.cps.toList < z'.cps.toList))) H) : oGeS (.str z) (.str z') H Q := ⟨z, z', rfl, rfl, q⟩
theorem w_inC {c : Nat} (q : Q (.bl (decide (c ∈ z.cps.toList))) H) : oInC (.str ⟨#[c]⟩) (.str z) H Q := ⟨c, z, rfl, rfl, q⟩
theorem w_notInC {c : Nat} (q : Q (.bl (!decide (c ∈ z.cps.toList))) H) : oNotInC (.str ⟨#[c]⟩) (.str z) H Q := ⟨c, z, rfl, rfl, q⟩
theorem w_isN (q : Q (.bl (decide (x = .non))) H) : oIsN x .non H Q := ⟨rfl, q⟩
theorem w_notN (q : Q (.bl (!decide (x = .non))) H) : oNotN x .non H Q := ⟨rfl, q⟩
theorem w_isB {b' : Bool} (q : Q (.bl (decide (b = b'))) H) : oIsB (.bl b) (.bl b') H Q := ⟨b, b', rfl, rfl, q⟩
theorem w_notB {b' : Bool} (q : Q (.bl (!decide (b = b'))) H) : oNotB (.bl b) (.bl b') H Q := ⟨b, b', rfl, rfl, q⟩
theorem w_eq (h : scal x y = true) (q : Q (.bl (decide (x = y))) H) : rEq x y H Q := ⟨h, q⟩
theorem w_ne (h : scal x y = true) (q : Q (.bl (!decide (x = y))) H) : rNe x y H Q := ⟨h, q⟩
theorem w_eqD {d e : PyData} {S S' : Addr → Prop} (hd : R S H x d) (he : R S' H y e) (sd : noDic d = true) (se : noDic e = true) (hm : min d.depth e.depth ≤ 60) (q : Q (.bl (PyData.eqv d e)) H) : oEqD x y H Q := ⟨d, e, S, S', hd, he, sd, se, hm, q⟩
theorem w_neD {d e : PyData} {S S' : Addr → Prop} (hd : R S H x d) (he : R S' H y e) (sd : noDic d = true) (se : noDic e = true) (hm : min d.depth e.depth ≤ 60) (q : Q (.bl (!PyData.eqv d e)) H) : oNeD x y H Q := ⟨d, e, S, S', hd, he, sd, se, hm, q⟩
theorem w_m1 {rm : V → List V → Hp → VK → Prop} (h : ta σ H fun x H1 => (∃ a, x = .str a) ∧ tb σ H1 fun y H2 => rm x [y] H2 Q) : tM1 rm ta tb σ H Q := h
theorem w_isstr {P : Prop} (q : P) : (∃ a, V.str z = .str a) ∧ P := ⟨⟨z, rfl⟩, q⟩
theorem w_join {ys : List Str} (h : SqL K H p (ys.map V.str)) (hs : (ys.map (·.length)).sum + ys.length * z.length ≤ 16777216) (q : Q (.str (Txt.join z ys)) H) : mJoin K (.str z) [.ref p] H Q := ⟨z, p, ys, rfl, rfl, .inl h, hs, q⟩
theorem w_ixL (h : SqL K H p xs) (ha : atI xs i = some v) (q : Q v H) : rIxL K (.ref p) (.int i) H Q := ⟨p, xs, i, v, rfl, rfl, h, ha, q⟩
theorem w_ixT (h : H p = some (.tup xs)) (ha : atI xs i = some v) (q : Q v H) : rIxT K (.ref p) (.int i) H Q := ⟨p, xs, i, v, rfl, rfl, sqT h, ha, q⟩
theorem w_ixS {c : Nat} (h : z.length ≤ sizeLine) (ha : atI z.cps.toList i = some c) (q : Q (.str ⟨#[c]⟩) H) : rIxS (.str z) (.int i) H Q := ⟨z, i, c, rfl, rfl, h, ha, q⟩
theorem w_setL {k : Nat} {P : Hp → Prop} (h : H p = some (.lst xs)) (ha : ixN xs.length i = some k) (q : ∀ H', Chg [p] H H' → H' p = some (.lst (xs.set k v)) → P H') : rSetL (.ref p) (.int i) v H P :=
  ⟨p, xs, i, k, rfl, rfl, h, ha, q _ (.mut h fun _ z => nomatch z) upd_same⟩
theorem w_max (q : Q (.int (if j > i then j else i)) H) : cMax [.int i, .int j] H Q := ⟨i, j, rfl, q⟩
theorem w_min (q : Q (.int (if j < i then j else i)) H) : cMin [.int i, .int j] H Q := ⟨i, j, rfl, q⟩
theorem w_abs (q : Q (.int (if i < 0 then -i else i)) H) : cAbs [.int i] H Q := ⟨i, rfl, q⟩
theorem w_intB (q : Q (.int (if b then 1 else 0)) H) : cInt [.bl b] H Q := .inr ⟨b, rfl, q⟩
theorem w_intI (q : Q (.int i) H) : cInt [.int i] H Q := .inl ⟨i, rfl, q⟩
theorem w_strI (h : i.natAbs.log2 < 1920) (q : Q (.str (toString i)) H) : cStrI [.int i] H Q := ⟨i, rfl, h, q⟩
theorem w_lenL (h : SqL K H p xs) (q : Q (.int xs.length) H) : cLenQ K [.ref p] H Q := ⟨p, xs, rfl, .inl h, q⟩
theorem w_lenT (h : H p = some (.tup xs)) (q : Q (.int xs.length) H) : cLenQ K [.ref p] H Q := ⟨p, xs, rfl, .inr (sqT h), q⟩
theorem w_lenS (h : z.length ≤ sizeLine) (q : Q (.int z.length) H) : cLenS [.str z] H Q := ⟨z, rfl, h, q⟩
theorem w_listL (h : SqL K H p xs) (q : ∀ p' H2, H p' = none → Chg [] H H2 → H2 p' = some (.lst xs) → Q (.ref p') H2) : cListQ K [.ref p] H Q := ⟨p, xs, rfl, .inl h, d_new q⟩
theorem w_listT (h : H p = some (.tup xs)) (q : ∀ p' H2, H p' = none → Chg [] H H2 → H2 p' = some (.lst xs) → Q (.ref p') H2) : cListQ K [.ref p] H Q := ⟨p, xs, rfl, .inr (sqT h), d_new q⟩
theorem w_listD {kvs : List (Key × V)} (h : H p = some (.dK kvs)) (q : ∀ p' H2, H p' = none → Chg [] H H2 → H2 p' = some (.lst (kvs.map fun kv => kV kv.1)) → Q (.ref p') H2) : cListD [.ref p] H Q := ⟨p, kvs, rfl, .inl h, d_new q⟩
theorem w_all {bs : List Bool} (h : H p = some (.lst (bs.map V.bl))) (q : Q (.bl (bs.all id)) H) : rAll K [.ref p] H Q := ⟨p, bs, rfl, sqL h, q⟩
theorem w_append (h : H p = some (.lst xs)) (hl : xs.length < sizeLine) (q : ∀ H', Chg [p] H H' → H' p = some (.lst (xs ++ [y])) → Q .non H') : rAppend (.ref p) [y] H Q :=
  ⟨p, xs, y, rfl, rfl, h, hl, q _ (.mut h fun _ z => nomatch z) upd_same⟩
theorem w_bm {T : String} {rm : V → List V → Hp → VK → Prop} (h : te σ H fun x H1 => tyV K T x H1 ∧ tr σ H1 fun ys H2 => rm x ys H2 Q) : tBM K T rm te tr σ H Q := h
theorem w_bm0 {T : String} {rm : V → List V → Hp → VK → Prop} (h : te σ H fun x H1 => tyV K T x H1 ∧ rm x [] H1 Q) : tBM0 K T rm te σ H Q := h
theorem w_tyL {A : Prop} (h : H p = some (.lst xs)) (q : A) : tyV K "list" (.ref p) H ∧ A := ⟨.inl ⟨rfl, _, sqL h⟩, q⟩
theorem w_part (h : te σ H fun x H1 => ∃ i, x = .int i ∧ QO (some i) H1) : tPart te σ H QO := h
theorem w_isint {P : Int → Prop} (q : P i) : ∃ k, V.int i = .int k ∧ P k := ⟨i, rfl, q⟩
theorem w_noPart (h : QO none H) : tNoPart σ H QO := h
theorem w_sl {rs : V → Option Int → Option Int → Hp → VK → Prop} {tl th : TO} (h : te σ H fun x H1 => tl σ H1 fun l H2 => th σ H2 fun u H3 => rs x l u H3 Q) : tSl rs te tl th σ H Q := h
theorem w_slS {lo hi : Option Int} (h : z.length ≤ sizeLine) (q : Q (.str (cutS z lo hi)) H) : rSlS (.str z) lo hi H Q := ⟨z, rfl, h, q⟩
theorem w_slL {lo hi : Option Int} (h : SqL K H p xs) (q : ∀ p' H2, H p' = none → Chg [] H H2 → H2 p' = some (.lst (cutV xs lo hi)) → Q (.ref p') H2) : rSlL K (.ref p) lo hi H Q := ⟨p, xs, rfl, h, d_new q⟩
/-- tests -/
theorem w_iteT {A B : Prop} (h : A) : if true = true then A else B := iteT h
theorem w_iteF {A B : Prop} (h : B) : if false = true then A else B := iteF h
theorem w_iteB {A B : Prop} (h1 : b = true → A) (h2 : b = false → B) : if b = true then A else B := by
  cases b with
  | true => exact iteT (h1 rfl)
  | false => exact iteF (h2 rfl)
theorem w_iteD {P A B : Prop} [Decidable P] (h1 : P → A) (h2 : ¬ P → B) : if decide P = true then A else B := w_iteB (fun e => h1 (of_decide_eq_true e)) (fun e => h2 (of_decide_eq_false e))
theorem w_iteN {A B : Prop} (h : if b = true then B else A) : if (!b) = true then A else B := by cases b <;> simpa using h
theorem w_iteYes {A B : Prop} (e : b = true) (h : A) : if b = true then A else B := by rw [e]; exact iteT h
theorem w_iteNo {A B : Prop} (e : b = false) (h : B) : if b = true then A else B := by rw [e]; exact iteF h
end

section
variable {K : PySem.W.Frag} {σ : L2.St} {H : Hp} {D : Ends} {td ty tv : TE} {p : Addr} {v : V} {k : Key} {kvs : List (Key × V)}
theorem w_dput (h : tv σ H fun v H1 => td σ H1 fun x H2 => ty σ H2 fun y H3 => ∃ a H4, x = .ref a ∧ DPut H3 a y v H4 ∧ D.nx σ H4) : sDPut td ty tv D σ H := h
theorem d_dput {A : Hp → Prop} (h : H p = some (.dK kvs)) (hl : kvs.length < sizeLine) (q : ∀ H', Chg [p] H H' → H' p = some (.dK (putK kvs k v)) → A H') : ∃ a H4, V.ref p = .ref a ∧ DPut H a (kV k) v H4 ∧ A H4 :=
  ⟨p, _, rfl, .k h hl, q _ (.mut h fun _ z => nomatch z) upd_same⟩
theorem w_dnewK {Q : VK} (q : ∀ p H2, H p = none → Chg [] H H2 → H2 p = some (.dK []) → Q (.ref p) H2) : tDNewK σ H Q := d_new q
end

theorem at0 {α : Type} {x0 : α} {xs : List α} : atI (x0 :: xs) 0 = some x0 := atI_nat (j := 0) rfl
theorem at1 {α : Type} {x0 x1 : α} {xs : List α} : atI (x0 :: x1 :: xs) 1 = some x1 := atI_nat (j := 1) rfl
theorem at2 {α : Type} {x0 x1 x2 : α} {xs : List α} : atI (x0 :: x1 :: x2 :: xs) 2 = some x2 := atI_nat (j := 2) rfl
theorem at3 {α : Type} {x0 x1 x2 x3 : α} {xs : List α} : atI (x0 :: x1 :: x2 :: x3 :: xs) 3 = some x3 := atI_nat (j := 3) rfl
theorem atN {α : Type} {xs : List α} {i : Int} {v : α} (h0 : 0 ≤ i) (h : xs[i.toNat]? = some v) : atI xs i = some v := by
  have e : ((i.toNat : Nat) : Int) = i := by omega
  have q := atI_nat (xs := xs) h
  rw [e] at q
  exact q
/-- at a drawn place -/
theorem atD {α : Type} {xs : List α} {i : Int} (h0 : 0 ≤ i) (h1 : i < xs.length) : ∃ v, atI xs i = some v ∧ v ∈ xs := by
  have hl : i.toNat < xs.length := by omega
  exact ⟨xs[i.toNat], atN h0 (List.getElem?_eq_getElem hl), List.getElem_mem hl⟩
theorem ixD {n : Nat} {i : Int} (h0 : 0 ≤ i) (h1 : i < n) : ixN n i = some i.toNat := by
  unfold ixN
  rw [if_pos h0, if_pos h1]
end Fg
namespace Fg
open PySem PySem.Spec PyProof.Rows L2
/-! ### comprehensions -/
/-- what holds ahead of the i-th turn: D the new list, Iv by the address, the turn, the list so far, the heap -/
def LcP (D : Addr) (Iv : Addr → Nat → List V → Hp → Prop) (i : Nat) : Hp → Prop := fun H5 => ∃ acc, acc.length = i ∧ H5 D = some (.lst acc) ∧ Iv D i acc H5
/-- what is wanted of an item -/
def LcK (D : Addr) (Iv : Addr → Nat → List V → Hp → Prop) (i : Nat) : VK := fun y H4 => ∃ acc, H4 D = some (.lst acc) ∧ acc.length < sizeLine ∧ LcP D Iv (i + 1) (upd H4 D (.lst (acc ++ [y])))
theorem lc_end {D : Addr} {Iv : Addr → Nat → List V → Hp → Prop} {i : Nat} {y : V} {H4 : Hp} {acc : List V} (h : H4 D = some (.lst acc)) (hl : acc.length = i) (hz : i ≤ 100000) (q : ∀ H5, Chg [D] H4 H5 → H5 D = some (.lst (acc ++ [y])) → Iv D (i + 1) (acc ++ [y]) H5) : LcK D Iv i y H4 := by
  subst hl
  exact ⟨acc, h, Nat.lt_of_le_of_lt hz (by decide), acc ++ [y], by simp, upd_same, q _ (.mut h fun _ e => nomatch e) upd_same⟩
theorem w_lcW {J : It} {n : Nat} {G : Hp → Prop} {Y : Nat → Hp → V → Hp → Prop} {g : TG} {te : TE} {tt : TT} {vs : List Nat} {σ : L2.St} {H : Hp} {Q : Addr → Hp → Prop} (w : L2.Walk J n G Y) (Iv : Addr → Nat → List V → Hp → Prop)
    (h0 : ∀ D H1, H D = none → Chg [] H H1 → H1 D = some (.lst []) → Iv D 0 [] H1) (hG : ∀ D i acc H1, i ≤ n → H D = none → Iv D i acc H1 → G H1)
    (hs : ∀ D i acc x H1 H2, i < n → H D = none → H1 D = some (.lst acc) → acc.length = i → Iv D i acc H1 → Y i H1 x H2 → g x (wipe σ vs) H2 fun σ2 H3 => wipe σ2 vs = wipe σ vs ∧
      tt σ2 H3 fun b H3 => if b = true then te σ2 H3 (LcK D Iv i) else LcP D Iv (i + 1) H3)
    (hd : ∀ D acc H1, H D = none → acc.length = n → H1 D = some (.lst acc) → Iv D n acc H1 → Q D H1) :
    ∀ D, H D = none → ∃ W : Nat → Nat → Hp → Prop, (∃ m, W 0 m (upd H D (.lst []))) ∧ ∀ i m H, W i m H →
      (J.stop i H ∧ Q D H) ∨ (J.go i H ∧ ∃ Nx : Hp → Prop, (∀ H', Nx H' → ∃ m', m' < m ∧ W (i + 1) m' H') ∧ ∀ x H', J.yld i H x H' → g x (wipe σ vs) H' fun σ2 H2 => wipe σ2 vs = wipe σ vs ∧ tt σ2 H2 fun b H3 =>
        if b = true then te σ2 H3 fun y H4 => ∃ acc, H4 D = some (.lst acc) ∧ acc.length < sizeLine ∧ Nx (upd H4 D (.lst (acc ++ [y]))) else Nx H3) := by
  intro D nD
  refine lc_it w (Qd := fun H => Q D H) (LcP D Iv) ⟨[], rfl, upd_same, h0 D _ nD (.new nD) upd_same⟩ (fun i H1 hi ⟨acc, _, _, q⟩ => hG D i acc H1 hi nD q) (fun i x H1 H2 hi hp y => ?_) (fun H1 ⟨acc, e, h, q⟩ => hd D acc H1 nD e h q)
  obtain ⟨acc, e, h, q⟩ := hp
  exact hs D i acc x H1 H2 hi nD h e q y
/-- each turn only makes new things (or changes M): Ys tells what the i-th is, Jv what else holds -/
def IvP (H : Hp) (M : List Addr) (Jv : Nat → Hp → Prop) (Ys : Nat → V → Hp → Prop) : Addr → Nat → List V → Hp → Prop := fun _ i acc H1 => Chg M H H1 ∧ Jv i H1 ∧ ∀ j y, acc[j]? = some y → Ys j y H1
theorem lcp_end {H : Hp} {M : List Addr} {Jv : Nat → Hp → Prop} {Ys : Nat → V → Hp → Prop} {D : Addr} {i : Nat} {y : V} {acc : List V} {H1 H4 : Hp} (jst : ∀ i H1 H2 p, H p = none → Chg [p] H1 H2 → Jv i H1 → Jv i H2)
    (yst : ∀ i y H1 H2 p, H p = none → Chg (p :: M) H1 H2 → Ys i y H1 → Ys i y H2) (nD : H D = none) (hM : ∀ a ∈ M, H a ≠ none) (hD : H1 D = some (.lst acc)) (hl : acc.length = i) (hz : i ≤ 100000) (iv : IvP H M Jv Ys D i acc H1)
    (c : Chg M H1 H4) (jq : Jv (i + 1) H4) (yq : Ys i y H4) : LcK D (IvP H M Jv Ys) i y H4 := by
  obtain ⟨c0, _, q⟩ := iv
  refine lc_end (c.keep _ _ hD fun hm => hM D hm nD) hl hz fun H5 c5 h5 => ⟨?_, jst _ _ _ D nD c5 jq, fun j y' e => ?_⟩
  · exact (c0.both c).go c5 fun a ha => .inr (by rw [List.mem_singleton.mp ha]; exact nD)
  · by_cases hj : j < acc.length
    · rw [List.getElem?_append_left hj] at e
      exact yst j y' H4 H5 D nD (c5.wide (by simp)) (yst j y' H1 H4 D nD (c.wide (by intro a ha; exact List.mem_cons_of_mem _ ha)) (q j y' e))
    · have hj2 : j = acc.length := by
        have := (List.getElem?_eq_some_iff.mp e).1
        rw [List.length_append, List.length_singleton] at this
        omega
      subst hj2
      rw [List.getElem?_append_right (Nat.le_refl _), Nat.sub_self] at e
      cases (Option.some.inj (show some y = some y' from e))
      rw [hl]
      exact yst i y H4 H5 D nD (c5.wide (by simp)) yq
theorem w_lcP {J : It} {n : Nat} {G : Hp → Prop} {Y : Nat → Hp → V → Hp → Prop} {g : TG} {te : TE} {tt : TT} {vs : List Nat} {σ : L2.St} {H : Hp} {Q : Addr → Hp → Prop} (w : L2.Walk J n G Y) (M : List Addr) (Jv : Nat → Hp → Prop) (Ys : Nat → V → Hp → Prop)
    (j0 : Jv 0 H) (jst : ∀ i H1 H2 p, H p = none → Chg [p] H1 H2 → Jv i H1 → Jv i H2) (hG : ∀ H1, Chg M H H1 → G H1)
    (hs : ∀ D i acc x H1 H2, i < n → H D = none → H1 D = some (.lst acc) → acc.length = i → IvP H M Jv Ys D i acc H1 → Chg M H H1 → Jv i H1 → Y i H1 x H2 → g x (wipe σ vs) H2 fun σ2 H3 => wipe σ2 vs = wipe σ vs ∧
      tt σ2 H3 fun b H3 => if b = true then te σ2 H3 (LcK D (IvP H M Jv Ys) i) else LcP D (IvP H M Jv Ys) (i + 1) H3)
    (hd : ∀ D acc H1, H D = none → Chg M H H1 → Jv n H1 → acc.length = n → H1 D = some (.lst acc) → (∀ i y, acc[i]? = some y → Ys i y H1) → Q D H1) :
    ∀ D, H D = none → ∃ W : Nat → Nat → Hp → Prop, (∃ m, W 0 m (upd H D (.lst []))) ∧ ∀ i m H, W i m H →
      (J.stop i H ∧ Q D H) ∨ (J.go i H ∧ ∃ Nx : Hp → Prop, (∀ H', Nx H' → ∃ m', m' < m ∧ W (i + 1) m' H') ∧ ∀ x H', J.yld i H x H' → g x (wipe σ vs) H' fun σ2 H2 => wipe σ2 vs = wipe σ vs ∧ tt σ2 H2 fun b H3 =>
        if b = true then te σ2 H3 fun y H4 => ∃ acc, H4 D = some (.lst acc) ∧ acc.length < sizeLine ∧ Nx (upd H4 D (.lst (acc ++ [y]))) else Nx H3) :=
  w_lcW w (IvP H M Jv Ys) (fun D H1 nD c _ => ⟨c.wide (by simp), jst _ _ _ D nD (c.wide (by simp)) j0, fun j y e => by simp at e⟩) (fun D i acc H1 _ _ q => hG H1 q.1) (fun D i acc x H1 H2 hi nD hD el iv y => hs D i acc x H1 H2 hi nD hD el iv iv.1 iv.2.1 y) (fun D acc H1 nD el hD ⟨c, j, q⟩ => hd D acc H1 nD c j el hD q)
section
variable {K : PySem.W.Frag} {σ : L2.St} {H : Hp} {te : TE} {tr : TA} {g : TG} {tt : TT} {vs : List Nat} {Q : VK} {a b : Addr} {xs ys : List V} {P : Prop} {RI : It → Hp → Prop} {D : Ends} {tb : TS} {wi : TI}
theorem w_lc (h : wi σ H fun J H1 => ∀ D, H1 D = none → ∃ W : Nat → Nat → Hp → Prop, (∃ m, W 0 m (upd H1 D (.lst []))) ∧ ∀ i m H, W i m H →
  (J.stop i H ∧ Q (.ref D) H) ∨ (J.go i H ∧ ∃ Nx : Hp → Prop, (∀ H', Nx H' → ∃ m', m' < m ∧ W (i + 1) m' H') ∧ ∀ x H', J.yld i H x H' → g x (wipe σ vs) H' fun σ2 H2 => wipe σ2 vs = wipe σ vs ∧ tt σ2 H2 fun b H3 =>
    if b = true then te σ2 H3 fun y H4 => ∃ acc, H4 D = some (.lst acc) ∧ acc.length < sizeLine ∧ Nx (upd H4 D (.lst (acc ++ [y]))) else Nx H3)) : tLc wi g tt te vs σ H Q := h
theorem w_for (h : wi σ H fun J H1 => ∃ W : Nat → Nat → L2.St → Hp → Prop, (∃ m, W 0 m σ H1) ∧ ∀ i m σ H, W i m σ H →
  (J.stop i H ∧ D.nx σ H) ∨ (J.go i H ∧ ∃ N : L2.St → Hp → Prop, (∀ σ' H', N σ' H' → ∃ m', m' < m ∧ W (i + 1) m' σ' H') ∧ ∀ x H', J.yld i H x H' → g x σ H' fun σ2 H2 => tb { D with nx := N, ct := N, bk := D.nx } σ2 H2)) : tFor wi g tb D σ H := h
theorem w_yes {QB : Bool → Hp → Prop} (h : QB true H) : tYes σ H QB := h
theorem w_wipe {σ2 : L2.St} (h : wipe σ2 vs = wipe σ vs) (q : P) : wipe σ2 vs = wipe σ vs ∧ P := ⟨h, q⟩
theorem w_iList (h : te σ H fun x H1 => ∃ a, x = .ref a ∧ (∃ xs, SqL K H1 a xs) ∧ RI (Itl K a) H1) : iList K te σ H RI := h
theorem w_iTup (h : te σ H fun x H1 => ∃ a, x = .ref a ∧ (∃ xs, SqT K H1 a xs) ∧ RI (Itt K a) H1) : iTup K te σ H RI := h
theorem d_iList {A : Addr → Prop} (h : SqL K H a xs) (q : A a) : ∃ a', V.ref a = .ref a' ∧ (∃ xs, SqL K H a' xs) ∧ A a' := ⟨a, rfl, ⟨xs, h⟩, q⟩
theorem d_iTup {A : Addr → Prop} (h : H a = some (.tup xs)) (q : A a) : ∃ a', V.ref a = .ref a' ∧ (∃ xs, SqT K H a' xs) ∧ A a' := ⟨a, rfl, ⟨xs, sqT h⟩, q⟩
theorem w_iStr (h : te σ H fun v H1 => ∃ x, v = .str x ∧ RI (Its x) H1) : iStr te σ H RI := h
theorem d_iStr {z : Str} {A : Str → Prop} (q : A z) : ∃ x, V.str z = .str x ∧ A x := ⟨z, rfl, q⟩
theorem w_iRng1 (h : tr σ H fun vs H1 => ∃ j : Int, vs = [.int j] ∧ -(2 ^ 62) ≤ j ∧ j < 2 ^ 62 ∧ RI (Itr 0 j.toNat) H1) : iRng1 tr σ H RI := h
theorem d_iRng1 {j : Int} {A : Int → Prop} (h1 : -(2 ^ 62) ≤ j) (h2 : j < 2 ^ 62) (q : A j) : ∃ j' : Int, [V.int j] = [.int j'] ∧ -(2 ^ 62) ≤ j' ∧ j' < 2 ^ 62 ∧ A j' := ⟨j, rfl, h1, h2, q⟩
theorem w_iRng2 (h : tr σ H fun vs H1 => ∃ i j : Int, vs = [.int i, .int j] ∧ (-(2 ^ 62) ≤ i ∧ i < 2 ^ 62 ∧ -(2 ^ 62) ≤ j ∧ j < 2 ^ 62) ∧ RI (Itr i (j - i).toNat) H1) : iRng2 tr σ H RI := h
theorem d_iRng2 {i j : Int} {A : Int → Int → Prop} (h0 : -(2 ^ 62) ≤ i) (h0' : i < 2 ^ 62) (h1 : -(2 ^ 62) ≤ j) (h2 : j < 2 ^ 62) (q : A i j) : ∃ i' j' : Int, [V.int i, V.int j] = [.int i', .int j'] ∧ (-(2 ^ 62) ≤ i' ∧ i' < 2 ^ 62 ∧ -(2 ^ 62) ≤ j' ∧ j' < 2 ^ 62) ∧ A i' j' := ⟨i, j, rfl, ⟨h0, h0', h1, h2⟩, q⟩
theorem w_iZip (h : tr σ H fun vs H1 => ∃ a b xs ys, vs = [.ref a, .ref b] ∧ SqL K H1 a xs ∧ SqL K H1 b ys ∧ RI (Itz K a b) H1) : iZip K tr σ H RI := h
theorem d_iZip {A : Addr → Addr → Prop} (h : SqL K H a xs) (h' : SqL K H b ys) (q : A a b) : ∃ a' b' xs ys, [V.ref a, V.ref b] = [.ref a', .ref b'] ∧ SqL K H a' xs ∧ SqL K H b' ys ∧ A a' b' := ⟨a, b, xs, ys, rfl, h, h', q⟩
theorem w_iEnum (h : tr σ H fun vs H1 => ∃ a xs, vs = [.ref a] ∧ SqL K H1 a xs ∧ RI (Ite K a) H1) : iEnum K tr σ H RI := h
theorem d_iEnum {A : Addr → Prop} (h : SqL K H a xs) (q : A a) : ∃ a' xs, [V.ref a] = [.ref a'] ∧ SqL K H a' xs ∧ A a' := ⟨a, xs, rfl, h, q⟩
end
end Fg
namespace Fg
open PySem PySem.Spec PyProof.Rows L2
/-- a def that may be called by its name, with these defaults behind -/
structure Cal (P : Program) (w : World) (K : PySem.W.Frag) (mg : Str → Option Value) (base : Heap) (k : Nat) (x : Str) (sp : Sp) (dvs : List V) : Prop where
  ex : ∃ (f : Addr) (fd : FuncData) (ps : List Str) (ds : List Value), FnOk P w K mg base CX0 k f fd ps sp ∧ mg x = some (.ref f) ∧ PySem.W.keepIn K (.ref f) = true ∧ Binds K fd ps ds ∧ Vals dvs ds
/-- .. with keywords: n positional values, keywords ks, gV puts them in order -/
structure CalK (P : Program) (w : World) (K : PySem.W.Frag) (mg : Str → Option Value) (base : Heap) (k : Nat) (x : Str) (sp : Sp) (n : Nat) (ks : List Str) (gV : List V → List V → List V) : Prop where
  ex : ∃ (f : Addr) (fd : FuncData) (ps : List Str) (g : List Value → List Value → List Value), FnOk P w K mg base CX0 k f fd ps sp ∧ mg x = some (.ref f) ∧ PySem.W.keepIn K (.ref f) = true ∧ KBn K fd ps n ks g gV
section
variable {X : Cx} {k j n mm : Nat} {x m : Str} {sp : Sp} {dvs : List V} {ks : List Str} {gV : List V → List V → List V} {p pos apos : Pos} {e o : Expr} {es : List Expr} {kws : List Keyword} {ta : TE} {t tk : TA}
theorem pe_c (c : Cal X.prog X.w X.K X.mg X.base k x sp dvs) (hr : Room j X.A) (hk : k ≤ j) (hg : Gl X x) (ha : PA X (e :: es) t)
    (hdb : (x == ("__debug__" : Str)) = false := by decide) (he : starEach (e :: es) X.env = (false, eval e X.env) :: starEach es X.env := by rfl) (hpl : (backTo pos (starEach es X.env)).any (·.1) = false := by rfl) :
    PE X (.Call (.Name x p) (e :: es) [] pos) (tCall sp dvs E0 t) := by
  obtain ⟨f, fd, ps, ds, F, hm, kp, b, d⟩ := c.ex
  exact pe_call F (hr.mono hk) hg hm kp b d pass0 ha hdb he hpl
theorem pe_c0 (c : Cal X.prog X.w X.K X.mg X.base k x sp dvs) (hr : Room j X.A) (hk : k ≤ j) (hg : Gl X x) (hdb : (x == ("__debug__" : Str)) = false := by decide) :
    PE X (.Call (.Name x p) [] [] pos) (tCall sp dvs E0 tNil) := by
  obtain ⟨f, fd, ps, ds, F, hm, kp, b, d⟩ := c.ex
  exact pe_call0 F (hr.mono hk) hg hm kp b d pass0 hdb
theorem pe_ck (c : CalK X.prog X.w X.K X.mg X.base k x sp n ks gV) (hr : Room j X.A) (hk : k ≤ j) (hg : Gl X x) (ha : PA X (e :: es) t) (hkw : PK X kws tk)
    (hall : (backToKw pos (keywordEach kws X.env)).all (·.1.isSome) = true := by rfl) (hks : (backToKw pos (keywordEach kws X.env)).filterMap (·.1) = ks := by rfl)
    (hdb : (x == ("__debug__" : Str)) = false := by decide) (he : starEach (e :: es) X.env = (false, eval e X.env) :: starEach es X.env := by rfl)
    (hpl : ((backTo pos (starEach (e :: es) X.env)).any (·.1) || (backToKw pos (keywordEach kws X.env)).any (·.1.isNone)) = false := by rfl) (hmm : mm = ks.length := by rfl) :
    PE X (.Call (.Name x p) (e :: es) kws pos) (tCallN n mm sp gV E0 t tk) := by
  subst hmm
  obtain ⟨f, fd, ps, g, F, hm, kp, b⟩ := c.ex
  exact pe_callN F (hr.mono hk) hg hm kp b pass0 ha hkw hall hks hdb he hpl
theorem pe_ck0 (c : CalK X.prog X.w X.K X.mg X.base k x sp 0 ks gV) (hr : Room j X.A) (hk : k ≤ j) (hg : Gl X x) (hkw : PK X kws tk)
    (hall : (backToKw pos (keywordEach kws X.env)).all (·.1.isSome) = true := by rfl) (hks : (backToKw pos (keywordEach kws X.env)).filterMap (·.1) = ks := by rfl)
    (hdb : (x == ("__debug__" : Str)) = false := by decide)
    (hpl : ((backTo pos (starEach [] X.env)).any (·.1) || (backToKw pos (keywordEach kws X.env)).any (·.1.isNone)) = false := by rfl) (hmm : mm = ks.length := by rfl) :
    PE X (.Call (.Name x p) [] kws pos) (tCallN 0 mm sp gV E0 tNil tk) := by
  subst hmm
  obtain ⟨f, fd, ps, g, F, hm, kp, b⟩ := c.ex
  refine ⟨fun pins s σ H Q I h => ?_⟩
  refine wpAny_Call_Name_kw (ld_glob I hg hm ?_ hdb)
  refine PySem.W.callWith_KW0 (h₀ := X.base) I.ok.mod.kin kp hall (thn (hkw.run pos pins s σ H _ I h) fun ws s2 ⟨zs, H2, I2, rz, l1, l2, q2⟩ => ⟨I2.kIn, ?_⟩) hpl
  rw [hks]
  exact run_fnN (us := []) (vs := []) F (hr.mono hk) b pass0 I2 .nil rz rfl l2 q2
theorem w_callN {σ : L2.St} {H : Hp} {Q : VK} {E : XK} {m : Nat} (h : t σ H fun vs H1 => tk σ H1 fun zs H2 => vs.length = n ∧ zs.length = m ∧ sp (gV vs zs) H2 Q E) : tCallN n m sp gV E t tk σ H Q := h
end
section
variable {P : Program} {w : World} {K : PySem.W.Frag} {mg : Str → Option Value} {base : Heap} {x : Str} {st : Stmt} {f : Addr} {fd : FuncData} {sp : Sp} {k : Nat}
/-- a def of the top as it stands, dvs its defaults -/
abbrev FnP (K : PySem.W.Frag) (x : Str) (st : Stmt) (dvs : List V) (f : Addr) (fd : FuncData) : Prop := FunD K x x (defArgs st) (defBody st) (defScope st) dvs [] f fd
theorem FnP.go {N ps : List Str} {dvs : List V} (F : FnP K x st dvs f fd) (S : FnScope N ps (defScope st)) (len : ∀ vs H Q E, sp vs H Q E → vs.length = ps.length) (t : TS)
    (pure : ∀ (vs : List V) (H : Hp) (Q : VK) (E : XK), sp vs H Q E → t { nx := fun _ H' => Q .non H', rt := Q } (start N vs) H)
    (hbody : ∀ (cdv : Value) (A : Around) (outer : List Env) (s : Shared) (H : Hp) (E : XK), Room k (A.deeper (envOfC x (defScope st) s.heap.objs.size f cdv)) →
      PSs (cxOf CX0 P w K mg base N x (defScope st) f cdv A outer s H E).nox (defBody st) t) : FnOk P w K mg base CX0 (k + 1) f fd ps sp :=
  F.ok S len fun cdv A outer s H vs Q E hr h => ⟨t, PSs.nox (hbody cdv A outer s H E hr), pure vs H Q E h⟩
theorem FnP.cal {ps : List Str} (F : FnP K x st [] f fd) (ok : FnOk P w K mg base CX0 k f fd ps sp) (g : mg x = some (.ref f))
    (h : ∀ (kV doc pm : Value) (an : Option Addr) (cdv ct : Value) (us : List Value), us.length = ps.length → bindArgs (PySem.W.fnOf x x (defArgs st) (defBody st) (defScope st) .none kV doc pm an cdv ct) ⟨us, []⟩ = pure (ps.zip us)) : Cal P w K mg base k x sp [] :=
  ⟨f, fd, ps, [], ok, g, F.kp, F.bindsN h, .nil⟩
end
end Fg
namespace Fg
open PySem PySem.Spec PyProof.Rows L2
/-! ### what the document says of programs, over data -/
def letters : Str := "abcdefghijklmnopqrstuvwxyz"
def isLow (c : Nat) : Bool := decide (c ∈ letters.cps.toList)
def dInt : PyData → Bool
  | .int _ => true
  | .bool _ => true
  | _ => false
def dBool : PyData → Bool
  | .bool _ => true
  | _ => false
def dStr : PyData → Bool
  | .str _ => true
  | _ => false
def dTup : PyData → Bool
  | .tuple _ => true
  | _ => false
def dLst : PyData → Bool
  | .list _ => true
  | _ => false
def isWhole : PyData → Bool
  | .int _ => true
  | _ => false
def nameS (x : Str) : Bool := decide (1 ≤ x.length) && decide (x.length ≤ 8) && x.cps.toList.all isLow
def isName : PyData → Bool
  | .str x => nameS x
  | _ => false
def partsOf (z : Str) : Option Nat := if z = "arg" then some 0 else if z = "cell" then some 1 else if z = "add" then some 2 else if z = "less" then some 2 else if z = "least" then some 2 else none
def isExpr : Nat → PyData → Bool
  | 0, _ => false
  | _ + 1, .int _ => true
  | n + 1, .tuple (.str z :: ds) => (match partsOf z with
    | some k => decide (ds.length = k) && ds.all (isExpr n)
    | none => false)
  | _, _ => false
def skipOk (bh : Int) : PyData → Bool
  | .int k => decide (1 ≤ k) && decide (k ≤ bh)
  | _ => false
def inNm (ns : List Str) : PyData → Bool
  | .str x => decide (x ∈ ns)
  | _ => false
def step3 (ns : List Str) (bh : Int) (z : Str) (a b : PyData) : Bool :=
  if z = "cell" then isExpr 5 a && isExpr 5 b
  else if z = "skip" then isExpr 5 a && skipOk bh b
  else if z = "give" then isName a && isExpr 5 b
  else if z = "fork" ∨ z = "call" then isName a && isExpr 5 b && inNm ns a
  else false
def stepBody (ns : List Str) (bh : Int) (z : Str) : List PyData → Bool
  | [a, b] => step3 ns bh z a b
  | _ => false
def isStep (ns : List Str) (bh : Int) : PyData → Bool
  | .tuple (.str z :: ds) => if z = "wait" then decide (ds.length = 0) else stepBody ns bh z ds
  | _ => false
def rowOk : PyData → Bool
  | .tuple [.str x, .list _] => nameS x
  | _ => false
def rowName : PyData → Str
  | .tuple (.str x :: _) => x
  | _ => ""
def rowSteps : PyData → List PyData
  | .tuple [_, .list ds] => ds
  | _ => []
def ltS (x y : Str) : Bool := decide (x.cps.toList < y.cps.toList)
def rising : List Str → Bool
  | x :: y :: r => ltS x y && rising (y :: r)
  | _ => true
def hasForm : PyData → Bool
  | .list rows => rows.all rowOk && rising (rows.map rowName)
  | _ => false
/-- the first wrong one of steps, from place k on -/
def wrongAt (names : List Str) : Nat → List PyData → Option Nat
  | _, [] => none
  | k, d :: ds => if isStep names (ds.length : Int) d = true then wrongAt names (k + 1) ds else some k
def wrongIn (names : List Str) : List PyData → Option (Str × Nat)
  | [] => none
  | r :: rs => match wrongAt names 0 (rowSteps r) with
    | some k => some (rowName r, k)
    | none => wrongIn names rs
def rowsOf : PyData → List PyData
  | .list rows => rows
  | _ => []
def firstWrong (d : PyData) : Option (Option (Str × Nat)) :=
  if hasForm d = true then (wrongIn ((rowsOf d).map rowName) (rowsOf d)).map some else some none
/-! ### isinstance -/
def tyN : PyData → String
  | .none => "NoneType"
  | .bool _ => "bool"
  | .int _ => "int"
  | .str _ => "str"
  | .list _ => "list"
  | .tuple _ => "tuple"
  | .dict _ => "dict"
section
variable {K : PySem.W.Frag} {S : Addr → Prop} {H : Hp} {v : V} {d : PyData} {Q : VK}
theorem isi_of {v : V} {a b : String} {r : Bool} (t : TyX K H v (.type a)) (h : kitB a b = some r) (q : Q (.bl r) H) : rIsi K [v, .ty b] H Q := ⟨v, .ty b, _, _, r, rfl, .ty b, t, kit_ty h, q⟩
theorem R.tyx (r : R S H v d) : TyX K H v (.type (tyN d)) := by
  cases r with
  | non => exact .base .non
  | bl b => exact .base (.bl b)
  | int i => exact .base (.int i)
  | str x => exact .base (.str x)
  | lst s e r => exact .base (.lst e)
  | tup e r => exact .base (.tup e)
  | dic s e => exact .base (.dK e)
theorem w_isInt (r : R S H v d) (q : Q (.bl (dInt d)) H) : rIsi K [v, .ty "int"] H Q := by
  have t := r.tyx (K := K)
  cases d with
  | none => exact isi_of t (show kitB "NoneType" "int" = some false by decide +kernel) q
  | bool b => exact isi_of t (show kitB "bool" "int" = some true by decide +kernel) q
  | int i => exact isi_of t (show kitB "int" "int" = some true by decide +kernel) q
  | str x => exact isi_of t (show kitB "str" "int" = some false by decide +kernel) q
  | list ds => exact isi_of t (show kitB "list" "int" = some false by decide +kernel) q
  | tuple ds => exact isi_of t (show kitB "tuple" "int" = some false by decide +kernel) q
  | dict ds => exact isi_of t (show kitB "dict" "int" = some false by decide +kernel) q
theorem w_isBool (r : R S H v d) (q : Q (.bl (dBool d)) H) : rIsi K [v, .ty "bool"] H Q := by
  have t := r.tyx (K := K)
  cases d with
  | none => exact isi_of t (show kitB "NoneType" "bool" = some false by decide +kernel) q
  | bool b => exact isi_of t (show kitB "bool" "bool" = some true by decide +kernel) q
  | int i => exact isi_of t (show kitB "int" "bool" = some false by decide +kernel) q
  | str x => exact isi_of t (show kitB "str" "bool" = some false by decide +kernel) q
  | list ds => exact isi_of t (show kitB "list" "bool" = some false by decide +kernel) q
  | tuple ds => exact isi_of t (show kitB "tuple" "bool" = some false by decide +kernel) q
  | dict ds => exact isi_of t (show kitB "dict" "bool" = some false by decide +kernel) q
theorem w_isStr (r : R S H v d) (q : Q (.bl (dStr d)) H) : rIsi K [v, .ty "str"] H Q := by
  have t := r.tyx (K := K)
  cases d with
  | none => exact isi_of t (show kitB "NoneType" "str" = some false by decide +kernel) q
  | bool b => exact isi_of t (show kitB "bool" "str" = some false by decide +kernel) q
  | int i => exact isi_of t (show kitB "int" "str" = some false by decide +kernel) q
  | str x => exact isi_of t (show kitB "str" "str" = some true by decide +kernel) q
  | list ds => exact isi_of t (show kitB "list" "str" = some false by decide +kernel) q
  | tuple ds => exact isi_of t (show kitB "tuple" "str" = some false by decide +kernel) q
  | dict ds => exact isi_of t (show kitB "dict" "str" = some false by decide +kernel) q
theorem w_isTup (r : R S H v d) (q : Q (.bl (dTup d)) H) : rIsi K [v, .ty "tuple"] H Q := by
  have t := r.tyx (K := K)
  cases d with
  | none => exact isi_of t (show kitB "NoneType" "tuple" = some false by decide +kernel) q
  | bool b => exact isi_of t (show kitB "bool" "tuple" = some false by decide +kernel) q
  | int i => exact isi_of t (show kitB "int" "tuple" = some false by decide +kernel) q
  | str x => exact isi_of t (show kitB "str" "tuple" = some false by decide +kernel) q
  | list ds => exact isi_of t (show kitB "list" "tuple" = some false by decide +kernel) q
  | tuple ds => exact isi_of t (show kitB "tuple" "tuple" = some true by decide +kernel) q
  | dict ds => exact isi_of t (show kitB "dict" "tuple" = some false by decide +kernel) q
theorem w_isLst (r : R S H v d) (q : Q (.bl (dLst d)) H) : rIsi K [v, .ty "list"] H Q := by
  have t := r.tyx (K := K)
  cases d with
  | none => exact isi_of t (show kitB "NoneType" "list" = some false by decide +kernel) q
  | bool b => exact isi_of t (show kitB "bool" "list" = some false by decide +kernel) q
  | int i => exact isi_of t (show kitB "int" "list" = some false by decide +kernel) q
  | str x => exact isi_of t (show kitB "str" "list" = some false by decide +kernel) q
  | list ds => exact isi_of t (show kitB "list" "list" = some true by decide +kernel) q
  | tuple ds => exact isi_of t (show kitB "tuple" "list" = some false by decide +kernel) q
  | dict ds => exact isi_of t (show kitB "dict" "list" = some false by decide +kernel) q
end
/-! ### the table of parts -/
structure Parts (K : PySem.W.Frag) (w : World) (dP : Addr) : Prop where
  kd : ∃ es n, KDict K w dP es n
  get : ∀ z k, partsOf z = some k → ∃ u, PySem.W.nsIn K dP z = some (some u) ∧ RelV (.int (k : Nat)) u
  no : ∀ z, partsOf z = none → PySem.W.nsIn K dP z = some none
section
variable {K : PySem.W.Frag} {w : World} {dP : Addr} {H : Hp} {Q : VK} {z : Str}
theorem w_notInP (T : Parts K w dP) (q : Q (.bl (!(partsOf z).isSome)) H) : oNotInKd K dP (.str z) (.ref dP) H Q := by
  cases e : partsOf z with
  | none => exact ⟨z, none, rfl, rfl, T.no z e, by rw [e] at q; exact q⟩
  | some k =>
    obtain ⟨u, e1, _⟩ := T.get z k e
    exact ⟨z, some u, rfl, rfl, e1, by rw [e] at q; exact q⟩
theorem w_ixP {k : Nat} (T : Parts K w dP) (e : partsOf z = some k) (q : Q (.int (k : Nat)) H) : rIxD K w (.ref dP) (.str z) H Q := by
  obtain ⟨u, e1, e2⟩ := T.get z k e
  obtain ⟨es, n, kd⟩ := T.kd
  exact ⟨dP, z, _, rfl, rfl, ⟨es, n, u, kd.at_, kd.lit, e1, e2⟩, q⟩
end
/-! ### bits of lists -/
theorem cut1 (xs : List V) : cutV xs (some 1) none = xs.drop 1 := by
  unfold cutV
  rw [show HT.sIx xs.length 0 (some 1) = min 1 xs.length from HT.sIx_nat xs.length 0 1, HT.sIx_none]
  cases xs with
  | nil => rfl
  | cons x r =>
    rw [show min 1 (x :: r).length = 1 by
      rw [List.length_cons]
      omega]
    show (List.take ((x :: r).length - 1) r) = r
    rw [List.length_cons, Nat.add_sub_cancel]
    exact List.take_length
theorem w_slA {K : PySem.W.Frag} {p : Addr} {xs : List V} {lo hi : Option Int} {H : Hp} {Q : VK} (h : H p = some (.tup xs)) (q : ∀ p' H2, Chg [] H H2 → H2 p' = some (.tup (cutV xs lo hi)) → Q (.ref p') H2) : rSlA K (.ref p) lo hi H Q := by
  refine ⟨p, xs, rfl, sqT h, fun e => ?_, fun _ => d_new fun p' H2 _ c h2 => q p' H2 c h2⟩
  refine q p H .refl ?_
  have : cutV xs lo hi = xs := by
    unfold cutV
    rw [e.1, e.2]
    simp
  rw [this]
  exact h
theorem all_bl {bs : List Bool} {acc : List V} {n : Nat} (hl : acc.length = n) (hb : bs.length = n) (h : ∀ (i : Nat) (y : V), acc[i]? = some y → ∃ b : Bool, bs[i]? = some b ∧ y = .bl b) : acc = bs.map V.bl := by
  apply List.ext_getElem?
  intro i
  rw [List.getElem?_map]
  by_cases hi : i < n
  · have e1 : acc[i]? = some acc[i] := List.getElem?_eq_getElem (by omega)
    obtain ⟨b, e2, e3⟩ := h i _ e1
    rw [e1, e2, e3]
    rfl
  · rw [List.getElem?_eq_none (by omega), List.getElem?_eq_none (by omega)]
    rfl
end Fg
namespace Fg
open PySem PySem.Spec PyProof.Rows L2
theorem exL {α : Type} {P : α → Prop} {B : Prop} (h : ∀ x, P x → B) : (∃ x, P x) → B := fun ⟨x, hx⟩ => h x hx
theorem pe_gc {X : Cx} {x : Str} {v : V} {pos : Pos} (hg : Gl X x) (h : ∃ u, X.mg x = some u ∧ RelV v u) (hd : (x == ("__debug__" : Str)) = false := by decide) : PE X (.Name x pos) (tC v) := by
  obtain ⟨u, e, r⟩ := h
  exact pe_glob hg e r hd
theorem dic_lookup {K : PySem.W.Frag} {a : Addr} {l : List (Option (Str × Int))} (h : He.dicW K a = some l) : ∃ o es n, K.lookup a = some o ∧ o.data = .dict es n ∧ es.toList.map He.keyOf = l := by
  unfold He.dicW at h
  cases q : K.lookup a with
  | none =>
    rw [q] at h
    cases h
  | some o =>
    obtain ⟨oc, od, dt, osl⟩ := o
    rw [q] at h
    cases oc with
    | type c =>
      cases od with
      | none =>
        cases dt with
        | dict es n =>
          have h1 : (match decide (c = "dict") && (osl.isEmpty && !(a == sysModules)) with
            | true => some (es.toList.map He.keyOf)
            | false => none) = some l := h
          cases z : decide (c = "dict") && (osl.isEmpty && !(a == sysModules)) with
          | false =>
            rw [z] at h1
            cases h1
          | true =>
            rw [z] at h1
            exact ⟨_, es, n, rfl, rfl, Option.some.inj h1⟩
        | _ => cases h
      | some b => cases dt <;> cases h
    | _ => cases od <;> cases dt <;> cases h
theorem keyOf_str {e : DictEntry} {k : Str} {i : Int} (h : He.keyOf e = some (k, i)) : ∃ t, e.key = .str k t := by
  unfold He.keyOf at h
  split at h
  · rename_i x t q
    have h4 := Option.some.inj h
    obtain ⟨h5, h6⟩ := Prod.mk.inj h4
    exact ⟨t, by rw [q, h5]⟩
  · cases h
theorem miss {K : PySem.W.Frag} {a : Addr} {P : Params} {ks : List Str} {z : Str} (h : He.dicW K a = some (He.keysIn P ks)) (hz : z ∉ ks) : PySem.W.nsIn K a z = some none := by
  obtain ⟨o, es, n, e1, e2, e3⟩ := dic_lookup h
  have key : ∀ e ∈ es.toList, ∃ k t, e.key = .str k t ∧ k ∈ ks := fun e he => by
    have : He.keyOf e ∈ He.keysIn P ks := by rw [← e3]; exact List.mem_map.mpr ⟨e, he, rfl⟩
    obtain ⟨k, hk, ek⟩ := List.mem_map.mp this
    obtain ⟨t, et⟩ := keyOf_str ek.symm
    exact ⟨k, t, et, hk⟩
  unfold PySem.W.nsIn
  rw [e1]
  obtain ⟨oc, od, dt, osl⟩ := o
  have e2 : dt = .dict es n := e2
  subst e2
  have f1 : es.toList.find? (·.key.isStr z) = none := by
    rw [List.find?_eq_none]
    intro e he
    obtain ⟨k, t, ek, hk⟩ := key e he
    rw [ek]
    intro hh
    have : k = z := by
      have := PySem.W.isStr_of z (Value.str k t)
      rw [this] at hh
      obtain ⟨t', e'⟩ := Value.isStrOf_shape (x := z) (v := Value.str k t) hh
      injection e'
    rw [this] at hk
    exact hz hk
  have f2 : es.toList.any (·.refKey) = false := by
    rw [List.any_eq_false]
    intro e he
    obtain ⟨k, t, ek, hk⟩ := key e he
    unfold DictEntry.refKey
    rw [ek]
    exact Bool.false_ne_true
  show (match es.toList.find? (·.key.isStr z) with
      | some e => some (some e.val)
      | none => if es.toList.any (·.refKey) then none else some none) = some none
  rw [f1]
  show (if es.toList.any (·.refKey) then none else some none) = some none
  rw [f2]
  rfl
def partK : List Str := ["arg", "cell", "add", "less", "least"]
def partV : List (Str × He.Dv) := [("arg", .int 0), ("cell", .int 1), ("add", .int 2), ("less", .int 2), ("least", .int 2)]
theorem parts_of {K : PySem.W.Frag} {w : World} {a : Addr} (h : He.dicW K a = some (He.keysIn w.params partK)) (hv : He.valsB K a partV = true) : Parts K w a := by
  refine ⟨He.dicW_ok h, fun z k e => ?_, fun z e => ?_⟩
  · unfold partsOf at e
    split at e
    · next hz => cases e; subst hz; exact He.valsB_ok hv (q := ("arg", .int 0)) (by simp [partV])
    split at e
    · next hz => cases e; subst hz; exact He.valsB_ok hv (q := ("cell", .int 1)) (by simp [partV])
    split at e
    · next hz => cases e; subst hz; exact He.valsB_ok hv (q := ("add", .int 2)) (by simp [partV])
    split at e
    · next hz => cases e; subst hz; exact He.valsB_ok hv (q := ("less", .int 2)) (by simp [partV])
    split at e
    · next hz => cases e; subst hz; exact He.valsB_ok hv (q := ("least", .int 2)) (by simp [partV])
    · cases e
  · refine miss h fun hm => ?_
    unfold partK at hm
    simp only [List.mem_cons, List.not_mem_nil, or_false] at hm
    rcases hm with hm | hm | hm | hm | hm <;> (subst hm; revert e; decide +kernel)
section
variable {P : Program} {w : World} {K : PySem.W.Frag} {mg : Str → Option Value} {base : Heap} {x : Str} {st : Stmt} {f : Addr} {fd : FuncData} {sp : Sp} {k : Nat} {ps : List Str} {dvs : List V}
/-- a call that leaves out the defaults from the j-th on (n values are written) -/
theorem FnP.cald (n j : Nat) (F : FnP K x st dvs f fd) (ok : FnOk P w K mg base CX0 k f fd ps sp) (g : mg x = some (.ref f)) (hd : dvs ≠ []) (hn : n + (dvs.length - j) = ps.length)
    (h : ∀ (T : Addr) (kV doc pm : Value) (an : Option Addr) (cdv ct : Value) (us its : List Value), us.length = n → its.length = dvs.length →
      ∃ k, bindArgs (PySem.W.fnOf x x (defArgs st) (defBody st) (defScope st) (.ref T) kV doc pm an cdv ct) ⟨us, []⟩ = seqItems? (.ref T) >>= k ∧ k (some its.toArray) = pure (ps.zip (us ++ its.drop j))) : Cal P w K mg base k x sp (dvs.drop j) := by
  obtain ⟨ds, v, b⟩ := F.binds1 n j hd hn h
  exact ⟨f, fd, ps, ds, ok, g, F.kp, b, v⟩
/-- all by keywords, in the parameters' order, no defaults -/
theorem FnP.calk (F : FnP K x st [] f fd) (ok : FnOk P w K mg base CX0 k f fd ps sp) (g : mg x = some (.ref f))
    (h : ∀ (kV doc pm : Value) (an : Option Addr) (cdv ct : Value) (us : List Value), us.length = ps.length → bindArgs (PySem.W.fnOf x x (defArgs st) (defBody st) (defScope st) .none kV doc pm an cdv ct) ⟨[], ps.zip us⟩ = pure (ps.zip us)) : CalK P w K mg base k x sp 0 ps (fun _ zs => zs) := by
  obtain ⟨oc, od, dV, kV, doc, pm, an, cdv, ct, osl, rfl, lk, hcd, hD, hK⟩ := F.ex
  rcases hD with ⟨_, rfl⟩ | ⟨e, _⟩
  · refine ⟨f, _, ps, fun _ ws => ws, ok, g, F.kp, ⟨fun s us ws _ l1 l2 => ?_, fun _ r => r⟩⟩
    rw [List.length_eq_zero_iff.mp l1]
    exact .of_eq (h kV doc pm an cdv ct ws l2)
  · exact absurd rfl e
end
end Fg
namespace Fg
open PySem PySem.Spec PyProof.Rows L2
/-! ### the walk's small steps -/
local macro_rules | `(tactic| walk_at "hp") => `(tactic| first
  | assumption
  | exact upd_same
  | (refine Chg.at (by assumption) ?_; walk_at "hp")
  | (refine Chg.at1 (by assumption) ?_ (by walk_at "ne"); walk_at "hp"))
local macro_rules | `(tactic| walk_at "ne") => `(tactic| first | assumption | (apply Ne.symm; assumption))
local macro_rules | `(tactic| walk_at "sq") => `(tactic| first | assumption | exact sqL (by walk_at "hp") | (refine Chg.seq (by assumption) ?_; walk_at "sq"))
local macro_rules | `(tactic| walk_at "sz") => `(tactic| first | assumption | exact Nat.zero_le _ | (simp only [List.length_cons, List.length_nil]; decide) | exact Nat.le_trans (by first | omega | (simp; done) | (simp; omega)) (show 100000 ≤ sizeLine by decide) | exact Nat.lt_of_lt_of_le (by first | omega | (simp; done) | (simp; omega)) (show 100000 ≤ sizeLine by decide))
local macro_rules | `(tactic| walk_at "ix") => `(tactic| first | exact at0 | exact at1 | exact at2 | exact at3 | assumption | exact rfl | walk_at "ix2")
local macro_rules | `(tactic| walk_at "ix2") => `(tactic| fail)
local macro_rules | `(tactic| walk_at "num") => `(tactic| first | assumption | omega | decide | walk_at "num2")
local macro_rules | `(tactic| walk_at "num2") => `(tactic| fail)
local macro_rules | `(tactic| walk_at "im") => `(tactic| first | assumption | exact R.non (S := fun _ => False) | exact R.bl (S := fun _ => False) _ | exact R.int (S := fun _ => False) _ | exact R.str (S := fun _ => False) _ | (refine R.im (by assumption) ?_; walk_at "im"))
local macro_rules | `(tactic| walk_at "r") => `(tactic| first | assumption | exact R.non (S := fun _ => False) | exact R.bl (S := fun _ => False) _ | exact R.int (S := fun _ => False) _ | exact R.str (S := fun _ => False) _ | (refine R.same (by assumption) ?_; walk_at "r") | exact R.any (by walk_at "im"))
local macro_rules | `(tactic| walk_at "chg") => `(tactic| first
  | exact Chg.refl
  | assumption
  | (refine Chg.same ?_ (by assumption); walk_at "chg")
  | (refine Chg.both ?_ (by assumption); walk_at "chg")
  | (refine Chg.pre (by assumption) ?_; walk_at "chg"))
local macro_rules | `(tactic| walk_at "w1") => `(tactic| first
  | with_reducible apply w_seq
  | with_reducible apply w_asg
  | ((with_reducible apply w_var); (focus (exact rfl)))
  | with_reducible apply w_c
  | with_reducible apply w_op
  | with_reducible apply w_cons
  | with_reducible apply w_nil
  | with_reducible apply w_gName
  | with_reducible apply w_if
  | with_reducible apply w_test
  | with_reducible apply w_B
  | with_reducible apply w_isbl
  | with_reducible apply w_retN
  | with_reducible apply w_next
  | with_reducible apply w_drop
  | with_reducible apply w_cb
  | with_reducible apply w_call
  | with_reducible apply w_callN
  | with_reducible apply w_bm
  | with_reducible apply w_bm0
  | ((with_reducible apply w_tyL); (focus (walk_at "hp"; done)))
  | with_reducible apply w_dput
  | with_reducible apply w_m1
  | with_reducible apply w_isstr
  | with_reducible apply w_and
  | with_reducible apply w_or
  | with_reducible apply w_not
  | with_reducible apply w_andV
  | with_reducible apply w_orV
  | with_reducible apply w_notV
  | with_reducible apply w_ifE
  | with_reducible apply w_chain
  | with_reducible apply w_un
  | with_reducible apply w_neg
  | with_reducible apply w_add
  | with_reducible apply w_sub
  | ((with_reducible apply w_mod); (focus (walk_at "num"; done)))
  | ((with_reducible apply w_mul); (focus (walk_at "num"; done)))
  | ((with_reducible apply w_fdiv); (focus (walk_at "num"; done)))
  | ((with_reducible apply w_pow); (focus (walk_at "num"; done)))
  | with_reducible apply w_lt
  | with_reducible apply w_le
  | with_reducible apply w_gt
  | with_reducible apply w_ge
  | with_reducible apply w_ltS
  | with_reducible apply w_geS
  | with_reducible apply w_inC
  | with_reducible apply w_notInC
  | with_reducible apply w_isN
  | with_reducible apply w_notN
  | with_reducible apply w_isB
  | with_reducible apply w_notB
  | ((with_reducible apply w_addS); (focus (walk_at "sz"; done)))
  | ((with_reducible apply w_ixL); (focus (walk_at "sq"; done)); (focus (walk_at "ix"; done)))
  | ((with_reducible apply w_ixT); (focus (walk_at "hp"; done)); (focus (walk_at "ix"; done)))
  | ((with_reducible apply w_ixS); (focus (walk_at "sz"; done)); (focus (walk_at "ix"; done)))
  | with_reducible apply w_gSub
  | ((with_reducible apply w_gTup); (focus (walk_at "hp"; done)); (focus (exact rfl)))
  | with_reducible apply w_gCons
  | with_reducible apply w_gNil
  | ((with_reducible apply w_aug); (focus (exact rfl)))
  | with_reducible apply w_ipI
  | ((with_reducible apply w_eq); (focus (exact rfl)))
  | ((with_reducible apply w_ne); (focus (exact rfl)))
  | with_reducible apply w_max
  | with_reducible apply w_min
  | with_reducible apply w_abs
  | with_reducible apply w_intB
  | with_reducible apply w_intI
  | with_reducible apply w_tup1
  | with_reducible apply w_lst1
  | with_reducible apply w_sl
  | with_reducible apply w_part
  | with_reducible apply w_noPart
  | with_reducible apply w_isint
  | ((with_reducible apply w_slS); (focus (walk_at "sz"; done)))
  | with_reducible apply w_iteT
  | with_reducible apply w_iteF
  | with_reducible apply w_iteN
  | ((with_reducible apply w_iteYes); (focus (exact rfl)))
  | ((with_reducible apply w_iteNo); (focus (exact rfl)))
  | ((with_reducible apply w_lenL); (focus (walk_at "sq"; done)))
  | ((with_reducible apply w_lenT); (focus (walk_at "hp"; done)))
  | ((with_reducible apply w_lenS); (focus (walk_at "sz"; done)))
  | with_reducible apply w_lc
  | with_reducible apply w_for
  | with_reducible apply w_yes
  | ((with_reducible apply w_wipe); (focus (exact rfl)))
  | with_reducible apply w_iList
  | with_reducible apply w_iTup
  | with_reducible apply w_iStr
  | with_reducible apply w_iRng1
  | with_reducible apply w_iRng2
  | with_reducible apply w_iZip
  | with_reducible apply w_iEnum
  | ((with_reducible apply d_iList); (focus (walk_at "sq"; done)))
  | ((with_reducible apply d_iTup); (focus (walk_at "hp"; done)))
  | with_reducible apply d_iStr
  | ((with_reducible apply d_iRng1); (focus (walk_at "num"; done)); (focus (walk_at "num"; done)))
  | ((with_reducible apply d_iRng2); (focus (walk_at "num"; done)); (focus (walk_at "num"; done)); (focus (walk_at "num"; done)); (focus (walk_at "num"; done)))
  | ((with_reducible apply d_iZip); (focus (walk_at "sq"; done)); (focus (walk_at "sq"; done)))
  | ((with_reducible apply d_iEnum); (focus (walk_at "sq"; done)))
  | walk_at "w2")
local macro_rules | `(tactic| walk_at "w2") => `(tactic| fail)
local macro_rules | `(tactic| walk_at "wn") => `(tactic| repeat walk_at "w1")
local macro_rules | `(tactic| walk_at "w") => `(tactic| repeat (first | walk_at "w1" | with_reducible apply w_ret))

local macro_rules | `(tactic| walk_at "w2") => `(tactic| first
  | ((with_reducible apply w_isInt); (focus (walk_at "r"; done)))
  | ((with_reducible apply w_isBool); (focus (walk_at "r"; done)))
  | ((with_reducible apply w_isStr); (focus (walk_at "r"; done)))
  | ((with_reducible apply w_isTup); (focus (walk_at "r"; done)))
  | ((with_reducible apply w_isLst); (focus (walk_at "r"; done)))
  | ((with_reducible apply w_notInP); (focus (assumption)))
  | ((with_reducible apply w_ixP); (focus (assumption)); (focus (assumption))))

abbrev fin (Q : VK) : Ends := { nx := fun _ H' => Q .non H', rt := Q }
def t_is_whole (K : PySem.W.Frag) : TS :=
    tRet (tAndV (tCB (rIsi K) (tCons (tVar 0) (tCons (tC (.ty "int")) (tNil)))) (tNotV (tCB (rIsi K) (tCons (tVar 0) (tCons (tC (.ty "bool")) (tNil))))))
def sp_is_whole : Sp := fun vs H Q _ => ∃ (v : V) (d : PyData) (S : Addr → Prop), vs = [v] ∧ R S H v d ∧ Q (.bl (isWhole d)) H
theorem pure_is_whole {K : PySem.W.Frag} (vs : List V) (H : Hp) (Q : VK) (E : XK) (h : sp_is_whole vs H Q E) : t_is_whole K (fin Q) (start ["thing"] vs) H := by
  obtain ⟨v, d, S, rfl, r, q⟩ := h
  show t_is_whole K _ [some v] H
  unfold t_is_whole
  walk_at "w"
  cases d <;> (walk_at "w"; exact q)
def t_is_name (K : PySem.W.Frag) : TS :=
    tSeq (tIfS (tOr (tNot (tB (tCB (rIsi K) (tCons (tVar 0) (tCons (tC (.ty "str")) (tNil)))))) (tOr (tTest (tOp oLt (tCB cLenS (tCons (tVar 0) (tNil))) (tC (.int 1)))) (tTest (tOp oGt (tCB cLenS (tCons (tVar 0) (tNil))) (tC (.int 8)))))) (tRet (tC (.bl false))) (tNext))
    (tRet (tCB (rAll K) (tCons (tLc (iStr (tVar 0)) (gName 1) (tYes) (tOp oInC (tVar 1) (tC (.str letters))) [1]) (tNil))))
def sp_is_name : Sp := fun vs H Q _ => ∃ (v : V) (d : PyData) (S : Addr → Prop), vs = [v] ∧ R S H v d ∧ (∀ x, d = .str x → x.length ≤ 100000) ∧ ∀ H', Chg [] H H' → Q (.bl (isName d)) H'
theorem pure_is_name {K : PySem.W.Frag} (vs : List V) (H : Hp) (Q : VK) (E : XK) (h : sp_is_name vs H Q E) : t_is_name K (fin Q) (start ["thing", "sign"] vs) H := by
  obtain ⟨v, d, S, rfl, r, hx, q⟩ := h
  show t_is_name K _ [some v, none] H
  unfold t_is_name
  walk_at "w"
  have q0 := q H .refl
  cases r with
  | str x =>
    have hz := hx x rfl
    walk_at "w"
    refine w_iteD (fun h => ?_) (fun h => ?_)
    · walk_at "w"
      have e : isName (.str x) = false := by
        show (decide (1 ≤ x.length) && decide (x.length ≤ 8) && x.cps.toList.all isLow) = false
        rw [decide_eq_false (by omega)]
        rfl
      rw [e] at q0
      exact q0
    walk_at "w"
    refine w_iteD (fun h2 => ?_) (fun h2 => ?_)
    · walk_at "w"
      have e : isName (.str x) = false := by
        show (decide (1 ≤ x.length) && decide (x.length ≤ 8) && x.cps.toList.all isLow) = false
        rw [decide_eq_false (p := x.length ≤ 8) (by omega), Bool.and_false]
        rfl
      rw [e] at q0
      exact q0
    walk_at "w"
    have hl : x.cps.size ≤ 100000 := hz
    refine w_lcP walk_str [] (fun _ _ => True) (fun i y _ => ∃ c, x.cps[i]? = some c ∧ y = .bl (isLow c)) trivial (fun _ _ _ _ _ _ _ => trivial) (fun _ _ => trivial) (fun D i acc z H1 H2 hi nD hD el iv c _ y => ?_) (fun D acc H1 nD c _ el hD ys => ?_)
    · obtain ⟨rfl, ch, ec, rfl⟩ := y
      walk_at "w"
      exact lcp_end (fun _ _ _ _ _ _ _ => trivial) (fun _ _ _ _ _ _ _ h => h) nD (by simp) hD el (by omega) iv .refl trivial ⟨ch, ec, rfl⟩
    · have e : acc = (x.cps.toList.map isLow).map V.bl := by
        refine all_bl el (by simp) fun i y hy => ?_
        obtain ⟨ch, ec, rfl⟩ := ys i y hy
        refine ⟨isLow ch, ?_, rfl⟩
        rw [List.getElem?_map, Array.getElem?_toList, ec]
        rfl
      subst e
      walk_at "w"
      refine w_all hD ?_
      have e2 : (x.cps.toList.map isLow).all id = isName (.str x) := by
        show _ = (decide (1 ≤ x.length) && decide (x.length ≤ 8) && x.cps.toList.all isLow)
        rw [decide_eq_true (by omega), decide_eq_true (by omega), List.all_map]
        rfl
      walk_at "w"
      rw [e2]
      exact q H1 c
  | _ => 
    walk_at "w"
    exact q0
end Fg
namespace Fg
open PySem PySem.Spec PyProof.Rows L2
/-! ### the walk's small steps -/
local macro_rules | `(tactic| walk_at "hp") => `(tactic| first
  | assumption
  | exact upd_same
  | (refine Chg.at (by assumption) ?_; walk_at "hp")
  | (refine Chg.at1 (by assumption) ?_ (by walk_at "ne"); walk_at "hp"))
local macro_rules | `(tactic| walk_at "ne") => `(tactic| first | assumption | (apply Ne.symm; assumption))
local macro_rules | `(tactic| walk_at "sq") => `(tactic| first | assumption | exact sqL (by walk_at "hp") | (refine Chg.seq (by assumption) ?_; walk_at "sq"))
local macro_rules | `(tactic| walk_at "sz") => `(tactic| first | assumption | exact Nat.zero_le _ | (simp only [List.length_cons, List.length_nil]; decide) | exact Nat.le_trans (by first | omega | (simp; done) | (simp; omega)) (show 100000 ≤ sizeLine by decide) | exact Nat.lt_of_lt_of_le (by first | omega | (simp; done) | (simp; omega)) (show 100000 ≤ sizeLine by decide))
local macro_rules | `(tactic| walk_at "ix") => `(tactic| first | exact at0 | exact at1 | exact at2 | exact at3 | assumption | exact rfl | walk_at "ix2")
local macro_rules | `(tactic| walk_at "ix2") => `(tactic| fail)
local macro_rules | `(tactic| walk_at "num") => `(tactic| first | assumption | omega | decide | walk_at "num2")
local macro_rules | `(tactic| walk_at "num2") => `(tactic| fail)
local macro_rules | `(tactic| walk_at "im") => `(tactic| first | assumption | exact R.non (S := fun _ => False) | exact R.bl (S := fun _ => False) _ | exact R.int (S := fun _ => False) _ | exact R.str (S := fun _ => False) _ | (refine R.im (by assumption) ?_; walk_at "im"))
local macro_rules | `(tactic| walk_at "r") => `(tactic| first | assumption | exact R.non (S := fun _ => False) | exact R.bl (S := fun _ => False) _ | exact R.int (S := fun _ => False) _ | exact R.str (S := fun _ => False) _ | (refine R.same (by assumption) ?_; walk_at "r") | exact R.any (by walk_at "im"))
local macro_rules | `(tactic| walk_at "chg") => `(tactic| first
  | exact Chg.refl
  | assumption
  | (refine Chg.same ?_ (by assumption); walk_at "chg")
  | (refine Chg.both ?_ (by assumption); walk_at "chg")
  | (refine Chg.pre (by assumption) ?_; walk_at "chg"))
local macro_rules | `(tactic| walk_at "w1") => `(tactic| first
  | with_reducible apply w_seq
  | with_reducible apply w_asg
  | ((with_reducible apply w_var); (focus (exact rfl)))
  | with_reducible apply w_c
  | with_reducible apply w_op
  | with_reducible apply w_cons
  | with_reducible apply w_nil
  | with_reducible apply w_gName
  | with_reducible apply w_if
  | with_reducible apply w_test
  | with_reducible apply w_B
  | with_reducible apply w_isbl
  | with_reducible apply w_retN
  | with_reducible apply w_next
  | with_reducible apply w_drop
  | with_reducible apply w_cb
  | with_reducible apply w_call
  | with_reducible apply w_callN
  | with_reducible apply w_bm
  | with_reducible apply w_bm0
  | ((with_reducible apply w_tyL); (focus (walk_at "hp"; done)))
  | with_reducible apply w_dput
  | with_reducible apply w_m1
  | with_reducible apply w_isstr
  | with_reducible apply w_and
  | with_reducible apply w_or
  | with_reducible apply w_not
  | with_reducible apply w_andV
  | with_reducible apply w_orV
  | with_reducible apply w_notV
  | with_reducible apply w_ifE
  | with_reducible apply w_chain
  | with_reducible apply w_un
  | with_reducible apply w_neg
  | with_reducible apply w_add
  | with_reducible apply w_sub
  | ((with_reducible apply w_mod); (focus (walk_at "num"; done)))
  | ((with_reducible apply w_mul); (focus (walk_at "num"; done)))
  | ((with_reducible apply w_fdiv); (focus (walk_at "num"; done)))
  | ((with_reducible apply w_pow); (focus (walk_at "num"; done)))
  | with_reducible apply w_lt
  | with_reducible apply w_le
  | with_reducible apply w_gt
  | with_reducible apply w_ge
  | with_reducible apply w_ltS
  | with_reducible apply w_geS
  | with_reducible apply w_inC
  | with_reducible apply w_notInC
  | with_reducible apply w_isN
  | with_reducible apply w_notN
  | with_reducible apply w_isB
  | with_reducible apply w_notB
  | ((with_reducible apply w_addS); (focus (walk_at "sz"; done)))
  | ((with_reducible apply w_ixL); (focus (walk_at "sq"; done)); (focus (walk_at "ix"; done)))
  | ((with_reducible apply w_ixT); (focus (walk_at "hp"; done)); (focus (walk_at "ix"; done)))
  | ((with_reducible apply w_ixS); (focus (walk_at "sz"; done)); (focus (walk_at "ix"; done)))
  | with_reducible apply w_gSub
  | ((with_reducible apply w_gTup); (focus (walk_at "hp"; done)); (focus (exact rfl)))
  | with_reducible apply w_gCons
  | with_reducible apply w_gNil
  | ((with_reducible apply w_aug); (focus (exact rfl)))
  | with_reducible apply w_ipI
  | ((with_reducible apply w_eq); (focus (exact rfl)))
  | ((with_reducible apply w_ne); (focus (exact rfl)))
  | with_reducible apply w_max
  | with_reducible apply w_min
  | with_reducible apply w_abs
  | with_reducible apply w_intB
  | with_reducible apply w_intI
  | with_reducible apply w_tup1
  | with_reducible apply w_lst1
  | with_reducible apply w_sl
  | with_reducible apply w_part
  | with_reducible apply w_noPart
  | with_reducible apply w_isint
  | ((with_reducible apply w_slS); (focus (walk_at "sz"; done)))
  | with_reducible apply w_iteT
  | with_reducible apply w_iteF
  | with_reducible apply w_iteN
  | ((with_reducible apply w_iteYes); (focus (exact rfl)))
  | ((with_reducible apply w_iteNo); (focus (exact rfl)))
  | ((with_reducible apply w_lenL); (focus (walk_at "sq"; done)))
  | ((with_reducible apply w_lenT); (focus (walk_at "hp"; done)))
  | ((with_reducible apply w_lenS); (focus (walk_at "sz"; done)))
  | with_reducible apply w_lc
  | with_reducible apply w_for
  | with_reducible apply w_yes
  | ((with_reducible apply w_wipe); (focus (exact rfl)))
  | with_reducible apply w_iList
  | with_reducible apply w_iTup
  | with_reducible apply w_iStr
  | with_reducible apply w_iRng1
  | with_reducible apply w_iRng2
  | with_reducible apply w_iZip
  | with_reducible apply w_iEnum
  | ((with_reducible apply d_iList); (focus (walk_at "sq"; done)))
  | ((with_reducible apply d_iTup); (focus (walk_at "hp"; done)))
  | with_reducible apply d_iStr
  | ((with_reducible apply d_iRng1); (focus (walk_at "num"; done)); (focus (walk_at "num"; done)))
  | ((with_reducible apply d_iRng2); (focus (walk_at "num"; done)); (focus (walk_at "num"; done)); (focus (walk_at "num"; done)); (focus (walk_at "num"; done)))
  | ((with_reducible apply d_iZip); (focus (walk_at "sq"; done)); (focus (walk_at "sq"; done)))
  | ((with_reducible apply d_iEnum); (focus (walk_at "sq"; done)))
  | walk_at "w2")
local macro_rules | `(tactic| walk_at "w2") => `(tactic| fail)
local macro_rules | `(tactic| walk_at "wn") => `(tactic| repeat walk_at "w1")
local macro_rules | `(tactic| walk_at "w") => `(tactic| repeat (first | walk_at "w1" | with_reducible apply w_ret))

local macro_rules | `(tactic| walk_at "w2") => `(tactic| first
  | ((with_reducible apply w_isInt); (focus (walk_at "r"; done)))
  | ((with_reducible apply w_isBool); (focus (walk_at "r"; done)))
  | ((with_reducible apply w_isStr); (focus (walk_at "r"; done)))
  | ((with_reducible apply w_isTup); (focus (walk_at "r"; done)))
  | ((with_reducible apply w_isLst); (focus (walk_at "r"; done)))
  | ((with_reducible apply w_notInP); (focus (assumption)))
  | ((with_reducible apply w_ixP); (focus (assumption)); (focus (assumption))))

def sp_is_expression (n : Nat) : Sp := fun vs H Q _ => ∃ (v : V) (d : PyData) (S : Addr → Prop) (m : Nat), vs = [v, .int (m : Nat)] ∧ m + 1 ≤ n ∧ R S H v d ∧ ∀ H', Chg [] H H' → Q (.bl (isExpr m d)) H'
theorem no_is_expression (vs : List V) (H : Hp) (Q : VK) (E : XK) : ¬ sp_is_expression 0 vs H Q E := by
  rintro ⟨v, d, S, m, _, h, _⟩
  omega
def t_is_expression (K : PySem.W.Frag) (w : World) (dP : Addr) (n : Nat) : TS :=
    tSeq (tIfS (tTest (tOp oLt (tVar 1) (tC (.int 1)))) (tRet (tC (.bl false))) (tNext))
    (tSeq (tIfS (tB (tCall sp_is_whole [] E0 (tCons (tVar 0) (tNil)))) (tRet (tC (.bl true))) (tNext))
    (tSeq (tIfS (tOr (tNot (tB (tCB (rIsi K) (tCons (tVar 0) (tCons (tC (.ty "tuple")) (tNil)))))) (tOr (tTest (tOp oLt (tCB (cLenQ K) (tCons (tVar 0) (tNil))) (tC (.int 1)))) (tNot (tB (tCB (rIsi K) (tCons (tOp (rIxT K) (tVar 0) (tC (.int 0))) (tCons (tC (.ty "str")) (tNil)))))))) (tRet (tC (.bl false))) (tNext))
    (tSeq (tIfS (tOr (tTest (tOp (oNotInKd K dP) (tOp (rIxT K) (tVar 0) (tC (.int 0))) (tC (.ref dP)))) (tTest (tOp rNe (tCB (cLenQ K) (tCons (tVar 0) (tNil))) (tOp oAdd (tOp (rIxD K w) (tC (.ref dP)) (tOp (rIxT K) (tVar 0) (tC (.int 0)))) (tC (.int 1)))))) (tRet (tC (.bl false))) (tNext))
    (tRet (tCB (rAll K) (tCons (tLc (iTup K (tSl (rSlA K) (tVar 0) (tPart (tC (.int 1))) (tNoPart))) (gName 2) (tYes) (tCall (sp_is_expression n) [] E0 (tCons (tVar 2) (tCons (tOp oSub (tVar 1) (tC (.int 1))) (tNil)))) [2]) (tNil)))))))
theorem isExpr_none (m : Nat) : isExpr m .none = false := by cases m <;> rfl
theorem isExpr_bool (m : Nat) (b : Bool) : isExpr m (.bool b) = false := by cases m <;> rfl
theorem isExpr_str (m : Nat) (b : Str) : isExpr m (.str b) = false := by cases m <;> rfl
theorem isExpr_list (m : Nat) (b : List PyData) : isExpr m (.list b) = false := by cases m <;> rfl
theorem isExpr_dict (m : Nat) (b : List (PyData × PyData)) : isExpr m (.dict b) = false := by cases m <;> rfl
theorem pure_is_expression {K : PySem.W.Frag} {w : World} {dP : Addr} (T : Parts K w dP) (n : Nat) (vs : List V) (H : Hp) (Q : VK) (E : XK) (h : sp_is_expression (n + 1) vs H Q E) : t_is_expression K w dP n (fin Q) (start ["thing", "most", "one"] vs) H := by
  obtain ⟨v, d, S, m, rfl, hm, r, q⟩ := h
  show t_is_expression K w dP n _ [some v, some (.int (m : Nat)), none] H
  unfold t_is_expression
  have q0 := q H .refl
  walk_at "w"
  refine w_iteD (fun h => ?_) (fun h => ?_)
  · walk_at "w"
    have e : m = 0 := by omega
    subst e
    exact q0
  obtain ⟨k, rfl⟩ : ∃ k, m = k + 1 := ⟨m - 1, by omega⟩
  walk_at "w"
  refine ⟨v, d, S, rfl, r, ?_⟩
  walk_at "w"
  cases r with
  | int i => walk_at "w"; exact q0
  | non => walk_at "w"; exact q0
  | bl b => walk_at "w"; exact q0
  | str b => walk_at "w"; exact q0
  | lst s e a =>
    have r := R.lst s e a
    walk_at "w"; exact q0
  | dic s e =>
    have r := R.dic s e
    walk_at "w"; exact q0
  | @tup a xs ds e ra =>
    have r := R.tup e ra
    walk_at "w"
    cases ra with
    | nil =>
      walk_at "w"
      exact q0
    | @cons v0 vs0 d0 ds0 r0 rs =>
      refine w_iteD (fun h => ?_) (fun _ => ?_)
      · rw [List.length_cons] at h
        omega
      walk_at "w"
      cases r0 with
      | int i => walk_at "w"; exact q0
      | non => walk_at "w"; exact q0
      | bl b => walk_at "w"; exact q0
      | lst s1 e1 a1 =>
        have r := R.lst s1 e1 a1
        walk_at "w"; exact q0
      | dic s1 e1 =>
        have r := R.dic s1 e1
        walk_at "w"; exact q0
      | tup e1 a1 =>
        have r := R.tup e1 a1
        walk_at "w"; exact q0
      | str z =>
        walk_at "w"
        cases ez : partsOf z with
        | none =>
          walk_at "w"
          have e2 : isExpr (k + 1) (.tuple (.str z :: ds0)) = false := by
            unfold isExpr
            rw [ez]
          rw [e2] at q0
          exact q0
        | some pk =>
          walk_at "w"
          have ln := rs.length
          refine w_iteD (fun h => ?_) (fun h => ?_)
          · have h' : vs0.length = pk := by
              have := V.int.inj h
              rw [List.length_cons] at this
              omega
            have hp : pk ≤ 2 := by
              unfold partsOf at ez
              repeat (split at ez; · cases ez; omega)
              cases ez
            walk_at "w"
            refine w_slA e fun p' H2 c2 h2 => ?_
            rw [cut1] at h2
            walk_at "w"
            have rs2 := rs.same c2
            refine w_lcP walk_tup [] (fun _ _ => True) (fun i y _ => ∃ d, ds0[i]? = some d ∧ y = .bl (isExpr k d)) trivial (fun _ _ _ _ _ _ _ => trivial) (fun H1 c => sqT (c.at h2)) (fun D i acc z H1 H3 hi nD hD el iv c _ y => ?_) (fun D acc H1 nD c _ el hD ys => ?_)
            · obtain ⟨rfl, ey⟩ := y
              obtain ⟨d1, ed, r1⟩ := rs2.get (i := i) (v := z) ey
              walk_at "w"
              have e5 : (((k + 1 : Nat) : Int)) - 1 = (k : Nat) := by omega
              rw [e5]
              refine ⟨z, d1, S, k, rfl, by omega, r1.same c, fun H4 c4 => ?_⟩
              have hi' : i < 3 := by
                have : (vs0.length) ≤ 2 := by omega
                have h6 : i < vs0.length := hi
                omega
              exact lcp_end (fun _ _ _ _ _ _ _ => trivial) (fun _ _ _ _ _ _ _ h => h) nD (by simp) hD el (by omega) iv c4 trivial ⟨d1, ed, rfl⟩
            · have e3 : acc = (ds0.map (isExpr k)).map V.bl := by
                refine all_bl el (by rw [List.length_map]; exact ln.symm) fun i y hy => ?_
                obtain ⟨d1, ed, rfl⟩ := ys i y hy
                exact ⟨isExpr k d1, by rw [List.getElem?_map, ed]; rfl, rfl⟩
              subst e3
              walk_at "w"
              refine w_all hD ?_
              walk_at "w"
              have e4 : isExpr (k + 1) (.tuple (.str z :: ds0)) = (ds0.map (isExpr k)).all id := by
                rw [isExpr, ez]
                show (decide (ds0.length = pk) && ds0.all (isExpr k)) = _
                rw [decide_eq_true (by omega), List.all_map]
                rfl
              rw [← e4]
              exact q H1 (c2.same c)
          · walk_at "w"
            have e2 : isExpr (k + 1) (.tuple (.str z :: ds0)) = false := by
              rw [isExpr, ez]
              show (decide (ds0.length = pk) && ds0.all (isExpr k)) = false
              rw [decide_eq_false ?_]
              · rfl
              · intro h7
                apply h
                show V.int _ = V.int _
                congr 1
                rw [List.length_cons]
                omega
            rw [e2] at q0
            exact q0
end Fg
namespace Fg
open PySem PySem.Spec PyProof.Rows L2
/-! ### the walk's small steps -/
local macro_rules | `(tactic| walk_at "hp") => `(tactic| first
  | assumption
  | exact upd_same
  | (refine Chg.at (by assumption) ?_; walk_at "hp")
  | (refine Chg.at1 (by assumption) ?_ (by walk_at "ne"); walk_at "hp"))
local macro_rules | `(tactic| walk_at "ne") => `(tactic| first | assumption | (apply Ne.symm; assumption))
local macro_rules | `(tactic| walk_at "sq") => `(tactic| first | assumption | exact sqL (by walk_at "hp") | (refine Chg.seq (by assumption) ?_; walk_at "sq"))
local macro_rules | `(tactic| walk_at "sz") => `(tactic| first | assumption | exact Nat.zero_le _ | (simp only [List.length_cons, List.length_nil]; decide) | exact Nat.le_trans (by first | omega | (simp; done) | (simp; omega)) (show 100000 ≤ sizeLine by decide) | exact Nat.lt_of_lt_of_le (by first | omega | (simp; done) | (simp; omega)) (show 100000 ≤ sizeLine by decide))
local macro_rules | `(tactic| walk_at "ix") => `(tactic| first | exact at0 | exact at1 | exact at2 | exact at3 | assumption | exact rfl | walk_at "ix2")
local macro_rules | `(tactic| walk_at "ix2") => `(tactic| fail)
local macro_rules | `(tactic| walk_at "num") => `(tactic| first | assumption | omega | decide | walk_at "num2")
local macro_rules | `(tactic| walk_at "num2") => `(tactic| fail)
local macro_rules | `(tactic| walk_at "im") => `(tactic| first | assumption | exact R.non (S := fun _ => False) | exact R.bl (S := fun _ => False) _ | exact R.int (S := fun _ => False) _ | exact R.str (S := fun _ => False) _ | (refine R.im (by assumption) ?_; walk_at "im"))
local macro_rules | `(tactic| walk_at "r") => `(tactic| first | assumption | exact R.non (S := fun _ => False) | exact R.bl (S := fun _ => False) _ | exact R.int (S := fun _ => False) _ | exact R.str (S := fun _ => False) _ | (refine R.same (by assumption) ?_; walk_at "r") | exact R.any (by walk_at "im"))
local macro_rules | `(tactic| walk_at "chg") => `(tactic| first
  | exact Chg.refl
  | assumption
  | (refine Chg.same ?_ (by assumption); walk_at "chg")
  | (refine Chg.both ?_ (by assumption); walk_at "chg")
  | (refine Chg.pre (by assumption) ?_; walk_at "chg"))
local macro_rules | `(tactic| walk_at "w1") => `(tactic| first
  | with_reducible apply w_seq
  | with_reducible apply w_asg
  | ((with_reducible apply w_var); (focus (exact rfl)))
  | with_reducible apply w_c
  | with_reducible apply w_op
  | with_reducible apply w_cons
  | with_reducible apply w_nil
  | with_reducible apply w_gName
  | with_reducible apply w_if
  | with_reducible apply w_test
  | with_reducible apply w_B
  | with_reducible apply w_isbl
  | with_reducible apply w_retN
  | with_reducible apply w_next
  | with_reducible apply w_drop
  | with_reducible apply w_cb
  | with_reducible apply w_call
  | with_reducible apply w_callN
  | with_reducible apply w_bm
  | with_reducible apply w_bm0
  | ((with_reducible apply w_tyL); (focus (walk_at "hp"; done)))
  | with_reducible apply w_dput
  | with_reducible apply w_m1
  | with_reducible apply w_isstr
  | with_reducible apply w_and
  | with_reducible apply w_or
  | with_reducible apply w_not
  | with_reducible apply w_andV
  | with_reducible apply w_orV
  | with_reducible apply w_notV
  | with_reducible apply w_ifE
  | with_reducible apply w_chain
  | with_reducible apply w_un
  | with_reducible apply w_neg
  | with_reducible apply w_add
  | with_reducible apply w_sub
  | ((with_reducible apply w_mod); (focus (walk_at "num"; done)))
  | ((with_reducible apply w_mul); (focus (walk_at "num"; done)))
  | ((with_reducible apply w_fdiv); (focus (walk_at "num"; done)))
  | ((with_reducible apply w_pow); (focus (walk_at "num"; done)))
  | with_reducible apply w_lt
  | with_reducible apply w_le
  | with_reducible apply w_gt
  | with_reducible apply w_ge
  | with_reducible apply w_ltS
  | with_reducible apply w_geS
  | with_reducible apply w_inC
  | with_reducible apply w_notInC
  | with_reducible apply w_isN
  | with_reducible apply w_notN
  | with_reducible apply w_isB
  | with_reducible apply w_notB
  | ((with_reducible apply w_addS); (focus (walk_at "sz"; done)))
  | ((with_reducible apply w_ixL); (focus (walk_at "sq"; done)); (focus (walk_at "ix"; done)))
  | ((with_reducible apply w_ixT); (focus (walk_at "hp"; done)); (focus (walk_at "ix"; done)))
  | ((with_reducible apply w_ixS); (focus (walk_at "sz"; done)); (focus (walk_at "ix"; done)))
  | with_reducible apply w_gSub
  | ((with_reducible apply w_gTup); (focus (walk_at "hp"; done)); (focus (exact rfl)))
  | with_reducible apply w_gCons
  | with_reducible apply w_gNil
  | ((with_reducible apply w_aug); (focus (exact rfl)))
  | with_reducible apply w_ipI
  | ((with_reducible apply w_eq); (focus (exact rfl)))
  | ((with_reducible apply w_ne); (focus (exact rfl)))
  | with_reducible apply w_max
  | with_reducible apply w_min
  | with_reducible apply w_abs
  | with_reducible apply w_intB
  | with_reducible apply w_intI
  | with_reducible apply w_tup1
  | with_reducible apply w_lst1
  | with_reducible apply w_sl
  | with_reducible apply w_part
  | with_reducible apply w_noPart
  | with_reducible apply w_isint
  | ((with_reducible apply w_slS); (focus (walk_at "sz"; done)))
  | with_reducible apply w_iteT
  | with_reducible apply w_iteF
  | with_reducible apply w_iteN
  | ((with_reducible apply w_iteYes); (focus (exact rfl)))
  | ((with_reducible apply w_iteNo); (focus (exact rfl)))
  | ((with_reducible apply w_lenL); (focus (walk_at "sq"; done)))
  | ((with_reducible apply w_lenT); (focus (walk_at "hp"; done)))
  | ((with_reducible apply w_lenS); (focus (walk_at "sz"; done)))
  | with_reducible apply w_lc
  | with_reducible apply w_for
  | with_reducible apply w_yes
  | ((with_reducible apply w_wipe); (focus (exact rfl)))
  | with_reducible apply w_iList
  | with_reducible apply w_iTup
  | with_reducible apply w_iStr
  | with_reducible apply w_iRng1
  | with_reducible apply w_iRng2
  | with_reducible apply w_iZip
  | with_reducible apply w_iEnum
  | ((with_reducible apply d_iList); (focus (walk_at "sq"; done)))
  | ((with_reducible apply d_iTup); (focus (walk_at "hp"; done)))
  | with_reducible apply d_iStr
  | ((with_reducible apply d_iRng1); (focus (walk_at "num"; done)); (focus (walk_at "num"; done)))
  | ((with_reducible apply d_iRng2); (focus (walk_at "num"; done)); (focus (walk_at "num"; done)); (focus (walk_at "num"; done)); (focus (walk_at "num"; done)))
  | ((with_reducible apply d_iZip); (focus (walk_at "sq"; done)); (focus (walk_at "sq"; done)))
  | ((with_reducible apply d_iEnum); (focus (walk_at "sq"; done)))
  | walk_at "w2")
local macro_rules | `(tactic| walk_at "w2") => `(tactic| fail)
local macro_rules | `(tactic| walk_at "wn") => `(tactic| repeat walk_at "w1")
local macro_rules | `(tactic| walk_at "w") => `(tactic| repeat (first | walk_at "w1" | with_reducible apply w_ret))

local macro_rules | `(tactic| walk_at "w2") => `(tactic| first
  | ((with_reducible apply w_isInt); (focus (walk_at "r"; done)))
  | ((with_reducible apply w_isBool); (focus (walk_at "r"; done)))
  | ((with_reducible apply w_isStr); (focus (walk_at "r"; done)))
  | ((with_reducible apply w_isTup); (focus (walk_at "r"; done)))
  | ((with_reducible apply w_isLst); (focus (walk_at "r"; done)))
  | ((with_reducible apply w_notInP); (focus (assumption)))
  | ((with_reducible apply w_ixP); (focus (assumption)); (focus (assumption))))

/-! all texts in it are short -/
mutual
def smallD : PyData → Bool
  | .str x => decide (x.length ≤ 100000)
  | .list ds => smallDs ds
  | .tuple ds => smallDs ds
  | _ => true
def smallDs : List PyData → Bool
  | [] => true
  | d :: ds => smallD d && smallDs ds
end
theorem smallDs_all : ∀ {ds : List PyData}, smallDs ds = true → ∀ d ∈ ds, smallD d = true
  | [], _, d, h => by cases h
  | e :: es, h, d, hd => by
    obtain ⟨h1, h2⟩ := Bool.and_eq_true_iff.mp (show (smallD e && smallDs es) = true from h)
    rcases List.mem_cons.mp hd with rfl | hd
    · exact h1
    · exact smallDs_all h2 d hd
theorem smallD_str {d : PyData} (h : smallD d = true) (x : Str) (e : d = .str x) : x.length ≤ 100000 := by
  subst e
  exact of_decide_eq_true h
section
variable {K : PySem.W.Frag} {H : Hp} {Q : VK} {p : Addr} {xs : List V} {x : V}
theorem w_inL (h : SqL K H p xs) (hx : flatV x = true) (hs : xs.all flatV = true) (q : Q (.bl (inV x xs)) H) : rIn K false x (.ref p) H Q := ⟨p, xs, rfl, .inl h, hx, hs, q⟩
theorem w_notInL (h : SqL K H p xs) (hx : flatV x = true) (hs : xs.all flatV = true) (q : Q (.bl (!inV x xs)) H) : rIn K true x (.ref p) H Q := ⟨p, xs, rfl, .inl h, hx, hs, q⟩
theorem w_inT (h : H p = some (.tup xs)) (hx : flatV x = true) (hs : xs.all flatV = true) (q : Q (.bl (inV x xs)) H) : rIn K false x (.ref p) H Q := ⟨p, xs, rfl, .inr (sqT h), hx, hs, q⟩
theorem w_notInT (h : H p = some (.tup xs)) (hx : flatV x = true) (hs : xs.all flatV = true) (q : Q (.bl (!inV x xs)) H) : rIn K true x (.ref p) H Q := ⟨p, xs, rfl, .inr (sqT h), hx, hs, q⟩
end
theorem inV_str (x : Str) (ns : List Str) : inV (.str x) (ns.map V.str) = decide (x ∈ ns) := by
  unfold inV
  induction ns with
  | nil => simp
  | cons a r ih =>
    rw [List.map_cons, List.any_cons, ih]
    have e : eqV (.str a) (.str x) = decide (a = x) := by
      show (a == x) = decide (a = x)
      rw [Bool.beq_eq_decide_eq]
    rw [e]
    by_cases h : a = x
    · subst h
      simp
    · have h' : ¬ x = a := fun z => h z.symm
      simp [h, h']
theorem flat_strs (ns : List Str) : (ns.map V.str).all flatV = true := by
  rw [List.all_map]
  exact List.all_eq_true.mpr fun _ _ => rfl
def sp_is_step (K : PySem.W.Frag) : Sp := fun vs H Q _ => ∃ (v : V) (d : PyData) (S : Addr → Prop) (l : Addr) (ns : List Str) (bh : Int), vs = [v, .ref l, .int bh] ∧ R S H v d ∧ smallD d = true ∧ SqL K H l (ns.map V.str) ∧ ∀ H', Chg [] H H' → Q (.bl (isStep ns bh d)) H'
def t_is_step (K : PySem.W.Frag) : TS :=
    tSeq (tIfS (tOr (tNot (tB (tCB (rIsi K) (tCons (tVar 0) (tCons (tC (.ty "tuple")) (tNil)))))) (tOr (tTest (tOp oLt (tCB (cLenQ K) (tCons (tVar 0) (tNil))) (tC (.int 1)))) (tNot (tB (tCB (rIsi K) (tCons (tOp (rIxT K) (tVar 0) (tC (.int 0))) (tCons (tC (.ty "str")) (tNil)))))))) (tRet (tC (.bl false))) (tNext))
    (tSeq (tAsg (tOp (rIxT K) (tVar 0) (tC (.int 0))) (gName 3))
    (tSeq (tIfS (tTest (tOp rEq (tVar 3) (tC (.str "wait")))) (tRet (tOp rEq (tCB (cLenQ K) (tCons (tVar 0) (tNil))) (tC (.int 1)))) (tNext))
    (tSeq (tIfS (tTest (tOp rNe (tCB (cLenQ K) (tCons (tVar 0) (tNil))) (tC (.int 3)))) (tRet (tC (.bl false))) (tNext))
    (tSeq (tIfS (tTest (tOp rEq (tVar 3) (tC (.str "cell")))) (tRet (tAndV (tCall (sp_is_expression 6) [.int 5] E0 (tCons (tOp (rIxT K) (tVar 0) (tC (.int 1))) (tNil))) (tCall (sp_is_expression 6) [.int 5] E0 (tCons (tOp (rIxT K) (tVar 0) (tC (.int 2))) (tNil))))) (tNext))
    (tSeq (tIfS (tTest (tOp rEq (tVar 3) (tC (.str "skip")))) (tRet (tAndV (tCall (sp_is_expression 6) [.int 5] E0 (tCons (tOp (rIxT K) (tVar 0) (tC (.int 1))) (tNil))) (tAndV (tCall sp_is_whole [] E0 (tCons (tOp (rIxT K) (tVar 0) (tC (.int 2))) (tNil))) (tChain oLe oLe (tC (.int 1)) (tOp (rIxT K) (tVar 0) (tC (.int 2))) (tVar 2))))) (tNext))
    (tSeq (tIfS (tOr (tTest (tOp (rIn K true) (tVar 3) (tTup (tCons (tC (.str "give")) (tCons (tC (.str "fork")) (tCons (tC (.str "call")) (tNil))))))) (tOr (tNot (tB (tCall sp_is_name [] E0 (tCons (tOp (rIxT K) (tVar 0) (tC (.int 1))) (tNil))))) (tNot (tB (tCall (sp_is_expression 6) [.int 5] E0 (tCons (tOp (rIxT K) (tVar 0) (tC (.int 2))) (tNil))))))) (tRet (tC (.bl false))) (tNext))
    (tRet (tOrV (tOp rEq (tVar 3) (tC (.str "give"))) (tOp (rIn K false) (tOp (rIxT K) (tVar 0) (tC (.int 1))) (tVar 1))))))))))
theorem isStep_tup (ns : List Str) (bh : Int) (z : Str) (ds : List PyData) : isStep ns bh (.tuple (.str z :: ds)) = (if z = "wait" then decide (ds.length = 0) else stepBody ns bh z ds) := rfl
theorem pure_is_step {K : PySem.W.Frag} (vs : List V) (H : Hp) (Q : VK) (E : XK) (h : sp_is_step K vs H Q E) : t_is_step K (fin Q) (start ["thing", "names", "behind", "word"] vs) H := by
  obtain ⟨v, d, S, l, ns, bh, rfl, r, sm, hl, q⟩ := h
  show t_is_step K _ [some v, some (.ref l), some (.int bh), none] H
  unfold t_is_step
  have q0 := q H .refl
  walk_at "w"
  cases r with
  | int i => walk_at "w"; exact q0
  | non => walk_at "w"; exact q0
  | bl b => walk_at "w"; exact q0
  | str b => walk_at "w"; exact q0
  | lst s e a => walk_at "w"; exact q0
  | dic s e => walk_at "w"; exact q0
  | @tup a xs ds e ra =>
    walk_at "w"
    cases ra with
    | nil => walk_at "w"; exact q0
    | @cons v0 vs0 d0 ds0 r0 rs =>
      refine w_iteD (fun h => ?_) (fun _ => ?_)
      · rw [List.length_cons] at h
        omega
      walk_at "w"
      cases r0 with
      | int i => walk_at "w"; exact q0
      | non => walk_at "w"; exact q0
      | bl b => walk_at "w"; exact q0
      | lst s1 e1 a1 => walk_at "w"; exact q0
      | dic s1 e1 => walk_at "w"; exact q0
      | tup e1 a1 => walk_at "w"; exact q0
      | str z =>
        rw [isStep_tup] at q0
        simp only [isStep_tup] at q
        have ln := rs.length
        walk_at "w"
        refine w_iteD (fun hz => ?_) (fun hz => ?_)
        · have hz' : z = "wait" := V.str.inj hz
          rw [if_pos hz'] at q0
          walk_at "w"
          have e2 : decide (V.int ((V.str z :: vs0).length : Nat) = V.int 1) = decide (ds0.length = 0) := by
            rw [← ln]
            exact decide_eq_decide.mpr ⟨fun h => by have := V.int.inj h; rw [List.length_cons] at this; omega, fun h => by rw [List.length_cons, h]; rfl⟩
          rw [e2]
          exact q0
        have hz' : ¬ z = "wait" := fun h => hz (by rw [h])
        rw [if_neg hz'] at q0
        simp only [if_neg hz'] at q
        walk_at "w"
        refine w_iteD (fun h3 => ?_) (fun h3 => ?_)
        rotate_left
        · walk_at "w"
          have e2 : ∀ a b, ds0 ≠ [a, b] := fun a b h => by
            apply h3
            rw [List.length_cons, ln, h]
            rfl
          match ds0, e2, q0 with
          | [], _, q0 => exact q0
          | [_], _, q0 => exact q0
          | _ :: _ :: _ :: _, _, q0 => exact q0
          | [a, b], h, _ => exact absurd rfl (h a b)
        cases rs with
        | nil => (have := V.int.inj h3; simp only [List.length_cons, List.length_nil] at this; omega)
        | @cons v1 vs1 d1 ds1 r1 rs1 =>
          cases rs1 with
          | nil => (have := V.int.inj h3; simp only [List.length_cons, List.length_nil] at this; omega)
          | @cons v2 vs2 d2 ds2 r2 rs2 =>
            cases rs2 with
            | cons _ _ =>
              have := V.int.inj h3
              simp only [List.length_cons] at this
              omega
            | nil =>
              have q : ∀ H', Chg [] H H' → Q (V.bl (step3 ns bh z d1 d2)) H' := q
              unfold step3 at q
              have sm1 : smallD d1 = true := smallDs_all (ds := [.str z, d1, d2]) sm d1 (by simp)
              walk_at "w"
              refine w_iteD (fun hc => ?_) (fun hc => ?_)
              · have hc' : z = "cell" := V.str.inj hc
                simp only [if_pos hc'] at q
                walk_at "w"
                refine ⟨v1, d1, S, 5, rfl, by omega, r1, fun H1 c1 => ?_⟩
                walk_at "w"
                refine w_iteB (fun b1 => ?_) (fun b1 => ?_)
                · walk_at "w"
                  refine ⟨v2, d2, S, 5, rfl, by omega, r2.same c1, fun H2 c2 => ?_⟩
                  have := q H2 (c1.same c2)
                  rw [b1] at this
                  exact this
                · walk_at "w"
                  have := q H1 c1
                  rw [b1] at this
                  exact this
              have hc' : ¬ z = "cell" := fun h => hc (by rw [h])
              simp only [if_neg hc'] at q
              walk_at "w"
              refine w_iteD (fun hs => ?_) (fun hs => ?_)
              · have hs' : z = "skip" := V.str.inj hs
                simp only [if_pos hs'] at q
                walk_at "w"
                refine ⟨v1, d1, S, 5, rfl, by omega, r1, fun H1 c1 => ?_⟩
                walk_at "w"
                refine w_iteB (fun b1 => ?_) (fun b1 => ?_)
                · walk_at "w"
                  refine ⟨v2, d2, S, rfl, r2.same c1, ?_⟩
                  walk_at "w"
                  have q1 := q H1 c1
                  rw [b1] at q1
                  cases r2 with
                  | int i =>
                    walk_at "w"
                    refine w_iteD (fun g => ?_) (fun g => ?_)
                    · walk_at "w"
                      have q1 : Q (V.bl (true && (decide (1 ≤ i) && decide (i ≤ bh)))) H1 := q1
                      rw [decide_eq_true g] at q1
                      exact q1
                    · walk_at "w"
                      have q1 : Q (V.bl (true && (decide (1 ≤ i) && decide (i ≤ bh)))) H1 := q1
                      rw [decide_eq_false g] at q1
                      exact q1
                  | non => walk_at "w"; exact q1
                  | bl b => walk_at "w"; exact q1
                  | str b => walk_at "w"; exact q1
                  | lst s1 e1 a1 => walk_at "w"; exact q1
                  | dic s1 e1 => walk_at "w"; exact q1
                  | tup e1 a1 => walk_at "w"; exact q1
                · walk_at "w"
                  have := q H1 c1
                  rw [b1] at this
                  exact this
              have hs' : ¬ z = "skip" := fun h => hs (by rw [h])
              simp only [if_neg hs'] at q
              walk_at "w"
              refine k_tup (by decide) fun p H1 np c1 hp => ?_
              refine w_notInT hp rfl rfl ?_
              have ein : inV (.str z) [V.str "give", V.str "fork", V.str "call"] = decide (z ∈ (["give", "fork", "call"] : List Str)) := inV_str z ["give", "fork", "call"]
              rw [ein]
              walk_at "w"
              refine w_iteD (fun hm => ?_) (fun hm => ?_)
              rotate_left
              · walk_at "w"
                have n1 : ¬ z = "give" := fun h => hm (by rw [h]; simp)
                have n2 : ¬ (z = "fork" ∨ z = "call") := fun h => hm (by rcases h with h | h <;> (rw [h]; simp))
                simp only [if_neg n1, if_neg n2] at q
                exact q H1 c1
              walk_at "w"
              refine ⟨v1, d1, S, rfl, r1.same c1, smallD_str sm1, fun H2 c2 => ?_⟩
              walk_at "w"
              refine w_iteB (fun b1 => ?_) (fun b1 => ?_)
              rotate_left
              · walk_at "w"
                have := q H2 (c1.same c2)
                rw [b1] at this
                simp only [Bool.false_and, ite_self] at this
                exact this
              walk_at "w"
              refine ⟨v2, d2, S, 5, rfl, by omega, r2.same (c1.same c2), fun H3 c3 => ?_⟩
              walk_at "w"
              refine w_iteB (fun b2 => ?_) (fun b2 => ?_)
              rotate_left
              · walk_at "w"
                have := q H3 ((c1.same c2).same c3)
                rw [b2, b1] at this
                simp only [Bool.and_false, Bool.false_and, ite_self] at this
                exact this
              walk_at "w"
              have q3 := q H3 ((c1.same c2).same c3)
              rw [b1, b2] at q3
              cases r1 with
              | str x1 =>
                refine w_iteD (fun hg => ?_) (fun hg => ?_)
                · have hg' : z = "give" := V.str.inj hg
                  rw [if_pos hg'] at q3
                  exact q3
                · have hg' : ¬ z = "give" := fun h => hg (by rw [h])
                  walk_at "w"
                  refine w_inL ((c1.same c2).same c3 |>.seq hl) rfl (flat_strs ns) ?_
                  rw [inV_str]
                  have hf : z = "fork" ∨ z = "call" := by
                    simp only [List.mem_cons, List.not_mem_nil, or_false] at hm
                    exact hm.resolve_left hg'
                  rw [if_neg hg', if_pos hf] at q3
                  exact q3
              | int i => cases b1
              | non => cases b1
              | bl b => cases b1
              | lst s1 e1 a1 => cases b1
              | dic s1 e1 => cases b1
              | tup e1 a1 => cases b1
end Fg
namespace Fg
open PySem PySem.Spec PyProof.Rows L2
/-! ### the walk's small steps -/
local macro_rules | `(tactic| walk_at "hp") => `(tactic| first
  | assumption
  | exact upd_same
  | (refine Chg.at (by assumption) ?_; walk_at "hp")
  | (refine Chg.at1 (by assumption) ?_ (by walk_at "ne"); walk_at "hp"))
local macro_rules | `(tactic| walk_at "ne") => `(tactic| first | assumption | (apply Ne.symm; assumption))
local macro_rules | `(tactic| walk_at "sq") => `(tactic| first | assumption | exact sqL (by walk_at "hp") | (refine Chg.seq (by assumption) ?_; walk_at "sq"))
local macro_rules | `(tactic| walk_at "sz") => `(tactic| first | assumption | exact Nat.zero_le _ | (simp only [List.length_cons, List.length_nil]; decide) | exact Nat.le_trans (by first | omega | (simp; done) | (simp; omega)) (show 100000 ≤ sizeLine by decide) | exact Nat.lt_of_lt_of_le (by first | omega | (simp; done) | (simp; omega)) (show 100000 ≤ sizeLine by decide))
local macro_rules | `(tactic| walk_at "ix") => `(tactic| first | exact at0 | exact at1 | exact at2 | exact at3 | assumption | exact rfl | walk_at "ix2")
local macro_rules | `(tactic| walk_at "ix2") => `(tactic| fail)
local macro_rules | `(tactic| walk_at "num") => `(tactic| first | assumption | omega | decide | walk_at "num2")
local macro_rules | `(tactic| walk_at "num2") => `(tactic| fail)
local macro_rules | `(tactic| walk_at "im") => `(tactic| first | assumption | exact R.non (S := fun _ => False) | exact R.bl (S := fun _ => False) _ | exact R.int (S := fun _ => False) _ | exact R.str (S := fun _ => False) _ | (refine R.im (by assumption) ?_; walk_at "im"))
local macro_rules | `(tactic| walk_at "r") => `(tactic| first | assumption | exact R.non (S := fun _ => False) | exact R.bl (S := fun _ => False) _ | exact R.int (S := fun _ => False) _ | exact R.str (S := fun _ => False) _ | (refine R.same (by assumption) ?_; walk_at "r") | exact R.any (by walk_at "im"))
local macro_rules | `(tactic| walk_at "chg") => `(tactic| first
  | exact Chg.refl
  | assumption
  | (refine Chg.same ?_ (by assumption); walk_at "chg")
  | (refine Chg.both ?_ (by assumption); walk_at "chg")
  | (refine Chg.pre (by assumption) ?_; walk_at "chg"))
local macro_rules | `(tactic| walk_at "w1") => `(tactic| first
  | with_reducible apply w_seq
  | with_reducible apply w_asg
  | ((with_reducible apply w_var); (focus (exact rfl)))
  | with_reducible apply w_c
  | with_reducible apply w_op
  | with_reducible apply w_cons
  | with_reducible apply w_nil
  | with_reducible apply w_gName
  | with_reducible apply w_if
  | with_reducible apply w_test
  | with_reducible apply w_B
  | with_reducible apply w_isbl
  | with_reducible apply w_retN
  | with_reducible apply w_next
  | with_reducible apply w_drop
  | with_reducible apply w_cb
  | with_reducible apply w_call
  | with_reducible apply w_callN
  | with_reducible apply w_bm
  | with_reducible apply w_bm0
  | ((with_reducible apply w_tyL); (focus (walk_at "hp"; done)))
  | with_reducible apply w_dput
  | with_reducible apply w_m1
  | with_reducible apply w_isstr
  | with_reducible apply w_and
  | with_reducible apply w_or
  | with_reducible apply w_not
  | with_reducible apply w_andV
  | with_reducible apply w_orV
  | with_reducible apply w_notV
  | with_reducible apply w_ifE
  | with_reducible apply w_chain
  | with_reducible apply w_un
  | with_reducible apply w_neg
  | with_reducible apply w_add
  | with_reducible apply w_sub
  | ((with_reducible apply w_mod); (focus (walk_at "num"; done)))
  | ((with_reducible apply w_mul); (focus (walk_at "num"; done)))
  | ((with_reducible apply w_fdiv); (focus (walk_at "num"; done)))
  | ((with_reducible apply w_pow); (focus (walk_at "num"; done)))
  | with_reducible apply w_lt
  | with_reducible apply w_le
  | with_reducible apply w_gt
  | with_reducible apply w_ge
  | with_reducible apply w_ltS
  | with_reducible apply w_geS
  | with_reducible apply w_inC
  | with_reducible apply w_notInC
  | with_reducible apply w_isN
  | with_reducible apply w_notN
  | with_reducible apply w_isB
  | with_reducible apply w_notB
  | ((with_reducible apply w_addS); (focus (walk_at "sz"; done)))
  | ((with_reducible apply w_ixL); (focus (walk_at "sq"; done)); (focus (walk_at "ix"; done)))
  | ((with_reducible apply w_ixT); (focus (walk_at "hp"; done)); (focus (walk_at "ix"; done)))
  | ((with_reducible apply w_ixS); (focus (walk_at "sz"; done)); (focus (walk_at "ix"; done)))
  | with_reducible apply w_gSub
  | ((with_reducible apply w_gTup); (focus (walk_at "hp"; done)); (focus (exact rfl)))
  | with_reducible apply w_gCons
  | with_reducible apply w_gNil
  | ((with_reducible apply w_aug); (focus (exact rfl)))
  | with_reducible apply w_ipI
  | ((with_reducible apply w_eq); (focus (exact rfl)))
  | ((with_reducible apply w_ne); (focus (exact rfl)))
  | with_reducible apply w_max
  | with_reducible apply w_min
  | with_reducible apply w_abs
  | with_reducible apply w_intB
  | with_reducible apply w_intI
  | with_reducible apply w_tup1
  | with_reducible apply w_lst1
  | with_reducible apply w_sl
  | with_reducible apply w_part
  | with_reducible apply w_noPart
  | with_reducible apply w_isint
  | ((with_reducible apply w_slS); (focus (walk_at "sz"; done)))
  | with_reducible apply w_iteT
  | with_reducible apply w_iteF
  | with_reducible apply w_iteN
  | ((with_reducible apply w_iteYes); (focus (exact rfl)))
  | ((with_reducible apply w_iteNo); (focus (exact rfl)))
  | ((with_reducible apply w_lenL); (focus (walk_at "sq"; done)))
  | ((with_reducible apply w_lenT); (focus (walk_at "hp"; done)))
  | ((with_reducible apply w_lenS); (focus (walk_at "sz"; done)))
  | with_reducible apply w_lc
  | with_reducible apply w_for
  | with_reducible apply w_yes
  | ((with_reducible apply w_wipe); (focus (exact rfl)))
  | with_reducible apply w_iList
  | with_reducible apply w_iTup
  | with_reducible apply w_iStr
  | with_reducible apply w_iRng1
  | with_reducible apply w_iRng2
  | with_reducible apply w_iZip
  | with_reducible apply w_iEnum
  | ((with_reducible apply d_iList); (focus (walk_at "sq"; done)))
  | ((with_reducible apply d_iTup); (focus (walk_at "hp"; done)))
  | with_reducible apply d_iStr
  | ((with_reducible apply d_iRng1); (focus (walk_at "num"; done)); (focus (walk_at "num"; done)))
  | ((with_reducible apply d_iRng2); (focus (walk_at "num"; done)); (focus (walk_at "num"; done)); (focus (walk_at "num"; done)); (focus (walk_at "num"; done)))
  | ((with_reducible apply d_iZip); (focus (walk_at "sq"; done)); (focus (walk_at "sq"; done)))
  | ((with_reducible apply d_iEnum); (focus (walk_at "sq"; done)))
  | walk_at "w2")
local macro_rules | `(tactic| walk_at "w2") => `(tactic| fail)
local macro_rules | `(tactic| walk_at "wn") => `(tactic| repeat walk_at "w1")
local macro_rules | `(tactic| walk_at "w") => `(tactic| repeat (first | walk_at "w1" | with_reducible apply w_ret))

local macro_rules | `(tactic| walk_at "w2") => `(tactic| first
  | ((with_reducible apply w_isInt); (focus (walk_at "r"; done)))
  | ((with_reducible apply w_isBool); (focus (walk_at "r"; done)))
  | ((with_reducible apply w_isStr); (focus (walk_at "r"; done)))
  | ((with_reducible apply w_isTup); (focus (walk_at "r"; done)))
  | ((with_reducible apply w_isLst); (focus (walk_at "r"; done)))
  | ((with_reducible apply w_notInP); (focus (assumption)))
  | ((with_reducible apply w_ixP); (focus (assumption)); (focus (assumption))))

def lenOk : PyData → Bool
  | .list ds => decide (ds.length ≤ 1000)
  | _ => true
def sp_has_form : Sp := fun vs H Q _ => ∃ (v : V) (d : PyData) (S : Addr → Prop), vs = [v] ∧ R S H v d ∧ smallD d = true ∧ lenOk d = true ∧ ∀ H', Chg [] H H' → Q (.bl (hasForm d)) H'
def t_has_form (K : PySem.W.Frag) : TS :=
    tSeq (tIfS (tNot (tB (tCB (rIsi K) (tCons (tVar 0) (tCons (tC (.ty "list")) (tNil)))))) (tRet (tC (.bl false))) (tNext))
    (tSeq (tFor (iList K (tVar 0)) (gName 1) (tIfS (tOr (tNot (tB (tCB (rIsi K) (tCons (tVar 1) (tCons (tC (.ty "tuple")) (tNil)))))) (tOr (tTest (tOp rNe (tCB (cLenQ K) (tCons (tVar 1) (tNil))) (tC (.int 2)))) (tOr (tNot (tB (tCall sp_is_name [] E0 (tCons (tOp (rIxT K) (tVar 1) (tC (.int 0))) (tNil))))) (tNot (tB (tCB (rIsi K) (tCons (tOp (rIxT K) (tVar 1) (tC (.int 1))) (tCons (tC (.ty "list")) (tNil))))))))) (tRet (tC (.bl false))) (tNext)))
    (tSeq (tAsg (tLc (iList K (tVar 0)) (gTup K 2 (gCons (gName 3) (gCons (gName 4) (gNil)))) (tYes) (tVar 3) [3, 4]) (gName 2))
    (tRet (tCB (rAll K) (tCons (tLc (iZip K (tCons (tVar 2) (tCons (tSl (rSlL K) (tVar 2) (tPart (tC (.int 1))) (tNoPart)) (tNil)))) (gTup K 2 (gCons (gName 5) (gCons (gName 6) (gNil)))) (tYes) (tOp oLtS (tVar 5) (tVar 6)) [5, 6]) (tNil))))))
theorem rising_zip : ∀ ns : List Str, rising ns = ((ns.zip (ns.drop 1)).map fun p => ltS p.1 p.2).all id
  | [] => rfl
  | [_] => rfl
  | x :: y :: r => by
    show (ltS x y && rising (y :: r)) = _
    rw [rising_zip (y :: r)]
    rfl
theorem rowOk_false {d : PyData} (h : ∀ x ds, d = .tuple [.str x, .list ds] → nameS x = false) : rowOk d = false := by
  unfold rowOk
  split
  · exact h _ _ rfl
  · rfl
theorem hasForm_false {rows : List PyData} {i : Nat} {d : PyData} (h : rows[i]? = some d) (hd : rowOk d = false) : hasForm (.list rows) = false := by
  have : rows.all rowOk = false := by
    rw [List.all_eq_false]
    exact ⟨d, List.mem_of_getElem? h, by rw [hd]; decide⟩
  show (rows.all rowOk && _) = false
  rw [this]
  rfl
theorem rowOk_true {d : PyData} (h : rowOk d = true) : ∃ x ds, d = .tuple [.str x, .list ds] ∧ nameS x = true := by
  unfold rowOk at h
  split at h
  · exact ⟨_, _, rfl, h⟩
  · cases h
theorem pure_has_form {K : PySem.W.Frag} (vs : List V) (H : Hp) (Q : VK) (E : XK) (h : sp_has_form vs H Q E) : t_has_form K (fin Q) (start ["thing", "row", "names", "name", "steps", "one", "other"] vs) H := by
  obtain ⟨v, d, S, rfl, r, sm, lo, q⟩ := h
  show t_has_form K _ [some v, none, none, none, none, none, none] H
  unfold t_has_form
  have q0 := q H .refl
  walk_at "w"
  cases r with
  | int i => walk_at "w"; exact q0
  | non => walk_at "w"; exact q0
  | bl b => walk_at "w"; exact q0
  | str b => walk_at "w"; exact q0
  | tup e1 a1 => walk_at "w"; exact q0
  | dic s e => walk_at "w"; exact q0
  | @lst a xs ds s e ra =>
    walk_at "w"
    have ln := ra.length
    have lo' : ds.length ≤ 1000 := of_decide_eq_true lo
    refine for_it (walk_list (K := K) (a := a) (xs := xs)) (fun i σ H1 => Chg [] H H1 ∧ (∀ j d, j < i → ds[j]? = some d → rowOk d = true) ∧ ∃ y, σ = [some (.ref a), y, none, none, none, none, none]) ⟨.refl, fun j d h => by omega, none, rfl⟩ (fun i σ H1 _ p => sqL (p.1.at e)) (fun i x σ H1 H2 hi p y => ?_) (fun σ H1 p => ?_)
    · obtain ⟨c1, ok, y1, rfl⟩ := p
      obtain ⟨rfl, ex⟩ := y
      obtain ⟨d1, ed, r1⟩ := ra.get ex
      have r1 := r1.same c1
      have sm1 : smallD d1 = true := smallDs_all (ds := ds) sm d1 (List.mem_of_getElem? ed)
      have bad : ∀ H3, Chg [] H2 H3 → rowOk d1 = false → Q (.bl false) H3 := fun H3 c3 hb => by
        have := q H3 (c1.same c3)
        rw [hasForm_false ed hb] at this
        exact this
      walk_at "w"
      cases r1 with
      | int i => walk_at "w"; exact bad _ .refl rfl
      | non => walk_at "w"; exact bad _ .refl rfl
      | bl b => walk_at "w"; exact bad _ .refl rfl
      | str b => walk_at "w"; exact bad _ .refl rfl
      | lst s e a => walk_at "w"; exact bad _ .refl rfl
      | dic s e => walk_at "w"; exact bad _ .refl rfl
      | @tup a2 xs2 ds2 e2 ra2 =>
        walk_at "w"
        have ln2 := ra2.length
        refine w_iteD (fun h2 => ?_) (fun h2 => ?_)
        rotate_left
        · walk_at "w"
          refine bad _ .refl (rowOk_false fun x ds h => ?_)
          exfalso
          apply h2
          rw [ln2]
          cases h
          rfl
        have h2' := V.int.inj h2
        cases ra2 with
        | nil => simp only [List.length_nil] at h2'; omega
        | @cons v0 vs0 d0 ds0 r0 rs0 =>
          cases rs0 with
          | nil => simp only [List.length_cons, List.length_nil] at h2'; omega
          | @cons v3 vs3 d3 ds3 r3 rs3 =>
            cases rs3 with
            | cons _ _ => simp only [List.length_cons] at h2'; omega
            | nil =>
              have sm0 : smallD d0 = true := smallDs_all (ds := [d0, d3]) sm1 d0 (by simp)
              walk_at "w"
              refine ⟨v0, d0, S, rfl, r0, smallD_str sm0, fun H3 c3 => ?_⟩
              walk_at "w"
              refine w_iteB (fun b1 => ?_) (fun b1 => ?_)
              rotate_left
              · walk_at "w"
                refine bad _ c3 (rowOk_false fun x ds h => ?_)
                cases h
                exact b1
              walk_at "w"
              have r3 := r3.same c3
              walk_at "w"
              have nolist : dLst d3 = false → rowOk (.tuple [d0, d3]) = false := fun hl => rowOk_false fun x ds h => by
                cases h
                cases hl
              cases r3 with
              | int i => walk_at "w"; exact bad _ c3 (nolist rfl)
              | non => walk_at "w"; exact bad _ c3 (nolist rfl)
              | bl b => walk_at "w"; exact bad _ c3 (nolist rfl)
              | str b => walk_at "w"; exact bad _ c3 (nolist rfl)
              | tup e a => walk_at "w"; exact bad _ c3 (nolist rfl)
              | dic s e => walk_at "w"; exact bad _ c3 (nolist rfl)
              | lst s4 e4 a4 =>
                walk_at "w"
                refine ⟨c1.same c3, fun j d hj hd => ?_, _, rfl⟩
                by_cases hji : j < i
                · exact ok j d hji hd
                · have : j = i := by omega
                  subst this
                  rw [ed] at hd
                  cases hd
                  cases r0 with
                  | str x => exact b1
                  | _ => cases b1
    · obtain ⟨c1, ok, y1, rfl⟩ := p
      have allok : ds.all rowOk = true := by
        rw [List.all_eq_true]
        intro d hd
        obtain ⟨j, hj⟩ := List.getElem?_of_mem hd
        exact ok j d (by have := (List.getElem?_eq_some_iff.mp hj).1; omega) hj
      walk_at "w"
      have ra1 := ra.same c1
      have e1 := c1.at e
      refine w_lcP walk_list [] (fun _ _ => True) (fun i y _ => ∃ d, ds[i]? = some d ∧ y = .str (rowName d)) trivial (fun _ _ _ _ _ _ _ => trivial) (fun H2 c => sqL (c.at e1)) (fun D i acc z H2 H3 hi nD hD el iv c _ y => ?_) (fun D acc H2 nD c _ el hD ys => ?_)
      · obtain ⟨rfl, ex⟩ := y
        obtain ⟨d1, ed, r1⟩ := ra1.get ex
        obtain ⟨x, ds1, rfl, hx⟩ := rowOk_true (List.all_eq_true.mp allok d1 (List.mem_of_getElem? ed))
        cases r1 with
        | tup e2 ra2 =>
          cases ra2 with
          | cons r0 rs0 =>
            cases rs0 with
            | cons r3 rs3 =>
              cases rs3
              cases r0
              have e3 := c.at e2
              walk_at "w"
              exact lcp_end (fun _ _ _ _ _ _ _ => trivial) (fun _ _ _ _ _ _ _ h => h) nD (by simp) hD el (by omega) iv .refl trivial ⟨_, ed, rfl⟩
      · have e3 : acc = (ds.map rowName).map V.str := by
          apply List.ext_getElem?
          intro i
          rw [List.getElem?_map, List.getElem?_map]
          by_cases hi : i < xs.length
          · have e4 : acc[i]? = some acc[i] := List.getElem?_eq_getElem (by omega)
            obtain ⟨d1, ed, e5⟩ := ys i _ e4
            rw [e4, ed, e5]
            rfl
          · rw [List.getElem?_eq_none (by omega), List.getElem?_eq_none (by omega)]
            rfl
        subst e3
        walk_at "w"
        refine w_slL (sqL hD) fun p' H3 np c3 hp => ?_
        rw [cut1] at hp
        walk_at "w"
        have hD3 := c3.at hD
        have lz : (ds.map rowName).length = ds.length := List.length_map _
        refine w_lcP (walk_zip rfl) [] (fun _ _ => True) (fun i y _ => ∃ x x', (ds.map rowName)[i]? = some x ∧ ((ds.map rowName).drop 1)[i]? = some x' ∧ y = .bl (ltS x x')) trivial (fun _ _ _ _ _ _ _ => trivial) (fun H4 c4 => ⟨sqL (c4.at hD3), sqL (c4.at hp)⟩) (fun D2 i acc z H4 H5 hi nD2 hD2 el2 iv2 c4 _ y => ?_) (fun D2 acc H4 nD2 c4 _ el2 hD2 ys2 => ?_)
        · obtain ⟨T, x, y, rfl, nT, rfl, ex, ey⟩ := y
          have ex : ((ds.map rowName).map V.str)[i]? = some x := ex
          have ey : (((ds.map rowName).map V.str).drop 1)[i]? = some y := ey
          rw [List.getElem?_map] at ex
          rw [← List.map_drop, List.getElem?_map] at ey
          cases ez1 : (ds.map rowName)[i]? with
          | none => rw [ez1] at ex; cases ex
          | some x1 =>
            cases ez2 : ((ds.map rowName).drop 1)[i]? with
            | none => rw [ez2] at ey; cases ey
            | some x2 =>
              rw [ez1] at ex
              rw [ez2] at ey
              cases ex
              cases ey
              have cT : Chg [] H4 (upd H4 T (.tup [.str x1, .str x2])) := .new nT
              walk_at "w"
              have hi2 : i < 1000 := by
                have := (List.getElem?_eq_some_iff.mp ez1).1
                omega
              exact lcp_end (fun _ _ _ _ _ _ _ => trivial) (fun _ _ _ _ _ _ _ h => h) nD2 (by simp) hD2 el2 (by omega) iv2 cT trivial ⟨x1, x2, ez1, ez2, rfl⟩
        · have e6 : acc = (((ds.map rowName).zip ((ds.map rowName).drop 1)).map fun p => ltS p.1 p.2).map V.bl := by
            refine all_bl el2 (by simp) fun i y hy => ?_
            obtain ⟨x, x', g1, g2, rfl⟩ := ys2 i y hy
            refine ⟨_, ?_, rfl⟩
            rw [List.getElem?_map, List.getElem?_zip_eq_some (z := (x, x')) |>.mpr ⟨g1, g2⟩]
            rfl
          subst e6
          walk_at "w"
          refine w_all hD2 ?_
          rw [← rising_zip]
          have e7 : hasForm (.list ds) = rising (ds.map rowName) := by
            show (ds.all rowOk && rising (ds.map rowName)) = _
            rw [allok]
            rfl
          rw [← e7]
          exact q H4 (((c1.same c).same c3).same c4)
end Fg
namespace Fg
open PySem PySem.Spec PyProof.Rows L2
/-! ### the walk's small steps -/
local macro_rules | `(tactic| walk_at "hp") => `(tactic| first
  | assumption
  | exact upd_same
  | (refine Chg.at (by assumption) ?_; walk_at "hp")
  | (refine Chg.at1 (by assumption) ?_ (by walk_at "ne"); walk_at "hp"))
local macro_rules | `(tactic| walk_at "ne") => `(tactic| first | assumption | (apply Ne.symm; assumption))
local macro_rules | `(tactic| walk_at "sq") => `(tactic| first | assumption | exact sqL (by walk_at "hp") | (refine Chg.seq (by assumption) ?_; walk_at "sq"))
local macro_rules | `(tactic| walk_at "sz") => `(tactic| first | assumption | exact Nat.zero_le _ | (simp only [List.length_cons, List.length_nil]; decide) | exact Nat.le_trans (by first | omega | (simp; done) | (simp; omega)) (show 100000 ≤ sizeLine by decide) | exact Nat.lt_of_lt_of_le (by first | omega | (simp; done) | (simp; omega)) (show 100000 ≤ sizeLine by decide))
local macro_rules | `(tactic| walk_at "ix") => `(tactic| first | exact at0 | exact at1 | exact at2 | exact at3 | assumption | exact rfl | walk_at "ix2")
local macro_rules | `(tactic| walk_at "ix2") => `(tactic| fail)
local macro_rules | `(tactic| walk_at "num") => `(tactic| first | assumption | omega | decide | walk_at "num2")
local macro_rules | `(tactic| walk_at "num2") => `(tactic| fail)
local macro_rules | `(tactic| walk_at "im") => `(tactic| first | assumption | exact R.non (S := fun _ => False) | exact R.bl (S := fun _ => False) _ | exact R.int (S := fun _ => False) _ | exact R.str (S := fun _ => False) _ | (refine R.im (by assumption) ?_; walk_at "im"))
local macro_rules | `(tactic| walk_at "r") => `(tactic| first | assumption | exact R.non (S := fun _ => False) | exact R.bl (S := fun _ => False) _ | exact R.int (S := fun _ => False) _ | exact R.str (S := fun _ => False) _ | (refine R.same (by assumption) ?_; walk_at "r") | exact R.any (by walk_at "im"))
local macro_rules | `(tactic| walk_at "chg") => `(tactic| first
  | exact Chg.refl
  | assumption
  | (refine Chg.same ?_ (by assumption); walk_at "chg")
  | (refine Chg.both ?_ (by assumption); walk_at "chg")
  | (refine Chg.pre (by assumption) ?_; walk_at "chg"))
local macro_rules | `(tactic| walk_at "w1") => `(tactic| first
  | with_reducible apply w_seq
  | with_reducible apply w_asg
  | ((with_reducible apply w_var); (focus (exact rfl)))
  | with_reducible apply w_c
  | with_reducible apply w_op
  | with_reducible apply w_cons
  | with_reducible apply w_nil
  | with_reducible apply w_gName
  | with_reducible apply w_if
  | with_reducible apply w_test
  | with_reducible apply w_B
  | with_reducible apply w_isbl
  | with_reducible apply w_retN
  | with_reducible apply w_next
  | with_reducible apply w_drop
  | with_reducible apply w_cb
  | with_reducible apply w_call
  | with_reducible apply w_callN
  | with_reducible apply w_bm
  | with_reducible apply w_bm0
  | ((with_reducible apply w_tyL); (focus (walk_at "hp"; done)))
  | with_reducible apply w_dput
  | with_reducible apply w_m1
  | with_reducible apply w_isstr
  | with_reducible apply w_and
  | with_reducible apply w_or
  | with_reducible apply w_not
  | with_reducible apply w_andV
  | with_reducible apply w_orV
  | with_reducible apply w_notV
  | with_reducible apply w_ifE
  | with_reducible apply w_chain
  | with_reducible apply w_un
  | with_reducible apply w_neg
  | with_reducible apply w_add
  | with_reducible apply w_sub
  | ((with_reducible apply w_mod); (focus (walk_at "num"; done)))
  | ((with_reducible apply w_mul); (focus (walk_at "num"; done)))
  | ((with_reducible apply w_fdiv); (focus (walk_at "num"; done)))
  | ((with_reducible apply w_pow); (focus (walk_at "num"; done)))
  | with_reducible apply w_lt
  | with_reducible apply w_le
  | with_reducible apply w_gt
  | with_reducible apply w_ge
  | with_reducible apply w_ltS
  | with_reducible apply w_geS
  | with_reducible apply w_inC
  | with_reducible apply w_notInC
  | with_reducible apply w_isN
  | with_reducible apply w_notN
  | with_reducible apply w_isB
  | with_reducible apply w_notB
  | ((with_reducible apply w_addS); (focus (walk_at "sz"; done)))
  | ((with_reducible apply w_ixL); (focus (walk_at "sq"; done)); (focus (walk_at "ix"; done)))
  | ((with_reducible apply w_ixT); (focus (walk_at "hp"; done)); (focus (walk_at "ix"; done)))
  | ((with_reducible apply w_ixS); (focus (walk_at "sz"; done)); (focus (walk_at "ix"; done)))
  | with_reducible apply w_gSub
  | ((with_reducible apply w_gTup); (focus (walk_at "hp"; done)); (focus (exact rfl)))
  | with_reducible apply w_gCons
  | with_reducible apply w_gNil
  | ((with_reducible apply w_aug); (focus (exact rfl)))
  | with_reducible apply w_ipI
  | ((with_reducible apply w_eq); (focus (exact rfl)))
  | ((with_reducible apply w_ne); (focus (exact rfl)))
  | with_reducible apply w_max
  | with_reducible apply w_min
  | with_reducible apply w_abs
  | with_reducible apply w_intB
  | with_reducible apply w_intI
  | with_reducible apply w_tup1
  | with_reducible apply w_lst1
  | with_reducible apply w_sl
  | with_reducible apply w_part
  | with_reducible apply w_noPart
  | with_reducible apply w_isint
  | ((with_reducible apply w_slS); (focus (walk_at "sz"; done)))
  | with_reducible apply w_iteT
  | with_reducible apply w_iteF
  | with_reducible apply w_iteN
  | ((with_reducible apply w_iteYes); (focus (exact rfl)))
  | ((with_reducible apply w_iteNo); (focus (exact rfl)))
  | ((with_reducible apply w_lenL); (focus (walk_at "sq"; done)))
  | ((with_reducible apply w_lenT); (focus (walk_at "hp"; done)))
  | ((with_reducible apply w_lenS); (focus (walk_at "sz"; done)))
  | with_reducible apply w_lc
  | with_reducible apply w_for
  | with_reducible apply w_yes
  | ((with_reducible apply w_wipe); (focus (exact rfl)))
  | with_reducible apply w_iList
  | with_reducible apply w_iTup
  | with_reducible apply w_iStr
  | with_reducible apply w_iRng1
  | with_reducible apply w_iRng2
  | with_reducible apply w_iZip
  | with_reducible apply w_iEnum
  | ((with_reducible apply d_iList); (focus (walk_at "sq"; done)))
  | ((with_reducible apply d_iTup); (focus (walk_at "hp"; done)))
  | with_reducible apply d_iStr
  | ((with_reducible apply d_iRng1); (focus (walk_at "num"; done)); (focus (walk_at "num"; done)))
  | ((with_reducible apply d_iRng2); (focus (walk_at "num"; done)); (focus (walk_at "num"; done)); (focus (walk_at "num"; done)); (focus (walk_at "num"; done)))
  | ((with_reducible apply d_iZip); (focus (walk_at "sq"; done)); (focus (walk_at "sq"; done)))
  | ((with_reducible apply d_iEnum); (focus (walk_at "sq"; done)))
  | walk_at "w2")
local macro_rules | `(tactic| walk_at "w2") => `(tactic| fail)
local macro_rules | `(tactic| walk_at "wn") => `(tactic| repeat walk_at "w1")
local macro_rules | `(tactic| walk_at "w") => `(tactic| repeat (first | walk_at "w1" | with_reducible apply w_ret))

local macro_rules | `(tactic| walk_at "w2") => `(tactic| first
  | ((with_reducible apply w_isInt); (focus (walk_at "r"; done)))
  | ((with_reducible apply w_isBool); (focus (walk_at "r"; done)))
  | ((with_reducible apply w_isStr); (focus (walk_at "r"; done)))
  | ((with_reducible apply w_isTup); (focus (walk_at "r"; done)))
  | ((with_reducible apply w_isLst); (focus (walk_at "r"; done)))
  | ((with_reducible apply w_notInP); (focus (assumption)))
  | ((with_reducible apply w_ixP); (focus (assumption)); (focus (assumption))))

def fwV : Option (Str × Nat) → List V
  | none => [.non, .non]
  | some (n, k) => [.str n, .int (k : Nat)]
def sp_first_wrong : Sp := fun vs H Q _ => ∃ (v : V) (d : PyData) (S : Addr → Prop), vs = [v] ∧ R S H v d ∧ smallD d = true ∧ lenOk d = true ∧ (firstWrong d = none → ∀ H', Chg [] H H' → Q .non H') ∧
  ∀ o, firstWrong d = some o → ∀ p H', Chg [] H H' → H' p = some (.tup (fwV o)) → Q (.ref p) H'
def t_first_wrong (K : PySem.W.Frag) : TS :=
    tSeq (tIfS (tNot (tB (tCall sp_has_form [] E0 (tCons (tVar 0) (tNil))))) (tRet (tTup (tCons (tC .non) (tCons (tC .non) (tNil))))) (tNext))
    (tSeq (tAsg (tLc (iList K (tVar 0)) (gTup K 2 (gCons (gName 2) (gCons (gName 3) (gNil)))) (tYes) (tVar 2) [2, 3]) (gName 1))
    (tSeq (tFor (iList K (tVar 0)) (gTup K 2 (gCons (gName 2) (gCons (gName 3) (gNil)))) (tFor (iEnum K (tCons (tVar 3) (tNil))) (gTup K 2 (gCons (gName 4) (gCons (gName 5) (gNil)))) (tIfS (tNot (tB (tCall (sp_is_step K) [] E0 (tCons (tVar 5) (tCons (tVar 1) (tCons (tOp oSub (tOp oSub (tCB (cLenQ K) (tCons (tVar 3) (tNil))) (tVar 4)) (tC (.int 1))) (tNil))))))) (tRet (tTup (tCons (tVar 2) (tCons (tVar 4) (tNil))))) (tNext))))
    (tRet (tC .non))))
theorem wrongAt_skip {ns : List Str} {ys : List PyData} {j : Nat} {d : PyData} (h : ys[j]? = some d) (hs : isStep ns ((ys.length : Int) - j - 1) d = true) : wrongAt ns j (ys.drop j) = wrongAt ns (j + 1) (ys.drop (j + 1)) := by
  have hj := (List.getElem?_eq_some_iff.mp h)
  obtain ⟨hl, e⟩ := hj
  rw [List.drop_eq_getElem_cons hl, e]
  show (if isStep ns ((ys.drop (j + 1)).length : Int) d = true then _ else _) = _
  rw [if_pos]
  rw [← hs]
  congr 1
  rw [List.length_drop]
  omega
theorem wrongAt_here {ns : List Str} {ys : List PyData} {j : Nat} {d : PyData} (h : ys[j]? = some d) (hs : isStep ns ((ys.length : Int) - j - 1) d = false) : wrongAt ns j (ys.drop j) = some j := by
  obtain ⟨hl, e⟩ := List.getElem?_eq_some_iff.mp h
  rw [List.drop_eq_getElem_cons hl, e]
  show (if isStep ns ((ys.drop (j + 1)).length : Int) d = true then _ else _) = _
  rw [if_neg]
  have e2 : ((ys.drop (j + 1)).length : Int) = (ys.length : Int) - j - 1 := by
    rw [List.length_drop]
    omega
  rw [e2, hs]
  decide
theorem pure_first_wrong {K : PySem.W.Frag} (vs : List V) (H : Hp) (Q : VK) (E : XK) (h : sp_first_wrong vs H Q E) : t_first_wrong K (fin Q) (start ["program", "names", "name", "steps", "at", "step"] vs) H := by
  obtain ⟨v, d, S, rfl, r, sm, lo, qn, qs⟩ := h
  show t_first_wrong K _ [some v, none, none, none, none, none] H
  unfold t_first_wrong
  walk_at "w"
  refine ⟨v, d, S, rfl, r, sm, lo, fun H1 c1 => ?_⟩
  walk_at "w"
  refine w_iteB (fun hf => ?_) (fun hf => ?_)
  rotate_left
  · walk_at "w"
    refine k_tup (by decide) fun p H2 np c2 hp => ?_
    exact qs none (by unfold firstWrong; rw [hf]; rfl) p H2 (c1.same c2) hp
  cases r with
  | int i => cases hf
  | non => cases hf
  | bl b => cases hf
  | str b => cases hf
  | tup e1 a1 => cases hf
  | dic s e => cases hf
  | @lst a xs ds s e ra =>
    have efw : firstWrong (.list ds) = (wrongIn (ds.map rowName) ds).map some := by
      unfold firstWrong
      rw [if_pos hf]
      rfl
    have ln := ra.length
    have lo' : ds.length ≤ 1000 := of_decide_eq_true lo
    have allok : ds.all rowOk = true := (Bool.and_eq_true_iff.mp (show (ds.all rowOk && rising (ds.map rowName)) = true from hf)).1
    have ra1 := ra.same c1
    have e1 := c1.at e
    walk_at "w"
    refine w_lcP walk_list [] (fun _ _ => True) (fun i y _ => ∃ d, ds[i]? = some d ∧ y = .str (rowName d)) trivial (fun _ _ _ _ _ _ _ => trivial) (fun H2 c => sqL (c.at e1)) (fun D i acc z H2 H3 hi nD hD el iv c _ y => ?_) (fun D acc H2 nD c _ el hD ys => ?_)
    · obtain ⟨rfl, ex⟩ := y
      obtain ⟨d1, ed, r1⟩ := ra1.get ex
      obtain ⟨x, ds1, rfl, hx⟩ := rowOk_true (List.all_eq_true.mp allok d1 (List.mem_of_getElem? ed))
      cases r1 with
      | tup e2 ra2 =>
        cases ra2 with
        | cons r0 rs0 =>
          cases rs0 with
          | cons r3 rs3 =>
            cases rs3
            cases r0
            have e3 := c.at e2
            walk_at "w"
            exact lcp_end (fun _ _ _ _ _ _ _ => trivial) (fun _ _ _ _ _ _ _ h => h) nD (by simp) hD el (by omega) iv .refl trivial ⟨_, ed, rfl⟩
    · have e3 : acc = (ds.map rowName).map V.str := by
        apply List.ext_getElem?
        intro i
        rw [List.getElem?_map, List.getElem?_map]
        by_cases hi : i < xs.length
        · have e4 : acc[i]? = some acc[i] := List.getElem?_eq_getElem (by omega)
          obtain ⟨d1, ed, e5⟩ := ys i _ e4
          rw [e4, ed, e5]
          rfl
        · rw [List.getElem?_eq_none (by omega), List.getElem?_eq_none (by omega)]
          rfl
      subst e3
      walk_at "w"
      have e2 := c.at e1
      have ra2 := ra1.same c
      have c12 := c1.same c
      refine for_it (walk_list (K := K) (a := a) (xs := xs)) (fun i σ H3 => Chg [] H2 H3 ∧ wrongIn (ds.map rowName) ds = wrongIn (ds.map rowName) (ds.drop i) ∧ ∃ y2 y3 y4 y5, σ = [some (.ref a), some (.ref D), y2, y3, y4, y5]) ⟨.refl, rfl, none, none, none, none, rfl⟩ (fun i σ H3 _ p => sqL (p.1.at e2)) (fun i x σ H3 H4 hi p y => ?_) (fun σ H3 p => ?_)
      · obtain ⟨c3, wr, y2, y3, y4, y5, rfl⟩ := p
        obtain ⟨rfl, ex⟩ := y
        obtain ⟨d1, ed, r1⟩ := ra2.get ex
        obtain ⟨x1, ds1, rfl, hx⟩ := rowOk_true (List.all_eq_true.mp allok d1 (List.mem_of_getElem? ed))
        have sm1 : smallD (.tuple [.str x1, .list ds1]) = true := smallDs_all (ds := ds) sm _ (List.mem_of_getElem? ed)
        have sm2 : smallDs ds1 = true := smallDs_all (ds := [.str x1, .list ds1]) sm1 (.list ds1) (by simp)
        obtain ⟨hli, edi⟩ := List.getElem?_eq_some_iff.mp ed
        have wr1 : wrongIn (ds.map rowName) ds = (match wrongAt (ds.map rowName) 0 ds1 with
            | some k => some (x1, k)
            | none => wrongIn (ds.map rowName) (ds.drop (i + 1))) := by
          rw [wr, List.drop_eq_getElem_cons hli, edi]
          rfl
        cases r1 with
        | tup e4 ra4 =>
          cases ra4 with
          | cons r0 rs0 =>
            cases rs0 with
            | cons r3 rs3 =>
              cases rs3
              cases r0
              cases r3 with
              | @lst l5 ys5 _ s5 e5 ra5 =>
                have e6 := c3.at e4
                have e7 := c3.at e5
                have ln5 := ra5.length
                walk_at "w"
                refine for_it (walk_enum (K := K) (a := l5) (xs := ys5)) (fun j σ H5 => Chg [] H4 H5 ∧ wrongAt (ds.map rowName) 0 ds1 = wrongAt (ds.map rowName) j (ds1.drop j) ∧ ∃ y4 y5, σ = [some (.ref a), some (.ref D), some (.str x1), some (.ref l5), y4, y5]) ⟨.refl, rfl, _, _, rfl⟩ (fun j σ H5 _ p => sqL (p.1.at e7)) (fun j x σ H5 H6 hj p y => ?_) (fun σ H5 p => ?_)
                · obtain ⟨c5, wa, z4, z5, rfl⟩ := p
                  obtain ⟨T, vx, vy, rfl, nT, rfl, ex, ey⟩ := y
                  cases ex
                  have ey : ys5[j]? = some vy := ey
                  obtain ⟨d6, ed6, r6⟩ := ra5.get ey
                  have cT : Chg [] H5 (upd H5 T (.tup [.int (j : Nat), vy])) := .new nT
                  have c6 : Chg [] H2 (upd H5 T (.tup [.int (j : Nat), vy])) := (c3.same c5).same cT
                  have e8 := cT.at (c5.at e7)
                  walk_at "w"
                  refine ⟨vy, d6, S, D, ds.map rowName, (ys5.length : Int) - (j : Nat) - 1, rfl, r6.same c6, smallDs_all sm2 d6 (List.mem_of_getElem? ed6), sqL (c6.at hD), fun H7 c7 => ?_⟩
                  have eln : ((ys5.length : Int) - (j : Nat) - 1) = ((ds1.length : Int) - (j : Nat) - 1) := by rw [ln5]
                  rw [eln]
                  walk_at "w"
                  refine w_iteB (fun b1 => ?_) (fun b1 => ?_)
                  · walk_at "w"
                    exact ⟨(c5.same cT).same c7, by rw [wa, wrongAt_skip ed6 b1], _, _, rfl⟩
                  · walk_at "w"
                    refine k_tup (by walk_at "sz") fun p H8 np c8 hp => ?_
                    refine qs (some (x1, j)) ?_ p H8 ((c12.same (c6.same c7)).same c8) hp
                    rw [efw, wr1, wa, wrongAt_here ed6 b1]
                    rfl
                · obtain ⟨c5, wa, z4, z5, rfl⟩ := p
                  refine ⟨c3.same c5, ?_, _, _, _, _, rfl⟩
                  rw [wr1, wa, ln5, List.drop_eq_nil_of_le (Nat.le_refl _)]
                  rfl
      · obtain ⟨c3, wr, y2, y3, y4, y5, rfl⟩ := p
        walk_at "w"
        refine qn ?_ H3 (c12.same c3)
        rw [efw, wr, List.drop_eq_nil_of_le (by omega)]
        rfl
def sp_is_program : Sp := fun vs H Q _ => ∃ (v : V) (d : PyData) (S : Addr → Prop), vs = [v] ∧ R S H v d ∧ smallD d = true ∧ lenOk d = true ∧ ∀ H', Chg [] H H' → Q (.bl (firstWrong d).isNone) H'
def t_is_program  : TS :=
    tRet (tOp oIsN (tCall sp_first_wrong [] E0 (tCons (tVar 0) (tNil))) (tC .non))
theorem pure_is_program {K : PySem.W.Frag} (vs : List V) (H : Hp) (Q : VK) (E : XK) (h : sp_is_program vs H Q E) : t_is_program (fin Q) (start ["thing"] vs) H := by
  obtain ⟨v, d, S, rfl, r, sm, lo, q⟩ := h
  show t_is_program _ [some v] H
  unfold t_is_program
  walk_at "w"
  refine ⟨v, d, S, rfl, r, sm, lo, fun e H1 c1 => ?_, fun o e p H1 c1 hp => ?_⟩
  · walk_at "w"
    have := q H1 c1
    rw [e] at this
    exact this
  · walk_at "w"
    have := q H1 c1
    rw [e] at this
    exact this
/-- of a program -/
def sp_check : Sp := fun vs H Q _ => ∃ (v : V) (d : PyData) (S : Addr → Prop), vs = [v] ∧ R S H v d ∧ smallD d = true ∧ lenOk d = true ∧ firstWrong d = none ∧ ∀ H', Chg [] H H' → Q .non H'
def t_check  : TS :=
    tSeq (tAsg (tCall sp_first_wrong [] E0 (tCons (tVar 0) (tNil))) (gName 1))
    (tIfS (tTest (tOp oNotN (tVar 1) (tC .non))) (tNever) (tNext))
theorem pure_check {K : PySem.W.Frag} (vs : List V) (H : Hp) (Q : VK) (E : XK) (h : sp_check vs H Q E) : t_check (fin Q) (start ["program", "wrong"] vs) H := by
  obtain ⟨v, d, S, rfl, r, sm, lo, e, q⟩ := h
  show t_check _ [some v, none] H
  unfold t_check
  walk_at "w"
  refine ⟨v, d, S, rfl, r, sm, lo, fun e H1 c1 => ?_, fun o e' p H1 c1 hp => ?_⟩
  · walk_at "w"
    exact q H1 c1
  · rw [e] at e'
    cases e'
end Fg
namespace Fg
open PySem PySem.Spec PyProof.Rows L2
/-! ### right programs, as data of types of their own -/
inductive Ex where
  | num (i : Int)
  | arg
  | cell (a : Ex)
  | add (a b : Ex)
  | less (a b : Ex)
  | least (a b : Ex)
def Ex.data : Ex → PyData
  | .num i => .int i
  | .arg => .tuple [.str "arg"]
  | .cell a => .tuple [.str "cell", a.data]
  | .add a b => .tuple [.str "add", a.data, b.data]
  | .less a b => .tuple [.str "less", a.data, b.data]
  | .least a b => .tuple [.str "least", a.data, b.data]
def Ex.deep : Ex → Nat
  | .num _ => 1
  | .arg => 1
  | .cell a => a.deep + 1
  | .add a b => max a.deep b.deep + 1
  | .less a b => max a.deep b.deep + 1
  | .least a b => max a.deep b.deep + 1
/-- all numbers within -B .. B -/
def Ex.numsIn (B : Int) : Ex → Prop
  | .num i => -B ≤ i ∧ i ≤ B
  | .arg => True
  | .cell a => a.numsIn B
  | .add a b => a.numsIn B ∧ b.numsIn B
  | .less a b => a.numsIn B ∧ b.numsIn B
  | .least a b => a.numsIn B ∧ b.numsIn B
theorem Ex.deep_pos (e : Ex) : 1 ≤ e.deep := by cases e <;> simp [Ex.deep]
theorem isExpr_of : ∀ (e : Ex) (n : Nat), e.deep ≤ n → isExpr n e.data = true
  | .num i, 0, h => by simp [Ex.deep] at h
  | .num i, n + 1, _ => rfl
  | .arg, 0, h => by simp [Ex.deep] at h
  | .arg, n + 1, _ => rfl
  | .cell a, 0, h => by simp [Ex.deep] at h
  | .cell a, n + 1, h => by
    have h1 := isExpr_of a n (by simp only [Ex.deep] at h; omega)
    show (match partsOf "cell" with
      | some k => decide ([a.data].length = k) && [a.data].all (isExpr n)
      | none => false) = true
    rw [show partsOf "cell" = some 1 by decide +kernel]
    simp [h1]
  | .add a b, 0, h => by simp [Ex.deep] at h
  | .add a b, n + 1, h => by
    have h1 := isExpr_of a n (by simp only [Ex.deep] at h; omega)
    have h2 := isExpr_of b n (by simp only [Ex.deep] at h; omega)
    show (match partsOf "add" with
      | some k => decide ([a.data, b.data].length = k) && [a.data, b.data].all (isExpr n)
      | none => false) = true
    rw [show partsOf "add" = some 2 by decide +kernel]
    simp [h1, h2]
  | .less a b, 0, h => by simp [Ex.deep] at h
  | .less a b, n + 1, h => by
    have h1 := isExpr_of a n (by simp only [Ex.deep] at h; omega)
    have h2 := isExpr_of b n (by simp only [Ex.deep] at h; omega)
    show (match partsOf "less" with
      | some k => decide ([a.data, b.data].length = k) && [a.data, b.data].all (isExpr n)
      | none => false) = true
    rw [show partsOf "less" = some 2 by decide +kernel]
    simp [h1, h2]
  | .least a b, 0, h => by simp [Ex.deep] at h
  | .least a b, n + 1, h => by
    have h1 := isExpr_of a n (by simp only [Ex.deep] at h; omega)
    have h2 := isExpr_of b n (by simp only [Ex.deep] at h; omega)
    show (match partsOf "least" with
      | some k => decide ([a.data, b.data].length = k) && [a.data, b.data].all (isExpr n)
      | none => false) = true
    rw [show partsOf "least" = some 2 by decide +kernel]
    simp [h1, h2]
inductive Stp where
  | cell (a b : Ex)
  | give (x : Str) (a : Ex)
  | fork (x : Str) (a : Ex)
  | call (x : Str) (a : Ex)
  | wait
  | skip (a : Ex) (k : Int)
def Stp.data : Stp → PyData
  | .cell a b => .tuple [.str "cell", a.data, b.data]
  | .give x a => .tuple [.str "give", .str x, a.data]
  | .fork x a => .tuple [.str "fork", .str x, a.data]
  | .call x a => .tuple [.str "call", .str x, a.data]
  | .wait => .tuple [.str "wait"]
  | .skip a k => .tuple [.str "skip", a.data, .int k]
/-- a right step, by the helpers' names and how many there are behind it -/
def Stp.ok (ns : List Str) (bh : Int) : Stp → Prop
  | .cell a b => a.deep ≤ 5 ∧ b.deep ≤ 5
  | .give x a => nameS x = true ∧ a.deep ≤ 5
  | .fork x a => nameS x = true ∧ x ∈ ns ∧ a.deep ≤ 5
  | .call x a => nameS x = true ∧ x ∈ ns ∧ a.deep ≤ 5
  | .wait => True
  | .skip a k => a.deep ≤ 5 ∧ 1 ≤ k ∧ k ≤ bh
theorem isStep_of {ns : List Str} {bh : Int} {s : Stp} (h : s.ok ns bh) : isStep ns bh s.data = true := by
  cases s with
  | cell a b =>
    have h1 := isExpr_of a 5 h.1
    have h2 := isExpr_of b 5 h.2
    show step3 ns bh "cell" a.data b.data = true
    unfold step3
    rw [if_pos rfl, h1, h2]
    rfl
  | give x a =>
    have h2 := isExpr_of a 5 h.2
    show step3 ns bh "give" (.str x) a.data = true
    unfold step3
    rw [if_neg (by decide +kernel), if_neg (by decide +kernel), if_pos rfl, h2, show isName (.str x) = true from h.1]
    rfl
  | fork x a =>
    have h2 := isExpr_of a 5 h.2.2
    show step3 ns bh "fork" (.str x) a.data = true
    unfold step3
    rw [if_neg (by decide +kernel), if_neg (by decide +kernel), if_neg (by decide +kernel), if_pos (.inl rfl), h2, show isName (.str x) = true from h.1, show inNm ns (.str x) = true from decide_eq_true h.2.1]
    rfl
  | call x a =>
    have h2 := isExpr_of a 5 h.2.2
    show step3 ns bh "call" (.str x) a.data = true
    unfold step3
    rw [if_neg (by decide +kernel), if_neg (by decide +kernel), if_neg (by decide +kernel), if_pos (.inr rfl), h2, show isName (.str x) = true from h.1, show inNm ns (.str x) = true from decide_eq_true h.2.1]
    rfl
  | wait => rfl
  | skip a k =>
    have h1 := isExpr_of a 5 h.1
    show step3 ns bh "skip" a.data (.int k) = true
    unfold step3
    rw [if_neg (by decide +kernel), if_pos rfl, h1]
    show (true && (decide (1 ≤ k) && decide (k ≤ bh))) = true
    rw [decide_eq_true h.2.1, decide_eq_true h.2.2]
    rfl
/-- helpers with their steps -/
abbrev Prg := List (Str × List Stp)
def rowD (r : Str × List Stp) : PyData := .tuple [.str r.1, .list (r.2.map Stp.data)]
def prgD (p : Prg) : PyData := .list (p.map rowD)
/-- each step right by its place -/
def stepsOk (ns : List Str) : List Stp → Prop
  | [] => True
  | s :: r => s.ok ns (r.length : Int) ∧ stepsOk ns r
structure PrgOk (p : Prg) : Prop where
  names : ∀ r ∈ p, nameS r.1 = true
  up : rising (p.map (·.1)) = true
  steps : ∀ r ∈ p, stepsOk (p.map (·.1)) r.2
  few : p.length ≤ 100
  short : ∀ r ∈ p, r.2.length ≤ 100
theorem wrongAt_of {ns : List Str} : ∀ {ss : List Stp} (k : Nat), stepsOk ns ss → wrongAt ns k (ss.map Stp.data) = none
  | [], _, _ => rfl
  | s :: r, k, h => by
    show (if isStep ns ((r.map Stp.data).length : Int) s.data = true then wrongAt ns (k + 1) (r.map Stp.data) else some k) = none
    rw [List.length_map, if_pos (isStep_of h.1)]
    exact wrongAt_of (k + 1) h.2
theorem wrongIn_of {ns : List Str} : ∀ {p : Prg}, (∀ r ∈ p, stepsOk ns r.2) → wrongIn ns (p.map rowD) = none
  | [], _ => rfl
  | r :: p, h => by
    show (match wrongAt ns 0 (r.2.map Stp.data) with
      | some k => some (r.1, k)
      | none => wrongIn ns (p.map rowD)) = none
    rw [wrongAt_of 0 (h r (by simp))]
    exact wrongIn_of fun r hr => h r (List.mem_cons_of_mem _ hr)
theorem rowName_map (p : Prg) : (p.map rowD).map rowName = p.map (·.1) := by
  rw [List.map_map]
  rfl
theorem hasForm_of {p : Prg} (h : PrgOk p) : hasForm (prgD p) = true := by
  show ((p.map rowD).all rowOk && rising ((p.map rowD).map rowName)) = true
  rw [rowName_map, h.up, Bool.and_true, List.all_map]
  exact List.all_eq_true.mpr fun r hr => h.names r hr
theorem firstWrong_of {p : Prg} (h : PrgOk p) : firstWrong (prgD p) = none := by
  unfold firstWrong
  rw [if_pos (hasForm_of h)]
  show (wrongIn ((p.map rowD).map rowName) (p.map rowD)).map some = none
  rw [rowName_map, wrongIn_of h.steps]
  rfl
/-! sizes -/
theorem Ex.small : ∀ e : Ex, smallD e.data = true
  | .num _ => rfl
  | .arg => by decide +kernel
  | .cell a => by
    show (smallD (.str "cell") && (smallD a.data && true)) = true
    rw [Ex.small a]; decide +kernel
  | .add a b => by
    show (smallD (.str "add") && (smallD a.data && (smallD b.data && true))) = true
    rw [Ex.small a, Ex.small b]; decide +kernel
  | .less a b => by
    show (smallD (.str "less") && (smallD a.data && (smallD b.data && true))) = true
    rw [Ex.small a, Ex.small b]; decide +kernel
  | .least a b => by
    show (smallD (.str "least") && (smallD a.data && (smallD b.data && true))) = true
    rw [Ex.small a, Ex.small b]; decide +kernel
theorem nameS_iff {x : Str} : nameS x = true ↔ 1 ≤ x.length ∧ x.length ≤ 8 ∧ ∀ c ∈ x.cps.toList, isLow c = true := by
  unfold nameS
  rw [Bool.and_eq_true, Bool.and_eq_true, decide_eq_true_eq, decide_eq_true_eq, List.all_eq_true]
  exact ⟨fun h => ⟨h.1.1, h.1.2, h.2⟩, fun h => ⟨⟨h.1, h.2.1⟩, h.2.2⟩⟩
theorem small_name {x : Str} (h : nameS x = true) : smallD (.str x) = true := decide_eq_true (by have := (nameS_iff.mp h).2.1; omega)
theorem Stp.small {ns : List Str} {bh : Int} {s : Stp} (h : s.ok ns bh) : smallD s.data = true := by
  cases s with
  | cell a b =>
    show (smallD (.str "cell") && (smallD a.data && (smallD b.data && true))) = true
    rw [Ex.small a, Ex.small b]; decide +kernel
  | give x a =>
    show (smallD (.str "give") && (smallD (.str x) && (smallD a.data && true))) = true
    rw [Ex.small a, small_name h.1]; decide +kernel
  | fork x a =>
    show (smallD (.str "fork") && (smallD (.str x) && (smallD a.data && true))) = true
    rw [Ex.small a, small_name h.1]; decide +kernel
  | call x a =>
    show (smallD (.str "call") && (smallD (.str x) && (smallD a.data && true))) = true
    rw [Ex.small a, small_name h.1]; decide +kernel
  | wait => decide +kernel
  | skip a k =>
    show (smallD (.str "skip") && (smallD a.data && (smallD (.int k) && true))) = true
    rw [Ex.small a]
    show (smallD (.str "skip") && (true && (true && true))) = true
    decide +kernel
theorem smallDs_of : ∀ {ds : List PyData}, (∀ d ∈ ds, smallD d = true) → smallDs ds = true
  | [], _ => rfl
  | d :: ds, h => by
    show (smallD d && smallDs ds) = true
    rw [h d (by simp), smallDs_of fun e he => h e (List.mem_cons_of_mem _ he)]
    rfl
theorem stepsOk_mem {ns : List Str} : ∀ {ss : List Stp}, stepsOk ns ss → ∀ s ∈ ss, ∃ bh, s.ok ns bh
  | [], _, s, h => by cases h
  | t :: r, h, s, hs => by
    rcases List.mem_cons.mp hs with rfl | hs
    · exact ⟨_, h.1⟩
    · exact stepsOk_mem h.2 s hs
theorem prg_small {p : Prg} (h : PrgOk p) : smallD (prgD p) = true := by
  refine smallDs_of fun d hd => ?_
  obtain ⟨r, hr, rfl⟩ := List.mem_map.mp hd
  show (smallD (.str r.1) && (smallD (.list (r.2.map Stp.data)) && true)) = true
  rw [small_name (h.names r hr)]
  have : smallDs (r.2.map Stp.data) = true := smallDs_of fun d hd => by
    obtain ⟨s, hs, rfl⟩ := List.mem_map.mp hd
    obtain ⟨bh, hb⟩ := stepsOk_mem (h.steps r hr) s hs
    exact Stp.small hb
  show (true && (smallDs (r.2.map Stp.data) && true)) = true
  rw [this]
  rfl
theorem prg_len {p : Prg} (h : PrgOk p) : lenOk (prgD p) = true := decide_eq_true (by
  have := h.few
  show (p.map rowD).length ≤ 1000
  rw [List.length_map]
  omega)
/-! no dicts in it, not deep -/
theorem Ex.flat : ∀ e : Ex, noDic e.data = true
  | .num _ => rfl
  | .arg => rfl
  | .cell a => by
    show (true && (noDic a.data && true)) = true
    rw [Ex.flat a]; rfl
  | .add a b => by
    show (true && (noDic a.data && (noDic b.data && true))) = true
    rw [Ex.flat a, Ex.flat b]; rfl
  | .less a b => by
    show (true && (noDic a.data && (noDic b.data && true))) = true
    rw [Ex.flat a, Ex.flat b]; rfl
  | .least a b => by
    show (true && (noDic a.data && (noDic b.data && true))) = true
    rw [Ex.flat a, Ex.flat b]; rfl
theorem Stp.flat (s : Stp) : noDic s.data = true := by
  cases s with
  | cell a b =>
    show (true && (noDic a.data && (noDic b.data && true))) = true
    rw [Ex.flat a, Ex.flat b]; rfl
  | give x a => show (true && (true && (noDic a.data && true))) = true; rw [Ex.flat a]; rfl
  | fork x a => show (true && (true && (noDic a.data && true))) = true; rw [Ex.flat a]; rfl
  | call x a => show (true && (true && (noDic a.data && true))) = true; rw [Ex.flat a]; rfl
  | wait => rfl
  | skip a k => show (true && (noDic a.data && (true && true))) = true; rw [Ex.flat a]; rfl
theorem noDics_of : ∀ {ds : List PyData}, (∀ d ∈ ds, noDic d = true) → noDics ds = true
  | [], _ => rfl
  | d :: ds, h => by
    show (noDic d && noDics ds) = true
    rw [h d (by simp), noDics_of fun e he => h e (List.mem_cons_of_mem _ he)]
    rfl
theorem prg_noDic (p : Prg) : noDic (prgD p) = true := by
  refine noDics_of fun d hd => ?_
  obtain ⟨r, hr, rfl⟩ := List.mem_map.mp hd
  show (true && (noDics (r.2.map Stp.data) && true)) = true
  rw [noDics_of fun d hd => by
    obtain ⟨s, hs, rfl⟩ := List.mem_map.mp hd
    exact Stp.flat s]
  rfl
theorem Ex.depth_le : ∀ e : Ex, e.data.depth ≤ e.deep
  | .num _ => Nat.zero_le _
  | .arg => by show 1 ≤ 1; exact Nat.le_refl _
  | .cell a => by
    have := Ex.depth_le a
    show max 0 (max a.data.depth 0) + 1 ≤ a.deep + 1
    omega
  | .add a b => by
    have := Ex.depth_le a
    have := Ex.depth_le b
    show max 0 (max a.data.depth (max b.data.depth 0)) + 1 ≤ max a.deep b.deep + 1
    omega
  | .less a b => by
    have := Ex.depth_le a
    have := Ex.depth_le b
    show max 0 (max a.data.depth (max b.data.depth 0)) + 1 ≤ max a.deep b.deep + 1
    omega
  | .least a b => by
    have := Ex.depth_le a
    have := Ex.depth_le b
    show max 0 (max a.data.depth (max b.data.depth 0)) + 1 ≤ max a.deep b.deep + 1
    omega
theorem Stp.depth_le {ns : List Str} {bh : Int} {s : Stp} (h : s.ok ns bh) : s.data.depth ≤ 6 := by
  cases s with
  | cell a b =>
    have := Ex.depth_le a
    have := Ex.depth_le b
    have := h.1
    have := h.2
    show max 0 (max a.data.depth (max b.data.depth 0)) + 1 ≤ 6
    omega
  | give x a =>
    have := Ex.depth_le a
    have := h.2
    show max 0 (max 0 (max a.data.depth 0)) + 1 ≤ 6
    omega
  | fork x a =>
    have := Ex.depth_le a
    have := h.2.2
    show max 0 (max 0 (max a.data.depth 0)) + 1 ≤ 6
    omega
  | call x a =>
    have := Ex.depth_le a
    have := h.2.2
    show max 0 (max 0 (max a.data.depth 0)) + 1 ≤ 6
    omega
  | wait => show 1 ≤ 6; decide
  | skip a k =>
    have := Ex.depth_le a
    have := h.1
    show max 0 (max a.data.depth (max 0 0)) + 1 ≤ 6
    omega
theorem depthAll_le {n : Nat} : ∀ {ds : List PyData}, (∀ d ∈ ds, d.depth ≤ n) → PyData.depthAll ds ≤ n
  | [], _ => Nat.zero_le _
  | d :: ds, h => by
    have h1 := h d (by simp)
    have h2 := depthAll_le fun e he => h e (List.mem_cons_of_mem d he)
    show max d.depth (PyData.depthAll ds) ≤ n
    omega
theorem prg_depth {p : Prg} (h : PrgOk p) : (prgD p).depth ≤ 10 := by
  have : PyData.depthAll (p.map rowD) ≤ 9 := depthAll_le fun d hd => by
    obtain ⟨r, hr, rfl⟩ := List.mem_map.mp hd
    have : PyData.depthAll (r.2.map Stp.data) ≤ 6 := depthAll_le fun d hd => by
      obtain ⟨s, hs, rfl⟩ := List.mem_map.mp hd
      obtain ⟨bh, hb⟩ := stepsOk_mem (h.steps r hr) s hs
      exact Stp.depth_le hb
    show max 0 (max (PyData.depthAll (r.2.map Stp.data) + 1) 0) + 1 ≤ 9
    omega
  show PyData.depthAll (p.map rowD) + 1 ≤ 10
  omega
/-! no lists in it -/
mutual
def noL : PyData → Bool
  | .list _ => false
  | .dict _ => false
  | .tuple ds => noLs ds
  | _ => true
def noLs : List PyData → Bool
  | [] => true
  | d :: ds => noL d && noLs ds
end
mutual
theorem R.pure {S : Addr → Prop} {H : Hp} : ∀ {d : PyData} {v : V}, R S H v d → noL d = true → Im H v d
  | .none, _, h, _ => by cases h; exact .non
  | .bool _, _, h, _ => by cases h; exact .bl _
  | .int _, _, h, _ => by cases h; exact .int _
  | .str _, _, h, _ => by cases h; exact .str _
  | .list ds, _, h, z => by cases z
  | .tuple ds, _, h, z => by
    cases h with
    | tup e r => exact .tup e (RA.pure r z)
  | .dict _, _, h, z => by cases z
theorem RA.pure {S : Addr → Prop} {H : Hp} : ∀ {ds : List PyData} {vs : List V}, RA S H vs ds → noLs ds = true → ImA H vs ds
  | [], _, h, _ => by cases h; exact .nil
  | d :: ds, _, h, z => by
    obtain ⟨z1, z2⟩ := Bool.and_eq_true_iff.mp (show (noL d && noLs ds) = true from z)
    cases h with
    | cons a b => exact .cons (R.pure a z1) (RA.pure b z2)
end
theorem Ex.noL : ∀ e : Ex, Fg.noL e.data = true
  | .num _ => rfl
  | .arg => rfl
  | .cell a => by
    show (true && (Fg.noL a.data && true)) = true
    rw [Ex.noL a]; rfl
  | .add a b => by
    show (true && (Fg.noL a.data && (Fg.noL b.data && true))) = true
    rw [Ex.noL a, Ex.noL b]; rfl
  | .less a b => by
    show (true && (Fg.noL a.data && (Fg.noL b.data && true))) = true
    rw [Ex.noL a, Ex.noL b]; rfl
  | .least a b => by
    show (true && (Fg.noL a.data && (Fg.noL b.data && true))) = true
    rw [Ex.noL a, Ex.noL b]; rfl
theorem Stp.noL (s : Stp) : Fg.noL s.data = true := by
  cases s with
  | cell a b =>
    show (true && (Fg.noL a.data && (Fg.noL b.data && true))) = true
    rw [Ex.noL a, Ex.noL b]; rfl
  | give x a => show (true && (true && (Fg.noL a.data && true))) = true; rw [Ex.noL a]; rfl
  | fork x a => show (true && (true && (Fg.noL a.data && true))) = true; rw [Ex.noL a]; rfl
  | call x a => show (true && (true && (Fg.noL a.data && true))) = true; rw [Ex.noL a]; rfl
  | wait => rfl
  | skip a k => show (true && (Fg.noL a.data && (true && true))) = true; rw [Ex.noL a]; rfl
theorem noLs_of : ∀ {ds : List PyData}, (∀ d ∈ ds, Fg.noL d = true) → noLs ds = true
  | [], _ => rfl
  | d :: ds, h => by
    show (Fg.noL d && noLs ds) = true
    rw [h d (by simp), noLs_of fun e he => h e (List.mem_cons_of_mem _ he)]
    rfl
theorem steps_noL (ss : List Stp) : noLs (ss.map Stp.data) = true := noLs_of fun d hd => by
  obtain ⟨s, _, rfl⟩ := List.mem_map.mp hd
  exact Stp.noL s
end Fg
namespace Fg
open PySem PySem.Spec PyProof.Rows L2
/-! ### the walk's small steps -/
local macro_rules | `(tactic| walk_at "hp") => `(tactic| first
  | assumption
  | exact upd_same
  | (refine Chg.at (by assumption) ?_; walk_at "hp")
  | (refine Chg.at1 (by assumption) ?_ (by walk_at "ne"); walk_at "hp"))
local macro_rules | `(tactic| walk_at "ne") => `(tactic| first | assumption | (apply Ne.symm; assumption))
local macro_rules | `(tactic| walk_at "sq") => `(tactic| first | assumption | exact sqL (by walk_at "hp") | (refine Chg.seq (by assumption) ?_; walk_at "sq"))
local macro_rules | `(tactic| walk_at "sz") => `(tactic| first | assumption | exact Nat.zero_le _ | (simp only [List.length_cons, List.length_nil]; decide) | exact Nat.le_trans (by first | omega | (simp; done) | (simp; omega)) (show 100000 ≤ sizeLine by decide) | exact Nat.lt_of_lt_of_le (by first | omega | (simp; done) | (simp; omega)) (show 100000 ≤ sizeLine by decide))
local macro_rules | `(tactic| walk_at "ix") => `(tactic| first | exact at0 | exact at1 | exact at2 | exact at3 | assumption | exact rfl | walk_at "ix2")
local macro_rules | `(tactic| walk_at "ix2") => `(tactic| fail)
local macro_rules | `(tactic| walk_at "num") => `(tactic| first | assumption | omega | decide | walk_at "num2")
local macro_rules | `(tactic| walk_at "num2") => `(tactic| fail)
local macro_rules | `(tactic| walk_at "im") => `(tactic| first | assumption | exact R.non (S := fun _ => False) | exact R.bl (S := fun _ => False) _ | exact R.int (S := fun _ => False) _ | exact R.str (S := fun _ => False) _ | (refine R.im (by assumption) ?_; walk_at "im"))
local macro_rules | `(tactic| walk_at "r") => `(tactic| first | assumption | exact R.non (S := fun _ => False) | exact R.bl (S := fun _ => False) _ | exact R.int (S := fun _ => False) _ | exact R.str (S := fun _ => False) _ | (refine R.same (by assumption) ?_; walk_at "r") | exact R.any (by walk_at "im"))
local macro_rules | `(tactic| walk_at "chg") => `(tactic| first
  | exact Chg.refl
  | assumption
  | (refine Chg.same ?_ (by assumption); walk_at "chg")
  | (refine Chg.both ?_ (by assumption); walk_at "chg")
  | (refine Chg.pre (by assumption) ?_; walk_at "chg"))
local macro_rules | `(tactic| walk_at "w1") => `(tactic| first
  | with_reducible apply w_seq
  | with_reducible apply w_asg
  | ((with_reducible apply w_var); (focus (exact rfl)))
  | with_reducible apply w_c
  | with_reducible apply w_op
  | with_reducible apply w_cons
  | with_reducible apply w_nil
  | with_reducible apply w_gName
  | with_reducible apply w_if
  | with_reducible apply w_test
  | with_reducible apply w_B
  | with_reducible apply w_isbl
  | with_reducible apply w_retN
  | with_reducible apply w_next
  | with_reducible apply w_drop
  | with_reducible apply w_cb
  | with_reducible apply w_call
  | with_reducible apply w_callN
  | with_reducible apply w_bm
  | with_reducible apply w_bm0
  | ((with_reducible apply w_tyL); (focus (walk_at "hp"; done)))
  | with_reducible apply w_dput
  | with_reducible apply w_m1
  | with_reducible apply w_isstr
  | with_reducible apply w_and
  | with_reducible apply w_or
  | with_reducible apply w_not
  | with_reducible apply w_andV
  | with_reducible apply w_orV
  | with_reducible apply w_notV
  | with_reducible apply w_ifE
  | with_reducible apply w_chain
  | with_reducible apply w_un
  | with_reducible apply w_neg
  | with_reducible apply w_add
  | with_reducible apply w_sub
  | ((with_reducible apply w_mod); (focus (walk_at "num"; done)))
  | ((with_reducible apply w_mul); (focus (walk_at "num"; done)))
  | ((with_reducible apply w_fdiv); (focus (walk_at "num"; done)))
  | ((with_reducible apply w_pow); (focus (walk_at "num"; done)))
  | with_reducible apply w_lt
  | with_reducible apply w_le
  | with_reducible apply w_gt
  | with_reducible apply w_ge
  | with_reducible apply w_ltS
  | with_reducible apply w_geS
  | with_reducible apply w_inC
  | with_reducible apply w_notInC
  | with_reducible apply w_isN
  | with_reducible apply w_notN
  | with_reducible apply w_isB
  | with_reducible apply w_notB
  | ((with_reducible apply w_addS); (focus (walk_at "sz"; done)))
  | ((with_reducible apply w_ixL); (focus (walk_at "sq"; done)); (focus (walk_at "ix"; done)))
  | ((with_reducible apply w_ixT); (focus (walk_at "hp"; done)); (focus (walk_at "ix"; done)))
  | ((with_reducible apply w_ixS); (focus (walk_at "sz"; done)); (focus (walk_at "ix"; done)))
  | with_reducible apply w_gSub
  | ((with_reducible apply w_gTup); (focus (walk_at "hp"; done)); (focus (exact rfl)))
  | with_reducible apply w_gCons
  | with_reducible apply w_gNil
  | ((with_reducible apply w_aug); (focus (exact rfl)))
  | with_reducible apply w_ipI
  | ((with_reducible apply w_eq); (focus (exact rfl)))
  | ((with_reducible apply w_ne); (focus (exact rfl)))
  | with_reducible apply w_max
  | with_reducible apply w_min
  | with_reducible apply w_abs
  | with_reducible apply w_intB
  | with_reducible apply w_intI
  | with_reducible apply w_tup1
  | with_reducible apply w_lst1
  | with_reducible apply w_sl
  | with_reducible apply w_part
  | with_reducible apply w_noPart
  | with_reducible apply w_isint
  | ((with_reducible apply w_slS); (focus (walk_at "sz"; done)))
  | with_reducible apply w_iteT
  | with_reducible apply w_iteF
  | with_reducible apply w_iteN
  | ((with_reducible apply w_iteYes); (focus (exact rfl)))
  | ((with_reducible apply w_iteNo); (focus (exact rfl)))
  | ((with_reducible apply w_lenL); (focus (walk_at "sq"; done)))
  | ((with_reducible apply w_lenT); (focus (walk_at "hp"; done)))
  | ((with_reducible apply w_lenS); (focus (walk_at "sz"; done)))
  | with_reducible apply w_lc
  | with_reducible apply w_for
  | with_reducible apply w_yes
  | ((with_reducible apply w_wipe); (focus (exact rfl)))
  | with_reducible apply w_iList
  | with_reducible apply w_iTup
  | with_reducible apply w_iStr
  | with_reducible apply w_iRng1
  | with_reducible apply w_iRng2
  | with_reducible apply w_iZip
  | with_reducible apply w_iEnum
  | ((with_reducible apply d_iList); (focus (walk_at "sq"; done)))
  | ((with_reducible apply d_iTup); (focus (walk_at "hp"; done)))
  | with_reducible apply d_iStr
  | ((with_reducible apply d_iRng1); (focus (walk_at "num"; done)); (focus (walk_at "num"; done)))
  | ((with_reducible apply d_iRng2); (focus (walk_at "num"; done)); (focus (walk_at "num"; done)); (focus (walk_at "num"; done)); (focus (walk_at "num"; done)))
  | ((with_reducible apply d_iZip); (focus (walk_at "sq"; done)); (focus (walk_at "sq"; done)))
  | ((with_reducible apply d_iEnum); (focus (walk_at "sq"; done)))
  | walk_at "w2")
local macro_rules | `(tactic| walk_at "w2") => `(tactic| fail)
local macro_rules | `(tactic| walk_at "wn") => `(tactic| repeat walk_at "w1")
local macro_rules | `(tactic| walk_at "w") => `(tactic| repeat (first | walk_at "w1" | with_reducible apply w_ret))

theorem cpow {i j : Int} (m : Nat) (h : i.natAbs < 2 ^ m) (h0 : 0 ≤ j) (h1 : (m : Int) * j ≤ 2 ^ 27) : CPowW i j := by
  refine ⟨h0, ?_⟩
  have b := PySem.intBits_le_iff.mpr h
  have : (Builtin.Int.intBits i : Int) * j ≤ (m : Int) * j := Int.mul_le_mul_of_nonneg_right (by omega) h0
  omega
theorem cmulL {i j : Int} (h : -(2 ^ 64) < i) (h' : i < 2 ^ 64) : CMul i j := .inl ⟨h, h'⟩
theorem cdivS {i j : Int} (h : 0 < j) (h' : j < 10 ^ 30) : CDivW i j := wide_div (b := 100) h (by omega) (by decide) (by decide)
/-- the law's bag, n draws may follow -/
def Bag (H : Hp) (b : Addr) (n : Nat) : Prop := ∃ x y z : Int, H b = some (.lst [.int x, .int y, .int z]) ∧ 0 ≤ x ∧ 0 ≤ y ∧ y < 2 ^ 130 ∧ 0 ≤ z ∧ z + n ≤ 10 ^ 12
theorem Bag.keep {M : List Addr} {H H' : Hp} {b : Addr} {n : Nat} (h : Bag H b n) (c : Chg M H H') (hb : b ∉ M) : Bag H' b n := by
  obtain ⟨x, y, z, e, r⟩ := h
  exact ⟨x, y, z, c.keep _ _ e hb, r⟩
theorem Bag.same {H H' : Hp} {b : Addr} {n : Nat} (h : Bag H b n) (c : Chg [] H H') : Bag H' b n := h.keep c (by simp)
theorem Bag.one {H H' : Hp} {b p : Addr} {n : Nat} (h : Bag H b n) (c : Chg [p] H H') (e : b ≠ p) : Bag H' b n := h.keep c (by simpa using e)
theorem Bag.ne {H : Hp} {b p : Addr} {n : Nat} (h : Bag H b n) (e : H p = none) : b ≠ p := by
  obtain ⟨x, y, z, h, _⟩ := h
  exact ne_of_none h e
theorem Bag.some {H : Hp} {b : Addr} {n : Nat} (h : Bag H b n) : H b ≠ none := by
  obtain ⟨x, y, z, h, _⟩ := h
  rw [h]
  exact fun z => nomatch z
theorem Bag.le {H : Hp} {b : Addr} {n m : Nat} (h : Bag H b n) (e : m ≤ n) : Bag H b m := by
  obtain ⟨x, y, z, h, x0, y0, y1, z0, z1⟩ := h
  exact ⟨x, y, z, h, x0, y0, y1, z0, by omega⟩
def sp__law_draw : Sp := fun vs H Q _ => ∃ (b : Addr) (m : Int) (n : Nat), vs = [.ref b, .int m] ∧ Bag H b n ∧ 1 ≤ n ∧ 0 < m ∧ m < 10 ^ 30 ∧ ∀ (v : Int) (H' : Hp), Chg [b] H H' → Bag H' b (n - 1) → 0 ≤ v → v < m → Q (.int v) H'
theorem u_draw {H : Hp} {Q : VK} {E : XK} {b : Addr} {m : Int} {n : Nat} (hb : Bag H b n) (hn : 1 ≤ n) (h0 : 0 < m) (h1 : m < 10 ^ 30) (q : ∀ (v : Int) (H' : Hp), Chg [b] H H' → Bag H' b (n - 1) → 0 ≤ v → v < m → Q (.int v) H') : sp__law_draw ([.ref b, .int m] ++ []) H Q E := ⟨b, m, n, rfl, hb, hn, h0, h1, q⟩
def t__law_draw (K : PySem.W.Frag) : TS :=
    tSeq (tIfS (tTest (tOp oGt (tOp (rIxL K) (tVar 0) (tC (.int 0))) (tC (.int 1)))) (tSeq (tAsg (tOp oMod (tOp (rIxL K) (tVar 0) (tC (.int 0))) (tVar 1)) (gName 2))
    (tSeq (tAsg (tOp oFdiv (tOp (rIxL K) (tVar 0) (tC (.int 0))) (tVar 1)) (gSub (tVar 0) (tC (.int 0)) rSetL))
    (tRet (tVar 2)))) (tNext))
    (tSeq (tAsg (tOp oAdd (tOp (rIxL K) (tVar 0) (tC (.int 2))) (tC (.int 1))) (gSub (tVar 0) (tC (.int 2)) rSetL))
    (tSeq (tAsg (tOp oMod (tOp oPow (tOp oAdd (tOp (rIxL K) (tVar 0) (tC (.int 1))) (tOp oMul (tC (.int 7368787)) (tOp (rIxL K) (tVar 0) (tC (.int 2))))) (tC (.int 3))) (tC (.int 170141183460469231731687303715884105727))) (gName 3))
    (tSeq (tAsg (tOp oMod (tOp oPow (tOp oAdd (tVar 3) (tOp oMul (tC (.int 15485863)) (tOp (rIxL K) (tVar 0) (tC (.int 2))))) (tC (.int 3))) (tC (.int 162259276829213363391578010288127))) (gName 3))
    (tRet (tOp oMod (tOp oFdiv (tVar 3) (tC (.int 1024))) (tVar 1))))))
theorem pure__law_draw {K : PySem.W.Frag} (vs : List V) (H : Hp) (Q : VK) (E : XK) (h : sp__law_draw vs H Q E) : t__law_draw K (fin Q) (start ["bag", "many", "found", "mixed"] vs) H := by
  obtain ⟨b, m, n, rfl, ⟨x, y, z, hb, x0, y0, y1, z0, z1⟩, n1, m0, m1, q⟩ := h
  show t__law_draw K _ [some (.ref b), some (.int m), none, none] H
  unfold t__law_draw
  walk_at "w"
  refine w_iteD (fun h => ?_) (fun h => ?_)
  · walk_at "w"
    refine w_fdiv (cdivS m0 m1) ?_
    walk_at "w"
    refine w_setL hb rfl fun H1 c1 h1 => ?_
    walk_at "w"
    refine q _ H1 c1 ⟨_, _, _, h1, Int.ediv_nonneg x0 (by omega), y0, y1, z0, by omega⟩ (Int.emod_nonneg _ (by omega)) (Int.emod_lt_of_pos _ m0)
  · walk_at "w"
    refine w_setL hb rfl fun H1 c1 h1 => ?_
    have h1' : H1 b = some (HO.lst [V.int x, V.int y, V.int (z + 1)]) := h1
    clear h1
    walk_at "w"
    refine w_mul (cmulL (by decide) (by decide)) ?_
    walk_at "w"
    refine w_pow (cpow 200 (by omega) (by decide) (by decide)) ?_
    walk_at "w"
    refine w_mul (cmulL (by decide) (by decide)) ?_
    walk_at "w"
    have e0 := Int.emod_nonneg ((y + 7368787 * (z + 1)) ^ Int.toNat 3) (b := 170141183460469231731687303715884105727) (by decide)
    have e1 := Int.emod_lt_of_pos ((y + 7368787 * (z + 1)) ^ Int.toNat 3) (b := 170141183460469231731687303715884105727) (by decide)
    refine w_pow (cpow 200 (by omega) (by decide) (by decide)) ?_
    walk_at "w"
    refine w_fdiv (cdivS (by decide) (by decide)) ?_
    walk_at "w"
    exact q _ H1 c1 ⟨_, _, _, h1', x0, y0, y1, by omega, by omega⟩ (Int.emod_nonneg _ (by omega)) (Int.emod_lt_of_pos _ m0)
def sp__law_cell_at (K : PySem.W.Frag) : Sp := fun vs H Q _ => ∃ (a : Addr) (ns : List Int) (k : Int), vs = [.ref a, .int k] ∧ SqL K H a (ns.map V.int) ∧ 0 ≤ k ∧ ∀ v : Int, Q (.int v) H
def t__law_cell_at (K : PySem.W.Frag) : TS :=
    tSeq (tIfS (tTest (tOp oLt (tVar 1) (tCB (cLenQ K) (tCons (tVar 0) (tNil))))) (tRet (tOp (rIxL K) (tVar 0) (tVar 1))) (tNext))
    (tRet (tC (.int 0)))
theorem pure__law_cell_at {K : PySem.W.Frag} (vs : List V) (H : Hp) (Q : VK) (E : XK) (h : sp__law_cell_at K vs H Q E) : t__law_cell_at K (fin Q) (start ["script", "k"] vs) H := by
  obtain ⟨a, ns, k, rfl, hs, k0, q⟩ := h
  show t__law_cell_at K _ [some (.ref a), some (.int k)] H
  unfold t__law_cell_at
  walk_at "w"
  refine w_iteD (fun h => ?_) (fun h => ?_)
  · rw [List.length_map] at h
    obtain ⟨v, ev, hv⟩ := atD (xs := ns.map V.int) k0 (by rw [List.length_map]; exact h)
    obtain ⟨n, _, rfl⟩ := List.mem_map.mp hv
    walk_at "w"
    exact q n
  · walk_at "w"
    exact q 0
def sp__law_bag : Sp := fun vs H Q _ => ∃ c p : Int, vs = [.int c, .int p] ∧ 0 ≤ p ∧ p ≤ 1000 ∧ ∀ b H', H b = none → Chg [] H H' → Bag H' b (10 ^ 12) → Q (.ref b) H'
def t__law_bag  : TS :=
    tRet (tLst (tCons (tCB cMax (tCons (tC (.int 0)) (tCons (tOp oSub (tVar 0) (tOp oPow (tC (.int 10)) (tC (.int 18)))) (tNil)))) (tCons (tOp oAdd (tOp oMod (tVar 0) (tC (.int 170141183460469231731687303715884105727))) (tOp oMul (tC (.int 982451653)) (tVar 1))) (tCons (tC (.int 0)) (tNil)))))
theorem pure__law_bag {K : PySem.W.Frag} (vs : List V) (H : Hp) (Q : VK) (E : XK) (h : sp__law_bag vs H Q E) : t__law_bag (fin Q) (start ["cell", "place"] vs) H := by
  obtain ⟨c, p, rfl, p0, p1, q⟩ := h
  show t__law_bag _ [some (.int c), some (.int p)] H
  unfold t__law_bag
  walk_at "w"
  refine w_pow (cpow 4 (by decide) (by decide) (by decide)) ?_
  walk_at "w"
  refine w_mul (cmulL (by decide) (by decide)) ?_
  walk_at "w"
  refine k_lst (by walk_at "sz") fun b H1 nb c1 hb => ?_
  have e0 := Int.emod_nonneg c (b := 170141183460469231731687303715884105727) (by decide)
  have e1 := Int.emod_lt_of_pos c (b := 170141183460469231731687303715884105727) (by decide)
  refine q b H1 nb c1 ⟨_, _, _, hb, ?_, by omega, by omega, by omega, by omega⟩
  split <;> omega
def sp__law_number : Sp := fun vs H Q _ => ∃ (b : Addr) (n : Nat), vs = [.ref b] ∧ Bag H b n ∧ 3 ≤ n ∧ ∀ (v : Int) (H' : Hp), Chg [b] H H' → Bag H' b (n - 3) → -(10 ^ 20) ≤ v → v ≤ 10 ^ 20 → Q (.int v) H'
def t__law_number (K : PySem.W.Frag) : TS :=
    tSeq (tAsg (tCall sp__law_draw [] E0 (tCons (tVar 0) (tCons (tC (.int 4)) (tNil)))) (gName 1))
    (tSeq (tAsg (tCall sp__law_draw [] E0 (tCons (tVar 0) (tCons (tOp (rIxL K) (tLst (tCons (tC (.int 4)) (tCons (tC (.int 4)) (tCons (tC (.int 101)) (tCons (tOp oPow (tC (.int 10)) (tC (.int 20))) (tNil)))))) (tVar 1)) (tNil)))) (gName 2))
    (tSeq (tIfS (tTest (tOp rEq (tCall sp__law_draw [] E0 (tCons (tVar 0) (tCons (tC (.int 3)) (tNil)))) (tC (.int 0)))) (tRet (tOp oSub (tC (.int 0)) (tVar 2))) (tNext))
    (tRet (tVar 2))))
theorem pure__law_number {K : PySem.W.Frag} (vs : List V) (H : Hp) (Q : VK) (E : XK) (h : sp__law_number vs H Q E) : t__law_number K (fin Q) (start ["bag", "pick", "number"] vs) H := by
  obtain ⟨b, n, rfl, bag, hn, q⟩ := h
  show t__law_number K _ [some (.ref b), none, none] H
  unfold t__law_number
  walk_at "w"
  refine u_draw bag (by omega) (by decide) (by decide) fun v H1 c1 bag1 v0 v1 => ?_
  walk_at "w"
  refine w_pow (cpow 4 (by decide) (by decide) (by decide)) ?_
  walk_at "w"
  refine k_lst (by walk_at "sz") fun p H2 np c2 hp => ?_
  obtain ⟨x, ex, hx⟩ := atD (xs := [V.int 4, V.int 4, V.int 101, V.int (10 ^ Int.toNat 20)]) v0 v1
  have hx' : ∃ m : Int, x = .int m ∧ 0 < m ∧ m ≤ 10 ^ 20 := by
    simp only [List.mem_cons, List.not_mem_nil, or_false] at hx
    rcases hx with rfl | rfl | rfl | rfl
    · exact ⟨_, rfl, by decide, by decide⟩
    · exact ⟨_, rfl, by decide, by decide⟩
    · exact ⟨_, rfl, by decide, by decide⟩
    · exact ⟨_, rfl, by decide, by decide⟩
  obtain ⟨m, rfl, m0, m1⟩ := hx'
  walk_at "w"
  refine u_draw (bag1.same c2) (by omega) m0 (by omega) fun w H3 c3 bag3 w0 w1 => ?_
  walk_at "w"
  refine u_draw bag3 (by omega) (by decide) (by decide) fun u H4 c4 bag4 u0 u1 => ?_
  walk_at "w"
  have cc : Chg [b] H H4 := ((c1.same c2).both c3).both c4
  refine w_iteD (fun h => ?_) (fun h => ?_)
  · walk_at "w"
    exact q _ H4 cc (bag4.le (by omega)) (by omega) (by omega)
  · walk_at "w"
    exact q _ H4 cc (bag4.le (by omega)) (by omega) (by omega)
end Fg
namespace Fg
open PySem PySem.Spec PyProof.Rows L2
/-! ### the walk's small steps -/
local macro_rules | `(tactic| walk_at "hp") => `(tactic| first
  | assumption
  | exact upd_same
  | (refine Chg.at (by assumption) ?_; walk_at "hp")
  | (refine Chg.at1 (by assumption) ?_ (by walk_at "ne"); walk_at "hp"))
local macro_rules | `(tactic| walk_at "ne") => `(tactic| first | assumption | (apply Ne.symm; assumption))
local macro_rules | `(tactic| walk_at "sq") => `(tactic| first | assumption | exact sqL (by walk_at "hp") | (refine Chg.seq (by assumption) ?_; walk_at "sq"))
local macro_rules | `(tactic| walk_at "sz") => `(tactic| first | assumption | exact Nat.zero_le _ | (simp only [List.length_cons, List.length_nil]; decide) | exact Nat.le_trans (by first | omega | (simp; done) | (simp; omega)) (show 100000 ≤ sizeLine by decide) | exact Nat.lt_of_lt_of_le (by first | omega | (simp; done) | (simp; omega)) (show 100000 ≤ sizeLine by decide))
local macro_rules | `(tactic| walk_at "ix") => `(tactic| first | exact at0 | exact at1 | exact at2 | exact at3 | assumption | exact rfl | walk_at "ix2")
local macro_rules | `(tactic| walk_at "ix2") => `(tactic| fail)
local macro_rules | `(tactic| walk_at "num") => `(tactic| first | assumption | omega | decide | walk_at "num2")
local macro_rules | `(tactic| walk_at "num2") => `(tactic| fail)
local macro_rules | `(tactic| walk_at "im") => `(tactic| first | assumption | exact R.non (S := fun _ => False) | exact R.bl (S := fun _ => False) _ | exact R.int (S := fun _ => False) _ | exact R.str (S := fun _ => False) _ | (refine R.im (by assumption) ?_; walk_at "im"))
local macro_rules | `(tactic| walk_at "r") => `(tactic| first | assumption | exact R.non (S := fun _ => False) | exact R.bl (S := fun _ => False) _ | exact R.int (S := fun _ => False) _ | exact R.str (S := fun _ => False) _ | (refine R.same (by assumption) ?_; walk_at "r") | exact R.any (by walk_at "im"))
local macro_rules | `(tactic| walk_at "chg") => `(tactic| first
  | exact Chg.refl
  | assumption
  | (refine Chg.same ?_ (by assumption); walk_at "chg")
  | (refine Chg.both ?_ (by assumption); walk_at "chg")
  | (refine Chg.pre (by assumption) ?_; walk_at "chg"))
local macro_rules | `(tactic| walk_at "w1") => `(tactic| first
  | with_reducible apply w_seq
  | with_reducible apply w_asg
  | ((with_reducible apply w_var); (focus (exact rfl)))
  | with_reducible apply w_c
  | with_reducible apply w_op
  | with_reducible apply w_cons
  | with_reducible apply w_nil
  | with_reducible apply w_gName
  | with_reducible apply w_if
  | with_reducible apply w_test
  | with_reducible apply w_B
  | with_reducible apply w_isbl
  | with_reducible apply w_retN
  | with_reducible apply w_next
  | with_reducible apply w_drop
  | with_reducible apply w_cb
  | with_reducible apply w_call
  | with_reducible apply w_callN
  | with_reducible apply w_bm
  | with_reducible apply w_bm0
  | ((with_reducible apply w_tyL); (focus (walk_at "hp"; done)))
  | with_reducible apply w_dput
  | with_reducible apply w_m1
  | with_reducible apply w_isstr
  | with_reducible apply w_and
  | with_reducible apply w_or
  | with_reducible apply w_not
  | with_reducible apply w_andV
  | with_reducible apply w_orV
  | with_reducible apply w_notV
  | with_reducible apply w_ifE
  | with_reducible apply w_chain
  | with_reducible apply w_un
  | with_reducible apply w_neg
  | with_reducible apply w_add
  | with_reducible apply w_sub
  | ((with_reducible apply w_mod); (focus (walk_at "num"; done)))
  | ((with_reducible apply w_mul); (focus (walk_at "num"; done)))
  | ((with_reducible apply w_fdiv); (focus (walk_at "num"; done)))
  | ((with_reducible apply w_pow); (focus (walk_at "num"; done)))
  | with_reducible apply w_lt
  | with_reducible apply w_le
  | with_reducible apply w_gt
  | with_reducible apply w_ge
  | with_reducible apply w_ltS
  | with_reducible apply w_geS
  | with_reducible apply w_inC
  | with_reducible apply w_notInC
  | with_reducible apply w_isN
  | with_reducible apply w_notN
  | with_reducible apply w_isB
  | with_reducible apply w_notB
  | ((with_reducible apply w_addS); (focus (walk_at "sz"; done)))
  | ((with_reducible apply w_ixL); (focus (walk_at "sq"; done)); (focus (walk_at "ix"; done)))
  | ((with_reducible apply w_ixT); (focus (walk_at "hp"; done)); (focus (walk_at "ix"; done)))
  | ((with_reducible apply w_ixS); (focus (walk_at "sz"; done)); (focus (walk_at "ix"; done)))
  | with_reducible apply w_gSub
  | ((with_reducible apply w_gTup); (focus (walk_at "hp"; done)); (focus (exact rfl)))
  | with_reducible apply w_gCons
  | with_reducible apply w_gNil
  | ((with_reducible apply w_aug); (focus (exact rfl)))
  | with_reducible apply w_ipI
  | ((with_reducible apply w_eq); (focus (exact rfl)))
  | ((with_reducible apply w_ne); (focus (exact rfl)))
  | with_reducible apply w_max
  | with_reducible apply w_min
  | with_reducible apply w_abs
  | with_reducible apply w_intB
  | with_reducible apply w_intI
  | with_reducible apply w_tup1
  | with_reducible apply w_lst1
  | with_reducible apply w_sl
  | with_reducible apply w_part
  | with_reducible apply w_noPart
  | with_reducible apply w_isint
  | ((with_reducible apply w_slS); (focus (walk_at "sz"; done)))
  | with_reducible apply w_iteT
  | with_reducible apply w_iteF
  | with_reducible apply w_iteN
  | ((with_reducible apply w_iteYes); (focus (exact rfl)))
  | ((with_reducible apply w_iteNo); (focus (exact rfl)))
  | ((with_reducible apply w_lenL); (focus (walk_at "sq"; done)))
  | ((with_reducible apply w_lenT); (focus (walk_at "hp"; done)))
  | ((with_reducible apply w_lenS); (focus (walk_at "sz"; done)))
  | with_reducible apply w_lc
  | with_reducible apply w_for
  | with_reducible apply w_yes
  | ((with_reducible apply w_wipe); (focus (exact rfl)))
  | with_reducible apply w_iList
  | with_reducible apply w_iTup
  | with_reducible apply w_iStr
  | with_reducible apply w_iRng1
  | with_reducible apply w_iRng2
  | with_reducible apply w_iZip
  | with_reducible apply w_iEnum
  | ((with_reducible apply d_iList); (focus (walk_at "sq"; done)))
  | ((with_reducible apply d_iTup); (focus (walk_at "hp"; done)))
  | with_reducible apply d_iStr
  | ((with_reducible apply d_iRng1); (focus (walk_at "num"; done)); (focus (walk_at "num"; done)))
  | ((with_reducible apply d_iRng2); (focus (walk_at "num"; done)); (focus (walk_at "num"; done)); (focus (walk_at "num"; done)); (focus (walk_at "num"; done)))
  | ((with_reducible apply d_iZip); (focus (walk_at "sq"; done)); (focus (walk_at "sq"; done)))
  | ((with_reducible apply d_iEnum); (focus (walk_at "sq"; done)))
  | walk_at "w2")
local macro_rules | `(tactic| walk_at "w2") => `(tactic| fail)
local macro_rules | `(tactic| walk_at "wn") => `(tactic| repeat walk_at "w1")
local macro_rules | `(tactic| walk_at "w") => `(tactic| repeat (first | walk_at "w1" | with_reducible apply w_ret))

/-! ### texts of small letters -/
def low (x : Str) : Prop := ∀ c ∈ x.cps.toList, isLow c = true
theorem low_nil : low "" := by intro c h; exact absurd h (by simp [show (Str.ofString "").cps.toList = [] from by decide +kernel])
theorem low_append {x y : Str} (hx : low x) (hy : low y) : low (x ++ y) := by
  intro c h
  have e : (x ++ y).cps.toList = x.cps.toList ++ y.cps.toList := Array.toList_append
  rw [e] at h
  rcases List.mem_append.mp h with h | h
  · exact hx c h
  · exact hy c h
theorem len_append (x y : Str) : (x ++ y).length = x.length + y.length := Array.size_append
theorem len_one (c : Nat) : (Str.mk #[c]).length = 1 := rfl
theorem low_one {c : Nat} (h : isLow c = true) : low ⟨#[c]⟩ := by
  intro d hd
  have : d = c := by simpa using hd
  rw [this]
  exact h
theorem low_cut {x : Str} (lo hi : Option Int) (hx : low x) : low (cutS x lo hi) := by
  intro c h
  unfold cutS at h
  have h : c ∈ (x.cps.toList.drop (HT.sIx x.length 0 lo)).take (HT.sIx x.length x.length hi - HT.sIx x.length 0 lo) := by simpa using h
  exact hx c (List.mem_of_mem_drop (List.mem_of_mem_take h))
theorem len_cut (x : Str) (lo hi : Option Int) : (cutS x lo hi).length = min (HT.sIx x.length x.length hi - HT.sIx x.length 0 lo) (x.length - HT.sIx x.length 0 lo) := by
  unfold cutS
  show ((x.cps.toList.drop _).take _).toArray.size = _
  rw [List.size_toArray, List.length_take, List.length_drop]
  rfl
theorem sIx_i {n d : Nat} {i : Int} (h : 0 ≤ i) : HT.sIx n d (some i) = min i.toNat n := by
  have e : ((i.toNat : Nat) : Int) = i := by omega
  rw [← HT.sIx_nat n d i.toNat, e]
theorem nameS_of {x : Str} (h1 : 1 ≤ x.length) (h2 : x.length ≤ 8) (h3 : low x) : nameS x = true := nameS_iff.mpr ⟨h1, h2, h3⟩
theorem nameS_low {x : Str} (h : nameS x = true) : low x := (nameS_iff.mp h).2.2
theorem letters_len : letters.cps.toList.length = 26 := by decide +kernel
theorem letter_at {v : Int} (h0 : 0 ≤ v) (h1 : v < 26) : ∃ c, atI (Str.ofString "abcdefghijklmnopqrstuvwxyz").cps.toList v = some c ∧ isLow c = true := by
  obtain ⟨c, e, h⟩ := atD (xs := letters.cps.toList) h0 (by rw [letters_len]; exact h1)
  exact ⟨c, e, decide_eq_true h⟩
theorem sum_ones {ys : List Str} (h : ∀ y ∈ ys, y.length = 1) : (ys.map (·.length)).sum = ys.length := by
  induction ys with
  | nil => rfl
  | cons y r ih =>
    rw [List.map_cons, List.sum_cons, ih fun z hz => h z (List.mem_cons_of_mem _ hz), h y (by simp), List.length_cons]
    omega
theorem join_ones {ys : List Str} (h : ∀ y ∈ ys, y.length = 1 ∧ low y) : (Txt.join "" ys).length = ys.length ∧ low (Txt.join "" ys) := by
  rw [TL.join_eq]
  have e0 : TL.tl (Str.ofString "") = [] := by decide +kernel
  have key : ∀ zs : List Str, (∀ y ∈ zs, y.length = 1 ∧ low y) → (TL.joinL [] (zs.map TL.tl)).length = zs.length ∧ ∀ c ∈ TL.joinL [] (zs.map TL.tl), isLow c = true := by
    intro zs
    induction zs with
    | nil => intro _; exact ⟨rfl, fun c h => by cases h⟩
    | cons y r ih =>
      intro h
      have hy := h y (by simp)
      have hr := ih fun z hz => h z (List.mem_cons_of_mem _ hz)
      have hl : (TL.tl y).length = 1 := hy.1
      cases r with
      | nil => exact ⟨hl, hy.2⟩
      | cons z r =>
        have e : TL.joinL [] ((y :: z :: r).map TL.tl) = TL.tl y ++ TL.joinL [] ((z :: r).map TL.tl) := rfl
        rw [e]
        refine ⟨by rw [List.length_append, hr.1, hl, List.length_cons (a := y)]; omega, fun c hc => ?_⟩
        rcases List.mem_append.mp hc with hc | hc
        · exact hy.2 c hc
        · exact hr.2 c hc
  have k := key ys h
  have e : TL.tl (Str.join "" ys) = TL.joinL [] (ys.map TL.tl) := by rw [TL.tl_join, e0]
  refine ⟨?_, fun c hc => k.2 c (by rw [← e]; exact hc)⟩
  rw [← k.1, ← e]
  rfl
def okNm : V → Bool
  | .str x => nameS x
  | _ => false
theorem okNm_of {v : V} (h : okNm v = true) : ∃ x, v = .str x ∧ nameS x = true := by
  cases v with
  | str x => exact ⟨x, rfl, h⟩
  | _ => cases h
def sp__law_name : Sp := fun vs H Q _ => ∃ (b : Addr) (last : Str) (n : Nat), vs = [.ref b, .str last] ∧ Bag H b n ∧ 20 ≤ n ∧ last.length ≤ 8 ∧ low last ∧ ∀ (x : Str) (H' : Hp), Chg [b] H H' → Bag H' b (n - 20) → nameS x = true → Q (.str x) H'
def t__law_name (K : PySem.W.Frag) : TS :=
    tSeq (tAsg (tC (.str "abcdefghijklmnopqrstuvwxyz")) (gName 2))
    (tSeq (tAsg (tCall sp__law_draw [] E0 (tCons (tVar 0) (tCons (tC (.int 7)) (tNil)))) (gName 3))
    (tSeq (tAsg (tOp rIxS (tVar 2) (tCall sp__law_draw [] E0 (tCons (tVar 0) (tCons (tC (.int 26)) (tNil))))) (gName 4))
    (tSeq (tIfS (tTest (tOp rEq (tVar 3) (tC (.int 6)))) (tSeq (tAsg (tLst (tCons (tC (.str "arg")) (tCons (tC (.str "cell")) (tCons (tC (.str "add")) (tCons (tC (.str "less")) (tCons (tC (.str "least")) (tCons (tC (.str "wait")) (tCons (tC (.str "give")) (tCons (tC (.str "fork")) (tCons (tC (.str "call")) (tCons (tC (.str "skip")) (tNil)))))))))))) (gName 5))
    (tRet (tOp (rIxL K) (tVar 5) (tCall sp__law_draw [] E0 (tCons (tVar 0) (tCons (tC (.int 10)) (tNil))))))) (tNext))
    (tSeq (tIfS (tAnd (tTest (tOp rEq (tVar 3) (tC (.int 0)))) (tTest (tChain oLt oLt (tC (.int 0)) (tCB cLenS (tCons (tVar 1) (tNil))) (tC (.int 8))))) (tRet (tOp oAddS (tVar 1) (tVar 4))) (tNext))
    (tSeq (tIfS (tAnd (tTest (tOp rEq (tVar 3) (tC (.int 1)))) (tTest (tOp oGt (tCB cLenS (tCons (tVar 1) (tNil))) (tC (.int 1))))) (tRet (tSl rSlS (tVar 1) (tPart (tC (.int 1))) (tNoPart))) (tNext))
    (tSeq (tIfS (tAnd (tTest (tOp rEq (tVar 3) (tC (.int 2)))) (tTest (tOp rNe (tVar 1) (tC (.str ""))))) (tSeq (tAsg (tCall sp__law_draw [] E0 (tCons (tVar 0) (tCons (tCB cLenS (tCons (tVar 1) (tNil))) (tNil)))) (gName 6))
    (tRet (tOp oAddS (tOp oAddS (tSl rSlS (tVar 1) (tNoPart) (tPart (tVar 6))) (tVar 4)) (tSl rSlS (tVar 1) (tPart (tOp oAdd (tVar 6) (tC (.int 1)))) (tNoPart))))) (tNext))
    (tRet (tOp oAddS (tVar 4) (tM1 (mJoin K) (tC (.str "")) (tLc (iRng1 (tCons (tCall sp__law_draw [] E0 (tCons (tVar 0) (tCons (tC (.int 8)) (tNil)))) (tNil))) (gName 7) (tYes) (tOp rIxS (tVar 2) (tCall sp__law_draw [] E0 (tCons (tVar 0) (tCons (tC (.int 26)) (tNil))))) [7]))))))))))
theorem pure__law_name {K : PySem.W.Frag} (vs : List V) (H : Hp) (Q : VK) (E : XK) (h : sp__law_name vs H Q E) : t__law_name K (fin Q) (start ["bag", "last", "letters", "pick", "letter", "words", "at", "k"] vs) H := by
  obtain ⟨b, last, n, rfl, bag, hn, l8, ll, q⟩ := h
  show t__law_name K _ [some (.ref b), some (.str last), none, none, none, none, none, none] H
  unfold t__law_name
  walk_at "w"
  refine u_draw bag (by omega) (by decide) (by decide) fun v H1 c1 bag1 v0 v1 => ?_
  walk_at "w"
  refine u_draw bag1 (by omega) (by decide) (by decide) fun u H2 c2 bag2 u0 u1 => ?_
  obtain ⟨c, ec, hc⟩ := letter_at u0 u1
  have c12 := c1.both c2
  refine w_ixS (by decide +kernel) ec ?_
  walk_at "w"
  refine w_iteD (fun h6 => ?_) (fun h6 => ?_)
  · walk_at "w"
    refine k_lst (by walk_at "sz") fun p H3 np c3 hp => ?_
    walk_at "w"
    have ne := bag2.ne np
    refine u_draw (bag2.same c3) (by omega) (by decide) (by decide) fun w H4 c4 bag4 w0 w1 => ?_
    obtain ⟨x, ex, hx⟩ := atD (xs := [V.str "arg", V.str "cell", V.str "add", V.str "less", V.str "least", V.str "wait", V.str "give", V.str "fork", V.str "call", V.str "skip"]) w0 w1
    have hx' : okNm x = true := by
      have : ∀ x ∈ [V.str "arg", V.str "cell", V.str "add", V.str "less", V.str "least", V.str "wait", V.str "give", V.str "fork", V.str "call", V.str "skip"], okNm x = true := by decide +kernel
      exact this x hx
    obtain ⟨x', rfl, hx2⟩ := okNm_of hx'
    refine w_ixL (sqL (c4.at1 hp ne.symm)) ex ?_
    exact q x' H4 ((c12.same c3).both c4) (bag4.le (by omega)) hx2
  walk_at "w"
  have fallback : ∀ H', Chg [b] H H' → Bag H' b (n - 2) → tRet (tOp oAddS (tVar 4)
        (tM1 (mJoin K) (tC (V.str ""))
          (tLc (iRng1 (tCons (tCall sp__law_draw [] E0 (tCons (tVar 0) (tCons (tC (V.int 8)) tNil))) tNil)) (gName 7) tYes
            (tOp rIxS (tVar 2) (tCall sp__law_draw [] E0 (tCons (tVar 0) (tCons (tC (V.int 26)) tNil)))) [7])))
      (fin Q) [some (.ref b), some (.str last), some (.str "abcdefghijklmnopqrstuvwxyz"), some (.int v), some (.str ⟨#[c]⟩), none, none, none] H' := fun H' c' bag' => by
    walk_at "w"
    refine u_draw bag' (by omega) (by decide) (by decide) fun w H3 c3 bag3 w0 w1 => ?_
    walk_at "w"
    have b3s := bag3.some
    refine w_lcP walk_range [b] (fun i H => Bag H b (n - 3 - i)) (fun i y _ => ∃ d, y = .str ⟨#[d]⟩ ∧ isLow d = true) (bag3.le (by omega)) (fun i H1 H2 p np c h => h.one c (fun z => b3s (by rw [z]; exact np))) (fun _ _ => trivial) (fun D i acc z H4 H5 hi nD hD el iv c4 bag4 y => ?_) (fun D acc H4 nD c4 bag4 el hD ys => ?_)
    · obtain ⟨rfl, rfl⟩ := y
      have hi8 : i < 8 := by omega
      walk_at "w"
      refine u_draw bag4 (by omega) (by decide) (by decide) fun u2 H6 c6 bag6 g0 g1 => ?_
      obtain ⟨d, ed, hd⟩ := letter_at g0 g1
      refine w_ixS (by decide +kernel) ed ?_
      exact lcp_end (fun i H1 H2 p np c h => h.one c (fun z => b3s (by rw [z]; exact np))) (fun _ _ _ _ _ _ _ h => h) nD (fun a ha => by rw [List.mem_singleton.mp ha]; exact b3s) hD el (by omega) iv c6 (bag6.le (by omega)) ⟨d, rfl, hd⟩
    · have hlen : acc.length < 8 := by omega
      obtain ⟨zs, rfl, hzs⟩ : ∃ zs : List Str, acc = zs.map V.str ∧ ∀ z ∈ zs, z.length = 1 ∧ low z := by
        have : ∀ x ∈ acc, ∃ d, x = V.str ⟨#[d]⟩ ∧ isLow d = true := fun x hx => by
          obtain ⟨i, hi⟩ := List.getElem?_of_mem hx
          exact ys i x hi
        clear ys hD el hlen bag4
        induction acc with
        | nil => exact ⟨[], rfl, fun z hz => by cases hz⟩
        | cons x r ih =>
          obtain ⟨zs, e, hz⟩ := ih fun y hy => this y (List.mem_cons_of_mem _ hy)
          obtain ⟨d, rfl, hd⟩ := this x (by simp)
          refine ⟨⟨#[d]⟩ :: zs, by rw [List.map_cons, e], fun z hz' => ?_⟩
          rcases List.mem_cons.mp hz' with rfl | hz'
          · exact ⟨rfl, low_one hd⟩
          · exact hz z hz'
      rw [List.length_map] at hlen
      have j := join_ones hzs
      refine w_join (sqL hD) ?_ ?_
      · rw [sum_ones fun y hy => (hzs y hy).1, show (Str.ofString "").length = 0 from by decide +kernel]
        omega
      · refine w_addS ?_ ?_
        · rw [len_one, j.1]
          exact Nat.le_trans (show 1 + zs.length ≤ 100000 by omega) (by decide)
        refine q _ H4 ((c'.both c3).both c4) (bag4.le (by omega)) (nameS_of ?_ ?_ (low_append (low_one hc) j.2))
        · rw [len_append, len_one]
          omega
        · rw [len_append, len_one, j.1]
          omega
  have lenLast : last.length ≤ sizeLine := Nat.le_trans l8 (by decide)
  refine w_iteD (fun h0 => ?_) (fun h0 => ?_)
  · walk_at "w"
    refine w_iteD (fun g1 => ?_) (fun g1 => ?_)
    · walk_at "w"
      refine w_iteD (fun g2 => ?_) (fun g2 => ?_)
      · walk_at "w"
        refine q _ H2 c12 (bag2.le (by omega)) (nameS_of ?_ ?_ (low_append ll (low_one hc)))
        · rw [len_append, len_one]
          omega
        · rw [len_append, len_one]
          omega
      · have hv : v = 0 := V.int.inj h0
        subst hv
        walk_at "wn"
        exact fallback H2 c12 (bag2.le (by omega))
    · have hv : v = 0 := V.int.inj h0
      subst hv
      walk_at "wn"
      exact fallback H2 c12 (bag2.le (by omega))
  walk_at "w"
  refine w_iteD (fun h1 => ?_) (fun h1 => ?_)
  · walk_at "w"
    have hv : v = 1 := V.int.inj h1
    subst hv
    refine w_iteD (fun g1 => ?_) (fun g1 => ?_)
    · walk_at "w"
      have el : (cutS last (some 1) none).length = last.length - 1 := by
        rw [len_cut, sIx_i (by decide), HT.sIx_none]
        show min (last.length - min 1 last.length) (last.length - min 1 last.length) = _
        omega
      exact q _ H2 c12 (bag2.le (by omega)) (nameS_of (by omega) (by omega) (low_cut _ _ ll))
    · walk_at "wn"
      exact fallback H2 c12 (bag2.le (by omega))
  walk_at "w"
  refine w_iteD (fun h2 => ?_) (fun h2 => ?_)
  · have hv : v = 2 := V.int.inj h2
    subst hv
    walk_at "w"
    refine w_iteD (fun g1 => ?_) (fun g1 => ?_)
    · walk_at "wn"
      exact fallback H2 c12 (bag2.le (by omega))
    · have hne : 1 ≤ last.length := by
        rcases Nat.eq_zero_or_pos last.length with z | z
        · exfalso
          apply g1
          have : last = Str.ofString "" := by
            cases last with
            | mk a =>
              have : a = #[] := Array.eq_empty_of_size_eq_zero z
              rw [this]
              decide +kernel
          rw [this]
        · exact z
      walk_at "w"
      refine u_draw bag2 (by omega) (by omega) (by omega) fun w H3 c3 bag3 w0 w1 => ?_
      walk_at "w"
      have e1 : (cutS last none (some w)).length = w.toNat := by
        rw [len_cut, sIx_i w0, HT.sIx_none]
        omega
      have e2 : (cutS last (some (w + 1)) none).length = last.length - (w.toNat + 1) := by
        rw [len_cut, sIx_i (by omega), HT.sIx_none]
        omega
      refine w_addS ?_ ?_
      · rw [e1, len_one]
        exact Nat.le_trans (show w.toNat + 1 ≤ 100000 by omega) (by decide)
      walk_at "w"
      refine w_addS ?_ ?_
      · rw [len_append, e1, e2, len_one]
        exact Nat.le_trans (show w.toNat + 1 + (last.length - (w.toNat + 1)) ≤ 100000 by omega) (by decide)
      refine q _ H3 (c12.both c3) (bag3.le (by omega)) (nameS_of ?_ ?_ (low_append (low_append (low_cut _ _ ll) (low_one hc)) (low_cut _ _ ll)))
      · rw [len_append, len_append, e1, e2, len_one]
        omega
      · rw [len_append, len_append, e1, e2, len_one]
        omega
  walk_at "wn"
  exact fallback H2 c12 (bag2.le (by omega))
end Fg
namespace Fg
open PySem PySem.Spec PyProof.Rows L2
/-! ### the walk's small steps -/
local macro_rules | `(tactic| walk_at "hp") => `(tactic| first
  | assumption
  | exact upd_same
  | (refine Chg.at (by assumption) ?_; walk_at "hp")
  | (refine Chg.at1 (by assumption) ?_ (by walk_at "ne"); walk_at "hp"))
local macro_rules | `(tactic| walk_at "ne") => `(tactic| first | assumption | (apply Ne.symm; assumption))
local macro_rules | `(tactic| walk_at "sq") => `(tactic| first | assumption | exact sqL (by walk_at "hp") | (refine Chg.seq (by assumption) ?_; walk_at "sq"))
local macro_rules | `(tactic| walk_at "sz") => `(tactic| first | assumption | exact Nat.zero_le _ | (simp only [List.length_cons, List.length_nil]; decide) | exact Nat.le_trans (by first | omega | (simp; done) | (simp; omega)) (show 100000 ≤ sizeLine by decide) | exact Nat.lt_of_lt_of_le (by first | omega | (simp; done) | (simp; omega)) (show 100000 ≤ sizeLine by decide))
local macro_rules | `(tactic| walk_at "ix") => `(tactic| first | exact at0 | exact at1 | exact at2 | exact at3 | assumption | exact rfl | walk_at "ix2")
local macro_rules | `(tactic| walk_at "ix2") => `(tactic| fail)
local macro_rules | `(tactic| walk_at "num") => `(tactic| first | assumption | omega | decide | walk_at "num2")
local macro_rules | `(tactic| walk_at "num2") => `(tactic| fail)
local macro_rules | `(tactic| walk_at "im") => `(tactic| first | assumption | exact R.non (S := fun _ => False) | exact R.bl (S := fun _ => False) _ | exact R.int (S := fun _ => False) _ | exact R.str (S := fun _ => False) _ | (refine R.im (by assumption) ?_; walk_at "im"))
local macro_rules | `(tactic| walk_at "r") => `(tactic| first | assumption | exact R.non (S := fun _ => False) | exact R.bl (S := fun _ => False) _ | exact R.int (S := fun _ => False) _ | exact R.str (S := fun _ => False) _ | (refine R.same (by assumption) ?_; walk_at "r") | exact R.any (by walk_at "im"))
local macro_rules | `(tactic| walk_at "chg") => `(tactic| first
  | exact Chg.refl
  | assumption
  | (refine Chg.same ?_ (by assumption); walk_at "chg")
  | (refine Chg.both ?_ (by assumption); walk_at "chg")
  | (refine Chg.pre (by assumption) ?_; walk_at "chg"))
local macro_rules | `(tactic| walk_at "w1") => `(tactic| first
  | with_reducible apply w_seq
  | with_reducible apply w_asg
  | ((with_reducible apply w_var); (focus (exact rfl)))
  | with_reducible apply w_c
  | with_reducible apply w_op
  | with_reducible apply w_cons
  | with_reducible apply w_nil
  | with_reducible apply w_gName
  | with_reducible apply w_if
  | with_reducible apply w_test
  | with_reducible apply w_B
  | with_reducible apply w_isbl
  | with_reducible apply w_retN
  | with_reducible apply w_next
  | with_reducible apply w_drop
  | with_reducible apply w_cb
  | with_reducible apply w_call
  | with_reducible apply w_callN
  | with_reducible apply w_bm
  | with_reducible apply w_bm0
  | ((with_reducible apply w_tyL); (focus (walk_at "hp"; done)))
  | with_reducible apply w_dput
  | with_reducible apply w_m1
  | with_reducible apply w_isstr
  | with_reducible apply w_and
  | with_reducible apply w_or
  | with_reducible apply w_not
  | with_reducible apply w_andV
  | with_reducible apply w_orV
  | with_reducible apply w_notV
  | with_reducible apply w_ifE
  | with_reducible apply w_chain
  | with_reducible apply w_un
  | with_reducible apply w_neg
  | with_reducible apply w_add
  | with_reducible apply w_sub
  | ((with_reducible apply w_mod); (focus (walk_at "num"; done)))
  | ((with_reducible apply w_mul); (focus (walk_at "num"; done)))
  | ((with_reducible apply w_fdiv); (focus (walk_at "num"; done)))
  | ((with_reducible apply w_pow); (focus (walk_at "num"; done)))
  | with_reducible apply w_lt
  | with_reducible apply w_le
  | with_reducible apply w_gt
  | with_reducible apply w_ge
  | with_reducible apply w_ltS
  | with_reducible apply w_geS
  | with_reducible apply w_inC
  | with_reducible apply w_notInC
  | with_reducible apply w_isN
  | with_reducible apply w_notN
  | with_reducible apply w_isB
  | with_reducible apply w_notB
  | ((with_reducible apply w_addS); (focus (walk_at "sz"; done)))
  | ((with_reducible apply w_ixL); (focus (walk_at "sq"; done)); (focus (walk_at "ix"; done)))
  | ((with_reducible apply w_ixT); (focus (walk_at "hp"; done)); (focus (walk_at "ix"; done)))
  | ((with_reducible apply w_ixS); (focus (walk_at "sz"; done)); (focus (walk_at "ix"; done)))
  | with_reducible apply w_gSub
  | ((with_reducible apply w_gTup); (focus (walk_at "hp"; done)); (focus (exact rfl)))
  | with_reducible apply w_gCons
  | with_reducible apply w_gNil
  | ((with_reducible apply w_aug); (focus (exact rfl)))
  | with_reducible apply w_ipI
  | ((with_reducible apply w_eq); (focus (exact rfl)))
  | ((with_reducible apply w_ne); (focus (exact rfl)))
  | with_reducible apply w_max
  | with_reducible apply w_min
  | with_reducible apply w_abs
  | with_reducible apply w_intB
  | with_reducible apply w_intI
  | with_reducible apply w_tup1
  | with_reducible apply w_lst1
  | with_reducible apply w_sl
  | with_reducible apply w_part
  | with_reducible apply w_noPart
  | with_reducible apply w_isint
  | ((with_reducible apply w_slS); (focus (walk_at "sz"; done)))
  | with_reducible apply w_iteT
  | with_reducible apply w_iteF
  | with_reducible apply w_iteN
  | ((with_reducible apply w_iteYes); (focus (exact rfl)))
  | ((with_reducible apply w_iteNo); (focus (exact rfl)))
  | ((with_reducible apply w_lenL); (focus (walk_at "sq"; done)))
  | ((with_reducible apply w_lenT); (focus (walk_at "hp"; done)))
  | ((with_reducible apply w_lenS); (focus (walk_at "sz"; done)))
  | with_reducible apply w_lc
  | with_reducible apply w_for
  | with_reducible apply w_yes
  | ((with_reducible apply w_wipe); (focus (exact rfl)))
  | with_reducible apply w_iList
  | with_reducible apply w_iTup
  | with_reducible apply w_iStr
  | with_reducible apply w_iRng1
  | with_reducible apply w_iRng2
  | with_reducible apply w_iZip
  | with_reducible apply w_iEnum
  | ((with_reducible apply d_iList); (focus (walk_at "sq"; done)))
  | ((with_reducible apply d_iTup); (focus (walk_at "hp"; done)))
  | with_reducible apply d_iStr
  | ((with_reducible apply d_iRng1); (focus (walk_at "num"; done)); (focus (walk_at "num"; done)))
  | ((with_reducible apply d_iRng2); (focus (walk_at "num"; done)); (focus (walk_at "num"; done)); (focus (walk_at "num"; done)); (focus (walk_at "num"; done)))
  | ((with_reducible apply d_iZip); (focus (walk_at "sq"; done)); (focus (walk_at "sq"; done)))
  | ((with_reducible apply d_iEnum); (focus (walk_at "sq"; done)))
  | walk_at "w2")
local macro_rules | `(tactic| walk_at "w2") => `(tactic| fail)
local macro_rules | `(tactic| walk_at "wn") => `(tactic| repeat walk_at "w1")
local macro_rules | `(tactic| walk_at "w") => `(tactic| repeat (first | walk_at "w1" | with_reducible apply w_ret))

theorem putK_old {kvs : List (Key × V)} {k : Key} {v : V} (hm : k ∈ kvs.map (·.1)) : (putK kvs k v).map (·.1) = kvs.map (·.1) := by
  unfold putK
  obtain ⟨p, hp, e⟩ := List.mem_map.mp hm
  rw [if_pos (List.any_eq_true.mpr ⟨p, hp, decide_eq_true e⟩), List.map_map]
  apply List.map_congr_left
  intro q _
  show (if q.1 = k then (q.1, v) else q).1 = q.1
  split <;> rfl
theorem putK_add {kvs : List (Key × V)} {k : Key} {v : V} (hm : ¬ k ∈ kvs.map (·.1)) : (putK kvs k v).map (·.1) = kvs.map (·.1) ++ [k] := by
  unfold putK
  have h : ¬ (kvs.any fun kv => decide (kv.1 = k)) = true := fun h => by
    obtain ⟨p, hp, e⟩ := List.any_eq_true.mp h
    exact hm (List.mem_map.mpr ⟨p, hp, of_decide_eq_true e⟩)
  rw [if_neg h, List.map_append]
  rfl
def sp__law_names : Sp := fun vs H Q _ => ∃ (b : Addr) (m : Int) (n : Nat), vs = [.ref b, .int m] ∧ Bag H b n ∧ 0 ≤ m ∧ m ≤ 20 ∧ 1000 ≤ n ∧ ∀ (l : Addr) (xs : List Str) (H' : Hp), Chg [b] H H' → Bag H' b (n - 1000) → H l = none → H' l = some (.lst (xs.map V.str)) → xs.Nodup → (∀ x ∈ xs, nameS x = true) → (xs.length : Int) ≤ m → Q (.ref l) H'
def t__law_names  : TS :=
    tSeq (tAsg (tDNewK) (gName 2))
    (tSeq (tAsg (tC (.str "")) (gName 3))
    (tSeq (tFor (iRng1 (tCons (tVar 1) (tNil))) (gName 4) (tSeq (tAsg (tCall sp__law_name [] E0 (tCons (tVar 0) (tCons (tVar 3) (tNil)))) (gName 3))
    (sDPut (tVar 2) (tVar 3) (tC (.bl true)))))
    (tRet (tCB cListD (tCons (tVar 2) (tNil))))))
theorem pure__law_names {K : PySem.W.Frag} (vs : List V) (H : Hp) (Q : VK) (E : XK) (h : sp__law_names vs H Q E) : t__law_names (fin Q) (start ["bag", "many", "found", "name", "k"] vs) H := by
  obtain ⟨b, m, n, rfl, bag, m0, m1, hn, q⟩ := h
  show t__law_names _ [some (.ref b), some (.int m), none, none, none] H
  unfold t__law_names
  walk_at "w"
  refine w_dnewK fun d H1 nd c1 hd => ?_
  walk_at "w"
  have ne : b ≠ d := bag.ne nd
  refine for_it walk_range (fun i σ H2 => Chg [b] H H2 ∧ Bag H2 b (n - 20 * i) ∧ ∃ (kvs : List (Key × V)) (xs : List Str) (x : Str) (y : Option V), σ = [some (.ref b), some (.int m), some (.ref d), some (.str x), y] ∧ H2 d = some (.dK kvs) ∧ kvs.map (·.1) = xs.map Sum.inr ∧ xs.Nodup ∧ (∀ x ∈ xs, nameS x = true) ∧ xs.length ≤ i ∧ x.length ≤ 8 ∧ low x)
    ⟨c1.wide (by simp), (bag.same c1).le (by omega), [], [], "", none, rfl, hd, rfl, List.nodup_nil, fun x h => (by cases h), Nat.le_refl _, by decide +kernel, low_nil⟩ (fun _ _ _ _ _ => trivial) (fun i x σ H2 H3 hi p y => ?_) (fun σ H2 p => ?_)
  · obtain ⟨c2, bag2, kvs, xs, x1, y1, rfl, hd2, ek, nk, ok, le, l8, lw⟩ := p
    obtain ⟨rfl, rfl⟩ := y
    have hi20 : i < 20 := by omega
    have lk : kvs.length = xs.length := by
      have := congrArg List.length ek
      rw [List.length_map, List.length_map] at this
      exact this
    walk_at "w"
    refine ⟨b, x1, n - 20 * i, rfl, bag2, by omega, l8, lw, fun x2 H4 c4 bag4 ok2 => ?_⟩
    walk_at "w"
    refine d_dput (k := Sum.inr x2) (c4.at1 hd2 ne.symm) (by walk_at "sz") fun H5 c5 h5 => ?_
    have bag5 := bag4.one c5 ne
    have cc : Chg [b] H H5 := (c2.both c4).go c5 fun a ha => .inr (by rw [List.mem_singleton.mp ha]; exact nd)
    refine ⟨cc, bag5.le (by omega), _, if x2 ∈ xs then xs else xs ++ [x2], x2, _, rfl, h5, ?_, ?_, ?_, ?_, (nameS_iff.mp ok2).2.1, nameS_low ok2⟩
    · by_cases hm : x2 ∈ xs
      · rw [if_pos hm, putK_old (by rw [ek]; exact List.mem_map.mpr ⟨x2, hm, rfl⟩), ek]
      · rw [if_neg hm, putK_add (by rw [ek]; exact fun z => by obtain ⟨y, hy, e⟩ := List.mem_map.mp z; cases e; exact hm hy), ek, List.map_append]
        rfl
    · split
      · exact nk
      · next hm => exact nd_snoc nk hm
    · split
      · exact ok
      · intro x hx
        rcases List.mem_append.mp hx with hx | hx
        · exact ok x hx
        · rw [List.mem_singleton.mp hx]
          exact ok2
    · split
      · omega
      · rw [List.length_append, List.length_singleton]
        omega
  · obtain ⟨c2, bag2, kvs, xs, x1, y1, rfl, hd2, ek, nk, ok, le, l8, lw⟩ := p
    walk_at "w"
    refine w_listD hd2 fun l H3 nl c3 hl => ?_
    refine q l xs H3 (c2.same c3) ((bag2.same c3).le (by omega)) (c2.dom _ nl) ?_ nk ok (by omega)
    rw [hl]
    congr 2
    have : (kvs.map fun kv => kV kv.1) = (kvs.map (·.1)).map kV := by rw [List.map_map]; rfl
    rw [this, ek, List.map_map]
    rfl
/-! ### expressions -/
def sp__law_expression (n : Nat) : Sp := fun vs H Q _ => ∃ (b : Addr) (m : Nat) (k : Nat), vs = [.ref b, .int (m : Nat)] ∧ Bag H b k ∧ 1 ≤ m ∧ m ≤ n ∧ 10 ^ (n + 1) ≤ k ∧
  ∀ (v : V) (e : Ex) (H' : Hp), Chg [b] H H' → Bag H' b (k - 10 ^ (n + 1)) → Im H' v e.data → e.deep ≤ m → e.numsIn (10 ^ 20) → Q v H'
theorem no__law_expression (vs : List V) (H : Hp) (Q : VK) (E : XK) : ¬ sp__law_expression 0 vs H Q E := by
  rintro ⟨b, m, k, _, _, h1, h2, _⟩
  omega
def t__law_expression (K : PySem.W.Frag) (n : Nat) : TS :=
    tSeq (tAsg (tCall sp__law_draw [] E0 (tCons (tVar 0) (tCons (tC (.int 8)) (tNil)))) (gName 2))
    (tSeq (tIfS (tTest (tOp rEq (tVar 2) (tC (.int 0)))) (tRet (tTup (tCons (tC (.str "arg")) (tNil)))) (tNext))
    (tSeq (tIfS (tOr (tTest (tOp oLt (tVar 1) (tC (.int 2)))) (tTest (tOp oLt (tVar 2) (tC (.int 4))))) (tRet (tCall sp__law_number [] E0 (tCons (tVar 0) (tNil)))) (tNext))
    (tSeq (tIfS (tTest (tOp oLt (tVar 2) (tC (.int 6)))) (tRet (tTup (tCons (tC (.str "cell")) (tCons (tCall (sp__law_expression n) [] E0 (tCons (tVar 0) (tCons (tOp oSub (tVar 1) (tC (.int 1))) (tNil)))) (tNil))))) (tNext))
    (tSeq (tAsg (tOp (rIxL K) (tLst (tCons (tC (.str "add")) (tCons (tC (.str "less")) (tCons (tC (.str "least")) (tNil))))) (tCall sp__law_draw [] E0 (tCons (tVar 0) (tCons (tC (.int 3)) (tNil))))) (gName 3))
    (tSeq (tAsg (tCall (sp__law_expression n) [] E0 (tCons (tVar 0) (tCons (tOp oSub (tVar 1) (tC (.int 1))) (tNil)))) (gName 4))
    (tRet (tTup (tCons (tVar 3) (tCons (tVar 4) (tCons (tCall (sp__law_expression n) [] E0 (tCons (tVar 0) (tCons (tOp oSub (tVar 1) (tC (.int 1))) (tNil)))) (tNil)))))))))))
theorem pure__law_expression {K : PySem.W.Frag} (n : Nat) (vs : List V) (H : Hp) (Q : VK) (E : XK) (h : sp__law_expression (n + 1) vs H Q E) : t__law_expression K n (fin Q) (start ["bag", "most", "pick", "word", "one"] vs) H := by
  obtain ⟨b, m, k, rfl, bag, m0, m1, hk, q⟩ := h
  have hp1 : 10 ≤ 10 ^ (n + 1) := Nat.le_trans (by decide) (Nat.pow_le_pow_right (by decide) (show 1 ≤ n + 1 by omega))
  have hp2 : 10 ^ (n + 1 + 1) = 10 * 10 ^ (n + 1) := by rw [Nat.pow_succ]; omega
  rw [hp2] at hk q
  show t__law_expression K n _ [some (.ref b), some (.int (m : Nat)), none, none, none] H
  unfold t__law_expression
  walk_at "w"
  refine u_draw bag (by omega) (by decide) (by decide) fun v H1 c1 bag1 v0 v1 => ?_
  walk_at "w"
  have num : ∀ σ' : L2.St, σ'[0]? = some (some (.ref b)) → tRet (tCall sp__law_number [] E0 (tCons (tVar 0) tNil)) (fin Q) σ' H1 := fun σ' es => by
    walk_at "w"
    refine w_var es ?_
    walk_at "w"
    refine ⟨b, k - 1, rfl, bag1, by omega, fun x H2 c2 bag2 x0 x1 => ?_⟩
    exact q (.int x) (.num x) H2 (c1.both c2) (bag2.le (by omega)) (.int x) m0 ⟨x0, x1⟩
  refine w_iteD (fun h0 => ?_) (fun h0 => ?_)
  · walk_at "w"
    refine k_tup (by walk_at "sz") fun p H2 np c2 hp => ?_
    exact q (.ref p) .arg H2 (c1.same c2) ((bag1.same c2).le (by omega)) (.tup hp (.cons (.str _) .nil)) m0 trivial
  walk_at "w"
  refine w_iteD (fun h2 => ?_) (fun h2 => ?_)
  · walk_at "wn"
    exact num _ rfl
  walk_at "w"
  refine w_iteD (fun h4 => ?_) (fun h4 => ?_)
  · walk_at "wn"
    exact num _ rfl
  walk_at "w"
  have em : ((m : Nat) : Int) - 1 = ((m - 1 : Nat) : Int) := by omega
  refine w_iteD (fun h6 => ?_) (fun h6 => ?_)
  · walk_at "w"
    rw [em]
    refine ⟨b, m - 1, k - 1, rfl, bag1, by omega, by omega, by omega, fun x e H2 c2 bag2 im de nu => ?_⟩
    walk_at "w"
    refine k_tup (by walk_at "sz") fun p H3 np c3 hp => ?_
    exact q (.ref p) (.cell e) H3 ((c1.both c2).same c3) ((bag2.same c3).le (by omega)) (.tup hp (.cons (.str _) (.cons (im.im c3) .nil))) (by show e.deep + 1 ≤ m; omega) nu
  walk_at "w"
  refine k_lst (by walk_at "sz") fun l H2 nl c2 hl => ?_
  have ne := bag1.ne nl
  walk_at "w"
  refine u_draw (bag1.same c2) (by omega) (by decide) (by decide) fun u H3 c3 bag3 u0 u1 => ?_
  obtain ⟨x, ex, hx⟩ := atD (xs := [V.str "add", V.str "less", V.str "least"]) u0 u1
  refine w_ixL (sqL (c3.at1 hl ne.symm)) ex ?_
  walk_at "w"
  rw [em]
  refine ⟨b, m - 1, k - 2, rfl, bag3.le (by omega), by omega, by omega, by omega, fun y e H4 c4 bag4 im de nu => ?_⟩
  walk_at "w"
  rw [em]
  refine ⟨b, m - 1, k - 2 - 10 ^ (n + 1), rfl, bag4, by omega, by omega, by omega, fun y' e' H5 c5 bag5 im' de' nu' => ?_⟩
  walk_at "w"
  refine k_tup (by walk_at "sz") fun p H6 np c6 hp => ?_
  have cc : Chg [b] H H6 := ((((c1.same c2).both c3).both c4).both c5).same c6
  have bb : Bag H6 b (k - 10 * 10 ^ (n + 1)) := (bag5.same c6).le (by omega)
  have r1 := im.im (c5.same c6)
  have r2 := im'.im c6
  simp only [List.mem_cons, List.not_mem_nil, or_false] at hx
  rcases hx with rfl | rfl | rfl
  · exact q (.ref p) (.add e e') H6 cc bb (.tup hp (.cons (.str _) (.cons r1 (.cons r2 .nil)))) (by show max e.deep e'.deep + 1 ≤ m; omega) ⟨nu, nu'⟩
  · exact q (.ref p) (.less e e') H6 cc bb (.tup hp (.cons (.str _) (.cons r1 (.cons r2 .nil)))) (by show max e.deep e'.deep + 1 ≤ m; omega) ⟨nu, nu'⟩
  · exact q (.ref p) (.least e e') H6 cc bb (.tup hp (.cons (.str _) (.cons r1 (.cons r2 .nil)))) (by show max e.deep e'.deep + 1 ≤ m; omega) ⟨nu, nu'⟩
/-! ### steps -/
def Stp.numsIn (B : Int) : Stp → Prop
  | .cell a b => a.numsIn B ∧ b.numsIn B
  | .give _ a => a.numsIn B
  | .fork _ a => a.numsIn B
  | .call _ a => a.numsIn B
  | .wait => True
  | .skip a k => a.numsIn B ∧ k ≤ 100
def sp__law_step (K : PySem.W.Frag) : Sp := fun vs H Q _ => ∃ (b l : Addr) (ns : List Str) (bh dp : Int) (n : Nat), vs = [.ref b, .ref l, .int bh, .int dp] ∧ Bag H b n ∧ H l = some (.lst (ns.map V.str)) ∧ l ≠ b ∧ ns ≠ [] ∧ ns.length ≤ 1000 ∧ (∀ x ∈ ns, nameS x = true) ∧ 0 ≤ bh ∧ bh ≤ 100 ∧ 1 ≤ dp ∧ dp ≤ 5 ∧ 10 ^ 8 ≤ n ∧
  ∀ (v : V) (s : Stp) (H' : Hp), Chg [b] H H' → Bag H' b (n - 10 ^ 8) → Im H' v s.data → s.ok ns bh → s.numsIn (10 ^ 20) → Q v H'
def t__law_step (K : PySem.W.Frag) : TS :=
    tSeq (tAsg (tOp (rIxL K) (tLst (tCons (tC (.str "cell")) (tCons (tC (.str "give")) (tCons (tC (.str "fork")) (tCons (tC (.str "call")) (tCons (tC (.str "wait")) (tCons (tC (.str "skip")) (tNil)))))))) (tCall sp__law_draw [] E0 (tCons (tVar 0) (tCons (tC (.int 6)) (tNil))))) (gName 4))
    (tSeq (tAsg (tCall (sp__law_expression 6) [] E0 (tCons (tVar 0) (tCons (tOp oAdd (tC (.int 1)) (tCall sp__law_draw [] E0 (tCons (tVar 0) (tCons (tVar 3) (tNil))))) (tNil)))) (gName 5))
    (tSeq (tIfS (tOr (tTest (tOp rEq (tVar 4) (tC (.str "wait")))) (tAnd (tTest (tOp rEq (tVar 4) (tC (.str "skip")))) (tTest (tOp rEq (tVar 2) (tC (.int 0)))))) (tRet (tTup (tCons (tC (.str "wait")) (tNil)))) (tNext))
    (tSeq (tIfS (tTest (tOp rEq (tVar 4) (tC (.str "cell")))) (tRet (tTup (tCons (tVar 4) (tCons (tVar 5) (tCons (tCall (sp__law_expression 6) [] E0 (tCons (tVar 0) (tCons (tOp oAdd (tC (.int 1)) (tCall sp__law_draw [] E0 (tCons (tVar 0) (tCons (tVar 3) (tNil))))) (tNil)))) (tNil)))))) (tNext))
    (tSeq (tIfS (tTest (tOp rEq (tVar 4) (tC (.str "skip")))) (tRet (tTup (tCons (tVar 4) (tCons (tVar 5) (tCons (tOp oAdd (tC (.int 1)) (tCall sp__law_draw [] E0 (tCons (tVar 0) (tCons (tVar 2) (tNil))))) (tNil)))))) (tNext))
    (tSeq (tIfS (tTest (tOp rEq (tVar 4) (tC (.str "give")))) (tRet (tTup (tCons (tVar 4) (tCons (tCall sp__law_name [] E0 (tCons (tVar 0) (tCons (tOp (rIxL K) (tVar 1) (tC (.int 0))) (tNil)))) (tCons (tVar 5) (tNil)))))) (tNext))
    (tRet (tTup (tCons (tVar 4) (tCons (tOp (rIxL K) (tVar 1) (tCall sp__law_draw [] E0 (tCons (tVar 0) (tCons (tCB (cLenQ K) (tCons (tVar 1) (tNil))) (tNil))))) (tCons (tVar 5) (tNil)))))))))))
theorem pure__law_step {K : PySem.W.Frag} (vs : List V) (H : Hp) (Q : VK) (E : XK) (h : sp__law_step K vs H Q E) : t__law_step K (fin Q) (start ["bag", "names", "behind", "deep", "word", "one"] vs) H := by
  obtain ⟨b, l, ns, bh, dp, n, rfl, bag, hl, ne, nn, n1, ok, bh0, bh1, dp0, dp1, hn, q⟩ := h
  show t__law_step K _ [some (.ref b), some (.ref l), some (.int bh), some (.int dp), none, none] H
  unfold t__law_step
  walk_at "w"
  refine k_lst (by walk_at "sz") fun p H1 np c1 hp => ?_
  have ne1 := bag.ne np
  walk_at "w"
  refine u_draw (bag.same c1) (by omega) (by decide) (by decide) fun v H2 c2 bag2 v0 v1 => ?_
  obtain ⟨x, ex, hx⟩ := atD (xs := [V.str "cell", V.str "give", V.str "fork", V.str "call", V.str "wait", V.str "skip"]) v0 v1
  refine w_ixL (sqL (c2.at1 hp ne1.symm)) ex ?_
  walk_at "w"
  refine u_draw bag2 (by omega) (by omega) (by omega) fun u H3 c3 bag3 u0 u1 => ?_
  walk_at "w"
  have eu : (1 : Int) + u = ((u.toNat + 1 : Nat) : Int) := by omega
  rw [eu]
  refine ⟨b, u.toNat + 1, n - 2, rfl, bag3.le (by omega), by omega, by omega, by omega, fun y e H4 c4 bag4 im de nu => ?_⟩
  have cc : Chg [b] H H4 := (((c1.wide (by simp)).both c2).both c3).both c4
  have de5 : e.deep ≤ 5 := by omega
  have hl4 := cc.at1 hl ne
  have wait : ∀ σ' : L2.St, tRet (tTup (tCons (tC (V.str "wait")) tNil)) (fin Q) σ' H4 := fun σ' => by
    walk_at "w"
    refine k_tup (by walk_at "sz") fun p H5 np c5 hp => ?_
    exact q (.ref p) .wait H5 (cc.same c5) ((bag4.same c5).le (by omega)) (.tup hp (.cons (.str _) .nil)) trivial trivial
  simp only [List.mem_cons, List.not_mem_nil, or_false] at hx
  have lln : ((ns.map V.str).length : Int) = ns.length := by rw [List.length_map]
  have pos : 0 < ns.length := List.length_pos_iff.mpr nn
  have named : ∀ (f : Str → Ex → Stp) (w : Str) (σ' : L2.St), σ'[0]? = some (some (.ref b)) → σ'[1]? = some (some (.ref l)) → σ'[4]? = some (some (.str w)) → σ'[5]? = some (some y) → (∀ x, (f x e).data = .tuple [.str w, .str x, e.data]) → (∀ x, x ∈ ns → nameS x = true → (f x e).ok ns bh) → (∀ x, (f x e).numsIn (10 ^ 20)) →
      tRet (tTup (tCons (tVar 4) (tCons (tOp (rIxL K) (tVar 1) (tCall sp__law_draw [] E0 (tCons (tVar 0) (tCons (tCB (cLenQ K) (tCons (tVar 1) tNil)) tNil)))) (tCons (tVar 5) tNil)))) (fin Q) σ' H4 := fun f w σ' e0 e1 e4 e5 ed eo en => by
    walk_at "w"
    refine w_var e4 ?_
    walk_at "w"
    refine w_var e1 ?_
    walk_at "w"
    refine w_var e0 ?_
    walk_at "w"
    refine w_var e1 ?_
    walk_at "w"
    refine u_draw bag4 (by omega) (by omega) (by omega) fun z H5 c5 bag5 z0 z1 => ?_
    obtain ⟨nm, en1, hn1⟩ := atD (xs := ns.map V.str) z0 z1
    obtain ⟨nm, hm, rfl⟩ := List.mem_map.mp hn1
    refine w_ixL (sqL (c5.at1 hl4 ne)) en1 ?_
    walk_at "w"
    refine w_var e5 ?_
    walk_at "w"
    refine k_tup (by walk_at "sz") fun p H6 np c6 hp => ?_
    refine q (.ref p) (f nm e) H6 ((cc.both c5).same c6) ((bag5.same c6).le (by omega)) ?_ (eo nm hm (ok nm hm)) (en nm)
    rw [ed]
    exact .tup hp (.cons (.str _) (.cons (.str _) (.cons (im.im (c5.same c6)) .nil)))
  rcases hx with rfl | rfl | rfl | rfl | rfl | rfl
  · walk_at "w"
    refine u_draw bag4 (by omega) (by omega) (by omega) fun u' H5 c5 bag5 g0 g1 => ?_
    walk_at "w"
    have eu' : (1 : Int) + u' = ((u'.toNat + 1 : Nat) : Int) := by omega
    rw [eu']
    refine ⟨b, u'.toNat + 1, n - 3 - 10 ^ 7, rfl, bag5.le (by omega), by omega, by omega, by omega, fun y' e' H6 c6 bag6 im' de' nu' => ?_⟩
    walk_at "w"
    refine k_tup (by walk_at "sz") fun p H7 np c7 hp => ?_
    exact q (.ref p) (.cell e e') H7 (((cc.both c5).both c6).same c7) ((bag6.same c7).le (by omega)) (.tup hp (.cons (.str _) (.cons (im.im ((c5.both c6).same c7)) (.cons (im'.im c7) .nil)))) ⟨de5, by omega⟩ ⟨nu, nu'⟩
  · walk_at "w"
    have e0 : atI (ns.map V.str) 0 = some (.str (ns.head nn)) := by
      cases ns with
      | nil => exact absurd rfl nn
      | cons a r => exact at0
    have hh := ok _ (List.head_mem nn)
    refine w_ixL (sqL hl4) e0 ?_
    walk_at "w"
    refine ⟨b, ns.head nn, n - 2 - 10 ^ 7, rfl, bag4.le (by omega), by omega, (nameS_iff.mp hh).2.1, nameS_low hh, fun nm H5 c5 bag5 okn => ?_⟩
    walk_at "w"
    refine k_tup (by walk_at "sz") fun p H6 np c6 hp => ?_
    exact q (.ref p) (.give nm e) H6 ((cc.both c5).same c6) ((bag5.same c6).le (by omega)) (.tup hp (.cons (.str _) (.cons (.str _) (.cons (im.im (c5.same c6)) .nil)))) ⟨okn, de5⟩ nu
  · walk_at "wn"
    exact named .fork "fork" _ rfl rfl rfl rfl (fun _ => rfl) (fun x hx hn => ⟨hn, hx, de5⟩) (fun _ => nu)
  · walk_at "wn"
    exact named .call "call" _ rfl rfl rfl rfl (fun _ => rfl) (fun x hx hn => ⟨hn, hx, de5⟩) (fun _ => nu)
  · walk_at "wn"
    exact wait _
  · walk_at "wn"
    refine w_iteD (fun hb => ?_) (fun hb => ?_)
    · walk_at "wn"
      exact wait _
    · have hb' : bh ≠ 0 := fun z => hb (by rw [z])
      walk_at "w"
      refine u_draw bag4 (by omega) (by omega) (by omega) fun u' H5 c5 bag5 g0 g1 => ?_
      walk_at "w"
      refine k_tup (by walk_at "sz") fun p H6 np c6 hp => ?_
      exact q (.ref p) (.skip e (1 + u')) H6 ((cc.both c5).same c6) ((bag5.same c6).le (by omega)) (.tup hp (.cons (.str _) (.cons (im.im (c5.same c6)) (.cons (.int _) .nil)))) ⟨de5, by omega, by omega⟩ ⟨nu, by omega⟩
end Fg
namespace Fg
open PySem PySem.Spec PyProof.Rows L2
/-! ### the walk's small steps -/
local macro_rules | `(tactic| walk_at "hp") => `(tactic| first
  | assumption
  | exact upd_same
  | (refine Chg.at (by assumption) ?_; walk_at "hp")
  | (refine Chg.at1 (by assumption) ?_ (by walk_at "ne"); walk_at "hp"))
local macro_rules | `(tactic| walk_at "ne") => `(tactic| first | assumption | (apply Ne.symm; assumption))
local macro_rules | `(tactic| walk_at "sq") => `(tactic| first | assumption | exact sqL (by walk_at "hp") | (refine Chg.seq (by assumption) ?_; walk_at "sq"))
local macro_rules | `(tactic| walk_at "sz") => `(tactic| first | assumption | exact Nat.zero_le _ | (simp only [List.length_cons, List.length_nil]; decide) | exact Nat.le_trans (by first | omega | (simp; done) | (simp; omega)) (show 100000 ≤ sizeLine by decide) | exact Nat.lt_of_lt_of_le (by first | omega | (simp; done) | (simp; omega)) (show 100000 ≤ sizeLine by decide))
local macro_rules | `(tactic| walk_at "ix") => `(tactic| first | exact at0 | exact at1 | exact at2 | exact at3 | assumption | exact rfl | walk_at "ix2")
local macro_rules | `(tactic| walk_at "ix2") => `(tactic| fail)
local macro_rules | `(tactic| walk_at "num") => `(tactic| first | assumption | omega | decide | walk_at "num2")
local macro_rules | `(tactic| walk_at "num2") => `(tactic| fail)
local macro_rules | `(tactic| walk_at "im") => `(tactic| first | assumption | exact R.non (S := fun _ => False) | exact R.bl (S := fun _ => False) _ | exact R.int (S := fun _ => False) _ | exact R.str (S := fun _ => False) _ | (refine R.im (by assumption) ?_; walk_at "im"))
local macro_rules | `(tactic| walk_at "r") => `(tactic| first | assumption | exact R.non (S := fun _ => False) | exact R.bl (S := fun _ => False) _ | exact R.int (S := fun _ => False) _ | exact R.str (S := fun _ => False) _ | (refine R.same (by assumption) ?_; walk_at "r") | exact R.any (by walk_at "im"))
local macro_rules | `(tactic| walk_at "chg") => `(tactic| first
  | exact Chg.refl
  | assumption
  | (refine Chg.same ?_ (by assumption); walk_at "chg")
  | (refine Chg.both ?_ (by assumption); walk_at "chg")
  | (refine Chg.pre (by assumption) ?_; walk_at "chg"))
local macro_rules | `(tactic| walk_at "w1") => `(tactic| first
  | with_reducible apply w_seq
  | with_reducible apply w_asg
  | ((with_reducible apply w_var); (focus (exact rfl)))
  | with_reducible apply w_c
  | with_reducible apply w_op
  | with_reducible apply w_cons
  | with_reducible apply w_nil
  | with_reducible apply w_gName
  | with_reducible apply w_if
  | with_reducible apply w_test
  | with_reducible apply w_B
  | with_reducible apply w_isbl
  | with_reducible apply w_retN
  | with_reducible apply w_next
  | with_reducible apply w_drop
  | with_reducible apply w_cb
  | with_reducible apply w_call
  | with_reducible apply w_callN
  | with_reducible apply w_bm
  | with_reducible apply w_bm0
  | ((with_reducible apply w_tyL); (focus (walk_at "hp"; done)))
  | with_reducible apply w_dput
  | with_reducible apply w_m1
  | with_reducible apply w_isstr
  | with_reducible apply w_and
  | with_reducible apply w_or
  | with_reducible apply w_not
  | with_reducible apply w_andV
  | with_reducible apply w_orV
  | with_reducible apply w_notV
  | with_reducible apply w_ifE
  | with_reducible apply w_chain
  | with_reducible apply w_un
  | with_reducible apply w_neg
  | with_reducible apply w_add
  | with_reducible apply w_sub
  | ((with_reducible apply w_mod); (focus (walk_at "num"; done)))
  | ((with_reducible apply w_mul); (focus (walk_at "num"; done)))
  | ((with_reducible apply w_fdiv); (focus (walk_at "num"; done)))
  | ((with_reducible apply w_pow); (focus (walk_at "num"; done)))
  | with_reducible apply w_lt
  | with_reducible apply w_le
  | with_reducible apply w_gt
  | with_reducible apply w_ge
  | with_reducible apply w_ltS
  | with_reducible apply w_geS
  | with_reducible apply w_inC
  | with_reducible apply w_notInC
  | with_reducible apply w_isN
  | with_reducible apply w_notN
  | with_reducible apply w_isB
  | with_reducible apply w_notB
  | ((with_reducible apply w_addS); (focus (walk_at "sz"; done)))
  | ((with_reducible apply w_ixL); (focus (walk_at "sq"; done)); (focus (walk_at "ix"; done)))
  | ((with_reducible apply w_ixT); (focus (walk_at "hp"; done)); (focus (walk_at "ix"; done)))
  | ((with_reducible apply w_ixS); (focus (walk_at "sz"; done)); (focus (walk_at "ix"; done)))
  | with_reducible apply w_gSub
  | ((with_reducible apply w_gTup); (focus (walk_at "hp"; done)); (focus (exact rfl)))
  | with_reducible apply w_gCons
  | with_reducible apply w_gNil
  | ((with_reducible apply w_aug); (focus (exact rfl)))
  | with_reducible apply w_ipI
  | ((with_reducible apply w_eq); (focus (exact rfl)))
  | ((with_reducible apply w_ne); (focus (exact rfl)))
  | with_reducible apply w_max
  | with_reducible apply w_min
  | with_reducible apply w_abs
  | with_reducible apply w_intB
  | with_reducible apply w_intI
  | with_reducible apply w_tup1
  | with_reducible apply w_lst1
  | with_reducible apply w_sl
  | with_reducible apply w_part
  | with_reducible apply w_noPart
  | with_reducible apply w_isint
  | ((with_reducible apply w_slS); (focus (walk_at "sz"; done)))
  | with_reducible apply w_iteT
  | with_reducible apply w_iteF
  | with_reducible apply w_iteN
  | ((with_reducible apply w_iteYes); (focus (exact rfl)))
  | ((with_reducible apply w_iteNo); (focus (exact rfl)))
  | ((with_reducible apply w_lenL); (focus (walk_at "sq"; done)))
  | ((with_reducible apply w_lenT); (focus (walk_at "hp"; done)))
  | ((with_reducible apply w_lenS); (focus (walk_at "sz"; done)))
  | with_reducible apply w_lc
  | with_reducible apply w_for
  | with_reducible apply w_yes
  | ((with_reducible apply w_wipe); (focus (exact rfl)))
  | with_reducible apply w_iList
  | with_reducible apply w_iTup
  | with_reducible apply w_iStr
  | with_reducible apply w_iRng1
  | with_reducible apply w_iRng2
  | with_reducible apply w_iZip
  | with_reducible apply w_iEnum
  | ((with_reducible apply d_iList); (focus (walk_at "sq"; done)))
  | ((with_reducible apply d_iTup); (focus (walk_at "hp"; done)))
  | with_reducible apply d_iStr
  | ((with_reducible apply d_iRng1); (focus (walk_at "num"; done)); (focus (walk_at "num"; done)))
  | ((with_reducible apply d_iRng2); (focus (walk_at "num"; done)); (focus (walk_at "num"; done)); (focus (walk_at "num"; done)); (focus (walk_at "num"; done)))
  | ((with_reducible apply d_iZip); (focus (walk_at "sq"; done)); (focus (walk_at "sq"; done)))
  | ((with_reducible apply d_iEnum); (focus (walk_at "sq"; done)))
  | walk_at "w2")
local macro_rules | `(tactic| walk_at "w2") => `(tactic| fail)
local macro_rules | `(tactic| walk_at "wn") => `(tactic| repeat walk_at "w1")
local macro_rules | `(tactic| walk_at "w") => `(tactic| repeat (first | walk_at "w1" | with_reducible apply w_ret))

theorem w_sortedS {K : PySem.W.Frag} {H : Hp} {Q : VK} {p : Addr} {xs : List Str} (h : SqL K H p (xs.map V.str)) (hl : xs.length < 64) (q : ∀ (ys : List Str) (p' : Addr) (H2 : Hp), ys.Perm xs → sortedS ys = true → H p' = none → Chg [] H H2 → H2 p' = some (.lst (ys.map V.str)) → Q (.ref p') H2) : rSortedS K [.ref p] H Q :=
  ⟨p, xs, rfl, h, hl, fun ys p' hp hs np => q ys p' _ hp hs np (.new np) upd_same⟩
theorem w_rep {H : Hp} {Q : VK} {p : Addr} {xs : List V} {k : Int} (h : H p = some (.lst xs)) (h0 : 0 ≤ k) (h1 : k < 1000) (hx : xs.length ≤ 10) (q : ∀ p' H2, H p' = none → Chg [] H H2 → H2 p' = some (.lst (List.replicate k.toNat xs).flatten) → Q (.ref p') H2) : rRep (.ref p) (.int k) H Q := by
  refine ⟨p, k, xs, rfl, rfl, h, by omega, by omega, ?_, fun p' np => q p' _ np (.new np) upd_same⟩
  have : xs.length * k.toNat ≤ 10 * 1000 := Nat.mul_le_mul hx (by omega)
  exact Nat.le_trans this (by decide)
theorem rising_of : ∀ {ys : List Str}, sortedS ys = true → ys.Nodup → rising ys = true
  | [], _, _ => rfl
  | [_], _, _ => rfl
  | x :: y :: r, h, n => by
    have h' : (!ltCps y.cps.toList x.cps.toList && risingS y r) = true := h
    obtain ⟨h1, h2⟩ := Bool.and_eq_true_iff.mp h'
    have ih := rising_of (ys := y :: r) h2 (List.nodup_cons.mp n).2
    show (ltS x y && rising (y :: r)) = true
    rw [ih, Bool.and_true]
    rw [ltCps_eq] at h1
    have h3 : ¬ y.cps.toList < x.cps.toList := of_decide_eq_false (by simpa using h1)
    have ne : x ≠ y := fun e => (List.nodup_cons.mp n).1 (by rw [e]; exact List.mem_cons_self)
    refine decide_eq_true ?_
    have ne' : x.cps.toList ≠ y.cps.toList := fun e => ne (by
      cases x with
      | mk a =>
        cases y with
        | mk b => rw [show a = b from Array.toList_inj.mp e])
    have h4 : x.cps.toList ≤ y.cps.toList := List.not_lt.mp h3
    rcases List.le_iff_lt_or_eq.mp h4 with z | z
    · exact z
    · exact absurd z ne'
theorem pick_list {α : Type} {P : Nat → V → α → Prop} : ∀ {acc : List V}, (∀ i y, acc[i]? = some y → ∃ s, P i y s) → ∃ ss : List α, ss.length = acc.length ∧ ∀ i y s, acc[i]? = some y → ss[i]? = some s → P i y s := by
  intro acc
  induction acc generalizing P with
  | nil => exact fun _ => ⟨[], rfl, fun i y s h => by simp at h⟩
  | cons v r ih =>
    intro h
    obtain ⟨s, hs⟩ := h 0 v rfl
    obtain ⟨ss, hl, hss⟩ := ih (P := fun i y s => P (i + 1) y s) fun i y hy => h (i + 1) y hy
    refine ⟨s :: ss, by rw [List.length_cons, List.length_cons, hl], fun i y t hy ht => ?_⟩
    cases i with
    | zero =>
      cases (Option.some.inj (show some v = some y from hy))
      cases (Option.some.inj (show some s = some t from ht))
      exact hs
    | succ i => exact hss i y t hy ht
theorem imA_of {H : Hp} : ∀ {acc : List V} {ss : List Stp}, ss.length = acc.length → (∀ (i : Nat) (y : V) (s : Stp), acc[i]? = some y → ss[i]? = some s → Im H y s.data) → ImA H acc (ss.map Stp.data)
  | [], [], _, _ => .nil
  | [], _ :: _, h, _ => by simp at h
  | _ :: _, [], h, _ => by simp at h
  | v :: r, s :: ss, h, hi => .cons (hi 0 v s rfl rfl) (imA_of (by simpa using h) fun i y t hy ht => hi (i + 1) y t hy ht)
theorem stepsOk_of {ns : List Str} : ∀ {ss : List Stp}, (∀ (i : Nat) s, ss[i]? = some s → s.ok ns ((ss.length : Int) - 1 - i)) → stepsOk ns ss
  | [], _ => trivial
  | s :: r, h => by
    have h0 := h 0 s rfl
    have e0 : ((s :: r).length : Int) - 1 - (0 : Nat) = (r.length : Int) := by rw [List.length_cons]; omega
    rw [e0] at h0
    refine ⟨h0, stepsOk_of fun i t ht => ?_⟩
    have hi := h (i + 1) t ht
    have e1 : ((s :: r).length : Int) - 1 - ((i + 1 : Nat) : Int) = (r.length : Int) - 1 - i := by rw [List.length_cons]; omega
    rw [e1] at hi
    exact hi
def deepOk : V → Prop := fun v => ∃ i : Int, v = .int i ∧ 1 ≤ i ∧ i ≤ 5
def sp__law_program : Sp := fun vs H Q _ => ∃ (b : Addr) (n : Nat), vs = [.ref b] ∧ Bag H b n ∧ 10 ^ 11 ≤ n ∧
  ∀ (v : V) (p : Prg) (H' : Hp), Chg [b] H H' → Bag H' b (n - 10 ^ 11) → PrgOk p → p.length ≤ 12 → (∀ r ∈ p, r.2.length ≤ 12 ∧ ∀ s ∈ r.2, s.numsIn (10 ^ 20)) → R (fun a => H a = none) H' v (prgD p) → Q v H'
def t__law_program (K : PySem.W.Frag) : TS :=
    tSeq (tAsg (tCall sp__law_draw [] E0 (tCons (tVar 0) (tCons (tC (.int 8)) (tNil)))) (gName 1))
    (tSeq (tAsg (tCB (rSortedS K) (tCons (tCall sp__law_names [] E0 (tCons (tVar 0) (tCons (tCall sp__law_draw [] E0 (tCons (tVar 0) (tCons (tOp (rIxL K) (tLst (tCons (tC (.int 6)) (tCons (tC (.int 13)) (tNil)))) (tOp oFdiv (tVar 1) (tC (.int 7)))) (tNil)))) (tNil)))) (tNil))) (gName 2))
    (tSeq (tAsg (tLst (tNil)) (gName 3))
    (tSeq (tFor (iList K (tVar 2)) (gName 4) (tSeq (tAsg (tCall sp__law_draw [] E0 (tCons (tVar 0) (tCons (tOp (rIxL K) (tLst (tCons (tC (.int 7)) (tCons (tC (.int 13)) (tNil)))) (tOp oFdiv (tVar 1) (tC (.int 7)))) (tNil)))) (gName 5))
    (tSeq (tAsg (tOp rRep (tLst (tCons (tOp oAdd (tC (.int 2)) (tCB cInt (tCons (tOp oLt (tVar 1) (tC (.int 7))) (tNil)))) (tNil))) (tOp oAdd (tVar 5) (tC (.int 1)))) (gName 6))
    (tSeq (tAsg (tC (.int 5)) (gSub (tVar 6) (tCall sp__law_draw [] E0 (tCons (tVar 0) (tCons (tOp oAdd (tVar 5) (tC (.int 1))) (tNil)))) rSetL))
    (tDrop (tBM K "list" rAppend (tVar 3) (tCons (tTup (tCons (tVar 4) (tCons (tLc (iRng1 (tCons (tVar 5) (tNil))) (gName 7) (tYes) (tCall (sp__law_step K) [] E0 (tCons (tVar 0) (tCons (tVar 2) (tCons (tOp oSub (tOp oSub (tVar 5) (tC (.int 1))) (tVar 7)) (tCons (tOp (rIxL K) (tVar 6) (tVar 7)) (tNil)))))) [7]) (tNil)))) (tNil))))))))
    (tRet (tVar 3)))))
theorem pure__law_program {K : PySem.W.Frag} (vs : List V) (H : Hp) (Q : VK) (E : XK) (h : sp__law_program vs H Q E) : t__law_program K (fin Q) (start ["bag", "great", "names", "found", "name", "many", "deep", "k"] vs) H := by
  obtain ⟨b, n, rfl, bag, hn, q⟩ := h
  show t__law_program K _ [some (.ref b), none, none, none, none, none, none, none] H
  unfold t__law_program
  walk_at "w"
  refine u_draw bag (by omega) (by decide) (by decide) fun g H1 c1 bag1 g0 g1 => ?_
  walk_at "w"
  refine k_lst (by walk_at "sz") fun p H2 np c2 hp => ?_
  walk_at "w"
  refine w_fdiv (cdivS (by decide) (by decide)) ?_
  obtain ⟨x, ex, hx⟩ := atD (xs := [V.int 6, V.int 13]) (i := g / 7) (by omega) (by show g / 7 < 2; omega)
  refine w_ixL (sqL hp) ex ?_
  obtain ⟨m, rfl, m0, m1⟩ : ∃ m : Int, x = .int m ∧ 0 < m ∧ m ≤ 13 := by
    simp only [List.mem_cons, List.not_mem_nil, or_false] at hx
    rcases hx with rfl | rfl
    · exact ⟨_, rfl, by decide, by decide⟩
    · exact ⟨_, rfl, by decide, by decide⟩
  walk_at "w"
  refine u_draw (bag1.same c2) (by omega) m0 (by omega) fun w H3 c3 bag3 w0 w1 => ?_
  walk_at "w"
  refine ⟨b, w, n - 2, rfl, bag3.le (by omega), w0, by omega, by omega, fun l xs H4 c4 bag4 nl hl nd ok lw => ?_⟩
  walk_at "w"
  refine w_sortedS (sqL hl) (by omega) fun ys L H5 pm so nL c5 hL => ?_
  have okY : ∀ x ∈ ys, nameS x = true := fun x hx => ok x (pm.mem_iff.mp hx)
  have ndY : ys.Nodup := pm.nodup_iff.mpr nd
  have lnY : ys.length ≤ 12 := by rw [pm.length_eq]; omega
  have up := rising_of so ndY
  walk_at "w"
  refine k_lst (by walk_at "sz") fun F H6 nF c6 hF => ?_
  have c05 : Chg [b] H H5 := (((c1.same c2).both c3).both c4).same c5
  have c06 : Chg [b] H H6 := c05.same c6
  have bag5 := bag4.same c5
  have bag6 : Bag H6 b (n - 1002) := (bag5.same c6).le (by omega)
  have neL : L ≠ b := fun e => bag4.some (by rw [← e]; exact nL)
  have neF : F ≠ b := fun e => bag5.some (by rw [← e]; exact nF)
  have neLF : L ≠ F := ne_of_none hL nF
  have nF0 : H F = none := c05.dom F nF
  have b0 := bag.some
  walk_at "w"
  refine for_it (walk_list (K := K) (a := L) (xs := ys.map V.str)) (fun i σ H7 => Chg [b] H H7 ∧ Bag H7 b (n - 1002 - 2 * 10 ^ 9 * i) ∧ H7 L = some (.lst (ys.map V.str)) ∧ ∃ (rows : List V) (p : Prg) (y4 y5 y6 : Option V), σ = [some (.ref b), some (.int g), some (.ref L), some (.ref F), y4, y5, y6, none] ∧
      H7 F = some (.lst rows) ∧ p.map (·.1) = ys.take i ∧ RA (fun a => H a = none ∧ a ≠ F) H7 rows (p.map rowD) ∧ ∀ r ∈ p, stepsOk ys r.2 ∧ r.2.length ≤ 12 ∧ ∀ s ∈ r.2, s.numsIn (10 ^ 20))
    ⟨c06, bag6.le (by omega), c6.at hL, [], [], none, none, none, rfl, hF, rfl, .nil, fun r hr => (by cases hr)⟩ (fun i σ H7 _ z => sqL z.2.2.1) (fun i v σ H7 H8 hi z y => ?_) (fun σ H7 z => ?_)
  · obtain ⟨c7, bag7, hL7, rows, pr, y4, y5, y6, rfl, hF7, en, ra, okr⟩ := z
    obtain ⟨rfl, ev⟩ := y
    rw [List.getElem?_map] at ev
    have hi' : i < ys.length := by rw [List.length_map] at hi; exact hi
    rw [List.getElem?_eq_getElem hi'] at ev
    cases ev
    have nm := ys[i]
    walk_at "w"
    refine k_lst (by walk_at "sz") fun p1 H9 np1 c9 hp1 => ?_
    walk_at "w"
    refine w_fdiv (cdivS (by decide) (by decide)) ?_
    obtain ⟨x1, ex1, hx1⟩ := atD (xs := [V.int 7, V.int 13]) (i := g / 7) (by omega) (by show g / 7 < 2; omega)
    refine w_ixL (sqL hp1) ex1 ?_
    obtain ⟨m', rfl, m0', m1'⟩ : ∃ m : Int, x1 = .int m ∧ 0 < m ∧ m ≤ 13 := by
      simp only [List.mem_cons, List.not_mem_nil, or_false] at hx1
      rcases hx1 with rfl | rfl
      · exact ⟨_, rfl, by decide, by decide⟩
      · exact ⟨_, rfl, by decide, by decide⟩
    walk_at "w"
    have bag9 := bag7.same c9
    refine u_draw bag9 (by omega) m0' (by omega) fun mn H10 c10 bag10 mn0 mn1 => ?_
    walk_at "w"
    refine k_lst (by walk_at "sz") fun p2 H11 np2 c11 hp2 => ?_
    walk_at "w"
    refine w_rep hp2 (by omega) (by omega) (by simp) fun dl H12 ndl c12 hdl => ?_
    have bag12 := (bag10.same c11).same c12
    have nedl : dl ≠ b := fun e => (bag10.same c11).some (by rw [← e]; exact ndl)
    have c8_12 : Chg [b] H8 H12 := (((c9.wide (by simp)).both c10).same c11).same c12
    have ndl8 : H8 dl = none := (((c9.wide (M' := [b]) (by simp)).both c10).same c11).dom dl ndl
    generalize ed : (List.replicate ((mn + 1).toNat) [V.int (2 + if decide (g < 7) then 1 else 0)]).flatten = deep at hdl
    have ldl : (deep.length : Int) = mn + 1 := by
      rw [← ed, List.length_flatten, List.map_replicate]
      simp
      omega
    have odl : ∀ v ∈ deep, deepOk v := fun v hv => by
      rw [← ed] at hv
      obtain ⟨l', hl', hv'⟩ := List.mem_flatten.mp hv
      rw [(List.mem_replicate.mp hl').2] at hv'
      rw [List.mem_singleton.mp hv']
      refine ⟨_, rfl, ?_, ?_⟩ <;> (split <;> omega)
    walk_at "w"
    refine u_draw bag12 (by omega) (by omega) (by omega) fun at' H13 c13 bag13 a0 a1 => ?_
    refine w_setL (c13.at1 hdl nedl) (ixD a0 (by omega)) fun H14 c14 hdl14 => ?_
    have bag14 := bag13.one c14 (Ne.symm nedl)
    have odl14 : ∀ v ∈ deep.set at'.toNat (.int 5), deepOk v := fun v hv => by
      rcases List.mem_or_eq_of_mem_set hv with hv | hv
      · exact odl v hv
      · exact ⟨5, hv, by decide, by decide⟩
    have ldl14 : ((deep.set at'.toNat (V.int 5)).length : Int) = mn + 1 := by rw [List.length_set]; exact ldl
    generalize deep.set at'.toNat (V.int 5) = deep2 at hdl14 odl14 ldl14
    have c8_14 : Chg [b] H8 H14 := (c8_12.both c13).go c14 fun a ha => .inr (by rw [List.mem_singleton.mp ha]; exact ndl8)
    have hL14 := c8_14.at1 hL7 neL
    have hF14 := c8_14.at1 hF7 neF
    have b14 := bag14.some
    walk_at "w"
    refine w_lcP walk_range [b] (fun j H => Bag H b (n - 1010 - 2 * 10 ^ 9 * i - 10 ^ 8 * j)) (fun j y H => ∃ s : Stp, Im H y s.data ∧ s.ok ys (mn - 1 - j) ∧ s.numsIn (10 ^ 20)) (bag14.le (by omega)) (fun j Ha Hb p np c h => h.one c (fun z => b14 (by rw [z]; exact np))) (fun _ _ => trivial) (fun D j acc z Ha Hb hj nD hD el iv ca bga y => ?_) (fun D acc Ha nD ca bga el hD yss => ?_)
    · obtain ⟨rfl, rfl⟩ := y
      have hj' : (j : Int) < mn := by omega
      have hLa := ca.at1 hL14 neL
      have hda := ca.at1 hdl14 nedl
      obtain ⟨dv, edv, hdv⟩ := atD (xs := deep2) (i := 0 + (j : Nat)) (by omega) (by omega)
      obtain ⟨dp, rfl, dp0, dp1⟩ := odl14 dv hdv
      have nny : ys ≠ [] := fun e => by rw [e] at hi'; simp at hi'
      walk_at "w"
      refine ⟨b, L, ys, mn - 1 - (0 + (j : Nat)), dp, n - 1010 - 2 * 10 ^ 9 * i - 10 ^ 8 * j, rfl, bga, hLa, neL, nny, by omega, okY, by omega, by omega, dp0, dp1, by omega, fun v s Hc cc bgc im oks nms => ?_⟩
      have e0 : mn - 1 - (0 + ((j : Nat) : Int)) = mn - 1 - (j : Nat) := by omega
      rw [e0] at oks
      exact lcp_end (fun j Ha Hb p np c h => h.one c (fun z => b14 (by rw [z]; exact np))) (fun _ _ _ _ _ _ c h => by obtain ⟨s, h1, h2⟩ := h; exact ⟨s, h1.im c, h2⟩) nD (fun a ha => by rw [List.mem_singleton.mp ha]; exact b14) hD el (by omega) iv cc (bgc.le (by omega)) ⟨s, im, oks, nms⟩
    · obtain ⟨ss, lss, hss⟩ := pick_list yss
      have lss' : (ss.length : Int) = mn := by rw [lss, el]; omega
      have imA : ImA Ha acc (ss.map Stp.data) := imA_of lss fun i y s hy hs => (hss i y s hy hs).1
      have sok : stepsOk ys ss := stepsOk_of fun i s hs => by
        have hi : i < acc.length := by rw [← lss]; exact (List.getElem?_eq_some_iff.mp hs).1
        have := (hss i _ s (List.getElem?_eq_getElem hi) hs).2.1
        rw [lss']
        exact this
      have snm : ∀ s ∈ ss, s.numsIn (10 ^ 20) := fun s hs => by
        obtain ⟨i, hi⟩ := List.getElem?_of_mem hs
        have hi2 : i < acc.length := by rw [← lss]; exact (List.getElem?_eq_some_iff.mp hi).1
        exact (hss i _ s (List.getElem?_eq_getElem hi2) hi).2.2
      walk_at "w"
      refine k_tup (by walk_at "sz") fun T Hb nT cb hT => ?_
      have c8b : Chg [b] H8 Hb := (c8_14.both ca).same cb
      have hFb := c8b.at1 hF7 neF
      have nD8 : H8 D = none := c8_14.dom D nD
      have neDF : D ≠ F := fun e => by rw [e, hF7] at nD8; cases nD8
      have lr : rows.length = pr.length := by rw [ra.length, List.length_map]
      have lp : pr.length ≤ 12 := by
        have := congrArg List.length en
        rw [List.length_map, List.length_take] at this
        omega
      walk_at "w"
      refine w_append hFb (by walk_at "sz") fun Hc cc hFc => ?_
      have cHb : Chg [b] H Hb := c7.both c8b
      have cHc : Chg [b] H Hc := cHb.go cc fun a ha => .inr (by rw [List.mem_singleton.mp ha]; exact nF0)
      have bagb := bga.same cb
      refine ⟨cHc, (bagb.one cc (Ne.symm neF)).le (by omega), cc.at1 (c8b.at1 hL7 neL) neLF, rows ++ [.ref T], pr ++ [(ys[i], ss)], _, _, _, rfl, hFc, ?_, ?_, ?_⟩
      · rw [List.map_append, en, List.take_add_one, List.getElem?_eq_getElem hi']
        rfl
      · have r1 : RA (fun a => H a = none ∧ a ≠ F) Hc rows (pr.map rowD) := (ra.keep c8b (fun a sa => by
            intro hm
            rw [List.mem_singleton.mp hm] at sa
            exact b0 sa.1)).keep cc (fun a sa hm => sa.2 (List.mem_singleton.mp hm))
        have hTF : T ≠ F := fun e => by rw [e, hFb] at hT; cases hT
        have hDb := cb.at hD
        rw [List.map_append]
        refine r1.snoc (.tup (cc.at1 hT hTF) (.cons (.str _) (.cons (.lst ⟨c7.dom D nD8, neDF⟩ (cc.at1 hDb neDF) ?_) .nil)))
        exact (imA.im (cb.pre cc)).any
      · intro r hr
        rcases List.mem_append.mp hr with hr | hr
        · exact okr r hr
        · rw [List.mem_singleton.mp hr]
          exact ⟨sok, by show ss.length ≤ 12; omega, snm⟩
  · obtain ⟨c7, bag7, hL7, rows, pr, y4, y5, y6, rfl, hF7, en, ra, okr⟩ := z
    rw [List.length_map] at en bag7
    rw [List.take_length] at en
    walk_at "w"
    have lp : pr.length = ys.length := by
      have := congrArg List.length en
      rw [List.length_map] at this
      exact this
    refine q (.ref F) pr H7 c7 (bag7.le (by omega)) ⟨fun r hr => ?_, by rw [en]; exact up, fun r hr => by rw [en]; exact (okr r hr).1, by omega, fun r hr => by have := (okr r hr).2.1; omega⟩ (by omega) (fun r hr => (okr r hr).2) (.lst nF0 hF7 (ra.mono fun a h => h.1))
    have : r.1 ∈ pr.map (·.1) := List.mem_map.mpr ⟨r, hr, rfl⟩
    rw [en] at this
    exact okY _ this
end Fg
namespace Fg
open PySem PySem.Spec PyProof.Rows L2
/-! ### the walk's small steps -/
local macro_rules | `(tactic| walk_at "hp") => `(tactic| first
  | assumption
  | exact upd_same
  | (refine Chg.at (by assumption) ?_; walk_at "hp")
  | (refine Chg.at1 (by assumption) ?_ (by walk_at "ne"); walk_at "hp"))
local macro_rules | `(tactic| walk_at "ne") => `(tactic| first | assumption | (apply Ne.symm; assumption))
local macro_rules | `(tactic| walk_at "sq") => `(tactic| first | assumption | exact sqL (by walk_at "hp") | (refine Chg.seq (by assumption) ?_; walk_at "sq"))
local macro_rules | `(tactic| walk_at "sz") => `(tactic| first | assumption | exact Nat.zero_le _ | (simp only [List.length_cons, List.length_nil]; decide) | exact Nat.le_trans (by first | omega | (simp; done) | (simp; omega)) (show 100000 ≤ sizeLine by decide) | exact Nat.lt_of_lt_of_le (by first | omega | (simp; done) | (simp; omega)) (show 100000 ≤ sizeLine by decide))
local macro_rules | `(tactic| walk_at "ix") => `(tactic| first | exact at0 | exact at1 | exact at2 | exact at3 | assumption | exact rfl | walk_at "ix2")
local macro_rules | `(tactic| walk_at "ix2") => `(tactic| fail)
local macro_rules | `(tactic| walk_at "num") => `(tactic| first | assumption | omega | decide | walk_at "num2")
local macro_rules | `(tactic| walk_at "num2") => `(tactic| fail)
local macro_rules | `(tactic| walk_at "im") => `(tactic| first | assumption | exact R.non (S := fun _ => False) | exact R.bl (S := fun _ => False) _ | exact R.int (S := fun _ => False) _ | exact R.str (S := fun _ => False) _ | (refine R.im (by assumption) ?_; walk_at "im"))
local macro_rules | `(tactic| walk_at "r") => `(tactic| first | assumption | exact R.non (S := fun _ => False) | exact R.bl (S := fun _ => False) _ | exact R.int (S := fun _ => False) _ | exact R.str (S := fun _ => False) _ | (refine R.same (by assumption) ?_; walk_at "r") | exact R.any (by walk_at "im"))
local macro_rules | `(tactic| walk_at "chg") => `(tactic| first
  | exact Chg.refl
  | assumption
  | (refine Chg.same ?_ (by assumption); walk_at "chg")
  | (refine Chg.both ?_ (by assumption); walk_at "chg")
  | (refine Chg.pre (by assumption) ?_; walk_at "chg"))
local macro_rules | `(tactic| walk_at "w1") => `(tactic| first
  | with_reducible apply w_seq
  | with_reducible apply w_asg
  | ((with_reducible apply w_var); (focus (exact rfl)))
  | with_reducible apply w_c
  | with_reducible apply w_op
  | with_reducible apply w_cons
  | with_reducible apply w_nil
  | with_reducible apply w_gName
  | with_reducible apply w_if
  | with_reducible apply w_test
  | with_reducible apply w_B
  | with_reducible apply w_isbl
  | with_reducible apply w_retN
  | with_reducible apply w_next
  | with_reducible apply w_drop
  | with_reducible apply w_cb
  | with_reducible apply w_call
  | with_reducible apply w_callN
  | with_reducible apply w_bm
  | with_reducible apply w_bm0
  | ((with_reducible apply w_tyL); (focus (walk_at "hp"; done)))
  | with_reducible apply w_dput
  | with_reducible apply w_m1
  | with_reducible apply w_isstr
  | with_reducible apply w_and
  | with_reducible apply w_or
  | with_reducible apply w_not
  | with_reducible apply w_andV
  | with_reducible apply w_orV
  | with_reducible apply w_notV
  | with_reducible apply w_ifE
  | with_reducible apply w_chain
  | with_reducible apply w_un
  | with_reducible apply w_neg
  | with_reducible apply w_add
  | with_reducible apply w_sub
  | ((with_reducible apply w_mod); (focus (walk_at "num"; done)))
  | ((with_reducible apply w_mul); (focus (walk_at "num"; done)))
  | ((with_reducible apply w_fdiv); (focus (walk_at "num"; done)))
  | ((with_reducible apply w_pow); (focus (walk_at "num"; done)))
  | with_reducible apply w_lt
  | with_reducible apply w_le
  | with_reducible apply w_gt
  | with_reducible apply w_ge
  | with_reducible apply w_ltS
  | with_reducible apply w_geS
  | with_reducible apply w_inC
  | with_reducible apply w_notInC
  | with_reducible apply w_isN
  | with_reducible apply w_notN
  | with_reducible apply w_isB
  | with_reducible apply w_notB
  | ((with_reducible apply w_addS); (focus (walk_at "sz"; done)))
  | ((with_reducible apply w_ixL); (focus (walk_at "sq"; done)); (focus (walk_at "ix"; done)))
  | ((with_reducible apply w_ixT); (focus (walk_at "hp"; done)); (focus (walk_at "ix"; done)))
  | ((with_reducible apply w_ixS); (focus (walk_at "sz"; done)); (focus (walk_at "ix"; done)))
  | with_reducible apply w_gSub
  | ((with_reducible apply w_gTup); (focus (walk_at "hp"; done)); (focus (exact rfl)))
  | with_reducible apply w_gCons
  | with_reducible apply w_gNil
  | ((with_reducible apply w_aug); (focus (exact rfl)))
  | with_reducible apply w_ipI
  | ((with_reducible apply w_eq); (focus (exact rfl)))
  | ((with_reducible apply w_ne); (focus (exact rfl)))
  | with_reducible apply w_max
  | with_reducible apply w_min
  | with_reducible apply w_abs
  | with_reducible apply w_intB
  | with_reducible apply w_intI
  | with_reducible apply w_tup1
  | with_reducible apply w_lst1
  | with_reducible apply w_sl
  | with_reducible apply w_part
  | with_reducible apply w_noPart
  | with_reducible apply w_isint
  | ((with_reducible apply w_slS); (focus (walk_at "sz"; done)))
  | with_reducible apply w_iteT
  | with_reducible apply w_iteF
  | with_reducible apply w_iteN
  | ((with_reducible apply w_iteYes); (focus (exact rfl)))
  | ((with_reducible apply w_iteNo); (focus (exact rfl)))
  | ((with_reducible apply w_lenL); (focus (walk_at "sq"; done)))
  | ((with_reducible apply w_lenT); (focus (walk_at "hp"; done)))
  | ((with_reducible apply w_lenS); (focus (walk_at "sz"; done)))
  | with_reducible apply w_lc
  | with_reducible apply w_for
  | with_reducible apply w_yes
  | ((with_reducible apply w_wipe); (focus (exact rfl)))
  | with_reducible apply w_iList
  | with_reducible apply w_iTup
  | with_reducible apply w_iStr
  | with_reducible apply w_iRng1
  | with_reducible apply w_iRng2
  | with_reducible apply w_iZip
  | with_reducible apply w_iEnum
  | ((with_reducible apply d_iList); (focus (walk_at "sq"; done)))
  | ((with_reducible apply d_iTup); (focus (walk_at "hp"; done)))
  | with_reducible apply d_iStr
  | ((with_reducible apply d_iRng1); (focus (walk_at "num"; done)); (focus (walk_at "num"; done)))
  | ((with_reducible apply d_iRng2); (focus (walk_at "num"; done)); (focus (walk_at "num"; done)); (focus (walk_at "num"; done)); (focus (walk_at "num"; done)))
  | ((with_reducible apply d_iZip); (focus (walk_at "sq"; done)); (focus (walk_at "sq"; done)))
  | ((with_reducible apply d_iEnum); (focus (walk_at "sq"; done)))
  | walk_at "w2")
local macro_rules | `(tactic| walk_at "w2") => `(tactic| fail)
local macro_rules | `(tactic| walk_at "wn") => `(tactic| repeat walk_at "w1")
local macro_rules | `(tactic| walk_at "w") => `(tactic| repeat (first | walk_at "w1" | with_reducible apply w_ret))

def sp__law_copy : Sp := fun vs H Q _ => ∃ (v : V) (p : Prg) (S : Addr → Prop), vs = [v] ∧ R S H v (prgD p) ∧ p.length ≤ 1000 ∧ ∀ (v' : V) (H' : Hp), Chg [] H H' → R (fun a => H a = none) H' v' (prgD p) → Q v' H'
def t__law_copy (K : PySem.W.Frag) : TS :=
    tRet (tLc (iList K (tVar 0)) (gTup K 2 (gCons (gName 1) (gCons (gName 2) (gNil)))) (tYes) (tTup (tCons (tVar 1) (tCons (tCB (cListQ K) (tCons (tVar 2) (tNil))) (tNil)))) [1, 2])
theorem pure__law_copy {K : PySem.W.Frag} (vs : List V) (H : Hp) (Q : VK) (E : XK) (h : sp__law_copy vs H Q E) : t__law_copy K (fin Q) (start ["helpers", "name", "steps"] vs) H := by
  obtain ⟨v, p, S, rfl, r, lp, q⟩ := h
  show t__law_copy K _ [some v, none, none] H
  unfold t__law_copy
  cases r with
  | @lst a xs _ s e ra =>
    have ln : xs.length = p.length := by rw [ra.length, List.length_map]
    walk_at "w"
    refine w_lcW (walk_list (K := K) (a := a) (xs := xs)) (fun D i acc H1 => Chg [] H H1 ∧ RA (fun a => H a = none ∧ a ≠ D) H1 acc ((p.take i).map rowD)) (fun D H1 nD c hD => ⟨c, .nil⟩) (fun D i acc H1 _ _ z => sqL (z.1.at e)) (fun D i acc x H1 H2 hi nD hD el iv y => ?_) (fun D acc H1 nD el hD iv => ?_)
    · obtain ⟨rfl, ex⟩ := y
      obtain ⟨c1, rac⟩ := iv
      obtain ⟨d1, ed, r1⟩ := ra.get ex
      rw [List.getElem?_map] at ed
      have hi' : i < p.length := by omega
      rw [List.getElem?_eq_getElem hi'] at ed
      cases ed
      cases r1 with
      | tup e2 ra2 =>
        cases ra2 with
        | cons r0 rs0 =>
          cases rs0 with
          | cons r3 rs3 =>
            cases rs3
            cases r0
            cases r3 with
            | @lst l4 ys4 _ s4 e4 ra4 =>
              have e2' := c1.at e2
              have e4' := c1.at e4
              walk_at "w"
              refine w_listL (sqL e4') fun l5 H3 n5 c3 h5 => ?_
              walk_at "w"
              refine k_tup (by walk_at "sz") fun T H4 nT c4 hT => ?_
              have c34 := c3.same c4
              have n5' : H l5 = none := c1.dom _ n5
              have ne5 : l5 ≠ D := fun z => by rw [z, hD] at n5; cases n5
              have hT3 : T ≠ D := fun z => by rw [z, c3.at hD] at nT; cases nT
              refine lc_end (c34.at hD) el (by omega) fun H5 c5 h5' => ⟨?_, ?_⟩
              · exact (c1.same c34).one c5 nD
              · rw [List.take_add_one, List.getElem?_eq_getElem hi', Option.toList_some, List.map_append]
                have k1 : RA (fun a => H a = none ∧ a ≠ D) H5 acc ((p.take i).map rowD) := (rac.same c34).keep c5 fun a sa hm => sa.2 (List.mem_singleton.mp hm)
                refine k1.snoc (.tup (c5.at1 hT hT3) (.cons (.str _) (.cons (.lst ⟨n5', ne5⟩ (c5.at1 (c4.at h5) ne5) ?_) .nil)))
                exact ((ra4.pure (steps_noL _)).im ((c1.same c34).pre c5)).any
    · obtain ⟨c1, rac⟩ := iv
      rw [ln, List.take_length] at rac
      exact q (.ref D) H1 c1 (.lst nD hD (rac.mono fun a h => h.1))
def sp_law (K : PySem.W.Frag) : Sp := fun vs H Q _ => ∃ (a : Addr) (ns : List Int), vs = [.ref a] ∧ SqL K H a (ns.map V.int) ∧ ns.length ≤ 63 ∧ ∀ H', Q (.bl true) H'
def t_law (K : PySem.W.Frag) : TS :=
    tSeq (tFor (iRng1 (tCons (tCB cMax (tCons (tC (.int 1)) (tCons (tCB cMin (tCons (tC (.int 4)) (tCons (tCB (cLenQ K) (tCons (tVar 0) (tNil))) (tNil)))) (tNil)))) (tNil))) (gName 1) (tSeq (tAsg (tCall sp__law_program [] E0 (tCons (tCall sp__law_bag [] E0 (tCons (tCall (sp__law_cell_at K) [] E0 (tCons (tVar 0) (tCons (tVar 1) (tNil)))) (tCons (tVar 1) (tNil)))) (tNil))) (gName 2))
    (tSeq (tAsg (tCall sp__law_copy [] E0 (tCons (tVar 2) (tNil))) (gName 3))
    (tSeq (tIfS (tOr (tTest (tOp oNotB (tCall sp_is_program [] E0 (tCons (tVar 3) (tNil))) (tC (.bl true)))) (tOr (tTest (tOp oNotN (tCall sp_check [] E0 (tCons (tVar 3) (tNil))) (tC .non))) (tTest (tOp oNotN (tCallN 0 1 sp_check (fun _ zs => zs) E0 tNil (tCons (tVar 3) (tNil))) (tC .non))))) (tRet (tC (.bl false))) (tNext))
    (tIfS (tTest (tOp oNeD (tVar 3) (tVar 2))) (tRet (tC (.bl false))) (tNext))))))
    (tRet (tC (.bl true)))
theorem pure_law {K : PySem.W.Frag} (vs : List V) (H : Hp) (Q : VK) (E : XK) (h : sp_law K vs H Q E) : t_law K (fin Q) (start ["script", "k", "helpers", "handed"] vs) H := by
  obtain ⟨a, ns, rfl, hS, hlen, q⟩ := h
  show t_law K _ [some (.ref a), none, none, none] H
  unfold t_law
  walk_at "w"
  rw [List.length_map]
  generalize em : (if (if (ns.length : Int) < 4 then (ns.length : Int) else 4) > 1 then (if (ns.length : Int) < 4 then (ns.length : Int) else 4) else 1) = m
  have hm : 1 ≤ m ∧ m ≤ 4 := by
    rw [← em]
    split <;> split <;> omega
  walk_at "w"
  refine for_it walk_range (fun i σ H1 => Chg [] H H1 ∧ ∃ y1 y2 y3, σ = [some (.ref a), y1, y2, y3]) ⟨.refl, _, _, _, rfl⟩ (fun _ _ _ _ _ => trivial) (fun i x σ H1 H2 hi p y => ?_) (fun σ H1 p => ?_)
  · obtain ⟨c1, y1, y2, y3, rfl⟩ := p
    obtain ⟨rfl, rfl⟩ := y
    walk_at "w"
    refine ⟨a, ns, 0 + (i : Nat), rfl, c1.seq hS, by omega, fun c => ?_⟩
    walk_at "w"
    refine ⟨c, 0 + (i : Nat), rfl, by omega, by omega, fun b H3 nb c3 bag => ?_⟩
    walk_at "w"
    refine ⟨b, 10 ^ 12, rfl, bag, by decide, fun v p H4 c4 bag4 ok lp nums r => ?_⟩
    have nb0 : H b = none := c1.dom b nb
    have c04 : Chg [] H H4 := (c1.same c3).one c4 nb0
    walk_at "w"
    refine ⟨v, p, _, rfl, r, by omega, fun v' H5 c5 r' => ?_⟩
    walk_at "w"
    refine ⟨v', prgD p, _, rfl, r', prg_small ok, prg_len ok, fun H6 c6 => ?_⟩
    rw [firstWrong_of ok]
    walk_at "w"
    refine ⟨v', prgD p, _, rfl, r'.same c6, prg_small ok, prg_len ok, firstWrong_of ok, fun H7 c7 => ?_⟩
    walk_at "w"
    refine ⟨rfl, rfl, v', prgD p, _, rfl, r'.same (c6.same c7), prg_small ok, prg_len ok, firstWrong_of ok, fun H8 c8 => ?_⟩
    walk_at "w"
    have c58 := (c6.same c7).same c8
    refine w_neD (r'.same c58) (r.same (c5.same c58)) (prg_noDic p) (prg_noDic p) (by have := prg_depth ok; omega) ?_
    rw [eqv_self _ (prg_noDic p)]
    walk_at "w"
    exact ⟨(c04.same c5).same c58, _, _, _, rfl⟩
  · obtain ⟨c1, y1, y2, y3, rfl⟩ := p
    walk_at "w"
    exact q H1
end Fg
namespace Fg
open PySem PySem.Spec PyProof.Rows L2
local macro_rules | `(tactic| walk_at "len") => `(tactic| first | exact (fun ⟨e, _⟩ => by rw [e]; rfl) | (refine exL ?_; intro _; walk_at "len"))
/-! ### the text -/
def topS (i : Nat) : Stmt := PySem.Challenge.pw_forkgather_k01_right_programs.main.body.getD i (.Pass ⟨0, 0, 0, 0⟩)
abbrev s_NoProgram___init__ : Stmt := inClass (topS 2) 0
abbrev s_is_whole : Stmt := topS 7
abbrev s_is_name : Stmt := topS 8
abbrev s_is_expression : Stmt := topS 9
abbrev s_is_step : Stmt := topS 10
abbrev s_has_form : Stmt := topS 11
abbrev s_first_wrong : Stmt := topS 12
abbrev s_is_program : Stmt := topS 13
abbrev s_check : Stmt := topS 14
abbrev s__law_cell_at : Stmt := topS 16
abbrev s__law_bag : Stmt := topS 17
abbrev s__law_draw : Stmt := topS 18
abbrev s__law_name : Stmt := topS 19
abbrev s__law_names : Stmt := topS 20
abbrev s__law_number : Stmt := topS 21
abbrev s__law_expression : Stmt := topS 22
abbrev s__law_step : Stmt := topS 23
abbrev s__law_program : Stmt := topS 24
abbrev s__law_copy : Stmt := topS 25
abbrev s_law : Stmt := topS 26
theorem sc_is_whole : FnScope ["thing"] ["thing"] (defScope s_is_whole) := ⟨rfl, rfl, rfl, by decide +kernel, rfl, by decide +kernel, by decide +kernel⟩
theorem sc_is_name : FnScope ["thing", "sign"] ["thing"] (defScope s_is_name) := ⟨rfl, rfl, rfl, by decide +kernel, rfl, by decide +kernel, by decide +kernel⟩
theorem sc_is_expression : FnScope ["thing", "most", "one"] ["thing", "most"] (defScope s_is_expression) := ⟨rfl, rfl, rfl, by decide +kernel, rfl, by decide +kernel, by decide +kernel⟩
theorem sc_is_step : FnScope ["thing", "names", "behind", "word"] ["thing", "names", "behind"] (defScope s_is_step) := ⟨rfl, rfl, rfl, by decide +kernel, rfl, by decide +kernel, by decide +kernel⟩
theorem sc_has_form : FnScope ["thing", "row", "names", "name", "steps", "one", "other"] ["thing"] (defScope s_has_form) := ⟨rfl, rfl, rfl, by decide +kernel, rfl, by decide +kernel, by decide +kernel⟩
theorem sc_first_wrong : FnScope ["program", "names", "name", "steps", "at", "step"] ["program"] (defScope s_first_wrong) := ⟨rfl, rfl, rfl, by decide +kernel, rfl, by decide +kernel, by decide +kernel⟩
theorem sc_is_program : FnScope ["thing"] ["thing"] (defScope s_is_program) := ⟨rfl, rfl, rfl, by decide +kernel, rfl, by decide +kernel, by decide +kernel⟩
theorem sc_check : FnScope ["program", "wrong"] ["program"] (defScope s_check) := ⟨rfl, rfl, rfl, by decide +kernel, rfl, by decide +kernel, by decide +kernel⟩
theorem sc__law_cell_at : FnScope ["script", "k"] ["script", "k"] (defScope s__law_cell_at) := ⟨rfl, rfl, rfl, by decide +kernel, rfl, by decide +kernel, by decide +kernel⟩
theorem sc__law_bag : FnScope ["cell", "place"] ["cell", "place"] (defScope s__law_bag) := ⟨rfl, rfl, rfl, by decide +kernel, rfl, by decide +kernel, by decide +kernel⟩
theorem sc__law_draw : FnScope ["bag", "many", "found", "mixed"] ["bag", "many"] (defScope s__law_draw) := ⟨rfl, rfl, rfl, by decide +kernel, rfl, by decide +kernel, by decide +kernel⟩
theorem sc__law_name : FnScope ["bag", "last", "letters", "pick", "letter", "words", "at", "k"] ["bag", "last"] (defScope s__law_name) := ⟨rfl, rfl, rfl, by decide +kernel, rfl, by decide +kernel, by decide +kernel⟩
theorem sc__law_names : FnScope ["bag", "many", "found", "name", "k"] ["bag", "many"] (defScope s__law_names) := ⟨rfl, rfl, rfl, by decide +kernel, rfl, by decide +kernel, by decide +kernel⟩
theorem sc__law_number : FnScope ["bag", "pick", "number"] ["bag"] (defScope s__law_number) := ⟨rfl, rfl, rfl, by decide +kernel, rfl, by decide +kernel, by decide +kernel⟩
theorem sc__law_expression : FnScope ["bag", "most", "pick", "word", "one"] ["bag", "most"] (defScope s__law_expression) := ⟨rfl, rfl, rfl, by decide +kernel, rfl, by decide +kernel, by decide +kernel⟩
theorem sc__law_step : FnScope ["bag", "names", "behind", "deep", "word", "one"] ["bag", "names", "behind", "deep"] (defScope s__law_step) := ⟨rfl, rfl, rfl, by decide +kernel, rfl, by decide +kernel, by decide +kernel⟩
theorem sc__law_program : FnScope ["bag", "great", "names", "found", "name", "many", "deep", "k"] ["bag"] (defScope s__law_program) := ⟨rfl, rfl, rfl, by decide +kernel, rfl, by decide +kernel, by decide +kernel⟩
theorem sc__law_copy : FnScope ["helpers", "name", "steps"] ["helpers"] (defScope s__law_copy) := ⟨rfl, rfl, rfl, by decide +kernel, rfl, by decide +kernel, by decide +kernel⟩
theorem sc_law : FnScope ["script", "k", "helpers", "handed"] ["script"] (defScope s_law) := ⟨rfl, rfl, rfl, by decide +kernel, rfl, by decide +kernel, by decide +kernel⟩
/-! ### what the top has left, by names -/
structure Gm (w : World) (K : PySem.W.Frag) (mg : Str → Option Value) (dP : Addr) (es : Array DictEntry) (nn : Nat) : Prop where
  all : mg "all" = none
  range : mg "range" = none
  list : mg "list" = none
  sorted : mg "sorted" = none
  isinstance : mg "isinstance" = none
  int : mg "int" = none
  len : mg "len" = none
  enumerate : mg "enumerate" = none
  max : mg "max" = none
  bool : mg "bool" = none
  str : mg "str" = none
  tuple : mg "tuple" = none
  min : mg "min" = none
  zip : mg "zip" = none
  LETTERS : ∃ u, mg "LETTERS" = some u ∧ RelV (.str letters) u
  LONGEST_NAME : ∃ u, mg "LONGEST_NAME" = some u ∧ RelV (.int 8) u
  PARTS : ∃ u, mg "PARTS" = some u ∧ RelV (.ref dP) u
  dP : KDict K w dP es nn
section
variable {P : Program} {w : World} {K : PySem.W.Frag} {mg : Str → Option Value} {base : Heap} {dP : Addr} {es : Array DictEntry} {nn : Nat} {f : Addr} {fd : FuncData}
theorem ok_is_whole (F : FnP K "is_whole" s_is_whole [] f fd) (G : Gm w K mg dP es nn)  : FnOk P w K mg base CX0 1 f fd ["thing"] sp_is_whole :=
  FnP.go (k := 0) F sc_is_whole (fun vs H Q E => by first | (unfold sp_is_whole; walk_at "len") | walk_at "len") (t_is_whole K) (fun vs H Q E h => pure_is_whole (K := K) vs H Q E h) fun cdv A outer s H E hr =>
    (pss_one (ps_ret (pe_and (pe_callB call_isi (by rfl) G.isinstance (by decide +kernel) (pa_cons (pv 0) (pa_cons (pe_bltn (v := .ty "int") (by rfl) G.int (by decide +kernel) rfl) pa_nil))) (pe_one (pe_not (pe_callB call_isi (by rfl) G.isinstance (by decide +kernel) (pa_cons (pv 0) (pa_cons (pe_bltn (v := .ty "bool") (by rfl) G.bool (by decide +kernel) rfl) pa_nil))))))))
theorem ok_is_name (F : FnP K "is_name" s_is_name [] f fd) (G : Gm w K mg dP es nn)  : FnOk P w K mg base CX0 1 f fd ["thing"] sp_is_name :=
  FnP.go (k := 0) F sc_is_name (fun vs H Q E => by first | (unfold sp_is_name; walk_at "len") | walk_at "len") (t_is_name K) (fun vs H Q E h => pure_is_name (K := K) vs H Q E h) fun cdv A outer s H E hr =>
    (pss_cons (ps_if (PW.pt (pw_or (pt_not (pt_val (pe_callB call_isi (by rfl) G.isinstance (by decide +kernel) (pa_cons (pv 0) (pa_cons (pe_bltn (v := .ty "str") (by rfl) G.str (by decide +kernel) rfl) pa_nil))))) (pw_or (pt_cmpR p_lt (pe_callB p_lenS (by rfl) G.len (by decide +kernel) (pa_cons (pv 0) pa_nil)) pe_int (nomark _)) (pw_or1 (pt_cmpR p_gt (pe_callB p_lenS (by rfl) G.len (by decide +kernel) (pa_cons (pv 0) pa_nil)) (pe_gc (by rfl) G.LONGEST_NAME) (nomark _)))))) (pss_one (ps_ret pe_bl)) pss_nil)
      (pss_one (ps_ret (pe_callB (cr_all rfl) (by rfl) G.all (by decide +kernel) (pa_cons (pe_lc (own := [("sign", 1)]) (g := gName 1) (tt := tYes) (by rfl) sc_is_name.nd (pi_str (pv 0)) (blkOk_by (own := [("sign", 1)]) (N := ["thing", "sign"]) (sc := defScope s_is_name) (by decide +kernel)) (fun _ _ _ _ _ => (pg_name (i := 1) sc_is_name.nd rfl (by first | exact Or.inl rfl | exact Or.inr rfl))) (fun _ _ _ _ _ => pts_nil) (fun _ _ _ _ _ => (pe_cmpR p_inC (pv 1) (pe_gc (by rfl) G.LETTERS) (by rfl)))) pa_nil)))))
theorem ok_is_expression (F : FnP K "is_expression" s_is_expression [.int 5] f fd) (G : Gm w K mg dP es nn) (T : Parts K w dP) (g : mg "is_expression" = some (.ref f)) (c_is_whole : Cal P w K mg base 1 "is_whole" sp_is_whole []) : ∀ n : Nat, FnOk P w K mg base CX0 (n + 2) f fd ["thing", "most"] (sp_is_expression n)
  | 0 => ⟨fun vs H Q E h => absurd h (no_is_expression vs H Q E), fun A outer s H args us vs Q E _ _ _ _ h => absurd h (no_is_expression vs H Q E)⟩
  | n + 1 => by
    have ih := ok_is_expression F G T g c_is_whole n
    have c_is_expression : Cal P w K mg base (n + 2) "is_expression" (sp_is_expression n) [] := FnP.cald 2 1 F ih g (by simp) rfl fun _ _ _ _ _ _ _ us its h1 h2 => match us, its, h1, h2 with | [_, _], [_], _, _ => ⟨_, rfl, rfl⟩
    exact FnP.go (k := n + 2) F sc_is_expression (fun vs H Q E => by first | (unfold sp_is_expression; walk_at "len") | walk_at "len") (t_is_expression K w dP n) (fun vs H Q E h => pure_is_expression (K := K) T n vs H Q E h) fun cdv A outer s H E hr =>
      (pss_cons (ps_if (pt_cmpR p_lt (pv 1) pe_int (nomark _)) (pss_one (ps_ret pe_bl)) pss_nil)
      (pss_cons (ps_if (pt_val (pe_c c_is_whole hr (by omega) (by rfl) (pa_cons (pv 0) pa_nil))) (pss_one (ps_ret pe_bl)) pss_nil)
      (pss_cons (ps_if (PW.pt (pw_or (pt_not (pt_val (pe_callB call_isi (by rfl) G.isinstance (by decide +kernel) (pa_cons (pv 0) (pa_cons (pe_bltn (v := .ty "tuple") (by rfl) G.tuple (by decide +kernel) rfl) pa_nil))))) (pw_or (pt_cmpR p_lt (pe_callB p_lenQ (by rfl) G.len (by decide +kernel) (pa_cons (pv 0) pa_nil)) pe_int (nomark _)) (pw_or1 (pt_not (pt_val (pe_callB call_isi (by rfl) G.isinstance (by decide +kernel) (pa_cons (pe_ix ix_tup (pv 0) pe_int (fun _ _ => rfl)) (pa_cons (pe_bltn (v := .ty "str") (by rfl) G.str (by decide +kernel) rfl) pa_nil))))))))) (pss_one (ps_ret pe_bl)) pss_nil)
      (pss_cons (ps_if (PW.pt (pw_or (pt_cmpR (op_notIn_kd G.dP) (pe_ix ix_tup (pv 0) pe_int (fun _ _ => rfl)) (pe_gc (by rfl) G.PARTS) (by rfl)) (pw_or1 (pt_cmpR op_ne (pe_callB p_lenQ (by rfl) G.len (by decide +kernel) (pa_cons (pv 0) pa_nil)) (pe_op p_add (pe_ix ix_kdict (pe_gc (by rfl) G.PARTS) (pe_ix ix_tup (pv 0) pe_int (fun _ _ => rfl)) (fun _ _ => rfl)) pe_int) (nomark _))))) (pss_one (ps_ret pe_bl)) pss_nil)
      (pss_one (ps_ret (pe_callB (cr_all rfl) (by rfl) G.all (by decide +kernel) (pa_cons (pe_lc (own := [("one", 2)]) (g := gName 2) (tt := tYes) (by rfl) sc_is_expression.nd (pi_tup (pe_slice sl_tupA (pv 0) (po_some pe_int) po_none)) (blkOk_by (own := [("one", 2)]) (N := ["thing", "most", "one"]) (sc := defScope s_is_expression) (by decide +kernel)) (fun _ _ _ _ _ => (pg_name (i := 2) sc_is_expression.nd rfl (by first | exact Or.inl rfl | exact Or.inr rfl))) (fun _ _ _ _ _ => pts_nil) (fun _ _ _ _ _ => (pe_c c_is_expression hr (by omega) (by rfl) (pa_cons (pv 2) (pa_cons (pe_op p_sub (pv 1) pe_int) pa_nil))))) pa_nil))))))))
theorem ok_is_step (F : FnP K "is_step" s_is_step [] f fd) (G : Gm w K mg dP es nn) (c_is_expression_d : Cal P w K mg base 8 "is_expression" (sp_is_expression 6) [.int 5]) (c_is_whole : Cal P w K mg base 1 "is_whole" sp_is_whole []) (c_is_name : Cal P w K mg base 1 "is_name" sp_is_name []) : FnOk P w K mg base CX0 9 f fd ["thing", "names", "behind"] (sp_is_step K) :=
  FnP.go (k := 8) F sc_is_step (fun vs H Q E => by first | (unfold sp_is_step; walk_at "len") | walk_at "len") (t_is_step K) (fun vs H Q E h => pure_is_step (K := K) vs H Q E h) fun cdv A outer s H E hr =>
    (pss_cons (ps_if (PW.pt (pw_or (pt_not (pt_val (pe_callB call_isi (by rfl) G.isinstance (by decide +kernel) (pa_cons (pv 0) (pa_cons (pe_bltn (v := .ty "tuple") (by rfl) G.tuple (by decide +kernel) rfl) pa_nil))))) (pw_or (pt_cmpR p_lt (pe_callB p_lenQ (by rfl) G.len (by decide +kernel) (pa_cons (pv 0) pa_nil)) pe_int (nomark _)) (pw_or1 (pt_not (pt_val (pe_callB call_isi (by rfl) G.isinstance (by decide +kernel) (pa_cons (pe_ix ix_tup (pv 0) pe_int (fun _ _ => rfl)) (pa_cons (pe_bltn (v := .ty "str") (by rfl) G.str (by decide +kernel) rfl) pa_nil))))))))) (pss_one (ps_ret pe_bl)) pss_nil)
      (pss_cons (ps_set (i := 3) sc_is_step.nd rfl (by first | exact Or.inl rfl | exact Or.inr rfl) (pe_ix ix_tup (pv 0) pe_int (fun _ _ => rfl)))
      (pss_cons (ps_if (pt_cmpR op_eq (pv 3) pe_str (nomark _)) (pss_one (ps_ret (pe_cmpR op_eq (pe_callB p_lenQ (by rfl) G.len (by decide +kernel) (pa_cons (pv 0) pa_nil)) pe_int (nomark _)))) pss_nil)
      (pss_cons (ps_if (pt_cmpR op_ne (pe_callB p_lenQ (by rfl) G.len (by decide +kernel) (pa_cons (pv 0) pa_nil)) pe_int (nomark _)) (pss_one (ps_ret pe_bl)) pss_nil)
      (pss_cons (ps_if (pt_cmpR op_eq (pv 3) pe_str (nomark _)) (pss_one (ps_ret (pe_and (pe_c c_is_expression_d hr (by omega) (by rfl) (pa_cons (pe_ix ix_tup (pv 0) pe_int (fun _ _ => rfl)) pa_nil)) (pe_one (pe_c c_is_expression_d hr (by omega) (by rfl) (pa_cons (pe_ix ix_tup (pv 0) pe_int (fun _ _ => rfl)) pa_nil)))))) pss_nil)
      (pss_cons (ps_if (pt_cmpR op_eq (pv 3) pe_str (nomark _)) (pss_one (ps_ret (pe_and (pe_c c_is_expression_d hr (by omega) (by rfl) (pa_cons (pe_ix ix_tup (pv 0) pe_int (fun _ _ => rfl)) pa_nil)) (pe_and (pe_c c_is_whole hr (by omega) (by rfl) (pa_cons (pe_ix ix_tup (pv 0) pe_int (fun _ _ => rfl)) pa_nil)) (pe_one (pe_chain p_le p_le pe_int (pe_ix ix_tup (pv 0) pe_int (fun _ _ => rfl)) (pv 2))))))) pss_nil)
      (pss_cons (ps_if (PW.pt (pw_or (pt_cmpR op_notIn_seq (pv 3) (pe_tup (pa_cons pe_str (pa_cons pe_str (pa_cons pe_str pa_nil)))) (by rfl)) (pw_or (pt_not (pt_val (pe_c c_is_name hr (by omega) (by rfl) (pa_cons (pe_ix ix_tup (pv 0) pe_int (fun _ _ => rfl)) pa_nil)))) (pw_or1 (pt_not (pt_val (pe_c c_is_expression_d hr (by omega) (by rfl) (pa_cons (pe_ix ix_tup (pv 0) pe_int (fun _ _ => rfl)) pa_nil)))))))) (pss_one (ps_ret pe_bl)) pss_nil)
      (pss_one (ps_ret (pe_or (pe_cmpR op_eq (pv 3) pe_str (nomark _)) (pe_one (pe_cmpR op_in_seq (pe_ix ix_tup (pv 0) pe_int (fun _ _ => rfl)) (pv 1) (by rfl)))))))))))))
theorem ok_has_form (F : FnP K "has_form" s_has_form [] f fd) (G : Gm w K mg dP es nn) (c_is_name : Cal P w K mg base 1 "is_name" sp_is_name []) : FnOk P w K mg base CX0 2 f fd ["thing"] sp_has_form :=
  FnP.go (k := 1) F sc_has_form (fun vs H Q E => by first | (unfold sp_has_form; walk_at "len") | walk_at "len") (t_has_form K) (fun vs H Q E h => pure_has_form (K := K) vs H Q E h) fun cdv A outer s H E hr =>
    (pss_cons (ps_if (pt_not (pt_val (pe_callB call_isi (by rfl) G.isinstance (by decide +kernel) (pa_cons (pv 0) (pa_cons (pe_bltn (v := .ty "list") (by rfl) G.list (by decide +kernel) rfl) pa_nil))))) (pss_one (ps_ret pe_bl)) pss_nil)
      (pss_cons (ps_for PassesOwn.never rfl (pi_list (pv 0)) (pg_name (i := 1) sc_has_form.nd rfl (by first | exact Or.inl rfl | exact Or.inr rfl)) (pss_one (ps_if (PW.pt (pw_or (pt_not (pt_val (pe_callB call_isi (by rfl) G.isinstance (by decide +kernel) (pa_cons (pv 1) (pa_cons (pe_bltn (v := .ty "tuple") (by rfl) G.tuple (by decide +kernel) rfl) pa_nil))))) (pw_or (pt_cmpR op_ne (pe_callB p_lenQ (by rfl) G.len (by decide +kernel) (pa_cons (pv 1) pa_nil)) pe_int (nomark _)) (pw_or (pt_not (pt_val (pe_c c_is_name hr (by omega) (by rfl) (pa_cons (pe_ix ix_tup (pv 1) pe_int (fun _ _ => rfl)) pa_nil)))) (pw_or1 (pt_not (pt_val (pe_callB call_isi (by rfl) G.isinstance (by decide +kernel) (pa_cons (pe_ix ix_tup (pv 1) pe_int (fun _ _ => rfl)) (pa_cons (pe_bltn (v := .ty "list") (by rfl) G.list (by decide +kernel) rfl) pa_nil)))))))))) (pss_one (ps_ret pe_bl)) pss_nil)))
      (pss_cons (ps_setLc (i := 2) (own := [("name", 3), ("steps", 4)]) (g := gTup K 2 (gCons (gName 3) (gCons (gName 4) (gNil)))) (tt := tYes) (by rfl) sc_has_form.nd rfl rfl (sw_true rfl rfl rfl (by decide +kernel)) (pi_list (pv 0)) (blkOk_by (own := [("name", 3), ("steps", 4)]) (N := ["thing", "row", "names", "name", "steps", "one", "other"]) (sc := defScope s_has_form) (by decide +kernel)) (fun _ _ _ _ _ => (pg_tup rfl (pgs_cons (pg_name (i := 3) sc_has_form.nd rfl (by first | exact Or.inl rfl | exact Or.inr rfl)) (pgs_cons (pg_name (i := 4) sc_has_form.nd rfl (by first | exact Or.inl rfl | exact Or.inr rfl)) pgs_nil)))) (fun _ _ _ _ _ => pts_nil) (fun _ _ _ _ _ => (pv 3)))
      (pss_one (ps_ret (pe_callB (cr_all rfl) (by rfl) G.all (by decide +kernel) (pa_cons (pe_lc (own := [("one", 5), ("other", 6)]) (g := gTup K 2 (gCons (gName 5) (gCons (gName 6) (gNil)))) (tt := tYes) (by rfl) sc_has_form.nd (pi_zip (by rfl) G.zip (pa_cons (pv 2) (pa_cons (pe_slice sl_list (pv 2) (po_some pe_int) po_none) pa_nil))) (blkOk_by (own := [("one", 5), ("other", 6)]) (N := ["thing", "row", "names", "name", "steps", "one", "other"]) (sc := defScope s_has_form) (by decide +kernel)) (fun _ _ _ _ _ => (pg_tup rfl (pgs_cons (pg_name (i := 5) sc_has_form.nd rfl (by first | exact Or.inl rfl | exact Or.inr rfl)) (pgs_cons (pg_name (i := 6) sc_has_form.nd rfl (by first | exact Or.inl rfl | exact Or.inr rfl)) pgs_nil)))) (fun _ _ _ _ _ => pts_nil) (fun _ _ _ _ _ => (pe_cmpR p_ltS (pv 5) (pv 6) (nomark _)))) pa_nil)))))))
theorem ok_first_wrong (F : FnP K "first_wrong" s_first_wrong [] f fd) (G : Gm w K mg dP es nn) (c_has_form : Cal P w K mg base 2 "has_form" sp_has_form []) (c_is_step : Cal P w K mg base 9 "is_step" (sp_is_step K) []) : FnOk P w K mg base CX0 10 f fd ["program"] sp_first_wrong :=
  FnP.go (k := 9) F sc_first_wrong (fun vs H Q E => by first | (unfold sp_first_wrong; walk_at "len") | walk_at "len") (t_first_wrong K) (fun vs H Q E h => pure_first_wrong (K := K) vs H Q E h) fun cdv A outer s H E hr =>
    (pss_cons (ps_if (pt_not (pt_val (pe_c c_has_form hr (by omega) (by rfl) (pa_cons (pv 0) pa_nil)))) (pss_one (ps_ret (pe_tup (pa_cons pe_non (pa_cons pe_non pa_nil))))) pss_nil)
      (pss_cons (ps_setLc (i := 1) (own := [("name", 2), ("steps", 3)]) (g := gTup K 2 (gCons (gName 2) (gCons (gName 3) (gNil)))) (tt := tYes) (by rfl) sc_first_wrong.nd rfl rfl (sw_true rfl rfl rfl (by decide +kernel)) (pi_list (pv 0)) (blkOk_by (own := [("name", 2), ("steps", 3)]) (N := ["program", "names", "name", "steps", "at", "step"]) (sc := defScope s_first_wrong) (by decide +kernel)) (fun _ _ _ _ _ => (pg_tup rfl (pgs_cons (pg_name (i := 2) sc_first_wrong.nd rfl (by first | exact Or.inl rfl | exact Or.inr rfl)) (pgs_cons (pg_name (i := 3) sc_first_wrong.nd rfl (by first | exact Or.inl rfl | exact Or.inr rfl)) pgs_nil)))) (fun _ _ _ _ _ => pts_nil) (fun _ _ _ _ _ => (pv 2)))
      (pss_cons (ps_for PassesOwn.never rfl (pi_list (pv 0)) (pg_tup rfl (pgs_cons (pg_name (i := 2) sc_first_wrong.nd rfl (by first | exact Or.inl rfl | exact Or.inr rfl)) (pgs_cons (pg_name (i := 3) sc_first_wrong.nd rfl (by first | exact Or.inl rfl | exact Or.inr rfl)) pgs_nil))) (pss_one (ps_for PassesOwn.never rfl (pi_enum (by rfl) G.enumerate (pa_cons (pv 3) pa_nil)) (pg_tup rfl (pgs_cons (pg_name (i := 4) sc_first_wrong.nd rfl (by first | exact Or.inl rfl | exact Or.inr rfl)) (pgs_cons (pg_name (i := 5) sc_first_wrong.nd rfl (by first | exact Or.inl rfl | exact Or.inr rfl)) pgs_nil))) (pss_one (ps_if (pt_not (pt_val (pe_c c_is_step hr (by omega) (by rfl) (pa_cons (pv 5) (pa_cons (pv 1) (pa_cons (pe_op p_sub (pe_op p_sub (pe_callB p_lenQ (by rfl) G.len (by decide +kernel) (pa_cons (pv 3) pa_nil)) (pv 4)) pe_int) pa_nil)))))) (pss_one (ps_ret (pe_tup (pa_cons (pv 2) (pa_cons (pv 4) pa_nil))))) pss_nil)))))
      (pss_one (ps_ret pe_non)))))
theorem ok_is_program (F : FnP K "is_program" s_is_program [] f fd) (G : Gm w K mg dP es nn) (c_first_wrong : Cal P w K mg base 10 "first_wrong" sp_first_wrong []) : FnOk P w K mg base CX0 11 f fd ["thing"] sp_is_program :=
  FnP.go (k := 10) F sc_is_program (fun vs H Q E => by first | (unfold sp_is_program; walk_at "len") | walk_at "len") (t_is_program) (fun vs H Q E h => pure_is_program (K := K) vs H Q E h) fun cdv A outer s H E hr =>
    (pss_one (ps_ret (pe_cmpR p_isN (pe_c c_first_wrong hr (by omega) (by rfl) (pa_cons (pv 0) pa_nil)) pe_non (nomark _))))
theorem ok_check (F : FnP K "check" s_check [] f fd) (G : Gm w K mg dP es nn) (c_first_wrong : Cal P w K mg base 10 "first_wrong" sp_first_wrong []) : FnOk P w K mg base CX0 11 f fd ["program"] sp_check :=
  FnP.go (k := 10) F sc_check (fun vs H Q E => by first | (unfold sp_check; walk_at "len") | walk_at "len") (t_check) (fun vs H Q E h => pure_check (K := K) vs H Q E h) fun cdv A outer s H E hr =>
    (pss_cons (ps_set (i := 1) sc_check.nd rfl (by first | exact Or.inl rfl | exact Or.inr rfl) (pe_c c_first_wrong hr (by omega) (by rfl) (pa_cons (pv 0) pa_nil)))
      (pss_one (ps_if (pt_cmpR p_notN (pv 1) pe_non (nomark _)) (pss_one ps_never) pss_nil)))
theorem ok__law_cell_at (F : FnP K "_law_cell_at" s__law_cell_at [] f fd) (G : Gm w K mg dP es nn)  : FnOk P w K mg base CX0 1 f fd ["script", "k"] (sp__law_cell_at K) :=
  FnP.go (k := 0) F sc__law_cell_at (fun vs H Q E => by first | (unfold sp__law_cell_at; walk_at "len") | walk_at "len") (t__law_cell_at K) (fun vs H Q E h => pure__law_cell_at (K := K) vs H Q E h) fun cdv A outer s H E hr =>
    (pss_cons (ps_if (pt_cmpR p_lt (pv 1) (pe_callB p_lenQ (by rfl) G.len (by decide +kernel) (pa_cons (pv 0) pa_nil)) (nomark _)) (pss_one (ps_ret (pe_ix ix_list (pv 0) (pv 1) (fun _ _ => rfl)))) pss_nil)
      (pss_one (ps_ret pe_int)))
theorem ok__law_bag (F : FnP K "_law_bag" s__law_bag [] f fd) (G : Gm w K mg dP es nn)  : FnOk P w K mg base CX0 1 f fd ["cell", "place"] sp__law_bag :=
  FnP.go (k := 0) F sc__law_bag (fun vs H Q E => by first | (unfold sp__law_bag; walk_at "len") | walk_at "len") (t__law_bag) (fun vs H Q E h => pure__law_bag (K := K) vs H Q E h) fun cdv A outer s H E hr =>
    (pss_one (ps_ret (pe_lst (pa_cons (pe_callB (p_max rfl) (by rfl) G.max (by decide +kernel) (pa_cons pe_int (pa_cons (pe_op p_sub (pv 0) (pe_op p_pow pe_int pe_int)) pa_nil))) (pa_cons (pe_op p_add (pe_op p_mod (pv 0) pe_int) (pe_op p_mul pe_int (pv 1))) (pa_cons pe_int pa_nil))))))
theorem ok__law_draw (F : FnP K "_law_draw" s__law_draw [] f fd) (G : Gm w K mg dP es nn)  : FnOk P w K mg base CX0 1 f fd ["bag", "many"] sp__law_draw :=
  FnP.go (k := 0) F sc__law_draw (fun vs H Q E => by first | (unfold sp__law_draw; walk_at "len") | walk_at "len") (t__law_draw K) (fun vs H Q E h => pure__law_draw (K := K) vs H Q E h) fun cdv A outer s H E hr =>
    (pss_cons (ps_if (pt_cmpR p_gt (pe_ix ix_list (pv 0) pe_int (fun _ _ => rfl)) pe_int (nomark _)) (pss_cons (ps_set (i := 2) sc__law_draw.nd rfl (by first | exact Or.inl rfl | exact Or.inr rfl) (pe_op p_mod (pe_ix ix_list (pv 0) pe_int (fun _ _ => rfl)) (pv 1)))
      (pss_cons (ps_asg (pe_op p_fdiv (pe_ix ix_list (pv 0) pe_int (fun _ _ => rfl)) (pv 1)) (pg_sub (pv 0) pe_int set_list))
      (pss_one (ps_ret (pv 2))))) pss_nil)
      (pss_cons (ps_asg (pe_op p_add (pe_ix ix_list (pv 0) pe_int (fun _ _ => rfl)) pe_int) (pg_sub (pv 0) pe_int set_list))
      (pss_cons (ps_set (i := 3) sc__law_draw.nd rfl (by first | exact Or.inl rfl | exact Or.inr rfl) (pe_op p_mod (pe_op p_pow (pe_op p_add (pe_ix ix_list (pv 0) pe_int (fun _ _ => rfl)) (pe_op p_mul pe_int (pe_ix ix_list (pv 0) pe_int (fun _ _ => rfl)))) pe_int) pe_int))
      (pss_cons (ps_set (i := 3) sc__law_draw.nd rfl (by first | exact Or.inl rfl | exact Or.inr rfl) (pe_op p_mod (pe_op p_pow (pe_op p_add (pv 3) (pe_op p_mul pe_int (pe_ix ix_list (pv 0) pe_int (fun _ _ => rfl)))) pe_int) pe_int))
      (pss_one (ps_ret (pe_op p_mod (pe_op p_fdiv (pv 3) pe_int) (pv 1))))))))
theorem ok__law_name (F : FnP K "_law_name" s__law_name [] f fd) (G : Gm w K mg dP es nn) (c__law_draw : Cal P w K mg base 1 "_law_draw" sp__law_draw []) : FnOk P w K mg base CX0 2 f fd ["bag", "last"] sp__law_name :=
  FnP.go (k := 1) F sc__law_name (fun vs H Q E => by first | (unfold sp__law_name; walk_at "len") | walk_at "len") (t__law_name K) (fun vs H Q E h => pure__law_name (K := K) vs H Q E h) fun cdv A outer s H E hr =>
    (pss_cons (ps_set (i := 2) sc__law_name.nd rfl (by first | exact Or.inl rfl | exact Or.inr rfl) pe_str)
      (pss_cons (ps_set (i := 3) sc__law_name.nd rfl (by first | exact Or.inl rfl | exact Or.inr rfl) (pe_c c__law_draw hr (by omega) (by rfl) (pa_cons (pv 0) (pa_cons pe_int pa_nil))))
      (pss_cons (ps_set (i := 4) sc__law_name.nd rfl (by first | exact Or.inl rfl | exact Or.inr rfl) (pe_ix ix_str (pv 2) (pe_c c__law_draw hr (by omega) (by rfl) (pa_cons (pv 0) (pa_cons pe_int pa_nil))) (fun _ _ => rfl)))
      (pss_cons (ps_if (pt_cmpR op_eq (pv 3) pe_int (nomark _)) (pss_cons (ps_set (i := 5) sc__law_name.nd rfl (by first | exact Or.inl rfl | exact Or.inr rfl) (pe_lst (pa_cons pe_str (pa_cons pe_str (pa_cons pe_str (pa_cons pe_str (pa_cons pe_str (pa_cons pe_str (pa_cons pe_str (pa_cons pe_str (pa_cons pe_str (pa_cons pe_str pa_nil))))))))))))
      (pss_one (ps_ret (pe_ix ix_list (pv 5) (pe_c c__law_draw hr (by omega) (by rfl) (pa_cons (pv 0) (pa_cons pe_int pa_nil))) (fun _ _ => rfl))))) pss_nil)
      (pss_cons (ps_if (PW.pt (pw_and (pt_cmpR op_eq (pv 3) pe_int (nomark _)) (pw_and1 (pt_chain p_lt p_lt pe_int (pe_callB p_lenS (by rfl) G.len (by decide +kernel) (pa_cons (pv 1) pa_nil)) pe_int)))) (pss_one (ps_ret (pe_op p_addS (pv 1) (pv 4)))) pss_nil)
      (pss_cons (ps_if (PW.pt (pw_and (pt_cmpR op_eq (pv 3) pe_int (nomark _)) (pw_and1 (pt_cmpR p_gt (pe_callB p_lenS (by rfl) G.len (by decide +kernel) (pa_cons (pv 1) pa_nil)) pe_int (nomark _))))) (pss_one (ps_ret (pe_slice sl_str (pv 1) (po_some pe_int) po_none))) pss_nil)
      (pss_cons (ps_if (PW.pt (pw_and (pt_cmpR op_eq (pv 3) pe_int (nomark _)) (pw_and1 (pt_cmpR op_ne (pv 1) pe_str (nomark _))))) (pss_cons (ps_set (i := 6) sc__law_name.nd rfl (by first | exact Or.inl rfl | exact Or.inr rfl) (pe_c c__law_draw hr (by omega) (by rfl) (pa_cons (pv 0) (pa_cons (pe_callB p_lenS (by rfl) G.len (by decide +kernel) (pa_cons (pv 1) pa_nil)) pa_nil))))
      (pss_one (ps_ret (pe_op p_addS (pe_op p_addS (pe_slice sl_str (pv 1) po_none (po_some (pv 6))) (pv 4)) (pe_slice sl_str (pv 1) (po_some (pe_op p_add (pv 6) pe_int)) po_none))))) pss_nil)
      (pss_one (ps_ret (pe_op p_addS (pv 4) (pe_join pe_str (pe_lc (own := [("k", 7)]) (g := gName 7) (tt := tYes) (by rfl) sc__law_name.nd (pi_range1 (by rfl) G.range (pa_cons (pe_c c__law_draw hr (by omega) (by rfl) (pa_cons (pv 0) (pa_cons pe_int pa_nil))) pa_nil)) (blkOk_by (own := [("k", 7)]) (N := ["bag", "last", "letters", "pick", "letter", "words", "at", "k"]) (sc := defScope s__law_name) (by decide +kernel)) (fun _ _ _ _ _ => (pg_name (i := 7) sc__law_name.nd rfl (by first | exact Or.inl rfl | exact Or.inr rfl))) (fun _ _ _ _ _ => pts_nil) (fun _ _ _ _ _ => (pe_ix ix_str (pv 2) (pe_c c__law_draw hr (by omega) (by rfl) (pa_cons (pv 0) (pa_cons pe_int pa_nil))) (fun _ _ => rfl)))))))))))))))
theorem ok__law_names (F : FnP K "_law_names" s__law_names [] f fd) (G : Gm w K mg dP es nn) (c__law_name : Cal P w K mg base 2 "_law_name" sp__law_name []) : FnOk P w K mg base CX0 3 f fd ["bag", "many"] sp__law_names :=
  FnP.go (k := 2) F sc__law_names (fun vs H Q E => by first | (unfold sp__law_names; walk_at "len") | walk_at "len") (t__law_names) (fun vs H Q E h => pure__law_names (K := K) vs H Q E h) fun cdv A outer s H E hr =>
    (pss_cons (ps_set (i := 2) sc__law_names.nd rfl (by first | exact Or.inl rfl | exact Or.inr rfl) pe_dnewK)
      (pss_cons (ps_set (i := 3) sc__law_names.nd rfl (by first | exact Or.inl rfl | exact Or.inr rfl) pe_str)
      (pss_cons (ps_for PassesOwn.never rfl (pi_range1 (by rfl) G.range (pa_cons (pv 1) pa_nil)) (pg_name (i := 4) sc__law_names.nd rfl (by first | exact Or.inl rfl | exact Or.inr rfl)) (pss_cons (ps_set (i := 3) sc__law_names.nd rfl (by first | exact Or.inl rfl | exact Or.inr rfl) (pe_c c__law_name hr (by omega) (by rfl) (pa_cons (pv 0) (pa_cons (pv 3) pa_nil))))
      (pss_one (ps_dput (hu_of hr) (pv 2) (pv 3) pe_bl rfl))))
      (pss_one (ps_ret (pe_callTy (p_listD rfl) (by rfl) G.list (by decide +kernel) (pa_cons (pv 2) pa_nil)))))))
theorem ok__law_number (F : FnP K "_law_number" s__law_number [] f fd) (G : Gm w K mg dP es nn) (c__law_draw : Cal P w K mg base 1 "_law_draw" sp__law_draw []) : FnOk P w K mg base CX0 2 f fd ["bag"] sp__law_number :=
  FnP.go (k := 1) F sc__law_number (fun vs H Q E => by first | (unfold sp__law_number; walk_at "len") | walk_at "len") (t__law_number K) (fun vs H Q E h => pure__law_number (K := K) vs H Q E h) fun cdv A outer s H E hr =>
    (pss_cons (ps_set (i := 1) sc__law_number.nd rfl (by first | exact Or.inl rfl | exact Or.inr rfl) (pe_c c__law_draw hr (by omega) (by rfl) (pa_cons (pv 0) (pa_cons pe_int pa_nil))))
      (pss_cons (ps_set (i := 2) sc__law_number.nd rfl (by first | exact Or.inl rfl | exact Or.inr rfl) (pe_c c__law_draw hr (by omega) (by rfl) (pa_cons (pv 0) (pa_cons (pe_ix ix_list (pe_lst (pa_cons pe_int (pa_cons pe_int (pa_cons pe_int (pa_cons (pe_op p_pow pe_int pe_int) pa_nil))))) (pv 1) (fun _ _ => rfl)) pa_nil))))
      (pss_cons (ps_if (pt_cmpR op_eq (pe_c c__law_draw hr (by omega) (by rfl) (pa_cons (pv 0) (pa_cons pe_int pa_nil))) pe_int (nomark _)) (pss_one (ps_ret (pe_op p_sub pe_int (pv 2)))) pss_nil)
      (pss_one (ps_ret (pv 2))))))
theorem ok__law_expression (F : FnP K "_law_expression" s__law_expression [] f fd) (G : Gm w K mg dP es nn) (g : mg "_law_expression" = some (.ref f)) (c__law_draw : Cal P w K mg base 1 "_law_draw" sp__law_draw []) (c__law_number : Cal P w K mg base 2 "_law_number" sp__law_number []) : ∀ n : Nat, FnOk P w K mg base CX0 (n + 2) f fd ["bag", "most"] (sp__law_expression n)
  | 0 => ⟨fun vs H Q E h => absurd h (no__law_expression vs H Q E), fun A outer s H args us vs Q E _ _ _ _ h => absurd h (no__law_expression vs H Q E)⟩
  | n + 1 => by
    have ih := ok__law_expression F G g c__law_draw c__law_number n
    have c__law_expression : Cal P w K mg base (n + 2) "_law_expression" (sp__law_expression n) [] := F.cal ih g fun _ _ _ _ _ _ us hl => match us, hl with | [_, _], _ => rfl
    exact FnP.go (k := n + 2) F sc__law_expression (fun vs H Q E => by first | (unfold sp__law_expression; walk_at "len") | walk_at "len") (t__law_expression K n) (fun vs H Q E h => pure__law_expression (K := K) n vs H Q E h) fun cdv A outer s H E hr =>
      (pss_cons (ps_set (i := 2) sc__law_expression.nd rfl (by first | exact Or.inl rfl | exact Or.inr rfl) (pe_c c__law_draw hr (by omega) (by rfl) (pa_cons (pv 0) (pa_cons pe_int pa_nil))))
      (pss_cons (ps_if (pt_cmpR op_eq (pv 2) pe_int (nomark _)) (pss_one (ps_ret (pe_tup (pa_cons pe_str pa_nil)))) pss_nil)
      (pss_cons (ps_if (PW.pt (pw_or (pt_cmpR p_lt (pv 1) pe_int (nomark _)) (pw_or1 (pt_cmpR p_lt (pv 2) pe_int (nomark _))))) (pss_one (ps_ret (pe_c c__law_number hr (by omega) (by rfl) (pa_cons (pv 0) pa_nil)))) pss_nil)
      (pss_cons (ps_if (pt_cmpR p_lt (pv 2) pe_int (nomark _)) (pss_one (ps_ret (pe_tup (pa_cons pe_str (pa_cons (pe_c c__law_expression hr (by omega) (by rfl) (pa_cons (pv 0) (pa_cons (pe_op p_sub (pv 1) pe_int) pa_nil))) pa_nil))))) pss_nil)
      (pss_cons (ps_set (i := 3) sc__law_expression.nd rfl (by first | exact Or.inl rfl | exact Or.inr rfl) (pe_ix ix_list (pe_lst (pa_cons pe_str (pa_cons pe_str (pa_cons pe_str pa_nil)))) (pe_c c__law_draw hr (by omega) (by rfl) (pa_cons (pv 0) (pa_cons pe_int pa_nil))) (fun _ _ => rfl)))
      (pss_cons (ps_set (i := 4) sc__law_expression.nd rfl (by first | exact Or.inl rfl | exact Or.inr rfl) (pe_c c__law_expression hr (by omega) (by rfl) (pa_cons (pv 0) (pa_cons (pe_op p_sub (pv 1) pe_int) pa_nil))))
      (pss_one (ps_ret (pe_tup (pa_cons (pv 3) (pa_cons (pv 4) (pa_cons (pe_c c__law_expression hr (by omega) (by rfl) (pa_cons (pv 0) (pa_cons (pe_op p_sub (pv 1) pe_int) pa_nil))) pa_nil))))))))))))
theorem ok__law_step (F : FnP K "_law_step" s__law_step [] f fd) (G : Gm w K mg dP es nn) (c__law_draw : Cal P w K mg base 1 "_law_draw" sp__law_draw []) (c__law_expression : Cal P w K mg base 8 "_law_expression" (sp__law_expression 6) []) (c__law_name : Cal P w K mg base 2 "_law_name" sp__law_name []) : FnOk P w K mg base CX0 9 f fd ["bag", "names", "behind", "deep"] (sp__law_step K) :=
  FnP.go (k := 8) F sc__law_step (fun vs H Q E => by first | (unfold sp__law_step; walk_at "len") | walk_at "len") (t__law_step K) (fun vs H Q E h => pure__law_step (K := K) vs H Q E h) fun cdv A outer s H E hr =>
    (pss_cons (ps_set (i := 4) sc__law_step.nd rfl (by first | exact Or.inl rfl | exact Or.inr rfl) (pe_ix ix_list (pe_lst (pa_cons pe_str (pa_cons pe_str (pa_cons pe_str (pa_cons pe_str (pa_cons pe_str (pa_cons pe_str pa_nil))))))) (pe_c c__law_draw hr (by omega) (by rfl) (pa_cons (pv 0) (pa_cons pe_int pa_nil))) (fun _ _ => rfl)))
      (pss_cons (ps_set (i := 5) sc__law_step.nd rfl (by first | exact Or.inl rfl | exact Or.inr rfl) (pe_c c__law_expression hr (by omega) (by rfl) (pa_cons (pv 0) (pa_cons (pe_op p_add pe_int (pe_c c__law_draw hr (by omega) (by rfl) (pa_cons (pv 0) (pa_cons (pv 3) pa_nil)))) pa_nil))))
      (pss_cons (ps_if (PW.pt (pw_or (pt_cmpR op_eq (pv 4) pe_str (nomark _)) (pw_or1 (PW.pt (pw_and (pt_cmpR op_eq (pv 4) pe_str (nomark _)) (pw_and1 (pt_cmpR op_eq (pv 2) pe_int (nomark _)))))))) (pss_one (ps_ret (pe_tup (pa_cons pe_str pa_nil)))) pss_nil)
      (pss_cons (ps_if (pt_cmpR op_eq (pv 4) pe_str (nomark _)) (pss_one (ps_ret (pe_tup (pa_cons (pv 4) (pa_cons (pv 5) (pa_cons (pe_c c__law_expression hr (by omega) (by rfl) (pa_cons (pv 0) (pa_cons (pe_op p_add pe_int (pe_c c__law_draw hr (by omega) (by rfl) (pa_cons (pv 0) (pa_cons (pv 3) pa_nil)))) pa_nil))) pa_nil)))))) pss_nil)
      (pss_cons (ps_if (pt_cmpR op_eq (pv 4) pe_str (nomark _)) (pss_one (ps_ret (pe_tup (pa_cons (pv 4) (pa_cons (pv 5) (pa_cons (pe_op p_add pe_int (pe_c c__law_draw hr (by omega) (by rfl) (pa_cons (pv 0) (pa_cons (pv 2) pa_nil)))) pa_nil)))))) pss_nil)
      (pss_cons (ps_if (pt_cmpR op_eq (pv 4) pe_str (nomark _)) (pss_one (ps_ret (pe_tup (pa_cons (pv 4) (pa_cons (pe_c c__law_name hr (by omega) (by rfl) (pa_cons (pv 0) (pa_cons (pe_ix ix_list (pv 1) pe_int (fun _ _ => rfl)) pa_nil))) (pa_cons (pv 5) pa_nil)))))) pss_nil)
      (pss_one (ps_ret (pe_tup (pa_cons (pv 4) (pa_cons (pe_ix ix_list (pv 1) (pe_c c__law_draw hr (by omega) (by rfl) (pa_cons (pv 0) (pa_cons (pe_callB p_lenQ (by rfl) G.len (by decide +kernel) (pa_cons (pv 1) pa_nil)) pa_nil))) (fun _ _ => rfl)) (pa_cons (pv 5) pa_nil))))))))))))
theorem ok__law_program (F : FnP K "_law_program" s__law_program [] f fd) (G : Gm w K mg dP es nn) (c__law_draw : Cal P w K mg base 1 "_law_draw" sp__law_draw []) (c__law_names : Cal P w K mg base 3 "_law_names" sp__law_names []) (c__law_step : Cal P w K mg base 9 "_law_step" (sp__law_step K) []) : FnOk P w K mg base CX0 10 f fd ["bag"] sp__law_program :=
  FnP.go (k := 9) F sc__law_program (fun vs H Q E => by first | (unfold sp__law_program; walk_at "len") | walk_at "len") (t__law_program K) (fun vs H Q E h => pure__law_program (K := K) vs H Q E h) fun cdv A outer s H E hr =>
    (pss_cons (ps_set (i := 1) sc__law_program.nd rfl (by first | exact Or.inl rfl | exact Or.inr rfl) (pe_c c__law_draw hr (by omega) (by rfl) (pa_cons (pv 0) (pa_cons pe_int pa_nil))))
      (pss_cons (ps_set (i := 2) sc__law_program.nd rfl (by first | exact Or.inl rfl | exact Or.inr rfl) (pe_callB cr_sortedS (by rfl) G.sorted (by decide +kernel) (pa_cons (pe_c c__law_names hr (by omega) (by rfl) (pa_cons (pv 0) (pa_cons (pe_c c__law_draw hr (by omega) (by rfl) (pa_cons (pv 0) (pa_cons (pe_ix ix_list (pe_lst (pa_cons pe_int (pa_cons pe_int pa_nil))) (pe_op p_fdiv (pv 1) pe_int) (fun _ _ => rfl)) pa_nil))) pa_nil))) pa_nil)))
      (pss_cons (ps_set (i := 3) sc__law_program.nd rfl (by first | exact Or.inl rfl | exact Or.inr rfl) (pe_lst pa_nil))
      (pss_cons (ps_for PassesOwn.never rfl (pi_list (pv 2)) (pg_name (i := 4) sc__law_program.nd rfl (by first | exact Or.inl rfl | exact Or.inr rfl)) (pss_cons (ps_set (i := 5) sc__law_program.nd rfl (by first | exact Or.inl rfl | exact Or.inr rfl) (pe_c c__law_draw hr (by omega) (by rfl) (pa_cons (pv 0) (pa_cons (pe_ix ix_list (pe_lst (pa_cons pe_int (pa_cons pe_int pa_nil))) (pe_op p_fdiv (pv 1) pe_int) (fun _ _ => rfl)) pa_nil))))
      (pss_cons (ps_set (i := 6) sc__law_program.nd rfl (by first | exact Or.inl rfl | exact Or.inr rfl) (pe_op op_rep (pe_lst (pa_cons (pe_op p_add pe_int (pe_callTy p_int (by rfl) G.int (by decide +kernel) (pa_cons (pe_cmpR p_lt (pv 1) pe_int (nomark _)) pa_nil))) pa_nil)) (pe_op p_add (pv 5) pe_int)))
      (pss_cons (ps_asg pe_int (pg_sub (pv 6) (pe_c c__law_draw hr (by omega) (by rfl) (pa_cons (pv 0) (pa_cons (pe_op p_add (pv 5) pe_int) pa_nil))) set_list))
      (pss_one (ps_expr (pe_bm PySem.F.plainAttrs_list PySem.F.slot_list_append PySem.F.type_list_append mt_append (pv 3) (pa_cons (pe_tup (pa_cons (pv 4) (pa_cons (pe_lc (own := [("k", 7)]) (g := gName 7) (tt := tYes) (by rfl) sc__law_program.nd (pi_range1 (by rfl) G.range (pa_cons (pv 5) pa_nil)) (blkOk_by (own := [("k", 7)]) (N := ["bag", "great", "names", "found", "name", "many", "deep", "k"]) (sc := defScope s__law_program) (by decide +kernel)) (fun _ _ _ _ _ => (pg_name (i := 7) sc__law_program.nd rfl (by first | exact Or.inl rfl | exact Or.inr rfl))) (fun _ _ _ _ _ => pts_nil) (fun _ _ _ _ _ => (pe_c c__law_step hr (by omega) (by rfl) (pa_cons (pv 0) (pa_cons (pv 2) (pa_cons (pe_op p_sub (pe_op p_sub (pv 5) pe_int) (pv 7)) (pa_cons (pe_ix ix_list (pv 6) (pv 7) (fun _ _ => rfl)) pa_nil))))))) pa_nil))) pa_nil))))))))
      (pss_one (ps_ret (pv 3)))))))
theorem ok__law_copy (F : FnP K "_law_copy" s__law_copy [] f fd) (G : Gm w K mg dP es nn)  : FnOk P w K mg base CX0 1 f fd ["helpers"] sp__law_copy :=
  FnP.go (k := 0) F sc__law_copy (fun vs H Q E => by first | (unfold sp__law_copy; walk_at "len") | walk_at "len") (t__law_copy K) (fun vs H Q E h => pure__law_copy (K := K) vs H Q E h) fun cdv A outer s H E hr =>
    (pss_one (ps_ret (pe_lc (own := [("name", 1), ("steps", 2)]) (g := gTup K 2 (gCons (gName 1) (gCons (gName 2) (gNil)))) (tt := tYes) (by rfl) sc__law_copy.nd (pi_list (pv 0)) (blkOk_by (own := [("name", 1), ("steps", 2)]) (N := ["helpers", "name", "steps"]) (sc := defScope s__law_copy) (by decide +kernel)) (fun _ _ _ _ _ => (pg_tup rfl (pgs_cons (pg_name (i := 1) sc__law_copy.nd rfl (by first | exact Or.inl rfl | exact Or.inr rfl)) (pgs_cons (pg_name (i := 2) sc__law_copy.nd rfl (by first | exact Or.inl rfl | exact Or.inr rfl)) pgs_nil)))) (fun _ _ _ _ _ => pts_nil) (fun _ _ _ _ _ => (pe_tup (pa_cons (pv 1) (pa_cons (pe_callTy p_listQ (by rfl) G.list (by decide +kernel) (pa_cons (pv 2) pa_nil)) pa_nil)))))))
theorem ok_law (F : FnP K "law" s_law [] f fd) (G : Gm w K mg dP es nn) (c__law_cell_at : Cal P w K mg base 1 "_law_cell_at" (sp__law_cell_at K) []) (c__law_bag : Cal P w K mg base 1 "_law_bag" sp__law_bag []) (c__law_program : Cal P w K mg base 10 "_law_program" sp__law_program []) (c__law_copy : Cal P w K mg base 1 "_law_copy" sp__law_copy []) (c_is_program : Cal P w K mg base 11 "is_program" sp_is_program []) (c_check : Cal P w K mg base 11 "check" sp_check []) (k_check_program : CalK P w K mg base 11 "check" sp_check 0 ["program"] (fun _ zs => zs)) : FnOk P w K mg base CX0 12 f fd ["script"] (sp_law K) :=
  FnP.go (k := 11) F sc_law (fun vs H Q E => by first | (unfold sp_law; walk_at "len") | walk_at "len") (t_law K) (fun vs H Q E h => pure_law (K := K) vs H Q E h) fun cdv A outer s H E hr =>
    (pss_cons (ps_for PassesOwn.never rfl (pi_range1 (by rfl) G.range (pa_cons (pe_callB (p_max rfl) (by rfl) G.max (by decide +kernel) (pa_cons pe_int (pa_cons (pe_callB (p_min rfl) (by rfl) G.min (by decide +kernel) (pa_cons pe_int (pa_cons (pe_callB p_lenQ (by rfl) G.len (by decide +kernel) (pa_cons (pv 0) pa_nil)) pa_nil))) pa_nil))) pa_nil)) (pg_name (i := 1) sc_law.nd rfl (by first | exact Or.inl rfl | exact Or.inr rfl)) (pss_cons (ps_set (i := 2) sc_law.nd rfl (by first | exact Or.inl rfl | exact Or.inr rfl) (pe_c c__law_program hr (by omega) (by rfl) (pa_cons (pe_c c__law_bag hr (by omega) (by rfl) (pa_cons (pe_c c__law_cell_at hr (by omega) (by rfl) (pa_cons (pv 0) (pa_cons (pv 1) pa_nil))) (pa_cons (pv 1) pa_nil))) pa_nil)))
      (pss_cons (ps_set (i := 3) sc_law.nd rfl (by first | exact Or.inl rfl | exact Or.inr rfl) (pe_c c__law_copy hr (by omega) (by rfl) (pa_cons (pv 2) pa_nil)))
      (pss_cons (ps_if (PW.pt (pw_or (pt_cmpR p_notB (pe_c c_is_program hr (by omega) (by rfl) (pa_cons (pv 3) pa_nil)) pe_bl (nomark _)) (pw_or (pt_cmpR p_notN (pe_c c_check hr (by omega) (by rfl) (pa_cons (pv 3) pa_nil)) pe_non (nomark _)) (pw_or1 (pt_cmpR p_notN (pe_ck0 k_check_program hr (by omega) (by rfl) (pk_cons (pv 3) pk_nil)) pe_non (nomark _)))))) (pss_one (ps_ret pe_bl)) pss_nil)
      (pss_one (ps_if (pt_cmpR (p_neD hr.units) (pv 3) (pv 2) (nomark _)) (pss_one (ps_ret pe_bl)) pss_nil))))))
      (pss_one (ps_ret pe_bl)))
end
/-! ### the head -/
def d_is_whole : He.DefD := ⟨("is_whole", none), "is_whole", "is_whole", defArgs s_is_whole, defBody s_is_whole, defScope s_is_whole, [], []⟩
def d_is_name : He.DefD := ⟨("is_name", none), "is_name", "is_name", defArgs s_is_name, defBody s_is_name, defScope s_is_name, [], []⟩
def d_is_expression : He.DefD := ⟨("is_expression", none), "is_expression", "is_expression", defArgs s_is_expression, defBody s_is_expression, defScope s_is_expression, [.int 5], []⟩
def d_is_step : He.DefD := ⟨("is_step", none), "is_step", "is_step", defArgs s_is_step, defBody s_is_step, defScope s_is_step, [], []⟩
def d_has_form : He.DefD := ⟨("has_form", none), "has_form", "has_form", defArgs s_has_form, defBody s_has_form, defScope s_has_form, [], []⟩
def d_first_wrong : He.DefD := ⟨("first_wrong", none), "first_wrong", "first_wrong", defArgs s_first_wrong, defBody s_first_wrong, defScope s_first_wrong, [], []⟩
def d_is_program : He.DefD := ⟨("is_program", none), "is_program", "is_program", defArgs s_is_program, defBody s_is_program, defScope s_is_program, [], []⟩
def d_check : He.DefD := ⟨("check", none), "check", "check", defArgs s_check, defBody s_check, defScope s_check, [], []⟩
def d__law_cell_at : He.DefD := ⟨("_law_cell_at", none), "_law_cell_at", "_law_cell_at", defArgs s__law_cell_at, defBody s__law_cell_at, defScope s__law_cell_at, [], []⟩
def d__law_bag : He.DefD := ⟨("_law_bag", none), "_law_bag", "_law_bag", defArgs s__law_bag, defBody s__law_bag, defScope s__law_bag, [], []⟩
def d__law_draw : He.DefD := ⟨("_law_draw", none), "_law_draw", "_law_draw", defArgs s__law_draw, defBody s__law_draw, defScope s__law_draw, [], []⟩
def d__law_name : He.DefD := ⟨("_law_name", none), "_law_name", "_law_name", defArgs s__law_name, defBody s__law_name, defScope s__law_name, [], []⟩
def d__law_names : He.DefD := ⟨("_law_names", none), "_law_names", "_law_names", defArgs s__law_names, defBody s__law_names, defScope s__law_names, [], []⟩
def d__law_number : He.DefD := ⟨("_law_number", none), "_law_number", "_law_number", defArgs s__law_number, defBody s__law_number, defScope s__law_number, [], []⟩
def d__law_expression : He.DefD := ⟨("_law_expression", none), "_law_expression", "_law_expression", defArgs s__law_expression, defBody s__law_expression, defScope s__law_expression, [], []⟩
def d__law_step : He.DefD := ⟨("_law_step", none), "_law_step", "_law_step", defArgs s__law_step, defBody s__law_step, defScope s__law_step, [], []⟩
def d__law_program : He.DefD := ⟨("_law_program", none), "_law_program", "_law_program", defArgs s__law_program, defBody s__law_program, defScope s__law_program, [], []⟩
def d__law_copy : He.DefD := ⟨("_law_copy", none), "_law_copy", "_law_copy", defArgs s__law_copy, defBody s__law_copy, defScope s__law_copy, [], []⟩
def d_law : He.DefD := ⟨("law", none), "law", "law", defArgs s_law, defBody s_law, defScope s_law, [], []⟩
def fn : List He.DefD := [d_is_whole, d_is_name, d_is_expression, d_is_step, d_has_form, d_first_wrong, d_is_program, d_check, d__law_cell_at, d__law_bag, d__law_draw, d__law_name, d__law_names, d__law_number, d__law_expression, d__law_step, d__law_program, d__law_copy, d_law]
def fa : List He.Fa := [.glo "is_whole", .glo "is_name", .glo "is_expression", .glo "is_step", .glo "has_form", .glo "first_wrong", .glo "is_program", .glo "check", .glo "_law_cell_at", .glo "_law_bag", .glo "_law_draw", .glo "_law_name", .glo "_law_names", .glo "_law_number", .glo "_law_expression", .glo "_law_step", .glo "_law_program", .glo "_law_copy", .glo "law", .free "all", .free "range", .free "list", .free "sorted", .free "isinstance", .free "int", .free "len", .free "enumerate", .free "max", .free "bool", .free "str", .free "tuple", .free "min", .free "zip", .str "LETTERS" letters, .int "LONGEST_NAME" 8, .glo "PARTS"]
def ts : List He.Tab := [(fun K => He.ga K "PARTS", partK)]
def ex (K : PySem.W.Frag) : Bool := He.valsB K (He.ga K "PARTS") partV
abbrev R0 : PySem.W.OpenRow := PySem.W.OpenLaw.row PySem.Challenge.rw_forkgather_k01_right_programs
abbrev hk : PySem.W.Hook := He.hookX 5 fa fn ts [] ex
def ob (s : PySem.W.SharedT) : He.AlX := He.obsX 5 fa fn ts [] ex (HandSHeadRun.getT s)
theorem ob_eq (s : PySem.W.SharedT) : ob s = hk.obs s.abs := He.obsX_eq (HandSHeadRun.getT_eq s)
def names : List Str := ["WorkError", "NoProgram", "LETTERS", "LONGEST_NAME", "PARTS", "is_whole", "is_name", "is_expression", "is_step", "has_form", "first_wrong", "is_program", "check", "_law_cell_at", "_law_bag", "_law_draw", "_law_name", "_law_names", "_law_number", "_law_expression", "_law_step", "_law_program", "_law_copy"]
theorem run (w : World) : HandSHeadRun.RunEq R0 (PySem.W.view R0.prog [26]) hk ob 4000 names w :=
  PySem.W.byRow2 "special-get-raises" (P := fun w => HandSHeadRun.RunEq R0 (PySem.W.view R0.prog [26]) hk ob 4000 names w) (fun w os => by kernel_rfl) (fun w os => by kernel_rfl) w
theorem facts {P : Program} {w : World} {K : PySem.W.Frag} {h : Heap} {mg : Str → Option Value} {f : Addr} (X : K.In h) (G0 : h.Ns mainGlobals mg) (hfa : mg ("law" : Str) = some (.ref f)) (c0 : He.SaysX fa fn ts [] ex w h K) :
    ∃ fd : FuncData, (∀ (s : Shared) (v : Value), BindsTo s fd ⟨[v], []⟩ [("script", v)]) ∧ ∀ base : Heap, K.In base → base.Ns mainGlobals mg → FnOk P w K mg base CX0 12 f fd ["script"] (sp_law K) := by
  have c := c0.t.d
  have hd : He.dicW K (He.ga K "PARTS") = some (He.keysIn w.params partK) := (List.cons.inj (congrArg (fun z : He.AlT => z.2) c0.t)).1
  have T : Parts K w (He.ga K "PARTS") := parts_of hd c0.more
  obtain ⟨es, nn, kd⟩ := T.kd
  obtain ⟨fd_is_whole, F_is_whole⟩ : ∃ fd, FnP K "is_whole" s_is_whole [] (He.ga K "is_whole") fd := c.def_ 0 (d := d_is_whole) rfl
  obtain ⟨fd_is_name, F_is_name⟩ : ∃ fd, FnP K "is_name" s_is_name [] (He.ga K "is_name") fd := c.def_ 1 (d := d_is_name) rfl
  obtain ⟨fd_is_expression, F_is_expression⟩ : ∃ fd, FnP K "is_expression" s_is_expression [.int 5] (He.ga K "is_expression") fd := c.def_ 2 (d := d_is_expression) rfl
  obtain ⟨fd_is_step, F_is_step⟩ : ∃ fd, FnP K "is_step" s_is_step [] (He.ga K "is_step") fd := c.def_ 3 (d := d_is_step) rfl
  obtain ⟨fd_has_form, F_has_form⟩ : ∃ fd, FnP K "has_form" s_has_form [] (He.ga K "has_form") fd := c.def_ 4 (d := d_has_form) rfl
  obtain ⟨fd_first_wrong, F_first_wrong⟩ : ∃ fd, FnP K "first_wrong" s_first_wrong [] (He.ga K "first_wrong") fd := c.def_ 5 (d := d_first_wrong) rfl
  obtain ⟨fd_is_program, F_is_program⟩ : ∃ fd, FnP K "is_program" s_is_program [] (He.ga K "is_program") fd := c.def_ 6 (d := d_is_program) rfl
  obtain ⟨fd_check, F_check⟩ : ∃ fd, FnP K "check" s_check [] (He.ga K "check") fd := c.def_ 7 (d := d_check) rfl
  obtain ⟨fd__law_cell_at, F__law_cell_at⟩ : ∃ fd, FnP K "_law_cell_at" s__law_cell_at [] (He.ga K "_law_cell_at") fd := c.def_ 8 (d := d__law_cell_at) rfl
  obtain ⟨fd__law_bag, F__law_bag⟩ : ∃ fd, FnP K "_law_bag" s__law_bag [] (He.ga K "_law_bag") fd := c.def_ 9 (d := d__law_bag) rfl
  obtain ⟨fd__law_draw, F__law_draw⟩ : ∃ fd, FnP K "_law_draw" s__law_draw [] (He.ga K "_law_draw") fd := c.def_ 10 (d := d__law_draw) rfl
  obtain ⟨fd__law_name, F__law_name⟩ : ∃ fd, FnP K "_law_name" s__law_name [] (He.ga K "_law_name") fd := c.def_ 11 (d := d__law_name) rfl
  obtain ⟨fd__law_names, F__law_names⟩ : ∃ fd, FnP K "_law_names" s__law_names [] (He.ga K "_law_names") fd := c.def_ 12 (d := d__law_names) rfl
  obtain ⟨fd__law_number, F__law_number⟩ : ∃ fd, FnP K "_law_number" s__law_number [] (He.ga K "_law_number") fd := c.def_ 13 (d := d__law_number) rfl
  obtain ⟨fd__law_expression, F__law_expression⟩ : ∃ fd, FnP K "_law_expression" s__law_expression [] (He.ga K "_law_expression") fd := c.def_ 14 (d := d__law_expression) rfl
  obtain ⟨fd__law_step, F__law_step⟩ : ∃ fd, FnP K "_law_step" s__law_step [] (He.ga K "_law_step") fd := c.def_ 15 (d := d__law_step) rfl
  obtain ⟨fd__law_program, F__law_program⟩ : ∃ fd, FnP K "_law_program" s__law_program [] (He.ga K "_law_program") fd := c.def_ 16 (d := d__law_program) rfl
  obtain ⟨fd__law_copy, F__law_copy⟩ : ∃ fd, FnP K "_law_copy" s__law_copy [] (He.ga K "_law_copy") fd := c.def_ 17 (d := d__law_copy) rfl
  obtain ⟨fd_law, F_law⟩ : ∃ fd, FnP K "law" s_law [] (He.ga K "law") fd := c.def_ 18 (d := d_law) rfl
  have G : Gm w K mg (He.ga K "PARTS") es nn := ⟨He.free_ok X G0 (c.fact 19 (f := .free "all") rfl), He.free_ok X G0 (c.fact 20 (f := .free "range") rfl), He.free_ok X G0 (c.fact 21 (f := .free "list") rfl), He.free_ok X G0 (c.fact 22 (f := .free "sorted") rfl), He.free_ok X G0 (c.fact 23 (f := .free "isinstance") rfl), He.free_ok X G0 (c.fact 24 (f := .free "int") rfl), He.free_ok X G0 (c.fact 25 (f := .free "len") rfl), He.free_ok X G0 (c.fact 26 (f := .free "enumerate") rfl), He.free_ok X G0 (c.fact 27 (f := .free "max") rfl), He.free_ok X G0 (c.fact 28 (f := .free "bool") rfl), He.free_ok X G0 (c.fact 29 (f := .free "str") rfl), He.free_ok X G0 (c.fact 30 (f := .free "tuple") rfl), He.free_ok X G0 (c.fact 31 (f := .free "min") rfl), He.free_ok X G0 (c.fact 32 (f := .free "zip") rfl), (let ⟨t, e⟩ := He.str_ok X G0 (c.fact 33 (f := .str "LETTERS" letters) rfl); ⟨_, e, t, rfl⟩), (let ⟨t, e⟩ := He.int_ok X G0 (c.fact 34 (f := .int "LONGEST_NAME" 8) rfl); ⟨_, e, t, rfl⟩), ⟨_, He.glo_ok X G0 (c.fact 35 (f := .glo "PARTS") rfl), rfl⟩, kd⟩
  have g_is_whole := He.glo_ok X G0 (c.fact 0 (f := .glo "is_whole") rfl)
  have g_is_name := He.glo_ok X G0 (c.fact 1 (f := .glo "is_name") rfl)
  have g_is_expression := He.glo_ok X G0 (c.fact 2 (f := .glo "is_expression") rfl)
  have g_is_step := He.glo_ok X G0 (c.fact 3 (f := .glo "is_step") rfl)
  have g_has_form := He.glo_ok X G0 (c.fact 4 (f := .glo "has_form") rfl)
  have g_first_wrong := He.glo_ok X G0 (c.fact 5 (f := .glo "first_wrong") rfl)
  have g_is_program := He.glo_ok X G0 (c.fact 6 (f := .glo "is_program") rfl)
  have g_check := He.glo_ok X G0 (c.fact 7 (f := .glo "check") rfl)
  have g__law_cell_at := He.glo_ok X G0 (c.fact 8 (f := .glo "_law_cell_at") rfl)
  have g__law_bag := He.glo_ok X G0 (c.fact 9 (f := .glo "_law_bag") rfl)
  have g__law_draw := He.glo_ok X G0 (c.fact 10 (f := .glo "_law_draw") rfl)
  have g__law_name := He.glo_ok X G0 (c.fact 11 (f := .glo "_law_name") rfl)
  have g__law_names := He.glo_ok X G0 (c.fact 12 (f := .glo "_law_names") rfl)
  have g__law_number := He.glo_ok X G0 (c.fact 13 (f := .glo "_law_number") rfl)
  have g__law_expression := He.glo_ok X G0 (c.fact 14 (f := .glo "_law_expression") rfl)
  have g__law_step := He.glo_ok X G0 (c.fact 15 (f := .glo "_law_step") rfl)
  have g__law_program := He.glo_ok X G0 (c.fact 16 (f := .glo "_law_program") rfl)
  have g__law_copy := He.glo_ok X G0 (c.fact 17 (f := .glo "_law_copy") rfl)
  have g_law := He.glo_ok X G0 (c.fact 18 (f := .glo "law") rfl)
  have e := hfa.symm.trans g_law
  cases e
  have b := FunD.bindsA (ps := ["script"]) F_law fun _ _ _ _ _ _ us hl => match us, hl with | [_], _ => rfl
  refine ⟨fd_law, fun s v => b s [v] rfl, fun base _ _ => ?_⟩
  have o_is_whole := ok_is_whole (P := P) (base := base) F_is_whole G 
  have c_is_whole := F_is_whole.cal o_is_whole g_is_whole fun _ _ _ _ _ _ us hl => match us, hl with | [_], _ => rfl
  have o_is_name := ok_is_name (P := P) (base := base) F_is_name G 
  have c_is_name := F_is_name.cal o_is_name g_is_name fun _ _ _ _ _ _ us hl => match us, hl with | [_], _ => rfl
  have o_is_expression := ok_is_expression (P := P) (base := base) F_is_expression G T g_is_expression c_is_whole 6
  have c_is_expression_d := FnP.cald 1 0 F_is_expression o_is_expression g_is_expression (by simp) rfl fun _ _ _ _ _ _ _ us its h1 h2 => match us, its, h1, h2 with | [_], [_], _, _ => ⟨_, rfl, rfl⟩
  have o_is_step := ok_is_step (P := P) (base := base) F_is_step G c_is_expression_d c_is_whole c_is_name
  have c_is_step := F_is_step.cal o_is_step g_is_step fun _ _ _ _ _ _ us hl => match us, hl with | [_, _, _], _ => rfl
  have o_has_form := ok_has_form (P := P) (base := base) F_has_form G c_is_name
  have c_has_form := F_has_form.cal o_has_form g_has_form fun _ _ _ _ _ _ us hl => match us, hl with | [_], _ => rfl
  have o_first_wrong := ok_first_wrong (P := P) (base := base) F_first_wrong G c_has_form c_is_step
  have c_first_wrong := F_first_wrong.cal o_first_wrong g_first_wrong fun _ _ _ _ _ _ us hl => match us, hl with | [_], _ => rfl
  have o_is_program := ok_is_program (P := P) (base := base) F_is_program G c_first_wrong
  have c_is_program := F_is_program.cal o_is_program g_is_program fun _ _ _ _ _ _ us hl => match us, hl with | [_], _ => rfl
  have o_check := ok_check (P := P) (base := base) F_check G c_first_wrong
  have c_check := F_check.cal o_check g_check fun _ _ _ _ _ _ us hl => match us, hl with | [_], _ => rfl
  have k_check_program := F_check.calk o_check g_check fun _ _ _ _ _ _ us hl => match us, hl with | [_], _ => rfl
  have o__law_cell_at := ok__law_cell_at (P := P) (base := base) F__law_cell_at G 
  have c__law_cell_at := F__law_cell_at.cal o__law_cell_at g__law_cell_at fun _ _ _ _ _ _ us hl => match us, hl with | [_, _], _ => rfl
  have o__law_bag := ok__law_bag (P := P) (base := base) F__law_bag G 
  have c__law_bag := F__law_bag.cal o__law_bag g__law_bag fun _ _ _ _ _ _ us hl => match us, hl with | [_, _], _ => rfl
  have o__law_draw := ok__law_draw (P := P) (base := base) F__law_draw G 
  have c__law_draw := F__law_draw.cal o__law_draw g__law_draw fun _ _ _ _ _ _ us hl => match us, hl with | [_, _], _ => rfl
  have o__law_name := ok__law_name (P := P) (base := base) F__law_name G c__law_draw
  have c__law_name := F__law_name.cal o__law_name g__law_name fun _ _ _ _ _ _ us hl => match us, hl with | [_, _], _ => rfl
  have o__law_names := ok__law_names (P := P) (base := base) F__law_names G c__law_name
  have c__law_names := F__law_names.cal o__law_names g__law_names fun _ _ _ _ _ _ us hl => match us, hl with | [_, _], _ => rfl
  have o__law_number := ok__law_number (P := P) (base := base) F__law_number G c__law_draw
  have c__law_number := F__law_number.cal o__law_number g__law_number fun _ _ _ _ _ _ us hl => match us, hl with | [_], _ => rfl
  have o__law_expression := ok__law_expression (P := P) (base := base) F__law_expression G g__law_expression c__law_draw c__law_number 6
  have c__law_expression := F__law_expression.cal o__law_expression g__law_expression fun _ _ _ _ _ _ us hl => match us, hl with | [_, _], _ => rfl
  have o__law_step := ok__law_step (P := P) (base := base) F__law_step G c__law_draw c__law_expression c__law_name
  have c__law_step := F__law_step.cal o__law_step g__law_step fun _ _ _ _ _ _ us hl => match us, hl with | [_, _, _, _], _ => rfl
  have o__law_program := ok__law_program (P := P) (base := base) F__law_program G c__law_draw c__law_names c__law_step
  have c__law_program := F__law_program.cal o__law_program g__law_program fun _ _ _ _ _ _ us hl => match us, hl with | [_], _ => rfl
  have o__law_copy := ok__law_copy (P := P) (base := base) F__law_copy G 
  have c__law_copy := F__law_copy.cal o__law_copy g__law_copy fun _ _ _ _ _ _ us hl => match us, hl with | [_], _ => rfl
  exact ok_law (P := P) (base := base) F_law G c__law_cell_at c__law_bag c__law_program c__law_copy c_is_program c_check k_check_program
end Fg
open PySem PySem.W PySem.Calls PyProof.Rows
set_option maxRecDepth 100000 in
set_option maxHeartbeats 0 in
theorem PySem.Challenge.cw_forkgather_k01_right_programs_holds : PySem.Challenge.rw_forkgather_k01_right_programs.Holds := by
  w_on; o_law
  refine HandSHeadRun.head_any (r := OpenLaw.row PySem.Challenge.rw_forkgather_k01_right_programs) (q := view (OpenLaw.row PySem.Challenge.rw_forkgather_k01_right_programs).prog [26]) (H := Fg.hk) (ob := Fg.ob) (M := 4000) (loose := Fg.names) (d := HandSHeadRun.topDef (OpenLaw.row PySem.Challenge.rw_forkgather_k01_right_programs).prog 26) (kwd := []) Fg.ob_eq
    (by kernel_rfl) (fun s => by kernel_rfl) Fg.run (by kernel_rfl) (by kernel_rfl) (by kernel_rfl) (by rfl) (by first | assumption | decide +kernel) (by decide +kernel) ⟨rfl, rfl, rfl, rfl, rfl, by decide +kernel⟩ ?hw ?hc
  case hw => w_witness2
  case hc =>
    refine L2.walk_ofE (l := PySem.Challenge.rw_forkgather_k01_right_programs) (n := 63) (k := 12) (x := "script") (CX := L2.CX0) rfl (by decide) (by kernel_rfl) ⟨rfl, by decide, by decide⟩ ?F (fun _ _ _ _ z => z)
    intro w mg fa h Y G hmg0
    obtain ⟨K, KX, c⟩ := Y
    have hmg : mg ("law" : PySem.Str) = some (.ref fa) := by
      have e : (HandSHeadRun.topDef (OpenLaw.row PySem.Challenge.rw_forkgather_k01_right_programs).prog 26).name = ("law" : PySem.Str) := by kernel_rfl
      rw [← e]
      exact hmg0
    obtain ⟨fd, hb, hF⟩ := Fg.facts (P := (PySem.Challenge.rw_forkgather_k01_right_programs).prog) (w := w) KX G hmg c
    exact ⟨K, fd, Fg.sp_law K, KX, hb, fun H a ns hl _ hS => ⟨a, ns, rfl, hS, hl, fun _ => rfl⟩, hF⟩
