import PyProof.Rows.All
import Wide.All
import OpenK.AllK
import Wide.FinOn
import KE.KStateDown
import Lean
import HandS.ForMost
import HandS.Defaults
import HandS.IsInst
import HandS.More
import HandS.Codes
import HandS.TupLe
import HandS.TupAny
import HandS.Conv
import HandS.Wide
import HandS.Walk
import KE.DataEq
import HandS.Head0
import HandS.Head1
import HandS.Head2
import HandS.HeadEnd
import HandS.HeadHook1
import HandS.HeadHook2
import HandS.HeadHook3
import HandS.HeadHook4
import HandS.Exc
import HandS.ExcField
import HandS.ExcIs
import HandS.ExcInit
import HandS.ExcValue
import HandS.TryOnly
import KE.KExcIs
import HandS.CallSlots
import HandS.ExcOwn
import HandS.Lambda
import PyProof.FactsAll.dict_1
import PyProof.FactsAll.subtypes_3
import PyProof.FactsAll.subtypes_4
import HandS.SetKeys
import HandS.SetFor
import HandS.Strs
import HandS.SortInts
import HandS.Flow
import HandS.Style
import HandS.SortRule
import KE.IntBitsLaws
import HandS.OwnEq
import PyProof.InstSpecial
import PySem.Challenge.RW_forkgather_k13_long_and_deep
set_option Elab.async false
set_option linter.all false
set_option maxRecDepth 100000
set_option maxHeartbeats 4000000
namespace Fg
open PySem PySem.Spec PyProof.Rows L2

/-! ### heaps: what may have changed -/
structure Chg (M : List Addr) (H H' : Hp) : Prop where
  keep : ∀ a o, H a = some o → a ∉ M → H' a = some o
  dom : ∀ a, H' a = none → H a = none
  tup : ∀ a xs, H a = some (.tup xs) → H' a = some (.tup xs)

theorem Chg.refl {M : List Addr} {H : Hp} : Chg M H H := ⟨fun _ _ h _ => h, fun _ h => h, fun _ _ h => h⟩
theorem Chg.new {H : Hp} {p : Addr} {o : HO} (n : H p = none) : Chg [] H (upd H p o) where
  keep := fun a u h _ => by rw [upd_ne (ne_of_none h n)]; exact h
  dom := fun a h => by
    by_cases e : a = p
    · subst e; exact n
    · rw [upd_ne e] at h; exact h
  tup := fun a xs h => by rw [upd_ne (ne_of_none h n)]; exact h
theorem Chg.mut {H : Hp} {p : Addr} {o u : HO} (h : H p = some u) (hm : ∀ xs, u ≠ .tup xs) : Chg [p] H (upd H p o) where
  keep := fun a v e hn => by rw [upd_ne (fun z => hn (by rw [z]; exact List.mem_singleton.mpr rfl))]; exact e
  dom := fun a e => by
    by_cases z : a = p
    · subst z; rw [upd_same] at e; cases e
    · rw [upd_ne z] at e; exact e
  tup := fun a xs e => by
    rw [upd_ne (fun z => by subst z; rw [h] at e; exact hm xs (Option.some.inj e))]; exact e
/-- then c', whose changed ones are changed ones of c or new ones -/
theorem Chg.go {M M' : List Addr} {H H1 H2 : Hp} (c : Chg M H H1) (c' : Chg M' H1 H2) (h : ∀ a ∈ M', a ∈ M ∨ H a = none) : Chg M H H2 where
  keep := fun a o e hn => c'.keep a o (c.keep a o e hn) (fun hm => (h a hm).elim hn fun z => by rw [z] at e; cases e)
  dom := fun a e => c.dom a (c'.dom a e)
  tup := fun a xs e => c'.tup a xs (c.tup a xs e)
theorem Chg.same {M : List Addr} {H H1 H2 : Hp} (c : Chg M H H1) (c' : Chg [] H1 H2) : Chg M H H2 := c.go c' fun a h => absurd h (by simp)
theorem Chg.pre {M : List Addr} {H H1 H2 : Hp} (c : Chg [] H H1) (c' : Chg M H1 H2) : Chg M H H2 :=
  ⟨fun a o e hn => c'.keep a o (c.keep a o e (by simp)) hn, fun a e => c.dom a (c'.dom a e), fun a xs e => c'.tup a xs (c.tup a xs e)⟩
theorem Chg.both {M : List Addr} {H H1 H2 : Hp} (c : Chg M H H1) (c' : Chg M H1 H2) : Chg M H H2 := c.go c' fun a h => .inl h
theorem Chg.wide {M M' : List Addr} {H H1 : Hp} (c : Chg M H H1) (h : ∀ a ∈ M, a ∈ M') : Chg M' H H1 := ⟨fun a o e hn => c.keep a o e fun z => hn (h a z), c.dom, c.tup⟩
theorem Chg.one {H H1 H2 : Hp} {p : Addr} (c : Chg [] H H1) (c' : Chg [p] H1 H2) (n : H p = none) : Chg [] H H2 :=
  c.go c' fun a h => .inr (by rw [List.mem_singleton.mp h]; exact n)
theorem Chg.at {H H' : Hp} {a : Addr} {o : HO} (c : Chg [] H H') (h : H a = some o) : H' a = some o := c.keep a o h (by simp)
theorem Chg.ne {M : List Addr} {H H' : Hp} {a b : Addr} {o : HO} (c : Chg M H H') (h : H a = some o) (n : H' b = none) : a ≠ b := fun e => by
  have z := c.dom b n
  rw [← e, h] at z; cases z
theorem Chg.at1 {H H' : Hp} {a b : Addr} {o : HO} (c : Chg [b] H H') (h : H a = some o) (n : a ≠ b) : H' a = some o := c.keep a o h (by simpa using n)
theorem Chg.seq {K : PySem.W.Frag} {H H' : Hp} {a : Addr} {xs : List V} (c : Chg [] H H') (h : SqL K H a xs) : SqL K H' a xs := by
  rcases h with (h | ⟨o, h⟩) | h
  · exact .inl (.inl (c.at h))
  · exact .inl (.inr ⟨o, c.at h⟩)
  · exact .inr h
theorem sqL {K : PySem.W.Frag} {H : Hp} {a : Addr} {xs : List V} (h : H a = some (.lst xs)) : SqL K H a xs := .inl (.inl h)
theorem sqT {K : PySem.W.Frag} {H : Hp} {a : Addr} {xs : List V} (h : H a = some (.tup xs)) : SqT K H a xs := .inl (.inl h)

/-! ### data: the lists' addresses are in S -/
mutual
inductive R (S : Addr → Prop) (H : Hp) : V → PyData → Prop
  | non : R S H .non .none
  | bl (b : Bool) : R S H (.bl b) (.bool b)
  | int (i : Int) : R S H (.int i) (.int i)
  | str (x : Str) : R S H (.str x) (.str x)
  | lst {a : Addr} {xs : List V} {ds : List PyData} : S a → H a = some (.lst xs) → RA S H xs ds → R S H (.ref a) (.list ds)
  | tup {a : Addr} {xs : List V} {ds : List PyData} : H a = some (.tup xs) → RA S H xs ds → R S H (.ref a) (.tuple ds)
  | dic {a : Addr} {kvs : List (Key × V)} : S a → H a = some (.dK kvs) → R S H (.ref a) (.dict [])
inductive RA (S : Addr → Prop) (H : Hp) : List V → List PyData → Prop
  | nil : RA S H [] []
  | cons {v : V} {vs : List V} {d : PyData} {ds : List PyData} : R S H v d → RA S H vs ds → RA S H (v :: vs) (d :: ds)
end
mutual
theorem R.imp {S S' : Addr → Prop} {H H' : Hp} (hl : ∀ a xs, S a → H a = some (.lst xs) → S' a ∧ H' a = some (.lst xs)) (hd : ∀ a xs, S a → H a = some (.dK xs) → S' a ∧ H' a = some (.dK xs))
    (ht : ∀ a xs, H a = some (.tup xs) → H' a = some (.tup xs)) : ∀ {d : PyData} {v : V}, R S H v d → R S' H' v d
  | .none, _, h => by cases h; exact .non
  | .bool _, _, h => by cases h; exact .bl _
  | .int _, _, h => by cases h; exact .int _
  | .str _, _, h => by cases h; exact .str _
  | .list ds, _, h => by
    cases h with
    | lst s e r => exact .lst (hl _ _ s e).1 (hl _ _ s e).2 (RA.imp hl hd ht r)
  | .tuple ds, _, h => by
    cases h with
    | tup e r => exact .tup (ht _ _ e) (RA.imp hl hd ht r)
  | .dict _, _, h => by
    cases h with
    | dic s e => exact .dic (hd _ _ s e).1 (hd _ _ s e).2
theorem RA.imp {S S' : Addr → Prop} {H H' : Hp} (hl : ∀ a xs, S a → H a = some (.lst xs) → S' a ∧ H' a = some (.lst xs)) (hd : ∀ a xs, S a → H a = some (.dK xs) → S' a ∧ H' a = some (.dK xs))
    (ht : ∀ a xs, H a = some (.tup xs) → H' a = some (.tup xs)) : ∀ {ds : List PyData} {vs : List V}, RA S H vs ds → RA S' H' vs ds
  | [], _, h => by cases h; exact .nil
  | d :: ds, _, h => by
    cases h with
    | cons a b => exact .cons (R.imp hl hd ht a) (RA.imp hl hd ht b)
end
theorem R.keep {S : Addr → Prop} {M : List Addr} {H H' : Hp} {v : V} {d : PyData} (c : Chg M H H') (h : ∀ a, S a → a ∉ M) (r : R S H v d) : R S H' v d :=
  R.imp (fun a xs s e => ⟨s, c.keep a _ e (h a s)⟩) (fun a xs s e => ⟨s, c.keep a _ e (h a s)⟩) c.tup r
theorem RA.keep {S : Addr → Prop} {M : List Addr} {H H' : Hp} {v : List V} {d : List PyData} (c : Chg M H H') (h : ∀ a, S a → a ∉ M) (r : RA S H v d) : RA S H' v d :=
  RA.imp (fun a xs s e => ⟨s, c.keep a _ e (h a s)⟩) (fun a xs s e => ⟨s, c.keep a _ e (h a s)⟩) c.tup r
theorem R.mono {S S' : Addr → Prop} {H : Hp} {v : V} {d : PyData} (h : ∀ a, S a → S' a) (r : R S H v d) : R S' H v d :=
  R.imp (fun a xs s e => ⟨h a s, e⟩) (fun a xs s e => ⟨h a s, e⟩) (fun _ _ e => e) r
theorem RA.mono {S S' : Addr → Prop} {H : Hp} {v : List V} {d : List PyData} (h : ∀ a, S a → S' a) (r : RA S H v d) : RA S' H v d :=
  RA.imp (fun a xs s e => ⟨h a s, e⟩) (fun a xs s e => ⟨h a s, e⟩) (fun _ _ e => e) r
/-- all that stands in H stands in H' -/
theorem R.same {S : Addr → Prop} {H H' : Hp} {v : V} {d : PyData} (c : Chg [] H H') (r : R S H v d) : R S H' v d := r.keep c fun _ _ => by simp
theorem RA.same {S : Addr → Prop} {H H' : Hp} {v : List V} {d : List PyData} (c : Chg [] H H') (r : RA S H v d) : RA S H' v d := r.keep c fun _ _ => by simp
/-- data without lists -/
abbrev Im : Hp → V → PyData → Prop := R (fun _ => False)
abbrev ImA : Hp → List V → List PyData → Prop := RA (fun _ => False)
theorem R.im {M : List Addr} {H H' : Hp} {v : V} {d : PyData} (c : Chg M H H') (r : Im H v d) : Im H' v d := R.keep c (fun _ z => z.elim) r
theorem RA.im {M : List Addr} {H H' : Hp} {v : List V} {d : List PyData} (c : Chg M H H') (r : ImA H v d) : ImA H' v d := RA.keep c (fun _ z => z.elim) r
theorem R.any {S : Addr → Prop} {H : Hp} {v : V} {d : PyData} (r : Im H v d) : R S H v d := r.mono fun _ z => z.elim
theorem RA.any {S : Addr → Prop} {H : Hp} {v : List V} {d : List PyData} (r : ImA H v d) : RA S H v d := r.mono fun _ z => z.elim
theorem RA.length {S : Addr → Prop} {H : Hp} : ∀ {vs : List V} {ds : List PyData}, RA S H vs ds → vs.length = ds.length
  | _, _, .nil => rfl
  | _, _, .cons _ r => by rw [List.length_cons, List.length_cons, r.length]
theorem RA.get {S : Addr → Prop} {H : Hp} : ∀ {vs : List V} {ds : List PyData} {i : Nat} {v : V}, RA S H vs ds → vs[i]? = some v → ∃ d, ds[i]? = some d ∧ R S H v d
  | _, _, _, _, .nil, h => by simp at h
  | _, _, 0, _, .cons a r, h => ⟨_, rfl, by cases (Option.some.inj (show some _ = some _ from h)); exact a⟩
  | _, _, i + 1, _, .cons a r, h => RA.get (i := i) r h
theorem RA.get' {S : Addr → Prop} {H : Hp} : ∀ {vs : List V} {ds : List PyData} {i : Nat} {d : PyData}, RA S H vs ds → ds[i]? = some d → ∃ v, vs[i]? = some v ∧ R S H v d
  | _, _, _, _, .nil, h => by simp at h
  | _, _, 0, _, .cons a r, h => ⟨_, rfl, by cases (Option.some.inj (show some _ = some _ from h)); exact a⟩
  | _, _, i + 1, _, .cons a r, h => RA.get' (i := i) r h
theorem RA.snoc {S : Addr → Prop} {H : Hp} : ∀ {vs : List V} {ds : List PyData} {v : V} {d : PyData}, RA S H vs ds → R S H v d → RA S H (vs ++ [v]) (ds ++ [d])
  | _, _, _, _, .nil, h => .cons h .nil
  | _, _, _, _, .cons a r, h => .cons a (r.snoc h)
theorem RA.append {S : Addr → Prop} {H : Hp} : ∀ {vs ws : List V} {ds es : List PyData}, RA S H vs ds → RA S H ws es → RA S H (vs ++ ws) (ds ++ es)
  | _, _, _, _, .nil, h => h
  | _, _, _, _, .cons a r, h => .cons a (r.append h)
theorem RA.drop {S : Addr → Prop} {H : Hp} : ∀ {vs : List V} {ds : List PyData} (n : Nat), RA S H vs ds → RA S H (vs.drop n) (ds.drop n)
  | _, _, 0, h => h
  | _, _, _ + 1, .nil => .nil
  | _, _, n + 1, .cons _ r => r.drop n
theorem RA.take {S : Addr → Prop} {H : Hp} : ∀ {vs : List V} {ds : List PyData} (n : Nat), RA S H vs ds → RA S H (vs.take n) (ds.take n)
  | _, _, 0, _ => .nil
  | _, _, _ + 1, .nil => .nil
  | _, _, n + 1, .cons a r => .cons a (r.take n)
/-- no dict in it -/
abbrev noDic : PyData → Bool := PyData.plain
abbrev noDics : List PyData → Bool := PyData.plainAll
mutual
theorem eqv_self : ∀ d : PyData, noDic d = true → PyData.eqv d d = true
  | .none, _ => rfl
  | .bool b, _ => by simp [PyData.eqv]
  | .int i, _ => by simp [PyData.eqv]
  | .str x, _ => by simp [PyData.eqv]
  | .list xs, h => by
    show PyData.eqvAll xs xs = true
    exact eqvAll_self xs h
  | .tuple xs, h => by
    show PyData.eqvAll xs xs = true
    exact eqvAll_self xs h
  | .dict _, h => by cases h
theorem eqvAll_self : ∀ ds : List PyData, noDics ds = true → PyData.eqvAll ds ds = true
  | [], _ => rfl
  | d :: ds, h => by
    obtain ⟨h1, h2⟩ := Bool.and_eq_true_iff.mp (show (noDic d && noDics ds) = true from h)
    show (PyData.eqv d d && PyData.eqvAll ds ds) = true
    rw [eqv_self d h1, eqvAll_self ds h2]
    rfl
end
mutual
theorem R.dp {K : PySem.W.Frag} {S : Addr → Prop} {H : Hp} : ∀ {d : PyData} {v : V}, R S H v d → noDic d = true → Dp K H v d
  | .none, _, h, _ => by cases h; exact .non
  | .bool _, _, h, _ => by cases h; exact .bl _
  | .int _, _, h, _ => by cases h; exact .int _
  | .str _, _, h, _ => by cases h; exact .str _
  | .list ds, _, h, z => by
    cases h with
    | lst s e r => exact .lst (sqL e) (RA.dp r z)
  | .tuple ds, _, h, z => by
    cases h with
    | tup e r => exact .tup (sqT e) (RA.dp r z)
  | .dict _, _, h, z => by cases z
theorem RA.dp {K : PySem.W.Frag} {S : Addr → Prop} {H : Hp} : ∀ {ds : List PyData} {vs : List V}, RA S H vs ds → noDics ds = true → DpAll K H vs ds
  | [], _, h, _ => by cases h; exact .nil
  | d :: ds, _, h, z => by
    obtain ⟨z1, z2⟩ := Bool.and_eq_true_iff.mp (show (noDic d && noDics ds) = true from z)
    cases h with
    | cons a b => exact .cons (R.dp a z1) (RA.dp b z2)
end
end Fg
namespace Fg
open PySem PySem.Spec PyProof.Rows L2
/-! ### readings with names, their rules, their steps -/
section
variable {X : Cx}
def oAdd : R2 := rI0 fun i j => .int (i + j)
def oSub : R2 := rI0 fun i j => .int (i - j)
def oMul : R2 := rI CMul fun i j => .int (i * j)
def oFdiv : R2 := rI CDivW fun i j => .int (i / j)
def oMod : R2 := rI (fun _ j => 0 < j) fun i j => .int (i % j)
def CPowW (i j : Int) : Prop := 0 ≤ j ∧ (Builtin.Int.intBits i : Int) * j ≤ 2 ^ 27
def oPow : R2 := rI CPowW fun i j => .int (i ^ j.toNat)
def oLt : R2 := rI0 fun i j => .bl (decide (i < j))
def oLe : R2 := rI0 fun i j => .bl (decide (i ≤ j))
def oGt : R2 := rI0 fun i j => .bl (decide (j < i))
def oGe : R2 := rI0 fun i j => .bl (decide (j ≤ i))
def oAddS : R2 := fun x y H Q => ∃ i j, x = .str i ∧ y = .str j ∧ i.length + j.length ≤ sizeLine ∧ Q (.str (i ++ j)) H
def oLtS : R2 := fun x y H Q => ∃ i j, x = .str i ∧ y = .str j ∧ Q (.bl (decide (i.cps.toList < j.cps.toList))) H
def oGeS : R2 := fun x y H Q => ∃ i j, x = .str i ∧ y = .str j ∧ Q (.bl (!decide (i.cps.toList < j.cps.toList))) H
def oInC : R2 := fun x y H Q => ∃ (c : Nat) (z : Str), x = .str ⟨#[c]⟩ ∧ y = .str z ∧ Q (.bl (decide (c ∈ z.cps.toList))) H
def oNotInC : R2 := fun x y H Q => ∃ (c : Nat) (z : Str), x = .str ⟨#[c]⟩ ∧ y = .str z ∧ Q (.bl (!decide (c ∈ z.cps.toList))) H
def oIsN : R2 := fun x y H Q => y = .non ∧ Q (.bl (decide (x = .non))) H
def oNotN : R2 := fun x y H Q => y = .non ∧ Q (.bl (!decide (x = .non))) H
def oIsB : R2 := fun x y H Q => ∃ a b, x = .bl a ∧ y = .bl b ∧ Q (.bl (decide (a = b))) H
def oNotB : R2 := fun x y H Q => ∃ a b, x = .bl a ∧ y = .bl b ∧ Q (.bl (!decide (a = b))) H
def oInKd (K : PySem.W.Frag) (d : Addr) : R2 := fun x y H Q => ∃ (z : Str) (r : Option Value), x = .str z ∧ y = .ref d ∧ PySem.W.nsIn K d z = some r ∧ Q (.bl r.isSome) H
def oNotInKd (K : PySem.W.Frag) (d : Addr) : R2 := fun x y H Q => ∃ (z : Str) (r : Option Value), x = .str z ∧ y = .ref d ∧ PySem.W.nsIn K d z = some r ∧ Q (.bl (!r.isSome)) H
def oEqD : R2 := fun x y H Q => ∃ (d e : PyData) (S S' : Addr → Prop), R S H x d ∧ R S' H y e ∧ noDic d = true ∧ noDic e = true ∧ min d.depth e.depth ≤ 60 ∧ Q (.bl (PyData.eqv d e)) H
def oNeD : R2 := fun x y H Q => ∃ (d e : PyData) (S S' : Addr → Prop), R S H x d ∧ R S' H y e ∧ noDic d = true ∧ noDic e = true ∧ min d.depth e.depth ≤ 60 ∧ Q (.bl (!PyData.eqv d e)) H
theorem p_eqD (hu : X.A.units + 64 < cLine) : OpR X (compareOp .Eq) oEqD := by
  intro pins s σ H x y v u Q I rx ry h
  obtain ⟨d, e, S, S', hd, he, sd, se, hm, q⟩ := h
  obtain ⟨as, r1⟩ := Dp.reads I d x v (hd.dp sd) rx
  obtain ⟨bs, r2⟩ := Dp.reads I e y u (he.dp se) ry
  exact SeqAt.eq_plain r1 r2 sd se (by omega) ⟨.bl _, H, I, rfl, q⟩
theorem p_neD (hu : X.A.units + 64 < cLine) : OpR X (compareOp .NotEq) oNeD := by
  intro pins s σ H x y v u Q I rx ry h
  obtain ⟨d, e, S, S', hd, he, sd, se, hm, q⟩ := h
  obtain ⟨as, r1⟩ := Dp.reads I d x v (hd.dp sd) rx
  obtain ⟨bs, r2⟩ := Dp.reads I e y u (he.dp se) ry
  exact SeqAt.ne_plain r1 r2 sd se (by omega) ⟨.bl _, H, I, rfl, q⟩
def mJoin (K : PySem.W.Frag) : V → List V → Hp → VK → Prop := fun x xs H Q => ∃ a p, ∃ ys : List Str, x = .str a ∧ xs = [.ref p] ∧ (SqL K H p (ys.map V.str) ∨ SqT K H p (ys.map V.str)) ∧ (ys.map (·.length)).sum + ys.length * a.length ≤ 16777216 ∧ Q (.str (Txt.join a ys)) H
def mSplit : V → List V → Hp → VK → Prop := fun x xs H Q => ∃ a b, x = .str a ∧ xs = [.str b] ∧ (b.length == 0) = false ∧ a.length + 2 ≤ sizeLine ∧ rNewStrs (Txt.split a b) H Q
def mPartition : V → List V → Hp → VK → Prop := fun x xs H Q => ∃ a b, x = .str a ∧ xs = [.str b] ∧ (b.length == 0) = false ∧ a.length ≤ sizeLine ∧ ∀ p, H p = none → Q (.ref p) (upd H p (.tup [.str (Txt.partition a b).1, .str (Txt.partition a b).2.1, .str (Txt.partition a b).2.2]))
theorem p_add : OpR X (binaryOp .Add) oAdd := op_add
theorem p_sub : OpR X (binaryOp .Sub) oSub := op_sub
theorem p_mul : OpR X (binaryOp .Mult) oMul := op_mul
theorem p_fdiv : OpR X (binaryOp .FloorDiv) oFdiv := op_fdivW
theorem p_mod : OpR X (binaryOp .Mod) oMod := op_mod
theorem p_pow : OpR X (binaryOp .Pow) oPow := opI fun _ _ _ _ _ _ _ hc q => pow_int hc.1 hc.2 q
theorem p_lt : OpR X (compareOp .Lt) oLt := op_lt
theorem p_le : OpR X (compareOp .LtE) oLe := op_le
theorem p_gt : OpR X (compareOp .Gt) oGt := op_gt
theorem p_ge : OpR X (compareOp .GtE) oGe := op_ge
theorem p_addS : OpR X (binaryOp .Add) oAddS := op_add_str
theorem p_ltS : OpR X (compareOp .Lt) oLtS := op_lt_str
theorem p_geS : OpR X (compareOp .GtE) oGeS := op_ge_str
theorem p_inC : OpR X (compareOp .In) oInC := op_in_sign
theorem p_notInC : OpR X (compareOp .NotIn) oNotInC := op_notIn_sign
theorem p_isN : OpR X (compareOp .Is) oIsN := op_isN
theorem p_notN : OpR X (compareOp .IsNot) oNotN := op_notN
theorem p_isB : OpR X (compareOp .Is) oIsB := op_is_bl
theorem p_notB : OpR X (compareOp .IsNot) oNotB := op_isnot_bl
def cMax : List V → Hp → VK → Prop := fun xs H Q => ∃ i j, xs = [.int i, .int j] ∧ Q (.int (if j > i then j else i)) H
def cMin : List V → Hp → VK → Prop := fun xs H Q => ∃ i j, xs = [.int i, .int j] ∧ Q (.int (if j < i then j else i)) H
def cAbs : List V → Hp → VK → Prop := fun xs H Q => ∃ i, xs = [.int i] ∧ Q (.int (if i < 0 then -i else i)) H
def cInt : List V → Hp → VK → Prop := fun xs H Q => (∃ i, xs = [.int i] ∧ Q (.int i) H) ∨ ∃ k, xs = [.bl k] ∧ Q (.int (if k then 1 else 0)) H
def cStrI : List V → Hp → VK → Prop := fun xs H Q => ∃ i, xs = [.int i] ∧ i.natAbs.log2 < 1920 ∧ Q (.str (toString i)) H
def cLenQ (K : PySem.W.Frag) : List V → Hp → VK → Prop := fun xs H Q => ∃ p ys, xs = [.ref p] ∧ (SqL K H p ys ∨ SqT K H p ys) ∧ Q (.int ys.length) H
def cLenS : List V → Hp → VK → Prop := fun xs H Q => ∃ z, xs = [.str z] ∧ z.length ≤ sizeLine ∧ Q (.int z.length) H
def cListQ (K : PySem.W.Frag) : List V → Hp → VK → Prop := fun xs H Q => ∃ p ys, xs = [.ref p] ∧ (SqL K H p ys ∨ SqT K H p ys) ∧ ∀ l, H l = none → Q (.ref l) (upd H l (.lst ys))
def cTupQ (K : PySem.W.Frag) : List V → Hp → VK → Prop := fun xs H Q => ∃ p ys, xs = [.ref p] ∧ ((SqL K H p ys ∧ ∀ l, H l = none → Q (.ref l) (upd H l (.tup ys))) ∨ (SqT K H p ys ∧ Q (.ref p) H))
def cListD : List V → Hp → VK → Prop := fun xs H Q => ∃ (a : Addr) (kvs : List (Key × V)), xs = [.ref a] ∧ Rd H a (.dK kvs) ∧ ∀ p, H p = none → Q (.ref p) (upd H p (.lst (kvs.map fun kv => kV kv.1)))
theorem p_max (hc : X.calm = true) : CallR X (.builtin "max") cMax := call_max2 hc
theorem p_min (hc : X.calm = true) : CallR X (.builtin "min") cMin := call_min2 hc
theorem p_abs : CallR X (.builtin "abs") cAbs := call_abs
theorem p_int : CallR X (.type "int") cInt := call_int1
theorem p_strI : CallR X (.type "str") cStrI := call_str_int
theorem p_lenQ : CallR X (.builtin "len") (cLenQ X.K) := call_len_seq
theorem p_lenS : CallR X (.builtin "len") cLenS := call_len_str
theorem p_listQ : CallR X (.type "list") (cListQ X.K) := call_list_of
theorem p_tupQ : CallR X (.type "tuple") (cTupQ X.K) := call_tuple_of
theorem p_listD (hc : X.calm = true) : CallR X (.type "list") cListD := call_listD hc
end
section
variable {K : PySem.W.Frag} {σ : L2.St} {H : Hp} {D : Ends} {te ta tb tc : TE} {tr : TA} {g : TG} {gs : TGs} {t u : TS} {c c' : TT} {r r' : R2} {Q : VK} {QB : Bool → Hp → Prop} {QA : List V → Hp → Prop} {QS : L2.St → Hp → Prop} {QO : Option Int → Hp → Prop} {i j : Int} {n : Nat} {v x y : V} {vs xs : List V} {p a : Addr} {z z' : Str} {b : Bool}
theorem w_seq (h : t { D with nx := u D } σ H) : tSeq t u D σ H := h
theorem w_next (h : D.nx σ H) : tNext D σ H := h
theorem w_break (h : D.bk σ H) : tBreak D σ H := h
theorem w_cont (h : D.ct σ H) : tCont D σ H := h
theorem w_drop (h : te σ H fun _ H1 => D.nx σ H1) : tDrop te D σ H := h
theorem w_ret (h : te σ H D.rt) : tRet te D σ H := h
theorem w_retN (h : D.rt .non H) : tRetN D σ H := h
theorem w_if (h : c σ H fun b H1 => if b = true then t D σ H1 else u D σ H1) : tIfS c t u D σ H := h
theorem w_asg (h : te σ H fun x H1 => g x σ H1 D.nx) : tAsg te g D σ H := h
theorem w_gName (h : QS (σ.set n (some v)) H) : gName n v σ H QS := h
theorem w_gTup (h : H a = some (.tup xs)) (hl : xs.length = n) (q : gs xs σ H QS) : gTup K n gs (.ref a) σ H QS := ⟨a, xs, rfl, sqT h, hl, q⟩
theorem w_gCons (h : g v σ H fun σ' H' => gs vs σ' H' QS) : gCons g gs (v :: vs) σ H QS := ⟨v, vs, rfl, h⟩
theorem w_gNil (h : QS σ H) : gNil [] σ H QS := ⟨rfl, h⟩
theorem w_gSub {to ti : TE} {ts : TSet} (h : to σ H fun o H1 => ti σ H1 fun i H2 => ts o i v H2 fun H3 => QS σ H3) : gSub to ti ts v σ H QS := h
theorem w_aug {ti : TIp} (h : σ[n]? = some (some x)) (q : te σ H fun y H1 => ti x y H1 fun z H2 => D.nx (σ.set n (some z)) H2) : tAug n te ti D σ H := ⟨x, h, q⟩
theorem w_ipI {f : Int → Int → Int} (q : Q (.int (f i j)) H) : ipI f (.int i) (.int j) H Q := ⟨i, j, rfl, rfl, q⟩
theorem w_var (h : σ[n]? = some (some v)) (q : Q v H) : tVar n σ H Q := ⟨v, h, q⟩
theorem w_c (q : Q v H) : tC v σ H Q := q
theorem w_op (h : ta σ H fun x H1 => tb σ H1 fun y H2 => r x y H2 Q) : tOp r ta tb σ H Q := h
theorem w_un {ru : V → Hp → VK → Prop} (h : ta σ H fun x H1 => ru x H1 Q) : tUn ru ta σ H Q := h
theorem w_neg (q : Q (.int (-i)) H) : rU (fun i => .int (-i)) (.int i) H Q := ⟨i, rfl, q⟩
theorem w_nil (q : QA [] H) : tNil σ H QA := q
theorem w_cons (h : ta σ H fun x H1 => tr σ H1 fun xs H2 => QA (x :: xs) H2) : tCons ta tr σ H QA := h
theorem w_cb {rc : List V → Hp → VK → Prop} (h : tr σ H fun vs H1 => rc vs H1 Q) : tCB rc tr σ H Q := h
theorem w_call {sp : Sp} {dvs : List V} {E : XK} (h : tr σ H fun vs H1 => sp (vs ++ dvs) H1 Q E) : tCall sp dvs E tr σ H Q := h
theorem w_test (h : te σ H fun x H' => ∃ k, x = .bl k ∧ QB k H') : tTest te σ H QB := h
theorem w_B (h : te σ H fun x H' => ∃ k, x = .bl k ∧ QB k H') : tB te σ H QB := h
theorem w_isbl {P : Bool → Prop} (q : P b) : ∃ k, V.bl b = .bl k ∧ P k := ⟨b, rfl, q⟩
theorem w_and (h : c σ H fun b H1 => if b = true then c' σ H1 QB else QB false H1) : tAnd c c' σ H QB := h
theorem w_or (h : c σ H fun b H1 => if b = true then QB true H1 else c' σ H1 QB) : tOr c c' σ H QB := h
theorem w_not (h : c σ H fun b H1 => QB (!b) H1) : tNot c σ H QB := h
theorem w_andV (h : ta σ H fun x H1 => ∃ c, x = .bl c ∧ if c = true then tb σ H1 Q else Q (.bl false) H1) : tAndV ta tb σ H Q := h
theorem w_orV (h : ta σ H fun x H1 => ∃ c, x = .bl c ∧ if c = true then Q (.bl true) H1 else tb σ H1 Q) : tOrV ta tb σ H Q := h
theorem w_notV (h : ta σ H fun x H1 => ∃ c, x = .bl c ∧ Q (.bl (!c)) H1) : tNotV ta σ H Q := h
theorem w_ifE (h : c σ H fun b H1 => if b = true then ta σ H1 Q else tb σ H1 Q) : tIf c ta tb σ H Q := h
theorem w_chain (h : ta σ H fun x H1 => tb σ H1 fun y H2 => r x y H2 fun z H3 => ∃ k, z = .bl k ∧ (if k = true then tc σ H3 fun w' H4 => r' y w' H4 Q else Q (.bl false) H3)) : tChain r r' ta tb tc σ H Q := h
theorem w_tup (h : tr σ H fun xs H1 => xs.length ≤ sizeLine ∧ ∀ p H2, H1 p = none → Chg [] H1 H2 → H2 p = some (.tup xs) → Q (.ref p) H2) (hm : ∀ {P P' : List V → Hp → Prop}, (∀ v H, P v H → P' v H) → tr σ H P → tr σ H P') : tTup tr σ H Q :=
  hm (fun xs H1 ⟨h1, h2⟩ => ⟨h1, fun p np => h2 p _ np (.new np) upd_same⟩) h
/-- the last part of a display -/
def KTup (Q : VK) : List V → Hp → Prop := fun xs H1 => xs.length ≤ sizeLine ∧ ∀ p, H1 p = none → Q (.ref p) (upd H1 p (.tup xs))
def KLst (Q : VK) : List V → Hp → Prop := fun xs H1 => xs.length ≤ sizeLine ∧ ∀ p, H1 p = none → Q (.ref p) (upd H1 p (.lst xs))
theorem w_tup1 (h : tr σ H (KTup Q)) : tTup tr σ H Q := h
theorem w_lst1 (h : tr σ H (KLst Q)) : tLst tr σ H Q := h
theorem k_tup {H1 : Hp} (hl : xs.length ≤ sizeLine) (h : ∀ p H2, H1 p = none → Chg [] H1 H2 → H2 p = some (.tup xs) → Q (.ref p) H2) : KTup Q xs H1 := ⟨hl, fun p np => h p _ np (.new np) upd_same⟩
theorem k_lst {H1 : Hp} (hl : xs.length ≤ sizeLine) (h : ∀ p H2, H1 p = none → Chg [] H1 H2 → H2 p = some (.lst xs) → Q (.ref p) H2) : KLst Q xs H1 := ⟨hl, fun p np => h p _ np (.new np) upd_same⟩
/-- a new object -/
theorem d_new {H1 : Hp} {o : HO} (h : ∀ p H2, H1 p = none → Chg [] H1 H2 → H2 p = some o → Q (.ref p) H2) : ∀ p, H1 p = none → Q (.ref p) (upd H1 p o) := fun p np => h p _ np (.new np) upd_same
theorem w_add (q : Q (.int (i + j)) H) : oAdd (.int i) (.int j) H Q := ⟨i, j, rfl, rfl, q⟩
theorem w_sub (q : Q (.int (i - j)) H) : oSub (.int i) (.int j) H Q := ⟨i, j, rfl, rfl, q⟩
theorem w_mul (h : CMul i j) (q : Q (.int (i * j)) H) : oMul (.int i) (.int j) H Q := ⟨i, j, rfl, rfl, h, q⟩
theorem w_fdiv (h : CDivW i j) (q : Q (.int (i / j)) H) : oFdiv (.int i) (.int j) H Q := ⟨i, j, rfl, rfl, h, q⟩
theorem w_mod (h : 0 < j) (q : Q (.int (i % j)) H) : oMod (.int i) (.int j) H Q := ⟨i, j, rfl, rfl, h, q⟩
theorem w_pow (h : CPowW i j) (q : Q (.int (i ^ j.toNat)) H) : oPow (.int i) (.int j) H Q := ⟨i, j, rfl, rfl, h, q⟩
theorem w_lt (q : Q (.bl (decide (i < j))) H) : oLt (.int i) (.int j) H Q := ⟨i, j, rfl, rfl, q⟩
theorem w_le (q : Q (.bl (decide (i ≤ j))) H) : oLe (.int i) (.int j) H Q := ⟨i, j, rfl, rfl, q⟩
theorem w_gt (q : Q (.bl (decide (j < i))) H) : oGt (.int i) (.int j) H Q := ⟨i, j, rfl, rfl, q⟩
theorem w_ge (q : Q (.bl (decide (j ≤ i))) H) : oGe (.int i) (.int j) H Q := ⟨i, j, rfl, rfl, q⟩
theorem w_addS (h : z.length + z'.length ≤ sizeLine) (q : Q (.str (z ++ z')) H) : oAddS (.str z) (.str z') H Q := ⟨z, z', rfl, rfl, h, q⟩
theorem w_ltS (q : Q (.bl (decide (z.cps.toList < z'.cps.toList))) H) : oLtS (.str z) (.str z') H Q := ⟨z, z', rfl, rfl, q⟩
theorem w_geS (q : Q (.bl (!decide (z.cps.toList < z'.cps.toList))) H) : oGeS (.str z) (.str z') H Q := ⟨z, z', rfl, rfl, q⟩
theorem w_inC {c : Nat} (q : Q (.bl (decide (c ∈ z.cps.toList))) H) : oInC (.str ⟨#[c]⟩) (.str z) H Q := ⟨c, z, rfl, rfl, q⟩
theorem w_notInC {c : Nat} (q : Q (.bl (!decide (c ∈ z.cps.toList))) H) : oNotInC (.str ⟨#[c]⟩) (.str z) H Q := ⟨c, z, rfl, rfl, q⟩
theorem w_isN (q : Q (.bl (decide (x = .non))) H) : oIsN x .non H Q := ⟨rfl, q⟩
theorem w_notN (q : Q (.bl (!decide (x = .non))) H) : oNotN x .non H Q := ⟨rfl, q⟩
theorem w_isB {b' : Bool} (q : Q (.bl (decide (b = b'))) H) : oIsB (.bl b) (.bl b') H Q := ⟨b, b', rfl, rfl, q⟩
theorem w_notB {b' : Bool} (q : Q (.bl (!decide (b = b'))) H) : oNotB (.bl b) (.bl b') H Q := ⟨b, b', rfl, rfl, q⟩
theorem w_eq (h : scal x y = true) (q : Q (.bl (decide (x = y))) H) : rEq x y H Q := ⟨h, q⟩
theorem w_ne (h : scal x y = true) (q : Q (.bl (!decide (x = y))) H) : rNe x y H Q := ⟨h, q⟩
theorem w_eqD {d e : PyData} {S S' : Addr → Prop} (hd : R S H x d) (he : R S' H y e) (sd : noDic d = true) (se : noDic e = true) (hm : min d.depth e.depth ≤ 60) (q : Q (.bl (PyData.eqv d e)) H) : oEqD x y H Q := ⟨d, e, S, S', hd, he, sd, se, hm, q⟩
theorem w_neD {d e : PyData} {S S' : Addr → Prop} (hd : R S H x d) (he : R S' H y e) (sd : noDic d = true) (se : noDic e = true) (hm : min d.depth e.depth ≤ 60) (q : Q (.bl (!PyData.eqv d e)) H) : oNeD x y H Q := ⟨d, e, S, S', hd, he, sd, se, hm, q⟩
theorem w_m1 {rm : V → List V → Hp → VK → Prop} (h : ta σ H fun x H1 => (∃ a, x = .str a) ∧ tb σ H1 fun y H2 => rm x [y] H2 Q) : tM1 rm ta tb σ H Q := h
theorem w_isstr {P : Prop} (q : P) : (∃ a, V.str z = .str a) ∧ P := ⟨⟨z, rfl⟩, q⟩
theorem w_join {ys : List Str} (h : SqL K H p (ys.map V.str)) (hs : (ys.map (·.length)).sum + ys.length * z.length ≤ 16777216) (q : Q (.str (Txt.join z ys)) H) : mJoin K (.str z) [.ref p] H Q := ⟨z, p, ys, rfl, rfl, .inl h, hs, q⟩
theorem w_ixL (h : SqL K H p xs) (ha : atI xs i = some v) (q : Q v H) : rIxL K (.ref p) (.int i) H Q := ⟨p, xs, i, v, rfl, rfl, h, ha, q⟩
theorem w_ixT (h : H p = some (.tup xs)) (ha : atI xs i = some v) (q : Q v H) : rIxT K (.ref p) (.int i) H Q := ⟨p, xs, i, v, rfl, rfl, sqT h, ha, q⟩
theorem w_ixS {c : Nat} (h : z.length ≤ sizeLine) (ha : atI z.cps.toList i = some c) (q : Q (.str ⟨#[c]⟩) H) : rIxS (.str z) (.int i) H Q := ⟨z, i, c, rfl, rfl, h, ha, q⟩
theorem w_setL {k : Nat} {P : Hp → Prop} (h : H p = some (.lst xs)) (ha : ixN xs.length i = some k) (q : ∀ H', Chg [p] H H' → H' p = some (.lst (xs.set k v)) → P H') : rSetL (.ref p) (.int i) v H P :=
  ⟨p, xs, i, k, rfl, rfl, h, ha, q _ (.mut h fun _ z => nomatch z) upd_same⟩
theorem w_max (q : Q (.int (if j > i then j else i)) H) : cMax [.int i, .int j] H Q := ⟨i, j, rfl, q⟩
theorem w_min (q : Q (.int (if j < i then j else i)) H) : cMin [.int i, .int j] H Q := ⟨i, j, rfl, q⟩
theorem w_abs (q : Q (.int (if i < 0 then -i else i)) H) : cAbs [.int i] H Q := ⟨i, rfl, q⟩
theorem w_intB (q : Q (.int (if b then 1 else 0)) H) : cInt [.bl b] H Q := .inr ⟨b, rfl, q⟩
theorem w_intI (q : Q (.int i) H) : cInt [.int i] H Q := .inl ⟨i, rfl, q⟩
theorem w_strI (h : i.natAbs.log2 < 1920) (q : Q (.str (toString i)) H) : cStrI [.int i] H Q := ⟨i, rfl, h, q⟩
theorem w_lenL (h : SqL K H p xs) (q : Q (.int xs.length) H) : cLenQ K [.ref p] H Q := ⟨p, xs, rfl, .inl h, q⟩
theorem w_lenT (h : H p = some (.tup xs)) (q : Q (.int xs.length) H) : cLenQ K [.ref p] H Q := ⟨p, xs, rfl, .inr (sqT h), q⟩
theorem w_lenS (h : z.length ≤ sizeLine) (q : Q (.int z.length) H) : cLenS [.str z] H Q := ⟨z, rfl, h, q⟩
theorem w_listL (h : SqL K H p xs) (q : ∀ p' H2, H p' = none → Chg [] H H2 → H2 p' = some (.lst xs) → Q (.ref p') H2) : cListQ K [.ref p] H Q := ⟨p, xs, rfl, .inl h, d_new q⟩
theorem w_listT (h : H p = some (.tup xs)) (q : ∀ p' H2, H p' = none → Chg [] H H2 → H2 p' = some (.lst xs) → Q (.ref p') H2) : cListQ K [.ref p] H Q := ⟨p, xs, rfl, .inr (sqT h), d_new q⟩
theorem w_listD {kvs : List (Key × V)} (h : H p = some (.dK kvs)) (q : ∀ p' H2, H p' = none → Chg [] H H2 → H2 p' = some (.lst (kvs.map fun kv => kV kv.1)) → Q (.ref p') H2) : cListD [.ref p] H Q := ⟨p, kvs, rfl, .inl h, d_new q⟩
theorem w_all {bs : List Bool} (h : H p = some (.lst (bs.map V.bl))) (q : Q (.bl (bs.all id)) H) : rAll K [.ref p] H Q := ⟨p, bs, rfl, sqL h, q⟩
theorem w_append (h : H p = some (.lst xs)) (hl : xs.length < sizeLine) (q : ∀ H', Chg [p] H H' → H' p = some (.lst (xs ++ [y])) → Q .non H') : rAppend (.ref p) [y] H Q :=
  ⟨p, xs, y, rfl, rfl, h, hl, q _ (.mut h fun _ z => nomatch z) upd_same⟩
theorem w_bm {T : String} {rm : V → List V → Hp → VK → Prop} (h : te σ H fun x H1 => tyV K T x H1 ∧ tr σ H1 fun ys H2 => rm x ys H2 Q) : tBM K T rm te tr σ H Q := h
theorem w_bm0 {T : String} {rm : V → List V → Hp → VK → Prop} (h : te σ H fun x H1 => tyV K T x H1 ∧ rm x [] H1 Q) : tBM0 K T rm te σ H Q := h
theorem w_tyL {A : Prop} (h : H p = some (.lst xs)) (q : A) : tyV K "list" (.ref p) H ∧ A := ⟨.inl ⟨rfl, _, sqL h⟩, q⟩
theorem w_part (h : te σ H fun x H1 => ∃ i, x = .int i ∧ QO (some i) H1) : tPart te σ H QO := h
theorem w_isint {P : Int → Prop} (q : P i) : ∃ k, V.int i = .int k ∧ P k := ⟨i, rfl, q⟩
theorem w_noPart (h : QO none H) : tNoPart σ H QO := h
theorem w_sl {rs : V → Option Int → Option Int → Hp → VK → Prop} {tl th : TO} (h : te σ H fun x H1 => tl σ H1 fun l H2 => th σ H2 fun u H3 => rs x l u H3 Q) : tSl rs te tl th σ H Q := h
theorem w_slS {lo hi : Option Int} (h : z.length ≤ sizeLine) (q : Q (.str (cutS z lo hi)) H) : rSlS (.str z) lo hi H Q := ⟨z, rfl, h, q⟩
theorem w_slL {lo hi : Option Int} (h : SqL K H p xs) (q : ∀ p' H2, H p' = none → Chg [] H H2 → H2 p' = some (.lst (cutV xs lo hi)) → Q (.ref p') H2) : rSlL K (.ref p) lo hi H Q := ⟨p, xs, rfl, h, d_new q⟩
/-- tests -/
theorem w_iteT {A B : Prop} (h : A) : if true = true then A else B := iteT h
theorem w_iteF {A B : Prop} (h : B) : if false = true then A else B := iteF h
theorem w_iteB {A B : Prop} (h1 : b = true → A) (h2 : b = false → B) : if b = true then A else B := by
  cases b with
  | true => exact iteT (h1 rfl)
  | false => exact iteF (h2 rfl)
theorem w_iteD {P A B : Prop} [Decidable P] (h1 : P → A) (h2 : ¬ P → B) : if decide P = true then A else B := w_iteB (fun e => h1 (of_decide_eq_true e)) (fun e => h2 (of_decide_eq_false e))
theorem w_iteN {A B : Prop} (h : if b = true then B else A) : if (!b) = true then A else B := by cases b <;> simpa using h
theorem w_iteYes {A B : Prop} (e : b = true) (h : A) : if b = true then A else B := by rw [e]; exact iteT h
theorem w_iteNo {A B : Prop} (e : b = false) (h : B) : if b = true then A else B := by rw [e]; exact iteF h
end

section
variable {K : PySem.W.Frag} {σ : L2.St} {H : Hp} {D : Ends} {td ty tv : TE} {p : Addr} {v : V} {k : Key} {kvs : List (Key × V)}
theorem w_dput (h : tv σ H fun v H1 => td σ H1 fun x H2 => ty σ H2 fun y H3 => ∃ a H4, x = .ref a ∧ DPut H3 a y v H4 ∧ D.nx σ H4) : sDPut td ty tv D σ H := h
theorem d_dput {A : Hp → Prop} (h : H p = some (.dK kvs)) (hl : kvs.length < sizeLine) (q : ∀ H', Chg [p] H H' → H' p = some (.dK (putK kvs k v)) → A H') : ∃ a H4, V.ref p = .ref a ∧ DPut H a (kV k) v H4 ∧ A H4 :=
  ⟨p, _, rfl, .k h hl, q _ (.mut h fun _ z => nomatch z) upd_same⟩
theorem w_dnewK {Q : VK} (q : ∀ p H2, H p = none → Chg [] H H2 → H2 p = some (.dK []) → Q (.ref p) H2) : tDNewK σ H Q := d_new q
end

theorem at0 {α : Type} {x0 : α} {xs : List α} : atI (x0 :: xs) 0 = some x0 := atI_nat (j := 0) rfl
theorem at1 {α : Type} {x0 x1 : α} {xs : List α} : atI (x0 :: x1 :: xs) 1 = some x1 := atI_nat (j := 1) rfl
theorem at2 {α : Type} {x0 x1 x2 : α} {xs : List α} : atI (x0 :: x1 :: x2 :: xs) 2 = some x2 := atI_nat (j := 2) rfl
theorem at3 {α : Type} {x0 x1 x2 x3 : α} {xs : List α} : atI (x0 :: x1 :: x2 :: x3 :: xs) 3 = some x3 := atI_nat (j := 3) rfl
theorem atN {α : Type} {xs : List α} {i : Int} {v : α} (h0 : 0 ≤ i) (h : xs[i.toNat]? = some v) : atI xs i = some v := by
  have e : ((i.toNat : Nat) : Int) = i := by omega
  have q := atI_nat (xs := xs) h
  rw [e] at q
  exact q
/-- at a drawn place -/
theorem atD {α : Type} {xs : List α} {i : Int} (h0 : 0 ≤ i) (h1 : i < xs.length) : ∃ v, atI xs i = some v ∧ v ∈ xs := by
  have hl : i.toNat < xs.length := by omega
  exact ⟨xs[i.toNat], atN h0 (List.getElem?_eq_getElem hl), List.getElem_mem hl⟩
theorem ixD {n : Nat} {i : Int} (h0 : 0 ≤ i) (h1 : i < n) : ixN n i = some i.toNat := by
  unfold ixN
  rw [if_pos h0, if_pos h1]
end Fg
namespace Fg
open PySem PySem.Spec PyProof.Rows L2
/-! ### comprehensions -/
/-- what holds ahead of the i-th turn: D the new list, Iv by the address, the turn, the list so far, the heap -/
def LcP (D : Addr) (Iv : Addr → Nat → List V → Hp → Prop) (i : Nat) : Hp → Prop := fun H5 => ∃ acc, acc.length = i ∧ H5 D = some (.lst acc) ∧ Iv D i acc H5
/-- what is wanted of an item -/
def LcK (D : Addr) (Iv : Addr → Nat → List V → Hp → Prop) (i : Nat) : VK := fun y H4 => ∃ acc, H4 D = some (.lst acc) ∧ acc.length < sizeLine ∧ LcP D Iv (i + 1) (upd H4 D (.lst (acc ++ [y])))
theorem lc_end {D : Addr} {Iv : Addr → Nat → List V → Hp → Prop} {i : Nat} {y : V} {H4 : Hp} {acc : List V} (h : H4 D = some (.lst acc)) (hl : acc.length = i) (hz : i ≤ 100000) (q : ∀ H5, Chg [D] H4 H5 → H5 D = some (.lst (acc ++ [y])) → Iv D (i + 1) (acc ++ [y]) H5) : LcK D Iv i y H4 := by
  subst hl
  exact ⟨acc, h, Nat.lt_of_le_of_lt hz (by decide), acc ++ [y], by simp, upd_same, q _ (.mut h fun _ e => nomatch e) upd_same⟩
theorem w_lcW {J : It} {n : Nat} {G : Hp → Prop} {Y : Nat → Hp → V → Hp → Prop} {g : TG} {te : TE} {tt : TT} {vs : List Nat} {σ : L2.St} {H : Hp} {Q : Addr → Hp → Prop} (w : L2.Walk J n G Y) (Iv : Addr → Nat → List V → Hp → Prop)
    (h0 : ∀ D H1, H D = none → Chg [] H H1 → H1 D = some (.lst []) → Iv D 0 [] H1) (hG : ∀ D i acc H1, i ≤ n → H D = none → Iv D i acc H1 → G H1)
    (hs : ∀ D i acc x H1 H2, i < n → H D = none → H1 D = some (.lst acc) → acc.length = i → Iv D i acc H1 → Y i H1 x H2 → g x (wipe σ vs) H2 fun σ2 H3 => wipe σ2 vs = wipe σ vs ∧
      tt σ2 H3 fun b H3 => if b = true then te σ2 H3 (LcK D Iv i) else LcP D Iv (i + 1) H3)
    (hd : ∀ D acc H1, H D = none → acc.length = n → H1 D = some (.lst acc) → Iv D n acc H1 → Q D H1) :
    ∀ D, H D = none → ∃ W : Nat → Nat → Hp → Prop, (∃ m, W 0 m (upd H D (.lst []))) ∧ ∀ i m H, W i m H →
      (J.stop i H ∧ Q D H) ∨ (J.go i H ∧ ∃ Nx : Hp → Prop, (∀ H', Nx H' → ∃ m', m' < m ∧ W (i + 1) m' H') ∧ ∀ x H', J.yld i H x H' → g x (wipe σ vs) H' fun σ2 H2 => wipe σ2 vs = wipe σ vs ∧ tt σ2 H2 fun b H3 =>
        if b = true then te σ2 H3 fun y H4 => ∃ acc, H4 D = some (.lst acc) ∧ acc.length < sizeLine ∧ Nx (upd H4 D (.lst (acc ++ [y]))) else Nx H3) := by
  intro D nD
  refine lc_it w (Qd := fun H => Q D H) (LcP D Iv) ⟨[], rfl, upd_same, h0 D _ nD (.new nD) upd_same⟩ (fun i H1 hi ⟨acc, _, _, q⟩ => hG D i acc H1 hi nD q) (fun i x H1 H2 hi hp y => ?_) (fun H1 ⟨acc, e, h, q⟩ => hd D acc H1 nD e h q)
  obtain ⟨acc, e, h, q⟩ := hp
  exact hs D i acc x H1 H2 hi nD h e q y
/-- each turn only makes new things (or changes M): Ys tells what the i-th is, Jv what else holds -/
def IvP (H : Hp) (M : List Addr) (Jv : Nat → Hp → Prop) (Ys : Nat → V → Hp → Prop) : Addr → Nat → List V → Hp → Prop := fun _ i acc H1 => Chg M H H1 ∧ Jv i H1 ∧ ∀ j y, acc[j]? = some y → Ys j y H1
theorem lcp_end {H : Hp} {M : List Addr} {Jv : Nat → Hp → Prop} {Ys : Nat → V → Hp → Prop} {D : Addr} {i : Nat} {y : V} {acc : List V} {H1 H4 : Hp} (jst : ∀ i H1 H2 p, H p = none → Chg [p] H1 H2 → Jv i H1 → Jv i H2)
    (yst : ∀ i y H1 H2 p, H p = none → Chg (p :: M) H1 H2 → Ys i y H1 → Ys i y H2) (nD : H D = none) (hM : ∀ a ∈ M, H a ≠ none) (hD : H1 D = some (.lst acc)) (hl : acc.length = i) (hz : i ≤ 100000) (iv : IvP H M Jv Ys D i acc H1)
    (c : Chg M H1 H4) (jq : Jv (i + 1) H4) (yq : Ys i y H4) : LcK D (IvP H M Jv Ys) i y H4 := by
  obtain ⟨c0, _, q⟩ := iv
  refine lc_end (c.keep _ _ hD fun hm => hM D hm nD) hl hz fun H5 c5 h5 => ⟨?_, jst _ _ _ D nD c5 jq, fun j y' e => ?_⟩
  · exact (c0.both c).go c5 fun a ha => .inr (by rw [List.mem_singleton.mp ha]; exact nD)
  · by_cases hj : j < acc.length
    · rw [List.getElem?_append_left hj] at e
      exact yst j y' H4 H5 D nD (c5.wide (by simp)) (yst j y' H1 H4 D nD (c.wide (by intro a ha; exact List.mem_cons_of_mem _ ha)) (q j y' e))
    · have hj2 : j = acc.length := by
        have := (List.getElem?_eq_some_iff.mp e).1
        rw [List.length_append, List.length_singleton] at this
        omega
      subst hj2
      rw [List.getElem?_append_right (Nat.le_refl _), Nat.sub_self] at e
      cases (Option.some.inj (show some y = some y' from e))
      rw [hl]
      exact yst i y H4 H5 D nD (c5.wide (by simp)) yq
theorem w_lcP {J : It} {n : Nat} {G : Hp → Prop} {Y : Nat → Hp → V → Hp → Prop} {g : TG} {te : TE} {tt : TT} {vs : List Nat} {σ : L2.St} {H : Hp} {Q : Addr → Hp → Prop} (w : L2.Walk J n G Y) (M : List Addr) (Jv : Nat → Hp → Prop) (Ys : Nat → V → Hp → Prop)
    (j0 : Jv 0 H) (jst : ∀ i H1 H2 p, H p = none → Chg [p] H1 H2 → Jv i H1 → Jv i H2) (hG : ∀ H1, Chg M H H1 → G H1)
    (hs : ∀ D i acc x H1 H2, i < n → H D = none → H1 D = some (.lst acc) → acc.length = i → IvP H M Jv Ys D i acc H1 → Chg M H H1 → Jv i H1 → Y i H1 x H2 → g x (wipe σ vs) H2 fun σ2 H3 => wipe σ2 vs = wipe σ vs ∧
      tt σ2 H3 fun b H3 => if b = true then te σ2 H3 (LcK D (IvP H M Jv Ys) i) else LcP D (IvP H M Jv Ys) (i + 1) H3)
    (hd : ∀ D acc H1, H D = none → Chg M H H1 → Jv n H1 → acc.length = n → H1 D = some (.lst acc) → (∀ i y, acc[i]? = some y → Ys i y H1) → Q D H1) :
    ∀ D, H D = none → ∃ W : Nat → Nat → Hp → Prop, (∃ m, W 0 m (upd H D (.lst []))) ∧ ∀ i m H, W i m H →
      (J.stop i H ∧ Q D H) ∨ (J.go i H ∧ ∃ Nx : Hp → Prop, (∀ H', Nx H' → ∃ m', m' < m ∧ W (i + 1) m' H') ∧ ∀ x H', J.yld i H x H' → g x (wipe σ vs) H' fun σ2 H2 => wipe σ2 vs = wipe σ vs ∧ tt σ2 H2 fun b H3 =>
        if b = true then te σ2 H3 fun y H4 => ∃ acc, H4 D = some (.lst acc) ∧ acc.length < sizeLine ∧ Nx (upd H4 D (.lst (acc ++ [y]))) else Nx H3) :=
  w_lcW w (IvP H M Jv Ys) (fun D H1 nD c _ => ⟨c.wide (by simp), jst _ _ _ D nD (c.wide (by simp)) j0, fun j y e => by simp at e⟩) (fun D i acc H1 _ _ q => hG H1 q.1) (fun D i acc x H1 H2 hi nD hD el iv y => hs D i acc x H1 H2 hi nD hD el iv iv.1 iv.2.1 y) (fun D acc H1 nD el hD ⟨c, j, q⟩ => hd D acc H1 nD c j el hD q)
section
variable {K : PySem.W.Frag} {σ : L2.St} {H : Hp} {te : TE} {tr : TA} {g : TG} {tt : TT} {vs : List Nat} {Q : VK} {a b : Addr} {xs ys : List V} {P : Prop} {RI : It → Hp → Prop} {D : Ends} {tb : TS} {wi : TI}
theorem w_lc (h : wi σ H fun J H1 => ∀ D, H1 D = none → ∃ W : Nat → Nat → Hp → Prop, (∃ m, W 0 m (upd H1 D (.lst []))) ∧ ∀ i m H, W i m H →
  (J.stop i H ∧ Q (.ref D) H) ∨ (J.go i H ∧ ∃ Nx : Hp → Prop, (∀ H', Nx H' → ∃ m', m' < m ∧ W (i + 1) m' H') ∧ ∀ x H', J.yld i H x H' → g x (wipe σ vs) H' fun σ2 H2 => wipe σ2 vs = wipe σ vs ∧ tt σ2 H2 fun b H3 =>
    if b = true then te σ2 H3 fun y H4 => ∃ acc, H4 D = some (.lst acc) ∧ acc.length < sizeLine ∧ Nx (upd H4 D (.lst (acc ++ [y]))) else Nx H3)) : tLc wi g tt te vs σ H Q := h
theorem w_for (h : wi σ H fun J H1 => ∃ W : Nat → Nat → L2.St → Hp → Prop, (∃ m, W 0 m σ H1) ∧ ∀ i m σ H, W i m σ H →
  (J.stop i H ∧ D.nx σ H) ∨ (J.go i H ∧ ∃ N : L2.St → Hp → Prop, (∀ σ' H', N σ' H' → ∃ m', m' < m ∧ W (i + 1) m' σ' H') ∧ ∀ x H', J.yld i H x H' → g x σ H' fun σ2 H2 => tb { D with nx := N, ct := N, bk := D.nx } σ2 H2)) : tFor wi g tb D σ H := h
theorem w_yes {QB : Bool → Hp → Prop} (h : QB true H) : tYes σ H QB := h
theorem w_wipe {σ2 : L2.St} (h : wipe σ2 vs = wipe σ vs) (q : P) : wipe σ2 vs = wipe σ vs ∧ P := ⟨h, q⟩
theorem w_iList (h : te σ H fun x H1 => ∃ a, x = .ref a ∧ (∃ xs, SqL K H1 a xs) ∧ RI (Itl K a) H1) : iList K te σ H RI := h
theorem w_iTup (h : te σ H fun x H1 => ∃ a, x = .ref a ∧ (∃ xs, SqT K H1 a xs) ∧ RI (Itt K a) H1) : iTup K te σ H RI := h
theorem d_iList {A : Addr → Prop} (h : SqL K H a xs) (q : A a) : ∃ a', V.ref a = .ref a' ∧ (∃ xs, SqL K H a' xs) ∧ A a' := ⟨a, rfl, ⟨xs, h⟩, q⟩
theorem d_iTup {A : Addr → Prop} (h : H a = some (.tup xs)) (q : A a) : ∃ a', V.ref a = .ref a' ∧ (∃ xs, SqT K H a' xs) ∧ A a' := ⟨a, rfl, ⟨xs, sqT h⟩, q⟩
theorem w_iStr (h : te σ H fun v H1 => ∃ x, v = .str x ∧ RI (Its x) H1) : iStr te σ H RI := h
theorem d_iStr {z : Str} {A : Str → Prop} (q : A z) : ∃ x, V.str z = .str x ∧ A x := ⟨z, rfl, q⟩
theorem w_iRng1 (h : tr σ H fun vs H1 => ∃ j : Int, vs = [.int j] ∧ -(2 ^ 62) ≤ j ∧ j < 2 ^ 62 ∧ RI (Itr 0 j.toNat) H1) : iRng1 tr σ H RI := h
theorem d_iRng1 {j : Int} {A : Int → Prop} (h1 : -(2 ^ 62) ≤ j) (h2 : j < 2 ^ 62) (q : A j) : ∃ j' : Int, [V.int j] = [.int j'] ∧ -(2 ^ 62) ≤ j' ∧ j' < 2 ^ 62 ∧ A j' := ⟨j, rfl, h1, h2, q⟩
theorem w_iRng2 (h : tr σ H fun vs H1 => ∃ i j : Int, vs = [.int i, .int j] ∧ (-(2 ^ 62) ≤ i ∧ i < 2 ^ 62 ∧ -(2 ^ 62) ≤ j ∧ j < 2 ^ 62) ∧ RI (Itr i (j - i).toNat) H1) : iRng2 tr σ H RI := h
theorem d_iRng2 {i j : Int} {A : Int → Int → Prop} (h0 : -(2 ^ 62) ≤ i) (h0' : i < 2 ^ 62) (h1 : -(2 ^ 62) ≤ j) (h2 : j < 2 ^ 62) (q : A i j) : ∃ i' j' : Int, [V.int i, V.int j] = [.int i', .int j'] ∧ (-(2 ^ 62) ≤ i' ∧ i' < 2 ^ 62 ∧ -(2 ^ 62) ≤ j' ∧ j' < 2 ^ 62) ∧ A i' j' := ⟨i, j, rfl, ⟨h0, h0', h1, h2⟩, q⟩
theorem w_iZip (h : tr σ H fun vs H1 => ∃ a b xs ys, vs = [.ref a, .ref b] ∧ SqL K H1 a xs ∧ SqL K H1 b ys ∧ RI (Itz K a b) H1) : iZip K tr σ H RI := h
theorem d_iZip {A : Addr → Addr → Prop} (h : SqL K H a xs) (h' : SqL K H b ys) (q : A a b) : ∃ a' b' xs ys, [V.ref a, V.ref b] = [.ref a', .ref b'] ∧ SqL K H a' xs ∧ SqL K H b' ys ∧ A a' b' := ⟨a, b, xs, ys, rfl, h, h', q⟩
theorem w_iEnum (h : tr σ H fun vs H1 => ∃ a xs, vs = [.ref a] ∧ SqL K H1 a xs ∧ RI (Ite K a) H1) : iEnum K tr σ H RI := h
theorem d_iEnum {A : Addr → Prop} (h : SqL K H a xs) (q : A a) : ∃ a' xs, [V.ref a] = [.ref a'] ∧ SqL K H a' xs ∧ A a' := ⟨a, xs, rfl, h, q⟩
end
end Fg
namespace Fg
open PySem PySem.Spec PyProof.Rows L2
/-! ### what the document says of programs, over data -/
def letters : Str := "abcdefghijklmnopqrstuvwxyz"
def isLow (c : Nat) : Bool := decide (c ∈ letters.cps.toList)
def dInt : PyData → Bool
  | .int _ => true
  | .bool _ => true
  | _ => false
def dBool : PyData → Bool
  | .bool _ => true
  | _ => false
def dStr : PyData → Bool
  | .str _ => true
  | _ => false
def dTup : PyData → Bool
  | .tuple _ => true
  | _ => false
def dLst : PyData → Bool
  | .list _ => true
  | _ => false
def isWhole : PyData → Bool
  | .int _ => true
  | _ => false
def nameS (x : Str) : Bool := decide (1 ≤ x.length) && decide (x.length ≤ 8) && x.cps.toList.all isLow
def isName : PyData → Bool
  | .str x => nameS x
  | _ => false
def partsOf (z : Str) : Option Nat := if z = "arg" then some 0 else if z = "cell" then some 1 else if z = "add" then some 2 else if z = "less" then some 2 else if z = "least" then some 2 else none
def isExpr : Nat → PyData → Bool
  | 0, _ => false
  | _ + 1, .int _ => true
  | n + 1, .tuple (.str z :: ds) => (match partsOf z with
    | some k => decide (ds.length = k) && ds.all (isExpr n)
    | none => false)
  | _, _ => false
def skipOk (bh : Int) : PyData → Bool
  | .int k => decide (1 ≤ k) && decide (k ≤ bh)
  | _ => false
def inNm (ns : List Str) : PyData → Bool
  | .str x => decide (x ∈ ns)
  | _ => false
def step3 (ns : List Str) (bh : Int) (z : Str) (a b : PyData) : Bool :=
  if z = "cell" then isExpr 5 a && isExpr 5 b
  else if z = "skip" then isExpr 5 a && skipOk bh b
  else if z = "give" then isName a && isExpr 5 b
  else if z = "fork" ∨ z = "call" then isName a && isExpr 5 b && inNm ns a
  else false
def stepBody (ns : List Str) (bh : Int) (z : Str) : List PyData → Bool
  | [a, b] => step3 ns bh z a b
  | _ => false
def isStep (ns : List Str) (bh : Int) : PyData → Bool
  | .tuple (.str z :: ds) => if z = "wait" then decide (ds.length = 0) else stepBody ns bh z ds
  | _ => false
def rowOk : PyData → Bool
  | .tuple [.str x, .list _] => nameS x
  | _ => false
def rowName : PyData → Str
  | .tuple (.str x :: _) => x
  | _ => ""
def rowSteps : PyData → List PyData
  | .tuple [_, .list ds] => ds
  | _ => []
def ltS (x y : Str) : Bool := decide (x.cps.toList < y.cps.toList)
def rising : List Str → Bool
  | x :: y :: r => ltS x y && rising (y :: r)
  | _ => true
def hasForm : PyData → Bool
  | .list rows => rows.all rowOk && rising (rows.map rowName)
  | _ => false
/-- the first wrong one of steps, from place k on -/
def wrongAt (names : List Str) : Nat → List PyData → Option Nat
  | _, [] => none
  | k, d :: ds => if isStep names (ds.length : Int) d = true then wrongAt names (k + 1) ds else some k
def wrongIn (names : List Str) : List PyData → Option (Str × Nat)
  | [] => none
  | r :: rs => match wrongAt names 0 (rowSteps r) with
    | some k => some (rowName r, k)
    | none => wrongIn names rs
def rowsOf : PyData → List PyData
  | .list rows => rows
  | _ => []
def firstWrong (d : PyData) : Option (Option (Str × Nat)) :=
  if hasForm d = true then (wrongIn ((rowsOf d).map rowName) (rowsOf d)).map some else some none
/-! ### isinstance -/
def tyN : PyData → String
  | .none => "NoneType"
  | .bool _ => "bool"
  | .int _ => "int"
  | .str _ => "str"
  | .list _ => "list"
  | .tuple _ => "tuple"
  | .dict _ => "dict"
section
variable {K : PySem.W.Frag} {S : Addr → Prop} {H : Hp} {v : V} {d : PyData} {Q : VK}
theorem isi_of {v : V} {a b : String} {r : Bool} (t : TyX K H v (.type a)) (h : kitB a b = some r) (q : Q (.bl r) H) : rIsi K [v, .ty b] H Q := ⟨v, .ty b, _, _, r, rfl, .ty b, t, kit_ty h, q⟩
theorem R.tyx (r : R S H v d) : TyX K H v (.type (tyN d)) := by
  cases r with
  | non => exact .base .non
  | bl b => exact .base (.bl b)
  | int i => exact .base (.int i)
  | str x => exact .base (.str x)
  | lst s e r => exact .base (.lst e)
  | tup e r => exact .base (.tup e)
  | dic s e => exact .base (.dK e)
theorem w_isInt (r : R S H v d) (q : Q (.bl (dInt d)) H) : rIsi K [v, .ty "int"] H Q := by
  have t := r.tyx (K := K)
  cases d with
  | none => exact isi_of t (show kitB "NoneType" "int" = some false by decide +kernel) q
  | bool b => exact isi_of t (show kitB "bool" "int" = some true by decide +kernel) q
  | int i => exact isi_of t (show kitB "int" "int" = some true by decide +kernel) q
  | str x => exact isi_of t (show kitB "str" "int" = some false by decide +kernel) q
  | list ds => exact isi_of t (show kitB "list" "int" = some false by decide +kernel) q
  | tuple ds => exact isi_of t (show kitB "tuple" "int" = some false by decide +kernel) q
  | dict ds => exact isi_of t (show kitB "dict" "int" = some false by decide +kernel) q
theorem w_isBool (r : R S H v d) (q : Q (.bl (dBool d)) H) : rIsi K [v, .ty "bool"] H Q := by
  have t := r.tyx (K := K)
  cases d with
  | none => exact isi_of t (show kitB "NoneType" "bool" = some false by decide +kernel) q
  | bool b => exact isi_of t (show kitB "bool" "bool" = some true by decide +kernel) q
  | int i => exact isi_of t (show kitB "int" "bool" = some false by decide +kernel) q
  | str x => exact isi_of t (show kitB "str" "bool" = some false by decide +kernel) q
  | list ds => exact isi_of t (show kitB "list" "bool" = some false by decide +kernel) q
  | tuple ds => exact isi_of t (show kitB "tuple" "bool" = some false by decide +kernel) q
  | dict ds => exact isi_of t (show kitB "dict" "bool" = some false by decide +kernel) q
theorem w_isStr (r : R S H v d) (q : Q (.bl (dStr d)) H) : rIsi K [v, .ty "str"] H Q := by
  have t := r.tyx (K := K)
  cases d with
  | none => exact isi_of t (show kitB "NoneType" "str" = some false by decide +kernel) q
  | bool b => exact isi_of t (show kitB "bool" "str" = some false by decide +kernel) q
  | int i => exact isi_of t (show kitB "int" "str" = some false by decide +kernel) q
  | str x => exact isi_of t (show kitB "str" "str" = some true by decide +kernel) q
  | list ds => exact isi_of t (show kitB "list" "str" = some false by decide +kernel) q
  | tuple ds => exact isi_of t (show kitB "tuple" "str" = some false by decide +kernel) q
  | dict ds => exact isi_of t (show kitB "dict" "str" = some false by decide +kernel) q
theorem w_isTup (r : R S H v d) (q : Q (.bl (dTup d)) H) : rIsi K [v, .ty "tuple"] H Q := by
  have t := r.tyx (K := K)
  cases d with
  | none => exact isi_of t (show kitB "NoneType" "tuple" = some false by decide +kernel) q
  | bool b => exact isi_of t (show kitB "bool" "tuple" = some false by decide +kernel) q
  | int i => exact isi_of t (show kitB "int" "tuple" = some false by decide +kernel) q
  | str x => exact isi_of t (show kitB "str" "tuple" = some false by decide +kernel) q
  | list ds => exact isi_of t (show kitB "list" "tuple" = some false by decide +kernel) q
  | tuple ds => exact isi_of t (show kitB "tuple" "tuple" = some true by decide +kernel) q
  | dict ds => exact isi_of t (show kitB "dict" "tuple" = some false by decide +kernel) q
theorem w_isLst (r : R S H v d) (q : Q (.bl (dLst d)) H) : rIsi K [v, .ty "list"] H Q := by
  have t := r.tyx (K := K)
  cases d with
  | none => exact isi_of t (show kitB "NoneType" "list" = some false by decide +kernel) q
  | bool b => exact isi_of t (show kitB "bool" "list" = some false by decide +kernel) q
  | int i => exact isi_of t (show kitB "int" "list" = some false by decide +kernel) q
  | str x => exact isi_of t (show kitB "str" "list" = some false by decide +kernel) q
  | list ds => exact isi_of t (show kitB "list" "list" = some true by decide +kernel) q
  | tuple ds => exact isi_of t (show kitB "tuple" "list" = some false by decide +kernel) q
  | dict ds => exact isi_of t (show kitB "dict" "list" = some false by decide +kernel) q
end
/-! ### the table of parts -/
structure Parts (K : PySem.W.Frag) (w : World) (dP : Addr) : Prop where
  kd : ∃ es n, KDict K w dP es n
  get : ∀ z k, partsOf z = some k → ∃ u, PySem.W.nsIn K dP z = some (some u) ∧ RelV (.int (k : Nat)) u
  no : ∀ z, partsOf z = none → PySem.W.nsIn K dP z = some none
section
variable {K : PySem.W.Frag} {w : World} {dP : Addr} {H : Hp} {Q : VK} {z : Str}
theorem w_notInP (T : Parts K w dP) (q : Q (.bl (!(partsOf z).isSome)) H) : oNotInKd K dP (.str z) (.ref dP) H Q := by
  cases e : partsOf z with
  | none => exact ⟨z, none, rfl, rfl, T.no z e, by rw [e] at q; exact q⟩
  | some k =>
    obtain ⟨u, e1, _⟩ := T.get z k e
    exact ⟨z, some u, rfl, rfl, e1, by rw [e] at q; exact q⟩
theorem w_ixP {k : Nat} (T : Parts K w dP) (e : partsOf z = some k) (q : Q (.int (k : Nat)) H) : rIxD K w (.ref dP) (.str z) H Q := by
  obtain ⟨u, e1, e2⟩ := T.get z k e
  obtain ⟨es, n, kd⟩ := T.kd
  exact ⟨dP, z, _, rfl, rfl, ⟨es, n, u, kd.at_, kd.lit, e1, e2⟩, q⟩
end
/-! ### bits of lists -/
theorem cut1 (xs : List V) : cutV xs (some 1) none = xs.drop 1 := by
  unfold cutV
  rw [show HT.sIx xs.length 0 (some 1) = min 1 xs.length from HT.sIx_nat xs.length 0 1, HT.sIx_none]
  cases xs with
  | nil => rfl
  | cons x r =>
    rw [show min 1 (x :: r).length = 1 by
      rw [List.length_cons]
      omega]
    show (List.take ((x :: r).length - 1) r) = r
    rw [List.length_cons, Nat.add_sub_cancel]
    exact List.take_length
theorem w_slA {K : PySem.W.Frag} {p : Addr} {xs : List V} {lo hi : Option Int} {H : Hp} {Q : VK} (h : H p = some (.tup xs)) (q : ∀ p' H2, Chg [] H H2 → H2 p' = some (.tup (cutV xs lo hi)) → Q (.ref p') H2) : rSlA K (.ref p) lo hi H Q := by
  refine ⟨p, xs, rfl, sqT h, fun e => ?_, fun _ => d_new fun p' H2 _ c h2 => q p' H2 c h2⟩
  refine q p H .refl ?_
  have : cutV xs lo hi = xs := by
    unfold cutV
    rw [e.1, e.2]
    simp
  rw [this]
  exact h
theorem all_bl {bs : List Bool} {acc : List V} {n : Nat} (hl : acc.length = n) (hb : bs.length = n) (h : ∀ (i : Nat) (y : V), acc[i]? = some y → ∃ b : Bool, bs[i]? = some b ∧ y = .bl b) : acc = bs.map V.bl := by
  apply List.ext_getElem?
  intro i
  rw [List.getElem?_map]
  by_cases hi : i < n
  · have e1 : acc[i]? = some acc[i] := List.getElem?_eq_getElem (by omega)
    obtain ⟨b, e2, e3⟩ := h i _ e1
    rw [e1, e2, e3]
    rfl
  · rw [List.getElem?_eq_none (by omega), List.getElem?_eq_none (by omega)]
    rfl
end Fg
namespace Fg
open PySem PySem.Spec PyProof.Rows L2
/-- a def that may be called by its name, with these defaults behind -/
structure Cal (P : Program) (w : World) (K : PySem.W.Frag) (mg : Str → Option Value) (base : Heap) (k : Nat) (x : Str) (sp : Sp) (dvs : List V) : Prop where
  ex : ∃ (f : Addr) (fd : FuncData) (ps : List Str) (ds : List Value), FnOk P w K mg base CX0 k f fd ps sp ∧ mg x = some (.ref f) ∧ PySem.W.keepIn K (.ref f) = true ∧ Binds K fd ps ds ∧ Vals dvs ds
/-- .. with keywords: n positional values, keywords ks, gV puts them in order -/
structure CalK (P : Program) (w : World) (K : PySem.W.Frag) (mg : Str → Option Value) (base : Heap) (k : Nat) (x : Str) (sp : Sp) (n : Nat) (ks : List Str) (gV : List V → List V → List V) : Prop where
  ex : ∃ (f : Addr) (fd : FuncData) (ps : List Str) (g : List Value → List Value → List Value), FnOk P w K mg base CX0 k f fd ps sp ∧ mg x = some (.ref f) ∧ PySem.W.keepIn K (.ref f) = true ∧ KBn K fd ps n ks g gV
section
variable {X : Cx} {k j n mm : Nat} {x m : Str} {sp : Sp} {dvs : List V} {ks : List Str} {gV : List V → List V → List V} {p pos apos : Pos} {e o : Expr} {es : List Expr} {kws : List Keyword} {ta : TE} {t tk : TA}
theorem pe_c (c : Cal X.prog X.w X.K X.mg X.base k x sp dvs) (hr : Room j X.A) (hk : k ≤ j) (hg : Gl X x) (ha : PA X (e :: es) t)
    (hdb : (x == ("__debug__" : Str)) = false := by decide) (he : starEach (e :: es) X.env = (false, eval e X.env) :: starEach es X.env := by rfl) (hpl : (backTo pos (starEach es X.env)).any (·.1) = false := by rfl) :
    PE X (.Call (.Name x p) (e :: es) [] pos) (tCall sp dvs E0 t) := by
  obtain ⟨f, fd, ps, ds, F, hm, kp, b, d⟩ := c.ex
  exact pe_call F (hr.mono hk) hg hm kp b d pass0 ha hdb he hpl
theorem pe_c0 (c : Cal X.prog X.w X.K X.mg X.base k x sp dvs) (hr : Room j X.A) (hk : k ≤ j) (hg : Gl X x) (hdb : (x == ("__debug__" : Str)) = false := by decide) :
    PE X (.Call (.Name x p) [] [] pos) (tCall sp dvs E0 tNil) := by
  obtain ⟨f, fd, ps, ds, F, hm, kp, b, d⟩ := c.ex
  exact pe_call0 F (hr.mono hk) hg hm kp b d pass0 hdb
theorem pe_ck (c : CalK X.prog X.w X.K X.mg X.base k x sp n ks gV) (hr : Room j X.A) (hk : k ≤ j) (hg : Gl X x) (ha : PA X (e :: es) t) (hkw : PK X kws tk)
    (hall : (backToKw pos (keywordEach kws X.env)).all (·.1.isSome) = true := by rfl) (hks : (backToKw pos (keywordEach kws X.env)).filterMap (·.1) = ks := by rfl)
    (hdb : (x == ("__debug__" : Str)) = false := by decide) (he : starEach (e :: es) X.env = (false, eval e X.env) :: starEach es X.env := by rfl)
    (hpl : ((backTo pos (starEach (e :: es) X.env)).any (·.1) || (backToKw pos (keywordEach kws X.env)).any (·.1.isNone)) = false := by rfl) (hmm : mm = ks.length := by rfl) :
    PE X (.Call (.Name x p) (e :: es) kws pos) (tCallN n mm sp gV E0 t tk) := by
  subst hmm
  obtain ⟨f, fd, ps, g, F, hm, kp, b⟩ := c.ex
  exact pe_callN F (hr.mono hk) hg hm kp b pass0 ha hkw hall hks hdb he hpl
theorem pe_ck0 (c : CalK X.prog X.w X.K X.mg X.base k x sp 0 ks gV) (hr : Room j X.A) (hk : k ≤ j) (hg : Gl X x) (hkw : PK X kws tk)
    (hall : (backToKw pos (keywordEach kws X.env)).all (·.1.isSome) = true := by rfl) (hks : (backToKw pos (keywordEach kws X.env)).filterMap (·.1) = ks := by rfl)
    (hdb : (x == ("__debug__" : Str)) = false := by decide)
    (hpl : ((backTo pos (starEach [] X.env)).any (·.1) || (backToKw pos (keywordEach kws X.env)).any (·.1.isNone)) = false := by rfl) (hmm : mm = ks.length := by rfl) :
    PE X (.Call (.Name x p) [] kws pos) (tCallN 0 mm sp gV E0 tNil tk) := by
  subst hmm
  obtain ⟨f, fd, ps, g, F, hm, kp, b⟩ := c.ex
  refine ⟨fun pins s σ H Q I h => ?_⟩
  refine wpAny_Call_Name_kw (ld_glob I hg hm ?_ hdb)
  refine PySem.W.callWith_KW0 (h₀ := X.base) I.ok.mod.kin kp hall (thn (hkw.run pos pins s σ H _ I h) fun ws s2 ⟨zs, H2, I2, rz, l1, l2, q2⟩ => ⟨I2.kIn, ?_⟩) hpl
  rw [hks]
  exact run_fnN (us := []) (vs := []) F (hr.mono hk) b pass0 I2 .nil rz rfl l2 q2
theorem w_callN {σ : L2.St} {H : Hp} {Q : VK} {E : XK} {m : Nat} (h : t σ H fun vs H1 => tk σ H1 fun zs H2 => vs.length = n ∧ zs.length = m ∧ sp (gV vs zs) H2 Q E) : tCallN n m sp gV E t tk σ H Q := h
end
section
variable {P : Program} {w : World} {K : PySem.W.Frag} {mg : Str → Option Value} {base : Heap} {x : Str} {st : Stmt} {f : Addr} {fd : FuncData} {sp : Sp} {k : Nat}
/-- a def of the top as it stands, dvs its defaults -/
abbrev FnP (K : PySem.W.Frag) (x : Str) (st : Stmt) (dvs : List V) (f : Addr) (fd : FuncData) : Prop := FunD K x x (defArgs st) (defBody st) (defScope st) dvs [] f fd
theorem FnP.go {N ps : List Str} {dvs : List V} (F : FnP K x st dvs f fd) (S : FnScope N ps (defScope st)) (len : ∀ vs H Q E, sp vs H Q E → vs.length = ps.length) (t : TS)
    (pure : ∀ (vs : List V) (H : Hp) (Q : VK) (E : XK), sp vs H Q E → t { nx := fun _ H' => Q .non H', rt := Q } (start N vs) H)
    (hbody : ∀ (cdv : Value) (A : Around) (outer : List Env) (s : Shared) (H : Hp) (E : XK), Room k (A.deeper (envOfC x (defScope st) s.heap.objs.size f cdv)) →
      PSs (cxOf CX0 P w K mg base N x (defScope st) f cdv A outer s H E).nox (defBody st) t) : FnOk P w K mg base CX0 (k + 1) f fd ps sp :=
  F.ok S len fun cdv A outer s H vs Q E hr h => ⟨t, PSs.nox (hbody cdv A outer s H E hr), pure vs H Q E h⟩
theorem FnP.cal {ps : List Str} (F : FnP K x st [] f fd) (ok : FnOk P w K mg base CX0 k f fd ps sp) (g : mg x = some (.ref f))
    (h : ∀ (kV doc pm : Value) (an : Option Addr) (cdv ct : Value) (us : List Value), us.length = ps.length → bindArgs (PySem.W.fnOf x x (defArgs st) (defBody st) (defScope st) .none kV doc pm an cdv ct) ⟨us, []⟩ = pure (ps.zip us)) : Cal P w K mg base k x sp [] :=
  ⟨f, fd, ps, [], ok, g, F.kp, F.bindsN h, .nil⟩
end
end Fg
namespace Fg
open PySem PySem.Spec PyProof.Rows L2
theorem exL {α : Type} {P : α → Prop} {B : Prop} (h : ∀ x, P x → B) : (∃ x, P x) → B := fun ⟨x, hx⟩ => h x hx
theorem pe_gc {X : Cx} {x : Str} {v : V} {pos : Pos} (hg : Gl X x) (h : ∃ u, X.mg x = some u ∧ RelV v u) (hd : (x == ("__debug__" : Str)) = false := by decide) : PE X (.Name x pos) (tC v) := by
  obtain ⟨u, e, r⟩ := h
  exact pe_glob hg e r hd
theorem dic_lookup {K : PySem.W.Frag} {a : Addr} {l : List (Option (Str × Int))} (h : He.dicW K a = some l) : ∃ o es n, K.lookup a = some o ∧ o.data = .dict es n ∧ es.toList.map He.keyOf = l := by
  unfold He.dicW at h
  cases q : K.lookup a with
  | none =>
    rw [q] at h
    cases h
  | some o =>
    obtain ⟨oc, od, dt, osl⟩ := o
    rw [q] at h
    cases oc with
    | type c =>
      cases od with
      | none =>
        cases dt with
        | dict es n =>
          have h1 : (match decide (c = "dict") && (osl.isEmpty && !(a == sysModules)) with
            | true => some (es.toList.map He.keyOf)
            | false => none) = some l := h
          cases z : decide (c = "dict") && (osl.isEmpty && !(a == sysModules)) with
          | false =>
            rw [z] at h1
            cases h1
          | true =>
            rw [z] at h1
            exact ⟨_, es, n, rfl, rfl, Option.some.inj h1⟩
        | _ => cases h
      | some b => cases dt <;> cases h
    | _ => cases od <;> cases dt <;> cases h
theorem keyOf_str {e : DictEntry} {k : Str} {i : Int} (h : He.keyOf e = some (k, i)) : ∃ t, e.key = .str k t := by
  unfold He.keyOf at h
  split at h
  · rename_i x t q
    have h4 := Option.some.inj h
    obtain ⟨h5, h6⟩ := Prod.mk.inj h4
    exact ⟨t, by rw [q, h5]⟩
  · cases h
theorem miss {K : PySem.W.Frag} {a : Addr} {P : Params} {ks : List Str} {z : Str} (h : He.dicW K a = some (He.keysIn P ks)) (hz : z ∉ ks) : PySem.W.nsIn K a z = some none := by
  obtain ⟨o, es, n, e1, e2, e3⟩ := dic_lookup h
  have key : ∀ e ∈ es.toList, ∃ k t, e.key = .str k t ∧ k ∈ ks := fun e he => by
    have : He.keyOf e ∈ He.keysIn P ks := by rw [← e3]; exact List.mem_map.mpr ⟨e, he, rfl⟩
    obtain ⟨k, hk, ek⟩ := List.mem_map.mp this
    obtain ⟨t, et⟩ := keyOf_str ek.symm
    exact ⟨k, t, et, hk⟩
  unfold PySem.W.nsIn
  rw [e1]
  obtain ⟨oc, od, dt, osl⟩ := o
  have e2 : dt = .dict es n := e2
  subst e2
  have f1 : es.toList.find? (·.key.isStr z) = none := by
    rw [List.find?_eq_none]
    intro e he
    obtain ⟨k, t, ek, hk⟩ := key e he
    rw [ek]
    intro hh
    have : k = z := by
      have := PySem.W.isStr_of z (Value.str k t)
      rw [this] at hh
      obtain ⟨t', e'⟩ := Value.isStrOf_shape (x := z) (v := Value.str k t) hh
      injection e'
    rw [this] at hk
    exact hz hk
  have f2 : es.toList.any (·.refKey) = false := by
    rw [List.any_eq_false]
    intro e he
    obtain ⟨k, t, ek, hk⟩ := key e he
    unfold DictEntry.refKey
    rw [ek]
    exact Bool.false_ne_true
  show (match es.toList.find? (·.key.isStr z) with
      | some e => some (some e.val)
      | none => if es.toList.any (·.refKey) then none else some none) = some none
  rw [f1]
  show (if es.toList.any (·.refKey) then none else some none) = some none
  rw [f2]
  rfl
def partK : List Str := ["arg", "cell", "add", "less", "least"]
def partV : List (Str × He.Dv) := [("arg", .int 0), ("cell", .int 1), ("add", .int 2), ("less", .int 2), ("least", .int 2)]
theorem parts_of {K : PySem.W.Frag} {w : World} {a : Addr} (h : He.dicW K a = some (He.keysIn w.params partK)) (hv : He.valsB K a partV = true) : Parts K w a := by
  refine ⟨He.dicW_ok h, fun z k e => ?_, fun z e => ?_⟩
  · unfold partsOf at e
    split at e
    · next hz => cases e; subst hz; exact He.valsB_ok hv (q := ("arg", .int 0)) (by simp [partV])
    split at e
    · next hz => cases e; subst hz; exact He.valsB_ok hv (q := ("cell", .int 1)) (by simp [partV])
    split at e
    · next hz => cases e; subst hz; exact He.valsB_ok hv (q := ("add", .int 2)) (by simp [partV])
    split at e
    · next hz => cases e; subst hz; exact He.valsB_ok hv (q := ("less", .int 2)) (by simp [partV])
    split at e
    · next hz => cases e; subst hz; exact He.valsB_ok hv (q := ("least", .int 2)) (by simp [partV])
    · cases e
  · refine miss h fun hm => ?_
    unfold partK at hm
    simp only [List.mem_cons, List.not_mem_nil, or_false] at hm
    rcases hm with hm | hm | hm | hm | hm <;> (subst hm; revert e; decide +kernel)
section
variable {P : Program} {w : World} {K : PySem.W.Frag} {mg : Str → Option Value} {base : Heap} {x : Str} {st : Stmt} {f : Addr} {fd : FuncData} {sp : Sp} {k : Nat} {ps : List Str} {dvs : List V}
/-- a call that leaves out the defaults from the j-th on (n values are written) -/
theorem FnP.cald (n j : Nat) (F : FnP K x st dvs f fd) (ok : FnOk P w K mg base CX0 k f fd ps sp) (g : mg x = some (.ref f)) (hd : dvs ≠ []) (hn : n + (dvs.length - j) = ps.length)
    (h : ∀ (T : Addr) (kV doc pm : Value) (an : Option Addr) (cdv ct : Value) (us its : List Value), us.length = n → its.length = dvs.length →
      ∃ k, bindArgs (PySem.W.fnOf x x (defArgs st) (defBody st) (defScope st) (.ref T) kV doc pm an cdv ct) ⟨us, []⟩ = seqItems? (.ref T) >>= k ∧ k (some its.toArray) = pure (ps.zip (us ++ its.drop j))) : Cal P w K mg base k x sp (dvs.drop j) := by
  obtain ⟨ds, v, b⟩ := F.binds1 n j hd hn h
  exact ⟨f, fd, ps, ds, ok, g, F.kp, b, v⟩
/-- all by keywords, in the parameters' order, no defaults -/
theorem FnP.calk (F : FnP K x st [] f fd) (ok : FnOk P w K mg base CX0 k f fd ps sp) (g : mg x = some (.ref f))
    (h : ∀ (kV doc pm : Value) (an : Option Addr) (cdv ct : Value) (us : List Value), us.length = ps.length → bindArgs (PySem.W.fnOf x x (defArgs st) (defBody st) (defScope st) .none kV doc pm an cdv ct) ⟨[], ps.zip us⟩ = pure (ps.zip us)) : CalK P w K mg base k x sp 0 ps (fun _ zs => zs) := by
  obtain ⟨oc, od, dV, kV, doc, pm, an, cdv, ct, osl, rfl, lk, hcd, hD, hK⟩ := F.ex
  rcases hD with ⟨_, rfl⟩ | ⟨e, _⟩
  · refine ⟨f, _, ps, fun _ ws => ws, ok, g, F.kp, ⟨fun s us ws _ l1 l2 => ?_, fun _ r => r⟩⟩
    rw [List.length_eq_zero_iff.mp l1]
    exact .of_eq (h kV doc pm an cdv ct ws l2)
  · exact absurd rfl e
end
end Fg
namespace Fg
open PySem PySem.Spec PyProof.Rows L2

/-! ### an exception that was caught, held beyond its suite -/
def ExH (cls : Value) (d : Option Addr) (a : Addr) : HO := .ext fun h => ∃ (oe : Obj) (vs : Array Value), h.get? a = some oe ∧ Zc cls d oe ∧ oe.data = .fields vs
theorem exH_ok {P : Program} {w : World} {H : Hp} {h : Heap} {a : Addr} {cls : Value} {d : Option Addr} {oe : Obj} {vs : Array Value} (e : h.get? a = some oe) (z : Zc cls d oe) (hd : oe.data = .fields vs) : ObjOk P w H h a (ExH cls d a) :=
  ⟨⟨oe, vs, e, z, hd⟩, ⟨oe, e⟩, fun _ _ ⟨o, v, q, r⟩ k => ⟨o, v, k o q, r⟩⟩
theorem exH_at {P : Program} {w : World} {H : Hp} {h : Heap} {a : Addr} {cls : Value} {d : Option Addr} (hok : HOk P w H h) (he : H a = some (ExH cls d a)) : ∃ (oe : Obj) (vs : Array Value), h.get? a = some oe ∧ Zc cls d oe ∧ oe.data = .fields vs := by
  have x : ObjOk P w H h a (.ext fun h => ∃ (oe : Obj) (vs : Array Value), h.get? a = some oe ∧ Zc cls d oe ∧ oe.data = .fields vs) := hok a _ he
  exact x.1

section
variable {X : Cx} {pins : List (Addr × Obj)} {σ : L2.St} {H : Hp} {s : Shared}
/-- an exception's object, till now a pin, is tracked -/
theorem Inv.track {a : Addr} {oe : Obj} {vs : Array Value} {cls : Value} {d : Option Addr} (I : Inv X ((a, oe) :: pins) σ H s) (hz : Zc cls d oe) (hd : oe.data = .fields vs) (h0 : X.s_0.heap.get? a = none)
    (hp : ∀ p ∈ X.pn ++ pins, p.1 ≠ a) : Inv X pins σ (upd H a (ExH cls d a)) s := by
  obtain ⟨ha, na, nL, nF, _⟩ := I.pin (a, oe) (by simp)
  have ne0 : ∀ b o, X.s_0.heap.get? b = some o → b ≠ a := fun b o e z => by
    rw [z, h0] at e
    cases e
  have neS : ∀ {b : Addr} {o : HO}, H b = some o → b ≠ a := fun {b o} e => ne_of_none e na
  refine ⟨I.ok, I.os, I.bare, ⟨I.base.keep, I.base.slot, fun b o e n hq => ?_, I.base.there, fun b xs e => ?_, fun b o u e => ?_, fun b ps e => ?_⟩, I.loc, I.cell, ?_, fun x c e => ?_, fun p hm => ?_, fun b u e => ?_, I.len⟩
  · rw [upd_ne (ne0 b o e)]
    exact I.base.free b o e n hq
  · have q := I.base.tups b xs e
    rw [upd_ne (neS q)]
    exact q
  · have q := I.base.frzs b o u e
    rw [upd_ne (neS q)]
    exact q
  · obtain ⟨m, q⟩ := I.base.tbls b ps e
    exact ⟨m, by rw [upd_ne (neS q)]; exact q⟩
  · rw [upd_ne (Ne.symm nL)]
    exact I.free
  · have hc : c ≠ a := fun z => by
      obtain ⟨v, o, ho, hv⟩ := I.cell x c e
      rw [z, ha] at ho
      cases ho
      rw [hd] at hv
      cases hv
    rw [upd_ne hc]
    exact I.freeC x c e
  · obtain ⟨e, n, ne, nf, dd⟩ := I.pin p (by
      rcases List.mem_append.mp hm with z | z
      · exact List.mem_append_left _ z
      · exact List.mem_append_right _ (List.mem_cons_of_mem _ z))
    exact ⟨e, by rw [upd_ne (hp p hm)]; exact n, ne, nf, dd⟩
  · by_cases hb : b = a
    · subst hb
      rw [upd_same] at e
      cases e
      exact exH_ok ha hz hd
    · rw [upd_ne hb] at e
      exact (I.hok b u e).stay (fun c v _ q => q) (fun c q => by rw [upd_ne (neS q)]; exact q) fun c xs q => by rw [upd_ne (neS q)]; exact q
theorem Inv.unsuiteP {a : Addr} {oe : Obj} (I : Inv (X.suite a ((a, oe) :: (X.pn ++ pins))) [] σ H s) (ok : X.Ok) : Inv X ((a, oe) :: pins) σ H s :=
  ⟨ok, I.os, I.bare, I.base, I.loc, I.cell, I.free, I.freeC, fun p hp => I.pin p (by
    rw [List.append_nil]
    rcases List.mem_append.mp hp with z | z
    · exact List.mem_cons_of_mem _ (List.mem_append_left _ z)
    · rcases List.mem_cons.mp z with z | z
      · rw [z]; exact List.mem_cons_self
      · exact List.mem_cons_of_mem _ (List.mem_append_right _ z)), I.hok, I.len⟩
end

/-- as wAs, and behind the suite the exception is tracked -/
def wHold (K : PySem.W.Frag) (c : Value) (i : Nat) (ts : Addr → Value → Option Addr → TS) (Wout : WX) (D : Ends) : WX := fun cls d σ H =>
  ∃ b, PySem.W.exmOne K cls c = some b ∧ (b = true → ∀ a, H a = none → ts a cls d { nx := fun σ' H' => H' a = none → D.nx (σ'.set i none) (upd H' a (ExH cls d a)), rt := D.rt, bk := fun σ' H' => D.bk (σ'.set i none) H', ct := fun σ' H' => D.ct (σ'.set i none) H' } (σ.set i (some (.ref a))) H) ∧
    (b = false → Wout cls d σ H)

/-- try: .. except c as n: .. -/
def tTryH (K : PySem.W.Frag) (c : Value) (i : Nat) (tb : WX → TS) (ts : Addr → Value → Option Addr → TS) (Wout : WX) : TS := fun D σ H => tb (wHold K c i ts Wout D) D σ H
theorem w_tryH {K : PySem.W.Frag} {c : Value} {i : Nat} {tb : WX → TS} {ts : Addr → Value → Option Addr → TS} {Wout : WX} {D : Ends} {σ : L2.St} {H : Hp} (h : tb (wHold K c i ts Wout D) D σ H) : tTryH K c i tb ts Wout D σ H := h
section
variable {X : Cx} {x n : Str} {c : Value} {i : Nat} {body suite : List Stmt} {b₀ : Stmt} {np pos pos' : Pos} {tb : WX → TS} {ts : Addr → Value → Option Addr → TS} {Wout : WX}
theorem ps_try_hold (hs : X.stack = X.env :: X.outer) (hf : X.env.frame = some X.env.locals) (hex : X.ex = []) (hN : X.N.Nodup) (hi : X.N[i]? = some n) (hln : X.env.kindOf n = some .local) (hc : Names X x c) (tk : Takes X Wout)
    (hb : ∀ (W : WX) (pn : List (Addr × Obj)) (xe : Value → Shared → Prop), Takes (X.tr pn xe) W → PassesOwn (model X.prog X.w) X.A X.env xe → PSs (X.tr pn xe) body (tb W))
    (hsu : ∀ (a : Addr) (oe : Obj) (cls : Value) (d : Option Addr) (pn : List (Addr × Obj)), Zc cls d oe → (∃ vs, oe.data = .fields vs) → PSs (X.suite a ((a, oe) :: pn)) (b₀ :: suite) (ts a cls d)) :
    PS X (.Try body [.ExceptHandler (some (.Name x np)) (some n) (b₀ :: suite) pos'] [] [] pos) (tTryH X.K c i tb ts Wout) := by
  refine ⟨fun pins s σ H D I h => ?_⟩
  have ok := I.ok
  have hfr : X.A.frames = some (X.env :: X.outer) := by rw [ok.frames, hs]
  have hloc : Loc X.env.scope n := .inl hln
  refine wpAny_Try_except ?_
  refine wpAny_mono ((hb (wHold X.K c i ts Wout D) (X.pn ++ pins) (fun e s₁ => wpAny (model X.prog X.w) X.A (noteFrame e X.env) (fun _ s₂ => wpAny (model X.prog X.w) X.A (setFlight e none) (fun _ s₃ =>
    wpAny (model X.prog X.w) X.A (handleBy e X.env [.ExceptHandler (some (.Name x np)) (some n) (b₀ :: suite) pos']) (SP X pins D) X.xe s₃) X.xe s₂) X.xe s₁) (fun u s' xx => ?_) PassesOwn.looking).run [] s σ H D (I.toTry _) h) (fun f s1 hsp => ?_) (fun e s1 he => he)
  · -- the catch
    obtain ⟨a, B, sI, pins', σ', H', cls, d, rfl, J', nb, up, sky, na, os, ag, b, hb1, hyes, hno⟩ := xx
    have J : Inv X pins σ' H' sI := J'.ofTry ok
    have sky' : Sky B (X.env :: X.outer) a (Zc cls d) X.env.locals s'.heap := by rw [← hs]; exact sky
    show wpAny (model X.prog X.w) X.A (noteFrame (.ref a) X.env) _ _ _
    refine Sky.land Zc.steady hfr hf sky' fun h3 fl3 up3 => ?_
    have J3 : Inv X pins σ' H' { s' with heap := h3 } := J.landed nb fl3.1 (up.trans up3) os ag
    obtain ⟨oe3, vs3, he3, hz3, hd3⟩ := fl3.there
    have notFr : ∀ {h : Heap} {o : Obj} {vs : Array Value}, h.FunFrames B (X.env :: X.outer) → h.get? a = some o → o.data = .fields vs → a ∉ frs (X.env :: X.outer) := fun {h o vs} ff e dd hm => by
      obtain ⟨_, o', e', hnf⟩ := ff.mem hm
      rw [e] at e'; cases e'
      exact hnf _ dd
    have nfr := notFr fl3.2.2.1 he3 hd3
    have nL : a ≠ X.env.locals := fun z => nfr (List.mem_filterMap.mpr ⟨X.env, List.mem_cons_self, by rw [hf, z]⟩)
    have nF : a ∉ X.fs := fun hm => by
      obtain ⟨e, he, q⟩ := List.mem_filterMap.mp hm
      exact nfr (List.mem_filterMap.mpr ⟨e, List.mem_cons_of_mem _ he, q⟩)
    have nI : sI.heap.get? a = none := by
      cases q : sI.heap.get? a with
      | none => rfl
      | some o =>
        have z := nb a o q (by rw [hs]; exact nfr)
        have y : B.get? a = none := fl3.2.1
        rw [y] at z
        cases z
    have n0 : X.s_0.heap.get? a = none := by
      cases q : X.s_0.heap.get? a with
      | none => rfl
      | some o =>
        obtain ⟨o', z⟩ := J.base.there a o q (by rw [hex]; exact fun z => nomatch z)
        rw [nI] at z
        cases z
    have npin : ∀ p ∈ X.pn ++ pins, p.1 ≠ a := fun p hp z => by
      have y := (J.pin p hp).1
      rw [z, nI] at y
      cases y
    have S3 := J3.suite he3 hd3 na nL nF
    refine wpAny_handleBy_cons (codeAny_handlers_test ?_) (by intro q; cases q)
    have LT : PySem.W.Looks (model X.prog X.w) h3 (typeOf (.ref a)) cls := fun A Q E s k q => wpAny_typeOf_ref (k _ _ he3) (by rw [hz3.1]; exact q)
    have LM := PySem.W.exm_one (M := model X.prog X.w) (J3.kIn) LT hb1
    have test : ∀ {Q : Value → Shared → Prop} {E : Value → Shared → Prop}, Q c { s' with heap := h3 } → wpAny (model X.prog X.w) (X.A.mark (some (.ref a))) (eval (.Name x np) X.env) Q E { s' with heap := h3 } := fun {Q E} q => by
      obtain ⟨hg, hdbg, hm | ⟨hm, hv, hnn⟩⟩ := hc
      · exact ld_glob (X := X.suite a ((a, oe3) :: (X.pn ++ pins))) S3 hg hm q hdbg
      · exact ld_blt (X := X.suite a ((a, oe3) :: (X.pn ++ pins))) S3 hg hm hv q hnn hdbg
    refine test (LM.here ?_)
    cases b with
    | true =>
      refine codeAny_handlers_suite_as ?_
      refine HandSPX.lands_againZ fl3 fun h4 fl4 up4 => ?_
      have J4 : Inv X pins σ' H' { s' with heap := h4 } := J.landed nb fl4.1 ((up.trans up3).trans up4) os ag
      obtain ⟨oe4, vs4, he4, hz4, hd4⟩ := fl4.there
      have S4 := J4.suite he4 hd4 na nL nF
      refine store_ok (X := X.suite a ((a, oe4) :: (X.pn ++ pins))) (v := .ref a) S4 hN hi hloc rfl (fun s5 S5 => ?_) (.inr hln)
      refine wpAny_mono ((hsu a oe4 cls d (X.pn ++ pins) hz4 ⟨_, hd4⟩).run [] s5 _ H' _ S5 (hyes rfl a na)) (fun f s6 hsp => ?_) (fun _ _ z => False.elim z)
      have end_ : ∀ {σ6 : L2.St} {H6 : Hp} {Q : Shared → Prop}, Inv (X.suite a ((a, oe4) :: (X.pn ++ pins))) [] σ6 H6 s6 → (∀ s7, Inv X pins (σ6.set i none) H6 s7 → Q s7) →
          wpAny (model X.prog X.w) X.A (do bindName X.env n .none; unbindBehindTheSuite X.env n pos') (fun _ s7 => Q s7) X.xe s6 := fun {σ6 H6 Q} S6 hq => gone_ok (S6.unsuite ok) hN hi hln hq
      cases f with
      | next =>
        obtain ⟨σ6, H6, S6, q6⟩ := hsp
        have n6 : H6 a = none := (S6.pin (a, oe4) (by simp)).2.1
        exact gone_ok (Inv.unsuiteP S6 ok) hN hi hln fun s7 J7 => ⟨_, _, Inv.track J7 hz4 hd4 n0 npin, q6 n6⟩
      | brk =>
        obtain ⟨σ6, H6, S6, q6⟩ := hsp
        exact end_ S6 fun s7 J7 => ⟨_, _, J7, q6⟩
      | cont =>
        obtain ⟨σ6, H6, S6, q6⟩ := hsp
        exact end_ S6 fun s7 J7 => ⟨_, _, J7, q6⟩
      | ret u =>
        obtain ⟨v6, σ6, H6, S6, r6, q6⟩ := hsp
        exact end_ S6 fun s7 J7 => ⟨_, _, _, J7, r6, q6⟩
    | false =>
      show wpAny _ X.A (handleBy (.ref a) X.env []) _ _ _
      refine wpAny_handleBy_nil ?_
      obtain ⟨k1, k2, k3, oe, vs, T, oT, ts', he, hz, hd, h1, hr⟩ := id fl3
      unfold PySem.passOn
      refine wpAny_bind (wpAny_field he hd h1 ?_)
      rw [if_neg (show ¬ ((Value.ref T == Value.none) = true) from by simp)]
      have fin : wpAny (model X.prog X.w) X.A (setFlight (.ref a) X.env.frame) (fun _ s4 => wpAny (model X.prog X.w) X.A (throw (.ref a) : Sem Flow) (SP X pins D) X.xe s4) X.xe { s' with heap := h3 } := by
        rw [hf]
        refine HandSPX.setFlight_upZ fl3 fun h4 hh4 up4 => wpAny_throw (tk _ _ ?_)
        exact ⟨a, B, sI, pins, σ', H', cls, d, rfl, J, nb, (up.trans up3).trans up4, .inr (.inr (by rw [hs]; exact hh4)), na, os, ag, hno rfl⟩
      first
        | exact wpAny_bind (wpAny_pure (wpAny_bind fin))
        | exact wpAny_bind fin
  · cases f with
    | next =>
      obtain ⟨σ', H', J', q⟩ := hsp
      exact wpAny_execs_nil ⟨σ', H', J'.ofTry ok, q⟩
    | brk =>
      obtain ⟨σ', H', J', q⟩ := hsp
      exact ⟨σ', H', J'.ofTry ok, q⟩
    | cont =>
      obtain ⟨σ', H', J', q⟩ := hsp
      exact ⟨σ', H', J'.ofTry ok, q⟩
    | ret u =>
      obtain ⟨v, σ', H', J', r, q⟩ := hsp
      exact ⟨v, σ', H', J'.ofTry ok, r, q⟩
end

/-! ### its fields, isinstance -/
section
variable {X : Cx}
/-- e.f, e held -/
def tXh (K : PySem.W.Frag) (f : Str) (te : TE) : TE := fun σ H Q => te σ H fun x H1 => ∃ (a C dd : Addr) (fs : List (Str × V)) (v : V), x = .ref a ∧ H1 a = some (ExH (.ref C) (some dd) a) ∧ XfC K C ∧ PySem.W.findIn K (.ref C) f = some none ∧ H1 dd = some (.xd fs) ∧ fs.lookup f = some v ∧ Q v H1
theorem pe_xh {e : Expr} {te : TE} {pos : Pos} {n : Str} (he : PE X e te) (hb : attributeBase e n X.env (eval e X.env) = eval e X.env := by rfl) : PE X (.Attribute e n pos) (tXh X.K n te) := by
  refine ⟨fun pins s σ H Q I h => ?_⟩
  refine attr_of hb (thn (he.run pins s σ H _ I h) fun u s1 hh => ?_)
  obtain ⟨x, H1, I1, rx, a, C, dd, fs, v, ex, ea, T, hno, ed, l, q⟩ := hh
  subst ex
  obtain rfl : u = Value.ref a := rx
  obtain ⟨oe, vs, ha, hz, hd⟩ := exH_at I1.hok ea
  have hx : ObjOk X.prog X.w H1 s1.heap dd (.xd fs) := I1.hok dd _ ed
  obtain ⟨mA, hns, hr⟩ := hx
  obtain ⟨od, ho, hl⟩ := lookIn_ns hns
  obtain ⟨u, hu, ru⟩ := RelO.some_of (v := v) (o := mA n) (by rw [← l]; exact hr n)
  have J : PySem.W.InstAt s1.heap a oe C (some od) := ⟨ha, hz.1, by unfold PySem.W.notCls; rw [hd] <;> rfl, by rw [hz.2]; exact ho⟩
  exact HandSPX.exc_get I1.kIn J T.ga T.gg T.exC (PySem.W.findObj_own T.hdC hno rfl (by rw [hl, hu])) (handed_of ru) ⟨v, H1, I1.tok _, ru, q⟩
end
theorem w_xh {K : PySem.W.Frag} {f : Str} {σ : L2.St} {H : Hp} {Q : VK} {i : Nat} {a C dd : Addr} {fs : List (Str × V)} {v : V} (hσ : σ[i]? = some (some (.ref a))) (ea : H a = some (ExH (.ref C) (some dd) a)) (T : XfC K C) (no : PySem.W.findIn K (.ref C) f = some none) (ed : H dd = some (.xd fs)) (l : fs.lookup f = some v) (q : Q v H) : tXh K f (tVar i) σ H Q :=
  ⟨_, hσ, a, C, dd, fs, v, rfl, ea, T, no, ed, l, q⟩
/-! ### isinstance of a held exception -/
section
variable {X : Cx} {pins : List (Addr × Obj)} {σ : L2.St} {H : Hp} {s : Shared}
/-- isinstance(e, c), e held, its dict's fields fs -/
def rIsH (K : PySem.W.Frag) : List V → Hp → VK → Prop := fun xs H Q => ∃ (a C dd : Addr) (fs : List (Str × V)) (c : V) (u : Value) (b : Bool), xs = [.ref a, c] ∧ ClsV c u ∧ H a = some (ExH (.ref C) (some dd) a) ∧ ExcC K C ∧ H dd = some (.xd fs) ∧ PySem.W.kitOne K (.ref C) u = some b ∧ Q (.bl b) H
def rIsHT (K : PySem.W.Frag) : List V → Hp → VK → Prop := fun xs H Q => ∃ (a C dd : Addr) (fs : List (Str × V)) (tp : Addr) (cs : List V) (us : List Value) (b : Bool), xs = [.ref a, .ref tp] ∧ H tp = some (.tup cs) ∧ Paired ClsV cs us ∧ H a = some (ExH (.ref C) (some dd) a) ∧ ExcC K C ∧ H dd = some (.xd fs) ∧ PySem.W.kitAny K (.ref C) us = some b ∧ Q (.bl b) H
theorem kit_held {a C dd : Addr} {fs : List (Str × V)} (I : Inv X pins σ H s) (ea : H a = some (ExH (.ref C) (some dd) a)) (c : ExcC X.K C) (ed : H dd = some (.xd fs)) :
    ∃ P : Heap → Prop, PySem.W.KitX X.K (.ref a) (.ref C) P ∧ P s.heap := by
  obtain ⟨oe, vs, ha, hz, hd⟩ := exH_at I.hok ea
  have hx : ObjOk X.prog X.w H s.heap dd (.xd fs) := I.hok dd _ ed
  obtain ⟨mA, hns, hr⟩ := hx
  obtain ⟨od, ho, hl⟩ := lookIn_ns hns
  have J : PySem.W.InstAt s.heap a oe C (some od) := ⟨ha, hz.1, by unfold PySem.W.notCls; rw [hd] <;> rfl, by rw [hz.2]; exact ho⟩
  exact ⟨_, PySem.W.kitx_exc (ox := oe) (od := some od) (by obtain ⟨cd, hc, _⟩ := PySem.W.any_some c.hd; rw [hc] <;> rfl) c.hg c.hk c.hs c.ha c.hn c.ht c.hm, J⟩
theorem call_isH : CallR X (.builtin "isinstance") (rIsH X.K) := by
  intro pins s σ H xs us Q I r h
  obtain ⟨a, C, dd, fs, c, u, b, rfl, k, ea, ec, ed, e, q⟩ := h
  obtain ⟨u1, u2, rfl, r1, r2⟩ := vals2 r
  have e2 := k.eq r2
  subst e2
  cases (show u1 = Value.ref a from r1)
  obtain ⟨P, Z, p⟩ := kit_held I ea ec ed
  exact PySem.W.kia_one Z I.kIn p e (fun z => nomatch z) fun tk => ⟨.bl b, H, I.tok tk, rfl, q⟩
theorem call_isHT : CallR X (.builtin "isinstance") (rIsHT X.K) := by
  intro pins s σ H xs us Q I r h
  obtain ⟨a, C, dd, fs, tp, cs, ws, b, rfl, hT, k, ea, ec, ed, e, q⟩ := h
  obtain ⟨u1, u2, rfl, r1, r2⟩ := vals2 r
  cases (show u2 = Value.ref tp from r2)
  cases (show u1 = Value.ref a from r1)
  obtain ⟨P, Z, p⟩ := kit_held I ea ec ed
  obtain ⟨_, its, rv, o, h1, h2, n, h3⟩ := (show ObjOk X.prog X.w H s.heap tp (.tup cs) from I.hok tp _ hT)
  have e3 := ClsV.all k rv
  subst e3
  obtain ⟨oc, od, dt, sl⟩ := o
  simp only at h2 h3
  subst h2 h3
  exact PySem.W.kia_tup Z I.kIn p h1 e (fun z => nomatch z) fun tk => ⟨.bl b, H, I.tok tk, rfl, q⟩
end
end Fg
namespace Fg
open PySem PySem.Spec PyProof.Rows L2

/-! ### an own exception class, by a Bool -/
def oexB (K : PySem.W.Frag) (C : Addr) : Bool := match K.lookup C with
  | some ⟨.type "type", _, .cls cd, sl⟩ => (match cd.mro, sl.toList with
    | .ref C' :: bm, [_, _, _, _, some (.builtin n), _] => C' == C && n == "ValueError.__new__" && !cd.hasDel && cd.hasDict && PySem.HandSPX.refsVE bm
    | _, _ => false)
  | _ => false
theorem oexB_ok {K : PySem.W.Frag} {C : Addr} (q : oexB K C = true) : ∃ nm q N bs bm sn sub ab col dd k0 k1 k2 k3 k5, K.lookup C = some (excClassObj nm q C N bs bm true sn sub ab col dd k0 k1 k2 k3 k5 "ValueError.__new__") ∧ PySem.HandSPX.refsVE bm = true := by
  unfold oexB at q
  split at q
  · rename_i dd cd sl ho
    split at q
    · rename_i C' bm k0 k1 k2 k3 n k5 hm hs
      simp only [Bool.and_eq_true, beq_iff_eq, Bool.not_eq_true'] at q
      obtain ⟨⟨⟨⟨rfl, rfl⟩, hdel⟩, hh⟩, hr⟩ := q
      obtain ⟨nm, bs, mro, ns, qn, hd, sn, sub, ab, col, del⟩ := cd
      dsimp only at hm hdel hh
      subst hm hdel hh
      have hsl : sl = #[k0, k1, k2, k3, some (.builtin "ValueError.__new__"), k5] := by
        obtain ⟨l⟩ := sl
        simp only at hs
        rw [hs]
      subst hsl
      exact ⟨nm, qn, ns, bs, bm, sn, sub, ab, col, dd, k0, k1, k2, k3, k5, ho, hr⟩
    · cases q
  · cases q
/-- all that is asked of an own exception class -/
structure XCl (K : PySem.W.Frag) (C : Addr) : Prop where
  xf : XfC K C
  is : ExcC K C
  ox : OexC K C
def xclB (K : PySem.W.Frag) (C : Addr) : Bool :=
  oexB K C && (decide (PySem.W.findIn K (.ref C) "__getattribute__" = some (some (.builtin "BaseException.__getattribute__"))) && (decide (PySem.W.findIn K (.ref C) "__getattr__" = some none) && (decide (PySem.W.subIn K (.ref C) (.type "BaseException") = some true) && (PySem.W.hasDictIn K C &&
  (decide (PySem.W.findIn K (.ref C) "__class__" = some (some (.builtin "object.__class__"))) && (decide (PySem.W.specialIn K (.builtin "object.__class__") "__get__" = some (some (.builtin "getset_descriptor.__get__"))) && (decide (PySem.W.takesIn K (.builtin "object.__class__") = some true) &&
  (decide (PySem.W.mroIn K C (.type "object") = some true) && (decide (PySem.W.findIn K (.ref C) "__setattr__" = some (some (.builtin "object.__setattr__"))) && (decide (PySem.W.typeIn K (.ref C) = some (.type "type")) && PySem.W.keepIn K (.ref C)))))))))))
theorem xclB_ok {K : PySem.W.Frag} {C : Addr} (h : xclB K C = true) : XCl K C := by
  unfold xclB at h
  simp only [Bool.and_eq_true, decide_eq_true_eq] at h
  obtain ⟨h1, h2, h3, h4, h5, h6, h7, h8, h9, h10, h11, h12⟩ := h
  exact ⟨⟨h2, h3, h4, h5⟩, ⟨h2, h3, h4, h5, h6, h7, h8, h9⟩, ⟨oexB_ok h1, h10, h4, h11, h12⟩⟩
/-- its __init__ stands at He.ma -/
structure XIn (K : PySem.W.Frag) (C : Addr) (fs : List Str) : Prop where
  at_ : PySem.W.findIn K (.ref C) "__init__" = some (some (.ref (He.ma K C "__init__")))
  ty : PySem.W.typeIn K (.ref (He.ma K C "__init__")) = some (.type "function")
  no : ∀ f ∈ fs, PySem.W.findIn K (.ref C) f = some none
def xinB (K : PySem.W.Frag) (C : Addr) (fs : List Str) : Bool := decide (PySem.W.findIn K (.ref C) "__init__" = some (some (.ref (He.ma K C "__init__")))) && (decide (PySem.W.typeIn K (.ref (He.ma K C "__init__")) = some (.type "function")) && fs.all fun f => decide (PySem.W.findIn K (.ref C) f = some none))
theorem xinB_ok {K : PySem.W.Frag} {C : Addr} {fs : List Str} (h : xinB K C fs = true) : XIn K C fs := by
  unfold xinB at h
  simp only [Bool.and_eq_true, decide_eq_true_eq, List.all_eq_true] at h
  exact ⟨h.1, h.2.1, h.2.2⟩

/-! ### defs that may raise -/
structure CalX (P : Program) (w : World) (K : PySem.W.Frag) (mg : Str → Option Value) (base : Heap) (k : Nat) (x : Str) (sp : Sp) (dvs : List V) : Prop where
  ex : ∃ (f : Addr) (fd : FuncData) (ps : List Str) (ds : List Value), FnOk P w K mg base (L2.CX P w) k f fd ps sp ∧ mg x = some (.ref f) ∧ PySem.W.keepIn K (.ref f) = true ∧ Binds K fd ps ds ∧ Vals dvs ds
section
variable {X : Cx} {k j n mm : Nat} {x m : Str} {sp : Sp} {dvs : List V} {p pos apos : Pos} {e o : Expr} {es : List Expr} {ta : TE} {t tk : TA} {W : WX}
theorem pe_cx (c : CalX X.prog X.w X.K X.mg X.base k x sp dvs) (hr : Room j X.A) (hk : k ≤ j) (hg : Gl X x) (tk : Takes X W) (ha : PA X (e :: es) t)
    (hdb : (x == ("__debug__" : Str)) = false := by decide) (he : starEach (e :: es) X.env = (false, eval e X.env) :: starEach es X.env := by rfl) (hpl : (backTo pos (starEach es X.env)).any (·.1) = false := by rfl) :
    PE X (.Call (.Name x p) (e :: es) [] pos) (tCallSD sp dvs (WE W) t) := by
  obtain ⟨f, fd, ps, ds, F, hm, kp, b, d⟩ := c.ex
  exact pe_callSD F (hr.mono hk) hg hm kp b d (fun σ => passAt tk σ) ha hdb he hpl
theorem w_callX {σ : L2.St} {H : Hp} {Q : VK} {E : L2.St → XK} (h : t σ H fun vs H1 => sp (vs ++ dvs) H1 Q (E σ)) : tCallSD sp dvs E t σ H Q := h
end
section
variable {P : Program} {w : World} {K : PySem.W.Frag} {mg : Str → Option Value} {base : Heap} {x qual : Str} {st : Stmt} {f : Addr} {fd : FuncData} {sp : Sp} {k : Nat}
theorem FnP.goX {N ps : List Str} {dvs : List V} (F : FnP K x st dvs f fd) (S : FnScope N ps (defScope st)) (len : ∀ vs H Q E, sp vs H Q E → vs.length = ps.length) (t : XK → TS)
    (pure : ∀ (vs : List V) (H : Hp) (Q : VK) (E : XK), sp vs H Q E → t E { nx := fun _ H' => Q .non H', rt := Q } (start N vs) H)
    (hbody : ∀ (cdv : Value) (A : Around) (outer : List Env) (s : Shared) (H : Hp) (E : XK), Room k (A.deeper (envOfC x (defScope st) s.heap.objs.size f cdv)) →
      PSs (cxOf (L2.CX P w) P w K mg base N x (defScope st) f cdv A outer s H E) (defBody st) (t E)) : FnOk P w K mg base (L2.CX P w) (k + 1) f fd ps sp :=
  F.ok S len fun cdv A outer s H vs Q E hr h => ⟨t E, hbody cdv A outer s H E hr, pure vs H Q E h⟩
theorem FnP.calX {ps : List Str} (F : FnP K x st [] f fd) (ok : FnOk P w K mg base (L2.CX P w) k f fd ps sp) (g : mg x = some (.ref f))
    (h : ∀ (kV doc pm : Value) (an : Option Addr) (cdv ct : Value) (us : List Value), us.length = ps.length → bindArgs (PySem.W.fnOf x x (defArgs st) (defBody st) (defScope st) .none kV doc pm an cdv ct) ⟨us, []⟩ = pure (ps.zip us)) : CalX P w K mg base k x sp [] :=
  ⟨f, fd, ps, [], ok, g, F.kp, F.bindsN h, .nil⟩
/-- a method as it stands -/
abbrev MtP (K : PySem.W.Frag) (x qual : Str) (st : Stmt) (f : Addr) (fd : FuncData) : Prop := FunD K x qual (defArgs st) (defBody st) (defScope st) [] [] f fd
theorem MtP.go {N ps : List Str} (F : MtP K x qual st f fd) (S : FnScope N ps (defScope st)) (len : ∀ vs H Q E, sp vs H Q E → vs.length = ps.length) (t : TS)
    (pure : ∀ (vs : List V) (H : Hp) (Q : VK) (E : XK), sp vs H Q E → t { nx := fun _ H' => Q .non H', rt := Q } (start N vs) H)
    (hbody : ∀ (cdv : Value) (A : Around) (outer : List Env) (s : Shared) (H : Hp) (E : XK), Room k (A.deeper (envOfC qual (defScope st) s.heap.objs.size f cdv)) →
      PSs (cxOf CX0 P w K mg base N qual (defScope st) f cdv A outer s H E).nox (defBody st) t) : FnOk P w K mg base CX0 (k + 1) f fd ps sp :=
  F.ok S len fun cdv A outer s H vs Q E hr h => ⟨t, PSs.nox (hbody cdv A outer s H E hr), pure vs H Q E h⟩
end

/-! ### a class whose __init__ stores its arguments -/
/-- the dict's fields behind the stores of fs -/
def xfs : List Str → List V → List (Str × V) → List (Str × V)
  | f :: fs, v :: vs, l => xfs fs vs ((f, v) :: l)
  | _, _, l => l
/-- __init__ of such a class: keeps all but the exception's own -/
def sp_xinit (K : PySem.W.Frag) (C : Addr) (fs : List Str) : Sp := fun vs H Q _ => ∃ (a : Addr) (xs : List V), vs = .ref a :: xs ∧ xs.length = fs.length ∧ OexC K C ∧ (∀ f ∈ fs, PySem.W.findIn K (.ref C) f = some none) ∧ H a = some (exo a C none) ∧
  ∀ dx H', H dx = none → dx ≠ a → H' a = some (exo a C (some dx)) → H' dx = some (exd dx (xfs fs xs [])) → (∀ b, b ≠ a → b ≠ dx → H' b = H b) → Q .non H'
def t_xinit2 (K : PySem.W.Frag) (f g : Str) : TS := tSeq (tOst K f (tVar 0) (tVar 1)) (tOst K g (tVar 0) (tVar 2))
def t_xinit1 (K : PySem.W.Frag) (f : Str) : TS := tOst K f (tVar 0) (tVar 1)
theorem pure_xinit1 {K : PySem.W.Frag} {C : Addr} {f s p : Str} (vs : List V) (H : Hp) (Q : VK) (E : XK) (h : sp_xinit K C [f] vs H Q E) : t_xinit1 K f { nx := fun _ H' => Q .non H', rt := Q } (start [s, p] vs) H := by
  obtain ⟨a, xs, rfl, hl, T, no, ha, q⟩ := h
  match xs, hl with
  | [x], _ =>
    refine ⟨x, rfl, .ref a, rfl, a, C, rfl, T, no f (by simp), .inl ⟨ha, fun dx hd hn => ?_⟩⟩
    refine q dx _ hd hn upd_same ?_ fun b h1 h2 => ?_
    · rw [upd_ne hn, upd_same]
      rfl
    · rw [upd_ne h1, upd_ne h2]
theorem pure_xinit2 {K : PySem.W.Frag} {C : Addr} {f g s p r : Str} (vs : List V) (H : Hp) (Q : VK) (E : XK) (h : sp_xinit K C [f, g] vs H Q E) : t_xinit2 K f g { nx := fun _ H' => Q .non H', rt := Q } (start [s, p, r] vs) H := by
  obtain ⟨a, xs, rfl, hl, T, no, ha, q⟩ := h
  match xs, hl with
  | [x, y], _ =>
    refine ⟨x, rfl, .ref a, rfl, a, C, rfl, T, no f (by simp), .inl ⟨ha, fun dx hd hn => ?_⟩⟩
    refine ⟨y, rfl, .ref a, rfl, a, C, rfl, T, no g (by simp), .inr ⟨dx, [(f, x)], upd_same, ?_, by simp, ?_⟩⟩
    · rw [upd_ne hn, upd_same]
    · refine q dx _ hd hn ?_ upd_same fun b h1 h2 => ?_
      · rw [upd_ne (Ne.symm hn), upd_same]
      · rw [upd_ne h2, upd_ne h1, upd_ne h2]
/-- C(e, ..) raised: a new dict, all else as it was -/
theorem w_mkO {K : PySem.W.Frag} {C : Addr} {fs : List Str} {ta : TA} {σ : L2.St} {H : Hp} {Q : XK} (T : OexC K C) (no : ∀ f ∈ fs, PySem.W.findIn K (.ref C) f = some none)
    (h : ta σ H fun vs H1 => vs.length = fs.length ∧ vs.length ≤ 1000 ∧ ∀ dd H2, Chg [] H1 H2 → H1 dd = none → H2 dd = some (.xd (xfs fs vs [])) → Q (.ref C) (some dd) H2)
    (mono : ∀ {H : Hp} {A B : List V → Hp → Prop}, (∀ vs H1, A vs H1 → B vs H1) → ta σ H A → ta σ H B) : tMkO C (sp_xinit K C fs) [] ta σ H Q := by
  refine mono (fun vs H1 ⟨h1, h2, h3⟩ => ?_) h
  refine ⟨h2, fun a na => ?_⟩
  rw [List.append_nil]
  refine ⟨a, vs, rfl, h1, T, no, upd_same, fun dx H' hd hn ea ed ke => ?_⟩
  have hd1 : H1 dx = none := by
    rw [upd_ne hn] at hd
    exact hd
  refine ⟨rfl, dx, _, ea, ed, hd1, h3 dx _ ⟨fun b o e _ => ?_, fun b e => ?_, fun b xs e => ?_⟩ hd1 upd_same⟩
  · have nb : b ≠ a := ne_of_none e na
    have nd : b ≠ dx := ne_of_none e hd1
    rw [upd_ne nd, del_ne nb, ke b nb nd, upd_ne nb]
    exact e
  · by_cases nd : b = dx
    · rw [nd, upd_same] at e
      cases e
    · rw [upd_ne nd] at e
      by_cases nb : b = a
      · rw [nb]
        exact na
      · rw [del_ne nb, ke b nb nd, upd_ne nb] at e
        exact e
  · have nb : b ≠ a := ne_of_none e na
    have nd : b ≠ dx := ne_of_none e hd1
    rw [upd_ne nd, del_ne nb, ke b nb nd, upd_ne nb]
    exact e

/-! ### raise C(..) -/
structure MkX (P : Program) (w : World) (K : PySem.W.Frag) (mg : Str → Option Value) (base : Heap) (x : Str) (C : Addr) (fs : List Str) : Prop where
  ox : OexC K C
  no : ∀ f ∈ fs, PySem.W.findIn K (.ref C) f = some none
  g : mg x = some (.ref C)
  ini : ∃ (fI : Addr) (fd : FuncData) (ps : List Str), PySem.W.findIn K (.ref C) "__init__" = some (some (.ref fI)) ∧ PySem.W.typeIn K (.ref fI) = some (.type "function") ∧ FnOk P w K mg base CX0 1 fI fd ps (sp_xinit K C fs) ∧ Binds K fd ps []
def tWeak (ta : TA) : TA := fun σ H Q => ∃ A : List V → Hp → Prop, ta σ H A ∧ ∀ vs H1, A vs H1 → Q vs H1
theorem PA.weak {X : Cx} {es : List Expr} {ta : TA} (h : PA X es ta) : PA X es (tWeak ta) := ⟨fun pos pins s σ H Q I ⟨A, hA, k⟩ =>
  wpAny_mono (h.run pos pins s σ H A I hA) (fun us s1 ⟨vs, H1, I1, r, q⟩ => ⟨vs, H1, I1, r, k vs H1 q⟩) fun _ _ x => x⟩
def tRaiseX (C : Addr) (fs : List Str) (E : XK) (ta : TA) : TS := fun _ σ H => ta σ H fun vs H1 => vs.length = fs.length ∧ vs.length ≤ 1000 ∧ ∀ dd H2, Chg [] H1 H2 → H1 dd = none → H2 dd = some (.xd (xfs fs vs [])) → E (.ref C) (some dd) H2
theorem ps_raiseX {X : Cx} {x : Str} {C : Addr} {fs : List Str} {E : XK} {e : Expr} {es : List Expr} {ta : TA} {p pos pos2 : Pos} {j : Nat} (hc : X.calm = true) (M : MkX X.prog X.w X.K X.mg X.base x C fs) (hr : Room j X.A) (hk : 2 ≤ j) (tk : Takes X (fun cls d _ H => E cls d H)) (hg : Gl X x) (ha : PA X (e :: es) ta)
    (hdb : (x == ("__debug__" : Str)) = false := by decide) (he : starEach (e :: es) X.env = (false, eval e X.env) :: starEach es X.env := by rfl) (hpl : (backTo pos (starEach es X.env)).any (·.1) = false := by rfl) :
    PS X (.Raise (some (.Call (.Name x p) (e :: es) [] pos)) none pos2) (tRaiseX C fs E ta) := by
  obtain ⟨fI, fd, ps, iC, tI, F, hb⟩ := M.ini
  have R := ps_raise (pos := pos2) hc tk (pmk_oex (p := p) (pos := pos) (CX := CX0) M.ox iC tI F (hr.mono (by omega)) hb .nil pass0 hg M.g (PA.weak ha) hdb he hpl)
  refine ⟨fun pins s σ H D I h => R.run pins s σ H D I ?_⟩
  refine w_mkO (K := X.K) (fs := fs) M.ox M.no ⟨_, h, fun vs H1 q => q⟩ ?_
  intro H A B k ⟨A', h1, h2⟩
  exact ⟨A', h1, fun vs H1 q => k vs H1 (h2 vs H1 q)⟩
theorem w_raiseX {C : Addr} {fs : List Str} {E : XK} {ta : TA} {D : Ends} {σ : L2.St} {H : Hp} (h : ta σ H fun vs H1 => vs.length = fs.length ∧ vs.length ≤ 1000 ∧ ∀ dd H2, Chg [] H1 H2 → H1 dd = none → H2 dd = some (.xd (xfs fs vs [])) → E (.ref C) (some dd) H2) : tRaiseX C fs E ta D σ H := h
theorem takes0 {X : Cx} : Takes X (fun _ _ _ _ => False) := fun u s' h => by
  obtain ⟨a, B, sI, pins, σ, H, cls, d, e, I, nb, up, sky, na, os, ag, z⟩ := h
  exact z.elim
end Fg
namespace Fg
open PySem PySem.Spec PyProof.Rows L2
/-! ### what is asked of the classes -/
structure XF (K : PySem.W.Frag) : Prop where
  np : XCl K (He.ga K "NoProgram")
  inp : XIn K (He.ga K "NoProgram") ["helper", "at"]
  exm : PySem.W.exmOne K (.ref (He.ga K "NoProgram")) (.ref (He.ga K "WorkError")) = some true
  no : PySem.W.kitAny K (.ref (He.ga K "NoProgram")) [.ref (He.ga K "NoHand"), .ref (He.ga K "NoHelper"), .ref (He.ga K "NoMark"), .ref (He.ga K "NotOver"), .ref (He.ga K "NoText"), .ref (He.ga K "TooLong")] = some false
  yes : PySem.W.kitOne K (.ref (He.ga K "NoProgram")) (.ref (He.ga K "NoProgram")) = some true
  ve : PySem.W.kitOne K (.ref (He.ga K "NoProgram")) (.type "ValueError") = some true
def xfOk (K : PySem.W.Frag) : Bool := xclB K (He.ga K "NoProgram") && (xinB K (He.ga K "NoProgram") ["helper", "at"] && (decide (PySem.W.exmOne K (.ref (He.ga K "NoProgram")) (.ref (He.ga K "WorkError")) = some true) &&
  (decide (PySem.W.kitAny K (.ref (He.ga K "NoProgram")) [.ref (He.ga K "NoHand"), .ref (He.ga K "NoHelper"), .ref (He.ga K "NoMark"), .ref (He.ga K "NotOver"), .ref (He.ga K "NoText"), .ref (He.ga K "TooLong")] = some false) &&
  (decide (PySem.W.kitOne K (.ref (He.ga K "NoProgram")) (.ref (He.ga K "NoProgram")) = some true) && decide (PySem.W.kitOne K (.ref (He.ga K "NoProgram")) (.type "ValueError") = some true)))))
theorem xfOk_ok {K : PySem.W.Frag} (h : xfOk K = true) : XF K := by
  unfold xfOk at h
  simp only [Bool.and_eq_true, decide_eq_true_eq] at h
  obtain ⟨h1, h2, h3, h4, h5, h6⟩ := h
  exact ⟨xclB_ok h1, xinB_ok h2, h3, h4, h5, h6⟩
end Fg
namespace Fg
open PySem PySem.Spec PyProof.Rows L2
/-! ### TooLong, caught by its own name -/
structure XTl (K : PySem.W.Frag) : Prop where
  cl : XCl K (He.ga K "TooLong")
  inn : XIn K (He.ga K "TooLong") ["most"]
  exm : PySem.W.exmOne K (.ref (He.ga K "TooLong")) (.ref (He.ga K "TooLong")) = some true
def xtOk (K : PySem.W.Frag) : Bool := xclB K (He.ga K "TooLong") && (xinB K (He.ga K "TooLong") ["most"] && decide (PySem.W.exmOne K (.ref (He.ga K "TooLong")) (.ref (He.ga K "TooLong")) = some true))
theorem xtOk_ok {K : PySem.W.Frag} (h : xtOk K = true) : XTl K := by
  unfold xtOk at h
  simp only [Bool.and_eq_true, decide_eq_true_eq] at h
  obtain ⟨h1, h2, h3⟩ := h
  exact ⟨xclB_ok h1, xinB_ok h2, h3⟩
theorem w_xf {a C dd : Addr} {cls : Value} {d : Option Addr} {f : Str} {σ : L2.St} {H : Hp} {Q : VK} {i : Nat} {fs : List (Str × V)} {v : V} (hσ : σ[i]? = some (some (.ref a))) (ec : cls = .ref C) (ed : d = some dd) (e : H dd = some (.xd fs)) (l : fs.lookup f = some v) (q : Q v H) : tXf a cls d C f (tVar i) σ H Q :=
  ⟨_, hσ, rfl, ec, dd, fs, v, ed, e, l, q⟩
end Fg
namespace Fg
open PySem PySem.Spec PyProof.Rows L2
local macro_rules | `(tactic| walk_at "len") => `(tactic| first | exact (fun ⟨e, _⟩ => by rw [e]; rfl) | (refine exL ?_; intro _; walk_at "len"))
/-! ### the text -/
def topS (i : Nat) : Stmt := PySem.Challenge.pw_forkgather_k13_long_and_deep.main.body.getD i (.Pass ⟨0, 0, 0, 0⟩)
abbrev s_NoProgram___init__ : Stmt := inClass (topS 2) 0
abbrev s_NoHelper___init__ : Stmt := inClass (topS 3) 0
abbrev s_TooLong___init__ : Stmt := inClass (topS 4) 0
abbrev s_is_whole : Stmt := topS 9
abbrev s_is_name : Stmt := topS 10
abbrev s_is_expression : Stmt := topS 11
abbrev s_is_step : Stmt := topS 12
abbrev s_has_form : Stmt := topS 13
abbrev s_first_wrong : Stmt := topS 14
abbrev s_check : Stmt := topS 15
abbrev s_Outcome___init__ : Stmt := inClass (topS 17) 0
abbrev s_Outcome___eq__ : Stmt := inClass (topS 17) 1
abbrev s_Outcome___len__ : Stmt := inClass (topS 17) 2
abbrev s_Outcome___repr__ : Stmt := inClass (topS 17) 3
abbrev s_Record___init__ : Stmt := inClass (topS 18) 0
abbrev s_Frame___init__ : Stmt := inClass (topS 19) 0
abbrev s_reckon : Stmt := topS 20
abbrev s_start_cells : Stmt := topS 21
abbrev s_not_nought : Stmt := topS 22
abbrev s_helper_rows : Stmt := topS 23
abbrev s_step_done : Stmt := topS 24
abbrev s_trace : Stmt := topS 25
abbrev s_run : Stmt := topS 26
abbrev s__law_cell_at : Stmt := topS 28
abbrev s__law_stir : Stmt := topS 29
abbrev s__law_well : Stmt := topS 30
abbrev s__law_draw : Stmt := topS 31
abbrev s__law_new_name : Stmt := topS 32
abbrev s__law_power : Stmt := topS 33
abbrev s__law_down : Stmt := topS 34
abbrev s__law_added : Stmt := topS 35
abbrev s__law_by_turns : Stmt := topS 36
abbrev s__law_doubled : Stmt := topS 37
abbrev s__law_fourfold : Stmt := topS 38
abbrev s__law_just_enough : Stmt := topS 39
abbrev s__law_most_told : Stmt := topS 40
abbrev s__law_without_end : Stmt := topS 41
abbrev s__law_deeper : Stmt := topS 42
abbrev s_law : Stmt := topS 43
/-! ### the head -/
def d_NoProgram___init__ : He.DefD := ⟨("NoProgram", some "__init__"), "__init__", "NoProgram.__init__", defArgs s_NoProgram___init__, defBody s_NoProgram___init__, defScope s_NoProgram___init__, [], []⟩
def d_NoHelper___init__ : He.DefD := ⟨("NoHelper", some "__init__"), "__init__", "NoHelper.__init__", defArgs s_NoHelper___init__, defBody s_NoHelper___init__, defScope s_NoHelper___init__, [], []⟩
def d_TooLong___init__ : He.DefD := ⟨("TooLong", some "__init__"), "__init__", "TooLong.__init__", defArgs s_TooLong___init__, defBody s_TooLong___init__, defScope s_TooLong___init__, [], []⟩
def d_is_whole : He.DefD := ⟨("is_whole", none), "is_whole", "is_whole", defArgs s_is_whole, defBody s_is_whole, defScope s_is_whole, [], []⟩
def d_is_name : He.DefD := ⟨("is_name", none), "is_name", "is_name", defArgs s_is_name, defBody s_is_name, defScope s_is_name, [], []⟩
def d_is_expression : He.DefD := ⟨("is_expression", none), "is_expression", "is_expression", defArgs s_is_expression, defBody s_is_expression, defScope s_is_expression, [.int 5], []⟩
def d_is_step : He.DefD := ⟨("is_step", none), "is_step", "is_step", defArgs s_is_step, defBody s_is_step, defScope s_is_step, [], []⟩
def d_has_form : He.DefD := ⟨("has_form", none), "has_form", "has_form", defArgs s_has_form, defBody s_has_form, defScope s_has_form, [], []⟩
def d_first_wrong : He.DefD := ⟨("first_wrong", none), "first_wrong", "first_wrong", defArgs s_first_wrong, defBody s_first_wrong, defScope s_first_wrong, [], []⟩
def d_check : He.DefD := ⟨("check", none), "check", "check", defArgs s_check, defBody s_check, defScope s_check, [], []⟩
def d_Outcome___init__ : He.DefD := ⟨("Outcome", some "__init__"), "__init__", "Outcome.__init__", defArgs s_Outcome___init__, defBody s_Outcome___init__, defScope s_Outcome___init__, [], []⟩
def d_Outcome___len__ : He.DefD := ⟨("Outcome", some "__len__"), "__len__", "Outcome.__len__", defArgs s_Outcome___len__, defBody s_Outcome___len__, defScope s_Outcome___len__, [], []⟩
def d_Record___init__ : He.DefD := ⟨("Record", some "__init__"), "__init__", "Record.__init__", defArgs s_Record___init__, defBody s_Record___init__, defScope s_Record___init__, [], []⟩
def d_Frame___init__ : He.DefD := ⟨("Frame", some "__init__"), "__init__", "Frame.__init__", defArgs s_Frame___init__, defBody s_Frame___init__, defScope s_Frame___init__, [], []⟩
def d_reckon : He.DefD := ⟨("reckon", none), "reckon", "reckon", defArgs s_reckon, defBody s_reckon, defScope s_reckon, [.non], []⟩
def d_start_cells : He.DefD := ⟨("start_cells", none), "start_cells", "start_cells", defArgs s_start_cells, defBody s_start_cells, defScope s_start_cells, [], []⟩
def d_not_nought : He.DefD := ⟨("not_nought", none), "not_nought", "not_nought", defArgs s_not_nought, defBody s_not_nought, defScope s_not_nought, [], []⟩
def d_helper_rows : He.DefD := ⟨("helper_rows", none), "helper_rows", "helper_rows", defArgs s_helper_rows, defBody s_helper_rows, defScope s_helper_rows, [], []⟩
def d_step_done : He.DefD := ⟨("step_done", none), "step_done", "step_done", defArgs s_step_done, defBody s_step_done, defScope s_step_done, [], []⟩
def d_trace : He.DefD := ⟨("trace", none), "trace", "trace", defArgs s_trace, defBody s_trace, defScope s_trace, [], []⟩
def d_run : He.DefD := ⟨("run", none), "run", "run", defArgs s_run, defBody s_run, defScope s_run, [.str "main", .int 0, .non, .int 2000], []⟩
def d__law_cell_at : He.DefD := ⟨("_law_cell_at", none), "_law_cell_at", "_law_cell_at", defArgs s__law_cell_at, defBody s__law_cell_at, defScope s__law_cell_at, [], []⟩
def d__law_stir : He.DefD := ⟨("_law_stir", none), "_law_stir", "_law_stir", defArgs s__law_stir, defBody s__law_stir, defScope s__law_stir, [], []⟩
def d__law_well : He.DefD := ⟨("_law_well", none), "_law_well", "_law_well", defArgs s__law_well, defBody s__law_well, defScope s__law_well, [], []⟩
def d__law_draw : He.DefD := ⟨("_law_draw", none), "_law_draw", "_law_draw", defArgs s__law_draw, defBody s__law_draw, defScope s__law_draw, [], []⟩
def d__law_new_name : He.DefD := ⟨("_law_new_name", none), "_law_new_name", "_law_new_name", defArgs s__law_new_name, defBody s__law_new_name, defScope s__law_new_name, [], []⟩
def d__law_power : He.DefD := ⟨("_law_power", none), "_law_power", "_law_power", defArgs s__law_power, defBody s__law_power, defScope s__law_power, [], []⟩
def d__law_down : He.DefD := ⟨("_law_down", none), "_law_down", "_law_down", defArgs s__law_down, defBody s__law_down, defScope s__law_down, [], []⟩
def d__law_added : He.DefD := ⟨("_law_added", none), "_law_added", "_law_added", defArgs s__law_added, defBody s__law_added, defScope s__law_added, [], []⟩
def d__law_by_turns : He.DefD := ⟨("_law_by_turns", none), "_law_by_turns", "_law_by_turns", defArgs s__law_by_turns, defBody s__law_by_turns, defScope s__law_by_turns, [], []⟩
def d__law_doubled : He.DefD := ⟨("_law_doubled", none), "_law_doubled", "_law_doubled", defArgs s__law_doubled, defBody s__law_doubled, defScope s__law_doubled, [], []⟩
def d__law_fourfold : He.DefD := ⟨("_law_fourfold", none), "_law_fourfold", "_law_fourfold", defArgs s__law_fourfold, defBody s__law_fourfold, defScope s__law_fourfold, [], []⟩
def d__law_just_enough : He.DefD := ⟨("_law_just_enough", none), "_law_just_enough", "_law_just_enough", defArgs s__law_just_enough, defBody s__law_just_enough, defScope s__law_just_enough, [], []⟩
def d__law_most_told : He.DefD := ⟨("_law_most_told", none), "_law_most_told", "_law_most_told", defArgs s__law_most_told, defBody s__law_most_told, defScope s__law_most_told, [], []⟩
def d__law_without_end : He.DefD := ⟨("_law_without_end", none), "_law_without_end", "_law_without_end", defArgs s__law_without_end, defBody s__law_without_end, defScope s__law_without_end, [], []⟩
def d__law_deeper : He.DefD := ⟨("_law_deeper", none), "_law_deeper", "_law_deeper", defArgs s__law_deeper, defBody s__law_deeper, defScope s__law_deeper, [], []⟩
def d_law : He.DefD := ⟨("law", none), "law", "law", defArgs s_law, defBody s_law, defScope s_law, [], []⟩
def fn : List He.DefD := [d_is_whole, d_is_name, d_is_expression, d_is_step, d_has_form, d_first_wrong, d_check, d_reckon, d_start_cells, d_not_nought, d_helper_rows, d_step_done, d_trace, d_run, d__law_cell_at, d__law_stir, d__law_well, d__law_draw, d__law_new_name, d__law_power, d__law_down, d__law_added, d__law_by_turns, d__law_doubled, d__law_fourfold, d__law_just_enough, d__law_most_told, d__law_without_end, d__law_deeper, d_law, d_NoHelper___init__, d_NoProgram___init__, d_TooLong___init__, d_Record___init__, d_Frame___init__, d_Outcome___init__, d_Outcome___len__]
def fa : List He.Fa := [.glo "is_whole", .glo "is_name", .glo "is_expression", .glo "is_step", .glo "has_form", .glo "first_wrong", .glo "check", .glo "reckon", .glo "start_cells", .glo "not_nought", .glo "helper_rows", .glo "step_done", .glo "trace", .glo "run", .glo "_law_cell_at", .glo "_law_stir", .glo "_law_well", .glo "_law_draw", .glo "_law_new_name", .glo "_law_power", .glo "_law_down", .glo "_law_added", .glo "_law_by_turns", .glo "_law_doubled", .glo "_law_fourfold", .glo "_law_just_enough", .glo "_law_most_told", .glo "_law_without_end", .glo "_law_deeper", .glo "law", .glo "WorkError", .glo "NoProgram", .glo "NoHelper", .glo "TooLong", .glo "Outcome", .glo "Record", .glo "Frame", .free "ValueError", .free "all", .free "isinstance", .free "int", .free "min", .free "sorted", .free "dict", .free "range", .free "len", .free "list", .free "enumerate", .free "set", .free "sum", .free "bool", .free "str", .free "tuple", .free "zip", .free "max", .cls "Frame", .noat "Frame" "number", .noat "Frame" "path", .noat "Frame" "rows", .noat "Frame" "arg", .noat "Frame" "at", .noat "Frame" "past", .noat "Frame" "born", .cls "Record", .noat "Record" "mark", .noat "Record" "word", .noat "Record" "doer", .noat "Record" "child", .noat "Record" "reads", .noat "Record" "writes", .cls "Outcome", .noat "Outcome" "cells", .noat "Outcome" "given", .noat "Outcome" "steps", .noat "Outcome" "deepest", .mkr "Record", .mkr "Frame", .mkr "Outcome", .meth "Outcome" "__len__", .str "LETTERS" letters, .int "LONGEST_NAME" 8, .glo "PARTS"]
def ts : List He.Tab := [(fun K => He.ga K "PARTS", partK)]
def ex (K : PySem.W.Frag) : Bool := He.valsB K (He.ga K "PARTS") partV && (xtOk K && (xclB K (He.ga K "NoHelper") && (xinB K (He.ga K "NoHelper") ["name"] && (xclB K (He.ga K "NoProgram") && (xinB K (He.ga K "NoProgram") ["helper", "at"] && (xclB K (He.ga K "TooLong") && (xinB K (He.ga K "TooLong") ["most"])))))))
abbrev R0 : PySem.W.OpenRow := PySem.W.OpenLaw.row PySem.Challenge.rw_forkgather_k13_long_and_deep
abbrev hk : PySem.W.Hook := He.hookX 5 fa fn ts [] ex
def ob (s : PySem.W.SharedT) : He.AlX := He.obsX 5 fa fn ts [] ex (HandSHeadRun.getT s)
theorem ob_eq (s : PySem.W.SharedT) : ob s = hk.obs s.abs := He.obsX_eq (HandSHeadRun.getT_eq s)
def names : List Str := [Str.ofString "WorkError", Str.ofString "NoProgram", Str.ofString "NoHelper", Str.ofString "TooLong", Str.ofString "LETTERS", Str.ofString "LONGEST_NAME", Str.ofString "PARTS", Str.ofString "is_whole", Str.ofString "is_name", Str.ofString "is_expression", Str.ofString "is_step", Str.ofString "has_form", Str.ofString "first_wrong", Str.ofString "check", Str.ofString "Outcome", Str.ofString "Record", Str.ofString "Frame", Str.ofString "reckon", Str.ofString "start_cells", Str.ofString "not_nought", Str.ofString "helper_rows", Str.ofString "step_done", Str.ofString "trace", Str.ofString "run", Str.ofString "_law_cell_at", Str.ofString "_law_stir", Str.ofString "_law_well", Str.ofString "_law_draw", Str.ofString "_law_new_name", Str.ofString "_law_power", Str.ofString "_law_down", Str.ofString "_law_added", Str.ofString "_law_by_turns", Str.ofString "_law_doubled", Str.ofString "_law_fourfold", Str.ofString "_law_just_enough", Str.ofString "_law_most_told", Str.ofString "_law_without_end", Str.ofString "_law_deeper"]
theorem run_f (w : World) : HandSHeadRun.RunEq R0 (PySem.W.view R0.prog [43]) hk ob 6000 names (w.withFollow "special-get-raises" false) := fun os => by kernel_rfl
theorem run_t (w : World) : HandSHeadRun.RunEq R0 (PySem.W.view R0.prog [43]) hk ob 6000 names (w.withFollow "special-get-raises" true) := fun os => by kernel_rfl
theorem run (w : World) : HandSHeadRun.RunEq R0 (PySem.W.view R0.prog [43]) hk ob 6000 names w :=
  PySem.W.byRow2 "special-get-raises" (P := fun w => HandSHeadRun.RunEq R0 (PySem.W.view R0.prog [43]) hk ob 6000 names w) run_f run_t w
end Fg
namespace Fg
open PySem PySem.Spec PyProof.Rows L2
/-! ### the walk's small steps -/
local macro_rules | `(tactic| walk_at "hp") => `(tactic| first
  | assumption
  | exact upd_same
  | (refine Chg.at (by assumption) ?_; walk_at "hp")
  | (refine Chg.at1 (by assumption) ?_ (by walk_at "ne"); walk_at "hp"))
local macro_rules | `(tactic| walk_at "ne") => `(tactic| first | assumption | (apply Ne.symm; assumption))
local macro_rules | `(tactic| walk_at "sq") => `(tactic| first | assumption | exact sqL (by walk_at "hp") | (refine Chg.seq (by assumption) ?_; walk_at "sq"))
local macro_rules | `(tactic| walk_at "sz") => `(tactic| first | assumption | exact Nat.zero_le _ | (simp only [List.length_cons, List.length_nil]; decide) | exact Nat.le_trans (by first | omega | (simp; done) | (simp; omega)) (show 100000 ≤ sizeLine by decide) | exact Nat.lt_of_lt_of_le (by first | omega | (simp; done) | (simp; omega)) (show 100000 ≤ sizeLine by decide))
local macro_rules | `(tactic| walk_at "ix") => `(tactic| first | exact at0 | exact at1 | exact at2 | exact at3 | assumption | exact rfl | walk_at "ix2")
local macro_rules | `(tactic| walk_at "ix2") => `(tactic| fail)
local macro_rules | `(tactic| walk_at "num") => `(tactic| first | assumption | omega | decide | walk_at "num2")
local macro_rules | `(tactic| walk_at "num2") => `(tactic| fail)
local macro_rules | `(tactic| walk_at "im") => `(tactic| first | assumption | exact R.non (S := fun _ => False) | exact R.bl (S := fun _ => False) _ | exact R.int (S := fun _ => False) _ | exact R.str (S := fun _ => False) _ | (refine R.im (by assumption) ?_; walk_at "im"))
local macro_rules | `(tactic| walk_at "r") => `(tactic| first | assumption | exact R.non (S := fun _ => False) | exact R.bl (S := fun _ => False) _ | exact R.int (S := fun _ => False) _ | exact R.str (S := fun _ => False) _ | (refine R.same (by assumption) ?_; walk_at "r") | exact R.any (by walk_at "im"))
local macro_rules | `(tactic| walk_at "chg") => `(tactic| first
  | exact Chg.refl
  | assumption
  | (refine Chg.same ?_ (by assumption); walk_at "chg")
  | (refine Chg.both ?_ (by assumption); walk_at "chg")
  | (refine Chg.pre (by assumption) ?_; walk_at "chg"))
local macro_rules | `(tactic| walk_at "w1") => `(tactic| first
  | with_reducible apply w_seq
  | with_reducible apply w_asg
  | ((with_reducible apply w_var); (focus (exact rfl)))
  | with_reducible apply w_c
  | with_reducible apply w_op
  | with_reducible apply w_cons
  | with_reducible apply w_nil
  | with_reducible apply w_gName
  | with_reducible apply w_if
  | with_reducible apply w_test
  | with_reducible apply w_B
  | with_reducible apply w_isbl
  | with_reducible apply w_retN
  | with_reducible apply w_next
  | with_reducible apply w_drop
  | with_reducible apply w_cb
  | with_reducible apply w_call
  | with_reducible apply w_callN
  | with_reducible apply w_bm
  | with_reducible apply w_bm0
  | ((with_reducible apply w_tyL); (focus (walk_at "hp"; done)))
  | with_reducible apply w_dput
  | with_reducible apply w_m1
  | with_reducible apply w_isstr
  | with_reducible apply w_and
  | with_reducible apply w_or
  | with_reducible apply w_not
  | with_reducible apply w_andV
  | with_reducible apply w_orV
  | with_reducible apply w_notV
  | with_reducible apply w_ifE
  | with_reducible apply w_chain
  | with_reducible apply w_un
  | with_reducible apply w_neg
  | with_reducible apply w_add
  | with_reducible apply w_sub
  | ((with_reducible apply w_mod); (focus (walk_at "num"; done)))
  | ((with_reducible apply w_mul); (focus (walk_at "num"; done)))
  | ((with_reducible apply w_fdiv); (focus (walk_at "num"; done)))
  | ((with_reducible apply w_pow); (focus (walk_at "num"; done)))
  | with_reducible apply w_lt
  | with_reducible apply w_le
  | with_reducible apply w_gt
  | with_reducible apply w_ge
  | with_reducible apply w_ltS
  | with_reducible apply w_geS
  | with_reducible apply w_inC
  | with_reducible apply w_notInC
  | with_reducible apply w_isN
  | with_reducible apply w_notN
  | with_reducible apply w_isB
  | with_reducible apply w_notB
  | ((with_reducible apply w_addS); (focus (walk_at "sz"; done)))
  | ((with_reducible apply w_ixL); (focus (walk_at "sq"; done)); (focus (walk_at "ix"; done)))
  | ((with_reducible apply w_ixT); (focus (walk_at "hp"; done)); (focus (walk_at "ix"; done)))
  | ((with_reducible apply w_ixS); (focus (walk_at "sz"; done)); (focus (walk_at "ix"; done)))
  | with_reducible apply w_gSub
  | ((with_reducible apply w_gTup); (focus (walk_at "hp"; done)); (focus (exact rfl)))
  | with_reducible apply w_gCons
  | with_reducible apply w_gNil
  | ((with_reducible apply w_aug); (focus (exact rfl)))
  | with_reducible apply w_ipI
  | ((with_reducible apply w_eq); (focus (exact rfl)))
  | ((with_reducible apply w_ne); (focus (exact rfl)))
  | with_reducible apply w_max
  | with_reducible apply w_min
  | with_reducible apply w_abs
  | with_reducible apply w_intB
  | with_reducible apply w_intI
  | with_reducible apply w_tup1
  | with_reducible apply w_lst1
  | with_reducible apply w_sl
  | with_reducible apply w_part
  | with_reducible apply w_noPart
  | with_reducible apply w_isint
  | ((with_reducible apply w_slS); (focus (walk_at "sz"; done)))
  | with_reducible apply w_iteT
  | with_reducible apply w_iteF
  | with_reducible apply w_iteN
  | ((with_reducible apply w_iteYes); (focus (exact rfl)))
  | ((with_reducible apply w_iteNo); (focus (exact rfl)))
  | ((with_reducible apply w_lenL); (focus (walk_at "sq"; done)))
  | ((with_reducible apply w_lenT); (focus (walk_at "hp"; done)))
  | ((with_reducible apply w_lenS); (focus (walk_at "sz"; done)))
  | with_reducible apply w_lc
  | with_reducible apply w_for
  | with_reducible apply w_yes
  | ((with_reducible apply w_wipe); (focus (exact rfl)))
  | with_reducible apply w_iList
  | with_reducible apply w_iTup
  | with_reducible apply w_iStr
  | with_reducible apply w_iRng1
  | with_reducible apply w_iRng2
  | with_reducible apply w_iZip
  | with_reducible apply w_iEnum
  | ((with_reducible apply d_iList); (focus (walk_at "sq"; done)))
  | ((with_reducible apply d_iTup); (focus (walk_at "hp"; done)))
  | with_reducible apply d_iStr
  | ((with_reducible apply d_iRng1); (focus (walk_at "num"; done)); (focus (walk_at "num"; done)))
  | ((with_reducible apply d_iRng2); (focus (walk_at "num"; done)); (focus (walk_at "num"; done)); (focus (walk_at "num"; done)); (focus (walk_at "num"; done)))
  | ((with_reducible apply d_iZip); (focus (walk_at "sq"; done)); (focus (walk_at "sq"; done)))
  | ((with_reducible apply d_iEnum); (focus (walk_at "sq"; done)))
  | walk_at "w2")
local macro_rules | `(tactic| walk_at "w2") => `(tactic| fail)
local macro_rules | `(tactic| walk_at "wn") => `(tactic| repeat walk_at "w1")
local macro_rules | `(tactic| walk_at "w") => `(tactic| repeat (first | walk_at "w1" | with_reducible apply w_ret))

local macro_rules | `(tactic| walk_at "w2") => `(tactic| first
  | ((with_reducible apply w_isInt); (focus (walk_at "r"; done)))
  | ((with_reducible apply w_isBool); (focus (walk_at "r"; done)))
  | ((with_reducible apply w_isStr); (focus (walk_at "r"; done)))
  | ((with_reducible apply w_isTup); (focus (walk_at "r"; done)))
  | ((with_reducible apply w_isLst); (focus (walk_at "r"; done)))
  | ((with_reducible apply w_notInP); (focus (assumption)))
  | ((with_reducible apply w_ixP); (focus (assumption)); (focus (assumption))))

abbrev fin (Q : VK) : Ends := { nx := fun _ H' => Q .non H', rt := Q }
def t_is_whole (K : PySem.W.Frag) : TS :=
    tRet (tAndV (tCB (rIsi K) (tCons (tVar 0) (tCons (tC (.ty "int")) (tNil)))) (tNotV (tCB (rIsi K) (tCons (tVar 0) (tCons (tC (.ty "bool")) (tNil))))))
def sp_is_whole : Sp := fun vs H Q _ => ∃ (v : V) (d : PyData) (S : Addr → Prop), vs = [v] ∧ R S H v d ∧ Q (.bl (isWhole d)) H
theorem pure_is_whole {K : PySem.W.Frag} (vs : List V) (H : Hp) (Q : VK) (E : XK) (h : sp_is_whole vs H Q E) : t_is_whole K (fin Q) (start ["thing"] vs) H := by
  obtain ⟨v, d, S, rfl, r, q⟩ := h
  show t_is_whole K _ [some v] H
  unfold t_is_whole
  walk_at "w"
  cases d <;> (walk_at "w"; exact q)
def t_is_name (K : PySem.W.Frag) : TS :=
    tSeq (tIfS (tOr (tNot (tB (tCB (rIsi K) (tCons (tVar 0) (tCons (tC (.ty "str")) (tNil)))))) (tOr (tTest (tOp oLt (tCB cLenS (tCons (tVar 0) (tNil))) (tC (.int 1)))) (tTest (tOp oGt (tCB cLenS (tCons (tVar 0) (tNil))) (tC (.int 8)))))) (tRet (tC (.bl false))) (tNext))
    (tRet (tCB (rAll K) (tCons (tLc (iStr (tVar 0)) (gName 1) (tYes) (tOp oInC (tVar 1) (tC (.str letters))) [1]) (tNil))))
def sp_is_name : Sp := fun vs H Q _ => ∃ (v : V) (d : PyData) (S : Addr → Prop), vs = [v] ∧ R S H v d ∧ (∀ x, d = .str x → x.length ≤ 100000) ∧ ∀ H', Chg [] H H' → Q (.bl (isName d)) H'
theorem pure_is_name {K : PySem.W.Frag} (vs : List V) (H : Hp) (Q : VK) (E : XK) (h : sp_is_name vs H Q E) : t_is_name K (fin Q) (start ["thing", "sign"] vs) H := by
  obtain ⟨v, d, S, rfl, r, hx, q⟩ := h
  show t_is_name K _ [some v, none] H
  unfold t_is_name
  walk_at "w"
  have q0 := q H .refl
  cases r with
  | str x =>
    have hz := hx x rfl
    walk_at "w"
    refine w_iteD (fun h => ?_) (fun h => ?_)
    · walk_at "w"
      have e : isName (.str x) = false := by
        show (decide (1 ≤ x.length) && decide (x.length ≤ 8) && x.cps.toList.all isLow) = false
        rw [decide_eq_false (by omega)]
        rfl
      rw [e] at q0
      exact q0
    walk_at "w"
    refine w_iteD (fun h2 => ?_) (fun h2 => ?_)
    · walk_at "w"
      have e : isName (.str x) = false := by
        show (decide (1 ≤ x.length) && decide (x.length ≤ 8) && x.cps.toList.all isLow) = false
        rw [decide_eq_false (p := x.length ≤ 8) (by omega), Bool.and_false]
        rfl
      rw [e] at q0
      exact q0
    walk_at "w"
    have hl : x.cps.size ≤ 100000 := hz
    refine w_lcP walk_str [] (fun _ _ => True) (fun i y _ => ∃ c, x.cps[i]? = some c ∧ y = .bl (isLow c)) trivial (fun _ _ _ _ _ _ _ => trivial) (fun _ _ => trivial) (fun D i acc z H1 H2 hi nD hD el iv c _ y => ?_) (fun D acc H1 nD c _ el hD ys => ?_)
    · obtain ⟨rfl, ch, ec, rfl⟩ := y
      walk_at "w"
      exact lcp_end (fun _ _ _ _ _ _ _ => trivial) (fun _ _ _ _ _ _ _ h => h) nD (by simp) hD el (by omega) iv .refl trivial ⟨ch, ec, rfl⟩
    · have e : acc = (x.cps.toList.map isLow).map V.bl := by
        refine all_bl el (by simp) fun i y hy => ?_
        obtain ⟨ch, ec, rfl⟩ := ys i y hy
        refine ⟨isLow ch, ?_, rfl⟩
        rw [List.getElem?_map, Array.getElem?_toList, ec]
        rfl
      subst e
      walk_at "w"
      refine w_all hD ?_
      have e2 : (x.cps.toList.map isLow).all id = isName (.str x) := by
        show _ = (decide (1 ≤ x.length) && decide (x.length ≤ 8) && x.cps.toList.all isLow)
        rw [decide_eq_true (by omega), decide_eq_true (by omega), List.all_map]
        rfl
      walk_at "w"
      rw [e2]
      exact q H1 c
  | _ => 
    walk_at "w"
    exact q0
end Fg
namespace Fg
open PySem PySem.Spec PyProof.Rows L2
/-! ### the walk's small steps -/
local macro_rules | `(tactic| walk_at "hp") => `(tactic| first
  | assumption
  | exact upd_same
  | (refine Chg.at (by assumption) ?_; walk_at "hp")
  | (refine Chg.at1 (by assumption) ?_ (by walk_at "ne"); walk_at "hp"))
local macro_rules | `(tactic| walk_at "ne") => `(tactic| first | assumption | (apply Ne.symm; assumption))
local macro_rules | `(tactic| walk_at "sq") => `(tactic| first | assumption | exact sqL (by walk_at "hp") | (refine Chg.seq (by assumption) ?_; walk_at "sq"))
local macro_rules | `(tactic| walk_at "sz") => `(tactic| first | assumption | exact Nat.zero_le _ | (simp only [List.length_cons, List.length_nil]; decide) | exact Nat.le_trans (by first | omega | (simp; done) | (simp; omega)) (show 100000 ≤ sizeLine by decide) | exact Nat.lt_of_lt_of_le (by first | omega | (simp; done) | (simp; omega)) (show 100000 ≤ sizeLine by decide))
local macro_rules | `(tactic| walk_at "ix") => `(tactic| first | exact at0 | exact at1 | exact at2 | exact at3 | assumption | exact rfl | walk_at "ix2")
local macro_rules | `(tactic| walk_at "ix2") => `(tactic| fail)
local macro_rules | `(tactic| walk_at "num") => `(tactic| first | assumption | omega | decide | walk_at "num2")
local macro_rules | `(tactic| walk_at "num2") => `(tactic| fail)
local macro_rules | `(tactic| walk_at "im") => `(tactic| first | assumption | exact R.non (S := fun _ => False) | exact R.bl (S := fun _ => False) _ | exact R.int (S := fun _ => False) _ | exact R.str (S := fun _ => False) _ | (refine R.im (by assumption) ?_; walk_at "im"))
local macro_rules | `(tactic| walk_at "r") => `(tactic| first | assumption | exact R.non (S := fun _ => False) | exact R.bl (S := fun _ => False) _ | exact R.int (S := fun _ => False) _ | exact R.str (S := fun _ => False) _ | (refine R.same (by assumption) ?_; walk_at "r") | exact R.any (by walk_at "im"))
local macro_rules | `(tactic| walk_at "chg") => `(tactic| first
  | exact Chg.refl
  | assumption
  | (refine Chg.same ?_ (by assumption); walk_at "chg")
  | (refine Chg.both ?_ (by assumption); walk_at "chg")
  | (refine Chg.pre (by assumption) ?_; walk_at "chg"))
local macro_rules | `(tactic| walk_at "w1") => `(tactic| first
  | with_reducible apply w_seq
  | with_reducible apply w_asg
  | ((with_reducible apply w_var); (focus (exact rfl)))
  | with_reducible apply w_c
  | with_reducible apply w_op
  | with_reducible apply w_cons
  | with_reducible apply w_nil
  | with_reducible apply w_gName
  | with_reducible apply w_if
  | with_reducible apply w_test
  | with_reducible apply w_B
  | with_reducible apply w_isbl
  | with_reducible apply w_retN
  | with_reducible apply w_next
  | with_reducible apply w_drop
  | with_reducible apply w_cb
  | with_reducible apply w_call
  | with_reducible apply w_callN
  | with_reducible apply w_bm
  | with_reducible apply w_bm0
  | ((with_reducible apply w_tyL); (focus (walk_at "hp"; done)))
  | with_reducible apply w_dput
  | with_reducible apply w_m1
  | with_reducible apply w_isstr
  | with_reducible apply w_and
  | with_reducible apply w_or
  | with_reducible apply w_not
  | with_reducible apply w_andV
  | with_reducible apply w_orV
  | with_reducible apply w_notV
  | with_reducible apply w_ifE
  | with_reducible apply w_chain
  | with_reducible apply w_un
  | with_reducible apply w_neg
  | with_reducible apply w_add
  | with_reducible apply w_sub
  | ((with_reducible apply w_mod); (focus (walk_at "num"; done)))
  | ((with_reducible apply w_mul); (focus (walk_at "num"; done)))
  | ((with_reducible apply w_fdiv); (focus (walk_at "num"; done)))
  | ((with_reducible apply w_pow); (focus (walk_at "num"; done)))
  | with_reducible apply w_lt
  | with_reducible apply w_le
  | with_reducible apply w_gt
  | with_reducible apply w_ge
  | with_reducible apply w_ltS
  | with_reducible apply w_geS
  | with_reducible apply w_inC
  | with_reducible apply w_notInC
  | with_reducible apply w_isN
  | with_reducible apply w_notN
  | with_reducible apply w_isB
  | with_reducible apply w_notB
  | ((with_reducible apply w_addS); (focus (walk_at "sz"; done)))
  | ((with_reducible apply w_ixL); (focus (walk_at "sq"; done)); (focus (walk_at "ix"; done)))
  | ((with_reducible apply w_ixT); (focus (walk_at "hp"; done)); (focus (walk_at "ix"; done)))
  | ((with_reducible apply w_ixS); (focus (walk_at "sz"; done)); (focus (walk_at "ix"; done)))
  | with_reducible apply w_gSub
  | ((with_reducible apply w_gTup); (focus (walk_at "hp"; done)); (focus (exact rfl)))
  | with_reducible apply w_gCons
  | with_reducible apply w_gNil
  | ((with_reducible apply w_aug); (focus (exact rfl)))
  | with_reducible apply w_ipI
  | ((with_reducible apply w_eq); (focus (exact rfl)))
  | ((with_reducible apply w_ne); (focus (exact rfl)))
  | with_reducible apply w_max
  | with_reducible apply w_min
  | with_reducible apply w_abs
  | with_reducible apply w_intB
  | with_reducible apply w_intI
  | with_reducible apply w_tup1
  | with_reducible apply w_lst1
  | with_reducible apply w_sl
  | with_reducible apply w_part
  | with_reducible apply w_noPart
  | with_reducible apply w_isint
  | ((with_reducible apply w_slS); (focus (walk_at "sz"; done)))
  | with_reducible apply w_iteT
  | with_reducible apply w_iteF
  | with_reducible apply w_iteN
  | ((with_reducible apply w_iteYes); (focus (exact rfl)))
  | ((with_reducible apply w_iteNo); (focus (exact rfl)))
  | ((with_reducible apply w_lenL); (focus (walk_at "sq"; done)))
  | ((with_reducible apply w_lenT); (focus (walk_at "hp"; done)))
  | ((with_reducible apply w_lenS); (focus (walk_at "sz"; done)))
  | with_reducible apply w_lc
  | with_reducible apply w_for
  | with_reducible apply w_yes
  | ((with_reducible apply w_wipe); (focus (exact rfl)))
  | with_reducible apply w_iList
  | with_reducible apply w_iTup
  | with_reducible apply w_iStr
  | with_reducible apply w_iRng1
  | with_reducible apply w_iRng2
  | with_reducible apply w_iZip
  | with_reducible apply w_iEnum
  | ((with_reducible apply d_iList); (focus (walk_at "sq"; done)))
  | ((with_reducible apply d_iTup); (focus (walk_at "hp"; done)))
  | with_reducible apply d_iStr
  | ((with_reducible apply d_iRng1); (focus (walk_at "num"; done)); (focus (walk_at "num"; done)))
  | ((with_reducible apply d_iRng2); (focus (walk_at "num"; done)); (focus (walk_at "num"; done)); (focus (walk_at "num"; done)); (focus (walk_at "num"; done)))
  | ((with_reducible apply d_iZip); (focus (walk_at "sq"; done)); (focus (walk_at "sq"; done)))
  | ((with_reducible apply d_iEnum); (focus (walk_at "sq"; done)))
  | walk_at "w2")
local macro_rules | `(tactic| walk_at "w2") => `(tactic| fail)
local macro_rules | `(tactic| walk_at "wn") => `(tactic| repeat walk_at "w1")
local macro_rules | `(tactic| walk_at "w") => `(tactic| repeat (first | walk_at "w1" | with_reducible apply w_ret))

local macro_rules | `(tactic| walk_at "w2") => `(tactic| first
  | ((with_reducible apply w_isInt); (focus (walk_at "r"; done)))
  | ((with_reducible apply w_isBool); (focus (walk_at "r"; done)))
  | ((with_reducible apply w_isStr); (focus (walk_at "r"; done)))
  | ((with_reducible apply w_isTup); (focus (walk_at "r"; done)))
  | ((with_reducible apply w_isLst); (focus (walk_at "r"; done)))
  | ((with_reducible apply w_notInP); (focus (assumption)))
  | ((with_reducible apply w_ixP); (focus (assumption)); (focus (assumption))))

def sp_is_expression (n : Nat) : Sp := fun vs H Q _ => ∃ (v : V) (d : PyData) (S : Addr → Prop) (m : Nat), vs = [v, .int (m : Nat)] ∧ m + 1 ≤ n ∧ R S H v d ∧ ∀ H', Chg [] H H' → Q (.bl (isExpr m d)) H'
theorem no_is_expression (vs : List V) (H : Hp) (Q : VK) (E : XK) : ¬ sp_is_expression 0 vs H Q E := by
  rintro ⟨v, d, S, m, _, h, _⟩
  omega
def t_is_expression (K : PySem.W.Frag) (w : World) (dP : Addr) (n : Nat) : TS :=
    tSeq (tIfS (tTest (tOp oLt (tVar 1) (tC (.int 1)))) (tRet (tC (.bl false))) (tNext))
    (tSeq (tIfS (tB (tCall sp_is_whole [] E0 (tCons (tVar 0) (tNil)))) (tRet (tC (.bl true))) (tNext))
    (tSeq (tIfS (tOr (tNot (tB (tCB (rIsi K) (tCons (tVar 0) (tCons (tC (.ty "tuple")) (tNil)))))) (tOr (tTest (tOp oLt (tCB (cLenQ K) (tCons (tVar 0) (tNil))) (tC (.int 1)))) (tNot (tB (tCB (rIsi K) (tCons (tOp (rIxT K) (tVar 0) (tC (.int 0))) (tCons (tC (.ty "str")) (tNil)))))))) (tRet (tC (.bl false))) (tNext))
    (tSeq (tIfS (tOr (tTest (tOp (oNotInKd K dP) (tOp (rIxT K) (tVar 0) (tC (.int 0))) (tC (.ref dP)))) (tTest (tOp rNe (tCB (cLenQ K) (tCons (tVar 0) (tNil))) (tOp oAdd (tOp (rIxD K w) (tC (.ref dP)) (tOp (rIxT K) (tVar 0) (tC (.int 0)))) (tC (.int 1)))))) (tRet (tC (.bl false))) (tNext))
    (tRet (tCB (rAll K) (tCons (tLc (iTup K (tSl (rSlA K) (tVar 0) (tPart (tC (.int 1))) (tNoPart))) (gName 2) (tYes) (tCall (sp_is_expression n) [] E0 (tCons (tVar 2) (tCons (tOp oSub (tVar 1) (tC (.int 1))) (tNil)))) [2]) (tNil)))))))
theorem isExpr_none (m : Nat) : isExpr m .none = false := by cases m <;> rfl
theorem isExpr_bool (m : Nat) (b : Bool) : isExpr m (.bool b) = false := by cases m <;> rfl
theorem isExpr_str (m : Nat) (b : Str) : isExpr m (.str b) = false := by cases m <;> rfl
theorem isExpr_list (m : Nat) (b : List PyData) : isExpr m (.list b) = false := by cases m <;> rfl
theorem isExpr_dict (m : Nat) (b : List (PyData × PyData)) : isExpr m (.dict b) = false := by cases m <;> rfl
theorem pure_is_expression {K : PySem.W.Frag} {w : World} {dP : Addr} (T : Parts K w dP) (n : Nat) (vs : List V) (H : Hp) (Q : VK) (E : XK) (h : sp_is_expression (n + 1) vs H Q E) : t_is_expression K w dP n (fin Q) (start ["thing", "most", "one"] vs) H := by
  obtain ⟨v, d, S, m, rfl, hm, r, q⟩ := h
  show t_is_expression K w dP n _ [some v, some (.int (m : Nat)), none] H
  unfold t_is_expression
  have q0 := q H .refl
  walk_at "w"
  refine w_iteD (fun h => ?_) (fun h => ?_)
  · walk_at "w"
    have e : m = 0 := by omega
    subst e
    exact q0
  obtain ⟨k, rfl⟩ : ∃ k, m = k + 1 := ⟨m - 1, by omega⟩
  walk_at "w"
  refine ⟨v, d, S, rfl, r, ?_⟩
  walk_at "w"
  cases r with
  | int i => walk_at "w"; exact q0
  | non => walk_at "w"; exact q0
  | bl b => walk_at "w"; exact q0
  | str b => walk_at "w"; exact q0
  | lst s e a =>
    have r := R.lst s e a
    walk_at "w"; exact q0
  | dic s e =>
    have r := R.dic s e
    walk_at "w"; exact q0
  | @tup a xs ds e ra =>
    have r := R.tup e ra
    walk_at "w"
    cases ra with
    | nil =>
      walk_at "w"
      exact q0
    | @cons v0 vs0 d0 ds0 r0 rs =>
      refine w_iteD (fun h => ?_) (fun _ => ?_)
      · rw [List.length_cons] at h
        omega
      walk_at "w"
      cases r0 with
      | int i => walk_at "w"; exact q0
      | non => walk_at "w"; exact q0
      | bl b => walk_at "w"; exact q0
      | lst s1 e1 a1 =>
        have r := R.lst s1 e1 a1
        walk_at "w"; exact q0
      | dic s1 e1 =>
        have r := R.dic s1 e1
        walk_at "w"; exact q0
      | tup e1 a1 =>
        have r := R.tup e1 a1
        walk_at "w"; exact q0
      | str z =>
        walk_at "w"
        cases ez : partsOf z with
        | none =>
          walk_at "w"
          have e2 : isExpr (k + 1) (.tuple (.str z :: ds0)) = false := by
            unfold isExpr
            rw [ez]
          rw [e2] at q0
          exact q0
        | some pk =>
          walk_at "w"
          have ln := rs.length
          refine w_iteD (fun h => ?_) (fun h => ?_)
          · have h' : vs0.length = pk := by
              have := V.int.inj h
              rw [List.length_cons] at this
              omega
            have hp : pk ≤ 2 := by
              unfold partsOf at ez
              repeat (split at ez; · cases ez; omega)
              cases ez
            walk_at "w"
            refine w_slA e fun p' H2 c2 h2 => ?_
            rw [cut1] at h2
            walk_at "w"
            have rs2 := rs.same c2
            refine w_lcP walk_tup [] (fun _ _ => True) (fun i y _ => ∃ d, ds0[i]? = some d ∧ y = .bl (isExpr k d)) trivial (fun _ _ _ _ _ _ _ => trivial) (fun H1 c => sqT (c.at h2)) (fun D i acc z H1 H3 hi nD hD el iv c _ y => ?_) (fun D acc H1 nD c _ el hD ys => ?_)
            · obtain ⟨rfl, ey⟩ := y
              obtain ⟨d1, ed, r1⟩ := rs2.get (i := i) (v := z) ey
              walk_at "w"
              have e5 : (((k + 1 : Nat) : Int)) - 1 = (k : Nat) := by omega
              rw [e5]
              refine ⟨z, d1, S, k, rfl, by omega, r1.same c, fun H4 c4 => ?_⟩
              have hi' : i < 3 := by
                have : (vs0.length) ≤ 2 := by omega
                have h6 : i < vs0.length := hi
                omega
              exact lcp_end (fun _ _ _ _ _ _ _ => trivial) (fun _ _ _ _ _ _ _ h => h) nD (by simp) hD el (by omega) iv c4 trivial ⟨d1, ed, rfl⟩
            · have e3 : acc = (ds0.map (isExpr k)).map V.bl := by
                refine all_bl el (by rw [List.length_map]; exact ln.symm) fun i y hy => ?_
                obtain ⟨d1, ed, rfl⟩ := ys i y hy
                exact ⟨isExpr k d1, by rw [List.getElem?_map, ed]; rfl, rfl⟩
              subst e3
              walk_at "w"
              refine w_all hD ?_
              walk_at "w"
              have e4 : isExpr (k + 1) (.tuple (.str z :: ds0)) = (ds0.map (isExpr k)).all id := by
                rw [isExpr, ez]
                show (decide (ds0.length = pk) && ds0.all (isExpr k)) = _
                rw [decide_eq_true (by omega), List.all_map]
                rfl
              rw [← e4]
              exact q H1 (c2.same c)
          · walk_at "w"
            have e2 : isExpr (k + 1) (.tuple (.str z :: ds0)) = false := by
              rw [isExpr, ez]
              show (decide (ds0.length = pk) && ds0.all (isExpr k)) = false
              rw [decide_eq_false ?_]
              · rfl
              · intro h7
                apply h
                show V.int _ = V.int _
                congr 1
                rw [List.length_cons]
                omega
            rw [e2] at q0
            exact q0
end Fg
namespace Fg
open PySem PySem.Spec PyProof.Rows L2
/-! ### the walk's small steps -/
local macro_rules | `(tactic| walk_at "hp") => `(tactic| first
  | assumption
  | exact upd_same
  | (refine Chg.at (by assumption) ?_; walk_at "hp")
  | (refine Chg.at1 (by assumption) ?_ (by walk_at "ne"); walk_at "hp"))
local macro_rules | `(tactic| walk_at "ne") => `(tactic| first | assumption | (apply Ne.symm; assumption))
local macro_rules | `(tactic| walk_at "sq") => `(tactic| first | assumption | exact sqL (by walk_at "hp") | (refine Chg.seq (by assumption) ?_; walk_at "sq"))
local macro_rules | `(tactic| walk_at "sz") => `(tactic| first | assumption | exact Nat.zero_le _ | (simp only [List.length_cons, List.length_nil]; decide) | exact Nat.le_trans (by first | omega | (simp; done) | (simp; omega)) (show 100000 ≤ sizeLine by decide) | exact Nat.lt_of_lt_of_le (by first | omega | (simp; done) | (simp; omega)) (show 100000 ≤ sizeLine by decide))
local macro_rules | `(tactic| walk_at "ix") => `(tactic| first | exact at0 | exact at1 | exact at2 | exact at3 | assumption | exact rfl | walk_at "ix2")
local macro_rules | `(tactic| walk_at "ix2") => `(tactic| fail)
local macro_rules | `(tactic| walk_at "num") => `(tactic| first | assumption | omega | decide | walk_at "num2")
local macro_rules | `(tactic| walk_at "num2") => `(tactic| fail)
local macro_rules | `(tactic| walk_at "im") => `(tactic| first | assumption | exact R.non (S := fun _ => False) | exact R.bl (S := fun _ => False) _ | exact R.int (S := fun _ => False) _ | exact R.str (S := fun _ => False) _ | (refine R.im (by assumption) ?_; walk_at "im"))
local macro_rules | `(tactic| walk_at "r") => `(tactic| first | assumption | exact R.non (S := fun _ => False) | exact R.bl (S := fun _ => False) _ | exact R.int (S := fun _ => False) _ | exact R.str (S := fun _ => False) _ | (refine R.same (by assumption) ?_; walk_at "r") | exact R.any (by walk_at "im"))
local macro_rules | `(tactic| walk_at "chg") => `(tactic| first
  | exact Chg.refl
  | assumption
  | (refine Chg.same ?_ (by assumption); walk_at "chg")
  | (refine Chg.both ?_ (by assumption); walk_at "chg")
  | (refine Chg.pre (by assumption) ?_; walk_at "chg"))
local macro_rules | `(tactic| walk_at "w1") => `(tactic| first
  | with_reducible apply w_seq
  | with_reducible apply w_asg
  | ((with_reducible apply w_var); (focus (exact rfl)))
  | with_reducible apply w_c
  | with_reducible apply w_op
  | with_reducible apply w_cons
  | with_reducible apply w_nil
  | with_reducible apply w_gName
  | with_reducible apply w_if
  | with_reducible apply w_test
  | with_reducible apply w_B
  | with_reducible apply w_isbl
  | with_reducible apply w_retN
  | with_reducible apply w_next
  | with_reducible apply w_drop
  | with_reducible apply w_cb
  | with_reducible apply w_call
  | with_reducible apply w_callN
  | with_reducible apply w_bm
  | with_reducible apply w_bm0
  | ((with_reducible apply w_tyL); (focus (walk_at "hp"; done)))
  | with_reducible apply w_dput
  | with_reducible apply w_m1
  | with_reducible apply w_isstr
  | with_reducible apply w_and
  | with_reducible apply w_or
  | with_reducible apply w_not
  | with_reducible apply w_andV
  | with_reducible apply w_orV
  | with_reducible apply w_notV
  | with_reducible apply w_ifE
  | with_reducible apply w_chain
  | with_reducible apply w_un
  | with_reducible apply w_neg
  | with_reducible apply w_add
  | with_reducible apply w_sub
  | ((with_reducible apply w_mod); (focus (walk_at "num"; done)))
  | ((with_reducible apply w_mul); (focus (walk_at "num"; done)))
  | ((with_reducible apply w_fdiv); (focus (walk_at "num"; done)))
  | ((with_reducible apply w_pow); (focus (walk_at "num"; done)))
  | with_reducible apply w_lt
  | with_reducible apply w_le
  | with_reducible apply w_gt
  | with_reducible apply w_ge
  | with_reducible apply w_ltS
  | with_reducible apply w_geS
  | with_reducible apply w_inC
  | with_reducible apply w_notInC
  | with_reducible apply w_isN
  | with_reducible apply w_notN
  | with_reducible apply w_isB
  | with_reducible apply w_notB
  | ((with_reducible apply w_addS); (focus (walk_at "sz"; done)))
  | ((with_reducible apply w_ixL); (focus (walk_at "sq"; done)); (focus (walk_at "ix"; done)))
  | ((with_reducible apply w_ixT); (focus (walk_at "hp"; done)); (focus (walk_at "ix"; done)))
  | ((with_reducible apply w_ixS); (focus (walk_at "sz"; done)); (focus (walk_at "ix"; done)))
  | with_reducible apply w_gSub
  | ((with_reducible apply w_gTup); (focus (walk_at "hp"; done)); (focus (exact rfl)))
  | with_reducible apply w_gCons
  | with_reducible apply w_gNil
  | ((with_reducible apply w_aug); (focus (exact rfl)))
  | with_reducible apply w_ipI
  | ((with_reducible apply w_eq); (focus (exact rfl)))
  | ((with_reducible apply w_ne); (focus (exact rfl)))
  | with_reducible apply w_max
  | with_reducible apply w_min
  | with_reducible apply w_abs
  | with_reducible apply w_intB
  | with_reducible apply w_intI
  | with_reducible apply w_tup1
  | with_reducible apply w_lst1
  | with_reducible apply w_sl
  | with_reducible apply w_part
  | with_reducible apply w_noPart
  | with_reducible apply w_isint
  | ((with_reducible apply w_slS); (focus (walk_at "sz"; done)))
  | with_reducible apply w_iteT
  | with_reducible apply w_iteF
  | with_reducible apply w_iteN
  | ((with_reducible apply w_iteYes); (focus (exact rfl)))
  | ((with_reducible apply w_iteNo); (focus (exact rfl)))
  | ((with_reducible apply w_lenL); (focus (walk_at "sq"; done)))
  | ((with_reducible apply w_lenT); (focus (walk_at "hp"; done)))
  | ((with_reducible apply w_lenS); (focus (walk_at "sz"; done)))
  | with_reducible apply w_lc
  | with_reducible apply w_for
  | with_reducible apply w_yes
  | ((with_reducible apply w_wipe); (focus (exact rfl)))
  | with_reducible apply w_iList
  | with_reducible apply w_iTup
  | with_reducible apply w_iStr
  | with_reducible apply w_iRng1
  | with_reducible apply w_iRng2
  | with_reducible apply w_iZip
  | with_reducible apply w_iEnum
  | ((with_reducible apply d_iList); (focus (walk_at "sq"; done)))
  | ((with_reducible apply d_iTup); (focus (walk_at "hp"; done)))
  | with_reducible apply d_iStr
  | ((with_reducible apply d_iRng1); (focus (walk_at "num"; done)); (focus (walk_at "num"; done)))
  | ((with_reducible apply d_iRng2); (focus (walk_at "num"; done)); (focus (walk_at "num"; done)); (focus (walk_at "num"; done)); (focus (walk_at "num"; done)))
  | ((with_reducible apply d_iZip); (focus (walk_at "sq"; done)); (focus (walk_at "sq"; done)))
  | ((with_reducible apply d_iEnum); (focus (walk_at "sq"; done)))
  | walk_at "w2")
local macro_rules | `(tactic| walk_at "w2") => `(tactic| fail)
local macro_rules | `(tactic| walk_at "wn") => `(tactic| repeat walk_at "w1")
local macro_rules | `(tactic| walk_at "w") => `(tactic| repeat (first | walk_at "w1" | with_reducible apply w_ret))

local macro_rules | `(tactic| walk_at "w2") => `(tactic| first
  | ((with_reducible apply w_isInt); (focus (walk_at "r"; done)))
  | ((with_reducible apply w_isBool); (focus (walk_at "r"; done)))
  | ((with_reducible apply w_isStr); (focus (walk_at "r"; done)))
  | ((with_reducible apply w_isTup); (focus (walk_at "r"; done)))
  | ((with_reducible apply w_isLst); (focus (walk_at "r"; done)))
  | ((with_reducible apply w_notInP); (focus (assumption)))
  | ((with_reducible apply w_ixP); (focus (assumption)); (focus (assumption))))

/-! all texts in it are short -/
mutual
def smallD : PyData → Bool
  | .str x => decide (x.length ≤ 100000)
  | .list ds => smallDs ds
  | .tuple ds => smallDs ds
  | _ => true
def smallDs : List PyData → Bool
  | [] => true
  | d :: ds => smallD d && smallDs ds
end
theorem smallDs_all : ∀ {ds : List PyData}, smallDs ds = true → ∀ d ∈ ds, smallD d = true
  | [], _, d, h => by cases h
  | e :: es, h, d, hd => by
    obtain ⟨h1, h2⟩ := Bool.and_eq_true_iff.mp (show (smallD e && smallDs es) = true from h)
    rcases List.mem_cons.mp hd with rfl | hd
    · exact h1
    · exact smallDs_all h2 d hd
theorem smallD_str {d : PyData} (h : smallD d = true) (x : Str) (e : d = .str x) : x.length ≤ 100000 := by
  subst e
  exact of_decide_eq_true h
section
variable {K : PySem.W.Frag} {H : Hp} {Q : VK} {p : Addr} {xs : List V} {x : V}
theorem w_inL (h : SqL K H p xs) (hx : flatV x = true) (hs : xs.all flatV = true) (q : Q (.bl (inV x xs)) H) : rIn K false x (.ref p) H Q := ⟨p, xs, rfl, .inl h, hx, hs, q⟩
theorem w_notInL (h : SqL K H p xs) (hx : flatV x = true) (hs : xs.all flatV = true) (q : Q (.bl (!inV x xs)) H) : rIn K true x (.ref p) H Q := ⟨p, xs, rfl, .inl h, hx, hs, q⟩
theorem w_inT (h : H p = some (.tup xs)) (hx : flatV x = true) (hs : xs.all flatV = true) (q : Q (.bl (inV x xs)) H) : rIn K false x (.ref p) H Q := ⟨p, xs, rfl, .inr (sqT h), hx, hs, q⟩
theorem w_notInT (h : H p = some (.tup xs)) (hx : flatV x = true) (hs : xs.all flatV = true) (q : Q (.bl (!inV x xs)) H) : rIn K true x (.ref p) H Q := ⟨p, xs, rfl, .inr (sqT h), hx, hs, q⟩
end
theorem inV_str (x : Str) (ns : List Str) : inV (.str x) (ns.map V.str) = decide (x ∈ ns) := by
  unfold inV
  induction ns with
  | nil => simp
  | cons a r ih =>
    rw [List.map_cons, List.any_cons, ih]
    have e : eqV (.str a) (.str x) = decide (a = x) := by
      show (a == x) = decide (a = x)
      rw [Bool.beq_eq_decide_eq]
    rw [e]
    by_cases h : a = x
    · subst h
      simp
    · have h' : ¬ x = a := fun z => h z.symm
      simp [h, h']
theorem flat_strs (ns : List Str) : (ns.map V.str).all flatV = true := by
  rw [List.all_map]
  exact List.all_eq_true.mpr fun _ _ => rfl
def sp_is_step (K : PySem.W.Frag) : Sp := fun vs H Q _ => ∃ (v : V) (d : PyData) (S : Addr → Prop) (l : Addr) (ns : List Str) (bh : Int), vs = [v, .ref l, .int bh] ∧ R S H v d ∧ smallD d = true ∧ SqL K H l (ns.map V.str) ∧ ∀ H', Chg [] H H' → Q (.bl (isStep ns bh d)) H'
def t_is_step (K : PySem.W.Frag) : TS :=
    tSeq (tIfS (tOr (tNot (tB (tCB (rIsi K) (tCons (tVar 0) (tCons (tC (.ty "tuple")) (tNil)))))) (tOr (tTest (tOp oLt (tCB (cLenQ K) (tCons (tVar 0) (tNil))) (tC (.int 1)))) (tNot (tB (tCB (rIsi K) (tCons (tOp (rIxT K) (tVar 0) (tC (.int 0))) (tCons (tC (.ty "str")) (tNil)))))))) (tRet (tC (.bl false))) (tNext))
    (tSeq (tAsg (tOp (rIxT K) (tVar 0) (tC (.int 0))) (gName 3))
    (tSeq (tIfS (tTest (tOp rEq (tVar 3) (tC (.str "wait")))) (tRet (tOp rEq (tCB (cLenQ K) (tCons (tVar 0) (tNil))) (tC (.int 1)))) (tNext))
    (tSeq (tIfS (tTest (tOp rNe (tCB (cLenQ K) (tCons (tVar 0) (tNil))) (tC (.int 3)))) (tRet (tC (.bl false))) (tNext))
    (tSeq (tIfS (tTest (tOp rEq (tVar 3) (tC (.str "cell")))) (tRet (tAndV (tCall (sp_is_expression 6) [.int 5] E0 (tCons (tOp (rIxT K) (tVar 0) (tC (.int 1))) (tNil))) (tCall (sp_is_expression 6) [.int 5] E0 (tCons (tOp (rIxT K) (tVar 0) (tC (.int 2))) (tNil))))) (tNext))
    (tSeq (tIfS (tTest (tOp rEq (tVar 3) (tC (.str "skip")))) (tRet (tAndV (tCall (sp_is_expression 6) [.int 5] E0 (tCons (tOp (rIxT K) (tVar 0) (tC (.int 1))) (tNil))) (tAndV (tCall sp_is_whole [] E0 (tCons (tOp (rIxT K) (tVar 0) (tC (.int 2))) (tNil))) (tChain oLe oLe (tC (.int 1)) (tOp (rIxT K) (tVar 0) (tC (.int 2))) (tVar 2))))) (tNext))
    (tSeq (tIfS (tOr (tTest (tOp (rIn K true) (tVar 3) (tTup (tCons (tC (.str "give")) (tCons (tC (.str "fork")) (tCons (tC (.str "call")) (tNil))))))) (tOr (tNot (tB (tCall sp_is_name [] E0 (tCons (tOp (rIxT K) (tVar 0) (tC (.int 1))) (tNil))))) (tNot (tB (tCall (sp_is_expression 6) [.int 5] E0 (tCons (tOp (rIxT K) (tVar 0) (tC (.int 2))) (tNil))))))) (tRet (tC (.bl false))) (tNext))
    (tRet (tOrV (tOp rEq (tVar 3) (tC (.str "give"))) (tOp (rIn K false) (tOp (rIxT K) (tVar 0) (tC (.int 1))) (tVar 1))))))))))
theorem isStep_tup (ns : List Str) (bh : Int) (z : Str) (ds : List PyData) : isStep ns bh (.tuple (.str z :: ds)) = (if z = "wait" then decide (ds.length = 0) else stepBody ns bh z ds) := rfl
theorem pure_is_step {K : PySem.W.Frag} (vs : List V) (H : Hp) (Q : VK) (E : XK) (h : sp_is_step K vs H Q E) : t_is_step K (fin Q) (start ["thing", "names", "behind", "word"] vs) H := by
  obtain ⟨v, d, S, l, ns, bh, rfl, r, sm, hl, q⟩ := h
  show t_is_step K _ [some v, some (.ref l), some (.int bh), none] H
  unfold t_is_step
  have q0 := q H .refl
  walk_at "w"
  cases r with
  | int i => walk_at "w"; exact q0
  | non => walk_at "w"; exact q0
  | bl b => walk_at "w"; exact q0
  | str b => walk_at "w"; exact q0
  | lst s e a => walk_at "w"; exact q0
  | dic s e => walk_at "w"; exact q0
  | @tup a xs ds e ra =>
    walk_at "w"
    cases ra with
    | nil => walk_at "w"; exact q0
    | @cons v0 vs0 d0 ds0 r0 rs =>
      refine w_iteD (fun h => ?_) (fun _ => ?_)
      · rw [List.length_cons] at h
        omega
      walk_at "w"
      cases r0 with
      | int i => walk_at "w"; exact q0
      | non => walk_at "w"; exact q0
      | bl b => walk_at "w"; exact q0
      | lst s1 e1 a1 => walk_at "w"; exact q0
      | dic s1 e1 => walk_at "w"; exact q0
      | tup e1 a1 => walk_at "w"; exact q0
      | str z =>
        rw [isStep_tup] at q0
        simp only [isStep_tup] at q
        have ln := rs.length
        walk_at "w"
        refine w_iteD (fun hz => ?_) (fun hz => ?_)
        · have hz' : z = "wait" := V.str.inj hz
          rw [if_pos hz'] at q0
          walk_at "w"
          have e2 : decide (V.int ((V.str z :: vs0).length : Nat) = V.int 1) = decide (ds0.length = 0) := by
            rw [← ln]
            exact decide_eq_decide.mpr ⟨fun h => by have := V.int.inj h; rw [List.length_cons] at this; omega, fun h => by rw [List.length_cons, h]; rfl⟩
          rw [e2]
          exact q0
        have hz' : ¬ z = "wait" := fun h => hz (by rw [h])
        rw [if_neg hz'] at q0
        simp only [if_neg hz'] at q
        walk_at "w"
        refine w_iteD (fun h3 => ?_) (fun h3 => ?_)
        rotate_left
        · walk_at "w"
          have e2 : ∀ a b, ds0 ≠ [a, b] := fun a b h => by
            apply h3
            rw [List.length_cons, ln, h]
            rfl
          match ds0, e2, q0 with
          | [], _, q0 => exact q0
          | [_], _, q0 => exact q0
          | _ :: _ :: _ :: _, _, q0 => exact q0
          | [a, b], h, _ => exact absurd rfl (h a b)
        cases rs with
        | nil => (have := V.int.inj h3; simp only [List.length_cons, List.length_nil] at this; omega)
        | @cons v1 vs1 d1 ds1 r1 rs1 =>
          cases rs1 with
          | nil => (have := V.int.inj h3; simp only [List.length_cons, List.length_nil] at this; omega)
          | @cons v2 vs2 d2 ds2 r2 rs2 =>
            cases rs2 with
            | cons _ _ =>
              have := V.int.inj h3
              simp only [List.length_cons] at this
              omega
            | nil =>
              have q : ∀ H', Chg [] H H' → Q (V.bl (step3 ns bh z d1 d2)) H' := q
              unfold step3 at q
              have sm1 : smallD d1 = true := smallDs_all (ds := [.str z, d1, d2]) sm d1 (by simp)
              walk_at "w"
              refine w_iteD (fun hc => ?_) (fun hc => ?_)
              · have hc' : z = "cell" := V.str.inj hc
                simp only [if_pos hc'] at q
                walk_at "w"
                refine ⟨v1, d1, S, 5, rfl, by omega, r1, fun H1 c1 => ?_⟩
                walk_at "w"
                refine w_iteB (fun b1 => ?_) (fun b1 => ?_)
                · walk_at "w"
                  refine ⟨v2, d2, S, 5, rfl, by omega, r2.same c1, fun H2 c2 => ?_⟩
                  have := q H2 (c1.same c2)
                  rw [b1] at this
                  exact this
                · walk_at "w"
                  have := q H1 c1
                  rw [b1] at this
                  exact this
              have hc' : ¬ z = "cell" := fun h => hc (by rw [h])
              simp only [if_neg hc'] at q
              walk_at "w"
              refine w_iteD (fun hs => ?_) (fun hs => ?_)
              · have hs' : z = "skip" := V.str.inj hs
                simp only [if_pos hs'] at q
                walk_at "w"
                refine ⟨v1, d1, S, 5, rfl, by omega, r1, fun H1 c1 => ?_⟩
                walk_at "w"
                refine w_iteB (fun b1 => ?_) (fun b1 => ?_)
                · walk_at "w"
                  refine ⟨v2, d2, S, rfl, r2.same c1, ?_⟩
                  walk_at "w"
                  have q1 := q H1 c1
                  rw [b1] at q1
                  cases r2 with
                  | int i =>
                    walk_at "w"
                    refine w_iteD (fun g => ?_) (fun g => ?_)
                    · walk_at "w"
                      have q1 : Q (V.bl (true && (decide (1 ≤ i) && decide (i ≤ bh)))) H1 := q1
                      rw [decide_eq_true g] at q1
                      exact q1
                    · walk_at "w"
                      have q1 : Q (V.bl (true && (decide (1 ≤ i) && decide (i ≤ bh)))) H1 := q1
                      rw [decide_eq_false g] at q1
                      exact q1
                  | non => walk_at "w"; exact q1
                  | bl b => walk_at "w"; exact q1
                  | str b => walk_at "w"; exact q1
                  | lst s1 e1 a1 => walk_at "w"; exact q1
                  | dic s1 e1 => walk_at "w"; exact q1
                  | tup e1 a1 => walk_at "w"; exact q1
                · walk_at "w"
                  have := q H1 c1
                  rw [b1] at this
                  exact this
              have hs' : ¬ z = "skip" := fun h => hs (by rw [h])
              simp only [if_neg hs'] at q
              walk_at "w"
              refine k_tup (by decide) fun p H1 np c1 hp => ?_
              refine w_notInT hp rfl rfl ?_
              have ein : inV (.str z) [V.str "give", V.str "fork", V.str "call"] = decide (z ∈ (["give", "fork", "call"] : List Str)) := inV_str z ["give", "fork", "call"]
              rw [ein]
              walk_at "w"
              refine w_iteD (fun hm => ?_) (fun hm => ?_)
              rotate_left
              · walk_at "w"
                have n1 : ¬ z = "give" := fun h => hm (by rw [h]; simp)
                have n2 : ¬ (z = "fork" ∨ z = "call") := fun h => hm (by rcases h with h | h <;> (rw [h]; simp))
                simp only [if_neg n1, if_neg n2] at q
                exact q H1 c1
              walk_at "w"
              refine ⟨v1, d1, S, rfl, r1.same c1, smallD_str sm1, fun H2 c2 => ?_⟩
              walk_at "w"
              refine w_iteB (fun b1 => ?_) (fun b1 => ?_)
              rotate_left
              · walk_at "w"
                have := q H2 (c1.same c2)
                rw [b1] at this
                simp only [Bool.false_and, ite_self] at this
                exact this
              walk_at "w"
              refine ⟨v2, d2, S, 5, rfl, by omega, r2.same (c1.same c2), fun H3 c3 => ?_⟩
              walk_at "w"
              refine w_iteB (fun b2 => ?_) (fun b2 => ?_)
              rotate_left
              · walk_at "w"
                have := q H3 ((c1.same c2).same c3)
                rw [b2, b1] at this
                simp only [Bool.and_false, Bool.false_and, ite_self] at this
                exact this
              walk_at "w"
              have q3 := q H3 ((c1.same c2).same c3)
              rw [b1, b2] at q3
              cases r1 with
              | str x1 =>
                refine w_iteD (fun hg => ?_) (fun hg => ?_)
                · have hg' : z = "give" := V.str.inj hg
                  rw [if_pos hg'] at q3
                  exact q3
                · have hg' : ¬ z = "give" := fun h => hg (by rw [h])
                  walk_at "w"
                  refine w_inL ((c1.same c2).same c3 |>.seq hl) rfl (flat_strs ns) ?_
                  rw [inV_str]
                  have hf : z = "fork" ∨ z = "call" := by
                    simp only [List.mem_cons, List.not_mem_nil, or_false] at hm
                    exact hm.resolve_left hg'
                  rw [if_neg hg', if_pos hf] at q3
                  exact q3
              | int i => cases b1
              | non => cases b1
              | bl b => cases b1
              | lst s1 e1 a1 => cases b1
              | dic s1 e1 => cases b1
              | tup e1 a1 => cases b1
end Fg
namespace Fg
open PySem PySem.Spec PyProof.Rows L2
/-! ### the walk's small steps -/
local macro_rules | `(tactic| walk_at "hp") => `(tactic| first
  | assumption
  | exact upd_same
  | (refine Chg.at (by assumption) ?_; walk_at "hp")
  | (refine Chg.at1 (by assumption) ?_ (by walk_at "ne"); walk_at "hp"))
local macro_rules | `(tactic| walk_at "ne") => `(tactic| first | assumption | (apply Ne.symm; assumption))
local macro_rules | `(tactic| walk_at "sq") => `(tactic| first | assumption | exact sqL (by walk_at "hp") | (refine Chg.seq (by assumption) ?_; walk_at "sq"))
local macro_rules | `(tactic| walk_at "sz") => `(tactic| first | assumption | exact Nat.zero_le _ | (simp only [List.length_cons, List.length_nil]; decide) | exact Nat.le_trans (by first | omega | (simp; done) | (simp; omega)) (show 100000 ≤ sizeLine by decide) | exact Nat.lt_of_lt_of_le (by first | omega | (simp; done) | (simp; omega)) (show 100000 ≤ sizeLine by decide))
local macro_rules | `(tactic| walk_at "ix") => `(tactic| first | exact at0 | exact at1 | exact at2 | exact at3 | assumption | exact rfl | walk_at "ix2")
local macro_rules | `(tactic| walk_at "ix2") => `(tactic| fail)
local macro_rules | `(tactic| walk_at "num") => `(tactic| first | assumption | omega | decide | walk_at "num2")
local macro_rules | `(tactic| walk_at "num2") => `(tactic| fail)
local macro_rules | `(tactic| walk_at "im") => `(tactic| first | assumption | exact R.non (S := fun _ => False) | exact R.bl (S := fun _ => False) _ | exact R.int (S := fun _ => False) _ | exact R.str (S := fun _ => False) _ | (refine R.im (by assumption) ?_; walk_at "im"))
local macro_rules | `(tactic| walk_at "r") => `(tactic| first | assumption | exact R.non (S := fun _ => False) | exact R.bl (S := fun _ => False) _ | exact R.int (S := fun _ => False) _ | exact R.str (S := fun _ => False) _ | (refine R.same (by assumption) ?_; walk_at "r") | exact R.any (by walk_at "im"))
local macro_rules | `(tactic| walk_at "chg") => `(tactic| first
  | exact Chg.refl
  | assumption
  | (refine Chg.same ?_ (by assumption); walk_at "chg")
  | (refine Chg.both ?_ (by assumption); walk_at "chg")
  | (refine Chg.pre (by assumption) ?_; walk_at "chg"))
local macro_rules | `(tactic| walk_at "w1") => `(tactic| first
  | with_reducible apply w_seq
  | with_reducible apply w_asg
  | ((with_reducible apply w_var); (focus (exact rfl)))
  | with_reducible apply w_c
  | with_reducible apply w_op
  | with_reducible apply w_cons
  | with_reducible apply w_nil
  | with_reducible apply w_gName
  | with_reducible apply w_if
  | with_reducible apply w_test
  | with_reducible apply w_B
  | with_reducible apply w_isbl
  | with_reducible apply w_retN
  | with_reducible apply w_next
  | with_reducible apply w_drop
  | with_reducible apply w_cb
  | with_reducible apply w_call
  | with_reducible apply w_callN
  | with_reducible apply w_bm
  | with_reducible apply w_bm0
  | ((with_reducible apply w_tyL); (focus (walk_at "hp"; done)))
  | with_reducible apply w_dput
  | with_reducible apply w_m1
  | with_reducible apply w_isstr
  | with_reducible apply w_and
  | with_reducible apply w_or
  | with_reducible apply w_not
  | with_reducible apply w_andV
  | with_reducible apply w_orV
  | with_reducible apply w_notV
  | with_reducible apply w_ifE
  | with_reducible apply w_chain
  | with_reducible apply w_un
  | with_reducible apply w_neg
  | with_reducible apply w_add
  | with_reducible apply w_sub
  | ((with_reducible apply w_mod); (focus (walk_at "num"; done)))
  | ((with_reducible apply w_mul); (focus (walk_at "num"; done)))
  | ((with_reducible apply w_fdiv); (focus (walk_at "num"; done)))
  | ((with_reducible apply w_pow); (focus (walk_at "num"; done)))
  | with_reducible apply w_lt
  | with_reducible apply w_le
  | with_reducible apply w_gt
  | with_reducible apply w_ge
  | with_reducible apply w_ltS
  | with_reducible apply w_geS
  | with_reducible apply w_inC
  | with_reducible apply w_notInC
  | with_reducible apply w_isN
  | with_reducible apply w_notN
  | with_reducible apply w_isB
  | with_reducible apply w_notB
  | ((with_reducible apply w_addS); (focus (walk_at "sz"; done)))
  | ((with_reducible apply w_ixL); (focus (walk_at "sq"; done)); (focus (walk_at "ix"; done)))
  | ((with_reducible apply w_ixT); (focus (walk_at "hp"; done)); (focus (walk_at "ix"; done)))
  | ((with_reducible apply w_ixS); (focus (walk_at "sz"; done)); (focus (walk_at "ix"; done)))
  | with_reducible apply w_gSub
  | ((with_reducible apply w_gTup); (focus (walk_at "hp"; done)); (focus (exact rfl)))
  | with_reducible apply w_gCons
  | with_reducible apply w_gNil
  | ((with_reducible apply w_aug); (focus (exact rfl)))
  | with_reducible apply w_ipI
  | ((with_reducible apply w_eq); (focus (exact rfl)))
  | ((with_reducible apply w_ne); (focus (exact rfl)))
  | with_reducible apply w_max
  | with_reducible apply w_min
  | with_reducible apply w_abs
  | with_reducible apply w_intB
  | with_reducible apply w_intI
  | with_reducible apply w_tup1
  | with_reducible apply w_lst1
  | with_reducible apply w_sl
  | with_reducible apply w_part
  | with_reducible apply w_noPart
  | with_reducible apply w_isint
  | ((with_reducible apply w_slS); (focus (walk_at "sz"; done)))
  | with_reducible apply w_iteT
  | with_reducible apply w_iteF
  | with_reducible apply w_iteN
  | ((with_reducible apply w_iteYes); (focus (exact rfl)))
  | ((with_reducible apply w_iteNo); (focus (exact rfl)))
  | ((with_reducible apply w_lenL); (focus (walk_at "sq"; done)))
  | ((with_reducible apply w_lenT); (focus (walk_at "hp"; done)))
  | ((with_reducible apply w_lenS); (focus (walk_at "sz"; done)))
  | with_reducible apply w_lc
  | with_reducible apply w_for
  | with_reducible apply w_yes
  | ((with_reducible apply w_wipe); (focus (exact rfl)))
  | with_reducible apply w_iList
  | with_reducible apply w_iTup
  | with_reducible apply w_iStr
  | with_reducible apply w_iRng1
  | with_reducible apply w_iRng2
  | with_reducible apply w_iZip
  | with_reducible apply w_iEnum
  | ((with_reducible apply d_iList); (focus (walk_at "sq"; done)))
  | ((with_reducible apply d_iTup); (focus (walk_at "hp"; done)))
  | with_reducible apply d_iStr
  | ((with_reducible apply d_iRng1); (focus (walk_at "num"; done)); (focus (walk_at "num"; done)))
  | ((with_reducible apply d_iRng2); (focus (walk_at "num"; done)); (focus (walk_at "num"; done)); (focus (walk_at "num"; done)); (focus (walk_at "num"; done)))
  | ((with_reducible apply d_iZip); (focus (walk_at "sq"; done)); (focus (walk_at "sq"; done)))
  | ((with_reducible apply d_iEnum); (focus (walk_at "sq"; done)))
  | walk_at "w2")
local macro_rules | `(tactic| walk_at "w2") => `(tactic| fail)
local macro_rules | `(tactic| walk_at "wn") => `(tactic| repeat walk_at "w1")
local macro_rules | `(tactic| walk_at "w") => `(tactic| repeat (first | walk_at "w1" | with_reducible apply w_ret))

local macro_rules | `(tactic| walk_at "w2") => `(tactic| first
  | ((with_reducible apply w_isInt); (focus (walk_at "r"; done)))
  | ((with_reducible apply w_isBool); (focus (walk_at "r"; done)))
  | ((with_reducible apply w_isStr); (focus (walk_at "r"; done)))
  | ((with_reducible apply w_isTup); (focus (walk_at "r"; done)))
  | ((with_reducible apply w_isLst); (focus (walk_at "r"; done)))
  | ((with_reducible apply w_notInP); (focus (assumption)))
  | ((with_reducible apply w_ixP); (focus (assumption)); (focus (assumption))))

def lenOk : PyData → Bool
  | .list ds => decide (ds.length ≤ 1000)
  | _ => true
def sp_has_form : Sp := fun vs H Q _ => ∃ (v : V) (d : PyData) (S : Addr → Prop), vs = [v] ∧ R S H v d ∧ smallD d = true ∧ lenOk d = true ∧ ∀ H', Chg [] H H' → Q (.bl (hasForm d)) H'
def t_has_form (K : PySem.W.Frag) : TS :=
    tSeq (tIfS (tNot (tB (tCB (rIsi K) (tCons (tVar 0) (tCons (tC (.ty "list")) (tNil)))))) (tRet (tC (.bl false))) (tNext))
    (tSeq (tFor (iList K (tVar 0)) (gName 1) (tIfS (tOr (tNot (tB (tCB (rIsi K) (tCons (tVar 1) (tCons (tC (.ty "tuple")) (tNil)))))) (tOr (tTest (tOp rNe (tCB (cLenQ K) (tCons (tVar 1) (tNil))) (tC (.int 2)))) (tOr (tNot (tB (tCall sp_is_name [] E0 (tCons (tOp (rIxT K) (tVar 1) (tC (.int 0))) (tNil))))) (tNot (tB (tCB (rIsi K) (tCons (tOp (rIxT K) (tVar 1) (tC (.int 1))) (tCons (tC (.ty "list")) (tNil))))))))) (tRet (tC (.bl false))) (tNext)))
    (tSeq (tAsg (tLc (iList K (tVar 0)) (gTup K 2 (gCons (gName 3) (gCons (gName 4) (gNil)))) (tYes) (tVar 3) [3, 4]) (gName 2))
    (tRet (tCB (rAll K) (tCons (tLc (iZip K (tCons (tVar 2) (tCons (tSl (rSlL K) (tVar 2) (tPart (tC (.int 1))) (tNoPart)) (tNil)))) (gTup K 2 (gCons (gName 5) (gCons (gName 6) (gNil)))) (tYes) (tOp oLtS (tVar 5) (tVar 6)) [5, 6]) (tNil))))))
theorem rising_zip : ∀ ns : List Str, rising ns = ((ns.zip (ns.drop 1)).map fun p => ltS p.1 p.2).all id
  | [] => rfl
  | [_] => rfl
  | x :: y :: r => by
    show (ltS x y && rising (y :: r)) = _
    rw [rising_zip (y :: r)]
    rfl
theorem rowOk_false {d : PyData} (h : ∀ x ds, d = .tuple [.str x, .list ds] → nameS x = false) : rowOk d = false := by
  unfold rowOk
  split
  · exact h _ _ rfl
  · rfl
theorem hasForm_false {rows : List PyData} {i : Nat} {d : PyData} (h : rows[i]? = some d) (hd : rowOk d = false) : hasForm (.list rows) = false := by
  have : rows.all rowOk = false := by
    rw [List.all_eq_false]
    exact ⟨d, List.mem_of_getElem? h, by rw [hd]; decide⟩
  show (rows.all rowOk && _) = false
  rw [this]
  rfl
theorem rowOk_true {d : PyData} (h : rowOk d = true) : ∃ x ds, d = .tuple [.str x, .list ds] ∧ nameS x = true := by
  unfold rowOk at h
  split at h
  · exact ⟨_, _, rfl, h⟩
  · cases h
theorem pure_has_form {K : PySem.W.Frag} (vs : List V) (H : Hp) (Q : VK) (E : XK) (h : sp_has_form vs H Q E) : t_has_form K (fin Q) (start ["thing", "row", "names", "name", "steps", "one", "other"] vs) H := by
  obtain ⟨v, d, S, rfl, r, sm, lo, q⟩ := h
  show t_has_form K _ [some v, none, none, none, none, none, none] H
  unfold t_has_form
  have q0 := q H .refl
  walk_at "w"
  cases r with
  | int i => walk_at "w"; exact q0
  | non => walk_at "w"; exact q0
  | bl b => walk_at "w"; exact q0
  | str b => walk_at "w"; exact q0
  | tup e1 a1 => walk_at "w"; exact q0
  | dic s e => walk_at "w"; exact q0
  | @lst a xs ds s e ra =>
    walk_at "w"
    have ln := ra.length
    have lo' : ds.length ≤ 1000 := of_decide_eq_true lo
    refine for_it (walk_list (K := K) (a := a) (xs := xs)) (fun i σ H1 => Chg [] H H1 ∧ (∀ j d, j < i → ds[j]? = some d → rowOk d = true) ∧ ∃ y, σ = [some (.ref a), y, none, none, none, none, none]) ⟨.refl, fun j d h => by omega, none, rfl⟩ (fun i σ H1 _ p => sqL (p.1.at e)) (fun i x σ H1 H2 hi p y => ?_) (fun σ H1 p => ?_)
    · obtain ⟨c1, ok, y1, rfl⟩ := p
      obtain ⟨rfl, ex⟩ := y
      obtain ⟨d1, ed, r1⟩ := ra.get ex
      have r1 := r1.same c1
      have sm1 : smallD d1 = true := smallDs_all (ds := ds) sm d1 (List.mem_of_getElem? ed)
      have bad : ∀ H3, Chg [] H2 H3 → rowOk d1 = false → Q (.bl false) H3 := fun H3 c3 hb => by
        have := q H3 (c1.same c3)
        rw [hasForm_false ed hb] at this
        exact this
      walk_at "w"
      cases r1 with
      | int i => walk_at "w"; exact bad _ .refl rfl
      | non => walk_at "w"; exact bad _ .refl rfl
      | bl b => walk_at "w"; exact bad _ .refl rfl
      | str b => walk_at "w"; exact bad _ .refl rfl
      | lst s e a => walk_at "w"; exact bad _ .refl rfl
      | dic s e => walk_at "w"; exact bad _ .refl rfl
      | @tup a2 xs2 ds2 e2 ra2 =>
        walk_at "w"
        have ln2 := ra2.length
        refine w_iteD (fun h2 => ?_) (fun h2 => ?_)
        rotate_left
        · walk_at "w"
          refine bad _ .refl (rowOk_false fun x ds h => ?_)
          exfalso
          apply h2
          rw [ln2]
          cases h
          rfl
        have h2' := V.int.inj h2
        cases ra2 with
        | nil => simp only [List.length_nil] at h2'; omega
        | @cons v0 vs0 d0 ds0 r0 rs0 =>
          cases rs0 with
          | nil => simp only [List.length_cons, List.length_nil] at h2'; omega
          | @cons v3 vs3 d3 ds3 r3 rs3 =>
            cases rs3 with
            | cons _ _ => simp only [List.length_cons] at h2'; omega
            | nil =>
              have sm0 : smallD d0 = true := smallDs_all (ds := [d0, d3]) sm1 d0 (by simp)
              walk_at "w"
              refine ⟨v0, d0, S, rfl, r0, smallD_str sm0, fun H3 c3 => ?_⟩
              walk_at "w"
              refine w_iteB (fun b1 => ?_) (fun b1 => ?_)
              rotate_left
              · walk_at "w"
                refine bad _ c3 (rowOk_false fun x ds h => ?_)
                cases h
                exact b1
              walk_at "w"
              have r3 := r3.same c3
              walk_at "w"
              have nolist : dLst d3 = false → rowOk (.tuple [d0, d3]) = false := fun hl => rowOk_false fun x ds h => by
                cases h
                cases hl
              cases r3 with
              | int i => walk_at "w"; exact bad _ c3 (nolist rfl)
              | non => walk_at "w"; exact bad _ c3 (nolist rfl)
              | bl b => walk_at "w"; exact bad _ c3 (nolist rfl)
              | str b => walk_at "w"; exact bad _ c3 (nolist rfl)
              | tup e a => walk_at "w"; exact bad _ c3 (nolist rfl)
              | dic s e => walk_at "w"; exact bad _ c3 (nolist rfl)
              | lst s4 e4 a4 =>
                walk_at "w"
                refine ⟨c1.same c3, fun j d hj hd => ?_, _, rfl⟩
                by_cases hji : j < i
                · exact ok j d hji hd
                · have : j = i := by omega
                  subst this
                  rw [ed] at hd
                  cases hd
                  cases r0 with
                  | str x => exact b1
                  | _ => cases b1
    · obtain ⟨c1, ok, y1, rfl⟩ := p
      have allok : ds.all rowOk = true := by
        rw [List.all_eq_true]
        intro d hd
        obtain ⟨j, hj⟩ := List.getElem?_of_mem hd
        exact ok j d (by have := (List.getElem?_eq_some_iff.mp hj).1; omega) hj
      walk_at "w"
      have ra1 := ra.same c1
      have e1 := c1.at e
      refine w_lcP walk_list [] (fun _ _ => True) (fun i y _ => ∃ d, ds[i]? = some d ∧ y = .str (rowName d)) trivial (fun _ _ _ _ _ _ _ => trivial) (fun H2 c => sqL (c.at e1)) (fun D i acc z H2 H3 hi nD hD el iv c _ y => ?_) (fun D acc H2 nD c _ el hD ys => ?_)
      · obtain ⟨rfl, ex⟩ := y
        obtain ⟨d1, ed, r1⟩ := ra1.get ex
        obtain ⟨x, ds1, rfl, hx⟩ := rowOk_true (List.all_eq_true.mp allok d1 (List.mem_of_getElem? ed))
        cases r1 with
        | tup e2 ra2 =>
          cases ra2 with
          | cons r0 rs0 =>
            cases rs0 with
            | cons r3 rs3 =>
              cases rs3
              cases r0
              have e3 := c.at e2
              walk_at "w"
              exact lcp_end (fun _ _ _ _ _ _ _ => trivial) (fun _ _ _ _ _ _ _ h => h) nD (by simp) hD el (by omega) iv .refl trivial ⟨_, ed, rfl⟩
      · have e3 : acc = (ds.map rowName).map V.str := by
          apply List.ext_getElem?
          intro i
          rw [List.getElem?_map, List.getElem?_map]
          by_cases hi : i < xs.length
          · have e4 : acc[i]? = some acc[i] := List.getElem?_eq_getElem (by omega)
            obtain ⟨d1, ed, e5⟩ := ys i _ e4
            rw [e4, ed, e5]
            rfl
          · rw [List.getElem?_eq_none (by omega), List.getElem?_eq_none (by omega)]
            rfl
        subst e3
        walk_at "w"
        refine w_slL (sqL hD) fun p' H3 np c3 hp => ?_
        rw [cut1] at hp
        walk_at "w"
        have hD3 := c3.at hD
        have lz : (ds.map rowName).length = ds.length := List.length_map _
        refine w_lcP (walk_zip rfl) [] (fun _ _ => True) (fun i y _ => ∃ x x', (ds.map rowName)[i]? = some x ∧ ((ds.map rowName).drop 1)[i]? = some x' ∧ y = .bl (ltS x x')) trivial (fun _ _ _ _ _ _ _ => trivial) (fun H4 c4 => ⟨sqL (c4.at hD3), sqL (c4.at hp)⟩) (fun D2 i acc z H4 H5 hi nD2 hD2 el2 iv2 c4 _ y => ?_) (fun D2 acc H4 nD2 c4 _ el2 hD2 ys2 => ?_)
        · obtain ⟨T, x, y, rfl, nT, rfl, ex, ey⟩ := y
          have ex : ((ds.map rowName).map V.str)[i]? = some x := ex
          have ey : (((ds.map rowName).map V.str).drop 1)[i]? = some y := ey
          rw [List.getElem?_map] at ex
          rw [← List.map_drop, List.getElem?_map] at ey
          cases ez1 : (ds.map rowName)[i]? with
          | none => rw [ez1] at ex; cases ex
          | some x1 =>
            cases ez2 : ((ds.map rowName).drop 1)[i]? with
            | none => rw [ez2] at ey; cases ey
            | some x2 =>
              rw [ez1] at ex
              rw [ez2] at ey
              cases ex
              cases ey
              have cT : Chg [] H4 (upd H4 T (.tup [.str x1, .str x2])) := .new nT
              walk_at "w"
              have hi2 : i < 1000 := by
                have := (List.getElem?_eq_some_iff.mp ez1).1
                omega
              exact lcp_end (fun _ _ _ _ _ _ _ => trivial) (fun _ _ _ _ _ _ _ h => h) nD2 (by simp) hD2 el2 (by omega) iv2 cT trivial ⟨x1, x2, ez1, ez2, rfl⟩
        · have e6 : acc = (((ds.map rowName).zip ((ds.map rowName).drop 1)).map fun p => ltS p.1 p.2).map V.bl := by
            refine all_bl el2 (by simp) fun i y hy => ?_
            obtain ⟨x, x', g1, g2, rfl⟩ := ys2 i y hy
            refine ⟨_, ?_, rfl⟩
            rw [List.getElem?_map, List.getElem?_zip_eq_some (z := (x, x')) |>.mpr ⟨g1, g2⟩]
            rfl
          subst e6
          walk_at "w"
          refine w_all hD2 ?_
          rw [← rising_zip]
          have e7 : hasForm (.list ds) = rising (ds.map rowName) := by
            show (ds.all rowOk && rising (ds.map rowName)) = _
            rw [allok]
            rfl
          rw [← e7]
          exact q H4 (((c1.same c).same c3).same c4)
end Fg
namespace Fg
open PySem PySem.Spec PyProof.Rows L2
/-! ### the walk's small steps -/
local macro_rules | `(tactic| walk_at "hp") => `(tactic| first
  | assumption
  | exact upd_same
  | (refine Chg.at (by assumption) ?_; walk_at "hp")
  | (refine Chg.at1 (by assumption) ?_ (by walk_at "ne"); walk_at "hp"))
local macro_rules | `(tactic| walk_at "ne") => `(tactic| first | assumption | (apply Ne.symm; assumption))
local macro_rules | `(tactic| walk_at "sq") => `(tactic| first | assumption | exact sqL (by walk_at "hp") | (refine Chg.seq (by assumption) ?_; walk_at "sq"))
local macro_rules | `(tactic| walk_at "sz") => `(tactic| first | assumption | exact Nat.zero_le _ | (simp only [List.length_cons, List.length_nil]; decide) | exact Nat.le_trans (by first | omega | (simp; done) | (simp; omega)) (show 100000 ≤ sizeLine by decide) | exact Nat.lt_of_lt_of_le (by first | omega | (simp; done) | (simp; omega)) (show 100000 ≤ sizeLine by decide))
local macro_rules | `(tactic| walk_at "ix") => `(tactic| first | exact at0 | exact at1 | exact at2 | exact at3 | assumption | exact rfl | walk_at "ix2")
local macro_rules | `(tactic| walk_at "ix2") => `(tactic| fail)
local macro_rules | `(tactic| walk_at "num") => `(tactic| first | assumption | omega | decide | walk_at "num2")
local macro_rules | `(tactic| walk_at "num2") => `(tactic| fail)
local macro_rules | `(tactic| walk_at "im") => `(tactic| first | assumption | exact R.non (S := fun _ => False) | exact R.bl (S := fun _ => False) _ | exact R.int (S := fun _ => False) _ | exact R.str (S := fun _ => False) _ | (refine R.im (by assumption) ?_; walk_at "im"))
local macro_rules | `(tactic| walk_at "r") => `(tactic| first | assumption | exact R.non (S := fun _ => False) | exact R.bl (S := fun _ => False) _ | exact R.int (S := fun _ => False) _ | exact R.str (S := fun _ => False) _ | (refine R.same (by assumption) ?_; walk_at "r") | exact R.any (by walk_at "im"))
local macro_rules | `(tactic| walk_at "chg") => `(tactic| first
  | exact Chg.refl
  | assumption
  | (refine Chg.same ?_ (by assumption); walk_at "chg")
  | (refine Chg.both ?_ (by assumption); walk_at "chg")
  | (refine Chg.pre (by assumption) ?_; walk_at "chg"))
local macro_rules | `(tactic| walk_at "w1") => `(tactic| first
  | with_reducible apply w_seq
  | with_reducible apply w_asg
  | ((with_reducible apply w_var); (focus (exact rfl)))
  | with_reducible apply w_c
  | with_reducible apply w_op
  | with_reducible apply w_cons
  | with_reducible apply w_nil
  | with_reducible apply w_gName
  | with_reducible apply w_if
  | with_reducible apply w_test
  | with_reducible apply w_B
  | with_reducible apply w_isbl
  | with_reducible apply w_retN
  | with_reducible apply w_next
  | with_reducible apply w_drop
  | with_reducible apply w_cb
  | with_reducible apply w_call
  | with_reducible apply w_callN
  | with_reducible apply w_bm
  | with_reducible apply w_bm0
  | ((with_reducible apply w_tyL); (focus (walk_at "hp"; done)))
  | with_reducible apply w_dput
  | with_reducible apply w_m1
  | with_reducible apply w_isstr
  | with_reducible apply w_and
  | with_reducible apply w_or
  | with_reducible apply w_not
  | with_reducible apply w_andV
  | with_reducible apply w_orV
  | with_reducible apply w_notV
  | with_reducible apply w_ifE
  | with_reducible apply w_chain
  | with_reducible apply w_un
  | with_reducible apply w_neg
  | with_reducible apply w_add
  | with_reducible apply w_sub
  | ((with_reducible apply w_mod); (focus (walk_at "num"; done)))
  | ((with_reducible apply w_mul); (focus (walk_at "num"; done)))
  | ((with_reducible apply w_fdiv); (focus (walk_at "num"; done)))
  | ((with_reducible apply w_pow); (focus (walk_at "num"; done)))
  | with_reducible apply w_lt
  | with_reducible apply w_le
  | with_reducible apply w_gt
  | with_reducible apply w_ge
  | with_reducible apply w_ltS
  | with_reducible apply w_geS
  | with_reducible apply w_inC
  | with_reducible apply w_notInC
  | with_reducible apply w_isN
  | with_reducible apply w_notN
  | with_reducible apply w_isB
  | with_reducible apply w_notB
  | ((with_reducible apply w_addS); (focus (walk_at "sz"; done)))
  | ((with_reducible apply w_ixL); (focus (walk_at "sq"; done)); (focus (walk_at "ix"; done)))
  | ((with_reducible apply w_ixT); (focus (walk_at "hp"; done)); (focus (walk_at "ix"; done)))
  | ((with_reducible apply w_ixS); (focus (walk_at "sz"; done)); (focus (walk_at "ix"; done)))
  | with_reducible apply w_gSub
  | ((with_reducible apply w_gTup); (focus (walk_at "hp"; done)); (focus (exact rfl)))
  | with_reducible apply w_gCons
  | with_reducible apply w_gNil
  | ((with_reducible apply w_aug); (focus (exact rfl)))
  | with_reducible apply w_ipI
  | ((with_reducible apply w_eq); (focus (exact rfl)))
  | ((with_reducible apply w_ne); (focus (exact rfl)))
  | with_reducible apply w_max
  | with_reducible apply w_min
  | with_reducible apply w_abs
  | with_reducible apply w_intB
  | with_reducible apply w_intI
  | with_reducible apply w_tup1
  | with_reducible apply w_lst1
  | with_reducible apply w_sl
  | with_reducible apply w_part
  | with_reducible apply w_noPart
  | with_reducible apply w_isint
  | ((with_reducible apply w_slS); (focus (walk_at "sz"; done)))
  | with_reducible apply w_iteT
  | with_reducible apply w_iteF
  | with_reducible apply w_iteN
  | ((with_reducible apply w_iteYes); (focus (exact rfl)))
  | ((with_reducible apply w_iteNo); (focus (exact rfl)))
  | ((with_reducible apply w_lenL); (focus (walk_at "sq"; done)))
  | ((with_reducible apply w_lenT); (focus (walk_at "hp"; done)))
  | ((with_reducible apply w_lenS); (focus (walk_at "sz"; done)))
  | with_reducible apply w_lc
  | with_reducible apply w_for
  | with_reducible apply w_yes
  | ((with_reducible apply w_wipe); (focus (exact rfl)))
  | with_reducible apply w_iList
  | with_reducible apply w_iTup
  | with_reducible apply w_iStr
  | with_reducible apply w_iRng1
  | with_reducible apply w_iRng2
  | with_reducible apply w_iZip
  | with_reducible apply w_iEnum
  | ((with_reducible apply d_iList); (focus (walk_at "sq"; done)))
  | ((with_reducible apply d_iTup); (focus (walk_at "hp"; done)))
  | with_reducible apply d_iStr
  | ((with_reducible apply d_iRng1); (focus (walk_at "num"; done)); (focus (walk_at "num"; done)))
  | ((with_reducible apply d_iRng2); (focus (walk_at "num"; done)); (focus (walk_at "num"; done)); (focus (walk_at "num"; done)); (focus (walk_at "num"; done)))
  | ((with_reducible apply d_iZip); (focus (walk_at "sq"; done)); (focus (walk_at "sq"; done)))
  | ((with_reducible apply d_iEnum); (focus (walk_at "sq"; done)))
  | walk_at "w2")
local macro_rules | `(tactic| walk_at "w2") => `(tactic| fail)
local macro_rules | `(tactic| walk_at "wn") => `(tactic| repeat walk_at "w1")
local macro_rules | `(tactic| walk_at "w") => `(tactic| repeat (first | walk_at "w1" | with_reducible apply w_ret))

local macro_rules | `(tactic| walk_at "w2") => `(tactic| first
  | ((with_reducible apply w_isInt); (focus (walk_at "r"; done)))
  | ((with_reducible apply w_isBool); (focus (walk_at "r"; done)))
  | ((with_reducible apply w_isStr); (focus (walk_at "r"; done)))
  | ((with_reducible apply w_isTup); (focus (walk_at "r"; done)))
  | ((with_reducible apply w_isLst); (focus (walk_at "r"; done)))
  | ((with_reducible apply w_notInP); (focus (assumption)))
  | ((with_reducible apply w_ixP); (focus (assumption)); (focus (assumption))))

def fwV : Option (Str × Nat) → List V
  | none => [.non, .non]
  | some (n, k) => [.str n, .int (k : Nat)]
def sp_first_wrong : Sp := fun vs H Q _ => ∃ (v : V) (d : PyData) (S : Addr → Prop), vs = [v] ∧ R S H v d ∧ smallD d = true ∧ lenOk d = true ∧ (firstWrong d = none → ∀ H', Chg [] H H' → Q .non H') ∧
  ∀ o, firstWrong d = some o → ∀ p H', Chg [] H H' → H' p = some (.tup (fwV o)) → Q (.ref p) H'
def t_first_wrong (K : PySem.W.Frag) : TS :=
    tSeq (tIfS (tNot (tB (tCall sp_has_form [] E0 (tCons (tVar 0) (tNil))))) (tRet (tTup (tCons (tC .non) (tCons (tC .non) (tNil))))) (tNext))
    (tSeq (tAsg (tLc (iList K (tVar 0)) (gTup K 2 (gCons (gName 2) (gCons (gName 3) (gNil)))) (tYes) (tVar 2) [2, 3]) (gName 1))
    (tSeq (tFor (iList K (tVar 0)) (gTup K 2 (gCons (gName 2) (gCons (gName 3) (gNil)))) (tFor (iEnum K (tCons (tVar 3) (tNil))) (gTup K 2 (gCons (gName 4) (gCons (gName 5) (gNil)))) (tIfS (tNot (tB (tCall (sp_is_step K) [] E0 (tCons (tVar 5) (tCons (tVar 1) (tCons (tOp oSub (tOp oSub (tCB (cLenQ K) (tCons (tVar 3) (tNil))) (tVar 4)) (tC (.int 1))) (tNil))))))) (tRet (tTup (tCons (tVar 2) (tCons (tVar 4) (tNil))))) (tNext))))
    (tRet (tC .non))))
theorem wrongAt_skip {ns : List Str} {ys : List PyData} {j : Nat} {d : PyData} (h : ys[j]? = some d) (hs : isStep ns ((ys.length : Int) - j - 1) d = true) : wrongAt ns j (ys.drop j) = wrongAt ns (j + 1) (ys.drop (j + 1)) := by
  have hj := (List.getElem?_eq_some_iff.mp h)
  obtain ⟨hl, e⟩ := hj
  rw [List.drop_eq_getElem_cons hl, e]
  show (if isStep ns ((ys.drop (j + 1)).length : Int) d = true then _ else _) = _
  rw [if_pos]
  rw [← hs]
  congr 1
  rw [List.length_drop]
  omega
theorem wrongAt_here {ns : List Str} {ys : List PyData} {j : Nat} {d : PyData} (h : ys[j]? = some d) (hs : isStep ns ((ys.length : Int) - j - 1) d = false) : wrongAt ns j (ys.drop j) = some j := by
  obtain ⟨hl, e⟩ := List.getElem?_eq_some_iff.mp h
  rw [List.drop_eq_getElem_cons hl, e]
  show (if isStep ns ((ys.drop (j + 1)).length : Int) d = true then _ else _) = _
  rw [if_neg]
  have e2 : ((ys.drop (j + 1)).length : Int) = (ys.length : Int) - j - 1 := by
    rw [List.length_drop]
    omega
  rw [e2, hs]
  decide
theorem pure_first_wrong {K : PySem.W.Frag} (vs : List V) (H : Hp) (Q : VK) (E : XK) (h : sp_first_wrong vs H Q E) : t_first_wrong K (fin Q) (start ["program", "names", "name", "steps", "at", "step"] vs) H := by
  obtain ⟨v, d, S, rfl, r, sm, lo, qn, qs⟩ := h
  show t_first_wrong K _ [some v, none, none, none, none, none] H
  unfold t_first_wrong
  walk_at "w"
  refine ⟨v, d, S, rfl, r, sm, lo, fun H1 c1 => ?_⟩
  walk_at "w"
  refine w_iteB (fun hf => ?_) (fun hf => ?_)
  rotate_left
  · walk_at "w"
    refine k_tup (by decide) fun p H2 np c2 hp => ?_
    exact qs none (by unfold firstWrong; rw [hf]; rfl) p H2 (c1.same c2) hp
  cases r with
  | int i => cases hf
  | non => cases hf
  | bl b => cases hf
  | str b => cases hf
  | tup e1 a1 => cases hf
  | dic s e => cases hf
  | @lst a xs ds s e ra =>
    have efw : firstWrong (.list ds) = (wrongIn (ds.map rowName) ds).map some := by
      unfold firstWrong
      rw [if_pos hf]
      rfl
    have ln := ra.length
    have lo' : ds.length ≤ 1000 := of_decide_eq_true lo
    have allok : ds.all rowOk = true := (Bool.and_eq_true_iff.mp (show (ds.all rowOk && rising (ds.map rowName)) = true from hf)).1
    have ra1 := ra.same c1
    have e1 := c1.at e
    walk_at "w"
    refine w_lcP walk_list [] (fun _ _ => True) (fun i y _ => ∃ d, ds[i]? = some d ∧ y = .str (rowName d)) trivial (fun _ _ _ _ _ _ _ => trivial) (fun H2 c => sqL (c.at e1)) (fun D i acc z H2 H3 hi nD hD el iv c _ y => ?_) (fun D acc H2 nD c _ el hD ys => ?_)
    · obtain ⟨rfl, ex⟩ := y
      obtain ⟨d1, ed, r1⟩ := ra1.get ex
      obtain ⟨x, ds1, rfl, hx⟩ := rowOk_true (List.all_eq_true.mp allok d1 (List.mem_of_getElem? ed))
      cases r1 with
      | tup e2 ra2 =>
        cases ra2 with
        | cons r0 rs0 =>
          cases rs0 with
          | cons r3 rs3 =>
            cases rs3
            cases r0
            have e3 := c.at e2
            walk_at "w"
            exact lcp_end (fun _ _ _ _ _ _ _ => trivial) (fun _ _ _ _ _ _ _ h => h) nD (by simp) hD el (by omega) iv .refl trivial ⟨_, ed, rfl⟩
    · have e3 : acc = (ds.map rowName).map V.str := by
        apply List.ext_getElem?
        intro i
        rw [List.getElem?_map, List.getElem?_map]
        by_cases hi : i < xs.length
        · have e4 : acc[i]? = some acc[i] := List.getElem?_eq_getElem (by omega)
          obtain ⟨d1, ed, e5⟩ := ys i _ e4
          rw [e4, ed, e5]
          rfl
        · rw [List.getElem?_eq_none (by omega), List.getElem?_eq_none (by omega)]
          rfl
      subst e3
      walk_at "w"
      have e2 := c.at e1
      have ra2 := ra1.same c
      have c12 := c1.same c
      refine for_it (walk_list (K := K) (a := a) (xs := xs)) (fun i σ H3 => Chg [] H2 H3 ∧ wrongIn (ds.map rowName) ds = wrongIn (ds.map rowName) (ds.drop i) ∧ ∃ y2 y3 y4 y5, σ = [some (.ref a), some (.ref D), y2, y3, y4, y5]) ⟨.refl, rfl, none, none, none, none, rfl⟩ (fun i σ H3 _ p => sqL (p.1.at e2)) (fun i x σ H3 H4 hi p y => ?_) (fun σ H3 p => ?_)
      · obtain ⟨c3, wr, y2, y3, y4, y5, rfl⟩ := p
        obtain ⟨rfl, ex⟩ := y
        obtain ⟨d1, ed, r1⟩ := ra2.get ex
        obtain ⟨x1, ds1, rfl, hx⟩ := rowOk_true (List.all_eq_true.mp allok d1 (List.mem_of_getElem? ed))
        have sm1 : smallD (.tuple [.str x1, .list ds1]) = true := smallDs_all (ds := ds) sm _ (List.mem_of_getElem? ed)
        have sm2 : smallDs ds1 = true := smallDs_all (ds := [.str x1, .list ds1]) sm1 (.list ds1) (by simp)
        obtain ⟨hli, edi⟩ := List.getElem?_eq_some_iff.mp ed
        have wr1 : wrongIn (ds.map rowName) ds = (match wrongAt (ds.map rowName) 0 ds1 with
            | some k => some (x1, k)
            | none => wrongIn (ds.map rowName) (ds.drop (i + 1))) := by
          rw [wr, List.drop_eq_getElem_cons hli, edi]
          rfl
        cases r1 with
        | tup e4 ra4 =>
          cases ra4 with
          | cons r0 rs0 =>
            cases rs0 with
            | cons r3 rs3 =>
              cases rs3
              cases r0
              cases r3 with
              | @lst l5 ys5 _ s5 e5 ra5 =>
                have e6 := c3.at e4
                have e7 := c3.at e5
                have ln5 := ra5.length
                walk_at "w"
                refine for_it (walk_enum (K := K) (a := l5) (xs := ys5)) (fun j σ H5 => Chg [] H4 H5 ∧ wrongAt (ds.map rowName) 0 ds1 = wrongAt (ds.map rowName) j (ds1.drop j) ∧ ∃ y4 y5, σ = [some (.ref a), some (.ref D), some (.str x1), some (.ref l5), y4, y5]) ⟨.refl, rfl, _, _, rfl⟩ (fun j σ H5 _ p => sqL (p.1.at e7)) (fun j x σ H5 H6 hj p y => ?_) (fun σ H5 p => ?_)
                · obtain ⟨c5, wa, z4, z5, rfl⟩ := p
                  obtain ⟨T, vx, vy, rfl, nT, rfl, ex, ey⟩ := y
                  cases ex
                  have ey : ys5[j]? = some vy := ey
                  obtain ⟨d6, ed6, r6⟩ := ra5.get ey
                  have cT : Chg [] H5 (upd H5 T (.tup [.int (j : Nat), vy])) := .new nT
                  have c6 : Chg [] H2 (upd H5 T (.tup [.int (j : Nat), vy])) := (c3.same c5).same cT
                  have e8 := cT.at (c5.at e7)
                  walk_at "w"
                  refine ⟨vy, d6, S, D, ds.map rowName, (ys5.length : Int) - (j : Nat) - 1, rfl, r6.same c6, smallDs_all sm2 d6 (List.mem_of_getElem? ed6), sqL (c6.at hD), fun H7 c7 => ?_⟩
                  have eln : ((ys5.length : Int) - (j : Nat) - 1) = ((ds1.length : Int) - (j : Nat) - 1) := by rw [ln5]
                  rw [eln]
                  walk_at "w"
                  refine w_iteB (fun b1 => ?_) (fun b1 => ?_)
                  · walk_at "w"
                    exact ⟨(c5.same cT).same c7, by rw [wa, wrongAt_skip ed6 b1], _, _, rfl⟩
                  · walk_at "w"
                    refine k_tup (by walk_at "sz") fun p H8 np c8 hp => ?_
                    refine qs (some (x1, j)) ?_ p H8 ((c12.same (c6.same c7)).same c8) hp
                    rw [efw, wr1, wa, wrongAt_here ed6 b1]
                    rfl
                · obtain ⟨c5, wa, z4, z5, rfl⟩ := p
                  refine ⟨c3.same c5, ?_, _, _, _, _, rfl⟩
                  rw [wr1, wa, ln5, List.drop_eq_nil_of_le (Nat.le_refl _)]
                  rfl
      · obtain ⟨c3, wr, y2, y3, y4, y5, rfl⟩ := p
        walk_at "w"
        refine qn ?_ H3 (c12.same c3)
        rw [efw, wr, List.drop_eq_nil_of_le (by omega)]
        rfl
def sp_is_program : Sp := fun vs H Q _ => ∃ (v : V) (d : PyData) (S : Addr → Prop), vs = [v] ∧ R S H v d ∧ smallD d = true ∧ lenOk d = true ∧ ∀ H', Chg [] H H' → Q (.bl (firstWrong d).isNone) H'
def t_is_program  : TS :=
    tRet (tOp oIsN (tCall sp_first_wrong [] E0 (tCons (tVar 0) (tNil))) (tC .non))
theorem pure_is_program {K : PySem.W.Frag} (vs : List V) (H : Hp) (Q : VK) (E : XK) (h : sp_is_program vs H Q E) : t_is_program (fin Q) (start ["thing"] vs) H := by
  obtain ⟨v, d, S, rfl, r, sm, lo, q⟩ := h
  show t_is_program _ [some v] H
  unfold t_is_program
  walk_at "w"
  refine ⟨v, d, S, rfl, r, sm, lo, fun e H1 c1 => ?_, fun o e p H1 c1 hp => ?_⟩
  · walk_at "w"
    have := q H1 c1
    rw [e] at this
    exact this
  · walk_at "w"
    have := q H1 c1
    rw [e] at this
    exact this
end Fg
namespace Fg
open PySem PySem.Spec PyProof.Rows L2
/-! ### right programs, as data of types of their own -/
inductive Ex where
  | num (i : Int)
  | arg
  | cell (a : Ex)
  | add (a b : Ex)
  | less (a b : Ex)
  | least (a b : Ex)
def Ex.data : Ex → PyData
  | .num i => .int i
  | .arg => .tuple [.str "arg"]
  | .cell a => .tuple [.str "cell", a.data]
  | .add a b => .tuple [.str "add", a.data, b.data]
  | .less a b => .tuple [.str "less", a.data, b.data]
  | .least a b => .tuple [.str "least", a.data, b.data]
def Ex.deep : Ex → Nat
  | .num _ => 1
  | .arg => 1
  | .cell a => a.deep + 1
  | .add a b => max a.deep b.deep + 1
  | .less a b => max a.deep b.deep + 1
  | .least a b => max a.deep b.deep + 1
/-- all numbers within -B .. B -/
def Ex.numsIn (B : Int) : Ex → Prop
  | .num i => -B ≤ i ∧ i ≤ B
  | .arg => True
  | .cell a => a.numsIn B
  | .add a b => a.numsIn B ∧ b.numsIn B
  | .less a b => a.numsIn B ∧ b.numsIn B
  | .least a b => a.numsIn B ∧ b.numsIn B
theorem Ex.deep_pos (e : Ex) : 1 ≤ e.deep := by cases e <;> simp [Ex.deep]
theorem isExpr_of : ∀ (e : Ex) (n : Nat), e.deep ≤ n → isExpr n e.data = true
  | .num i, 0, h => by simp [Ex.deep] at h
  | .num i, n + 1, _ => rfl
  | .arg, 0, h => by simp [Ex.deep] at h
  | .arg, n + 1, _ => rfl
  | .cell a, 0, h => by simp [Ex.deep] at h
  | .cell a, n + 1, h => by
    have h1 := isExpr_of a n (by simp only [Ex.deep] at h; omega)
    show (match partsOf "cell" with
      | some k => decide ([a.data].length = k) && [a.data].all (isExpr n)
      | none => false) = true
    rw [show partsOf "cell" = some 1 by decide +kernel]
    simp [h1]
  | .add a b, 0, h => by simp [Ex.deep] at h
  | .add a b, n + 1, h => by
    have h1 := isExpr_of a n (by simp only [Ex.deep] at h; omega)
    have h2 := isExpr_of b n (by simp only [Ex.deep] at h; omega)
    show (match partsOf "add" with
      | some k => decide ([a.data, b.data].length = k) && [a.data, b.data].all (isExpr n)
      | none => false) = true
    rw [show partsOf "add" = some 2 by decide +kernel]
    simp [h1, h2]
  | .less a b, 0, h => by simp [Ex.deep] at h
  | .less a b, n + 1, h => by
    have h1 := isExpr_of a n (by simp only [Ex.deep] at h; omega)
    have h2 := isExpr_of b n (by simp only [Ex.deep] at h; omega)
    show (match partsOf "less" with
      | some k => decide ([a.data, b.data].length = k) && [a.data, b.data].all (isExpr n)
      | none => false) = true
    rw [show partsOf "less" = some 2 by decide +kernel]
    simp [h1, h2]
  | .least a b, 0, h => by simp [Ex.deep] at h
  | .least a b, n + 1, h => by
    have h1 := isExpr_of a n (by simp only [Ex.deep] at h; omega)
    have h2 := isExpr_of b n (by simp only [Ex.deep] at h; omega)
    show (match partsOf "least" with
      | some k => decide ([a.data, b.data].length = k) && [a.data, b.data].all (isExpr n)
      | none => false) = true
    rw [show partsOf "least" = some 2 by decide +kernel]
    simp [h1, h2]
inductive Stp where
  | cell (a b : Ex)
  | give (x : Str) (a : Ex)
  | fork (x : Str) (a : Ex)
  | call (x : Str) (a : Ex)
  | wait
  | skip (a : Ex) (k : Int)
def Stp.data : Stp → PyData
  | .cell a b => .tuple [.str "cell", a.data, b.data]
  | .give x a => .tuple [.str "give", .str x, a.data]
  | .fork x a => .tuple [.str "fork", .str x, a.data]
  | .call x a => .tuple [.str "call", .str x, a.data]
  | .wait => .tuple [.str "wait"]
  | .skip a k => .tuple [.str "skip", a.data, .int k]
/-- a right step, by the helpers' names and how many there are behind it -/
def Stp.ok (ns : List Str) (bh : Int) : Stp → Prop
  | .cell a b => a.deep ≤ 5 ∧ b.deep ≤ 5
  | .give x a => nameS x = true ∧ a.deep ≤ 5
  | .fork x a => nameS x = true ∧ x ∈ ns ∧ a.deep ≤ 5
  | .call x a => nameS x = true ∧ x ∈ ns ∧ a.deep ≤ 5
  | .wait => True
  | .skip a k => a.deep ≤ 5 ∧ 1 ≤ k ∧ k ≤ bh
theorem isStep_of {ns : List Str} {bh : Int} {s : Stp} (h : s.ok ns bh) : isStep ns bh s.data = true := by
  cases s with
  | cell a b =>
    have h1 := isExpr_of a 5 h.1
    have h2 := isExpr_of b 5 h.2
    show step3 ns bh "cell" a.data b.data = true
    unfold step3
    rw [if_pos rfl, h1, h2]
    rfl
  | give x a =>
    have h2 := isExpr_of a 5 h.2
    show step3 ns bh "give" (.str x) a.data = true
    unfold step3
    rw [if_neg (by decide +kernel), if_neg (by decide +kernel), if_pos rfl, h2, show isName (.str x) = true from h.1]
    rfl
  | fork x a =>
    have h2 := isExpr_of a 5 h.2.2
    show step3 ns bh "fork" (.str x) a.data = true
    unfold step3
    rw [if_neg (by decide +kernel), if_neg (by decide +kernel), if_neg (by decide +kernel), if_pos (.inl rfl), h2, show isName (.str x) = true from h.1, show inNm ns (.str x) = true from decide_eq_true h.2.1]
    rfl
  | call x a =>
    have h2 := isExpr_of a 5 h.2.2
    show step3 ns bh "call" (.str x) a.data = true
    unfold step3
    rw [if_neg (by decide +kernel), if_neg (by decide +kernel), if_neg (by decide +kernel), if_pos (.inr rfl), h2, show isName (.str x) = true from h.1, show inNm ns (.str x) = true from decide_eq_true h.2.1]
    rfl
  | wait => rfl
  | skip a k =>
    have h1 := isExpr_of a 5 h.1
    show step3 ns bh "skip" a.data (.int k) = true
    unfold step3
    rw [if_neg (by decide +kernel), if_pos rfl, h1]
    show (true && (decide (1 ≤ k) && decide (k ≤ bh))) = true
    rw [decide_eq_true h.2.1, decide_eq_true h.2.2]
    rfl
/-- helpers with their steps -/
abbrev Prg := List (Str × List Stp)
def rowD (r : Str × List Stp) : PyData := .tuple [.str r.1, .list (r.2.map Stp.data)]
def prgD (p : Prg) : PyData := .list (p.map rowD)
/-- each step right by its place -/
def stepsOk (ns : List Str) : List Stp → Prop
  | [] => True
  | s :: r => s.ok ns (r.length : Int) ∧ stepsOk ns r
structure PrgOk (p : Prg) : Prop where
  names : ∀ r ∈ p, nameS r.1 = true
  up : rising (p.map (·.1)) = true
  steps : ∀ r ∈ p, stepsOk (p.map (·.1)) r.2
  few : p.length ≤ 100
  short : ∀ r ∈ p, r.2.length ≤ 100
theorem wrongAt_of {ns : List Str} : ∀ {ss : List Stp} (k : Nat), stepsOk ns ss → wrongAt ns k (ss.map Stp.data) = none
  | [], _, _ => rfl
  | s :: r, k, h => by
    show (if isStep ns ((r.map Stp.data).length : Int) s.data = true then wrongAt ns (k + 1) (r.map Stp.data) else some k) = none
    rw [List.length_map, if_pos (isStep_of h.1)]
    exact wrongAt_of (k + 1) h.2
theorem wrongIn_of {ns : List Str} : ∀ {p : Prg}, (∀ r ∈ p, stepsOk ns r.2) → wrongIn ns (p.map rowD) = none
  | [], _ => rfl
  | r :: p, h => by
    show (match wrongAt ns 0 (r.2.map Stp.data) with
      | some k => some (r.1, k)
      | none => wrongIn ns (p.map rowD)) = none
    rw [wrongAt_of 0 (h r (by simp))]
    exact wrongIn_of fun r hr => h r (List.mem_cons_of_mem _ hr)
theorem rowName_map (p : Prg) : (p.map rowD).map rowName = p.map (·.1) := by
  rw [List.map_map]
  rfl
theorem hasForm_of {p : Prg} (h : PrgOk p) : hasForm (prgD p) = true := by
  show ((p.map rowD).all rowOk && rising ((p.map rowD).map rowName)) = true
  rw [rowName_map, h.up, Bool.and_true, List.all_map]
  exact List.all_eq_true.mpr fun r hr => h.names r hr
theorem firstWrong_of {p : Prg} (h : PrgOk p) : firstWrong (prgD p) = none := by
  unfold firstWrong
  rw [if_pos (hasForm_of h)]
  show (wrongIn ((p.map rowD).map rowName) (p.map rowD)).map some = none
  rw [rowName_map, wrongIn_of h.steps]
  rfl
/-! sizes -/
theorem Ex.small : ∀ e : Ex, smallD e.data = true
  | .num _ => rfl
  | .arg => by decide +kernel
  | .cell a => by
    show (smallD (.str "cell") && (smallD a.data && true)) = true
    rw [Ex.small a]; decide +kernel
  | .add a b => by
    show (smallD (.str "add") && (smallD a.data && (smallD b.data && true))) = true
    rw [Ex.small a, Ex.small b]; decide +kernel
  | .less a b => by
    show (smallD (.str "less") && (smallD a.data && (smallD b.data && true))) = true
    rw [Ex.small a, Ex.small b]; decide +kernel
  | .least a b => by
    show (smallD (.str "least") && (smallD a.data && (smallD b.data && true))) = true
    rw [Ex.small a, Ex.small b]; decide +kernel
theorem nameS_iff {x : Str} : nameS x = true ↔ 1 ≤ x.length ∧ x.length ≤ 8 ∧ ∀ c ∈ x.cps.toList, isLow c = true := by
  unfold nameS
  rw [Bool.and_eq_true, Bool.and_eq_true, decide_eq_true_eq, decide_eq_true_eq, List.all_eq_true]
  exact ⟨fun h => ⟨h.1.1, h.1.2, h.2⟩, fun h => ⟨⟨h.1, h.2.1⟩, h.2.2⟩⟩
theorem small_name {x : Str} (h : nameS x = true) : smallD (.str x) = true := decide_eq_true (by have := (nameS_iff.mp h).2.1; omega)
theorem Stp.small {ns : List Str} {bh : Int} {s : Stp} (h : s.ok ns bh) : smallD s.data = true := by
  cases s with
  | cell a b =>
    show (smallD (.str "cell") && (smallD a.data && (smallD b.data && true))) = true
    rw [Ex.small a, Ex.small b]; decide +kernel
  | give x a =>
    show (smallD (.str "give") && (smallD (.str x) && (smallD a.data && true))) = true
    rw [Ex.small a, small_name h.1]; decide +kernel
  | fork x a =>
    show (smallD (.str "fork") && (smallD (.str x) && (smallD a.data && true))) = true
    rw [Ex.small a, small_name h.1]; decide +kernel
  | call x a =>
    show (smallD (.str "call") && (smallD (.str x) && (smallD a.data && true))) = true
    rw [Ex.small a, small_name h.1]; decide +kernel
  | wait => decide +kernel
  | skip a k =>
    show (smallD (.str "skip") && (smallD a.data && (smallD (.int k) && true))) = true
    rw [Ex.small a]
    show (smallD (.str "skip") && (true && (true && true))) = true
    decide +kernel
theorem smallDs_of : ∀ {ds : List PyData}, (∀ d ∈ ds, smallD d = true) → smallDs ds = true
  | [], _ => rfl
  | d :: ds, h => by
    show (smallD d && smallDs ds) = true
    rw [h d (by simp), smallDs_of fun e he => h e (List.mem_cons_of_mem _ he)]
    rfl
theorem stepsOk_mem {ns : List Str} : ∀ {ss : List Stp}, stepsOk ns ss → ∀ s ∈ ss, ∃ bh, s.ok ns bh
  | [], _, s, h => by cases h
  | t :: r, h, s, hs => by
    rcases List.mem_cons.mp hs with rfl | hs
    · exact ⟨_, h.1⟩
    · exact stepsOk_mem h.2 s hs
theorem prg_small {p : Prg} (h : PrgOk p) : smallD (prgD p) = true := by
  refine smallDs_of fun d hd => ?_
  obtain ⟨r, hr, rfl⟩ := List.mem_map.mp hd
  show (smallD (.str r.1) && (smallD (.list (r.2.map Stp.data)) && true)) = true
  rw [small_name (h.names r hr)]
  have : smallDs (r.2.map Stp.data) = true := smallDs_of fun d hd => by
    obtain ⟨s, hs, rfl⟩ := List.mem_map.mp hd
    obtain ⟨bh, hb⟩ := stepsOk_mem (h.steps r hr) s hs
    exact Stp.small hb
  show (true && (smallDs (r.2.map Stp.data) && true)) = true
  rw [this]
  rfl
theorem prg_len {p : Prg} (h : PrgOk p) : lenOk (prgD p) = true := decide_eq_true (by
  have := h.few
  show (p.map rowD).length ≤ 1000
  rw [List.length_map]
  omega)
/-! no dicts in it, not deep -/
theorem Ex.flat : ∀ e : Ex, noDic e.data = true
  | .num _ => rfl
  | .arg => rfl
  | .cell a => by
    show (true && (noDic a.data && true)) = true
    rw [Ex.flat a]; rfl
  | .add a b => by
    show (true && (noDic a.data && (noDic b.data && true))) = true
    rw [Ex.flat a, Ex.flat b]; rfl
  | .less a b => by
    show (true && (noDic a.data && (noDic b.data && true))) = true
    rw [Ex.flat a, Ex.flat b]; rfl
  | .least a b => by
    show (true && (noDic a.data && (noDic b.data && true))) = true
    rw [Ex.flat a, Ex.flat b]; rfl
theorem Stp.flat (s : Stp) : noDic s.data = true := by
  cases s with
  | cell a b =>
    show (true && (noDic a.data && (noDic b.data && true))) = true
    rw [Ex.flat a, Ex.flat b]; rfl
  | give x a => show (true && (true && (noDic a.data && true))) = true; rw [Ex.flat a]; rfl
  | fork x a => show (true && (true && (noDic a.data && true))) = true; rw [Ex.flat a]; rfl
  | call x a => show (true && (true && (noDic a.data && true))) = true; rw [Ex.flat a]; rfl
  | wait => rfl
  | skip a k => show (true && (noDic a.data && (true && true))) = true; rw [Ex.flat a]; rfl
theorem noDics_of : ∀ {ds : List PyData}, (∀ d ∈ ds, noDic d = true) → noDics ds = true
  | [], _ => rfl
  | d :: ds, h => by
    show (noDic d && noDics ds) = true
    rw [h d (by simp), noDics_of fun e he => h e (List.mem_cons_of_mem _ he)]
    rfl
theorem prg_noDic (p : Prg) : noDic (prgD p) = true := by
  refine noDics_of fun d hd => ?_
  obtain ⟨r, hr, rfl⟩ := List.mem_map.mp hd
  show (true && (noDics (r.2.map Stp.data) && true)) = true
  rw [noDics_of fun d hd => by
    obtain ⟨s, hs, rfl⟩ := List.mem_map.mp hd
    exact Stp.flat s]
  rfl
theorem Ex.depth_le : ∀ e : Ex, e.data.depth ≤ e.deep
  | .num _ => Nat.zero_le _
  | .arg => by show 1 ≤ 1; exact Nat.le_refl _
  | .cell a => by
    have := Ex.depth_le a
    show max 0 (max a.data.depth 0) + 1 ≤ a.deep + 1
    omega
  | .add a b => by
    have := Ex.depth_le a
    have := Ex.depth_le b
    show max 0 (max a.data.depth (max b.data.depth 0)) + 1 ≤ max a.deep b.deep + 1
    omega
  | .less a b => by
    have := Ex.depth_le a
    have := Ex.depth_le b
    show max 0 (max a.data.depth (max b.data.depth 0)) + 1 ≤ max a.deep b.deep + 1
    omega
  | .least a b => by
    have := Ex.depth_le a
    have := Ex.depth_le b
    show max 0 (max a.data.depth (max b.data.depth 0)) + 1 ≤ max a.deep b.deep + 1
    omega
theorem Stp.depth_le {ns : List Str} {bh : Int} {s : Stp} (h : s.ok ns bh) : s.data.depth ≤ 6 := by
  cases s with
  | cell a b =>
    have := Ex.depth_le a
    have := Ex.depth_le b
    have := h.1
    have := h.2
    show max 0 (max a.data.depth (max b.data.depth 0)) + 1 ≤ 6
    omega
  | give x a =>
    have := Ex.depth_le a
    have := h.2
    show max 0 (max 0 (max a.data.depth 0)) + 1 ≤ 6
    omega
  | fork x a =>
    have := Ex.depth_le a
    have := h.2.2
    show max 0 (max 0 (max a.data.depth 0)) + 1 ≤ 6
    omega
  | call x a =>
    have := Ex.depth_le a
    have := h.2.2
    show max 0 (max 0 (max a.data.depth 0)) + 1 ≤ 6
    omega
  | wait => show 1 ≤ 6; decide
  | skip a k =>
    have := Ex.depth_le a
    have := h.1
    show max 0 (max a.data.depth (max 0 0)) + 1 ≤ 6
    omega
theorem depthAll_le {n : Nat} : ∀ {ds : List PyData}, (∀ d ∈ ds, d.depth ≤ n) → PyData.depthAll ds ≤ n
  | [], _ => Nat.zero_le _
  | d :: ds, h => by
    have h1 := h d (by simp)
    have h2 := depthAll_le fun e he => h e (List.mem_cons_of_mem d he)
    show max d.depth (PyData.depthAll ds) ≤ n
    omega
theorem prg_depth {p : Prg} (h : PrgOk p) : (prgD p).depth ≤ 10 := by
  have : PyData.depthAll (p.map rowD) ≤ 9 := depthAll_le fun d hd => by
    obtain ⟨r, hr, rfl⟩ := List.mem_map.mp hd
    have : PyData.depthAll (r.2.map Stp.data) ≤ 6 := depthAll_le fun d hd => by
      obtain ⟨s, hs, rfl⟩ := List.mem_map.mp hd
      obtain ⟨bh, hb⟩ := stepsOk_mem (h.steps r hr) s hs
      exact Stp.depth_le hb
    show max 0 (max (PyData.depthAll (r.2.map Stp.data) + 1) 0) + 1 ≤ 9
    omega
  show PyData.depthAll (p.map rowD) + 1 ≤ 10
  omega
/-! no lists in it -/
mutual
def noL : PyData → Bool
  | .list _ => false
  | .dict _ => false
  | .tuple ds => noLs ds
  | _ => true
def noLs : List PyData → Bool
  | [] => true
  | d :: ds => noL d && noLs ds
end
mutual
theorem R.pure {S : Addr → Prop} {H : Hp} : ∀ {d : PyData} {v : V}, R S H v d → noL d = true → Im H v d
  | .none, _, h, _ => by cases h; exact .non
  | .bool _, _, h, _ => by cases h; exact .bl _
  | .int _, _, h, _ => by cases h; exact .int _
  | .str _, _, h, _ => by cases h; exact .str _
  | .list ds, _, h, z => by cases z
  | .tuple ds, _, h, z => by
    cases h with
    | tup e r => exact .tup e (RA.pure r z)
  | .dict _, _, h, z => by cases z
theorem RA.pure {S : Addr → Prop} {H : Hp} : ∀ {ds : List PyData} {vs : List V}, RA S H vs ds → noLs ds = true → ImA H vs ds
  | [], _, h, _ => by cases h; exact .nil
  | d :: ds, _, h, z => by
    obtain ⟨z1, z2⟩ := Bool.and_eq_true_iff.mp (show (noL d && noLs ds) = true from z)
    cases h with
    | cons a b => exact .cons (R.pure a z1) (RA.pure b z2)
end
theorem Ex.noL : ∀ e : Ex, Fg.noL e.data = true
  | .num _ => rfl
  | .arg => rfl
  | .cell a => by
    show (true && (Fg.noL a.data && true)) = true
    rw [Ex.noL a]; rfl
  | .add a b => by
    show (true && (Fg.noL a.data && (Fg.noL b.data && true))) = true
    rw [Ex.noL a, Ex.noL b]; rfl
  | .less a b => by
    show (true && (Fg.noL a.data && (Fg.noL b.data && true))) = true
    rw [Ex.noL a, Ex.noL b]; rfl
  | .least a b => by
    show (true && (Fg.noL a.data && (Fg.noL b.data && true))) = true
    rw [Ex.noL a, Ex.noL b]; rfl
theorem Stp.noL (s : Stp) : Fg.noL s.data = true := by
  cases s with
  | cell a b =>
    show (true && (Fg.noL a.data && (Fg.noL b.data && true))) = true
    rw [Ex.noL a, Ex.noL b]; rfl
  | give x a => show (true && (true && (Fg.noL a.data && true))) = true; rw [Ex.noL a]; rfl
  | fork x a => show (true && (true && (Fg.noL a.data && true))) = true; rw [Ex.noL a]; rfl
  | call x a => show (true && (true && (Fg.noL a.data && true))) = true; rw [Ex.noL a]; rfl
  | wait => rfl
  | skip a k => show (true && (Fg.noL a.data && (true && true))) = true; rw [Ex.noL a]; rfl
theorem noLs_of : ∀ {ds : List PyData}, (∀ d ∈ ds, Fg.noL d = true) → noLs ds = true
  | [], _ => rfl
  | d :: ds, h => by
    show (Fg.noL d && noLs ds) = true
    rw [h d (by simp), noLs_of fun e he => h e (List.mem_cons_of_mem _ he)]
    rfl
theorem steps_noL (ss : List Stp) : noLs (ss.map Stp.data) = true := noLs_of fun d hd => by
  obtain ⟨s, _, rfl⟩ := List.mem_map.mp hd
  exact Stp.noL s
end Fg
namespace PySem.SeqAt
open AutoSeq1 (wpAny_loadPart')
open MeetsSeq
theorem fg_dict_declines_str (l : Addr) (es : Array DictEntry) (n : Nat) (dd : Option Addr) (sl : Array (Option Value)) (b : Str) (u : Tok) :
    Meets (Builtin.«dict.__eq__» ⟨[.ref l, .str b u], []⟩) (fun _ R s => s.heap.get? l = some { cls := .type "dict", dict := dd, data := .dict es n, slots := sl } ∧ R (.ok (.ret .notImplemented)) s) :=
  .of_wp fun prog w A R s h => by obtain ⟨hp, g, d, tk, os⟩ := s; obtain ⟨hl, h⟩ := h; have f1 := F.sub_str_dict; wp_walk using wpAny_loadPart' hl, wpAny_load hl; exact ⟨_, rfl, h⟩
theorem fg_str_declines_dict (b : Str) (u : Tok) (l : Addr) (es : Array DictEntry) (n : Nat) (dd : Option Addr) (sl : Array (Option Value)) :
    Meets (Builtin.«str.__eq__» ⟨[.str b u, .ref l], []⟩) (fun _ R s => s.heap.get? l = some { cls := .type "dict", dict := dd, data := .dict es n, slots := sl } ∧ R (.ok (.ret .notImplemented)) s) :=
  .of_wp fun prog w A R s h => by obtain ⟨hp, g, d, tk, os⟩ := s; obtain ⟨hl, h⟩ := h; wp_walk using wpAny_loadPart' hl, wpAny_load hl; exact ⟨_, rfl, h⟩
theorem fg_dict_declines_tuple (l b : Addr) (es : Array DictEntry) (items : Array Value) (n n2 : Nat) (dd dd2 : Option Addr) (sl sl2 : Array (Option Value)) :
    Meets (Builtin.«dict.__eq__» ⟨[.ref l, .ref b], []⟩) (fun _ R s => s.heap.get? l = some { cls := .type "dict", dict := dd, data := .dict es n, slots := sl } ∧ s.heap.get? b = some { cls := .type "tuple", dict := dd2, data := .seq items n2, slots := sl2 } ∧ R (.ok (.ret .notImplemented)) s) :=
  .of_wp fun prog w A R s h => by obtain ⟨hp, g, d, tk, os⟩ := s; obtain ⟨hl, hb, h⟩ := h; have f1 := F.sub_tuple_dict; wp_walk using wpAny_loadPart' hl, wpAny_load hl, wpAny_loadPart' hb, wpAny_load hb; exact ⟨_, rfl, h⟩
theorem fg_tuple_declines_dict (b l : Addr) (items : Array Value) (es : Array DictEntry) (n2 n : Nat) (dd2 dd : Option Addr) (sl2 sl : Array (Option Value)) :
    Meets (Builtin.«tuple.__eq__» ⟨[.ref b, .ref l], []⟩) (fun _ R s => s.heap.get? b = some { cls := .type "tuple", dict := dd2, data := .seq items n2, slots := sl2 } ∧ s.heap.get? l = some { cls := .type "dict", dict := dd, data := .dict es n, slots := sl } ∧ R (.ok (.ret .notImplemented)) s) :=
  .of_wp fun prog w A R s h => by obtain ⟨hp, g, d, tk, os⟩ := s; obtain ⟨hb, hl, h⟩ := h; have f1 : isSubtype (.type "dict") (.type "tuple") = pure false := by rw [isSubtype_type]; kernel_rfl
                                  wp_walk using wpAny_loadPart' hb, wpAny_load hb, wpAny_loadPart' hl, wpAny_load hl; exact ⟨_, rfl, h⟩
section
variable {A : Around} {s : Shared}
theorem fg_dict_str {l : Addr} {es : Array DictEntry} {n : Nat} {dd : Option Addr} {sl : Array (Option Value)} (b : Str) (u : Tok) (ho : s.heap.get? l = some { cls := .type "dict", dict := dd, data := .dict es n, slots := sl }) (hu : A.units < cLine) : RcAt A s (.ref l) (.str b u) false := fun prog w E Q h =>
  rc_eq_decline_or (k := false) ⟨_, ho, rfl⟩ (typeIs_str s b u) (by decide) F.sub_str_dict F.slot_dict_eq F.slot_str_eq_refl
    (fun _ hq => call_meets F.slot_dict_eq ⟨_, ho, rfl⟩ F.entry_dict_eq (F.args_dict_eq_2 _ _) (fg_dict_declines_str l es n dd sl b u) ⟨ho, hq⟩)
    (fun _ hq => call_meets F.slot_str_eq_refl (typeIs_str s b u) F.entry_str_eq (F.args_str_eq_2 _ _) (fg_str_declines_dict b u l es n dd sl) ⟨ho, hq⟩)
    (fun _ hq => wpAny_of_eq (rfl : isSame (.ref l) (.str b u) = pure false) hq) (.inr hu) h
theorem fg_eq_dict_str {l : Addr} {es : Array DictEntry} {n : Nat} {dd : Option Addr} {sl : Array (Option Value)} (b : Str) (u : Tok) (ho : s.heap.get? l = some { cls := .type "dict", dict := dd, data := .dict es n, slots := sl }) (hu : A.units < cLine) : EqAt A s (.ref l) (.str b u) false := fun prog w E Q h => by
  unfold eqBool
  refine wpAny_holding ?_
  refine wpAny_ite_split (fun hab => absurd (eq_of_beq hab) nofun) (fun _ => ?_)
  exact wpAny_bind (fg_dict_str b u ho hu prog w E _ (wpAny_truthy_bool h))
theorem fg_dict_tuple {l b : Addr} {es : Array DictEntry} {items : Array Value} {n : Nat} {dd : Option Addr} {sl : Array (Option Value)} (ho : s.heap.get? l = some { cls := .type "dict", dict := dd, data := .dict es n, slots := sl }) (hb : s.heap.IsTuple b items) (hu : A.units < cLine) :
    RcAt A s (.ref l) (.ref b) false := fun prog w E Q h => by
  obtain ⟨⟨cls2, dd2, data2, sl2⟩, ho2, hc2, n2, hd2⟩ := id hb
  simp only at hc2 hd2
  subst hc2 hd2
  have hne : l ≠ b := fun z => by
    rw [z, ho2] at ho
    injection ho with ho
    injection ho with e1 e2 e3
    cases e3
  exact (rc_eq_decline_or (k := false) ⟨_, ho, rfl⟩ ⟨_, ho2, rfl⟩ (by decide) F.sub_tuple_dict F.slot_dict_eq F.slot_tuple_eq_refl
    (fun _ hq => call_meets F.slot_dict_eq ⟨_, ho, rfl⟩ F.entry_dict_eq (F.args_dict_eq_2 _ _) (fg_dict_declines_tuple l b es items n n2 dd dd2 sl sl2) ⟨ho, ho2, hq⟩)
    (fun _ hq => call_meets F.slot_tuple_eq_refl ⟨_, ho2, rfl⟩ F.entry_tuple_eq (F.args_tuple_eq_2 _ _) (fg_tuple_declines_dict b l items es n2 n dd2 dd sl2 sl) ⟨ho2, ho, hq⟩)
    (fun _ hq => wpAny_isSame_ref_other hne ho ho2 (by simp) hq) (.inr hu) h)
end
end PySem.SeqAt
namespace Fg
open PySem PySem.Spec PyProof.Rows L2
/-- d is the tuple of the one text z -/
def isT1 (z : Str) : PyData → Bool
  | .tuple [.str y] => y == z
  | _ => false
def is0 (z : Str) : PyData → Bool
  | .str y => y == z
  | _ => false
def oEqT1 : R2 := fun x y H Q => ∃ (d : PyData) (S : Addr → Prop) (z : Str) (p : Addr), R S H x d ∧ y = .ref p ∧ H p = some (.tup [.str z]) ∧ Q (.bl (isT1 z d)) H
def oEqE : R2 := fun x y H Q => ∃ (p q : Addr) (xs : List V), x = .ref p ∧ y = .ref q ∧ ((H p = some (.lst xs) ∧ H q = some (.lst [])) ∨ (H p = some (.tup xs) ∧ H q = some (.tup []))) ∧ Q (.bl xs.isEmpty) H
section
variable {X : Cx} {pins : List (Addr × Obj)} {σ : L2.St} {H : Hp} {s : Shared}
theorem tupAt {p : Addr} {xs : List V} (I : Inv X pins σ H s) (h : H p = some (.tup xs)) : ∃ its : List Value, Vals xs its ∧ s.heap.IsTuple p its.toArray := by
  obtain ⟨_, its, rv, o, h1, h2, n, h3⟩ := (show ObjOk X.prog X.w H s.heap p (.tup xs) from I.hok p _ h)
  exact ⟨its, rv, ⟨o, h1, h2, n, h3⟩⟩
theorem lstAt {p : Addr} {xs : List V} (I : Inv X pins σ H s) (h : H p = some (.lst xs)) : ∃ its : List Value, Vals xs its ∧ s.heap.IsList p its.toArray := by
  obtain ⟨_, its, n, rv, h1⟩ := (show ObjOk X.prog X.w H s.heap p (.lst xs) from I.hok p _ h)
  exact ⟨its, rv, ⟨_, h1, rfl, n, rfl⟩⟩
theorem dicAt {p : Addr} {kvs : List (Key × V)} (I : Inv X pins σ H s) (h : H p = some (.dK kvs)) : ∃ (es : Array DictEntry) (n : Nat) (dd : Option Addr) (sl : Array (Option Value)), s.heap.get? p = some { cls := .type "dict", dict := dd, data := .dict es n, slots := sl } := by
  obtain ⟨_, _, vs, _, o, es, ep, h1, h2, h3, _⟩ := (show ObjOk X.prog X.w H s.heap p (.dK kvs) from I.hok p _ h)
  obtain ⟨oc, od, dt, sl⟩ := o
  obtain ⟨h4, h5, h6⟩ := h2
  simp only at h3 h4 h5 h6
  subst h3 h4
  exact ⟨es, ep, od, sl, h1⟩
/-- an item against a text -/
theorem eqAt_text {A : Around} {S : Addr → Prop} {v : V} {d : PyData} {u : Value} {z : Str} {t : Tok} (I : Inv X pins σ H s) (r : R S H v d) (rv : RelV v u) (hu : A.units < cLine) : SeqAt.EqAt A s u (.str z t) (is0 z d) := by
  cases r with
  | non => cases (show u = Value.none from rv); exact SeqAt.EqAt.none_str z t
  | bl b => cases (show u = Value.bool b from rv); exact SeqAt.EqAt.bool_str b z t
  | int i =>
    obtain ⟨k, q⟩ := (show ∃ k, u = Value.int i k from rv)
    cases q
    exact SeqAt.EqAt.int_str i k z t
  | str x =>
    obtain ⟨k, q⟩ := (show ∃ k, u = Value.str x k from rv)
    cases q
    exact SeqAt.EqAt.str_str x k z t
  | @lst a xs ds sa ea ra =>
    cases (show u = Value.ref a from rv)
    obtain ⟨its, _, hl⟩ := lstAt I ea
    exact SeqAt.EqAt.list_str z t hl hu
  | @tup a xs ds ea ra =>
    cases (show u = Value.ref a from rv)
    obtain ⟨its, _, hl⟩ := tupAt I ea
    exact SeqAt.EqAt.tuple_str z t hl hu
  | @dic a kvs sa ea =>
    cases (show u = Value.ref a from rv)
    obtain ⟨es, n, dd, sl, ho⟩ := dicAt I ea
    exact SeqAt.fg_eq_dict_str z t ho hu
theorem p_eqT1 (hu : X.A.units + 64 < cLine) : OpR X (compareOp .Eq) oEqT1 := by
  intro pins s σ H x y v u Q I rx ry h
  obtain ⟨d, S, z, p, r, rfl, hp, q⟩ := h
  cases (show u = Value.ref p from ry)
  have hu0 : X.A.units < cLine := by omega
  obtain ⟨itp, rp, tp⟩ := tupAt I hp
  have fin : ∀ b, SeqAt.RcAt X.A s v (.ref p) b → isT1 z d = b → wpAny (model X.prog X.w) X.A (compareOp .Eq v (.ref p)) (EP X pins σ Q) X.xe s := fun b hb e => by
    subst e
    exact hb X.prog X.w X.xe _ ⟨.bl _, H, I, rfl, q⟩
  cases r with
  | non => cases (show v = Value.none from rx); exact fin _ (SeqAt.RcAt.none_tuple tp hu0) rfl
  | bl b => cases (show v = Value.bool b from rx); exact fin _ (SeqAt.RcAt.bool_tuple b tp hu0) rfl
  | int i =>
    obtain ⟨k, q⟩ := (show ∃ k, v = Value.int i k from rx)
    cases q
    exact fin _ (SeqAt.RcAt.int_tuple i k tp hu0) rfl
  | str w =>
    obtain ⟨k, q⟩ := (show ∃ k, v = Value.str w k from rx)
    cases q
    exact fin _ (SeqAt.RcAt.str_tuple w k tp hu0) rfl
  | @lst a xs ds sa ea ra =>
    cases (show v = Value.ref a from rx)
    obtain ⟨its, _, hl⟩ := lstAt I ea
    exact fin _ (SeqAt.RcAt.list_tuple hl tp hu0) rfl
  | @dic a kvs sa ea =>
    cases (show v = Value.ref a from rx)
    obtain ⟨es, n, dd, sl, ho⟩ := dicAt I ea
    exact fin _ (SeqAt.fg_dict_tuple ho tp hu0) rfl
  | @tup a xs ds ea ra =>
    cases (show v = Value.ref a from rx)
    obtain ⟨its, rv, hl⟩ := tupAt I ea
    cases rp with
    | cons rz rn =>
      cases rn
      obtain ⟨t, rfl⟩ := rz
      cases ra with
      | nil =>
        cases rv
        refine fin _ (SeqAt.RcAt.tuples (e := fun _ => true) hl tp hu0 fun j h1 h2 => absurd h1 (by simp)) rfl
      | @cons v0 vs0 d0 ds0 r0 rs =>
        cases rv with
        | @cons _ u0 _ us0 q0 qs =>
          have e0 := eqAt_text (A := X.A.in1) (z := z) (t := t) I r0 q0 (show X.A.units + 1 < cLine by omega)
          refine fin _ (SeqAt.RcAt.tuples (e := fun _ => is0 z d0) hl tp hu0 fun j h1 h2 => ?_) ?_
          · have hj : j = 0 := by
              have : j < 1 := h2
              omega
            subst hj
            exact e0
          · have l1 : us0.length = ds0.length := by rw [← Paired.length qs, rs.length]
            cases ds0 with
            | nil =>
              have l2 : us0 = [] := List.length_eq_zero_iff.mp l1
              subst l2
              cases d0 <;> first | rfl | simp [isT1, is0]
            | cons d1 ds1 =>
              cases us0 with
              | nil => simp at l1
              | cons u1 us1 => cases d0 <;> simp [isT1, is0]
theorem p_eqE (hu : X.A.units + 64 < cLine) : OpR X (compareOp .Eq) oEqE := by
  intro pins s σ H x y v u Q I rx ry h
  obtain ⟨p, q, xs, rfl, rfl, hc, hq⟩ := h
  cases (show v = Value.ref p from rx)
  cases (show u = Value.ref q from ry)
  have hu0 : X.A.units < cLine := by omega
  have fin : ∀ b, SeqAt.RcAt X.A s (.ref p) (.ref q) b → xs.isEmpty = b → wpAny (model X.prog X.w) X.A (compareOp .Eq (.ref p) (.ref q)) (EP X pins σ Q) X.xe s := fun b hb e => by
    subst e
    exact hb X.prog X.w X.xe _ ⟨.bl _, H, I, rfl, hq⟩
  rcases hc with ⟨h1, h2⟩ | ⟨h1, h2⟩
  · obtain ⟨i1, r1, l1⟩ := lstAt I h1
    obtain ⟨i2, r2, l2⟩ := lstAt I h2
    cases r2
    cases r1 with
    | nil => exact fin _ (SeqAt.RcAt.lists (e := fun _ => true) l1 l2 rfl hu0 fun j h1 h2 => absurd h1 (by simp)) rfl
    | cons a b => exact fin _ (SeqAt.RcAt.lists_lengths l1 l2 (by simp) hu0) rfl
  · obtain ⟨i1, r1, l1⟩ := tupAt I h1
    obtain ⟨i2, r2, l2⟩ := tupAt I h2
    cases r2
    cases r1 with
    | nil => exact fin _ (SeqAt.RcAt.tuples (e := fun _ => true) l1 l2 hu0 fun j h1 h2 => absurd h1 (by simp)) rfl
    | cons a b => exact fin _ (SeqAt.RcAt.tuples (e := fun _ => true) l1 l2 hu0 fun j h1 h2 => absurd h2 (by simp)) (by simp)
end
section
variable {H : Hp} {Q : VK} {x y : V}
theorem w_eqT1 {d : PyData} {S : Addr → Prop} {z : Str} {p : Addr} (r : R S H x d) (hp : H p = some (.tup [.str z])) (q : Q (.bl (isT1 z d)) H) : oEqT1 x (.ref p) H Q := ⟨d, S, z, p, r, rfl, hp, q⟩
theorem w_eqEL {p q : Addr} {xs : List V} (h1 : H p = some (.lst xs)) (h2 : H q = some (.lst [])) (k : Q (.bl xs.isEmpty) H) : oEqE (.ref p) (.ref q) H Q := ⟨p, q, xs, rfl, rfl, .inl ⟨h1, h2⟩, k⟩
theorem w_eqET {p q : Addr} {xs : List V} (h1 : H p = some (.tup xs)) (h2 : H q = some (.tup [])) (k : Q (.bl xs.isEmpty) H) : oEqE (.ref p) (.ref q) H Q := ⟨p, q, xs, rfl, rfl, .inr ⟨h1, h2⟩, k⟩
end
end Fg
/-! ### set(l) of a list of ints -/
namespace L2
open PySem PySem.Spec PyProof.Rows
abbrev nSet (w : World) : Obj := { cls := .type "set", dict := none, data := .set #[] 0 (.fresh 0 0 (!w.params.followText "set-order")) }
section
variable {P : Program} {w : World} {A : Around} {E : Value → Shared → Prop} {s : Shared}
theorem fg_set_list {l : Addr} {items : Array Value} (ns : List Int) {Q : Value → Shared → Prop} (hh : A.handled = none) (hl : s.heap.IsList l items) (hit : IntsAre items.toList ns) (hb : ns.length + 1 < scanBound)
    (h : ∀ (h' : Heap) (tk c : Nat), SetR w h' s.heap.objs.size (fun j => decide (j ∈ ns)) c → c ≤ ns.length → (∀ b o, s.heap.get? b = some o → h'.get? b = some o) → Q (.ref s.heap.objs.size) { s with heap := h', toks := tk }) :
    wpAny (model P w) A (call (.type "set") [.ref l]) Q E s := by
  have nIt : items.size = ns.length := (Array.length_toList (xs := items)).symm.trans (IntsAre.length hit)
  obtain ⟨c, tl, hmro⟩ := F.called_set.mro
  have hmade := F.called_set.made
  have hsub := F.called_set.sub
  refine wpAny_call (codeAny_of_tree ?_)
  show wpAny _ _ (callAny (.type "set") _) _ _ _
  refine wpAny_pure ⟨Code.quiet_builtin _ (by decide +kernel), codeAny_builtin F.entry_type_call ?_⟩
  rw [Around.under_plain (weight_type_call_type "set" [.ref l] []) rfl]
  have z1 := F.called_set.notType
  have z2 := F.called_set.canCreate
  have z3 := F.typeCall_set_1 (.ref l)
  repeat (any_goals (first | assumption | wp_step))
  refine codeAny_mono (code_set_led1 (.ref l) (E := E) (Q₁ := fun obj s₁ => obj = .ref s.heap.objs.size ∧ s₁ = { s with heap := s.heap.push (nSet w) }) ⟨rfl, rfl⟩) fun r s₁ hr => ?_
  cases r with
  | error e => exact hr
  | ok fl =>
    cases fl with
    | ret obj =>
      obtain ⟨rfl, rfl⟩ := hr
      have hS : (s.heap.push (nSet w)).get? s.heap.objs.size = some (nSet w) := Heap.get?_push_size _ rfl
      have hT : Shared.TypeIs { s with heap := s.heap.push (nSet w) } (.ref s.heap.objs.size) "set" := ⟨_, hS, rfl⟩
      have y1 := F.called_set.init.lookup
      have y2 := F.called_set.init.bind (.ref s.heap.objs.size)
      repeat (any_goals (first | assumption | wp_step))
      refine codeAny_mono (codeAny_call_builtin (R := wants (fun r s₂ => r = .none ∧ ∃ h' tk c, s₂ = { s with heap := h', toks := tk } ∧ SetR w h' s.heap.objs.size (fun j => decide (j ∈ ns)) c ∧ c ≤ ns.length ∧
          (∀ b o, s.heap.get? b = some o → h'.get? b = some o)) E) F.called_set.init.plain F.entry_set_init (check_set_init_1 hT ?_)) fun r₂ s₂ hr₂ => ?_
      · obtain ⟨⟨oc, od, ot, os⟩, hol, hcl, nl, hdl⟩ := hl
        simp only at hcl hdl
        subst hcl; subst hdl
        have hol' : (s.heap.push (nSet w)).get? l = some { cls := .type "list", dict := od, data := .seq items nl, slots := os } := Heap.get?_push_of_some _ hol
        have x1 := F.sub_list_set
        have x2 := F.sub_list_frozenset
        have x3 : (Value.type "list" == Value.type "dict") = false := by decide
        have hl1 : (s.heap.push (nSet w)).IsList l items := ⟨_, hol', rfl, nl, rfl⟩
        unfold Builtin.«set.__init__» noKeywords Builtin.Frozenset.updateFrom
        generalize hPI : pyIter = PI
        wp_walk
        subst hPI
        refine wpAny_pyIter_list hl1 ?_
        refine wpAny_bind (wpAny_runValue ?_)
        have lS : l < s.heap.objs.size := Heap.lt_size hol
        have h3 : A.in1.in1.in1.handled = none := by simp [hh]
        have neI : l ≠ (s.heap.push (nSet w)).objs.size := by
          rw [Heap.size_push]; exact Nat.ne_of_lt (Nat.lt_succ_of_lt lS)
        have nSf : s.heap.objs.size ∉ [(s.heap.push (nSet w)).objs.size, l] := by
          rw [Heap.size_push]; simp only [List.mem_cons, List.mem_singleton, List.not_mem_nil, or_false, not_or]
          exact ⟨Nat.ne_of_lt (Nat.lt_succ_self _), Nat.ne_of_gt lS⟩
        have vals : ∀ (i : Nat) (v : Value), items[i]? = some v → ∃ k t, ns[i]? = some k ∧ v = .int k t := fun i v hv => by
          have hi : i < ns.length := by rw [← nIt]; exact (Array.getElem?_eq_some_iff.mp hv).1
          obtain ⟨t, e⟩ := PyProof.Rows.IntsAre.int_at hit i v (by rw [Array.getElem?_toList]; exact hv)
          refine ⟨ns[i], t, List.getElem?_eq_getElem hi, ?_⟩
          rw [e, List.getD_eq_getElem?_getD, List.getElem?_eq_getElem hi] <;> rfl
        refine set_update_ints ((Walks.list h3 _ l neI items).toS) s.heap.objs.size nSf ns nIt hb vals (items.size - 0) 0 _ (by omega) (Nat.zero_le _)
          ⟨⟨_, Heap.get?_push_size _ rfl, rfl, rfl⟩, (hl1.push _)⟩ ⟨0, Nat.le_refl 0, setR_new_at (Heap.get?_push_of_some _ hS)⟩ ?hR
        case hR =>
          intro s' c' hm hc' hS'
          obtain ⟨h', g2, d', tk', os'⟩ := s'
          have eg : g2 = s.gens := hm.gens
          have ed : d' = s.drawn := hm.drawn
          have eo : os' = s.os := hm.os
          subst eg; subst ed; subst eo
          show wpAny _ _ _ _ _ _
          refine wpAny_pure ?_
          show wpAny _ _ (ret Value.none) _ _ _
          rw [nIt] at hc'
          refine wpAny_pure ⟨rfl, h', tk', c', rfl, hS', hc', fun b o e => ?_⟩
          have b0 : b < s.heap.objs.size := Heap.lt_size e
          have b2 : b ≠ (s.heap.push (nSet w)).objs.size := by
            rw [Heap.size_push]; exact Nat.ne_of_lt (Nat.lt_succ_of_lt b0)
          exact hm.heap b o (by simp only [List.mem_cons, List.mem_singleton, List.not_mem_nil, or_false, not_or]; exact ⟨Nat.ne_of_lt b0, b2⟩) (Heap.get?_push_of_some _ (Heap.get?_push_of_some _ e))
      · cases r₂ with
        | error e => exact hr₂
        | ok fl₂ =>
          cases fl₂ with
          | ret r =>
            obtain ⟨rfl, h', tk, c', rfl, hS', hc', hk'⟩ := hr₂
            repeat (any_goals (first | assumption | wp_step))
            exact h _ _ _ hS' hc' hk'
          | _ => exact hr₂.elim
    | _ => exact hr.elim
end
end L2
namespace Fg
open PySem PySem.Spec PyProof.Rows L2
section
variable {X : Cx}
def cSetL (K : PySem.W.Frag) (w : World) : List V → Hp → VK → Prop := fun xs H Q => ∃ (l : Addr) (ns : List Int), xs = [.ref l] ∧ SqL K H l (ns.map V.int) ∧ ns.length < 60 ∧ ∀ p c, H p = none → c ≤ ns.length → Q (.ref p) (upd H p (SetO w p (fun j => decide (j ∈ ns)) c))
theorem p_setL (hc : X.calm = true) : CallR X (.type "set") (cSetL X.K X.w) := by
  intro pins s σ H xs us Q I r h
  obtain ⟨l, ns, rfl, hl, hz, q⟩ := h
  rw [Vals.ref1 r]
  obtain ⟨its, rv, pl, _⟩ := I.list hl
  refine fg_set_list ns (I.ok.hd hc) pl.isList (by simpa using rv.ints) (Nat.lt_of_lt_of_le (show ns.length + 1 < 100 by omega) (by decide)) fun h' tk c R hc' k => ?_
  exact ⟨.ref _, upd H s.heap.objs.size (SetO X.w s.heap.objs.size (fun j => decide (j ∈ ns)) c), I.laid (t' := tk) k (Nat.le_refl _) (setO_new R), rfl, q _ c (I.hok.fresh (Nat.le_refl _)) hc'⟩
def cDictP (K : PySem.W.Frag) : List V → Hp → VK → Prop := fun xs H Q => ∃ (a : Addr) (ps : List Addr) (kvs : List (Key × V)), xs = [.ref a] ∧ SqL K H a (ps.map V.ref) ∧ Paired (fun p kv => SqT K H p [kV kv.1, kv.2]) ps kvs ∧ ∀ p, H p = none → Q (.ref p) (upd H p (.dK (mergeK [] kvs)))
theorem p_dictP (hc : X.calm = true) : CallR X (.type "dict") (cDictP X.K) := call_dictP hc
def cSortDS : List V → Hp → VK → Prop := fun xs H Q => ∃ (a : Addr) (kvs : List (Key × V)) (ks : List Str), xs = [.ref a] ∧ Rd H a (.dK kvs) ∧ kvs.map (·.1) = ks.map Sum.inr ∧ ks.length < 64 ∧ ∀ ys p, ys.Perm ks → sortedS ys = true → H p = none → Q (.ref p) (upd H p (.lst (ys.map V.str)))
theorem p_sortDS (hc : X.calm = true) : CallR X (.builtin "sorted") cSortDS := call_sortedD hc
/-- sorted(d), ints as keys, any number of them -/
def cSortDI : List V → Hp → VK → Prop := fun xs H Q => ∃ (a : Addr) (kvs : List (Key × V)) (ks : List Int), xs = [.ref a] ∧ Rd H a (.dK kvs) ∧ kvs.map (·.1) = ks.map Sum.inl ∧ ks.length ≤ 100000 ∧ ∀ (ys : List Int) p, ys.Perm ks → ys.Pairwise (· ≤ ·) → H p = none → Q (.ref p) (upd H p (.lst (ys.map V.int)))
theorem p_sortDI (hc : X.calm = true) : CallR X (.builtin "sorted") cSortDI := by
  intro pins s σ H xs us Q I r q
  obtain ⟨a, kvs, ks, ex, hd, hks, hz, q⟩ := q
  subst ex
  obtain ⟨u, eu, rx⟩ := vals1 r
  subst eu
  cases rx
  obtain ⟨z, lo, vs, rel, dd⟩ := dk_rd I.hok hd
  obtain ⟨ep, at0⟩ := dd.dictAt
  have ek : vs.map (·.1) = ks.map Sum.inl := rel.keys.symm.trans hks
  have hl : vs.length = ks.length := by
    have e := congrArg List.length ek
    rw [List.length_map, List.length_map] at e
    exact e
  have big : (100000 : Nat) ≤ sizeLine := by decide
  have h16 : vs.length ≤ sizeLine := by omega
  refine Calls.call_function_entry PyProof.Rows.kind_sorted PyProof.Rows.plain_sorted PyProof.Rows.entry_sorted (PyProof.Rows.args_sorted1 _) ?_
  unfold Builtin.«sorted»
  refine wpAny_bind (m := checkCount "sorted" 1 1 _) (wpAny_pure ?_)
  refine wpAny_bind (PySem.W.kdu_collect (A := X.A.in1) (PySem.W.kdl_dict (knd := mixKind X.prog X.w) (kvs := vs) (ep := ep) lo) (I.ok.hd hc) at0 h16 fun h' tk acc hk hacc => ?_)
  have hal : acc.toList.length = ks.length := by rw [Array.length_toList, hacc.1, hl]
  have hS : IntsAre acc.toList ks := ints_each hal fun j v e => by
    obtain ⟨k, x, e1, e2⟩ := hacc.2 j v (by rw [← Array.getElem?_toList]; exact e)
    have e3 : (vs.map (·.1))[j]? = some k := by rw [List.getElem?_map, e1]; rfl
    rw [ek, List.getElem?_map] at e3
    cases e4 : ks[j]? with
    | none => rw [e4] at e3; cases e3
    | some y =>
      rw [e4] at e3
      have e5 : Sum.inl y = k := Option.some.inj e3
      subst e5
      rcases keyIs_shape (show keyIs (Sum.inl y) v = true from e2) with ⟨i, t, ek, ev⟩ | ⟨z, t, ek, ev⟩
      · cases ek
        exact ⟨y, t, rfl, ev⟩
      · cases ek
  have I1 : Inv X pins σ H { s with heap := h', toks := tk } := I.kept hk
  refine wpAny_bind (wpAny_newList ?_ (by rw [hal]; omega))
  have hoL : (h'.push (seqObj "list" acc.toList.toArray 0)).get? h'.objs.size = some (seqObj "list" acc.toList.toArray 0) := Heap.get?_push_size _ rfl
  show wpAny _ _ _ _ _ { s with heap := h'.push (seqObj "list" acc.toList.toArray 0), toks := tk }
  refine wpAny_bind (wpAny_holding (wpAny_call_entry PyProof.Rows.slot_list_sort ⟨_, hoL, rfl⟩ PyProof.Rows.entry_list_sort
    (SrtO.list_sort_ord SrtO.swo_int hoL (by rw [hal]; omega) (fun h2 => SrtO.ints_sortable hS h2) fun out h1 h2 => ⟨_, rfl, ?_⟩) (PyProof.Rows.args_list_sort _)))
  obtain ⟨k1, k2, k3⟩ := SrtO.ints_out hS h1 h2
  obtain ⟨e', he'⟩ := PyProof.Rows.sortedHeap_at (vs := acc.toList) (out := out.toArray) hoL
  have hlen : ((out.map SrtO.iv).map V.int).length ≤ sizeLine := by
    rw [List.length_map, k2.length_eq]
    omega
  refine wpAny_pure ⟨_, rfl, .ref h'.objs.size, upd H h'.objs.size (.lst ((out.map SrtO.iv).map V.int)), I1.laid (t' := tk) (fun b u e => ?_) (Nat.le_refl _)
    (show ObjOk X.prog X.w _ _ _ (.lst ((out.map SrtO.iv).map V.int)) from ⟨hlen, out, e', vals_of_ints k1, he'⟩), rfl, q _ _ k2 k3 (I1.hok.fresh (Nat.le_refl _))⟩
  have hb : b < h'.objs.size := Heap.lt_size e
  rw [PyProof.Rows.sortedHeap_old (Nat.ne_of_lt hb) (by rw [size_push']; exact Nat.lt_succ_of_lt hb)]
  exact Heap.get?_push_of_some _ e
/-! ### a new instance -/
structure MkI (P : Program) (w : World) (K : PySem.W.Frag) (mg : Str → Option Value) (base : Heap) (k : Nat) (x : Str) (C : Addr) (sp : Sp) (dvs : List V) : Prop where
  ex : ∃ (f : Addr) (fd : FuncData) (ps : List Str) (ds : List Value), Mk K C f ∧ FnOk P w K mg base CX0 k f fd ps sp ∧ mg x = some (.ref C) ∧ Binds K fd ps ds ∧ Vals dvs ds
theorem pe_mkI {k j : Nat} {x : Str} {C : Addr} {sp : Sp} {dvs : List V} {p pos : Pos} {e : Expr} {es : List Expr} {t : TA} (c : MkI X.prog X.w X.K X.mg X.base k x C sp dvs) (hr : Room j X.A) (hk : k + 1 ≤ j) (hg : Gl X x) (ha : PA X (e :: es) t)
    (hdb : (x == ("__debug__" : Str)) = false := by decide) (he : starEach (e :: es) X.env = (false, eval e X.env) :: starEach es X.env := by rfl) (hpl : (backTo pos (starEach es X.env)).any (·.1) = false := by rfl) :
    PE X (.Call (.Name x p) (e :: es) [] pos) (tMake C sp dvs E0 t) := by
  obtain ⟨f, fd, ps, ds, M, F, hm, b, d⟩ := c.ex
  exact pe_make M F (hr.mono hk) hg hm b d pass0 ha hdb he hpl
end
end Fg
namespace Fg
open PySem PySem.Spec PyProof.Rows L2
/-! ### fields, by names -/
def KFld (K : PySem.W.Frag) (f : Str) (Q : VK) : VK := fun x H1 => ∃ a C dx fs v, x = .ref a ∧ H1 a = some (.ins C dx fs) ∧ Cls K C ∧ NoAttr K C f ∧ fs.lookup f = some v ∧ Q v H1
def KSet (K : PySem.W.Frag) (f : Str) (y : V) (N : Hp → Prop) : VK := fun x H2 => ∃ a C dx fs, x = .ref a ∧ H2 a = some (.ins C dx fs) ∧ Cls K C ∧ NoAttr K C f ∧ fs.length < 1000 ∧ N (upd H2 a (.ins C dx (putF f y fs)))
def KAugE (K : PySem.W.Frag) (C : Addr) (f : Str) (a : Addr) (N : Hp → Prop) : VK := fun z H3 => ∃ dx' fs', H3 a = some (.ins C dx' fs') ∧ fs'.length < 1000 ∧ N (upd H3 a (.ins C dx' (putF f z fs')))
def KAug (K : PySem.W.Frag) (tv : TE) (rd : V → V → Hp → VK → Prop) (f : Str) (D : Ends) (σ : L2.St) : VK := fun x H1 => ∃ a C dx fs v, x = .ref a ∧ H1 a = some (.ins C dx fs) ∧ Cls K C ∧ NoAttr K C f ∧ fs.lookup f = some v ∧ tv σ H1 fun y H2 => rd v y H2 (KAugE K C f a (D.nx σ))
section
variable {K : PySem.W.Frag} {σ : L2.St} {H : Hp} {D : Ends} {ta tv td ty tx : TE} {Q : VK} {f : Str} {tr : TA}
theorem w_fld (h : ta σ H (KFld K f Q)) : tFld K ta f σ H Q := h
theorem w_sfld (h : tv σ H fun y H1 => ta σ H1 (KSet K f y (D.nx σ))) : sFld K ta tv f D σ H := h
theorem w_faug {rd : V → V → Hp → VK → Prop} (h : ta σ H (KAug K tv rd f D σ)) : sFldAug K ta tv rd f D σ H := h
theorem w_rAdd {i j : Int} (q : Q (.int (i + j)) H) : L2.rAdd (.int i) (.int j) H Q := ⟨i, j, rfl, rfl, q⟩
theorem w_rSub {i j : Int} (q : Q (.int (i - j)) H) : L2.rSub (.int i) (.int j) H Q := ⟨i, j, rfl, rfl, q⟩
/-- a new instance x -/
def KMake (C : Addr) (sp : Sp) (dvs : List V) (E : XK) (Q : VK) : List V → Hp → Prop := fun vs H1 => ∀ x dx, H1 x = none → H1 dx = none → dx ≠ x → sp (.ref x :: (vs ++ dvs)) (upd (upd H1 dx (.own x)) x (.ins C dx [])) (fun v H2 => v = .non ∧ Q (.ref x) H2) E
theorem w_make {C : Addr} {sp : Sp} {dvs : List V} {E : XK} (h : tr σ H (KMake C sp dvs E Q)) : tMake C sp dvs E tr σ H Q := h
theorem k_make {C : Addr} {sp : Sp} {dvs vs : List V} {E : XK} {H1 : Hp} (h : ∀ x dx H2, H1 x = none → H1 dx = none → dx ≠ x → Chg [] H1 H2 → H2 x = some (.ins C dx []) → sp (.ref x :: (vs ++ dvs)) H2 (fun v H2 => v = .non ∧ Q (.ref x) H2) E) : KMake C sp dvs E Q vs H1 :=
  fun x dx nx nd ne => h x dx _ nx nd ne ((Chg.new nd).same (Chg.new (by rw [upd_ne (Ne.symm ne)]; exact nx))) upd_same
theorem w_while {c : TT} {tb : TS} (h : ∃ W : Nat → L2.St → Hp → Prop, (∃ m, W m σ H) ∧ ∀ m σ H, W m σ H → c σ H fun b H1 => if b = true then ∃ N : L2.St → Hp → Prop, (∀ σ' H', N σ' H' → ∃ m', m' < m ∧ W m' σ' H') ∧ tb { D with nx := N, ct := N, bk := D.nx } σ H1 else D.nx σ H1) : tWhile c tb D σ H := h
/-- x or y -/
def KOr (K : PySem.W.Frag) (tb : TE) (σ : L2.St) (Q : VK) : VK := fun x H1 => ∃ k, TruV K x H1 k ∧ if k = true then Q x H1 else tb σ H1 Q
theorem w_orT {tb : TE} (h : ta σ H (KOr K tb σ Q)) : tOrT K ta tb σ H Q := h
theorem k_orN {tb : TE} (h : tb σ H Q) : KOr K tb σ Q .non H := ⟨false, rfl, iteF h⟩
theorem k_orL {tb : TE} {a : Addr} {xs : List V} (e : H a = some (.lst xs)) (h1 : xs ≠ [] → Q (.ref a) H) (h2 : xs = [] → tb σ H Q) : KOr K tb σ Q (.ref a) H := by
  refine ⟨!xs.isEmpty, .inl ⟨xs, sqL e, rfl⟩, ?_⟩
  cases xs with
  | nil => exact iteF (h2 rfl)
  | cons a r => exact iteT (h1 (by simp))
/-- dicts of ints and texts -/
def KDGet (ty : TE) (σ : L2.St) (Q : VK) : VK := fun x H1 => ty σ H1 fun y H2 => ∃ a v, x = .ref a ∧ DGet H2 a y (some v) ∧ Q v H2
def KDG2 (ty tx : TE) (σ : L2.St) (Q : VK) : VK := fun x H1 => ∃ a, x = .ref a ∧ IsD H1 a ∧ ty σ H1 fun y H2 => tx σ H2 fun z H3 => ∃ o, DGet H3 a y o ∧ Q (o.getD z) H3
theorem w_dgetd (h : td σ H (KDG2 ty tx σ Q)) : tDGet2 td ty tx σ H Q := h
theorem k_dgetd {a : Addr} {kvs : List (Key × V)} (e : H a = some (.dK kvs)) (h : ty σ H fun y H2 => tx σ H2 fun z H3 => ∃ o, DGet H3 a y o ∧ Q (o.getD z) H3) : KDG2 ty tx σ Q (.ref a) H := ⟨a, rfl, .inl ⟨_, .inl e⟩, h⟩
def KDg (x : V) (Q : VK) : VK := fun y H2 => ∃ a v, x = .ref a ∧ DGet H2 a y (some v) ∧ Q v H2
theorem w_dgetk (h : td σ H fun x H1 => ty σ H1 (KDg x Q)) : tDGet td ty σ H Q := h
theorem d_dgetI {a : Addr} {kvs : List (Key × V)} {i : Int} {v : V} (e : H a = some (.dK kvs)) (ev : valV kvs (Sum.inl i) = some v) (q : Q v H) : KDg (.ref a) Q (.int i) H := ⟨a, v, rfl, by rw [← ev]; exact .k (k := Sum.inl i) e, q⟩
theorem d_dgetS {a : Addr} {kvs : List (Key × V)} {x : Str} {v : V} (e : H a = some (.dK kvs)) (ev : valV kvs (Sum.inr x) = some v) (q : Q v H) : KDg (.ref a) Q (.str x) H := ⟨a, v, rfl, by rw [← ev]; exact .k (k := Sum.inr x) e, q⟩
/-- d.setdefault(k, x) -/
def KDSe (a : Addr) (y : V) (Q : VK) : VK := fun z H3 => ∃ (kvs : List (Key × V)) (k : Key), H3 a = some (.dK kvs) ∧ y = kV k ∧ kvs.length < sizeLine ∧ (∀ v, valV kvs k = some v → Q v H3) ∧ (valV kvs k = none → Q z (upd H3 a (.dK (putK kvs k z))))
def KDSd (ty tx : TE) (σ : L2.St) (Q : VK) : VK := fun x H1 => ∃ a, x = .ref a ∧ IsD H1 a ∧ ty σ H1 fun y H2 => tx σ H2 (KDSe a y Q)
theorem w_dsetd (h : td σ H (KDSd ty tx σ Q)) : tDSetd td ty tx σ H Q := h
theorem k_dsetd {a : Addr} {kvs : List (Key × V)} (e : H a = some (.dK kvs)) (h : ty σ H fun y H2 => tx σ H2 (KDSe a y Q)) : KDSd ty tx σ Q (.ref a) H := ⟨a, rfl, .inl ⟨_, .inl e⟩, h⟩
theorem d_dsetdS {a : Addr} {kvs : List (Key × V)} {x : Str} {z : V} (e : H a = some (.dK kvs)) (hz : kvs.length ≤ 100000) (h1 : ∀ v, valV kvs (Sum.inr x) = some v → Q v H) (h2 : valV kvs (Sum.inr x) = none → ∀ H', Chg [a] H H' → H' a = some (.dK (putK kvs (Sum.inr x) z)) → Q z H') : KDSe a (.str x) Q z H :=
  ⟨kvs, Sum.inr x, e, rfl, Nat.lt_of_le_of_lt hz (by decide), h1, fun n => h2 n _ (.mut e fun _ z => nomatch z) upd_same⟩
theorem w_pop {a : Addr} {xs : List V} {y : V} (h : H a = some (.lst (xs ++ [y]))) (q : ∀ H', Chg [a] H H' → H' a = some (.lst xs) → Q y H') : rPop (.ref a) [] H Q := by
  refine ⟨a, xs ++ [y], y, rfl, rfl, h, by simp, ?_⟩
  have e : (xs ++ [y]).dropLast = xs := List.dropLast_concat
  rw [e]
  exact q _ (.mut h fun _ z => nomatch z) upd_same
end
/-! ### Frame -/
def O_Frame (K : PySem.W.Frag) (dx : Addr) (v0 v1 v2 v3 v4 v5 v6 : V) : HO := .ins (He.ga K "Frame") dx [("number", v0), ("path", v1), ("rows", v2), ("arg", v3), ("at", v4), ("past", v5), ("born", v6)]
structure C_Frame (K : PySem.W.Frag) : Prop where
  cl : Cls K (He.ga K "Frame")
  n_number : NoAttr K (He.ga K "Frame") "number"
  n_path : NoAttr K (He.ga K "Frame") "path"
  n_rows : NoAttr K (He.ga K "Frame") "rows"
  n_arg : NoAttr K (He.ga K "Frame") "arg"
  n_at : NoAttr K (He.ga K "Frame") "at"
  n_past : NoAttr K (He.ga K "Frame") "past"
  n_born : NoAttr K (He.ga K "Frame") "born"
section
variable {K : PySem.W.Frag} {H : Hp} {Q : VK} {N : Hp → Prop} {a dx : Addr} {v0 v1 v2 v3 v4 v5 v6 y : V}
theorem g_Frame_number (c : C_Frame K) (h : H a = some (O_Frame K dx v0 v1 v2 v3 v4 v5 v6)) (q : Q v0 H) : KFld K "number" Q (.ref a) H := ⟨a, _, dx, _, v0, rfl, h, c.cl, c.n_number, rfl, q⟩
theorem s_Frame_number (c : C_Frame K) (h : H a = some (O_Frame K dx v0 v1 v2 v3 v4 v5 v6)) (q : ∀ H', Chg [a] H H' → H' a = some (O_Frame K dx y v1 v2 v3 v4 v5 v6) → N H') : KSet K "number" y N (.ref a) H := ⟨a, _, dx, _, rfl, h, c.cl, c.n_number, by simp, q _ (.mut h fun _ e => nomatch e) upd_same⟩
theorem u_Frame_number {tv : TE} {rd : V → V → Hp → VK → Prop} {σ : L2.St} {D : Ends} (c : C_Frame K) (h : H a = some (O_Frame K dx v0 v1 v2 v3 v4 v5 v6)) (q : tv σ H fun z H2 => rd v0 z H2 (KAugE K (He.ga K "Frame") "number" a (D.nx σ))) : KAug K tv rd "number" D σ (.ref a) H := ⟨a, _, dx, _, v0, rfl, h, c.cl, c.n_number, rfl, q⟩
theorem e_Frame_number (h : H a = some (O_Frame K dx v0 v1 v2 v3 v4 v5 v6)) (q : ∀ H', Chg [a] H H' → H' a = some (O_Frame K dx y v1 v2 v3 v4 v5 v6) → N H') : KAugE K (He.ga K "Frame") "number" a N y H := ⟨dx, _, h, by simp, q _ (.mut h fun _ e => nomatch e) upd_same⟩
theorem n_Frame_number (c : C_Frame K) (h : H a = some (.ins (He.ga K "Frame") dx [])) (q : ∀ H', Chg [a] H H' → H' a = some (.ins (He.ga K "Frame") dx [("number", y)]) → N H') : KSet K "number" y N (.ref a) H := ⟨a, _, dx, _, rfl, h, c.cl, c.n_number, by simp, q _ (.mut h fun _ e => nomatch e) upd_same⟩
theorem g_Frame_path (c : C_Frame K) (h : H a = some (O_Frame K dx v0 v1 v2 v3 v4 v5 v6)) (q : Q v1 H) : KFld K "path" Q (.ref a) H := ⟨a, _, dx, _, v1, rfl, h, c.cl, c.n_path, rfl, q⟩
theorem s_Frame_path (c : C_Frame K) (h : H a = some (O_Frame K dx v0 v1 v2 v3 v4 v5 v6)) (q : ∀ H', Chg [a] H H' → H' a = some (O_Frame K dx v0 y v2 v3 v4 v5 v6) → N H') : KSet K "path" y N (.ref a) H := ⟨a, _, dx, _, rfl, h, c.cl, c.n_path, by simp, q _ (.mut h fun _ e => nomatch e) upd_same⟩
theorem u_Frame_path {tv : TE} {rd : V → V → Hp → VK → Prop} {σ : L2.St} {D : Ends} (c : C_Frame K) (h : H a = some (O_Frame K dx v0 v1 v2 v3 v4 v5 v6)) (q : tv σ H fun z H2 => rd v1 z H2 (KAugE K (He.ga K "Frame") "path" a (D.nx σ))) : KAug K tv rd "path" D σ (.ref a) H := ⟨a, _, dx, _, v1, rfl, h, c.cl, c.n_path, rfl, q⟩
theorem e_Frame_path (h : H a = some (O_Frame K dx v0 v1 v2 v3 v4 v5 v6)) (q : ∀ H', Chg [a] H H' → H' a = some (O_Frame K dx v0 y v2 v3 v4 v5 v6) → N H') : KAugE K (He.ga K "Frame") "path" a N y H := ⟨dx, _, h, by simp, q _ (.mut h fun _ e => nomatch e) upd_same⟩
theorem n_Frame_path (c : C_Frame K) (h : H a = some (.ins (He.ga K "Frame") dx [("number", v0)])) (q : ∀ H', Chg [a] H H' → H' a = some (.ins (He.ga K "Frame") dx [("number", v0), ("path", y)]) → N H') : KSet K "path" y N (.ref a) H := ⟨a, _, dx, _, rfl, h, c.cl, c.n_path, by simp, q _ (.mut h fun _ e => nomatch e) upd_same⟩
theorem g_Frame_rows (c : C_Frame K) (h : H a = some (O_Frame K dx v0 v1 v2 v3 v4 v5 v6)) (q : Q v2 H) : KFld K "rows" Q (.ref a) H := ⟨a, _, dx, _, v2, rfl, h, c.cl, c.n_rows, rfl, q⟩
theorem s_Frame_rows (c : C_Frame K) (h : H a = some (O_Frame K dx v0 v1 v2 v3 v4 v5 v6)) (q : ∀ H', Chg [a] H H' → H' a = some (O_Frame K dx v0 v1 y v3 v4 v5 v6) → N H') : KSet K "rows" y N (.ref a) H := ⟨a, _, dx, _, rfl, h, c.cl, c.n_rows, by simp, q _ (.mut h fun _ e => nomatch e) upd_same⟩
theorem u_Frame_rows {tv : TE} {rd : V → V → Hp → VK → Prop} {σ : L2.St} {D : Ends} (c : C_Frame K) (h : H a = some (O_Frame K dx v0 v1 v2 v3 v4 v5 v6)) (q : tv σ H fun z H2 => rd v2 z H2 (KAugE K (He.ga K "Frame") "rows" a (D.nx σ))) : KAug K tv rd "rows" D σ (.ref a) H := ⟨a, _, dx, _, v2, rfl, h, c.cl, c.n_rows, rfl, q⟩
theorem e_Frame_rows (h : H a = some (O_Frame K dx v0 v1 v2 v3 v4 v5 v6)) (q : ∀ H', Chg [a] H H' → H' a = some (O_Frame K dx v0 v1 y v3 v4 v5 v6) → N H') : KAugE K (He.ga K "Frame") "rows" a N y H := ⟨dx, _, h, by simp, q _ (.mut h fun _ e => nomatch e) upd_same⟩
theorem n_Frame_rows (c : C_Frame K) (h : H a = some (.ins (He.ga K "Frame") dx [("number", v0), ("path", v1)])) (q : ∀ H', Chg [a] H H' → H' a = some (.ins (He.ga K "Frame") dx [("number", v0), ("path", v1), ("rows", y)]) → N H') : KSet K "rows" y N (.ref a) H := ⟨a, _, dx, _, rfl, h, c.cl, c.n_rows, by simp, q _ (.mut h fun _ e => nomatch e) upd_same⟩
theorem g_Frame_arg (c : C_Frame K) (h : H a = some (O_Frame K dx v0 v1 v2 v3 v4 v5 v6)) (q : Q v3 H) : KFld K "arg" Q (.ref a) H := ⟨a, _, dx, _, v3, rfl, h, c.cl, c.n_arg, rfl, q⟩
theorem s_Frame_arg (c : C_Frame K) (h : H a = some (O_Frame K dx v0 v1 v2 v3 v4 v5 v6)) (q : ∀ H', Chg [a] H H' → H' a = some (O_Frame K dx v0 v1 v2 y v4 v5 v6) → N H') : KSet K "arg" y N (.ref a) H := ⟨a, _, dx, _, rfl, h, c.cl, c.n_arg, by simp, q _ (.mut h fun _ e => nomatch e) upd_same⟩
theorem u_Frame_arg {tv : TE} {rd : V → V → Hp → VK → Prop} {σ : L2.St} {D : Ends} (c : C_Frame K) (h : H a = some (O_Frame K dx v0 v1 v2 v3 v4 v5 v6)) (q : tv σ H fun z H2 => rd v3 z H2 (KAugE K (He.ga K "Frame") "arg" a (D.nx σ))) : KAug K tv rd "arg" D σ (.ref a) H := ⟨a, _, dx, _, v3, rfl, h, c.cl, c.n_arg, rfl, q⟩
theorem e_Frame_arg (h : H a = some (O_Frame K dx v0 v1 v2 v3 v4 v5 v6)) (q : ∀ H', Chg [a] H H' → H' a = some (O_Frame K dx v0 v1 v2 y v4 v5 v6) → N H') : KAugE K (He.ga K "Frame") "arg" a N y H := ⟨dx, _, h, by simp, q _ (.mut h fun _ e => nomatch e) upd_same⟩
theorem n_Frame_arg (c : C_Frame K) (h : H a = some (.ins (He.ga K "Frame") dx [("number", v0), ("path", v1), ("rows", v2)])) (q : ∀ H', Chg [a] H H' → H' a = some (.ins (He.ga K "Frame") dx [("number", v0), ("path", v1), ("rows", v2), ("arg", y)]) → N H') : KSet K "arg" y N (.ref a) H := ⟨a, _, dx, _, rfl, h, c.cl, c.n_arg, by simp, q _ (.mut h fun _ e => nomatch e) upd_same⟩
theorem g_Frame_at (c : C_Frame K) (h : H a = some (O_Frame K dx v0 v1 v2 v3 v4 v5 v6)) (q : Q v4 H) : KFld K "at" Q (.ref a) H := ⟨a, _, dx, _, v4, rfl, h, c.cl, c.n_at, rfl, q⟩
theorem s_Frame_at (c : C_Frame K) (h : H a = some (O_Frame K dx v0 v1 v2 v3 v4 v5 v6)) (q : ∀ H', Chg [a] H H' → H' a = some (O_Frame K dx v0 v1 v2 v3 y v5 v6) → N H') : KSet K "at" y N (.ref a) H := ⟨a, _, dx, _, rfl, h, c.cl, c.n_at, by simp, q _ (.mut h fun _ e => nomatch e) upd_same⟩
theorem u_Frame_at {tv : TE} {rd : V → V → Hp → VK → Prop} {σ : L2.St} {D : Ends} (c : C_Frame K) (h : H a = some (O_Frame K dx v0 v1 v2 v3 v4 v5 v6)) (q : tv σ H fun z H2 => rd v4 z H2 (KAugE K (He.ga K "Frame") "at" a (D.nx σ))) : KAug K tv rd "at" D σ (.ref a) H := ⟨a, _, dx, _, v4, rfl, h, c.cl, c.n_at, rfl, q⟩
theorem e_Frame_at (h : H a = some (O_Frame K dx v0 v1 v2 v3 v4 v5 v6)) (q : ∀ H', Chg [a] H H' → H' a = some (O_Frame K dx v0 v1 v2 v3 y v5 v6) → N H') : KAugE K (He.ga K "Frame") "at" a N y H := ⟨dx, _, h, by simp, q _ (.mut h fun _ e => nomatch e) upd_same⟩
theorem n_Frame_at (c : C_Frame K) (h : H a = some (.ins (He.ga K "Frame") dx [("number", v0), ("path", v1), ("rows", v2), ("arg", v3)])) (q : ∀ H', Chg [a] H H' → H' a = some (.ins (He.ga K "Frame") dx [("number", v0), ("path", v1), ("rows", v2), ("arg", v3), ("at", y)]) → N H') : KSet K "at" y N (.ref a) H := ⟨a, _, dx, _, rfl, h, c.cl, c.n_at, by simp, q _ (.mut h fun _ e => nomatch e) upd_same⟩
theorem g_Frame_past (c : C_Frame K) (h : H a = some (O_Frame K dx v0 v1 v2 v3 v4 v5 v6)) (q : Q v5 H) : KFld K "past" Q (.ref a) H := ⟨a, _, dx, _, v5, rfl, h, c.cl, c.n_past, rfl, q⟩
theorem s_Frame_past (c : C_Frame K) (h : H a = some (O_Frame K dx v0 v1 v2 v3 v4 v5 v6)) (q : ∀ H', Chg [a] H H' → H' a = some (O_Frame K dx v0 v1 v2 v3 v4 y v6) → N H') : KSet K "past" y N (.ref a) H := ⟨a, _, dx, _, rfl, h, c.cl, c.n_past, by simp, q _ (.mut h fun _ e => nomatch e) upd_same⟩
theorem u_Frame_past {tv : TE} {rd : V → V → Hp → VK → Prop} {σ : L2.St} {D : Ends} (c : C_Frame K) (h : H a = some (O_Frame K dx v0 v1 v2 v3 v4 v5 v6)) (q : tv σ H fun z H2 => rd v5 z H2 (KAugE K (He.ga K "Frame") "past" a (D.nx σ))) : KAug K tv rd "past" D σ (.ref a) H := ⟨a, _, dx, _, v5, rfl, h, c.cl, c.n_past, rfl, q⟩
theorem e_Frame_past (h : H a = some (O_Frame K dx v0 v1 v2 v3 v4 v5 v6)) (q : ∀ H', Chg [a] H H' → H' a = some (O_Frame K dx v0 v1 v2 v3 v4 y v6) → N H') : KAugE K (He.ga K "Frame") "past" a N y H := ⟨dx, _, h, by simp, q _ (.mut h fun _ e => nomatch e) upd_same⟩
theorem n_Frame_past (c : C_Frame K) (h : H a = some (.ins (He.ga K "Frame") dx [("number", v0), ("path", v1), ("rows", v2), ("arg", v3), ("at", v4)])) (q : ∀ H', Chg [a] H H' → H' a = some (.ins (He.ga K "Frame") dx [("number", v0), ("path", v1), ("rows", v2), ("arg", v3), ("at", v4), ("past", y)]) → N H') : KSet K "past" y N (.ref a) H := ⟨a, _, dx, _, rfl, h, c.cl, c.n_past, by simp, q _ (.mut h fun _ e => nomatch e) upd_same⟩
theorem g_Frame_born (c : C_Frame K) (h : H a = some (O_Frame K dx v0 v1 v2 v3 v4 v5 v6)) (q : Q v6 H) : KFld K "born" Q (.ref a) H := ⟨a, _, dx, _, v6, rfl, h, c.cl, c.n_born, rfl, q⟩
theorem s_Frame_born (c : C_Frame K) (h : H a = some (O_Frame K dx v0 v1 v2 v3 v4 v5 v6)) (q : ∀ H', Chg [a] H H' → H' a = some (O_Frame K dx v0 v1 v2 v3 v4 v5 y) → N H') : KSet K "born" y N (.ref a) H := ⟨a, _, dx, _, rfl, h, c.cl, c.n_born, by simp, q _ (.mut h fun _ e => nomatch e) upd_same⟩
theorem u_Frame_born {tv : TE} {rd : V → V → Hp → VK → Prop} {σ : L2.St} {D : Ends} (c : C_Frame K) (h : H a = some (O_Frame K dx v0 v1 v2 v3 v4 v5 v6)) (q : tv σ H fun z H2 => rd v6 z H2 (KAugE K (He.ga K "Frame") "born" a (D.nx σ))) : KAug K tv rd "born" D σ (.ref a) H := ⟨a, _, dx, _, v6, rfl, h, c.cl, c.n_born, rfl, q⟩
theorem e_Frame_born (h : H a = some (O_Frame K dx v0 v1 v2 v3 v4 v5 v6)) (q : ∀ H', Chg [a] H H' → H' a = some (O_Frame K dx v0 v1 v2 v3 v4 v5 y) → N H') : KAugE K (He.ga K "Frame") "born" a N y H := ⟨dx, _, h, by simp, q _ (.mut h fun _ e => nomatch e) upd_same⟩
theorem n_Frame_born (c : C_Frame K) (h : H a = some (.ins (He.ga K "Frame") dx [("number", v0), ("path", v1), ("rows", v2), ("arg", v3), ("at", v4), ("past", v5)])) (q : ∀ H', Chg [a] H H' → H' a = some (.ins (He.ga K "Frame") dx [("number", v0), ("path", v1), ("rows", v2), ("arg", v3), ("at", v4), ("past", v5), ("born", y)]) → N H') : KSet K "born" y N (.ref a) H := ⟨a, _, dx, _, rfl, h, c.cl, c.n_born, by simp, q _ (.mut h fun _ e => nomatch e) upd_same⟩
end
/-! ### Record -/
def O_Record (K : PySem.W.Frag) (dx : Addr) (v0 v1 v2 v3 v4 v5 : V) : HO := .ins (He.ga K "Record") dx [("mark", v0), ("word", v1), ("doer", v2), ("child", v3), ("reads", v4), ("writes", v5)]
structure C_Record (K : PySem.W.Frag) : Prop where
  cl : Cls K (He.ga K "Record")
  n_mark : NoAttr K (He.ga K "Record") "mark"
  n_word : NoAttr K (He.ga K "Record") "word"
  n_doer : NoAttr K (He.ga K "Record") "doer"
  n_child : NoAttr K (He.ga K "Record") "child"
  n_reads : NoAttr K (He.ga K "Record") "reads"
  n_writes : NoAttr K (He.ga K "Record") "writes"
section
variable {K : PySem.W.Frag} {H : Hp} {Q : VK} {N : Hp → Prop} {a dx : Addr} {v0 v1 v2 v3 v4 v5 y : V}
theorem g_Record_mark (c : C_Record K) (h : H a = some (O_Record K dx v0 v1 v2 v3 v4 v5)) (q : Q v0 H) : KFld K "mark" Q (.ref a) H := ⟨a, _, dx, _, v0, rfl, h, c.cl, c.n_mark, rfl, q⟩
theorem s_Record_mark (c : C_Record K) (h : H a = some (O_Record K dx v0 v1 v2 v3 v4 v5)) (q : ∀ H', Chg [a] H H' → H' a = some (O_Record K dx y v1 v2 v3 v4 v5) → N H') : KSet K "mark" y N (.ref a) H := ⟨a, _, dx, _, rfl, h, c.cl, c.n_mark, by simp, q _ (.mut h fun _ e => nomatch e) upd_same⟩
theorem u_Record_mark {tv : TE} {rd : V → V → Hp → VK → Prop} {σ : L2.St} {D : Ends} (c : C_Record K) (h : H a = some (O_Record K dx v0 v1 v2 v3 v4 v5)) (q : tv σ H fun z H2 => rd v0 z H2 (KAugE K (He.ga K "Record") "mark" a (D.nx σ))) : KAug K tv rd "mark" D σ (.ref a) H := ⟨a, _, dx, _, v0, rfl, h, c.cl, c.n_mark, rfl, q⟩
theorem e_Record_mark (h : H a = some (O_Record K dx v0 v1 v2 v3 v4 v5)) (q : ∀ H', Chg [a] H H' → H' a = some (O_Record K dx y v1 v2 v3 v4 v5) → N H') : KAugE K (He.ga K "Record") "mark" a N y H := ⟨dx, _, h, by simp, q _ (.mut h fun _ e => nomatch e) upd_same⟩
theorem n_Record_mark (c : C_Record K) (h : H a = some (.ins (He.ga K "Record") dx [])) (q : ∀ H', Chg [a] H H' → H' a = some (.ins (He.ga K "Record") dx [("mark", y)]) → N H') : KSet K "mark" y N (.ref a) H := ⟨a, _, dx, _, rfl, h, c.cl, c.n_mark, by simp, q _ (.mut h fun _ e => nomatch e) upd_same⟩
theorem g_Record_word (c : C_Record K) (h : H a = some (O_Record K dx v0 v1 v2 v3 v4 v5)) (q : Q v1 H) : KFld K "word" Q (.ref a) H := ⟨a, _, dx, _, v1, rfl, h, c.cl, c.n_word, rfl, q⟩
theorem s_Record_word (c : C_Record K) (h : H a = some (O_Record K dx v0 v1 v2 v3 v4 v5)) (q : ∀ H', Chg [a] H H' → H' a = some (O_Record K dx v0 y v2 v3 v4 v5) → N H') : KSet K "word" y N (.ref a) H := ⟨a, _, dx, _, rfl, h, c.cl, c.n_word, by simp, q _ (.mut h fun _ e => nomatch e) upd_same⟩
theorem u_Record_word {tv : TE} {rd : V → V → Hp → VK → Prop} {σ : L2.St} {D : Ends} (c : C_Record K) (h : H a = some (O_Record K dx v0 v1 v2 v3 v4 v5)) (q : tv σ H fun z H2 => rd v1 z H2 (KAugE K (He.ga K "Record") "word" a (D.nx σ))) : KAug K tv rd "word" D σ (.ref a) H := ⟨a, _, dx, _, v1, rfl, h, c.cl, c.n_word, rfl, q⟩
theorem e_Record_word (h : H a = some (O_Record K dx v0 v1 v2 v3 v4 v5)) (q : ∀ H', Chg [a] H H' → H' a = some (O_Record K dx v0 y v2 v3 v4 v5) → N H') : KAugE K (He.ga K "Record") "word" a N y H := ⟨dx, _, h, by simp, q _ (.mut h fun _ e => nomatch e) upd_same⟩
theorem n_Record_word (c : C_Record K) (h : H a = some (.ins (He.ga K "Record") dx [("mark", v0)])) (q : ∀ H', Chg [a] H H' → H' a = some (.ins (He.ga K "Record") dx [("mark", v0), ("word", y)]) → N H') : KSet K "word" y N (.ref a) H := ⟨a, _, dx, _, rfl, h, c.cl, c.n_word, by simp, q _ (.mut h fun _ e => nomatch e) upd_same⟩
theorem g_Record_doer (c : C_Record K) (h : H a = some (O_Record K dx v0 v1 v2 v3 v4 v5)) (q : Q v2 H) : KFld K "doer" Q (.ref a) H := ⟨a, _, dx, _, v2, rfl, h, c.cl, c.n_doer, rfl, q⟩
theorem s_Record_doer (c : C_Record K) (h : H a = some (O_Record K dx v0 v1 v2 v3 v4 v5)) (q : ∀ H', Chg [a] H H' → H' a = some (O_Record K dx v0 v1 y v3 v4 v5) → N H') : KSet K "doer" y N (.ref a) H := ⟨a, _, dx, _, rfl, h, c.cl, c.n_doer, by simp, q _ (.mut h fun _ e => nomatch e) upd_same⟩
theorem u_Record_doer {tv : TE} {rd : V → V → Hp → VK → Prop} {σ : L2.St} {D : Ends} (c : C_Record K) (h : H a = some (O_Record K dx v0 v1 v2 v3 v4 v5)) (q : tv σ H fun z H2 => rd v2 z H2 (KAugE K (He.ga K "Record") "doer" a (D.nx σ))) : KAug K tv rd "doer" D σ (.ref a) H := ⟨a, _, dx, _, v2, rfl, h, c.cl, c.n_doer, rfl, q⟩
theorem e_Record_doer (h : H a = some (O_Record K dx v0 v1 v2 v3 v4 v5)) (q : ∀ H', Chg [a] H H' → H' a = some (O_Record K dx v0 v1 y v3 v4 v5) → N H') : KAugE K (He.ga K "Record") "doer" a N y H := ⟨dx, _, h, by simp, q _ (.mut h fun _ e => nomatch e) upd_same⟩
theorem n_Record_doer (c : C_Record K) (h : H a = some (.ins (He.ga K "Record") dx [("mark", v0), ("word", v1)])) (q : ∀ H', Chg [a] H H' → H' a = some (.ins (He.ga K "Record") dx [("mark", v0), ("word", v1), ("doer", y)]) → N H') : KSet K "doer" y N (.ref a) H := ⟨a, _, dx, _, rfl, h, c.cl, c.n_doer, by simp, q _ (.mut h fun _ e => nomatch e) upd_same⟩
theorem g_Record_child (c : C_Record K) (h : H a = some (O_Record K dx v0 v1 v2 v3 v4 v5)) (q : Q v3 H) : KFld K "child" Q (.ref a) H := ⟨a, _, dx, _, v3, rfl, h, c.cl, c.n_child, rfl, q⟩
theorem s_Record_child (c : C_Record K) (h : H a = some (O_Record K dx v0 v1 v2 v3 v4 v5)) (q : ∀ H', Chg [a] H H' → H' a = some (O_Record K dx v0 v1 v2 y v4 v5) → N H') : KSet K "child" y N (.ref a) H := ⟨a, _, dx, _, rfl, h, c.cl, c.n_child, by simp, q _ (.mut h fun _ e => nomatch e) upd_same⟩
theorem u_Record_child {tv : TE} {rd : V → V → Hp → VK → Prop} {σ : L2.St} {D : Ends} (c : C_Record K) (h : H a = some (O_Record K dx v0 v1 v2 v3 v4 v5)) (q : tv σ H fun z H2 => rd v3 z H2 (KAugE K (He.ga K "Record") "child" a (D.nx σ))) : KAug K tv rd "child" D σ (.ref a) H := ⟨a, _, dx, _, v3, rfl, h, c.cl, c.n_child, rfl, q⟩
theorem e_Record_child (h : H a = some (O_Record K dx v0 v1 v2 v3 v4 v5)) (q : ∀ H', Chg [a] H H' → H' a = some (O_Record K dx v0 v1 v2 y v4 v5) → N H') : KAugE K (He.ga K "Record") "child" a N y H := ⟨dx, _, h, by simp, q _ (.mut h fun _ e => nomatch e) upd_same⟩
theorem n_Record_child (c : C_Record K) (h : H a = some (.ins (He.ga K "Record") dx [("mark", v0), ("word", v1), ("doer", v2)])) (q : ∀ H', Chg [a] H H' → H' a = some (.ins (He.ga K "Record") dx [("mark", v0), ("word", v1), ("doer", v2), ("child", y)]) → N H') : KSet K "child" y N (.ref a) H := ⟨a, _, dx, _, rfl, h, c.cl, c.n_child, by simp, q _ (.mut h fun _ e => nomatch e) upd_same⟩
theorem g_Record_reads (c : C_Record K) (h : H a = some (O_Record K dx v0 v1 v2 v3 v4 v5)) (q : Q v4 H) : KFld K "reads" Q (.ref a) H := ⟨a, _, dx, _, v4, rfl, h, c.cl, c.n_reads, rfl, q⟩
theorem s_Record_reads (c : C_Record K) (h : H a = some (O_Record K dx v0 v1 v2 v3 v4 v5)) (q : ∀ H', Chg [a] H H' → H' a = some (O_Record K dx v0 v1 v2 v3 y v5) → N H') : KSet K "reads" y N (.ref a) H := ⟨a, _, dx, _, rfl, h, c.cl, c.n_reads, by simp, q _ (.mut h fun _ e => nomatch e) upd_same⟩
theorem u_Record_reads {tv : TE} {rd : V → V → Hp → VK → Prop} {σ : L2.St} {D : Ends} (c : C_Record K) (h : H a = some (O_Record K dx v0 v1 v2 v3 v4 v5)) (q : tv σ H fun z H2 => rd v4 z H2 (KAugE K (He.ga K "Record") "reads" a (D.nx σ))) : KAug K tv rd "reads" D σ (.ref a) H := ⟨a, _, dx, _, v4, rfl, h, c.cl, c.n_reads, rfl, q⟩
theorem e_Record_reads (h : H a = some (O_Record K dx v0 v1 v2 v3 v4 v5)) (q : ∀ H', Chg [a] H H' → H' a = some (O_Record K dx v0 v1 v2 v3 y v5) → N H') : KAugE K (He.ga K "Record") "reads" a N y H := ⟨dx, _, h, by simp, q _ (.mut h fun _ e => nomatch e) upd_same⟩
theorem n_Record_reads (c : C_Record K) (h : H a = some (.ins (He.ga K "Record") dx [("mark", v0), ("word", v1), ("doer", v2), ("child", v3)])) (q : ∀ H', Chg [a] H H' → H' a = some (.ins (He.ga K "Record") dx [("mark", v0), ("word", v1), ("doer", v2), ("child", v3), ("reads", y)]) → N H') : KSet K "reads" y N (.ref a) H := ⟨a, _, dx, _, rfl, h, c.cl, c.n_reads, by simp, q _ (.mut h fun _ e => nomatch e) upd_same⟩
theorem g_Record_writes (c : C_Record K) (h : H a = some (O_Record K dx v0 v1 v2 v3 v4 v5)) (q : Q v5 H) : KFld K "writes" Q (.ref a) H := ⟨a, _, dx, _, v5, rfl, h, c.cl, c.n_writes, rfl, q⟩
theorem s_Record_writes (c : C_Record K) (h : H a = some (O_Record K dx v0 v1 v2 v3 v4 v5)) (q : ∀ H', Chg [a] H H' → H' a = some (O_Record K dx v0 v1 v2 v3 v4 y) → N H') : KSet K "writes" y N (.ref a) H := ⟨a, _, dx, _, rfl, h, c.cl, c.n_writes, by simp, q _ (.mut h fun _ e => nomatch e) upd_same⟩
theorem u_Record_writes {tv : TE} {rd : V → V → Hp → VK → Prop} {σ : L2.St} {D : Ends} (c : C_Record K) (h : H a = some (O_Record K dx v0 v1 v2 v3 v4 v5)) (q : tv σ H fun z H2 => rd v5 z H2 (KAugE K (He.ga K "Record") "writes" a (D.nx σ))) : KAug K tv rd "writes" D σ (.ref a) H := ⟨a, _, dx, _, v5, rfl, h, c.cl, c.n_writes, rfl, q⟩
theorem e_Record_writes (h : H a = some (O_Record K dx v0 v1 v2 v3 v4 v5)) (q : ∀ H', Chg [a] H H' → H' a = some (O_Record K dx v0 v1 v2 v3 v4 y) → N H') : KAugE K (He.ga K "Record") "writes" a N y H := ⟨dx, _, h, by simp, q _ (.mut h fun _ e => nomatch e) upd_same⟩
theorem n_Record_writes (c : C_Record K) (h : H a = some (.ins (He.ga K "Record") dx [("mark", v0), ("word", v1), ("doer", v2), ("child", v3), ("reads", v4)])) (q : ∀ H', Chg [a] H H' → H' a = some (.ins (He.ga K "Record") dx [("mark", v0), ("word", v1), ("doer", v2), ("child", v3), ("reads", v4), ("writes", y)]) → N H') : KSet K "writes" y N (.ref a) H := ⟨a, _, dx, _, rfl, h, c.cl, c.n_writes, by simp, q _ (.mut h fun _ e => nomatch e) upd_same⟩
end
/-! ### Outcome -/
def O_Outcome (K : PySem.W.Frag) (dx : Addr) (v0 v1 v2 v3 : V) : HO := .ins (He.ga K "Outcome") dx [("cells", v0), ("given", v1), ("steps", v2), ("deepest", v3)]
structure C_Outcome (K : PySem.W.Frag) : Prop where
  cl : Cls K (He.ga K "Outcome")
  n_cells : NoAttr K (He.ga K "Outcome") "cells"
  n_given : NoAttr K (He.ga K "Outcome") "given"
  n_steps : NoAttr K (He.ga K "Outcome") "steps"
  n_deepest : NoAttr K (He.ga K "Outcome") "deepest"
section
variable {K : PySem.W.Frag} {H : Hp} {Q : VK} {N : Hp → Prop} {a dx : Addr} {v0 v1 v2 v3 y : V}
theorem g_Outcome_cells (c : C_Outcome K) (h : H a = some (O_Outcome K dx v0 v1 v2 v3)) (q : Q v0 H) : KFld K "cells" Q (.ref a) H := ⟨a, _, dx, _, v0, rfl, h, c.cl, c.n_cells, rfl, q⟩
theorem s_Outcome_cells (c : C_Outcome K) (h : H a = some (O_Outcome K dx v0 v1 v2 v3)) (q : ∀ H', Chg [a] H H' → H' a = some (O_Outcome K dx y v1 v2 v3) → N H') : KSet K "cells" y N (.ref a) H := ⟨a, _, dx, _, rfl, h, c.cl, c.n_cells, by simp, q _ (.mut h fun _ e => nomatch e) upd_same⟩
theorem u_Outcome_cells {tv : TE} {rd : V → V → Hp → VK → Prop} {σ : L2.St} {D : Ends} (c : C_Outcome K) (h : H a = some (O_Outcome K dx v0 v1 v2 v3)) (q : tv σ H fun z H2 => rd v0 z H2 (KAugE K (He.ga K "Outcome") "cells" a (D.nx σ))) : KAug K tv rd "cells" D σ (.ref a) H := ⟨a, _, dx, _, v0, rfl, h, c.cl, c.n_cells, rfl, q⟩
theorem e_Outcome_cells (h : H a = some (O_Outcome K dx v0 v1 v2 v3)) (q : ∀ H', Chg [a] H H' → H' a = some (O_Outcome K dx y v1 v2 v3) → N H') : KAugE K (He.ga K "Outcome") "cells" a N y H := ⟨dx, _, h, by simp, q _ (.mut h fun _ e => nomatch e) upd_same⟩
theorem n_Outcome_cells (c : C_Outcome K) (h : H a = some (.ins (He.ga K "Outcome") dx [])) (q : ∀ H', Chg [a] H H' → H' a = some (.ins (He.ga K "Outcome") dx [("cells", y)]) → N H') : KSet K "cells" y N (.ref a) H := ⟨a, _, dx, _, rfl, h, c.cl, c.n_cells, by simp, q _ (.mut h fun _ e => nomatch e) upd_same⟩
theorem g_Outcome_given (c : C_Outcome K) (h : H a = some (O_Outcome K dx v0 v1 v2 v3)) (q : Q v1 H) : KFld K "given" Q (.ref a) H := ⟨a, _, dx, _, v1, rfl, h, c.cl, c.n_given, rfl, q⟩
theorem s_Outcome_given (c : C_Outcome K) (h : H a = some (O_Outcome K dx v0 v1 v2 v3)) (q : ∀ H', Chg [a] H H' → H' a = some (O_Outcome K dx v0 y v2 v3) → N H') : KSet K "given" y N (.ref a) H := ⟨a, _, dx, _, rfl, h, c.cl, c.n_given, by simp, q _ (.mut h fun _ e => nomatch e) upd_same⟩
theorem u_Outcome_given {tv : TE} {rd : V → V → Hp → VK → Prop} {σ : L2.St} {D : Ends} (c : C_Outcome K) (h : H a = some (O_Outcome K dx v0 v1 v2 v3)) (q : tv σ H fun z H2 => rd v1 z H2 (KAugE K (He.ga K "Outcome") "given" a (D.nx σ))) : KAug K tv rd "given" D σ (.ref a) H := ⟨a, _, dx, _, v1, rfl, h, c.cl, c.n_given, rfl, q⟩
theorem e_Outcome_given (h : H a = some (O_Outcome K dx v0 v1 v2 v3)) (q : ∀ H', Chg [a] H H' → H' a = some (O_Outcome K dx v0 y v2 v3) → N H') : KAugE K (He.ga K "Outcome") "given" a N y H := ⟨dx, _, h, by simp, q _ (.mut h fun _ e => nomatch e) upd_same⟩
theorem n_Outcome_given (c : C_Outcome K) (h : H a = some (.ins (He.ga K "Outcome") dx [("cells", v0)])) (q : ∀ H', Chg [a] H H' → H' a = some (.ins (He.ga K "Outcome") dx [("cells", v0), ("given", y)]) → N H') : KSet K "given" y N (.ref a) H := ⟨a, _, dx, _, rfl, h, c.cl, c.n_given, by simp, q _ (.mut h fun _ e => nomatch e) upd_same⟩
theorem g_Outcome_steps (c : C_Outcome K) (h : H a = some (O_Outcome K dx v0 v1 v2 v3)) (q : Q v2 H) : KFld K "steps" Q (.ref a) H := ⟨a, _, dx, _, v2, rfl, h, c.cl, c.n_steps, rfl, q⟩
theorem s_Outcome_steps (c : C_Outcome K) (h : H a = some (O_Outcome K dx v0 v1 v2 v3)) (q : ∀ H', Chg [a] H H' → H' a = some (O_Outcome K dx v0 v1 y v3) → N H') : KSet K "steps" y N (.ref a) H := ⟨a, _, dx, _, rfl, h, c.cl, c.n_steps, by simp, q _ (.mut h fun _ e => nomatch e) upd_same⟩
theorem u_Outcome_steps {tv : TE} {rd : V → V → Hp → VK → Prop} {σ : L2.St} {D : Ends} (c : C_Outcome K) (h : H a = some (O_Outcome K dx v0 v1 v2 v3)) (q : tv σ H fun z H2 => rd v2 z H2 (KAugE K (He.ga K "Outcome") "steps" a (D.nx σ))) : KAug K tv rd "steps" D σ (.ref a) H := ⟨a, _, dx, _, v2, rfl, h, c.cl, c.n_steps, rfl, q⟩
theorem e_Outcome_steps (h : H a = some (O_Outcome K dx v0 v1 v2 v3)) (q : ∀ H', Chg [a] H H' → H' a = some (O_Outcome K dx v0 v1 y v3) → N H') : KAugE K (He.ga K "Outcome") "steps" a N y H := ⟨dx, _, h, by simp, q _ (.mut h fun _ e => nomatch e) upd_same⟩
theorem n_Outcome_steps (c : C_Outcome K) (h : H a = some (.ins (He.ga K "Outcome") dx [("cells", v0), ("given", v1)])) (q : ∀ H', Chg [a] H H' → H' a = some (.ins (He.ga K "Outcome") dx [("cells", v0), ("given", v1), ("steps", y)]) → N H') : KSet K "steps" y N (.ref a) H := ⟨a, _, dx, _, rfl, h, c.cl, c.n_steps, by simp, q _ (.mut h fun _ e => nomatch e) upd_same⟩
theorem g_Outcome_deepest (c : C_Outcome K) (h : H a = some (O_Outcome K dx v0 v1 v2 v3)) (q : Q v3 H) : KFld K "deepest" Q (.ref a) H := ⟨a, _, dx, _, v3, rfl, h, c.cl, c.n_deepest, rfl, q⟩
theorem s_Outcome_deepest (c : C_Outcome K) (h : H a = some (O_Outcome K dx v0 v1 v2 v3)) (q : ∀ H', Chg [a] H H' → H' a = some (O_Outcome K dx v0 v1 v2 y) → N H') : KSet K "deepest" y N (.ref a) H := ⟨a, _, dx, _, rfl, h, c.cl, c.n_deepest, by simp, q _ (.mut h fun _ e => nomatch e) upd_same⟩
theorem u_Outcome_deepest {tv : TE} {rd : V → V → Hp → VK → Prop} {σ : L2.St} {D : Ends} (c : C_Outcome K) (h : H a = some (O_Outcome K dx v0 v1 v2 v3)) (q : tv σ H fun z H2 => rd v3 z H2 (KAugE K (He.ga K "Outcome") "deepest" a (D.nx σ))) : KAug K tv rd "deepest" D σ (.ref a) H := ⟨a, _, dx, _, v3, rfl, h, c.cl, c.n_deepest, rfl, q⟩
theorem e_Outcome_deepest (h : H a = some (O_Outcome K dx v0 v1 v2 v3)) (q : ∀ H', Chg [a] H H' → H' a = some (O_Outcome K dx v0 v1 v2 y) → N H') : KAugE K (He.ga K "Outcome") "deepest" a N y H := ⟨dx, _, h, by simp, q _ (.mut h fun _ e => nomatch e) upd_same⟩
theorem n_Outcome_deepest (c : C_Outcome K) (h : H a = some (.ins (He.ga K "Outcome") dx [("cells", v0), ("given", v1), ("steps", v2)])) (q : ∀ H', Chg [a] H H' → H' a = some (.ins (He.ga K "Outcome") dx [("cells", v0), ("given", v1), ("steps", v2), ("deepest", y)]) → N H') : KSet K "deepest" y N (.ref a) H := ⟨a, _, dx, _, rfl, h, c.cl, c.n_deepest, by simp, q _ (.mut h fun _ e => nomatch e) upd_same⟩
end
end Fg
namespace Fg
open PySem PySem.Spec PyProof.Rows L2
/-! ### cells, by numbers -/
abbrev Cells := List (Int × Int)
def cK (cs : Cells) : List (Key × V) := cs.map fun c => (Sum.inl c.1, V.int c.2)
def cAt (cs : Cells) (i : Int) : Option Int := (cs.find? fun c => decide (c.1 = i)).map (·.2)
def cGet (cs : Cells) (i : Int) : Int := (cAt cs i).getD 0
def cPut (cs : Cells) (i v : Int) : Cells := if (cs.any fun c => decide (c.1 = i)) = true then cs.map (fun c => if c.1 = i then (c.1, v) else c) else cs ++ [(i, v)]
theorem valV_cK (cs : Cells) (i : Int) : valV (cK cs) (Sum.inl i) = (cAt cs i).map V.int := by
  unfold valV cAt cK
  induction cs with
  | nil => rfl
  | cons c r ih =>
    rw [List.map_cons, List.find?_cons, List.find?_cons]
    by_cases e : c.1 = i
    · have e' : (Sum.inl c.1 : Key) = Sum.inl i := by rw [e]
      rw [decide_eq_true e, decide_eq_true e']
      rfl
    · have e' : ¬ (Sum.inl c.1 : Key) = Sum.inl i := fun z => e (Sum.inl.inj z)
      rw [decide_eq_false e, decide_eq_false e']
      exact ih
theorem getD_cK (cs : Cells) (i : Int) : (valV (cK cs) (Sum.inl i)).getD (.int 0) = .int (cGet cs i) := by
  rw [valV_cK]
  unfold cGet
  cases cAt cs i <;> rfl
theorem any_cK (cs : Cells) (i : Int) : ((cK cs).any fun kv => decide (kv.1 = (Sum.inl i : Key))) = cs.any fun c => decide (c.1 = i) := by
  unfold cK
  rw [List.any_map]
  congr 1
  funext c
  show decide ((Sum.inl c.1 : Key) = Sum.inl i) = decide (c.1 = i)
  by_cases e : c.1 = i
  · rw [decide_eq_true e, decide_eq_true (by rw [e])]
  · rw [decide_eq_false e, decide_eq_false fun z => e (Sum.inl.inj z)]
theorem putK_cK (cs : Cells) (i v : Int) : putK (cK cs) (Sum.inl i) (.int v) = cK (cPut cs i v) := by
  unfold putK cPut
  rw [any_cK]
  split
  · unfold cK
    rw [List.map_map, List.map_map]
    apply List.map_congr_left
    intro c _
    show (if (Sum.inl c.1 : Key) = Sum.inl i then ((Sum.inl c.1 : Key), V.int v) else (Sum.inl c.1, V.int c.2)) = _
    by_cases e : c.1 = i
    · rw [if_pos (by rw [e])]
      show _ = (Sum.inl (if c.1 = i then (c.1, v) else c).1, V.int (if c.1 = i then (c.1, v) else c).2)
      rw [if_pos e]
    · rw [if_neg fun z => e (Sum.inl.inj z)]
      show _ = (Sum.inl (if c.1 = i then (c.1, v) else c).1, V.int (if c.1 = i then (c.1, v) else c).2)
      rw [if_neg e]
  · unfold cK
    rw [List.map_append]
    rfl
/-! ### what an expression is worth -/
def Ex.worth (g : Int) (cs : Cells) : Ex → Int
  | .num i => i
  | .arg => g
  | .cell a => cGet cs (a.worth g cs)
  | .add a b => a.worth g cs + b.worth g cs
  | .less a b => a.worth g cs - b.worth g cs
  | .least a b => if b.worth g cs < a.worth g cs then b.worth g cs else a.worth g cs
def Ex.asked (g : Int) (cs : Cells) : Ex → List Int
  | .num _ => []
  | .arg => []
  | .cell a => a.asked g cs ++ [a.worth g cs]
  | .add a b => a.asked g cs ++ b.asked g cs
  | .less a b => a.asked g cs ++ b.asked g cs
  | .least a b => a.asked g cs ++ b.asked g cs
theorem two_pow_max (a b : Nat) : 2 ^ a + 2 ^ b ≤ 2 ^ (max a b + 1) := by
  have h1 : 2 ^ a ≤ 2 ^ max a b := Nat.pow_le_pow_right (by decide) (Nat.le_max_left _ _)
  have h2 : 2 ^ b ≤ 2 ^ max a b := Nat.pow_le_pow_right (by decide) (Nat.le_max_right _ _)
  rw [Nat.pow_succ]
  omega
theorem Ex.asked_len (g : Int) (cs : Cells) : ∀ e : Ex, (e.asked g cs).length + 1 ≤ 2 ^ (e.deep - 1)
  | .num _ => Nat.le_refl _
  | .arg => Nat.le_refl _
  | .cell a => by
    have h := Ex.asked_len g cs a
    have d := a.deep_pos
    show (a.asked g cs ++ [a.worth g cs]).length + 1 ≤ 2 ^ (a.deep + 1 - 1)
    rw [List.length_append, List.length_singleton, Nat.add_sub_cancel]
    have e : 2 ^ a.deep = 2 * 2 ^ (a.deep - 1) := by
      rw [← Nat.pow_succ', show (a.deep - 1).succ = a.deep by omega]
    have p : 1 ≤ 2 ^ (a.deep - 1) := Nat.one_le_two_pow
    omega
  | .add a b => by
    have h := Ex.asked_len g cs a
    have h' := Ex.asked_len g cs b
    have t := two_pow_max (a.deep - 1) (b.deep - 1)
    have d := a.deep_pos
    have d' := b.deep_pos
    show (a.asked g cs ++ b.asked g cs).length + 1 ≤ 2 ^ (max a.deep b.deep + 1 - 1)
    rw [List.length_append, show max a.deep b.deep + 1 - 1 = max (a.deep - 1) (b.deep - 1) + 1 by omega]
    omega
  | .less a b => by
    have h := Ex.asked_len g cs a
    have h' := Ex.asked_len g cs b
    have t := two_pow_max (a.deep - 1) (b.deep - 1)
    have d := a.deep_pos
    have d' := b.deep_pos
    show (a.asked g cs ++ b.asked g cs).length + 1 ≤ 2 ^ (max a.deep b.deep + 1 - 1)
    rw [List.length_append, show max a.deep b.deep + 1 - 1 = max (a.deep - 1) (b.deep - 1) + 1 by omega]
    omega
  | .least a b => by
    have h := Ex.asked_len g cs a
    have h' := Ex.asked_len g cs b
    have t := two_pow_max (a.deep - 1) (b.deep - 1)
    have d := a.deep_pos
    have d' := b.deep_pos
    show (a.asked g cs ++ b.asked g cs).length + 1 ≤ 2 ^ (max a.deep b.deep + 1 - 1)
    rw [List.length_append, show max a.deep b.deep + 1 - 1 = max (a.deep - 1) (b.deep - 1) + 1 by omega]
    omega
/-- what was asked goes into a list, or nowhere -/
def akL : V → List Addr
  | .ref l => [l]
  | _ => []
def Ask (H : Hp) (ak : V) (as : Option (List Int)) : Prop := (ak = .non ∧ as = none) ∨ ∃ (l : Addr) (xs : List Int), ak = .ref l ∧ as = some xs ∧ H l = some (.lst (xs.map V.int))
theorem Ask.ne {H : Hp} {ak : V} {as : Option (List Int)} (h : Ask H ak as) {d : Addr} {kvs : List (Key × V)} (e : H d = some (.dK kvs)) : d ∉ akL ak := by
  rcases h with ⟨rfl, _⟩ | ⟨l, xs, rfl, _, hl⟩
  · simp [akL]
  · intro z
    rw [List.mem_singleton.mp z, hl] at e
    cases e
end Fg
namespace Fg
open PySem PySem.Spec PyProof.Rows L2
/-! ### sorted, the one way -/
def leI (a b : Int) : Bool := decide (a ≤ b)
def srt (ks : List Int) : List Int := ks.mergeSort leI
theorem leI_trans (a b c : Int) (h : leI a b = true) (h' : leI b c = true) : leI a c = true := by
  unfold leI at *
  simp only [decide_eq_true_eq] at *
  omega
theorem leI_total (a b : Int) : (leI a b || leI b a) = true := by
  unfold leI
  simp only [Bool.or_eq_true, decide_eq_true_eq]
  omega
theorem srt_perm (ks : List Int) : (srt ks).Perm ks := List.mergeSort_perm ks leI
theorem srt_up (ks : List Int) : (srt ks).Pairwise (· ≤ ·) := (List.pairwise_mergeSort leI_trans leI_total ks).imp fun h => of_decide_eq_true h
theorem srt_of {ys ks : List Int} (hp : ys.Perm ks) (hs : ys.Pairwise (· ≤ ·)) : ys = srt ks :=
  List.Perm.eq_of_pairwise (le := (· ≤ ·)) (fun a b _ _ h h' => Int.le_antisymm h h') hs (srt_up ks) (hp.trans (srt_perm ks).symm)
/-- the same ones, each once, sorted -/
theorem up_eq : ∀ {xs ys : List Int}, xs.Pairwise (· < ·) → ys.Pairwise (· < ·) → (∀ k, k ∈ xs ↔ k ∈ ys) → xs = ys
  | [], [], _, _, _ => rfl
  | [], y :: r, _, _, h => absurd ((h y).mpr (by simp)) (by simp)
  | x :: r, [], _, _, h => absurd ((h x).mp (by simp)) (by simp)
  | x :: r, y :: t, hx, hy, h => by
    obtain ⟨hx1, hx2⟩ := List.pairwise_cons.mp hx
    obtain ⟨hy1, hy2⟩ := List.pairwise_cons.mp hy
    have e : x = y := by
      rcases List.mem_cons.mp ((h x).mp (by simp)) with e | m
      · exact e
      · rcases List.mem_cons.mp ((h y).mpr (by simp)) with e | m'
        · exact e.symm
        · have := hy1 x m
          have := hx1 y m'
          omega
    subst e
    rw [up_eq hx2 hy2 fun k => ?_]
    constructor
    · intro hk
      rcases List.mem_cons.mp ((h k).mp (List.mem_cons_of_mem _ hk)) with e | m
      · have := hx1 k hk
        omega
      · exact m
    · intro hk
      rcases List.mem_cons.mp ((h k).mpr (List.mem_cons_of_mem _ hk)) with e | m
      · have := hy1 k hk
        omega
      · exact m
/-- each once -/
def once : List Int → List Int
  | [] => []
  | x :: r => if x ∈ once r then once r else x :: once r
theorem once_mem : ∀ {xs : List Int} {k : Int}, k ∈ once xs ↔ k ∈ xs
  | [], _ => Iff.rfl
  | x :: r, k => by
    show k ∈ (if x ∈ once r then once r else x :: once r) ↔ _
    split
    · next h =>
      rw [once_mem, List.mem_cons]
      constructor
      · exact .inr
      · rintro (e | h')
        · rw [e]; exact once_mem.mp h
        · exact h'
    · rw [List.mem_cons, List.mem_cons, once_mem]
theorem once_nodup : ∀ xs : List Int, (once xs).Nodup
  | [] => List.nodup_nil
  | x :: r => by
    show (if x ∈ once r then once r else x :: once r).Nodup
    split
    · exact once_nodup r
    · next h => exact List.nodup_cons.mpr ⟨h, once_nodup r⟩
theorem once_len : ∀ xs : List Int, (once xs).length ≤ xs.length
  | [] => Nat.le_refl _
  | x :: r => by
    show (if x ∈ once r then once r else x :: once r).length ≤ _
    have := once_len r
    split
    · rw [List.length_cons]; omega
    · rw [List.length_cons, List.length_cons]; omega
/-- sorted(set(xs)) -/
def srtD (xs : List Int) : List Int := srt (once xs)
theorem up_of {ys : List Int} (hs : ys.Pairwise (· ≤ ·)) (nd : ys.Nodup) : ys.Pairwise (· < ·) :=
  (hs.and nd).imp fun {a b} h => by
    have h1 := h.1
    have h2 := h.2
    omega
theorem srtD_up (xs : List Int) : (srtD xs).Pairwise (· < ·) := up_of (srt_up _) ((srt_perm _).nodup_iff.mpr (once_nodup xs))
theorem srtD_mem {xs : List Int} {k : Int} : k ∈ srtD xs ↔ k ∈ xs := ((srt_perm (once xs)).mem_iff).trans once_mem
theorem srtD_of {ns xs : List Int} (h1 : ns.Pairwise (· < ·)) (h2 : ∀ k, k ∈ ns ↔ k ∈ xs) : ns = srtD xs := up_eq h1 (srtD_up xs) fun k => (h2 k).trans srtD_mem.symm
/-! texts -/
def leT (a b : Str) : Prop := a.cps.toList ≤ b.cps.toList
theorem str_ext {a b : Str} (h : a.cps.toList = b.cps.toList) : a = b := by
  cases a with
  | mk a =>
    cases b with
    | mk b => rw [show a = b from Array.toList_inj.mp h]
theorem leT_of {p x : Str} (h : (!ltCps x.cps.toList p.cps.toList) = true) : leT p x := by
  rw [ltCps_eq] at h
  have h3 : ¬ x.cps.toList < p.cps.toList := of_decide_eq_false (by simpa using h)
  exact List.not_lt.mp h3
theorem rising_up : ∀ {p : Str} {xs : List Str}, risingS p xs = true → (p :: xs).Pairwise leT
  | p, [], _ => List.pairwise_singleton _ _
  | p, x :: r, h => by
    obtain ⟨h1, h2⟩ := Bool.and_eq_true_iff.mp (show (!ltCps x.cps.toList p.cps.toList && risingS x r) = true from h)
    have ih := rising_up h2
    have h3 := leT_of h1
    refine List.pairwise_cons.mpr ⟨fun y hy => ?_, ih⟩
    rcases List.mem_cons.mp hy with rfl | hy
    · exact h3
    · exact List.le_trans h3 ((List.pairwise_cons.mp ih).1 y hy)
theorem sortedS_up : ∀ {xs : List Str}, sortedS xs = true → xs.Pairwise leT
  | [], _ => List.Pairwise.nil
  | x :: r, h => rising_up h
def leTb (a b : Str) : Bool := decide (a.cps.toList ≤ b.cps.toList)
def srtS (ks : List Str) : List Str := ks.mergeSort leTb
theorem srtS_perm (ks : List Str) : (srtS ks).Perm ks := List.mergeSort_perm ks leTb
theorem srtS_up (ks : List Str) : (srtS ks).Pairwise leT :=
  (List.pairwise_mergeSort (le := leTb) (fun a b c h h' => decide_eq_true (List.le_trans (of_decide_eq_true h) (of_decide_eq_true h'))) (fun a b => by
    unfold leTb
    simp only [Bool.or_eq_true, decide_eq_true_eq]
    exact List.le_total _ _) ks).imp fun h => of_decide_eq_true h
theorem srtS_of {ys ks : List Str} (hp : ys.Perm ks) (hs : sortedS ys = true) : ys = srtS ks :=
  List.Perm.eq_of_pairwise (le := leT) (fun a b _ _ h h' => str_ext (List.le_antisymm h h')) (sortedS_up hs) (srtS_up ks) (hp.trans (srtS_perm ks).symm)
section
variable {K : PySem.W.Frag} {w : World} {H : Hp} {Q : VK} {a : Addr}
theorem w_sortDI {kvs : List (Key × V)} {ks : List Int} (h : H a = some (.dK kvs)) (hk : kvs.map (·.1) = ks.map Sum.inl) (hz : ks.length ≤ 100000) (q : ∀ p H2, H p = none → Chg [] H H2 → H2 p = some (.lst ((srt ks).map V.int)) → Q (.ref p) H2) : cSortDI [.ref a] H Q :=
  ⟨a, kvs, ks, rfl, .inl h, hk, hz, fun ys p hp hs np => by rw [srt_of hp hs]; exact q p _ np (.new np) upd_same⟩
theorem w_sortDS {kvs : List (Key × V)} {ks : List Str} (h : H a = some (.dK kvs)) (hk : kvs.map (·.1) = ks.map Sum.inr) (hz : ks.length < 64) (q : ∀ p H2, H p = none → Chg [] H H2 → H2 p = some (.lst ((srtS ks).map V.str)) → Q (.ref p) H2) : cSortDS [.ref a] H Q :=
  ⟨a, kvs, ks, rfl, .inl h, hk, hz, fun ys p hp hs np => by rw [srtS_of hp hs]; exact q p _ np (.new np) upd_same⟩
theorem w_setI {ns : List Int} (h : H a = some (.lst (ns.map V.int))) (hz : ns.length < 60) (q : ∀ p c H2, H p = none → Chg [] H H2 → c ≤ ns.length → H2 p = some (SetO w p (fun j => decide (j ∈ ns)) c) → Q (.ref p) H2) : cSetL K w [.ref a] H Q :=
  ⟨a, ns, rfl, sqL h, hz, fun p c np hc => q p c _ np (.new np) hc upd_same⟩
theorem w_sortSet {ns : List Int} {c : Nat} (h : H a = some (SetO w a (fun j => decide (j ∈ ns)) c)) (hc : c < 64) (q : ∀ p H2, H p = none → Chg [] H H2 → H2 p = some (.lst ((srtD ns).map V.int)) → Q (.ref p) H2) : rSortedSet w [.ref a] H Q :=
  ⟨a, _, c, rfl, h, hc, fun xs p h1 h2 _ np => by rw [srtD_of h1 fun k => (h2 k).trans decide_eq_true_iff]; exact q p _ np (.new np) upd_same⟩
theorem w_dictP {ps : List Addr} {kvs : List (Key × V)} (h : H a = some (.lst (ps.map V.ref))) (hp : Paired (fun p kv => SqT K H p [kV kv.1, kv.2]) ps kvs) (q : ∀ p H2, H p = none → Chg [] H H2 → H2 p = some (.dK (mergeK [] kvs)) → Q (.ref p) H2) : cDictP K [.ref a] H Q :=
  ⟨a, ps, kvs, rfl, sqL h, hp, d_new q⟩
end
/-! ### what was given -/
abbrev Given := List (Str × List Int)
def gAdd (gv : Given) (x : Str) (n : Int) : Given := if (gv.any fun g => decide (g.1 = x)) = true then gv.map (fun g => if g.1 = x then (g.1, g.2 ++ [n]) else g) else gv ++ [(x, [n])]
/-! ### one hand -/
structure Frm where
  num : Nat
  path : List Nat
  rows : List Stp
  arg : Int
  at_ : Nat
  past : Nat
  born : Nat
structure Rcd where
  path : List Nat
  past : Nat
  word : Str
  doer : Nat
  child : Option Nat
  reads : List Int
  writes : List Int
def Stp.word : Stp → Str
  | .cell _ _ => "cell"
  | .give _ _ => "give"
  | .fork _ _ => "fork"
  | .call _ _ => "call"
  | .wait => "wait"
  | .skip _ _ => "skip"
/-- the cells that a step asks -/
def Stp.asks (g : Int) (cs : Cells) : Stp → List Int
  | .cell a b => a.asked g cs ++ b.asked g cs
  | .give _ a => a.asked g cs
  | .fork _ a => a.asked g cs
  | .call _ a => a.asked g cs
  | .wait => []
  | .skip a _ => a.asked g cs
def Stp.puts (g : Int) (cs : Cells) : Stp → Cells
  | .cell a b => cPut cs (a.worth g cs) (b.worth g cs)
  | _ => cs
def Stp.writes (g : Int) (cs : Cells) : Stp → List Int
  | .cell a _ => [a.worth g cs]
  | _ => []
def Stp.gives (g : Int) (cs : Cells) (gv : Given) : Stp → Given
  | .give x a => gAdd gv x (a.worth g cs)
  | _ => gv
def Stp.jump (g : Int) (cs : Cells) : Stp → Nat
  | .skip a k => if a.worth g cs = 0 then k.toNat else 0
  | _ => 0
def Stp.makes (g : Int) (cs : Cells) : Stp → Option (Str × Int)
  | .fork x a => some (x, a.worth g cs)
  | .call x a => some (x, a.worth g cs)
  | _ => none
structure Mc where
  stack : List Frm
  cells : Cells
  given : Given
  recs : List Rcd
  deep : Nat
  many : Nat
def Prg.rows (p : Prg) (x : Str) : List Stp := ((p.find? fun r => decide (r.1 = x)).map (·.2)).getD []
/-- the next step of the topmost doing f, r below it -/
def Mc.did (p : Prg) (m : Mc) (f : Frm) (r : List Frm) (s : Stp) : Mc :=
  let f' : Frm := { f with at_ := f.at_ + 1 + s.jump f.arg m.cells, past := f.past + 1 }
  let c : Rcd := ⟨f.path, f.past, s.word, f.num, none, srtD (s.asks f.arg m.cells), s.writes f.arg m.cells⟩
  match s.makes f.arg m.cells with
  | none => { stack := f' :: r, cells := s.puts f.arg m.cells, given := s.gives f.arg m.cells m.given, recs := m.recs ++ [c], deep := m.deep, many := m.many }
  | some (x, w) => { stack := ⟨m.many, f.path ++ [f.born], p.rows x, w, 0, 0, 0⟩ :: { f' with born := f.born + 1 } :: r, cells := m.cells, given := m.given, recs := m.recs ++ [{ c with child := some m.many }], deep := max m.deep (r.length + 2), many := m.many + 1 }
/-- till all is done, or none where more steps than most would be done -/
def Mc.go (p : Prg) (most : Int) : Nat → Mc → Option Mc
  | 0, m => some m
  | n + 1, m => match m.stack with
    | [] => some m
    | f :: r => match f.rows[f.at_]? with
      | none => Mc.go p most n { m with stack := r }
      | some s => if most ≤ (m.recs.length : Int) then none else Mc.go p most n (m.did p f r s)
def Mc.size (most : Int) (m : Mc) : Nat := 2 * (most - (m.recs.length : Int)).toNat + m.stack.length
def Mc.start (p : Prg) (x : Str) (g : Int) (cs : Cells) : Mc := ⟨[⟨0, [], p.rows x, g, 0, 0, 0⟩], cs, [], [], 1, 1⟩
def cStart (cs : Cells) : Cells := cs.foldl (fun acc c => cPut acc c.1 c.2) []
/-- what one hand does -/
def Prg.ran (p : Prg) (x : Str) (g : Int) (cs : Cells) (most : Int) : Option Mc :=
  let m := Mc.start p x g (cStart cs)
  Mc.go p most (m.size most) m
theorem go_nil {p : Prg} {most : Int} {n : Nat} {m : Mc} (h : m.stack = []) : Mc.go p most n m = some m := by
  cases n with
  | zero => rfl
  | succ n =>
    unfold Mc.go
    rw [h]
theorem size_pop {most : Int} {m : Mc} {f : Frm} {r : List Frm} (h : m.stack = f :: r) {n : Nat} (hn : m.size most ≤ n + 1) : ({ m with stack := r } : Mc).size most ≤ n := by
  unfold Mc.size at *
  rw [h, List.length_cons] at hn
  show 2 * (most - (m.recs.length : Int)).toNat + r.length ≤ n
  omega
theorem size_did {p : Prg} {most : Int} {m : Mc} {f : Frm} {r : List Frm} {s : Stp} (h : m.stack = f :: r) (hm : ¬ most ≤ (m.recs.length : Int)) {n : Nat} (hn : m.size most ≤ n + 1) : (m.did p f r s).size most ≤ n := by
  unfold Mc.size at *
  rw [h, List.length_cons] at hn
  unfold Mc.did
  cases s.makes f.arg m.cells with
  | none =>
    show 2 * (most - ((m.recs ++ [_]).length : Int)).toNat + (r.length + 1) ≤ n
    rw [List.length_append, List.length_singleton]
    omega
  | some o =>
    show 2 * (most - ((m.recs ++ [_]).length : Int)).toNat + (r.length + 1 + 1) ≤ n
    rw [List.length_append, List.length_singleton]
    omega
end Fg
--LAW k07
namespace Fg
open PySem PySem.Spec PyProof.Rows L2
/-! ### the walk's small steps -/
local macro_rules | `(tactic| walk_at "hp") => `(tactic| first
  | assumption
  | exact upd_same
  | (refine Chg.at (by assumption) ?_; walk_at "hp")
  | (refine Chg.at1 (by assumption) ?_ (by walk_at "ne"); walk_at "hp"))
local macro_rules | `(tactic| walk_at "ne") => `(tactic| first | assumption | (apply Ne.symm; assumption))
local macro_rules | `(tactic| walk_at "sq") => `(tactic| first | assumption | exact sqL (by walk_at "hp") | (refine Chg.seq (by assumption) ?_; walk_at "sq"))
local macro_rules | `(tactic| walk_at "sz") => `(tactic| first | assumption | exact Nat.zero_le _ | (simp only [List.length_cons, List.length_nil]; decide) | exact Nat.le_trans (by first | omega | (simp; done) | (simp; omega)) (show 100000 ≤ sizeLine by decide) | exact Nat.lt_of_lt_of_le (by first | omega | (simp; done) | (simp; omega)) (show 100000 ≤ sizeLine by decide))
local macro_rules | `(tactic| walk_at "ix") => `(tactic| first | exact at0 | exact at1 | exact at2 | exact at3 | assumption | exact rfl | walk_at "ix2")
local macro_rules | `(tactic| walk_at "ix2") => `(tactic| fail)
local macro_rules | `(tactic| walk_at "num") => `(tactic| first | assumption | omega | decide | walk_at "num2")
local macro_rules | `(tactic| walk_at "num2") => `(tactic| fail)
local macro_rules | `(tactic| walk_at "im") => `(tactic| first | assumption | exact R.non (S := fun _ => False) | exact R.bl (S := fun _ => False) _ | exact R.int (S := fun _ => False) _ | exact R.str (S := fun _ => False) _ | (refine R.im (by assumption) ?_; walk_at "im"))
local macro_rules | `(tactic| walk_at "r") => `(tactic| first | assumption | exact R.non (S := fun _ => False) | exact R.bl (S := fun _ => False) _ | exact R.int (S := fun _ => False) _ | exact R.str (S := fun _ => False) _ | (refine R.same (by assumption) ?_; walk_at "r") | exact R.any (by walk_at "im"))
local macro_rules | `(tactic| walk_at "chg") => `(tactic| first
  | exact Chg.refl
  | assumption
  | (refine Chg.same ?_ (by assumption); walk_at "chg")
  | (refine Chg.both ?_ (by assumption); walk_at "chg")
  | (refine Chg.pre (by assumption) ?_; walk_at "chg"))
local macro_rules | `(tactic| walk_at "w1") => `(tactic| first
  | with_reducible apply w_seq
  | with_reducible apply w_asg
  | ((with_reducible apply w_var); (focus (exact rfl)))
  | with_reducible apply w_c
  | with_reducible apply w_op
  | with_reducible apply w_cons
  | with_reducible apply w_nil
  | with_reducible apply w_gName
  | with_reducible apply w_if
  | with_reducible apply w_test
  | with_reducible apply w_B
  | with_reducible apply w_isbl
  | with_reducible apply w_retN
  | with_reducible apply w_next
  | with_reducible apply w_drop
  | with_reducible apply w_cb
  | with_reducible apply w_call
  | with_reducible apply w_callN
  | with_reducible apply w_bm
  | with_reducible apply w_bm0
  | ((with_reducible apply w_tyL); (focus (walk_at "hp"; done)))
  | with_reducible apply w_dput
  | with_reducible apply w_m1
  | with_reducible apply w_isstr
  | with_reducible apply w_and
  | with_reducible apply w_or
  | with_reducible apply w_not
  | with_reducible apply w_andV
  | with_reducible apply w_orV
  | with_reducible apply w_notV
  | with_reducible apply w_ifE
  | with_reducible apply w_chain
  | with_reducible apply w_un
  | with_reducible apply w_neg
  | with_reducible apply w_add
  | with_reducible apply w_sub
  | ((with_reducible apply w_mod); (focus (walk_at "num"; done)))
  | ((with_reducible apply w_mul); (focus (walk_at "num"; done)))
  | ((with_reducible apply w_fdiv); (focus (walk_at "num"; done)))
  | ((with_reducible apply w_pow); (focus (walk_at "num"; done)))
  | with_reducible apply w_lt
  | with_reducible apply w_le
  | with_reducible apply w_gt
  | with_reducible apply w_ge
  | with_reducible apply w_ltS
  | with_reducible apply w_geS
  | with_reducible apply w_inC
  | with_reducible apply w_notInC
  | with_reducible apply w_isN
  | with_reducible apply w_notN
  | with_reducible apply w_isB
  | with_reducible apply w_notB
  | ((with_reducible apply w_addS); (focus (walk_at "sz"; done)))
  | ((with_reducible apply w_ixL); (focus (walk_at "sq"; done)); (focus (walk_at "ix"; done)))
  | ((with_reducible apply w_ixT); (focus (walk_at "hp"; done)); (focus (walk_at "ix"; done)))
  | ((with_reducible apply w_ixS); (focus (walk_at "sz"; done)); (focus (walk_at "ix"; done)))
  | with_reducible apply w_gSub
  | ((with_reducible apply w_gTup); (focus (walk_at "hp"; done)); (focus (exact rfl)))
  | with_reducible apply w_gCons
  | with_reducible apply w_gNil
  | ((with_reducible apply w_aug); (focus (exact rfl)))
  | with_reducible apply w_ipI
  | ((with_reducible apply w_eq); (focus (exact rfl)))
  | ((with_reducible apply w_ne); (focus (exact rfl)))
  | with_reducible apply w_max
  | with_reducible apply w_min
  | with_reducible apply w_abs
  | with_reducible apply w_intB
  | with_reducible apply w_intI
  | with_reducible apply w_tup1
  | with_reducible apply w_lst1
  | with_reducible apply w_sl
  | with_reducible apply w_part
  | with_reducible apply w_noPart
  | with_reducible apply w_isint
  | ((with_reducible apply w_slS); (focus (walk_at "sz"; done)))
  | with_reducible apply w_iteT
  | with_reducible apply w_iteF
  | with_reducible apply w_iteN
  | ((with_reducible apply w_iteYes); (focus (exact rfl)))
  | ((with_reducible apply w_iteNo); (focus (exact rfl)))
  | ((with_reducible apply w_lenL); (focus (walk_at "sq"; done)))
  | ((with_reducible apply w_lenT); (focus (walk_at "hp"; done)))
  | ((with_reducible apply w_lenS); (focus (walk_at "sz"; done)))
  | with_reducible apply w_lc
  | with_reducible apply w_for
  | with_reducible apply w_yes
  | ((with_reducible apply w_wipe); (focus (exact rfl)))
  | with_reducible apply w_iList
  | with_reducible apply w_iTup
  | with_reducible apply w_iStr
  | with_reducible apply w_iRng1
  | with_reducible apply w_iRng2
  | with_reducible apply w_iZip
  | with_reducible apply w_iEnum
  | ((with_reducible apply d_iList); (focus (walk_at "sq"; done)))
  | ((with_reducible apply d_iTup); (focus (walk_at "hp"; done)))
  | with_reducible apply d_iStr
  | ((with_reducible apply d_iRng1); (focus (walk_at "num"; done)); (focus (walk_at "num"; done)))
  | ((with_reducible apply d_iRng2); (focus (walk_at "num"; done)); (focus (walk_at "num"; done)); (focus (walk_at "num"; done)); (focus (walk_at "num"; done)))
  | ((with_reducible apply d_iZip); (focus (walk_at "sq"; done)); (focus (walk_at "sq"; done)))
  | ((with_reducible apply d_iEnum); (focus (walk_at "sq"; done)))
  | walk_at "w2")
local macro_rules | `(tactic| walk_at "w2") => `(tactic| fail)
local macro_rules | `(tactic| walk_at "wn") => `(tactic| repeat walk_at "w1")
local macro_rules | `(tactic| walk_at "w") => `(tactic| repeat (first | walk_at "w1" | with_reducible apply w_ret))

local macro_rules | `(tactic| walk_at "w2") => `(tactic| first
  | ((with_reducible apply w_isInt); (focus (walk_at "r"; done)))
  | ((with_reducible apply w_isBool); (focus (walk_at "r"; done)))
  | ((with_reducible apply w_isStr); (focus (walk_at "r"; done)))
  | ((with_reducible apply w_isTup); (focus (walk_at "r"; done)))
  | ((with_reducible apply w_isLst); (focus (walk_at "r"; done)))
  | with_reducible apply w_fld
  | with_reducible apply w_sfld
  | with_reducible apply w_faug
  | with_reducible apply w_rAdd
  | with_reducible apply w_rSub
  | with_reducible apply w_make
  | with_reducible apply w_orT
  | with_reducible apply w_dgetd
  | with_reducible apply w_dgetk
  | with_reducible apply w_dsetd
  | ((with_reducible apply k_dgetd); (focus (walk_at "hp"; done)))
  | ((with_reducible apply k_dsetd); (focus (walk_at "hp"; done)))
  | walk_at "w3")
local macro_rules | `(tactic| walk_at "w3") => `(tactic| fail)

def sp_reckon (n : Nat) : Sp := fun vs H Q _ => ∃ (v : V) (e : Ex) (g : Int) (dc : Addr) (cs : Cells) (ak : V) (as : Option (List Int)), vs = [v, .int g, .ref dc, ak] ∧ Im H v e.data ∧ e.deep ≤ n ∧ H dc = some (.dK (cK cs)) ∧ Ask H ak as ∧ (∀ xs, as = some xs → xs.length + 2 ^ e.deep ≤ 1000) ∧
  ∀ H', Chg (akL ak) H H' → Ask H' ak (as.map (· ++ e.asked g cs)) → Q (.int (e.worth g cs)) H'
theorem no_reckon (vs : List V) (H : Hp) (Q : VK) (E : XK) : ¬ sp_reckon 0 vs H Q E := by
  rintro ⟨v, e, g, dc, cs, ak, as, _, _, h, _⟩
  have := e.deep_pos
  omega
def t_reckon (K : PySem.W.Frag) (n : Nat) : TS :=
    tSeq (tIfS (tB (tCB (rIsi K) (tCons (tVar 0) (tCons (tC (.ty "int")) (tNil))))) (tRet (tVar 0)) (tNext))
    (tSeq (tAsg (tOp (rIxT K) (tVar 0) (tC (.int 0))) (gName 4))
    (tSeq (tIfS (tTest (tOp rEq (tVar 4) (tC (.str "arg")))) (tRet (tVar 1)) (tNext))
    (tSeq (tAsg (tCall (sp_reckon n) [] E0 (tCons (tOp (rIxT K) (tVar 0) (tC (.int 1))) (tCons (tVar 1) (tCons (tVar 2) (tCons (tVar 3) (tNil)))))) (gName 5))
    (tSeq (tIfS (tTest (tOp rEq (tVar 4) (tC (.str "cell")))) (tSeq (tIfS (tTest (tOp oNotN (tVar 3) (tC .non))) (tDrop (tBM K "list" rAppend (tVar 3) (tCons (tVar 5) (tNil)))) (tNext))
    (tRet (tDGet2 (tVar 2) (tVar 5) (tC (.int 0))))) (tNext))
    (tSeq (tAsg (tCall (sp_reckon n) [] E0 (tCons (tOp (rIxT K) (tVar 0) (tC (.int 2))) (tCons (tVar 1) (tCons (tVar 2) (tCons (tVar 3) (tNil)))))) (gName 6))
    (tSeq (tIfS (tTest (tOp rEq (tVar 4) (tC (.str "add")))) (tRet (tOp oAdd (tVar 5) (tVar 6))) (tNext))
    (tSeq (tIfS (tTest (tOp rEq (tVar 4) (tC (.str "less")))) (tRet (tOp oSub (tVar 5) (tVar 6))) (tNext))
    (tRet (tCB cMin (tCons (tVar 5) (tCons (tVar 6) (tNil))))))))))))
theorem ask_nil {as : Option (List Int)} : as.map (· ++ []) = as := by
  cases as with
  | none => rfl
  | some xs => show some (xs ++ []) = some xs; rw [List.append_nil]
theorem ask_two {as : Option (List Int)} {xs ys : List Int} : (as.map (· ++ xs)).map (· ++ ys) = as.map (· ++ (xs ++ ys)) := by
  cases as with
  | none => rfl
  | some zs => show some ((zs ++ xs) ++ ys) = some (zs ++ (xs ++ ys)); rw [List.append_assoc]
theorem im_tup {H : Hp} {v : V} {ds : List PyData} (r : Im H v (.tuple ds)) : ∃ a xs, v = .ref a ∧ H a = some (.tup xs) ∧ ImA H xs ds := by
  cases r with
  | tup e ra => exact ⟨_, _, rfl, e, ra⟩
theorem imA2 {H : Hp} {xs : List V} {d1 d2 : PyData} (r : ImA H xs [d1, d2]) : ∃ x y, xs = [x, y] ∧ Im H x d1 ∧ Im H y d2 := by
  cases r with
  | cons a r =>
    cases r with
    | cons b r => cases r; exact ⟨_, _, rfl, a, b⟩
theorem imA3 {H : Hp} {xs : List V} {d1 d2 d3 : PyData} (r : ImA H xs [d1, d2, d3]) : ∃ x y z, xs = [x, y, z] ∧ Im H x d1 ∧ Im H y d2 ∧ Im H z d3 := by
  cases r with
  | cons a r =>
    obtain ⟨y, z, rfl, h2, h3⟩ := imA2 r
    exact ⟨_, y, z, rfl, a, h2, h3⟩
theorem im_str {H : Hp} {v : V} {x : Str} (r : Im H v (.str x)) : v = .str x := by cases r; rfl
theorem im_int {H : Hp} {v : V} {i : Int} (r : Im H v (.int i)) : v = .int i := by cases r; rfl
theorem pure_reckon {K : PySem.W.Frag} (n : Nat) (vs : List V) (H : Hp) (Q : VK) (E : XK) (h : sp_reckon (n + 1) vs H Q E) : t_reckon K n (fin Q) (start ["expression", "arg", "cells", "asked", "word", "one", "other"] vs) H := by
  obtain ⟨v, e, g, dc, cs, ak, as, rfl, r, de, hd, ask, room, q⟩ := h
  show t_reckon K n _ [some v, some (.int g), some (.ref dc), some ak, none, none, none] H
  unfold t_reckon
  cases e with
  | num i =>
    have e0 := im_int r
    subst e0
    walk_at "w"
    exact q H .refl (by rw [show (Ex.num i).asked g cs = [] from rfl, ask_nil]; exact ask)
  | arg =>
    obtain ⟨a, xs, rfl, ha, ra⟩ := im_tup r
    cases ra with
    | cons r1 rn =>
      cases rn
      have e0 := im_str r1
      subst e0
      walk_at "w"
      exact q H .refl (by rw [show (Ex.arg).asked g cs = [] from rfl, ask_nil]; exact ask)
  | cell e1 =>
    obtain ⟨a, xs, rfl, ha, ra⟩ := im_tup r
    obtain ⟨x, y, rfl, r1, r2⟩ := imA2 ra
    have e0 := im_str r1
    subst e0
    have d1 : e1.deep + 1 ≤ n + 1 := de
    have p1 : 2 ^ (e1.deep + 1) = 2 * 2 ^ e1.deep := by rw [Nat.pow_succ]; omega
    walk_at "w"
    refine ⟨y, e1, g, dc, cs, ak, as, rfl, r2, by omega, hd, ask, fun xs hx => by have := room xs hx; rw [show (Ex.cell e1).deep = e1.deep + 1 from rfl] at this; omega, fun H1 c1 ask1 => ?_⟩
    have hd1 := c1.keep _ _ hd (ask.ne hd)
    walk_at "w"
    rcases ask1 with ⟨rfl, e2⟩ | ⟨l, zs, rfl, e2, hl⟩
    · walk_at "w"
      refine ⟨_, .k (k := Sum.inl (e1.worth g cs)) hd1, ?_⟩
      rw [getD_cK]
      refine q H1 c1 (.inl ⟨rfl, ?_⟩)
      cases as with
      | none => rfl
      | some _ => cases e2
    · walk_at "w"
      obtain ⟨as0, rfl⟩ : ∃ as0, as = some as0 := by
        cases as with
        | none => cases e2
        | some a => exact ⟨a, rfl⟩
      have e3 := Option.some.inj e2
      have hlen := room as0 rfl
      have hle := Ex.asked_len g cs e1
      have hp : 2 ^ (e1.deep - 1) ≤ 2 ^ e1.deep := Nat.pow_le_pow_right (by decide) (Nat.sub_le _ _)
      rw [show (Ex.cell e1).deep = e1.deep + 1 from rfl] at hlen
      have lz : zs.length ≤ 1000 := by
        rw [← e3, List.length_append]
        omega
      refine w_append hl (by rw [List.length_map]; walk_at "sz") fun H2 c2 hl2 => ?_
      have nd : dc ≠ l := fun z => by rw [z, hl] at hd1; cases hd1
      have hd2 := c2.at1 hd1 nd
      walk_at "w"
      refine ⟨_, .k (k := Sum.inl (e1.worth g cs)) hd2, ?_⟩
      rw [getD_cK]
      refine q H2 (c1.both c2) (.inr ⟨l, zs ++ [e1.worth g cs], rfl, ?_, by rw [List.map_append]; exact hl2⟩)
      rw [← e3]
      show some (as0 ++ (e1.asked g cs ++ [e1.worth g cs])) = _
      rw [List.append_assoc]
  | add e1 e2 =>
    obtain ⟨a, xs, rfl, ha, ra⟩ := im_tup r
    obtain ⟨x, y, z, rfl, r1, r2, r3⟩ := imA3 ra
    have e0 := im_str r1
    subst e0
    have d1 : max e1.deep e2.deep + 1 ≤ n + 1 := de
    have p1 : 2 ^ (max e1.deep e2.deep + 1) = 2 * 2 ^ max e1.deep e2.deep := by rw [Nat.pow_succ]; omega
    have p2 : 2 ^ e1.deep ≤ 2 ^ max e1.deep e2.deep := Nat.pow_le_pow_right (by decide) (Nat.le_max_left _ _)
    have p3 : 2 ^ e2.deep ≤ 2 ^ max e1.deep e2.deep := Nat.pow_le_pow_right (by decide) (Nat.le_max_right _ _)
    have p4 : 2 ^ (e1.deep - 1) ≤ 2 ^ e1.deep := Nat.pow_le_pow_right (by decide) (Nat.sub_le _ _)
    have room' : ∀ xs, as = some xs → xs.length + 2 ^ (max e1.deep e2.deep + 1) ≤ 1000 := room
    walk_at "w"
    refine ⟨y, e1, g, dc, cs, ak, as, rfl, r2, by omega, hd, ask, fun xs hx => by have := room' xs hx; omega, fun H1 c1 ask1 => ?_⟩
    have hd1 := c1.keep _ _ hd (ask.ne hd)
    have ha1 := c1.tup _ _ ha
    have r31 := r3.im c1
    walk_at "w"
    refine ⟨z, e2, g, dc, cs, ak, _, rfl, r31, by omega, hd1, ask1, fun xs hx => ?_, fun H2 c2 ask2 => ?_⟩
    · cases as with
      | none => cases hx
      | some as0 =>
        have e3 : as0 ++ e1.asked g cs = xs := Option.some.inj hx
        have hle := Ex.asked_len g cs e1
        have := room' as0 rfl
        rw [← e3, List.length_append]
        omega
    rw [ask_two] at ask2
    walk_at "w"
    exact q H2 (c1.both c2) ask2
  | less e1 e2 =>
    obtain ⟨a, xs, rfl, ha, ra⟩ := im_tup r
    obtain ⟨x, y, z, rfl, r1, r2, r3⟩ := imA3 ra
    have e0 := im_str r1
    subst e0
    have d1 : max e1.deep e2.deep + 1 ≤ n + 1 := de
    have p1 : 2 ^ (max e1.deep e2.deep + 1) = 2 * 2 ^ max e1.deep e2.deep := by rw [Nat.pow_succ]; omega
    have p2 : 2 ^ e1.deep ≤ 2 ^ max e1.deep e2.deep := Nat.pow_le_pow_right (by decide) (Nat.le_max_left _ _)
    have p3 : 2 ^ e2.deep ≤ 2 ^ max e1.deep e2.deep := Nat.pow_le_pow_right (by decide) (Nat.le_max_right _ _)
    have p4 : 2 ^ (e1.deep - 1) ≤ 2 ^ e1.deep := Nat.pow_le_pow_right (by decide) (Nat.sub_le _ _)
    have room' : ∀ xs, as = some xs → xs.length + 2 ^ (max e1.deep e2.deep + 1) ≤ 1000 := room
    walk_at "w"
    refine ⟨y, e1, g, dc, cs, ak, as, rfl, r2, by omega, hd, ask, fun xs hx => by have := room' xs hx; omega, fun H1 c1 ask1 => ?_⟩
    have hd1 := c1.keep _ _ hd (ask.ne hd)
    have ha1 := c1.tup _ _ ha
    have r31 := r3.im c1
    walk_at "w"
    refine ⟨z, e2, g, dc, cs, ak, _, rfl, r31, by omega, hd1, ask1, fun xs hx => ?_, fun H2 c2 ask2 => ?_⟩
    · cases as with
      | none => cases hx
      | some as0 =>
        have e3 : as0 ++ e1.asked g cs = xs := Option.some.inj hx
        have hle := Ex.asked_len g cs e1
        have := room' as0 rfl
        rw [← e3, List.length_append]
        omega
    rw [ask_two] at ask2
    walk_at "w"
    exact q H2 (c1.both c2) ask2
  | least e1 e2 =>
    obtain ⟨a, xs, rfl, ha, ra⟩ := im_tup r
    obtain ⟨x, y, z, rfl, r1, r2, r3⟩ := imA3 ra
    have e0 := im_str r1
    subst e0
    have d1 : max e1.deep e2.deep + 1 ≤ n + 1 := de
    have p1 : 2 ^ (max e1.deep e2.deep + 1) = 2 * 2 ^ max e1.deep e2.deep := by rw [Nat.pow_succ]; omega
    have p2 : 2 ^ e1.deep ≤ 2 ^ max e1.deep e2.deep := Nat.pow_le_pow_right (by decide) (Nat.le_max_left _ _)
    have p3 : 2 ^ e2.deep ≤ 2 ^ max e1.deep e2.deep := Nat.pow_le_pow_right (by decide) (Nat.le_max_right _ _)
    have p4 : 2 ^ (e1.deep - 1) ≤ 2 ^ e1.deep := Nat.pow_le_pow_right (by decide) (Nat.sub_le _ _)
    have room' : ∀ xs, as = some xs → xs.length + 2 ^ (max e1.deep e2.deep + 1) ≤ 1000 := room
    walk_at "w"
    refine ⟨y, e1, g, dc, cs, ak, as, rfl, r2, by omega, hd, ask, fun xs hx => by have := room' xs hx; omega, fun H1 c1 ask1 => ?_⟩
    have hd1 := c1.keep _ _ hd (ask.ne hd)
    have ha1 := c1.tup _ _ ha
    have r31 := r3.im c1
    walk_at "w"
    refine ⟨z, e2, g, dc, cs, ak, _, rfl, r31, by omega, hd1, ask1, fun xs hx => ?_, fun H2 c2 ask2 => ?_⟩
    · cases as with
      | none => cases hx
      | some as0 =>
        have e3 : as0 ++ e1.asked g cs = xs := Option.some.inj hx
        have hle := Ex.asked_len g cs e1
        have := room' as0 rfl
        rw [← e3, List.length_append]
        omega
    rw [ask_two] at ask2
    walk_at "w"
    exact q H2 (c1.both c2) ask2
end Fg
namespace Fg
open PySem PySem.Spec PyProof.Rows L2
/-! ### comprehensions with a test: each turn changes M at most; Ac tells what the list is behind i turns -/
def LfP (H : Hp) (M : List Addr) (D : Addr) (Ac : Nat → List V → Prop) (i : Nat) : Hp → Prop := fun H5 => ∃ acc, acc.length ≤ i ∧ H5 D = some (.lst acc) ∧ Chg M H H5 ∧ Ac i acc
def LfK (H : Hp) (M : List Addr) (D : Addr) (Ac : Nat → List V → Prop) (i : Nat) : VK := fun y H4 => ∃ acc, H4 D = some (.lst acc) ∧ acc.length < sizeLine ∧ LfP H M D Ac (i + 1) (upd H4 D (.lst (acc ++ [y])))
theorem lf_yes {H H4 : Hp} {M : List Addr} {D : Addr} {Ac : Nat → List V → Prop} {i : Nat} {acc : List V} {y : V} (nD : H D = none) (h : H4 D = some (.lst acc)) (hl : acc.length ≤ i) (hz : i ≤ 100000) (c : Chg M H H4) (q : Ac (i + 1) (acc ++ [y])) : LfK H M D Ac i y H4 :=
  ⟨acc, h, Nat.lt_of_le_of_lt (Nat.le_trans hl hz) (by decide), acc ++ [y], by rw [List.length_append, List.length_singleton]; omega, upd_same, c.go (Chg.mut h fun _ e => nomatch e) fun a ha => .inr (by rw [List.mem_singleton.mp ha]; exact nD), q⟩
theorem lf_no {H H4 : Hp} {M : List Addr} {D : Addr} {Ac : Nat → List V → Prop} {i : Nat} {acc : List V} (h : H4 D = some (.lst acc)) (hl : acc.length ≤ i) (c : Chg M H H4) (q : Ac (i + 1) acc) : LfP H M D Ac (i + 1) H4 := ⟨acc, by omega, h, c, q⟩
theorem w_lcF {J : It} {n : Nat} {G : Hp → Prop} {Y : Nat → Hp → V → Hp → Prop} {g : TG} {te : TE} {tt : TT} {vs : List Nat} {σ : L2.St} {H : Hp} {Q : Addr → Hp → Prop} (w : L2.Walk J n G Y) (M : List Addr) (Ac : Nat → List V → Prop)
    (h0 : Ac 0 []) (hG : ∀ H1, Chg M H H1 → G H1)
    (hs : ∀ D i acc x H1 H2, i < n → H D = none → H1 D = some (.lst acc) → acc.length ≤ i → Ac i acc → Chg M H H1 → Y i H1 x H2 → g x (wipe σ vs) H2 fun σ2 H3 => wipe σ2 vs = wipe σ vs ∧
      tt σ2 H3 fun b H3 => if b = true then te σ2 H3 (LfK H M D Ac i) else LfP H M D Ac (i + 1) H3)
    (hd : ∀ D acc H1, H D = none → Chg M H H1 → acc.length ≤ n → H1 D = some (.lst acc) → Ac n acc → Q D H1) :
    ∀ D, H D = none → ∃ W : Nat → Nat → Hp → Prop, (∃ m, W 0 m (upd H D (.lst []))) ∧ ∀ i m H, W i m H →
      (J.stop i H ∧ Q D H) ∨ (J.go i H ∧ ∃ Nx : Hp → Prop, (∀ H', Nx H' → ∃ m', m' < m ∧ W (i + 1) m' H') ∧ ∀ x H', J.yld i H x H' → g x (wipe σ vs) H' fun σ2 H2 => wipe σ2 vs = wipe σ vs ∧ tt σ2 H2 fun b H3 =>
        if b = true then te σ2 H3 fun y H4 => ∃ acc, H4 D = some (.lst acc) ∧ acc.length < sizeLine ∧ Nx (upd H4 D (.lst (acc ++ [y]))) else Nx H3) := by
  intro D nD
  refine lc_it w (Qd := fun H => Q D H) (LfP H M D Ac) ⟨[], Nat.le_refl _, upd_same, (Chg.new nD).wide (by simp), h0⟩ (fun i H1 hi ⟨acc, _, _, c, _⟩ => hG H1 c) (fun i x H1 H2 hi hp y => ?_) (fun H1 ⟨acc, e, h, c, q⟩ => hd D acc H1 nD c e h q)
  obtain ⟨acc, e, h, c, q⟩ := hp
  exact hs D i acc x H1 H2 hi nD h e q c y
end Fg
--LAW k07
namespace Fg
open PySem PySem.Spec PyProof.Rows L2
/-! ### the walk's small steps -/
local macro_rules | `(tactic| walk_at "hp") => `(tactic| first
  | assumption
  | exact upd_same
  | (refine Chg.at (by assumption) ?_; walk_at "hp")
  | (refine Chg.at1 (by assumption) ?_ (by walk_at "ne"); walk_at "hp"))
local macro_rules | `(tactic| walk_at "ne") => `(tactic| first | assumption | (apply Ne.symm; assumption))
local macro_rules | `(tactic| walk_at "sq") => `(tactic| first | assumption | exact sqL (by walk_at "hp") | (refine Chg.seq (by assumption) ?_; walk_at "sq"))
local macro_rules | `(tactic| walk_at "sz") => `(tactic| first | assumption | exact Nat.zero_le _ | (simp only [List.length_cons, List.length_nil]; decide) | exact Nat.le_trans (by first | omega | (simp; done) | (simp; omega)) (show 100000 ≤ sizeLine by decide) | exact Nat.lt_of_lt_of_le (by first | omega | (simp; done) | (simp; omega)) (show 100000 ≤ sizeLine by decide))
local macro_rules | `(tactic| walk_at "ix") => `(tactic| first | exact at0 | exact at1 | exact at2 | exact at3 | assumption | exact rfl | walk_at "ix2")
local macro_rules | `(tactic| walk_at "ix2") => `(tactic| fail)
local macro_rules | `(tactic| walk_at "num") => `(tactic| first | assumption | omega | decide | walk_at "num2")
local macro_rules | `(tactic| walk_at "num2") => `(tactic| fail)
local macro_rules | `(tactic| walk_at "im") => `(tactic| first | assumption | exact R.non (S := fun _ => False) | exact R.bl (S := fun _ => False) _ | exact R.int (S := fun _ => False) _ | exact R.str (S := fun _ => False) _ | (refine R.im (by assumption) ?_; walk_at "im"))
local macro_rules | `(tactic| walk_at "r") => `(tactic| first | assumption | exact R.non (S := fun _ => False) | exact R.bl (S := fun _ => False) _ | exact R.int (S := fun _ => False) _ | exact R.str (S := fun _ => False) _ | (refine R.same (by assumption) ?_; walk_at "r") | exact R.any (by walk_at "im"))
local macro_rules | `(tactic| walk_at "chg") => `(tactic| first
  | exact Chg.refl
  | assumption
  | (refine Chg.same ?_ (by assumption); walk_at "chg")
  | (refine Chg.both ?_ (by assumption); walk_at "chg")
  | (refine Chg.pre (by assumption) ?_; walk_at "chg"))
local macro_rules | `(tactic| walk_at "w1") => `(tactic| first
  | with_reducible apply w_seq
  | with_reducible apply w_asg
  | ((with_reducible apply w_var); (focus (exact rfl)))
  | with_reducible apply w_c
  | with_reducible apply w_op
  | with_reducible apply w_cons
  | with_reducible apply w_nil
  | with_reducible apply w_gName
  | with_reducible apply w_if
  | with_reducible apply w_test
  | with_reducible apply w_B
  | with_reducible apply w_isbl
  | with_reducible apply w_retN
  | with_reducible apply w_next
  | with_reducible apply w_drop
  | with_reducible apply w_cb
  | with_reducible apply w_call
  | with_reducible apply w_callN
  | with_reducible apply w_bm
  | with_reducible apply w_bm0
  | ((with_reducible apply w_tyL); (focus (walk_at "hp"; done)))
  | with_reducible apply w_dput
  | with_reducible apply w_m1
  | with_reducible apply w_isstr
  | with_reducible apply w_and
  | with_reducible apply w_or
  | with_reducible apply w_not
  | with_reducible apply w_andV
  | with_reducible apply w_orV
  | with_reducible apply w_notV
  | with_reducible apply w_ifE
  | with_reducible apply w_chain
  | with_reducible apply w_un
  | with_reducible apply w_neg
  | with_reducible apply w_add
  | with_reducible apply w_sub
  | ((with_reducible apply w_mod); (focus (walk_at "num"; done)))
  | ((with_reducible apply w_mul); (focus (walk_at "num"; done)))
  | ((with_reducible apply w_fdiv); (focus (walk_at "num"; done)))
  | ((with_reducible apply w_pow); (focus (walk_at "num"; done)))
  | with_reducible apply w_lt
  | with_reducible apply w_le
  | with_reducible apply w_gt
  | with_reducible apply w_ge
  | with_reducible apply w_ltS
  | with_reducible apply w_geS
  | with_reducible apply w_inC
  | with_reducible apply w_notInC
  | with_reducible apply w_isN
  | with_reducible apply w_notN
  | with_reducible apply w_isB
  | with_reducible apply w_notB
  | ((with_reducible apply w_addS); (focus (walk_at "sz"; done)))
  | ((with_reducible apply w_ixL); (focus (walk_at "sq"; done)); (focus (walk_at "ix"; done)))
  | ((with_reducible apply w_ixT); (focus (walk_at "hp"; done)); (focus (walk_at "ix"; done)))
  | ((with_reducible apply w_ixS); (focus (walk_at "sz"; done)); (focus (walk_at "ix"; done)))
  | with_reducible apply w_gSub
  | ((with_reducible apply w_gTup); (focus (walk_at "hp"; done)); (focus (exact rfl)))
  | with_reducible apply w_gCons
  | with_reducible apply w_gNil
  | ((with_reducible apply w_aug); (focus (exact rfl)))
  | with_reducible apply w_ipI
  | ((with_reducible apply w_eq); (focus (exact rfl)))
  | ((with_reducible apply w_ne); (focus (exact rfl)))
  | with_reducible apply w_max
  | with_reducible apply w_min
  | with_reducible apply w_abs
  | with_reducible apply w_intB
  | with_reducible apply w_intI
  | with_reducible apply w_tup1
  | with_reducible apply w_lst1
  | with_reducible apply w_sl
  | with_reducible apply w_part
  | with_reducible apply w_noPart
  | with_reducible apply w_isint
  | ((with_reducible apply w_slS); (focus (walk_at "sz"; done)))
  | with_reducible apply w_iteT
  | with_reducible apply w_iteF
  | with_reducible apply w_iteN
  | ((with_reducible apply w_iteYes); (focus (exact rfl)))
  | ((with_reducible apply w_iteNo); (focus (exact rfl)))
  | ((with_reducible apply w_lenL); (focus (walk_at "sq"; done)))
  | ((with_reducible apply w_lenT); (focus (walk_at "hp"; done)))
  | ((with_reducible apply w_lenS); (focus (walk_at "sz"; done)))
  | with_reducible apply w_lc
  | with_reducible apply w_for
  | with_reducible apply w_yes
  | ((with_reducible apply w_wipe); (focus (exact rfl)))
  | with_reducible apply w_iList
  | with_reducible apply w_iTup
  | with_reducible apply w_iStr
  | with_reducible apply w_iRng1
  | with_reducible apply w_iRng2
  | with_reducible apply w_iZip
  | with_reducible apply w_iEnum
  | ((with_reducible apply d_iList); (focus (walk_at "sq"; done)))
  | ((with_reducible apply d_iTup); (focus (walk_at "hp"; done)))
  | with_reducible apply d_iStr
  | ((with_reducible apply d_iRng1); (focus (walk_at "num"; done)); (focus (walk_at "num"; done)))
  | ((with_reducible apply d_iRng2); (focus (walk_at "num"; done)); (focus (walk_at "num"; done)); (focus (walk_at "num"; done)); (focus (walk_at "num"; done)))
  | ((with_reducible apply d_iZip); (focus (walk_at "sq"; done)); (focus (walk_at "sq"; done)))
  | ((with_reducible apply d_iEnum); (focus (walk_at "sq"; done)))
  | walk_at "w2")
local macro_rules | `(tactic| walk_at "w2") => `(tactic| fail)
local macro_rules | `(tactic| walk_at "wn") => `(tactic| repeat walk_at "w1")
local macro_rules | `(tactic| walk_at "w") => `(tactic| repeat (first | walk_at "w1" | with_reducible apply w_ret))

local macro_rules | `(tactic| walk_at "w2") => `(tactic| first
  | ((with_reducible apply w_isInt); (focus (walk_at "r"; done)))
  | ((with_reducible apply w_isBool); (focus (walk_at "r"; done)))
  | ((with_reducible apply w_isStr); (focus (walk_at "r"; done)))
  | ((with_reducible apply w_isTup); (focus (walk_at "r"; done)))
  | ((with_reducible apply w_isLst); (focus (walk_at "r"; done)))
  | with_reducible apply w_fld
  | with_reducible apply w_sfld
  | with_reducible apply w_faug
  | with_reducible apply w_rAdd
  | with_reducible apply w_rSub
  | with_reducible apply w_make
  | with_reducible apply w_orT
  | with_reducible apply w_dgetd
  | with_reducible apply w_dgetk
  | with_reducible apply w_dsetd
  | ((with_reducible apply k_dgetd); (focus (walk_at "hp"; done)))
  | ((with_reducible apply k_dsetd); (focus (walk_at "hp"; done)))
  | walk_at "w3")
local macro_rules | `(tactic| walk_at "w3") => `(tactic| fail)

/-! ### new instances -/
structure CFs (K : PySem.W.Frag) : Prop where
  fr : C_Frame K
  rc : C_Record K
  oc : C_Outcome K
def sp_Frame___init__ (K : PySem.W.Frag) : Sp := fun vs H Q _ => ∃ (x dx : Addr) (v1 v2 v3 v4 : V), vs = [.ref x, v1, v2, v3, v4] ∧ H x = some (.ins (He.ga K "Frame") dx []) ∧ ∀ H', Chg [x] H H' → H' x = some (O_Frame K dx v1 v2 v3 v4 (.int 0) (.int 0) (.int 0)) → Q .non H'
def t_Frame___init__ (K : PySem.W.Frag) : TS :=
    tSeq (sFld K (tVar 0) (tVar 1) "number")
    (tSeq (sFld K (tVar 0) (tVar 2) "path")
    (tSeq (sFld K (tVar 0) (tVar 3) "rows")
    (tSeq (sFld K (tVar 0) (tVar 4) "arg")
    (tSeq (sFld K (tVar 0) (tC (.int 0)) "at")
    (tSeq (sFld K (tVar 0) (tC (.int 0)) "past")
    (sFld K (tVar 0) (tC (.int 0)) "born"))))))
theorem pure_Frame___init__ {K : PySem.W.Frag} (CF : CFs K) (vs : List V) (H : Hp) (Q : VK) (E : XK) (h : sp_Frame___init__ K vs H Q E) : t_Frame___init__ K (fin Q) (start ["self", "number", "path", "rows", "arg"] vs) H := by
  obtain ⟨x, dx, v1, v2, v3, v4, rfl, hx, q⟩ := h
  show t_Frame___init__ K _ [some (.ref x), some v1, some v2, some v3, some v4] H
  unfold t_Frame___init__
  walk_at "w"
  refine n_Frame_number CF.fr hx fun H1 c1 h1 => ?_
  walk_at "w"
  refine n_Frame_path CF.fr h1 fun H2 c2 h2 => ?_
  walk_at "w"
  refine n_Frame_rows CF.fr h2 fun H3 c3 h3 => ?_
  walk_at "w"
  refine n_Frame_arg CF.fr h3 fun H4 c4 h4 => ?_
  walk_at "w"
  refine n_Frame_at CF.fr h4 fun H5 c5 h5 => ?_
  walk_at "w"
  refine n_Frame_past CF.fr h5 fun H6 c6 h6 => ?_
  walk_at "w"
  refine n_Frame_born CF.fr h6 fun H7 c7 h7 => ?_
  exact q H7 ((((((c1.both c2).both c3).both c4).both c5).both c6).both c7) h7
def sp_Record___init__ (K : PySem.W.Frag) : Sp := fun vs H Q _ => ∃ (x dx : Addr) (v1 v2 v3 v4 : V), vs = [.ref x, v1, v2, v3, v4] ∧ H x = some (.ins (He.ga K "Record") dx []) ∧ ∀ p H', H p = none → Chg [x] H H' → H' p = some (.lst []) → H' x = some (O_Record K dx v1 v2 v3 .non v4 (.ref p)) → Q .non H'
def t_Record___init__ (K : PySem.W.Frag) : TS :=
    tSeq (sFld K (tVar 0) (tVar 1) "mark")
    (tSeq (sFld K (tVar 0) (tVar 2) "word")
    (tSeq (sFld K (tVar 0) (tVar 3) "doer")
    (tSeq (sFld K (tVar 0) (tC .non) "child")
    (tSeq (sFld K (tVar 0) (tVar 4) "reads")
    (sFld K (tVar 0) (tLst (tNil)) "writes")))))
theorem pure_Record___init__ {K : PySem.W.Frag} (CF : CFs K) (vs : List V) (H : Hp) (Q : VK) (E : XK) (h : sp_Record___init__ K vs H Q E) : t_Record___init__ K (fin Q) (start ["self", "mark", "word", "doer", "reads"] vs) H := by
  obtain ⟨x, dx, v1, v2, v3, v4, rfl, hx, q⟩ := h
  show t_Record___init__ K _ [some (.ref x), some v1, some v2, some v3, some v4] H
  unfold t_Record___init__
  walk_at "w"
  refine n_Record_mark CF.rc hx fun H1 c1 h1 => ?_
  walk_at "w"
  refine n_Record_word CF.rc h1 fun H2 c2 h2 => ?_
  walk_at "w"
  refine n_Record_doer CF.rc h2 fun H3 c3 h3 => ?_
  walk_at "w"
  refine n_Record_child CF.rc h3 fun H4 c4 h4 => ?_
  walk_at "w"
  refine n_Record_reads CF.rc h4 fun H5 c5 h5 => ?_
  walk_at "w"
  refine k_lst (by walk_at "sz") fun p H6 np c6 hp => ?_
  walk_at "w"
  have c05 : Chg [x] H H5 := (((c1.both c2).both c3).both c4).both c5
  refine n_Record_writes CF.rc (c6.at h5) fun H7 c7 h7 => ?_
  have ne : p ≠ x := fun z => by rw [z, h5] at np; cases np
  exact q p H7 (c05.dom p np) ((c05.same c6).both c7) (c7.at1 hp ne) h7
/-! ### the cells at the start -/
def pairD (c : Int × Int) : PyData := .tuple [.int c.1, .int c.2]
def CellsAt (H : Hp) (cv : V) (cs : Cells) : Prop := (cv = .non ∧ cs = []) ∨ ∃ (l : Addr) (xs : List V), cv = .ref l ∧ H l = some (.lst xs) ∧ ImA H xs (cs.map pairD)
theorem CellsAt.same {H H' : Hp} {cv : V} {cs : Cells} (c : Chg [] H H') (h : CellsAt H cv cs) : CellsAt H' cv cs := by
  rcases h with h | ⟨l, xs, h1, h2, h3⟩
  · exact .inl h
  · exact .inr ⟨l, xs, h1, c.at h2, h3.im c⟩
theorem pair_at {H : Hp} {xs : List V} {cs : Cells} {i : Nat} {x : V} (r : ImA H xs (cs.map pairD)) (ex : xs[i]? = some x) : ∃ T c, cs[i]? = some c ∧ x = .ref T ∧ H T = some (.tup [.int c.1, .int c.2]) := by
  obtain ⟨d, ed, rd⟩ := r.get ex
  rw [List.getElem?_map] at ed
  cases hc : cs[i]? with
  | none => rw [hc] at ed; cases ed
  | some c =>
    rw [hc] at ed
    cases ed
    obtain ⟨T, ys, rfl, hT, ra⟩ := im_tup rd
    obtain ⟨a, b, rfl, r1, r2⟩ := imA2 ra
    rw [im_int r1, im_int r2] at hT
    exact ⟨T, c, rfl, rfl, hT⟩
theorem cPut_len (cs : Cells) (i v : Int) : (cPut cs i v).length ≤ cs.length + 1 := by
  unfold cPut
  split
  · rw [List.length_map]; omega
  · rw [List.length_append, List.length_singleton]; omega
def sp_start_cells : Sp := fun vs H Q _ => ∃ (cv : V) (cs : Cells), vs = [cv] ∧ CellsAt H cv cs ∧ cs.length ≤ 10000 ∧ ∀ d H', H d = none → Chg [] H H' → H' d = some (.dK (cK (cStart cs))) → Q (.ref d) H'
def t_start_cells (K : PySem.W.Frag) : TS :=
    tSeq (tAsg (tDNewK) (gName 1))
    (tSeq (tFor (iList K (tOrT K (tVar 0) (tLst (tNil)))) (gTup K 2 (gCons (gName 2) (gCons (gName 3) (gNil)))) (sDPut (tVar 1) (tVar 2) (tVar 3)))
    (tRet (tVar 1)))
theorem pure_start_cells {K : PySem.W.Frag} (vs : List V) (H : Hp) (Q : VK) (E : XK) (h : sp_start_cells vs H Q E) : t_start_cells K (fin Q) (start ["cells", "found", "cell", "number"] vs) H := by
  obtain ⟨cv, cs, rfl, ca, lc, q⟩ := h
  show t_start_cells K _ [some cv, none, none, none] H
  unfold t_start_cells
  walk_at "w"
  refine w_dnewK fun d H1 nd c1 hd => ?_
  walk_at "w"
  have loop : ∀ (L : Addr) (xs : List V) (H2 : Hp) (W : L2.St → Hp → Prop), Chg [] H H2 → H2 d = some (.dK []) → H2 L = some (.lst xs) → L ≠ d → ImA H2 xs (cs.map pairD) → (∀ σ H', Chg [] H H' → H' d = some (.dK (cK (cStart cs))) → (∃ y1 y2, σ = [some cv, some (.ref d), y1, y2]) → W σ H') → ∀ D : Ends, D.nx = W →
      ∃ WW : Nat → Nat → L2.St → Hp → Prop, (∃ m, WW 0 m [some cv, some (.ref d), none, none] H2) ∧ ∀ i m σ H, WW i m σ H → ((Itl K L).stop i H ∧ D.nx σ H) ∨ ((Itl K L).go i H ∧ ∃ N : L2.St → Hp → Prop, (∀ σ' H', N σ' H' → ∃ m', m' < m ∧ WW (i + 1) m' σ' H') ∧ ∀ x H', (Itl K L).yld i H x H' → gTup K 2 (gCons (gName 2) (gCons (gName 3) gNil)) x σ H' fun σ2 H2 => sDPut (tVar 1) (tVar 2) (tVar 3) { D with nx := N, ct := N, bk := D.nx } σ2 H2) := fun L xs H2 W c2 hd2 hL ne im hW D eD => by
    have lx : xs.length = cs.length := by rw [im.length, List.length_map]
    refine for_it (walk_list (K := K) (a := L) (xs := xs)) (fun i σ H3 => Chg [] H H3 ∧ Chg [d] H2 H3 ∧ H3 d = some (.dK (cK (cStart (cs.take i)))) ∧ (cStart (cs.take i)).length ≤ i ∧ ∃ y1 y2, σ = [some cv, some (.ref d), y1, y2]) ⟨c2, .refl, hd2, Nat.le_refl _, _, _, rfl⟩ (fun i σ H3 _ p => sqL (p.2.1.at1 hL ne)) (fun i x σ H3 H4 hi p y => ?_) (fun σ H3 p => ?_)
    · obtain ⟨c3, c23, hd3, l3, y1, y2, rfl⟩ := p
      obtain ⟨rfl, ex⟩ := y
      obtain ⟨T, c, ec, rfl, hT⟩ := pair_at (im.im c23) ex
      walk_at "w"
      refine d_dput (k := Sum.inl c.1) hd3 (by unfold cK; rw [List.length_map]; walk_at "sz") fun H5 c5 h5 => ?_
      rw [putK_cK] at h5
      have e : cStart (cs.take (i + 1)) = cPut (cStart (cs.take i)) c.1 c.2 := by
        rw [List.take_add_one, ec, Option.toList_some]
        unfold cStart
        rw [List.foldl_append]
        rfl
      have := cPut_len (cStart (cs.take i)) c.1 c.2
      refine ⟨c3.one c5 nd, c23.both c5, by rw [e]; exact h5, by rw [e]; omega, _, _, rfl⟩
    · obtain ⟨c3, c23, hd3, l3, y⟩ := p
      rw [lx, List.take_length] at hd3
      rw [eD]
      exact hW σ H3 c3 hd3 y
  have fin' : ∀ σ H', Chg [] H H' → H' d = some (.dK (cK (cStart cs))) → (∃ y1 y2, σ = [some cv, some (.ref d), y1, y2]) → tRet (tVar 1) (fin Q) σ H' := fun σ H' c hd' ⟨y1, y2, e⟩ => by
    subst e
    walk_at "w"
    exact q d H' nd c hd'
  rcases ca with ⟨rfl, rfl⟩ | ⟨l, xs, rfl, hl, im⟩
  · walk_at "w"
    refine k_orN ?_
    walk_at "w"
    refine k_lst (by walk_at "sz") fun L H2 nL c2 hL => ?_
    walk_at "w"
    exact loop L [] H2 _ (c1.same c2) (c2.at hd) hL (fun z => by rw [z, hd] at nL; cases nL) .nil fin' _ rfl
  · walk_at "w"
    refine k_orL (c1.at hl) (fun ne => ?_) (fun e => ?_)
    · walk_at "w"
      exact loop l xs H1 _ c1 hd (c1.at hl) (fun z => by rw [z, nd] at hl; cases hl) (im.im c1) fin' _ rfl
    · subst e
      walk_at "w"
      refine k_lst (by walk_at "sz") fun L H2 nL c2 hL => ?_
      walk_at "w"
      exact loop L [] H2 _ (c1.same c2) (c2.at hd) hL (fun z => by rw [z, hd] at nL; cases nL) (im.im (c1.same c2)) fin' _ rfl
end Fg
namespace Fg
open PySem PySem.Spec PyProof.Rows L2
/-! ### comprehensions with a test, by an invariant that speaks of the heap -/
def LgP (D : Addr) (Iv : Addr → Nat → List V → Hp → Prop) (i : Nat) : Hp → Prop := fun H5 => ∃ acc, acc.length ≤ i ∧ H5 D = some (.lst acc) ∧ Iv D i acc H5
def LgK (D : Addr) (Iv : Addr → Nat → List V → Hp → Prop) (i : Nat) : VK := fun y H4 => ∃ acc, H4 D = some (.lst acc) ∧ acc.length < sizeLine ∧ LgP D Iv (i + 1) (upd H4 D (.lst (acc ++ [y])))
theorem lg_yes {D : Addr} {Iv : Addr → Nat → List V → Hp → Prop} {i : Nat} {y : V} {H4 : Hp} {acc : List V} (h : H4 D = some (.lst acc)) (hl : acc.length ≤ i) (hz : i ≤ 100000) (q : ∀ H5, Chg [D] H4 H5 → H5 D = some (.lst (acc ++ [y])) → Iv D (i + 1) (acc ++ [y]) H5) : LgK D Iv i y H4 :=
  ⟨acc, h, Nat.lt_of_le_of_lt (Nat.le_trans hl hz) (by decide), acc ++ [y], by rw [List.length_append, List.length_singleton]; omega, upd_same, q _ (.mut h fun _ e => nomatch e) upd_same⟩
theorem lg_no {D : Addr} {Iv : Addr → Nat → List V → Hp → Prop} {i : Nat} {H4 : Hp} {acc : List V} (h : H4 D = some (.lst acc)) (hl : acc.length ≤ i) (q : Iv D (i + 1) acc H4) : LgP D Iv (i + 1) H4 := ⟨acc, by omega, h, q⟩
theorem w_lcG {J : It} {n : Nat} {G : Hp → Prop} {Y : Nat → Hp → V → Hp → Prop} {g : TG} {te : TE} {tt : TT} {vs : List Nat} {σ : L2.St} {H : Hp} {Q : Addr → Hp → Prop} (w : L2.Walk J n G Y) (Iv : Addr → Nat → List V → Hp → Prop)
    (h0 : ∀ D H1, H D = none → Chg [] H H1 → H1 D = some (.lst []) → Iv D 0 [] H1) (hG : ∀ D i acc H1, i ≤ n → H D = none → Iv D i acc H1 → G H1)
    (hs : ∀ D i acc x H1 H2, i < n → H D = none → H1 D = some (.lst acc) → acc.length ≤ i → Iv D i acc H1 → Y i H1 x H2 → g x (wipe σ vs) H2 fun σ2 H3 => wipe σ2 vs = wipe σ vs ∧
      tt σ2 H3 fun b H3 => if b = true then te σ2 H3 (LgK D Iv i) else LgP D Iv (i + 1) H3)
    (hd : ∀ D acc H1, H D = none → acc.length ≤ n → H1 D = some (.lst acc) → Iv D n acc H1 → Q D H1) :
    ∀ D, H D = none → ∃ W : Nat → Nat → Hp → Prop, (∃ m, W 0 m (upd H D (.lst []))) ∧ ∀ i m H, W i m H →
      (J.stop i H ∧ Q D H) ∨ (J.go i H ∧ ∃ Nx : Hp → Prop, (∀ H', Nx H' → ∃ m', m' < m ∧ W (i + 1) m' H') ∧ ∀ x H', J.yld i H x H' → g x (wipe σ vs) H' fun σ2 H2 => wipe σ2 vs = wipe σ vs ∧ tt σ2 H2 fun b H3 =>
        if b = true then te σ2 H3 fun y H4 => ∃ acc, H4 D = some (.lst acc) ∧ acc.length < sizeLine ∧ Nx (upd H4 D (.lst (acc ++ [y]))) else Nx H3) := by
  intro D nD
  refine lc_it w (Qd := fun H => Q D H) (LgP D Iv) ⟨[], Nat.le_refl _, upd_same, h0 D _ nD (.new nD) upd_same⟩ (fun i H1 hi ⟨acc, _, _, q⟩ => hG D i acc H1 hi nD q) (fun i x H1 H2 hi hp y => ?_) (fun H1 ⟨acc, e, h, q⟩ => hd D acc H1 nD e h q)
  obtain ⟨acc, e, h, q⟩ := hp
  exact hs D i acc x H1 H2 hi nD h e q y
end Fg
--LAW k07
namespace Fg
open PySem PySem.Spec PyProof.Rows L2
/-! ### the walk's small steps -/
local macro_rules | `(tactic| walk_at "hp") => `(tactic| first
  | assumption
  | exact upd_same
  | (refine Chg.at (by assumption) ?_; walk_at "hp")
  | (refine Chg.at1 (by assumption) ?_ (by walk_at "ne"); walk_at "hp"))
local macro_rules | `(tactic| walk_at "ne") => `(tactic| first | assumption | (apply Ne.symm; assumption))
local macro_rules | `(tactic| walk_at "sq") => `(tactic| first | assumption | exact sqL (by walk_at "hp") | (refine Chg.seq (by assumption) ?_; walk_at "sq"))
local macro_rules | `(tactic| walk_at "sz") => `(tactic| first | assumption | exact Nat.zero_le _ | (simp only [List.length_cons, List.length_nil]; decide) | exact Nat.le_trans (by first | omega | (simp; done) | (simp; omega)) (show 100000 ≤ sizeLine by decide) | exact Nat.lt_of_lt_of_le (by first | omega | (simp; done) | (simp; omega)) (show 100000 ≤ sizeLine by decide))
local macro_rules | `(tactic| walk_at "ix") => `(tactic| first | exact at0 | exact at1 | exact at2 | exact at3 | assumption | exact rfl | walk_at "ix2")
local macro_rules | `(tactic| walk_at "ix2") => `(tactic| fail)
local macro_rules | `(tactic| walk_at "num") => `(tactic| first | assumption | omega | decide | walk_at "num2")
local macro_rules | `(tactic| walk_at "num2") => `(tactic| fail)
local macro_rules | `(tactic| walk_at "im") => `(tactic| first | assumption | exact R.non (S := fun _ => False) | exact R.bl (S := fun _ => False) _ | exact R.int (S := fun _ => False) _ | exact R.str (S := fun _ => False) _ | (refine R.im (by assumption) ?_; walk_at "im"))
local macro_rules | `(tactic| walk_at "r") => `(tactic| first | assumption | exact R.non (S := fun _ => False) | exact R.bl (S := fun _ => False) _ | exact R.int (S := fun _ => False) _ | exact R.str (S := fun _ => False) _ | (refine R.same (by assumption) ?_; walk_at "r") | exact R.any (by walk_at "im"))
local macro_rules | `(tactic| walk_at "chg") => `(tactic| first
  | exact Chg.refl
  | assumption
  | (refine Chg.same ?_ (by assumption); walk_at "chg")
  | (refine Chg.both ?_ (by assumption); walk_at "chg")
  | (refine Chg.pre (by assumption) ?_; walk_at "chg"))
local macro_rules | `(tactic| walk_at "w1") => `(tactic| first
  | with_reducible apply w_seq
  | with_reducible apply w_asg
  | ((with_reducible apply w_var); (focus (exact rfl)))
  | with_reducible apply w_c
  | with_reducible apply w_op
  | with_reducible apply w_cons
  | with_reducible apply w_nil
  | with_reducible apply w_gName
  | with_reducible apply w_if
  | with_reducible apply w_test
  | with_reducible apply w_B
  | with_reducible apply w_isbl
  | with_reducible apply w_retN
  | with_reducible apply w_next
  | with_reducible apply w_drop
  | with_reducible apply w_cb
  | with_reducible apply w_call
  | with_reducible apply w_callN
  | with_reducible apply w_bm
  | with_reducible apply w_bm0
  | ((with_reducible apply w_tyL); (focus (walk_at "hp"; done)))
  | with_reducible apply w_dput
  | with_reducible apply w_m1
  | with_reducible apply w_isstr
  | with_reducible apply w_and
  | with_reducible apply w_or
  | with_reducible apply w_not
  | with_reducible apply w_andV
  | with_reducible apply w_orV
  | with_reducible apply w_notV
  | with_reducible apply w_ifE
  | with_reducible apply w_chain
  | with_reducible apply w_un
  | with_reducible apply w_neg
  | with_reducible apply w_add
  | with_reducible apply w_sub
  | ((with_reducible apply w_mod); (focus (walk_at "num"; done)))
  | ((with_reducible apply w_mul); (focus (walk_at "num"; done)))
  | ((with_reducible apply w_fdiv); (focus (walk_at "num"; done)))
  | ((with_reducible apply w_pow); (focus (walk_at "num"; done)))
  | with_reducible apply w_lt
  | with_reducible apply w_le
  | with_reducible apply w_gt
  | with_reducible apply w_ge
  | with_reducible apply w_ltS
  | with_reducible apply w_geS
  | with_reducible apply w_inC
  | with_reducible apply w_notInC
  | with_reducible apply w_isN
  | with_reducible apply w_notN
  | with_reducible apply w_isB
  | with_reducible apply w_notB
  | ((with_reducible apply w_addS); (focus (walk_at "sz"; done)))
  | ((with_reducible apply w_ixL); (focus (walk_at "sq"; done)); (focus (walk_at "ix"; done)))
  | ((with_reducible apply w_ixT); (focus (walk_at "hp"; done)); (focus (walk_at "ix"; done)))
  | ((with_reducible apply w_ixS); (focus (walk_at "sz"; done)); (focus (walk_at "ix"; done)))
  | with_reducible apply w_gSub
  | ((with_reducible apply w_gTup); (focus (walk_at "hp"; done)); (focus (exact rfl)))
  | with_reducible apply w_gCons
  | with_reducible apply w_gNil
  | ((with_reducible apply w_aug); (focus (exact rfl)))
  | with_reducible apply w_ipI
  | ((with_reducible apply w_eq); (focus (exact rfl)))
  | ((with_reducible apply w_ne); (focus (exact rfl)))
  | with_reducible apply w_max
  | with_reducible apply w_min
  | with_reducible apply w_abs
  | with_reducible apply w_intB
  | with_reducible apply w_intI
  | with_reducible apply w_tup1
  | with_reducible apply w_lst1
  | with_reducible apply w_sl
  | with_reducible apply w_part
  | with_reducible apply w_noPart
  | with_reducible apply w_isint
  | ((with_reducible apply w_slS); (focus (walk_at "sz"; done)))
  | with_reducible apply w_iteT
  | with_reducible apply w_iteF
  | with_reducible apply w_iteN
  | ((with_reducible apply w_iteYes); (focus (exact rfl)))
  | ((with_reducible apply w_iteNo); (focus (exact rfl)))
  | ((with_reducible apply w_lenL); (focus (walk_at "sq"; done)))
  | ((with_reducible apply w_lenT); (focus (walk_at "hp"; done)))
  | ((with_reducible apply w_lenS); (focus (walk_at "sz"; done)))
  | with_reducible apply w_lc
  | with_reducible apply w_for
  | with_reducible apply w_yes
  | ((with_reducible apply w_wipe); (focus (exact rfl)))
  | with_reducible apply w_iList
  | with_reducible apply w_iTup
  | with_reducible apply w_iStr
  | with_reducible apply w_iRng1
  | with_reducible apply w_iRng2
  | with_reducible apply w_iZip
  | with_reducible apply w_iEnum
  | ((with_reducible apply d_iList); (focus (walk_at "sq"; done)))
  | ((with_reducible apply d_iTup); (focus (walk_at "hp"; done)))
  | with_reducible apply d_iStr
  | ((with_reducible apply d_iRng1); (focus (walk_at "num"; done)); (focus (walk_at "num"; done)))
  | ((with_reducible apply d_iRng2); (focus (walk_at "num"; done)); (focus (walk_at "num"; done)); (focus (walk_at "num"; done)); (focus (walk_at "num"; done)))
  | ((with_reducible apply d_iZip); (focus (walk_at "sq"; done)); (focus (walk_at "sq"; done)))
  | ((with_reducible apply d_iEnum); (focus (walk_at "sq"; done)))
  | walk_at "w2")
local macro_rules | `(tactic| walk_at "w2") => `(tactic| fail)
local macro_rules | `(tactic| walk_at "wn") => `(tactic| repeat walk_at "w1")
local macro_rules | `(tactic| walk_at "w") => `(tactic| repeat (first | walk_at "w1" | with_reducible apply w_ret))

local macro_rules | `(tactic| walk_at "w2") => `(tactic| first
  | ((with_reducible apply w_isInt); (focus (walk_at "r"; done)))
  | ((with_reducible apply w_isBool); (focus (walk_at "r"; done)))
  | ((with_reducible apply w_isStr); (focus (walk_at "r"; done)))
  | ((with_reducible apply w_isTup); (focus (walk_at "r"; done)))
  | ((with_reducible apply w_isLst); (focus (walk_at "r"; done)))
  | with_reducible apply w_fld
  | with_reducible apply w_sfld
  | with_reducible apply w_faug
  | with_reducible apply w_rAdd
  | with_reducible apply w_rSub
  | with_reducible apply w_make
  | with_reducible apply w_orT
  | with_reducible apply w_dgetd
  | with_reducible apply w_dgetk
  | with_reducible apply w_dsetd
  | ((with_reducible apply k_dgetd); (focus (walk_at "hp"; done)))
  | ((with_reducible apply k_dsetd); (focus (walk_at "hp"; done)))
  | walk_at "w3")
local macro_rules | `(tactic| walk_at "w3") => `(tactic| fail)

/-! ### the cells that are not 0 -/
def notN (cs : Cells) : Cells := ((srt (cs.map (·.1))).filter fun i => decide (cGet cs i ≠ 0)).map fun i => (i, cGet cs i)
theorem cAt_some {cs : Cells} {i : Int} (h : i ∈ cs.map (·.1)) : cAt cs i = some (cGet cs i) := by
  unfold cGet
  cases e : cAt cs i with
  | some v => rfl
  | none =>
    exfalso
    unfold cAt at e
    obtain ⟨c, hc, rfl⟩ := List.mem_map.mp h
    have : (cs.find? fun d => decide (d.1 = c.1)) = none := by
      cases hf : (cs.find? fun d => decide (d.1 = c.1)) with
      | none => rfl
      | some d => rw [hf] at e; cases e
    have := List.find?_eq_none.mp this c hc
    simp at this
theorem keys_cK (cs : Cells) : (cK cs).map (·.1) = (cs.map (·.1)).map (Sum.inl (β := Str)) := by
  unfold cK
  rw [List.map_map, List.map_map]
  rfl
def sp_not_nought : Sp := fun vs H Q _ => ∃ (d : Addr) (cs : Cells), vs = [.ref d] ∧ H d = some (.dK (cK cs)) ∧ cs.length ≤ 50000 ∧ ∀ l xs H', H l = none → Chg [] H H' → H' l = some (.lst xs) → ImA H' xs ((notN cs).map pairD) → Q (.ref l) H'
def t_not_nought (K : PySem.W.Frag) : TS :=
    tRet (tLc (iList K (tCB cSortDI (tCons (tVar 0) (tNil)))) (gName 1) (tTest (tOp rNe (tDGet (tVar 0) (tVar 1)) (tC (.int 0)))) (tTup (tCons (tVar 1) (tCons (tDGet (tVar 0) (tVar 1)) (tNil)))) [1])
theorem pure_not_nought {K : PySem.W.Frag} (vs : List V) (H : Hp) (Q : VK) (E : XK) (h : sp_not_nought vs H Q E) : t_not_nought K (fin Q) (start ["held", "cell"] vs) H := by
  obtain ⟨d, cs, rfl, hd, lc, q⟩ := h
  show t_not_nought K _ [some (.ref d), none] H
  unfold t_not_nought
  walk_at "w"
  refine w_sortDI hd (keys_cK cs) (by rw [List.length_map]; omega) fun l H1 nl c1 hl => ?_
  have ls : (srt (cs.map (·.1))).length ≤ 50000 := by rw [(srt_perm _).length_eq, List.length_map]; exact lc
  walk_at "w"
  have hd1 := c1.at hd
  refine w_lcG (walk_list (K := K) (a := l) (xs := (srt (cs.map (·.1))).map V.int)) (fun D i acc H2 => Chg [] H1 H2 ∧ ImA H2 acc (((((srt (cs.map (·.1))).take i).filter fun i => decide (cGet cs i ≠ 0)).map fun i => (i, cGet cs i)).map pairD))
    (fun D H2 nD c2 hD => ⟨c2, .nil⟩) (fun D i acc H2 _ _ z => sqL (z.1.at hl)) (fun D i acc x H2 H3 hi nD hD el iv y => ?_) (fun D acc H2 nD el hD iv => ?_)
  · obtain ⟨rfl, ex⟩ := y
    obtain ⟨c2, ra⟩ := iv
    rw [List.length_map] at hi
    rw [List.getElem?_map, List.getElem?_eq_getElem hi] at ex
    cases ex
    have hd2 := c2.at hd1
    have hm : (srt (cs.map (·.1)))[i] ∈ cs.map (·.1) := (srt_perm _).mem_iff.mp (List.getElem_mem hi)
    have ev : valV (cK cs) (Sum.inl (srt (cs.map (·.1)))[i]) = some (.int (cGet cs (srt (cs.map (·.1)))[i])) := by rw [valV_cK, cAt_some hm]; rfl
    have et : (srt (cs.map (·.1))).take (i + 1) = (srt (cs.map (·.1))).take i ++ [(srt (cs.map (·.1)))[i]] := by rw [List.take_add_one, List.getElem?_eq_getElem hi]; rfl
    generalize (srt (cs.map (·.1)))[i] = k at ev et ⊢
    walk_at "w"
    refine d_dgetI hd2 ev ?_
    walk_at "w"
    refine w_iteD (fun h0 => ?_) (fun h0 => ?_)
    · refine lg_no hD el ⟨c2, ?_⟩
      have h0' : cGet cs k = 0 := V.int.inj h0
      rw [et, List.filter_append, show ([k].filter fun i => decide (cGet cs i ≠ 0)) = [] by simp [h0'], List.append_nil]
      exact ra
    · have h0' : ¬ cGet cs k = 0 := fun z => h0 (by rw [z])
      walk_at "w"
      refine d_dgetI hd2 ev ?_
      walk_at "w"
      refine k_tup (by walk_at "sz") fun T H4 nT c4 hT => ?_
      refine lg_yes (c4.at hD) el (by omega) fun H5 c5 h5 => ⟨(c2.same c4).one c5 nD, ?_⟩
      rw [et, List.filter_append, show ([k].filter fun i => decide (cGet cs i ≠ 0)) = [k] by simp [h0'], List.map_append, List.map_append]
      exact (ra.im (c4.pre c5)).snoc (.tup (c5.tup _ _ hT) (.cons (.int _) (.cons (.int _) .nil)))
  · obtain ⟨c2, ra⟩ := iv
    rw [List.length_map, List.take_length] at ra
    exact q D acc H2 (c1.dom _ nD) (c1.same c2) hD ra
/-! ### the steps of a helper -/
/-- the program p at a, its lists at ls -/
def PAt (H : Hp) (a : Addr) (p : Prg) (ls : List Addr) : Prop := ∃ xs, H a = some (.lst xs) ∧ xs.length = p.length ∧ ls.length = p.length ∧ ∀ (i : Nat) (x : V) (r : Str × List Stp) (l : Addr), xs[i]? = some x → p[i]? = some r → ls[i]? = some l → ∃ (T : Addr) (ys : List V), x = .ref T ∧ H T = some (.tup [.str r.1, .ref l]) ∧ H l = some (.lst ys) ∧ ImA H ys (r.2.map Stp.data)
theorem PAt.same {H H' : Hp} {a : Addr} {p : Prg} {ls : List Addr} (c : Chg [] H H') (h : PAt H a p ls) : PAt H' a p ls := by
  obtain ⟨xs, h1, h2, h3, h4⟩ := h
  refine ⟨xs, c.at h1, h2, h3, fun i x r l hx hr hl => ?_⟩
  obtain ⟨T, ys, g1, g2, g3, g4⟩ := h4 i x r l hx hr hl
  exact ⟨T, ys, g1, c.at g2, c.at g3, g4.im c⟩
theorem pAt_of {S : Addr → Prop} {H : Hp} {v : V} {p : Prg} (r : R S H v (prgD p)) : ∃ a ls, v = .ref a ∧ PAt H a p ls := by
  cases r with
  | @lst a xs _ s e ra =>
    have key : ∀ {p : Prg} {xs : List V}, RA S H xs (p.map rowD) → ∃ ls : List Addr, ls.length = p.length ∧ ∀ (i : Nat) (x : V) (r : Str × List Stp) (l : Addr), xs[i]? = some x → p[i]? = some r → ls[i]? = some l → ∃ (T : Addr) (ys : List V), x = .ref T ∧ H T = some (.tup [.str r.1, .ref l]) ∧ H l = some (.lst ys) ∧ ImA H ys (r.2.map Stp.data) := by
      intro p
      induction p with
      | nil => intro xs _; exact ⟨[], rfl, fun i x r l _ h => by simp at h⟩
      | cons q p ih =>
        intro xs ra
        cases ra with
        | cons r1 rs =>
          obtain ⟨ls, h1, h2⟩ := ih rs
          cases r1 with
          | @tup T _ _ e2 ra2 =>
            cases ra2 with
            | cons r0 rs0 =>
              cases rs0 with
              | cons r3 rs3 =>
                cases rs3
                cases r0
                cases r3 with
                | @lst l4 ys4 _ s4 e4 ra4 =>
                  refine ⟨l4 :: ls, by rw [List.length_cons, List.length_cons, h1], fun i x r l hx hr hl => ?_⟩
                  cases i with
                  | zero =>
                    cases (Option.some.inj (show some (V.ref T) = some x from hx))
                    cases (Option.some.inj (show some q = some r from hr))
                    cases (Option.some.inj (show some l4 = some l from hl))
                    exact ⟨T, ys4, rfl, e2, e4, ra4.pure (steps_noL _)⟩
                  | succ i => exact h2 i x r l hx hr hl
    obtain ⟨ls, h1, h2⟩ := key ra
    exact ⟨a, ls, rfl, xs, e, by rw [ra.length, List.length_map], h1, h2⟩
/-- where the steps of x lie -/
def pIdx (p : Prg) (x : Str) : Nat := p.findIdx fun r => decide (r.1 = x)
def sp_helper_rows (K : PySem.W.Frag) : Sp := fun vs H Q E => ∃ (a : Addr) (p : Prg) (ls : List Addr) (x : Str), vs = [.ref a, .str x] ∧ PAt H a p ls ∧ (∀ i l, (p.findIdx? fun r => decide (r.1 = x)) = some i → ls[i]? = some l → Q (.ref l) H) ∧
  ((p.findIdx? fun r => decide (r.1 = x)) = none → ∀ dd H', Chg [] H H' → H' dd = some (.xd (xfs ["name"] [.str x] [])) → E (.ref (He.ga K "NoHelper")) (some dd) H')
def t_helper_rows (E : XK) (K : PySem.W.Frag) : TS :=
    tSeq (tFor (iList K (tVar 0)) (gTup K 2 (gCons (gName 2) (gCons (gName 3) (gNil)))) (tIfS (tTest (tOp rEq (tVar 2) (tVar 1))) (tRet (tVar 3)) (tNext)))
    (tRaiseX (He.ga K "NoHelper") ["name"] E (tCons (tVar 1) (tNil)))
theorem find_none {p : Prg} {x : Str} (h : ∀ (i : Nat) (r : Str × List Stp), p[i]? = some r → r.1 ≠ x) : (p.findIdx? fun r => decide (r.1 = x)) = none := by
  rw [List.findIdx?_eq_none_iff]
  intro r hr
  obtain ⟨i, hi⟩ := List.getElem?_of_mem hr
  exact decide_eq_false (h i r hi)
theorem find_some {p : Prg} {x : Str} {i : Nat} {r : Str × List Stp} (hr : p[i]? = some r) (e : r.1 = x) (h : ∀ (j : Nat) (r : Str × List Stp), j < i → p[j]? = some r → r.1 ≠ x) : (p.findIdx? fun r => decide (r.1 = x)) = some i := by
  rw [List.findIdx?_eq_some_iff_getElem]
  obtain ⟨hi, er⟩ := List.getElem?_eq_some_iff.mp hr
  refine ⟨hi, by rw [er]; exact decide_eq_true e, fun j hj => ?_⟩
  have := h j p[j] hj (List.getElem?_eq_getElem (by omega))
  simpa using this
theorem pure_helper_rows {K : PySem.W.Frag} (vs : List V) (H : Hp) (Q : VK) (E : XK) (h : sp_helper_rows K vs H Q E) : t_helper_rows E K (fin Q) (start ["program", "name", "one", "rows"] vs) H := by
  obtain ⟨a, p, ls, x, rfl, pa, qs, qn⟩ := h
  show t_helper_rows E K _ [some (.ref a), some (.str x), none, none] H
  unfold t_helper_rows
  obtain ⟨xs, hx, lx, ll, hr⟩ := pa
  walk_at "w"
  refine for_it (walk_list (K := K) (a := a) (xs := xs)) (fun i σ H1 => H1 = H ∧ (∀ (j : Nat) (r : Str × List Stp), j < i → p[j]? = some r → r.1 ≠ x) ∧ ∃ y1 y2, σ = [some (.ref a), some (.str x), y1, y2]) ⟨rfl, fun j r h => by omega, _, _, rfl⟩ (fun i σ H1 _ z => by rw [z.1]; exact sqL hx) (fun i v σ H1 H2 hi z y => ?_) (fun σ H1 z => ?_)
  · obtain ⟨rfl, no, y1, y2, rfl⟩ := z
    obtain ⟨rfl, ex⟩ := y
    have hi' : i < p.length := by omega
    have hl' : i < ls.length := by omega
    obtain ⟨T, ys, rfl, hT, hL, im⟩ := hr i v p[i] ls[i] ex (List.getElem?_eq_getElem hi') (List.getElem?_eq_getElem hl')
    walk_at "w"
    refine w_iteD (fun e => ?_) (fun e => ?_)
    · walk_at "w"
      exact qs i ls[i] (find_some (List.getElem?_eq_getElem hi') (V.str.inj e) no) (List.getElem?_eq_getElem hl')
    · walk_at "w"
      refine ⟨rfl, fun j r hj hr => ?_, _, _, rfl⟩
      rcases Nat.lt_succ_iff_lt_or_eq.mp hj with hj | rfl
      · exact no j r hj hr
      · rw [List.getElem?_eq_getElem hi'] at hr
        cases hr
        exact fun z => e (by rw [z])
  · obtain ⟨rfl, no, y1, y2, rfl⟩ := z
    show tRaiseX (He.ga K "NoHelper") ["name"] E (tCons (tVar 1) tNil) (fin Q) _ _
    refine w_raiseX ?_
    walk_at "w"
    exact ⟨rfl, by simp, fun dd H2 c2 _ h2 => qn (find_none fun i r hr => no i r (by rw [lx]; exact (List.getElem?_eq_some_iff.mp hr).1) hr) dd H2 c2 h2⟩
end Fg
namespace Fg
open PySem PySem.Spec PyProof.Rows L2
/-! ### what was given, in the heap: a dict of lists -/
def gK : Given → List Addr → List (Key × V)
  | g :: gv, l :: ls => (Sum.inr g.1, V.ref l) :: gK gv ls
  | _, _ => []
theorem gK_len : ∀ {gv : Given} {ls : List Addr}, ls.length = gv.length → (gK gv ls).length = gv.length
  | [], [], _ => rfl
  | [], _ :: _, h => by simp at h
  | _ :: _, [], h => by simp at h
  | g :: gv, l :: ls, h => by
    show (gK gv ls).length + 1 = gv.length + 1
    rw [gK_len (by simpa using h)]
theorem gK_snoc : ∀ {gv : Given} {ls : List Addr} (g : Str × List Int) (l : Addr), ls.length = gv.length → gK (gv ++ [g]) (ls ++ [l]) = gK gv ls ++ [(Sum.inr g.1, V.ref l)]
  | [], [], _, _, _ => rfl
  | [], _ :: _, _, _, h => by simp at h
  | _ :: _, [], _, _, h => by simp at h
  | g0 :: gv, l0 :: ls, g, l, h => by
    show (Sum.inr g0.1, V.ref l0) :: gK (gv ++ [g]) (ls ++ [l]) = _
    rw [gK_snoc g l (by simpa using h)]
    rfl
theorem gK_keys : ∀ {gv : Given} {ls : List Addr}, ls.length = gv.length → (gK gv ls).map (·.1) = (gv.map (·.1)).map Sum.inr
  | [], [], _ => rfl
  | [], _ :: _, h => by simp at h
  | _ :: _, [], h => by simp at h
  | g :: gv, l :: ls, h => by
    show Sum.inr g.1 :: (gK gv ls).map (·.1) = _
    rw [gK_keys (by simpa using h)]
    rfl
theorem gK_set : ∀ {gv : Given} {ls : List Addr} {i : Nat} {x : Str} {row row' : List Int}, gv[i]? = some (x, row) → gK (gv.set i (x, row')) ls = gK gv ls
  | [], _, _, _, _, _, h => by simp at h
  | g :: gv, [], i, x, row, row', h => by cases i <;> rfl
  | g :: gv, l :: ls, 0, x, row, row', h => by
    cases (Option.some.inj (show some g = some (x, row) from h))
    rfl
  | g :: gv, l :: ls, i + 1, x, row, row', h => by
    show (Sum.inr g.1, V.ref l) :: gK (gv.set i (x, row')) ls = _
    rw [gK_set (i := i) (row := row) h]
    rfl
theorem valV_cons {k k' : Key} {v : V} {kvs : List (Key × V)} : valV ((k', v) :: kvs) k = if k' = k then some v else valV kvs k := by
  unfold valV
  rw [List.find?_cons]
  by_cases e : k' = k
  · rw [if_pos e, decide_eq_true e]; rfl
  · rw [if_neg e, decide_eq_false e]
theorem gv_cases : ∀ (gv : Given) (ls : List Addr) (x : Str), ls.length = gv.length → (gv.map (·.1)).Nodup →
    (valV (gK gv ls) (Sum.inr x) = none ∧ x ∉ gv.map (·.1)) ∨ ∃ (i : Nat) (l : Addr) (row : List Int), gv[i]? = some (x, row) ∧ ls[i]? = some l ∧ valV (gK gv ls) (Sum.inr x) = some (.ref l)
  | [], [], x, _, _ => .inl ⟨rfl, by simp⟩
  | [], _ :: _, _, h, _ => by simp at h
  | _ :: _, [], _, h, _ => by simp at h
  | g :: gv, l :: ls, x, h, nd => by
    have e0 : gK (g :: gv) (l :: ls) = (Sum.inr g.1, V.ref l) :: gK gv ls := rfl
    rw [e0, valV_cons]
    by_cases e : g.1 = x
    · refine .inr ⟨0, l, g.2, ?_, rfl, if_pos (by rw [e])⟩
      rw [← e]
      rfl
    · have e' : ¬ (Sum.inr g.1 : Key) = Sum.inr x := fun z => e (Sum.inr.inj z)
      rw [if_neg e']
      rcases gv_cases gv ls x (by simpa using h) (List.nodup_cons.mp nd).2 with ⟨h1, h2⟩ | ⟨i, l', row, h1, h2, h3⟩
      · refine .inl ⟨h1, fun m => ?_⟩
        rcases List.mem_cons.mp m with m | m
        · exact e m.symm
        · exact h2 m
      · exact .inr ⟨i + 1, l', row, h1, h2, h3⟩
theorem gAdd_new {gv : Given} {x : Str} (h : x ∉ gv.map (·.1)) (n : Int) : gAdd gv x n = gv ++ [(x, [n])] := by
  unfold gAdd
  rw [if_neg]
  intro z
  obtain ⟨g, hg, e⟩ := List.any_eq_true.mp z
  exact h (List.mem_map.mpr ⟨g, hg, of_decide_eq_true e⟩)
theorem gAdd_old : ∀ {gv : Given} {x : Str} {i : Nat} {row : List Int} (n : Int), (gv.map (·.1)).Nodup → gv[i]? = some (x, row) → gAdd gv x n = gv.set i (x, row ++ [n]) := by
  intro gv x i row n nd h
  unfold gAdd
  rw [if_pos (List.any_eq_true.mpr ⟨_, List.mem_of_getElem? h, decide_eq_true rfl⟩)]
  induction gv generalizing i with
  | nil => simp at h
  | cons g gv ih =>
    obtain ⟨n1, n2⟩ := List.nodup_cons.mp nd
    cases i with
    | zero =>
      cases (Option.some.inj (show some g = some (x, row) from h))
      show (if x = x then (x, row ++ [n]) else (x, row)) :: _ = _
      rw [if_pos rfl]
      show _ = (x, row ++ [n]) :: gv
      congr 1
      have e : ∀ g ∈ gv, (if g.1 = x then (g.1, g.2 ++ [n]) else g) = g := fun g hg => by
        rw [if_neg]
        intro z
        exact n1 (List.mem_map.mpr ⟨g, hg, z⟩)
      rw [List.map_congr_left e, List.map_id']
    | succ i =>
      have h' : gv[i]? = some (x, row) := h
      have ne : ¬ g.1 = x := fun z => n1 (List.mem_map.mpr ⟨_, List.mem_of_getElem? h', z.symm⟩)
      show (if g.1 = x then (g.1, g.2 ++ [n]) else g) :: _ = g :: gv.set i (x, row ++ [n])
      rw [if_neg ne, ih n2 h']
theorem gAdd_names {gv : Given} {x : Str} (n : Int) (nd : (gv.map (·.1)).Nodup) : ((gAdd gv x n).map (·.1)).Nodup := by
  unfold gAdd
  split
  · rw [List.map_map]
    rw [show ((fun g : Str × List Int => g.1) ∘ fun g => if g.1 = x then (g.1, g.2 ++ [n]) else g) = fun g => g.1 from funext fun g => by
      show (if g.1 = x then (g.1, g.2 ++ [n]) else g).1 = g.1
      split <;> rfl]
    exact nd
  · next h =>
    rw [List.map_append]
    refine nd_snoc nd fun m => h ?_
    obtain ⟨g, hg, e⟩ := List.mem_map.mp m
    exact List.any_eq_true.mpr ⟨g, hg, decide_eq_true e⟩
theorem gAdd_len (gv : Given) (x : Str) (n : Int) : (gAdd gv x n).length ≤ gv.length + 1 := by
  unfold gAdd
  split
  · rw [List.length_map]; omega
  · rw [List.length_append, List.length_singleton]; omega
structure GvAt (H : Hp) (gd : Addr) (gv : Given) (ls : List Addr) : Prop where
  dict : H gd = some (.dK (gK gv ls))
  len : ls.length = gv.length
  nd : ls.Nodup
  names : (gv.map (·.1)).Nodup
  rows : ∀ (i : Nat) (g : Str × List Int) (l : Addr), gv[i]? = some g → ls[i]? = some l → H l = some (.lst (g.2.map V.int))
theorem GvAt.keep {M : List Addr} {H H' : Hp} {gd : Addr} {gv : Given} {ls : List Addr} (h : GvAt H gd gv ls) (c : Chg M H H') (h1 : gd ∉ M) (h2 : ∀ l ∈ ls, l ∉ M) : GvAt H' gd gv ls :=
  ⟨c.keep _ _ h.dict h1, h.len, h.nd, h.names, fun i g l hg hl => c.keep _ _ (h.rows i g l hg hl) (h2 l (List.mem_of_getElem? hl))⟩
theorem GvAt.same {H H' : Hp} {gd : Addr} {gv : Given} {ls : List Addr} (h : GvAt H gd gv ls) (c : Chg [] H H') : GvAt H' gd gv ls := h.keep c (by simp) (by simp)
/-- one more for a name that is there -/
theorem GvAt.old {H H' : Hp} {gd : Addr} {gv : Given} {ls : List Addr} {x : Str} {i : Nat} {row : List Int} {l : Addr} {n : Int} (h : GvAt H gd gv ls) (hg : gv[i]? = some (x, row)) (hl : ls[i]? = some l) (c : Chg [l] H H') (h' : H' l = some (.lst ((row ++ [n]).map V.int))) : GvAt H' gd (gAdd gv x n) ls := by
  rw [gAdd_old n h.names hg]
  have hi : i < gv.length := (List.getElem?_eq_some_iff.mp hg).1
  refine ⟨?_, by rw [List.length_set]; exact h.len, h.nd, ?_, fun j g l' hg' hl' => ?_⟩
  · rw [gK_set hg]
    exact c.at1 h.dict fun z => by
      have := h.rows i _ l hg hl
      rw [← z, h.dict] at this
      cases this
  · rw [← gAdd_old n h.names hg]
    exact gAdd_names n h.names
  · by_cases e : j = i
    · subst e
      rw [hl] at hl'
      cases hl'
      rw [List.getElem?_set_self hi] at hg'
      cases hg'
      exact h'
    · rw [List.getElem?_set_ne (Ne.symm e)] at hg'
      refine c.at1 (h.rows j g l' hg' hl') fun z => e ?_
      subst z
      have hj := (List.getElem?_eq_some_iff.mp hl').1
      exact (List.getElem?_inj hj h.nd).mp (by rw [hl', hl])
/-- a new name -/
theorem GvAt.new {H H' : Hp} {gd : Addr} {gv : Given} {ls : List Addr} {x : Str} {l : Addr} {n : Int} (h : GvAt H gd gv ls) (hx : x ∉ gv.map (·.1)) (nl : ∀ l' ∈ ls, l' ≠ l) (c : ∀ l' ∈ ls, ∀ o, H l' = some o → H' l' = some o) (hd : H' gd = some (.dK (gK gv ls ++ [(Sum.inr x, V.ref l)]))) (h' : H' l = some (.lst ([n].map V.int))) : GvAt H' gd (gAdd gv x n) (ls ++ [l]) := by
  rw [gAdd_new hx]
  refine ⟨by rw [gK_snoc _ _ h.len]; exact hd, by rw [List.length_append, List.length_append, h.len]; rfl, nd_snoc h.nd fun m => nl l m rfl, ?_, fun j g l' hg hl => ?_⟩
  · rw [List.map_append]
    exact nd_snoc h.names hx
  · by_cases hj : j < gv.length
    · rw [List.getElem?_append_left hj] at hg
      rw [List.getElem?_append_left (by rw [h.len]; exact hj)] at hl
      exact c l' (List.mem_of_getElem? hl) _ (h.rows j g l' hg hl)
    · have hj2 : j = gv.length := by
        have := (List.getElem?_eq_some_iff.mp hg).1
        rw [List.length_append, List.length_singleton] at this
        omega
      subst hj2
      rw [List.getElem?_append_right (Nat.le_refl _), Nat.sub_self] at hg
      rw [List.getElem?_append_right (by rw [h.len]; exact Nat.le_refl _), h.len, Nat.sub_self] at hl
      cases (Option.some.inj (show some (x, [n]) = some g from hg))
      cases (Option.some.inj (show some l = some l' from hl))
      exact h'
end Fg
--LAW k07
namespace Fg
open PySem PySem.Spec PyProof.Rows L2
/-! ### the walk's small steps -/
local macro_rules | `(tactic| walk_at "hp") => `(tactic| first
  | assumption
  | exact upd_same
  | (refine Chg.at (by assumption) ?_; walk_at "hp")
  | (refine Chg.at1 (by assumption) ?_ (by walk_at "ne"); walk_at "hp"))
local macro_rules | `(tactic| walk_at "ne") => `(tactic| first | assumption | (apply Ne.symm; assumption))
local macro_rules | `(tactic| walk_at "sq") => `(tactic| first | assumption | exact sqL (by walk_at "hp") | (refine Chg.seq (by assumption) ?_; walk_at "sq"))
local macro_rules | `(tactic| walk_at "sz") => `(tactic| first | assumption | exact Nat.zero_le _ | (simp only [List.length_cons, List.length_nil]; decide) | exact Nat.le_trans (by first | omega | (simp; done) | (simp; omega)) (show 100000 ≤ sizeLine by decide) | exact Nat.lt_of_lt_of_le (by first | omega | (simp; done) | (simp; omega)) (show 100000 ≤ sizeLine by decide))
local macro_rules | `(tactic| walk_at "ix") => `(tactic| first | exact at0 | exact at1 | exact at2 | exact at3 | assumption | exact rfl | walk_at "ix2")
local macro_rules | `(tactic| walk_at "ix2") => `(tactic| fail)
local macro_rules | `(tactic| walk_at "num") => `(tactic| first | assumption | omega | decide | walk_at "num2")
local macro_rules | `(tactic| walk_at "num2") => `(tactic| fail)
local macro_rules | `(tactic| walk_at "im") => `(tactic| first | assumption | exact R.non (S := fun _ => False) | exact R.bl (S := fun _ => False) _ | exact R.int (S := fun _ => False) _ | exact R.str (S := fun _ => False) _ | (refine R.im (by assumption) ?_; walk_at "im"))
local macro_rules | `(tactic| walk_at "r") => `(tactic| first | assumption | exact R.non (S := fun _ => False) | exact R.bl (S := fun _ => False) _ | exact R.int (S := fun _ => False) _ | exact R.str (S := fun _ => False) _ | (refine R.same (by assumption) ?_; walk_at "r") | exact R.any (by walk_at "im"))
local macro_rules | `(tactic| walk_at "chg") => `(tactic| first
  | exact Chg.refl
  | assumption
  | (refine Chg.same ?_ (by assumption); walk_at "chg")
  | (refine Chg.both ?_ (by assumption); walk_at "chg")
  | (refine Chg.pre (by assumption) ?_; walk_at "chg"))
local macro_rules | `(tactic| walk_at "w1") => `(tactic| first
  | with_reducible apply w_seq
  | with_reducible apply w_asg
  | ((with_reducible apply w_var); (focus (exact rfl)))
  | with_reducible apply w_c
  | with_reducible apply w_op
  | with_reducible apply w_cons
  | with_reducible apply w_nil
  | with_reducible apply w_gName
  | with_reducible apply w_if
  | with_reducible apply w_test
  | with_reducible apply w_B
  | with_reducible apply w_isbl
  | with_reducible apply w_retN
  | with_reducible apply w_next
  | with_reducible apply w_drop
  | with_reducible apply w_cb
  | with_reducible apply w_call
  | with_reducible apply w_callN
  | with_reducible apply w_bm
  | with_reducible apply w_bm0
  | ((with_reducible apply w_tyL); (focus (walk_at "hp"; done)))
  | with_reducible apply w_dput
  | with_reducible apply w_m1
  | with_reducible apply w_isstr
  | with_reducible apply w_and
  | with_reducible apply w_or
  | with_reducible apply w_not
  | with_reducible apply w_andV
  | with_reducible apply w_orV
  | with_reducible apply w_notV
  | with_reducible apply w_ifE
  | with_reducible apply w_chain
  | with_reducible apply w_un
  | with_reducible apply w_neg
  | with_reducible apply w_add
  | with_reducible apply w_sub
  | ((with_reducible apply w_mod); (focus (walk_at "num"; done)))
  | ((with_reducible apply w_mul); (focus (walk_at "num"; done)))
  | ((with_reducible apply w_fdiv); (focus (walk_at "num"; done)))
  | ((with_reducible apply w_pow); (focus (walk_at "num"; done)))
  | with_reducible apply w_lt
  | with_reducible apply w_le
  | with_reducible apply w_gt
  | with_reducible apply w_ge
  | with_reducible apply w_ltS
  | with_reducible apply w_geS
  | with_reducible apply w_inC
  | with_reducible apply w_notInC
  | with_reducible apply w_isN
  | with_reducible apply w_notN
  | with_reducible apply w_isB
  | with_reducible apply w_notB
  | ((with_reducible apply w_addS); (focus (walk_at "sz"; done)))
  | ((with_reducible apply w_ixL); (focus (walk_at "sq"; done)); (focus (walk_at "ix"; done)))
  | ((with_reducible apply w_ixT); (focus (walk_at "hp"; done)); (focus (walk_at "ix"; done)))
  | ((with_reducible apply w_ixS); (focus (walk_at "sz"; done)); (focus (walk_at "ix"; done)))
  | with_reducible apply w_gSub
  | ((with_reducible apply w_gTup); (focus (walk_at "hp"; done)); (focus (exact rfl)))
  | with_reducible apply w_gCons
  | with_reducible apply w_gNil
  | ((with_reducible apply w_aug); (focus (exact rfl)))
  | with_reducible apply w_ipI
  | ((with_reducible apply w_eq); (focus (exact rfl)))
  | ((with_reducible apply w_ne); (focus (exact rfl)))
  | with_reducible apply w_max
  | with_reducible apply w_min
  | with_reducible apply w_abs
  | with_reducible apply w_intB
  | with_reducible apply w_intI
  | with_reducible apply w_tup1
  | with_reducible apply w_lst1
  | with_reducible apply w_sl
  | with_reducible apply w_part
  | with_reducible apply w_noPart
  | with_reducible apply w_isint
  | ((with_reducible apply w_slS); (focus (walk_at "sz"; done)))
  | with_reducible apply w_iteT
  | with_reducible apply w_iteF
  | with_reducible apply w_iteN
  | ((with_reducible apply w_iteYes); (focus (exact rfl)))
  | ((with_reducible apply w_iteNo); (focus (exact rfl)))
  | ((with_reducible apply w_lenL); (focus (walk_at "sq"; done)))
  | ((with_reducible apply w_lenT); (focus (walk_at "hp"; done)))
  | ((with_reducible apply w_lenS); (focus (walk_at "sz"; done)))
  | with_reducible apply w_lc
  | with_reducible apply w_for
  | with_reducible apply w_yes
  | ((with_reducible apply w_wipe); (focus (exact rfl)))
  | with_reducible apply w_iList
  | with_reducible apply w_iTup
  | with_reducible apply w_iStr
  | with_reducible apply w_iRng1
  | with_reducible apply w_iRng2
  | with_reducible apply w_iZip
  | with_reducible apply w_iEnum
  | ((with_reducible apply d_iList); (focus (walk_at "sq"; done)))
  | ((with_reducible apply d_iTup); (focus (walk_at "hp"; done)))
  | with_reducible apply d_iStr
  | ((with_reducible apply d_iRng1); (focus (walk_at "num"; done)); (focus (walk_at "num"; done)))
  | ((with_reducible apply d_iRng2); (focus (walk_at "num"; done)); (focus (walk_at "num"; done)); (focus (walk_at "num"; done)); (focus (walk_at "num"; done)))
  | ((with_reducible apply d_iZip); (focus (walk_at "sq"; done)); (focus (walk_at "sq"; done)))
  | ((with_reducible apply d_iEnum); (focus (walk_at "sq"; done)))
  | walk_at "w2")
local macro_rules | `(tactic| walk_at "w2") => `(tactic| fail)
local macro_rules | `(tactic| walk_at "wn") => `(tactic| repeat walk_at "w1")
local macro_rules | `(tactic| walk_at "w") => `(tactic| repeat (first | walk_at "w1" | with_reducible apply w_ret))

local macro_rules | `(tactic| walk_at "w2") => `(tactic| first
  | ((with_reducible apply w_isInt); (focus (walk_at "r"; done)))
  | ((with_reducible apply w_isBool); (focus (walk_at "r"; done)))
  | ((with_reducible apply w_isStr); (focus (walk_at "r"; done)))
  | ((with_reducible apply w_isTup); (focus (walk_at "r"; done)))
  | ((with_reducible apply w_isLst); (focus (walk_at "r"; done)))
  | with_reducible apply w_fld
  | with_reducible apply w_sfld
  | with_reducible apply w_faug
  | with_reducible apply w_rAdd
  | with_reducible apply w_rSub
  | with_reducible apply w_make
  | with_reducible apply w_orT
  | with_reducible apply w_dgetd
  | with_reducible apply w_dgetk
  | with_reducible apply w_dsetd
  | ((with_reducible apply k_dgetd); (focus (walk_at "hp"; done)))
  | ((with_reducible apply k_dsetd); (focus (walk_at "hp"; done)))
  | walk_at "w3")
local macro_rules | `(tactic| walk_at "w3") => `(tactic| fail)

local macro_rules | `(tactic| walk_at "w3") => `(tactic| first
  | ((with_reducible apply g_Frame_number); (focus (assumption; done)); (focus (walk_at "hp"; done)))
  | ((with_reducible apply u_Frame_number); (focus (assumption; done)); (focus (walk_at "hp"; done)))
  | ((with_reducible apply g_Frame_path); (focus (assumption; done)); (focus (walk_at "hp"; done)))
  | ((with_reducible apply u_Frame_path); (focus (assumption; done)); (focus (walk_at "hp"; done)))
  | ((with_reducible apply g_Frame_rows); (focus (assumption; done)); (focus (walk_at "hp"; done)))
  | ((with_reducible apply u_Frame_rows); (focus (assumption; done)); (focus (walk_at "hp"; done)))
  | ((with_reducible apply g_Frame_arg); (focus (assumption; done)); (focus (walk_at "hp"; done)))
  | ((with_reducible apply u_Frame_arg); (focus (assumption; done)); (focus (walk_at "hp"; done)))
  | ((with_reducible apply g_Frame_at); (focus (assumption; done)); (focus (walk_at "hp"; done)))
  | ((with_reducible apply u_Frame_at); (focus (assumption; done)); (focus (walk_at "hp"; done)))
  | ((with_reducible apply g_Frame_past); (focus (assumption; done)); (focus (walk_at "hp"; done)))
  | ((with_reducible apply u_Frame_past); (focus (assumption; done)); (focus (walk_at "hp"; done)))
  | ((with_reducible apply g_Frame_born); (focus (assumption; done)); (focus (walk_at "hp"; done)))
  | ((with_reducible apply u_Frame_born); (focus (assumption; done)); (focus (walk_at "hp"; done)))
  | ((with_reducible apply g_Record_mark); (focus (assumption; done)); (focus (walk_at "hp"; done)))
  | ((with_reducible apply u_Record_mark); (focus (assumption; done)); (focus (walk_at "hp"; done)))
  | ((with_reducible apply g_Record_word); (focus (assumption; done)); (focus (walk_at "hp"; done)))
  | ((with_reducible apply u_Record_word); (focus (assumption; done)); (focus (walk_at "hp"; done)))
  | ((with_reducible apply g_Record_doer); (focus (assumption; done)); (focus (walk_at "hp"; done)))
  | ((with_reducible apply u_Record_doer); (focus (assumption; done)); (focus (walk_at "hp"; done)))
  | ((with_reducible apply g_Record_child); (focus (assumption; done)); (focus (walk_at "hp"; done)))
  | ((with_reducible apply u_Record_child); (focus (assumption; done)); (focus (walk_at "hp"; done)))
  | ((with_reducible apply g_Record_reads); (focus (assumption; done)); (focus (walk_at "hp"; done)))
  | ((with_reducible apply u_Record_reads); (focus (assumption; done)); (focus (walk_at "hp"; done)))
  | ((with_reducible apply g_Record_writes); (focus (assumption; done)); (focus (walk_at "hp"; done)))
  | ((with_reducible apply u_Record_writes); (focus (assumption; done)); (focus (walk_at "hp"; done)))
  | ((with_reducible apply g_Outcome_cells); (focus (assumption; done)); (focus (walk_at "hp"; done)))
  | ((with_reducible apply u_Outcome_cells); (focus (assumption; done)); (focus (walk_at "hp"; done)))
  | ((with_reducible apply g_Outcome_given); (focus (assumption; done)); (focus (walk_at "hp"; done)))
  | ((with_reducible apply u_Outcome_given); (focus (assumption; done)); (focus (walk_at "hp"; done)))
  | ((with_reducible apply g_Outcome_steps); (focus (assumption; done)); (focus (walk_at "hp"; done)))
  | ((with_reducible apply u_Outcome_steps); (focus (assumption; done)); (focus (walk_at "hp"; done)))
  | ((with_reducible apply g_Outcome_deepest); (focus (assumption; done)); (focus (walk_at "hp"; done)))
  | ((with_reducible apply u_Outcome_deepest); (focus (assumption; done)); (focus (walk_at "hp"; done))))
/-! ### a step is done -/
def pathD (p : List Nat) : PyData := .tuple (p.map fun i => .int (i : Nat))
def markD (p : List Nat) (k : Nat) : PyData := .tuple [pathD p, .int (k : Nat)]
/-- a doing in the heap -/
def FrmAt (K : PySem.W.Frag) (H : Hp) (a : Addr) (f : Frm) : Prop := ∃ (dx l : Addr) (pv : V) (ys : List V), H a = some (O_Frame K dx (.int (f.num : Nat)) pv (.ref l) (.int f.arg) (.int (f.at_ : Nat)) (.int (f.past : Nat)) (.int (f.born : Nat))) ∧ Im H pv (pathD f.path) ∧ H l = some (.lst ys) ∧ ImA H ys (f.rows.map Stp.data)
theorem FrmAt.keep {K : PySem.W.Frag} {M : List Addr} {H H' : Hp} {a : Addr} {f : Frm} (h : FrmAt K H a f) (c : Chg M H H') (h1 : a ∉ M) (h2 : ∀ l ys, H l = some (.lst ys) → (∃ dx pv g at_ past born n, H a = some (O_Frame K dx n pv (.ref l) g at_ past born)) → l ∉ M) : FrmAt K H' a f := by
  obtain ⟨dx, l, pv, ys, e1, e2, e3, e4⟩ := h
  exact ⟨dx, l, pv, ys, c.keep _ _ e1 h1, e2.im c, c.keep _ _ e3 (h2 l ys e3 ⟨_, _, _, _, _, _, _, e1⟩), e4.im c⟩
def chV : Option Nat → V
  | none => .non
  | some n => .int (n : Nat)
/-- a new record in the heap: it and its lists were not there in H0, its lists are not among ls -/
def RcdNew (K : PySem.W.Frag) (H0 : Hp) (ls : List Addr) (H : Hp) (a : Addr) (r : Rcd) : Prop := ∃ (dx rl wl : Addr) (mv : V), H a = some (O_Record K dx mv (.str r.word) (.int (r.doer : Nat)) (chV r.child) (.ref rl) (.ref wl)) ∧ Im H mv (markD r.path r.past) ∧ H rl = some (.lst (r.reads.map V.int)) ∧ H wl = some (.lst (r.writes.map V.int)) ∧ H0 a = none ∧ H0 rl = none ∧ H0 wl = none ∧ rl ∉ ls ∧ wl ∉ ls
/-- a right step: not deep, skips over some -/
def Stp.fit : Stp → Prop
  | .cell a b => a.deep ≤ 5 ∧ b.deep ≤ 5
  | .give _ a => a.deep ≤ 5
  | .fork _ a => a.deep ≤ 5
  | .call _ a => a.deep ≤ 5
  | .wait => True
  | .skip a k => a.deep ≤ 5 ∧ 1 ≤ k
def mkV : Option (Str × Int) → V → Hp → Prop
  | none, v, _ => v = .non
  | some o, v, H => ∃ M, v = .ref M ∧ H M = some (.tup [.str o.1, .int o.2])
def Frm.next (f : Frm) (s : Stp) (cs : Cells) : Frm := { f with at_ := f.at_ + 1 + s.jump f.arg cs, past := f.past + 1 }
def Frm.rcd (f : Frm) (s : Stp) (cs : Cells) : Rcd := ⟨f.path, f.past, s.word, f.num, none, srtD (s.asks f.arg cs), s.writes f.arg cs⟩
def sp_step_done (K : PySem.W.Frag) : Sp := fun vs H Q _ => ∃ (fa hd gd : Addr) (f : Frm) (s : Stp) (cs : Cells) (gv : Given) (ls : List Addr) (ys : List V) (dx l : Addr) (pv : V), vs = [.ref fa, .ref hd, .ref gd] ∧ gd ≠ hd ∧
  H fa = some (O_Frame K dx (.int (f.num : Nat)) pv (.ref l) (.int f.arg) (.int (f.at_ : Nat)) (.int (f.past : Nat)) (.int (f.born : Nat))) ∧ Im H pv (pathD f.path) ∧ H l = some (.lst ys) ∧ ImA H ys (f.rows.map Stp.data) ∧
  f.rows[f.at_]? = some s ∧ s.fit ∧ H hd = some (.dK (cK cs)) ∧ cs.length ≤ 50000 ∧ GvAt H gd gv ls ∧ gv.length ≤ 50000 ∧ (∀ g ∈ gv, g.2.length ≤ 50000) ∧
  ∀ (T rc : Addr) (mk : V) (ls' : List Addr) (H' : Hp), Chg (fa :: hd :: gd :: ls) H H' → H' fa = some (O_Frame K dx (.int (f.num : Nat)) pv (.ref l) (.int f.arg) (.int ((f.next s cs).at_ : Nat)) (.int ((f.next s cs).past : Nat)) (.int (f.born : Nat))) →
    H' hd = some (.dK (cK (s.puts f.arg cs))) → GvAt H' gd (s.gives f.arg cs gv) ls' → (∀ l' ∈ ls', l' ∈ ls ∨ H l' = none) → RcdNew K H ls' H' rc (f.rcd s cs) → H' T = some (.tup [.ref rc, mk]) → mkV (s.makes f.arg cs) mk H' → Q (.ref T) H'
def t_step_done (K : PySem.W.Frag) (w : World) : TS :=
    tSeq (tAsg (tOp (rIxL K) (tFld K (tVar 0) "rows") (tFld K (tVar 0) "at")) (gName 3))
    (tSeq (tAsg (tLst (tNil)) (gName 4))
    (tSeq (tAsg (tMake (He.ga K "Record") (sp_Record___init__ K) [] E0 (tCons (tTup (tCons (tFld K (tVar 0) "path") (tCons (tFld K (tVar 0) "past") (tNil)))) (tCons (tOp (rIxT K) (tVar 3) (tC (.int 0))) (tCons (tFld K (tVar 0) "number") (tCons (tVar 4) (tNil)))))) (gName 5))
    (tSeq (sFldAug K (tVar 0) (tC (.int 1)) L2.rAdd "at")
    (tSeq (sFldAug K (tVar 0) (tC (.int 1)) L2.rAdd "past")
    (tSeq (tAsg (tC .non) (gName 6))
    (tSeq (tIfS (tTest (tOp rEq (tOp (rIxT K) (tVar 3) (tC (.int 0))) (tC (.str "cell")))) (tSeq (tAsg (tCall (sp_reckon 6) [] E0 (tCons (tOp (rIxT K) (tVar 3) (tC (.int 1))) (tCons (tFld K (tVar 0) "arg") (tCons (tVar 1) (tCons (tVar 4) (tNil)))))) (gName 7))
    (tSeq (sDPut (tVar 1) (tVar 7) (tCall (sp_reckon 6) [] E0 (tCons (tOp (rIxT K) (tVar 3) (tC (.int 2))) (tCons (tFld K (tVar 0) "arg") (tCons (tVar 1) (tCons (tVar 4) (tNil)))))))
    (sFld K (tVar 5) (tLst (tCons (tVar 7) (tNil))) "writes"))) (tIfS (tTest (tOp rEq (tOp (rIxT K) (tVar 3) (tC (.int 0))) (tC (.str "give")))) (tDrop (tBM K "list" rAppend (tDSetd (tVar 2) (tOp (rIxT K) (tVar 3) (tC (.int 1))) (tLst (tNil))) (tCons (tCall (sp_reckon 6) [] E0 (tCons (tOp (rIxT K) (tVar 3) (tC (.int 2))) (tCons (tFld K (tVar 0) "arg") (tCons (tVar 1) (tCons (tVar 4) (tNil)))))) (tNil)))) (tIfS (tTest (tOp rEq (tOp (rIxT K) (tVar 3) (tC (.int 0))) (tC (.str "skip")))) (tIfS (tTest (tOp rEq (tCall (sp_reckon 6) [] E0 (tCons (tOp (rIxT K) (tVar 3) (tC (.int 1))) (tCons (tFld K (tVar 0) "arg") (tCons (tVar 1) (tCons (tVar 4) (tNil)))))) (tC (.int 0)))) (sFldAug K (tVar 0) (tOp (rIxT K) (tVar 3) (tC (.int 2))) L2.rAdd "at") (tNext)) (tIfS (tTest (tOp rNe (tOp (rIxT K) (tVar 3) (tC (.int 0))) (tC (.str "wait")))) (tAsg (tTup (tCons (tOp (rIxT K) (tVar 3) (tC (.int 1))) (tCons (tCall (sp_reckon 6) [] E0 (tCons (tOp (rIxT K) (tVar 3) (tC (.int 2))) (tCons (tFld K (tVar 0) "arg") (tCons (tVar 1) (tCons (tVar 4) (tNil)))))) (tNil)))) (gName 6)) (tNext)))))
    (tSeq (sFld K (tVar 5) (tCB (rSortedSet w) (tCons (tCB (cSetL K w) (tCons (tVar 4) (tNil))) (tNil))) "reads")
    (tRet (tTup (tCons (tVar 5) (tCons (tVar 6) (tNil))))))))))))
theorem Stp.data_word (s : Stp) : ∃ ds, s.data = .tuple (.str s.word :: ds) := by cases s <;> exact ⟨_, rfl⟩
theorem Chg.sub {M M' : List Addr} {H H' : Hp} (c : Chg M H H') (h : ∀ a ∈ M, a ∈ M' ∨ H a = none) : Chg M' H H' := ⟨fun a o e hn => c.keep a o e (fun m => (h a m).elim hn fun z => (by rw [z] at e; cases e)), c.dom, c.tup⟩
theorem asks_few {s : Stp} (h : s.fit) (g : Int) (cs : Cells) : (s.asks g cs).length < 60 := by
  have p : ∀ e : Ex, e.deep ≤ 5 → (e.asked g cs).length + 1 ≤ 16 := fun e he => by
    have h1 := Ex.asked_len g cs e
    have h2 : 2 ^ (e.deep - 1) ≤ 2 ^ 4 := Nat.pow_le_pow_right (by decide) (by omega)
    omega
  cases s with
  | cell a b =>
    have := p a h.1
    have := p b h.2
    show (a.asked g cs ++ b.asked g cs).length < 60
    rw [List.length_append]
    omega
  | give x a => have := p a h; show (a.asked g cs).length < 60; omega
  | fork x a => have := p a h; show (a.asked g cs).length < 60; omega
  | call x a => have := p a h; show (a.asked g cs).length < 60; omega
  | wait => show 0 < 60; decide
  | skip a k => have := p a h.1; show (a.asked g cs).length < 60; omega
theorem pow_few {e : Ex} (h : e.deep ≤ 5) : 2 ^ e.deep ≤ 32 := Nat.pow_le_pow_right (show 0 < 2 by decide) h
theorem ask_ref {H : Hp} {l : Addr} {xs : List Int} (h : Ask H (.ref l) (some xs)) : H l = some (.lst (xs.map V.int)) := by
  rcases h with ⟨z, _⟩ | ⟨l', ys, e1, e2, h⟩
  · cases z
  · cases e1
    cases e2
    exact h
set_option maxHeartbeats 8000000 in
theorem pure_step_done {K : PySem.W.Frag} {w : World} (CF : CFs K) (vs : List V) (H : Hp) (Q : VK) (E : XK) (h : sp_step_done K vs H Q E) : t_step_done K w (fin Q) (start ["frame", "held", "given", "row", "asked", "record", "making", "cell"] vs) H := by
  obtain ⟨fa, hd, gd, f, s, cs, gv, ls, ys, dx, l, pv, rfl, gdhd, hf, ipv, hl, im, es, fit, hh, lc, gvA, lg, lr, q⟩ := h
  show t_step_done K w _ [some (.ref fa), some (.ref hd), some (.ref gd), none, none, none, none, none] H
  unfold t_step_done
  have fr := CF.fr
  have rcC := CF.rc
  obtain ⟨y, ey, iy⟩ := im.get' (i := f.at_) (d := s.data) (by rw [List.getElem?_map, es]; rfl)
  have ea := atI_nat ey
  obtain ⟨ds, eds⟩ := s.data_word
  have iy0 := iy
  rw [eds] at iy
  obtain ⟨yT, zs, rfl, hy, iz⟩ := im_tup iy
  obtain ⟨z0, zr, rfl⟩ : ∃ z0 zr, zs = z0 :: zr := by cases iz; exact ⟨_, _, rfl⟩
  have e0 : z0 = .str s.word := by
    cases iz with
    | cons i0 _ => exact im_str i0
  subst e0
  generalize hS : (tSeq (sFld K (tVar 5) (tCB (rSortedSet w) (tCons (tCB (cSetL K w) (tCons (tVar 4) tNil)) tNil)) "reads") (tRet (tTup (tCons (tVar 5) (tCons (tVar 6) tNil)))) : TS) = suf
  walk_at "w"
  refine k_lst (by walk_at "sz") fun ak H1 nak c1 hak => ?_
  have hf1 := c1.at hf
  have hy1 := c1.at hy
  walk_at "w"
  refine k_tup (by walk_at "sz") fun m H2 nm c2 hm => ?_
  have hf2 := c2.at hf1
  have hy2 := c2.at hy1
  walk_at "w"
  refine k_make fun rc dxr H3 nrc ndx ne c3 h3 => ⟨rc, dxr, _, _, _, _, rfl, h3, fun wl H4 nwl c4 hwl h4 => ⟨rfl, ?_⟩⟩
  have c24 : Chg [] H2 H4 := c3.one c4 nrc
  have c04 : Chg [] H H4 := (c1.same c2).same c24
  have hf4 := c24.at hf2
  walk_at "w"
  refine e_Frame_at hf4 fun H5 c5 hf5 => ?_
  walk_at "w"
  refine e_Frame_past hf5 fun H6 c6 hf6 => ?_
  have c46 : Chg [fa] H4 H6 := c5.both c6
  have nrcH : H rc = none := (c1.same c2).dom _ nrc
  have fne : ∀ {a : Addr} {xs : List V}, H a = some (.lst xs) → a ≠ fa := fun ha z => by rw [z, hf] at ha; exact nomatch ha
  have hdfa : hd ≠ fa := fun z => by rw [z, hf] at hh; exact nomatch hh
  have gdfa : gd ≠ fa := fun z => by have := gvA.dict; rw [z, hf] at this; exact nomatch this
  have lsfa : ∀ l' ∈ ls, l' ≠ fa := fun l' hl' => by
    obtain ⟨i, hi⟩ := List.getElem?_of_mem hl'
    have hi2 := (List.getElem?_eq_some_iff.mp hi).1
    have hg : i < gv.length := by rw [← gvA.len]; exact hi2
    exact fne (gvA.rows i _ l' (List.getElem?_eq_getElem hg) hi)
  have lsS : ∀ l' ∈ ls, H l' ≠ none := fun l' hl' => by
    obtain ⟨i, hi⟩ := List.getElem?_of_mem hl'
    have hi2 := (List.getElem?_eq_some_iff.mp hi).1
    have hg : i < gv.length := by rw [← gvA.len]; exact hi2
    rw [gvA.rows i _ l' (List.getElem?_eq_getElem hg) hi]
    exact fun z => nomatch z
  have hh6 := c46.at1 (c04.at hh) hdfa
  have gv6 : GvAt H6 gd gv ls := (gvA.same c04).keep c46 (by simpa using gdfa) fun l' hl' => by simpa using lsfa l' hl'
  have akfa : ak ≠ fa := fun z => by rw [z, hf] at nak; cases nak
  have rcfa : rc ≠ fa := fun z => by rw [z, hf2] at nrc; cases nrc
  have hak6 := c46.at1 (c24.at (c2.at hak)) akfa
  have rc6 := c46.at1 h4 rcfa
  have wlfa : wl ≠ fa := fun z => by
    rw [z] at nwl
    have := c3.at hf2
    rw [nwl] at this
    cases this
  have hwl6 := c46.at1 hwl wlfa
  have hy6 := c46.tup _ _ (c24.at hy2)
  have hm6 := c46.tup _ _ (c24.at hm)
  have c06 : Chg (fa :: hd :: gd :: ls) H H6 := (c04.wide (by simp)).go c46 fun a ha => .inl (by rw [List.mem_singleton.mp ha]; simp)
  have nakH : H ak = none := nak
  have akrc : ak ≠ rc := fun z => by rw [z] at nakH; have := (c2.at hak); rw [z, nrc] at this; cases this
  -- what follows
  have rest : ∀ (H9 : Hp) (mk : V) (ls' : List Addr) (wl' : Addr) (y7 : Option V), Chg (fa :: hd :: gd :: ls) H H9 → H9 fa = some (O_Frame K dx (.int (f.num : Nat)) pv (.ref l) (.int f.arg) (.int ((f.next s cs).at_ : Nat)) (.int ((f.next s cs).past : Nat)) (.int (f.born : Nat))) →
      H9 hd = some (.dK (cK (s.puts f.arg cs))) → GvAt H9 gd (s.gives f.arg cs gv) ls' → (∀ l' ∈ ls', l' ∈ ls ∨ H l' = none) → H9 ak = some (.lst ((s.asks f.arg cs).map V.int)) → H9 rc = some (O_Record K dxr (.ref m) (.str s.word) (.int (f.num : Nat)) .non (.ref ak) (.ref wl')) → H9 wl' = some (.lst ((s.writes f.arg cs).map V.int)) → mkV (s.makes f.arg cs) mk H9 → H9 m = some (.tup [pv, .int (f.past : Nat)]) → H wl' = none → wl' ∉ ls' →
      suf (fin Q) [some (.ref fa), some (.ref hd), some (.ref gd), some (.ref yT), some (.ref ak), some (.ref rc), some mk, y7] H9 := fun H9 mk ls' wl' y7 k1 k2 k3 k4 k5 k6 k7 k8 k9 k10 k11 k12 => by
    subst hS
    walk_at "w"
    refine w_setI k6 (asks_few fit _ _) fun sp c H10 nsp c10 hc hs => ?_
    have few := asks_few fit f.arg cs
    walk_at "w"
    refine w_sortSet hs (by omega) fun rl H11 nrl c11 hrl => ?_
    have c911 := c10.same c11
    walk_at "w"
    refine s_Record_reads rcC (c911.at k7) fun H12 c12 h12 => ?_
    walk_at "w"
    refine k_tup (by walk_at "sz") fun T H13 nT c13 hT => ?_
    have nr : ∀ {a : Addr} {o : HO}, H9 a = some o → (∀ b, o ≠ O_Record K dxr (.ref m) (.str s.word) (.int (f.num : Nat)) .non (.ref ak) b) → a ≠ rc := fun ha ho z => by
      rw [z, k7] at ha
      exact ho _ (Option.some.inj ha).symm
    have cH : Chg (fa :: hd :: gd :: ls) H H13 := ((k1.same c911).go c12 fun a ha => .inr (by rw [List.mem_singleton.mp ha]; exact nrcH)).same c13
    refine q T rc mk ls' H13 cH (c13.at (c12.at1 (c911.at k2) rcfa.symm)) (c13.at (c12.at1 (c911.at k3) (nr k3 fun b => fun z => nomatch z))) ((((k4.same c911).keep c12 (by simpa using nr k4.dict fun b => fun z => nomatch z) fun l' hl' => ?_)).same c13) k5 ?_ hT ?_
    · obtain ⟨i, hi⟩ := List.getElem?_of_mem hl'
      have hi2 := (List.getElem?_eq_some_iff.mp hi).1
      have hg : i < (s.gives f.arg cs gv).length := by rw [← k4.len]; exact hi2
      have := k4.rows i _ l' (List.getElem?_eq_getElem hg) hi
      simpa using nr this fun b => fun z => nomatch z
    · have hrl11 : rl ≠ rc := fun z => by rw [z, c10.at k7] at nrl; cases nrl
      have hmk : H13 m = some (.tup [pv, .int (f.past : Nat)]) := c13.at (c12.tup _ _ (c911.at k10))
      refine ⟨dxr, rl, wl', .ref m, c13.at h12, .tup hmk (.cons (ipv.im cH) (.cons (.int _) .nil)), c13.at (c12.at1 hrl hrl11), c13.at (c12.at1 (c911.at k8) (nr k8 fun b => fun z => nomatch z)), nrcH, k1.dom _ (c10.dom _ nrl), k11, fun hm => ?_, k12⟩
      obtain ⟨i, hi⟩ := List.getElem?_of_mem hm
      have hg : i < (s.gives f.arg cs gv).length := by rw [← k4.len]; exact (List.getElem?_eq_some_iff.mp hi).1
      have := k4.rows i _ rl (List.getElem?_eq_getElem hg) hi
      rw [c10.at this] at nrl
      cases nrl
    · cases hmk : s.makes f.arg cs with
      | none => rw [hmk] at k9; exact k9
      | some o =>
        rw [hmk] at k9
        obtain ⟨M, e1, e2⟩ := k9
        exact ⟨M, e1, c13.at (c12.tup _ _ (c911.at e2))⟩
  have akhd : ak ≠ hd := fun z => by rw [z, hh] at nakH; cases nakH
  have akgd : ak ≠ gd := fun z => by rw [z, gvA.dict] at nakH; cases nakH
  have lsak : ∀ l' ∈ ls, l' ≠ ak := fun l' hl' z => lsS l' hl' (by rw [z]; exact nakH)
  have lsrc : ∀ l' ∈ ls, l' ≠ rc := fun l' hl' z => lsS l' hl' (by rw [z]; exact nrcH)
  have hdrc : hd ≠ rc := fun z => by rw [z, nrcH] at hh; cases hh
  have gdrc : gd ≠ rc := fun z => by have := gvA.dict; rw [z, nrcH] at this; cases this
  have wlak : wl ≠ ak := fun z => by
    rw [z, (c3.at (c2.at hak))] at nwl
    cases nwl
  have lshd : ∀ l' ∈ ls, l' ≠ hd := fun l' hl' z => by
    obtain ⟨i, hi⟩ := List.getElem?_of_mem hl'
    have hg : i < gv.length := by rw [← gvA.len]; exact (List.getElem?_eq_some_iff.mp hi).1
    have := gvA.rows i _ l' (List.getElem?_eq_getElem hg) hi
    rw [z, hh] at this
    cases this
  have wlN : H wl = none := (c1.same c2).dom _ (c3.dom _ nwl)
  have wlls : wl ∉ ls := fun hm => lsS wl hm wlN
  have p5 : ∀ {e : Ex}, e.deep ≤ 5 → 2 ^ e.deep ≤ 32 := fun h => pow_few h
  cases s with
  | wait =>
    walk_at "w"
    exact rest H6 .non ls wl _ c06 hf6 hh6 gv6 (fun l' h => .inl h) hak6 rc6 hwl6 rfl hm6 wlN wlls
  | cell a b =>
    have iz0 := iz
    obtain ⟨u0, va, vb, ez, iw, iva, ivb⟩ := imA3 (show ImA H (_ :: zr) [.str "cell", a.data, b.data] from by
      have := eds
      cases this
      exact iz0)
    cases ez
    walk_at "w"
    refine ⟨va, a, f.arg, hd, cs, .ref ak, some [], rfl, iva.im c06, by have := fit.1; omega, hh6, .inr ⟨ak, [], rfl, rfl, hak6⟩, fun xs hx => (by cases hx; have := p5 fit.1; simp; omega), fun H7 c7 ask7 => ?_⟩
    have c7 : Chg [ak] H6 H7 := c7
    have hh7 := c7.at1 hh6 akhd.symm
    have hy7 := c7.tup _ _ hy6
    have hf7 := c7.at1 hf6 akfa.symm
    walk_at "w"
    refine ⟨vb, b, f.arg, hd, cs, .ref ak, _, rfl, (ivb.im c06).im c7, by have := fit.2; omega, hh7, ask7, fun xs hx => ?_, fun H8 c8 ask8 => ?_⟩
    · cases hx
      have h1 := Ex.asked_len f.arg cs a
      have h2 : 2 ^ (a.deep - 1) ≤ 2 ^ a.deep := Nat.pow_le_pow_right (by decide) (Nat.sub_le _ _)
      have := p5 fit.1
      have := p5 fit.2
      simp
      omega
    have c8 : Chg [ak] H7 H8 := c8
    have hh8 := c8.at1 hh7 akhd.symm
    have hak8 := ask_ref ask8
    walk_at "w"
    refine d_dput (k := Sum.inl (a.worth f.arg cs)) hh8 (by unfold cK; rw [List.length_map]; walk_at "sz") fun H9 c9 h9 => ?_
    rw [putK_cK] at h9
    have c69 : Chg [ak, hd] H6 H9 := ((c7.both c8).wide (by simp)).go c9 fun a ha => .inl (by rw [List.mem_singleton.mp ha]; simp)
    walk_at "w"
    refine k_lst (by walk_at "sz") fun wl' H10 nwl' c10 hwl' => ?_
    walk_at "w"
    have rc9 : H9 rc = _ := c69.keep _ _ rc6 (by simp only [List.mem_cons, List.not_mem_nil, or_false, not_or]; exact ⟨akrc.symm, hdrc.symm⟩)
    refine s_Record_writes rcC (c10.at rc9) fun H11 c11 h11 => ?_
    have c611 : Chg [ak, hd, rc] H6 H11 := ((c69.same c10).wide (by simp)).go c11 fun a ha => .inl (by rw [List.mem_singleton.mp ha]; simp)
    have wlrc : wl' ≠ rc := fun z => by rw [z, rc9] at nwl'; cases nwl'
    refine rest H11 .non ls wl' _ (c06.go c611 fun x hx => ?_) (c611.keep _ _ hf6 (by simp only [List.mem_cons, List.not_mem_nil, or_false, not_or]; exact ⟨akfa.symm, hdfa.symm, rcfa.symm⟩)) (c11.at1 (c10.at h9) hdrc) (gv6.keep c611 (by simp only [List.mem_cons, List.not_mem_nil, or_false, not_or]; exact ⟨akgd.symm, gdhd, gdrc⟩) fun l' hl' => by simp only [List.mem_cons, List.not_mem_nil, or_false, not_or]; exact ⟨lsak l' hl', lshd l' hl', lsrc l' hl'⟩) (fun l' h => .inl h) ?_ h11 (c11.at1 hwl' wlrc) rfl (c611.tup _ _ hm6) (c06.dom _ (c69.dom _ nwl')) (fun hm => lsS wl' hm (c06.dom _ (c69.dom _ nwl')))
    · simp only [List.mem_cons, List.not_mem_nil, or_false] at hx
      rcases hx with rfl | rfl | rfl
      · exact .inr nakH
      · exact .inl (by simp)
      · exact .inr nrcH
    · have := c9.at1 hak8 akhd
      exact c11.at1 (c10.at this) akrc
  | give x a =>
    obtain ⟨u0, va, vb, ez, iw, iva, ivb⟩ := imA3 (show ImA H (_ :: zr) [.str "give", .str x, a.data] from by
      have := eds
      cases this
      exact iz)
    cases ez
    have ex := im_str iva
    subst ex
    have lk : (gK gv ls).length ≤ 50000 := by rw [gK_len gvA.len]; exact lg
    have hgd6 := gv6.dict
    walk_at "w"
    refine k_lst (by walk_at "sz") fun pn H7 npn c7 hpn => ?_
    have hgd7 := c7.at hgd6
    have pnN : H pn = none := c06.dom _ npn
    have pnfa : pn ≠ fa := fun z => by rw [z, hf6] at npn; cases npn
    have pnhd : pn ≠ hd := fun z => by rw [z, hh6] at npn; cases npn
    have pngd : pn ≠ gd := fun z => by rw [z, hgd6] at npn; cases npn
    have pnak : pn ≠ ak := fun z => by rw [z, hak6] at npn; cases npn
    have pnrc : pn ≠ rc := fun z => by rw [z, rc6] at npn; cases npn
    have pnls : ∀ l' ∈ ls, l' ≠ pn := fun l' hl' z => lsS l' hl' (by rw [z]; exact pnN)
    have hk : ∀ (H8 : Hp) (lx : Addr) (row : List Int), Chg [gd] H7 H8 → H8 lx = some (.lst (row.map V.int)) → row.length ≤ 50000 → lx ≠ ak → lx ≠ hd → lx ≠ fa → lx ≠ rc → lx ≠ gd → (lx = wl → False) →
        (∀ H9 H10, Chg [ak] H8 H9 → Chg [lx] H9 H10 → H10 lx = some (.lst ((row ++ [a.worth f.arg cs]).map V.int)) → ∃ ls', GvAt H10 gd (gAdd gv x (a.worth f.arg cs)) ls' ∧ (∀ l' ∈ ls', l' ∈ ls ∨ H l' = none) ∧ wl ∉ ls') → (lx ∈ ls ∨ H lx = none) →
        tyV K "list" (.ref lx) H8 ∧ tCons (tCall (sp_reckon 6) [] E0 (tCons (tOp (rIxT K) (tVar 3) (tC (.int 2))) (tCons (tFld K (tVar 0) "arg") (tCons (tVar 1) (tCons (tVar 4) tNil))))) tNil [some (.ref fa), some (.ref hd), some (.ref gd), some (.ref yT), some (.ref ak), some (.ref rc), some .non, none] H8 fun ys H2 => rAppend (.ref lx) ys H2 fun _ H1 => suf (fin Q) [some (.ref fa), some (.ref hd), some (.ref gd), some (.ref yT), some (.ref ak), some (.ref rc), some .non, none] H1 := fun H8 lx row c8 hlx lrow n1 n2 n3 n4 n5 n6 hg hin => by
      have c68 : Chg [gd] H6 H8 := (c7.wide (by simp)).both c8
      have hh8 := c68.at1 hh6 gdhd.symm
      have hak8 := c68.at1 hak6 akgd
      have hf8 := c68.at1 hf6 gdfa.symm
      have hy8 := c68.tup _ _ hy6
      have rc8 := c68.at1 rc6 gdrc.symm
      have hwl8 := c68.at1 hwl6 (fun z => by rw [z, hgd6] at hwl6; cases hwl6)
      walk_at "w"
      refine ⟨vb, a, f.arg, hd, cs, .ref ak, some [], rfl, (ivb.im c06).im c68, by have : a.deep ≤ 5 := fit; omega, hh8, .inr ⟨ak, [], rfl, rfl, hak8⟩, fun xs hx => (by cases hx; have := p5 (e := a) fit; simp; omega), fun H9 c9 ask9 => ?_⟩
      have c9 : Chg [ak] H8 H9 := c9
      have hak9 := ask_ref ask9
      walk_at "w"
      refine w_append (c9.at1 hlx n1) (by rw [List.length_map]; walk_at "sz") fun H10 c10 h10 => ?_
      have h10' : H10 lx = some (.lst ((row ++ [a.worth f.arg cs]).map V.int)) := by rw [List.map_append]; exact h10
      obtain ⟨ls', g1, g2, g3⟩ := hg H9 H10 c9 c10 h10'
      have c810 : Chg [ak, lx] H8 H10 := (c9.wide (by simp)).go c10 fun a ha => .inl (by rw [List.mem_singleton.mp ha]; simp)
      refine rest H10 .non ls' wl _ ((c06.go c68 fun a ha => .inl (by rw [List.mem_singleton.mp ha]; simp)).go c810 fun z hz => ?_) (c810.keep _ _ hf8 (by simp only [List.mem_cons, List.not_mem_nil, or_false, not_or]; exact ⟨akfa.symm, Ne.symm n3⟩)) (c810.keep _ _ hh8 (by simp only [List.mem_cons, List.not_mem_nil, or_false, not_or]; exact ⟨akhd.symm, Ne.symm n2⟩)) g1 g2 (c10.at1 hak9 (Ne.symm n1)) (c810.keep _ _ rc8 (by simp only [List.mem_cons, List.not_mem_nil, or_false, not_or]; exact ⟨akrc.symm, Ne.symm n4⟩)) (c810.keep _ _ hwl8 (by simp only [List.mem_cons, List.not_mem_nil, or_false, not_or]; exact ⟨wlak, fun z => n6 z.symm⟩)) rfl (c810.tup _ _ (c68.tup _ _ hm6)) wlN g3
      simp only [List.mem_cons, List.not_mem_nil, or_false] at hz
      rcases hz with rfl | rfl
      · exact .inr nakH
      · rcases hin with hin | hin
        · exact .inl (by simp [hin])
        · exact .inr hin
    have gv7 := gv6.same c7
    refine d_dsetdS hgd7 (by omega) (fun v ev => ?_) (fun ev H8 c8 h8 => ?_)
    · rcases gv_cases gv ls x gvA.len gvA.names with ⟨e1, _⟩ | ⟨i, lx, row, e1, e2, e3⟩
      · rw [e1] at ev; cases ev
      · rw [e3] at ev
        cases ev
        have hlx7 := gv7.rows i _ lx e1 e2
        have mem := List.mem_of_getElem? e2
        refine hk H7 lx row .refl hlx7 (lr _ (List.mem_of_getElem? e1)) (lsak lx mem) (lshd lx mem) (lsfa lx mem) (lsrc lx mem) (fun z => by rw [z, hgd7] at hlx7; cases hlx7) (fun z => lsS lx mem (by rw [z]; exact (c1.same c2).dom _ (c3.dom _ nwl))) (fun H9 H10 c9 c10 h10 => ⟨ls, (gv7.keep c9 (by simpa using akgd.symm) fun l' hl' => by simpa using lsak l' hl').old e1 e2 c10 h10, fun l' h => .inl h, wlls⟩) (.inl mem)
    · rcases gv_cases gv ls x gvA.len gvA.names with ⟨e1, nx⟩ | ⟨i, lx, row, e1, e2, e3⟩
      · have hpn8 : H8 pn = some (.lst (([] : List Int).map V.int)) := c8.at1 hpn pngd
        have hp : putK (gK gv ls) (Sum.inr x) (V.ref pn) = gK gv ls ++ [(Sum.inr x, V.ref pn)] := by
          unfold putK
          rw [if_neg]
          intro z
          obtain ⟨kv, hkv, ek⟩ := List.any_eq_true.mp z
          have : kv.1 ∈ (gK gv ls).map (·.1) := List.mem_map.mpr ⟨kv, hkv, rfl⟩
          rw [gK_keys gvA.len, of_decide_eq_true ek] at this
          obtain ⟨x', hx', e'⟩ := List.mem_map.mp this
          cases e'
          exact nx hx'
        rw [hp] at h8
        refine hk H8 pn [] c8 hpn8 (by simp) pnak pnhd pnfa pnrc pngd (fun z => by rw [z, hwl6] at npn; cases npn) (fun H9 H10 c9 c10 h10 => ⟨ls ++ [pn], ?_, fun l' h => ?_, fun hm => ?_⟩) (.inr pnN)
        · refine gv7.new nx pnls (fun l' hl' o e => ?_) (c10.at1 (c9.at1 h8 akgd.symm) pngd.symm) h10
          have lgd : l' ≠ gd := fun z => by
            obtain ⟨i, hi⟩ := List.getElem?_of_mem hl'
            have hg : i < gv.length := by rw [← gvA.len]; exact (List.getElem?_eq_some_iff.mp hi).1
            have := gv7.rows i _ l' (List.getElem?_eq_getElem hg) hi
            rw [z, hgd7] at this
            cases this
          exact c10.at1 (c9.at1 (c8.at1 e lgd) (lsak l' hl')) (pnls l' hl')
        · rcases List.mem_append.mp h with h | h
          · exact .inl h
          · rw [List.mem_singleton.mp h]; exact .inr pnN
        · rcases List.mem_append.mp hm with hm | hm
          · exact wlls hm
          · rw [← List.mem_singleton.mp hm, hwl6] at npn
            cases npn
      · rw [e3] at ev; cases ev
  | skip a k =>
    obtain ⟨u0, va, vb, ez, iw, iva, ivb⟩ := imA3 (show ImA H (_ :: zr) [.str "skip", a.data, .int k] from by
      have := eds
      cases this
      exact iz)
    cases ez
    have ek := im_int ivb
    subst ek
    walk_at "w"
    refine ⟨va, a, f.arg, hd, cs, .ref ak, some [], rfl, iva.im c06, by have := fit.1; omega, hh6, .inr ⟨ak, [], rfl, rfl, hak6⟩, fun xs hx => (by cases hx; have := p5 fit.1; simp; omega), fun H7 c7 ask7 => ?_⟩
    have c7 : Chg [ak] H6 H7 := c7
    have hak7 := ask_ref ask7
    have hf7 := c7.at1 hf6 akfa.symm
    have hh7 := c7.at1 hh6 akhd.symm
    have hy7 := c7.tup _ _ hy6
    have c07 : Chg (fa :: hd :: gd :: ls) H H7 := c06.go c7 fun x hx => .inr (by rw [List.mem_singleton.mp hx]; exact nakH)
    have gv7 : GvAt H7 gd gv ls := gv6.keep c7 (by simpa using akgd.symm) fun l' hl' => by simpa using lsak l' hl'
    have k1 := fit.2
    walk_at "w"
    refine w_iteD (fun h0 => ?_) (fun h0 => ?_)
    · have h0' : a.worth f.arg cs = 0 := V.int.inj h0
      walk_at "w"
      refine e_Frame_at hf7 fun H8 c8 hf8 => ?_
      have ej : (f.next (.skip a k) cs).at_ = f.at_ + 1 + k.toNat := by
        show f.at_ + 1 + (if a.worth f.arg cs = 0 then k.toNat else 0) = _
        rw [if_pos h0']
      refine rest H8 .non ls wl _ (c07.go c8 fun x hx => .inl (by rw [List.mem_singleton.mp hx]; simp)) ?_ (c8.at1 hh7 hdfa) (gv7.keep c8 (by simpa using gdfa) fun l' hl' => by simpa using lsfa l' hl') (fun l' h => .inl h) (c8.at1 hak7 akfa) (c8.at1 (c7.at1 rc6 akrc.symm) rcfa) (c8.at1 (c7.at1 hwl6 wlak) wlfa) rfl (c8.tup _ _ (c7.tup _ _ hm6)) wlN wlls
      rw [hf8, ej]
      have e1 : ((f.at_ : Nat) : Int) + 1 + k = ((f.at_ + 1 + k.toNat : Nat) : Int) := by omega
      rw [e1]
      rfl
    · have h0' : ¬ a.worth f.arg cs = 0 := fun z => h0 (by rw [z])
      walk_at "w"
      have ej : (f.next (.skip a k) cs).at_ = f.at_ + 1 := by
        show f.at_ + 1 + (if a.worth f.arg cs = 0 then k.toNat else 0) = _
        rw [if_neg h0']
      refine rest H7 .non ls wl _ c07 ?_ hh7 gv7 (fun l' h => .inl h) hak7 (c7.at1 rc6 akrc.symm) (c7.at1 hwl6 wlak) rfl (c7.tup _ _ hm6) wlN wlls
      rw [hf7, ej]
      rfl
  | fork x a =>
    obtain ⟨u0, va, vb, ez, iw, iva, ivb⟩ := imA3 (show ImA H (_ :: zr) [.str "fork", .str x, a.data] from by
      have := eds
      cases this
      exact iz)
    cases ez
    have ex := im_str iva
    subst ex
    walk_at "w"
    refine ⟨vb, a, f.arg, hd, cs, .ref ak, some [], rfl, ivb.im c06, by have : a.deep ≤ 5 := fit; omega, hh6, .inr ⟨ak, [], rfl, rfl, hak6⟩, fun xs hx => (by cases hx; have := p5 (e := a) fit; simp; omega), fun H7 c7 ask7 => ?_⟩
    have c7 : Chg [ak] H6 H7 := c7
    have hak7 := ask_ref ask7
    walk_at "w"
    refine k_tup (by walk_at "sz") fun M H8 nM c8 hM => ?_
    walk_at "w"
    have c68 := c7.same c8
    refine rest H8 (.ref M) ls wl _ (c06.go c68 fun x hx => .inr (by rw [List.mem_singleton.mp hx]; exact nakH)) (c68.at1 hf6 akfa.symm) (c68.at1 hh6 akhd.symm) (gv6.keep c68 (by simpa using akgd.symm) fun l' hl' => by simpa using lsak l' hl') (fun l' h => .inl h) (c8.at hak7) (c68.at1 rc6 akrc.symm) (c68.at1 hwl6 wlak) ⟨M, rfl, hM⟩ (c68.tup _ _ hm6) wlN wlls
  | call x a =>
    obtain ⟨u0, va, vb, ez, iw, iva, ivb⟩ := imA3 (show ImA H (_ :: zr) [.str "call", .str x, a.data] from by
      have := eds
      cases this
      exact iz)
    cases ez
    have ex := im_str iva
    subst ex
    walk_at "w"
    refine ⟨vb, a, f.arg, hd, cs, .ref ak, some [], rfl, ivb.im c06, by have : a.deep ≤ 5 := fit; omega, hh6, .inr ⟨ak, [], rfl, rfl, hak6⟩, fun xs hx => (by cases hx; have := p5 (e := a) fit; simp; omega), fun H7 c7 ask7 => ?_⟩
    have c7 : Chg [ak] H6 H7 := c7
    have hak7 := ask_ref ask7
    walk_at "w"
    refine k_tup (by walk_at "sz") fun M H8 nM c8 hM => ?_
    walk_at "w"
    have c68 := c7.same c8
    refine rest H8 (.ref M) ls wl _ (c06.go c68 fun x hx => .inr (by rw [List.mem_singleton.mp hx]; exact nakH)) (c68.at1 hf6 akfa.symm) (c68.at1 hh6 akhd.symm) (gv6.keep c68 (by simpa using akgd.symm) fun l' hl' => by simpa using lsak l' hl') (fun l' h => .inl h) (c8.at hak7) (c68.at1 rc6 akrc.symm) (c68.at1 hwl6 wlak) ⟨M, rfl, hM⟩ (c68.tup _ _ hm6) wlN wlls
end Fg
namespace Fg
open PySem PySem.Spec PyProof.Rows L2
/-! ### the program as a dict -/
def nmG (p : Prg) : Given := p.map fun r => (r.1, [])
theorem nmG_names (p : Prg) : (nmG p).map (·.1) = p.map (·.1) := by
  unfold nmG
  rw [List.map_map]
  rfl
theorem putK_fresh {kvs : List (Key × V)} {k : Key} {v : V} (h : k ∉ kvs.map (·.1)) : putK kvs k v = kvs ++ [(k, v)] := by
  unfold putK
  rw [if_neg]
  intro z
  obtain ⟨kv, hkv, ek⟩ := List.any_eq_true.mp z
  exact h (List.mem_map.mpr ⟨kv, hkv, of_decide_eq_true ek⟩)
theorem mergeK_new : ∀ {more kvs : List (Key × V)}, ((kvs ++ more).map (·.1)).Nodup → mergeK kvs more = kvs ++ more
  | [], kvs, _ => by rw [List.append_nil]; rfl
  | m :: r, kvs, nd => by
    have e : mergeK kvs (m :: r) = mergeK (putK kvs m.1 m.2) r := rfl
    have h1 : m.1 ∉ kvs.map (·.1) := fun z => by
      rw [List.map_append, List.map_cons] at nd
      have := (List.nodup_append.mp nd).2.2 _ z m.1 (by simp)
      exact this rfl
    rw [e, putK_fresh h1, mergeK_new (by rw [List.append_assoc]; exact nd), List.append_assoc]
    rfl
theorem rising_nodup : ∀ {ns : List Str}, rising ns = true → ns.Nodup ∧ ∀ x, (x :: ns).Nodup → True := by
  intro ns h
  refine ⟨?_, fun _ _ => trivial⟩
  have key : ∀ {x : Str} {ns : List Str}, rising (x :: ns) = true → ∀ y ∈ ns, x.cps.toList < y.cps.toList := by
    intro x ns
    induction ns generalizing x with
    | nil => intro _ y hy; cases hy
    | cons z r ih =>
      intro h y hy
      obtain ⟨h1, h2⟩ := Bool.and_eq_true_iff.mp (show (ltS x z && rising (z :: r)) = true from h)
      have h1' : x.cps.toList < z.cps.toList := of_decide_eq_true h1
      rcases List.mem_cons.mp hy with rfl | hy
      · exact h1'
      · exact List.lt_trans h1' (ih h2 y hy)
  induction ns with
  | nil => exact List.nodup_nil
  | cons x r ih =>
    have hr : rising r = true := by
      cases r with
      | nil => rfl
      | cons z r => exact (Bool.and_eq_true_iff.mp (show (ltS x z && rising (z :: r)) = true from h)).2
    refine List.nodup_cons.mpr ⟨fun m => ?_, ih hr⟩
    exact List.lt_irrefl _ (key h x m)
theorem prg_view {S : Addr → Prop} {H : Hp} {a : Addr} {p : Prg} (r : R S H (.ref a) (prgD p)) : ∃ ps ls : List Addr, H a = some (.lst (ps.map V.ref)) ∧ Paired (fun q kv => H q = some (.tup [kV kv.1, kv.2])) ps (gK (nmG p) ls) ∧ ls.length = p.length ∧ PAt H a p ls := by
  have key : ∀ {p : Prg} {xs : List V}, RA S H xs (p.map rowD) → ∃ ps ls : List Addr, xs = ps.map V.ref ∧ Paired (fun q kv => H q = some (.tup [kV kv.1, kv.2])) ps (gK (nmG p) ls) ∧ ls.length = p.length ∧ ∀ (i : Nat) (x : V) (r : Str × List Stp) (l : Addr), xs[i]? = some x → p[i]? = some r → ls[i]? = some l → ∃ (T : Addr) (ys : List V), x = .ref T ∧ H T = some (.tup [.str r.1, .ref l]) ∧ H l = some (.lst ys) ∧ ImA H ys (r.2.map Stp.data) := by
    intro p
    induction p with
    | nil =>
      intro xs h
      cases h
      exact ⟨[], [], rfl, .nil, rfl, fun i x r l h => by simp at h⟩
    | cons q p ih =>
      intro xs ra
      cases ra with
      | cons r1 rs =>
        obtain ⟨ps, ls, h0, h1, h2, h3⟩ := ih rs
        cases r1 with
        | @tup T _ _ e2 ra2 =>
          cases ra2 with
          | cons r0 rs0 =>
            cases rs0 with
            | cons r3 rs3 =>
              cases rs3
              cases r0
              cases r3 with
              | @lst l4 ys4 _ s4 e4 ra4 =>
                refine ⟨T :: ps, l4 :: ls, by rw [h0]; rfl, .cons e2 h1, by rw [List.length_cons, List.length_cons, h2], fun i x r l hx hr hl => ?_⟩
                cases i with
                | zero =>
                  cases (Option.some.inj (show some (V.ref T) = some x from hx))
                  cases (Option.some.inj (show some q = some r from hr))
                  cases (Option.some.inj (show some l4 = some l from hl))
                  exact ⟨T, ys4, rfl, e2, e4, ra4.pure (steps_noL _)⟩
                | succ i => exact h3 i x r l hx hr hl
  cases r with
  | @lst a xs _ s e ra =>
    obtain ⟨ps, ls, rfl, h1, h2, h3⟩ := key ra
    exact ⟨ps, ls, e, h1, h2, _, e, by rw [ra.length, List.length_map], h2, h3⟩
theorem prg_dict {p : Prg} {ls : List Addr} (ok : PrgOk p) (hl : ls.length = p.length) : mergeK [] (gK (nmG p) ls) = gK (nmG p) ls := by
  have e := gK_keys (gv := nmG p) (ls := ls) (by unfold nmG; rw [List.length_map]; exact hl)
  refine mergeK_new (kvs := []) ?_
  rw [List.nil_append, e, nmG_names]
  exact List.Pairwise.map _ (fun a b h z => h (Sum.inr.inj z)) (rising_nodup ok.up).1
/-- what a helper's name leads to -/
theorem prg_at {H : Hp} {a : Addr} {p : Prg} {ls : List Addr} (ok : PrgOk p) (pa : PAt H a p ls) {x : Str} (hx : x ∈ p.map (·.1)) : ∃ (i : Nat) (l : Addr) (ys : List V) (r : Str × List Stp), p[i]? = some r ∧ r.1 = x ∧ r ∈ p ∧ p.rows x = r.2 ∧ ls[i]? = some l ∧ (p.findIdx? fun r => decide (r.1 = x)) = some i ∧ valV (gK (nmG p) ls) (Sum.inr x) = some (.ref l) ∧ H l = some (.lst ys) ∧ ImA H ys (r.2.map Stp.data) := by
  obtain ⟨xs, h1, h2, h3, h4⟩ := pa
  have nd := (rising_nodup ok.up).1
  rcases gv_cases (nmG p) ls x (by unfold nmG; rw [List.length_map]; exact h3) (by rw [nmG_names]; exact nd) with ⟨_, n⟩ | ⟨i, l, row, e1, e2, e3⟩
  · rw [nmG_names] at n
    exact absurd hx n
  · unfold nmG at e1
    rw [List.getElem?_map] at e1
    cases hr : p[i]? with
    | none => rw [hr] at e1; cases e1
    | some r =>
      rw [hr] at e1
      have ex : r.1 = x := congrArg Prod.fst (Option.some.inj e1)
      have hi := (List.getElem?_eq_some_iff.mp hr).1
      obtain ⟨T, ys, g1, g2, g3, g4⟩ := h4 i xs[i] r l (List.getElem?_eq_getElem (by omega)) hr e2
      have uniq : ∀ (j : Nat) (r' : Str × List Stp), j < i → p[j]? = some r' → r'.1 ≠ x := fun j r' hj hr' z => by
        have e5 : (p.map (·.1))[j]? = (p.map (·.1))[i]? := by rw [List.getElem?_map, List.getElem?_map, hr', hr]; show some r'.1 = some r.1; rw [z, ex]
        have := (List.getElem?_inj (by rw [List.length_map]; omega) nd).mp e5
        omega
      refine ⟨i, l, ys, r, hr, ex, List.mem_of_getElem? hr, ?_, e2, find_some hr ex uniq, e3, g3, g4⟩
      unfold Prg.rows
      have : (p.find? fun r => decide (r.1 = x)) = some r := by
        rw [List.find?_eq_some_iff_getElem]
        refine ⟨decide_eq_true ex, i, hi, (List.getElem?_eq_some_iff.mp hr).2, fun j hj => ?_⟩
        have := uniq j p[j] hj (List.getElem?_eq_getElem (by omega))
        simpa using this
      rw [this]
      rfl
theorem fit_of {ns : List Str} {bh : Int} {s : Stp} (h : s.ok ns bh) : s.fit := by
  cases s with
  | cell a b => exact h
  | give x a => exact h.2
  | fork x a => exact h.2.2
  | call x a => exact h.2.2
  | wait => trivial
  | skip a k => exact ⟨h.1, h.2.1⟩
theorem makes_in {ns : List Str} {bh : Int} {s : Stp} (h : s.ok ns bh) {g : Int} {cs : Cells} {o : Str × Int} (e : s.makes g cs = some o) : o.1 ∈ ns := by
  cases s with
  | fork x a => cases e; exact h.2.1
  | call x a => cases e; exact h.2.1
  | cell a b => cases e
  | give x a => cases e
  | wait => cases e
  | skip a k => cases e
/-! ### doings and records in the heap -/
def FrmIn (K : PySem.W.Frag) (H0 H : Hp) (a : Addr) (f : Frm) : Prop := ∃ (dx l : Addr) (pv : V) (ys : List V), H a = some (O_Frame K dx (.int (f.num : Nat)) pv (.ref l) (.int f.arg) (.int (f.at_ : Nat)) (.int (f.past : Nat)) (.int (f.born : Nat))) ∧ Im H pv (pathD f.path) ∧ H0 l = some (.lst ys) ∧ ImA H0 ys (f.rows.map Stp.data)
theorem FrmIn.keep {K : PySem.W.Frag} {M : List Addr} {H0 H H' : Hp} {a : Addr} {f : Frm} (h : FrmIn K H0 H a f) (c : Chg M H H') (h1 : a ∉ M) : FrmIn K H0 H' a f := by
  obtain ⟨dx, l, pv, ys, e1, e2, e3, e4⟩ := h
  exact ⟨dx, l, pv, ys, c.keep _ _ e1 h1, e2.im c, e3, e4⟩
theorem FrmIn.some {K : PySem.W.Frag} {H0 H : Hp} {a : Addr} {f : Frm} (h : FrmIn K H0 H a f) : H a ≠ none := by
  obtain ⟨dx, l, pv, ys, e1, _⟩ := h
  rw [e1]
  exact fun z => nomatch z
def RcdIn (K : PySem.W.Frag) (own : List Addr) (H : Hp) (a : Addr) (r : Rcd) : Prop := ∃ (dx rl wl : Addr) (mv : V), H a = some (O_Record K dx mv (.str r.word) (.int (r.doer : Nat)) (chV r.child) (.ref rl) (.ref wl)) ∧ Im H mv (markD r.path r.past) ∧ H rl = some (.lst (r.reads.map V.int)) ∧ H wl = some (.lst (r.writes.map V.int)) ∧ a ∉ own ∧ rl ∉ own ∧ wl ∉ own
theorem RcdIn.keep {K : PySem.W.Frag} {own M : List Addr} {H H' : Hp} {a : Addr} {r : Rcd} (h : RcdIn K own H a r) (c : Chg M H H') (hM : ∀ x ∈ M, x ∈ own ∨ H x = none) : RcdIn K own H' a r := by
  obtain ⟨dx, rl, wl, mv, e1, e2, e3, e4, e5, e6, e7⟩ := h
  have k : ∀ {x : Addr} {o : HO}, H x = Option.some o → x ∉ own → H' x = Option.some o := fun hx hn => c.keep _ _ hx fun m => by
    rcases hM _ m with h | h
    · exact hn h
    · rw [h] at hx; cases hx
  exact ⟨dx, rl, wl, mv, k e1 e5, e2.im c, k e3 e6, k e4 e7, e5, e6, e7⟩
theorem RcdIn.more {K : PySem.W.Frag} {own own' : List Addr} {H : Hp} {a : Addr} {r : Rcd} (h : RcdIn K own H a r) (hM : ∀ x ∈ own', x ∈ own ∨ H x = none) : RcdIn K own' H a r := by
  obtain ⟨dx, rl, wl, mv, e1, e2, e3, e4, e5, e6, e7⟩ := h
  have k : ∀ {x : Addr} {o : HO}, H x = Option.some o → x ∉ own → x ∉ own' := fun hx hn m => by
    rcases hM _ m with h | h
    · exact hn h
    · rw [h] at hx; cases hx
  exact ⟨dx, rl, wl, mv, e1, e2, e3, e4, k e1 e5, k e3 e6, k e4 e7⟩
end Fg
namespace Fg
open PySem PySem.Spec PyProof.Rows L2
/-! ### one hand's doing in the heap -/
abbrev ownL (St Rc hd gd : Addr) (gls fas : List Addr) : List Addr := St :: Rc :: hd :: gd :: (gls ++ fas)
structure TI (K : PySem.W.Frag) (H0 H : Hp) (p : Prg) (St Rc hd gd : Addr) (gls fas rcs : List Addr) (m : Mc) : Prop where
  c : Chg [] H0 H
  own : (ownL St Rc hd gd gls fas).Nodup
  new : ∀ x ∈ ownL St Rc hd gd gls fas, H0 x = none
  st : H St = some (.lst (fas.reverse.map V.ref))
  fl : fas.length = m.stack.length
  fr : ∀ (i : Nat) (fa : Addr) (f : Frm), fas[i]? = some fa → m.stack[i]? = some f → FrmIn K H0 H fa f ∧ f.path.length ≤ m.recs.length ∧ ∃ r ∈ p, f.rows = r.2
  rc : H Rc = some (.lst (rcs.map V.ref))
  rl : rcs.length = m.recs.length
  rs : ∀ (i : Nat) (ra : Addr) (r : Rcd), rcs[i]? = some ra → m.recs[i]? = some r → RcdIn K (ownL St Rc hd gd gls fas) H ra r
  hd : H hd = some (.dK (cK m.cells))
  gv : GvAt H gd m.given gls
  s1 : m.cells.length ≤ 10000 + m.recs.length
  s2 : m.given.length ≤ m.recs.length
  s3 : ∀ g ∈ m.given, g.2.length ≤ m.recs.length
  s4 : m.stack.length ≤ m.recs.length + 1
section
variable {K : PySem.W.Frag} {H0 H : Hp} {p : Prg} {St Rc hd gd : Addr} {gls fas rcs : List Addr} {m : Mc}
theorem own_ne {xs : List Addr} {x y : Addr} (nd : (x :: xs).Nodup) (h : y ∈ xs) : y ≠ x := fun e => (List.nodup_cons.mp nd).1 (by rw [← e]; exact h)
theorem TI.nSt (t : TI K H0 H p St Rc hd gd gls fas rcs m) : Rc ≠ St ∧ hd ≠ St ∧ gd ≠ St ∧ (∀ l ∈ gls, l ≠ St) ∧ ∀ f ∈ fas, f ≠ St :=
  ⟨own_ne t.own (by simp), own_ne t.own (by simp), own_ne t.own (by simp), fun l h => own_ne t.own (by simp [h]), fun f h => own_ne t.own (by simp [h])⟩
theorem TI.nRc (t : TI K H0 H p St Rc hd gd gls fas rcs m) : hd ≠ Rc ∧ gd ≠ Rc ∧ (∀ l ∈ gls, l ≠ Rc) ∧ ∀ f ∈ fas, f ≠ Rc :=
  have n := (List.nodup_cons.mp t.own).2
  ⟨own_ne n (by simp), own_ne n (by simp), fun l h => own_ne n (by simp [h]), fun f h => own_ne n (by simp [h])⟩
theorem TI.nHd (t : TI K H0 H p St Rc hd gd gls fas rcs m) : gd ≠ hd ∧ (∀ l ∈ gls, l ≠ hd) ∧ ∀ f ∈ fas, f ≠ hd :=
  have n := (List.nodup_cons.mp (List.nodup_cons.mp t.own).2).2
  ⟨own_ne n (by simp), fun l h => own_ne n (by simp [h]), fun f h => own_ne n (by simp [h])⟩
theorem TI.nGd (t : TI K H0 H p St Rc hd gd gls fas rcs m) : (∀ l ∈ gls, l ≠ gd) ∧ ∀ f ∈ fas, f ≠ gd :=
  have n := (List.nodup_cons.mp (List.nodup_cons.mp (List.nodup_cons.mp t.own).2).2).2
  ⟨fun l h => own_ne n (by simp [h]), fun f h => own_ne n (by simp [h])⟩
theorem TI.nGf (t : TI K H0 H p St Rc hd gd gls fas rcs m) : (gls ++ fas).Nodup := (List.nodup_cons.mp (List.nodup_cons.mp (List.nodup_cons.mp (List.nodup_cons.mp t.own).2).2).2).2
theorem TI.some (t : TI K H0 H p St Rc hd gd gls fas rcs m) : ∀ x ∈ ownL St Rc hd gd gls fas, H x ≠ none := by
  intro x hx
  simp only [List.mem_cons, List.mem_append] at hx
  rcases hx with rfl | rfl | rfl | rfl | hx | hx
  · rw [t.st]; exact fun z => nomatch z
  · rw [t.rc]; exact fun z => nomatch z
  · rw [t.hd]; exact fun z => nomatch z
  · rw [t.gv.dict]; exact fun z => nomatch z
  · obtain ⟨i, hi⟩ := List.getElem?_of_mem hx
    have hg : i < m.given.length := by rw [← t.gv.len]; exact (List.getElem?_eq_some_iff.mp hi).1
    rw [t.gv.rows i _ x (List.getElem?_eq_getElem hg) hi]
    exact fun z => nomatch z
  · obtain ⟨i, hi⟩ := List.getElem?_of_mem hx
    have hf : i < m.stack.length := by rw [← t.fl]; exact (List.getElem?_eq_some_iff.mp hi).1
    exact (t.fr i x _ hi (List.getElem?_eq_getElem hf)).1.some
/-- only new things -/
theorem TI.same {H' : Hp} (t : TI K H0 H p St Rc hd gd gls fas rcs m) (c : Chg [] H H') : TI K H0 H' p St Rc hd gd gls fas rcs m :=
  ⟨t.c.same c, t.own, t.new, c.at t.st, t.fl, fun i fa f h1 h2 => ⟨(t.fr i fa f h1 h2).1.keep c (by simp), (t.fr i fa f h1 h2).2⟩, c.at t.rc, t.rl, fun i ra r h1 h2 => (t.rs i ra r h1 h2).keep c (by simp), c.at t.hd, t.gv.same c, t.s1, t.s2, t.s3, t.s4⟩
/-- the topmost doing is over -/
theorem TI.pop {H' : Hp} {fa : Addr} {f : Frm} {r : List Frm} (t : TI K H0 H p St Rc hd gd gls (fa :: fas) rcs m) (hs : m.stack = f :: r) (c : Chg [St] H H') (h : H' St = Option.some (.lst (fas.reverse.map V.ref))) : TI K H0 H' p St Rc hd gd gls fas rcs { m with stack := r } := by
  obtain ⟨n1, n2, n3, n4, n5⟩ := t.nSt
  have sub : ∀ x ∈ ownL St Rc hd gd gls fas, x ∈ ownL St Rc hd gd gls (fa :: fas) := fun x hx => by
    simp only [List.mem_cons, List.mem_append] at hx ⊢
    rcases hx with h | h | h | h | h | h <;> simp [h]
  have sl : (ownL St Rc hd gd gls fas).Sublist (ownL St Rc hd gd gls (fa :: fas)) := by
    refine .cons₂ _ (.cons₂ _ (.cons₂ _ (.cons₂ _ ?_)))
    exact List.Sublist.append (List.Sublist.refl _) (List.sublist_cons_self _ _)
  refine ⟨t.c.one c (t.new _ (by simp)), t.own.sublist sl, fun x hx => t.new x (sub x hx), h, ?_, fun i a g h1 h2 => ?_, c.at1 t.rc n1, t.rl, fun i ra r' h1 h2 => ?_, c.at1 t.hd n2, t.gv.keep c (by simpa using n3) fun l hl => by simpa using n4 l hl, t.s1, t.s2, t.s3, ?_⟩
  · have := t.fl
    rw [hs, List.length_cons, List.length_cons] at this
    show fas.length = r.length
    omega
  · have := t.fr (i + 1) a g h1 (by rw [hs]; exact h2)
    exact ⟨this.1.keep c (by simpa using n5 a (List.mem_cons_of_mem _ (List.mem_of_getElem? h1))), this.2⟩
  · exact ((t.rs i ra r' h1 h2).keep c fun x hx => .inl (by rw [List.mem_singleton.mp hx]; simp)).more fun x hx => .inl (sub x hx)
  · have := t.s4
    rw [hs, List.length_cons] at this
    show r.length ≤ m.recs.length + 1
    omega
def Mc.half (m : Mc) (f : Frm) (r : List Frm) (s : Stp) : Mc := { stack := f.next s m.cells :: r, cells := s.puts f.arg m.cells, given := s.gives f.arg m.cells m.given, recs := m.recs ++ [f.rcd s m.cells], deep := m.deep, many := m.many }
theorem puts_len (s : Stp) (g : Int) (cs : Cells) : (s.puts g cs).length ≤ cs.length + 1 := by
  cases s with
  | cell a b => exact cPut_len _ _ _
  | _ => exact Nat.le_succ _
theorem gives_len (s : Stp) (g : Int) (cs : Cells) (gv : Given) : (s.gives g cs gv).length ≤ gv.length + 1 := by
  cases s with
  | give x a => exact gAdd_len _ _ _
  | _ => exact Nat.le_succ _
theorem gives_row (s : Stp) (g : Int) (cs : Cells) (gv : Given) (n : Nat) (h : ∀ x ∈ gv, x.2.length ≤ n) : ∀ x ∈ s.gives g cs gv, x.2.length ≤ n + 1 := by
  have base : ∀ x ∈ gv, x.2.length ≤ n + 1 := fun x hx => Nat.le_succ_of_le (h x hx)
  cases s with
  | give y a =>
    intro x hx
    have hx : x ∈ gAdd gv y (a.worth g cs) := hx
    unfold gAdd at hx
    split at hx
    · obtain ⟨z, hz, rfl⟩ := List.mem_map.mp hx
      have := h z hz
      split
      · show (z.2 ++ [_]).length ≤ n + 1
        rw [List.length_append, List.length_singleton]
        omega
      · omega
    · rcases List.mem_append.mp hx with hx | hx
      · exact base x hx
      · rw [List.mem_singleton.mp hx]
        show 1 ≤ n + 1
        omega
  | _ => exact base
/-- a step was done, its record put to the others -/
theorem TI.half {H1 H2 : Hp} {fa rc : Addr} {f : Frm} {r : List Frm} {s : Stp} {gls' : List Addr} (t : TI K H0 H p St Rc hd gd gls (fa :: fas) rcs m) (hs : m.stack = f :: r) (c1 : Chg (fa :: hd :: gd :: gls) H H1)
    (hf : FrmIn K H0 H1 fa (f.next s m.cells)) (h1 : H1 hd = Option.some (.dK (cK (s.puts f.arg m.cells)))) (g1 : GvAt H1 gd (s.gives f.arg m.cells m.given) gls') (gl : ∀ l ∈ gls', l ∈ gls ∨ H l = none) (rn : RcdNew K H gls' H1 rc (f.rcd s m.cells))
    (c2 : Chg [Rc] H1 H2) (h2 : H2 Rc = Option.some (.lst ((rcs ++ [rc]).map V.ref))) : TI K H0 H2 p St Rc hd gd gls' (fa :: fas) (rcs ++ [rc]) (m.half f r s) := by
  obtain ⟨n1, n2, n3, n4, n5⟩ := t.nSt
  obtain ⟨o1, o2, o3, o4⟩ := t.nRc
  obtain ⟨q1, q2, q3⟩ := t.nHd
  obtain ⟨u1, u2⟩ := t.nGd
  have live := t.some
  obtain ⟨dx, rl, wl, mv, e1, e2, e3, e4, e5, e6, e7, e8, e9⟩ := rn
  have c12 : Chg (Rc :: fa :: hd :: gd :: gls) H H2 := (c1.wide fun x hx => List.mem_cons_of_mem _ hx).go c2 fun a ha => .inl (by rw [List.mem_singleton.mp ha]; simp)
  have sub : ∀ x ∈ Rc :: fa :: hd :: gd :: gls, x ∈ ownL St Rc hd gd gls (fa :: fas) := fun x hx => by
    simp only [List.mem_cons, List.mem_append] at hx ⊢
    rcases hx with h | h | h | h | h <;> simp [h]
  have ownN : ∀ x ∈ ownL St Rc hd gd gls' (fa :: fas), x ∈ ownL St Rc hd gd gls (fa :: fas) ∨ H x = none := fun x hx => by
    simp only [List.mem_cons, List.mem_append] at hx ⊢
    rcases hx with h | h | h | h | h | h | h
    · exact .inl (by simp [h])
    · exact .inl (by simp [h])
    · exact .inl (by simp [h])
    · exact .inl (by simp [h])
    · rcases gl x h with h' | h'
      · exact .inl (by simp [h'])
      · exact .inr h'
    · exact .inl (by simp [h])
    · exact .inl (by simp [h])
  have nf : ∀ x ∈ fa :: fas, x ∉ gls' := fun x hx hm => by
    rcases gl x hm with h' | h'
    · have := t.nGf
      exact (List.nodup_append.mp this).2.2 x h' x hx rfl
    · exact live x (by simp only [List.mem_cons, List.mem_append] at hx ⊢; rcases hx with h | h <;> simp [h]) h'
  have glN : ∀ x, x ∈ ownL St Rc hd gd [] (fa :: fas) → x ∉ gls' := fun x hx hm => by
    rcases gl x hm with h' | h'
    · simp only [List.mem_cons, List.mem_append, List.not_mem_nil, false_or] at hx
      rcases hx with rfl | rfl | rfl | rfl | rfl | hx
      · exact n4 _ h' rfl
      · exact o3 _ h' rfl
      · exact q2 _ h' rfl
      · exact u1 _ h' rfl
      · exact nf _ (by simp) hm
      · exact nf _ (by simp [hx]) hm
    · refine live x ?_ h'
      simp only [List.mem_cons, List.mem_append, List.not_mem_nil, false_or] at hx ⊢
      rcases hx with h | h | h | h | h | h <;> simp [h]
  have own' : (ownL St Rc hd gd gls' (fa :: fas)).Nodup := by
    have b := t.own
    have b4 := (List.nodup_cons.mp (List.nodup_cons.mp (List.nodup_cons.mp (List.nodup_cons.mp b).2).2).2).2
    have fn : (fa :: fas).Nodup := (List.nodup_append.mp b4).2.1
    have gf : (gls' ++ (fa :: fas)).Nodup := List.nodup_append.mpr ⟨g1.nd, fn, fun x hx y hy e => nf y hy (by rw [← e]; exact hx)⟩
    have nm : ∀ x, x ∈ [St, Rc, hd, gd] → x ∉ gls' ++ (fa :: fas) := fun x hx hm => by
      rcases List.mem_append.mp hm with hm | hm
      · exact glN x (by simp only [List.mem_cons, List.not_mem_nil, or_false] at hx ⊢; rcases hx with h | h | h | h <;> simp [h]) hm
      · simp only [List.mem_cons, List.not_mem_nil, or_false] at hx
        rcases hx with rfl | rfl | rfl | rfl
        · exact n5 _ hm rfl
        · exact o4 _ hm rfl
        · exact q3 _ hm rfl
        · exact u2 _ hm rfl
    refine List.nodup_cons.mpr ⟨?_, List.nodup_cons.mpr ⟨?_, List.nodup_cons.mpr ⟨?_, List.nodup_cons.mpr ⟨nm gd (by simp), gf⟩⟩⟩⟩
    · intro h
      simp only [List.mem_cons] at h
      rcases h with h | h | h | h
      · exact n1 h.symm
      · exact n2 h.symm
      · exact n3 h.symm
      · exact nm St (by simp) h
    · intro h
      simp only [List.mem_cons] at h
      rcases h with h | h | h
      · exact o1 h.symm
      · exact o2 h.symm
      · exact nm Rc (by simp) h
    · intro h
      simp only [List.mem_cons] at h
      rcases h with h | h
      · exact q1 h.symm
      · exact nm hd (by simp) h
  have rcN : ∀ x, x ∈ ownL St Rc hd gd [] (fa :: fas) → H x ≠ none := fun x hx => live x (by
    simp only [List.mem_cons, List.mem_append, List.not_mem_nil, false_or] at hx ⊢
    rcases hx with h | h | h | h | h | h <;> simp [h])
  have notOwn : ∀ x, H x = none → x ∉ gls' → x ∉ ownL St Rc hd gd gls' (fa :: fas) := fun x hx hg hm => by
    simp only [List.mem_cons, List.mem_append] at hm
    rcases hm with h | h | h | h | h | h | h
    · exact rcN x (by simp [h]) hx
    · exact rcN x (by simp [h]) hx
    · exact rcN x (by simp [h]) hx
    · exact rcN x (by simp [h]) hx
    · exact hg h
    · exact rcN x (by simp [h]) hx
    · exact rcN x (by simp [h]) hx
  have rcg : rc ∉ gls' := fun hm => by
    obtain ⟨i, hi⟩ := List.getElem?_of_mem hm
    have hg : i < (s.gives f.arg m.cells m.given).length := by rw [← g1.len]; exact (List.getElem?_eq_some_iff.mp hi).1
    have := g1.rows i _ rc (List.getElem?_eq_getElem hg) hi
    rw [e1] at this
    exact nomatch this
  have rne : ∀ {x : Addr}, x ∉ ownL St Rc hd gd gls' (fa :: fas) → x ≠ Rc := fun hn e => hn (by rw [e]; simp)
  have k1 := notOwn rc e5 rcg
  have k2 := notOwn rl e6 e8
  have k3 := notOwn wl e7 e9
  have lh : (m.half f r s).recs.length = m.recs.length + 1 := by
    show (m.recs ++ [_]).length = _
    rw [List.length_append, List.length_singleton]
  refine ⟨?_, own', fun x hx => ?_, ?_, ?_, fun i a g hi hg => ?_, h2, ?_, fun i ra r' hi hr => ?_, c2.at1 h1 o1, g1.keep c2 (by simpa using o2) (fun l hl => by simpa using (fun e : l = Rc => glN Rc (by simp) (by rw [← e]; exact hl))), ?_, ?_, ?_, ?_⟩
  · exact t.c.go c12 fun x hx => .inr (t.new x (sub x hx))
  · rcases ownN x hx with h | h
    · exact t.new x h
    · exact t.c.dom x h
  · refine c12.keep _ _ t.st fun hm => ?_
    simp only [List.mem_cons] at hm
    rcases hm with h | h | h | h | h
    · exact n1 h.symm
    · exact n5 _ (by simp) h.symm
    · exact n2 h.symm
    · exact n3 h.symm
    · exact n4 _ h rfl
  · have := t.fl
    rw [hs] at this
    exact this
  · cases i with
    | zero =>
      cases (Option.some.inj (show Option.some fa = Option.some a from hi))
      cases (Option.some.inj (show Option.some (f.next s m.cells) = Option.some g from hg))
      have old := t.fr 0 fa f rfl (by rw [hs]; rfl)
      exact ⟨hf.keep c2 (by simpa using o4 fa (by simp)), by rw [lh]; exact Nat.le_succ_of_le old.2.1, old.2.2⟩
    | succ i =>
      have old := t.fr (i + 1) a g hi (by rw [hs]; exact hg)
      refine ⟨old.1.keep c12 fun hm => ?_, by rw [lh]; exact Nat.le_succ_of_le old.2.1, old.2.2⟩
      have ha : a ∈ fas := List.mem_of_getElem? hi
      simp only [List.mem_cons] at hm
      rcases hm with h | h | h | h | h
      · exact o4 a (by simp [ha]) h
      · have := (List.nodup_append.mp t.nGf).2.1
        exact (List.nodup_cons.mp this).1 (by rw [← h]; exact ha)
      · exact q3 a (by simp [ha]) h
      · exact u2 a (by simp [ha]) h
      · exact (List.nodup_append.mp t.nGf).2.2 a h a (by simp [ha]) rfl
  · rw [lh, List.length_append, List.length_singleton, t.rl]
  · by_cases hj : i < rcs.length
    · rw [List.getElem?_append_left hj] at hi
      have hr' : m.recs[i]? = Option.some r' := by
        have hr2 : (m.recs ++ [f.rcd s m.cells])[i]? = Option.some r' := hr
        rw [List.getElem?_append_left (by rw [← t.rl]; exact hj)] at hr2
        exact hr2
      have old := t.rs i ra r' hi hr'
      have old1 : RcdIn K (ownL St Rc hd gd gls (fa :: fas) ++ gls') H ra r' := old.more fun x hx => by
        rcases List.mem_append.mp hx with hx | hx
        · exact .inl hx
        · rcases gl x hx with h | h
          · exact .inl (by simp [h])
          · exact .inr h
      refine (old1.keep c12 fun x hx => .inl (List.mem_append_left _ (sub x hx))).more fun x hx => .inl ?_
      simp only [List.mem_cons, List.mem_append] at hx ⊢
      rcases hx with h | h | h | h | h | h | h <;> simp [h]
    · have hj2 : i = rcs.length := by
        have := (List.getElem?_eq_some_iff.mp hi).1
        rw [List.length_append, List.length_singleton] at this
        omega
      subst hj2
      rw [List.getElem?_append_right (Nat.le_refl _), Nat.sub_self] at hi
      have hr2 : (m.recs ++ [f.rcd s m.cells])[rcs.length]? = Option.some r' := hr
      rw [t.rl, List.getElem?_append_right (Nat.le_refl _), Nat.sub_self] at hr2
      cases (Option.some.inj (show Option.some rc = Option.some ra from hi))
      cases (Option.some.inj (show Option.some (f.rcd s m.cells) = Option.some r' from hr2))
      exact ⟨dx, rl, wl, mv, c2.at1 e1 (rne k1), e2.im c2, c2.at1 e3 (rne k2), c2.at1 e4 (rne k3), k1, k2, k3⟩
  · have := puts_len s f.arg m.cells
    have := t.s1
    rw [lh]
    show (s.puts f.arg m.cells).length ≤ _
    omega
  · have := gives_len s f.arg m.cells m.given
    have := t.s2
    rw [lh]
    show (s.gives f.arg m.cells m.given).length ≤ _
    omega
  · rw [lh]
    exact gives_row s f.arg m.cells m.given _ t.s3
  · have := t.s4
    rw [hs, List.length_cons] at this
    rw [lh]
    show r.length + 1 ≤ _
    omega
end
end Fg
namespace Fg
open PySem PySem.Spec PyProof.Rows L2
section
variable {K : PySem.W.Frag} {H0 H : Hp} {p : Prg} {St Rc hd gd : Addr} {gls fas rcs : List Addr} {m : Mc}
/-- the last record has a child -/
theorem TI.child {H' : Hp} {rc dx rl wl : Addr} {mv : V} {c c' : Rcd} {rs0 : List Rcd} (t : TI K H0 H p St Rc hd gd gls fas (rcs ++ [rc]) m) (hr : m.recs = rs0 ++ [c]) (ch : Chg [rc] H H') (n0 : H0 rc = none)
    (e : H rc = Option.some (O_Record K dx mv (.str c.word) (.int (c.doer : Nat)) (chV c.child) (.ref rl) (.ref wl))) (e' : H' rc = Option.some (O_Record K dx mv (.str c'.word) (.int (c'.doer : Nat)) (chV c'.child) (.ref rl) (.ref wl)))
    (hc : c'.path = c.path ∧ c'.past = c.past ∧ c'.reads = c.reads ∧ c'.writes = c.writes) (nr : rc ∉ rcs) : TI K H0 H' p St Rc hd gd gls fas (rcs ++ [rc]) { m with recs := rs0 ++ [c'] } := by
  have lr : (rs0 ++ [c']).length = m.recs.length := by rw [hr, List.length_append, List.length_append]; rfl
  have l0 : rcs.length = rs0.length := by
    have := t.rl
    rw [hr, List.length_append, List.length_append, List.length_singleton, List.length_singleton] at this
    omega
  have last := t.rs rcs.length rc c (by rw [List.getElem?_append_right (Nat.le_refl _), Nat.sub_self]; rfl) (by rw [hr, l0, List.getElem?_append_right (Nat.le_refl _), Nat.sub_self]; rfl)
  obtain ⟨dx', rl', wl', mv', f1, f2, f3, f4, f5, f6, f7⟩ := last
  rw [e] at f1
  cases (Option.some.inj f1)
  have ne : ∀ x ∈ ownL St Rc hd gd gls fas, x ≠ rc := fun x hx z => f5 (by rw [← z]; exact hx)
  have nrl : rl ≠ rc := fun z => by rw [z, e] at f3; exact nomatch f3
  have nwl : wl ≠ rc := fun z => by rw [z, e] at f4; exact nomatch f4
  refine ⟨t.c.one ch n0, t.own, t.new, ch.at1 t.st (ne _ (by simp)), t.fl, fun i fa f h1 h2 => ?_, ch.at1 t.rc (ne _ (by simp)), by rw [t.rl]; exact lr.symm, fun i ra r h1 h2 => ?_, ch.at1 t.hd (ne _ (by simp)), t.gv.keep ch (by simpa using ne gd (by simp)) (fun l hl => by simpa using ne l (by simp [hl])), ?_, ?_, ?_, ?_⟩
  · have old := t.fr i fa f h1 h2
    exact ⟨old.1.keep ch (by simpa using ne fa (by simp [List.mem_of_getElem? h1])), by show f.path.length ≤ (rs0 ++ [c']).length; rw [lr]; exact old.2.1, old.2.2⟩
  · by_cases hj : i < rcs.length
    · have h1' := h1
      rw [List.getElem?_append_left hj] at h1'
      have h2' : (rs0 ++ [c'])[i]? = Option.some r := h2
      rw [List.getElem?_append_left (by omega)] at h2'
      obtain ⟨dx2, rl2, wl2, mv2, g1, g2, g3, g4, g5, g6, g7⟩ := t.rs i ra r h1 (by rw [hr, List.getElem?_append_left (by omega)]; exact h2')
      have nra : ra ≠ rc := fun z => nr (by rw [← z]; exact List.mem_of_getElem? h1')
      exact ⟨dx2, rl2, wl2, mv2, ch.at1 g1 nra, g2.im ch, ch.at1 g3 (fun z => by rw [z, e] at g3; exact nomatch g3), ch.at1 g4 (fun z => by rw [z, e] at g4; exact nomatch g4), g5, g6, g7⟩
    · have hj2 : i = rcs.length := by
        have := (List.getElem?_eq_some_iff.mp h1).1
        rw [List.length_append, List.length_singleton] at this
        omega
      subst hj2
      rw [List.getElem?_append_right (Nat.le_refl _), Nat.sub_self] at h1
      have h2' : (rs0 ++ [c'])[rcs.length]? = Option.some r := h2
      rw [l0, List.getElem?_append_right (Nat.le_refl _), Nat.sub_self] at h2'
      cases (Option.some.inj (show Option.some rc = Option.some ra from h1))
      cases (Option.some.inj (show Option.some c' = Option.some r from h2'))
      refine ⟨dx, rl, wl, mv, e', ?_, ?_, ?_, f5, f6, f7⟩
      · rw [hc.1, hc.2.1]
        exact f2.im ch
      · rw [hc.2.2.1]
        exact ch.at1 f3 nrl
      · rw [hc.2.2.2]
        exact ch.at1 f4 nwl
  · show m.cells.length ≤ 10000 + (rs0 ++ [c']).length
    rw [lr]; exact t.s1
  · show m.given.length ≤ (rs0 ++ [c']).length
    rw [lr]; exact t.s2
  · show ∀ g ∈ m.given, g.2.length ≤ (rs0 ++ [c']).length
    rw [lr]; exact t.s3
  · show m.stack.length ≤ (rs0 ++ [c']).length + 1
    rw [lr]; exact t.s4
/-- a new doing on top -/
theorem TI.push {H1 H' : Hp} {nf : Addr} {f : Frm} (t : TI K H0 H p St Rc hd gd gls fas rcs m) (c1 : Chg [] H H1) (nn : H nf = none) (hf : FrmIn K H0 H1 nf f) (hp : f.path.length ≤ m.recs.length) (hr : ∃ r ∈ p, f.rows = r.2) (c2 : Chg [St] H1 H') (h : H' St = Option.some (.lst (fas.reverse.map V.ref ++ [.ref nf]))) (s4 : m.stack.length + 1 ≤ m.recs.length + 1) :
    TI K H0 H' p St Rc hd gd gls (nf :: fas) rcs { m with stack := f :: m.stack } := by
  have live := t.some
  have t1 := t.same c1
  obtain ⟨n1, n2, n3, n4, n5⟩ := t.nSt
  have ne : ∀ x ∈ ownL St Rc hd gd gls fas, x ≠ nf := fun x hx z => live x hx (by rw [z]; exact nn)
  have own' : (ownL St Rc hd gd gls (nf :: fas)).Perm (nf :: ownL St Rc hd gd gls fas) := by
    have e : gls ++ nf :: fas = gls ++ ([nf] ++ fas) := rfl
    show (St :: Rc :: hd :: gd :: (gls ++ nf :: fas)).Perm _
    have p1 : (gls ++ nf :: fas).Perm (nf :: (gls ++ fas)) := List.perm_middle
    have p2 := (((p1.cons gd).cons hd).cons Rc).cons St
    refine p2.trans ?_
    have q1 : (gd :: nf :: (gls ++ fas)).Perm (nf :: gd :: (gls ++ fas)) := List.Perm.swap _ _ _
    have q2 : (hd :: nf :: gd :: (gls ++ fas)).Perm (nf :: hd :: gd :: (gls ++ fas)) := List.Perm.swap _ _ _
    have q3 : (Rc :: nf :: hd :: gd :: (gls ++ fas)).Perm (nf :: Rc :: hd :: gd :: (gls ++ fas)) := List.Perm.swap _ _ _
    have q4 : (St :: nf :: Rc :: hd :: gd :: (gls ++ fas)).Perm (nf :: St :: Rc :: hd :: gd :: (gls ++ fas)) := List.Perm.swap _ _ _
    exact ((((q1.cons hd).trans q2).cons Rc).trans q3).cons St |>.trans q4
  have nst : nf ≠ St := fun z => ne St (by simp) z.symm
  refine ⟨t1.c.one c2 (t.new _ (by simp)), own'.nodup_iff.mpr (List.nodup_cons.mpr ⟨fun hm => ne nf hm rfl, t.own⟩), fun x hx => ?_, by rw [List.reverse_cons, List.map_append]; exact h, by rw [List.length_cons, t.fl]; rfl, fun i fa g h1 h2 => ?_, c2.at1 t1.rc n1, t.rl, fun i ra r h1 h2 => ?_, c2.at1 t1.hd n2, t1.gv.keep c2 (by simpa using n3) (fun l hl => by simpa using n4 l hl), t.s1, t.s2, t.s3, s4⟩
  · rcases List.mem_cons.mp (own'.mem_iff.mp hx) with rfl | hx
    · exact t.c.dom _ nn
    · exact t.new x hx
  · cases i with
    | zero =>
      cases (Option.some.inj (show Option.some nf = Option.some fa from h1))
      cases (Option.some.inj (show Option.some f = Option.some g from h2))
      exact ⟨hf.keep c2 (by simpa using nst), hp, hr⟩
    | succ i =>
      have old := t1.fr i fa g h1 h2
      exact ⟨old.1.keep c2 (by simpa using n5 fa (List.mem_of_getElem? h1)), old.2⟩
  · have old := (t.rs i ra r h1 h2).more (own' := ownL St Rc hd gd gls (nf :: fas)) fun x hx => by
      rcases List.mem_cons.mp (own'.mem_iff.mp hx) with rfl | hx
      · exact .inr nn
      · exact .inl hx
    exact (old.keep c1 (by simp)).keep c2 fun x hx => .inl (by rw [List.mem_singleton.mp hx]; simp)
/-- the second doing is another one at the same place -/
theorem TI.second {H' : Hp} {nf fa : Addr} {f0 f f2 : Frm} {r : List Frm} (t : TI K H0 H p St Rc hd gd gls (nf :: fa :: fas) rcs m) (hs : m.stack = f0 :: f :: r) (c : Chg [fa] H H') (hf : FrmIn K H0 H' fa f2) (e1 : f2.path = f.path) (e2 : f2.rows = f.rows) :
    TI K H0 H' p St Rc hd gd gls (nf :: fa :: fas) rcs { m with stack := f0 :: f2 :: r } := by
  obtain ⟨n1, n2, n3, n4, n5⟩ := t.nSt
  obtain ⟨o1, o2, o3, o4⟩ := t.nRc
  obtain ⟨q1, q2, q3⟩ := t.nHd
  obtain ⟨u1, u2⟩ := t.nGd
  have m1 : fa ∈ nf :: fa :: fas := by simp
  have gf := t.nGf
  have fn : (nf :: fa :: fas).Nodup := (List.nodup_append.mp gf).2.1
  refine ⟨t.c.one c (t.new _ (by simp)), t.own, t.new, c.at1 t.st (Ne.symm (n5 fa m1)), ?_, fun i a g h1 h2 => ?_, c.at1 t.rc (Ne.symm (o4 fa m1)), t.rl, fun i ra r' h1 h2 => (t.rs i ra r' h1 h2).keep c fun x hx => .inl (by rw [List.mem_singleton.mp hx]; simp), c.at1 t.hd (Ne.symm (q3 fa m1)), t.gv.keep c (by simpa using Ne.symm (u2 fa m1)) (fun l hl => by simpa using (fun e : l = fa => (List.nodup_append.mp gf).2.2 l hl fa m1 e)), t.s1, t.s2, t.s3, ?_⟩
  · have := t.fl
    rw [hs] at this
    exact this
  · match i with
    | 0 =>
      cases (Option.some.inj (show Option.some nf = Option.some a from h1))
      cases (Option.some.inj (show Option.some f0 = Option.some g from h2))
      have old := t.fr 0 nf f0 rfl (by rw [hs]; rfl)
      exact ⟨old.1.keep c (by simpa using fun e : nf = fa => (List.nodup_cons.mp fn).1 (by rw [e]; simp)), old.2⟩
    | 1 =>
      cases (Option.some.inj (show Option.some fa = Option.some a from h1))
      cases (Option.some.inj (show Option.some f2 = Option.some g from h2))
      have old := t.fr 1 fa f rfl (by rw [hs]; rfl)
      exact ⟨hf, by rw [e1]; exact old.2.1, by rw [e2]; exact old.2.2⟩
    | i + 2 =>
      have old := t.fr (i + 2) a g h1 (by rw [hs]; exact h2)
      refine ⟨old.1.keep c ?_, old.2⟩
      have ha : a ∈ fas := List.mem_of_getElem? (show fas[i]? = Option.some a from h1)
      simpa using fun e : a = fa => (List.nodup_cons.mp (List.nodup_cons.mp fn).2).1 (by rw [← e]; exact ha)
  · have := t.s4
    rw [hs] at this
    exact this
end
end Fg
--LAW k05
namespace Fg
open PySem PySem.Spec PyProof.Rows L2
/-! ### the walk's small steps -/
local macro_rules | `(tactic| walk_at "hp") => `(tactic| first
  | assumption
  | exact upd_same
  | (refine Chg.at (by assumption) ?_; walk_at "hp")
  | (refine Chg.at1 (by assumption) ?_ (by walk_at "ne"); walk_at "hp"))
local macro_rules | `(tactic| walk_at "ne") => `(tactic| first | assumption | (apply Ne.symm; assumption))
local macro_rules | `(tactic| walk_at "sq") => `(tactic| first | assumption | exact sqL (by walk_at "hp") | (refine Chg.seq (by assumption) ?_; walk_at "sq"))
local macro_rules | `(tactic| walk_at "sz") => `(tactic| first | assumption | exact Nat.zero_le _ | (simp only [List.length_cons, List.length_nil]; decide) | exact Nat.le_trans (by first | omega | (simp; done) | (simp; omega)) (show 100000 ≤ sizeLine by decide) | exact Nat.lt_of_lt_of_le (by first | omega | (simp; done) | (simp; omega)) (show 100000 ≤ sizeLine by decide))
local macro_rules | `(tactic| walk_at "ix") => `(tactic| first | exact at0 | exact at1 | exact at2 | exact at3 | assumption | exact rfl | walk_at "ix2")
local macro_rules | `(tactic| walk_at "ix2") => `(tactic| fail)
local macro_rules | `(tactic| walk_at "num") => `(tactic| first | assumption | omega | decide | walk_at "num2")
local macro_rules | `(tactic| walk_at "num2") => `(tactic| fail)
local macro_rules | `(tactic| walk_at "im") => `(tactic| first | assumption | exact R.non (S := fun _ => False) | exact R.bl (S := fun _ => False) _ | exact R.int (S := fun _ => False) _ | exact R.str (S := fun _ => False) _ | (refine R.im (by assumption) ?_; walk_at "im"))
local macro_rules | `(tactic| walk_at "r") => `(tactic| first | assumption | exact R.non (S := fun _ => False) | exact R.bl (S := fun _ => False) _ | exact R.int (S := fun _ => False) _ | exact R.str (S := fun _ => False) _ | (refine R.same (by assumption) ?_; walk_at "r") | exact R.any (by walk_at "im"))
local macro_rules | `(tactic| walk_at "chg") => `(tactic| first
  | exact Chg.refl
  | assumption
  | (refine Chg.same ?_ (by assumption); walk_at "chg")
  | (refine Chg.both ?_ (by assumption); walk_at "chg")
  | (refine Chg.pre (by assumption) ?_; walk_at "chg"))
local macro_rules | `(tactic| walk_at "w1") => `(tactic| first
  | with_reducible apply w_seq
  | with_reducible apply w_asg
  | ((with_reducible apply w_var); (focus (exact rfl)))
  | with_reducible apply w_c
  | with_reducible apply w_op
  | with_reducible apply w_cons
  | with_reducible apply w_nil
  | with_reducible apply w_gName
  | with_reducible apply w_if
  | with_reducible apply w_test
  | with_reducible apply w_B
  | with_reducible apply w_isbl
  | with_reducible apply w_retN
  | with_reducible apply w_next
  | with_reducible apply w_drop
  | with_reducible apply w_cb
  | with_reducible apply w_call
  | with_reducible apply w_callN
  | with_reducible apply w_bm
  | with_reducible apply w_bm0
  | ((with_reducible apply w_tyL); (focus (walk_at "hp"; done)))
  | with_reducible apply w_dput
  | with_reducible apply w_m1
  | with_reducible apply w_isstr
  | with_reducible apply w_and
  | with_reducible apply w_or
  | with_reducible apply w_not
  | with_reducible apply w_andV
  | with_reducible apply w_orV
  | with_reducible apply w_notV
  | with_reducible apply w_ifE
  | with_reducible apply w_chain
  | with_reducible apply w_un
  | with_reducible apply w_neg
  | with_reducible apply w_add
  | with_reducible apply w_sub
  | ((with_reducible apply w_mod); (focus (walk_at "num"; done)))
  | ((with_reducible apply w_mul); (focus (walk_at "num"; done)))
  | ((with_reducible apply w_fdiv); (focus (walk_at "num"; done)))
  | ((with_reducible apply w_pow); (focus (walk_at "num"; done)))
  | with_reducible apply w_lt
  | with_reducible apply w_le
  | with_reducible apply w_gt
  | with_reducible apply w_ge
  | with_reducible apply w_ltS
  | with_reducible apply w_geS
  | with_reducible apply w_inC
  | with_reducible apply w_notInC
  | with_reducible apply w_isN
  | with_reducible apply w_notN
  | with_reducible apply w_isB
  | with_reducible apply w_notB
  | ((with_reducible apply w_addS); (focus (walk_at "sz"; done)))
  | ((with_reducible apply w_ixL); (focus (walk_at "sq"; done)); (focus (walk_at "ix"; done)))
  | ((with_reducible apply w_ixT); (focus (walk_at "hp"; done)); (focus (walk_at "ix"; done)))
  | ((with_reducible apply w_ixS); (focus (walk_at "sz"; done)); (focus (walk_at "ix"; done)))
  | with_reducible apply w_gSub
  | ((with_reducible apply w_gTup); (focus (walk_at "hp"; done)); (focus (exact rfl)))
  | with_reducible apply w_gCons
  | with_reducible apply w_gNil
  | ((with_reducible apply w_aug); (focus (exact rfl)))
  | with_reducible apply w_ipI
  | ((with_reducible apply w_eq); (focus (exact rfl)))
  | ((with_reducible apply w_ne); (focus (exact rfl)))
  | with_reducible apply w_max
  | with_reducible apply w_min
  | with_reducible apply w_abs
  | with_reducible apply w_intB
  | with_reducible apply w_intI
  | with_reducible apply w_tup1
  | with_reducible apply w_lst1
  | with_reducible apply w_sl
  | with_reducible apply w_part
  | with_reducible apply w_noPart
  | with_reducible apply w_isint
  | ((with_reducible apply w_slS); (focus (walk_at "sz"; done)))
  | with_reducible apply w_iteT
  | with_reducible apply w_iteF
  | with_reducible apply w_iteN
  | ((with_reducible apply w_iteYes); (focus (exact rfl)))
  | ((with_reducible apply w_iteNo); (focus (exact rfl)))
  | ((with_reducible apply w_lenL); (focus (walk_at "sq"; done)))
  | ((with_reducible apply w_lenT); (focus (walk_at "hp"; done)))
  | ((with_reducible apply w_lenS); (focus (walk_at "sz"; done)))
  | with_reducible apply w_lc
  | with_reducible apply w_for
  | with_reducible apply w_yes
  | ((with_reducible apply w_wipe); (focus (exact rfl)))
  | with_reducible apply w_iList
  | with_reducible apply w_iTup
  | with_reducible apply w_iStr
  | with_reducible apply w_iRng1
  | with_reducible apply w_iRng2
  | with_reducible apply w_iZip
  | with_reducible apply w_iEnum
  | ((with_reducible apply d_iList); (focus (walk_at "sq"; done)))
  | ((with_reducible apply d_iTup); (focus (walk_at "hp"; done)))
  | with_reducible apply d_iStr
  | ((with_reducible apply d_iRng1); (focus (walk_at "num"; done)); (focus (walk_at "num"; done)))
  | ((with_reducible apply d_iRng2); (focus (walk_at "num"; done)); (focus (walk_at "num"; done)); (focus (walk_at "num"; done)); (focus (walk_at "num"; done)))
  | ((with_reducible apply d_iZip); (focus (walk_at "sq"; done)); (focus (walk_at "sq"; done)))
  | ((with_reducible apply d_iEnum); (focus (walk_at "sq"; done)))
  | walk_at "w2")
local macro_rules | `(tactic| walk_at "w2") => `(tactic| fail)
local macro_rules | `(tactic| walk_at "wn") => `(tactic| repeat walk_at "w1")
local macro_rules | `(tactic| walk_at "w") => `(tactic| repeat (first | walk_at "w1" | with_reducible apply w_ret))

local macro_rules | `(tactic| walk_at "w2") => `(tactic| first
  | ((with_reducible apply w_isInt); (focus (walk_at "r"; done)))
  | ((with_reducible apply w_isBool); (focus (walk_at "r"; done)))
  | ((with_reducible apply w_isStr); (focus (walk_at "r"; done)))
  | ((with_reducible apply w_isTup); (focus (walk_at "r"; done)))
  | ((with_reducible apply w_isLst); (focus (walk_at "r"; done)))
  | ((with_reducible apply w_notInP); (focus (assumption)))
  | ((with_reducible apply w_ixP); (focus (assumption)); (focus (assumption))))

/-- of anything: refused with its fields -/
def sp_check (K : PySem.W.Frag) : Sp := fun vs H Q E => ∃ (v : V) (d : PyData) (S : Addr → Prop), vs = [v] ∧ R S H v d ∧ smallD d = true ∧ lenOk d = true ∧ (firstWrong d = none → ∀ H', Chg [] H H' → Q .non H') ∧
  ∀ o, firstWrong d = some o → ∀ dd H', Chg [] H H' → H' dd = some (.xd (xfs ["helper", "at"] (fwV o) [])) → E (.ref (He.ga K "NoProgram")) (some dd) H'
def t_check (E : XK) (K : PySem.W.Frag) : TS :=
    tSeq (tAsg (tCall sp_first_wrong [] E0 (tCons (tVar 0) (tNil))) (gName 1))
    (tIfS (tTest (tOp oNotN (tVar 1) (tC .non))) (tRaiseX (He.ga K "NoProgram") ["helper", "at"] E (tCons (tOp (rIxT K) (tVar 1) (tC (.int 0))) (tCons (tOp (rIxT K) (tVar 1) (tC (.int 1))) (tNil)))) (tNext))
theorem pure_check {K : PySem.W.Frag} (vs : List V) (H : Hp) (Q : VK) (E : XK) (h : sp_check K vs H Q E) : t_check E K (fin Q) (start ["program", "wrong"] vs) H := by
  obtain ⟨v, d, S, rfl, r, sm, lo, qn, qs⟩ := h
  show t_check E K _ [some v, none] H
  unfold t_check
  walk_at "w"
  refine ⟨v, d, S, rfl, r, sm, lo, fun e H1 c1 => ?_, fun o e p H1 c1 hp => ?_⟩
  · walk_at "w"
    exact qn e H1 c1
  · walk_at "w"
    refine w_raiseX ?_
    cases o with
    | none =>
      have hp : H1 p = some (.tup [.non, .non]) := hp
      walk_at "w"
      exact ⟨rfl, by simp, fun dd H2 c2 _ h2 => qs none e dd H2 (c1.same c2) h2⟩
    | some o =>
      obtain ⟨n, k⟩ := o
      have hp : H1 p = some (.tup [.str n, .int (k : Nat)]) := hp
      walk_at "w"
      exact ⟨rfl, by simp, fun dd H2 c2 _ h2 => qs (some (n, k)) e dd H2 (c1.same c2) h2⟩
end Fg
namespace Fg
open PySem PySem.Spec PyProof.Rows L2
/-! ### == of things whose parts are the same objects -/
def okV : V → Bool
  | .byt _ => false
  | .flt _ => false
  | .ty _ => false
  | _ => true
/-- the same, or lists and tuples of such ones, n within one another at most -/
def Shr : Nat → Hp → V → V → Prop
  | 0, _, x, y => x = y ∧ okV x = true
  | n + 1, H, x, y => (x = y ∧ okV x = true) ∨ ∃ (a b : Addr) (xs ys : List V), x = .ref a ∧ y = .ref b ∧ ((H a = some (.lst xs) ∧ H b = some (.lst ys)) ∨ (H a = some (.tup xs) ∧ H b = some (.tup ys))) ∧ xs.length = ys.length ∧ ∀ (i : Nat) u w, xs[i]? = some u → ys[i]? = some w → Shr n H u w
section
variable {X : Cx} {pins : List (Addr × Obj)} {σ : L2.St} {H : Hp} {s : Shared}
theorem eqAt_one {A : Around} {x : V} {v u : Value} (h : okV x = true) (rv : RelV x v) (ru : RelV x u) : SeqAt.EqAt A s v u true := by
  cases x with
  | non => cases (show v = Value.none from rv); cases (show u = Value.none from ru); exact SeqAt.EqAt.same _
  | bl b => cases (show v = Value.bool b from rv); cases (show u = Value.bool b from ru); exact SeqAt.EqAt.same _
  | int i =>
    obtain ⟨k, q⟩ := (show ∃ k, v = Value.int i k from rv)
    cases q
    obtain ⟨k', q⟩ := (show ∃ k, u = Value.int i k from ru)
    cases q
    have := SeqAt.EqAt.int_int (A := A) (s := s) i k i k'
    rw [beq_self_eq_true] at this
    exact this
  | str i =>
    obtain ⟨k, q⟩ := (show ∃ k, v = Value.str i k from rv)
    cases q
    obtain ⟨k', q⟩ := (show ∃ k, u = Value.str i k from ru)
    cases q
    have := SeqAt.EqAt.str_str (A := A) (s := s) i k i k'
    rw [beq_self_eq_true] at this
    exact this
  | ref a => cases (show v = Value.ref a from rv); cases (show u = Value.ref a from ru); exact SeqAt.EqAt.same _
  | byt b => cases h
  | flt b => cases h
  | ty b => cases h
theorem all_true (n : Nat) : ((List.range n).all fun _ => true) = true := by simp
theorem shr_eqAt (I : Inv X pins σ H s) : ∀ (n : Nat) {A : Around} {x y : V} {v u : Value}, Shr n H x y → RelV x v → RelV y u → A.units + n < cLine → SeqAt.EqAt A s v u true
  | 0, A, x, y, v, u, ⟨e, ok⟩, rv, ru, _ => by subst e; exact eqAt_one ok rv ru
  | n + 1, A, x, y, v, u, h, rv, ru, hu => by
    rcases h with ⟨e, ok⟩ | ⟨a, b, xs, ys, rfl, rfl, hc, hl, hi⟩
    · subst e; exact eqAt_one ok rv ru
    · cases (show v = Value.ref a from rv)
      cases (show u = Value.ref b from ru)
      by_cases e : a = b
      · subst e; exact SeqAt.EqAt.same _
      · refine SeqAt.EqAt.of_refs e ?_
        have hu0 : A.units < cLine := by omega
        have key : ∀ (i1 i2 : List Value), Vals xs i1 → Vals ys i2 → ∀ j (h1 : j < i1.toArray.size) (h2 : j < i2.toArray.size), SeqAt.EqAt A.in1 s i1.toArray[j] i2.toArray[j] true := fun i1 i2 r1 r2 j h1 h2 => by
          have j1 : j < xs.length := by rw [r1.length]; simpa using h1
          have j2 : j < ys.length := by rw [r2.length]; simpa using h2
          obtain ⟨u1, e1, q1⟩ := r1.get (List.getElem?_eq_getElem j1)
          obtain ⟨u2, e2, q2⟩ := r2.get (List.getElem?_eq_getElem j2)
          have k1 : i1.toArray[j] = u1 := by
            have := (List.getElem?_eq_some_iff.mp e1).2
            simpa using this
          have k2 : i2.toArray[j] = u2 := by
            have := (List.getElem?_eq_some_iff.mp e2).2
            simpa using this
          rw [k1, k2]
          exact shr_eqAt I n (hi j _ _ (List.getElem?_eq_getElem j1) (List.getElem?_eq_getElem j2)) q1 q2 (show A.units + 1 + n < cLine by omega)
        rcases hc with ⟨h1, h2⟩ | ⟨h1, h2⟩
        · obtain ⟨i1, r1, l1⟩ := lstAt I h1
          obtain ⟨i2, r2, l2⟩ := lstAt I h2
          have hs : i1.toArray.size = i2.toArray.size := by rw [List.size_toArray, List.size_toArray, ← r1.length, ← r2.length, hl]
          have := SeqAt.RcAt.lists (e := fun _ => true) l1 l2 hs hu0 (key i1 i2 r1 r2)
          rw [all_true] at this
          exact this
        · obtain ⟨i1, r1, l1⟩ := tupAt I h1
          obtain ⟨i2, r2, l2⟩ := tupAt I h2
          have hs : i1.toArray.size = i2.toArray.size := by rw [List.size_toArray, List.size_toArray, ← r1.length, ← r2.length, hl]
          have := SeqAt.RcAt.tuples (e := fun _ => true) l1 l2 hu0 (key i1 i2 r1 r2)
          rw [all_true, hs, beq_self_eq_true] at this
          exact this
/-- lists with the same parts -/
def ShrL (n : Nat) (H : Hp) (x y : V) : Prop := ∃ (a b : Addr) (xs ys : List V), x = .ref a ∧ y = .ref b ∧ H a = some (.lst xs) ∧ H b = some (.lst ys) ∧ xs.length = ys.length ∧ ∀ (i : Nat) u w, xs[i]? = some u → ys[i]? = some w → Shr n H u w
def oNeSh : R2 := fun x y H Q => ShrL 20 H x y ∧ Q (.bl false) H
theorem p_neSh (hu : X.A.units + 64 < cLine) : OpR X (compareOp .NotEq) oNeSh := by
  intro pins s σ H x y v u Q I rx ry h
  obtain ⟨⟨a, b, xs, ys, rfl, rfl, h1, h2, hl, hi⟩, q⟩ := h
  cases (show v = Value.ref a from rx)
  cases (show u = Value.ref b from ry)
  obtain ⟨i1, r1, l1⟩ := lstAt I h1
  obtain ⟨i2, r2, l2⟩ := lstAt I h2
  have hs : i1.toArray.size = i2.toArray.size := by rw [List.size_toArray, List.size_toArray, ← r1.length, ← r2.length, hl]
  have hu0 : X.A.units < cLine := by omega
  have key : ∀ j (h1 : j < i1.toArray.size) (h2 : j < i2.toArray.size), SeqAt.EqAt X.A.in1 s i1.toArray[j] i2.toArray[j] true := fun j h1 h2 => by
    have j1 : j < xs.length := by rw [r1.length]; simpa using h1
    have j2 : j < ys.length := by rw [r2.length]; simpa using h2
    obtain ⟨u1, e1, q1⟩ := r1.get (List.getElem?_eq_getElem j1)
    obtain ⟨u2, e2, q2⟩ := r2.get (List.getElem?_eq_getElem j2)
    have k1 : i1.toArray[j] = u1 := by
      have := (List.getElem?_eq_some_iff.mp e1).2
      simpa using this
    have k2 : i2.toArray[j] = u2 := by
      have := (List.getElem?_eq_some_iff.mp e2).2
      simpa using this
    rw [k1, k2]
    exact shr_eqAt I 20 (hi j _ _ (List.getElem?_eq_getElem j1) (List.getElem?_eq_getElem j2)) q1 q2 (show X.A.units + 1 + 20 < cLine by omega)
  have := SeqAt.RcNeAt.lists (e := fun _ => true) l1 l2 hs hu0 key
  rw [all_true] at this
  exact this X.prog X.w X.xe _ ⟨.bl false, H, I, rfl, q⟩
theorem w_neSh {Q : VK} {x y : V} (h : ShrL 20 H x y) (q : Q (.bl false) H) : oNeSh x y H Q := ⟨h, q⟩
/-! ### a list, != [] -/
def oNeE : R2 := fun x y H Q => ∃ (p q : Addr) (xs : List V), x = .ref p ∧ y = .ref q ∧ H p = some (.lst xs) ∧ H q = some (.lst []) ∧ Q (.bl (!xs.isEmpty)) H
theorem p_neE (hu : X.A.units + 64 < cLine) : OpR X (compareOp .NotEq) oNeE := by
  intro pins s σ H x y v u Q I rx ry h
  obtain ⟨p, q, xs, rfl, rfl, h1, h2, hq⟩ := h
  cases (show v = Value.ref p from rx)
  cases (show u = Value.ref q from ry)
  have hu0 : X.A.units < cLine := by omega
  obtain ⟨i1, r1, l1⟩ := lstAt I h1
  obtain ⟨i2, r2, l2⟩ := lstAt I h2
  cases r2
  cases r1 with
  | nil => exact (SeqAt.RcNeAt.lists (e := fun _ => true) l1 l2 rfl hu0 fun j h1 h2 => absurd h1 (by simp)) X.prog X.w X.xe _ ⟨.bl false, H, I, rfl, hq⟩
  | cons a b => exact (SeqAt.RcNeAt.lists_lengths l1 l2 (by simp) hu0) X.prog X.w X.xe _ ⟨.bl true, H, I, rfl, hq⟩
theorem w_neE {Q : VK} {p q : Addr} {xs : List V} (h1 : H p = some (.lst xs)) (h2 : H q = some (.lst [])) (k : Q (.bl (!xs.isEmpty)) H) : oNeE (.ref p) (.ref q) H Q := ⟨p, q, xs, rfl, rfl, h1, h2, k⟩
/-! ### a tuple turned about -/
end
section
variable {prog : Program} {w : World} {A : Around} {E : Value → Shared → Prop} {s : Shared}
theorem sliceApplied_rev {sl : Addr} {vl vu vs : Value} {n : Nat} {Q : Int × Int × Nat → Shared → Prop} (hs : s.heap.IsSliceOf sl vl vu vs) (pl : IsPart vl none) (pu : IsPart vu none) (ps : IsPart vs (some (-1)))
    (h : Q ((n : Int) - 1, -1, n) s) : wpAny (model prog w) A (Builtin.Slice.sliceApplied (.ref sl) (pure (n : Int))) Q E s := by
  obtain ⟨os, hos, hcs, hds⟩ := id hs
  unfold Builtin.Slice.sliceApplied Builtin.Slice.sliceFields
  refine wpAny_bind (wpAny_bind (wpAny_field hos hds (x := vl) rfl (wpAny_bind (wpAny_field hos hds (x := vu) rfl (wpAny_bind (wpAny_field hos hds (x := vs) rfl (wpAny_pure ?_)))))))
  refine wpAny_bind (HT.slicePart_ ps ?_)
  show wpAny _ _ (if ((-1 : Int) == 0) = true then _ else _) _ _ s
  rw [if_neg (by decide)]
  refine wpAny_bind (HT.slicePart_ pl (wpAny_bind (HT.slicePart_ pu (wpAny_bind (wpAny_pure ?_)))))
  show wpAny _ _ (pure (((n : Int) - 1), (-1 : Int), Builtin.Slice.slicePlaces ((n : Int) - 1) (-1) (-1))) _ _ s
  have e : Builtin.Slice.slicePlaces ((n : Int) - 1) (-1) (-1) = n := by
    unfold Builtin.Slice.slicePlaces
    rw [if_neg (by decide), show (- -1 : Int) = 1 by decide, Int.ediv_one]
    split <;> omega
  rw [e]
  exact wpAny_pure h
theorem pick_rev (xs : Array Value) : ((List.range xs.size).filterMap fun (k : Nat) => xs[(((xs.size : Int) - 1) + (k : Int) * (-1)).toNat]?).toArray = xs.toList.reverse.toArray := by
  have e : ((List.range xs.size).filterMap fun (k : Nat) => xs[(((xs.size : Int) - 1) + (k : Int) * (-1)).toNat]?) = ((List.range xs.size).map fun k => xs.size - 1 - k).filterMap (xs[·]?) := by
    rw [List.filterMap_map]
    congr 1
    funext k
    show xs[(((xs.size : Int) - 1) + (k : Int) * (-1)).toNat]? = xs[xs.size - 1 - k]?
    have : (((xs.size : Int) - 1) + (k : Int) * (-1)).toNat = xs.size - 1 - k := by omega
    rw [this]
  rw [e, PySem.W.krv_range, List.filterMap_reverse, PySem.W.krv_all]
theorem getItem_tuple_rev {t sl : Addr} {items : Array Value} {vl vu vs : Value} {Q : Value → Shared → Prop} (ht : IsTup s.heap t items) (hs : s.heap.IsSliceOf sl vl vu vs) (pl : IsPart vl none) (pu : IsPart vu none) (ps : IsPart vs (some (-1)))
    (h : Q (.ref s.heap.objs.size) { s with heap := s.heap.push { cls := .type "tuple", data := .seq items.toList.reverse.toArray } })
    (hsz : items.size ≤ sizeLine) : wpAny (model prog w) A (getItem (.ref t) (.ref sl)) Q E s := by
  have htake : sizeOk (.seq items.toList.reverse.toArray) := by
    show items.toList.reverse.toArray.size ≤ sizeLine
    rw [List.size_toArray, List.length_reverse, Array.length_toList]
    exact hsz
  obtain ⟨os, hos, hcs, hds⟩ := id hs
  have hTs : s.TypeIs (.ref sl) "slice" := ⟨os, hos, hcs⟩
  unfold getItem
  try with_reducible refine wpAny_holding ?_
  first | refine wpAny_bind (wpAny_pure ?_) | skip
  refine wpAny_bind (wpAny_sequenceKey ht.typeIs (by decide) ?_)
  refine wpAny_bind (wpAny_callSpecial?_slot (name := Str.ofString "__getitem__") ht.typeIs PyProof.Rows.slot_tuple_getitem
    (wpAny_call_entry PyProof.Rows.slot_tuple_getitem ht.typeIs entry_tuple_getitem ?_ (args_tuple_getitem _ _)))
  show wpAny _ _ (Builtin.Tuple.tupleItemsOf (.ref t) >>= _) _ _ s
  refine wpAny_bind (tupleItemsOf_ ht ?_)
  refine wpAny_bind (wpAny_typeOf hTs ?_)
  rw [if_pos (by decide)]
  refine wpAny_bind (sliceApplied_rev hs pl pu ps ?_)
  have hno : ¬ ((((items.size : Int) - 1) == 0 && (-1 : Int) == 1 && items.size == items.size) = true) := by
    intro q
    rw [Bool.and_eq_true, Bool.and_eq_true] at q
    exact absurd q.1.2 (by decide)
  show wpAny _ _ (if (((items.size : Int) - 1) == 0 && (-1 : Int) == 1 && items.size == items.size) = true then _ else _) _ _ s
  rw [if_neg hno, pick_rev]
  first
    | exact wpAny_bind (m := Builtin.Tuple.tupleExact _) (wpAny_newObj_type (wpAny_pure ⟨_, rfl, wpAny_pure h⟩) htake)
    | exact wpAny_bind (m := Builtin.Tuple.tupleExact _) (wpAny_newObj_type (wpAny_bind (wpAny_pure (wpAny_pure ⟨_, rfl, wpAny_pure h⟩))) htake)
    | exact wpAny_bind (wpAny_bind (m := Builtin.Tuple.tupleExact _) (wpAny_newObj_type (wpAny_pure (wpAny_pure ⟨_, rfl, wpAny_pure h⟩)) htake))
    | exact wpAny_bind (wpAny_bind (m := Builtin.Tuple.tupleExact _) (wpAny_newObj_type (wpAny_pure ⟨_, rfl, wpAny_pure h⟩) htake))
end
section
variable {X : Cx}
def tRevT (K : PySem.W.Frag) (te : TE) : TE := fun σ H Q => te σ H fun x H1 => ∃ a xs, x = .ref a ∧ SqT K H1 a xs ∧ ∀ p, H1 p = none → Q (.ref p) (upd H1 p (.tup xs.reverse))
theorem pe_revT {e : Expr} {te : TE} {k : Nat} {p1 p2 p3 pos : Pos} (he : PE X e te) : PE X (.Subscript e (.Slice none none (some (.UnaryOp .USub (.Constant (.int 1) k p1) p2)) p3) pos) (tRevT X.K te) := by
  refine ⟨fun pins s σ H Q I h => ?_⟩
  refine Subscript_ (thn (he.run pins s σ H _ I h) fun v s1 ⟨x, H1, I1, r1, q1⟩ => ?_)
  obtain ⟨a, xs, ex, hx, q⟩ := q1
  subst ex
  cases r1
  have hst : PO X (some (.UnaryOp .USub (.Constant (.int 1) k p1) p2)) (tPart (tUn (rU fun i => .int (-i)) (tC (.int 1)))) := po_some (pe_un un_neg pe_int)
  refine wpAny_Slice (thn (po_none.run pins s1 σ H1 (fun o H2 => o = none ∧ H2 = H1) I1 ⟨rfl, rfl⟩) fun vl s2 ⟨l, H2, I2, pl, el, e2⟩ => ?_)
  subst el e2
  refine thn (po_none.run pins s2 σ H2 (fun o H3 => o = none ∧ H3 = H2) I2 ⟨rfl, rfl⟩) fun vu s3 ⟨u, H3, I3, pu, eu, e3⟩ => ?_
  subst eu e3
  refine thn (hst.run pins s3 σ H3 (fun o H4 => o = some (-1) ∧ H4 = H3) I3 ⟨1, rfl, -1, rfl, rfl, rfl⟩) fun vs s4 ⟨o, H4, I4, ps, eo, e4⟩ => ?_
  subst eo e4
  have I5 : Inv X pins σ H4 { s4 with heap := s4.heap.push { cls := .type "slice", data := .fields #[vl, vu, vs] } } := I4.kept (t' := s4.toks) fun b ob q => Heap.get?_push_of_some _ q
  obtain ⟨its, r, ht, hz⟩ := I5.tuple hx
  have hlen := r.length
  show wpAny (model X.prog X.w) X.A (subscriptTail e (.Slice none none (some (.UnaryOp .USub (.Constant (.int 1) k p1) p2)) p3) (.ref a) (.ref s4.heap.objs.size)) (EP X pins σ Q) X.xe { s4 with heap := s4.heap.push { cls := .type "slice", data := .fields #[vl, vu, vs] } }
  refine tail_any (ops := [.ref a, .ref s4.heap.objs.size]) ht.typeIs (PyProof.Rows.slot_tuple_getitem.lookup) ?_ (by with_unfolding_all rfl)
  refine getItem_tuple_rev ht (Heap.IsSliceOf.new _ vl vu vs) pl pu ps ?_ (by rw [List.size_toArray]; omega)
  refine ⟨.ref _, _, I5.laid (t' := s4.toks) (o := .tup xs.reverse) (fun b ob q => Heap.get?_push_of_some _ q) (Nat.le_refl _) ?_, rfl, q _ (I5.hok.fresh (Nat.le_refl _))⟩
  exact ⟨by rw [List.length_reverse]; exact hz, _, r.reverse, IsTup.new _ _⟩
def KRev (K : PySem.W.Frag) (Q : VK) : VK := fun x H1 => ∃ a xs, x = .ref a ∧ SqT K H1 a xs ∧ ∀ p, H1 p = none → Q (.ref p) (upd H1 p (.tup xs.reverse))
theorem w_revT {K : PySem.W.Frag} {te : TE} {σ : L2.St} {H : Hp} {Q : VK} (h : te σ H (KRev K Q)) : tRevT K te σ H Q := h
theorem k_rev {K : PySem.W.Frag} {H : Hp} {Q : VK} {a : Addr} {xs : List V} (h : H a = some (.tup xs)) (q : ∀ p H2, H p = none → Chg [] H H2 → H2 p = some (.tup xs.reverse) → Q (.ref p) H2) : KRev K Q (.ref a) H := ⟨a, xs, rfl, sqT h, d_new q⟩
end
end Fg
namespace Fg
open PySem PySem.Spec PyProof.Rows L2
/-! ### slices -/
theorem cut_from (xs : List V) (k : Nat) : cutV xs (some (k : Nat)) none = xs.drop k := by
  unfold cutV
  rw [HT.sIx_nat, HT.sIx_none]
  rw [List.take_of_length_le (by rw [List.length_drop]; omega)]
  rcases Nat.le_total k xs.length with h | h
  · rw [Nat.min_eq_left h]
  · rw [Nat.min_eq_right h, List.drop_eq_nil_of_le (Nat.le_refl _), List.drop_eq_nil_of_le h]
theorem cut_to (xs : List V) (k : Nat) : cutV xs none (some (k : Nat)) = xs.take k := by
  unfold cutV
  rw [HT.sIx_nat, HT.sIx_none, List.drop_zero, Nat.sub_zero]
  rcases Nat.le_total k xs.length with h | h
  · rw [Nat.min_eq_left h]
  · rw [Nat.min_eq_right h, List.take_of_length_le (Nat.le_refl _), List.take_of_length_le h]
theorem cut_last (xs : List V) : cutV xs none (some (-1)) = xs.take (xs.length - 1) := by
  unfold cutV
  rw [HT.sIx_none, List.drop_zero, Nat.sub_zero]
  have e : HT.sIx xs.length xs.length (some (-1)) = xs.length - 1 := by
    show (if (-1 : Int) < 0 then ((-1 : Int) + (xs.length : Int)).toNat else min (-1 : Int).toNat xs.length) = xs.length - 1
    rw [if_pos (by decide)]
    omega
  rw [e]
theorem w_catA {K : PySem.W.Frag} {p q : Addr} {xs ys : List V} {H : Hp} {Q : VK} (h1 : H p = some (.tup xs)) (h2 : H q = some (.tup ys)) (hz : xs.length + ys.length ≤ 100000) (k : ∀ p' H2, Chg [] H H2 → H2 p' = some (.tup (xs ++ ys)) → Q (.ref p') H2) : rCatA K (.ref p) (.ref q) H Q := by
  refine ⟨p, q, xs, ys, rfl, rfl, sqT h1, sqT h2, Nat.le_trans hz (by decide), fun e => ?_, fun _ e => ?_, fun _ _ => d_new fun p' H2 _ c h => k p' H2 c h⟩
  · subst e
    exact k q H .refl h2
  · subst e
    exact k p H .refl (by rw [List.append_nil]; exact h1)
theorem w_cat {l b : Addr} {xs zs : List V} {H : Hp} {Q : VK} (h1 : H l = some (.lst xs)) (h2 : H b = some (.lst zs)) (hz : xs.length + zs.length ≤ 100000) (q : ∀ p H2, H p = none → Chg [] H H2 → H2 p = some (.lst (xs ++ zs)) → Q (.ref p) H2) : rCat (.ref l) (.ref b) H Q :=
  ⟨l, b, xs, zs, rfl, rfl, h1, h2, Nat.le_trans hz (by decide), fun p np => q p _ np (.new np) upd_same⟩
end Fg
--LAW k07
namespace Fg
open PySem PySem.Spec PyProof.Rows L2
/-! ### the walk's small steps -/
local macro_rules | `(tactic| walk_at "hp") => `(tactic| first
  | assumption
  | exact upd_same
  | (refine Chg.at (by assumption) ?_; walk_at "hp")
  | (refine Chg.at1 (by assumption) ?_ (by walk_at "ne"); walk_at "hp"))
local macro_rules | `(tactic| walk_at "ne") => `(tactic| first | assumption | (apply Ne.symm; assumption))
local macro_rules | `(tactic| walk_at "sq") => `(tactic| first | assumption | exact sqL (by walk_at "hp") | (refine Chg.seq (by assumption) ?_; walk_at "sq"))
local macro_rules | `(tactic| walk_at "sz") => `(tactic| first | assumption | exact Nat.zero_le _ | (simp only [List.length_cons, List.length_nil]; decide) | exact Nat.le_trans (by first | omega | (simp; done) | (simp; omega)) (show 100000 ≤ sizeLine by decide) | exact Nat.lt_of_lt_of_le (by first | omega | (simp; done) | (simp; omega)) (show 100000 ≤ sizeLine by decide))
local macro_rules | `(tactic| walk_at "ix") => `(tactic| first | exact at0 | exact at1 | exact at2 | exact at3 | assumption | exact rfl | walk_at "ix2")
local macro_rules | `(tactic| walk_at "ix2") => `(tactic| fail)
local macro_rules | `(tactic| walk_at "num") => `(tactic| first | assumption | omega | decide | walk_at "num2")
local macro_rules | `(tactic| walk_at "num2") => `(tactic| fail)
local macro_rules | `(tactic| walk_at "im") => `(tactic| first | assumption | exact R.non (S := fun _ => False) | exact R.bl (S := fun _ => False) _ | exact R.int (S := fun _ => False) _ | exact R.str (S := fun _ => False) _ | (refine R.im (by assumption) ?_; walk_at "im"))
local macro_rules | `(tactic| walk_at "r") => `(tactic| first | assumption | exact R.non (S := fun _ => False) | exact R.bl (S := fun _ => False) _ | exact R.int (S := fun _ => False) _ | exact R.str (S := fun _ => False) _ | (refine R.same (by assumption) ?_; walk_at "r") | exact R.any (by walk_at "im"))
local macro_rules | `(tactic| walk_at "chg") => `(tactic| first
  | exact Chg.refl
  | assumption
  | (refine Chg.same ?_ (by assumption); walk_at "chg")
  | (refine Chg.both ?_ (by assumption); walk_at "chg")
  | (refine Chg.pre (by assumption) ?_; walk_at "chg"))
local macro_rules | `(tactic| walk_at "w1") => `(tactic| first
  | with_reducible apply w_seq
  | with_reducible apply w_asg
  | ((with_reducible apply w_var); (focus (exact rfl)))
  | with_reducible apply w_c
  | with_reducible apply w_op
  | with_reducible apply w_cons
  | with_reducible apply w_nil
  | with_reducible apply w_gName
  | with_reducible apply w_if
  | with_reducible apply w_test
  | with_reducible apply w_B
  | with_reducible apply w_isbl
  | with_reducible apply w_retN
  | with_reducible apply w_next
  | with_reducible apply w_drop
  | with_reducible apply w_cb
  | with_reducible apply w_call
  | with_reducible apply w_callN
  | with_reducible apply w_bm
  | with_reducible apply w_bm0
  | ((with_reducible apply w_tyL); (focus (walk_at "hp"; done)))
  | with_reducible apply w_dput
  | with_reducible apply w_m1
  | with_reducible apply w_isstr
  | with_reducible apply w_and
  | with_reducible apply w_or
  | with_reducible apply w_not
  | with_reducible apply w_andV
  | with_reducible apply w_orV
  | with_reducible apply w_notV
  | with_reducible apply w_ifE
  | with_reducible apply w_chain
  | with_reducible apply w_un
  | with_reducible apply w_neg
  | with_reducible apply w_add
  | with_reducible apply w_sub
  | ((with_reducible apply w_mod); (focus (walk_at "num"; done)))
  | ((with_reducible apply w_mul); (focus (walk_at "num"; done)))
  | ((with_reducible apply w_fdiv); (focus (walk_at "num"; done)))
  | ((with_reducible apply w_pow); (focus (walk_at "num"; done)))
  | with_reducible apply w_lt
  | with_reducible apply w_le
  | with_reducible apply w_gt
  | with_reducible apply w_ge
  | with_reducible apply w_ltS
  | with_reducible apply w_geS
  | with_reducible apply w_inC
  | with_reducible apply w_notInC
  | with_reducible apply w_isN
  | with_reducible apply w_notN
  | with_reducible apply w_isB
  | with_reducible apply w_notB
  | ((with_reducible apply w_addS); (focus (walk_at "sz"; done)))
  | ((with_reducible apply w_ixL); (focus (walk_at "sq"; done)); (focus (walk_at "ix"; done)))
  | ((with_reducible apply w_ixT); (focus (walk_at "hp"; done)); (focus (walk_at "ix"; done)))
  | ((with_reducible apply w_ixS); (focus (walk_at "sz"; done)); (focus (walk_at "ix"; done)))
  | with_reducible apply w_gSub
  | ((with_reducible apply w_gTup); (focus (walk_at "hp"; done)); (focus (exact rfl)))
  | with_reducible apply w_gCons
  | with_reducible apply w_gNil
  | ((with_reducible apply w_aug); (focus (exact rfl)))
  | with_reducible apply w_ipI
  | ((with_reducible apply w_eq); (focus (exact rfl)))
  | ((with_reducible apply w_ne); (focus (exact rfl)))
  | with_reducible apply w_max
  | with_reducible apply w_min
  | with_reducible apply w_abs
  | with_reducible apply w_intB
  | with_reducible apply w_intI
  | with_reducible apply w_tup1
  | with_reducible apply w_lst1
  | with_reducible apply w_sl
  | with_reducible apply w_part
  | with_reducible apply w_noPart
  | with_reducible apply w_isint
  | ((with_reducible apply w_slS); (focus (walk_at "sz"; done)))
  | with_reducible apply w_iteT
  | with_reducible apply w_iteF
  | with_reducible apply w_iteN
  | ((with_reducible apply w_iteYes); (focus (exact rfl)))
  | ((with_reducible apply w_iteNo); (focus (exact rfl)))
  | ((with_reducible apply w_lenL); (focus (walk_at "sq"; done)))
  | ((with_reducible apply w_lenT); (focus (walk_at "hp"; done)))
  | ((with_reducible apply w_lenS); (focus (walk_at "sz"; done)))
  | with_reducible apply w_lc
  | with_reducible apply w_for
  | with_reducible apply w_yes
  | ((with_reducible apply w_wipe); (focus (exact rfl)))
  | with_reducible apply w_iList
  | with_reducible apply w_iTup
  | with_reducible apply w_iStr
  | with_reducible apply w_iRng1
  | with_reducible apply w_iRng2
  | with_reducible apply w_iZip
  | with_reducible apply w_iEnum
  | ((with_reducible apply d_iList); (focus (walk_at "sq"; done)))
  | ((with_reducible apply d_iTup); (focus (walk_at "hp"; done)))
  | with_reducible apply d_iStr
  | ((with_reducible apply d_iRng1); (focus (walk_at "num"; done)); (focus (walk_at "num"; done)))
  | ((with_reducible apply d_iRng2); (focus (walk_at "num"; done)); (focus (walk_at "num"; done)); (focus (walk_at "num"; done)); (focus (walk_at "num"; done)))
  | ((with_reducible apply d_iZip); (focus (walk_at "sq"; done)); (focus (walk_at "sq"; done)))
  | ((with_reducible apply d_iEnum); (focus (walk_at "sq"; done)))
  | walk_at "w2")
local macro_rules | `(tactic| walk_at "w2") => `(tactic| fail)
local macro_rules | `(tactic| walk_at "wn") => `(tactic| repeat walk_at "w1")
local macro_rules | `(tactic| walk_at "w") => `(tactic| repeat (first | walk_at "w1" | with_reducible apply w_ret))

local macro_rules | `(tactic| walk_at "w2") => `(tactic| first
  | ((with_reducible apply w_isInt); (focus (walk_at "r"; done)))
  | ((with_reducible apply w_isBool); (focus (walk_at "r"; done)))
  | ((with_reducible apply w_isStr); (focus (walk_at "r"; done)))
  | ((with_reducible apply w_isTup); (focus (walk_at "r"; done)))
  | ((with_reducible apply w_isLst); (focus (walk_at "r"; done)))
  | with_reducible apply w_fld
  | with_reducible apply w_sfld
  | with_reducible apply w_faug
  | with_reducible apply w_rAdd
  | with_reducible apply w_rSub
  | with_reducible apply w_make
  | with_reducible apply w_orT
  | with_reducible apply w_dgetd
  | with_reducible apply w_dgetk
  | with_reducible apply w_dsetd
  | ((with_reducible apply k_dgetd); (focus (walk_at "hp"; done)))
  | ((with_reducible apply k_dsetd); (focus (walk_at "hp"; done)))
  | walk_at "w3")
local macro_rules | `(tactic| walk_at "w3") => `(tactic| fail)

local macro_rules | `(tactic| walk_at "w3") => `(tactic| first
  | ((with_reducible apply g_Frame_number); (focus (assumption; done)); (focus (walk_at "hp"; done)))
  | ((with_reducible apply u_Frame_number); (focus (assumption; done)); (focus (walk_at "hp"; done)))
  | ((with_reducible apply g_Frame_path); (focus (assumption; done)); (focus (walk_at "hp"; done)))
  | ((with_reducible apply u_Frame_path); (focus (assumption; done)); (focus (walk_at "hp"; done)))
  | ((with_reducible apply g_Frame_rows); (focus (assumption; done)); (focus (walk_at "hp"; done)))
  | ((with_reducible apply u_Frame_rows); (focus (assumption; done)); (focus (walk_at "hp"; done)))
  | ((with_reducible apply g_Frame_arg); (focus (assumption; done)); (focus (walk_at "hp"; done)))
  | ((with_reducible apply u_Frame_arg); (focus (assumption; done)); (focus (walk_at "hp"; done)))
  | ((with_reducible apply g_Frame_at); (focus (assumption; done)); (focus (walk_at "hp"; done)))
  | ((with_reducible apply u_Frame_at); (focus (assumption; done)); (focus (walk_at "hp"; done)))
  | ((with_reducible apply g_Frame_past); (focus (assumption; done)); (focus (walk_at "hp"; done)))
  | ((with_reducible apply u_Frame_past); (focus (assumption; done)); (focus (walk_at "hp"; done)))
  | ((with_reducible apply g_Frame_born); (focus (assumption; done)); (focus (walk_at "hp"; done)))
  | ((with_reducible apply u_Frame_born); (focus (assumption; done)); (focus (walk_at "hp"; done)))
  | ((with_reducible apply g_Record_mark); (focus (assumption; done)); (focus (walk_at "hp"; done)))
  | ((with_reducible apply u_Record_mark); (focus (assumption; done)); (focus (walk_at "hp"; done)))
  | ((with_reducible apply g_Record_word); (focus (assumption; done)); (focus (walk_at "hp"; done)))
  | ((with_reducible apply u_Record_word); (focus (assumption; done)); (focus (walk_at "hp"; done)))
  | ((with_reducible apply g_Record_doer); (focus (assumption; done)); (focus (walk_at "hp"; done)))
  | ((with_reducible apply u_Record_doer); (focus (assumption; done)); (focus (walk_at "hp"; done)))
  | ((with_reducible apply g_Record_child); (focus (assumption; done)); (focus (walk_at "hp"; done)))
  | ((with_reducible apply u_Record_child); (focus (assumption; done)); (focus (walk_at "hp"; done)))
  | ((with_reducible apply g_Record_reads); (focus (assumption; done)); (focus (walk_at "hp"; done)))
  | ((with_reducible apply u_Record_reads); (focus (assumption; done)); (focus (walk_at "hp"; done)))
  | ((with_reducible apply g_Record_writes); (focus (assumption; done)); (focus (walk_at "hp"; done)))
  | ((with_reducible apply u_Record_writes); (focus (assumption; done)); (focus (walk_at "hp"; done)))
  | ((with_reducible apply g_Outcome_cells); (focus (assumption; done)); (focus (walk_at "hp"; done)))
  | ((with_reducible apply u_Outcome_cells); (focus (assumption; done)); (focus (walk_at "hp"; done)))
  | ((with_reducible apply g_Outcome_given); (focus (assumption; done)); (focus (walk_at "hp"; done)))
  | ((with_reducible apply u_Outcome_given); (focus (assumption; done)); (focus (walk_at "hp"; done)))
  | ((with_reducible apply g_Outcome_steps); (focus (assumption; done)); (focus (walk_at "hp"; done)))
  | ((with_reducible apply u_Outcome_steps); (focus (assumption; done)); (focus (walk_at "hp"; done)))
  | ((with_reducible apply g_Outcome_deepest); (focus (assumption; done)); (focus (walk_at "hp"; done)))
  | ((with_reducible apply u_Outcome_deepest); (focus (assumption; done)); (focus (walk_at "hp"; done))))
theorem atLast {xs : List V} {y : V} : atI (xs ++ [y]) (-1) = some y := by
  unfold atI
  have h : ixN (xs ++ [y]).length (-1) = some xs.length := by
    unfold ixN
    rw [List.length_append, List.length_singleton, if_neg (by decide), if_pos (by omega)]
    congr 1
    omega
  rw [h]
  simp
def sp_trace (K : PySem.W.Frag) : Sp := fun vs H Q E => ∃ (a : Addr) (p : Prg) (nm : Str) (g : Int) (cv : V) (cs : Cells) (most : Int) (S : Addr → Prop), vs = [.ref a, .str nm, .int g, cv, .int most] ∧ R S H (.ref a) (prgD p) ∧ PrgOk p ∧ nm ∈ p.map (·.1) ∧ CellsAt H cv cs ∧ cs.length ≤ 10000 ∧ most ≤ 20000 ∧
  (∀ m, p.ran nm g cs most = some m → ∀ (T St Rc hd gd : Addr) (gls rcs : List Addr) (H' : Hp), TI K H H' p St Rc hd gd gls [] rcs m → m.recs.length ≤ 20000 → H' T = some (.tup [.ref Rc, .ref hd, .ref gd, .int (m.deep : Nat)]) → Q (.ref T) H') ∧
  (p.ran nm g cs most = none → ∀ dd H', Chg [] H H' → H' dd = some (.xd (xfs ["most"] [.int most] [])) → E (.ref (He.ga K "TooLong")) (some dd) H')
def t_trace (E : XK) (K : PySem.W.Frag) : TS :=
    tSeq (tDrop (tCallSD (sp_check K) [] (WE (fun cls d _ H => E cls d H)) (tCons (tVar 0) (tNil))))
    (tSeq (tAsg (tCB (cDictP K) (tCons (tVar 0) (tNil))) (gName 5))
    (tSeq (tAsg (tLst (tCons (tMake (He.ga K "Frame") (sp_Frame___init__ K) [] E0 (tCons (tC (.int 0)) (tCons (tTup (tNil)) (tCons (tCallSD (sp_helper_rows K) [] (WE (fun cls d _ H => E cls d H)) (tCons (tVar 0) (tCons (tVar 1) (tNil)))) (tCons (tVar 2) (tNil)))))) (tNil))) (gName 6))
    (tSeq (tAsg (tCall sp_start_cells [] E0 (tCons (tVar 3) (tNil))) (gName 7))
    (tSeq (tAsg (tDNewK) (gName 8))
    (tSeq (tAsg (tLst (tNil)) (gName 9))
    (tSeq (tAsg (tC (.int 1)) (gName 10))
    (tSeq (tAsg (tC (.int 1)) (gName 11))
    (tSeq (tWhile (tTest (tOp oNeE (tVar 6) (tLst (tNil)))) (tSeq (tAsg (tOp (rIxL K) (tVar 6) (tUn (rU fun i => .int (-i)) (tC (.int 1)))) (gName 12))
    (tIfS (tTest (tOp oGe (tFld K (tVar 12) "at") (tCB (cLenQ K) (tCons (tFld K (tVar 12) "rows") (tNil))))) (tDrop (tBM0 K "list" rPop (tVar 6))) (tSeq (tIfS (tTest (tOp oGe (tCB (cLenQ K) (tCons (tVar 9) (tNil))) (tVar 4))) (tRaiseX (He.ga K "TooLong") ["most"] E (tCons (tVar 4) (tNil))) (tNext))
    (tSeq (tAsg (tCall (sp_step_done K) [] E0 (tCons (tVar 12) (tCons (tVar 7) (tCons (tVar 8) (tNil))))) (gTup K 2 (gCons (gName 13) (gCons (gName 14) (gNil)))))
    (tSeq (tDrop (tBM K "list" rAppend (tVar 9) (tCons (tVar 13) (tNil))))
    (tIfS (tTest (tOp oNotN (tVar 14) (tC .non))) (tSeq (sFld K (tVar 13) (tVar 11) "child")
    (tSeq (tDrop (tBM K "list" rAppend (tVar 6) (tCons (tMake (He.ga K "Frame") (sp_Frame___init__ K) [] E0 (tCons (tVar 11) (tCons (tOp (rCatA K) (tFld K (tVar 12) "path") (tTup (tCons (tFld K (tVar 12) "born") (tNil)))) (tCons (tDGet (tVar 5) (tOp (rIxT K) (tVar 14) (tC (.int 0)))) (tCons (tOp (rIxT K) (tVar 14) (tC (.int 1))) (tNil)))))) (tNil))))
    (tSeq (sFldAug K (tVar 12) (tC (.int 1)) L2.rAdd "born")
    (tSeq (tAug 11 (tC (.int 1)) (ipI fun i j => i + j))
    (tAsg (tCB cMax (tCons (tVar 10) (tCons (tCB (cLenQ K) (tCons (tVar 6) (tNil))) (tNil)))) (gName 10)))))) (tNext))))))))
    (tRet (tTup (tCons (tVar 9) (tCons (tVar 7) (tCons (tVar 8) (tCons (tVar 10) (tNil)))))))))))))))
theorem cStart_len (cs : Cells) : (cStart cs).length ≤ cs.length := by
  unfold cStart
  have : ∀ (cs acc : Cells), (cs.foldl (fun acc c => cPut acc c.1 c.2) acc).length ≤ acc.length + cs.length := by
    intro cs
    induction cs with
    | nil => intro acc; exact Nat.le_refl _
    | cons c r ih =>
      intro acc
      have h1 := ih (cPut acc c.1 c.2)
      have h2 := cPut_len acc c.1 c.2
      show (r.foldl _ (cPut acc c.1 c.2)).length ≤ _
      rw [List.length_cons]
      omega
  have := this cs []
  simpa using this
/-- ahead of each turn -/
def TW (K : PySem.W.Frag) (H : Hp) (p : Prg) (St Rc hd gd hp : Addr) (ls : List Addr) (a : Addr) (nm : Str) (g : Int) (cv : V) (most : Int) (res : Option Mc) : Nat → L2.St → Hp → Prop := fun n σ H1 => ∃ (m : Mc) (gls fas rcs : List Addr) (y12 y13 y14 : Option V), TI K H H1 p St Rc hd gd gls fas rcs m ∧ H1 hp = some (.dK (gK (nmG p) ls)) ∧ Mc.go p most n m = res ∧ m.size most ≤ n ∧ m.recs.length ≤ most.toNat ∧ rcs.Nodup ∧ (∀ x ∈ rcs, H x = none) ∧
  σ = [some (.ref a), some (.str nm), some (.int g), some cv, some (.int most), some (.ref hp), some (.ref St), some (.ref hd), some (.ref gd), some (.ref Rc), some (.int (m.deep : Nat)), some (.int (m.many : Nat)), y12, y13, y14]
theorem makes_puts {s : Stp} {g : Int} {cs : Cells} {gv : Given} {o : Str × Int} (h : s.makes g cs = some o) : s.puts g cs = cs ∧ s.gives g cs gv = gv := by
  cases s with
  | fork x a => exact ⟨rfl, rfl⟩
  | call x a => exact ⟨rfl, rfl⟩
  | cell a b => cases h
  | give x a => cases h
  | wait => cases h
  | skip a k => cases h
theorem did_none {p : Prg} {m : Mc} {f : Frm} {r : List Frm} {s : Stp} (h : s.makes f.arg m.cells = none) : m.did p f r s = m.half f r s := by
  unfold Mc.did
  rw [h]
  rfl
theorem did_some {p : Prg} {m : Mc} {f : Frm} {r : List Frm} {s : Stp} {x : Str} {w : Int} (h : s.makes f.arg m.cells = some (x, w)) :
    m.did p f r s = { stack := ⟨m.many, f.path ++ [f.born], p.rows x, w, 0, 0, 0⟩ :: { f.next s m.cells with born := f.born + 1 } :: r, cells := (m.half f r s).cells, given := (m.half f r s).given, recs := m.recs ++ [{ f.rcd s m.cells with child := some m.many }], deep := max m.deep (r.length + 2), many := m.many + 1 } := by
  have e := makes_puts (gv := m.given) h
  unfold Mc.did
  rw [h]
  show _ = Mc.mk _ (s.puts f.arg m.cells) (s.gives f.arg m.cells m.given) _ _ _
  rw [e.1, e.2]
  rfl
theorem go_over {p : Prg} {most : Int} {n : Nat} {m : Mc} {f : Frm} {r : List Frm} (hs : m.stack = f :: r) (h : f.rows[f.at_]? = none) : Mc.go p most (n + 1) m = Mc.go p most n { m with stack := r } := by
  show (match m.stack with
    | [] => some m
    | f :: r => match f.rows[f.at_]? with
      | none => Mc.go p most n { m with stack := r }
      | some s => if most ≤ (m.recs.length : Int) then none else Mc.go p most n (m.did p f r s)) = _
  rw [hs]
  show (match f.rows[f.at_]? with
      | none => Mc.go p most n { m with stack := r }
      | some s => if most ≤ (m.recs.length : Int) then none else Mc.go p most n (m.did p f r s)) = _
  rw [h]
theorem go_step {p : Prg} {most : Int} {n : Nat} {m : Mc} {f : Frm} {r : List Frm} {s : Stp} (hs : m.stack = f :: r) (h : f.rows[f.at_]? = some s) : Mc.go p most (n + 1) m = if most ≤ (m.recs.length : Int) then none else Mc.go p most n (m.did p f r s) := by
  show (match m.stack with
    | [] => some m
    | f :: r => match f.rows[f.at_]? with
      | none => Mc.go p most n { m with stack := r }
      | some s => if most ≤ (m.recs.length : Int) then none else Mc.go p most n (m.did p f r s)) = _
  rw [hs]
  show (match f.rows[f.at_]? with
      | none => Mc.go p most n { m with stack := r }
      | some s => if most ≤ (m.recs.length : Int) then none else Mc.go p most n (m.did p f r s)) = _
  rw [h]
theorem pure_trace {K : PySem.W.Frag} (CF : CFs K) (vs : List V) (H : Hp) (Q : VK) (E : XK) (h : sp_trace K vs H Q E) : t_trace E K (fin Q) (start ["program", "name", "arg", "cells", "most", "helpers", "stack", "held", "given", "records", "deepest", "many", "frame", "record", "making"] vs) H := by
  obtain ⟨a, p, nm, g, cv, cs, most, S, rfl, r, ok, hn, ca, lc, hm, qs, qn⟩ := h
  show t_trace E K _ [some (.ref a), some (.str nm), some (.int g), some cv, some (.int most), none, none, none, none, none, none, none, none, none, none] H
  unfold t_trace
  have fr := CF.fr
  have rcC := CF.rc
  obtain ⟨ps, ls, ha, hpr, lls, pa⟩ := prg_view r
  obtain ⟨i0, l0, ys0, r0, g1, g2, g3, g4, g5, g6, g7, g8, g9⟩ := prg_at ok pa hn
  walk_at "w"
  refine w_callX ?_
  walk_at "w"
  refine ⟨.ref a, prgD p, S, rfl, r, prg_small ok, prg_len ok, fun _ H1 c1 => ?_, fun o e => by rw [firstWrong_of ok] at e; cases e⟩
  walk_at "w"
  refine w_dictP (ps := ps) (kvs := gK (nmG p) ls) (c1.at ha) ?_ fun hp H2 nhp c2 hhp => ?_
  · have : ∀ {ps : List Addr} {kvs : List (Key × V)}, Paired (fun q kv => H q = some (.tup [kV kv.1, kv.2])) ps kvs → Paired (fun q kv => SqT K H1 q [kV kv.1, kv.2]) ps kvs := by
      intro ps kvs h
      induction h with
      | nil => exact .nil
      | cons h1 h2 ih => exact .cons (sqT (c1.at h1)) ih
    exact this hpr
  rw [prg_dict ok lls] at hhp
  have c02 := c1.same c2
  walk_at "w"
  refine k_tup (by walk_at "sz") fun e0 H3 ne0 c3 he0 => ?_
  have c03 := c02.same c3
  walk_at "w"
  refine w_callX ?_
  walk_at "w"
  refine ⟨a, p, ls, nm, rfl, pa.same c03, fun i l ei el => ?_, fun z => by rw [g6] at z; cases z⟩
  rw [g6] at ei
  cases ei
  rw [g5] at el
  cases el
  walk_at "w"
  refine k_make fun fa0 dx0 H4 nfa ndx nex c4 h4 => ⟨fa0, dx0, _, _, _, _, rfl, h4, fun H5 c5 h5 => ⟨rfl, ?_⟩⟩
  have c35 : Chg [] H3 H5 := c4.one c5 nfa
  walk_at "w"
  refine k_lst (by walk_at "sz") fun St H6 nSt c6 hSt => ?_
  have c06 := (c03.same c35).same c6
  walk_at "w"
  refine ⟨cv, cs, rfl, ca.same c06, lc, fun hd H7 nhd c7 hhd => ?_⟩
  walk_at "w"
  refine w_dnewK fun gd H8 ngd c8 hgd => ?_
  walk_at "w"
  refine k_lst (by walk_at "sz") fun Rc H9 nRc c9 hRc => ?_
  walk_at "w"
  have c69 := (c7.same c8).same c9
  have c09 := c06.same c69
  have hhp9 : H9 hp = some (.dK (gK (nmG p) ls)) := ((c3.same c35).same (c6.same c69)).at hhp
  -- the start
  have t0 : TI K H H9 p St Rc hd gd [] [fa0] [] (Mc.start p nm g (cStart cs)) := by
    have h5' := (c6.same c69).at h5
    have hSt' := c69.at hSt
    have hhd' := (c8.same c9).at hhd
    have hgd' := c9.at hgd
    have d1 : fa0 ≠ St := ne_of_none h5 nSt
    have d2 : hd ≠ St := fun z => by rw [z, hSt] at nhd; cases nhd
    have d3 : gd ≠ St := fun z => by rw [z, c7.at hSt] at ngd; cases ngd
    have d4 : Rc ≠ St := fun z => by rw [z, (c7.same c8).at hSt] at nRc; cases nRc
    have d5 : hd ≠ Rc := fun z => by rw [← z, c8.at hhd] at nRc; cases nRc
    have d6 : gd ≠ Rc := fun z => by rw [← z, hgd] at nRc; cases nRc
    have d7 : fa0 ≠ Rc := fun z => by rw [← z, ((c6.same c7).same c8).at h5] at nRc; cases nRc
    have d8 : gd ≠ hd := fun z => by rw [z, hhd] at ngd; cases ngd
    have d9 : fa0 ≠ hd := fun z => by rw [← z, c6.at h5] at nhd; cases nhd
    have d10 : fa0 ≠ gd := fun z => by rw [← z, (c6.same c7).at h5] at ngd; cases ngd
    have n1 : H fa0 = none := c03.dom _ nfa
    have n2 : H St = none := (c03.same c35).dom _ nSt
    have n3 : H hd = none := c06.dom _ nhd
    have n4 : H gd = none := (c06.same c7).dom _ ngd
    have n5 : H Rc = none := ((c06.same c7).same c8).dom _ nRc
    refine ⟨c09, ?_, fun x hx => ?_, hSt', rfl, fun i fa f h1 h2 => ?_, hRc, rfl, fun i ra r h1 h2 => (by simp at h1), hhd', ⟨hgd', rfl, List.nodup_nil, List.nodup_nil, fun i g l h1 h2 => (by simp at h2)⟩, Nat.le_trans (cStart_len cs) lc, Nat.le_refl _, fun g hg => (by cases hg), Nat.le_refl _⟩
    · simp only [List.nil_append, List.nodup_cons, List.mem_cons, List.not_mem_nil, or_false, not_or, not_false_iff, List.nodup_nil, and_true]
      exact ⟨⟨d4.symm, d2.symm, d3.symm, d1.symm⟩, ⟨d5.symm, d6.symm, d7.symm⟩, ⟨d8.symm, d9.symm⟩, d10.symm⟩
    · simp only [List.nil_append, List.mem_cons, List.not_mem_nil, or_false] at hx
      rcases hx with rfl | rfl | rfl | rfl | rfl
      · exact n2
      · exact n5
      · exact n3
      · exact n4
      · exact n1
    · cases i with
      | zero =>
        cases (Option.some.inj (show some fa0 = some fa from h1))
        cases (Option.some.inj (show some _ = some f from h2))
        refine ⟨⟨dx0, l0, .ref e0, ys0, h5', .tup ((c35.same (c6.same c69)).at he0) .nil, g8, ?_⟩, Nat.le_refl _, r0, g3, g4⟩
        show ImA H ys0 ((p.rows nm).map Stp.data)
        rw [g4]
        exact g9
      | succ i => simp at h1
  have php : hp ≠ hd := fun z => by
    have := (((c3.same c35).same c6)).at hhp
    rw [z, nhd] at this
    cases this
  have phg : hp ≠ gd := fun z => by
    have := (((c3.same c35).same c6).same c7).at hhp
    rw [z, ngd] at this
    cases this
  refine w_while ⟨TW K H p St Rc hd gd hp ls a nm g cv most (p.ran nm g cs most), ⟨_, Mc.start p nm g (cStart cs), [], [fa0], [], _, _, _, t0, hhp9, rfl, Nat.le_refl _, Nat.zero_le _, List.nodup_nil, fun x hx => (by cases hx), rfl⟩, fun n σ H1 inv => ?_⟩
  obtain ⟨m, gls, fas, rcs, y12, y13, y14, t, hp1, hgo, hsz, hrl, rnd, rnew, rfl⟩ := inv
  have hst1 := t.st
  walk_at "w"
  refine k_lst (by walk_at "sz") fun pe H2 npe c2' hpe => ?_
  have t2 := t.same c2'
  have hst2 := t2.st
  have hp2 := c2'.at hp1
  refine w_neE hst2 hpe ?_
  walk_at "w"
  cases hs : m.stack with
  | nil =>
    have e0 : fas = [] := List.length_eq_zero_iff.mp (by rw [t.fl, hs]; rfl)
    subst e0
    walk_at "w"
    refine k_tup (by walk_at "sz") fun T H3 nT c3' hT => ?_
    refine qs m ?_ T St Rc hd gd gls rcs H3 (t2.same c3') (by omega) hT
    rw [← hgo]
    exact go_nil hs
  | cons f r =>
    obtain ⟨fa, fas, rfl⟩ : ∃ fa fs, fas = fa :: fs := by
      cases fas with
      | nil => have := t.fl; rw [hs] at this; simp at this
      | cons a b => exact ⟨a, b, rfl⟩
    obtain ⟨n, rfl⟩ : ∃ n', n = n' + 1 := by
      have : 1 ≤ m.size most := by unfold Mc.size; rw [hs, List.length_cons]; omega
      exact ⟨n - 1, by omega⟩
    refine w_iteNo (by simp) ?_
    refine ⟨TW K H p St Rc hd gd hp ls a nm g cv most (p.ran nm g cs most) n, fun σ' H' h => ⟨n, Nat.lt_succ_self n, h⟩, ?_⟩
    have hfr2 := t2.fr 0 fa f rfl (by rw [hs]; rfl)
    obtain ⟨⟨dx, l, pv, ys, hf2, ipv2, hl0, iml⟩, hpath, rr, hrr, erows⟩ := hfr2
    have hl2 : H2 l = some (.lst ys) := t2.c.at hl0
    have lys : ys.length = f.rows.length := by rw [iml.length, List.length_map]
    have est : (fa :: fas).reverse.map V.ref = fas.reverse.map V.ref ++ [.ref fa] := by rw [List.reverse_cons, List.map_append]; rfl
    rw [est] at hst2
    have elast := atLast (xs := fas.reverse.map V.ref) (y := .ref fa)
    have hrc2 := t2.rc
    walk_at "w"
    refine w_iteD (fun hover => ?_) (fun hover => ?_)
    · have hnone : f.rows[f.at_]? = none := List.getElem?_eq_none (by omega)
      walk_at "w"
      refine w_pop hst2 fun H3 c3' h3 => ?_
      refine ⟨{ m with stack := r }, gls, fas, rcs, _, _, _, t2.pop hs c3' h3, c3'.at1 hp2 (fun z => by rw [z, hst2] at hp2; cases hp2), ?_, size_pop hs hsz, hrl, rnd, rnew, rfl⟩
      rw [← hgo, go_over hs hnone]
    have hat : f.at_ < f.rows.length := by omega
    have es : f.rows[f.at_]? = some f.rows[f.at_] := List.getElem?_eq_getElem hat
    generalize f.rows[f.at_] = s at es
    have smem : s ∈ rr.2 := by rw [← erows]; exact List.mem_of_getElem? es
    obtain ⟨bh, sok⟩ := stepsOk_mem (ok.steps rr hrr) s smem
    walk_at "w"
    rw [List.length_map, t.rl]
    refine w_iteD (fun hlong => ?_) (fun hlong => ?_)
    · show tRaiseX (He.ga K "TooLong") ["most"] E (tCons (tVar 4) tNil) _ _ _
      refine w_raiseX ?_
      walk_at "w"
      refine ⟨rfl, by simp, fun dd H3 c3' _ h3 => qn ?_ dd H3 (t2.c.same c3') h3⟩
      rw [← hgo, go_step hs es, if_pos hlong]
    have hrec : m.recs.length + 1 ≤ most.toNat := by omega
    have l2 : most.toNat ≤ 20000 := by omega
    walk_at "w"
    refine ⟨fa, hd, gd, f, s, m.cells, m.given, gls, ys, dx, l, pv, rfl, t2.nHd.1, hf2, ipv2, hl2, iml.im t2.c, es, fit_of sok, t2.hd, by have := t2.s1; omega, t2.gv, by have := t2.s2; omega, fun x hx => by have := t2.s3 x hx; omega, fun T rc mk gls' H3 c3' hf3 hh3 gv3 gl3 rn3 hT mkv => ?_⟩
    have nRc2 := t2.nRc
    have hrc3 : H3 Rc = some (.lst (rcs.map V.ref)) := c3'.keep _ _ t2.rc (by
      simp only [List.mem_cons, not_or]
      exact ⟨Ne.symm (nRc2.2.2.2 fa (by simp)), Ne.symm nRc2.1, Ne.symm nRc2.2.1, fun hm => nRc2.2.2.1 Rc hm rfl⟩)
    walk_at "w"
    refine w_append hrc3 (by rw [List.length_map, t.rl]; walk_at "sz") fun H4 c4' h4 => ?_
    have h4' : H4 Rc = some (.lst ((rcs ++ [rc]).map V.ref)) := by rw [List.map_append]; exact h4
    have th := t2.half (s := s) hs c3' ⟨dx, l, pv, ys, hf3, ipv2.im c3', hl0, iml⟩ hh3 gv3 gl3 rn3 c4' h4'
    obtain ⟨dxr, rlA, wlA, mvA, e1, e2, e3, e4, e5, e6, e7, e8, e9⟩ := rn3
    have rcN : H rc = none := t2.c.dom _ e5
    have rcRc : rc ≠ Rc := fun z => by rw [z, hrc3] at e1; exact nomatch e1
    have rcm : rc ∉ rcs := fun hm => by
      obtain ⟨i, hi⟩ := List.getElem?_of_mem hm
      have hj : i < m.recs.length := by rw [← t.rl]; exact (List.getElem?_eq_some_iff.mp hi).1
      obtain ⟨_, _, _, _, q1, _⟩ := t2.rs i rc _ hi (List.getElem?_eq_getElem hj)
      rw [e5] at q1
      cases q1
    have rnd' : (rcs ++ [rc]).Nodup := nd_snoc rnd rcm
    have rnew' : ∀ x ∈ rcs ++ [rc], H x = none := fun x hx => by
      rcases List.mem_append.mp hx with hx | hx
      · exact rnew x hx
      · rw [List.mem_singleton.mp hx]; exact rcN
    have hp4 : H4 hp = some (.dK (gK (nmG p) ls)) := by
      have h3 : H3 hp = some (.dK (gK (nmG p) ls)) := c3'.keep _ _ hp2 (by
        simp only [List.mem_cons, not_or]
        refine ⟨fun z => (by rw [z, hf2] at hp2; exact nomatch hp2), php, phg, fun hm => ?_⟩
        obtain ⟨i, hi⟩ := List.getElem?_of_mem hm
        have hg : i < m.given.length := by rw [← t2.gv.len]; exact (List.getElem?_eq_some_iff.mp hi).1
        have := t2.gv.rows i _ hp (List.getElem?_eq_getElem hg) hi
        rw [hp2] at this
        cases this)
      exact c4'.at1 h3 (fun z => by rw [z, hrc3] at h3; cases h3)
    have hT4 := c4'.tup _ _ hT
    walk_at "w"
    cases hmk : s.makes f.arg m.cells with
    | none =>
      rw [hmk] at mkv
      have mkv : mk = .non := mkv
      subst mkv
      walk_at "w"
      refine ⟨m.half f r s, gls', fa :: fas, rcs ++ [rc], _, _, _, th, hp4, ?_, ?_, ?_, rnd', rnew', rfl⟩
      · rw [← hgo, go_step hs es, if_neg hlong, did_none hmk]
      · have := size_did (p := p) (s := s) hs hlong hsz
        rw [did_none hmk] at this
        exact this
      · show (m.recs ++ [_]).length ≤ _
        rw [List.length_append, List.length_singleton]
        exact hrec
    | some o =>
      rw [hmk] at mkv
      obtain ⟨M, rfl, hM⟩ := mkv
      have hM4 := c4'.tup _ _ hM
      have rc4 := c4'.at1 e1 rcRc
      walk_at "w"
      refine s_Record_child rcC rc4 fun H5 c5' h5 => ?_
      have tc := th.child (c := f.rcd s m.cells) (c' := { f.rcd s m.cells with child := some m.many }) (rs0 := m.recs) rfl c5' rcN rc4 h5 ⟨rfl, rfl, rfl, rfl⟩ rcm
      have hM5 := c5'.tup _ _ hM4
      have hp5 := c5'.at1 hp4 (fun z => by rw [z, rc4] at hp4; exact nomatch hp4)
      have hst5 := tc.st
      obtain ⟨⟨dx5, l5, pv5, ys5, hf5, ipv5, hl05, iml5⟩, hpath5, _⟩ := tc.fr 0 fa (f.next s m.cells) rfl rfl
      obtain ⟨P, pxs, rfl, hP, iP⟩ := im_tup ipv5
      have lP : pxs.length = f.path.length := by rw [iP.length, List.length_map]; rfl
      walk_at "w"
      refine k_tup (by walk_at "sz") fun B H6 nB c6' hB => ?_
      refine w_catA (c6'.at hP) hB (by simp; omega) fun P2 H7 c7' hP2 => ?_
      have c57 := c6'.same c7'
      have hp7 := c57.at hp5
      have hM7 := c57.at hM5
      have ox := makes_in sok hmk
      obtain ⟨i1, l1, ys1, r1, b1, b2, b3, b4, b5, b6, b7, b8, b9⟩ := prg_at ok pa ox
      walk_at "w"
      refine d_dgetS hp7 b7 ?_
      walk_at "w"
      refine k_make fun nf dxn H8 nnf ndxn nexn c8' h8 => ⟨nf, dxn, _, _, _, _, rfl, h8, fun H9 c9' h9 => ⟨rfl, ?_⟩⟩
      have c79 : Chg [] H7 H9 := c8'.one c9' nnf
      have c59 : Chg [] H5 H9 := c57.same c79
      have hst9 := c59.at hst5
      walk_at "w"
      have lf : (fa :: fas).length = m.stack.length := t.fl
      have s4 := t.s4
      refine w_append hst9 (by rw [List.length_map, List.length_reverse, lf]; walk_at "sz") fun H10 c10' h10 => ?_
      have lr1 : (m.recs ++ [{ f.rcd s m.cells with child := some m.many }]).length = m.recs.length + 1 := by rw [List.length_append]; rfl
      have nfn : H5 nf = none := c57.dom _ nnf
      have tp := tc.push (nf := nf) (f := ⟨m.many, f.path ++ [f.born], p.rows o.1, o.2, 0, 0, 0⟩) c59 nfn ⟨dxn, l1, .ref P2, ys1, h9, ?_, b8, by show ImA H ys1 ((p.rows o.1).map Stp.data); rw [b4]; exact b9⟩ ?_ ⟨r1, b3, b4⟩ c10' h10 ?_
      rotate_left
      · show Im H9 (.ref P2) (.tuple ((f.path ++ [f.born]).map fun i => .int (i : Nat)))
        rw [List.map_append]
        exact .tup (c79.at hP2) ((iP.im c59).append (.cons (.int _) .nil))
      · show (f.path ++ [f.born]).length ≤ _
        rw [List.length_append, List.length_singleton]
        show f.path.length + 1 ≤ (m.recs ++ [_]).length
        rw [lr1]
        omega
      · show ((f.next s m.cells) :: r).length + 1 ≤ (m.recs ++ [_]).length + 1
        rw [lr1]
        rw [hs] at s4
        simpa using s4
      have hf10 : H10 fa = _ := c10'.at1 (c59.at hf5) (tc.nSt.2.2.2.2 fa (by simp))
      have hp10 := c10'.at1 (c59.at hp5) (fun z => by rw [z, hst5] at hp5; cases hp5)
      have hst10 := tp.st
      walk_at "w"
      refine e_Frame_born hf10 fun H11 c11' h11 => ?_
      have ts := tp.second (f0 := ⟨m.many, f.path ++ [f.born], p.rows o.1, o.2, 0, 0, 0⟩) (f := f.next s m.cells) (f2 := { f.next s m.cells with born := f.born + 1 }) (r := r) rfl c11' ⟨dx5, l5, .ref P, ys5, h11, ((ipv5.im c59).im c10').im c11', hl05, iml5⟩ rfl rfl
      have hst11 := ts.st
      walk_at "w"
      have edid := did_some (p := p) (m := m) (f := f) (r := r) (s := s) (x := o.1) (w := o.2) hmk
      refine ⟨m.did p f r s, gls', nf :: fa :: fas, rcs ++ [rc], some (.ref fa), some (.ref rc), some (.ref M), ?_, c11'.at1 hp10 (fun z => by rw [z, hf10] at hp10; exact nomatch hp10), ?_, size_did hs hlong hsz, ?_, rnd', rnew', ?_⟩
      · rw [edid]
        exact ⟨ts.c, ts.own, ts.new, ts.st, ts.fl, ts.fr, ts.rc, ts.rl, ts.rs, ts.hd, ts.gv, ts.s1, ts.s2, ts.s3, ts.s4⟩
      · rw [← hgo, go_step hs es, if_neg hlong]
      · rw [edid]
        show (m.recs ++ [_]).length ≤ _
        rw [lr1]
        exact hrec
      · rw [edid]
        have ls3 : ((nf :: fa :: fas).reverse.map V.ref).length = r.length + 2 := by
          rw [List.length_map, List.length_reverse]
          rw [hs] at lf
          simp only [List.length_cons] at lf ⊢
          omega
        rw [ls3]
        have emax : (if (((r.length + 2 : Nat)) : Int) > ((m.deep : Nat) : Int) then (((r.length + 2 : Nat)) : Int) else ((m.deep : Nat) : Int)) = ((max m.deep (r.length + 2) : Nat) : Int) := by
          split <;> omega
        rw [emax]
        rfl
end Fg
--LAW k07
namespace Fg
open PySem PySem.Spec PyProof.Rows L2
/-! ### the walk's small steps -/
local macro_rules | `(tactic| walk_at "hp") => `(tactic| first
  | assumption
  | exact upd_same
  | (refine Chg.at (by assumption) ?_; walk_at "hp")
  | (refine Chg.at1 (by assumption) ?_ (by walk_at "ne"); walk_at "hp"))
local macro_rules | `(tactic| walk_at "ne") => `(tactic| first | assumption | (apply Ne.symm; assumption))
local macro_rules | `(tactic| walk_at "sq") => `(tactic| first | assumption | exact sqL (by walk_at "hp") | (refine Chg.seq (by assumption) ?_; walk_at "sq"))
local macro_rules | `(tactic| walk_at "sz") => `(tactic| first | assumption | exact Nat.zero_le _ | (simp only [List.length_cons, List.length_nil]; decide) | exact Nat.le_trans (by first | omega | (simp; done) | (simp; omega)) (show 100000 ≤ sizeLine by decide) | exact Nat.lt_of_lt_of_le (by first | omega | (simp; done) | (simp; omega)) (show 100000 ≤ sizeLine by decide))
local macro_rules | `(tactic| walk_at "ix") => `(tactic| first | exact at0 | exact at1 | exact at2 | exact at3 | assumption | exact rfl | walk_at "ix2")
local macro_rules | `(tactic| walk_at "ix2") => `(tactic| fail)
local macro_rules | `(tactic| walk_at "num") => `(tactic| first | assumption | omega | decide | walk_at "num2")
local macro_rules | `(tactic| walk_at "num2") => `(tactic| fail)
local macro_rules | `(tactic| walk_at "im") => `(tactic| first | assumption | exact R.non (S := fun _ => False) | exact R.bl (S := fun _ => False) _ | exact R.int (S := fun _ => False) _ | exact R.str (S := fun _ => False) _ | (refine R.im (by assumption) ?_; walk_at "im"))
local macro_rules | `(tactic| walk_at "r") => `(tactic| first | assumption | exact R.non (S := fun _ => False) | exact R.bl (S := fun _ => False) _ | exact R.int (S := fun _ => False) _ | exact R.str (S := fun _ => False) _ | (refine R.same (by assumption) ?_; walk_at "r") | exact R.any (by walk_at "im"))
local macro_rules | `(tactic| walk_at "chg") => `(tactic| first
  | exact Chg.refl
  | assumption
  | (refine Chg.same ?_ (by assumption); walk_at "chg")
  | (refine Chg.both ?_ (by assumption); walk_at "chg")
  | (refine Chg.pre (by assumption) ?_; walk_at "chg"))
local macro_rules | `(tactic| walk_at "w1") => `(tactic| first
  | with_reducible apply w_seq
  | with_reducible apply w_asg
  | ((with_reducible apply w_var); (focus (exact rfl)))
  | with_reducible apply w_c
  | with_reducible apply w_op
  | with_reducible apply w_cons
  | with_reducible apply w_nil
  | with_reducible apply w_gName
  | with_reducible apply w_if
  | with_reducible apply w_test
  | with_reducible apply w_B
  | with_reducible apply w_isbl
  | with_reducible apply w_retN
  | with_reducible apply w_next
  | with_reducible apply w_drop
  | with_reducible apply w_cb
  | with_reducible apply w_call
  | with_reducible apply w_callN
  | with_reducible apply w_bm
  | with_reducible apply w_bm0
  | ((with_reducible apply w_tyL); (focus (walk_at "hp"; done)))
  | with_reducible apply w_dput
  | with_reducible apply w_m1
  | with_reducible apply w_isstr
  | with_reducible apply w_and
  | with_reducible apply w_or
  | with_reducible apply w_not
  | with_reducible apply w_andV
  | with_reducible apply w_orV
  | with_reducible apply w_notV
  | with_reducible apply w_ifE
  | with_reducible apply w_chain
  | with_reducible apply w_un
  | with_reducible apply w_neg
  | with_reducible apply w_add
  | with_reducible apply w_sub
  | ((with_reducible apply w_mod); (focus (walk_at "num"; done)))
  | ((with_reducible apply w_mul); (focus (walk_at "num"; done)))
  | ((with_reducible apply w_fdiv); (focus (walk_at "num"; done)))
  | ((with_reducible apply w_pow); (focus (walk_at "num"; done)))
  | with_reducible apply w_lt
  | with_reducible apply w_le
  | with_reducible apply w_gt
  | with_reducible apply w_ge
  | with_reducible apply w_ltS
  | with_reducible apply w_geS
  | with_reducible apply w_inC
  | with_reducible apply w_notInC
  | with_reducible apply w_isN
  | with_reducible apply w_notN
  | with_reducible apply w_isB
  | with_reducible apply w_notB
  | ((with_reducible apply w_addS); (focus (walk_at "sz"; done)))
  | ((with_reducible apply w_ixL); (focus (walk_at "sq"; done)); (focus (walk_at "ix"; done)))
  | ((with_reducible apply w_ixT); (focus (walk_at "hp"; done)); (focus (walk_at "ix"; done)))
  | ((with_reducible apply w_ixS); (focus (walk_at "sz"; done)); (focus (walk_at "ix"; done)))
  | with_reducible apply w_gSub
  | ((with_reducible apply w_gTup); (focus (walk_at "hp"; done)); (focus (exact rfl)))
  | with_reducible apply w_gCons
  | with_reducible apply w_gNil
  | ((with_reducible apply w_aug); (focus (exact rfl)))
  | with_reducible apply w_ipI
  | ((with_reducible apply w_eq); (focus (exact rfl)))
  | ((with_reducible apply w_ne); (focus (exact rfl)))
  | with_reducible apply w_max
  | with_reducible apply w_min
  | with_reducible apply w_abs
  | with_reducible apply w_intB
  | with_reducible apply w_intI
  | with_reducible apply w_tup1
  | with_reducible apply w_lst1
  | with_reducible apply w_sl
  | with_reducible apply w_part
  | with_reducible apply w_noPart
  | with_reducible apply w_isint
  | ((with_reducible apply w_slS); (focus (walk_at "sz"; done)))
  | with_reducible apply w_iteT
  | with_reducible apply w_iteF
  | with_reducible apply w_iteN
  | ((with_reducible apply w_iteYes); (focus (exact rfl)))
  | ((with_reducible apply w_iteNo); (focus (exact rfl)))
  | ((with_reducible apply w_lenL); (focus (walk_at "sq"; done)))
  | ((with_reducible apply w_lenT); (focus (walk_at "hp"; done)))
  | ((with_reducible apply w_lenS); (focus (walk_at "sz"; done)))
  | with_reducible apply w_lc
  | with_reducible apply w_for
  | with_reducible apply w_yes
  | ((with_reducible apply w_wipe); (focus (exact rfl)))
  | with_reducible apply w_iList
  | with_reducible apply w_iTup
  | with_reducible apply w_iStr
  | with_reducible apply w_iRng1
  | with_reducible apply w_iRng2
  | with_reducible apply w_iZip
  | with_reducible apply w_iEnum
  | ((with_reducible apply d_iList); (focus (walk_at "sq"; done)))
  | ((with_reducible apply d_iTup); (focus (walk_at "hp"; done)))
  | with_reducible apply d_iStr
  | ((with_reducible apply d_iRng1); (focus (walk_at "num"; done)); (focus (walk_at "num"; done)))
  | ((with_reducible apply d_iRng2); (focus (walk_at "num"; done)); (focus (walk_at "num"; done)); (focus (walk_at "num"; done)); (focus (walk_at "num"; done)))
  | ((with_reducible apply d_iZip); (focus (walk_at "sq"; done)); (focus (walk_at "sq"; done)))
  | ((with_reducible apply d_iEnum); (focus (walk_at "sq"; done)))
  | walk_at "w2")
local macro_rules | `(tactic| walk_at "w2") => `(tactic| fail)
local macro_rules | `(tactic| walk_at "wn") => `(tactic| repeat walk_at "w1")
local macro_rules | `(tactic| walk_at "w") => `(tactic| repeat (first | walk_at "w1" | with_reducible apply w_ret))

local macro_rules | `(tactic| walk_at "w2") => `(tactic| first
  | ((with_reducible apply w_isInt); (focus (walk_at "r"; done)))
  | ((with_reducible apply w_isBool); (focus (walk_at "r"; done)))
  | ((with_reducible apply w_isStr); (focus (walk_at "r"; done)))
  | ((with_reducible apply w_isTup); (focus (walk_at "r"; done)))
  | ((with_reducible apply w_isLst); (focus (walk_at "r"; done)))
  | with_reducible apply w_fld
  | with_reducible apply w_sfld
  | with_reducible apply w_faug
  | with_reducible apply w_rAdd
  | with_reducible apply w_rSub
  | with_reducible apply w_make
  | with_reducible apply w_orT
  | with_reducible apply w_dgetd
  | with_reducible apply w_dgetk
  | with_reducible apply w_dsetd
  | ((with_reducible apply k_dgetd); (focus (walk_at "hp"; done)))
  | ((with_reducible apply k_dsetd); (focus (walk_at "hp"; done)))
  | walk_at "w3")
local macro_rules | `(tactic| walk_at "w3") => `(tactic| fail)

local macro_rules | `(tactic| walk_at "w3") => `(tactic| first
  | ((with_reducible apply g_Frame_number); (focus (assumption; done)); (focus (walk_at "hp"; done)))
  | ((with_reducible apply u_Frame_number); (focus (assumption; done)); (focus (walk_at "hp"; done)))
  | ((with_reducible apply g_Frame_path); (focus (assumption; done)); (focus (walk_at "hp"; done)))
  | ((with_reducible apply u_Frame_path); (focus (assumption; done)); (focus (walk_at "hp"; done)))
  | ((with_reducible apply g_Frame_rows); (focus (assumption; done)); (focus (walk_at "hp"; done)))
  | ((with_reducible apply u_Frame_rows); (focus (assumption; done)); (focus (walk_at "hp"; done)))
  | ((with_reducible apply g_Frame_arg); (focus (assumption; done)); (focus (walk_at "hp"; done)))
  | ((with_reducible apply u_Frame_arg); (focus (assumption; done)); (focus (walk_at "hp"; done)))
  | ((with_reducible apply g_Frame_at); (focus (assumption; done)); (focus (walk_at "hp"; done)))
  | ((with_reducible apply u_Frame_at); (focus (assumption; done)); (focus (walk_at "hp"; done)))
  | ((with_reducible apply g_Frame_past); (focus (assumption; done)); (focus (walk_at "hp"; done)))
  | ((with_reducible apply u_Frame_past); (focus (assumption; done)); (focus (walk_at "hp"; done)))
  | ((with_reducible apply g_Frame_born); (focus (assumption; done)); (focus (walk_at "hp"; done)))
  | ((with_reducible apply u_Frame_born); (focus (assumption; done)); (focus (walk_at "hp"; done)))
  | ((with_reducible apply g_Record_mark); (focus (assumption; done)); (focus (walk_at "hp"; done)))
  | ((with_reducible apply u_Record_mark); (focus (assumption; done)); (focus (walk_at "hp"; done)))
  | ((with_reducible apply g_Record_word); (focus (assumption; done)); (focus (walk_at "hp"; done)))
  | ((with_reducible apply u_Record_word); (focus (assumption; done)); (focus (walk_at "hp"; done)))
  | ((with_reducible apply g_Record_doer); (focus (assumption; done)); (focus (walk_at "hp"; done)))
  | ((with_reducible apply u_Record_doer); (focus (assumption; done)); (focus (walk_at "hp"; done)))
  | ((with_reducible apply g_Record_child); (focus (assumption; done)); (focus (walk_at "hp"; done)))
  | ((with_reducible apply u_Record_child); (focus (assumption; done)); (focus (walk_at "hp"; done)))
  | ((with_reducible apply g_Record_reads); (focus (assumption; done)); (focus (walk_at "hp"; done)))
  | ((with_reducible apply u_Record_reads); (focus (assumption; done)); (focus (walk_at "hp"; done)))
  | ((with_reducible apply g_Record_writes); (focus (assumption; done)); (focus (walk_at "hp"; done)))
  | ((with_reducible apply u_Record_writes); (focus (assumption; done)); (focus (walk_at "hp"; done)))
  | ((with_reducible apply g_Outcome_cells); (focus (assumption; done)); (focus (walk_at "hp"; done)))
  | ((with_reducible apply u_Outcome_cells); (focus (assumption; done)); (focus (walk_at "hp"; done)))
  | ((with_reducible apply g_Outcome_given); (focus (assumption; done)); (focus (walk_at "hp"; done)))
  | ((with_reducible apply u_Outcome_given); (focus (assumption; done)); (focus (walk_at "hp"; done)))
  | ((with_reducible apply g_Outcome_steps); (focus (assumption; done)); (focus (walk_at "hp"; done)))
  | ((with_reducible apply u_Outcome_steps); (focus (assumption; done)); (focus (walk_at "hp"; done)))
  | ((with_reducible apply g_Outcome_deepest); (focus (assumption; done)); (focus (walk_at "hp"; done)))
  | ((with_reducible apply u_Outcome_deepest); (focus (assumption; done)); (focus (walk_at "hp"; done))))
def giftD (g : Str × List Int) : PyData := .tuple [.str g.1, .list (g.2.map PyData.int)]
def giftsD (gv : Given) : PyData := .list (gv.map giftD)
theorem imInts {S : Addr → Prop} {H : Hp} : ∀ ns : List Int, RA S H (ns.map V.int) (ns.map PyData.int)
  | [] => .nil
  | n :: r => .cons (.int n) (imInts r)
theorem ints_of {S : Addr → Prop} {H : Hp} : ∀ {ns : List Int} {xs : List V}, RA S H xs (ns.map PyData.int) → xs = ns.map V.int
  | [], _, h => by cases h; rfl
  | n :: r, _, h => by
    cases h with
    | cons a b => rw [ints_of b]; cases a; rfl
/-- an Outcome in the heap, its lists were not there in H0 -/
def OutAt (K : PySem.W.Frag) (H0 H : Hp) (o : Addr) (cds : List PyData) (gv : Given) (sds : List PyData) (dv : V) : Prop := ∃ (dx cl gl sl : Addr), H o = some (O_Outcome K dx (.ref cl) (.ref gl) (.ref sl) dv) ∧ R (fun a => H0 a = none) H (.ref cl) (.list cds) ∧ R (fun a => H0 a = none) H (.ref gl) (giftsD gv) ∧ R (fun a => H0 a = none) H (.ref sl) (.list sds)
def sp_Outcome___init__ (K : PySem.W.Frag) : Sp := fun vs H Q _ => ∃ (x dx cl gl sl : Addr) (dv : V) (cxs sxs : List V) (cds sds : List PyData) (gv : Given) (S : Addr → Prop), vs = [.ref x, .ref cl, .ref gl, .ref sl, dv] ∧ H x = some (.ins (He.ga K "Outcome") dx []) ∧ H cl = some (.lst cxs) ∧ ImA H cxs cds ∧ R S H (.ref gl) (giftsD gv) ∧ gv.length ≤ 50000 ∧ H sl = some (.lst sxs) ∧ ImA H sxs sds ∧
  ∀ H', Chg [x] H H' → OutAt K H H' x cds gv sds dv → Q .non H'
def t_Outcome___init__ (K : PySem.W.Frag) : TS :=
    tSeq (sFld K (tVar 0) (tCB (cListQ K) (tCons (tVar 1) (tNil))) "cells")
    (tSeq (sFld K (tVar 0) (tLc (iList K (tVar 2)) (gTup K 2 (gCons (gName 5) (gCons (gName 6) (gNil)))) (tYes) (tTup (tCons (tVar 5) (tCons (tCB (cListQ K) (tCons (tVar 6) (tNil))) (tNil)))) [5, 6]) "given")
    (tSeq (sFld K (tVar 0) (tCB (cListQ K) (tCons (tVar 3) (tNil))) "steps")
    (sFld K (tVar 0) (tVar 4) "deepest")))
theorem pure_Outcome___init__ {K : PySem.W.Frag} (CF : CFs K) (vs : List V) (H : Hp) (Q : VK) (E : XK) (h : sp_Outcome___init__ K vs H Q E) : t_Outcome___init__ K (fin Q) (start ["self", "cells", "given", "steps", "deepest", "name", "worths"] vs) H := by
  obtain ⟨x, dx, cl, gl, sl, dv, cxs, sxs, cds, sds, gv, S, rfl, hx, hcl, icl, rg, lg, hsl, isl, q⟩ := h
  show t_Outcome___init__ K _ [some (.ref x), some (.ref cl), some (.ref gl), some (.ref sl), some dv, none, none] H
  unfold t_Outcome___init__
  have oc := CF.oc
  have nx : ∀ {a : Addr} {xs : List V}, H a = some (.lst xs) → a ≠ x := fun ha z => by rw [z, hx] at ha; cases ha
  walk_at "w"
  refine w_listL (sqL hcl) fun c1 H1 nc1 k1 hc1 => ?_
  walk_at "w"
  refine n_Outcome_cells oc (k1.at hx) fun H2 k2 hx2 => ?_
  have k02 : Chg [x] H H2 := (k1.wide (by simp)).both k2
  have c1x : c1 ≠ x := fun z => by rw [z, hx] at nc1; cases nc1
  cases rg with
  | @lst _ gxs _ sg hgl rgs =>
  have hgl2 := k02.at1 hgl (nx hgl)
  have lgx : gxs.length = gv.length := by rw [rgs.length, List.length_map]
  walk_at "w"
  refine w_lcW (walk_list (K := K) (a := gl) (xs := gxs)) (fun D i acc H3 => Chg [] H2 H3 ∧ RA (fun a => H a = none ∧ a ≠ D ∧ a ≠ x) H3 acc ((gv.take i).map giftD)) (fun D H3 nD c hD => ⟨c, .nil⟩) (fun D i acc H3 _ _ z => sqL (z.1.at hgl2)) (fun D i acc y H3 H4 hi nD hD el iv yy => ?_) (fun D acc H3 nD el hD iv => ?_)
  · obtain ⟨rfl, ey⟩ := yy
    obtain ⟨c3, ra⟩ := iv
    have hi' : i < gv.length := by omega
    obtain ⟨d1, ed, r1⟩ := rgs.get ey
    rw [List.getElem?_map, List.getElem?_eq_getElem hi'] at ed
    cases ed
    cases r1 with
    | @tup T0 _ _ e2 ra2 =>
      cases ra2 with
      | cons r0 rs0 =>
        cases rs0 with
        | cons r3 rs3 =>
          cases rs3
          cases r0
          cases r3 with
          | @lst l4 ys4 _ s4 e4 ra4 =>
            have e2' := c3.at (k02.tup _ _ e2)
            have e4' := c3.at (k02.at1 e4 (nx e4))
            have ei := ints_of ra4
            subst ei
            walk_at "w"
            refine w_listL (sqL e4') fun l5 H5 n5 c5 h5 => ?_
            walk_at "w"
            refine k_tup (by walk_at "sz") fun T H6 nT c6 hT => ?_
            have c56 := c5.same c6
            have n5' : H l5 = none := k02.dom _ (c3.dom _ n5)
            have ne5 : l5 ≠ D := fun z => by rw [z, hD] at n5; cases n5
            have ne6 : l5 ≠ x := fun z => by rw [z, hx] at n5'; cases n5'
            have hT3 : T ≠ D := fun z => by rw [z, c5.at hD] at nT; cases nT
            refine lc_end (c56.at hD) el (by omega) fun H7 c7 h7 => ⟨(c3.same c56).one c7 nD, ?_⟩
            rw [List.take_add_one, List.getElem?_eq_getElem hi', Option.toList_some, List.map_append]
            have k := (ra.same c56).keep c7 fun a sa hm => sa.2.1 (List.mem_singleton.mp hm)
            exact k.snoc (.tup (c7.at1 hT hT3) (.cons (.str _) (.cons (.lst ⟨n5', ne5, ne6⟩ (c7.at1 (c6.at h5) ne5) (imInts _)) .nil)))
  · obtain ⟨c3, ra⟩ := iv
    rw [lgx, List.take_length] at ra
    have nDH : H D = none := k02.dom _ nD
    have Dx : D ≠ x := fun z => by rw [z, hx] at nDH; cases nDH
    walk_at "w"
    refine n_Outcome_given oc (c3.at hx2) fun H4 k4 hx4 => ?_
    have c24 : Chg [x] H2 H4 := (c3.wide (by simp)).both k4
    have k04 := k02.both c24
    walk_at "w"
    refine w_listL (sqL (k04.at1 hsl (nx hsl))) fun s1 H5 ns1 k5 hs1 => ?_
    walk_at "w"
    refine n_Outcome_steps oc (k5.at hx4) fun H6 k6 hx6 => ?_
    have s1x : s1 ≠ x := fun z => by rw [z, hx4] at ns1; cases ns1
    walk_at "w"
    refine n_Outcome_deepest oc hx6 fun H7 k7 hx7 => ?_
    have c47 : Chg [x] H4 H7 := ((k5.wide (by simp)).both k6).both k7
    have k07 := k04.both c47
    refine q H7 k07 ⟨dx, c1, D, s1, hx7, .lst nc1 (c47.at1 (c24.at1 (k2.at1 hc1 c1x) c1x) c1x) (icl.im k07).any, .lst nDH (c47.at1 (k4.at1 hD Dx) Dx) ?_, .lst (k04.dom _ ns1) (k7.at1 (k6.at1 hs1 s1x) s1x) (isl.im k07).any⟩
    exact (ra.keep (k4.both c47) fun a sa hm => sa.2.2 (List.mem_singleton.mp hm)).mono fun a h => h.1
/-! ### run -/
def gAt (gv : Given) (x : Str) : List Int := ((gv.find? fun g => decide (g.1 = x)).map (·.2)).getD []
def srtG (gv : Given) : Given := (srtS (gv.map (·.1))).map fun x => (x, gAt gv x)
def markDs (m : Mc) : List PyData := m.recs.map fun r => markD r.path r.past
theorem gAt_of {gv : Given} {i : Nat} {x : Str} {row : List Int} (nd : (gv.map (·.1)).Nodup) (h : gv[i]? = some (x, row)) : gAt gv x = row := by
  unfold gAt
  have : (gv.find? fun g => decide (g.1 = x)) = some (x, row) := by
    rw [List.find?_eq_some_iff_getElem]
    obtain ⟨hi, e⟩ := List.getElem?_eq_some_iff.mp h
    refine ⟨decide_eq_true rfl, i, hi, e, fun j hj => ?_⟩
    have : gv[j].1 ≠ x := fun z => by
      have e5 : (gv.map (·.1))[j]? = (gv.map (·.1))[i]? := by
        rw [List.getElem?_map, List.getElem?_map, h, List.getElem?_eq_getElem (by omega)]
        show some gv[j].1 = some x
        rw [z]
      have := (List.getElem?_inj (by rw [List.length_map]; omega) nd).mp e5
      omega
    simpa using this
  rw [this]
  rfl
def sp_run (K : PySem.W.Frag) : Sp := fun vs H Q E => ∃ (a : Addr) (p : Prg) (nm : Str) (g : Int) (cv : V) (cs : Cells) (most : Int) (S : Addr → Prop), vs = [.ref a, .str nm, .int g, cv, .int most] ∧ R S H (.ref a) (prgD p) ∧ PrgOk p ∧ nm ∈ p.map (·.1) ∧ CellsAt H cv cs ∧ cs.length ≤ 5000 ∧ most ≤ 5000 ∧ (∀ m, p.ran nm g cs most = some m → m.given.length < 64) ∧
  (∀ m, p.ran nm g cs most = some m → ∀ (o : Addr) (H' : Hp), H o = none → Chg [] H H' → OutAt K H H' o ((notN m.cells).map pairD) (srtG m.given) (markDs m) (.int (m.deep : Nat)) → Q (.ref o) H') ∧
  (p.ran nm g cs most = none → ∀ dd H', Chg [] H H' → H' dd = some (.xd (xfs ["most"] [.int most] [])) → E (.ref (He.ga K "TooLong")) (some dd) H')
def t_run (E : XK) (K : PySem.W.Frag) : TS :=
    tSeq (tAsg (tCallSD (sp_trace K) [] (WE (fun cls d _ H => E cls d H)) (tCons (tVar 0) (tCons (tVar 1) (tCons (tVar 2) (tCons (tVar 3) (tCons (tVar 4) (tNil))))))) (gTup K 4 (gCons (gName 5) (gCons (gName 6) (gCons (gName 7) (gCons (gName 8) (gNil)))))))
    (tSeq (tAsg (tLc (iList K (tCB cSortDS (tCons (tVar 7) (tNil)))) (gName 10) (tYes) (tTup (tCons (tVar 10) (tCons (tDGet (tVar 7) (tVar 10)) (tNil)))) [10]) (gName 9))
    (tRet (tMake (He.ga K "Outcome") (sp_Outcome___init__ K) [] E0 (tCons (tCall sp_not_nought [] E0 (tCons (tVar 6) (tNil))) (tCons (tVar 9) (tCons (tLc (iList K (tVar 5)) (gName 11) (tYes) (tFld K (tVar 11) "mark") [11]) (tCons (tVar 8) (tNil))))))))
theorem OutAt.old {K : PySem.W.Frag} {H0 H0' H : Hp} {o : Addr} {cds sds : List PyData} {gv : Given} {dv : V} (h : OutAt K H0 H o cds gv sds dv) (c : ∀ a, H0 a = none → H0' a = none) : OutAt K H0' H o cds gv sds dv := by
  obtain ⟨dx, cl, gl, sl, h1, h2, h3, h4⟩ := h
  exact ⟨dx, cl, gl, sl, h1, h2.mono c, h3.mono c, h4.mono c⟩
theorem OutAt.same {K : PySem.W.Frag} {H0 H H' : Hp} {o : Addr} {cds sds : List PyData} {gv : Given} {dv : V} (h : OutAt K H0 H o cds gv sds dv) (c : Chg [] H H') : OutAt K H0 H' o cds gv sds dv := by
  obtain ⟨dx, cl, gl, sl, h1, h2, h3, h4⟩ := h
  exact ⟨dx, cl, gl, sl, c.at h1, h2.same c, h3.same c, h4.same c⟩
theorem pure_run {K : PySem.W.Frag} (CF : CFs K) (vs : List V) (H : Hp) (Q : VK) (E : XK) (h : sp_run K vs H Q E) : t_run E K (fin Q) (start ["program", "name", "arg", "cells", "most", "records", "held", "given", "deepest", "gifts", "one", "record"] vs) H := by
  obtain ⟨a, p, nm, g, cv, cs, most, S, rfl, r, ok, hn, ca, lc, hm, few, qs, qn⟩ := h
  show t_run E K _ [some (.ref a), some (.str nm), some (.int g), some cv, some (.int most), none, none, none, none, none, none, none] H
  unfold t_run
  have rcC := CF.rc
  walk_at "w"
  refine w_callX ?_
  walk_at "w"
  refine ⟨a, p, nm, g, cv, cs, most, S, rfl, r, ok, hn, ca, by omega, by omega, fun m em T St Rc hd gd gls rcs H1 t lr hT => ?_, fun en dd H1 c1 hd => qn en dd H1 c1 hd⟩
  have s1 := t.s1
  have s2 := t.s2
  have few64 := few m em
  walk_at "w"
  refine w_sortDS t.gv.dict (gK_keys t.gv.len) (by rw [List.length_map]; exact few64) fun sl H2 nsl c2 hsl => ?_
  have gv2 := t.gv.same c2
  walk_at "w"
  have lsl : (srtS (m.given.map (·.1))).length = m.given.length := by rw [(srtS_perm _).length_eq, List.length_map]
  refine w_lcW (walk_list (K := K) (a := sl) (xs := (srtS (m.given.map (·.1))).map V.str)) (fun D i acc H3 => Chg [] H2 H3 ∧ RA (fun a => a ∈ gls) H3 acc (((srtG m.given).take i).map giftD)) (fun D H3 nD c hD => ⟨c, .nil⟩) (fun D i acc H3 _ _ z => sqL (z.1.at hsl)) (fun D i acc y H3 H4 hi nD hD el iv yy => ?_) (fun D acc H3 nD el hD iv => ?_)
  · obtain ⟨rfl, ey⟩ := yy
    obtain ⟨c3, ra⟩ := iv
    rw [List.length_map] at hi
    rw [List.getElem?_map, List.getElem?_eq_getElem hi] at ey
    cases ey
    have hmem : (srtS (m.given.map (·.1)))[i] ∈ m.given.map (·.1) := (srtS_perm _).mem_iff.mp (List.getElem_mem hi)
    have et : (srtG m.given).take (i + 1) = (srtG m.given).take i ++ [((srtS (m.given.map (·.1)))[i], gAt m.given (srtS (m.given.map (·.1)))[i])] := by
      unfold srtG
      rw [List.take_add_one, List.getElem?_map, List.getElem?_eq_getElem hi]
      rfl
    generalize (srtS (m.given.map (·.1)))[i] = x at hmem et ⊢
    rcases gv_cases m.given gls x t.gv.len t.gv.names with ⟨_, n⟩ | ⟨j, l, row, e1, e2, e3⟩
    · exact absurd hmem n
    have eg := gAt_of t.gv.names e1
    have hd3 := c3.at gv2.dict
    have hl3 := c3.at (gv2.rows j _ l e1 e2)
    walk_at "w"
    refine d_dgetS hd3 e3 ?_
    walk_at "w"
    refine k_tup (by walk_at "sz") fun TT H5 nT c5 hTT => ?_
    refine lc_end (c5.at hD) el (by omega) fun H6 c6 h6 => ⟨(c3.same c5).one c6 nD, ?_⟩
    have mem := List.mem_of_getElem? e2
    have lne : l ≠ D := fun z => by
      have := gv2.rows j _ l e1 e2
      rw [z, nD] at this
      cases this
    have keepS : ∀ a, a ∈ gls → a ∉ [D] := fun a ha hm2 => by
      obtain ⟨i2, hi2⟩ := List.getElem?_of_mem ha
      have hg : i2 < m.given.length := by rw [← t.gv.len]; exact (List.getElem?_eq_some_iff.mp hi2).1
      have := gv2.rows i2 _ a (List.getElem?_eq_getElem hg) hi2
      rw [List.mem_singleton.mp hm2, nD] at this
      cases this
    rw [et, List.map_append, eg]
    exact ((ra.same c5).keep c6 keepS).snoc (.tup (c6.tup _ _ hTT) (.cons (.str _) (.cons (.lst mem (c6.at1 (c5.at hl3) lne) (imInts _)) .nil)))
  obtain ⟨c3, ra⟩ := iv
  rw [List.length_map] at ra
  have lG : (srtG m.given).length = (srtS (m.given.map (·.1))).length := by unfold srtG; rw [List.length_map]
  rw [← lG, List.take_length] at ra
  have c13 := c2.same c3
  have hh3 := c13.at t.hd
  walk_at "w"
  refine ⟨hd, m.cells, rfl, hh3, by omega, fun cl cxs H4 ncl c4 hcl icl => ?_⟩
  have c14 := c13.same c4
  have t4 := t.same c14
  have hrc4 := t4.rc
  walk_at "w"
  refine w_lcP (walk_list (K := K) (a := Rc) (xs := rcs.map V.ref)) [] (fun _ _ => True) (fun i y H => ∃ rr, m.recs[i]? = some rr ∧ Im H y (markD rr.path rr.past)) trivial (fun _ _ _ _ _ _ _ => trivial) (fun H5 c => sqL (c.at hrc4)) (fun D2 i acc2 z H5 H6 hi nD2 hD2 el2 iv2 c5 _ yy => ?_) (fun D2 acc2 H5 nD2 c5 _ el2 hD2 ys2 => ?_)
  · obtain ⟨rfl, ey⟩ := yy
    rw [List.length_map] at hi
    rw [List.getElem?_map, List.getElem?_eq_getElem hi] at ey
    cases ey
    have hj : i < m.recs.length := by rw [← t.rl]; exact hi
    obtain ⟨dxr, rl, wl, mv, q1, q2, q3, q4, _⟩ := t4.rs i rcs[i] m.recs[i] (List.getElem?_eq_getElem hi) (List.getElem?_eq_getElem hj)
    have q1' := c5.at q1
    walk_at "w"
    exact lcp_end (fun _ _ _ _ _ _ _ => trivial) (fun _ _ _ _ _ _ c h => by obtain ⟨rr, h1, h2⟩ := h; exact ⟨rr, h1, h2.im c⟩) nD2 (fun a ha => by cases ha) hD2 el2 (by have := t.rl; omega) iv2 .refl trivial ⟨m.recs[i], List.getElem?_eq_getElem hj, q2.im c5⟩
  have imk : ImA H5 acc2 (markDs m) := by
    have la : acc2.length = m.recs.length := by rw [el2, List.length_map, t.rl]
    have : ∀ {acc : List V} {rs : List Rcd}, acc.length = rs.length → (∀ (i : Nat) (y : V), acc[i]? = some y → ∃ rr, rs[i]? = some rr ∧ Im H5 y (markD rr.path rr.past)) → ImA H5 acc (rs.map fun r => markD r.path r.past) := by
      intro acc
      induction acc with
      | nil =>
        intro rs h _
        cases rs with
        | nil => exact .nil
        | cons a b => simp at h
      | cons v acc ih =>
        intro rs h hh
        cases rs with
        | nil => simp at h
        | cons a b =>
          obtain ⟨rr, e, im⟩ := hh 0 v rfl
          cases (Option.some.inj (show some a = some rr from e))
          exact .cons im (ih (by simpa using h) fun i y hy => hh (i + 1) y hy)
    exact this la ys2
  walk_at "w"
  refine k_make fun o dxo H6 no ndxo neo c6 h6 => ?_
  have c46 := c5.same c6
  have rD : R (fun a => a ∈ D :: gls) H6 (.ref D) (giftsD (srtG m.given)) := .lst (by simp) ((c4.same c46).at hD) ((ra.same (c4.same c46)).mono fun a h => List.mem_cons_of_mem _ h)
  refine ⟨o, dxo, cl, D, D2, _, cxs, acc2, _, _, srtG m.given, _, rfl, h6, c46.at hcl, icl.im c46, rD, by rw [lG, lsl]; omega, c6.at hD2, imk.im c6, fun H7 c7 oa => ⟨rfl, ?_⟩⟩
  have c06 : Chg [] H H6 := (t.c.same c14).same c46
  have no0 : H o = none := ((t.c.same c14).same c5).dom _ no
  exact qs m em o H7 no0 (c06.one c7 no0) (oa.old fun a ha => c06.dom a ha)
def sp_Outcome___len__ (K : PySem.W.Frag) : Sp := fun vs H Q _ => ∃ (x dx sl : Addr) (v1 v2 v4 : V) (xs : List V), vs = [.ref x] ∧ H x = some (O_Outcome K dx v1 v2 (.ref sl) v4) ∧ H sl = some (.lst xs) ∧ Q (.int xs.length) H
def t_Outcome___len__ (K : PySem.W.Frag) : TS :=
    tRet (tCB (cLenQ K) (tCons (tFld K (tVar 0) "steps") (tNil)))
theorem pure_Outcome___len__ {K : PySem.W.Frag} (CF : CFs K) (vs : List V) (H : Hp) (Q : VK) (E : XK) (h : sp_Outcome___len__ K vs H Q E) : t_Outcome___len__ K (fin Q) (start ["self"] vs) H := by
  obtain ⟨x, dx, sl, v1, v2, v4, xs, rfl, hx, hs, q⟩ := h
  show t_Outcome___len__ K _ [some (.ref x)] H
  unfold t_Outcome___len__
  have oc := CF.oc
  walk_at "w"
  exact q
end Fg
namespace Fg
open PySem PySem.Spec PyProof.Rows L2
/-! ### a program of gives alone -/
def Stp.isGive : Stp → Bool
  | .give _ _ => true
  | _ => false
theorem give_of {s : Stp} (h : s.isGive = true) : ∃ x a, s = .give x a := by
  cases s with
  | give x a => exact ⟨x, a, rfl⟩
  | _ => cases h
def gGifts (g : Int) (cs : Cells) (sts : List Stp) (gv : Given) : Given := sts.foldl (fun gv s => s.gives g cs gv) gv
def mks (m : Mc) : List (List Nat × Nat) := m.recs.map fun r => (r.path, r.past)
theorem go_gives {p : Prg} {most : Int} {sts : List Stp} (hg : ∀ s ∈ sts, s.isGive = true) : ∀ (rem k n : Nat) (m : Mc) (f : Frm), m.stack = [f] → f.rows = sts → f.at_ = k → sts.length = k + rem → (m.recs.length : Int) + rem ≤ most → m.size most ≤ n →
    ∃ m', Mc.go p most n m = some m' ∧ m'.stack = [] ∧ m'.cells = m.cells ∧ m'.given = gGifts f.arg m.cells (sts.drop k) m.given ∧ m'.deep = m.deep ∧ mks m' = mks m ++ (List.range rem).map fun i => (f.path, f.past + i)
  | 0, k, n, m, f, hs, hr, hk, hl, hm, hsz => by
    obtain ⟨n, rfl⟩ : ∃ n', n = n' + 1 := by
      have : 1 ≤ m.size most := by unfold Mc.size; rw [hs, List.length_singleton]; omega
      exact ⟨n - 1, by omega⟩
    have hnone : f.rows[f.at_]? = none := List.getElem?_eq_none (by rw [hr, hk]; omega)
    refine ⟨{ m with stack := [] }, by rw [go_over hs hnone]; exact go_nil rfl, rfl, rfl, ?_, rfl, ?_⟩
    · rw [List.drop_eq_nil_of_le (by omega)]
      rfl
    · show mks m = _
      rw [List.range_zero, List.map_nil, List.append_nil]
  | rem + 1, k, n, m, f, hs, hr, hk, hl, hm, hsz => by
    obtain ⟨n, rfl⟩ : ∃ n', n = n' + 1 := by
      have : 1 ≤ m.size most := by unfold Mc.size; rw [hs, List.length_singleton]; omega
      exact ⟨n - 1, by omega⟩
    have hkl : k < sts.length := by omega
    have es : f.rows[f.at_]? = some sts[k] := by rw [hr, hk]; exact List.getElem?_eq_getElem hkl
    obtain ⟨x, a, e⟩ := give_of (hg sts[k] (List.getElem_mem hkl))
    have hlong : ¬ most ≤ (m.recs.length : Int) := by omega
    have hmk : sts[k].makes f.arg m.cells = none := by rw [e]; rfl
    have hput : sts[k].puts f.arg m.cells = m.cells := by rw [e]; rfl
    have hj : sts[k].jump f.arg m.cells = 0 := by rw [e]; rfl
    have ed : m.did p f [] sts[k] = m.half f [] sts[k] := did_none hmk
    have lr : (m.half f [] sts[k]).recs.length = m.recs.length + 1 := by
      show (m.recs ++ [_]).length = _
      rw [List.length_append, List.length_singleton]
    obtain ⟨m', h1, h2, h3, h4, h5, h6⟩ := go_gives (p := p) (most := most) hg rem (k + 1) n (m.half f [] sts[k]) (f.next sts[k] m.cells) rfl hr (by show f.at_ + 1 + sts[k].jump f.arg m.cells = k + 1; rw [hj, hk]) (by omega) (by rw [lr]; omega) (by
      have := size_did (p := p) (s := sts[k]) hs hlong hsz
      rw [ed] at this
      exact this)
    have hc : (m.half f [] sts[k]).cells = m.cells := hput
    refine ⟨m', by rw [go_step hs es, if_neg hlong, ed]; exact h1, h2, by rw [h3, hc], ?_, h5, ?_⟩
    · rw [h4, hc]
      show gGifts f.arg m.cells (sts.drop (k + 1)) (sts[k].gives f.arg m.cells m.given) = _
      rw [List.drop_eq_getElem_cons hkl]
      rfl
    · rw [h6]
      have e1 : mks (m.half f [] sts[k]) = mks m ++ [(f.path, f.past)] := by
        show (m.recs ++ [_]).map _ = _
        rw [List.map_append]
        rfl
      rw [e1, List.append_assoc, List.range_succ_eq_map, List.map_cons, List.map_map]
      congr 1
      show (f.path, f.past) :: _ = (f.path, f.past + 0) :: _
      congr 1
      apply List.map_congr_left
      intro i _
      show (f.path, f.past + 1 + i) = (f.path, f.past + (i + 1))
      congr 1
      omega
theorem ran_gives {x : Str} {sts : List Stp} (hg : ∀ s ∈ sts, s.isGive = true) {g : Int} {cs : Cells} {most : Int} (hm : (sts.length : Int) ≤ most) : ∃ m, Prg.ran [(x, sts)] x g cs most = some m ∧ m.cells = cStart cs ∧ m.given = gGifts g (cStart cs) sts [] ∧ m.deep = 1 ∧ markDs m = (List.range sts.length).map fun i => markD [] i := by
  have hrows : Prg.rows [(x, sts)] x = sts := by
    unfold Prg.rows
    rw [List.find?_cons, decide_eq_true rfl]
    rfl
  obtain ⟨m, h1, h2, h3, h4, h5, h6⟩ := go_gives (p := [(x, sts)]) (most := most) hg sts.length 0 (Mc.size most (Mc.start [(x, sts)] x g (cStart cs))) (Mc.start [(x, sts)] x g (cStart cs)) _ rfl hrows rfl (by omega) (by show ((0 : Nat) : Int) + _ ≤ most; omega) (Nat.le_refl _)
  refine ⟨m, h1, h3, h4, h5, ?_⟩
  have e : markDs m = (mks m).map fun q => markD q.1 q.2 := by
    unfold markDs mks
    rw [List.map_map]
    rfl
  rw [e, h6]
  show (([] : List (List Nat × Nat)) ++ _).map _ = _
  rw [List.nil_append, List.map_map]
  apply List.map_congr_left
  intro i _
  show markD [] (0 + i) = markD [] i
  rw [Nat.zero_add]
theorem gifts_few (g : Int) (cs : Cells) : ∀ (sts : List Stp) (gv : Given), (gGifts g cs sts gv).length ≤ gv.length + sts.length
  | [], gv => Nat.le_refl _
  | s :: r, gv => by
    have h1 := gifts_few g cs r (s.gives g cs gv)
    have h2 := gives_len s g cs gv
    show (gGifts g cs r (s.gives g cs gv)).length ≤ _
    rw [List.length_cons]
    omega
/-! data: no dicts, not deep -/
theorem pairs_flat (cs : Cells) : noDic (.list (cs.map pairD)) = true := noDics_of fun d hd => by
  obtain ⟨c, _, rfl⟩ := List.mem_map.mp hd
  rfl
theorem pairs_depth (cs : Cells) : (PyData.list (cs.map pairD)).depth ≤ 3 := by
  have : PyData.depthAll (cs.map pairD) ≤ 1 := depthAll_le fun d hd => by
    obtain ⟨c, _, rfl⟩ := List.mem_map.mp hd
    show max 0 (max 0 0) + 1 ≤ 1
    decide
  show PyData.depthAll (cs.map pairD) + 1 ≤ 3
  omega
theorem ints_flat (ns : List Int) : noDics (ns.map PyData.int) = true := noDics_of fun d hd => by
  obtain ⟨c, _, rfl⟩ := List.mem_map.mp hd
  rfl
theorem ints_depth (ns : List Int) : PyData.depthAll (ns.map PyData.int) ≤ 0 := depthAll_le fun d hd => by
  obtain ⟨c, _, rfl⟩ := List.mem_map.mp hd
  exact Nat.le_refl _
theorem gifts_flat (gv : Given) : noDic (giftsD gv) = true := noDics_of fun d hd => by
  obtain ⟨c, _, rfl⟩ := List.mem_map.mp hd
  show (true && (noDics (c.2.map PyData.int) && true)) = true
  rw [ints_flat]
  rfl
theorem gifts_depth (gv : Given) : (giftsD gv).depth ≤ 4 := by
  have : PyData.depthAll (gv.map giftD) ≤ 3 := depthAll_le fun d hd => by
    obtain ⟨c, _, rfl⟩ := List.mem_map.mp hd
    have := ints_depth c.2
    show max 0 (max (PyData.depthAll (c.2.map PyData.int) + 1) 0) + 1 ≤ 3
    omega
  show PyData.depthAll (gv.map giftD) + 1 ≤ 4
  omega
theorem marks_flat (l : List (List Nat × Nat)) : noDic (.list (l.map fun q => markD q.1 q.2)) = true := noDics_of fun d hd => by
  obtain ⟨c, _, rfl⟩ := List.mem_map.mp hd
  show ((noDics (c.1.map fun i => PyData.int (i : Nat))) && (true && true)) = true
  rw [noDics_of fun d hd => by
    obtain ⟨i, _, rfl⟩ := List.mem_map.mp hd
    rfl]
  rfl
theorem marks_depth (l : List (List Nat × Nat)) : (PyData.list (l.map fun q => markD q.1 q.2)).depth ≤ 4 := by
  have : PyData.depthAll (l.map fun q => markD q.1 q.2) ≤ 3 := depthAll_le fun d hd => by
    obtain ⟨c, _, rfl⟩ := List.mem_map.mp hd
    have : PyData.depthAll (c.1.map fun i => PyData.int (i : Nat)) ≤ 0 := depthAll_le fun d hd => by
      obtain ⟨i, _, rfl⟩ := List.mem_map.mp hd
      exact Nat.le_refl _
    show max (PyData.depthAll (c.1.map fun i => PyData.int (i : Nat)) + 1) (max 0 0) + 1 ≤ 3
    omega
  show PyData.depthAll (l.map fun q => markD q.1 q.2) + 1 ≤ 4
  omega
/-- dict(cells) -/
theorem pairs_view {H : Hp} : ∀ {cs : Cells} {xs : List V}, ImA H xs (cs.map pairD) → ∃ ps : List Addr, xs = ps.map V.ref ∧ Paired (fun q kv => H q = some (.tup [kV kv.1, kv.2])) ps (cK cs)
  | [], _, h => by cases h; exact ⟨[], rfl, .nil⟩
  | c :: cs, _, h => by
    cases h with
    | cons a r =>
      obtain ⟨ps, e, hp⟩ := pairs_view r
      obtain ⟨T, ys, rfl, hT, ra⟩ := im_tup a
      obtain ⟨u, v, rfl, r1, r2⟩ := imA2 ra
      rw [im_int r1, im_int r2] at hT
      exact ⟨T :: ps, by rw [e]; rfl, .cons hT hp⟩
theorem merge_cK : ∀ (cs acc : Cells), mergeK (cK acc) (cK cs) = cK (cs.foldl (fun acc c => cPut acc c.1 c.2) acc)
  | [], acc => rfl
  | c :: cs, acc => by
    show mergeK (putK (cK acc) (Sum.inl c.1) (.int c.2)) (cK cs) = _
    rw [putK_cK, merge_cK cs]
    rfl
theorem merge_start (cs : Cells) : mergeK [] (cK cs) = cK (cStart cs) := merge_cK cs []
end Fg
namespace Fg
open PySem PySem.Spec PyProof.Rows L2
/-! ### big steps: a doing runs till it is over -/
def Frm.aft (f : Frm) (s : Stp) (cs : Cells) : Frm := { f with at_ := f.at_ + 1 + s.jump f.arg cs, past := f.past + 1 }
def Mc.rcd (m : Mc) (f : Frm) (s : Stp) : Rcd := ⟨f.path, f.past, s.word, f.num, none, srtD (s.asks f.arg m.cells), s.writes f.arg m.cells⟩
def Mc.aft (m : Mc) (f : Frm) (s : Stp) : Mc := { m with cells := s.puts f.arg m.cells, given := s.gives f.arg m.cells m.given, recs := m.recs ++ [m.rcd f s] }
def Mc.sub (m : Mc) (f : Frm) (s : Stp) (d : Nat) : Mc := { m with recs := m.recs ++ [{ m.rcd f s with child := some m.many }], deep := max m.deep (d + 2), many := m.many + 1 }
def Frm.kid (f : Frm) (p : Prg) (m : Mc) (x : Str) (w : Int) : Frm := ⟨m.many, f.path ++ [f.born], p.rows x, w, 0, 0, 0⟩
inductive Done (p : Prg) : Nat → Frm → Mc → Mc → Prop
  | over {d : Nat} {f : Frm} {m : Mc} : f.rows[f.at_]? = none → Done p d f m m
  | step {d : Nat} {f : Frm} {m m' : Mc} {s : Stp} : f.rows[f.at_]? = some s → s.makes f.arg m.cells = none → Done p d (f.aft s m.cells) (m.aft f s) m' → Done p d f m m'
  | sub {d : Nat} {f : Frm} {m m1 m' : Mc} {s : Stp} {x : Str} {w : Int} : f.rows[f.at_]? = some s → s.makes f.arg m.cells = some (x, w) → Done p (d + 1) (f.kid p m x w) (m.sub f s d) m1 → Done p d { f.aft s m.cells with born := f.born + 1 } m1 m' → Done p d f m m'
theorem Done.more {p : Prg} {d : Nat} {f : Frm} {m m' : Mc} (h : Done p d f m m') : m.recs.length ≤ m'.recs.length := by
  induction h with
  | over _ => exact Nat.le_refl _
  | @step d f m m' s h1 h2 h3 ih =>
    have : (m.aft f s).recs.length = m.recs.length + 1 := by
      show (m.recs ++ [_]).length = _
      rw [List.length_append, List.length_singleton]
    omega
  | @sub d f m m1 m' s x w h1 h2 h3 h4 ih1 ih2 =>
    have : (m.sub f s d).recs.length = m.recs.length + 1 := by
      show (m.recs ++ [_]).length = _
      rw [List.length_append, List.length_singleton]
    omega
theorem Done.go {p : Prg} {most : Int} {d : Nat} {f : Frm} {m m' : Mc} (h : Done p d f m m') : ∀ r : List Frm, r.length = d → (m'.recs.length : Int) ≤ most → ∃ k, ∀ n, Mc.go p most (n + k) { m with stack := f :: r } = Mc.go p most n { m' with stack := r } := by
  induction h with
  | over h1 =>
    intro r hr hm
    refine ⟨1, fun n => ?_⟩
    rw [Mc.go]
    simp only [h1]
  | @step d f m m' s h1 h2 h3 ih =>
    intro r hr hm
    obtain ⟨k, hk⟩ := ih r hr hm
    have lr : (m.aft f s).recs.length = m.recs.length + 1 := by
      show (m.recs ++ [_]).length = _
      rw [List.length_append, List.length_singleton]
    have := h3.more
    have hl : ¬ most ≤ (m.recs.length : Int) := by omega
    refine ⟨k + 1, fun n => ?_⟩
    rw [show n + (k + 1) = n + k + 1 by omega, Mc.go]
    simp only [h1]
    rw [if_neg hl, ← hk n]
    unfold Mc.did
    simp only [h2]
    rfl
  | @sub d f m m1 m' s x w h1 h2 h3 h4 ih1 ih2 =>
    intro r hr hm
    have l1 := h3.more
    have l2 := h4.more
    have lr : (m.sub f s d).recs.length = m.recs.length + 1 := by
      show (m.recs ++ [_]).length = _
      rw [List.length_append, List.length_singleton]
    have hl : ¬ most ≤ (m.recs.length : Int) := by omega
    obtain ⟨k1, hk1⟩ := ih1 ({ f.aft s m.cells with born := f.born + 1 } :: r) (by rw [List.length_cons, hr]) (by omega)
    obtain ⟨k2, hk2⟩ := ih2 r hr hm
    refine ⟨k2 + k1 + 1, fun n => ?_⟩
    rw [show n + (k2 + k1 + 1) = n + k2 + k1 + 1 by omega, Mc.go]
    simp only [h1]
    rw [if_neg hl, ← hk2 n, ← hk1 (n + k2)]
    unfold Mc.did
    simp only [h2]
    subst hr
    rfl
theorem go_more {p : Prg} {most : Int} : ∀ (n : Nat) (m : Mc), m.size most ≤ n → ∀ j, Mc.go p most (n + j) m = Mc.go p most n m
  | 0, m, h, j => by
    have hs : m.stack = [] := by
      unfold Mc.size at h
      exact List.eq_nil_of_length_eq_zero (by omega)
    rw [go_nil hs, go_nil hs]
  | n + 1, m, h, j => by
    cases hs : m.stack with
    | nil => rw [go_nil hs, go_nil hs]
    | cons f r =>
      rw [show n + 1 + j = n + j + 1 by omega, Mc.go, Mc.go]
      simp only [hs]
      cases hf : f.rows[f.at_]? with
      | none => exact go_more n _ (size_pop hs h) j
      | some s =>
        simp only
        by_cases hl : most ≤ (m.recs.length : Int)
        · rw [if_pos hl, if_pos hl]
        · rw [if_neg hl, if_neg hl]
          exact go_more n _ (size_did hs hl h) j
theorem ran_done {p : Prg} {x : Str} {g : Int} {cs : Cells} {most : Int} {m' : Mc} (h : Done p 0 ⟨0, [], p.rows x, g, 0, 0, 0⟩ (Mc.start p x g (cStart cs)) m') (hm : (m'.recs.length : Int) ≤ most) : Prg.ran p x g cs most = some { m' with stack := [] } := by
  obtain ⟨k, hk⟩ := h.go (most := most) [] rfl hm
  unfold Prg.ran
  show Mc.go p most ((Mc.start p x g (cStart cs)).size most) (Mc.start p x g (cStart cs)) = _
  rw [← go_more _ _ (Nat.le_refl _) k]
  have := hk ((Mc.start p x g (cStart cs)).size most)
  exact this.trans (go_nil rfl)
end Fg
namespace Fg
open PySem PySem.Spec PyProof.Rows L2
/-! ### what one hand does, by recursion: with a log, or too long -/
structure LRec where
  path : List Nat
  past : Nat
  word : Str
  kid : Option (List Nat)
  asked : List Int
  writes : List Int
def lrec (f : Frm) (s : Stp) (cs : Cells) (kid : Option (List Nat)) : LRec := ⟨f.path, f.past, s.word, kid, s.asks f.arg cs, s.writes f.arg cs⟩
def Frm.nxt (f : Frm) (s : Stp) (cs : Cells) : Frm := { f.aft s cs with born := f.born + 1 }
inductive Dl (p : Prg) : Nat → Frm → Mc → Mc → List LRec → Prop
  | over {d : Nat} {f : Frm} {m : Mc} : f.rows[f.at_]? = none → Dl p d f m m []
  | step {d : Nat} {f : Frm} {m m' : Mc} {s : Stp} {L : List LRec} : f.rows[f.at_]? = some s → s.makes f.arg m.cells = none → Dl p d (f.aft s m.cells) (m.aft f s) m' L → Dl p d f m m' (lrec f s m.cells none :: L)
  | sub {d : Nat} {f : Frm} {m m1 m' : Mc} {s : Stp} {x : Str} {w : Int} {L1 L2 : List LRec} : f.rows[f.at_]? = some s → s.makes f.arg m.cells = some (x, w) → Dl p (d + 1) (f.kid p m x w) (m.sub f s d) m1 L1 → Dl p d (f.nxt s m.cells) m1 m' L2 → Dl p d f m m' (lrec f s m.cells (some (f.path ++ [f.born])) :: (L1 ++ L2))
theorem Dl.done {p : Prg} {d : Nat} {f : Frm} {m m' : Mc} {L : List LRec} (h : Dl p d f m m' L) : Done p d f m m' := by
  induction h with
  | over h1 => exact .over h1
  | step h1 h2 _ ih => exact .step h1 h2 ih
  | sub h1 h2 _ _ ih1 ih2 => exact .sub h1 h2 ih1 ih2
theorem Dl.len {p : Prg} {d : Nat} {f : Frm} {m m' : Mc} {L : List LRec} (h : Dl p d f m m' L) : m'.recs.length = m.recs.length + L.length ∧ mks m' = mks m ++ L.map fun r => (r.path, r.past) := by
  induction h with
  | over h1 => exact ⟨rfl, by rw [List.map_nil, List.append_nil]⟩
  | @step d f m m' s L h1 h2 h3 ih =>
    have e1 : (m.aft f s).recs.length = m.recs.length + 1 := by
      show (m.recs ++ [_]).length = _
      rw [List.length_append, List.length_singleton]
    have e2 : mks (m.aft f s) = mks m ++ [(f.path, f.past)] := by
      show (m.recs ++ [_]).map _ = _
      rw [List.map_append]
      rfl
    refine ⟨by rw [ih.1, e1, List.length_cons]; omega, ?_⟩
    rw [ih.2, e2, List.append_assoc]
    rfl
  | @sub d f m m1 m' s x w L1 L2 h1 h2 h3 h4 ih1 ih2 =>
    have e1 : (m.sub f s d).recs.length = m.recs.length + 1 := by
      show (m.recs ++ [_]).length = _
      rw [List.length_append, List.length_singleton]
    have e2 : mks (m.sub f s d) = mks m ++ [(f.path, f.past)] := by
      show (m.recs ++ [_]).map _ = _
      rw [List.map_append]
      rfl
    refine ⟨by rw [ih2.1, ih1.1, e1, List.length_cons, List.length_append]; omega, ?_⟩
    rw [ih2.2, ih1.2, e2, List.map_cons, List.map_append, List.append_assoc, List.append_assoc]
    rfl
/-- more steps than most would be done -/
inductive Lg (p : Prg) (most : Nat) : Nat → Frm → Mc → Prop
  | here {d : Nat} {f : Frm} {m : Mc} {s : Stp} : f.rows[f.at_]? = some s → most ≤ m.recs.length → Lg p most d f m
  | step {d : Nat} {f : Frm} {m : Mc} {s : Stp} : f.rows[f.at_]? = some s → ¬ most ≤ m.recs.length → s.makes f.arg m.cells = none → Lg p most d (f.aft s m.cells) (m.aft f s) → Lg p most d f m
  | sub {d : Nat} {f : Frm} {m : Mc} {s : Stp} {x : Str} {w : Int} : f.rows[f.at_]? = some s → ¬ most ≤ m.recs.length → s.makes f.arg m.cells = some (x, w) → Lg p most (d + 1) (f.kid p m x w) (m.sub f s d) → Lg p most d f m
  | past {d : Nat} {f : Frm} {m m1 : Mc} {s : Stp} {x : Str} {w : Int} : f.rows[f.at_]? = some s → ¬ most ≤ m.recs.length → s.makes f.arg m.cells = some (x, w) → Done p (d + 1) (f.kid p m x w) (m.sub f s d) m1 → m1.recs.length ≤ most → Lg p most d (f.nxt s m.cells) m1 → Lg p most d f m
theorem Lg.go {p : Prg} {most : Nat} {d : Nat} {f : Frm} {m : Mc} (h : Lg p most d f m) : ∀ r : List Frm, r.length = d → ∃ k, ∀ n, Mc.go p (most : Int) (n + k) { m with stack := f :: r } = none := by
  induction h with
  | here h1 h2 =>
    intro r hr
    refine ⟨1, fun n => ?_⟩
    rw [Mc.go]
    simp only [h1]
    rw [if_pos (by exact Int.ofNat_le.mpr h2)]
  | @step d f m s h1 h2 h3 h4 ih =>
    intro r hr
    obtain ⟨k, hk⟩ := ih r hr
    refine ⟨k + 1, fun n => ?_⟩
    rw [show n + (k + 1) = n + k + 1 by omega, Mc.go]
    simp only [h1]
    rw [if_neg (by intro z; exact h2 (Int.ofNat_le.mp z)), ← hk n]
    unfold Mc.did
    simp only [h3]
    rfl
  | @sub d f m s x w h1 h2 h3 h4 ih =>
    intro r hr
    obtain ⟨k, hk⟩ := ih ({ f.aft s m.cells with born := f.born + 1 } :: r) (by rw [List.length_cons, hr])
    refine ⟨k + 1, fun n => ?_⟩
    rw [show n + (k + 1) = n + k + 1 by omega, Mc.go]
    simp only [h1]
    rw [if_neg (by intro z; exact h2 (Int.ofNat_le.mp z)), ← hk n]
    unfold Mc.did
    simp only [h3]
    subst hr
    rfl
  | @past d f m m1 s x w h1 h2 h3 h4 h5 h6 ih =>
    intro r hr
    obtain ⟨k1, hk1⟩ := h4.go (most := (most : Int)) ({ f.aft s m.cells with born := f.born + 1 } :: r) (by rw [List.length_cons, hr]) (Int.ofNat_le.mpr h5)
    obtain ⟨k2, hk2⟩ := ih r hr
    refine ⟨k2 + k1 + 1, fun n => ?_⟩
    rw [show n + (k2 + k1 + 1) = n + k2 + k1 + 1 by omega, Mc.go]
    simp only [h1]
    rw [if_neg (by intro z; exact h2 (Int.ofNat_le.mp z)), ← hk2 n]
    have := hk1 (n + k2)
    refine Eq.trans ?_ this
    unfold Mc.did
    simp only [h3]
    subst hr
    rfl
theorem ran_long {p : Prg} {x : Str} {g : Int} {cs : Cells} {most : Nat} (h : Lg p most 0 ⟨0, [], p.rows x, g, 0, 0, 0⟩ (Mc.start p x g (cStart cs))) : Prg.ran p x g cs (most : Int) = none := by
  obtain ⟨k, hk⟩ := h.go [] rfl
  unfold Prg.ran
  show Mc.go p most ((Mc.start p x g (cStart cs)).size most) (Mc.start p x g (cStart cs)) = _
  rw [← go_more _ _ (Nat.le_refl _) k]
  exact hk ((Mc.start p x g (cStart cs)).size most)
end Fg
namespace Fg
open PySem PySem.Spec PyProof.Rows L2
/-! ### k13: too few steps let by -/
theorem Done.long {p : Prg} {most : Nat} {d : Nat} {f : Frm} {m m' : Mc} (h : Done p d f m m') : m.recs.length ≤ most → most < m'.recs.length → Lg p most d f m := by
  induction h with
  | over h1 => intro h2 h3; omega
  | @step d f m m' s h1 h2 h3 ih =>
    intro h4 h5
    by_cases hb : most ≤ m.recs.length
    · exact .here h1 hb
    · have e : (m.aft f s).recs.length = m.recs.length + 1 := by
        show (m.recs ++ [_]).length = _
        rw [List.length_append, List.length_singleton]
      exact .step h1 hb h2 (ih (by omega) h5)
  | @sub d f m m1 m' s x w h1 h2 h3 h4 ih1 ih2 =>
    intro h5 h6
    by_cases hb : most ≤ m.recs.length
    · exact .here h1 hb
    · have e : (m.sub f s d).recs.length = m.recs.length + 1 := by
        show (m.recs ++ [_]).length = _
        rw [List.length_append, List.length_singleton]
      by_cases hm : m1.recs.length ≤ most
      · exact .past h1 hb h2 h3 hm (ih2 hm h6)
      · exact .sub h1 hb h2 (ih1 (by omega) (by omega))
/-- what is told of a doing: its cells, what was given, how many steps, how deep -/
structure Tells (p : Prg) (d : Nat) (f : Frm) (m : Mc) (cs : Cells) (gv : Given) (n dp : Nat) : Prop where
  ex : ∃ m', Done p d f m m' ∧ m'.cells = cs ∧ m'.given = gv ∧ m'.recs.length = m.recs.length + n ∧ m'.deep = max m.deep dp
theorem Tells.over {p : Prg} {d : Nat} {f : Frm} {m : Mc} (h : f.rows[f.at_]? = none) : Tells p d f m m.cells m.given 0 0 := ⟨m, .over h, rfl, rfl, rfl, by omega⟩
theorem Tells.step {p : Prg} {d : Nat} {f : Frm} {m : Mc} {s : Stp} {cs : Cells} {gv : Given} {n dp : Nat} (h1 : f.rows[f.at_]? = some s) (h2 : s.makes f.arg m.cells = none) (h : Tells p d (f.aft s m.cells) (m.aft f s) cs gv n dp) : Tells p d f m cs gv (n + 1) dp := by
  obtain ⟨m', a, b, c, e, g⟩ := h
  have l : (m.aft f s).recs.length = m.recs.length + 1 := by
    show (m.recs ++ [_]).length = _
    rw [List.length_append, List.length_singleton]
  exact ⟨m', .step h1 h2 a, b, c, by omega, g⟩
theorem Tells.sub {p : Prg} {d : Nat} {f : Frm} {m : Mc} {s : Stp} {x : Str} {w : Int} {cs cs1 : Cells} {gv gv1 : Given} {n n1 dp dp1 : Nat} (h1 : f.rows[f.at_]? = some s) (h2 : s.makes f.arg m.cells = some (x, w)) (ha : Tells p (d + 1) (f.kid p m x w) (m.sub f s d) cs1 gv1 n1 dp1)
    (hb : ∀ m1 : Mc, m1.cells = cs1 → m1.given = gv1 → Tells p d (f.nxt s m.cells) m1 cs gv n dp) : Tells p d f m cs gv (n1 + n + 1) (max (d + 2) (max dp1 dp)) := by
  obtain ⟨m1, a, b, c, e, g⟩ := ha
  obtain ⟨m', a', b', c', e', g'⟩ := hb m1 b c
  have l : (m.sub f s d).recs.length = m.recs.length + 1 := by
    show (m.recs ++ [_]).length = _
    rw [List.length_append, List.length_singleton]
  have l2 : (m.sub f s d).deep = max m.deep (d + 2) := rfl
  exact ⟨m', .sub h1 h2 a a', b', c', by omega, by omega⟩
theorem Tells.as {p : Prg} {d : Nat} {f f' : Frm} {m : Mc} {cs cs' : Cells} {gv gv' : Given} {n n' dp dp' : Nat} (h : Tells p d f m cs gv n dp) (e0 : f' = f) (e1 : cs' = cs) (e2 : gv' = gv) (e3 : n' = n) (e4 : dp' = dp) : Tells p d f' m cs' gv' n' dp' := by
  subst e0 e1 e2 e3 e4
  exact h
end Fg
namespace Fg
open PySem PySem.Spec PyProof.Rows L2
theorem aft_skip0 {num : Nat} {path : List Nat} {rows : List Stp} {w : Int} {at_ past born : Nat} {a : Ex} {k : Int} {cs : Cells} (h : a.worth w cs = 0) : Frm.aft ⟨num, path, rows, w, at_, past, born⟩ (.skip a k) cs = ⟨num, path, rows, w, at_ + 1 + k.toNat, past + 1, born⟩ := by
  unfold Frm.aft Stp.jump
  simp only [h, if_true]
theorem aft_skip1 {num : Nat} {path : List Nat} {rows : List Stp} {w : Int} {at_ past born : Nat} {a : Ex} {k : Int} {cs : Cells} (h : ¬ a.worth w cs = 0) : Frm.aft ⟨num, path, rows, w, at_, past, born⟩ (.skip a k) cs = ⟨num, path, rows, w, at_ + 1, past + 1, born⟩ := by
  unfold Frm.aft Stp.jump
  simp only [h, if_false]
/-- fork or call -/
inductive FC : (Str → Ex → Stp) → Prop
  | fork : FC .fork
  | call : FC .call
theorem FC.makes {W : Str → Ex → Stp} (h : FC W) (x : Str) (a : Ex) (g : Int) (cs : Cells) : (W x a).makes g cs = some (x, a.worth g cs) := by
  cases h <;> rfl
theorem FC.nxt {W : Str → Ex → Stp} (h : FC W) {num : Nat} {path : List Nat} {rows : List Stp} {w : Int} {at_ past born : Nat} {x : Str} {a : Ex} {cs : Cells} : Frm.nxt ⟨num, path, rows, w, at_, past, born⟩ (W x a) cs = ⟨num, path, rows, w, at_ + 1, past + 1, born + 1⟩ := by
  cases h <;> rfl
/-! #### down -/
def rowsD (W : Str → Ex → Stp) (x : Str) : List Stp := [.skip .arg 2, .give "all" .arg, W x (.less .arg (.num 1)), .wait]
def downG : Nat → Given → Given
  | 0, gv => gv
  | k + 1, gv => downG k (gAdd gv "all" ((k + 1 : Nat) : Int))
theorem down_tells {p : Prg} {W : Str → Ex → Stp} {x : Str} (hW : FC W) (hp : p.rows x = rowsD W x) : ∀ (k : Nat) (d num : Nat) (path : List Nat) (m : Mc), Tells p d ⟨num, path, rowsD W x, (k : Int), 0, 0, 0⟩ m m.cells (downG k m.given) (4 * k + 2) (if k = 0 then 0 else d + k + 1)
  | 0, d, num, path, m => by
    refine Tells.as (n := 0 + 1 + 1) (dp := 0) (.step (s := .skip .arg 2) rfl rfl ?_) rfl rfl rfl rfl rfl
    rw [aft_skip0 rfl]
    refine .step (s := .wait) rfl rfl ?_
    exact .over rfl
  | k + 1, d, num, path, m => by
    have h0 : ¬ (Ex.arg).worth ((k + 1 : Nat) : Int) m.cells = 0 := by show ¬ (((k + 1 : Nat) : Int) = 0); omega
    refine Tells.as (n := 4 * k + 5 + 1) (dp := if k + 1 = 0 then 0 else d + (k + 1) + 1) (.step (s := .skip .arg 2) rfl rfl ?_) rfl rfl rfl (by omega) rfl
    rw [aft_skip1 h0]
    refine Tells.as (n := 4 * k + 4 + 1) (.step (s := .give "all" .arg) rfl rfl ?_) rfl rfl rfl (by omega) rfl
    have ew : (Ex.less .arg (.num 1)).worth ((k + 1 : Nat) : Int) m.cells = (k : Int) := by
      show ((k + 1 : Nat) : Int) - 1 = k
      omega
    refine Tells.as (n := (4 * k + 2) + 1 + 1) (dp := max (d + 2) (max (if k = 0 then 0 else d + 1 + k + 1) 0)) (.sub (n1 := 4 * k + 2) (n := 1) (dp1 := if k = 0 then 0 else d + 1 + k + 1) (dp := 0) (s := W x (.less .arg (.num 1))) (x := x) (w := (k : Int)) rfl ((hW.makes _ _ _ _).trans (by rw [← ew]; rfl)) (cs1 := m.cells) (gv1 := downG k (gAdd m.given "all" ((k + 1 : Nat) : Int))) ?_ fun m1 e1 e2 => ?_) rfl rfl rfl (by omega) (by rw [if_neg (by omega)]; split <;> omega)
    · unfold Frm.kid
      rw [hp]
      exact down_tells hW hp k (d + 1) _ _ _
    · rw [show Frm.aft ⟨num, path, rowsD W x, ((k + 1 : Nat) : Int), 0 + 1, 0 + 1, 0⟩ (.give "all" .arg) _ = ⟨num, path, rowsD W x, ((k + 1 : Nat) : Int), 2, 2, 0⟩ from rfl, hW.nxt]
      refine Tells.as (n := 0 + 1) (.step (s := .wait) rfl rfl ?_) rfl rfl rfl rfl rfl
      exact Tells.as (.over rfl) rfl e1.symm e2.symm rfl rfl
/-! #### added -/
def rowsA (c : Int) (x : Str) : List Stp := [.skip .arg 2, .call x (.less .arg (.num 1)), .cell (.num c) (.add (.cell (.num c)) .arg), .give x (.cell (.num c))]
def addC (c : Int) (cs : Cells) : Nat → Cells
  | 0 => cs
  | k + 1 => cPut (addC c cs k) c (cGet (addC c cs k) c + ((k + 1 : Nat) : Int))
def addG (c : Int) (x : Str) (cs : Cells) (gv : Given) : Nat → Given
  | 0 => gAdd gv x (cGet cs c)
  | k + 1 => gAdd (addG c x cs gv k) x (cGet (addC c cs (k + 1)) c)
theorem added_tells {p : Prg} {c : Int} {x : Str} (hp : p.rows x = rowsA c x) : ∀ (k : Nat) (d num : Nat) (path : List Nat) (m : Mc), Tells p d ⟨num, path, rowsA c x, (k : Int), 0, 0, 0⟩ m (addC c m.cells k) (addG c x m.cells m.given k) (4 * k + 2) (if k = 0 then 0 else d + k + 1)
  | 0, d, num, path, m => by
    refine Tells.as (n := 0 + 1 + 1) (dp := 0) (.step (s := .skip .arg 2) rfl rfl ?_) rfl rfl rfl rfl rfl
    rw [aft_skip0 rfl]
    refine .step (s := .give x (.cell (.num c))) rfl rfl ?_
    exact .over rfl
  | k + 1, d, num, path, m => by
    have h0 : ¬ (Ex.arg).worth ((k + 1 : Nat) : Int) m.cells = 0 := by show ¬ (((k + 1 : Nat) : Int) = 0); omega
    refine Tells.as (n := 4 * k + 5 + 1) (dp := if k + 1 = 0 then 0 else d + (k + 1) + 1) (.step (s := .skip .arg 2) rfl rfl ?_) rfl rfl rfl (by omega) rfl
    rw [aft_skip1 h0]
    have ew : (Ex.less .arg (.num 1)).worth ((k + 1 : Nat) : Int) m.cells = (k : Int) := by
      show ((k + 1 : Nat) : Int) - 1 = k
      omega
    refine Tells.as (n := (4 * k + 2) + 2 + 1) (dp := max (d + 2) (max (if k = 0 then 0 else d + 1 + k + 1) 0)) (.sub (n1 := 4 * k + 2) (n := 2) (dp1 := if k = 0 then 0 else d + 1 + k + 1) (dp := 0) (s := .call x (.less .arg (.num 1))) (x := x) (w := (k : Int)) rfl (by rw [← ew]; rfl) (cs1 := addC c m.cells k) (gv1 := addG c x m.cells m.given k) ?_ fun m1 e1 e2 => ?_) rfl rfl rfl (by omega) (by rw [if_neg (by omega)]; split <;> omega)
    · unfold Frm.kid
      rw [hp]
      exact added_tells hp k (d + 1) _ _ _
    · rw [FC.call.nxt]
      refine Tells.as (n := 1 + 1) (.step (s := .cell (.num c) (.add (.cell (.num c)) .arg)) rfl rfl ?_) rfl rfl rfl rfl rfl
      refine Tells.as (n := 0 + 1) (.step (s := .give x (.cell (.num c))) rfl rfl ?_) rfl rfl rfl rfl rfl
      refine Tells.as (.over rfl) rfl ?_ ?_ rfl rfl
      · show addC c m.cells (k + 1) = cPut m1.cells c (cGet m1.cells c + ((k + 1 : Nat) : Int))
        rw [e1]
        rfl
      · show addG c x m.cells m.given (k + 1) = gAdd m1.given x (cGet (cPut m1.cells c (cGet m1.cells c + ((k + 1 : Nat) : Int))) c)
        rw [e1, e2]
        rfl
/-! #### by turns -/
def rows0 (y : Str) : List Stp := [.skip .arg 1, .call y (.less .arg (.num 1))]
def rows1 (x : Str) : List Stp := [.skip .arg 1, .fork x (.less .arg (.num 1)), .give "all" (.num 1)]
/-- the first one's given, the second one's -/
def turnG : Bool → Nat → Given → Given
  | false, 0, gv => gv
  | false, k + 1, gv => turnG true k gv
  | true, 0, gv => gAdd gv "all" 1
  | true, k + 1, gv => gAdd (turnG false k gv) "all" 1
def turnN : Bool → Nat → Nat
  | false, 0 => 1
  | false, k + 1 => turnN true k + 2
  | true, 0 => 2
  | true, k + 1 => turnN false k + 3
theorem turns_tells {p : Prg} {x y : Str} (hx : p.rows x = rows0 y) (hy : p.rows y = rows1 x) : ∀ (k : Nat) (b : Bool) (d num : Nat) (path : List Nat) (m : Mc), Tells p d ⟨num, path, if b = true then rows1 x else rows0 y, (k : Int), 0, 0, 0⟩ m m.cells (turnG b k m.given) (turnN b k) (if k = 0 then 0 else d + k + 1)
  | 0, false, d, num, path, m => by
    refine Tells.as (n := 0 + 1) (dp := 0) (.step (s := .skip .arg 1) rfl rfl ?_) rfl rfl rfl rfl rfl
    rw [if_neg Bool.false_ne_true, aft_skip0 rfl]
    exact .over rfl
  | 0, true, d, num, path, m => by
    refine Tells.as (n := 0 + 1 + 1) (dp := 0) (.step (s := .skip .arg 1) rfl rfl ?_) rfl rfl rfl rfl rfl
    rw [if_pos rfl, aft_skip0 rfl]
    refine .step (s := .give "all" (.num 1)) rfl rfl ?_
    exact .over rfl
  | k + 1, false, d, num, path, m => by
    have h0 : ¬ (Ex.arg).worth ((k + 1 : Nat) : Int) m.cells = 0 := by show ¬ (((k + 1 : Nat) : Int) = 0); omega
    refine Tells.as (n := turnN true k + 1 + 1) (dp := if k + 1 = 0 then 0 else d + (k + 1) + 1) (.step (s := .skip .arg 1) rfl rfl ?_) rfl rfl rfl rfl rfl
    rw [if_neg Bool.false_ne_true, aft_skip1 h0]
    have ew : (Ex.less .arg (.num 1)).worth ((k + 1 : Nat) : Int) m.cells = (k : Int) := by
      show ((k + 1 : Nat) : Int) - 1 = k
      omega
    refine Tells.as (n := turnN true k + 0 + 1) (dp := max (d + 2) (max (if k = 0 then 0 else d + 1 + k + 1) 0)) (.sub (n1 := turnN true k) (n := 0) (dp1 := if k = 0 then 0 else d + 1 + k + 1) (dp := 0) (s := .call y (.less .arg (.num 1))) (x := y) (w := (k : Int)) rfl (by rw [← ew]; rfl) (cs1 := m.cells) (gv1 := turnG true k m.given) ?_ fun m1 e1 e2 => ?_) rfl rfl rfl (by omega) (by rw [if_neg (by omega)]; split <;> omega)
    · unfold Frm.kid
      rw [hy]
      exact turns_tells hx hy k true (d + 1) _ _ _
    · rw [FC.call.nxt]
      exact Tells.as (.over rfl) rfl e1.symm e2.symm rfl rfl
  | k + 1, true, d, num, path, m => by
    have h0 : ¬ (Ex.arg).worth ((k + 1 : Nat) : Int) m.cells = 0 := by show ¬ (((k + 1 : Nat) : Int) = 0); omega
    refine Tells.as (n := turnN false k + 2 + 1) (dp := if k + 1 = 0 then 0 else d + (k + 1) + 1) (.step (s := .skip .arg 1) rfl rfl ?_) rfl rfl rfl rfl rfl
    rw [if_pos rfl, aft_skip1 h0]
    have ew : (Ex.less .arg (.num 1)).worth ((k + 1 : Nat) : Int) m.cells = (k : Int) := by
      show ((k + 1 : Nat) : Int) - 1 = k
      omega
    refine Tells.as (n := turnN false k + 1 + 1) (dp := max (d + 2) (max (if k = 0 then 0 else d + 1 + k + 1) 0)) (.sub (n1 := turnN false k) (n := 1) (dp1 := if k = 0 then 0 else d + 1 + k + 1) (dp := 0) (s := .fork x (.less .arg (.num 1))) (x := x) (w := (k : Int)) rfl (by rw [← ew]; rfl) (cs1 := m.cells) (gv1 := turnG false k m.given) ?_ fun m1 e1 e2 => ?_) rfl rfl rfl (by omega) (by rw [if_neg (by omega)]; split <;> omega)
    · unfold Frm.kid
      rw [hx]
      exact turns_tells hx hy k false (d + 1) _ _ _
    · rw [FC.fork.nxt]
      refine Tells.as (n := 0 + 1) (.step (s := .give "all" (.num 1)) rfl rfl ?_) rfl rfl rfl rfl rfl
      refine Tells.as (.over rfl) rfl e1.symm ?_ rfl rfl
      show gAdd (turnG false k m.given) "all" 1 = gAdd m1.given "all" 1
      rw [e2]
/-! #### doubled -/
def rowsT (x : Str) : List Stp := [.skip .arg 2, .fork x (.less .arg (.num 1)), .fork x (.less .arg (.num 1)), .give "all" .arg]
def dblG : Nat → Given → Given
  | 0, gv => gAdd gv "all" 0
  | k + 1, gv => gAdd (dblG k (dblG k gv)) "all" ((k + 1 : Nat) : Int)
def dblN : Nat → Nat
  | 0 => 2
  | k + 1 => 2 * dblN k + 4
theorem dbl_tells {p : Prg} {x : Str} (hp : p.rows x = rowsT x) : ∀ (k : Nat) (d num : Nat) (path : List Nat) (m : Mc), Tells p d ⟨num, path, rowsT x, (k : Int), 0, 0, 0⟩ m m.cells (dblG k m.given) (dblN k) (if k = 0 then 0 else d + k + 1)
  | 0, d, num, path, m => by
    refine Tells.as (n := 0 + 1 + 1) (dp := 0) (.step (s := .skip .arg 2) rfl rfl ?_) rfl rfl rfl rfl rfl
    rw [aft_skip0 rfl]
    refine .step (s := .give "all" .arg) rfl rfl ?_
    exact .over rfl
  | k + 1, d, num, path, m => by
    have h0 : ¬ (Ex.arg).worth ((k + 1 : Nat) : Int) m.cells = 0 := by show ¬ (((k + 1 : Nat) : Int) = 0); omega
    refine Tells.as (n := 2 * dblN k + 3 + 1) (dp := if k + 1 = 0 then 0 else d + (k + 1) + 1) (.step (s := .skip .arg 2) rfl rfl ?_) rfl rfl rfl rfl rfl
    rw [aft_skip1 h0]
    have ew : ∀ cs : Cells, (Ex.less .arg (.num 1)).worth ((k + 1 : Nat) : Int) cs = (k : Int) := fun cs => by
      show ((k + 1 : Nat) : Int) - 1 = k
      omega
    refine Tells.as (n := dblN k + (dblN k + 2) + 1) (dp := max (d + 2) (max (if k = 0 then 0 else d + 1 + k + 1) (max (d + 2) (max (if k = 0 then 0 else d + 1 + k + 1) 0)))) (.sub (n1 := dblN k) (n := dblN k + 2) (dp1 := if k = 0 then 0 else d + 1 + k + 1) (dp := max (d + 2) (max (if k = 0 then 0 else d + 1 + k + 1) 0)) (s := .fork x (.less .arg (.num 1))) (x := x) (w := (k : Int)) rfl (by rw [← ew m.cells]; rfl) (cs1 := m.cells) (gv1 := dblG k m.given) ?_ fun m1 e1 e2 => ?_) rfl rfl rfl (by omega) (by rw [if_neg (by omega)]; split <;> omega)
    · unfold Frm.kid
      rw [hp]
      exact dbl_tells hp k (d + 1) _ _ _
    · rw [FC.fork.nxt]
      refine Tells.as (n := dblN k + 1 + 1) (.sub (n1 := dblN k) (n := 1) (dp1 := if k = 0 then 0 else d + 1 + k + 1) (dp := 0) (s := .fork x (.less .arg (.num 1))) (x := x) (w := (k : Int)) rfl (by rw [← ew m1.cells]; rfl) (cs1 := m.cells) (gv1 := dblG k (dblG k m.given)) ?_ fun m2 f1 f2 => ?_) rfl rfl rfl (by omega) rfl
      · unfold Frm.kid
        rw [hp, ← e1, ← e2]
        exact dbl_tells hp k (d + 1) _ _ _
      · rw [FC.fork.nxt]
        refine Tells.as (n := 0 + 1) (.step (s := .give "all" .arg) rfl rfl ?_) rfl rfl rfl rfl rfl
        refine Tells.as (.over rfl) rfl f1.symm ?_ rfl rfl
        show gAdd (dblG k (dblG k m.given)) "all" ((k + 1 : Nat) : Int) = gAdd m2.given "all" ((k + 1 : Nat) : Int)
        rw [f2]
/-! #### just enough -/
def rowsH (x : Str) : List Stp := [.skip .arg 1, .call x (.less .arg (.num 1))]
theorem just_tells {p : Prg} {x : Str} (hp : p.rows x = rowsH x) : ∀ (k : Nat) (d num : Nat) (path : List Nat) (m : Mc), Tells p d ⟨num, path, rowsH x, (k : Int), 0, 0, 0⟩ m m.cells m.given (2 * k + 1) (if k = 0 then 0 else d + k + 1)
  | 0, d, num, path, m => by
    refine Tells.as (n := 0 + 1) (dp := 0) (.step (s := .skip .arg 1) rfl rfl ?_) rfl rfl rfl rfl rfl
    rw [aft_skip0 rfl]
    exact .over rfl
  | k + 1, d, num, path, m => by
    have h0 : ¬ (Ex.arg).worth ((k + 1 : Nat) : Int) m.cells = 0 := by show ¬ (((k + 1 : Nat) : Int) = 0); omega
    refine Tells.as (n := 2 * k + 2 + 1) (dp := if k + 1 = 0 then 0 else d + (k + 1) + 1) (.step (s := .skip .arg 1) rfl rfl ?_) rfl rfl rfl (by omega) rfl
    rw [aft_skip1 h0]
    have ew : (Ex.less .arg (.num 1)).worth ((k + 1 : Nat) : Int) m.cells = (k : Int) := by
      show ((k + 1 : Nat) : Int) - 1 = k
      omega
    refine Tells.as (n := (2 * k + 1) + 0 + 1) (dp := max (d + 2) (max (if k = 0 then 0 else d + 1 + k + 1) 0)) (.sub (n1 := 2 * k + 1) (n := 0) (dp1 := if k = 0 then 0 else d + 1 + k + 1) (dp := 0) (s := .call x (.less .arg (.num 1))) (x := x) (w := (k : Int)) rfl (by rw [← ew]; rfl) (cs1 := m.cells) (gv1 := m.given) ?_ fun m1 e1 e2 => ?_) rfl rfl rfl (by omega) (by rw [if_neg (by omega)]; split <;> omega)
    · unfold Frm.kid
      rw [hp]
      exact just_tells hp k (d + 1) _ _ _
    · rw [FC.call.nxt]
      exact Tells.as (.over rfl) rfl e1.symm e2.symm rfl rfl
end Fg
namespace Fg
open PySem PySem.Spec PyProof.Rows L2
/-! #### fourfold -/
def quadG (w : Int) : Nat → Given → Given
  | 0, gv => gAdd gv "all" w
  | i + 1, gv => quadG w i (quadG w i (quadG w i (quadG w i gv)))
def quadN : Nat → Nat
  | 0 => 1
  | i + 1 => 4 * (quadN i + 1)
theorem quad_tells {p : Prg} {w : Int} {many : Nat} {nm : Nat → Str} {W : Nat → Str → Ex → Stp} (hW : ∀ k, FC (W k)) (hl : p.rows (nm many) = [.give "all" .arg]) (hp : ∀ k, k < many → p.rows (nm k) = [W k (nm (k + 1)) .arg, W k (nm (k + 1)) .arg, W k (nm (k + 1)) .arg, W k (nm (k + 1)) .arg]) :
    ∀ (i : Nat), i ≤ many → ∀ (d num : Nat) (path : List Nat) (m : Mc), Tells p d ⟨num, path, p.rows (nm (many - i)), w, 0, 0, 0⟩ m m.cells (quadG w i m.given) (quadN i) (if i = 0 then 0 else d + i + 1)
  | 0, _, d, num, path, m => by
    rw [Nat.sub_zero, hl]
    refine Tells.as (n := 0 + 1) (dp := 0) (.step (s := .give "all" .arg) rfl rfl ?_) rfl rfl rfl rfl rfl
    exact .over rfl
  | i + 1, hi, d, num, path, m => by
    have e : many - (i + 1) + 1 = many - i := by omega
    have ek := hp (many - (i + 1)) (by omega)
    rw [e] at ek
    rw [ek]
    generalize many - (i + 1) = k
    have kid : ∀ (f : Frm) (mm : Mc), Tells p (d + 1) (f.kid p mm (nm (many - i)) w) (mm.sub f (W k (nm (many - i)) .arg) d) mm.cells (quadG w i mm.given) (quadN i) (if i = 0 then 0 else d + 1 + i + 1) := fun f mm => by
      unfold Frm.kid
      exact quad_tells hW hl hp i (by omega) (d + 1) _ _ _
    have mk : ∀ cs : Cells, (W k (nm (many - i)) .arg).makes w cs = some (nm (many - i), w) := fun cs => (hW k).makes _ _ _ _
    refine Tells.as (n := quadN i + (quadN i + (quadN i + (quadN i + 0 + 1) + 1) + 1) + 1) (dp := max (d + 2) (max (if i = 0 then 0 else d + 1 + i + 1) (max (d + 2) (max (if i = 0 then 0 else d + 1 + i + 1) (max (d + 2) (max (if i = 0 then 0 else d + 1 + i + 1) (max (d + 2) (max (if i = 0 then 0 else d + 1 + i + 1) 0)))))))) (.sub (n1 := quadN i) (s := W k (nm (many - i)) .arg) (x := nm (many - i)) (w := w) rfl (mk _) (cs1 := m.cells) (gv1 := quadG w i m.given) (kid _ _) fun m1 e1 f1 => ?_) rfl rfl rfl (by show 4 * (quadN i + 1) = _; omega) (by rw [if_neg (by omega)]; split <;> omega)
    rw [(hW k).nxt]
    refine .sub (n1 := quadN i) (s := W k (nm (many - i)) .arg) (x := nm (many - i)) (w := w) rfl (mk _) (cs1 := m.cells) (gv1 := quadG w i (quadG w i m.given)) (by rw [← f1, ← e1]; exact kid _ _) fun m2 e2 f2 => ?_
    rw [(hW k).nxt]
    refine .sub (n1 := quadN i) (s := W k (nm (many - i)) .arg) (x := nm (many - i)) (w := w) rfl (mk _) (cs1 := m.cells) (gv1 := quadG w i (quadG w i (quadG w i m.given))) (by rw [← f2, ← e2]; exact kid _ _) fun m3 e3 f3 => ?_
    rw [(hW k).nxt]
    refine Tells.as (n := quadN i + 0 + 1) (dp := max (d + 2) (max (if i = 0 then 0 else d + 1 + i + 1) 0)) (.sub (n1 := quadN i) (n := 0) (dp := 0) (dp1 := if i = 0 then 0 else d + 1 + i + 1) (s := W k (nm (many - i)) .arg) (x := nm (many - i)) (w := w) rfl (mk _) (cs1 := m.cells) (gv1 := quadG w i (quadG w i (quadG w i (quadG w i m.given)))) (by rw [← f3, ← e3]; exact kid _ _) fun m4 e4 f4 => ?_) rfl rfl rfl rfl rfl
    rw [(hW k).nxt]
    exact Tells.as (.over rfl) rfl e4.symm f4.symm rfl rfl
/-! #### without end -/
theorem endless {p : Prg} {x : Str} {W : Str → Ex → Stp} (hW : FC W) {a : Nat} {rest : List Stp} (hp : p.rows x = List.replicate a .wait ++ W x (.add .arg (.num 1)) :: rest) {most : Nat} : ∀ (n : Nat) (j past born d num : Nat) (path : List Nat) (w : Int) (m : Mc), j ≤ a → most - m.recs.length ≤ n → Lg p most d ⟨num, path, p.rows x, w, j, past, born⟩ m
  | 0, j, past, born, d, num, path, w, m, hj, hn => by
    by_cases h : j < a
    · exact .here (s := .wait) (by show (p.rows x)[j]? = _; rw [hp, List.getElem?_append_left (by simpa using h), List.getElem?_replicate, if_pos h]) (by omega)
    · have : j = a := by omega
      exact .here (s := W x (.add .arg (.num 1))) (by show (p.rows x)[j]? = _; rw [hp, this, List.getElem?_append_right (by simp)]; simp) (by omega)
  | n + 1, j, past, born, d, num, path, w, m, hj, hn => by
    by_cases hb : most ≤ m.recs.length
    · exact endless hW hp 0 j past born d num path w m hj (by omega)
    · by_cases h : j < a
      · refine .step (s := .wait) (by show (p.rows x)[j]? = _; rw [hp, List.getElem?_append_left (by simpa using h), List.getElem?_replicate, if_pos h]) hb rfl ?_
        refine endless hW hp n (j + 1) _ _ d num path w _ (by omega) ?_
        have : (m.aft ⟨num, path, p.rows x, w, j, past, born⟩ .wait).recs.length = m.recs.length + 1 := by
          show (m.recs ++ [_]).length = _
          rw [List.length_append, List.length_singleton]
        omega
      · have ej : j = a := by omega
        refine .sub (s := W x (.add .arg (.num 1))) (x := x) (w := w + 1) (by show (p.rows x)[j]? = _; rw [hp, ej, List.getElem?_append_right (by simp)]; simp) hb (hW.makes _ _ _ _) ?_
        unfold Frm.kid
        refine endless hW hp n 0 0 0 (d + 1) _ _ _ _ (Nat.zero_le _) ?_
        have : (m.sub ⟨num, path, p.rows x, w, j, past, born⟩ (W x (.add .arg (.num 1))) d).recs.length = m.recs.length + 1 := by
          show (m.recs ++ [_]).length = _
          rw [List.length_append, List.length_singleton]
        omega
/-! #### what was given, told plainly -/
def addAll (gv : Given) (x : Str) (ns : List Int) : Given := ns.foldl (fun g n => gAdd g x n) gv
theorem addAll_app (gv : Given) (x : Str) (a b : List Int) : addAll (addAll gv x a) x b = addAll gv x (a ++ b) := by
  unfold addAll
  rw [List.foldl_append]
theorem addAll_one (x : Str) : ∀ (ns pre : List Int), addAll [(x, pre)] x ns = [(x, pre ++ ns)]
  | [], pre => by rw [List.append_nil]; rfl
  | n :: r, pre => by
    show addAll (gAdd [(x, pre)] x n) x r = _
    have e : gAdd [(x, pre)] x n = [(x, pre ++ [n])] := by
      unfold gAdd
      rw [if_pos (by simp)]
      simp
    rw [e, addAll_one x r, List.append_assoc]
    rfl
theorem addAll_nil (x : Str) (n : Int) (ns : List Int) : addAll [] x (n :: ns) = [(x, n :: ns)] := addAll_one x ns [n]
def desc : Nat → List Int
  | 0 => []
  | k + 1 => ((k + 1 : Nat) : Int) :: desc k
theorem downG_all : ∀ (k : Nat) (gv : Given), downG k gv = addAll gv "all" (desc k)
  | 0, gv => rfl
  | k + 1, gv => downG_all k _
def dbl : Nat → List Int
  | 0 => [0]
  | k + 1 => dbl k ++ dbl k ++ [((k + 1 : Nat) : Int)]
theorem dblG_all : ∀ (k : Nat) (gv : Given), dblG k gv = addAll gv "all" (dbl k)
  | 0, gv => rfl
  | k + 1, gv => by
    show gAdd (dblG k (dblG k gv)) "all" _ = _
    rw [dblG_all k, dblG_all k, addAll_app]
    exact addAll_app gv "all" (dbl k ++ dbl k) [((k + 1 : Nat) : Int)]
theorem quadG_all (w : Int) : ∀ (i : Nat) (gv : Given), quadG w i gv = addAll gv "all" (List.replicate (4 ^ i) w)
  | 0, gv => rfl
  | i + 1, gv => by
    show quadG w i (quadG w i (quadG w i (quadG w i gv))) = _
    rw [quadG_all w i, quadG_all w i, quadG_all w i, quadG_all w i, addAll_app, addAll_app, addAll_app, List.replicate_append_replicate, List.replicate_append_replicate, List.replicate_append_replicate]
    congr 2
    rw [Nat.pow_succ]
    omega
def ones : Bool → Nat → Nat
  | false, 0 => 0
  | false, k + 1 => ones true k
  | true, 0 => 1
  | true, k + 1 => ones false k + 1
theorem turnG_all : ∀ (b : Bool) (k : Nat) (gv : Given), turnG b k gv = addAll gv "all" (List.replicate (ones b k) 1)
  | false, 0, gv => rfl
  | false, k + 1, gv => turnG_all true k gv
  | true, 0, gv => rfl
  | true, k + 1, gv => by
    show gAdd (turnG false k gv) "all" 1 = _
    rw [turnG_all false k]
    show _ = addAll gv "all" (List.replicate (ones false k + 1) 1)
    rw [List.replicate_succ', ← addAll_app]
    rfl
theorem ones_eq : ∀ (k : Nat), ones false k = k / 2 + k % 2 ∧ ones true k = k / 2 + 1
  | 0 => ⟨rfl, rfl⟩
  | k + 1 => by
    have ⟨h1, h2⟩ := ones_eq k
    refine ⟨?_, ?_⟩
    · show ones true k = _
      omega
    · show ones false k + 1 = _
      omega
theorem turnN_eq : ∀ (k : Nat), turnN false k = 2 * k + 1 + ones false k ∧ turnN true k = 2 * k + 1 + ones true k
  | 0 => ⟨rfl, rfl⟩
  | k + 1 => by
    have ⟨h1, h2⟩ := turnN_eq k
    refine ⟨?_, ?_⟩
    · show turnN true k + 2 = 2 * (k + 1) + 1 + ones true k
      omega
    · show turnN false k + 3 = 2 * (k + 1) + 1 + (ones false k + 1)
      omega
theorem dblN_eq : ∀ k : Nat, dblN k + 4 = 6 * 2 ^ k
  | 0 => rfl
  | k + 1 => by
    have := dblN_eq k
    show 2 * dblN k + 4 + 4 = 6 * 2 ^ (k + 1)
    rw [Nat.pow_succ]
    omega
/-- sums -/
def tri : Nat → Int
  | 0 => 0
  | k + 1 => tri k + ((k + 1 : Nat) : Int)
def tris : Nat → List Int
  | 0 => [0]
  | k + 1 => tris k ++ [tri (k + 1)]
theorem cGet_put (cs : Cells) (c w : Int) : cGet (cPut cs c w) c = w := by
  have : ∀ cs : Cells, cAt (cPut cs c w) c = some w := fun cs => by
    unfold cPut
    by_cases h : (cs.any fun p => decide (p.1 = c)) = true
    · rw [if_pos h]
      induction cs with
      | nil => simp at h
      | cons q cs ih =>
        unfold cAt at *
        rw [List.map_cons]
        by_cases e : q.1 = c
        · rw [if_pos e, List.find?_cons_of_pos (by simpa using e)]
          rfl
        · rw [if_neg e, List.find?_cons_of_neg (by simpa using e)]
          refine ih ?_
          rw [List.any_cons, decide_eq_false e, Bool.false_or] at h
          exact h
    · rw [if_neg h]
      unfold cAt
      rw [List.find?_append, List.find?_eq_none.mpr (fun x hx => by
        intro z
        exact h (List.any_eq_true.mpr ⟨x, hx, z⟩))]
      simp
  unfold cGet
  rw [this]
  rfl
theorem cPut_one (c v w : Int) : cPut [(c, v)] c w = [(c, w)] := by
  unfold cPut
  rw [if_pos (by simp)]
  simp
theorem addC_nil (c : Int) : ∀ k : Nat, addC c [] (k + 1) = [(c, tri (k + 1))]
  | 0 => by
    show cPut [] c (cGet [] c + ((0 + 1 : Nat) : Int)) = _
    rfl
  | k + 1 => by
    show cPut (addC c [] (k + 1)) c (cGet (addC c [] (k + 1)) c + _) = _
    rw [addC_nil c k, cPut_one]
    have : cGet [(c, tri (k + 1))] c = tri (k + 1) := by
      unfold cGet cAt
      rw [List.find?_cons_of_pos (by simp)]
      rfl
    rw [this]
    rfl
theorem addC_get (c : Int) : ∀ k : Nat, cGet (addC c [] k) c = tri k
  | 0 => rfl
  | k + 1 => by
    rw [addC_nil]
    unfold cGet cAt
    rw [List.find?_cons_of_pos (by simp)]
    rfl
theorem addG_all (c : Int) (x : Str) (gv : Given) : ∀ k : Nat, addG c x [] gv k = addAll gv x (tris k)
  | 0 => rfl
  | k + 1 => by
    show gAdd (addG c x [] gv k) x (cGet (addC c [] (k + 1)) c) = addAll gv x (tris k ++ [tri (k + 1)])
    rw [addG_all c x gv k, addC_get, ← addAll_app]
    rfl
theorem tri_eq : ∀ k : Nat, 2 * tri k = (k : Int) * ((k : Int) + 1)
  | 0 => rfl
  | k + 1 => by
    have := tri_eq k
    show 2 * (tri k + ((k + 1 : Nat) : Int)) = ((k + 1 : Nat) : Int) * (((k + 1 : Nat) : Int) + 1)
    have e : ((k + 1 : Nat) : Int) = (k : Int) + 1 := by omega
    rw [e, Int.mul_add, this]
    generalize (k : Int) = x
    have h1 : (x + 1) * (x + 1 + 1) = x * (x + 1) + x + (x + 1) + 1 := by
      rw [Int.add_mul, Int.mul_add x (x + 1) 1]
      omega
    rw [h1]
    omega
/-- one name's gifts stay as they are -/
theorem srtG_one (x : Str) (ns : List Int) : srtG [(x, ns)] = [(x, ns)] := by
  unfold srtG
  have e : srtS [x] = [x] := by
    have hp := srtS_perm [x]
    exact List.perm_singleton.mp hp
  show (srtS [x]).map _ = _
  rw [e]
  show [(x, gAt [(x, ns)] x)] = _
  unfold gAt
  rw [List.find?_cons_of_pos (by simp)]
  rfl
theorem srtG_nil : srtG [] = [] := by
  unfold srtG
  have hp := srtS_perm ([] : List Str)
  rw [show ([] : Given).map (·.1) = [] from rfl, List.perm_nil.mp hp]
  rfl
/-- what run tells -/
theorem Tells.ran {p : Prg} {x : Str} {g : Int} {cs cs' : Cells} {gv : Given} {n dp : Nat} (h : Tells p 0 ⟨0, [], p.rows x, g, 0, 0, 0⟩ (Mc.start p x g (cStart cs)) cs' gv n dp) {most : Nat} : (n ≤ most → ∃ m, Prg.ran p x g cs (most : Int) = some m ∧ m.cells = cs' ∧ m.given = gv ∧ m.recs.length = n ∧ m.deep = max 1 dp) ∧ (most < n → Prg.ran p x g cs (most : Int) = none) := by
  obtain ⟨m', a, b, c, e, f⟩ := h
  have e0 : (Mc.start p x g (cStart cs)).recs.length = 0 := rfl
  have e1 : (Mc.start p x g (cStart cs)).deep = 1 := rfl
  refine ⟨fun hm => ⟨_, ran_done a (by omega), b, c, by show m'.recs.length = n; omega, by show m'.deep = _; rw [f, e1]⟩, fun hm => ?_⟩
  exact ran_long (a.long (by omega) (by omega))
end Fg
/-! sorted(rows): rows are tuples of a text and a thing, the texts unlike -/
namespace Fg
open PySem PySem.Spec PyProof.Rows L2
def sLt (x y : Str) : Bool := decide (x.cps.toList < y.cps.toList)
theorem sLt_swo {α : Type} (k : α → Str) : SrtO.Swo fun v u => sLt (k v) (k u) := by
  refine ⟨fun x y h => ?_, fun x y z h1 h2 => ?_⟩
  · have a := of_decide_eq_true h
    exact decide_eq_false (fun b => List.lt_irrefl _ (List.lt_trans a b))
  · have a := of_decide_eq_false h1
    have b := of_decide_eq_false h2
    exact decide_eq_false (List.not_lt.mpr (List.le_trans (List.not_lt.mp a) (List.not_lt.mp b)))
/-- a tuple of a text and one thing more -/
def IsRow (h : Heap) (v : Value) (x : Str) : Prop := ∃ (a : Addr) (o : Obj) (t : Tok) (u : Value) (n : Nat), v = .ref a ∧ h.get? a = some o ∧ o.cls = .type "tuple" ∧ o.data = .seq #[.str x t, u] n
theorem IsRow.keeps {h h' : Heap} {v : Value} {x : Str} (r : IsRow h v x) (k : ∀ b o, h.get? b = some o → o.cls = .type "tuple" → h'.get? b = some o) : IsRow h' v x := by
  obtain ⟨a, o, t, u, n, e, ho, hc, hd⟩ := r
  exact ⟨a, o, t, u, n, e, k a o ho hc, hc, hd⟩
theorem rows_firsts {h : Heap} {k : Value → Str} : ∀ {vs : List Value}, (∀ v ∈ vs, IsRow h v (k v)) → ∃ fs, PySem.W.KatTups h vs fs ∧ fs.length = vs.length ∧ ∀ f ∈ fs, ∃ x t, f = Value.str x t
  | [], _ => ⟨[], PySem.W.KatTups.nil, rfl, fun f hf => by simp at hf⟩
  | v :: vs, hv => by
    obtain ⟨fs, h1, h2, h3⟩ := rows_firsts fun u hu => hv u (List.mem_cons_of_mem _ hu)
    obtain ⟨a, o, t, u, n, rfl, ho, hc, hd⟩ := hv v List.mem_cons_self
    refine ⟨_ :: fs, PySem.W.KatTups.cons ho hc hd rfl h1, by simp [h2], fun f hf => ?_⟩
    rcases List.mem_cons.mp hf with rfl | hf
    · exact ⟨_, _, rfl⟩
    · exact h3 f hf
section
variable {prog : Program} {w : World} {A : Around} {s : Shared}
theorem row_cmp {vs : List Value} {k : Value → Str} (hp : ∀ v ∈ vs, IsRow s.heap v (k v)) (inj : ∀ v ∈ vs, ∀ u ∈ vs, k v = k u → v = u) : SrtO.Cmp prog w A s (tuples' true) (fun p => p.1 ∈ vs) (SrtO.lt2 fun v u => sLt (k v) (k u)) := by
  intro p q hm hm'
  show wpAny (model prog w) A (keyLt' (tuples' true) p.1 q.1) (fun r s' => s' = s ∧ r = sLt (k p.1) (k q.1)) (fun _ _ => False) s
  by_cases e : k p.1 = k q.1
  · have e1 := inj _ hm _ hm' e
    rw [e1]
    obtain ⟨a, o, t, u, n, e2, ho, hc, hd⟩ := hp _ hm'
    have irr : sLt (k q.1) (k q.1) = false := decide_eq_false (List.lt_irrefl _)
    rw [irr, e2]
    refine PySem.W.kat_lt ho hd ho hd ?_
    show PySem.W.KatLex prog w A true (decide (2 < 2)) _ [(.str (k q.1) t, .str (k q.1) t), (u, u)] 0 s
    refine PySem.W.kat_cons (SeqAt.EqAt.same _ prog w _ _ ?_)
    refine PySem.W.kat_yes (PySem.W.kat_cons (SeqAt.EqAt.same _ prog w _ _ ?_))
    exact PySem.W.kat_yes (PySem.W.kat_nil ⟨rfl, rfl⟩)
  · obtain ⟨a, o, t, u, n, e1, ho, hc, hd⟩ := hp _ hm
    obtain ⟨a', o', t', u', n', e2, ho', hc', hd'⟩ := hp _ hm'
    generalize k p.1 = x at *
    generalize k q.1 = y at *
    rw [e1, e2]
    refine PySem.W.kat_lt ho hd ho' hd' ?_
    show PySem.W.KatLex prog w A true (decide (2 < 2)) _ [(.str x t, .str y t'), (u, u')] 0 s
    refine PySem.W.kat_cons (wpAny_eqBool_str ?_)
    rw [decide_eq_false e]
    exact PySem.W.kat_no (oneLt_str ⟨rfl, rfl⟩)
theorem rows_sortable {a : Addr} {vs : List Value} {k : Value → Str} (h0 : 0 < vs.length) (hp : ∀ v ∈ vs, IsRow s.heap v (k v)) (inj : ∀ v ∈ vs, ∀ u ∈ vs, k v = k u → v = u) (ha : ∀ o, s.heap.get? a = some o → o.cls ≠ .type "tuple") : SrtO.SortableO prog w A s a vs fun v u => sLt (k v) (k u) := by
  intro h' keep
  have hp' : ∀ v ∈ vs, IsRow h' v (k v) := fun v hm => (hp v hm).keeps fun b o e c => keep b o (fun z => by subst z; exact ha o e c) e
  obtain ⟨fs, h1, h2, h3⟩ := rows_firsts hp'
  refine ⟨tuples' true, fun Q E hq => ?_, row_cmp (s := { s with heap := h' }) hp' inj⟩
  refine PySem.W.kat_kind (T := .type "str") h1 (by omega) (fun f hm => ?_) (by rfl) ?_
  · obtain ⟨x, t, rfl⟩ := h3 f hm
    exact PySem.W.Looks.now
  · have e : (Value.type "str" != Value.type "tuple") = true := by first | decide +kernel | rfl | decide
    rw [e]
    exact hq
end
/-- sorted(rows) -/
def rSortedR (K : PySem.W.Frag) : List V → Hp → VK → Prop := fun vs H Q => ∃ (a : Addr) (xs : List V) (k : V → Str), vs = [V.ref a] ∧ SqL K H a xs ∧ (∀ x ∈ xs, ∃ t y, x = V.ref t ∧ H t = some (.tup [.str (k x), y])) ∧ (∀ x ∈ xs, ∀ y ∈ xs, k x = k y → x = y) ∧
  ∀ ys p, ys.Perm xs → (ys.Pairwise fun x y => sLt (k y) (k x) = false) → H p = none → Q (.ref p) (upd H p (.lst ys))
section
variable {X : Cx}
theorem p_sortedR : CallR X (.builtin "sorted") (rSortedR X.K) := by
  intro pins s σ H vs us Q I r h
  obtain ⟨a, xs, k, rfl, hs, hx, inj, q⟩ := h
  obtain ⟨its, rv, hl, hz⟩ := I.list hs
  obtain ⟨u, rfl, ru⟩ := vals1 r
  obtain rfl : u = Value.ref a := ru
  obtain ⟨e1, e2⟩ := refs_back rv fun x m => by
    obtain ⟨t, _, e, _⟩ := hx x m
    exact ⟨t, e⟩
  have hp : ∀ v ∈ its, IsRow s.heap v (k (backV v)) := fun v hv => by
    obtain ⟨t, rfl⟩ := e2 v hv
    have hm : V.ref t ∈ xs := by rw [e1]; exact List.mem_map.mpr ⟨_, hv, rfl⟩
    obtain ⟨t', y, e, ht⟩ := hx _ hm
    cases e
    obtain ⟨_, its2, r2, o, ho, hc, n, hd⟩ := I.hok _ _ ht
    obtain ⟨u1, u2, rfl, ri, rj⟩ := vals2 r2
    obtain ⟨t1, rfl⟩ := ri
    exact ⟨t, o, t1, u2, n, rfl, ho, hc, hd⟩
  have hinj : ∀ v ∈ its, ∀ u ∈ its, k (backV v) = k (backV u) → v = u := fun v hv u hu e => by
    have m1 : backV v ∈ xs := by rw [e1]; exact List.mem_map.mpr ⟨_, hv, rfl⟩
    have m2 : backV u ∈ xs := by rw [e1]; exact List.mem_map.mpr ⟨_, hu, rfl⟩
    have z := inj _ m1 _ m2 e
    obtain ⟨t, rfl⟩ := e2 v hv
    obtain ⟨t', rfl⟩ := e2 u hu
    cases z
    rfl
  refine SrtO.sorted_ord (sLt_swo fun u => k (backV u)) hl.isList (by rw [← rv.length]; exact hz) (fun h2 h₁ a' ha' kk => ?_) fun out h1 h2 => ?_
  · refine rows_sortable (s := { s with heap := h₁ }) (by omega) (fun v hm => (hp v hm).keeps fun b o e _ => (kk b o e).2) hinj fun o e => ?_
    have e' : some o = some (seqObj "list" its.toArray 0) := e.symm.trans ha'
    cases e'
    intro c
    exact absurd (Value.type.inj c) (by decide)
  · have h3 : ∀ u ∈ out, ∃ a, u = Value.ref a := fun u hu => e2 u (h2.perm.mem_iff.mp hu)
    obtain ⟨n, hn⟩ := PyProof.Rows.sortedAll_at s.heap its out.toArray
    have hpm : (out.map backV).Perm xs := by
      rw [e1]
      exact h2.perm.map backV
    refine ⟨.ref _, upd H (s.heap.objs.size + 1) (.lst (out.map backV)), I.laid (t' := s.toks) (fun _ _ => PyProof.Rows.sortedAll_old) (Nat.le_succ _) ⟨?_, out, n, vals_back h3, hn⟩, rfl, q _ _ hpm (List.pairwise_map.mpr (h1.imp fun {x y} z => z)) (I.hok.fresh (Nat.le_succ _))⟩
    rw [hpm.length_eq]
    exact hz
end
end Fg
/-! sorted(program) -/
namespace Fg
open PySem PySem.Spec PyProof.Rows L2
/-- the name of a row -/
def kOf (H : Hp) : V → Str
  | .ref t => (match H t with
    | some (.tup (.str x :: _)) => x
    | _ => "")
  | _ => ""
theorem row_kOf {S : Addr → Prop} {H : Hp} {v : V} {r : Str × List Stp} (h : R S H v (rowD r)) : (∃ t y, v = .ref t ∧ H t = some (.tup [.str r.1, y])) ∧ kOf H v = r.1 := by
  unfold rowD at h
  cases h with
  | @tup a xs _ e ra =>
    cases ra with
    | cons r1 ra =>
      cases r1
      cases ra with
      | cons r2 ra =>
        cases ra
        refine ⟨⟨a, _, rfl, e⟩, ?_⟩
        simp only [kOf, e]
theorem ra_perm {S : Addr → Prop} {H : Hp} {xs ys : List V} (h : ys.Perm xs) : ∀ {rs : Prg}, RA S H xs (rs.map rowD) → ∃ p : Prg, p.Perm rs ∧ RA S H ys (p.map rowD) := by
  induction h with
  | nil => exact fun {rs} h => ⟨rs, .refl _, h⟩
  | cons x h ih =>
    intro rs hr
    cases rs with
    | nil => cases hr
    | cons r rs =>
      cases hr with
      | cons a b =>
        obtain ⟨p, h1, h2⟩ := ih b
        exact ⟨r :: p, h1.cons r, .cons a h2⟩
  | swap x y l =>
    intro rs hr
    cases rs with
    | nil => cases hr
    | cons r rs =>
      cases hr with
      | cons a b =>
        cases rs with
        | nil => cases b
        | cons r2 rs =>
          cases b with
          | cons b c => exact ⟨r2 :: r :: rs, .swap _ _ _, .cons b (.cons a c)⟩
  | trans h1 h2 ih1 ih2 =>
    intro rs hr
    obtain ⟨p, a, b⟩ := ih2 hr
    obtain ⟨p', a', b'⟩ := ih1 b
    exact ⟨p', a'.trans a, b'⟩
theorem ra_names {S : Addr → Prop} {H : Hp} : ∀ {ys : List V} {p : Prg}, RA S H ys (p.map rowD) → ys.map (kOf H) = p.map (·.1)
  | [], p, h => by
    cases p with
    | nil => rfl
    | cons r p => cases h
  | y :: ys, p, h => by
    cases p with
    | nil => cases h
    | cons r p =>
      cases h with
      | cons a b => rw [List.map_cons, List.map_cons, (row_kOf a).2, ra_names b]
theorem cps_inj {x y : Str} (h : x.cps.toList = y.cps.toList) : x = y := by
  cases x with
  | mk a =>
    cases y with
    | mk b => exact congrArg Str.mk (Array.toList_inj.mp h)
theorem rising_sorted : ∀ {ns : List Str}, ns.Nodup → (ns.Pairwise fun x y => sLt y x = false) → rising ns = true
  | [], _, _ => rfl
  | [x], _, _ => rfl
  | x :: y :: r, nd, pw => by
    obtain ⟨n1, n2⟩ := List.nodup_cons.mp nd
    obtain ⟨p1, p2⟩ := List.pairwise_cons.mp pw
    have h := List.not_lt.mp (of_decide_eq_false (p1 y (by simp)))
    show (ltS x y && rising (y :: r)) = true
    rw [rising_sorted n2 p2, Bool.and_true]
    refine decide_eq_true ?_
    refine Classical.byContradiction fun hn => ?_
    have e := List.le_antisymm h (List.not_lt.mp hn)
    exact n1 (by rw [cps_inj e]; simp)
theorem w_sortedP {K : PySem.W.Frag} {S : Addr → Prop} {H : Hp} {Q : VK} {a : Addr} {xs : List V} {rs : Prg} (h : H a = some (.lst xs)) (ra : RA S H xs (rs.map rowD)) (nd : (rs.map (·.1)).Nodup)
    (q : ∀ (b : Addr) (ys : List V) (H2 : Hp) (p : Prg), H b = none → Chg [] H H2 → H2 b = some (.lst ys) → RA S H2 ys (p.map rowD) → p.Perm rs → rising (p.map (·.1)) = true → Q (.ref b) H2) : rSortedR K [.ref a] H Q := by
  refine ⟨a, xs, kOf H, rfl, sqL h, fun x hx => ?_, fun x hx y hy e => ?_, fun ys b hp pw nb => ?_⟩
  · obtain ⟨i, hi⟩ := List.getElem?_of_mem hx
    obtain ⟨d, ed, rd⟩ := ra.get hi
    rw [List.getElem?_map] at ed
    cases hr : rs[i]? with
    | none => rw [hr] at ed; cases ed
    | some r =>
      rw [hr] at ed
      cases ed
      obtain ⟨⟨t, y, e1, e2⟩, e3⟩ := row_kOf rd
      exact ⟨t, y, e1, by rw [e3]; exact e2⟩
  · have en := ra_names ra
    have nd' : (xs.map (kOf H)).Nodup := by rw [en]; exact nd
    obtain ⟨i, hi⟩ := List.getElem?_of_mem hx
    obtain ⟨j, hj⟩ := List.getElem?_of_mem hy
    have l1 : i < xs.length := (List.getElem?_eq_some_iff.mp hi).1
    have e1 : (xs.map (kOf H))[i]? = some (kOf H x) := by rw [List.getElem?_map, hi]; rfl
    have e2 : (xs.map (kOf H))[j]? = some (kOf H y) := by rw [List.getElem?_map, hj]; rfl
    have ij : i = j := (List.getElem?_inj (by rw [List.length_map]; exact l1) nd').mp (by rw [e1, e2, e])
    rw [ij, hj] at hi
    exact (Option.some.inj hi).symm
  · obtain ⟨p, p1, p2⟩ := ra_perm hp ra
    have en := ra_names p2
    have c : Chg [] H (upd H b (.lst ys)) := .new nb
    refine q b ys _ p nb c upd_same (p2.same c) p1 (rising_sorted ?_ ?_)
    · exact (p1.map _).nodup_iff.mpr nd
    · rw [← en]
      exact List.pairwise_map.mpr pw
/-- the rows of a program laid anew -/
theorem rows_of {p : Prg} (nd : (p.map (·.1)).Nodup) {r : Str × List Stp} (h : r ∈ p) : p.rows r.1 = r.2 := by
  unfold Prg.rows
  induction p with
  | nil => cases h
  | cons s p ih =>
    rw [List.map_cons] at nd
    obtain ⟨n1, n2⟩ := List.nodup_cons.mp nd
    rcases List.mem_cons.mp h with rfl | h
    · rw [List.find?_cons_of_pos (by simp)]
      rfl
    · rw [List.find?_cons_of_neg]
      · exact ih n2 h
      · intro z
        have z' : s.1 = r.1 := of_decide_eq_true z
        exact n1 (by rw [z']; exact List.mem_map.mpr ⟨r, h, rfl⟩)
theorem rows_none {p : Prg} {x : Str} (h : x ∉ p.map (·.1)) : p.rows x = [] := by
  unfold Prg.rows
  rw [List.find?_eq_none.mpr]
  · rfl
  · intro r hr z
    exact h (List.mem_map.mpr ⟨r, hr, of_decide_eq_true z⟩)
theorem rows_mem {p : Prg} {x : Str} {s : Stp} (h : s ∈ p.rows x) : ∃ r ∈ p, r.1 = x ∧ s ∈ r.2 := by
  unfold Prg.rows at h
  cases hf : p.find? fun r => decide (r.1 = x) with
  | none => rw [hf] at h; cases h
  | some r =>
    rw [hf] at h
    exact ⟨r, List.mem_of_find?_eq_some hf, (by have := List.find?_some hf; exact of_decide_eq_true this), h⟩
end Fg
namespace Fg
open PySem PySem.Spec PyProof.Rows L2
theorem cpow {i j : Int} (m : Nat) (h : i.natAbs < 2 ^ m) (h0 : 0 ≤ j) (h1 : (m : Int) * j ≤ 2 ^ 27) : CPowW i j := by
  refine ⟨h0, ?_⟩
  have b := PySem.intBits_le_iff.mpr h
  have : (Builtin.Int.intBits i : Int) * j ≤ (m : Int) * j := Int.mul_le_mul_of_nonneg_right (by omega) h0
  omega
theorem cmulL {i j : Int} (h : -(2 ^ 64) < i) (h' : i < 2 ^ 64) : CMul i j := .inl ⟨h, h'⟩
theorem cdivS {i j : Int} (h : 0 < j) (h' : j < 10 ^ 30) : CDivW i j := wide_div (b := 100) h (by omega) (by decide) (by decide)
def oMulW : R2 := rI CMulW fun i j => .int (i * j)
theorem p_mulW {X : Cx} : OpR X (binaryOp .Mult) oMulW := op_mulW
theorem w_mulW {i j : Int} {H : Hp} {Q : VK} (h : CMulW i j) (q : Q (.int (i * j)) H) : oMulW (.int i) (.int j) H Q := ⟨i, j, rfl, rfl, h, q⟩
end Fg
namespace Fg
open PySem PySem.Spec PyProof.Rows L2
/-! ### texts of small letters -/
def low (x : Str) : Prop := ∀ c ∈ x.cps.toList, isLow c = true
theorem low_nil : low "" := by intro c h; exact absurd h (by simp [show (Str.ofString "").cps.toList = [] from by decide +kernel])
theorem low_append {x y : Str} (hx : low x) (hy : low y) : low (x ++ y) := by
  intro c h
  have e : (x ++ y).cps.toList = x.cps.toList ++ y.cps.toList := Array.toList_append
  rw [e] at h
  rcases List.mem_append.mp h with h | h
  · exact hx c h
  · exact hy c h
theorem len_append (x y : Str) : (x ++ y).length = x.length + y.length := Array.size_append
theorem len_one (c : Nat) : (Str.mk #[c]).length = 1 := rfl
theorem low_one {c : Nat} (h : isLow c = true) : low ⟨#[c]⟩ := by
  intro d hd
  have : d = c := by simpa using hd
  rw [this]
  exact h
theorem low_cut {x : Str} (lo hi : Option Int) (hx : low x) : low (cutS x lo hi) := by
  intro c h
  unfold cutS at h
  have h : c ∈ (x.cps.toList.drop (HT.sIx x.length 0 lo)).take (HT.sIx x.length x.length hi - HT.sIx x.length 0 lo) := by simpa using h
  exact hx c (List.mem_of_mem_drop (List.mem_of_mem_take h))
theorem len_cut (x : Str) (lo hi : Option Int) : (cutS x lo hi).length = min (HT.sIx x.length x.length hi - HT.sIx x.length 0 lo) (x.length - HT.sIx x.length 0 lo) := by
  unfold cutS
  show ((x.cps.toList.drop _).take _).toArray.size = _
  rw [List.size_toArray, List.length_take, List.length_drop]
  rfl
theorem sIx_i {n d : Nat} {i : Int} (h : 0 ≤ i) : HT.sIx n d (some i) = min i.toNat n := by
  have e : ((i.toNat : Nat) : Int) = i := by omega
  rw [← HT.sIx_nat n d i.toNat, e]
theorem nameS_of {x : Str} (h1 : 1 ≤ x.length) (h2 : x.length ≤ 8) (h3 : low x) : nameS x = true := nameS_iff.mpr ⟨h1, h2, h3⟩
theorem nameS_low {x : Str} (h : nameS x = true) : low x := (nameS_iff.mp h).2.2
theorem letters_len : letters.cps.toList.length = 26 := by decide +kernel
theorem letter_at {v : Int} (h0 : 0 ≤ v) (h1 : v < 26) : ∃ c, atI (Str.ofString "abcdefghijklmnopqrstuvwxyz").cps.toList v = some c ∧ isLow c = true := by
  obtain ⟨c, e, h⟩ := atD (xs := letters.cps.toList) h0 (by rw [letters_len]; exact h1)
  exact ⟨c, e, decide_eq_true h⟩
theorem sum_ones {ys : List Str} (h : ∀ y ∈ ys, y.length = 1) : (ys.map (·.length)).sum = ys.length := by
  induction ys with
  | nil => rfl
  | cons y r ih =>
    rw [List.map_cons, List.sum_cons, ih fun z hz => h z (List.mem_cons_of_mem _ hz), h y (by simp), List.length_cons]
    omega
theorem join_ones {ys : List Str} (h : ∀ y ∈ ys, y.length = 1 ∧ low y) : (Txt.join "" ys).length = ys.length ∧ low (Txt.join "" ys) := by
  rw [TL.join_eq]
  have e0 : TL.tl (Str.ofString "") = [] := by decide +kernel
  have key : ∀ zs : List Str, (∀ y ∈ zs, y.length = 1 ∧ low y) → (TL.joinL [] (zs.map TL.tl)).length = zs.length ∧ ∀ c ∈ TL.joinL [] (zs.map TL.tl), isLow c = true := by
    intro zs
    induction zs with
    | nil => intro _; exact ⟨rfl, fun c h => by cases h⟩
    | cons y r ih =>
      intro h
      have hy := h y (by simp)
      have hr := ih fun z hz => h z (List.mem_cons_of_mem _ hz)
      have hl : (TL.tl y).length = 1 := hy.1
      cases r with
      | nil => exact ⟨hl, hy.2⟩
      | cons z r =>
        have e : TL.joinL [] ((y :: z :: r).map TL.tl) = TL.tl y ++ TL.joinL [] ((z :: r).map TL.tl) := rfl
        rw [e]
        refine ⟨by rw [List.length_append, hr.1, hl, List.length_cons (a := y)]; omega, fun c hc => ?_⟩
        rcases List.mem_append.mp hc with hc | hc
        · exact hy.2 c hc
        · exact hr.2 c hc
  have k := key ys h
  have e : TL.tl (Str.join "" ys) = TL.joinL [] (ys.map TL.tl) := by rw [TL.tl_join, e0]
  refine ⟨?_, fun c hc => k.2 c (by rw [← e]; exact hc)⟩
  rw [← k.1, ← e]
  rfl
def okNm : V → Bool
  | .str x => nameS x
  | _ => false
theorem okNm_of {v : V} (h : okNm v = true) : ∃ x, v = .str x ∧ nameS x = true := by
  cases v with
  | str x => exact ⟨x, rfl, h⟩
  | _ => cases h
theorem cutS_le (x : Str) (lo hi : Option Int) : (cutS x lo hi).length ≤ x.length := by
  rw [len_cut]
  omega
end Fg
--LAW k07
namespace Fg
open PySem PySem.Spec PyProof.Rows L2
/-! ### the walk's small steps -/
local macro_rules | `(tactic| walk_at "hp") => `(tactic| first
  | assumption
  | exact upd_same
  | (refine Chg.at (by assumption) ?_; walk_at "hp")
  | (refine Chg.at1 (by assumption) ?_ (by walk_at "ne"); walk_at "hp"))
local macro_rules | `(tactic| walk_at "ne") => `(tactic| first | assumption | (apply Ne.symm; assumption))
local macro_rules | `(tactic| walk_at "sq") => `(tactic| first | assumption | exact sqL (by walk_at "hp") | (refine Chg.seq (by assumption) ?_; walk_at "sq"))
local macro_rules | `(tactic| walk_at "sz") => `(tactic| first | assumption | exact Nat.zero_le _ | (simp only [List.length_cons, List.length_nil]; decide) | exact Nat.le_trans (by first | omega | (simp; done) | (simp; omega)) (show 100000 ≤ sizeLine by decide) | exact Nat.lt_of_lt_of_le (by first | omega | (simp; done) | (simp; omega)) (show 100000 ≤ sizeLine by decide))
local macro_rules | `(tactic| walk_at "ix") => `(tactic| first | exact at0 | exact at1 | exact at2 | exact at3 | assumption | exact rfl | walk_at "ix2")
local macro_rules | `(tactic| walk_at "ix2") => `(tactic| fail)
local macro_rules | `(tactic| walk_at "num") => `(tactic| first | assumption | omega | decide | walk_at "num2")
local macro_rules | `(tactic| walk_at "num2") => `(tactic| fail)
local macro_rules | `(tactic| walk_at "im") => `(tactic| first | assumption | exact R.non (S := fun _ => False) | exact R.bl (S := fun _ => False) _ | exact R.int (S := fun _ => False) _ | exact R.str (S := fun _ => False) _ | (refine R.im (by assumption) ?_; walk_at "im"))
local macro_rules | `(tactic| walk_at "r") => `(tactic| first | assumption | exact R.non (S := fun _ => False) | exact R.bl (S := fun _ => False) _ | exact R.int (S := fun _ => False) _ | exact R.str (S := fun _ => False) _ | (refine R.same (by assumption) ?_; walk_at "r") | exact R.any (by walk_at "im"))
local macro_rules | `(tactic| walk_at "chg") => `(tactic| first
  | exact Chg.refl
  | assumption
  | (refine Chg.same ?_ (by assumption); walk_at "chg")
  | (refine Chg.both ?_ (by assumption); walk_at "chg")
  | (refine Chg.pre (by assumption) ?_; walk_at "chg"))
local macro_rules | `(tactic| walk_at "w1") => `(tactic| first
  | with_reducible apply w_seq
  | with_reducible apply w_asg
  | ((with_reducible apply w_var); (focus (exact rfl)))
  | with_reducible apply w_c
  | with_reducible apply w_op
  | with_reducible apply w_cons
  | with_reducible apply w_nil
  | with_reducible apply w_gName
  | with_reducible apply w_if
  | with_reducible apply w_test
  | with_reducible apply w_B
  | with_reducible apply w_isbl
  | with_reducible apply w_retN
  | with_reducible apply w_next
  | with_reducible apply w_drop
  | with_reducible apply w_cb
  | with_reducible apply w_call
  | with_reducible apply w_callN
  | with_reducible apply w_bm
  | with_reducible apply w_bm0
  | ((with_reducible apply w_tyL); (focus (walk_at "hp"; done)))
  | with_reducible apply w_dput
  | with_reducible apply w_m1
  | with_reducible apply w_isstr
  | with_reducible apply w_and
  | with_reducible apply w_or
  | with_reducible apply w_not
  | with_reducible apply w_andV
  | with_reducible apply w_orV
  | with_reducible apply w_notV
  | with_reducible apply w_ifE
  | with_reducible apply w_chain
  | with_reducible apply w_un
  | with_reducible apply w_neg
  | with_reducible apply w_add
  | with_reducible apply w_sub
  | ((with_reducible apply w_mod); (focus (walk_at "num"; done)))
  | ((with_reducible apply w_mul); (focus (walk_at "num"; done)))
  | ((with_reducible apply w_fdiv); (focus (walk_at "num"; done)))
  | ((with_reducible apply w_pow); (focus (walk_at "num"; done)))
  | with_reducible apply w_lt
  | with_reducible apply w_le
  | with_reducible apply w_gt
  | with_reducible apply w_ge
  | with_reducible apply w_ltS
  | with_reducible apply w_geS
  | with_reducible apply w_inC
  | with_reducible apply w_notInC
  | with_reducible apply w_isN
  | with_reducible apply w_notN
  | with_reducible apply w_isB
  | with_reducible apply w_notB
  | ((with_reducible apply w_addS); (focus (walk_at "sz"; done)))
  | ((with_reducible apply w_ixL); (focus (walk_at "sq"; done)); (focus (walk_at "ix"; done)))
  | ((with_reducible apply w_ixT); (focus (walk_at "hp"; done)); (focus (walk_at "ix"; done)))
  | ((with_reducible apply w_ixS); (focus (walk_at "sz"; done)); (focus (walk_at "ix"; done)))
  | with_reducible apply w_gSub
  | ((with_reducible apply w_gTup); (focus (walk_at "hp"; done)); (focus (exact rfl)))
  | with_reducible apply w_gCons
  | with_reducible apply w_gNil
  | ((with_reducible apply w_aug); (focus (exact rfl)))
  | with_reducible apply w_ipI
  | ((with_reducible apply w_eq); (focus (exact rfl)))
  | ((with_reducible apply w_ne); (focus (exact rfl)))
  | with_reducible apply w_max
  | with_reducible apply w_min
  | with_reducible apply w_abs
  | with_reducible apply w_intB
  | with_reducible apply w_intI
  | with_reducible apply w_tup1
  | with_reducible apply w_lst1
  | with_reducible apply w_sl
  | with_reducible apply w_part
  | with_reducible apply w_noPart
  | with_reducible apply w_isint
  | ((with_reducible apply w_slS); (focus (walk_at "sz"; done)))
  | with_reducible apply w_iteT
  | with_reducible apply w_iteF
  | with_reducible apply w_iteN
  | ((with_reducible apply w_iteYes); (focus (exact rfl)))
  | ((with_reducible apply w_iteNo); (focus (exact rfl)))
  | ((with_reducible apply w_lenL); (focus (walk_at "sq"; done)))
  | ((with_reducible apply w_lenT); (focus (walk_at "hp"; done)))
  | ((with_reducible apply w_lenS); (focus (walk_at "sz"; done)))
  | with_reducible apply w_lc
  | with_reducible apply w_for
  | with_reducible apply w_yes
  | ((with_reducible apply w_wipe); (focus (exact rfl)))
  | with_reducible apply w_iList
  | with_reducible apply w_iTup
  | with_reducible apply w_iStr
  | with_reducible apply w_iRng1
  | with_reducible apply w_iRng2
  | with_reducible apply w_iZip
  | with_reducible apply w_iEnum
  | ((with_reducible apply d_iList); (focus (walk_at "sq"; done)))
  | ((with_reducible apply d_iTup); (focus (walk_at "hp"; done)))
  | with_reducible apply d_iStr
  | ((with_reducible apply d_iRng1); (focus (walk_at "num"; done)); (focus (walk_at "num"; done)))
  | ((with_reducible apply d_iRng2); (focus (walk_at "num"; done)); (focus (walk_at "num"; done)); (focus (walk_at "num"; done)); (focus (walk_at "num"; done)))
  | ((with_reducible apply d_iZip); (focus (walk_at "sq"; done)); (focus (walk_at "sq"; done)))
  | ((with_reducible apply d_iEnum); (focus (walk_at "sq"; done)))
  | walk_at "w2")
local macro_rules | `(tactic| walk_at "w2") => `(tactic| fail)
local macro_rules | `(tactic| walk_at "wn") => `(tactic| repeat walk_at "w1")
local macro_rules | `(tactic| walk_at "w") => `(tactic| repeat (first | walk_at "w1" | with_reducible apply w_ret))

def sp__law_stir : Sp := fun vs H Q _ => ∃ s t : Int, vs = [.int s, .int t] ∧ 0 ≤ s ∧ s < 2 ^ 170 ∧ 0 ≤ t ∧ t ≤ 10 ^ 13 ∧ ∀ v : Int, 0 ≤ v → Q (.int v) H
def t__law_stir  : TS :=
    tSeq (tAsg (tOp oAdd (tOp oMulW (tOp oAdd (tVar 0) (tC (.int 1))) (tC (.int 71930448200000000000000069))) (tOp oMulW (tOp oAdd (tVar 1) (tC (.int 1))) (tC (.int 3390127700000000000000000047)))) (gName 2))
    (tRet (tOp oMod (tOp oPow (tVar 2) (tC (.int 5))) (tC (.int 8120660900000000000000000000000000000000071))))
theorem pure__law_stir {K : PySem.W.Frag} (vs : List V) (H : Hp) (Q : VK) (E : XK) (h : sp__law_stir vs H Q E) : t__law_stir (fin Q) (start ["seed", "turn", "number"] vs) H := by
  obtain ⟨s, t, rfl, s0, s1, t0, t1, q⟩ := h
  show t__law_stir _ [some (.int s), some (.int t), none] H
  unfold t__law_stir
  walk_at "w"
  refine w_mulW (wide_mul (a := 171) (b := 100) (by omega) (by decide) (by decide) (by decide) (by decide)) ?_
  walk_at "w"
  refine w_mulW (wide_mul (a := 100) (b := 100) (by omega) (by decide) (by decide) (by decide) (by decide)) ?_
  walk_at "w"
  have b1 : (s + 1) * 71930448200000000000000069 < 2 ^ 300 := by omega
  have b2 : (t + 1) * 3390127700000000000000000047 < 2 ^ 300 := by omega
  refine w_pow (cpow 400 (by omega) (by decide) (by decide)) ?_
  walk_at "w"
  exact q _ (Int.emod_nonneg _ (by decide))
/-- the law's well, n draws may follow -/
def Well (H : Hp) (b : Addr) (n : Nat) : Prop := ∃ x y z : Int, H b = some (.lst [.int x, .int y, .int z]) ∧ 0 ≤ x ∧ 0 ≤ y ∧ y < 2 ^ 170 ∧ 0 ≤ z ∧ z + n ≤ 10 ^ 12
theorem Well.keep {M : List Addr} {H H' : Hp} {b : Addr} {n : Nat} (h : Well H b n) (c : Chg M H H') (hb : b ∉ M) : Well H' b n := by
  obtain ⟨x, y, z, e, r⟩ := h
  exact ⟨x, y, z, c.keep _ _ e hb, r⟩
theorem Well.same {H H' : Hp} {b : Addr} {n : Nat} (h : Well H b n) (c : Chg [] H H') : Well H' b n := h.keep c (by simp)
theorem Well.one {H H' : Hp} {b p : Addr} {n : Nat} (h : Well H b n) (c : Chg [p] H H') (e : b ≠ p) : Well H' b n := h.keep c (by simpa using e)
theorem Well.ne {H : Hp} {b p : Addr} {n : Nat} (h : Well H b n) (e : H p = none) : b ≠ p := by
  obtain ⟨x, y, z, h, _⟩ := h
  exact ne_of_none h e
theorem Well.some {H : Hp} {b : Addr} {n : Nat} (h : Well H b n) : H b ≠ none := by
  obtain ⟨x, y, z, h, _⟩ := h
  rw [h]
  exact fun z => nomatch z
theorem Well.le {H : Hp} {b : Addr} {n m : Nat} (h : Well H b n) (e : m ≤ n) : Well H b m := by
  obtain ⟨x, y, z, h, x0, y0, y1, z0, z1⟩ := h
  exact ⟨x, y, z, h, x0, y0, y1, z0, by omega⟩
def sp__law_well : Sp := fun vs H Q _ => ∃ c k : Int, vs = [.int c, .int k] ∧ 0 ≤ k ∧ k ≤ 1000 ∧ ∀ b H', H b = none → Chg [] H H' → Well H' b (10 ^ 12) → Q (.ref b) H'
def t__law_well  : TS :=
    tSeq (tAsg (tOp oAdd (tOp oMul (tOp oMod (tVar 0) (tC (.int 8120660900000000000000000000000000000000071))) (tC (.int 128))) (tVar 1)) (gName 2))
    (tSeq (tIfS (tTest (tOp oGe (tVar 0) (tOp oPow (tC (.int 10)) (tC (.int 18))))) (tRet (tLst (tCons (tOp oSub (tVar 0) (tOp oPow (tC (.int 10)) (tC (.int 18)))) (tCons (tVar 2) (tCons (tC (.int 0)) (tNil)))))) (tNext))
    (tRet (tLst (tCons (tCall sp__law_stir [] E0 (tCons (tVar 2) (tCons (tC (.int 0)) (tNil)))) (tCons (tVar 2) (tCons (tC (.int 0)) (tNil)))))))
theorem pure__law_well {K : PySem.W.Frag} (vs : List V) (H : Hp) (Q : VK) (E : XK) (h : sp__law_well vs H Q E) : t__law_well (fin Q) (start ["cell", "k", "seed"] vs) H := by
  obtain ⟨c, k, rfl, k0, k1, q⟩ := h
  show t__law_well _ [some (.int c), some (.int k), none] H
  unfold t__law_well
  have e0 := Int.emod_nonneg c (b := 8120660900000000000000000000000000000000071) (by decide)
  have e1 := Int.emod_lt_of_pos c (b := 8120660900000000000000000000000000000000071) (by decide)
  walk_at "w"
  refine w_mul (.inr ⟨by decide, by decide⟩) ?_
  walk_at "w"
  refine w_pow (cpow 4 (by decide) (by decide) (by decide)) ?_
  walk_at "w"
  refine w_iteD (fun h => ?_) (fun h => ?_)
  · walk_at "w"
    refine w_pow (cpow 4 (by decide) (by decide) (by decide)) ?_
    walk_at "w"
    refine k_lst (by walk_at "sz") fun b H1 nb c1 hb => ?_
    exact q b H1 nb c1 ⟨_, _, _, hb, by omega, by omega, by omega, by omega, by omega⟩
  · walk_at "w"
    refine ⟨_, _, rfl, by omega, by omega, by decide, by decide, fun v hv => ?_⟩
    walk_at "w"
    refine k_lst (by walk_at "sz") fun b H1 nb c1 hb => ?_
    exact q b H1 nb c1 ⟨_, _, _, hb, by omega, by omega, by omega, by omega, by omega⟩
def sp__law_draw : Sp := fun vs H Q _ => ∃ (b : Addr) (m : Int) (n : Nat), vs = [.ref b, .int m] ∧ Well H b n ∧ 1 ≤ n ∧ 0 < m ∧ m < 10 ^ 30 ∧ ∀ (v : Int) (H' : Hp), Chg [b] H H' → Well H' b (n - 1) → 0 ≤ v → v < m → Q (.int v) H'
theorem u_draw {H : Hp} {Q : VK} {E : XK} {b : Addr} {m : Int} {n : Nat} (hb : Well H b n) (hn : 1 ≤ n) (h0 : 0 < m) (h1 : m < 10 ^ 30) (q : ∀ (v : Int) (H' : Hp), Chg [b] H H' → Well H' b (n - 1) → 0 ≤ v → v < m → Q (.int v) H') : sp__law_draw ([.ref b, .int m] ++ []) H Q E := ⟨b, m, n, rfl, hb, hn, h0, h1, q⟩
def t__law_draw (K : PySem.W.Frag) : TS :=
    tSeq (tIfS (tTest (tOp rEq (tOp (rIxL K) (tVar 0) (tC (.int 0))) (tC (.int 0)))) (tSeq (tAsg (tOp oAdd (tOp (rIxL K) (tVar 0) (tC (.int 2))) (tC (.int 1))) (gSub (tVar 0) (tC (.int 2)) rSetL))
    (tAsg (tCall sp__law_stir [] E0 (tCons (tOp (rIxL K) (tVar 0) (tC (.int 1))) (tCons (tOp (rIxL K) (tVar 0) (tC (.int 2))) (tNil)))) (gSub (tVar 0) (tC (.int 0)) rSetL))) (tNext))
    (tSeq (tAsg (tOp oMod (tOp (rIxL K) (tVar 0) (tC (.int 0))) (tVar 1)) (gName 2))
    (tSeq (tAsg (tOp oFdiv (tOp (rIxL K) (tVar 0) (tC (.int 0))) (tVar 1)) (gSub (tVar 0) (tC (.int 0)) rSetL))
    (tRet (tVar 2))))
theorem pure__law_draw {K : PySem.W.Frag} (vs : List V) (H : Hp) (Q : VK) (E : XK) (h : sp__law_draw vs H Q E) : t__law_draw K (fin Q) (start ["well", "many", "taken"] vs) H := by
  obtain ⟨b, m, n, rfl, ⟨x, y, z, hb, x0, y0, y1, z0, z1⟩, n1, m0, m1, q⟩ := h
  show t__law_draw K _ [some (.ref b), some (.int m), none] H
  unfold t__law_draw
  have rest : ∀ (H1 : Hp) (x' z' : Int), Chg [b] H H1 → H1 b = some (.lst [.int x', .int y, .int z']) → 0 ≤ x' → 0 ≤ z' → z' + (n - 1 : Nat) ≤ 10 ^ 12 →
      tSeq (tAsg (tOp oMod (tOp (rIxL K) (tVar 0) (tC (.int 0))) (tVar 1)) (gName 2)) (tSeq (tAsg (tOp oFdiv (tOp (rIxL K) (tVar 0) (tC (.int 0))) (tVar 1)) (gSub (tVar 0) (tC (.int 0)) rSetL)) (tRet (tVar 2))) (fin Q) [some (.ref b), some (.int m), none] H1 := fun H1 x' z' c1 h1 p0 p1 p2 => by
    walk_at "w"
    refine w_fdiv (cdivS m0 m1) ?_
    walk_at "w"
    refine w_setL h1 rfl fun H2 c2 h2 => ?_
    walk_at "w"
    exact q _ H2 (c1.both c2) ⟨_, _, _, h2, Int.ediv_nonneg p0 (by omega), y0, y1, p1, p2⟩ (Int.emod_nonneg _ (by omega)) (Int.emod_lt_of_pos _ m0)
  generalize hS : (tSeq (tAsg (tOp oMod (tOp (rIxL K) (tVar 0) (tC (.int 0))) (tVar 1)) (gName 2)) (tSeq (tAsg (tOp oFdiv (tOp (rIxL K) (tVar 0) (tC (.int 0))) (tVar 1)) (gSub (tVar 0) (tC (.int 0)) rSetL)) (tRet (tVar 2))) : TS) = suf at rest
  walk_at "w"
  refine w_iteD (fun h => ?_) (fun h => ?_)
  · walk_at "w"
    refine w_setL hb rfl fun H1 c1 h1 => ?_
    have h1' : H1 b = some (HO.lst [V.int x, V.int y, V.int (z + 1)]) := h1
    clear h1
    walk_at "w"
    refine ⟨y, z + 1, rfl, y0, y1, by omega, by omega, fun v hv => ?_⟩
    walk_at "w"
    refine w_setL h1' rfl fun H2 c2 h2 => ?_
    exact rest H2 v (z + 1) (c1.both c2) h2 hv (by omega) (by omega)
  · refine w_next ?_
    exact rest H x z .refl hb x0 z0 (by omega)
def sp__law_cell_at (K : PySem.W.Frag) : Sp := fun vs H Q _ => ∃ (a : Addr) (ns : List Int) (k : Int), vs = [.ref a, .int k] ∧ SqL K H a (ns.map V.int) ∧ 0 ≤ k ∧ ∀ v : Int, Q (.int v) H
def t__law_cell_at (K : PySem.W.Frag) : TS :=
    tSeq (tIfS (tTest (tOp oLt (tVar 1) (tCB (cLenQ K) (tCons (tVar 0) (tNil))))) (tRet (tOp (rIxL K) (tVar 0) (tVar 1))) (tNext))
    (tRet (tC (.int 0)))
theorem pure__law_cell_at {K : PySem.W.Frag} (vs : List V) (H : Hp) (Q : VK) (E : XK) (h : sp__law_cell_at K vs H Q E) : t__law_cell_at K (fin Q) (start ["script", "k"] vs) H := by
  obtain ⟨a, ns, k, rfl, hs, k0, q⟩ := h
  show t__law_cell_at K _ [some (.ref a), some (.int k)] H
  unfold t__law_cell_at
  walk_at "w"
  refine w_iteD (fun h => ?_) (fun h => ?_)
  · rw [List.length_map] at h
    obtain ⟨v, ev, hv⟩ := atD (xs := ns.map V.int) k0 (by rw [List.length_map]; exact h)
    obtain ⟨n, _, rfl⟩ := List.mem_map.mp hv
    walk_at "w"
    exact q n
  · walk_at "w"
    exact q 0
def sp__law_number : Sp := fun vs H Q _ => ∃ (b : Addr) (n : Nat), vs = [.ref b] ∧ Well H b n ∧ 2 ≤ n ∧ ∀ (v : Int) (H' : Hp), Chg [b] H H' → Well H' b (n - 2) → -(10 ^ 20) ≤ v → v ≤ 10 ^ 20 → Q (.int v) H'
def t__law_number  : TS :=
    tSeq (tAsg (tCall sp__law_draw [] E0 (tCons (tVar 0) (tCons (tC (.int 9)) (tNil)))) (gName 1))
    (tSeq (tIfS (tTest (tOp oLt (tVar 1) (tC (.int 6)))) (tRet (tCall sp__law_draw [] E0 (tCons (tVar 0) (tCons (tC (.int 4)) (tNil))))) (tNext))
    (tSeq (tIfS (tTest (tOp oLt (tVar 1) (tC (.int 8)))) (tRet (tOp oSub (tCall sp__law_draw [] E0 (tCons (tVar 0) (tCons (tC (.int 13)) (tNil)))) (tC (.int 6)))) (tNext))
    (tRet (tOp oAdd (tOp oSub (tCall sp__law_draw [] E0 (tCons (tVar 0) (tCons (tOp oSub (tOp oMul (tC (.int 2)) (tOp oPow (tC (.int 10)) (tC (.int 20)))) (tC (.int 1))) (tNil)))) (tOp oPow (tC (.int 10)) (tC (.int 20)))) (tC (.int 1))))))
theorem pure__law_number {K : PySem.W.Frag} (vs : List V) (H : Hp) (Q : VK) (E : XK) (h : sp__law_number vs H Q E) : t__law_number (fin Q) (start ["well", "pick"] vs) H := by
  obtain ⟨b, n, rfl, bag, hn, q⟩ := h
  show t__law_number _ [some (.ref b), none] H
  unfold t__law_number
  walk_at "w"
  refine u_draw bag (by omega) (by decide) (by decide) fun v H1 c1 bag1 v0 v1 => ?_
  walk_at "w"
  refine w_iteD (fun h => ?_) (fun h => ?_)
  · walk_at "w"
    refine u_draw bag1 (by omega) (by decide) (by decide) fun u H2 c2 bag2 u0 u1 => ?_
    exact q _ H2 (c1.both c2) (bag2.le (by omega)) (by omega) (by omega)
  walk_at "w"
  refine w_iteD (fun h' => ?_) (fun h' => ?_)
  · walk_at "w"
    refine u_draw bag1 (by omega) (by decide) (by decide) fun u H2 c2 bag2 u0 u1 => ?_
    walk_at "w"
    exact q _ H2 (c1.both c2) (bag2.le (by omega)) (by omega) (by omega)
  walk_at "w"
  refine w_pow (cpow 4 (by decide) (by decide) (by decide)) ?_
  walk_at "w"
  refine w_mul (.inl ⟨by decide, by decide⟩) ?_
  walk_at "w"
  have e20 : (10 : Int) ^ Int.toNat 20 = 100000000000000000000 := by decide
  rw [e20]
  refine u_draw bag1 (by omega) (by decide) (by decide) fun u H2 c2 bag2 u0 u1 => ?_
  walk_at "w"
  refine w_pow (cpow 4 (by decide) (by decide) (by decide)) ?_
  walk_at "w"
  rw [e20]
  exact q _ H2 (c1.both c2) (bag2.le (by omega)) (by omega) (by omega)
end Fg
--LAW k07
namespace Fg
open PySem PySem.Spec PyProof.Rows L2
/-! ### the walk's small steps -/
local macro_rules | `(tactic| walk_at "hp") => `(tactic| first
  | assumption
  | exact upd_same
  | (refine Chg.at (by assumption) ?_; walk_at "hp")
  | (refine Chg.at1 (by assumption) ?_ (by walk_at "ne"); walk_at "hp"))
local macro_rules | `(tactic| walk_at "ne") => `(tactic| first | assumption | (apply Ne.symm; assumption))
local macro_rules | `(tactic| walk_at "sq") => `(tactic| first | assumption | exact sqL (by walk_at "hp") | (refine Chg.seq (by assumption) ?_; walk_at "sq"))
local macro_rules | `(tactic| walk_at "sz") => `(tactic| first | assumption | exact Nat.zero_le _ | (simp only [List.length_cons, List.length_nil]; decide) | exact Nat.le_trans (by first | omega | (simp; done) | (simp; omega)) (show 100000 ≤ sizeLine by decide) | exact Nat.lt_of_lt_of_le (by first | omega | (simp; done) | (simp; omega)) (show 100000 ≤ sizeLine by decide))
local macro_rules | `(tactic| walk_at "ix") => `(tactic| first | exact at0 | exact at1 | exact at2 | exact at3 | assumption | exact rfl | walk_at "ix2")
local macro_rules | `(tactic| walk_at "ix2") => `(tactic| fail)
local macro_rules | `(tactic| walk_at "num") => `(tactic| first | assumption | omega | decide | walk_at "num2")
local macro_rules | `(tactic| walk_at "num2") => `(tactic| fail)
local macro_rules | `(tactic| walk_at "im") => `(tactic| first | assumption | exact R.non (S := fun _ => False) | exact R.bl (S := fun _ => False) _ | exact R.int (S := fun _ => False) _ | exact R.str (S := fun _ => False) _ | (refine R.im (by assumption) ?_; walk_at "im"))
local macro_rules | `(tactic| walk_at "r") => `(tactic| first | assumption | exact R.non (S := fun _ => False) | exact R.bl (S := fun _ => False) _ | exact R.int (S := fun _ => False) _ | exact R.str (S := fun _ => False) _ | (refine R.same (by assumption) ?_; walk_at "r") | exact R.any (by walk_at "im"))
local macro_rules | `(tactic| walk_at "chg") => `(tactic| first
  | exact Chg.refl
  | assumption
  | (refine Chg.same ?_ (by assumption); walk_at "chg")
  | (refine Chg.both ?_ (by assumption); walk_at "chg")
  | (refine Chg.pre (by assumption) ?_; walk_at "chg"))
local macro_rules | `(tactic| walk_at "w1") => `(tactic| first
  | with_reducible apply w_seq
  | with_reducible apply w_asg
  | ((with_reducible apply w_var); (focus (exact rfl)))
  | with_reducible apply w_c
  | with_reducible apply w_op
  | with_reducible apply w_cons
  | with_reducible apply w_nil
  | with_reducible apply w_gName
  | with_reducible apply w_if
  | with_reducible apply w_test
  | with_reducible apply w_B
  | with_reducible apply w_isbl
  | with_reducible apply w_retN
  | with_reducible apply w_next
  | with_reducible apply w_drop
  | with_reducible apply w_cb
  | with_reducible apply w_call
  | with_reducible apply w_callN
  | with_reducible apply w_bm
  | with_reducible apply w_bm0
  | ((with_reducible apply w_tyL); (focus (walk_at "hp"; done)))
  | with_reducible apply w_dput
  | with_reducible apply w_m1
  | with_reducible apply w_isstr
  | with_reducible apply w_and
  | with_reducible apply w_or
  | with_reducible apply w_not
  | with_reducible apply w_andV
  | with_reducible apply w_orV
  | with_reducible apply w_notV
  | with_reducible apply w_ifE
  | with_reducible apply w_chain
  | with_reducible apply w_un
  | with_reducible apply w_neg
  | with_reducible apply w_add
  | with_reducible apply w_sub
  | ((with_reducible apply w_mod); (focus (walk_at "num"; done)))
  | ((with_reducible apply w_mul); (focus (walk_at "num"; done)))
  | ((with_reducible apply w_fdiv); (focus (walk_at "num"; done)))
  | ((with_reducible apply w_pow); (focus (walk_at "num"; done)))
  | with_reducible apply w_lt
  | with_reducible apply w_le
  | with_reducible apply w_gt
  | with_reducible apply w_ge
  | with_reducible apply w_ltS
  | with_reducible apply w_geS
  | with_reducible apply w_inC
  | with_reducible apply w_notInC
  | with_reducible apply w_isN
  | with_reducible apply w_notN
  | with_reducible apply w_isB
  | with_reducible apply w_notB
  | ((with_reducible apply w_addS); (focus (walk_at "sz"; done)))
  | ((with_reducible apply w_ixL); (focus (walk_at "sq"; done)); (focus (walk_at "ix"; done)))
  | ((with_reducible apply w_ixT); (focus (walk_at "hp"; done)); (focus (walk_at "ix"; done)))
  | ((with_reducible apply w_ixS); (focus (walk_at "sz"; done)); (focus (walk_at "ix"; done)))
  | with_reducible apply w_gSub
  | ((with_reducible apply w_gTup); (focus (walk_at "hp"; done)); (focus (exact rfl)))
  | with_reducible apply w_gCons
  | with_reducible apply w_gNil
  | ((with_reducible apply w_aug); (focus (exact rfl)))
  | with_reducible apply w_ipI
  | ((with_reducible apply w_eq); (focus (exact rfl)))
  | ((with_reducible apply w_ne); (focus (exact rfl)))
  | with_reducible apply w_max
  | with_reducible apply w_min
  | with_reducible apply w_abs
  | with_reducible apply w_intB
  | with_reducible apply w_intI
  | with_reducible apply w_tup1
  | with_reducible apply w_lst1
  | with_reducible apply w_sl
  | with_reducible apply w_part
  | with_reducible apply w_noPart
  | with_reducible apply w_isint
  | ((with_reducible apply w_slS); (focus (walk_at "sz"; done)))
  | with_reducible apply w_iteT
  | with_reducible apply w_iteF
  | with_reducible apply w_iteN
  | ((with_reducible apply w_iteYes); (focus (exact rfl)))
  | ((with_reducible apply w_iteNo); (focus (exact rfl)))
  | ((with_reducible apply w_lenL); (focus (walk_at "sq"; done)))
  | ((with_reducible apply w_lenT); (focus (walk_at "hp"; done)))
  | ((with_reducible apply w_lenS); (focus (walk_at "sz"; done)))
  | with_reducible apply w_lc
  | with_reducible apply w_for
  | with_reducible apply w_yes
  | ((with_reducible apply w_wipe); (focus (exact rfl)))
  | with_reducible apply w_iList
  | with_reducible apply w_iTup
  | with_reducible apply w_iStr
  | with_reducible apply w_iRng1
  | with_reducible apply w_iRng2
  | with_reducible apply w_iZip
  | with_reducible apply w_iEnum
  | ((with_reducible apply d_iList); (focus (walk_at "sq"; done)))
  | ((with_reducible apply d_iTup); (focus (walk_at "hp"; done)))
  | with_reducible apply d_iStr
  | ((with_reducible apply d_iRng1); (focus (walk_at "num"; done)); (focus (walk_at "num"; done)))
  | ((with_reducible apply d_iRng2); (focus (walk_at "num"; done)); (focus (walk_at "num"; done)); (focus (walk_at "num"; done)); (focus (walk_at "num"; done)))
  | ((with_reducible apply d_iZip); (focus (walk_at "sq"; done)); (focus (walk_at "sq"; done)))
  | ((with_reducible apply d_iEnum); (focus (walk_at "sq"; done)))
  | walk_at "w2")
local macro_rules | `(tactic| walk_at "w2") => `(tactic| fail)
local macro_rules | `(tactic| walk_at "wn") => `(tactic| repeat walk_at "w1")
local macro_rules | `(tactic| walk_at "w") => `(tactic| repeat (first | walk_at "w1" | with_reducible apply w_ret))

theorem few_of {α : Type} [DecidableEq α] : ∀ {xs ys : List α}, xs.Nodup → (∀ x ∈ xs, x ∈ ys) → xs.length ≤ ys.length
  | [], _, _, _ => Nat.zero_le _
  | x :: r, ys, nd, h => by
    obtain ⟨n1, n2⟩ := List.nodup_cons.mp nd
    have hm : x ∈ ys := h x (by simp)
    have : r.length ≤ (ys.erase x).length := few_of n2 fun y hy => (List.mem_erase_of_ne (fun e => n1 (by rw [← e]; exact hy))).mpr (h y (List.mem_cons_of_mem _ hy))
    rw [List.length_erase_of_mem hm] at this
    have := List.length_pos_of_mem hm
    rw [List.length_cons]
    omega
theorem strs_of {P : Str → Prop} : ∀ {acc : List V}, (∀ (i : Nat) y, acc[i]? = some y → ∃ z, y = .str z ∧ P z) → ∃ zs : List Str, acc = zs.map V.str ∧ ∀ z ∈ zs, P z
  | [], _ => ⟨[], rfl, fun z h => by cases h⟩
  | v :: r, h => by
    obtain ⟨z, rfl, hz⟩ := h 0 v rfl
    obtain ⟨zs, e, hs⟩ := strs_of (acc := r) fun i y hy => h (i + 1) y hy
    refine ⟨z :: zs, by rw [e]; rfl, fun y hy => ?_⟩
    rcases List.mem_cons.mp hy with rfl | hy
    · exact hz
    · exact hs y hy
def lt26 : List Str := (List.range 26).map fun k => ⟨#[97 + k]⟩
theorem lt26_nd : lt26.Nodup := by decide +kernel
theorem lt26_ok : ∀ x ∈ lt26, nameS x = true := by decide +kernel
theorem letter_k {i : Nat} (h : i < 26) : atI (Str.ofString "abcdefghijklmnopqrstuvwxyz").cps.toList (0 + (i : Nat)) = some (97 + i) := by
  have e : ∀ i, i < 26 → (Str.ofString "abcdefghijklmnopqrstuvwxyz").cps.toList[i]? = some (97 + i) := by decide +kernel
  rw [Int.zero_add]
  exact atI_nat (e i h)
theorem low_k {i : Nat} (h : i < 26) : isLow (97 + i) = true := by
  have e : ∀ i, i < 26 → isLow (97 + i) = true := by decide +kernel
  exact e i h
def sp__law_new_name (K : PySem.W.Frag) : Sp := fun vs H Q _ => ∃ (b l : Addr) (ns : List Str) (n : Nat), vs = [.ref b, .ref l] ∧ Well H b n ∧ 20 ≤ n ∧ H l = some (.lst (ns.map V.str)) ∧ l ≠ b ∧ ns.length ≤ 20 ∧ (∀ x ∈ ns, nameS x = true) ∧ ∀ (x : Str) (H' : Hp), Chg [b] H H' → Well H' b (n - 20) → nameS x = true → x ∉ ns → Q (.str x) H'
def t__law_new_name (K : PySem.W.Frag) : TS :=
    tSeq (tAsg (tC (.str "abcdefghijklmnopqrstuvwxyz")) (gName 2))
    (tSeq (tAsg (tCall sp__law_draw [] E0 (tCons (tVar 0) (tCons (tC (.int 3)) (tNil)))) (gName 3))
    (tSeq (tAsg (tOp rIxS (tVar 2) (tCall sp__law_draw [] E0 (tCons (tVar 0) (tCons (tC (.int 26)) (tNil))))) (gName 4))
    (tSeq (tAsg (tM1 (mJoin K) (tC (.str "")) (tLc (iRng1 (tCons (tOp oAdd (tC (.int 1)) (tCall sp__law_draw [] E0 (tCons (tVar 0) (tCons (tC (.int 8)) (tNil))))) (tNil))) (gName 9) (tYes) (tOp rIxS (tVar 2) (tCall sp__law_draw [] E0 (tCons (tVar 0) (tCons (tC (.int 26)) (tNil))))) [9])) (gName 5))
    (tSeq (tIfS (tAnd (tTest (tOp oGt (tVar 3) (tC (.int 0)))) (tTest (tOp oNeE (tVar 1) (tLst (tNil))))) (tSeq (tAsg (tOp (rIxL K) (tVar 1) (tCall sp__law_draw [] E0 (tCons (tVar 0) (tCons (tCB (cLenQ K) (tCons (tVar 1) (tNil))) (tNil))))) (gName 6))
    (tSeq (tAsg (tCall sp__law_draw [] E0 (tCons (tVar 0) (tCons (tOp oAdd (tCB cLenS (tCons (tVar 6) (tNil))) (tC (.int 1))) (tNil)))) (gName 7))
    (tAsg (tSl rSlS (tOp oAddS (tOp oAddS (tSl rSlS (tVar 6) (tNoPart) (tPart (tVar 7))) (tVar 4)) (tSl rSlS (tVar 6) (tPart (tOp oSub (tOp oAdd (tVar 7) (tVar 3)) (tC (.int 1)))) (tNoPart))) (tNoPart) (tPart (tC (.int 8)))) (gName 5)))) (tNext))
    (tSeq (tAsg (tOp rCat (tOp rCat (tLst (tCons (tVar 5) (tNil))) (tLc (iRng1 (tCons (tC (.int 26)) (tNil))) (gName 9) (tYes) (tOp rIxS (tVar 2) (tVar 9)) [9])) (tLc (iRng1 (tCons (tC (.int 26)) (tNil))) (gName 9) (tYes) (tOp oAddS (tOp rIxS (tVar 2) (tVar 9)) (tOp rIxS (tVar 2) (tVar 9))) [9])) (gName 8))
    (tRet (tOp (rIxL K) (tLc (iList K (tVar 8)) (gName 10) (tTest (tOp (rIn K true) (tVar 10) (tVar 1))) (tVar 10) [10]) (tC (.int 0)))))))))
theorem pure__law_new_name {K : PySem.W.Frag} (vs : List V) (H : Hp) (Q : VK) (E : XK) (h : sp__law_new_name K vs H Q E) : t__law_new_name K (fin Q) (start ["well", "names", "letters", "pick", "letter", "name", "old", "at", "some", "k", "one"] vs) H := by
  obtain ⟨b, l, ns, n, rfl, bag, hn, hl, lb, ln, okn, q⟩ := h
  show t__law_new_name K _ [some (.ref b), some (.ref l), none, none, none, none, none, none, none, none, none] H
  unfold t__law_new_name
  -- the choice of one that is not there
  have rest : ∀ (H1 : Hp) (name : Str) (y3 y4 y6 y7 y9 y10 : Option V), Chg [b] H H1 → Well H1 b (n - 20) → nameS name = true →
      tSeq (tAsg (tOp rCat (tOp rCat (tLst (tCons (tVar 5) tNil)) (tLc (iRng1 (tCons (tC (.int 26)) tNil)) (gName 9) tYes (tOp rIxS (tVar 2) (tVar 9)) [9])) (tLc (iRng1 (tCons (tC (.int 26)) tNil)) (gName 9) tYes (tOp oAddS (tOp rIxS (tVar 2) (tVar 9)) (tOp rIxS (tVar 2) (tVar 9))) [9])) (gName 8))
        (tRet (tOp (rIxL K) (tLc (iList K (tVar 8)) (gName 10) (tTest (tOp (rIn K true) (tVar 10) (tVar 1))) (tVar 10) [10]) (tC (.int 0)))) (fin Q) [some (.ref b), some (.ref l), some (.str "abcdefghijklmnopqrstuvwxyz"), y3, y4, some (.str name), y6, y7, none, y9, y10] H1 := fun H1 name y3 y4 y6 y7 y9 y10 c1 bag1 okm => by
    walk_at "w"
    refine k_lst (by walk_at "sz") fun p1 H2 np1 c2 hp1 => ?_
    walk_at "w"
    refine w_lcP walk_range [] (fun _ _ => True) (fun i y _ => ∃ z : Str, y = .str z ∧ z = ⟨#[97 + i]⟩) trivial (fun _ _ _ _ _ _ _ => trivial) (fun _ _ => trivial) (fun D i acc z H3 H4 hi nD hD el iv c3 _ y => ?_) (fun D acc H3 nD c3 _ el hD ys => ?_)
    · obtain ⟨rfl, rfl⟩ := y
      have hi' : i < 26 := hi
      walk_at "w"
      refine w_ixS (by decide +kernel) (letter_k hi') ?_
      exact lcp_end (fun _ _ _ _ _ _ _ => trivial) (fun _ _ _ _ _ _ _ h => h) nD (fun a ha => by cases ha) hD el (by omega) iv .refl trivial ⟨_, rfl, rfl⟩
    have e26 : acc = lt26.map V.str := by
      have l26 : acc.length = 26 := el
      apply List.ext_getElem?
      intro i
      by_cases hi : i < 26
      · obtain ⟨z, e1, e2⟩ := ys i acc[i] (List.getElem?_eq_getElem (by omega))
        rw [List.getElem?_eq_getElem (by omega), e1, e2]
        unfold lt26
        rw [List.map_map, List.getElem?_map, List.getElem?_range hi]
        rfl
      · rw [List.getElem?_eq_none (by omega), List.getElem?_eq_none (by rw [List.length_map]; unfold lt26; rw [List.length_map, List.length_range]; omega)]
    subst e26
    refine w_cat (c3.at hp1) hD (by rw [List.length_map]; unfold lt26; simp) fun p4 H4 np4 c4 hp4 => ?_
    walk_at "w"
    refine w_lcP walk_range [] (fun _ _ => True) (fun i y _ => ∃ z : Str, y = .str z ∧ nameS z = true) trivial (fun _ _ _ _ _ _ _ => trivial) (fun _ _ => trivial) (fun D2 i acc2 z H5 H6 hi nD2 hD2 el2 iv2 c5 _ y => ?_) (fun D2 acc2 H5 nD2 c5 _ el2 hD2 ys2 => ?_)
    · obtain ⟨rfl, rfl⟩ := y
      have hi' : i < 26 := hi
      walk_at "w"
      refine w_ixS (by decide +kernel) (letter_k hi') ?_
      walk_at "w"
      refine w_ixS (by decide +kernel) (letter_k hi') ?_
      refine w_addS (by rw [len_one]; decide) ?_
      refine lcp_end (fun _ _ _ _ _ _ _ => trivial) (fun _ _ _ _ _ _ _ h => h) nD2 (fun a ha => by cases ha) hD2 el2 (by omega) iv2 .refl trivial ⟨_, rfl, nameS_of ?_ ?_ (low_append (low_one (low_k hi')) (low_one (low_k hi')))⟩
      · rw [len_append, len_one]; omega
      · rw [len_append, len_one]; omega
    obtain ⟨zs2, rfl, hz2⟩ := strs_of ys2
    have l2 : zs2.length = 26 := by rw [List.length_map] at el2; exact el2
    refine w_cat (c5.at hp4) hD2 (by simp [l2, lt26]) fun p6 H6 np6 c6 hp6 => ?_
    walk_at "w"
    have hp6' : H6 p6 = some (.lst ((([name] ++ lt26) ++ zs2).map V.str)) := by rw [List.map_append, List.map_append]; exact hp6
    have all : ∀ z ∈ ([name] ++ lt26) ++ zs2, nameS z = true := fun z hz => by
      rcases List.mem_append.mp hz with hz | hz
      · rcases List.mem_append.mp hz with hz | hz
        · rw [List.mem_singleton.mp hz]; exact okm
        · exact lt26_ok z hz
      · exact hz2 z hz
    have lall : (([name] ++ lt26) ++ zs2).length ≤ 60 := by simp [l2, lt26]
    have sub : ∀ z ∈ lt26, z ∈ ([name] ++ lt26) ++ zs2 := fun z hz => by simp [hz]
    generalize ([name] ++ lt26) ++ zs2 = zs at hp6' all lall sub
    have c26 : Chg [] H1 H6 := (((c2.same c3).same c4).same c5).same c6
    have hl6 := c26.at (c1.at1 hl lb)
    refine w_lcF (walk_list (K := K) (a := p6) (xs := zs.map V.str)) [] (fun i acc => acc = ((zs.take i).filter fun z => decide (z ∉ ns)).map V.str) rfl (fun H7 c => sqL (c.at hp6')) (fun D3 i acc3 z H7 H8 hi nD3 hD3 el3 ac c7 y => ?_) (fun D3 acc3 H7 nD3 c7 el3 hD3 ac => ?_)
    · obtain ⟨rfl, ex⟩ := y
      rw [List.length_map] at hi
      rw [List.getElem?_map, List.getElem?_eq_getElem hi] at ex
      cases ex
      have et : zs.take (i + 1) = zs.take i ++ [zs[i]] := by rw [List.take_add_one, List.getElem?_eq_getElem hi]; rfl
      generalize zs[i] = x at et ⊢
      have hl7 := c7.at hl6
      walk_at "w"
      refine w_notInL (sqL hl7) rfl (flat_strs ns) ?_
      rw [inV_str]
      walk_at "w"
      refine w_iteD (fun hin => ?_) (fun hin => ?_)
      · refine lf_no hD3 el3 c7 ?_
        rw [et, List.filter_append, show ([x].filter fun z => decide (z ∉ ns)) = [] by simp [hin], List.append_nil]
        exact ac
      · walk_at "w"
        refine lf_yes nD3 hD3 el3 (by omega) c7 ?_
        rw [et, List.filter_append, show ([x].filter fun z => decide (z ∉ ns)) = [x] by simp [hin], List.map_append, ac]
        rfl
    · rw [List.length_map, List.take_length] at ac
      have ne : (zs.filter fun z => decide (z ∉ ns)) ≠ [] := fun e => by
        have all26 : ∀ z ∈ lt26, z ∈ ns := fun z hz => by
          by_cases hm : z ∈ ns
          · exact hm
          · have : z ∈ zs.filter fun z => decide (z ∉ ns) := List.mem_filter.mpr ⟨sub z hz, decide_eq_true hm⟩
            rw [e] at this
            cases this
        have := few_of lt26_nd all26
        have l26 : lt26.length = 26 := by decide +kernel
        omega
      cases hf : (zs.filter fun z => decide (z ∉ ns)) with
      | nil => exact absurd hf ne
      | cons x r =>
        have hx : x ∈ zs.filter fun z => decide (z ∉ ns) := by rw [hf]; simp
        obtain ⟨h1, h2⟩ := List.mem_filter.mp hx
        rw [hf] at ac
        rw [ac] at hD3
        refine w_ixL (sqL hD3) (v := .str x) at0 ?_
        exact q x H7 (c1.same (c26.same c7)) (bag1.same (c26.same c7)) (all x h1) (of_decide_eq_true h2)
  generalize hS : (tSeq (tAsg (tOp rCat (tOp rCat (tLst (tCons (tVar 5) tNil)) (tLc (iRng1 (tCons (tC (.int 26)) tNil)) (gName 9) tYes (tOp rIxS (tVar 2) (tVar 9)) [9])) (tLc (iRng1 (tCons (tC (.int 26)) tNil)) (gName 9) tYes (tOp oAddS (tOp rIxS (tVar 2) (tVar 9)) (tOp rIxS (tVar 2) (tVar 9))) [9])) (gName 8))
        (tRet (tOp (rIxL K) (tLc (iList K (tVar 8)) (gName 10) (tTest (tOp (rIn K true) (tVar 10) (tVar 1))) (tVar 10) [10]) (tC (.int 0)))) : TS) = suf at rest
  walk_at "w"
  refine u_draw bag (by omega) (by decide) (by decide) fun v H1 c1 bag1 v0 v1 => ?_
  walk_at "w"
  refine u_draw bag1 (by omega) (by decide) (by decide) fun u H2 c2 bag2 u0 u1 => ?_
  obtain ⟨c, ec, hc⟩ := letter_at u0 u1
  have c12 := c1.both c2
  refine w_ixS (by decide +kernel) ec ?_
  walk_at "w"
  refine u_draw bag2 (by omega) (by decide) (by decide) fun w H3 c3 bag3 w0 w1 => ?_
  walk_at "w"
  have b3s := bag3.some
  refine w_lcP walk_range [b] (fun i H => Well H b (n - 3 - i)) (fun i y _ => ∃ d, y = .str ⟨#[d]⟩ ∧ isLow d = true) (bag3.le (by omega)) (fun i H1 H2 p np c h => h.one c (fun z => b3s (by rw [z]; exact np))) (fun _ _ => trivial) (fun D i acc z H4 H5 hi nD hD el iv c4 bag4 y => ?_) (fun D acc H4 nD c4 bag4 el hD ys => ?_)
  · obtain ⟨rfl, rfl⟩ := y
    have hi8 : i < 8 := by omega
    walk_at "w"
    refine u_draw bag4 (by omega) (by decide) (by decide) fun u2 H6 c6 bag6 g0 g1 => ?_
    obtain ⟨d, ed, hd⟩ := letter_at g0 g1
    refine w_ixS (by decide +kernel) ed ?_
    exact lcp_end (fun i H1 H2 p np c h => h.one c (fun z => b3s (by rw [z]; exact np))) (fun _ _ _ _ _ _ _ h => h) nD (fun a ha => by rw [List.mem_singleton.mp ha]; exact b3s) hD el (by omega) iv c6 (bag6.le (by omega)) ⟨d, rfl, hd⟩
  have hlen : acc.length = (1 + w).toNat := el
  obtain ⟨zs, rfl, hzs⟩ := strs_of (P := fun z => z.length = 1 ∧ low z) fun i y hy => by
    obtain ⟨d, rfl, hd⟩ := ys i y hy
    exact ⟨_, rfl, rfl, low_one hd⟩
  rw [List.length_map] at hlen
  have j := join_ones hzs
  refine w_join (sqL hD) ?_ ?_
  · rw [sum_ones fun y hy => (hzs y hy).1, show (Str.ofString "").length = 0 from by decide +kernel]
    omega
  have okj : nameS (Txt.join "" zs) = true := nameS_of (by rw [j.1]; omega) (by rw [j.1]; omega) j.2
  have c04 : Chg [b] H H4 := (c12.both c3).both c4
  have hl4 := c04.at1 hl lb
  walk_at "w"
  refine w_iteD (fun hp => ?_) (fun hp => ?_)
  rotate_left
  · walk_at "w"
    exact rest H4 _ _ _ _ _ _ _ c04 (bag4.le (by omega)) okj
  walk_at "w"
  refine k_lst (by walk_at "sz") fun pe H5 npe c5 hpe => ?_
  refine w_neE (c5.at hl4) hpe ?_
  have bag5 := bag4.same c5
  have hl5 := c5.at hl4
  walk_at "w"
  refine w_iteB (fun he => ?_) (fun he => ?_)
  · walk_at "w"
    exact rest H5 _ _ _ _ _ _ _ (c04.same c5) (bag5.le (by omega)) okj
  have nne : 0 < ns.length := by
    cases ns with
    | nil => cases he
    | cons a r => simp
  walk_at "w"
  rw [List.length_map]
  refine u_draw bag5 (by omega) (by omega) (by omega) fun o H6 c6 bag6 o0 o1 => ?_
  obtain ⟨ov, eo, ho⟩ := atD (xs := ns.map V.str) o0 (by rw [List.length_map]; exact o1)
  obtain ⟨old, hold, rfl⟩ := List.mem_map.mp ho
  have oo := nameS_iff.mp (okn old hold)
  have l8 : old.length ≤ 8 := oo.2.1
  refine w_ixL (sqL (c6.at1 hl5 lb)) eo ?_
  walk_at "w"
  refine u_draw bag6 (by omega) (by omega) (by omega) fun t H7 c7 bag7 t0 t1 => ?_
  walk_at "w"
  have k1 := cutS_le old none (some t)
  refine w_addS ?_ ?_
  · rw [len_one]
    exact Nat.le_trans (show (cutS old none (some t)).length + 1 ≤ 100000 by omega) (by decide)
  walk_at "w"
  have k2 := cutS_le old (some (t + v - 1)) none
  have lsum : (cutS old none (some t) ++ (Str.mk #[c]) ++ cutS old (some (t + v - 1)) none).length = (cutS old none (some t)).length + 1 + (cutS old (some (t + v - 1)) none).length := by rw [len_append, len_append, len_one]
  refine w_addS ?_ ?_
  · rw [len_append, len_one]
    exact Nat.le_trans (show (cutS old none (some t)).length + 1 + (cutS old (some (t + v - 1)) none).length ≤ 100000 by omega) (by decide)
  walk_at "w"
  refine rest H7 _ _ _ _ _ _ _ (((c04.same c5).both c6).both c7) (bag7.le (by omega)) (nameS_of ?_ ?_ (low_cut _ _ (low_append (low_append (low_cut _ _ oo.2.2) (low_one hc)) (low_cut _ _ oo.2.2))))
  · rw [len_cut, sIx_i (by decide), HT.sIx_none, lsum]
    show 1 ≤ min (min 8 _ - 0) (_ - 0)
    omega
  · rw [len_cut, sIx_i (by decide), HT.sIx_none, lsum]
    show min (min 8 _ - 0) (_ - 0) ≤ 8
    omega
end Fg
--LAW k13
namespace Fg
open PySem PySem.Spec PyProof.Rows L2
/-! ### the walk's small steps -/
local macro_rules | `(tactic| walk_at "hp") => `(tactic| first
  | assumption
  | exact upd_same
  | (refine Chg.at (by assumption) ?_; walk_at "hp")
  | (refine Chg.at1 (by assumption) ?_ (by walk_at "ne"); walk_at "hp"))
local macro_rules | `(tactic| walk_at "ne") => `(tactic| first | assumption | (apply Ne.symm; assumption))
local macro_rules | `(tactic| walk_at "sq") => `(tactic| first | assumption | exact sqL (by walk_at "hp") | (refine Chg.seq (by assumption) ?_; walk_at "sq"))
local macro_rules | `(tactic| walk_at "sz") => `(tactic| first | assumption | exact Nat.zero_le _ | (simp only [List.length_cons, List.length_nil]; decide) | exact Nat.le_trans (by first | omega | (simp; done) | (simp; omega)) (show 100000 ≤ sizeLine by decide) | exact Nat.lt_of_lt_of_le (by first | omega | (simp; done) | (simp; omega)) (show 100000 ≤ sizeLine by decide))
local macro_rules | `(tactic| walk_at "ix") => `(tactic| first | exact at0 | exact at1 | exact at2 | exact at3 | assumption | exact rfl | walk_at "ix2")
local macro_rules | `(tactic| walk_at "ix2") => `(tactic| fail)
local macro_rules | `(tactic| walk_at "num") => `(tactic| first | assumption | omega | decide | walk_at "num2")
local macro_rules | `(tactic| walk_at "num2") => `(tactic| fail)
local macro_rules | `(tactic| walk_at "im") => `(tactic| first | assumption | exact R.non (S := fun _ => False) | exact R.bl (S := fun _ => False) _ | exact R.int (S := fun _ => False) _ | exact R.str (S := fun _ => False) _ | (refine R.im (by assumption) ?_; walk_at "im"))
local macro_rules | `(tactic| walk_at "r") => `(tactic| first | assumption | exact R.non (S := fun _ => False) | exact R.bl (S := fun _ => False) _ | exact R.int (S := fun _ => False) _ | exact R.str (S := fun _ => False) _ | (refine R.same (by assumption) ?_; walk_at "r") | exact R.any (by walk_at "im"))
local macro_rules | `(tactic| walk_at "chg") => `(tactic| first
  | exact Chg.refl
  | assumption
  | (refine Chg.same ?_ (by assumption); walk_at "chg")
  | (refine Chg.both ?_ (by assumption); walk_at "chg")
  | (refine Chg.pre (by assumption) ?_; walk_at "chg"))
local macro_rules | `(tactic| walk_at "w1") => `(tactic| first
  | with_reducible apply w_seq
  | with_reducible apply w_asg
  | ((with_reducible apply w_var); (focus (exact rfl)))
  | with_reducible apply w_c
  | with_reducible apply w_op
  | with_reducible apply w_cons
  | with_reducible apply w_nil
  | with_reducible apply w_gName
  | with_reducible apply w_if
  | with_reducible apply w_test
  | with_reducible apply w_B
  | with_reducible apply w_isbl
  | with_reducible apply w_retN
  | with_reducible apply w_next
  | with_reducible apply w_drop
  | with_reducible apply w_cb
  | with_reducible apply w_call
  | with_reducible apply w_callN
  | with_reducible apply w_bm
  | with_reducible apply w_bm0
  | ((with_reducible apply w_tyL); (focus (walk_at "hp"; done)))
  | with_reducible apply w_dput
  | with_reducible apply w_m1
  | with_reducible apply w_isstr
  | with_reducible apply w_and
  | with_reducible apply w_or
  | with_reducible apply w_not
  | with_reducible apply w_andV
  | with_reducible apply w_orV
  | with_reducible apply w_notV
  | with_reducible apply w_ifE
  | with_reducible apply w_chain
  | with_reducible apply w_un
  | with_reducible apply w_neg
  | with_reducible apply w_add
  | with_reducible apply w_sub
  | ((with_reducible apply w_mod); (focus (walk_at "num"; done)))
  | ((with_reducible apply w_mul); (focus (walk_at "num"; done)))
  | ((with_reducible apply w_fdiv); (focus (walk_at "num"; done)))
  | ((with_reducible apply w_pow); (focus (walk_at "num"; done)))
  | with_reducible apply w_lt
  | with_reducible apply w_le
  | with_reducible apply w_gt
  | with_reducible apply w_ge
  | with_reducible apply w_ltS
  | with_reducible apply w_geS
  | with_reducible apply w_inC
  | with_reducible apply w_notInC
  | with_reducible apply w_isN
  | with_reducible apply w_notN
  | with_reducible apply w_isB
  | with_reducible apply w_notB
  | ((with_reducible apply w_addS); (focus (walk_at "sz"; done)))
  | ((with_reducible apply w_ixL); (focus (walk_at "sq"; done)); (focus (walk_at "ix"; done)))
  | ((with_reducible apply w_ixT); (focus (walk_at "hp"; done)); (focus (walk_at "ix"; done)))
  | ((with_reducible apply w_ixS); (focus (walk_at "sz"; done)); (focus (walk_at "ix"; done)))
  | with_reducible apply w_gSub
  | ((with_reducible apply w_gTup); (focus (walk_at "hp"; done)); (focus (exact rfl)))
  | with_reducible apply w_gCons
  | with_reducible apply w_gNil
  | ((with_reducible apply w_aug); (focus (exact rfl)))
  | with_reducible apply w_ipI
  | ((with_reducible apply w_eq); (focus (exact rfl)))
  | ((with_reducible apply w_ne); (focus (exact rfl)))
  | with_reducible apply w_max
  | with_reducible apply w_min
  | with_reducible apply w_abs
  | with_reducible apply w_intB
  | with_reducible apply w_intI
  | with_reducible apply w_tup1
  | with_reducible apply w_lst1
  | with_reducible apply w_sl
  | with_reducible apply w_part
  | with_reducible apply w_noPart
  | with_reducible apply w_isint
  | ((with_reducible apply w_slS); (focus (walk_at "sz"; done)))
  | with_reducible apply w_iteT
  | with_reducible apply w_iteF
  | with_reducible apply w_iteN
  | ((with_reducible apply w_iteYes); (focus (exact rfl)))
  | ((with_reducible apply w_iteNo); (focus (exact rfl)))
  | ((with_reducible apply w_lenL); (focus (walk_at "sq"; done)))
  | ((with_reducible apply w_lenT); (focus (walk_at "hp"; done)))
  | ((with_reducible apply w_lenS); (focus (walk_at "sz"; done)))
  | with_reducible apply w_lc
  | with_reducible apply w_for
  | with_reducible apply w_yes
  | ((with_reducible apply w_wipe); (focus (exact rfl)))
  | with_reducible apply w_iList
  | with_reducible apply w_iTup
  | with_reducible apply w_iStr
  | with_reducible apply w_iRng1
  | with_reducible apply w_iRng2
  | with_reducible apply w_iZip
  | with_reducible apply w_iEnum
  | ((with_reducible apply d_iList); (focus (walk_at "sq"; done)))
  | ((with_reducible apply d_iTup); (focus (walk_at "hp"; done)))
  | with_reducible apply d_iStr
  | ((with_reducible apply d_iRng1); (focus (walk_at "num"; done)); (focus (walk_at "num"; done)))
  | ((with_reducible apply d_iRng2); (focus (walk_at "num"; done)); (focus (walk_at "num"; done)); (focus (walk_at "num"; done)); (focus (walk_at "num"; done)))
  | ((with_reducible apply d_iZip); (focus (walk_at "sq"; done)); (focus (walk_at "sq"; done)))
  | ((with_reducible apply d_iEnum); (focus (walk_at "sq"; done)))
  | walk_at "w2")
local macro_rules | `(tactic| walk_at "w2") => `(tactic| fail)
local macro_rules | `(tactic| walk_at "wn") => `(tactic| repeat walk_at "w1")
local macro_rules | `(tactic| walk_at "w") => `(tactic| repeat (first | walk_at "w1" | with_reducible apply w_ret))

local macro_rules | `(tactic| walk_at "w2") => `(tactic| first
  | ((with_reducible apply w_isInt); (focus (walk_at "r"; done)))
  | ((with_reducible apply w_isBool); (focus (walk_at "r"; done)))
  | ((with_reducible apply w_isStr); (focus (walk_at "r"; done)))
  | ((with_reducible apply w_isTup); (focus (walk_at "r"; done)))
  | ((with_reducible apply w_isLst); (focus (walk_at "r"; done)))
  | with_reducible apply w_fld
  | with_reducible apply w_sfld
  | with_reducible apply w_faug
  | with_reducible apply w_rAdd
  | with_reducible apply w_rSub
  | with_reducible apply w_make
  | with_reducible apply w_orT
  | with_reducible apply w_dgetd
  | with_reducible apply w_dgetk
  | with_reducible apply w_dsetd
  | ((with_reducible apply k_dgetd); (focus (walk_at "hp"; done)))
  | ((with_reducible apply k_dsetd); (focus (walk_at "hp"; done)))
  | walk_at "w3")
local macro_rules | `(tactic| walk_at "w3") => `(tactic| fail)

local macro_rules | `(tactic| walk_at "w3") => `(tactic| first
  | ((with_reducible apply g_Frame_number); (focus (assumption; done)); (focus (walk_at "hp"; done)))
  | ((with_reducible apply u_Frame_number); (focus (assumption; done)); (focus (walk_at "hp"; done)))
  | ((with_reducible apply g_Frame_path); (focus (assumption; done)); (focus (walk_at "hp"; done)))
  | ((with_reducible apply u_Frame_path); (focus (assumption; done)); (focus (walk_at "hp"; done)))
  | ((with_reducible apply g_Frame_rows); (focus (assumption; done)); (focus (walk_at "hp"; done)))
  | ((with_reducible apply u_Frame_rows); (focus (assumption; done)); (focus (walk_at "hp"; done)))
  | ((with_reducible apply g_Frame_arg); (focus (assumption; done)); (focus (walk_at "hp"; done)))
  | ((with_reducible apply u_Frame_arg); (focus (assumption; done)); (focus (walk_at "hp"; done)))
  | ((with_reducible apply g_Frame_at); (focus (assumption; done)); (focus (walk_at "hp"; done)))
  | ((with_reducible apply u_Frame_at); (focus (assumption; done)); (focus (walk_at "hp"; done)))
  | ((with_reducible apply g_Frame_past); (focus (assumption; done)); (focus (walk_at "hp"; done)))
  | ((with_reducible apply u_Frame_past); (focus (assumption; done)); (focus (walk_at "hp"; done)))
  | ((with_reducible apply g_Frame_born); (focus (assumption; done)); (focus (walk_at "hp"; done)))
  | ((with_reducible apply u_Frame_born); (focus (assumption; done)); (focus (walk_at "hp"; done)))
  | ((with_reducible apply g_Record_mark); (focus (assumption; done)); (focus (walk_at "hp"; done)))
  | ((with_reducible apply u_Record_mark); (focus (assumption; done)); (focus (walk_at "hp"; done)))
  | ((with_reducible apply g_Record_word); (focus (assumption; done)); (focus (walk_at "hp"; done)))
  | ((with_reducible apply u_Record_word); (focus (assumption; done)); (focus (walk_at "hp"; done)))
  | ((with_reducible apply g_Record_doer); (focus (assumption; done)); (focus (walk_at "hp"; done)))
  | ((with_reducible apply u_Record_doer); (focus (assumption; done)); (focus (walk_at "hp"; done)))
  | ((with_reducible apply g_Record_child); (focus (assumption; done)); (focus (walk_at "hp"; done)))
  | ((with_reducible apply u_Record_child); (focus (assumption; done)); (focus (walk_at "hp"; done)))
  | ((with_reducible apply g_Record_reads); (focus (assumption; done)); (focus (walk_at "hp"; done)))
  | ((with_reducible apply u_Record_reads); (focus (assumption; done)); (focus (walk_at "hp"; done)))
  | ((with_reducible apply g_Record_writes); (focus (assumption; done)); (focus (walk_at "hp"; done)))
  | ((with_reducible apply u_Record_writes); (focus (assumption; done)); (focus (walk_at "hp"; done)))
  | ((with_reducible apply g_Outcome_cells); (focus (assumption; done)); (focus (walk_at "hp"; done)))
  | ((with_reducible apply u_Outcome_cells); (focus (assumption; done)); (focus (walk_at "hp"; done)))
  | ((with_reducible apply g_Outcome_given); (focus (assumption; done)); (focus (walk_at "hp"; done)))
  | ((with_reducible apply u_Outcome_given); (focus (assumption; done)); (focus (walk_at "hp"; done)))
  | ((with_reducible apply g_Outcome_steps); (focus (assumption; done)); (focus (walk_at "hp"; done)))
  | ((with_reducible apply u_Outcome_steps); (focus (assumption; done)); (focus (walk_at "hp"; done)))
  | ((with_reducible apply g_Outcome_deepest); (focus (assumption; done)); (focus (walk_at "hp"; done)))
  | ((with_reducible apply u_Outcome_deepest); (focus (assumption; done)); (focus (walk_at "hp"; done))))
local macro_rules | `(tactic| walk_at "al") => `(tactic| repeat (first | walk_at "w1" | with_reducible apply w_ret | (with_reducible refine k_tup (by walk_at "sz") fun _ _ _ _ _ => ?_) | (with_reducible refine k_lst (by walk_at "sz") fun _ _ _ _ _ => ?_)))
local macro_rules | `(tactic| walk_at "rd") => `(tactic| repeat (first | exact R.int _ | exact R.str _ | exact RA.nil | refine RA.cons ?_ ?_ | (apply R.tup; (focus (walk_at "hp"; done))) | (apply R.lst trivial; (focus (walk_at "hp"; done)))))
theorem acc_map {α : Type} {f : Nat → α} : ∀ {acc : List α}, (∀ (i : Nat) (y : α), acc[i]? = some y → y = f i) → acc = (List.range acc.length).map f := by
  intro acc
  induction acc generalizing f with
  | nil => exact fun _ => rfl
  | cons v acc ih =>
    intro h
    have h0 := h 0 v rfl
    have := ih (f := fun i => f (i + 1)) fun i y hy => h (i + 1) y hy
    rw [List.length_cons, List.range_succ_eq_map, List.map_cons, List.map_map, ← h0]
    exact congrArg (v :: ·) this
theorem desc_eq : ∀ k : Nat, desc k = (List.range k).map fun (i : Nat) => (k : Int) - (i : Nat)
  | 0 => rfl
  | k + 1 => by
    show ((k + 1 : Nat) : Int) :: desc k = _
    rw [List.range_succ_eq_map, List.map_cons, List.map_map, desc_eq k]
    congr 1
    refine List.map_congr_left fun i _ => ?_
    show (k : Int) - (i : Nat) = ((k + 1 : Nat) : Int) - ((i + 1 : Nat) : Int)
    omega
theorem rows_single (x : Str) (ss : List Stp) : Prg.rows [(x, ss)] x = ss := by
  unfold Prg.rows
  rw [List.find?_cons_of_pos (by simp)]
  rfl
theorem prg_one {x : Str} {ss : List Stp} (lx : nameS x = true) (ok : stepsOk [x] ss) (l : ss.length ≤ 100) : PrgOk [(x, ss)] where
  names := fun r hr => by rw [List.mem_singleton.mp hr]; exact lx
  up := rfl
  steps := fun r hr => by rw [List.mem_singleton.mp hr]; exact ok
  few := by simp
  short := fun r hr => by rw [List.mem_singleton.mp hr]; exact l
theorem all_low : nameS "all" = true := by decide +kernel
theorem FC.ok {W : Str → Ex → Stp} (h : FC W) {ns : List Str} {bh : Int} {x : Str} {a : Ex} (l : nameS x = true) (m : x ∈ ns) (d : a.deep ≤ 5) : (W x a).ok ns bh := by
  cases h <;> exact ⟨l, m, d⟩
/-- what is due of a program -/
structure Due (p : Prg) (x : Str) (g : Int) (cs : Cells) (gv : Given) (n dp : Nat) : Prop where
  ok : PrgOk p
  mem : x ∈ p.map (·.1)
  tells : ∃ cs' gv' dp', Tells p 0 ⟨0, [], p.rows x, g, 0, 0, 0⟩ (Mc.start p x g (cStart [])) cs' gv' n dp' ∧ notN cs' = cs ∧ srtG gv' = gv ∧ gv'.length < 64 ∧ dp = max 1 dp'
  pos : 1 ≤ n
/-- as it lies in the heap -/
def DueAt (H : Hp) (T : Addr) (x : Str) (n dp : Nat) : Prop := ∃ (pl cl gl : Addr) (p : Prg) (g : Int) (cs : Cells) (gv : Given), H T = some (.tup [.ref pl, .int g, .ref cl, .ref gl, .int (n : Nat), .int (dp : Nat)]) ∧ R (fun _ => True) H (.ref pl) (prgD p) ∧ R (fun _ => True) H (.ref cl) (.list (cs.map pairD)) ∧ R (fun _ => True) H (.ref gl) (giftsD gv) ∧ Due p x g cs gv n dp
/-! ### down -/
def t__law_down_2 (K : PySem.W.Frag) : TS :=
    tSeq (tAsg (tLst (tCons (tTup (tCons (tC (.str "all")) (tCons (tLc (iRng1 (tCons (tVar 2) (tNil))) (gName 6) (tYes) (tOp oSub (tVar 2) (tVar 6)) [6]) (tNil)))) (tNil))) (gName 5))
    (tSeq (tIfS (tTest (tOp rEq (tVar 2) (tC (.int 0)))) (tAsg (tLst (tNil)) (gName 5)) (tNext))
    (tRet (tTup (tCons (tLst (tCons (tTup (tCons (tOp (rIxL K) (tVar 1) (tC (.int 0))) (tCons (tVar 4) (tNil)))) (tNil))) (tCons (tVar 2) (tCons (tLst (tNil)) (tCons (tVar 5) (tCons (tOp oAdd (tOp oMul (tC (.int 4)) (tVar 2)) (tC (.int 2))) (tCons (tOp oAdd (tVar 2) (tC (.int 1))) (tNil))))))))))
theorem down_2 {K : PySem.W.Frag} {H3 : Hp} {Q : VK} {b nl rl : Addr} {x wd : Str} {xs : List V} {W : Str → Ex → Stp} {many : Nat} (hW : FC W) (lx : nameS x = true) (lm : many ≤ 1300) (hnl3 : H3 nl = some (.lst (.str x :: xs))) (rR : R (fun _ => True) H3 (.ref rl) (.list ((rowsD W x).map Stp.data)))
    (q : ∀ (T : Addr) (H' : Hp), Chg [] H3 H' → DueAt H' T x (4 * many + 2) (many + 1) → Q (.ref T) H') :
    t__law_down_2 K (fin Q) [some (.ref b), some (.ref nl), some (.int (many : Nat)), some (.str wd), some (.ref rl), none, none] H3 := by
  unfold t__law_down_2
  have okS : stepsOk [x] (rowsD W x) := ⟨⟨by decide, by decide, by show (2 : Int) ≤ 3; decide⟩, ⟨all_low, by decide⟩, hW.ok lx (by simp) (by decide), trivial, trivial⟩
  have okP : PrgOk [(x, rowsD W x)] := prg_one lx okS (by show 4 ≤ 100; decide)
  have due : Due [(x, rowsD W x)] x (many : Int) [] (if many = 0 then [] else [("all", desc many)]) (4 * many + 2) (many + 1) := by
    refine ⟨okP, by simp, ⟨[], downG many [], if many = 0 then 0 else 0 + many + 1, ?_, ?_, ?_, ?_, ?_⟩, by omega⟩
    · rw [rows_single]
      exact down_tells hW (rows_single _ _) many 0 0 [] _
    · simp [notN, srt]
    · rw [downG_all]
      cases many with
      | zero => rw [if_pos rfl]; exact srtG_nil
      | succ k => rw [if_neg (by omega)]; show srtG (addAll [] "all" (_ :: desc k)) = _; rw [addAll_nil, srtG_one]; rfl
    · rw [downG_all]
      cases many with
      | zero => decide
      | succ k => show (addAll [] "all" (_ :: desc k)).length < 64; rw [addAll_nil]; show 1 < 64; decide
    · split <;> omega
  have fin5 : ∀ (H6 : Hp) (gl : Addr), Chg [] H3 H6 → R (fun _ => True) H6 (.ref gl) (giftsD (if many = 0 then [] else [("all", desc many)])) →
      tRet (tTup (tCons (tLst (tCons (tTup (tCons (tOp (rIxL K) (tVar 1) (tC (.int 0))) (tCons (tVar 4) (tNil)))) (tNil))) (tCons (tVar 2) (tCons (tLst (tNil)) (tCons (tVar 5) (tCons (tOp oAdd (tOp oMul (tC (.int 4)) (tVar 2)) (tC (.int 2))) (tCons (tOp oAdd (tVar 2) (tC (.int 1))) (tNil)))))))) (fin Q) [some (.ref b), some (.ref nl), some (.int (many : Nat)), some (.str wd), some (.ref rl), some (.ref gl), none] H6 := fun H6 gl c6 rG => by
    have hnl6 := c6.at hnl3
    walk_at "w"
    refine k_tup (by walk_at "sz") fun T1 H7 nT1 c7 hT1 => ?_
    walk_at "w"
    refine k_lst (by walk_at "sz") fun pl H8 npl c8 hpl => ?_
    walk_at "w"
    refine k_lst (by walk_at "sz") fun cl H9 ncl c9 hcl => ?_
    walk_at "w"
    refine w_mul (cmulL (by decide) (by decide)) ?_
    walk_at "w"
    have en : (4 : Int) * (many : Nat) + 2 = ((4 * many + 2 : Nat) : Int) := by omega
    have ed : ((many : Nat) : Int) + 1 = ((many + 1 : Nat) : Int) := by omega
    rw [en, ed]
    refine k_tup (by walk_at "sz") fun T H10 nT c10 hT => ?_
    have c7T : Chg [] H7 H10 := (c8.same c9).same c10
    have c6T : Chg [] H6 H10 := c7.same c7T
    refine q T H10 (c6.same c6T) ⟨pl, cl, gl, [(x, rowsD W x)], (many : Int), [], _, hT, ?_, ?_, rG.same c6T, due⟩
    · exact .lst trivial ((c9.same c10).at hpl) (.cons (.tup (c7T.at hT1) (.cons (.str _) (.cons ((rR.same c6).same c6T) .nil))) .nil)
    · exact .lst trivial (c10.at hcl) .nil
  walk_at "w"
  refine w_lcP walk_range [] (fun _ _ => True) (fun i y _ => y = .int ((many : Int) - (i : Nat))) trivial (fun _ _ _ _ _ _ _ => trivial) (fun _ _ => trivial) (fun D i acc z H4 H5 hi nD hD el iv c4 _ y => ?_) (fun D acc H4 nD c4 _ el hD ys => ?_)
  · obtain ⟨rfl, rfl⟩ := y
    walk_at "w"
    exact lcp_end (fun _ _ _ _ _ _ _ => trivial) (fun _ _ _ _ _ _ _ h => h) nD (fun a ha => by cases ha) hD el (by omega) iv .refl trivial (by rw [Int.zero_add])
  have eacc : acc = (desc many).map V.int := by
    have := acc_map (f := fun (i : Nat) => V.int ((many : Int) - (i : Nat))) ys
    rw [this, el, desc_eq, List.map_map]
    rfl
  subst eacc
  walk_at "w"
  refine k_tup (by walk_at "sz") fun T1 H5 nT1 c5 hT1 => ?_
  walk_at "w"
  refine k_lst (by walk_at "sz") fun gl H6 ngl c6 hgl => ?_
  have c46 := c5.same c6
  walk_at "w"
  refine w_iteD (fun h0 => ?_) (fun h0 => ?_)
  · have h0' : many = 0 := by have := V.int.inj h0; omega
    walk_at "w"
    refine k_lst (by walk_at "sz") fun gl2 H7 ngl2 c7 hgl2 => ?_
    refine fin5 H7 gl2 ((c4.same c46).same c7) ?_
    rw [if_pos h0']
    exact .lst trivial hgl2 .nil
  · have h0' : ¬ many = 0 := fun z => h0 (by rw [z]; rfl)
    refine fin5 H6 gl (c4.same c46) ?_
    rw [if_neg h0']
    exact .lst trivial hgl (.cons (.tup (c6.at hT1) (.cons (.str _) (.cons (.lst trivial (c46.at hD) (imInts _)) .nil))) .nil)
def sp__law_down (K : PySem.W.Frag) : Sp := fun vs H Q _ => ∃ (b nl : Addr) (x : Str) (xs : List Str) (many k : Nat), vs = [.ref b, .ref nl, .int (many : Nat)] ∧ Well H b k ∧ 1 ≤ k ∧ nl ≠ b ∧ H nl = some (.lst ((x :: xs).map V.str)) ∧ nameS x = true ∧ many ≤ 1300 ∧
  ∀ (T : Addr) (H' : Hp), Chg [b] H H' → Well H' b (k - 1) → DueAt H' T x (4 * many + 2) (many + 1) → Q (.ref T) H'
def t__law_down (K : PySem.W.Frag) : TS :=
    tSeq (tAsg (tOp (rIxL K) (tLst (tCons (tC (.str "call")) (tCons (tC (.str "fork")) (tNil)))) (tCall sp__law_draw [] E0 (tCons (tVar 0) (tCons (tC (.int 2)) (tNil))))) (gName 3))
    (tSeq (tAsg (tLst (tCons (tTup (tCons (tC (.str "skip")) (tCons (tTup (tCons (tC (.str "arg")) (tNil))) (tCons (tC (.int 2)) (tNil))))) (tCons (tTup (tCons (tC (.str "give")) (tCons (tC (.str "all")) (tCons (tTup (tCons (tC (.str "arg")) (tNil))) (tNil))))) (tCons (tTup (tCons (tVar 3) (tCons (tOp (rIxL K) (tVar 1) (tC (.int 0))) (tCons (tTup (tCons (tC (.str "less")) (tCons (tTup (tCons (tC (.str "arg")) (tNil))) (tCons (tC (.int 1)) (tNil))))) (tNil))))) (tCons (tTup (tCons (tC (.str "wait")) (tNil))) (tNil)))))) (gName 4))
    (tSeq (tAsg (tLst (tCons (tTup (tCons (tC (.str "all")) (tCons (tLc (iRng1 (tCons (tVar 2) (tNil))) (gName 6) (tYes) (tOp oSub (tVar 2) (tVar 6)) [6]) (tNil)))) (tNil))) (gName 5))
    (tSeq (tIfS (tTest (tOp rEq (tVar 2) (tC (.int 0)))) (tAsg (tLst (tNil)) (gName 5)) (tNext))
    (tRet (tTup (tCons (tLst (tCons (tTup (tCons (tOp (rIxL K) (tVar 1) (tC (.int 0))) (tCons (tVar 4) (tNil)))) (tNil))) (tCons (tVar 2) (tCons (tLst (tNil)) (tCons (tVar 5) (tCons (tOp oAdd (tOp oMul (tC (.int 4)) (tVar 2)) (tC (.int 2))) (tCons (tOp oAdd (tVar 2) (tC (.int 1))) (tNil))))))))))))
theorem pure__law_down {K : PySem.W.Frag} (vs : List V) (H : Hp) (Q : VK) (E : XK) (h : sp__law_down K vs H Q E) : t__law_down K (fin Q) (start ["well", "names", "many", "word", "rows", "given", "k"] vs) H := by
  obtain ⟨b, nl, x, xs, many, k, rfl, bag, hk, nlb, hnl, lx, lm, q⟩ := h
  show (tSeq _ (tSeq _ (t__law_down_2 K))) (fin Q) [some (.ref b), some (.ref nl), some (.int (many : Nat)), none, none, none, none] H
  walk_at "w"
  refine k_lst (by walk_at "sz") fun wl H1 nwl c1 hwl => ?_
  have wb : wl ≠ b := (bag.ne nwl).symm
  walk_at "w"
  refine u_draw (bag.same c1) (by omega) (by decide) (by decide) fun u H2 c2 bag2 u0 u1 => ?_
  obtain ⟨y, ey, hy⟩ := atD (xs := [V.str "call", V.str "fork"]) u0 u1
  refine w_ixL (sqL (c2.at1 hwl wb)) ey ?_
  have hnl2 : H2 nl = some (.lst (.str x :: xs.map V.str)) := (c1.pre c2).at1 hnl nlb
  have c02 : Chg [b] H H2 := c1.pre c2
  obtain ⟨wd, W, rfl, hW, hWd⟩ : ∃ (wd : Str) (W : Str → Ex → Stp), y = .str wd ∧ FC W ∧ ∀ x a, (W x a).data = .tuple [.str wd, .str x, a.data] := by
    simp only [List.mem_cons, List.not_mem_nil, or_false] at hy
    rcases hy with rfl | rfl
    · exact ⟨_, .call, rfl, .call, fun _ _ => rfl⟩
    · exact ⟨_, .fork, rfl, .fork, fun _ _ => rfl⟩
  walk_at "al"
  rename_i rl H3 nrl c3 hrl
  have rR : R (fun _ => True) H3 (.ref rl) (.list ((rowsD W x).map Stp.data)) := by
    simp only [rowsD, List.map_cons, List.map_nil, hWd]
    walk_at "rd"
  have c23 : Chg [] H2 H3 := by walk_at "chg"
  change t__law_down_2 K (fin Q) [some (.ref b), some (.ref nl), some (.int (many : Nat)), some (.str wd), some (.ref rl), none, none] H3
  exact down_2 hW lx lm (c23.at hnl2) rR fun T H' c' d => q T H' ((c02.same c23).same c') (((bag2.same c23).same c')) d
end Fg
--LAW k13
namespace Fg
open PySem PySem.Spec PyProof.Rows L2
/-! ### the walk's small steps -/
local macro_rules | `(tactic| walk_at "hp") => `(tactic| first
  | assumption
  | exact upd_same
  | (refine Chg.at (by assumption) ?_; walk_at "hp")
  | (refine Chg.at1 (by assumption) ?_ (by walk_at "ne"); walk_at "hp"))
local macro_rules | `(tactic| walk_at "ne") => `(tactic| first | assumption | (apply Ne.symm; assumption))
local macro_rules | `(tactic| walk_at "sq") => `(tactic| first | assumption | exact sqL (by walk_at "hp") | (refine Chg.seq (by assumption) ?_; walk_at "sq"))
local macro_rules | `(tactic| walk_at "sz") => `(tactic| first | assumption | exact Nat.zero_le _ | (simp only [List.length_cons, List.length_nil]; decide) | exact Nat.le_trans (by first | omega | (simp; done) | (simp; omega)) (show 100000 ≤ sizeLine by decide) | exact Nat.lt_of_lt_of_le (by first | omega | (simp; done) | (simp; omega)) (show 100000 ≤ sizeLine by decide))
local macro_rules | `(tactic| walk_at "ix") => `(tactic| first | exact at0 | exact at1 | exact at2 | exact at3 | assumption | exact rfl | walk_at "ix2")
local macro_rules | `(tactic| walk_at "ix2") => `(tactic| fail)
local macro_rules | `(tactic| walk_at "num") => `(tactic| first | assumption | omega | decide | walk_at "num2")
local macro_rules | `(tactic| walk_at "num2") => `(tactic| fail)
local macro_rules | `(tactic| walk_at "im") => `(tactic| first | assumption | exact R.non (S := fun _ => False) | exact R.bl (S := fun _ => False) _ | exact R.int (S := fun _ => False) _ | exact R.str (S := fun _ => False) _ | (refine R.im (by assumption) ?_; walk_at "im"))
local macro_rules | `(tactic| walk_at "r") => `(tactic| first | assumption | exact R.non (S := fun _ => False) | exact R.bl (S := fun _ => False) _ | exact R.int (S := fun _ => False) _ | exact R.str (S := fun _ => False) _ | (refine R.same (by assumption) ?_; walk_at "r") | exact R.any (by walk_at "im"))
local macro_rules | `(tactic| walk_at "chg") => `(tactic| first
  | exact Chg.refl
  | assumption
  | (refine Chg.same ?_ (by assumption); walk_at "chg")
  | (refine Chg.both ?_ (by assumption); walk_at "chg")
  | (refine Chg.pre (by assumption) ?_; walk_at "chg"))
local macro_rules | `(tactic| walk_at "w1") => `(tactic| first
  | with_reducible apply w_seq
  | with_reducible apply w_asg
  | ((with_reducible apply w_var); (focus (exact rfl)))
  | with_reducible apply w_c
  | with_reducible apply w_op
  | with_reducible apply w_cons
  | with_reducible apply w_nil
  | with_reducible apply w_gName
  | with_reducible apply w_if
  | with_reducible apply w_test
  | with_reducible apply w_B
  | with_reducible apply w_isbl
  | with_reducible apply w_retN
  | with_reducible apply w_next
  | with_reducible apply w_drop
  | with_reducible apply w_cb
  | with_reducible apply w_call
  | with_reducible apply w_callN
  | with_reducible apply w_bm
  | with_reducible apply w_bm0
  | ((with_reducible apply w_tyL); (focus (walk_at "hp"; done)))
  | with_reducible apply w_dput
  | with_reducible apply w_m1
  | with_reducible apply w_isstr
  | with_reducible apply w_and
  | with_reducible apply w_or
  | with_reducible apply w_not
  | with_reducible apply w_andV
  | with_reducible apply w_orV
  | with_reducible apply w_notV
  | with_reducible apply w_ifE
  | with_reducible apply w_chain
  | with_reducible apply w_un
  | with_reducible apply w_neg
  | with_reducible apply w_add
  | with_reducible apply w_sub
  | ((with_reducible apply w_mod); (focus (walk_at "num"; done)))
  | ((with_reducible apply w_mul); (focus (walk_at "num"; done)))
  | ((with_reducible apply w_fdiv); (focus (walk_at "num"; done)))
  | ((with_reducible apply w_pow); (focus (walk_at "num"; done)))
  | with_reducible apply w_lt
  | with_reducible apply w_le
  | with_reducible apply w_gt
  | with_reducible apply w_ge
  | with_reducible apply w_ltS
  | with_reducible apply w_geS
  | with_reducible apply w_inC
  | with_reducible apply w_notInC
  | with_reducible apply w_isN
  | with_reducible apply w_notN
  | with_reducible apply w_isB
  | with_reducible apply w_notB
  | ((with_reducible apply w_addS); (focus (walk_at "sz"; done)))
  | ((with_reducible apply w_ixL); (focus (walk_at "sq"; done)); (focus (walk_at "ix"; done)))
  | ((with_reducible apply w_ixT); (focus (walk_at "hp"; done)); (focus (walk_at "ix"; done)))
  | ((with_reducible apply w_ixS); (focus (walk_at "sz"; done)); (focus (walk_at "ix"; done)))
  | with_reducible apply w_gSub
  | ((with_reducible apply w_gTup); (focus (walk_at "hp"; done)); (focus (exact rfl)))
  | with_reducible apply w_gCons
  | with_reducible apply w_gNil
  | ((with_reducible apply w_aug); (focus (exact rfl)))
  | with_reducible apply w_ipI
  | ((with_reducible apply w_eq); (focus (exact rfl)))
  | ((with_reducible apply w_ne); (focus (exact rfl)))
  | with_reducible apply w_max
  | with_reducible apply w_min
  | with_reducible apply w_abs
  | with_reducible apply w_intB
  | with_reducible apply w_intI
  | with_reducible apply w_tup1
  | with_reducible apply w_lst1
  | with_reducible apply w_sl
  | with_reducible apply w_part
  | with_reducible apply w_noPart
  | with_reducible apply w_isint
  | ((with_reducible apply w_slS); (focus (walk_at "sz"; done)))
  | with_reducible apply w_iteT
  | with_reducible apply w_iteF
  | with_reducible apply w_iteN
  | ((with_reducible apply w_iteYes); (focus (exact rfl)))
  | ((with_reducible apply w_iteNo); (focus (exact rfl)))
  | ((with_reducible apply w_lenL); (focus (walk_at "sq"; done)))
  | ((with_reducible apply w_lenT); (focus (walk_at "hp"; done)))
  | ((with_reducible apply w_lenS); (focus (walk_at "sz"; done)))
  | with_reducible apply w_lc
  | with_reducible apply w_for
  | with_reducible apply w_yes
  | ((with_reducible apply w_wipe); (focus (exact rfl)))
  | with_reducible apply w_iList
  | with_reducible apply w_iTup
  | with_reducible apply w_iStr
  | with_reducible apply w_iRng1
  | with_reducible apply w_iRng2
  | with_reducible apply w_iZip
  | with_reducible apply w_iEnum
  | ((with_reducible apply d_iList); (focus (walk_at "sq"; done)))
  | ((with_reducible apply d_iTup); (focus (walk_at "hp"; done)))
  | with_reducible apply d_iStr
  | ((with_reducible apply d_iRng1); (focus (walk_at "num"; done)); (focus (walk_at "num"; done)))
  | ((with_reducible apply d_iRng2); (focus (walk_at "num"; done)); (focus (walk_at "num"; done)); (focus (walk_at "num"; done)); (focus (walk_at "num"; done)))
  | ((with_reducible apply d_iZip); (focus (walk_at "sq"; done)); (focus (walk_at "sq"; done)))
  | ((with_reducible apply d_iEnum); (focus (walk_at "sq"; done)))
  | walk_at "w2")
local macro_rules | `(tactic| walk_at "w2") => `(tactic| fail)
local macro_rules | `(tactic| walk_at "wn") => `(tactic| repeat walk_at "w1")
local macro_rules | `(tactic| walk_at "w") => `(tactic| repeat (first | walk_at "w1" | with_reducible apply w_ret))

local macro_rules | `(tactic| walk_at "w2") => `(tactic| first
  | ((with_reducible apply w_isInt); (focus (walk_at "r"; done)))
  | ((with_reducible apply w_isBool); (focus (walk_at "r"; done)))
  | ((with_reducible apply w_isStr); (focus (walk_at "r"; done)))
  | ((with_reducible apply w_isTup); (focus (walk_at "r"; done)))
  | ((with_reducible apply w_isLst); (focus (walk_at "r"; done)))
  | with_reducible apply w_fld
  | with_reducible apply w_sfld
  | with_reducible apply w_faug
  | with_reducible apply w_rAdd
  | with_reducible apply w_rSub
  | with_reducible apply w_make
  | with_reducible apply w_orT
  | with_reducible apply w_dgetd
  | with_reducible apply w_dgetk
  | with_reducible apply w_dsetd
  | ((with_reducible apply k_dgetd); (focus (walk_at "hp"; done)))
  | ((with_reducible apply k_dsetd); (focus (walk_at "hp"; done)))
  | walk_at "w3")
local macro_rules | `(tactic| walk_at "w3") => `(tactic| fail)

local macro_rules | `(tactic| walk_at "w3") => `(tactic| first
  | ((with_reducible apply g_Frame_number); (focus (assumption; done)); (focus (walk_at "hp"; done)))
  | ((with_reducible apply u_Frame_number); (focus (assumption; done)); (focus (walk_at "hp"; done)))
  | ((with_reducible apply g_Frame_path); (focus (assumption; done)); (focus (walk_at "hp"; done)))
  | ((with_reducible apply u_Frame_path); (focus (assumption; done)); (focus (walk_at "hp"; done)))
  | ((with_reducible apply g_Frame_rows); (focus (assumption; done)); (focus (walk_at "hp"; done)))
  | ((with_reducible apply u_Frame_rows); (focus (assumption; done)); (focus (walk_at "hp"; done)))
  | ((with_reducible apply g_Frame_arg); (focus (assumption; done)); (focus (walk_at "hp"; done)))
  | ((with_reducible apply u_Frame_arg); (focus (assumption; done)); (focus (walk_at "hp"; done)))
  | ((with_reducible apply g_Frame_at); (focus (assumption; done)); (focus (walk_at "hp"; done)))
  | ((with_reducible apply u_Frame_at); (focus (assumption; done)); (focus (walk_at "hp"; done)))
  | ((with_reducible apply g_Frame_past); (focus (assumption; done)); (focus (walk_at "hp"; done)))
  | ((with_reducible apply u_Frame_past); (focus (assumption; done)); (focus (walk_at "hp"; done)))
  | ((with_reducible apply g_Frame_born); (focus (assumption; done)); (focus (walk_at "hp"; done)))
  | ((with_reducible apply u_Frame_born); (focus (assumption; done)); (focus (walk_at "hp"; done)))
  | ((with_reducible apply g_Record_mark); (focus (assumption; done)); (focus (walk_at "hp"; done)))
  | ((with_reducible apply u_Record_mark); (focus (assumption; done)); (focus (walk_at "hp"; done)))
  | ((with_reducible apply g_Record_word); (focus (assumption; done)); (focus (walk_at "hp"; done)))
  | ((with_reducible apply u_Record_word); (focus (assumption; done)); (focus (walk_at "hp"; done)))
  | ((with_reducible apply g_Record_doer); (focus (assumption; done)); (focus (walk_at "hp"; done)))
  | ((with_reducible apply u_Record_doer); (focus (assumption; done)); (focus (walk_at "hp"; done)))
  | ((with_reducible apply g_Record_child); (focus (assumption; done)); (focus (walk_at "hp"; done)))
  | ((with_reducible apply u_Record_child); (focus (assumption; done)); (focus (walk_at "hp"; done)))
  | ((with_reducible apply g_Record_reads); (focus (assumption; done)); (focus (walk_at "hp"; done)))
  | ((with_reducible apply u_Record_reads); (focus (assumption; done)); (focus (walk_at "hp"; done)))
  | ((with_reducible apply g_Record_writes); (focus (assumption; done)); (focus (walk_at "hp"; done)))
  | ((with_reducible apply u_Record_writes); (focus (assumption; done)); (focus (walk_at "hp"; done)))
  | ((with_reducible apply g_Outcome_cells); (focus (assumption; done)); (focus (walk_at "hp"; done)))
  | ((with_reducible apply u_Outcome_cells); (focus (assumption; done)); (focus (walk_at "hp"; done)))
  | ((with_reducible apply g_Outcome_given); (focus (assumption; done)); (focus (walk_at "hp"; done)))
  | ((with_reducible apply u_Outcome_given); (focus (assumption; done)); (focus (walk_at "hp"; done)))
  | ((with_reducible apply g_Outcome_steps); (focus (assumption; done)); (focus (walk_at "hp"; done)))
  | ((with_reducible apply u_Outcome_steps); (focus (assumption; done)); (focus (walk_at "hp"; done)))
  | ((with_reducible apply g_Outcome_deepest); (focus (assumption; done)); (focus (walk_at "hp"; done)))
  | ((with_reducible apply u_Outcome_deepest); (focus (assumption; done)); (focus (walk_at "hp"; done))))
local macro_rules | `(tactic| walk_at "al") => `(tactic| repeat (first | walk_at "w1" | with_reducible apply w_ret | (with_reducible refine k_tup (by walk_at "sz") fun _ _ _ _ _ => ?_) | (with_reducible refine k_lst (by walk_at "sz") fun _ _ _ _ _ => ?_)))
local macro_rules | `(tactic| walk_at "rd") => `(tactic| repeat (first | exact R.int _ | exact R.str _ | exact RA.nil | refine RA.cons ?_ ?_ | (apply R.tup; (focus (walk_at "hp"; done))) | (apply R.lst trivial; (focus (walk_at "hp"; done)))))
theorem tris_eq : ∀ k : Nat, tris k = (List.range (k + 1)).map tri
  | 0 => rfl
  | k + 1 => by
    show tris k ++ [tri (k + 1)] = _
    rw [tris_eq k, List.range_succ (n := k + 1), List.map_append]
    rfl
theorem tri_pos : ∀ k : Nat, (k : Int) ≤ tri k
  | 0 => Int.le_refl _
  | k + 1 => by
    have := tri_pos k
    show ((k + 1 : Nat) : Int) ≤ tri k + ((k + 1 : Nat) : Int)
    omega
theorem addAll_ne (x : Str) : ∀ {ns : List Int}, ns ≠ [] → addAll [] x ns = [(x, ns)]
  | [], h => absurd rfl h
  | n :: r, _ => addAll_nil x n r
theorem tris_ne (k : Nat) : tris k ≠ [] := by
  cases k with
  | zero => exact fun z => by cases z
  | succ k => exact fun z => by have := congrArg List.length z; simp [tris] at this
theorem notN_one {c v : Int} (h : v ≠ 0) : notN [(c, v)] = [(c, v)] := by
  unfold notN
  have e : srt [c] = [c] := List.perm_singleton.mp (srt_perm [c])
  show ((srt [c]).filter _).map _ = _
  have g : cGet [(c, v)] c = v := by
    unfold cGet cAt
    rw [List.find?_cons_of_pos (by simp)]
    rfl
  rw [e, List.filter_cons_of_pos (by rw [g]; exact decide_eq_true h)]
  show [(c, cGet [(c, v)] c)] = _
  rw [g]
theorem notN_nil : notN [] = [] := by simp [notN, srt]
/-! ### added -/
def t__law_added_3 (K : PySem.W.Frag) : TS :=
    tSeq (tAsg (tLc (iRng1 (tCons (tOp oAdd (tVar 2) (tC (.int 1))) (tNil))) (gName 7) (tYes) (tOp oFdiv (tOp oMul (tVar 7) (tOp oAdd (tVar 7) (tC (.int 1)))) (tC (.int 2))) [7]) (gName 5))
    (tSeq (tAsg (tLst (tCons (tTup (tCons (tVar 3) (tCons (tOp (rIxL K) (tVar 5) (tUn (rU fun i => .int (-i)) (tC (.int 1)))) (tNil)))) (tNil))) (gName 6))
    (tSeq (tIfS (tTest (tOp rEq (tVar 2) (tC (.int 0)))) (tAsg (tLst (tNil)) (gName 6)) (tNext))
    (tRet (tTup (tCons (tLst (tCons (tTup (tCons (tOp (rIxL K) (tVar 1) (tC (.int 0))) (tCons (tVar 4) (tNil)))) (tNil))) (tCons (tVar 2) (tCons (tVar 6) (tCons (tLst (tCons (tTup (tCons (tOp (rIxL K) (tVar 1) (tC (.int 0))) (tCons (tVar 5) (tNil)))) (tNil))) (tCons (tOp oAdd (tOp oMul (tC (.int 4)) (tVar 2)) (tC (.int 2))) (tCons (tOp oAdd (tVar 2) (tC (.int 1))) (tNil)))))))))))
theorem added_3 {K : PySem.W.Frag} {H3 : Hp} {Q : VK} {b nl rl : Addr} {x : Str} {c : Int} {xs : List V} {many : Nat} (lx : nameS x = true) (lm : many ≤ 1300) (hnl3 : H3 nl = some (.lst (.str x :: xs))) (rR : R (fun _ => True) H3 (.ref rl) (.list ((rowsA c x).map Stp.data)))
    (q : ∀ (T : Addr) (H' : Hp), Chg [] H3 H' → DueAt H' T x (4 * many + 2) (many + 1) → Q (.ref T) H') :
    t__law_added_3 K (fin Q) [some (.ref b), some (.ref nl), some (.int (many : Nat)), some (.int c), some (.ref rl), none, none, none] H3 := by
  unfold t__law_added_3
  have okS : stepsOk [x] (rowsA c x) := ⟨⟨by decide, by decide, by show (2 : Int) ≤ 3; decide⟩, ⟨lx, by simp, by show 2 ≤ 5; decide⟩, ⟨by show 1 ≤ 5; decide, by show 3 ≤ 5; decide⟩, ⟨lx, by show 2 ≤ 5; decide⟩, trivial⟩
  have okP : PrgOk [(x, rowsA c x)] := prg_one lx okS (by show 4 ≤ 100; decide)
  have due : Due [(x, rowsA c x)] x (many : Int) (if many = 0 then [] else [(c, tri many)]) [(x, tris many)] (4 * many + 2) (many + 1) := by
    refine ⟨okP, by simp, ⟨addC c [] many, addG c x [] [] many, if many = 0 then 0 else 0 + many + 1, ?_, ?_, ?_, ?_, ?_⟩, by omega⟩
    · rw [rows_single]
      exact added_tells (rows_single _ _) many 0 0 [] _
    · cases many with
      | zero => rw [if_pos rfl]; exact notN_nil
      | succ k =>
        rw [if_neg (by omega), addC_nil]
        have := tri_pos (k + 1)
        exact notN_one (by omega)
    · rw [addG_all, addAll_ne x (tris_ne _), srtG_one]
    · rw [addG_all, addAll_ne x (tris_ne _)]
      show 1 < 64
      decide
    · split <;> omega
  have fin5 : ∀ (H6 : Hp) (cl D : Addr), Chg [] H3 H6 → H6 D = some (.lst ((tris many).map V.int)) → R (fun _ => True) H6 (.ref cl) (.list ((if many = 0 then [] else [(c, tri many)] : Cells).map pairD)) →
      tRet (tTup (tCons (tLst (tCons (tTup (tCons (tOp (rIxL K) (tVar 1) (tC (.int 0))) (tCons (tVar 4) (tNil)))) (tNil))) (tCons (tVar 2) (tCons (tVar 6) (tCons (tLst (tCons (tTup (tCons (tOp (rIxL K) (tVar 1) (tC (.int 0))) (tCons (tVar 5) (tNil)))) (tNil))) (tCons (tOp oAdd (tOp oMul (tC (.int 4)) (tVar 2)) (tC (.int 2))) (tCons (tOp oAdd (tVar 2) (tC (.int 1))) (tNil)))))))) (fin Q) [some (.ref b), some (.ref nl), some (.int (many : Nat)), some (.int c), some (.ref rl), some (.ref D), some (.ref cl), none] H6 := fun H6 cl D c6 hD rC => by
    have hnl6 := c6.at hnl3
    walk_at "w"
    refine k_tup (by walk_at "sz") fun T1 H7 nT1 c7 hT1 => ?_
    walk_at "w"
    refine k_lst (by walk_at "sz") fun pl H8 npl c8 hpl => ?_
    have hnl8 := (c7.same c8).at hnl6
    walk_at "w"
    refine k_tup (by walk_at "sz") fun T2 H9 nT2 c9 hT2 => ?_
    walk_at "w"
    refine k_lst (by walk_at "sz") fun gl H9' ngl c9' hgl => ?_
    walk_at "w"
    refine w_mul (cmulL (by decide) (by decide)) ?_
    walk_at "w"
    have en : (4 : Int) * (many : Nat) + 2 = ((4 * many + 2 : Nat) : Int) := by omega
    have ed : ((many : Nat) : Int) + 1 = ((many + 1 : Nat) : Int) := by omega
    rw [en, ed]
    refine k_tup (by walk_at "sz") fun T H10 nT c10 hT => ?_
    have c9T : Chg [] H9 H10 := c9'.same c10
    have c8T : Chg [] H8 H10 := c9.same c9T
    have c7T : Chg [] H7 H10 := c8.same c8T
    have c6T : Chg [] H6 H10 := c7.same c7T
    refine q T H10 (c6.same c6T) ⟨pl, cl, gl, [(x, rowsA c x)], (many : Int), _, _, hT, ?_, rC.same c6T, ?_, due⟩
    · exact .lst trivial (c8T.at hpl) (.cons (.tup (c7T.at hT1) (.cons (.str _) (.cons ((rR.same c6).same c6T) .nil))) .nil)
    · exact .lst trivial (c10.at hgl) (.cons (.tup (c9T.at hT2) (.cons (.str _) (.cons (.lst trivial (c6T.at hD) (imInts _)) .nil))) .nil)
  walk_at "w"
  refine w_lcP walk_range [] (fun _ _ => True) (fun i y _ => y = .int (tri i)) trivial (fun _ _ _ _ _ _ _ => trivial) (fun _ _ => trivial) (fun D i acc z H4 H5 hi nD hD el iv c4 _ y => ?_) (fun D acc H4 nD c4 _ el hD ys => ?_)
  · obtain ⟨rfl, rfl⟩ := y
    have hi' : i < many + 1 := by omega
    walk_at "w"
    refine w_mul (cmulL (by omega) (by omega)) ?_
    refine w_fdiv (cdivS (by decide) (by decide)) ?_
    refine lcp_end (fun _ _ _ _ _ _ _ => trivial) (fun _ _ _ _ _ _ _ h => h) nD (fun a ha => by cases ha) hD el (by omega) iv .refl trivial ?_
    rw [Int.zero_add, ← tri_eq i, Int.mul_ediv_cancel_left _ (by decide)]
  have eacc : acc = (tris many).map V.int := by
    have := acc_map (f := fun (i : Nat) => V.int (tri i)) ys
    have e2 : acc.length = many + 1 := by rw [el]; omega
    rw [this, e2, tris_eq, List.map_map]
    rfl
  subst eacc
  have al : atI ((tris many).map V.int) (-1) = some (.int (tri many)) := by
    have l : ((tris many).map V.int).length = many + 1 := by rw [List.length_map, tris_eq, List.length_map, List.length_range]
    have e3 : ixN ((tris many).map V.int).length (-1) = some many := by
      unfold ixN
      rw [l, if_neg (by decide), if_pos (by omega)]
      congr 1
      omega
    unfold atI
    rw [e3]
    show ((tris many).map V.int)[many]? = _
    rw [List.getElem?_map, tris_eq, List.getElem?_map, List.getElem?_range (by omega)]
    rfl
  walk_at "w"
  refine k_tup (by walk_at "sz") fun T1 H5 nT1 c5 hT1 => ?_
  walk_at "w"
  refine k_lst (by walk_at "sz") fun cl H6 ncl c6 hcl => ?_
  have c46 := c5.same c6
  walk_at "w"
  refine w_iteD (fun h0 => ?_) (fun h0 => ?_)
  · have h0' : many = 0 := by have := V.int.inj h0; omega
    walk_at "w"
    refine k_lst (by walk_at "sz") fun cl2 H7 ncl2 c7 hcl2 => ?_
    refine fin5 H7 cl2 D ((c4.same c46).same c7) ((c46.same c7).at hD) ?_
    rw [if_pos h0']
    exact .lst trivial hcl2 .nil
  · have h0' : ¬ many = 0 := fun z => h0 (by rw [z]; rfl)
    refine fin5 H6 cl D (c4.same c46) (c46.at hD) ?_
    rw [if_neg h0']
    exact .lst trivial hcl (.cons (.tup (c6.at hT1) (.cons (.int _) (.cons (.int _) .nil))) .nil)
def sp__law_added (K : PySem.W.Frag) : Sp := fun vs H Q _ => ∃ (b nl : Addr) (x : Str) (xs : List Str) (many k : Nat), vs = [.ref b, .ref nl, .int (many : Nat)] ∧ Well H b k ∧ 1 ≤ k ∧ nl ≠ b ∧ H nl = some (.lst ((x :: xs).map V.str)) ∧ nameS x = true ∧ many ≤ 1300 ∧
  ∀ (T : Addr) (H' : Hp), Chg [b] H H' → DueAt H' T x (4 * many + 2) (many + 1) → Q (.ref T) H'
def t__law_added (K : PySem.W.Frag) : TS :=
    tSeq (tAsg (tCall sp__law_draw [] E0 (tCons (tVar 0) (tCons (tOp oPow (tC (.int 10)) (tC (.int 18))) (tNil)))) (gName 3))
    (tSeq (tAsg (tLst (tCons (tTup (tCons (tC (.str "skip")) (tCons (tTup (tCons (tC (.str "arg")) (tNil))) (tCons (tC (.int 2)) (tNil))))) (tCons (tTup (tCons (tC (.str "call")) (tCons (tOp (rIxL K) (tVar 1) (tC (.int 0))) (tCons (tTup (tCons (tC (.str "less")) (tCons (tTup (tCons (tC (.str "arg")) (tNil))) (tCons (tC (.int 1)) (tNil))))) (tNil))))) (tNil)))) (gName 4))
    (tSeq (tAsg (tOp rCat (tVar 4) (tLst (tCons (tTup (tCons (tC (.str "cell")) (tCons (tVar 3) (tCons (tTup (tCons (tC (.str "add")) (tCons (tTup (tCons (tC (.str "cell")) (tCons (tVar 3) (tNil)))) (tCons (tTup (tCons (tC (.str "arg")) (tNil))) (tNil))))) (tNil))))) (tCons (tTup (tCons (tC (.str "give")) (tCons (tOp (rIxL K) (tVar 1) (tC (.int 0))) (tCons (tTup (tCons (tC (.str "cell")) (tCons (tVar 3) (tNil)))) (tNil))))) (tNil))))) (gName 4))
    (tSeq (tAsg (tLc (iRng1 (tCons (tOp oAdd (tVar 2) (tC (.int 1))) (tNil))) (gName 7) (tYes) (tOp oFdiv (tOp oMul (tVar 7) (tOp oAdd (tVar 7) (tC (.int 1)))) (tC (.int 2))) [7]) (gName 5))
    (tSeq (tAsg (tLst (tCons (tTup (tCons (tVar 3) (tCons (tOp (rIxL K) (tVar 5) (tUn (rU fun i => .int (-i)) (tC (.int 1)))) (tNil)))) (tNil))) (gName 6))
    (tSeq (tIfS (tTest (tOp rEq (tVar 2) (tC (.int 0)))) (tAsg (tLst (tNil)) (gName 6)) (tNext))
    (tRet (tTup (tCons (tLst (tCons (tTup (tCons (tOp (rIxL K) (tVar 1) (tC (.int 0))) (tCons (tVar 4) (tNil)))) (tNil))) (tCons (tVar 2) (tCons (tVar 6) (tCons (tLst (tCons (tTup (tCons (tOp (rIxL K) (tVar 1) (tC (.int 0))) (tCons (tVar 5) (tNil)))) (tNil))) (tCons (tOp oAdd (tOp oMul (tC (.int 4)) (tVar 2)) (tC (.int 2))) (tCons (tOp oAdd (tVar 2) (tC (.int 1))) (tNil))))))))))))))
theorem pure__law_added {K : PySem.W.Frag} (vs : List V) (H : Hp) (Q : VK) (E : XK) (h : sp__law_added K vs H Q E) : t__law_added K (fin Q) (start ["well", "names", "many", "cell", "rows", "sums", "cells", "k"] vs) H := by
  obtain ⟨b, nl, x, xs, many, k, rfl, bag, hk, nlb, hnl, lx, lm, q⟩ := h
  show (tSeq _ (tSeq _ (tSeq _ (t__law_added_3 K)))) (fin Q) [some (.ref b), some (.ref nl), some (.int (many : Nat)), none, none, none, none, none] H
  walk_at "w"
  refine w_pow (cpow 4 (by decide) (by decide) (by decide)) ?_
  have e18 : (10 : Int) ^ Int.toNat 18 = 1000000000000000000 := by decide
  rw [e18]
  walk_at "w"
  refine u_draw bag (by omega) (by decide) (by decide) fun c H2 c2 bag2 u0 u1 => ?_
  have hnl2 : H2 nl = some (.lst (.str x :: xs.map V.str)) := c2.at1 hnl nlb
  walk_at "al"
  rename_i l2 H3 nl2 c3 hl2
  apply w_cat
  focus (walk_at "hp"; done)
  exact hl2
  focus (simp; done)
  intro rl H4 nrl c4 hrl
  have rR : R (fun _ => True) H4 (.ref rl) (.list ((rowsA c x).map Stp.data)) := by
    simp only [rowsA, List.map_cons, List.map_nil]
    walk_at "rd"
  have c24 : Chg [] H2 H4 := by walk_at "chg"
  show t__law_added_3 K (fin Q) [some (.ref b), some (.ref nl), some (.int (many : Nat)), some (.int c), some (.ref rl), none, none, none] H4
  exact added_3 lx lm (c24.at hnl2) rR fun T H' c' d => q T H' ((c2.same c24).same c') d
theorem Stp.ok_mono' {ns ms : List Str} {bh : Int} {s : Stp} (h : s.ok ns bh) (hm : ∀ x ∈ ns, x ∈ ms) : s.ok ms bh := by
  cases s with
  | fork x a => exact ⟨h.1, hm _ h.2.1, h.2.2⟩
  | call x a => exact ⟨h.1, hm _ h.2.1, h.2.2⟩
  | _ => exact h
theorem stepsOk_mono' {ns ms : List Str} (hm : ∀ x ∈ ns, x ∈ ms) : ∀ {ss : List Stp}, stepsOk ns ss → stepsOk ms ss
  | [], _ => trivial
  | s :: r, h => ⟨Stp.ok_mono' h.1 hm, stepsOk_mono' hm h.2⟩
theorem prg_perm {rs p : Prg} (hp : p.Perm rs) (up : rising (p.map (·.1)) = true) (low : ∀ r ∈ rs, nameS r.1 = true) (ok : ∀ r ∈ rs, stepsOk (rs.map (·.1)) r.2) (few : rs.length ≤ 100) (short : ∀ r ∈ rs, r.2.length ≤ 100) : PrgOk p where
  names := fun r hr => low r (hp.mem_iff.mp hr)
  up := up
  steps := fun r hr => stepsOk_mono' (fun x hx => (hp.map (·.1)).mem_iff.mpr hx) (ok r (hp.mem_iff.mp hr))
  few := by rw [hp.length_eq]; exact few
  short := fun r hr => short r (hp.mem_iff.mp hr)
theorem rows_perm {rs p : Prg} (hp : p.Perm rs) (nd : (rs.map (·.1)).Nodup) {r : Str × List Stp} (hr : r ∈ rs) : p.rows r.1 = r.2 := rows_of ((hp.map (·.1)).nodup_iff.mpr nd) (hp.mem_iff.mpr hr)
/-! ### by turns -/
def t__law_by_turns_2 (K : PySem.W.Frag) : TS :=
    tSeq (tAsg (tOp oAdd (tOp oFdiv (tVar 1) (tC (.int 2))) (tOp oMod (tVar 1) (tC (.int 2)))) (gName 4))
    (tSeq (tAsg (tLst (tCons (tTup (tCons (tC (.str "all")) (tCons (tLc (iRng1 (tCons (tVar 4) (tNil))) (gName 6) (tYes) (tC (.int 1)) [6]) (tNil)))) (tNil))) (gName 5))
    (tSeq (tIfS (tTest (tOp rEq (tVar 4) (tC (.int 0)))) (tAsg (tLst (tNil)) (gName 5)) (tNext))
    (tRet (tTup (tCons (tCB (rSortedR K) (tCons (tLst (tCons (tTup (tCons (tOp (rIxL K) (tVar 0) (tC (.int 0))) (tCons (tVar 2) (tNil)))) (tCons (tTup (tCons (tOp (rIxL K) (tVar 0) (tC (.int 1))) (tCons (tVar 3) (tNil)))) (tNil)))) (tNil))) (tCons (tVar 1) (tCons (tLst (tNil)) (tCons (tVar 5) (tCons (tOp oAdd (tOp oAdd (tOp oMul (tC (.int 2)) (tVar 1)) (tC (.int 1))) (tVar 4)) (tCons (tOp oAdd (tVar 1) (tC (.int 1))) (tNil)))))))))))
theorem turns_2 {K : PySem.W.Frag} {H3 : Hp} {Q : VK} {nl rl ol : Addr} {x y : Str} {xs : List V} {many : Nat} (lx : nameS x = true) (ly : nameS y = true) (xy : x ≠ y) (lm : many ≤ 1300) (hnl3 : H3 nl = some (.lst (.str x :: .str y :: xs))) (rR : R (fun _ => True) H3 (.ref rl) (.list ((rows0 y).map Stp.data))) (rO : R (fun _ => True) H3 (.ref ol) (.list ((rows1 x).map Stp.data)))
    (q : ∀ (T : Addr) (H' : Hp), Chg [] H3 H' → DueAt H' T x (turnN false many) (many + 1) → Q (.ref T) H') :
    t__law_by_turns_2 K (fin Q) [some (.ref nl), some (.int (many : Nat)), some (.ref rl), some (.ref ol), none, none, none] H3 := by
  unfold t__law_by_turns_2
  have on := ones_eq many
  have tn := turnN_eq many
  walk_at "w"
  refine w_fdiv (cdivS (by decide) (by decide)) ?_
  walk_at "w"
  have eo : ((many : Nat) : Int) / 2 + ((many : Nat) : Int) % 2 = ((ones false many : Nat) : Int) := by omega
  rw [eo]
  have l1 : ones false many ≤ 2000 := by omega
  have okS0 : stepsOk [x, y] (rows0 y) := ⟨⟨by decide, by decide, by show (1 : Int) ≤ 1; decide⟩, ⟨ly, by simp, by show 2 ≤ 5; decide⟩, trivial⟩
  have okS1 : stepsOk [x, y] (rows1 x) := ⟨⟨by decide, by decide, by show (1 : Int) ≤ 2; decide⟩, ⟨lx, by simp, by show 2 ≤ 5; decide⟩, ⟨all_low, by show 1 ≤ 5; decide⟩, trivial⟩
  have nd : (([(x, rows0 y), (y, rows1 x)] : Prg).map (·.1)).Nodup := by
    show [x, y].Nodup
    simp [xy]
  have due : ∀ p : Prg, p.Perm [(x, rows0 y), (y, rows1 x)] → rising (p.map (·.1)) = true → Due p x (many : Int) [] (if ones false many = 0 then [] else [("all", List.replicate (ones false many) 1)]) (turnN false many) (many + 1) := fun p perm up => by
    have okP : PrgOk p := prg_perm perm up (fun r hr => by
      simp only [List.mem_cons, List.not_mem_nil, or_false] at hr
      rcases hr with rfl | rfl
      · exact lx
      · exact ly) (fun r hr => by
      simp only [List.mem_cons, List.not_mem_nil, or_false] at hr
      rcases hr with rfl | rfl
      · exact okS0
      · exact okS1) (by show 2 ≤ 100; decide) (fun r hr => by
      simp only [List.mem_cons, List.not_mem_nil, or_false] at hr
      rcases hr with rfl | rfl
      · show 2 ≤ 100; decide
      · show 3 ≤ 100; decide)
    have hx := rows_perm perm nd (r := (x, rows0 y)) (by simp)
    have hy := rows_perm perm nd (r := (y, rows1 x)) (by simp)
    refine ⟨okP, (perm.map (·.1)).mem_iff.mpr (by simp), ⟨[], turnG false many [], if many = 0 then 0 else 0 + many + 1, ?_, notN_nil, ?_, ?_, ?_⟩, by omega⟩
    · have := turns_tells hx hy many false 0 0 [] (Mc.start p x (many : Int) (cStart []))
      rw [if_neg Bool.false_ne_true] at this
      rw [hx]
      exact this
    · rw [turnG_all]
      by_cases h0 : ones false many = 0
      · rw [if_pos h0, h0]
        exact srtG_nil
      · rw [if_neg h0, addAll_ne "all" (by intro z; have := congrArg List.length z; simp at this; exact h0 this), srtG_one]
    · rw [turnG_all]
      by_cases h0 : ones false many = 0
      · rw [h0]
        decide
      · rw [addAll_ne "all" (by intro z; have := congrArg List.length z; simp at this; exact h0 this)]
        show 1 < 64
        decide
    · split <;> omega
  have fin5 : ∀ (H6 : Hp) (gl : Addr), Chg [] H3 H6 → R (fun _ => True) H6 (.ref gl) (giftsD (if ones false many = 0 then [] else [("all", List.replicate (ones false many) 1)])) →
      tRet (tTup (tCons (tCB (rSortedR K) (tCons (tLst (tCons (tTup (tCons (tOp (rIxL K) (tVar 0) (tC (.int 0))) (tCons (tVar 2) (tNil)))) (tCons (tTup (tCons (tOp (rIxL K) (tVar 0) (tC (.int 1))) (tCons (tVar 3) (tNil)))) (tNil)))) (tNil))) (tCons (tVar 1) (tCons (tLst (tNil)) (tCons (tVar 5) (tCons (tOp oAdd (tOp oAdd (tOp oMul (tC (.int 2)) (tVar 1)) (tC (.int 1))) (tVar 4)) (tCons (tOp oAdd (tVar 1) (tC (.int 1))) (tNil)))))))) (fin Q) [some (.ref nl), some (.int (many : Nat)), some (.ref rl), some (.ref ol), some (.int ((ones false many : Nat) : Int)), some (.ref gl), none] H6 := fun H6 gl c6 rG => by
    have hnl6 := c6.at hnl3
    walk_at "w"
    refine k_tup (by walk_at "sz") fun T1 H7 nT1 c7 hT1 => ?_
    have hnl7 := c7.at hnl6
    walk_at "w"
    refine k_tup (by walk_at "sz") fun T2 H8 nT2 c8 hT2 => ?_
    walk_at "w"
    refine k_lst (by walk_at "sz") fun ul H9 nul c9 hul => ?_
    have c79 : Chg [] H7 H9 := c8.same c9
    have c69 : Chg [] H6 H9 := c7.same c79
    have ra : RA (fun _ => True) H9 [.ref T1, .ref T2] (([(x, rows0 y), (y, rows1 x)] : Prg).map rowD) := .cons (.tup (c79.at hT1) (.cons (.str _) (.cons ((rR.same c6).same c69) .nil))) (.cons (.tup (c9.at hT2) (.cons (.str _) (.cons ((rO.same c6).same c69) .nil))) .nil)
    walk_at "w"
    refine w_sortedP hul ra nd fun pl ys H10 p npl c10 hpl ra10 perm up => ?_
    walk_at "w"
    refine k_lst (by walk_at "sz") fun cl H11 ncl c11 hcl => ?_
    walk_at "w"
    refine w_mul (cmulL (by decide) (by decide)) ?_
    walk_at "w"
    have en : (2 : Int) * (many : Nat) + 1 + ((ones false many : Nat) : Int) = ((turnN false many : Nat) : Int) := by omega
    have ed : ((many : Nat) : Int) + 1 = ((many + 1 : Nat) : Int) := by omega
    rw [en, ed]
    refine k_tup (by walk_at "sz") fun T H12 nT c12 hT => ?_
    have c10T : Chg [] H10 H12 := c11.same c12
    have c6T : Chg [] H6 H12 := (c69.same c10).same c10T
    exact q T H12 (c6.same c6T) ⟨pl, cl, gl, p, (many : Int), [], _, hT, .lst trivial (c10T.at hpl) (ra10.same c10T), .lst trivial (c12.at hcl) .nil, rG.same c6T, due p perm up⟩
  walk_at "w"
  refine w_lcP walk_range [] (fun _ _ => True) (fun i y _ => y = .int 1) trivial (fun _ _ _ _ _ _ _ => trivial) (fun _ _ => trivial) (fun D i acc z H4 H5 hi nD hD el iv c4 _ y => ?_) (fun D acc H4 nD c4 _ el hD ys => ?_)
  · obtain ⟨rfl, rfl⟩ := y
    walk_at "w"
    exact lcp_end (fun _ _ _ _ _ _ _ => trivial) (fun _ _ _ _ _ _ _ h => h) nD (fun a ha => by cases ha) hD el (by omega) iv .refl trivial rfl
  have eacc : acc = (List.replicate (ones false many) (1 : Int)).map V.int := by
    rw [List.map_replicate]
    refine List.eq_replicate_iff.mpr ⟨by rw [el]; omega, fun v hv => ?_⟩
    obtain ⟨i, hi⟩ := List.getElem?_of_mem hv
    exact ys i v hi
  subst eacc
  walk_at "w"
  refine k_tup (by walk_at "sz") fun T1 H5 nT1 c5 hT1 => ?_
  walk_at "w"
  refine k_lst (by walk_at "sz") fun gl H6 ngl c6 hgl => ?_
  have c46 := c5.same c6
  walk_at "w"
  refine w_iteD (fun h0 => ?_) (fun h0 => ?_)
  · have h0' : ones false many = 0 := by have := V.int.inj h0; omega
    walk_at "w"
    refine k_lst (by walk_at "sz") fun gl2 H7 ngl2 c7 hgl2 => ?_
    refine fin5 H7 gl2 ((c4.same c46).same c7) ?_
    rw [if_pos h0']
    exact .lst trivial hgl2 .nil
  · have h0' : ¬ ones false many = 0 := fun z => h0 (by rw [z]; rfl)
    refine fin5 H6 gl (c4.same c46) ?_
    rw [if_neg h0']
    exact .lst trivial hgl (.cons (.tup (c6.at hT1) (.cons (.str _) (.cons (.lst trivial (c46.at hD) (imInts _)) .nil))) .nil)
def sp__law_by_turns (K : PySem.W.Frag) : Sp := fun vs H Q _ => ∃ (nl : Addr) (x y : Str) (xs : List Str) (many : Nat), vs = [.ref nl, .int (many : Nat)] ∧ H nl = some (.lst ((x :: y :: xs).map V.str)) ∧ nameS x = true ∧ nameS y = true ∧ x ≠ y ∧ many ≤ 1300 ∧
  ∀ (T : Addr) (H' : Hp), Chg [] H H' → DueAt H' T x (turnN false many) (many + 1) → Q (.ref T) H'
def t__law_by_turns (K : PySem.W.Frag) : TS :=
    tSeq (tAsg (tLst (tCons (tTup (tCons (tC (.str "skip")) (tCons (tTup (tCons (tC (.str "arg")) (tNil))) (tCons (tC (.int 1)) (tNil))))) (tCons (tTup (tCons (tC (.str "call")) (tCons (tOp (rIxL K) (tVar 0) (tC (.int 1))) (tCons (tTup (tCons (tC (.str "less")) (tCons (tTup (tCons (tC (.str "arg")) (tNil))) (tCons (tC (.int 1)) (tNil))))) (tNil))))) (tNil)))) (gName 2))
    (tSeq (tAsg (tLst (tCons (tTup (tCons (tC (.str "skip")) (tCons (tTup (tCons (tC (.str "arg")) (tNil))) (tCons (tC (.int 1)) (tNil))))) (tCons (tTup (tCons (tC (.str "fork")) (tCons (tOp (rIxL K) (tVar 0) (tC (.int 0))) (tCons (tTup (tCons (tC (.str "less")) (tCons (tTup (tCons (tC (.str "arg")) (tNil))) (tCons (tC (.int 1)) (tNil))))) (tNil))))) (tCons (tTup (tCons (tC (.str "give")) (tCons (tC (.str "all")) (tCons (tC (.int 1)) (tNil))))) (tNil))))) (gName 3))
    (tSeq (tAsg (tOp oAdd (tOp oFdiv (tVar 1) (tC (.int 2))) (tOp oMod (tVar 1) (tC (.int 2)))) (gName 4))
    (tSeq (tAsg (tLst (tCons (tTup (tCons (tC (.str "all")) (tCons (tLc (iRng1 (tCons (tVar 4) (tNil))) (gName 6) (tYes) (tC (.int 1)) [6]) (tNil)))) (tNil))) (gName 5))
    (tSeq (tIfS (tTest (tOp rEq (tVar 4) (tC (.int 0)))) (tAsg (tLst (tNil)) (gName 5)) (tNext))
    (tRet (tTup (tCons (tCB (rSortedR K) (tCons (tLst (tCons (tTup (tCons (tOp (rIxL K) (tVar 0) (tC (.int 0))) (tCons (tVar 2) (tNil)))) (tCons (tTup (tCons (tOp (rIxL K) (tVar 0) (tC (.int 1))) (tCons (tVar 3) (tNil)))) (tNil)))) (tNil))) (tCons (tVar 1) (tCons (tLst (tNil)) (tCons (tVar 5) (tCons (tOp oAdd (tOp oAdd (tOp oMul (tC (.int 2)) (tVar 1)) (tC (.int 1))) (tVar 4)) (tCons (tOp oAdd (tVar 1) (tC (.int 1))) (tNil)))))))))))))
theorem pure__law_by_turns {K : PySem.W.Frag} (vs : List V) (H : Hp) (Q : VK) (E : XK) (h : sp__law_by_turns K vs H Q E) : t__law_by_turns K (fin Q) (start ["names", "many", "rows", "other", "ones", "given", "k"] vs) H := by
  obtain ⟨nl, x, y, xs, many, rfl, hnl, lx, ly, xy, lm, q⟩ := h
  show (tSeq _ (tSeq _ (t__law_by_turns_2 K))) (fin Q) [some (.ref nl), some (.int (many : Nat)), none, none, none, none, none] H
  have hnl2 : H nl = some (.lst (.str x :: .str y :: xs.map V.str)) := hnl
  walk_at "al"
  rename_i ol H3 nol c3 hol
  refine turns_2 (xs := xs.map V.str) lx ly xy lm ?_ ?_ ?_ ?_
  · walk_at "hp"
  · simp only [rows0, List.map_cons, List.map_nil]
    walk_at "rd"
  · simp only [rows1, List.map_cons, List.map_nil]
    walk_at "rd"
  · have c23 : Chg [] H H3 := by walk_at "chg"
    exact fun T H' c' d => q T H' (c23.same c') d
/-! ### doubled -/
def sp__law_power : Sp := fun vs H Q _ => ∃ (b m : Nat), vs = [.int (b : Nat), .int (m : Nat)] ∧ b ≤ 4 ∧ m ≤ 10 ∧ Q (.int ((b ^ m : Nat) : Int)) H
def t__law_power  : TS :=
    tSeq (tAsg (tC (.int 1)) (gName 2))
    (tSeq (tFor (iRng1 (tCons (tVar 1) (tNil))) (gName 3) (tAsg (tOp oMul (tVar 2) (tVar 0)) (gName 2)))
    (tRet (tVar 2)))
theorem pure__law_power {K : PySem.W.Frag} (vs : List V) (H : Hp) (Q : VK) (E : XK) (h : sp__law_power vs H Q E) : t__law_power (fin Q) (start ["base", "many", "found", "k"] vs) H := by
  obtain ⟨b, m, rfl, hb, hm, q⟩ := h
  show t__law_power _ [some (.int (b : Nat)), some (.int (m : Nat)), none, none] H
  unfold t__law_power
  walk_at "w"
  refine for_it walk_range (fun i σ H1 => H1 = H ∧ ∃ y3, σ = [some (.int (b : Nat)), some (.int (m : Nat)), some (.int ((b ^ i : Nat) : Int)), y3]) ⟨rfl, _, rfl⟩ (fun _ _ _ _ _ => trivial) (fun i x σ H1 H2 hi z y => ?_) (fun σ H1 z => ?_)
  · obtain ⟨rfl, y3, rfl⟩ := z
    obtain ⟨rfl, rfl⟩ := y
    walk_at "w"
    refine w_mul (.inr ⟨by omega, by omega⟩) ?_
    walk_at "w"
    exact ⟨rfl, _, by rw [Nat.pow_succ]; push_cast; rfl⟩
  · obtain ⟨rfl, y3, rfl⟩ := z
    have e : ((m : Nat) : Int).toNat = m := Int.toNat_natCast m
    walk_at "w"
    rw [e]
    exact q
end Fg
--LAW k13
namespace Fg
open PySem PySem.Spec PyProof.Rows L2
/-! ### the walk's small steps -/
local macro_rules | `(tactic| walk_at "hp") => `(tactic| first
  | assumption
  | exact upd_same
  | (refine Chg.at (by assumption) ?_; walk_at "hp")
  | (refine Chg.at1 (by assumption) ?_ (by walk_at "ne"); walk_at "hp"))
local macro_rules | `(tactic| walk_at "ne") => `(tactic| first | assumption | (apply Ne.symm; assumption))
local macro_rules | `(tactic| walk_at "sq") => `(tactic| first | assumption | exact sqL (by walk_at "hp") | (refine Chg.seq (by assumption) ?_; walk_at "sq"))
local macro_rules | `(tactic| walk_at "sz") => `(tactic| first | assumption | exact Nat.zero_le _ | (simp only [List.length_cons, List.length_nil]; decide) | exact Nat.le_trans (by first | omega | (simp; done) | (simp; omega)) (show 100000 ≤ sizeLine by decide) | exact Nat.lt_of_lt_of_le (by first | omega | (simp; done) | (simp; omega)) (show 100000 ≤ sizeLine by decide))
local macro_rules | `(tactic| walk_at "ix") => `(tactic| first | exact at0 | exact at1 | exact at2 | exact at3 | assumption | exact rfl | walk_at "ix2")
local macro_rules | `(tactic| walk_at "ix2") => `(tactic| fail)
local macro_rules | `(tactic| walk_at "num") => `(tactic| first | assumption | omega | decide | walk_at "num2")
local macro_rules | `(tactic| walk_at "num2") => `(tactic| fail)
local macro_rules | `(tactic| walk_at "im") => `(tactic| first | assumption | exact R.non (S := fun _ => False) | exact R.bl (S := fun _ => False) _ | exact R.int (S := fun _ => False) _ | exact R.str (S := fun _ => False) _ | (refine R.im (by assumption) ?_; walk_at "im"))
local macro_rules | `(tactic| walk_at "r") => `(tactic| first | assumption | exact R.non (S := fun _ => False) | exact R.bl (S := fun _ => False) _ | exact R.int (S := fun _ => False) _ | exact R.str (S := fun _ => False) _ | (refine R.same (by assumption) ?_; walk_at "r") | exact R.any (by walk_at "im"))
local macro_rules | `(tactic| walk_at "chg") => `(tactic| first
  | exact Chg.refl
  | assumption
  | (refine Chg.same ?_ (by assumption); walk_at "chg")
  | (refine Chg.both ?_ (by assumption); walk_at "chg")
  | (refine Chg.pre (by assumption) ?_; walk_at "chg"))
local macro_rules | `(tactic| walk_at "w1") => `(tactic| first
  | with_reducible apply w_seq
  | with_reducible apply w_asg
  | ((with_reducible apply w_var); (focus (exact rfl)))
  | with_reducible apply w_c
  | with_reducible apply w_op
  | with_reducible apply w_cons
  | with_reducible apply w_nil
  | with_reducible apply w_gName
  | with_reducible apply w_if
  | with_reducible apply w_test
  | with_reducible apply w_B
  | with_reducible apply w_isbl
  | with_reducible apply w_retN
  | with_reducible apply w_next
  | with_reducible apply w_drop
  | with_reducible apply w_cb
  | with_reducible apply w_call
  | with_reducible apply w_callN
  | with_reducible apply w_bm
  | with_reducible apply w_bm0
  | ((with_reducible apply w_tyL); (focus (walk_at "hp"; done)))
  | with_reducible apply w_dput
  | with_reducible apply w_m1
  | with_reducible apply w_isstr
  | with_reducible apply w_and
  | with_reducible apply w_or
  | with_reducible apply w_not
  | with_reducible apply w_andV
  | with_reducible apply w_orV
  | with_reducible apply w_notV
  | with_reducible apply w_ifE
  | with_reducible apply w_chain
  | with_reducible apply w_un
  | with_reducible apply w_neg
  | with_reducible apply w_add
  | with_reducible apply w_sub
  | ((with_reducible apply w_mod); (focus (walk_at "num"; done)))
  | ((with_reducible apply w_mul); (focus (walk_at "num"; done)))
  | ((with_reducible apply w_fdiv); (focus (walk_at "num"; done)))
  | ((with_reducible apply w_pow); (focus (walk_at "num"; done)))
  | with_reducible apply w_lt
  | with_reducible apply w_le
  | with_reducible apply w_gt
  | with_reducible apply w_ge
  | with_reducible apply w_ltS
  | with_reducible apply w_geS
  | with_reducible apply w_inC
  | with_reducible apply w_notInC
  | with_reducible apply w_isN
  | with_reducible apply w_notN
  | with_reducible apply w_isB
  | with_reducible apply w_notB
  | ((with_reducible apply w_addS); (focus (walk_at "sz"; done)))
  | ((with_reducible apply w_ixL); (focus (walk_at "sq"; done)); (focus (walk_at "ix"; done)))
  | ((with_reducible apply w_ixT); (focus (walk_at "hp"; done)); (focus (walk_at "ix"; done)))
  | ((with_reducible apply w_ixS); (focus (walk_at "sz"; done)); (focus (walk_at "ix"; done)))
  | with_reducible apply w_gSub
  | ((with_reducible apply w_gTup); (focus (walk_at "hp"; done)); (focus (exact rfl)))
  | with_reducible apply w_gCons
  | with_reducible apply w_gNil
  | ((with_reducible apply w_aug); (focus (exact rfl)))
  | with_reducible apply w_ipI
  | ((with_reducible apply w_eq); (focus (exact rfl)))
  | ((with_reducible apply w_ne); (focus (exact rfl)))
  | with_reducible apply w_max
  | with_reducible apply w_min
  | with_reducible apply w_abs
  | with_reducible apply w_intB
  | with_reducible apply w_intI
  | with_reducible apply w_tup1
  | with_reducible apply w_lst1
  | with_reducible apply w_sl
  | with_reducible apply w_part
  | with_reducible apply w_noPart
  | with_reducible apply w_isint
  | ((with_reducible apply w_slS); (focus (walk_at "sz"; done)))
  | with_reducible apply w_iteT
  | with_reducible apply w_iteF
  | with_reducible apply w_iteN
  | ((with_reducible apply w_iteYes); (focus (exact rfl)))
  | ((with_reducible apply w_iteNo); (focus (exact rfl)))
  | ((with_reducible apply w_lenL); (focus (walk_at "sq"; done)))
  | ((with_reducible apply w_lenT); (focus (walk_at "hp"; done)))
  | ((with_reducible apply w_lenS); (focus (walk_at "sz"; done)))
  | with_reducible apply w_lc
  | with_reducible apply w_for
  | with_reducible apply w_yes
  | ((with_reducible apply w_wipe); (focus (exact rfl)))
  | with_reducible apply w_iList
  | with_reducible apply w_iTup
  | with_reducible apply w_iStr
  | with_reducible apply w_iRng1
  | with_reducible apply w_iRng2
  | with_reducible apply w_iZip
  | with_reducible apply w_iEnum
  | ((with_reducible apply d_iList); (focus (walk_at "sq"; done)))
  | ((with_reducible apply d_iTup); (focus (walk_at "hp"; done)))
  | with_reducible apply d_iStr
  | ((with_reducible apply d_iRng1); (focus (walk_at "num"; done)); (focus (walk_at "num"; done)))
  | ((with_reducible apply d_iRng2); (focus (walk_at "num"; done)); (focus (walk_at "num"; done)); (focus (walk_at "num"; done)); (focus (walk_at "num"; done)))
  | ((with_reducible apply d_iZip); (focus (walk_at "sq"; done)); (focus (walk_at "sq"; done)))
  | ((with_reducible apply d_iEnum); (focus (walk_at "sq"; done)))
  | walk_at "w2")
local macro_rules | `(tactic| walk_at "w2") => `(tactic| fail)
local macro_rules | `(tactic| walk_at "wn") => `(tactic| repeat walk_at "w1")
local macro_rules | `(tactic| walk_at "w") => `(tactic| repeat (first | walk_at "w1" | with_reducible apply w_ret))

local macro_rules | `(tactic| walk_at "w2") => `(tactic| first
  | ((with_reducible apply w_isInt); (focus (walk_at "r"; done)))
  | ((with_reducible apply w_isBool); (focus (walk_at "r"; done)))
  | ((with_reducible apply w_isStr); (focus (walk_at "r"; done)))
  | ((with_reducible apply w_isTup); (focus (walk_at "r"; done)))
  | ((with_reducible apply w_isLst); (focus (walk_at "r"; done)))
  | with_reducible apply w_fld
  | with_reducible apply w_sfld
  | with_reducible apply w_faug
  | with_reducible apply w_rAdd
  | with_reducible apply w_rSub
  | with_reducible apply w_make
  | with_reducible apply w_orT
  | with_reducible apply w_dgetd
  | with_reducible apply w_dgetk
  | with_reducible apply w_dsetd
  | ((with_reducible apply k_dgetd); (focus (walk_at "hp"; done)))
  | ((with_reducible apply k_dsetd); (focus (walk_at "hp"; done)))
  | walk_at "w3")
local macro_rules | `(tactic| walk_at "w3") => `(tactic| fail)

local macro_rules | `(tactic| walk_at "w3") => `(tactic| first
  | ((with_reducible apply g_Frame_number); (focus (assumption; done)); (focus (walk_at "hp"; done)))
  | ((with_reducible apply u_Frame_number); (focus (assumption; done)); (focus (walk_at "hp"; done)))
  | ((with_reducible apply g_Frame_path); (focus (assumption; done)); (focus (walk_at "hp"; done)))
  | ((with_reducible apply u_Frame_path); (focus (assumption; done)); (focus (walk_at "hp"; done)))
  | ((with_reducible apply g_Frame_rows); (focus (assumption; done)); (focus (walk_at "hp"; done)))
  | ((with_reducible apply u_Frame_rows); (focus (assumption; done)); (focus (walk_at "hp"; done)))
  | ((with_reducible apply g_Frame_arg); (focus (assumption; done)); (focus (walk_at "hp"; done)))
  | ((with_reducible apply u_Frame_arg); (focus (assumption; done)); (focus (walk_at "hp"; done)))
  | ((with_reducible apply g_Frame_at); (focus (assumption; done)); (focus (walk_at "hp"; done)))
  | ((with_reducible apply u_Frame_at); (focus (assumption; done)); (focus (walk_at "hp"; done)))
  | ((with_reducible apply g_Frame_past); (focus (assumption; done)); (focus (walk_at "hp"; done)))
  | ((with_reducible apply u_Frame_past); (focus (assumption; done)); (focus (walk_at "hp"; done)))
  | ((with_reducible apply g_Frame_born); (focus (assumption; done)); (focus (walk_at "hp"; done)))
  | ((with_reducible apply u_Frame_born); (focus (assumption; done)); (focus (walk_at "hp"; done)))
  | ((with_reducible apply g_Record_mark); (focus (assumption; done)); (focus (walk_at "hp"; done)))
  | ((with_reducible apply u_Record_mark); (focus (assumption; done)); (focus (walk_at "hp"; done)))
  | ((with_reducible apply g_Record_word); (focus (assumption; done)); (focus (walk_at "hp"; done)))
  | ((with_reducible apply u_Record_word); (focus (assumption; done)); (focus (walk_at "hp"; done)))
  | ((with_reducible apply g_Record_doer); (focus (assumption; done)); (focus (walk_at "hp"; done)))
  | ((with_reducible apply u_Record_doer); (focus (assumption; done)); (focus (walk_at "hp"; done)))
  | ((with_reducible apply g_Record_child); (focus (assumption; done)); (focus (walk_at "hp"; done)))
  | ((with_reducible apply u_Record_child); (focus (assumption; done)); (focus (walk_at "hp"; done)))
  | ((with_reducible apply g_Record_reads); (focus (assumption; done)); (focus (walk_at "hp"; done)))
  | ((with_reducible apply u_Record_reads); (focus (assumption; done)); (focus (walk_at "hp"; done)))
  | ((with_reducible apply g_Record_writes); (focus (assumption; done)); (focus (walk_at "hp"; done)))
  | ((with_reducible apply u_Record_writes); (focus (assumption; done)); (focus (walk_at "hp"; done)))
  | ((with_reducible apply g_Outcome_cells); (focus (assumption; done)); (focus (walk_at "hp"; done)))
  | ((with_reducible apply u_Outcome_cells); (focus (assumption; done)); (focus (walk_at "hp"; done)))
  | ((with_reducible apply g_Outcome_given); (focus (assumption; done)); (focus (walk_at "hp"; done)))
  | ((with_reducible apply u_Outcome_given); (focus (assumption; done)); (focus (walk_at "hp"; done)))
  | ((with_reducible apply g_Outcome_steps); (focus (assumption; done)); (focus (walk_at "hp"; done)))
  | ((with_reducible apply u_Outcome_steps); (focus (assumption; done)); (focus (walk_at "hp"; done)))
  | ((with_reducible apply g_Outcome_deepest); (focus (assumption; done)); (focus (walk_at "hp"; done)))
  | ((with_reducible apply u_Outcome_deepest); (focus (assumption; done)); (focus (walk_at "hp"; done))))
local macro_rules | `(tactic| walk_at "al") => `(tactic| repeat (first | walk_at "w1" | with_reducible apply w_ret | (with_reducible refine k_tup (by walk_at "sz") fun _ _ _ _ _ => ?_) | (with_reducible refine k_lst (by walk_at "sz") fun _ _ _ _ _ => ?_)))
local macro_rules | `(tactic| walk_at "rd") => `(tactic| repeat (first | exact R.int _ | exact R.str _ | exact RA.nil | refine RA.cons ?_ ?_ | (apply R.tup; (focus (walk_at "hp"; done))) | (apply R.lst trivial; (focus (walk_at "hp"; done)))))
def dblL : Nat → List Int
  | 0 => []
  | i + 1 => dblL i ++ dblL i ++ [((i : Nat) : Int)]
theorem dblL_eq : ∀ k : Nat, dblL (k + 1) = dbl k
  | 0 => rfl
  | k + 1 => by
    show dblL (k + 1) ++ dblL (k + 1) ++ [((k + 1 : Nat) : Int)] = _
    rw [dblL_eq k]
    rfl
theorem dblL_len : ∀ i : Nat, (dblL i).length + 1 = 2 ^ i
  | 0 => rfl
  | i + 1 => by
    have := dblL_len i
    show (dblL i ++ dblL i ++ [_]).length + 1 = _
    rw [List.length_append, List.length_append, List.length_singleton, Nat.pow_succ]
    omega
def t__law_doubled_2 (K : PySem.W.Frag) : TS :=
    tSeq (tAsg (tLst (tNil)) (gName 4))
    (tSeq (tFor (iRng1 (tCons (tOp oAdd (tVar 1) (tC (.int 1))) (tNil))) (gName 5) (tAsg (tOp rCat (tOp rCat (tVar 4) (tVar 4)) (tLst (tCons (tVar 5) (tNil)))) (gName 4)))
    (tSeq (tAsg (tOp oSub (tOp oMul (tC (.int 6)) (tCall sp__law_power [] E0 (tCons (tC (.int 2)) (tCons (tVar 1) (tNil))))) (tC (.int 4))) (gName 6))
    (tRet (tTup (tCons (tLst (tCons (tTup (tCons (tOp (rIxL K) (tVar 0) (tC (.int 0))) (tCons (tVar 3) (tNil)))) (tNil))) (tCons (tVar 1) (tCons (tLst (tNil)) (tCons (tLst (tCons (tTup (tCons (tC (.str "all")) (tCons (tVar 4) (tNil)))) (tNil))) (tCons (tVar 6) (tCons (tOp oAdd (tVar 1) (tC (.int 1))) (tNil)))))))))))
theorem dbl_2 {K : PySem.W.Frag} {H3 : Hp} {Q : VK} {nl rl : Addr} {x : Str} {xs : List V} {a2 : Option V} {many : Nat} (lx : nameS x = true) (lm : many ≤ 7) (hnl3 : H3 nl = some (.lst (.str x :: xs))) (rR : R (fun _ => True) H3 (.ref rl) (.list ((rowsT x).map Stp.data)))
    (q : ∀ (T : Addr) (H' : Hp), Chg [] H3 H' → DueAt H' T x (dblN many) (many + 1) → Q (.ref T) H') :
    t__law_doubled_2 K (fin Q) [some (.ref nl), some (.int (many : Nat)), a2, some (.ref rl), none, none, none] H3 := by
  unfold t__law_doubled_2
  have okS : stepsOk [x] (rowsT x) := ⟨⟨by decide, by decide, by show (2 : Int) ≤ 3; decide⟩, ⟨lx, by simp, by show 2 ≤ 5; decide⟩, ⟨lx, by simp, by show 2 ≤ 5; decide⟩, ⟨all_low, by show 1 ≤ 5; decide⟩, trivial⟩
  have okP : PrgOk [(x, rowsT x)] := prg_one lx okS (by show 4 ≤ 100; decide)
  have dne : dbl many ≠ [] := by
    rw [← dblL_eq]
    intro z
    have := congrArg List.length z
    simp [dblL] at this
  have dn := dblN_eq many
  have due : Due [(x, rowsT x)] x (many : Int) [] [("all", dbl many)] (dblN many) (many + 1) := by
    refine ⟨okP, by simp, ⟨[], dblG many [], if many = 0 then 0 else 0 + many + 1, ?_, notN_nil, ?_, ?_, ?_⟩, ?_⟩
    · rw [rows_single]
      exact dbl_tells (rows_single _ _) many 0 0 [] _
    · rw [dblG_all, addAll_ne "all" dne, srtG_one]
    · rw [dblG_all, addAll_ne "all" dne]
      show 1 < 64
      decide
    · split <;> omega
    · have : 1 ≤ 2 ^ many := Nat.one_le_two_pow
      omega
  walk_at "w"
  refine k_lst (by walk_at "sz") fun g0 H4 ng0 c4 hg0 => ?_
  walk_at "w"
  refine for_it walk_range (fun i σ H1 => Chg [] H3 H1 ∧ ∃ (gl : Addr) (y5 : Option V), σ = [some (.ref nl), some (.int (many : Nat)), a2, some (.ref rl), some (.ref gl), y5, none] ∧ H1 gl = some (.lst ((dblL i).map V.int))) ⟨c4, g0, none, rfl, hg0⟩ (fun _ _ _ _ _ => trivial) (fun i z σ H5 H6 hi iv y => ?_) (fun σ H5 iv => ?_)
  · obtain ⟨c5, gl, y5, rfl, hgl⟩ := iv
    obtain ⟨rfl, rfl⟩ := y
    have hi' : i ≤ 7 := by omega
    have ll := dblL_len i
    have p7 : 2 ^ i ≤ 2 ^ 7 := Nat.pow_le_pow_right (by decide) hi'
    walk_at "w"
    refine w_cat hgl hgl (by rw [List.length_map]; omega) fun g1 H7 ng1 c7 hg1 => ?_
    walk_at "w"
    refine k_lst (by walk_at "sz") fun kl H8 nkl c8 hkl => ?_
    refine w_cat (c8.at hg1) hkl (by rw [List.length_append, List.length_map]; simp; omega) fun g2 H9 ng2 c9 hg2 => ?_
    walk_at "w"
    refine ⟨((c5.same c7).same c8).same c9, g2, _, rfl, ?_⟩
    rw [hg2]
    show some (HO.lst (((dblL i).map V.int ++ (dblL i).map V.int) ++ [V.int (0 + ((i : Nat) : Int))])) = some (.lst ((dblL i ++ dblL i ++ [((i : Nat) : Int)]).map V.int))
    rw [Int.zero_add, List.map_append, List.map_append]
    rfl
  · obtain ⟨c5, gl, y5, rfl, hgl⟩ := iv
    have em : (((many : Nat) : Int) + 1).toNat = many + 1 := by omega
    rw [em, dblL_eq] at hgl
    walk_at "w"
    refine ⟨2, many, rfl, by decide, by omega, ?_⟩
    refine w_mul (cmulL (by decide) (by decide)) ?_
    walk_at "w"
    have en : (6 : Int) * ((2 ^ many : Nat) : Int) - 4 = ((dblN many : Nat) : Int) := by omega
    rw [en]
    have hnl5 := c5.at hnl3
    walk_at "w"
    refine k_tup (by walk_at "sz") fun T1 H6 nT1 c6 hT1 => ?_
    walk_at "w"
    refine k_lst (by walk_at "sz") fun pl H7 npl c7 hpl => ?_
    walk_at "w"
    refine k_lst (by walk_at "sz") fun cl H8 ncl c8 hcl => ?_
    walk_at "w"
    refine k_tup (by walk_at "sz") fun T2 H9 nT2 c9 hT2 => ?_
    walk_at "w"
    refine k_lst (by walk_at "sz") fun ul H10 nul c10 hul => ?_
    walk_at "w"
    have ed : ((many : Nat) : Int) + 1 = ((many + 1 : Nat) : Int) := by omega
    rw [ed]
    refine k_tup (by walk_at "sz") fun T H11 nT c11 hT => ?_
    have c9T : Chg [] H9 H11 := c10.same c11
    have c8T : Chg [] H8 H11 := c9.same c9T
    have c7T : Chg [] H7 H11 := c8.same c8T
    have c6T : Chg [] H6 H11 := c7.same c7T
    have c5T : Chg [] H5 H11 := c6.same c6T
    exact q T H11 (c5.same c5T) ⟨pl, cl, ul, [(x, rowsT x)], (many : Int), [], _, hT, .lst trivial (c7T.at hpl) (.cons (.tup (c6T.at hT1) (.cons (.str _) (.cons ((rR.same c5).same c5T) .nil))) .nil), .lst trivial (c8T.at hcl) .nil, .lst trivial (c11.at hul) (.cons (.tup (c9T.at hT2) (.cons (.str _) (.cons (.lst trivial (c5T.at hgl) (imInts _)) .nil))) .nil), due⟩
def sp__law_doubled (K : PySem.W.Frag) : Sp := fun vs H Q _ => ∃ (nl : Addr) (x : Str) (xs : List Str) (many : Nat), vs = [.ref nl, .int (many : Nat)] ∧ H nl = some (.lst ((x :: xs).map V.str)) ∧ nameS x = true ∧ many ≤ 7 ∧
  ∀ (T : Addr) (H' : Hp), Chg [] H H' → DueAt H' T x (dblN many) (many + 1) → Q (.ref T) H'
def t__law_doubled (K : PySem.W.Frag) : TS :=
    tSeq (tAsg (tTup (tCons (tC (.str "fork")) (tCons (tOp (rIxL K) (tVar 0) (tC (.int 0))) (tCons (tTup (tCons (tC (.str "less")) (tCons (tTup (tCons (tC (.str "arg")) (tNil))) (tCons (tC (.int 1)) (tNil))))) (tNil))))) (gName 2))
    (tSeq (tAsg (tLst (tCons (tTup (tCons (tC (.str "skip")) (tCons (tTup (tCons (tC (.str "arg")) (tNil))) (tCons (tC (.int 2)) (tNil))))) (tCons (tVar 2) (tCons (tVar 2) (tCons (tTup (tCons (tC (.str "give")) (tCons (tC (.str "all")) (tCons (tTup (tCons (tC (.str "arg")) (tNil))) (tNil))))) (tNil)))))) (gName 3))
    (tSeq (tAsg (tLst (tNil)) (gName 4))
    (tSeq (tFor (iRng1 (tCons (tOp oAdd (tVar 1) (tC (.int 1))) (tNil))) (gName 5) (tAsg (tOp rCat (tOp rCat (tVar 4) (tVar 4)) (tLst (tCons (tVar 5) (tNil)))) (gName 4)))
    (tSeq (tAsg (tOp oSub (tOp oMul (tC (.int 6)) (tCall sp__law_power [] E0 (tCons (tC (.int 2)) (tCons (tVar 1) (tNil))))) (tC (.int 4))) (gName 6))
    (tRet (tTup (tCons (tLst (tCons (tTup (tCons (tOp (rIxL K) (tVar 0) (tC (.int 0))) (tCons (tVar 3) (tNil)))) (tNil))) (tCons (tVar 1) (tCons (tLst (tNil)) (tCons (tLst (tCons (tTup (tCons (tC (.str "all")) (tCons (tVar 4) (tNil)))) (tNil))) (tCons (tVar 6) (tCons (tOp oAdd (tVar 1) (tC (.int 1))) (tNil)))))))))))))
theorem pure__law_doubled {K : PySem.W.Frag} (vs : List V) (H : Hp) (Q : VK) (E : XK) (h : sp__law_doubled K vs H Q E) : t__law_doubled K (fin Q) (start ["names", "many", "step", "rows", "given", "k", "steps"] vs) H := by
  obtain ⟨nl, x, xs, many, rfl, hnl, lx, lm, q⟩ := h
  show (tSeq _ (tSeq _ (t__law_doubled_2 K))) (fin Q) [some (.ref nl), some (.int (many : Nat)), none, none, none, none, none] H
  have hnl2 : H nl = some (.lst (.str x :: xs.map V.str)) := hnl
  walk_at "al"
  rename_i rl H3 nrl c3 hrl
  refine dbl_2 (xs := xs.map V.str) lx lm ?_ ?_ ?_
  · walk_at "hp"
  · simp only [rowsT, List.map_cons, List.map_nil]
    walk_at "rd"
  · have c23 : Chg [] H H3 := by walk_at "chg"
    exact fun T H' c' d => q T H' (c23.same c') d
end Fg
--LAW k13
namespace Fg
open PySem PySem.Spec PyProof.Rows L2
/-! ### the walk's small steps -/
local macro_rules | `(tactic| walk_at "hp") => `(tactic| first
  | assumption
  | exact upd_same
  | (refine Chg.at (by assumption) ?_; walk_at "hp")
  | (refine Chg.at1 (by assumption) ?_ (by walk_at "ne"); walk_at "hp"))
local macro_rules | `(tactic| walk_at "ne") => `(tactic| first | assumption | (apply Ne.symm; assumption))
local macro_rules | `(tactic| walk_at "sq") => `(tactic| first | assumption | exact sqL (by walk_at "hp") | (refine Chg.seq (by assumption) ?_; walk_at "sq"))
local macro_rules | `(tactic| walk_at "sz") => `(tactic| first | assumption | exact Nat.zero_le _ | (simp only [List.length_cons, List.length_nil]; decide) | exact Nat.le_trans (by first | omega | (simp; done) | (simp; omega)) (show 100000 ≤ sizeLine by decide) | exact Nat.lt_of_lt_of_le (by first | omega | (simp; done) | (simp; omega)) (show 100000 ≤ sizeLine by decide))
local macro_rules | `(tactic| walk_at "ix") => `(tactic| first | exact at0 | exact at1 | exact at2 | exact at3 | assumption | exact rfl | walk_at "ix2")
local macro_rules | `(tactic| walk_at "ix2") => `(tactic| fail)
local macro_rules | `(tactic| walk_at "num") => `(tactic| first | assumption | omega | decide | walk_at "num2")
local macro_rules | `(tactic| walk_at "num2") => `(tactic| fail)
local macro_rules | `(tactic| walk_at "im") => `(tactic| first | assumption | exact R.non (S := fun _ => False) | exact R.bl (S := fun _ => False) _ | exact R.int (S := fun _ => False) _ | exact R.str (S := fun _ => False) _ | (refine R.im (by assumption) ?_; walk_at "im"))
local macro_rules | `(tactic| walk_at "r") => `(tactic| first | assumption | exact R.non (S := fun _ => False) | exact R.bl (S := fun _ => False) _ | exact R.int (S := fun _ => False) _ | exact R.str (S := fun _ => False) _ | (refine R.same (by assumption) ?_; walk_at "r") | exact R.any (by walk_at "im"))
local macro_rules | `(tactic| walk_at "chg") => `(tactic| first
  | exact Chg.refl
  | assumption
  | (refine Chg.same ?_ (by assumption); walk_at "chg")
  | (refine Chg.both ?_ (by assumption); walk_at "chg")
  | (refine Chg.pre (by assumption) ?_; walk_at "chg"))
local macro_rules | `(tactic| walk_at "w1") => `(tactic| first
  | with_reducible apply w_seq
  | with_reducible apply w_asg
  | ((with_reducible apply w_var); (focus (exact rfl)))
  | with_reducible apply w_c
  | with_reducible apply w_op
  | with_reducible apply w_cons
  | with_reducible apply w_nil
  | with_reducible apply w_gName
  | with_reducible apply w_if
  | with_reducible apply w_test
  | with_reducible apply w_B
  | with_reducible apply w_isbl
  | with_reducible apply w_retN
  | with_reducible apply w_next
  | with_reducible apply w_drop
  | with_reducible apply w_cb
  | with_reducible apply w_call
  | with_reducible apply w_callN
  | with_reducible apply w_bm
  | with_reducible apply w_bm0
  | ((with_reducible apply w_tyL); (focus (walk_at "hp"; done)))
  | with_reducible apply w_dput
  | with_reducible apply w_m1
  | with_reducible apply w_isstr
  | with_reducible apply w_and
  | with_reducible apply w_or
  | with_reducible apply w_not
  | with_reducible apply w_andV
  | with_reducible apply w_orV
  | with_reducible apply w_notV
  | with_reducible apply w_ifE
  | with_reducible apply w_chain
  | with_reducible apply w_un
  | with_reducible apply w_neg
  | with_reducible apply w_add
  | with_reducible apply w_sub
  | ((with_reducible apply w_mod); (focus (walk_at "num"; done)))
  | ((with_reducible apply w_mul); (focus (walk_at "num"; done)))
  | ((with_reducible apply w_fdiv); (focus (walk_at "num"; done)))
  | ((with_reducible apply w_pow); (focus (walk_at "num"; done)))
  | with_reducible apply w_lt
  | with_reducible apply w_le
  | with_reducible apply w_gt
  | with_reducible apply w_ge
  | with_reducible apply w_ltS
  | with_reducible apply w_geS
  | with_reducible apply w_inC
  | with_reducible apply w_notInC
  | with_reducible apply w_isN
  | with_reducible apply w_notN
  | with_reducible apply w_isB
  | with_reducible apply w_notB
  | ((with_reducible apply w_addS); (focus (walk_at "sz"; done)))
  | ((with_reducible apply w_ixL); (focus (walk_at "sq"; done)); (focus (walk_at "ix"; done)))
  | ((with_reducible apply w_ixT); (focus (walk_at "hp"; done)); (focus (walk_at "ix"; done)))
  | ((with_reducible apply w_ixS); (focus (walk_at "sz"; done)); (focus (walk_at "ix"; done)))
  | with_reducible apply w_gSub
  | ((with_reducible apply w_gTup); (focus (walk_at "hp"; done)); (focus (exact rfl)))
  | with_reducible apply w_gCons
  | with_reducible apply w_gNil
  | ((with_reducible apply w_aug); (focus (exact rfl)))
  | with_reducible apply w_ipI
  | ((with_reducible apply w_eq); (focus (exact rfl)))
  | ((with_reducible apply w_ne); (focus (exact rfl)))
  | with_reducible apply w_max
  | with_reducible apply w_min
  | with_reducible apply w_abs
  | with_reducible apply w_intB
  | with_reducible apply w_intI
  | with_reducible apply w_tup1
  | with_reducible apply w_lst1
  | with_reducible apply w_sl
  | with_reducible apply w_part
  | with_reducible apply w_noPart
  | with_reducible apply w_isint
  | ((with_reducible apply w_slS); (focus (walk_at "sz"; done)))
  | with_reducible apply w_iteT
  | with_reducible apply w_iteF
  | with_reducible apply w_iteN
  | ((with_reducible apply w_iteYes); (focus (exact rfl)))
  | ((with_reducible apply w_iteNo); (focus (exact rfl)))
  | ((with_reducible apply w_lenL); (focus (walk_at "sq"; done)))
  | ((with_reducible apply w_lenT); (focus (walk_at "hp"; done)))
  | ((with_reducible apply w_lenS); (focus (walk_at "sz"; done)))
  | with_reducible apply w_lc
  | with_reducible apply w_for
  | with_reducible apply w_yes
  | ((with_reducible apply w_wipe); (focus (exact rfl)))
  | with_reducible apply w_iList
  | with_reducible apply w_iTup
  | with_reducible apply w_iStr
  | with_reducible apply w_iRng1
  | with_reducible apply w_iRng2
  | with_reducible apply w_iZip
  | with_reducible apply w_iEnum
  | ((with_reducible apply d_iList); (focus (walk_at "sq"; done)))
  | ((with_reducible apply d_iTup); (focus (walk_at "hp"; done)))
  | with_reducible apply d_iStr
  | ((with_reducible apply d_iRng1); (focus (walk_at "num"; done)); (focus (walk_at "num"; done)))
  | ((with_reducible apply d_iRng2); (focus (walk_at "num"; done)); (focus (walk_at "num"; done)); (focus (walk_at "num"; done)); (focus (walk_at "num"; done)))
  | ((with_reducible apply d_iZip); (focus (walk_at "sq"; done)); (focus (walk_at "sq"; done)))
  | ((with_reducible apply d_iEnum); (focus (walk_at "sq"; done)))
  | walk_at "w2")
local macro_rules | `(tactic| walk_at "w2") => `(tactic| fail)
local macro_rules | `(tactic| walk_at "wn") => `(tactic| repeat walk_at "w1")
local macro_rules | `(tactic| walk_at "w") => `(tactic| repeat (first | walk_at "w1" | with_reducible apply w_ret))

local macro_rules | `(tactic| walk_at "w2") => `(tactic| first
  | ((with_reducible apply w_isInt); (focus (walk_at "r"; done)))
  | ((with_reducible apply w_isBool); (focus (walk_at "r"; done)))
  | ((with_reducible apply w_isStr); (focus (walk_at "r"; done)))
  | ((with_reducible apply w_isTup); (focus (walk_at "r"; done)))
  | ((with_reducible apply w_isLst); (focus (walk_at "r"; done)))
  | with_reducible apply w_fld
  | with_reducible apply w_sfld
  | with_reducible apply w_faug
  | with_reducible apply w_rAdd
  | with_reducible apply w_rSub
  | with_reducible apply w_make
  | with_reducible apply w_orT
  | with_reducible apply w_dgetd
  | with_reducible apply w_dgetk
  | with_reducible apply w_dsetd
  | ((with_reducible apply k_dgetd); (focus (walk_at "hp"; done)))
  | ((with_reducible apply k_dsetd); (focus (walk_at "hp"; done)))
  | walk_at "w3")
local macro_rules | `(tactic| walk_at "w3") => `(tactic| fail)

local macro_rules | `(tactic| walk_at "w3") => `(tactic| first
  | ((with_reducible apply g_Frame_number); (focus (assumption; done)); (focus (walk_at "hp"; done)))
  | ((with_reducible apply u_Frame_number); (focus (assumption; done)); (focus (walk_at "hp"; done)))
  | ((with_reducible apply g_Frame_path); (focus (assumption; done)); (focus (walk_at "hp"; done)))
  | ((with_reducible apply u_Frame_path); (focus (assumption; done)); (focus (walk_at "hp"; done)))
  | ((with_reducible apply g_Frame_rows); (focus (assumption; done)); (focus (walk_at "hp"; done)))
  | ((with_reducible apply u_Frame_rows); (focus (assumption; done)); (focus (walk_at "hp"; done)))
  | ((with_reducible apply g_Frame_arg); (focus (assumption; done)); (focus (walk_at "hp"; done)))
  | ((with_reducible apply u_Frame_arg); (focus (assumption; done)); (focus (walk_at "hp"; done)))
  | ((with_reducible apply g_Frame_at); (focus (assumption; done)); (focus (walk_at "hp"; done)))
  | ((with_reducible apply u_Frame_at); (focus (assumption; done)); (focus (walk_at "hp"; done)))
  | ((with_reducible apply g_Frame_past); (focus (assumption; done)); (focus (walk_at "hp"; done)))
  | ((with_reducible apply u_Frame_past); (focus (assumption; done)); (focus (walk_at "hp"; done)))
  | ((with_reducible apply g_Frame_born); (focus (assumption; done)); (focus (walk_at "hp"; done)))
  | ((with_reducible apply u_Frame_born); (focus (assumption; done)); (focus (walk_at "hp"; done)))
  | ((with_reducible apply g_Record_mark); (focus (assumption; done)); (focus (walk_at "hp"; done)))
  | ((with_reducible apply u_Record_mark); (focus (assumption; done)); (focus (walk_at "hp"; done)))
  | ((with_reducible apply g_Record_word); (focus (assumption; done)); (focus (walk_at "hp"; done)))
  | ((with_reducible apply u_Record_word); (focus (assumption; done)); (focus (walk_at "hp"; done)))
  | ((with_reducible apply g_Record_doer); (focus (assumption; done)); (focus (walk_at "hp"; done)))
  | ((with_reducible apply u_Record_doer); (focus (assumption; done)); (focus (walk_at "hp"; done)))
  | ((with_reducible apply g_Record_child); (focus (assumption; done)); (focus (walk_at "hp"; done)))
  | ((with_reducible apply u_Record_child); (focus (assumption; done)); (focus (walk_at "hp"; done)))
  | ((with_reducible apply g_Record_reads); (focus (assumption; done)); (focus (walk_at "hp"; done)))
  | ((with_reducible apply u_Record_reads); (focus (assumption; done)); (focus (walk_at "hp"; done)))
  | ((with_reducible apply g_Record_writes); (focus (assumption; done)); (focus (walk_at "hp"; done)))
  | ((with_reducible apply u_Record_writes); (focus (assumption; done)); (focus (walk_at "hp"; done)))
  | ((with_reducible apply g_Outcome_cells); (focus (assumption; done)); (focus (walk_at "hp"; done)))
  | ((with_reducible apply u_Outcome_cells); (focus (assumption; done)); (focus (walk_at "hp"; done)))
  | ((with_reducible apply g_Outcome_given); (focus (assumption; done)); (focus (walk_at "hp"; done)))
  | ((with_reducible apply u_Outcome_given); (focus (assumption; done)); (focus (walk_at "hp"; done)))
  | ((with_reducible apply g_Outcome_steps); (focus (assumption; done)); (focus (walk_at "hp"; done)))
  | ((with_reducible apply u_Outcome_steps); (focus (assumption; done)); (focus (walk_at "hp"; done)))
  | ((with_reducible apply g_Outcome_deepest); (focus (assumption; done)); (focus (walk_at "hp"; done)))
  | ((with_reducible apply u_Outcome_deepest); (focus (assumption; done)); (focus (walk_at "hp"; done))))
def sumP : Nat → Nat
  | 0 => 0
  | i + 1 => sumP i + 4 ^ (i + 1)
theorem sumP_4 : ∀ i : Nat, 4 * sumP i + 4 = sumP (i + 1)
  | 0 => rfl
  | i + 1 => by
    have := sumP_4 i
    show 4 * (sumP i + 4 ^ (i + 1)) + 4 = sumP (i + 1) + 4 ^ (i + 1 + 1)
    rw [Nat.pow_succ 4 (i + 1)]
    omega
theorem quadN_eq : ∀ i : Nat, quadN i = sumP i + 4 ^ i
  | 0 => rfl
  | i + 1 => by
    have h1 := quadN_eq i
    have h2 := sumP_4 i
    show 4 * (quadN i + 1) = sumP (i + 1) + 4 ^ (i + 1)
    rw [Nat.pow_succ]
    omega
theorem sumP_sum : ∀ m : Nat, ((List.range m).map fun i => ((4 ^ (i + 1) : Nat) : Int)).sum = ((sumP m : Nat) : Int)
  | 0 => rfl
  | m + 1 => by
    rw [List.range_succ, List.map_append, List.sum_append, sumP_sum m]
    show ((sumP m : Nat) : Int) + (((4 ^ (m + 1) : Nat) : Int) + 0) = ((sumP m + 4 ^ (m + 1) : Nat) : Int)
    omega
def nmF (ns : List Str) (k : Nat) : Str := (ns[k]?).getD ""
def WF (k : Nat) : Str → Ex → Stp := if k % 2 = 0 then .call else .fork
theorem WF_fc (k : Nat) : FC (WF k) := by
  unfold WF
  split
  · exact .call
  · exact .fork
def rowQ (ns : List Str) (k : Nat) : List Stp := [WF k (nmF ns (k + 1)) .arg, WF k (nmF ns (k + 1)) .arg, WF k (nmF ns (k + 1)) .arg, WF k (nmF ns (k + 1)) .arg]
def rsQ (ns : List Str) (many i : Nat) : Prg := (nmF ns many, [.give "all" .arg]) :: (List.range i).map fun k => (nmF ns k, rowQ ns k)
theorem nmF_at {ns : List Str} {k : Nat} (h : k < ns.length) : ns[k]? = some (nmF ns k) ∧ atI (ns.map V.str) ((k : Nat) : Int) = some (.str (nmF ns k)) ∧ nmF ns k ∈ ns := by
  unfold nmF
  rw [List.getElem?_eq_getElem h]
  refine ⟨rfl, atI_nat ?_, List.getElem_mem h⟩
  rw [List.getElem?_map, List.getElem?_eq_getElem h]
  rfl
theorem nmF_inj {ns : List Str} (nd : ns.Nodup) {i j : Nat} (hi : i < ns.length) (hj : j < ns.length) (e : nmF ns i = nmF ns j) : i = j := by
  have h1 := (nmF_at hi).1
  have h2 := (nmF_at hj).1
  rw [e, ← h2] at h1
  exact (List.getElem?_inj hi nd).mp h1
def sp__law_fourfold (K : PySem.W.Frag) : Sp := fun vs H Q _ => ∃ (nl : Addr) (ns : List Str) (many : Nat), vs = [.ref nl, .int (many : Nat)] ∧ H nl = some (.lst (ns.map V.str)) ∧ ns.length = 6 ∧ ns.Nodup ∧ (∀ x ∈ ns, nameS x = true) ∧ many ≤ 4 ∧
  ∀ (T : Addr) (H' : Hp), Chg [] H H' → DueAt H' T (nmF ns 0) (quadN many) (many + 1) → Q (.ref T) H'
def t__law_fourfold_2 (K : PySem.W.Frag) : TS :=
    tSeq (tAsg (tCall sp__law_power [] E0 (tCons (tC (.int 4)) (tCons (tVar 1) (tNil)))) (gName 4))
    (tSeq (tAsg (tOp oAdd (tCB (rSum K) (tCons (tLc (iRng2 (tCons (tC (.int 1)) (tCons (tOp oAdd (tVar 1) (tC (.int 1))) (tNil)))) (gName 3) (tYes) (tCall sp__law_power [] E0 (tCons (tC (.int 4)) (tCons (tVar 3) (tNil)))) [3]) (tNil))) (tVar 4)) (gName 5))
    (tRet (tTup (tCons (tCB (rSortedR K) (tCons (tVar 2) (tNil))) (tCons (tC (.int 7)) (tCons (tLst (tNil)) (tCons (tLst (tCons (tTup (tCons (tC (.str "all")) (tCons (tLc (iRng1 (tCons (tVar 4) (tNil))) (gName 3) (tYes) (tC (.int 7)) [3]) (tNil)))) (tNil))) (tCons (tVar 5) (tCons (tOp oAdd (tVar 1) (tC (.int 1))) (tNil))))))))))
theorem four_2 {K : PySem.W.Frag} {H3 : Hp} {Q : VK} {nl hl : Addr} {ns : List Str} {xs : List V} {a3 : Option V} {many : Nat} (l6 : ns.length = 6) (ndn : ns.Nodup) (low : ∀ x ∈ ns, nameS x = true) (lm : many ≤ 4) (hhl : H3 hl = some (.lst xs)) (ra : RA (fun _ => True) H3 xs ((rsQ ns many many).map rowD))
    (q : ∀ (T : Addr) (H' : Hp), Chg [] H3 H' → DueAt H' T (nmF ns 0) (quadN many) (many + 1) → Q (.ref T) H') :
    t__law_fourfold_2 K (fin Q) [some (.ref nl), some (.int (many : Nat)), some (.ref hl), a3, none, none, none] H3 := by
  unfold t__law_fourfold_2
  have enm : (rsQ ns many many).map (·.1) = nmF ns many :: (List.range many).map (nmF ns) := by
    unfold rsQ
    rw [List.map_cons, List.map_map]
    rfl
  have nd : ((rsQ ns many many).map (·.1)).Nodup := by
    rw [enm]
    refine List.nodup_cons.mpr ⟨fun hm => ?_, ?_⟩
    · obtain ⟨k, hk, e⟩ := List.mem_map.mp hm
      have hk' := List.mem_range.mp hk
      have := nmF_inj ndn (by omega) (by omega) e
      omega
    · have e : (List.range many).map (nmF ns) = ns.take many := by
        apply List.ext_getElem?
        intro i
        rw [List.getElem?_map, List.getElem?_take]
        by_cases h : i < many
        · rw [List.getElem?_range h, if_pos h, (nmF_at (ns := ns) (k := i) (by omega)).1]
          rfl
        · rw [if_neg h, List.getElem?_eq_none (by rw [List.length_range]; omega)]
          rfl
      rw [e]
      exact (List.take_sublist _ _).nodup ndn
  have due : ∀ p : Prg, p.Perm (rsQ ns many many) → rising (p.map (·.1)) = true → Due p (nmF ns 0) 7 [] [("all", List.replicate (4 ^ many) 7)] (quadN many) (many + 1) := fun p perm up => by
    have okP : PrgOk p := prg_perm perm up (fun r hr => by
      rcases List.mem_cons.mp hr with rfl | hr
      · exact low _ (nmF_at (by omega)).2.2
      · obtain ⟨k, hk, rfl⟩ := List.mem_map.mp hr
        have hk' := List.mem_range.mp hk
        exact low _ (nmF_at (by omega)).2.2) (fun r hr => by
      rcases List.mem_cons.mp hr with rfl | hr
      · exact ⟨⟨all_low, by show 1 ≤ 5; decide⟩, trivial⟩
      · obtain ⟨k, hk, rfl⟩ := List.mem_map.mp hr
        have hk' := List.mem_range.mp hk
        have hm : nmF ns (k + 1) ∈ (rsQ ns many many).map (·.1) := by
          rw [enm]
          by_cases h : k + 1 = many
          · rw [h]; simp
          · exact List.mem_cons_of_mem _ (List.mem_map.mpr ⟨k + 1, List.mem_range.mpr (by omega), rfl⟩)
        have l1 := low _ (nmF_at (ns := ns) (k := k + 1) (by omega)).2.2
        exact ⟨(WF_fc k).ok l1 hm (by decide), (WF_fc k).ok l1 hm (by decide), (WF_fc k).ok l1 hm (by decide), (WF_fc k).ok l1 hm (by decide), trivial⟩) (by
      unfold rsQ
      rw [List.length_cons, List.length_map, List.length_range]
      omega) (fun r hr => by
      rcases List.mem_cons.mp hr with rfl | hr
      · show 1 ≤ 100; decide
      · obtain ⟨k, hk, rfl⟩ := List.mem_map.mp hr
        show 4 ≤ 100; decide)
    have hlast := rows_perm perm nd (r := (nmF ns many, [.give "all" .arg])) (by unfold rsQ; simp)
    have hrow : ∀ k, k < many → p.rows (nmF ns k) = rowQ ns k := fun k hk => rows_perm perm nd (r := (nmF ns k, rowQ ns k)) (List.mem_cons_of_mem _ (List.mem_map.mpr ⟨k, List.mem_range.mpr hk, rfl⟩))
    have hm0 : nmF ns 0 ∈ (rsQ ns many many).map (·.1) := by
      rw [enm]
      by_cases h : many = 0
      · rw [h]; simp
      · exact List.mem_cons_of_mem _ (List.mem_map.mpr ⟨0, List.mem_range.mpr (by omega), rfl⟩)
    have p4 : 4 ^ many ≠ 0 := by
      have : 0 < 4 ^ many := Nat.pow_pos (by decide)
      omega
    have rne : List.replicate (4 ^ many) (7 : Int) ≠ [] := by
      intro z
      have := congrArg List.length z
      rw [List.length_replicate] at this
      exact p4 this
    refine ⟨okP, (perm.map (·.1)).mem_iff.mpr hm0, ⟨[], quadG 7 many [], if many = 0 then 0 else 0 + many + 1, ?_, notN_nil, ?_, ?_, ?_⟩, ?_⟩
    · have := quad_tells (w := 7) (nm := nmF ns) (W := WF) WF_fc hlast hrow many (Nat.le_refl _) 0 0 [] (Mc.start p (nmF ns 0) 7 (cStart []))
      rw [Nat.sub_self] at this
      exact this
    · rw [quadG_all, addAll_ne "all" rne, srtG_one]
    · rw [quadG_all, addAll_ne "all" rne]
      show 1 < 64
      decide
    · split <;> omega
    · rw [quadN_eq]
      have : 0 < 4 ^ many := Nat.pow_pos (by decide)
      omega
  have p256 : 4 ^ many ≤ 4 ^ 4 := Nat.pow_le_pow_right (by decide) lm
  walk_at "w"
  refine ⟨4, many, rfl, by decide, by omega, ?_⟩
  walk_at "w"
  refine w_lcP walk_range [] (fun _ _ => True) (fun i y _ => y = .int ((4 ^ (i + 1) : Nat) : Int)) trivial (fun _ _ _ _ _ _ _ => trivial) (fun _ _ => trivial) (fun D i acc z H4 H5 hi nD hD el iv c4 _ y => ?_) (fun D acc H4 nD c4 _ el hD ys => ?_)
  · obtain ⟨rfl, rfl⟩ := y
    have hi' : i < many := by omega
    walk_at "w"
    refine ⟨4, i + 1, ?_, by decide, by omega, ?_⟩
    · show [V.int 4, V.int (1 + ((i : Nat) : Int))] = _
      rw [show (1 : Int) + ((i : Nat) : Int) = ((i + 1 : Nat) : Int) by omega]
      rfl
    · exact lcp_end (fun _ _ _ _ _ _ _ => trivial) (fun _ _ _ _ _ _ _ h => h) nD (fun a ha => by cases ha) hD el (by omega) iv .refl trivial rfl
  have eacc : acc = ((List.range many).map fun i => ((4 ^ (i + 1) : Nat) : Int)).map V.int := by
    have := acc_map (f := fun (i : Nat) => V.int ((4 ^ (i + 1) : Nat) : Int)) ys
    have e2 : acc.length = many := by rw [el]; omega
    rw [this, e2, List.map_map]
    rfl
  subst eacc
  walk_at "w"
  refine ⟨D, _, rfl, sqL hD, ?_⟩
  rw [sumP_sum]
  walk_at "w"
  have es : ((sumP many : Nat) : Int) + ((4 ^ many : Nat) : Int) = ((quadN many : Nat) : Int) := by rw [quadN_eq]; omega
  rw [es]
  clear es
  generalize 4 ^ many = L4 at p256 due ⊢
  have p256 : L4 ≤ 256 := p256
  walk_at "w"
  refine w_sortedP (c4.at hhl) (ra.same c4) nd fun pl ys2 H5 p npl c5 hpl ra5 perm up => ?_
  walk_at "w"
  refine k_lst (by walk_at "sz") fun cl H6 ncl c6 hcl => ?_
  walk_at "w"
  refine w_lcP walk_range [] (fun _ _ => True) (fun i y _ => y = .int 7) trivial (fun _ _ _ _ _ _ _ => trivial) (fun _ _ => trivial) (fun D2 i acc z H7 H8 hi nD2 hD2 el2 iv c7 _ y => ?_) (fun D2 acc H7 nD2 c7 _ el2 hD2 ys2 => ?_)
  · obtain ⟨rfl, rfl⟩ := y
    walk_at "w"
    exact lcp_end (fun _ _ _ _ _ _ _ => trivial) (fun _ _ _ _ _ _ _ h => h) nD2 (fun a ha => by cases ha) hD2 el2 (by omega) iv .refl trivial rfl
  have eacc : acc = (List.replicate L4 (7 : Int)).map V.int := by
    rw [List.map_replicate]
    refine List.eq_replicate_iff.mpr ⟨by rw [el2]; omega, fun v hv => ?_⟩
    obtain ⟨i, hi⟩ := List.getElem?_of_mem hv
    exact ys2 i v hi
  subst eacc
  walk_at "w"
  refine k_tup (by walk_at "sz") fun T1 H8 nT1 c8 hT1 => ?_
  walk_at "w"
  refine k_lst (by walk_at "sz") fun gl H9 ngl c9 hgl => ?_
  walk_at "w"
  have ed : ((many : Nat) : Int) + 1 = ((many + 1 : Nat) : Int) := by omega
  rw [ed]
  refine k_tup (by walk_at "sz") fun T H10 nT c10 hT => ?_
  have c8T : Chg [] H8 H10 := c9.same c10
  have c7T : Chg [] H7 H10 := c8.same c8T
  have c6T : Chg [] H6 H10 := c7.same c7T
  have c5T : Chg [] H5 H10 := c6.same c6T
  exact q T H10 ((c4.same c5).same c5T) ⟨pl, cl, gl, p, 7, [], _, hT, .lst trivial (c5T.at hpl) (ra5.same c5T), .lst trivial (c6T.at hcl) .nil, .lst trivial (c10.at hgl) (.cons (.tup (c8T.at hT1) (.cons (.str _) (.cons (.lst trivial (c7T.at hD2) (imInts _)) .nil))) .nil), due p perm up⟩
def t__law_fourfold (K : PySem.W.Frag) : TS :=
    tSeq (tAsg (tLst (tCons (tTup (tCons (tOp (rIxL K) (tVar 0) (tVar 1)) (tCons (tLst (tCons (tTup (tCons (tC (.str "give")) (tCons (tC (.str "all")) (tCons (tTup (tCons (tC (.str "arg")) (tNil))) (tNil))))) (tNil))) (tNil)))) (tNil))) (gName 2))
    (tSeq (tFor (iRng1 (tCons (tVar 1) (tNil))) (gName 3) (tDrop (tBM K "list" rAppend (tVar 2) (tCons (tTup (tCons (tOp (rIxL K) (tVar 0) (tVar 3)) (tCons (tLc (iRng1 (tCons (tC (.int 4)) (tNil))) (gName 6) (tYes) (tTup (tCons (tOp (rIxL K) (tLst (tCons (tC (.str "call")) (tCons (tC (.str "fork")) (tNil)))) (tOp oMod (tVar 3) (tC (.int 2)))) (tCons (tOp (rIxL K) (tVar 0) (tOp oAdd (tVar 3) (tC (.int 1)))) (tCons (tTup (tCons (tC (.str "arg")) (tNil))) (tNil))))) [6]) (tNil)))) (tNil)))))
    (tSeq (tAsg (tCall sp__law_power [] E0 (tCons (tC (.int 4)) (tCons (tVar 1) (tNil)))) (gName 4))
    (tSeq (tAsg (tOp oAdd (tCB (rSum K) (tCons (tLc (iRng2 (tCons (tC (.int 1)) (tCons (tOp oAdd (tVar 1) (tC (.int 1))) (tNil)))) (gName 3) (tYes) (tCall sp__law_power [] E0 (tCons (tC (.int 4)) (tCons (tVar 3) (tNil)))) [3]) (tNil))) (tVar 4)) (gName 5))
    (tRet (tTup (tCons (tCB (rSortedR K) (tCons (tVar 2) (tNil))) (tCons (tC (.int 7)) (tCons (tLst (tNil)) (tCons (tLst (tCons (tTup (tCons (tC (.str "all")) (tCons (tLc (iRng1 (tCons (tVar 4) (tNil))) (gName 3) (tYes) (tC (.int 7)) [3]) (tNil)))) (tNil))) (tCons (tVar 5) (tCons (tOp oAdd (tVar 1) (tC (.int 1))) (tNil))))))))))))
theorem pure__law_fourfold {K : PySem.W.Frag} (vs : List V) (H : Hp) (Q : VK) (E : XK) (h : sp__law_fourfold K vs H Q E) : t__law_fourfold K (fin Q) (start ["names", "many", "helpers", "k", "last", "steps", "j"] vs) H := by
  obtain ⟨nl, ns, many, rfl, hnl, l6, ndn, low, lm, q⟩ := h
  show (tSeq _ (tSeq _ (t__law_fourfold_2 K))) (fin Q) [some (.ref nl), some (.int (many : Nat)), none, none, none, none, none] H
  have am := (nmF_at (ns := ns) (k := many) (by omega)).2.1
  walk_at "w"
  refine k_tup (by walk_at "sz") fun T1 H1 nT1 c1 hT1 => ?_
  walk_at "w"
  refine k_tup (by walk_at "sz") fun T2 H2 nT2 c2 hT2 => ?_
  walk_at "w"
  refine k_lst (by walk_at "sz") fun rl H3 nrl c3 hrl => ?_
  walk_at "w"
  refine k_tup (by walk_at "sz") fun T3 H4 nT3 c4 hT3 => ?_
  walk_at "w"
  refine k_lst (by walk_at "sz") fun hl H5 nhl c5 hhl => ?_
  have c05 : Chg [] H H5 := (((c1.same c2).same c3).same c4).same c5
  have nhl0 : H hl = none := (((c1.same c2).same c3).same c4).dom _ nhl
  have rlhl : rl ≠ hl := fun z => by rw [← z, c4.at hrl] at nhl; cases nhl
  have ra0 : RA (fun a => a ≠ hl) H5 [.ref T3] ((rsQ ns many 0).map rowD) := .cons (.tup (c5.at hT3) (.cons (.str _) (.cons (.lst rlhl ((c4.same c5).at hrl) (.cons (.tup ((c3.same (c4.same c5)).at hT2) (.cons (.str _) (.cons (.str _) (.cons (.tup ((c2.same (c3.same (c4.same c5))).at hT1) (.cons (.str _) .nil)) .nil)))) .nil)) .nil))) .nil
  walk_at "w"
  refine for_it walk_range (fun i σ H6 => Chg [] H H6 ∧ ∃ (xs : List V) (y3 : Option V), σ = [some (.ref nl), some (.int (many : Nat)), some (.ref hl), y3, none, none, none] ∧ H6 hl = some (.lst xs) ∧ xs.length = i + 1 ∧ RA (fun a => a ≠ hl) H6 xs ((rsQ ns many i).map rowD)) ⟨c05, _, _, rfl, hhl, rfl, ra0⟩ (fun _ _ _ _ _ => trivial) (fun i z σ H6 H7 hi iv y => ?_) (fun σ H6 iv => ?_)
  · obtain ⟨c6, xs, y3, rfl, hhl6, lxs, ra6⟩ := iv
    obtain ⟨rfl, rfl⟩ := y
    have hi' : i < many := by omega
    have hnl6 := c6.at hnl
    have a1 : atI (ns.map V.str) (0 + ((i : Nat) : Int)) = some (.str (nmF ns i)) := by rw [Int.zero_add]; exact (nmF_at (ns := ns) (k := i) (by omega)).2.1
    have a2 : atI (ns.map V.str) (0 + ((i : Nat) : Int) + 1) = some (.str (nmF ns (i + 1))) := by
      have := (nmF_at (ns := ns) (k := i + 1) (by omega)).2.1
      rw [Int.zero_add]
      exact this
    obtain ⟨wd, ewd, hwd⟩ : ∃ wd : Str, atI [V.str "call", V.str "fork"] ((0 + ((i : Nat) : Int)) % 2) = some (.str wd) ∧ ∀ x a, (WF i x a).data = .tuple [.str wd, .str x, a.data] := by
      unfold WF
      by_cases h : i % 2 = 0
      · rw [if_pos h, show (0 + ((i : Nat) : Int)) % 2 = 0 by omega]
        exact ⟨"call", at0, fun _ _ => rfl⟩
      · rw [if_neg h, show (0 + ((i : Nat) : Int)) % 2 = 1 by omega]
        exact ⟨"fork", at1, fun _ _ => rfl⟩
    walk_at "w"
    refine w_lcP walk_range [] (fun _ _ => True) (fun j y H => Im H y ((WF i (nmF ns (i + 1)) .arg).data)) trivial (fun _ _ _ _ _ _ _ => trivial) (fun _ _ => trivial) (fun D j acc z H8 H9 hj nD hD el iv c8 _ y => ?_) (fun D acc H8 nD c8 _ el hD ys => ?_)
    · obtain ⟨rfl, rfl⟩ := y
      walk_at "w"
      refine k_lst (by walk_at "sz") fun wl H9 nwl c9 hwl => ?_
      have hnl9 := (c8.same c9).at hnl6
      walk_at "w"
      refine k_tup (by walk_at "sz") fun U1 H10 nU1 c10 hU1 => ?_
      walk_at "w"
      refine k_tup (by walk_at "sz") fun U2 H11 nU2 c11 hU2 => ?_
      refine lcp_end (fun _ _ _ _ _ _ _ => trivial) (fun _ _ _ _ _ _ c h => h.im c) nD (fun a ha => by cases ha) hD el (by omega) iv ((c9.same c10).same c11) trivial ?_
      rw [hwd]
      exact .tup hU2 (.cons (.str _) (.cons (.str _) (.cons (.tup (c11.at hU1) (.cons (.str _) .nil)) .nil)))
    obtain ⟨v0, v1, v2, v3, rfl⟩ : ∃ v0 v1 v2 v3, acc = [v0, v1, v2, v3] := by
      have l4 : acc.length = 4 := by rw [el]; rfl
      match acc, l4 with
      | [a, b, c, d], _ => exact ⟨a, b, c, d, rfl⟩
    walk_at "w"
    refine k_tup (by walk_at "sz") fun T H9 nT c9 hT => ?_
    have c69 : Chg [] H7 H9 := c8.same c9
    have hhl9 := c69.at hhl6
    walk_at "w"
    refine w_append hhl9 (by rw [lxs]; walk_at "sz") fun H10 c10 h10 => ?_
    have Dhl : D ≠ hl := fun z => by rw [z, hhl6] at nD; cases nD
    refine ⟨(c6.same c69).one c10 nhl0, xs ++ [.ref T], _, rfl, h10, by rw [List.length_append, List.length_singleton, lxs], ?_⟩
    have e : (rsQ ns many (i + 1)).map rowD = (rsQ ns many i).map rowD ++ [rowD (nmF ns i, rowQ ns i)] := by
      unfold rsQ
      rw [List.range_succ, List.map_append, List.map_cons, List.map_cons, List.map_append]
      rfl
    rw [e]
    refine ((ra6.same c69).keep c10 fun a ha hm => ha (List.mem_singleton.mp hm)).snoc (.tup (c10.tup _ _ hT) (.cons (.str _) (.cons (.lst Dhl (c10.at1 (c9.at hD) Dhl) ?_) .nil)))
    have im : ∀ (j : Nat) (v : V), [v0, v1, v2, v3][j]? = some v → R (fun a => a ≠ hl) H10 v (WF i (nmF ns (i + 1)) .arg).data := fun j v hv => (((ys j v hv).im c9).im c10).any
    exact .cons (im 0 v0 rfl) (.cons (im 1 v1 rfl) (.cons (im 2 v2 rfl) (.cons (im 3 v3 rfl) .nil)))
  · obtain ⟨c6, xs, y3, rfl, hhl6, lxs, ra6⟩ := iv
    rw [show (((many : Nat) : Int)).toNat = many from Int.toNat_natCast many] at ra6
    exact four_2 l6 ndn low lm hhl6 (ra6.mono fun _ _ => trivial) fun T H' c' d => q T H' (c6.same c') d
end Fg
namespace Fg
open PySem PySem.Spec PyProof.Rows L2
/-! ### len(o) by an own def -/
structure LnI (P : Program) (w : World) (K : PySem.W.Frag) (mg : Str → Option Value) (base : Heap) (k : Nat) (C : Addr) (sp : Sp) : Prop where
  ex : ∃ (f : Addr) (fd : FuncData) (ps : List Str), FnOk P w K mg base CX0 k f fd ps sp ∧ PySem.W.findIn K (.ref C) "__len__" = some (some (.ref f)) ∧ PySem.W.isFn K (.ref f) = true ∧ Binds K fd ps []
def cLenI (C : Addr) (sp : Sp) : List V → Hp → VK → Prop := fun xs H Q => ∃ (a dx : Addr) (fs : List (Str × V)), xs = [.ref a] ∧ H a = some (.ins C dx fs) ∧ sp [.ref a] H (fun v H' => ∃ n : Nat, v = .int (n : Nat) ∧ n < 2 ^ 60 ∧ Q (.int (n : Nat)) H') E0
theorem p_lenI {X : Cx} {k j : Nat} {C : Addr} {sp : Sp} (L : LnI X.prog X.w X.K X.mg X.base k C sp) (hr : Room j X.A) (hk : k + 1 ≤ j) : CallR X (.builtin "len") (cLenI C sp) := by
  intro pins s σ H xs us Q I r h
  obtain ⟨f, fd, ps, F, hs, hf, hb⟩ := L.ex
  obtain ⟨a, dx, fs, rfl, ha, hsp⟩ := h
  rw [Vals.ref1 r]
  obtain ⟨mA, J, _⟩ := ins_get I.hok ha
  obtain ⟨od, J, _⟩ := J.look
  have room : Room k X.A.in1 := (hr.mono hk).in1
  have e0 : Env0 X.prog X.w X.K X.mg X.base X.A.in1 X.stack s H := by
    have e := I.env0
    exact ⟨e.frames, e.mod, e.bs, e.bsz, e.funs, e.frf, e.hok, e.bare⟩
  refine Calls.call_function_entry kind_len plain_len entry_len (args_len1 _) ?_
  unfold Builtin.«len»
  refine wpAny_bind (m := oneArg "len" _) (wpAny_pure ?_)
  refine wpAny_bind (m := callSpecial? (.ref a) (Str.ofString "__len__")) (PySem.W.special_fn I.kIn J hs (beq_iff_eq.mp hf) ?_)
  have hl := F.len _ _ _ _ hsp
  have r2 : Vals [V.ref a] [Value.ref a] := .cons rfl .nil
  refine wpAny_call (codeAny_mono (F.run X.A.in1 X.stack s H ⟨[.ref a], []⟩ [.ref a] [.ref a] _ E0 room e0 (by
    have := hb s [.ref a] I.kIn (by simpa using hl)
    simpa using this) r2 hsp) fun r s' hq => ?_)
  cases r with
  | error e => exact (pass0 (X := X) pins σ H s e s' I hq)
  | ok fl =>
    cases fl with
    | ret w =>
      obtain ⟨z, H', I', rz, n, ez, hn, q⟩ := I.after hq
      subst ez
      obtain ⟨t, rfl⟩ := (show ∃ t, w = Value.int (n : Nat) t from rz)
      refine wpAny_bind (wpAny_holding (wpAny_pure ?_))
      refine wpAny_bind (wpAny_letGo ?_)
      show wpAny _ _ (if ((n : Nat) : Int) < 0 then _ else _) _ _ _
      rw [if_neg (by omega)]
      show wpAny _ _ (if ((n : Nat) : Int) ≥ 2 ^ 63 then _ else _) _ _ _
      rw [if_neg (by omega)]
      exact wpAny_bind (wpAny_mkInt (wpAny_pure ⟨_, rfl, .int (n : Nat), H', I'.kept (t' := s'.toks + 1) (fun _ _ e => e), ⟨_, rfl⟩, q⟩))
    | next => exact False.elim hq
    | brk => exact False.elim hq
    | cont => exact False.elim hq
theorem w_lenI {C : Addr} {sp : Sp} {H : Hp} {Q : VK} {a dx : Addr} {fs : List (Str × V)} (h : H a = some (.ins C dx fs)) (q : sp [.ref a] H (fun v H' => ∃ n : Nat, v = .int (n : Nat) ∧ n < 2 ^ 60 ∧ Q (.int (n : Nat)) H') E0) : cLenI C sp [.ref a] H Q := ⟨a, dx, fs, rfl, h, q⟩
end Fg
--LAW k13
namespace Fg
open PySem PySem.Spec PyProof.Rows L2
/-! ### the walk's small steps -/
local macro_rules | `(tactic| walk_at "hp") => `(tactic| first
  | assumption
  | exact upd_same
  | (refine Chg.at (by assumption) ?_; walk_at "hp")
  | (refine Chg.at1 (by assumption) ?_ (by walk_at "ne"); walk_at "hp"))
local macro_rules | `(tactic| walk_at "ne") => `(tactic| first | assumption | (apply Ne.symm; assumption))
local macro_rules | `(tactic| walk_at "sq") => `(tactic| first | assumption | exact sqL (by walk_at "hp") | (refine Chg.seq (by assumption) ?_; walk_at "sq"))
local macro_rules | `(tactic| walk_at "sz") => `(tactic| first | assumption | exact Nat.zero_le _ | (simp only [List.length_cons, List.length_nil]; decide) | exact Nat.le_trans (by first | omega | (simp; done) | (simp; omega)) (show 100000 ≤ sizeLine by decide) | exact Nat.lt_of_lt_of_le (by first | omega | (simp; done) | (simp; omega)) (show 100000 ≤ sizeLine by decide))
local macro_rules | `(tactic| walk_at "ix") => `(tactic| first | exact at0 | exact at1 | exact at2 | exact at3 | assumption | exact rfl | walk_at "ix2")
local macro_rules | `(tactic| walk_at "ix2") => `(tactic| fail)
local macro_rules | `(tactic| walk_at "num") => `(tactic| first | assumption | omega | decide | walk_at "num2")
local macro_rules | `(tactic| walk_at "num2") => `(tactic| fail)
local macro_rules | `(tactic| walk_at "im") => `(tactic| first | assumption | exact R.non (S := fun _ => False) | exact R.bl (S := fun _ => False) _ | exact R.int (S := fun _ => False) _ | exact R.str (S := fun _ => False) _ | (refine R.im (by assumption) ?_; walk_at "im"))
local macro_rules | `(tactic| walk_at "r") => `(tactic| first | assumption | exact R.non (S := fun _ => False) | exact R.bl (S := fun _ => False) _ | exact R.int (S := fun _ => False) _ | exact R.str (S := fun _ => False) _ | (refine R.same (by assumption) ?_; walk_at "r") | exact R.any (by walk_at "im"))
local macro_rules | `(tactic| walk_at "chg") => `(tactic| first
  | exact Chg.refl
  | assumption
  | (refine Chg.same ?_ (by assumption); walk_at "chg")
  | (refine Chg.both ?_ (by assumption); walk_at "chg")
  | (refine Chg.pre (by assumption) ?_; walk_at "chg"))
local macro_rules | `(tactic| walk_at "w1") => `(tactic| first
  | with_reducible apply w_seq
  | with_reducible apply w_asg
  | ((with_reducible apply w_var); (focus (exact rfl)))
  | with_reducible apply w_c
  | with_reducible apply w_op
  | with_reducible apply w_cons
  | with_reducible apply w_nil
  | with_reducible apply w_gName
  | with_reducible apply w_if
  | with_reducible apply w_test
  | with_reducible apply w_B
  | with_reducible apply w_isbl
  | with_reducible apply w_retN
  | with_reducible apply w_next
  | with_reducible apply w_drop
  | with_reducible apply w_cb
  | with_reducible apply w_call
  | with_reducible apply w_callN
  | with_reducible apply w_bm
  | with_reducible apply w_bm0
  | ((with_reducible apply w_tyL); (focus (walk_at "hp"; done)))
  | with_reducible apply w_dput
  | with_reducible apply w_m1
  | with_reducible apply w_isstr
  | with_reducible apply w_and
  | with_reducible apply w_or
  | with_reducible apply w_not
  | with_reducible apply w_andV
  | with_reducible apply w_orV
  | with_reducible apply w_notV
  | with_reducible apply w_ifE
  | with_reducible apply w_chain
  | with_reducible apply w_un
  | with_reducible apply w_neg
  | with_reducible apply w_add
  | with_reducible apply w_sub
  | ((with_reducible apply w_mod); (focus (walk_at "num"; done)))
  | ((with_reducible apply w_mul); (focus (walk_at "num"; done)))
  | ((with_reducible apply w_fdiv); (focus (walk_at "num"; done)))
  | ((with_reducible apply w_pow); (focus (walk_at "num"; done)))
  | with_reducible apply w_lt
  | with_reducible apply w_le
  | with_reducible apply w_gt
  | with_reducible apply w_ge
  | with_reducible apply w_ltS
  | with_reducible apply w_geS
  | with_reducible apply w_inC
  | with_reducible apply w_notInC
  | with_reducible apply w_isN
  | with_reducible apply w_notN
  | with_reducible apply w_isB
  | with_reducible apply w_notB
  | ((with_reducible apply w_addS); (focus (walk_at "sz"; done)))
  | ((with_reducible apply w_ixL); (focus (walk_at "sq"; done)); (focus (walk_at "ix"; done)))
  | ((with_reducible apply w_ixT); (focus (walk_at "hp"; done)); (focus (walk_at "ix"; done)))
  | ((with_reducible apply w_ixS); (focus (walk_at "sz"; done)); (focus (walk_at "ix"; done)))
  | with_reducible apply w_gSub
  | ((with_reducible apply w_gTup); (focus (walk_at "hp"; done)); (focus (exact rfl)))
  | with_reducible apply w_gCons
  | with_reducible apply w_gNil
  | ((with_reducible apply w_aug); (focus (exact rfl)))
  | with_reducible apply w_ipI
  | ((with_reducible apply w_eq); (focus (exact rfl)))
  | ((with_reducible apply w_ne); (focus (exact rfl)))
  | with_reducible apply w_max
  | with_reducible apply w_min
  | with_reducible apply w_abs
  | with_reducible apply w_intB
  | with_reducible apply w_intI
  | with_reducible apply w_tup1
  | with_reducible apply w_lst1
  | with_reducible apply w_sl
  | with_reducible apply w_part
  | with_reducible apply w_noPart
  | with_reducible apply w_isint
  | ((with_reducible apply w_slS); (focus (walk_at "sz"; done)))
  | with_reducible apply w_iteT
  | with_reducible apply w_iteF
  | with_reducible apply w_iteN
  | ((with_reducible apply w_iteYes); (focus (exact rfl)))
  | ((with_reducible apply w_iteNo); (focus (exact rfl)))
  | ((with_reducible apply w_lenL); (focus (walk_at "sq"; done)))
  | ((with_reducible apply w_lenT); (focus (walk_at "hp"; done)))
  | ((with_reducible apply w_lenS); (focus (walk_at "sz"; done)))
  | with_reducible apply w_lc
  | with_reducible apply w_for
  | with_reducible apply w_yes
  | ((with_reducible apply w_wipe); (focus (exact rfl)))
  | with_reducible apply w_iList
  | with_reducible apply w_iTup
  | with_reducible apply w_iStr
  | with_reducible apply w_iRng1
  | with_reducible apply w_iRng2
  | with_reducible apply w_iZip
  | with_reducible apply w_iEnum
  | ((with_reducible apply d_iList); (focus (walk_at "sq"; done)))
  | ((with_reducible apply d_iTup); (focus (walk_at "hp"; done)))
  | with_reducible apply d_iStr
  | ((with_reducible apply d_iRng1); (focus (walk_at "num"; done)); (focus (walk_at "num"; done)))
  | ((with_reducible apply d_iRng2); (focus (walk_at "num"; done)); (focus (walk_at "num"; done)); (focus (walk_at "num"; done)); (focus (walk_at "num"; done)))
  | ((with_reducible apply d_iZip); (focus (walk_at "sq"; done)); (focus (walk_at "sq"; done)))
  | ((with_reducible apply d_iEnum); (focus (walk_at "sq"; done)))
  | walk_at "w2")
local macro_rules | `(tactic| walk_at "w2") => `(tactic| fail)
local macro_rules | `(tactic| walk_at "wn") => `(tactic| repeat walk_at "w1")
local macro_rules | `(tactic| walk_at "w") => `(tactic| repeat (first | walk_at "w1" | with_reducible apply w_ret))

local macro_rules | `(tactic| walk_at "w2") => `(tactic| first
  | ((with_reducible apply w_isInt); (focus (walk_at "r"; done)))
  | ((with_reducible apply w_isBool); (focus (walk_at "r"; done)))
  | ((with_reducible apply w_isStr); (focus (walk_at "r"; done)))
  | ((with_reducible apply w_isTup); (focus (walk_at "r"; done)))
  | ((with_reducible apply w_isLst); (focus (walk_at "r"; done)))
  | with_reducible apply w_fld
  | with_reducible apply w_sfld
  | with_reducible apply w_faug
  | with_reducible apply w_rAdd
  | with_reducible apply w_rSub
  | with_reducible apply w_make
  | with_reducible apply w_orT
  | with_reducible apply w_dgetd
  | with_reducible apply w_dgetk
  | with_reducible apply w_dsetd
  | ((with_reducible apply k_dgetd); (focus (walk_at "hp"; done)))
  | ((with_reducible apply k_dsetd); (focus (walk_at "hp"; done)))
  | walk_at "w3")
local macro_rules | `(tactic| walk_at "w3") => `(tactic| fail)

local macro_rules | `(tactic| walk_at "w3") => `(tactic| first
  | ((with_reducible apply g_Frame_number); (focus (assumption; done)); (focus (walk_at "hp"; done)))
  | ((with_reducible apply u_Frame_number); (focus (assumption; done)); (focus (walk_at "hp"; done)))
  | ((with_reducible apply g_Frame_path); (focus (assumption; done)); (focus (walk_at "hp"; done)))
  | ((with_reducible apply u_Frame_path); (focus (assumption; done)); (focus (walk_at "hp"; done)))
  | ((with_reducible apply g_Frame_rows); (focus (assumption; done)); (focus (walk_at "hp"; done)))
  | ((with_reducible apply u_Frame_rows); (focus (assumption; done)); (focus (walk_at "hp"; done)))
  | ((with_reducible apply g_Frame_arg); (focus (assumption; done)); (focus (walk_at "hp"; done)))
  | ((with_reducible apply u_Frame_arg); (focus (assumption; done)); (focus (walk_at "hp"; done)))
  | ((with_reducible apply g_Frame_at); (focus (assumption; done)); (focus (walk_at "hp"; done)))
  | ((with_reducible apply u_Frame_at); (focus (assumption; done)); (focus (walk_at "hp"; done)))
  | ((with_reducible apply g_Frame_past); (focus (assumption; done)); (focus (walk_at "hp"; done)))
  | ((with_reducible apply u_Frame_past); (focus (assumption; done)); (focus (walk_at "hp"; done)))
  | ((with_reducible apply g_Frame_born); (focus (assumption; done)); (focus (walk_at "hp"; done)))
  | ((with_reducible apply u_Frame_born); (focus (assumption; done)); (focus (walk_at "hp"; done)))
  | ((with_reducible apply g_Record_mark); (focus (assumption; done)); (focus (walk_at "hp"; done)))
  | ((with_reducible apply u_Record_mark); (focus (assumption; done)); (focus (walk_at "hp"; done)))
  | ((with_reducible apply g_Record_word); (focus (assumption; done)); (focus (walk_at "hp"; done)))
  | ((with_reducible apply u_Record_word); (focus (assumption; done)); (focus (walk_at "hp"; done)))
  | ((with_reducible apply g_Record_doer); (focus (assumption; done)); (focus (walk_at "hp"; done)))
  | ((with_reducible apply u_Record_doer); (focus (assumption; done)); (focus (walk_at "hp"; done)))
  | ((with_reducible apply g_Record_child); (focus (assumption; done)); (focus (walk_at "hp"; done)))
  | ((with_reducible apply u_Record_child); (focus (assumption; done)); (focus (walk_at "hp"; done)))
  | ((with_reducible apply g_Record_reads); (focus (assumption; done)); (focus (walk_at "hp"; done)))
  | ((with_reducible apply u_Record_reads); (focus (assumption; done)); (focus (walk_at "hp"; done)))
  | ((with_reducible apply g_Record_writes); (focus (assumption; done)); (focus (walk_at "hp"; done)))
  | ((with_reducible apply u_Record_writes); (focus (assumption; done)); (focus (walk_at "hp"; done)))
  | ((with_reducible apply g_Outcome_cells); (focus (assumption; done)); (focus (walk_at "hp"; done)))
  | ((with_reducible apply u_Outcome_cells); (focus (assumption; done)); (focus (walk_at "hp"; done)))
  | ((with_reducible apply g_Outcome_given); (focus (assumption; done)); (focus (walk_at "hp"; done)))
  | ((with_reducible apply u_Outcome_given); (focus (assumption; done)); (focus (walk_at "hp"; done)))
  | ((with_reducible apply g_Outcome_steps); (focus (assumption; done)); (focus (walk_at "hp"; done)))
  | ((with_reducible apply u_Outcome_steps); (focus (assumption; done)); (focus (walk_at "hp"; done)))
  | ((with_reducible apply g_Outcome_deepest); (focus (assumption; done)); (focus (walk_at "hp"; done)))
  | ((with_reducible apply u_Outcome_deepest); (focus (assumption; done)); (focus (walk_at "hp"; done))))
def mmK (most : Nat) : Nat := if most = 0 then 2000 else most
def sp__law_most_told (K : PySem.W.Frag) : Sp := fun vs H Q _ => ∃ (a : Addr) (p : Prg) (g : Int) (most : Nat) (S : Addr → Prop), vs = [.ref a, .int g, .int (most : Nat)] ∧ R S H (.ref a) (prgD p) ∧ PrgOk p ∧ ("main" : Str) ∈ p.map (·.1) ∧ most ≤ 5000 ∧ (∀ m, p.ran "main" g [] (mmK most : Int) = some m → m.given.length < 64) ∧
  (∀ m, p.ran "main" g [] (mmK most : Int) = some m → ∀ (D : Addr) (H' : Hp), Chg [] H H' → H' D = some (.lst [.int (m.recs.length : Nat), .int (m.deep : Nat)]) → Q (.ref D) H') ∧
  (p.ran "main" g [] (mmK most : Int) = none → ∀ (D : Addr) (H' : Hp), Chg [] H H' → H' D = some (.lst [.str "long", .int (mmK most : Nat)]) → Q (.ref D) H')
def t__law_most_told_3 (K : PySem.W.Frag) : TS :=
    tSeq (tIfS (tTest (tOp oIsN (tVar 3) (tC .non))) (tRet (tLst (tCons (tC (.str "long")) (tCons (tVar 4) (tNil))))) (tNext))
    (tRet (tLst (tCons (tCB (cLenI (He.ga K "Outcome") (sp_Outcome___len__ K)) (tCons (tVar 3) (tNil))) (tCons (tFld K (tVar 3) "deepest") (tNil)))))
theorem told_some {K : PySem.W.Frag} (CF : CFs K) {Hb H : Hp} {Q : VK} {o : Addr} {m : Mc} {a0 a1 a2 : Option V} {cds : List PyData} {gv : Given} (oa : OutAt K Hb H o cds gv (markDs m) (.int (m.deep : Nat))) (lm : m.recs.length < 2 ^ 60) (q : ∀ (D : Addr) (H' : Hp), Chg [] H H' → H' D = some (.lst [.int (m.recs.length : Nat), .int (m.deep : Nat)]) → Q (.ref D) H') :
    t__law_most_told_3 K (fin Q) [a0, a1, a2, some (.ref o), some .non, none] H := by
  unfold t__law_most_told_3
  have oc := CF.oc
  obtain ⟨dx, ocl, ogl, osl, ho, r1, r2, r3⟩ := oa
  cases r3 with
  | @lst _ sxs _ ss hs rs =>
  have lsx : sxs.length = m.recs.length := by rw [rs.length]; exact List.length_map _
  walk_at "w"
  refine w_lenI (C := He.ga K "Outcome") (dx := dx) (fs := _) ho ⟨o, dx, osl, _, _, _, sxs, rfl, ho, hs, m.recs.length, by rw [lsx], lm, ?_⟩
  walk_at "w"
  refine k_lst (by walk_at "sz") fun D H1 nD c1 hD => ?_
  exact q D H1 c1 hD
theorem told_none {K : PySem.W.Frag} {H : Hp} {Q : VK} {n : Nat} {a0 a1 a2 : Option V} (q : ∀ (D : Addr) (H' : Hp), Chg [] H H' → H' D = some (.lst [.str "long", .int (n : Nat)]) → Q (.ref D) H') :
    t__law_most_told_3 K (fin Q) [a0, a1, a2, some .non, some (.int (n : Nat)), none] H := by
  unfold t__law_most_told_3
  walk_at "w"
  refine k_lst (by walk_at "sz") fun D H1 nD c1 hD => ?_
  exact q D H1 c1 hD
theorem ran_len {p : Prg} {most : Int} : ∀ (n : Nat) (m m' : Mc), Mc.go p most n m = some m' → (m.recs.length : Int) ≤ max most (m.recs.length : Int) → (m'.recs.length : Int) ≤ max most (m.recs.length : Int)
  | 0, m, m', h, h0 => by
    have : m = m' := Option.some.inj h
    rw [← this]
    exact h0
  | n + 1, m, m', h, h0 => by
    rw [Mc.go] at h
    split at h
    · have : m = m' := Option.some.inj h
      rw [← this]
      exact h0
    · next f r hs =>
      split at h
      · exact ran_len (p := p) n { m with stack := r } m' h h0
      · next s hr =>
        split at h
        · cases h
        · next hl =>
          have l : (m.did p f r s).recs.length = m.recs.length + 1 := by
            unfold Mc.did
            split
            · show (m.recs ++ [_]).length = _
              rw [List.length_append, List.length_singleton]
            · show (m.recs ++ [_]).length = _
              rw [List.length_append, List.length_singleton]
          have := ran_len n _ m' h (by omega)
          omega
def t__law_most_told (K : PySem.W.Frag) : TS :=
    tSeq (tAsg (tC .non) (gName 3))
    (tSeq (tAsg (tC .non) (gName 4))
    (tSeq (tTryH K (.ref (He.ga K "TooLong")) 5 (fun W => tIfS (tTest (tOp rEq (tVar 2) (tC (.int 0)))) (tAsg (tCallSD (sp_run K) [.non, .int 2000] (WE (W)) (tCons (tVar 0) (tCons (tC (.str "main")) (tCons (tVar 1) (tNil))))) (gName 3)) (tAsg (tCallSD (sp_run K) [] (WE (W)) (tCons (tVar 0) (tCons (tC (.str "main")) (tCons (tVar 1) (tCons (tC .non) (tCons (tVar 2) (tNil))))))) (gName 3))) (fun a cls d => tAsg (tXf a cls d (He.ga K "TooLong") "most" (tVar 5)) (gName 4)) (fun _ _ _ _ => False))
    (tSeq (tIfS (tTest (tOp oIsN (tVar 3) (tC .non))) (tRet (tLst (tCons (tC (.str "long")) (tCons (tVar 4) (tNil))))) (tNext))
    (tRet (tLst (tCons (tCB (cLenI (He.ga K "Outcome") (sp_Outcome___len__ K)) (tCons (tVar 3) (tNil))) (tCons (tFld K (tVar 3) "deepest") (tNil))))))))
theorem pure__law_most_told {K : PySem.W.Frag} (XT : XTl K) (CF : CFs K) (vs : List V) (H : Hp) (Q : VK) (E : XK) (h : sp__law_most_told K vs H Q E) : t__law_most_told K (fin Q) (start ["program", "arg", "most", "found", "field", "e"] vs) H := by
  obtain ⟨a, p, g, most, S, rfl, rP, okP, hnm, lm, few, q1, q2⟩ := h
  show (tSeq _ (tSeq _ (tSeq _ (t__law_most_told_3 K)))) (fin Q) [some (.ref a), some (.int g), some (.int (most : Nat)), none, none, none] H
  have lmm : mmK most ≤ 5000 := by unfold mmK; split <;> omega
  have rl : ∀ m, p.ran "main" g [] (mmK most : Int) = some m → m.recs.length < 2 ^ 60 := fun m e => by
    unfold Prg.ran at e
    have := ran_len _ _ m e (by show (0 : Int) ≤ _; omega)
    have e0 : (Mc.start p "main" g (cStart [])).recs.length = 0 := rfl
    rw [e0] at this
    have : (m.recs.length : Int) ≤ 5000 := by omega
    omega
  walk_at "w"
  refine w_tryH ?_
  walk_at "w"
  have hS : ∀ (m : Mc), p.ran "main" g [] (mmK most : Int) = some m → ∀ (o : Addr) (H1 : Hp), Chg [] H H1 → OutAt K H H1 o ((notN m.cells).map pairD) (srtG m.given) (markDs m) (.int (m.deep : Nat)) → t__law_most_told_3 K (fin Q) [some (.ref a), some (.int g), some (.int (most : Nat)), some (.ref o), some .non, none] H1 := fun m e o H1 c1 oa => told_some CF oa (rl m e) fun D H' c' hD => q1 m e D H' (c1.same c') hD
  have hN : p.ran "main" g [] (mmK most : Int) = none → ∀ (dd : Addr) (H1 : Hp), Chg [] H H1 → H1 dd = some (.xd (xfs ["most"] [.int ((mmK most : Nat) : Int)] [])) →
      wHold K (.ref (He.ga K "TooLong")) 5 (fun a cls d => tAsg (tXf a cls d (He.ga K "TooLong") "most" (tVar 5)) (gName 4)) (fun _ _ _ _ => False) ⟨t__law_most_told_3 K (fin Q), (fin Q).rt, fun _ _ => False, fun _ _ => False⟩ (.ref (He.ga K "TooLong")) (some dd) [some (.ref a), some (.int g), some (.int (most : Nat)), some .non, some .non, none] H1 := fun en dd H1 c1 h1 => by
    refine ⟨true, XT.exm, fun _ ea na => ?_, fun z => by cases z⟩
    walk_at "w"
    refine w_xf rfl rfl rfl h1 rfl ?_
    walk_at "w"
    intro _
    have c2 : Chg [] H1 (upd H1 ea (ExH (.ref (He.ga K "TooLong")) (some dd) ea)) := .new na
    generalize upd H1 ea (ExH (.ref (He.ga K "TooLong")) (some dd) ea) = H2 at c2 ⊢
    show t__law_most_told_3 K (fin Q) [some (.ref a), some (.int g), some (.int (most : Nat)), some .non, some (.int ((mmK most : Nat) : Int)), none] H2
    exact told_none fun D H' c' hD => q2 en D H' ((c1.same c2).same c') hD
  refine w_iteD (fun h0 => ?_) (fun h0 => ?_)
  · have h0' : most = 0 := by have := V.int.inj h0; omega
    have em : mmK most = 2000 := by unfold mmK; rw [if_pos h0']
    walk_at "w"
    refine w_callX ?_
    walk_at "w"
    refine ⟨a, p, "main", g, .non, [], 2000, S, rfl, rP, okP, hnm, .inl ⟨rfl, rfl⟩, by decide, by decide, fun m e => few m (by rw [em]; exact e), fun m e o H1 no c1 oa => hS m (by rw [em]; exact e) o H1 c1 oa, fun e dd H1 c1 h1 => hN (by rw [em]; exact e) dd H1 c1 (by rw [em]; exact h1)⟩
  · have h0' : ¬ most = 0 := fun z => h0 (by rw [z]; rfl)
    have em : mmK most = most := by unfold mmK; rw [if_neg h0']
    walk_at "w"
    refine w_callX ?_
    walk_at "w"
    refine ⟨a, p, "main", g, .non, [], (most : Int), S, rfl, rP, okP, hnm, .inl ⟨rfl, rfl⟩, by decide, by omega, fun m e => few m (by rw [em]; exact e), fun m e o H1 no c1 oa => hS m (by rw [em]; exact e) o H1 c1 oa, fun e dd H1 c1 h1 => hN (by rw [em]; exact e) dd H1 c1 (by rw [em]; exact h1)⟩
end Fg
--LAW k13
namespace Fg
open PySem PySem.Spec PyProof.Rows L2
/-! ### the walk's small steps -/
local macro_rules | `(tactic| walk_at "hp") => `(tactic| first
  | assumption
  | exact upd_same
  | (refine Chg.at (by assumption) ?_; walk_at "hp")
  | (refine Chg.at1 (by assumption) ?_ (by walk_at "ne"); walk_at "hp"))
local macro_rules | `(tactic| walk_at "ne") => `(tactic| first | assumption | (apply Ne.symm; assumption))
local macro_rules | `(tactic| walk_at "sq") => `(tactic| first | assumption | exact sqL (by walk_at "hp") | (refine Chg.seq (by assumption) ?_; walk_at "sq"))
local macro_rules | `(tactic| walk_at "sz") => `(tactic| first | assumption | exact Nat.zero_le _ | (simp only [List.length_cons, List.length_nil]; decide) | exact Nat.le_trans (by first | omega | (simp; done) | (simp; omega)) (show 100000 ≤ sizeLine by decide) | exact Nat.lt_of_lt_of_le (by first | omega | (simp; done) | (simp; omega)) (show 100000 ≤ sizeLine by decide))
local macro_rules | `(tactic| walk_at "ix") => `(tactic| first | exact at0 | exact at1 | exact at2 | exact at3 | assumption | exact rfl | walk_at "ix2")
local macro_rules | `(tactic| walk_at "ix2") => `(tactic| fail)
local macro_rules | `(tactic| walk_at "num") => `(tactic| first | assumption | omega | decide | walk_at "num2")
local macro_rules | `(tactic| walk_at "num2") => `(tactic| fail)
local macro_rules | `(tactic| walk_at "im") => `(tactic| first | assumption | exact R.non (S := fun _ => False) | exact R.bl (S := fun _ => False) _ | exact R.int (S := fun _ => False) _ | exact R.str (S := fun _ => False) _ | (refine R.im (by assumption) ?_; walk_at "im"))
local macro_rules | `(tactic| walk_at "r") => `(tactic| first | assumption | exact R.non (S := fun _ => False) | exact R.bl (S := fun _ => False) _ | exact R.int (S := fun _ => False) _ | exact R.str (S := fun _ => False) _ | (refine R.same (by assumption) ?_; walk_at "r") | exact R.any (by walk_at "im"))
local macro_rules | `(tactic| walk_at "chg") => `(tactic| first
  | exact Chg.refl
  | assumption
  | (refine Chg.same ?_ (by assumption); walk_at "chg")
  | (refine Chg.both ?_ (by assumption); walk_at "chg")
  | (refine Chg.pre (by assumption) ?_; walk_at "chg"))
local macro_rules | `(tactic| walk_at "w1") => `(tactic| first
  | with_reducible apply w_seq
  | with_reducible apply w_asg
  | ((with_reducible apply w_var); (focus (exact rfl)))
  | with_reducible apply w_c
  | with_reducible apply w_op
  | with_reducible apply w_cons
  | with_reducible apply w_nil
  | with_reducible apply w_gName
  | with_reducible apply w_if
  | with_reducible apply w_test
  | with_reducible apply w_B
  | with_reducible apply w_isbl
  | with_reducible apply w_retN
  | with_reducible apply w_next
  | with_reducible apply w_drop
  | with_reducible apply w_cb
  | with_reducible apply w_call
  | with_reducible apply w_callN
  | with_reducible apply w_bm
  | with_reducible apply w_bm0
  | ((with_reducible apply w_tyL); (focus (walk_at "hp"; done)))
  | with_reducible apply w_dput
  | with_reducible apply w_m1
  | with_reducible apply w_isstr
  | with_reducible apply w_and
  | with_reducible apply w_or
  | with_reducible apply w_not
  | with_reducible apply w_andV
  | with_reducible apply w_orV
  | with_reducible apply w_notV
  | with_reducible apply w_ifE
  | with_reducible apply w_chain
  | with_reducible apply w_un
  | with_reducible apply w_neg
  | with_reducible apply w_add
  | with_reducible apply w_sub
  | ((with_reducible apply w_mod); (focus (walk_at "num"; done)))
  | ((with_reducible apply w_mul); (focus (walk_at "num"; done)))
  | ((with_reducible apply w_fdiv); (focus (walk_at "num"; done)))
  | ((with_reducible apply w_pow); (focus (walk_at "num"; done)))
  | with_reducible apply w_lt
  | with_reducible apply w_le
  | with_reducible apply w_gt
  | with_reducible apply w_ge
  | with_reducible apply w_ltS
  | with_reducible apply w_geS
  | with_reducible apply w_inC
  | with_reducible apply w_notInC
  | with_reducible apply w_isN
  | with_reducible apply w_notN
  | with_reducible apply w_isB
  | with_reducible apply w_notB
  | ((with_reducible apply w_addS); (focus (walk_at "sz"; done)))
  | ((with_reducible apply w_ixL); (focus (walk_at "sq"; done)); (focus (walk_at "ix"; done)))
  | ((with_reducible apply w_ixT); (focus (walk_at "hp"; done)); (focus (walk_at "ix"; done)))
  | ((with_reducible apply w_ixS); (focus (walk_at "sz"; done)); (focus (walk_at "ix"; done)))
  | with_reducible apply w_gSub
  | ((with_reducible apply w_gTup); (focus (walk_at "hp"; done)); (focus (exact rfl)))
  | with_reducible apply w_gCons
  | with_reducible apply w_gNil
  | ((with_reducible apply w_aug); (focus (exact rfl)))
  | with_reducible apply w_ipI
  | ((with_reducible apply w_eq); (focus (exact rfl)))
  | ((with_reducible apply w_ne); (focus (exact rfl)))
  | with_reducible apply w_max
  | with_reducible apply w_min
  | with_reducible apply w_abs
  | with_reducible apply w_intB
  | with_reducible apply w_intI
  | with_reducible apply w_tup1
  | with_reducible apply w_lst1
  | with_reducible apply w_sl
  | with_reducible apply w_part
  | with_reducible apply w_noPart
  | with_reducible apply w_isint
  | ((with_reducible apply w_slS); (focus (walk_at "sz"; done)))
  | with_reducible apply w_iteT
  | with_reducible apply w_iteF
  | with_reducible apply w_iteN
  | ((with_reducible apply w_iteYes); (focus (exact rfl)))
  | ((with_reducible apply w_iteNo); (focus (exact rfl)))
  | ((with_reducible apply w_lenL); (focus (walk_at "sq"; done)))
  | ((with_reducible apply w_lenT); (focus (walk_at "hp"; done)))
  | ((with_reducible apply w_lenS); (focus (walk_at "sz"; done)))
  | with_reducible apply w_lc
  | with_reducible apply w_for
  | with_reducible apply w_yes
  | ((with_reducible apply w_wipe); (focus (exact rfl)))
  | with_reducible apply w_iList
  | with_reducible apply w_iTup
  | with_reducible apply w_iStr
  | with_reducible apply w_iRng1
  | with_reducible apply w_iRng2
  | with_reducible apply w_iZip
  | with_reducible apply w_iEnum
  | ((with_reducible apply d_iList); (focus (walk_at "sq"; done)))
  | ((with_reducible apply d_iTup); (focus (walk_at "hp"; done)))
  | with_reducible apply d_iStr
  | ((with_reducible apply d_iRng1); (focus (walk_at "num"; done)); (focus (walk_at "num"; done)))
  | ((with_reducible apply d_iRng2); (focus (walk_at "num"; done)); (focus (walk_at "num"; done)); (focus (walk_at "num"; done)); (focus (walk_at "num"; done)))
  | ((with_reducible apply d_iZip); (focus (walk_at "sq"; done)); (focus (walk_at "sq"; done)))
  | ((with_reducible apply d_iEnum); (focus (walk_at "sq"; done)))
  | walk_at "w2")
local macro_rules | `(tactic| walk_at "w2") => `(tactic| fail)
local macro_rules | `(tactic| walk_at "wn") => `(tactic| repeat walk_at "w1")
local macro_rules | `(tactic| walk_at "w") => `(tactic| repeat (first | walk_at "w1" | with_reducible apply w_ret))

local macro_rules | `(tactic| walk_at "w2") => `(tactic| first
  | ((with_reducible apply w_isInt); (focus (walk_at "r"; done)))
  | ((with_reducible apply w_isBool); (focus (walk_at "r"; done)))
  | ((with_reducible apply w_isStr); (focus (walk_at "r"; done)))
  | ((with_reducible apply w_isTup); (focus (walk_at "r"; done)))
  | ((with_reducible apply w_isLst); (focus (walk_at "r"; done)))
  | with_reducible apply w_fld
  | with_reducible apply w_sfld
  | with_reducible apply w_faug
  | with_reducible apply w_rAdd
  | with_reducible apply w_rSub
  | with_reducible apply w_make
  | with_reducible apply w_orT
  | with_reducible apply w_dgetd
  | with_reducible apply w_dgetk
  | with_reducible apply w_dsetd
  | ((with_reducible apply k_dgetd); (focus (walk_at "hp"; done)))
  | ((with_reducible apply k_dsetd); (focus (walk_at "hp"; done)))
  | walk_at "w3")
local macro_rules | `(tactic| walk_at "w3") => `(tactic| fail)

local macro_rules | `(tactic| walk_at "w3") => `(tactic| first
  | ((with_reducible apply g_Frame_number); (focus (assumption; done)); (focus (walk_at "hp"; done)))
  | ((with_reducible apply u_Frame_number); (focus (assumption; done)); (focus (walk_at "hp"; done)))
  | ((with_reducible apply g_Frame_path); (focus (assumption; done)); (focus (walk_at "hp"; done)))
  | ((with_reducible apply u_Frame_path); (focus (assumption; done)); (focus (walk_at "hp"; done)))
  | ((with_reducible apply g_Frame_rows); (focus (assumption; done)); (focus (walk_at "hp"; done)))
  | ((with_reducible apply u_Frame_rows); (focus (assumption; done)); (focus (walk_at "hp"; done)))
  | ((with_reducible apply g_Frame_arg); (focus (assumption; done)); (focus (walk_at "hp"; done)))
  | ((with_reducible apply u_Frame_arg); (focus (assumption; done)); (focus (walk_at "hp"; done)))
  | ((with_reducible apply g_Frame_at); (focus (assumption; done)); (focus (walk_at "hp"; done)))
  | ((with_reducible apply u_Frame_at); (focus (assumption; done)); (focus (walk_at "hp"; done)))
  | ((with_reducible apply g_Frame_past); (focus (assumption; done)); (focus (walk_at "hp"; done)))
  | ((with_reducible apply u_Frame_past); (focus (assumption; done)); (focus (walk_at "hp"; done)))
  | ((with_reducible apply g_Frame_born); (focus (assumption; done)); (focus (walk_at "hp"; done)))
  | ((with_reducible apply u_Frame_born); (focus (assumption; done)); (focus (walk_at "hp"; done)))
  | ((with_reducible apply g_Record_mark); (focus (assumption; done)); (focus (walk_at "hp"; done)))
  | ((with_reducible apply u_Record_mark); (focus (assumption; done)); (focus (walk_at "hp"; done)))
  | ((with_reducible apply g_Record_word); (focus (assumption; done)); (focus (walk_at "hp"; done)))
  | ((with_reducible apply u_Record_word); (focus (assumption; done)); (focus (walk_at "hp"; done)))
  | ((with_reducible apply g_Record_doer); (focus (assumption; done)); (focus (walk_at "hp"; done)))
  | ((with_reducible apply u_Record_doer); (focus (assumption; done)); (focus (walk_at "hp"; done)))
  | ((with_reducible apply g_Record_child); (focus (assumption; done)); (focus (walk_at "hp"; done)))
  | ((with_reducible apply u_Record_child); (focus (assumption; done)); (focus (walk_at "hp"; done)))
  | ((with_reducible apply g_Record_reads); (focus (assumption; done)); (focus (walk_at "hp"; done)))
  | ((with_reducible apply u_Record_reads); (focus (assumption; done)); (focus (walk_at "hp"; done)))
  | ((with_reducible apply g_Record_writes); (focus (assumption; done)); (focus (walk_at "hp"; done)))
  | ((with_reducible apply u_Record_writes); (focus (assumption; done)); (focus (walk_at "hp"; done)))
  | ((with_reducible apply g_Outcome_cells); (focus (assumption; done)); (focus (walk_at "hp"; done)))
  | ((with_reducible apply u_Outcome_cells); (focus (assumption; done)); (focus (walk_at "hp"; done)))
  | ((with_reducible apply g_Outcome_given); (focus (assumption; done)); (focus (walk_at "hp"; done)))
  | ((with_reducible apply u_Outcome_given); (focus (assumption; done)); (focus (walk_at "hp"; done)))
  | ((with_reducible apply g_Outcome_steps); (focus (assumption; done)); (focus (walk_at "hp"; done)))
  | ((with_reducible apply u_Outcome_steps); (focus (assumption; done)); (focus (walk_at "hp"; done)))
  | ((with_reducible apply g_Outcome_deepest); (focus (assumption; done)); (focus (walk_at "hp"; done)))
  | ((with_reducible apply u_Outcome_deepest); (focus (assumption; done)); (focus (walk_at "hp"; done))))
theorem w_repK {H : Hp} {Q : VK} {p : Addr} {v : V} {k : Int} (h : H p = some (.lst [v])) (h0 : 0 ≤ k) (h1 : k < 1000) (q : ∀ p' H2, H p' = none → Chg [] H H2 → H2 p' = some (.lst (List.replicate k.toNat v)) → Q (.ref p') H2) : rRep (.ref p) (.int k) H Q := by
  have fl : ∀ n : Nat, (List.replicate n [v]).flatten = List.replicate n v := fun n => by
    induction n with
    | zero => rfl
    | succ n ih => rw [List.replicate_succ, List.replicate_succ, List.flatten_cons, ih]; rfl
  refine ⟨p, k, [v], rfl, rfl, h, by omega, by omega, ?_, fun p' np => q p' _ np (.new np) (by rw [upd_same, fl])⟩
  have : [v].length * k.toNat ≤ 1 * 1000 := Nat.mul_le_mul (Nat.le_refl _) (by omega)
  exact Nat.le_trans this (by decide)
theorem ima_rep {H : Hp} {v : V} {d : PyData} (h : Im H v d) : ∀ n : Nat, ImA H (List.replicate n v) (List.replicate n d)
  | 0 => .nil
  | n + 1 => .cons h (ima_rep h n)
theorem stepsOk_any {ms : List Str} : ∀ {ss : List Stp}, (∀ s ∈ ss, ∀ i : Int, 0 ≤ i → s.ok ms i) → stepsOk ms ss
  | [], _ => trivial
  | s :: r, h => ⟨h s (by simp) _ (Int.natCast_nonneg _), stepsOk_any fun t ht => h t (List.mem_cons_of_mem _ ht)⟩
theorem main_low : nameS "main" = true := by decide +kernel
/-! ### without end -/
def sp__law_without_end (K : PySem.W.Frag) : Sp := fun vs H Q _ => ∃ (b : Addr) (k : Nat), vs = [.ref b] ∧ Well H b k ∧ 10 ≤ k ∧ ∀ H', Q (.bl true) H'
def t__law_without_end_3 (K : PySem.W.Frag) : TS :=
    tSeq (tAsg (tOp (rIxL K) (tLst (tCons (tC (.int 0)) (tCons (tC (.int 0)) (tCons (tOp oAdd (tC (.int 1)) (tCall sp__law_draw [] E0 (tCons (tVar 0) (tCons (tC (.int 2000)) (tNil))))) (tCons (tOp oAdd (tC (.int 2000)) (tCall sp__law_draw [] E0 (tCons (tVar 0) (tCons (tC (.int 200)) (tNil))))) (tNil)))))) (tCall sp__law_draw [] E0 (tCons (tVar 0) (tCons (tC (.int 4)) (tNil))))) (gName 3))
    (tRet (tOp oEqD (tCall (sp__law_most_told K) [] E0 (tCons (tLst (tCons (tTup (tCons (tC (.str "main")) (tCons (tVar 2) (tNil)))) (tNil))) (tCons (tC (.int 7)) (tCons (tVar 3) (tNil))))) (tLst (tCons (tC (.str "long")) (tCons (tOp oAdd (tVar 3) (tOp oMul (tC (.int 2000)) (tCB cInt (tCons (tOp rEq (tVar 3) (tC (.int 0))) (tNil))))) (tNil))))))
theorem end_3 {K : PySem.W.Frag} {H : Hp} {Q : VK} {b rl : Addr} {W : Str → Ex → Stp} {na nb k : Nat} {zs : List V} {a1 : Option V} (hW : FC W) (bag : Well H b k) (hk : 5 ≤ k) (rlb : rl ≠ b) (l1 : na ≤ 3) (l2 : nb ≤ 3) (hrl : H rl = some (.lst zs)) (izs : ImA H zs ((List.replicate na Stp.wait ++ W "main" (.add .arg (.num 1)) :: List.replicate nb (Stp.give "all" .arg)).map Stp.data)) (q : ∀ H', Q (.bl true) H') :
    t__law_without_end_3 K (fin Q) [some (.ref b), a1, some (.ref rl), none] H := by
  unfold t__law_without_end_3
  generalize hss : (List.replicate na Stp.wait ++ W "main" (.add .arg (.num 1)) :: List.replicate nb (Stp.give "all" .arg) : List Stp) = ss at izs
  have okS : stepsOk ["main"] ss := stepsOk_any fun s hs i hi => by
    rw [← hss] at hs
    rcases List.mem_append.mp hs with hs | hs
    · rw [(List.mem_replicate.mp hs).2]; trivial
    · rcases List.mem_cons.mp hs with rfl | hs
      · exact hW.ok main_low (by simp) (by decide)
      · rw [(List.mem_replicate.mp hs).2]; exact ⟨all_low, by show 1 ≤ 5; decide⟩
  have lss : ss.length ≤ 100 := by
    rw [← hss, List.length_append, List.length_cons, List.length_replicate, List.length_replicate]
    omega
  have okP : PrgOk [("main", ss)] := prg_one main_low okS lss
  walk_at "w"
  refine u_draw bag (by omega) (by decide) (by decide) fun u1 H1 c1 bag1 u10 u11 => ?_
  walk_at "w"
  refine u_draw bag1 (by omega) (by decide) (by decide) fun u2 H2 c2 bag2 u20 u21 => ?_
  walk_at "w"
  refine k_lst (by walk_at "sz") fun ml H3 nml c3 hml => ?_
  have mlb : ml ≠ b := (bag2.ne nml).symm
  walk_at "w"
  refine u_draw (bag2.same c3) (by omega) (by decide) (by decide) fun u3 H4 c4 bag4 u30 u31 => ?_
  obtain ⟨mv, emv, hmv⟩ := atD (xs := [V.int 0, V.int 0, V.int (1 + u1), V.int (2000 + u2)]) u30 u31
  refine w_ixL (sqL (c4.at1 hml mlb)) emv ?_
  obtain ⟨most, rfl, most5⟩ : ∃ most : Nat, mv = .int (most : Nat) ∧ most ≤ 4000 := by
    simp only [List.mem_cons, List.not_mem_nil, or_false] at hmv
    rcases hmv with rfl | rfl | rfl | rfl
    · exact ⟨0, rfl, by decide⟩
    · exact ⟨0, rfl, by decide⟩
    · exact ⟨(1 + u1).toNat, by rw [Int.toNat_of_nonneg (by omega)], by omega⟩
    · exact ⟨(2000 + u2).toNat, by rw [Int.toNat_of_nonneg (by omega)], by omega⟩
  have c04 : Chg [b] H H4 := ((c1.both c2).same c3).both c4
  have hrl4 := c04.at1 hrl rlb
  have izs4 := izs.im c04
  walk_at "w"
  refine k_tup (by walk_at "sz") fun T1 H5 nT1 c5 hT1 => ?_
  walk_at "w"
  refine k_lst (by walk_at "sz") fun pl H6 npl c6 hpl => ?_
  have c46 := c5.same c6
  have rP : R (fun _ => True) H6 (.ref pl) (prgD [("main", ss)]) := .lst trivial hpl (.cons (.tup (c6.at hT1) (.cons (.str _) (.cons (.lst trivial (c46.at hrl4) (izs4.im c46).any) .nil))) .nil)
  have en : Prg.ran [("main", ss)] "main" 7 [] (mmK most : Int) = none := by
    refine ran_long ?_
    exact endless hW (a := na) (rest := List.replicate nb (Stp.give "all" .arg)) (by rw [rows_single, hss]) (mmK most) 0 0 0 0 0 [] 7 _ (Nat.zero_le _) (Nat.sub_le _ _)
  walk_at "w"
  refine ⟨pl, [("main", ss)], 7, most, _, rfl, rP, okP, by simp, by omega, (fun m e => by rw [en] at e; cases e), (fun m e => by rw [en] at e; cases e), fun _ D H7 c7 hD => ?_⟩
  walk_at "w"
  refine w_mul (cmulL (by decide) (by decide)) ?_
  refine w_add ?_
  walk_at "w"
  have ev : ((most : Nat) : Int) + 2000 * (if decide (V.int ((most : Nat) : Int) = V.int 0) = true then 1 else 0) = ((mmK most : Nat) : Int) := by
    unfold mmK
    by_cases h : most = 0
    · rw [if_pos h, if_pos (decide_eq_true (by rw [h]; rfl)), h]; rfl
    · rw [if_neg h, if_neg (by intro z; have := V.int.inj (of_decide_eq_true z); omega)]; omega
  rw [ev]
  refine k_lst (by walk_at "sz") fun D2 H8 nD2 c8 hD2 => ?_
  have rA : R (fun _ => True) H8 (.ref D) (.list [.str "long", .int ((mmK most : Nat) : Int)]) := .lst trivial (c8.at hD) (.cons (.str _) (.cons (.int _) .nil))
  have rB : R (fun _ => True) H8 (.ref D2) (.list [.str "long", .int ((mmK most : Nat) : Int)]) := .lst trivial hD2 (.cons (.str _) (.cons (.int _) .nil))
  refine w_eqD rA rB rfl rfl (by show min 1 1 ≤ 60; decide) ?_
  rw [eqv_self _ rfl]
  exact q H8
def t__law_without_end (K : PySem.W.Frag) : TS :=
    tSeq (tAsg (tOp (rIxL K) (tLst (tCons (tC (.str "call")) (tCons (tC (.str "fork")) (tNil)))) (tCall sp__law_draw [] E0 (tCons (tVar 0) (tCons (tC (.int 2)) (tNil))))) (gName 1))
    (tSeq (tAsg (tOp rCat (tOp rRep (tLst (tCons (tTup (tCons (tC (.str "wait")) (tNil))) (tNil))) (tCall sp__law_draw [] E0 (tCons (tVar 0) (tCons (tC (.int 3)) (tNil))))) (tLst (tCons (tTup (tCons (tVar 1) (tCons (tC (.str "main")) (tCons (tTup (tCons (tC (.str "add")) (tCons (tTup (tCons (tC (.str "arg")) (tNil))) (tCons (tC (.int 1)) (tNil))))) (tNil))))) (tNil)))) (gName 2))
    (tSeq (tAsg (tOp rCat (tVar 2) (tOp rRep (tLst (tCons (tTup (tCons (tC (.str "give")) (tCons (tC (.str "all")) (tCons (tTup (tCons (tC (.str "arg")) (tNil))) (tNil))))) (tNil))) (tOp (rIxL K) (tLst (tCons (tC (.int 0)) (tCons (tC (.int 1)) (tCons (tC (.int 2)) (tCons (tC (.int 1)) (tNil)))))) (tCall sp__law_draw [] E0 (tCons (tVar 0) (tCons (tC (.int 4)) (tNil))))))) (gName 2))
    (tSeq (tAsg (tOp (rIxL K) (tLst (tCons (tC (.int 0)) (tCons (tC (.int 0)) (tCons (tOp oAdd (tC (.int 1)) (tCall sp__law_draw [] E0 (tCons (tVar 0) (tCons (tC (.int 2000)) (tNil))))) (tCons (tOp oAdd (tC (.int 2000)) (tCall sp__law_draw [] E0 (tCons (tVar 0) (tCons (tC (.int 200)) (tNil))))) (tNil)))))) (tCall sp__law_draw [] E0 (tCons (tVar 0) (tCons (tC (.int 4)) (tNil))))) (gName 3))
    (tRet (tOp oEqD (tCall (sp__law_most_told K) [] E0 (tCons (tLst (tCons (tTup (tCons (tC (.str "main")) (tCons (tVar 2) (tNil)))) (tNil))) (tCons (tC (.int 7)) (tCons (tVar 3) (tNil))))) (tLst (tCons (tC (.str "long")) (tCons (tOp oAdd (tVar 3) (tOp oMul (tC (.int 2000)) (tCB cInt (tCons (tOp rEq (tVar 3) (tC (.int 0))) (tNil))))) (tNil)))))))))
theorem pure__law_without_end {K : PySem.W.Frag} (vs : List V) (H : Hp) (Q : VK) (E : XK) (h : sp__law_without_end K vs H Q E) : t__law_without_end K (fin Q) (start ["well", "word", "rows", "most"] vs) H := by
  obtain ⟨b, k, rfl, bag, hk, q⟩ := h
  show (tSeq _ (tSeq _ (tSeq _ (t__law_without_end_3 K)))) (fin Q) [some (.ref b), none, none, none] H
  walk_at "w"
  refine k_lst (by walk_at "sz") fun wl H1 nwl c1 hwl => ?_
  have wb : wl ≠ b := (bag.ne nwl).symm
  walk_at "w"
  refine u_draw (bag.same c1) (by omega) (by decide) (by decide) fun u H2 c2 bag2 u0 u1 => ?_
  obtain ⟨y, ey, hy⟩ := atD (xs := [V.str "call", V.str "fork"]) u0 u1
  refine w_ixL (sqL (c2.at1 hwl wb)) ey ?_
  obtain ⟨wd, W, rfl, hW, hWd⟩ : ∃ (wd : Str) (W : Str → Ex → Stp), y = .str wd ∧ FC W ∧ ∀ x a, (W x a).data = .tuple [.str wd, .str x, a.data] := by
    simp only [List.mem_cons, List.not_mem_nil, or_false] at hy
    rcases hy with rfl | rfl
    · exact ⟨_, .call, rfl, .call, fun _ _ => rfl⟩
    · exact ⟨_, .fork, rfl, .fork, fun _ _ => rfl⟩
  walk_at "w"
  refine k_tup (by walk_at "sz") fun T1 H3 nT1 c3 hT1 => ?_
  walk_at "w"
  refine k_lst (by walk_at "sz") fun l1 H4 nl1 c4 hl1 => ?_
  have bag4 := (bag2.same c3).same c4
  have l1b : l1 ≠ b := ((bag2.same c3).ne nl1).symm
  walk_at "w"
  refine u_draw bag4 (by omega) (by decide) (by decide) fun u2 H5 c5 bag5 u20 u21 => ?_
  refine w_repK (c5.at1 hl1 l1b) u20 (by omega) fun r1 H6 nr1 c6 hr1 => ?_
  have hT6 := c6.at (c5.tup _ _ (c4.at hT1))
  walk_at "w"
  refine k_tup (by walk_at "sz") fun A1 H7 nA1 c7 hA1 => ?_
  walk_at "w"
  refine k_tup (by walk_at "sz") fun A2 H8 nA2 c8 hA2 => ?_
  walk_at "w"
  refine k_tup (by walk_at "sz") fun A3 H9 nA3 c9 hA3 => ?_
  walk_at "w"
  refine k_lst (by walk_at "sz") fun l2 H10 nl2 c10 hl2 => ?_
  have c610 : Chg [] H6 H10 := ((c7.same c8).same c9).same c10
  refine w_cat (c610.at hr1) hl2 (by rw [List.length_replicate]; simp; omega) fun r2 H11 nr2 c11 hr2 => ?_
  have c611 := c610.same c11
  have bag11 := (bag5.same c6).same c611
  have r2b : r2 ≠ b := ((bag5.same (c6.same c610)).ne nr2).symm
  walk_at "w"
  refine k_tup (by walk_at "sz") fun B1 H12 nB1 c12 hB1 => ?_
  walk_at "w"
  refine k_tup (by walk_at "sz") fun B2 H13 nB2 c13 hB2 => ?_
  walk_at "w"
  refine k_lst (by walk_at "sz") fun l3 H14 nl3 c14 hl3 => ?_
  walk_at "w"
  refine k_lst (by walk_at "sz") fun l4 H15 nl4 c15 hl4 => ?_
  have c1115 : Chg [] H11 H15 := ((c12.same c13).same c14).same c15
  have bag15 := bag11.same c1115
  have l4b : l4 ≠ b := ((bag11.same ((c12.same c13).same c14)).ne nl4).symm
  have l3b : l3 ≠ b := ((bag11.same (c12.same c13)).ne nl3).symm
  walk_at "w"
  refine u_draw bag15 (by omega) (by decide) (by decide) fun u4 H16 c16 bag16 u40 u41 => ?_
  obtain ⟨nv, env, hnv⟩ := atD (xs := [V.int 0, V.int 1, V.int 2, V.int 1]) u40 u41
  refine w_ixL (sqL (c16.at1 hl4 l4b)) env ?_
  obtain ⟨nb, rfl, nb2⟩ : ∃ nb : Nat, nv = .int (nb : Nat) ∧ nb ≤ 2 := by
    simp only [List.mem_cons, List.not_mem_nil, or_false] at hnv
    rcases hnv with rfl | rfl | rfl | rfl
    · exact ⟨0, rfl, by decide⟩
    · exact ⟨1, rfl, by decide⟩
    · exact ⟨2, rfl, by decide⟩
    · exact ⟨1, rfl, by decide⟩
  refine w_repK (c16.at1 (c15.at hl3) l3b) (by omega) (by omega) fun r3 H17 nr3 c17 hr3 => ?_
  have c1117 : Chg [b] H11 H17 := (c1115.pre c16).same c17
  refine w_cat (c1117.at1 hr2 r2b) hr3 (by rw [List.length_append, List.length_replicate, List.length_replicate]; simp; omega) fun r4 H18 nr4 c18 hr4 => ?_
  have bag18 := (bag16.same c17).same c18
  have r4b : r4 ≠ b := ((bag16.same c17).ne nr4).symm
  have c1118 : Chg [b] H11 H18 := c1117.same c18
  have iT : Im H18 (.ref T1) (Stp.wait.data) := .tup (c1118.tup _ _ (c611.at hT6)) (.cons (.str _) .nil)
  have iA : Im H18 (.ref A3) ((W "main" (.add .arg (.num 1))).data) := by
    rw [hWd]
    have cA3 : ∀ {t : Addr} {us : List V}, H10 t = some (.tup us) → H18 t = some (.tup us) := fun e => c1118.tup _ _ (c11.at e)
    exact .tup (cA3 (c10.at hA3)) (.cons (.str _) (.cons (.str _) (.cons (.tup (cA3 ((c9.same c10).at hA2)) (.cons (.str _) (.cons (.tup (cA3 ((c8.same (c9.same c10)).at hA1)) (.cons (.str _) .nil)) (.cons (.int _) .nil)))) .nil)))
  have iB : Im H18 (.ref B2) ((Stp.give "all" .arg).data) := by
    have cB : ∀ {t : Addr} {us : List V}, H15 t = some (.tup us) → H18 t = some (.tup us) := fun e => c18.at (c17.at (c16.tup _ _ e))
    exact .tup (cB ((c14.same c15).at hB2)) (.cons (.str _) (.cons (.str _) (.cons (.tup (cB ((c13.same (c14.same c15)).at hB1)) (.cons (.str _) .nil)) .nil)))
  have izs : ImA H18 ((List.replicate u2.toNat (.ref T1) ++ [.ref A3]) ++ List.replicate (((nb : Nat) : Int)).toNat (.ref B2)) ((List.replicate u2.toNat Stp.wait ++ W "main" (.add .arg (.num 1)) :: List.replicate nb (Stp.give "all" .arg)).map Stp.data) := by
    rw [Int.toNat_natCast, List.map_append, List.map_cons, List.map_replicate, List.map_replicate, List.append_assoc]
    exact (ima_rep iT _).append (.cons iA (ima_rep iB _))
  walk_at "w"
  exact end_3 hW bag18 (by omega) r4b (by omega) (by omega) hr4 izs q
end Fg
--LAW k13
namespace Fg
open PySem PySem.Spec PyProof.Rows L2
/-! ### the walk's small steps -/
local macro_rules | `(tactic| walk_at "hp") => `(tactic| first
  | assumption
  | exact upd_same
  | (refine Chg.at (by assumption) ?_; walk_at "hp")
  | (refine Chg.at1 (by assumption) ?_ (by walk_at "ne"); walk_at "hp"))
local macro_rules | `(tactic| walk_at "ne") => `(tactic| first | assumption | (apply Ne.symm; assumption))
local macro_rules | `(tactic| walk_at "sq") => `(tactic| first | assumption | exact sqL (by walk_at "hp") | (refine Chg.seq (by assumption) ?_; walk_at "sq"))
local macro_rules | `(tactic| walk_at "sz") => `(tactic| first | assumption | exact Nat.zero_le _ | (simp only [List.length_cons, List.length_nil]; decide) | exact Nat.le_trans (by first | omega | (simp; done) | (simp; omega)) (show 100000 ≤ sizeLine by decide) | exact Nat.lt_of_lt_of_le (by first | omega | (simp; done) | (simp; omega)) (show 100000 ≤ sizeLine by decide))
local macro_rules | `(tactic| walk_at "ix") => `(tactic| first | exact at0 | exact at1 | exact at2 | exact at3 | assumption | exact rfl | walk_at "ix2")
local macro_rules | `(tactic| walk_at "ix2") => `(tactic| fail)
local macro_rules | `(tactic| walk_at "num") => `(tactic| first | assumption | omega | decide | walk_at "num2")
local macro_rules | `(tactic| walk_at "num2") => `(tactic| fail)
local macro_rules | `(tactic| walk_at "im") => `(tactic| first | assumption | exact R.non (S := fun _ => False) | exact R.bl (S := fun _ => False) _ | exact R.int (S := fun _ => False) _ | exact R.str (S := fun _ => False) _ | (refine R.im (by assumption) ?_; walk_at "im"))
local macro_rules | `(tactic| walk_at "r") => `(tactic| first | assumption | exact R.non (S := fun _ => False) | exact R.bl (S := fun _ => False) _ | exact R.int (S := fun _ => False) _ | exact R.str (S := fun _ => False) _ | (refine R.same (by assumption) ?_; walk_at "r") | exact R.any (by walk_at "im"))
local macro_rules | `(tactic| walk_at "chg") => `(tactic| first
  | exact Chg.refl
  | assumption
  | (refine Chg.same ?_ (by assumption); walk_at "chg")
  | (refine Chg.both ?_ (by assumption); walk_at "chg")
  | (refine Chg.pre (by assumption) ?_; walk_at "chg"))
local macro_rules | `(tactic| walk_at "w1") => `(tactic| first
  | with_reducible apply w_seq
  | with_reducible apply w_asg
  | ((with_reducible apply w_var); (focus (exact rfl)))
  | with_reducible apply w_c
  | with_reducible apply w_op
  | with_reducible apply w_cons
  | with_reducible apply w_nil
  | with_reducible apply w_gName
  | with_reducible apply w_if
  | with_reducible apply w_test
  | with_reducible apply w_B
  | with_reducible apply w_isbl
  | with_reducible apply w_retN
  | with_reducible apply w_next
  | with_reducible apply w_drop
  | with_reducible apply w_cb
  | with_reducible apply w_call
  | with_reducible apply w_callN
  | with_reducible apply w_bm
  | with_reducible apply w_bm0
  | ((with_reducible apply w_tyL); (focus (walk_at "hp"; done)))
  | with_reducible apply w_dput
  | with_reducible apply w_m1
  | with_reducible apply w_isstr
  | with_reducible apply w_and
  | with_reducible apply w_or
  | with_reducible apply w_not
  | with_reducible apply w_andV
  | with_reducible apply w_orV
  | with_reducible apply w_notV
  | with_reducible apply w_ifE
  | with_reducible apply w_chain
  | with_reducible apply w_un
  | with_reducible apply w_neg
  | with_reducible apply w_add
  | with_reducible apply w_sub
  | ((with_reducible apply w_mod); (focus (walk_at "num"; done)))
  | ((with_reducible apply w_mul); (focus (walk_at "num"; done)))
  | ((with_reducible apply w_fdiv); (focus (walk_at "num"; done)))
  | ((with_reducible apply w_pow); (focus (walk_at "num"; done)))
  | with_reducible apply w_lt
  | with_reducible apply w_le
  | with_reducible apply w_gt
  | with_reducible apply w_ge
  | with_reducible apply w_ltS
  | with_reducible apply w_geS
  | with_reducible apply w_inC
  | with_reducible apply w_notInC
  | with_reducible apply w_isN
  | with_reducible apply w_notN
  | with_reducible apply w_isB
  | with_reducible apply w_notB
  | ((with_reducible apply w_addS); (focus (walk_at "sz"; done)))
  | ((with_reducible apply w_ixL); (focus (walk_at "sq"; done)); (focus (walk_at "ix"; done)))
  | ((with_reducible apply w_ixT); (focus (walk_at "hp"; done)); (focus (walk_at "ix"; done)))
  | ((with_reducible apply w_ixS); (focus (walk_at "sz"; done)); (focus (walk_at "ix"; done)))
  | with_reducible apply w_gSub
  | ((with_reducible apply w_gTup); (focus (walk_at "hp"; done)); (focus (exact rfl)))
  | with_reducible apply w_gCons
  | with_reducible apply w_gNil
  | ((with_reducible apply w_aug); (focus (exact rfl)))
  | with_reducible apply w_ipI
  | ((with_reducible apply w_eq); (focus (exact rfl)))
  | ((with_reducible apply w_ne); (focus (exact rfl)))
  | with_reducible apply w_max
  | with_reducible apply w_min
  | with_reducible apply w_abs
  | with_reducible apply w_intB
  | with_reducible apply w_intI
  | with_reducible apply w_tup1
  | with_reducible apply w_lst1
  | with_reducible apply w_sl
  | with_reducible apply w_part
  | with_reducible apply w_noPart
  | with_reducible apply w_isint
  | ((with_reducible apply w_slS); (focus (walk_at "sz"; done)))
  | with_reducible apply w_iteT
  | with_reducible apply w_iteF
  | with_reducible apply w_iteN
  | ((with_reducible apply w_iteYes); (focus (exact rfl)))
  | ((with_reducible apply w_iteNo); (focus (exact rfl)))
  | ((with_reducible apply w_lenL); (focus (walk_at "sq"; done)))
  | ((with_reducible apply w_lenT); (focus (walk_at "hp"; done)))
  | ((with_reducible apply w_lenS); (focus (walk_at "sz"; done)))
  | with_reducible apply w_lc
  | with_reducible apply w_for
  | with_reducible apply w_yes
  | ((with_reducible apply w_wipe); (focus (exact rfl)))
  | with_reducible apply w_iList
  | with_reducible apply w_iTup
  | with_reducible apply w_iStr
  | with_reducible apply w_iRng1
  | with_reducible apply w_iRng2
  | with_reducible apply w_iZip
  | with_reducible apply w_iEnum
  | ((with_reducible apply d_iList); (focus (walk_at "sq"; done)))
  | ((with_reducible apply d_iTup); (focus (walk_at "hp"; done)))
  | with_reducible apply d_iStr
  | ((with_reducible apply d_iRng1); (focus (walk_at "num"; done)); (focus (walk_at "num"; done)))
  | ((with_reducible apply d_iRng2); (focus (walk_at "num"; done)); (focus (walk_at "num"; done)); (focus (walk_at "num"; done)); (focus (walk_at "num"; done)))
  | ((with_reducible apply d_iZip); (focus (walk_at "sq"; done)); (focus (walk_at "sq"; done)))
  | ((with_reducible apply d_iEnum); (focus (walk_at "sq"; done)))
  | walk_at "w2")
local macro_rules | `(tactic| walk_at "w2") => `(tactic| fail)
local macro_rules | `(tactic| walk_at "wn") => `(tactic| repeat walk_at "w1")
local macro_rules | `(tactic| walk_at "w") => `(tactic| repeat (first | walk_at "w1" | with_reducible apply w_ret))

local macro_rules | `(tactic| walk_at "w2") => `(tactic| first
  | ((with_reducible apply w_isInt); (focus (walk_at "r"; done)))
  | ((with_reducible apply w_isBool); (focus (walk_at "r"; done)))
  | ((with_reducible apply w_isStr); (focus (walk_at "r"; done)))
  | ((with_reducible apply w_isTup); (focus (walk_at "r"; done)))
  | ((with_reducible apply w_isLst); (focus (walk_at "r"; done)))
  | with_reducible apply w_fld
  | with_reducible apply w_sfld
  | with_reducible apply w_faug
  | with_reducible apply w_rAdd
  | with_reducible apply w_rSub
  | with_reducible apply w_make
  | with_reducible apply w_orT
  | with_reducible apply w_dgetd
  | with_reducible apply w_dgetk
  | with_reducible apply w_dsetd
  | ((with_reducible apply k_dgetd); (focus (walk_at "hp"; done)))
  | ((with_reducible apply k_dsetd); (focus (walk_at "hp"; done)))
  | walk_at "w3")
local macro_rules | `(tactic| walk_at "w3") => `(tactic| fail)

local macro_rules | `(tactic| walk_at "w3") => `(tactic| first
  | ((with_reducible apply g_Frame_number); (focus (assumption; done)); (focus (walk_at "hp"; done)))
  | ((with_reducible apply u_Frame_number); (focus (assumption; done)); (focus (walk_at "hp"; done)))
  | ((with_reducible apply g_Frame_path); (focus (assumption; done)); (focus (walk_at "hp"; done)))
  | ((with_reducible apply u_Frame_path); (focus (assumption; done)); (focus (walk_at "hp"; done)))
  | ((with_reducible apply g_Frame_rows); (focus (assumption; done)); (focus (walk_at "hp"; done)))
  | ((with_reducible apply u_Frame_rows); (focus (assumption; done)); (focus (walk_at "hp"; done)))
  | ((with_reducible apply g_Frame_arg); (focus (assumption; done)); (focus (walk_at "hp"; done)))
  | ((with_reducible apply u_Frame_arg); (focus (assumption; done)); (focus (walk_at "hp"; done)))
  | ((with_reducible apply g_Frame_at); (focus (assumption; done)); (focus (walk_at "hp"; done)))
  | ((with_reducible apply u_Frame_at); (focus (assumption; done)); (focus (walk_at "hp"; done)))
  | ((with_reducible apply g_Frame_past); (focus (assumption; done)); (focus (walk_at "hp"; done)))
  | ((with_reducible apply u_Frame_past); (focus (assumption; done)); (focus (walk_at "hp"; done)))
  | ((with_reducible apply g_Frame_born); (focus (assumption; done)); (focus (walk_at "hp"; done)))
  | ((with_reducible apply u_Frame_born); (focus (assumption; done)); (focus (walk_at "hp"; done)))
  | ((with_reducible apply g_Record_mark); (focus (assumption; done)); (focus (walk_at "hp"; done)))
  | ((with_reducible apply u_Record_mark); (focus (assumption; done)); (focus (walk_at "hp"; done)))
  | ((with_reducible apply g_Record_word); (focus (assumption; done)); (focus (walk_at "hp"; done)))
  | ((with_reducible apply u_Record_word); (focus (assumption; done)); (focus (walk_at "hp"; done)))
  | ((with_reducible apply g_Record_doer); (focus (assumption; done)); (focus (walk_at "hp"; done)))
  | ((with_reducible apply u_Record_doer); (focus (assumption; done)); (focus (walk_at "hp"; done)))
  | ((with_reducible apply g_Record_child); (focus (assumption; done)); (focus (walk_at "hp"; done)))
  | ((with_reducible apply u_Record_child); (focus (assumption; done)); (focus (walk_at "hp"; done)))
  | ((with_reducible apply g_Record_reads); (focus (assumption; done)); (focus (walk_at "hp"; done)))
  | ((with_reducible apply u_Record_reads); (focus (assumption; done)); (focus (walk_at "hp"; done)))
  | ((with_reducible apply g_Record_writes); (focus (assumption; done)); (focus (walk_at "hp"; done)))
  | ((with_reducible apply u_Record_writes); (focus (assumption; done)); (focus (walk_at "hp"; done)))
  | ((with_reducible apply g_Outcome_cells); (focus (assumption; done)); (focus (walk_at "hp"; done)))
  | ((with_reducible apply u_Outcome_cells); (focus (assumption; done)); (focus (walk_at "hp"; done)))
  | ((with_reducible apply g_Outcome_given); (focus (assumption; done)); (focus (walk_at "hp"; done)))
  | ((with_reducible apply u_Outcome_given); (focus (assumption; done)); (focus (walk_at "hp"; done)))
  | ((with_reducible apply g_Outcome_steps); (focus (assumption; done)); (focus (walk_at "hp"; done)))
  | ((with_reducible apply u_Outcome_steps); (focus (assumption; done)); (focus (walk_at "hp"; done)))
  | ((with_reducible apply g_Outcome_deepest); (focus (assumption; done)); (focus (walk_at "hp"; done)))
  | ((with_reducible apply u_Outcome_deepest); (focus (assumption; done)); (focus (walk_at "hp"; done))))
/-! ### deeper -/
theorem eq_lists {H : Hp} {Q : VK} {D : Addr} {v1 v2 : V} {d1 d2 : PyData} (h : H D = some (.lst [v1, v2])) (r1 : Im H v1 d1) (r2 : Im H v2 d2) (n1 : noDic d1 = true) (n2 : noDic d2 = true) (p1 : d1.depth ≤ 3) (p2 : d2.depth ≤ 3) {D2 : Addr} (h2 : H D2 = some (.lst [v1, v2])) (q : Q (.bl true) H) : oEqD (.ref D) (.ref D2) H Q := by
  have fl : noDic (.list [d1, d2]) = true := by
    show (noDic d1 && (noDic d2 && true)) = true
    rw [n1, n2]
    rfl
  have dp : (PyData.list [d1, d2]).depth ≤ 4 := by
    have : PyData.depthAll [d1, d2] ≤ 3 := depthAll_le fun d hd => by
      simp only [List.mem_cons, List.not_mem_nil, or_false] at hd
      rcases hd with rfl | rfl
      · exact p1
      · exact p2
    show PyData.depthAll _ + 1 ≤ 4
    omega
  have rA : R (fun _ => True) H (.ref D) (.list [d1, d2]) := .lst trivial h (.cons r1.any (.cons r2.any .nil))
  have rB : R (fun _ => True) H (.ref D2) (.list [d1, d2]) := .lst trivial h2 (.cons r1.any (.cons r2.any .nil))
  refine w_eqD rA rB fl fl (by omega) ?_
  rw [eqv_self _ fl]
  exact q
theorem ints_no {S : Addr → Prop} {H : Hp} {x y z : Int} {ds : List PyData} (r : RA S H [.int x, .int y, .int z] ds) (ht : ∀ d ∈ ds, ∃ es, d = .tuple es) : False := by
  cases r with
  | @cons _ _ d ds a b =>
    obtain ⟨es, rfl⟩ := ht d (by simp)
    cases a
theorem prg_ne {S : Addr → Prop} {H : Hp} {a b : Addr} {k : Nat} {p : Prg} (bag : Well H b k) (r : R S H (.ref a) (prgD p)) : R (fun x => x ≠ b) H (.ref a) (prgD p) := by
  obtain ⟨x, y, z, hb, _⟩ := bag
  have rows : ∀ {p : Prg} {xs : List V}, RA S H xs (p.map rowD) → RA (fun x => x ≠ b) H xs (p.map rowD) := by
    intro p
    induction p with
    | nil => intro xs h; cases h; exact .nil
    | cons r p ih =>
      intro xs h
      cases h with
      | cons h1 h2 =>
        refine .cons ?_ (ih h2)
        unfold rowD at h1 ⊢
        cases h1 with
        | tup e ra =>
          cases ra with
          | cons r0 rs0 =>
            cases r0
            cases rs0 with
            | cons r3 rs3 =>
              cases rs3
              cases r3 with
              | @lst l ys _ s4 e4 ra4 =>
                refine .tup e (.cons (.str _) (.cons (.lst (fun z' => ?_) e4 (ra4.pure (steps_noL _)).any) .nil))
                rw [z', hb] at e4
                cases e4
                exact ints_no ra4 fun d hd => by
                  obtain ⟨s, _, rfl⟩ := List.mem_map.mp hd
                  obtain ⟨ds, e⟩ := s.data_word
                  exact ⟨_, e⟩
  cases r with
  | @lst _ xs _ s e ra =>
    refine .lst (fun z' => ?_) e (rows ra)
    rw [z', hb] at e
    cases e
    exact ints_no ra fun d hd => by
      obtain ⟨r, _, rfl⟩ := List.mem_map.mp hd
      exact ⟨_, rfl⟩
def sp__law_deeper (K : PySem.W.Frag) : Sp := fun vs H Q _ => ∃ (b : Addr) (k : Nat), vs = [.ref b] ∧ Well H b k ∧ 10 ≤ k ∧ ∀ H', Q (.bl true) H'
def t__law_deeper (K : PySem.W.Frag) : TS :=
    tSeq (tAsg (tCall (sp__law_down K) [] E0 (tCons (tVar 0) (tCons (tLst (tCons (tC (.str "main")) (tNil))) (tCons (tOp oAdd (tC (.int 1050)) (tCall sp__law_draw [] E0 (tCons (tVar 0) (tCons (tC (.int 151)) (tNil))))) (tNil))))) (gTup K 6 (gCons (gName 1) (gCons (gName 2) (gCons (gName 3) (gCons (gName 4) (gCons (gName 5) (gCons (gName 6) (gNil)))))))))
    (tSeq (tIfS (tTest (tOp rEq (tCall sp__law_draw [] E0 (tCons (tVar 0) (tCons (tC (.int 2)) (tNil)))) (tC (.int 0)))) (tRet (tOp oEqD (tCall (sp__law_most_told K) [] E0 (tCons (tVar 1) (tCons (tVar 2) (tCons (tOp oSub (tVar 5) (tC (.int 1))) (tNil))))) (tLst (tCons (tC (.str "long")) (tCons (tOp oSub (tVar 5) (tC (.int 1))) (tNil)))))) (tNext))
    (tRet (tOp oEqD (tCall (sp__law_most_told K) [] E0 (tCons (tVar 1) (tCons (tVar 2) (tCons (tVar 5) (tNil))))) (tLst (tCons (tVar 5) (tCons (tVar 6) (tNil)))))))
theorem pure__law_deeper {K : PySem.W.Frag} (vs : List V) (H : Hp) (Q : VK) (E : XK) (h : sp__law_deeper K vs H Q E) : t__law_deeper K (fin Q) (start ["well", "program", "many", "cells", "given", "steps", "deepest"] vs) H := by
  obtain ⟨b, k, rfl, bag, hk, q⟩ := h
  show t__law_deeper K _ [some (.ref b), none, none, none, none, none, none] H
  unfold t__law_deeper
  walk_at "w"
  refine k_lst (by walk_at "sz") fun nl H1 nnl c1 hnl => ?_
  have nlb : nl ≠ b := (bag.ne nnl).symm
  walk_at "w"
  refine u_draw (bag.same c1) (by omega) (by decide) (by decide) fun u H2 c2 bag2 u0 u1 => ?_
  obtain ⟨many, em, lm⟩ : ∃ many : Nat, (1050 : Int) + u = (many : Nat) ∧ many ≤ 1200 := ⟨(1050 + u).toNat, by rw [Int.toNat_of_nonneg (by omega)], by omega⟩
  walk_at "w"
  rw [em]
  refine ⟨b, nl, "main", [], many, _, rfl, bag2, by omega, nlb, c2.at1 hnl nlb, main_low, by omega, fun T H3 c3 bag3 dA => ?_⟩
  obtain ⟨pl, cl, gl, p, g, cs, gv, hT, rP, rC, rG, due⟩ := dA
  obtain ⟨cs', gv', dp', tl, e1, e2, e3, e4⟩ := due.tells
  walk_at "w"
  refine u_draw bag3 (by omega) (by decide) (by decide) fun u2 H4 c4 bag4 u20 u21 => ?_
  have rP4 : R (fun a => a ≠ b) H4 (.ref pl) (prgD p) := (prg_ne bag3 rP).keep c4 fun a ha => by simpa using ha
  have dn : (max 1 dp' : Nat) = many + 1 := e4.symm
  walk_at "w"
  refine w_iteD (fun h0 => ?_) (fun h0 => ?_)
  · have en : ((4 * many + 2 : Nat) : Int) - 1 = ((4 * many + 1 : Nat) : Int) := by omega
    have em2 : mmK (4 * many + 1) = 4 * many + 1 := by unfold mmK; rw [if_neg (by omega)]
    have er : p.ran "main" g [] ((mmK (4 * many + 1) : Nat) : Int) = none := by
      rw [em2]
      exact tl.ran.2 (by omega)
    walk_at "w"
    rw [en]
    refine ⟨pl, p, g, 4 * many + 1, _, rfl, rP4, due.ok, due.mem, by omega, (fun m e => by rw [er] at e; cases e), (fun m e => by rw [er] at e; cases e), fun _ D H5 c5 hD => ?_⟩
    rw [em2] at hD
    walk_at "w"
    rw [en]
    refine k_lst (by walk_at "sz") fun D2 H6 nD2 c6 hD2 => ?_
    exact eq_lists (c6.at hD) (.str _) (.int _) rfl rfl (by decide) (by show 0 ≤ 3; decide) hD2 (q H6)
  · have em2 : mmK (4 * many + 2) = 4 * many + 2 := by unfold mmK; rw [if_neg (by omega)]
    obtain ⟨m, er, m1, m2, m3, m4⟩ := (tl.ran (most := 4 * many + 2)).1 (Nat.le_refl _)
    have er' : p.ran "main" g [] ((mmK (4 * many + 2) : Nat) : Int) = some m := by rw [em2]; exact er
    walk_at "w"
    refine ⟨pl, p, g, 4 * many + 2, _, rfl, rP4, due.ok, due.mem, by omega, (fun m' e => by rw [er'] at e; cases e; rw [m2]; exact e3), (fun m' e D H5 c5 hD => ?_), (fun e => by rw [er'] at e; cases e)⟩
    rw [er'] at e
    cases e
    rw [m3, m4, dn] at hD
    walk_at "w"
    refine k_lst (by walk_at "sz") fun D2 H6 nD2 c6 hD2 => ?_
    exact eq_lists (c6.at hD) (.int _) (.int _) rfl rfl (by show 0 ≤ 3; decide) (by show 0 ≤ 3; decide) hD2 (q H6)
end Fg
--LAW k13
namespace Fg
open PySem PySem.Spec PyProof.Rows L2
/-! ### the walk's small steps -/
local macro_rules | `(tactic| walk_at "hp") => `(tactic| first
  | assumption
  | exact upd_same
  | (refine Chg.at (by assumption) ?_; walk_at "hp")
  | (refine Chg.at1 (by assumption) ?_ (by walk_at "ne"); walk_at "hp"))
local macro_rules | `(tactic| walk_at "ne") => `(tactic| first | assumption | (apply Ne.symm; assumption))
local macro_rules | `(tactic| walk_at "sq") => `(tactic| first | assumption | exact sqL (by walk_at "hp") | (refine Chg.seq (by assumption) ?_; walk_at "sq"))
local macro_rules | `(tactic| walk_at "sz") => `(tactic| first | assumption | exact Nat.zero_le _ | (simp only [List.length_cons, List.length_nil]; decide) | exact Nat.le_trans (by first | omega | (simp; done) | (simp; omega)) (show 100000 ≤ sizeLine by decide) | exact Nat.lt_of_lt_of_le (by first | omega | (simp; done) | (simp; omega)) (show 100000 ≤ sizeLine by decide))
local macro_rules | `(tactic| walk_at "ix") => `(tactic| first | exact at0 | exact at1 | exact at2 | exact at3 | assumption | exact rfl | walk_at "ix2")
local macro_rules | `(tactic| walk_at "ix2") => `(tactic| fail)
local macro_rules | `(tactic| walk_at "num") => `(tactic| first | assumption | omega | decide | walk_at "num2")
local macro_rules | `(tactic| walk_at "num2") => `(tactic| fail)
local macro_rules | `(tactic| walk_at "im") => `(tactic| first | assumption | exact R.non (S := fun _ => False) | exact R.bl (S := fun _ => False) _ | exact R.int (S := fun _ => False) _ | exact R.str (S := fun _ => False) _ | (refine R.im (by assumption) ?_; walk_at "im"))
local macro_rules | `(tactic| walk_at "r") => `(tactic| first | assumption | exact R.non (S := fun _ => False) | exact R.bl (S := fun _ => False) _ | exact R.int (S := fun _ => False) _ | exact R.str (S := fun _ => False) _ | (refine R.same (by assumption) ?_; walk_at "r") | exact R.any (by walk_at "im"))
local macro_rules | `(tactic| walk_at "chg") => `(tactic| first
  | exact Chg.refl
  | assumption
  | (refine Chg.same ?_ (by assumption); walk_at "chg")
  | (refine Chg.both ?_ (by assumption); walk_at "chg")
  | (refine Chg.pre (by assumption) ?_; walk_at "chg"))
local macro_rules | `(tactic| walk_at "w1") => `(tactic| first
  | with_reducible apply w_seq
  | with_reducible apply w_asg
  | ((with_reducible apply w_var); (focus (exact rfl)))
  | with_reducible apply w_c
  | with_reducible apply w_op
  | with_reducible apply w_cons
  | with_reducible apply w_nil
  | with_reducible apply w_gName
  | with_reducible apply w_if
  | with_reducible apply w_test
  | with_reducible apply w_B
  | with_reducible apply w_isbl
  | with_reducible apply w_retN
  | with_reducible apply w_next
  | with_reducible apply w_drop
  | with_reducible apply w_cb
  | with_reducible apply w_call
  | with_reducible apply w_callN
  | with_reducible apply w_bm
  | with_reducible apply w_bm0
  | ((with_reducible apply w_tyL); (focus (walk_at "hp"; done)))
  | with_reducible apply w_dput
  | with_reducible apply w_m1
  | with_reducible apply w_isstr
  | with_reducible apply w_and
  | with_reducible apply w_or
  | with_reducible apply w_not
  | with_reducible apply w_andV
  | with_reducible apply w_orV
  | with_reducible apply w_notV
  | with_reducible apply w_ifE
  | with_reducible apply w_chain
  | with_reducible apply w_un
  | with_reducible apply w_neg
  | with_reducible apply w_add
  | with_reducible apply w_sub
  | ((with_reducible apply w_mod); (focus (walk_at "num"; done)))
  | ((with_reducible apply w_mul); (focus (walk_at "num"; done)))
  | ((with_reducible apply w_fdiv); (focus (walk_at "num"; done)))
  | ((with_reducible apply w_pow); (focus (walk_at "num"; done)))
  | with_reducible apply w_lt
  | with_reducible apply w_le
  | with_reducible apply w_gt
  | with_reducible apply w_ge
  | with_reducible apply w_ltS
  | with_reducible apply w_geS
  | with_reducible apply w_inC
  | with_reducible apply w_notInC
  | with_reducible apply w_isN
  | with_reducible apply w_notN
  | with_reducible apply w_isB
  | with_reducible apply w_notB
  | ((with_reducible apply w_addS); (focus (walk_at "sz"; done)))
  | ((with_reducible apply w_ixL); (focus (walk_at "sq"; done)); (focus (walk_at "ix"; done)))
  | ((with_reducible apply w_ixT); (focus (walk_at "hp"; done)); (focus (walk_at "ix"; done)))
  | ((with_reducible apply w_ixS); (focus (walk_at "sz"; done)); (focus (walk_at "ix"; done)))
  | with_reducible apply w_gSub
  | ((with_reducible apply w_gTup); (focus (walk_at "hp"; done)); (focus (exact rfl)))
  | with_reducible apply w_gCons
  | with_reducible apply w_gNil
  | ((with_reducible apply w_aug); (focus (exact rfl)))
  | with_reducible apply w_ipI
  | ((with_reducible apply w_eq); (focus (exact rfl)))
  | ((with_reducible apply w_ne); (focus (exact rfl)))
  | with_reducible apply w_max
  | with_reducible apply w_min
  | with_reducible apply w_abs
  | with_reducible apply w_intB
  | with_reducible apply w_intI
  | with_reducible apply w_tup1
  | with_reducible apply w_lst1
  | with_reducible apply w_sl
  | with_reducible apply w_part
  | with_reducible apply w_noPart
  | with_reducible apply w_isint
  | ((with_reducible apply w_slS); (focus (walk_at "sz"; done)))
  | with_reducible apply w_iteT
  | with_reducible apply w_iteF
  | with_reducible apply w_iteN
  | ((with_reducible apply w_iteYes); (focus (exact rfl)))
  | ((with_reducible apply w_iteNo); (focus (exact rfl)))
  | ((with_reducible apply w_lenL); (focus (walk_at "sq"; done)))
  | ((with_reducible apply w_lenT); (focus (walk_at "hp"; done)))
  | ((with_reducible apply w_lenS); (focus (walk_at "sz"; done)))
  | with_reducible apply w_lc
  | with_reducible apply w_for
  | with_reducible apply w_yes
  | ((with_reducible apply w_wipe); (focus (exact rfl)))
  | with_reducible apply w_iList
  | with_reducible apply w_iTup
  | with_reducible apply w_iStr
  | with_reducible apply w_iRng1
  | with_reducible apply w_iRng2
  | with_reducible apply w_iZip
  | with_reducible apply w_iEnum
  | ((with_reducible apply d_iList); (focus (walk_at "sq"; done)))
  | ((with_reducible apply d_iTup); (focus (walk_at "hp"; done)))
  | with_reducible apply d_iStr
  | ((with_reducible apply d_iRng1); (focus (walk_at "num"; done)); (focus (walk_at "num"; done)))
  | ((with_reducible apply d_iRng2); (focus (walk_at "num"; done)); (focus (walk_at "num"; done)); (focus (walk_at "num"; done)); (focus (walk_at "num"; done)))
  | ((with_reducible apply d_iZip); (focus (walk_at "sq"; done)); (focus (walk_at "sq"; done)))
  | ((with_reducible apply d_iEnum); (focus (walk_at "sq"; done)))
  | walk_at "w2")
local macro_rules | `(tactic| walk_at "w2") => `(tactic| fail)
local macro_rules | `(tactic| walk_at "wn") => `(tactic| repeat walk_at "w1")
local macro_rules | `(tactic| walk_at "w") => `(tactic| repeat (first | walk_at "w1" | with_reducible apply w_ret))

local macro_rules | `(tactic| walk_at "w2") => `(tactic| first
  | ((with_reducible apply w_isInt); (focus (walk_at "r"; done)))
  | ((with_reducible apply w_isBool); (focus (walk_at "r"; done)))
  | ((with_reducible apply w_isStr); (focus (walk_at "r"; done)))
  | ((with_reducible apply w_isTup); (focus (walk_at "r"; done)))
  | ((with_reducible apply w_isLst); (focus (walk_at "r"; done)))
  | with_reducible apply w_fld
  | with_reducible apply w_sfld
  | with_reducible apply w_faug
  | with_reducible apply w_rAdd
  | with_reducible apply w_rSub
  | with_reducible apply w_make
  | with_reducible apply w_orT
  | with_reducible apply w_dgetd
  | with_reducible apply w_dgetk
  | with_reducible apply w_dsetd
  | ((with_reducible apply k_dgetd); (focus (walk_at "hp"; done)))
  | ((with_reducible apply k_dsetd); (focus (walk_at "hp"; done)))
  | walk_at "w3")
local macro_rules | `(tactic| walk_at "w3") => `(tactic| fail)

local macro_rules | `(tactic| walk_at "w3") => `(tactic| first
  | ((with_reducible apply g_Frame_number); (focus (assumption; done)); (focus (walk_at "hp"; done)))
  | ((with_reducible apply u_Frame_number); (focus (assumption; done)); (focus (walk_at "hp"; done)))
  | ((with_reducible apply g_Frame_path); (focus (assumption; done)); (focus (walk_at "hp"; done)))
  | ((with_reducible apply u_Frame_path); (focus (assumption; done)); (focus (walk_at "hp"; done)))
  | ((with_reducible apply g_Frame_rows); (focus (assumption; done)); (focus (walk_at "hp"; done)))
  | ((with_reducible apply u_Frame_rows); (focus (assumption; done)); (focus (walk_at "hp"; done)))
  | ((with_reducible apply g_Frame_arg); (focus (assumption; done)); (focus (walk_at "hp"; done)))
  | ((with_reducible apply u_Frame_arg); (focus (assumption; done)); (focus (walk_at "hp"; done)))
  | ((with_reducible apply g_Frame_at); (focus (assumption; done)); (focus (walk_at "hp"; done)))
  | ((with_reducible apply u_Frame_at); (focus (assumption; done)); (focus (walk_at "hp"; done)))
  | ((with_reducible apply g_Frame_past); (focus (assumption; done)); (focus (walk_at "hp"; done)))
  | ((with_reducible apply u_Frame_past); (focus (assumption; done)); (focus (walk_at "hp"; done)))
  | ((with_reducible apply g_Frame_born); (focus (assumption; done)); (focus (walk_at "hp"; done)))
  | ((with_reducible apply u_Frame_born); (focus (assumption; done)); (focus (walk_at "hp"; done)))
  | ((with_reducible apply g_Record_mark); (focus (assumption; done)); (focus (walk_at "hp"; done)))
  | ((with_reducible apply u_Record_mark); (focus (assumption; done)); (focus (walk_at "hp"; done)))
  | ((with_reducible apply g_Record_word); (focus (assumption; done)); (focus (walk_at "hp"; done)))
  | ((with_reducible apply u_Record_word); (focus (assumption; done)); (focus (walk_at "hp"; done)))
  | ((with_reducible apply g_Record_doer); (focus (assumption; done)); (focus (walk_at "hp"; done)))
  | ((with_reducible apply u_Record_doer); (focus (assumption; done)); (focus (walk_at "hp"; done)))
  | ((with_reducible apply g_Record_child); (focus (assumption; done)); (focus (walk_at "hp"; done)))
  | ((with_reducible apply u_Record_child); (focus (assumption; done)); (focus (walk_at "hp"; done)))
  | ((with_reducible apply g_Record_reads); (focus (assumption; done)); (focus (walk_at "hp"; done)))
  | ((with_reducible apply u_Record_reads); (focus (assumption; done)); (focus (walk_at "hp"; done)))
  | ((with_reducible apply g_Record_writes); (focus (assumption; done)); (focus (walk_at "hp"; done)))
  | ((with_reducible apply u_Record_writes); (focus (assumption; done)); (focus (walk_at "hp"; done)))
  | ((with_reducible apply g_Outcome_cells); (focus (assumption; done)); (focus (walk_at "hp"; done)))
  | ((with_reducible apply u_Outcome_cells); (focus (assumption; done)); (focus (walk_at "hp"; done)))
  | ((with_reducible apply g_Outcome_given); (focus (assumption; done)); (focus (walk_at "hp"; done)))
  | ((with_reducible apply u_Outcome_given); (focus (assumption; done)); (focus (walk_at "hp"; done)))
  | ((with_reducible apply g_Outcome_steps); (focus (assumption; done)); (focus (walk_at "hp"; done)))
  | ((with_reducible apply u_Outcome_steps); (focus (assumption; done)); (focus (walk_at "hp"; done)))
  | ((with_reducible apply g_Outcome_deepest); (focus (assumption; done)); (focus (walk_at "hp"; done)))
  | ((with_reducible apply u_Outcome_deepest); (focus (assumption; done)); (focus (walk_at "hp"; done))))
theorem filt_head {ns : List Str} (nd : ns.Nodup) (l : 2 ≤ ns.length) : ∃ h, (ns.filter fun x : Str => decide (¬ x = ("main" : Str)))[0]? = some h ∧ h ∈ ns ∧ ¬ h = "main" := by
  cases hf : ns.filter fun x : Str => decide (¬ x = ("main" : Str)) with
  | nil =>
    have all : ∀ x ∈ ns, x = "main" := fun x hx => by
      refine Classical.byContradiction fun z => ?_
      have := List.mem_filter (p := fun x : Str => decide (¬ x = ("main" : Str))) |>.mpr ⟨hx, (decide_eq_true z : decide (¬ x = ("main" : Str)) = true)⟩
      rw [hf] at this
      cases this
    match ns, l, nd, all with
    | a :: b :: r, _, nd, all =>
      have h1 := all a (by simp)
      have h2 := all b (by simp)
      exact absurd (h1.trans h2.symm) (fun z => (List.nodup_cons.mp nd).1 (by rw [z]; simp))
  | cons h r =>
    have hm : h ∈ ns.filter fun x : Str => decide (¬ x = ("main" : Str)) := by rw [hf]; simp
    obtain ⟨h1, h2⟩ := List.mem_filter.mp hm
    exact ⟨h, rfl, h1, of_decide_eq_true h2⟩
def startJ (h : Str) (more : Nat) : List Stp := .call h (.add .arg (.num 999)) :: List.replicate more Stp.wait
theorem justJ {p : Prg} {h : Str} {more : Nat} (l : more ≤ 2) (hm : p.rows "main" = startJ h more) (hh : p.rows h = rowsH h) (m : Mc) : Tells p 0 ⟨0, [], p.rows "main", 0, 0, 0, 0⟩ m m.cells m.given (2000 + more) 1001 := by
  rw [hm]
  refine Tells.as (n := (2 * 999 + 1) + more + 1) (dp := max (0 + 2) (max (if 999 = 0 then 0 else 0 + 1 + 999 + 1) 0)) (.sub (n1 := 2 * 999 + 1) (n := more) (dp1 := if 999 = 0 then 0 else 0 + 1 + 999 + 1) (dp := 0) (s := .call h (.add .arg (.num 999))) (x := h) (w := (999 : Nat)) rfl rfl (cs1 := m.cells) (gv1 := m.given) ?_ fun m1 e1 e2 => ?_) rfl rfl rfl (by omega) rfl
  · unfold Frm.kid
    rw [hh]
    exact just_tells hh 999 1 _ _ _
  · rw [FC.call.nxt]
    have hc : more = 0 ∨ more = 1 ∨ more = 2 := by omega
    rcases hc with rfl | rfl | rfl
    · exact Tells.as (.over rfl) rfl e1.symm e2.symm rfl rfl
    · refine Tells.as (n := 0 + 1) (.step (s := .wait) rfl rfl ?_) rfl rfl rfl rfl rfl
      exact Tells.as (.over rfl) rfl e1.symm e2.symm rfl rfl
    · refine Tells.as (n := 1 + 1) (.step (s := .wait) rfl rfl ?_) rfl rfl rfl rfl rfl
      refine Tells.as (n := 0 + 1) (.step (s := .wait) rfl rfl ?_) rfl rfl rfl rfl rfl
      exact Tells.as (.over rfl) rfl e1.symm e2.symm rfl rfl
def t__law_just_enough_6 (K : PySem.W.Frag) : TS :=
    tSeq (tIfS (tTest (tOp oGt (tVar 1) (tC (.int 0)))) (tRet (tAndV (tOp oIsN (tVar 6) (tC .non)) (tOp rEq (tVar 5) (tC (.int 2000))))) (tNext))
    (tRet (tAndV (tOp oNotN (tVar 6) (tC .non)) (tAndV (tOp oIsN (tVar 5) (tC .non)) (tOp oEqD (tLst (tCons (tCB (cLenI (He.ga K "Outcome") (sp_Outcome___len__ K)) (tCons (tVar 6) (tNil))) (tCons (tFld K (tVar 6) "deepest") (tNil)))) (tLst (tCons (tC (.int 2000)) (tCons (tC (.int 1001)) (tNil))))))))
def t__law_just_enough_3 (K : PySem.W.Frag) : TS :=
    tSeq (tAsg (tC .non) (gName 5))
    (tSeq (tAsg (tC .non) (gName 6))
    (tSeq (tTryH K (.ref (He.ga K "TooLong")) 7 (fun W => tAsg (tCallSD (sp_run K) [.str "main", .int 0, .non, .int 2000] (WE (W)) (tCons (tCB (rSortedR K) (tCons (tLst (tCons (tTup (tCons (tC (.str "main")) (tCons (tVar 4) (tNil)))) (tCons (tTup (tCons (tVar 2) (tCons (tVar 3) (tNil)))) (tNil)))) (tNil))) (tNil))) (gName 6)) (fun a cls d => tAsg (tXf a cls d (He.ga K "TooLong") "most" (tVar 7)) (gName 5)) (fun _ _ _ _ => False))
    (tSeq (tIfS (tTest (tOp oGt (tVar 1) (tC (.int 0)))) (tRet (tAndV (tOp oIsN (tVar 6) (tC .non)) (tOp rEq (tVar 5) (tC (.int 2000))))) (tNext))
    (tRet (tAndV (tOp oNotN (tVar 6) (tC .non)) (tAndV (tOp oIsN (tVar 5) (tC .non)) (tOp oEqD (tLst (tCons (tCB (cLenI (He.ga K "Outcome") (sp_Outcome___len__ K)) (tCons (tVar 6) (tNil))) (tCons (tFld K (tVar 6) "deepest") (tNil)))) (tLst (tCons (tC (.int 2000)) (tCons (tC (.int 1001)) (tNil)))))))))))
theorem just_3 {K : PySem.W.Frag} (XT : XTl K) (CF : CFs K) {H : Hp} {Q : VK} {rl sl : Addr} {h : Str} {more : Nat} {a0 : Option V} (lm : more ≤ 2) (lh : nameS h = true) (hne : ¬ h = "main") (rR : R (fun _ => True) H (.ref rl) (.list ((rowsH h).map Stp.data))) (rS : R (fun _ => True) H (.ref sl) (.list ((startJ h more).map Stp.data))) (q : ∀ H', Q (.bl true) H') :
    t__law_just_enough_3 K (fin Q) [a0, some (.int (more : Nat)), some (.str h), some (.ref rl), some (.ref sl), none, none, none, none, none] H := by
  show (tSeq _ (tSeq _ (tSeq _ (t__law_just_enough_6 K)))) (fin Q) [a0, some (.int (more : Nat)), some (.str h), some (.ref rl), some (.ref sl), none, none, none, none, none] H
  have nd : (([("main", startJ h more), (h, rowsH h)] : Prg).map (·.1)).Nodup := by
    show [("main" : Str), h].Nodup
    simp [Ne.symm hne]
  walk_at "w"
  refine w_tryH ?_
  walk_at "w"
  refine w_callX ?_
  walk_at "w"
  refine k_tup (by walk_at "sz") fun T1 H1 nT1 c1 hT1 => ?_
  walk_at "w"
  refine k_tup (by walk_at "sz") fun T2 H2 nT2 c2 hT2 => ?_
  walk_at "w"
  refine k_lst (by walk_at "sz") fun ul H3 nul c3 hul => ?_
  have c03 : Chg [] H H3 := (c1.same c2).same c3
  have ra : RA (fun _ => True) H3 [.ref T1, .ref T2] (([("main", startJ h more), (h, rowsH h)] : Prg).map rowD) := .cons (.tup ((c2.same c3).at hT1) (.cons (.str _) (.cons (rS.same c03) .nil))) (.cons (.tup (c3.at hT2) (.cons (.str _) (.cons (rR.same c03) .nil))) .nil)
  walk_at "w"
  refine w_sortedP hul ra nd fun pl ys H4 p npl c4 hpl ra4 perm up => ?_
  have hm := rows_perm perm nd (r := ("main", startJ h more)) (by simp)
  have hh := rows_perm perm nd (r := (h, rowsH h)) (by simp)
  have okP : PrgOk p := prg_perm perm up (fun r hr => by
    simp only [List.mem_cons, List.not_mem_nil, or_false] at hr
    rcases hr with rfl | rfl
    · exact main_low
    · exact lh) (fun r hr => by
    simp only [List.mem_cons, List.not_mem_nil, or_false] at hr
    rcases hr with rfl | rfl
    · exact stepsOk_any fun s hs i hi => by
        rcases List.mem_cons.mp hs with rfl | hs
        · exact ⟨lh, by simp, by show 2 ≤ 5; decide⟩
        · rw [(List.mem_replicate.mp hs).2]; trivial
    · exact ⟨⟨by decide, by decide, by show (1 : Int) ≤ 1; decide⟩, ⟨lh, by simp, by show 2 ≤ 5; decide⟩, trivial⟩) (by show 2 ≤ 100; decide) (fun r hr => by
    simp only [List.mem_cons, List.not_mem_nil, or_false] at hr
    rcases hr with rfl | rfl
    · show (startJ h more).length ≤ 100
      unfold startJ
      rw [List.length_cons, List.length_replicate]
      omega
    · show 2 ≤ 100; decide)
  have tl := justJ lm hm hh (Mc.start p "main" 0 (cStart []))
  walk_at "w"
  have hx : ("main" : Str) ∈ p.map (·.1) := (perm.map (·.1)).mem_iff.mpr (by simp)
  by_cases h0 : more = 0
  · obtain ⟨m, er, m1, m2, m3, m4⟩ := (tl.ran (most := 2000)).1 (by omega)
    have er : p.ran "main" 0 [] 2000 = some m := er
    refine ⟨pl, p, "main", 0, .non, [], 2000, _, rfl, .lst trivial hpl ra4, okP, hx, .inl ⟨rfl, rfl⟩, by decide, by decide, (fun m' e => by rw [er] at e; cases e; rw [m2]; show 0 < 64; decide), (fun m' e o H5 no c5 oa => ?_), (fun e => by rw [er] at e; cases e)⟩
    rw [er] at e
    cases e
    show t__law_just_enough_6 K (fin Q) [a0, some (.int (more : Nat)), some (.str h), some (.ref rl), some (.ref sl), some .non, some (.ref o), none, none, none] H5
    unfold t__law_just_enough_6
    subst h0
    have oc := CF.oc
    obtain ⟨dx, ocl, ogl, osl, ho, r1, r2, r3⟩ := oa
    cases r3 with
    | @lst _ sxs _ ss hs rs =>
    have lsx : sxs.length = m.recs.length := by rw [rs.length]; exact List.length_map _
    walk_at "w"
    refine w_lenI (C := He.ga K "Outcome") (dx := dx) (fs := _) ho ⟨o, dx, osl, _, _, _, sxs, rfl, ho, hs, m.recs.length, by rw [lsx], by omega, ?_⟩
    walk_at "w"
    refine k_lst (by walk_at "sz") fun D H6 nD c6 hD => ?_
    walk_at "w"
    refine k_lst (by walk_at "sz") fun D2 H7 nD2 c7 hD2 => ?_
    rw [m3, m4] at hD
    exact eq_lists (c7.at hD) (.int _) (.int _) rfl rfl (by show 0 ≤ 3; decide) (by show 0 ≤ 3; decide) hD2 (q H7)
  · have er : p.ran "main" 0 [] 2000 = none := (tl.ran (most := 2000)).2 (by omega)
    refine ⟨pl, p, "main", 0, .non, [], 2000, _, rfl, .lst trivial hpl ra4, okP, hx, .inl ⟨rfl, rfl⟩, by decide, by decide, (fun m' e => by rw [er] at e; cases e), (fun m' e => by rw [er] at e; cases e), (fun e dd H5 c5 h5 => ?_)⟩
    refine ⟨true, XT.exm, fun _ ea na => ?_, fun z => by cases z⟩
    walk_at "w"
    refine w_xf rfl rfl rfl h5 rfl ?_
    walk_at "w"
    intro _
    generalize upd H5 ea (ExH (.ref (He.ga K "TooLong")) (some dd) ea) = H6
    show t__law_just_enough_6 K (fin Q) [a0, some (.int (more : Nat)), some (.str h), some (.ref rl), some (.ref sl), some (.int 2000), some .non, none, none, none] H6
    unfold t__law_just_enough_6
    walk_at "w"
    refine w_iteD (fun hp => ?_) (fun hp => ?_)
    · walk_at "w"
      exact q H6
    · exact absurd hp (by omega)
def sp__law_just_enough (K : PySem.W.Frag) : Sp := fun vs H Q _ => ∃ (nl : Addr) (ns : List Str) (more : Nat), vs = [.ref nl, .int (more : Nat)] ∧ H nl = some (.lst (ns.map V.str)) ∧ ns.length = 6 ∧ ns.Nodup ∧ (∀ x ∈ ns, nameS x = true) ∧ more ≤ 2 ∧ ∀ H', Q (.bl true) H'
def t__law_just_enough (K : PySem.W.Frag) : TS :=
    tSeq (tAsg (tOp (rIxL K) (tLc (iList K (tVar 0)) (gName 8) (tTest (tOp rNe (tVar 8) (tC (.str "main")))) (tVar 8) [8]) (tC (.int 0))) (gName 2))
    (tSeq (tAsg (tLst (tCons (tTup (tCons (tC (.str "skip")) (tCons (tTup (tCons (tC (.str "arg")) (tNil))) (tCons (tC (.int 1)) (tNil))))) (tCons (tTup (tCons (tC (.str "call")) (tCons (tVar 2) (tCons (tTup (tCons (tC (.str "less")) (tCons (tTup (tCons (tC (.str "arg")) (tNil))) (tCons (tC (.int 1)) (tNil))))) (tNil))))) (tNil)))) (gName 3))
    (tSeq (tAsg (tOp rCat (tLst (tCons (tTup (tCons (tC (.str "call")) (tCons (tVar 2) (tCons (tTup (tCons (tC (.str "add")) (tCons (tTup (tCons (tC (.str "arg")) (tNil))) (tCons (tC (.int 999)) (tNil))))) (tNil))))) (tNil))) (tLc (iRng1 (tCons (tVar 1) (tNil))) (gName 9) (tYes) (tTup (tCons (tC (.str "wait")) (tNil))) [9])) (gName 4))
    (tSeq (tAsg (tC .non) (gName 5))
    (tSeq (tAsg (tC .non) (gName 6))
    (tSeq (tTryH K (.ref (He.ga K "TooLong")) 7 (fun W => tAsg (tCallSD (sp_run K) [.str "main", .int 0, .non, .int 2000] (WE (W)) (tCons (tCB (rSortedR K) (tCons (tLst (tCons (tTup (tCons (tC (.str "main")) (tCons (tVar 4) (tNil)))) (tCons (tTup (tCons (tVar 2) (tCons (tVar 3) (tNil)))) (tNil)))) (tNil))) (tNil))) (gName 6)) (fun a cls d => tAsg (tXf a cls d (He.ga K "TooLong") "most" (tVar 7)) (gName 5)) (fun _ _ _ _ => False))
    (tSeq (tIfS (tTest (tOp oGt (tVar 1) (tC (.int 0)))) (tRet (tAndV (tOp oIsN (tVar 6) (tC .non)) (tOp rEq (tVar 5) (tC (.int 2000))))) (tNext))
    (tRet (tAndV (tOp oNotN (tVar 6) (tC .non)) (tAndV (tOp oIsN (tVar 5) (tC .non)) (tOp oEqD (tLst (tCons (tCB (cLenI (He.ga K "Outcome") (sp_Outcome___len__ K)) (tCons (tVar 6) (tNil))) (tCons (tFld K (tVar 6) "deepest") (tNil)))) (tLst (tCons (tC (.int 2000)) (tCons (tC (.int 1001)) (tNil))))))))))))))
theorem pure__law_just_enough {K : PySem.W.Frag} (XT : XTl K) (CF : CFs K) (vs : List V) (H : Hp) (Q : VK) (E : XK) (h : sp__law_just_enough K vs H Q E) : t__law_just_enough K (fin Q) (start ["names", "more", "helper", "rows", "start", "field", "found", "e", "one", "k"] vs) H := by
  obtain ⟨nl, ns, more, rfl, hnl, l6, ndn, low, lm, q⟩ := h
  show (tSeq _ (tSeq _ (tSeq _ (t__law_just_enough_3 K)))) (fin Q) [some (.ref nl), some (.int (more : Nat)), none, none, none, none, none, none, none, none] H
  obtain ⟨hp, e0, hpm, hpn⟩ := filt_head ndn (by omega)
  walk_at "w"
  refine w_lcG (walk_list (K := K) (a := nl) (xs := ns.map V.str)) (fun D i acc H2 => Chg [] H H2 ∧ acc = (((ns.take i).filter fun x : Str => decide (¬ x = ("main" : Str)))).map V.str)
    (fun D H2 nD c2 hD => ⟨c2, rfl⟩) (fun D i acc H2 _ _ z => sqL (z.1.at hnl)) (fun D i acc x H5 H6 hi nD hD el iv y => ?_) (fun D acc H5 nD el hD iv => ?_)
  · obtain ⟨rfl, ex⟩ := y
    obtain ⟨c5, ea⟩ := iv
    rw [List.length_map] at hi
    rw [List.getElem?_map, List.getElem?_eq_getElem hi] at ex
    cases ex
    have et : ns.take (i + 1) = ns.take i ++ [ns[i]] := by rw [List.take_add_one, List.getElem?_eq_getElem hi]; rfl
    generalize ns[i] = k at et ⊢
    walk_at "w"
    refine w_iteD (fun h0 => ?_) (fun h0 => ?_)
    · refine lg_no hD el ⟨c5, ?_⟩
      have h0' : k = "main" := V.str.inj h0
      rw [et, List.filter_append, show ([k].filter fun x : Str => decide (¬ x = ("main" : Str))) = [] by simp [h0'], List.append_nil]
      exact ea
    · have h0' : ¬ k = "main" := fun z => h0 (by rw [z])
      walk_at "w"
      refine lg_yes hD el (by omega) fun H8 c8 h8 => ⟨c5.one c8 nD, ?_⟩
      rw [et, List.filter_append, show ([k].filter fun x : Str => decide (¬ x = ("main" : Str))) = [k] by simp [h0'], List.map_append, ea]
      rfl
  obtain ⟨c5, ea⟩ := iv
  rw [List.length_map, List.take_length] at ea
  subst ea
  have a0 : atI ((ns.filter fun x : Str => decide (¬ x = ("main" : Str))).map V.str) 0 = some (.str hp) := by
    refine atI_nat (j := 0) ?_
    rw [List.getElem?_map, e0]
    rfl
  walk_at "w"
  refine k_tup (by walk_at "sz") fun A1 H6 nA1 c6 hA1 => ?_
  walk_at "w"
  refine k_tup (by walk_at "sz") fun A2 H7 nA2 c7 hA2 => ?_
  walk_at "w"
  refine k_tup (by walk_at "sz") fun A3 H8 nA3 c8 hA3 => ?_
  walk_at "w"
  refine k_tup (by walk_at "sz") fun A4 H9 nA4 c9 hA4 => ?_
  walk_at "w"
  refine k_tup (by walk_at "sz") fun A5 H10 nA5 c10 hA5 => ?_
  walk_at "w"
  refine k_lst (by walk_at "sz") fun rl H11 nrl c11 hrl => ?_
  have d10 := c11
  have d9 := c10.same d10
  have d8 := c9.same d9
  have d7 := c8.same d8
  have d6 := c7.same d7
  have rR : R (fun _ => True) H11 (.ref rl) (.list ((rowsH hp).map Stp.data)) := .lst trivial hrl (.cons (.tup (d7.at hA2) (.cons (.str _) (.cons (.tup (d6.at hA1) (.cons (.str _) .nil)) (.cons (.int _) .nil)))) (.cons (.tup (d10.at hA5) (.cons (.str _) (.cons (.str _) (.cons (.tup (d9.at hA4) (.cons (.str _) (.cons (.tup (d8.at hA3) (.cons (.str _) .nil)) (.cons (.int _) .nil)))) .nil)))) .nil))
  walk_at "w"
  refine k_tup (by walk_at "sz") fun B1 H12 nB1 c12 hB1 => ?_
  walk_at "w"
  refine k_tup (by walk_at "sz") fun B2 H13 nB2 c13 hB2 => ?_
  walk_at "w"
  refine k_tup (by walk_at "sz") fun B3 H14 nB3 c14 hB3 => ?_
  walk_at "w"
  refine k_lst (by walk_at "sz") fun l1 H15 nl1 c15 hl1 => ?_
  walk_at "w"
  refine w_lcP walk_range [] (fun _ _ => True) (fun i y H => Im H y Stp.wait.data) trivial (fun _ _ _ _ _ _ _ => trivial) (fun _ _ => trivial) (fun D2 i acc z H16 H17 hi nD2 hD2 el2 iv c16 _ y => ?_) (fun D2 acc H16 nD2 c16 _ el2 hD2 ys => ?_)
  · obtain ⟨rfl, rfl⟩ := y
    walk_at "w"
    refine k_tup (by walk_at "sz") fun U1 H18 nU1 c18 hU1 => ?_
    exact lcp_end (fun _ _ _ _ _ _ _ => trivial) (fun _ _ _ _ _ _ c h => h.im c) nD2 (fun a ha => by cases ha) hD2 el2 (by omega) iv c18 trivial (.tup hU1 (.cons (.str _) .nil))
  have lacc : acc.length = more := by rw [el2]; omega
  refine w_cat (c16.at hl1) hD2 (by rw [lacc]; simp; omega) fun sl H17 nsl c17 hsl => ?_
  have f14 : Chg [] H14 H17 := (c15.same c16).same c17
  have f13 := c14.same f14
  have f12 := c13.same f13
  have f11 := c12.same f12
  have rS : R (fun _ => True) H17 (.ref sl) (.list ((startJ hp more).map Stp.data)) := by
    refine .lst trivial hsl ?_
    unfold startJ
    rw [List.map_cons, List.map_replicate]
    refine .cons (.tup (f14.at hB3) (.cons (.str _) (.cons (.str _) (.cons (.tup (f13.at hB2) (.cons (.str _) (.cons (.tup (f12.at hB1) (.cons (.str _) .nil)) (.cons (.int _) .nil)))) .nil)))) ?_
    have key : ∀ {acc : List V} {n : Nat}, acc.length = n → (∀ (i : Nat) (y : V), acc[i]? = some y → Im H16 y Stp.wait.data) → RA (fun _ => True) H17 acc (List.replicate n Stp.wait.data) := by
      intro acc
      induction acc with
      | nil => intro n hn _; rw [← hn]; exact .nil
      | cons v r ih =>
        intro n hn h
        rw [← hn]
        exact .cons ((h 0 v rfl).im c17).any (ih rfl fun i y hy => h (i + 1) y hy)
    exact key lacc ys
  walk_at "w"
  exact just_3 XT CF lm (low _ hpm) hpn (rR.same f11) rS q
end Fg
--LAW k13
namespace Fg
open PySem PySem.Spec PyProof.Rows L2
/-! ### the walk's small steps -/
local macro_rules | `(tactic| walk_at "hp") => `(tactic| first
  | assumption
  | exact upd_same
  | (refine Chg.at (by assumption) ?_; walk_at "hp")
  | (refine Chg.at1 (by assumption) ?_ (by walk_at "ne"); walk_at "hp"))
local macro_rules | `(tactic| walk_at "ne") => `(tactic| first | assumption | (apply Ne.symm; assumption))
local macro_rules | `(tactic| walk_at "sq") => `(tactic| first | assumption | exact sqL (by walk_at "hp") | (refine Chg.seq (by assumption) ?_; walk_at "sq"))
local macro_rules | `(tactic| walk_at "sz") => `(tactic| first | assumption | exact Nat.zero_le _ | (simp only [List.length_cons, List.length_nil]; decide) | exact Nat.le_trans (by first | omega | (simp; done) | (simp; omega)) (show 100000 ≤ sizeLine by decide) | exact Nat.lt_of_lt_of_le (by first | omega | (simp; done) | (simp; omega)) (show 100000 ≤ sizeLine by decide))
local macro_rules | `(tactic| walk_at "ix") => `(tactic| first | exact at0 | exact at1 | exact at2 | exact at3 | assumption | exact rfl | walk_at "ix2")
local macro_rules | `(tactic| walk_at "ix2") => `(tactic| fail)
local macro_rules | `(tactic| walk_at "num") => `(tactic| first | assumption | omega | decide | walk_at "num2")
local macro_rules | `(tactic| walk_at "num2") => `(tactic| fail)
local macro_rules | `(tactic| walk_at "im") => `(tactic| first | assumption | exact R.non (S := fun _ => False) | exact R.bl (S := fun _ => False) _ | exact R.int (S := fun _ => False) _ | exact R.str (S := fun _ => False) _ | (refine R.im (by assumption) ?_; walk_at "im"))
local macro_rules | `(tactic| walk_at "r") => `(tactic| first | assumption | exact R.non (S := fun _ => False) | exact R.bl (S := fun _ => False) _ | exact R.int (S := fun _ => False) _ | exact R.str (S := fun _ => False) _ | (refine R.same (by assumption) ?_; walk_at "r") | exact R.any (by walk_at "im"))
local macro_rules | `(tactic| walk_at "chg") => `(tactic| first
  | exact Chg.refl
  | assumption
  | (refine Chg.same ?_ (by assumption); walk_at "chg")
  | (refine Chg.both ?_ (by assumption); walk_at "chg")
  | (refine Chg.pre (by assumption) ?_; walk_at "chg"))
local macro_rules | `(tactic| walk_at "w1") => `(tactic| first
  | with_reducible apply w_seq
  | with_reducible apply w_asg
  | ((with_reducible apply w_var); (focus (exact rfl)))
  | with_reducible apply w_c
  | with_reducible apply w_op
  | with_reducible apply w_cons
  | with_reducible apply w_nil
  | with_reducible apply w_gName
  | with_reducible apply w_if
  | with_reducible apply w_test
  | with_reducible apply w_B
  | with_reducible apply w_isbl
  | with_reducible apply w_retN
  | with_reducible apply w_next
  | with_reducible apply w_drop
  | with_reducible apply w_cb
  | with_reducible apply w_call
  | with_reducible apply w_callN
  | with_reducible apply w_bm
  | with_reducible apply w_bm0
  | ((with_reducible apply w_tyL); (focus (walk_at "hp"; done)))
  | with_reducible apply w_dput
  | with_reducible apply w_m1
  | with_reducible apply w_isstr
  | with_reducible apply w_and
  | with_reducible apply w_or
  | with_reducible apply w_not
  | with_reducible apply w_andV
  | with_reducible apply w_orV
  | with_reducible apply w_notV
  | with_reducible apply w_ifE
  | with_reducible apply w_chain
  | with_reducible apply w_un
  | with_reducible apply w_neg
  | with_reducible apply w_add
  | with_reducible apply w_sub
  | ((with_reducible apply w_mod); (focus (walk_at "num"; done)))
  | ((with_reducible apply w_mul); (focus (walk_at "num"; done)))
  | ((with_reducible apply w_fdiv); (focus (walk_at "num"; done)))
  | ((with_reducible apply w_pow); (focus (walk_at "num"; done)))
  | with_reducible apply w_lt
  | with_reducible apply w_le
  | with_reducible apply w_gt
  | with_reducible apply w_ge
  | with_reducible apply w_ltS
  | with_reducible apply w_geS
  | with_reducible apply w_inC
  | with_reducible apply w_notInC
  | with_reducible apply w_isN
  | with_reducible apply w_notN
  | with_reducible apply w_isB
  | with_reducible apply w_notB
  | ((with_reducible apply w_addS); (focus (walk_at "sz"; done)))
  | ((with_reducible apply w_ixL); (focus (walk_at "sq"; done)); (focus (walk_at "ix"; done)))
  | ((with_reducible apply w_ixT); (focus (walk_at "hp"; done)); (focus (walk_at "ix"; done)))
  | ((with_reducible apply w_ixS); (focus (walk_at "sz"; done)); (focus (walk_at "ix"; done)))
  | with_reducible apply w_gSub
  | ((with_reducible apply w_gTup); (focus (walk_at "hp"; done)); (focus (exact rfl)))
  | with_reducible apply w_gCons
  | with_reducible apply w_gNil
  | ((with_reducible apply w_aug); (focus (exact rfl)))
  | with_reducible apply w_ipI
  | ((with_reducible apply w_eq); (focus (exact rfl)))
  | ((with_reducible apply w_ne); (focus (exact rfl)))
  | with_reducible apply w_max
  | with_reducible apply w_min
  | with_reducible apply w_abs
  | with_reducible apply w_intB
  | with_reducible apply w_intI
  | with_reducible apply w_tup1
  | with_reducible apply w_lst1
  | with_reducible apply w_sl
  | with_reducible apply w_part
  | with_reducible apply w_noPart
  | with_reducible apply w_isint
  | ((with_reducible apply w_slS); (focus (walk_at "sz"; done)))
  | with_reducible apply w_iteT
  | with_reducible apply w_iteF
  | with_reducible apply w_iteN
  | ((with_reducible apply w_iteYes); (focus (exact rfl)))
  | ((with_reducible apply w_iteNo); (focus (exact rfl)))
  | ((with_reducible apply w_lenL); (focus (walk_at "sq"; done)))
  | ((with_reducible apply w_lenT); (focus (walk_at "hp"; done)))
  | ((with_reducible apply w_lenS); (focus (walk_at "sz"; done)))
  | with_reducible apply w_lc
  | with_reducible apply w_for
  | with_reducible apply w_yes
  | ((with_reducible apply w_wipe); (focus (exact rfl)))
  | with_reducible apply w_iList
  | with_reducible apply w_iTup
  | with_reducible apply w_iStr
  | with_reducible apply w_iRng1
  | with_reducible apply w_iRng2
  | with_reducible apply w_iZip
  | with_reducible apply w_iEnum
  | ((with_reducible apply d_iList); (focus (walk_at "sq"; done)))
  | ((with_reducible apply d_iTup); (focus (walk_at "hp"; done)))
  | with_reducible apply d_iStr
  | ((with_reducible apply d_iRng1); (focus (walk_at "num"; done)); (focus (walk_at "num"; done)))
  | ((with_reducible apply d_iRng2); (focus (walk_at "num"; done)); (focus (walk_at "num"; done)); (focus (walk_at "num"; done)); (focus (walk_at "num"; done)))
  | ((with_reducible apply d_iZip); (focus (walk_at "sq"; done)); (focus (walk_at "sq"; done)))
  | ((with_reducible apply d_iEnum); (focus (walk_at "sq"; done)))
  | walk_at "w2")
local macro_rules | `(tactic| walk_at "w2") => `(tactic| fail)
local macro_rules | `(tactic| walk_at "wn") => `(tactic| repeat walk_at "w1")
local macro_rules | `(tactic| walk_at "w") => `(tactic| repeat (first | walk_at "w1" | with_reducible apply w_ret))

local macro_rules | `(tactic| walk_at "w2") => `(tactic| first
  | ((with_reducible apply w_isInt); (focus (walk_at "r"; done)))
  | ((with_reducible apply w_isBool); (focus (walk_at "r"; done)))
  | ((with_reducible apply w_isStr); (focus (walk_at "r"; done)))
  | ((with_reducible apply w_isTup); (focus (walk_at "r"; done)))
  | ((with_reducible apply w_isLst); (focus (walk_at "r"; done)))
  | with_reducible apply w_fld
  | with_reducible apply w_sfld
  | with_reducible apply w_faug
  | with_reducible apply w_rAdd
  | with_reducible apply w_rSub
  | with_reducible apply w_make
  | with_reducible apply w_orT
  | with_reducible apply w_dgetd
  | with_reducible apply w_dgetk
  | with_reducible apply w_dsetd
  | ((with_reducible apply k_dgetd); (focus (walk_at "hp"; done)))
  | ((with_reducible apply k_dsetd); (focus (walk_at "hp"; done)))
  | walk_at "w3")
local macro_rules | `(tactic| walk_at "w3") => `(tactic| fail)

local macro_rules | `(tactic| walk_at "w3") => `(tactic| first
  | ((with_reducible apply g_Frame_number); (focus (assumption; done)); (focus (walk_at "hp"; done)))
  | ((with_reducible apply u_Frame_number); (focus (assumption; done)); (focus (walk_at "hp"; done)))
  | ((with_reducible apply g_Frame_path); (focus (assumption; done)); (focus (walk_at "hp"; done)))
  | ((with_reducible apply u_Frame_path); (focus (assumption; done)); (focus (walk_at "hp"; done)))
  | ((with_reducible apply g_Frame_rows); (focus (assumption; done)); (focus (walk_at "hp"; done)))
  | ((with_reducible apply u_Frame_rows); (focus (assumption; done)); (focus (walk_at "hp"; done)))
  | ((with_reducible apply g_Frame_arg); (focus (assumption; done)); (focus (walk_at "hp"; done)))
  | ((with_reducible apply u_Frame_arg); (focus (assumption; done)); (focus (walk_at "hp"; done)))
  | ((with_reducible apply g_Frame_at); (focus (assumption; done)); (focus (walk_at "hp"; done)))
  | ((with_reducible apply u_Frame_at); (focus (assumption; done)); (focus (walk_at "hp"; done)))
  | ((with_reducible apply g_Frame_past); (focus (assumption; done)); (focus (walk_at "hp"; done)))
  | ((with_reducible apply u_Frame_past); (focus (assumption; done)); (focus (walk_at "hp"; done)))
  | ((with_reducible apply g_Frame_born); (focus (assumption; done)); (focus (walk_at "hp"; done)))
  | ((with_reducible apply u_Frame_born); (focus (assumption; done)); (focus (walk_at "hp"; done)))
  | ((with_reducible apply g_Record_mark); (focus (assumption; done)); (focus (walk_at "hp"; done)))
  | ((with_reducible apply u_Record_mark); (focus (assumption; done)); (focus (walk_at "hp"; done)))
  | ((with_reducible apply g_Record_word); (focus (assumption; done)); (focus (walk_at "hp"; done)))
  | ((with_reducible apply u_Record_word); (focus (assumption; done)); (focus (walk_at "hp"; done)))
  | ((with_reducible apply g_Record_doer); (focus (assumption; done)); (focus (walk_at "hp"; done)))
  | ((with_reducible apply u_Record_doer); (focus (assumption; done)); (focus (walk_at "hp"; done)))
  | ((with_reducible apply g_Record_child); (focus (assumption; done)); (focus (walk_at "hp"; done)))
  | ((with_reducible apply u_Record_child); (focus (assumption; done)); (focus (walk_at "hp"; done)))
  | ((with_reducible apply g_Record_reads); (focus (assumption; done)); (focus (walk_at "hp"; done)))
  | ((with_reducible apply u_Record_reads); (focus (assumption; done)); (focus (walk_at "hp"; done)))
  | ((with_reducible apply g_Record_writes); (focus (assumption; done)); (focus (walk_at "hp"; done)))
  | ((with_reducible apply u_Record_writes); (focus (assumption; done)); (focus (walk_at "hp"; done)))
  | ((with_reducible apply g_Outcome_cells); (focus (assumption; done)); (focus (walk_at "hp"; done)))
  | ((with_reducible apply u_Outcome_cells); (focus (assumption; done)); (focus (walk_at "hp"; done)))
  | ((with_reducible apply g_Outcome_given); (focus (assumption; done)); (focus (walk_at "hp"; done)))
  | ((with_reducible apply u_Outcome_given); (focus (assumption; done)); (focus (walk_at "hp"; done)))
  | ((with_reducible apply g_Outcome_steps); (focus (assumption; done)); (focus (walk_at "hp"; done)))
  | ((with_reducible apply u_Outcome_steps); (focus (assumption; done)); (focus (walk_at "hp"; done)))
  | ((with_reducible apply g_Outcome_deepest); (focus (assumption; done)); (focus (walk_at "hp"; done)))
  | ((with_reducible apply u_Outcome_deepest); (focus (assumption; done)); (focus (walk_at "hp"; done))))
theorem Done.pre {p : Prg} {d : Nat} {f : Frm} {m m' : Mc} (h : Done p d f m m') : ∃ t, m'.recs = m.recs ++ t := by
  induction h with
  | over _ => exact ⟨[], by rw [List.append_nil]⟩
  | @step d f m m' s h1 h2 h3 ih =>
    obtain ⟨t, e⟩ := ih
    exact ⟨m.rcd f s :: t, by rw [e]; show (m.recs ++ [_]) ++ t = _; rw [List.append_assoc]; rfl⟩
  | @sub d f m m1 m' s x w h1 h2 h3 h4 ih1 ih2 =>
    obtain ⟨t1, e1⟩ := ih1
    obtain ⟨t2, e2⟩ := ih2
    exact ⟨_, by rw [e2, e1]; show ((m.recs ++ [_]) ++ t1) ++ t2 = _; rw [List.append_assoc, List.append_assoc]⟩
theorem Done.first {p : Prg} {d : Nat} {f : Frm} {m m' : Mc} (h : Done p d f m m') : m'.recs = m.recs ∨ ∃ r t, m'.recs = m.recs ++ r :: t ∧ r.path = f.path ∧ r.past = f.past := by
  cases h with
  | over _ => exact .inl rfl
  | step h1 h2 h3 =>
    obtain ⟨t, e⟩ := h3.pre
    exact .inr ⟨_, t, by rw [e]; show (m.recs ++ [_]) ++ t = _; rw [List.append_assoc]; rfl, rfl, rfl⟩
  | sub h1 h2 h3 h4 =>
    obtain ⟨t1, e1⟩ := h3.pre
    obtain ⟨t2, e2⟩ := h4.pre
    exact .inr ⟨_, t1 ++ t2, by rw [e2, e1]; show ((m.recs ++ [_]) ++ t1) ++ t2 = _; rw [List.append_assoc, List.append_assoc]; rfl, rfl, rfl⟩
theorem Tells.ran1 {p : Prg} {x : Str} {g : Int} {cs cs' : Cells} {gv : Given} {n dp : Nat} (h : Tells p 0 ⟨0, [], p.rows x, g, 0, 0, 0⟩ (Mc.start p x g (cStart cs)) cs' gv n dp) {most : Nat} (hm : n ≤ most) (h1 : 1 ≤ n) : ∃ m, Prg.ran p x g cs (most : Int) = some m ∧ m.cells = cs' ∧ m.given = gv ∧ m.recs.length = n ∧ m.deep = max 1 dp ∧ ∃ r t, m.recs = r :: t ∧ r.path = [] ∧ r.past = 0 := by
  obtain ⟨m', a, b, c, e, f⟩ := h
  have e0 : (Mc.start p x g (cStart cs)).recs = [] := rfl
  have e1 : (Mc.start p x g (cStart cs)).deep = 1 := rfl
  have e2 : (Mc.start p x g (cStart cs)).recs.length = 0 := rfl
  refine ⟨_, ran_done a (by omega), b, c, by show m'.recs.length = n; omega, by show m'.deep = _; rw [f, e1], ?_⟩
  rcases a.first with z | ⟨r, t, z, z1, z2⟩
  · rw [z, e2] at e
    omega
  · exact ⟨r, t, by show m'.recs = _; rw [z, e0]; rfl, z1, z2⟩
def t_law_9 (K : PySem.W.Frag) : TS :=
    tSeq (tAsg (tCallSD (sp_run K) [.non, .int 2000] (WE (fun _ _ _ _ => False)) (tCons (tOp (rIxT K) (tVar 6) (tC (.int 0))) (tCons (tOp (rIxL K) (tVar 4) (tC (.int 0))) (tCons (tOp (rIxT K) (tVar 6) (tC (.int 1))) (tNil))))) (gName 7))
    (tSeq (tIfS (tOr (tTest (tOp oNeD (tLst (tCons (tFld K (tVar 7) "cells") (tCons (tFld K (tVar 7) "given") (tNil)))) (tLst (tCons (tOp (rIxT K) (tVar 6) (tC (.int 2))) (tCons (tOp (rIxT K) (tVar 6) (tC (.int 3))) (tNil)))))) (tTest (tOp oNeD (tLst (tCons (tCB (cLenI (He.ga K "Outcome") (sp_Outcome___len__ K)) (tCons (tVar 7) (tNil))) (tCons (tFld K (tVar 7) "deepest") (tNil)))) (tLst (tCons (tOp (rIxT K) (tVar 6) (tC (.int 4))) (tCons (tOp (rIxT K) (tVar 6) (tC (.int 5))) (tNil))))))) (tRet (tC (.bl false))) (tNext))
    (tRet (tOp oEqD (tOp (rIxL K) (tFld K (tVar 7) "steps") (tC (.int 0))) (tTup (tCons (tTup (tNil)) (tCons (tC (.int 0)) (tNil)))))))
theorem law_9 {K : PySem.W.Frag} (CF : CFs K) {H : Hp} {Q : VK} {T nl : Addr} {x : Str} {xs : List V} {n dp : Nat} {a0 a1 a2 a3 a5 : Option V} (hnl : H nl = some (.lst (.str x :: xs))) (dA : DueAt H T x n dp) (ln : n ≤ 2000) (q : ∀ H', Q (.bl true) H') :
    t_law_9 K (fin Q) [a0, a1, a2, a3, some (.ref nl), a5, some (.ref T), none] H := by
  unfold t_law_9
  have oc := CF.oc
  obtain ⟨pl, cl, gl, p, g, cs, gv, hT, rP, rC, rG, due⟩ := dA
  obtain ⟨cs', gv', dp', tl, e1, e2, e3, e4⟩ := due.tells
  obtain ⟨m, er, m1, m2, m3, m4, r0, t0, m5, m6, m7⟩ := tl.ran1 (most := 2000) ln due.pos
  have er : p.ran x g [] 2000 = some m := er
  walk_at "w"
  refine w_callX ?_
  walk_at "w"
  refine ⟨pl, p, x, g, .non, [], 2000, _, rfl, rP, due.ok, due.mem, .inl ⟨rfl, rfl⟩, by decide, by decide, (fun m' e => by rw [er] at e; cases e; rw [m2]; exact e3), (fun m' e o H1 no c1 oa => ?_), (fun e => by rw [er] at e; cases e)⟩
  rw [er] at e
  cases e
  obtain ⟨dx, ocl, ogl, osl, ho, r1, r2, r3⟩ := oa
  rw [m1, e1] at r1
  rw [m2, e2] at r2
  have hT1 := c1.at hT
  walk_at "w"
  refine k_lst (by walk_at "sz") fun D1 H2 nD1 c2 hD1 => ?_
  have hT2 := c2.at hT1
  walk_at "w"
  refine k_lst (by walk_at "sz") fun D2 H3 nD2 c3 hD2 => ?_
  have c13 := c2.same c3
  have c03 := c1.same c13
  have fl1 : noDic (.list [.list (cs.map pairD), giftsD gv]) = true := by
    show (noDic (.list (cs.map pairD)) && (noDic (giftsD gv) && true)) = true
    rw [pairs_flat, gifts_flat]
    rfl
  have dp1 : (PyData.list [.list (cs.map pairD), giftsD gv]).depth ≤ 6 := by
    have h1 := pairs_depth cs
    have h2 := gifts_depth gv
    have : PyData.depthAll [.list (cs.map pairD), giftsD gv] ≤ 5 := depthAll_le fun d hd => by
      simp only [List.mem_cons, List.not_mem_nil, or_false] at hd
      rcases hd with rfl | rfl <;> omega
    show PyData.depthAll _ + 1 ≤ 6
    omega
  have rA : R (fun _ => True) H3 (.ref D1) (.list [.list (cs.map pairD), giftsD gv]) := .lst trivial (c3.at hD1) (.cons ((r1.same c13).mono fun _ _ => trivial) (.cons ((r2.same c13).mono fun _ _ => trivial) .nil))
  have rB : R (fun _ => True) H3 (.ref D2) (.list [.list (cs.map pairD), giftsD gv]) := .lst trivial hD2 (.cons (rC.same c03) (.cons (rG.same c03) .nil))
  refine w_neD rA rB fl1 fl1 (by omega) ?_
  rw [eqv_self _ fl1]
  have ho3 := c13.at ho
  have r33 := r3.same c13
  cases r33 with
  | @lst _ sxs _ ss hs rs =>
  have lsx : sxs.length = m.recs.length := by rw [rs.length]; exact List.length_map _
  walk_at "w"
  refine w_lenI (C := He.ga K "Outcome") (dx := dx) (fs := _) ho3 ⟨o, dx, osl, _, _, _, sxs, rfl, ho3, hs, m.recs.length, by rw [lsx], by omega, ?_⟩
  walk_at "w"
  refine k_lst (by walk_at "sz") fun D3 H4 nD3 c4 hD3 => ?_
  have hT4 := (c3.same c4).at hT2
  walk_at "w"
  refine k_lst (by walk_at "sz") fun D4 H5 nD4 c5 hD4 => ?_
  rw [m3, m4, ← e4] at hD3
  have rA2 : R (fun _ => True) H5 (.ref D3) (.list [.int (n : Nat), .int (dp : Nat)]) := .lst trivial (c5.at hD3) (.cons (.int _) (.cons (.int _) .nil))
  have rB2 : R (fun _ => True) H5 (.ref D4) (.list [.int (n : Nat), .int (dp : Nat)]) := .lst trivial hD4 (.cons (.int _) (.cons (.int _) .nil))
  refine w_neD rA2 rB2 rfl rfl (by show min 1 1 ≤ 60; decide) ?_
  rw [eqv_self _ rfl]
  have ho5 := (c4.same c5).at ho3
  have hs5 := (c4.same c5).at hs
  have rs5 := rs.same (c4.same c5)
  have em : markDs m = markD [] 0 :: t0.map fun r => markD r.path r.past := by
    unfold markDs
    rw [m5, List.map_cons, m6, m7]
  rw [em] at rs5
  cases rs5 with
  | @cons v0 vr _ _ rv0 rvr =>
  walk_at "w"
  refine k_tup (by walk_at "sz") fun E0' H6 nE0 c6 hE0 => ?_
  walk_at "w"
  refine k_tup (by walk_at "sz") fun E1 H7 nE1 c7 hE1 => ?_
  have rM : R (fun _ => True) H7 (.ref E1) (markD [] 0) := .tup hE1 (.cons (.tup (c7.at hE0) .nil) (.cons (.int _) .nil))
  refine w_eqD (rv0.same (c6.same c7)) rM rfl rfl (by show min 2 2 ≤ 60; decide) ?_
  rw [eqv_self _ rfl]
  exact q H7
def t_law_7 (K : PySem.W.Frag) : TS :=
    tSeq (tIfS (tTest (tOp rEq (tVar 2) (tC (.int 5)))) (tRet (tCall (sp__law_just_enough K) [] E0 (tCons (tVar 4) (tCons (tOp oMod (tVar 3) (tC (.int 3))) (tNil))))) (tNext))
    (tSeq (tIfS (tTest (tOp rEq (tVar 2) (tC (.int 0)))) (tAsg (tCall (sp__law_down K) [] E0 (tCons (tVar 1) (tCons (tVar 4) (tCons (tVar 3) (tNil))))) (gName 6)) (tIfS (tTest (tOp rEq (tVar 2) (tC (.int 1)))) (tAsg (tCall (sp__law_added K) [] E0 (tCons (tVar 1) (tCons (tVar 4) (tCons (tVar 3) (tNil))))) (gName 6)) (tIfS (tTest (tOp rEq (tVar 2) (tC (.int 2)))) (tAsg (tCall (sp__law_by_turns K) [] E0 (tCons (tVar 4) (tCons (tOp oAdd (tVar 3) (tOp oMod (tVar 3) (tC (.int 400)))) (tNil)))) (gName 6)) (tIfS (tTest (tOp rEq (tVar 2) (tC (.int 3)))) (tAsg (tCall (sp__law_doubled K) [] E0 (tCons (tVar 4) (tCons (tOp oMod (tVar 3) (tC (.int 8))) (tNil)))) (gName 6)) (tAsg (tCall (sp__law_fourfold K) [] E0 (tCons (tVar 4) (tCons (tOp oMod (tVar 3) (tC (.int 5))) (tNil)))) (gName 6))))))
    (tSeq (tAsg (tCallSD (sp_run K) [.non, .int 2000] (WE (fun _ _ _ _ => False)) (tCons (tOp (rIxT K) (tVar 6) (tC (.int 0))) (tCons (tOp (rIxL K) (tVar 4) (tC (.int 0))) (tCons (tOp (rIxT K) (tVar 6) (tC (.int 1))) (tNil))))) (gName 7))
    (tSeq (tIfS (tOr (tTest (tOp oNeD (tLst (tCons (tFld K (tVar 7) "cells") (tCons (tFld K (tVar 7) "given") (tNil)))) (tLst (tCons (tOp (rIxT K) (tVar 6) (tC (.int 2))) (tCons (tOp (rIxT K) (tVar 6) (tC (.int 3))) (tNil)))))) (tTest (tOp oNeD (tLst (tCons (tCB (cLenI (He.ga K "Outcome") (sp_Outcome___len__ K)) (tCons (tVar 7) (tNil))) (tCons (tFld K (tVar 7) "deepest") (tNil)))) (tLst (tCons (tOp (rIxT K) (tVar 6) (tC (.int 4))) (tCons (tOp (rIxT K) (tVar 6) (tC (.int 5))) (tNil))))))) (tRet (tC (.bl false))) (tNext))
    (tRet (tOp oEqD (tOp (rIxL K) (tFld K (tVar 7) "steps") (tC (.int 0))) (tTup (tCons (tTup (tNil)) (tCons (tC (.int 0)) (tNil)))))))))
theorem law_7 {K : PySem.W.Frag} (CF : CFs K) {H : Hp} {Q : VK} {b nl : Addr} {ns : List Str} {pick : Int} {many k : Nat} {a0 a5 : Option V} (bag : Well H b k) (hk : 10 ≤ k) (nlb : nl ≠ b) (hnl : H nl = some (.lst (ns.map V.str))) (l6 : ns.length = 6) (nd : ns.Nodup) (low : ∀ x ∈ ns, nameS x = true) (lm : many < 480) (q : ∀ H', Q (.bl true) H') :
    t_law_7 K (fin Q) [a0, some (.ref b), some (.int pick), some (.int (many : Nat)), some (.ref nl), a5, none, none] H := by
  show (tSeq _ (tSeq _ (t_law_9 K))) (fin Q) [a0, some (.ref b), some (.int pick), some (.int (many : Nat)), some (.ref nl), a5, none, none] H
  obtain ⟨x, y, xs, rfl⟩ : ∃ x y xs, ns = x :: y :: xs := by
    match ns, l6 with
    | x :: y :: xs, _ => exact ⟨x, y, xs, rfl⟩
  have lx := low x (by simp)
  have ly := low y (by simp)
  have xy : x ≠ y := fun z => (List.nodup_cons.mp nd).1 (by rw [z]; simp)
  have hnl' : H nl = some (.lst (.str x :: .str y :: xs.map V.str)) := hnl
  have fin9 : ∀ (H' : Hp) (T : Addr) (n dp : Nat), Chg [b] H H' → DueAt H' T x n dp → n ≤ 2000 → t_law_9 K (fin Q) [a0, some (.ref b), some (.int pick), some (.int (many : Nat)), some (.ref nl), a5, some (.ref T), none] H' := fun H' T n dp c dA ln => law_9 CF (c.at1 hnl' nlb) dA ln q
  have m3 : ((many : Nat) : Int) % 3 = ((many % 3 : Nat) : Int) := by omega
  have m400 : ((many : Nat) : Int) + ((many : Nat) : Int) % 400 = ((many + many % 400 : Nat) : Int) := by omega
  have m8 : ((many : Nat) : Int) % 8 = ((many % 8 : Nat) : Int) := by omega
  have m5 : ((many : Nat) : Int) % 5 = ((many % 5 : Nat) : Int) := by omega
  walk_at "w"
  refine w_iteD (fun h5 => ?_) (fun h5 => ?_)
  · walk_at "w"
    rw [m3]
    refine ⟨nl, x :: y :: xs, many % 3, rfl, hnl, l6, nd, low, by omega, fun H' => ?_⟩
    exact q H'
  walk_at "w"
  refine w_iteD (fun h0 => ?_) (fun h0 => ?_)
  · walk_at "w"
    refine ⟨b, nl, x, y :: xs, many, k, rfl, bag, by omega, nlb, hnl, lx, by omega, fun T H' c' _ dA => ?_⟩
    exact fin9 H' T _ _ c' dA (by omega)
  walk_at "w"
  refine w_iteD (fun h1 => ?_) (fun h1 => ?_)
  · walk_at "w"
    refine ⟨b, nl, x, y :: xs, many, k, rfl, bag, by omega, nlb, hnl, lx, by omega, fun T H' c' dA => ?_⟩
    exact fin9 H' T _ _ c' dA (by omega)
  walk_at "w"
  refine w_iteD (fun h2 => ?_) (fun h2 => ?_)
  · walk_at "w"
    rw [m400]
    refine ⟨nl, x, y, xs, many + many % 400, rfl, hnl, lx, ly, xy, by omega, fun T H' c' dA => ?_⟩
    refine fin9 H' T _ _ (c'.wide (by simp)) dA ?_
    have h1 := (turnN_eq (many + many % 400)).1
    have h2 := (ones_eq (many + many % 400)).1
    omega
  walk_at "w"
  refine w_iteD (fun h3 => ?_) (fun h3 => ?_)
  · walk_at "w"
    rw [m8]
    refine ⟨nl, x, y :: xs, many % 8, rfl, hnl, lx, by omega, fun T H' c' dA => ?_⟩
    refine fin9 H' T _ _ (c'.wide (by simp)) dA ?_
    have h1 := dblN_eq (many % 8)
    have h2 : 2 ^ (many % 8) ≤ 2 ^ 7 := Nat.pow_le_pow_right (by decide) (by omega)
    omega
  · walk_at "w"
    rw [m5]
    refine ⟨nl, x :: y :: xs, many % 5, rfl, hnl, l6, nd, low, by omega, fun T H' c' dA => ?_⟩
    refine fin9 H' T _ _ (c'.wide (by simp)) dA ?_
    have hc : many % 5 = 0 ∨ many % 5 = 1 ∨ many % 5 = 2 ∨ many % 5 = 3 ∨ many % 5 = 4 := by omega
    rcases hc with e | e | e | e | e <;> rw [e] <;> decide
def t_law (K : PySem.W.Frag) : TS :=
    tSeq (tAsg (tCall sp__law_well [] E0 (tCons (tCall (sp__law_cell_at K) [] E0 (tCons (tVar 0) (tCons (tC (.int 0)) (tNil)))) (tCons (tC (.int 1)) (tNil)))) (gName 1))
    (tSeq (tAsg (tCall sp__law_draw [] E0 (tCons (tVar 1) (tCons (tC (.int 8)) (tNil)))) (gName 2))
    (tSeq (tIfS (tTest (tOp rEq (tVar 2) (tC (.int 6)))) (tRet (tCall (sp__law_without_end K) [] E0 (tCons (tVar 1) (tNil)))) (tNext))
    (tSeq (tIfS (tTest (tOp rEq (tVar 2) (tC (.int 7)))) (tRet (tCall (sp__law_deeper K) [] E0 (tCons (tVar 1) (tNil)))) (tNext))
    (tSeq (tAsg (tCall sp__law_draw [] E0 (tCons (tVar 1) (tCons (tOp (rIxL K) (tLst (tCons (tC (.int 12)) (tCons (tC (.int 480)) (tNil)))) (tCall sp__law_draw [] E0 (tCons (tVar 1) (tCons (tC (.int 2)) (tNil))))) (tNil)))) (gName 3))
    (tSeq (tAsg (tLst (tNil)) (gName 4))
    (tSeq (tFor (iRng1 (tCons (tC (.int 6)) (tNil))) (gName 5) (tDrop (tBM K "list" rAppend (tVar 4) (tCons (tCall (sp__law_new_name K) [] E0 (tCons (tVar 1) (tCons (tVar 4) (tNil)))) (tNil)))))
    (tSeq (tIfS (tTest (tOp rEq (tVar 2) (tC (.int 5)))) (tRet (tCall (sp__law_just_enough K) [] E0 (tCons (tVar 4) (tCons (tOp oMod (tVar 3) (tC (.int 3))) (tNil))))) (tNext))
    (tSeq (tIfS (tTest (tOp rEq (tVar 2) (tC (.int 0)))) (tAsg (tCall (sp__law_down K) [] E0 (tCons (tVar 1) (tCons (tVar 4) (tCons (tVar 3) (tNil))))) (gName 6)) (tIfS (tTest (tOp rEq (tVar 2) (tC (.int 1)))) (tAsg (tCall (sp__law_added K) [] E0 (tCons (tVar 1) (tCons (tVar 4) (tCons (tVar 3) (tNil))))) (gName 6)) (tIfS (tTest (tOp rEq (tVar 2) (tC (.int 2)))) (tAsg (tCall (sp__law_by_turns K) [] E0 (tCons (tVar 4) (tCons (tOp oAdd (tVar 3) (tOp oMod (tVar 3) (tC (.int 400)))) (tNil)))) (gName 6)) (tIfS (tTest (tOp rEq (tVar 2) (tC (.int 3)))) (tAsg (tCall (sp__law_doubled K) [] E0 (tCons (tVar 4) (tCons (tOp oMod (tVar 3) (tC (.int 8))) (tNil)))) (gName 6)) (tAsg (tCall (sp__law_fourfold K) [] E0 (tCons (tVar 4) (tCons (tOp oMod (tVar 3) (tC (.int 5))) (tNil)))) (gName 6))))))
    (tSeq (tAsg (tCallSD (sp_run K) [.non, .int 2000] (WE (fun _ _ _ _ => False)) (tCons (tOp (rIxT K) (tVar 6) (tC (.int 0))) (tCons (tOp (rIxL K) (tVar 4) (tC (.int 0))) (tCons (tOp (rIxT K) (tVar 6) (tC (.int 1))) (tNil))))) (gName 7))
    (tSeq (tIfS (tOr (tTest (tOp oNeD (tLst (tCons (tFld K (tVar 7) "cells") (tCons (tFld K (tVar 7) "given") (tNil)))) (tLst (tCons (tOp (rIxT K) (tVar 6) (tC (.int 2))) (tCons (tOp (rIxT K) (tVar 6) (tC (.int 3))) (tNil)))))) (tTest (tOp oNeD (tLst (tCons (tCB (cLenI (He.ga K "Outcome") (sp_Outcome___len__ K)) (tCons (tVar 7) (tNil))) (tCons (tFld K (tVar 7) "deepest") (tNil)))) (tLst (tCons (tOp (rIxT K) (tVar 6) (tC (.int 4))) (tCons (tOp (rIxT K) (tVar 6) (tC (.int 5))) (tNil))))))) (tRet (tC (.bl false))) (tNext))
    (tRet (tOp oEqD (tOp (rIxL K) (tFld K (tVar 7) "steps") (tC (.int 0))) (tTup (tCons (tTup (tNil)) (tCons (tC (.int 0)) (tNil))))))))))))))))
def sp_law (K : PySem.W.Frag) : Sp := fun vs H Q _ => ∃ (a : Addr) (ns : List Int), vs = [.ref a] ∧ SqL K H a (ns.map V.int) ∧ ns.length ≤ 63 ∧ ∀ H', Q (.bl true) H'
theorem pure_law {K : PySem.W.Frag} (CF : CFs K) (vs : List V) (H : Hp) (Q : VK) (E : XK) (h : sp_law K vs H Q E) : t_law K (fin Q) (start ["script", "well", "pick", "many", "names", "k", "due", "found"] vs) H := by
  obtain ⟨a, script, rfl, hS, hlen, q⟩ := h
  show (tSeq _ (tSeq _ (tSeq _ (tSeq _ (tSeq _ (tSeq _ (tSeq _ (t_law_7 K)))))))) (fin Q) [some (.ref a), none, none, none, none, none, none, none] H
  walk_at "w"
  refine ⟨a, script, 0, rfl, hS, by decide, fun cv => ?_⟩
  walk_at "w"
  refine ⟨cv, 1, rfl, by decide, by decide, fun b H1 nb c1 bag1 => ?_⟩
  walk_at "w"
  refine u_draw bag1 (by decide) (by decide) (by decide) fun pick H2 c2 bag2 p0 p1 => ?_
  walk_at "w"
  refine w_iteD (fun h6 => ?_) (fun h6 => ?_)
  · walk_at "w"
    exact ⟨b, _, rfl, bag2, by decide, fun H' => q H'⟩
  walk_at "w"
  refine w_iteD (fun h7 => ?_) (fun h7 => ?_)
  · walk_at "w"
    exact ⟨b, _, rfl, bag2, by decide, fun H' => q H'⟩
  walk_at "w"
  refine k_lst (by walk_at "sz") fun dl H3 ndl c3 hdl => ?_
  have dlb : dl ≠ b := (bag2.ne ndl).symm
  walk_at "w"
  refine u_draw (bag2.same c3) (by decide) (by decide) (by decide) fun u H4 c4 bag4 u0 u1 => ?_
  obtain ⟨mv, emv, hmv⟩ := atD (xs := [V.int 12, V.int 480]) u0 u1
  refine w_ixL (sqL (c4.at1 hdl dlb)) emv ?_
  obtain ⟨mz, rfl, mz0, mz1⟩ : ∃ mz : Int, mv = .int mz ∧ 12 ≤ mz ∧ mz ≤ 480 := by
    simp only [List.mem_cons, List.not_mem_nil, or_false] at hmv
    rcases hmv with rfl | rfl
    · exact ⟨12, rfl, by decide, by decide⟩
    · exact ⟨480, rfl, by decide, by decide⟩
  walk_at "w"
  refine u_draw bag4 (by decide) (by omega) (by omega) fun v H5 c5 bag5 v0 v1 => ?_
  obtain ⟨many, rfl⟩ : ∃ many : Nat, v = (many : Nat) := ⟨v.toNat, by rw [Int.toNat_of_nonneg v0]⟩
  walk_at "w"
  refine k_lst (by walk_at "sz") fun nl H6 nnl c6 hnl => ?_
  have nlb : nl ≠ b := (bag5.ne nnl).symm
  have bag6 := bag5.same c6
  walk_at "w"
  refine for_it walk_range (fun i σ H7 => Well H7 b (10 ^ 12 - 100 - 20 * i) ∧ ∃ (ns : List Str) (y5 : Option V), σ = [some (.ref a), some (.ref b), some (.int pick), some (.int (many : Nat)), some (.ref nl), y5, none, none] ∧ H7 nl = some (.lst (ns.map V.str)) ∧ ns.length = i ∧ ns.Nodup ∧ ∀ x ∈ ns, nameS x = true)
    ⟨bag6.le (by omega), [], none, rfl, hnl, rfl, List.nodup_nil, fun x hx => (by cases hx)⟩ (fun _ _ _ _ _ => trivial) (fun i x σ H7 H8 hi z y => ?_) (fun σ H7 z => ?_)
  · obtain ⟨bag7, ns, y5, rfl, hnl7, lns, nd, low⟩ := z
    obtain ⟨rfl, rfl⟩ := y
    have hi' : i < 6 := by omega
    walk_at "w"
    refine ⟨b, nl, ns, _, rfl, bag7, by omega, hnl7, nlb, by omega, low, fun x1 H9 c9 bag9 nx nn => ?_⟩
    walk_at "w"
    refine w_append (c9.at1 hnl7 nlb) (by rw [List.length_map]; walk_at "sz") fun H10 c10 h10 => ?_
    refine ⟨(bag9.one c10 nlb.symm).le (by omega), ns ++ [x1], _, rfl, by rw [List.map_append]; exact h10, by rw [List.length_append, List.length_singleton, lns], ?_, fun x hx => ?_⟩
    · exact List.nodup_append.mpr ⟨nd, by simp, fun a ha b' hb' e => nn (by rw [← List.mem_singleton.mp hb', ← e]; exact ha)⟩
    · rcases List.mem_append.mp hx with hx | hx
      · exact low x hx
      · rw [List.mem_singleton.mp hx]; exact nx
  · obtain ⟨bag7, ns, y5, rfl, hnl7, lns, nd, low⟩ := z
    exact law_7 CF bag7 (by decide) nlb hnl7 (by rw [lns]; rfl) nd low (by omega) q
end Fg
namespace Fg
open PySem PySem.Spec PyProof.Rows L2
section
variable {P : Program} {w : World} {K : PySem.W.Frag} {mg : Str → Option Value} {base : Heap} {x qual : Str} {st : Stmt} {f : Addr} {fd : FuncData} {sp : Sp} {k : Nat} {ps : List Str} {dvs : List V}
theorem FnP.caldX (n j : Nat) (F : FnP K x st dvs f fd) (ok : FnOk P w K mg base (L2.CX P w) k f fd ps sp) (g : mg x = some (.ref f)) (hd : dvs ≠ []) (hn : n + (dvs.length - j) = ps.length)
    (h : ∀ (T : Addr) (kV doc pm : Value) (an : Option Addr) (cdv ct : Value) (us its : List Value), us.length = n → its.length = dvs.length →
      ∃ k, bindArgs (PySem.W.fnOf x x (defArgs st) (defBody st) (defScope st) (.ref T) kV doc pm an cdv ct) ⟨us, []⟩ = seqItems? (.ref T) >>= k ∧ k (some its.toArray) = pure (ps.zip (us ++ its.drop j))) : CalX P w K mg base k x sp (dvs.drop j) := by
  obtain ⟨ds, v, b⟩ := F.binds1 n j hd hn h
  exact ⟨f, fd, ps, ds, ok, g, F.kp, b, v⟩
/-- a class whose instances are made by its own __init__ -/
theorem MtP.mki {C : Str} (F : MtP K "__init__" qual st (He.ma K (He.ga K C) "__init__") fd) (M : Mk K (He.ga K C) (He.ma K (He.ga K C) "__init__")) (ok : FnOk P w K mg base CX0 k (He.ma K (He.ga K C) "__init__") fd ps sp) (g : mg C = some (.ref (He.ga K C)))
    (h : ∀ (kV doc pm : Value) (an : Option Addr) (cdv ct : Value) (us : List Value), us.length = ps.length → bindArgs (PySem.W.fnOf "__init__" qual (defArgs st) (defBody st) (defScope st) .none kV doc pm an cdv ct) ⟨us, []⟩ = pure (ps.zip us)) : MkI P w K mg base k C (He.ga K C) sp [] :=
  ⟨_, fd, ps, [], M, ok, g, F.bindsN h, .nil⟩
theorem MtP.lni {C : Str} (F : MtP K "__len__" qual st (He.ma K (He.ga K C) "__len__") fd) (M : Meth K (He.ga K C) "__len__" (He.ma K (He.ga K C) "__len__")) (ok : FnOk P w K mg base CX0 k (He.ma K (He.ga K C) "__len__") fd ps sp)
    (h : ∀ (kV doc pm : Value) (an : Option Addr) (cdv ct : Value) (us : List Value), us.length = ps.length → bindArgs (PySem.W.fnOf "__len__" qual (defArgs st) (defBody st) (defScope st) .none kV doc pm an cdv ct) ⟨us, []⟩ = pure (ps.zip us)) : LnI P w K mg base k (He.ga K C) sp :=
  ⟨_, fd, ps, ok, M.at_, M.fn, F.bindsN h⟩
end
end Fg
namespace Fg
open PySem PySem.Spec PyProof.Rows L2
local macro_rules | `(tactic| walk_at "len") => `(tactic| first | exact (fun ⟨e, _⟩ => by rw [e]; rfl) | (refine exL ?_; intro _; walk_at "len"))
theorem sc_is_whole : FnScope ["thing"] ["thing"] (defScope s_is_whole) := ⟨rfl, rfl, rfl, by decide +kernel, rfl, by decide +kernel, by decide +kernel⟩
theorem sc_is_name : FnScope ["thing", "sign"] ["thing"] (defScope s_is_name) := ⟨rfl, rfl, rfl, by decide +kernel, rfl, by decide +kernel, by decide +kernel⟩
theorem sc_is_expression : FnScope ["thing", "most", "one"] ["thing", "most"] (defScope s_is_expression) := ⟨rfl, rfl, rfl, by decide +kernel, rfl, by decide +kernel, by decide +kernel⟩
theorem sc_is_step : FnScope ["thing", "names", "behind", "word"] ["thing", "names", "behind"] (defScope s_is_step) := ⟨rfl, rfl, rfl, by decide +kernel, rfl, by decide +kernel, by decide +kernel⟩
theorem sc_has_form : FnScope ["thing", "row", "names", "name", "steps", "one", "other"] ["thing"] (defScope s_has_form) := ⟨rfl, rfl, rfl, by decide +kernel, rfl, by decide +kernel, by decide +kernel⟩
theorem sc_first_wrong : FnScope ["program", "names", "name", "steps", "at", "step"] ["program"] (defScope s_first_wrong) := ⟨rfl, rfl, rfl, by decide +kernel, rfl, by decide +kernel, by decide +kernel⟩
theorem sc_check : FnScope ["program", "wrong"] ["program"] (defScope s_check) := ⟨rfl, rfl, rfl, by decide +kernel, rfl, by decide +kernel, by decide +kernel⟩
theorem sc_reckon : FnScope ["expression", "arg", "cells", "asked", "word", "one", "other"] ["expression", "arg", "cells", "asked"] (defScope s_reckon) := ⟨rfl, rfl, rfl, by decide +kernel, rfl, by decide +kernel, by decide +kernel⟩
theorem sc_start_cells : FnScope ["cells", "found", "cell", "number"] ["cells"] (defScope s_start_cells) := ⟨rfl, rfl, rfl, by decide +kernel, rfl, by decide +kernel, by decide +kernel⟩
theorem sc_not_nought : FnScope ["held", "cell"] ["held"] (defScope s_not_nought) := ⟨rfl, rfl, rfl, by decide +kernel, rfl, by decide +kernel, by decide +kernel⟩
theorem sc_helper_rows : FnScope ["program", "name", "one", "rows"] ["program", "name"] (defScope s_helper_rows) := ⟨rfl, rfl, rfl, by decide +kernel, rfl, by decide +kernel, by decide +kernel⟩
theorem sc_step_done : FnScope ["frame", "held", "given", "row", "asked", "record", "making", "cell"] ["frame", "held", "given"] (defScope s_step_done) := ⟨rfl, rfl, rfl, by decide +kernel, rfl, by decide +kernel, by decide +kernel⟩
theorem sc_trace : FnScope ["program", "name", "arg", "cells", "most", "helpers", "stack", "held", "given", "records", "deepest", "many", "frame", "record", "making"] ["program", "name", "arg", "cells", "most"] (defScope s_trace) := ⟨rfl, rfl, rfl, by decide +kernel, rfl, by decide +kernel, by decide +kernel⟩
theorem sc_run : FnScope ["program", "name", "arg", "cells", "most", "records", "held", "given", "deepest", "gifts", "one", "record"] ["program", "name", "arg", "cells", "most"] (defScope s_run) := ⟨rfl, rfl, rfl, by decide +kernel, rfl, by decide +kernel, by decide +kernel⟩
theorem sc__law_cell_at : FnScope ["script", "k"] ["script", "k"] (defScope s__law_cell_at) := ⟨rfl, rfl, rfl, by decide +kernel, rfl, by decide +kernel, by decide +kernel⟩
theorem sc__law_stir : FnScope ["seed", "turn", "number"] ["seed", "turn"] (defScope s__law_stir) := ⟨rfl, rfl, rfl, by decide +kernel, rfl, by decide +kernel, by decide +kernel⟩
theorem sc__law_well : FnScope ["cell", "k", "seed"] ["cell", "k"] (defScope s__law_well) := ⟨rfl, rfl, rfl, by decide +kernel, rfl, by decide +kernel, by decide +kernel⟩
theorem sc__law_draw : FnScope ["well", "many", "taken"] ["well", "many"] (defScope s__law_draw) := ⟨rfl, rfl, rfl, by decide +kernel, rfl, by decide +kernel, by decide +kernel⟩
theorem sc__law_new_name : FnScope ["well", "names", "letters", "pick", "letter", "name", "old", "at", "some", "k", "one"] ["well", "names"] (defScope s__law_new_name) := ⟨rfl, rfl, rfl, by decide +kernel, rfl, by decide +kernel, by decide +kernel⟩
theorem sc__law_power : FnScope ["base", "many", "found", "k"] ["base", "many"] (defScope s__law_power) := ⟨rfl, rfl, rfl, by decide +kernel, rfl, by decide +kernel, by decide +kernel⟩
theorem sc__law_down : FnScope ["well", "names", "many", "word", "rows", "given", "k"] ["well", "names", "many"] (defScope s__law_down) := ⟨rfl, rfl, rfl, by decide +kernel, rfl, by decide +kernel, by decide +kernel⟩
theorem sc__law_added : FnScope ["well", "names", "many", "cell", "rows", "sums", "cells", "k"] ["well", "names", "many"] (defScope s__law_added) := ⟨rfl, rfl, rfl, by decide +kernel, rfl, by decide +kernel, by decide +kernel⟩
theorem sc__law_by_turns : FnScope ["names", "many", "rows", "other", "ones", "given", "k"] ["names", "many"] (defScope s__law_by_turns) := ⟨rfl, rfl, rfl, by decide +kernel, rfl, by decide +kernel, by decide +kernel⟩
theorem sc__law_doubled : FnScope ["names", "many", "step", "rows", "given", "k", "steps"] ["names", "many"] (defScope s__law_doubled) := ⟨rfl, rfl, rfl, by decide +kernel, rfl, by decide +kernel, by decide +kernel⟩
theorem sc__law_fourfold : FnScope ["names", "many", "helpers", "k", "last", "steps", "j"] ["names", "many"] (defScope s__law_fourfold) := ⟨rfl, rfl, rfl, by decide +kernel, rfl, by decide +kernel, by decide +kernel⟩
theorem sc__law_just_enough : FnScope ["names", "more", "helper", "rows", "start", "field", "found", "e", "one", "k"] ["names", "more"] (defScope s__law_just_enough) := ⟨rfl, rfl, rfl, by decide +kernel, rfl, by decide +kernel, by decide +kernel⟩
theorem sc__law_most_told : FnScope ["program", "arg", "most", "found", "field", "e"] ["program", "arg", "most"] (defScope s__law_most_told) := ⟨rfl, rfl, rfl, by decide +kernel, rfl, by decide +kernel, by decide +kernel⟩
theorem sc__law_without_end : FnScope ["well", "word", "rows", "most"] ["well"] (defScope s__law_without_end) := ⟨rfl, rfl, rfl, by decide +kernel, rfl, by decide +kernel, by decide +kernel⟩
theorem sc__law_deeper : FnScope ["well", "program", "many", "cells", "given", "steps", "deepest"] ["well"] (defScope s__law_deeper) := ⟨rfl, rfl, rfl, by decide +kernel, rfl, by decide +kernel, by decide +kernel⟩
theorem sc_law : FnScope ["script", "well", "pick", "many", "names", "k", "due", "found"] ["script"] (defScope s_law) := ⟨rfl, rfl, rfl, by decide +kernel, rfl, by decide +kernel, by decide +kernel⟩
/-! ### what the top has left, by names -/
structure Gm (w : World) (K : PySem.W.Frag) (mg : Str → Option Value) (dP : Addr) (es : Array DictEntry) (nn : Nat) : Prop where
  ValueError : mg "ValueError" = none
  all : mg "all" = none
  isinstance : mg "isinstance" = none
  int : mg "int" = none
  min : mg "min" = none
  sorted : mg "sorted" = none
  dict : mg "dict" = none
  range : mg "range" = none
  len : mg "len" = none
  list : mg "list" = none
  enumerate : mg "enumerate" = none
  set : mg "set" = none
  sum : mg "sum" = none
  bool : mg "bool" = none
  str : mg "str" = none
  tuple : mg "tuple" = none
  zip : mg "zip" = none
  max : mg "max" = none
  LETTERS : ∃ u, mg "LETTERS" = some u ∧ RelV (.str letters) u
  LONGEST_NAME : ∃ u, mg "LONGEST_NAME" = some u ∧ RelV (.int 8) u
  PARTS : ∃ u, mg "PARTS" = some u ∧ RelV (.ref dP) u
  WorkError : mg "WorkError" = some (.ref (He.ga K "WorkError"))
  NoProgram : mg "NoProgram" = some (.ref (He.ga K "NoProgram"))
  NoHelper : mg "NoHelper" = some (.ref (He.ga K "NoHelper"))
  TooLong : mg "TooLong" = some (.ref (He.ga K "TooLong"))
  Outcome : mg "Outcome" = some (.ref (He.ga K "Outcome"))
  Record : mg "Record" = some (.ref (He.ga K "Record"))
  Frame : mg "Frame" = some (.ref (He.ga K "Frame"))
  dP : KDict K w dP es nn
section
variable {P : Program} {w : World} {K : PySem.W.Frag} {mg : Str → Option Value} {base : Heap} {dP : Addr} {es : Array DictEntry} {nn : Nat} {f : Addr} {fd : FuncData}
theorem ok_is_whole (F : FnP K "is_whole" s_is_whole [] f fd) (G : Gm w K mg dP es nn)  : FnOk P w K mg base CX0 1 f fd ["thing"] sp_is_whole :=
  FnP.go (k := 0) F sc_is_whole (fun vs H Q E => by first | (unfold sp_is_whole; walk_at "len") | walk_at "len") (t_is_whole K) (fun vs H Q E h => pure_is_whole (K := K) vs H Q E h) fun cdv A outer s H E hr =>
    (pss_one (ps_ret (pe_and (pe_callB call_isi (by rfl) G.isinstance (by decide +kernel) (pa_cons (pv 0) (pa_cons (pe_bltn (v := .ty "int") (by rfl) G.int (by decide +kernel) rfl) pa_nil))) (pe_one (pe_not (pe_callB call_isi (by rfl) G.isinstance (by decide +kernel) (pa_cons (pv 0) (pa_cons (pe_bltn (v := .ty "bool") (by rfl) G.bool (by decide +kernel) rfl) pa_nil))))))))
theorem ok_is_name (F : FnP K "is_name" s_is_name [] f fd) (G : Gm w K mg dP es nn)  : FnOk P w K mg base CX0 1 f fd ["thing"] sp_is_name :=
  FnP.go (k := 0) F sc_is_name (fun vs H Q E => by first | (unfold sp_is_name; walk_at "len") | walk_at "len") (t_is_name K) (fun vs H Q E h => pure_is_name (K := K) vs H Q E h) fun cdv A outer s H E hr =>
    (pss_cons (ps_if (PW.pt (pw_or (pt_not (pt_val (pe_callB call_isi (by rfl) G.isinstance (by decide +kernel) (pa_cons (pv 0) (pa_cons (pe_bltn (v := .ty "str") (by rfl) G.str (by decide +kernel) rfl) pa_nil))))) (pw_or (pt_cmpR p_lt (pe_callB p_lenS (by rfl) G.len (by decide +kernel) (pa_cons (pv 0) pa_nil)) pe_int (nomark _)) (pw_or1 (pt_cmpR p_gt (pe_callB p_lenS (by rfl) G.len (by decide +kernel) (pa_cons (pv 0) pa_nil)) (pe_gc (by rfl) G.LONGEST_NAME) (nomark _)))))) (pss_one (ps_ret pe_bl)) pss_nil)
      (pss_one (ps_ret (pe_callB (cr_all rfl) (by rfl) G.all (by decide +kernel) (pa_cons (pe_lc (own := [("sign", 1)]) (g := gName 1) (tt := tYes) (by rfl) sc_is_name.nd (pi_str (pv 0)) (blkOk_by (own := [("sign", 1)]) (N := ["thing", "sign"]) (sc := defScope s_is_name) (by decide +kernel)) (fun _ _ _ _ _ => (pg_name (i := 1) sc_is_name.nd rfl (by first | exact Or.inl rfl | exact Or.inr rfl))) (fun _ _ _ _ _ => pts_nil) (fun _ _ _ _ _ => (pe_cmpR p_inC (pv 1) (pe_gc (by rfl) G.LETTERS) (by rfl)))) pa_nil)))))
theorem ok_is_expression (F : FnP K "is_expression" s_is_expression [.int 5] f fd) (G : Gm w K mg dP es nn) (T : Parts K w dP) (g : mg "is_expression" = some (.ref f)) (c_is_whole : Cal P w K mg base 1 "is_whole" sp_is_whole []) : ∀ n : Nat, FnOk P w K mg base CX0 (n + 2) f fd ["thing", "most"] ((sp_is_expression n))
  | 0 => ⟨fun vs H Q E h => absurd h (no_is_expression vs H Q E), fun A outer s H args us vs Q E _ _ _ _ h => absurd h (no_is_expression vs H Q E)⟩
  | n + 1 => by
    have ih := ok_is_expression F G T g c_is_whole n
    have c_is_expression : Cal P w K mg base (n + 2) "is_expression" ((sp_is_expression n)) [] := FnP.cald 2 1 F ih g (by simp) rfl fun _ _ _ _ _ _ _ us its h1 h2 => match us, its, h1, h2 with | [_, _], [_], _, _ => ⟨_, rfl, rfl⟩
    exact FnP.go (k := n + 2) F sc_is_expression (fun vs H Q E => by first | (unfold sp_is_expression; walk_at "len") | walk_at "len") (t_is_expression K w dP n) (fun vs H Q E h => pure_is_expression (K := K) T n vs H Q E h) fun cdv A outer s H E hr =>
      (pss_cons (ps_if (pt_cmpR p_lt (pv 1) pe_int (nomark _)) (pss_one (ps_ret pe_bl)) pss_nil)
      (pss_cons (ps_if (pt_val (pe_c c_is_whole hr (by omega) (by rfl) (pa_cons (pv 0) pa_nil))) (pss_one (ps_ret pe_bl)) pss_nil)
      (pss_cons (ps_if (PW.pt (pw_or (pt_not (pt_val (pe_callB call_isi (by rfl) G.isinstance (by decide +kernel) (pa_cons (pv 0) (pa_cons (pe_bltn (v := .ty "tuple") (by rfl) G.tuple (by decide +kernel) rfl) pa_nil))))) (pw_or (pt_cmpR p_lt (pe_callB p_lenQ (by rfl) G.len (by decide +kernel) (pa_cons (pv 0) pa_nil)) pe_int (nomark _)) (pw_or1 (pt_not (pt_val (pe_callB call_isi (by rfl) G.isinstance (by decide +kernel) (pa_cons (pe_ix ix_tup (pv 0) pe_int (fun _ _ => rfl)) (pa_cons (pe_bltn (v := .ty "str") (by rfl) G.str (by decide +kernel) rfl) pa_nil))))))))) (pss_one (ps_ret pe_bl)) pss_nil)
      (pss_cons (ps_if (PW.pt (pw_or (pt_cmpR (op_notIn_kd G.dP) (pe_ix ix_tup (pv 0) pe_int (fun _ _ => rfl)) (pe_gc (by rfl) G.PARTS) (by rfl)) (pw_or1 (pt_cmpR op_ne (pe_callB p_lenQ (by rfl) G.len (by decide +kernel) (pa_cons (pv 0) pa_nil)) (pe_op p_add (pe_ix ix_kdict (pe_gc (by rfl) G.PARTS) (pe_ix ix_tup (pv 0) pe_int (fun _ _ => rfl)) (fun _ _ => rfl)) pe_int) (nomark _))))) (pss_one (ps_ret pe_bl)) pss_nil)
      (pss_one (ps_ret (pe_callB (cr_all rfl) (by rfl) G.all (by decide +kernel) (pa_cons (pe_lc (own := [("one", 2)]) (g := gName 2) (tt := tYes) (by rfl) sc_is_expression.nd (pi_tup (pe_slice sl_tupA (pv 0) (po_some pe_int) po_none)) (blkOk_by (own := [("one", 2)]) (N := ["thing", "most", "one"]) (sc := defScope s_is_expression) (by decide +kernel)) (fun _ _ _ _ _ => (pg_name (i := 2) sc_is_expression.nd rfl (by first | exact Or.inl rfl | exact Or.inr rfl))) (fun _ _ _ _ _ => pts_nil) (fun _ _ _ _ _ => (pe_c c_is_expression hr (by omega) (by rfl) (pa_cons (pv 2) (pa_cons (pe_op p_sub (pv 1) pe_int) pa_nil))))) pa_nil))))))))
theorem ok_is_step (F : FnP K "is_step" s_is_step [] f fd) (G : Gm w K mg dP es nn) (c_is_expression_d : Cal P w K mg base 8 "is_expression" (sp_is_expression 6) [.int 5]) (c_is_whole : Cal P w K mg base 1 "is_whole" sp_is_whole []) (c_is_name : Cal P w K mg base 1 "is_name" sp_is_name []) : FnOk P w K mg base CX0 9 f fd ["thing", "names", "behind"] (sp_is_step K) :=
  FnP.go (k := 8) F sc_is_step (fun vs H Q E => by first | (unfold sp_is_step; walk_at "len") | walk_at "len") (t_is_step K) (fun vs H Q E h => pure_is_step (K := K) vs H Q E h) fun cdv A outer s H E hr =>
    (pss_cons (ps_if (PW.pt (pw_or (pt_not (pt_val (pe_callB call_isi (by rfl) G.isinstance (by decide +kernel) (pa_cons (pv 0) (pa_cons (pe_bltn (v := .ty "tuple") (by rfl) G.tuple (by decide +kernel) rfl) pa_nil))))) (pw_or (pt_cmpR p_lt (pe_callB p_lenQ (by rfl) G.len (by decide +kernel) (pa_cons (pv 0) pa_nil)) pe_int (nomark _)) (pw_or1 (pt_not (pt_val (pe_callB call_isi (by rfl) G.isinstance (by decide +kernel) (pa_cons (pe_ix ix_tup (pv 0) pe_int (fun _ _ => rfl)) (pa_cons (pe_bltn (v := .ty "str") (by rfl) G.str (by decide +kernel) rfl) pa_nil))))))))) (pss_one (ps_ret pe_bl)) pss_nil)
      (pss_cons (ps_set (i := 3) sc_is_step.nd rfl (by first | exact Or.inl rfl | exact Or.inr rfl) (pe_ix ix_tup (pv 0) pe_int (fun _ _ => rfl)))
      (pss_cons (ps_if (pt_cmpR op_eq (pv 3) pe_str (nomark _)) (pss_one (ps_ret (pe_cmpR op_eq (pe_callB p_lenQ (by rfl) G.len (by decide +kernel) (pa_cons (pv 0) pa_nil)) pe_int (nomark _)))) pss_nil)
      (pss_cons (ps_if (pt_cmpR op_ne (pe_callB p_lenQ (by rfl) G.len (by decide +kernel) (pa_cons (pv 0) pa_nil)) pe_int (nomark _)) (pss_one (ps_ret pe_bl)) pss_nil)
      (pss_cons (ps_if (pt_cmpR op_eq (pv 3) pe_str (nomark _)) (pss_one (ps_ret (pe_and (pe_c c_is_expression_d hr (by omega) (by rfl) (pa_cons (pe_ix ix_tup (pv 0) pe_int (fun _ _ => rfl)) pa_nil)) (pe_one (pe_c c_is_expression_d hr (by omega) (by rfl) (pa_cons (pe_ix ix_tup (pv 0) pe_int (fun _ _ => rfl)) pa_nil)))))) pss_nil)
      (pss_cons (ps_if (pt_cmpR op_eq (pv 3) pe_str (nomark _)) (pss_one (ps_ret (pe_and (pe_c c_is_expression_d hr (by omega) (by rfl) (pa_cons (pe_ix ix_tup (pv 0) pe_int (fun _ _ => rfl)) pa_nil)) (pe_and (pe_c c_is_whole hr (by omega) (by rfl) (pa_cons (pe_ix ix_tup (pv 0) pe_int (fun _ _ => rfl)) pa_nil)) (pe_one (pe_chain p_le p_le pe_int (pe_ix ix_tup (pv 0) pe_int (fun _ _ => rfl)) (pv 2))))))) pss_nil)
      (pss_cons (ps_if (PW.pt (pw_or (pt_cmpR op_notIn_seq (pv 3) (pe_tup (pa_cons pe_str (pa_cons pe_str (pa_cons pe_str pa_nil)))) (by rfl)) (pw_or (pt_not (pt_val (pe_c c_is_name hr (by omega) (by rfl) (pa_cons (pe_ix ix_tup (pv 0) pe_int (fun _ _ => rfl)) pa_nil)))) (pw_or1 (pt_not (pt_val (pe_c c_is_expression_d hr (by omega) (by rfl) (pa_cons (pe_ix ix_tup (pv 0) pe_int (fun _ _ => rfl)) pa_nil)))))))) (pss_one (ps_ret pe_bl)) pss_nil)
      (pss_one (ps_ret (pe_or (pe_cmpR op_eq (pv 3) pe_str (nomark _)) (pe_one (pe_cmpR op_in_seq (pe_ix ix_tup (pv 0) pe_int (fun _ _ => rfl)) (pv 1) (by rfl)))))))))))))
theorem ok_has_form (F : FnP K "has_form" s_has_form [] f fd) (G : Gm w K mg dP es nn) (c_is_name : Cal P w K mg base 1 "is_name" sp_is_name []) : FnOk P w K mg base CX0 2 f fd ["thing"] sp_has_form :=
  FnP.go (k := 1) F sc_has_form (fun vs H Q E => by first | (unfold sp_has_form; walk_at "len") | walk_at "len") (t_has_form K) (fun vs H Q E h => pure_has_form (K := K) vs H Q E h) fun cdv A outer s H E hr =>
    (pss_cons (ps_if (pt_not (pt_val (pe_callB call_isi (by rfl) G.isinstance (by decide +kernel) (pa_cons (pv 0) (pa_cons (pe_bltn (v := .ty "list") (by rfl) G.list (by decide +kernel) rfl) pa_nil))))) (pss_one (ps_ret pe_bl)) pss_nil)
      (pss_cons (ps_for PassesOwn.never rfl (pi_list (pv 0)) (pg_name (i := 1) sc_has_form.nd rfl (by first | exact Or.inl rfl | exact Or.inr rfl)) (pss_one (ps_if (PW.pt (pw_or (pt_not (pt_val (pe_callB call_isi (by rfl) G.isinstance (by decide +kernel) (pa_cons (pv 1) (pa_cons (pe_bltn (v := .ty "tuple") (by rfl) G.tuple (by decide +kernel) rfl) pa_nil))))) (pw_or (pt_cmpR op_ne (pe_callB p_lenQ (by rfl) G.len (by decide +kernel) (pa_cons (pv 1) pa_nil)) pe_int (nomark _)) (pw_or (pt_not (pt_val (pe_c c_is_name hr (by omega) (by rfl) (pa_cons (pe_ix ix_tup (pv 1) pe_int (fun _ _ => rfl)) pa_nil)))) (pw_or1 (pt_not (pt_val (pe_callB call_isi (by rfl) G.isinstance (by decide +kernel) (pa_cons (pe_ix ix_tup (pv 1) pe_int (fun _ _ => rfl)) (pa_cons (pe_bltn (v := .ty "list") (by rfl) G.list (by decide +kernel) rfl) pa_nil)))))))))) (pss_one (ps_ret pe_bl)) pss_nil)))
      (pss_cons (ps_setLc (i := 2) (own := [("name", 3), ("steps", 4)]) (g := gTup K 2 (gCons (gName 3) (gCons (gName 4) (gNil)))) (tt := tYes) (by rfl) sc_has_form.nd rfl rfl (sw_true rfl rfl rfl (by decide +kernel)) (pi_list (pv 0)) (blkOk_by (own := [("name", 3), ("steps", 4)]) (N := ["thing", "row", "names", "name", "steps", "one", "other"]) (sc := defScope s_has_form) (by decide +kernel)) (fun _ _ _ _ _ => (pg_tup rfl (pgs_cons (pg_name (i := 3) sc_has_form.nd rfl (by first | exact Or.inl rfl | exact Or.inr rfl)) (pgs_cons (pg_name (i := 4) sc_has_form.nd rfl (by first | exact Or.inl rfl | exact Or.inr rfl)) pgs_nil)))) (fun _ _ _ _ _ => pts_nil) (fun _ _ _ _ _ => (pv 3)))
      (pss_one (ps_ret (pe_callB (cr_all rfl) (by rfl) G.all (by decide +kernel) (pa_cons (pe_lc (own := [("one", 5), ("other", 6)]) (g := gTup K 2 (gCons (gName 5) (gCons (gName 6) (gNil)))) (tt := tYes) (by rfl) sc_has_form.nd (pi_zip (by rfl) G.zip (pa_cons (pv 2) (pa_cons (pe_slice sl_list (pv 2) (po_some pe_int) po_none) pa_nil))) (blkOk_by (own := [("one", 5), ("other", 6)]) (N := ["thing", "row", "names", "name", "steps", "one", "other"]) (sc := defScope s_has_form) (by decide +kernel)) (fun _ _ _ _ _ => (pg_tup rfl (pgs_cons (pg_name (i := 5) sc_has_form.nd rfl (by first | exact Or.inl rfl | exact Or.inr rfl)) (pgs_cons (pg_name (i := 6) sc_has_form.nd rfl (by first | exact Or.inl rfl | exact Or.inr rfl)) pgs_nil)))) (fun _ _ _ _ _ => pts_nil) (fun _ _ _ _ _ => (pe_cmpR p_ltS (pv 5) (pv 6) (nomark _)))) pa_nil)))))))
theorem ok_first_wrong (F : FnP K "first_wrong" s_first_wrong [] f fd) (G : Gm w K mg dP es nn) (c_has_form : Cal P w K mg base 2 "has_form" sp_has_form []) (c_is_step : Cal P w K mg base 9 "is_step" (sp_is_step K) []) : FnOk P w K mg base CX0 10 f fd ["program"] sp_first_wrong :=
  FnP.go (k := 9) F sc_first_wrong (fun vs H Q E => by first | (unfold sp_first_wrong; walk_at "len") | walk_at "len") (t_first_wrong K) (fun vs H Q E h => pure_first_wrong (K := K) vs H Q E h) fun cdv A outer s H E hr =>
    (pss_cons (ps_if (pt_not (pt_val (pe_c c_has_form hr (by omega) (by rfl) (pa_cons (pv 0) pa_nil)))) (pss_one (ps_ret (pe_tup (pa_cons pe_non (pa_cons pe_non pa_nil))))) pss_nil)
      (pss_cons (ps_setLc (i := 1) (own := [("name", 2), ("steps", 3)]) (g := gTup K 2 (gCons (gName 2) (gCons (gName 3) (gNil)))) (tt := tYes) (by rfl) sc_first_wrong.nd rfl rfl (sw_true rfl rfl rfl (by decide +kernel)) (pi_list (pv 0)) (blkOk_by (own := [("name", 2), ("steps", 3)]) (N := ["program", "names", "name", "steps", "at", "step"]) (sc := defScope s_first_wrong) (by decide +kernel)) (fun _ _ _ _ _ => (pg_tup rfl (pgs_cons (pg_name (i := 2) sc_first_wrong.nd rfl (by first | exact Or.inl rfl | exact Or.inr rfl)) (pgs_cons (pg_name (i := 3) sc_first_wrong.nd rfl (by first | exact Or.inl rfl | exact Or.inr rfl)) pgs_nil)))) (fun _ _ _ _ _ => pts_nil) (fun _ _ _ _ _ => (pv 2)))
      (pss_cons (ps_for PassesOwn.never rfl (pi_list (pv 0)) (pg_tup rfl (pgs_cons (pg_name (i := 2) sc_first_wrong.nd rfl (by first | exact Or.inl rfl | exact Or.inr rfl)) (pgs_cons (pg_name (i := 3) sc_first_wrong.nd rfl (by first | exact Or.inl rfl | exact Or.inr rfl)) pgs_nil))) (pss_one (ps_for PassesOwn.never rfl (pi_enum (by rfl) G.enumerate (pa_cons (pv 3) pa_nil)) (pg_tup rfl (pgs_cons (pg_name (i := 4) sc_first_wrong.nd rfl (by first | exact Or.inl rfl | exact Or.inr rfl)) (pgs_cons (pg_name (i := 5) sc_first_wrong.nd rfl (by first | exact Or.inl rfl | exact Or.inr rfl)) pgs_nil))) (pss_one (ps_if (pt_not (pt_val (pe_c c_is_step hr (by omega) (by rfl) (pa_cons (pv 5) (pa_cons (pv 1) (pa_cons (pe_op p_sub (pe_op p_sub (pe_callB p_lenQ (by rfl) G.len (by decide +kernel) (pa_cons (pv 3) pa_nil)) (pv 4)) pe_int) pa_nil)))))) (pss_one (ps_ret (pe_tup (pa_cons (pv 2) (pa_cons (pv 4) pa_nil))))) pss_nil)))))
      (pss_one (ps_ret pe_non)))))
theorem ok_check (F : FnP K "check" s_check [] f fd) (G : Gm w K mg dP es nn) (c_first_wrong : Cal P w K mg base 10 "first_wrong" sp_first_wrong []) (m_NoProgram : MkX P w K mg base "NoProgram" (He.ga K "NoProgram") ["helper", "at"]) : FnOk P w K mg base (L2.CX P w) 11 f fd ["program"] (sp_check K) :=
  FnP.goX (k := 10) F sc_check (fun vs H Q E => by first | (unfold sp_check; walk_at "len") | walk_at "len") (fun E => t_check E K) (fun vs H Q E h => pure_check (K := K) vs H Q E h) fun cdv A outer s H E hr =>
    (pss_cons (ps_set (i := 1) sc_check.nd rfl (by first | exact Or.inl rfl | exact Or.inr rfl) (pe_c c_first_wrong hr (by omega) (by rfl) (pa_cons (pv 0) pa_nil)))
      (pss_one (ps_if (pt_cmpR p_notN (pv 1) pe_non (nomark _)) (pss_one (ps_raiseX rfl m_NoProgram hr (by decide) (takes_of rfl rfl rfl rfl) (by rfl) (pa_cons (pe_ix ix_tup (pv 1) pe_int (fun _ _ => rfl)) (pa_cons (pe_ix ix_tup (pv 1) pe_int (fun _ _ => rfl)) pa_nil)))) pss_nil)))
theorem ok_reckon (F : FnP K "reckon" s_reckon [.non] f fd) (G : Gm w K mg dP es nn) (g : mg "reckon" = some (.ref f))  : ∀ n : Nat, FnOk P w K mg base CX0 (n + 2) f fd ["expression", "arg", "cells", "asked"] ((sp_reckon n))
  | 0 => ⟨fun vs H Q E h => absurd h (no_reckon vs H Q E), fun A outer s H args us vs Q E _ _ _ _ h => absurd h (no_reckon vs H Q E)⟩
  | n + 1 => by
    have ih := ok_reckon F G g  n
    have c_reckon : Cal P w K mg base (n + 2) "reckon" ((sp_reckon n)) [] := FnP.cald 4 1 F ih g (by simp) rfl fun _ _ _ _ _ _ _ us its h1 h2 => match us, its, h1, h2 with | [_, _, _, _], [_], _, _ => ⟨_, rfl, rfl⟩
    exact FnP.go (k := n + 2) F sc_reckon (fun vs H Q E => by first | (unfold sp_reckon; walk_at "len") | walk_at "len") (t_reckon K n) (fun vs H Q E h => pure_reckon (K := K) n vs H Q E h) fun cdv A outer s H E hr =>
      (pss_cons (ps_if (pt_val (pe_callB call_isi (by rfl) G.isinstance (by decide +kernel) (pa_cons (pv 0) (pa_cons (pe_bltn (v := .ty "int") (by rfl) G.int (by decide +kernel) rfl) pa_nil)))) (pss_one (ps_ret (pv 0))) pss_nil)
      (pss_cons (ps_set (i := 4) sc_reckon.nd rfl (by first | exact Or.inl rfl | exact Or.inr rfl) (pe_ix ix_tup (pv 0) pe_int (fun _ _ => rfl)))
      (pss_cons (ps_if (pt_cmpR op_eq (pv 4) pe_str (nomark _)) (pss_one (ps_ret (pv 1))) pss_nil)
      (pss_cons (ps_set (i := 5) sc_reckon.nd rfl (by first | exact Or.inl rfl | exact Or.inr rfl) (pe_c c_reckon hr (by omega) (by rfl) (pa_cons (pe_ix ix_tup (pv 0) pe_int (fun _ _ => rfl)) (pa_cons (pv 1) (pa_cons (pv 2) (pa_cons (pv 3) pa_nil))))))
      (pss_cons (ps_if (pt_cmpR op_eq (pv 4) pe_str (nomark _)) (pss_cons (ps_if (pt_cmpR p_notN (pv 3) pe_non (nomark _)) (pss_one (ps_expr (pe_bm PySem.F.plainAttrs_list PySem.F.slot_list_append PySem.F.type_list_append mt_append (pv 3) (pa_cons (pv 5) pa_nil)))) pss_nil)
      (pss_one (ps_ret (pe_dget2 (hu_of hr) (pv 2) (pv 5) pe_int ⟨rfl, rfl, rfl, rfl⟩)))) pss_nil)
      (pss_cons (ps_set (i := 6) sc_reckon.nd rfl (by first | exact Or.inl rfl | exact Or.inr rfl) (pe_c c_reckon hr (by omega) (by rfl) (pa_cons (pe_ix ix_tup (pv 0) pe_int (fun _ _ => rfl)) (pa_cons (pv 1) (pa_cons (pv 2) (pa_cons (pv 3) pa_nil))))))
      (pss_cons (ps_if (pt_cmpR op_eq (pv 4) pe_str (nomark _)) (pss_one (ps_ret (pe_op p_add (pv 5) (pv 6)))) pss_nil)
      (pss_cons (ps_if (pt_cmpR op_eq (pv 4) pe_str (nomark _)) (pss_one (ps_ret (pe_op p_sub (pv 5) (pv 6)))) pss_nil)
      (pss_one (ps_ret (pe_callB (p_min rfl) (by rfl) G.min (by decide +kernel) (pa_cons (pv 5) (pa_cons (pv 6) pa_nil)))))))))))))
theorem ok_start_cells (F : FnP K "start_cells" s_start_cells [] f fd) (G : Gm w K mg dP es nn)  : FnOk P w K mg base CX0 1 f fd ["cells"] sp_start_cells :=
  FnP.go (k := 0) F sc_start_cells (fun vs H Q E => by first | (unfold sp_start_cells; walk_at "len") | walk_at "len") (t_start_cells K) (fun vs H Q E h => pure_start_cells (K := K) vs H Q E h) fun cdv A outer s H E hr =>
    (pss_cons (ps_set (i := 1) sc_start_cells.nd rfl (by first | exact Or.inl rfl | exact Or.inr rfl) pe_dnewK)
      (pss_cons (ps_for PassesOwn.never rfl (pi_list (pe_orT (pv 0) (pe_one (pe_lst pa_nil)))) (pg_tup rfl (pgs_cons (pg_name (i := 2) sc_start_cells.nd rfl (by first | exact Or.inl rfl | exact Or.inr rfl)) (pgs_cons (pg_name (i := 3) sc_start_cells.nd rfl (by first | exact Or.inl rfl | exact Or.inr rfl)) pgs_nil))) (pss_one (ps_dput (hu_of hr) (pv 1) (pv 2) (pv 3) rfl)))
      (pss_one (ps_ret (pv 1)))))
theorem ok_not_nought (F : FnP K "not_nought" s_not_nought [] f fd) (G : Gm w K mg dP es nn)  : FnOk P w K mg base CX0 1 f fd ["held"] sp_not_nought :=
  FnP.go (k := 0) F sc_not_nought (fun vs H Q E => by first | (unfold sp_not_nought; walk_at "len") | walk_at "len") (t_not_nought K) (fun vs H Q E h => pure_not_nought (K := K) vs H Q E h) fun cdv A outer s H E hr =>
    (pss_one (ps_ret (pe_lc (own := [("cell", 1)]) (g := gName 1) (tt := tTest (tOp rNe (tDGet (tVar 0) (tVar 1)) (tC (.int 0)))) (by rfl) sc_not_nought.nd (pi_list (pe_callB (p_sortDI rfl) (by rfl) G.sorted (by decide +kernel) (pa_cons (pv 0) pa_nil))) (blkOk_by (own := [("cell", 1)]) (N := ["held", "cell"]) (sc := defScope s_not_nought) (by decide +kernel)) (fun _ _ _ _ _ => (pg_name (i := 1) sc_not_nought.nd rfl (by first | exact Or.inl rfl | exact Or.inr rfl))) (fun _ _ _ _ _ => (pts_one (pt_cmpR op_ne (pe_dget (hu_of hr) (pv 0) (pv 1) (fun _ _ => rfl)) pe_int (nomark _)))) (fun _ _ _ _ _ => (pe_tup (pa_cons (pv 1) (pa_cons (pe_dget (hu_of hr) (pv 0) (pv 1) (fun _ _ => rfl)) pa_nil)))))))
theorem ok_helper_rows (F : FnP K "helper_rows" s_helper_rows [] f fd) (G : Gm w K mg dP es nn) (m_NoHelper : MkX P w K mg base "NoHelper" (He.ga K "NoHelper") ["name"]) : FnOk P w K mg base (L2.CX P w) 3 f fd ["program", "name"] (sp_helper_rows K) :=
  FnP.goX (k := 2) F sc_helper_rows (fun vs H Q E => by first | (unfold sp_helper_rows; walk_at "len") | walk_at "len") (fun E => t_helper_rows E K) (fun vs H Q E h => pure_helper_rows (K := K) vs H Q E h) fun cdv A outer s H E hr =>
    (pss_cons (ps_for (passes_of rfl) rfl (pi_list (pv 0)) (pg_tup rfl (pgs_cons (pg_name (i := 2) sc_helper_rows.nd rfl (by first | exact Or.inl rfl | exact Or.inr rfl)) (pgs_cons (pg_name (i := 3) sc_helper_rows.nd rfl (by first | exact Or.inl rfl | exact Or.inr rfl)) pgs_nil))) (pss_one (ps_if (pt_cmpR op_eq (pv 2) (pv 1) (nomark _)) (pss_one (ps_ret (pv 3))) pss_nil)))
      (pss_one (ps_raiseX rfl m_NoHelper hr (by decide) (takes_of rfl rfl rfl rfl) (by rfl) (pa_cons (pv 1) pa_nil))))
theorem sc_Record___init__ : FnScope ["self", "mark", "word", "doer", "reads"] ["self", "mark", "word", "doer", "reads"] (defScope s_Record___init__) := ⟨rfl, rfl, rfl, by decide +kernel, rfl, by decide +kernel, by decide +kernel⟩
theorem ok_Record___init__ (F : MtP K "__init__" "Record.__init__" s_Record___init__ f fd) (G : Gm w K mg dP es nn) (CF : CFs K) : FnOk P w K mg base CX0 1 f fd ["self", "mark", "word", "doer", "reads"] (sp_Record___init__ K) :=
  MtP.go (k := 0) F sc_Record___init__ (fun vs H Q E => by first | (unfold sp_Record___init__; walk_at "len") | walk_at "len") (t_Record___init__ K) (fun vs H Q E h => pure_Record___init__ (K := K) CF vs H Q E h) fun cdv A outer s H E hr =>
    (pss_cons (ps_fld (pv 0) (pv 1) rfl)
      (pss_cons (ps_fld (pv 0) (pv 2) rfl)
      (pss_cons (ps_fld (pv 0) (pv 3) rfl)
      (pss_cons (ps_fld (pv 0) pe_non rfl)
      (pss_cons (ps_fld (pv 0) (pv 4) rfl)
      (pss_one (ps_fld (pv 0) (pe_lst pa_nil) rfl)))))))
theorem ok_step_done (F : FnP K "step_done" s_step_done [] f fd) (G : Gm w K mg dP es nn) (CF : CFs K) (i_Record : MkI P w K mg base 1 "Record" (He.ga K "Record") (sp_Record___init__ K) []) (c_reckon : Cal P w K mg base 8 "reckon" (sp_reckon 6) []) : FnOk P w K mg base CX0 9 f fd ["frame", "held", "given"] (sp_step_done K) :=
  FnP.go (k := 8) F sc_step_done (fun vs H Q E => by first | (unfold sp_step_done; walk_at "len") | walk_at "len") (t_step_done K w) (fun vs H Q E h => pure_step_done (K := K) CF vs H Q E h) fun cdv A outer s H E hr =>
    (pss_cons (ps_set (i := 3) sc_step_done.nd rfl (by first | exact Or.inl rfl | exact Or.inr rfl) (pe_ix ix_list (pe_fld (pv 0) rfl) (pe_fld (pv 0) rfl) (fun _ _ => rfl)))
      (pss_cons (ps_set (i := 4) sc_step_done.nd rfl (by first | exact Or.inl rfl | exact Or.inr rfl) (pe_lst pa_nil))
      (pss_cons (ps_set (i := 5) sc_step_done.nd rfl (by first | exact Or.inl rfl | exact Or.inr rfl) (pe_mkI i_Record hr (by omega) (by rfl) (pa_cons (pe_tup (pa_cons (pe_fld (pv 0) rfl) (pa_cons (pe_fld (pv 0) rfl) pa_nil))) (pa_cons (pe_ix ix_tup (pv 3) pe_int (fun _ _ => rfl)) (pa_cons (pe_fld (pv 0) rfl) (pa_cons (pv 4) pa_nil))))))
      (pss_cons (ps_fldaug (pv 0) pe_int in_add)
      (pss_cons (ps_fldaug (pv 0) pe_int in_add)
      (pss_cons (ps_set (i := 6) sc_step_done.nd rfl (by first | exact Or.inl rfl | exact Or.inr rfl) pe_non)
      (pss_cons (ps_if (pt_cmpR op_eq (pe_ix ix_tup (pv 3) pe_int (fun _ _ => rfl)) pe_str (nomark _)) (pss_cons (ps_set (i := 7) sc_step_done.nd rfl (by first | exact Or.inl rfl | exact Or.inr rfl) (pe_c c_reckon hr (by omega) (by rfl) (pa_cons (pe_ix ix_tup (pv 3) pe_int (fun _ _ => rfl)) (pa_cons (pe_fld (pv 0) rfl) (pa_cons (pv 1) (pa_cons (pv 4) pa_nil))))))
      (pss_cons (ps_dput (hu_of hr) (pv 1) (pv 7) (pe_c c_reckon hr (by omega) (by rfl) (pa_cons (pe_ix ix_tup (pv 3) pe_int (fun _ _ => rfl)) (pa_cons (pe_fld (pv 0) rfl) (pa_cons (pv 1) (pa_cons (pv 4) pa_nil))))) rfl)
      (pss_one (ps_fld (pv 5) (pe_lst (pa_cons (pv 7) pa_nil)) rfl)))) (pss_one (ps_if (pt_cmpR op_eq (pe_ix ix_tup (pv 3) pe_int (fun _ _ => rfl)) pe_str (nomark _)) (pss_one (ps_expr (pe_bm PySem.F.plainAttrs_list PySem.F.slot_list_append PySem.F.type_list_append mt_append (pe_dsetd (pv 2) (pe_ix ix_tup (pv 3) pe_int (fun _ _ => rfl)) (pe_lst pa_nil) ⟨rfl, rfl, rfl, rfl⟩) (pa_cons (pe_c c_reckon hr (by omega) (by rfl) (pa_cons (pe_ix ix_tup (pv 3) pe_int (fun _ _ => rfl)) (pa_cons (pe_fld (pv 0) rfl) (pa_cons (pv 1) (pa_cons (pv 4) pa_nil))))) pa_nil)))) (pss_one (ps_if (pt_cmpR op_eq (pe_ix ix_tup (pv 3) pe_int (fun _ _ => rfl)) pe_str (nomark _)) (pss_one (ps_if (pt_cmpR op_eq (pe_c c_reckon hr (by omega) (by rfl) (pa_cons (pe_ix ix_tup (pv 3) pe_int (fun _ _ => rfl)) (pa_cons (pe_fld (pv 0) rfl) (pa_cons (pv 1) (pa_cons (pv 4) pa_nil))))) pe_int (nomark _)) (pss_one (ps_fldaug (pv 0) (pe_ix ix_tup (pv 3) pe_int (fun _ _ => rfl)) in_add)) pss_nil)) (pss_one (ps_if (pt_cmpR op_ne (pe_ix ix_tup (pv 3) pe_int (fun _ _ => rfl)) pe_str (nomark _)) (pss_one (ps_set (i := 6) sc_step_done.nd rfl (by first | exact Or.inl rfl | exact Or.inr rfl) (pe_tup (pa_cons (pe_ix ix_tup (pv 3) pe_int (fun _ _ => rfl)) (pa_cons (pe_c c_reckon hr (by omega) (by rfl) (pa_cons (pe_ix ix_tup (pv 3) pe_int (fun _ _ => rfl)) (pa_cons (pe_fld (pv 0) rfl) (pa_cons (pv 1) (pa_cons (pv 4) pa_nil))))) pa_nil))))) pss_nil)))))))
      (pss_cons (ps_fld (pv 5) (pe_callB (cr_sortedSet rfl) (by rfl) G.sorted (by decide +kernel) (pa_cons (pe_callTy (p_setL rfl) (by rfl) G.set (by decide +kernel) (pa_cons (pv 4) pa_nil)) pa_nil)) rfl)
      (pss_one (ps_ret (pe_tup (pa_cons (pv 5) (pa_cons (pv 6) pa_nil)))))))))))))
theorem sc_Frame___init__ : FnScope ["self", "number", "path", "rows", "arg"] ["self", "number", "path", "rows", "arg"] (defScope s_Frame___init__) := ⟨rfl, rfl, rfl, by decide +kernel, rfl, by decide +kernel, by decide +kernel⟩
theorem ok_Frame___init__ (F : MtP K "__init__" "Frame.__init__" s_Frame___init__ f fd) (G : Gm w K mg dP es nn) (CF : CFs K) : FnOk P w K mg base CX0 1 f fd ["self", "number", "path", "rows", "arg"] (sp_Frame___init__ K) :=
  MtP.go (k := 0) F sc_Frame___init__ (fun vs H Q E => by first | (unfold sp_Frame___init__; walk_at "len") | walk_at "len") (t_Frame___init__ K) (fun vs H Q E h => pure_Frame___init__ (K := K) CF vs H Q E h) fun cdv A outer s H E hr =>
    (pss_cons (ps_fld (pv 0) (pv 1) rfl)
      (pss_cons (ps_fld (pv 0) (pv 2) rfl)
      (pss_cons (ps_fld (pv 0) (pv 3) rfl)
      (pss_cons (ps_fld (pv 0) (pv 4) rfl)
      (pss_cons (ps_fld (pv 0) pe_int rfl)
      (pss_cons (ps_fld (pv 0) pe_int rfl)
      (pss_one (ps_fld (pv 0) pe_int rfl))))))))
theorem ok_trace (F : FnP K "trace" s_trace [] f fd) (G : Gm w K mg dP es nn) (CF : CFs K) (c_check : CalX P w K mg base 11 "check" (sp_check K) []) (c_helper_rows : CalX P w K mg base 3 "helper_rows" (sp_helper_rows K) []) (i_Frame : MkI P w K mg base 1 "Frame" (He.ga K "Frame") (sp_Frame___init__ K) []) (c_start_cells : Cal P w K mg base 1 "start_cells" sp_start_cells []) (c_step_done : Cal P w K mg base 9 "step_done" (sp_step_done K) []) (m_TooLong : MkX P w K mg base "TooLong" (He.ga K "TooLong") ["most"]) : FnOk P w K mg base (L2.CX P w) 12 f fd ["program", "name", "arg", "cells", "most"] (sp_trace K) :=
  FnP.goX (k := 11) F sc_trace (fun vs H Q E => by first | (unfold sp_trace; walk_at "len") | walk_at "len") (fun E => t_trace E K) (fun vs H Q E h => pure_trace (K := K) CF vs H Q E h) fun cdv A outer s H E hr =>
    (pss_cons (ps_expr (pe_cx c_check hr (by omega) (by rfl) (takes_of rfl rfl rfl rfl) (pa_cons (pv 0) pa_nil)))
      (pss_cons (ps_set (i := 5) sc_trace.nd rfl (by first | exact Or.inl rfl | exact Or.inr rfl) (pe_callTy (p_dictP rfl) (by rfl) G.dict (by decide +kernel) (pa_cons (pv 0) pa_nil)))
      (pss_cons (ps_set (i := 6) sc_trace.nd rfl (by first | exact Or.inl rfl | exact Or.inr rfl) (pe_lst (pa_cons (pe_mkI i_Frame hr (by omega) (by rfl) (pa_cons pe_int (pa_cons (pe_tup pa_nil) (pa_cons (pe_cx c_helper_rows hr (by omega) (by rfl) (takes_of rfl rfl rfl rfl) (pa_cons (pv 0) (pa_cons (pv 1) pa_nil))) (pa_cons (pv 2) pa_nil))))) pa_nil)))
      (pss_cons (ps_set (i := 7) sc_trace.nd rfl (by first | exact Or.inl rfl | exact Or.inr rfl) (pe_c c_start_cells hr (by omega) (by rfl) (pa_cons (pv 3) pa_nil)))
      (pss_cons (ps_set (i := 8) sc_trace.nd rfl (by first | exact Or.inl rfl | exact Or.inr rfl) pe_dnewK)
      (pss_cons (ps_set (i := 9) sc_trace.nd rfl (by first | exact Or.inl rfl | exact Or.inr rfl) (pe_lst pa_nil))
      (pss_cons (ps_set (i := 10) sc_trace.nd rfl (by first | exact Or.inl rfl | exact Or.inr rfl) pe_int)
      (pss_cons (ps_set (i := 11) sc_trace.nd rfl (by first | exact Or.inl rfl | exact Or.inr rfl) pe_int)
      (pss_cons (ps_while (passes_of rfl) (pt_cmpR (p_neE hr.units) (pv 6) (pe_lst pa_nil) (nomark _)) (pss_cons (ps_set (i := 12) sc_trace.nd rfl (by first | exact Or.inl rfl | exact Or.inr rfl) (pe_ix ix_list (pv 6) (pe_un un_neg pe_int) (fun _ _ => rfl)))
      (pss_one (ps_if (pt_cmpR p_ge (pe_fld (pv 12) rfl) (pe_callB p_lenQ (by rfl) G.len (by decide +kernel) (pa_cons (pe_fld (pv 12) rfl) pa_nil)) (nomark _)) (pss_one (ps_expr (pe_bm0 PySem.F.plainAttrs_list PySem.F.slot_list_pop PySem.F.type_list_pop mt_pop (pv 6)))) (pss_cons (ps_if (pt_cmpR p_ge (pe_callB p_lenQ (by rfl) G.len (by decide +kernel) (pa_cons (pv 9) pa_nil)) (pv 4) (nomark _)) (pss_one (ps_raiseX rfl m_TooLong hr (by decide) (takes_of rfl rfl rfl rfl) (by rfl) (pa_cons (pv 4) pa_nil))) pss_nil)
      (pss_cons (ps_asg (pe_c c_step_done hr (by omega) (by rfl) (pa_cons (pv 12) (pa_cons (pv 7) (pa_cons (pv 8) pa_nil)))) (pg_tup rfl (pgs_cons (pg_name (i := 13) sc_trace.nd rfl (by first | exact Or.inl rfl | exact Or.inr rfl)) (pgs_cons (pg_name (i := 14) sc_trace.nd rfl (by first | exact Or.inl rfl | exact Or.inr rfl)) pgs_nil))))
      (pss_cons (ps_expr (pe_bm PySem.F.plainAttrs_list PySem.F.slot_list_append PySem.F.type_list_append mt_append (pv 9) (pa_cons (pv 13) pa_nil)))
      (pss_one (ps_if (pt_cmpR p_notN (pv 14) pe_non (nomark _)) (pss_cons (ps_fld (pv 13) (pv 11) rfl)
      (pss_cons (ps_expr (pe_bm PySem.F.plainAttrs_list PySem.F.slot_list_append PySem.F.type_list_append mt_append (pv 6) (pa_cons (pe_mkI i_Frame hr (by omega) (by rfl) (pa_cons (pv 11) (pa_cons (pe_op op_catA (pe_fld (pv 12) rfl) (pe_tup (pa_cons (pe_fld (pv 12) rfl) pa_nil))) (pa_cons (pe_dget (hu_of hr) (pv 5) (pe_ix ix_tup (pv 14) pe_int (fun _ _ => rfl)) (fun _ _ => rfl)) (pa_cons (pe_ix ix_tup (pv 14) pe_int (fun _ _ => rfl)) pa_nil))))) pa_nil)))
      (pss_cons (ps_fldaug (pv 12) pe_int in_add)
      (pss_cons (ps_aug (i := 11) sc_trace.nd rfl (by first | exact Or.inl rfl | exact Or.inr rfl) pe_int ip_add)
      (pss_one (ps_set (i := 10) sc_trace.nd rfl (by first | exact Or.inl rfl | exact Or.inr rfl) (pe_callB (p_max rfl) (by rfl) G.max (by decide +kernel) (pa_cons (pv 10) (pa_cons (pe_callB p_lenQ (by rfl) G.len (by decide +kernel) (pa_cons (pv 6) pa_nil)) pa_nil))))))))) pss_nil)))))))))
      (pss_one (ps_ret (pe_tup (pa_cons (pv 9) (pa_cons (pv 7) (pa_cons (pv 8) (pa_cons (pv 10) pa_nil))))))))))))))))
theorem sc_Outcome___init__ : FnScope ["self", "cells", "given", "steps", "deepest", "name", "worths"] ["self", "cells", "given", "steps", "deepest"] (defScope s_Outcome___init__) := ⟨rfl, rfl, rfl, by decide +kernel, rfl, by decide +kernel, by decide +kernel⟩
theorem ok_Outcome___init__ (F : MtP K "__init__" "Outcome.__init__" s_Outcome___init__ f fd) (G : Gm w K mg dP es nn) (CF : CFs K) : FnOk P w K mg base CX0 1 f fd ["self", "cells", "given", "steps", "deepest"] (sp_Outcome___init__ K) :=
  MtP.go (k := 0) F sc_Outcome___init__ (fun vs H Q E => by first | (unfold sp_Outcome___init__; walk_at "len") | walk_at "len") (t_Outcome___init__ K) (fun vs H Q E h => pure_Outcome___init__ (K := K) CF vs H Q E h) fun cdv A outer s H E hr =>
    (pss_cons (ps_fld (pv 0) (pe_callTy p_listQ (by rfl) G.list (by decide +kernel) (pa_cons (pv 1) pa_nil)) rfl)
      (pss_cons (ps_fld (pv 0) (pe_lc (own := [("name", 5), ("worths", 6)]) (g := gTup K 2 (gCons (gName 5) (gCons (gName 6) (gNil)))) (tt := tYes) (by rfl) sc_Outcome___init__.nd (pi_list (pv 2)) (blkOk_by (own := [("name", 5), ("worths", 6)]) (N := ["self", "cells", "given", "steps", "deepest", "name", "worths"]) (sc := defScope s_Outcome___init__) (by decide +kernel)) (fun _ _ _ _ _ => (pg_tup rfl (pgs_cons (pg_name (i := 5) sc_Outcome___init__.nd rfl (by first | exact Or.inl rfl | exact Or.inr rfl)) (pgs_cons (pg_name (i := 6) sc_Outcome___init__.nd rfl (by first | exact Or.inl rfl | exact Or.inr rfl)) pgs_nil)))) (fun _ _ _ _ _ => pts_nil) (fun _ _ _ _ _ => (pe_tup (pa_cons (pv 5) (pa_cons (pe_callTy p_listQ (by rfl) G.list (by decide +kernel) (pa_cons (pv 6) pa_nil)) pa_nil))))) rfl)
      (pss_cons (ps_fld (pv 0) (pe_callTy p_listQ (by rfl) G.list (by decide +kernel) (pa_cons (pv 3) pa_nil)) rfl)
      (pss_one (ps_fld (pv 0) (pv 4) rfl)))))
theorem ok_run (F : FnP K "run" s_run [.str "main", .int 0, .non, .int 2000] f fd) (G : Gm w K mg dP es nn) (CF : CFs K) (c_trace : CalX P w K mg base 12 "trace" (sp_trace K) []) (c_not_nought : Cal P w K mg base 1 "not_nought" sp_not_nought []) (i_Outcome : MkI P w K mg base 1 "Outcome" (He.ga K "Outcome") (sp_Outcome___init__ K) []) : FnOk P w K mg base (L2.CX P w) 13 f fd ["program", "name", "arg", "cells", "most"] (sp_run K) :=
  FnP.goX (k := 12) F sc_run (fun vs H Q E => by first | (unfold sp_run; walk_at "len") | walk_at "len") (fun E => t_run E K) (fun vs H Q E h => pure_run (K := K) CF vs H Q E h) fun cdv A outer s H E hr =>
    (pss_cons (ps_asg (pe_cx c_trace hr (by omega) (by rfl) (takes_of rfl rfl rfl rfl) (pa_cons (pv 0) (pa_cons (pv 1) (pa_cons (pv 2) (pa_cons (pv 3) (pa_cons (pv 4) pa_nil)))))) (pg_tup rfl (pgs_cons (pg_name (i := 5) sc_run.nd rfl (by first | exact Or.inl rfl | exact Or.inr rfl)) (pgs_cons (pg_name (i := 6) sc_run.nd rfl (by first | exact Or.inl rfl | exact Or.inr rfl)) (pgs_cons (pg_name (i := 7) sc_run.nd rfl (by first | exact Or.inl rfl | exact Or.inr rfl)) (pgs_cons (pg_name (i := 8) sc_run.nd rfl (by first | exact Or.inl rfl | exact Or.inr rfl)) pgs_nil))))))
      (pss_cons (ps_setLc (i := 9) (own := [("one", 10)]) (g := gName 10) (tt := tYes) (by rfl) sc_run.nd rfl rfl (sw_true rfl rfl rfl (by decide +kernel)) (pi_list (pe_callB (p_sortDS rfl) (by rfl) G.sorted (by decide +kernel) (pa_cons (pv 7) pa_nil))) (blkOk_by (own := [("one", 10)]) (N := ["program", "name", "arg", "cells", "most", "records", "held", "given", "deepest", "gifts", "one", "record"]) (sc := defScope s_run) (by decide +kernel)) (fun _ _ _ _ _ => (pg_name (i := 10) sc_run.nd rfl (by first | exact Or.inl rfl | exact Or.inr rfl))) (fun _ _ _ _ _ => pts_nil) (fun _ _ _ _ _ => (pe_tup (pa_cons (pv 10) (pa_cons (pe_dget (hu_of hr) (pv 7) (pv 10) (fun _ _ => rfl)) pa_nil)))))
      (pss_one (ps_ret (pe_mkI i_Outcome hr (by omega) (by rfl) (pa_cons (pe_c c_not_nought hr (by omega) (by rfl) (pa_cons (pv 6) pa_nil)) (pa_cons (pv 9) (pa_cons (pe_lc (own := [("record", 11)]) (g := gName 11) (tt := tYes) (by rfl) sc_run.nd (pi_list (pv 5)) (blkOk_by (own := [("record", 11)]) (N := ["program", "name", "arg", "cells", "most", "records", "held", "given", "deepest", "gifts", "one", "record"]) (sc := defScope s_run) (by decide +kernel)) (fun _ _ _ _ _ => (pg_name (i := 11) sc_run.nd rfl (by first | exact Or.inl rfl | exact Or.inr rfl))) (fun _ _ _ _ _ => pts_nil) (fun _ _ _ _ _ => (pe_fld (pv 11) rfl))) (pa_cons (pv 8) pa_nil)))))))))
theorem ok__law_cell_at (F : FnP K "_law_cell_at" s__law_cell_at [] f fd) (G : Gm w K mg dP es nn)  : FnOk P w K mg base CX0 1 f fd ["script", "k"] (sp__law_cell_at K) :=
  FnP.go (k := 0) F sc__law_cell_at (fun vs H Q E => by first | (unfold sp__law_cell_at; walk_at "len") | walk_at "len") (t__law_cell_at K) (fun vs H Q E h => pure__law_cell_at (K := K) vs H Q E h) fun cdv A outer s H E hr =>
    (pss_cons (ps_if (pt_cmpR p_lt (pv 1) (pe_callB p_lenQ (by rfl) G.len (by decide +kernel) (pa_cons (pv 0) pa_nil)) (nomark _)) (pss_one (ps_ret (pe_ix ix_list (pv 0) (pv 1) (fun _ _ => rfl)))) pss_nil)
      (pss_one (ps_ret pe_int)))
theorem ok__law_stir (F : FnP K "_law_stir" s__law_stir [] f fd) (G : Gm w K mg dP es nn)  : FnOk P w K mg base CX0 1 f fd ["seed", "turn"] sp__law_stir :=
  FnP.go (k := 0) F sc__law_stir (fun vs H Q E => by first | (unfold sp__law_stir; walk_at "len") | walk_at "len") (t__law_stir) (fun vs H Q E h => pure__law_stir (K := K) vs H Q E h) fun cdv A outer s H E hr =>
    (pss_cons (ps_set (i := 2) sc__law_stir.nd rfl (by first | exact Or.inl rfl | exact Or.inr rfl) (pe_op p_add (pe_op p_mulW (pe_op p_add (pv 0) pe_int) pe_int) (pe_op p_mulW (pe_op p_add (pv 1) pe_int) pe_int)))
      (pss_one (ps_ret (pe_op p_mod (pe_op p_pow (pv 2) pe_int) pe_int))))
theorem ok__law_well (F : FnP K "_law_well" s__law_well [] f fd) (G : Gm w K mg dP es nn) (c__law_stir : Cal P w K mg base 1 "_law_stir" sp__law_stir []) : FnOk P w K mg base CX0 2 f fd ["cell", "k"] sp__law_well :=
  FnP.go (k := 1) F sc__law_well (fun vs H Q E => by first | (unfold sp__law_well; walk_at "len") | walk_at "len") (t__law_well) (fun vs H Q E h => pure__law_well (K := K) vs H Q E h) fun cdv A outer s H E hr =>
    (pss_cons (ps_set (i := 2) sc__law_well.nd rfl (by first | exact Or.inl rfl | exact Or.inr rfl) (pe_op p_add (pe_op p_mul (pe_op p_mod (pv 0) pe_int) pe_int) (pv 1)))
      (pss_cons (ps_if (pt_cmpR p_ge (pv 0) (pe_op p_pow pe_int pe_int) (nomark _)) (pss_one (ps_ret (pe_lst (pa_cons (pe_op p_sub (pv 0) (pe_op p_pow pe_int pe_int)) (pa_cons (pv 2) (pa_cons pe_int pa_nil)))))) pss_nil)
      (pss_one (ps_ret (pe_lst (pa_cons (pe_c c__law_stir hr (by omega) (by rfl) (pa_cons (pv 2) (pa_cons pe_int pa_nil))) (pa_cons (pv 2) (pa_cons pe_int pa_nil))))))))
theorem ok__law_draw (F : FnP K "_law_draw" s__law_draw [] f fd) (G : Gm w K mg dP es nn) (c__law_stir : Cal P w K mg base 1 "_law_stir" sp__law_stir []) : FnOk P w K mg base CX0 2 f fd ["well", "many"] sp__law_draw :=
  FnP.go (k := 1) F sc__law_draw (fun vs H Q E => by first | (unfold sp__law_draw; walk_at "len") | walk_at "len") (t__law_draw K) (fun vs H Q E h => pure__law_draw (K := K) vs H Q E h) fun cdv A outer s H E hr =>
    (pss_cons (ps_if (pt_cmpR op_eq (pe_ix ix_list (pv 0) pe_int (fun _ _ => rfl)) pe_int (nomark _)) (pss_cons (ps_asg (pe_op p_add (pe_ix ix_list (pv 0) pe_int (fun _ _ => rfl)) pe_int) (pg_sub (pv 0) pe_int set_list))
      (pss_one (ps_asg (pe_c c__law_stir hr (by omega) (by rfl) (pa_cons (pe_ix ix_list (pv 0) pe_int (fun _ _ => rfl)) (pa_cons (pe_ix ix_list (pv 0) pe_int (fun _ _ => rfl)) pa_nil))) (pg_sub (pv 0) pe_int set_list)))) pss_nil)
      (pss_cons (ps_set (i := 2) sc__law_draw.nd rfl (by first | exact Or.inl rfl | exact Or.inr rfl) (pe_op p_mod (pe_ix ix_list (pv 0) pe_int (fun _ _ => rfl)) (pv 1)))
      (pss_cons (ps_asg (pe_op p_fdiv (pe_ix ix_list (pv 0) pe_int (fun _ _ => rfl)) (pv 1)) (pg_sub (pv 0) pe_int set_list))
      (pss_one (ps_ret (pv 2))))))
theorem ok__law_new_name (F : FnP K "_law_new_name" s__law_new_name [] f fd) (G : Gm w K mg dP es nn) (c__law_draw : Cal P w K mg base 2 "_law_draw" sp__law_draw []) : FnOk P w K mg base CX0 3 f fd ["well", "names"] (sp__law_new_name K) :=
  FnP.go (k := 2) F sc__law_new_name (fun vs H Q E => by first | (unfold sp__law_new_name; walk_at "len") | walk_at "len") (t__law_new_name K) (fun vs H Q E h => pure__law_new_name (K := K) vs H Q E h) fun cdv A outer s H E hr =>
    (pss_cons (ps_set (i := 2) sc__law_new_name.nd rfl (by first | exact Or.inl rfl | exact Or.inr rfl) pe_str)
      (pss_cons (ps_set (i := 3) sc__law_new_name.nd rfl (by first | exact Or.inl rfl | exact Or.inr rfl) (pe_c c__law_draw hr (by omega) (by rfl) (pa_cons (pv 0) (pa_cons pe_int pa_nil))))
      (pss_cons (ps_set (i := 4) sc__law_new_name.nd rfl (by first | exact Or.inl rfl | exact Or.inr rfl) (pe_ix ix_str (pv 2) (pe_c c__law_draw hr (by omega) (by rfl) (pa_cons (pv 0) (pa_cons pe_int pa_nil))) (fun _ _ => rfl)))
      (pss_cons (ps_set (i := 5) sc__law_new_name.nd rfl (by first | exact Or.inl rfl | exact Or.inr rfl) (pe_join pe_str (pe_lc (own := [("k", 9)]) (g := gName 9) (tt := tYes) (by rfl) sc__law_new_name.nd (pi_range1 (by rfl) G.range (pa_cons (pe_op p_add pe_int (pe_c c__law_draw hr (by omega) (by rfl) (pa_cons (pv 0) (pa_cons pe_int pa_nil)))) pa_nil)) (blkOk_by (own := [("k", 9)]) (N := ["well", "names", "letters", "pick", "letter", "name", "old", "at", "some", "k", "one"]) (sc := defScope s__law_new_name) (by decide +kernel)) (fun _ _ _ _ _ => (pg_name (i := 9) sc__law_new_name.nd rfl (by first | exact Or.inl rfl | exact Or.inr rfl))) (fun _ _ _ _ _ => pts_nil) (fun _ _ _ _ _ => (pe_ix ix_str (pv 2) (pe_c c__law_draw hr (by omega) (by rfl) (pa_cons (pv 0) (pa_cons pe_int pa_nil))) (fun _ _ => rfl))))))
      (pss_cons (ps_if (PW.pt (pw_and (pt_cmpR p_gt (pv 3) pe_int (nomark _)) (pw_and1 (pt_cmpR (p_neE hr.units) (pv 1) (pe_lst pa_nil) (nomark _))))) (pss_cons (ps_set (i := 6) sc__law_new_name.nd rfl (by first | exact Or.inl rfl | exact Or.inr rfl) (pe_ix ix_list (pv 1) (pe_c c__law_draw hr (by omega) (by rfl) (pa_cons (pv 0) (pa_cons (pe_callB p_lenQ (by rfl) G.len (by decide +kernel) (pa_cons (pv 1) pa_nil)) pa_nil))) (fun _ _ => rfl)))
      (pss_cons (ps_set (i := 7) sc__law_new_name.nd rfl (by first | exact Or.inl rfl | exact Or.inr rfl) (pe_c c__law_draw hr (by omega) (by rfl) (pa_cons (pv 0) (pa_cons (pe_op p_add (pe_callB p_lenS (by rfl) G.len (by decide +kernel) (pa_cons (pv 6) pa_nil)) pe_int) pa_nil))))
      (pss_one (ps_set (i := 5) sc__law_new_name.nd rfl (by first | exact Or.inl rfl | exact Or.inr rfl) (pe_slice sl_str (pe_op p_addS (pe_op p_addS (pe_slice sl_str (pv 6) po_none (po_some (pv 7))) (pv 4)) (pe_slice sl_str (pv 6) (po_some (pe_op p_sub (pe_op p_add (pv 7) (pv 3)) pe_int)) po_none)) po_none (po_some pe_int)))))) pss_nil)
      (pss_cons (ps_set (i := 8) sc__law_new_name.nd rfl (by first | exact Or.inl rfl | exact Or.inr rfl) (pe_op op_cat (pe_op op_cat (pe_lst (pa_cons (pv 5) pa_nil)) (pe_lc (own := [("k", 9)]) (g := gName 9) (tt := tYes) (by rfl) sc__law_new_name.nd (pi_range1 (by rfl) G.range (pa_cons pe_int pa_nil)) (blkOk_by (own := [("k", 9)]) (N := ["well", "names", "letters", "pick", "letter", "name", "old", "at", "some", "k", "one"]) (sc := defScope s__law_new_name) (by decide +kernel)) (fun _ _ _ _ _ => (pg_name (i := 9) sc__law_new_name.nd rfl (by first | exact Or.inl rfl | exact Or.inr rfl))) (fun _ _ _ _ _ => pts_nil) (fun _ _ _ _ _ => (pe_ix ix_str (pv 2) (pv 9) (fun _ _ => rfl))))) (pe_lc (own := [("k", 9)]) (g := gName 9) (tt := tYes) (by rfl) sc__law_new_name.nd (pi_range1 (by rfl) G.range (pa_cons pe_int pa_nil)) (blkOk_by (own := [("k", 9)]) (N := ["well", "names", "letters", "pick", "letter", "name", "old", "at", "some", "k", "one"]) (sc := defScope s__law_new_name) (by decide +kernel)) (fun _ _ _ _ _ => (pg_name (i := 9) sc__law_new_name.nd rfl (by first | exact Or.inl rfl | exact Or.inr rfl))) (fun _ _ _ _ _ => pts_nil) (fun _ _ _ _ _ => (pe_op p_addS (pe_ix ix_str (pv 2) (pv 9) (fun _ _ => rfl)) (pe_ix ix_str (pv 2) (pv 9) (fun _ _ => rfl)))))))
      (pss_one (ps_ret (pe_ix ix_list (pe_lc (own := [("one", 10)]) (g := gName 10) (tt := tTest (tOp (rIn K true) (tVar 10) (tVar 1))) (by rfl) sc__law_new_name.nd (pi_list (pv 8)) (blkOk_by (own := [("one", 10)]) (N := ["well", "names", "letters", "pick", "letter", "name", "old", "at", "some", "k", "one"]) (sc := defScope s__law_new_name) (by decide +kernel)) (fun _ _ _ _ _ => (pg_name (i := 10) sc__law_new_name.nd rfl (by first | exact Or.inl rfl | exact Or.inr rfl))) (fun _ _ _ _ _ => (pts_one (pt_cmpR op_notIn_seq (pv 10) (pv 1) (by rfl)))) (fun _ _ _ _ _ => (pv 10))) pe_int (fun _ _ => rfl))))))))))
theorem ok__law_power (F : FnP K "_law_power" s__law_power [] f fd) (G : Gm w K mg dP es nn)  : FnOk P w K mg base CX0 1 f fd ["base", "many"] sp__law_power :=
  FnP.go (k := 0) F sc__law_power (fun vs H Q E => by first | (unfold sp__law_power; walk_at "len") | walk_at "len") (t__law_power) (fun vs H Q E h => pure__law_power (K := K) vs H Q E h) fun cdv A outer s H E hr =>
    (pss_cons (ps_set (i := 2) sc__law_power.nd rfl (by first | exact Or.inl rfl | exact Or.inr rfl) pe_int)
      (pss_cons (ps_for PassesOwn.never rfl (pi_range1 (by rfl) G.range (pa_cons (pv 1) pa_nil)) (pg_name (i := 3) sc__law_power.nd rfl (by first | exact Or.inl rfl | exact Or.inr rfl)) (pss_one (ps_set (i := 2) sc__law_power.nd rfl (by first | exact Or.inl rfl | exact Or.inr rfl) (pe_op p_mul (pv 2) (pv 0)))))
      (pss_one (ps_ret (pv 2)))))
theorem ok__law_down (F : FnP K "_law_down" s__law_down [] f fd) (G : Gm w K mg dP es nn) (c__law_draw : Cal P w K mg base 2 "_law_draw" sp__law_draw []) : FnOk P w K mg base CX0 3 f fd ["well", "names", "many"] (sp__law_down K) :=
  FnP.go (k := 2) F sc__law_down (fun vs H Q E => by first | (unfold sp__law_down; walk_at "len") | walk_at "len") (t__law_down K) (fun vs H Q E h => pure__law_down (K := K) vs H Q E h) fun cdv A outer s H E hr =>
    (pss_cons (ps_set (i := 3) sc__law_down.nd rfl (by first | exact Or.inl rfl | exact Or.inr rfl) (pe_ix ix_list (pe_lst (pa_cons pe_str (pa_cons pe_str pa_nil))) (pe_c c__law_draw hr (by omega) (by rfl) (pa_cons (pv 0) (pa_cons pe_int pa_nil))) (fun _ _ => rfl)))
      (pss_cons (ps_set (i := 4) sc__law_down.nd rfl (by first | exact Or.inl rfl | exact Or.inr rfl) (pe_lst (pa_cons (pe_tup (pa_cons pe_str (pa_cons (pe_tup (pa_cons pe_str pa_nil)) (pa_cons pe_int pa_nil)))) (pa_cons (pe_tup (pa_cons pe_str (pa_cons pe_str (pa_cons (pe_tup (pa_cons pe_str pa_nil)) pa_nil)))) (pa_cons (pe_tup (pa_cons (pv 3) (pa_cons (pe_ix ix_list (pv 1) pe_int (fun _ _ => rfl)) (pa_cons (pe_tup (pa_cons pe_str (pa_cons (pe_tup (pa_cons pe_str pa_nil)) (pa_cons pe_int pa_nil)))) pa_nil)))) (pa_cons (pe_tup (pa_cons pe_str pa_nil)) pa_nil))))))
      (pss_cons (ps_set (i := 5) sc__law_down.nd rfl (by first | exact Or.inl rfl | exact Or.inr rfl) (pe_lst (pa_cons (pe_tup (pa_cons pe_str (pa_cons (pe_lc (own := [("k", 6)]) (g := gName 6) (tt := tYes) (by rfl) sc__law_down.nd (pi_range1 (by rfl) G.range (pa_cons (pv 2) pa_nil)) (blkOk_by (own := [("k", 6)]) (N := ["well", "names", "many", "word", "rows", "given", "k"]) (sc := defScope s__law_down) (by decide +kernel)) (fun _ _ _ _ _ => (pg_name (i := 6) sc__law_down.nd rfl (by first | exact Or.inl rfl | exact Or.inr rfl))) (fun _ _ _ _ _ => pts_nil) (fun _ _ _ _ _ => (pe_op p_sub (pv 2) (pv 6)))) pa_nil))) pa_nil)))
      (pss_cons (ps_if (pt_cmpR op_eq (pv 2) pe_int (nomark _)) (pss_one (ps_set (i := 5) sc__law_down.nd rfl (by first | exact Or.inl rfl | exact Or.inr rfl) (pe_lst pa_nil))) pss_nil)
      (pss_one (ps_ret (pe_tup (pa_cons (pe_lst (pa_cons (pe_tup (pa_cons (pe_ix ix_list (pv 1) pe_int (fun _ _ => rfl)) (pa_cons (pv 4) pa_nil))) pa_nil)) (pa_cons (pv 2) (pa_cons (pe_lst pa_nil) (pa_cons (pv 5) (pa_cons (pe_op p_add (pe_op p_mul pe_int (pv 2)) pe_int) (pa_cons (pe_op p_add (pv 2) pe_int) pa_nil)))))))))))))
theorem ok__law_added (F : FnP K "_law_added" s__law_added [] f fd) (G : Gm w K mg dP es nn) (c__law_draw : Cal P w K mg base 2 "_law_draw" sp__law_draw []) : FnOk P w K mg base CX0 3 f fd ["well", "names", "many"] (sp__law_added K) :=
  FnP.go (k := 2) F sc__law_added (fun vs H Q E => by first | (unfold sp__law_added; walk_at "len") | walk_at "len") (t__law_added K) (fun vs H Q E h => pure__law_added (K := K) vs H Q E h) fun cdv A outer s H E hr =>
    (pss_cons (ps_set (i := 3) sc__law_added.nd rfl (by first | exact Or.inl rfl | exact Or.inr rfl) (pe_c c__law_draw hr (by omega) (by rfl) (pa_cons (pv 0) (pa_cons (pe_op p_pow pe_int pe_int) pa_nil))))
      (pss_cons (ps_set (i := 4) sc__law_added.nd rfl (by first | exact Or.inl rfl | exact Or.inr rfl) (pe_lst (pa_cons (pe_tup (pa_cons pe_str (pa_cons (pe_tup (pa_cons pe_str pa_nil)) (pa_cons pe_int pa_nil)))) (pa_cons (pe_tup (pa_cons pe_str (pa_cons (pe_ix ix_list (pv 1) pe_int (fun _ _ => rfl)) (pa_cons (pe_tup (pa_cons pe_str (pa_cons (pe_tup (pa_cons pe_str pa_nil)) (pa_cons pe_int pa_nil)))) pa_nil)))) pa_nil))))
      (pss_cons (ps_set (i := 4) sc__law_added.nd rfl (by first | exact Or.inl rfl | exact Or.inr rfl) (pe_op op_cat (pv 4) (pe_lst (pa_cons (pe_tup (pa_cons pe_str (pa_cons (pv 3) (pa_cons (pe_tup (pa_cons pe_str (pa_cons (pe_tup (pa_cons pe_str (pa_cons (pv 3) pa_nil))) (pa_cons (pe_tup (pa_cons pe_str pa_nil)) pa_nil)))) pa_nil)))) (pa_cons (pe_tup (pa_cons pe_str (pa_cons (pe_ix ix_list (pv 1) pe_int (fun _ _ => rfl)) (pa_cons (pe_tup (pa_cons pe_str (pa_cons (pv 3) pa_nil))) pa_nil)))) pa_nil)))))
      (pss_cons (ps_setLc (i := 5) (own := [("k", 7)]) (g := gName 7) (tt := tYes) (by rfl) sc__law_added.nd rfl rfl (sw_true rfl rfl rfl (by decide +kernel)) (pi_range1 (by rfl) G.range (pa_cons (pe_op p_add (pv 2) pe_int) pa_nil)) (blkOk_by (own := [("k", 7)]) (N := ["well", "names", "many", "cell", "rows", "sums", "cells", "k"]) (sc := defScope s__law_added) (by decide +kernel)) (fun _ _ _ _ _ => (pg_name (i := 7) sc__law_added.nd rfl (by first | exact Or.inl rfl | exact Or.inr rfl))) (fun _ _ _ _ _ => pts_nil) (fun _ _ _ _ _ => (pe_op p_fdiv (pe_op p_mul (pv 7) (pe_op p_add (pv 7) pe_int)) pe_int)))
      (pss_cons (ps_set (i := 6) sc__law_added.nd rfl (by first | exact Or.inl rfl | exact Or.inr rfl) (pe_lst (pa_cons (pe_tup (pa_cons (pv 3) (pa_cons (pe_ix ix_list (pv 5) (pe_un un_neg pe_int) (fun _ _ => rfl)) pa_nil))) pa_nil)))
      (pss_cons (ps_if (pt_cmpR op_eq (pv 2) pe_int (nomark _)) (pss_one (ps_set (i := 6) sc__law_added.nd rfl (by first | exact Or.inl rfl | exact Or.inr rfl) (pe_lst pa_nil))) pss_nil)
      (pss_one (ps_ret (pe_tup (pa_cons (pe_lst (pa_cons (pe_tup (pa_cons (pe_ix ix_list (pv 1) pe_int (fun _ _ => rfl)) (pa_cons (pv 4) pa_nil))) pa_nil)) (pa_cons (pv 2) (pa_cons (pv 6) (pa_cons (pe_lst (pa_cons (pe_tup (pa_cons (pe_ix ix_list (pv 1) pe_int (fun _ _ => rfl)) (pa_cons (pv 5) pa_nil))) pa_nil)) (pa_cons (pe_op p_add (pe_op p_mul pe_int (pv 2)) pe_int) (pa_cons (pe_op p_add (pv 2) pe_int) pa_nil)))))))))))))))
theorem ok__law_by_turns (F : FnP K "_law_by_turns" s__law_by_turns [] f fd) (G : Gm w K mg dP es nn)  : FnOk P w K mg base CX0 1 f fd ["names", "many"] (sp__law_by_turns K) :=
  FnP.go (k := 0) F sc__law_by_turns (fun vs H Q E => by first | (unfold sp__law_by_turns; walk_at "len") | walk_at "len") (t__law_by_turns K) (fun vs H Q E h => pure__law_by_turns (K := K) vs H Q E h) fun cdv A outer s H E hr =>
    (pss_cons (ps_set (i := 2) sc__law_by_turns.nd rfl (by first | exact Or.inl rfl | exact Or.inr rfl) (pe_lst (pa_cons (pe_tup (pa_cons pe_str (pa_cons (pe_tup (pa_cons pe_str pa_nil)) (pa_cons pe_int pa_nil)))) (pa_cons (pe_tup (pa_cons pe_str (pa_cons (pe_ix ix_list (pv 0) pe_int (fun _ _ => rfl)) (pa_cons (pe_tup (pa_cons pe_str (pa_cons (pe_tup (pa_cons pe_str pa_nil)) (pa_cons pe_int pa_nil)))) pa_nil)))) pa_nil))))
      (pss_cons (ps_set (i := 3) sc__law_by_turns.nd rfl (by first | exact Or.inl rfl | exact Or.inr rfl) (pe_lst (pa_cons (pe_tup (pa_cons pe_str (pa_cons (pe_tup (pa_cons pe_str pa_nil)) (pa_cons pe_int pa_nil)))) (pa_cons (pe_tup (pa_cons pe_str (pa_cons (pe_ix ix_list (pv 0) pe_int (fun _ _ => rfl)) (pa_cons (pe_tup (pa_cons pe_str (pa_cons (pe_tup (pa_cons pe_str pa_nil)) (pa_cons pe_int pa_nil)))) pa_nil)))) (pa_cons (pe_tup (pa_cons pe_str (pa_cons pe_str (pa_cons pe_int pa_nil)))) pa_nil)))))
      (pss_cons (ps_set (i := 4) sc__law_by_turns.nd rfl (by first | exact Or.inl rfl | exact Or.inr rfl) (pe_op p_add (pe_op p_fdiv (pv 1) pe_int) (pe_op p_mod (pv 1) pe_int)))
      (pss_cons (ps_set (i := 5) sc__law_by_turns.nd rfl (by first | exact Or.inl rfl | exact Or.inr rfl) (pe_lst (pa_cons (pe_tup (pa_cons pe_str (pa_cons (pe_lc (own := [("k", 6)]) (g := gName 6) (tt := tYes) (by rfl) sc__law_by_turns.nd (pi_range1 (by rfl) G.range (pa_cons (pv 4) pa_nil)) (blkOk_by (own := [("k", 6)]) (N := ["names", "many", "rows", "other", "ones", "given", "k"]) (sc := defScope s__law_by_turns) (by decide +kernel)) (fun _ _ _ _ _ => (pg_name (i := 6) sc__law_by_turns.nd rfl (by first | exact Or.inl rfl | exact Or.inr rfl))) (fun _ _ _ _ _ => pts_nil) (fun _ _ _ _ _ => pe_int)) pa_nil))) pa_nil)))
      (pss_cons (ps_if (pt_cmpR op_eq (pv 4) pe_int (nomark _)) (pss_one (ps_set (i := 5) sc__law_by_turns.nd rfl (by first | exact Or.inl rfl | exact Or.inr rfl) (pe_lst pa_nil))) pss_nil)
      (pss_one (ps_ret (pe_tup (pa_cons (pe_callB p_sortedR (by rfl) G.sorted (by decide +kernel) (pa_cons (pe_lst (pa_cons (pe_tup (pa_cons (pe_ix ix_list (pv 0) pe_int (fun _ _ => rfl)) (pa_cons (pv 2) pa_nil))) (pa_cons (pe_tup (pa_cons (pe_ix ix_list (pv 0) pe_int (fun _ _ => rfl)) (pa_cons (pv 3) pa_nil))) pa_nil))) pa_nil)) (pa_cons (pv 1) (pa_cons (pe_lst pa_nil) (pa_cons (pv 5) (pa_cons (pe_op p_add (pe_op p_add (pe_op p_mul pe_int (pv 1)) pe_int) (pv 4)) (pa_cons (pe_op p_add (pv 1) pe_int) pa_nil))))))))))))))
theorem ok__law_doubled (F : FnP K "_law_doubled" s__law_doubled [] f fd) (G : Gm w K mg dP es nn) (c__law_power : Cal P w K mg base 1 "_law_power" sp__law_power []) : FnOk P w K mg base CX0 2 f fd ["names", "many"] (sp__law_doubled K) :=
  FnP.go (k := 1) F sc__law_doubled (fun vs H Q E => by first | (unfold sp__law_doubled; walk_at "len") | walk_at "len") (t__law_doubled K) (fun vs H Q E h => pure__law_doubled (K := K) vs H Q E h) fun cdv A outer s H E hr =>
    (pss_cons (ps_set (i := 2) sc__law_doubled.nd rfl (by first | exact Or.inl rfl | exact Or.inr rfl) (pe_tup (pa_cons pe_str (pa_cons (pe_ix ix_list (pv 0) pe_int (fun _ _ => rfl)) (pa_cons (pe_tup (pa_cons pe_str (pa_cons (pe_tup (pa_cons pe_str pa_nil)) (pa_cons pe_int pa_nil)))) pa_nil)))))
      (pss_cons (ps_set (i := 3) sc__law_doubled.nd rfl (by first | exact Or.inl rfl | exact Or.inr rfl) (pe_lst (pa_cons (pe_tup (pa_cons pe_str (pa_cons (pe_tup (pa_cons pe_str pa_nil)) (pa_cons pe_int pa_nil)))) (pa_cons (pv 2) (pa_cons (pv 2) (pa_cons (pe_tup (pa_cons pe_str (pa_cons pe_str (pa_cons (pe_tup (pa_cons pe_str pa_nil)) pa_nil)))) pa_nil))))))
      (pss_cons (ps_set (i := 4) sc__law_doubled.nd rfl (by first | exact Or.inl rfl | exact Or.inr rfl) (pe_lst pa_nil))
      (pss_cons (ps_for PassesOwn.never rfl (pi_range1 (by rfl) G.range (pa_cons (pe_op p_add (pv 1) pe_int) pa_nil)) (pg_name (i := 5) sc__law_doubled.nd rfl (by first | exact Or.inl rfl | exact Or.inr rfl)) (pss_one (ps_set (i := 4) sc__law_doubled.nd rfl (by first | exact Or.inl rfl | exact Or.inr rfl) (pe_op op_cat (pe_op op_cat (pv 4) (pv 4)) (pe_lst (pa_cons (pv 5) pa_nil))))))
      (pss_cons (ps_set (i := 6) sc__law_doubled.nd rfl (by first | exact Or.inl rfl | exact Or.inr rfl) (pe_op p_sub (pe_op p_mul pe_int (pe_c c__law_power hr (by omega) (by rfl) (pa_cons pe_int (pa_cons (pv 1) pa_nil)))) pe_int))
      (pss_one (ps_ret (pe_tup (pa_cons (pe_lst (pa_cons (pe_tup (pa_cons (pe_ix ix_list (pv 0) pe_int (fun _ _ => rfl)) (pa_cons (pv 3) pa_nil))) pa_nil)) (pa_cons (pv 1) (pa_cons (pe_lst pa_nil) (pa_cons (pe_lst (pa_cons (pe_tup (pa_cons pe_str (pa_cons (pv 4) pa_nil))) pa_nil)) (pa_cons (pv 6) (pa_cons (pe_op p_add (pv 1) pe_int) pa_nil))))))))))))))
theorem ok__law_fourfold (F : FnP K "_law_fourfold" s__law_fourfold [] f fd) (G : Gm w K mg dP es nn) (c__law_power : Cal P w K mg base 1 "_law_power" sp__law_power []) : FnOk P w K mg base CX0 2 f fd ["names", "many"] (sp__law_fourfold K) :=
  FnP.go (k := 1) F sc__law_fourfold (fun vs H Q E => by first | (unfold sp__law_fourfold; walk_at "len") | walk_at "len") (t__law_fourfold K) (fun vs H Q E h => pure__law_fourfold (K := K) vs H Q E h) fun cdv A outer s H E hr =>
    (pss_cons (ps_set (i := 2) sc__law_fourfold.nd rfl (by first | exact Or.inl rfl | exact Or.inr rfl) (pe_lst (pa_cons (pe_tup (pa_cons (pe_ix ix_list (pv 0) (pv 1) (fun _ _ => rfl)) (pa_cons (pe_lst (pa_cons (pe_tup (pa_cons pe_str (pa_cons pe_str (pa_cons (pe_tup (pa_cons pe_str pa_nil)) pa_nil)))) pa_nil)) pa_nil))) pa_nil)))
      (pss_cons (ps_for PassesOwn.never rfl (pi_range1 (by rfl) G.range (pa_cons (pv 1) pa_nil)) (pg_name (i := 3) sc__law_fourfold.nd rfl (by first | exact Or.inl rfl | exact Or.inr rfl)) (pss_one (ps_expr (pe_bm PySem.F.plainAttrs_list PySem.F.slot_list_append PySem.F.type_list_append mt_append (pv 2) (pa_cons (pe_tup (pa_cons (pe_ix ix_list (pv 0) (pv 3) (fun _ _ => rfl)) (pa_cons (pe_lc (own := [("j", 6)]) (g := gName 6) (tt := tYes) (by rfl) sc__law_fourfold.nd (pi_range1 (by rfl) G.range (pa_cons pe_int pa_nil)) (blkOk_by (own := [("j", 6)]) (N := ["names", "many", "helpers", "k", "last", "steps", "j"]) (sc := defScope s__law_fourfold) (by decide +kernel)) (fun _ _ _ _ _ => (pg_name (i := 6) sc__law_fourfold.nd rfl (by first | exact Or.inl rfl | exact Or.inr rfl))) (fun _ _ _ _ _ => pts_nil) (fun _ _ _ _ _ => (pe_tup (pa_cons (pe_ix ix_list (pe_lst (pa_cons pe_str (pa_cons pe_str pa_nil))) (pe_op p_mod (pv 3) pe_int) (fun _ _ => rfl)) (pa_cons (pe_ix ix_list (pv 0) (pe_op p_add (pv 3) pe_int) (fun _ _ => rfl)) (pa_cons (pe_tup (pa_cons pe_str pa_nil)) pa_nil)))))) pa_nil))) pa_nil)))))
      (pss_cons (ps_set (i := 4) sc__law_fourfold.nd rfl (by first | exact Or.inl rfl | exact Or.inr rfl) (pe_c c__law_power hr (by omega) (by rfl) (pa_cons pe_int (pa_cons (pv 1) pa_nil))))
      (pss_cons (ps_set (i := 5) sc__law_fourfold.nd rfl (by first | exact Or.inl rfl | exact Or.inr rfl) (pe_op p_add (pe_callB (cr_sum rfl) (by rfl) G.sum (by decide +kernel) (pa_cons (pe_lc (own := [("k", 3)]) (g := gName 3) (tt := tYes) (by rfl) sc__law_fourfold.nd (pi_range2 (by rfl) G.range (pa_cons pe_int (pa_cons (pe_op p_add (pv 1) pe_int) pa_nil))) (blkOk_by (own := [("k", 3)]) (N := ["names", "many", "helpers", "k", "last", "steps", "j"]) (sc := defScope s__law_fourfold) (by decide +kernel)) (fun _ _ _ _ _ => (pg_name (i := 3) sc__law_fourfold.nd rfl (by first | exact Or.inl rfl | exact Or.inr rfl))) (fun _ _ _ _ _ => pts_nil) (fun _ _ _ _ _ => (pe_c c__law_power hr (by omega) (by rfl) (pa_cons pe_int (pa_cons (pv 3) pa_nil))))) pa_nil)) (pv 4)))
      (pss_one (ps_ret (pe_tup (pa_cons (pe_callB p_sortedR (by rfl) G.sorted (by decide +kernel) (pa_cons (pv 2) pa_nil)) (pa_cons pe_int (pa_cons (pe_lst pa_nil) (pa_cons (pe_lst (pa_cons (pe_tup (pa_cons pe_str (pa_cons (pe_lc (own := [("k", 3)]) (g := gName 3) (tt := tYes) (by rfl) sc__law_fourfold.nd (pi_range1 (by rfl) G.range (pa_cons (pv 4) pa_nil)) (blkOk_by (own := [("k", 3)]) (N := ["names", "many", "helpers", "k", "last", "steps", "j"]) (sc := defScope s__law_fourfold) (by decide +kernel)) (fun _ _ _ _ _ => (pg_name (i := 3) sc__law_fourfold.nd rfl (by first | exact Or.inl rfl | exact Or.inr rfl))) (fun _ _ _ _ _ => pts_nil) (fun _ _ _ _ _ => pe_int)) pa_nil))) pa_nil)) (pa_cons (pv 5) (pa_cons (pe_op p_add (pv 1) pe_int) pa_nil)))))))))))))
theorem sc_Outcome___len__ : FnScope ["self"] ["self"] (defScope s_Outcome___len__) := ⟨rfl, rfl, rfl, by decide +kernel, rfl, by decide +kernel, by decide +kernel⟩
theorem ok_Outcome___len__ (F : MtP K "__len__" "Outcome.__len__" s_Outcome___len__ f fd) (G : Gm w K mg dP es nn) (CF : CFs K) : FnOk P w K mg base CX0 1 f fd ["self"] (sp_Outcome___len__ K) :=
  MtP.go (k := 0) F sc_Outcome___len__ (fun vs H Q E => by first | (unfold sp_Outcome___len__; walk_at "len") | walk_at "len") (t_Outcome___len__ K) (fun vs H Q E h => pure_Outcome___len__ (K := K) CF vs H Q E h) fun cdv A outer s H E hr =>
    (pss_one (ps_ret (pe_callB p_lenQ (by rfl) G.len (by decide +kernel) (pa_cons (pe_fld (pv 0) rfl) pa_nil))))
theorem ok__law_just_enough (F : FnP K "_law_just_enough" s__law_just_enough [] f fd) (G : Gm w K mg dP es nn) (XT : XTl K) (CF : CFs K) (c_run_d4 : CalX P w K mg base 13 "run" (sp_run K) [.str "main", .int 0, .non, .int 2000]) (n_Outcome : LnI P w K mg base 1 (He.ga K "Outcome") (sp_Outcome___len__ K)) : FnOk P w K mg base CX0 14 f fd ["names", "more"] (sp__law_just_enough K) :=
  FnP.go (k := 13) F sc__law_just_enough (fun vs H Q E => by first | (unfold sp__law_just_enough; walk_at "len") | walk_at "len") (t__law_just_enough K) (fun vs H Q E h => pure__law_just_enough (K := K) XT CF vs H Q E h) fun cdv A outer s H E hr =>
    (pss_cons (ps_set (i := 2) sc__law_just_enough.nd rfl (by first | exact Or.inl rfl | exact Or.inr rfl) (pe_ix ix_list (pe_lc (own := [("one", 8)]) (g := gName 8) (tt := tTest (tOp rNe (tVar 8) (tC (.str "main")))) (by rfl) sc__law_just_enough.nd (pi_list (pv 0)) (blkOk_by (own := [("one", 8)]) (N := ["names", "more", "helper", "rows", "start", "field", "found", "e", "one", "k"]) (sc := defScope s__law_just_enough) (by decide +kernel)) (fun _ _ _ _ _ => (pg_name (i := 8) sc__law_just_enough.nd rfl (by first | exact Or.inl rfl | exact Or.inr rfl))) (fun _ _ _ _ _ => (pts_one (pt_cmpR op_ne (pv 8) pe_str (nomark _)))) (fun _ _ _ _ _ => (pv 8))) pe_int (fun _ _ => rfl)))
      (pss_cons (ps_set (i := 3) sc__law_just_enough.nd rfl (by first | exact Or.inl rfl | exact Or.inr rfl) (pe_lst (pa_cons (pe_tup (pa_cons pe_str (pa_cons (pe_tup (pa_cons pe_str pa_nil)) (pa_cons pe_int pa_nil)))) (pa_cons (pe_tup (pa_cons pe_str (pa_cons (pv 2) (pa_cons (pe_tup (pa_cons pe_str (pa_cons (pe_tup (pa_cons pe_str pa_nil)) (pa_cons pe_int pa_nil)))) pa_nil)))) pa_nil))))
      (pss_cons (ps_set (i := 4) sc__law_just_enough.nd rfl (by first | exact Or.inl rfl | exact Or.inr rfl) (pe_op op_cat (pe_lst (pa_cons (pe_tup (pa_cons pe_str (pa_cons (pv 2) (pa_cons (pe_tup (pa_cons pe_str (pa_cons (pe_tup (pa_cons pe_str pa_nil)) (pa_cons pe_int pa_nil)))) pa_nil)))) pa_nil)) (pe_lc (own := [("k", 9)]) (g := gName 9) (tt := tYes) (by rfl) sc__law_just_enough.nd (pi_range1 (by rfl) G.range (pa_cons (pv 1) pa_nil)) (blkOk_by (own := [("k", 9)]) (N := ["names", "more", "helper", "rows", "start", "field", "found", "e", "one", "k"]) (sc := defScope s__law_just_enough) (by decide +kernel)) (fun _ _ _ _ _ => (pg_name (i := 9) sc__law_just_enough.nd rfl (by first | exact Or.inl rfl | exact Or.inr rfl))) (fun _ _ _ _ _ => pts_nil) (fun _ _ _ _ _ => (pe_tup (pa_cons pe_str pa_nil))))))
      (pss_cons (ps_set (i := 5) sc__law_just_enough.nd rfl (by first | exact Or.inl rfl | exact Or.inr rfl) pe_non)
      (pss_cons (ps_set (i := 6) sc__law_just_enough.nd rfl (by first | exact Or.inl rfl | exact Or.inr rfl) pe_non)
      (pss_cons (ps_try_hold (i := 7) (tb := fun W => tAsg (tCallSD (sp_run K) [.str "main", .int 0, .non, .int 2000] (WE (W)) (tCons (tCB (rSortedR K) (tCons (tLst (tCons (tTup (tCons (tC (.str "main")) (tCons (tVar 4) (tNil)))) (tCons (tTup (tCons (tVar 2) (tCons (tVar 3) (tNil)))) (tNil)))) (tNil))) (tNil))) (gName 6)) (ts := fun a cls d => tAsg (tXf a cls d (He.ga K "TooLong") "most" (tVar 7)) (gName 5)) (Wout := fun _ _ _ _ => False) rfl rfl rfl sc__law_just_enough.nd rfl rfl ⟨rfl, by decide, Or.inl G.TooLong⟩ takes0 (fun W pn xe tk _ => (pss_one (ps_set (i := 6) sc__law_just_enough.nd rfl (by first | exact Or.inl rfl | exact Or.inr rfl) (pe_cx c_run_d4 hr (by omega) (by rfl) tk (pa_cons (pe_callB p_sortedR (by rfl) G.sorted (by decide +kernel) (pa_cons (pe_lst (pa_cons (pe_tup (pa_cons pe_str (pa_cons (pv 4) pa_nil))) (pa_cons (pe_tup (pa_cons (pv 2) (pa_cons (pv 3) pa_nil))) pa_nil))) pa_nil)) pa_nil))))) (fun a oe cls d pn hz hf => (pss_one (ps_set (i := 5) sc__law_just_enough.nd rfl (by first | exact Or.inl rfl | exact Or.inr rfl) (pe_xf XT.cl.xf (XT.inn.no "most" (by simp)) hz hf (pv 7))))))
      (pss_cons (ps_if (pt_cmpR p_gt (pv 1) pe_int (nomark _)) (pss_one (ps_ret (pe_and (pe_cmpR p_isN (pv 6) pe_non (nomark _)) (pe_one (pe_cmpR op_eq (pv 5) pe_int (nomark _)))))) pss_nil)
      (pss_one (ps_ret (pe_and (pe_cmpR p_notN (pv 6) pe_non (nomark _)) (pe_and (pe_cmpR p_isN (pv 5) pe_non (nomark _)) (pe_one (pe_cmpR (p_eqD hr.units) (pe_lst (pa_cons (pe_callB (p_lenI n_Outcome hr (by decide)) (by rfl) G.len (by decide +kernel) (pa_cons (pv 6) pa_nil)) (pa_cons (pe_fld (pv 6) rfl) pa_nil))) (pe_lst (pa_cons pe_int (pa_cons pe_int pa_nil))) (nomark _))))))))))))))
theorem ok__law_most_told (F : FnP K "_law_most_told" s__law_most_told [] f fd) (G : Gm w K mg dP es nn) (XT : XTl K) (CF : CFs K) (c_run_d : CalX P w K mg base 13 "run" (sp_run K) [.non, .int 2000]) (c_run : CalX P w K mg base 13 "run" (sp_run K) []) (n_Outcome : LnI P w K mg base 1 (He.ga K "Outcome") (sp_Outcome___len__ K)) : FnOk P w K mg base CX0 14 f fd ["program", "arg", "most"] (sp__law_most_told K) :=
  FnP.go (k := 13) F sc__law_most_told (fun vs H Q E => by first | (unfold sp__law_most_told; walk_at "len") | walk_at "len") (t__law_most_told K) (fun vs H Q E h => pure__law_most_told (K := K) XT CF vs H Q E h) fun cdv A outer s H E hr =>
    (pss_cons (ps_set (i := 3) sc__law_most_told.nd rfl (by first | exact Or.inl rfl | exact Or.inr rfl) pe_non)
      (pss_cons (ps_set (i := 4) sc__law_most_told.nd rfl (by first | exact Or.inl rfl | exact Or.inr rfl) pe_non)
      (pss_cons (ps_try_hold (i := 5) (tb := fun W => tIfS (tTest (tOp rEq (tVar 2) (tC (.int 0)))) (tAsg (tCallSD (sp_run K) [.non, .int 2000] (WE (W)) (tCons (tVar 0) (tCons (tC (.str "main")) (tCons (tVar 1) (tNil))))) (gName 3)) (tAsg (tCallSD (sp_run K) [] (WE (W)) (tCons (tVar 0) (tCons (tC (.str "main")) (tCons (tVar 1) (tCons (tC .non) (tCons (tVar 2) (tNil))))))) (gName 3))) (ts := fun a cls d => tAsg (tXf a cls d (He.ga K "TooLong") "most" (tVar 5)) (gName 4)) (Wout := fun _ _ _ _ => False) rfl rfl rfl sc__law_most_told.nd rfl rfl ⟨rfl, by decide, Or.inl G.TooLong⟩ takes0 (fun W pn xe tk _ => (pss_one (ps_if (pt_cmpR op_eq (pv 2) pe_int (nomark _)) (pss_one (ps_set (i := 3) sc__law_most_told.nd rfl (by first | exact Or.inl rfl | exact Or.inr rfl) (pe_cx c_run_d hr (by omega) (by rfl) tk (pa_cons (pv 0) (pa_cons pe_str (pa_cons (pv 1) pa_nil)))))) (pss_one (ps_set (i := 3) sc__law_most_told.nd rfl (by first | exact Or.inl rfl | exact Or.inr rfl) (pe_cx c_run hr (by omega) (by rfl) tk (pa_cons (pv 0) (pa_cons pe_str (pa_cons (pv 1) (pa_cons pe_non (pa_cons (pv 2) pa_nil))))))))))) (fun a oe cls d pn hz hf => (pss_one (ps_set (i := 4) sc__law_most_told.nd rfl (by first | exact Or.inl rfl | exact Or.inr rfl) (pe_xf XT.cl.xf (XT.inn.no "most" (by simp)) hz hf (pv 5))))))
      (pss_cons (ps_if (pt_cmpR p_isN (pv 3) pe_non (nomark _)) (pss_one (ps_ret (pe_lst (pa_cons pe_str (pa_cons (pv 4) pa_nil))))) pss_nil)
      (pss_one (ps_ret (pe_lst (pa_cons (pe_callB (p_lenI n_Outcome hr (by decide)) (by rfl) G.len (by decide +kernel) (pa_cons (pv 3) pa_nil)) (pa_cons (pe_fld (pv 3) rfl) pa_nil)))))))))
theorem ok__law_without_end (F : FnP K "_law_without_end" s__law_without_end [] f fd) (G : Gm w K mg dP es nn) (c__law_draw : Cal P w K mg base 2 "_law_draw" sp__law_draw []) (c__law_most_told : Cal P w K mg base 14 "_law_most_told" (sp__law_most_told K) []) : FnOk P w K mg base CX0 15 f fd ["well"] (sp__law_without_end K) :=
  FnP.go (k := 14) F sc__law_without_end (fun vs H Q E => by first | (unfold sp__law_without_end; walk_at "len") | walk_at "len") (t__law_without_end K) (fun vs H Q E h => pure__law_without_end (K := K) vs H Q E h) fun cdv A outer s H E hr =>
    (pss_cons (ps_set (i := 1) sc__law_without_end.nd rfl (by first | exact Or.inl rfl | exact Or.inr rfl) (pe_ix ix_list (pe_lst (pa_cons pe_str (pa_cons pe_str pa_nil))) (pe_c c__law_draw hr (by omega) (by rfl) (pa_cons (pv 0) (pa_cons pe_int pa_nil))) (fun _ _ => rfl)))
      (pss_cons (ps_set (i := 2) sc__law_without_end.nd rfl (by first | exact Or.inl rfl | exact Or.inr rfl) (pe_op op_cat (pe_op op_rep (pe_lst (pa_cons (pe_tup (pa_cons pe_str pa_nil)) pa_nil)) (pe_c c__law_draw hr (by omega) (by rfl) (pa_cons (pv 0) (pa_cons pe_int pa_nil)))) (pe_lst (pa_cons (pe_tup (pa_cons (pv 1) (pa_cons pe_str (pa_cons (pe_tup (pa_cons pe_str (pa_cons (pe_tup (pa_cons pe_str pa_nil)) (pa_cons pe_int pa_nil)))) pa_nil)))) pa_nil))))
      (pss_cons (ps_set (i := 2) sc__law_without_end.nd rfl (by first | exact Or.inl rfl | exact Or.inr rfl) (pe_op op_cat (pv 2) (pe_op op_rep (pe_lst (pa_cons (pe_tup (pa_cons pe_str (pa_cons pe_str (pa_cons (pe_tup (pa_cons pe_str pa_nil)) pa_nil)))) pa_nil)) (pe_ix ix_list (pe_lst (pa_cons pe_int (pa_cons pe_int (pa_cons pe_int (pa_cons pe_int pa_nil))))) (pe_c c__law_draw hr (by omega) (by rfl) (pa_cons (pv 0) (pa_cons pe_int pa_nil))) (fun _ _ => rfl)))))
      (pss_cons (ps_set (i := 3) sc__law_without_end.nd rfl (by first | exact Or.inl rfl | exact Or.inr rfl) (pe_ix ix_list (pe_lst (pa_cons pe_int (pa_cons pe_int (pa_cons (pe_op p_add pe_int (pe_c c__law_draw hr (by omega) (by rfl) (pa_cons (pv 0) (pa_cons pe_int pa_nil)))) (pa_cons (pe_op p_add pe_int (pe_c c__law_draw hr (by omega) (by rfl) (pa_cons (pv 0) (pa_cons pe_int pa_nil)))) pa_nil))))) (pe_c c__law_draw hr (by omega) (by rfl) (pa_cons (pv 0) (pa_cons pe_int pa_nil))) (fun _ _ => rfl)))
      (pss_one (ps_ret (pe_cmpR (p_eqD hr.units) (pe_c c__law_most_told hr (by omega) (by rfl) (pa_cons (pe_lst (pa_cons (pe_tup (pa_cons pe_str (pa_cons (pv 2) pa_nil))) pa_nil)) (pa_cons pe_int (pa_cons (pv 3) pa_nil)))) (pe_lst (pa_cons pe_str (pa_cons (pe_op p_add (pv 3) (pe_op p_mul pe_int (pe_callTy p_int (by rfl) G.int (by decide +kernel) (pa_cons (pe_cmpR op_eq (pv 3) pe_int (nomark _)) pa_nil)))) pa_nil))) (nomark _))))))))
theorem ok__law_deeper (F : FnP K "_law_deeper" s__law_deeper [] f fd) (G : Gm w K mg dP es nn) (c__law_draw : Cal P w K mg base 2 "_law_draw" sp__law_draw []) (c__law_down : Cal P w K mg base 3 "_law_down" (sp__law_down K) []) (c__law_most_told : Cal P w K mg base 14 "_law_most_told" (sp__law_most_told K) []) : FnOk P w K mg base CX0 15 f fd ["well"] (sp__law_deeper K) :=
  FnP.go (k := 14) F sc__law_deeper (fun vs H Q E => by first | (unfold sp__law_deeper; walk_at "len") | walk_at "len") (t__law_deeper K) (fun vs H Q E h => pure__law_deeper (K := K) vs H Q E h) fun cdv A outer s H E hr =>
    (pss_cons (ps_asg (pe_c c__law_down hr (by omega) (by rfl) (pa_cons (pv 0) (pa_cons (pe_lst (pa_cons pe_str pa_nil)) (pa_cons (pe_op p_add pe_int (pe_c c__law_draw hr (by omega) (by rfl) (pa_cons (pv 0) (pa_cons pe_int pa_nil)))) pa_nil)))) (pg_tup rfl (pgs_cons (pg_name (i := 1) sc__law_deeper.nd rfl (by first | exact Or.inl rfl | exact Or.inr rfl)) (pgs_cons (pg_name (i := 2) sc__law_deeper.nd rfl (by first | exact Or.inl rfl | exact Or.inr rfl)) (pgs_cons (pg_name (i := 3) sc__law_deeper.nd rfl (by first | exact Or.inl rfl | exact Or.inr rfl)) (pgs_cons (pg_name (i := 4) sc__law_deeper.nd rfl (by first | exact Or.inl rfl | exact Or.inr rfl)) (pgs_cons (pg_name (i := 5) sc__law_deeper.nd rfl (by first | exact Or.inl rfl | exact Or.inr rfl)) (pgs_cons (pg_name (i := 6) sc__law_deeper.nd rfl (by first | exact Or.inl rfl | exact Or.inr rfl)) pgs_nil))))))))
      (pss_cons (ps_if (pt_cmpR op_eq (pe_c c__law_draw hr (by omega) (by rfl) (pa_cons (pv 0) (pa_cons pe_int pa_nil))) pe_int (nomark _)) (pss_one (ps_ret (pe_cmpR (p_eqD hr.units) (pe_c c__law_most_told hr (by omega) (by rfl) (pa_cons (pv 1) (pa_cons (pv 2) (pa_cons (pe_op p_sub (pv 5) pe_int) pa_nil)))) (pe_lst (pa_cons pe_str (pa_cons (pe_op p_sub (pv 5) pe_int) pa_nil))) (nomark _)))) pss_nil)
      (pss_one (ps_ret (pe_cmpR (p_eqD hr.units) (pe_c c__law_most_told hr (by omega) (by rfl) (pa_cons (pv 1) (pa_cons (pv 2) (pa_cons (pv 5) pa_nil)))) (pe_lst (pa_cons (pv 5) (pa_cons (pv 6) pa_nil))) (nomark _))))))
theorem ok_law (F : FnP K "law" s_law [] f fd) (G : Gm w K mg dP es nn) (CF : CFs K) (c__law_cell_at : Cal P w K mg base 1 "_law_cell_at" (sp__law_cell_at K) []) (c__law_well : Cal P w K mg base 2 "_law_well" sp__law_well []) (c__law_draw : Cal P w K mg base 2 "_law_draw" sp__law_draw []) (c__law_without_end : Cal P w K mg base 15 "_law_without_end" (sp__law_without_end K) []) (c__law_deeper : Cal P w K mg base 15 "_law_deeper" (sp__law_deeper K) []) (c__law_new_name : Cal P w K mg base 3 "_law_new_name" (sp__law_new_name K) []) (c__law_just_enough : Cal P w K mg base 14 "_law_just_enough" (sp__law_just_enough K) []) (c__law_down : Cal P w K mg base 3 "_law_down" (sp__law_down K) []) (c__law_added : Cal P w K mg base 3 "_law_added" (sp__law_added K) []) (c__law_by_turns : Cal P w K mg base 1 "_law_by_turns" (sp__law_by_turns K) []) (c__law_doubled : Cal P w K mg base 2 "_law_doubled" (sp__law_doubled K) []) (c__law_fourfold : Cal P w K mg base 2 "_law_fourfold" (sp__law_fourfold K) []) (c_run_d : CalX P w K mg base 13 "run" (sp_run K) [.non, .int 2000]) (n_Outcome : LnI P w K mg base 1 (He.ga K "Outcome") (sp_Outcome___len__ K)) : FnOk P w K mg base CX0 16 f fd ["script"] (sp_law K) :=
  FnP.go (k := 15) F sc_law (fun vs H Q E => by first | (unfold sp_law; walk_at "len") | walk_at "len") (t_law K) (fun vs H Q E h => pure_law (K := K) CF vs H Q E h) fun cdv A outer s H E hr =>
    (pss_cons (ps_set (i := 1) sc_law.nd rfl (by first | exact Or.inl rfl | exact Or.inr rfl) (pe_c c__law_well hr (by omega) (by rfl) (pa_cons (pe_c c__law_cell_at hr (by omega) (by rfl) (pa_cons (pv 0) (pa_cons pe_int pa_nil))) (pa_cons pe_int pa_nil))))
      (pss_cons (ps_set (i := 2) sc_law.nd rfl (by first | exact Or.inl rfl | exact Or.inr rfl) (pe_c c__law_draw hr (by omega) (by rfl) (pa_cons (pv 1) (pa_cons pe_int pa_nil))))
      (pss_cons (ps_if (pt_cmpR op_eq (pv 2) pe_int (nomark _)) (pss_one (ps_ret (pe_c c__law_without_end hr (by omega) (by rfl) (pa_cons (pv 1) pa_nil)))) pss_nil)
      (pss_cons (ps_if (pt_cmpR op_eq (pv 2) pe_int (nomark _)) (pss_one (ps_ret (pe_c c__law_deeper hr (by omega) (by rfl) (pa_cons (pv 1) pa_nil)))) pss_nil)
      (pss_cons (ps_set (i := 3) sc_law.nd rfl (by first | exact Or.inl rfl | exact Or.inr rfl) (pe_c c__law_draw hr (by omega) (by rfl) (pa_cons (pv 1) (pa_cons (pe_ix ix_list (pe_lst (pa_cons pe_int (pa_cons pe_int pa_nil))) (pe_c c__law_draw hr (by omega) (by rfl) (pa_cons (pv 1) (pa_cons pe_int pa_nil))) (fun _ _ => rfl)) pa_nil))))
      (pss_cons (ps_set (i := 4) sc_law.nd rfl (by first | exact Or.inl rfl | exact Or.inr rfl) (pe_lst pa_nil))
      (pss_cons (ps_for PassesOwn.never rfl (pi_range1 (by rfl) G.range (pa_cons pe_int pa_nil)) (pg_name (i := 5) sc_law.nd rfl (by first | exact Or.inl rfl | exact Or.inr rfl)) (pss_one (ps_expr (pe_bm PySem.F.plainAttrs_list PySem.F.slot_list_append PySem.F.type_list_append mt_append (pv 4) (pa_cons (pe_c c__law_new_name hr (by omega) (by rfl) (pa_cons (pv 1) (pa_cons (pv 4) pa_nil))) pa_nil)))))
      (pss_cons (ps_if (pt_cmpR op_eq (pv 2) pe_int (nomark _)) (pss_one (ps_ret (pe_c c__law_just_enough hr (by omega) (by rfl) (pa_cons (pv 4) (pa_cons (pe_op p_mod (pv 3) pe_int) pa_nil))))) pss_nil)
      (pss_cons (ps_if (pt_cmpR op_eq (pv 2) pe_int (nomark _)) (pss_one (ps_set (i := 6) sc_law.nd rfl (by first | exact Or.inl rfl | exact Or.inr rfl) (pe_c c__law_down hr (by omega) (by rfl) (pa_cons (pv 1) (pa_cons (pv 4) (pa_cons (pv 3) pa_nil)))))) (pss_one (ps_if (pt_cmpR op_eq (pv 2) pe_int (nomark _)) (pss_one (ps_set (i := 6) sc_law.nd rfl (by first | exact Or.inl rfl | exact Or.inr rfl) (pe_c c__law_added hr (by omega) (by rfl) (pa_cons (pv 1) (pa_cons (pv 4) (pa_cons (pv 3) pa_nil)))))) (pss_one (ps_if (pt_cmpR op_eq (pv 2) pe_int (nomark _)) (pss_one (ps_set (i := 6) sc_law.nd rfl (by first | exact Or.inl rfl | exact Or.inr rfl) (pe_c c__law_by_turns hr (by omega) (by rfl) (pa_cons (pv 4) (pa_cons (pe_op p_add (pv 3) (pe_op p_mod (pv 3) pe_int)) pa_nil))))) (pss_one (ps_if (pt_cmpR op_eq (pv 2) pe_int (nomark _)) (pss_one (ps_set (i := 6) sc_law.nd rfl (by first | exact Or.inl rfl | exact Or.inr rfl) (pe_c c__law_doubled hr (by omega) (by rfl) (pa_cons (pv 4) (pa_cons (pe_op p_mod (pv 3) pe_int) pa_nil))))) (pss_one (ps_set (i := 6) sc_law.nd rfl (by first | exact Or.inl rfl | exact Or.inr rfl) (pe_c c__law_fourfold hr (by omega) (by rfl) (pa_cons (pv 4) (pa_cons (pe_op p_mod (pv 3) pe_int) pa_nil))))))))))))
      (pss_cons (ps_set (i := 7) sc_law.nd rfl (by first | exact Or.inl rfl | exact Or.inr rfl) (pe_cx c_run_d hr (by omega) (by rfl) takes0 (pa_cons (pe_ix ix_tup (pv 6) pe_int (fun _ _ => rfl)) (pa_cons (pe_ix ix_list (pv 4) pe_int (fun _ _ => rfl)) (pa_cons (pe_ix ix_tup (pv 6) pe_int (fun _ _ => rfl)) pa_nil)))))
      (pss_cons (ps_if (PW.pt (pw_or (pt_cmpR (p_neD hr.units) (pe_lst (pa_cons (pe_fld (pv 7) rfl) (pa_cons (pe_fld (pv 7) rfl) pa_nil))) (pe_lst (pa_cons (pe_ix ix_tup (pv 6) pe_int (fun _ _ => rfl)) (pa_cons (pe_ix ix_tup (pv 6) pe_int (fun _ _ => rfl)) pa_nil))) (nomark _)) (pw_or1 (pt_cmpR (p_neD hr.units) (pe_lst (pa_cons (pe_callB (p_lenI n_Outcome hr (by decide)) (by rfl) G.len (by decide +kernel) (pa_cons (pv 7) pa_nil)) (pa_cons (pe_fld (pv 7) rfl) pa_nil))) (pe_lst (pa_cons (pe_ix ix_tup (pv 6) pe_int (fun _ _ => rfl)) (pa_cons (pe_ix ix_tup (pv 6) pe_int (fun _ _ => rfl)) pa_nil))) (nomark _))))) (pss_one (ps_ret pe_bl)) pss_nil)
      (pss_one (ps_ret (pe_cmpR (p_eqD hr.units) (pe_ix ix_list (pe_fld (pv 7) rfl) pe_int (fun _ _ => rfl)) (pe_tup (pa_cons (pe_tup pa_nil) (pa_cons pe_int pa_nil))) (nomark _)))))))))))))))
theorem sc_NoHelper___init__ : FnScope ["self", "name"] ["self", "name"] (defScope s_NoHelper___init__) := ⟨rfl, rfl, rfl, by decide +kernel, rfl, by decide +kernel, by decide +kernel⟩
theorem mk_NoHelper (F : MtP K "__init__" "NoHelper.__init__" s_NoHelper___init__ (He.ma K (He.ga K "NoHelper") "__init__") fd) (X : XCl K (He.ga K "NoHelper")) (I : XIn K (He.ga K "NoHelper") ["name"]) (g : mg "NoHelper" = some (.ref (He.ga K "NoHelper"))) : MkX P w K mg base "NoHelper" (He.ga K "NoHelper") ["name"] :=
  ⟨X.ox, I.no, g, _, fd, ["self", "name"], I.at_, I.ty, MtP.go (k := 0) F sc_NoHelper___init__ (fun vs H Q E h => by obtain ⟨a, xs, rfl, hl, _⟩ := h; simp at hl ⊢; omega) (t_xinit1 K "name") (fun vs H Q E h => pure_xinit1 vs H Q E h) (fun cdv A outer s H E hr => (pss_one (ps_ost (pv 0) (pv 1)))), F.bindsN fun _ _ _ _ _ _ us hl => match us, hl with | [_, _], _ => rfl⟩
theorem sc_NoProgram___init__ : FnScope ["self", "helper", "at"] ["self", "helper", "at"] (defScope s_NoProgram___init__) := ⟨rfl, rfl, rfl, by decide +kernel, rfl, by decide +kernel, by decide +kernel⟩
theorem mk_NoProgram (F : MtP K "__init__" "NoProgram.__init__" s_NoProgram___init__ (He.ma K (He.ga K "NoProgram") "__init__") fd) (X : XCl K (He.ga K "NoProgram")) (I : XIn K (He.ga K "NoProgram") ["helper", "at"]) (g : mg "NoProgram" = some (.ref (He.ga K "NoProgram"))) : MkX P w K mg base "NoProgram" (He.ga K "NoProgram") ["helper", "at"] :=
  ⟨X.ox, I.no, g, _, fd, ["self", "helper", "at"], I.at_, I.ty, MtP.go (k := 0) F sc_NoProgram___init__ (fun vs H Q E h => by obtain ⟨a, xs, rfl, hl, _⟩ := h; simp at hl ⊢; omega) (t_xinit2 K "helper" "at") (fun vs H Q E h => pure_xinit2 vs H Q E h) (fun cdv A outer s H E hr => (pss_cons (ps_ost (pv 0) (pv 1)) (pss_one (ps_ost (pv 0) (pv 2))))), F.bindsN fun _ _ _ _ _ _ us hl => match us, hl with | [_, _, _], _ => rfl⟩
theorem sc_TooLong___init__ : FnScope ["self", "most"] ["self", "most"] (defScope s_TooLong___init__) := ⟨rfl, rfl, rfl, by decide +kernel, rfl, by decide +kernel, by decide +kernel⟩
theorem mk_TooLong (F : MtP K "__init__" "TooLong.__init__" s_TooLong___init__ (He.ma K (He.ga K "TooLong") "__init__") fd) (X : XCl K (He.ga K "TooLong")) (I : XIn K (He.ga K "TooLong") ["most"]) (g : mg "TooLong" = some (.ref (He.ga K "TooLong"))) : MkX P w K mg base "TooLong" (He.ga K "TooLong") ["most"] :=
  ⟨X.ox, I.no, g, _, fd, ["self", "most"], I.at_, I.ty, MtP.go (k := 0) F sc_TooLong___init__ (fun vs H Q E h => by obtain ⟨a, xs, rfl, hl, _⟩ := h; simp at hl ⊢; omega) (t_xinit1 K "most") (fun vs H Q E h => pure_xinit1 vs H Q E h) (fun cdv A outer s H E hr => (pss_one (ps_ost (pv 0) (pv 1)))), F.bindsN fun _ _ _ _ _ _ us hl => match us, hl with | [_, _], _ => rfl⟩
end
theorem facts {P : Program} {w : World} {K : PySem.W.Frag} {h : Heap} {mg : Str → Option Value} {f : Addr} (X : K.In h) (G0 : h.Ns mainGlobals mg) (hfa : mg ("law" : Str) = some (.ref f)) (c0 : He.SaysX fa fn ts [] ex w h K) :
    ∃ fd : FuncData, (∀ (s : Shared) (v : Value), BindsTo s fd ⟨[v], []⟩ [("script", v)]) ∧ ∀ base : Heap, K.In base → base.Ns mainGlobals mg → FnOk P w K mg base CX0 16 f fd ["script"] (sp_law K) := by
  have c := c0.t.d
  have hd : He.dicW K (He.ga K "PARTS") = some (He.keysIn w.params partK) := (List.cons.inj (congrArg (fun z : He.AlT => z.2) c0.t)).1
  have c0m : (He.valsB K (He.ga K "PARTS") partV && (xtOk K && (xclB K (He.ga K "NoHelper") && (xinB K (He.ga K "NoHelper") ["name"] && (xclB K (He.ga K "NoProgram") && (xinB K (He.ga K "NoProgram") ["helper", "at"] && (xclB K (He.ga K "TooLong") && (xinB K (He.ga K "TooLong") ["most"])))))))) = true := c0.more
  obtain ⟨c0more, c0r0⟩ := Bool.and_eq_true_iff.mp c0m
  obtain ⟨c0t, c0r1⟩ := Bool.and_eq_true_iff.mp c0r0
  obtain ⟨xc_NoHelper, c0r2⟩ := Bool.and_eq_true_iff.mp c0r1
  obtain ⟨xi_NoHelper, c0r3⟩ := Bool.and_eq_true_iff.mp c0r2
  obtain ⟨xc_NoProgram, c0r4⟩ := Bool.and_eq_true_iff.mp c0r3
  obtain ⟨xi_NoProgram, c0r5⟩ := Bool.and_eq_true_iff.mp c0r4
  obtain ⟨xc_TooLong, c0r6⟩ := Bool.and_eq_true_iff.mp c0r5
  have xi_TooLong := c0r6
  have XT : XTl K := xtOk_ok c0t
  have T : Parts K w (He.ga K "PARTS") := parts_of hd c0more
  obtain ⟨es, nn, kd⟩ := T.kd
  obtain ⟨fd_is_whole, F_is_whole⟩ : ∃ fd, FnP K "is_whole" s_is_whole [] (He.ga K "is_whole") fd := c.def_ 0 (d := d_is_whole) rfl
  obtain ⟨fd_is_name, F_is_name⟩ : ∃ fd, FnP K "is_name" s_is_name [] (He.ga K "is_name") fd := c.def_ 1 (d := d_is_name) rfl
  obtain ⟨fd_is_expression, F_is_expression⟩ : ∃ fd, FnP K "is_expression" s_is_expression [.int 5] (He.ga K "is_expression") fd := c.def_ 2 (d := d_is_expression) rfl
  obtain ⟨fd_is_step, F_is_step⟩ : ∃ fd, FnP K "is_step" s_is_step [] (He.ga K "is_step") fd := c.def_ 3 (d := d_is_step) rfl
  obtain ⟨fd_has_form, F_has_form⟩ : ∃ fd, FnP K "has_form" s_has_form [] (He.ga K "has_form") fd := c.def_ 4 (d := d_has_form) rfl
  obtain ⟨fd_first_wrong, F_first_wrong⟩ : ∃ fd, FnP K "first_wrong" s_first_wrong [] (He.ga K "first_wrong") fd := c.def_ 5 (d := d_first_wrong) rfl
  obtain ⟨fd_check, F_check⟩ : ∃ fd, FnP K "check" s_check [] (He.ga K "check") fd := c.def_ 6 (d := d_check) rfl
  obtain ⟨fd_reckon, F_reckon⟩ : ∃ fd, FnP K "reckon" s_reckon [.non] (He.ga K "reckon") fd := c.def_ 7 (d := d_reckon) rfl
  obtain ⟨fd_start_cells, F_start_cells⟩ : ∃ fd, FnP K "start_cells" s_start_cells [] (He.ga K "start_cells") fd := c.def_ 8 (d := d_start_cells) rfl
  obtain ⟨fd_not_nought, F_not_nought⟩ : ∃ fd, FnP K "not_nought" s_not_nought [] (He.ga K "not_nought") fd := c.def_ 9 (d := d_not_nought) rfl
  obtain ⟨fd_helper_rows, F_helper_rows⟩ : ∃ fd, FnP K "helper_rows" s_helper_rows [] (He.ga K "helper_rows") fd := c.def_ 10 (d := d_helper_rows) rfl
  obtain ⟨fd_step_done, F_step_done⟩ : ∃ fd, FnP K "step_done" s_step_done [] (He.ga K "step_done") fd := c.def_ 11 (d := d_step_done) rfl
  obtain ⟨fd_trace, F_trace⟩ : ∃ fd, FnP K "trace" s_trace [] (He.ga K "trace") fd := c.def_ 12 (d := d_trace) rfl
  obtain ⟨fd_run, F_run⟩ : ∃ fd, FnP K "run" s_run [.str "main", .int 0, .non, .int 2000] (He.ga K "run") fd := c.def_ 13 (d := d_run) rfl
  obtain ⟨fd__law_cell_at, F__law_cell_at⟩ : ∃ fd, FnP K "_law_cell_at" s__law_cell_at [] (He.ga K "_law_cell_at") fd := c.def_ 14 (d := d__law_cell_at) rfl
  obtain ⟨fd__law_stir, F__law_stir⟩ : ∃ fd, FnP K "_law_stir" s__law_stir [] (He.ga K "_law_stir") fd := c.def_ 15 (d := d__law_stir) rfl
  obtain ⟨fd__law_well, F__law_well⟩ : ∃ fd, FnP K "_law_well" s__law_well [] (He.ga K "_law_well") fd := c.def_ 16 (d := d__law_well) rfl
  obtain ⟨fd__law_draw, F__law_draw⟩ : ∃ fd, FnP K "_law_draw" s__law_draw [] (He.ga K "_law_draw") fd := c.def_ 17 (d := d__law_draw) rfl
  obtain ⟨fd__law_new_name, F__law_new_name⟩ : ∃ fd, FnP K "_law_new_name" s__law_new_name [] (He.ga K "_law_new_name") fd := c.def_ 18 (d := d__law_new_name) rfl
  obtain ⟨fd__law_power, F__law_power⟩ : ∃ fd, FnP K "_law_power" s__law_power [] (He.ga K "_law_power") fd := c.def_ 19 (d := d__law_power) rfl
  obtain ⟨fd__law_down, F__law_down⟩ : ∃ fd, FnP K "_law_down" s__law_down [] (He.ga K "_law_down") fd := c.def_ 20 (d := d__law_down) rfl
  obtain ⟨fd__law_added, F__law_added⟩ : ∃ fd, FnP K "_law_added" s__law_added [] (He.ga K "_law_added") fd := c.def_ 21 (d := d__law_added) rfl
  obtain ⟨fd__law_by_turns, F__law_by_turns⟩ : ∃ fd, FnP K "_law_by_turns" s__law_by_turns [] (He.ga K "_law_by_turns") fd := c.def_ 22 (d := d__law_by_turns) rfl
  obtain ⟨fd__law_doubled, F__law_doubled⟩ : ∃ fd, FnP K "_law_doubled" s__law_doubled [] (He.ga K "_law_doubled") fd := c.def_ 23 (d := d__law_doubled) rfl
  obtain ⟨fd__law_fourfold, F__law_fourfold⟩ : ∃ fd, FnP K "_law_fourfold" s__law_fourfold [] (He.ga K "_law_fourfold") fd := c.def_ 24 (d := d__law_fourfold) rfl
  obtain ⟨fd__law_just_enough, F__law_just_enough⟩ : ∃ fd, FnP K "_law_just_enough" s__law_just_enough [] (He.ga K "_law_just_enough") fd := c.def_ 25 (d := d__law_just_enough) rfl
  obtain ⟨fd__law_most_told, F__law_most_told⟩ : ∃ fd, FnP K "_law_most_told" s__law_most_told [] (He.ga K "_law_most_told") fd := c.def_ 26 (d := d__law_most_told) rfl
  obtain ⟨fd__law_without_end, F__law_without_end⟩ : ∃ fd, FnP K "_law_without_end" s__law_without_end [] (He.ga K "_law_without_end") fd := c.def_ 27 (d := d__law_without_end) rfl
  obtain ⟨fd__law_deeper, F__law_deeper⟩ : ∃ fd, FnP K "_law_deeper" s__law_deeper [] (He.ga K "_law_deeper") fd := c.def_ 28 (d := d__law_deeper) rfl
  obtain ⟨fd_law, F_law⟩ : ∃ fd, FnP K "law" s_law [] (He.ga K "law") fd := c.def_ 29 (d := d_law) rfl
  obtain ⟨fd_NoHelper___init__, F_NoHelper___init__⟩ : ∃ fd, MtP K "__init__" "NoHelper.__init__" s_NoHelper___init__ (He.ma K (He.ga K "NoHelper") "__init__") fd := c.def_ 30 (d := d_NoHelper___init__) rfl
  obtain ⟨fd_NoProgram___init__, F_NoProgram___init__⟩ : ∃ fd, MtP K "__init__" "NoProgram.__init__" s_NoProgram___init__ (He.ma K (He.ga K "NoProgram") "__init__") fd := c.def_ 31 (d := d_NoProgram___init__) rfl
  obtain ⟨fd_TooLong___init__, F_TooLong___init__⟩ : ∃ fd, MtP K "__init__" "TooLong.__init__" s_TooLong___init__ (He.ma K (He.ga K "TooLong") "__init__") fd := c.def_ 32 (d := d_TooLong___init__) rfl
  obtain ⟨fd_Record___init__, F_Record___init__⟩ : ∃ fd, MtP K "__init__" "Record.__init__" s_Record___init__ (He.ma K (He.ga K "Record") "__init__") fd := c.def_ 33 (d := d_Record___init__) rfl
  obtain ⟨fd_Frame___init__, F_Frame___init__⟩ : ∃ fd, MtP K "__init__" "Frame.__init__" s_Frame___init__ (He.ma K (He.ga K "Frame") "__init__") fd := c.def_ 34 (d := d_Frame___init__) rfl
  obtain ⟨fd_Outcome___init__, F_Outcome___init__⟩ : ∃ fd, MtP K "__init__" "Outcome.__init__" s_Outcome___init__ (He.ma K (He.ga K "Outcome") "__init__") fd := c.def_ 35 (d := d_Outcome___init__) rfl
  obtain ⟨fd_Outcome___len__, F_Outcome___len__⟩ : ∃ fd, MtP K "__len__" "Outcome.__len__" s_Outcome___len__ (He.ma K (He.ga K "Outcome") "__len__") fd := c.def_ 36 (d := d_Outcome___len__) rfl
  have CF : CFs K := ⟨⟨He.cls_ok (c.fact 55 (f := .cls "Frame") rfl), He.noat_ok (c.fact 56 (f := .noat "Frame" "number") rfl), He.noat_ok (c.fact 57 (f := .noat "Frame" "path") rfl), He.noat_ok (c.fact 58 (f := .noat "Frame" "rows") rfl), He.noat_ok (c.fact 59 (f := .noat "Frame" "arg") rfl), He.noat_ok (c.fact 60 (f := .noat "Frame" "at") rfl), He.noat_ok (c.fact 61 (f := .noat "Frame" "past") rfl), He.noat_ok (c.fact 62 (f := .noat "Frame" "born") rfl)⟩, ⟨He.cls_ok (c.fact 63 (f := .cls "Record") rfl), He.noat_ok (c.fact 64 (f := .noat "Record" "mark") rfl), He.noat_ok (c.fact 65 (f := .noat "Record" "word") rfl), He.noat_ok (c.fact 66 (f := .noat "Record" "doer") rfl), He.noat_ok (c.fact 67 (f := .noat "Record" "child") rfl), He.noat_ok (c.fact 68 (f := .noat "Record" "reads") rfl), He.noat_ok (c.fact 69 (f := .noat "Record" "writes") rfl)⟩, ⟨He.cls_ok (c.fact 70 (f := .cls "Outcome") rfl), He.noat_ok (c.fact 71 (f := .noat "Outcome" "cells") rfl), He.noat_ok (c.fact 72 (f := .noat "Outcome" "given") rfl), He.noat_ok (c.fact 73 (f := .noat "Outcome" "steps") rfl), He.noat_ok (c.fact 74 (f := .noat "Outcome" "deepest") rfl)⟩⟩
  have G : Gm w K mg (He.ga K "PARTS") es nn := ⟨He.free_ok X G0 (c.fact 37 (f := .free "ValueError") rfl), He.free_ok X G0 (c.fact 38 (f := .free "all") rfl), He.free_ok X G0 (c.fact 39 (f := .free "isinstance") rfl), He.free_ok X G0 (c.fact 40 (f := .free "int") rfl), He.free_ok X G0 (c.fact 41 (f := .free "min") rfl), He.free_ok X G0 (c.fact 42 (f := .free "sorted") rfl), He.free_ok X G0 (c.fact 43 (f := .free "dict") rfl), He.free_ok X G0 (c.fact 44 (f := .free "range") rfl), He.free_ok X G0 (c.fact 45 (f := .free "len") rfl), He.free_ok X G0 (c.fact 46 (f := .free "list") rfl), He.free_ok X G0 (c.fact 47 (f := .free "enumerate") rfl), He.free_ok X G0 (c.fact 48 (f := .free "set") rfl), He.free_ok X G0 (c.fact 49 (f := .free "sum") rfl), He.free_ok X G0 (c.fact 50 (f := .free "bool") rfl), He.free_ok X G0 (c.fact 51 (f := .free "str") rfl), He.free_ok X G0 (c.fact 52 (f := .free "tuple") rfl), He.free_ok X G0 (c.fact 53 (f := .free "zip") rfl), He.free_ok X G0 (c.fact 54 (f := .free "max") rfl), (let ⟨t, e⟩ := He.str_ok X G0 (c.fact 79 (f := .str "LETTERS" letters) rfl); ⟨_, e, t, rfl⟩), (let ⟨t, e⟩ := He.int_ok X G0 (c.fact 80 (f := .int "LONGEST_NAME" 8) rfl); ⟨_, e, t, rfl⟩), ⟨_, He.glo_ok X G0 (c.fact 81 (f := .glo "PARTS") rfl), rfl⟩, He.glo_ok X G0 (c.fact 30 (f := .glo "WorkError") rfl), He.glo_ok X G0 (c.fact 31 (f := .glo "NoProgram") rfl), He.glo_ok X G0 (c.fact 32 (f := .glo "NoHelper") rfl), He.glo_ok X G0 (c.fact 33 (f := .glo "TooLong") rfl), He.glo_ok X G0 (c.fact 34 (f := .glo "Outcome") rfl), He.glo_ok X G0 (c.fact 35 (f := .glo "Record") rfl), He.glo_ok X G0 (c.fact 36 (f := .glo "Frame") rfl), kd⟩
  have g_is_whole := He.glo_ok X G0 (c.fact 0 (f := .glo "is_whole") rfl)
  have g_is_name := He.glo_ok X G0 (c.fact 1 (f := .glo "is_name") rfl)
  have g_is_expression := He.glo_ok X G0 (c.fact 2 (f := .glo "is_expression") rfl)
  have g_is_step := He.glo_ok X G0 (c.fact 3 (f := .glo "is_step") rfl)
  have g_has_form := He.glo_ok X G0 (c.fact 4 (f := .glo "has_form") rfl)
  have g_first_wrong := He.glo_ok X G0 (c.fact 5 (f := .glo "first_wrong") rfl)
  have g_check := He.glo_ok X G0 (c.fact 6 (f := .glo "check") rfl)
  have g_reckon := He.glo_ok X G0 (c.fact 7 (f := .glo "reckon") rfl)
  have g_start_cells := He.glo_ok X G0 (c.fact 8 (f := .glo "start_cells") rfl)
  have g_not_nought := He.glo_ok X G0 (c.fact 9 (f := .glo "not_nought") rfl)
  have g_helper_rows := He.glo_ok X G0 (c.fact 10 (f := .glo "helper_rows") rfl)
  have g_step_done := He.glo_ok X G0 (c.fact 11 (f := .glo "step_done") rfl)
  have g_trace := He.glo_ok X G0 (c.fact 12 (f := .glo "trace") rfl)
  have g_run := He.glo_ok X G0 (c.fact 13 (f := .glo "run") rfl)
  have g__law_cell_at := He.glo_ok X G0 (c.fact 14 (f := .glo "_law_cell_at") rfl)
  have g__law_stir := He.glo_ok X G0 (c.fact 15 (f := .glo "_law_stir") rfl)
  have g__law_well := He.glo_ok X G0 (c.fact 16 (f := .glo "_law_well") rfl)
  have g__law_draw := He.glo_ok X G0 (c.fact 17 (f := .glo "_law_draw") rfl)
  have g__law_new_name := He.glo_ok X G0 (c.fact 18 (f := .glo "_law_new_name") rfl)
  have g__law_power := He.glo_ok X G0 (c.fact 19 (f := .glo "_law_power") rfl)
  have g__law_down := He.glo_ok X G0 (c.fact 20 (f := .glo "_law_down") rfl)
  have g__law_added := He.glo_ok X G0 (c.fact 21 (f := .glo "_law_added") rfl)
  have g__law_by_turns := He.glo_ok X G0 (c.fact 22 (f := .glo "_law_by_turns") rfl)
  have g__law_doubled := He.glo_ok X G0 (c.fact 23 (f := .glo "_law_doubled") rfl)
  have g__law_fourfold := He.glo_ok X G0 (c.fact 24 (f := .glo "_law_fourfold") rfl)
  have g__law_just_enough := He.glo_ok X G0 (c.fact 25 (f := .glo "_law_just_enough") rfl)
  have g__law_most_told := He.glo_ok X G0 (c.fact 26 (f := .glo "_law_most_told") rfl)
  have g__law_without_end := He.glo_ok X G0 (c.fact 27 (f := .glo "_law_without_end") rfl)
  have g__law_deeper := He.glo_ok X G0 (c.fact 28 (f := .glo "_law_deeper") rfl)
  have g_law := He.glo_ok X G0 (c.fact 29 (f := .glo "law") rfl)
  have e := hfa.symm.trans g_law
  cases e
  have b := FunD.bindsA (ps := ["script"]) F_law fun _ _ _ _ _ _ us hl => match us, hl with | [_], _ => rfl
  refine ⟨fd_law, fun s v => b s [v] rfl, fun base _ _ => ?_⟩
  have m_NoHelper := mk_NoHelper (P := P) (w := w) (base := base) F_NoHelper___init__ (xclB_ok xc_NoHelper) (xinB_ok xi_NoHelper) G.NoHelper
  have m_NoProgram := mk_NoProgram (P := P) (w := w) (base := base) F_NoProgram___init__ (xclB_ok xc_NoProgram) (xinB_ok xi_NoProgram) G.NoProgram
  have m_TooLong := mk_TooLong (P := P) (w := w) (base := base) F_TooLong___init__ (xclB_ok xc_TooLong) (xinB_ok xi_TooLong) G.TooLong
  have o_is_whole := ok_is_whole (P := P) (base := base) F_is_whole G 
  have c_is_whole := F_is_whole.cal o_is_whole g_is_whole fun _ _ _ _ _ _ us hl => match us, hl with | [_], _ => rfl
  have o_is_name := ok_is_name (P := P) (base := base) F_is_name G 
  have c_is_name := F_is_name.cal o_is_name g_is_name fun _ _ _ _ _ _ us hl => match us, hl with | [_], _ => rfl
  have o_is_expression := ok_is_expression (P := P) (base := base) F_is_expression G T g_is_expression c_is_whole 6
  have c_is_expression_d := FnP.cald 1 0 F_is_expression o_is_expression g_is_expression (by simp) rfl fun _ _ _ _ _ _ _ us its h1 h2 => match us, its, h1, h2 with | [_], [_], _, _ => ⟨_, rfl, rfl⟩
  have o_is_step := ok_is_step (P := P) (base := base) F_is_step G c_is_expression_d c_is_whole c_is_name
  have c_is_step := F_is_step.cal o_is_step g_is_step fun _ _ _ _ _ _ us hl => match us, hl with | [_, _, _], _ => rfl
  have o_has_form := ok_has_form (P := P) (base := base) F_has_form G c_is_name
  have c_has_form := F_has_form.cal o_has_form g_has_form fun _ _ _ _ _ _ us hl => match us, hl with | [_], _ => rfl
  have o_first_wrong := ok_first_wrong (P := P) (base := base) F_first_wrong G c_has_form c_is_step
  have c_first_wrong := F_first_wrong.cal o_first_wrong g_first_wrong fun _ _ _ _ _ _ us hl => match us, hl with | [_], _ => rfl
  have o_check := ok_check (P := P) (base := base) F_check G c_first_wrong m_NoProgram
  have c_check := F_check.calX o_check g_check fun _ _ _ _ _ _ us hl => match us, hl with | [_], _ => rfl
  have o_reckon := ok_reckon (P := P) (base := base) F_reckon G g_reckon  6
  have c_reckon := FnP.cald 4 1 F_reckon o_reckon g_reckon (by simp) rfl fun _ _ _ _ _ _ _ us its h1 h2 => match us, its, h1, h2 with | [_, _, _, _], [_], _, _ => ⟨_, rfl, rfl⟩
  have o_start_cells := ok_start_cells (P := P) (base := base) F_start_cells G 
  have c_start_cells := F_start_cells.cal o_start_cells g_start_cells fun _ _ _ _ _ _ us hl => match us, hl with | [_], _ => rfl
  have o_not_nought := ok_not_nought (P := P) (base := base) F_not_nought G 
  have c_not_nought := F_not_nought.cal o_not_nought g_not_nought fun _ _ _ _ _ _ us hl => match us, hl with | [_], _ => rfl
  have o_helper_rows := ok_helper_rows (P := P) (base := base) F_helper_rows G m_NoHelper
  have c_helper_rows := F_helper_rows.calX o_helper_rows g_helper_rows fun _ _ _ _ _ _ us hl => match us, hl with | [_, _], _ => rfl
  have o_Record___init__ := ok_Record___init__ (P := P) (base := base) F_Record___init__ G CF
  have i_Record := MtP.mki (C := "Record") F_Record___init__ (He.mkr_ok (c.fact 75 (f := .mkr "Record") rfl)) o_Record___init__ G.Record fun _ _ _ _ _ _ us hl => match us, hl with | [_, _, _, _, _], _ => rfl
  have o_step_done := ok_step_done (P := P) (base := base) F_step_done G CF i_Record c_reckon
  have c_step_done := F_step_done.cal o_step_done g_step_done fun _ _ _ _ _ _ us hl => match us, hl with | [_, _, _], _ => rfl
  have o_Frame___init__ := ok_Frame___init__ (P := P) (base := base) F_Frame___init__ G CF
  have i_Frame := MtP.mki (C := "Frame") F_Frame___init__ (He.mkr_ok (c.fact 76 (f := .mkr "Frame") rfl)) o_Frame___init__ G.Frame fun _ _ _ _ _ _ us hl => match us, hl with | [_, _, _, _, _], _ => rfl
  have o_trace := ok_trace (P := P) (base := base) F_trace G CF c_check c_helper_rows i_Frame c_start_cells c_step_done m_TooLong
  have c_trace := F_trace.calX o_trace g_trace fun _ _ _ _ _ _ us hl => match us, hl with | [_, _, _, _, _], _ => rfl
  have o_Outcome___init__ := ok_Outcome___init__ (P := P) (base := base) F_Outcome___init__ G CF
  have i_Outcome := MtP.mki (C := "Outcome") F_Outcome___init__ (He.mkr_ok (c.fact 77 (f := .mkr "Outcome") rfl)) o_Outcome___init__ G.Outcome fun _ _ _ _ _ _ us hl => match us, hl with | [_, _, _, _, _], _ => rfl
  have o_run := ok_run (P := P) (base := base) F_run G CF c_trace c_not_nought i_Outcome
  have c_run_d4 := FnP.caldX 1 0 F_run o_run g_run (by simp) rfl fun _ _ _ _ _ _ _ us its h1 h2 => match us, its, h1, h2 with | [_], [_, _, _, _], _, _ => ⟨_, rfl, rfl⟩
  have c_run_d := FnP.caldX 3 2 F_run o_run g_run (by simp) rfl fun _ _ _ _ _ _ _ us its h1 h2 => match us, its, h1, h2 with | [_, _, _], [_, _, _, _], _, _ => ⟨_, rfl, rfl⟩
  have c_run := FnP.caldX 5 4 F_run o_run g_run (by simp) rfl fun _ _ _ _ _ _ _ us its h1 h2 => match us, its, h1, h2 with | [_, _, _, _, _], [_, _, _, _], _, _ => ⟨_, rfl, rfl⟩
  have o__law_cell_at := ok__law_cell_at (P := P) (base := base) F__law_cell_at G 
  have c__law_cell_at := F__law_cell_at.cal o__law_cell_at g__law_cell_at fun _ _ _ _ _ _ us hl => match us, hl with | [_, _], _ => rfl
  have o__law_stir := ok__law_stir (P := P) (base := base) F__law_stir G 
  have c__law_stir := F__law_stir.cal o__law_stir g__law_stir fun _ _ _ _ _ _ us hl => match us, hl with | [_, _], _ => rfl
  have o__law_well := ok__law_well (P := P) (base := base) F__law_well G c__law_stir
  have c__law_well := F__law_well.cal o__law_well g__law_well fun _ _ _ _ _ _ us hl => match us, hl with | [_, _], _ => rfl
  have o__law_draw := ok__law_draw (P := P) (base := base) F__law_draw G c__law_stir
  have c__law_draw := F__law_draw.cal o__law_draw g__law_draw fun _ _ _ _ _ _ us hl => match us, hl with | [_, _], _ => rfl
  have o__law_new_name := ok__law_new_name (P := P) (base := base) F__law_new_name G c__law_draw
  have c__law_new_name := F__law_new_name.cal o__law_new_name g__law_new_name fun _ _ _ _ _ _ us hl => match us, hl with | [_, _], _ => rfl
  have o__law_power := ok__law_power (P := P) (base := base) F__law_power G 
  have c__law_power := F__law_power.cal o__law_power g__law_power fun _ _ _ _ _ _ us hl => match us, hl with | [_, _], _ => rfl
  have o__law_down := ok__law_down (P := P) (base := base) F__law_down G c__law_draw
  have c__law_down := F__law_down.cal o__law_down g__law_down fun _ _ _ _ _ _ us hl => match us, hl with | [_, _, _], _ => rfl
  have o__law_added := ok__law_added (P := P) (base := base) F__law_added G c__law_draw
  have c__law_added := F__law_added.cal o__law_added g__law_added fun _ _ _ _ _ _ us hl => match us, hl with | [_, _, _], _ => rfl
  have o__law_by_turns := ok__law_by_turns (P := P) (base := base) F__law_by_turns G 
  have c__law_by_turns := F__law_by_turns.cal o__law_by_turns g__law_by_turns fun _ _ _ _ _ _ us hl => match us, hl with | [_, _], _ => rfl
  have o__law_doubled := ok__law_doubled (P := P) (base := base) F__law_doubled G c__law_power
  have c__law_doubled := F__law_doubled.cal o__law_doubled g__law_doubled fun _ _ _ _ _ _ us hl => match us, hl with | [_, _], _ => rfl
  have o__law_fourfold := ok__law_fourfold (P := P) (base := base) F__law_fourfold G c__law_power
  have c__law_fourfold := F__law_fourfold.cal o__law_fourfold g__law_fourfold fun _ _ _ _ _ _ us hl => match us, hl with | [_, _], _ => rfl
  have o_Outcome___len__ := ok_Outcome___len__ (P := P) (base := base) F_Outcome___len__ G CF
  have n_Outcome := MtP.lni (C := "Outcome") F_Outcome___len__ (He.meth_ok (c.fact 78 (f := .meth "Outcome" "__len__") rfl)) o_Outcome___len__ fun _ _ _ _ _ _ us hl => match us, hl with | [_], _ => rfl
  have o__law_just_enough := ok__law_just_enough (P := P) (base := base) F__law_just_enough G XT CF c_run_d4 n_Outcome
  have c__law_just_enough := F__law_just_enough.cal o__law_just_enough g__law_just_enough fun _ _ _ _ _ _ us hl => match us, hl with | [_, _], _ => rfl
  have o__law_most_told := ok__law_most_told (P := P) (base := base) F__law_most_told G XT CF c_run_d c_run n_Outcome
  have c__law_most_told := F__law_most_told.cal o__law_most_told g__law_most_told fun _ _ _ _ _ _ us hl => match us, hl with | [_, _, _], _ => rfl
  have o__law_without_end := ok__law_without_end (P := P) (base := base) F__law_without_end G c__law_draw c__law_most_told
  have c__law_without_end := F__law_without_end.cal o__law_without_end g__law_without_end fun _ _ _ _ _ _ us hl => match us, hl with | [_], _ => rfl
  have o__law_deeper := ok__law_deeper (P := P) (base := base) F__law_deeper G c__law_draw c__law_down c__law_most_told
  have c__law_deeper := F__law_deeper.cal o__law_deeper g__law_deeper fun _ _ _ _ _ _ us hl => match us, hl with | [_], _ => rfl
  exact ok_law (P := P) (base := base) F_law G CF c__law_cell_at c__law_well c__law_draw c__law_without_end c__law_deeper c__law_new_name c__law_just_enough c__law_down c__law_added c__law_by_turns c__law_doubled c__law_fourfold c_run_d n_Outcome
end Fg
open PySem PySem.W PySem.Calls PyProof.Rows
set_option maxRecDepth 100000 in
set_option maxHeartbeats 0 in
theorem PySem.Challenge.cw_forkgather_k13_long_and_deep_holds : PySem.Challenge.rw_forkgather_k13_long_and_deep.Holds := by
  w_on; o_law
  refine HandSHeadRun.head_any (r := OpenLaw.row PySem.Challenge.rw_forkgather_k13_long_and_deep) (q := view (OpenLaw.row PySem.Challenge.rw_forkgather_k13_long_and_deep).prog [43]) (H := Fg.hk) (ob := Fg.ob) (M := 6000) (loose := Fg.names) (d := HandSHeadRun.topDef (OpenLaw.row PySem.Challenge.rw_forkgather_k13_long_and_deep).prog 43) (kwd := []) Fg.ob_eq
    (by kernel_rfl) (fun s => by kernel_rfl) Fg.run (by kernel_rfl) (by kernel_rfl) (by kernel_rfl) (by rfl) (by first | assumption | decide +kernel) (by decide +kernel) ⟨rfl, rfl, rfl, rfl, rfl, by decide +kernel⟩ ?hw ?hc
  case hw => w_witness2
  case hc =>
    refine L2.walk_ofE (l := PySem.Challenge.rw_forkgather_k13_long_and_deep) (n := 63) (k := 16) (x := "script") (CX := L2.CX0) rfl (by decide) (by kernel_rfl) ⟨rfl, by decide, by decide⟩ ?F (fun _ _ _ _ z => z)
    intro w mg fa h Y G hmg0
    obtain ⟨K, KX, c⟩ := Y
    have hmg : mg ("law" : PySem.Str) = some (.ref fa) := by
      have e : (HandSHeadRun.topDef (OpenLaw.row PySem.Challenge.rw_forkgather_k13_long_and_deep).prog 43).name = ("law" : PySem.Str) := by kernel_rfl
      rw [← e]
      exact hmg0
    obtain ⟨fd, hb, hF⟩ := Fg.facts (P := (PySem.Challenge.rw_forkgather_k13_long_and_deep).prog) (w := w) KX G hmg c
    exact ⟨K, fd, Fg.sp_law K, KX, hb, fun H a ns hl _ hS => ⟨a, ns, rfl, hS, hl, fun _ => rfl⟩, hF⟩
