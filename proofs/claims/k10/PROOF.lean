import PyProof.Rows.All
import Wide.All
import OpenK.AllK
import Wide.FinOn
import KE.KStateDown
import Lean
import HandS.ForMost
import HandS.Defaults
import HandS.IsInst
import HandS.More
import HandS.Codes
import HandS.TupLe
import HandS.TupAny
import HandS.Conv
import HandS.Wide
import HandS.Walk
import KE.DataEq
import HandS.Head0
import HandS.Head1
import HandS.Head2
import HandS.HeadEnd
import HandS.HeadHook1
import HandS.HeadHook2
import HandS.HeadHook3
import HandS.HeadHook4
import HandS.Exc
import HandS.ExcField
import HandS.ExcIs
import HandS.ExcInit
import HandS.ExcValue
import HandS.TryOnly
import KE.KExcIs
import HandS.CallSlots
import HandS.ExcOwn
import HandS.Lambda
import PyProof.FactsAll.dict_1
import PyProof.FactsAll.subtypes_3
import PyProof.FactsAll.subtypes_4
import HandS.SetKeys
import HandS.SetFor
import HandS.Strs
import HandS.SortInts
import HandS.Flow
import HandS.Style
import KE.IntBitsLaws
import HandS.OwnEq
import PyProof.InstSpecial
import HandS.List
import PyProof.AutoSeq1
import HandS.SortRule
import PySem.Challenge.RW_forkgather_k10_whole_one_hand
set_option Elab.async false
set_option linter.all false
set_option maxRecDepth 100000
set_option maxHeartbeats 4000000
namespace Fg
open PySem PySem.Spec PyProof.Rows L2

/-! ### heaps: what may have changed -/
structure Chg (M : List Addr) (H H' : Hp) : Prop where
  keep : ∀ a o, H a = some o → a ∉ M → H' a = some o
  dom : ∀ a, H' a = none → H a = none
  tup : ∀ a xs, H a = some (.tup xs) → H' a = some (.tup xs)

theorem Chg.refl {M : List Addr} {H : Hp} : Chg M H H := ⟨fun _ _ h _ => h, fun _ h => h, fun _ _ h => h⟩
theorem Chg.new {H : Hp} {p : Addr} {o : HO} (n : H p = none) : Chg [] H (upd H p o) where
  keep := fun a u h _ => by rw [upd_ne (ne_of_none h n)]; exact h
  dom := fun a h => by
    by_cases e : a = p
    · subst e; exact n
    · rw [upd_ne e] at h; exact h
  tup := fun a xs h => by rw [upd_ne (ne_of_none h n)]; exact h
theorem Chg.mut {H : Hp} {p : Addr} {o u : HO} (h : H p = some u) (hm : ∀ xs, u ≠ .tup xs) : Chg [p] H (upd H p o) where
  keep := fun a v e hn => by rw [upd_ne (fun z => hn (by rw [z]; exact List.mem_singleton.mpr rfl))]; exact e
  dom := fun a e => by
    by_cases z : a = p
    · subst z; rw [upd_same] at e; cases e
    · rw [upd_ne z] at e; exact e
  tup := fun a xs e => by
    rw [upd_ne (fun z => by subst z; rw [h] at e; exact hm xs (Option.some.inj e))]; exact e
/-- then c', whose changed ones are changed ones of c or new ones -/
theorem Chg.go {M M' : List Addr} {H H1 H2 : Hp} (c : Chg M H H1) (c' : Chg M' H1 H2) (h : ∀ a ∈ M', a ∈ M ∨ H a = none) : Chg M H H2 where
  keep := fun a o e hn => c'.keep a o (c.keep a o e hn) (fun hm => (h a hm).elim hn fun z => by rw [z] at e; cases e)
  dom := fun a e => c.dom a (c'.dom a e)
  tup := fun a xs e => c'.tup a xs (c.tup a xs e)
theorem Chg.same {M : List Addr} {H H1 H2 : Hp} (c : Chg M H H1) (c' : Chg [] H1 H2) : Chg M H H2 := c.go c' fun a h => absurd h (by simp)
theorem Chg.pre {M : List Addr} {H H1 H2 : Hp} (c : Chg [] H H1) (c' : Chg M H1 H2) : Chg M H H2 :=
  ⟨fun a o e hn => c'.keep a o (c.keep a o e (by simp)) hn, fun a e => c.dom a (c'.dom a e), fun a xs e => c'.tup a xs (c.tup a xs e)⟩
theorem Chg.both {M : List Addr} {H H1 H2 : Hp} (c : Chg M H H1) (c' : Chg M H1 H2) : Chg M H H2 := c.go c' fun a h => .inl h
theorem Chg.wide {M M' : List Addr} {H H1 : Hp} (c : Chg M H H1) (h : ∀ a ∈ M, a ∈ M') : Chg M' H H1 := ⟨fun a o e hn => c.keep a o e fun z => hn (h a z), c.dom, c.tup⟩
theorem Chg.one {H H1 H2 : Hp} {p : Addr} (c : Chg [] H H1) (c' : Chg [p] H1 H2) (n : H p = none) : Chg [] H H2 :=
  c.go c' fun a h => .inr (by rw [List.mem_singleton.mp h]; exact n)
theorem Chg.at {H H' : Hp} {a : Addr} {o : HO} (c : Chg [] H H') (h : H a = some o) : H' a = some o := c.keep a o h (by simp)
theorem Chg.ne {M : List Addr} {H H' : Hp} {a b : Addr} {o : HO} (c : Chg M H H') (h : H a = some o) (n : H' b = none) : a ≠ b := fun e => by
  have z := c.dom b n
  rw [← e, h] at z; cases z
theorem Chg.at1 {H H' : Hp} {a b : Addr} {o : HO} (c : Chg [b] H H') (h : H a = some o) (n : a ≠ b) : H' a = some o := c.keep a o h (by simpa using n)
theorem Chg.seq {K : PySem.W.Frag} {H H' : Hp} {a : Addr} {xs : List V} (c : Chg [] H H') (h : SqL K H a xs) : SqL K H' a xs := by
  rcases h with (h | ⟨o, h⟩) | h
  · exact .inl (.inl (c.at h))
  · exact .inl (.inr ⟨o, c.at h⟩)
  · exact .inr h
theorem sqL {K : PySem.W.Frag} {H : Hp} {a : Addr} {xs : List V} (h : H a = some (.lst xs)) : SqL K H a xs := .inl (.inl h)
theorem sqT {K : PySem.W.Frag} {H : Hp} {a : Addr} {xs : List V} (h : H a = some (.tup xs)) : SqT K H a xs := .inl (.inl h)

/-! ### data: the lists' addresses are in S -/
mutual
inductive R (S : Addr → Prop) (H : Hp) : V → PyData → Prop
  | non : R S H .non .none
  | bl (b : Bool) : R S H (.bl b) (.bool b)
  | int (i : Int) : R S H (.int i) (.int i)
  | str (x : Str) : R S H (.str x) (.str x)
  | lst {a : Addr} {xs : List V} {ds : List PyData} : S a → H a = some (.lst xs) → RA S H xs ds → R S H (.ref a) (.list ds)
  | tup {a : Addr} {xs : List V} {ds : List PyData} : H a = some (.tup xs) → RA S H xs ds → R S H (.ref a) (.tuple ds)
  | dic {a : Addr} {kvs : List (Key × V)} : S a → H a = some (.dK kvs) → R S H (.ref a) (.dict [])
inductive RA (S : Addr → Prop) (H : Hp) : List V → List PyData → Prop
  | nil : RA S H [] []
  | cons {v : V} {vs : List V} {d : PyData} {ds : List PyData} : R S H v d → RA S H vs ds → RA S H (v :: vs) (d :: ds)
end
mutual
theorem R.imp {S S' : Addr → Prop} {H H' : Hp} (hl : ∀ a xs, S a → H a = some (.lst xs) → S' a ∧ H' a = some (.lst xs)) (hd : ∀ a xs, S a → H a = some (.dK xs) → S' a ∧ H' a = some (.dK xs))
    (ht : ∀ a xs, H a = some (.tup xs) → H' a = some (.tup xs)) : ∀ {d : PyData} {v : V}, R S H v d → R S' H' v d
  | .none, _, h => by cases h; exact .non
  | .bool _, _, h => by cases h; exact .bl _
  | .int _, _, h => by cases h; exact .int _
  | .str _, _, h => by cases h; exact .str _
  | .list ds, _, h => by
    cases h with
    | lst s e r => exact .lst (hl _ _ s e).1 (hl _ _ s e).2 (RA.imp hl hd ht r)
  | .tuple ds, _, h => by
    cases h with
    | tup e r => exact .tup (ht _ _ e) (RA.imp hl hd ht r)
  | .dict _, _, h => by
    cases h with
    | dic s e => exact .dic (hd _ _ s e).1 (hd _ _ s e).2
theorem RA.imp {S S' : Addr → Prop} {H H' : Hp} (hl : ∀ a xs, S a → H a = some (.lst xs) → S' a ∧ H' a = some (.lst xs)) (hd : ∀ a xs, S a → H a = some (.dK xs) → S' a ∧ H' a = some (.dK xs))
    (ht : ∀ a xs, H a = some (.tup xs) → H' a = some (.tup xs)) : ∀ {ds : List PyData} {vs : List V}, RA S H vs ds → RA S' H' vs ds
  | [], _, h => by cases h; exact .nil
  | d :: ds, _, h => by
    cases h with
    | cons a b => exact .cons (R.imp hl hd ht a) (RA.imp hl hd ht b)
end
theorem R.keep {S : Addr → Prop} {M : List Addr} {H H' : Hp} {v : V} {d : PyData} (c : Chg M H H') (h : ∀ a, S a → a ∉ M) (r : R S H v d) : R S H' v d :=
  R.imp (fun a xs s e => ⟨s, c.keep a _ e (h a s)⟩) (fun a xs s e => ⟨s, c.keep a _ e (h a s)⟩) c.tup r
theorem RA.keep {S : Addr → Prop} {M : List Addr} {H H' : Hp} {v : List V} {d : List PyData} (c : Chg M H H') (h : ∀ a, S a → a ∉ M) (r : RA S H v d) : RA S H' v d :=
  RA.imp (fun a xs s e => ⟨s, c.keep a _ e (h a s)⟩) (fun a xs s e => ⟨s, c.keep a _ e (h a s)⟩) c.tup r
theorem R.mono {S S' : Addr → Prop} {H : Hp} {v : V} {d : PyData} (h : ∀ a, S a → S' a) (r : R S H v d) : R S' H v d :=
  R.imp (fun a xs s e => ⟨h a s, e⟩) (fun a xs s e => ⟨h a s, e⟩) (fun _ _ e => e) r
theorem RA.mono {S S' : Addr → Prop} {H : Hp} {v : List V} {d : List PyData} (h : ∀ a, S a → S' a) (r : RA S H v d) : RA S' H v d :=
  RA.imp (fun a xs s e => ⟨h a s, e⟩) (fun a xs s e => ⟨h a s, e⟩) (fun _ _ e => e) r
/-- all that stands in H stands in H' -/
theorem R.same {S : Addr → Prop} {H H' : Hp} {v : V} {d : PyData} (c : Chg [] H H') (r : R S H v d) : R S H' v d := r.keep c fun _ _ => by simp
theorem RA.same {S : Addr → Prop} {H H' : Hp} {v : List V} {d : List PyData} (c : Chg [] H H') (r : RA S H v d) : RA S H' v d := r.keep c fun _ _ => by simp
/-- data without lists -/
abbrev Im : Hp → V → PyData → Prop := R (fun _ => False)
abbrev ImA : Hp → List V → List PyData → Prop := RA (fun _ => False)
theorem R.im {M : List Addr} {H H' : Hp} {v : V} {d : PyData} (c : Chg M H H') (r : Im H v d) : Im H' v d := R.keep c (fun _ z => z.elim) r
theorem RA.im {M : List Addr} {H H' : Hp} {v : List V} {d : List PyData} (c : Chg M H H') (r : ImA H v d) : ImA H' v d := RA.keep c (fun _ z => z.elim) r
theorem R.any {S : Addr → Prop} {H : Hp} {v : V} {d : PyData} (r : Im H v d) : R S H v d := r.mono fun _ z => z.elim
theorem RA.any {S : Addr → Prop} {H : Hp} {v : List V} {d : List PyData} (r : ImA H v d) : RA S H v d := r.mono fun _ z => z.elim
theorem RA.length {S : Addr → Prop} {H : Hp} : ∀ {vs : List V} {ds : List PyData}, RA S H vs ds → vs.length = ds.length
  | _, _, .nil => rfl
  | _, _, .cons _ r => by rw [List.length_cons, List.length_cons, r.length]
theorem RA.get {S : Addr → Prop} {H : Hp} : ∀ {vs : List V} {ds : List PyData} {i : Nat} {v : V}, RA S H vs ds → vs[i]? = some v → ∃ d, ds[i]? = some d ∧ R S H v d
  | _, _, _, _, .nil, h => by simp at h
  | _, _, 0, _, .cons a r, h => ⟨_, rfl, by cases (Option.some.inj (show some _ = some _ from h)); exact a⟩
  | _, _, i + 1, _, .cons a r, h => RA.get (i := i) r h
theorem RA.get' {S : Addr → Prop} {H : Hp} : ∀ {vs : List V} {ds : List PyData} {i : Nat} {d : PyData}, RA S H vs ds → ds[i]? = some d → ∃ v, vs[i]? = some v ∧ R S H v d
  | _, _, _, _, .nil, h => by simp at h
  | _, _, 0, _, .cons a r, h => ⟨_, rfl, by cases (Option.some.inj (show some _ = some _ from h)); exact a⟩
  | _, _, i + 1, _, .cons a r, h => RA.get' (i := i) r h
theorem RA.snoc {S : Addr → Prop} {H : Hp} : ∀ {vs : List V} {ds : List PyData} {v : V} {d : PyData}, RA S H vs ds → R S H v d → RA S H (vs ++ [v]) (ds ++ [d])
  | _, _, _, _, .nil, h => .cons h .nil
  | _, _, _, _, .cons a r, h => .cons a (r.snoc h)
theorem RA.append {S : Addr → Prop} {H : Hp} : ∀ {vs ws : List V} {ds es : List PyData}, RA S H vs ds → RA S H ws es → RA S H (vs ++ ws) (ds ++ es)
  | _, _, _, _, .nil, h => h
  | _, _, _, _, .cons a r, h => .cons a (r.append h)
theorem RA.drop {S : Addr → Prop} {H : Hp} : ∀ {vs : List V} {ds : List PyData} (n : Nat), RA S H vs ds → RA S H (vs.drop n) (ds.drop n)
  | _, _, 0, h => h
  | _, _, _ + 1, .nil => .nil
  | _, _, n + 1, .cons _ r => r.drop n
theorem RA.take {S : Addr → Prop} {H : Hp} : ∀ {vs : List V} {ds : List PyData} (n : Nat), RA S H vs ds → RA S H (vs.take n) (ds.take n)
  | _, _, 0, _ => .nil
  | _, _, _ + 1, .nil => .nil
  | _, _, n + 1, .cons a r => .cons a (r.take n)
/-- no dict in it -/
abbrev noDic : PyData → Bool := PyData.plain
abbrev noDics : List PyData → Bool := PyData.plainAll
mutual
theorem eqv_self : ∀ d : PyData, noDic d = true → PyData.eqv d d = true
  | .none, _ => rfl
  | .bool b, _ => by simp [PyData.eqv]
  | .int i, _ => by simp [PyData.eqv]
  | .str x, _ => by simp [PyData.eqv]
  | .list xs, h => by
    show PyData.eqvAll xs xs = true
    exact eqvAll_self xs h
  | .tuple xs, h => by
    show PyData.eqvAll xs xs = true
    exact eqvAll_self xs h
  | .dict _, h => by cases h
theorem eqvAll_self : ∀ ds : List PyData, noDics ds = true → PyData.eqvAll ds ds = true
  | [], _ => rfl
  | d :: ds, h => by
    obtain ⟨h1, h2⟩ := Bool.and_eq_true_iff.mp (show (noDic d && noDics ds) = true from h)
    show (PyData.eqv d d && PyData.eqvAll ds ds) = true
    rw [eqv_self d h1, eqvAll_self ds h2]
    rfl
end
mutual
theorem R.dp {K : PySem.W.Frag} {S : Addr → Prop} {H : Hp} : ∀ {d : PyData} {v : V}, R S H v d → noDic d = true → Dp K H v d
  | .none, _, h, _ => by cases h; exact .non
  | .bool _, _, h, _ => by cases h; exact .bl _
  | .int _, _, h, _ => by cases h; exact .int _
  | .str _, _, h, _ => by cases h; exact .str _
  | .list ds, _, h, z => by
    cases h with
    | lst s e r => exact .lst (sqL e) (RA.dp r z)
  | .tuple ds, _, h, z => by
    cases h with
    | tup e r => exact .tup (sqT e) (RA.dp r z)
  | .dict _, _, h, z => by cases z
theorem RA.dp {K : PySem.W.Frag} {S : Addr → Prop} {H : Hp} : ∀ {ds : List PyData} {vs : List V}, RA S H vs ds → noDics ds = true → DpAll K H vs ds
  | [], _, h, _ => by cases h; exact .nil
  | d :: ds, _, h, z => by
    obtain ⟨z1, z2⟩ := Bool.and_eq_true_iff.mp (show (noDic d && noDics ds) = true from z)
    cases h with
    | cons a b => exact .cons (R.dp a z1) (RA.dp b z2)
end
end Fg
namespace Fg
open PySem PySem.Spec PyProof.Rows L2
/-! ### readings with names, their rules, their steps -/
section
variable {X : Cx}
def oAdd : R2 := rI0 fun i j => .int (i + j)
def oSub : R2 := rI0 fun i j => .int (i - j)
def oMul : R2 := rI CMul fun i j => .int (i * j)
def oFdiv : R2 := rI CDivW fun i j => .int (i / j)
def oMod : R2 := rI (fun _ j => 0 < j) fun i j => .int (i % j)
def CPowW (i j : Int) : Prop := 0 ≤ j ∧ (Builtin.Int.intBits i : Int) * j ≤ 2 ^ 27
def oPow : R2 := rI CPowW fun i j => .int (i ^ j.toNat)
def oLt : R2 := rI0 fun i j => .bl (decide (i < j))
def oLe : R2 := rI0 fun i j => .bl (decide (i ≤ j))
def oGt : R2 := rI0 fun i j => .bl (decide (j < i))
def oGe : R2 := rI0 fun i j => .bl (decide (j ≤ i))
def oAddS : R2 := fun x y H Q => ∃ i j, x = .str i ∧ y = .str j ∧ i.length + j.length ≤ sizeLine ∧ Q (.str (i ++ j)) H
def oLtS : R2 := fun x y H Q => ∃ i j, x = .str i ∧ y = .str j ∧ Q (.bl (decide (i.cps.toList < j.cps.toList))) H
def oGeS : R2 := fun x y H Q => ∃ i j, x = .str i ∧ y = .str j ∧ Q (.bl (!decide (i.cps.toList < j.cps.toList))) H
def oInC : R2 := fun x y H Q => ∃ (c : Nat) (z : Str), x = .str ⟨#[c]⟩ ∧ y = .str z ∧ Q (.bl (decide (c ∈ z.cps.toList))) H
def oNotInC : R2 := fun x y H Q => ∃ (c : Nat) (z : Str), x = .str ⟨#[c]⟩ ∧ y = .str z ∧ Q (.bl (!decide (c ∈ z.cps.toList))) H
def oIsN : R2 := fun x y H Q => y = .non ∧ Q (.bl (decide (x = .non))) H
def oNotN : R2 := fun x y H Q => y = .non ∧ Q (.bl (!decide (x = .non))) H
def oIsB : R2 := fun x y H Q => ∃ a b, x = .bl a ∧ y = .bl b ∧ Q (.bl (decide (a = b))) H
def oNotB : R2 := fun x y H Q => ∃ a b, x = .bl a ∧ y = .bl b ∧ Q (.bl (!decide (a = b))) H
def oInKd (K : PySem.W.Frag) (d : Addr) : R2 := fun x y H Q => ∃ (z : Str) (r : Option Value), x = .str z ∧ y = .ref d ∧ PySem.W.nsIn K d z = some r ∧ Q (.bl r.isSome) H
def oNotInKd (K : PySem.W.Frag) (d : Addr) : R2 := fun x y H Q => ∃ (z : Str) (r : Option Value), x = .str z ∧ y = .ref d ∧ PySem.W.nsIn K d z = some r ∧ Q (.bl (!r.isSome)) H
def oEqD : R2 := fun x y H Q => ∃ (d e : PyData) (S S' : Addr → Prop), R S H x d ∧ R S' H y e ∧ noDic d = true ∧ noDic e = true ∧ min d.depth e.depth ≤ 60 ∧ Q (.bl (PyData.eqv d e)) H
def oNeD : R2 := fun x y H Q => ∃ (d e : PyData) (S S' : Addr → Prop), R S H x d ∧ R S' H y e ∧ noDic d = true ∧ noDic e = true ∧ min d.depth e.depth ≤ 60 ∧ Q (.bl (!PyData.eqv d e)) H
theorem p_eqD (hu : X.A.units + 64 < cLine) : OpR X (compareOp .Eq) oEqD := by
  intro pins s σ H x y v u Q I rx ry h
  obtain ⟨d, e, S, S', hd, he, sd, se, hm, q⟩ := h
  obtain ⟨as, r1⟩ := Dp.reads I d x v (hd.dp sd) rx
  obtain ⟨bs, r2⟩ := Dp.reads I e y u (he.dp se) ry
  exact SeqAt.eq_plain r1 r2 sd se (by omega) ⟨.bl _, H, I, rfl, q⟩
theorem p_neD (hu : X.A.units + 64 < cLine) : OpR X (compareOp .NotEq) oNeD := by
  intro pins s σ H x y v u Q I rx ry h
  obtain ⟨d, e, S, S', hd, he, sd, se, hm, q⟩ := h
  obtain ⟨as, r1⟩ := Dp.reads I d x v (hd.dp sd) rx
  obtain ⟨bs, r2⟩ := Dp.reads I e y u (he.dp se) ry
  exact SeqAt.ne_plain r1 r2 sd se (by omega) ⟨.bl _, H, I, rfl, q⟩
def mJoin (K : PySem.W.Frag) : V → List V → Hp → VK → Prop := fun x xs H Q => ∃ a p, ∃ ys : List Str, x = .str a ∧ xs = [.ref p] ∧ (SqL K H p (ys.map V.str) ∨ SqT K H p (ys.map V.str)) ∧ (ys.map (·.length)).sum + ys.length * a.length ≤ 16777216 ∧ Q (.str (Txt.join a ys)) H
def mSplit : V → List V → Hp → VK → Prop := fun x xs H Q => ∃ a b, x = .str a ∧ xs = [.str b] ∧ (b.length == 0) = false ∧ a.length + 2 ≤ sizeLine ∧ rNewStrs (Txt.split a b) H Q
def mPartition : V → List V → Hp → VK → Prop := fun x xs H Q => ∃ a b, x = .str a ∧ xs = [.str b] ∧ (b.length == 0) = false ∧ a.length ≤ sizeLine ∧ ∀ p, H p = none → Q (.ref p) (upd H p (.tup [.str (Txt.partition a b).1, .str (Txt.partition a b).2.1, .str (Txt.partition a b).2.2]))
theorem p_add : OpR X (binaryOp .Add) oAdd := op_add
theorem p_sub : OpR X (binaryOp .Sub) oSub := op_sub
theorem p_mul : OpR X (binaryOp .Mult) oMul := op_mul
theorem p_fdiv : OpR X (binaryOp .FloorDiv) oFdiv := op_fdivW
theorem p_mod : OpR X (binaryOp .Mod) oMod := op_mod
theorem p_pow : OpR X (binaryOp .Pow) oPow := opI fun _ _ _ _ _ _ _ hc q => pow_int hc.1 hc.2 q
theorem p_lt : OpR X (compareOp .Lt) oLt := op_lt
theorem p_le : OpR X (compareOp .LtE) oLe := op_le
theorem p_gt : OpR X (compareOp .Gt) oGt := op_gt
theorem p_ge : OpR X (compareOp .GtE) oGe := op_ge
theorem p_addS : OpR X (binaryOp .Add) oAddS := op_add_str
theorem p_ltS : OpR X (compareOp .Lt) oLtS := op_lt_str
theorem p_geS : OpR X (compareOp .GtE) oGeS := op_ge_str
theorem p_inC : OpR X (compareOp .In) oInC := op_in_sign
theorem p_notInC : OpR X (compareOp .NotIn) oNotInC := op_notIn_sign
theorem p_isN : OpR X (compareOp .Is) oIsN := op_isN
theorem p_notN : OpR X (compareOp .IsNot) oNotN := op_notN
theorem p_isB : OpR X (compareOp .Is) oIsB := op_is_bl
theorem p_notB : OpR X (compareOp .IsNot) oNotB := op_isnot_bl
def cMax : List V → Hp → VK → Prop := fun xs H Q => ∃ i j, xs = [.int i, .int j] ∧ Q (.int (if j > i then j else i)) H
def cMin : List V → Hp → VK → Prop := fun xs H Q => ∃ i j, xs = [.int i, .int j] ∧ Q (.int (if j < i then j else i)) H
def cAbs : List V → Hp → VK → Prop := fun xs H Q => ∃ i, xs = [.int i] ∧ Q (.int (if i < 0 then -i else i)) H
def cInt : List V → Hp → VK → Prop := fun xs H Q => (∃ i, xs = [.int i] ∧ Q (.int i) H) ∨ ∃ k, xs = [.bl k] ∧ Q (.int (if k then 1 else 0)) H
def cStrI : List V → Hp → VK → Prop := fun xs H Q => ∃ i, xs = [.int i] ∧ i.natAbs.log2 < 1920 ∧ Q (.str (toString i)) H
def cLenQ (K : PySem.W.Frag) : List V → Hp → VK → Prop := fun xs H Q => ∃ p ys, xs = [.ref p] ∧ (SqL K H p ys ∨ SqT K H p ys) ∧ Q (.int ys.length) H
def cLenS : List V → Hp → VK → Prop := fun xs H Q => ∃ z, xs = [.str z] ∧ z.length ≤ sizeLine ∧ Q (.int z.length) H
def cListQ (K : PySem.W.Frag) : List V → Hp → VK → Prop := fun xs H Q => ∃ p ys, xs = [.ref p] ∧ (SqL K H p ys ∨ SqT K H p ys) ∧ ∀ l, H l = none → Q (.ref l) (upd H l (.lst ys))
def cTupQ (K : PySem.W.Frag) : List V → Hp → VK → Prop := fun xs H Q => ∃ p ys, xs = [.ref p] ∧ ((SqL K H p ys ∧ ∀ l, H l = none → Q (.ref l) (upd H l (.tup ys))) ∨ (SqT K H p ys ∧ Q (.ref p) H))
def cListD : List V → Hp → VK → Prop := fun xs H Q => ∃ (a : Addr) (kvs : List (Key × V)), xs = [.ref a] ∧ Rd H a (.dK kvs) ∧ ∀ p, H p = none → Q (.ref p) (upd H p (.lst (kvs.map fun kv => kV kv.1)))
theorem p_max (hc : X.calm = true) : CallR X (.builtin "max") cMax := call_max2 hc
theorem p_min (hc : X.calm = true) : CallR X (.builtin "min") cMin := call_min2 hc
theorem p_abs : CallR X (.builtin "abs") cAbs := call_abs
theorem p_int : CallR X (.type "int") cInt := call_int1
theorem p_strI : CallR X (.type "str") cStrI := call_str_int
theorem p_lenQ : CallR X (.builtin "len") (cLenQ X.K) := call_len_seq
theorem p_lenS : CallR X (.builtin "len") cLenS := call_len_str
theorem p_listQ : CallR X (.type "list") (cListQ X.K) := call_list_of
theorem p_tupQ : CallR X (.type "tuple") (cTupQ X.K) := call_tuple_of
theorem p_listD (hc : X.calm = true) : CallR X (.type "list") cListD := call_listD hc
end
section
variable {K : PySem.W.Frag} {σ : L2.St} {H : Hp} {D : Ends} {te ta tb tc : TE} {tr : TA} {g : TG} {gs : TGs} {t u : TS} {c c' : TT} {r r' : R2} {Q : VK} {QB : Bool → Hp → Prop} {QA : List V → Hp → Prop} {QS : L2.St → Hp → Prop} {QO : Option Int → Hp → Prop} {i j : Int} {n : Nat} {v x y : V} {vs xs : List V} {p a : Addr} {z z' : Str} {b : Bool}
theorem w_seq (h : t { D with nx := u D } σ H) : tSeq t u D σ H := h
theorem w_next (h : D.nx σ H) : tNext D σ H := h
theorem w_break (h : D.bk σ H) : tBreak D σ H := h
theorem w_cont (h : D.ct σ H) : tCont D σ H := h
theorem w_drop (h : te σ H fun _ H1 => D.nx σ H1) : tDrop te D σ H := h
theorem w_ret (h : te σ H D.rt) : tRet te D σ H := h
theorem w_retN (h : D.rt .non H) : tRetN D σ H := h
theorem w_if (h : c σ H fun b H1 => if b = true then t D σ H1 else u D σ H1) : tIfS c t u D σ H := h
theorem w_asg (h : te σ H fun x H1 => g x σ H1 D.nx) : tAsg te g D σ H := h
theorem w_gName (h : QS (σ.set n (some v)) H) : gName n v σ H QS := h
theorem w_gTup (h : H a = some (.tup xs)) (hl : xs.length = n) (q : gs xs σ H QS) : gTup K n gs (.ref a) σ H QS := ⟨a, xs, rfl, sqT h, hl, q⟩
theorem w_gCons (h : g v σ H fun σ' H' => gs vs σ' H' QS) : gCons g gs (v :: vs) σ H QS := ⟨v, vs, rfl, h⟩
theorem w_gNil (h : QS σ H) : gNil [] σ H QS := ⟨rfl, h⟩
theorem w_gSub {to ti : TE} {ts : TSet} (h : to σ H fun o H1 => ti σ H1 fun i H2 => ts o i v H2 fun H3 => QS σ H3) : gSub to ti ts v σ H QS := h
theorem w_aug {ti : TIp} (h : σ[n]? = some (some x)) (q : te σ H fun y H1 => ti x y H1 fun z H2 => D.nx (σ.set n (some z)) H2) : tAug n te ti D σ H := ⟨x, h, q⟩
theorem w_ipI {f : Int → Int → Int} (q : Q (.int (f i j)) H) : ipI f (.int i) (.int j) H Q := ⟨i, j, rfl, rfl, q⟩
theorem w_var (h : σ[n]? = some (some v)) (q : Q v H) : tVar n σ H Q := ⟨v, h, q⟩
theorem w_c (q : Q v H) : tC v σ H Q := q
theorem w_op (h : ta σ H fun x H1 => tb σ H1 fun y H2 => r x y H2 Q) : tOp r ta tb σ H Q := h
theorem w_un {ru : V → Hp → VK → Prop} (h : ta σ H fun x H1 => ru x H1 Q) : tUn ru ta σ H Q := h
theorem w_neg (q : Q (.int (-i)) H) : rU (fun i => .int (-i)) (.int i) H Q := ⟨i, rfl, q⟩
theorem w_nil (q : QA [] H) : tNil σ H QA := q
theorem w_cons (h : ta σ H fun x H1 => tr σ H1 fun xs H2 => QA (x :: xs) H2) : tCons ta tr σ H QA := h
theorem w_cb {rc : List V → Hp → VK → Prop} (h : tr σ H fun vs H1 => rc vs H1 Q) : tCB rc tr σ H Q := h
theorem w_call {sp : Sp} {dvs : List V} {E : XK} (h : tr σ H fun vs H1 => sp (vs ++ dvs) H1 Q E) : tCall sp dvs E tr σ H Q := h
theorem w_test (h : te σ H fun x H' => ∃ k, x = .bl k ∧ QB k H') : tTest te σ H QB := h
theorem w_B (h : te σ H fun x H' => ∃ k, x = .bl k ∧ QB k H') : tB te σ H QB := h
theorem w_isbl {P : Bool → Prop} (q : P b) : ∃ k, V.bl b = .bl k ∧ P k := ⟨b, rfl, q⟩
theorem w_and (h : c σ H fun b H1 => if b = true then c' σ H1 QB else QB false H1) : tAnd c c' σ H QB := h
theorem w_or (h : c σ H fun b H1 => if b = true then QB true H1 else c' σ H1 QB) : tOr c c' σ H QB := h
theorem w_not (h : c σ H fun b H1 => QB (!b) H1) : tNot c σ H QB := h
theorem w_andV (h : ta σ H fun x H1 => ∃ c, x = .bl c ∧ if c = true then tb σ H1 Q else Q (.bl false) H1) : tAndV ta tb σ H Q := h
theorem w_orV (h : ta σ H fun x H1 => ∃ c, x = .bl c ∧ if c = true then Q (.bl true) H1 else tb σ H1 Q) : tOrV ta tb σ H Q := h
theorem w_notV (h : ta σ H fun x H1 => ∃ c, x = .bl c ∧ Q (.bl (!c)) H1) : tNotV ta σ H Q := h
theorem w_ifE (h : c σ H fun b H1 => if b = true then ta σ H1 Q else tb σ H1 Q) : tIf c ta tb σ H Q := h
theorem w_chain (h : ta σ H fun x H1 => tb σ H1 fun y H2 => r x y H2 fun z H3 => ∃ k, z = .bl k ∧ (if k = true then tc σ H3 fun w' H4 => r' y w' H4 Q else Q (.bl false) H3)) : tChain r r' ta tb tc σ H Q := h
theorem w_tup (h : tr σ H fun xs H1 => xs.length ≤ sizeLine ∧ ∀ p H2, H1 p = none → Chg [] H1 H2 → H2 p = some (.tup xs) → Q (.ref p) H2) (hm : ∀ {P P' : List V → Hp → Prop}, (∀ v H, P v H → P' v H) → tr σ H P → tr σ H P') : tTup tr σ H Q :=
  hm (fun xs H1 ⟨h1, h2⟩ => ⟨h1, fun p np => h2 p _ np (.new np) upd_same⟩) h
/-- the last part of a display -/
def KTup (Q : VK) : List V → Hp → Prop := fun xs H1 => xs.length ≤ sizeLine ∧ ∀ p, H1 p = none → Q (.ref p) (upd H1 p (.tup xs))
def KLst (Q : VK) : List V → Hp → Prop := fun xs H1 => xs.length ≤ sizeLine ∧ ∀ p, H1 p = none → Q (.ref p) (upd H1 p (.lst xs))
theorem w_tup1 (h : tr σ H (KTup Q)) : tTup tr σ H Q := h
theorem w_lst1 (h : tr σ H (KLst Q)) : tLst tr σ H Q := h
theorem k_tup {H1 : Hp} (hl : xs.length ≤ sizeLine) (h : ∀ p H2, H1 p = none → Chg [] H1 H2 → H2 p = some (.tup xs) → Q (.ref p) H2) : KTup Q xs H1 := ⟨hl, fun p np => h p _ np (.new np) upd_same⟩
theorem k_lst {H1 : Hp} (hl : xs.length ≤ sizeLine) (h : ∀ p H2, H1 p = none → Chg [] H1 H2 → H2 p = some (.lst xs) → Q (.ref p) H2) : KLst Q xs H1 := ⟨hl, fun p np => h p _ np (.new np) upd_same⟩
/-- a new object -/
theorem d_new {H1 : Hp} {o : HO} (h : ∀ p H2, H1 p = none → Chg [] H1 H2 → H2 p = some o → Q (.ref p) H2) : ∀ p, H1 p = none → Q (.ref p) (upd H1 p o) := fun p np => h p _ np (.new np) upd_same
theorem w_add (q : Q (.int (i + j)) H) : oAdd (.int i) (.int j) H Q := ⟨i, j, rfl, rfl, q⟩
theorem w_sub (q : Q (.int (i - j)) H) : oSub (.int i) (.int j) H Q := ⟨i, j, rfl, rfl, q⟩
theorem w_mul (h : CMul i j) (q : Q (.int (i * j)) H) : oMul (.int i) (.int j) H Q := ⟨i, j, rfl, rfl, h, q⟩
theorem w_fdiv (h : CDivW i j) (q : Q (.int (i / j)) H) : oFdiv (.int i) (.int j) H Q := ⟨i, j, rfl, rfl, h, q⟩
theorem w_mod (h : 0 < j) (q : Q (.int (i % j)) H) : oMod (.int i) (.int j) H Q := ⟨i, j, rfl, rfl, h, q⟩
theorem w_pow (h : CPowW i j) (q : Q (.int (i ^ j.toNat)) H) : oPow (.int i) (.int j) H Q := ⟨i, j, rfl, rfl, h, q⟩
theorem w_lt (q : Q (.bl (decide (i < j))) H) : oLt (.int i) (.int j) H Q := ⟨i, j, rfl, rfl, q⟩
theorem w_le (q : Q (.bl (decide (i ≤ j))) H) : oLe (.int i) (.int j) H Q := ⟨i, j, rfl, rfl, q⟩
theorem w_gt (q : Q (.bl (decide (j < i))) H) : oGt (.int i) (.int j) H Q := ⟨i, j, rfl, rfl, q⟩
theorem w_ge (q : Q (.bl (decide (j ≤ i))) H) : oGe (.int i) (.int j) H Q := ⟨i, j, rfl, rfl, q⟩
theorem w_addS (h : z.length + z'.length ≤ sizeLine) (q : Q (.str (z ++ z')) H) : oAddS (.str z) (.str z') H Q := ⟨z, z', rfl, rfl, h, q⟩
theorem w_ltS (q : Q (.bl (decide (z.cps.toList < z'.cps.toList))) H) : oLtS (.str z) (.str z') H Q := ⟨z, z', rfl, rfl, q⟩
theorem w_geS (q : Q (.bl (!decide (z.cps.toList < z'.cps.toList))) H) : oGeS (.str z) (.str z') H Q := ⟨z, z', rfl, rfl, q⟩
theorem w_inC {c : Nat} (q : Q (.bl (decide (c ∈ z.cps.toList))) H) : oInC (.str ⟨#[c]⟩) (.str z) H Q := ⟨c, z, rfl, rfl, q⟩
theorem w_notInC {c : Nat} (q : Q (.bl (!decide (c ∈ z.cps.toList))) H) : oNotInC (.str ⟨#[c]⟩) (.str z) H Q := ⟨c, z, rfl, rfl, q⟩
theorem w_isN (q : Q (.bl (decide (x = .non))) H) : oIsN x .non H Q := ⟨rfl, q⟩
theorem w_notN (q : Q (.bl (!decide (x = .non))) H) : oNotN x .non H Q := ⟨rfl, q⟩
theorem w_isB {b' : Bool} (q : Q (.bl (decide (b = b'))) H) : oIsB (.bl b) (.bl b') H Q := ⟨b, b', rfl, rfl, q⟩
theorem w_notB {b' : Bool} (q : Q (.bl (!decide (b = b'))) H) : oNotB (.bl b) (.bl b') H Q := ⟨b, b', rfl, rfl, q⟩
theorem w_eq (h : scal x y = true) (q : Q (.bl (decide (x = y))) H) : rEq x y H Q := ⟨h, q⟩
theorem w_ne (h : scal x y = true) (q : Q (.bl (!decide (x = y))) H) : rNe x y H Q := ⟨h, q⟩
theorem w_eqD {d e : PyData} {S S' : Addr → Prop} (hd : R S H x d) (he : R S' H y e) (sd : noDic d = true) (se : noDic e = true) (hm : min d.depth e.depth ≤ 60) (q : Q (.bl (PyData.eqv d e)) H) : oEqD x y H Q := ⟨d, e, S, S', hd, he, sd, se, hm, q⟩
theorem w_neD {d e : PyData} {S S' : Addr → Prop} (hd : R S H x d) (he : R S' H y e) (sd : noDic d = true) (se : noDic e = true) (hm : min d.depth e.depth ≤ 60) (q : Q (.bl (!PyData.eqv d e)) H) : oNeD x y H Q := ⟨d, e, S, S', hd, he, sd, se, hm, q⟩
theorem w_m1 {rm : V → List V → Hp → VK → Prop} (h : ta σ H fun x H1 => (∃ a, x = .str a) ∧ tb σ H1 fun y H2 => rm x [y] H2 Q) : tM1 rm ta tb σ H Q := h
theorem w_isstr {P : Prop} (q : P) : (∃ a, V.str z = .str a) ∧ P := ⟨⟨z, rfl⟩, q⟩
theorem w_join {ys : List Str} (h : SqL K H p (ys.map V.str)) (hs : (ys.map (·.length)).sum + ys.length * z.length ≤ 16777216) (q : Q (.str (Txt.join z ys)) H) : mJoin K (.str z) [.ref p] H Q := ⟨z, p, ys, rfl, rfl, .inl h, hs, q⟩
theorem w_ixL (h : SqL K H p xs) (ha : atI xs i = some v) (q : Q v H) : rIxL K (.ref p) (.int i) H Q := ⟨p, xs, i, v, rfl, rfl, h, ha, q⟩
theorem w_ixT (h : H p = some (.tup xs)) (ha : atI xs i = some v) (q : Q v H) : rIxT K (.ref p) (.int i) H Q := ⟨p, xs, i, v, rfl, rfl, sqT h, ha, q⟩
theorem w_ixS {c : Nat} (h : z.length ≤ sizeLine) (ha : atI z.cps.toList i = some c) (q : Q (.str ⟨#[c]⟩) H) : rIxS (.str z) (.int i) H Q := ⟨z, i, c, rfl, rfl, h, ha, q⟩
theorem w_setL {k : Nat} {P : Hp → Prop} (h : H p = some (.lst xs)) (ha : ixN xs.length i = some k) (q : ∀ H', Chg [p] H H' → H' p = some (.lst (xs.set k v)) → P H') : rSetL (.ref p) (.int i) v H P :=
  ⟨p, xs, i, k, rfl, rfl, h, ha, q _ (.mut h fun _ z => nomatch z) upd_same⟩
theorem w_max (q : Q (.int (if j > i then j else i)) H) : cMax [.int i, .int j] H Q := ⟨i, j, rfl, q⟩
theorem w_min (q : Q (.int (if j < i then j else i)) H) : cMin [.int i, .int j] H Q := ⟨i, j, rfl, q⟩
theorem w_abs (q : Q (.int (if i < 0 then -i else i)) H) : cAbs [.int i] H Q := ⟨i, rfl, q⟩
theorem w_intB (q : Q (.int (if b then 1 else 0)) H) : cInt [.bl b] H Q := .inr ⟨b, rfl, q⟩
theorem w_intI (q : Q (.int i) H) : cInt [.int i] H Q := .inl ⟨i, rfl, q⟩
theorem w_strI (h : i.natAbs.log2 < 1920) (q : Q (.str (toString i)) H) : cStrI [.int i] H Q := ⟨i, rfl, h, q⟩
theorem w_lenL (h : SqL K H p xs) (q : Q (.int xs.length) H) : cLenQ K [.ref p] H Q := ⟨p, xs, rfl, .inl h, q⟩
theorem w_lenT (h : H p = some (.tup xs)) (q : Q (.int xs.length) H) : cLenQ K [.ref p] H Q := ⟨p, xs, rfl, .inr (sqT h), q⟩
theorem w_lenS (h : z.length ≤ sizeLine) (q : Q (.int z.length) H) : cLenS [.str z] H Q := ⟨z, rfl, h, q⟩
theorem w_listL (h : SqL K H p xs) (q : ∀ p' H2, H p' = none → Chg [] H H2 → H2 p' = some (.lst xs) → Q (.ref p') H2) : cListQ K [.ref p] H Q := ⟨p, xs, rfl, .inl h, d_new q⟩
theorem w_listT (h : H p = some (.tup xs)) (q : ∀ p' H2, H p' = none → Chg [] H H2 → H2 p' = some (.lst xs) → Q (.ref p') H2) : cListQ K [.ref p] H Q := ⟨p, xs, rfl, .inr (sqT h), d_new q⟩
theorem w_listD {kvs : List (Key × V)} (h : H p = some (.dK kvs)) (q : ∀ p' H2, H p' = none → Chg [] H H2 → H2 p' = some (.lst (kvs.map fun kv => kV kv.1)) → Q (.ref p') H2) : cListD [.ref p] H Q := ⟨p, kvs, rfl, .inl h, d_new q⟩
theorem w_all {bs : List Bool} (h : H p = some (.lst (bs.map V.bl))) (q : Q (.bl (bs.all id)) H) : rAll K [.ref p] H Q := ⟨p, bs, rfl, sqL h, q⟩
theorem w_append (h : H p = some (.lst xs)) (hl : xs.length < sizeLine) (q : ∀ H', Chg [p] H H' → H' p = some (.lst (xs ++ [y])) → Q .non H') : rAppend (.ref p) [y] H Q :=
  ⟨p, xs, y, rfl, rfl, h, hl, q _ (.mut h fun _ z => nomatch z) upd_same⟩
theorem w_bm {T : String} {rm : V → List V → Hp → VK → Prop} (h : te σ H fun x H1 => tyV K T x H1 ∧ tr σ H1 fun ys H2 => rm x ys H2 Q) : tBM K T rm te tr σ H Q := h
theorem w_bm0 {T : String} {rm : V → List V → Hp → VK → Prop} (h : te σ H fun x H1 => tyV K T x H1 ∧ rm x [] H1 Q) : tBM0 K T rm te σ H Q := h
theorem w_tyL {A : Prop} (h : H p = some (.lst xs)) (q : A) : tyV K "list" (.ref p) H ∧ A := ⟨.inl ⟨rfl, _, sqL h⟩, q⟩
theorem w_part (h : te σ H fun x H1 => ∃ i, x = .int i ∧ QO (some i) H1) : tPart te σ H QO := h
theorem w_isint {P : Int → Prop} (q : P i) : ∃ k, V.int i = .int k ∧ P k := ⟨i, rfl, q⟩
theorem w_noPart (h : QO none H) : tNoPart σ H QO := h
theorem w_sl {rs : V → Option Int → Option Int → Hp → VK → Prop} {tl th : TO} (h : te σ H fun x H1 => tl σ H1 fun l H2 => th σ H2 fun u H3 => rs x l u H3 Q) : tSl rs te tl th σ H Q := h
theorem w_slS {lo hi : Option Int} (h : z.length ≤ sizeLine) (q : Q (.str (cutS z lo hi)) H) : rSlS (.str z) lo hi H Q := ⟨z, rfl, h, q⟩
theorem w_slL {lo hi : Option Int} (h : SqL K H p xs) (q : ∀ p' H2, H p' = none → Chg [] H H2 → H2 p' = some (.lst (cutV xs lo hi)) → Q (.ref p') H2) : rSlL K (.ref p) lo hi H Q := ⟨p, xs, rfl, h, d_new q⟩
/-- tests -/
theorem w_iteT {A B : Prop} (h : A) : if true = true then A else B := iteT h
theorem w_iteF {A B : Prop} (h : B) : if false = true then A else B := iteF h
theorem w_iteB {A B : Prop} (h1 : b = true → A) (h2 : b = false → B) : if b = true then A else B := by
  cases b with
  | true => exact iteT (h1 rfl)
  | false => exact iteF (h2 rfl)
theorem w_iteD {P A B : Prop} [Decidable P] (h1 : P → A) (h2 : ¬ P → B) : if decide P = true then A else B := w_iteB (fun e => h1 (of_decide_eq_true e)) (fun e => h2 (of_decide_eq_false e))
theorem w_iteN {A B : Prop} (h : if b = true then B else A) : if (!b) = true then A else B := by cases b <;> simpa using h
theorem w_iteYes {A B : Prop} (e : b = true) (h : A) : if b = true then A else B := by rw [e]; exact iteT h
theorem w_iteNo {A B : Prop} (e : b = false) (h : B) : if b = true then A else B := by rw [e]; exact iteF h
end

section
variable {K : PySem.W.Frag} {σ : L2.St} {H : Hp} {D : Ends} {td ty tv : TE} {p : Addr} {v : V} {k : Key} {kvs : List (Key × V)}
theorem w_dput (h : tv σ H fun v H1 => td σ H1 fun x H2 => ty σ H2 fun y H3 => ∃ a H4, x = .ref a ∧ DPut H3 a y v H4 ∧ D.nx σ H4) : sDPut td ty tv D σ H := h
theorem d_dput {A : Hp → Prop} (h : H p = some (.dK kvs)) (hl : kvs.length < sizeLine) (q : ∀ H', Chg [p] H H' → H' p = some (.dK (putK kvs k v)) → A H') : ∃ a H4, V.ref p = .ref a ∧ DPut H a (kV k) v H4 ∧ A H4 :=
  ⟨p, _, rfl, .k h hl, q _ (.mut h fun _ z => nomatch z) upd_same⟩
theorem w_dnewK {Q : VK} (q : ∀ p H2, H p = none → Chg [] H H2 → H2 p = some (.dK []) → Q (.ref p) H2) : tDNewK σ H Q := d_new q
end

theorem at0 {α : Type} {x0 : α} {xs : List α} : atI (x0 :: xs) 0 = some x0 := atI_nat (j := 0) rfl
theorem at1 {α : Type} {x0 x1 : α} {xs : List α} : atI (x0 :: x1 :: xs) 1 = some x1 := atI_nat (j := 1) rfl
theorem at2 {α : Type} {x0 x1 x2 : α} {xs : List α} : atI (x0 :: x1 :: x2 :: xs) 2 = some x2 := atI_nat (j := 2) rfl
theorem at3 {α : Type} {x0 x1 x2 x3 : α} {xs : List α} : atI (x0 :: x1 :: x2 :: x3 :: xs) 3 = some x3 := atI_nat (j := 3) rfl
theorem atN {α : Type} {xs : List α} {i : Int} {v : α} (h0 : 0 ≤ i) (h : xs[i.toNat]? = some v) : atI xs i = some v := by
  have e : ((i.toNat : Nat) : Int) = i := by omega
  have q := atI_nat (xs := xs) h
  rw [e] at q
  exact q
/-- at a drawn place -/
theorem atD {α : Type} {xs : List α} {i : Int} (h0 : 0 ≤ i) (h1 : i < xs.length) : ∃ v, atI xs i = some v ∧ v ∈ xs := by
  have hl : i.toNat < xs.length := by omega
  exact ⟨xs[i.toNat], atN h0 (List.getElem?_eq_getElem hl), List.getElem_mem hl⟩
theorem ixD {n : Nat} {i : Int} (h0 : 0 ≤ i) (h1 : i < n) : ixN n i = some i.toNat := by
  unfold ixN
  rw [if_pos h0, if_pos h1]
end Fg
namespace Fg
open PySem PySem.Spec PyProof.Rows L2
/-! ### comprehensions -/
/-- what holds ahead of the i-th turn: D the new list, Iv by the address, the turn, the list so far, the heap -/
def LcP (D : Addr) (Iv : Addr → Nat → List V → Hp → Prop) (i : Nat) : Hp → Prop := fun H5 => ∃ acc, acc.length = i ∧ H5 D = some (.lst acc) ∧ Iv D i acc H5
/-- what is wanted of an item -/
def LcK (D : Addr) (Iv : Addr → Nat → List V → Hp → Prop) (i : Nat) : VK := fun y H4 => ∃ acc, H4 D = some (.lst acc) ∧ acc.length < sizeLine ∧ LcP D Iv (i + 1) (upd H4 D (.lst (acc ++ [y])))
theorem lc_end {D : Addr} {Iv : Addr → Nat → List V → Hp → Prop} {i : Nat} {y : V} {H4 : Hp} {acc : List V} (h : H4 D = some (.lst acc)) (hl : acc.length = i) (hz : i ≤ 100000) (q : ∀ H5, Chg [D] H4 H5 → H5 D = some (.lst (acc ++ [y])) → Iv D (i + 1) (acc ++ [y]) H5) : LcK D Iv i y H4 := by
  subst hl
  exact ⟨acc, h, Nat.lt_of_le_of_lt hz (by decide), acc ++ [y], by simp, upd_same, q _ (.mut h fun _ e => nomatch e) upd_same⟩
theorem w_lcW {J : It} {n : Nat} {G : Hp → Prop} {Y : Nat → Hp → V → Hp → Prop} {g : TG} {te : TE} {tt : TT} {vs : List Nat} {σ : L2.St} {H : Hp} {Q : Addr → Hp → Prop} (w : L2.Walk J n G Y) (Iv : Addr → Nat → List V → Hp → Prop)
    (h0 : ∀ D H1, H D = none → Chg [] H H1 → H1 D = some (.lst []) → Iv D 0 [] H1) (hG : ∀ D i acc H1, i ≤ n → H D = none → Iv D i acc H1 → G H1)
    (hs : ∀ D i acc x H1 H2, i < n → H D = none → H1 D = some (.lst acc) → acc.length = i → Iv D i acc H1 → Y i H1 x H2 → g x (wipe σ vs) H2 fun σ2 H3 => wipe σ2 vs = wipe σ vs ∧
      tt σ2 H3 fun b H3 => if b = true then te σ2 H3 (LcK D Iv i) else LcP D Iv (i + 1) H3)
    (hd : ∀ D acc H1, H D = none → acc.length = n → H1 D = some (.lst acc) → Iv D n acc H1 → Q D H1) :
    ∀ D, H D = none → ∃ W : Nat → Nat → Hp → Prop, (∃ m, W 0 m (upd H D (.lst []))) ∧ ∀ i m H, W i m H →
      (J.stop i H ∧ Q D H) ∨ (J.go i H ∧ ∃ Nx : Hp → Prop, (∀ H', Nx H' → ∃ m', m' < m ∧ W (i + 1) m' H') ∧ ∀ x H', J.yld i H x H' → g x (wipe σ vs) H' fun σ2 H2 => wipe σ2 vs = wipe σ vs ∧ tt σ2 H2 fun b H3 =>
        if b = true then te σ2 H3 fun y H4 => ∃ acc, H4 D = some (.lst acc) ∧ acc.length < sizeLine ∧ Nx (upd H4 D (.lst (acc ++ [y]))) else Nx H3) := by
  intro D nD
  refine lc_it w (Qd := fun H => Q D H) (LcP D Iv) ⟨[], rfl, upd_same, h0 D _ nD (.new nD) upd_same⟩ (fun i H1 hi ⟨acc, _, _, q⟩ => hG D i acc H1 hi nD q) (fun i x H1 H2 hi hp y => ?_) (fun H1 ⟨acc, e, h, q⟩ => hd D acc H1 nD e h q)
  obtain ⟨acc, e, h, q⟩ := hp
  exact hs D i acc x H1 H2 hi nD h e q y
/-- each turn only makes new things (or changes M): Ys tells what the i-th is, Jv what else holds -/
def IvP (H : Hp) (M : List Addr) (Jv : Nat → Hp → Prop) (Ys : Nat → V → Hp → Prop) : Addr → Nat → List V → Hp → Prop := fun _ i acc H1 => Chg M H H1 ∧ Jv i H1 ∧ ∀ j y, acc[j]? = some y → Ys j y H1
theorem lcp_end {H : Hp} {M : List Addr} {Jv : Nat → Hp → Prop} {Ys : Nat → V → Hp → Prop} {D : Addr} {i : Nat} {y : V} {acc : List V} {H1 H4 : Hp} (jst : ∀ i H1 H2 p, H p = none → Chg [p] H1 H2 → Jv i H1 → Jv i H2)
    (yst : ∀ i y H1 H2 p, H p = none → Chg (p :: M) H1 H2 → Ys i y H1 → Ys i y H2) (nD : H D = none) (hM : ∀ a ∈ M, H a ≠ none) (hD : H1 D = some (.lst acc)) (hl : acc.length = i) (hz : i ≤ 100000) (iv : IvP H M Jv Ys D i acc H1)
    (c : Chg M H1 H4) (jq : Jv (i + 1) H4) (yq : Ys i y H4) : LcK D (IvP H M Jv Ys) i y H4 := by
  obtain ⟨c0, _, q⟩ := iv
  refine lc_end (c.keep _ _ hD fun hm => hM D hm nD) hl hz fun H5 c5 h5 => ⟨?_, jst _ _ _ D nD c5 jq, fun j y' e => ?_⟩
  · exact (c0.both c).go c5 fun a ha => .inr (by rw [List.mem_singleton.mp ha]; exact nD)
  · by_cases hj : j < acc.length
    · rw [List.getElem?_append_left hj] at e
      exact yst j y' H4 H5 D nD (c5.wide (by simp)) (yst j y' H1 H4 D nD (c.wide (by intro a ha; exact List.mem_cons_of_mem _ ha)) (q j y' e))
    · have hj2 : j = acc.length := by
        have := (List.getElem?_eq_some_iff.mp e).1
        rw [List.length_append, List.length_singleton] at this
        omega
      subst hj2
      rw [List.getElem?_append_right (Nat.le_refl _), Nat.sub_self] at e
      cases (Option.some.inj (show some y = some y' from e))
      rw [hl]
      exact yst i y H4 H5 D nD (c5.wide (by simp)) yq
theorem w_lcP {J : It} {n : Nat} {G : Hp → Prop} {Y : Nat → Hp → V → Hp → Prop} {g : TG} {te : TE} {tt : TT} {vs : List Nat} {σ : L2.St} {H : Hp} {Q : Addr → Hp → Prop} (w : L2.Walk J n G Y) (M : List Addr) (Jv : Nat → Hp → Prop) (Ys : Nat → V → Hp → Prop)
    (j0 : Jv 0 H) (jst : ∀ i H1 H2 p, H p = none → Chg [p] H1 H2 → Jv i H1 → Jv i H2) (hG : ∀ H1, Chg M H H1 → G H1)
    (hs : ∀ D i acc x H1 H2, i < n → H D = none → H1 D = some (.lst acc) → acc.length = i → IvP H M Jv Ys D i acc H1 → Chg M H H1 → Jv i H1 → Y i H1 x H2 → g x (wipe σ vs) H2 fun σ2 H3 => wipe σ2 vs = wipe σ vs ∧
      tt σ2 H3 fun b H3 => if b = true then te σ2 H3 (LcK D (IvP H M Jv Ys) i) else LcP D (IvP H M Jv Ys) (i + 1) H3)
    (hd : ∀ D acc H1, H D = none → Chg M H H1 → Jv n H1 → acc.length = n → H1 D = some (.lst acc) → (∀ i y, acc[i]? = some y → Ys i y H1) → Q D H1) :
    ∀ D, H D = none → ∃ W : Nat → Nat → Hp → Prop, (∃ m, W 0 m (upd H D (.lst []))) ∧ ∀ i m H, W i m H →
      (J.stop i H ∧ Q D H) ∨ (J.go i H ∧ ∃ Nx : Hp → Prop, (∀ H', Nx H' → ∃ m', m' < m ∧ W (i + 1) m' H') ∧ ∀ x H', J.yld i H x H' → g x (wipe σ vs) H' fun σ2 H2 => wipe σ2 vs = wipe σ vs ∧ tt σ2 H2 fun b H3 =>
        if b = true then te σ2 H3 fun y H4 => ∃ acc, H4 D = some (.lst acc) ∧ acc.length < sizeLine ∧ Nx (upd H4 D (.lst (acc ++ [y]))) else Nx H3) :=
  w_lcW w (IvP H M Jv Ys) (fun D H1 nD c _ => ⟨c.wide (by simp), jst _ _ _ D nD (c.wide (by simp)) j0, fun j y e => by simp at e⟩) (fun D i acc H1 _ _ q => hG H1 q.1) (fun D i acc x H1 H2 hi nD hD el iv y => hs D i acc x H1 H2 hi nD hD el iv iv.1 iv.2.1 y) (fun D acc H1 nD el hD ⟨c, j, q⟩ => hd D acc H1 nD c j el hD q)
section
variable {K : PySem.W.Frag} {σ : L2.St} {H : Hp} {te : TE} {tr : TA} {g : TG} {tt : TT} {vs : List Nat} {Q : VK} {a b : Addr} {xs ys : List V} {P : Prop} {RI : It → Hp → Prop} {D : Ends} {tb : TS} {wi : TI}
theorem w_lc (h : wi σ H fun J H1 => ∀ D, H1 D = none → ∃ W : Nat → Nat → Hp → Prop, (∃ m, W 0 m (upd H1 D (.lst []))) ∧ ∀ i m H, W i m H →
  (J.stop i H ∧ Q (.ref D) H) ∨ (J.go i H ∧ ∃ Nx : Hp → Prop, (∀ H', Nx H' → ∃ m', m' < m ∧ W (i + 1) m' H') ∧ ∀ x H', J.yld i H x H' → g x (wipe σ vs) H' fun σ2 H2 => wipe σ2 vs = wipe σ vs ∧ tt σ2 H2 fun b H3 =>
    if b = true then te σ2 H3 fun y H4 => ∃ acc, H4 D = some (.lst acc) ∧ acc.length < sizeLine ∧ Nx (upd H4 D (.lst (acc ++ [y]))) else Nx H3)) : tLc wi g tt te vs σ H Q := h
theorem w_for (h : wi σ H fun J H1 => ∃ W : Nat → Nat → L2.St → Hp → Prop, (∃ m, W 0 m σ H1) ∧ ∀ i m σ H, W i m σ H →
  (J.stop i H ∧ D.nx σ H) ∨ (J.go i H ∧ ∃ N : L2.St → Hp → Prop, (∀ σ' H', N σ' H' → ∃ m', m' < m ∧ W (i + 1) m' σ' H') ∧ ∀ x H', J.yld i H x H' → g x σ H' fun σ2 H2 => tb { D with nx := N, ct := N, bk := D.nx } σ2 H2)) : tFor wi g tb D σ H := h
theorem w_yes {QB : Bool → Hp → Prop} (h : QB true H) : tYes σ H QB := h
theorem w_wipe {σ2 : L2.St} (h : wipe σ2 vs = wipe σ vs) (q : P) : wipe σ2 vs = wipe σ vs ∧ P := ⟨h, q⟩
theorem w_iList (h : te σ H fun x H1 => ∃ a, x = .ref a ∧ (∃ xs, SqL K H1 a xs) ∧ RI (Itl K a) H1) : iList K te σ H RI := h
theorem w_iTup (h : te σ H fun x H1 => ∃ a, x = .ref a ∧ (∃ xs, SqT K H1 a xs) ∧ RI (Itt K a) H1) : iTup K te σ H RI := h
theorem d_iList {A : Addr → Prop} (h : SqL K H a xs) (q : A a) : ∃ a', V.ref a = .ref a' ∧ (∃ xs, SqL K H a' xs) ∧ A a' := ⟨a, rfl, ⟨xs, h⟩, q⟩
theorem d_iTup {A : Addr → Prop} (h : H a = some (.tup xs)) (q : A a) : ∃ a', V.ref a = .ref a' ∧ (∃ xs, SqT K H a' xs) ∧ A a' := ⟨a, rfl, ⟨xs, sqT h⟩, q⟩
theorem w_iStr (h : te σ H fun v H1 => ∃ x, v = .str x ∧ RI (Its x) H1) : iStr te σ H RI := h
theorem d_iStr {z : Str} {A : Str → Prop} (q : A z) : ∃ x, V.str z = .str x ∧ A x := ⟨z, rfl, q⟩
theorem w_iRng1 (h : tr σ H fun vs H1 => ∃ j : Int, vs = [.int j] ∧ -(2 ^ 62) ≤ j ∧ j < 2 ^ 62 ∧ RI (Itr 0 j.toNat) H1) : iRng1 tr σ H RI := h
theorem d_iRng1 {j : Int} {A : Int → Prop} (h1 : -(2 ^ 62) ≤ j) (h2 : j < 2 ^ 62) (q : A j) : ∃ j' : Int, [V.int j] = [.int j'] ∧ -(2 ^ 62) ≤ j' ∧ j' < 2 ^ 62 ∧ A j' := ⟨j, rfl, h1, h2, q⟩
theorem w_iRng2 (h : tr σ H fun vs H1 => ∃ i j : Int, vs = [.int i, .int j] ∧ (-(2 ^ 62) ≤ i ∧ i < 2 ^ 62 ∧ -(2 ^ 62) ≤ j ∧ j < 2 ^ 62) ∧ RI (Itr i (j - i).toNat) H1) : iRng2 tr σ H RI := h
theorem d_iRng2 {i j : Int} {A : Int → Int → Prop} (h0 : -(2 ^ 62) ≤ i) (h0' : i < 2 ^ 62) (h1 : -(2 ^ 62) ≤ j) (h2 : j < 2 ^ 62) (q : A i j) : ∃ i' j' : Int, [V.int i, V.int j] = [.int i', .int j'] ∧ (-(2 ^ 62) ≤ i' ∧ i' < 2 ^ 62 ∧ -(2 ^ 62) ≤ j' ∧ j' < 2 ^ 62) ∧ A i' j' := ⟨i, j, rfl, ⟨h0, h0', h1, h2⟩, q⟩
theorem w_iZip (h : tr σ H fun vs H1 => ∃ a b xs ys, vs = [.ref a, .ref b] ∧ SqL K H1 a xs ∧ SqL K H1 b ys ∧ RI (Itz K a b) H1) : iZip K tr σ H RI := h
theorem d_iZip {A : Addr → Addr → Prop} (h : SqL K H a xs) (h' : SqL K H b ys) (q : A a b) : ∃ a' b' xs ys, [V.ref a, V.ref b] = [.ref a', .ref b'] ∧ SqL K H a' xs ∧ SqL K H b' ys ∧ A a' b' := ⟨a, b, xs, ys, rfl, h, h', q⟩
theorem w_iEnum (h : tr σ H fun vs H1 => ∃ a xs, vs = [.ref a] ∧ SqL K H1 a xs ∧ RI (Ite K a) H1) : iEnum K tr σ H RI := h
theorem d_iEnum {A : Addr → Prop} (h : SqL K H a xs) (q : A a) : ∃ a' xs, [V.ref a] = [.ref a'] ∧ SqL K H a' xs ∧ A a' := ⟨a, xs, rfl, h, q⟩
end
end Fg
namespace Fg
open PySem PySem.Spec PyProof.Rows L2
/-! ### what the document says of programs, over data -/
def letters : Str := "abcdefghijklmnopqrstuvwxyz"
def isLow (c : Nat) : Bool := decide (c ∈ letters.cps.toList)
def dInt : PyData → Bool
  | .int _ => true
  | .bool _ => true
  | _ => false
def dBool : PyData → Bool
  | .bool _ => true
  | _ => false
def dStr : PyData → Bool
  | .str _ => true
  | _ => false
def dTup : PyData → Bool
  | .tuple _ => true
  | _ => false
def dLst : PyData → Bool
  | .list _ => true
  | _ => false
def isWhole : PyData → Bool
  | .int _ => true
  | _ => false
def nameS (x : Str) : Bool := decide (1 ≤ x.length) && decide (x.length ≤ 8) && x.cps.toList.all isLow
def isName : PyData → Bool
  | .str x => nameS x
  | _ => false
def partsOf (z : Str) : Option Nat := if z = "arg" then some 0 else if z = "cell" then some 1 else if z = "add" then some 2 else if z = "less" then some 2 else if z = "least" then some 2 else none
def isExpr : Nat → PyData → Bool
  | 0, _ => false
  | _ + 1, .int _ => true
  | n + 1, .tuple (.str z :: ds) => (match partsOf z with
    | some k => decide (ds.length = k) && ds.all (isExpr n)
    | none => false)
  | _, _ => false
def skipOk (bh : Int) : PyData → Bool
  | .int k => decide (1 ≤ k) && decide (k ≤ bh)
  | _ => false
def inNm (ns : List Str) : PyData → Bool
  | .str x => decide (x ∈ ns)
  | _ => false
def step3 (ns : List Str) (bh : Int) (z : Str) (a b : PyData) : Bool :=
  if z = "cell" then isExpr 5 a && isExpr 5 b
  else if z = "skip" then isExpr 5 a && skipOk bh b
  else if z = "give" then isName a && isExpr 5 b
  else if z = "fork" ∨ z = "call" then isName a && isExpr 5 b && inNm ns a
  else false
def stepBody (ns : List Str) (bh : Int) (z : Str) : List PyData → Bool
  | [a, b] => step3 ns bh z a b
  | _ => false
def isStep (ns : List Str) (bh : Int) : PyData → Bool
  | .tuple (.str z :: ds) => if z = "wait" then decide (ds.length = 0) else stepBody ns bh z ds
  | _ => false
def rowOk : PyData → Bool
  | .tuple [.str x, .list _] => nameS x
  | _ => false
def rowName : PyData → Str
  | .tuple (.str x :: _) => x
  | _ => ""
def rowSteps : PyData → List PyData
  | .tuple [_, .list ds] => ds
  | _ => []
def ltS (x y : Str) : Bool := decide (x.cps.toList < y.cps.toList)
def rising : List Str → Bool
  | x :: y :: r => ltS x y && rising (y :: r)
  | _ => true
def hasForm : PyData → Bool
  | .list rows => rows.all rowOk && rising (rows.map rowName)
  | _ => false
/-- the first wrong one of steps, from place k on -/
def wrongAt (names : List Str) : Nat → List PyData → Option Nat
  | _, [] => none
  | k, d :: ds => if isStep names (ds.length : Int) d = true then wrongAt names (k + 1) ds else some k
def wrongIn (names : List Str) : List PyData → Option (Str × Nat)
  | [] => none
  | r :: rs => match wrongAt names 0 (rowSteps r) with
    | some k => some (rowName r, k)
    | none => wrongIn names rs
def rowsOf : PyData → List PyData
  | .list rows => rows
  | _ => []
def firstWrong (d : PyData) : Option (Option (Str × Nat)) :=
  if hasForm d = true then (wrongIn ((rowsOf d).map rowName) (rowsOf d)).map some else some none
/-! ### isinstance -/
def tyN : PyData → String
  | .none => "NoneType"
  | .bool _ => "bool"
  | .int _ => "int"
  | .str _ => "str"
  | .list _ => "list"
  | .tuple _ => "tuple"
  | .dict _ => "dict"
section
variable {K : PySem.W.Frag} {S : Addr → Prop} {H : Hp} {v : V} {d : PyData} {Q : VK}
theorem isi_of {v : V} {a b : String} {r : Bool} (t : TyX K H v (.type a)) (h : kitB a b = some r) (q : Q (.bl r) H) : rIsi K [v, .ty b] H Q := ⟨v, .ty b, _, _, r, rfl, .ty b, t, kit_ty h, q⟩
theorem R.tyx (r : R S H v d) : TyX K H v (.type (tyN d)) := by
  cases r with
  | non => exact .base .non
  | bl b => exact .base (.bl b)
  | int i => exact .base (.int i)
  | str x => exact .base (.str x)
  | lst s e r => exact .base (.lst e)
  | tup e r => exact .base (.tup e)
  | dic s e => exact .base (.dK e)
theorem w_isInt (r : R S H v d) (q : Q (.bl (dInt d)) H) : rIsi K [v, .ty "int"] H Q := by
  have t := r.tyx (K := K)
  cases d with
  | none => exact isi_of t (show kitB "NoneType" "int" = some false by decide +kernel) q
  | bool b => exact isi_of t (show kitB "bool" "int" = some true by decide +kernel) q
  | int i => exact isi_of t (show kitB "int" "int" = some true by decide +kernel) q
  | str x => exact isi_of t (show kitB "str" "int" = some false by decide +kernel) q
  | list ds => exact isi_of t (show kitB "list" "int" = some false by decide +kernel) q
  | tuple ds => exact isi_of t (show kitB "tuple" "int" = some false by decide +kernel) q
  | dict ds => exact isi_of t (show kitB "dict" "int" = some false by decide +kernel) q
theorem w_isBool (r : R S H v d) (q : Q (.bl (dBool d)) H) : rIsi K [v, .ty "bool"] H Q := by
  have t := r.tyx (K := K)
  cases d with
  | none => exact isi_of t (show kitB "NoneType" "bool" = some false by decide +kernel) q
  | bool b => exact isi_of t (show kitB "bool" "bool" = some true by decide +kernel) q
  | int i => exact isi_of t (show kitB "int" "bool" = some false by decide +kernel) q
  | str x => exact isi_of t (show kitB "str" "bool" = some false by decide +kernel) q
  | list ds => exact isi_of t (show kitB "list" "bool" = some false by decide +kernel) q
  | tuple ds => exact isi_of t (show kitB "tuple" "bool" = some false by decide +kernel) q
  | dict ds => exact isi_of t (show kitB "dict" "bool" = some false by decide +kernel) q
theorem w_isStr (r : R S H v d) (q : Q (.bl (dStr d)) H) : rIsi K [v, .ty "str"] H Q := by
  have t := r.tyx (K := K)
  cases d with
  | none => exact isi_of t (show kitB "NoneType" "str" = some false by decide +kernel) q
  | bool b => exact isi_of t (show kitB "bool" "str" = some false by decide +kernel) q
  | int i => exact isi_of t (show kitB "int" "str" = some false by decide +kernel) q
  | str x => exact isi_of t (show kitB "str" "str" = some true by decide +kernel) q
  | list ds => exact isi_of t (show kitB "list" "str" = some false by decide +kernel) q
  | tuple ds => exact isi_of t (show kitB "tuple" "str" = some false by decide +kernel) q
  | dict ds => exact isi_of t (show kitB "dict" "str" = some false by decide +kernel) q
theorem w_isTup (r : R S H v d) (q : Q (.bl (dTup d)) H) : rIsi K [v, .ty "tuple"] H Q := by
  have t := r.tyx (K := K)
  cases d with
  | none => exact isi_of t (show kitB "NoneType" "tuple" = some false by decide +kernel) q
  | bool b => exact isi_of t (show kitB "bool" "tuple" = some false by decide +kernel) q
  | int i => exact isi_of t (show kitB "int" "tuple" = some false by decide +kernel) q
  | str x => exact isi_of t (show kitB "str" "tuple" = some false by decide +kernel) q
  | list ds => exact isi_of t (show kitB "list" "tuple" = some false by decide +kernel) q
  | tuple ds => exact isi_of t (show kitB "tuple" "tuple" = some true by decide +kernel) q
  | dict ds => exact isi_of t (show kitB "dict" "tuple" = some false by decide +kernel) q
theorem w_isLst (r : R S H v d) (q : Q (.bl (dLst d)) H) : rIsi K [v, .ty "list"] H Q := by
  have t := r.tyx (K := K)
  cases d with
  | none => exact isi_of t (show kitB "NoneType" "list" = some false by decide +kernel) q
  | bool b => exact isi_of t (show kitB "bool" "list" = some false by decide +kernel) q
  | int i => exact isi_of t (show kitB "int" "list" = some false by decide +kernel) q
  | str x => exact isi_of t (show kitB "str" "list" = some false by decide +kernel) q
  | list ds => exact isi_of t (show kitB "list" "list" = some true by decide +kernel) q
  | tuple ds => exact isi_of t (show kitB "tuple" "list" = some false by decide +kernel) q
  | dict ds => exact isi_of t (show kitB "dict" "list" = some false by decide +kernel) q
end
/-! ### the table of parts -/
structure Parts (K : PySem.W.Frag) (w : World) (dP : Addr) : Prop where
  kd : ∃ es n, KDict K w dP es n
  get : ∀ z k, partsOf z = some k → ∃ u, PySem.W.nsIn K dP z = some (some u) ∧ RelV (.int (k : Nat)) u
  no : ∀ z, partsOf z = none → PySem.W.nsIn K dP z = some none
section
variable {K : PySem.W.Frag} {w : World} {dP : Addr} {H : Hp} {Q : VK} {z : Str}
theorem w_notInP (T : Parts K w dP) (q : Q (.bl (!(partsOf z).isSome)) H) : oNotInKd K dP (.str z) (.ref dP) H Q := by
  cases e : partsOf z with
  | none => exact ⟨z, none, rfl, rfl, T.no z e, by rw [e] at q; exact q⟩
  | some k =>
    obtain ⟨u, e1, _⟩ := T.get z k e
    exact ⟨z, some u, rfl, rfl, e1, by rw [e] at q; exact q⟩
theorem w_ixP {k : Nat} (T : Parts K w dP) (e : partsOf z = some k) (q : Q (.int (k : Nat)) H) : rIxD K w (.ref dP) (.str z) H Q := by
  obtain ⟨u, e1, e2⟩ := T.get z k e
  obtain ⟨es, n, kd⟩ := T.kd
  exact ⟨dP, z, _, rfl, rfl, ⟨es, n, u, kd.at_, kd.lit, e1, e2⟩, q⟩
end
/-! ### bits of lists -/
theorem cut1 (xs : List V) : cutV xs (some 1) none = xs.drop 1 := by
  unfold cutV
  rw [show HT.sIx xs.length 0 (some 1) = min 1 xs.length from HT.sIx_nat xs.length 0 1, HT.sIx_none]
  cases xs with
  | nil => rfl
  | cons x r =>
    rw [show min 1 (x :: r).length = 1 by
      rw [List.length_cons]
      omega]
    show (List.take ((x :: r).length - 1) r) = r
    rw [List.length_cons, Nat.add_sub_cancel]
    exact List.take_length
theorem w_slA {K : PySem.W.Frag} {p : Addr} {xs : List V} {lo hi : Option Int} {H : Hp} {Q : VK} (h : H p = some (.tup xs)) (q : ∀ p' H2, Chg [] H H2 → H2 p' = some (.tup (cutV xs lo hi)) → Q (.ref p') H2) : rSlA K (.ref p) lo hi H Q := by
  refine ⟨p, xs, rfl, sqT h, fun e => ?_, fun _ => d_new fun p' H2 _ c h2 => q p' H2 c h2⟩
  refine q p H .refl ?_
  have : cutV xs lo hi = xs := by
    unfold cutV
    rw [e.1, e.2]
    simp
  rw [this]
  exact h
theorem all_bl {bs : List Bool} {acc : List V} {n : Nat} (hl : acc.length = n) (hb : bs.length = n) (h : ∀ (i : Nat) (y : V), acc[i]? = some y → ∃ b : Bool, bs[i]? = some b ∧ y = .bl b) : acc = bs.map V.bl := by
  apply List.ext_getElem?
  intro i
  rw [List.getElem?_map]
  by_cases hi : i < n
  · have e1 : acc[i]? = some acc[i] := List.getElem?_eq_getElem (by omega)
    obtain ⟨b, e2, e3⟩ := h i _ e1
    rw [e1, e2, e3]
    rfl
  · rw [List.getElem?_eq_none (by omega), List.getElem?_eq_none (by omega)]
    rfl
end Fg
namespace Fg
open PySem PySem.Spec PyProof.Rows L2
/-- a def that may be called by its name, with these defaults behind -/
structure Cal (P : Program) (w : World) (K : PySem.W.Frag) (mg : Str → Option Value) (base : Heap) (k : Nat) (x : Str) (sp : Sp) (dvs : List V) : Prop where
  ex : ∃ (f : Addr) (fd : FuncData) (ps : List Str) (ds : List Value), FnOk P w K mg base CX0 k f fd ps sp ∧ mg x = some (.ref f) ∧ PySem.W.keepIn K (.ref f) = true ∧ Binds K fd ps ds ∧ Vals dvs ds
/-- .. with keywords: n positional values, keywords ks, gV puts them in order -/
structure CalK (P : Program) (w : World) (K : PySem.W.Frag) (mg : Str → Option Value) (base : Heap) (k : Nat) (x : Str) (sp : Sp) (n : Nat) (ks : List Str) (gV : List V → List V → List V) : Prop where
  ex : ∃ (f : Addr) (fd : FuncData) (ps : List Str) (g : List Value → List Value → List Value), FnOk P w K mg base CX0 k f fd ps sp ∧ mg x = some (.ref f) ∧ PySem.W.keepIn K (.ref f) = true ∧ KBn K fd ps n ks g gV
section
variable {X : Cx} {k j n mm : Nat} {x m : Str} {sp : Sp} {dvs : List V} {ks : List Str} {gV : List V → List V → List V} {p pos apos : Pos} {e o : Expr} {es : List Expr} {kws : List Keyword} {ta : TE} {t tk : TA}
theorem pe_c (c : Cal X.prog X.w X.K X.mg X.base k x sp dvs) (hr : Room j X.A) (hk : k ≤ j) (hg : Gl X x) (ha : PA X (e :: es) t)
    (hdb : (x == ("__debug__" : Str)) = false := by decide) (he : starEach (e :: es) X.env = (false, eval e X.env) :: starEach es X.env := by rfl) (hpl : (backTo pos (starEach es X.env)).any (·.1) = false := by rfl) :
    PE X (.Call (.Name x p) (e :: es) [] pos) (tCall sp dvs E0 t) := by
  obtain ⟨f, fd, ps, ds, F, hm, kp, b, d⟩ := c.ex
  exact pe_call F (hr.mono hk) hg hm kp b d pass0 ha hdb he hpl
theorem pe_c0 (c : Cal X.prog X.w X.K X.mg X.base k x sp dvs) (hr : Room j X.A) (hk : k ≤ j) (hg : Gl X x) (hdb : (x == ("__debug__" : Str)) = false := by decide) :
    PE X (.Call (.Name x p) [] [] pos) (tCall sp dvs E0 tNil) := by
  obtain ⟨f, fd, ps, ds, F, hm, kp, b, d⟩ := c.ex
  exact pe_call0 F (hr.mono hk) hg hm kp b d pass0 hdb
theorem pe_ck (c : CalK X.prog X.w X.K X.mg X.base k x sp n ks gV) (hr : Room j X.A) (hk : k ≤ j) (hg : Gl X x) (ha : PA X (e :: es) t) (hkw : PK X kws tk)
    (hall : (backToKw pos (keywordEach kws X.env)).all (·.1.isSome) = true := by rfl) (hks : (backToKw pos (keywordEach kws X.env)).filterMap (·.1) = ks := by rfl)
    (hdb : (x == ("__debug__" : Str)) = false := by decide) (he : starEach (e :: es) X.env = (false, eval e X.env) :: starEach es X.env := by rfl)
    (hpl : ((backTo pos (starEach (e :: es) X.env)).any (·.1) || (backToKw pos (keywordEach kws X.env)).any (·.1.isNone)) = false := by rfl) (hmm : mm = ks.length := by rfl) :
    PE X (.Call (.Name x p) (e :: es) kws pos) (tCallN n mm sp gV E0 t tk) := by
  subst hmm
  obtain ⟨f, fd, ps, g, F, hm, kp, b⟩ := c.ex
  exact pe_callN F (hr.mono hk) hg hm kp b pass0 ha hkw hall hks hdb he hpl
theorem pe_ck0 (c : CalK X.prog X.w X.K X.mg X.base k x sp 0 ks gV) (hr : Room j X.A) (hk : k ≤ j) (hg : Gl X x) (hkw : PK X kws tk)
    (hall : (backToKw pos (keywordEach kws X.env)).all (·.1.isSome) = true := by rfl) (hks : (backToKw pos (keywordEach kws X.env)).filterMap (·.1) = ks := by rfl)
    (hdb : (x == ("__debug__" : Str)) = false := by decide)
    (hpl : ((backTo pos (starEach [] X.env)).any (·.1) || (backToKw pos (keywordEach kws X.env)).any (·.1.isNone)) = false := by rfl) (hmm : mm = ks.length := by rfl) :
    PE X (.Call (.Name x p) [] kws pos) (tCallN 0 mm sp gV E0 tNil tk) := by
  subst hmm
  obtain ⟨f, fd, ps, g, F, hm, kp, b⟩ := c.ex
  refine ⟨fun pins s σ H Q I h => ?_⟩
  refine wpAny_Call_Name_kw (ld_glob I hg hm ?_ hdb)
  refine PySem.W.callWith_KW0 (h₀ := X.base) I.ok.mod.kin kp hall (thn (hkw.run pos pins s σ H _ I h) fun ws s2 ⟨zs, H2, I2, rz, l1, l2, q2⟩ => ⟨I2.kIn, ?_⟩) hpl
  rw [hks]
  exact run_fnN (us := []) (vs := []) F (hr.mono hk) b pass0 I2 .nil rz rfl l2 q2
theorem w_callN {σ : L2.St} {H : Hp} {Q : VK} {E : XK} {m : Nat} (h : t σ H fun vs H1 => tk σ H1 fun zs H2 => vs.length = n ∧ zs.length = m ∧ sp (gV vs zs) H2 Q E) : tCallN n m sp gV E t tk σ H Q := h
end
section
variable {P : Program} {w : World} {K : PySem.W.Frag} {mg : Str → Option Value} {base : Heap} {x : Str} {st : Stmt} {f : Addr} {fd : FuncData} {sp : Sp} {k : Nat}
/-- a def of the top as it stands, dvs its defaults -/
abbrev FnP (K : PySem.W.Frag) (x : Str) (st : Stmt) (dvs : List V) (f : Addr) (fd : FuncData) : Prop := FunD K x x (defArgs st) (defBody st) (defScope st) dvs [] f fd
theorem FnP.go {N ps : List Str} {dvs : List V} (F : FnP K x st dvs f fd) (S : FnScope N ps (defScope st)) (len : ∀ vs H Q E, sp vs H Q E → vs.length = ps.length) (t : TS)
    (pure : ∀ (vs : List V) (H : Hp) (Q : VK) (E : XK), sp vs H Q E → t { nx := fun _ H' => Q .non H', rt := Q } (start N vs) H)
    (hbody : ∀ (cdv : Value) (A : Around) (outer : List Env) (s : Shared) (H : Hp) (E : XK), Room k (A.deeper (envOfC x (defScope st) s.heap.objs.size f cdv)) →
      PSs (cxOf CX0 P w K mg base N x (defScope st) f cdv A outer s H E).nox (defBody st) t) : FnOk P w K mg base CX0 (k + 1) f fd ps sp :=
  F.ok S len fun cdv A outer s H vs Q E hr h => ⟨t, PSs.nox (hbody cdv A outer s H E hr), pure vs H Q E h⟩
theorem FnP.cal {ps : List Str} (F : FnP K x st [] f fd) (ok : FnOk P w K mg base CX0 k f fd ps sp) (g : mg x = some (.ref f))
    (h : ∀ (kV doc pm : Value) (an : Option Addr) (cdv ct : Value) (us : List Value), us.length = ps.length → bindArgs (PySem.W.fnOf x x (defArgs st) (defBody st) (defScope st) .none kV doc pm an cdv ct) ⟨us, []⟩ = pure (ps.zip us)) : Cal P w K mg base k x sp [] :=
  ⟨f, fd, ps, [], ok, g, F.kp, F.bindsN h, .nil⟩
end
end Fg
namespace Fg
open PySem PySem.Spec PyProof.Rows L2
theorem exL {α : Type} {P : α → Prop} {B : Prop} (h : ∀ x, P x → B) : (∃ x, P x) → B := fun ⟨x, hx⟩ => h x hx
theorem pe_gc {X : Cx} {x : Str} {v : V} {pos : Pos} (hg : Gl X x) (h : ∃ u, X.mg x = some u ∧ RelV v u) (hd : (x == ("__debug__" : Str)) = false := by decide) : PE X (.Name x pos) (tC v) := by
  obtain ⟨u, e, r⟩ := h
  exact pe_glob hg e r hd
theorem dic_lookup {K : PySem.W.Frag} {a : Addr} {l : List (Option (Str × Int))} (h : He.dicW K a = some l) : ∃ o es n, K.lookup a = some o ∧ o.data = .dict es n ∧ es.toList.map He.keyOf = l := by
  unfold He.dicW at h
  cases q : K.lookup a with
  | none =>
    rw [q] at h
    cases h
  | some o =>
    obtain ⟨oc, od, dt, osl⟩ := o
    rw [q] at h
    cases oc with
    | type c =>
      cases od with
      | none =>
        cases dt with
        | dict es n =>
          have h1 : (match decide (c = "dict") && (osl.isEmpty && !(a == sysModules)) with
            | true => some (es.toList.map He.keyOf)
            | false => none) = some l := h
          cases z : decide (c = "dict") && (osl.isEmpty && !(a == sysModules)) with
          | false =>
            rw [z] at h1
            cases h1
          | true =>
            rw [z] at h1
            exact ⟨_, es, n, rfl, rfl, Option.some.inj h1⟩
        | _ => cases h
      | some b => cases dt <;> cases h
    | _ => cases od <;> cases dt <;> cases h
theorem keyOf_str {e : DictEntry} {k : Str} {i : Int} (h : He.keyOf e = some (k, i)) : ∃ t, e.key = .str k t := by
  unfold He.keyOf at h
  split at h
  · rename_i x t q
    have h4 := Option.some.inj h
    obtain ⟨h5, h6⟩ := Prod.mk.inj h4
    exact ⟨t, by rw [q, h5]⟩
  · cases h
theorem miss {K : PySem.W.Frag} {a : Addr} {P : Params} {ks : List Str} {z : Str} (h : He.dicW K a = some (He.keysIn P ks)) (hz : z ∉ ks) : PySem.W.nsIn K a z = some none := by
  obtain ⟨o, es, n, e1, e2, e3⟩ := dic_lookup h
  have key : ∀ e ∈ es.toList, ∃ k t, e.key = .str k t ∧ k ∈ ks := fun e he => by
    have : He.keyOf e ∈ He.keysIn P ks := by rw [← e3]; exact List.mem_map.mpr ⟨e, he, rfl⟩
    obtain ⟨k, hk, ek⟩ := List.mem_map.mp this
    obtain ⟨t, et⟩ := keyOf_str ek.symm
    exact ⟨k, t, et, hk⟩
  unfold PySem.W.nsIn
  rw [e1]
  obtain ⟨oc, od, dt, osl⟩ := o
  have e2 : dt = .dict es n := e2
  subst e2
  have f1 : es.toList.find? (·.key.isStr z) = none := by
    rw [List.find?_eq_none]
    intro e he
    obtain ⟨k, t, ek, hk⟩ := key e he
    rw [ek]
    intro hh
    have : k = z := by
      have := PySem.W.isStr_of z (Value.str k t)
      rw [this] at hh
      obtain ⟨t', e'⟩ := Value.isStrOf_shape (x := z) (v := Value.str k t) hh
      injection e'
    rw [this] at hk
    exact hz hk
  have f2 : es.toList.any (·.refKey) = false := by
    rw [List.any_eq_false]
    intro e he
    obtain ⟨k, t, ek, hk⟩ := key e he
    unfold DictEntry.refKey
    rw [ek]
    exact Bool.false_ne_true
  show (match es.toList.find? (·.key.isStr z) with
      | some e => some (some e.val)
      | none => if es.toList.any (·.refKey) then none else some none) = some none
  rw [f1]
  show (if es.toList.any (·.refKey) then none else some none) = some none
  rw [f2]
  rfl
def partK : List Str := ["arg", "cell", "add", "less", "least"]
def partV : List (Str × He.Dv) := [("arg", .int 0), ("cell", .int 1), ("add", .int 2), ("less", .int 2), ("least", .int 2)]
theorem parts_of {K : PySem.W.Frag} {w : World} {a : Addr} (h : He.dicW K a = some (He.keysIn w.params partK)) (hv : He.valsB K a partV = true) : Parts K w a := by
  refine ⟨He.dicW_ok h, fun z k e => ?_, fun z e => ?_⟩
  · unfold partsOf at e
    split at e
    · next hz => cases e; subst hz; exact He.valsB_ok hv (q := ("arg", .int 0)) (by simp [partV])
    split at e
    · next hz => cases e; subst hz; exact He.valsB_ok hv (q := ("cell", .int 1)) (by simp [partV])
    split at e
    · next hz => cases e; subst hz; exact He.valsB_ok hv (q := ("add", .int 2)) (by simp [partV])
    split at e
    · next hz => cases e; subst hz; exact He.valsB_ok hv (q := ("less", .int 2)) (by simp [partV])
    split at e
    · next hz => cases e; subst hz; exact He.valsB_ok hv (q := ("least", .int 2)) (by simp [partV])
    · cases e
  · refine miss h fun hm => ?_
    unfold partK at hm
    simp only [List.mem_cons, List.not_mem_nil, or_false] at hm
    rcases hm with hm | hm | hm | hm | hm <;> (subst hm; revert e; decide +kernel)
section
variable {P : Program} {w : World} {K : PySem.W.Frag} {mg : Str → Option Value} {base : Heap} {x : Str} {st : Stmt} {f : Addr} {fd : FuncData} {sp : Sp} {k : Nat} {ps : List Str} {dvs : List V}
/-- a call that leaves out the defaults from the j-th on (n values are written) -/
theorem FnP.cald (n j : Nat) (F : FnP K x st dvs f fd) (ok : FnOk P w K mg base CX0 k f fd ps sp) (g : mg x = some (.ref f)) (hd : dvs ≠ []) (hn : n + (dvs.length - j) = ps.length)
    (h : ∀ (T : Addr) (kV doc pm : Value) (an : Option Addr) (cdv ct : Value) (us its : List Value), us.length = n → its.length = dvs.length →
      ∃ k, bindArgs (PySem.W.fnOf x x (defArgs st) (defBody st) (defScope st) (.ref T) kV doc pm an cdv ct) ⟨us, []⟩ = seqItems? (.ref T) >>= k ∧ k (some its.toArray) = pure (ps.zip (us ++ its.drop j))) : Cal P w K mg base k x sp (dvs.drop j) := by
  obtain ⟨ds, v, b⟩ := F.binds1 n j hd hn h
  exact ⟨f, fd, ps, ds, ok, g, F.kp, b, v⟩
/-- all by keywords, in the parameters' order, no defaults -/
theorem FnP.calk (F : FnP K x st [] f fd) (ok : FnOk P w K mg base CX0 k f fd ps sp) (g : mg x = some (.ref f))
    (h : ∀ (kV doc pm : Value) (an : Option Addr) (cdv ct : Value) (us : List Value), us.length = ps.length → bindArgs (PySem.W.fnOf x x (defArgs st) (defBody st) (defScope st) .none kV doc pm an cdv ct) ⟨[], ps.zip us⟩ = pure (ps.zip us)) : CalK P w K mg base k x sp 0 ps (fun _ zs => zs) := by
  obtain ⟨oc, od, dV, kV, doc, pm, an, cdv, ct, osl, rfl, lk, hcd, hD, hK⟩ := F.ex
  rcases hD with ⟨_, rfl⟩ | ⟨e, _⟩
  · refine ⟨f, _, ps, fun _ ws => ws, ok, g, F.kp, ⟨fun s us ws _ l1 l2 => ?_, fun _ r => r⟩⟩
    rw [List.length_eq_zero_iff.mp l1]
    exact .of_eq (h kV doc pm an cdv ct ws l2)
  · exact absurd rfl e
end
end Fg
namespace Fg
open PySem PySem.Spec PyProof.Rows L2

/-! ### an exception that was caught, held beyond its suite -/
def ExH (cls : Value) (d : Option Addr) (a : Addr) : HO := .ext fun h => ∃ (oe : Obj) (vs : Array Value), h.get? a = some oe ∧ Zc cls d oe ∧ oe.data = .fields vs
theorem exH_ok {P : Program} {w : World} {H : Hp} {h : Heap} {a : Addr} {cls : Value} {d : Option Addr} {oe : Obj} {vs : Array Value} (e : h.get? a = some oe) (z : Zc cls d oe) (hd : oe.data = .fields vs) : ObjOk P w H h a (ExH cls d a) :=
  ⟨⟨oe, vs, e, z, hd⟩, ⟨oe, e⟩, fun _ _ ⟨o, v, q, r⟩ k => ⟨o, v, k o q, r⟩⟩
theorem exH_at {P : Program} {w : World} {H : Hp} {h : Heap} {a : Addr} {cls : Value} {d : Option Addr} (hok : HOk P w H h) (he : H a = some (ExH cls d a)) : ∃ (oe : Obj) (vs : Array Value), h.get? a = some oe ∧ Zc cls d oe ∧ oe.data = .fields vs := by
  have x : ObjOk P w H h a (.ext fun h => ∃ (oe : Obj) (vs : Array Value), h.get? a = some oe ∧ Zc cls d oe ∧ oe.data = .fields vs) := hok a _ he
  exact x.1

section
variable {X : Cx} {pins : List (Addr × Obj)} {σ : L2.St} {H : Hp} {s : Shared}
/-- an exception's object, till now a pin, is tracked -/
theorem Inv.track {a : Addr} {oe : Obj} {vs : Array Value} {cls : Value} {d : Option Addr} (I : Inv X ((a, oe) :: pins) σ H s) (hz : Zc cls d oe) (hd : oe.data = .fields vs) (h0 : X.s_0.heap.get? a = none)
    (hp : ∀ p ∈ X.pn ++ pins, p.1 ≠ a) : Inv X pins σ (upd H a (ExH cls d a)) s := by
  obtain ⟨ha, na, nL, nF, _⟩ := I.pin (a, oe) (by simp)
  have ne0 : ∀ b o, X.s_0.heap.get? b = some o → b ≠ a := fun b o e z => by
    rw [z, h0] at e
    cases e
  have neS : ∀ {b : Addr} {o : HO}, H b = some o → b ≠ a := fun {b o} e => ne_of_none e na
  refine ⟨I.ok, I.os, I.bare, ⟨I.base.keep, I.base.slot, fun b o e n hq => ?_, I.base.there, fun b xs e => ?_, fun b o u e => ?_, fun b ps e => ?_⟩, I.loc, I.cell, ?_, fun x c e => ?_, fun p hm => ?_, fun b u e => ?_, I.len⟩
  · rw [upd_ne (ne0 b o e)]
    exact I.base.free b o e n hq
  · have q := I.base.tups b xs e
    rw [upd_ne (neS q)]
    exact q
  · have q := I.base.frzs b o u e
    rw [upd_ne (neS q)]
    exact q
  · obtain ⟨m, q⟩ := I.base.tbls b ps e
    exact ⟨m, by rw [upd_ne (neS q)]; exact q⟩
  · rw [upd_ne (Ne.symm nL)]
    exact I.free
  · have hc : c ≠ a := fun z => by
      obtain ⟨v, o, ho, hv⟩ := I.cell x c e
      rw [z, ha] at ho
      cases ho
      rw [hd] at hv
      cases hv
    rw [upd_ne hc]
    exact I.freeC x c e
  · obtain ⟨e, n, ne, nf, dd⟩ := I.pin p (by
      rcases List.mem_append.mp hm with z | z
      · exact List.mem_append_left _ z
      · exact List.mem_append_right _ (List.mem_cons_of_mem _ z))
    exact ⟨e, by rw [upd_ne (hp p hm)]; exact n, ne, nf, dd⟩
  · by_cases hb : b = a
    · subst hb
      rw [upd_same] at e
      cases e
      exact exH_ok ha hz hd
    · rw [upd_ne hb] at e
      exact (I.hok b u e).stay (fun c v _ q => q) (fun c q => by rw [upd_ne (neS q)]; exact q) fun c xs q => by rw [upd_ne (neS q)]; exact q
theorem Inv.unsuiteP {a : Addr} {oe : Obj} (I : Inv (X.suite a ((a, oe) :: (X.pn ++ pins))) [] σ H s) (ok : X.Ok) : Inv X ((a, oe) :: pins) σ H s :=
  ⟨ok, I.os, I.bare, I.base, I.loc, I.cell, I.free, I.freeC, fun p hp => I.pin p (by
    rw [List.append_nil]
    rcases List.mem_append.mp hp with z | z
    · exact List.mem_cons_of_mem _ (List.mem_append_left _ z)
    · rcases List.mem_cons.mp z with z | z
      · rw [z]; exact List.mem_cons_self
      · exact List.mem_cons_of_mem _ (List.mem_append_right _ z)), I.hok, I.len⟩
end

/-- as wAs, and behind the suite the exception is tracked -/
def wHold (K : PySem.W.Frag) (c : Value) (i : Nat) (ts : Addr → Value → Option Addr → TS) (Wout : WX) (D : Ends) : WX := fun cls d σ H =>
  ∃ b, PySem.W.exmOne K cls c = some b ∧ (b = true → ∀ a, H a = none → ts a cls d { nx := fun σ' H' => H' a = none → D.nx (σ'.set i none) (upd H' a (ExH cls d a)), rt := D.rt, bk := fun σ' H' => D.bk (σ'.set i none) H', ct := fun σ' H' => D.ct (σ'.set i none) H' } (σ.set i (some (.ref a))) H) ∧
    (b = false → Wout cls d σ H)

/-- try: .. except c as n: .. -/
def tTryH (K : PySem.W.Frag) (c : Value) (i : Nat) (tb : WX → TS) (ts : Addr → Value → Option Addr → TS) (Wout : WX) : TS := fun D σ H => tb (wHold K c i ts Wout D) D σ H
theorem w_tryH {K : PySem.W.Frag} {c : Value} {i : Nat} {tb : WX → TS} {ts : Addr → Value → Option Addr → TS} {Wout : WX} {D : Ends} {σ : L2.St} {H : Hp} (h : tb (wHold K c i ts Wout D) D σ H) : tTryH K c i tb ts Wout D σ H := h
section
variable {X : Cx} {x n : Str} {c : Value} {i : Nat} {body suite : List Stmt} {b₀ : Stmt} {np pos pos' : Pos} {tb : WX → TS} {ts : Addr → Value → Option Addr → TS} {Wout : WX}
theorem ps_try_hold (hs : X.stack = X.env :: X.outer) (hf : X.env.frame = some X.env.locals) (hex : X.ex = []) (hN : X.N.Nodup) (hi : X.N[i]? = some n) (hln : X.env.kindOf n = some .local) (hc : Names X x c) (tk : Takes X Wout)
    (hb : ∀ (W : WX) (pn : List (Addr × Obj)) (xe : Value → Shared → Prop), Takes (X.tr pn xe) W → PassesOwn (model X.prog X.w) X.A X.env xe → PSs (X.tr pn xe) body (tb W))
    (hsu : ∀ (a : Addr) (oe : Obj) (cls : Value) (d : Option Addr) (pn : List (Addr × Obj)), Zc cls d oe → (∃ vs, oe.data = .fields vs) → PSs (X.suite a ((a, oe) :: pn)) (b₀ :: suite) (ts a cls d)) :
    PS X (.Try body [.ExceptHandler (some (.Name x np)) (some n) (b₀ :: suite) pos'] [] [] pos) (tTryH X.K c i tb ts Wout) := by
  refine ⟨fun pins s σ H D I h => ?_⟩
  have ok := I.ok
  have hfr : X.A.frames = some (X.env :: X.outer) := by rw [ok.frames, hs]
  have hloc : Loc X.env.scope n := .inl hln
  refine wpAny_Try_except ?_
  refine wpAny_mono ((hb (wHold X.K c i ts Wout D) (X.pn ++ pins) (fun e s₁ => wpAny (model X.prog X.w) X.A (noteFrame e X.env) (fun _ s₂ => wpAny (model X.prog X.w) X.A (setFlight e none) (fun _ s₃ =>
    wpAny (model X.prog X.w) X.A (handleBy e X.env [.ExceptHandler (some (.Name x np)) (some n) (b₀ :: suite) pos']) (SP X pins D) X.xe s₃) X.xe s₂) X.xe s₁) (fun u s' xx => ?_) PassesOwn.looking).run [] s σ H D (I.toTry _) h) (fun f s1 hsp => ?_) (fun e s1 he => he)
  · -- the catch
    obtain ⟨a, B, sI, pins', σ', H', cls, d, rfl, J', nb, up, sky, na, os, ag, b, hb1, hyes, hno⟩ := xx
    have J : Inv X pins σ' H' sI := J'.ofTry ok
    have sky' : Sky B (X.env :: X.outer) a (Zc cls d) X.env.locals s'.heap := by rw [← hs]; exact sky
    show wpAny (model X.prog X.w) X.A (noteFrame (.ref a) X.env) _ _ _
    refine Sky.land Zc.steady hfr hf sky' fun h3 fl3 up3 => ?_
    have J3 : Inv X pins σ' H' { s' with heap := h3 } := J.landed nb fl3.1 (up.trans up3) os ag
    obtain ⟨oe3, vs3, he3, hz3, hd3⟩ := fl3.there
    have notFr : ∀ {h : Heap} {o : Obj} {vs : Array Value}, h.FunFrames B (X.env :: X.outer) → h.get? a = some o → o.data = .fields vs → a ∉ frs (X.env :: X.outer) := fun {h o vs} ff e dd hm => by
      obtain ⟨_, o', e', hnf⟩ := ff.mem hm
      rw [e] at e'; cases e'
      exact hnf _ dd
    have nfr := notFr fl3.2.2.1 he3 hd3
    have nL : a ≠ X.env.locals := fun z => nfr (List.mem_filterMap.mpr ⟨X.env, List.mem_cons_self, by rw [hf, z]⟩)
    have nF : a ∉ X.fs := fun hm => by
      obtain ⟨e, he, q⟩ := List.mem_filterMap.mp hm
      exact nfr (List.mem_filterMap.mpr ⟨e, List.mem_cons_of_mem _ he, q⟩)
    have nI : sI.heap.get? a = none := by
      cases q : sI.heap.get? a with
      | none => rfl
      | some o =>
        have z := nb a o q (by rw [hs]; exact nfr)
        have y : B.get? a = none := fl3.2.1
        rw [y] at z
        cases z
    have n0 : X.s_0.heap.get? a = none := by
      cases q : X.s_0.heap.get? a with
      | none => rfl
      | some o =>
        obtain ⟨o', z⟩ := J.base.there a o q (by rw [hex]; exact fun z => nomatch z)
        rw [nI] at z
        cases z
    have npin : ∀ p ∈ X.pn ++ pins, p.1 ≠ a := fun p hp z => by
      have y := (J.pin p hp).1
      rw [z, nI] at y
      cases y
    have S3 := J3.suite he3 hd3 na nL nF
    refine wpAny_handleBy_cons (codeAny_handlers_test ?_) (by intro q; cases q)
    have LT : PySem.W.Looks (model X.prog X.w) h3 (typeOf (.ref a)) cls := fun A Q E s k q => wpAny_typeOf_ref (k _ _ he3) (by rw [hz3.1]; exact q)
    have LM := PySem.W.exm_one (M := model X.prog X.w) (J3.kIn) LT hb1
    have test : ∀ {Q : Value → Shared → Prop} {E : Value → Shared → Prop}, Q c { s' with heap := h3 } → wpAny (model X.prog X.w) (X.A.mark (some (.ref a))) (eval (.Name x np) X.env) Q E { s' with heap := h3 } := fun {Q E} q => by
      obtain ⟨hg, hdbg, hm | ⟨hm, hv, hnn⟩⟩ := hc
      · exact ld_glob (X := X.suite a ((a, oe3) :: (X.pn ++ pins))) S3 hg hm q hdbg
      · exact ld_blt (X := X.suite a ((a, oe3) :: (X.pn ++ pins))) S3 hg hm hv q hnn hdbg
    refine test (LM.here ?_)
    cases b with
    | true =>
      refine codeAny_handlers_suite_as ?_
      refine HandSPX.lands_againZ fl3 fun h4 fl4 up4 => ?_
      have J4 : Inv X pins σ' H' { s' with heap := h4 } := J.landed nb fl4.1 ((up.trans up3).trans up4) os ag
      obtain ⟨oe4, vs4, he4, hz4, hd4⟩ := fl4.there
      have S4 := J4.suite he4 hd4 na nL nF
      refine store_ok (X := X.suite a ((a, oe4) :: (X.pn ++ pins))) (v := .ref a) S4 hN hi hloc rfl (fun s5 S5 => ?_) (.inr hln)
      refine wpAny_mono ((hsu a oe4 cls d (X.pn ++ pins) hz4 ⟨_, hd4⟩).run [] s5 _ H' _ S5 (hyes rfl a na)) (fun f s6 hsp => ?_) (fun _ _ z => False.elim z)
      have end_ : ∀ {σ6 : L2.St} {H6 : Hp} {Q : Shared → Prop}, Inv (X.suite a ((a, oe4) :: (X.pn ++ pins))) [] σ6 H6 s6 → (∀ s7, Inv X pins (σ6.set i none) H6 s7 → Q s7) →
          wpAny (model X.prog X.w) X.A (do bindName X.env n .none; unbindBehindTheSuite X.env n pos') (fun _ s7 => Q s7) X.xe s6 := fun {σ6 H6 Q} S6 hq => gone_ok (S6.unsuite ok) hN hi hln hq
      cases f with
      | next =>
        obtain ⟨σ6, H6, S6, q6⟩ := hsp
        have n6 : H6 a = none := (S6.pin (a, oe4) (by simp)).2.1
        exact gone_ok (Inv.unsuiteP S6 ok) hN hi hln fun s7 J7 => ⟨_, _, Inv.track J7 hz4 hd4 n0 npin, q6 n6⟩
      | brk =>
        obtain ⟨σ6, H6, S6, q6⟩ := hsp
        exact end_ S6 fun s7 J7 => ⟨_, _, J7, q6⟩
      | cont =>
        obtain ⟨σ6, H6, S6, q6⟩ := hsp
        exact end_ S6 fun s7 J7 => ⟨_, _, J7, q6⟩
      | ret u =>
        obtain ⟨v6, σ6, H6, S6, r6, q6⟩ := hsp
        exact end_ S6 fun s7 J7 => ⟨_, _, _, J7, r6, q6⟩
    | false =>
      show wpAny _ X.A (handleBy (.ref a) X.env []) _ _ _
      refine wpAny_handleBy_nil ?_
      obtain ⟨k1, k2, k3, oe, vs, T, oT, ts', he, hz, hd, h1, hr⟩ := id fl3
      unfold PySem.passOn
      refine wpAny_bind (wpAny_field he hd h1 ?_)
      rw [if_neg (show ¬ ((Value.ref T == Value.none) = true) from by simp)]
      have fin : wpAny (model X.prog X.w) X.A (setFlight (.ref a) X.env.frame) (fun _ s4 => wpAny (model X.prog X.w) X.A (throw (.ref a) : Sem Flow) (SP X pins D) X.xe s4) X.xe { s' with heap := h3 } := by
        rw [hf]
        refine HandSPX.setFlight_upZ fl3 fun h4 hh4 up4 => wpAny_throw (tk _ _ ?_)
        exact ⟨a, B, sI, pins, σ', H', cls, d, rfl, J, nb, (up.trans up3).trans up4, .inr (.inr (by rw [hs]; exact hh4)), na, os, ag, hno rfl⟩
      first
        | exact wpAny_bind (wpAny_pure (wpAny_bind fin))
        | exact wpAny_bind fin
  · cases f with
    | next =>
      obtain ⟨σ', H', J', q⟩ := hsp
      exact wpAny_execs_nil ⟨σ', H', J'.ofTry ok, q⟩
    | brk =>
      obtain ⟨σ', H', J', q⟩ := hsp
      exact ⟨σ', H', J'.ofTry ok, q⟩
    | cont =>
      obtain ⟨σ', H', J', q⟩ := hsp
      exact ⟨σ', H', J'.ofTry ok, q⟩
    | ret u =>
      obtain ⟨v, σ', H', J', r, q⟩ := hsp
      exact ⟨v, σ', H', J'.ofTry ok, r, q⟩
end

/-! ### its fields, isinstance -/
section
variable {X : Cx}
/-- e.f, e held -/
def tXh (K : PySem.W.Frag) (f : Str) (te : TE) : TE := fun σ H Q => te σ H fun x H1 => ∃ (a C dd : Addr) (fs : List (Str × V)) (v : V), x = .ref a ∧ H1 a = some (ExH (.ref C) (some dd) a) ∧ XfC K C ∧ PySem.W.findIn K (.ref C) f = some none ∧ H1 dd = some (.xd fs) ∧ fs.lookup f = some v ∧ Q v H1
theorem pe_xh {e : Expr} {te : TE} {pos : Pos} {n : Str} (he : PE X e te) (hb : attributeBase e n X.env (eval e X.env) = eval e X.env := by rfl) : PE X (.Attribute e n pos) (tXh X.K n te) := by
  refine ⟨fun pins s σ H Q I h => ?_⟩
  refine attr_of hb (thn (he.run pins s σ H _ I h) fun u s1 hh => ?_)
  obtain ⟨x, H1, I1, rx, a, C, dd, fs, v, ex, ea, T, hno, ed, l, q⟩ := hh
  subst ex
  obtain rfl : u = Value.ref a := rx
  obtain ⟨oe, vs, ha, hz, hd⟩ := exH_at I1.hok ea
  have hx : ObjOk X.prog X.w H1 s1.heap dd (.xd fs) := I1.hok dd _ ed
  obtain ⟨mA, hns, hr⟩ := hx
  obtain ⟨od, ho, hl⟩ := lookIn_ns hns
  obtain ⟨u, hu, ru⟩ := RelO.some_of (v := v) (o := mA n) (by rw [← l]; exact hr n)
  have J : PySem.W.InstAt s1.heap a oe C (some od) := ⟨ha, hz.1, by unfold PySem.W.notCls; rw [hd] <;> rfl, by rw [hz.2]; exact ho⟩
  exact HandSPX.exc_get I1.kIn J T.ga T.gg T.exC (PySem.W.findObj_own T.hdC hno rfl (by rw [hl, hu])) (handed_of ru) ⟨v, H1, I1.tok _, ru, q⟩
end
theorem w_xh {K : PySem.W.Frag} {f : Str} {σ : L2.St} {H : Hp} {Q : VK} {i : Nat} {a C dd : Addr} {fs : List (Str × V)} {v : V} (hσ : σ[i]? = some (some (.ref a))) (ea : H a = some (ExH (.ref C) (some dd) a)) (T : XfC K C) (no : PySem.W.findIn K (.ref C) f = some none) (ed : H dd = some (.xd fs)) (l : fs.lookup f = some v) (q : Q v H) : tXh K f (tVar i) σ H Q :=
  ⟨_, hσ, a, C, dd, fs, v, rfl, ea, T, no, ed, l, q⟩
/-! ### isinstance of a held exception -/
section
variable {X : Cx} {pins : List (Addr × Obj)} {σ : L2.St} {H : Hp} {s : Shared}
/-- isinstance(e, c), e held, its dict's fields fs -/
def rIsH (K : PySem.W.Frag) : List V → Hp → VK → Prop := fun xs H Q => ∃ (a C dd : Addr) (fs : List (Str × V)) (c : V) (u : Value) (b : Bool), xs = [.ref a, c] ∧ ClsV c u ∧ H a = some (ExH (.ref C) (some dd) a) ∧ ExcC K C ∧ H dd = some (.xd fs) ∧ PySem.W.kitOne K (.ref C) u = some b ∧ Q (.bl b) H
def rIsHT (K : PySem.W.Frag) : List V → Hp → VK → Prop := fun xs H Q => ∃ (a C dd : Addr) (fs : List (Str × V)) (tp : Addr) (cs : List V) (us : List Value) (b : Bool), xs = [.ref a, .ref tp] ∧ H tp = some (.tup cs) ∧ Paired ClsV cs us ∧ H a = some (ExH (.ref C) (some dd) a) ∧ ExcC K C ∧ H dd = some (.xd fs) ∧ PySem.W.kitAny K (.ref C) us = some b ∧ Q (.bl b) H
theorem kit_held {a C dd : Addr} {fs : List (Str × V)} (I : Inv X pins σ H s) (ea : H a = some (ExH (.ref C) (some dd) a)) (c : ExcC X.K C) (ed : H dd = some (.xd fs)) :
    ∃ P : Heap → Prop, PySem.W.KitX X.K (.ref a) (.ref C) P ∧ P s.heap := by
  obtain ⟨oe, vs, ha, hz, hd⟩ := exH_at I.hok ea
  have hx : ObjOk X.prog X.w H s.heap dd (.xd fs) := I.hok dd _ ed
  obtain ⟨mA, hns, hr⟩ := hx
  obtain ⟨od, ho, hl⟩ := lookIn_ns hns
  have J : PySem.W.InstAt s.heap a oe C (some od) := ⟨ha, hz.1, by unfold PySem.W.notCls; rw [hd] <;> rfl, by rw [hz.2]; exact ho⟩
  exact ⟨_, PySem.W.kitx_exc (ox := oe) (od := some od) (by obtain ⟨cd, hc, _⟩ := PySem.W.any_some c.hd; rw [hc] <;> rfl) c.hg c.hk c.hs c.ha c.hn c.ht c.hm, J⟩
theorem call_isH : CallR X (.builtin "isinstance") (rIsH X.K) := by
  intro pins s σ H xs us Q I r h
  obtain ⟨a, C, dd, fs, c, u, b, rfl, k, ea, ec, ed, e, q⟩ := h
  obtain ⟨u1, u2, rfl, r1, r2⟩ := vals2 r
  have e2 := k.eq r2
  subst e2
  cases (show u1 = Value.ref a from r1)
  obtain ⟨P, Z, p⟩ := kit_held I ea ec ed
  exact PySem.W.kia_one Z I.kIn p e (fun z => nomatch z) fun tk => ⟨.bl b, H, I.tok tk, rfl, q⟩
theorem call_isHT : CallR X (.builtin "isinstance") (rIsHT X.K) := by
  intro pins s σ H xs us Q I r h
  obtain ⟨a, C, dd, fs, tp, cs, ws, b, rfl, hT, k, ea, ec, ed, e, q⟩ := h
  obtain ⟨u1, u2, rfl, r1, r2⟩ := vals2 r
  cases (show u2 = Value.ref tp from r2)
  cases (show u1 = Value.ref a from r1)
  obtain ⟨P, Z, p⟩ := kit_held I ea ec ed
  obtain ⟨_, its, rv, o, h1, h2, n, h3⟩ := (show ObjOk X.prog X.w H s.heap tp (.tup cs) from I.hok tp _ hT)
  have e3 := ClsV.all k rv
  subst e3
  obtain ⟨oc, od, dt, sl⟩ := o
  simp only at h2 h3
  subst h2 h3
  exact PySem.W.kia_tup Z I.kIn p h1 e (fun z => nomatch z) fun tk => ⟨.bl b, H, I.tok tk, rfl, q⟩
end
end Fg
namespace Fg
open PySem PySem.Spec PyProof.Rows L2

/-! ### an own exception class, by a Bool -/
def oexB (K : PySem.W.Frag) (C : Addr) : Bool := match K.lookup C with
  | some ⟨.type "type", _, .cls cd, sl⟩ => (match cd.mro, sl.toList with
    | .ref C' :: bm, [_, _, _, _, some (.builtin n), _] => C' == C && n == "ValueError.__new__" && !cd.hasDel && cd.hasDict && PySem.HandSPX.refsVE bm
    | _, _ => false)
  | _ => false
theorem oexB_ok {K : PySem.W.Frag} {C : Addr} (q : oexB K C = true) : ∃ nm q N bs bm sn sub ab col dd k0 k1 k2 k3 k5, K.lookup C = some (excClassObj nm q C N bs bm true sn sub ab col dd k0 k1 k2 k3 k5 "ValueError.__new__") ∧ PySem.HandSPX.refsVE bm = true := by
  unfold oexB at q
  split at q
  · rename_i dd cd sl ho
    split at q
    · rename_i C' bm k0 k1 k2 k3 n k5 hm hs
      simp only [Bool.and_eq_true, beq_iff_eq, Bool.not_eq_true'] at q
      obtain ⟨⟨⟨⟨rfl, rfl⟩, hdel⟩, hh⟩, hr⟩ := q
      obtain ⟨nm, bs, mro, ns, qn, hd, sn, sub, ab, col, del⟩ := cd
      dsimp only at hm hdel hh
      subst hm hdel hh
      have hsl : sl = #[k0, k1, k2, k3, some (.builtin "ValueError.__new__"), k5] := by
        obtain ⟨l⟩ := sl
        simp only at hs
        rw [hs]
      subst hsl
      exact ⟨nm, qn, ns, bs, bm, sn, sub, ab, col, dd, k0, k1, k2, k3, k5, ho, hr⟩
    · cases q
  · cases q
/-- all that is asked of an own exception class -/
structure XCl (K : PySem.W.Frag) (C : Addr) : Prop where
  xf : XfC K C
  is : ExcC K C
  ox : OexC K C
def xclB (K : PySem.W.Frag) (C : Addr) : Bool :=
  oexB K C && (decide (PySem.W.findIn K (.ref C) "__getattribute__" = some (some (.builtin "BaseException.__getattribute__"))) && (decide (PySem.W.findIn K (.ref C) "__getattr__" = some none) && (decide (PySem.W.subIn K (.ref C) (.type "BaseException") = some true) && (PySem.W.hasDictIn K C &&
  (decide (PySem.W.findIn K (.ref C) "__class__" = some (some (.builtin "object.__class__"))) && (decide (PySem.W.specialIn K (.builtin "object.__class__") "__get__" = some (some (.builtin "getset_descriptor.__get__"))) && (decide (PySem.W.takesIn K (.builtin "object.__class__") = some true) &&
  (decide (PySem.W.mroIn K C (.type "object") = some true) && (decide (PySem.W.findIn K (.ref C) "__setattr__" = some (some (.builtin "object.__setattr__"))) && (decide (PySem.W.typeIn K (.ref C) = some (.type "type")) && PySem.W.keepIn K (.ref C)))))))))))
theorem xclB_ok {K : PySem.W.Frag} {C : Addr} (h : xclB K C = true) : XCl K C := by
  unfold xclB at h
  simp only [Bool.and_eq_true, decide_eq_true_eq] at h
  obtain ⟨h1, h2, h3, h4, h5, h6, h7, h8, h9, h10, h11, h12⟩ := h
  exact ⟨⟨h2, h3, h4, h5⟩, ⟨h2, h3, h4, h5, h6, h7, h8, h9⟩, ⟨oexB_ok h1, h10, h4, h11, h12⟩⟩
/-- its __init__ stands at He.ma -/
structure XIn (K : PySem.W.Frag) (C : Addr) (fs : List Str) : Prop where
  at_ : PySem.W.findIn K (.ref C) "__init__" = some (some (.ref (He.ma K C "__init__")))
  ty : PySem.W.typeIn K (.ref (He.ma K C "__init__")) = some (.type "function")
  no : ∀ f ∈ fs, PySem.W.findIn K (.ref C) f = some none
def xinB (K : PySem.W.Frag) (C : Addr) (fs : List Str) : Bool := decide (PySem.W.findIn K (.ref C) "__init__" = some (some (.ref (He.ma K C "__init__")))) && (decide (PySem.W.typeIn K (.ref (He.ma K C "__init__")) = some (.type "function")) && fs.all fun f => decide (PySem.W.findIn K (.ref C) f = some none))
theorem xinB_ok {K : PySem.W.Frag} {C : Addr} {fs : List Str} (h : xinB K C fs = true) : XIn K C fs := by
  unfold xinB at h
  simp only [Bool.and_eq_true, decide_eq_true_eq, List.all_eq_true] at h
  exact ⟨h.1, h.2.1, h.2.2⟩

/-! ### defs that may raise -/
structure CalX (P : Program) (w : World) (K : PySem.W.Frag) (mg : Str → Option Value) (base : Heap) (k : Nat) (x : Str) (sp : Sp) (dvs : List V) : Prop where
  ex : ∃ (f : Addr) (fd : FuncData) (ps : List Str) (ds : List Value), FnOk P w K mg base (L2.CX P w) k f fd ps sp ∧ mg x = some (.ref f) ∧ PySem.W.keepIn K (.ref f) = true ∧ Binds K fd ps ds ∧ Vals dvs ds
section
variable {X : Cx} {k j n mm : Nat} {x m : Str} {sp : Sp} {dvs : List V} {p pos apos : Pos} {e o : Expr} {es : List Expr} {ta : TE} {t tk : TA} {W : WX}
theorem pe_cx (c : CalX X.prog X.w X.K X.mg X.base k x sp dvs) (hr : Room j X.A) (hk : k ≤ j) (hg : Gl X x) (tk : Takes X W) (ha : PA X (e :: es) t)
    (hdb : (x == ("__debug__" : Str)) = false := by decide) (he : starEach (e :: es) X.env = (false, eval e X.env) :: starEach es X.env := by rfl) (hpl : (backTo pos (starEach es X.env)).any (·.1) = false := by rfl) :
    PE X (.Call (.Name x p) (e :: es) [] pos) (tCallSD sp dvs (WE W) t) := by
  obtain ⟨f, fd, ps, ds, F, hm, kp, b, d⟩ := c.ex
  exact pe_callSD F (hr.mono hk) hg hm kp b d (fun σ => passAt tk σ) ha hdb he hpl
theorem w_callX {σ : L2.St} {H : Hp} {Q : VK} {E : L2.St → XK} (h : t σ H fun vs H1 => sp (vs ++ dvs) H1 Q (E σ)) : tCallSD sp dvs E t σ H Q := h
end
section
variable {P : Program} {w : World} {K : PySem.W.Frag} {mg : Str → Option Value} {base : Heap} {x qual : Str} {st : Stmt} {f : Addr} {fd : FuncData} {sp : Sp} {k : Nat}
theorem FnP.goX {N ps : List Str} {dvs : List V} (F : FnP K x st dvs f fd) (S : FnScope N ps (defScope st)) (len : ∀ vs H Q E, sp vs H Q E → vs.length = ps.length) (t : XK → TS)
    (pure : ∀ (vs : List V) (H : Hp) (Q : VK) (E : XK), sp vs H Q E → t E { nx := fun _ H' => Q .non H', rt := Q } (start N vs) H)
    (hbody : ∀ (cdv : Value) (A : Around) (outer : List Env) (s : Shared) (H : Hp) (E : XK), Room k (A.deeper (envOfC x (defScope st) s.heap.objs.size f cdv)) →
      PSs (cxOf (L2.CX P w) P w K mg base N x (defScope st) f cdv A outer s H E) (defBody st) (t E)) : FnOk P w K mg base (L2.CX P w) (k + 1) f fd ps sp :=
  F.ok S len fun cdv A outer s H vs Q E hr h => ⟨t E, hbody cdv A outer s H E hr, pure vs H Q E h⟩
theorem FnP.calX {ps : List Str} (F : FnP K x st [] f fd) (ok : FnOk P w K mg base (L2.CX P w) k f fd ps sp) (g : mg x = some (.ref f))
    (h : ∀ (kV doc pm : Value) (an : Option Addr) (cdv ct : Value) (us : List Value), us.length = ps.length → bindArgs (PySem.W.fnOf x x (defArgs st) (defBody st) (defScope st) .none kV doc pm an cdv ct) ⟨us, []⟩ = pure (ps.zip us)) : CalX P w K mg base k x sp [] :=
  ⟨f, fd, ps, [], ok, g, F.kp, F.bindsN h, .nil⟩
/-- a method as it stands -/
abbrev MtP (K : PySem.W.Frag) (x qual : Str) (st : Stmt) (f : Addr) (fd : FuncData) : Prop := FunD K x qual (defArgs st) (defBody st) (defScope st) [] [] f fd
theorem MtP.go {N ps : List Str} (F : MtP K x qual st f fd) (S : FnScope N ps (defScope st)) (len : ∀ vs H Q E, sp vs H Q E → vs.length = ps.length) (t : TS)
    (pure : ∀ (vs : List V) (H : Hp) (Q : VK) (E : XK), sp vs H Q E → t { nx := fun _ H' => Q .non H', rt := Q } (start N vs) H)
    (hbody : ∀ (cdv : Value) (A : Around) (outer : List Env) (s : Shared) (H : Hp) (E : XK), Room k (A.deeper (envOfC qual (defScope st) s.heap.objs.size f cdv)) →
      PSs (cxOf CX0 P w K mg base N qual (defScope st) f cdv A outer s H E).nox (defBody st) t) : FnOk P w K mg base CX0 (k + 1) f fd ps sp :=
  F.ok S len fun cdv A outer s H vs Q E hr h => ⟨t, PSs.nox (hbody cdv A outer s H E hr), pure vs H Q E h⟩
end

/-! ### a class whose __init__ stores its arguments -/
/-- the dict's fields behind the stores of fs -/
def xfs : List Str → List V → List (Str × V) → List (Str × V)
  | f :: fs, v :: vs, l => xfs fs vs ((f, v) :: l)
  | _, _, l => l
/-- __init__ of such a class: keeps all but the exception's own -/
def sp_xinit (K : PySem.W.Frag) (C : Addr) (fs : List Str) : Sp := fun vs H Q _ => ∃ (a : Addr) (xs : List V), vs = .ref a :: xs ∧ xs.length = fs.length ∧ OexC K C ∧ (∀ f ∈ fs, PySem.W.findIn K (.ref C) f = some none) ∧ H a = some (exo a C none) ∧
  ∀ dx H', H dx = none → dx ≠ a → H' a = some (exo a C (some dx)) → H' dx = some (exd dx (xfs fs xs [])) → (∀ b, b ≠ a → b ≠ dx → H' b = H b) → Q .non H'
def t_xinit2 (K : PySem.W.Frag) (f g : Str) : TS := tSeq (tOst K f (tVar 0) (tVar 1)) (tOst K g (tVar 0) (tVar 2))
def t_xinit1 (K : PySem.W.Frag) (f : Str) : TS := tOst K f (tVar 0) (tVar 1)
theorem pure_xinit1 {K : PySem.W.Frag} {C : Addr} {f s p : Str} (vs : List V) (H : Hp) (Q : VK) (E : XK) (h : sp_xinit K C [f] vs H Q E) : t_xinit1 K f { nx := fun _ H' => Q .non H', rt := Q } (start [s, p] vs) H := by
  obtain ⟨a, xs, rfl, hl, T, no, ha, q⟩ := h
  match xs, hl with
  | [x], _ =>
    refine ⟨x, rfl, .ref a, rfl, a, C, rfl, T, no f (by simp), .inl ⟨ha, fun dx hd hn => ?_⟩⟩
    refine q dx _ hd hn upd_same ?_ fun b h1 h2 => ?_
    · rw [upd_ne hn, upd_same]
      rfl
    · rw [upd_ne h1, upd_ne h2]
theorem pure_xinit2 {K : PySem.W.Frag} {C : Addr} {f g s p r : Str} (vs : List V) (H : Hp) (Q : VK) (E : XK) (h : sp_xinit K C [f, g] vs H Q E) : t_xinit2 K f g { nx := fun _ H' => Q .non H', rt := Q } (start [s, p, r] vs) H := by
  obtain ⟨a, xs, rfl, hl, T, no, ha, q⟩ := h
  match xs, hl with
  | [x, y], _ =>
    refine ⟨x, rfl, .ref a, rfl, a, C, rfl, T, no f (by simp), .inl ⟨ha, fun dx hd hn => ?_⟩⟩
    refine ⟨y, rfl, .ref a, rfl, a, C, rfl, T, no g (by simp), .inr ⟨dx, [(f, x)], upd_same, ?_, by simp, ?_⟩⟩
    · rw [upd_ne hn, upd_same]
    · refine q dx _ hd hn ?_ upd_same fun b h1 h2 => ?_
      · rw [upd_ne (Ne.symm hn), upd_same]
      · rw [upd_ne h2, upd_ne h1, upd_ne h2]
/-- C(e, ..) raised: a new dict, all else as it was -/
theorem w_mkO {K : PySem.W.Frag} {C : Addr} {fs : List Str} {ta : TA} {σ : L2.St} {H : Hp} {Q : XK} (T : OexC K C) (no : ∀ f ∈ fs, PySem.W.findIn K (.ref C) f = some none)
    (h : ta σ H fun vs H1 => vs.length = fs.length ∧ vs.length ≤ 1000 ∧ ∀ dd H2, Chg [] H1 H2 → H1 dd = none → H2 dd = some (.xd (xfs fs vs [])) → Q (.ref C) (some dd) H2)
    (mono : ∀ {H : Hp} {A B : List V → Hp → Prop}, (∀ vs H1, A vs H1 → B vs H1) → ta σ H A → ta σ H B) : tMkO C (sp_xinit K C fs) [] ta σ H Q := by
  refine mono (fun vs H1 ⟨h1, h2, h3⟩ => ?_) h
  refine ⟨h2, fun a na => ?_⟩
  rw [List.append_nil]
  refine ⟨a, vs, rfl, h1, T, no, upd_same, fun dx H' hd hn ea ed ke => ?_⟩
  have hd1 : H1 dx = none := by
    rw [upd_ne hn] at hd
    exact hd
  refine ⟨rfl, dx, _, ea, ed, hd1, h3 dx _ ⟨fun b o e _ => ?_, fun b e => ?_, fun b xs e => ?_⟩ hd1 upd_same⟩
  · have nb : b ≠ a := ne_of_none e na
    have nd : b ≠ dx := ne_of_none e hd1
    rw [upd_ne nd, del_ne nb, ke b nb nd, upd_ne nb]
    exact e
  · by_cases nd : b = dx
    · rw [nd, upd_same] at e
      cases e
    · rw [upd_ne nd] at e
      by_cases nb : b = a
      · rw [nb]
        exact na
      · rw [del_ne nb, ke b nb nd, upd_ne nb] at e
        exact e
  · have nb : b ≠ a := ne_of_none e na
    have nd : b ≠ dx := ne_of_none e hd1
    rw [upd_ne nd, del_ne nb, ke b nb nd, upd_ne nb]
    exact e

/-! ### raise C(..) -/
structure MkX (P : Program) (w : World) (K : PySem.W.Frag) (mg : Str → Option Value) (base : Heap) (x : Str) (C : Addr) (fs : List Str) : Prop where
  ox : OexC K C
  no : ∀ f ∈ fs, PySem.W.findIn K (.ref C) f = some none
  g : mg x = some (.ref C)
  ini : ∃ (fI : Addr) (fd : FuncData) (ps : List Str), PySem.W.findIn K (.ref C) "__init__" = some (some (.ref fI)) ∧ PySem.W.typeIn K (.ref fI) = some (.type "function") ∧ FnOk P w K mg base CX0 1 fI fd ps (sp_xinit K C fs) ∧ Binds K fd ps []
def tWeak (ta : TA) : TA := fun σ H Q => ∃ A : List V → Hp → Prop, ta σ H A ∧ ∀ vs H1, A vs H1 → Q vs H1
theorem PA.weak {X : Cx} {es : List Expr} {ta : TA} (h : PA X es ta) : PA X es (tWeak ta) := ⟨fun pos pins s σ H Q I ⟨A, hA, k⟩ =>
  wpAny_mono (h.run pos pins s σ H A I hA) (fun us s1 ⟨vs, H1, I1, r, q⟩ => ⟨vs, H1, I1, r, k vs H1 q⟩) fun _ _ x => x⟩
def tRaiseX (C : Addr) (fs : List Str) (E : XK) (ta : TA) : TS := fun _ σ H => ta σ H fun vs H1 => vs.length = fs.length ∧ vs.length ≤ 1000 ∧ ∀ dd H2, Chg [] H1 H2 → H1 dd = none → H2 dd = some (.xd (xfs fs vs [])) → E (.ref C) (some dd) H2
theorem ps_raiseX {X : Cx} {x : Str} {C : Addr} {fs : List Str} {E : XK} {e : Expr} {es : List Expr} {ta : TA} {p pos pos2 : Pos} {j : Nat} (hc : X.calm = true) (M : MkX X.prog X.w X.K X.mg X.base x C fs) (hr : Room j X.A) (hk : 2 ≤ j) (tk : Takes X (fun cls d _ H => E cls d H)) (hg : Gl X x) (ha : PA X (e :: es) ta)
    (hdb : (x == ("__debug__" : Str)) = false := by decide) (he : starEach (e :: es) X.env = (false, eval e X.env) :: starEach es X.env := by rfl) (hpl : (backTo pos (starEach es X.env)).any (·.1) = false := by rfl) :
    PS X (.Raise (some (.Call (.Name x p) (e :: es) [] pos)) none pos2) (tRaiseX C fs E ta) := by
  obtain ⟨fI, fd, ps, iC, tI, F, hb⟩ := M.ini
  have R := ps_raise (pos := pos2) hc tk (pmk_oex (p := p) (pos := pos) (CX := CX0) M.ox iC tI F (hr.mono (by omega)) hb .nil pass0 hg M.g (PA.weak ha) hdb he hpl)
  refine ⟨fun pins s σ H D I h => R.run pins s σ H D I ?_⟩
  refine w_mkO (K := X.K) (fs := fs) M.ox M.no ⟨_, h, fun vs H1 q => q⟩ ?_
  intro H A B k ⟨A', h1, h2⟩
  exact ⟨A', h1, fun vs H1 q => k vs H1 (h2 vs H1 q)⟩
theorem w_raiseX {C : Addr} {fs : List Str} {E : XK} {ta : TA} {D : Ends} {σ : L2.St} {H : Hp} (h : ta σ H fun vs H1 => vs.length = fs.length ∧ vs.length ≤ 1000 ∧ ∀ dd H2, Chg [] H1 H2 → H1 dd = none → H2 dd = some (.xd (xfs fs vs [])) → E (.ref C) (some dd) H2) : tRaiseX C fs E ta D σ H := h
theorem takes0 {X : Cx} : Takes X (fun _ _ _ _ => False) := fun u s' h => by
  obtain ⟨a, B, sI, pins, σ, H, cls, d, e, I, nb, up, sky, na, os, ag, z⟩ := h
  exact z.elim
end Fg
namespace Fg
open PySem PySem.Spec PyProof.Rows L2
/-! ### what is asked of the classes -/
structure XF (K : PySem.W.Frag) : Prop where
  np : XCl K (He.ga K "NoProgram")
  inp : XIn K (He.ga K "NoProgram") ["helper", "at"]
  exm : PySem.W.exmOne K (.ref (He.ga K "NoProgram")) (.ref (He.ga K "WorkError")) = some true
  no : PySem.W.kitAny K (.ref (He.ga K "NoProgram")) [.ref (He.ga K "NoHand"), .ref (He.ga K "NoHelper"), .ref (He.ga K "NoMark"), .ref (He.ga K "NotOver"), .ref (He.ga K "NoText"), .ref (He.ga K "TooLong")] = some false
  yes : PySem.W.kitOne K (.ref (He.ga K "NoProgram")) (.ref (He.ga K "NoProgram")) = some true
  ve : PySem.W.kitOne K (.ref (He.ga K "NoProgram")) (.type "ValueError") = some true
def xfOk (K : PySem.W.Frag) : Bool := xclB K (He.ga K "NoProgram") && (xinB K (He.ga K "NoProgram") ["helper", "at"] && (decide (PySem.W.exmOne K (.ref (He.ga K "NoProgram")) (.ref (He.ga K "WorkError")) = some true) &&
  (decide (PySem.W.kitAny K (.ref (He.ga K "NoProgram")) [.ref (He.ga K "NoHand"), .ref (He.ga K "NoHelper"), .ref (He.ga K "NoMark"), .ref (He.ga K "NotOver"), .ref (He.ga K "NoText"), .ref (He.ga K "TooLong")] = some false) &&
  (decide (PySem.W.kitOne K (.ref (He.ga K "NoProgram")) (.ref (He.ga K "NoProgram")) = some true) && decide (PySem.W.kitOne K (.ref (He.ga K "NoProgram")) (.type "ValueError") = some true)))))
theorem xfOk_ok {K : PySem.W.Frag} (h : xfOk K = true) : XF K := by
  unfold xfOk at h
  simp only [Bool.and_eq_true, decide_eq_true_eq] at h
  obtain ⟨h1, h2, h3, h4, h5, h6⟩ := h
  exact ⟨xclB_ok h1, xinB_ok h2, h3, h4, h5, h6⟩
end Fg
namespace Fg
open PySem PySem.Spec PyProof.Rows L2
/-! ### TooLong, caught by its own name -/
structure XTl (K : PySem.W.Frag) : Prop where
  cl : XCl K (He.ga K "TooLong")
  inn : XIn K (He.ga K "TooLong") ["most"]
  exm : PySem.W.exmOne K (.ref (He.ga K "TooLong")) (.ref (He.ga K "TooLong")) = some true
def xtOk (K : PySem.W.Frag) : Bool := xclB K (He.ga K "TooLong") && (xinB K (He.ga K "TooLong") ["most"] && decide (PySem.W.exmOne K (.ref (He.ga K "TooLong")) (.ref (He.ga K "TooLong")) = some true))
theorem xtOk_ok {K : PySem.W.Frag} (h : xtOk K = true) : XTl K := by
  unfold xtOk at h
  simp only [Bool.and_eq_true, decide_eq_true_eq] at h
  obtain ⟨h1, h2, h3⟩ := h
  exact ⟨xclB_ok h1, xinB_ok h2, h3⟩
theorem w_xf {a C dd : Addr} {cls : Value} {d : Option Addr} {f : Str} {σ : L2.St} {H : Hp} {Q : VK} {i : Nat} {fs : List (Str × V)} {v : V} (hσ : σ[i]? = some (some (.ref a))) (ec : cls = .ref C) (ed : d = some dd) (e : H dd = some (.xd fs)) (l : fs.lookup f = some v) (q : Q v H) : tXf a cls d C f (tVar i) σ H Q :=
  ⟨_, hσ, rfl, ec, dd, fs, v, ed, e, l, q⟩
end Fg
namespace Fg
open PySem PySem.Spec PyProof.Rows L2
local macro_rules | `(tactic| walk_at "len") => `(tactic| first | exact (fun ⟨e, _⟩ => by rw [e]; rfl) | (refine exL ?_; intro _; walk_at "len"))
/-! ### the text -/
def topS (i : Nat) : Stmt := PySem.Challenge.pw_forkgather_k10_whole_one_hand.main.body.getD i (.Pass ⟨0, 0, 0, 0⟩)
abbrev s_NoProgram___init__ : Stmt := inClass (topS 2) 0
abbrev s_NoHelper___init__ : Stmt := inClass (topS 3) 0
abbrev s_TooLong___init__ : Stmt := inClass (topS 4) 0
abbrev s_is_whole : Stmt := topS 9
abbrev s_is_name : Stmt := topS 10
abbrev s_is_expression : Stmt := topS 11
abbrev s_is_step : Stmt := topS 12
abbrev s_has_form : Stmt := topS 13
abbrev s_first_wrong : Stmt := topS 14
abbrev s_check : Stmt := topS 15
abbrev s_Outcome___init__ : Stmt := inClass (topS 17) 0
abbrev s_Outcome___eq__ : Stmt := inClass (topS 17) 1
abbrev s_Outcome___len__ : Stmt := inClass (topS 17) 2
abbrev s_Outcome___repr__ : Stmt := inClass (topS 17) 3
abbrev s_Record___init__ : Stmt := inClass (topS 18) 0
abbrev s_Frame___init__ : Stmt := inClass (topS 19) 0
abbrev s_reckon : Stmt := topS 20
abbrev s_start_cells : Stmt := topS 21
abbrev s_not_nought : Stmt := topS 22
abbrev s_helper_rows : Stmt := topS 23
abbrev s_step_done : Stmt := topS 24
abbrev s_trace : Stmt := topS 25
abbrev s_run : Stmt := topS 26
abbrev s__law_cell_at : Stmt := topS 28
abbrev s__law_stir : Stmt := topS 29
abbrev s__law_well : Stmt := topS 30
abbrev s__law_draw : Stmt := topS 31
abbrev s__law_new_name : Stmt := topS 32
abbrev s__law_number : Stmt := topS 33
abbrev s__law_expression : Stmt := topS 34
abbrev s__law_step : Stmt := topS 35
abbrev s__law_program : Stmt := topS 36
abbrev s__law_worth : Stmt := topS 37
abbrev s__law_made : Stmt := topS 38
abbrev s__law_do : Stmt := topS 39
abbrev s__law_ran : Stmt := topS 40
abbrev s__law_cells : Stmt := topS 41
abbrev s__law_held : Stmt := topS 42
abbrev s__law_gifts : Stmt := topS 43
abbrev s__law_wholes : Stmt := topS 44
abbrev s__law_asked : Stmt := topS 45
abbrev s_law : Stmt := topS 46
/-! ### the head -/
def d_NoProgram___init__ : He.DefD := ⟨("NoProgram", some "__init__"), "__init__", "NoProgram.__init__", defArgs s_NoProgram___init__, defBody s_NoProgram___init__, defScope s_NoProgram___init__, [], []⟩
def d_NoHelper___init__ : He.DefD := ⟨("NoHelper", some "__init__"), "__init__", "NoHelper.__init__", defArgs s_NoHelper___init__, defBody s_NoHelper___init__, defScope s_NoHelper___init__, [], []⟩
def d_TooLong___init__ : He.DefD := ⟨("TooLong", some "__init__"), "__init__", "TooLong.__init__", defArgs s_TooLong___init__, defBody s_TooLong___init__, defScope s_TooLong___init__, [], []⟩
def d_is_whole : He.DefD := ⟨("is_whole", none), "is_whole", "is_whole", defArgs s_is_whole, defBody s_is_whole, defScope s_is_whole, [], []⟩
def d_is_name : He.DefD := ⟨("is_name", none), "is_name", "is_name", defArgs s_is_name, defBody s_is_name, defScope s_is_name, [], []⟩
def d_is_expression : He.DefD := ⟨("is_expression", none), "is_expression", "is_expression", defArgs s_is_expression, defBody s_is_expression, defScope s_is_expression, [.int 5], []⟩
def d_is_step : He.DefD := ⟨("is_step", none), "is_step", "is_step", defArgs s_is_step, defBody s_is_step, defScope s_is_step, [], []⟩
def d_has_form : He.DefD := ⟨("has_form", none), "has_form", "has_form", defArgs s_has_form, defBody s_has_form, defScope s_has_form, [], []⟩
def d_first_wrong : He.DefD := ⟨("first_wrong", none), "first_wrong", "first_wrong", defArgs s_first_wrong, defBody s_first_wrong, defScope s_first_wrong, [], []⟩
def d_check : He.DefD := ⟨("check", none), "check", "check", defArgs s_check, defBody s_check, defScope s_check, [], []⟩
def d_Outcome___init__ : He.DefD := ⟨("Outcome", some "__init__"), "__init__", "Outcome.__init__", defArgs s_Outcome___init__, defBody s_Outcome___init__, defScope s_Outcome___init__, [], []⟩
def d_Outcome___len__ : He.DefD := ⟨("Outcome", some "__len__"), "__len__", "Outcome.__len__", defArgs s_Outcome___len__, defBody s_Outcome___len__, defScope s_Outcome___len__, [], []⟩
def d_Record___init__ : He.DefD := ⟨("Record", some "__init__"), "__init__", "Record.__init__", defArgs s_Record___init__, defBody s_Record___init__, defScope s_Record___init__, [], []⟩
def d_Frame___init__ : He.DefD := ⟨("Frame", some "__init__"), "__init__", "Frame.__init__", defArgs s_Frame___init__, defBody s_Frame___init__, defScope s_Frame___init__, [], []⟩
def d_reckon : He.DefD := ⟨("reckon", none), "reckon", "reckon", defArgs s_reckon, defBody s_reckon, defScope s_reckon, [.non], []⟩
def d_start_cells : He.DefD := ⟨("start_cells", none), "start_cells", "start_cells", defArgs s_start_cells, defBody s_start_cells, defScope s_start_cells, [], []⟩
def d_not_nought : He.DefD := ⟨("not_nought", none), "not_nought", "not_nought", defArgs s_not_nought, defBody s_not_nought, defScope s_not_nought, [], []⟩
def d_helper_rows : He.DefD := ⟨("helper_rows", none), "helper_rows", "helper_rows", defArgs s_helper_rows, defBody s_helper_rows, defScope s_helper_rows, [], []⟩
def d_step_done : He.DefD := ⟨("step_done", none), "step_done", "step_done", defArgs s_step_done, defBody s_step_done, defScope s_step_done, [], []⟩
def d_trace : He.DefD := ⟨("trace", none), "trace", "trace", defArgs s_trace, defBody s_trace, defScope s_trace, [], []⟩
def d_run : He.DefD := ⟨("run", none), "run", "run", defArgs s_run, defBody s_run, defScope s_run, [.str "main", .int 0, .non, .int 2000], []⟩
def d__law_cell_at : He.DefD := ⟨("_law_cell_at", none), "_law_cell_at", "_law_cell_at", defArgs s__law_cell_at, defBody s__law_cell_at, defScope s__law_cell_at, [], []⟩
def d__law_stir : He.DefD := ⟨("_law_stir", none), "_law_stir", "_law_stir", defArgs s__law_stir, defBody s__law_stir, defScope s__law_stir, [], []⟩
def d__law_well : He.DefD := ⟨("_law_well", none), "_law_well", "_law_well", defArgs s__law_well, defBody s__law_well, defScope s__law_well, [], []⟩
def d__law_draw : He.DefD := ⟨("_law_draw", none), "_law_draw", "_law_draw", defArgs s__law_draw, defBody s__law_draw, defScope s__law_draw, [], []⟩
def d__law_new_name : He.DefD := ⟨("_law_new_name", none), "_law_new_name", "_law_new_name", defArgs s__law_new_name, defBody s__law_new_name, defScope s__law_new_name, [], []⟩
def d__law_number : He.DefD := ⟨("_law_number", none), "_law_number", "_law_number", defArgs s__law_number, defBody s__law_number, defScope s__law_number, [], []⟩
def d__law_expression : He.DefD := ⟨("_law_expression", none), "_law_expression", "_law_expression", defArgs s__law_expression, defBody s__law_expression, defScope s__law_expression, [], []⟩
def d__law_step : He.DefD := ⟨("_law_step", none), "_law_step", "_law_step", defArgs s__law_step, defBody s__law_step, defScope s__law_step, [], []⟩
def d__law_program : He.DefD := ⟨("_law_program", none), "_law_program", "_law_program", defArgs s__law_program, defBody s__law_program, defScope s__law_program, [], []⟩
def d__law_worth : He.DefD := ⟨("_law_worth", none), "_law_worth", "_law_worth", defArgs s__law_worth, defBody s__law_worth, defScope s__law_worth, [], []⟩
def d__law_made : He.DefD := ⟨("_law_made", none), "_law_made", "_law_made", defArgs s__law_made, defBody s__law_made, defScope s__law_made, [], []⟩
def d__law_do : He.DefD := ⟨("_law_do", none), "_law_do", "_law_do", defArgs s__law_do, defBody s__law_do, defScope s__law_do, [], []⟩
def d__law_ran : He.DefD := ⟨("_law_ran", none), "_law_ran", "_law_ran", defArgs s__law_ran, defBody s__law_ran, defScope s__law_ran, [], []⟩
def d__law_cells : He.DefD := ⟨("_law_cells", none), "_law_cells", "_law_cells", defArgs s__law_cells, defBody s__law_cells, defScope s__law_cells, [], []⟩
def d__law_held : He.DefD := ⟨("_law_held", none), "_law_held", "_law_held", defArgs s__law_held, defBody s__law_held, defScope s__law_held, [], []⟩
def d__law_gifts : He.DefD := ⟨("_law_gifts", none), "_law_gifts", "_law_gifts", defArgs s__law_gifts, defBody s__law_gifts, defScope s__law_gifts, [], []⟩
def d__law_wholes : He.DefD := ⟨("_law_wholes", none), "_law_wholes", "_law_wholes", defArgs s__law_wholes, defBody s__law_wholes, defScope s__law_wholes, [], []⟩
def d__law_asked : He.DefD := ⟨("_law_asked", none), "_law_asked", "_law_asked", defArgs s__law_asked, defBody s__law_asked, defScope s__law_asked, [], []⟩
def d_law : He.DefD := ⟨("law", none), "law", "law", defArgs s_law, defBody s_law, defScope s_law, [], []⟩
def fn : List He.DefD := [d_is_whole, d_is_name, d_is_expression, d_is_step, d_has_form, d_first_wrong, d_check, d_reckon, d_start_cells, d_not_nought, d_helper_rows, d_step_done, d_trace, d_run, d__law_cell_at, d__law_stir, d__law_well, d__law_draw, d__law_new_name, d__law_number, d__law_expression, d__law_step, d__law_program, d__law_worth, d__law_made, d__law_do, d__law_ran, d__law_cells, d__law_held, d__law_gifts, d__law_wholes, d__law_asked, d_law, d_NoHelper___init__, d_NoProgram___init__, d_TooLong___init__, d_Record___init__, d_Frame___init__, d_Outcome___init__, d_Outcome___len__]
def fa : List He.Fa := [.glo "is_whole", .glo "is_name", .glo "is_expression", .glo "is_step", .glo "has_form", .glo "first_wrong", .glo "check", .glo "reckon", .glo "start_cells", .glo "not_nought", .glo "helper_rows", .glo "step_done", .glo "trace", .glo "run", .glo "_law_cell_at", .glo "_law_stir", .glo "_law_well", .glo "_law_draw", .glo "_law_new_name", .glo "_law_number", .glo "_law_expression", .glo "_law_step", .glo "_law_program", .glo "_law_worth", .glo "_law_made", .glo "_law_do", .glo "_law_ran", .glo "_law_cells", .glo "_law_held", .glo "_law_gifts", .glo "_law_wholes", .glo "_law_asked", .glo "law", .glo "WorkError", .glo "NoProgram", .glo "NoHelper", .glo "TooLong", .glo "Outcome", .glo "Record", .glo "Frame", .free "ValueError", .free "all", .free "isinstance", .free "int", .free "min", .free "sorted", .free "dict", .free "range", .free "max", .free "len", .free "list", .free "enumerate", .free "set", .free "bool", .free "str", .free "tuple", .free "zip", .cls "Frame", .noat "Frame" "number", .noat "Frame" "path", .noat "Frame" "rows", .noat "Frame" "arg", .noat "Frame" "at", .noat "Frame" "past", .noat "Frame" "born", .cls "Record", .noat "Record" "mark", .noat "Record" "word", .noat "Record" "doer", .noat "Record" "child", .noat "Record" "reads", .noat "Record" "writes", .cls "Outcome", .noat "Outcome" "cells", .noat "Outcome" "given", .noat "Outcome" "steps", .noat "Outcome" "deepest", .mkr "Record", .mkr "Frame", .mkr "Outcome", .meth "Outcome" "__len__", .str "LETTERS" letters, .int "LONGEST_NAME" 8, .glo "PARTS"]
def ts : List He.Tab := [(fun K => He.ga K "PARTS", partK)]
def ex (K : PySem.W.Frag) : Bool := He.valsB K (He.ga K "PARTS") partV && (xtOk K && (xclB K (He.ga K "NoHelper") && (xinB K (He.ga K "NoHelper") ["name"] && (xclB K (He.ga K "NoProgram") && (xinB K (He.ga K "NoProgram") ["helper", "at"] && (xclB K (He.ga K "TooLong") && (xinB K (He.ga K "TooLong") ["most"])))))))
abbrev R0 : PySem.W.OpenRow := PySem.W.OpenLaw.row PySem.Challenge.rw_forkgather_k10_whole_one_hand
abbrev hk : PySem.W.Hook := He.hookX 5 fa fn ts [] ex
def ob (s : PySem.W.SharedT) : He.AlX := He.obsX 5 fa fn ts [] ex (HandSHeadRun.getT s)
theorem ob_eq (s : PySem.W.SharedT) : ob s = hk.obs s.abs := He.obsX_eq (HandSHeadRun.getT_eq s)
def names : List Str := [Str.ofString "WorkError", Str.ofString "NoProgram", Str.ofString "NoHelper", Str.ofString "TooLong", Str.ofString "LETTERS", Str.ofString "LONGEST_NAME", Str.ofString "PARTS", Str.ofString "is_whole", Str.ofString "is_name", Str.ofString "is_expression", Str.ofString "is_step", Str.ofString "has_form", Str.ofString "first_wrong", Str.ofString "check", Str.ofString "Outcome", Str.ofString "Record", Str.ofString "Frame", Str.ofString "reckon", Str.ofString "start_cells", Str.ofString "not_nought", Str.ofString "helper_rows", Str.ofString "step_done", Str.ofString "trace", Str.ofString "run", Str.ofString "_law_cell_at", Str.ofString "_law_stir", Str.ofString "_law_well", Str.ofString "_law_draw", Str.ofString "_law_new_name", Str.ofString "_law_number", Str.ofString "_law_expression", Str.ofString "_law_step", Str.ofString "_law_program", Str.ofString "_law_worth", Str.ofString "_law_made", Str.ofString "_law_do", Str.ofString "_law_ran", Str.ofString "_law_cells", Str.ofString "_law_held", Str.ofString "_law_gifts", Str.ofString "_law_wholes", Str.ofString "_law_asked"]
theorem run_f (w : World) : HandSHeadRun.RunEq R0 (PySem.W.view R0.prog [46]) hk ob 6000 names (w.withFollow "special-get-raises" false) := fun os => by kernel_rfl
theorem run_t (w : World) : HandSHeadRun.RunEq R0 (PySem.W.view R0.prog [46]) hk ob 6000 names (w.withFollow "special-get-raises" true) := fun os => by kernel_rfl
theorem run (w : World) : HandSHeadRun.RunEq R0 (PySem.W.view R0.prog [46]) hk ob 6000 names w :=
  PySem.W.byRow2 "special-get-raises" (P := fun w => HandSHeadRun.RunEq R0 (PySem.W.view R0.prog [46]) hk ob 6000 names w) run_f run_t w
end Fg
namespace Fg
open PySem PySem.Spec PyProof.Rows L2
/-! ### the walk's small steps -/
local macro_rules | `(tactic| walk_at "hp") => `(tactic| first
  | assumption
  | exact upd_same
  | (refine Chg.at (by assumption) ?_; walk_at "hp")
  | (refine Chg.at1 (by assumption) ?_ (by walk_at "ne"); walk_at "hp"))
local macro_rules | `(tactic| walk_at "ne") => `(tactic| first | assumption | (apply Ne.symm; assumption))
local macro_rules | `(tactic| walk_at "sq") => `(tactic| first | assumption | exact sqL (by walk_at "hp") | (refine Chg.seq (by assumption) ?_; walk_at "sq"))
local macro_rules | `(tactic| walk_at "sz") => `(tactic| first | assumption | exact Nat.zero_le _ | (simp only [List.length_cons, List.length_nil]; decide) | exact Nat.le_trans (by first | omega | (simp; done) | (simp; omega)) (show 100000 ≤ sizeLine by decide) | exact Nat.lt_of_lt_of_le (by first | omega | (simp; done) | (simp; omega)) (show 100000 ≤ sizeLine by decide))
local macro_rules | `(tactic| walk_at "ix") => `(tactic| first | exact at0 | exact at1 | exact at2 | exact at3 | assumption | exact rfl | walk_at "ix2")
local macro_rules | `(tactic| walk_at "ix2") => `(tactic| fail)
local macro_rules | `(tactic| walk_at "num") => `(tactic| first | assumption | omega | decide | walk_at "num2")
local macro_rules | `(tactic| walk_at "num2") => `(tactic| fail)
local macro_rules | `(tactic| walk_at "im") => `(tactic| first | assumption | exact R.non (S := fun _ => False) | exact R.bl (S := fun _ => False) _ | exact R.int (S := fun _ => False) _ | exact R.str (S := fun _ => False) _ | (refine R.im (by assumption) ?_; walk_at "im"))
local macro_rules | `(tactic| walk_at "r") => `(tactic| first | assumption | exact R.non (S := fun _ => False) | exact R.bl (S := fun _ => False) _ | exact R.int (S := fun _ => False) _ | exact R.str (S := fun _ => False) _ | (refine R.same (by assumption) ?_; walk_at "r") | exact R.any (by walk_at "im"))
local macro_rules | `(tactic| walk_at "chg") => `(tactic| first
  | exact Chg.refl
  | assumption
  | (refine Chg.same ?_ (by assumption); walk_at "chg")
  | (refine Chg.both ?_ (by assumption); walk_at "chg")
  | (refine Chg.pre (by assumption) ?_; walk_at "chg"))
local macro_rules | `(tactic| walk_at "w1") => `(tactic| first
  | with_reducible apply w_seq
  | with_reducible apply w_asg
  | ((with_reducible apply w_var); (focus (exact rfl)))
  | with_reducible apply w_c
  | with_reducible apply w_op
  | with_reducible apply w_cons
  | with_reducible apply w_nil
  | with_reducible apply w_gName
  | with_reducible apply w_if
  | with_reducible apply w_test
  | with_reducible apply w_B
  | with_reducible apply w_isbl
  | with_reducible apply w_retN
  | with_reducible apply w_next
  | with_reducible apply w_drop
  | with_reducible apply w_cb
  | with_reducible apply w_call
  | with_reducible apply w_callN
  | with_reducible apply w_bm
  | with_reducible apply w_bm0
  | ((with_reducible apply w_tyL); (focus (walk_at "hp"; done)))
  | with_reducible apply w_dput
  | with_reducible apply w_m1
  | with_reducible apply w_isstr
  | with_reducible apply w_and
  | with_reducible apply w_or
  | with_reducible apply w_not
  | with_reducible apply w_andV
  | with_reducible apply w_orV
  | with_reducible apply w_notV
  | with_reducible apply w_ifE
  | with_reducible apply w_chain
  | with_reducible apply w_un
  | with_reducible apply w_neg
  | with_reducible apply w_add
  | with_reducible apply w_sub
  | ((with_reducible apply w_mod); (focus (walk_at "num"; done)))
  | ((with_reducible apply w_mul); (focus (walk_at "num"; done)))
  | ((with_reducible apply w_fdiv); (focus (walk_at "num"; done)))
  | ((with_reducible apply w_pow); (focus (walk_at "num"; done)))
  | with_reducible apply w_lt
  | with_reducible apply w_le
  | with_reducible apply w_gt
  | with_reducible apply w_ge
  | with_reducible apply w_ltS
  | with_reducible apply w_geS
  | with_reducible apply w_inC
  | with_reducible apply w_notInC
  | with_reducible apply w_isN
  | with_reducible apply w_notN
  | with_reducible apply w_isB
  | with_reducible apply w_notB
  | ((with_reducible apply w_addS); (focus (walk_at "sz"; done)))
  | ((with_reducible apply w_ixL); (focus (walk_at "sq"; done)); (focus (walk_at "ix"; done)))
  | ((with_reducible apply w_ixT); (focus (walk_at "hp"; done)); (focus (walk_at "ix"; done)))
  | ((with_reducible apply w_ixS); (focus (walk_at "sz"; done)); (focus (walk_at "ix"; done)))
  | with_reducible apply w_gSub
  | ((with_reducible apply w_gTup); (focus (walk_at "hp"; done)); (focus (exact rfl)))
  | with_reducible apply w_gCons
  | with_reducible apply w_gNil
  | ((with_reducible apply w_aug); (focus (exact rfl)))
  | with_reducible apply w_ipI
  | ((with_reducible apply w_eq); (focus (exact rfl)))
  | ((with_reducible apply w_ne); (focus (exact rfl)))
  | with_reducible apply w_max
  | with_reducible apply w_min
  | with_reducible apply w_abs
  | with_reducible apply w_intB
  | with_reducible apply w_intI
  | with_reducible apply w_tup1
  | with_reducible apply w_lst1
  | with_reducible apply w_sl
  | with_reducible apply w_part
  | with_reducible apply w_noPart
  | with_reducible apply w_isint
  | ((with_reducible apply w_slS); (focus (walk_at "sz"; done)))
  | with_reducible apply w_iteT
  | with_reducible apply w_iteF
  | with_reducible apply w_iteN
  | ((with_reducible apply w_iteYes); (focus (exact rfl)))
  | ((with_reducible apply w_iteNo); (focus (exact rfl)))
  | ((with_reducible apply w_lenL); (focus (walk_at "sq"; done)))
  | ((with_reducible apply w_lenT); (focus (walk_at "hp"; done)))
  | ((with_reducible apply w_lenS); (focus (walk_at "sz"; done)))
  | with_reducible apply w_lc
  | with_reducible apply w_for
  | with_reducible apply w_yes
  | ((with_reducible apply w_wipe); (focus (exact rfl)))
  | with_reducible apply w_iList
  | with_reducible apply w_iTup
  | with_reducible apply w_iStr
  | with_reducible apply w_iRng1
  | with_reducible apply w_iRng2
  | with_reducible apply w_iZip
  | with_reducible apply w_iEnum
  | ((with_reducible apply d_iList); (focus (walk_at "sq"; done)))
  | ((with_reducible apply d_iTup); (focus (walk_at "hp"; done)))
  | with_reducible apply d_iStr
  | ((with_reducible apply d_iRng1); (focus (walk_at "num"; done)); (focus (walk_at "num"; done)))
  | ((with_reducible apply d_iRng2); (focus (walk_at "num"; done)); (focus (walk_at "num"; done)); (focus (walk_at "num"; done)); (focus (walk_at "num"; done)))
  | ((with_reducible apply d_iZip); (focus (walk_at "sq"; done)); (focus (walk_at "sq"; done)))
  | ((with_reducible apply d_iEnum); (focus (walk_at "sq"; done)))
  | walk_at "w2")
local macro_rules | `(tactic| walk_at "w2") => `(tactic| fail)
local macro_rules | `(tactic| walk_at "wn") => `(tactic| repeat walk_at "w1")
local macro_rules | `(tactic| walk_at "w") => `(tactic| repeat (first | walk_at "w1" | with_reducible apply w_ret))

local macro_rules | `(tactic| walk_at "w2") => `(tactic| first
  | ((with_reducible apply w_isInt); (focus (walk_at "r"; done)))
  | ((with_reducible apply w_isBool); (focus (walk_at "r"; done)))
  | ((with_reducible apply w_isStr); (focus (walk_at "r"; done)))
  | ((with_reducible apply w_isTup); (focus (walk_at "r"; done)))
  | ((with_reducible apply w_isLst); (focus (walk_at "r"; done)))
  | ((with_reducible apply w_notInP); (focus (assumption)))
  | ((with_reducible apply w_ixP); (focus (assumption)); (focus (assumption))))

abbrev fin (Q : VK) : Ends := { nx := fun _ H' => Q .non H', rt := Q }
def t_is_whole (K : PySem.W.Frag) : TS :=
    tRet (tAndV (tCB (rIsi K) (tCons (tVar 0) (tCons (tC (.ty "int")) (tNil)))) (tNotV (tCB (rIsi K) (tCons (tVar 0) (tCons (tC (.ty "bool")) (tNil))))))
def sp_is_whole : Sp := fun vs H Q _ => ∃ (v : V) (d : PyData) (S : Addr → Prop), vs = [v] ∧ R S H v d ∧ Q (.bl (isWhole d)) H
theorem pure_is_whole {K : PySem.W.Frag} (vs : List V) (H : Hp) (Q : VK) (E : XK) (h : sp_is_whole vs H Q E) : t_is_whole K (fin Q) (start ["thing"] vs) H := by
  obtain ⟨v, d, S, rfl, r, q⟩ := h
  show t_is_whole K _ [some v] H
  unfold t_is_whole
  walk_at "w"
  cases d <;> (walk_at "w"; exact q)
def t_is_name (K : PySem.W.Frag) : TS :=
    tSeq (tIfS (tOr (tNot (tB (tCB (rIsi K) (tCons (tVar 0) (tCons (tC (.ty "str")) (tNil)))))) (tOr (tTest (tOp oLt (tCB cLenS (tCons (tVar 0) (tNil))) (tC (.int 1)))) (tTest (tOp oGt (tCB cLenS (tCons (tVar 0) (tNil))) (tC (.int 8)))))) (tRet (tC (.bl false))) (tNext))
    (tRet (tCB (rAll K) (tCons (tLc (iStr (tVar 0)) (gName 1) (tYes) (tOp oInC (tVar 1) (tC (.str letters))) [1]) (tNil))))
def sp_is_name : Sp := fun vs H Q _ => ∃ (v : V) (d : PyData) (S : Addr → Prop), vs = [v] ∧ R S H v d ∧ (∀ x, d = .str x → x.length ≤ 100000) ∧ ∀ H', Chg [] H H' → Q (.bl (isName d)) H'
theorem pure_is_name {K : PySem.W.Frag} (vs : List V) (H : Hp) (Q : VK) (E : XK) (h : sp_is_name vs H Q E) : t_is_name K (fin Q) (start ["thing", "sign"] vs) H := by
  obtain ⟨v, d, S, rfl, r, hx, q⟩ := h
  show t_is_name K _ [some v, none] H
  unfold t_is_name
  walk_at "w"
  have q0 := q H .refl
  cases r with
  | str x =>
    have hz := hx x rfl
    walk_at "w"
    refine w_iteD (fun h => ?_) (fun h => ?_)
    · walk_at "w"
      have e : isName (.str x) = false := by
        show (decide (1 ≤ x.length) && decide (x.length ≤ 8) && x.cps.toList.all isLow) = false
        rw [decide_eq_false (by omega)]
        rfl
      rw [e] at q0
      exact q0
    walk_at "w"
    refine w_iteD (fun h2 => ?_) (fun h2 => ?_)
    · walk_at "w"
      have e : isName (.str x) = false := by
        show (decide (1 ≤ x.length) && decide (x.length ≤ 8) && x.cps.toList.all isLow) = false
        rw [decide_eq_false (p := x.length ≤ 8) (by omega), Bool.and_false]
        rfl
      rw [e] at q0
      exact q0
    walk_at "w"
    have hl : x.cps.size ≤ 100000 := hz
    refine w_lcP walk_str [] (fun _ _ => True) (fun i y _ => ∃ c, x.cps[i]? = some c ∧ y = .bl (isLow c)) trivial (fun _ _ _ _ _ _ _ => trivial) (fun _ _ => trivial) (fun D i acc z H1 H2 hi nD hD el iv c _ y => ?_) (fun D acc H1 nD c _ el hD ys => ?_)
    · obtain ⟨rfl, ch, ec, rfl⟩ := y
      walk_at "w"
      exact lcp_end (fun _ _ _ _ _ _ _ => trivial) (fun _ _ _ _ _ _ _ h => h) nD (by simp) hD el (by omega) iv .refl trivial ⟨ch, ec, rfl⟩
    · have e : acc = (x.cps.toList.map isLow).map V.bl := by
        refine all_bl el (by simp) fun i y hy => ?_
        obtain ⟨ch, ec, rfl⟩ := ys i y hy
        refine ⟨isLow ch, ?_, rfl⟩
        rw [List.getElem?_map, Array.getElem?_toList, ec]
        rfl
      subst e
      walk_at "w"
      refine w_all hD ?_
      have e2 : (x.cps.toList.map isLow).all id = isName (.str x) := by
        show _ = (decide (1 ≤ x.length) && decide (x.length ≤ 8) && x.cps.toList.all isLow)
        rw [decide_eq_true (by omega), decide_eq_true (by omega), List.all_map]
        rfl
      walk_at "w"
      rw [e2]
      exact q H1 c
  | _ => 
    walk_at "w"
    exact q0
end Fg
namespace Fg
open PySem PySem.Spec PyProof.Rows L2
/-! ### the walk's small steps -/
local macro_rules | `(tactic| walk_at "hp") => `(tactic| first
  | assumption
  | exact upd_same
  | (refine Chg.at (by assumption) ?_; walk_at "hp")
  | (refine Chg.at1 (by assumption) ?_ (by walk_at "ne"); walk_at "hp"))
local macro_rules | `(tactic| walk_at "ne") => `(tactic| first | assumption | (apply Ne.symm; assumption))
local macro_rules | `(tactic| walk_at "sq") => `(tactic| first | assumption | exact sqL (by walk_at "hp") | (refine Chg.seq (by assumption) ?_; walk_at "sq"))
local macro_rules | `(tactic| walk_at "sz") => `(tactic| first | assumption | exact Nat.zero_le _ | (simp only [List.length_cons, List.length_nil]; decide) | exact Nat.le_trans (by first | omega | (simp; done) | (simp; omega)) (show 100000 ≤ sizeLine by decide) | exact Nat.lt_of_lt_of_le (by first | omega | (simp; done) | (simp; omega)) (show 100000 ≤ sizeLine by decide))
local macro_rules | `(tactic| walk_at "ix") => `(tactic| first | exact at0 | exact at1 | exact at2 | exact at3 | assumption | exact rfl | walk_at "ix2")
local macro_rules | `(tactic| walk_at "ix2") => `(tactic| fail)
local macro_rules | `(tactic| walk_at "num") => `(tactic| first | assumption | omega | decide | walk_at "num2")
local macro_rules | `(tactic| walk_at "num2") => `(tactic| fail)
local macro_rules | `(tactic| walk_at "im") => `(tactic| first | assumption | exact R.non (S := fun _ => False) | exact R.bl (S := fun _ => False) _ | exact R.int (S := fun _ => False) _ | exact R.str (S := fun _ => False) _ | (refine R.im (by assumption) ?_; walk_at "im"))
local macro_rules | `(tactic| walk_at "r") => `(tactic| first | assumption | exact R.non (S := fun _ => False) | exact R.bl (S := fun _ => False) _ | exact R.int (S := fun _ => False) _ | exact R.str (S := fun _ => False) _ | (refine R.same (by assumption) ?_; walk_at "r") | exact R.any (by walk_at "im"))
local macro_rules | `(tactic| walk_at "chg") => `(tactic| first
  | exact Chg.refl
  | assumption
  | (refine Chg.same ?_ (by assumption); walk_at "chg")
  | (refine Chg.both ?_ (by assumption); walk_at "chg")
  | (refine Chg.pre (by assumption) ?_; walk_at "chg"))
local macro_rules | `(tactic| walk_at "w1") => `(tactic| first
  | with_reducible apply w_seq
  | with_reducible apply w_asg
  | ((with_reducible apply w_var); (focus (exact rfl)))
  | with_reducible apply w_c
  | with_reducible apply w_op
  | with_reducible apply w_cons
  | with_reducible apply w_nil
  | with_reducible apply w_gName
  | with_reducible apply w_if
  | with_reducible apply w_test
  | with_reducible apply w_B
  | with_reducible apply w_isbl
  | with_reducible apply w_retN
  | with_reducible apply w_next
  | with_reducible apply w_drop
  | with_reducible apply w_cb
  | with_reducible apply w_call
  | with_reducible apply w_callN
  | with_reducible apply w_bm
  | with_reducible apply w_bm0
  | ((with_reducible apply w_tyL); (focus (walk_at "hp"; done)))
  | with_reducible apply w_dput
  | with_reducible apply w_m1
  | with_reducible apply w_isstr
  | with_reducible apply w_and
  | with_reducible apply w_or
  | with_reducible apply w_not
  | with_reducible apply w_andV
  | with_reducible apply w_orV
  | with_reducible apply w_notV
  | with_reducible apply w_ifE
  | with_reducible apply w_chain
  | with_reducible apply w_un
  | with_reducible apply w_neg
  | with_reducible apply w_add
  | with_reducible apply w_sub
  | ((with_reducible apply w_mod); (focus (walk_at "num"; done)))
  | ((with_reducible apply w_mul); (focus (walk_at "num"; done)))
  | ((with_reducible apply w_fdiv); (focus (walk_at "num"; done)))
  | ((with_reducible apply w_pow); (focus (walk_at "num"; done)))
  | with_reducible apply w_lt
  | with_reducible apply w_le
  | with_reducible apply w_gt
  | with_reducible apply w_ge
  | with_reducible apply w_ltS
  | with_reducible apply w_geS
  | with_reducible apply w_inC
  | with_reducible apply w_notInC
  | with_reducible apply w_isN
  | with_reducible apply w_notN
  | with_reducible apply w_isB
  | with_reducible apply w_notB
  | ((with_reducible apply w_addS); (focus (walk_at "sz"; done)))
  | ((with_reducible apply w_ixL); (focus (walk_at "sq"; done)); (focus (walk_at "ix"; done)))
  | ((with_reducible apply w_ixT); (focus (walk_at "hp"; done)); (focus (walk_at "ix"; done)))
  | ((with_reducible apply w_ixS); (focus (walk_at "sz"; done)); (focus (walk_at "ix"; done)))
  | with_reducible apply w_gSub
  | ((with_reducible apply w_gTup); (focus (walk_at "hp"; done)); (focus (exact rfl)))
  | with_reducible apply w_gCons
  | with_reducible apply w_gNil
  | ((with_reducible apply w_aug); (focus (exact rfl)))
  | with_reducible apply w_ipI
  | ((with_reducible apply w_eq); (focus (exact rfl)))
  | ((with_reducible apply w_ne); (focus (exact rfl)))
  | with_reducible apply w_max
  | with_reducible apply w_min
  | with_reducible apply w_abs
  | with_reducible apply w_intB
  | with_reducible apply w_intI
  | with_reducible apply w_tup1
  | with_reducible apply w_lst1
  | with_reducible apply w_sl
  | with_reducible apply w_part
  | with_reducible apply w_noPart
  | with_reducible apply w_isint
  | ((with_reducible apply w_slS); (focus (walk_at "sz"; done)))
  | with_reducible apply w_iteT
  | with_reducible apply w_iteF
  | with_reducible apply w_iteN
  | ((with_reducible apply w_iteYes); (focus (exact rfl)))
  | ((with_reducible apply w_iteNo); (focus (exact rfl)))
  | ((with_reducible apply w_lenL); (focus (walk_at "sq"; done)))
  | ((with_reducible apply w_lenT); (focus (walk_at "hp"; done)))
  | ((with_reducible apply w_lenS); (focus (walk_at "sz"; done)))
  | with_reducible apply w_lc
  | with_reducible apply w_for
  | with_reducible apply w_yes
  | ((with_reducible apply w_wipe); (focus (exact rfl)))
  | with_reducible apply w_iList
  | with_reducible apply w_iTup
  | with_reducible apply w_iStr
  | with_reducible apply w_iRng1
  | with_reducible apply w_iRng2
  | with_reducible apply w_iZip
  | with_reducible apply w_iEnum
  | ((with_reducible apply d_iList); (focus (walk_at "sq"; done)))
  | ((with_reducible apply d_iTup); (focus (walk_at "hp"; done)))
  | with_reducible apply d_iStr
  | ((with_reducible apply d_iRng1); (focus (walk_at "num"; done)); (focus (walk_at "num"; done)))
  | ((with_reducible apply d_iRng2); (focus (walk_at "num"; done)); (focus (walk_at "num"; done)); (focus (walk_at "num"; done)); (focus (walk_at "num"; done)))
  | ((with_reducible apply d_iZip); (focus (walk_at "sq"; done)); (focus (walk_at "sq"; done)))
  | ((with_reducible apply d_iEnum); (focus (walk_at "sq"; done)))
  | walk_at "w2")
local macro_rules | `(tactic| walk_at "w2") => `(tactic| fail)
local macro_rules | `(tactic| walk_at "wn") => `(tactic| repeat walk_at "w1")
local macro_rules | `(tactic| walk_at "w") => `(tactic| repeat (first | walk_at "w1" | with_reducible apply w_ret))

local macro_rules | `(tactic| walk_at "w2") => `(tactic| first
  | ((with_reducible apply w_isInt); (focus (walk_at "r"; done)))
  | ((with_reducible apply w_isBool); (focus (walk_at "r"; done)))
  | ((with_reducible apply w_isStr); (focus (walk_at "r"; done)))
  | ((with_reducible apply w_isTup); (focus (walk_at "r"; done)))
  | ((with_reducible apply w_isLst); (focus (walk_at "r"; done)))
  | ((with_reducible apply w_notInP); (focus (assumption)))
  | ((with_reducible apply w_ixP); (focus (assumption)); (focus (assumption))))

def sp_is_expression (n : Nat) : Sp := fun vs H Q _ => ∃ (v : V) (d : PyData) (S : Addr → Prop) (m : Nat), vs = [v, .int (m : Nat)] ∧ m + 1 ≤ n ∧ R S H v d ∧ ∀ H', Chg [] H H' → Q (.bl (isExpr m d)) H'
theorem no_is_expression (vs : List V) (H : Hp) (Q : VK) (E : XK) : ¬ sp_is_expression 0 vs H Q E := by
  rintro ⟨v, d, S, m, _, h, _⟩
  omega
def t_is_expression (K : PySem.W.Frag) (w : World) (dP : Addr) (n : Nat) : TS :=
    tSeq (tIfS (tTest (tOp oLt (tVar 1) (tC (.int 1)))) (tRet (tC (.bl false))) (tNext))
    (tSeq (tIfS (tB (tCall sp_is_whole [] E0 (tCons (tVar 0) (tNil)))) (tRet (tC (.bl true))) (tNext))
    (tSeq (tIfS (tOr (tNot (tB (tCB (rIsi K) (tCons (tVar 0) (tCons (tC (.ty "tuple")) (tNil)))))) (tOr (tTest (tOp oLt (tCB (cLenQ K) (tCons (tVar 0) (tNil))) (tC (.int 1)))) (tNot (tB (tCB (rIsi K) (tCons (tOp (rIxT K) (tVar 0) (tC (.int 0))) (tCons (tC (.ty "str")) (tNil)))))))) (tRet (tC (.bl false))) (tNext))
    (tSeq (tIfS (tOr (tTest (tOp (oNotInKd K dP) (tOp (rIxT K) (tVar 0) (tC (.int 0))) (tC (.ref dP)))) (tTest (tOp rNe (tCB (cLenQ K) (tCons (tVar 0) (tNil))) (tOp oAdd (tOp (rIxD K w) (tC (.ref dP)) (tOp (rIxT K) (tVar 0) (tC (.int 0)))) (tC (.int 1)))))) (tRet (tC (.bl false))) (tNext))
    (tRet (tCB (rAll K) (tCons (tLc (iTup K (tSl (rSlA K) (tVar 0) (tPart (tC (.int 1))) (tNoPart))) (gName 2) (tYes) (tCall (sp_is_expression n) [] E0 (tCons (tVar 2) (tCons (tOp oSub (tVar 1) (tC (.int 1))) (tNil)))) [2]) (tNil)))))))
theorem isExpr_none (m : Nat) : isExpr m .none = false := by cases m <;> rfl
theorem isExpr_bool (m : Nat) (b : Bool) : isExpr m (.bool b) = false := by cases m <;> rfl
theorem isExpr_str (m : Nat) (b : Str) : isExpr m (.str b) = false := by cases m <;> rfl
theorem isExpr_list (m : Nat) (b : List PyData) : isExpr m (.list b) = false := by cases m <;> rfl
theorem isExpr_dict (m : Nat) (b : List (PyData × PyData)) : isExpr m (.dict b) = false := by cases m <;> rfl
theorem pure_is_expression {K : PySem.W.Frag} {w : World} {dP : Addr} (T : Parts K w dP) (n : Nat) (vs : List V) (H : Hp) (Q : VK) (E : XK) (h : sp_is_expression (n + 1) vs H Q E) : t_is_expression K w dP n (fin Q) (start ["thing", "most", "one"] vs) H := by
  obtain ⟨v, d, S, m, rfl, hm, r, q⟩ := h
  show t_is_expression K w dP n _ [some v, some (.int (m : Nat)), none] H
  unfold t_is_expression
  have q0 := q H .refl
  walk_at "w"
  refine w_iteD (fun h => ?_) (fun h => ?_)
  · walk_at "w"
    have e : m = 0 := by omega
    subst e
    exact q0
  obtain ⟨k, rfl⟩ : ∃ k, m = k + 1 := ⟨m - 1, by omega⟩
  walk_at "w"
  refine ⟨v, d, S, rfl, r, ?_⟩
  walk_at "w"
  cases r with
  | int i => walk_at "w"; exact q0
  | non => walk_at "w"; exact q0
  | bl b => walk_at "w"; exact q0
  | str b => walk_at "w"; exact q0
  | lst s e a =>
    have r := R.lst s e a
    walk_at "w"; exact q0
  | dic s e =>
    have r := R.dic s e
    walk_at "w"; exact q0
  | @tup a xs ds e ra =>
    have r := R.tup e ra
    walk_at "w"
    cases ra with
    | nil =>
      walk_at "w"
      exact q0
    | @cons v0 vs0 d0 ds0 r0 rs =>
      refine w_iteD (fun h => ?_) (fun _ => ?_)
      · rw [List.length_cons] at h
        omega
      walk_at "w"
      cases r0 with
      | int i => walk_at "w"; exact q0
      | non => walk_at "w"; exact q0
      | bl b => walk_at "w"; exact q0
      | lst s1 e1 a1 =>
        have r := R.lst s1 e1 a1
        walk_at "w"; exact q0
      | dic s1 e1 =>
        have r := R.dic s1 e1
        walk_at "w"; exact q0
      | tup e1 a1 =>
        have r := R.tup e1 a1
        walk_at "w"; exact q0
      | str z =>
        walk_at "w"
        cases ez : partsOf z with
        | none =>
          walk_at "w"
          have e2 : isExpr (k + 1) (.tuple (.str z :: ds0)) = false := by
            unfold isExpr
            rw [ez]
          rw [e2] at q0
          exact q0
        | some pk =>
          walk_at "w"
          have ln := rs.length
          refine w_iteD (fun h => ?_) (fun h => ?_)
          · have h' : vs0.length = pk := by
              have := V.int.inj h
              rw [List.length_cons] at this
              omega
            have hp : pk ≤ 2 := by
              unfold partsOf at ez
              repeat (split at ez; · cases ez; omega)
              cases ez
            walk_at "w"
            refine w_slA e fun p' H2 c2 h2 => ?_
            rw [cut1] at h2
            walk_at "w"
            have rs2 := rs.same c2
            refine w_lcP walk_tup [] (fun _ _ => True) (fun i y _ => ∃ d, ds0[i]? = some d ∧ y = .bl (isExpr k d)) trivial (fun _ _ _ _ _ _ _ => trivial) (fun H1 c => sqT (c.at h2)) (fun D i acc z H1 H3 hi nD hD el iv c _ y => ?_) (fun D acc H1 nD c _ el hD ys => ?_)
            · obtain ⟨rfl, ey⟩ := y
              obtain ⟨d1, ed, r1⟩ := rs2.get (i := i) (v := z) ey
              walk_at "w"
              have e5 : (((k + 1 : Nat) : Int)) - 1 = (k : Nat) := by omega
              rw [e5]
              refine ⟨z, d1, S, k, rfl, by omega, r1.same c, fun H4 c4 => ?_⟩
              have hi' : i < 3 := by
                have : (vs0.length) ≤ 2 := by omega
                have h6 : i < vs0.length := hi
                omega
              exact lcp_end (fun _ _ _ _ _ _ _ => trivial) (fun _ _ _ _ _ _ _ h => h) nD (by simp) hD el (by omega) iv c4 trivial ⟨d1, ed, rfl⟩
            · have e3 : acc = (ds0.map (isExpr k)).map V.bl := by
                refine all_bl el (by rw [List.length_map]; exact ln.symm) fun i y hy => ?_
                obtain ⟨d1, ed, rfl⟩ := ys i y hy
                exact ⟨isExpr k d1, by rw [List.getElem?_map, ed]; rfl, rfl⟩
              subst e3
              walk_at "w"
              refine w_all hD ?_
              walk_at "w"
              have e4 : isExpr (k + 1) (.tuple (.str z :: ds0)) = (ds0.map (isExpr k)).all id := by
                rw [isExpr, ez]
                show (decide (ds0.length = pk) && ds0.all (isExpr k)) = _
                rw [decide_eq_true (by omega), List.all_map]
                rfl
              rw [← e4]
              exact q H1 (c2.same c)
          · walk_at "w"
            have e2 : isExpr (k + 1) (.tuple (.str z :: ds0)) = false := by
              rw [isExpr, ez]
              show (decide (ds0.length = pk) && ds0.all (isExpr k)) = false
              rw [decide_eq_false ?_]
              · rfl
              · intro h7
                apply h
                show V.int _ = V.int _
                congr 1
                rw [List.length_cons]
                omega
            rw [e2] at q0
            exact q0
end Fg
namespace Fg
open PySem PySem.Spec PyProof.Rows L2
/-! ### the walk's small steps -/
local macro_rules | `(tactic| walk_at "hp") => `(tactic| first
  | assumption
  | exact upd_same
  | (refine Chg.at (by assumption) ?_; walk_at "hp")
  | (refine Chg.at1 (by assumption) ?_ (by walk_at "ne"); walk_at "hp"))
local macro_rules | `(tactic| walk_at "ne") => `(tactic| first | assumption | (apply Ne.symm; assumption))
local macro_rules | `(tactic| walk_at "sq") => `(tactic| first | assumption | exact sqL (by walk_at "hp") | (refine Chg.seq (by assumption) ?_; walk_at "sq"))
local macro_rules | `(tactic| walk_at "sz") => `(tactic| first | assumption | exact Nat.zero_le _ | (simp only [List.length_cons, List.length_nil]; decide) | exact Nat.le_trans (by first | omega | (simp; done) | (simp; omega)) (show 100000 ≤ sizeLine by decide) | exact Nat.lt_of_lt_of_le (by first | omega | (simp; done) | (simp; omega)) (show 100000 ≤ sizeLine by decide))
local macro_rules | `(tactic| walk_at "ix") => `(tactic| first | exact at0 | exact at1 | exact at2 | exact at3 | assumption | exact rfl | walk_at "ix2")
local macro_rules | `(tactic| walk_at "ix2") => `(tactic| fail)
local macro_rules | `(tactic| walk_at "num") => `(tactic| first | assumption | omega | decide | walk_at "num2")
local macro_rules | `(tactic| walk_at "num2") => `(tactic| fail)
local macro_rules | `(tactic| walk_at "im") => `(tactic| first | assumption | exact R.non (S := fun _ => False) | exact R.bl (S := fun _ => False) _ | exact R.int (S := fun _ => False) _ | exact R.str (S := fun _ => False) _ | (refine R.im (by assumption) ?_; walk_at "im"))
local macro_rules | `(tactic| walk_at "r") => `(tactic| first | assumption | exact R.non (S := fun _ => False) | exact R.bl (S := fun _ => False) _ | exact R.int (S := fun _ => False) _ | exact R.str (S := fun _ => False) _ | (refine R.same (by assumption) ?_; walk_at "r") | exact R.any (by walk_at "im"))
local macro_rules | `(tactic| walk_at "chg") => `(tactic| first
  | exact Chg.refl
  | assumption
  | (refine Chg.same ?_ (by assumption); walk_at "chg")
  | (refine Chg.both ?_ (by assumption); walk_at "chg")
  | (refine Chg.pre (by assumption) ?_; walk_at "chg"))
local macro_rules | `(tactic| walk_at "w1") => `(tactic| first
  | with_reducible apply w_seq
  | with_reducible apply w_asg
  | ((with_reducible apply w_var); (focus (exact rfl)))
  | with_reducible apply w_c
  | with_reducible apply w_op
  | with_reducible apply w_cons
  | with_reducible apply w_nil
  | with_reducible apply w_gName
  | with_reducible apply w_if
  | with_reducible apply w_test
  | with_reducible apply w_B
  | with_reducible apply w_isbl
  | with_reducible apply w_retN
  | with_reducible apply w_next
  | with_reducible apply w_drop
  | with_reducible apply w_cb
  | with_reducible apply w_call
  | with_reducible apply w_callN
  | with_reducible apply w_bm
  | with_reducible apply w_bm0
  | ((with_reducible apply w_tyL); (focus (walk_at "hp"; done)))
  | with_reducible apply w_dput
  | with_reducible apply w_m1
  | with_reducible apply w_isstr
  | with_reducible apply w_and
  | with_reducible apply w_or
  | with_reducible apply w_not
  | with_reducible apply w_andV
  | with_reducible apply w_orV
  | with_reducible apply w_notV
  | with_reducible apply w_ifE
  | with_reducible apply w_chain
  | with_reducible apply w_un
  | with_reducible apply w_neg
  | with_reducible apply w_add
  | with_reducible apply w_sub
  | ((with_reducible apply w_mod); (focus (walk_at "num"; done)))
  | ((with_reducible apply w_mul); (focus (walk_at "num"; done)))
  | ((with_reducible apply w_fdiv); (focus (walk_at "num"; done)))
  | ((with_reducible apply w_pow); (focus (walk_at "num"; done)))
  | with_reducible apply w_lt
  | with_reducible apply w_le
  | with_reducible apply w_gt
  | with_reducible apply w_ge
  | with_reducible apply w_ltS
  | with_reducible apply w_geS
  | with_reducible apply w_inC
  | with_reducible apply w_notInC
  | with_reducible apply w_isN
  | with_reducible apply w_notN
  | with_reducible apply w_isB
  | with_reducible apply w_notB
  | ((with_reducible apply w_addS); (focus (walk_at "sz"; done)))
  | ((with_reducible apply w_ixL); (focus (walk_at "sq"; done)); (focus (walk_at "ix"; done)))
  | ((with_reducible apply w_ixT); (focus (walk_at "hp"; done)); (focus (walk_at "ix"; done)))
  | ((with_reducible apply w_ixS); (focus (walk_at "sz"; done)); (focus (walk_at "ix"; done)))
  | with_reducible apply w_gSub
  | ((with_reducible apply w_gTup); (focus (walk_at "hp"; done)); (focus (exact rfl)))
  | with_reducible apply w_gCons
  | with_reducible apply w_gNil
  | ((with_reducible apply w_aug); (focus (exact rfl)))
  | with_reducible apply w_ipI
  | ((with_reducible apply w_eq); (focus (exact rfl)))
  | ((with_reducible apply w_ne); (focus (exact rfl)))
  | with_reducible apply w_max
  | with_reducible apply w_min
  | with_reducible apply w_abs
  | with_reducible apply w_intB
  | with_reducible apply w_intI
  | with_reducible apply w_tup1
  | with_reducible apply w_lst1
  | with_reducible apply w_sl
  | with_reducible apply w_part
  | with_reducible apply w_noPart
  | with_reducible apply w_isint
  | ((with_reducible apply w_slS); (focus (walk_at "sz"; done)))
  | with_reducible apply w_iteT
  | with_reducible apply w_iteF
  | with_reducible apply w_iteN
  | ((with_reducible apply w_iteYes); (focus (exact rfl)))
  | ((with_reducible apply w_iteNo); (focus (exact rfl)))
  | ((with_reducible apply w_lenL); (focus (walk_at "sq"; done)))
  | ((with_reducible apply w_lenT); (focus (walk_at "hp"; done)))
  | ((with_reducible apply w_lenS); (focus (walk_at "sz"; done)))
  | with_reducible apply w_lc
  | with_reducible apply w_for
  | with_reducible apply w_yes
  | ((with_reducible apply w_wipe); (focus (exact rfl)))
  | with_reducible apply w_iList
  | with_reducible apply w_iTup
  | with_reducible apply w_iStr
  | with_reducible apply w_iRng1
  | with_reducible apply w_iRng2
  | with_reducible apply w_iZip
  | with_reducible apply w_iEnum
  | ((with_reducible apply d_iList); (focus (walk_at "sq"; done)))
  | ((with_reducible apply d_iTup); (focus (walk_at "hp"; done)))
  | with_reducible apply d_iStr
  | ((with_reducible apply d_iRng1); (focus (walk_at "num"; done)); (focus (walk_at "num"; done)))
  | ((with_reducible apply d_iRng2); (focus (walk_at "num"; done)); (focus (walk_at "num"; done)); (focus (walk_at "num"; done)); (focus (walk_at "num"; done)))
  | ((with_reducible apply d_iZip); (focus (walk_at "sq"; done)); (focus (walk_at "sq"; done)))
  | ((with_reducible apply d_iEnum); (focus (walk_at "sq"; done)))
  | walk_at "w2")
local macro_rules | `(tactic| walk_at "w2") => `(tactic| fail)
local macro_rules | `(tactic| walk_at "wn") => `(tactic| repeat walk_at "w1")
local macro_rules | `(tactic| walk_at "w") => `(tactic| repeat (first | walk_at "w1" | with_reducible apply w_ret))

local macro_rules | `(tactic| walk_at "w2") => `(tactic| first
  | ((with_reducible apply w_isInt); (focus (walk_at "r"; done)))
  | ((with_reducible apply w_isBool); (focus (walk_at "r"; done)))
  | ((with_reducible apply w_isStr); (focus (walk_at "r"; done)))
  | ((with_reducible apply w_isTup); (focus (walk_at "r"; done)))
  | ((with_reducible apply w_isLst); (focus (walk_at "r"; done)))
  | ((with_reducible apply w_notInP); (focus (assumption)))
  | ((with_reducible apply w_ixP); (focus (assumption)); (focus (assumption))))

/-! all texts in it are short -/
mutual
def smallD : PyData → Bool
  | .str x => decide (x.length ≤ 100000)
  | .list ds => smallDs ds
  | .tuple ds => smallDs ds
  | _ => true
def smallDs : List PyData → Bool
  | [] => true
  | d :: ds => smallD d && smallDs ds
end
theorem smallDs_all : ∀ {ds : List PyData}, smallDs ds = true → ∀ d ∈ ds, smallD d = true
  | [], _, d, h => by cases h
  | e :: es, h, d, hd => by
    obtain ⟨h1, h2⟩ := Bool.and_eq_true_iff.mp (show (smallD e && smallDs es) = true from h)
    rcases List.mem_cons.mp hd with rfl | hd
    · exact h1
    · exact smallDs_all h2 d hd
theorem smallD_str {d : PyData} (h : smallD d = true) (x : Str) (e : d = .str x) : x.length ≤ 100000 := by
  subst e
  exact of_decide_eq_true h
section
variable {K : PySem.W.Frag} {H : Hp} {Q : VK} {p : Addr} {xs : List V} {x : V}
theorem w_inL (h : SqL K H p xs) (hx : flatV x = true) (hs : xs.all flatV = true) (q : Q (.bl (inV x xs)) H) : rIn K false x (.ref p) H Q := ⟨p, xs, rfl, .inl h, hx, hs, q⟩
theorem w_notInL (h : SqL K H p xs) (hx : flatV x = true) (hs : xs.all flatV = true) (q : Q (.bl (!inV x xs)) H) : rIn K true x (.ref p) H Q := ⟨p, xs, rfl, .inl h, hx, hs, q⟩
theorem w_inT (h : H p = some (.tup xs)) (hx : flatV x = true) (hs : xs.all flatV = true) (q : Q (.bl (inV x xs)) H) : rIn K false x (.ref p) H Q := ⟨p, xs, rfl, .inr (sqT h), hx, hs, q⟩
theorem w_notInT (h : H p = some (.tup xs)) (hx : flatV x = true) (hs : xs.all flatV = true) (q : Q (.bl (!inV x xs)) H) : rIn K true x (.ref p) H Q := ⟨p, xs, rfl, .inr (sqT h), hx, hs, q⟩
end
theorem inV_str (x : Str) (ns : List Str) : inV (.str x) (ns.map V.str) = decide (x ∈ ns) := by
  unfold inV
  induction ns with
  | nil => simp
  | cons a r ih =>
    rw [List.map_cons, List.any_cons, ih]
    have e : eqV (.str a) (.str x) = decide (a = x) := by
      show (a == x) = decide (a = x)
      rw [Bool.beq_eq_decide_eq]
    rw [e]
    by_cases h : a = x
    · subst h
      simp
    · have h' : ¬ x = a := fun z => h z.symm
      simp [h, h']
theorem flat_strs (ns : List Str) : (ns.map V.str).all flatV = true := by
  rw [List.all_map]
  exact List.all_eq_true.mpr fun _ _ => rfl
def sp_is_step (K : PySem.W.Frag) : Sp := fun vs H Q _ => ∃ (v : V) (d : PyData) (S : Addr → Prop) (l : Addr) (ns : List Str) (bh : Int), vs = [v, .ref l, .int bh] ∧ R S H v d ∧ smallD d = true ∧ SqL K H l (ns.map V.str) ∧ ∀ H', Chg [] H H' → Q (.bl (isStep ns bh d)) H'
def t_is_step (K : PySem.W.Frag) : TS :=
    tSeq (tIfS (tOr (tNot (tB (tCB (rIsi K) (tCons (tVar 0) (tCons (tC (.ty "tuple")) (tNil)))))) (tOr (tTest (tOp oLt (tCB (cLenQ K) (tCons (tVar 0) (tNil))) (tC (.int 1)))) (tNot (tB (tCB (rIsi K) (tCons (tOp (rIxT K) (tVar 0) (tC (.int 0))) (tCons (tC (.ty "str")) (tNil)))))))) (tRet (tC (.bl false))) (tNext))
    (tSeq (tAsg (tOp (rIxT K) (tVar 0) (tC (.int 0))) (gName 3))
    (tSeq (tIfS (tTest (tOp rEq (tVar 3) (tC (.str "wait")))) (tRet (tOp rEq (tCB (cLenQ K) (tCons (tVar 0) (tNil))) (tC (.int 1)))) (tNext))
    (tSeq (tIfS (tTest (tOp rNe (tCB (cLenQ K) (tCons (tVar 0) (tNil))) (tC (.int 3)))) (tRet (tC (.bl false))) (tNext))
    (tSeq (tIfS (tTest (tOp rEq (tVar 3) (tC (.str "cell")))) (tRet (tAndV (tCall (sp_is_expression 6) [.int 5] E0 (tCons (tOp (rIxT K) (tVar 0) (tC (.int 1))) (tNil))) (tCall (sp_is_expression 6) [.int 5] E0 (tCons (tOp (rIxT K) (tVar 0) (tC (.int 2))) (tNil))))) (tNext))
    (tSeq (tIfS (tTest (tOp rEq (tVar 3) (tC (.str "skip")))) (tRet (tAndV (tCall (sp_is_expression 6) [.int 5] E0 (tCons (tOp (rIxT K) (tVar 0) (tC (.int 1))) (tNil))) (tAndV (tCall sp_is_whole [] E0 (tCons (tOp (rIxT K) (tVar 0) (tC (.int 2))) (tNil))) (tChain oLe oLe (tC (.int 1)) (tOp (rIxT K) (tVar 0) (tC (.int 2))) (tVar 2))))) (tNext))
    (tSeq (tIfS (tOr (tTest (tOp (rIn K true) (tVar 3) (tTup (tCons (tC (.str "give")) (tCons (tC (.str "fork")) (tCons (tC (.str "call")) (tNil))))))) (tOr (tNot (tB (tCall sp_is_name [] E0 (tCons (tOp (rIxT K) (tVar 0) (tC (.int 1))) (tNil))))) (tNot (tB (tCall (sp_is_expression 6) [.int 5] E0 (tCons (tOp (rIxT K) (tVar 0) (tC (.int 2))) (tNil))))))) (tRet (tC (.bl false))) (tNext))
    (tRet (tOrV (tOp rEq (tVar 3) (tC (.str "give"))) (tOp (rIn K false) (tOp (rIxT K) (tVar 0) (tC (.int 1))) (tVar 1))))))))))
theorem isStep_tup (ns : List Str) (bh : Int) (z : Str) (ds : List PyData) : isStep ns bh (.tuple (.str z :: ds)) = (if z = "wait" then decide (ds.length = 0) else stepBody ns bh z ds) := rfl
theorem pure_is_step {K : PySem.W.Frag} (vs : List V) (H : Hp) (Q : VK) (E : XK) (h : sp_is_step K vs H Q E) : t_is_step K (fin Q) (start ["thing", "names", "behind", "word"] vs) H := by
  obtain ⟨v, d, S, l, ns, bh, rfl, r, sm, hl, q⟩ := h
  show t_is_step K _ [some v, some (.ref l), some (.int bh), none] H
  unfold t_is_step
  have q0 := q H .refl
  walk_at "w"
  cases r with
  | int i => walk_at "w"; exact q0
  | non => walk_at "w"; exact q0
  | bl b => walk_at "w"; exact q0
  | str b => walk_at "w"; exact q0
  | lst s e a => walk_at "w"; exact q0
  | dic s e => walk_at "w"; exact q0
  | @tup a xs ds e ra =>
    walk_at "w"
    cases ra with
    | nil => walk_at "w"; exact q0
    | @cons v0 vs0 d0 ds0 r0 rs =>
      refine w_iteD (fun h => ?_) (fun _ => ?_)
      · rw [List.length_cons] at h
        omega
      walk_at "w"
      cases r0 with
      | int i => walk_at "w"; exact q0
      | non => walk_at "w"; exact q0
      | bl b => walk_at "w"; exact q0
      | lst s1 e1 a1 => walk_at "w"; exact q0
      | dic s1 e1 => walk_at "w"; exact q0
      | tup e1 a1 => walk_at "w"; exact q0
      | str z =>
        rw [isStep_tup] at q0
        simp only [isStep_tup] at q
        have ln := rs.length
        walk_at "w"
        refine w_iteD (fun hz => ?_) (fun hz => ?_)
        · have hz' : z = "wait" := V.str.inj hz
          rw [if_pos hz'] at q0
          walk_at "w"
          have e2 : decide (V.int ((V.str z :: vs0).length : Nat) = V.int 1) = decide (ds0.length = 0) := by
            rw [← ln]
            exact decide_eq_decide.mpr ⟨fun h => by have := V.int.inj h; rw [List.length_cons] at this; omega, fun h => by rw [List.length_cons, h]; rfl⟩
          rw [e2]
          exact q0
        have hz' : ¬ z = "wait" := fun h => hz (by rw [h])
        rw [if_neg hz'] at q0
        simp only [if_neg hz'] at q
        walk_at "w"
        refine w_iteD (fun h3 => ?_) (fun h3 => ?_)
        rotate_left
        · walk_at "w"
          have e2 : ∀ a b, ds0 ≠ [a, b] := fun a b h => by
            apply h3
            rw [List.length_cons, ln, h]
            rfl
          match ds0, e2, q0 with
          | [], _, q0 => exact q0
          | [_], _, q0 => exact q0
          | _ :: _ :: _ :: _, _, q0 => exact q0
          | [a, b], h, _ => exact absurd rfl (h a b)
        cases rs with
        | nil => (have := V.int.inj h3; simp only [List.length_cons, List.length_nil] at this; omega)
        | @cons v1 vs1 d1 ds1 r1 rs1 =>
          cases rs1 with
          | nil => (have := V.int.inj h3; simp only [List.length_cons, List.length_nil] at this; omega)
          | @cons v2 vs2 d2 ds2 r2 rs2 =>
            cases rs2 with
            | cons _ _ =>
              have := V.int.inj h3
              simp only [List.length_cons] at this
              omega
            | nil =>
              have q : ∀ H', Chg [] H H' → Q (V.bl (step3 ns bh z d1 d2)) H' := q
              unfold step3 at q
              have sm1 : smallD d1 = true := smallDs_all (ds := [.str z, d1, d2]) sm d1 (by simp)
              walk_at "w"
              refine w_iteD (fun hc => ?_) (fun hc => ?_)
              · have hc' : z = "cell" := V.str.inj hc
                simp only [if_pos hc'] at q
                walk_at "w"
                refine ⟨v1, d1, S, 5, rfl, by omega, r1, fun H1 c1 => ?_⟩
                walk_at "w"
                refine w_iteB (fun b1 => ?_) (fun b1 => ?_)
                · walk_at "w"
                  refine ⟨v2, d2, S, 5, rfl, by omega, r2.same c1, fun H2 c2 => ?_⟩
                  have := q H2 (c1.same c2)
                  rw [b1] at this
                  exact this
                · walk_at "w"
                  have := q H1 c1
                  rw [b1] at this
                  exact this
              have hc' : ¬ z = "cell" := fun h => hc (by rw [h])
              simp only [if_neg hc'] at q
              walk_at "w"
              refine w_iteD (fun hs => ?_) (fun hs => ?_)
              · have hs' : z = "skip" := V.str.inj hs
                simp only [if_pos hs'] at q
                walk_at "w"
                refine ⟨v1, d1, S, 5, rfl, by omega, r1, fun H1 c1 => ?_⟩
                walk_at "w"
                refine w_iteB (fun b1 => ?_) (fun b1 => ?_)
                · walk_at "w"
                  refine ⟨v2, d2, S, rfl, r2.same c1, ?_⟩
                  walk_at "w"
                  have q1 := q H1 c1
                  rw [b1] at q1
                  cases r2 with
                  | int i =>
                    walk_at "w"
                    refine w_iteD (fun g => ?_) (fun g => ?_)
                    · walk_at "w"
                      have q1 : Q (V.bl (true && (decide (1 ≤ i) && decide (i ≤ bh)))) H1 := q1
                      rw [decide_eq_true g] at q1
                      exact q1
                    · walk_at "w"
                      have q1 : Q (V.bl (true && (decide (1 ≤ i) && decide (i ≤ bh)))) H1 := q1
                      rw [decide_eq_false g] at q1
                      exact q1
                  | non => walk_at "w"; exact q1
                  | bl b => walk_at "w"; exact q1
                  | str b => walk_at "w"; exact q1
                  | lst s1 e1 a1 => walk_at "w"; exact q1
                  | dic s1 e1 => walk_at "w"; exact q1
                  | tup e1 a1 => walk_at "w"; exact q1
                · walk_at "w"
                  have := q H1 c1
                  rw [b1] at this
                  exact this
              have hs' : ¬ z = "skip" := fun h => hs (by rw [h])
              simp only [if_neg hs'] at q
              walk_at "w"
              refine k_tup (by decide) fun p H1 np c1 hp => ?_
              refine w_notInT hp rfl rfl ?_
              have ein : inV (.str z) [V.str "give", V.str "fork", V.str "call"] = decide (z ∈ (["give", "fork", "call"] : List Str)) := inV_str z ["give", "fork", "call"]
              rw [ein]
              walk_at "w"
              refine w_iteD (fun hm => ?_) (fun hm => ?_)
              rotate_left
              · walk_at "w"
                have n1 : ¬ z = "give" := fun h => hm (by rw [h]; simp)
                have n2 : ¬ (z = "fork" ∨ z = "call") := fun h => hm (by rcases h with h | h <;> (rw [h]; simp))
                simp only [if_neg n1, if_neg n2] at q
                exact q H1 c1
              walk_at "w"
              refine ⟨v1, d1, S, rfl, r1.same c1, smallD_str sm1, fun H2 c2 => ?_⟩
              walk_at "w"
              refine w_iteB (fun b1 => ?_) (fun b1 => ?_)
              rotate_left
              · walk_at "w"
                have := q H2 (c1.same c2)
                rw [b1] at this
                simp only [Bool.false_and, ite_self] at this
                exact this
              walk_at "w"
              refine ⟨v2, d2, S, 5, rfl, by omega, r2.same (c1.same c2), fun H3 c3 => ?_⟩
              walk_at "w"
              refine w_iteB (fun b2 => ?_) (fun b2 => ?_)
              rotate_left
              · walk_at "w"
                have := q H3 ((c1.same c2).same c3)
                rw [b2, b1] at this
                simp only [Bool.and_false, Bool.false_and, ite_self] at this
                exact this
              walk_at "w"
              have q3 := q H3 ((c1.same c2).same c3)
              rw [b1, b2] at q3
              cases r1 with
              | str x1 =>
                refine w_iteD (fun hg => ?_) (fun hg => ?_)
                · have hg' : z = "give" := V.str.inj hg
                  rw [if_pos hg'] at q3
                  exact q3
                · have hg' : ¬ z = "give" := fun h => hg (by rw [h])
                  walk_at "w"
                  refine w_inL ((c1.same c2).same c3 |>.seq hl) rfl (flat_strs ns) ?_
                  rw [inV_str]
                  have hf : z = "fork" ∨ z = "call" := by
                    simp only [List.mem_cons, List.not_mem_nil, or_false] at hm
                    exact hm.resolve_left hg'
                  rw [if_neg hg', if_pos hf] at q3
                  exact q3
              | int i => cases b1
              | non => cases b1
              | bl b => cases b1
              | lst s1 e1 a1 => cases b1
              | dic s1 e1 => cases b1
              | tup e1 a1 => cases b1
end Fg
namespace Fg
open PySem PySem.Spec PyProof.Rows L2
/-! ### the walk's small steps -/
local macro_rules | `(tactic| walk_at "hp") => `(tactic| first
  | assumption
  | exact upd_same
  | (refine Chg.at (by assumption) ?_; walk_at "hp")
  | (refine Chg.at1 (by assumption) ?_ (by walk_at "ne"); walk_at "hp"))
local macro_rules | `(tactic| walk_at "ne") => `(tactic| first | assumption | (apply Ne.symm; assumption))
local macro_rules | `(tactic| walk_at "sq") => `(tactic| first | assumption | exact sqL (by walk_at "hp") | (refine Chg.seq (by assumption) ?_; walk_at "sq"))
local macro_rules | `(tactic| walk_at "sz") => `(tactic| first | assumption | exact Nat.zero_le _ | (simp only [List.length_cons, List.length_nil]; decide) | exact Nat.le_trans (by first | omega | (simp; done) | (simp; omega)) (show 100000 ≤ sizeLine by decide) | exact Nat.lt_of_lt_of_le (by first | omega | (simp; done) | (simp; omega)) (show 100000 ≤ sizeLine by decide))
local macro_rules | `(tactic| walk_at "ix") => `(tactic| first | exact at0 | exact at1 | exact at2 | exact at3 | assumption | exact rfl | walk_at "ix2")
local macro_rules | `(tactic| walk_at "ix2") => `(tactic| fail)
local macro_rules | `(tactic| walk_at "num") => `(tactic| first | assumption | omega | decide | walk_at "num2")
local macro_rules | `(tactic| walk_at "num2") => `(tactic| fail)
local macro_rules | `(tactic| walk_at "im") => `(tactic| first | assumption | exact R.non (S := fun _ => False) | exact R.bl (S := fun _ => False) _ | exact R.int (S := fun _ => False) _ | exact R.str (S := fun _ => False) _ | (refine R.im (by assumption) ?_; walk_at "im"))
local macro_rules | `(tactic| walk_at "r") => `(tactic| first | assumption | exact R.non (S := fun _ => False) | exact R.bl (S := fun _ => False) _ | exact R.int (S := fun _ => False) _ | exact R.str (S := fun _ => False) _ | (refine R.same (by assumption) ?_; walk_at "r") | exact R.any (by walk_at "im"))
local macro_rules | `(tactic| walk_at "chg") => `(tactic| first
  | exact Chg.refl
  | assumption
  | (refine Chg.same ?_ (by assumption); walk_at "chg")
  | (refine Chg.both ?_ (by assumption); walk_at "chg")
  | (refine Chg.pre (by assumption) ?_; walk_at "chg"))
local macro_rules | `(tactic| walk_at "w1") => `(tactic| first
  | with_reducible apply w_seq
  | with_reducible apply w_asg
  | ((with_reducible apply w_var); (focus (exact rfl)))
  | with_reducible apply w_c
  | with_reducible apply w_op
  | with_reducible apply w_cons
  | with_reducible apply w_nil
  | with_reducible apply w_gName
  | with_reducible apply w_if
  | with_reducible apply w_test
  | with_reducible apply w_B
  | with_reducible apply w_isbl
  | with_reducible apply w_retN
  | with_reducible apply w_next
  | with_reducible apply w_drop
  | with_reducible apply w_cb
  | with_reducible apply w_call
  | with_reducible apply w_callN
  | with_reducible apply w_bm
  | with_reducible apply w_bm0
  | ((with_reducible apply w_tyL); (focus (walk_at "hp"; done)))
  | with_reducible apply w_dput
  | with_reducible apply w_m1
  | with_reducible apply w_isstr
  | with_reducible apply w_and
  | with_reducible apply w_or
  | with_reducible apply w_not
  | with_reducible apply w_andV
  | with_reducible apply w_orV
  | with_reducible apply w_notV
  | with_reducible apply w_ifE
  | with_reducible apply w_chain
  | with_reducible apply w_un
  | with_reducible apply w_neg
  | with_reducible apply w_add
  | with_reducible apply w_sub
  | ((with_reducible apply w_mod); (focus (walk_at "num"; done)))
  | ((with_reducible apply w_mul); (focus (walk_at "num"; done)))
  | ((with_reducible apply w_fdiv); (focus (walk_at "num"; done)))
  | ((with_reducible apply w_pow); (focus (walk_at "num"; done)))
  | with_reducible apply w_lt
  | with_reducible apply w_le
  | with_reducible apply w_gt
  | with_reducible apply w_ge
  | with_reducible apply w_ltS
  | with_reducible apply w_geS
  | with_reducible apply w_inC
  | with_reducible apply w_notInC
  | with_reducible apply w_isN
  | with_reducible apply w_notN
  | with_reducible apply w_isB
  | with_reducible apply w_notB
  | ((with_reducible apply w_addS); (focus (walk_at "sz"; done)))
  | ((with_reducible apply w_ixL); (focus (walk_at "sq"; done)); (focus (walk_at "ix"; done)))
  | ((with_reducible apply w_ixT); (focus (walk_at "hp"; done)); (focus (walk_at "ix"; done)))
  | ((with_reducible apply w_ixS); (focus (walk_at "sz"; done)); (focus (walk_at "ix"; done)))
  | with_reducible apply w_gSub
  | ((with_reducible apply w_gTup); (focus (walk_at "hp"; done)); (focus (exact rfl)))
  | with_reducible apply w_gCons
  | with_reducible apply w_gNil
  | ((with_reducible apply w_aug); (focus (exact rfl)))
  | with_reducible apply w_ipI
  | ((with_reducible apply w_eq); (focus (exact rfl)))
  | ((with_reducible apply w_ne); (focus (exact rfl)))
  | with_reducible apply w_max
  | with_reducible apply w_min
  | with_reducible apply w_abs
  | with_reducible apply w_intB
  | with_reducible apply w_intI
  | with_reducible apply w_tup1
  | with_reducible apply w_lst1
  | with_reducible apply w_sl
  | with_reducible apply w_part
  | with_reducible apply w_noPart
  | with_reducible apply w_isint
  | ((with_reducible apply w_slS); (focus (walk_at "sz"; done)))
  | with_reducible apply w_iteT
  | with_reducible apply w_iteF
  | with_reducible apply w_iteN
  | ((with_reducible apply w_iteYes); (focus (exact rfl)))
  | ((with_reducible apply w_iteNo); (focus (exact rfl)))
  | ((with_reducible apply w_lenL); (focus (walk_at "sq"; done)))
  | ((with_reducible apply w_lenT); (focus (walk_at "hp"; done)))
  | ((with_reducible apply w_lenS); (focus (walk_at "sz"; done)))
  | with_reducible apply w_lc
  | with_reducible apply w_for
  | with_reducible apply w_yes
  | ((with_reducible apply w_wipe); (focus (exact rfl)))
  | with_reducible apply w_iList
  | with_reducible apply w_iTup
  | with_reducible apply w_iStr
  | with_reducible apply w_iRng1
  | with_reducible apply w_iRng2
  | with_reducible apply w_iZip
  | with_reducible apply w_iEnum
  | ((with_reducible apply d_iList); (focus (walk_at "sq"; done)))
  | ((with_reducible apply d_iTup); (focus (walk_at "hp"; done)))
  | with_reducible apply d_iStr
  | ((with_reducible apply d_iRng1); (focus (walk_at "num"; done)); (focus (walk_at "num"; done)))
  | ((with_reducible apply d_iRng2); (focus (walk_at "num"; done)); (focus (walk_at "num"; done)); (focus (walk_at "num"; done)); (focus (walk_at "num"; done)))
  | ((with_reducible apply d_iZip); (focus (walk_at "sq"; done)); (focus (walk_at "sq"; done)))
  | ((with_reducible apply d_iEnum); (focus (walk_at "sq"; done)))
  | walk_at "w2")
local macro_rules | `(tactic| walk_at "w2") => `(tactic| fail)
local macro_rules | `(tactic| walk_at "wn") => `(tactic| repeat walk_at "w1")
local macro_rules | `(tactic| walk_at "w") => `(tactic| repeat (first | walk_at "w1" | with_reducible apply w_ret))

local macro_rules | `(tactic| walk_at "w2") => `(tactic| first
  | ((with_reducible apply w_isInt); (focus (walk_at "r"; done)))
  | ((with_reducible apply w_isBool); (focus (walk_at "r"; done)))
  | ((with_reducible apply w_isStr); (focus (walk_at "r"; done)))
  | ((with_reducible apply w_isTup); (focus (walk_at "r"; done)))
  | ((with_reducible apply w_isLst); (focus (walk_at "r"; done)))
  | ((with_reducible apply w_notInP); (focus (assumption)))
  | ((with_reducible apply w_ixP); (focus (assumption)); (focus (assumption))))

def lenOk : PyData → Bool
  | .list ds => decide (ds.length ≤ 1000)
  | _ => true
def sp_has_form : Sp := fun vs H Q _ => ∃ (v : V) (d : PyData) (S : Addr → Prop), vs = [v] ∧ R S H v d ∧ smallD d = true ∧ lenOk d = true ∧ ∀ H', Chg [] H H' → Q (.bl (hasForm d)) H'
def t_has_form (K : PySem.W.Frag) : TS :=
    tSeq (tIfS (tNot (tB (tCB (rIsi K) (tCons (tVar 0) (tCons (tC (.ty "list")) (tNil)))))) (tRet (tC (.bl false))) (tNext))
    (tSeq (tFor (iList K (tVar 0)) (gName 1) (tIfS (tOr (tNot (tB (tCB (rIsi K) (tCons (tVar 1) (tCons (tC (.ty "tuple")) (tNil)))))) (tOr (tTest (tOp rNe (tCB (cLenQ K) (tCons (tVar 1) (tNil))) (tC (.int 2)))) (tOr (tNot (tB (tCall sp_is_name [] E0 (tCons (tOp (rIxT K) (tVar 1) (tC (.int 0))) (tNil))))) (tNot (tB (tCB (rIsi K) (tCons (tOp (rIxT K) (tVar 1) (tC (.int 1))) (tCons (tC (.ty "list")) (tNil))))))))) (tRet (tC (.bl false))) (tNext)))
    (tSeq (tAsg (tLc (iList K (tVar 0)) (gTup K 2 (gCons (gName 3) (gCons (gName 4) (gNil)))) (tYes) (tVar 3) [3, 4]) (gName 2))
    (tRet (tCB (rAll K) (tCons (tLc (iZip K (tCons (tVar 2) (tCons (tSl (rSlL K) (tVar 2) (tPart (tC (.int 1))) (tNoPart)) (tNil)))) (gTup K 2 (gCons (gName 5) (gCons (gName 6) (gNil)))) (tYes) (tOp oLtS (tVar 5) (tVar 6)) [5, 6]) (tNil))))))
theorem rising_zip : ∀ ns : List Str, rising ns = ((ns.zip (ns.drop 1)).map fun p => ltS p.1 p.2).all id
  | [] => rfl
  | [_] => rfl
  | x :: y :: r => by
    show (ltS x y && rising (y :: r)) = _
    rw [rising_zip (y :: r)]
    rfl
theorem rowOk_false {d : PyData} (h : ∀ x ds, d = .tuple [.str x, .list ds] → nameS x = false) : rowOk d = false := by
  unfold rowOk
  split
  · exact h _ _ rfl
  · rfl
theorem hasForm_false {rows : List PyData} {i : Nat} {d : PyData} (h : rows[i]? = some d) (hd : rowOk d = false) : hasForm (.list rows) = false := by
  have : rows.all rowOk = false := by
    rw [List.all_eq_false]
    exact ⟨d, List.mem_of_getElem? h, by rw [hd]; decide⟩
  show (rows.all rowOk && _) = false
  rw [this]
  rfl
theorem rowOk_true {d : PyData} (h : rowOk d = true) : ∃ x ds, d = .tuple [.str x, .list ds] ∧ nameS x = true := by
  unfold rowOk at h
  split at h
  · exact ⟨_, _, rfl, h⟩
  · cases h
theorem pure_has_form {K : PySem.W.Frag} (vs : List V) (H : Hp) (Q : VK) (E : XK) (h : sp_has_form vs H Q E) : t_has_form K (fin Q) (start ["thing", "row", "names", "name", "steps", "one", "other"] vs) H := by
  obtain ⟨v, d, S, rfl, r, sm, lo, q⟩ := h
  show t_has_form K _ [some v, none, none, none, none, none, none] H
  unfold t_has_form
  have q0 := q H .refl
  walk_at "w"
  cases r with
  | int i => walk_at "w"; exact q0
  | non => walk_at "w"; exact q0
  | bl b => walk_at "w"; exact q0
  | str b => walk_at "w"; exact q0
  | tup e1 a1 => walk_at "w"; exact q0
  | dic s e => walk_at "w"; exact q0
  | @lst a xs ds s e ra =>
    walk_at "w"
    have ln := ra.length
    have lo' : ds.length ≤ 1000 := of_decide_eq_true lo
    refine for_it (walk_list (K := K) (a := a) (xs := xs)) (fun i σ H1 => Chg [] H H1 ∧ (∀ j d, j < i → ds[j]? = some d → rowOk d = true) ∧ ∃ y, σ = [some (.ref a), y, none, none, none, none, none]) ⟨.refl, fun j d h => by omega, none, rfl⟩ (fun i σ H1 _ p => sqL (p.1.at e)) (fun i x σ H1 H2 hi p y => ?_) (fun σ H1 p => ?_)
    · obtain ⟨c1, ok, y1, rfl⟩ := p
      obtain ⟨rfl, ex⟩ := y
      obtain ⟨d1, ed, r1⟩ := ra.get ex
      have r1 := r1.same c1
      have sm1 : smallD d1 = true := smallDs_all (ds := ds) sm d1 (List.mem_of_getElem? ed)
      have bad : ∀ H3, Chg [] H2 H3 → rowOk d1 = false → Q (.bl false) H3 := fun H3 c3 hb => by
        have := q H3 (c1.same c3)
        rw [hasForm_false ed hb] at this
        exact this
      walk_at "w"
      cases r1 with
      | int i => walk_at "w"; exact bad _ .refl rfl
      | non => walk_at "w"; exact bad _ .refl rfl
      | bl b => walk_at "w"; exact bad _ .refl rfl
      | str b => walk_at "w"; exact bad _ .refl rfl
      | lst s e a => walk_at "w"; exact bad _ .refl rfl
      | dic s e => walk_at "w"; exact bad _ .refl rfl
      | @tup a2 xs2 ds2 e2 ra2 =>
        walk_at "w"
        have ln2 := ra2.length
        refine w_iteD (fun h2 => ?_) (fun h2 => ?_)
        rotate_left
        · walk_at "w"
          refine bad _ .refl (rowOk_false fun x ds h => ?_)
          exfalso
          apply h2
          rw [ln2]
          cases h
          rfl
        have h2' := V.int.inj h2
        cases ra2 with
        | nil => simp only [List.length_nil] at h2'; omega
        | @cons v0 vs0 d0 ds0 r0 rs0 =>
          cases rs0 with
          | nil => simp only [List.length_cons, List.length_nil] at h2'; omega
          | @cons v3 vs3 d3 ds3 r3 rs3 =>
            cases rs3 with
            | cons _ _ => simp only [List.length_cons] at h2'; omega
            | nil =>
              have sm0 : smallD d0 = true := smallDs_all (ds := [d0, d3]) sm1 d0 (by simp)
              walk_at "w"
              refine ⟨v0, d0, S, rfl, r0, smallD_str sm0, fun H3 c3 => ?_⟩
              walk_at "w"
              refine w_iteB (fun b1 => ?_) (fun b1 => ?_)
              rotate_left
              · walk_at "w"
                refine bad _ c3 (rowOk_false fun x ds h => ?_)
                cases h
                exact b1
              walk_at "w"
              have r3 := r3.same c3
              walk_at "w"
              have nolist : dLst d3 = false → rowOk (.tuple [d0, d3]) = false := fun hl => rowOk_false fun x ds h => by
                cases h
                cases hl
              cases r3 with
              | int i => walk_at "w"; exact bad _ c3 (nolist rfl)
              | non => walk_at "w"; exact bad _ c3 (nolist rfl)
              | bl b => walk_at "w"; exact bad _ c3 (nolist rfl)
              | str b => walk_at "w"; exact bad _ c3 (nolist rfl)
              | tup e a => walk_at "w"; exact bad _ c3 (nolist rfl)
              | dic s e => walk_at "w"; exact bad _ c3 (nolist rfl)
              | lst s4 e4 a4 =>
                walk_at "w"
                refine ⟨c1.same c3, fun j d hj hd => ?_, _, rfl⟩
                by_cases hji : j < i
                · exact ok j d hji hd
                · have : j = i := by omega
                  subst this
                  rw [ed] at hd
                  cases hd
                  cases r0 with
                  | str x => exact b1
                  | _ => cases b1
    · obtain ⟨c1, ok, y1, rfl⟩ := p
      have allok : ds.all rowOk = true := by
        rw [List.all_eq_true]
        intro d hd
        obtain ⟨j, hj⟩ := List.getElem?_of_mem hd
        exact ok j d (by have := (List.getElem?_eq_some_iff.mp hj).1; omega) hj
      walk_at "w"
      have ra1 := ra.same c1
      have e1 := c1.at e
      refine w_lcP walk_list [] (fun _ _ => True) (fun i y _ => ∃ d, ds[i]? = some d ∧ y = .str (rowName d)) trivial (fun _ _ _ _ _ _ _ => trivial) (fun H2 c => sqL (c.at e1)) (fun D i acc z H2 H3 hi nD hD el iv c _ y => ?_) (fun D acc H2 nD c _ el hD ys => ?_)
      · obtain ⟨rfl, ex⟩ := y
        obtain ⟨d1, ed, r1⟩ := ra1.get ex
        obtain ⟨x, ds1, rfl, hx⟩ := rowOk_true (List.all_eq_true.mp allok d1 (List.mem_of_getElem? ed))
        cases r1 with
        | tup e2 ra2 =>
          cases ra2 with
          | cons r0 rs0 =>
            cases rs0 with
            | cons r3 rs3 =>
              cases rs3
              cases r0
              have e3 := c.at e2
              walk_at "w"
              exact lcp_end (fun _ _ _ _ _ _ _ => trivial) (fun _ _ _ _ _ _ _ h => h) nD (by simp) hD el (by omega) iv .refl trivial ⟨_, ed, rfl⟩
      · have e3 : acc = (ds.map rowName).map V.str := by
          apply List.ext_getElem?
          intro i
          rw [List.getElem?_map, List.getElem?_map]
          by_cases hi : i < xs.length
          · have e4 : acc[i]? = some acc[i] := List.getElem?_eq_getElem (by omega)
            obtain ⟨d1, ed, e5⟩ := ys i _ e4
            rw [e4, ed, e5]
            rfl
          · rw [List.getElem?_eq_none (by omega), List.getElem?_eq_none (by omega)]
            rfl
        subst e3
        walk_at "w"
        refine w_slL (sqL hD) fun p' H3 np c3 hp => ?_
        rw [cut1] at hp
        walk_at "w"
        have hD3 := c3.at hD
        have lz : (ds.map rowName).length = ds.length := List.length_map _
        refine w_lcP (walk_zip rfl) [] (fun _ _ => True) (fun i y _ => ∃ x x', (ds.map rowName)[i]? = some x ∧ ((ds.map rowName).drop 1)[i]? = some x' ∧ y = .bl (ltS x x')) trivial (fun _ _ _ _ _ _ _ => trivial) (fun H4 c4 => ⟨sqL (c4.at hD3), sqL (c4.at hp)⟩) (fun D2 i acc z H4 H5 hi nD2 hD2 el2 iv2 c4 _ y => ?_) (fun D2 acc H4 nD2 c4 _ el2 hD2 ys2 => ?_)
        · obtain ⟨T, x, y, rfl, nT, rfl, ex, ey⟩ := y
          have ex : ((ds.map rowName).map V.str)[i]? = some x := ex
          have ey : (((ds.map rowName).map V.str).drop 1)[i]? = some y := ey
          rw [List.getElem?_map] at ex
          rw [← List.map_drop, List.getElem?_map] at ey
          cases ez1 : (ds.map rowName)[i]? with
          | none => rw [ez1] at ex; cases ex
          | some x1 =>
            cases ez2 : ((ds.map rowName).drop 1)[i]? with
            | none => rw [ez2] at ey; cases ey
            | some x2 =>
              rw [ez1] at ex
              rw [ez2] at ey
              cases ex
              cases ey
              have cT : Chg [] H4 (upd H4 T (.tup [.str x1, .str x2])) := .new nT
              walk_at "w"
              have hi2 : i < 1000 := by
                have := (List.getElem?_eq_some_iff.mp ez1).1
                omega
              exact lcp_end (fun _ _ _ _ _ _ _ => trivial) (fun _ _ _ _ _ _ _ h => h) nD2 (by simp) hD2 el2 (by omega) iv2 cT trivial ⟨x1, x2, ez1, ez2, rfl⟩
        · have e6 : acc = (((ds.map rowName).zip ((ds.map rowName).drop 1)).map fun p => ltS p.1 p.2).map V.bl := by
            refine all_bl el2 (by simp) fun i y hy => ?_
            obtain ⟨x, x', g1, g2, rfl⟩ := ys2 i y hy
            refine ⟨_, ?_, rfl⟩
            rw [List.getElem?_map, List.getElem?_zip_eq_some (z := (x, x')) |>.mpr ⟨g1, g2⟩]
            rfl
          subst e6
          walk_at "w"
          refine w_all hD2 ?_
          rw [← rising_zip]
          have e7 : hasForm (.list ds) = rising (ds.map rowName) := by
            show (ds.all rowOk && rising (ds.map rowName)) = _
            rw [allok]
            rfl
          rw [← e7]
          exact q H4 (((c1.same c).same c3).same c4)
end Fg
namespace Fg
open PySem PySem.Spec PyProof.Rows L2
/-! ### the walk's small steps -/
local macro_rules | `(tactic| walk_at "hp") => `(tactic| first
  | assumption
  | exact upd_same
  | (refine Chg.at (by assumption) ?_; walk_at "hp")
  | (refine Chg.at1 (by assumption) ?_ (by walk_at "ne"); walk_at "hp"))
local macro_rules | `(tactic| walk_at "ne") => `(tactic| first | assumption | (apply Ne.symm; assumption))
local macro_rules | `(tactic| walk_at "sq") => `(tactic| first | assumption | exact sqL (by walk_at "hp") | (refine Chg.seq (by assumption) ?_; walk_at "sq"))
local macro_rules | `(tactic| walk_at "sz") => `(tactic| first | assumption | exact Nat.zero_le _ | (simp only [List.length_cons, List.length_nil]; decide) | exact Nat.le_trans (by first | omega | (simp; done) | (simp; omega)) (show 100000 ≤ sizeLine by decide) | exact Nat.lt_of_lt_of_le (by first | omega | (simp; done) | (simp; omega)) (show 100000 ≤ sizeLine by decide))
local macro_rules | `(tactic| walk_at "ix") => `(tactic| first | exact at0 | exact at1 | exact at2 | exact at3 | assumption | exact rfl | walk_at "ix2")
local macro_rules | `(tactic| walk_at "ix2") => `(tactic| fail)
local macro_rules | `(tactic| walk_at "num") => `(tactic| first | assumption | omega | decide | walk_at "num2")
local macro_rules | `(tactic| walk_at "num2") => `(tactic| fail)
local macro_rules | `(tactic| walk_at "im") => `(tactic| first | assumption | exact R.non (S := fun _ => False) | exact R.bl (S := fun _ => False) _ | exact R.int (S := fun _ => False) _ | exact R.str (S := fun _ => False) _ | (refine R.im (by assumption) ?_; walk_at "im"))
local macro_rules | `(tactic| walk_at "r") => `(tactic| first | assumption | exact R.non (S := fun _ => False) | exact R.bl (S := fun _ => False) _ | exact R.int (S := fun _ => False) _ | exact R.str (S := fun _ => False) _ | (refine R.same (by assumption) ?_; walk_at "r") | exact R.any (by walk_at "im"))
local macro_rules | `(tactic| walk_at "chg") => `(tactic| first
  | exact Chg.refl
  | assumption
  | (refine Chg.same ?_ (by assumption); walk_at "chg")
  | (refine Chg.both ?_ (by assumption); walk_at "chg")
  | (refine Chg.pre (by assumption) ?_; walk_at "chg"))
local macro_rules | `(tactic| walk_at "w1") => `(tactic| first
  | with_reducible apply w_seq
  | with_reducible apply w_asg
  | ((with_reducible apply w_var); (focus (exact rfl)))
  | with_reducible apply w_c
  | with_reducible apply w_op
  | with_reducible apply w_cons
  | with_reducible apply w_nil
  | with_reducible apply w_gName
  | with_reducible apply w_if
  | with_reducible apply w_test
  | with_reducible apply w_B
  | with_reducible apply w_isbl
  | with_reducible apply w_retN
  | with_reducible apply w_next
  | with_reducible apply w_drop
  | with_reducible apply w_cb
  | with_reducible apply w_call
  | with_reducible apply w_callN
  | with_reducible apply w_bm
  | with_reducible apply w_bm0
  | ((with_reducible apply w_tyL); (focus (walk_at "hp"; done)))
  | with_reducible apply w_dput
  | with_reducible apply w_m1
  | with_reducible apply w_isstr
  | with_reducible apply w_and
  | with_reducible apply w_or
  | with_reducible apply w_not
  | with_reducible apply w_andV
  | with_reducible apply w_orV
  | with_reducible apply w_notV
  | with_reducible apply w_ifE
  | with_reducible apply w_chain
  | with_reducible apply w_un
  | with_reducible apply w_neg
  | with_reducible apply w_add
  | with_reducible apply w_sub
  | ((with_reducible apply w_mod); (focus (walk_at "num"; done)))
  | ((with_reducible apply w_mul); (focus (walk_at "num"; done)))
  | ((with_reducible apply w_fdiv); (focus (walk_at "num"; done)))
  | ((with_reducible apply w_pow); (focus (walk_at "num"; done)))
  | with_reducible apply w_lt
  | with_reducible apply w_le
  | with_reducible apply w_gt
  | with_reducible apply w_ge
  | with_reducible apply w_ltS
  | with_reducible apply w_geS
  | with_reducible apply w_inC
  | with_reducible apply w_notInC
  | with_reducible apply w_isN
  | with_reducible apply w_notN
  | with_reducible apply w_isB
  | with_reducible apply w_notB
  | ((with_reducible apply w_addS); (focus (walk_at "sz"; done)))
  | ((with_reducible apply w_ixL); (focus (walk_at "sq"; done)); (focus (walk_at "ix"; done)))
  | ((with_reducible apply w_ixT); (focus (walk_at "hp"; done)); (focus (walk_at "ix"; done)))
  | ((with_reducible apply w_ixS); (focus (walk_at "sz"; done)); (focus (walk_at "ix"; done)))
  | with_reducible apply w_gSub
  | ((with_reducible apply w_gTup); (focus (walk_at "hp"; done)); (focus (exact rfl)))
  | with_reducible apply w_gCons
  | with_reducible apply w_gNil
  | ((with_reducible apply w_aug); (focus (exact rfl)))
  | with_reducible apply w_ipI
  | ((with_reducible apply w_eq); (focus (exact rfl)))
  | ((with_reducible apply w_ne); (focus (exact rfl)))
  | with_reducible apply w_max
  | with_reducible apply w_min
  | with_reducible apply w_abs
  | with_reducible apply w_intB
  | with_reducible apply w_intI
  | with_reducible apply w_tup1
  | with_reducible apply w_lst1
  | with_reducible apply w_sl
  | with_reducible apply w_part
  | with_reducible apply w_noPart
  | with_reducible apply w_isint
  | ((with_reducible apply w_slS); (focus (walk_at "sz"; done)))
  | with_reducible apply w_iteT
  | with_reducible apply w_iteF
  | with_reducible apply w_iteN
  | ((with_reducible apply w_iteYes); (focus (exact rfl)))
  | ((with_reducible apply w_iteNo); (focus (exact rfl)))
  | ((with_reducible apply w_lenL); (focus (walk_at "sq"; done)))
  | ((with_reducible apply w_lenT); (focus (walk_at "hp"; done)))
  | ((with_reducible apply w_lenS); (focus (walk_at "sz"; done)))
  | with_reducible apply w_lc
  | with_reducible apply w_for
  | with_reducible apply w_yes
  | ((with_reducible apply w_wipe); (focus (exact rfl)))
  | with_reducible apply w_iList
  | with_reducible apply w_iTup
  | with_reducible apply w_iStr
  | with_reducible apply w_iRng1
  | with_reducible apply w_iRng2
  | with_reducible apply w_iZip
  | with_reducible apply w_iEnum
  | ((with_reducible apply d_iList); (focus (walk_at "sq"; done)))
  | ((with_reducible apply d_iTup); (focus (walk_at "hp"; done)))
  | with_reducible apply d_iStr
  | ((with_reducible apply d_iRng1); (focus (walk_at "num"; done)); (focus (walk_at "num"; done)))
  | ((with_reducible apply d_iRng2); (focus (walk_at "num"; done)); (focus (walk_at "num"; done)); (focus (walk_at "num"; done)); (focus (walk_at "num"; done)))
  | ((with_reducible apply d_iZip); (focus (walk_at "sq"; done)); (focus (walk_at "sq"; done)))
  | ((with_reducible apply d_iEnum); (focus (walk_at "sq"; done)))
  | walk_at "w2")
local macro_rules | `(tactic| walk_at "w2") => `(tactic| fail)
local macro_rules | `(tactic| walk_at "wn") => `(tactic| repeat walk_at "w1")
local macro_rules | `(tactic| walk_at "w") => `(tactic| repeat (first | walk_at "w1" | with_reducible apply w_ret))

local macro_rules | `(tactic| walk_at "w2") => `(tactic| first
  | ((with_reducible apply w_isInt); (focus (walk_at "r"; done)))
  | ((with_reducible apply w_isBool); (focus (walk_at "r"; done)))
  | ((with_reducible apply w_isStr); (focus (walk_at "r"; done)))
  | ((with_reducible apply w_isTup); (focus (walk_at "r"; done)))
  | ((with_reducible apply w_isLst); (focus (walk_at "r"; done)))
  | ((with_reducible apply w_notInP); (focus (assumption)))
  | ((with_reducible apply w_ixP); (focus (assumption)); (focus (assumption))))

def fwV : Option (Str × Nat) → List V
  | none => [.non, .non]
  | some (n, k) => [.str n, .int (k : Nat)]
def sp_first_wrong : Sp := fun vs H Q _ => ∃ (v : V) (d : PyData) (S : Addr → Prop), vs = [v] ∧ R S H v d ∧ smallD d = true ∧ lenOk d = true ∧ (firstWrong d = none → ∀ H', Chg [] H H' → Q .non H') ∧
  ∀ o, firstWrong d = some o → ∀ p H', Chg [] H H' → H' p = some (.tup (fwV o)) → Q (.ref p) H'
def t_first_wrong (K : PySem.W.Frag) : TS :=
    tSeq (tIfS (tNot (tB (tCall sp_has_form [] E0 (tCons (tVar 0) (tNil))))) (tRet (tTup (tCons (tC .non) (tCons (tC .non) (tNil))))) (tNext))
    (tSeq (tAsg (tLc (iList K (tVar 0)) (gTup K 2 (gCons (gName 2) (gCons (gName 3) (gNil)))) (tYes) (tVar 2) [2, 3]) (gName 1))
    (tSeq (tFor (iList K (tVar 0)) (gTup K 2 (gCons (gName 2) (gCons (gName 3) (gNil)))) (tFor (iEnum K (tCons (tVar 3) (tNil))) (gTup K 2 (gCons (gName 4) (gCons (gName 5) (gNil)))) (tIfS (tNot (tB (tCall (sp_is_step K) [] E0 (tCons (tVar 5) (tCons (tVar 1) (tCons (tOp oSub (tOp oSub (tCB (cLenQ K) (tCons (tVar 3) (tNil))) (tVar 4)) (tC (.int 1))) (tNil))))))) (tRet (tTup (tCons (tVar 2) (tCons (tVar 4) (tNil))))) (tNext))))
    (tRet (tC .non))))
theorem wrongAt_skip {ns : List Str} {ys : List PyData} {j : Nat} {d : PyData} (h : ys[j]? = some d) (hs : isStep ns ((ys.length : Int) - j - 1) d = true) : wrongAt ns j (ys.drop j) = wrongAt ns (j + 1) (ys.drop (j + 1)) := by
  have hj := (List.getElem?_eq_some_iff.mp h)
  obtain ⟨hl, e⟩ := hj
  rw [List.drop_eq_getElem_cons hl, e]
  show (if isStep ns ((ys.drop (j + 1)).length : Int) d = true then _ else _) = _
  rw [if_pos]
  rw [← hs]
  congr 1
  rw [List.length_drop]
  omega
theorem wrongAt_here {ns : List Str} {ys : List PyData} {j : Nat} {d : PyData} (h : ys[j]? = some d) (hs : isStep ns ((ys.length : Int) - j - 1) d = false) : wrongAt ns j (ys.drop j) = some j := by
  obtain ⟨hl, e⟩ := List.getElem?_eq_some_iff.mp h
  rw [List.drop_eq_getElem_cons hl, e]
  show (if isStep ns ((ys.drop (j + 1)).length : Int) d = true then _ else _) = _
  rw [if_neg]
  have e2 : ((ys.drop (j + 1)).length : Int) = (ys.length : Int) - j - 1 := by
    rw [List.length_drop]
    omega
  rw [e2, hs]
  decide
theorem pure_first_wrong {K : PySem.W.Frag} (vs : List V) (H : Hp) (Q : VK) (E : XK) (h : sp_first_wrong vs H Q E) : t_first_wrong K (fin Q) (start ["program", "names", "name", "steps", "at", "step"] vs) H := by
  obtain ⟨v, d, S, rfl, r, sm, lo, qn, qs⟩ := h
  show t_first_wrong K _ [some v, none, none, none, none, none] H
  unfold t_first_wrong
  walk_at "w"
  refine ⟨v, d, S, rfl, r, sm, lo, fun H1 c1 => ?_⟩
  walk_at "w"
  refine w_iteB (fun hf => ?_) (fun hf => ?_)
  rotate_left
  · walk_at "w"
    refine k_tup (by decide) fun p H2 np c2 hp => ?_
    exact qs none (by unfold firstWrong; rw [hf]; rfl) p H2 (c1.same c2) hp
  cases r with
  | int i => cases hf
  | non => cases hf
  | bl b => cases hf
  | str b => cases hf
  | tup e1 a1 => cases hf
  | dic s e => cases hf
  | @lst a xs ds s e ra =>
    have efw : firstWrong (.list ds) = (wrongIn (ds.map rowName) ds).map some := by
      unfold firstWrong
      rw [if_pos hf]
      rfl
    have ln := ra.length
    have lo' : ds.length ≤ 1000 := of_decide_eq_true lo
    have allok : ds.all rowOk = true := (Bool.and_eq_true_iff.mp (show (ds.all rowOk && rising (ds.map rowName)) = true from hf)).1
    have ra1 := ra.same c1
    have e1 := c1.at e
    walk_at "w"
    refine w_lcP walk_list [] (fun _ _ => True) (fun i y _ => ∃ d, ds[i]? = some d ∧ y = .str (rowName d)) trivial (fun _ _ _ _ _ _ _ => trivial) (fun H2 c => sqL (c.at e1)) (fun D i acc z H2 H3 hi nD hD el iv c _ y => ?_) (fun D acc H2 nD c _ el hD ys => ?_)
    · obtain ⟨rfl, ex⟩ := y
      obtain ⟨d1, ed, r1⟩ := ra1.get ex
      obtain ⟨x, ds1, rfl, hx⟩ := rowOk_true (List.all_eq_true.mp allok d1 (List.mem_of_getElem? ed))
      cases r1 with
      | tup e2 ra2 =>
        cases ra2 with
        | cons r0 rs0 =>
          cases rs0 with
          | cons r3 rs3 =>
            cases rs3
            cases r0
            have e3 := c.at e2
            walk_at "w"
            exact lcp_end (fun _ _ _ _ _ _ _ => trivial) (fun _ _ _ _ _ _ _ h => h) nD (by simp) hD el (by omega) iv .refl trivial ⟨_, ed, rfl⟩
    · have e3 : acc = (ds.map rowName).map V.str := by
        apply List.ext_getElem?
        intro i
        rw [List.getElem?_map, List.getElem?_map]
        by_cases hi : i < xs.length
        · have e4 : acc[i]? = some acc[i] := List.getElem?_eq_getElem (by omega)
          obtain ⟨d1, ed, e5⟩ := ys i _ e4
          rw [e4, ed, e5]
          rfl
        · rw [List.getElem?_eq_none (by omega), List.getElem?_eq_none (by omega)]
          rfl
      subst e3
      walk_at "w"
      have e2 := c.at e1
      have ra2 := ra1.same c
      have c12 := c1.same c
      refine for_it (walk_list (K := K) (a := a) (xs := xs)) (fun i σ H3 => Chg [] H2 H3 ∧ wrongIn (ds.map rowName) ds = wrongIn (ds.map rowName) (ds.drop i) ∧ ∃ y2 y3 y4 y5, σ = [some (.ref a), some (.ref D), y2, y3, y4, y5]) ⟨.refl, rfl, none, none, none, none, rfl⟩ (fun i σ H3 _ p => sqL (p.1.at e2)) (fun i x σ H3 H4 hi p y => ?_) (fun σ H3 p => ?_)
      · obtain ⟨c3, wr, y2, y3, y4, y5, rfl⟩ := p
        obtain ⟨rfl, ex⟩ := y
        obtain ⟨d1, ed, r1⟩ := ra2.get ex
        obtain ⟨x1, ds1, rfl, hx⟩ := rowOk_true (List.all_eq_true.mp allok d1 (List.mem_of_getElem? ed))
        have sm1 : smallD (.tuple [.str x1, .list ds1]) = true := smallDs_all (ds := ds) sm _ (List.mem_of_getElem? ed)
        have sm2 : smallDs ds1 = true := smallDs_all (ds := [.str x1, .list ds1]) sm1 (.list ds1) (by simp)
        obtain ⟨hli, edi⟩ := List.getElem?_eq_some_iff.mp ed
        have wr1 : wrongIn (ds.map rowName) ds = (match wrongAt (ds.map rowName) 0 ds1 with
            | some k => some (x1, k)
            | none => wrongIn (ds.map rowName) (ds.drop (i + 1))) := by
          rw [wr, List.drop_eq_getElem_cons hli, edi]
          rfl
        cases r1 with
        | tup e4 ra4 =>
          cases ra4 with
          | cons r0 rs0 =>
            cases rs0 with
            | cons r3 rs3 =>
              cases rs3
              cases r0
              cases r3 with
              | @lst l5 ys5 _ s5 e5 ra5 =>
                have e6 := c3.at e4
                have e7 := c3.at e5
                have ln5 := ra5.length
                walk_at "w"
                refine for_it (walk_enum (K := K) (a := l5) (xs := ys5)) (fun j σ H5 => Chg [] H4 H5 ∧ wrongAt (ds.map rowName) 0 ds1 = wrongAt (ds.map rowName) j (ds1.drop j) ∧ ∃ y4 y5, σ = [some (.ref a), some (.ref D), some (.str x1), some (.ref l5), y4, y5]) ⟨.refl, rfl, _, _, rfl⟩ (fun j σ H5 _ p => sqL (p.1.at e7)) (fun j x σ H5 H6 hj p y => ?_) (fun σ H5 p => ?_)
                · obtain ⟨c5, wa, z4, z5, rfl⟩ := p
                  obtain ⟨T, vx, vy, rfl, nT, rfl, ex, ey⟩ := y
                  cases ex
                  have ey : ys5[j]? = some vy := ey
                  obtain ⟨d6, ed6, r6⟩ := ra5.get ey
                  have cT : Chg [] H5 (upd H5 T (.tup [.int (j : Nat), vy])) := .new nT
                  have c6 : Chg [] H2 (upd H5 T (.tup [.int (j : Nat), vy])) := (c3.same c5).same cT
                  have e8 := cT.at (c5.at e7)
                  walk_at "w"
                  refine ⟨vy, d6, S, D, ds.map rowName, (ys5.length : Int) - (j : Nat) - 1, rfl, r6.same c6, smallDs_all sm2 d6 (List.mem_of_getElem? ed6), sqL (c6.at hD), fun H7 c7 => ?_⟩
                  have eln : ((ys5.length : Int) - (j : Nat) - 1) = ((ds1.length : Int) - (j : Nat) - 1) := by rw [ln5]
                  rw [eln]
                  walk_at "w"
                  refine w_iteB (fun b1 => ?_) (fun b1 => ?_)
                  · walk_at "w"
                    exact ⟨(c5.same cT).same c7, by rw [wa, wrongAt_skip ed6 b1], _, _, rfl⟩
                  · walk_at "w"
                    refine k_tup (by walk_at "sz") fun p H8 np c8 hp => ?_
                    refine qs (some (x1, j)) ?_ p H8 ((c12.same (c6.same c7)).same c8) hp
                    rw [efw, wr1, wa, wrongAt_here ed6 b1]
                    rfl
                · obtain ⟨c5, wa, z4, z5, rfl⟩ := p
                  refine ⟨c3.same c5, ?_, _, _, _, _, rfl⟩
                  rw [wr1, wa, ln5, List.drop_eq_nil_of_le (Nat.le_refl _)]
                  rfl
      · obtain ⟨c3, wr, y2, y3, y4, y5, rfl⟩ := p
        walk_at "w"
        refine qn ?_ H3 (c12.same c3)
        rw [efw, wr, List.drop_eq_nil_of_le (by omega)]
        rfl
def sp_is_program : Sp := fun vs H Q _ => ∃ (v : V) (d : PyData) (S : Addr → Prop), vs = [v] ∧ R S H v d ∧ smallD d = true ∧ lenOk d = true ∧ ∀ H', Chg [] H H' → Q (.bl (firstWrong d).isNone) H'
def t_is_program  : TS :=
    tRet (tOp oIsN (tCall sp_first_wrong [] E0 (tCons (tVar 0) (tNil))) (tC .non))
theorem pure_is_program {K : PySem.W.Frag} (vs : List V) (H : Hp) (Q : VK) (E : XK) (h : sp_is_program vs H Q E) : t_is_program (fin Q) (start ["thing"] vs) H := by
  obtain ⟨v, d, S, rfl, r, sm, lo, q⟩ := h
  show t_is_program _ [some v] H
  unfold t_is_program
  walk_at "w"
  refine ⟨v, d, S, rfl, r, sm, lo, fun e H1 c1 => ?_, fun o e p H1 c1 hp => ?_⟩
  · walk_at "w"
    have := q H1 c1
    rw [e] at this
    exact this
  · walk_at "w"
    have := q H1 c1
    rw [e] at this
    exact this
end Fg
namespace Fg
open PySem PySem.Spec PyProof.Rows L2
/-! ### right programs, as data of types of their own -/
inductive Ex where
  | num (i : Int)
  | arg
  | cell (a : Ex)
  | add (a b : Ex)
  | less (a b : Ex)
  | least (a b : Ex)
def Ex.data : Ex → PyData
  | .num i => .int i
  | .arg => .tuple [.str "arg"]
  | .cell a => .tuple [.str "cell", a.data]
  | .add a b => .tuple [.str "add", a.data, b.data]
  | .less a b => .tuple [.str "less", a.data, b.data]
  | .least a b => .tuple [.str "least", a.data, b.data]
def Ex.deep : Ex → Nat
  | .num _ => 1
  | .arg => 1
  | .cell a => a.deep + 1
  | .add a b => max a.deep b.deep + 1
  | .less a b => max a.deep b.deep + 1
  | .least a b => max a.deep b.deep + 1
/-- all numbers within -B .. B -/
def Ex.numsIn (B : Int) : Ex → Prop
  | .num i => -B ≤ i ∧ i ≤ B
  | .arg => True
  | .cell a => a.numsIn B
  | .add a b => a.numsIn B ∧ b.numsIn B
  | .less a b => a.numsIn B ∧ b.numsIn B
  | .least a b => a.numsIn B ∧ b.numsIn B
theorem Ex.deep_pos (e : Ex) : 1 ≤ e.deep := by cases e <;> simp [Ex.deep]
theorem isExpr_of : ∀ (e : Ex) (n : Nat), e.deep ≤ n → isExpr n e.data = true
  | .num i, 0, h => by simp [Ex.deep] at h
  | .num i, n + 1, _ => rfl
  | .arg, 0, h => by simp [Ex.deep] at h
  | .arg, n + 1, _ => rfl
  | .cell a, 0, h => by simp [Ex.deep] at h
  | .cell a, n + 1, h => by
    have h1 := isExpr_of a n (by simp only [Ex.deep] at h; omega)
    show (match partsOf "cell" with
      | some k => decide ([a.data].length = k) && [a.data].all (isExpr n)
      | none => false) = true
    rw [show partsOf "cell" = some 1 by decide +kernel]
    simp [h1]
  | .add a b, 0, h => by simp [Ex.deep] at h
  | .add a b, n + 1, h => by
    have h1 := isExpr_of a n (by simp only [Ex.deep] at h; omega)
    have h2 := isExpr_of b n (by simp only [Ex.deep] at h; omega)
    show (match partsOf "add" with
      | some k => decide ([a.data, b.data].length = k) && [a.data, b.data].all (isExpr n)
      | none => false) = true
    rw [show partsOf "add" = some 2 by decide +kernel]
    simp [h1, h2]
  | .less a b, 0, h => by simp [Ex.deep] at h
  | .less a b, n + 1, h => by
    have h1 := isExpr_of a n (by simp only [Ex.deep] at h; omega)
    have h2 := isExpr_of b n (by simp only [Ex.deep] at h; omega)
    show (match partsOf "less" with
      | some k => decide ([a.data, b.data].length = k) && [a.data, b.data].all (isExpr n)
      | none => false) = true
    rw [show partsOf "less" = some 2 by decide +kernel]
    simp [h1, h2]
  | .least a b, 0, h => by simp [Ex.deep] at h
  | .least a b, n + 1, h => by
    have h1 := isExpr_of a n (by simp only [Ex.deep] at h; omega)
    have h2 := isExpr_of b n (by simp only [Ex.deep] at h; omega)
    show (match partsOf "least" with
      | some k => decide ([a.data, b.data].length = k) && [a.data, b.data].all (isExpr n)
      | none => false) = true
    rw [show partsOf "least" = some 2 by decide +kernel]
    simp [h1, h2]
inductive Stp where
  | cell (a b : Ex)
  | give (x : Str) (a : Ex)
  | fork (x : Str) (a : Ex)
  | call (x : Str) (a : Ex)
  | wait
  | skip (a : Ex) (k : Int)
def Stp.data : Stp → PyData
  | .cell a b => .tuple [.str "cell", a.data, b.data]
  | .give x a => .tuple [.str "give", .str x, a.data]
  | .fork x a => .tuple [.str "fork", .str x, a.data]
  | .call x a => .tuple [.str "call", .str x, a.data]
  | .wait => .tuple [.str "wait"]
  | .skip a k => .tuple [.str "skip", a.data, .int k]
/-- a right step, by the helpers' names and how many there are behind it -/
def Stp.ok (ns : List Str) (bh : Int) : Stp → Prop
  | .cell a b => a.deep ≤ 5 ∧ b.deep ≤ 5
  | .give x a => nameS x = true ∧ a.deep ≤ 5
  | .fork x a => nameS x = true ∧ x ∈ ns ∧ a.deep ≤ 5
  | .call x a => nameS x = true ∧ x ∈ ns ∧ a.deep ≤ 5
  | .wait => True
  | .skip a k => a.deep ≤ 5 ∧ 1 ≤ k ∧ k ≤ bh
theorem isStep_of {ns : List Str} {bh : Int} {s : Stp} (h : s.ok ns bh) : isStep ns bh s.data = true := by
  cases s with
  | cell a b =>
    have h1 := isExpr_of a 5 h.1
    have h2 := isExpr_of b 5 h.2
    show step3 ns bh "cell" a.data b.data = true
    unfold step3
    rw [if_pos rfl, h1, h2]
    rfl
  | give x a =>
    have h2 := isExpr_of a 5 h.2
    show step3 ns bh "give" (.str x) a.data = true
    unfold step3
    rw [if_neg (by decide +kernel), if_neg (by decide +kernel), if_pos rfl, h2, show isName (.str x) = true from h.1]
    rfl
  | fork x a =>
    have h2 := isExpr_of a 5 h.2.2
    show step3 ns bh "fork" (.str x) a.data = true
    unfold step3
    rw [if_neg (by decide +kernel), if_neg (by decide +kernel), if_neg (by decide +kernel), if_pos (.inl rfl), h2, show isName (.str x) = true from h.1, show inNm ns (.str x) = true from decide_eq_true h.2.1]
    rfl
  | call x a =>
    have h2 := isExpr_of a 5 h.2.2
    show step3 ns bh "call" (.str x) a.data = true
    unfold step3
    rw [if_neg (by decide +kernel), if_neg (by decide +kernel), if_neg (by decide +kernel), if_pos (.inr rfl), h2, show isName (.str x) = true from h.1, show inNm ns (.str x) = true from decide_eq_true h.2.1]
    rfl
  | wait => rfl
  | skip a k =>
    have h1 := isExpr_of a 5 h.1
    show step3 ns bh "skip" a.data (.int k) = true
    unfold step3
    rw [if_neg (by decide +kernel), if_pos rfl, h1]
    show (true && (decide (1 ≤ k) && decide (k ≤ bh))) = true
    rw [decide_eq_true h.2.1, decide_eq_true h.2.2]
    rfl
/-- helpers with their steps -/
abbrev Prg := List (Str × List Stp)
def rowD (r : Str × List Stp) : PyData := .tuple [.str r.1, .list (r.2.map Stp.data)]
def prgD (p : Prg) : PyData := .list (p.map rowD)
/-- each step right by its place -/
def stepsOk (ns : List Str) : List Stp → Prop
  | [] => True
  | s :: r => s.ok ns (r.length : Int) ∧ stepsOk ns r
structure PrgOk (p : Prg) : Prop where
  names : ∀ r ∈ p, nameS r.1 = true
  up : rising (p.map (·.1)) = true
  steps : ∀ r ∈ p, stepsOk (p.map (·.1)) r.2
  few : p.length ≤ 100
  short : ∀ r ∈ p, r.2.length ≤ 100
theorem wrongAt_of {ns : List Str} : ∀ {ss : List Stp} (k : Nat), stepsOk ns ss → wrongAt ns k (ss.map Stp.data) = none
  | [], _, _ => rfl
  | s :: r, k, h => by
    show (if isStep ns ((r.map Stp.data).length : Int) s.data = true then wrongAt ns (k + 1) (r.map Stp.data) else some k) = none
    rw [List.length_map, if_pos (isStep_of h.1)]
    exact wrongAt_of (k + 1) h.2
theorem wrongIn_of {ns : List Str} : ∀ {p : Prg}, (∀ r ∈ p, stepsOk ns r.2) → wrongIn ns (p.map rowD) = none
  | [], _ => rfl
  | r :: p, h => by
    show (match wrongAt ns 0 (r.2.map Stp.data) with
      | some k => some (r.1, k)
      | none => wrongIn ns (p.map rowD)) = none
    rw [wrongAt_of 0 (h r (by simp))]
    exact wrongIn_of fun r hr => h r (List.mem_cons_of_mem _ hr)
theorem rowName_map (p : Prg) : (p.map rowD).map rowName = p.map (·.1) := by
  rw [List.map_map]
  rfl
theorem hasForm_of {p : Prg} (h : PrgOk p) : hasForm (prgD p) = true := by
  show ((p.map rowD).all rowOk && rising ((p.map rowD).map rowName)) = true
  rw [rowName_map, h.up, Bool.and_true, List.all_map]
  exact List.all_eq_true.mpr fun r hr => h.names r hr
theorem firstWrong_of {p : Prg} (h : PrgOk p) : firstWrong (prgD p) = none := by
  unfold firstWrong
  rw [if_pos (hasForm_of h)]
  show (wrongIn ((p.map rowD).map rowName) (p.map rowD)).map some = none
  rw [rowName_map, wrongIn_of h.steps]
  rfl
/-! sizes -/
theorem Ex.small : ∀ e : Ex, smallD e.data = true
  | .num _ => rfl
  | .arg => by decide +kernel
  | .cell a => by
    show (smallD (.str "cell") && (smallD a.data && true)) = true
    rw [Ex.small a]; decide +kernel
  | .add a b => by
    show (smallD (.str "add") && (smallD a.data && (smallD b.data && true))) = true
    rw [Ex.small a, Ex.small b]; decide +kernel
  | .less a b => by
    show (smallD (.str "less") && (smallD a.data && (smallD b.data && true))) = true
    rw [Ex.small a, Ex.small b]; decide +kernel
  | .least a b => by
    show (smallD (.str "least") && (smallD a.data && (smallD b.data && true))) = true
    rw [Ex.small a, Ex.small b]; decide +kernel
theorem nameS_iff {x : Str} : nameS x = true ↔ 1 ≤ x.length ∧ x.length ≤ 8 ∧ ∀ c ∈ x.cps.toList, isLow c = true := by
  unfold nameS
  rw [Bool.and_eq_true, Bool.and_eq_true, decide_eq_true_eq, decide_eq_true_eq, List.all_eq_true]
  exact ⟨fun h => ⟨h.1.1, h.1.2, h.2⟩, fun h => ⟨⟨h.1, h.2.1⟩, h.2.2⟩⟩
theorem small_name {x : Str} (h : nameS x = true) : smallD (.str x) = true := decide_eq_true (by have := (nameS_iff.mp h).2.1; omega)
theorem Stp.small {ns : List Str} {bh : Int} {s : Stp} (h : s.ok ns bh) : smallD s.data = true := by
  cases s with
  | cell a b =>
    show (smallD (.str "cell") && (smallD a.data && (smallD b.data && true))) = true
    rw [Ex.small a, Ex.small b]; decide +kernel
  | give x a =>
    show (smallD (.str "give") && (smallD (.str x) && (smallD a.data && true))) = true
    rw [Ex.small a, small_name h.1]; decide +kernel
  | fork x a =>
    show (smallD (.str "fork") && (smallD (.str x) && (smallD a.data && true))) = true
    rw [Ex.small a, small_name h.1]; decide +kernel
  | call x a =>
    show (smallD (.str "call") && (smallD (.str x) && (smallD a.data && true))) = true
    rw [Ex.small a, small_name h.1]; decide +kernel
  | wait => decide +kernel
  | skip a k =>
    show (smallD (.str "skip") && (smallD a.data && (smallD (.int k) && true))) = true
    rw [Ex.small a]
    show (smallD (.str "skip") && (true && (true && true))) = true
    decide +kernel
theorem smallDs_of : ∀ {ds : List PyData}, (∀ d ∈ ds, smallD d = true) → smallDs ds = true
  | [], _ => rfl
  | d :: ds, h => by
    show (smallD d && smallDs ds) = true
    rw [h d (by simp), smallDs_of fun e he => h e (List.mem_cons_of_mem _ he)]
    rfl
theorem stepsOk_mem {ns : List Str} : ∀ {ss : List Stp}, stepsOk ns ss → ∀ s ∈ ss, ∃ bh, s.ok ns bh
  | [], _, s, h => by cases h
  | t :: r, h, s, hs => by
    rcases List.mem_cons.mp hs with rfl | hs
    · exact ⟨_, h.1⟩
    · exact stepsOk_mem h.2 s hs
theorem prg_small {p : Prg} (h : PrgOk p) : smallD (prgD p) = true := by
  refine smallDs_of fun d hd => ?_
  obtain ⟨r, hr, rfl⟩ := List.mem_map.mp hd
  show (smallD (.str r.1) && (smallD (.list (r.2.map Stp.data)) && true)) = true
  rw [small_name (h.names r hr)]
  have : smallDs (r.2.map Stp.data) = true := smallDs_of fun d hd => by
    obtain ⟨s, hs, rfl⟩ := List.mem_map.mp hd
    obtain ⟨bh, hb⟩ := stepsOk_mem (h.steps r hr) s hs
    exact Stp.small hb
  show (true && (smallDs (r.2.map Stp.data) && true)) = true
  rw [this]
  rfl
theorem prg_len {p : Prg} (h : PrgOk p) : lenOk (prgD p) = true := decide_eq_true (by
  have := h.few
  show (p.map rowD).length ≤ 1000
  rw [List.length_map]
  omega)
/-! no dicts in it, not deep -/
theorem Ex.flat : ∀ e : Ex, noDic e.data = true
  | .num _ => rfl
  | .arg => rfl
  | .cell a => by
    show (true && (noDic a.data && true)) = true
    rw [Ex.flat a]; rfl
  | .add a b => by
    show (true && (noDic a.data && (noDic b.data && true))) = true
    rw [Ex.flat a, Ex.flat b]; rfl
  | .less a b => by
    show (true && (noDic a.data && (noDic b.data && true))) = true
    rw [Ex.flat a, Ex.flat b]; rfl
  | .least a b => by
    show (true && (noDic a.data && (noDic b.data && true))) = true
    rw [Ex.flat a, Ex.flat b]; rfl
theorem Stp.flat (s : Stp) : noDic s.data = true := by
  cases s with
  | cell a b =>
    show (true && (noDic a.data && (noDic b.data && true))) = true
    rw [Ex.flat a, Ex.flat b]; rfl
  | give x a => show (true && (true && (noDic a.data && true))) = true; rw [Ex.flat a]; rfl
  | fork x a => show (true && (true && (noDic a.data && true))) = true; rw [Ex.flat a]; rfl
  | call x a => show (true && (true && (noDic a.data && true))) = true; rw [Ex.flat a]; rfl
  | wait => rfl
  | skip a k => show (true && (noDic a.data && (true && true))) = true; rw [Ex.flat a]; rfl
theorem noDics_of : ∀ {ds : List PyData}, (∀ d ∈ ds, noDic d = true) → noDics ds = true
  | [], _ => rfl
  | d :: ds, h => by
    show (noDic d && noDics ds) = true
    rw [h d (by simp), noDics_of fun e he => h e (List.mem_cons_of_mem _ he)]
    rfl
theorem prg_noDic (p : Prg) : noDic (prgD p) = true := by
  refine noDics_of fun d hd => ?_
  obtain ⟨r, hr, rfl⟩ := List.mem_map.mp hd
  show (true && (noDics (r.2.map Stp.data) && true)) = true
  rw [noDics_of fun d hd => by
    obtain ⟨s, hs, rfl⟩ := List.mem_map.mp hd
    exact Stp.flat s]
  rfl
theorem Ex.depth_le : ∀ e : Ex, e.data.depth ≤ e.deep
  | .num _ => Nat.zero_le _
  | .arg => by show 1 ≤ 1; exact Nat.le_refl _
  | .cell a => by
    have := Ex.depth_le a
    show max 0 (max a.data.depth 0) + 1 ≤ a.deep + 1
    omega
  | .add a b => by
    have := Ex.depth_le a
    have := Ex.depth_le b
    show max 0 (max a.data.depth (max b.data.depth 0)) + 1 ≤ max a.deep b.deep + 1
    omega
  | .less a b => by
    have := Ex.depth_le a
    have := Ex.depth_le b
    show max 0 (max a.data.depth (max b.data.depth 0)) + 1 ≤ max a.deep b.deep + 1
    omega
  | .least a b => by
    have := Ex.depth_le a
    have := Ex.depth_le b
    show max 0 (max a.data.depth (max b.data.depth 0)) + 1 ≤ max a.deep b.deep + 1
    omega
theorem Stp.depth_le {ns : List Str} {bh : Int} {s : Stp} (h : s.ok ns bh) : s.data.depth ≤ 6 := by
  cases s with
  | cell a b =>
    have := Ex.depth_le a
    have := Ex.depth_le b
    have := h.1
    have := h.2
    show max 0 (max a.data.depth (max b.data.depth 0)) + 1 ≤ 6
    omega
  | give x a =>
    have := Ex.depth_le a
    have := h.2
    show max 0 (max 0 (max a.data.depth 0)) + 1 ≤ 6
    omega
  | fork x a =>
    have := Ex.depth_le a
    have := h.2.2
    show max 0 (max 0 (max a.data.depth 0)) + 1 ≤ 6
    omega
  | call x a =>
    have := Ex.depth_le a
    have := h.2.2
    show max 0 (max 0 (max a.data.depth 0)) + 1 ≤ 6
    omega
  | wait => show 1 ≤ 6; decide
  | skip a k =>
    have := Ex.depth_le a
    have := h.1
    show max 0 (max a.data.depth (max 0 0)) + 1 ≤ 6
    omega
theorem depthAll_le {n : Nat} : ∀ {ds : List PyData}, (∀ d ∈ ds, d.depth ≤ n) → PyData.depthAll ds ≤ n
  | [], _ => Nat.zero_le _
  | d :: ds, h => by
    have h1 := h d (by simp)
    have h2 := depthAll_le fun e he => h e (List.mem_cons_of_mem d he)
    show max d.depth (PyData.depthAll ds) ≤ n
    omega
theorem prg_depth {p : Prg} (h : PrgOk p) : (prgD p).depth ≤ 10 := by
  have : PyData.depthAll (p.map rowD) ≤ 9 := depthAll_le fun d hd => by
    obtain ⟨r, hr, rfl⟩ := List.mem_map.mp hd
    have : PyData.depthAll (r.2.map Stp.data) ≤ 6 := depthAll_le fun d hd => by
      obtain ⟨s, hs, rfl⟩ := List.mem_map.mp hd
      obtain ⟨bh, hb⟩ := stepsOk_mem (h.steps r hr) s hs
      exact Stp.depth_le hb
    show max 0 (max (PyData.depthAll (r.2.map Stp.data) + 1) 0) + 1 ≤ 9
    omega
  show PyData.depthAll (p.map rowD) + 1 ≤ 10
  omega
/-! no lists in it -/
mutual
def noL : PyData → Bool
  | .list _ => false
  | .dict _ => false
  | .tuple ds => noLs ds
  | _ => true
def noLs : List PyData → Bool
  | [] => true
  | d :: ds => noL d && noLs ds
end
mutual
theorem R.pure {S : Addr → Prop} {H : Hp} : ∀ {d : PyData} {v : V}, R S H v d → noL d = true → Im H v d
  | .none, _, h, _ => by cases h; exact .non
  | .bool _, _, h, _ => by cases h; exact .bl _
  | .int _, _, h, _ => by cases h; exact .int _
  | .str _, _, h, _ => by cases h; exact .str _
  | .list ds, _, h, z => by cases z
  | .tuple ds, _, h, z => by
    cases h with
    | tup e r => exact .tup e (RA.pure r z)
  | .dict _, _, h, z => by cases z
theorem RA.pure {S : Addr → Prop} {H : Hp} : ∀ {ds : List PyData} {vs : List V}, RA S H vs ds → noLs ds = true → ImA H vs ds
  | [], _, h, _ => by cases h; exact .nil
  | d :: ds, _, h, z => by
    obtain ⟨z1, z2⟩ := Bool.and_eq_true_iff.mp (show (noL d && noLs ds) = true from z)
    cases h with
    | cons a b => exact .cons (R.pure a z1) (RA.pure b z2)
end
theorem Ex.noL : ∀ e : Ex, Fg.noL e.data = true
  | .num _ => rfl
  | .arg => rfl
  | .cell a => by
    show (true && (Fg.noL a.data && true)) = true
    rw [Ex.noL a]; rfl
  | .add a b => by
    show (true && (Fg.noL a.data && (Fg.noL b.data && true))) = true
    rw [Ex.noL a, Ex.noL b]; rfl
  | .less a b => by
    show (true && (Fg.noL a.data && (Fg.noL b.data && true))) = true
    rw [Ex.noL a, Ex.noL b]; rfl
  | .least a b => by
    show (true && (Fg.noL a.data && (Fg.noL b.data && true))) = true
    rw [Ex.noL a, Ex.noL b]; rfl
theorem Stp.noL (s : Stp) : Fg.noL s.data = true := by
  cases s with
  | cell a b =>
    show (true && (Fg.noL a.data && (Fg.noL b.data && true))) = true
    rw [Ex.noL a, Ex.noL b]; rfl
  | give x a => show (true && (true && (Fg.noL a.data && true))) = true; rw [Ex.noL a]; rfl
  | fork x a => show (true && (true && (Fg.noL a.data && true))) = true; rw [Ex.noL a]; rfl
  | call x a => show (true && (true && (Fg.noL a.data && true))) = true; rw [Ex.noL a]; rfl
  | wait => rfl
  | skip a k => show (true && (Fg.noL a.data && (true && true))) = true; rw [Ex.noL a]; rfl
theorem noLs_of : ∀ {ds : List PyData}, (∀ d ∈ ds, Fg.noL d = true) → noLs ds = true
  | [], _ => rfl
  | d :: ds, h => by
    show (Fg.noL d && noLs ds) = true
    rw [h d (by simp), noLs_of fun e he => h e (List.mem_cons_of_mem _ he)]
    rfl
theorem steps_noL (ss : List Stp) : noLs (ss.map Stp.data) = true := noLs_of fun d hd => by
  obtain ⟨s, _, rfl⟩ := List.mem_map.mp hd
  exact Stp.noL s
end Fg
namespace PySem.SeqAt
open AutoSeq1 (wpAny_loadPart')
open MeetsSeq
theorem fg_dict_declines_str (l : Addr) (es : Array DictEntry) (n : Nat) (dd : Option Addr) (sl : Array (Option Value)) (b : Str) (u : Tok) :
    Meets (Builtin.«dict.__eq__» ⟨[.ref l, .str b u], []⟩) (fun _ R s => s.heap.get? l = some { cls := .type "dict", dict := dd, data := .dict es n, slots := sl } ∧ R (.ok (.ret .notImplemented)) s) :=
  .of_wp fun prog w A R s h => by obtain ⟨hp, g, d, tk, os⟩ := s; obtain ⟨hl, h⟩ := h; have f1 := F.sub_str_dict; wp_walk using wpAny_loadPart' hl, wpAny_load hl; exact ⟨_, rfl, h⟩
theorem fg_str_declines_dict (b : Str) (u : Tok) (l : Addr) (es : Array DictEntry) (n : Nat) (dd : Option Addr) (sl : Array (Option Value)) :
    Meets (Builtin.«str.__eq__» ⟨[.str b u, .ref l], []⟩) (fun _ R s => s.heap.get? l = some { cls := .type "dict", dict := dd, data := .dict es n, slots := sl } ∧ R (.ok (.ret .notImplemented)) s) :=
  .of_wp fun prog w A R s h => by obtain ⟨hp, g, d, tk, os⟩ := s; obtain ⟨hl, h⟩ := h; wp_walk using wpAny_loadPart' hl, wpAny_load hl; exact ⟨_, rfl, h⟩
theorem fg_dict_declines_tuple (l b : Addr) (es : Array DictEntry) (items : Array Value) (n n2 : Nat) (dd dd2 : Option Addr) (sl sl2 : Array (Option Value)) :
    Meets (Builtin.«dict.__eq__» ⟨[.ref l, .ref b], []⟩) (fun _ R s => s.heap.get? l = some { cls := .type "dict", dict := dd, data := .dict es n, slots := sl } ∧ s.heap.get? b = some { cls := .type "tuple", dict := dd2, data := .seq items n2, slots := sl2 } ∧ R (.ok (.ret .notImplemented)) s) :=
  .of_wp fun prog w A R s h => by obtain ⟨hp, g, d, tk, os⟩ := s; obtain ⟨hl, hb, h⟩ := h; have f1 := F.sub_tuple_dict; wp_walk using wpAny_loadPart' hl, wpAny_load hl, wpAny_loadPart' hb, wpAny_load hb; exact ⟨_, rfl, h⟩
theorem fg_tuple_declines_dict (b l : Addr) (items : Array Value) (es : Array DictEntry) (n2 n : Nat) (dd2 dd : Option Addr) (sl2 sl : Array (Option Value)) :
    Meets (Builtin.«tuple.__eq__» ⟨[.ref b, .ref l], []⟩) (fun _ R s => s.heap.get? b = some { cls := .type "tuple", dict := dd2, data := .seq items n2, slots := sl2 } ∧ s.heap.get? l = some { cls := .type "dict", dict := dd, data := .dict es n, slots := sl } ∧ R (.ok (.ret .notImplemented)) s) :=
  .of_wp fun prog w A R s h => by obtain ⟨hp, g, d, tk, os⟩ := s; obtain ⟨hb, hl, h⟩ := h; have f1 : isSubtype (.type "dict") (.type "tuple") = pure false := by rw [isSubtype_type]; kernel_rfl
                                  wp_walk using wpAny_loadPart' hb, wpAny_load hb, wpAny_loadPart' hl, wpAny_load hl; exact ⟨_, rfl, h⟩
section
variable {A : Around} {s : Shared}
theorem fg_dict_str {l : Addr} {es : Array DictEntry} {n : Nat} {dd : Option Addr} {sl : Array (Option Value)} (b : Str) (u : Tok) (ho : s.heap.get? l = some { cls := .type "dict", dict := dd, data := .dict es n, slots := sl }) (hu : A.units < cLine) : RcAt A s (.ref l) (.str b u) false := fun prog w E Q h =>
  rc_eq_decline_or (k := false) ⟨_, ho, rfl⟩ (typeIs_str s b u) (by decide) F.sub_str_dict F.slot_dict_eq F.slot_str_eq_refl
    (fun _ hq => call_meets F.slot_dict_eq ⟨_, ho, rfl⟩ F.entry_dict_eq (F.args_dict_eq_2 _ _) (fg_dict_declines_str l es n dd sl b u) ⟨ho, hq⟩)
    (fun _ hq => call_meets F.slot_str_eq_refl (typeIs_str s b u) F.entry_str_eq (F.args_str_eq_2 _ _) (fg_str_declines_dict b u l es n dd sl) ⟨ho, hq⟩)
    (fun _ hq => wpAny_of_eq (rfl : isSame (.ref l) (.str b u) = pure false) hq) (.inr hu) h
theorem fg_eq_dict_str {l : Addr} {es : Array DictEntry} {n : Nat} {dd : Option Addr} {sl : Array (Option Value)} (b : Str) (u : Tok) (ho : s.heap.get? l = some { cls := .type "dict", dict := dd, data := .dict es n, slots := sl }) (hu : A.units < cLine) : EqAt A s (.ref l) (.str b u) false := fun prog w E Q h => by
  unfold eqBool
  refine wpAny_holding ?_
  refine wpAny_ite_split (fun hab => absurd (eq_of_beq hab) nofun) (fun _ => ?_)
  exact wpAny_bind (fg_dict_str b u ho hu prog w E _ (wpAny_truthy_bool h))
theorem fg_dict_tuple {l b : Addr} {es : Array DictEntry} {items : Array Value} {n : Nat} {dd : Option Addr} {sl : Array (Option Value)} (ho : s.heap.get? l = some { cls := .type "dict", dict := dd, data := .dict es n, slots := sl }) (hb : s.heap.IsTuple b items) (hu : A.units < cLine) :
    RcAt A s (.ref l) (.ref b) false := fun prog w E Q h => by
  obtain ⟨⟨cls2, dd2, data2, sl2⟩, ho2, hc2, n2, hd2⟩ := id hb
  simp only at hc2 hd2
  subst hc2 hd2
  have hne : l ≠ b := fun z => by
    rw [z, ho2] at ho
    injection ho with ho
    injection ho with e1 e2 e3
    cases e3
  exact (rc_eq_decline_or (k := false) ⟨_, ho, rfl⟩ ⟨_, ho2, rfl⟩ (by decide) F.sub_tuple_dict F.slot_dict_eq F.slot_tuple_eq_refl
    (fun _ hq => call_meets F.slot_dict_eq ⟨_, ho, rfl⟩ F.entry_dict_eq (F.args_dict_eq_2 _ _) (fg_dict_declines_tuple l b es items n n2 dd dd2 sl sl2) ⟨ho, ho2, hq⟩)
    (fun _ hq => call_meets F.slot_tuple_eq_refl ⟨_, ho2, rfl⟩ F.entry_tuple_eq (F.args_tuple_eq_2 _ _) (fg_tuple_declines_dict b l items es n2 n dd2 dd sl2 sl) ⟨ho2, ho, hq⟩)
    (fun _ hq => wpAny_isSame_ref_other hne ho ho2 (by simp) hq) (.inr hu) h)
end
end PySem.SeqAt
namespace Fg
open PySem PySem.Spec PyProof.Rows L2
/-- d is the tuple of the one text z -/
def isT1 (z : Str) : PyData → Bool
  | .tuple [.str y] => y == z
  | _ => false
def is0 (z : Str) : PyData → Bool
  | .str y => y == z
  | _ => false
def oEqT1 : R2 := fun x y H Q => ∃ (d : PyData) (S : Addr → Prop) (z : Str) (p : Addr), R S H x d ∧ y = .ref p ∧ H p = some (.tup [.str z]) ∧ Q (.bl (isT1 z d)) H
def oEqE : R2 := fun x y H Q => ∃ (p q : Addr) (xs : List V), x = .ref p ∧ y = .ref q ∧ ((H p = some (.lst xs) ∧ H q = some (.lst [])) ∨ (H p = some (.tup xs) ∧ H q = some (.tup []))) ∧ Q (.bl xs.isEmpty) H
section
variable {X : Cx} {pins : List (Addr × Obj)} {σ : L2.St} {H : Hp} {s : Shared}
theorem tupAt {p : Addr} {xs : List V} (I : Inv X pins σ H s) (h : H p = some (.tup xs)) : ∃ its : List Value, Vals xs its ∧ s.heap.IsTuple p its.toArray := by
  obtain ⟨_, its, rv, o, h1, h2, n, h3⟩ := (show ObjOk X.prog X.w H s.heap p (.tup xs) from I.hok p _ h)
  exact ⟨its, rv, ⟨o, h1, h2, n, h3⟩⟩
theorem lstAt {p : Addr} {xs : List V} (I : Inv X pins σ H s) (h : H p = some (.lst xs)) : ∃ its : List Value, Vals xs its ∧ s.heap.IsList p its.toArray := by
  obtain ⟨_, its, n, rv, h1⟩ := (show ObjOk X.prog X.w H s.heap p (.lst xs) from I.hok p _ h)
  exact ⟨its, rv, ⟨_, h1, rfl, n, rfl⟩⟩
theorem dicAt {p : Addr} {kvs : List (Key × V)} (I : Inv X pins σ H s) (h : H p = some (.dK kvs)) : ∃ (es : Array DictEntry) (n : Nat) (dd : Option Addr) (sl : Array (Option Value)), s.heap.get? p = some { cls := .type "dict", dict := dd, data := .dict es n, slots := sl } := by
  obtain ⟨_, _, vs, _, o, es, ep, h1, h2, h3, _⟩ := (show ObjOk X.prog X.w H s.heap p (.dK kvs) from I.hok p _ h)
  obtain ⟨oc, od, dt, sl⟩ := o
  obtain ⟨h4, h5, h6⟩ := h2
  simp only at h3 h4 h5 h6
  subst h3 h4
  exact ⟨es, ep, od, sl, h1⟩
/-- an item against a text -/
theorem eqAt_text {A : Around} {S : Addr → Prop} {v : V} {d : PyData} {u : Value} {z : Str} {t : Tok} (I : Inv X pins σ H s) (r : R S H v d) (rv : RelV v u) (hu : A.units < cLine) : SeqAt.EqAt A s u (.str z t) (is0 z d) := by
  cases r with
  | non => cases (show u = Value.none from rv); exact SeqAt.EqAt.none_str z t
  | bl b => cases (show u = Value.bool b from rv); exact SeqAt.EqAt.bool_str b z t
  | int i =>
    obtain ⟨k, q⟩ := (show ∃ k, u = Value.int i k from rv)
    cases q
    exact SeqAt.EqAt.int_str i k z t
  | str x =>
    obtain ⟨k, q⟩ := (show ∃ k, u = Value.str x k from rv)
    cases q
    exact SeqAt.EqAt.str_str x k z t
  | @lst a xs ds sa ea ra =>
    cases (show u = Value.ref a from rv)
    obtain ⟨its, _, hl⟩ := lstAt I ea
    exact SeqAt.EqAt.list_str z t hl hu
  | @tup a xs ds ea ra =>
    cases (show u = Value.ref a from rv)
    obtain ⟨its, _, hl⟩ := tupAt I ea
    exact SeqAt.EqAt.tuple_str z t hl hu
  | @dic a kvs sa ea =>
    cases (show u = Value.ref a from rv)
    obtain ⟨es, n, dd, sl, ho⟩ := dicAt I ea
    exact SeqAt.fg_eq_dict_str z t ho hu
theorem p_eqT1 (hu : X.A.units + 64 < cLine) : OpR X (compareOp .Eq) oEqT1 := by
  intro pins s σ H x y v u Q I rx ry h
  obtain ⟨d, S, z, p, r, rfl, hp, q⟩ := h
  cases (show u = Value.ref p from ry)
  have hu0 : X.A.units < cLine := by omega
  obtain ⟨itp, rp, tp⟩ := tupAt I hp
  have fin : ∀ b, SeqAt.RcAt X.A s v (.ref p) b → isT1 z d = b → wpAny (model X.prog X.w) X.A (compareOp .Eq v (.ref p)) (EP X pins σ Q) X.xe s := fun b hb e => by
    subst e
    exact hb X.prog X.w X.xe _ ⟨.bl _, H, I, rfl, q⟩
  cases r with
  | non => cases (show v = Value.none from rx); exact fin _ (SeqAt.RcAt.none_tuple tp hu0) rfl
  | bl b => cases (show v = Value.bool b from rx); exact fin _ (SeqAt.RcAt.bool_tuple b tp hu0) rfl
  | int i =>
    obtain ⟨k, q⟩ := (show ∃ k, v = Value.int i k from rx)
    cases q
    exact fin _ (SeqAt.RcAt.int_tuple i k tp hu0) rfl
  | str w =>
    obtain ⟨k, q⟩ := (show ∃ k, v = Value.str w k from rx)
    cases q
    exact fin _ (SeqAt.RcAt.str_tuple w k tp hu0) rfl
  | @lst a xs ds sa ea ra =>
    cases (show v = Value.ref a from rx)
    obtain ⟨its, _, hl⟩ := lstAt I ea
    exact fin _ (SeqAt.RcAt.list_tuple hl tp hu0) rfl
  | @dic a kvs sa ea =>
    cases (show v = Value.ref a from rx)
    obtain ⟨es, n, dd, sl, ho⟩ := dicAt I ea
    exact fin _ (SeqAt.fg_dict_tuple ho tp hu0) rfl
  | @tup a xs ds ea ra =>
    cases (show v = Value.ref a from rx)
    obtain ⟨its, rv, hl⟩ := tupAt I ea
    cases rp with
    | cons rz rn =>
      cases rn
      obtain ⟨t, rfl⟩ := rz
      cases ra with
      | nil =>
        cases rv
        refine fin _ (SeqAt.RcAt.tuples (e := fun _ => true) hl tp hu0 fun j h1 h2 => absurd h1 (by simp)) rfl
      | @cons v0 vs0 d0 ds0 r0 rs =>
        cases rv with
        | @cons _ u0 _ us0 q0 qs =>
          have e0 := eqAt_text (A := X.A.in1) (z := z) (t := t) I r0 q0 (show X.A.units + 1 < cLine by omega)
          refine fin _ (SeqAt.RcAt.tuples (e := fun _ => is0 z d0) hl tp hu0 fun j h1 h2 => ?_) ?_
          · have hj : j = 0 := by
              have : j < 1 := h2
              omega
            subst hj
            exact e0
          · have l1 : us0.length = ds0.length := by rw [← Paired.length qs, rs.length]
            cases ds0 with
            | nil =>
              have l2 : us0 = [] := List.length_eq_zero_iff.mp l1
              subst l2
              cases d0 <;> first | rfl | simp [isT1, is0]
            | cons d1 ds1 =>
              cases us0 with
              | nil => simp at l1
              | cons u1 us1 => cases d0 <;> simp [isT1, is0]
theorem p_eqE (hu : X.A.units + 64 < cLine) : OpR X (compareOp .Eq) oEqE := by
  intro pins s σ H x y v u Q I rx ry h
  obtain ⟨p, q, xs, rfl, rfl, hc, hq⟩ := h
  cases (show v = Value.ref p from rx)
  cases (show u = Value.ref q from ry)
  have hu0 : X.A.units < cLine := by omega
  have fin : ∀ b, SeqAt.RcAt X.A s (.ref p) (.ref q) b → xs.isEmpty = b → wpAny (model X.prog X.w) X.A (compareOp .Eq (.ref p) (.ref q)) (EP X pins σ Q) X.xe s := fun b hb e => by
    subst e
    exact hb X.prog X.w X.xe _ ⟨.bl _, H, I, rfl, hq⟩
  rcases hc with ⟨h1, h2⟩ | ⟨h1, h2⟩
  · obtain ⟨i1, r1, l1⟩ := lstAt I h1
    obtain ⟨i2, r2, l2⟩ := lstAt I h2
    cases r2
    cases r1 with
    | nil => exact fin _ (SeqAt.RcAt.lists (e := fun _ => true) l1 l2 rfl hu0 fun j h1 h2 => absurd h1 (by simp)) rfl
    | cons a b => exact fin _ (SeqAt.RcAt.lists_lengths l1 l2 (by simp) hu0) rfl
  · obtain ⟨i1, r1, l1⟩ := tupAt I h1
    obtain ⟨i2, r2, l2⟩ := tupAt I h2
    cases r2
    cases r1 with
    | nil => exact fin _ (SeqAt.RcAt.tuples (e := fun _ => true) l1 l2 hu0 fun j h1 h2 => absurd h1 (by simp)) rfl
    | cons a b => exact fin _ (SeqAt.RcAt.tuples (e := fun _ => true) l1 l2 hu0 fun j h1 h2 => absurd h2 (by simp)) (by simp)
end
section
variable {H : Hp} {Q : VK} {x y : V}
theorem w_eqT1 {d : PyData} {S : Addr → Prop} {z : Str} {p : Addr} (r : R S H x d) (hp : H p = some (.tup [.str z])) (q : Q (.bl (isT1 z d)) H) : oEqT1 x (.ref p) H Q := ⟨d, S, z, p, r, rfl, hp, q⟩
theorem w_eqEL {p q : Addr} {xs : List V} (h1 : H p = some (.lst xs)) (h2 : H q = some (.lst [])) (k : Q (.bl xs.isEmpty) H) : oEqE (.ref p) (.ref q) H Q := ⟨p, q, xs, rfl, rfl, .inl ⟨h1, h2⟩, k⟩
theorem w_eqET {p q : Addr} {xs : List V} (h1 : H p = some (.tup xs)) (h2 : H q = some (.tup [])) (k : Q (.bl xs.isEmpty) H) : oEqE (.ref p) (.ref q) H Q := ⟨p, q, xs, rfl, rfl, .inr ⟨h1, h2⟩, k⟩
end
end Fg
/-! ### set(l) of a list of ints -/
namespace L2
open PySem PySem.Spec PyProof.Rows
abbrev nSet (w : World) : Obj := { cls := .type "set", dict := none, data := .set #[] 0 (.fresh 0 0 (!w.params.followText "set-order")) }
section
variable {P : Program} {w : World} {A : Around} {E : Value → Shared → Prop} {s : Shared}
theorem fg_set_list {l : Addr} {items : Array Value} (ns : List Int) {Q : Value → Shared → Prop} (hh : A.handled = none) (hl : s.heap.IsList l items) (hit : IntsAre items.toList ns) (hb : ns.length + 1 < scanBound)
    (h : ∀ (h' : Heap) (tk c : Nat), SetR w h' s.heap.objs.size (fun j => decide (j ∈ ns)) c → c ≤ ns.length → (∀ b o, s.heap.get? b = some o → h'.get? b = some o) → Q (.ref s.heap.objs.size) { s with heap := h', toks := tk }) :
    wpAny (model P w) A (call (.type "set") [.ref l]) Q E s := by
  have nIt : items.size = ns.length := (Array.length_toList (xs := items)).symm.trans (IntsAre.length hit)
  obtain ⟨c, tl, hmro⟩ := F.called_set.mro
  have hmade := F.called_set.made
  have hsub := F.called_set.sub
  refine wpAny_call (codeAny_of_tree ?_)
  show wpAny _ _ (callAny (.type "set") _) _ _ _
  refine wpAny_pure ⟨Code.quiet_builtin _ (by decide +kernel), codeAny_builtin F.entry_type_call ?_⟩
  rw [Around.under_plain (weight_type_call_type "set" [.ref l] []) rfl]
  have z1 := F.called_set.notType
  have z2 := F.called_set.canCreate
  have z3 := F.typeCall_set_1 (.ref l)
  repeat (any_goals (first | assumption | wp_step))
  refine codeAny_mono (code_set_led1 (.ref l) (E := E) (Q₁ := fun obj s₁ => obj = .ref s.heap.objs.size ∧ s₁ = { s with heap := s.heap.push (nSet w) }) ⟨rfl, rfl⟩) fun r s₁ hr => ?_
  cases r with
  | error e => exact hr
  | ok fl =>
    cases fl with
    | ret obj =>
      obtain ⟨rfl, rfl⟩ := hr
      have hS : (s.heap.push (nSet w)).get? s.heap.objs.size = some (nSet w) := Heap.get?_push_size _ rfl
      have hT : Shared.TypeIs { s with heap := s.heap.push (nSet w) } (.ref s.heap.objs.size) "set" := ⟨_, hS, rfl⟩
      have y1 := F.called_set.init.lookup
      have y2 := F.called_set.init.bind (.ref s.heap.objs.size)
      repeat (any_goals (first | assumption | wp_step))
      refine codeAny_mono (codeAny_call_builtin (R := wants (fun r s₂ => r = .none ∧ ∃ h' tk c, s₂ = { s with heap := h', toks := tk } ∧ SetR w h' s.heap.objs.size (fun j => decide (j ∈ ns)) c ∧ c ≤ ns.length ∧
          (∀ b o, s.heap.get? b = some o → h'.get? b = some o)) E) F.called_set.init.plain F.entry_set_init (check_set_init_1 hT ?_)) fun r₂ s₂ hr₂ => ?_
      · obtain ⟨⟨oc, od, ot, os⟩, hol, hcl, nl, hdl⟩ := hl
        simp only at hcl hdl
        subst hcl; subst hdl
        have hol' : (s.heap.push (nSet w)).get? l = some { cls := .type "list", dict := od, data := .seq items nl, slots := os } := Heap.get?_push_of_some _ hol
        have x1 := F.sub_list_set
        have x2 := F.sub_list_frozenset
        have x3 : (Value.type "list" == Value.type "dict") = false := by decide
        have hl1 : (s.heap.push (nSet w)).IsList l items := ⟨_, hol', rfl, nl, rfl⟩
        unfold Builtin.«set.__init__» noKeywords Builtin.Frozenset.updateFrom
        generalize hPI : pyIter = PI
        wp_walk
        subst hPI
        refine wpAny_pyIter_list hl1 ?_
        refine wpAny_bind (wpAny_runValue ?_)
        have lS : l < s.heap.objs.size := Heap.lt_size hol
        have h3 : A.in1.in1.in1.handled = none := by simp [hh]
        have neI : l ≠ (s.heap.push (nSet w)).objs.size := by
          rw [Heap.size_push]; exact Nat.ne_of_lt (Nat.lt_succ_of_lt lS)
        have nSf : s.heap.objs.size ∉ [(s.heap.push (nSet w)).objs.size, l] := by
          rw [Heap.size_push]; simp only [List.mem_cons, List.mem_singleton, List.not_mem_nil, or_false, not_or]
          exact ⟨Nat.ne_of_lt (Nat.lt_succ_self _), Nat.ne_of_gt lS⟩
        have vals : ∀ (i : Nat) (v : Value), items[i]? = some v → ∃ k t, ns[i]? = some k ∧ v = .int k t := fun i v hv => by
          have hi : i < ns.length := by rw [← nIt]; exact (Array.getElem?_eq_some_iff.mp hv).1
          obtain ⟨t, e⟩ := PyProof.Rows.IntsAre.int_at hit i v (by rw [Array.getElem?_toList]; exact hv)
          refine ⟨ns[i], t, List.getElem?_eq_getElem hi, ?_⟩
          rw [e, List.getD_eq_getElem?_getD, List.getElem?_eq_getElem hi] <;> rfl
        refine set_update_ints ((Walks.list h3 _ l neI items).toS) s.heap.objs.size nSf ns nIt hb vals (items.size - 0) 0 _ (by omega) (Nat.zero_le _)
          ⟨⟨_, Heap.get?_push_size _ rfl, rfl, rfl⟩, (hl1.push _)⟩ ⟨0, Nat.le_refl 0, setR_new_at (Heap.get?_push_of_some _ hS)⟩ ?hR
        case hR =>
          intro s' c' hm hc' hS'
          obtain ⟨h', g2, d', tk', os'⟩ := s'
          have eg : g2 = s.gens := hm.gens
          have ed : d' = s.drawn := hm.drawn
          have eo : os' = s.os := hm.os
          subst eg; subst ed; subst eo
          show wpAny _ _ _ _ _ _
          refine wpAny_pure ?_
          show wpAny _ _ (ret Value.none) _ _ _
          rw [nIt] at hc'
          refine wpAny_pure ⟨rfl, h', tk', c', rfl, hS', hc', fun b o e => ?_⟩
          have b0 : b < s.heap.objs.size := Heap.lt_size e
          have b2 : b ≠ (s.heap.push (nSet w)).objs.size := by
            rw [Heap.size_push]; exact Nat.ne_of_lt (Nat.lt_succ_of_lt b0)
          exact hm.heap b o (by simp only [List.mem_cons, List.mem_singleton, List.not_mem_nil, or_false, not_or]; exact ⟨Nat.ne_of_lt b0, b2⟩) (Heap.get?_push_of_some _ (Heap.get?_push_of_some _ e))
      · cases r₂ with
        | error e => exact hr₂
        | ok fl₂ =>
          cases fl₂ with
          | ret r =>
            obtain ⟨rfl, h', tk, c', rfl, hS', hc', hk'⟩ := hr₂
            repeat (any_goals (first | assumption | wp_step))
            exact h _ _ _ hS' hc' hk'
          | _ => exact hr₂.elim
    | _ => exact hr.elim
end
end L2
namespace Fg
open PySem PySem.Spec PyProof.Rows L2
section
variable {X : Cx}
def cSetL (K : PySem.W.Frag) (w : World) : List V → Hp → VK → Prop := fun xs H Q => ∃ (l : Addr) (ns : List Int), xs = [.ref l] ∧ SqL K H l (ns.map V.int) ∧ ns.length < 60 ∧ ∀ p c, H p = none → c ≤ ns.length → Q (.ref p) (upd H p (SetO w p (fun j => decide (j ∈ ns)) c))
theorem p_setL (hc : X.calm = true) : CallR X (.type "set") (cSetL X.K X.w) := by
  intro pins s σ H xs us Q I r h
  obtain ⟨l, ns, rfl, hl, hz, q⟩ := h
  rw [Vals.ref1 r]
  obtain ⟨its, rv, pl, _⟩ := I.list hl
  refine fg_set_list ns (I.ok.hd hc) pl.isList (by simpa using rv.ints) (Nat.lt_of_lt_of_le (show ns.length + 1 < 100 by omega) (by decide)) fun h' tk c R hc' k => ?_
  exact ⟨.ref _, upd H s.heap.objs.size (SetO X.w s.heap.objs.size (fun j => decide (j ∈ ns)) c), I.laid (t' := tk) k (Nat.le_refl _) (setO_new R), rfl, q _ c (I.hok.fresh (Nat.le_refl _)) hc'⟩
def cDictP (K : PySem.W.Frag) : List V → Hp → VK → Prop := fun xs H Q => ∃ (a : Addr) (ps : List Addr) (kvs : List (Key × V)), xs = [.ref a] ∧ SqL K H a (ps.map V.ref) ∧ Paired (fun p kv => SqT K H p [kV kv.1, kv.2]) ps kvs ∧ ∀ p, H p = none → Q (.ref p) (upd H p (.dK (mergeK [] kvs)))
theorem p_dictP (hc : X.calm = true) : CallR X (.type "dict") (cDictP X.K) := call_dictP hc
def cSortDS : List V → Hp → VK → Prop := fun xs H Q => ∃ (a : Addr) (kvs : List (Key × V)) (ks : List Str), xs = [.ref a] ∧ Rd H a (.dK kvs) ∧ kvs.map (·.1) = ks.map Sum.inr ∧ ks.length < 64 ∧ ∀ ys p, ys.Perm ks → sortedS ys = true → H p = none → Q (.ref p) (upd H p (.lst (ys.map V.str)))
theorem p_sortDS (hc : X.calm = true) : CallR X (.builtin "sorted") cSortDS := call_sortedD hc
/-- sorted(d), ints as keys, any number of them -/
def cSortDI : List V → Hp → VK → Prop := fun xs H Q => ∃ (a : Addr) (kvs : List (Key × V)) (ks : List Int), xs = [.ref a] ∧ Rd H a (.dK kvs) ∧ kvs.map (·.1) = ks.map Sum.inl ∧ ks.length ≤ 100000 ∧ ∀ (ys : List Int) p, ys.Perm ks → ys.Pairwise (· ≤ ·) → H p = none → Q (.ref p) (upd H p (.lst (ys.map V.int)))
theorem p_sortDI (hc : X.calm = true) : CallR X (.builtin "sorted") cSortDI := by
  intro pins s σ H xs us Q I r q
  obtain ⟨a, kvs, ks, ex, hd, hks, hz, q⟩ := q
  subst ex
  obtain ⟨u, eu, rx⟩ := vals1 r
  subst eu
  cases rx
  obtain ⟨z, lo, vs, rel, dd⟩ := dk_rd I.hok hd
  obtain ⟨ep, at0⟩ := dd.dictAt
  have ek : vs.map (·.1) = ks.map Sum.inl := rel.keys.symm.trans hks
  have hl : vs.length = ks.length := by
    have e := congrArg List.length ek
    rw [List.length_map, List.length_map] at e
    exact e
  have big : (100000 : Nat) ≤ sizeLine := by decide
  have h16 : vs.length ≤ sizeLine := by omega
  refine Calls.call_function_entry PyProof.Rows.kind_sorted PyProof.Rows.plain_sorted PyProof.Rows.entry_sorted (PyProof.Rows.args_sorted1 _) ?_
  unfold Builtin.«sorted»
  refine wpAny_bind (m := checkCount "sorted" 1 1 _) (wpAny_pure ?_)
  refine wpAny_bind (PySem.W.kdu_collect (A := X.A.in1) (PySem.W.kdl_dict (knd := mixKind X.prog X.w) (kvs := vs) (ep := ep) lo) (I.ok.hd hc) at0 h16 fun h' tk acc hk hacc => ?_)
  have hal : acc.toList.length = ks.length := by rw [Array.length_toList, hacc.1, hl]
  have hS : IntsAre acc.toList ks := ints_each hal fun j v e => by
    obtain ⟨k, x, e1, e2⟩ := hacc.2 j v (by rw [← Array.getElem?_toList]; exact e)
    have e3 : (vs.map (·.1))[j]? = some k := by rw [List.getElem?_map, e1]; rfl
    rw [ek, List.getElem?_map] at e3
    cases e4 : ks[j]? with
    | none => rw [e4] at e3; cases e3
    | some y =>
      rw [e4] at e3
      have e5 : Sum.inl y = k := Option.some.inj e3
      subst e5
      rcases keyIs_shape (show keyIs (Sum.inl y) v = true from e2) with ⟨i, t, ek, ev⟩ | ⟨z, t, ek, ev⟩
      · cases ek
        exact ⟨y, t, rfl, ev⟩
      · cases ek
  have I1 : Inv X pins σ H { s with heap := h', toks := tk } := I.kept hk
  refine wpAny_bind (wpAny_newList ?_ (by rw [hal]; omega))
  have hoL : (h'.push (seqObj "list" acc.toList.toArray 0)).get? h'.objs.size = some (seqObj "list" acc.toList.toArray 0) := Heap.get?_push_size _ rfl
  show wpAny _ _ _ _ _ { s with heap := h'.push (seqObj "list" acc.toList.toArray 0), toks := tk }
  refine wpAny_bind (wpAny_holding (wpAny_call_entry PyProof.Rows.slot_list_sort ⟨_, hoL, rfl⟩ PyProof.Rows.entry_list_sort
    (SrtO.list_sort_ord SrtO.swo_int hoL (by rw [hal]; omega) (fun h2 => SrtO.ints_sortable hS h2) fun out h1 h2 => ⟨_, rfl, ?_⟩) (PyProof.Rows.args_list_sort _)))
  obtain ⟨k1, k2, k3⟩ := SrtO.ints_out hS h1 h2
  obtain ⟨e', he'⟩ := PyProof.Rows.sortedHeap_at (vs := acc.toList) (out := out.toArray) hoL
  have hlen : ((out.map SrtO.iv).map V.int).length ≤ sizeLine := by
    rw [List.length_map, k2.length_eq]
    omega
  refine wpAny_pure ⟨_, rfl, .ref h'.objs.size, upd H h'.objs.size (.lst ((out.map SrtO.iv).map V.int)), I1.laid (t' := tk) (fun b u e => ?_) (Nat.le_refl _)
    (show ObjOk X.prog X.w _ _ _ (.lst ((out.map SrtO.iv).map V.int)) from ⟨hlen, out, e', vals_of_ints k1, he'⟩), rfl, q _ _ k2 k3 (I1.hok.fresh (Nat.le_refl _))⟩
  have hb : b < h'.objs.size := Heap.lt_size e
  rw [PyProof.Rows.sortedHeap_old (Nat.ne_of_lt hb) (by rw [size_push']; exact Nat.lt_succ_of_lt hb)]
  exact Heap.get?_push_of_some _ e
/-! ### a new instance -/
structure MkI (P : Program) (w : World) (K : PySem.W.Frag) (mg : Str → Option Value) (base : Heap) (k : Nat) (x : Str) (C : Addr) (sp : Sp) (dvs : List V) : Prop where
  ex : ∃ (f : Addr) (fd : FuncData) (ps : List Str) (ds : List Value), Mk K C f ∧ FnOk P w K mg base CX0 k f fd ps sp ∧ mg x = some (.ref C) ∧ Binds K fd ps ds ∧ Vals dvs ds
theorem pe_mkI {k j : Nat} {x : Str} {C : Addr} {sp : Sp} {dvs : List V} {p pos : Pos} {e : Expr} {es : List Expr} {t : TA} (c : MkI X.prog X.w X.K X.mg X.base k x C sp dvs) (hr : Room j X.A) (hk : k + 1 ≤ j) (hg : Gl X x) (ha : PA X (e :: es) t)
    (hdb : (x == ("__debug__" : Str)) = false := by decide) (he : starEach (e :: es) X.env = (false, eval e X.env) :: starEach es X.env := by rfl) (hpl : (backTo pos (starEach es X.env)).any (·.1) = false := by rfl) :
    PE X (.Call (.Name x p) (e :: es) [] pos) (tMake C sp dvs E0 t) := by
  obtain ⟨f, fd, ps, ds, M, F, hm, b, d⟩ := c.ex
  exact pe_make M F (hr.mono hk) hg hm b d pass0 ha hdb he hpl
end
end Fg
namespace Fg
open PySem PySem.Spec PyProof.Rows L2
/-! ### fields, by names -/
def KFld (K : PySem.W.Frag) (f : Str) (Q : VK) : VK := fun x H1 => ∃ a C dx fs v, x = .ref a ∧ H1 a = some (.ins C dx fs) ∧ Cls K C ∧ NoAttr K C f ∧ fs.lookup f = some v ∧ Q v H1
def KSet (K : PySem.W.Frag) (f : Str) (y : V) (N : Hp → Prop) : VK := fun x H2 => ∃ a C dx fs, x = .ref a ∧ H2 a = some (.ins C dx fs) ∧ Cls K C ∧ NoAttr K C f ∧ fs.length < 1000 ∧ N (upd H2 a (.ins C dx (putF f y fs)))
def KAugE (K : PySem.W.Frag) (C : Addr) (f : Str) (a : Addr) (N : Hp → Prop) : VK := fun z H3 => ∃ dx' fs', H3 a = some (.ins C dx' fs') ∧ fs'.length < 1000 ∧ N (upd H3 a (.ins C dx' (putF f z fs')))
def KAug (K : PySem.W.Frag) (tv : TE) (rd : V → V → Hp → VK → Prop) (f : Str) (D : Ends) (σ : L2.St) : VK := fun x H1 => ∃ a C dx fs v, x = .ref a ∧ H1 a = some (.ins C dx fs) ∧ Cls K C ∧ NoAttr K C f ∧ fs.lookup f = some v ∧ tv σ H1 fun y H2 => rd v y H2 (KAugE K C f a (D.nx σ))
section
variable {K : PySem.W.Frag} {σ : L2.St} {H : Hp} {D : Ends} {ta tv td ty tx : TE} {Q : VK} {f : Str} {tr : TA}
theorem w_fld (h : ta σ H (KFld K f Q)) : tFld K ta f σ H Q := h
theorem w_sfld (h : tv σ H fun y H1 => ta σ H1 (KSet K f y (D.nx σ))) : sFld K ta tv f D σ H := h
theorem w_faug {rd : V → V → Hp → VK → Prop} (h : ta σ H (KAug K tv rd f D σ)) : sFldAug K ta tv rd f D σ H := h
theorem w_rAdd {i j : Int} (q : Q (.int (i + j)) H) : L2.rAdd (.int i) (.int j) H Q := ⟨i, j, rfl, rfl, q⟩
theorem w_rSub {i j : Int} (q : Q (.int (i - j)) H) : L2.rSub (.int i) (.int j) H Q := ⟨i, j, rfl, rfl, q⟩
/-- a new instance x -/
def KMake (C : Addr) (sp : Sp) (dvs : List V) (E : XK) (Q : VK) : List V → Hp → Prop := fun vs H1 => ∀ x dx, H1 x = none → H1 dx = none → dx ≠ x → sp (.ref x :: (vs ++ dvs)) (upd (upd H1 dx (.own x)) x (.ins C dx [])) (fun v H2 => v = .non ∧ Q (.ref x) H2) E
theorem w_make {C : Addr} {sp : Sp} {dvs : List V} {E : XK} (h : tr σ H (KMake C sp dvs E Q)) : tMake C sp dvs E tr σ H Q := h
theorem k_make {C : Addr} {sp : Sp} {dvs vs : List V} {E : XK} {H1 : Hp} (h : ∀ x dx H2, H1 x = none → H1 dx = none → dx ≠ x → Chg [] H1 H2 → H2 x = some (.ins C dx []) → sp (.ref x :: (vs ++ dvs)) H2 (fun v H2 => v = .non ∧ Q (.ref x) H2) E) : KMake C sp dvs E Q vs H1 :=
  fun x dx nx nd ne => h x dx _ nx nd ne ((Chg.new nd).same (Chg.new (by rw [upd_ne (Ne.symm ne)]; exact nx))) upd_same
theorem w_while {c : TT} {tb : TS} (h : ∃ W : Nat → L2.St → Hp → Prop, (∃ m, W m σ H) ∧ ∀ m σ H, W m σ H → c σ H fun b H1 => if b = true then ∃ N : L2.St → Hp → Prop, (∀ σ' H', N σ' H' → ∃ m', m' < m ∧ W m' σ' H') ∧ tb { D with nx := N, ct := N, bk := D.nx } σ H1 else D.nx σ H1) : tWhile c tb D σ H := h
/-- x or y -/
def KOr (K : PySem.W.Frag) (tb : TE) (σ : L2.St) (Q : VK) : VK := fun x H1 => ∃ k, TruV K x H1 k ∧ if k = true then Q x H1 else tb σ H1 Q
theorem w_orT {tb : TE} (h : ta σ H (KOr K tb σ Q)) : tOrT K ta tb σ H Q := h
theorem k_orN {tb : TE} (h : tb σ H Q) : KOr K tb σ Q .non H := ⟨false, rfl, iteF h⟩
theorem k_orL {tb : TE} {a : Addr} {xs : List V} (e : H a = some (.lst xs)) (h1 : xs ≠ [] → Q (.ref a) H) (h2 : xs = [] → tb σ H Q) : KOr K tb σ Q (.ref a) H := by
  refine ⟨!xs.isEmpty, .inl ⟨xs, sqL e, rfl⟩, ?_⟩
  cases xs with
  | nil => exact iteF (h2 rfl)
  | cons a r => exact iteT (h1 (by simp))
/-- dicts of ints and texts -/
def KDGet (ty : TE) (σ : L2.St) (Q : VK) : VK := fun x H1 => ty σ H1 fun y H2 => ∃ a v, x = .ref a ∧ DGet H2 a y (some v) ∧ Q v H2
def KDG2 (ty tx : TE) (σ : L2.St) (Q : VK) : VK := fun x H1 => ∃ a, x = .ref a ∧ IsD H1 a ∧ ty σ H1 fun y H2 => tx σ H2 fun z H3 => ∃ o, DGet H3 a y o ∧ Q (o.getD z) H3
theorem w_dgetd (h : td σ H (KDG2 ty tx σ Q)) : tDGet2 td ty tx σ H Q := h
theorem k_dgetd {a : Addr} {kvs : List (Key × V)} (e : H a = some (.dK kvs)) (h : ty σ H fun y H2 => tx σ H2 fun z H3 => ∃ o, DGet H3 a y o ∧ Q (o.getD z) H3) : KDG2 ty tx σ Q (.ref a) H := ⟨a, rfl, .inl ⟨_, .inl e⟩, h⟩
def KDg (x : V) (Q : VK) : VK := fun y H2 => ∃ a v, x = .ref a ∧ DGet H2 a y (some v) ∧ Q v H2
theorem w_dgetk (h : td σ H fun x H1 => ty σ H1 (KDg x Q)) : tDGet td ty σ H Q := h
theorem d_dgetI {a : Addr} {kvs : List (Key × V)} {i : Int} {v : V} (e : H a = some (.dK kvs)) (ev : valV kvs (Sum.inl i) = some v) (q : Q v H) : KDg (.ref a) Q (.int i) H := ⟨a, v, rfl, by rw [← ev]; exact .k (k := Sum.inl i) e, q⟩
theorem d_dgetS {a : Addr} {kvs : List (Key × V)} {x : Str} {v : V} (e : H a = some (.dK kvs)) (ev : valV kvs (Sum.inr x) = some v) (q : Q v H) : KDg (.ref a) Q (.str x) H := ⟨a, v, rfl, by rw [← ev]; exact .k (k := Sum.inr x) e, q⟩
/-- d.setdefault(k, x) -/
def KDSe (a : Addr) (y : V) (Q : VK) : VK := fun z H3 => ∃ (kvs : List (Key × V)) (k : Key), H3 a = some (.dK kvs) ∧ y = kV k ∧ kvs.length < sizeLine ∧ (∀ v, valV kvs k = some v → Q v H3) ∧ (valV kvs k = none → Q z (upd H3 a (.dK (putK kvs k z))))
def KDSd (ty tx : TE) (σ : L2.St) (Q : VK) : VK := fun x H1 => ∃ a, x = .ref a ∧ IsD H1 a ∧ ty σ H1 fun y H2 => tx σ H2 (KDSe a y Q)
theorem w_dsetd (h : td σ H (KDSd ty tx σ Q)) : tDSetd td ty tx σ H Q := h
theorem k_dsetd {a : Addr} {kvs : List (Key × V)} (e : H a = some (.dK kvs)) (h : ty σ H fun y H2 => tx σ H2 (KDSe a y Q)) : KDSd ty tx σ Q (.ref a) H := ⟨a, rfl, .inl ⟨_, .inl e⟩, h⟩
theorem d_dsetdS {a : Addr} {kvs : List (Key × V)} {x : Str} {z : V} (e : H a = some (.dK kvs)) (hz : kvs.length ≤ 100000) (h1 : ∀ v, valV kvs (Sum.inr x) = some v → Q v H) (h2 : valV kvs (Sum.inr x) = none → ∀ H', Chg [a] H H' → H' a = some (.dK (putK kvs (Sum.inr x) z)) → Q z H') : KDSe a (.str x) Q z H :=
  ⟨kvs, Sum.inr x, e, rfl, Nat.lt_of_le_of_lt hz (by decide), h1, fun n => h2 n _ (.mut e fun _ z => nomatch z) upd_same⟩
theorem w_pop {a : Addr} {xs : List V} {y : V} (h : H a = some (.lst (xs ++ [y]))) (q : ∀ H', Chg [a] H H' → H' a = some (.lst xs) → Q y H') : rPop (.ref a) [] H Q := by
  refine ⟨a, xs ++ [y], y, rfl, rfl, h, by simp, ?_⟩
  have e : (xs ++ [y]).dropLast = xs := List.dropLast_concat
  rw [e]
  exact q _ (.mut h fun _ z => nomatch z) upd_same
end
/-! ### Frame -/
def O_Frame (K : PySem.W.Frag) (dx : Addr) (v0 v1 v2 v3 v4 v5 v6 : V) : HO := .ins (He.ga K "Frame") dx [("number", v0), ("path", v1), ("rows", v2), ("arg", v3), ("at", v4), ("past", v5), ("born", v6)]
structure C_Frame (K : PySem.W.Frag) : Prop where
  cl : Cls K (He.ga K "Frame")
  n_number : NoAttr K (He.ga K "Frame") "number"
  n_path : NoAttr K (He.ga K "Frame") "path"
  n_rows : NoAttr K (He.ga K "Frame") "rows"
  n_arg : NoAttr K (He.ga K "Frame") "arg"
  n_at : NoAttr K (He.ga K "Frame") "at"
  n_past : NoAttr K (He.ga K "Frame") "past"
  n_born : NoAttr K (He.ga K "Frame") "born"
section
variable {K : PySem.W.Frag} {H : Hp} {Q : VK} {N : Hp → Prop} {a dx : Addr} {v0 v1 v2 v3 v4 v5 v6 y : V}
theorem g_Frame_number (c : C_Frame K) (h : H a = some (O_Frame K dx v0 v1 v2 v3 v4 v5 v6)) (q : Q v0 H) : KFld K "number" Q (.ref a) H := ⟨a, _, dx, _, v0, rfl, h, c.cl, c.n_number, rfl, q⟩
theorem s_Frame_number (c : C_Frame K) (h : H a = some (O_Frame K dx v0 v1 v2 v3 v4 v5 v6)) (q : ∀ H', Chg [a] H H' → H' a = some (O_Frame K dx y v1 v2 v3 v4 v5 v6) → N H') : KSet K "number" y N (.ref a) H := ⟨a, _, dx, _, rfl, h, c.cl, c.n_number, by simp, q _ (.mut h fun _ e => nomatch e) upd_same⟩
theorem u_Frame_number {tv : TE} {rd : V → V → Hp → VK → Prop} {σ : L2.St} {D : Ends} (c : C_Frame K) (h : H a = some (O_Frame K dx v0 v1 v2 v3 v4 v5 v6)) (q : tv σ H fun z H2 => rd v0 z H2 (KAugE K (He.ga K "Frame") "number" a (D.nx σ))) : KAug K tv rd "number" D σ (.ref a) H := ⟨a, _, dx, _, v0, rfl, h, c.cl, c.n_number, rfl, q⟩
theorem e_Frame_number (h : H a = some (O_Frame K dx v0 v1 v2 v3 v4 v5 v6)) (q : ∀ H', Chg [a] H H' → H' a = some (O_Frame K dx y v1 v2 v3 v4 v5 v6) → N H') : KAugE K (He.ga K "Frame") "number" a N y H := ⟨dx, _, h, by simp, q _ (.mut h fun _ e => nomatch e) upd_same⟩
theorem n_Frame_number (c : C_Frame K) (h : H a = some (.ins (He.ga K "Frame") dx [])) (q : ∀ H', Chg [a] H H' → H' a = some (.ins (He.ga K "Frame") dx [("number", y)]) → N H') : KSet K "number" y N (.ref a) H := ⟨a, _, dx, _, rfl, h, c.cl, c.n_number, by simp, q _ (.mut h fun _ e => nomatch e) upd_same⟩
theorem g_Frame_path (c : C_Frame K) (h : H a = some (O_Frame K dx v0 v1 v2 v3 v4 v5 v6)) (q : Q v1 H) : KFld K "path" Q (.ref a) H := ⟨a, _, dx, _, v1, rfl, h, c.cl, c.n_path, rfl, q⟩
theorem s_Frame_path (c : C_Frame K) (h : H a = some (O_Frame K dx v0 v1 v2 v3 v4 v5 v6)) (q : ∀ H', Chg [a] H H' → H' a = some (O_Frame K dx v0 y v2 v3 v4 v5 v6) → N H') : KSet K "path" y N (.ref a) H := ⟨a, _, dx, _, rfl, h, c.cl, c.n_path, by simp, q _ (.mut h fun _ e => nomatch e) upd_same⟩
theorem u_Frame_path {tv : TE} {rd : V → V → Hp → VK → Prop} {σ : L2.St} {D : Ends} (c : C_Frame K) (h : H a = some (O_Frame K dx v0 v1 v2 v3 v4 v5 v6)) (q : tv σ H fun z H2 => rd v1 z H2 (KAugE K (He.ga K "Frame") "path" a (D.nx σ))) : KAug K tv rd "path" D σ (.ref a) H := ⟨a, _, dx, _, v1, rfl, h, c.cl, c.n_path, rfl, q⟩
theorem e_Frame_path (h : H a = some (O_Frame K dx v0 v1 v2 v3 v4 v5 v6)) (q : ∀ H', Chg [a] H H' → H' a = some (O_Frame K dx v0 y v2 v3 v4 v5 v6) → N H') : KAugE K (He.ga K "Frame") "path" a N y H := ⟨dx, _, h, by simp, q _ (.mut h fun _ e => nomatch e) upd_same⟩
theorem n_Frame_path (c : C_Frame K) (h : H a = some (.ins (He.ga K "Frame") dx [("number", v0)])) (q : ∀ H', Chg [a] H H' → H' a = some (.ins (He.ga K "Frame") dx [("number", v0), ("path", y)]) → N H') : KSet K "path" y N (.ref a) H := ⟨a, _, dx, _, rfl, h, c.cl, c.n_path, by simp, q _ (.mut h fun _ e => nomatch e) upd_same⟩
theorem g_Frame_rows (c : C_Frame K) (h : H a = some (O_Frame K dx v0 v1 v2 v3 v4 v5 v6)) (q : Q v2 H) : KFld K "rows" Q (.ref a) H := ⟨a, _, dx, _, v2, rfl, h, c.cl, c.n_rows, rfl, q⟩
theorem s_Frame_rows (c : C_Frame K) (h : H a = some (O_Frame K dx v0 v1 v2 v3 v4 v5 v6)) (q : ∀ H', Chg [a] H H' → H' a = some (O_Frame K dx v0 v1 y v3 v4 v5 v6) → N H') : KSet K "rows" y N (.ref a) H := ⟨a, _, dx, _, rfl, h, c.cl, c.n_rows, by simp, q _ (.mut h fun _ e => nomatch e) upd_same⟩
theorem u_Frame_rows {tv : TE} {rd : V → V → Hp → VK → Prop} {σ : L2.St} {D : Ends} (c : C_Frame K) (h : H a = some (O_Frame K dx v0 v1 v2 v3 v4 v5 v6)) (q : tv σ H fun z H2 => rd v2 z H2 (KAugE K (He.ga K "Frame") "rows" a (D.nx σ))) : KAug K tv rd "rows" D σ (.ref a) H := ⟨a, _, dx, _, v2, rfl, h, c.cl, c.n_rows, rfl, q⟩
theorem e_Frame_rows (h : H a = some (O_Frame K dx v0 v1 v2 v3 v4 v5 v6)) (q : ∀ H', Chg [a] H H' → H' a = some (O_Frame K dx v0 v1 y v3 v4 v5 v6) → N H') : KAugE K (He.ga K "Frame") "rows" a N y H := ⟨dx, _, h, by simp, q _ (.mut h fun _ e => nomatch e) upd_same⟩
theorem n_Frame_rows (c : C_Frame K) (h : H a = some (.ins (He.ga K "Frame") dx [("number", v0), ("path", v1)])) (q : ∀ H', Chg [a] H H' → H' a = some (.ins (He.ga K "Frame") dx [("number", v0), ("path", v1), ("rows", y)]) → N H') : KSet K "rows" y N (.ref a) H := ⟨a, _, dx, _, rfl, h, c.cl, c.n_rows, by simp, q _ (.mut h fun _ e => nomatch e) upd_same⟩
theorem g_Frame_arg (c : C_Frame K) (h : H a = some (O_Frame K dx v0 v1 v2 v3 v4 v5 v6)) (q : Q v3 H) : KFld K "arg" Q (.ref a) H := ⟨a, _, dx, _, v3, rfl, h, c.cl, c.n_arg, rfl, q⟩
theorem s_Frame_arg (c : C_Frame K) (h : H a = some (O_Frame K dx v0 v1 v2 v3 v4 v5 v6)) (q : ∀ H', Chg [a] H H' → H' a = some (O_Frame K dx v0 v1 v2 y v4 v5 v6) → N H') : KSet K "arg" y N (.ref a) H := ⟨a, _, dx, _, rfl, h, c.cl, c.n_arg, by simp, q _ (.mut h fun _ e => nomatch e) upd_same⟩
theorem u_Frame_arg {tv : TE} {rd : V → V → Hp → VK → Prop} {σ : L2.St} {D : Ends} (c : C_Frame K) (h : H a = some (O_Frame K dx v0 v1 v2 v3 v4 v5 v6)) (q : tv σ H fun z H2 => rd v3 z H2 (KAugE K (He.ga K "Frame") "arg" a (D.nx σ))) : KAug K tv rd "arg" D σ (.ref a) H := ⟨a, _, dx, _, v3, rfl, h, c.cl, c.n_arg, rfl, q⟩
theorem e_Frame_arg (h : H a = some (O_Frame K dx v0 v1 v2 v3 v4 v5 v6)) (q : ∀ H', Chg [a] H H' → H' a = some (O_Frame K dx v0 v1 v2 y v4 v5 v6) → N H') : KAugE K (He.ga K "Frame") "arg" a N y H := ⟨dx, _, h, by simp, q _ (.mut h fun _ e => nomatch e) upd_same⟩
theorem n_Frame_arg (c : C_Frame K) (h : H a = some (.ins (He.ga K "Frame") dx [("number", v0), ("path", v1), ("rows", v2)])) (q : ∀ H', Chg [a] H H' → H' a = some (.ins (He.ga K "Frame") dx [("number", v0), ("path", v1), ("rows", v2), ("arg", y)]) → N H') : KSet K "arg" y N (.ref a) H := ⟨a, _, dx, _, rfl, h, c.cl, c.n_arg, by simp, q _ (.mut h fun _ e => nomatch e) upd_same⟩
theorem g_Frame_at (c : C_Frame K) (h : H a = some (O_Frame K dx v0 v1 v2 v3 v4 v5 v6)) (q : Q v4 H) : KFld K "at" Q (.ref a) H := ⟨a, _, dx, _, v4, rfl, h, c.cl, c.n_at, rfl, q⟩
theorem s_Frame_at (c : C_Frame K) (h : H a = some (O_Frame K dx v0 v1 v2 v3 v4 v5 v6)) (q : ∀ H', Chg [a] H H' → H' a = some (O_Frame K dx v0 v1 v2 v3 y v5 v6) → N H') : KSet K "at" y N (.ref a) H := ⟨a, _, dx, _, rfl, h, c.cl, c.n_at, by simp, q _ (.mut h fun _ e => nomatch e) upd_same⟩
theorem u_Frame_at {tv : TE} {rd : V → V → Hp → VK → Prop} {σ : L2.St} {D : Ends} (c : C_Frame K) (h : H a = some (O_Frame K dx v0 v1 v2 v3 v4 v5 v6)) (q : tv σ H fun z H2 => rd v4 z H2 (KAugE K (He.ga K "Frame") "at" a (D.nx σ))) : KAug K tv rd "at" D σ (.ref a) H := ⟨a, _, dx, _, v4, rfl, h, c.cl, c.n_at, rfl, q⟩
theorem e_Frame_at (h : H a = some (O_Frame K dx v0 v1 v2 v3 v4 v5 v6)) (q : ∀ H', Chg [a] H H' → H' a = some (O_Frame K dx v0 v1 v2 v3 y v5 v6) → N H') : KAugE K (He.ga K "Frame") "at" a N y H := ⟨dx, _, h, by simp, q _ (.mut h fun _ e => nomatch e) upd_same⟩
theorem n_Frame_at (c : C_Frame K) (h : H a = some (.ins (He.ga K "Frame") dx [("number", v0), ("path", v1), ("rows", v2), ("arg", v3)])) (q : ∀ H', Chg [a] H H' → H' a = some (.ins (He.ga K "Frame") dx [("number", v0), ("path", v1), ("rows", v2), ("arg", v3), ("at", y)]) → N H') : KSet K "at" y N (.ref a) H := ⟨a, _, dx, _, rfl, h, c.cl, c.n_at, by simp, q _ (.mut h fun _ e => nomatch e) upd_same⟩
theorem g_Frame_past (c : C_Frame K) (h : H a = some (O_Frame K dx v0 v1 v2 v3 v4 v5 v6)) (q : Q v5 H) : KFld K "past" Q (.ref a) H := ⟨a, _, dx, _, v5, rfl, h, c.cl, c.n_past, rfl, q⟩
theorem s_Frame_past (c : C_Frame K) (h : H a = some (O_Frame K dx v0 v1 v2 v3 v4 v5 v6)) (q : ∀ H', Chg [a] H H' → H' a = some (O_Frame K dx v0 v1 v2 v3 v4 y v6) → N H') : KSet K "past" y N (.ref a) H := ⟨a, _, dx, _, rfl, h, c.cl, c.n_past, by simp, q _ (.mut h fun _ e => nomatch e) upd_same⟩
theorem u_Frame_past {tv : TE} {rd : V → V → Hp → VK → Prop} {σ : L2.St} {D : Ends} (c : C_Frame K) (h : H a = some (O_Frame K dx v0 v1 v2 v3 v4 v5 v6)) (q : tv σ H fun z H2 => rd v5 z H2 (KAugE K (He.ga K "Frame") "past" a (D.nx σ))) : KAug K tv rd "past" D σ (.ref a) H := ⟨a, _, dx, _, v5, rfl, h, c.cl, c.n_past, rfl, q⟩
theorem e_Frame_past (h : H a = some (O_Frame K dx v0 v1 v2 v3 v4 v5 v6)) (q : ∀ H', Chg [a] H H' → H' a = some (O_Frame K dx v0 v1 v2 v3 v4 y v6) → N H') : KAugE K (He.ga K "Frame") "past" a N y H := ⟨dx, _, h, by simp, q _ (.mut h fun _ e => nomatch e) upd_same⟩
theorem n_Frame_past (c : C_Frame K) (h : H a = some (.ins (He.ga K "Frame") dx [("number", v0), ("path", v1), ("rows", v2), ("arg", v3), ("at", v4)])) (q : ∀ H', Chg [a] H H' → H' a = some (.ins (He.ga K "Frame") dx [("number", v0), ("path", v1), ("rows", v2), ("arg", v3), ("at", v4), ("past", y)]) → N H') : KSet K "past" y N (.ref a) H := ⟨a, _, dx, _, rfl, h, c.cl, c.n_past, by simp, q _ (.mut h fun _ e => nomatch e) upd_same⟩
theorem g_Frame_born (c : C_Frame K) (h : H a = some (O_Frame K dx v0 v1 v2 v3 v4 v5 v6)) (q : Q v6 H) : KFld K "born" Q (.ref a) H := ⟨a, _, dx, _, v6, rfl, h, c.cl, c.n_born, rfl, q⟩
theorem s_Frame_born (c : C_Frame K) (h : H a = some (O_Frame K dx v0 v1 v2 v3 v4 v5 v6)) (q : ∀ H', Chg [a] H H' → H' a = some (O_Frame K dx v0 v1 v2 v3 v4 v5 y) → N H') : KSet K "born" y N (.ref a) H := ⟨a, _, dx, _, rfl, h, c.cl, c.n_born, by simp, q _ (.mut h fun _ e => nomatch e) upd_same⟩
theorem u_Frame_born {tv : TE} {rd : V → V → Hp → VK → Prop} {σ : L2.St} {D : Ends} (c : C_Frame K) (h : H a = some (O_Frame K dx v0 v1 v2 v3 v4 v5 v6)) (q : tv σ H fun z H2 => rd v6 z H2 (KAugE K (He.ga K "Frame") "born" a (D.nx σ))) : KAug K tv rd "born" D σ (.ref a) H := ⟨a, _, dx, _, v6, rfl, h, c.cl, c.n_born, rfl, q⟩
theorem e_Frame_born (h : H a = some (O_Frame K dx v0 v1 v2 v3 v4 v5 v6)) (q : ∀ H', Chg [a] H H' → H' a = some (O_Frame K dx v0 v1 v2 v3 v4 v5 y) → N H') : KAugE K (He.ga K "Frame") "born" a N y H := ⟨dx, _, h, by simp, q _ (.mut h fun _ e => nomatch e) upd_same⟩
theorem n_Frame_born (c : C_Frame K) (h : H a = some (.ins (He.ga K "Frame") dx [("number", v0), ("path", v1), ("rows", v2), ("arg", v3), ("at", v4), ("past", v5)])) (q : ∀ H', Chg [a] H H' → H' a = some (.ins (He.ga K "Frame") dx [("number", v0), ("path", v1), ("rows", v2), ("arg", v3), ("at", v4), ("past", v5), ("born", y)]) → N H') : KSet K "born" y N (.ref a) H := ⟨a, _, dx, _, rfl, h, c.cl, c.n_born, by simp, q _ (.mut h fun _ e => nomatch e) upd_same⟩
end
/-! ### Record -/
def O_Record (K : PySem.W.Frag) (dx : Addr) (v0 v1 v2 v3 v4 v5 : V) : HO := .ins (He.ga K "Record") dx [("mark", v0), ("word", v1), ("doer", v2), ("child", v3), ("reads", v4), ("writes", v5)]
structure C_Record (K : PySem.W.Frag) : Prop where
  cl : Cls K (He.ga K "Record")
  n_mark : NoAttr K (He.ga K "Record") "mark"
  n_word : NoAttr K (He.ga K "Record") "word"
  n_doer : NoAttr K (He.ga K "Record") "doer"
  n_child : NoAttr K (He.ga K "Record") "child"
  n_reads : NoAttr K (He.ga K "Record") "reads"
  n_writes : NoAttr K (He.ga K "Record") "writes"
section
variable {K : PySem.W.Frag} {H : Hp} {Q : VK} {N : Hp → Prop} {a dx : Addr} {v0 v1 v2 v3 v4 v5 y : V}
theorem g_Record_mark (c : C_Record K) (h : H a = some (O_Record K dx v0 v1 v2 v3 v4 v5)) (q : Q v0 H) : KFld K "mark" Q (.ref a) H := ⟨a, _, dx, _, v0, rfl, h, c.cl, c.n_mark, rfl, q⟩
theorem s_Record_mark (c : C_Record K) (h : H a = some (O_Record K dx v0 v1 v2 v3 v4 v5)) (q : ∀ H', Chg [a] H H' → H' a = some (O_Record K dx y v1 v2 v3 v4 v5) → N H') : KSet K "mark" y N (.ref a) H := ⟨a, _, dx, _, rfl, h, c.cl, c.n_mark, by simp, q _ (.mut h fun _ e => nomatch e) upd_same⟩
theorem u_Record_mark {tv : TE} {rd : V → V → Hp → VK → Prop} {σ : L2.St} {D : Ends} (c : C_Record K) (h : H a = some (O_Record K dx v0 v1 v2 v3 v4 v5)) (q : tv σ H fun z H2 => rd v0 z H2 (KAugE K (He.ga K "Record") "mark" a (D.nx σ))) : KAug K tv rd "mark" D σ (.ref a) H := ⟨a, _, dx, _, v0, rfl, h, c.cl, c.n_mark, rfl, q⟩
theorem e_Record_mark (h : H a = some (O_Record K dx v0 v1 v2 v3 v4 v5)) (q : ∀ H', Chg [a] H H' → H' a = some (O_Record K dx y v1 v2 v3 v4 v5) → N H') : KAugE K (He.ga K "Record") "mark" a N y H := ⟨dx, _, h, by simp, q _ (.mut h fun _ e => nomatch e) upd_same⟩
theorem n_Record_mark (c : C_Record K) (h : H a = some (.ins (He.ga K "Record") dx [])) (q : ∀ H', Chg [a] H H' → H' a = some (.ins (He.ga K "Record") dx [("mark", y)]) → N H') : KSet K "mark" y N (.ref a) H := ⟨a, _, dx, _, rfl, h, c.cl, c.n_mark, by simp, q _ (.mut h fun _ e => nomatch e) upd_same⟩
theorem g_Record_word (c : C_Record K) (h : H a = some (O_Record K dx v0 v1 v2 v3 v4 v5)) (q : Q v1 H) : KFld K "word" Q (.ref a) H := ⟨a, _, dx, _, v1, rfl, h, c.cl, c.n_word, rfl, q⟩
theorem s_Record_word (c : C_Record K) (h : H a = some (O_Record K dx v0 v1 v2 v3 v4 v5)) (q : ∀ H', Chg [a] H H' → H' a = some (O_Record K dx v0 y v2 v3 v4 v5) → N H') : KSet K "word" y N (.ref a) H := ⟨a, _, dx, _, rfl, h, c.cl, c.n_word, by simp, q _ (.mut h fun _ e => nomatch e) upd_same⟩
theorem u_Record_word {tv : TE} {rd : V → V → Hp → VK → Prop} {σ : L2.St} {D : Ends} (c : C_Record K) (h : H a = some (O_Record K dx v0 v1 v2 v3 v4 v5)) (q : tv σ H fun z H2 => rd v1 z H2 (KAugE K (He.ga K "Record") "word" a (D.nx σ))) : KAug K tv rd "word" D σ (.ref a) H := ⟨a, _, dx, _, v1, rfl, h, c.cl, c.n_word, rfl, q⟩
theorem e_Record_word (h : H a = some (O_Record K dx v0 v1 v2 v3 v4 v5)) (q : ∀ H', Chg [a] H H' → H' a = some (O_Record K dx v0 y v2 v3 v4 v5) → N H') : KAugE K (He.ga K "Record") "word" a N y H := ⟨dx, _, h, by simp, q _ (.mut h fun _ e => nomatch e) upd_same⟩
theorem n_Record_word (c : C_Record K) (h : H a = some (.ins (He.ga K "Record") dx [("mark", v0)])) (q : ∀ H', Chg [a] H H' → H' a = some (.ins (He.ga K "Record") dx [("mark", v0), ("word", y)]) → N H') : KSet K "word" y N (.ref a) H := ⟨a, _, dx, _, rfl, h, c.cl, c.n_word, by simp, q _ (.mut h fun _ e => nomatch e) upd_same⟩
theorem g_Record_doer (c : C_Record K) (h : H a = some (O_Record K dx v0 v1 v2 v3 v4 v5)) (q : Q v2 H) : KFld K "doer" Q (.ref a) H := ⟨a, _, dx, _, v2, rfl, h, c.cl, c.n_doer, rfl, q⟩
theorem s_Record_doer (c : C_Record K) (h : H a = some (O_Record K dx v0 v1 v2 v3 v4 v5)) (q : ∀ H', Chg [a] H H' → H' a = some (O_Record K dx v0 v1 y v3 v4 v5) → N H') : KSet K "doer" y N (.ref a) H := ⟨a, _, dx, _, rfl, h, c.cl, c.n_doer, by simp, q _ (.mut h fun _ e => nomatch e) upd_same⟩
theorem u_Record_doer {tv : TE} {rd : V → V → Hp → VK → Prop} {σ : L2.St} {D : Ends} (c : C_Record K) (h : H a = some (O_Record K dx v0 v1 v2 v3 v4 v5)) (q : tv σ H fun z H2 => rd v2 z H2 (KAugE K (He.ga K "Record") "doer" a (D.nx σ))) : KAug K tv rd "doer" D σ (.ref a) H := ⟨a, _, dx, _, v2, rfl, h, c.cl, c.n_doer, rfl, q⟩
theorem e_Record_doer (h : H a = some (O_Record K dx v0 v1 v2 v3 v4 v5)) (q : ∀ H', Chg [a] H H' → H' a = some (O_Record K dx v0 v1 y v3 v4 v5) → N H') : KAugE K (He.ga K "Record") "doer" a N y H := ⟨dx, _, h, by simp, q _ (.mut h fun _ e => nomatch e) upd_same⟩
theorem n_Record_doer (c : C_Record K) (h : H a = some (.ins (He.ga K "Record") dx [("mark", v0), ("word", v1)])) (q : ∀ H', Chg [a] H H' → H' a = some (.ins (He.ga K "Record") dx [("mark", v0), ("word", v1), ("doer", y)]) → N H') : KSet K "doer" y N (.ref a) H := ⟨a, _, dx, _, rfl, h, c.cl, c.n_doer, by simp, q _ (.mut h fun _ e => nomatch e) upd_same⟩
theorem g_Record_child (c : C_Record K) (h : H a = some (O_Record K dx v0 v1 v2 v3 v4 v5)) (q : Q v3 H) : KFld K "child" Q (.ref a) H := ⟨a, _, dx, _, v3, rfl, h, c.cl, c.n_child, rfl, q⟩
theorem s_Record_child (c : C_Record K) (h : H a = some (O_Record K dx v0 v1 v2 v3 v4 v5)) (q : ∀ H', Chg [a] H H' → H' a = some (O_Record K dx v0 v1 v2 y v4 v5) → N H') : KSet K "child" y N (.ref a) H := ⟨a, _, dx, _, rfl, h, c.cl, c.n_child, by simp, q _ (.mut h fun _ e => nomatch e) upd_same⟩
theorem u_Record_child {tv : TE} {rd : V → V → Hp → VK → Prop} {σ : L2.St} {D : Ends} (c : C_Record K) (h : H a = some (O_Record K dx v0 v1 v2 v3 v4 v5)) (q : tv σ H fun z H2 => rd v3 z H2 (KAugE K (He.ga K "Record") "child" a (D.nx σ))) : KAug K tv rd "child" D σ (.ref a) H := ⟨a, _, dx, _, v3, rfl, h, c.cl, c.n_child, rfl, q⟩
theorem e_Record_child (h : H a = some (O_Record K dx v0 v1 v2 v3 v4 v5)) (q : ∀ H', Chg [a] H H' → H' a = some (O_Record K dx v0 v1 v2 y v4 v5) → N H') : KAugE K (He.ga K "Record") "child" a N y H := ⟨dx, _, h, by simp, q _ (.mut h fun _ e => nomatch e) upd_same⟩
theorem n_Record_child (c : C_Record K) (h : H a = some (.ins (He.ga K "Record") dx [("mark", v0), ("word", v1), ("doer", v2)])) (q : ∀ H', Chg [a] H H' → H' a = some (.ins (He.ga K "Record") dx [("mark", v0), ("word", v1), ("doer", v2), ("child", y)]) → N H') : KSet K "child" y N (.ref a) H := ⟨a, _, dx, _, rfl, h, c.cl, c.n_child, by simp, q _ (.mut h fun _ e => nomatch e) upd_same⟩
theorem g_Record_reads (c : C_Record K) (h : H a = some (O_Record K dx v0 v1 v2 v3 v4 v5)) (q : Q v4 H) : KFld K "reads" Q (.ref a) H := ⟨a, _, dx, _, v4, rfl, h, c.cl, c.n_reads, rfl, q⟩
theorem s_Record_reads (c : C_Record K) (h : H a = some (O_Record K dx v0 v1 v2 v3 v4 v5)) (q : ∀ H', Chg [a] H H' → H' a = some (O_Record K dx v0 v1 v2 v3 y v5) → N H') : KSet K "reads" y N (.ref a) H := ⟨a, _, dx, _, rfl, h, c.cl, c.n_reads, by simp, q _ (.mut h fun _ e => nomatch e) upd_same⟩
theorem u_Record_reads {tv : TE} {rd : V → V → Hp → VK → Prop} {σ : L2.St} {D : Ends} (c : C_Record K) (h : H a = some (O_Record K dx v0 v1 v2 v3 v4 v5)) (q : tv σ H fun z H2 => rd v4 z H2 (KAugE K (He.ga K "Record") "reads" a (D.nx σ))) : KAug K tv rd "reads" D σ (.ref a) H := ⟨a, _, dx, _, v4, rfl, h, c.cl, c.n_reads, rfl, q⟩
theorem e_Record_reads (h : H a = some (O_Record K dx v0 v1 v2 v3 v4 v5)) (q : ∀ H', Chg [a] H H' → H' a = some (O_Record K dx v0 v1 v2 v3 y v5) → N H') : KAugE K (He.ga K "Record") "reads" a N y H := ⟨dx, _, h, by simp, q _ (.mut h fun _ e => nomatch e) upd_same⟩
theorem n_Record_reads (c : C_Record K) (h : H a = some (.ins (He.ga K "Record") dx [("mark", v0), ("word", v1), ("doer", v2), ("child", v3)])) (q : ∀ H', Chg [a] H H' → H' a = some (.ins (He.ga K "Record") dx [("mark", v0), ("word", v1), ("doer", v2), ("child", v3), ("reads", y)]) → N H') : KSet K "reads" y N (.ref a) H := ⟨a, _, dx, _, rfl, h, c.cl, c.n_reads, by simp, q _ (.mut h fun _ e => nomatch e) upd_same⟩
theorem g_Record_writes (c : C_Record K) (h : H a = some (O_Record K dx v0 v1 v2 v3 v4 v5)) (q : Q v5 H) : KFld K "writes" Q (.ref a) H := ⟨a, _, dx, _, v5, rfl, h, c.cl, c.n_writes, rfl, q⟩
theorem s_Record_writes (c : C_Record K) (h : H a = some (O_Record K dx v0 v1 v2 v3 v4 v5)) (q : ∀ H', Chg [a] H H' → H' a = some (O_Record K dx v0 v1 v2 v3 v4 y) → N H') : KSet K "writes" y N (.ref a) H := ⟨a, _, dx, _, rfl, h, c.cl, c.n_writes, by simp, q _ (.mut h fun _ e => nomatch e) upd_same⟩
theorem u_Record_writes {tv : TE} {rd : V → V → Hp → VK → Prop} {σ : L2.St} {D : Ends} (c : C_Record K) (h : H a = some (O_Record K dx v0 v1 v2 v3 v4 v5)) (q : tv σ H fun z H2 => rd v5 z H2 (KAugE K (He.ga K "Record") "writes" a (D.nx σ))) : KAug K tv rd "writes" D σ (.ref a) H := ⟨a, _, dx, _, v5, rfl, h, c.cl, c.n_writes, rfl, q⟩
theorem e_Record_writes (h : H a = some (O_Record K dx v0 v1 v2 v3 v4 v5)) (q : ∀ H', Chg [a] H H' → H' a = some (O_Record K dx v0 v1 v2 v3 v4 y) → N H') : KAugE K (He.ga K "Record") "writes" a N y H := ⟨dx, _, h, by simp, q _ (.mut h fun _ e => nomatch e) upd_same⟩
theorem n_Record_writes (c : C_Record K) (h : H a = some (.ins (He.ga K "Record") dx [("mark", v0), ("word", v1), ("doer", v2), ("child", v3), ("reads", v4)])) (q : ∀ H', Chg [a] H H' → H' a = some (.ins (He.ga K "Record") dx [("mark", v0), ("word", v1), ("doer", v2), ("child", v3), ("reads", v4), ("writes", y)]) → N H') : KSet K "writes" y N (.ref a) H := ⟨a, _, dx, _, rfl, h, c.cl, c.n_writes, by simp, q _ (.mut h fun _ e => nomatch e) upd_same⟩
end
/-! ### Outcome -/
def O_Outcome (K : PySem.W.Frag) (dx : Addr) (v0 v1 v2 v3 : V) : HO := .ins (He.ga K "Outcome") dx [("cells", v0), ("given", v1), ("steps", v2), ("deepest", v3)]
structure C_Outcome (K : PySem.W.Frag) : Prop where
  cl : Cls K (He.ga K "Outcome")
  n_cells : NoAttr K (He.ga K "Outcome") "cells"
  n_given : NoAttr K (He.ga K "Outcome") "given"
  n_steps : NoAttr K (He.ga K "Outcome") "steps"
  n_deepest : NoAttr K (He.ga K "Outcome") "deepest"
section
variable {K : PySem.W.Frag} {H : Hp} {Q : VK} {N : Hp → Prop} {a dx : Addr} {v0 v1 v2 v3 y : V}
theorem g_Outcome_cells (c : C_Outcome K) (h : H a = some (O_Outcome K dx v0 v1 v2 v3)) (q : Q v0 H) : KFld K "cells" Q (.ref a) H := ⟨a, _, dx, _, v0, rfl, h, c.cl, c.n_cells, rfl, q⟩
theorem s_Outcome_cells (c : C_Outcome K) (h : H a = some (O_Outcome K dx v0 v1 v2 v3)) (q : ∀ H', Chg [a] H H' → H' a = some (O_Outcome K dx y v1 v2 v3) → N H') : KSet K "cells" y N (.ref a) H := ⟨a, _, dx, _, rfl, h, c.cl, c.n_cells, by simp, q _ (.mut h fun _ e => nomatch e) upd_same⟩
theorem u_Outcome_cells {tv : TE} {rd : V → V → Hp → VK → Prop} {σ : L2.St} {D : Ends} (c : C_Outcome K) (h : H a = some (O_Outcome K dx v0 v1 v2 v3)) (q : tv σ H fun z H2 => rd v0 z H2 (KAugE K (He.ga K "Outcome") "cells" a (D.nx σ))) : KAug K tv rd "cells" D σ (.ref a) H := ⟨a, _, dx, _, v0, rfl, h, c.cl, c.n_cells, rfl, q⟩
theorem e_Outcome_cells (h : H a = some (O_Outcome K dx v0 v1 v2 v3)) (q : ∀ H', Chg [a] H H' → H' a = some (O_Outcome K dx y v1 v2 v3) → N H') : KAugE K (He.ga K "Outcome") "cells" a N y H := ⟨dx, _, h, by simp, q _ (.mut h fun _ e => nomatch e) upd_same⟩
theorem n_Outcome_cells (c : C_Outcome K) (h : H a = some (.ins (He.ga K "Outcome") dx [])) (q : ∀ H', Chg [a] H H' → H' a = some (.ins (He.ga K "Outcome") dx [("cells", y)]) → N H') : KSet K "cells" y N (.ref a) H := ⟨a, _, dx, _, rfl, h, c.cl, c.n_cells, by simp, q _ (.mut h fun _ e => nomatch e) upd_same⟩
theorem g_Outcome_given (c : C_Outcome K) (h : H a = some (O_Outcome K dx v0 v1 v2 v3)) (q : Q v1 H) : KFld K "given" Q (.ref a) H := ⟨a, _, dx, _, v1, rfl, h, c.cl, c.n_given, rfl, q⟩
theorem s_Outcome_given (c : C_Outcome K) (h : H a = some (O_Outcome K dx v0 v1 v2 v3)) (q : ∀ H', Chg [a] H H' → H' a = some (O_Outcome K dx v0 y v2 v3) → N H') : KSet K "given" y N (.ref a) H := ⟨a, _, dx, _, rfl, h, c.cl, c.n_given, by simp, q _ (.mut h fun _ e => nomatch e) upd_same⟩
theorem u_Outcome_given {tv : TE} {rd : V → V → Hp → VK → Prop} {σ : L2.St} {D : Ends} (c : C_Outcome K) (h : H a = some (O_Outcome K dx v0 v1 v2 v3)) (q : tv σ H fun z H2 => rd v1 z H2 (KAugE K (He.ga K "Outcome") "given" a (D.nx σ))) : KAug K tv rd "given" D σ (.ref a) H := ⟨a, _, dx, _, v1, rfl, h, c.cl, c.n_given, rfl, q⟩
theorem e_Outcome_given (h : H a = some (O_Outcome K dx v0 v1 v2 v3)) (q : ∀ H', Chg [a] H H' → H' a = some (O_Outcome K dx v0 y v2 v3) → N H') : KAugE K (He.ga K "Outcome") "given" a N y H := ⟨dx, _, h, by simp, q _ (.mut h fun _ e => nomatch e) upd_same⟩
theorem n_Outcome_given (c : C_Outcome K) (h : H a = some (.ins (He.ga K "Outcome") dx [("cells", v0)])) (q : ∀ H', Chg [a] H H' → H' a = some (.ins (He.ga K "Outcome") dx [("cells", v0), ("given", y)]) → N H') : KSet K "given" y N (.ref a) H := ⟨a, _, dx, _, rfl, h, c.cl, c.n_given, by simp, q _ (.mut h fun _ e => nomatch e) upd_same⟩
theorem g_Outcome_steps (c : C_Outcome K) (h : H a = some (O_Outcome K dx v0 v1 v2 v3)) (q : Q v2 H) : KFld K "steps" Q (.ref a) H := ⟨a, _, dx, _, v2, rfl, h, c.cl, c.n_steps, rfl, q⟩
theorem s_Outcome_steps (c : C_Outcome K) (h : H a = some (O_Outcome K dx v0 v1 v2 v3)) (q : ∀ H', Chg [a] H H' → H' a = some (O_Outcome K dx v0 v1 y v3) → N H') : KSet K "steps" y N (.ref a) H := ⟨a, _, dx, _, rfl, h, c.cl, c.n_steps, by simp, q _ (.mut h fun _ e => nomatch e) upd_same⟩
theorem u_Outcome_steps {tv : TE} {rd : V → V → Hp → VK → Prop} {σ : L2.St} {D : Ends} (c : C_Outcome K) (h : H a = some (O_Outcome K dx v0 v1 v2 v3)) (q : tv σ H fun z H2 => rd v2 z H2 (KAugE K (He.ga K "Outcome") "steps" a (D.nx σ))) : KAug K tv rd "steps" D σ (.ref a) H := ⟨a, _, dx, _, v2, rfl, h, c.cl, c.n_steps, rfl, q⟩
theorem e_Outcome_steps (h : H a = some (O_Outcome K dx v0 v1 v2 v3)) (q : ∀ H', Chg [a] H H' → H' a = some (O_Outcome K dx v0 v1 y v3) → N H') : KAugE K (He.ga K "Outcome") "steps" a N y H := ⟨dx, _, h, by simp, q _ (.mut h fun _ e => nomatch e) upd_same⟩
theorem n_Outcome_steps (c : C_Outcome K) (h : H a = some (.ins (He.ga K "Outcome") dx [("cells", v0), ("given", v1)])) (q : ∀ H', Chg [a] H H' → H' a = some (.ins (He.ga K "Outcome") dx [("cells", v0), ("given", v1), ("steps", y)]) → N H') : KSet K "steps" y N (.ref a) H := ⟨a, _, dx, _, rfl, h, c.cl, c.n_steps, by simp, q _ (.mut h fun _ e => nomatch e) upd_same⟩
theorem g_Outcome_deepest (c : C_Outcome K) (h : H a = some (O_Outcome K dx v0 v1 v2 v3)) (q : Q v3 H) : KFld K "deepest" Q (.ref a) H := ⟨a, _, dx, _, v3, rfl, h, c.cl, c.n_deepest, rfl, q⟩
theorem s_Outcome_deepest (c : C_Outcome K) (h : H a = some (O_Outcome K dx v0 v1 v2 v3)) (q : ∀ H', Chg [a] H H' → H' a = some (O_Outcome K dx v0 v1 v2 y) → N H') : KSet K "deepest" y N (.ref a) H := ⟨a, _, dx, _, rfl, h, c.cl, c.n_deepest, by simp, q _ (.mut h fun _ e => nomatch e) upd_same⟩
theorem u_Outcome_deepest {tv : TE} {rd : V → V → Hp → VK → Prop} {σ : L2.St} {D : Ends} (c : C_Outcome K) (h : H a = some (O_Outcome K dx v0 v1 v2 v3)) (q : tv σ H fun z H2 => rd v3 z H2 (KAugE K (He.ga K "Outcome") "deepest" a (D.nx σ))) : KAug K tv rd "deepest" D σ (.ref a) H := ⟨a, _, dx, _, v3, rfl, h, c.cl, c.n_deepest, rfl, q⟩
theorem e_Outcome_deepest (h : H a = some (O_Outcome K dx v0 v1 v2 v3)) (q : ∀ H', Chg [a] H H' → H' a = some (O_Outcome K dx v0 v1 v2 y) → N H') : KAugE K (He.ga K "Outcome") "deepest" a N y H := ⟨dx, _, h, by simp, q _ (.mut h fun _ e => nomatch e) upd_same⟩
theorem n_Outcome_deepest (c : C_Outcome K) (h : H a = some (.ins (He.ga K "Outcome") dx [("cells", v0), ("given", v1), ("steps", v2)])) (q : ∀ H', Chg [a] H H' → H' a = some (.ins (He.ga K "Outcome") dx [("cells", v0), ("given", v1), ("steps", v2), ("deepest", y)]) → N H') : KSet K "deepest" y N (.ref a) H := ⟨a, _, dx, _, rfl, h, c.cl, c.n_deepest, by simp, q _ (.mut h fun _ e => nomatch e) upd_same⟩
end
end Fg
namespace Fg
open PySem PySem.Spec PyProof.Rows L2
/-! ### cells, by numbers -/
abbrev Cells := List (Int × Int)
def cK (cs : Cells) : List (Key × V) := cs.map fun c => (Sum.inl c.1, V.int c.2)
def cAt (cs : Cells) (i : Int) : Option Int := (cs.find? fun c => decide (c.1 = i)).map (·.2)
def cGet (cs : Cells) (i : Int) : Int := (cAt cs i).getD 0
def cPut (cs : Cells) (i v : Int) : Cells := if (cs.any fun c => decide (c.1 = i)) = true then cs.map (fun c => if c.1 = i then (c.1, v) else c) else cs ++ [(i, v)]
theorem valV_cK (cs : Cells) (i : Int) : valV (cK cs) (Sum.inl i) = (cAt cs i).map V.int := by
  unfold valV cAt cK
  induction cs with
  | nil => rfl
  | cons c r ih =>
    rw [List.map_cons, List.find?_cons, List.find?_cons]
    by_cases e : c.1 = i
    · have e' : (Sum.inl c.1 : Key) = Sum.inl i := by rw [e]
      rw [decide_eq_true e, decide_eq_true e']
      rfl
    · have e' : ¬ (Sum.inl c.1 : Key) = Sum.inl i := fun z => e (Sum.inl.inj z)
      rw [decide_eq_false e, decide_eq_false e']
      exact ih
theorem getD_cK (cs : Cells) (i : Int) : (valV (cK cs) (Sum.inl i)).getD (.int 0) = .int (cGet cs i) := by
  rw [valV_cK]
  unfold cGet
  cases cAt cs i <;> rfl
theorem any_cK (cs : Cells) (i : Int) : ((cK cs).any fun kv => decide (kv.1 = (Sum.inl i : Key))) = cs.any fun c => decide (c.1 = i) := by
  unfold cK
  rw [List.any_map]
  congr 1
  funext c
  show decide ((Sum.inl c.1 : Key) = Sum.inl i) = decide (c.1 = i)
  by_cases e : c.1 = i
  · rw [decide_eq_true e, decide_eq_true (by rw [e])]
  · rw [decide_eq_false e, decide_eq_false fun z => e (Sum.inl.inj z)]
theorem putK_cK (cs : Cells) (i v : Int) : putK (cK cs) (Sum.inl i) (.int v) = cK (cPut cs i v) := by
  unfold putK cPut
  rw [any_cK]
  split
  · unfold cK
    rw [List.map_map, List.map_map]
    apply List.map_congr_left
    intro c _
    show (if (Sum.inl c.1 : Key) = Sum.inl i then ((Sum.inl c.1 : Key), V.int v) else (Sum.inl c.1, V.int c.2)) = _
    by_cases e : c.1 = i
    · rw [if_pos (by rw [e])]
      show _ = (Sum.inl (if c.1 = i then (c.1, v) else c).1, V.int (if c.1 = i then (c.1, v) else c).2)
      rw [if_pos e]
    · rw [if_neg fun z => e (Sum.inl.inj z)]
      show _ = (Sum.inl (if c.1 = i then (c.1, v) else c).1, V.int (if c.1 = i then (c.1, v) else c).2)
      rw [if_neg e]
  · unfold cK
    rw [List.map_append]
    rfl
/-! ### what an expression is worth -/
def Ex.worth (g : Int) (cs : Cells) : Ex → Int
  | .num i => i
  | .arg => g
  | .cell a => cGet cs (a.worth g cs)
  | .add a b => a.worth g cs + b.worth g cs
  | .less a b => a.worth g cs - b.worth g cs
  | .least a b => if b.worth g cs < a.worth g cs then b.worth g cs else a.worth g cs
def Ex.asked (g : Int) (cs : Cells) : Ex → List Int
  | .num _ => []
  | .arg => []
  | .cell a => a.asked g cs ++ [a.worth g cs]
  | .add a b => a.asked g cs ++ b.asked g cs
  | .less a b => a.asked g cs ++ b.asked g cs
  | .least a b => a.asked g cs ++ b.asked g cs
theorem two_pow_max (a b : Nat) : 2 ^ a + 2 ^ b ≤ 2 ^ (max a b + 1) := by
  have h1 : 2 ^ a ≤ 2 ^ max a b := Nat.pow_le_pow_right (by decide) (Nat.le_max_left _ _)
  have h2 : 2 ^ b ≤ 2 ^ max a b := Nat.pow_le_pow_right (by decide) (Nat.le_max_right _ _)
  rw [Nat.pow_succ]
  omega
theorem Ex.asked_len (g : Int) (cs : Cells) : ∀ e : Ex, (e.asked g cs).length + 1 ≤ 2 ^ (e.deep - 1)
  | .num _ => Nat.le_refl _
  | .arg => Nat.le_refl _
  | .cell a => by
    have h := Ex.asked_len g cs a
    have d := a.deep_pos
    show (a.asked g cs ++ [a.worth g cs]).length + 1 ≤ 2 ^ (a.deep + 1 - 1)
    rw [List.length_append, List.length_singleton, Nat.add_sub_cancel]
    have e : 2 ^ a.deep = 2 * 2 ^ (a.deep - 1) := by
      rw [← Nat.pow_succ', show (a.deep - 1).succ = a.deep by omega]
    have p : 1 ≤ 2 ^ (a.deep - 1) := Nat.one_le_two_pow
    omega
  | .add a b => by
    have h := Ex.asked_len g cs a
    have h' := Ex.asked_len g cs b
    have t := two_pow_max (a.deep - 1) (b.deep - 1)
    have d := a.deep_pos
    have d' := b.deep_pos
    show (a.asked g cs ++ b.asked g cs).length + 1 ≤ 2 ^ (max a.deep b.deep + 1 - 1)
    rw [List.length_append, show max a.deep b.deep + 1 - 1 = max (a.deep - 1) (b.deep - 1) + 1 by omega]
    omega
  | .less a b => by
    have h := Ex.asked_len g cs a
    have h' := Ex.asked_len g cs b
    have t := two_pow_max (a.deep - 1) (b.deep - 1)
    have d := a.deep_pos
    have d' := b.deep_pos
    show (a.asked g cs ++ b.asked g cs).length + 1 ≤ 2 ^ (max a.deep b.deep + 1 - 1)
    rw [List.length_append, show max a.deep b.deep + 1 - 1 = max (a.deep - 1) (b.deep - 1) + 1 by omega]
    omega
  | .least a b => by
    have h := Ex.asked_len g cs a
    have h' := Ex.asked_len g cs b
    have t := two_pow_max (a.deep - 1) (b.deep - 1)
    have d := a.deep_pos
    have d' := b.deep_pos
    show (a.asked g cs ++ b.asked g cs).length + 1 ≤ 2 ^ (max a.deep b.deep + 1 - 1)
    rw [List.length_append, show max a.deep b.deep + 1 - 1 = max (a.deep - 1) (b.deep - 1) + 1 by omega]
    omega
/-- what was asked goes into a list, or nowhere -/
def akL : V → List Addr
  | .ref l => [l]
  | _ => []
def Ask (H : Hp) (ak : V) (as : Option (List Int)) : Prop := (ak = .non ∧ as = none) ∨ ∃ (l : Addr) (xs : List Int), ak = .ref l ∧ as = some xs ∧ H l = some (.lst (xs.map V.int))
theorem Ask.ne {H : Hp} {ak : V} {as : Option (List Int)} (h : Ask H ak as) {d : Addr} {kvs : List (Key × V)} (e : H d = some (.dK kvs)) : d ∉ akL ak := by
  rcases h with ⟨rfl, _⟩ | ⟨l, xs, rfl, _, hl⟩
  · simp [akL]
  · intro z
    rw [List.mem_singleton.mp z, hl] at e
    cases e
end Fg
namespace Fg
open PySem PySem.Spec PyProof.Rows L2
/-! ### sorted, the one way -/
def leI (a b : Int) : Bool := decide (a ≤ b)
def srt (ks : List Int) : List Int := ks.mergeSort leI
theorem leI_trans (a b c : Int) (h : leI a b = true) (h' : leI b c = true) : leI a c = true := by
  unfold leI at *
  simp only [decide_eq_true_eq] at *
  omega
theorem leI_total (a b : Int) : (leI a b || leI b a) = true := by
  unfold leI
  simp only [Bool.or_eq_true, decide_eq_true_eq]
  omega
theorem srt_perm (ks : List Int) : (srt ks).Perm ks := List.mergeSort_perm ks leI
theorem srt_up (ks : List Int) : (srt ks).Pairwise (· ≤ ·) := (List.pairwise_mergeSort leI_trans leI_total ks).imp fun h => of_decide_eq_true h
theorem srt_of {ys ks : List Int} (hp : ys.Perm ks) (hs : ys.Pairwise (· ≤ ·)) : ys = srt ks :=
  List.Perm.eq_of_pairwise (le := (· ≤ ·)) (fun a b _ _ h h' => Int.le_antisymm h h') hs (srt_up ks) (hp.trans (srt_perm ks).symm)
/-- the same ones, each once, sorted -/
theorem up_eq : ∀ {xs ys : List Int}, xs.Pairwise (· < ·) → ys.Pairwise (· < ·) → (∀ k, k ∈ xs ↔ k ∈ ys) → xs = ys
  | [], [], _, _, _ => rfl
  | [], y :: r, _, _, h => absurd ((h y).mpr (by simp)) (by simp)
  | x :: r, [], _, _, h => absurd ((h x).mp (by simp)) (by simp)
  | x :: r, y :: t, hx, hy, h => by
    obtain ⟨hx1, hx2⟩ := List.pairwise_cons.mp hx
    obtain ⟨hy1, hy2⟩ := List.pairwise_cons.mp hy
    have e : x = y := by
      rcases List.mem_cons.mp ((h x).mp (by simp)) with e | m
      · exact e
      · rcases List.mem_cons.mp ((h y).mpr (by simp)) with e | m'
        · exact e.symm
        · have := hy1 x m
          have := hx1 y m'
          omega
    subst e
    rw [up_eq hx2 hy2 fun k => ?_]
    constructor
    · intro hk
      rcases List.mem_cons.mp ((h k).mp (List.mem_cons_of_mem _ hk)) with e | m
      · have := hx1 k hk
        omega
      · exact m
    · intro hk
      rcases List.mem_cons.mp ((h k).mpr (List.mem_cons_of_mem _ hk)) with e | m
      · have := hy1 k hk
        omega
      · exact m
/-- each once -/
def once : List Int → List Int
  | [] => []
  | x :: r => if x ∈ once r then once r else x :: once r
theorem once_mem : ∀ {xs : List Int} {k : Int}, k ∈ once xs ↔ k ∈ xs
  | [], _ => Iff.rfl
  | x :: r, k => by
    show k ∈ (if x ∈ once r then once r else x :: once r) ↔ _
    split
    · next h =>
      rw [once_mem, List.mem_cons]
      constructor
      · exact .inr
      · rintro (e | h')
        · rw [e]; exact once_mem.mp h
        · exact h'
    · rw [List.mem_cons, List.mem_cons, once_mem]
theorem once_nodup : ∀ xs : List Int, (once xs).Nodup
  | [] => List.nodup_nil
  | x :: r => by
    show (if x ∈ once r then once r else x :: once r).Nodup
    split
    · exact once_nodup r
    · next h => exact List.nodup_cons.mpr ⟨h, once_nodup r⟩
theorem once_len : ∀ xs : List Int, (once xs).length ≤ xs.length
  | [] => Nat.le_refl _
  | x :: r => by
    show (if x ∈ once r then once r else x :: once r).length ≤ _
    have := once_len r
    split
    · rw [List.length_cons]; omega
    · rw [List.length_cons, List.length_cons]; omega
/-- sorted(set(xs)) -/
def srtD (xs : List Int) : List Int := srt (once xs)
theorem up_of {ys : List Int} (hs : ys.Pairwise (· ≤ ·)) (nd : ys.Nodup) : ys.Pairwise (· < ·) :=
  (hs.and nd).imp fun {a b} h => by
    have h1 := h.1
    have h2 := h.2
    omega
theorem srtD_up (xs : List Int) : (srtD xs).Pairwise (· < ·) := up_of (srt_up _) ((srt_perm _).nodup_iff.mpr (once_nodup xs))
theorem srtD_mem {xs : List Int} {k : Int} : k ∈ srtD xs ↔ k ∈ xs := ((srt_perm (once xs)).mem_iff).trans once_mem
theorem srtD_of {ns xs : List Int} (h1 : ns.Pairwise (· < ·)) (h2 : ∀ k, k ∈ ns ↔ k ∈ xs) : ns = srtD xs := up_eq h1 (srtD_up xs) fun k => (h2 k).trans srtD_mem.symm
/-! texts -/
def leT (a b : Str) : Prop := a.cps.toList ≤ b.cps.toList
theorem str_ext {a b : Str} (h : a.cps.toList = b.cps.toList) : a = b := by
  cases a with
  | mk a =>
    cases b with
    | mk b => rw [show a = b from Array.toList_inj.mp h]
theorem leT_of {p x : Str} (h : (!ltCps x.cps.toList p.cps.toList) = true) : leT p x := by
  rw [ltCps_eq] at h
  have h3 : ¬ x.cps.toList < p.cps.toList := of_decide_eq_false (by simpa using h)
  exact List.not_lt.mp h3
theorem rising_up : ∀ {p : Str} {xs : List Str}, risingS p xs = true → (p :: xs).Pairwise leT
  | p, [], _ => List.pairwise_singleton _ _
  | p, x :: r, h => by
    obtain ⟨h1, h2⟩ := Bool.and_eq_true_iff.mp (show (!ltCps x.cps.toList p.cps.toList && risingS x r) = true from h)
    have ih := rising_up h2
    have h3 := leT_of h1
    refine List.pairwise_cons.mpr ⟨fun y hy => ?_, ih⟩
    rcases List.mem_cons.mp hy with rfl | hy
    · exact h3
    · exact List.le_trans h3 ((List.pairwise_cons.mp ih).1 y hy)
theorem sortedS_up : ∀ {xs : List Str}, sortedS xs = true → xs.Pairwise leT
  | [], _ => List.Pairwise.nil
  | x :: r, h => rising_up h
def leTb (a b : Str) : Bool := decide (a.cps.toList ≤ b.cps.toList)
def srtS (ks : List Str) : List Str := ks.mergeSort leTb
theorem srtS_perm (ks : List Str) : (srtS ks).Perm ks := List.mergeSort_perm ks leTb
theorem srtS_up (ks : List Str) : (srtS ks).Pairwise leT :=
  (List.pairwise_mergeSort (le := leTb) (fun a b c h h' => decide_eq_true (List.le_trans (of_decide_eq_true h) (of_decide_eq_true h'))) (fun a b => by
    unfold leTb
    simp only [Bool.or_eq_true, decide_eq_true_eq]
    exact List.le_total _ _) ks).imp fun h => of_decide_eq_true h
theorem srtS_of {ys ks : List Str} (hp : ys.Perm ks) (hs : sortedS ys = true) : ys = srtS ks :=
  List.Perm.eq_of_pairwise (le := leT) (fun a b _ _ h h' => str_ext (List.le_antisymm h h')) (sortedS_up hs) (srtS_up ks) (hp.trans (srtS_perm ks).symm)
section
variable {K : PySem.W.Frag} {w : World} {H : Hp} {Q : VK} {a : Addr}
theorem w_sortDI {kvs : List (Key × V)} {ks : List Int} (h : H a = some (.dK kvs)) (hk : kvs.map (·.1) = ks.map Sum.inl) (hz : ks.length ≤ 100000) (q : ∀ p H2, H p = none → Chg [] H H2 → H2 p = some (.lst ((srt ks).map V.int)) → Q (.ref p) H2) : cSortDI [.ref a] H Q :=
  ⟨a, kvs, ks, rfl, .inl h, hk, hz, fun ys p hp hs np => by rw [srt_of hp hs]; exact q p _ np (.new np) upd_same⟩
theorem w_sortDS {kvs : List (Key × V)} {ks : List Str} (h : H a = some (.dK kvs)) (hk : kvs.map (·.1) = ks.map Sum.inr) (hz : ks.length < 64) (q : ∀ p H2, H p = none → Chg [] H H2 → H2 p = some (.lst ((srtS ks).map V.str)) → Q (.ref p) H2) : cSortDS [.ref a] H Q :=
  ⟨a, kvs, ks, rfl, .inl h, hk, hz, fun ys p hp hs np => by rw [srtS_of hp hs]; exact q p _ np (.new np) upd_same⟩
theorem w_setI {ns : List Int} (h : H a = some (.lst (ns.map V.int))) (hz : ns.length < 60) (q : ∀ p c H2, H p = none → Chg [] H H2 → c ≤ ns.length → H2 p = some (SetO w p (fun j => decide (j ∈ ns)) c) → Q (.ref p) H2) : cSetL K w [.ref a] H Q :=
  ⟨a, ns, rfl, sqL h, hz, fun p c np hc => q p c _ np (.new np) hc upd_same⟩
theorem w_sortSet {ns : List Int} {c : Nat} (h : H a = some (SetO w a (fun j => decide (j ∈ ns)) c)) (hc : c < 64) (q : ∀ p H2, H p = none → Chg [] H H2 → H2 p = some (.lst ((srtD ns).map V.int)) → Q (.ref p) H2) : rSortedSet w [.ref a] H Q :=
  ⟨a, _, c, rfl, h, hc, fun xs p h1 h2 _ np => by rw [srtD_of h1 fun k => (h2 k).trans decide_eq_true_iff]; exact q p _ np (.new np) upd_same⟩
theorem w_dictP {ps : List Addr} {kvs : List (Key × V)} (h : H a = some (.lst (ps.map V.ref))) (hp : Paired (fun p kv => SqT K H p [kV kv.1, kv.2]) ps kvs) (q : ∀ p H2, H p = none → Chg [] H H2 → H2 p = some (.dK (mergeK [] kvs)) → Q (.ref p) H2) : cDictP K [.ref a] H Q :=
  ⟨a, ps, kvs, rfl, sqL h, hp, d_new q⟩
end
/-! ### what was given -/
abbrev Given := List (Str × List Int)
def gAdd (gv : Given) (x : Str) (n : Int) : Given := if (gv.any fun g => decide (g.1 = x)) = true then gv.map (fun g => if g.1 = x then (g.1, g.2 ++ [n]) else g) else gv ++ [(x, [n])]
/-! ### one hand -/
structure Frm where
  num : Nat
  path : List Nat
  rows : List Stp
  arg : Int
  at_ : Nat
  past : Nat
  born : Nat
structure Rcd where
  path : List Nat
  past : Nat
  word : Str
  doer : Nat
  child : Option Nat
  reads : List Int
  writes : List Int
def Stp.word : Stp → Str
  | .cell _ _ => "cell"
  | .give _ _ => "give"
  | .fork _ _ => "fork"
  | .call _ _ => "call"
  | .wait => "wait"
  | .skip _ _ => "skip"
/-- the cells that a step asks -/
def Stp.asks (g : Int) (cs : Cells) : Stp → List Int
  | .cell a b => a.asked g cs ++ b.asked g cs
  | .give _ a => a.asked g cs
  | .fork _ a => a.asked g cs
  | .call _ a => a.asked g cs
  | .wait => []
  | .skip a _ => a.asked g cs
def Stp.puts (g : Int) (cs : Cells) : Stp → Cells
  | .cell a b => cPut cs (a.worth g cs) (b.worth g cs)
  | _ => cs
def Stp.writes (g : Int) (cs : Cells) : Stp → List Int
  | .cell a _ => [a.worth g cs]
  | _ => []
def Stp.gives (g : Int) (cs : Cells) (gv : Given) : Stp → Given
  | .give x a => gAdd gv x (a.worth g cs)
  | _ => gv
def Stp.jump (g : Int) (cs : Cells) : Stp → Nat
  | .skip a k => if a.worth g cs = 0 then k.toNat else 0
  | _ => 0
def Stp.makes (g : Int) (cs : Cells) : Stp → Option (Str × Int)
  | .fork x a => some (x, a.worth g cs)
  | .call x a => some (x, a.worth g cs)
  | _ => none
structure Mc where
  stack : List Frm
  cells : Cells
  given : Given
  recs : List Rcd
  deep : Nat
  many : Nat
def Prg.rows (p : Prg) (x : Str) : List Stp := ((p.find? fun r => decide (r.1 = x)).map (·.2)).getD []
/-- the next step of the topmost doing f, r below it -/
def Mc.did (p : Prg) (m : Mc) (f : Frm) (r : List Frm) (s : Stp) : Mc :=
  let f' : Frm := { f with at_ := f.at_ + 1 + s.jump f.arg m.cells, past := f.past + 1 }
  let c : Rcd := ⟨f.path, f.past, s.word, f.num, none, srtD (s.asks f.arg m.cells), s.writes f.arg m.cells⟩
  match s.makes f.arg m.cells with
  | none => { stack := f' :: r, cells := s.puts f.arg m.cells, given := s.gives f.arg m.cells m.given, recs := m.recs ++ [c], deep := m.deep, many := m.many }
  | some (x, w) => { stack := ⟨m.many, f.path ++ [f.born], p.rows x, w, 0, 0, 0⟩ :: { f' with born := f.born + 1 } :: r, cells := m.cells, given := m.given, recs := m.recs ++ [{ c with child := some m.many }], deep := max m.deep (r.length + 2), many := m.many + 1 }
/-- till all is done, or none where more steps than most would be done -/
def Mc.go (p : Prg) (most : Int) : Nat → Mc → Option Mc
  | 0, m => some m
  | n + 1, m => match m.stack with
    | [] => some m
    | f :: r => match f.rows[f.at_]? with
      | none => Mc.go p most n { m with stack := r }
      | some s => if most ≤ (m.recs.length : Int) then none else Mc.go p most n (m.did p f r s)
def Mc.size (most : Int) (m : Mc) : Nat := 2 * (most - (m.recs.length : Int)).toNat + m.stack.length
def Mc.start (p : Prg) (x : Str) (g : Int) (cs : Cells) : Mc := ⟨[⟨0, [], p.rows x, g, 0, 0, 0⟩], cs, [], [], 1, 1⟩
def cStart (cs : Cells) : Cells := cs.foldl (fun acc c => cPut acc c.1 c.2) []
/-- what one hand does -/
def Prg.ran (p : Prg) (x : Str) (g : Int) (cs : Cells) (most : Int) : Option Mc :=
  let m := Mc.start p x g (cStart cs)
  Mc.go p most (m.size most) m
theorem go_nil {p : Prg} {most : Int} {n : Nat} {m : Mc} (h : m.stack = []) : Mc.go p most n m = some m := by
  cases n with
  | zero => rfl
  | succ n =>
    unfold Mc.go
    rw [h]
theorem size_pop {most : Int} {m : Mc} {f : Frm} {r : List Frm} (h : m.stack = f :: r) {n : Nat} (hn : m.size most ≤ n + 1) : ({ m with stack := r } : Mc).size most ≤ n := by
  unfold Mc.size at *
  rw [h, List.length_cons] at hn
  show 2 * (most - (m.recs.length : Int)).toNat + r.length ≤ n
  omega
theorem size_did {p : Prg} {most : Int} {m : Mc} {f : Frm} {r : List Frm} {s : Stp} (h : m.stack = f :: r) (hm : ¬ most ≤ (m.recs.length : Int)) {n : Nat} (hn : m.size most ≤ n + 1) : (m.did p f r s).size most ≤ n := by
  unfold Mc.size at *
  rw [h, List.length_cons] at hn
  unfold Mc.did
  cases s.makes f.arg m.cells with
  | none =>
    show 2 * (most - ((m.recs ++ [_]).length : Int)).toNat + (r.length + 1) ≤ n
    rw [List.length_append, List.length_singleton]
    omega
  | some o =>
    show 2 * (most - ((m.recs ++ [_]).length : Int)).toNat + (r.length + 1 + 1) ≤ n
    rw [List.length_append, List.length_singleton]
    omega
end Fg
namespace Fg
open PySem PySem.Spec PyProof.Rows L2
/-! ### what was given, in the heap: a dict of lists -/
def gK : Given → List Addr → List (Key × V)
  | g :: gv, l :: ls => (Sum.inr g.1, V.ref l) :: gK gv ls
  | _, _ => []
theorem gK_len : ∀ {gv : Given} {ls : List Addr}, ls.length = gv.length → (gK gv ls).length = gv.length
  | [], [], _ => rfl
  | [], _ :: _, h => by simp at h
  | _ :: _, [], h => by simp at h
  | g :: gv, l :: ls, h => by
    show (gK gv ls).length + 1 = gv.length + 1
    rw [gK_len (by simpa using h)]
theorem gK_snoc : ∀ {gv : Given} {ls : List Addr} (g : Str × List Int) (l : Addr), ls.length = gv.length → gK (gv ++ [g]) (ls ++ [l]) = gK gv ls ++ [(Sum.inr g.1, V.ref l)]
  | [], [], _, _, _ => rfl
  | [], _ :: _, _, _, h => by simp at h
  | _ :: _, [], _, _, h => by simp at h
  | g0 :: gv, l0 :: ls, g, l, h => by
    show (Sum.inr g0.1, V.ref l0) :: gK (gv ++ [g]) (ls ++ [l]) = _
    rw [gK_snoc g l (by simpa using h)]
    rfl
theorem gK_keys : ∀ {gv : Given} {ls : List Addr}, ls.length = gv.length → (gK gv ls).map (·.1) = (gv.map (·.1)).map Sum.inr
  | [], [], _ => rfl
  | [], _ :: _, h => by simp at h
  | _ :: _, [], h => by simp at h
  | g :: gv, l :: ls, h => by
    show Sum.inr g.1 :: (gK gv ls).map (·.1) = _
    rw [gK_keys (by simpa using h)]
    rfl
theorem gK_set : ∀ {gv : Given} {ls : List Addr} {i : Nat} {x : Str} {row row' : List Int}, gv[i]? = some (x, row) → gK (gv.set i (x, row')) ls = gK gv ls
  | [], _, _, _, _, _, h => by simp at h
  | g :: gv, [], i, x, row, row', h => by cases i <;> rfl
  | g :: gv, l :: ls, 0, x, row, row', h => by
    cases (Option.some.inj (show some g = some (x, row) from h))
    rfl
  | g :: gv, l :: ls, i + 1, x, row, row', h => by
    show (Sum.inr g.1, V.ref l) :: gK (gv.set i (x, row')) ls = _
    rw [gK_set (i := i) (row := row) h]
    rfl
theorem valV_cons {k k' : Key} {v : V} {kvs : List (Key × V)} : valV ((k', v) :: kvs) k = if k' = k then some v else valV kvs k := by
  unfold valV
  rw [List.find?_cons]
  by_cases e : k' = k
  · rw [if_pos e, decide_eq_true e]; rfl
  · rw [if_neg e, decide_eq_false e]
theorem gv_cases : ∀ (gv : Given) (ls : List Addr) (x : Str), ls.length = gv.length → (gv.map (·.1)).Nodup →
    (valV (gK gv ls) (Sum.inr x) = none ∧ x ∉ gv.map (·.1)) ∨ ∃ (i : Nat) (l : Addr) (row : List Int), gv[i]? = some (x, row) ∧ ls[i]? = some l ∧ valV (gK gv ls) (Sum.inr x) = some (.ref l)
  | [], [], x, _, _ => .inl ⟨rfl, by simp⟩
  | [], _ :: _, _, h, _ => by simp at h
  | _ :: _, [], _, h, _ => by simp at h
  | g :: gv, l :: ls, x, h, nd => by
    have e0 : gK (g :: gv) (l :: ls) = (Sum.inr g.1, V.ref l) :: gK gv ls := rfl
    rw [e0, valV_cons]
    by_cases e : g.1 = x
    · refine .inr ⟨0, l, g.2, ?_, rfl, if_pos (by rw [e])⟩
      rw [← e]
      rfl
    · have e' : ¬ (Sum.inr g.1 : Key) = Sum.inr x := fun z => e (Sum.inr.inj z)
      rw [if_neg e']
      rcases gv_cases gv ls x (by simpa using h) (List.nodup_cons.mp nd).2 with ⟨h1, h2⟩ | ⟨i, l', row, h1, h2, h3⟩
      · refine .inl ⟨h1, fun m => ?_⟩
        rcases List.mem_cons.mp m with m | m
        · exact e m.symm
        · exact h2 m
      · exact .inr ⟨i + 1, l', row, h1, h2, h3⟩
theorem gAdd_new {gv : Given} {x : Str} (h : x ∉ gv.map (·.1)) (n : Int) : gAdd gv x n = gv ++ [(x, [n])] := by
  unfold gAdd
  rw [if_neg]
  intro z
  obtain ⟨g, hg, e⟩ := List.any_eq_true.mp z
  exact h (List.mem_map.mpr ⟨g, hg, of_decide_eq_true e⟩)
theorem gAdd_old : ∀ {gv : Given} {x : Str} {i : Nat} {row : List Int} (n : Int), (gv.map (·.1)).Nodup → gv[i]? = some (x, row) → gAdd gv x n = gv.set i (x, row ++ [n]) := by
  intro gv x i row n nd h
  unfold gAdd
  rw [if_pos (List.any_eq_true.mpr ⟨_, List.mem_of_getElem? h, decide_eq_true rfl⟩)]
  induction gv generalizing i with
  | nil => simp at h
  | cons g gv ih =>
    obtain ⟨n1, n2⟩ := List.nodup_cons.mp nd
    cases i with
    | zero =>
      cases (Option.some.inj (show some g = some (x, row) from h))
      show (if x = x then (x, row ++ [n]) else (x, row)) :: _ = _
      rw [if_pos rfl]
      show _ = (x, row ++ [n]) :: gv
      congr 1
      have e : ∀ g ∈ gv, (if g.1 = x then (g.1, g.2 ++ [n]) else g) = g := fun g hg => by
        rw [if_neg]
        intro z
        exact n1 (List.mem_map.mpr ⟨g, hg, z⟩)
      rw [List.map_congr_left e, List.map_id']
    | succ i =>
      have h' : gv[i]? = some (x, row) := h
      have ne : ¬ g.1 = x := fun z => n1 (List.mem_map.mpr ⟨_, List.mem_of_getElem? h', z.symm⟩)
      show (if g.1 = x then (g.1, g.2 ++ [n]) else g) :: _ = g :: gv.set i (x, row ++ [n])
      rw [if_neg ne, ih n2 h']
theorem gAdd_names {gv : Given} {x : Str} (n : Int) (nd : (gv.map (·.1)).Nodup) : ((gAdd gv x n).map (·.1)).Nodup := by
  unfold gAdd
  split
  · rw [List.map_map]
    rw [show ((fun g : Str × List Int => g.1) ∘ fun g => if g.1 = x then (g.1, g.2 ++ [n]) else g) = fun g => g.1 from funext fun g => by
      show (if g.1 = x then (g.1, g.2 ++ [n]) else g).1 = g.1
      split <;> rfl]
    exact nd
  · next h =>
    rw [List.map_append]
    refine nd_snoc nd fun m => h ?_
    obtain ⟨g, hg, e⟩ := List.mem_map.mp m
    exact List.any_eq_true.mpr ⟨g, hg, decide_eq_true e⟩
theorem gAdd_len (gv : Given) (x : Str) (n : Int) : (gAdd gv x n).length ≤ gv.length + 1 := by
  unfold gAdd
  split
  · rw [List.length_map]; omega
  · rw [List.length_append, List.length_singleton]; omega
structure GvAt (H : Hp) (gd : Addr) (gv : Given) (ls : List Addr) : Prop where
  dict : H gd = some (.dK (gK gv ls))
  len : ls.length = gv.length
  nd : ls.Nodup
  names : (gv.map (·.1)).Nodup
  rows : ∀ (i : Nat) (g : Str × List Int) (l : Addr), gv[i]? = some g → ls[i]? = some l → H l = some (.lst (g.2.map V.int))
theorem GvAt.keep {M : List Addr} {H H' : Hp} {gd : Addr} {gv : Given} {ls : List Addr} (h : GvAt H gd gv ls) (c : Chg M H H') (h1 : gd ∉ M) (h2 : ∀ l ∈ ls, l ∉ M) : GvAt H' gd gv ls :=
  ⟨c.keep _ _ h.dict h1, h.len, h.nd, h.names, fun i g l hg hl => c.keep _ _ (h.rows i g l hg hl) (h2 l (List.mem_of_getElem? hl))⟩
theorem GvAt.same {H H' : Hp} {gd : Addr} {gv : Given} {ls : List Addr} (h : GvAt H gd gv ls) (c : Chg [] H H') : GvAt H' gd gv ls := h.keep c (by simp) (by simp)
/-- one more for a name that is there -/
theorem GvAt.old {H H' : Hp} {gd : Addr} {gv : Given} {ls : List Addr} {x : Str} {i : Nat} {row : List Int} {l : Addr} {n : Int} (h : GvAt H gd gv ls) (hg : gv[i]? = some (x, row)) (hl : ls[i]? = some l) (c : Chg [l] H H') (h' : H' l = some (.lst ((row ++ [n]).map V.int))) : GvAt H' gd (gAdd gv x n) ls := by
  rw [gAdd_old n h.names hg]
  have hi : i < gv.length := (List.getElem?_eq_some_iff.mp hg).1
  refine ⟨?_, by rw [List.length_set]; exact h.len, h.nd, ?_, fun j g l' hg' hl' => ?_⟩
  · rw [gK_set hg]
    exact c.at1 h.dict fun z => by
      have := h.rows i _ l hg hl
      rw [← z, h.dict] at this
      cases this
  · rw [← gAdd_old n h.names hg]
    exact gAdd_names n h.names
  · by_cases e : j = i
    · subst e
      rw [hl] at hl'
      cases hl'
      rw [List.getElem?_set_self hi] at hg'
      cases hg'
      exact h'
    · rw [List.getElem?_set_ne (Ne.symm e)] at hg'
      refine c.at1 (h.rows j g l' hg' hl') fun z => e ?_
      subst z
      have hj := (List.getElem?_eq_some_iff.mp hl').1
      exact (List.getElem?_inj hj h.nd).mp (by rw [hl', hl])
/-- a new name -/
theorem GvAt.new {H H' : Hp} {gd : Addr} {gv : Given} {ls : List Addr} {x : Str} {l : Addr} {n : Int} (h : GvAt H gd gv ls) (hx : x ∉ gv.map (·.1)) (nl : ∀ l' ∈ ls, l' ≠ l) (c : ∀ l' ∈ ls, ∀ o, H l' = some o → H' l' = some o) (hd : H' gd = some (.dK (gK gv ls ++ [(Sum.inr x, V.ref l)]))) (h' : H' l = some (.lst ([n].map V.int))) : GvAt H' gd (gAdd gv x n) (ls ++ [l]) := by
  rw [gAdd_new hx]
  refine ⟨by rw [gK_snoc _ _ h.len]; exact hd, by rw [List.length_append, List.length_append, h.len]; rfl, nd_snoc h.nd fun m => nl l m rfl, ?_, fun j g l' hg hl => ?_⟩
  · rw [List.map_append]
    exact nd_snoc h.names hx
  · by_cases hj : j < gv.length
    · rw [List.getElem?_append_left hj] at hg
      rw [List.getElem?_append_left (by rw [h.len]; exact hj)] at hl
      exact c l' (List.mem_of_getElem? hl) _ (h.rows j g l' hg hl)
    · have hj2 : j = gv.length := by
        have := (List.getElem?_eq_some_iff.mp hg).1
        rw [List.length_append, List.length_singleton] at this
        omega
      subst hj2
      rw [List.getElem?_append_right (Nat.le_refl _), Nat.sub_self] at hg
      rw [List.getElem?_append_right (by rw [h.len]; exact Nat.le_refl _), h.len, Nat.sub_self] at hl
      cases (Option.some.inj (show some (x, [n]) = some g from hg))
      cases (Option.some.inj (show some l = some l' from hl))
      exact h'
end Fg
--LAW k07
namespace Fg
open PySem PySem.Spec PyProof.Rows L2
/-! ### the walk's small steps -/
local macro_rules | `(tactic| walk_at "hp") => `(tactic| first
  | assumption
  | exact upd_same
  | (refine Chg.at (by assumption) ?_; walk_at "hp")
  | (refine Chg.at1 (by assumption) ?_ (by walk_at "ne"); walk_at "hp"))
local macro_rules | `(tactic| walk_at "ne") => `(tactic| first | assumption | (apply Ne.symm; assumption))
local macro_rules | `(tactic| walk_at "sq") => `(tactic| first | assumption | exact sqL (by walk_at "hp") | (refine Chg.seq (by assumption) ?_; walk_at "sq"))
local macro_rules | `(tactic| walk_at "sz") => `(tactic| first | assumption | exact Nat.zero_le _ | (simp only [List.length_cons, List.length_nil]; decide) | exact Nat.le_trans (by first | omega | (simp; done) | (simp; omega)) (show 100000 ≤ sizeLine by decide) | exact Nat.lt_of_lt_of_le (by first | omega | (simp; done) | (simp; omega)) (show 100000 ≤ sizeLine by decide))
local macro_rules | `(tactic| walk_at "ix") => `(tactic| first | exact at0 | exact at1 | exact at2 | exact at3 | assumption | exact rfl | walk_at "ix2")
local macro_rules | `(tactic| walk_at "ix2") => `(tactic| fail)
local macro_rules | `(tactic| walk_at "num") => `(tactic| first | assumption | omega | decide | walk_at "num2")
local macro_rules | `(tactic| walk_at "num2") => `(tactic| fail)
local macro_rules | `(tactic| walk_at "im") => `(tactic| first | assumption | exact R.non (S := fun _ => False) | exact R.bl (S := fun _ => False) _ | exact R.int (S := fun _ => False) _ | exact R.str (S := fun _ => False) _ | (refine R.im (by assumption) ?_; walk_at "im"))
local macro_rules | `(tactic| walk_at "r") => `(tactic| first | assumption | exact R.non (S := fun _ => False) | exact R.bl (S := fun _ => False) _ | exact R.int (S := fun _ => False) _ | exact R.str (S := fun _ => False) _ | (refine R.same (by assumption) ?_; walk_at "r") | exact R.any (by walk_at "im"))
local macro_rules | `(tactic| walk_at "chg") => `(tactic| first
  | exact Chg.refl
  | assumption
  | (refine Chg.same ?_ (by assumption); walk_at "chg")
  | (refine Chg.both ?_ (by assumption); walk_at "chg")
  | (refine Chg.pre (by assumption) ?_; walk_at "chg"))
local macro_rules | `(tactic| walk_at "w1") => `(tactic| first
  | with_reducible apply w_seq
  | with_reducible apply w_asg
  | ((with_reducible apply w_var); (focus (exact rfl)))
  | with_reducible apply w_c
  | with_reducible apply w_op
  | with_reducible apply w_cons
  | with_reducible apply w_nil
  | with_reducible apply w_gName
  | with_reducible apply w_if
  | with_reducible apply w_test
  | with_reducible apply w_B
  | with_reducible apply w_isbl
  | with_reducible apply w_retN
  | with_reducible apply w_next
  | with_reducible apply w_drop
  | with_reducible apply w_cb
  | with_reducible apply w_call
  | with_reducible apply w_callN
  | with_reducible apply w_bm
  | with_reducible apply w_bm0
  | ((with_reducible apply w_tyL); (focus (walk_at "hp"; done)))
  | with_reducible apply w_dput
  | with_reducible apply w_m1
  | with_reducible apply w_isstr
  | with_reducible apply w_and
  | with_reducible apply w_or
  | with_reducible apply w_not
  | with_reducible apply w_andV
  | with_reducible apply w_orV
  | with_reducible apply w_notV
  | with_reducible apply w_ifE
  | with_reducible apply w_chain
  | with_reducible apply w_un
  | with_reducible apply w_neg
  | with_reducible apply w_add
  | with_reducible apply w_sub
  | ((with_reducible apply w_mod); (focus (walk_at "num"; done)))
  | ((with_reducible apply w_mul); (focus (walk_at "num"; done)))
  | ((with_reducible apply w_fdiv); (focus (walk_at "num"; done)))
  | ((with_reducible apply w_pow); (focus (walk_at "num"; done)))
  | with_reducible apply w_lt
  | with_reducible apply w_le
  | with_reducible apply w_gt
  | with_reducible apply w_ge
  | with_reducible apply w_ltS
  | with_reducible apply w_geS
  | with_reducible apply w_inC
  | with_reducible apply w_notInC
  | with_reducible apply w_isN
  | with_reducible apply w_notN
  | with_reducible apply w_isB
  | with_reducible apply w_notB
  | ((with_reducible apply w_addS); (focus (walk_at "sz"; done)))
  | ((with_reducible apply w_ixL); (focus (walk_at "sq"; done)); (focus (walk_at "ix"; done)))
  | ((with_reducible apply w_ixT); (focus (walk_at "hp"; done)); (focus (walk_at "ix"; done)))
  | ((with_reducible apply w_ixS); (focus (walk_at "sz"; done)); (focus (walk_at "ix"; done)))
  | with_reducible apply w_gSub
  | ((with_reducible apply w_gTup); (focus (walk_at "hp"; done)); (focus (exact rfl)))
  | with_reducible apply w_gCons
  | with_reducible apply w_gNil
  | ((with_reducible apply w_aug); (focus (exact rfl)))
  | with_reducible apply w_ipI
  | ((with_reducible apply w_eq); (focus (exact rfl)))
  | ((with_reducible apply w_ne); (focus (exact rfl)))
  | with_reducible apply w_max
  | with_reducible apply w_min
  | with_reducible apply w_abs
  | with_reducible apply w_intB
  | with_reducible apply w_intI
  | with_reducible apply w_tup1
  | with_reducible apply w_lst1
  | with_reducible apply w_sl
  | with_reducible apply w_part
  | with_reducible apply w_noPart
  | with_reducible apply w_isint
  | ((with_reducible apply w_slS); (focus (walk_at "sz"; done)))
  | with_reducible apply w_iteT
  | with_reducible apply w_iteF
  | with_reducible apply w_iteN
  | ((with_reducible apply w_iteYes); (focus (exact rfl)))
  | ((with_reducible apply w_iteNo); (focus (exact rfl)))
  | ((with_reducible apply w_lenL); (focus (walk_at "sq"; done)))
  | ((with_reducible apply w_lenT); (focus (walk_at "hp"; done)))
  | ((with_reducible apply w_lenS); (focus (walk_at "sz"; done)))
  | with_reducible apply w_lc
  | with_reducible apply w_for
  | with_reducible apply w_yes
  | ((with_reducible apply w_wipe); (focus (exact rfl)))
  | with_reducible apply w_iList
  | with_reducible apply w_iTup
  | with_reducible apply w_iStr
  | with_reducible apply w_iRng1
  | with_reducible apply w_iRng2
  | with_reducible apply w_iZip
  | with_reducible apply w_iEnum
  | ((with_reducible apply d_iList); (focus (walk_at "sq"; done)))
  | ((with_reducible apply d_iTup); (focus (walk_at "hp"; done)))
  | with_reducible apply d_iStr
  | ((with_reducible apply d_iRng1); (focus (walk_at "num"; done)); (focus (walk_at "num"; done)))
  | ((with_reducible apply d_iRng2); (focus (walk_at "num"; done)); (focus (walk_at "num"; done)); (focus (walk_at "num"; done)); (focus (walk_at "num"; done)))
  | ((with_reducible apply d_iZip); (focus (walk_at "sq"; done)); (focus (walk_at "sq"; done)))
  | ((with_reducible apply d_iEnum); (focus (walk_at "sq"; done)))
  | walk_at "w2")
local macro_rules | `(tactic| walk_at "w2") => `(tactic| fail)
local macro_rules | `(tactic| walk_at "wn") => `(tactic| repeat walk_at "w1")
local macro_rules | `(tactic| walk_at "w") => `(tactic| repeat (first | walk_at "w1" | with_reducible apply w_ret))

local macro_rules | `(tactic| walk_at "w2") => `(tactic| first
  | ((with_reducible apply w_isInt); (focus (walk_at "r"; done)))
  | ((with_reducible apply w_isBool); (focus (walk_at "r"; done)))
  | ((with_reducible apply w_isStr); (focus (walk_at "r"; done)))
  | ((with_reducible apply w_isTup); (focus (walk_at "r"; done)))
  | ((with_reducible apply w_isLst); (focus (walk_at "r"; done)))
  | with_reducible apply w_fld
  | with_reducible apply w_sfld
  | with_reducible apply w_faug
  | with_reducible apply w_rAdd
  | with_reducible apply w_rSub
  | with_reducible apply w_make
  | with_reducible apply w_orT
  | with_reducible apply w_dgetd
  | with_reducible apply w_dgetk
  | with_reducible apply w_dsetd
  | ((with_reducible apply k_dgetd); (focus (walk_at "hp"; done)))
  | ((with_reducible apply k_dsetd); (focus (walk_at "hp"; done)))
  | walk_at "w3")
local macro_rules | `(tactic| walk_at "w3") => `(tactic| fail)

def sp_reckon (n : Nat) : Sp := fun vs H Q _ => ∃ (v : V) (e : Ex) (g : Int) (dc : Addr) (cs : Cells) (ak : V) (as : Option (List Int)), vs = [v, .int g, .ref dc, ak] ∧ Im H v e.data ∧ e.deep ≤ n ∧ H dc = some (.dK (cK cs)) ∧ Ask H ak as ∧ (∀ xs, as = some xs → xs.length + 2 ^ e.deep ≤ 1000) ∧
  ∀ H', Chg (akL ak) H H' → Ask H' ak (as.map (· ++ e.asked g cs)) → Q (.int (e.worth g cs)) H'
theorem no_reckon (vs : List V) (H : Hp) (Q : VK) (E : XK) : ¬ sp_reckon 0 vs H Q E := by
  rintro ⟨v, e, g, dc, cs, ak, as, _, _, h, _⟩
  have := e.deep_pos
  omega
def t_reckon (K : PySem.W.Frag) (n : Nat) : TS :=
    tSeq (tIfS (tB (tCB (rIsi K) (tCons (tVar 0) (tCons (tC (.ty "int")) (tNil))))) (tRet (tVar 0)) (tNext))
    (tSeq (tAsg (tOp (rIxT K) (tVar 0) (tC (.int 0))) (gName 4))
    (tSeq (tIfS (tTest (tOp rEq (tVar 4) (tC (.str "arg")))) (tRet (tVar 1)) (tNext))
    (tSeq (tAsg (tCall (sp_reckon n) [] E0 (tCons (tOp (rIxT K) (tVar 0) (tC (.int 1))) (tCons (tVar 1) (tCons (tVar 2) (tCons (tVar 3) (tNil)))))) (gName 5))
    (tSeq (tIfS (tTest (tOp rEq (tVar 4) (tC (.str "cell")))) (tSeq (tIfS (tTest (tOp oNotN (tVar 3) (tC .non))) (tDrop (tBM K "list" rAppend (tVar 3) (tCons (tVar 5) (tNil)))) (tNext))
    (tRet (tDGet2 (tVar 2) (tVar 5) (tC (.int 0))))) (tNext))
    (tSeq (tAsg (tCall (sp_reckon n) [] E0 (tCons (tOp (rIxT K) (tVar 0) (tC (.int 2))) (tCons (tVar 1) (tCons (tVar 2) (tCons (tVar 3) (tNil)))))) (gName 6))
    (tSeq (tIfS (tTest (tOp rEq (tVar 4) (tC (.str "add")))) (tRet (tOp oAdd (tVar 5) (tVar 6))) (tNext))
    (tSeq (tIfS (tTest (tOp rEq (tVar 4) (tC (.str "less")))) (tRet (tOp oSub (tVar 5) (tVar 6))) (tNext))
    (tRet (tCB cMin (tCons (tVar 5) (tCons (tVar 6) (tNil))))))))))))
theorem ask_nil {as : Option (List Int)} : as.map (· ++ []) = as := by
  cases as with
  | none => rfl
  | some xs => show some (xs ++ []) = some xs; rw [List.append_nil]
theorem ask_two {as : Option (List Int)} {xs ys : List Int} : (as.map (· ++ xs)).map (· ++ ys) = as.map (· ++ (xs ++ ys)) := by
  cases as with
  | none => rfl
  | some zs => show some ((zs ++ xs) ++ ys) = some (zs ++ (xs ++ ys)); rw [List.append_assoc]
theorem im_tup {H : Hp} {v : V} {ds : List PyData} (r : Im H v (.tuple ds)) : ∃ a xs, v = .ref a ∧ H a = some (.tup xs) ∧ ImA H xs ds := by
  cases r with
  | tup e ra => exact ⟨_, _, rfl, e, ra⟩
theorem imA2 {H : Hp} {xs : List V} {d1 d2 : PyData} (r : ImA H xs [d1, d2]) : ∃ x y, xs = [x, y] ∧ Im H x d1 ∧ Im H y d2 := by
  cases r with
  | cons a r =>
    cases r with
    | cons b r => cases r; exact ⟨_, _, rfl, a, b⟩
theorem imA3 {H : Hp} {xs : List V} {d1 d2 d3 : PyData} (r : ImA H xs [d1, d2, d3]) : ∃ x y z, xs = [x, y, z] ∧ Im H x d1 ∧ Im H y d2 ∧ Im H z d3 := by
  cases r with
  | cons a r =>
    obtain ⟨y, z, rfl, h2, h3⟩ := imA2 r
    exact ⟨_, y, z, rfl, a, h2, h3⟩
theorem im_str {H : Hp} {v : V} {x : Str} (r : Im H v (.str x)) : v = .str x := by cases r; rfl
theorem im_int {H : Hp} {v : V} {i : Int} (r : Im H v (.int i)) : v = .int i := by cases r; rfl
theorem pure_reckon {K : PySem.W.Frag} (n : Nat) (vs : List V) (H : Hp) (Q : VK) (E : XK) (h : sp_reckon (n + 1) vs H Q E) : t_reckon K n (fin Q) (start ["expression", "arg", "cells", "asked", "word", "one", "other"] vs) H := by
  obtain ⟨v, e, g, dc, cs, ak, as, rfl, r, de, hd, ask, room, q⟩ := h
  show t_reckon K n _ [some v, some (.int g), some (.ref dc), some ak, none, none, none] H
  unfold t_reckon
  cases e with
  | num i =>
    have e0 := im_int r
    subst e0
    walk_at "w"
    exact q H .refl (by rw [show (Ex.num i).asked g cs = [] from rfl, ask_nil]; exact ask)
  | arg =>
    obtain ⟨a, xs, rfl, ha, ra⟩ := im_tup r
    cases ra with
    | cons r1 rn =>
      cases rn
      have e0 := im_str r1
      subst e0
      walk_at "w"
      exact q H .refl (by rw [show (Ex.arg).asked g cs = [] from rfl, ask_nil]; exact ask)
  | cell e1 =>
    obtain ⟨a, xs, rfl, ha, ra⟩ := im_tup r
    obtain ⟨x, y, rfl, r1, r2⟩ := imA2 ra
    have e0 := im_str r1
    subst e0
    have d1 : e1.deep + 1 ≤ n + 1 := de
    have p1 : 2 ^ (e1.deep + 1) = 2 * 2 ^ e1.deep := by rw [Nat.pow_succ]; omega
    walk_at "w"
    refine ⟨y, e1, g, dc, cs, ak, as, rfl, r2, by omega, hd, ask, fun xs hx => by have := room xs hx; rw [show (Ex.cell e1).deep = e1.deep + 1 from rfl] at this; omega, fun H1 c1 ask1 => ?_⟩
    have hd1 := c1.keep _ _ hd (ask.ne hd)
    walk_at "w"
    rcases ask1 with ⟨rfl, e2⟩ | ⟨l, zs, rfl, e2, hl⟩
    · walk_at "w"
      refine ⟨_, .k (k := Sum.inl (e1.worth g cs)) hd1, ?_⟩
      rw [getD_cK]
      refine q H1 c1 (.inl ⟨rfl, ?_⟩)
      cases as with
      | none => rfl
      | some _ => cases e2
    · walk_at "w"
      obtain ⟨as0, rfl⟩ : ∃ as0, as = some as0 := by
        cases as with
        | none => cases e2
        | some a => exact ⟨a, rfl⟩
      have e3 := Option.some.inj e2
      have hlen := room as0 rfl
      have hle := Ex.asked_len g cs e1
      have hp : 2 ^ (e1.deep - 1) ≤ 2 ^ e1.deep := Nat.pow_le_pow_right (by decide) (Nat.sub_le _ _)
      rw [show (Ex.cell e1).deep = e1.deep + 1 from rfl] at hlen
      have lz : zs.length ≤ 1000 := by
        rw [← e3, List.length_append]
        omega
      refine w_append hl (by rw [List.length_map]; walk_at "sz") fun H2 c2 hl2 => ?_
      have nd : dc ≠ l := fun z => by rw [z, hl] at hd1; cases hd1
      have hd2 := c2.at1 hd1 nd
      walk_at "w"
      refine ⟨_, .k (k := Sum.inl (e1.worth g cs)) hd2, ?_⟩
      rw [getD_cK]
      refine q H2 (c1.both c2) (.inr ⟨l, zs ++ [e1.worth g cs], rfl, ?_, by rw [List.map_append]; exact hl2⟩)
      rw [← e3]
      show some (as0 ++ (e1.asked g cs ++ [e1.worth g cs])) = _
      rw [List.append_assoc]
  | add e1 e2 =>
    obtain ⟨a, xs, rfl, ha, ra⟩ := im_tup r
    obtain ⟨x, y, z, rfl, r1, r2, r3⟩ := imA3 ra
    have e0 := im_str r1
    subst e0
    have d1 : max e1.deep e2.deep + 1 ≤ n + 1 := de
    have p1 : 2 ^ (max e1.deep e2.deep + 1) = 2 * 2 ^ max e1.deep e2.deep := by rw [Nat.pow_succ]; omega
    have p2 : 2 ^ e1.deep ≤ 2 ^ max e1.deep e2.deep := Nat.pow_le_pow_right (by decide) (Nat.le_max_left _ _)
    have p3 : 2 ^ e2.deep ≤ 2 ^ max e1.deep e2.deep := Nat.pow_le_pow_right (by decide) (Nat.le_max_right _ _)
    have p4 : 2 ^ (e1.deep - 1) ≤ 2 ^ e1.deep := Nat.pow_le_pow_right (by decide) (Nat.sub_le _ _)
    have room' : ∀ xs, as = some xs → xs.length + 2 ^ (max e1.deep e2.deep + 1) ≤ 1000 := room
    walk_at "w"
    refine ⟨y, e1, g, dc, cs, ak, as, rfl, r2, by omega, hd, ask, fun xs hx => by have := room' xs hx; omega, fun H1 c1 ask1 => ?_⟩
    have hd1 := c1.keep _ _ hd (ask.ne hd)
    have ha1 := c1.tup _ _ ha
    have r31 := r3.im c1
    walk_at "w"
    refine ⟨z, e2, g, dc, cs, ak, _, rfl, r31, by omega, hd1, ask1, fun xs hx => ?_, fun H2 c2 ask2 => ?_⟩
    · cases as with
      | none => cases hx
      | some as0 =>
        have e3 : as0 ++ e1.asked g cs = xs := Option.some.inj hx
        have hle := Ex.asked_len g cs e1
        have := room' as0 rfl
        rw [← e3, List.length_append]
        omega
    rw [ask_two] at ask2
    walk_at "w"
    exact q H2 (c1.both c2) ask2
  | less e1 e2 =>
    obtain ⟨a, xs, rfl, ha, ra⟩ := im_tup r
    obtain ⟨x, y, z, rfl, r1, r2, r3⟩ := imA3 ra
    have e0 := im_str r1
    subst e0
    have d1 : max e1.deep e2.deep + 1 ≤ n + 1 := de
    have p1 : 2 ^ (max e1.deep e2.deep + 1) = 2 * 2 ^ max e1.deep e2.deep := by rw [Nat.pow_succ]; omega
    have p2 : 2 ^ e1.deep ≤ 2 ^ max e1.deep e2.deep := Nat.pow_le_pow_right (by decide) (Nat.le_max_left _ _)
    have p3 : 2 ^ e2.deep ≤ 2 ^ max e1.deep e2.deep := Nat.pow_le_pow_right (by decide) (Nat.le_max_right _ _)
    have p4 : 2 ^ (e1.deep - 1) ≤ 2 ^ e1.deep := Nat.pow_le_pow_right (by decide) (Nat.sub_le _ _)
    have room' : ∀ xs, as = some xs → xs.length + 2 ^ (max e1.deep e2.deep + 1) ≤ 1000 := room
    walk_at "w"
    refine ⟨y, e1, g, dc, cs, ak, as, rfl, r2, by omega, hd, ask, fun xs hx => by have := room' xs hx; omega, fun H1 c1 ask1 => ?_⟩
    have hd1 := c1.keep _ _ hd (ask.ne hd)
    have ha1 := c1.tup _ _ ha
    have r31 := r3.im c1
    walk_at "w"
    refine ⟨z, e2, g, dc, cs, ak, _, rfl, r31, by omega, hd1, ask1, fun xs hx => ?_, fun H2 c2 ask2 => ?_⟩
    · cases as with
      | none => cases hx
      | some as0 =>
        have e3 : as0 ++ e1.asked g cs = xs := Option.some.inj hx
        have hle := Ex.asked_len g cs e1
        have := room' as0 rfl
        rw [← e3, List.length_append]
        omega
    rw [ask_two] at ask2
    walk_at "w"
    exact q H2 (c1.both c2) ask2
  | least e1 e2 =>
    obtain ⟨a, xs, rfl, ha, ra⟩ := im_tup r
    obtain ⟨x, y, z, rfl, r1, r2, r3⟩ := imA3 ra
    have e0 := im_str r1
    subst e0
    have d1 : max e1.deep e2.deep + 1 ≤ n + 1 := de
    have p1 : 2 ^ (max e1.deep e2.deep + 1) = 2 * 2 ^ max e1.deep e2.deep := by rw [Nat.pow_succ]; omega
    have p2 : 2 ^ e1.deep ≤ 2 ^ max e1.deep e2.deep := Nat.pow_le_pow_right (by decide) (Nat.le_max_left _ _)
    have p3 : 2 ^ e2.deep ≤ 2 ^ max e1.deep e2.deep := Nat.pow_le_pow_right (by decide) (Nat.le_max_right _ _)
    have p4 : 2 ^ (e1.deep - 1) ≤ 2 ^ e1.deep := Nat.pow_le_pow_right (by decide) (Nat.sub_le _ _)
    have room' : ∀ xs, as = some xs → xs.length + 2 ^ (max e1.deep e2.deep + 1) ≤ 1000 := room
    walk_at "w"
    refine ⟨y, e1, g, dc, cs, ak, as, rfl, r2, by omega, hd, ask, fun xs hx => by have := room' xs hx; omega, fun H1 c1 ask1 => ?_⟩
    have hd1 := c1.keep _ _ hd (ask.ne hd)
    have ha1 := c1.tup _ _ ha
    have r31 := r3.im c1
    walk_at "w"
    refine ⟨z, e2, g, dc, cs, ak, _, rfl, r31, by omega, hd1, ask1, fun xs hx => ?_, fun H2 c2 ask2 => ?_⟩
    · cases as with
      | none => cases hx
      | some as0 =>
        have e3 : as0 ++ e1.asked g cs = xs := Option.some.inj hx
        have hle := Ex.asked_len g cs e1
        have := room' as0 rfl
        rw [← e3, List.length_append]
        omega
    rw [ask_two] at ask2
    walk_at "w"
    exact q H2 (c1.both c2) ask2
end Fg
namespace Fg
open PySem PySem.Spec PyProof.Rows L2
/-! ### comprehensions with a test: each turn changes M at most; Ac tells what the list is behind i turns -/
def LfP (H : Hp) (M : List Addr) (D : Addr) (Ac : Nat → List V → Prop) (i : Nat) : Hp → Prop := fun H5 => ∃ acc, acc.length ≤ i ∧ H5 D = some (.lst acc) ∧ Chg M H H5 ∧ Ac i acc
def LfK (H : Hp) (M : List Addr) (D : Addr) (Ac : Nat → List V → Prop) (i : Nat) : VK := fun y H4 => ∃ acc, H4 D = some (.lst acc) ∧ acc.length < sizeLine ∧ LfP H M D Ac (i + 1) (upd H4 D (.lst (acc ++ [y])))
theorem lf_yes {H H4 : Hp} {M : List Addr} {D : Addr} {Ac : Nat → List V → Prop} {i : Nat} {acc : List V} {y : V} (nD : H D = none) (h : H4 D = some (.lst acc)) (hl : acc.length ≤ i) (hz : i ≤ 100000) (c : Chg M H H4) (q : Ac (i + 1) (acc ++ [y])) : LfK H M D Ac i y H4 :=
  ⟨acc, h, Nat.lt_of_le_of_lt (Nat.le_trans hl hz) (by decide), acc ++ [y], by rw [List.length_append, List.length_singleton]; omega, upd_same, c.go (Chg.mut h fun _ e => nomatch e) fun a ha => .inr (by rw [List.mem_singleton.mp ha]; exact nD), q⟩
theorem lf_no {H H4 : Hp} {M : List Addr} {D : Addr} {Ac : Nat → List V → Prop} {i : Nat} {acc : List V} (h : H4 D = some (.lst acc)) (hl : acc.length ≤ i) (c : Chg M H H4) (q : Ac (i + 1) acc) : LfP H M D Ac (i + 1) H4 := ⟨acc, by omega, h, c, q⟩
theorem w_lcF {J : It} {n : Nat} {G : Hp → Prop} {Y : Nat → Hp → V → Hp → Prop} {g : TG} {te : TE} {tt : TT} {vs : List Nat} {σ : L2.St} {H : Hp} {Q : Addr → Hp → Prop} (w : L2.Walk J n G Y) (M : List Addr) (Ac : Nat → List V → Prop)
    (h0 : Ac 0 []) (hG : ∀ H1, Chg M H H1 → G H1)
    (hs : ∀ D i acc x H1 H2, i < n → H D = none → H1 D = some (.lst acc) → acc.length ≤ i → Ac i acc → Chg M H H1 → Y i H1 x H2 → g x (wipe σ vs) H2 fun σ2 H3 => wipe σ2 vs = wipe σ vs ∧
      tt σ2 H3 fun b H3 => if b = true then te σ2 H3 (LfK H M D Ac i) else LfP H M D Ac (i + 1) H3)
    (hd : ∀ D acc H1, H D = none → Chg M H H1 → acc.length ≤ n → H1 D = some (.lst acc) → Ac n acc → Q D H1) :
    ∀ D, H D = none → ∃ W : Nat → Nat → Hp → Prop, (∃ m, W 0 m (upd H D (.lst []))) ∧ ∀ i m H, W i m H →
      (J.stop i H ∧ Q D H) ∨ (J.go i H ∧ ∃ Nx : Hp → Prop, (∀ H', Nx H' → ∃ m', m' < m ∧ W (i + 1) m' H') ∧ ∀ x H', J.yld i H x H' → g x (wipe σ vs) H' fun σ2 H2 => wipe σ2 vs = wipe σ vs ∧ tt σ2 H2 fun b H3 =>
        if b = true then te σ2 H3 fun y H4 => ∃ acc, H4 D = some (.lst acc) ∧ acc.length < sizeLine ∧ Nx (upd H4 D (.lst (acc ++ [y]))) else Nx H3) := by
  intro D nD
  refine lc_it w (Qd := fun H => Q D H) (LfP H M D Ac) ⟨[], Nat.le_refl _, upd_same, (Chg.new nD).wide (by simp), h0⟩ (fun i H1 hi ⟨acc, _, _, c, _⟩ => hG H1 c) (fun i x H1 H2 hi hp y => ?_) (fun H1 ⟨acc, e, h, c, q⟩ => hd D acc H1 nD c e h q)
  obtain ⟨acc, e, h, c, q⟩ := hp
  exact hs D i acc x H1 H2 hi nD h e q c y
end Fg
--LAW k07
namespace Fg
open PySem PySem.Spec PyProof.Rows L2
/-! ### the walk's small steps -/
local macro_rules | `(tactic| walk_at "hp") => `(tactic| first
  | assumption
  | exact upd_same
  | (refine Chg.at (by assumption) ?_; walk_at "hp")
  | (refine Chg.at1 (by assumption) ?_ (by walk_at "ne"); walk_at "hp"))
local macro_rules | `(tactic| walk_at "ne") => `(tactic| first | assumption | (apply Ne.symm; assumption))
local macro_rules | `(tactic| walk_at "sq") => `(tactic| first | assumption | exact sqL (by walk_at "hp") | (refine Chg.seq (by assumption) ?_; walk_at "sq"))
local macro_rules | `(tactic| walk_at "sz") => `(tactic| first | assumption | exact Nat.zero_le _ | (simp only [List.length_cons, List.length_nil]; decide) | exact Nat.le_trans (by first | omega | (simp; done) | (simp; omega)) (show 100000 ≤ sizeLine by decide) | exact Nat.lt_of_lt_of_le (by first | omega | (simp; done) | (simp; omega)) (show 100000 ≤ sizeLine by decide))
local macro_rules | `(tactic| walk_at "ix") => `(tactic| first | exact at0 | exact at1 | exact at2 | exact at3 | assumption | exact rfl | walk_at "ix2")
local macro_rules | `(tactic| walk_at "ix2") => `(tactic| fail)
local macro_rules | `(tactic| walk_at "num") => `(tactic| first | assumption | omega | decide | walk_at "num2")
local macro_rules | `(tactic| walk_at "num2") => `(tactic| fail)
local macro_rules | `(tactic| walk_at "im") => `(tactic| first | assumption | exact R.non (S := fun _ => False) | exact R.bl (S := fun _ => False) _ | exact R.int (S := fun _ => False) _ | exact R.str (S := fun _ => False) _ | (refine R.im (by assumption) ?_; walk_at "im"))
local macro_rules | `(tactic| walk_at "r") => `(tactic| first | assumption | exact R.non (S := fun _ => False) | exact R.bl (S := fun _ => False) _ | exact R.int (S := fun _ => False) _ | exact R.str (S := fun _ => False) _ | (refine R.same (by assumption) ?_; walk_at "r") | exact R.any (by walk_at "im"))
local macro_rules | `(tactic| walk_at "chg") => `(tactic| first
  | exact Chg.refl
  | assumption
  | (refine Chg.same ?_ (by assumption); walk_at "chg")
  | (refine Chg.both ?_ (by assumption); walk_at "chg")
  | (refine Chg.pre (by assumption) ?_; walk_at "chg"))
local macro_rules | `(tactic| walk_at "w1") => `(tactic| first
  | with_reducible apply w_seq
  | with_reducible apply w_asg
  | ((with_reducible apply w_var); (focus (exact rfl)))
  | with_reducible apply w_c
  | with_reducible apply w_op
  | with_reducible apply w_cons
  | with_reducible apply w_nil
  | with_reducible apply w_gName
  | with_reducible apply w_if
  | with_reducible apply w_test
  | with_reducible apply w_B
  | with_reducible apply w_isbl
  | with_reducible apply w_retN
  | with_reducible apply w_next
  | with_reducible apply w_drop
  | with_reducible apply w_cb
  | with_reducible apply w_call
  | with_reducible apply w_callN
  | with_reducible apply w_bm
  | with_reducible apply w_bm0
  | ((with_reducible apply w_tyL); (focus (walk_at "hp"; done)))
  | with_reducible apply w_dput
  | with_reducible apply w_m1
  | with_reducible apply w_isstr
  | with_reducible apply w_and
  | with_reducible apply w_or
  | with_reducible apply w_not
  | with_reducible apply w_andV
  | with_reducible apply w_orV
  | with_reducible apply w_notV
  | with_reducible apply w_ifE
  | with_reducible apply w_chain
  | with_reducible apply w_un
  | with_reducible apply w_neg
  | with_reducible apply w_add
  | with_reducible apply w_sub
  | ((with_reducible apply w_mod); (focus (walk_at "num"; done)))
  | ((with_reducible apply w_mul); (focus (walk_at "num"; done)))
  | ((with_reducible apply w_fdiv); (focus (walk_at "num"; done)))
  | ((with_reducible apply w_pow); (focus (walk_at "num"; done)))
  | with_reducible apply w_lt
  | with_reducible apply w_le
  | with_reducible apply w_gt
  | with_reducible apply w_ge
  | with_reducible apply w_ltS
  | with_reducible apply w_geS
  | with_reducible apply w_inC
  | with_reducible apply w_notInC
  | with_reducible apply w_isN
  | with_reducible apply w_notN
  | with_reducible apply w_isB
  | with_reducible apply w_notB
  | ((with_reducible apply w_addS); (focus (walk_at "sz"; done)))
  | ((with_reducible apply w_ixL); (focus (walk_at "sq"; done)); (focus (walk_at "ix"; done)))
  | ((with_reducible apply w_ixT); (focus (walk_at "hp"; done)); (focus (walk_at "ix"; done)))
  | ((with_reducible apply w_ixS); (focus (walk_at "sz"; done)); (focus (walk_at "ix"; done)))
  | with_reducible apply w_gSub
  | ((with_reducible apply w_gTup); (focus (walk_at "hp"; done)); (focus (exact rfl)))
  | with_reducible apply w_gCons
  | with_reducible apply w_gNil
  | ((with_reducible apply w_aug); (focus (exact rfl)))
  | with_reducible apply w_ipI
  | ((with_reducible apply w_eq); (focus (exact rfl)))
  | ((with_reducible apply w_ne); (focus (exact rfl)))
  | with_reducible apply w_max
  | with_reducible apply w_min
  | with_reducible apply w_abs
  | with_reducible apply w_intB
  | with_reducible apply w_intI
  | with_reducible apply w_tup1
  | with_reducible apply w_lst1
  | with_reducible apply w_sl
  | with_reducible apply w_part
  | with_reducible apply w_noPart
  | with_reducible apply w_isint
  | ((with_reducible apply w_slS); (focus (walk_at "sz"; done)))
  | with_reducible apply w_iteT
  | with_reducible apply w_iteF
  | with_reducible apply w_iteN
  | ((with_reducible apply w_iteYes); (focus (exact rfl)))
  | ((with_reducible apply w_iteNo); (focus (exact rfl)))
  | ((with_reducible apply w_lenL); (focus (walk_at "sq"; done)))
  | ((with_reducible apply w_lenT); (focus (walk_at "hp"; done)))
  | ((with_reducible apply w_lenS); (focus (walk_at "sz"; done)))
  | with_reducible apply w_lc
  | with_reducible apply w_for
  | with_reducible apply w_yes
  | ((with_reducible apply w_wipe); (focus (exact rfl)))
  | with_reducible apply w_iList
  | with_reducible apply w_iTup
  | with_reducible apply w_iStr
  | with_reducible apply w_iRng1
  | with_reducible apply w_iRng2
  | with_reducible apply w_iZip
  | with_reducible apply w_iEnum
  | ((with_reducible apply d_iList); (focus (walk_at "sq"; done)))
  | ((with_reducible apply d_iTup); (focus (walk_at "hp"; done)))
  | with_reducible apply d_iStr
  | ((with_reducible apply d_iRng1); (focus (walk_at "num"; done)); (focus (walk_at "num"; done)))
  | ((with_reducible apply d_iRng2); (focus (walk_at "num"; done)); (focus (walk_at "num"; done)); (focus (walk_at "num"; done)); (focus (walk_at "num"; done)))
  | ((with_reducible apply d_iZip); (focus (walk_at "sq"; done)); (focus (walk_at "sq"; done)))
  | ((with_reducible apply d_iEnum); (focus (walk_at "sq"; done)))
  | walk_at "w2")
local macro_rules | `(tactic| walk_at "w2") => `(tactic| fail)
local macro_rules | `(tactic| walk_at "wn") => `(tactic| repeat walk_at "w1")
local macro_rules | `(tactic| walk_at "w") => `(tactic| repeat (first | walk_at "w1" | with_reducible apply w_ret))

local macro_rules | `(tactic| walk_at "w2") => `(tactic| first
  | ((with_reducible apply w_isInt); (focus (walk_at "r"; done)))
  | ((with_reducible apply w_isBool); (focus (walk_at "r"; done)))
  | ((with_reducible apply w_isStr); (focus (walk_at "r"; done)))
  | ((with_reducible apply w_isTup); (focus (walk_at "r"; done)))
  | ((with_reducible apply w_isLst); (focus (walk_at "r"; done)))
  | with_reducible apply w_fld
  | with_reducible apply w_sfld
  | with_reducible apply w_faug
  | with_reducible apply w_rAdd
  | with_reducible apply w_rSub
  | with_reducible apply w_make
  | with_reducible apply w_orT
  | with_reducible apply w_dgetd
  | with_reducible apply w_dgetk
  | with_reducible apply w_dsetd
  | ((with_reducible apply k_dgetd); (focus (walk_at "hp"; done)))
  | ((with_reducible apply k_dsetd); (focus (walk_at "hp"; done)))
  | walk_at "w3")
local macro_rules | `(tactic| walk_at "w3") => `(tactic| fail)

/-! ### new instances -/
structure CFs (K : PySem.W.Frag) : Prop where
  fr : C_Frame K
  rc : C_Record K
  oc : C_Outcome K
def sp_Frame___init__ (K : PySem.W.Frag) : Sp := fun vs H Q _ => ∃ (x dx : Addr) (v1 v2 v3 v4 : V), vs = [.ref x, v1, v2, v3, v4] ∧ H x = some (.ins (He.ga K "Frame") dx []) ∧ ∀ H', Chg [x] H H' → H' x = some (O_Frame K dx v1 v2 v3 v4 (.int 0) (.int 0) (.int 0)) → Q .non H'
def t_Frame___init__ (K : PySem.W.Frag) : TS :=
    tSeq (sFld K (tVar 0) (tVar 1) "number")
    (tSeq (sFld K (tVar 0) (tVar 2) "path")
    (tSeq (sFld K (tVar 0) (tVar 3) "rows")
    (tSeq (sFld K (tVar 0) (tVar 4) "arg")
    (tSeq (sFld K (tVar 0) (tC (.int 0)) "at")
    (tSeq (sFld K (tVar 0) (tC (.int 0)) "past")
    (sFld K (tVar 0) (tC (.int 0)) "born"))))))
theorem pure_Frame___init__ {K : PySem.W.Frag} (CF : CFs K) (vs : List V) (H : Hp) (Q : VK) (E : XK) (h : sp_Frame___init__ K vs H Q E) : t_Frame___init__ K (fin Q) (start ["self", "number", "path", "rows", "arg"] vs) H := by
  obtain ⟨x, dx, v1, v2, v3, v4, rfl, hx, q⟩ := h
  show t_Frame___init__ K _ [some (.ref x), some v1, some v2, some v3, some v4] H
  unfold t_Frame___init__
  walk_at "w"
  refine n_Frame_number CF.fr hx fun H1 c1 h1 => ?_
  walk_at "w"
  refine n_Frame_path CF.fr h1 fun H2 c2 h2 => ?_
  walk_at "w"
  refine n_Frame_rows CF.fr h2 fun H3 c3 h3 => ?_
  walk_at "w"
  refine n_Frame_arg CF.fr h3 fun H4 c4 h4 => ?_
  walk_at "w"
  refine n_Frame_at CF.fr h4 fun H5 c5 h5 => ?_
  walk_at "w"
  refine n_Frame_past CF.fr h5 fun H6 c6 h6 => ?_
  walk_at "w"
  refine n_Frame_born CF.fr h6 fun H7 c7 h7 => ?_
  exact q H7 ((((((c1.both c2).both c3).both c4).both c5).both c6).both c7) h7
def sp_Record___init__ (K : PySem.W.Frag) : Sp := fun vs H Q _ => ∃ (x dx : Addr) (v1 v2 v3 v4 : V), vs = [.ref x, v1, v2, v3, v4] ∧ H x = some (.ins (He.ga K "Record") dx []) ∧ ∀ p H', H p = none → Chg [x] H H' → H' p = some (.lst []) → H' x = some (O_Record K dx v1 v2 v3 .non v4 (.ref p)) → Q .non H'
def t_Record___init__ (K : PySem.W.Frag) : TS :=
    tSeq (sFld K (tVar 0) (tVar 1) "mark")
    (tSeq (sFld K (tVar 0) (tVar 2) "word")
    (tSeq (sFld K (tVar 0) (tVar 3) "doer")
    (tSeq (sFld K (tVar 0) (tC .non) "child")
    (tSeq (sFld K (tVar 0) (tVar 4) "reads")
    (sFld K (tVar 0) (tLst (tNil)) "writes")))))
theorem pure_Record___init__ {K : PySem.W.Frag} (CF : CFs K) (vs : List V) (H : Hp) (Q : VK) (E : XK) (h : sp_Record___init__ K vs H Q E) : t_Record___init__ K (fin Q) (start ["self", "mark", "word", "doer", "reads"] vs) H := by
  obtain ⟨x, dx, v1, v2, v3, v4, rfl, hx, q⟩ := h
  show t_Record___init__ K _ [some (.ref x), some v1, some v2, some v3, some v4] H
  unfold t_Record___init__
  walk_at "w"
  refine n_Record_mark CF.rc hx fun H1 c1 h1 => ?_
  walk_at "w"
  refine n_Record_word CF.rc h1 fun H2 c2 h2 => ?_
  walk_at "w"
  refine n_Record_doer CF.rc h2 fun H3 c3 h3 => ?_
  walk_at "w"
  refine n_Record_child CF.rc h3 fun H4 c4 h4 => ?_
  walk_at "w"
  refine n_Record_reads CF.rc h4 fun H5 c5 h5 => ?_
  walk_at "w"
  refine k_lst (by walk_at "sz") fun p H6 np c6 hp => ?_
  walk_at "w"
  have c05 : Chg [x] H H5 := (((c1.both c2).both c3).both c4).both c5
  refine n_Record_writes CF.rc (c6.at h5) fun H7 c7 h7 => ?_
  have ne : p ≠ x := fun z => by rw [z, h5] at np; cases np
  exact q p H7 (c05.dom p np) ((c05.same c6).both c7) (c7.at1 hp ne) h7
/-! ### the cells at the start -/
def pairD (c : Int × Int) : PyData := .tuple [.int c.1, .int c.2]
def CellsAt (H : Hp) (cv : V) (cs : Cells) : Prop := (cv = .non ∧ cs = []) ∨ ∃ (l : Addr) (xs : List V), cv = .ref l ∧ H l = some (.lst xs) ∧ ImA H xs (cs.map pairD)
theorem CellsAt.same {H H' : Hp} {cv : V} {cs : Cells} (c : Chg [] H H') (h : CellsAt H cv cs) : CellsAt H' cv cs := by
  rcases h with h | ⟨l, xs, h1, h2, h3⟩
  · exact .inl h
  · exact .inr ⟨l, xs, h1, c.at h2, h3.im c⟩
theorem pair_at {H : Hp} {xs : List V} {cs : Cells} {i : Nat} {x : V} (r : ImA H xs (cs.map pairD)) (ex : xs[i]? = some x) : ∃ T c, cs[i]? = some c ∧ x = .ref T ∧ H T = some (.tup [.int c.1, .int c.2]) := by
  obtain ⟨d, ed, rd⟩ := r.get ex
  rw [List.getElem?_map] at ed
  cases hc : cs[i]? with
  | none => rw [hc] at ed; cases ed
  | some c =>
    rw [hc] at ed
    cases ed
    obtain ⟨T, ys, rfl, hT, ra⟩ := im_tup rd
    obtain ⟨a, b, rfl, r1, r2⟩ := imA2 ra
    rw [im_int r1, im_int r2] at hT
    exact ⟨T, c, rfl, rfl, hT⟩
theorem cPut_len (cs : Cells) (i v : Int) : (cPut cs i v).length ≤ cs.length + 1 := by
  unfold cPut
  split
  · rw [List.length_map]; omega
  · rw [List.length_append, List.length_singleton]; omega
def sp_start_cells : Sp := fun vs H Q _ => ∃ (cv : V) (cs : Cells), vs = [cv] ∧ CellsAt H cv cs ∧ cs.length ≤ 10000 ∧ ∀ d H', H d = none → Chg [] H H' → H' d = some (.dK (cK (cStart cs))) → Q (.ref d) H'
def t_start_cells (K : PySem.W.Frag) : TS :=
    tSeq (tAsg (tDNewK) (gName 1))
    (tSeq (tFor (iList K (tOrT K (tVar 0) (tLst (tNil)))) (gTup K 2 (gCons (gName 2) (gCons (gName 3) (gNil)))) (sDPut (tVar 1) (tVar 2) (tVar 3)))
    (tRet (tVar 1)))
theorem pure_start_cells {K : PySem.W.Frag} (vs : List V) (H : Hp) (Q : VK) (E : XK) (h : sp_start_cells vs H Q E) : t_start_cells K (fin Q) (start ["cells", "found", "cell", "number"] vs) H := by
  obtain ⟨cv, cs, rfl, ca, lc, q⟩ := h
  show t_start_cells K _ [some cv, none, none, none] H
  unfold t_start_cells
  walk_at "w"
  refine w_dnewK fun d H1 nd c1 hd => ?_
  walk_at "w"
  have loop : ∀ (L : Addr) (xs : List V) (H2 : Hp) (W : L2.St → Hp → Prop), Chg [] H H2 → H2 d = some (.dK []) → H2 L = some (.lst xs) → L ≠ d → ImA H2 xs (cs.map pairD) → (∀ σ H', Chg [] H H' → H' d = some (.dK (cK (cStart cs))) → (∃ y1 y2, σ = [some cv, some (.ref d), y1, y2]) → W σ H') → ∀ D : Ends, D.nx = W →
      ∃ WW : Nat → Nat → L2.St → Hp → Prop, (∃ m, WW 0 m [some cv, some (.ref d), none, none] H2) ∧ ∀ i m σ H, WW i m σ H → ((Itl K L).stop i H ∧ D.nx σ H) ∨ ((Itl K L).go i H ∧ ∃ N : L2.St → Hp → Prop, (∀ σ' H', N σ' H' → ∃ m', m' < m ∧ WW (i + 1) m' σ' H') ∧ ∀ x H', (Itl K L).yld i H x H' → gTup K 2 (gCons (gName 2) (gCons (gName 3) gNil)) x σ H' fun σ2 H2 => sDPut (tVar 1) (tVar 2) (tVar 3) { D with nx := N, ct := N, bk := D.nx } σ2 H2) := fun L xs H2 W c2 hd2 hL ne im hW D eD => by
    have lx : xs.length = cs.length := by rw [im.length, List.length_map]
    refine for_it (walk_list (K := K) (a := L) (xs := xs)) (fun i σ H3 => Chg [] H H3 ∧ Chg [d] H2 H3 ∧ H3 d = some (.dK (cK (cStart (cs.take i)))) ∧ (cStart (cs.take i)).length ≤ i ∧ ∃ y1 y2, σ = [some cv, some (.ref d), y1, y2]) ⟨c2, .refl, hd2, Nat.le_refl _, _, _, rfl⟩ (fun i σ H3 _ p => sqL (p.2.1.at1 hL ne)) (fun i x σ H3 H4 hi p y => ?_) (fun σ H3 p => ?_)
    · obtain ⟨c3, c23, hd3, l3, y1, y2, rfl⟩ := p
      obtain ⟨rfl, ex⟩ := y
      obtain ⟨T, c, ec, rfl, hT⟩ := pair_at (im.im c23) ex
      walk_at "w"
      refine d_dput (k := Sum.inl c.1) hd3 (by unfold cK; rw [List.length_map]; walk_at "sz") fun H5 c5 h5 => ?_
      rw [putK_cK] at h5
      have e : cStart (cs.take (i + 1)) = cPut (cStart (cs.take i)) c.1 c.2 := by
        rw [List.take_add_one, ec, Option.toList_some]
        unfold cStart
        rw [List.foldl_append]
        rfl
      have := cPut_len (cStart (cs.take i)) c.1 c.2
      refine ⟨c3.one c5 nd, c23.both c5, by rw [e]; exact h5, by rw [e]; omega, _, _, rfl⟩
    · obtain ⟨c3, c23, hd3, l3, y⟩ := p
      rw [lx, List.take_length] at hd3
      rw [eD]
      exact hW σ H3 c3 hd3 y
  have fin' : ∀ σ H', Chg [] H H' → H' d = some (.dK (cK (cStart cs))) → (∃ y1 y2, σ = [some cv, some (.ref d), y1, y2]) → tRet (tVar 1) (fin Q) σ H' := fun σ H' c hd' ⟨y1, y2, e⟩ => by
    subst e
    walk_at "w"
    exact q d H' nd c hd'
  rcases ca with ⟨rfl, rfl⟩ | ⟨l, xs, rfl, hl, im⟩
  · walk_at "w"
    refine k_orN ?_
    walk_at "w"
    refine k_lst (by walk_at "sz") fun L H2 nL c2 hL => ?_
    walk_at "w"
    exact loop L [] H2 _ (c1.same c2) (c2.at hd) hL (fun z => by rw [z, hd] at nL; cases nL) .nil fin' _ rfl
  · walk_at "w"
    refine k_orL (c1.at hl) (fun ne => ?_) (fun e => ?_)
    · walk_at "w"
      exact loop l xs H1 _ c1 hd (c1.at hl) (fun z => by rw [z, nd] at hl; cases hl) (im.im c1) fin' _ rfl
    · subst e
      walk_at "w"
      refine k_lst (by walk_at "sz") fun L H2 nL c2 hL => ?_
      walk_at "w"
      exact loop L [] H2 _ (c1.same c2) (c2.at hd) hL (fun z => by rw [z, hd] at nL; cases nL) (im.im (c1.same c2)) fin' _ rfl
end Fg
namespace Fg
open PySem PySem.Spec PyProof.Rows L2
/-! ### comprehensions with a test, by an invariant that speaks of the heap -/
def LgP (D : Addr) (Iv : Addr → Nat → List V → Hp → Prop) (i : Nat) : Hp → Prop := fun H5 => ∃ acc, acc.length ≤ i ∧ H5 D = some (.lst acc) ∧ Iv D i acc H5
def LgK (D : Addr) (Iv : Addr → Nat → List V → Hp → Prop) (i : Nat) : VK := fun y H4 => ∃ acc, H4 D = some (.lst acc) ∧ acc.length < sizeLine ∧ LgP D Iv (i + 1) (upd H4 D (.lst (acc ++ [y])))
theorem lg_yes {D : Addr} {Iv : Addr → Nat → List V → Hp → Prop} {i : Nat} {y : V} {H4 : Hp} {acc : List V} (h : H4 D = some (.lst acc)) (hl : acc.length ≤ i) (hz : i ≤ 100000) (q : ∀ H5, Chg [D] H4 H5 → H5 D = some (.lst (acc ++ [y])) → Iv D (i + 1) (acc ++ [y]) H5) : LgK D Iv i y H4 :=
  ⟨acc, h, Nat.lt_of_le_of_lt (Nat.le_trans hl hz) (by decide), acc ++ [y], by rw [List.length_append, List.length_singleton]; omega, upd_same, q _ (.mut h fun _ e => nomatch e) upd_same⟩
theorem lg_no {D : Addr} {Iv : Addr → Nat → List V → Hp → Prop} {i : Nat} {H4 : Hp} {acc : List V} (h : H4 D = some (.lst acc)) (hl : acc.length ≤ i) (q : Iv D (i + 1) acc H4) : LgP D Iv (i + 1) H4 := ⟨acc, by omega, h, q⟩
theorem w_lcG {J : It} {n : Nat} {G : Hp → Prop} {Y : Nat → Hp → V → Hp → Prop} {g : TG} {te : TE} {tt : TT} {vs : List Nat} {σ : L2.St} {H : Hp} {Q : Addr → Hp → Prop} (w : L2.Walk J n G Y) (Iv : Addr → Nat → List V → Hp → Prop)
    (h0 : ∀ D H1, H D = none → Chg [] H H1 → H1 D = some (.lst []) → Iv D 0 [] H1) (hG : ∀ D i acc H1, i ≤ n → H D = none → Iv D i acc H1 → G H1)
    (hs : ∀ D i acc x H1 H2, i < n → H D = none → H1 D = some (.lst acc) → acc.length ≤ i → Iv D i acc H1 → Y i H1 x H2 → g x (wipe σ vs) H2 fun σ2 H3 => wipe σ2 vs = wipe σ vs ∧
      tt σ2 H3 fun b H3 => if b = true then te σ2 H3 (LgK D Iv i) else LgP D Iv (i + 1) H3)
    (hd : ∀ D acc H1, H D = none → acc.length ≤ n → H1 D = some (.lst acc) → Iv D n acc H1 → Q D H1) :
    ∀ D, H D = none → ∃ W : Nat → Nat → Hp → Prop, (∃ m, W 0 m (upd H D (.lst []))) ∧ ∀ i m H, W i m H →
      (J.stop i H ∧ Q D H) ∨ (J.go i H ∧ ∃ Nx : Hp → Prop, (∀ H', Nx H' → ∃ m', m' < m ∧ W (i + 1) m' H') ∧ ∀ x H', J.yld i H x H' → g x (wipe σ vs) H' fun σ2 H2 => wipe σ2 vs = wipe σ vs ∧ tt σ2 H2 fun b H3 =>
        if b = true then te σ2 H3 fun y H4 => ∃ acc, H4 D = some (.lst acc) ∧ acc.length < sizeLine ∧ Nx (upd H4 D (.lst (acc ++ [y]))) else Nx H3) := by
  intro D nD
  refine lc_it w (Qd := fun H => Q D H) (LgP D Iv) ⟨[], Nat.le_refl _, upd_same, h0 D _ nD (.new nD) upd_same⟩ (fun i H1 hi ⟨acc, _, _, q⟩ => hG D i acc H1 hi nD q) (fun i x H1 H2 hi hp y => ?_) (fun H1 ⟨acc, e, h, q⟩ => hd D acc H1 nD e h q)
  obtain ⟨acc, e, h, q⟩ := hp
  exact hs D i acc x H1 H2 hi nD h e q y
end Fg
--LAW k07
namespace Fg
open PySem PySem.Spec PyProof.Rows L2
/-! ### the walk's small steps -/
local macro_rules | `(tactic| walk_at "hp") => `(tactic| first
  | assumption
  | exact upd_same
  | (refine Chg.at (by assumption) ?_; walk_at "hp")
  | (refine Chg.at1 (by assumption) ?_ (by walk_at "ne"); walk_at "hp"))
local macro_rules | `(tactic| walk_at "ne") => `(tactic| first | assumption | (apply Ne.symm; assumption))
local macro_rules | `(tactic| walk_at "sq") => `(tactic| first | assumption | exact sqL (by walk_at "hp") | (refine Chg.seq (by assumption) ?_; walk_at "sq"))
local macro_rules | `(tactic| walk_at "sz") => `(tactic| first | assumption | exact Nat.zero_le _ | (simp only [List.length_cons, List.length_nil]; decide) | exact Nat.le_trans (by first | omega | (simp; done) | (simp; omega)) (show 100000 ≤ sizeLine by decide) | exact Nat.lt_of_lt_of_le (by first | omega | (simp; done) | (simp; omega)) (show 100000 ≤ sizeLine by decide))
local macro_rules | `(tactic| walk_at "ix") => `(tactic| first | exact at0 | exact at1 | exact at2 | exact at3 | assumption | exact rfl | walk_at "ix2")
local macro_rules | `(tactic| walk_at "ix2") => `(tactic| fail)
local macro_rules | `(tactic| walk_at "num") => `(tactic| first | assumption | omega | decide | walk_at "num2")
local macro_rules | `(tactic| walk_at "num2") => `(tactic| fail)
local macro_rules | `(tactic| walk_at "im") => `(tactic| first | assumption | exact R.non (S := fun _ => False) | exact R.bl (S := fun _ => False) _ | exact R.int (S := fun _ => False) _ | exact R.str (S := fun _ => False) _ | (refine R.im (by assumption) ?_; walk_at "im"))
local macro_rules | `(tactic| walk_at "r") => `(tactic| first | assumption | exact R.non (S := fun _ => False) | exact R.bl (S := fun _ => False) _ | exact R.int (S := fun _ => False) _ | exact R.str (S := fun _ => False) _ | (refine R.same (by assumption) ?_; walk_at "r") | exact R.any (by walk_at "im"))
local macro_rules | `(tactic| walk_at "chg") => `(tactic| first
  | exact Chg.refl
  | assumption
  | (refine Chg.same ?_ (by assumption); walk_at "chg")
  | (refine Chg.both ?_ (by assumption); walk_at "chg")
  | (refine Chg.pre (by assumption) ?_; walk_at "chg"))
local macro_rules | `(tactic| walk_at "w1") => `(tactic| first
  | with_reducible apply w_seq
  | with_reducible apply w_asg
  | ((with_reducible apply w_var); (focus (exact rfl)))
  | with_reducible apply w_c
  | with_reducible apply w_op
  | with_reducible apply w_cons
  | with_reducible apply w_nil
  | with_reducible apply w_gName
  | with_reducible apply w_if
  | with_reducible apply w_test
  | with_reducible apply w_B
  | with_reducible apply w_isbl
  | with_reducible apply w_retN
  | with_reducible apply w_next
  | with_reducible apply w_drop
  | with_reducible apply w_cb
  | with_reducible apply w_call
  | with_reducible apply w_callN
  | with_reducible apply w_bm
  | with_reducible apply w_bm0
  | ((with_reducible apply w_tyL); (focus (walk_at "hp"; done)))
  | with_reducible apply w_dput
  | with_reducible apply w_m1
  | with_reducible apply w_isstr
  | with_reducible apply w_and
  | with_reducible apply w_or
  | with_reducible apply w_not
  | with_reducible apply w_andV
  | with_reducible apply w_orV
  | with_reducible apply w_notV
  | with_reducible apply w_ifE
  | with_reducible apply w_chain
  | with_reducible apply w_un
  | with_reducible apply w_neg
  | with_reducible apply w_add
  | with_reducible apply w_sub
  | ((with_reducible apply w_mod); (focus (walk_at "num"; done)))
  | ((with_reducible apply w_mul); (focus (walk_at "num"; done)))
  | ((with_reducible apply w_fdiv); (focus (walk_at "num"; done)))
  | ((with_reducible apply w_pow); (focus (walk_at "num"; done)))
  | with_reducible apply w_lt
  | with_reducible apply w_le
  | with_reducible apply w_gt
  | with_reducible apply w_ge
  | with_reducible apply w_ltS
  | with_reducible apply w_geS
  | with_reducible apply w_inC
  | with_reducible apply w_notInC
  | with_reducible apply w_isN
  | with_reducible apply w_notN
  | with_reducible apply w_isB
  | with_reducible apply w_notB
  | ((with_reducible apply w_addS); (focus (walk_at "sz"; done)))
  | ((with_reducible apply w_ixL); (focus (walk_at "sq"; done)); (focus (walk_at "ix"; done)))
  | ((with_reducible apply w_ixT); (focus (walk_at "hp"; done)); (focus (walk_at "ix"; done)))
  | ((with_reducible apply w_ixS); (focus (walk_at "sz"; done)); (focus (walk_at "ix"; done)))
  | with_reducible apply w_gSub
  | ((with_reducible apply w_gTup); (focus (walk_at "hp"; done)); (focus (exact rfl)))
  | with_reducible apply w_gCons
  | with_reducible apply w_gNil
  | ((with_reducible apply w_aug); (focus (exact rfl)))
  | with_reducible apply w_ipI
  | ((with_reducible apply w_eq); (focus (exact rfl)))
  | ((with_reducible apply w_ne); (focus (exact rfl)))
  | with_reducible apply w_max
  | with_reducible apply w_min
  | with_reducible apply w_abs
  | with_reducible apply w_intB
  | with_reducible apply w_intI
  | with_reducible apply w_tup1
  | with_reducible apply w_lst1
  | with_reducible apply w_sl
  | with_reducible apply w_part
  | with_reducible apply w_noPart
  | with_reducible apply w_isint
  | ((with_reducible apply w_slS); (focus (walk_at "sz"; done)))
  | with_reducible apply w_iteT
  | with_reducible apply w_iteF
  | with_reducible apply w_iteN
  | ((with_reducible apply w_iteYes); (focus (exact rfl)))
  | ((with_reducible apply w_iteNo); (focus (exact rfl)))
  | ((with_reducible apply w_lenL); (focus (walk_at "sq"; done)))
  | ((with_reducible apply w_lenT); (focus (walk_at "hp"; done)))
  | ((with_reducible apply w_lenS); (focus (walk_at "sz"; done)))
  | with_reducible apply w_lc
  | with_reducible apply w_for
  | with_reducible apply w_yes
  | ((with_reducible apply w_wipe); (focus (exact rfl)))
  | with_reducible apply w_iList
  | with_reducible apply w_iTup
  | with_reducible apply w_iStr
  | with_reducible apply w_iRng1
  | with_reducible apply w_iRng2
  | with_reducible apply w_iZip
  | with_reducible apply w_iEnum
  | ((with_reducible apply d_iList); (focus (walk_at "sq"; done)))
  | ((with_reducible apply d_iTup); (focus (walk_at "hp"; done)))
  | with_reducible apply d_iStr
  | ((with_reducible apply d_iRng1); (focus (walk_at "num"; done)); (focus (walk_at "num"; done)))
  | ((with_reducible apply d_iRng2); (focus (walk_at "num"; done)); (focus (walk_at "num"; done)); (focus (walk_at "num"; done)); (focus (walk_at "num"; done)))
  | ((with_reducible apply d_iZip); (focus (walk_at "sq"; done)); (focus (walk_at "sq"; done)))
  | ((with_reducible apply d_iEnum); (focus (walk_at "sq"; done)))
  | walk_at "w2")
local macro_rules | `(tactic| walk_at "w2") => `(tactic| fail)
local macro_rules | `(tactic| walk_at "wn") => `(tactic| repeat walk_at "w1")
local macro_rules | `(tactic| walk_at "w") => `(tactic| repeat (first | walk_at "w1" | with_reducible apply w_ret))

local macro_rules | `(tactic| walk_at "w2") => `(tactic| first
  | ((with_reducible apply w_isInt); (focus (walk_at "r"; done)))
  | ((with_reducible apply w_isBool); (focus (walk_at "r"; done)))
  | ((with_reducible apply w_isStr); (focus (walk_at "r"; done)))
  | ((with_reducible apply w_isTup); (focus (walk_at "r"; done)))
  | ((with_reducible apply w_isLst); (focus (walk_at "r"; done)))
  | with_reducible apply w_fld
  | with_reducible apply w_sfld
  | with_reducible apply w_faug
  | with_reducible apply w_rAdd
  | with_reducible apply w_rSub
  | with_reducible apply w_make
  | with_reducible apply w_orT
  | with_reducible apply w_dgetd
  | with_reducible apply w_dgetk
  | with_reducible apply w_dsetd
  | ((with_reducible apply k_dgetd); (focus (walk_at "hp"; done)))
  | ((with_reducible apply k_dsetd); (focus (walk_at "hp"; done)))
  | walk_at "w3")
local macro_rules | `(tactic| walk_at "w3") => `(tactic| fail)

/-! ### the cells that are not 0 -/
def notN (cs : Cells) : Cells := ((srt (cs.map (·.1))).filter fun i => decide (cGet cs i ≠ 0)).map fun i => (i, cGet cs i)
theorem cAt_some {cs : Cells} {i : Int} (h : i ∈ cs.map (·.1)) : cAt cs i = some (cGet cs i) := by
  unfold cGet
  cases e : cAt cs i with
  | some v => rfl
  | none =>
    exfalso
    unfold cAt at e
    obtain ⟨c, hc, rfl⟩ := List.mem_map.mp h
    have : (cs.find? fun d => decide (d.1 = c.1)) = none := by
      cases hf : (cs.find? fun d => decide (d.1 = c.1)) with
      | none => rfl
      | some d => rw [hf] at e; cases e
    have := List.find?_eq_none.mp this c hc
    simp at this
theorem keys_cK (cs : Cells) : (cK cs).map (·.1) = (cs.map (·.1)).map (Sum.inl (β := Str)) := by
  unfold cK
  rw [List.map_map, List.map_map]
  rfl
def sp_not_nought : Sp := fun vs H Q _ => ∃ (d : Addr) (cs : Cells), vs = [.ref d] ∧ H d = some (.dK (cK cs)) ∧ cs.length ≤ 50000 ∧ ∀ l xs H', H l = none → Chg [] H H' → H' l = some (.lst xs) → ImA H' xs ((notN cs).map pairD) → Q (.ref l) H'
def t_not_nought (K : PySem.W.Frag) : TS :=
    tRet (tLc (iList K (tCB cSortDI (tCons (tVar 0) (tNil)))) (gName 1) (tTest (tOp rNe (tDGet (tVar 0) (tVar 1)) (tC (.int 0)))) (tTup (tCons (tVar 1) (tCons (tDGet (tVar 0) (tVar 1)) (tNil)))) [1])
theorem pure_not_nought {K : PySem.W.Frag} (vs : List V) (H : Hp) (Q : VK) (E : XK) (h : sp_not_nought vs H Q E) : t_not_nought K (fin Q) (start ["held", "cell"] vs) H := by
  obtain ⟨d, cs, rfl, hd, lc, q⟩ := h
  show t_not_nought K _ [some (.ref d), none] H
  unfold t_not_nought
  walk_at "w"
  refine w_sortDI hd (keys_cK cs) (by rw [List.length_map]; omega) fun l H1 nl c1 hl => ?_
  have ls : (srt (cs.map (·.1))).length ≤ 50000 := by rw [(srt_perm _).length_eq, List.length_map]; exact lc
  walk_at "w"
  have hd1 := c1.at hd
  refine w_lcG (walk_list (K := K) (a := l) (xs := (srt (cs.map (·.1))).map V.int)) (fun D i acc H2 => Chg [] H1 H2 ∧ ImA H2 acc (((((srt (cs.map (·.1))).take i).filter fun i => decide (cGet cs i ≠ 0)).map fun i => (i, cGet cs i)).map pairD))
    (fun D H2 nD c2 hD => ⟨c2, .nil⟩) (fun D i acc H2 _ _ z => sqL (z.1.at hl)) (fun D i acc x H2 H3 hi nD hD el iv y => ?_) (fun D acc H2 nD el hD iv => ?_)
  · obtain ⟨rfl, ex⟩ := y
    obtain ⟨c2, ra⟩ := iv
    rw [List.length_map] at hi
    rw [List.getElem?_map, List.getElem?_eq_getElem hi] at ex
    cases ex
    have hd2 := c2.at hd1
    have hm : (srt (cs.map (·.1)))[i] ∈ cs.map (·.1) := (srt_perm _).mem_iff.mp (List.getElem_mem hi)
    have ev : valV (cK cs) (Sum.inl (srt (cs.map (·.1)))[i]) = some (.int (cGet cs (srt (cs.map (·.1)))[i])) := by rw [valV_cK, cAt_some hm]; rfl
    have et : (srt (cs.map (·.1))).take (i + 1) = (srt (cs.map (·.1))).take i ++ [(srt (cs.map (·.1)))[i]] := by rw [List.take_add_one, List.getElem?_eq_getElem hi]; rfl
    generalize (srt (cs.map (·.1)))[i] = k at ev et ⊢
    walk_at "w"
    refine d_dgetI hd2 ev ?_
    walk_at "w"
    refine w_iteD (fun h0 => ?_) (fun h0 => ?_)
    · refine lg_no hD el ⟨c2, ?_⟩
      have h0' : cGet cs k = 0 := V.int.inj h0
      rw [et, List.filter_append, show ([k].filter fun i => decide (cGet cs i ≠ 0)) = [] by simp [h0'], List.append_nil]
      exact ra
    · have h0' : ¬ cGet cs k = 0 := fun z => h0 (by rw [z])
      walk_at "w"
      refine d_dgetI hd2 ev ?_
      walk_at "w"
      refine k_tup (by walk_at "sz") fun T H4 nT c4 hT => ?_
      refine lg_yes (c4.at hD) el (by omega) fun H5 c5 h5 => ⟨(c2.same c4).one c5 nD, ?_⟩
      rw [et, List.filter_append, show ([k].filter fun i => decide (cGet cs i ≠ 0)) = [k] by simp [h0'], List.map_append, List.map_append]
      exact (ra.im (c4.pre c5)).snoc (.tup (c5.tup _ _ hT) (.cons (.int _) (.cons (.int _) .nil)))
  · obtain ⟨c2, ra⟩ := iv
    rw [List.length_map, List.take_length] at ra
    exact q D acc H2 (c1.dom _ nD) (c1.same c2) hD ra
/-! ### the steps of a helper -/
/-- the program p at a, its lists at ls -/
def PAt (H : Hp) (a : Addr) (p : Prg) (ls : List Addr) : Prop := ∃ xs, H a = some (.lst xs) ∧ xs.length = p.length ∧ ls.length = p.length ∧ ∀ (i : Nat) (x : V) (r : Str × List Stp) (l : Addr), xs[i]? = some x → p[i]? = some r → ls[i]? = some l → ∃ (T : Addr) (ys : List V), x = .ref T ∧ H T = some (.tup [.str r.1, .ref l]) ∧ H l = some (.lst ys) ∧ ImA H ys (r.2.map Stp.data)
theorem PAt.same {H H' : Hp} {a : Addr} {p : Prg} {ls : List Addr} (c : Chg [] H H') (h : PAt H a p ls) : PAt H' a p ls := by
  obtain ⟨xs, h1, h2, h3, h4⟩ := h
  refine ⟨xs, c.at h1, h2, h3, fun i x r l hx hr hl => ?_⟩
  obtain ⟨T, ys, g1, g2, g3, g4⟩ := h4 i x r l hx hr hl
  exact ⟨T, ys, g1, c.at g2, c.at g3, g4.im c⟩
theorem pAt_of {S : Addr → Prop} {H : Hp} {v : V} {p : Prg} (r : R S H v (prgD p)) : ∃ a ls, v = .ref a ∧ PAt H a p ls := by
  cases r with
  | @lst a xs _ s e ra =>
    have key : ∀ {p : Prg} {xs : List V}, RA S H xs (p.map rowD) → ∃ ls : List Addr, ls.length = p.length ∧ ∀ (i : Nat) (x : V) (r : Str × List Stp) (l : Addr), xs[i]? = some x → p[i]? = some r → ls[i]? = some l → ∃ (T : Addr) (ys : List V), x = .ref T ∧ H T = some (.tup [.str r.1, .ref l]) ∧ H l = some (.lst ys) ∧ ImA H ys (r.2.map Stp.data) := by
      intro p
      induction p with
      | nil => intro xs _; exact ⟨[], rfl, fun i x r l _ h => by simp at h⟩
      | cons q p ih =>
        intro xs ra
        cases ra with
        | cons r1 rs =>
          obtain ⟨ls, h1, h2⟩ := ih rs
          cases r1 with
          | @tup T _ _ e2 ra2 =>
            cases ra2 with
            | cons r0 rs0 =>
              cases rs0 with
              | cons r3 rs3 =>
                cases rs3
                cases r0
                cases r3 with
                | @lst l4 ys4 _ s4 e4 ra4 =>
                  refine ⟨l4 :: ls, by rw [List.length_cons, List.length_cons, h1], fun i x r l hx hr hl => ?_⟩
                  cases i with
                  | zero =>
                    cases (Option.some.inj (show some (V.ref T) = some x from hx))
                    cases (Option.some.inj (show some q = some r from hr))
                    cases (Option.some.inj (show some l4 = some l from hl))
                    exact ⟨T, ys4, rfl, e2, e4, ra4.pure (steps_noL _)⟩
                  | succ i => exact h2 i x r l hx hr hl
    obtain ⟨ls, h1, h2⟩ := key ra
    exact ⟨a, ls, rfl, xs, e, by rw [ra.length, List.length_map], h1, h2⟩
/-- where the steps of x lie -/
def pIdx (p : Prg) (x : Str) : Nat := p.findIdx fun r => decide (r.1 = x)
def sp_helper_rows (K : PySem.W.Frag) : Sp := fun vs H Q E => ∃ (a : Addr) (p : Prg) (ls : List Addr) (x : Str), vs = [.ref a, .str x] ∧ PAt H a p ls ∧ (∀ i l, (p.findIdx? fun r => decide (r.1 = x)) = some i → ls[i]? = some l → Q (.ref l) H) ∧
  ((p.findIdx? fun r => decide (r.1 = x)) = none → ∀ dd H', Chg [] H H' → H' dd = some (.xd (xfs ["name"] [.str x] [])) → E (.ref (He.ga K "NoHelper")) (some dd) H')
def t_helper_rows (E : XK) (K : PySem.W.Frag) : TS :=
    tSeq (tFor (iList K (tVar 0)) (gTup K 2 (gCons (gName 2) (gCons (gName 3) (gNil)))) (tIfS (tTest (tOp rEq (tVar 2) (tVar 1))) (tRet (tVar 3)) (tNext)))
    (tRaiseX (He.ga K "NoHelper") ["name"] E (tCons (tVar 1) (tNil)))
theorem find_none {p : Prg} {x : Str} (h : ∀ (i : Nat) (r : Str × List Stp), p[i]? = some r → r.1 ≠ x) : (p.findIdx? fun r => decide (r.1 = x)) = none := by
  rw [List.findIdx?_eq_none_iff]
  intro r hr
  obtain ⟨i, hi⟩ := List.getElem?_of_mem hr
  exact decide_eq_false (h i r hi)
theorem find_some {p : Prg} {x : Str} {i : Nat} {r : Str × List Stp} (hr : p[i]? = some r) (e : r.1 = x) (h : ∀ (j : Nat) (r : Str × List Stp), j < i → p[j]? = some r → r.1 ≠ x) : (p.findIdx? fun r => decide (r.1 = x)) = some i := by
  rw [List.findIdx?_eq_some_iff_getElem]
  obtain ⟨hi, er⟩ := List.getElem?_eq_some_iff.mp hr
  refine ⟨hi, by rw [er]; exact decide_eq_true e, fun j hj => ?_⟩
  have := h j p[j] hj (List.getElem?_eq_getElem (by omega))
  simpa using this
theorem pure_helper_rows {K : PySem.W.Frag} (vs : List V) (H : Hp) (Q : VK) (E : XK) (h : sp_helper_rows K vs H Q E) : t_helper_rows E K (fin Q) (start ["program", "name", "one", "rows"] vs) H := by
  obtain ⟨a, p, ls, x, rfl, pa, qs, qn⟩ := h
  show t_helper_rows E K _ [some (.ref a), some (.str x), none, none] H
  unfold t_helper_rows
  obtain ⟨xs, hx, lx, ll, hr⟩ := pa
  walk_at "w"
  refine for_it (walk_list (K := K) (a := a) (xs := xs)) (fun i σ H1 => H1 = H ∧ (∀ (j : Nat) (r : Str × List Stp), j < i → p[j]? = some r → r.1 ≠ x) ∧ ∃ y1 y2, σ = [some (.ref a), some (.str x), y1, y2]) ⟨rfl, fun j r h => by omega, _, _, rfl⟩ (fun i σ H1 _ z => by rw [z.1]; exact sqL hx) (fun i v σ H1 H2 hi z y => ?_) (fun σ H1 z => ?_)
  · obtain ⟨rfl, no, y1, y2, rfl⟩ := z
    obtain ⟨rfl, ex⟩ := y
    have hi' : i < p.length := by omega
    have hl' : i < ls.length := by omega
    obtain ⟨T, ys, rfl, hT, hL, im⟩ := hr i v p[i] ls[i] ex (List.getElem?_eq_getElem hi') (List.getElem?_eq_getElem hl')
    walk_at "w"
    refine w_iteD (fun e => ?_) (fun e => ?_)
    · walk_at "w"
      exact qs i ls[i] (find_some (List.getElem?_eq_getElem hi') (V.str.inj e) no) (List.getElem?_eq_getElem hl')
    · walk_at "w"
      refine ⟨rfl, fun j r hj hr => ?_, _, _, rfl⟩
      rcases Nat.lt_succ_iff_lt_or_eq.mp hj with hj | rfl
      · exact no j r hj hr
      · rw [List.getElem?_eq_getElem hi'] at hr
        cases hr
        exact fun z => e (by rw [z])
  · obtain ⟨rfl, no, y1, y2, rfl⟩ := z
    show tRaiseX (He.ga K "NoHelper") ["name"] E (tCons (tVar 1) tNil) (fin Q) _ _
    refine w_raiseX ?_
    walk_at "w"
    exact ⟨rfl, by simp, fun dd H2 c2 _ h2 => qn (find_none fun i r hr => no i r (by rw [lx]; exact (List.getElem?_eq_some_iff.mp hr).1) hr) dd H2 c2 h2⟩
end Fg
--LAW k07
namespace Fg
open PySem PySem.Spec PyProof.Rows L2
/-! ### the walk's small steps -/
local macro_rules | `(tactic| walk_at "hp") => `(tactic| first
  | assumption
  | exact upd_same
  | (refine Chg.at (by assumption) ?_; walk_at "hp")
  | (refine Chg.at1 (by assumption) ?_ (by walk_at "ne"); walk_at "hp"))
local macro_rules | `(tactic| walk_at "ne") => `(tactic| first | assumption | (apply Ne.symm; assumption))
local macro_rules | `(tactic| walk_at "sq") => `(tactic| first | assumption | exact sqL (by walk_at "hp") | (refine Chg.seq (by assumption) ?_; walk_at "sq"))
local macro_rules | `(tactic| walk_at "sz") => `(tactic| first | assumption | exact Nat.zero_le _ | (simp only [List.length_cons, List.length_nil]; decide) | exact Nat.le_trans (by first | omega | (simp; done) | (simp; omega)) (show 100000 ≤ sizeLine by decide) | exact Nat.lt_of_lt_of_le (by first | omega | (simp; done) | (simp; omega)) (show 100000 ≤ sizeLine by decide))
local macro_rules | `(tactic| walk_at "ix") => `(tactic| first | exact at0 | exact at1 | exact at2 | exact at3 | assumption | exact rfl | walk_at "ix2")
local macro_rules | `(tactic| walk_at "ix2") => `(tactic| fail)
local macro_rules | `(tactic| walk_at "num") => `(tactic| first | assumption | omega | decide | walk_at "num2")
local macro_rules | `(tactic| walk_at "num2") => `(tactic| fail)
local macro_rules | `(tactic| walk_at "im") => `(tactic| first | assumption | exact R.non (S := fun _ => False) | exact R.bl (S := fun _ => False) _ | exact R.int (S := fun _ => False) _ | exact R.str (S := fun _ => False) _ | (refine R.im (by assumption) ?_; walk_at "im"))
local macro_rules | `(tactic| walk_at "r") => `(tactic| first | assumption | exact R.non (S := fun _ => False) | exact R.bl (S := fun _ => False) _ | exact R.int (S := fun _ => False) _ | exact R.str (S := fun _ => False) _ | (refine R.same (by assumption) ?_; walk_at "r") | exact R.any (by walk_at "im"))
local macro_rules | `(tactic| walk_at "chg") => `(tactic| first
  | exact Chg.refl
  | assumption
  | (refine Chg.same ?_ (by assumption); walk_at "chg")
  | (refine Chg.both ?_ (by assumption); walk_at "chg")
  | (refine Chg.pre (by assumption) ?_; walk_at "chg"))
local macro_rules | `(tactic| walk_at "w1") => `(tactic| first
  | with_reducible apply w_seq
  | with_reducible apply w_asg
  | ((with_reducible apply w_var); (focus (exact rfl)))
  | with_reducible apply w_c
  | with_reducible apply w_op
  | with_reducible apply w_cons
  | with_reducible apply w_nil
  | with_reducible apply w_gName
  | with_reducible apply w_if
  | with_reducible apply w_test
  | with_reducible apply w_B
  | with_reducible apply w_isbl
  | with_reducible apply w_retN
  | with_reducible apply w_next
  | with_reducible apply w_drop
  | with_reducible apply w_cb
  | with_reducible apply w_call
  | with_reducible apply w_callN
  | with_reducible apply w_bm
  | with_reducible apply w_bm0
  | ((with_reducible apply w_tyL); (focus (walk_at "hp"; done)))
  | with_reducible apply w_dput
  | with_reducible apply w_m1
  | with_reducible apply w_isstr
  | with_reducible apply w_and
  | with_reducible apply w_or
  | with_reducible apply w_not
  | with_reducible apply w_andV
  | with_reducible apply w_orV
  | with_reducible apply w_notV
  | with_reducible apply w_ifE
  | with_reducible apply w_chain
  | with_reducible apply w_un
  | with_reducible apply w_neg
  | with_reducible apply w_add
  | with_reducible apply w_sub
  | ((with_reducible apply w_mod); (focus (walk_at "num"; done)))
  | ((with_reducible apply w_mul); (focus (walk_at "num"; done)))
  | ((with_reducible apply w_fdiv); (focus (walk_at "num"; done)))
  | ((with_reducible apply w_pow); (focus (walk_at "num"; done)))
  | with_reducible apply w_lt
  | with_reducible apply w_le
  | with_reducible apply w_gt
  | with_reducible apply w_ge
  | with_reducible apply w_ltS
  | with_reducible apply w_geS
  | with_reducible apply w_inC
  | with_reducible apply w_notInC
  | with_reducible apply w_isN
  | with_reducible apply w_notN
  | with_reducible apply w_isB
  | with_reducible apply w_notB
  | ((with_reducible apply w_addS); (focus (walk_at "sz"; done)))
  | ((with_reducible apply w_ixL); (focus (walk_at "sq"; done)); (focus (walk_at "ix"; done)))
  | ((with_reducible apply w_ixT); (focus (walk_at "hp"; done)); (focus (walk_at "ix"; done)))
  | ((with_reducible apply w_ixS); (focus (walk_at "sz"; done)); (focus (walk_at "ix"; done)))
  | with_reducible apply w_gSub
  | ((with_reducible apply w_gTup); (focus (walk_at "hp"; done)); (focus (exact rfl)))
  | with_reducible apply w_gCons
  | with_reducible apply w_gNil
  | ((with_reducible apply w_aug); (focus (exact rfl)))
  | with_reducible apply w_ipI
  | ((with_reducible apply w_eq); (focus (exact rfl)))
  | ((with_reducible apply w_ne); (focus (exact rfl)))
  | with_reducible apply w_max
  | with_reducible apply w_min
  | with_reducible apply w_abs
  | with_reducible apply w_intB
  | with_reducible apply w_intI
  | with_reducible apply w_tup1
  | with_reducible apply w_lst1
  | with_reducible apply w_sl
  | with_reducible apply w_part
  | with_reducible apply w_noPart
  | with_reducible apply w_isint
  | ((with_reducible apply w_slS); (focus (walk_at "sz"; done)))
  | with_reducible apply w_iteT
  | with_reducible apply w_iteF
  | with_reducible apply w_iteN
  | ((with_reducible apply w_iteYes); (focus (exact rfl)))
  | ((with_reducible apply w_iteNo); (focus (exact rfl)))
  | ((with_reducible apply w_lenL); (focus (walk_at "sq"; done)))
  | ((with_reducible apply w_lenT); (focus (walk_at "hp"; done)))
  | ((with_reducible apply w_lenS); (focus (walk_at "sz"; done)))
  | with_reducible apply w_lc
  | with_reducible apply w_for
  | with_reducible apply w_yes
  | ((with_reducible apply w_wipe); (focus (exact rfl)))
  | with_reducible apply w_iList
  | with_reducible apply w_iTup
  | with_reducible apply w_iStr
  | with_reducible apply w_iRng1
  | with_reducible apply w_iRng2
  | with_reducible apply w_iZip
  | with_reducible apply w_iEnum
  | ((with_reducible apply d_iList); (focus (walk_at "sq"; done)))
  | ((with_reducible apply d_iTup); (focus (walk_at "hp"; done)))
  | with_reducible apply d_iStr
  | ((with_reducible apply d_iRng1); (focus (walk_at "num"; done)); (focus (walk_at "num"; done)))
  | ((with_reducible apply d_iRng2); (focus (walk_at "num"; done)); (focus (walk_at "num"; done)); (focus (walk_at "num"; done)); (focus (walk_at "num"; done)))
  | ((with_reducible apply d_iZip); (focus (walk_at "sq"; done)); (focus (walk_at "sq"; done)))
  | ((with_reducible apply d_iEnum); (focus (walk_at "sq"; done)))
  | walk_at "w2")
local macro_rules | `(tactic| walk_at "w2") => `(tactic| fail)
local macro_rules | `(tactic| walk_at "wn") => `(tactic| repeat walk_at "w1")
local macro_rules | `(tactic| walk_at "w") => `(tactic| repeat (first | walk_at "w1" | with_reducible apply w_ret))

local macro_rules | `(tactic| walk_at "w2") => `(tactic| first
  | ((with_reducible apply w_isInt); (focus (walk_at "r"; done)))
  | ((with_reducible apply w_isBool); (focus (walk_at "r"; done)))
  | ((with_reducible apply w_isStr); (focus (walk_at "r"; done)))
  | ((with_reducible apply w_isTup); (focus (walk_at "r"; done)))
  | ((with_reducible apply w_isLst); (focus (walk_at "r"; done)))
  | with_reducible apply w_fld
  | with_reducible apply w_sfld
  | with_reducible apply w_faug
  | with_reducible apply w_rAdd
  | with_reducible apply w_rSub
  | with_reducible apply w_make
  | with_reducible apply w_orT
  | with_reducible apply w_dgetd
  | with_reducible apply w_dgetk
  | with_reducible apply w_dsetd
  | ((with_reducible apply k_dgetd); (focus (walk_at "hp"; done)))
  | ((with_reducible apply k_dsetd); (focus (walk_at "hp"; done)))
  | walk_at "w3")
local macro_rules | `(tactic| walk_at "w3") => `(tactic| fail)

local macro_rules | `(tactic| walk_at "w3") => `(tactic| first
  | ((with_reducible apply g_Frame_number); (focus (assumption; done)); (focus (walk_at "hp"; done)))
  | ((with_reducible apply u_Frame_number); (focus (assumption; done)); (focus (walk_at "hp"; done)))
  | ((with_reducible apply g_Frame_path); (focus (assumption; done)); (focus (walk_at "hp"; done)))
  | ((with_reducible apply u_Frame_path); (focus (assumption; done)); (focus (walk_at "hp"; done)))
  | ((with_reducible apply g_Frame_rows); (focus (assumption; done)); (focus (walk_at "hp"; done)))
  | ((with_reducible apply u_Frame_rows); (focus (assumption; done)); (focus (walk_at "hp"; done)))
  | ((with_reducible apply g_Frame_arg); (focus (assumption; done)); (focus (walk_at "hp"; done)))
  | ((with_reducible apply u_Frame_arg); (focus (assumption; done)); (focus (walk_at "hp"; done)))
  | ((with_reducible apply g_Frame_at); (focus (assumption; done)); (focus (walk_at "hp"; done)))
  | ((with_reducible apply u_Frame_at); (focus (assumption; done)); (focus (walk_at "hp"; done)))
  | ((with_reducible apply g_Frame_past); (focus (assumption; done)); (focus (walk_at "hp"; done)))
  | ((with_reducible apply u_Frame_past); (focus (assumption; done)); (focus (walk_at "hp"; done)))
  | ((with_reducible apply g_Frame_born); (focus (assumption; done)); (focus (walk_at "hp"; done)))
  | ((with_reducible apply u_Frame_born); (focus (assumption; done)); (focus (walk_at "hp"; done)))
  | ((with_reducible apply g_Record_mark); (focus (assumption; done)); (focus (walk_at "hp"; done)))
  | ((with_reducible apply u_Record_mark); (focus (assumption; done)); (focus (walk_at "hp"; done)))
  | ((with_reducible apply g_Record_word); (focus (assumption; done)); (focus (walk_at "hp"; done)))
  | ((with_reducible apply u_Record_word); (focus (assumption; done)); (focus (walk_at "hp"; done)))
  | ((with_reducible apply g_Record_doer); (focus (assumption; done)); (focus (walk_at "hp"; done)))
  | ((with_reducible apply u_Record_doer); (focus (assumption; done)); (focus (walk_at "hp"; done)))
  | ((with_reducible apply g_Record_child); (focus (assumption; done)); (focus (walk_at "hp"; done)))
  | ((with_reducible apply u_Record_child); (focus (assumption; done)); (focus (walk_at "hp"; done)))
  | ((with_reducible apply g_Record_reads); (focus (assumption; done)); (focus (walk_at "hp"; done)))
  | ((with_reducible apply u_Record_reads); (focus (assumption; done)); (focus (walk_at "hp"; done)))
  | ((with_reducible apply g_Record_writes); (focus (assumption; done)); (focus (walk_at "hp"; done)))
  | ((with_reducible apply u_Record_writes); (focus (assumption; done)); (focus (walk_at "hp"; done)))
  | ((with_reducible apply g_Outcome_cells); (focus (assumption; done)); (focus (walk_at "hp"; done)))
  | ((with_reducible apply u_Outcome_cells); (focus (assumption; done)); (focus (walk_at "hp"; done)))
  | ((with_reducible apply g_Outcome_given); (focus (assumption; done)); (focus (walk_at "hp"; done)))
  | ((with_reducible apply u_Outcome_given); (focus (assumption; done)); (focus (walk_at "hp"; done)))
  | ((with_reducible apply g_Outcome_steps); (focus (assumption; done)); (focus (walk_at "hp"; done)))
  | ((with_reducible apply u_Outcome_steps); (focus (assumption; done)); (focus (walk_at "hp"; done)))
  | ((with_reducible apply g_Outcome_deepest); (focus (assumption; done)); (focus (walk_at "hp"; done)))
  | ((with_reducible apply u_Outcome_deepest); (focus (assumption; done)); (focus (walk_at "hp"; done))))
/-! ### a step is done -/
def pathD (p : List Nat) : PyData := .tuple (p.map fun i => .int (i : Nat))
def markD (p : List Nat) (k : Nat) : PyData := .tuple [pathD p, .int (k : Nat)]
/-- a doing in the heap -/
def FrmAt (K : PySem.W.Frag) (H : Hp) (a : Addr) (f : Frm) : Prop := ∃ (dx l : Addr) (pv : V) (ys : List V), H a = some (O_Frame K dx (.int (f.num : Nat)) pv (.ref l) (.int f.arg) (.int (f.at_ : Nat)) (.int (f.past : Nat)) (.int (f.born : Nat))) ∧ Im H pv (pathD f.path) ∧ H l = some (.lst ys) ∧ ImA H ys (f.rows.map Stp.data)
theorem FrmAt.keep {K : PySem.W.Frag} {M : List Addr} {H H' : Hp} {a : Addr} {f : Frm} (h : FrmAt K H a f) (c : Chg M H H') (h1 : a ∉ M) (h2 : ∀ l ys, H l = some (.lst ys) → (∃ dx pv g at_ past born n, H a = some (O_Frame K dx n pv (.ref l) g at_ past born)) → l ∉ M) : FrmAt K H' a f := by
  obtain ⟨dx, l, pv, ys, e1, e2, e3, e4⟩ := h
  exact ⟨dx, l, pv, ys, c.keep _ _ e1 h1, e2.im c, c.keep _ _ e3 (h2 l ys e3 ⟨_, _, _, _, _, _, _, e1⟩), e4.im c⟩
def chV : Option Nat → V
  | none => .non
  | some n => .int (n : Nat)
/-- a new record in the heap: it and its lists were not there in H0, its lists are not among ls -/
def RcdNew (K : PySem.W.Frag) (H0 : Hp) (ls : List Addr) (H : Hp) (a : Addr) (r : Rcd) : Prop := ∃ (dx rl wl : Addr) (mv : V), H a = some (O_Record K dx mv (.str r.word) (.int (r.doer : Nat)) (chV r.child) (.ref rl) (.ref wl)) ∧ Im H mv (markD r.path r.past) ∧ H rl = some (.lst (r.reads.map V.int)) ∧ H wl = some (.lst (r.writes.map V.int)) ∧ H0 a = none ∧ H0 rl = none ∧ H0 wl = none ∧ rl ∉ ls ∧ wl ∉ ls
/-- a right step: not deep, skips over some -/
def Stp.fit : Stp → Prop
  | .cell a b => a.deep ≤ 5 ∧ b.deep ≤ 5
  | .give _ a => a.deep ≤ 5
  | .fork _ a => a.deep ≤ 5
  | .call _ a => a.deep ≤ 5
  | .wait => True
  | .skip a k => a.deep ≤ 5 ∧ 1 ≤ k
def mkV : Option (Str × Int) → V → Hp → Prop
  | none, v, _ => v = .non
  | some o, v, H => ∃ M, v = .ref M ∧ H M = some (.tup [.str o.1, .int o.2])
def Frm.next (f : Frm) (s : Stp) (cs : Cells) : Frm := { f with at_ := f.at_ + 1 + s.jump f.arg cs, past := f.past + 1 }
def Frm.rcd (f : Frm) (s : Stp) (cs : Cells) : Rcd := ⟨f.path, f.past, s.word, f.num, none, srtD (s.asks f.arg cs), s.writes f.arg cs⟩
def sp_step_done (K : PySem.W.Frag) : Sp := fun vs H Q _ => ∃ (fa hd gd : Addr) (f : Frm) (s : Stp) (cs : Cells) (gv : Given) (ls : List Addr) (ys : List V) (dx l : Addr) (pv : V), vs = [.ref fa, .ref hd, .ref gd] ∧ gd ≠ hd ∧
  H fa = some (O_Frame K dx (.int (f.num : Nat)) pv (.ref l) (.int f.arg) (.int (f.at_ : Nat)) (.int (f.past : Nat)) (.int (f.born : Nat))) ∧ Im H pv (pathD f.path) ∧ H l = some (.lst ys) ∧ ImA H ys (f.rows.map Stp.data) ∧
  f.rows[f.at_]? = some s ∧ s.fit ∧ H hd = some (.dK (cK cs)) ∧ cs.length ≤ 50000 ∧ GvAt H gd gv ls ∧ gv.length ≤ 50000 ∧ (∀ g ∈ gv, g.2.length ≤ 50000) ∧
  ∀ (T rc : Addr) (mk : V) (ls' : List Addr) (H' : Hp), Chg (fa :: hd :: gd :: ls) H H' → H' fa = some (O_Frame K dx (.int (f.num : Nat)) pv (.ref l) (.int f.arg) (.int ((f.next s cs).at_ : Nat)) (.int ((f.next s cs).past : Nat)) (.int (f.born : Nat))) →
    H' hd = some (.dK (cK (s.puts f.arg cs))) → GvAt H' gd (s.gives f.arg cs gv) ls' → (∀ l' ∈ ls', l' ∈ ls ∨ H l' = none) → RcdNew K H ls' H' rc (f.rcd s cs) → H' T = some (.tup [.ref rc, mk]) → mkV (s.makes f.arg cs) mk H' → Q (.ref T) H'
def t_step_done (K : PySem.W.Frag) (w : World) : TS :=
    tSeq (tAsg (tOp (rIxL K) (tFld K (tVar 0) "rows") (tFld K (tVar 0) "at")) (gName 3))
    (tSeq (tAsg (tLst (tNil)) (gName 4))
    (tSeq (tAsg (tMake (He.ga K "Record") (sp_Record___init__ K) [] E0 (tCons (tTup (tCons (tFld K (tVar 0) "path") (tCons (tFld K (tVar 0) "past") (tNil)))) (tCons (tOp (rIxT K) (tVar 3) (tC (.int 0))) (tCons (tFld K (tVar 0) "number") (tCons (tVar 4) (tNil)))))) (gName 5))
    (tSeq (sFldAug K (tVar 0) (tC (.int 1)) L2.rAdd "at")
    (tSeq (sFldAug K (tVar 0) (tC (.int 1)) L2.rAdd "past")
    (tSeq (tAsg (tC .non) (gName 6))
    (tSeq (tIfS (tTest (tOp rEq (tOp (rIxT K) (tVar 3) (tC (.int 0))) (tC (.str "cell")))) (tSeq (tAsg (tCall (sp_reckon 6) [] E0 (tCons (tOp (rIxT K) (tVar 3) (tC (.int 1))) (tCons (tFld K (tVar 0) "arg") (tCons (tVar 1) (tCons (tVar 4) (tNil)))))) (gName 7))
    (tSeq (sDPut (tVar 1) (tVar 7) (tCall (sp_reckon 6) [] E0 (tCons (tOp (rIxT K) (tVar 3) (tC (.int 2))) (tCons (tFld K (tVar 0) "arg") (tCons (tVar 1) (tCons (tVar 4) (tNil)))))))
    (sFld K (tVar 5) (tLst (tCons (tVar 7) (tNil))) "writes"))) (tIfS (tTest (tOp rEq (tOp (rIxT K) (tVar 3) (tC (.int 0))) (tC (.str "give")))) (tDrop (tBM K "list" rAppend (tDSetd (tVar 2) (tOp (rIxT K) (tVar 3) (tC (.int 1))) (tLst (tNil))) (tCons (tCall (sp_reckon 6) [] E0 (tCons (tOp (rIxT K) (tVar 3) (tC (.int 2))) (tCons (tFld K (tVar 0) "arg") (tCons (tVar 1) (tCons (tVar 4) (tNil)))))) (tNil)))) (tIfS (tTest (tOp rEq (tOp (rIxT K) (tVar 3) (tC (.int 0))) (tC (.str "skip")))) (tIfS (tTest (tOp rEq (tCall (sp_reckon 6) [] E0 (tCons (tOp (rIxT K) (tVar 3) (tC (.int 1))) (tCons (tFld K (tVar 0) "arg") (tCons (tVar 1) (tCons (tVar 4) (tNil)))))) (tC (.int 0)))) (sFldAug K (tVar 0) (tOp (rIxT K) (tVar 3) (tC (.int 2))) L2.rAdd "at") (tNext)) (tIfS (tTest (tOp rNe (tOp (rIxT K) (tVar 3) (tC (.int 0))) (tC (.str "wait")))) (tAsg (tTup (tCons (tOp (rIxT K) (tVar 3) (tC (.int 1))) (tCons (tCall (sp_reckon 6) [] E0 (tCons (tOp (rIxT K) (tVar 3) (tC (.int 2))) (tCons (tFld K (tVar 0) "arg") (tCons (tVar 1) (tCons (tVar 4) (tNil)))))) (tNil)))) (gName 6)) (tNext)))))
    (tSeq (sFld K (tVar 5) (tCB (rSortedSet w) (tCons (tCB (cSetL K w) (tCons (tVar 4) (tNil))) (tNil))) "reads")
    (tRet (tTup (tCons (tVar 5) (tCons (tVar 6) (tNil))))))))))))
theorem Stp.data_word (s : Stp) : ∃ ds, s.data = .tuple (.str s.word :: ds) := by cases s <;> exact ⟨_, rfl⟩
theorem Chg.sub {M M' : List Addr} {H H' : Hp} (c : Chg M H H') (h : ∀ a ∈ M, a ∈ M' ∨ H a = none) : Chg M' H H' := ⟨fun a o e hn => c.keep a o e (fun m => (h a m).elim hn fun z => (by rw [z] at e; cases e)), c.dom, c.tup⟩
theorem asks_few {s : Stp} (h : s.fit) (g : Int) (cs : Cells) : (s.asks g cs).length < 60 := by
  have p : ∀ e : Ex, e.deep ≤ 5 → (e.asked g cs).length + 1 ≤ 16 := fun e he => by
    have h1 := Ex.asked_len g cs e
    have h2 : 2 ^ (e.deep - 1) ≤ 2 ^ 4 := Nat.pow_le_pow_right (by decide) (by omega)
    omega
  cases s with
  | cell a b =>
    have := p a h.1
    have := p b h.2
    show (a.asked g cs ++ b.asked g cs).length < 60
    rw [List.length_append]
    omega
  | give x a => have := p a h; show (a.asked g cs).length < 60; omega
  | fork x a => have := p a h; show (a.asked g cs).length < 60; omega
  | call x a => have := p a h; show (a.asked g cs).length < 60; omega
  | wait => show 0 < 60; decide
  | skip a k => have := p a h.1; show (a.asked g cs).length < 60; omega
theorem pow_few {e : Ex} (h : e.deep ≤ 5) : 2 ^ e.deep ≤ 32 := Nat.pow_le_pow_right (show 0 < 2 by decide) h
theorem ask_ref {H : Hp} {l : Addr} {xs : List Int} (h : Ask H (.ref l) (some xs)) : H l = some (.lst (xs.map V.int)) := by
  rcases h with ⟨z, _⟩ | ⟨l', ys, e1, e2, h⟩
  · cases z
  · cases e1
    cases e2
    exact h
set_option maxHeartbeats 8000000 in
theorem pure_step_done {K : PySem.W.Frag} {w : World} (CF : CFs K) (vs : List V) (H : Hp) (Q : VK) (E : XK) (h : sp_step_done K vs H Q E) : t_step_done K w (fin Q) (start ["frame", "held", "given", "row", "asked", "record", "making", "cell"] vs) H := by
  obtain ⟨fa, hd, gd, f, s, cs, gv, ls, ys, dx, l, pv, rfl, gdhd, hf, ipv, hl, im, es, fit, hh, lc, gvA, lg, lr, q⟩ := h
  show t_step_done K w _ [some (.ref fa), some (.ref hd), some (.ref gd), none, none, none, none, none] H
  unfold t_step_done
  have fr := CF.fr
  have rcC := CF.rc
  obtain ⟨y, ey, iy⟩ := im.get' (i := f.at_) (d := s.data) (by rw [List.getElem?_map, es]; rfl)
  have ea := atI_nat ey
  obtain ⟨ds, eds⟩ := s.data_word
  have iy0 := iy
  rw [eds] at iy
  obtain ⟨yT, zs, rfl, hy, iz⟩ := im_tup iy
  obtain ⟨z0, zr, rfl⟩ : ∃ z0 zr, zs = z0 :: zr := by cases iz; exact ⟨_, _, rfl⟩
  have e0 : z0 = .str s.word := by
    cases iz with
    | cons i0 _ => exact im_str i0
  subst e0
  generalize hS : (tSeq (sFld K (tVar 5) (tCB (rSortedSet w) (tCons (tCB (cSetL K w) (tCons (tVar 4) tNil)) tNil)) "reads") (tRet (tTup (tCons (tVar 5) (tCons (tVar 6) tNil)))) : TS) = suf
  walk_at "w"
  refine k_lst (by walk_at "sz") fun ak H1 nak c1 hak => ?_
  have hf1 := c1.at hf
  have hy1 := c1.at hy
  walk_at "w"
  refine k_tup (by walk_at "sz") fun m H2 nm c2 hm => ?_
  have hf2 := c2.at hf1
  have hy2 := c2.at hy1
  walk_at "w"
  refine k_make fun rc dxr H3 nrc ndx ne c3 h3 => ⟨rc, dxr, _, _, _, _, rfl, h3, fun wl H4 nwl c4 hwl h4 => ⟨rfl, ?_⟩⟩
  have c24 : Chg [] H2 H4 := c3.one c4 nrc
  have c04 : Chg [] H H4 := (c1.same c2).same c24
  have hf4 := c24.at hf2
  walk_at "w"
  refine e_Frame_at hf4 fun H5 c5 hf5 => ?_
  walk_at "w"
  refine e_Frame_past hf5 fun H6 c6 hf6 => ?_
  have c46 : Chg [fa] H4 H6 := c5.both c6
  have nrcH : H rc = none := (c1.same c2).dom _ nrc
  have fne : ∀ {a : Addr} {xs : List V}, H a = some (.lst xs) → a ≠ fa := fun ha z => by rw [z, hf] at ha; exact nomatch ha
  have hdfa : hd ≠ fa := fun z => by rw [z, hf] at hh; exact nomatch hh
  have gdfa : gd ≠ fa := fun z => by have := gvA.dict; rw [z, hf] at this; exact nomatch this
  have lsfa : ∀ l' ∈ ls, l' ≠ fa := fun l' hl' => by
    obtain ⟨i, hi⟩ := List.getElem?_of_mem hl'
    have hi2 := (List.getElem?_eq_some_iff.mp hi).1
    have hg : i < gv.length := by rw [← gvA.len]; exact hi2
    exact fne (gvA.rows i _ l' (List.getElem?_eq_getElem hg) hi)
  have lsS : ∀ l' ∈ ls, H l' ≠ none := fun l' hl' => by
    obtain ⟨i, hi⟩ := List.getElem?_of_mem hl'
    have hi2 := (List.getElem?_eq_some_iff.mp hi).1
    have hg : i < gv.length := by rw [← gvA.len]; exact hi2
    rw [gvA.rows i _ l' (List.getElem?_eq_getElem hg) hi]
    exact fun z => nomatch z
  have hh6 := c46.at1 (c04.at hh) hdfa
  have gv6 : GvAt H6 gd gv ls := (gvA.same c04).keep c46 (by simpa using gdfa) fun l' hl' => by simpa using lsfa l' hl'
  have akfa : ak ≠ fa := fun z => by rw [z, hf] at nak; cases nak
  have rcfa : rc ≠ fa := fun z => by rw [z, hf2] at nrc; cases nrc
  have hak6 := c46.at1 (c24.at (c2.at hak)) akfa
  have rc6 := c46.at1 h4 rcfa
  have wlfa : wl ≠ fa := fun z => by
    rw [z] at nwl
    have := c3.at hf2
    rw [nwl] at this
    cases this
  have hwl6 := c46.at1 hwl wlfa
  have hy6 := c46.tup _ _ (c24.at hy2)
  have hm6 := c46.tup _ _ (c24.at hm)
  have c06 : Chg (fa :: hd :: gd :: ls) H H6 := (c04.wide (by simp)).go c46 fun a ha => .inl (by rw [List.mem_singleton.mp ha]; simp)
  have nakH : H ak = none := nak
  have akrc : ak ≠ rc := fun z => by rw [z] at nakH; have := (c2.at hak); rw [z, nrc] at this; cases this
  -- what follows
  have rest : ∀ (H9 : Hp) (mk : V) (ls' : List Addr) (wl' : Addr) (y7 : Option V), Chg (fa :: hd :: gd :: ls) H H9 → H9 fa = some (O_Frame K dx (.int (f.num : Nat)) pv (.ref l) (.int f.arg) (.int ((f.next s cs).at_ : Nat)) (.int ((f.next s cs).past : Nat)) (.int (f.born : Nat))) →
      H9 hd = some (.dK (cK (s.puts f.arg cs))) → GvAt H9 gd (s.gives f.arg cs gv) ls' → (∀ l' ∈ ls', l' ∈ ls ∨ H l' = none) → H9 ak = some (.lst ((s.asks f.arg cs).map V.int)) → H9 rc = some (O_Record K dxr (.ref m) (.str s.word) (.int (f.num : Nat)) .non (.ref ak) (.ref wl')) → H9 wl' = some (.lst ((s.writes f.arg cs).map V.int)) → mkV (s.makes f.arg cs) mk H9 → H9 m = some (.tup [pv, .int (f.past : Nat)]) → H wl' = none → wl' ∉ ls' →
      suf (fin Q) [some (.ref fa), some (.ref hd), some (.ref gd), some (.ref yT), some (.ref ak), some (.ref rc), some mk, y7] H9 := fun H9 mk ls' wl' y7 k1 k2 k3 k4 k5 k6 k7 k8 k9 k10 k11 k12 => by
    subst hS
    walk_at "w"
    refine w_setI k6 (asks_few fit _ _) fun sp c H10 nsp c10 hc hs => ?_
    have few := asks_few fit f.arg cs
    walk_at "w"
    refine w_sortSet hs (by omega) fun rl H11 nrl c11 hrl => ?_
    have c911 := c10.same c11
    walk_at "w"
    refine s_Record_reads rcC (c911.at k7) fun H12 c12 h12 => ?_
    walk_at "w"
    refine k_tup (by walk_at "sz") fun T H13 nT c13 hT => ?_
    have nr : ∀ {a : Addr} {o : HO}, H9 a = some o → (∀ b, o ≠ O_Record K dxr (.ref m) (.str s.word) (.int (f.num : Nat)) .non (.ref ak) b) → a ≠ rc := fun ha ho z => by
      rw [z, k7] at ha
      exact ho _ (Option.some.inj ha).symm
    have cH : Chg (fa :: hd :: gd :: ls) H H13 := ((k1.same c911).go c12 fun a ha => .inr (by rw [List.mem_singleton.mp ha]; exact nrcH)).same c13
    refine q T rc mk ls' H13 cH (c13.at (c12.at1 (c911.at k2) rcfa.symm)) (c13.at (c12.at1 (c911.at k3) (nr k3 fun b => fun z => nomatch z))) ((((k4.same c911).keep c12 (by simpa using nr k4.dict fun b => fun z => nomatch z) fun l' hl' => ?_)).same c13) k5 ?_ hT ?_
    · obtain ⟨i, hi⟩ := List.getElem?_of_mem hl'
      have hi2 := (List.getElem?_eq_some_iff.mp hi).1
      have hg : i < (s.gives f.arg cs gv).length := by rw [← k4.len]; exact hi2
      have := k4.rows i _ l' (List.getElem?_eq_getElem hg) hi
      simpa using nr this fun b => fun z => nomatch z
    · have hrl11 : rl ≠ rc := fun z => by rw [z, c10.at k7] at nrl; cases nrl
      have hmk : H13 m = some (.tup [pv, .int (f.past : Nat)]) := c13.at (c12.tup _ _ (c911.at k10))
      refine ⟨dxr, rl, wl', .ref m, c13.at h12, .tup hmk (.cons (ipv.im cH) (.cons (.int _) .nil)), c13.at (c12.at1 hrl hrl11), c13.at (c12.at1 (c911.at k8) (nr k8 fun b => fun z => nomatch z)), nrcH, k1.dom _ (c10.dom _ nrl), k11, fun hm => ?_, k12⟩
      obtain ⟨i, hi⟩ := List.getElem?_of_mem hm
      have hg : i < (s.gives f.arg cs gv).length := by rw [← k4.len]; exact (List.getElem?_eq_some_iff.mp hi).1
      have := k4.rows i _ rl (List.getElem?_eq_getElem hg) hi
      rw [c10.at this] at nrl
      cases nrl
    · cases hmk : s.makes f.arg cs with
      | none => rw [hmk] at k9; exact k9
      | some o =>
        rw [hmk] at k9
        obtain ⟨M, e1, e2⟩ := k9
        exact ⟨M, e1, c13.at (c12.tup _ _ (c911.at e2))⟩
  have akhd : ak ≠ hd := fun z => by rw [z, hh] at nakH; cases nakH
  have akgd : ak ≠ gd := fun z => by rw [z, gvA.dict] at nakH; cases nakH
  have lsak : ∀ l' ∈ ls, l' ≠ ak := fun l' hl' z => lsS l' hl' (by rw [z]; exact nakH)
  have lsrc : ∀ l' ∈ ls, l' ≠ rc := fun l' hl' z => lsS l' hl' (by rw [z]; exact nrcH)
  have hdrc : hd ≠ rc := fun z => by rw [z, nrcH] at hh; cases hh
  have gdrc : gd ≠ rc := fun z => by have := gvA.dict; rw [z, nrcH] at this; cases this
  have wlak : wl ≠ ak := fun z => by
    rw [z, (c3.at (c2.at hak))] at nwl
    cases nwl
  have lshd : ∀ l' ∈ ls, l' ≠ hd := fun l' hl' z => by
    obtain ⟨i, hi⟩ := List.getElem?_of_mem hl'
    have hg : i < gv.length := by rw [← gvA.len]; exact (List.getElem?_eq_some_iff.mp hi).1
    have := gvA.rows i _ l' (List.getElem?_eq_getElem hg) hi
    rw [z, hh] at this
    cases this
  have wlN : H wl = none := (c1.same c2).dom _ (c3.dom _ nwl)
  have wlls : wl ∉ ls := fun hm => lsS wl hm wlN
  have p5 : ∀ {e : Ex}, e.deep ≤ 5 → 2 ^ e.deep ≤ 32 := fun h => pow_few h
  cases s with
  | wait =>
    walk_at "w"
    exact rest H6 .non ls wl _ c06 hf6 hh6 gv6 (fun l' h => .inl h) hak6 rc6 hwl6 rfl hm6 wlN wlls
  | cell a b =>
    have iz0 := iz
    obtain ⟨u0, va, vb, ez, iw, iva, ivb⟩ := imA3 (show ImA H (_ :: zr) [.str "cell", a.data, b.data] from by
      have := eds
      cases this
      exact iz0)
    cases ez
    walk_at "w"
    refine ⟨va, a, f.arg, hd, cs, .ref ak, some [], rfl, iva.im c06, by have := fit.1; omega, hh6, .inr ⟨ak, [], rfl, rfl, hak6⟩, fun xs hx => (by cases hx; have := p5 fit.1; simp; omega), fun H7 c7 ask7 => ?_⟩
    have c7 : Chg [ak] H6 H7 := c7
    have hh7 := c7.at1 hh6 akhd.symm
    have hy7 := c7.tup _ _ hy6
    have hf7 := c7.at1 hf6 akfa.symm
    walk_at "w"
    refine ⟨vb, b, f.arg, hd, cs, .ref ak, _, rfl, (ivb.im c06).im c7, by have := fit.2; omega, hh7, ask7, fun xs hx => ?_, fun H8 c8 ask8 => ?_⟩
    · cases hx
      have h1 := Ex.asked_len f.arg cs a
      have h2 : 2 ^ (a.deep - 1) ≤ 2 ^ a.deep := Nat.pow_le_pow_right (by decide) (Nat.sub_le _ _)
      have := p5 fit.1
      have := p5 fit.2
      simp
      omega
    have c8 : Chg [ak] H7 H8 := c8
    have hh8 := c8.at1 hh7 akhd.symm
    have hak8 := ask_ref ask8
    walk_at "w"
    refine d_dput (k := Sum.inl (a.worth f.arg cs)) hh8 (by unfold cK; rw [List.length_map]; walk_at "sz") fun H9 c9 h9 => ?_
    rw [putK_cK] at h9
    have c69 : Chg [ak, hd] H6 H9 := ((c7.both c8).wide (by simp)).go c9 fun a ha => .inl (by rw [List.mem_singleton.mp ha]; simp)
    walk_at "w"
    refine k_lst (by walk_at "sz") fun wl' H10 nwl' c10 hwl' => ?_
    walk_at "w"
    have rc9 : H9 rc = _ := c69.keep _ _ rc6 (by simp only [List.mem_cons, List.not_mem_nil, or_false, not_or]; exact ⟨akrc.symm, hdrc.symm⟩)
    refine s_Record_writes rcC (c10.at rc9) fun H11 c11 h11 => ?_
    have c611 : Chg [ak, hd, rc] H6 H11 := ((c69.same c10).wide (by simp)).go c11 fun a ha => .inl (by rw [List.mem_singleton.mp ha]; simp)
    have wlrc : wl' ≠ rc := fun z => by rw [z, rc9] at nwl'; cases nwl'
    refine rest H11 .non ls wl' _ (c06.go c611 fun x hx => ?_) (c611.keep _ _ hf6 (by simp only [List.mem_cons, List.not_mem_nil, or_false, not_or]; exact ⟨akfa.symm, hdfa.symm, rcfa.symm⟩)) (c11.at1 (c10.at h9) hdrc) (gv6.keep c611 (by simp only [List.mem_cons, List.not_mem_nil, or_false, not_or]; exact ⟨akgd.symm, gdhd, gdrc⟩) fun l' hl' => by simp only [List.mem_cons, List.not_mem_nil, or_false, not_or]; exact ⟨lsak l' hl', lshd l' hl', lsrc l' hl'⟩) (fun l' h => .inl h) ?_ h11 (c11.at1 hwl' wlrc) rfl (c611.tup _ _ hm6) (c06.dom _ (c69.dom _ nwl')) (fun hm => lsS wl' hm (c06.dom _ (c69.dom _ nwl')))
    · simp only [List.mem_cons, List.not_mem_nil, or_false] at hx
      rcases hx with rfl | rfl | rfl
      · exact .inr nakH
      · exact .inl (by simp)
      · exact .inr nrcH
    · have := c9.at1 hak8 akhd
      exact c11.at1 (c10.at this) akrc
  | give x a =>
    obtain ⟨u0, va, vb, ez, iw, iva, ivb⟩ := imA3 (show ImA H (_ :: zr) [.str "give", .str x, a.data] from by
      have := eds
      cases this
      exact iz)
    cases ez
    have ex := im_str iva
    subst ex
    have lk : (gK gv ls).length ≤ 50000 := by rw [gK_len gvA.len]; exact lg
    have hgd6 := gv6.dict
    walk_at "w"
    refine k_lst (by walk_at "sz") fun pn H7 npn c7 hpn => ?_
    have hgd7 := c7.at hgd6
    have pnN : H pn = none := c06.dom _ npn
    have pnfa : pn ≠ fa := fun z => by rw [z, hf6] at npn; cases npn
    have pnhd : pn ≠ hd := fun z => by rw [z, hh6] at npn; cases npn
    have pngd : pn ≠ gd := fun z => by rw [z, hgd6] at npn; cases npn
    have pnak : pn ≠ ak := fun z => by rw [z, hak6] at npn; cases npn
    have pnrc : pn ≠ rc := fun z => by rw [z, rc6] at npn; cases npn
    have pnls : ∀ l' ∈ ls, l' ≠ pn := fun l' hl' z => lsS l' hl' (by rw [z]; exact pnN)
    have hk : ∀ (H8 : Hp) (lx : Addr) (row : List Int), Chg [gd] H7 H8 → H8 lx = some (.lst (row.map V.int)) → row.length ≤ 50000 → lx ≠ ak → lx ≠ hd → lx ≠ fa → lx ≠ rc → lx ≠ gd → (lx = wl → False) →
        (∀ H9 H10, Chg [ak] H8 H9 → Chg [lx] H9 H10 → H10 lx = some (.lst ((row ++ [a.worth f.arg cs]).map V.int)) → ∃ ls', GvAt H10 gd (gAdd gv x (a.worth f.arg cs)) ls' ∧ (∀ l' ∈ ls', l' ∈ ls ∨ H l' = none) ∧ wl ∉ ls') → (lx ∈ ls ∨ H lx = none) →
        tyV K "list" (.ref lx) H8 ∧ tCons (tCall (sp_reckon 6) [] E0 (tCons (tOp (rIxT K) (tVar 3) (tC (.int 2))) (tCons (tFld K (tVar 0) "arg") (tCons (tVar 1) (tCons (tVar 4) tNil))))) tNil [some (.ref fa), some (.ref hd), some (.ref gd), some (.ref yT), some (.ref ak), some (.ref rc), some .non, none] H8 fun ys H2 => rAppend (.ref lx) ys H2 fun _ H1 => suf (fin Q) [some (.ref fa), some (.ref hd), some (.ref gd), some (.ref yT), some (.ref ak), some (.ref rc), some .non, none] H1 := fun H8 lx row c8 hlx lrow n1 n2 n3 n4 n5 n6 hg hin => by
      have c68 : Chg [gd] H6 H8 := (c7.wide (by simp)).both c8
      have hh8 := c68.at1 hh6 gdhd.symm
      have hak8 := c68.at1 hak6 akgd
      have hf8 := c68.at1 hf6 gdfa.symm
      have hy8 := c68.tup _ _ hy6
      have rc8 := c68.at1 rc6 gdrc.symm
      have hwl8 := c68.at1 hwl6 (fun z => by rw [z, hgd6] at hwl6; cases hwl6)
      walk_at "w"
      refine ⟨vb, a, f.arg, hd, cs, .ref ak, some [], rfl, (ivb.im c06).im c68, by have : a.deep ≤ 5 := fit; omega, hh8, .inr ⟨ak, [], rfl, rfl, hak8⟩, fun xs hx => (by cases hx; have := p5 (e := a) fit; simp; omega), fun H9 c9 ask9 => ?_⟩
      have c9 : Chg [ak] H8 H9 := c9
      have hak9 := ask_ref ask9
      walk_at "w"
      refine w_append (c9.at1 hlx n1) (by rw [List.length_map]; walk_at "sz") fun H10 c10 h10 => ?_
      have h10' : H10 lx = some (.lst ((row ++ [a.worth f.arg cs]).map V.int)) := by rw [List.map_append]; exact h10
      obtain ⟨ls', g1, g2, g3⟩ := hg H9 H10 c9 c10 h10'
      have c810 : Chg [ak, lx] H8 H10 := (c9.wide (by simp)).go c10 fun a ha => .inl (by rw [List.mem_singleton.mp ha]; simp)
      refine rest H10 .non ls' wl _ ((c06.go c68 fun a ha => .inl (by rw [List.mem_singleton.mp ha]; simp)).go c810 fun z hz => ?_) (c810.keep _ _ hf8 (by simp only [List.mem_cons, List.not_mem_nil, or_false, not_or]; exact ⟨akfa.symm, Ne.symm n3⟩)) (c810.keep _ _ hh8 (by simp only [List.mem_cons, List.not_mem_nil, or_false, not_or]; exact ⟨akhd.symm, Ne.symm n2⟩)) g1 g2 (c10.at1 hak9 (Ne.symm n1)) (c810.keep _ _ rc8 (by simp only [List.mem_cons, List.not_mem_nil, or_false, not_or]; exact ⟨akrc.symm, Ne.symm n4⟩)) (c810.keep _ _ hwl8 (by simp only [List.mem_cons, List.not_mem_nil, or_false, not_or]; exact ⟨wlak, fun z => n6 z.symm⟩)) rfl (c810.tup _ _ (c68.tup _ _ hm6)) wlN g3
      simp only [List.mem_cons, List.not_mem_nil, or_false] at hz
      rcases hz with rfl | rfl
      · exact .inr nakH
      · rcases hin with hin | hin
        · exact .inl (by simp [hin])
        · exact .inr hin
    have gv7 := gv6.same c7
    refine d_dsetdS hgd7 (by omega) (fun v ev => ?_) (fun ev H8 c8 h8 => ?_)
    · rcases gv_cases gv ls x gvA.len gvA.names with ⟨e1, _⟩ | ⟨i, lx, row, e1, e2, e3⟩
      · rw [e1] at ev; cases ev
      · rw [e3] at ev
        cases ev
        have hlx7 := gv7.rows i _ lx e1 e2
        have mem := List.mem_of_getElem? e2
        refine hk H7 lx row .refl hlx7 (lr _ (List.mem_of_getElem? e1)) (lsak lx mem) (lshd lx mem) (lsfa lx mem) (lsrc lx mem) (fun z => by rw [z, hgd7] at hlx7; cases hlx7) (fun z => lsS lx mem (by rw [z]; exact (c1.same c2).dom _ (c3.dom _ nwl))) (fun H9 H10 c9 c10 h10 => ⟨ls, (gv7.keep c9 (by simpa using akgd.symm) fun l' hl' => by simpa using lsak l' hl').old e1 e2 c10 h10, fun l' h => .inl h, wlls⟩) (.inl mem)
    · rcases gv_cases gv ls x gvA.len gvA.names with ⟨e1, nx⟩ | ⟨i, lx, row, e1, e2, e3⟩
      · have hpn8 : H8 pn = some (.lst (([] : List Int).map V.int)) := c8.at1 hpn pngd
        have hp : putK (gK gv ls) (Sum.inr x) (V.ref pn) = gK gv ls ++ [(Sum.inr x, V.ref pn)] := by
          unfold putK
          rw [if_neg]
          intro z
          obtain ⟨kv, hkv, ek⟩ := List.any_eq_true.mp z
          have : kv.1 ∈ (gK gv ls).map (·.1) := List.mem_map.mpr ⟨kv, hkv, rfl⟩
          rw [gK_keys gvA.len, of_decide_eq_true ek] at this
          obtain ⟨x', hx', e'⟩ := List.mem_map.mp this
          cases e'
          exact nx hx'
        rw [hp] at h8
        refine hk H8 pn [] c8 hpn8 (by simp) pnak pnhd pnfa pnrc pngd (fun z => by rw [z, hwl6] at npn; cases npn) (fun H9 H10 c9 c10 h10 => ⟨ls ++ [pn], ?_, fun l' h => ?_, fun hm => ?_⟩) (.inr pnN)
        · refine gv7.new nx pnls (fun l' hl' o e => ?_) (c10.at1 (c9.at1 h8 akgd.symm) pngd.symm) h10
          have lgd : l' ≠ gd := fun z => by
            obtain ⟨i, hi⟩ := List.getElem?_of_mem hl'
            have hg : i < gv.length := by rw [← gvA.len]; exact (List.getElem?_eq_some_iff.mp hi).1
            have := gv7.rows i _ l' (List.getElem?_eq_getElem hg) hi
            rw [z, hgd7] at this
            cases this
          exact c10.at1 (c9.at1 (c8.at1 e lgd) (lsak l' hl')) (pnls l' hl')
        · rcases List.mem_append.mp h with h | h
          · exact .inl h
          · rw [List.mem_singleton.mp h]; exact .inr pnN
        · rcases List.mem_append.mp hm with hm | hm
          · exact wlls hm
          · rw [← List.mem_singleton.mp hm, hwl6] at npn
            cases npn
      · rw [e3] at ev; cases ev
  | skip a k =>
    obtain ⟨u0, va, vb, ez, iw, iva, ivb⟩ := imA3 (show ImA H (_ :: zr) [.str "skip", a.data, .int k] from by
      have := eds
      cases this
      exact iz)
    cases ez
    have ek := im_int ivb
    subst ek
    walk_at "w"
    refine ⟨va, a, f.arg, hd, cs, .ref ak, some [], rfl, iva.im c06, by have := fit.1; omega, hh6, .inr ⟨ak, [], rfl, rfl, hak6⟩, fun xs hx => (by cases hx; have := p5 fit.1; simp; omega), fun H7 c7 ask7 => ?_⟩
    have c7 : Chg [ak] H6 H7 := c7
    have hak7 := ask_ref ask7
    have hf7 := c7.at1 hf6 akfa.symm
    have hh7 := c7.at1 hh6 akhd.symm
    have hy7 := c7.tup _ _ hy6
    have c07 : Chg (fa :: hd :: gd :: ls) H H7 := c06.go c7 fun x hx => .inr (by rw [List.mem_singleton.mp hx]; exact nakH)
    have gv7 : GvAt H7 gd gv ls := gv6.keep c7 (by simpa using akgd.symm) fun l' hl' => by simpa using lsak l' hl'
    have k1 := fit.2
    walk_at "w"
    refine w_iteD (fun h0 => ?_) (fun h0 => ?_)
    · have h0' : a.worth f.arg cs = 0 := V.int.inj h0
      walk_at "w"
      refine e_Frame_at hf7 fun H8 c8 hf8 => ?_
      have ej : (f.next (.skip a k) cs).at_ = f.at_ + 1 + k.toNat := by
        show f.at_ + 1 + (if a.worth f.arg cs = 0 then k.toNat else 0) = _
        rw [if_pos h0']
      refine rest H8 .non ls wl _ (c07.go c8 fun x hx => .inl (by rw [List.mem_singleton.mp hx]; simp)) ?_ (c8.at1 hh7 hdfa) (gv7.keep c8 (by simpa using gdfa) fun l' hl' => by simpa using lsfa l' hl') (fun l' h => .inl h) (c8.at1 hak7 akfa) (c8.at1 (c7.at1 rc6 akrc.symm) rcfa) (c8.at1 (c7.at1 hwl6 wlak) wlfa) rfl (c8.tup _ _ (c7.tup _ _ hm6)) wlN wlls
      rw [hf8, ej]
      have e1 : ((f.at_ : Nat) : Int) + 1 + k = ((f.at_ + 1 + k.toNat : Nat) : Int) := by omega
      rw [e1]
      rfl
    · have h0' : ¬ a.worth f.arg cs = 0 := fun z => h0 (by rw [z])
      walk_at "w"
      have ej : (f.next (.skip a k) cs).at_ = f.at_ + 1 := by
        show f.at_ + 1 + (if a.worth f.arg cs = 0 then k.toNat else 0) = _
        rw [if_neg h0']
      refine rest H7 .non ls wl _ c07 ?_ hh7 gv7 (fun l' h => .inl h) hak7 (c7.at1 rc6 akrc.symm) (c7.at1 hwl6 wlak) rfl (c7.tup _ _ hm6) wlN wlls
      rw [hf7, ej]
      rfl
  | fork x a =>
    obtain ⟨u0, va, vb, ez, iw, iva, ivb⟩ := imA3 (show ImA H (_ :: zr) [.str "fork", .str x, a.data] from by
      have := eds
      cases this
      exact iz)
    cases ez
    have ex := im_str iva
    subst ex
    walk_at "w"
    refine ⟨vb, a, f.arg, hd, cs, .ref ak, some [], rfl, ivb.im c06, by have : a.deep ≤ 5 := fit; omega, hh6, .inr ⟨ak, [], rfl, rfl, hak6⟩, fun xs hx => (by cases hx; have := p5 (e := a) fit; simp; omega), fun H7 c7 ask7 => ?_⟩
    have c7 : Chg [ak] H6 H7 := c7
    have hak7 := ask_ref ask7
    walk_at "w"
    refine k_tup (by walk_at "sz") fun M H8 nM c8 hM => ?_
    walk_at "w"
    have c68 := c7.same c8
    refine rest H8 (.ref M) ls wl _ (c06.go c68 fun x hx => .inr (by rw [List.mem_singleton.mp hx]; exact nakH)) (c68.at1 hf6 akfa.symm) (c68.at1 hh6 akhd.symm) (gv6.keep c68 (by simpa using akgd.symm) fun l' hl' => by simpa using lsak l' hl') (fun l' h => .inl h) (c8.at hak7) (c68.at1 rc6 akrc.symm) (c68.at1 hwl6 wlak) ⟨M, rfl, hM⟩ (c68.tup _ _ hm6) wlN wlls
  | call x a =>
    obtain ⟨u0, va, vb, ez, iw, iva, ivb⟩ := imA3 (show ImA H (_ :: zr) [.str "call", .str x, a.data] from by
      have := eds
      cases this
      exact iz)
    cases ez
    have ex := im_str iva
    subst ex
    walk_at "w"
    refine ⟨vb, a, f.arg, hd, cs, .ref ak, some [], rfl, ivb.im c06, by have : a.deep ≤ 5 := fit; omega, hh6, .inr ⟨ak, [], rfl, rfl, hak6⟩, fun xs hx => (by cases hx; have := p5 (e := a) fit; simp; omega), fun H7 c7 ask7 => ?_⟩
    have c7 : Chg [ak] H6 H7 := c7
    have hak7 := ask_ref ask7
    walk_at "w"
    refine k_tup (by walk_at "sz") fun M H8 nM c8 hM => ?_
    walk_at "w"
    have c68 := c7.same c8
    refine rest H8 (.ref M) ls wl _ (c06.go c68 fun x hx => .inr (by rw [List.mem_singleton.mp hx]; exact nakH)) (c68.at1 hf6 akfa.symm) (c68.at1 hh6 akhd.symm) (gv6.keep c68 (by simpa using akgd.symm) fun l' hl' => by simpa using lsak l' hl') (fun l' h => .inl h) (c8.at hak7) (c68.at1 rc6 akrc.symm) (c68.at1 hwl6 wlak) ⟨M, rfl, hM⟩ (c68.tup _ _ hm6) wlN wlls
end Fg
namespace Fg
open PySem PySem.Spec PyProof.Rows L2
/-! ### the program as a dict -/
def nmG (p : Prg) : Given := p.map fun r => (r.1, [])
theorem nmG_names (p : Prg) : (nmG p).map (·.1) = p.map (·.1) := by
  unfold nmG
  rw [List.map_map]
  rfl
theorem putK_fresh {kvs : List (Key × V)} {k : Key} {v : V} (h : k ∉ kvs.map (·.1)) : putK kvs k v = kvs ++ [(k, v)] := by
  unfold putK
  rw [if_neg]
  intro z
  obtain ⟨kv, hkv, ek⟩ := List.any_eq_true.mp z
  exact h (List.mem_map.mpr ⟨kv, hkv, of_decide_eq_true ek⟩)
theorem mergeK_new : ∀ {more kvs : List (Key × V)}, ((kvs ++ more).map (·.1)).Nodup → mergeK kvs more = kvs ++ more
  | [], kvs, _ => by rw [List.append_nil]; rfl
  | m :: r, kvs, nd => by
    have e : mergeK kvs (m :: r) = mergeK (putK kvs m.1 m.2) r := rfl
    have h1 : m.1 ∉ kvs.map (·.1) := fun z => by
      rw [List.map_append, List.map_cons] at nd
      have := (List.nodup_append.mp nd).2.2 _ z m.1 (by simp)
      exact this rfl
    rw [e, putK_fresh h1, mergeK_new (by rw [List.append_assoc]; exact nd), List.append_assoc]
    rfl
theorem rising_nodup : ∀ {ns : List Str}, rising ns = true → ns.Nodup ∧ ∀ x, (x :: ns).Nodup → True := by
  intro ns h
  refine ⟨?_, fun _ _ => trivial⟩
  have key : ∀ {x : Str} {ns : List Str}, rising (x :: ns) = true → ∀ y ∈ ns, x.cps.toList < y.cps.toList := by
    intro x ns
    induction ns generalizing x with
    | nil => intro _ y hy; cases hy
    | cons z r ih =>
      intro h y hy
      obtain ⟨h1, h2⟩ := Bool.and_eq_true_iff.mp (show (ltS x z && rising (z :: r)) = true from h)
      have h1' : x.cps.toList < z.cps.toList := of_decide_eq_true h1
      rcases List.mem_cons.mp hy with rfl | hy
      · exact h1'
      · exact List.lt_trans h1' (ih h2 y hy)
  induction ns with
  | nil => exact List.nodup_nil
  | cons x r ih =>
    have hr : rising r = true := by
      cases r with
      | nil => rfl
      | cons z r => exact (Bool.and_eq_true_iff.mp (show (ltS x z && rising (z :: r)) = true from h)).2
    refine List.nodup_cons.mpr ⟨fun m => ?_, ih hr⟩
    exact List.lt_irrefl _ (key h x m)
theorem prg_view {S : Addr → Prop} {H : Hp} {a : Addr} {p : Prg} (r : R S H (.ref a) (prgD p)) : ∃ ps ls : List Addr, H a = some (.lst (ps.map V.ref)) ∧ Paired (fun q kv => H q = some (.tup [kV kv.1, kv.2])) ps (gK (nmG p) ls) ∧ ls.length = p.length ∧ PAt H a p ls := by
  have key : ∀ {p : Prg} {xs : List V}, RA S H xs (p.map rowD) → ∃ ps ls : List Addr, xs = ps.map V.ref ∧ Paired (fun q kv => H q = some (.tup [kV kv.1, kv.2])) ps (gK (nmG p) ls) ∧ ls.length = p.length ∧ ∀ (i : Nat) (x : V) (r : Str × List Stp) (l : Addr), xs[i]? = some x → p[i]? = some r → ls[i]? = some l → ∃ (T : Addr) (ys : List V), x = .ref T ∧ H T = some (.tup [.str r.1, .ref l]) ∧ H l = some (.lst ys) ∧ ImA H ys (r.2.map Stp.data) := by
    intro p
    induction p with
    | nil =>
      intro xs h
      cases h
      exact ⟨[], [], rfl, .nil, rfl, fun i x r l h => by simp at h⟩
    | cons q p ih =>
      intro xs ra
      cases ra with
      | cons r1 rs =>
        obtain ⟨ps, ls, h0, h1, h2, h3⟩ := ih rs
        cases r1 with
        | @tup T _ _ e2 ra2 =>
          cases ra2 with
          | cons r0 rs0 =>
            cases rs0 with
            | cons r3 rs3 =>
              cases rs3
              cases r0
              cases r3 with
              | @lst l4 ys4 _ s4 e4 ra4 =>
                refine ⟨T :: ps, l4 :: ls, by rw [h0]; rfl, .cons e2 h1, by rw [List.length_cons, List.length_cons, h2], fun i x r l hx hr hl => ?_⟩
                cases i with
                | zero =>
                  cases (Option.some.inj (show some (V.ref T) = some x from hx))
                  cases (Option.some.inj (show some q = some r from hr))
                  cases (Option.some.inj (show some l4 = some l from hl))
                  exact ⟨T, ys4, rfl, e2, e4, ra4.pure (steps_noL _)⟩
                | succ i => exact h3 i x r l hx hr hl
  cases r with
  | @lst a xs _ s e ra =>
    obtain ⟨ps, ls, rfl, h1, h2, h3⟩ := key ra
    exact ⟨ps, ls, e, h1, h2, _, e, by rw [ra.length, List.length_map], h2, h3⟩
theorem prg_dict {p : Prg} {ls : List Addr} (ok : PrgOk p) (hl : ls.length = p.length) : mergeK [] (gK (nmG p) ls) = gK (nmG p) ls := by
  have e := gK_keys (gv := nmG p) (ls := ls) (by unfold nmG; rw [List.length_map]; exact hl)
  refine mergeK_new (kvs := []) ?_
  rw [List.nil_append, e, nmG_names]
  exact List.Pairwise.map _ (fun a b h z => h (Sum.inr.inj z)) (rising_nodup ok.up).1
/-- what a helper's name leads to -/
theorem prg_at {H : Hp} {a : Addr} {p : Prg} {ls : List Addr} (ok : PrgOk p) (pa : PAt H a p ls) {x : Str} (hx : x ∈ p.map (·.1)) : ∃ (i : Nat) (l : Addr) (ys : List V) (r : Str × List Stp), p[i]? = some r ∧ r.1 = x ∧ r ∈ p ∧ p.rows x = r.2 ∧ ls[i]? = some l ∧ (p.findIdx? fun r => decide (r.1 = x)) = some i ∧ valV (gK (nmG p) ls) (Sum.inr x) = some (.ref l) ∧ H l = some (.lst ys) ∧ ImA H ys (r.2.map Stp.data) := by
  obtain ⟨xs, h1, h2, h3, h4⟩ := pa
  have nd := (rising_nodup ok.up).1
  rcases gv_cases (nmG p) ls x (by unfold nmG; rw [List.length_map]; exact h3) (by rw [nmG_names]; exact nd) with ⟨_, n⟩ | ⟨i, l, row, e1, e2, e3⟩
  · rw [nmG_names] at n
    exact absurd hx n
  · unfold nmG at e1
    rw [List.getElem?_map] at e1
    cases hr : p[i]? with
    | none => rw [hr] at e1; cases e1
    | some r =>
      rw [hr] at e1
      have ex : r.1 = x := congrArg Prod.fst (Option.some.inj e1)
      have hi := (List.getElem?_eq_some_iff.mp hr).1
      obtain ⟨T, ys, g1, g2, g3, g4⟩ := h4 i xs[i] r l (List.getElem?_eq_getElem (by omega)) hr e2
      have uniq : ∀ (j : Nat) (r' : Str × List Stp), j < i → p[j]? = some r' → r'.1 ≠ x := fun j r' hj hr' z => by
        have e5 : (p.map (·.1))[j]? = (p.map (·.1))[i]? := by rw [List.getElem?_map, List.getElem?_map, hr', hr]; show some r'.1 = some r.1; rw [z, ex]
        have := (List.getElem?_inj (by rw [List.length_map]; omega) nd).mp e5
        omega
      refine ⟨i, l, ys, r, hr, ex, List.mem_of_getElem? hr, ?_, e2, find_some hr ex uniq, e3, g3, g4⟩
      unfold Prg.rows
      have : (p.find? fun r => decide (r.1 = x)) = some r := by
        rw [List.find?_eq_some_iff_getElem]
        refine ⟨decide_eq_true ex, i, hi, (List.getElem?_eq_some_iff.mp hr).2, fun j hj => ?_⟩
        have := uniq j p[j] hj (List.getElem?_eq_getElem (by omega))
        simpa using this
      rw [this]
      rfl
theorem fit_of {ns : List Str} {bh : Int} {s : Stp} (h : s.ok ns bh) : s.fit := by
  cases s with
  | cell a b => exact h
  | give x a => exact h.2
  | fork x a => exact h.2.2
  | call x a => exact h.2.2
  | wait => trivial
  | skip a k => exact ⟨h.1, h.2.1⟩
theorem makes_in {ns : List Str} {bh : Int} {s : Stp} (h : s.ok ns bh) {g : Int} {cs : Cells} {o : Str × Int} (e : s.makes g cs = some o) : o.1 ∈ ns := by
  cases s with
  | fork x a => cases e; exact h.2.1
  | call x a => cases e; exact h.2.1
  | cell a b => cases e
  | give x a => cases e
  | wait => cases e
  | skip a k => cases e
/-! ### doings and records in the heap -/
def FrmIn (K : PySem.W.Frag) (H0 H : Hp) (a : Addr) (f : Frm) : Prop := ∃ (dx l : Addr) (pv : V) (ys : List V), H a = some (O_Frame K dx (.int (f.num : Nat)) pv (.ref l) (.int f.arg) (.int (f.at_ : Nat)) (.int (f.past : Nat)) (.int (f.born : Nat))) ∧ Im H pv (pathD f.path) ∧ H0 l = some (.lst ys) ∧ ImA H0 ys (f.rows.map Stp.data)
theorem FrmIn.keep {K : PySem.W.Frag} {M : List Addr} {H0 H H' : Hp} {a : Addr} {f : Frm} (h : FrmIn K H0 H a f) (c : Chg M H H') (h1 : a ∉ M) : FrmIn K H0 H' a f := by
  obtain ⟨dx, l, pv, ys, e1, e2, e3, e4⟩ := h
  exact ⟨dx, l, pv, ys, c.keep _ _ e1 h1, e2.im c, e3, e4⟩
theorem FrmIn.some {K : PySem.W.Frag} {H0 H : Hp} {a : Addr} {f : Frm} (h : FrmIn K H0 H a f) : H a ≠ none := by
  obtain ⟨dx, l, pv, ys, e1, _⟩ := h
  rw [e1]
  exact fun z => nomatch z
def RcdIn (K : PySem.W.Frag) (own : List Addr) (H : Hp) (a : Addr) (r : Rcd) : Prop := ∃ (dx rl wl : Addr) (mv : V), H a = some (O_Record K dx mv (.str r.word) (.int (r.doer : Nat)) (chV r.child) (.ref rl) (.ref wl)) ∧ Im H mv (markD r.path r.past) ∧ H rl = some (.lst (r.reads.map V.int)) ∧ H wl = some (.lst (r.writes.map V.int)) ∧ a ∉ own ∧ rl ∉ own ∧ wl ∉ own
theorem RcdIn.keep {K : PySem.W.Frag} {own M : List Addr} {H H' : Hp} {a : Addr} {r : Rcd} (h : RcdIn K own H a r) (c : Chg M H H') (hM : ∀ x ∈ M, x ∈ own ∨ H x = none) : RcdIn K own H' a r := by
  obtain ⟨dx, rl, wl, mv, e1, e2, e3, e4, e5, e6, e7⟩ := h
  have k : ∀ {x : Addr} {o : HO}, H x = Option.some o → x ∉ own → H' x = Option.some o := fun hx hn => c.keep _ _ hx fun m => by
    rcases hM _ m with h | h
    · exact hn h
    · rw [h] at hx; cases hx
  exact ⟨dx, rl, wl, mv, k e1 e5, e2.im c, k e3 e6, k e4 e7, e5, e6, e7⟩
theorem RcdIn.more {K : PySem.W.Frag} {own own' : List Addr} {H : Hp} {a : Addr} {r : Rcd} (h : RcdIn K own H a r) (hM : ∀ x ∈ own', x ∈ own ∨ H x = none) : RcdIn K own' H a r := by
  obtain ⟨dx, rl, wl, mv, e1, e2, e3, e4, e5, e6, e7⟩ := h
  have k : ∀ {x : Addr} {o : HO}, H x = Option.some o → x ∉ own → x ∉ own' := fun hx hn m => by
    rcases hM _ m with h | h
    · exact hn h
    · rw [h] at hx; cases hx
  exact ⟨dx, rl, wl, mv, e1, e2, e3, e4, k e1 e5, k e3 e6, k e4 e7⟩
end Fg
namespace Fg
open PySem PySem.Spec PyProof.Rows L2
/-! ### one hand's doing in the heap -/
abbrev ownL (St Rc hd gd : Addr) (gls fas : List Addr) : List Addr := St :: Rc :: hd :: gd :: (gls ++ fas)
structure TI (K : PySem.W.Frag) (H0 H : Hp) (p : Prg) (St Rc hd gd : Addr) (gls fas rcs : List Addr) (m : Mc) : Prop where
  c : Chg [] H0 H
  own : (ownL St Rc hd gd gls fas).Nodup
  new : ∀ x ∈ ownL St Rc hd gd gls fas, H0 x = none
  st : H St = some (.lst (fas.reverse.map V.ref))
  fl : fas.length = m.stack.length
  fr : ∀ (i : Nat) (fa : Addr) (f : Frm), fas[i]? = some fa → m.stack[i]? = some f → FrmIn K H0 H fa f ∧ f.path.length ≤ m.recs.length ∧ ∃ r ∈ p, f.rows = r.2
  rc : H Rc = some (.lst (rcs.map V.ref))
  rl : rcs.length = m.recs.length
  rs : ∀ (i : Nat) (ra : Addr) (r : Rcd), rcs[i]? = some ra → m.recs[i]? = some r → RcdIn K (ownL St Rc hd gd gls fas) H ra r
  hd : H hd = some (.dK (cK m.cells))
  gv : GvAt H gd m.given gls
  s1 : m.cells.length ≤ 10000 + m.recs.length
  s2 : m.given.length ≤ m.recs.length
  s3 : ∀ g ∈ m.given, g.2.length ≤ m.recs.length
  s4 : m.stack.length ≤ m.recs.length + 1
section
variable {K : PySem.W.Frag} {H0 H : Hp} {p : Prg} {St Rc hd gd : Addr} {gls fas rcs : List Addr} {m : Mc}
theorem own_ne {xs : List Addr} {x y : Addr} (nd : (x :: xs).Nodup) (h : y ∈ xs) : y ≠ x := fun e => (List.nodup_cons.mp nd).1 (by rw [← e]; exact h)
theorem TI.nSt (t : TI K H0 H p St Rc hd gd gls fas rcs m) : Rc ≠ St ∧ hd ≠ St ∧ gd ≠ St ∧ (∀ l ∈ gls, l ≠ St) ∧ ∀ f ∈ fas, f ≠ St :=
  ⟨own_ne t.own (by simp), own_ne t.own (by simp), own_ne t.own (by simp), fun l h => own_ne t.own (by simp [h]), fun f h => own_ne t.own (by simp [h])⟩
theorem TI.nRc (t : TI K H0 H p St Rc hd gd gls fas rcs m) : hd ≠ Rc ∧ gd ≠ Rc ∧ (∀ l ∈ gls, l ≠ Rc) ∧ ∀ f ∈ fas, f ≠ Rc :=
  have n := (List.nodup_cons.mp t.own).2
  ⟨own_ne n (by simp), own_ne n (by simp), fun l h => own_ne n (by simp [h]), fun f h => own_ne n (by simp [h])⟩
theorem TI.nHd (t : TI K H0 H p St Rc hd gd gls fas rcs m) : gd ≠ hd ∧ (∀ l ∈ gls, l ≠ hd) ∧ ∀ f ∈ fas, f ≠ hd :=
  have n := (List.nodup_cons.mp (List.nodup_cons.mp t.own).2).2
  ⟨own_ne n (by simp), fun l h => own_ne n (by simp [h]), fun f h => own_ne n (by simp [h])⟩
theorem TI.nGd (t : TI K H0 H p St Rc hd gd gls fas rcs m) : (∀ l ∈ gls, l ≠ gd) ∧ ∀ f ∈ fas, f ≠ gd :=
  have n := (List.nodup_cons.mp (List.nodup_cons.mp (List.nodup_cons.mp t.own).2).2).2
  ⟨fun l h => own_ne n (by simp [h]), fun f h => own_ne n (by simp [h])⟩
theorem TI.nGf (t : TI K H0 H p St Rc hd gd gls fas rcs m) : (gls ++ fas).Nodup := (List.nodup_cons.mp (List.nodup_cons.mp (List.nodup_cons.mp (List.nodup_cons.mp t.own).2).2).2).2
theorem TI.some (t : TI K H0 H p St Rc hd gd gls fas rcs m) : ∀ x ∈ ownL St Rc hd gd gls fas, H x ≠ none := by
  intro x hx
  simp only [List.mem_cons, List.mem_append] at hx
  rcases hx with rfl | rfl | rfl | rfl | hx | hx
  · rw [t.st]; exact fun z => nomatch z
  · rw [t.rc]; exact fun z => nomatch z
  · rw [t.hd]; exact fun z => nomatch z
  · rw [t.gv.dict]; exact fun z => nomatch z
  · obtain ⟨i, hi⟩ := List.getElem?_of_mem hx
    have hg : i < m.given.length := by rw [← t.gv.len]; exact (List.getElem?_eq_some_iff.mp hi).1
    rw [t.gv.rows i _ x (List.getElem?_eq_getElem hg) hi]
    exact fun z => nomatch z
  · obtain ⟨i, hi⟩ := List.getElem?_of_mem hx
    have hf : i < m.stack.length := by rw [← t.fl]; exact (List.getElem?_eq_some_iff.mp hi).1
    exact (t.fr i x _ hi (List.getElem?_eq_getElem hf)).1.some
/-- only new things -/
theorem TI.same {H' : Hp} (t : TI K H0 H p St Rc hd gd gls fas rcs m) (c : Chg [] H H') : TI K H0 H' p St Rc hd gd gls fas rcs m :=
  ⟨t.c.same c, t.own, t.new, c.at t.st, t.fl, fun i fa f h1 h2 => ⟨(t.fr i fa f h1 h2).1.keep c (by simp), (t.fr i fa f h1 h2).2⟩, c.at t.rc, t.rl, fun i ra r h1 h2 => (t.rs i ra r h1 h2).keep c (by simp), c.at t.hd, t.gv.same c, t.s1, t.s2, t.s3, t.s4⟩
/-- the topmost doing is over -/
theorem TI.pop {H' : Hp} {fa : Addr} {f : Frm} {r : List Frm} (t : TI K H0 H p St Rc hd gd gls (fa :: fas) rcs m) (hs : m.stack = f :: r) (c : Chg [St] H H') (h : H' St = Option.some (.lst (fas.reverse.map V.ref))) : TI K H0 H' p St Rc hd gd gls fas rcs { m with stack := r } := by
  obtain ⟨n1, n2, n3, n4, n5⟩ := t.nSt
  have sub : ∀ x ∈ ownL St Rc hd gd gls fas, x ∈ ownL St Rc hd gd gls (fa :: fas) := fun x hx => by
    simp only [List.mem_cons, List.mem_append] at hx ⊢
    rcases hx with h | h | h | h | h | h <;> simp [h]
  have sl : (ownL St Rc hd gd gls fas).Sublist (ownL St Rc hd gd gls (fa :: fas)) := by
    refine .cons₂ _ (.cons₂ _ (.cons₂ _ (.cons₂ _ ?_)))
    exact List.Sublist.append (List.Sublist.refl _) (List.sublist_cons_self _ _)
  refine ⟨t.c.one c (t.new _ (by simp)), t.own.sublist sl, fun x hx => t.new x (sub x hx), h, ?_, fun i a g h1 h2 => ?_, c.at1 t.rc n1, t.rl, fun i ra r' h1 h2 => ?_, c.at1 t.hd n2, t.gv.keep c (by simpa using n3) fun l hl => by simpa using n4 l hl, t.s1, t.s2, t.s3, ?_⟩
  · have := t.fl
    rw [hs, List.length_cons, List.length_cons] at this
    show fas.length = r.length
    omega
  · have := t.fr (i + 1) a g h1 (by rw [hs]; exact h2)
    exact ⟨this.1.keep c (by simpa using n5 a (List.mem_cons_of_mem _ (List.mem_of_getElem? h1))), this.2⟩
  · exact ((t.rs i ra r' h1 h2).keep c fun x hx => .inl (by rw [List.mem_singleton.mp hx]; simp)).more fun x hx => .inl (sub x hx)
  · have := t.s4
    rw [hs, List.length_cons] at this
    show r.length ≤ m.recs.length + 1
    omega
def Mc.half (m : Mc) (f : Frm) (r : List Frm) (s : Stp) : Mc := { stack := f.next s m.cells :: r, cells := s.puts f.arg m.cells, given := s.gives f.arg m.cells m.given, recs := m.recs ++ [f.rcd s m.cells], deep := m.deep, many := m.many }
theorem puts_len (s : Stp) (g : Int) (cs : Cells) : (s.puts g cs).length ≤ cs.length + 1 := by
  cases s with
  | cell a b => exact cPut_len _ _ _
  | _ => exact Nat.le_succ _
theorem gives_len (s : Stp) (g : Int) (cs : Cells) (gv : Given) : (s.gives g cs gv).length ≤ gv.length + 1 := by
  cases s with
  | give x a => exact gAdd_len _ _ _
  | _ => exact Nat.le_succ _
theorem gives_row (s : Stp) (g : Int) (cs : Cells) (gv : Given) (n : Nat) (h : ∀ x ∈ gv, x.2.length ≤ n) : ∀ x ∈ s.gives g cs gv, x.2.length ≤ n + 1 := by
  have base : ∀ x ∈ gv, x.2.length ≤ n + 1 := fun x hx => Nat.le_succ_of_le (h x hx)
  cases s with
  | give y a =>
    intro x hx
    have hx : x ∈ gAdd gv y (a.worth g cs) := hx
    unfold gAdd at hx
    split at hx
    · obtain ⟨z, hz, rfl⟩ := List.mem_map.mp hx
      have := h z hz
      split
      · show (z.2 ++ [_]).length ≤ n + 1
        rw [List.length_append, List.length_singleton]
        omega
      · omega
    · rcases List.mem_append.mp hx with hx | hx
      · exact base x hx
      · rw [List.mem_singleton.mp hx]
        show 1 ≤ n + 1
        omega
  | _ => exact base
/-- a step was done, its record put to the others -/
theorem TI.half {H1 H2 : Hp} {fa rc : Addr} {f : Frm} {r : List Frm} {s : Stp} {gls' : List Addr} (t : TI K H0 H p St Rc hd gd gls (fa :: fas) rcs m) (hs : m.stack = f :: r) (c1 : Chg (fa :: hd :: gd :: gls) H H1)
    (hf : FrmIn K H0 H1 fa (f.next s m.cells)) (h1 : H1 hd = Option.some (.dK (cK (s.puts f.arg m.cells)))) (g1 : GvAt H1 gd (s.gives f.arg m.cells m.given) gls') (gl : ∀ l ∈ gls', l ∈ gls ∨ H l = none) (rn : RcdNew K H gls' H1 rc (f.rcd s m.cells))
    (c2 : Chg [Rc] H1 H2) (h2 : H2 Rc = Option.some (.lst ((rcs ++ [rc]).map V.ref))) : TI K H0 H2 p St Rc hd gd gls' (fa :: fas) (rcs ++ [rc]) (m.half f r s) := by
  obtain ⟨n1, n2, n3, n4, n5⟩ := t.nSt
  obtain ⟨o1, o2, o3, o4⟩ := t.nRc
  obtain ⟨q1, q2, q3⟩ := t.nHd
  obtain ⟨u1, u2⟩ := t.nGd
  have live := t.some
  obtain ⟨dx, rl, wl, mv, e1, e2, e3, e4, e5, e6, e7, e8, e9⟩ := rn
  have c12 : Chg (Rc :: fa :: hd :: gd :: gls) H H2 := (c1.wide fun x hx => List.mem_cons_of_mem _ hx).go c2 fun a ha => .inl (by rw [List.mem_singleton.mp ha]; simp)
  have sub : ∀ x ∈ Rc :: fa :: hd :: gd :: gls, x ∈ ownL St Rc hd gd gls (fa :: fas) := fun x hx => by
    simp only [List.mem_cons, List.mem_append] at hx ⊢
    rcases hx with h | h | h | h | h <;> simp [h]
  have ownN : ∀ x ∈ ownL St Rc hd gd gls' (fa :: fas), x ∈ ownL St Rc hd gd gls (fa :: fas) ∨ H x = none := fun x hx => by
    simp only [List.mem_cons, List.mem_append] at hx ⊢
    rcases hx with h | h | h | h | h | h | h
    · exact .inl (by simp [h])
    · exact .inl (by simp [h])
    · exact .inl (by simp [h])
    · exact .inl (by simp [h])
    · rcases gl x h with h' | h'
      · exact .inl (by simp [h'])
      · exact .inr h'
    · exact .inl (by simp [h])
    · exact .inl (by simp [h])
  have nf : ∀ x ∈ fa :: fas, x ∉ gls' := fun x hx hm => by
    rcases gl x hm with h' | h'
    · have := t.nGf
      exact (List.nodup_append.mp this).2.2 x h' x hx rfl
    · exact live x (by simp only [List.mem_cons, List.mem_append] at hx ⊢; rcases hx with h | h <;> simp [h]) h'
  have glN : ∀ x, x ∈ ownL St Rc hd gd [] (fa :: fas) → x ∉ gls' := fun x hx hm => by
    rcases gl x hm with h' | h'
    · simp only [List.mem_cons, List.mem_append, List.not_mem_nil, false_or] at hx
      rcases hx with rfl | rfl | rfl | rfl | rfl | hx
      · exact n4 _ h' rfl
      · exact o3 _ h' rfl
      · exact q2 _ h' rfl
      · exact u1 _ h' rfl
      · exact nf _ (by simp) hm
      · exact nf _ (by simp [hx]) hm
    · refine live x ?_ h'
      simp only [List.mem_cons, List.mem_append, List.not_mem_nil, false_or] at hx ⊢
      rcases hx with h | h | h | h | h | h <;> simp [h]
  have own' : (ownL St Rc hd gd gls' (fa :: fas)).Nodup := by
    have b := t.own
    have b4 := (List.nodup_cons.mp (List.nodup_cons.mp (List.nodup_cons.mp (List.nodup_cons.mp b).2).2).2).2
    have fn : (fa :: fas).Nodup := (List.nodup_append.mp b4).2.1
    have gf : (gls' ++ (fa :: fas)).Nodup := List.nodup_append.mpr ⟨g1.nd, fn, fun x hx y hy e => nf y hy (by rw [← e]; exact hx)⟩
    have nm : ∀ x, x ∈ [St, Rc, hd, gd] → x ∉ gls' ++ (fa :: fas) := fun x hx hm => by
      rcases List.mem_append.mp hm with hm | hm
      · exact glN x (by simp only [List.mem_cons, List.not_mem_nil, or_false] at hx ⊢; rcases hx with h | h | h | h <;> simp [h]) hm
      · simp only [List.mem_cons, List.not_mem_nil, or_false] at hx
        rcases hx with rfl | rfl | rfl | rfl
        · exact n5 _ hm rfl
        · exact o4 _ hm rfl
        · exact q3 _ hm rfl
        · exact u2 _ hm rfl
    refine List.nodup_cons.mpr ⟨?_, List.nodup_cons.mpr ⟨?_, List.nodup_cons.mpr ⟨?_, List.nodup_cons.mpr ⟨nm gd (by simp), gf⟩⟩⟩⟩
    · intro h
      simp only [List.mem_cons] at h
      rcases h with h | h | h | h
      · exact n1 h.symm
      · exact n2 h.symm
      · exact n3 h.symm
      · exact nm St (by simp) h
    · intro h
      simp only [List.mem_cons] at h
      rcases h with h | h | h
      · exact o1 h.symm
      · exact o2 h.symm
      · exact nm Rc (by simp) h
    · intro h
      simp only [List.mem_cons] at h
      rcases h with h | h
      · exact q1 h.symm
      · exact nm hd (by simp) h
  have rcN : ∀ x, x ∈ ownL St Rc hd gd [] (fa :: fas) → H x ≠ none := fun x hx => live x (by
    simp only [List.mem_cons, List.mem_append, List.not_mem_nil, false_or] at hx ⊢
    rcases hx with h | h | h | h | h | h <;> simp [h])
  have notOwn : ∀ x, H x = none → x ∉ gls' → x ∉ ownL St Rc hd gd gls' (fa :: fas) := fun x hx hg hm => by
    simp only [List.mem_cons, List.mem_append] at hm
    rcases hm with h | h | h | h | h | h | h
    · exact rcN x (by simp [h]) hx
    · exact rcN x (by simp [h]) hx
    · exact rcN x (by simp [h]) hx
    · exact rcN x (by simp [h]) hx
    · exact hg h
    · exact rcN x (by simp [h]) hx
    · exact rcN x (by simp [h]) hx
  have rcg : rc ∉ gls' := fun hm => by
    obtain ⟨i, hi⟩ := List.getElem?_of_mem hm
    have hg : i < (s.gives f.arg m.cells m.given).length := by rw [← g1.len]; exact (List.getElem?_eq_some_iff.mp hi).1
    have := g1.rows i _ rc (List.getElem?_eq_getElem hg) hi
    rw [e1] at this
    exact nomatch this
  have rne : ∀ {x : Addr}, x ∉ ownL St Rc hd gd gls' (fa :: fas) → x ≠ Rc := fun hn e => hn (by rw [e]; simp)
  have k1 := notOwn rc e5 rcg
  have k2 := notOwn rl e6 e8
  have k3 := notOwn wl e7 e9
  have lh : (m.half f r s).recs.length = m.recs.length + 1 := by
    show (m.recs ++ [_]).length = _
    rw [List.length_append, List.length_singleton]
  refine ⟨?_, own', fun x hx => ?_, ?_, ?_, fun i a g hi hg => ?_, h2, ?_, fun i ra r' hi hr => ?_, c2.at1 h1 o1, g1.keep c2 (by simpa using o2) (fun l hl => by simpa using (fun e : l = Rc => glN Rc (by simp) (by rw [← e]; exact hl))), ?_, ?_, ?_, ?_⟩
  · exact t.c.go c12 fun x hx => .inr (t.new x (sub x hx))
  · rcases ownN x hx with h | h
    · exact t.new x h
    · exact t.c.dom x h
  · refine c12.keep _ _ t.st fun hm => ?_
    simp only [List.mem_cons] at hm
    rcases hm with h | h | h | h | h
    · exact n1 h.symm
    · exact n5 _ (by simp) h.symm
    · exact n2 h.symm
    · exact n3 h.symm
    · exact n4 _ h rfl
  · have := t.fl
    rw [hs] at this
    exact this
  · cases i with
    | zero =>
      cases (Option.some.inj (show Option.some fa = Option.some a from hi))
      cases (Option.some.inj (show Option.some (f.next s m.cells) = Option.some g from hg))
      have old := t.fr 0 fa f rfl (by rw [hs]; rfl)
      exact ⟨hf.keep c2 (by simpa using o4 fa (by simp)), by rw [lh]; exact Nat.le_succ_of_le old.2.1, old.2.2⟩
    | succ i =>
      have old := t.fr (i + 1) a g hi (by rw [hs]; exact hg)
      refine ⟨old.1.keep c12 fun hm => ?_, by rw [lh]; exact Nat.le_succ_of_le old.2.1, old.2.2⟩
      have ha : a ∈ fas := List.mem_of_getElem? hi
      simp only [List.mem_cons] at hm
      rcases hm with h | h | h | h | h
      · exact o4 a (by simp [ha]) h
      · have := (List.nodup_append.mp t.nGf).2.1
        exact (List.nodup_cons.mp this).1 (by rw [← h]; exact ha)
      · exact q3 a (by simp [ha]) h
      · exact u2 a (by simp [ha]) h
      · exact (List.nodup_append.mp t.nGf).2.2 a h a (by simp [ha]) rfl
  · rw [lh, List.length_append, List.length_singleton, t.rl]
  · by_cases hj : i < rcs.length
    · rw [List.getElem?_append_left hj] at hi
      have hr' : m.recs[i]? = Option.some r' := by
        have hr2 : (m.recs ++ [f.rcd s m.cells])[i]? = Option.some r' := hr
        rw [List.getElem?_append_left (by rw [← t.rl]; exact hj)] at hr2
        exact hr2
      have old := t.rs i ra r' hi hr'
      have old1 : RcdIn K (ownL St Rc hd gd gls (fa :: fas) ++ gls') H ra r' := old.more fun x hx => by
        rcases List.mem_append.mp hx with hx | hx
        · exact .inl hx
        · rcases gl x hx with h | h
          · exact .inl (by simp [h])
          · exact .inr h
      refine (old1.keep c12 fun x hx => .inl (List.mem_append_left _ (sub x hx))).more fun x hx => .inl ?_
      simp only [List.mem_cons, List.mem_append] at hx ⊢
      rcases hx with h | h | h | h | h | h | h <;> simp [h]
    · have hj2 : i = rcs.length := by
        have := (List.getElem?_eq_some_iff.mp hi).1
        rw [List.length_append, List.length_singleton] at this
        omega
      subst hj2
      rw [List.getElem?_append_right (Nat.le_refl _), Nat.sub_self] at hi
      have hr2 : (m.recs ++ [f.rcd s m.cells])[rcs.length]? = Option.some r' := hr
      rw [t.rl, List.getElem?_append_right (Nat.le_refl _), Nat.sub_self] at hr2
      cases (Option.some.inj (show Option.some rc = Option.some ra from hi))
      cases (Option.some.inj (show Option.some (f.rcd s m.cells) = Option.some r' from hr2))
      exact ⟨dx, rl, wl, mv, c2.at1 e1 (rne k1), e2.im c2, c2.at1 e3 (rne k2), c2.at1 e4 (rne k3), k1, k2, k3⟩
  · have := puts_len s f.arg m.cells
    have := t.s1
    rw [lh]
    show (s.puts f.arg m.cells).length ≤ _
    omega
  · have := gives_len s f.arg m.cells m.given
    have := t.s2
    rw [lh]
    show (s.gives f.arg m.cells m.given).length ≤ _
    omega
  · rw [lh]
    exact gives_row s f.arg m.cells m.given _ t.s3
  · have := t.s4
    rw [hs, List.length_cons] at this
    rw [lh]
    show r.length + 1 ≤ _
    omega
end
end Fg
namespace Fg
open PySem PySem.Spec PyProof.Rows L2
section
variable {K : PySem.W.Frag} {H0 H : Hp} {p : Prg} {St Rc hd gd : Addr} {gls fas rcs : List Addr} {m : Mc}
/-- the last record has a child -/
theorem TI.child {H' : Hp} {rc dx rl wl : Addr} {mv : V} {c c' : Rcd} {rs0 : List Rcd} (t : TI K H0 H p St Rc hd gd gls fas (rcs ++ [rc]) m) (hr : m.recs = rs0 ++ [c]) (ch : Chg [rc] H H') (n0 : H0 rc = none)
    (e : H rc = Option.some (O_Record K dx mv (.str c.word) (.int (c.doer : Nat)) (chV c.child) (.ref rl) (.ref wl))) (e' : H' rc = Option.some (O_Record K dx mv (.str c'.word) (.int (c'.doer : Nat)) (chV c'.child) (.ref rl) (.ref wl)))
    (hc : c'.path = c.path ∧ c'.past = c.past ∧ c'.reads = c.reads ∧ c'.writes = c.writes) (nr : rc ∉ rcs) : TI K H0 H' p St Rc hd gd gls fas (rcs ++ [rc]) { m with recs := rs0 ++ [c'] } := by
  have lr : (rs0 ++ [c']).length = m.recs.length := by rw [hr, List.length_append, List.length_append]; rfl
  have l0 : rcs.length = rs0.length := by
    have := t.rl
    rw [hr, List.length_append, List.length_append, List.length_singleton, List.length_singleton] at this
    omega
  have last := t.rs rcs.length rc c (by rw [List.getElem?_append_right (Nat.le_refl _), Nat.sub_self]; rfl) (by rw [hr, l0, List.getElem?_append_right (Nat.le_refl _), Nat.sub_self]; rfl)
  obtain ⟨dx', rl', wl', mv', f1, f2, f3, f4, f5, f6, f7⟩ := last
  rw [e] at f1
  cases (Option.some.inj f1)
  have ne : ∀ x ∈ ownL St Rc hd gd gls fas, x ≠ rc := fun x hx z => f5 (by rw [← z]; exact hx)
  have nrl : rl ≠ rc := fun z => by rw [z, e] at f3; exact nomatch f3
  have nwl : wl ≠ rc := fun z => by rw [z, e] at f4; exact nomatch f4
  refine ⟨t.c.one ch n0, t.own, t.new, ch.at1 t.st (ne _ (by simp)), t.fl, fun i fa f h1 h2 => ?_, ch.at1 t.rc (ne _ (by simp)), by rw [t.rl]; exact lr.symm, fun i ra r h1 h2 => ?_, ch.at1 t.hd (ne _ (by simp)), t.gv.keep ch (by simpa using ne gd (by simp)) (fun l hl => by simpa using ne l (by simp [hl])), ?_, ?_, ?_, ?_⟩
  · have old := t.fr i fa f h1 h2
    exact ⟨old.1.keep ch (by simpa using ne fa (by simp [List.mem_of_getElem? h1])), by show f.path.length ≤ (rs0 ++ [c']).length; rw [lr]; exact old.2.1, old.2.2⟩
  · by_cases hj : i < rcs.length
    · have h1' := h1
      rw [List.getElem?_append_left hj] at h1'
      have h2' : (rs0 ++ [c'])[i]? = Option.some r := h2
      rw [List.getElem?_append_left (by omega)] at h2'
      obtain ⟨dx2, rl2, wl2, mv2, g1, g2, g3, g4, g5, g6, g7⟩ := t.rs i ra r h1 (by rw [hr, List.getElem?_append_left (by omega)]; exact h2')
      have nra : ra ≠ rc := fun z => nr (by rw [← z]; exact List.mem_of_getElem? h1')
      exact ⟨dx2, rl2, wl2, mv2, ch.at1 g1 nra, g2.im ch, ch.at1 g3 (fun z => by rw [z, e] at g3; exact nomatch g3), ch.at1 g4 (fun z => by rw [z, e] at g4; exact nomatch g4), g5, g6, g7⟩
    · have hj2 : i = rcs.length := by
        have := (List.getElem?_eq_some_iff.mp h1).1
        rw [List.length_append, List.length_singleton] at this
        omega
      subst hj2
      rw [List.getElem?_append_right (Nat.le_refl _), Nat.sub_self] at h1
      have h2' : (rs0 ++ [c'])[rcs.length]? = Option.some r := h2
      rw [l0, List.getElem?_append_right (Nat.le_refl _), Nat.sub_self] at h2'
      cases (Option.some.inj (show Option.some rc = Option.some ra from h1))
      cases (Option.some.inj (show Option.some c' = Option.some r from h2'))
      refine ⟨dx, rl, wl, mv, e', ?_, ?_, ?_, f5, f6, f7⟩
      · rw [hc.1, hc.2.1]
        exact f2.im ch
      · rw [hc.2.2.1]
        exact ch.at1 f3 nrl
      · rw [hc.2.2.2]
        exact ch.at1 f4 nwl
  · show m.cells.length ≤ 10000 + (rs0 ++ [c']).length
    rw [lr]; exact t.s1
  · show m.given.length ≤ (rs0 ++ [c']).length
    rw [lr]; exact t.s2
  · show ∀ g ∈ m.given, g.2.length ≤ (rs0 ++ [c']).length
    rw [lr]; exact t.s3
  · show m.stack.length ≤ (rs0 ++ [c']).length + 1
    rw [lr]; exact t.s4
/-- a new doing on top -/
theorem TI.push {H1 H' : Hp} {nf : Addr} {f : Frm} (t : TI K H0 H p St Rc hd gd gls fas rcs m) (c1 : Chg [] H H1) (nn : H nf = none) (hf : FrmIn K H0 H1 nf f) (hp : f.path.length ≤ m.recs.length) (hr : ∃ r ∈ p, f.rows = r.2) (c2 : Chg [St] H1 H') (h : H' St = Option.some (.lst (fas.reverse.map V.ref ++ [.ref nf]))) (s4 : m.stack.length + 1 ≤ m.recs.length + 1) :
    TI K H0 H' p St Rc hd gd gls (nf :: fas) rcs { m with stack := f :: m.stack } := by
  have live := t.some
  have t1 := t.same c1
  obtain ⟨n1, n2, n3, n4, n5⟩ := t.nSt
  have ne : ∀ x ∈ ownL St Rc hd gd gls fas, x ≠ nf := fun x hx z => live x hx (by rw [z]; exact nn)
  have own' : (ownL St Rc hd gd gls (nf :: fas)).Perm (nf :: ownL St Rc hd gd gls fas) := by
    have e : gls ++ nf :: fas = gls ++ ([nf] ++ fas) := rfl
    show (St :: Rc :: hd :: gd :: (gls ++ nf :: fas)).Perm _
    have p1 : (gls ++ nf :: fas).Perm (nf :: (gls ++ fas)) := List.perm_middle
    have p2 := (((p1.cons gd).cons hd).cons Rc).cons St
    refine p2.trans ?_
    have q1 : (gd :: nf :: (gls ++ fas)).Perm (nf :: gd :: (gls ++ fas)) := List.Perm.swap _ _ _
    have q2 : (hd :: nf :: gd :: (gls ++ fas)).Perm (nf :: hd :: gd :: (gls ++ fas)) := List.Perm.swap _ _ _
    have q3 : (Rc :: nf :: hd :: gd :: (gls ++ fas)).Perm (nf :: Rc :: hd :: gd :: (gls ++ fas)) := List.Perm.swap _ _ _
    have q4 : (St :: nf :: Rc :: hd :: gd :: (gls ++ fas)).Perm (nf :: St :: Rc :: hd :: gd :: (gls ++ fas)) := List.Perm.swap _ _ _
    exact ((((q1.cons hd).trans q2).cons Rc).trans q3).cons St |>.trans q4
  have nst : nf ≠ St := fun z => ne St (by simp) z.symm
  refine ⟨t1.c.one c2 (t.new _ (by simp)), own'.nodup_iff.mpr (List.nodup_cons.mpr ⟨fun hm => ne nf hm rfl, t.own⟩), fun x hx => ?_, by rw [List.reverse_cons, List.map_append]; exact h, by rw [List.length_cons, t.fl]; rfl, fun i fa g h1 h2 => ?_, c2.at1 t1.rc n1, t.rl, fun i ra r h1 h2 => ?_, c2.at1 t1.hd n2, t1.gv.keep c2 (by simpa using n3) (fun l hl => by simpa using n4 l hl), t.s1, t.s2, t.s3, s4⟩
  · rcases List.mem_cons.mp (own'.mem_iff.mp hx) with rfl | hx
    · exact t.c.dom _ nn
    · exact t.new x hx
  · cases i with
    | zero =>
      cases (Option.some.inj (show Option.some nf = Option.some fa from h1))
      cases (Option.some.inj (show Option.some f = Option.some g from h2))
      exact ⟨hf.keep c2 (by simpa using nst), hp, hr⟩
    | succ i =>
      have old := t1.fr i fa g h1 h2
      exact ⟨old.1.keep c2 (by simpa using n5 fa (List.mem_of_getElem? h1)), old.2⟩
  · have old := (t.rs i ra r h1 h2).more (own' := ownL St Rc hd gd gls (nf :: fas)) fun x hx => by
      rcases List.mem_cons.mp (own'.mem_iff.mp hx) with rfl | hx
      · exact .inr nn
      · exact .inl hx
    exact (old.keep c1 (by simp)).keep c2 fun x hx => .inl (by rw [List.mem_singleton.mp hx]; simp)
/-- the second doing is another one at the same place -/
theorem TI.second {H' : Hp} {nf fa : Addr} {f0 f f2 : Frm} {r : List Frm} (t : TI K H0 H p St Rc hd gd gls (nf :: fa :: fas) rcs m) (hs : m.stack = f0 :: f :: r) (c : Chg [fa] H H') (hf : FrmIn K H0 H' fa f2) (e1 : f2.path = f.path) (e2 : f2.rows = f.rows) :
    TI K H0 H' p St Rc hd gd gls (nf :: fa :: fas) rcs { m with stack := f0 :: f2 :: r } := by
  obtain ⟨n1, n2, n3, n4, n5⟩ := t.nSt
  obtain ⟨o1, o2, o3, o4⟩ := t.nRc
  obtain ⟨q1, q2, q3⟩ := t.nHd
  obtain ⟨u1, u2⟩ := t.nGd
  have m1 : fa ∈ nf :: fa :: fas := by simp
  have gf := t.nGf
  have fn : (nf :: fa :: fas).Nodup := (List.nodup_append.mp gf).2.1
  refine ⟨t.c.one c (t.new _ (by simp)), t.own, t.new, c.at1 t.st (Ne.symm (n5 fa m1)), ?_, fun i a g h1 h2 => ?_, c.at1 t.rc (Ne.symm (o4 fa m1)), t.rl, fun i ra r' h1 h2 => (t.rs i ra r' h1 h2).keep c fun x hx => .inl (by rw [List.mem_singleton.mp hx]; simp), c.at1 t.hd (Ne.symm (q3 fa m1)), t.gv.keep c (by simpa using Ne.symm (u2 fa m1)) (fun l hl => by simpa using (fun e : l = fa => (List.nodup_append.mp gf).2.2 l hl fa m1 e)), t.s1, t.s2, t.s3, ?_⟩
  · have := t.fl
    rw [hs] at this
    exact this
  · match i with
    | 0 =>
      cases (Option.some.inj (show Option.some nf = Option.some a from h1))
      cases (Option.some.inj (show Option.some f0 = Option.some g from h2))
      have old := t.fr 0 nf f0 rfl (by rw [hs]; rfl)
      exact ⟨old.1.keep c (by simpa using fun e : nf = fa => (List.nodup_cons.mp fn).1 (by rw [e]; simp)), old.2⟩
    | 1 =>
      cases (Option.some.inj (show Option.some fa = Option.some a from h1))
      cases (Option.some.inj (show Option.some f2 = Option.some g from h2))
      have old := t.fr 1 fa f rfl (by rw [hs]; rfl)
      exact ⟨hf, by rw [e1]; exact old.2.1, by rw [e2]; exact old.2.2⟩
    | i + 2 =>
      have old := t.fr (i + 2) a g h1 (by rw [hs]; exact h2)
      refine ⟨old.1.keep c ?_, old.2⟩
      have ha : a ∈ fas := List.mem_of_getElem? (show fas[i]? = Option.some a from h1)
      simpa using fun e : a = fa => (List.nodup_cons.mp (List.nodup_cons.mp fn).2).1 (by rw [← e]; exact ha)
  · have := t.s4
    rw [hs] at this
    exact this
end
end Fg
--LAW k05
namespace Fg
open PySem PySem.Spec PyProof.Rows L2
/-! ### the walk's small steps -/
local macro_rules | `(tactic| walk_at "hp") => `(tactic| first
  | assumption
  | exact upd_same
  | (refine Chg.at (by assumption) ?_; walk_at "hp")
  | (refine Chg.at1 (by assumption) ?_ (by walk_at "ne"); walk_at "hp"))
local macro_rules | `(tactic| walk_at "ne") => `(tactic| first | assumption | (apply Ne.symm; assumption))
local macro_rules | `(tactic| walk_at "sq") => `(tactic| first | assumption | exact sqL (by walk_at "hp") | (refine Chg.seq (by assumption) ?_; walk_at "sq"))
local macro_rules | `(tactic| walk_at "sz") => `(tactic| first | assumption | exact Nat.zero_le _ | (simp only [List.length_cons, List.length_nil]; decide) | exact Nat.le_trans (by first | omega | (simp; done) | (simp; omega)) (show 100000 ≤ sizeLine by decide) | exact Nat.lt_of_lt_of_le (by first | omega | (simp; done) | (simp; omega)) (show 100000 ≤ sizeLine by decide))
local macro_rules | `(tactic| walk_at "ix") => `(tactic| first | exact at0 | exact at1 | exact at2 | exact at3 | assumption | exact rfl | walk_at "ix2")
local macro_rules | `(tactic| walk_at "ix2") => `(tactic| fail)
local macro_rules | `(tactic| walk_at "num") => `(tactic| first | assumption | omega | decide | walk_at "num2")
local macro_rules | `(tactic| walk_at "num2") => `(tactic| fail)
local macro_rules | `(tactic| walk_at "im") => `(tactic| first | assumption | exact R.non (S := fun _ => False) | exact R.bl (S := fun _ => False) _ | exact R.int (S := fun _ => False) _ | exact R.str (S := fun _ => False) _ | (refine R.im (by assumption) ?_; walk_at "im"))
local macro_rules | `(tactic| walk_at "r") => `(tactic| first | assumption | exact R.non (S := fun _ => False) | exact R.bl (S := fun _ => False) _ | exact R.int (S := fun _ => False) _ | exact R.str (S := fun _ => False) _ | (refine R.same (by assumption) ?_; walk_at "r") | exact R.any (by walk_at "im"))
local macro_rules | `(tactic| walk_at "chg") => `(tactic| first
  | exact Chg.refl
  | assumption
  | (refine Chg.same ?_ (by assumption); walk_at "chg")
  | (refine Chg.both ?_ (by assumption); walk_at "chg")
  | (refine Chg.pre (by assumption) ?_; walk_at "chg"))
local macro_rules | `(tactic| walk_at "w1") => `(tactic| first
  | with_reducible apply w_seq
  | with_reducible apply w_asg
  | ((with_reducible apply w_var); (focus (exact rfl)))
  | with_reducible apply w_c
  | with_reducible apply w_op
  | with_reducible apply w_cons
  | with_reducible apply w_nil
  | with_reducible apply w_gName
  | with_reducible apply w_if
  | with_reducible apply w_test
  | with_reducible apply w_B
  | with_reducible apply w_isbl
  | with_reducible apply w_retN
  | with_reducible apply w_next
  | with_reducible apply w_drop
  | with_reducible apply w_cb
  | with_reducible apply w_call
  | with_reducible apply w_callN
  | with_reducible apply w_bm
  | with_reducible apply w_bm0
  | ((with_reducible apply w_tyL); (focus (walk_at "hp"; done)))
  | with_reducible apply w_dput
  | with_reducible apply w_m1
  | with_reducible apply w_isstr
  | with_reducible apply w_and
  | with_reducible apply w_or
  | with_reducible apply w_not
  | with_reducible apply w_andV
  | with_reducible apply w_orV
  | with_reducible apply w_notV
  | with_reducible apply w_ifE
  | with_reducible apply w_chain
  | with_reducible apply w_un
  | with_reducible apply w_neg
  | with_reducible apply w_add
  | with_reducible apply w_sub
  | ((with_reducible apply w_mod); (focus (walk_at "num"; done)))
  | ((with_reducible apply w_mul); (focus (walk_at "num"; done)))
  | ((with_reducible apply w_fdiv); (focus (walk_at "num"; done)))
  | ((with_reducible apply w_pow); (focus (walk_at "num"; done)))
  | with_reducible apply w_lt
  | with_reducible apply w_le
  | with_reducible apply w_gt
  | with_reducible apply w_ge
  | with_reducible apply w_ltS
  | with_reducible apply w_geS
  | with_reducible apply w_inC
  | with_reducible apply w_notInC
  | with_reducible apply w_isN
  | with_reducible apply w_notN
  | with_reducible apply w_isB
  | with_reducible apply w_notB
  | ((with_reducible apply w_addS); (focus (walk_at "sz"; done)))
  | ((with_reducible apply w_ixL); (focus (walk_at "sq"; done)); (focus (walk_at "ix"; done)))
  | ((with_reducible apply w_ixT); (focus (walk_at "hp"; done)); (focus (walk_at "ix"; done)))
  | ((with_reducible apply w_ixS); (focus (walk_at "sz"; done)); (focus (walk_at "ix"; done)))
  | with_reducible apply w_gSub
  | ((with_reducible apply w_gTup); (focus (walk_at "hp"; done)); (focus (exact rfl)))
  | with_reducible apply w_gCons
  | with_reducible apply w_gNil
  | ((with_reducible apply w_aug); (focus (exact rfl)))
  | with_reducible apply w_ipI
  | ((with_reducible apply w_eq); (focus (exact rfl)))
  | ((with_reducible apply w_ne); (focus (exact rfl)))
  | with_reducible apply w_max
  | with_reducible apply w_min
  | with_reducible apply w_abs
  | with_reducible apply w_intB
  | with_reducible apply w_intI
  | with_reducible apply w_tup1
  | with_reducible apply w_lst1
  | with_reducible apply w_sl
  | with_reducible apply w_part
  | with_reducible apply w_noPart
  | with_reducible apply w_isint
  | ((with_reducible apply w_slS); (focus (walk_at "sz"; done)))
  | with_reducible apply w_iteT
  | with_reducible apply w_iteF
  | with_reducible apply w_iteN
  | ((with_reducible apply w_iteYes); (focus (exact rfl)))
  | ((with_reducible apply w_iteNo); (focus (exact rfl)))
  | ((with_reducible apply w_lenL); (focus (walk_at "sq"; done)))
  | ((with_reducible apply w_lenT); (focus (walk_at "hp"; done)))
  | ((with_reducible apply w_lenS); (focus (walk_at "sz"; done)))
  | with_reducible apply w_lc
  | with_reducible apply w_for
  | with_reducible apply w_yes
  | ((with_reducible apply w_wipe); (focus (exact rfl)))
  | with_reducible apply w_iList
  | with_reducible apply w_iTup
  | with_reducible apply w_iStr
  | with_reducible apply w_iRng1
  | with_reducible apply w_iRng2
  | with_reducible apply w_iZip
  | with_reducible apply w_iEnum
  | ((with_reducible apply d_iList); (focus (walk_at "sq"; done)))
  | ((with_reducible apply d_iTup); (focus (walk_at "hp"; done)))
  | with_reducible apply d_iStr
  | ((with_reducible apply d_iRng1); (focus (walk_at "num"; done)); (focus (walk_at "num"; done)))
  | ((with_reducible apply d_iRng2); (focus (walk_at "num"; done)); (focus (walk_at "num"; done)); (focus (walk_at "num"; done)); (focus (walk_at "num"; done)))
  | ((with_reducible apply d_iZip); (focus (walk_at "sq"; done)); (focus (walk_at "sq"; done)))
  | ((with_reducible apply d_iEnum); (focus (walk_at "sq"; done)))
  | walk_at "w2")
local macro_rules | `(tactic| walk_at "w2") => `(tactic| fail)
local macro_rules | `(tactic| walk_at "wn") => `(tactic| repeat walk_at "w1")
local macro_rules | `(tactic| walk_at "w") => `(tactic| repeat (first | walk_at "w1" | with_reducible apply w_ret))

local macro_rules | `(tactic| walk_at "w2") => `(tactic| first
  | ((with_reducible apply w_isInt); (focus (walk_at "r"; done)))
  | ((with_reducible apply w_isBool); (focus (walk_at "r"; done)))
  | ((with_reducible apply w_isStr); (focus (walk_at "r"; done)))
  | ((with_reducible apply w_isTup); (focus (walk_at "r"; done)))
  | ((with_reducible apply w_isLst); (focus (walk_at "r"; done)))
  | ((with_reducible apply w_notInP); (focus (assumption)))
  | ((with_reducible apply w_ixP); (focus (assumption)); (focus (assumption))))

/-- of anything: refused with its fields -/
def sp_check (K : PySem.W.Frag) : Sp := fun vs H Q E => ∃ (v : V) (d : PyData) (S : Addr → Prop), vs = [v] ∧ R S H v d ∧ smallD d = true ∧ lenOk d = true ∧ (firstWrong d = none → ∀ H', Chg [] H H' → Q .non H') ∧
  ∀ o, firstWrong d = some o → ∀ dd H', Chg [] H H' → H' dd = some (.xd (xfs ["helper", "at"] (fwV o) [])) → E (.ref (He.ga K "NoProgram")) (some dd) H'
def t_check (E : XK) (K : PySem.W.Frag) : TS :=
    tSeq (tAsg (tCall sp_first_wrong [] E0 (tCons (tVar 0) (tNil))) (gName 1))
    (tIfS (tTest (tOp oNotN (tVar 1) (tC .non))) (tRaiseX (He.ga K "NoProgram") ["helper", "at"] E (tCons (tOp (rIxT K) (tVar 1) (tC (.int 0))) (tCons (tOp (rIxT K) (tVar 1) (tC (.int 1))) (tNil)))) (tNext))
theorem pure_check {K : PySem.W.Frag} (vs : List V) (H : Hp) (Q : VK) (E : XK) (h : sp_check K vs H Q E) : t_check E K (fin Q) (start ["program", "wrong"] vs) H := by
  obtain ⟨v, d, S, rfl, r, sm, lo, qn, qs⟩ := h
  show t_check E K _ [some v, none] H
  unfold t_check
  walk_at "w"
  refine ⟨v, d, S, rfl, r, sm, lo, fun e H1 c1 => ?_, fun o e p H1 c1 hp => ?_⟩
  · walk_at "w"
    exact qn e H1 c1
  · walk_at "w"
    refine w_raiseX ?_
    cases o with
    | none =>
      have hp : H1 p = some (.tup [.non, .non]) := hp
      walk_at "w"
      exact ⟨rfl, by simp, fun dd H2 c2 _ h2 => qs none e dd H2 (c1.same c2) h2⟩
    | some o =>
      obtain ⟨n, k⟩ := o
      have hp : H1 p = some (.tup [.str n, .int (k : Nat)]) := hp
      walk_at "w"
      exact ⟨rfl, by simp, fun dd H2 c2 _ h2 => qs (some (n, k)) e dd H2 (c1.same c2) h2⟩
end Fg
namespace Fg
open PySem PySem.Spec PyProof.Rows L2
/-! ### == of things whose parts are the same objects -/
def okV : V → Bool
  | .byt _ => false
  | .flt _ => false
  | .ty _ => false
  | _ => true
/-- the same, or lists and tuples of such ones, n within one another at most -/
def Shr : Nat → Hp → V → V → Prop
  | 0, _, x, y => x = y ∧ okV x = true
  | n + 1, H, x, y => (x = y ∧ okV x = true) ∨ ∃ (a b : Addr) (xs ys : List V), x = .ref a ∧ y = .ref b ∧ ((H a = some (.lst xs) ∧ H b = some (.lst ys)) ∨ (H a = some (.tup xs) ∧ H b = some (.tup ys))) ∧ xs.length = ys.length ∧ ∀ (i : Nat) u w, xs[i]? = some u → ys[i]? = some w → Shr n H u w
section
variable {X : Cx} {pins : List (Addr × Obj)} {σ : L2.St} {H : Hp} {s : Shared}
theorem eqAt_one {A : Around} {x : V} {v u : Value} (h : okV x = true) (rv : RelV x v) (ru : RelV x u) : SeqAt.EqAt A s v u true := by
  cases x with
  | non => cases (show v = Value.none from rv); cases (show u = Value.none from ru); exact SeqAt.EqAt.same _
  | bl b => cases (show v = Value.bool b from rv); cases (show u = Value.bool b from ru); exact SeqAt.EqAt.same _
  | int i =>
    obtain ⟨k, q⟩ := (show ∃ k, v = Value.int i k from rv)
    cases q
    obtain ⟨k', q⟩ := (show ∃ k, u = Value.int i k from ru)
    cases q
    have := SeqAt.EqAt.int_int (A := A) (s := s) i k i k'
    rw [beq_self_eq_true] at this
    exact this
  | str i =>
    obtain ⟨k, q⟩ := (show ∃ k, v = Value.str i k from rv)
    cases q
    obtain ⟨k', q⟩ := (show ∃ k, u = Value.str i k from ru)
    cases q
    have := SeqAt.EqAt.str_str (A := A) (s := s) i k i k'
    rw [beq_self_eq_true] at this
    exact this
  | ref a => cases (show v = Value.ref a from rv); cases (show u = Value.ref a from ru); exact SeqAt.EqAt.same _
  | byt b => cases h
  | flt b => cases h
  | ty b => cases h
theorem all_true (n : Nat) : ((List.range n).all fun _ => true) = true := by simp
theorem shr_eqAt (I : Inv X pins σ H s) : ∀ (n : Nat) {A : Around} {x y : V} {v u : Value}, Shr n H x y → RelV x v → RelV y u → A.units + n < cLine → SeqAt.EqAt A s v u true
  | 0, A, x, y, v, u, ⟨e, ok⟩, rv, ru, _ => by subst e; exact eqAt_one ok rv ru
  | n + 1, A, x, y, v, u, h, rv, ru, hu => by
    rcases h with ⟨e, ok⟩ | ⟨a, b, xs, ys, rfl, rfl, hc, hl, hi⟩
    · subst e; exact eqAt_one ok rv ru
    · cases (show v = Value.ref a from rv)
      cases (show u = Value.ref b from ru)
      by_cases e : a = b
      · subst e; exact SeqAt.EqAt.same _
      · refine SeqAt.EqAt.of_refs e ?_
        have hu0 : A.units < cLine := by omega
        have key : ∀ (i1 i2 : List Value), Vals xs i1 → Vals ys i2 → ∀ j (h1 : j < i1.toArray.size) (h2 : j < i2.toArray.size), SeqAt.EqAt A.in1 s i1.toArray[j] i2.toArray[j] true := fun i1 i2 r1 r2 j h1 h2 => by
          have j1 : j < xs.length := by rw [r1.length]; simpa using h1
          have j2 : j < ys.length := by rw [r2.length]; simpa using h2
          obtain ⟨u1, e1, q1⟩ := r1.get (List.getElem?_eq_getElem j1)
          obtain ⟨u2, e2, q2⟩ := r2.get (List.getElem?_eq_getElem j2)
          have k1 : i1.toArray[j] = u1 := by
            have := (List.getElem?_eq_some_iff.mp e1).2
            simpa using this
          have k2 : i2.toArray[j] = u2 := by
            have := (List.getElem?_eq_some_iff.mp e2).2
            simpa using this
          rw [k1, k2]
          exact shr_eqAt I n (hi j _ _ (List.getElem?_eq_getElem j1) (List.getElem?_eq_getElem j2)) q1 q2 (show A.units + 1 + n < cLine by omega)
        rcases hc with ⟨h1, h2⟩ | ⟨h1, h2⟩
        · obtain ⟨i1, r1, l1⟩ := lstAt I h1
          obtain ⟨i2, r2, l2⟩ := lstAt I h2
          have hs : i1.toArray.size = i2.toArray.size := by rw [List.size_toArray, List.size_toArray, ← r1.length, ← r2.length, hl]
          have := SeqAt.RcAt.lists (e := fun _ => true) l1 l2 hs hu0 (key i1 i2 r1 r2)
          rw [all_true] at this
          exact this
        · obtain ⟨i1, r1, l1⟩ := tupAt I h1
          obtain ⟨i2, r2, l2⟩ := tupAt I h2
          have hs : i1.toArray.size = i2.toArray.size := by rw [List.size_toArray, List.size_toArray, ← r1.length, ← r2.length, hl]
          have := SeqAt.RcAt.tuples (e := fun _ => true) l1 l2 hu0 (key i1 i2 r1 r2)
          rw [all_true, hs, beq_self_eq_true] at this
          exact this
/-- lists with the same parts -/
def ShrL (n : Nat) (H : Hp) (x y : V) : Prop := ∃ (a b : Addr) (xs ys : List V), x = .ref a ∧ y = .ref b ∧ H a = some (.lst xs) ∧ H b = some (.lst ys) ∧ xs.length = ys.length ∧ ∀ (i : Nat) u w, xs[i]? = some u → ys[i]? = some w → Shr n H u w
def oNeSh : R2 := fun x y H Q => ShrL 20 H x y ∧ Q (.bl false) H
theorem p_neSh (hu : X.A.units + 64 < cLine) : OpR X (compareOp .NotEq) oNeSh := by
  intro pins s σ H x y v u Q I rx ry h
  obtain ⟨⟨a, b, xs, ys, rfl, rfl, h1, h2, hl, hi⟩, q⟩ := h
  cases (show v = Value.ref a from rx)
  cases (show u = Value.ref b from ry)
  obtain ⟨i1, r1, l1⟩ := lstAt I h1
  obtain ⟨i2, r2, l2⟩ := lstAt I h2
  have hs : i1.toArray.size = i2.toArray.size := by rw [List.size_toArray, List.size_toArray, ← r1.length, ← r2.length, hl]
  have hu0 : X.A.units < cLine := by omega
  have key : ∀ j (h1 : j < i1.toArray.size) (h2 : j < i2.toArray.size), SeqAt.EqAt X.A.in1 s i1.toArray[j] i2.toArray[j] true := fun j h1 h2 => by
    have j1 : j < xs.length := by rw [r1.length]; simpa using h1
    have j2 : j < ys.length := by rw [r2.length]; simpa using h2
    obtain ⟨u1, e1, q1⟩ := r1.get (List.getElem?_eq_getElem j1)
    obtain ⟨u2, e2, q2⟩ := r2.get (List.getElem?_eq_getElem j2)
    have k1 : i1.toArray[j] = u1 := by
      have := (List.getElem?_eq_some_iff.mp e1).2
      simpa using this
    have k2 : i2.toArray[j] = u2 := by
      have := (List.getElem?_eq_some_iff.mp e2).2
      simpa using this
    rw [k1, k2]
    exact shr_eqAt I 20 (hi j _ _ (List.getElem?_eq_getElem j1) (List.getElem?_eq_getElem j2)) q1 q2 (show X.A.units + 1 + 20 < cLine by omega)
  have := SeqAt.RcNeAt.lists (e := fun _ => true) l1 l2 hs hu0 key
  rw [all_true] at this
  exact this X.prog X.w X.xe _ ⟨.bl false, H, I, rfl, q⟩
theorem w_neSh {Q : VK} {x y : V} (h : ShrL 20 H x y) (q : Q (.bl false) H) : oNeSh x y H Q := ⟨h, q⟩
/-! ### a list, != [] -/
def oNeE : R2 := fun x y H Q => ∃ (p q : Addr) (xs : List V), x = .ref p ∧ y = .ref q ∧ H p = some (.lst xs) ∧ H q = some (.lst []) ∧ Q (.bl (!xs.isEmpty)) H
theorem p_neE (hu : X.A.units + 64 < cLine) : OpR X (compareOp .NotEq) oNeE := by
  intro pins s σ H x y v u Q I rx ry h
  obtain ⟨p, q, xs, rfl, rfl, h1, h2, hq⟩ := h
  cases (show v = Value.ref p from rx)
  cases (show u = Value.ref q from ry)
  have hu0 : X.A.units < cLine := by omega
  obtain ⟨i1, r1, l1⟩ := lstAt I h1
  obtain ⟨i2, r2, l2⟩ := lstAt I h2
  cases r2
  cases r1 with
  | nil => exact (SeqAt.RcNeAt.lists (e := fun _ => true) l1 l2 rfl hu0 fun j h1 h2 => absurd h1 (by simp)) X.prog X.w X.xe _ ⟨.bl false, H, I, rfl, hq⟩
  | cons a b => exact (SeqAt.RcNeAt.lists_lengths l1 l2 (by simp) hu0) X.prog X.w X.xe _ ⟨.bl true, H, I, rfl, hq⟩
theorem w_neE {Q : VK} {p q : Addr} {xs : List V} (h1 : H p = some (.lst xs)) (h2 : H q = some (.lst [])) (k : Q (.bl (!xs.isEmpty)) H) : oNeE (.ref p) (.ref q) H Q := ⟨p, q, xs, rfl, rfl, h1, h2, k⟩
/-! ### a tuple turned about -/
end
section
variable {prog : Program} {w : World} {A : Around} {E : Value → Shared → Prop} {s : Shared}
theorem sliceApplied_rev {sl : Addr} {vl vu vs : Value} {n : Nat} {Q : Int × Int × Nat → Shared → Prop} (hs : s.heap.IsSliceOf sl vl vu vs) (pl : IsPart vl none) (pu : IsPart vu none) (ps : IsPart vs (some (-1)))
    (h : Q ((n : Int) - 1, -1, n) s) : wpAny (model prog w) A (Builtin.Slice.sliceApplied (.ref sl) (pure (n : Int))) Q E s := by
  obtain ⟨os, hos, hcs, hds⟩ := id hs
  unfold Builtin.Slice.sliceApplied Builtin.Slice.sliceFields
  refine wpAny_bind (wpAny_bind (wpAny_field hos hds (x := vl) rfl (wpAny_bind (wpAny_field hos hds (x := vu) rfl (wpAny_bind (wpAny_field hos hds (x := vs) rfl (wpAny_pure ?_)))))))
  refine wpAny_bind (HT.slicePart_ ps ?_)
  show wpAny _ _ (if ((-1 : Int) == 0) = true then _ else _) _ _ s
  rw [if_neg (by decide)]
  refine wpAny_bind (HT.slicePart_ pl (wpAny_bind (HT.slicePart_ pu (wpAny_bind (wpAny_pure ?_)))))
  show wpAny _ _ (pure (((n : Int) - 1), (-1 : Int), Builtin.Slice.slicePlaces ((n : Int) - 1) (-1) (-1))) _ _ s
  have e : Builtin.Slice.slicePlaces ((n : Int) - 1) (-1) (-1) = n := by
    unfold Builtin.Slice.slicePlaces
    rw [if_neg (by decide), show (- -1 : Int) = 1 by decide, Int.ediv_one]
    split <;> omega
  rw [e]
  exact wpAny_pure h
theorem pick_rev (xs : Array Value) : ((List.range xs.size).filterMap fun (k : Nat) => xs[(((xs.size : Int) - 1) + (k : Int) * (-1)).toNat]?).toArray = xs.toList.reverse.toArray := by
  have e : ((List.range xs.size).filterMap fun (k : Nat) => xs[(((xs.size : Int) - 1) + (k : Int) * (-1)).toNat]?) = ((List.range xs.size).map fun k => xs.size - 1 - k).filterMap (xs[·]?) := by
    rw [List.filterMap_map]
    congr 1
    funext k
    show xs[(((xs.size : Int) - 1) + (k : Int) * (-1)).toNat]? = xs[xs.size - 1 - k]?
    have : (((xs.size : Int) - 1) + (k : Int) * (-1)).toNat = xs.size - 1 - k := by omega
    rw [this]
  rw [e, PySem.W.krv_range, List.filterMap_reverse, PySem.W.krv_all]
theorem getItem_tuple_rev {t sl : Addr} {items : Array Value} {vl vu vs : Value} {Q : Value → Shared → Prop} (ht : IsTup s.heap t items) (hs : s.heap.IsSliceOf sl vl vu vs) (pl : IsPart vl none) (pu : IsPart vu none) (ps : IsPart vs (some (-1)))
    (h : Q (.ref s.heap.objs.size) { s with heap := s.heap.push { cls := .type "tuple", data := .seq items.toList.reverse.toArray } })
    (hsz : items.size ≤ sizeLine) : wpAny (model prog w) A (getItem (.ref t) (.ref sl)) Q E s := by
  have htake : sizeOk (.seq items.toList.reverse.toArray) := by
    show items.toList.reverse.toArray.size ≤ sizeLine
    rw [List.size_toArray, List.length_reverse, Array.length_toList]
    exact hsz
  obtain ⟨os, hos, hcs, hds⟩ := id hs
  have hTs : s.TypeIs (.ref sl) "slice" := ⟨os, hos, hcs⟩
  unfold getItem
  try with_reducible refine wpAny_holding ?_
  first | refine wpAny_bind (wpAny_pure ?_) | skip
  refine wpAny_bind (wpAny_sequenceKey ht.typeIs (by decide) ?_)
  refine wpAny_bind (wpAny_callSpecial?_slot (name := Str.ofString "__getitem__") ht.typeIs PyProof.Rows.slot_tuple_getitem
    (wpAny_call_entry PyProof.Rows.slot_tuple_getitem ht.typeIs entry_tuple_getitem ?_ (args_tuple_getitem _ _)))
  show wpAny _ _ (Builtin.Tuple.tupleItemsOf (.ref t) >>= _) _ _ s
  refine wpAny_bind (tupleItemsOf_ ht ?_)
  refine wpAny_bind (wpAny_typeOf hTs ?_)
  rw [if_pos (by decide)]
  refine wpAny_bind (sliceApplied_rev hs pl pu ps ?_)
  have hno : ¬ ((((items.size : Int) - 1) == 0 && (-1 : Int) == 1 && items.size == items.size) = true) := by
    intro q
    rw [Bool.and_eq_true, Bool.and_eq_true] at q
    exact absurd q.1.2 (by decide)
  show wpAny _ _ (if (((items.size : Int) - 1) == 0 && (-1 : Int) == 1 && items.size == items.size) = true then _ else _) _ _ s
  rw [if_neg hno, pick_rev]
  first
    | exact wpAny_bind (m := Builtin.Tuple.tupleExact _) (wpAny_newObj_type (wpAny_pure ⟨_, rfl, wpAny_pure h⟩) htake)
    | exact wpAny_bind (m := Builtin.Tuple.tupleExact _) (wpAny_newObj_type (wpAny_bind (wpAny_pure (wpAny_pure ⟨_, rfl, wpAny_pure h⟩))) htake)
    | exact wpAny_bind (wpAny_bind (m := Builtin.Tuple.tupleExact _) (wpAny_newObj_type (wpAny_pure (wpAny_pure ⟨_, rfl, wpAny_pure h⟩)) htake))
    | exact wpAny_bind (wpAny_bind (m := Builtin.Tuple.tupleExact _) (wpAny_newObj_type (wpAny_pure ⟨_, rfl, wpAny_pure h⟩) htake))
end
section
variable {X : Cx}
def tRevT (K : PySem.W.Frag) (te : TE) : TE := fun σ H Q => te σ H fun x H1 => ∃ a xs, x = .ref a ∧ SqT K H1 a xs ∧ ∀ p, H1 p = none → Q (.ref p) (upd H1 p (.tup xs.reverse))
theorem pe_revT {e : Expr} {te : TE} {k : Nat} {p1 p2 p3 pos : Pos} (he : PE X e te) : PE X (.Subscript e (.Slice none none (some (.UnaryOp .USub (.Constant (.int 1) k p1) p2)) p3) pos) (tRevT X.K te) := by
  refine ⟨fun pins s σ H Q I h => ?_⟩
  refine Subscript_ (thn (he.run pins s σ H _ I h) fun v s1 ⟨x, H1, I1, r1, q1⟩ => ?_)
  obtain ⟨a, xs, ex, hx, q⟩ := q1
  subst ex
  cases r1
  have hst : PO X (some (.UnaryOp .USub (.Constant (.int 1) k p1) p2)) (tPart (tUn (rU fun i => .int (-i)) (tC (.int 1)))) := po_some (pe_un un_neg pe_int)
  refine wpAny_Slice (thn (po_none.run pins s1 σ H1 (fun o H2 => o = none ∧ H2 = H1) I1 ⟨rfl, rfl⟩) fun vl s2 ⟨l, H2, I2, pl, el, e2⟩ => ?_)
  subst el e2
  refine thn (po_none.run pins s2 σ H2 (fun o H3 => o = none ∧ H3 = H2) I2 ⟨rfl, rfl⟩) fun vu s3 ⟨u, H3, I3, pu, eu, e3⟩ => ?_
  subst eu e3
  refine thn (hst.run pins s3 σ H3 (fun o H4 => o = some (-1) ∧ H4 = H3) I3 ⟨1, rfl, -1, rfl, rfl, rfl⟩) fun vs s4 ⟨o, H4, I4, ps, eo, e4⟩ => ?_
  subst eo e4
  have I5 : Inv X pins σ H4 { s4 with heap := s4.heap.push { cls := .type "slice", data := .fields #[vl, vu, vs] } } := I4.kept (t' := s4.toks) fun b ob q => Heap.get?_push_of_some _ q
  obtain ⟨its, r, ht, hz⟩ := I5.tuple hx
  have hlen := r.length
  show wpAny (model X.prog X.w) X.A (subscriptTail e (.Slice none none (some (.UnaryOp .USub (.Constant (.int 1) k p1) p2)) p3) (.ref a) (.ref s4.heap.objs.size)) (EP X pins σ Q) X.xe { s4 with heap := s4.heap.push { cls := .type "slice", data := .fields #[vl, vu, vs] } }
  refine tail_any (ops := [.ref a, .ref s4.heap.objs.size]) ht.typeIs (PyProof.Rows.slot_tuple_getitem.lookup) ?_ (by with_unfolding_all rfl)
  refine getItem_tuple_rev ht (Heap.IsSliceOf.new _ vl vu vs) pl pu ps ?_ (by rw [List.size_toArray]; omega)
  refine ⟨.ref _, _, I5.laid (t' := s4.toks) (o := .tup xs.reverse) (fun b ob q => Heap.get?_push_of_some _ q) (Nat.le_refl _) ?_, rfl, q _ (I5.hok.fresh (Nat.le_refl _))⟩
  exact ⟨by rw [List.length_reverse]; exact hz, _, r.reverse, IsTup.new _ _⟩
def KRev (K : PySem.W.Frag) (Q : VK) : VK := fun x H1 => ∃ a xs, x = .ref a ∧ SqT K H1 a xs ∧ ∀ p, H1 p = none → Q (.ref p) (upd H1 p (.tup xs.reverse))
theorem w_revT {K : PySem.W.Frag} {te : TE} {σ : L2.St} {H : Hp} {Q : VK} (h : te σ H (KRev K Q)) : tRevT K te σ H Q := h
theorem k_rev {K : PySem.W.Frag} {H : Hp} {Q : VK} {a : Addr} {xs : List V} (h : H a = some (.tup xs)) (q : ∀ p H2, H p = none → Chg [] H H2 → H2 p = some (.tup xs.reverse) → Q (.ref p) H2) : KRev K Q (.ref a) H := ⟨a, xs, rfl, sqT h, d_new q⟩
end
end Fg
namespace Fg
open PySem PySem.Spec PyProof.Rows L2
/-! ### slices -/
theorem cut_from (xs : List V) (k : Nat) : cutV xs (some (k : Nat)) none = xs.drop k := by
  unfold cutV
  rw [HT.sIx_nat, HT.sIx_none]
  rw [List.take_of_length_le (by rw [List.length_drop]; omega)]
  rcases Nat.le_total k xs.length with h | h
  · rw [Nat.min_eq_left h]
  · rw [Nat.min_eq_right h, List.drop_eq_nil_of_le (Nat.le_refl _), List.drop_eq_nil_of_le h]
theorem cut_to (xs : List V) (k : Nat) : cutV xs none (some (k : Nat)) = xs.take k := by
  unfold cutV
  rw [HT.sIx_nat, HT.sIx_none, List.drop_zero, Nat.sub_zero]
  rcases Nat.le_total k xs.length with h | h
  · rw [Nat.min_eq_left h]
  · rw [Nat.min_eq_right h, List.take_of_length_le (Nat.le_refl _), List.take_of_length_le h]
theorem cut_last (xs : List V) : cutV xs none (some (-1)) = xs.take (xs.length - 1) := by
  unfold cutV
  rw [HT.sIx_none, List.drop_zero, Nat.sub_zero]
  have e : HT.sIx xs.length xs.length (some (-1)) = xs.length - 1 := by
    show (if (-1 : Int) < 0 then ((-1 : Int) + (xs.length : Int)).toNat else min (-1 : Int).toNat xs.length) = xs.length - 1
    rw [if_pos (by decide)]
    omega
  rw [e]
theorem w_catA {K : PySem.W.Frag} {p q : Addr} {xs ys : List V} {H : Hp} {Q : VK} (h1 : H p = some (.tup xs)) (h2 : H q = some (.tup ys)) (hz : xs.length + ys.length ≤ 100000) (k : ∀ p' H2, Chg [] H H2 → H2 p' = some (.tup (xs ++ ys)) → Q (.ref p') H2) : rCatA K (.ref p) (.ref q) H Q := by
  refine ⟨p, q, xs, ys, rfl, rfl, sqT h1, sqT h2, Nat.le_trans hz (by decide), fun e => ?_, fun _ e => ?_, fun _ _ => d_new fun p' H2 _ c h => k p' H2 c h⟩
  · subst e
    exact k q H .refl h2
  · subst e
    exact k p H .refl (by rw [List.append_nil]; exact h1)
theorem w_cat {l b : Addr} {xs zs : List V} {H : Hp} {Q : VK} (h1 : H l = some (.lst xs)) (h2 : H b = some (.lst zs)) (hz : xs.length + zs.length ≤ 100000) (q : ∀ p H2, H p = none → Chg [] H H2 → H2 p = some (.lst (xs ++ zs)) → Q (.ref p) H2) : rCat (.ref l) (.ref b) H Q :=
  ⟨l, b, xs, zs, rfl, rfl, h1, h2, Nat.le_trans hz (by decide), fun p np => q p _ np (.new np) upd_same⟩
end Fg
--LAW k07
namespace Fg
open PySem PySem.Spec PyProof.Rows L2
/-! ### the walk's small steps -/
local macro_rules | `(tactic| walk_at "hp") => `(tactic| first
  | assumption
  | exact upd_same
  | (refine Chg.at (by assumption) ?_; walk_at "hp")
  | (refine Chg.at1 (by assumption) ?_ (by walk_at "ne"); walk_at "hp"))
local macro_rules | `(tactic| walk_at "ne") => `(tactic| first | assumption | (apply Ne.symm; assumption))
local macro_rules | `(tactic| walk_at "sq") => `(tactic| first | assumption | exact sqL (by walk_at "hp") | (refine Chg.seq (by assumption) ?_; walk_at "sq"))
local macro_rules | `(tactic| walk_at "sz") => `(tactic| first | assumption | exact Nat.zero_le _ | (simp only [List.length_cons, List.length_nil]; decide) | exact Nat.le_trans (by first | omega | (simp; done) | (simp; omega)) (show 100000 ≤ sizeLine by decide) | exact Nat.lt_of_lt_of_le (by first | omega | (simp; done) | (simp; omega)) (show 100000 ≤ sizeLine by decide))
local macro_rules | `(tactic| walk_at "ix") => `(tactic| first | exact at0 | exact at1 | exact at2 | exact at3 | assumption | exact rfl | walk_at "ix2")
local macro_rules | `(tactic| walk_at "ix2") => `(tactic| fail)
local macro_rules | `(tactic| walk_at "num") => `(tactic| first | assumption | omega | decide | walk_at "num2")
local macro_rules | `(tactic| walk_at "num2") => `(tactic| fail)
local macro_rules | `(tactic| walk_at "im") => `(tactic| first | assumption | exact R.non (S := fun _ => False) | exact R.bl (S := fun _ => False) _ | exact R.int (S := fun _ => False) _ | exact R.str (S := fun _ => False) _ | (refine R.im (by assumption) ?_; walk_at "im"))
local macro_rules | `(tactic| walk_at "r") => `(tactic| first | assumption | exact R.non (S := fun _ => False) | exact R.bl (S := fun _ => False) _ | exact R.int (S := fun _ => False) _ | exact R.str (S := fun _ => False) _ | (refine R.same (by assumption) ?_; walk_at "r") | exact R.any (by walk_at "im"))
local macro_rules | `(tactic| walk_at "chg") => `(tactic| first
  | exact Chg.refl
  | assumption
  | (refine Chg.same ?_ (by assumption); walk_at "chg")
  | (refine Chg.both ?_ (by assumption); walk_at "chg")
  | (refine Chg.pre (by assumption) ?_; walk_at "chg"))
local macro_rules | `(tactic| walk_at "w1") => `(tactic| first
  | with_reducible apply w_seq
  | with_reducible apply w_asg
  | ((with_reducible apply w_var); (focus (exact rfl)))
  | with_reducible apply w_c
  | with_reducible apply w_op
  | with_reducible apply w_cons
  | with_reducible apply w_nil
  | with_reducible apply w_gName
  | with_reducible apply w_if
  | with_reducible apply w_test
  | with_reducible apply w_B
  | with_reducible apply w_isbl
  | with_reducible apply w_retN
  | with_reducible apply w_next
  | with_reducible apply w_drop
  | with_reducible apply w_cb
  | with_reducible apply w_call
  | with_reducible apply w_callN
  | with_reducible apply w_bm
  | with_reducible apply w_bm0
  | ((with_reducible apply w_tyL); (focus (walk_at "hp"; done)))
  | with_reducible apply w_dput
  | with_reducible apply w_m1
  | with_reducible apply w_isstr
  | with_reducible apply w_and
  | with_reducible apply w_or
  | with_reducible apply w_not
  | with_reducible apply w_andV
  | with_reducible apply w_orV
  | with_reducible apply w_notV
  | with_reducible apply w_ifE
  | with_reducible apply w_chain
  | with_reducible apply w_un
  | with_reducible apply w_neg
  | with_reducible apply w_add
  | with_reducible apply w_sub
  | ((with_reducible apply w_mod); (focus (walk_at "num"; done)))
  | ((with_reducible apply w_mul); (focus (walk_at "num"; done)))
  | ((with_reducible apply w_fdiv); (focus (walk_at "num"; done)))
  | ((with_reducible apply w_pow); (focus (walk_at "num"; done)))
  | with_reducible apply w_lt
  | with_reducible apply w_le
  | with_reducible apply w_gt
  | with_reducible apply w_ge
  | with_reducible apply w_ltS
  | with_reducible apply w_geS
  | with_reducible apply w_inC
  | with_reducible apply w_notInC
  | with_reducible apply w_isN
  | with_reducible apply w_notN
  | with_reducible apply w_isB
  | with_reducible apply w_notB
  | ((with_reducible apply w_addS); (focus (walk_at "sz"; done)))
  | ((with_reducible apply w_ixL); (focus (walk_at "sq"; done)); (focus (walk_at "ix"; done)))
  | ((with_reducible apply w_ixT); (focus (walk_at "hp"; done)); (focus (walk_at "ix"; done)))
  | ((with_reducible apply w_ixS); (focus (walk_at "sz"; done)); (focus (walk_at "ix"; done)))
  | with_reducible apply w_gSub
  | ((with_reducible apply w_gTup); (focus (walk_at "hp"; done)); (focus (exact rfl)))
  | with_reducible apply w_gCons
  | with_reducible apply w_gNil
  | ((with_reducible apply w_aug); (focus (exact rfl)))
  | with_reducible apply w_ipI
  | ((with_reducible apply w_eq); (focus (exact rfl)))
  | ((with_reducible apply w_ne); (focus (exact rfl)))
  | with_reducible apply w_max
  | with_reducible apply w_min
  | with_reducible apply w_abs
  | with_reducible apply w_intB
  | with_reducible apply w_intI
  | with_reducible apply w_tup1
  | with_reducible apply w_lst1
  | with_reducible apply w_sl
  | with_reducible apply w_part
  | with_reducible apply w_noPart
  | with_reducible apply w_isint
  | ((with_reducible apply w_slS); (focus (walk_at "sz"; done)))
  | with_reducible apply w_iteT
  | with_reducible apply w_iteF
  | with_reducible apply w_iteN
  | ((with_reducible apply w_iteYes); (focus (exact rfl)))
  | ((with_reducible apply w_iteNo); (focus (exact rfl)))
  | ((with_reducible apply w_lenL); (focus (walk_at "sq"; done)))
  | ((with_reducible apply w_lenT); (focus (walk_at "hp"; done)))
  | ((with_reducible apply w_lenS); (focus (walk_at "sz"; done)))
  | with_reducible apply w_lc
  | with_reducible apply w_for
  | with_reducible apply w_yes
  | ((with_reducible apply w_wipe); (focus (exact rfl)))
  | with_reducible apply w_iList
  | with_reducible apply w_iTup
  | with_reducible apply w_iStr
  | with_reducible apply w_iRng1
  | with_reducible apply w_iRng2
  | with_reducible apply w_iZip
  | with_reducible apply w_iEnum
  | ((with_reducible apply d_iList); (focus (walk_at "sq"; done)))
  | ((with_reducible apply d_iTup); (focus (walk_at "hp"; done)))
  | with_reducible apply d_iStr
  | ((with_reducible apply d_iRng1); (focus (walk_at "num"; done)); (focus (walk_at "num"; done)))
  | ((with_reducible apply d_iRng2); (focus (walk_at "num"; done)); (focus (walk_at "num"; done)); (focus (walk_at "num"; done)); (focus (walk_at "num"; done)))
  | ((with_reducible apply d_iZip); (focus (walk_at "sq"; done)); (focus (walk_at "sq"; done)))
  | ((with_reducible apply d_iEnum); (focus (walk_at "sq"; done)))
  | walk_at "w2")
local macro_rules | `(tactic| walk_at "w2") => `(tactic| fail)
local macro_rules | `(tactic| walk_at "wn") => `(tactic| repeat walk_at "w1")
local macro_rules | `(tactic| walk_at "w") => `(tactic| repeat (first | walk_at "w1" | with_reducible apply w_ret))

local macro_rules | `(tactic| walk_at "w2") => `(tactic| first
  | ((with_reducible apply w_isInt); (focus (walk_at "r"; done)))
  | ((with_reducible apply w_isBool); (focus (walk_at "r"; done)))
  | ((with_reducible apply w_isStr); (focus (walk_at "r"; done)))
  | ((with_reducible apply w_isTup); (focus (walk_at "r"; done)))
  | ((with_reducible apply w_isLst); (focus (walk_at "r"; done)))
  | with_reducible apply w_fld
  | with_reducible apply w_sfld
  | with_reducible apply w_faug
  | with_reducible apply w_rAdd
  | with_reducible apply w_rSub
  | with_reducible apply w_make
  | with_reducible apply w_orT
  | with_reducible apply w_dgetd
  | with_reducible apply w_dgetk
  | with_reducible apply w_dsetd
  | ((with_reducible apply k_dgetd); (focus (walk_at "hp"; done)))
  | ((with_reducible apply k_dsetd); (focus (walk_at "hp"; done)))
  | walk_at "w3")
local macro_rules | `(tactic| walk_at "w3") => `(tactic| fail)

local macro_rules | `(tactic| walk_at "w3") => `(tactic| first
  | ((with_reducible apply g_Frame_number); (focus (assumption; done)); (focus (walk_at "hp"; done)))
  | ((with_reducible apply u_Frame_number); (focus (assumption; done)); (focus (walk_at "hp"; done)))
  | ((with_reducible apply g_Frame_path); (focus (assumption; done)); (focus (walk_at "hp"; done)))
  | ((with_reducible apply u_Frame_path); (focus (assumption; done)); (focus (walk_at "hp"; done)))
  | ((with_reducible apply g_Frame_rows); (focus (assumption; done)); (focus (walk_at "hp"; done)))
  | ((with_reducible apply u_Frame_rows); (focus (assumption; done)); (focus (walk_at "hp"; done)))
  | ((with_reducible apply g_Frame_arg); (focus (assumption; done)); (focus (walk_at "hp"; done)))
  | ((with_reducible apply u_Frame_arg); (focus (assumption; done)); (focus (walk_at "hp"; done)))
  | ((with_reducible apply g_Frame_at); (focus (assumption; done)); (focus (walk_at "hp"; done)))
  | ((with_reducible apply u_Frame_at); (focus (assumption; done)); (focus (walk_at "hp"; done)))
  | ((with_reducible apply g_Frame_past); (focus (assumption; done)); (focus (walk_at "hp"; done)))
  | ((with_reducible apply u_Frame_past); (focus (assumption; done)); (focus (walk_at "hp"; done)))
  | ((with_reducible apply g_Frame_born); (focus (assumption; done)); (focus (walk_at "hp"; done)))
  | ((with_reducible apply u_Frame_born); (focus (assumption; done)); (focus (walk_at "hp"; done)))
  | ((with_reducible apply g_Record_mark); (focus (assumption; done)); (focus (walk_at "hp"; done)))
  | ((with_reducible apply u_Record_mark); (focus (assumption; done)); (focus (walk_at "hp"; done)))
  | ((with_reducible apply g_Record_word); (focus (assumption; done)); (focus (walk_at "hp"; done)))
  | ((with_reducible apply u_Record_word); (focus (assumption; done)); (focus (walk_at "hp"; done)))
  | ((with_reducible apply g_Record_doer); (focus (assumption; done)); (focus (walk_at "hp"; done)))
  | ((with_reducible apply u_Record_doer); (focus (assumption; done)); (focus (walk_at "hp"; done)))
  | ((with_reducible apply g_Record_child); (focus (assumption; done)); (focus (walk_at "hp"; done)))
  | ((with_reducible apply u_Record_child); (focus (assumption; done)); (focus (walk_at "hp"; done)))
  | ((with_reducible apply g_Record_reads); (focus (assumption; done)); (focus (walk_at "hp"; done)))
  | ((with_reducible apply u_Record_reads); (focus (assumption; done)); (focus (walk_at "hp"; done)))
  | ((with_reducible apply g_Record_writes); (focus (assumption; done)); (focus (walk_at "hp"; done)))
  | ((with_reducible apply u_Record_writes); (focus (assumption; done)); (focus (walk_at "hp"; done)))
  | ((with_reducible apply g_Outcome_cells); (focus (assumption; done)); (focus (walk_at "hp"; done)))
  | ((with_reducible apply u_Outcome_cells); (focus (assumption; done)); (focus (walk_at "hp"; done)))
  | ((with_reducible apply g_Outcome_given); (focus (assumption; done)); (focus (walk_at "hp"; done)))
  | ((with_reducible apply u_Outcome_given); (focus (assumption; done)); (focus (walk_at "hp"; done)))
  | ((with_reducible apply g_Outcome_steps); (focus (assumption; done)); (focus (walk_at "hp"; done)))
  | ((with_reducible apply u_Outcome_steps); (focus (assumption; done)); (focus (walk_at "hp"; done)))
  | ((with_reducible apply g_Outcome_deepest); (focus (assumption; done)); (focus (walk_at "hp"; done)))
  | ((with_reducible apply u_Outcome_deepest); (focus (assumption; done)); (focus (walk_at "hp"; done))))
theorem atLast {xs : List V} {y : V} : atI (xs ++ [y]) (-1) = some y := by
  unfold atI
  have h : ixN (xs ++ [y]).length (-1) = some xs.length := by
    unfold ixN
    rw [List.length_append, List.length_singleton, if_neg (by decide), if_pos (by omega)]
    congr 1
    omega
  rw [h]
  simp
def sp_trace (K : PySem.W.Frag) : Sp := fun vs H Q E => ∃ (a : Addr) (p : Prg) (nm : Str) (g : Int) (cv : V) (cs : Cells) (most : Int) (S : Addr → Prop), vs = [.ref a, .str nm, .int g, cv, .int most] ∧ R S H (.ref a) (prgD p) ∧ PrgOk p ∧ nm ∈ p.map (·.1) ∧ CellsAt H cv cs ∧ cs.length ≤ 10000 ∧ most ≤ 20000 ∧
  (∀ m, p.ran nm g cs most = some m → ∀ (T St Rc hd gd : Addr) (gls rcs : List Addr) (H' : Hp), TI K H H' p St Rc hd gd gls [] rcs m → m.recs.length ≤ 20000 → H' T = some (.tup [.ref Rc, .ref hd, .ref gd, .int (m.deep : Nat)]) → Q (.ref T) H') ∧
  (p.ran nm g cs most = none → ∀ dd H', Chg [] H H' → H' dd = some (.xd (xfs ["most"] [.int most] [])) → E (.ref (He.ga K "TooLong")) (some dd) H')
def t_trace (E : XK) (K : PySem.W.Frag) : TS :=
    tSeq (tDrop (tCallSD (sp_check K) [] (WE (fun cls d _ H => E cls d H)) (tCons (tVar 0) (tNil))))
    (tSeq (tAsg (tCB (cDictP K) (tCons (tVar 0) (tNil))) (gName 5))
    (tSeq (tAsg (tLst (tCons (tMake (He.ga K "Frame") (sp_Frame___init__ K) [] E0 (tCons (tC (.int 0)) (tCons (tTup (tNil)) (tCons (tCallSD (sp_helper_rows K) [] (WE (fun cls d _ H => E cls d H)) (tCons (tVar 0) (tCons (tVar 1) (tNil)))) (tCons (tVar 2) (tNil)))))) (tNil))) (gName 6))
    (tSeq (tAsg (tCall sp_start_cells [] E0 (tCons (tVar 3) (tNil))) (gName 7))
    (tSeq (tAsg (tDNewK) (gName 8))
    (tSeq (tAsg (tLst (tNil)) (gName 9))
    (tSeq (tAsg (tC (.int 1)) (gName 10))
    (tSeq (tAsg (tC (.int 1)) (gName 11))
    (tSeq (tWhile (tTest (tOp oNeE (tVar 6) (tLst (tNil)))) (tSeq (tAsg (tOp (rIxL K) (tVar 6) (tUn (rU fun i => .int (-i)) (tC (.int 1)))) (gName 12))
    (tIfS (tTest (tOp oGe (tFld K (tVar 12) "at") (tCB (cLenQ K) (tCons (tFld K (tVar 12) "rows") (tNil))))) (tDrop (tBM0 K "list" rPop (tVar 6))) (tSeq (tIfS (tTest (tOp oGe (tCB (cLenQ K) (tCons (tVar 9) (tNil))) (tVar 4))) (tRaiseX (He.ga K "TooLong") ["most"] E (tCons (tVar 4) (tNil))) (tNext))
    (tSeq (tAsg (tCall (sp_step_done K) [] E0 (tCons (tVar 12) (tCons (tVar 7) (tCons (tVar 8) (tNil))))) (gTup K 2 (gCons (gName 13) (gCons (gName 14) (gNil)))))
    (tSeq (tDrop (tBM K "list" rAppend (tVar 9) (tCons (tVar 13) (tNil))))
    (tIfS (tTest (tOp oNotN (tVar 14) (tC .non))) (tSeq (sFld K (tVar 13) (tVar 11) "child")
    (tSeq (tDrop (tBM K "list" rAppend (tVar 6) (tCons (tMake (He.ga K "Frame") (sp_Frame___init__ K) [] E0 (tCons (tVar 11) (tCons (tOp (rCatA K) (tFld K (tVar 12) "path") (tTup (tCons (tFld K (tVar 12) "born") (tNil)))) (tCons (tDGet (tVar 5) (tOp (rIxT K) (tVar 14) (tC (.int 0)))) (tCons (tOp (rIxT K) (tVar 14) (tC (.int 1))) (tNil)))))) (tNil))))
    (tSeq (sFldAug K (tVar 12) (tC (.int 1)) L2.rAdd "born")
    (tSeq (tAug 11 (tC (.int 1)) (ipI fun i j => i + j))
    (tAsg (tCB cMax (tCons (tVar 10) (tCons (tCB (cLenQ K) (tCons (tVar 6) (tNil))) (tNil)))) (gName 10)))))) (tNext))))))))
    (tRet (tTup (tCons (tVar 9) (tCons (tVar 7) (tCons (tVar 8) (tCons (tVar 10) (tNil)))))))))))))))
theorem cStart_len (cs : Cells) : (cStart cs).length ≤ cs.length := by
  unfold cStart
  have : ∀ (cs acc : Cells), (cs.foldl (fun acc c => cPut acc c.1 c.2) acc).length ≤ acc.length + cs.length := by
    intro cs
    induction cs with
    | nil => intro acc; exact Nat.le_refl _
    | cons c r ih =>
      intro acc
      have h1 := ih (cPut acc c.1 c.2)
      have h2 := cPut_len acc c.1 c.2
      show (r.foldl _ (cPut acc c.1 c.2)).length ≤ _
      rw [List.length_cons]
      omega
  have := this cs []
  simpa using this
/-- ahead of each turn -/
def TW (K : PySem.W.Frag) (H : Hp) (p : Prg) (St Rc hd gd hp : Addr) (ls : List Addr) (a : Addr) (nm : Str) (g : Int) (cv : V) (most : Int) (res : Option Mc) : Nat → L2.St → Hp → Prop := fun n σ H1 => ∃ (m : Mc) (gls fas rcs : List Addr) (y12 y13 y14 : Option V), TI K H H1 p St Rc hd gd gls fas rcs m ∧ H1 hp = some (.dK (gK (nmG p) ls)) ∧ Mc.go p most n m = res ∧ m.size most ≤ n ∧ m.recs.length ≤ most.toNat ∧ rcs.Nodup ∧ (∀ x ∈ rcs, H x = none) ∧
  σ = [some (.ref a), some (.str nm), some (.int g), some cv, some (.int most), some (.ref hp), some (.ref St), some (.ref hd), some (.ref gd), some (.ref Rc), some (.int (m.deep : Nat)), some (.int (m.many : Nat)), y12, y13, y14]
theorem makes_puts {s : Stp} {g : Int} {cs : Cells} {gv : Given} {o : Str × Int} (h : s.makes g cs = some o) : s.puts g cs = cs ∧ s.gives g cs gv = gv := by
  cases s with
  | fork x a => exact ⟨rfl, rfl⟩
  | call x a => exact ⟨rfl, rfl⟩
  | cell a b => cases h
  | give x a => cases h
  | wait => cases h
  | skip a k => cases h
theorem did_none {p : Prg} {m : Mc} {f : Frm} {r : List Frm} {s : Stp} (h : s.makes f.arg m.cells = none) : m.did p f r s = m.half f r s := by
  unfold Mc.did
  rw [h]
  rfl
theorem did_some {p : Prg} {m : Mc} {f : Frm} {r : List Frm} {s : Stp} {x : Str} {w : Int} (h : s.makes f.arg m.cells = some (x, w)) :
    m.did p f r s = { stack := ⟨m.many, f.path ++ [f.born], p.rows x, w, 0, 0, 0⟩ :: { f.next s m.cells with born := f.born + 1 } :: r, cells := (m.half f r s).cells, given := (m.half f r s).given, recs := m.recs ++ [{ f.rcd s m.cells with child := some m.many }], deep := max m.deep (r.length + 2), many := m.many + 1 } := by
  have e := makes_puts (gv := m.given) h
  unfold Mc.did
  rw [h]
  show _ = Mc.mk _ (s.puts f.arg m.cells) (s.gives f.arg m.cells m.given) _ _ _
  rw [e.1, e.2]
  rfl
theorem go_over {p : Prg} {most : Int} {n : Nat} {m : Mc} {f : Frm} {r : List Frm} (hs : m.stack = f :: r) (h : f.rows[f.at_]? = none) : Mc.go p most (n + 1) m = Mc.go p most n { m with stack := r } := by
  show (match m.stack with
    | [] => some m
    | f :: r => match f.rows[f.at_]? with
      | none => Mc.go p most n { m with stack := r }
      | some s => if most ≤ (m.recs.length : Int) then none else Mc.go p most n (m.did p f r s)) = _
  rw [hs]
  show (match f.rows[f.at_]? with
      | none => Mc.go p most n { m with stack := r }
      | some s => if most ≤ (m.recs.length : Int) then none else Mc.go p most n (m.did p f r s)) = _
  rw [h]
theorem go_step {p : Prg} {most : Int} {n : Nat} {m : Mc} {f : Frm} {r : List Frm} {s : Stp} (hs : m.stack = f :: r) (h : f.rows[f.at_]? = some s) : Mc.go p most (n + 1) m = if most ≤ (m.recs.length : Int) then none else Mc.go p most n (m.did p f r s) := by
  show (match m.stack with
    | [] => some m
    | f :: r => match f.rows[f.at_]? with
      | none => Mc.go p most n { m with stack := r }
      | some s => if most ≤ (m.recs.length : Int) then none else Mc.go p most n (m.did p f r s)) = _
  rw [hs]
  show (match f.rows[f.at_]? with
      | none => Mc.go p most n { m with stack := r }
      | some s => if most ≤ (m.recs.length : Int) then none else Mc.go p most n (m.did p f r s)) = _
  rw [h]
theorem pure_trace {K : PySem.W.Frag} (CF : CFs K) (vs : List V) (H : Hp) (Q : VK) (E : XK) (h : sp_trace K vs H Q E) : t_trace E K (fin Q) (start ["program", "name", "arg", "cells", "most", "helpers", "stack", "held", "given", "records", "deepest", "many", "frame", "record", "making"] vs) H := by
  obtain ⟨a, p, nm, g, cv, cs, most, S, rfl, r, ok, hn, ca, lc, hm, qs, qn⟩ := h
  show t_trace E K _ [some (.ref a), some (.str nm), some (.int g), some cv, some (.int most), none, none, none, none, none, none, none, none, none, none] H
  unfold t_trace
  have fr := CF.fr
  have rcC := CF.rc
  obtain ⟨ps, ls, ha, hpr, lls, pa⟩ := prg_view r
  obtain ⟨i0, l0, ys0, r0, g1, g2, g3, g4, g5, g6, g7, g8, g9⟩ := prg_at ok pa hn
  walk_at "w"
  refine w_callX ?_
  walk_at "w"
  refine ⟨.ref a, prgD p, S, rfl, r, prg_small ok, prg_len ok, fun _ H1 c1 => ?_, fun o e => by rw [firstWrong_of ok] at e; cases e⟩
  walk_at "w"
  refine w_dictP (ps := ps) (kvs := gK (nmG p) ls) (c1.at ha) ?_ fun hp H2 nhp c2 hhp => ?_
  · have : ∀ {ps : List Addr} {kvs : List (Key × V)}, Paired (fun q kv => H q = some (.tup [kV kv.1, kv.2])) ps kvs → Paired (fun q kv => SqT K H1 q [kV kv.1, kv.2]) ps kvs := by
      intro ps kvs h
      induction h with
      | nil => exact .nil
      | cons h1 h2 ih => exact .cons (sqT (c1.at h1)) ih
    exact this hpr
  rw [prg_dict ok lls] at hhp
  have c02 := c1.same c2
  walk_at "w"
  refine k_tup (by walk_at "sz") fun e0 H3 ne0 c3 he0 => ?_
  have c03 := c02.same c3
  walk_at "w"
  refine w_callX ?_
  walk_at "w"
  refine ⟨a, p, ls, nm, rfl, pa.same c03, fun i l ei el => ?_, fun z => by rw [g6] at z; cases z⟩
  rw [g6] at ei
  cases ei
  rw [g5] at el
  cases el
  walk_at "w"
  refine k_make fun fa0 dx0 H4 nfa ndx nex c4 h4 => ⟨fa0, dx0, _, _, _, _, rfl, h4, fun H5 c5 h5 => ⟨rfl, ?_⟩⟩
  have c35 : Chg [] H3 H5 := c4.one c5 nfa
  walk_at "w"
  refine k_lst (by walk_at "sz") fun St H6 nSt c6 hSt => ?_
  have c06 := (c03.same c35).same c6
  walk_at "w"
  refine ⟨cv, cs, rfl, ca.same c06, lc, fun hd H7 nhd c7 hhd => ?_⟩
  walk_at "w"
  refine w_dnewK fun gd H8 ngd c8 hgd => ?_
  walk_at "w"
  refine k_lst (by walk_at "sz") fun Rc H9 nRc c9 hRc => ?_
  walk_at "w"
  have c69 := (c7.same c8).same c9
  have c09 := c06.same c69
  have hhp9 : H9 hp = some (.dK (gK (nmG p) ls)) := ((c3.same c35).same (c6.same c69)).at hhp
  -- the start
  have t0 : TI K H H9 p St Rc hd gd [] [fa0] [] (Mc.start p nm g (cStart cs)) := by
    have h5' := (c6.same c69).at h5
    have hSt' := c69.at hSt
    have hhd' := (c8.same c9).at hhd
    have hgd' := c9.at hgd
    have d1 : fa0 ≠ St := ne_of_none h5 nSt
    have d2 : hd ≠ St := fun z => by rw [z, hSt] at nhd; cases nhd
    have d3 : gd ≠ St := fun z => by rw [z, c7.at hSt] at ngd; cases ngd
    have d4 : Rc ≠ St := fun z => by rw [z, (c7.same c8).at hSt] at nRc; cases nRc
    have d5 : hd ≠ Rc := fun z => by rw [← z, c8.at hhd] at nRc; cases nRc
    have d6 : gd ≠ Rc := fun z => by rw [← z, hgd] at nRc; cases nRc
    have d7 : fa0 ≠ Rc := fun z => by rw [← z, ((c6.same c7).same c8).at h5] at nRc; cases nRc
    have d8 : gd ≠ hd := fun z => by rw [z, hhd] at ngd; cases ngd
    have d9 : fa0 ≠ hd := fun z => by rw [← z, c6.at h5] at nhd; cases nhd
    have d10 : fa0 ≠ gd := fun z => by rw [← z, (c6.same c7).at h5] at ngd; cases ngd
    have n1 : H fa0 = none := c03.dom _ nfa
    have n2 : H St = none := (c03.same c35).dom _ nSt
    have n3 : H hd = none := c06.dom _ nhd
    have n4 : H gd = none := (c06.same c7).dom _ ngd
    have n5 : H Rc = none := ((c06.same c7).same c8).dom _ nRc
    refine ⟨c09, ?_, fun x hx => ?_, hSt', rfl, fun i fa f h1 h2 => ?_, hRc, rfl, fun i ra r h1 h2 => (by simp at h1), hhd', ⟨hgd', rfl, List.nodup_nil, List.nodup_nil, fun i g l h1 h2 => (by simp at h2)⟩, Nat.le_trans (cStart_len cs) lc, Nat.le_refl _, fun g hg => (by cases hg), Nat.le_refl _⟩
    · simp only [List.nil_append, List.nodup_cons, List.mem_cons, List.not_mem_nil, or_false, not_or, not_false_iff, List.nodup_nil, and_true]
      exact ⟨⟨d4.symm, d2.symm, d3.symm, d1.symm⟩, ⟨d5.symm, d6.symm, d7.symm⟩, ⟨d8.symm, d9.symm⟩, d10.symm⟩
    · simp only [List.nil_append, List.mem_cons, List.not_mem_nil, or_false] at hx
      rcases hx with rfl | rfl | rfl | rfl | rfl
      · exact n2
      · exact n5
      · exact n3
      · exact n4
      · exact n1
    · cases i with
      | zero =>
        cases (Option.some.inj (show some fa0 = some fa from h1))
        cases (Option.some.inj (show some _ = some f from h2))
        refine ⟨⟨dx0, l0, .ref e0, ys0, h5', .tup ((c35.same (c6.same c69)).at he0) .nil, g8, ?_⟩, Nat.le_refl _, r0, g3, g4⟩
        show ImA H ys0 ((p.rows nm).map Stp.data)
        rw [g4]
        exact g9
      | succ i => simp at h1
  have php : hp ≠ hd := fun z => by
    have := (((c3.same c35).same c6)).at hhp
    rw [z, nhd] at this
    cases this
  have phg : hp ≠ gd := fun z => by
    have := (((c3.same c35).same c6).same c7).at hhp
    rw [z, ngd] at this
    cases this
  refine w_while ⟨TW K H p St Rc hd gd hp ls a nm g cv most (p.ran nm g cs most), ⟨_, Mc.start p nm g (cStart cs), [], [fa0], [], _, _, _, t0, hhp9, rfl, Nat.le_refl _, Nat.zero_le _, List.nodup_nil, fun x hx => (by cases hx), rfl⟩, fun n σ H1 inv => ?_⟩
  obtain ⟨m, gls, fas, rcs, y12, y13, y14, t, hp1, hgo, hsz, hrl, rnd, rnew, rfl⟩ := inv
  have hst1 := t.st
  walk_at "w"
  refine k_lst (by walk_at "sz") fun pe H2 npe c2' hpe => ?_
  have t2 := t.same c2'
  have hst2 := t2.st
  have hp2 := c2'.at hp1
  refine w_neE hst2 hpe ?_
  walk_at "w"
  cases hs : m.stack with
  | nil =>
    have e0 : fas = [] := List.length_eq_zero_iff.mp (by rw [t.fl, hs]; rfl)
    subst e0
    walk_at "w"
    refine k_tup (by walk_at "sz") fun T H3 nT c3' hT => ?_
    refine qs m ?_ T St Rc hd gd gls rcs H3 (t2.same c3') (by omega) hT
    rw [← hgo]
    exact go_nil hs
  | cons f r =>
    obtain ⟨fa, fas, rfl⟩ : ∃ fa fs, fas = fa :: fs := by
      cases fas with
      | nil => have := t.fl; rw [hs] at this; simp at this
      | cons a b => exact ⟨a, b, rfl⟩
    obtain ⟨n, rfl⟩ : ∃ n', n = n' + 1 := by
      have : 1 ≤ m.size most := by unfold Mc.size; rw [hs, List.length_cons]; omega
      exact ⟨n - 1, by omega⟩
    refine w_iteNo (by simp) ?_
    refine ⟨TW K H p St Rc hd gd hp ls a nm g cv most (p.ran nm g cs most) n, fun σ' H' h => ⟨n, Nat.lt_succ_self n, h⟩, ?_⟩
    have hfr2 := t2.fr 0 fa f rfl (by rw [hs]; rfl)
    obtain ⟨⟨dx, l, pv, ys, hf2, ipv2, hl0, iml⟩, hpath, rr, hrr, erows⟩ := hfr2
    have hl2 : H2 l = some (.lst ys) := t2.c.at hl0
    have lys : ys.length = f.rows.length := by rw [iml.length, List.length_map]
    have est : (fa :: fas).reverse.map V.ref = fas.reverse.map V.ref ++ [.ref fa] := by rw [List.reverse_cons, List.map_append]; rfl
    rw [est] at hst2
    have elast := atLast (xs := fas.reverse.map V.ref) (y := .ref fa)
    have hrc2 := t2.rc
    walk_at "w"
    refine w_iteD (fun hover => ?_) (fun hover => ?_)
    · have hnone : f.rows[f.at_]? = none := List.getElem?_eq_none (by omega)
      walk_at "w"
      refine w_pop hst2 fun H3 c3' h3 => ?_
      refine ⟨{ m with stack := r }, gls, fas, rcs, _, _, _, t2.pop hs c3' h3, c3'.at1 hp2 (fun z => by rw [z, hst2] at hp2; cases hp2), ?_, size_pop hs hsz, hrl, rnd, rnew, rfl⟩
      rw [← hgo, go_over hs hnone]
    have hat : f.at_ < f.rows.length := by omega
    have es : f.rows[f.at_]? = some f.rows[f.at_] := List.getElem?_eq_getElem hat
    generalize f.rows[f.at_] = s at es
    have smem : s ∈ rr.2 := by rw [← erows]; exact List.mem_of_getElem? es
    obtain ⟨bh, sok⟩ := stepsOk_mem (ok.steps rr hrr) s smem
    walk_at "w"
    rw [List.length_map, t.rl]
    refine w_iteD (fun hlong => ?_) (fun hlong => ?_)
    · show tRaiseX (He.ga K "TooLong") ["most"] E (tCons (tVar 4) tNil) _ _ _
      refine w_raiseX ?_
      walk_at "w"
      refine ⟨rfl, by simp, fun dd H3 c3' _ h3 => qn ?_ dd H3 (t2.c.same c3') h3⟩
      rw [← hgo, go_step hs es, if_pos hlong]
    have hrec : m.recs.length + 1 ≤ most.toNat := by omega
    have l2 : most.toNat ≤ 20000 := by omega
    walk_at "w"
    refine ⟨fa, hd, gd, f, s, m.cells, m.given, gls, ys, dx, l, pv, rfl, t2.nHd.1, hf2, ipv2, hl2, iml.im t2.c, es, fit_of sok, t2.hd, by have := t2.s1; omega, t2.gv, by have := t2.s2; omega, fun x hx => by have := t2.s3 x hx; omega, fun T rc mk gls' H3 c3' hf3 hh3 gv3 gl3 rn3 hT mkv => ?_⟩
    have nRc2 := t2.nRc
    have hrc3 : H3 Rc = some (.lst (rcs.map V.ref)) := c3'.keep _ _ t2.rc (by
      simp only [List.mem_cons, not_or]
      exact ⟨Ne.symm (nRc2.2.2.2 fa (by simp)), Ne.symm nRc2.1, Ne.symm nRc2.2.1, fun hm => nRc2.2.2.1 Rc hm rfl⟩)
    walk_at "w"
    refine w_append hrc3 (by rw [List.length_map, t.rl]; walk_at "sz") fun H4 c4' h4 => ?_
    have h4' : H4 Rc = some (.lst ((rcs ++ [rc]).map V.ref)) := by rw [List.map_append]; exact h4
    have th := t2.half (s := s) hs c3' ⟨dx, l, pv, ys, hf3, ipv2.im c3', hl0, iml⟩ hh3 gv3 gl3 rn3 c4' h4'
    obtain ⟨dxr, rlA, wlA, mvA, e1, e2, e3, e4, e5, e6, e7, e8, e9⟩ := rn3
    have rcN : H rc = none := t2.c.dom _ e5
    have rcRc : rc ≠ Rc := fun z => by rw [z, hrc3] at e1; exact nomatch e1
    have rcm : rc ∉ rcs := fun hm => by
      obtain ⟨i, hi⟩ := List.getElem?_of_mem hm
      have hj : i < m.recs.length := by rw [← t.rl]; exact (List.getElem?_eq_some_iff.mp hi).1
      obtain ⟨_, _, _, _, q1, _⟩ := t2.rs i rc _ hi (List.getElem?_eq_getElem hj)
      rw [e5] at q1
      cases q1
    have rnd' : (rcs ++ [rc]).Nodup := nd_snoc rnd rcm
    have rnew' : ∀ x ∈ rcs ++ [rc], H x = none := fun x hx => by
      rcases List.mem_append.mp hx with hx | hx
      · exact rnew x hx
      · rw [List.mem_singleton.mp hx]; exact rcN
    have hp4 : H4 hp = some (.dK (gK (nmG p) ls)) := by
      have h3 : H3 hp = some (.dK (gK (nmG p) ls)) := c3'.keep _ _ hp2 (by
        simp only [List.mem_cons, not_or]
        refine ⟨fun z => (by rw [z, hf2] at hp2; exact nomatch hp2), php, phg, fun hm => ?_⟩
        obtain ⟨i, hi⟩ := List.getElem?_of_mem hm
        have hg : i < m.given.length := by rw [← t2.gv.len]; exact (List.getElem?_eq_some_iff.mp hi).1
        have := t2.gv.rows i _ hp (List.getElem?_eq_getElem hg) hi
        rw [hp2] at this
        cases this)
      exact c4'.at1 h3 (fun z => by rw [z, hrc3] at h3; cases h3)
    have hT4 := c4'.tup _ _ hT
    walk_at "w"
    cases hmk : s.makes f.arg m.cells with
    | none =>
      rw [hmk] at mkv
      have mkv : mk = .non := mkv
      subst mkv
      walk_at "w"
      refine ⟨m.half f r s, gls', fa :: fas, rcs ++ [rc], _, _, _, th, hp4, ?_, ?_, ?_, rnd', rnew', rfl⟩
      · rw [← hgo, go_step hs es, if_neg hlong, did_none hmk]
      · have := size_did (p := p) (s := s) hs hlong hsz
        rw [did_none hmk] at this
        exact this
      · show (m.recs ++ [_]).length ≤ _
        rw [List.length_append, List.length_singleton]
        exact hrec
    | some o =>
      rw [hmk] at mkv
      obtain ⟨M, rfl, hM⟩ := mkv
      have hM4 := c4'.tup _ _ hM
      have rc4 := c4'.at1 e1 rcRc
      walk_at "w"
      refine s_Record_child rcC rc4 fun H5 c5' h5 => ?_
      have tc := th.child (c := f.rcd s m.cells) (c' := { f.rcd s m.cells with child := some m.many }) (rs0 := m.recs) rfl c5' rcN rc4 h5 ⟨rfl, rfl, rfl, rfl⟩ rcm
      have hM5 := c5'.tup _ _ hM4
      have hp5 := c5'.at1 hp4 (fun z => by rw [z, rc4] at hp4; exact nomatch hp4)
      have hst5 := tc.st
      obtain ⟨⟨dx5, l5, pv5, ys5, hf5, ipv5, hl05, iml5⟩, hpath5, _⟩ := tc.fr 0 fa (f.next s m.cells) rfl rfl
      obtain ⟨P, pxs, rfl, hP, iP⟩ := im_tup ipv5
      have lP : pxs.length = f.path.length := by rw [iP.length, List.length_map]; rfl
      walk_at "w"
      refine k_tup (by walk_at "sz") fun B H6 nB c6' hB => ?_
      refine w_catA (c6'.at hP) hB (by simp; omega) fun P2 H7 c7' hP2 => ?_
      have c57 := c6'.same c7'
      have hp7 := c57.at hp5
      have hM7 := c57.at hM5
      have ox := makes_in sok hmk
      obtain ⟨i1, l1, ys1, r1, b1, b2, b3, b4, b5, b6, b7, b8, b9⟩ := prg_at ok pa ox
      walk_at "w"
      refine d_dgetS hp7 b7 ?_
      walk_at "w"
      refine k_make fun nf dxn H8 nnf ndxn nexn c8' h8 => ⟨nf, dxn, _, _, _, _, rfl, h8, fun H9 c9' h9 => ⟨rfl, ?_⟩⟩
      have c79 : Chg [] H7 H9 := c8'.one c9' nnf
      have c59 : Chg [] H5 H9 := c57.same c79
      have hst9 := c59.at hst5
      walk_at "w"
      have lf : (fa :: fas).length = m.stack.length := t.fl
      have s4 := t.s4
      refine w_append hst9 (by rw [List.length_map, List.length_reverse, lf]; walk_at "sz") fun H10 c10' h10 => ?_
      have lr1 : (m.recs ++ [{ f.rcd s m.cells with child := some m.many }]).length = m.recs.length + 1 := by rw [List.length_append]; rfl
      have nfn : H5 nf = none := c57.dom _ nnf
      have tp := tc.push (nf := nf) (f := ⟨m.many, f.path ++ [f.born], p.rows o.1, o.2, 0, 0, 0⟩) c59 nfn ⟨dxn, l1, .ref P2, ys1, h9, ?_, b8, by show ImA H ys1 ((p.rows o.1).map Stp.data); rw [b4]; exact b9⟩ ?_ ⟨r1, b3, b4⟩ c10' h10 ?_
      rotate_left
      · show Im H9 (.ref P2) (.tuple ((f.path ++ [f.born]).map fun i => .int (i : Nat)))
        rw [List.map_append]
        exact .tup (c79.at hP2) ((iP.im c59).append (.cons (.int _) .nil))
      · show (f.path ++ [f.born]).length ≤ _
        rw [List.length_append, List.length_singleton]
        show f.path.length + 1 ≤ (m.recs ++ [_]).length
        rw [lr1]
        omega
      · show ((f.next s m.cells) :: r).length + 1 ≤ (m.recs ++ [_]).length + 1
        rw [lr1]
        rw [hs] at s4
        simpa using s4
      have hf10 : H10 fa = _ := c10'.at1 (c59.at hf5) (tc.nSt.2.2.2.2 fa (by simp))
      have hp10 := c10'.at1 (c59.at hp5) (fun z => by rw [z, hst5] at hp5; cases hp5)
      have hst10 := tp.st
      walk_at "w"
      refine e_Frame_born hf10 fun H11 c11' h11 => ?_
      have ts := tp.second (f0 := ⟨m.many, f.path ++ [f.born], p.rows o.1, o.2, 0, 0, 0⟩) (f := f.next s m.cells) (f2 := { f.next s m.cells with born := f.born + 1 }) (r := r) rfl c11' ⟨dx5, l5, .ref P, ys5, h11, ((ipv5.im c59).im c10').im c11', hl05, iml5⟩ rfl rfl
      have hst11 := ts.st
      walk_at "w"
      have edid := did_some (p := p) (m := m) (f := f) (r := r) (s := s) (x := o.1) (w := o.2) hmk
      refine ⟨m.did p f r s, gls', nf :: fa :: fas, rcs ++ [rc], some (.ref fa), some (.ref rc), some (.ref M), ?_, c11'.at1 hp10 (fun z => by rw [z, hf10] at hp10; exact nomatch hp10), ?_, size_did hs hlong hsz, ?_, rnd', rnew', ?_⟩
      · rw [edid]
        exact ⟨ts.c, ts.own, ts.new, ts.st, ts.fl, ts.fr, ts.rc, ts.rl, ts.rs, ts.hd, ts.gv, ts.s1, ts.s2, ts.s3, ts.s4⟩
      · rw [← hgo, go_step hs es, if_neg hlong]
      · rw [edid]
        show (m.recs ++ [_]).length ≤ _
        rw [lr1]
        exact hrec
      · rw [edid]
        have ls3 : ((nf :: fa :: fas).reverse.map V.ref).length = r.length + 2 := by
          rw [List.length_map, List.length_reverse]
          rw [hs] at lf
          simp only [List.length_cons] at lf ⊢
          omega
        rw [ls3]
        have emax : (if (((r.length + 2 : Nat)) : Int) > ((m.deep : Nat) : Int) then (((r.length + 2 : Nat)) : Int) else ((m.deep : Nat) : Int)) = ((max m.deep (r.length + 2) : Nat) : Int) := by
          split <;> omega
        rw [emax]
        rfl
end Fg
--LAW k07
namespace Fg
open PySem PySem.Spec PyProof.Rows L2
/-! ### the walk's small steps -/
local macro_rules | `(tactic| walk_at "hp") => `(tactic| first
  | assumption
  | exact upd_same
  | (refine Chg.at (by assumption) ?_; walk_at "hp")
  | (refine Chg.at1 (by assumption) ?_ (by walk_at "ne"); walk_at "hp"))
local macro_rules | `(tactic| walk_at "ne") => `(tactic| first | assumption | (apply Ne.symm; assumption))
local macro_rules | `(tactic| walk_at "sq") => `(tactic| first | assumption | exact sqL (by walk_at "hp") | (refine Chg.seq (by assumption) ?_; walk_at "sq"))
local macro_rules | `(tactic| walk_at "sz") => `(tactic| first | assumption | exact Nat.zero_le _ | (simp only [List.length_cons, List.length_nil]; decide) | exact Nat.le_trans (by first | omega | (simp; done) | (simp; omega)) (show 100000 ≤ sizeLine by decide) | exact Nat.lt_of_lt_of_le (by first | omega | (simp; done) | (simp; omega)) (show 100000 ≤ sizeLine by decide))
local macro_rules | `(tactic| walk_at "ix") => `(tactic| first | exact at0 | exact at1 | exact at2 | exact at3 | assumption | exact rfl | walk_at "ix2")
local macro_rules | `(tactic| walk_at "ix2") => `(tactic| fail)
local macro_rules | `(tactic| walk_at "num") => `(tactic| first | assumption | omega | decide | walk_at "num2")
local macro_rules | `(tactic| walk_at "num2") => `(tactic| fail)
local macro_rules | `(tactic| walk_at "im") => `(tactic| first | assumption | exact R.non (S := fun _ => False) | exact R.bl (S := fun _ => False) _ | exact R.int (S := fun _ => False) _ | exact R.str (S := fun _ => False) _ | (refine R.im (by assumption) ?_; walk_at "im"))
local macro_rules | `(tactic| walk_at "r") => `(tactic| first | assumption | exact R.non (S := fun _ => False) | exact R.bl (S := fun _ => False) _ | exact R.int (S := fun _ => False) _ | exact R.str (S := fun _ => False) _ | (refine R.same (by assumption) ?_; walk_at "r") | exact R.any (by walk_at "im"))
local macro_rules | `(tactic| walk_at "chg") => `(tactic| first
  | exact Chg.refl
  | assumption
  | (refine Chg.same ?_ (by assumption); walk_at "chg")
  | (refine Chg.both ?_ (by assumption); walk_at "chg")
  | (refine Chg.pre (by assumption) ?_; walk_at "chg"))
local macro_rules | `(tactic| walk_at "w1") => `(tactic| first
  | with_reducible apply w_seq
  | with_reducible apply w_asg
  | ((with_reducible apply w_var); (focus (exact rfl)))
  | with_reducible apply w_c
  | with_reducible apply w_op
  | with_reducible apply w_cons
  | with_reducible apply w_nil
  | with_reducible apply w_gName
  | with_reducible apply w_if
  | with_reducible apply w_test
  | with_reducible apply w_B
  | with_reducible apply w_isbl
  | with_reducible apply w_retN
  | with_reducible apply w_next
  | with_reducible apply w_drop
  | with_reducible apply w_cb
  | with_reducible apply w_call
  | with_reducible apply w_callN
  | with_reducible apply w_bm
  | with_reducible apply w_bm0
  | ((with_reducible apply w_tyL); (focus (walk_at "hp"; done)))
  | with_reducible apply w_dput
  | with_reducible apply w_m1
  | with_reducible apply w_isstr
  | with_reducible apply w_and
  | with_reducible apply w_or
  | with_reducible apply w_not
  | with_reducible apply w_andV
  | with_reducible apply w_orV
  | with_reducible apply w_notV
  | with_reducible apply w_ifE
  | with_reducible apply w_chain
  | with_reducible apply w_un
  | with_reducible apply w_neg
  | with_reducible apply w_add
  | with_reducible apply w_sub
  | ((with_reducible apply w_mod); (focus (walk_at "num"; done)))
  | ((with_reducible apply w_mul); (focus (walk_at "num"; done)))
  | ((with_reducible apply w_fdiv); (focus (walk_at "num"; done)))
  | ((with_reducible apply w_pow); (focus (walk_at "num"; done)))
  | with_reducible apply w_lt
  | with_reducible apply w_le
  | with_reducible apply w_gt
  | with_reducible apply w_ge
  | with_reducible apply w_ltS
  | with_reducible apply w_geS
  | with_reducible apply w_inC
  | with_reducible apply w_notInC
  | with_reducible apply w_isN
  | with_reducible apply w_notN
  | with_reducible apply w_isB
  | with_reducible apply w_notB
  | ((with_reducible apply w_addS); (focus (walk_at "sz"; done)))
  | ((with_reducible apply w_ixL); (focus (walk_at "sq"; done)); (focus (walk_at "ix"; done)))
  | ((with_reducible apply w_ixT); (focus (walk_at "hp"; done)); (focus (walk_at "ix"; done)))
  | ((with_reducible apply w_ixS); (focus (walk_at "sz"; done)); (focus (walk_at "ix"; done)))
  | with_reducible apply w_gSub
  | ((with_reducible apply w_gTup); (focus (walk_at "hp"; done)); (focus (exact rfl)))
  | with_reducible apply w_gCons
  | with_reducible apply w_gNil
  | ((with_reducible apply w_aug); (focus (exact rfl)))
  | with_reducible apply w_ipI
  | ((with_reducible apply w_eq); (focus (exact rfl)))
  | ((with_reducible apply w_ne); (focus (exact rfl)))
  | with_reducible apply w_max
  | with_reducible apply w_min
  | with_reducible apply w_abs
  | with_reducible apply w_intB
  | with_reducible apply w_intI
  | with_reducible apply w_tup1
  | with_reducible apply w_lst1
  | with_reducible apply w_sl
  | with_reducible apply w_part
  | with_reducible apply w_noPart
  | with_reducible apply w_isint
  | ((with_reducible apply w_slS); (focus (walk_at "sz"; done)))
  | with_reducible apply w_iteT
  | with_reducible apply w_iteF
  | with_reducible apply w_iteN
  | ((with_reducible apply w_iteYes); (focus (exact rfl)))
  | ((with_reducible apply w_iteNo); (focus (exact rfl)))
  | ((with_reducible apply w_lenL); (focus (walk_at "sq"; done)))
  | ((with_reducible apply w_lenT); (focus (walk_at "hp"; done)))
  | ((with_reducible apply w_lenS); (focus (walk_at "sz"; done)))
  | with_reducible apply w_lc
  | with_reducible apply w_for
  | with_reducible apply w_yes
  | ((with_reducible apply w_wipe); (focus (exact rfl)))
  | with_reducible apply w_iList
  | with_reducible apply w_iTup
  | with_reducible apply w_iStr
  | with_reducible apply w_iRng1
  | with_reducible apply w_iRng2
  | with_reducible apply w_iZip
  | with_reducible apply w_iEnum
  | ((with_reducible apply d_iList); (focus (walk_at "sq"; done)))
  | ((with_reducible apply d_iTup); (focus (walk_at "hp"; done)))
  | with_reducible apply d_iStr
  | ((with_reducible apply d_iRng1); (focus (walk_at "num"; done)); (focus (walk_at "num"; done)))
  | ((with_reducible apply d_iRng2); (focus (walk_at "num"; done)); (focus (walk_at "num"; done)); (focus (walk_at "num"; done)); (focus (walk_at "num"; done)))
  | ((with_reducible apply d_iZip); (focus (walk_at "sq"; done)); (focus (walk_at "sq"; done)))
  | ((with_reducible apply d_iEnum); (focus (walk_at "sq"; done)))
  | walk_at "w2")
local macro_rules | `(tactic| walk_at "w2") => `(tactic| fail)
local macro_rules | `(tactic| walk_at "wn") => `(tactic| repeat walk_at "w1")
local macro_rules | `(tactic| walk_at "w") => `(tactic| repeat (first | walk_at "w1" | with_reducible apply w_ret))

local macro_rules | `(tactic| walk_at "w2") => `(tactic| first
  | ((with_reducible apply w_isInt); (focus (walk_at "r"; done)))
  | ((with_reducible apply w_isBool); (focus (walk_at "r"; done)))
  | ((with_reducible apply w_isStr); (focus (walk_at "r"; done)))
  | ((with_reducible apply w_isTup); (focus (walk_at "r"; done)))
  | ((with_reducible apply w_isLst); (focus (walk_at "r"; done)))
  | with_reducible apply w_fld
  | with_reducible apply w_sfld
  | with_reducible apply w_faug
  | with_reducible apply w_rAdd
  | with_reducible apply w_rSub
  | with_reducible apply w_make
  | with_reducible apply w_orT
  | with_reducible apply w_dgetd
  | with_reducible apply w_dgetk
  | with_reducible apply w_dsetd
  | ((with_reducible apply k_dgetd); (focus (walk_at "hp"; done)))
  | ((with_reducible apply k_dsetd); (focus (walk_at "hp"; done)))
  | walk_at "w3")
local macro_rules | `(tactic| walk_at "w3") => `(tactic| fail)

local macro_rules | `(tactic| walk_at "w3") => `(tactic| first
  | ((with_reducible apply g_Frame_number); (focus (assumption; done)); (focus (walk_at "hp"; done)))
  | ((with_reducible apply u_Frame_number); (focus (assumption; done)); (focus (walk_at "hp"; done)))
  | ((with_reducible apply g_Frame_path); (focus (assumption; done)); (focus (walk_at "hp"; done)))
  | ((with_reducible apply u_Frame_path); (focus (assumption; done)); (focus (walk_at "hp"; done)))
  | ((with_reducible apply g_Frame_rows); (focus (assumption; done)); (focus (walk_at "hp"; done)))
  | ((with_reducible apply u_Frame_rows); (focus (assumption; done)); (focus (walk_at "hp"; done)))
  | ((with_reducible apply g_Frame_arg); (focus (assumption; done)); (focus (walk_at "hp"; done)))
  | ((with_reducible apply u_Frame_arg); (focus (assumption; done)); (focus (walk_at "hp"; done)))
  | ((with_reducible apply g_Frame_at); (focus (assumption; done)); (focus (walk_at "hp"; done)))
  | ((with_reducible apply u_Frame_at); (focus (assumption; done)); (focus (walk_at "hp"; done)))
  | ((with_reducible apply g_Frame_past); (focus (assumption; done)); (focus (walk_at "hp"; done)))
  | ((with_reducible apply u_Frame_past); (focus (assumption; done)); (focus (walk_at "hp"; done)))
  | ((with_reducible apply g_Frame_born); (focus (assumption; done)); (focus (walk_at "hp"; done)))
  | ((with_reducible apply u_Frame_born); (focus (assumption; done)); (focus (walk_at "hp"; done)))
  | ((with_reducible apply g_Record_mark); (focus (assumption; done)); (focus (walk_at "hp"; done)))
  | ((with_reducible apply u_Record_mark); (focus (assumption; done)); (focus (walk_at "hp"; done)))
  | ((with_reducible apply g_Record_word); (focus (assumption; done)); (focus (walk_at "hp"; done)))
  | ((with_reducible apply u_Record_word); (focus (assumption; done)); (focus (walk_at "hp"; done)))
  | ((with_reducible apply g_Record_doer); (focus (assumption; done)); (focus (walk_at "hp"; done)))
  | ((with_reducible apply u_Record_doer); (focus (assumption; done)); (focus (walk_at "hp"; done)))
  | ((with_reducible apply g_Record_child); (focus (assumption; done)); (focus (walk_at "hp"; done)))
  | ((with_reducible apply u_Record_child); (focus (assumption; done)); (focus (walk_at "hp"; done)))
  | ((with_reducible apply g_Record_reads); (focus (assumption; done)); (focus (walk_at "hp"; done)))
  | ((with_reducible apply u_Record_reads); (focus (assumption; done)); (focus (walk_at "hp"; done)))
  | ((with_reducible apply g_Record_writes); (focus (assumption; done)); (focus (walk_at "hp"; done)))
  | ((with_reducible apply u_Record_writes); (focus (assumption; done)); (focus (walk_at "hp"; done)))
  | ((with_reducible apply g_Outcome_cells); (focus (assumption; done)); (focus (walk_at "hp"; done)))
  | ((with_reducible apply u_Outcome_cells); (focus (assumption; done)); (focus (walk_at "hp"; done)))
  | ((with_reducible apply g_Outcome_given); (focus (assumption; done)); (focus (walk_at "hp"; done)))
  | ((with_reducible apply u_Outcome_given); (focus (assumption; done)); (focus (walk_at "hp"; done)))
  | ((with_reducible apply g_Outcome_steps); (focus (assumption; done)); (focus (walk_at "hp"; done)))
  | ((with_reducible apply u_Outcome_steps); (focus (assumption; done)); (focus (walk_at "hp"; done)))
  | ((with_reducible apply g_Outcome_deepest); (focus (assumption; done)); (focus (walk_at "hp"; done)))
  | ((with_reducible apply u_Outcome_deepest); (focus (assumption; done)); (focus (walk_at "hp"; done))))
def giftD (g : Str × List Int) : PyData := .tuple [.str g.1, .list (g.2.map PyData.int)]
def giftsD (gv : Given) : PyData := .list (gv.map giftD)
theorem imInts {S : Addr → Prop} {H : Hp} : ∀ ns : List Int, RA S H (ns.map V.int) (ns.map PyData.int)
  | [] => .nil
  | n :: r => .cons (.int n) (imInts r)
theorem ints_of {S : Addr → Prop} {H : Hp} : ∀ {ns : List Int} {xs : List V}, RA S H xs (ns.map PyData.int) → xs = ns.map V.int
  | [], _, h => by cases h; rfl
  | n :: r, _, h => by
    cases h with
    | cons a b => rw [ints_of b]; cases a; rfl
/-- an Outcome in the heap, its lists were not there in H0 -/
def OutAt (K : PySem.W.Frag) (H0 H : Hp) (o : Addr) (cds : List PyData) (gv : Given) (sds : List PyData) (dv : V) : Prop := ∃ (dx cl gl sl : Addr), H o = some (O_Outcome K dx (.ref cl) (.ref gl) (.ref sl) dv) ∧ R (fun a => H0 a = none) H (.ref cl) (.list cds) ∧ R (fun a => H0 a = none) H (.ref gl) (giftsD gv) ∧ R (fun a => H0 a = none) H (.ref sl) (.list sds)
def sp_Outcome___init__ (K : PySem.W.Frag) : Sp := fun vs H Q _ => ∃ (x dx cl gl sl : Addr) (dv : V) (cxs sxs : List V) (cds sds : List PyData) (gv : Given) (S : Addr → Prop), vs = [.ref x, .ref cl, .ref gl, .ref sl, dv] ∧ H x = some (.ins (He.ga K "Outcome") dx []) ∧ H cl = some (.lst cxs) ∧ ImA H cxs cds ∧ R S H (.ref gl) (giftsD gv) ∧ gv.length ≤ 50000 ∧ H sl = some (.lst sxs) ∧ ImA H sxs sds ∧
  ∀ H', Chg [x] H H' → OutAt K H H' x cds gv sds dv → Q .non H'
def t_Outcome___init__ (K : PySem.W.Frag) : TS :=
    tSeq (sFld K (tVar 0) (tCB (cListQ K) (tCons (tVar 1) (tNil))) "cells")
    (tSeq (sFld K (tVar 0) (tLc (iList K (tVar 2)) (gTup K 2 (gCons (gName 5) (gCons (gName 6) (gNil)))) (tYes) (tTup (tCons (tVar 5) (tCons (tCB (cListQ K) (tCons (tVar 6) (tNil))) (tNil)))) [5, 6]) "given")
    (tSeq (sFld K (tVar 0) (tCB (cListQ K) (tCons (tVar 3) (tNil))) "steps")
    (sFld K (tVar 0) (tVar 4) "deepest")))
theorem pure_Outcome___init__ {K : PySem.W.Frag} (CF : CFs K) (vs : List V) (H : Hp) (Q : VK) (E : XK) (h : sp_Outcome___init__ K vs H Q E) : t_Outcome___init__ K (fin Q) (start ["self", "cells", "given", "steps", "deepest", "name", "worths"] vs) H := by
  obtain ⟨x, dx, cl, gl, sl, dv, cxs, sxs, cds, sds, gv, S, rfl, hx, hcl, icl, rg, lg, hsl, isl, q⟩ := h
  show t_Outcome___init__ K _ [some (.ref x), some (.ref cl), some (.ref gl), some (.ref sl), some dv, none, none] H
  unfold t_Outcome___init__
  have oc := CF.oc
  have nx : ∀ {a : Addr} {xs : List V}, H a = some (.lst xs) → a ≠ x := fun ha z => by rw [z, hx] at ha; cases ha
  walk_at "w"
  refine w_listL (sqL hcl) fun c1 H1 nc1 k1 hc1 => ?_
  walk_at "w"
  refine n_Outcome_cells oc (k1.at hx) fun H2 k2 hx2 => ?_
  have k02 : Chg [x] H H2 := (k1.wide (by simp)).both k2
  have c1x : c1 ≠ x := fun z => by rw [z, hx] at nc1; cases nc1
  cases rg with
  | @lst _ gxs _ sg hgl rgs =>
  have hgl2 := k02.at1 hgl (nx hgl)
  have lgx : gxs.length = gv.length := by rw [rgs.length, List.length_map]
  walk_at "w"
  refine w_lcW (walk_list (K := K) (a := gl) (xs := gxs)) (fun D i acc H3 => Chg [] H2 H3 ∧ RA (fun a => H a = none ∧ a ≠ D ∧ a ≠ x) H3 acc ((gv.take i).map giftD)) (fun D H3 nD c hD => ⟨c, .nil⟩) (fun D i acc H3 _ _ z => sqL (z.1.at hgl2)) (fun D i acc y H3 H4 hi nD hD el iv yy => ?_) (fun D acc H3 nD el hD iv => ?_)
  · obtain ⟨rfl, ey⟩ := yy
    obtain ⟨c3, ra⟩ := iv
    have hi' : i < gv.length := by omega
    obtain ⟨d1, ed, r1⟩ := rgs.get ey
    rw [List.getElem?_map, List.getElem?_eq_getElem hi'] at ed
    cases ed
    cases r1 with
    | @tup T0 _ _ e2 ra2 =>
      cases ra2 with
      | cons r0 rs0 =>
        cases rs0 with
        | cons r3 rs3 =>
          cases rs3
          cases r0
          cases r3 with
          | @lst l4 ys4 _ s4 e4 ra4 =>
            have e2' := c3.at (k02.tup _ _ e2)
            have e4' := c3.at (k02.at1 e4 (nx e4))
            have ei := ints_of ra4
            subst ei
            walk_at "w"
            refine w_listL (sqL e4') fun l5 H5 n5 c5 h5 => ?_
            walk_at "w"
            refine k_tup (by walk_at "sz") fun T H6 nT c6 hT => ?_
            have c56 := c5.same c6
            have n5' : H l5 = none := k02.dom _ (c3.dom _ n5)
            have ne5 : l5 ≠ D := fun z => by rw [z, hD] at n5; cases n5
            have ne6 : l5 ≠ x := fun z => by rw [z, hx] at n5'; cases n5'
            have hT3 : T ≠ D := fun z => by rw [z, c5.at hD] at nT; cases nT
            refine lc_end (c56.at hD) el (by omega) fun H7 c7 h7 => ⟨(c3.same c56).one c7 nD, ?_⟩
            rw [List.take_add_one, List.getElem?_eq_getElem hi', Option.toList_some, List.map_append]
            have k := (ra.same c56).keep c7 fun a sa hm => sa.2.1 (List.mem_singleton.mp hm)
            exact k.snoc (.tup (c7.at1 hT hT3) (.cons (.str _) (.cons (.lst ⟨n5', ne5, ne6⟩ (c7.at1 (c6.at h5) ne5) (imInts _)) .nil)))
  · obtain ⟨c3, ra⟩ := iv
    rw [lgx, List.take_length] at ra
    have nDH : H D = none := k02.dom _ nD
    have Dx : D ≠ x := fun z => by rw [z, hx] at nDH; cases nDH
    walk_at "w"
    refine n_Outcome_given oc (c3.at hx2) fun H4 k4 hx4 => ?_
    have c24 : Chg [x] H2 H4 := (c3.wide (by simp)).both k4
    have k04 := k02.both c24
    walk_at "w"
    refine w_listL (sqL (k04.at1 hsl (nx hsl))) fun s1 H5 ns1 k5 hs1 => ?_
    walk_at "w"
    refine n_Outcome_steps oc (k5.at hx4) fun H6 k6 hx6 => ?_
    have s1x : s1 ≠ x := fun z => by rw [z, hx4] at ns1; cases ns1
    walk_at "w"
    refine n_Outcome_deepest oc hx6 fun H7 k7 hx7 => ?_
    have c47 : Chg [x] H4 H7 := ((k5.wide (by simp)).both k6).both k7
    have k07 := k04.both c47
    refine q H7 k07 ⟨dx, c1, D, s1, hx7, .lst nc1 (c47.at1 (c24.at1 (k2.at1 hc1 c1x) c1x) c1x) (icl.im k07).any, .lst nDH (c47.at1 (k4.at1 hD Dx) Dx) ?_, .lst (k04.dom _ ns1) (k7.at1 (k6.at1 hs1 s1x) s1x) (isl.im k07).any⟩
    exact (ra.keep (k4.both c47) fun a sa hm => sa.2.2 (List.mem_singleton.mp hm)).mono fun a h => h.1
/-! ### run -/
def gAt (gv : Given) (x : Str) : List Int := ((gv.find? fun g => decide (g.1 = x)).map (·.2)).getD []
def srtG (gv : Given) : Given := (srtS (gv.map (·.1))).map fun x => (x, gAt gv x)
def markDs (m : Mc) : List PyData := m.recs.map fun r => markD r.path r.past
theorem gAt_of {gv : Given} {i : Nat} {x : Str} {row : List Int} (nd : (gv.map (·.1)).Nodup) (h : gv[i]? = some (x, row)) : gAt gv x = row := by
  unfold gAt
  have : (gv.find? fun g => decide (g.1 = x)) = some (x, row) := by
    rw [List.find?_eq_some_iff_getElem]
    obtain ⟨hi, e⟩ := List.getElem?_eq_some_iff.mp h
    refine ⟨decide_eq_true rfl, i, hi, e, fun j hj => ?_⟩
    have : gv[j].1 ≠ x := fun z => by
      have e5 : (gv.map (·.1))[j]? = (gv.map (·.1))[i]? := by
        rw [List.getElem?_map, List.getElem?_map, h, List.getElem?_eq_getElem (by omega)]
        show some gv[j].1 = some x
        rw [z]
      have := (List.getElem?_inj (by rw [List.length_map]; omega) nd).mp e5
      omega
    simpa using this
  rw [this]
  rfl
def sp_run (K : PySem.W.Frag) : Sp := fun vs H Q E => ∃ (a : Addr) (p : Prg) (nm : Str) (g : Int) (cv : V) (cs : Cells) (most : Int) (S : Addr → Prop), vs = [.ref a, .str nm, .int g, cv, .int most] ∧ R S H (.ref a) (prgD p) ∧ PrgOk p ∧ nm ∈ p.map (·.1) ∧ CellsAt H cv cs ∧ cs.length ≤ 5000 ∧ most ≤ 5000 ∧ (∀ m, p.ran nm g cs most = some m → m.given.length < 64) ∧
  (∀ m, p.ran nm g cs most = some m → ∀ (o : Addr) (H' : Hp), H o = none → Chg [] H H' → OutAt K H H' o ((notN m.cells).map pairD) (srtG m.given) (markDs m) (.int (m.deep : Nat)) → Q (.ref o) H') ∧
  (p.ran nm g cs most = none → ∀ dd H', Chg [] H H' → H' dd = some (.xd (xfs ["most"] [.int most] [])) → E (.ref (He.ga K "TooLong")) (some dd) H')
def t_run (E : XK) (K : PySem.W.Frag) : TS :=
    tSeq (tAsg (tCallSD (sp_trace K) [] (WE (fun cls d _ H => E cls d H)) (tCons (tVar 0) (tCons (tVar 1) (tCons (tVar 2) (tCons (tVar 3) (tCons (tVar 4) (tNil))))))) (gTup K 4 (gCons (gName 5) (gCons (gName 6) (gCons (gName 7) (gCons (gName 8) (gNil)))))))
    (tSeq (tAsg (tLc (iList K (tCB cSortDS (tCons (tVar 7) (tNil)))) (gName 10) (tYes) (tTup (tCons (tVar 10) (tCons (tDGet (tVar 7) (tVar 10)) (tNil)))) [10]) (gName 9))
    (tRet (tMake (He.ga K "Outcome") (sp_Outcome___init__ K) [] E0 (tCons (tCall sp_not_nought [] E0 (tCons (tVar 6) (tNil))) (tCons (tVar 9) (tCons (tLc (iList K (tVar 5)) (gName 11) (tYes) (tFld K (tVar 11) "mark") [11]) (tCons (tVar 8) (tNil))))))))
theorem OutAt.old {K : PySem.W.Frag} {H0 H0' H : Hp} {o : Addr} {cds sds : List PyData} {gv : Given} {dv : V} (h : OutAt K H0 H o cds gv sds dv) (c : ∀ a, H0 a = none → H0' a = none) : OutAt K H0' H o cds gv sds dv := by
  obtain ⟨dx, cl, gl, sl, h1, h2, h3, h4⟩ := h
  exact ⟨dx, cl, gl, sl, h1, h2.mono c, h3.mono c, h4.mono c⟩
theorem OutAt.same {K : PySem.W.Frag} {H0 H H' : Hp} {o : Addr} {cds sds : List PyData} {gv : Given} {dv : V} (h : OutAt K H0 H o cds gv sds dv) (c : Chg [] H H') : OutAt K H0 H' o cds gv sds dv := by
  obtain ⟨dx, cl, gl, sl, h1, h2, h3, h4⟩ := h
  exact ⟨dx, cl, gl, sl, c.at h1, h2.same c, h3.same c, h4.same c⟩
theorem pure_run {K : PySem.W.Frag} (CF : CFs K) (vs : List V) (H : Hp) (Q : VK) (E : XK) (h : sp_run K vs H Q E) : t_run E K (fin Q) (start ["program", "name", "arg", "cells", "most", "records", "held", "given", "deepest", "gifts", "one", "record"] vs) H := by
  obtain ⟨a, p, nm, g, cv, cs, most, S, rfl, r, ok, hn, ca, lc, hm, few, qs, qn⟩ := h
  show t_run E K _ [some (.ref a), some (.str nm), some (.int g), some cv, some (.int most), none, none, none, none, none, none, none] H
  unfold t_run
  have rcC := CF.rc
  walk_at "w"
  refine w_callX ?_
  walk_at "w"
  refine ⟨a, p, nm, g, cv, cs, most, S, rfl, r, ok, hn, ca, by omega, by omega, fun m em T St Rc hd gd gls rcs H1 t lr hT => ?_, fun en dd H1 c1 hd => qn en dd H1 c1 hd⟩
  have s1 := t.s1
  have s2 := t.s2
  have few64 := few m em
  walk_at "w"
  refine w_sortDS t.gv.dict (gK_keys t.gv.len) (by rw [List.length_map]; exact few64) fun sl H2 nsl c2 hsl => ?_
  have gv2 := t.gv.same c2
  walk_at "w"
  have lsl : (srtS (m.given.map (·.1))).length = m.given.length := by rw [(srtS_perm _).length_eq, List.length_map]
  refine w_lcW (walk_list (K := K) (a := sl) (xs := (srtS (m.given.map (·.1))).map V.str)) (fun D i acc H3 => Chg [] H2 H3 ∧ RA (fun a => a ∈ gls) H3 acc (((srtG m.given).take i).map giftD)) (fun D H3 nD c hD => ⟨c, .nil⟩) (fun D i acc H3 _ _ z => sqL (z.1.at hsl)) (fun D i acc y H3 H4 hi nD hD el iv yy => ?_) (fun D acc H3 nD el hD iv => ?_)
  · obtain ⟨rfl, ey⟩ := yy
    obtain ⟨c3, ra⟩ := iv
    rw [List.length_map] at hi
    rw [List.getElem?_map, List.getElem?_eq_getElem hi] at ey
    cases ey
    have hmem : (srtS (m.given.map (·.1)))[i] ∈ m.given.map (·.1) := (srtS_perm _).mem_iff.mp (List.getElem_mem hi)
    have et : (srtG m.given).take (i + 1) = (srtG m.given).take i ++ [((srtS (m.given.map (·.1)))[i], gAt m.given (srtS (m.given.map (·.1)))[i])] := by
      unfold srtG
      rw [List.take_add_one, List.getElem?_map, List.getElem?_eq_getElem hi]
      rfl
    generalize (srtS (m.given.map (·.1)))[i] = x at hmem et ⊢
    rcases gv_cases m.given gls x t.gv.len t.gv.names with ⟨_, n⟩ | ⟨j, l, row, e1, e2, e3⟩
    · exact absurd hmem n
    have eg := gAt_of t.gv.names e1
    have hd3 := c3.at gv2.dict
    have hl3 := c3.at (gv2.rows j _ l e1 e2)
    walk_at "w"
    refine d_dgetS hd3 e3 ?_
    walk_at "w"
    refine k_tup (by walk_at "sz") fun TT H5 nT c5 hTT => ?_
    refine lc_end (c5.at hD) el (by omega) fun H6 c6 h6 => ⟨(c3.same c5).one c6 nD, ?_⟩
    have mem := List.mem_of_getElem? e2
    have lne : l ≠ D := fun z => by
      have := gv2.rows j _ l e1 e2
      rw [z, nD] at this
      cases this
    have keepS : ∀ a, a ∈ gls → a ∉ [D] := fun a ha hm2 => by
      obtain ⟨i2, hi2⟩ := List.getElem?_of_mem ha
      have hg : i2 < m.given.length := by rw [← t.gv.len]; exact (List.getElem?_eq_some_iff.mp hi2).1
      have := gv2.rows i2 _ a (List.getElem?_eq_getElem hg) hi2
      rw [List.mem_singleton.mp hm2, nD] at this
      cases this
    rw [et, List.map_append, eg]
    exact ((ra.same c5).keep c6 keepS).snoc (.tup (c6.tup _ _ hTT) (.cons (.str _) (.cons (.lst mem (c6.at1 (c5.at hl3) lne) (imInts _)) .nil)))
  obtain ⟨c3, ra⟩ := iv
  rw [List.length_map] at ra
  have lG : (srtG m.given).length = (srtS (m.given.map (·.1))).length := by unfold srtG; rw [List.length_map]
  rw [← lG, List.take_length] at ra
  have c13 := c2.same c3
  have hh3 := c13.at t.hd
  walk_at "w"
  refine ⟨hd, m.cells, rfl, hh3, by omega, fun cl cxs H4 ncl c4 hcl icl => ?_⟩
  have c14 := c13.same c4
  have t4 := t.same c14
  have hrc4 := t4.rc
  walk_at "w"
  refine w_lcP (walk_list (K := K) (a := Rc) (xs := rcs.map V.ref)) [] (fun _ _ => True) (fun i y H => ∃ rr, m.recs[i]? = some rr ∧ Im H y (markD rr.path rr.past)) trivial (fun _ _ _ _ _ _ _ => trivial) (fun H5 c => sqL (c.at hrc4)) (fun D2 i acc2 z H5 H6 hi nD2 hD2 el2 iv2 c5 _ yy => ?_) (fun D2 acc2 H5 nD2 c5 _ el2 hD2 ys2 => ?_)
  · obtain ⟨rfl, ey⟩ := yy
    rw [List.length_map] at hi
    rw [List.getElem?_map, List.getElem?_eq_getElem hi] at ey
    cases ey
    have hj : i < m.recs.length := by rw [← t.rl]; exact hi
    obtain ⟨dxr, rl, wl, mv, q1, q2, q3, q4, _⟩ := t4.rs i rcs[i] m.recs[i] (List.getElem?_eq_getElem hi) (List.getElem?_eq_getElem hj)
    have q1' := c5.at q1
    walk_at "w"
    exact lcp_end (fun _ _ _ _ _ _ _ => trivial) (fun _ _ _ _ _ _ c h => by obtain ⟨rr, h1, h2⟩ := h; exact ⟨rr, h1, h2.im c⟩) nD2 (fun a ha => by cases ha) hD2 el2 (by have := t.rl; omega) iv2 .refl trivial ⟨m.recs[i], List.getElem?_eq_getElem hj, q2.im c5⟩
  have imk : ImA H5 acc2 (markDs m) := by
    have la : acc2.length = m.recs.length := by rw [el2, List.length_map, t.rl]
    have : ∀ {acc : List V} {rs : List Rcd}, acc.length = rs.length → (∀ (i : Nat) (y : V), acc[i]? = some y → ∃ rr, rs[i]? = some rr ∧ Im H5 y (markD rr.path rr.past)) → ImA H5 acc (rs.map fun r => markD r.path r.past) := by
      intro acc
      induction acc with
      | nil =>
        intro rs h _
        cases rs with
        | nil => exact .nil
        | cons a b => simp at h
      | cons v acc ih =>
        intro rs h hh
        cases rs with
        | nil => simp at h
        | cons a b =>
          obtain ⟨rr, e, im⟩ := hh 0 v rfl
          cases (Option.some.inj (show some a = some rr from e))
          exact .cons im (ih (by simpa using h) fun i y hy => hh (i + 1) y hy)
    exact this la ys2
  walk_at "w"
  refine k_make fun o dxo H6 no ndxo neo c6 h6 => ?_
  have c46 := c5.same c6
  have rD : R (fun a => a ∈ D :: gls) H6 (.ref D) (giftsD (srtG m.given)) := .lst (by simp) ((c4.same c46).at hD) ((ra.same (c4.same c46)).mono fun a h => List.mem_cons_of_mem _ h)
  refine ⟨o, dxo, cl, D, D2, _, cxs, acc2, _, _, srtG m.given, _, rfl, h6, c46.at hcl, icl.im c46, rD, by rw [lG, lsl]; omega, c6.at hD2, imk.im c6, fun H7 c7 oa => ⟨rfl, ?_⟩⟩
  have c06 : Chg [] H H6 := (t.c.same c14).same c46
  have no0 : H o = none := ((t.c.same c14).same c5).dom _ no
  exact qs m em o H7 no0 (c06.one c7 no0) (oa.old fun a ha => c06.dom a ha)
def sp_Outcome___len__ (K : PySem.W.Frag) : Sp := fun vs H Q _ => ∃ (x dx sl : Addr) (v1 v2 v4 : V) (xs : List V), vs = [.ref x] ∧ H x = some (O_Outcome K dx v1 v2 (.ref sl) v4) ∧ H sl = some (.lst xs) ∧ Q (.int xs.length) H
def t_Outcome___len__ (K : PySem.W.Frag) : TS :=
    tRet (tCB (cLenQ K) (tCons (tFld K (tVar 0) "steps") (tNil)))
theorem pure_Outcome___len__ {K : PySem.W.Frag} (CF : CFs K) (vs : List V) (H : Hp) (Q : VK) (E : XK) (h : sp_Outcome___len__ K vs H Q E) : t_Outcome___len__ K (fin Q) (start ["self"] vs) H := by
  obtain ⟨x, dx, sl, v1, v2, v4, xs, rfl, hx, hs, q⟩ := h
  show t_Outcome___len__ K _ [some (.ref x)] H
  unfold t_Outcome___len__
  have oc := CF.oc
  walk_at "w"
  exact q
end Fg
namespace Fg
open PySem PySem.Spec PyProof.Rows L2
/-! ### what was given, each list made anew -/
theorem mapK_gK (pn : Addr) : ∀ {gv : Given} {ls : List Addr} {i : Nat} {x : Str} {row : List Int}, ls.length = gv.length → (gv.map (·.1)).Nodup → gv[i]? = some (x, row) → (gK gv ls).map (fun kv => if kv.1 = Sum.inr x then (kv.1, V.ref pn) else kv) = gK gv (ls.set i pn)
  | [], _, _, _, _, _, _, h => by simp at h
  | g :: gv, [], i, x, row, h0, _, h => by simp at h0
  | g :: gv, l :: ls, 0, x, row, h0, nd, h => by
    cases (Option.some.inj (show some g = some (x, row) from h))
    obtain ⟨n1, n2⟩ := List.nodup_cons.mp nd
    show (if (Sum.inr x : Key) = Sum.inr x then ((Sum.inr x : Key), V.ref pn) else _) :: (gK gv ls).map _ = (Sum.inr x, V.ref pn) :: gK gv ls
    rw [if_pos rfl]
    congr 1
    have e : ∀ kv ∈ gK gv ls, (if kv.1 = Sum.inr x then (kv.1, V.ref pn) else kv) = kv := fun kv hkv => by
      rw [if_neg]
      intro z
      have : kv.1 ∈ (gK gv ls).map (·.1) := List.mem_map.mpr ⟨kv, hkv, rfl⟩
      rw [gK_keys (by simpa using h0), z] at this
      obtain ⟨y, hy, ey⟩ := List.mem_map.mp this
      cases ey
      exact n1 hy
    rw [List.map_congr_left e, List.map_id']
  | g :: gv, l :: ls, i + 1, x, row, h0, nd, h => by
    have h' : gv[i]? = some (x, row) := h
    obtain ⟨n1, n2⟩ := List.nodup_cons.mp nd
    have ne : ¬ (Sum.inr g.1 : Key) = Sum.inr x := fun z => n1 (List.mem_map.mpr ⟨_, List.mem_of_getElem? h', (Sum.inr.inj z).symm⟩)
    show (if (Sum.inr g.1 : Key) = Sum.inr x then ((Sum.inr g.1 : Key), V.ref pn) else (Sum.inr g.1, V.ref l)) :: (gK gv ls).map _ = (Sum.inr g.1, V.ref l) :: gK gv (ls.set i pn)
    rw [if_neg ne, mapK_gK pn (by simpa using h0) n2 h']
theorem gAt_none {gv : Given} {x : Str} (h : x ∉ gv.map (·.1)) : gAt gv x = [] := by
  unfold gAt
  rw [List.find?_eq_none.mpr]
  · rfl
  · intro g hg z
    exact h (List.mem_map.mpr ⟨g, hg, of_decide_eq_true z⟩)
theorem GvAt.put {H H' : Hp} {gd pn : Addr} {gv : Given} {ls : List Addr} {x : Str} {n : Int} (h : GvAt H gd gv ls) (np : pn ∉ ls) (c : ∀ l' ∈ ls, ∀ o, H l' = some o → H' l' = some o) (hd : H' gd = some (.dK (putK (gK gv ls) (Sum.inr x) (.ref pn)))) (hp : H' pn = some (.lst ((gAt gv x ++ [n]).map V.int))) :
    ∃ ls', GvAt H' gd (gAdd gv x n) ls' ∧ ∀ l ∈ ls', l ∈ ls ∨ l = pn := by
  rcases gv_cases gv ls x h.len h.names with ⟨e1, nx⟩ | ⟨i, l, row, e1, e2, e3⟩
  · rw [gAt_none nx, List.nil_append] at hp
    have hp' : putK (gK gv ls) (Sum.inr x) (V.ref pn) = gK gv ls ++ [(Sum.inr x, V.ref pn)] := by
      unfold putK
      rw [if_neg]
      intro z
      obtain ⟨kv, hkv, ek⟩ := List.any_eq_true.mp z
      have : kv.1 ∈ (gK gv ls).map (·.1) := List.mem_map.mpr ⟨kv, hkv, rfl⟩
      rw [gK_keys h.len, of_decide_eq_true ek] at this
      obtain ⟨y, hy, ey⟩ := List.mem_map.mp this
      cases ey
      exact nx hy
    rw [hp'] at hd
    refine ⟨ls ++ [pn], h.new nx (fun l' hl' z => np (by rw [← z]; exact hl')) c hd hp, fun l hl => ?_⟩
    rcases List.mem_append.mp hl with hl | hl
    · exact .inl hl
    · exact .inr (List.mem_singleton.mp hl)
  · rw [gAt_of h.names e1] at hp
    have hi : i < gv.length := (List.getElem?_eq_some_iff.mp e1).1
    have hp' : putK (gK gv ls) (Sum.inr x) (V.ref pn) = gK gv (ls.set i pn) := by
      unfold putK
      rw [if_pos, mapK_gK pn h.len h.names e1]
      refine List.any_eq_true.mpr ?_
      have : (Sum.inr x : Key) ∈ (gK gv ls).map (·.1) := by
        rw [gK_keys h.len]
        exact List.mem_map.mpr ⟨x, List.mem_map.mpr ⟨_, List.mem_of_getElem? e1, rfl⟩, rfl⟩
      obtain ⟨kv, hkv, ek⟩ := List.mem_map.mp this
      exact ⟨kv, hkv, decide_eq_true ek⟩
    rw [hp'] at hd
    refine ⟨ls.set i pn, ?_, fun l hl => ?_⟩
    · rw [gAdd_old n h.names e1]
      refine ⟨by rw [gK_set e1]; exact hd, by rw [List.length_set, List.length_set]; exact h.len, ?_, ?_, fun j g l' hg hl => ?_⟩
      · have key : ∀ {ls : List Addr} {i : Nat}, ls.Nodup → pn ∉ ls → (ls.set i pn).Nodup := by
          intro ls
          induction ls with
          | nil => intro i _ _; exact List.nodup_nil
          | cons a r ih =>
            intro i nd hn
            obtain ⟨n1, n2⟩ := List.nodup_cons.mp nd
            cases i with
            | zero => exact List.nodup_cons.mpr ⟨fun z => hn (List.mem_cons_of_mem _ z), n2⟩
            | succ i =>
              refine List.nodup_cons.mpr ⟨fun z => ?_, ih n2 fun z => hn (List.mem_cons_of_mem _ z)⟩
              rcases List.mem_or_eq_of_mem_set z with z | z
              · exact n1 z
              · exact hn (by rw [z]; simp)
        exact key h.nd np
      · rw [← gAdd_old n h.names e1]
        exact gAdd_names n h.names
      · by_cases e : j = i
        · subst e
          rw [List.getElem?_set_self (by rw [h.len]; exact hi)] at hl
          rw [List.getElem?_set_self hi] at hg
          cases hl
          cases hg
          exact hp
        · rw [List.getElem?_set_ne (Ne.symm e)] at hl hg
          exact c l' (List.mem_of_getElem? hl) _ (h.rows j g l' hg hl)
    · rcases List.mem_or_eq_of_mem_set hl with hl | hl
      · exact .inl hl
      · exact .inr hl
/-- d.get(x, []) -/
theorem GvAt.look {H : Hp} {gd : Addr} {gv : Given} {ls : List Addr} {x : Str} (h : GvAt H gd gv ls) : (valV (gK gv ls) (Sum.inr x) = none ∧ gAt gv x = []) ∨ ∃ l ∈ ls, valV (gK gv ls) (Sum.inr x) = some (.ref l) ∧ H l = some (.lst ((gAt gv x).map V.int)) := by
  rcases gv_cases gv ls x h.len h.names with ⟨e1, nx⟩ | ⟨i, l, row, e1, e2, e3⟩
  · exact .inl ⟨e1, gAt_none nx⟩
  · refine .inr ⟨l, List.mem_of_getElem? e2, e3, ?_⟩
    rw [gAt_of h.names e1]
    exact h.rows i _ l e1 e2
end Fg
namespace Fg
open PySem PySem.Spec PyProof.Rows L2
/-! ### a program of gives alone -/
def Stp.isGive : Stp → Bool
  | .give _ _ => true
  | _ => false
theorem give_of {s : Stp} (h : s.isGive = true) : ∃ x a, s = .give x a := by
  cases s with
  | give x a => exact ⟨x, a, rfl⟩
  | _ => cases h
def gGifts (g : Int) (cs : Cells) (sts : List Stp) (gv : Given) : Given := sts.foldl (fun gv s => s.gives g cs gv) gv
def mks (m : Mc) : List (List Nat × Nat) := m.recs.map fun r => (r.path, r.past)
theorem go_gives {p : Prg} {most : Int} {sts : List Stp} (hg : ∀ s ∈ sts, s.isGive = true) : ∀ (rem k n : Nat) (m : Mc) (f : Frm), m.stack = [f] → f.rows = sts → f.at_ = k → sts.length = k + rem → (m.recs.length : Int) + rem ≤ most → m.size most ≤ n →
    ∃ m', Mc.go p most n m = some m' ∧ m'.stack = [] ∧ m'.cells = m.cells ∧ m'.given = gGifts f.arg m.cells (sts.drop k) m.given ∧ m'.deep = m.deep ∧ mks m' = mks m ++ (List.range rem).map fun i => (f.path, f.past + i)
  | 0, k, n, m, f, hs, hr, hk, hl, hm, hsz => by
    obtain ⟨n, rfl⟩ : ∃ n', n = n' + 1 := by
      have : 1 ≤ m.size most := by unfold Mc.size; rw [hs, List.length_singleton]; omega
      exact ⟨n - 1, by omega⟩
    have hnone : f.rows[f.at_]? = none := List.getElem?_eq_none (by rw [hr, hk]; omega)
    refine ⟨{ m with stack := [] }, by rw [go_over hs hnone]; exact go_nil rfl, rfl, rfl, ?_, rfl, ?_⟩
    · rw [List.drop_eq_nil_of_le (by omega)]
      rfl
    · show mks m = _
      rw [List.range_zero, List.map_nil, List.append_nil]
  | rem + 1, k, n, m, f, hs, hr, hk, hl, hm, hsz => by
    obtain ⟨n, rfl⟩ : ∃ n', n = n' + 1 := by
      have : 1 ≤ m.size most := by unfold Mc.size; rw [hs, List.length_singleton]; omega
      exact ⟨n - 1, by omega⟩
    have hkl : k < sts.length := by omega
    have es : f.rows[f.at_]? = some sts[k] := by rw [hr, hk]; exact List.getElem?_eq_getElem hkl
    obtain ⟨x, a, e⟩ := give_of (hg sts[k] (List.getElem_mem hkl))
    have hlong : ¬ most ≤ (m.recs.length : Int) := by omega
    have hmk : sts[k].makes f.arg m.cells = none := by rw [e]; rfl
    have hput : sts[k].puts f.arg m.cells = m.cells := by rw [e]; rfl
    have hj : sts[k].jump f.arg m.cells = 0 := by rw [e]; rfl
    have ed : m.did p f [] sts[k] = m.half f [] sts[k] := did_none hmk
    have lr : (m.half f [] sts[k]).recs.length = m.recs.length + 1 := by
      show (m.recs ++ [_]).length = _
      rw [List.length_append, List.length_singleton]
    obtain ⟨m', h1, h2, h3, h4, h5, h6⟩ := go_gives (p := p) (most := most) hg rem (k + 1) n (m.half f [] sts[k]) (f.next sts[k] m.cells) rfl hr (by show f.at_ + 1 + sts[k].jump f.arg m.cells = k + 1; rw [hj, hk]) (by omega) (by rw [lr]; omega) (by
      have := size_did (p := p) (s := sts[k]) hs hlong hsz
      rw [ed] at this
      exact this)
    have hc : (m.half f [] sts[k]).cells = m.cells := hput
    refine ⟨m', by rw [go_step hs es, if_neg hlong, ed]; exact h1, h2, by rw [h3, hc], ?_, h5, ?_⟩
    · rw [h4, hc]
      show gGifts f.arg m.cells (sts.drop (k + 1)) (sts[k].gives f.arg m.cells m.given) = _
      rw [List.drop_eq_getElem_cons hkl]
      rfl
    · rw [h6]
      have e1 : mks (m.half f [] sts[k]) = mks m ++ [(f.path, f.past)] := by
        show (m.recs ++ [_]).map _ = _
        rw [List.map_append]
        rfl
      rw [e1, List.append_assoc, List.range_succ_eq_map, List.map_cons, List.map_map]
      congr 1
      show (f.path, f.past) :: _ = (f.path, f.past + 0) :: _
      congr 1
      apply List.map_congr_left
      intro i _
      show (f.path, f.past + 1 + i) = (f.path, f.past + (i + 1))
      congr 1
      omega
theorem ran_gives {x : Str} {sts : List Stp} (hg : ∀ s ∈ sts, s.isGive = true) {g : Int} {cs : Cells} {most : Int} (hm : (sts.length : Int) ≤ most) : ∃ m, Prg.ran [(x, sts)] x g cs most = some m ∧ m.cells = cStart cs ∧ m.given = gGifts g (cStart cs) sts [] ∧ m.deep = 1 ∧ markDs m = (List.range sts.length).map fun i => markD [] i := by
  have hrows : Prg.rows [(x, sts)] x = sts := by
    unfold Prg.rows
    rw [List.find?_cons, decide_eq_true rfl]
    rfl
  obtain ⟨m, h1, h2, h3, h4, h5, h6⟩ := go_gives (p := [(x, sts)]) (most := most) hg sts.length 0 (Mc.size most (Mc.start [(x, sts)] x g (cStart cs))) (Mc.start [(x, sts)] x g (cStart cs)) _ rfl hrows rfl (by omega) (by show ((0 : Nat) : Int) + _ ≤ most; omega) (Nat.le_refl _)
  refine ⟨m, h1, h3, h4, h5, ?_⟩
  have e : markDs m = (mks m).map fun q => markD q.1 q.2 := by
    unfold markDs mks
    rw [List.map_map]
    rfl
  rw [e, h6]
  show (([] : List (List Nat × Nat)) ++ _).map _ = _
  rw [List.nil_append, List.map_map]
  apply List.map_congr_left
  intro i _
  show markD [] (0 + i) = markD [] i
  rw [Nat.zero_add]
theorem gifts_few (g : Int) (cs : Cells) : ∀ (sts : List Stp) (gv : Given), (gGifts g cs sts gv).length ≤ gv.length + sts.length
  | [], gv => Nat.le_refl _
  | s :: r, gv => by
    have h1 := gifts_few g cs r (s.gives g cs gv)
    have h2 := gives_len s g cs gv
    show (gGifts g cs r (s.gives g cs gv)).length ≤ _
    rw [List.length_cons]
    omega
/-! data: no dicts, not deep -/
theorem pairs_flat (cs : Cells) : noDic (.list (cs.map pairD)) = true := noDics_of fun d hd => by
  obtain ⟨c, _, rfl⟩ := List.mem_map.mp hd
  rfl
theorem pairs_depth (cs : Cells) : (PyData.list (cs.map pairD)).depth ≤ 3 := by
  have : PyData.depthAll (cs.map pairD) ≤ 1 := depthAll_le fun d hd => by
    obtain ⟨c, _, rfl⟩ := List.mem_map.mp hd
    show max 0 (max 0 0) + 1 ≤ 1
    decide
  show PyData.depthAll (cs.map pairD) + 1 ≤ 3
  omega
theorem ints_flat (ns : List Int) : noDics (ns.map PyData.int) = true := noDics_of fun d hd => by
  obtain ⟨c, _, rfl⟩ := List.mem_map.mp hd
  rfl
theorem ints_depth (ns : List Int) : PyData.depthAll (ns.map PyData.int) ≤ 0 := depthAll_le fun d hd => by
  obtain ⟨c, _, rfl⟩ := List.mem_map.mp hd
  exact Nat.le_refl _
theorem gifts_flat (gv : Given) : noDic (giftsD gv) = true := noDics_of fun d hd => by
  obtain ⟨c, _, rfl⟩ := List.mem_map.mp hd
  show (true && (noDics (c.2.map PyData.int) && true)) = true
  rw [ints_flat]
  rfl
theorem gifts_depth (gv : Given) : (giftsD gv).depth ≤ 4 := by
  have : PyData.depthAll (gv.map giftD) ≤ 3 := depthAll_le fun d hd => by
    obtain ⟨c, _, rfl⟩ := List.mem_map.mp hd
    have := ints_depth c.2
    show max 0 (max (PyData.depthAll (c.2.map PyData.int) + 1) 0) + 1 ≤ 3
    omega
  show PyData.depthAll (gv.map giftD) + 1 ≤ 4
  omega
theorem marks_flat (l : List (List Nat × Nat)) : noDic (.list (l.map fun q => markD q.1 q.2)) = true := noDics_of fun d hd => by
  obtain ⟨c, _, rfl⟩ := List.mem_map.mp hd
  show ((noDics (c.1.map fun i => PyData.int (i : Nat))) && (true && true)) = true
  rw [noDics_of fun d hd => by
    obtain ⟨i, _, rfl⟩ := List.mem_map.mp hd
    rfl]
  rfl
theorem marks_depth (l : List (List Nat × Nat)) : (PyData.list (l.map fun q => markD q.1 q.2)).depth ≤ 4 := by
  have : PyData.depthAll (l.map fun q => markD q.1 q.2) ≤ 3 := depthAll_le fun d hd => by
    obtain ⟨c, _, rfl⟩ := List.mem_map.mp hd
    have : PyData.depthAll (c.1.map fun i => PyData.int (i : Nat)) ≤ 0 := depthAll_le fun d hd => by
      obtain ⟨i, _, rfl⟩ := List.mem_map.mp hd
      exact Nat.le_refl _
    show max (PyData.depthAll (c.1.map fun i => PyData.int (i : Nat)) + 1) (max 0 0) + 1 ≤ 3
    omega
  show PyData.depthAll (l.map fun q => markD q.1 q.2) + 1 ≤ 4
  omega
/-- dict(cells) -/
theorem pairs_view {H : Hp} : ∀ {cs : Cells} {xs : List V}, ImA H xs (cs.map pairD) → ∃ ps : List Addr, xs = ps.map V.ref ∧ Paired (fun q kv => H q = some (.tup [kV kv.1, kv.2])) ps (cK cs)
  | [], _, h => by cases h; exact ⟨[], rfl, .nil⟩
  | c :: cs, _, h => by
    cases h with
    | cons a r =>
      obtain ⟨ps, e, hp⟩ := pairs_view r
      obtain ⟨T, ys, rfl, hT, ra⟩ := im_tup a
      obtain ⟨u, v, rfl, r1, r2⟩ := imA2 ra
      rw [im_int r1, im_int r2] at hT
      exact ⟨T :: ps, by rw [e]; rfl, .cons hT hp⟩
theorem merge_cK : ∀ (cs acc : Cells), mergeK (cK acc) (cK cs) = cK (cs.foldl (fun acc c => cPut acc c.1 c.2) acc)
  | [], acc => rfl
  | c :: cs, acc => by
    show mergeK (putK (cK acc) (Sum.inl c.1) (.int c.2)) (cK cs) = _
    rw [putK_cK, merge_cK cs]
    rfl
theorem merge_start (cs : Cells) : mergeK [] (cK cs) = cK (cStart cs) := merge_cK cs []
end Fg
namespace Fg
open PySem PySem.Spec PyProof.Rows L2
/-! ### big steps: a doing runs till it is over -/
def Frm.aft (f : Frm) (s : Stp) (cs : Cells) : Frm := { f with at_ := f.at_ + 1 + s.jump f.arg cs, past := f.past + 1 }
def Mc.rcd (m : Mc) (f : Frm) (s : Stp) : Rcd := ⟨f.path, f.past, s.word, f.num, none, srtD (s.asks f.arg m.cells), s.writes f.arg m.cells⟩
def Mc.aft (m : Mc) (f : Frm) (s : Stp) : Mc := { m with cells := s.puts f.arg m.cells, given := s.gives f.arg m.cells m.given, recs := m.recs ++ [m.rcd f s] }
def Mc.sub (m : Mc) (f : Frm) (s : Stp) (d : Nat) : Mc := { m with recs := m.recs ++ [{ m.rcd f s with child := some m.many }], deep := max m.deep (d + 2), many := m.many + 1 }
def Frm.kid (f : Frm) (p : Prg) (m : Mc) (x : Str) (w : Int) : Frm := ⟨m.many, f.path ++ [f.born], p.rows x, w, 0, 0, 0⟩
inductive Done (p : Prg) : Nat → Frm → Mc → Mc → Prop
  | over {d : Nat} {f : Frm} {m : Mc} : f.rows[f.at_]? = none → Done p d f m m
  | step {d : Nat} {f : Frm} {m m' : Mc} {s : Stp} : f.rows[f.at_]? = some s → s.makes f.arg m.cells = none → Done p d (f.aft s m.cells) (m.aft f s) m' → Done p d f m m'
  | sub {d : Nat} {f : Frm} {m m1 m' : Mc} {s : Stp} {x : Str} {w : Int} : f.rows[f.at_]? = some s → s.makes f.arg m.cells = some (x, w) → Done p (d + 1) (f.kid p m x w) (m.sub f s d) m1 → Done p d { f.aft s m.cells with born := f.born + 1 } m1 m' → Done p d f m m'
theorem Done.more {p : Prg} {d : Nat} {f : Frm} {m m' : Mc} (h : Done p d f m m') : m.recs.length ≤ m'.recs.length := by
  induction h with
  | over _ => exact Nat.le_refl _
  | @step d f m m' s h1 h2 h3 ih =>
    have : (m.aft f s).recs.length = m.recs.length + 1 := by
      show (m.recs ++ [_]).length = _
      rw [List.length_append, List.length_singleton]
    omega
  | @sub d f m m1 m' s x w h1 h2 h3 h4 ih1 ih2 =>
    have : (m.sub f s d).recs.length = m.recs.length + 1 := by
      show (m.recs ++ [_]).length = _
      rw [List.length_append, List.length_singleton]
    omega
theorem Done.go {p : Prg} {most : Int} {d : Nat} {f : Frm} {m m' : Mc} (h : Done p d f m m') : ∀ r : List Frm, r.length = d → (m'.recs.length : Int) ≤ most → ∃ k, ∀ n, Mc.go p most (n + k) { m with stack := f :: r } = Mc.go p most n { m' with stack := r } := by
  induction h with
  | over h1 =>
    intro r hr hm
    refine ⟨1, fun n => ?_⟩
    rw [Mc.go]
    simp only [h1]
  | @step d f m m' s h1 h2 h3 ih =>
    intro r hr hm
    obtain ⟨k, hk⟩ := ih r hr hm
    have lr : (m.aft f s).recs.length = m.recs.length + 1 := by
      show (m.recs ++ [_]).length = _
      rw [List.length_append, List.length_singleton]
    have := h3.more
    have hl : ¬ most ≤ (m.recs.length : Int) := by omega
    refine ⟨k + 1, fun n => ?_⟩
    rw [show n + (k + 1) = n + k + 1 by omega, Mc.go]
    simp only [h1]
    rw [if_neg hl, ← hk n]
    unfold Mc.did
    simp only [h2]
    rfl
  | @sub d f m m1 m' s x w h1 h2 h3 h4 ih1 ih2 =>
    intro r hr hm
    have l1 := h3.more
    have l2 := h4.more
    have lr : (m.sub f s d).recs.length = m.recs.length + 1 := by
      show (m.recs ++ [_]).length = _
      rw [List.length_append, List.length_singleton]
    have hl : ¬ most ≤ (m.recs.length : Int) := by omega
    obtain ⟨k1, hk1⟩ := ih1 ({ f.aft s m.cells with born := f.born + 1 } :: r) (by rw [List.length_cons, hr]) (by omega)
    obtain ⟨k2, hk2⟩ := ih2 r hr hm
    refine ⟨k2 + k1 + 1, fun n => ?_⟩
    rw [show n + (k2 + k1 + 1) = n + k2 + k1 + 1 by omega, Mc.go]
    simp only [h1]
    rw [if_neg hl, ← hk2 n, ← hk1 (n + k2)]
    unfold Mc.did
    simp only [h2]
    subst hr
    rfl
theorem go_more {p : Prg} {most : Int} : ∀ (n : Nat) (m : Mc), m.size most ≤ n → ∀ j, Mc.go p most (n + j) m = Mc.go p most n m
  | 0, m, h, j => by
    have hs : m.stack = [] := by
      unfold Mc.size at h
      exact List.eq_nil_of_length_eq_zero (by omega)
    rw [go_nil hs, go_nil hs]
  | n + 1, m, h, j => by
    cases hs : m.stack with
    | nil => rw [go_nil hs, go_nil hs]
    | cons f r =>
      rw [show n + 1 + j = n + j + 1 by omega, Mc.go, Mc.go]
      simp only [hs]
      cases hf : f.rows[f.at_]? with
      | none => exact go_more n _ (size_pop hs h) j
      | some s =>
        simp only
        by_cases hl : most ≤ (m.recs.length : Int)
        · rw [if_pos hl, if_pos hl]
        · rw [if_neg hl, if_neg hl]
          exact go_more n _ (size_did hs hl h) j
theorem ran_done {p : Prg} {x : Str} {g : Int} {cs : Cells} {most : Int} {m' : Mc} (h : Done p 0 ⟨0, [], p.rows x, g, 0, 0, 0⟩ (Mc.start p x g (cStart cs)) m') (hm : (m'.recs.length : Int) ≤ most) : Prg.ran p x g cs most = some { m' with stack := [] } := by
  obtain ⟨k, hk⟩ := h.go (most := most) [] rfl hm
  unfold Prg.ran
  show Mc.go p most ((Mc.start p x g (cStart cs)).size most) (Mc.start p x g (cStart cs)) = _
  rw [← go_more _ _ (Nat.le_refl _) k]
  have := hk ((Mc.start p x g (cStart cs)).size most)
  exact this.trans (go_nil rfl)
end Fg
namespace Fg
open PySem PySem.Spec PyProof.Rows L2
/-! ### what one hand does, by recursion: with a log, or too long -/
structure LRec where
  path : List Nat
  past : Nat
  word : Str
  kid : Option (List Nat)
  asked : List Int
  writes : List Int
def lrec (f : Frm) (s : Stp) (cs : Cells) (kid : Option (List Nat)) : LRec := ⟨f.path, f.past, s.word, kid, s.asks f.arg cs, s.writes f.arg cs⟩
def Frm.nxt (f : Frm) (s : Stp) (cs : Cells) : Frm := { f.aft s cs with born := f.born + 1 }
inductive Dl (p : Prg) : Nat → Frm → Mc → Mc → List LRec → Prop
  | over {d : Nat} {f : Frm} {m : Mc} : f.rows[f.at_]? = none → Dl p d f m m []
  | step {d : Nat} {f : Frm} {m m' : Mc} {s : Stp} {L : List LRec} : f.rows[f.at_]? = some s → s.makes f.arg m.cells = none → Dl p d (f.aft s m.cells) (m.aft f s) m' L → Dl p d f m m' (lrec f s m.cells none :: L)
  | sub {d : Nat} {f : Frm} {m m1 m' : Mc} {s : Stp} {x : Str} {w : Int} {L1 L2 : List LRec} : f.rows[f.at_]? = some s → s.makes f.arg m.cells = some (x, w) → Dl p (d + 1) (f.kid p m x w) (m.sub f s d) m1 L1 → Dl p d (f.nxt s m.cells) m1 m' L2 → Dl p d f m m' (lrec f s m.cells (some (f.path ++ [f.born])) :: (L1 ++ L2))
theorem Dl.done {p : Prg} {d : Nat} {f : Frm} {m m' : Mc} {L : List LRec} (h : Dl p d f m m' L) : Done p d f m m' := by
  induction h with
  | over h1 => exact .over h1
  | step h1 h2 _ ih => exact .step h1 h2 ih
  | sub h1 h2 _ _ ih1 ih2 => exact .sub h1 h2 ih1 ih2
theorem Dl.len {p : Prg} {d : Nat} {f : Frm} {m m' : Mc} {L : List LRec} (h : Dl p d f m m' L) : m'.recs.length = m.recs.length + L.length ∧ mks m' = mks m ++ L.map fun r => (r.path, r.past) := by
  induction h with
  | over h1 => exact ⟨rfl, by rw [List.map_nil, List.append_nil]⟩
  | @step d f m m' s L h1 h2 h3 ih =>
    have e1 : (m.aft f s).recs.length = m.recs.length + 1 := by
      show (m.recs ++ [_]).length = _
      rw [List.length_append, List.length_singleton]
    have e2 : mks (m.aft f s) = mks m ++ [(f.path, f.past)] := by
      show (m.recs ++ [_]).map _ = _
      rw [List.map_append]
      rfl
    refine ⟨by rw [ih.1, e1, List.length_cons]; omega, ?_⟩
    rw [ih.2, e2, List.append_assoc]
    rfl
  | @sub d f m m1 m' s x w L1 L2 h1 h2 h3 h4 ih1 ih2 =>
    have e1 : (m.sub f s d).recs.length = m.recs.length + 1 := by
      show (m.recs ++ [_]).length = _
      rw [List.length_append, List.length_singleton]
    have e2 : mks (m.sub f s d) = mks m ++ [(f.path, f.past)] := by
      show (m.recs ++ [_]).map _ = _
      rw [List.map_append]
      rfl
    refine ⟨by rw [ih2.1, ih1.1, e1, List.length_cons, List.length_append]; omega, ?_⟩
    rw [ih2.2, ih1.2, e2, List.map_cons, List.map_append, List.append_assoc, List.append_assoc]
    rfl
/-- more steps than most would be done -/
inductive Lg (p : Prg) (most : Nat) : Nat → Frm → Mc → Prop
  | here {d : Nat} {f : Frm} {m : Mc} {s : Stp} : f.rows[f.at_]? = some s → most ≤ m.recs.length → Lg p most d f m
  | step {d : Nat} {f : Frm} {m : Mc} {s : Stp} : f.rows[f.at_]? = some s → ¬ most ≤ m.recs.length → s.makes f.arg m.cells = none → Lg p most d (f.aft s m.cells) (m.aft f s) → Lg p most d f m
  | sub {d : Nat} {f : Frm} {m : Mc} {s : Stp} {x : Str} {w : Int} : f.rows[f.at_]? = some s → ¬ most ≤ m.recs.length → s.makes f.arg m.cells = some (x, w) → Lg p most (d + 1) (f.kid p m x w) (m.sub f s d) → Lg p most d f m
  | past {d : Nat} {f : Frm} {m m1 : Mc} {s : Stp} {x : Str} {w : Int} : f.rows[f.at_]? = some s → ¬ most ≤ m.recs.length → s.makes f.arg m.cells = some (x, w) → Done p (d + 1) (f.kid p m x w) (m.sub f s d) m1 → m1.recs.length ≤ most → Lg p most d (f.nxt s m.cells) m1 → Lg p most d f m
theorem Lg.go {p : Prg} {most : Nat} {d : Nat} {f : Frm} {m : Mc} (h : Lg p most d f m) : ∀ r : List Frm, r.length = d → ∃ k, ∀ n, Mc.go p (most : Int) (n + k) { m with stack := f :: r } = none := by
  induction h with
  | here h1 h2 =>
    intro r hr
    refine ⟨1, fun n => ?_⟩
    rw [Mc.go]
    simp only [h1]
    rw [if_pos (by exact Int.ofNat_le.mpr h2)]
  | @step d f m s h1 h2 h3 h4 ih =>
    intro r hr
    obtain ⟨k, hk⟩ := ih r hr
    refine ⟨k + 1, fun n => ?_⟩
    rw [show n + (k + 1) = n + k + 1 by omega, Mc.go]
    simp only [h1]
    rw [if_neg (by intro z; exact h2 (Int.ofNat_le.mp z)), ← hk n]
    unfold Mc.did
    simp only [h3]
    rfl
  | @sub d f m s x w h1 h2 h3 h4 ih =>
    intro r hr
    obtain ⟨k, hk⟩ := ih ({ f.aft s m.cells with born := f.born + 1 } :: r) (by rw [List.length_cons, hr])
    refine ⟨k + 1, fun n => ?_⟩
    rw [show n + (k + 1) = n + k + 1 by omega, Mc.go]
    simp only [h1]
    rw [if_neg (by intro z; exact h2 (Int.ofNat_le.mp z)), ← hk n]
    unfold Mc.did
    simp only [h3]
    subst hr
    rfl
  | @past d f m m1 s x w h1 h2 h3 h4 h5 h6 ih =>
    intro r hr
    obtain ⟨k1, hk1⟩ := h4.go (most := (most : Int)) ({ f.aft s m.cells with born := f.born + 1 } :: r) (by rw [List.length_cons, hr]) (Int.ofNat_le.mpr h5)
    obtain ⟨k2, hk2⟩ := ih r hr
    refine ⟨k2 + k1 + 1, fun n => ?_⟩
    rw [show n + (k2 + k1 + 1) = n + k2 + k1 + 1 by omega, Mc.go]
    simp only [h1]
    rw [if_neg (by intro z; exact h2 (Int.ofNat_le.mp z)), ← hk2 n]
    have := hk1 (n + k2)
    refine Eq.trans ?_ this
    unfold Mc.did
    simp only [h3]
    subst hr
    rfl
theorem ran_long {p : Prg} {x : Str} {g : Int} {cs : Cells} {most : Nat} (h : Lg p most 0 ⟨0, [], p.rows x, g, 0, 0, 0⟩ (Mc.start p x g (cStart cs))) : Prg.ran p x g cs (most : Int) = none := by
  obtain ⟨k, hk⟩ := h.go [] rfl
  unfold Prg.ran
  show Mc.go p most ((Mc.start p x g (cStart cs)).size most) (Mc.start p x g (cStart cs)) = _
  rw [← go_more _ _ (Nat.le_refl _) k]
  exact hk ((Mc.start p x g (cStart cs)).size most)
end Fg
namespace Fg
open PySem PySem.Spec PyProof.Rows L2
theorem cpow {i j : Int} (m : Nat) (h : i.natAbs < 2 ^ m) (h0 : 0 ≤ j) (h1 : (m : Int) * j ≤ 2 ^ 27) : CPowW i j := by
  refine ⟨h0, ?_⟩
  have b := PySem.intBits_le_iff.mpr h
  have : (Builtin.Int.intBits i : Int) * j ≤ (m : Int) * j := Int.mul_le_mul_of_nonneg_right (by omega) h0
  omega
theorem cmulL {i j : Int} (h : -(2 ^ 64) < i) (h' : i < 2 ^ 64) : CMul i j := .inl ⟨h, h'⟩
theorem cdivS {i j : Int} (h : 0 < j) (h' : j < 10 ^ 30) : CDivW i j := wide_div (b := 100) h (by omega) (by decide) (by decide)
def oMulW : R2 := rI CMulW fun i j => .int (i * j)
theorem p_mulW {X : Cx} : OpR X (binaryOp .Mult) oMulW := op_mulW
theorem w_mulW {i j : Int} {H : Hp} {Q : VK} (h : CMulW i j) (q : Q (.int (i * j)) H) : oMulW (.int i) (.int j) H Q := ⟨i, j, rfl, rfl, h, q⟩
end Fg
namespace Fg
open PySem PySem.Spec PyProof.Rows L2
/-! ### texts of small letters -/
def low (x : Str) : Prop := ∀ c ∈ x.cps.toList, isLow c = true
theorem low_nil : low "" := by intro c h; exact absurd h (by simp [show (Str.ofString "").cps.toList = [] from by decide +kernel])
theorem low_append {x y : Str} (hx : low x) (hy : low y) : low (x ++ y) := by
  intro c h
  have e : (x ++ y).cps.toList = x.cps.toList ++ y.cps.toList := Array.toList_append
  rw [e] at h
  rcases List.mem_append.mp h with h | h
  · exact hx c h
  · exact hy c h
theorem len_append (x y : Str) : (x ++ y).length = x.length + y.length := Array.size_append
theorem len_one (c : Nat) : (Str.mk #[c]).length = 1 := rfl
theorem low_one {c : Nat} (h : isLow c = true) : low ⟨#[c]⟩ := by
  intro d hd
  have : d = c := by simpa using hd
  rw [this]
  exact h
theorem low_cut {x : Str} (lo hi : Option Int) (hx : low x) : low (cutS x lo hi) := by
  intro c h
  unfold cutS at h
  have h : c ∈ (x.cps.toList.drop (HT.sIx x.length 0 lo)).take (HT.sIx x.length x.length hi - HT.sIx x.length 0 lo) := by simpa using h
  exact hx c (List.mem_of_mem_drop (List.mem_of_mem_take h))
theorem len_cut (x : Str) (lo hi : Option Int) : (cutS x lo hi).length = min (HT.sIx x.length x.length hi - HT.sIx x.length 0 lo) (x.length - HT.sIx x.length 0 lo) := by
  unfold cutS
  show ((x.cps.toList.drop _).take _).toArray.size = _
  rw [List.size_toArray, List.length_take, List.length_drop]
  rfl
theorem sIx_i {n d : Nat} {i : Int} (h : 0 ≤ i) : HT.sIx n d (some i) = min i.toNat n := by
  have e : ((i.toNat : Nat) : Int) = i := by omega
  rw [← HT.sIx_nat n d i.toNat, e]
theorem nameS_of {x : Str} (h1 : 1 ≤ x.length) (h2 : x.length ≤ 8) (h3 : low x) : nameS x = true := nameS_iff.mpr ⟨h1, h2, h3⟩
theorem nameS_low {x : Str} (h : nameS x = true) : low x := (nameS_iff.mp h).2.2
theorem letters_len : letters.cps.toList.length = 26 := by decide +kernel
theorem letter_at {v : Int} (h0 : 0 ≤ v) (h1 : v < 26) : ∃ c, atI (Str.ofString "abcdefghijklmnopqrstuvwxyz").cps.toList v = some c ∧ isLow c = true := by
  obtain ⟨c, e, h⟩ := atD (xs := letters.cps.toList) h0 (by rw [letters_len]; exact h1)
  exact ⟨c, e, decide_eq_true h⟩
theorem sum_ones {ys : List Str} (h : ∀ y ∈ ys, y.length = 1) : (ys.map (·.length)).sum = ys.length := by
  induction ys with
  | nil => rfl
  | cons y r ih =>
    rw [List.map_cons, List.sum_cons, ih fun z hz => h z (List.mem_cons_of_mem _ hz), h y (by simp), List.length_cons]
    omega
theorem join_ones {ys : List Str} (h : ∀ y ∈ ys, y.length = 1 ∧ low y) : (Txt.join "" ys).length = ys.length ∧ low (Txt.join "" ys) := by
  rw [TL.join_eq]
  have e0 : TL.tl (Str.ofString "") = [] := by decide +kernel
  have key : ∀ zs : List Str, (∀ y ∈ zs, y.length = 1 ∧ low y) → (TL.joinL [] (zs.map TL.tl)).length = zs.length ∧ ∀ c ∈ TL.joinL [] (zs.map TL.tl), isLow c = true := by
    intro zs
    induction zs with
    | nil => intro _; exact ⟨rfl, fun c h => by cases h⟩
    | cons y r ih =>
      intro h
      have hy := h y (by simp)
      have hr := ih fun z hz => h z (List.mem_cons_of_mem _ hz)
      have hl : (TL.tl y).length = 1 := hy.1
      cases r with
      | nil => exact ⟨hl, hy.2⟩
      | cons z r =>
        have e : TL.joinL [] ((y :: z :: r).map TL.tl) = TL.tl y ++ TL.joinL [] ((z :: r).map TL.tl) := rfl
        rw [e]
        refine ⟨by rw [List.length_append, hr.1, hl, List.length_cons (a := y)]; omega, fun c hc => ?_⟩
        rcases List.mem_append.mp hc with hc | hc
        · exact hy.2 c hc
        · exact hr.2 c hc
  have k := key ys h
  have e : TL.tl (Str.join "" ys) = TL.joinL [] (ys.map TL.tl) := by rw [TL.tl_join, e0]
  refine ⟨?_, fun c hc => k.2 c (by rw [← e]; exact hc)⟩
  rw [← k.1, ← e]
  rfl
def okNm : V → Bool
  | .str x => nameS x
  | _ => false
theorem okNm_of {v : V} (h : okNm v = true) : ∃ x, v = .str x ∧ nameS x = true := by
  cases v with
  | str x => exact ⟨x, rfl, h⟩
  | _ => cases h
theorem cutS_le (x : Str) (lo hi : Option Int) : (cutS x lo hi).length ≤ x.length := by
  rw [len_cut]
  omega
end Fg
--LAW k07
namespace Fg
open PySem PySem.Spec PyProof.Rows L2
/-! ### the walk's small steps -/
local macro_rules | `(tactic| walk_at "hp") => `(tactic| first
  | assumption
  | exact upd_same
  | (refine Chg.at (by assumption) ?_; walk_at "hp")
  | (refine Chg.at1 (by assumption) ?_ (by walk_at "ne"); walk_at "hp"))
local macro_rules | `(tactic| walk_at "ne") => `(tactic| first | assumption | (apply Ne.symm; assumption))
local macro_rules | `(tactic| walk_at "sq") => `(tactic| first | assumption | exact sqL (by walk_at "hp") | (refine Chg.seq (by assumption) ?_; walk_at "sq"))
local macro_rules | `(tactic| walk_at "sz") => `(tactic| first | assumption | exact Nat.zero_le _ | (simp only [List.length_cons, List.length_nil]; decide) | exact Nat.le_trans (by first | omega | (simp; done) | (simp; omega)) (show 100000 ≤ sizeLine by decide) | exact Nat.lt_of_lt_of_le (by first | omega | (simp; done) | (simp; omega)) (show 100000 ≤ sizeLine by decide))
local macro_rules | `(tactic| walk_at "ix") => `(tactic| first | exact at0 | exact at1 | exact at2 | exact at3 | assumption | exact rfl | walk_at "ix2")
local macro_rules | `(tactic| walk_at "ix2") => `(tactic| fail)
local macro_rules | `(tactic| walk_at "num") => `(tactic| first | assumption | omega | decide | walk_at "num2")
local macro_rules | `(tactic| walk_at "num2") => `(tactic| fail)
local macro_rules | `(tactic| walk_at "im") => `(tactic| first | assumption | exact R.non (S := fun _ => False) | exact R.bl (S := fun _ => False) _ | exact R.int (S := fun _ => False) _ | exact R.str (S := fun _ => False) _ | (refine R.im (by assumption) ?_; walk_at "im"))
local macro_rules | `(tactic| walk_at "r") => `(tactic| first | assumption | exact R.non (S := fun _ => False) | exact R.bl (S := fun _ => False) _ | exact R.int (S := fun _ => False) _ | exact R.str (S := fun _ => False) _ | (refine R.same (by assumption) ?_; walk_at "r") | exact R.any (by walk_at "im"))
local macro_rules | `(tactic| walk_at "chg") => `(tactic| first
  | exact Chg.refl
  | assumption
  | (refine Chg.same ?_ (by assumption); walk_at "chg")
  | (refine Chg.both ?_ (by assumption); walk_at "chg")
  | (refine Chg.pre (by assumption) ?_; walk_at "chg"))
local macro_rules | `(tactic| walk_at "w1") => `(tactic| first
  | with_reducible apply w_seq
  | with_reducible apply w_asg
  | ((with_reducible apply w_var); (focus (exact rfl)))
  | with_reducible apply w_c
  | with_reducible apply w_op
  | with_reducible apply w_cons
  | with_reducible apply w_nil
  | with_reducible apply w_gName
  | with_reducible apply w_if
  | with_reducible apply w_test
  | with_reducible apply w_B
  | with_reducible apply w_isbl
  | with_reducible apply w_retN
  | with_reducible apply w_next
  | with_reducible apply w_drop
  | with_reducible apply w_cb
  | with_reducible apply w_call
  | with_reducible apply w_callN
  | with_reducible apply w_bm
  | with_reducible apply w_bm0
  | ((with_reducible apply w_tyL); (focus (walk_at "hp"; done)))
  | with_reducible apply w_dput
  | with_reducible apply w_m1
  | with_reducible apply w_isstr
  | with_reducible apply w_and
  | with_reducible apply w_or
  | with_reducible apply w_not
  | with_reducible apply w_andV
  | with_reducible apply w_orV
  | with_reducible apply w_notV
  | with_reducible apply w_ifE
  | with_reducible apply w_chain
  | with_reducible apply w_un
  | with_reducible apply w_neg
  | with_reducible apply w_add
  | with_reducible apply w_sub
  | ((with_reducible apply w_mod); (focus (walk_at "num"; done)))
  | ((with_reducible apply w_mul); (focus (walk_at "num"; done)))
  | ((with_reducible apply w_fdiv); (focus (walk_at "num"; done)))
  | ((with_reducible apply w_pow); (focus (walk_at "num"; done)))
  | with_reducible apply w_lt
  | with_reducible apply w_le
  | with_reducible apply w_gt
  | with_reducible apply w_ge
  | with_reducible apply w_ltS
  | with_reducible apply w_geS
  | with_reducible apply w_inC
  | with_reducible apply w_notInC
  | with_reducible apply w_isN
  | with_reducible apply w_notN
  | with_reducible apply w_isB
  | with_reducible apply w_notB
  | ((with_reducible apply w_addS); (focus (walk_at "sz"; done)))
  | ((with_reducible apply w_ixL); (focus (walk_at "sq"; done)); (focus (walk_at "ix"; done)))
  | ((with_reducible apply w_ixT); (focus (walk_at "hp"; done)); (focus (walk_at "ix"; done)))
  | ((with_reducible apply w_ixS); (focus (walk_at "sz"; done)); (focus (walk_at "ix"; done)))
  | with_reducible apply w_gSub
  | ((with_reducible apply w_gTup); (focus (walk_at "hp"; done)); (focus (exact rfl)))
  | with_reducible apply w_gCons
  | with_reducible apply w_gNil
  | ((with_reducible apply w_aug); (focus (exact rfl)))
  | with_reducible apply w_ipI
  | ((with_reducible apply w_eq); (focus (exact rfl)))
  | ((with_reducible apply w_ne); (focus (exact rfl)))
  | with_reducible apply w_max
  | with_reducible apply w_min
  | with_reducible apply w_abs
  | with_reducible apply w_intB
  | with_reducible apply w_intI
  | with_reducible apply w_tup1
  | with_reducible apply w_lst1
  | with_reducible apply w_sl
  | with_reducible apply w_part
  | with_reducible apply w_noPart
  | with_reducible apply w_isint
  | ((with_reducible apply w_slS); (focus (walk_at "sz"; done)))
  | with_reducible apply w_iteT
  | with_reducible apply w_iteF
  | with_reducible apply w_iteN
  | ((with_reducible apply w_iteYes); (focus (exact rfl)))
  | ((with_reducible apply w_iteNo); (focus (exact rfl)))
  | ((with_reducible apply w_lenL); (focus (walk_at "sq"; done)))
  | ((with_reducible apply w_lenT); (focus (walk_at "hp"; done)))
  | ((with_reducible apply w_lenS); (focus (walk_at "sz"; done)))
  | with_reducible apply w_lc
  | with_reducible apply w_for
  | with_reducible apply w_yes
  | ((with_reducible apply w_wipe); (focus (exact rfl)))
  | with_reducible apply w_iList
  | with_reducible apply w_iTup
  | with_reducible apply w_iStr
  | with_reducible apply w_iRng1
  | with_reducible apply w_iRng2
  | with_reducible apply w_iZip
  | with_reducible apply w_iEnum
  | ((with_reducible apply d_iList); (focus (walk_at "sq"; done)))
  | ((with_reducible apply d_iTup); (focus (walk_at "hp"; done)))
  | with_reducible apply d_iStr
  | ((with_reducible apply d_iRng1); (focus (walk_at "num"; done)); (focus (walk_at "num"; done)))
  | ((with_reducible apply d_iRng2); (focus (walk_at "num"; done)); (focus (walk_at "num"; done)); (focus (walk_at "num"; done)); (focus (walk_at "num"; done)))
  | ((with_reducible apply d_iZip); (focus (walk_at "sq"; done)); (focus (walk_at "sq"; done)))
  | ((with_reducible apply d_iEnum); (focus (walk_at "sq"; done)))
  | walk_at "w2")
local macro_rules | `(tactic| walk_at "w2") => `(tactic| fail)
local macro_rules | `(tactic| walk_at "wn") => `(tactic| repeat walk_at "w1")
local macro_rules | `(tactic| walk_at "w") => `(tactic| repeat (first | walk_at "w1" | with_reducible apply w_ret))

def sp__law_stir : Sp := fun vs H Q _ => ∃ s t : Int, vs = [.int s, .int t] ∧ 0 ≤ s ∧ s < 2 ^ 170 ∧ 0 ≤ t ∧ t ≤ 10 ^ 13 ∧ ∀ v : Int, 0 ≤ v → Q (.int v) H
def t__law_stir  : TS :=
    tSeq (tAsg (tOp oAdd (tOp oMulW (tOp oAdd (tVar 0) (tC (.int 1))) (tC (.int 71930448200000000000000069))) (tOp oMulW (tOp oAdd (tVar 1) (tC (.int 1))) (tC (.int 3390127700000000000000000047)))) (gName 2))
    (tRet (tOp oMod (tOp oPow (tVar 2) (tC (.int 5))) (tC (.int 8120660900000000000000000000000000000000071))))
theorem pure__law_stir {K : PySem.W.Frag} (vs : List V) (H : Hp) (Q : VK) (E : XK) (h : sp__law_stir vs H Q E) : t__law_stir (fin Q) (start ["seed", "turn", "number"] vs) H := by
  obtain ⟨s, t, rfl, s0, s1, t0, t1, q⟩ := h
  show t__law_stir _ [some (.int s), some (.int t), none] H
  unfold t__law_stir
  walk_at "w"
  refine w_mulW (wide_mul (a := 171) (b := 100) (by omega) (by decide) (by decide) (by decide) (by decide)) ?_
  walk_at "w"
  refine w_mulW (wide_mul (a := 100) (b := 100) (by omega) (by decide) (by decide) (by decide) (by decide)) ?_
  walk_at "w"
  have b1 : (s + 1) * 71930448200000000000000069 < 2 ^ 300 := by omega
  have b2 : (t + 1) * 3390127700000000000000000047 < 2 ^ 300 := by omega
  refine w_pow (cpow 400 (by omega) (by decide) (by decide)) ?_
  walk_at "w"
  exact q _ (Int.emod_nonneg _ (by decide))
/-- the law's well, n draws may follow -/
def Well (H : Hp) (b : Addr) (n : Nat) : Prop := ∃ x y z : Int, H b = some (.lst [.int x, .int y, .int z]) ∧ 0 ≤ x ∧ 0 ≤ y ∧ y < 2 ^ 170 ∧ 0 ≤ z ∧ z + n ≤ 10 ^ 12
theorem Well.keep {M : List Addr} {H H' : Hp} {b : Addr} {n : Nat} (h : Well H b n) (c : Chg M H H') (hb : b ∉ M) : Well H' b n := by
  obtain ⟨x, y, z, e, r⟩ := h
  exact ⟨x, y, z, c.keep _ _ e hb, r⟩
theorem Well.same {H H' : Hp} {b : Addr} {n : Nat} (h : Well H b n) (c : Chg [] H H') : Well H' b n := h.keep c (by simp)
theorem Well.one {H H' : Hp} {b p : Addr} {n : Nat} (h : Well H b n) (c : Chg [p] H H') (e : b ≠ p) : Well H' b n := h.keep c (by simpa using e)
theorem Well.ne {H : Hp} {b p : Addr} {n : Nat} (h : Well H b n) (e : H p = none) : b ≠ p := by
  obtain ⟨x, y, z, h, _⟩ := h
  exact ne_of_none h e
theorem Well.some {H : Hp} {b : Addr} {n : Nat} (h : Well H b n) : H b ≠ none := by
  obtain ⟨x, y, z, h, _⟩ := h
  rw [h]
  exact fun z => nomatch z
theorem Well.le {H : Hp} {b : Addr} {n m : Nat} (h : Well H b n) (e : m ≤ n) : Well H b m := by
  obtain ⟨x, y, z, h, x0, y0, y1, z0, z1⟩ := h
  exact ⟨x, y, z, h, x0, y0, y1, z0, by omega⟩
def sp__law_well : Sp := fun vs H Q _ => ∃ c k : Int, vs = [.int c, .int k] ∧ 0 ≤ k ∧ k ≤ 1000 ∧ ∀ b H', H b = none → Chg [] H H' → Well H' b (10 ^ 12) → Q (.ref b) H'
def t__law_well  : TS :=
    tSeq (tAsg (tOp oAdd (tOp oMul (tOp oMod (tVar 0) (tC (.int 8120660900000000000000000000000000000000071))) (tC (.int 128))) (tVar 1)) (gName 2))
    (tSeq (tIfS (tTest (tOp oGe (tVar 0) (tOp oPow (tC (.int 10)) (tC (.int 18))))) (tRet (tLst (tCons (tOp oSub (tVar 0) (tOp oPow (tC (.int 10)) (tC (.int 18)))) (tCons (tVar 2) (tCons (tC (.int 0)) (tNil)))))) (tNext))
    (tRet (tLst (tCons (tCall sp__law_stir [] E0 (tCons (tVar 2) (tCons (tC (.int 0)) (tNil)))) (tCons (tVar 2) (tCons (tC (.int 0)) (tNil)))))))
theorem pure__law_well {K : PySem.W.Frag} (vs : List V) (H : Hp) (Q : VK) (E : XK) (h : sp__law_well vs H Q E) : t__law_well (fin Q) (start ["cell", "k", "seed"] vs) H := by
  obtain ⟨c, k, rfl, k0, k1, q⟩ := h
  show t__law_well _ [some (.int c), some (.int k), none] H
  unfold t__law_well
  have e0 := Int.emod_nonneg c (b := 8120660900000000000000000000000000000000071) (by decide)
  have e1 := Int.emod_lt_of_pos c (b := 8120660900000000000000000000000000000000071) (by decide)
  walk_at "w"
  refine w_mul (.inr ⟨by decide, by decide⟩) ?_
  walk_at "w"
  refine w_pow (cpow 4 (by decide) (by decide) (by decide)) ?_
  walk_at "w"
  refine w_iteD (fun h => ?_) (fun h => ?_)
  · walk_at "w"
    refine w_pow (cpow 4 (by decide) (by decide) (by decide)) ?_
    walk_at "w"
    refine k_lst (by walk_at "sz") fun b H1 nb c1 hb => ?_
    exact q b H1 nb c1 ⟨_, _, _, hb, by omega, by omega, by omega, by omega, by omega⟩
  · walk_at "w"
    refine ⟨_, _, rfl, by omega, by omega, by decide, by decide, fun v hv => ?_⟩
    walk_at "w"
    refine k_lst (by walk_at "sz") fun b H1 nb c1 hb => ?_
    exact q b H1 nb c1 ⟨_, _, _, hb, by omega, by omega, by omega, by omega, by omega⟩
def sp__law_draw : Sp := fun vs H Q _ => ∃ (b : Addr) (m : Int) (n : Nat), vs = [.ref b, .int m] ∧ Well H b n ∧ 1 ≤ n ∧ 0 < m ∧ m < 10 ^ 30 ∧ ∀ (v : Int) (H' : Hp), Chg [b] H H' → Well H' b (n - 1) → 0 ≤ v → v < m → Q (.int v) H'
theorem u_draw {H : Hp} {Q : VK} {E : XK} {b : Addr} {m : Int} {n : Nat} (hb : Well H b n) (hn : 1 ≤ n) (h0 : 0 < m) (h1 : m < 10 ^ 30) (q : ∀ (v : Int) (H' : Hp), Chg [b] H H' → Well H' b (n - 1) → 0 ≤ v → v < m → Q (.int v) H') : sp__law_draw ([.ref b, .int m] ++ []) H Q E := ⟨b, m, n, rfl, hb, hn, h0, h1, q⟩
def t__law_draw (K : PySem.W.Frag) : TS :=
    tSeq (tIfS (tTest (tOp rEq (tOp (rIxL K) (tVar 0) (tC (.int 0))) (tC (.int 0)))) (tSeq (tAsg (tOp oAdd (tOp (rIxL K) (tVar 0) (tC (.int 2))) (tC (.int 1))) (gSub (tVar 0) (tC (.int 2)) rSetL))
    (tAsg (tCall sp__law_stir [] E0 (tCons (tOp (rIxL K) (tVar 0) (tC (.int 1))) (tCons (tOp (rIxL K) (tVar 0) (tC (.int 2))) (tNil)))) (gSub (tVar 0) (tC (.int 0)) rSetL))) (tNext))
    (tSeq (tAsg (tOp oMod (tOp (rIxL K) (tVar 0) (tC (.int 0))) (tVar 1)) (gName 2))
    (tSeq (tAsg (tOp oFdiv (tOp (rIxL K) (tVar 0) (tC (.int 0))) (tVar 1)) (gSub (tVar 0) (tC (.int 0)) rSetL))
    (tRet (tVar 2))))
theorem pure__law_draw {K : PySem.W.Frag} (vs : List V) (H : Hp) (Q : VK) (E : XK) (h : sp__law_draw vs H Q E) : t__law_draw K (fin Q) (start ["well", "many", "taken"] vs) H := by
  obtain ⟨b, m, n, rfl, ⟨x, y, z, hb, x0, y0, y1, z0, z1⟩, n1, m0, m1, q⟩ := h
  show t__law_draw K _ [some (.ref b), some (.int m), none] H
  unfold t__law_draw
  have rest : ∀ (H1 : Hp) (x' z' : Int), Chg [b] H H1 → H1 b = some (.lst [.int x', .int y, .int z']) → 0 ≤ x' → 0 ≤ z' → z' + (n - 1 : Nat) ≤ 10 ^ 12 →
      tSeq (tAsg (tOp oMod (tOp (rIxL K) (tVar 0) (tC (.int 0))) (tVar 1)) (gName 2)) (tSeq (tAsg (tOp oFdiv (tOp (rIxL K) (tVar 0) (tC (.int 0))) (tVar 1)) (gSub (tVar 0) (tC (.int 0)) rSetL)) (tRet (tVar 2))) (fin Q) [some (.ref b), some (.int m), none] H1 := fun H1 x' z' c1 h1 p0 p1 p2 => by
    walk_at "w"
    refine w_fdiv (cdivS m0 m1) ?_
    walk_at "w"
    refine w_setL h1 rfl fun H2 c2 h2 => ?_
    walk_at "w"
    exact q _ H2 (c1.both c2) ⟨_, _, _, h2, Int.ediv_nonneg p0 (by omega), y0, y1, p1, p2⟩ (Int.emod_nonneg _ (by omega)) (Int.emod_lt_of_pos _ m0)
  generalize hS : (tSeq (tAsg (tOp oMod (tOp (rIxL K) (tVar 0) (tC (.int 0))) (tVar 1)) (gName 2)) (tSeq (tAsg (tOp oFdiv (tOp (rIxL K) (tVar 0) (tC (.int 0))) (tVar 1)) (gSub (tVar 0) (tC (.int 0)) rSetL)) (tRet (tVar 2))) : TS) = suf at rest
  walk_at "w"
  refine w_iteD (fun h => ?_) (fun h => ?_)
  · walk_at "w"
    refine w_setL hb rfl fun H1 c1 h1 => ?_
    have h1' : H1 b = some (HO.lst [V.int x, V.int y, V.int (z + 1)]) := h1
    clear h1
    walk_at "w"
    refine ⟨y, z + 1, rfl, y0, y1, by omega, by omega, fun v hv => ?_⟩
    walk_at "w"
    refine w_setL h1' rfl fun H2 c2 h2 => ?_
    exact rest H2 v (z + 1) (c1.both c2) h2 hv (by omega) (by omega)
  · refine w_next ?_
    exact rest H x z .refl hb x0 z0 (by omega)
def sp__law_cell_at (K : PySem.W.Frag) : Sp := fun vs H Q _ => ∃ (a : Addr) (ns : List Int) (k : Int), vs = [.ref a, .int k] ∧ SqL K H a (ns.map V.int) ∧ 0 ≤ k ∧ ∀ v : Int, Q (.int v) H
def t__law_cell_at (K : PySem.W.Frag) : TS :=
    tSeq (tIfS (tTest (tOp oLt (tVar 1) (tCB (cLenQ K) (tCons (tVar 0) (tNil))))) (tRet (tOp (rIxL K) (tVar 0) (tVar 1))) (tNext))
    (tRet (tC (.int 0)))
theorem pure__law_cell_at {K : PySem.W.Frag} (vs : List V) (H : Hp) (Q : VK) (E : XK) (h : sp__law_cell_at K vs H Q E) : t__law_cell_at K (fin Q) (start ["script", "k"] vs) H := by
  obtain ⟨a, ns, k, rfl, hs, k0, q⟩ := h
  show t__law_cell_at K _ [some (.ref a), some (.int k)] H
  unfold t__law_cell_at
  walk_at "w"
  refine w_iteD (fun h => ?_) (fun h => ?_)
  · rw [List.length_map] at h
    obtain ⟨v, ev, hv⟩ := atD (xs := ns.map V.int) k0 (by rw [List.length_map]; exact h)
    obtain ⟨n, _, rfl⟩ := List.mem_map.mp hv
    walk_at "w"
    exact q n
  · walk_at "w"
    exact q 0
def sp__law_number : Sp := fun vs H Q _ => ∃ (b : Addr) (n : Nat), vs = [.ref b] ∧ Well H b n ∧ 2 ≤ n ∧ ∀ (v : Int) (H' : Hp), Chg [b] H H' → Well H' b (n - 2) → -(10 ^ 20) ≤ v → v ≤ 10 ^ 20 → Q (.int v) H'
def t__law_number  : TS :=
    tSeq (tAsg (tCall sp__law_draw [] E0 (tCons (tVar 0) (tCons (tC (.int 9)) (tNil)))) (gName 1))
    (tSeq (tIfS (tTest (tOp oLt (tVar 1) (tC (.int 6)))) (tRet (tCall sp__law_draw [] E0 (tCons (tVar 0) (tCons (tC (.int 4)) (tNil))))) (tNext))
    (tSeq (tIfS (tTest (tOp oLt (tVar 1) (tC (.int 8)))) (tRet (tOp oSub (tCall sp__law_draw [] E0 (tCons (tVar 0) (tCons (tC (.int 13)) (tNil)))) (tC (.int 6)))) (tNext))
    (tRet (tOp oAdd (tOp oSub (tCall sp__law_draw [] E0 (tCons (tVar 0) (tCons (tOp oSub (tOp oMul (tC (.int 2)) (tOp oPow (tC (.int 10)) (tC (.int 20)))) (tC (.int 1))) (tNil)))) (tOp oPow (tC (.int 10)) (tC (.int 20)))) (tC (.int 1))))))
theorem pure__law_number {K : PySem.W.Frag} (vs : List V) (H : Hp) (Q : VK) (E : XK) (h : sp__law_number vs H Q E) : t__law_number (fin Q) (start ["well", "pick"] vs) H := by
  obtain ⟨b, n, rfl, bag, hn, q⟩ := h
  show t__law_number _ [some (.ref b), none] H
  unfold t__law_number
  walk_at "w"
  refine u_draw bag (by omega) (by decide) (by decide) fun v H1 c1 bag1 v0 v1 => ?_
  walk_at "w"
  refine w_iteD (fun h => ?_) (fun h => ?_)
  · walk_at "w"
    refine u_draw bag1 (by omega) (by decide) (by decide) fun u H2 c2 bag2 u0 u1 => ?_
    exact q _ H2 (c1.both c2) (bag2.le (by omega)) (by omega) (by omega)
  walk_at "w"
  refine w_iteD (fun h' => ?_) (fun h' => ?_)
  · walk_at "w"
    refine u_draw bag1 (by omega) (by decide) (by decide) fun u H2 c2 bag2 u0 u1 => ?_
    walk_at "w"
    exact q _ H2 (c1.both c2) (bag2.le (by omega)) (by omega) (by omega)
  walk_at "w"
  refine w_pow (cpow 4 (by decide) (by decide) (by decide)) ?_
  walk_at "w"
  refine w_mul (.inl ⟨by decide, by decide⟩) ?_
  walk_at "w"
  have e20 : (10 : Int) ^ Int.toNat 20 = 100000000000000000000 := by decide
  rw [e20]
  refine u_draw bag1 (by omega) (by decide) (by decide) fun u H2 c2 bag2 u0 u1 => ?_
  walk_at "w"
  refine w_pow (cpow 4 (by decide) (by decide) (by decide)) ?_
  walk_at "w"
  rw [e20]
  exact q _ H2 (c1.both c2) (bag2.le (by omega)) (by omega) (by omega)
end Fg
--LAW k07
namespace Fg
open PySem PySem.Spec PyProof.Rows L2
/-! ### the walk's small steps -/
local macro_rules | `(tactic| walk_at "hp") => `(tactic| first
  | assumption
  | exact upd_same
  | (refine Chg.at (by assumption) ?_; walk_at "hp")
  | (refine Chg.at1 (by assumption) ?_ (by walk_at "ne"); walk_at "hp"))
local macro_rules | `(tactic| walk_at "ne") => `(tactic| first | assumption | (apply Ne.symm; assumption))
local macro_rules | `(tactic| walk_at "sq") => `(tactic| first | assumption | exact sqL (by walk_at "hp") | (refine Chg.seq (by assumption) ?_; walk_at "sq"))
local macro_rules | `(tactic| walk_at "sz") => `(tactic| first | assumption | exact Nat.zero_le _ | (simp only [List.length_cons, List.length_nil]; decide) | exact Nat.le_trans (by first | omega | (simp; done) | (simp; omega)) (show 100000 ≤ sizeLine by decide) | exact Nat.lt_of_lt_of_le (by first | omega | (simp; done) | (simp; omega)) (show 100000 ≤ sizeLine by decide))
local macro_rules | `(tactic| walk_at "ix") => `(tactic| first | exact at0 | exact at1 | exact at2 | exact at3 | assumption | exact rfl | walk_at "ix2")
local macro_rules | `(tactic| walk_at "ix2") => `(tactic| fail)
local macro_rules | `(tactic| walk_at "num") => `(tactic| first | assumption | omega | decide | walk_at "num2")
local macro_rules | `(tactic| walk_at "num2") => `(tactic| fail)
local macro_rules | `(tactic| walk_at "im") => `(tactic| first | assumption | exact R.non (S := fun _ => False) | exact R.bl (S := fun _ => False) _ | exact R.int (S := fun _ => False) _ | exact R.str (S := fun _ => False) _ | (refine R.im (by assumption) ?_; walk_at "im"))
local macro_rules | `(tactic| walk_at "r") => `(tactic| first | assumption | exact R.non (S := fun _ => False) | exact R.bl (S := fun _ => False) _ | exact R.int (S := fun _ => False) _ | exact R.str (S := fun _ => False) _ | (refine R.same (by assumption) ?_; walk_at "r") | exact R.any (by walk_at "im"))
local macro_rules | `(tactic| walk_at "chg") => `(tactic| first
  | exact Chg.refl
  | assumption
  | (refine Chg.same ?_ (by assumption); walk_at "chg")
  | (refine Chg.both ?_ (by assumption); walk_at "chg")
  | (refine Chg.pre (by assumption) ?_; walk_at "chg"))
local macro_rules | `(tactic| walk_at "w1") => `(tactic| first
  | with_reducible apply w_seq
  | with_reducible apply w_asg
  | ((with_reducible apply w_var); (focus (exact rfl)))
  | with_reducible apply w_c
  | with_reducible apply w_op
  | with_reducible apply w_cons
  | with_reducible apply w_nil
  | with_reducible apply w_gName
  | with_reducible apply w_if
  | with_reducible apply w_test
  | with_reducible apply w_B
  | with_reducible apply w_isbl
  | with_reducible apply w_retN
  | with_reducible apply w_next
  | with_reducible apply w_drop
  | with_reducible apply w_cb
  | with_reducible apply w_call
  | with_reducible apply w_callN
  | with_reducible apply w_bm
  | with_reducible apply w_bm0
  | ((with_reducible apply w_tyL); (focus (walk_at "hp"; done)))
  | with_reducible apply w_dput
  | with_reducible apply w_m1
  | with_reducible apply w_isstr
  | with_reducible apply w_and
  | with_reducible apply w_or
  | with_reducible apply w_not
  | with_reducible apply w_andV
  | with_reducible apply w_orV
  | with_reducible apply w_notV
  | with_reducible apply w_ifE
  | with_reducible apply w_chain
  | with_reducible apply w_un
  | with_reducible apply w_neg
  | with_reducible apply w_add
  | with_reducible apply w_sub
  | ((with_reducible apply w_mod); (focus (walk_at "num"; done)))
  | ((with_reducible apply w_mul); (focus (walk_at "num"; done)))
  | ((with_reducible apply w_fdiv); (focus (walk_at "num"; done)))
  | ((with_reducible apply w_pow); (focus (walk_at "num"; done)))
  | with_reducible apply w_lt
  | with_reducible apply w_le
  | with_reducible apply w_gt
  | with_reducible apply w_ge
  | with_reducible apply w_ltS
  | with_reducible apply w_geS
  | with_reducible apply w_inC
  | with_reducible apply w_notInC
  | with_reducible apply w_isN
  | with_reducible apply w_notN
  | with_reducible apply w_isB
  | with_reducible apply w_notB
  | ((with_reducible apply w_addS); (focus (walk_at "sz"; done)))
  | ((with_reducible apply w_ixL); (focus (walk_at "sq"; done)); (focus (walk_at "ix"; done)))
  | ((with_reducible apply w_ixT); (focus (walk_at "hp"; done)); (focus (walk_at "ix"; done)))
  | ((with_reducible apply w_ixS); (focus (walk_at "sz"; done)); (focus (walk_at "ix"; done)))
  | with_reducible apply w_gSub
  | ((with_reducible apply w_gTup); (focus (walk_at "hp"; done)); (focus (exact rfl)))
  | with_reducible apply w_gCons
  | with_reducible apply w_gNil
  | ((with_reducible apply w_aug); (focus (exact rfl)))
  | with_reducible apply w_ipI
  | ((with_reducible apply w_eq); (focus (exact rfl)))
  | ((with_reducible apply w_ne); (focus (exact rfl)))
  | with_reducible apply w_max
  | with_reducible apply w_min
  | with_reducible apply w_abs
  | with_reducible apply w_intB
  | with_reducible apply w_intI
  | with_reducible apply w_tup1
  | with_reducible apply w_lst1
  | with_reducible apply w_sl
  | with_reducible apply w_part
  | with_reducible apply w_noPart
  | with_reducible apply w_isint
  | ((with_reducible apply w_slS); (focus (walk_at "sz"; done)))
  | with_reducible apply w_iteT
  | with_reducible apply w_iteF
  | with_reducible apply w_iteN
  | ((with_reducible apply w_iteYes); (focus (exact rfl)))
  | ((with_reducible apply w_iteNo); (focus (exact rfl)))
  | ((with_reducible apply w_lenL); (focus (walk_at "sq"; done)))
  | ((with_reducible apply w_lenT); (focus (walk_at "hp"; done)))
  | ((with_reducible apply w_lenS); (focus (walk_at "sz"; done)))
  | with_reducible apply w_lc
  | with_reducible apply w_for
  | with_reducible apply w_yes
  | ((with_reducible apply w_wipe); (focus (exact rfl)))
  | with_reducible apply w_iList
  | with_reducible apply w_iTup
  | with_reducible apply w_iStr
  | with_reducible apply w_iRng1
  | with_reducible apply w_iRng2
  | with_reducible apply w_iZip
  | with_reducible apply w_iEnum
  | ((with_reducible apply d_iList); (focus (walk_at "sq"; done)))
  | ((with_reducible apply d_iTup); (focus (walk_at "hp"; done)))
  | with_reducible apply d_iStr
  | ((with_reducible apply d_iRng1); (focus (walk_at "num"; done)); (focus (walk_at "num"; done)))
  | ((with_reducible apply d_iRng2); (focus (walk_at "num"; done)); (focus (walk_at "num"; done)); (focus (walk_at "num"; done)); (focus (walk_at "num"; done)))
  | ((with_reducible apply d_iZip); (focus (walk_at "sq"; done)); (focus (walk_at "sq"; done)))
  | ((with_reducible apply d_iEnum); (focus (walk_at "sq"; done)))
  | walk_at "w2")
local macro_rules | `(tactic| walk_at "w2") => `(tactic| fail)
local macro_rules | `(tactic| walk_at "wn") => `(tactic| repeat walk_at "w1")
local macro_rules | `(tactic| walk_at "w") => `(tactic| repeat (first | walk_at "w1" | with_reducible apply w_ret))

theorem few_of {α : Type} [DecidableEq α] : ∀ {xs ys : List α}, xs.Nodup → (∀ x ∈ xs, x ∈ ys) → xs.length ≤ ys.length
  | [], _, _, _ => Nat.zero_le _
  | x :: r, ys, nd, h => by
    obtain ⟨n1, n2⟩ := List.nodup_cons.mp nd
    have hm : x ∈ ys := h x (by simp)
    have : r.length ≤ (ys.erase x).length := few_of n2 fun y hy => (List.mem_erase_of_ne (fun e => n1 (by rw [← e]; exact hy))).mpr (h y (List.mem_cons_of_mem _ hy))
    rw [List.length_erase_of_mem hm] at this
    have := List.length_pos_of_mem hm
    rw [List.length_cons]
    omega
theorem strs_of {P : Str → Prop} : ∀ {acc : List V}, (∀ (i : Nat) y, acc[i]? = some y → ∃ z, y = .str z ∧ P z) → ∃ zs : List Str, acc = zs.map V.str ∧ ∀ z ∈ zs, P z
  | [], _ => ⟨[], rfl, fun z h => by cases h⟩
  | v :: r, h => by
    obtain ⟨z, rfl, hz⟩ := h 0 v rfl
    obtain ⟨zs, e, hs⟩ := strs_of (acc := r) fun i y hy => h (i + 1) y hy
    refine ⟨z :: zs, by rw [e]; rfl, fun y hy => ?_⟩
    rcases List.mem_cons.mp hy with rfl | hy
    · exact hz
    · exact hs y hy
def lt26 : List Str := (List.range 26).map fun k => ⟨#[97 + k]⟩
theorem lt26_nd : lt26.Nodup := by decide +kernel
theorem lt26_ok : ∀ x ∈ lt26, nameS x = true := by decide +kernel
theorem letter_k {i : Nat} (h : i < 26) : atI (Str.ofString "abcdefghijklmnopqrstuvwxyz").cps.toList (0 + (i : Nat)) = some (97 + i) := by
  have e : ∀ i, i < 26 → (Str.ofString "abcdefghijklmnopqrstuvwxyz").cps.toList[i]? = some (97 + i) := by decide +kernel
  rw [Int.zero_add]
  exact atI_nat (e i h)
theorem low_k {i : Nat} (h : i < 26) : isLow (97 + i) = true := by
  have e : ∀ i, i < 26 → isLow (97 + i) = true := by decide +kernel
  exact e i h
def sp__law_new_name (K : PySem.W.Frag) : Sp := fun vs H Q _ => ∃ (b l : Addr) (ns : List Str) (n : Nat), vs = [.ref b, .ref l] ∧ Well H b n ∧ 20 ≤ n ∧ H l = some (.lst (ns.map V.str)) ∧ l ≠ b ∧ ns.length ≤ 20 ∧ (∀ x ∈ ns, nameS x = true) ∧ ∀ (x : Str) (H' : Hp), Chg [b] H H' → Well H' b (n - 20) → nameS x = true → x ∉ ns → Q (.str x) H'
def t__law_new_name (K : PySem.W.Frag) : TS :=
    tSeq (tAsg (tC (.str "abcdefghijklmnopqrstuvwxyz")) (gName 2))
    (tSeq (tAsg (tCall sp__law_draw [] E0 (tCons (tVar 0) (tCons (tC (.int 3)) (tNil)))) (gName 3))
    (tSeq (tAsg (tOp rIxS (tVar 2) (tCall sp__law_draw [] E0 (tCons (tVar 0) (tCons (tC (.int 26)) (tNil))))) (gName 4))
    (tSeq (tAsg (tM1 (mJoin K) (tC (.str "")) (tLc (iRng1 (tCons (tOp oAdd (tC (.int 1)) (tCall sp__law_draw [] E0 (tCons (tVar 0) (tCons (tC (.int 8)) (tNil))))) (tNil))) (gName 9) (tYes) (tOp rIxS (tVar 2) (tCall sp__law_draw [] E0 (tCons (tVar 0) (tCons (tC (.int 26)) (tNil))))) [9])) (gName 5))
    (tSeq (tIfS (tAnd (tTest (tOp oGt (tVar 3) (tC (.int 0)))) (tTest (tOp oNeE (tVar 1) (tLst (tNil))))) (tSeq (tAsg (tOp (rIxL K) (tVar 1) (tCall sp__law_draw [] E0 (tCons (tVar 0) (tCons (tCB (cLenQ K) (tCons (tVar 1) (tNil))) (tNil))))) (gName 6))
    (tSeq (tAsg (tCall sp__law_draw [] E0 (tCons (tVar 0) (tCons (tOp oAdd (tCB cLenS (tCons (tVar 6) (tNil))) (tC (.int 1))) (tNil)))) (gName 7))
    (tAsg (tSl rSlS (tOp oAddS (tOp oAddS (tSl rSlS (tVar 6) (tNoPart) (tPart (tVar 7))) (tVar 4)) (tSl rSlS (tVar 6) (tPart (tOp oSub (tOp oAdd (tVar 7) (tVar 3)) (tC (.int 1)))) (tNoPart))) (tNoPart) (tPart (tC (.int 8)))) (gName 5)))) (tNext))
    (tSeq (tAsg (tOp rCat (tOp rCat (tLst (tCons (tVar 5) (tNil))) (tLc (iRng1 (tCons (tC (.int 26)) (tNil))) (gName 9) (tYes) (tOp rIxS (tVar 2) (tVar 9)) [9])) (tLc (iRng1 (tCons (tC (.int 26)) (tNil))) (gName 9) (tYes) (tOp oAddS (tOp rIxS (tVar 2) (tVar 9)) (tOp rIxS (tVar 2) (tVar 9))) [9])) (gName 8))
    (tRet (tOp (rIxL K) (tLc (iList K (tVar 8)) (gName 10) (tTest (tOp (rIn K true) (tVar 10) (tVar 1))) (tVar 10) [10]) (tC (.int 0)))))))))
theorem pure__law_new_name {K : PySem.W.Frag} (vs : List V) (H : Hp) (Q : VK) (E : XK) (h : sp__law_new_name K vs H Q E) : t__law_new_name K (fin Q) (start ["well", "names", "letters", "pick", "letter", "name", "old", "at", "some", "k", "one"] vs) H := by
  obtain ⟨b, l, ns, n, rfl, bag, hn, hl, lb, ln, okn, q⟩ := h
  show t__law_new_name K _ [some (.ref b), some (.ref l), none, none, none, none, none, none, none, none, none] H
  unfold t__law_new_name
  -- the choice of one that is not there
  have rest : ∀ (H1 : Hp) (name : Str) (y3 y4 y6 y7 y9 y10 : Option V), Chg [b] H H1 → Well H1 b (n - 20) → nameS name = true →
      tSeq (tAsg (tOp rCat (tOp rCat (tLst (tCons (tVar 5) tNil)) (tLc (iRng1 (tCons (tC (.int 26)) tNil)) (gName 9) tYes (tOp rIxS (tVar 2) (tVar 9)) [9])) (tLc (iRng1 (tCons (tC (.int 26)) tNil)) (gName 9) tYes (tOp oAddS (tOp rIxS (tVar 2) (tVar 9)) (tOp rIxS (tVar 2) (tVar 9))) [9])) (gName 8))
        (tRet (tOp (rIxL K) (tLc (iList K (tVar 8)) (gName 10) (tTest (tOp (rIn K true) (tVar 10) (tVar 1))) (tVar 10) [10]) (tC (.int 0)))) (fin Q) [some (.ref b), some (.ref l), some (.str "abcdefghijklmnopqrstuvwxyz"), y3, y4, some (.str name), y6, y7, none, y9, y10] H1 := fun H1 name y3 y4 y6 y7 y9 y10 c1 bag1 okm => by
    walk_at "w"
    refine k_lst (by walk_at "sz") fun p1 H2 np1 c2 hp1 => ?_
    walk_at "w"
    refine w_lcP walk_range [] (fun _ _ => True) (fun i y _ => ∃ z : Str, y = .str z ∧ z = ⟨#[97 + i]⟩) trivial (fun _ _ _ _ _ _ _ => trivial) (fun _ _ => trivial) (fun D i acc z H3 H4 hi nD hD el iv c3 _ y => ?_) (fun D acc H3 nD c3 _ el hD ys => ?_)
    · obtain ⟨rfl, rfl⟩ := y
      have hi' : i < 26 := hi
      walk_at "w"
      refine w_ixS (by decide +kernel) (letter_k hi') ?_
      exact lcp_end (fun _ _ _ _ _ _ _ => trivial) (fun _ _ _ _ _ _ _ h => h) nD (fun a ha => by cases ha) hD el (by omega) iv .refl trivial ⟨_, rfl, rfl⟩
    have e26 : acc = lt26.map V.str := by
      have l26 : acc.length = 26 := el
      apply List.ext_getElem?
      intro i
      by_cases hi : i < 26
      · obtain ⟨z, e1, e2⟩ := ys i acc[i] (List.getElem?_eq_getElem (by omega))
        rw [List.getElem?_eq_getElem (by omega), e1, e2]
        unfold lt26
        rw [List.map_map, List.getElem?_map, List.getElem?_range hi]
        rfl
      · rw [List.getElem?_eq_none (by omega), List.getElem?_eq_none (by rw [List.length_map]; unfold lt26; rw [List.length_map, List.length_range]; omega)]
    subst e26
    refine w_cat (c3.at hp1) hD (by rw [List.length_map]; unfold lt26; simp) fun p4 H4 np4 c4 hp4 => ?_
    walk_at "w"
    refine w_lcP walk_range [] (fun _ _ => True) (fun i y _ => ∃ z : Str, y = .str z ∧ nameS z = true) trivial (fun _ _ _ _ _ _ _ => trivial) (fun _ _ => trivial) (fun D2 i acc2 z H5 H6 hi nD2 hD2 el2 iv2 c5 _ y => ?_) (fun D2 acc2 H5 nD2 c5 _ el2 hD2 ys2 => ?_)
    · obtain ⟨rfl, rfl⟩ := y
      have hi' : i < 26 := hi
      walk_at "w"
      refine w_ixS (by decide +kernel) (letter_k hi') ?_
      walk_at "w"
      refine w_ixS (by decide +kernel) (letter_k hi') ?_
      refine w_addS (by rw [len_one]; decide) ?_
      refine lcp_end (fun _ _ _ _ _ _ _ => trivial) (fun _ _ _ _ _ _ _ h => h) nD2 (fun a ha => by cases ha) hD2 el2 (by omega) iv2 .refl trivial ⟨_, rfl, nameS_of ?_ ?_ (low_append (low_one (low_k hi')) (low_one (low_k hi')))⟩
      · rw [len_append, len_one]; omega
      · rw [len_append, len_one]; omega
    obtain ⟨zs2, rfl, hz2⟩ := strs_of ys2
    have l2 : zs2.length = 26 := by rw [List.length_map] at el2; exact el2
    refine w_cat (c5.at hp4) hD2 (by simp [l2, lt26]) fun p6 H6 np6 c6 hp6 => ?_
    walk_at "w"
    have hp6' : H6 p6 = some (.lst ((([name] ++ lt26) ++ zs2).map V.str)) := by rw [List.map_append, List.map_append]; exact hp6
    have all : ∀ z ∈ ([name] ++ lt26) ++ zs2, nameS z = true := fun z hz => by
      rcases List.mem_append.mp hz with hz | hz
      · rcases List.mem_append.mp hz with hz | hz
        · rw [List.mem_singleton.mp hz]; exact okm
        · exact lt26_ok z hz
      · exact hz2 z hz
    have lall : (([name] ++ lt26) ++ zs2).length ≤ 60 := by simp [l2, lt26]
    have sub : ∀ z ∈ lt26, z ∈ ([name] ++ lt26) ++ zs2 := fun z hz => by simp [hz]
    generalize ([name] ++ lt26) ++ zs2 = zs at hp6' all lall sub
    have c26 : Chg [] H1 H6 := (((c2.same c3).same c4).same c5).same c6
    have hl6 := c26.at (c1.at1 hl lb)
    refine w_lcF (walk_list (K := K) (a := p6) (xs := zs.map V.str)) [] (fun i acc => acc = ((zs.take i).filter fun z => decide (z ∉ ns)).map V.str) rfl (fun H7 c => sqL (c.at hp6')) (fun D3 i acc3 z H7 H8 hi nD3 hD3 el3 ac c7 y => ?_) (fun D3 acc3 H7 nD3 c7 el3 hD3 ac => ?_)
    · obtain ⟨rfl, ex⟩ := y
      rw [List.length_map] at hi
      rw [List.getElem?_map, List.getElem?_eq_getElem hi] at ex
      cases ex
      have et : zs.take (i + 1) = zs.take i ++ [zs[i]] := by rw [List.take_add_one, List.getElem?_eq_getElem hi]; rfl
      generalize zs[i] = x at et ⊢
      have hl7 := c7.at hl6
      walk_at "w"
      refine w_notInL (sqL hl7) rfl (flat_strs ns) ?_
      rw [inV_str]
      walk_at "w"
      refine w_iteD (fun hin => ?_) (fun hin => ?_)
      · refine lf_no hD3 el3 c7 ?_
        rw [et, List.filter_append, show ([x].filter fun z => decide (z ∉ ns)) = [] by simp [hin], List.append_nil]
        exact ac
      · walk_at "w"
        refine lf_yes nD3 hD3 el3 (by omega) c7 ?_
        rw [et, List.filter_append, show ([x].filter fun z => decide (z ∉ ns)) = [x] by simp [hin], List.map_append, ac]
        rfl
    · rw [List.length_map, List.take_length] at ac
      have ne : (zs.filter fun z => decide (z ∉ ns)) ≠ [] := fun e => by
        have all26 : ∀ z ∈ lt26, z ∈ ns := fun z hz => by
          by_cases hm : z ∈ ns
          · exact hm
          · have : z ∈ zs.filter fun z => decide (z ∉ ns) := List.mem_filter.mpr ⟨sub z hz, decide_eq_true hm⟩
            rw [e] at this
            cases this
        have := few_of lt26_nd all26
        have l26 : lt26.length = 26 := by decide +kernel
        omega
      cases hf : (zs.filter fun z => decide (z ∉ ns)) with
      | nil => exact absurd hf ne
      | cons x r =>
        have hx : x ∈ zs.filter fun z => decide (z ∉ ns) := by rw [hf]; simp
        obtain ⟨h1, h2⟩ := List.mem_filter.mp hx
        rw [hf] at ac
        rw [ac] at hD3
        refine w_ixL (sqL hD3) (v := .str x) at0 ?_
        exact q x H7 (c1.same (c26.same c7)) (bag1.same (c26.same c7)) (all x h1) (of_decide_eq_true h2)
  generalize hS : (tSeq (tAsg (tOp rCat (tOp rCat (tLst (tCons (tVar 5) tNil)) (tLc (iRng1 (tCons (tC (.int 26)) tNil)) (gName 9) tYes (tOp rIxS (tVar 2) (tVar 9)) [9])) (tLc (iRng1 (tCons (tC (.int 26)) tNil)) (gName 9) tYes (tOp oAddS (tOp rIxS (tVar 2) (tVar 9)) (tOp rIxS (tVar 2) (tVar 9))) [9])) (gName 8))
        (tRet (tOp (rIxL K) (tLc (iList K (tVar 8)) (gName 10) (tTest (tOp (rIn K true) (tVar 10) (tVar 1))) (tVar 10) [10]) (tC (.int 0)))) : TS) = suf at rest
  walk_at "w"
  refine u_draw bag (by omega) (by decide) (by decide) fun v H1 c1 bag1 v0 v1 => ?_
  walk_at "w"
  refine u_draw bag1 (by omega) (by decide) (by decide) fun u H2 c2 bag2 u0 u1 => ?_
  obtain ⟨c, ec, hc⟩ := letter_at u0 u1
  have c12 := c1.both c2
  refine w_ixS (by decide +kernel) ec ?_
  walk_at "w"
  refine u_draw bag2 (by omega) (by decide) (by decide) fun w H3 c3 bag3 w0 w1 => ?_
  walk_at "w"
  have b3s := bag3.some
  refine w_lcP walk_range [b] (fun i H => Well H b (n - 3 - i)) (fun i y _ => ∃ d, y = .str ⟨#[d]⟩ ∧ isLow d = true) (bag3.le (by omega)) (fun i H1 H2 p np c h => h.one c (fun z => b3s (by rw [z]; exact np))) (fun _ _ => trivial) (fun D i acc z H4 H5 hi nD hD el iv c4 bag4 y => ?_) (fun D acc H4 nD c4 bag4 el hD ys => ?_)
  · obtain ⟨rfl, rfl⟩ := y
    have hi8 : i < 8 := by omega
    walk_at "w"
    refine u_draw bag4 (by omega) (by decide) (by decide) fun u2 H6 c6 bag6 g0 g1 => ?_
    obtain ⟨d, ed, hd⟩ := letter_at g0 g1
    refine w_ixS (by decide +kernel) ed ?_
    exact lcp_end (fun i H1 H2 p np c h => h.one c (fun z => b3s (by rw [z]; exact np))) (fun _ _ _ _ _ _ _ h => h) nD (fun a ha => by rw [List.mem_singleton.mp ha]; exact b3s) hD el (by omega) iv c6 (bag6.le (by omega)) ⟨d, rfl, hd⟩
  have hlen : acc.length = (1 + w).toNat := el
  obtain ⟨zs, rfl, hzs⟩ := strs_of (P := fun z => z.length = 1 ∧ low z) fun i y hy => by
    obtain ⟨d, rfl, hd⟩ := ys i y hy
    exact ⟨_, rfl, rfl, low_one hd⟩
  rw [List.length_map] at hlen
  have j := join_ones hzs
  refine w_join (sqL hD) ?_ ?_
  · rw [sum_ones fun y hy => (hzs y hy).1, show (Str.ofString "").length = 0 from by decide +kernel]
    omega
  have okj : nameS (Txt.join "" zs) = true := nameS_of (by rw [j.1]; omega) (by rw [j.1]; omega) j.2
  have c04 : Chg [b] H H4 := (c12.both c3).both c4
  have hl4 := c04.at1 hl lb
  walk_at "w"
  refine w_iteD (fun hp => ?_) (fun hp => ?_)
  rotate_left
  · walk_at "w"
    exact rest H4 _ _ _ _ _ _ _ c04 (bag4.le (by omega)) okj
  walk_at "w"
  refine k_lst (by walk_at "sz") fun pe H5 npe c5 hpe => ?_
  refine w_neE (c5.at hl4) hpe ?_
  have bag5 := bag4.same c5
  have hl5 := c5.at hl4
  walk_at "w"
  refine w_iteB (fun he => ?_) (fun he => ?_)
  · walk_at "w"
    exact rest H5 _ _ _ _ _ _ _ (c04.same c5) (bag5.le (by omega)) okj
  have nne : 0 < ns.length := by
    cases ns with
    | nil => cases he
    | cons a r => simp
  walk_at "w"
  rw [List.length_map]
  refine u_draw bag5 (by omega) (by omega) (by omega) fun o H6 c6 bag6 o0 o1 => ?_
  obtain ⟨ov, eo, ho⟩ := atD (xs := ns.map V.str) o0 (by rw [List.length_map]; exact o1)
  obtain ⟨old, hold, rfl⟩ := List.mem_map.mp ho
  have oo := nameS_iff.mp (okn old hold)
  have l8 : old.length ≤ 8 := oo.2.1
  refine w_ixL (sqL (c6.at1 hl5 lb)) eo ?_
  walk_at "w"
  refine u_draw bag6 (by omega) (by omega) (by omega) fun t H7 c7 bag7 t0 t1 => ?_
  walk_at "w"
  have k1 := cutS_le old none (some t)
  refine w_addS ?_ ?_
  · rw [len_one]
    exact Nat.le_trans (show (cutS old none (some t)).length + 1 ≤ 100000 by omega) (by decide)
  walk_at "w"
  have k2 := cutS_le old (some (t + v - 1)) none
  have lsum : (cutS old none (some t) ++ (Str.mk #[c]) ++ cutS old (some (t + v - 1)) none).length = (cutS old none (some t)).length + 1 + (cutS old (some (t + v - 1)) none).length := by rw [len_append, len_append, len_one]
  refine w_addS ?_ ?_
  · rw [len_append, len_one]
    exact Nat.le_trans (show (cutS old none (some t)).length + 1 + (cutS old (some (t + v - 1)) none).length ≤ 100000 by omega) (by decide)
  walk_at "w"
  refine rest H7 _ _ _ _ _ _ _ (((c04.same c5).both c6).both c7) (bag7.le (by omega)) (nameS_of ?_ ?_ (low_cut _ _ (low_append (low_append (low_cut _ _ oo.2.2) (low_one hc)) (low_cut _ _ oo.2.2))))
  · rw [len_cut, sIx_i (by decide), HT.sIx_none, lsum]
    show 1 ≤ min (min 8 _ - 0) (_ - 0)
    omega
  · rw [len_cut, sIx_i (by decide), HT.sIx_none, lsum]
    show min (min 8 _ - 0) (_ - 0) ≤ 8
    omega
end Fg
--LAW k07
namespace Fg
open PySem PySem.Spec PyProof.Rows L2
/-! ### the walk's small steps -/
local macro_rules | `(tactic| walk_at "hp") => `(tactic| first
  | assumption
  | exact upd_same
  | (refine Chg.at (by assumption) ?_; walk_at "hp")
  | (refine Chg.at1 (by assumption) ?_ (by walk_at "ne"); walk_at "hp"))
local macro_rules | `(tactic| walk_at "ne") => `(tactic| first | assumption | (apply Ne.symm; assumption))
local macro_rules | `(tactic| walk_at "sq") => `(tactic| first | assumption | exact sqL (by walk_at "hp") | (refine Chg.seq (by assumption) ?_; walk_at "sq"))
local macro_rules | `(tactic| walk_at "sz") => `(tactic| first | assumption | exact Nat.zero_le _ | (simp only [List.length_cons, List.length_nil]; decide) | exact Nat.le_trans (by first | omega | (simp; done) | (simp; omega)) (show 100000 ≤ sizeLine by decide) | exact Nat.lt_of_lt_of_le (by first | omega | (simp; done) | (simp; omega)) (show 100000 ≤ sizeLine by decide))
local macro_rules | `(tactic| walk_at "ix") => `(tactic| first | exact at0 | exact at1 | exact at2 | exact at3 | assumption | exact rfl | walk_at "ix2")
local macro_rules | `(tactic| walk_at "ix2") => `(tactic| fail)
local macro_rules | `(tactic| walk_at "num") => `(tactic| first | assumption | omega | decide | walk_at "num2")
local macro_rules | `(tactic| walk_at "num2") => `(tactic| fail)
local macro_rules | `(tactic| walk_at "im") => `(tactic| first | assumption | exact R.non (S := fun _ => False) | exact R.bl (S := fun _ => False) _ | exact R.int (S := fun _ => False) _ | exact R.str (S := fun _ => False) _ | (refine R.im (by assumption) ?_; walk_at "im"))
local macro_rules | `(tactic| walk_at "r") => `(tactic| first | assumption | exact R.non (S := fun _ => False) | exact R.bl (S := fun _ => False) _ | exact R.int (S := fun _ => False) _ | exact R.str (S := fun _ => False) _ | (refine R.same (by assumption) ?_; walk_at "r") | exact R.any (by walk_at "im"))
local macro_rules | `(tactic| walk_at "chg") => `(tactic| first
  | exact Chg.refl
  | assumption
  | (refine Chg.same ?_ (by assumption); walk_at "chg")
  | (refine Chg.both ?_ (by assumption); walk_at "chg")
  | (refine Chg.pre (by assumption) ?_; walk_at "chg"))
local macro_rules | `(tactic| walk_at "w1") => `(tactic| first
  | with_reducible apply w_seq
  | with_reducible apply w_asg
  | ((with_reducible apply w_var); (focus (exact rfl)))
  | with_reducible apply w_c
  | with_reducible apply w_op
  | with_reducible apply w_cons
  | with_reducible apply w_nil
  | with_reducible apply w_gName
  | with_reducible apply w_if
  | with_reducible apply w_test
  | with_reducible apply w_B
  | with_reducible apply w_isbl
  | with_reducible apply w_retN
  | with_reducible apply w_next
  | with_reducible apply w_drop
  | with_reducible apply w_cb
  | with_reducible apply w_call
  | with_reducible apply w_callN
  | with_reducible apply w_bm
  | with_reducible apply w_bm0
  | ((with_reducible apply w_tyL); (focus (walk_at "hp"; done)))
  | with_reducible apply w_dput
  | with_reducible apply w_m1
  | with_reducible apply w_isstr
  | with_reducible apply w_and
  | with_reducible apply w_or
  | with_reducible apply w_not
  | with_reducible apply w_andV
  | with_reducible apply w_orV
  | with_reducible apply w_notV
  | with_reducible apply w_ifE
  | with_reducible apply w_chain
  | with_reducible apply w_un
  | with_reducible apply w_neg
  | with_reducible apply w_add
  | with_reducible apply w_sub
  | ((with_reducible apply w_mod); (focus (walk_at "num"; done)))
  | ((with_reducible apply w_mul); (focus (walk_at "num"; done)))
  | ((with_reducible apply w_fdiv); (focus (walk_at "num"; done)))
  | ((with_reducible apply w_pow); (focus (walk_at "num"; done)))
  | with_reducible apply w_lt
  | with_reducible apply w_le
  | with_reducible apply w_gt
  | with_reducible apply w_ge
  | with_reducible apply w_ltS
  | with_reducible apply w_geS
  | with_reducible apply w_inC
  | with_reducible apply w_notInC
  | with_reducible apply w_isN
  | with_reducible apply w_notN
  | with_reducible apply w_isB
  | with_reducible apply w_notB
  | ((with_reducible apply w_addS); (focus (walk_at "sz"; done)))
  | ((with_reducible apply w_ixL); (focus (walk_at "sq"; done)); (focus (walk_at "ix"; done)))
  | ((with_reducible apply w_ixT); (focus (walk_at "hp"; done)); (focus (walk_at "ix"; done)))
  | ((with_reducible apply w_ixS); (focus (walk_at "sz"; done)); (focus (walk_at "ix"; done)))
  | with_reducible apply w_gSub
  | ((with_reducible apply w_gTup); (focus (walk_at "hp"; done)); (focus (exact rfl)))
  | with_reducible apply w_gCons
  | with_reducible apply w_gNil
  | ((with_reducible apply w_aug); (focus (exact rfl)))
  | with_reducible apply w_ipI
  | ((with_reducible apply w_eq); (focus (exact rfl)))
  | ((with_reducible apply w_ne); (focus (exact rfl)))
  | with_reducible apply w_max
  | with_reducible apply w_min
  | with_reducible apply w_abs
  | with_reducible apply w_intB
  | with_reducible apply w_intI
  | with_reducible apply w_tup1
  | with_reducible apply w_lst1
  | with_reducible apply w_sl
  | with_reducible apply w_part
  | with_reducible apply w_noPart
  | with_reducible apply w_isint
  | ((with_reducible apply w_slS); (focus (walk_at "sz"; done)))
  | with_reducible apply w_iteT
  | with_reducible apply w_iteF
  | with_reducible apply w_iteN
  | ((with_reducible apply w_iteYes); (focus (exact rfl)))
  | ((with_reducible apply w_iteNo); (focus (exact rfl)))
  | ((with_reducible apply w_lenL); (focus (walk_at "sq"; done)))
  | ((with_reducible apply w_lenT); (focus (walk_at "hp"; done)))
  | ((with_reducible apply w_lenS); (focus (walk_at "sz"; done)))
  | with_reducible apply w_lc
  | with_reducible apply w_for
  | with_reducible apply w_yes
  | ((with_reducible apply w_wipe); (focus (exact rfl)))
  | with_reducible apply w_iList
  | with_reducible apply w_iTup
  | with_reducible apply w_iStr
  | with_reducible apply w_iRng1
  | with_reducible apply w_iRng2
  | with_reducible apply w_iZip
  | with_reducible apply w_iEnum
  | ((with_reducible apply d_iList); (focus (walk_at "sq"; done)))
  | ((with_reducible apply d_iTup); (focus (walk_at "hp"; done)))
  | with_reducible apply d_iStr
  | ((with_reducible apply d_iRng1); (focus (walk_at "num"; done)); (focus (walk_at "num"; done)))
  | ((with_reducible apply d_iRng2); (focus (walk_at "num"; done)); (focus (walk_at "num"; done)); (focus (walk_at "num"; done)); (focus (walk_at "num"; done)))
  | ((with_reducible apply d_iZip); (focus (walk_at "sq"; done)); (focus (walk_at "sq"; done)))
  | ((with_reducible apply d_iEnum); (focus (walk_at "sq"; done)))
  | walk_at "w2")
local macro_rules | `(tactic| walk_at "w2") => `(tactic| fail)
local macro_rules | `(tactic| walk_at "wn") => `(tactic| repeat walk_at "w1")
local macro_rules | `(tactic| walk_at "w") => `(tactic| repeat (first | walk_at "w1" | with_reducible apply w_ret))

local macro_rules | `(tactic| walk_at "w2") => `(tactic| first
  | ((with_reducible apply w_isInt); (focus (walk_at "r"; done)))
  | ((with_reducible apply w_isBool); (focus (walk_at "r"; done)))
  | ((with_reducible apply w_isStr); (focus (walk_at "r"; done)))
  | ((with_reducible apply w_isTup); (focus (walk_at "r"; done)))
  | ((with_reducible apply w_isLst); (focus (walk_at "r"; done)))
  | with_reducible apply w_fld
  | with_reducible apply w_sfld
  | with_reducible apply w_faug
  | with_reducible apply w_rAdd
  | with_reducible apply w_rSub
  | with_reducible apply w_make
  | with_reducible apply w_orT
  | with_reducible apply w_dgetd
  | with_reducible apply w_dgetk
  | with_reducible apply w_dsetd
  | ((with_reducible apply k_dgetd); (focus (walk_at "hp"; done)))
  | ((with_reducible apply k_dsetd); (focus (walk_at "hp"; done)))
  | walk_at "w3")
local macro_rules | `(tactic| walk_at "w3") => `(tactic| fail)

def sp__law_expression (n : Nat) : Sp := fun vs H Q _ => ∃ (b : Addr) (m : Nat) (k : Nat), vs = [.ref b, .int (m : Nat)] ∧ Well H b k ∧ 1 ≤ m ∧ m ≤ n ∧ 10 ^ (n + 1) ≤ k ∧
  ∀ (v : V) (e : Ex) (H' : Hp), Chg [b] H H' → Well H' b (k - 10 ^ (n + 1)) → Im H' v e.data → e.deep ≤ m → e.numsIn (10 ^ 20) → Q v H'
theorem no__law_expression (vs : List V) (H : Hp) (Q : VK) (E : XK) : ¬ sp__law_expression 0 vs H Q E := by
  rintro ⟨b, m, k, _, _, h1, h2, _⟩
  omega
def t__law_expression (K : PySem.W.Frag) (n : Nat) : TS :=
    tSeq (tAsg (tCall sp__law_draw [] E0 (tCons (tVar 0) (tCons (tC (.int 9)) (tNil)))) (gName 2))
    (tSeq (tIfS (tOr (tTest (tOp oLt (tVar 1) (tC (.int 2)))) (tTest (tOp oLt (tVar 2) (tC (.int 3))))) (tRet (tOp (rIxL K) (tLst (tCons (tCall sp__law_number [] E0 (tCons (tVar 0) (tNil))) (tCons (tTup (tCons (tC (.str "arg")) (tNil))) (tNil)))) (tOp oFdiv (tCall sp__law_draw [] E0 (tCons (tVar 0) (tCons (tC (.int 4)) (tNil)))) (tC (.int 3))))) (tNext))
    (tSeq (tIfS (tTest (tOp oLt (tVar 2) (tC (.int 5)))) (tRet (tTup (tCons (tC (.str "arg")) (tNil)))) (tNext))
    (tSeq (tAsg (tCall (sp__law_expression n) [] E0 (tCons (tVar 0) (tCons (tOp oSub (tVar 1) (tC (.int 1))) (tNil)))) (gName 3))
    (tSeq (tIfS (tTest (tOp oLt (tVar 2) (tC (.int 7)))) (tRet (tTup (tCons (tC (.str "cell")) (tCons (tVar 3) (tNil))))) (tNext))
    (tRet (tTup (tCons (tOp (rIxL K) (tLst (tCons (tC (.str "add")) (tCons (tC (.str "less")) (tCons (tC (.str "least")) (tCons (tC (.str "add")) (tNil)))))) (tCall sp__law_draw [] E0 (tCons (tVar 0) (tCons (tC (.int 4)) (tNil))))) (tCons (tVar 3) (tCons (tCall (sp__law_expression n) [] E0 (tCons (tVar 0) (tCons (tOp oSub (tVar 1) (tC (.int 1))) (tNil)))) (tNil))))))))))
theorem pure__law_expression {K : PySem.W.Frag} (n : Nat) (vs : List V) (H : Hp) (Q : VK) (E : XK) (h : sp__law_expression (n + 1) vs H Q E) : t__law_expression K n (fin Q) (start ["well", "most", "pick", "one"] vs) H := by
  obtain ⟨b, m, k, rfl, bag, m0, m1, hk, q⟩ := h
  have hp1 : 10 ≤ 10 ^ (n + 1) := Nat.le_trans (by decide) (Nat.pow_le_pow_right (by decide) (show 1 ≤ n + 1 by omega))
  have hp2 : 10 ^ (n + 1 + 1) = 10 * 10 ^ (n + 1) := by rw [Nat.pow_succ]; omega
  rw [hp2] at hk q
  show t__law_expression K n _ [some (.ref b), some (.int (m : Nat)), none, none] H
  unfold t__law_expression
  walk_at "w"
  refine u_draw bag (by omega) (by decide) (by decide) fun v H1 c1 bag1 v0 v1 => ?_
  walk_at "w"
  have small : ∀ σ' : L2.St, σ'[0]? = some (some (.ref b)) → tRet (tOp (rIxL K) (tLst (tCons (tCall sp__law_number [] E0 (tCons (tVar 0) tNil)) (tCons (tTup (tCons (tC (.str "arg")) tNil)) tNil))) (tOp oFdiv (tCall sp__law_draw [] E0 (tCons (tVar 0) (tCons (tC (.int 4)) tNil))) (tC (.int 3)))) (fin Q) σ' H1 := fun σ' es => by
    walk_at "w"
    refine w_var es ?_
    walk_at "w"
    refine ⟨b, k - 1, rfl, bag1, by omega, fun x H2 c2 bag2 x0 x1 => ?_⟩
    walk_at "w"
    refine k_tup (by walk_at "sz") fun p H3 np c3 hp => ?_
    walk_at "w"
    refine k_lst (by walk_at "sz") fun l H4 nl c4 hl => ?_
    walk_at "w"
    refine w_var es ?_
    walk_at "w"
    have bag4 := (bag2.same c3).same c4
    refine u_draw bag4 (by omega) (by decide) (by decide) fun u H5 c5 bag5 u0 u1 => ?_
    walk_at "w"
    refine w_fdiv (cdivS (by decide) (by decide)) ?_
    have nlb : l ≠ b := fun z => (bag2.same c3).some (by rw [← z]; exact nl)
    have cc : Chg [b] H H5 := (((c1.both c2).same c3).same c4).both c5
    have hu : u / 3 = 0 ∨ u / 3 = 1 := by omega
    rcases hu with hu | hu
    · rw [hu]
      refine w_ixL (sqL (c5.at1 hl nlb)) at0 ?_
      exact q (.int x) (.num x) H5 cc (bag5.le (by omega)) (.int x) m0 ⟨x0, x1⟩
    · rw [hu]
      refine w_ixL (sqL (c5.at1 hl nlb)) at1 ?_
      exact q (.ref p) .arg H5 cc (bag5.le (by omega)) (.tup (c5.tup _ _ (c4.at hp)) (.cons (.str _) .nil)) m0 trivial
  refine w_iteD (fun h2 => ?_) (fun h2 => ?_)
  · walk_at "wn"
    exact small _ rfl
  walk_at "w"
  refine w_iteD (fun h4 => ?_) (fun h4 => ?_)
  · walk_at "wn"
    exact small _ rfl
  walk_at "w"
  refine w_iteD (fun h5 => ?_) (fun h5 => ?_)
  · walk_at "w"
    refine k_tup (by walk_at "sz") fun p H2 np c2 hp => ?_
    exact q (.ref p) .arg H2 (c1.same c2) ((bag1.same c2).le (by omega)) (.tup hp (.cons (.str _) .nil)) m0 trivial
  have em : ((m : Nat) : Int) - 1 = ((m - 1 : Nat) : Int) := by omega
  walk_at "w"
  rw [em]
  refine ⟨b, m - 1, k - 1, rfl, bag1, by omega, by omega, by omega, fun x e H2 c2 bag2 im de nu => ?_⟩
  walk_at "w"
  refine w_iteD (fun h7 => ?_) (fun h7 => ?_)
  · walk_at "w"
    refine k_tup (by walk_at "sz") fun p H3 np c3 hp => ?_
    exact q (.ref p) (.cell e) H3 ((c1.both c2).same c3) ((bag2.same c3).le (by omega)) (.tup hp (.cons (.str _) (.cons (im.im c3) .nil))) (by show e.deep + 1 ≤ m; omega) nu
  walk_at "w"
  refine k_lst (by walk_at "sz") fun l H3 nl c3 hl => ?_
  have ne := bag2.ne nl
  walk_at "w"
  refine u_draw (bag2.same c3) (by omega) (by decide) (by decide) fun u H4 c4 bag4 u0 u1 => ?_
  obtain ⟨y, ey, hy⟩ := atD (xs := [V.str "add", V.str "less", V.str "least", V.str "add"]) u0 u1
  refine w_ixL (sqL (c4.at1 hl ne.symm)) ey ?_
  walk_at "w"
  rw [em]
  refine ⟨b, m - 1, k - 2 - 10 ^ (n + 1), rfl, bag4.le (by omega), by omega, by omega, by omega, fun y' e' H5 c5 bag5 im' de' nu' => ?_⟩
  walk_at "w"
  refine k_tup (by walk_at "sz") fun p H6 np c6 hp => ?_
  have cc : Chg [b] H H6 := ((((c1.both c2).same c3).both c4).both c5).same c6
  have bb : Well H6 b (k - 10 * 10 ^ (n + 1)) := (bag5.same c6).le (by omega)
  have r1 := im.im ((((Chg.same (M := [b]) Chg.refl c3).both c4).both c5).same c6)
  have r2 := im'.im c6
  simp only [List.mem_cons, List.not_mem_nil, or_false] at hy
  rcases hy with rfl | rfl | rfl | rfl
  · exact q (.ref p) (.add e e') H6 cc bb (.tup hp (.cons (.str _) (.cons r1 (.cons r2 .nil)))) (by show max e.deep e'.deep + 1 ≤ m; omega) ⟨nu, nu'⟩
  · exact q (.ref p) (.less e e') H6 cc bb (.tup hp (.cons (.str _) (.cons r1 (.cons r2 .nil)))) (by show max e.deep e'.deep + 1 ≤ m; omega) ⟨nu, nu'⟩
  · exact q (.ref p) (.least e e') H6 cc bb (.tup hp (.cons (.str _) (.cons r1 (.cons r2 .nil)))) (by show max e.deep e'.deep + 1 ≤ m; omega) ⟨nu, nu'⟩
  · exact q (.ref p) (.add e e') H6 cc bb (.tup hp (.cons (.str _) (.cons r1 (.cons r2 .nil)))) (by show max e.deep e'.deep + 1 ≤ m; omega) ⟨nu, nu'⟩
/-! ### cells of the law -/
def sp__law_cells : Sp := fun vs H Q _ => ∃ (b : Addr) (n : Nat), vs = [.ref b] ∧ Well H b n ∧ 20 ≤ n ∧ ∀ (l : Addr) (xs : List V) (cs : Cells) (H' : Hp), Chg [b] H H' → Well H' b (n - 20) → H l = none → H' l = some (.lst xs) → ImA H' xs (cs.map pairD) → cs.length ≤ 4 → (cs.map (·.1)).Nodup → (∀ c ∈ cs, -(10 ^ 20) ≤ c.1 ∧ c.1 ≤ 10 ^ 20 ∧ -(10 ^ 20) ≤ c.2 ∧ c.2 ≤ 10 ^ 20) → Q (.ref l) H'
def t__law_cells (K : PySem.W.Frag) : TS :=
    tSeq (tAsg (tLst (tNil)) (gName 1))
    (tSeq (tFor (iRng1 (tCons (tCall sp__law_draw [] E0 (tCons (tVar 0) (tCons (tC (.int 5)) (tNil)))) (tNil))) (gName 2) (tSeq (tAsg (tCall sp__law_number [] E0 (tCons (tVar 0) (tNil))) (gName 3))
    (tIfS (tTest (tOp (rIn K true) (tVar 3) (tLc (iList K (tVar 1)) (gTup K 2 (gCons (gName 4) (gCons (gName 5) (gNil)))) (tYes) (tVar 4) [4, 5]))) (tDrop (tBM K "list" rAppend (tVar 1) (tCons (tTup (tCons (tVar 3) (tCons (tCall sp__law_number [] E0 (tCons (tVar 0) (tNil))) (tNil)))) (tNil)))) (tNext))))
    (tRet (tVar 1)))
theorem inV_int (i : Int) (ns : List Int) : inV (.int i) (ns.map V.int) = decide (i ∈ ns) := by
  unfold inV
  rw [List.any_map, Bool.eq_iff_iff, List.any_eq_true, decide_eq_true_eq]
  constructor
  · rintro ⟨j, hj, e⟩
    have : j = i := by
      have e : eqV (.int j) (.int i) = true := e
      simpa [eqV] using e
    rw [← this]
    exact hj
  · intro h
    exact ⟨i, h, by show eqV (.int i) (.int i) = true; simp [eqV]⟩
theorem flat_ints (ns : List Int) : (ns.map V.int).all flatV = true := by
  rw [List.all_map]
  exact List.all_eq_true.mpr fun _ _ => rfl
theorem pure__law_cells {K : PySem.W.Frag} (vs : List V) (H : Hp) (Q : VK) (E : XK) (h : sp__law_cells vs H Q E) : t__law_cells K (fin Q) (start ["well", "found", "k", "cell", "one", "number"] vs) H := by
  obtain ⟨b, n, rfl, bag, hn, q⟩ := h
  show t__law_cells K _ [some (.ref b), none, none, none, none, none] H
  unfold t__law_cells
  walk_at "w"
  refine k_lst (by walk_at "sz") fun l H1 nl c1 hl => ?_
  have lb : b ≠ l := bag.ne nl
  walk_at "w"
  refine u_draw (bag.same c1) (by omega) (by decide) (by decide) fun w H2 c2 bag2 w0 w1 => ?_
  walk_at "w"
  refine for_it walk_range (fun i σ H3 => Chg [b] H H3 ∧ Well H3 b (n - 1 - 4 * i) ∧ ∃ (xs : List V) (cs : Cells) (y2 y3 : Option V), σ = [some (.ref b), some (.ref l), y2, y3, none, none] ∧ H3 l = some (.lst xs) ∧ ImA H3 xs (cs.map pairD) ∧ cs.length ≤ i ∧ (cs.map (·.1)).Nodup ∧ ∀ c ∈ cs, -(10 ^ 20) ≤ c.1 ∧ c.1 ≤ 10 ^ 20 ∧ -(10 ^ 20) ≤ c.2 ∧ c.2 ≤ 10 ^ 20)
    ⟨c1.pre c2, bag2.le (by omega), [], [], none, none, rfl, c2.at1 hl (Ne.symm lb), .nil, Nat.le_refl _, List.nodup_nil, fun c hc => (by cases hc)⟩ (fun _ _ _ _ _ => trivial) (fun i x σ H3 H4 hi p y => ?_) (fun σ H3 p => ?_)
  · obtain ⟨c3, bag3, xs, cs, y2, y3, rfl, hl3, im, lc, nd, bd⟩ := p
    obtain ⟨rfl, rfl⟩ := y
    have hi5 : i < 5 := by omega
    walk_at "w"
    refine ⟨b, n - 1 - 4 * i, rfl, bag3, by omega, fun ce H5 c5 bag5 e0 e1 => ?_⟩
    have hl5 := c5.at1 hl3 (Ne.symm lb)
    have im5 := im.im c5
    have lx : xs.length = cs.length := by rw [im.length, List.length_map]
    walk_at "w"
    refine w_lcP (walk_list (K := K) (a := l) (xs := xs)) [] (fun _ _ => True) (fun i y _ => ∃ r, cs[i]? = some r ∧ y = .int r.1) trivial (fun _ _ _ _ _ _ _ => trivial) (fun H6 c => sqL (c.at hl5)) (fun D j acc z H6 H7 hj nD hD el iv c6 _ y => ?_) (fun D acc H6 nD c6 _ el hD ys => ?_)
    · obtain ⟨rfl, ex⟩ := y
      obtain ⟨T, c, ec, rfl, hT⟩ := pair_at (im5.im c6) ex
      walk_at "w"
      exact lcp_end (fun _ _ _ _ _ _ _ => trivial) (fun _ _ _ _ _ _ _ h => h) nD (fun a ha => by cases ha) hD el (by omega) iv .refl trivial ⟨c, ec, rfl⟩
    have eacc : acc = (cs.map (·.1)).map V.int := by
      have la : acc.length = cs.length := by rw [el, lx]
      apply List.ext_getElem?
      intro j
      by_cases hj : j < cs.length
      · obtain ⟨r, e1, e2⟩ := ys j acc[j] (List.getElem?_eq_getElem (by omega))
        rw [List.getElem?_eq_getElem (by omega), e2, List.getElem?_map, List.getElem?_map, e1]
        rfl
      · rw [List.getElem?_eq_none (by omega), List.getElem?_eq_none (by rw [List.length_map, List.length_map]; omega)]
    subst eacc
    have bag6 := bag5.same c6
    have hl6 := c6.at hl5
    refine w_notInL (sqL hD) rfl (flat_ints _) ?_
    rw [inV_int]
    walk_at "w"
    refine w_iteD (fun hin => ?_) (fun hin => ?_)
    · refine w_next ?_
      exact ⟨(c3.both c5).same c6, bag6.le (by omega), xs, cs, _, _, rfl, hl6, im5.im c6, by omega, nd, bd⟩
    · walk_at "w"
      refine ⟨b, n - 1 - 4 * i - 2, rfl, bag6, by omega, fun v H7 c7 bag7 v0 v1 => ?_⟩
      have hl7 := c7.at1 hl6 (Ne.symm lb)
      walk_at "w"
      refine k_tup (by walk_at "sz") fun T H8 nT c8 hT => ?_
      walk_at "w"
      have hl8 := c8.at hl7
      refine w_append hl8 (by rw [lx]; walk_at "sz") fun H9 c9 h9 => ?_
      have c09 : Chg [b] H H9 := ((((c3.both c5).same c6).both c7).same c8).go c9 fun a ha => .inr (by rw [List.mem_singleton.mp ha]; exact nl)
      refine ⟨c09, ((bag7.same c8).one c9 lb).le (by omega), xs ++ [.ref T], cs ++ [(ce, v)], _, _, rfl, h9, ?_, by rw [List.length_append, List.length_singleton]; omega, ?_, fun c hc => ?_⟩
      · rw [List.map_append]
        exact (((im5.im c6).im c7).im (c8.pre c9)).snoc (.tup (c9.tup _ _ hT) (.cons (.int _) (.cons (.int _) .nil)))
      · rw [List.map_append]
        exact nd_snoc nd hin
      · rcases List.mem_append.mp hc with hc | hc
        · exact bd c hc
        · rw [List.mem_singleton.mp hc]
          exact ⟨e0, e1, v0, v1⟩
  · obtain ⟨c3, bag3, xs, cs, y2, y3, rfl, hl3, im, lc, nd, bd⟩ := p
    walk_at "w"
    exact q l xs cs H3 c3 (bag3.le (by omega)) nl hl3 im (by omega) nd bd
end Fg
namespace Fg
open PySem PySem.Spec PyProof.Rows L2
/-! ### len(o) by an own def -/
structure LnI (P : Program) (w : World) (K : PySem.W.Frag) (mg : Str → Option Value) (base : Heap) (k : Nat) (C : Addr) (sp : Sp) : Prop where
  ex : ∃ (f : Addr) (fd : FuncData) (ps : List Str), FnOk P w K mg base CX0 k f fd ps sp ∧ PySem.W.findIn K (.ref C) "__len__" = some (some (.ref f)) ∧ PySem.W.isFn K (.ref f) = true ∧ Binds K fd ps []
def cLenI (C : Addr) (sp : Sp) : List V → Hp → VK → Prop := fun xs H Q => ∃ (a dx : Addr) (fs : List (Str × V)), xs = [.ref a] ∧ H a = some (.ins C dx fs) ∧ sp [.ref a] H (fun v H' => ∃ n : Nat, v = .int (n : Nat) ∧ n < 2 ^ 60 ∧ Q (.int (n : Nat)) H') E0
theorem p_lenI {X : Cx} {k j : Nat} {C : Addr} {sp : Sp} (L : LnI X.prog X.w X.K X.mg X.base k C sp) (hr : Room j X.A) (hk : k + 1 ≤ j) : CallR X (.builtin "len") (cLenI C sp) := by
  intro pins s σ H xs us Q I r h
  obtain ⟨f, fd, ps, F, hs, hf, hb⟩ := L.ex
  obtain ⟨a, dx, fs, rfl, ha, hsp⟩ := h
  rw [Vals.ref1 r]
  obtain ⟨mA, J, _⟩ := ins_get I.hok ha
  obtain ⟨od, J, _⟩ := J.look
  have room : Room k X.A.in1 := (hr.mono hk).in1
  have e0 : Env0 X.prog X.w X.K X.mg X.base X.A.in1 X.stack s H := by
    have e := I.env0
    exact ⟨e.frames, e.mod, e.bs, e.bsz, e.funs, e.frf, e.hok, e.bare⟩
  refine Calls.call_function_entry kind_len plain_len entry_len (args_len1 _) ?_
  unfold Builtin.«len»
  refine wpAny_bind (m := oneArg "len" _) (wpAny_pure ?_)
  refine wpAny_bind (m := callSpecial? (.ref a) (Str.ofString "__len__")) (PySem.W.special_fn I.kIn J hs (beq_iff_eq.mp hf) ?_)
  have hl := F.len _ _ _ _ hsp
  have r2 : Vals [V.ref a] [Value.ref a] := .cons rfl .nil
  refine wpAny_call (codeAny_mono (F.run X.A.in1 X.stack s H ⟨[.ref a], []⟩ [.ref a] [.ref a] _ E0 room e0 (by
    have := hb s [.ref a] I.kIn (by simpa using hl)
    simpa using this) r2 hsp) fun r s' hq => ?_)
  cases r with
  | error e => exact (pass0 (X := X) pins σ H s e s' I hq)
  | ok fl =>
    cases fl with
    | ret w =>
      obtain ⟨z, H', I', rz, n, ez, hn, q⟩ := I.after hq
      subst ez
      obtain ⟨t, rfl⟩ := (show ∃ t, w = Value.int (n : Nat) t from rz)
      refine wpAny_bind (wpAny_holding (wpAny_pure ?_))
      refine wpAny_bind (wpAny_letGo ?_)
      show wpAny _ _ (if ((n : Nat) : Int) < 0 then _ else _) _ _ _
      rw [if_neg (by omega)]
      show wpAny _ _ (if ((n : Nat) : Int) ≥ 2 ^ 63 then _ else _) _ _ _
      rw [if_neg (by omega)]
      exact wpAny_bind (wpAny_mkInt (wpAny_pure ⟨_, rfl, .int (n : Nat), H', I'.kept (t' := s'.toks + 1) (fun _ _ e => e), ⟨_, rfl⟩, q⟩))
    | next => exact False.elim hq
    | brk => exact False.elim hq
    | cont => exact False.elim hq
theorem w_lenI {C : Addr} {sp : Sp} {H : Hp} {Q : VK} {a dx : Addr} {fs : List (Str × V)} (h : H a = some (.ins C dx fs)) (q : sp [.ref a] H (fun v H' => ∃ n : Nat, v = .int (n : Nat) ∧ n < 2 ^ 60 ∧ Q (.int (n : Nat)) H') E0) : cLenI C sp [.ref a] H Q := ⟨a, dx, fs, rfl, h, q⟩
end Fg
--LAW k10
namespace Fg
open PySem PySem.Spec PyProof.Rows L2
/-! ### the walk's small steps -/
local macro_rules | `(tactic| walk_at "hp") => `(tactic| first
  | assumption
  | exact upd_same
  | (refine Chg.at (by assumption) ?_; walk_at "hp")
  | (refine Chg.at1 (by assumption) ?_ (by walk_at "ne"); walk_at "hp"))
local macro_rules | `(tactic| walk_at "ne") => `(tactic| first | assumption | (apply Ne.symm; assumption))
local macro_rules | `(tactic| walk_at "sq") => `(tactic| first | assumption | exact sqL (by walk_at "hp") | (refine Chg.seq (by assumption) ?_; walk_at "sq"))
local macro_rules | `(tactic| walk_at "sz") => `(tactic| first | assumption | exact Nat.zero_le _ | (simp only [List.length_cons, List.length_nil]; decide) | exact Nat.le_trans (by first | omega | (simp; done) | (simp; omega)) (show 100000 ≤ sizeLine by decide) | exact Nat.lt_of_lt_of_le (by first | omega | (simp; done) | (simp; omega)) (show 100000 ≤ sizeLine by decide))
local macro_rules | `(tactic| walk_at "ix") => `(tactic| first | exact at0 | exact at1 | exact at2 | exact at3 | assumption | exact rfl | walk_at "ix2")
local macro_rules | `(tactic| walk_at "ix2") => `(tactic| fail)
local macro_rules | `(tactic| walk_at "num") => `(tactic| first | assumption | omega | decide | walk_at "num2")
local macro_rules | `(tactic| walk_at "num2") => `(tactic| fail)
local macro_rules | `(tactic| walk_at "im") => `(tactic| first | assumption | exact R.non (S := fun _ => False) | exact R.bl (S := fun _ => False) _ | exact R.int (S := fun _ => False) _ | exact R.str (S := fun _ => False) _ | (refine R.im (by assumption) ?_; walk_at "im"))
local macro_rules | `(tactic| walk_at "r") => `(tactic| first | assumption | exact R.non (S := fun _ => False) | exact R.bl (S := fun _ => False) _ | exact R.int (S := fun _ => False) _ | exact R.str (S := fun _ => False) _ | (refine R.same (by assumption) ?_; walk_at "r") | exact R.any (by walk_at "im"))
local macro_rules | `(tactic| walk_at "chg") => `(tactic| first
  | exact Chg.refl
  | assumption
  | (refine Chg.same ?_ (by assumption); walk_at "chg")
  | (refine Chg.both ?_ (by assumption); walk_at "chg")
  | (refine Chg.pre (by assumption) ?_; walk_at "chg"))
local macro_rules | `(tactic| walk_at "w1") => `(tactic| first
  | with_reducible apply w_seq
  | with_reducible apply w_asg
  | ((with_reducible apply w_var); (focus (exact rfl)))
  | with_reducible apply w_c
  | with_reducible apply w_op
  | with_reducible apply w_cons
  | with_reducible apply w_nil
  | with_reducible apply w_gName
  | with_reducible apply w_if
  | with_reducible apply w_test
  | with_reducible apply w_B
  | with_reducible apply w_isbl
  | with_reducible apply w_retN
  | with_reducible apply w_next
  | with_reducible apply w_drop
  | with_reducible apply w_cb
  | with_reducible apply w_call
  | with_reducible apply w_callN
  | with_reducible apply w_bm
  | with_reducible apply w_bm0
  | ((with_reducible apply w_tyL); (focus (walk_at "hp"; done)))
  | with_reducible apply w_dput
  | with_reducible apply w_m1
  | with_reducible apply w_isstr
  | with_reducible apply w_and
  | with_reducible apply w_or
  | with_reducible apply w_not
  | with_reducible apply w_andV
  | with_reducible apply w_orV
  | with_reducible apply w_notV
  | with_reducible apply w_ifE
  | with_reducible apply w_chain
  | with_reducible apply w_un
  | with_reducible apply w_neg
  | with_reducible apply w_add
  | with_reducible apply w_sub
  | ((with_reducible apply w_mod); (focus (walk_at "num"; done)))
  | ((with_reducible apply w_mul); (focus (walk_at "num"; done)))
  | ((with_reducible apply w_fdiv); (focus (walk_at "num"; done)))
  | ((with_reducible apply w_pow); (focus (walk_at "num"; done)))
  | with_reducible apply w_lt
  | with_reducible apply w_le
  | with_reducible apply w_gt
  | with_reducible apply w_ge
  | with_reducible apply w_ltS
  | with_reducible apply w_geS
  | with_reducible apply w_inC
  | with_reducible apply w_notInC
  | with_reducible apply w_isN
  | with_reducible apply w_notN
  | with_reducible apply w_isB
  | with_reducible apply w_notB
  | ((with_reducible apply w_addS); (focus (walk_at "sz"; done)))
  | ((with_reducible apply w_ixL); (focus (walk_at "sq"; done)); (focus (walk_at "ix"; done)))
  | ((with_reducible apply w_ixT); (focus (walk_at "hp"; done)); (focus (walk_at "ix"; done)))
  | ((with_reducible apply w_ixS); (focus (walk_at "sz"; done)); (focus (walk_at "ix"; done)))
  | with_reducible apply w_gSub
  | ((with_reducible apply w_gTup); (focus (walk_at "hp"; done)); (focus (exact rfl)))
  | with_reducible apply w_gCons
  | with_reducible apply w_gNil
  | ((with_reducible apply w_aug); (focus (exact rfl)))
  | with_reducible apply w_ipI
  | ((with_reducible apply w_eq); (focus (exact rfl)))
  | ((with_reducible apply w_ne); (focus (exact rfl)))
  | with_reducible apply w_max
  | with_reducible apply w_min
  | with_reducible apply w_abs
  | with_reducible apply w_intB
  | with_reducible apply w_intI
  | with_reducible apply w_tup1
  | with_reducible apply w_lst1
  | with_reducible apply w_sl
  | with_reducible apply w_part
  | with_reducible apply w_noPart
  | with_reducible apply w_isint
  | ((with_reducible apply w_slS); (focus (walk_at "sz"; done)))
  | with_reducible apply w_iteT
  | with_reducible apply w_iteF
  | with_reducible apply w_iteN
  | ((with_reducible apply w_iteYes); (focus (exact rfl)))
  | ((with_reducible apply w_iteNo); (focus (exact rfl)))
  | ((with_reducible apply w_lenL); (focus (walk_at "sq"; done)))
  | ((with_reducible apply w_lenT); (focus (walk_at "hp"; done)))
  | ((with_reducible apply w_lenS); (focus (walk_at "sz"; done)))
  | with_reducible apply w_lc
  | with_reducible apply w_for
  | with_reducible apply w_yes
  | ((with_reducible apply w_wipe); (focus (exact rfl)))
  | with_reducible apply w_iList
  | with_reducible apply w_iTup
  | with_reducible apply w_iStr
  | with_reducible apply w_iRng1
  | with_reducible apply w_iRng2
  | with_reducible apply w_iZip
  | with_reducible apply w_iEnum
  | ((with_reducible apply d_iList); (focus (walk_at "sq"; done)))
  | ((with_reducible apply d_iTup); (focus (walk_at "hp"; done)))
  | with_reducible apply d_iStr
  | ((with_reducible apply d_iRng1); (focus (walk_at "num"; done)); (focus (walk_at "num"; done)))
  | ((with_reducible apply d_iRng2); (focus (walk_at "num"; done)); (focus (walk_at "num"; done)); (focus (walk_at "num"; done)); (focus (walk_at "num"; done)))
  | ((with_reducible apply d_iZip); (focus (walk_at "sq"; done)); (focus (walk_at "sq"; done)))
  | ((with_reducible apply d_iEnum); (focus (walk_at "sq"; done)))
  | walk_at "w2")
local macro_rules | `(tactic| walk_at "w2") => `(tactic| fail)
local macro_rules | `(tactic| walk_at "wn") => `(tactic| repeat walk_at "w1")
local macro_rules | `(tactic| walk_at "w") => `(tactic| repeat (first | walk_at "w1" | with_reducible apply w_ret))

local macro_rules | `(tactic| walk_at "w2") => `(tactic| first
  | ((with_reducible apply w_isInt); (focus (walk_at "r"; done)))
  | ((with_reducible apply w_isBool); (focus (walk_at "r"; done)))
  | ((with_reducible apply w_isStr); (focus (walk_at "r"; done)))
  | ((with_reducible apply w_isTup); (focus (walk_at "r"; done)))
  | ((with_reducible apply w_isLst); (focus (walk_at "r"; done)))
  | with_reducible apply w_fld
  | with_reducible apply w_sfld
  | with_reducible apply w_faug
  | with_reducible apply w_rAdd
  | with_reducible apply w_rSub
  | with_reducible apply w_make
  | with_reducible apply w_orT
  | with_reducible apply w_dgetd
  | with_reducible apply w_dgetk
  | with_reducible apply w_dsetd
  | ((with_reducible apply k_dgetd); (focus (walk_at "hp"; done)))
  | ((with_reducible apply k_dsetd); (focus (walk_at "hp"; done)))
  | walk_at "w3")
local macro_rules | `(tactic| walk_at "w3") => `(tactic| fail)

theorem sgn_at {wd : Str} {sg : Int} (h : (wd = "less" ∧ sg = -1) ∨ (wd = "add" ∧ sg = 1)) : atI [V.int 1, V.int (-1)] (if decide (V.str wd = V.str (Str.ofString "less")) = true then 1 else 0) = some (.int sg) := by
  rcases h with ⟨rfl, rfl⟩ | ⟨rfl, rfl⟩
  · rw [if_pos (decide_eq_true rfl)]
    exact at1
  · rw [if_neg (by decide +kernel)]
    exact at0
theorem imA1 {H : Hp} {xs : List V} {d1 : PyData} (r : ImA H xs [d1]) : ∃ x, xs = [x] ∧ Im H x d1 := by
  cases r with
  | cons a r => cases r; exact ⟨_, rfl, a⟩
def sp__law_worth (n : Nat) : Sp := fun vs H Q _ => ∃ (v : V) (e : Ex) (g : Int) (dc al : Addr) (cs : Cells) (xs : List Int), vs = [v, .int g, .ref dc, .ref al] ∧ Im H v e.data ∧ e.deep ≤ n ∧ H dc = some (.dK (cK cs)) ∧ H al = some (.lst (xs.map V.int)) ∧ xs.length + 2 ^ e.deep ≤ 1000 ∧
  ∀ H', Chg [al] H H' → H' al = some (.lst ((xs ++ e.asked g cs).map V.int)) → Q (.int (e.worth g cs)) H'
theorem no__law_worth (vs : List V) (H : Hp) (Q : VK) (E : XK) : ¬ sp__law_worth 0 vs H Q E := by
  rintro ⟨v, e, g, dc, al, cs, xs, _, _, h, _⟩
  have := e.deep_pos
  omega
def t__law_worth (K : PySem.W.Frag) (n : Nat) : TS :=
    tSeq (tIfS (tB (tCB (rIsi K) (tCons (tVar 0) (tCons (tC (.ty "int")) (tNil))))) (tRet (tVar 0)) (tNext))
    (tSeq (tAsg (tOp (rIxT K) (tVar 0) (tC (.int 0))) (gName 4))
    (tSeq (tIfS (tTest (tOp rEq (tVar 4) (tC (.str "arg")))) (tRet (tVar 1)) (tNext))
    (tSeq (tAsg (tCall (sp__law_worth n) [] E0 (tCons (tOp (rIxT K) (tVar 0) (tC (.int 1))) (tCons (tVar 1) (tCons (tVar 2) (tCons (tVar 3) (tNil)))))) (gName 5))
    (tSeq (tIfS (tTest (tOp rEq (tVar 4) (tC (.str "cell")))) (tSeq (tDrop (tBM K "list" rAppend (tVar 3) (tCons (tVar 5) (tNil))))
    (tRet (tDGet2 (tVar 2) (tVar 5) (tC (.int 0))))) (tNext))
    (tSeq (tAsg (tCall (sp__law_worth n) [] E0 (tCons (tOp (rIxT K) (tVar 0) (tC (.int 2))) (tCons (tVar 1) (tCons (tVar 2) (tCons (tVar 3) (tNil)))))) (gName 6))
    (tSeq (tIfS (tTest (tOp rEq (tVar 4) (tC (.str "least")))) (tRet (tCB cMin (tCons (tVar 5) (tCons (tVar 6) (tNil))))) (tNext))
    (tRet (tOp oAdd (tVar 5) (tOp oMul (tVar 6) (tOp (rIxL K) (tLst (tCons (tC (.int 1)) (tCons (tUn (rU fun i => .int (-i)) (tC (.int 1))) (tNil)))) (tCB cInt (tCons (tOp rEq (tVar 4) (tC (.str "less"))) (tNil)))))))))))))
theorem pure__law_worth {K : PySem.W.Frag} (n : Nat) (vs : List V) (H : Hp) (Q : VK) (E : XK) (h : sp__law_worth (n + 1) vs H Q E) : t__law_worth K n (fin Q) (start ["expression", "arg", "cells", "asked", "word", "first", "second"] vs) H := by
  obtain ⟨v, e, g, dc, al, cs, xs, rfl, r, de, hd, hal, room, q⟩ := h
  show t__law_worth K n _ [some v, some (.int g), some (.ref dc), some (.ref al), none, none, none] H
  unfold t__law_worth
  have dcal : dc ≠ al := fun z => by rw [z, hal] at hd; cases hd
  have fx : ∀ e1 e2 : Ex, e.deep = max e1.deep e2.deep + 1 → e1.deep ≤ n ∧ e2.deep ≤ n ∧ xs.length + 2 ^ e1.deep ≤ 1000 ∧ (xs ++ e1.asked g cs).length + 2 ^ e2.deep ≤ 1000 := fun e1 e2 ed => by
    have d1 : max e1.deep e2.deep + 1 ≤ n + 1 := by rw [← ed]; exact de
    have p1 : 2 ^ (max e1.deep e2.deep + 1) = 2 * 2 ^ max e1.deep e2.deep := by rw [Nat.pow_succ]; omega
    have p2 : 2 ^ e1.deep ≤ 2 ^ max e1.deep e2.deep := Nat.pow_le_pow_right (by decide) (Nat.le_max_left _ _)
    have p3 : 2 ^ e2.deep ≤ 2 ^ max e1.deep e2.deep := Nat.pow_le_pow_right (by decide) (Nat.le_max_right _ _)
    have p4 : 2 ^ (e1.deep - 1) ≤ 2 ^ e1.deep := Nat.pow_le_pow_right (by decide) (Nat.sub_le _ _)
    have room' : xs.length + 2 ^ (max e1.deep e2.deep + 1) ≤ 1000 := by rw [← ed]; exact room
    have hle := Ex.asked_len g cs e1
    refine ⟨by omega, by omega, by omega, by rw [List.length_append]; omega⟩
  cases e with
  | num i =>
    have e0 := im_int r
    subst e0
    walk_at "w"
    exact q H .refl (by rw [show (Ex.num i).asked g cs = [] from rfl, List.append_nil]; exact hal)
  | arg =>
    obtain ⟨a, us, rfl, ha, ra⟩ := im_tup r
    obtain ⟨u, rfl, r1⟩ := imA1 ra
    have e0 := im_str r1
    subst e0
    walk_at "w"
    exact q H .refl (by rw [show (Ex.arg).asked g cs = [] from rfl, List.append_nil]; exact hal)
  | cell e1 =>
    obtain ⟨a, us, rfl, ha, ra⟩ := im_tup r
    obtain ⟨x, y, rfl, r1, r2⟩ := imA2 ra
    have e0 := im_str r1
    subst e0
    have d1 : e1.deep + 1 ≤ n + 1 := de
    have p1 : 2 ^ (e1.deep + 1) = 2 * 2 ^ e1.deep := by rw [Nat.pow_succ]; omega
    have room' : xs.length + 2 ^ (e1.deep + 1) ≤ 1000 := room
    walk_at "w"
    refine ⟨y, e1, g, dc, al, cs, xs, rfl, r2, by omega, hd, hal, by omega, fun H1 c1 h1 => ?_⟩
    have hd1 := c1.at1 hd dcal
    have hle := Ex.asked_len g cs e1
    have hp : 2 ^ (e1.deep - 1) ≤ 2 ^ e1.deep := Nat.pow_le_pow_right (by decide) (Nat.sub_le _ _)
    have lz : (xs ++ e1.asked g cs).length ≤ 1000 := by rw [List.length_append]; omega
    walk_at "w"
    refine w_append h1 (by rw [List.length_map]; walk_at "sz") fun H2 c2 h2 => ?_
    have hd2 := c2.at1 hd1 dcal
    walk_at "w"
    refine ⟨_, .k (k := Sum.inl (e1.worth g cs)) hd2, ?_⟩
    rw [getD_cK]
    refine q H2 (c1.both c2) ?_
    rw [h2, show (Ex.cell e1).asked g cs = e1.asked g cs ++ [e1.worth g cs] from rfl, ← List.append_assoc, List.map_append (l₂ := [_])]
    rfl
  | add e1 e2 =>
    obtain ⟨a, us, rfl, ha, ra⟩ := im_tup r
    obtain ⟨x, y, z, rfl, r1, r2, r3⟩ := imA3 ra
    have e0 := im_str r1
    subst e0
    obtain ⟨f1, f2, f3, f4⟩ := fx e1 e2 rfl
    walk_at "w"
    refine ⟨y, e1, g, dc, al, cs, xs, rfl, r2, f1, hd, hal, f3, fun H1 c1 h1 => ?_⟩
    have hd1 := c1.at1 hd dcal
    have ha1 := c1.tup _ _ ha
    have r31 := r3.im c1
    walk_at "w"
    refine ⟨z, e2, g, dc, al, cs, xs ++ e1.asked g cs, rfl, r31, f2, hd1, h1, f4, fun H2 c2 h2 => ?_⟩
    rw [List.append_assoc] at h2
    walk_at "w"
    refine k_lst (by walk_at "sz") fun sl H3 nsl c3 hsl => ?_
    walk_at "w"
    refine w_mul (.inr ⟨by decide, by decide⟩) ?_
    refine w_add ?_
    have ew : e1.worth g cs + e2.worth g cs * (1) = (Ex.add e1 e2).worth g cs := by
      show _ = e1.worth g cs + e2.worth g cs
      omega
    rw [ew]
    walk_at "w"
    exact q H3 ((c1.both c2).same c3) (c3.at h2)
  | less e1 e2 =>
    obtain ⟨a, us, rfl, ha, ra⟩ := im_tup r
    obtain ⟨x, y, z, rfl, r1, r2, r3⟩ := imA3 ra
    have e0 := im_str r1
    subst e0
    obtain ⟨f1, f2, f3, f4⟩ := fx e1 e2 rfl
    walk_at "w"
    refine ⟨y, e1, g, dc, al, cs, xs, rfl, r2, f1, hd, hal, f3, fun H1 c1 h1 => ?_⟩
    have hd1 := c1.at1 hd dcal
    have ha1 := c1.tup _ _ ha
    have r31 := r3.im c1
    walk_at "w"
    refine ⟨z, e2, g, dc, al, cs, xs ++ e1.asked g cs, rfl, r31, f2, hd1, h1, f4, fun H2 c2 h2 => ?_⟩
    rw [List.append_assoc] at h2
    walk_at "w"
    refine k_lst (by walk_at "sz") fun sl H3 nsl c3 hsl => ?_
    walk_at "w"
    refine w_mul (.inr ⟨by decide, by decide⟩) ?_
    refine w_add ?_
    have ew : e1.worth g cs + e2.worth g cs * (-1) = (Ex.less e1 e2).worth g cs := by
      show _ = e1.worth g cs - e2.worth g cs
      omega
    rw [ew]
    walk_at "w"
    exact q H3 ((c1.both c2).same c3) (c3.at h2)
  | least e1 e2 =>
    obtain ⟨a, us, rfl, ha, ra⟩ := im_tup r
    obtain ⟨x, y, z, rfl, r1, r2, r3⟩ := imA3 ra
    have e0 := im_str r1
    subst e0
    obtain ⟨f1, f2, f3, f4⟩ := fx e1 e2 rfl
    walk_at "w"
    refine ⟨y, e1, g, dc, al, cs, xs, rfl, r2, f1, hd, hal, f3, fun H1 c1 h1 => ?_⟩
    have hd1 := c1.at1 hd dcal
    have ha1 := c1.tup _ _ ha
    have r31 := r3.im c1
    walk_at "w"
    refine ⟨z, e2, g, dc, al, cs, xs ++ e1.asked g cs, rfl, r31, f2, hd1, h1, f4, fun H2 c2 h2 => ?_⟩
    rw [List.append_assoc] at h2
    walk_at "w"
    exact q H2 (c1.both c2) h2
def Stp.askM (g : Int) (cs : Cells) (s : Stp) : List Int := if (s.makes g cs).isSome = true then [] else s.asks g cs
def sp__law_made (K : PySem.W.Frag) : Sp := fun vs H Q _ => ∃ (st cd gd rc al wl : Addr) (v : V) (s : Stp) (g : Int) (kvs : List (Key × V)) (cs : Cells) (gv : Given) (gls : List Addr) (r0 r1 r2 : V),
  vs = [.ref st, v, .int g, .ref rc] ∧ H st = some (.dK kvs) ∧ valV kvs (Sum.inr "cells") = some (.ref cd) ∧ valV kvs (Sum.inr "given") = some (.ref gd) ∧ H cd = some (.dK (cK cs)) ∧ cs.length ≤ 1000 ∧ GvAt H gd gv gls ∧ gv.length ≤ 1000 ∧ (∀ g ∈ gv, g.2.length ≤ 1000) ∧ H rc = some (.lst [r0, r1, r2, .ref al, .ref wl]) ∧ H al = some (.lst []) ∧ H wl = some (.lst []) ∧ al ≠ wl ∧ al ∉ gls ∧ wl ∉ gls ∧ cd ≠ gd ∧ st ≠ cd ∧ st ≠ gd ∧ Im H v s.data ∧ s.fit ∧
  ∀ (H' : Hp) (gls' : List Addr), Chg [cd, gd, al, wl] H H' → H' cd = some (.dK (cK (s.puts g cs))) → GvAt H' gd (s.gives g cs gv) gls' → (∀ l ∈ gls', l ∈ gls ∨ H l = none) → H' al = some (.lst ((s.askM g cs).map V.int)) → H' wl = some (.lst ((s.writes g cs).map V.int)) → Q (.int ((s.jump g cs : Nat) : Int)) H'
def t__law_made (K : PySem.W.Frag) : TS :=
    tSeq (tAsg (tDGet (tVar 0) (tC (.str "cells"))) (gName 4))
    (tSeq (tIfS (tTest (tOp rEq (tOp (rIxT K) (tVar 1) (tC (.int 0))) (tC (.str "cell")))) (tSeq (tAsg (tCall (sp__law_worth 6) [] E0 (tCons (tOp (rIxT K) (tVar 1) (tC (.int 1))) (tCons (tVar 2) (tCons (tVar 4) (tCons (tOp (rIxL K) (tVar 3) (tC (.int 3))) (tNil)))))) (gName 5))
    (tSeq (sDPut (tVar 4) (tVar 5) (tCall (sp__law_worth 6) [] E0 (tCons (tOp (rIxT K) (tVar 1) (tC (.int 2))) (tCons (tVar 2) (tCons (tVar 4) (tCons (tOp (rIxL K) (tVar 3) (tC (.int 3))) (tNil)))))))
    (tDrop (tBM K "list" rAppend (tOp (rIxL K) (tVar 3) (tC (.int 4))) (tCons (tVar 5) (tNil)))))) (tNext))
    (tSeq (tIfS (tTest (tOp rEq (tOp (rIxT K) (tVar 1) (tC (.int 0))) (tC (.str "give")))) (tSeq (tAsg (tCall (sp__law_worth 6) [] E0 (tCons (tOp (rIxT K) (tVar 1) (tC (.int 2))) (tCons (tVar 2) (tCons (tVar 4) (tCons (tOp (rIxL K) (tVar 3) (tC (.int 3))) (tNil)))))) (gName 6))
    (sDPut (tDGet (tVar 0) (tC (.str "given"))) (tOp (rIxT K) (tVar 1) (tC (.int 1))) (tOp rCat (tDGet2 (tDGet (tVar 0) (tC (.str "given"))) (tOp (rIxT K) (tVar 1) (tC (.int 1))) (tLst (tNil))) (tLst (tCons (tVar 6) (tNil)))))) (tNext))
    (tSeq (tIfS (tAnd (tTest (tOp rEq (tOp (rIxT K) (tVar 1) (tC (.int 0))) (tC (.str "skip")))) (tTest (tOp rEq (tCall (sp__law_worth 6) [] E0 (tCons (tOp (rIxT K) (tVar 1) (tC (.int 1))) (tCons (tVar 2) (tCons (tVar 4) (tCons (tOp (rIxL K) (tVar 3) (tC (.int 3))) (tNil)))))) (tC (.int 0))))) (tRet (tOp (rIxT K) (tVar 1) (tC (.int 2)))) (tNext))
    (tRet (tC (.int 0))))))
theorem pure__law_made {K : PySem.W.Frag} (vs : List V) (H : Hp) (Q : VK) (E : XK) (h : sp__law_made K vs H Q E) : t__law_made K (fin Q) (start ["state", "step", "arg", "record", "cells", "cell", "worth"] vs) H := by
  obtain ⟨st, cd, gd, rc, al, wl, v, s, g, kvs, cs, gv, gls, r0, r1, r2, rfl, hst, ec, eg, hcd, lcs, gA, lgv, lrow, hrc, hal, hwl, alwl, algl, wlgl, cdgd, stcd, stgd, iv, fit, q⟩ := h
  show t__law_made K _ [some (.ref st), some v, some (.int g), some (.ref rc), none, none, none] H
  unfold t__law_made
  have p5 : ∀ {e : Ex}, e.deep ≤ 5 → 2 ^ e.deep ≤ 32 := fun h => pow_few h
  have alcd : al ≠ cd := fun z => by rw [z, hcd] at hal; cases hal
  have algd : al ≠ gd := fun z => by rw [z, gA.dict] at hal; cases hal
  have alst : al ≠ st := fun z => by rw [z, hst] at hal; cases hal
  have alrc : al ≠ rc := fun z => by rw [z, hrc] at hal; cases hal
  have wlcd : wl ≠ cd := fun z => by rw [z, hcd] at hwl; cases hwl
  have wlgd : wl ≠ gd := fun z => by rw [z, gA.dict] at hwl; cases hwl
  have rccd : rc ≠ cd := fun z => by rw [z, hcd] at hrc; cases hrc
  have glcd : ∀ l ∈ gls, l ≠ cd := fun l hl z => by
    obtain ⟨i, hi⟩ := List.getElem?_of_mem hl
    have hg : i < gv.length := by rw [← gA.len]; exact (List.getElem?_eq_some_iff.mp hi).1
    have := gA.rows i _ l (List.getElem?_eq_getElem hg) hi
    rw [z, hcd] at this
    cases this
  have glgd : ∀ l ∈ gls, l ≠ gd := fun l hl z => by
    obtain ⟨i, hi⟩ := List.getElem?_of_mem hl
    have hg : i < gv.length := by rw [← gA.len]; exact (List.getElem?_eq_some_iff.mp hi).1
    have := gA.rows i _ l (List.getElem?_eq_getElem hg) hi
    rw [z, gA.dict] at this
    cases this
  have gld : ∀ l ∈ gls, H l ≠ none := fun l hl z => by
    obtain ⟨i, hi⟩ := List.getElem?_of_mem hl
    have hg : i < gv.length := by rw [← gA.len]; exact (List.getElem?_eq_some_iff.mp hi).1
    have := gA.rows i _ l (List.getElem?_eq_getElem hg) hi
    rw [z] at this
    cases this
  cases s with
  | wait =>
    obtain ⟨vT, us, rfl, hv, iu⟩ := im_tup iv
    obtain ⟨u0, rfl, i0⟩ := imA1 iu
    have e0 := im_str i0
    subst e0
    walk_at "w"
    refine d_dgetS hst ec ?_
    walk_at "w"
    exact q H gls .refl hcd gA (fun l h => .inl h) hal hwl
  | fork x a =>
    obtain ⟨vT, us, rfl, hv, iu⟩ := im_tup iv
    obtain ⟨u0, u1, u2, rfl, i0, i1, i2⟩ := imA3 iu
    have e0 := im_str i0
    subst e0
    walk_at "w"
    refine d_dgetS hst ec ?_
    walk_at "w"
    exact q H gls .refl hcd gA (fun l h => .inl h) hal hwl
  | call x a =>
    obtain ⟨vT, us, rfl, hv, iu⟩ := im_tup iv
    obtain ⟨u0, u1, u2, rfl, i0, i1, i2⟩ := imA3 iu
    have e0 := im_str i0
    subst e0
    walk_at "w"
    refine d_dgetS hst ec ?_
    walk_at "w"
    exact q H gls .refl hcd gA (fun l h => .inl h) hal hwl
  | skip a k =>
    obtain ⟨vT, us, rfl, hv, iu⟩ := im_tup iv
    obtain ⟨u0, u1, u2, rfl, i0, i1, i2⟩ := imA3 iu
    have e0 := im_str i0
    have e2 := im_int i2
    subst e0 e2
    walk_at "w"
    refine d_dgetS hst ec ?_
    walk_at "w"
    refine ⟨u1, a, g, cd, al, cs, [], rfl, i1, by have := fit.1; omega, hcd, hal, by have := p5 fit.1; simp; omega, fun H1 c1 h1 => ?_⟩
    rw [List.nil_append] at h1
    have hv1 := c1.tup _ _ hv
    have gA1 : GvAt H1 gd gv gls := gA.keep c1 (by simpa using algd.symm) fun l hl => by simpa using fun z => algl (by rw [← z]; exact hl)
    have c1' : Chg [cd, gd, al, wl] H H1 := c1.wide (by simp)
    walk_at "w"
    refine w_iteD (fun h0 => ?_) (fun h0 => ?_)
    · have h0' : a.worth g cs = 0 := V.int.inj h0
      walk_at "w"
      have ej : (k : Int) = (((Stp.skip a k).jump g cs : Nat) : Int) := by
        show k = (((if a.worth g cs = 0 then k.toNat else 0) : Nat) : Int)
        rw [if_pos h0']
        have := fit.2
        omega
      rw [ej]
      exact q H1 gls c1' (c1.at1 hcd alcd.symm) gA1 (fun l h => .inl h) h1 (c1.at1 hwl alwl.symm)
    · have h0' : ¬ a.worth g cs = 0 := fun z => h0 (by rw [z])
      walk_at "w"
      have ej : (0 : Int) = (((Stp.skip a k).jump g cs : Nat) : Int) := by
        show (0 : Int) = (((if a.worth g cs = 0 then k.toNat else 0) : Nat) : Int)
        rw [if_neg h0']
        rfl
      rw [ej]
      exact q H1 gls c1' (c1.at1 hcd alcd.symm) gA1 (fun l h => .inl h) h1 (c1.at1 hwl alwl.symm)
  | cell a b =>
    obtain ⟨vT, us, rfl, hv, iu⟩ := im_tup iv
    obtain ⟨u0, u1, u2, rfl, i0, i1, i2⟩ := imA3 iu
    have e0 := im_str i0
    subst e0
    walk_at "w"
    refine d_dgetS hst ec ?_
    walk_at "w"
    refine ⟨u1, a, g, cd, al, cs, [], rfl, i1, by have := fit.1; omega, hcd, hal, by have := p5 fit.1; simp; omega, fun H1 c1 h1 => ?_⟩
    rw [List.nil_append] at h1
    have hv1 := c1.tup _ _ hv
    have hcd1 := c1.at1 hcd alcd.symm
    have hrc1 := c1.at1 hrc alrc.symm
    walk_at "w"
    refine ⟨u2, b, g, cd, al, cs, a.asked g cs, rfl, i2.im c1, by have := fit.2; omega, hcd1, h1, ?_, fun H2 c2 h2 => ?_⟩
    · have h1 := Ex.asked_len g cs a
      have h2 : 2 ^ (a.deep - 1) ≤ 2 ^ a.deep := Nat.pow_le_pow_right (by decide) (Nat.sub_le _ _)
      have := p5 fit.1
      have := p5 fit.2
      omega
    have hcd2 := c2.at1 hcd1 alcd.symm
    have c02 : Chg [al] H H2 := c1.both c2
    walk_at "w"
    refine d_dput (k := Sum.inl (a.worth g cs)) hcd2 (by unfold cK; rw [List.length_map]; walk_at "sz") fun H3 c3 h3 => ?_
    rw [putK_cK] at h3
    have hrc3 := c3.at1 (c2.at1 hrc1 alrc.symm) rccd
    have hv3 := c3.tup _ _ (c2.tup _ _ hv1)
    have hwl3 := c3.at1 (c02.at1 hwl alwl.symm) wlcd
    walk_at "w"
    refine w_append hwl3 (by simp; decide) fun H4 c4 h4 => ?_
    have hv4 := c4.tup _ _ hv3
    walk_at "w"
    have cc : Chg [cd, gd, al, wl] H H4 := ((c02.wide (by simp)).go c3 fun x hx => .inl (by rw [List.mem_singleton.mp hx]; simp)).go c4 fun x hx => .inl (by rw [List.mem_singleton.mp hx]; simp)
    refine q H4 gls cc (c4.at1 h3 wlcd.symm) (((gA.keep c02 (by simpa using algd.symm) fun l hl => by simpa using fun z => algl (by rw [← z]; exact hl)).keep c3 (by simpa using cdgd.symm) fun l hl => by simpa using glcd l hl).keep c4 (by simpa using wlgd.symm) fun l hl => by simpa using fun z => wlgl (by rw [← z]; exact hl)) (fun l h => .inl h) (c4.at1 (c3.at1 h2 alcd) alwl) h4
  | give x a =>
    obtain ⟨vT, us, rfl, hv, iu⟩ := im_tup iv
    obtain ⟨u0, u1, u2, rfl, i0, i1, i2⟩ := imA3 iu
    have e0 := im_str i0
    have e1 := im_str i1
    subst e0 e1
    walk_at "w"
    refine d_dgetS hst ec ?_
    walk_at "w"
    refine ⟨u2, a, g, cd, al, cs, [], rfl, i2, by have : a.deep ≤ 5 := fit; omega, hcd, hal, by have := p5 (e := a) fit; simp; omega, fun H1 c1 h1 => ?_⟩
    rw [List.nil_append] at h1
    have hst1 := c1.at1 hst alst.symm
    have hv1 := c1.tup _ _ hv
    have gA1 : GvAt H1 gd gv gls := gA.keep c1 (by simpa using algd.symm) fun l hl => by simpa using fun z => algl (by rw [← z]; exact hl)
    have hgd1 := gA1.dict
    walk_at "w"
    refine d_dgetS hst1 eg ?_
    walk_at "w"
    refine k_lst (by walk_at "sz") fun dl H2 ndl c2 hdl => ?_
    have gA2 := gA1.same c2
    have c02 : Chg [al] H H2 := c1.same c2
    obtain ⟨l0, o, dg, eo, hl0⟩ : ∃ (l0 : Addr) (o : Option V), DGet H2 gd (.str x) o ∧ o.getD (.ref dl) = .ref l0 ∧ H2 l0 = some (.lst ((gAt gv x).map V.int)) := by
      rcases gA2.look (x := x) with ⟨e1, e2⟩ | ⟨l, hl, e1, e2⟩
      · exact ⟨dl, none, by rw [← e1]; exact .k (k := Sum.inr x) gA2.dict, rfl, by rw [e2]; exact hdl⟩
      · exact ⟨l, some (.ref l), by rw [← e1]; exact .k (k := Sum.inr x) gA2.dict, rfl, e2⟩
    have lrow0 : (gAt gv x).length ≤ 1000 := by
      unfold gAt
      cases hf : gv.find? fun g => decide (g.1 = x) with
      | none => simp
      | some r => exact lrow r (List.mem_of_find?_eq_some hf)
    refine ⟨o, dg, ?_⟩
    rw [eo]
    walk_at "w"
    refine k_lst (by walk_at "sz") fun wl1 H3 nwl1 c3 hwl1 => ?_
    refine w_cat (c3.at hl0) hwl1 (by rw [List.length_map]; simp; omega) fun pn H4 npn c4 hpn => ?_
    have c14 : Chg [] H1 H4 := (c2.same c3).same c4
    have hst4 := c14.at hst1
    have hv4 := c14.at hv1
    have gA4 := gA1.same c14
    walk_at "w"
    refine d_dgetS hst4 eg ?_
    walk_at "w"
    have lk : (gK gv gls).length ≤ 1000 := by rw [gK_len gA.len]; exact lgv
    refine d_dput (k := Sum.inr x) gA4.dict (by walk_at "sz") fun H5 c5 h5 => ?_
    have pnN1 : H1 pn = none := (c2.same c3).dom _ npn
    have pnN : H pn = none := c1.dom _ pnN1
    have pngl : pn ∉ gls := fun hm => gld pn hm pnN
    have pngd : pn ≠ gd := fun z => by rw [z, hgd1] at pnN1; cases pnN1
    have hpn4 : H4 pn = some (.lst ((gAt gv x ++ [a.worth g cs]).map V.int)) := by rw [List.map_append]; exact hpn
    obtain ⟨gls', g1, g2⟩ := gA4.put pngl (fun l hl o e => c5.at1 e (glgd l hl)) h5 (c5.at1 hpn4 pngd)
    have hv5 := c5.tup _ _ hv4
    walk_at "w"
    have c15 : Chg [gd] H1 H5 := c14.pre c5
    have cc : Chg [cd, gd, al, wl] H H5 := (c1.wide (by simp)).go c15 fun x hx => .inl (by rw [List.mem_singleton.mp hx]; simp)
    refine q H5 gls' cc (c15.at1 (c1.at1 hcd alcd.symm) cdgd) g1 (fun l hl => ?_) (c15.at1 h1 algd) (c15.at1 (c1.at1 hwl alwl.symm) wlgd)
    rcases g2 l hl with h | h
    · exact .inl h
    · rw [h]; exact .inr pnN
end Fg
namespace Fg
open PySem PySem.Spec PyProof.Rows L2
/-! ### the law's own machine: its state in the heap -/
def ImK (H H' : Hp) : Prop := ∀ v d, Im H v d → Im H' v d
theorem Chg.imK {M : List Addr} {H H' : Hp} (c : Chg M H H') : ImK H H' := fun _ _ h => h.im c
theorem ImK.trans {H H1 H2 : Hp} (a : ImK H H1) (b : ImK H1 H2) : ImK H H2 := fun v d h => b v d (a v d h)
theorem ImK.refl {H : Hp} : ImK H H := fun _ _ h => h
structure Sv where
  rd : Addr
  cd : Addr
  gd : Addr
  rl : Addr
  most : Nat
  long : Bool
  alive : Nat
  deep : Nat
def stK (s : Sv) : List (Key × V) := [(Sum.inr "rows", .ref s.rd), (Sum.inr "cells", .ref s.cd), (Sum.inr "given", .ref s.gd), (Sum.inr "records", .ref s.rl), (Sum.inr "most", .int (s.most : Nat)), (Sum.inr "long", .bl s.long), (Sum.inr "alive", .int (s.alive : Nat)), (Sum.inr "deepest", .int (s.deep : Nat))]
theorem keyNe {x y : Str} (h : decide (x = y) = false) : ¬ (Sum.inr x : Key) = Sum.inr y := fun z => of_decide_eq_false h (Sum.inr.inj z)
section
variable {H : Hp} {Q : VK} {st : Addr} {s : Sv}
theorem sv_rows : valV (stK s) (Sum.inr "rows") = some (.ref s.rd) := by unfold stK; rw [valV_cons, if_pos rfl]
theorem sv_cells : valV (stK s) (Sum.inr "cells") = some (.ref s.cd) := by unfold stK; rw [valV_cons, if_neg (keyNe (by decide +kernel)), valV_cons, if_pos rfl]
theorem sv_given : valV (stK s) (Sum.inr "given") = some (.ref s.gd) := by unfold stK; rw [valV_cons, if_neg (keyNe (by decide +kernel)), valV_cons, if_neg (keyNe (by decide +kernel)), valV_cons, if_pos rfl]
theorem sv_records : valV (stK s) (Sum.inr "records") = some (.ref s.rl) := by unfold stK; rw [valV_cons, if_neg (keyNe (by decide +kernel)), valV_cons, if_neg (keyNe (by decide +kernel)), valV_cons, if_neg (keyNe (by decide +kernel)), valV_cons, if_pos rfl]
theorem sv_most : valV (stK s) (Sum.inr "most") = some (.int (s.most : Nat)) := by unfold stK; rw [valV_cons, if_neg (keyNe (by decide +kernel)), valV_cons, if_neg (keyNe (by decide +kernel)), valV_cons, if_neg (keyNe (by decide +kernel)), valV_cons, if_neg (keyNe (by decide +kernel)), valV_cons, if_pos rfl]
theorem sv_long : valV (stK s) (Sum.inr "long") = some (.bl s.long) := by unfold stK; rw [valV_cons, if_neg (keyNe (by decide +kernel)), valV_cons, if_neg (keyNe (by decide +kernel)), valV_cons, if_neg (keyNe (by decide +kernel)), valV_cons, if_neg (keyNe (by decide +kernel)), valV_cons, if_neg (keyNe (by decide +kernel)), valV_cons, if_pos rfl]
theorem sv_alive : valV (stK s) (Sum.inr "alive") = some (.int (s.alive : Nat)) := by unfold stK; rw [valV_cons, if_neg (keyNe (by decide +kernel)), valV_cons, if_neg (keyNe (by decide +kernel)), valV_cons, if_neg (keyNe (by decide +kernel)), valV_cons, if_neg (keyNe (by decide +kernel)), valV_cons, if_neg (keyNe (by decide +kernel)), valV_cons, if_neg (keyNe (by decide +kernel)), valV_cons, if_pos rfl]
theorem sv_deepest : valV (stK s) (Sum.inr "deepest") = some (.int (s.deep : Nat)) := by unfold stK; rw [valV_cons, if_neg (keyNe (by decide +kernel)), valV_cons, if_neg (keyNe (by decide +kernel)), valV_cons, if_neg (keyNe (by decide +kernel)), valV_cons, if_neg (keyNe (by decide +kernel)), valV_cons, if_neg (keyNe (by decide +kernel)), valV_cons, if_neg (keyNe (by decide +kernel)), valV_cons, if_neg (keyNe (by decide +kernel)), valV_cons, if_pos rfl]
theorem sg_rows (e : H st = some (.dK (stK s))) (q : Q (.ref s.rd) H) : KDg (.ref st) Q (.str "rows") H := d_dgetS e sv_rows q
theorem sg_cells (e : H st = some (.dK (stK s))) (q : Q (.ref s.cd) H) : KDg (.ref st) Q (.str "cells") H := d_dgetS e sv_cells q
theorem sg_given (e : H st = some (.dK (stK s))) (q : Q (.ref s.gd) H) : KDg (.ref st) Q (.str "given") H := d_dgetS e sv_given q
theorem sg_records (e : H st = some (.dK (stK s))) (q : Q (.ref s.rl) H) : KDg (.ref st) Q (.str "records") H := d_dgetS e sv_records q
theorem sg_most (e : H st = some (.dK (stK s))) (q : Q (.int (s.most : Nat)) H) : KDg (.ref st) Q (.str "most") H := d_dgetS e sv_most q
theorem sg_long (e : H st = some (.dK (stK s))) (q : Q (.bl s.long) H) : KDg (.ref st) Q (.str "long") H := d_dgetS e sv_long q
theorem sg_alive (e : H st = some (.dK (stK s))) (q : Q (.int (s.alive : Nat)) H) : KDg (.ref st) Q (.str "alive") H := d_dgetS e sv_alive q
theorem sg_deepest (e : H st = some (.dK (stK s))) (q : Q (.int (s.deep : Nat)) H) : KDg (.ref st) Q (.str "deepest") H := d_dgetS e sv_deepest q
theorem put_cons {k k' : Key} {v v' : V} {kvs : List (Key × V)} (h : valV kvs k ≠ none) (hn : ¬ k' = k) : putK ((k', v') :: kvs) k v = (k', v') :: putK kvs k v := by
  have h1 : (kvs.any fun kv => decide (kv.1 = k)) = true := by
    unfold valV at h
    refine List.any_eq_true.mpr ?_
    cases hf : kvs.find? fun kv => decide (kv.1 = k) with
    | none => rw [hf] at h; exact absurd rfl h
    | some kv => exact ⟨kv, List.mem_of_find?_eq_some hf, by have := List.find?_some hf; exact this⟩
  unfold putK
  rw [if_pos h1, if_pos (by rw [List.any_cons, h1, Bool.or_true]), List.map_cons, if_neg hn]
theorem put_here {k : Key} {v v' : V} {kvs : List (Key × V)} (h : k ∉ kvs.map (·.1)) : putK ((k, v') :: kvs) k v = (k, v) :: kvs := by
  unfold putK
  rw [if_pos (by rw [List.any_cons, decide_eq_true rfl, Bool.true_or]), List.map_cons, if_pos rfl]
  have e : ∀ kv ∈ kvs, (if kv.1 = k then (kv.1, v) else kv) = kv := fun kv hkv => by
    rw [if_neg]
    intro z
    exact h (by rw [← z]; exact List.mem_map.mpr ⟨kv, hkv, rfl⟩)
  rw [List.map_congr_left e, List.map_id']
theorem sp_alive' (n : Nat) : putK (stK s) (Sum.inr "alive") (.int (n : Nat)) = stK { s with alive := n } := rfl
theorem sp_deep' (n : Nat) : putK (stK s) (Sum.inr "deepest") (.int (n : Nat)) = stK { s with deep := n } := rfl
theorem sp_long' (b : Bool) : putK (stK s) (Sum.inr "long") (.bl b) = stK { s with long := b } := rfl
variable {A : Hp → Prop}
theorem pv_alive {i : Int} (n : Nat) (ei : i = (n : Nat)) (e : H st = some (.dK (stK s))) (q : ∀ H', Chg [st] H H' → H' st = some (.dK (stK { s with alive := n })) → A H') : ∃ a H4, V.ref st = .ref a ∧ DPut H a (.str "alive") (.int i) H4 ∧ A H4 := by
  subst ei
  exact d_dput (k := Sum.inr "alive") e (by show 8 < sizeLine; decide) fun H' c h => q H' c h
theorem pv_deep {i : Int} (n : Nat) (ei : i = (n : Nat)) (e : H st = some (.dK (stK s))) (q : ∀ H', Chg [st] H H' → H' st = some (.dK (stK { s with deep := n })) → A H') : ∃ a H4, V.ref st = .ref a ∧ DPut H a (.str "deepest") (.int i) H4 ∧ A H4 := by
  subst ei
  exact d_dput (k := Sum.inr "deepest") e (by show 8 < sizeLine; decide) fun H' c h => q H' c h
theorem pv_long {b : Bool} (e : H st = some (.dK (stK s))) (q : ∀ H', Chg [st] H H' → H' st = some (.dK (stK { s with long := b })) → A H') : ∃ a H4, V.ref st = .ref a ∧ DPut H a (.str "long") (.bl b) H4 ∧ A H4 :=
  d_dput (k := Sum.inr "long") e (by show 8 < sizeLine; decide) fun H' c h => q H' c h
end
/-! ### records -/
def kidD : Option (List Nat) → PyData
  | none => .none
  | some p => pathD p
def lrecD (r : LRec) : PyData := .list [markD r.path r.past, .str r.word, kidD r.kid, .list (r.asked.map PyData.int), .list (r.writes.map PyData.int)]
structure SAt (H0 H : Hp) (st : Addr) (s : Sv) (m : Mc) (log : List LRec) (gls L : List Addr) (xs : List V) : Prop where
  dict : H st = some (.dK (stK s))
  cells : H s.cd = some (.dK (cK m.cells))
  given : GvAt H s.gd m.given gls
  recs : H s.rl = some (.lst xs)
  data : RA (fun a => a ∈ L) H xs (log.map lrecD)
  fresh : H0 st = none ∧ H0 s.cd = none ∧ H0 s.gd = none ∧ H0 s.rl = none
  ne : st ≠ s.cd ∧ st ≠ s.gd ∧ s.cd ≠ s.gd
  gl : ∀ l ∈ gls, H0 l = none ∧ l ≠ s.rl
  ll : ∀ a ∈ L, H0 a = none ∧ a ≠ s.rl ∧ ∃ ys, H a = some (.lst ys)
/-- few of all -/
structure Fits (m : Mc) : Prop where
  cells : m.cells.length ≤ 100 + m.recs.length
  given : m.given.length ≤ m.recs.length
  rows : ∀ g ∈ m.given, g.2.length ≤ m.recs.length
theorem cPut_le (cs : Cells) (i w : Int) : (cPut cs i w).length ≤ cs.length + 1 := by
  unfold cPut
  split
  · rw [List.length_map]; omega
  · rw [List.length_append, List.length_singleton]; omega
theorem Fits.aft {m : Mc} (h : Fits m) (f : Frm) (s : Stp) : Fits (m.aft f s) := by
  have e : (m.aft f s).recs.length = m.recs.length + 1 := by
    show (m.recs ++ [_]).length = _
    rw [List.length_append, List.length_singleton]
  refine ⟨?_, ?_, ?_⟩
  · rw [e]
    have : (s.puts f.arg m.cells).length ≤ m.cells.length + 1 := by
      cases s with
      | cell a b => exact cPut_le _ _ _
      | _ => exact Nat.le_succ _
    have := h.cells
    show (s.puts f.arg m.cells).length ≤ _
    omega
  · rw [e]
    have : (s.gives f.arg m.cells m.given).length ≤ m.given.length + 1 := by
      cases s with
      | give x a => exact gAdd_len _ _ _
      | _ => exact Nat.le_succ _
    have := h.given
    show (s.gives f.arg m.cells m.given).length ≤ _
    omega
  · rw [e]
    exact gives_row s f.arg m.cells m.given _ h.rows
theorem Fits.sub {m : Mc} (h : Fits m) (f : Frm) (s : Stp) (d : Nat) : Fits (m.sub f s d) := by
  have e : (m.sub f s d).recs.length = m.recs.length + 1 := by
    show (m.recs ++ [_]).length = _
    rw [List.length_append, List.length_singleton]
  refine ⟨?_, ?_, ?_⟩
  · rw [e]; have := h.cells; show m.cells.length ≤ _; omega
  · rw [e]; have := h.given; show m.given.length ≤ _; omega
  · rw [e]
    intro g hg
    have := h.rows g hg
    omega
theorem Dl.fits {p : Prg} {d : Nat} {f : Frm} {m m' : Mc} {L : List LRec} (h : Dl p d f m m' L) : Fits m → Fits m' := by
  induction h with
  | over _ => exact id
  | step _ _ _ ih => exact fun h => ih (h.aft _ _)
  | sub _ _ _ _ ih1 ih2 => exact fun h => ih2 (ih1 (h.sub _ _ _))
section
variable {H0 H H' : Hp} {st rd cd gd rl : Addr} {most al dp al' dp' : Nat} {lg lg' : Bool} {m : Mc} {log : List LRec} {gls LL : List Addr} {xs : List V}
theorem gv_list {H : Hp} {gd : Addr} {gv : Given} {gls : List Addr} (h : GvAt H gd gv gls) {l : Addr} (hl : l ∈ gls) : ∃ ys, H l = some (.lst ys) := by
  obtain ⟨i, hi⟩ := List.getElem?_of_mem hl
  have hg : i < gv.length := by rw [← h.len]; exact (List.getElem?_eq_some_iff.mp hi).1
  exact ⟨_, h.rows i _ l (List.getElem?_eq_getElem hg) hi⟩
theorem SAt.upd (S : SAt H0 H st ⟨rd, cd, gd, rl, most, lg, al, dp⟩ m log gls LL xs) (c : Chg [st] H H') (h : H' st = some (.dK (stK ⟨rd, cd, gd, rl, most, lg', al', dp'⟩))) : SAt H0 H' st ⟨rd, cd, gd, rl, most, lg', al', dp'⟩ m log gls LL xs where
  dict := h
  cells := c.at1 S.cells (Ne.symm S.ne.1)
  given := S.given.keep c (by simpa using Ne.symm S.ne.2.1) fun l hl => by
    obtain ⟨ys, e⟩ := gv_list S.given hl
    simpa using fun z => by rw [z, S.dict] at e; cases e
  recs := c.at1 S.recs fun z => by
    have := S.recs
    rw [show (⟨rd, cd, gd, rl, most, lg, al, dp⟩ : Sv).rl = st from z, S.dict] at this
    cases this
  data := S.data.keep c fun a ha => by
    obtain ⟨_, _, ys, e⟩ := S.ll a ha
    simpa using fun z => by rw [z, S.dict] at e; cases e
  fresh := S.fresh
  ne := S.ne
  gl := S.gl
  ll := fun a ha => by
    obtain ⟨h1, h2, ys, e⟩ := S.ll a ha
    exact ⟨h1, h2, ys, c.at1 e fun z => by rw [z, S.dict] at e; cases e⟩
theorem SAt.same {s : Sv} (S : SAt H0 H st s m log gls LL xs) (c : Chg [] H H') : SAt H0 H' st s m log gls LL xs where
  dict := c.at S.dict
  cells := c.at S.cells
  given := S.given.same c
  recs := c.at S.recs
  data := S.data.same c
  fresh := S.fresh
  ne := S.ne
  gl := S.gl
  ll := fun a ha => by
    obtain ⟨h1, h2, ys, e⟩ := S.ll a ha
    exact ⟨h1, h2, ys, c.at e⟩
theorem SAt.add {s : Sv} {m' : Mc} {r : LRec} {rc T al wl : Addr} {k : V} {gls' : List Addr} (S : SAt H0 H st s m log gls LL xs) (hd : H' st = some (.dK (stK s))) (hc : H' s.cd = some (.dK (cK m'.cells))) (hg : GvAt H' s.gd m'.given gls') (hr : H' s.rl = some (.lst (xs ++ [.ref rc])))
    (keep : ∀ a ys, a ∈ LL → H a = some (.lst ys) → H' a = some (.lst ys)) (tup : ∀ a xs, H a = some (.tup xs) → H' a = some (.tup xs)) (g0 : ∀ l ∈ gls', H0 l = none ∧ l ≠ s.rl) (f : H0 rc = none ∧ H0 al = none ∧ H0 wl = none) (rne : rc ≠ s.rl ∧ al ≠ s.rl ∧ wl ≠ s.rl)
    (h1 : H' rc = some (.lst [.ref T, .str r.word, k, .ref al, .ref wl])) (iT : Im H' (.ref T) (markD r.path r.past)) (ik : Im H' k (kidD r.kid)) (ha : H' al = some (.lst (r.asked.map V.int))) (hw : H' wl = some (.lst (r.writes.map V.int))) : SAt H0 H' st s m' (log ++ [r]) gls' (LL ++ [rc, al, wl]) (xs ++ [.ref rc]) where
  dict := hd
  cells := hc
  given := hg
  recs := hr
  data := by
    rw [List.map_append]
    refine RA.snoc (S.data.imp (fun a ys ha e => ⟨List.mem_append_left _ ha, keep a ys ha e⟩) (fun a ys ha e => ?_) tup) ?_
    · obtain ⟨_, _, zs, e'⟩ := S.ll a ha
      rw [e'] at e
      cases e
    · exact .lst (by simp) h1 (.cons iT.any (.cons (.str _) (.cons ik.any (.cons (.lst (by simp) ha (imInts _)) (.cons (.lst (by simp) hw (imInts _)) .nil)))))
  fresh := S.fresh
  ne := S.ne
  gl := g0
  ll := fun a ha' => by
    rcases List.mem_append.mp ha' with ha' | ha'
    · obtain ⟨h1, h2, ys, e⟩ := S.ll a ha'
      exact ⟨h1, h2, ys, keep a ys ha' e⟩
    · simp only [List.mem_cons, List.not_mem_nil, or_false] at ha'
      rcases ha' with rfl | rfl | rfl
      · exact ⟨f.1, rne.1, _, h1⟩
      · exact ⟨f.2.1, rne.2.1, _, ha⟩
      · exact ⟨f.2.2, rne.2.2, _, hw⟩
end
end Fg
--LAW k10
namespace Fg
open PySem PySem.Spec PyProof.Rows L2
/-! ### the walk's small steps -/
local macro_rules | `(tactic| walk_at "hp") => `(tactic| first
  | assumption
  | exact upd_same
  | (refine Chg.at (by assumption) ?_; walk_at "hp")
  | (refine Chg.at1 (by assumption) ?_ (by walk_at "ne"); walk_at "hp"))
local macro_rules | `(tactic| walk_at "ne") => `(tactic| first | assumption | (apply Ne.symm; assumption))
local macro_rules | `(tactic| walk_at "sq") => `(tactic| first | assumption | exact sqL (by walk_at "hp") | (refine Chg.seq (by assumption) ?_; walk_at "sq"))
local macro_rules | `(tactic| walk_at "sz") => `(tactic| first | assumption | exact Nat.zero_le _ | (simp only [List.length_cons, List.length_nil]; decide) | exact Nat.le_trans (by first | omega | (simp; done) | (simp; omega)) (show 100000 ≤ sizeLine by decide) | exact Nat.lt_of_lt_of_le (by first | omega | (simp; done) | (simp; omega)) (show 100000 ≤ sizeLine by decide))
local macro_rules | `(tactic| walk_at "ix") => `(tactic| first | exact at0 | exact at1 | exact at2 | exact at3 | assumption | exact rfl | walk_at "ix2")
local macro_rules | `(tactic| walk_at "ix2") => `(tactic| fail)
local macro_rules | `(tactic| walk_at "num") => `(tactic| first | assumption | omega | decide | walk_at "num2")
local macro_rules | `(tactic| walk_at "num2") => `(tactic| fail)
local macro_rules | `(tactic| walk_at "im") => `(tactic| first | assumption | exact R.non (S := fun _ => False) | exact R.bl (S := fun _ => False) _ | exact R.int (S := fun _ => False) _ | exact R.str (S := fun _ => False) _ | (refine R.im (by assumption) ?_; walk_at "im"))
local macro_rules | `(tactic| walk_at "r") => `(tactic| first | assumption | exact R.non (S := fun _ => False) | exact R.bl (S := fun _ => False) _ | exact R.int (S := fun _ => False) _ | exact R.str (S := fun _ => False) _ | (refine R.same (by assumption) ?_; walk_at "r") | exact R.any (by walk_at "im"))
local macro_rules | `(tactic| walk_at "chg") => `(tactic| first
  | exact Chg.refl
  | assumption
  | (refine Chg.same ?_ (by assumption); walk_at "chg")
  | (refine Chg.both ?_ (by assumption); walk_at "chg")
  | (refine Chg.pre (by assumption) ?_; walk_at "chg"))
local macro_rules | `(tactic| walk_at "w1") => `(tactic| first
  | with_reducible apply w_seq
  | with_reducible apply w_asg
  | ((with_reducible apply w_var); (focus (exact rfl)))
  | with_reducible apply w_c
  | with_reducible apply w_op
  | with_reducible apply w_cons
  | with_reducible apply w_nil
  | with_reducible apply w_gName
  | with_reducible apply w_if
  | with_reducible apply w_test
  | with_reducible apply w_B
  | with_reducible apply w_isbl
  | with_reducible apply w_retN
  | with_reducible apply w_next
  | with_reducible apply w_drop
  | with_reducible apply w_cb
  | with_reducible apply w_call
  | with_reducible apply w_callN
  | with_reducible apply w_bm
  | with_reducible apply w_bm0
  | ((with_reducible apply w_tyL); (focus (walk_at "hp"; done)))
  | with_reducible apply w_dput
  | with_reducible apply w_m1
  | with_reducible apply w_isstr
  | with_reducible apply w_and
  | with_reducible apply w_or
  | with_reducible apply w_not
  | with_reducible apply w_andV
  | with_reducible apply w_orV
  | with_reducible apply w_notV
  | with_reducible apply w_ifE
  | with_reducible apply w_chain
  | with_reducible apply w_un
  | with_reducible apply w_neg
  | with_reducible apply w_add
  | with_reducible apply w_sub
  | ((with_reducible apply w_mod); (focus (walk_at "num"; done)))
  | ((with_reducible apply w_mul); (focus (walk_at "num"; done)))
  | ((with_reducible apply w_fdiv); (focus (walk_at "num"; done)))
  | ((with_reducible apply w_pow); (focus (walk_at "num"; done)))
  | with_reducible apply w_lt
  | with_reducible apply w_le
  | with_reducible apply w_gt
  | with_reducible apply w_ge
  | with_reducible apply w_ltS
  | with_reducible apply w_geS
  | with_reducible apply w_inC
  | with_reducible apply w_notInC
  | with_reducible apply w_isN
  | with_reducible apply w_notN
  | with_reducible apply w_isB
  | with_reducible apply w_notB
  | ((with_reducible apply w_addS); (focus (walk_at "sz"; done)))
  | ((with_reducible apply w_ixL); (focus (walk_at "sq"; done)); (focus (walk_at "ix"; done)))
  | ((with_reducible apply w_ixT); (focus (walk_at "hp"; done)); (focus (walk_at "ix"; done)))
  | ((with_reducible apply w_ixS); (focus (walk_at "sz"; done)); (focus (walk_at "ix"; done)))
  | with_reducible apply w_gSub
  | ((with_reducible apply w_gTup); (focus (walk_at "hp"; done)); (focus (exact rfl)))
  | with_reducible apply w_gCons
  | with_reducible apply w_gNil
  | ((with_reducible apply w_aug); (focus (exact rfl)))
  | with_reducible apply w_ipI
  | ((with_reducible apply w_eq); (focus (exact rfl)))
  | ((with_reducible apply w_ne); (focus (exact rfl)))
  | with_reducible apply w_max
  | with_reducible apply w_min
  | with_reducible apply w_abs
  | with_reducible apply w_intB
  | with_reducible apply w_intI
  | with_reducible apply w_tup1
  | with_reducible apply w_lst1
  | with_reducible apply w_sl
  | with_reducible apply w_part
  | with_reducible apply w_noPart
  | with_reducible apply w_isint
  | ((with_reducible apply w_slS); (focus (walk_at "sz"; done)))
  | with_reducible apply w_iteT
  | with_reducible apply w_iteF
  | with_reducible apply w_iteN
  | ((with_reducible apply w_iteYes); (focus (exact rfl)))
  | ((with_reducible apply w_iteNo); (focus (exact rfl)))
  | ((with_reducible apply w_lenL); (focus (walk_at "sq"; done)))
  | ((with_reducible apply w_lenT); (focus (walk_at "hp"; done)))
  | ((with_reducible apply w_lenS); (focus (walk_at "sz"; done)))
  | with_reducible apply w_lc
  | with_reducible apply w_for
  | with_reducible apply w_yes
  | ((with_reducible apply w_wipe); (focus (exact rfl)))
  | with_reducible apply w_iList
  | with_reducible apply w_iTup
  | with_reducible apply w_iStr
  | with_reducible apply w_iRng1
  | with_reducible apply w_iRng2
  | with_reducible apply w_iZip
  | with_reducible apply w_iEnum
  | ((with_reducible apply d_iList); (focus (walk_at "sq"; done)))
  | ((with_reducible apply d_iTup); (focus (walk_at "hp"; done)))
  | with_reducible apply d_iStr
  | ((with_reducible apply d_iRng1); (focus (walk_at "num"; done)); (focus (walk_at "num"; done)))
  | ((with_reducible apply d_iRng2); (focus (walk_at "num"; done)); (focus (walk_at "num"; done)); (focus (walk_at "num"; done)); (focus (walk_at "num"; done)))
  | ((with_reducible apply d_iZip); (focus (walk_at "sq"; done)); (focus (walk_at "sq"; done)))
  | ((with_reducible apply d_iEnum); (focus (walk_at "sq"; done)))
  | walk_at "w2")
local macro_rules | `(tactic| walk_at "w2") => `(tactic| fail)
local macro_rules | `(tactic| walk_at "wn") => `(tactic| repeat walk_at "w1")
local macro_rules | `(tactic| walk_at "w") => `(tactic| repeat (first | walk_at "w1" | with_reducible apply w_ret))

local macro_rules | `(tactic| walk_at "w2") => `(tactic| first
  | ((with_reducible apply w_isInt); (focus (walk_at "r"; done)))
  | ((with_reducible apply w_isBool); (focus (walk_at "r"; done)))
  | ((with_reducible apply w_isStr); (focus (walk_at "r"; done)))
  | ((with_reducible apply w_isTup); (focus (walk_at "r"; done)))
  | ((with_reducible apply w_isLst); (focus (walk_at "r"; done)))
  | with_reducible apply w_fld
  | with_reducible apply w_sfld
  | with_reducible apply w_faug
  | with_reducible apply w_rAdd
  | with_reducible apply w_rSub
  | with_reducible apply w_make
  | with_reducible apply w_orT
  | with_reducible apply w_dgetd
  | with_reducible apply w_dgetk
  | with_reducible apply w_dsetd
  | ((with_reducible apply k_dgetd); (focus (walk_at "hp"; done)))
  | ((with_reducible apply k_dsetd); (focus (walk_at "hp"; done)))
  | walk_at "w3")
local macro_rules | `(tactic| walk_at "w3") => `(tactic| fail)

local macro_rules | `(tactic| walk_at "w3") => `(tactic| first
  | ((with_reducible apply sg_rows); (focus (walk_at "hp"; done)))
  | ((with_reducible apply sg_cells); (focus (walk_at "hp"; done)))
  | ((with_reducible apply sg_given); (focus (walk_at "hp"; done)))
  | ((with_reducible apply sg_records); (focus (walk_at "hp"; done)))
  | ((with_reducible apply sg_most); (focus (walk_at "hp"; done)))
  | ((with_reducible apply sg_long); (focus (walk_at "hp"; done)))
  | ((with_reducible apply sg_alive); (focus (walk_at "hp"; done)))
  | ((with_reducible apply sg_deepest); (focus (walk_at "hp"; done))))
/-- the program as it lies at H0 -/
structure DoP (H0 : Hp) (p : Prg) (ls : List Addr) (rd : Addr) : Prop where
  dict : H0 rd = some (.dK (gK (nmG p) ls))
  pok : PrgOk p
  pat : ∃ a, PAt H0 a p ls
def sp__law_do (K : PySem.W.Frag) (n : Nat) : Sp := fun vs H Q _ => ∃ (H0 : Hp) (p : Prg) (ls : List Addr) (st pa : Addr) (s : Sv) (m : Mc) (log : List LRec) (gls LL : List Addr) (xs : List V) (x : Str) (w : Int) (path : List Nat) (d num : Nat),
  vs = [.ref st, .str x, .int w, .ref pa] ∧ DoP H0 p ls s.rd ∧ x ∈ p.map (·.1) ∧ Chg [] H0 H ∧ Im H (.ref pa) (pathD path) ∧ SAt H0 H st s m log gls LL xs ∧ s.long = false ∧ s.alive = d ∧ max s.deep (d + 1) = m.deep ∧ Fits m ∧ m.recs.length ≤ s.most ∧ s.most ≤ 500 ∧ xs.length = m.recs.length ∧ path.length ≤ m.recs.length ∧ s.most + 1 ≤ n + m.recs.length ∧
  (∀ (H' : Hp) (m' : Mc) (L : List LRec) (gls' LL' : List Addr) (xs' : List V), Chg [] H0 H' → ImK H H' → Dl p d ⟨num, path, p.rows x, w, 0, 0, 0⟩ m m' L → m'.recs.length ≤ s.most → SAt H0 H' st { s with deep := m'.deep } m' (log ++ L) gls' LL' xs' → xs'.length = m'.recs.length → Q .non H') ∧
  (∀ (H' : Hp) (dp : Nat), Chg [] H0 H' → ImK H H' → Lg p s.most d ⟨num, path, p.rows x, w, 0, 0, 0⟩ m → H' st = some (.dK (stK { s with long := true, deep := dp })) → Q .non H')
theorem no__law_do {K : PySem.W.Frag} (vs : List V) (H : Hp) (Q : VK) (E : XK) : ¬ sp__law_do K 0 vs H Q E := by
  rintro ⟨H0, p, ls, st, pa, s, m, log, gls, LL, xs, x, w, path, d, num, _, _, _, _, _, _, _, _, _, _, h1, _, _, _, h2, _⟩
  omega
def DoW (H0 H : Hp) (p : Prg) (st pa l : Addr) (x : Str) (w : Int) (path : List Nat) (rows : List Stp) (d num : Nat) (s : Sv) (m : Mc) (log : List LRec) (k : Nat) (σ : L2.St) (H1 : Hp) : Prop :=
  Chg [] H0 H1 ∧ ImK H H1 ∧ ∃ (lg : Bool) (dp at_ past born : Nat) (y8 y9 : Option V), σ = [some (.ref st), some (.str x), some (.int w), some (.ref pa), some (.ref l), some (.int (at_ : Nat)), some (.int (past : Nat)), some (.int (born : Nat)), y8, y9] ∧ k = 2 * (rows.length - at_) + (if lg = true then 0 else 1) ∧ H1 st = some (.dK (stK { s with long := lg, alive := d + 1, deep := dp })) ∧
  ((lg = false ∧ ∃ (m1 : Mc) (L1 : List LRec) (gls LL : List Addr) (xs : List V), SAt H0 H1 st { s with long := false, alive := d + 1, deep := dp } m1 (log ++ L1) gls LL xs ∧ dp = m1.deep ∧ Fits m1 ∧ m1.recs.length ≤ s.most ∧ m.recs.length ≤ m1.recs.length ∧ xs.length = m1.recs.length ∧
      (∀ m' L', Dl p d ⟨num, path, rows, w, at_, past, born⟩ m1 m' L' → Dl p d ⟨num, path, rows, w, 0, 0, 0⟩ m m' (L1 ++ L')) ∧ (Lg p s.most d ⟨num, path, rows, w, at_, past, born⟩ m1 → Lg p s.most d ⟨num, path, rows, w, 0, 0, 0⟩ m)) ∨
    (lg = true ∧ Lg p s.most d ⟨num, path, rows, w, 0, 0, 0⟩ m))
theorem stepsOk_at {ns : List Str} : ∀ {ss : List Stp} {i : Nat} {s : Stp}, stepsOk ns ss → ss[i]? = some s → ∃ bh, s.ok ns bh
  | [], _, _, _, h => by simp at h
  | a :: r, 0, s, ok, h => by
    cases h
    exact ⟨_, ok.1⟩
  | a :: r, i + 1, s, ok, h => stepsOk_at (ss := r) ok.2 h
theorem word_no {s : Stp} {g : Int} {cs : Cells} (h : s.makes g cs = none) : inV (V.str s.word) [V.str "fork", V.str "call"] = false := by
  cases s with
  | fork x a => cases h
  | call x a => cases h
  | cell a b => show inV (V.str "cell") _ = false; decide +kernel
  | give x a => show inV (V.str "give") _ = false; decide +kernel
  | skip a k => show inV (V.str "skip") _ = false; decide +kernel
  | wait => decide +kernel
theorem word_yes {s : Stp} {g : Int} {cs : Cells} {o : Str × Int} (h : s.makes g cs = some o) : inV (V.str s.word) [V.str "fork", V.str "call"] = true := by
  cases s with
  | fork x a => show inV (V.str "fork") _ = true; decide +kernel
  | call x a => show inV (V.str "call") _ = true; decide +kernel
  | _ => cases h
theorem makes_of {s : Stp} {g : Int} {cs : Cells} {y : Str} {v : Int} (h : s.makes g cs = some (y, v)) : ∃ a, (s = .fork y a ∨ s = .call y a) ∧ v = a.worth g cs := by
  cases s with
  | fork x a => cases h; exact ⟨a, .inl rfl, rfl⟩
  | call x a => cases h; exact ⟨a, .inr rfl, rfl⟩
  | _ => cases h
def t__law_do (K : PySem.W.Frag) (n : Nat) : TS :=
    tSeq (sDPut (tVar 0) (tC (.str "alive")) (tOp oAdd (tDGet (tVar 0) (tC (.str "alive"))) (tC (.int 1))))
    (tSeq (sDPut (tVar 0) (tC (.str "deepest")) (tCB cMax (tCons (tDGet (tVar 0) (tC (.str "deepest"))) (tCons (tDGet (tVar 0) (tC (.str "alive"))) (tNil)))))
    (tSeq (tAsg (tDGet (tDGet (tVar 0) (tC (.str "rows"))) (tVar 1)) (gName 4))
    (tSeq (tAsg (tC (.int 0)) (gName 5))
    (tSeq (tAsg (tC (.int 0)) (gName 6))
    (tSeq (tAsg (tC (.int 0)) (gName 7))
    (tSeq (tWhile (tAnd (tTest (tOp oLt (tVar 5) (tCB (cLenQ K) (tCons (tVar 4) (tNil))))) (tNot (tB (tDGet (tVar 0) (tC (.str "long")))))) (tSeq (tAsg (tOp (rIxL K) (tVar 4) (tVar 5)) (gName 8))
    (tSeq (sDPut (tVar 0) (tC (.str "long")) (tOp oGe (tCB (cLenQ K) (tCons (tDGet (tVar 0) (tC (.str "records"))) (tNil))) (tDGet (tVar 0) (tC (.str "most")))))
    (tSeq (tAsg (tLst (tCons (tTup (tCons (tVar 3) (tCons (tVar 6) (tNil)))) (tCons (tOp (rIxT K) (tVar 8) (tC (.int 0))) (tCons (tC .non) (tCons (tLst (tNil)) (tCons (tLst (tNil)) (tNil))))))) (gName 9))
    (tSeq (tIfS (tNot (tB (tDGet (tVar 0) (tC (.str "long"))))) (tSeq (tDrop (tBM K "list" rAppend (tDGet (tVar 0) (tC (.str "records"))) (tCons (tVar 9) (tNil))))
    (tSeq (tAsg (tOp oAdd (tVar 6) (tC (.int 1))) (gName 6))
    (tAsg (tOp oAdd (tOp oAdd (tVar 5) (tC (.int 1))) (tCall (sp__law_made K) [] E0 (tCons (tVar 0) (tCons (tVar 8) (tCons (tVar 2) (tCons (tVar 9) (tNil))))))) (gName 5)))) (tNext))
    (tIfS (tAnd (tTest (tOp (rIn K false) (tOp (rIxT K) (tVar 8) (tC (.int 0))) (tLst (tCons (tC (.str "fork")) (tCons (tC (.str "call")) (tNil)))))) (tNot (tB (tDGet (tVar 0) (tC (.str "long")))))) (tSeq (tAsg (tOp (rCatA K) (tVar 3) (tTup (tCons (tVar 7) (tNil)))) (gSub (tVar 9) (tC (.int 2)) rSetL))
    (tSeq (tAsg (tOp oAdd (tVar 7) (tC (.int 1))) (gName 7))
    (tDrop (tCall (sp__law_do K n) [] E0 (tCons (tVar 0) (tCons (tOp (rIxT K) (tVar 8) (tC (.int 1))) (tCons (tCall (sp__law_worth 6) [] E0 (tCons (tOp (rIxT K) (tVar 8) (tC (.int 2))) (tCons (tVar 2) (tCons (tDGet (tVar 0) (tC (.str "cells"))) (tCons (tOp (rIxL K) (tVar 9) (tC (.int 3))) (tNil)))))) (tCons (tOp (rIxL K) (tVar 9) (tC (.int 2))) (tNil))))))))) (tNext)))))))
    (sDPut (tVar 0) (tC (.str "alive")) (tOp oSub (tDGet (tVar 0) (tC (.str "alive"))) (tC (.int 1))))))))))
theorem pure__law_do {K : PySem.W.Frag} (n : Nat) (vs : List V) (H : Hp) (Q : VK) (E : XK) (h : sp__law_do K (n + 1) vs H Q E) : t__law_do K n (fin Q) (start ["state", "name", "arg", "path", "steps", "at", "done", "born", "step", "record"] vs) H := by
  obtain ⟨H0, p, ls, st, pa, s, m, log, gls, LL, xs, x, w, path, d, num, rfl, D, hx, c0, ipa, S, slong, salive, sdeep, fits, lrec0, most5, lxs, lpath, enough, q1, q2⟩ := h
  show t__law_do K n _ [some (.ref st), some (.str x), some (.int w), some (.ref pa), none, none, none, none, none, none] H
  unfold t__law_do
  obtain ⟨rd, cd, gd, rl, most, long, alive, deep0⟩ := s
  have slong : long = false := slong
  have salive : alive = d := salive
  subst slong salive
  obtain ⟨al0, pat⟩ := D.pat
  obtain ⟨ix, l, ys, r, e1, e2, e3, e4, e5, e6, e7, e8, e9⟩ := prg_at D.pok pat hx
  rw [← e4] at e9
  have rowok : ∀ (i : Nat) (s' : Stp), (p.rows x)[i]? = some s' → ∃ bh, s'.ok (p.map (·.1)) bh := fun i s' hs => by
    rw [e4] at hs
    exact stepsOk_at (D.pok.steps r e3) hs
  generalize hrows : p.rows x = rows at e9 q1 q2 rowok
  have lys : ys.length = rows.length := by rw [e9.length, List.length_map]
  have hst := S.dict
  walk_at "w"
  refine pv_alive (alive + 1) rfl hst fun H1 c1 h1 => ?_
  walk_at "w"
  refine pv_deep m.deep (by rw [← sdeep]; show (if ((alive + 1 : Nat) : Int) > (deep0 : Nat) then ((alive + 1 : Nat) : Int) else (deep0 : Nat)) = ((max deep0 (alive + 1) : Nat) : Int); split <;> omega) h1 fun H2 c2 h2 => ?_
  have c02 : Chg [st] H H2 := c1.both c2
  have cH2 : Chg [] H0 H2 := c0.one c02 S.fresh.1
  have hrd2 : H2 rd = some (.dK (gK (nmG p) ls)) := cH2.at D.dict
  have S2 := S.upd c02 h2
  walk_at "w"
  refine d_dgetS hrd2 e7 ?_
  walk_at "w"
  refine w_while ⟨DoW H0 H p st pa l x w path rows alive num ⟨rd, cd, gd, rl, most, false, alive, deep0⟩ m log, ⟨_, cH2, c02.imK, false, m.deep, 0, 0, 0, none, none, rfl, rfl, h2, .inl ⟨rfl, m, [], gls, LL, xs, by rw [List.append_nil]; exact S2, rfl, fits, lrec0, Nat.le_refl _, lxs, fun m' L' h => h, fun h => h⟩⟩, fun k σ H3 inv => ?_⟩
  obtain ⟨c3, ik3, lg, dp, at_, past, born, y8, y9, rfl, ek, h3, cases⟩ := inv
  have h3 : H3 st = some (.dK (stK ⟨rd, cd, gd, rl, most, lg, alive + 1, dp⟩)) := h3
  have hl3 := c3.at e8
  -- the end
  have over : ∀ hf : (lg = true ∨ rows.length ≤ at_), ∃ a H4, V.ref st = V.ref a ∧ DPut H3 a (.str "alive") (.int (((alive + 1 : Nat) : Int) - 1)) H4 ∧ (fin Q).nx [some (.ref st), some (.str x), some (.int w), some (.ref pa), some (.ref l), some (.int (at_ : Nat)), some (.int (past : Nat)), some (.int (born : Nat)), y8, y9] H4 := fun hf => by
    refine pv_alive alive (by show ((alive + 1 : Nat) : Int) - 1 = _; omega) h3 fun H4 c4 h4 => ?_
    have c04 : Chg [] H0 H4 := c3.one c4 S.fresh.1
    rcases cases with ⟨rfl, m1, L1, gls1, LL1, xs1, S1, edp, fits1, lm1, lm2, lxs1, k1, k2⟩ | ⟨rfl, lg1⟩
    · have hat : rows.length ≤ at_ := by
        rcases hf with hf | hf
        · cases hf
        · exact hf
      have dl := k1 m1 [] (.over (by show rows[at_]? = none; exact List.getElem?_eq_none hat))
      rw [List.append_nil] at dl
      subst edp
      exact q1 H4 m1 L1 gls1 LL1 xs1 c04 (ik3.trans c4.imK) dl lm1 (S1.upd c4 h4) lxs1
    · exact q2 H4 dp c04 (ik3.trans c4.imK) lg1 h4
  walk_at "w"
  rw [lys]
  by_cases hat : at_ < rows.length
  case neg =>
    rw [if_neg (by intro z; have := of_decide_eq_true z; omega)]
    walk_at "w"
    exact over (.inr (by omega))
  rw [if_pos (decide_eq_true (by omega))]
  rcases cases with ⟨rfl, m1, L1, gls1, LL1, xs1, S1, edp, fits1, lm1, lm2, lxs1, k1, k2⟩ | ⟨rfl, lg1⟩
  case inr =>
    walk_at "w"
    exact over (.inl rfl)
  subst edp
  have S1 : SAt H0 H3 st ⟨rd, cd, gd, rl, most, false, alive + 1, m1.deep⟩ m1 (log ++ L1) gls1 LL1 xs1 := S1
  have hrl3 : H3 rl = some (.lst xs1) := S1.recs
  walk_at "w"
  refine ⟨fun σ' H' => ∃ k', k' < k ∧ DoW H0 H p st pa l x w path rows alive num ⟨rd, cd, gd, rl, most, false, alive, deep0⟩ m log k' σ' H', fun σ' H' h => h, ?_⟩
  obtain ⟨zT, es⟩ : ∃ v, ys[at_]? = some v := ⟨ys[at_]'(by omega), List.getElem?_eq_getElem (by omega)⟩
  obtain ⟨dd, ed, rdd⟩ := e9.get es
  rw [List.getElem?_map] at ed
  obtain ⟨sp, esp⟩ : ∃ v, rows[at_]? = some v := ⟨rows[at_]'(by omega), List.getElem?_eq_getElem (by omega)⟩
  rw [esp] at ed
  cases ed
  obtain ⟨bh, okS⟩ := rowok at_ sp esp
  have fit := fit_of okS
  have ai : atI ys ((at_ : Nat) : Int) = some zT := atI_nat es
  obtain ⟨ds, eds⟩ := sp.data_word
  have rdd3 := rdd.im c3
  have rdd' := rdd3
  rw [eds] at rdd'
  obtain ⟨sT, us, rfl, hsT, ius⟩ := im_tup rdd'
  obtain ⟨u0, ur, rfl⟩ : ∃ u0 ur, us = u0 :: ur := by cases ius; exact ⟨_, _, rfl⟩
  have e0 : u0 = .str sp.word := by
    cases ius with
    | cons i0 _ => exact im_str i0
  subst e0
  walk_at "w"
  refine pv_long h3 fun H4 c4 h4 => ?_
  rw [lxs1] at h4
  have h4 : H4 st = some (.dK (stK ⟨rd, cd, gd, rl, most, decide ((most : Int) ≤ (m1.recs.length : Nat)), alive + 1, m1.deep⟩)) := h4
  have hsT4 := c4.tup _ _ hsT
  walk_at "w"
  refine k_tup (by walk_at "sz") fun T H5 nT c5 hT => ?_
  have hsT5 := c5.at hsT4
  walk_at "w"
  refine k_lst (by walk_at "sz") fun al H6 nal c6 hal => ?_
  walk_at "w"
  refine k_lst (by walk_at "sz") fun wl H7 nwl c7 hwl => ?_
  walk_at "w"
  refine k_lst (by walk_at "sz") fun rc H8 nrc c8 hrc => ?_
  have c48 : Chg [] H4 H8 := ((c5.same c6).same c7).same c8
  have hsT8 := c48.at hsT4
  have c08 : Chg [] H0 H8 := (c3.one c4 S.fresh.1).same c48
  have ik8 : ImK H H8 := (ik3.trans c4.imK).trans c48.imK
  by_cases hb : most ≤ m1.recs.length
  · -- too long
    have h8 : H8 st = some (.dK (stK ⟨rd, cd, gd, rl, most, true, alive + 1, m1.deep⟩)) := by
      rw [c48.at h4, decide_eq_true (by omega)]
    have lgA := k2 (.here (s := sp) esp hb)
    have done : ∀ (H9 : Hp) (y9 : Option V), Chg [] H8 H9 → ∃ k', k' < k ∧ DoW H0 H p st pa l x w path rows alive num ⟨rd, cd, gd, rl, most, false, alive, deep0⟩ m log k' [some (.ref st), some (.str x), some (.int w), some (.ref pa), some (.ref l), some (.int (at_ : Nat)), some (.int (past : Nat)), some (.int (born : Nat)), some (.ref sT), y9] H9 := fun H9 y9 c9 =>
      ⟨2 * (rows.length - at_), by rw [ek]; simp, c08.same c9, ik8.trans c9.imK, true, m1.deep, at_, past, born, _, _, rfl, rfl, c9.at h8, .inr ⟨rfl, lgA⟩⟩
    walk_at "w"
    refine k_lst (by walk_at "sz") fun fl H9 nfl c9 hfl => ?_
    have h9 := c9.at h8
    refine w_inL (sqL hfl) rfl rfl ?_
    walk_at "w"
    by_cases hw : inV (V.str sp.word) [V.str "fork", V.str "call"] = true
    · rw [if_pos hw]
      walk_at "w"
      exact done H9 _ c9
    · rw [if_neg hw]
      walk_at "w"
      exact done H9 _ c9
  · have h4' : H4 st = some (.dK (stK ⟨rd, cd, gd, rl, most, false, alive + 1, m1.deep⟩)) := by
      rw [h4, decide_eq_false (by omega)]
    have S4 := S1.upd c4 h4'
    have S8 := S4.same c48
    have h8 := S8.dict
    have hrl8 : H8 rl = some (.lst xs1) := S8.recs
    have hcd8 : H8 cd = some (.dK (cK m1.cells)) := S8.cells
    have gA8 : GvAt H8 gd m1.given gls1 := S8.given
    walk_at "w"
    refine w_append hrl8 (by rw [lxs1]; walk_at "sz") fun H9 c9 h9 => ?_
    have c45 := c5
    have al4 : H4 al = none := c5.dom _ nal
    have wl4 : H4 wl = none := (c5.same c6).dom _ nwl
    have rc4 : H4 rc = none := ((c5.same c6).same c7).dom _ nrc
    have ne4 : ∀ {a b : Addr} {o : HO}, H4 a = some o → H4 b = none → a ≠ b := fun ha hb z => by rw [z, hb] at ha; cases ha
    have rlS4 : H4 rl = some (.lst xs1) := S4.recs
    have cdS4 : H4 cd = some (.dK (cK m1.cells)) := S4.cells
    have gdS4 : H4 gd = some (.dK (gK m1.given gls1)) := S4.given.dict
    have strl : st ≠ rl := fun z => by rw [z, rlS4] at h4'; cases h4'
    have cdrl : cd ≠ rl := fun z => by rw [z, rlS4] at cdS4; cases cdS4
    have gdrl : gd ≠ rl := fun z => by rw [z, rlS4] at gdS4; cases gdS4
    have alwl : al ≠ wl := fun z => by
      have := hal
      rw [z, nwl] at this
      cases this
    have alrc : al ≠ rc := fun z => by
      have := c7.at hal
      rw [z, nrc] at this
      cases this
    have wlrc : wl ≠ rc := fun z => by
      have := hwl
      rw [z, nrc] at this
      cases this
    have hal8 : H8 al = some (.lst []) := c8.at (c7.at hal)
    have hwl8 : H8 wl = some (.lst []) := c8.at hwl
    have hT8 : H8 T = some (.tup [.ref pa, .int (past : Nat)]) := c8.at (c7.at (c6.at hT))
    have rlal : rl ≠ al := ne4 rlS4 al4
    have rlwl : rl ≠ wl := ne4 rlS4 wl4
    have rlrc : rl ≠ rc := ne4 rlS4 rc4
    have ll4 : ∀ a ∈ LL1, ∃ ys, H4 a = some (.lst ys) := fun a ha => (S4.ll a ha).2.2
    have gl4 : ∀ a ∈ gls1, ∃ ys, H4 a = some (.lst ys) := fun a ha => gv_list S4.given ha
    have h9st : H9 st = some (.dK (stK ⟨rd, cd, gd, rl, most, false, alive + 1, m1.deep⟩)) := c9.at1 h8 strl
    have gA9 : GvAt H9 gd m1.given gls1 := gA8.keep c9 (by simpa using gdrl) fun l' hl' => by simpa using (S8.gl l' hl').2
    have hrc9 := c9.at1 hrc (Ne.symm rlrc)
    have hT9 := c9.tup _ _ hT8
    have hsT9 := c9.tup _ _ hsT8
    have c39 : ImK H3 H9 := (c4.imK.trans c48.imK).trans c9.imK
    have f1c := fits1.cells
    have f1g := fits1.given
    have f1r := fits1.rows
    walk_at "w"
    refine ⟨st, cd, gd, rc, al, wl, .ref sT, sp, w, _, m1.cells, m1.given, gls1, .ref T, .str sp.word, .non, rfl, h9st, sv_cells, sv_given, c9.at1 hcd8 cdrl, by omega, gA9, by omega, fun g hg => by have := f1r g hg; omega, hrc9, c9.at1 hal8 (Ne.symm rlal), c9.at1 hwl8 (Ne.symm rlwl), alwl, fun hm => ?_, fun hm => ?_, S8.ne.2.2, S8.ne.1, S8.ne.2.1, c39 _ _ rdd3, fit, fun H10 gls' c10 hcd10 gA10 gl10 hal10 hwl10 => ?_⟩
    · obtain ⟨ys', e⟩ := gl4 al hm
      rw [al4] at e
      cases e
    · obtain ⟨ys', e⟩ := gl4 wl hm
      rw [wl4] at e
      cases e
    have M10 : ∀ {a : Addr}, a ≠ cd → a ≠ gd → a ≠ al → a ≠ wl → a ∉ [cd, gd, al, wl] := fun h1 h2 h3 h4 => by
      simp only [List.mem_cons, List.not_mem_nil, or_false, not_or]
      exact ⟨h1, h2, h3, h4⟩
    have stal : st ≠ al := ne4 h4' al4
    have stwl : st ≠ wl := ne4 h4' wl4
    have cdrc : cd ≠ rc := ne4 cdS4 rc4
    have gdrc : gd ≠ rc := ne4 gdS4 rc4
    have h10st := c10.keep _ _ h9st (M10 S8.ne.1 S8.ne.2.1 stal stwl)
    have h10rl : H10 rl = some (.lst (xs1 ++ [.ref rc])) := c10.keep _ _ h9 (M10 (Ne.symm cdrl) (Ne.symm gdrl) rlal rlwl)
    have h10rc := c10.keep _ _ hrc9 (M10 (Ne.symm cdrc) (Ne.symm gdrc) (Ne.symm alrc) (Ne.symm wlrc))
    have hT10 := c10.tup _ _ hT9
    have hsT10 := c10.tup _ _ hsT9
    have c410 : ∀ {a : Addr} {ys : List V}, a ∈ LL1 → H4 a = some (.lst ys) → H10 a = some (.lst ys) := fun {a ys} ha e =>
      c10.keep _ _ (c9.at1 (c48.at e) (S4.ll a ha).2.1) (M10 (fun z => by rw [z, cdS4] at e; cases e) (fun z => by rw [z, gdS4] at e; cases e) (fun z => by rw [z, al4] at e; cases e) (fun z => by rw [z, wl4] at e; cases e))
    have t410 : ∀ a us, H4 a = some (.tup us) → H10 a = some (.tup us) := fun a us e => c10.tup _ _ (c9.tup _ _ (c48.at e))
    have f4 : ∀ {a : Addr}, H4 a = none → H0 a = none := fun h => (c3.one c4 S.fresh.1).dom _ h
    have g10 : ∀ l' ∈ gls', H0 l' = none ∧ l' ≠ rl := fun l' hl' => by
      rcases gl10 l' hl' with h | h
      · exact S8.gl l' h
      · exact ⟨c08.dom _ (c9.dom _ h), fun z => by rw [z, h9] at h; cases h⟩
    have c010 : Chg [] H0 H10 := ⟨fun a o e _ => c10.keep _ _ (c9.at1 (c08.at e) fun z => by rw [z] at e; have := S.fresh.2.2.2; rw [show H0 rl = none from this] at e; cases e) (M10 (fun z => by rw [z, show H0 cd = none from S.fresh.2.1] at e; cases e) (fun z => by rw [z, show H0 gd = none from S.fresh.2.2.1] at e; cases e) (fun z => by rw [z, f4 al4] at e; cases e) (fun z => by rw [z, f4 wl4] at e; cases e)), fun a e => c08.dom _ (c9.dom _ (c10.dom _ e)), fun a us e => c10.tup _ _ (c9.tup _ _ (c08.tup _ _ e))⟩
    have ik10 : ImK H H10 := (ik8.trans c9.imK).trans c10.imK
    have iT10 : Im H10 (.ref T) (markD path past) := .tup hT10 (.cons (ik10 _ _ ipa) (.cons (.int _) .nil))
    have lxs2 : (xs1 ++ [V.ref rc]).length = m1.recs.length + 1 := by rw [List.length_append, List.length_singleton, lxs1]
    walk_at "w"
    refine k_lst (by walk_at "sz") fun fl H11 nfl c11 hfl => ?_
    refine w_inL (sqL hfl) rfl rfl ?_
    walk_at "w"
    have h11st := c11.at h10st
    have dat : (at_ : Int) + 1 + ((sp.jump w m1.cells : Nat) : Int) = ((at_ + 1 + sp.jump w m1.cells : Nat) : Int) := by omega
    rw [dat]
    cases hmk : sp.makes w m1.cells with
    | none =>
      rw [if_neg (by rw [word_no hmk]; decide)]
      walk_at "w"
      have S11 : SAt H0 H11 st ⟨rd, cd, gd, rl, most, false, alive + 1, m1.deep⟩ (m1.aft ⟨num, path, rows, w, at_, past, born⟩ sp) ((log ++ L1) ++ [lrec ⟨num, path, rows, w, at_, past, born⟩ sp m1.cells none]) gls' (LL1 ++ [rc, al, wl]) (xs1 ++ [.ref rc]) := by
        refine S4.add h11st (c11.at hcd10) (gA10.same c11) (c11.at h10rl) (fun a ys' ha e => c11.at (c410 ha e)) (fun a us e => c11.at (t410 a us e)) g10 ⟨f4 rc4, f4 al4, f4 wl4⟩ ⟨Ne.symm rlrc, Ne.symm rlal, Ne.symm rlwl⟩ (c11.at h10rc) (iT10.im c11) .non ?_ (c11.at hwl10)
        have : sp.askM w m1.cells = sp.asks w m1.cells := by
          unfold Stp.askM
          rw [hmk]
          rfl
        rw [this] at hal10
        exact c11.at hal10
      rw [List.append_assoc] at S11
      refine ⟨2 * (rows.length - (at_ + 1 + sp.jump w m1.cells)) + 1, by rw [ek]; simp only [Bool.false_eq_true, if_false]; omega, c010.same c11, ik10.trans c11.imK, false, m1.deep, at_ + 1 + sp.jump w m1.cells, past + 1, born, _, _, rfl, rfl, h11st, .inl ⟨rfl, _, L1 ++ [lrec ⟨num, path, rows, w, at_, past, born⟩ sp m1.cells none], gls', _, _, S11, rfl, fits1.aft _ _, ?_, ?_, ?_, fun m' L' h => ?_, fun h => ?_⟩⟩
      · show (m1.recs ++ [_]).length ≤ most
        rw [List.length_append, List.length_singleton]
        omega
      · show m.recs.length ≤ (m1.recs ++ [_]).length
        rw [List.length_append, List.length_singleton]
        omega
      · show (xs1 ++ [V.ref rc]).length = (m1.recs ++ [_]).length
        rw [lxs2, List.length_append, List.length_singleton]
      · rw [List.append_assoc]
        exact k1 m' _ (.step esp hmk h)
      · exact k2 (.step esp hb hmk h)
    | some o =>
      obtain ⟨y, wv⟩ := o
      rw [if_pos (word_yes hmk)]
      obtain ⟨a, hs, ewv⟩ := makes_of hmk
      subst ewv
      have sdata : sp.data = .tuple [.str sp.word, .str y, a.data] := by rcases hs with rfl | rfl <;> rfl
      have sasks : sp.asks w m1.cells = a.asked w m1.cells := by rcases hs with rfl | rfl <;> rfl
      have swrites : sp.writes w m1.cells = [] := by rcases hs with rfl | rfl <;> rfl
      have sputs : sp.puts w m1.cells = m1.cells := by rcases hs with rfl | rfl <;> rfl
      have sgives : sp.gives w m1.cells m1.given = m1.given := by rcases hs with rfl | rfl <;> rfl
      have sjump : sp.jump w m1.cells = 0 := by rcases hs with rfl | rfl <;> rfl
      have sfit : a.deep ≤ 5 := by rcases hs with rfl | rfl <;> exact fit
      have saskM : sp.askM w m1.cells = [] := by
        unfold Stp.askM
        rw [hmk]
        rfl
      have hy : y ∈ p.map (·.1) := makes_in okS hmk
      rw [sputs] at hcd10
      rw [sgives] at gA10
      rw [saskM] at hal10
      rw [swrites] at hwl10
      have rdd11 : Im H11 (.ref sT) (.tuple [.str sp.word, .str y, a.data]) := by
        rw [← sdata]
        exact ((c39.trans c10.imK).trans c11.imK) _ _ rdd3
      obtain ⟨sT', us', eT, hsT11, ius11⟩ := im_tup rdd11
      cases eT
      obtain ⟨v0, v1, v2, rfl, j0, j1, j2⟩ := imA3 ius11
      have t0 := im_str j0
      have t1 := im_str j1
      subst t0 t1
      obtain ⟨pa', ps, epa, hpa11, ips⟩ := im_tup ((ik10.trans c11.imK) _ _ ipa)
      cases epa
      have lps : ps.length = path.length := by rw [ips.length, List.length_map]
      walk_at "w"
      refine k_tup (by walk_at "sz") fun B H12 nB c12 hB => ?_
      refine w_catA (c12.at hpa11) hB (by rw [lps]; simp only [List.length_singleton]; omega) fun pa2 H13 c13 hpa2 => ?_
      have c1113 : Chg [] H11 H13 := c12.same c13
      have h13rc := c1113.at (c11.at h10rc)
      walk_at "w"
      refine w_setL (k := 2) h13rc (by rfl) fun H14 c14 h14 => ?_
      have c1014 : Chg [rc] H10 H14 := (c11.same c1113).pre c14
      have h14st := c1014.at1 h10st (ne4 h4' rc4)
      have hsT14 := c14.tup _ _ (c1113.at hsT11)
      have hal14 := c1014.at1 hal10 alrc
      have hcd14 := c1014.at1 hcd10 cdrc
      have j2' := (j2.im c1113).im c14
      walk_at "w"
      refine ⟨v2, a, w, cd, al, m1.cells, [], rfl, j2', by omega, hcd14, hal14, by have := pow_few sfit; simp; omega, fun H15 c15 h15 => ?_⟩
      rw [List.nil_append] at h15
      have h14' : H14 rc = some (.lst [.ref T, .str sp.word, .ref pa2, .ref al, .ref wl]) := h14
      have h15rc := c15.at1 h14' (Ne.symm alrc)
      have h15st := c15.at1 h14st stal
      have k1015 : ∀ {a : Addr} {o : HO}, H10 a = some o → a ≠ rc → a ≠ al → H15 a = some o := fun e n1 n2 => c15.at1 (c1014.at1 e n1) n2
      have t1015 : ∀ a us, H10 a = some (.tup us) → H15 a = some (.tup us) := fun a us e => c15.tup _ _ (c1014.tup _ _ e)
      have hgls : ∀ l' ∈ gls', l' ≠ rc ∧ l' ≠ al := fun l' hl' => by
        rcases gl10 l' hl' with h | h
        · obtain ⟨ys', e⟩ := gl4 l' h
          exact ⟨ne4 e rc4, ne4 e al4⟩
        · refine ⟨fun z => ?_, fun z => ?_⟩
          · rw [z, hrc9] at h
            cases h
          · rw [z, c9.at1 hal8 (Ne.symm rlal)] at h
            cases h
      have c015 : Chg [] H0 H15 := (c010.one c1014 (f4 rc4)).one c15 (f4 al4)
      have ik15 : ImK H H15 := (ik10.trans c1014.imK).trans c15.imK
      have ipath : Im H15 (.ref pa2) (pathD (path ++ [born])) := by
        refine .tup (c15.tup _ _ (c14.tup _ _ hpa2)) ?_
        rw [List.map_append]
        exact (((ips.im c1113).im c14).im c15).snoc (.int _)
      have S15 : SAt H0 H15 st ⟨rd, cd, gd, rl, most, false, alive + 1, m1.deep⟩ (m1.sub ⟨num, path, rows, w, at_, past, born⟩ sp alive) ((log ++ L1) ++ [lrec ⟨num, path, rows, w, at_, past, born⟩ sp m1.cells (some (path ++ [born]))]) gls' (LL1 ++ [rc, al, wl]) (xs1 ++ [.ref rc]) := by
        refine S4.add h15st (c15.at1 hcd14 (ne4 cdS4 al4)) ((gA10.keep c1014 (by simpa using gdrc) fun l' hl' => by simpa using (hgls l' hl').1).keep c15 (by simpa using ne4 gdS4 al4) fun l' hl' => by simpa using (hgls l' hl').2) (k1015 h10rl rlrc rlal) (fun a ys' ha e => k1015 (c410 ha e) (ne4 e rc4) (ne4 e al4)) (fun a us e => t1015 _ _ (t410 a us e)) g10 ⟨f4 rc4, f4 al4, f4 wl4⟩ ⟨Ne.symm rlrc, Ne.symm rlal, Ne.symm rlwl⟩ h15rc ((iT10.im c1014).im c15) ipath ?_ ?_
        · show H15 al = some (.lst ((sp.asks w m1.cells).map V.int))
          rw [sasks]
          exact h15
        · show H15 wl = some (.lst ((sp.writes w m1.cells).map V.int))
          rw [swrites]
          exact k1015 hwl10 wlrc (Ne.symm alwl)
      walk_at "w"
      have lsub : (m1.sub ⟨num, path, rows, w, at_, past, born⟩ sp alive).recs.length = m1.recs.length + 1 := by
        show (m1.recs ++ [_]).length = _
        rw [List.length_append, List.length_singleton]
      refine ⟨H0, p, ls, st, pa2, ⟨rd, cd, gd, rl, most, false, alive + 1, m1.deep⟩, m1.sub ⟨num, path, rows, w, at_, past, born⟩ sp alive, _, gls', _, _, y, a.worth w m1.cells, path ++ [born], alive + 1, m1.many, rfl, D, hy, c015, ipath, S15, rfl, rfl, rfl, fits1.sub _ _ _, by rw [lsub]; show _ ≤ most; omega, most5, by rw [lsub, lxs2], by rw [lsub, List.length_append, List.length_singleton]; omega, by rw [lsub]; show most + 1 ≤ _; have : most + 1 ≤ n + 1 + m.recs.length := enough; omega, fun H16 m' L2 gls2 LL2 xs2 c16 ik16 dl lm' S16 lxs16 => ?_, fun H16 dp16 c16 ik16 lgk h16 => ?_⟩
      · have S16' : SAt H0 H16 st ⟨rd, cd, gd, rl, most, false, alive + 1, m'.deep⟩ m' (log ++ (L1 ++ (lrec ⟨num, path, rows, w, at_, past, born⟩ sp m1.cells (some (path ++ [born])) :: L2))) gls2 LL2 xs2 := by
          have e : ∀ r : LRec, ((log ++ L1) ++ [r]) ++ L2 = log ++ (L1 ++ (r :: L2)) := fun r => by simp [List.append_assoc]
          rw [← e]
          exact S16
        refine ⟨2 * (rows.length - (at_ + 1 + sp.jump w m1.cells)) + 1, by rw [ek]; simp only [Bool.false_eq_true, if_false]; omega, c16, ik15.trans ik16, false, m'.deep, at_ + 1 + sp.jump w m1.cells, past + 1, born + 1, _, _, rfl, rfl, S16'.dict, .inl ⟨rfl, m', _, gls2, LL2, xs2, S16', rfl, dl.fits (fits1.sub _ _ _), lm', by rw [dl.len.1, lsub]; omega, lxs16, fun m'' L' h => ?_, fun h => ?_⟩⟩
        · rw [List.append_assoc]
          exact k1 m'' _ (.sub esp hmk dl h)
        · exact k2 (.past esp hb hmk dl.done lm' h)
      · exact ⟨2 * (rows.length - (at_ + 1 + sp.jump w m1.cells)), by rw [ek]; simp only [Bool.false_eq_true, if_false]; omega, c16, ik15.trans ik16, true, dp16, at_ + 1 + sp.jump w m1.cells, past + 1, born + 1, _, _, rfl, rfl, h16, .inr ⟨rfl, k2 (.sub esp hb hmk lgk)⟩⟩
end Fg
/-! list.extend by a list or a tuple; isinstance(x, (list, tuple)) -/
namespace Fg
open PySem PySem.Spec PyProof.Rows L2
open AutoSeq1 (wpAny_loadPart')
open MeetsSeq MeetsSeq2 MeetsSeq3 SeqRoads2
theorem ext_tup (l : Addr) (items : Array Value) (n : Nat) (b : Addr) (items2 : Array Value) (n2 : Nat) (dd : Option Addr) (sl : Array (Option Value)) (hs0 : ¬(!items.isEmpty && Builtin.List.listTooLong (items.size + items2.size)) = true) (hs1 : items.size ≤ sizeLine) (hs2 : items.size + items2.size ≤ sizeLine + 1) :
    Meets (Builtin.«list.extend» ⟨[.ref l, .ref b], []⟩) (fun _ R s => s.heap.get? l = some { cls := .type "list", dict := none, data := .seq items n, slots := #[] } ∧ s.heap.get? b = some { cls := .type "tuple", dict := dd, data := .seq items2 n2, slots := sl } ∧ R (.ok (.ret Value.none)) { s with heap := s.heap.update l (Obj.mapSeq fun x => x ++ items2), toks := s.toks }) :=
  .of_wp fun prog w A R s h => by
    obtain ⟨hp, g, d, tk, os⟩ := s; obtain ⟨hl, hb, h⟩ := h; have f1 := AutoSeq1.idx_int; have f2 := AutoSeq1.sub_tuple_tuple; have f3 := AutoSeq1.sub_list_list; have f4 := AutoSeq1.sub_tuple_list; have f5 := AutoSeq1.sub_list_tuple;
    have hz' : (items ++ items2).size ≤ sizeLine + 1 := by rw [Array.size_append]; exact hs2
    wp_walk using (wpAny_updateSeq hl rfl (hz := hs1) (_hz' := hz')), wpAny_loadPart' hl, wpAny_loadPart' hb; exact ⟨_, rfl, h⟩
def rExtendA : V → List V → Hp → VK → Prop := fun x vs H Q => ∃ l b xs zs, x = .ref l ∧ vs = [.ref b] ∧ H l = some (.lst xs) ∧ (H b = some (.lst zs) ∨ H b = some (.tup zs)) ∧ xs.length + zs.length ≤ 100000 ∧ Q .non (upd H l (.lst (xs ++ zs)))
section
variable {X : Cx}
theorem mt_extendA : MtM X "list.extend" rExtendA := by
  intro pins s σ H x vs v us Q I rx rv h
  obtain ⟨l, b, xs, zs, rfl, rfl, hH, hB, hz0, q⟩ := h
  have hz : xs.length + zs.length ≤ sizeLine := Nat.le_trans hz0 (by decide)
  rcases hB with hB | hB
  · exact mt_extend pins s σ H (.ref l) [.ref b] v us Q I rx rv ⟨l, b, xs, zs, rfl, rfl, hH, hB, hz, q⟩
  cases rx
  obtain ⟨u, rfl, ru⟩ := rv.one
  cases ru
  obtain ⟨z, its, n, r, hl, e⟩ := I.lstM hH
  obtain ⟨_, its2, r2, o, ho, hc, n2, hd⟩ := (show ObjOk X.prog X.w H s.heap b (.tup zs) from I.hok b _ hB)
  obtain ⟨oc, od, dt, sl⟩ := o
  simp only at hc hd
  subst hc hd
  have hl2 := r2.length
  have hsz : its.toArray.size + its2.toArray.size ≤ sizeLine := by rw [List.size_toArray, List.size_toArray]; omega
  have hlong : ¬ (!its.toArray.isEmpty && Builtin.List.listTooLong (its.toArray.size + its2.toArray.size)) = true := by
    rw [notLongL hsz, Bool.and_false]
    exact Bool.false_ne_true
  refine call_meets F.slot_list_extend ⟨_, e, rfl⟩ F.entry_list_extend (F.args_list_extend_2 _ _)
    (ext_tup l its.toArray n b its2.toArray n2 od sl hlong (by rw [List.size_toArray]; omega) (by omega)) ⟨e, ho, ?_⟩
  refine ⟨.non, _, I.lset (its' := its ++ its2) hH e (by simp) (r.append r2) ?_, rfl, q⟩
  rw [List.length_append]
  omega
end
section
variable {K : PySem.W.Frag} {S : Addr → Prop} {H : Hp} {v : V} {d : PyData} {Q : VK}
theorem w_extendA {l b : Addr} {xs zs : List V} (h1 : H l = some (.lst xs)) (h2 : H b = some (.lst zs) ∨ H b = some (.tup zs)) (hz : xs.length + zs.length ≤ 100000) (q : ∀ H', Chg [l] H H' → H' l = some (.lst (xs ++ zs)) → Q .non H') : rExtendA (.ref l) [.ref b] H Q :=
  ⟨l, b, xs, zs, rfl, rfl, h1, h2, hz, q _ (.mut h1 fun _ z => nomatch z) upd_same⟩
def dSeq : PyData → Bool
  | .list _ => true
  | .tuple _ => true
  | _ => false
theorem w_isLT {tp : Addr} (r : R S H v d) (ht : H tp = some (.tup [.ty "list", .ty "tuple"])) (q : Q (.bl (dSeq d)) H) : rIsiT K [v, .ref tp] H Q := by
  have t := r.tyx (K := K)
  refine ⟨v, tp, _, _, [.type "list", .type "tuple"], dSeq d, rfl, ht, .cons (.ty "list") (.cons (.ty "tuple") .nil), t, ?_, q⟩
  have two : ∀ {a : String} {b1 b2 : Bool}, kitB a "list" = some b1 → kitB a "tuple" = some b2 → PySem.W.kitAny K (.type a) [.type "list", .type "tuple"] = some (b1 || b2) := fun {a b1 b2} h1 h2 =>
    kitAny_cons (kit_ty h1) (fun e => by
      subst e
      exact kitAny_cons (kit_ty h2) (fun e2 => by subst e2; rfl) (fun e2 => by subst e2; rfl)) (fun e => by subst e; rfl)
  cases d with
  | none => exact two (a := "NoneType") (b1 := false) (b2 := false) (by decide +kernel) (by decide +kernel)
  | bool b => exact two (a := "bool") (b1 := false) (b2 := false) (by decide +kernel) (by decide +kernel)
  | int i => exact two (a := "int") (b1 := false) (b2 := false) (by decide +kernel) (by decide +kernel)
  | str x => exact two (a := "str") (b1 := false) (b2 := false) (by decide +kernel) (by decide +kernel)
  | list ds => exact two (a := "list") (b1 := true) (b2 := false) (by decide +kernel) (by decide +kernel)
  | tuple ds => exact two (a := "tuple") (b1 := false) (b2 := true) (by decide +kernel) (by decide +kernel)
  | dict ds => exact two (a := "dict") (b1 := false) (b2 := false) (by decide +kernel) (by decide +kernel)
end
end Fg
/-! sorted(rows): rows are tuples of a text and a thing, the texts unlike -/
namespace Fg
open PySem PySem.Spec PyProof.Rows L2
def sLt (x y : Str) : Bool := decide (x.cps.toList < y.cps.toList)
theorem sLt_swo {α : Type} (k : α → Str) : SrtO.Swo fun v u => sLt (k v) (k u) := by
  refine ⟨fun x y h => ?_, fun x y z h1 h2 => ?_⟩
  · have a := of_decide_eq_true h
    exact decide_eq_false (fun b => List.lt_irrefl _ (List.lt_trans a b))
  · have a := of_decide_eq_false h1
    have b := of_decide_eq_false h2
    exact decide_eq_false (List.not_lt.mpr (List.le_trans (List.not_lt.mp a) (List.not_lt.mp b)))
/-- a tuple of a text and one thing more -/
def IsRow (h : Heap) (v : Value) (x : Str) : Prop := ∃ (a : Addr) (o : Obj) (t : Tok) (u : Value) (n : Nat), v = .ref a ∧ h.get? a = some o ∧ o.cls = .type "tuple" ∧ o.data = .seq #[.str x t, u] n
theorem IsRow.keeps {h h' : Heap} {v : Value} {x : Str} (r : IsRow h v x) (k : ∀ b o, h.get? b = some o → o.cls = .type "tuple" → h'.get? b = some o) : IsRow h' v x := by
  obtain ⟨a, o, t, u, n, e, ho, hc, hd⟩ := r
  exact ⟨a, o, t, u, n, e, k a o ho hc, hc, hd⟩
theorem rows_firsts {h : Heap} {k : Value → Str} : ∀ {vs : List Value}, (∀ v ∈ vs, IsRow h v (k v)) → ∃ fs, PySem.W.KatTups h vs fs ∧ fs.length = vs.length ∧ ∀ f ∈ fs, ∃ x t, f = Value.str x t
  | [], _ => ⟨[], PySem.W.KatTups.nil, rfl, fun f hf => by simp at hf⟩
  | v :: vs, hv => by
    obtain ⟨fs, h1, h2, h3⟩ := rows_firsts fun u hu => hv u (List.mem_cons_of_mem _ hu)
    obtain ⟨a, o, t, u, n, rfl, ho, hc, hd⟩ := hv v List.mem_cons_self
    refine ⟨_ :: fs, PySem.W.KatTups.cons ho hc hd rfl h1, by simp [h2], fun f hf => ?_⟩
    rcases List.mem_cons.mp hf with rfl | hf
    · exact ⟨_, _, rfl⟩
    · exact h3 f hf
section
variable {prog : Program} {w : World} {A : Around} {s : Shared}
theorem row_cmp {vs : List Value} {k : Value → Str} (hp : ∀ v ∈ vs, IsRow s.heap v (k v)) (inj : ∀ v ∈ vs, ∀ u ∈ vs, k v = k u → v = u) : SrtO.Cmp prog w A s (tuples' true) (fun p => p.1 ∈ vs) (SrtO.lt2 fun v u => sLt (k v) (k u)) := by
  intro p q hm hm'
  show wpAny (model prog w) A (keyLt' (tuples' true) p.1 q.1) (fun r s' => s' = s ∧ r = sLt (k p.1) (k q.1)) (fun _ _ => False) s
  by_cases e : k p.1 = k q.1
  · have e1 := inj _ hm _ hm' e
    rw [e1]
    obtain ⟨a, o, t, u, n, e2, ho, hc, hd⟩ := hp _ hm'
    have irr : sLt (k q.1) (k q.1) = false := decide_eq_false (List.lt_irrefl _)
    rw [irr, e2]
    refine PySem.W.kat_lt ho hd ho hd ?_
    show PySem.W.KatLex prog w A true (decide (2 < 2)) _ [(.str (k q.1) t, .str (k q.1) t), (u, u)] 0 s
    refine PySem.W.kat_cons (SeqAt.EqAt.same _ prog w _ _ ?_)
    refine PySem.W.kat_yes (PySem.W.kat_cons (SeqAt.EqAt.same _ prog w _ _ ?_))
    exact PySem.W.kat_yes (PySem.W.kat_nil ⟨rfl, rfl⟩)
  · obtain ⟨a, o, t, u, n, e1, ho, hc, hd⟩ := hp _ hm
    obtain ⟨a', o', t', u', n', e2, ho', hc', hd'⟩ := hp _ hm'
    generalize k p.1 = x at *
    generalize k q.1 = y at *
    rw [e1, e2]
    refine PySem.W.kat_lt ho hd ho' hd' ?_
    show PySem.W.KatLex prog w A true (decide (2 < 2)) _ [(.str x t, .str y t'), (u, u')] 0 s
    refine PySem.W.kat_cons (wpAny_eqBool_str ?_)
    rw [decide_eq_false e]
    exact PySem.W.kat_no (oneLt_str ⟨rfl, rfl⟩)
theorem rows_sortable {a : Addr} {vs : List Value} {k : Value → Str} (h0 : 0 < vs.length) (hp : ∀ v ∈ vs, IsRow s.heap v (k v)) (inj : ∀ v ∈ vs, ∀ u ∈ vs, k v = k u → v = u) (ha : ∀ o, s.heap.get? a = some o → o.cls ≠ .type "tuple") : SrtO.SortableO prog w A s a vs fun v u => sLt (k v) (k u) := by
  intro h' keep
  have hp' : ∀ v ∈ vs, IsRow h' v (k v) := fun v hm => (hp v hm).keeps fun b o e c => keep b o (fun z => by subst z; exact ha o e c) e
  obtain ⟨fs, h1, h2, h3⟩ := rows_firsts hp'
  refine ⟨tuples' true, fun Q E hq => ?_, row_cmp (s := { s with heap := h' }) hp' inj⟩
  refine PySem.W.kat_kind (T := .type "str") h1 (by omega) (fun f hm => ?_) (by rfl) ?_
  · obtain ⟨x, t, rfl⟩ := h3 f hm
    exact PySem.W.Looks.now
  · have e : (Value.type "str" != Value.type "tuple") = true := by first | decide +kernel | rfl | decide
    rw [e]
    exact hq
end
/-- sorted(rows) -/
def rSortedR (K : PySem.W.Frag) : List V → Hp → VK → Prop := fun vs H Q => ∃ (a : Addr) (xs : List V) (k : V → Str), vs = [V.ref a] ∧ SqL K H a xs ∧ (∀ x ∈ xs, ∃ t y, x = V.ref t ∧ H t = some (.tup [.str (k x), y])) ∧ (∀ x ∈ xs, ∀ y ∈ xs, k x = k y → x = y) ∧
  ∀ ys p, ys.Perm xs → (ys.Pairwise fun x y => sLt (k y) (k x) = false) → H p = none → Q (.ref p) (upd H p (.lst ys))
section
variable {X : Cx}
theorem p_sortedR : CallR X (.builtin "sorted") (rSortedR X.K) := by
  intro pins s σ H vs us Q I r h
  obtain ⟨a, xs, k, rfl, hs, hx, inj, q⟩ := h
  obtain ⟨its, rv, hl, hz⟩ := I.list hs
  obtain ⟨u, rfl, ru⟩ := vals1 r
  obtain rfl : u = Value.ref a := ru
  obtain ⟨e1, e2⟩ := refs_back rv fun x m => by
    obtain ⟨t, _, e, _⟩ := hx x m
    exact ⟨t, e⟩
  have hp : ∀ v ∈ its, IsRow s.heap v (k (backV v)) := fun v hv => by
    obtain ⟨t, rfl⟩ := e2 v hv
    have hm : V.ref t ∈ xs := by rw [e1]; exact List.mem_map.mpr ⟨_, hv, rfl⟩
    obtain ⟨t', y, e, ht⟩ := hx _ hm
    cases e
    obtain ⟨_, its2, r2, o, ho, hc, n, hd⟩ := I.hok _ _ ht
    obtain ⟨u1, u2, rfl, ri, rj⟩ := vals2 r2
    obtain ⟨t1, rfl⟩ := ri
    exact ⟨t, o, t1, u2, n, rfl, ho, hc, hd⟩
  have hinj : ∀ v ∈ its, ∀ u ∈ its, k (backV v) = k (backV u) → v = u := fun v hv u hu e => by
    have m1 : backV v ∈ xs := by rw [e1]; exact List.mem_map.mpr ⟨_, hv, rfl⟩
    have m2 : backV u ∈ xs := by rw [e1]; exact List.mem_map.mpr ⟨_, hu, rfl⟩
    have z := inj _ m1 _ m2 e
    obtain ⟨t, rfl⟩ := e2 v hv
    obtain ⟨t', rfl⟩ := e2 u hu
    cases z
    rfl
  refine SrtO.sorted_ord (sLt_swo fun u => k (backV u)) hl.isList (by rw [← rv.length]; exact hz) (fun h2 h₁ a' ha' kk => ?_) fun out h1 h2 => ?_
  · refine rows_sortable (s := { s with heap := h₁ }) (by omega) (fun v hm => (hp v hm).keeps fun b o e _ => (kk b o e).2) hinj fun o e => ?_
    have e' : some o = some (seqObj "list" its.toArray 0) := e.symm.trans ha'
    cases e'
    intro c
    exact absurd (Value.type.inj c) (by decide)
  · have h3 : ∀ u ∈ out, ∃ a, u = Value.ref a := fun u hu => e2 u (h2.perm.mem_iff.mp hu)
    obtain ⟨n, hn⟩ := PyProof.Rows.sortedAll_at s.heap its out.toArray
    have hpm : (out.map backV).Perm xs := by
      rw [e1]
      exact h2.perm.map backV
    refine ⟨.ref _, upd H (s.heap.objs.size + 1) (.lst (out.map backV)), I.laid (t' := s.toks) (fun _ _ => PyProof.Rows.sortedAll_old) (Nat.le_succ _) ⟨?_, out, n, vals_back h3, hn⟩, rfl, q _ _ hpm (List.pairwise_map.mpr (h1.imp fun {x y} z => z)) (I.hok.fresh (Nat.le_succ _))⟩
    rw [hpm.length_eq]
    exact hz
end
end Fg
/-! sorted(program) -/
namespace Fg
open PySem PySem.Spec PyProof.Rows L2
/-- the name of a row -/
def kOf (H : Hp) : V → Str
  | .ref t => (match H t with
    | some (.tup (.str x :: _)) => x
    | _ => "")
  | _ => ""
theorem row_kOf {S : Addr → Prop} {H : Hp} {v : V} {r : Str × List Stp} (h : R S H v (rowD r)) : (∃ t y, v = .ref t ∧ H t = some (.tup [.str r.1, y])) ∧ kOf H v = r.1 := by
  unfold rowD at h
  cases h with
  | @tup a xs _ e ra =>
    cases ra with
    | cons r1 ra =>
      cases r1
      cases ra with
      | cons r2 ra =>
        cases ra
        refine ⟨⟨a, _, rfl, e⟩, ?_⟩
        simp only [kOf, e]
theorem ra_perm {S : Addr → Prop} {H : Hp} {xs ys : List V} (h : ys.Perm xs) : ∀ {rs : Prg}, RA S H xs (rs.map rowD) → ∃ p : Prg, p.Perm rs ∧ RA S H ys (p.map rowD) := by
  induction h with
  | nil => exact fun {rs} h => ⟨rs, .refl _, h⟩
  | cons x h ih =>
    intro rs hr
    cases rs with
    | nil => cases hr
    | cons r rs =>
      cases hr with
      | cons a b =>
        obtain ⟨p, h1, h2⟩ := ih b
        exact ⟨r :: p, h1.cons r, .cons a h2⟩
  | swap x y l =>
    intro rs hr
    cases rs with
    | nil => cases hr
    | cons r rs =>
      cases hr with
      | cons a b =>
        cases rs with
        | nil => cases b
        | cons r2 rs =>
          cases b with
          | cons b c => exact ⟨r2 :: r :: rs, .swap _ _ _, .cons b (.cons a c)⟩
  | trans h1 h2 ih1 ih2 =>
    intro rs hr
    obtain ⟨p, a, b⟩ := ih2 hr
    obtain ⟨p', a', b'⟩ := ih1 b
    exact ⟨p', a'.trans a, b'⟩
theorem ra_names {S : Addr → Prop} {H : Hp} : ∀ {ys : List V} {p : Prg}, RA S H ys (p.map rowD) → ys.map (kOf H) = p.map (·.1)
  | [], p, h => by
    cases p with
    | nil => rfl
    | cons r p => cases h
  | y :: ys, p, h => by
    cases p with
    | nil => cases h
    | cons r p =>
      cases h with
      | cons a b => rw [List.map_cons, List.map_cons, (row_kOf a).2, ra_names b]
theorem cps_inj {x y : Str} (h : x.cps.toList = y.cps.toList) : x = y := by
  cases x with
  | mk a =>
    cases y with
    | mk b => exact congrArg Str.mk (Array.toList_inj.mp h)
theorem rising_sorted : ∀ {ns : List Str}, ns.Nodup → (ns.Pairwise fun x y => sLt y x = false) → rising ns = true
  | [], _, _ => rfl
  | [x], _, _ => rfl
  | x :: y :: r, nd, pw => by
    obtain ⟨n1, n2⟩ := List.nodup_cons.mp nd
    obtain ⟨p1, p2⟩ := List.pairwise_cons.mp pw
    have h := List.not_lt.mp (of_decide_eq_false (p1 y (by simp)))
    show (ltS x y && rising (y :: r)) = true
    rw [rising_sorted n2 p2, Bool.and_true]
    refine decide_eq_true ?_
    refine Classical.byContradiction fun hn => ?_
    have e := List.le_antisymm h (List.not_lt.mp hn)
    exact n1 (by rw [cps_inj e]; simp)
theorem w_sortedP {K : PySem.W.Frag} {S : Addr → Prop} {H : Hp} {Q : VK} {a : Addr} {xs : List V} {rs : Prg} (h : H a = some (.lst xs)) (ra : RA S H xs (rs.map rowD)) (nd : (rs.map (·.1)).Nodup)
    (q : ∀ (b : Addr) (ys : List V) (H2 : Hp) (p : Prg), H b = none → Chg [] H H2 → H2 b = some (.lst ys) → RA S H2 ys (p.map rowD) → p.Perm rs → rising (p.map (·.1)) = true → Q (.ref b) H2) : rSortedR K [.ref a] H Q := by
  refine ⟨a, xs, kOf H, rfl, sqL h, fun x hx => ?_, fun x hx y hy e => ?_, fun ys b hp pw nb => ?_⟩
  · obtain ⟨i, hi⟩ := List.getElem?_of_mem hx
    obtain ⟨d, ed, rd⟩ := ra.get hi
    rw [List.getElem?_map] at ed
    cases hr : rs[i]? with
    | none => rw [hr] at ed; cases ed
    | some r =>
      rw [hr] at ed
      cases ed
      obtain ⟨⟨t, y, e1, e2⟩, e3⟩ := row_kOf rd
      exact ⟨t, y, e1, by rw [e3]; exact e2⟩
  · have en := ra_names ra
    have nd' : (xs.map (kOf H)).Nodup := by rw [en]; exact nd
    obtain ⟨i, hi⟩ := List.getElem?_of_mem hx
    obtain ⟨j, hj⟩ := List.getElem?_of_mem hy
    have l1 : i < xs.length := (List.getElem?_eq_some_iff.mp hi).1
    have e1 : (xs.map (kOf H))[i]? = some (kOf H x) := by rw [List.getElem?_map, hi]; rfl
    have e2 : (xs.map (kOf H))[j]? = some (kOf H y) := by rw [List.getElem?_map, hj]; rfl
    have ij : i = j := (List.getElem?_inj (by rw [List.length_map]; exact l1) nd').mp (by rw [e1, e2, e])
    rw [ij, hj] at hi
    exact (Option.some.inj hi).symm
  · obtain ⟨p, p1, p2⟩ := ra_perm hp ra
    have en := ra_names p2
    have c : Chg [] H (upd H b (.lst ys)) := .new nb
    refine q b ys _ p nb c upd_same (p2.same c) p1 (rising_sorted ?_ ?_)
    · exact (p1.map _).nodup_iff.mpr nd
    · rw [← en]
      exact List.pairwise_map.mpr pw
/-- the rows of a program laid anew -/
theorem rows_of {p : Prg} (nd : (p.map (·.1)).Nodup) {r : Str × List Stp} (h : r ∈ p) : p.rows r.1 = r.2 := by
  unfold Prg.rows
  induction p with
  | nil => cases h
  | cons s p ih =>
    rw [List.map_cons] at nd
    obtain ⟨n1, n2⟩ := List.nodup_cons.mp nd
    rcases List.mem_cons.mp h with rfl | h
    · rw [List.find?_cons_of_pos (by simp)]
      rfl
    · rw [List.find?_cons_of_neg]
      · exact ih n2 h
      · intro z
        have z' : s.1 = r.1 := of_decide_eq_true z
        exact n1 (by rw [z']; exact List.mem_map.mpr ⟨r, h, rfl⟩)
theorem rows_none {p : Prg} {x : Str} (h : x ∉ p.map (·.1)) : p.rows x = [] := by
  unfold Prg.rows
  rw [List.find?_eq_none.mpr]
  · rfl
  · intro r hr z
    exact h (List.mem_map.mpr ⟨r, hr, of_decide_eq_true z⟩)
theorem rows_mem {p : Prg} {x : Str} {s : Stp} (h : s ∈ p.rows x) : ∃ r ∈ p, r.1 = x ∧ s ∈ r.2 := by
  unfold Prg.rows at h
  cases hf : p.find? fun r => decide (r.1 = x) with
  | none => rw [hf] at h; cases h
  | some r =>
    rw [hf] at h
    exact ⟨r, List.mem_of_find?_eq_some hf, (by have := List.find?_some hf; exact of_decide_eq_true this), h⟩
end Fg
--LAW k10
namespace Fg
open PySem PySem.Spec PyProof.Rows L2
/-! ### the walk's small steps -/
local macro_rules | `(tactic| walk_at "hp") => `(tactic| first
  | assumption
  | exact upd_same
  | (refine Chg.at (by assumption) ?_; walk_at "hp")
  | (refine Chg.at1 (by assumption) ?_ (by walk_at "ne"); walk_at "hp"))
local macro_rules | `(tactic| walk_at "ne") => `(tactic| first | assumption | (apply Ne.symm; assumption))
local macro_rules | `(tactic| walk_at "sq") => `(tactic| first | assumption | exact sqL (by walk_at "hp") | (refine Chg.seq (by assumption) ?_; walk_at "sq"))
local macro_rules | `(tactic| walk_at "sz") => `(tactic| first | assumption | exact Nat.zero_le _ | (simp only [List.length_cons, List.length_nil]; decide) | exact Nat.le_trans (by first | omega | (simp; done) | (simp; omega)) (show 100000 ≤ sizeLine by decide) | exact Nat.lt_of_lt_of_le (by first | omega | (simp; done) | (simp; omega)) (show 100000 ≤ sizeLine by decide))
local macro_rules | `(tactic| walk_at "ix") => `(tactic| first | exact at0 | exact at1 | exact at2 | exact at3 | assumption | exact rfl | walk_at "ix2")
local macro_rules | `(tactic| walk_at "ix2") => `(tactic| fail)
local macro_rules | `(tactic| walk_at "num") => `(tactic| first | assumption | omega | decide | walk_at "num2")
local macro_rules | `(tactic| walk_at "num2") => `(tactic| fail)
local macro_rules | `(tactic| walk_at "im") => `(tactic| first | assumption | exact R.non (S := fun _ => False) | exact R.bl (S := fun _ => False) _ | exact R.int (S := fun _ => False) _ | exact R.str (S := fun _ => False) _ | (refine R.im (by assumption) ?_; walk_at "im"))
local macro_rules | `(tactic| walk_at "r") => `(tactic| first | assumption | exact R.non (S := fun _ => False) | exact R.bl (S := fun _ => False) _ | exact R.int (S := fun _ => False) _ | exact R.str (S := fun _ => False) _ | (refine R.same (by assumption) ?_; walk_at "r") | exact R.any (by walk_at "im"))
local macro_rules | `(tactic| walk_at "chg") => `(tactic| first
  | exact Chg.refl
  | assumption
  | (refine Chg.same ?_ (by assumption); walk_at "chg")
  | (refine Chg.both ?_ (by assumption); walk_at "chg")
  | (refine Chg.pre (by assumption) ?_; walk_at "chg"))
local macro_rules | `(tactic| walk_at "w1") => `(tactic| first
  | with_reducible apply w_seq
  | with_reducible apply w_asg
  | ((with_reducible apply w_var); (focus (exact rfl)))
  | with_reducible apply w_c
  | with_reducible apply w_op
  | with_reducible apply w_cons
  | with_reducible apply w_nil
  | with_reducible apply w_gName
  | with_reducible apply w_if
  | with_reducible apply w_test
  | with_reducible apply w_B
  | with_reducible apply w_isbl
  | with_reducible apply w_retN
  | with_reducible apply w_next
  | with_reducible apply w_drop
  | with_reducible apply w_cb
  | with_reducible apply w_call
  | with_reducible apply w_callN
  | with_reducible apply w_bm
  | with_reducible apply w_bm0
  | ((with_reducible apply w_tyL); (focus (walk_at "hp"; done)))
  | with_reducible apply w_dput
  | with_reducible apply w_m1
  | with_reducible apply w_isstr
  | with_reducible apply w_and
  | with_reducible apply w_or
  | with_reducible apply w_not
  | with_reducible apply w_andV
  | with_reducible apply w_orV
  | with_reducible apply w_notV
  | with_reducible apply w_ifE
  | with_reducible apply w_chain
  | with_reducible apply w_un
  | with_reducible apply w_neg
  | with_reducible apply w_add
  | with_reducible apply w_sub
  | ((with_reducible apply w_mod); (focus (walk_at "num"; done)))
  | ((with_reducible apply w_mul); (focus (walk_at "num"; done)))
  | ((with_reducible apply w_fdiv); (focus (walk_at "num"; done)))
  | ((with_reducible apply w_pow); (focus (walk_at "num"; done)))
  | with_reducible apply w_lt
  | with_reducible apply w_le
  | with_reducible apply w_gt
  | with_reducible apply w_ge
  | with_reducible apply w_ltS
  | with_reducible apply w_geS
  | with_reducible apply w_inC
  | with_reducible apply w_notInC
  | with_reducible apply w_isN
  | with_reducible apply w_notN
  | with_reducible apply w_isB
  | with_reducible apply w_notB
  | ((with_reducible apply w_addS); (focus (walk_at "sz"; done)))
  | ((with_reducible apply w_ixL); (focus (walk_at "sq"; done)); (focus (walk_at "ix"; done)))
  | ((with_reducible apply w_ixT); (focus (walk_at "hp"; done)); (focus (walk_at "ix"; done)))
  | ((with_reducible apply w_ixS); (focus (walk_at "sz"; done)); (focus (walk_at "ix"; done)))
  | with_reducible apply w_gSub
  | ((with_reducible apply w_gTup); (focus (walk_at "hp"; done)); (focus (exact rfl)))
  | with_reducible apply w_gCons
  | with_reducible apply w_gNil
  | ((with_reducible apply w_aug); (focus (exact rfl)))
  | with_reducible apply w_ipI
  | ((with_reducible apply w_eq); (focus (exact rfl)))
  | ((with_reducible apply w_ne); (focus (exact rfl)))
  | with_reducible apply w_max
  | with_reducible apply w_min
  | with_reducible apply w_abs
  | with_reducible apply w_intB
  | with_reducible apply w_intI
  | with_reducible apply w_tup1
  | with_reducible apply w_lst1
  | with_reducible apply w_sl
  | with_reducible apply w_part
  | with_reducible apply w_noPart
  | with_reducible apply w_isint
  | ((with_reducible apply w_slS); (focus (walk_at "sz"; done)))
  | with_reducible apply w_iteT
  | with_reducible apply w_iteF
  | with_reducible apply w_iteN
  | ((with_reducible apply w_iteYes); (focus (exact rfl)))
  | ((with_reducible apply w_iteNo); (focus (exact rfl)))
  | ((with_reducible apply w_lenL); (focus (walk_at "sq"; done)))
  | ((with_reducible apply w_lenT); (focus (walk_at "hp"; done)))
  | ((with_reducible apply w_lenS); (focus (walk_at "sz"; done)))
  | with_reducible apply w_lc
  | with_reducible apply w_for
  | with_reducible apply w_yes
  | ((with_reducible apply w_wipe); (focus (exact rfl)))
  | with_reducible apply w_iList
  | with_reducible apply w_iTup
  | with_reducible apply w_iStr
  | with_reducible apply w_iRng1
  | with_reducible apply w_iRng2
  | with_reducible apply w_iZip
  | with_reducible apply w_iEnum
  | ((with_reducible apply d_iList); (focus (walk_at "sq"; done)))
  | ((with_reducible apply d_iTup); (focus (walk_at "hp"; done)))
  | with_reducible apply d_iStr
  | ((with_reducible apply d_iRng1); (focus (walk_at "num"; done)); (focus (walk_at "num"; done)))
  | ((with_reducible apply d_iRng2); (focus (walk_at "num"; done)); (focus (walk_at "num"; done)); (focus (walk_at "num"; done)); (focus (walk_at "num"; done)))
  | ((with_reducible apply d_iZip); (focus (walk_at "sq"; done)); (focus (walk_at "sq"; done)))
  | ((with_reducible apply d_iEnum); (focus (walk_at "sq"; done)))
  | walk_at "w2")
local macro_rules | `(tactic| walk_at "w2") => `(tactic| fail)
local macro_rules | `(tactic| walk_at "wn") => `(tactic| repeat walk_at "w1")
local macro_rules | `(tactic| walk_at "w") => `(tactic| repeat (first | walk_at "w1" | with_reducible apply w_ret))

local macro_rules | `(tactic| walk_at "w2") => `(tactic| first
  | ((with_reducible apply w_isInt); (focus (walk_at "r"; done)))
  | ((with_reducible apply w_isBool); (focus (walk_at "r"; done)))
  | ((with_reducible apply w_isStr); (focus (walk_at "r"; done)))
  | ((with_reducible apply w_isTup); (focus (walk_at "r"; done)))
  | ((with_reducible apply w_isLst); (focus (walk_at "r"; done)))
  | with_reducible apply w_fld
  | with_reducible apply w_sfld
  | with_reducible apply w_faug
  | with_reducible apply w_rAdd
  | with_reducible apply w_rSub
  | with_reducible apply w_make
  | with_reducible apply w_orT
  | with_reducible apply w_dgetd
  | with_reducible apply w_dgetk
  | with_reducible apply w_dsetd
  | ((with_reducible apply k_dgetd); (focus (walk_at "hp"; done)))
  | ((with_reducible apply k_dsetd); (focus (walk_at "hp"; done)))
  | walk_at "w3")
local macro_rules | `(tactic| walk_at "w3") => `(tactic| fail)

def sp__law_held (K : PySem.W.Frag) : Sp := fun vs H Q _ => ∃ (st cd : Addr) (kvs : List (Key × V)) (cs : Cells), vs = [.ref st] ∧ H st = some (.dK kvs) ∧ valV kvs (Sum.inr "cells") = some (.ref cd) ∧ H cd = some (.dK (cK cs)) ∧ cs.length ≤ 50000 ∧
  ∀ (D : Addr) (H' : Hp) (xs : List V), H D = none → Chg [] H H' → H' D = some (.lst xs) → ImA H' xs ((notN cs).map pairD) → Q (.ref D) H'
def t__law_held (K : PySem.W.Frag) : TS :=
    tRet (tLc (iList K (tCB cSortDI (tCons (tDGet (tVar 0) (tC (.str "cells"))) (tNil)))) (gName 1) (tTest (tOp rNe (tDGet (tDGet (tVar 0) (tC (.str "cells"))) (tVar 1)) (tC (.int 0)))) (tTup (tCons (tVar 1) (tCons (tDGet (tDGet (tVar 0) (tC (.str "cells"))) (tVar 1)) (tNil)))) [1])
theorem pure__law_held {K : PySem.W.Frag} (vs : List V) (H : Hp) (Q : VK) (E : XK) (h : sp__law_held K vs H Q E) : t__law_held K (fin Q) (start ["state", "cell"] vs) H := by
  obtain ⟨st, cd, kvs, cs, rfl, hst, ec, hcd, lc, q⟩ := h
  show t__law_held K _ [some (.ref st), none] H
  unfold t__law_held
  walk_at "w"
  refine d_dgetS hst ec ?_
  walk_at "w"
  refine w_sortDI hcd (keys_cK cs) (by rw [List.length_map]; omega) fun l H4 nl c4 hl4 => ?_
  have ls : (srt (cs.map (·.1))).length ≤ 50000 := by rw [(srt_perm _).length_eq, List.length_map]; exact lc
  have hd1 := c4.at hcd
  have hs1 := c4.at hst
  walk_at "w"
  refine w_lcG (walk_list (K := K) (a := l) (xs := (srt (cs.map (·.1))).map V.int)) (fun D i acc H2 => Chg [] H4 H2 ∧ ImA H2 acc (((((srt (cs.map (·.1))).take i).filter fun i => decide (cGet cs i ≠ 0)).map fun i => (i, cGet cs i)).map pairD))
    (fun D H2 nD c2 hD => ⟨c2, .nil⟩) (fun D i acc H2 _ _ z => sqL (z.1.at hl4)) (fun D2 i acc2 x H5 H6 hi nD2 hD2 el2 iv2 y => ?_) (fun D2 acc2 H5 nD2 el2 hD2 iv2 => ?_)
  · obtain ⟨rfl, ex⟩ := y
    obtain ⟨c5, ra5⟩ := iv2
    rw [List.length_map] at hi
    rw [List.getElem?_map, List.getElem?_eq_getElem hi] at ex
    cases ex
    have hd2 := c5.at hd1
    have hs2 := c5.at hs1
    have hm : (srt (cs.map (·.1)))[i] ∈ cs.map (·.1) := (srt_perm _).mem_iff.mp (List.getElem_mem hi)
    have ev : valV (cK cs) (Sum.inl (srt (cs.map (·.1)))[i]) = some (.int (cGet cs (srt (cs.map (·.1)))[i])) := by rw [valV_cK, cAt_some hm]; rfl
    have et : (srt (cs.map (·.1))).take (i + 1) = (srt (cs.map (·.1))).take i ++ [(srt (cs.map (·.1)))[i]] := by rw [List.take_add_one, List.getElem?_eq_getElem hi]; rfl
    generalize (srt (cs.map (·.1)))[i] = k at ev et ⊢
    walk_at "w"
    refine d_dgetS hs2 ec ?_
    walk_at "w"
    refine d_dgetI hd2 ev ?_
    walk_at "w"
    refine w_iteD (fun h0 => ?_) (fun h0 => ?_)
    · refine lg_no hD2 el2 ⟨c5, ?_⟩
      have h0' : cGet cs k = 0 := V.int.inj h0
      rw [et, List.filter_append, show ([k].filter fun i => decide (cGet cs i ≠ 0)) = [] by simp [h0'], List.append_nil]
      exact ra5
    · have h0' : ¬ cGet cs k = 0 := fun z => h0 (by rw [z])
      walk_at "w"
      refine d_dgetS hs2 ec ?_
      walk_at "w"
      refine d_dgetI hd2 ev ?_
      walk_at "w"
      refine k_tup (by walk_at "sz") fun T H7 nT c7 hT => ?_
      refine lg_yes (c7.at hD2) el2 (by omega) fun H8 c8 h8 => ⟨(c5.same c7).one c8 nD2, ?_⟩
      rw [et, List.filter_append, show ([k].filter fun i => decide (cGet cs i ≠ 0)) = [k] by simp [h0'], List.map_append, List.map_append]
      exact (ra5.im (c7.pre c8)).snoc (.tup (c8.tup _ _ hT) (.cons (.int _) (.cons (.int _) .nil)))
  obtain ⟨c5, ra5⟩ := iv2
  rw [List.length_map, List.take_length] at ra5
  exact q D2 H5 acc2 (c4.dom _ nD2) (c4.same c5) hD2 ra5
def sp__law_gifts (K : PySem.W.Frag) : Sp := fun vs H Q _ => ∃ (st gd : Addr) (kvs : List (Key × V)) (gv : Given) (gls : List Addr), vs = [.ref st] ∧ H st = some (.dK kvs) ∧ valV kvs (Sum.inr "given") = some (.ref gd) ∧ GvAt H gd gv gls ∧ gv.length < 64 ∧
  ∀ (D : Addr) (H' : Hp), H D = none → Chg [] H H' → R (fun a => a ∈ D :: gls) H' (.ref D) (giftsD (srtG gv)) → Q (.ref D) H'
def t__law_gifts (K : PySem.W.Frag) : TS :=
    tRet (tLc (iList K (tCB cSortDS (tCons (tDGet (tVar 0) (tC (.str "given"))) (tNil)))) (gName 1) (tYes) (tTup (tCons (tVar 1) (tCons (tDGet (tDGet (tVar 0) (tC (.str "given"))) (tVar 1)) (tNil)))) [1])
theorem pure__law_gifts {K : PySem.W.Frag} (vs : List V) (H : Hp) (Q : VK) (E : XK) (h : sp__law_gifts K vs H Q E) : t__law_gifts K (fin Q) (start ["state", "name"] vs) H := by
  obtain ⟨st, gd, kvs, gv, gls, rfl, hst, eg, gA, lg, q⟩ := h
  show t__law_gifts K _ [some (.ref st), none] H
  unfold t__law_gifts
  walk_at "w"
  refine d_dgetS hst eg ?_
  walk_at "w"
  refine w_sortDS gA.dict (gK_keys gA.len) (by rw [List.length_map]; exact lg) fun sl H2 nsl c2 hsl => ?_
  have gv2 := gA.same c2
  have hs2 := c2.at hst
  walk_at "w"
  have lsl : (srtS (gv.map (·.1))).length = gv.length := by rw [(srtS_perm _).length_eq, List.length_map]
  refine w_lcW (walk_list (K := K) (a := sl) (xs := (srtS (gv.map (·.1))).map V.str)) (fun D i acc H3 => Chg [] H2 H3 ∧ RA (fun a => a ∈ gls) H3 acc (((srtG gv).take i).map giftD)) (fun D H3 nD c hD => ⟨c, .nil⟩) (fun D i acc H3 _ _ z => sqL (z.1.at hsl)) (fun D i acc y H3 H4 hi nD hD el iv yy => ?_) (fun D acc H3 nD el hD iv => ?_)
  · obtain ⟨rfl, ey⟩ := yy
    obtain ⟨c3, ra⟩ := iv
    rw [List.length_map] at hi
    rw [List.getElem?_map, List.getElem?_eq_getElem hi] at ey
    cases ey
    have hmem : (srtS (gv.map (·.1)))[i] ∈ gv.map (·.1) := (srtS_perm _).mem_iff.mp (List.getElem_mem hi)
    have et : (srtG gv).take (i + 1) = (srtG gv).take i ++ [((srtS (gv.map (·.1)))[i], gAt gv (srtS (gv.map (·.1)))[i])] := by
      unfold srtG
      rw [List.take_add_one, List.getElem?_map, List.getElem?_eq_getElem hi]
      rfl
    generalize (srtS (gv.map (·.1)))[i] = x at hmem et ⊢
    rcases gv_cases gv gls x gA.len gA.names with ⟨_, n⟩ | ⟨j, l, row, e1, e2, e3⟩
    · exact absurd hmem n
    have eg' := gAt_of gA.names e1
    have hd3 := c3.at gv2.dict
    have hs3 := c3.at hs2
    have hl3 := c3.at (gv2.rows j _ l e1 e2)
    walk_at "w"
    refine d_dgetS hs3 eg ?_
    walk_at "w"
    refine d_dgetS hd3 e3 ?_
    walk_at "w"
    refine k_tup (by walk_at "sz") fun TT H5 nT c5 hTT => ?_
    refine lc_end (c5.at hD) el (by omega) fun H6 c6 h6 => ⟨(c3.same c5).one c6 nD, ?_⟩
    have mem := List.mem_of_getElem? e2
    have lne : l ≠ D := fun z => by
      have := gv2.rows j _ l e1 e2
      rw [z, nD] at this
      cases this
    have keepS : ∀ a, a ∈ gls → a ∉ [D] := fun a ha hm2 => by
      obtain ⟨i2, hi2⟩ := List.getElem?_of_mem ha
      have hg : i2 < gv.length := by rw [← gA.len]; exact (List.getElem?_eq_some_iff.mp hi2).1
      have := gv2.rows i2 _ a (List.getElem?_eq_getElem hg) hi2
      rw [List.mem_singleton.mp hm2, nD] at this
      cases this
    rw [et, List.map_append, eg']
    exact ((ra.same c5).keep c6 keepS).snoc (.tup (c6.tup _ _ hTT) (.cons (.str _) (.cons (.lst mem (c6.at1 (c5.at hl3) lne) (imInts _)) .nil)))
  obtain ⟨c3, ra⟩ := iv
  rw [List.length_map] at ra
  have lG : (srtG gv).length = (srtS (gv.map (·.1))).length := by unfold srtG; rw [List.length_map]
  rw [← lG, List.take_length] at ra
  exact q D H3 (c2.dom _ nD) (c2.same c3) (.lst (by simp) hD (ra.mono fun a h => List.mem_cons_of_mem _ h))
/-! ### no truths -/
mutual
def nod : PyData → Nat
  | .list ds => 1 + nods ds
  | .tuple ds => 1 + nods ds
  | _ => 1
def nods : List PyData → Nat
  | [] => 0
  | d :: r => nod d + nods r
end
mutual
def noBl : PyData → Bool
  | .bool _ => false
  | .list ds => noBls ds
  | .tuple ds => noBls ds
  | _ => true
def noBls : List PyData → Bool
  | [] => true
  | d :: r => noBl d && noBls r
end
theorem nods_append : ∀ (a b : List PyData), nods (a ++ b) = nods a + nods b
  | [], b => by show nods b = 0 + nods b; omega
  | d :: r, b => by
    show nod d + nods (r ++ b) = nod d + nods r + nods b
    rw [nods_append r b]
    omega
theorem noBls_append : ∀ (a b : List PyData), noBls (a ++ b) = (noBls a && noBls b)
  | [], b => rfl
  | d :: r, b => by
    show (noBl d && noBls (r ++ b)) = (noBl d && noBls r && noBls b)
    rw [noBls_append r b, Bool.and_assoc]
theorem nod_pos (d : PyData) : 1 ≤ nod d := by
  cases d with
  | list ds => show 1 ≤ 1 + nods ds; omega
  | tuple ds => show 1 ≤ 1 + nods ds; omega
  | _ => exact Nat.le_refl 1
theorem nods_len : ∀ ds : List PyData, ds.length ≤ nods ds
  | [] => Nat.le_refl _
  | d :: r => by
    have := nods_len r
    have := nod_pos d
    show r.length + 1 ≤ nod d + nods r
    omega
theorem noBls_mem : ∀ {ds : List PyData} {d : PyData}, noBls ds = true → d ∈ ds → noBl d = true
  | [], _, _, h => by cases h
  | e :: r, d, h, hm => by
    obtain ⟨h1, h2⟩ := Bool.and_eq_true_iff.mp (show (noBl e && noBls r) = true from h)
    rcases List.mem_cons.mp hm with rfl | hm
    · exact h1
    · exact noBls_mem h2 hm
theorem RA.unsnoc {S : Addr → Prop} {H : Hp} : ∀ {vs : List V} {v : V} {ds : List PyData}, RA S H (vs ++ [v]) ds → ∃ es d, ds = es ++ [d] ∧ RA S H vs es ∧ R S H v d
  | [], v, ds, h => by
    cases h with
    | cons a b => cases b; exact ⟨[], _, rfl, .nil, a⟩
  | u :: r, v, ds, h => by
    cases h with
    | cons a b =>
      obtain ⟨es, d, rfl, h1, h2⟩ := RA.unsnoc (vs := r) b
      exact ⟨_ :: es, d, rfl, .cons a h1, h2⟩
def sp__law_wholes (K : PySem.W.Frag) : Sp := fun vs H Q _ => ∃ (a : Addr) (xs : List V) (ds : List PyData) (S : Addr → Prop), vs = [.ref a] ∧ H a = some (.lst xs) ∧ RA S H xs ds ∧ (∀ x, S x → H x ≠ none) ∧ noBls ds = true ∧ (∀ d ∈ ds, nod d ≤ 50000) ∧
  ∀ H' : Hp, Chg [] H H' → Q (.bl true) H'
def t__law_wholes (K : PySem.W.Frag) : TS :=
    tSeq (tFor (iList K (tVar 0)) (gName 1) (tSeq (tAsg (tLst (tCons (tVar 1) (tNil))) (gName 2))
    (tWhile (tTest (tOp oNeE (tVar 2) (tLst (tNil)))) (tSeq (tAsg (tBM0 K "list" rPop (tVar 2)) (gName 3))
    (tSeq (tIfS (tB (tCB (rIsi K) (tCons (tVar 3) (tCons (tC (.ty "bool")) (tNil))))) (tRet (tC (.bl false))) (tNext))
    (tIfS (tB (tCB (rIsiT K) (tCons (tVar 3) (tCons (tTup (tCons (tC (.ty "list")) (tCons (tC (.ty "tuple")) (tNil)))) (tNil))))) (tDrop (tBM K "list" rExtendA (tVar 2) (tCons (tVar 3) (tNil)))) (tNext)))))))
    (tRet (tC (.bl true)))
theorem pure__law_wholes {K : PySem.W.Frag} (vs : List V) (H : Hp) (Q : VK) (E : XK) (h : sp__law_wholes K vs H Q E) : t__law_wholes K (fin Q) (start ["rows", "row", "parts", "one"] vs) H := by
  obtain ⟨a, xs, ds, S, rfl, ha, ra, hS, nb, few, q⟩ := h
  show t__law_wholes K _ [some (.ref a), none, none, none] H
  unfold t__law_wholes
  walk_at "w"
  refine for_it (walk_list (K := K) (a := a) (xs := xs)) (fun i σ H1 => Chg [] H H1 ∧ ∃ y1 y2 y3, σ = [some (.ref a), y1, y2, y3]) ⟨.refl, _, _, _, rfl⟩ (fun i σ H1 _ z => sqL (z.1.at ha)) (fun i x σ H1 H2 hi z y => ?_) (fun σ H1 z => ?_)
  · obtain ⟨c1, y1, y2, y3, rfl⟩ := z
    obtain ⟨rfl, ex⟩ := y
    obtain ⟨d, ed, rd⟩ := ra.get ex
    have fd := few d (List.mem_of_getElem? ed)
    have bd := noBls_mem nb (List.mem_of_getElem? ed)
    walk_at "w"
    refine k_lst (by walk_at "sz") fun pl H3 npl c3 hpl => ?_
    have pl0 : H pl = none := c1.dom _ npl
    have Spl : ∀ x, S x → x ≠ pl := fun z hz e => hS z hz (by rw [e]; exact pl0)
    walk_at "w"
    refine w_while ⟨fun k σ H4 => Chg [] H H4 ∧ ∃ (ps : List V) (es : List PyData) (z3 : Option V), σ = [some (.ref a), some x, some (.ref pl), z3] ∧ H4 pl = some (.lst ps) ∧ RA S H4 ps es ∧ noBls es = true ∧ nods es = k ∧ k ≤ 50000, ⟨_, c1.same c3, [x], [d], _, rfl, hpl, .cons (rd.same (c1.same c3)) .nil, by show (noBl d && true) = true; rw [bd]; rfl, rfl, by show nod d + 0 ≤ 50000; omega⟩, fun k σ H4 inv => ?_⟩
    obtain ⟨c4, ps, es, z3, rfl, hpl4, ra4, nb4, ek, k5⟩ := inv
    walk_at "w"
    refine k_lst (by walk_at "sz") fun el H5 nel c5 hel => ?_
    refine w_neE (c5.at hpl4) hel ?_
    have lps : ps.length = es.length := ra4.length
    cases hps : ps.reverse with
    | nil =>
      have e0 : ps = [] := List.reverse_eq_nil_iff.mp hps
      subst e0
      walk_at "w"
      exact ⟨c4.same c5, _, _, _, rfl⟩
    | cons v rv =>
      have e0 : ps = rv.reverse ++ [v] := by
        have := congrArg List.reverse hps
        rw [List.reverse_reverse, List.reverse_cons] at this
        exact this
      generalize rv.reverse = ps' at e0
      subst e0
      rw [show (!(ps' ++ [v]).isEmpty) = true by simp]
      walk_at "w"
      obtain ⟨es', d', rfl, ra5, rd5⟩ := ra4.unsnoc
      rw [nods_append] at ek
      have ek : nods es' + (nod d' + 0) = k := ek
      rw [noBls_append] at nb4
      obtain ⟨nb5, nbd⟩ := Bool.and_eq_true_iff.mp nb4
      have nbd : noBl d' = true := by
        have := nbd
        show noBl d' = true
        exact (Bool.and_eq_true_iff.mp (show (noBl d' && true) = true from this)).1
      refine ⟨fun σ H6 => ∃ k', k' < k ∧ (Chg [] H H6 ∧ ∃ (ps : List V) (es : List PyData) (z3 : Option V), σ = [some (.ref a), some x, some (.ref pl), z3] ∧ H6 pl = some (.lst ps) ∧ RA S H6 ps es ∧ noBls es = true ∧ nods es = k' ∧ k' ≤ 50000), fun σ H6 h => h, ?_⟩
      walk_at "w"
      refine w_pop (c5.at hpl4) fun H6 c6 h6 => ?_
      have c46 : Chg [pl] H4 H6 := c5.pre c6
      have c06 : Chg [] H H6 := c4.one c46 pl0
      have ra6 : RA S H6 ps' es' := ra5.keep c46 fun z hz => by simpa using Spl z hz
      have rd6 : R S H6 v d' := rd5.keep c46 fun z hz => by simpa using Spl z hz
      have db : dBool d' = false := by
        cases d' with
        | bool b => cases nbd
        | _ => rfl
      have le5 := nods_len es'
      have lps' : ps'.length = es'.length := ra6.length
      walk_at "w"
      rw [db]
      walk_at "w"
      refine k_tup (by walk_at "sz") fun tp H7 ntp c7 htp => ?_
      walk_at "w"
      refine w_isLT (rd6.same c7) htp ?_
      have c07 := c06.same c7
      have ra7 := ra6.same c7
      have h7 := c7.at h6
      have grow : ∀ (bl : Addr) (zs : List V) (fs : List PyData), (H7 bl = some (.lst zs) ∨ H7 bl = some (.tup zs)) → RA S H7 zs fs → noBls fs = true → nod d' = 1 + nods fs → v = .ref bl →
          rExtendA (.ref pl) [.ref bl] H7 fun _ H8 => ∃ k', k' < k ∧ (Chg [] H H8 ∧ ∃ (ps : List V) (es : List PyData) (z3 : Option V), ([some (.ref a), some x, some (.ref pl), some v] : L2.St) = [some (.ref a), some x, some (.ref pl), z3] ∧ H8 pl = some (.lst ps) ∧ RA S H8 ps es ∧ noBls es = true ∧ nods es = k' ∧ k' ≤ 50000) := fun bl zs fs hb rz nf en ev => by
        have le6 := nods_len fs
        have lz : zs.length = fs.length := rz.length
        refine w_extendA h7 hb (by omega) fun H8 c8 h8 => ?_
        refine ⟨nods es' + nods fs, by omega, c07.one c8 pl0, ps' ++ zs, es' ++ fs, _, rfl, h8, (ra7.keep c8 fun z hz => by simpa using Spl z hz).append (rz.keep c8 fun z hz => by simpa using Spl z hz), ?_, nods_append _ _, by omega⟩
        rw [noBls_append, nb5, nf]
        rfl
      have rd7 := rd6.same c7
      have stay : dSeq d' = false → ∃ k', k' < k ∧ (Chg [] H H7 ∧ ∃ (ps : List V) (es : List PyData) (z3 : Option V), ([some (.ref a), some x, some (.ref pl), some v] : L2.St) = [some (.ref a), some x, some (.ref pl), z3] ∧ H7 pl = some (.lst ps) ∧ RA S H7 ps es ∧ noBls es = true ∧ nods es = k' ∧ k' ≤ 50000) := fun _ =>
        ⟨nods es', by have := nod_pos d'; omega, c07, ps', es', _, rfl, h7, ra7, nb5, rfl, by omega⟩
      cases d' with
      | list fs =>
        cases rd7 with
        | @lst bl zs _ s e rz =>
          walk_at "w"
          exact grow bl zs fs (.inl e) rz nbd rfl rfl
      | tuple fs =>
        cases rd7 with
        | @tup bl zs _ e rz =>
          walk_at "w"
          exact grow bl zs fs (.inr e) rz nbd rfl rfl
      | _ =>
        walk_at "w"
        exact stay rfl
  · obtain ⟨c1, y1, y2, y3, rfl⟩ := z
    walk_at "w"
    exact q H1 c1
end Fg
--LAW k10
namespace Fg
open PySem PySem.Spec PyProof.Rows L2
/-! ### the walk's small steps -/
local macro_rules | `(tactic| walk_at "hp") => `(tactic| first
  | assumption
  | exact upd_same
  | (refine Chg.at (by assumption) ?_; walk_at "hp")
  | (refine Chg.at1 (by assumption) ?_ (by walk_at "ne"); walk_at "hp"))
local macro_rules | `(tactic| walk_at "ne") => `(tactic| first | assumption | (apply Ne.symm; assumption))
local macro_rules | `(tactic| walk_at "sq") => `(tactic| first | assumption | exact sqL (by walk_at "hp") | (refine Chg.seq (by assumption) ?_; walk_at "sq"))
local macro_rules | `(tactic| walk_at "sz") => `(tactic| first | assumption | exact Nat.zero_le _ | (simp only [List.length_cons, List.length_nil]; decide) | exact Nat.le_trans (by first | omega | (simp; done) | (simp; omega)) (show 100000 ≤ sizeLine by decide) | exact Nat.lt_of_lt_of_le (by first | omega | (simp; done) | (simp; omega)) (show 100000 ≤ sizeLine by decide))
local macro_rules | `(tactic| walk_at "ix") => `(tactic| first | exact at0 | exact at1 | exact at2 | exact at3 | assumption | exact rfl | walk_at "ix2")
local macro_rules | `(tactic| walk_at "ix2") => `(tactic| fail)
local macro_rules | `(tactic| walk_at "num") => `(tactic| first | assumption | omega | decide | walk_at "num2")
local macro_rules | `(tactic| walk_at "num2") => `(tactic| fail)
local macro_rules | `(tactic| walk_at "im") => `(tactic| first | assumption | exact R.non (S := fun _ => False) | exact R.bl (S := fun _ => False) _ | exact R.int (S := fun _ => False) _ | exact R.str (S := fun _ => False) _ | (refine R.im (by assumption) ?_; walk_at "im"))
local macro_rules | `(tactic| walk_at "r") => `(tactic| first | assumption | exact R.non (S := fun _ => False) | exact R.bl (S := fun _ => False) _ | exact R.int (S := fun _ => False) _ | exact R.str (S := fun _ => False) _ | (refine R.same (by assumption) ?_; walk_at "r") | exact R.any (by walk_at "im"))
local macro_rules | `(tactic| walk_at "chg") => `(tactic| first
  | exact Chg.refl
  | assumption
  | (refine Chg.same ?_ (by assumption); walk_at "chg")
  | (refine Chg.both ?_ (by assumption); walk_at "chg")
  | (refine Chg.pre (by assumption) ?_; walk_at "chg"))
local macro_rules | `(tactic| walk_at "w1") => `(tactic| first
  | with_reducible apply w_seq
  | with_reducible apply w_asg
  | ((with_reducible apply w_var); (focus (exact rfl)))
  | with_reducible apply w_c
  | with_reducible apply w_op
  | with_reducible apply w_cons
  | with_reducible apply w_nil
  | with_reducible apply w_gName
  | with_reducible apply w_if
  | with_reducible apply w_test
  | with_reducible apply w_B
  | with_reducible apply w_isbl
  | with_reducible apply w_retN
  | with_reducible apply w_next
  | with_reducible apply w_drop
  | with_reducible apply w_cb
  | with_reducible apply w_call
  | with_reducible apply w_callN
  | with_reducible apply w_bm
  | with_reducible apply w_bm0
  | ((with_reducible apply w_tyL); (focus (walk_at "hp"; done)))
  | with_reducible apply w_dput
  | with_reducible apply w_m1
  | with_reducible apply w_isstr
  | with_reducible apply w_and
  | with_reducible apply w_or
  | with_reducible apply w_not
  | with_reducible apply w_andV
  | with_reducible apply w_orV
  | with_reducible apply w_notV
  | with_reducible apply w_ifE
  | with_reducible apply w_chain
  | with_reducible apply w_un
  | with_reducible apply w_neg
  | with_reducible apply w_add
  | with_reducible apply w_sub
  | ((with_reducible apply w_mod); (focus (walk_at "num"; done)))
  | ((with_reducible apply w_mul); (focus (walk_at "num"; done)))
  | ((with_reducible apply w_fdiv); (focus (walk_at "num"; done)))
  | ((with_reducible apply w_pow); (focus (walk_at "num"; done)))
  | with_reducible apply w_lt
  | with_reducible apply w_le
  | with_reducible apply w_gt
  | with_reducible apply w_ge
  | with_reducible apply w_ltS
  | with_reducible apply w_geS
  | with_reducible apply w_inC
  | with_reducible apply w_notInC
  | with_reducible apply w_isN
  | with_reducible apply w_notN
  | with_reducible apply w_isB
  | with_reducible apply w_notB
  | ((with_reducible apply w_addS); (focus (walk_at "sz"; done)))
  | ((with_reducible apply w_ixL); (focus (walk_at "sq"; done)); (focus (walk_at "ix"; done)))
  | ((with_reducible apply w_ixT); (focus (walk_at "hp"; done)); (focus (walk_at "ix"; done)))
  | ((with_reducible apply w_ixS); (focus (walk_at "sz"; done)); (focus (walk_at "ix"; done)))
  | with_reducible apply w_gSub
  | ((with_reducible apply w_gTup); (focus (walk_at "hp"; done)); (focus (exact rfl)))
  | with_reducible apply w_gCons
  | with_reducible apply w_gNil
  | ((with_reducible apply w_aug); (focus (exact rfl)))
  | with_reducible apply w_ipI
  | ((with_reducible apply w_eq); (focus (exact rfl)))
  | ((with_reducible apply w_ne); (focus (exact rfl)))
  | with_reducible apply w_max
  | with_reducible apply w_min
  | with_reducible apply w_abs
  | with_reducible apply w_intB
  | with_reducible apply w_intI
  | with_reducible apply w_tup1
  | with_reducible apply w_lst1
  | with_reducible apply w_sl
  | with_reducible apply w_part
  | with_reducible apply w_noPart
  | with_reducible apply w_isint
  | ((with_reducible apply w_slS); (focus (walk_at "sz"; done)))
  | with_reducible apply w_iteT
  | with_reducible apply w_iteF
  | with_reducible apply w_iteN
  | ((with_reducible apply w_iteYes); (focus (exact rfl)))
  | ((with_reducible apply w_iteNo); (focus (exact rfl)))
  | ((with_reducible apply w_lenL); (focus (walk_at "sq"; done)))
  | ((with_reducible apply w_lenT); (focus (walk_at "hp"; done)))
  | ((with_reducible apply w_lenS); (focus (walk_at "sz"; done)))
  | with_reducible apply w_lc
  | with_reducible apply w_for
  | with_reducible apply w_yes
  | ((with_reducible apply w_wipe); (focus (exact rfl)))
  | with_reducible apply w_iList
  | with_reducible apply w_iTup
  | with_reducible apply w_iStr
  | with_reducible apply w_iRng1
  | with_reducible apply w_iRng2
  | with_reducible apply w_iZip
  | with_reducible apply w_iEnum
  | ((with_reducible apply d_iList); (focus (walk_at "sq"; done)))
  | ((with_reducible apply d_iTup); (focus (walk_at "hp"; done)))
  | with_reducible apply d_iStr
  | ((with_reducible apply d_iRng1); (focus (walk_at "num"; done)); (focus (walk_at "num"; done)))
  | ((with_reducible apply d_iRng2); (focus (walk_at "num"; done)); (focus (walk_at "num"; done)); (focus (walk_at "num"; done)); (focus (walk_at "num"; done)))
  | ((with_reducible apply d_iZip); (focus (walk_at "sq"; done)); (focus (walk_at "sq"; done)))
  | ((with_reducible apply d_iEnum); (focus (walk_at "sq"; done)))
  | walk_at "w2")
local macro_rules | `(tactic| walk_at "w2") => `(tactic| fail)
local macro_rules | `(tactic| walk_at "wn") => `(tactic| repeat walk_at "w1")
local macro_rules | `(tactic| walk_at "w") => `(tactic| repeat (first | walk_at "w1" | with_reducible apply w_ret))

local macro_rules | `(tactic| walk_at "w2") => `(tactic| first
  | ((with_reducible apply w_isInt); (focus (walk_at "r"; done)))
  | ((with_reducible apply w_isBool); (focus (walk_at "r"; done)))
  | ((with_reducible apply w_isStr); (focus (walk_at "r"; done)))
  | ((with_reducible apply w_isTup); (focus (walk_at "r"; done)))
  | ((with_reducible apply w_isLst); (focus (walk_at "r"; done)))
  | with_reducible apply w_fld
  | with_reducible apply w_sfld
  | with_reducible apply w_faug
  | with_reducible apply w_rAdd
  | with_reducible apply w_rSub
  | with_reducible apply w_make
  | with_reducible apply w_orT
  | with_reducible apply w_dgetd
  | with_reducible apply w_dgetk
  | with_reducible apply w_dsetd
  | ((with_reducible apply k_dgetd); (focus (walk_at "hp"; done)))
  | ((with_reducible apply k_dsetd); (focus (walk_at "hp"; done)))
  | walk_at "w3")
local macro_rules | `(tactic| walk_at "w3") => `(tactic| fail)

/-- a heap without some of its addresses -/
def lessL (H : Hp) (L : List Addr) : Hp := fun x => if x ∈ L then none else H x
section
variable {H : Hp} {L : List Addr}
theorem lessL_none {x : Addr} (h : x ∈ L) : lessL H L x = none := if_pos h
theorem lessL_at {x : Addr} (h : x ∉ L) : lessL H L x = H x := if_neg h
theorem lessL_some {x : Addr} {o : HO} (h : lessL H L x = some o) : H x = some o := by
  unfold lessL at h
  split at h
  · cases h
  · exact h
theorem lessL_up : Chg [] (lessL H L) H where
  keep := fun x o h _ => lessL_some h
  dom := fun x h => by
    unfold lessL
    split
    · rfl
    · exact h
  tup := fun x xs h => lessL_some h
theorem lessL_of {M : List Addr} {H0 : Hp} (c : Chg M H0 H) (hL : ∀ x ∈ L, H0 x = none) : Chg M H0 (lessL H L) where
  keep := fun x o h hm => by
    rw [lessL_at (fun z => by rw [hL x z] at h; cases h)]
    exact c.keep x o h hm
  dom := fun x h => by
    unfold lessL at h
    split at h
    · next z => exact hL x z
    · exact c.dom x h
  tup := fun x xs h => by
    rw [lessL_at (fun z => by rw [hL x z] at h; cases h)]
    exact c.tup x xs h
end
/-- {k: v, ..} -/
def KDisp (p : Addr) (Q : VK) : List (V × V) → Hp → Prop := fun ps H2 => H2 p = some (.dK []) ∧ ∃ kvs : List (Key × V), ps = kvs.map (fun kv => (kV kv.1, kv.2)) ∧ kvs.length ≤ 15 ∧ Q (.ref p) (upd H2 p (.dK (mergeK [] kvs)))
theorem w_disp {trs : List (TE × TE)} {σ : L2.St} {H : Hp} {Q : VK} (h : ∀ p H1, H p = none → Chg [] H H1 → H1 p = some (.dK []) → tPairs trs σ H1 (KDisp p Q)) : tDisp trs σ H Q := fun p np => h p _ np (.new np) upd_same
theorem k_disp {p : Addr} {Q : VK} {ps : List (V × V)} {H : Hp} (kvs : List (Key × V)) (h : H p = some (.dK [])) (e : ps = kvs.map (fun kv => (kV kv.1, kv.2))) (hl : kvs.length ≤ 15) (q : ∀ H', Chg [p] H H' → H' p = some (.dK (mergeK [] kvs)) → Q (.ref p) H') : KDisp p Q ps H := ⟨h, kvs, e, hl, q _ (.mut h fun _ z => nomatch z) upd_same⟩
theorem SAt.base {Hb H0 H : Hp} {st : Addr} {s : Sv} {m : Mc} {log : List LRec} {gls LL : List Addr} {xs : List V} (S : SAt H0 H st s m log gls LL xs) (c : Chg [] Hb H0) : SAt Hb H st s m log gls LL xs where
  dict := S.dict
  cells := S.cells
  given := S.given
  recs := S.recs
  data := S.data
  fresh := ⟨c.dom _ S.fresh.1, c.dom _ S.fresh.2.1, c.dom _ S.fresh.2.2.1, c.dom _ S.fresh.2.2.2⟩
  ne := S.ne
  gl := fun l hl => ⟨c.dom _ (S.gl l hl).1, (S.gl l hl).2⟩
  ll := fun a ha => ⟨c.dom _ (S.ll a ha).1, (S.ll a ha).2⟩
def sp__law_ran (K : PySem.W.Frag) : Sp := fun vs H Q _ => ∃ (a cl : Addr) (p : Prg) (nm : Str) (g : Int) (cs : Cells) (xs : List V) (most : Nat) (S : Addr → Prop), vs = [.ref a, .str nm, .int g, .ref cl, .int (most : Nat)] ∧ R S H (.ref a) (prgD p) ∧ PrgOk p ∧ nm ∈ p.map (·.1) ∧ H cl = some (.lst xs) ∧ ImA H xs (cs.map pairD) ∧ cs.length ≤ 100 ∧ most ≤ 150 ∧
  (∀ (H' : Hp) (st : Addr) (s : Sv) (m : Mc) (L : List LRec) (gls LL : List Addr) (ys : List V), Chg [] H H' → Dl p 0 ⟨0, [], p.rows nm, g, 0, 0, 0⟩ (Mc.start p nm g (cStart cs)) m L → m.recs.length ≤ most → SAt H H' st s m L gls LL ys → s.long = false → s.deep = m.deep → ys.length = m.recs.length → Fits m → Q (.ref st) H') ∧
  (∀ (H' : Hp) (st : Addr) (s : Sv), Chg [] H H' → Lg p most 0 ⟨0, [], p.rows nm, g, 0, 0, 0⟩ (Mc.start p nm g (cStart cs)) → H' st = some (.dK (stK s)) → s.long = true → Q (.ref st) H')
def t__law_ran (K : PySem.W.Frag) : TS :=
    tSeq (tAsg (tDisp [(tC (.str "rows"), tCB (cDictP K) (tCons (tVar 0) (tNil))), (tC (.str "cells"), tCB (cDictP K) (tCons (tVar 3) (tNil))), (tC (.str "given"), tDNewK), (tC (.str "records"), tLst (tNil)), (tC (.str "most"), tVar 4), (tC (.str "long"), tC (.bl false))]) (gName 5))
    (tSeq (sDPut (tVar 5) (tC (.str "alive")) (tC (.int 0)))
    (tSeq (sDPut (tVar 5) (tC (.str "deepest")) (tC (.int 0)))
    (tSeq (tDrop (tCall (sp__law_do K 152) [] E0 (tCons (tVar 5) (tCons (tVar 1) (tCons (tVar 2) (tCons (tTup (tNil)) (tNil)))))))
    (tRet (tVar 5)))))
theorem pure__law_ran {K : PySem.W.Frag} (vs : List V) (H : Hp) (Q : VK) (E : XK) (h : sp__law_ran K vs H Q E) : t__law_ran K (fin Q) (start ["program", "name", "arg", "cells", "most", "state"] vs) H := by
  obtain ⟨a, cl, p, nm, g, cs, xs, most, S, rfl, rP, okP, hnm, hcl, ixs, lcs, most5, q1, q2⟩ := h
  show t__law_ran K _ [some (.ref a), some (.str nm), some (.int g), some (.ref cl), some (.int (most : Nat)), none] H
  unfold t__law_ran
  obtain ⟨ps, ls, e1, e2, e3, e4⟩ := prg_view rP
  walk_at "w"
  refine w_disp fun st H1 nst c1 hst => ?_
  simp only [tPairs]
  have sq : ∀ {H' : Hp} (c : Chg [] H H') {ps : List Addr} {kvs : List (Key × V)}, Paired (fun q kv => H q = some (.tup [kV kv.1, kv.2])) ps kvs → Paired (fun q kv => SqT K H' q [kV kv.1, kv.2]) ps kvs := by
    intro H' c ps kvs h
    induction h with
    | nil => exact .nil
    | cons h1 h2 ih => exact .cons (sqT (c.at h1)) ih
  walk_at "w"
  refine w_dictP (ps := ps) (kvs := gK (nmG p) ls) (c1.at e1) (sq c1 e2) fun rd H2 nrd c2 hrd => ?_
  rw [prg_dict okP e3] at hrd
  have c02 := c1.same c2
  obtain ⟨ps2, exs, hps⟩ := pairs_view ixs
  subst exs
  walk_at "w"
  refine w_dictP (ps := ps2) (kvs := cK cs) (c02.at hcl) (sq c02 hps) fun cd H3 ncd c3 hcd => ?_
  rw [merge_start] at hcd
  have c03 := c02.same c3
  walk_at "w"
  refine w_dnewK fun gd H4 ngd c4 hgd => ?_
  walk_at "w"
  refine k_lst (by walk_at "sz") fun rl H5 nrl c5 hrl => ?_
  walk_at "w"
  have c15 : Chg [] H1 H5 := ((c2.same c3).same c4).same c5
  have c05 : Chg [] H H5 := c1.same c15
  refine k_disp [(Sum.inr "rows", .ref rd), (Sum.inr "cells", .ref cd), (Sum.inr "given", .ref gd), (Sum.inr "records", .ref rl), (Sum.inr "most", .int (most : Nat)), (Sum.inr "long", .bl false)] (c15.at hst) rfl (by show 6 ≤ 15; decide) fun H6 c6 h6 => ?_
  walk_at "w"
  refine d_dput (k := Sum.inr "alive") h6 (by show 6 < sizeLine; decide) fun H7 c7 h7 => ?_
  walk_at "w"
  refine d_dput (k := Sum.inr "deepest") h7 (by show 7 < sizeLine; decide) fun H8 c8 h8 => ?_
  have h8 : H8 st = some (.dK (stK ⟨rd, cd, gd, rl, most, false, 0, 0⟩)) := h8
  walk_at "w"
  refine k_tup (by walk_at "sz") fun pa H9 npa c9 hpa => ?_
  walk_at "w"
  have c59 : Chg [st] H5 H9 := ((c6.both c7).both c8).same c9
  have c09 : Chg [] H H9 := c05.one c59 nst
  have h9 : H9 st = some (.dK (stK ⟨rd, cd, gd, rl, most, false, 0, 0⟩)) := c9.at h8
  have rdst : rd ≠ st := fun z => by rw [z, hst] at nrd; cases nrd
  have cdst : cd ≠ st := fun z => by rw [z, c2.at hst] at ncd; cases ncd
  have gdst : gd ≠ st := fun z => by rw [z, c3.at (c2.at hst)] at ngd; cases ngd
  have rlst : rl ≠ st := fun z => by rw [z, c4.at (c3.at (c2.at hst))] at nrl; cases nrl
  have rdcd : rd ≠ cd := fun z => by rw [← z, hrd] at ncd; cases ncd
  have rdgd : rd ≠ gd := fun z => by rw [← z, c3.at hrd] at ngd; cases ngd
  have rdrl : rd ≠ rl := fun z => by rw [← z, c4.at (c3.at hrd)] at nrl; cases nrl
  have cdgd : cd ≠ gd := fun z => by rw [← z, hcd] at ngd; cases ngd
  have fr : ∀ x ∈ [st, cd, gd, rl], H x = none := fun x hx => by
    simp only [List.mem_cons, List.not_mem_nil, or_false] at hx
    rcases hx with rfl | rfl | rfl | rfl
    · exact nst
    · exact c02.dom _ ncd
    · exact c03.dom _ ngd
    · exact (c03.same c4).dom _ nrl
  have b0 : Chg [] H (lessL H9 [st, cd, gd, rl]) := lessL_of c09 fr
  have hrd9 : H9 rd = some (.dK (gK (nmG p) ls)) := c59.at1 (c5.at (c4.at (c3.at hrd))) rdst
  have hcd9 : H9 cd = some (.dK (cK (cStart cs))) := c59.at1 (c5.at (c4.at hcd)) cdst
  have hgd9 : H9 gd = some (.dK []) := c59.at1 (c5.at hgd) gdst
  have hrl9 : H9 rl = some (.lst []) := c59.at1 hrl rlst
  have D : DoP (lessL H9 [st, cd, gd, rl]) p ls rd := ⟨by rw [lessL_at (by simp only [List.mem_cons, List.not_mem_nil, or_false, not_or]; exact ⟨rdst, rdcd, rdgd, rdrl⟩)]; exact hrd9, okP, a, e4.same b0⟩
  have S9 : SAt (lessL H9 [st, cd, gd, rl]) H9 st ⟨rd, cd, gd, rl, most, false, 0, 0⟩ (Mc.start p nm g (cStart cs)) [] [] [] [] := {
    dict := h9
    cells := hcd9
    given := ⟨hgd9, rfl, List.nodup_nil, List.nodup_nil, fun i g l h h' => (by simp at h')⟩
    recs := hrl9
    data := .nil
    fresh := ⟨lessL_none (by simp), lessL_none (by simp), lessL_none (by simp), lessL_none (by simp)⟩
    ne := ⟨Ne.symm cdst, Ne.symm gdst, cdgd⟩
    gl := fun l hl => (by cases hl)
    ll := fun l hl => (by cases hl) }
  have fits0 : Fits (Mc.start p nm g (cStart cs)) := ⟨Nat.le_trans (cStart_len cs) lcs, Nat.le_refl _, fun g hg => (by cases hg)⟩
  refine ⟨lessL H9 [st, cd, gd, rl], p, ls, st, pa, ⟨rd, cd, gd, rl, most, false, 0, 0⟩, Mc.start p nm g (cStart cs), [], [], [], [], nm, g, [], 0, 0, rfl, D, hnm, lessL_up, .tup hpa .nil, S9, rfl, rfl, rfl, fits0, Nat.zero_le _, by show most ≤ 500; omega, rfl, Nat.zero_le _, by show most + 1 ≤ 152 + 0; omega, fun H10 m L gls LL ys c10 ik10 dl lm S10 lys => ?_, fun H10 dp c10 ik10 lgk h10 => ?_⟩
  · walk_at "w"
    exact q1 H10 st _ m L gls LL ys (b0.same c10) dl lm (S10.base b0) rfl rfl lys (dl.fits fits0)
  · walk_at "w"
    exact q2 H10 st _ (b0.same c10) lgk h10 rfl
end Fg
--LAW k10
namespace Fg
open PySem PySem.Spec PyProof.Rows L2
/-! ### the walk's small steps -/
local macro_rules | `(tactic| walk_at "hp") => `(tactic| first
  | assumption
  | exact upd_same
  | (refine Chg.at (by assumption) ?_; walk_at "hp")
  | (refine Chg.at1 (by assumption) ?_ (by walk_at "ne"); walk_at "hp"))
local macro_rules | `(tactic| walk_at "ne") => `(tactic| first | assumption | (apply Ne.symm; assumption))
local macro_rules | `(tactic| walk_at "sq") => `(tactic| first | assumption | exact sqL (by walk_at "hp") | (refine Chg.seq (by assumption) ?_; walk_at "sq"))
local macro_rules | `(tactic| walk_at "sz") => `(tactic| first | assumption | exact Nat.zero_le _ | (simp only [List.length_cons, List.length_nil]; decide) | exact Nat.le_trans (by first | omega | (simp; done) | (simp; omega)) (show 100000 ≤ sizeLine by decide) | exact Nat.lt_of_lt_of_le (by first | omega | (simp; done) | (simp; omega)) (show 100000 ≤ sizeLine by decide))
local macro_rules | `(tactic| walk_at "ix") => `(tactic| first | exact at0 | exact at1 | exact at2 | exact at3 | assumption | exact rfl | walk_at "ix2")
local macro_rules | `(tactic| walk_at "ix2") => `(tactic| fail)
local macro_rules | `(tactic| walk_at "num") => `(tactic| first | assumption | omega | decide | walk_at "num2")
local macro_rules | `(tactic| walk_at "num2") => `(tactic| fail)
local macro_rules | `(tactic| walk_at "im") => `(tactic| first | assumption | exact R.non (S := fun _ => False) | exact R.bl (S := fun _ => False) _ | exact R.int (S := fun _ => False) _ | exact R.str (S := fun _ => False) _ | (refine R.im (by assumption) ?_; walk_at "im"))
local macro_rules | `(tactic| walk_at "r") => `(tactic| first | assumption | exact R.non (S := fun _ => False) | exact R.bl (S := fun _ => False) _ | exact R.int (S := fun _ => False) _ | exact R.str (S := fun _ => False) _ | (refine R.same (by assumption) ?_; walk_at "r") | exact R.any (by walk_at "im"))
local macro_rules | `(tactic| walk_at "chg") => `(tactic| first
  | exact Chg.refl
  | assumption
  | (refine Chg.same ?_ (by assumption); walk_at "chg")
  | (refine Chg.both ?_ (by assumption); walk_at "chg")
  | (refine Chg.pre (by assumption) ?_; walk_at "chg"))
local macro_rules | `(tactic| walk_at "w1") => `(tactic| first
  | with_reducible apply w_seq
  | with_reducible apply w_asg
  | ((with_reducible apply w_var); (focus (exact rfl)))
  | with_reducible apply w_c
  | with_reducible apply w_op
  | with_reducible apply w_cons
  | with_reducible apply w_nil
  | with_reducible apply w_gName
  | with_reducible apply w_if
  | with_reducible apply w_test
  | with_reducible apply w_B
  | with_reducible apply w_isbl
  | with_reducible apply w_retN
  | with_reducible apply w_next
  | with_reducible apply w_drop
  | with_reducible apply w_cb
  | with_reducible apply w_call
  | with_reducible apply w_callN
  | with_reducible apply w_bm
  | with_reducible apply w_bm0
  | ((with_reducible apply w_tyL); (focus (walk_at "hp"; done)))
  | with_reducible apply w_dput
  | with_reducible apply w_m1
  | with_reducible apply w_isstr
  | with_reducible apply w_and
  | with_reducible apply w_or
  | with_reducible apply w_not
  | with_reducible apply w_andV
  | with_reducible apply w_orV
  | with_reducible apply w_notV
  | with_reducible apply w_ifE
  | with_reducible apply w_chain
  | with_reducible apply w_un
  | with_reducible apply w_neg
  | with_reducible apply w_add
  | with_reducible apply w_sub
  | ((with_reducible apply w_mod); (focus (walk_at "num"; done)))
  | ((with_reducible apply w_mul); (focus (walk_at "num"; done)))
  | ((with_reducible apply w_fdiv); (focus (walk_at "num"; done)))
  | ((with_reducible apply w_pow); (focus (walk_at "num"; done)))
  | with_reducible apply w_lt
  | with_reducible apply w_le
  | with_reducible apply w_gt
  | with_reducible apply w_ge
  | with_reducible apply w_ltS
  | with_reducible apply w_geS
  | with_reducible apply w_inC
  | with_reducible apply w_notInC
  | with_reducible apply w_isN
  | with_reducible apply w_notN
  | with_reducible apply w_isB
  | with_reducible apply w_notB
  | ((with_reducible apply w_addS); (focus (walk_at "sz"; done)))
  | ((with_reducible apply w_ixL); (focus (walk_at "sq"; done)); (focus (walk_at "ix"; done)))
  | ((with_reducible apply w_ixT); (focus (walk_at "hp"; done)); (focus (walk_at "ix"; done)))
  | ((with_reducible apply w_ixS); (focus (walk_at "sz"; done)); (focus (walk_at "ix"; done)))
  | with_reducible apply w_gSub
  | ((with_reducible apply w_gTup); (focus (walk_at "hp"; done)); (focus (exact rfl)))
  | with_reducible apply w_gCons
  | with_reducible apply w_gNil
  | ((with_reducible apply w_aug); (focus (exact rfl)))
  | with_reducible apply w_ipI
  | ((with_reducible apply w_eq); (focus (exact rfl)))
  | ((with_reducible apply w_ne); (focus (exact rfl)))
  | with_reducible apply w_max
  | with_reducible apply w_min
  | with_reducible apply w_abs
  | with_reducible apply w_intB
  | with_reducible apply w_intI
  | with_reducible apply w_tup1
  | with_reducible apply w_lst1
  | with_reducible apply w_sl
  | with_reducible apply w_part
  | with_reducible apply w_noPart
  | with_reducible apply w_isint
  | ((with_reducible apply w_slS); (focus (walk_at "sz"; done)))
  | with_reducible apply w_iteT
  | with_reducible apply w_iteF
  | with_reducible apply w_iteN
  | ((with_reducible apply w_iteYes); (focus (exact rfl)))
  | ((with_reducible apply w_iteNo); (focus (exact rfl)))
  | ((with_reducible apply w_lenL); (focus (walk_at "sq"; done)))
  | ((with_reducible apply w_lenT); (focus (walk_at "hp"; done)))
  | ((with_reducible apply w_lenS); (focus (walk_at "sz"; done)))
  | with_reducible apply w_lc
  | with_reducible apply w_for
  | with_reducible apply w_yes
  | ((with_reducible apply w_wipe); (focus (exact rfl)))
  | with_reducible apply w_iList
  | with_reducible apply w_iTup
  | with_reducible apply w_iStr
  | with_reducible apply w_iRng1
  | with_reducible apply w_iRng2
  | with_reducible apply w_iZip
  | with_reducible apply w_iEnum
  | ((with_reducible apply d_iList); (focus (walk_at "sq"; done)))
  | ((with_reducible apply d_iTup); (focus (walk_at "hp"; done)))
  | with_reducible apply d_iStr
  | ((with_reducible apply d_iRng1); (focus (walk_at "num"; done)); (focus (walk_at "num"; done)))
  | ((with_reducible apply d_iRng2); (focus (walk_at "num"; done)); (focus (walk_at "num"; done)); (focus (walk_at "num"; done)); (focus (walk_at "num"; done)))
  | ((with_reducible apply d_iZip); (focus (walk_at "sq"; done)); (focus (walk_at "sq"; done)))
  | ((with_reducible apply d_iEnum); (focus (walk_at "sq"; done)))
  | walk_at "w2")
local macro_rules | `(tactic| walk_at "w2") => `(tactic| fail)
local macro_rules | `(tactic| walk_at "wn") => `(tactic| repeat walk_at "w1")
local macro_rules | `(tactic| walk_at "w") => `(tactic| repeat (first | walk_at "w1" | with_reducible apply w_ret))

local macro_rules | `(tactic| walk_at "w2") => `(tactic| first
  | ((with_reducible apply w_isInt); (focus (walk_at "r"; done)))
  | ((with_reducible apply w_isBool); (focus (walk_at "r"; done)))
  | ((with_reducible apply w_isStr); (focus (walk_at "r"; done)))
  | ((with_reducible apply w_isTup); (focus (walk_at "r"; done)))
  | ((with_reducible apply w_isLst); (focus (walk_at "r"; done)))
  | with_reducible apply w_fld
  | with_reducible apply w_sfld
  | with_reducible apply w_faug
  | with_reducible apply w_rAdd
  | with_reducible apply w_rSub
  | with_reducible apply w_make
  | with_reducible apply w_orT
  | with_reducible apply w_dgetd
  | with_reducible apply w_dgetk
  | with_reducible apply w_dsetd
  | ((with_reducible apply k_dgetd); (focus (walk_at "hp"; done)))
  | ((with_reducible apply k_dsetd); (focus (walk_at "hp"; done)))
  | walk_at "w3")
local macro_rules | `(tactic| walk_at "w3") => `(tactic| fail)

def Stp.gateL : Stp → List Str
  | .give x _ => [x]
  | _ => []
theorem strs_in {ns : List Str} {i : Int} (h0 : 0 ≤ i) (h1 : i < ns.length) : ∃ x, atI (ns.map V.str) i = some (.str x) ∧ x ∈ ns := by
  obtain ⟨v, e, m⟩ := atD (xs := ns.map V.str) h0 (by rw [List.length_map]; exact h1)
  obtain ⟨x, hx, rfl⟩ := List.mem_map.mp m
  exact ⟨x, e, hx⟩
/-- a drawn step: right, its gates among these -/
def StepD (ns gs : List Str) (bh : Int) (s : Stp) : Prop := s.ok ns bh ∧ ∀ x ∈ s.gateL, x ∈ gs
def sp__law_step (K : PySem.W.Frag) : Sp := fun vs H Q _ => ∃ (b nl gl : Addr) (ns gs : List Str) (k n : Nat) (bh lo : Int), vs = [.ref b, .ref nl, .ref gl, .int (k : Nat), .int bh, .int lo] ∧ Well H b n ∧ 10 ^ 8 ≤ n ∧ H nl = some (.lst (ns.map V.str)) ∧ H gl = some (.lst (gs.map V.str)) ∧ nl ≠ b ∧ gl ≠ b ∧ k < ns.length ∧ ns.length ≤ 100 ∧ gs ≠ [] ∧ gs.length ≤ 100 ∧ bh ≤ 1000 ∧ (∀ x ∈ ns, nameS x = true) ∧ (∀ x ∈ gs, nameS x = true) ∧
  ∀ (v : V) (s : Stp) (H' : Hp), Chg [b] H H' → Well H' b (n - 10 ^ 8) → Im H' v s.data → StepD ns gs bh s → Q v H'
def t__law_step (K : PySem.W.Frag) : TS :=
    tSeq (tAsg (tLst (tCons (tC (.str "cell")) (tCons (tC (.str "give")) (tCons (tC (.str "fork")) (tCons (tC (.str "call")) (tCons (tC (.str "wait")) (tCons (tC (.str "skip")) (tCons (tC (.str "fork")) (tCons (tC (.str "give")) (tCons (tC (.str "cell")) (tCons (tC (.str "fork")) (tNil)))))))))))) (gName 6))
    (tSeq (tAsg (tOp (rIxL K) (tVar 6) (tCall sp__law_draw [] E0 (tCons (tVar 0) (tCons (tC (.int 10)) (tNil))))) (gName 7))
    (tSeq (tAsg (tOp (rIxL K) (tLst (tCons (tC (.int 1)) (tCons (tC (.int 2)) (tCons (tC (.int 2)) (tCons (tC (.int 3)) (tCons (tC (.int 4)) (tNil))))))) (tCall sp__law_draw [] E0 (tCons (tVar 0) (tCons (tC (.int 5)) (tNil))))) (gName 8))
    (tSeq (tAsg (tCall (sp__law_expression 6) [] E0 (tCons (tVar 0) (tCons (tVar 8) (tNil)))) (gName 9))
    (tSeq (tIfS (tTest (tOp rEq (tVar 7) (tC (.str "cell")))) (tRet (tTup (tCons (tVar 7) (tCons (tOp (rIxL K) (tLst (tCons (tCall sp__law_draw [] E0 (tCons (tVar 0) (tCons (tC (.int 4)) (tNil)))) (tCons (tVar 9) (tNil)))) (tCall sp__law_draw [] E0 (tCons (tVar 0) (tCons (tC (.int 2)) (tNil))))) (tCons (tCall (sp__law_expression 6) [] E0 (tCons (tVar 0) (tCons (tVar 8) (tNil)))) (tNil)))))) (tNext))
    (tSeq (tIfS (tTest (tOp rEq (tVar 7) (tC (.str "give")))) (tRet (tTup (tCons (tVar 7) (tCons (tOp (rIxL K) (tVar 2) (tCall sp__law_draw [] E0 (tCons (tVar 0) (tCons (tCB (cLenQ K) (tCons (tVar 2) (tNil))) (tNil))))) (tCons (tVar 9) (tNil)))))) (tNext))
    (tSeq (tIfS (tAnd (tTest (tOp rEq (tVar 7) (tC (.str "skip")))) (tTest (tOp oGt (tVar 4) (tC (.int 0))))) (tRet (tTup (tCons (tVar 7) (tCons (tVar 9) (tCons (tOp oAdd (tC (.int 1)) (tCall sp__law_draw [] E0 (tCons (tVar 0) (tCons (tVar 4) (tNil))))) (tNil)))))) (tNext))
    (tSeq (tIfS (tOr (tTest (tOp rEq (tVar 7) (tC (.str "wait")))) (tTest (tOp rEq (tVar 7) (tC (.str "skip"))))) (tRet (tTup (tCons (tC (.str "wait")) (tNil)))) (tNext))
    (tSeq (tAsg (tOp oSub (tOp oSub (tCB (cLenQ K) (tCons (tVar 1) (tNil))) (tVar 3)) (tC (.int 1))) (gName 10))
    (tSeq (tIfS (tAnd (tTest (tOp rEq (tVar 5) (tC (.int 1)))) (tOr (tTest (tOp rEq (tVar 10) (tC (.int 0)))) (tTest (tOp rEq (tCall sp__law_draw [] E0 (tCons (tVar 0) (tCons (tC (.int 6)) (tNil)))) (tC (.int 0)))))) (tRet (tTup (tCons (tVar 7) (tCons (tOp (rIxL K) (tVar 1) (tCall sp__law_draw [] E0 (tCons (tVar 0) (tCons (tCB (cLenQ K) (tCons (tVar 1) (tNil))) (tNil))))) (tCons (tTup (tCons (tC (.str "less")) (tCons (tTup (tCons (tC (.str "arg")) (tNil))) (tCons (tC (.int 1)) (tNil))))) (tNil)))))) (tNext))
    (tSeq (tIfS (tTest (tOp rEq (tVar 10) (tC (.int 0)))) (tRet (tTup (tCons (tC (.str "give")) (tCons (tOp (rIxL K) (tVar 2) (tCall sp__law_draw [] E0 (tCons (tVar 0) (tCons (tCB (cLenQ K) (tCons (tVar 2) (tNil))) (tNil))))) (tCons (tVar 9) (tNil)))))) (tNext))
    (tRet (tTup (tCons (tVar 7) (tCons (tOp (rIxL K) (tVar 1) (tOp oAdd (tOp oAdd (tVar 3) (tC (.int 1))) (tCall sp__law_draw [] E0 (tCons (tVar 0) (tCons (tVar 10) (tNil)))))) (tCons (tVar 9) (tNil))))))))))))))))
theorem pure__law_step {K : PySem.W.Frag} (vs : List V) (H : Hp) (Q : VK) (E : XK) (h : sp__law_step K vs H Q E) : t__law_step K (fin Q) (start ["well", "names", "gates", "k", "behind", "loose", "words", "word", "wide", "one", "after"] vs) H := by
  obtain ⟨b, nl, gl, ns, gs, k, n, bh, lo, rfl, bag, hn, hnl, hgl, nlb, glb, hk, ln, gne, lg, hbh, lows, lowg, q⟩ := h
  show t__law_step K _ [some (.ref b), some (.ref nl), some (.ref gl), some (.int (k : Nat)), some (.int bh), some (.int lo), none, none, none, none, none] H
  unfold t__law_step
  have gpos : 0 < gs.length := List.length_pos_iff.mpr gne
  walk_at "w"
  refine k_lst (by walk_at "sz") fun wl H1 nwl c1 hwl => ?_
  have wb : wl ≠ b := (bag.ne nwl).symm
  walk_at "w"
  refine u_draw (bag.same c1) (by omega) (by decide) (by decide) fun u H2 c2 bag2 u0 u1 => ?_
  obtain ⟨y, ey, hy⟩ := atD (xs := [V.str "cell", V.str "give", V.str "fork", V.str "call", V.str "wait", V.str "skip", V.str "fork", V.str "give", V.str "cell", V.str "fork"]) u0 u1
  refine w_ixL (sqL (c2.at1 hwl wb)) ey ?_
  walk_at "w"
  refine k_lst (by walk_at "sz") fun dl H3 ndl c3 hdl => ?_
  have db : dl ≠ b := (bag2.ne ndl).symm
  walk_at "w"
  refine u_draw (bag2.same c3) (by omega) (by decide) (by decide) fun u' H4 c4 bag4 u0' u1' => ?_
  obtain ⟨yd, eyd, hyd⟩ := atD (xs := [V.int 1, V.int 2, V.int 2, V.int 3, V.int 4]) u0' u1'
  refine w_ixL (sqL (c4.at1 hdl db)) eyd ?_
  obtain ⟨wd, rfl, wd1, wd4⟩ : ∃ wd : Nat, yd = .int (wd : Nat) ∧ 1 ≤ wd ∧ wd ≤ 4 := by
    simp only [List.mem_cons, List.not_mem_nil, or_false] at hyd
    rcases hyd with rfl | rfl | rfl | rfl | rfl
    · exact ⟨1, rfl, by decide, by decide⟩
    · exact ⟨2, rfl, by decide, by decide⟩
    · exact ⟨2, rfl, by decide, by decide⟩
    · exact ⟨3, rfl, by decide, by decide⟩
    · exact ⟨4, rfl, by decide, by decide⟩
  walk_at "w"
  refine ⟨b, wd, _, rfl, bag4, wd1, by omega, by omega, fun v1 e1 H5 c5 bag5 ie1 de1 _ => ?_⟩
  have c05 : Chg [b] H H5 := (((c1.pre c2).same c3).both c4).both c5
  have hnl5 := c05.at1 hnl nlb
  have hgl5 := c05.at1 hgl glb
  have lns : (ns.map V.str).length = ns.length := List.length_map _
  have lgs : (gs.map V.str).length = gs.length := List.length_map _
  have hy6 : y = .str "cell" ∨ y = .str "give" ∨ (y = .str "fork" ∨ y = .str "call") ∨ y = .str "wait" ∨ y = .str "skip" := by
    simp only [List.mem_cons, List.not_mem_nil, or_false] at hy
    rcases hy with rfl | rfl | rfl | rfl | rfl | rfl | rfl | rfl | rfl | rfl <;> simp
  rcases hy6 with rfl | rfl | hfc | rfl | rfl
  · walk_at "w"
    refine u_draw bag5 (by omega) (by decide) (by decide) fun c1' H6 c6 bag6 c0 c1'' => ?_
    walk_at "w"
    refine k_lst (by walk_at "sz") fun pl H7 npl c7 hpl => ?_
    have plb : pl ≠ b := (bag6.ne npl).symm
    walk_at "w"
    refine u_draw (bag6.same c7) (by omega) (by decide) (by decide) fun u2 H8 c8 bag8 u20 u21 => ?_
    obtain ⟨z, ez, hz⟩ := atD (xs := [V.int c1', v1]) u20 u21
    refine w_ixL (sqL (c8.at1 hpl plb)) ez ?_
    have c58 : Chg [b] H5 H8 := (c6.same c7).both c8
    obtain ⟨e2, ie2, de2⟩ : ∃ e2 : Ex, Im H8 z e2.data ∧ e2.deep ≤ 5 := by
      simp only [List.mem_cons, List.not_mem_nil, or_false] at hz
      rcases hz with rfl | rfl
      · exact ⟨.num c1', .int _, by show 1 ≤ 5; decide⟩
      · exact ⟨e1, ie1.im c58, by omega⟩
    walk_at "w"
    refine ⟨b, wd, _, rfl, bag8, wd1, by omega, by omega, fun v3 e3 H9 c9 bag9 ie3 de3 _ => ?_⟩
    walk_at "w"
    refine k_tup (by walk_at "sz") fun T H10 nT c10 hT => ?_
    exact q (.ref T) (.cell e2 e3) H10 (((c05.both c58).both c9).same c10) ((bag9.same c10).le (by omega)) (.tup hT (.cons (.str _) (.cons ((ie2.im c9).im c10) (.cons (ie3.im c10) .nil)))) ⟨⟨de2, by omega⟩, fun x hx => by cases hx⟩
  · walk_at "w"
    rw [lgs]
    refine u_draw bag5 (by omega) (by omega) (by omega) fun ug Hg cg bagg ug0 ug1 => ?_
    obtain ⟨gx, egx, mgx⟩ := strs_in ug0 ug1
    refine w_ixL (sqL (cg.at1 hgl5 glb)) egx ?_
    walk_at "w"
    refine k_tup (by walk_at "sz") fun T HT nT cT hT => ?_
    exact q (.ref T) (.give gx e1) HT ((c05.both cg).same cT) ((bagg.same cT).le (by omega)) (.tup hT (.cons (.str _) (.cons (.str _) (.cons ((ie1.im cg).im cT) .nil)))) ⟨⟨lowg _ mgx, by omega⟩, fun x hx => by rw [List.mem_singleton.mp hx]; exact mgx⟩
  · rcases hfc with rfl | rfl
    all_goals
      walk_at "w"
      refine w_iteD (fun hl => ?_) (fun hl => ?_)
      · walk_at "w"
        try rw [lns]
        refine w_iteD (fun ha => ?_) (fun ha => ?_)
        · walk_at "w"
          try rw [lns]
          refine u_draw bag5 (by omega) (by omega) (by omega) fun ug Hg cg bagg ug0 ug1 => ?_
          obtain ⟨gx, egx, mgx⟩ := strs_in ug0 ug1
          refine w_ixL (sqL (cg.at1 hnl5 nlb)) egx ?_
          walk_at "w"
          refine k_tup (by walk_at "sz") fun T1 H1' nT1 cT1 hT1 => ?_
          walk_at "w"
          refine k_tup (by walk_at "sz") fun T2 H2' nT2 cT2 hT2 => ?_
          walk_at "w"
          refine k_tup (by walk_at "sz") fun T3 H3' nT3 cT3 hT3 => ?_
          have cc := (cT1.same cT2).same cT3
          first
            | exact q (.ref T3) (.fork gx (.less .arg (.num 1))) H3' ((c05.both cg).same cc) ((bagg.same cc).le (by omega)) (.tup hT3 (.cons (.str _) (.cons (.str _) (.cons (.tup (cT3.at hT2) (.cons (.str _) (.cons (.tup ((cT2.same cT3).at hT1) (.cons (.str _) .nil)) (.cons (.int _) .nil)))) .nil)))) ⟨⟨lows _ mgx, mgx, by show 2 ≤ 5; decide⟩, fun x hx => by cases hx⟩
            | exact q (.ref T3) (.call gx (.less .arg (.num 1))) H3' ((c05.both cg).same cc) ((bagg.same cc).le (by omega)) (.tup hT3 (.cons (.str _) (.cons (.str _) (.cons (.tup (cT3.at hT2) (.cons (.str _) (.cons (.tup ((cT2.same cT3).at hT1) (.cons (.str _) .nil)) (.cons (.int _) .nil)))) .nil)))) ⟨⟨lows _ mgx, mgx, by show 2 ≤ 5; decide⟩, fun x hx => by cases hx⟩
        · walk_at "w"
          refine u_draw bag5 (by omega) (by decide) (by decide) fun u6 H6 c6 bag6 u60 u61 => ?_
          walk_at "w"
          refine w_iteD (fun hu => ?_) (fun hu => ?_)
          · walk_at "w"
            try rw [lns]
            refine u_draw bag6 (by omega) (by omega) (by omega) fun ug Hg cg bagg ug0 ug1 => ?_
            obtain ⟨gx, egx, mgx⟩ := strs_in ug0 ug1
            refine w_ixL (sqL ((c6.both cg).at1 hnl5 nlb)) egx ?_
            walk_at "w"
            refine k_tup (by walk_at "sz") fun T1 H1' nT1 cT1 hT1 => ?_
            walk_at "w"
            refine k_tup (by walk_at "sz") fun T2 H2' nT2 cT2 hT2 => ?_
            walk_at "w"
            refine k_tup (by walk_at "sz") fun T3 H3' nT3 cT3 hT3 => ?_
            have cc := (cT1.same cT2).same cT3
            first
              | exact q (.ref T3) (.fork gx (.less .arg (.num 1))) H3' ((c05.both (c6.both cg)).same cc) ((bagg.same cc).le (by omega)) (.tup hT3 (.cons (.str _) (.cons (.str _) (.cons (.tup (cT3.at hT2) (.cons (.str _) (.cons (.tup ((cT2.same cT3).at hT1) (.cons (.str _) .nil)) (.cons (.int _) .nil)))) .nil)))) ⟨⟨lows _ mgx, mgx, by show 2 ≤ 5; decide⟩, fun x hx => by cases hx⟩
              | exact q (.ref T3) (.call gx (.less .arg (.num 1))) H3' ((c05.both (c6.both cg)).same cc) ((bagg.same cc).le (by omega)) (.tup hT3 (.cons (.str _) (.cons (.str _) (.cons (.tup (cT3.at hT2) (.cons (.str _) (.cons (.tup ((cT2.same cT3).at hT1) (.cons (.str _) .nil)) (.cons (.int _) .nil)))) .nil)))) ⟨⟨lows _ mgx, mgx, by show 2 ≤ 5; decide⟩, fun x hx => by cases hx⟩
          · walk_at "w"
            try rw [lns]
            refine w_iteD (fun ha0 => ?_) (fun ha0 => ?_)
            · walk_at "w"
              rw [lgs]
              refine u_draw bag6 (by omega) (by omega) (by omega) fun ug Hg cg bagg ug0 ug1 => ?_
              obtain ⟨gx, egx, mgx⟩ := strs_in ug0 ug1
              refine w_ixL (sqL ((c6.both cg).at1 hgl5 glb)) egx ?_
              walk_at "w"
              refine k_tup (by walk_at "sz") fun T HT nT cT hT => ?_
              exact q (.ref T) (.give gx e1) HT ((c05.both (c6.both cg)).same cT) ((bagg.same cT).le (by omega)) (.tup hT (.cons (.str _) (.cons (.str _) (.cons ((ie1.im (c6.both cg)).im cT) .nil)))) ⟨⟨lowg _ mgx, by omega⟩, fun x hx => by rw [List.mem_singleton.mp hx]; exact mgx⟩
            · have ha0' : ¬ ((ns.length : Int) - (k : Nat) - 1 = 0) := fun z => ha0 (by rw [z])
              walk_at "w"
              try rw [lns]
              refine u_draw bag6 (by omega) (by omega) (by omega) fun ug Hg cg bagg ug0 ug1 => ?_
              obtain ⟨gx, egx, mgx⟩ := strs_in (ns := ns) (i := ((k : Nat) : Int) + 1 + ug) (by omega) (by omega)
              walk_at "w"
              refine k_tup (by walk_at "sz") fun T HT nT cT hT => ?_
              first
                | exact q (.ref T) (.fork gx e1) HT ((c05.both (c6.both cg)).same cT) ((bagg.same cT).le (by omega)) (.tup hT (.cons (.str _) (.cons (.str _) (.cons ((ie1.im (c6.both cg)).im cT) .nil)))) ⟨⟨lows _ mgx, mgx, by omega⟩, fun x hx => by cases hx⟩
                | exact q (.ref T) (.call gx e1) HT ((c05.both (c6.both cg)).same cT) ((bagg.same cT).le (by omega)) (.tup hT (.cons (.str _) (.cons (.str _) (.cons ((ie1.im (c6.both cg)).im cT) .nil)))) ⟨⟨lows _ mgx, mgx, by omega⟩, fun x hx => by cases hx⟩
      · walk_at "w"
        try rw [lns]
        refine w_iteD (fun ha0 => ?_) (fun ha0 => ?_)
        · walk_at "w"
          rw [lgs]
          refine u_draw bag5 (by omega) (by omega) (by omega) fun ug Hg cg bagg ug0 ug1 => ?_
          obtain ⟨gx, egx, mgx⟩ := strs_in ug0 ug1
          refine w_ixL (sqL (cg.at1 hgl5 glb)) egx ?_
          walk_at "w"
          refine k_tup (by walk_at "sz") fun T HT nT cT hT => ?_
          exact q (.ref T) (.give gx e1) HT ((c05.both cg).same cT) ((bagg.same cT).le (by omega)) (.tup hT (.cons (.str _) (.cons (.str _) (.cons ((ie1.im cg).im cT) .nil)))) ⟨⟨lowg _ mgx, by omega⟩, fun x hx => by rw [List.mem_singleton.mp hx]; exact mgx⟩
        · have ha0' : ¬ ((ns.length : Int) - (k : Nat) - 1 = 0) := fun z => ha0 (by rw [z])
          walk_at "w"
          try rw [lns]
          refine u_draw bag5 (by omega) (by omega) (by omega) fun ug Hg cg bagg ug0 ug1 => ?_
          obtain ⟨gx, egx, mgx⟩ := strs_in (ns := ns) (i := ((k : Nat) : Int) + 1 + ug) (by omega) (by omega)
          walk_at "w"
          refine k_tup (by walk_at "sz") fun T HT nT cT hT => ?_
          first
            | exact q (.ref T) (.fork gx e1) HT ((c05.both cg).same cT) ((bagg.same cT).le (by omega)) (.tup hT (.cons (.str _) (.cons (.str _) (.cons ((ie1.im cg).im cT) .nil)))) ⟨⟨lows _ mgx, mgx, by omega⟩, fun x hx => by cases hx⟩
            | exact q (.ref T) (.call gx e1) HT ((c05.both cg).same cT) ((bagg.same cT).le (by omega)) (.tup hT (.cons (.str _) (.cons (.str _) (.cons ((ie1.im cg).im cT) .nil)))) ⟨⟨lows _ mgx, mgx, by omega⟩, fun x hx => by cases hx⟩
  · walk_at "w"
    refine k_tup (by walk_at "sz") fun T H6 nT c6 hT => ?_
    exact q (.ref T) .wait H6 (c05.same c6) ((bag5.same c6).le (by omega)) (.tup hT (.cons (.str _) .nil)) ⟨trivial, fun x hx => by cases hx⟩
  · walk_at "w"
    refine w_iteD (fun hb0 => ?_) (fun hb0 => ?_)
    · walk_at "w"
      refine u_draw bag5 (by omega) (by omega) (by omega) fun uk H6 c6 bag6 uk0 uk1 => ?_
      walk_at "w"
      refine k_tup (by walk_at "sz") fun T H7 nT c7 hT => ?_
      exact q (.ref T) (.skip e1 (1 + uk)) H7 ((c05.both c6).same c7) ((bag6.same c7).le (by omega)) (.tup hT (.cons (.str _) (.cons ((ie1.im c6).im c7) (.cons (.int _) .nil)))) ⟨⟨by omega, by omega, by omega⟩, fun x hx => by cases hx⟩
    · walk_at "w"
      refine k_tup (by walk_at "sz") fun T H6 nT c6 hT => ?_
      exact q (.ref T) .wait H6 (c05.same c6) ((bag5.same c6).le (by omega)) (.tup hT (.cons (.str _) .nil)) ⟨trivial, fun x hx => by cases hx⟩
end Fg
--LAW k10
namespace Fg
open PySem PySem.Spec PyProof.Rows L2
/-! ### the walk's small steps -/
local macro_rules | `(tactic| walk_at "hp") => `(tactic| first
  | assumption
  | exact upd_same
  | (refine Chg.at (by assumption) ?_; walk_at "hp")
  | (refine Chg.at1 (by assumption) ?_ (by walk_at "ne"); walk_at "hp"))
local macro_rules | `(tactic| walk_at "ne") => `(tactic| first | assumption | (apply Ne.symm; assumption))
local macro_rules | `(tactic| walk_at "sq") => `(tactic| first | assumption | exact sqL (by walk_at "hp") | (refine Chg.seq (by assumption) ?_; walk_at "sq"))
local macro_rules | `(tactic| walk_at "sz") => `(tactic| first | assumption | exact Nat.zero_le _ | (simp only [List.length_cons, List.length_nil]; decide) | exact Nat.le_trans (by first | omega | (simp; done) | (simp; omega)) (show 100000 ≤ sizeLine by decide) | exact Nat.lt_of_lt_of_le (by first | omega | (simp; done) | (simp; omega)) (show 100000 ≤ sizeLine by decide))
local macro_rules | `(tactic| walk_at "ix") => `(tactic| first | exact at0 | exact at1 | exact at2 | exact at3 | assumption | exact rfl | walk_at "ix2")
local macro_rules | `(tactic| walk_at "ix2") => `(tactic| fail)
local macro_rules | `(tactic| walk_at "num") => `(tactic| first | assumption | omega | decide | walk_at "num2")
local macro_rules | `(tactic| walk_at "num2") => `(tactic| fail)
local macro_rules | `(tactic| walk_at "im") => `(tactic| first | assumption | exact R.non (S := fun _ => False) | exact R.bl (S := fun _ => False) _ | exact R.int (S := fun _ => False) _ | exact R.str (S := fun _ => False) _ | (refine R.im (by assumption) ?_; walk_at "im"))
local macro_rules | `(tactic| walk_at "r") => `(tactic| first | assumption | exact R.non (S := fun _ => False) | exact R.bl (S := fun _ => False) _ | exact R.int (S := fun _ => False) _ | exact R.str (S := fun _ => False) _ | (refine R.same (by assumption) ?_; walk_at "r") | exact R.any (by walk_at "im"))
local macro_rules | `(tactic| walk_at "chg") => `(tactic| first
  | exact Chg.refl
  | assumption
  | (refine Chg.same ?_ (by assumption); walk_at "chg")
  | (refine Chg.both ?_ (by assumption); walk_at "chg")
  | (refine Chg.pre (by assumption) ?_; walk_at "chg"))
local macro_rules | `(tactic| walk_at "w1") => `(tactic| first
  | with_reducible apply w_seq
  | with_reducible apply w_asg
  | ((with_reducible apply w_var); (focus (exact rfl)))
  | with_reducible apply w_c
  | with_reducible apply w_op
  | with_reducible apply w_cons
  | with_reducible apply w_nil
  | with_reducible apply w_gName
  | with_reducible apply w_if
  | with_reducible apply w_test
  | with_reducible apply w_B
  | with_reducible apply w_isbl
  | with_reducible apply w_retN
  | with_reducible apply w_next
  | with_reducible apply w_drop
  | with_reducible apply w_cb
  | with_reducible apply w_call
  | with_reducible apply w_callN
  | with_reducible apply w_bm
  | with_reducible apply w_bm0
  | ((with_reducible apply w_tyL); (focus (walk_at "hp"; done)))
  | with_reducible apply w_dput
  | with_reducible apply w_m1
  | with_reducible apply w_isstr
  | with_reducible apply w_and
  | with_reducible apply w_or
  | with_reducible apply w_not
  | with_reducible apply w_andV
  | with_reducible apply w_orV
  | with_reducible apply w_notV
  | with_reducible apply w_ifE
  | with_reducible apply w_chain
  | with_reducible apply w_un
  | with_reducible apply w_neg
  | with_reducible apply w_add
  | with_reducible apply w_sub
  | ((with_reducible apply w_mod); (focus (walk_at "num"; done)))
  | ((with_reducible apply w_mul); (focus (walk_at "num"; done)))
  | ((with_reducible apply w_fdiv); (focus (walk_at "num"; done)))
  | ((with_reducible apply w_pow); (focus (walk_at "num"; done)))
  | with_reducible apply w_lt
  | with_reducible apply w_le
  | with_reducible apply w_gt
  | with_reducible apply w_ge
  | with_reducible apply w_ltS
  | with_reducible apply w_geS
  | with_reducible apply w_inC
  | with_reducible apply w_notInC
  | with_reducible apply w_isN
  | with_reducible apply w_notN
  | with_reducible apply w_isB
  | with_reducible apply w_notB
  | ((with_reducible apply w_addS); (focus (walk_at "sz"; done)))
  | ((with_reducible apply w_ixL); (focus (walk_at "sq"; done)); (focus (walk_at "ix"; done)))
  | ((with_reducible apply w_ixT); (focus (walk_at "hp"; done)); (focus (walk_at "ix"; done)))
  | ((with_reducible apply w_ixS); (focus (walk_at "sz"; done)); (focus (walk_at "ix"; done)))
  | with_reducible apply w_gSub
  | ((with_reducible apply w_gTup); (focus (walk_at "hp"; done)); (focus (exact rfl)))
  | with_reducible apply w_gCons
  | with_reducible apply w_gNil
  | ((with_reducible apply w_aug); (focus (exact rfl)))
  | with_reducible apply w_ipI
  | ((with_reducible apply w_eq); (focus (exact rfl)))
  | ((with_reducible apply w_ne); (focus (exact rfl)))
  | with_reducible apply w_max
  | with_reducible apply w_min
  | with_reducible apply w_abs
  | with_reducible apply w_intB
  | with_reducible apply w_intI
  | with_reducible apply w_tup1
  | with_reducible apply w_lst1
  | with_reducible apply w_sl
  | with_reducible apply w_part
  | with_reducible apply w_noPart
  | with_reducible apply w_isint
  | ((with_reducible apply w_slS); (focus (walk_at "sz"; done)))
  | with_reducible apply w_iteT
  | with_reducible apply w_iteF
  | with_reducible apply w_iteN
  | ((with_reducible apply w_iteYes); (focus (exact rfl)))
  | ((with_reducible apply w_iteNo); (focus (exact rfl)))
  | ((with_reducible apply w_lenL); (focus (walk_at "sq"; done)))
  | ((with_reducible apply w_lenT); (focus (walk_at "hp"; done)))
  | ((with_reducible apply w_lenS); (focus (walk_at "sz"; done)))
  | with_reducible apply w_lc
  | with_reducible apply w_for
  | with_reducible apply w_yes
  | ((with_reducible apply w_wipe); (focus (exact rfl)))
  | with_reducible apply w_iList
  | with_reducible apply w_iTup
  | with_reducible apply w_iStr
  | with_reducible apply w_iRng1
  | with_reducible apply w_iRng2
  | with_reducible apply w_iZip
  | with_reducible apply w_iEnum
  | ((with_reducible apply d_iList); (focus (walk_at "sq"; done)))
  | ((with_reducible apply d_iTup); (focus (walk_at "hp"; done)))
  | with_reducible apply d_iStr
  | ((with_reducible apply d_iRng1); (focus (walk_at "num"; done)); (focus (walk_at "num"; done)))
  | ((with_reducible apply d_iRng2); (focus (walk_at "num"; done)); (focus (walk_at "num"; done)); (focus (walk_at "num"; done)); (focus (walk_at "num"; done)))
  | ((with_reducible apply d_iZip); (focus (walk_at "sq"; done)); (focus (walk_at "sq"; done)))
  | ((with_reducible apply d_iEnum); (focus (walk_at "sq"; done)))
  | walk_at "w2")
local macro_rules | `(tactic| walk_at "w2") => `(tactic| fail)
local macro_rules | `(tactic| walk_at "wn") => `(tactic| repeat walk_at "w1")
local macro_rules | `(tactic| walk_at "w") => `(tactic| repeat (first | walk_at "w1" | with_reducible apply w_ret))

local macro_rules | `(tactic| walk_at "w2") => `(tactic| first
  | ((with_reducible apply w_isInt); (focus (walk_at "r"; done)))
  | ((with_reducible apply w_isBool); (focus (walk_at "r"; done)))
  | ((with_reducible apply w_isStr); (focus (walk_at "r"; done)))
  | ((with_reducible apply w_isTup); (focus (walk_at "r"; done)))
  | ((with_reducible apply w_isLst); (focus (walk_at "r"; done)))
  | with_reducible apply w_fld
  | with_reducible apply w_sfld
  | with_reducible apply w_faug
  | with_reducible apply w_rAdd
  | with_reducible apply w_rSub
  | with_reducible apply w_make
  | with_reducible apply w_orT
  | with_reducible apply w_dgetd
  | with_reducible apply w_dgetk
  | with_reducible apply w_dsetd
  | ((with_reducible apply k_dgetd); (focus (walk_at "hp"; done)))
  | ((with_reducible apply k_dsetd); (focus (walk_at "hp"; done)))
  | walk_at "w3")
local macro_rules | `(tactic| walk_at "w3") => `(tactic| fail)

theorem stps_ix {H : Hp} {P : Nat → Stp → Prop} : ∀ {acc : List V}, (∀ (i : Nat) (y : V), acc[i]? = some y → ∃ s : Stp, Im H y s.data ∧ P i s) → ∃ ss : List Stp, ImA H acc (ss.map Stp.data) ∧ ss.length = acc.length ∧ ∀ (i : Nat) (s : Stp), ss[i]? = some s → P i s := by
  intro acc
  induction acc generalizing P with
  | nil => exact fun _ => ⟨[], .nil, rfl, fun i s h => by simp at h⟩
  | cons v r ih =>
    intro h
    obtain ⟨s, e1, e2⟩ := h 0 v rfl
    obtain ⟨ss, f1, f2, f3⟩ := ih (P := fun i s => P (i + 1) s) fun i y hy => h (i + 1) y hy
    refine ⟨s :: ss, .cons e1 f1, by rw [List.length_cons, List.length_cons, f2], fun i t ht => ?_⟩
    cases i with
    | zero => cases ht; exact e2
    | succ i => exact f3 i t ht
theorem stepsOk_ix {ns : List Str} : ∀ {ss : List Stp}, (∀ (i : Nat) (s : Stp), ss[i]? = some s → s.ok ns ((ss.length : Int) - i - 1)) → stepsOk ns ss
  | [], _ => trivial
  | s :: r, h => by
    refine ⟨?_, stepsOk_ix fun i t ht => ?_⟩
    · have := h 0 s rfl
      rw [List.length_cons] at this
      have e : ((r.length + 1 : Nat) : Int) - (0 : Nat) - 1 = (r.length : Int) := by omega
      rw [e] at this
      exact this
    · have := h (i + 1) t ht
      rw [List.length_cons] at this
      have e : ((r.length + 1 : Nat) : Int) - (i + 1 : Nat) - 1 = (r.length : Int) - i - 1 := by omega
      rw [e] at this
      exact this
theorem Stp.ok_mono {ns ms : List Str} {bh : Int} {s : Stp} (h : s.ok ns bh) (hm : ∀ x ∈ ns, x ∈ ms) : s.ok ms bh := by
  cases s with
  | fork x a => exact ⟨h.1, hm _ h.2.1, h.2.2⟩
  | call x a => exact ⟨h.1, hm _ h.2.1, h.2.2⟩
  | _ => exact h
theorem stepsOk_mono {ns ms : List Str} (hm : ∀ x ∈ ns, x ∈ ms) : ∀ {ss : List Stp}, stepsOk ns ss → stepsOk ms ss
  | [], _ => trivial
  | s :: r, h => ⟨Stp.ok_mono h.1 hm, stepsOk_mono hm h.2⟩
/-- what is drawn -/
structure PrgD (ns gs : List Str) (p : Prg) : Prop where
  ok : PrgOk p
  perm : (p.map (·.1)).Perm ns
  nd : ns.Nodup
  pos : 0 < ns.length
  few : ns.length ≤ 12
  short : ∀ r ∈ p, r.2.length ≤ 12
  gates : ∀ r ∈ p, ∀ s ∈ r.2, ∀ x ∈ s.gateL, x ∈ gs
def sp__law_program (K : PySem.W.Frag) : Sp := fun vs H Q _ => ∃ (a : Addr) (script : List Int) (most loose : Int), vs = [.ref a, .int most, .int loose] ∧ SqL K H a (script.map V.int) ∧ 1 ≤ most ∧ most ≤ 12 ∧
  ∀ (T nl pl : Addr) (H' : Hp) (ns gs : List Str) (p : Prg), Chg [] H H' → H' T = some (.tup [.ref nl, .ref pl]) → H' nl = some (.lst (ns.map V.str)) → R (fun a => H a = none) H' (.ref pl) (prgD p) → PrgD ns gs p → gs.length = 3 → Q (.ref T) H'
def t__law_program_8 (K : PySem.W.Frag) : TS :=
    tSeq (tFor (iRng1 (tCons (tVar 5) (tNil))) (gName 7) (tSeq (tAsg (tCall sp__law_well [] E0 (tCons (tCall (sp__law_cell_at K) [] E0 (tCons (tVar 0) (tCons (tOp oAdd (tVar 7) (tC (.int 1))) (tNil)))) (tCons (tVar 7) (tNil)))) (gName 10))
    (tSeq (tAsg (tCall sp__law_draw [] E0 (tCons (tVar 10) (tCons (tOp (rIxL K) (tLst (tCons (tC (.int 8)) (tCons (tC (.int 13)) (tNil)))) (tVar 4)) (tNil)))) (gName 11))
    (tSeq (tIfS (tTest (tOp rEq (tVar 7) (tC (.int 0)))) (tAsg (tCB cMax (tCons (tVar 11) (tCons (tC (.int 2)) (tNil)))) (gName 11)) (tNext))
    (tSeq (tAsg (tLc (iRng1 (tCons (tVar 11) (tNil))) (gName 13) (tYes) (tCall (sp__law_step K) [] E0 (tCons (tVar 10) (tCons (tVar 6) (tCons (tVar 8) (tCons (tVar 7) (tCons (tOp oSub (tOp oSub (tVar 11) (tVar 13)) (tC (.int 1))) (tCons (tVar 2) (tNil)))))))) [13]) (gName 12))
    (tDrop (tBM K "list" rAppend (tVar 9) (tCons (tTup (tCons (tOp (rIxL K) (tVar 6) (tVar 7)) (tCons (tVar 12) (tNil)))) (tNil)))))))))
    (tRet (tTup (tCons (tVar 6) (tCons (tCB (rSortedR K) (tCons (tVar 9) (tNil))) (tNil)))))
def PgI (H0 : Hp) (a fl nl gl hb : Addr) (ns gs : List Str) (most loose great many : Int) (i : Nat) (σ : L2.St) (H2 : Hp) : Prop := Chg [] H0 H2 ∧ H2 nl = some (.lst (ns.map V.str)) ∧ H2 gl = some (.lst (gs.map V.str)) ∧ ∃ (xs : List V) (rs : Prg) (y7 y10 y11 y12 : Option V),
  σ = [some (.ref a), some (.int most), some (.int loose), some (.ref hb), some (.int great), some (.int many), some (.ref nl), y7, some (.ref gl), some (.ref fl), y10, y11, y12, none] ∧ H2 fl = some (.lst xs) ∧ RA (fun a => a ≠ fl ∧ H0 a = none) H2 xs (rs.map rowD) ∧ rs.map (·.1) = ns.take i ∧ ∀ r ∈ rs, r.2.length ≤ 12 ∧ stepsOk ns r.2 ∧ ∀ s ∈ r.2, ∀ x ∈ s.gateL, x ∈ gs
theorem prog_8 {K : PySem.W.Frag} {H0 H : Hp} {Q : VK} {a fl nl gl hb : Addr} {script : List Int} {ns gs : List Str} {most loose great many : Int} {y7 : Option V} (c0 : Chg [] H0 H) (hS : SqL K H0 a (script.map V.int)) (hnl : H nl = some (.lst (ns.map V.str))) (hgl : H gl = some (.lst (gs.map V.str))) (hfl : H fl = some (.lst [])) (nfl : H0 fl = none) (nlfl : nl ≠ fl) (glfl : gl ≠ fl)
    (g0 : 0 ≤ great) (g1 : great ≤ 1) (em : (ns.length : Int) = many) (pos : 0 < ns.length) (few : ns.length ≤ 12) (nd : ns.Nodup) (low : ∀ x ∈ ns, nameS x = true) (gpos : gs.length = 3) (lowg : ∀ x ∈ gs, nameS x = true)
    (q : ∀ (T pl : Addr) (H' : Hp) (p : Prg), Chg [] H0 H' → H' T = some (.tup [.ref nl, .ref pl]) → H' nl = some (.lst (ns.map V.str)) → R (fun a => H0 a = none) H' (.ref pl) (prgD p) → PrgD ns gs p → Q (.ref T) H') :
    t__law_program_8 K (fin Q) [some (.ref a), some (.int most), some (.int loose), some (.ref hb), some (.int great), some (.int many), some (.ref nl), y7, some (.ref gl), some (.ref fl), none, none, none, none] H := by
  unfold t__law_program_8
  walk_at "w"
  refine for_it walk_range (PgI H0 a fl nl gl hb ns gs most loose great many) ⟨c0, hnl, hgl, [], [], _, _, _, _, rfl, hfl, .nil, rfl, fun r hr => (by cases hr)⟩ (fun _ _ _ _ _ => trivial) (fun i x σ H2 H3 hi z y => ?_) (fun σ H2 z => ?_)
  · obtain ⟨c2, hnl2, hgl2, xs, rs, y7, y10, y11, y12, rfl, hfl2, ra, en, ok⟩ := z
    obtain ⟨rfl, rfl⟩ := y
    have hi' : i < ns.length := by omega
    have lrs : rs.length = i := by
      have := congrArg List.length en
      rw [List.length_map, List.length_take] at this
      omega
    have lxs : xs.length = i := by rw [ra.length, List.length_map, lrs]
    walk_at "w"
    refine ⟨a, script, 0 + (i : Nat) + 1, rfl, c2.seq hS, by omega, fun cv => ?_⟩
    walk_at "w"
    refine ⟨cv, 0 + (i : Nat), rfl, by omega, by omega, fun b H4 nb c4 bag4 => ?_⟩
    walk_at "w"
    refine k_lst (by walk_at "sz") fun dl H5 ndl c5 hdl => ?_
    obtain ⟨dv, edv, hdv⟩ := atD (xs := [V.int 8, V.int 13]) g0 (by show great < 2; omega)
    obtain ⟨dz, rfl, dz0, dz1⟩ : ∃ dz : Int, dv = .int dz ∧ 8 ≤ dz ∧ dz ≤ 13 := by
      simp only [List.mem_cons, List.not_mem_nil, or_false] at hdv
      rcases hdv with rfl | rfl
      · exact ⟨8, rfl, by decide, by decide⟩
      · exact ⟨13, rfl, by decide, by decide⟩
    walk_at "w"
    refine u_draw (bag4.same c5) (by decide) (by omega) (by omega) fun u H6 c6 bag6 u0 u1 => ?_
    have cH6 : Chg [] H3 H6 := (c4.same c5).one c6 nb
    generalize hS : (tSeq (tAsg (tLc (iRng1 (tCons (tVar 11) (tNil))) (gName 13) (tYes) (tCall (sp__law_step K) [] E0 (tCons (tVar 10) (tCons (tVar 6) (tCons (tVar 8) (tCons (tVar 7) (tCons (tOp oSub (tOp oSub (tVar 11) (tVar 13)) (tC (.int 1))) (tCons (tVar 2) (tNil)))))))) [13]) (gName 12)) (tDrop (tBM K "list" rAppend (tVar 9) (tCons (tTup (tCons (tOp (rIxL K) (tVar 6) (tVar 7)) (tCons (tVar 12) (tNil)))) (tNil)))) : TS) = suf
    have app : ∀ rt bk ct (sz : Int), 0 ≤ sz → sz ≤ 12 →
        suf
          ⟨PgI H0 a fl nl gl hb ns gs most loose great many (i + 1), rt, bk, ct⟩ [some (.ref a), some (.int most), some (.int loose), some (.ref hb), some (.int great), some (.int many), some (.ref nl), some (.int (0 + (i : Nat))), some (.ref gl), some (.ref fl), some (.ref b), some (.int sz), y12, none] H6    := fun rt bk ct sz s0 s12 => by
      subst hS
      have b6 := bag6.some
      have hnl6 := cH6.at hnl2
      have hgl6 := cH6.at hgl2
      have hfl6 := cH6.at hfl2
      have nlb : nl ≠ b := fun z => by rw [z, nb] at hnl2; cases hnl2
      have glb : gl ≠ b := fun z => by rw [z, nb] at hgl2; cases hgl2
      have flb : fl ≠ b := fun z => by rw [z, nb] at hfl2; cases hfl2
      obtain ⟨xn, exn, axn⟩ : ∃ xn, ns[i]? = some xn ∧ atI (ns.map V.str) (0 + (i : Nat)) = some (.str xn) := by
        refine ⟨ns[i], List.getElem?_eq_getElem hi', ?_⟩
        rw [Int.zero_add]
        refine atI_nat ?_
        rw [List.getElem?_map, List.getElem?_eq_getElem hi']
        rfl
      walk_at "w"
      refine w_lcP walk_range [b] (fun j H => Well H b (10 ^ 12 - 1 - 10 ^ 8 * j)) (fun j y H => ∃ s : Stp, Im H y s.data ∧ StepD ns gs (sz - (j : Nat) - 1) s) (bag6.le (by omega)) (fun j Ha Hb p np c h => h.one c (fun z => b6 (by rw [z]; exact np))) (fun _ _ => trivial) (fun D j acc z Ha Hb hj nD hD el iv ca bga y => ?_) (fun D acc Ha nD ca bga el hD yss => ?_)
      · obtain ⟨rfl, rfl⟩ := y
        walk_at "w"
        have e0 : sz - (0 + ((j : Nat) : Int)) - 1 = sz - (j : Nat) - 1 := by omega
        rw [e0]
        refine ⟨b, nl, gl, ns, gs, i, _, sz - (j : Nat) - 1, loose, by show [V.ref b, V.ref nl, V.ref gl, V.int (0 + (i : Nat)), _, _] = _; rw [Int.zero_add], bga, by omega, ca.at1 hnl6 nlb, ca.at1 hgl6 glb, nlb, glb, hi', by omega, (fun z => by rw [z] at gpos; cases gpos), by omega, by omega, low, lowg, fun v s Hc cc bgc im oks => ?_⟩
        exact lcp_end (fun j Ha Hb p np c h => h.one c (fun z => b6 (by rw [z]; exact np))) (fun _ _ _ _ _ _ c h => by obtain ⟨s, h1, h2⟩ := h; exact ⟨s, h1.im c, h2⟩) nD (fun a ha => by rw [List.mem_singleton.mp ha]; exact b6) hD el (by omega) iv cc (bgc.le (by omega)) ⟨s, im, oks⟩
      · obtain ⟨ss, iss, lss, oks⟩ := stps_ix yss
        have lss' : (ss.length : Int) = sz := by rw [lss, el]; omega
        have c3a : Chg [] H3 Ha := cH6.one ca nb
        walk_at "w"
        refine k_tup (by walk_at "sz") fun T Hb nT cb hT => ?_
        have c3b : Chg [] H3 Hb := c3a.same cb
        have hflb := c3b.at hfl2
        walk_at "w"
        refine w_append hflb (by rw [lxs]; walk_at "sz") fun Hc cc hc => ?_
        have nD3 : H3 D = none := cH6.dom _ nD
        have Dfl : D ≠ fl := fun e => by rw [e, hfl2] at nD3; cases nD3
        have hTc : Hc T = some (.tup [.str xn, .ref D]) := cc.tup _ _ hT
        refine ⟨(c2.same c3b).one cc nfl, cc.at1 (c3b.at hnl2) nlfl, cc.at1 (c3b.at hgl2) glfl, xs ++ [.ref T], rs ++ [(xn, ss)], _, _, _, _, rfl, hc, ?_, ?_, fun r hr => ?_⟩
        · rw [List.map_append]
          refine ((ra.same c3b).keep cc fun a ha hm => ha.1 (List.mem_singleton.mp hm)).snoc (.tup hTc (.cons (.str _) (.cons (.lst ⟨Dfl, c2.dom _ nD3⟩ (cc.at1 (cb.at hD) Dfl) ?_) .nil)))
          exact (iss.im (cb.pre cc)).any
        · rw [List.map_append, en, List.take_add_one, exn]
          rfl
        · rcases List.mem_append.mp hr with hr | hr
          · exact ok r hr
          · rw [List.mem_singleton.mp hr]
            refine ⟨by show ss.length ≤ 12; omega, stepsOk_ix fun j s hs => ?_, fun s hs => ?_⟩
            · have := (oks j s hs).1
              rw [← lss'] at this
              exact this
            · obtain ⟨j, hj⟩ := List.getElem?_of_mem hs
              exact (oks j s hj).2
    walk_at "w"
    refine w_iteD (fun hl => ?_) (fun hl => ?_)
    · walk_at "w"
      refine app _ _ _ (if (2 : Int) > u then 2 else u) ?_ ?_
      · split <;> omega
      · split <;> omega
    · exact app _ _ _ u (by omega) (by omega)
  · obtain ⟨c2, hnl2, hgl2, xs, rs, y7, y10, y11, y12, rfl, hfl2, ra, en, ok⟩ := z
    rw [List.take_of_length_le (by omega)] at en
    walk_at "w"
    refine w_sortedP hfl2 ra (by rw [en]; exact nd) fun pl ys H3 p npl c3 hpl ra3 perm up => ?_
    walk_at "w"
    refine k_tup (by walk_at "sz") fun T H4 nT c4 hT => ?_
    have c24 := c3.same c4
    have mem : ∀ x ∈ ns, x ∈ p.map (·.1) := fun x hx => (perm.map (·.1)).mem_iff.mpr (by rw [en]; exact hx)
    have rin : ∀ r ∈ p, r ∈ rs := fun r hr => perm.mem_iff.mp hr
    have lp : p.length = ns.length := by
      rw [perm.length_eq]
      have := congrArg List.length en
      rw [List.length_map] at this
      exact this
    refine q T pl H4 p (c2.same c24) hT (c24.at hnl2) (.lst (c2.dom _ npl) (c4.at hpl) ((ra3.same c4).mono fun a h => h.2)) ⟨⟨fun r hr => low _ ?_, up, fun r hr => stepsOk_mono mem (ok r (rin r hr)).2.1, by omega, fun r hr => by have := (ok r (rin r hr)).1; omega⟩, by rw [← en]; exact perm.map _, nd, pos, few, fun r hr => (ok r (rin r hr)).1, fun r hr => (ok r (rin r hr)).2.2⟩
    rw [← en]
    exact List.mem_map.mpr ⟨r, rin r hr, rfl⟩
def t__law_program_5 (K : PySem.W.Frag) : TS :=
    tSeq (tFor (iRng1 (tCons (tOp oSub (tVar 5) (tC (.int 1))) (tNil))) (gName 7) (tDrop (tBM K "list" rAppend (tVar 6) (tCons (tCall (sp__law_new_name K) [] E0 (tCons (tVar 3) (tCons (tVar 6) (tNil)))) (tNil)))))
    (tSeq (tAsg (tLst (tCons (tC (.str "main")) (tCons (tCall (sp__law_new_name K) [] E0 (tCons (tVar 3) (tCons (tLst (tNil)) (tNil)))) (tCons (tCall (sp__law_new_name K) [] E0 (tCons (tVar 3) (tCons (tLst (tNil)) (tNil)))) (tNil))))) (gName 8))
    (tSeq (tAsg (tLst (tNil)) (gName 9))
    (tSeq (tFor (iRng1 (tCons (tVar 5) (tNil))) (gName 7) (tSeq (tAsg (tCall sp__law_well [] E0 (tCons (tCall (sp__law_cell_at K) [] E0 (tCons (tVar 0) (tCons (tOp oAdd (tVar 7) (tC (.int 1))) (tNil)))) (tCons (tVar 7) (tNil)))) (gName 10))
    (tSeq (tAsg (tCall sp__law_draw [] E0 (tCons (tVar 10) (tCons (tOp (rIxL K) (tLst (tCons (tC (.int 8)) (tCons (tC (.int 13)) (tNil)))) (tVar 4)) (tNil)))) (gName 11))
    (tSeq (tIfS (tTest (tOp rEq (tVar 7) (tC (.int 0)))) (tAsg (tCB cMax (tCons (tVar 11) (tCons (tC (.int 2)) (tNil)))) (gName 11)) (tNext))
    (tSeq (tAsg (tLc (iRng1 (tCons (tVar 11) (tNil))) (gName 13) (tYes) (tCall (sp__law_step K) [] E0 (tCons (tVar 10) (tCons (tVar 6) (tCons (tVar 8) (tCons (tVar 7) (tCons (tOp oSub (tOp oSub (tVar 11) (tVar 13)) (tC (.int 1))) (tCons (tVar 2) (tNil)))))))) [13]) (gName 12))
    (tDrop (tBM K "list" rAppend (tVar 9) (tCons (tTup (tCons (tOp (rIxL K) (tVar 6) (tVar 7)) (tCons (tVar 12) (tNil)))) (tNil)))))))))
    (tRet (tTup (tCons (tVar 6) (tCons (tCB (rSortedR K) (tCons (tVar 9) (tNil))) (tNil))))))))
theorem prog_5 {K : PySem.W.Frag} {H0 H : Hp} {Q : VK} {a nl hb : Addr} {script : List Int} {x0 : Str} {most loose great many : Int} {k : Nat} (c0 : Chg [] H0 H) (hS : SqL K H0 a (script.map V.int)) (bag : Well H hb k) (hk : 10000 ≤ k) (hb0 : H0 hb = none) (hnl : H nl = some (.lst [.str x0])) (nl0 : H0 nl = none) (nlb : nl ≠ hb) (lx0 : nameS x0 = true)
    (g0 : 0 ≤ great) (g1 : great ≤ 1) (m1 : 1 ≤ many) (m2 : many ≤ 12)
    (q : ∀ (T nl pl : Addr) (H' : Hp) (ns gs : List Str) (p : Prg), Chg [] H0 H' → H' T = some (.tup [.ref nl, .ref pl]) → H' nl = some (.lst (ns.map V.str)) → R (fun a => H0 a = none) H' (.ref pl) (prgD p) → PrgD ns gs p → gs.length = 3 → Q (.ref T) H') :
    t__law_program_5 K (fin Q) [some (.ref a), some (.int most), some (.int loose), some (.ref hb), some (.int great), some (.int many), some (.ref nl), none, none, none, none, none, none, none] H := by
  unfold t__law_program_5
  walk_at "w"
  refine for_it walk_range (fun i σ H4 => Chg [] H0 H4 ∧ Well H4 hb (k - 20 * i) ∧ ∃ (ns : List Str) (y7 : Option V), σ = [some (.ref a), some (.int most), some (.int loose), some (.ref hb), some (.int great), some (.int many), some (.ref nl), y7, none, none, none, none, none, none] ∧ H4 nl = some (.lst (ns.map V.str)) ∧ ns.length = i + 1 ∧ ns.Nodup ∧ ∀ x ∈ ns, nameS x = true)
    ⟨c0, bag, [x0], none, rfl, hnl, rfl, by simp, fun x hx => by rw [List.mem_singleton.mp hx]; exact lx0⟩ (fun _ _ _ _ _ => trivial) (fun i x σ H4 H5 hi z y => ?_) (fun σ H4 z => ?_)
  · obtain ⟨c4, bag4, ns, y7, rfl, hnl4, lns, nd, low⟩ := z
    obtain ⟨rfl, rfl⟩ := y
    walk_at "w"
    refine ⟨hb, nl, ns, _, rfl, bag4, by omega, hnl4, nlb, by omega, low, fun x1 H6 c6 bag6 nx nn => ?_⟩
    walk_at "w"
    refine w_append (c6.at1 hnl4 nlb) (by rw [List.length_map]; walk_at "sz") fun H7 c7 h7 => ?_
    refine ⟨(c4.one c6 hb0).one c7 nl0, (bag6.one c7 nlb.symm).le (by omega), ns ++ [x1], _, rfl, by rw [List.map_append]; exact h7, by rw [List.length_append, List.length_singleton, lns], ?_, fun x hx => ?_⟩
    · exact List.nodup_append.mpr ⟨nd, by simp, fun a ha b' hb' e => nn (by rw [← List.mem_singleton.mp hb', ← e]; exact ha)⟩
    · rcases List.mem_append.mp hx with hx | hx
      · exact low x hx
      · rw [List.mem_singleton.mp hx]; exact nx
  · obtain ⟨c4, bag4, ns, y7, rfl, hnl4, lns, nd, low⟩ := z
    walk_at "w"
    refine k_lst (by walk_at "sz") fun e1 H5 ne1 c5 he1 => ?_
    have e1b : e1 ≠ hb := (bag4.ne ne1).symm
    walk_at "w"
    refine ⟨hb, e1, [], _, rfl, bag4.same c5, by omega, he1, e1b, by decide, fun x hx => (by cases hx), fun x1 H6 c6 bag6 nx1 _ => ?_⟩
    walk_at "w"
    refine k_lst (by walk_at "sz") fun e2 H7 ne2 c7 he2 => ?_
    have e2b : e2 ≠ hb := (bag6.ne ne2).symm
    walk_at "w"
    refine ⟨hb, e2, [], _, rfl, bag6.same c7, by omega, he2, e2b, by decide, fun x hx => (by cases hx), fun x2 H8 c8 bag8 nx2 _ => ?_⟩
    walk_at "w"
    refine k_lst (by walk_at "sz") fun gl H9 ngl c9 hgl => ?_
    walk_at "w"
    refine k_lst (by walk_at "sz") fun fl H10 nfl c10 hfl => ?_
    have c48 : Chg [hb] H4 H8 := ((c5.pre c6).same c7).both c8
    have c08 : Chg [] H0 H8 := c4.one c48 hb0
    have c010 : Chg [] H0 H10 := (c08.same c9).same c10
    have hnl8 := c48.at1 hnl4 nlb
    have nlfl : nl ≠ fl := fun z => by rw [← z, c9.at hnl8] at nfl; cases nfl
    have glfl : gl ≠ fl := fun z => by rw [← z, hgl] at nfl; cases nfl
    change t__law_program_8 K (fin Q) [some (.ref a), some (.int most), some (.int loose), some (.ref hb), some (.int great), some (.int many), some (.ref nl), y7, some (.ref gl), some (.ref fl), none, none, none, none] H10
    exact prog_8 (ns := ns) (gs := ["main", x1, x2]) c010 hS (c10.at (c9.at hnl8)) (c10.at hgl) hfl ((c08.same c9).dom _ nfl) nlfl glfl g0 g1 (by omega) (by omega) (by omega) nd low rfl (fun x hx => by
      simp only [List.mem_cons, List.not_mem_nil, or_false] at hx
      rcases hx with rfl | rfl | rfl
      · decide +kernel
      · exact nx1
      · exact nx2) fun T pl H' p h1 h2 h3 h4 h5 => q T nl pl H' ns ["main", x1, x2] p h1 h2 h3 h4 h5 rfl
def t__law_program (K : PySem.W.Frag) : TS :=
    tSeq (tAsg (tCall sp__law_well [] E0 (tCons (tCall (sp__law_cell_at K) [] E0 (tCons (tVar 0) (tCons (tC (.int 0)) (tNil)))) (tCons (tC (.int 120)) (tNil)))) (gName 3))
    (tSeq (tAsg (tOp oFdiv (tCall sp__law_draw [] E0 (tCons (tVar 3) (tCons (tC (.int 8)) (tNil)))) (tC (.int 7))) (gName 4))
    (tSeq (tAsg (tOp oAdd (tC (.int 1)) (tCall sp__law_draw [] E0 (tCons (tVar 3) (tCons (tOp (rIxL K) (tLst (tCons (tVar 1) (tCons (tC (.int 12)) (tNil)))) (tVar 4)) (tNil))))) (gName 5))
    (tSeq (tAsg (tLst (tCons (tC (.str "main")) (tNil))) (gName 6))
    (tSeq (tIfS (tTest (tOp rEq (tCall sp__law_draw [] E0 (tCons (tVar 3) (tCons (tC (.int 3)) (tNil)))) (tC (.int 0)))) (tAsg (tLst (tCons (tCall (sp__law_new_name K) [] E0 (tCons (tVar 3) (tCons (tLst (tNil)) (tNil)))) (tNil))) (gName 6)) (tNext))
    (tSeq (tFor (iRng1 (tCons (tOp oSub (tVar 5) (tC (.int 1))) (tNil))) (gName 7) (tDrop (tBM K "list" rAppend (tVar 6) (tCons (tCall (sp__law_new_name K) [] E0 (tCons (tVar 3) (tCons (tVar 6) (tNil)))) (tNil)))))
    (tSeq (tAsg (tLst (tCons (tC (.str "main")) (tCons (tCall (sp__law_new_name K) [] E0 (tCons (tVar 3) (tCons (tLst (tNil)) (tNil)))) (tCons (tCall (sp__law_new_name K) [] E0 (tCons (tVar 3) (tCons (tLst (tNil)) (tNil)))) (tNil))))) (gName 8))
    (tSeq (tAsg (tLst (tNil)) (gName 9))
    (tSeq (tFor (iRng1 (tCons (tVar 5) (tNil))) (gName 7) (tSeq (tAsg (tCall sp__law_well [] E0 (tCons (tCall (sp__law_cell_at K) [] E0 (tCons (tVar 0) (tCons (tOp oAdd (tVar 7) (tC (.int 1))) (tNil)))) (tCons (tVar 7) (tNil)))) (gName 10))
    (tSeq (tAsg (tCall sp__law_draw [] E0 (tCons (tVar 10) (tCons (tOp (rIxL K) (tLst (tCons (tC (.int 8)) (tCons (tC (.int 13)) (tNil)))) (tVar 4)) (tNil)))) (gName 11))
    (tSeq (tIfS (tTest (tOp rEq (tVar 7) (tC (.int 0)))) (tAsg (tCB cMax (tCons (tVar 11) (tCons (tC (.int 2)) (tNil)))) (gName 11)) (tNext))
    (tSeq (tAsg (tLc (iRng1 (tCons (tVar 11) (tNil))) (gName 13) (tYes) (tCall (sp__law_step K) [] E0 (tCons (tVar 10) (tCons (tVar 6) (tCons (tVar 8) (tCons (tVar 7) (tCons (tOp oSub (tOp oSub (tVar 11) (tVar 13)) (tC (.int 1))) (tCons (tVar 2) (tNil)))))))) [13]) (gName 12))
    (tDrop (tBM K "list" rAppend (tVar 9) (tCons (tTup (tCons (tOp (rIxL K) (tVar 6) (tVar 7)) (tCons (tVar 12) (tNil)))) (tNil)))))))))
    (tRet (tTup (tCons (tVar 6) (tCons (tCB (rSortedR K) (tCons (tVar 9) (tNil))) (tNil)))))))))))))
theorem pure__law_program {K : PySem.W.Frag} (vs : List V) (H : Hp) (Q : VK) (E : XK) (h : sp__law_program K vs H Q E) : t__law_program K (fin Q) (start ["cells", "most", "loose", "head", "great", "many", "names", "k", "gates", "helpers", "well", "size", "rows", "at"] vs) H := by
  obtain ⟨a, script, most, loose, rfl, hS, m0, m1, q⟩ := h
  show t__law_program K _ [some (.ref a), some (.int most), some (.int loose), none, none, none, none, none, none, none, none, none, none, none] H
  unfold t__law_program
  walk_at "w"
  refine ⟨a, script, 0, rfl, hS, by decide, fun cv => ?_⟩
  walk_at "w"
  refine ⟨cv, 120, rfl, by decide, by decide, fun hb H1 nb c1 bag1 => ?_⟩
  walk_at "w"
  refine u_draw bag1 (by decide) (by decide) (by decide) fun u H2 c2 bag2 u0 u1 => ?_
  walk_at "w"
  refine w_fdiv (cdivS (by decide) (by decide)) ?_
  walk_at "w"
  refine k_lst (by walk_at "sz") fun dl H3 ndl c3 hdl => ?_
  have gr0 : 0 ≤ u / 7 := by omega
  have gr1 : u / 7 ≤ 1 := by omega
  obtain ⟨dv, edv, hdv⟩ := atD (xs := [V.int most, V.int 12]) gr0 (by show u / 7 < 2; omega)
  obtain ⟨dz, rfl, dz0, dz1⟩ : ∃ dz : Int, dv = .int dz ∧ 1 ≤ dz ∧ dz ≤ 12 := by
    simp only [List.mem_cons, List.not_mem_nil, or_false] at hdv
    rcases hdv with rfl | rfl
    · exact ⟨most, rfl, m0, m1⟩
    · exact ⟨12, rfl, by decide, by decide⟩
  walk_at "w"
  refine u_draw (bag2.same c3) (by decide) (by omega) (by omega) fun v H4 c4 bag4 v0 v1 => ?_
  walk_at "w"
  refine k_lst (by walk_at "sz") fun nl H5 nnl c5 hnl => ?_
  have c24 : Chg [hb] H1 H4 := (c2.same c3).both c4
  have c05 : Chg [] H H5 := (c1.one c24 nb).same c5
  have nl0 : H nl = none := (c1.one c24 nb).dom _ nnl
  have nlb : nl ≠ hb := (bag4.ne nnl).symm
  walk_at "w"
  refine u_draw (bag4.same c5) (by decide) (by decide) (by decide) fun w H6 c6 bag6 w0 w1 => ?_
  walk_at "w"
  refine w_iteD (fun hw => ?_) (fun hw => ?_)
  · walk_at "w"
    refine k_lst (by walk_at "sz") fun e1 H7 ne1 c7 he1 => ?_
    have e1b : e1 ≠ hb := (bag6.ne ne1).symm
    walk_at "w"
    refine ⟨hb, e1, [], _, rfl, bag6.same c7, by decide, he1, e1b, by decide, fun x hx => (by cases hx), fun x1 H8 c8 bag8 nx1 _ => ?_⟩
    walk_at "w"
    refine k_lst (by walk_at "sz") fun nl2 H9 nnl2 c9 hnl2 => ?_
    have c58 : Chg [hb] H5 H8 := (c6.same c7).both c8
    have c08 : Chg [] H H8 := c05.one c58 nb
    change t__law_program_5 K (fin Q) [some (.ref a), some (.int most), some (.int loose), some (.ref hb), some (.int (u / 7)), some (.int (1 + v)), some (.ref nl2), none, none, none, none, none, none, none] H9
    exact prog_5 (c08.same c9) hS (bag8.same c9) (by decide) nb hnl2 (c08.dom _ nnl2) (bag8.ne nnl2).symm nx1 gr0 gr1 (by omega) (by omega) q
  · change t__law_program_5 K (fin Q) [some (.ref a), some (.int most), some (.int loose), some (.ref hb), some (.int (u / 7)), some (.int (1 + v)), some (.ref nl), none, none, none, none, none, none, none] H6
    exact prog_5 (c05.one c6 nb) hS bag6 (by decide) nb (c6.at1 hnl nlb) nl0 nlb (by decide +kernel) gr0 gr1 (by omega) (by omega) q
end Fg
--LAW k10
namespace Fg
open PySem PySem.Spec PyProof.Rows L2
/-! ### the walk's small steps -/
local macro_rules | `(tactic| walk_at "hp") => `(tactic| first
  | assumption
  | exact upd_same
  | (refine Chg.at (by assumption) ?_; walk_at "hp")
  | (refine Chg.at1 (by assumption) ?_ (by walk_at "ne"); walk_at "hp"))
local macro_rules | `(tactic| walk_at "ne") => `(tactic| first | assumption | (apply Ne.symm; assumption))
local macro_rules | `(tactic| walk_at "sq") => `(tactic| first | assumption | exact sqL (by walk_at "hp") | (refine Chg.seq (by assumption) ?_; walk_at "sq"))
local macro_rules | `(tactic| walk_at "sz") => `(tactic| first | assumption | exact Nat.zero_le _ | (simp only [List.length_cons, List.length_nil]; decide) | exact Nat.le_trans (by first | omega | (simp; done) | (simp; omega)) (show 100000 ≤ sizeLine by decide) | exact Nat.lt_of_lt_of_le (by first | omega | (simp; done) | (simp; omega)) (show 100000 ≤ sizeLine by decide))
local macro_rules | `(tactic| walk_at "ix") => `(tactic| first | exact at0 | exact at1 | exact at2 | exact at3 | assumption | exact rfl | walk_at "ix2")
local macro_rules | `(tactic| walk_at "ix2") => `(tactic| fail)
local macro_rules | `(tactic| walk_at "num") => `(tactic| first | assumption | omega | decide | walk_at "num2")
local macro_rules | `(tactic| walk_at "num2") => `(tactic| fail)
local macro_rules | `(tactic| walk_at "im") => `(tactic| first | assumption | exact R.non (S := fun _ => False) | exact R.bl (S := fun _ => False) _ | exact R.int (S := fun _ => False) _ | exact R.str (S := fun _ => False) _ | (refine R.im (by assumption) ?_; walk_at "im"))
local macro_rules | `(tactic| walk_at "r") => `(tactic| first | assumption | exact R.non (S := fun _ => False) | exact R.bl (S := fun _ => False) _ | exact R.int (S := fun _ => False) _ | exact R.str (S := fun _ => False) _ | (refine R.same (by assumption) ?_; walk_at "r") | exact R.any (by walk_at "im"))
local macro_rules | `(tactic| walk_at "chg") => `(tactic| first
  | exact Chg.refl
  | assumption
  | (refine Chg.same ?_ (by assumption); walk_at "chg")
  | (refine Chg.both ?_ (by assumption); walk_at "chg")
  | (refine Chg.pre (by assumption) ?_; walk_at "chg"))
local macro_rules | `(tactic| walk_at "w1") => `(tactic| first
  | with_reducible apply w_seq
  | with_reducible apply w_asg
  | ((with_reducible apply w_var); (focus (exact rfl)))
  | with_reducible apply w_c
  | with_reducible apply w_op
  | with_reducible apply w_cons
  | with_reducible apply w_nil
  | with_reducible apply w_gName
  | with_reducible apply w_if
  | with_reducible apply w_test
  | with_reducible apply w_B
  | with_reducible apply w_isbl
  | with_reducible apply w_retN
  | with_reducible apply w_next
  | with_reducible apply w_drop
  | with_reducible apply w_cb
  | with_reducible apply w_call
  | with_reducible apply w_callN
  | with_reducible apply w_bm
  | with_reducible apply w_bm0
  | ((with_reducible apply w_tyL); (focus (walk_at "hp"; done)))
  | with_reducible apply w_dput
  | with_reducible apply w_m1
  | with_reducible apply w_isstr
  | with_reducible apply w_and
  | with_reducible apply w_or
  | with_reducible apply w_not
  | with_reducible apply w_andV
  | with_reducible apply w_orV
  | with_reducible apply w_notV
  | with_reducible apply w_ifE
  | with_reducible apply w_chain
  | with_reducible apply w_un
  | with_reducible apply w_neg
  | with_reducible apply w_add
  | with_reducible apply w_sub
  | ((with_reducible apply w_mod); (focus (walk_at "num"; done)))
  | ((with_reducible apply w_mul); (focus (walk_at "num"; done)))
  | ((with_reducible apply w_fdiv); (focus (walk_at "num"; done)))
  | ((with_reducible apply w_pow); (focus (walk_at "num"; done)))
  | with_reducible apply w_lt
  | with_reducible apply w_le
  | with_reducible apply w_gt
  | with_reducible apply w_ge
  | with_reducible apply w_ltS
  | with_reducible apply w_geS
  | with_reducible apply w_inC
  | with_reducible apply w_notInC
  | with_reducible apply w_isN
  | with_reducible apply w_notN
  | with_reducible apply w_isB
  | with_reducible apply w_notB
  | ((with_reducible apply w_addS); (focus (walk_at "sz"; done)))
  | ((with_reducible apply w_ixL); (focus (walk_at "sq"; done)); (focus (walk_at "ix"; done)))
  | ((with_reducible apply w_ixT); (focus (walk_at "hp"; done)); (focus (walk_at "ix"; done)))
  | ((with_reducible apply w_ixS); (focus (walk_at "sz"; done)); (focus (walk_at "ix"; done)))
  | with_reducible apply w_gSub
  | ((with_reducible apply w_gTup); (focus (walk_at "hp"; done)); (focus (exact rfl)))
  | with_reducible apply w_gCons
  | with_reducible apply w_gNil
  | ((with_reducible apply w_aug); (focus (exact rfl)))
  | with_reducible apply w_ipI
  | ((with_reducible apply w_eq); (focus (exact rfl)))
  | ((with_reducible apply w_ne); (focus (exact rfl)))
  | with_reducible apply w_max
  | with_reducible apply w_min
  | with_reducible apply w_abs
  | with_reducible apply w_intB
  | with_reducible apply w_intI
  | with_reducible apply w_tup1
  | with_reducible apply w_lst1
  | with_reducible apply w_sl
  | with_reducible apply w_part
  | with_reducible apply w_noPart
  | with_reducible apply w_isint
  | ((with_reducible apply w_slS); (focus (walk_at "sz"; done)))
  | with_reducible apply w_iteT
  | with_reducible apply w_iteF
  | with_reducible apply w_iteN
  | ((with_reducible apply w_iteYes); (focus (exact rfl)))
  | ((with_reducible apply w_iteNo); (focus (exact rfl)))
  | ((with_reducible apply w_lenL); (focus (walk_at "sq"; done)))
  | ((with_reducible apply w_lenT); (focus (walk_at "hp"; done)))
  | ((with_reducible apply w_lenS); (focus (walk_at "sz"; done)))
  | with_reducible apply w_lc
  | with_reducible apply w_for
  | with_reducible apply w_yes
  | ((with_reducible apply w_wipe); (focus (exact rfl)))
  | with_reducible apply w_iList
  | with_reducible apply w_iTup
  | with_reducible apply w_iStr
  | with_reducible apply w_iRng1
  | with_reducible apply w_iRng2
  | with_reducible apply w_iZip
  | with_reducible apply w_iEnum
  | ((with_reducible apply d_iList); (focus (walk_at "sq"; done)))
  | ((with_reducible apply d_iTup); (focus (walk_at "hp"; done)))
  | with_reducible apply d_iStr
  | ((with_reducible apply d_iRng1); (focus (walk_at "num"; done)); (focus (walk_at "num"; done)))
  | ((with_reducible apply d_iRng2); (focus (walk_at "num"; done)); (focus (walk_at "num"; done)); (focus (walk_at "num"; done)); (focus (walk_at "num"; done)))
  | ((with_reducible apply d_iZip); (focus (walk_at "sq"; done)); (focus (walk_at "sq"; done)))
  | ((with_reducible apply d_iEnum); (focus (walk_at "sq"; done)))
  | walk_at "w2")
local macro_rules | `(tactic| walk_at "w2") => `(tactic| fail)
local macro_rules | `(tactic| walk_at "wn") => `(tactic| repeat walk_at "w1")
local macro_rules | `(tactic| walk_at "w") => `(tactic| repeat (first | walk_at "w1" | with_reducible apply w_ret))

local macro_rules | `(tactic| walk_at "w2") => `(tactic| first
  | ((with_reducible apply w_isInt); (focus (walk_at "r"; done)))
  | ((with_reducible apply w_isBool); (focus (walk_at "r"; done)))
  | ((with_reducible apply w_isStr); (focus (walk_at "r"; done)))
  | ((with_reducible apply w_isTup); (focus (walk_at "r"; done)))
  | ((with_reducible apply w_isLst); (focus (walk_at "r"; done)))
  | with_reducible apply w_fld
  | with_reducible apply w_sfld
  | with_reducible apply w_faug
  | with_reducible apply w_rAdd
  | with_reducible apply w_rSub
  | with_reducible apply w_make
  | with_reducible apply w_orT
  | with_reducible apply w_dgetd
  | with_reducible apply w_dgetk
  | with_reducible apply w_dsetd
  | ((with_reducible apply k_dgetd); (focus (walk_at "hp"; done)))
  | ((with_reducible apply k_dsetd); (focus (walk_at "hp"; done)))
  | walk_at "w3")
local macro_rules | `(tactic| walk_at "w3") => `(tactic| fail)

local macro_rules | `(tactic| walk_at "w3") => `(tactic| first
  | ((with_reducible apply g_Frame_number); (focus (assumption; done)); (focus (walk_at "hp"; done)))
  | ((with_reducible apply u_Frame_number); (focus (assumption; done)); (focus (walk_at "hp"; done)))
  | ((with_reducible apply g_Frame_path); (focus (assumption; done)); (focus (walk_at "hp"; done)))
  | ((with_reducible apply u_Frame_path); (focus (assumption; done)); (focus (walk_at "hp"; done)))
  | ((with_reducible apply g_Frame_rows); (focus (assumption; done)); (focus (walk_at "hp"; done)))
  | ((with_reducible apply u_Frame_rows); (focus (assumption; done)); (focus (walk_at "hp"; done)))
  | ((with_reducible apply g_Frame_arg); (focus (assumption; done)); (focus (walk_at "hp"; done)))
  | ((with_reducible apply u_Frame_arg); (focus (assumption; done)); (focus (walk_at "hp"; done)))
  | ((with_reducible apply g_Frame_at); (focus (assumption; done)); (focus (walk_at "hp"; done)))
  | ((with_reducible apply u_Frame_at); (focus (assumption; done)); (focus (walk_at "hp"; done)))
  | ((with_reducible apply g_Frame_past); (focus (assumption; done)); (focus (walk_at "hp"; done)))
  | ((with_reducible apply u_Frame_past); (focus (assumption; done)); (focus (walk_at "hp"; done)))
  | ((with_reducible apply g_Frame_born); (focus (assumption; done)); (focus (walk_at "hp"; done)))
  | ((with_reducible apply u_Frame_born); (focus (assumption; done)); (focus (walk_at "hp"; done)))
  | ((with_reducible apply g_Record_mark); (focus (assumption; done)); (focus (walk_at "hp"; done)))
  | ((with_reducible apply u_Record_mark); (focus (assumption; done)); (focus (walk_at "hp"; done)))
  | ((with_reducible apply g_Record_word); (focus (assumption; done)); (focus (walk_at "hp"; done)))
  | ((with_reducible apply u_Record_word); (focus (assumption; done)); (focus (walk_at "hp"; done)))
  | ((with_reducible apply g_Record_doer); (focus (assumption; done)); (focus (walk_at "hp"; done)))
  | ((with_reducible apply u_Record_doer); (focus (assumption; done)); (focus (walk_at "hp"; done)))
  | ((with_reducible apply g_Record_child); (focus (assumption; done)); (focus (walk_at "hp"; done)))
  | ((with_reducible apply u_Record_child); (focus (assumption; done)); (focus (walk_at "hp"; done)))
  | ((with_reducible apply g_Record_reads); (focus (assumption; done)); (focus (walk_at "hp"; done)))
  | ((with_reducible apply u_Record_reads); (focus (assumption; done)); (focus (walk_at "hp"; done)))
  | ((with_reducible apply g_Record_writes); (focus (assumption; done)); (focus (walk_at "hp"; done)))
  | ((with_reducible apply u_Record_writes); (focus (assumption; done)); (focus (walk_at "hp"; done)))
  | ((with_reducible apply g_Outcome_cells); (focus (assumption; done)); (focus (walk_at "hp"; done)))
  | ((with_reducible apply u_Outcome_cells); (focus (assumption; done)); (focus (walk_at "hp"; done)))
  | ((with_reducible apply g_Outcome_given); (focus (assumption; done)); (focus (walk_at "hp"; done)))
  | ((with_reducible apply u_Outcome_given); (focus (assumption; done)); (focus (walk_at "hp"; done)))
  | ((with_reducible apply g_Outcome_steps); (focus (assumption; done)); (focus (walk_at "hp"; done)))
  | ((with_reducible apply u_Outcome_steps); (focus (assumption; done)); (focus (walk_at "hp"; done)))
  | ((with_reducible apply g_Outcome_deepest); (focus (assumption; done)); (focus (walk_at "hp"; done)))
  | ((with_reducible apply u_Outcome_deepest); (focus (assumption; done)); (focus (walk_at "hp"; done))))
def sp__law_asked (K : PySem.W.Frag) : Sp := fun vs H Q _ => ∃ (a cl : Addr) (p : Prg) (nm : Str) (g : Int) (cs : Cells) (most : Int) (S : Addr → Prop), vs = [.ref a, .str nm, .int g, .ref cl, .int most] ∧ R S H (.ref a) (prgD p) ∧ PrgOk p ∧ nm ∈ p.map (·.1) ∧ CellsAt H (.ref cl) cs ∧ cs.length ≤ 5000 ∧ most ≤ 5000 ∧ (∀ m, p.ran nm g cs most = some m → m.given.length < 64) ∧
  (∀ m, p.ran nm g cs most = some m → ∀ (T o : Addr) (H' : Hp), Chg [] H H' → H' T = some (.tup [.ref o, .non]) → OutAt K H H' o ((notN m.cells).map pairD) (srtG m.given) (markDs m) (.int (m.deep : Nat)) → Q (.ref T) H') ∧
  (p.ran nm g cs most = none → ∀ (T : Addr) (H' : Hp), Chg [] H H' → H' T = some (.tup [.non, .int most]) → Q (.ref T) H')
def t__law_asked (K : PySem.W.Frag) : TS :=
    tSeq (tAsg (tC .non) (gName 5))
    (tSeq (tAsg (tC .non) (gName 6))
    (tSeq (tTryH K (.ref (He.ga K "TooLong")) 7 (fun W => tAsg (tCallSD (sp_run K) [] (WE (W)) (tCons (tVar 0) (tCons (tVar 1) (tCons (tVar 2) (tCons (tVar 3) (tCons (tVar 4) (tNil))))))) (gName 5)) (fun a cls d => tAsg (tXf a cls d (He.ga K "TooLong") "most" (tVar 7)) (gName 6)) (fun _ _ _ _ => False))
    (tRet (tTup (tCons (tVar 5) (tCons (tVar 6) (tNil)))))))
theorem pure__law_asked {K : PySem.W.Frag} (XT : XTl K) (vs : List V) (H : Hp) (Q : VK) (E : XK) (h : sp__law_asked K vs H Q E) : t__law_asked K (fin Q) (start ["program", "name", "arg", "cells", "most", "found", "field", "e"] vs) H := by
  obtain ⟨a, cl, p, nm, g, cs, most, S, rfl, rP, okP, hnm, ca, lcs, lm, few, q1, q2⟩ := h
  show t__law_asked K _ [some (.ref a), some (.str nm), some (.int g), some (.ref cl), some (.int most), none, none, none] H
  unfold t__law_asked
  walk_at "w"
  refine w_tryH ?_
  walk_at "w"
  refine w_callX ?_
  walk_at "w"
  refine ⟨a, p, nm, g, .ref cl, cs, most, S, rfl, rP, okP, hnm, ca, lcs, lm, few, fun m e o H1 no c1 oa => ?_, fun e dd H1 c1 h1 => ?_⟩
  · walk_at "w"
    refine k_tup (by walk_at "sz") fun T H2 nT c2 hT => ?_
    exact q1 m e T o H2 (c1.same c2) hT (oa.same c2)
  · refine ⟨true, XT.exm, fun _ ea na => ?_, fun z => by cases z⟩
    walk_at "w"
    refine w_xf rfl rfl rfl h1 rfl ?_
    walk_at "w"
    intro _
    have c2 : Chg [] H1 (upd H1 ea (ExH (.ref (He.ga K "TooLong")) (some dd) ea)) := .new na
    generalize upd H1 ea (ExH (.ref (He.ga K "TooLong")) (some dd) ea) = H2 at c2 ⊢
    show tRet (tTup (tCons (tVar 5) (tCons (tVar 6) tNil))) (fin Q) [some (.ref a), some (.str nm), some (.int g), some (.ref cl), some (.int most), some .non, some (.int most), none] H2
    walk_at "w"
    refine k_tup (by walk_at "sz") fun T H3 nT c3 hT => ?_
    exact q2 e T H3 ((c1.same c2).same c3) hT
theorem Dl.paths {p : Prg} {d : Nat} {f : Frm} {m m' : Mc} {L : List LRec} (h : Dl p d f m m' L) : ∀ r ∈ L, r.path.length ≤ f.path.length + L.length := by
  induction h with
  | over _ => intro r hr; cases hr
  | @step d f m m' s L h1 h2 h3 ih =>
    intro r hr
    rw [List.length_cons]
    rcases List.mem_cons.mp hr with rfl | hr
    · show f.path.length ≤ _; omega
    · have := ih r hr
      have e : (f.aft s m.cells).path.length = f.path.length := rfl
      omega
  | @sub d f m m1 m' s x w L1 L2 h1 h2 h3 h4 ih1 ih2 =>
    intro r hr
    rw [List.length_cons, List.length_append]
    rcases List.mem_cons.mp hr with rfl | hr
    · show f.path.length ≤ _; omega
    · rcases List.mem_append.mp hr with hr | hr
      · have := ih1 r hr
        have e : (f.kid p m x w).path.length = f.path.length + 1 := by
          show (f.path ++ [f.born]).length = _
          rw [List.length_append, List.length_singleton]
        omega
      · have := ih2 r hr
        have e : (f.nxt s m.cells).path.length = f.path.length := rfl
        omega
/-- the gates of what is given -/
theorem Done.gates {p : Prg} {gs : List Str} (hp : ∀ r ∈ p, ∀ s ∈ r.2, ∀ x ∈ s.gateL, x ∈ gs) {d : Nat} {f : Frm} {m m' : Mc} (h : Done p d f m m') : (∀ s ∈ f.rows, ∀ x ∈ s.gateL, x ∈ gs) → (m.given.map (·.1)).Nodup → (∀ g ∈ m.given, g.1 ∈ gs) → (m'.given.map (·.1)).Nodup ∧ ∀ g ∈ m'.given, g.1 ∈ gs := by
  have hrows : ∀ x, ∀ s ∈ p.rows x, ∀ y ∈ s.gateL, y ∈ gs := fun x s hs y hy => by
    obtain ⟨r, hr, _, hs'⟩ := rows_mem hs
    exact hp r hr s hs' y hy
  induction h with
  | over _ => exact fun _ a b => ⟨a, b⟩
  | @step d f m m' s h1 h2 h3 ih =>
    intro hf nd hg
    have hs := hf s (List.mem_of_getElem? h1)
    refine ih hf ?_ ?_
    · show ((s.gives f.arg m.cells m.given).map (·.1)).Nodup
      cases s with
      | give x a => exact gAdd_names _ nd
      | _ => exact nd
    · show ∀ g ∈ s.gives f.arg m.cells m.given, g.1 ∈ gs
      cases s with
      | give x a =>
        intro g hgm
        have hgm : g ∈ gAdd m.given x (a.worth f.arg m.cells) := hgm
        unfold gAdd at hgm
        split at hgm
        · obtain ⟨g', hg', rfl⟩ := List.mem_map.mp hgm
          split
          · exact hg g' hg'
          · exact hg g' hg'
        · rcases List.mem_append.mp hgm with hgm | hgm
          · exact hg g hgm
          · rw [List.mem_singleton.mp hgm]
            exact hs x (List.mem_singleton.mpr rfl)
      | _ => exact hg
  | @sub d f m m1 m' s x w h1 h2 h3 h4 ih1 ih2 =>
    intro hf nd hg
    obtain ⟨a, b⟩ := ih1 (hrows x) nd hg
    exact ih2 hf a b
theorem nod_pair (c : Int × Int) : nod (pairD c) = 3 := rfl
theorem nods_ints : ∀ xs : List Int, nods (xs.map PyData.int) = xs.length
  | [] => rfl
  | x :: r => by
    show 1 + nods (r.map PyData.int) = r.length + 1
    rw [nods_ints r]
    omega
theorem nods_nats : ∀ xs : List Nat, nods (xs.map fun i => PyData.int (i : Nat)) = xs.length
  | [] => rfl
  | x :: r => by
    show 1 + nods (r.map fun i => PyData.int (i : Nat)) = r.length + 1
    rw [nods_nats r]
    omega
theorem noBls_all : ∀ {ds : List PyData}, (∀ d ∈ ds, noBl d = true) → noBls ds = true
  | [], _ => rfl
  | d :: r, h => by
    show (noBl d && noBls r) = true
    rw [h d (by simp), noBls_all fun e he => h e (List.mem_cons_of_mem _ he)]
    rfl
theorem noBl_mark (p : List Nat) (k : Nat) : noBl (markD p k) = true := by
  show (noBls (p.map fun i => PyData.int (i : Nat)) && (true && true)) = true
  rw [noBls_all fun d hd => by
    obtain ⟨i, _, rfl⟩ := List.mem_map.mp hd
    rfl]
  rfl
theorem nod_mark (p : List Nat) (k : Nat) : nod (markD p k) = p.length + 3 := by
  show 1 + ((1 + nods (p.map fun i => PyData.int (i : Nat))) + (1 + 0)) = _
  rw [nods_nats]
  omega
theorem noBl_gift (g : Str × List Int) : noBl (giftD g) = true := by
  show (true && (noBls (g.2.map PyData.int) && true)) = true
  rw [noBls_all fun d hd => by
    obtain ⟨i, _, rfl⟩ := List.mem_map.mp hd
    rfl]
  rfl
theorem nod_gift (g : Str × List Int) : nod (giftD g) = g.2.length + 3 := by
  show 1 + (1 + ((1 + nods (g.2.map PyData.int)) + 0)) = _
  rw [nods_ints]
  omega
theorem R.alive {S : Addr → Prop} {H : Hp} {v : V} {d : PyData} (r : R S H v d) : R (fun a => H a ≠ none) H v d :=
  r.imp (fun a xs _ e => ⟨(by rw [e]; exact fun z => (nomatch z)), e⟩) (fun a xs _ e => ⟨(by rw [e]; exact fun z => (nomatch z)), e⟩) fun _ _ e => e
theorem mark_noL (p : List Nat) (k : Nat) : noL (markD p k) = true := by
  show (noLs (p.map fun i => PyData.int (i : Nat)) && (true && true)) = true
  rw [noLs_of fun d hd => by
    obtain ⟨i, _, rfl⟩ := List.mem_map.mp hd
    rfl]
  rfl
end Fg
--LAW k10
namespace Fg
open PySem PySem.Spec PyProof.Rows L2
/-! ### the walk's small steps -/
local macro_rules | `(tactic| walk_at "hp") => `(tactic| first
  | assumption
  | exact upd_same
  | (refine Chg.at (by assumption) ?_; walk_at "hp")
  | (refine Chg.at1 (by assumption) ?_ (by walk_at "ne"); walk_at "hp"))
local macro_rules | `(tactic| walk_at "ne") => `(tactic| first | assumption | (apply Ne.symm; assumption))
local macro_rules | `(tactic| walk_at "sq") => `(tactic| first | assumption | exact sqL (by walk_at "hp") | (refine Chg.seq (by assumption) ?_; walk_at "sq"))
local macro_rules | `(tactic| walk_at "sz") => `(tactic| first | assumption | exact Nat.zero_le _ | (simp only [List.length_cons, List.length_nil]; decide) | exact Nat.le_trans (by first | omega | (simp; done) | (simp; omega)) (show 100000 ≤ sizeLine by decide) | exact Nat.lt_of_lt_of_le (by first | omega | (simp; done) | (simp; omega)) (show 100000 ≤ sizeLine by decide))
local macro_rules | `(tactic| walk_at "ix") => `(tactic| first | exact at0 | exact at1 | exact at2 | exact at3 | assumption | exact rfl | walk_at "ix2")
local macro_rules | `(tactic| walk_at "ix2") => `(tactic| fail)
local macro_rules | `(tactic| walk_at "num") => `(tactic| first | assumption | omega | decide | walk_at "num2")
local macro_rules | `(tactic| walk_at "num2") => `(tactic| fail)
local macro_rules | `(tactic| walk_at "im") => `(tactic| first | assumption | exact R.non (S := fun _ => False) | exact R.bl (S := fun _ => False) _ | exact R.int (S := fun _ => False) _ | exact R.str (S := fun _ => False) _ | (refine R.im (by assumption) ?_; walk_at "im"))
local macro_rules | `(tactic| walk_at "r") => `(tactic| first | assumption | exact R.non (S := fun _ => False) | exact R.bl (S := fun _ => False) _ | exact R.int (S := fun _ => False) _ | exact R.str (S := fun _ => False) _ | (refine R.same (by assumption) ?_; walk_at "r") | exact R.any (by walk_at "im"))
local macro_rules | `(tactic| walk_at "chg") => `(tactic| first
  | exact Chg.refl
  | assumption
  | (refine Chg.same ?_ (by assumption); walk_at "chg")
  | (refine Chg.both ?_ (by assumption); walk_at "chg")
  | (refine Chg.pre (by assumption) ?_; walk_at "chg"))
local macro_rules | `(tactic| walk_at "w1") => `(tactic| first
  | with_reducible apply w_seq
  | with_reducible apply w_asg
  | ((with_reducible apply w_var); (focus (exact rfl)))
  | with_reducible apply w_c
  | with_reducible apply w_op
  | with_reducible apply w_cons
  | with_reducible apply w_nil
  | with_reducible apply w_gName
  | with_reducible apply w_if
  | with_reducible apply w_test
  | with_reducible apply w_B
  | with_reducible apply w_isbl
  | with_reducible apply w_retN
  | with_reducible apply w_next
  | with_reducible apply w_drop
  | with_reducible apply w_cb
  | with_reducible apply w_call
  | with_reducible apply w_callN
  | with_reducible apply w_bm
  | with_reducible apply w_bm0
  | ((with_reducible apply w_tyL); (focus (walk_at "hp"; done)))
  | with_reducible apply w_dput
  | with_reducible apply w_m1
  | with_reducible apply w_isstr
  | with_reducible apply w_and
  | with_reducible apply w_or
  | with_reducible apply w_not
  | with_reducible apply w_andV
  | with_reducible apply w_orV
  | with_reducible apply w_notV
  | with_reducible apply w_ifE
  | with_reducible apply w_chain
  | with_reducible apply w_un
  | with_reducible apply w_neg
  | with_reducible apply w_add
  | with_reducible apply w_sub
  | ((with_reducible apply w_mod); (focus (walk_at "num"; done)))
  | ((with_reducible apply w_mul); (focus (walk_at "num"; done)))
  | ((with_reducible apply w_fdiv); (focus (walk_at "num"; done)))
  | ((with_reducible apply w_pow); (focus (walk_at "num"; done)))
  | with_reducible apply w_lt
  | with_reducible apply w_le
  | with_reducible apply w_gt
  | with_reducible apply w_ge
  | with_reducible apply w_ltS
  | with_reducible apply w_geS
  | with_reducible apply w_inC
  | with_reducible apply w_notInC
  | with_reducible apply w_isN
  | with_reducible apply w_notN
  | with_reducible apply w_isB
  | with_reducible apply w_notB
  | ((with_reducible apply w_addS); (focus (walk_at "sz"; done)))
  | ((with_reducible apply w_ixL); (focus (walk_at "sq"; done)); (focus (walk_at "ix"; done)))
  | ((with_reducible apply w_ixT); (focus (walk_at "hp"; done)); (focus (walk_at "ix"; done)))
  | ((with_reducible apply w_ixS); (focus (walk_at "sz"; done)); (focus (walk_at "ix"; done)))
  | with_reducible apply w_gSub
  | ((with_reducible apply w_gTup); (focus (walk_at "hp"; done)); (focus (exact rfl)))
  | with_reducible apply w_gCons
  | with_reducible apply w_gNil
  | ((with_reducible apply w_aug); (focus (exact rfl)))
  | with_reducible apply w_ipI
  | ((with_reducible apply w_eq); (focus (exact rfl)))
  | ((with_reducible apply w_ne); (focus (exact rfl)))
  | with_reducible apply w_max
  | with_reducible apply w_min
  | with_reducible apply w_abs
  | with_reducible apply w_intB
  | with_reducible apply w_intI
  | with_reducible apply w_tup1
  | with_reducible apply w_lst1
  | with_reducible apply w_sl
  | with_reducible apply w_part
  | with_reducible apply w_noPart
  | with_reducible apply w_isint
  | ((with_reducible apply w_slS); (focus (walk_at "sz"; done)))
  | with_reducible apply w_iteT
  | with_reducible apply w_iteF
  | with_reducible apply w_iteN
  | ((with_reducible apply w_iteYes); (focus (exact rfl)))
  | ((with_reducible apply w_iteNo); (focus (exact rfl)))
  | ((with_reducible apply w_lenL); (focus (walk_at "sq"; done)))
  | ((with_reducible apply w_lenT); (focus (walk_at "hp"; done)))
  | ((with_reducible apply w_lenS); (focus (walk_at "sz"; done)))
  | with_reducible apply w_lc
  | with_reducible apply w_for
  | with_reducible apply w_yes
  | ((with_reducible apply w_wipe); (focus (exact rfl)))
  | with_reducible apply w_iList
  | with_reducible apply w_iTup
  | with_reducible apply w_iStr
  | with_reducible apply w_iRng1
  | with_reducible apply w_iRng2
  | with_reducible apply w_iZip
  | with_reducible apply w_iEnum
  | ((with_reducible apply d_iList); (focus (walk_at "sq"; done)))
  | ((with_reducible apply d_iTup); (focus (walk_at "hp"; done)))
  | with_reducible apply d_iStr
  | ((with_reducible apply d_iRng1); (focus (walk_at "num"; done)); (focus (walk_at "num"; done)))
  | ((with_reducible apply d_iRng2); (focus (walk_at "num"; done)); (focus (walk_at "num"; done)); (focus (walk_at "num"; done)); (focus (walk_at "num"; done)))
  | ((with_reducible apply d_iZip); (focus (walk_at "sq"; done)); (focus (walk_at "sq"; done)))
  | ((with_reducible apply d_iEnum); (focus (walk_at "sq"; done)))
  | walk_at "w2")
local macro_rules | `(tactic| walk_at "w2") => `(tactic| fail)
local macro_rules | `(tactic| walk_at "wn") => `(tactic| repeat walk_at "w1")
local macro_rules | `(tactic| walk_at "w") => `(tactic| repeat (first | walk_at "w1" | with_reducible apply w_ret))

local macro_rules | `(tactic| walk_at "w2") => `(tactic| first
  | ((with_reducible apply w_isInt); (focus (walk_at "r"; done)))
  | ((with_reducible apply w_isBool); (focus (walk_at "r"; done)))
  | ((with_reducible apply w_isStr); (focus (walk_at "r"; done)))
  | ((with_reducible apply w_isTup); (focus (walk_at "r"; done)))
  | ((with_reducible apply w_isLst); (focus (walk_at "r"; done)))
  | with_reducible apply w_fld
  | with_reducible apply w_sfld
  | with_reducible apply w_faug
  | with_reducible apply w_rAdd
  | with_reducible apply w_rSub
  | with_reducible apply w_make
  | with_reducible apply w_orT
  | with_reducible apply w_dgetd
  | with_reducible apply w_dgetk
  | with_reducible apply w_dsetd
  | ((with_reducible apply k_dgetd); (focus (walk_at "hp"; done)))
  | ((with_reducible apply k_dsetd); (focus (walk_at "hp"; done)))
  | walk_at "w3")
local macro_rules | `(tactic| walk_at "w3") => `(tactic| fail)

local macro_rules | `(tactic| walk_at "w3") => `(tactic| first
  | ((with_reducible apply g_Frame_number); (focus (assumption; done)); (focus (walk_at "hp"; done)))
  | ((with_reducible apply u_Frame_number); (focus (assumption; done)); (focus (walk_at "hp"; done)))
  | ((with_reducible apply g_Frame_path); (focus (assumption; done)); (focus (walk_at "hp"; done)))
  | ((with_reducible apply u_Frame_path); (focus (assumption; done)); (focus (walk_at "hp"; done)))
  | ((with_reducible apply g_Frame_rows); (focus (assumption; done)); (focus (walk_at "hp"; done)))
  | ((with_reducible apply u_Frame_rows); (focus (assumption; done)); (focus (walk_at "hp"; done)))
  | ((with_reducible apply g_Frame_arg); (focus (assumption; done)); (focus (walk_at "hp"; done)))
  | ((with_reducible apply u_Frame_arg); (focus (assumption; done)); (focus (walk_at "hp"; done)))
  | ((with_reducible apply g_Frame_at); (focus (assumption; done)); (focus (walk_at "hp"; done)))
  | ((with_reducible apply u_Frame_at); (focus (assumption; done)); (focus (walk_at "hp"; done)))
  | ((with_reducible apply g_Frame_past); (focus (assumption; done)); (focus (walk_at "hp"; done)))
  | ((with_reducible apply u_Frame_past); (focus (assumption; done)); (focus (walk_at "hp"; done)))
  | ((with_reducible apply g_Frame_born); (focus (assumption; done)); (focus (walk_at "hp"; done)))
  | ((with_reducible apply u_Frame_born); (focus (assumption; done)); (focus (walk_at "hp"; done)))
  | ((with_reducible apply g_Record_mark); (focus (assumption; done)); (focus (walk_at "hp"; done)))
  | ((with_reducible apply u_Record_mark); (focus (assumption; done)); (focus (walk_at "hp"; done)))
  | ((with_reducible apply g_Record_word); (focus (assumption; done)); (focus (walk_at "hp"; done)))
  | ((with_reducible apply u_Record_word); (focus (assumption; done)); (focus (walk_at "hp"; done)))
  | ((with_reducible apply g_Record_doer); (focus (assumption; done)); (focus (walk_at "hp"; done)))
  | ((with_reducible apply u_Record_doer); (focus (assumption; done)); (focus (walk_at "hp"; done)))
  | ((with_reducible apply g_Record_child); (focus (assumption; done)); (focus (walk_at "hp"; done)))
  | ((with_reducible apply u_Record_child); (focus (assumption; done)); (focus (walk_at "hp"; done)))
  | ((with_reducible apply g_Record_reads); (focus (assumption; done)); (focus (walk_at "hp"; done)))
  | ((with_reducible apply u_Record_reads); (focus (assumption; done)); (focus (walk_at "hp"; done)))
  | ((with_reducible apply g_Record_writes); (focus (assumption; done)); (focus (walk_at "hp"; done)))
  | ((with_reducible apply u_Record_writes); (focus (assumption; done)); (focus (walk_at "hp"; done)))
  | ((with_reducible apply g_Outcome_cells); (focus (assumption; done)); (focus (walk_at "hp"; done)))
  | ((with_reducible apply u_Outcome_cells); (focus (assumption; done)); (focus (walk_at "hp"; done)))
  | ((with_reducible apply g_Outcome_given); (focus (assumption; done)); (focus (walk_at "hp"; done)))
  | ((with_reducible apply u_Outcome_given); (focus (assumption; done)); (focus (walk_at "hp"; done)))
  | ((with_reducible apply g_Outcome_steps); (focus (assumption; done)); (focus (walk_at "hp"; done)))
  | ((with_reducible apply u_Outcome_steps); (focus (assumption; done)); (focus (walk_at "hp"; done)))
  | ((with_reducible apply g_Outcome_deepest); (focus (assumption; done)); (focus (walk_at "hp"; done)))
  | ((with_reducible apply u_Outcome_deepest); (focus (assumption; done)); (focus (walk_at "hp"; done))))
theorem notN_len (cs : Cells) : (notN cs).length ≤ cs.length := by
  unfold notN
  rw [List.length_map]
  refine Nat.le_trans (List.length_filter_le _ _) ?_
  rw [(srt_perm _).length_eq, List.length_map]
  exact Nat.le_refl _
theorem srtG_len (gv : Given) : (srtG gv).length = gv.length := by
  unfold srtG
  rw [List.length_map, (srtS_perm _).length_eq, List.length_map]
theorem srtG_row {gv : Given} {n : Nat} (h : ∀ g ∈ gv, g.2.length ≤ n) : ∀ g ∈ srtG gv, g.2.length ≤ n := fun g hg => by
  unfold srtG at hg
  obtain ⟨x, _, rfl⟩ := List.mem_map.mp hg
  show (gAt gv x).length ≤ n
  unfold gAt
  cases hf : gv.find? fun g => decide (g.1 = x) with
  | none => exact Nat.zero_le _
  | some r => exact h r (List.mem_of_find?_eq_some hf)
def t_law_10 (K : PySem.W.Frag) : TS :=
    tSeq (tIfS (tOr (tTest (tOp oNotN (tVar 10) (tC .non))) (tTest (tOp oIsN (tVar 9) (tC .non)))) (tRet (tC (.bl false))) (tNext))
    (tSeq (tIfS (tTest (tOp oNeD (tLst (tCons (tFld K (tVar 9) "cells") (tCons (tFld K (tVar 9) "given") (tNil)))) (tLst (tCons (tCall (sp__law_held K) [] E0 (tCons (tVar 7) (tNil))) (tCons (tCall (sp__law_gifts K) [] E0 (tCons (tVar 7) (tNil))) (tNil)))))) (tRet (tC (.bl false))) (tNext))
    (tSeq (tIfS (tOr (tTest (tOp oNeD (tFld K (tVar 9) "steps") (tLc (iList K (tDGet (tVar 7) (tC (.str "records")))) (gName 13) (tYes) (tOp (rIxL K) (tVar 13) (tC (.int 0))) [13]))) (tTest (tOp rNe (tFld K (tVar 9) "deepest") (tDGet (tVar 7) (tC (.str "deepest")))))) (tRet (tC (.bl false))) (tNext))
    (tRet (tAndV (tCall (sp__law_wholes K) [] E0 (tCons (tOp rCat (tOp rCat (tFld K (tVar 9) "cells") (tFld K (tVar 9) "given")) (tFld K (tVar 9) "steps")) (tNil))) (tOp rEq (tCB (cLenI (He.ga K "Outcome") (sp_Outcome___len__ K)) (tCons (tVar 9) (tNil))) (tCB (cLenQ K) (tCons (tDGet (tVar 7) (tC (.str "records"))) (tNil))))))))
theorem law_10 {K : PySem.W.Frag} (CF : CFs K) {Hb Hc H : Hp} {Q : VK} {o st : Addr} {s : Sv} {m : Mc} {L : List LRec} {gls LL : List Addr} {ys : List V} {a0 a1 a2 a3 a4 a5 a6 a8 : Option V}
    (oa : OutAt K Hb H o ((notN m.cells).map pairD) (srtG m.given) (markDs m) (.int (m.deep : Nat))) (S : SAt Hc H st s m L gls LL ys) (sd : s.deep = m.deep) (em : mks m = L.map fun r => (r.path, r.past)) (lys : ys.length = m.recs.length) (lm : m.recs.length ≤ 500) (fits : Fits m) (few : m.given.length < 64) (lp : ∀ r ∈ L, r.path.length ≤ 500) (q : ∀ H', Q (.bl true) H') :
    t_law_10 K (fin Q) [a0, a1, a2, a3, a4, a5, a6, some (.ref st), a8, some (.ref o), some .non, none, none, none] H := by
  unfold t_law_10
  have oc := CF.oc
  obtain ⟨dx, ocl, ogl, osl, ho, r1, r2, r3⟩ := oa
  have fc := fits.cells
  have edm : markDs m = L.map fun r => markD r.path r.past := by
    have e1 : markDs m = (mks m).map fun q => markD q.1 q.2 := by
      unfold markDs mks
      rw [List.map_map]
      rfl
    rw [e1, em, List.map_map]
    rfl
  walk_at "w"
  refine k_lst (by walk_at "sz") fun D1 H1 nD1 c1 hD1 => ?_
  have hst1 := c1.at S.dict
  walk_at "w"
  refine ⟨st, s.cd, _, m.cells, rfl, hst1, sv_cells, c1.at S.cells, by omega, fun D2 H2 xs2 nD2 c2 hD2 i2 => ?_⟩
  walk_at "w"
  refine ⟨st, s.gd, _, m.given, gls, rfl, c2.at hst1, sv_given, (S.given.same c1).same c2, few, fun D3 H3 nD3 c3 rD3 => ?_⟩
  walk_at "w"
  refine k_lst (by walk_at "sz") fun D4 H4 nD4 c4 hD4 => ?_
  have c04 : Chg [] H H4 := ((c1.same c2).same c3).same c4
  have c14 : Chg [] H1 H4 := (c2.same c3).same c4
  have rA : R (fun _ => True) H4 (.ref D1) (.list [.list ((notN m.cells).map pairD), giftsD (srtG m.given)]) := .lst trivial (c14.at hD1) (.cons ((r1.same c04).mono fun _ _ => trivial) (.cons ((r2.same c04).mono fun _ _ => trivial) .nil))
  have rB : R (fun _ => True) H4 (.ref D4) (.list [.list ((notN m.cells).map pairD), giftsD (srtG m.given)]) := .lst trivial hD4 (.cons (.lst trivial ((c3.same c4).at hD2) (i2.im (c3.same c4)).any) (.cons ((rD3.same c4).mono fun _ _ => trivial) .nil))
  have fl1 : noDic (.list [.list ((notN m.cells).map pairD), giftsD (srtG m.given)]) = true := by
    show (noDic (.list ((notN m.cells).map pairD)) && (noDic (giftsD (srtG m.given)) && true)) = true
    rw [pairs_flat, gifts_flat]
    rfl
  have dp1 : (PyData.list [.list ((notN m.cells).map pairD), giftsD (srtG m.given)]).depth ≤ 6 := by
    have h1 := pairs_depth (notN m.cells)
    have h2 := gifts_depth (srtG m.given)
    have : PyData.depthAll [.list ((notN m.cells).map pairD), giftsD (srtG m.given)] ≤ 5 := depthAll_le fun d hd => by
      simp only [List.mem_cons, List.not_mem_nil, or_false] at hd
      rcases hd with rfl | rfl <;> omega
    show PyData.depthAll _ + 1 ≤ 6
    omega
  refine w_neD rA rB fl1 fl1 (by omega) ?_
  rw [eqv_self _ fl1]
  have ho4 := c04.at ho
  have S4 := S.same c04
  have hst4 := S4.dict
  have hrl4 : H4 s.rl = some (.lst ys) := S4.recs
  walk_at "w"
  refine sg_records hst4 ?_
  walk_at "w"
  refine w_lcP (walk_list (K := K) (a := s.rl) (xs := ys)) [] (fun _ _ => True) (fun i y H => ∃ r, L[i]? = some r ∧ Im H y (markD r.path r.past)) trivial (fun _ _ _ _ _ _ _ => trivial) (fun H5 c => sqL (c.at hrl4)) (fun D i acc z H5 H6 hi nD hD el iv c5 _ yy => ?_) (fun D acc H5 nD c5 _ el hD yss => ?_)
  · obtain ⟨rfl, ex⟩ := yy
    obtain ⟨d, ed, rd⟩ := (S4.data.same c5).get ex
    rw [List.getElem?_map] at ed
    cases hr : L[i]? with
    | none => rw [hr] at ed; cases ed
    | some r =>
      rw [hr] at ed
      cases ed
      have rd : R (fun a => a ∈ LL) _ z (.list [markD r.path r.past, .str r.word, kidD r.kid, .list (r.asked.map PyData.int), .list (r.writes.map PyData.int)]) := rd
      cases rd with
      | @lst ra rxs _ sa e rr =>
        cases rr with
        | @cons v0 vr _ _ r0 rr =>
          walk_at "w"
          exact lcp_end (fun _ _ _ _ _ _ _ => trivial) (fun _ _ _ _ _ _ c h => by obtain ⟨r, h1, h2⟩ := h; exact ⟨r, h1, h2.im c⟩) nD (fun a ha => by cases ha) hD el (by omega) iv .refl trivial ⟨r, hr, r0.pure (mark_noL _ _)⟩
  have lacc : acc.length = L.length := by
    rw [el, S4.data.length, List.length_map]
  have imk : ImA H5 acc (L.map fun r => markD r.path r.past) := by
    have key : ∀ {acc : List V} {L : List LRec}, acc.length = L.length → (∀ (i : Nat) (y : V), acc[i]? = some y → ∃ r, L[i]? = some r ∧ Im H5 y (markD r.path r.past)) → ImA H5 acc (L.map fun r => markD r.path r.past) := by
      intro acc
      induction acc with
      | nil =>
        intro L hl _
        cases L with
        | nil => exact .nil
        | cons r L => simp at hl
      | cons v acc ih =>
        intro L hl h
        cases L with
        | nil => simp at hl
        | cons r L =>
          obtain ⟨r', e1, e2⟩ := h 0 v rfl
          cases e1
          exact .cons e2 (ih (by simpa using hl) fun i y hy => h (i + 1) y hy)
    exact key lacc yss
  rw [← edm] at imk
  have emk : markDs m = (mks m).map fun q => markD q.1 q.2 := by
    unfold markDs mks
    rw [List.map_map]
    rfl
  have fl := marks_flat (mks m)
  have dpm := marks_depth (mks m)
  rw [← emk] at fl dpm
  have c05 : Chg [] H H5 := c04.same c5
  have r35 := r3.same c05
  have rD : R (fun a => a = D) H5 (.ref D) (.list (markDs m)) := .lst rfl hD imk.any
  refine w_neD r35 rD fl fl (by omega) ?_
  rw [eqv_self _ fl]
  have ho5 := c5.at ho4
  have hst5 := c5.at hst4
  walk_at "w"
  refine sg_deepest hst5 ?_
  walk_at "w"
  rw [sd, if_pos (decide_eq_true rfl)]
  cases r1.same c05 with
  | @lst _ cxs _ cs1 hcx ra1 =>
  cases r2.same c05 with
  | @lst _ gxs _ gs1 hgx ra2 =>
  cases r35 with
  | @lst _ sxs _ ss1 hsx ra3 =>
  have l1 : cxs.length ≤ 1000 := by
    rw [ra1.length, List.length_map]
    have : (notN m.cells).length ≤ m.cells.length := notN_len _
    omega
  have l2 : gxs.length ≤ 1000 := by
    rw [ra2.length, List.length_map]
    have : (srtG m.given).length = m.given.length := srtG_len _
    omega
  have l3 : sxs.length = m.recs.length := by rw [ra3.length]; exact List.length_map _
  walk_at "w"
  refine w_cat hcx hgx (by omega) fun P1 H6 nP1 c6 hP1 => ?_
  have ho6 := c6.at ho5
  walk_at "w"
  refine w_cat hP1 (c6.at hsx) (by rw [List.length_append]; omega) fun P2 H7 nP2 c7 hP2 => ?_
  have c57 := c6.same c7
  walk_at "w"
  have alv : ∀ {xs : List V} {ds : List PyData}, RA (fun a => Hb a = none) H5 xs ds → RA (fun a => H7 a ≠ none) H7 xs ds := fun r => (r.same c57).imp (fun a xs _ e => ⟨(by rw [e]; exact fun z => (nomatch z)), e⟩) (fun a xs _ e => ⟨(by rw [e]; exact fun z => (nomatch z)), e⟩) fun _ _ e => e
  refine ⟨P2, _, _, fun a => H7 a ≠ none, rfl, hP2, ((alv ra1).append (alv ra2)).append (alv ra3), fun x h => h, noBls_all fun d hd => ?_, fun d hd => ?_, fun H8 c8 => ?_⟩
  · rcases List.mem_append.mp hd with hd | hd
    · rcases List.mem_append.mp hd with hd | hd
      · obtain ⟨c, _, rfl⟩ := List.mem_map.mp hd
        rfl
      · obtain ⟨g, _, rfl⟩ := List.mem_map.mp hd
        exact noBl_gift g
    · obtain ⟨r, _, rfl⟩ := List.mem_map.mp hd
      exact noBl_mark _ _
  · rcases List.mem_append.mp hd with hd | hd
    · rcases List.mem_append.mp hd with hd | hd
      · obtain ⟨c, _, rfl⟩ := List.mem_map.mp hd
        rw [nod_pair]
        decide
      · obtain ⟨g, hg, rfl⟩ := List.mem_map.mp hd
        rw [nod_gift]
        have := srtG_row fits.rows g hg
        omega
    · rw [edm] at hd
      obtain ⟨r, hr, rfl⟩ := List.mem_map.mp hd
      rw [nod_mark]
      have := lp r hr
      omega
  have ho8 := c8.at (c7.at ho6)
  have hst8 := c8.at (c57.at hst5)
  have hs8 := c8.at (c57.at hsx)
  have hrl8 := c8.at (c57.at (c5.at hrl4))
  walk_at "w"
  refine w_lenI (C := He.ga K "Outcome") (dx := dx) (fs := _) ho8 ⟨o, dx, osl, _, _, _, sxs, rfl, ho8, hs8, m.recs.length, by rw [l3], by omega, ?_⟩
  walk_at "w"
  refine sg_records hst8 ?_
  walk_at "w"
  rw [lys]
  have : Q (.bl true) H8 := q H8
  rw [show decide (V.int ((m.recs.length : Nat) : Int) = V.int ((m.recs.length : Nat) : Int)) = true from decide_eq_true rfl]
  exact this
def t_law_9 (K : PySem.W.Frag) : TS :=
    tSeq (tIfS (tB (tDGet (tVar 7) (tC (.str "long")))) (tRet (tAndV (tOp oIsN (tVar 9) (tC .non)) (tOp rEq (tVar 10) (tVar 4)))) (tNext))
    (tSeq (tIfS (tOr (tTest (tOp oNotN (tVar 10) (tC .non))) (tTest (tOp oIsN (tVar 9) (tC .non)))) (tRet (tC (.bl false))) (tNext))
    (tSeq (tIfS (tTest (tOp oNeD (tLst (tCons (tFld K (tVar 9) "cells") (tCons (tFld K (tVar 9) "given") (tNil)))) (tLst (tCons (tCall (sp__law_held K) [] E0 (tCons (tVar 7) (tNil))) (tCons (tCall (sp__law_gifts K) [] E0 (tCons (tVar 7) (tNil))) (tNil)))))) (tRet (tC (.bl false))) (tNext))
    (tSeq (tIfS (tOr (tTest (tOp oNeD (tFld K (tVar 9) "steps") (tLc (iList K (tDGet (tVar 7) (tC (.str "records")))) (gName 13) (tYes) (tOp (rIxL K) (tVar 13) (tC (.int 0))) [13]))) (tTest (tOp rNe (tFld K (tVar 9) "deepest") (tDGet (tVar 7) (tC (.str "deepest")))))) (tRet (tC (.bl false))) (tNext))
    (tRet (tAndV (tCall (sp__law_wholes K) [] E0 (tCons (tOp rCat (tOp rCat (tFld K (tVar 9) "cells") (tFld K (tVar 9) "given")) (tFld K (tVar 9) "steps")) (tNil))) (tOp rEq (tCB (cLenI (He.ga K "Outcome") (sp_Outcome___len__ K)) (tCons (tVar 9) (tNil))) (tCB (cLenQ K) (tCons (tDGet (tVar 7) (tC (.str "records"))) (tNil)))))))))
def t_law_6 (K : PySem.W.Frag) : TS :=
    tSeq (tAsg (tTup (tCons (tLc (iList K (tVar 2)) (gTup K 2 (gCons (gName 11) (gCons (gName 12) (gNil)))) (tYes) (tTup (tCons (tVar 11) (tCons (tCB (cListQ K) (tCons (tVar 12) (tNil))) (tNil)))) [11, 12]) (tCons (tCB (cListQ K) (tCons (tVar 6) (tNil))) (tNil)))) (gName 8))
    (tSeq (tAsg (tCall (sp__law_asked K) [] E0 (tCons (tVar 2) (tCons (tOp (rIxL K) (tVar 1) (tC (.int 0))) (tCons (tVar 5) (tCons (tVar 6) (tCons (tVar 4) (tNil))))))) (gTup K 2 (gCons (gName 9) (gCons (gName 10) (gNil)))))
    (tSeq (tIfS (tTest (tOp oNeD (tVar 8) (tTup (tCons (tVar 2) (tCons (tVar 6) (tNil)))))) (tRet (tC (.bl false))) (tNext))
    (tSeq (tIfS (tB (tDGet (tVar 7) (tC (.str "long")))) (tRet (tAndV (tOp oIsN (tVar 9) (tC .non)) (tOp rEq (tVar 10) (tVar 4)))) (tNext))
    (tSeq (tIfS (tOr (tTest (tOp oNotN (tVar 10) (tC .non))) (tTest (tOp oIsN (tVar 9) (tC .non)))) (tRet (tC (.bl false))) (tNext))
    (tSeq (tIfS (tTest (tOp oNeD (tLst (tCons (tFld K (tVar 9) "cells") (tCons (tFld K (tVar 9) "given") (tNil)))) (tLst (tCons (tCall (sp__law_held K) [] E0 (tCons (tVar 7) (tNil))) (tCons (tCall (sp__law_gifts K) [] E0 (tCons (tVar 7) (tNil))) (tNil)))))) (tRet (tC (.bl false))) (tNext))
    (tSeq (tIfS (tOr (tTest (tOp oNeD (tFld K (tVar 9) "steps") (tLc (iList K (tDGet (tVar 7) (tC (.str "records")))) (gName 13) (tYes) (tOp (rIxL K) (tVar 13) (tC (.int 0))) [13]))) (tTest (tOp rNe (tFld K (tVar 9) "deepest") (tDGet (tVar 7) (tC (.str "deepest")))))) (tRet (tC (.bl false))) (tNext))
    (tRet (tAndV (tCall (sp__law_wholes K) [] E0 (tCons (tOp rCat (tOp rCat (tFld K (tVar 9) "cells") (tFld K (tVar 9) "given")) (tFld K (tVar 9) "steps")) (tNil))) (tOp rEq (tCB (cLenI (He.ga K "Outcome") (sp_Outcome___len__ K)) (tCons (tVar 9) (tNil))) (tCB (cLenQ K) (tCons (tDGet (tVar 7) (tC (.str "records"))) (tNil))))))))))))
theorem law_6 {K : PySem.W.Frag} {H : Hp} {Q : VK} {nl pl cl st : Addr} {S : Addr → Prop} {p : Prg} {ns : List Str} {x0 : Str} {g : Int} {cs : Cells} {xs : List V} {most : Int} {a0 a3 : Option V} (rP : R S H (.ref pl) (prgD p)) (okP : PrgOk p) (hx : x0 ∈ p.map (·.1)) (hnl : H nl = some (.lst (ns.map V.str))) (ax0 : atI (ns.map V.str) 0 = some (.str x0)) (hcl : H cl = some (.lst xs)) (ixs : ImA H xs (cs.map pairD)) (lcs : cs.length ≤ 100) (lm : most ≤ 5000) (lp : p.length ≤ 1000) (few : ∀ m, p.ran x0 g cs most = some m → m.given.length < 64)
    (hs : ∀ m, p.ran x0 g cs most = some m → ∀ (Hb : Hp) (o : Addr) (H' : Hp) (a8 : Option V), Chg [] H H' → OutAt K Hb H' o ((notN m.cells).map pairD) (srtG m.given) (markDs m) (.int (m.deep : Nat)) → t_law_9 K (fin Q) [a0, some (.ref nl), some (.ref pl), a3, some (.int most), some (.int g), some (.ref cl), some (.ref st), a8, some (.ref o), some .non, none, none, none] H')
    (hn : p.ran x0 g cs most = none → ∀ (H' : Hp) (a8 : Option V), Chg [] H H' → t_law_9 K (fin Q) [a0, some (.ref nl), some (.ref pl), a3, some (.int most), some (.int g), some (.ref cl), some (.ref st), a8, some .non, some (.int most), none, none, none] H') :
    t_law_6 K (fin Q) [a0, some (.ref nl), some (.ref pl), a3, some (.int most), some (.int g), some (.ref cl), some (.ref st), none, none, none, none, none, none] H := by
  unfold t_law_6
  cases rP with
  | @lst _ xp _ sp e ra =>
  have ln : xp.length = p.length := by rw [ra.length, List.length_map]
  walk_at "w"
  refine w_lcW (walk_list (K := K) (a := pl) (xs := xp)) (fun D i acc H1 => Chg [] H H1 ∧ RA (fun a => H a = none ∧ a ≠ D) H1 acc ((p.take i).map rowD)) (fun D H1 nD c hD => ⟨c, .nil⟩) (fun D i acc H1 _ _ z => sqL (z.1.at e)) (fun D i acc x H1 H2 hi nD hD el iv y => ?_) (fun D acc H1 nD el hD iv => ?_)
  · obtain ⟨rfl, ex⟩ := y
    obtain ⟨c1, rac⟩ := iv
    obtain ⟨d1, ed, r1⟩ := ra.get ex
    rw [List.getElem?_map] at ed
    have hi' : i < p.length := by omega
    rw [List.getElem?_eq_getElem hi'] at ed
    cases ed
    cases r1 with
    | tup e2 ra2 =>
      cases ra2 with
      | cons r0 rs0 =>
        cases rs0 with
        | cons r3 rs3 =>
          cases rs3
          cases r0
          cases r3 with
          | @lst l4 ys4 _ s4 e4 ra4 =>
            have e2' := c1.at e2
            have e4' := c1.at e4
            walk_at "w"
            refine w_listL (sqL e4') fun l5 H3 n5 c3 h5 => ?_
            walk_at "w"
            refine k_tup (by walk_at "sz") fun T H4 nT c4 hT => ?_
            have c34 := c3.same c4
            have n5' : H l5 = none := c1.dom _ n5
            have ne5 : l5 ≠ D := fun z => by rw [z, hD] at n5; cases n5
            have hT3 : T ≠ D := fun z => by rw [z, c3.at hD] at nT; cases nT
            refine lc_end (c34.at hD) el (by omega) fun H5 c5 h5' => ⟨?_, ?_⟩
            · exact (c1.same c34).one c5 nD
            · rw [List.take_add_one, List.getElem?_eq_getElem hi', Option.toList_some, List.map_append]
              have k1 : RA (fun a => H a = none ∧ a ≠ D) H5 acc ((p.take i).map rowD) := (rac.same c34).keep c5 fun a sa hm => sa.2 (List.mem_singleton.mp hm)
              refine k1.snoc (.tup (c5.at1 hT hT3) (.cons (.str _) (.cons (.lst ⟨n5', ne5⟩ (c5.at1 (c4.at h5) ne5) ?_) .nil)))
              exact ((ra4.pure (steps_noL _)).im ((c1.same c34).pre c5)).any
  obtain ⟨c1, rac⟩ := iv
  rw [ln, List.take_length] at rac
  have rCopy : R (fun _ => True) H1 (.ref D) (prgD p) := .lst trivial hD (rac.mono fun a h => trivial)
  have rPl : R (fun _ => True) H (.ref pl) (prgD p) := .lst trivial e (ra.mono fun _ _ => trivial)
  have hcl1 := c1.at hcl
  walk_at "w"
  refine w_listL (sqL hcl1) fun cl2 H2 ncl2 c2 hcl2 => ?_
  walk_at "w"
  refine k_tup (by walk_at "sz") fun T H3 nT c3 hT => ?_
  have c03 : Chg [] H H3 := (c1.same c2).same c3
  have hnl3 := c03.at hnl
  walk_at "w"
  have cmp : ∀ (DD : Ends) (σ : L2.St) (H5 : Hp), Chg [] H3 H5 → (∀ H6, Chg [] H5 H6 → tNext DD σ H6) →
      KTup (fun y H2 => oNeD (.ref T) y H2 fun x H' => ∃ k, x = .bl k ∧ if k = true then tRet (tC (.bl false)) DD σ H' else tNext DD σ H') [.ref pl, .ref cl] H5 := fun DD σ H5 c5 hh => by
    refine k_tup (by walk_at "sz") fun T2 H6 nT2 c6 hT2 => ?_
    have c36 := c5.same c6
    have c06 := c03.same c36
    have rA : R (fun _ => True) H6 (.ref T) (.tuple [prgD p, .list (cs.map pairD)]) := .tup (c36.at hT) (.cons ((rCopy.same (c2.same c3)).same c36) (.cons (.lst trivial ((c3.same c36).at hcl2) (ixs.im c06).any) .nil))
    have rB : R (fun _ => True) H6 (.ref T2) (.tuple [prgD p, .list (cs.map pairD)]) := .tup hT2 (.cons (rPl.same c06) (.cons (.lst trivial (c06.at hcl) (ixs.im c06).any) .nil))
    have fl : noDic (.tuple [prgD p, .list (cs.map pairD)]) = true := by
      show (noDic (prgD p) && (noDic (.list (cs.map pairD)) && true)) = true
      rw [prg_noDic, pairs_flat]
      rfl
    have dp : (PyData.tuple [prgD p, .list (cs.map pairD)]).depth ≤ 12 := by
      have h1 := prg_depth okP
      have h2 := pairs_depth cs
      have : PyData.depthAll [prgD p, .list (cs.map pairD)] ≤ 11 := depthAll_le fun d hd => by
        simp only [List.mem_cons, List.not_mem_nil, or_false] at hd
        rcases hd with rfl | rfl <;> omega
      show PyData.depthAll _ + 1 ≤ 12
      omega
    refine w_neD rA rB fl fl (by omega) ?_
    rw [eqv_self _ fl]
    refine ⟨false, rfl, ?_⟩
    rw [if_neg Bool.false_ne_true]
    exact hh H6 c6
  refine ⟨pl, cl, p, x0, g, cs, most, _, rfl, rPl.same c03, okP, hx, .inr ⟨cl, xs, rfl, c03.at hcl, ixs.im c03⟩, by omega, lm, few, fun m em T4 o H4 c4 hT4 oa => ?_, fun en T4 H4 c4 hT4 => ?_⟩
  · walk_at "w"
    exact cmp _ _ H4 c4 fun H6 c6 => hs m em _ o H6 (some (.ref T)) ((c03.same c4).same c6) (oa.same c6)
  · walk_at "w"
    exact cmp _ _ H4 c4 fun H6 c6 => hn en H6 (some (.ref T)) ((c03.same c4).same c6)
def t_law (K : PySem.W.Frag) : TS :=
    tSeq (tAsg (tCall (sp__law_program K) [] E0 (tCons (tVar 0) (tCons (tC (.int 5)) (tCons (tC (.int 1)) (tNil))))) (gTup K 2 (gCons (gName 1) (gCons (gName 2) (gNil)))))
    (tSeq (tAsg (tCall sp__law_well [] E0 (tCons (tOp oMod (tCall (sp__law_cell_at K) [] E0 (tCons (tVar 0) (tCons (tC (.int 0)) (tNil)))) (tOp oPow (tC (.int 10)) (tC (.int 17)))) (tCons (tC (.int 121)) (tNil)))) (gName 3))
    (tSeq (tAsg (tOp (rIxL K) (tLst (tCons (tC (.int 150)) (tCons (tC (.int 150)) (tCons (tCall sp__law_draw [] E0 (tCons (tVar 3) (tCons (tC (.int 151)) (tNil)))) (tNil))))) (tCall sp__law_draw [] E0 (tCons (tVar 3) (tCons (tC (.int 3)) (tNil))))) (gName 4))
    (tSeq (tAsg (tOp (rIxL K) (tLst (tCons (tCall sp__law_draw [] E0 (tCons (tVar 3) (tCons (tC (.int 4)) (tNil)))) (tCons (tCall sp__law_number [] E0 (tCons (tVar 3) (tNil))) (tNil)))) (tCall sp__law_draw [] E0 (tCons (tVar 3) (tCons (tC (.int 2)) (tNil))))) (gName 5))
    (tSeq (tAsg (tCall sp__law_cells [] E0 (tCons (tVar 3) (tNil))) (gName 6))
    (tSeq (tAsg (tCall (sp__law_ran K) [] E0 (tCons (tVar 2) (tCons (tOp (rIxL K) (tVar 1) (tC (.int 0))) (tCons (tVar 5) (tCons (tVar 6) (tCons (tVar 4) (tNil))))))) (gName 7))
    (tSeq (tAsg (tTup (tCons (tLc (iList K (tVar 2)) (gTup K 2 (gCons (gName 11) (gCons (gName 12) (gNil)))) (tYes) (tTup (tCons (tVar 11) (tCons (tCB (cListQ K) (tCons (tVar 12) (tNil))) (tNil)))) [11, 12]) (tCons (tCB (cListQ K) (tCons (tVar 6) (tNil))) (tNil)))) (gName 8))
    (tSeq (tAsg (tCall (sp__law_asked K) [] E0 (tCons (tVar 2) (tCons (tOp (rIxL K) (tVar 1) (tC (.int 0))) (tCons (tVar 5) (tCons (tVar 6) (tCons (tVar 4) (tNil))))))) (gTup K 2 (gCons (gName 9) (gCons (gName 10) (gNil)))))
    (tSeq (tIfS (tTest (tOp oNeD (tVar 8) (tTup (tCons (tVar 2) (tCons (tVar 6) (tNil)))))) (tRet (tC (.bl false))) (tNext))
    (tSeq (tIfS (tB (tDGet (tVar 7) (tC (.str "long")))) (tRet (tAndV (tOp oIsN (tVar 9) (tC .non)) (tOp rEq (tVar 10) (tVar 4)))) (tNext))
    (tSeq (tIfS (tOr (tTest (tOp oNotN (tVar 10) (tC .non))) (tTest (tOp oIsN (tVar 9) (tC .non)))) (tRet (tC (.bl false))) (tNext))
    (tSeq (tIfS (tTest (tOp oNeD (tLst (tCons (tFld K (tVar 9) "cells") (tCons (tFld K (tVar 9) "given") (tNil)))) (tLst (tCons (tCall (sp__law_held K) [] E0 (tCons (tVar 7) (tNil))) (tCons (tCall (sp__law_gifts K) [] E0 (tCons (tVar 7) (tNil))) (tNil)))))) (tRet (tC (.bl false))) (tNext))
    (tSeq (tIfS (tOr (tTest (tOp oNeD (tFld K (tVar 9) "steps") (tLc (iList K (tDGet (tVar 7) (tC (.str "records")))) (gName 13) (tYes) (tOp (rIxL K) (tVar 13) (tC (.int 0))) [13]))) (tTest (tOp rNe (tFld K (tVar 9) "deepest") (tDGet (tVar 7) (tC (.str "deepest")))))) (tRet (tC (.bl false))) (tNext))
    (tRet (tAndV (tCall (sp__law_wholes K) [] E0 (tCons (tOp rCat (tOp rCat (tFld K (tVar 9) "cells") (tFld K (tVar 9) "given")) (tFld K (tVar 9) "steps")) (tNil))) (tOp rEq (tCB (cLenI (He.ga K "Outcome") (sp_Outcome___len__ K)) (tCons (tVar 9) (tNil))) (tCB (cLenQ K) (tCons (tDGet (tVar 7) (tC (.str "records"))) (tNil))))))))))))))))))
def sp_law (K : PySem.W.Frag) : Sp := fun vs H Q _ => ∃ (a : Addr) (ns : List Int), vs = [.ref a] ∧ SqL K H a (ns.map V.int) ∧ ns.length ≤ 63 ∧ ∀ H', Q (.bl true) H'
theorem pure_law {K : PySem.W.Frag} (CF : CFs K) (vs : List V) (H : Hp) (Q : VK) (E : XK) (h : sp_law K vs H Q E) : t_law K (fin Q) (start ["script", "names", "program", "well", "most", "arg", "cells", "state", "handed", "found", "field", "name", "rows", "record"] vs) H := by
  obtain ⟨a, script, rfl, hS, hlen, q⟩ := h
  show t_law K _ [some (.ref a), none, none, none, none, none, none, none, none, none, none, none, none, none] H
  unfold t_law
  walk_at "w"
  refine ⟨a, script, 5, 1, rfl, hS, by decide, by decide, fun T nl pl H1 ns gs p c1 hT hnl rP PD lgs => ?_⟩
  walk_at "w"
  refine ⟨a, script, 0, rfl, c1.seq hS, by decide, fun cv => ?_⟩
  walk_at "w"
  refine w_pow (cpow 4 (by decide) (by decide) (by decide)) ?_
  have e17 : (10 : Int) ^ Int.toNat 17 = 100000000000000000 := by decide
  rw [e17]
  refine w_mod (by decide) ?_
  walk_at "w"
  refine ⟨_, 121, rfl, by decide, by decide, fun b H2 nb c2 bag2 => ?_⟩
  have hb0 : H1 b = none := nb
  walk_at "w"
  refine u_draw bag2 (by decide) (by decide) (by decide) fun u H3 c3 bag3 u0 u1 => ?_
  walk_at "w"
  refine k_lst (by walk_at "sz") fun ml H4 nml c4 hml => ?_
  have mlb : ml ≠ b := (bag3.ne nml).symm
  walk_at "w"
  refine u_draw (bag3.same c4) (by decide) (by decide) (by decide) fun u' H5 c5 bag5 u0' u1' => ?_
  obtain ⟨mv, emv, hmv⟩ := atD (xs := [V.int 150, V.int 150, V.int u]) u0' u1'
  refine w_ixL (sqL (c5.at1 hml mlb)) emv ?_
  obtain ⟨most, rfl, most5⟩ : ∃ most : Nat, mv = .int (most : Nat) ∧ most ≤ 150 := by
    simp only [List.mem_cons, List.not_mem_nil, or_false] at hmv
    rcases hmv with rfl | rfl | rfl
    · exact ⟨150, rfl, by decide⟩
    · exact ⟨150, rfl, by decide⟩
    · exact ⟨u.toNat, by rw [Int.toNat_of_nonneg u0], by omega⟩
  walk_at "w"
  refine u_draw bag5 (by decide) (by decide) (by decide) fun v H6 c6 bag6 v0 v1 => ?_
  walk_at "w"
  refine ⟨b, _, rfl, bag6, by decide, fun v2 H7 c7 bag7 _ _ => ?_⟩
  walk_at "w"
  refine k_lst (by walk_at "sz") fun al H8 nal c8 hal => ?_
  have alb : al ≠ b := (bag7.ne nal).symm
  walk_at "w"
  refine u_draw (bag7.same c8) (by decide) (by decide) (by decide) fun u2 H9 c9 bag9 u20 u21 => ?_
  obtain ⟨gv, egv, hgv⟩ := atD (xs := [V.int v, V.int v2]) u20 u21
  refine w_ixL (sqL (c9.at1 hal alb)) egv ?_
  obtain ⟨g, rfl⟩ : ∃ g : Int, gv = .int g := by
    simp only [List.mem_cons, List.not_mem_nil, or_false] at hgv
    rcases hgv with rfl | rfl
    · exact ⟨_, rfl⟩
    · exact ⟨_, rfl⟩
  walk_at "w"
  refine ⟨b, _, rfl, bag9, by decide, fun cl xs cs H10 c10 bag10 ncl hcl ixs lcs nd bd => ?_⟩
  have c29 : Chg [b] H2 H9 := ((((c3.same c4).both c5).both c6).both c7).same c8 |>.both c9
  have c110 : Chg [] H1 H10 := c2.one (c29.both c10) nb
  have rP10 := rP.same c110
  have hnl10 := c110.at hnl
  obtain ⟨x0, ex0, ax0⟩ : ∃ x0, ns[0]? = some x0 ∧ atI (ns.map V.str) 0 = some (.str x0) := by
    have hp := PD.pos
    refine ⟨ns[0], List.getElem?_eq_getElem hp, ?_⟩
    refine atI_nat (j := 0) ?_
    rw [List.getElem?_map, List.getElem?_eq_getElem hp]
    rfl
  have hx0 : x0 ∈ p.map (·.1) := PD.perm.mem_iff.mpr (List.mem_of_getElem? ex0)
  have lpp : p.length ≤ 12 := by
    have := PD.perm.length_eq
    rw [List.length_map] at this
    have := PD.few
    omega
  have few0 : ∀ m L, Dl p 0 ⟨0, [], p.rows x0, g, 0, 0, 0⟩ (Mc.start p x0 g (cStart cs)) m L → m.given.length < 64 := fun m L dl => by
    obtain ⟨h1, h2⟩ := dl.done.gates PD.gates (fun s hs x hx => by
      obtain ⟨r, hr, _, hs'⟩ := rows_mem hs
      exact PD.gates r hr s hs' x hx) List.nodup_nil (fun g hg => (by cases hg))
    have := few_of h1 (ys := gs) fun z hz => by
      obtain ⟨r', hr', e'⟩ := List.mem_map.mp hz
      rw [← e']
      exact h2 r' hr'
    rw [List.length_map] at this
    omega
  walk_at "w"
  refine ⟨pl, cl, p, x0, g, cs, xs, most, _, rfl, rP10, PD.ok, hx0, hcl, ixs, by omega, most5, fun H11 st s m L gls LL ys c11 dl lm S11 slong sdeep lys fits => ?_, fun H11 st s c11 lgk h11 slong => ?_⟩
  · have er : p.ran x0 g cs (most : Int) = some { m with stack := [] } := ran_done dl.done (by omega)
    change t_law_6 K (fin Q) [some (.ref a), some (.ref nl), some (.ref pl), some (.ref b), some (.int (most : Nat)), some (.int g), some (.ref cl), some (.ref st), none, none, none, none, none, none] H11
    refine law_6 (rP10.same c11) PD.ok hx0 (c11.at hnl10) ax0 (c11.at hcl) (ixs.im c11) (by omega) (by omega) (by omega) (fun m' e' => by rw [er] at e'; cases e'; exact few0 m L dl) (fun m' e' Hb o H12 a8 c12 oa => ?_) (fun en => by rw [er] at en; cases en)
    rw [er] at e'
    cases e'
    have S12 := S11.same c12
    have h12 := S12.dict
    unfold t_law_9
    walk_at "w"
    refine sg_long h12 ?_
    rw [slong]
    refine ⟨false, rfl, ?_⟩
    rw [if_neg Bool.false_ne_true]
    change t_law_10 K (fin Q) [some (.ref a), some (.ref nl), some (.ref pl), some (.ref b), some (.int (most : Nat)), some (.int g), some (.ref cl), some (.ref st), a8, some (.ref o), some .non, none, none, none] H12
    have dle := dl.len
    have lL : L.length = m.recs.length := by
      have := dle.1
      have e0 : (Mc.start p x0 g (cStart cs)).recs.length = 0 := rfl
      omega
    refine law_10 CF (m := m) oa S12 sdeep (by rw [dle.2]; rfl) lys (by omega) fits (few0 m L dl) (fun r hr => ?_) q
    have := dl.paths r hr
    have e0 : (⟨0, [], p.rows x0, g, 0, 0, 0⟩ : Frm).path.length = 0 := rfl
    omega
  · have er : p.ran x0 g cs (most : Int) = none := ran_long lgk
    change t_law_6 K (fin Q) [some (.ref a), some (.ref nl), some (.ref pl), some (.ref b), some (.int (most : Nat)), some (.int g), some (.ref cl), some (.ref st), none, none, none, none, none, none] H11
    refine law_6 (rP10.same c11) PD.ok hx0 (c11.at hnl10) ax0 (c11.at hcl) (ixs.im c11) (by omega) (by omega) (by omega) (fun m' e' => by rw [er] at e'; cases e') (fun m' e' => by rw [er] at e'; cases e') (fun en H12 a8 c12 => ?_)
    have h12 := c12.at h11
    unfold t_law_9
    walk_at "w"
    refine sg_long h12 ?_
    rw [slong]
    walk_at "w"
    have hq : Q (.bl true) H12 := q H12
    rw [show decide (V.int ((most : Nat) : Int) = V.int ((most : Nat) : Int)) = true from decide_eq_true rfl]
    exact hq
end Fg
namespace Fg
open PySem PySem.Spec PyProof.Rows L2
section
variable {P : Program} {w : World} {K : PySem.W.Frag} {mg : Str → Option Value} {base : Heap} {x qual : Str} {st : Stmt} {f : Addr} {fd : FuncData} {sp : Sp} {k : Nat} {ps : List Str} {dvs : List V}
theorem FnP.caldX (n j : Nat) (F : FnP K x st dvs f fd) (ok : FnOk P w K mg base (L2.CX P w) k f fd ps sp) (g : mg x = some (.ref f)) (hd : dvs ≠ []) (hn : n + (dvs.length - j) = ps.length)
    (h : ∀ (T : Addr) (kV doc pm : Value) (an : Option Addr) (cdv ct : Value) (us its : List Value), us.length = n → its.length = dvs.length →
      ∃ k, bindArgs (PySem.W.fnOf x x (defArgs st) (defBody st) (defScope st) (.ref T) kV doc pm an cdv ct) ⟨us, []⟩ = seqItems? (.ref T) >>= k ∧ k (some its.toArray) = pure (ps.zip (us ++ its.drop j))) : CalX P w K mg base k x sp (dvs.drop j) := by
  obtain ⟨ds, v, b⟩ := F.binds1 n j hd hn h
  exact ⟨f, fd, ps, ds, ok, g, F.kp, b, v⟩
/-- a class whose instances are made by its own __init__ -/
theorem MtP.mki {C : Str} (F : MtP K "__init__" qual st (He.ma K (He.ga K C) "__init__") fd) (M : Mk K (He.ga K C) (He.ma K (He.ga K C) "__init__")) (ok : FnOk P w K mg base CX0 k (He.ma K (He.ga K C) "__init__") fd ps sp) (g : mg C = some (.ref (He.ga K C)))
    (h : ∀ (kV doc pm : Value) (an : Option Addr) (cdv ct : Value) (us : List Value), us.length = ps.length → bindArgs (PySem.W.fnOf "__init__" qual (defArgs st) (defBody st) (defScope st) .none kV doc pm an cdv ct) ⟨us, []⟩ = pure (ps.zip us)) : MkI P w K mg base k C (He.ga K C) sp [] :=
  ⟨_, fd, ps, [], M, ok, g, F.bindsN h, .nil⟩
theorem MtP.lni {C : Str} (F : MtP K "__len__" qual st (He.ma K (He.ga K C) "__len__") fd) (M : Meth K (He.ga K C) "__len__" (He.ma K (He.ga K C) "__len__")) (ok : FnOk P w K mg base CX0 k (He.ma K (He.ga K C) "__len__") fd ps sp)
    (h : ∀ (kV doc pm : Value) (an : Option Addr) (cdv ct : Value) (us : List Value), us.length = ps.length → bindArgs (PySem.W.fnOf "__len__" qual (defArgs st) (defBody st) (defScope st) .none kV doc pm an cdv ct) ⟨us, []⟩ = pure (ps.zip us)) : LnI P w K mg base k (He.ga K C) sp :=
  ⟨_, fd, ps, ok, M.at_, M.fn, F.bindsN h⟩
end
end Fg
namespace Fg
open PySem PySem.Spec PyProof.Rows L2
local macro_rules | `(tactic| walk_at "len") => `(tactic| first | exact (fun ⟨e, _⟩ => by rw [e]; rfl) | (refine exL ?_; intro _; walk_at "len"))
theorem sc_is_whole : FnScope ["thing"] ["thing"] (defScope s_is_whole) := ⟨rfl, rfl, rfl, by decide +kernel, rfl, by decide +kernel, by decide +kernel⟩
theorem sc_is_name : FnScope ["thing", "sign"] ["thing"] (defScope s_is_name) := ⟨rfl, rfl, rfl, by decide +kernel, rfl, by decide +kernel, by decide +kernel⟩
theorem sc_is_expression : FnScope ["thing", "most", "one"] ["thing", "most"] (defScope s_is_expression) := ⟨rfl, rfl, rfl, by decide +kernel, rfl, by decide +kernel, by decide +kernel⟩
theorem sc_is_step : FnScope ["thing", "names", "behind", "word"] ["thing", "names", "behind"] (defScope s_is_step) := ⟨rfl, rfl, rfl, by decide +kernel, rfl, by decide +kernel, by decide +kernel⟩
theorem sc_has_form : FnScope ["thing", "row", "names", "name", "steps", "one", "other"] ["thing"] (defScope s_has_form) := ⟨rfl, rfl, rfl, by decide +kernel, rfl, by decide +kernel, by decide +kernel⟩
theorem sc_first_wrong : FnScope ["program", "names", "name", "steps", "at", "step"] ["program"] (defScope s_first_wrong) := ⟨rfl, rfl, rfl, by decide +kernel, rfl, by decide +kernel, by decide +kernel⟩
theorem sc_check : FnScope ["program", "wrong"] ["program"] (defScope s_check) := ⟨rfl, rfl, rfl, by decide +kernel, rfl, by decide +kernel, by decide +kernel⟩
theorem sc_reckon : FnScope ["expression", "arg", "cells", "asked", "word", "one", "other"] ["expression", "arg", "cells", "asked"] (defScope s_reckon) := ⟨rfl, rfl, rfl, by decide +kernel, rfl, by decide +kernel, by decide +kernel⟩
theorem sc_start_cells : FnScope ["cells", "found", "cell", "number"] ["cells"] (defScope s_start_cells) := ⟨rfl, rfl, rfl, by decide +kernel, rfl, by decide +kernel, by decide +kernel⟩
theorem sc_not_nought : FnScope ["held", "cell"] ["held"] (defScope s_not_nought) := ⟨rfl, rfl, rfl, by decide +kernel, rfl, by decide +kernel, by decide +kernel⟩
theorem sc_helper_rows : FnScope ["program", "name", "one", "rows"] ["program", "name"] (defScope s_helper_rows) := ⟨rfl, rfl, rfl, by decide +kernel, rfl, by decide +kernel, by decide +kernel⟩
theorem sc_step_done : FnScope ["frame", "held", "given", "row", "asked", "record", "making", "cell"] ["frame", "held", "given"] (defScope s_step_done) := ⟨rfl, rfl, rfl, by decide +kernel, rfl, by decide +kernel, by decide +kernel⟩
theorem sc_trace : FnScope ["program", "name", "arg", "cells", "most", "helpers", "stack", "held", "given", "records", "deepest", "many", "frame", "record", "making"] ["program", "name", "arg", "cells", "most"] (defScope s_trace) := ⟨rfl, rfl, rfl, by decide +kernel, rfl, by decide +kernel, by decide +kernel⟩
theorem sc_run : FnScope ["program", "name", "arg", "cells", "most", "records", "held", "given", "deepest", "gifts", "one", "record"] ["program", "name", "arg", "cells", "most"] (defScope s_run) := ⟨rfl, rfl, rfl, by decide +kernel, rfl, by decide +kernel, by decide +kernel⟩
theorem sc__law_cell_at : FnScope ["script", "k"] ["script", "k"] (defScope s__law_cell_at) := ⟨rfl, rfl, rfl, by decide +kernel, rfl, by decide +kernel, by decide +kernel⟩
theorem sc__law_stir : FnScope ["seed", "turn", "number"] ["seed", "turn"] (defScope s__law_stir) := ⟨rfl, rfl, rfl, by decide +kernel, rfl, by decide +kernel, by decide +kernel⟩
theorem sc__law_well : FnScope ["cell", "k", "seed"] ["cell", "k"] (defScope s__law_well) := ⟨rfl, rfl, rfl, by decide +kernel, rfl, by decide +kernel, by decide +kernel⟩
theorem sc__law_draw : FnScope ["well", "many", "taken"] ["well", "many"] (defScope s__law_draw) := ⟨rfl, rfl, rfl, by decide +kernel, rfl, by decide +kernel, by decide +kernel⟩
theorem sc__law_new_name : FnScope ["well", "names", "letters", "pick", "letter", "name", "old", "at", "some", "k", "one"] ["well", "names"] (defScope s__law_new_name) := ⟨rfl, rfl, rfl, by decide +kernel, rfl, by decide +kernel, by decide +kernel⟩
theorem sc__law_number : FnScope ["well", "pick"] ["well"] (defScope s__law_number) := ⟨rfl, rfl, rfl, by decide +kernel, rfl, by decide +kernel, by decide +kernel⟩
theorem sc__law_expression : FnScope ["well", "most", "pick", "one"] ["well", "most"] (defScope s__law_expression) := ⟨rfl, rfl, rfl, by decide +kernel, rfl, by decide +kernel, by decide +kernel⟩
theorem sc__law_step : FnScope ["well", "names", "gates", "k", "behind", "loose", "words", "word", "wide", "one", "after"] ["well", "names", "gates", "k", "behind", "loose"] (defScope s__law_step) := ⟨rfl, rfl, rfl, by decide +kernel, rfl, by decide +kernel, by decide +kernel⟩
theorem sc__law_program : FnScope ["cells", "most", "loose", "head", "great", "many", "names", "k", "gates", "helpers", "well", "size", "rows", "at"] ["cells", "most", "loose"] (defScope s__law_program) := ⟨rfl, rfl, rfl, by decide +kernel, rfl, by decide +kernel, by decide +kernel⟩
theorem sc__law_worth : FnScope ["expression", "arg", "cells", "asked", "word", "first", "second"] ["expression", "arg", "cells", "asked"] (defScope s__law_worth) := ⟨rfl, rfl, rfl, by decide +kernel, rfl, by decide +kernel, by decide +kernel⟩
theorem sc__law_made : FnScope ["state", "step", "arg", "record", "cells", "cell", "worth"] ["state", "step", "arg", "record"] (defScope s__law_made) := ⟨rfl, rfl, rfl, by decide +kernel, rfl, by decide +kernel, by decide +kernel⟩
theorem sc__law_do : FnScope ["state", "name", "arg", "path", "steps", "at", "done", "born", "step", "record"] ["state", "name", "arg", "path"] (defScope s__law_do) := ⟨rfl, rfl, rfl, by decide +kernel, rfl, by decide +kernel, by decide +kernel⟩
theorem sc__law_ran : FnScope ["program", "name", "arg", "cells", "most", "state"] ["program", "name", "arg", "cells", "most"] (defScope s__law_ran) := ⟨rfl, rfl, rfl, by decide +kernel, rfl, by decide +kernel, by decide +kernel⟩
theorem sc__law_cells : FnScope ["well", "found", "k", "cell", "one", "number"] ["well"] (defScope s__law_cells) := ⟨rfl, rfl, rfl, by decide +kernel, rfl, by decide +kernel, by decide +kernel⟩
theorem sc__law_held : FnScope ["state", "cell"] ["state"] (defScope s__law_held) := ⟨rfl, rfl, rfl, by decide +kernel, rfl, by decide +kernel, by decide +kernel⟩
theorem sc__law_gifts : FnScope ["state", "name"] ["state"] (defScope s__law_gifts) := ⟨rfl, rfl, rfl, by decide +kernel, rfl, by decide +kernel, by decide +kernel⟩
theorem sc__law_wholes : FnScope ["rows", "row", "parts", "one"] ["rows"] (defScope s__law_wholes) := ⟨rfl, rfl, rfl, by decide +kernel, rfl, by decide +kernel, by decide +kernel⟩
theorem sc__law_asked : FnScope ["program", "name", "arg", "cells", "most", "found", "field", "e"] ["program", "name", "arg", "cells", "most"] (defScope s__law_asked) := ⟨rfl, rfl, rfl, by decide +kernel, rfl, by decide +kernel, by decide +kernel⟩
theorem sc_law : FnScope ["script", "names", "program", "well", "most", "arg", "cells", "state", "handed", "found", "field", "name", "rows", "record"] ["script"] (defScope s_law) := ⟨rfl, rfl, rfl, by decide +kernel, rfl, by decide +kernel, by decide +kernel⟩
/-! ### what the top has left, by names -/
structure Gm (w : World) (K : PySem.W.Frag) (mg : Str → Option Value) (dP : Addr) (es : Array DictEntry) (nn : Nat) : Prop where
  ValueError : mg "ValueError" = none
  all : mg "all" = none
  isinstance : mg "isinstance" = none
  int : mg "int" = none
  min : mg "min" = none
  sorted : mg "sorted" = none
  dict : mg "dict" = none
  range : mg "range" = none
  max : mg "max" = none
  len : mg "len" = none
  list : mg "list" = none
  enumerate : mg "enumerate" = none
  set : mg "set" = none
  bool : mg "bool" = none
  str : mg "str" = none
  tuple : mg "tuple" = none
  zip : mg "zip" = none
  LETTERS : ∃ u, mg "LETTERS" = some u ∧ RelV (.str letters) u
  LONGEST_NAME : ∃ u, mg "LONGEST_NAME" = some u ∧ RelV (.int 8) u
  PARTS : ∃ u, mg "PARTS" = some u ∧ RelV (.ref dP) u
  WorkError : mg "WorkError" = some (.ref (He.ga K "WorkError"))
  NoProgram : mg "NoProgram" = some (.ref (He.ga K "NoProgram"))
  NoHelper : mg "NoHelper" = some (.ref (He.ga K "NoHelper"))
  TooLong : mg "TooLong" = some (.ref (He.ga K "TooLong"))
  Outcome : mg "Outcome" = some (.ref (He.ga K "Outcome"))
  Record : mg "Record" = some (.ref (He.ga K "Record"))
  Frame : mg "Frame" = some (.ref (He.ga K "Frame"))
  dP : KDict K w dP es nn
section
variable {P : Program} {w : World} {K : PySem.W.Frag} {mg : Str → Option Value} {base : Heap} {dP : Addr} {es : Array DictEntry} {nn : Nat} {f : Addr} {fd : FuncData}
theorem ok_is_whole (F : FnP K "is_whole" s_is_whole [] f fd) (G : Gm w K mg dP es nn)  : FnOk P w K mg base CX0 1 f fd ["thing"] sp_is_whole :=
  FnP.go (k := 0) F sc_is_whole (fun vs H Q E => by first | (unfold sp_is_whole; walk_at "len") | walk_at "len") (t_is_whole K) (fun vs H Q E h => pure_is_whole (K := K) vs H Q E h) fun cdv A outer s H E hr =>
    (pss_one (ps_ret (pe_and (pe_callB call_isi (by rfl) G.isinstance (by decide +kernel) (pa_cons (pv 0) (pa_cons (pe_bltn (v := .ty "int") (by rfl) G.int (by decide +kernel) rfl) pa_nil))) (pe_one (pe_not (pe_callB call_isi (by rfl) G.isinstance (by decide +kernel) (pa_cons (pv 0) (pa_cons (pe_bltn (v := .ty "bool") (by rfl) G.bool (by decide +kernel) rfl) pa_nil))))))))
theorem ok_is_name (F : FnP K "is_name" s_is_name [] f fd) (G : Gm w K mg dP es nn)  : FnOk P w K mg base CX0 1 f fd ["thing"] sp_is_name :=
  FnP.go (k := 0) F sc_is_name (fun vs H Q E => by first | (unfold sp_is_name; walk_at "len") | walk_at "len") (t_is_name K) (fun vs H Q E h => pure_is_name (K := K) vs H Q E h) fun cdv A outer s H E hr =>
    (pss_cons (ps_if (PW.pt (pw_or (pt_not (pt_val (pe_callB call_isi (by rfl) G.isinstance (by decide +kernel) (pa_cons (pv 0) (pa_cons (pe_bltn (v := .ty "str") (by rfl) G.str (by decide +kernel) rfl) pa_nil))))) (pw_or (pt_cmpR p_lt (pe_callB p_lenS (by rfl) G.len (by decide +kernel) (pa_cons (pv 0) pa_nil)) pe_int (nomark _)) (pw_or1 (pt_cmpR p_gt (pe_callB p_lenS (by rfl) G.len (by decide +kernel) (pa_cons (pv 0) pa_nil)) (pe_gc (by rfl) G.LONGEST_NAME) (nomark _)))))) (pss_one (ps_ret pe_bl)) pss_nil)
      (pss_one (ps_ret (pe_callB (cr_all rfl) (by rfl) G.all (by decide +kernel) (pa_cons (pe_lc (own := [("sign", 1)]) (g := gName 1) (tt := tYes) (by rfl) sc_is_name.nd (pi_str (pv 0)) (blkOk_by (own := [("sign", 1)]) (N := ["thing", "sign"]) (sc := defScope s_is_name) (by decide +kernel)) (fun _ _ _ _ _ => (pg_name (i := 1) sc_is_name.nd rfl (by first | exact Or.inl rfl | exact Or.inr rfl))) (fun _ _ _ _ _ => pts_nil) (fun _ _ _ _ _ => (pe_cmpR p_inC (pv 1) (pe_gc (by rfl) G.LETTERS) (by rfl)))) pa_nil)))))
theorem ok_is_expression (F : FnP K "is_expression" s_is_expression [.int 5] f fd) (G : Gm w K mg dP es nn) (T : Parts K w dP) (g : mg "is_expression" = some (.ref f)) (c_is_whole : Cal P w K mg base 1 "is_whole" sp_is_whole []) : ∀ n : Nat, FnOk P w K mg base CX0 (n + 2) f fd ["thing", "most"] ((sp_is_expression n))
  | 0 => ⟨fun vs H Q E h => absurd h (no_is_expression vs H Q E), fun A outer s H args us vs Q E _ _ _ _ h => absurd h (no_is_expression vs H Q E)⟩
  | n + 1 => by
    have ih := ok_is_expression F G T g c_is_whole n
    have c_is_expression : Cal P w K mg base (n + 2) "is_expression" ((sp_is_expression n)) [] := FnP.cald 2 1 F ih g (by simp) rfl fun _ _ _ _ _ _ _ us its h1 h2 => match us, its, h1, h2 with | [_, _], [_], _, _ => ⟨_, rfl, rfl⟩
    exact FnP.go (k := n + 2) F sc_is_expression (fun vs H Q E => by first | (unfold sp_is_expression; walk_at "len") | walk_at "len") (t_is_expression K w dP n) (fun vs H Q E h => pure_is_expression (K := K) T n vs H Q E h) fun cdv A outer s H E hr =>
      (pss_cons (ps_if (pt_cmpR p_lt (pv 1) pe_int (nomark _)) (pss_one (ps_ret pe_bl)) pss_nil)
      (pss_cons (ps_if (pt_val (pe_c c_is_whole hr (by omega) (by rfl) (pa_cons (pv 0) pa_nil))) (pss_one (ps_ret pe_bl)) pss_nil)
      (pss_cons (ps_if (PW.pt (pw_or (pt_not (pt_val (pe_callB call_isi (by rfl) G.isinstance (by decide +kernel) (pa_cons (pv 0) (pa_cons (pe_bltn (v := .ty "tuple") (by rfl) G.tuple (by decide +kernel) rfl) pa_nil))))) (pw_or (pt_cmpR p_lt (pe_callB p_lenQ (by rfl) G.len (by decide +kernel) (pa_cons (pv 0) pa_nil)) pe_int (nomark _)) (pw_or1 (pt_not (pt_val (pe_callB call_isi (by rfl) G.isinstance (by decide +kernel) (pa_cons (pe_ix ix_tup (pv 0) pe_int (fun _ _ => rfl)) (pa_cons (pe_bltn (v := .ty "str") (by rfl) G.str (by decide +kernel) rfl) pa_nil))))))))) (pss_one (ps_ret pe_bl)) pss_nil)
      (pss_cons (ps_if (PW.pt (pw_or (pt_cmpR (op_notIn_kd G.dP) (pe_ix ix_tup (pv 0) pe_int (fun _ _ => rfl)) (pe_gc (by rfl) G.PARTS) (by rfl)) (pw_or1 (pt_cmpR op_ne (pe_callB p_lenQ (by rfl) G.len (by decide +kernel) (pa_cons (pv 0) pa_nil)) (pe_op p_add (pe_ix ix_kdict (pe_gc (by rfl) G.PARTS) (pe_ix ix_tup (pv 0) pe_int (fun _ _ => rfl)) (fun _ _ => rfl)) pe_int) (nomark _))))) (pss_one (ps_ret pe_bl)) pss_nil)
      (pss_one (ps_ret (pe_callB (cr_all rfl) (by rfl) G.all (by decide +kernel) (pa_cons (pe_lc (own := [("one", 2)]) (g := gName 2) (tt := tYes) (by rfl) sc_is_expression.nd (pi_tup (pe_slice sl_tupA (pv 0) (po_some pe_int) po_none)) (blkOk_by (own := [("one", 2)]) (N := ["thing", "most", "one"]) (sc := defScope s_is_expression) (by decide +kernel)) (fun _ _ _ _ _ => (pg_name (i := 2) sc_is_expression.nd rfl (by first | exact Or.inl rfl | exact Or.inr rfl))) (fun _ _ _ _ _ => pts_nil) (fun _ _ _ _ _ => (pe_c c_is_expression hr (by omega) (by rfl) (pa_cons (pv 2) (pa_cons (pe_op p_sub (pv 1) pe_int) pa_nil))))) pa_nil))))))))
theorem ok_is_step (F : FnP K "is_step" s_is_step [] f fd) (G : Gm w K mg dP es nn) (c_is_expression_d : Cal P w K mg base 8 "is_expression" (sp_is_expression 6) [.int 5]) (c_is_whole : Cal P w K mg base 1 "is_whole" sp_is_whole []) (c_is_name : Cal P w K mg base 1 "is_name" sp_is_name []) : FnOk P w K mg base CX0 9 f fd ["thing", "names", "behind"] (sp_is_step K) :=
  FnP.go (k := 8) F sc_is_step (fun vs H Q E => by first | (unfold sp_is_step; walk_at "len") | walk_at "len") (t_is_step K) (fun vs H Q E h => pure_is_step (K := K) vs H Q E h) fun cdv A outer s H E hr =>
    (pss_cons (ps_if (PW.pt (pw_or (pt_not (pt_val (pe_callB call_isi (by rfl) G.isinstance (by decide +kernel) (pa_cons (pv 0) (pa_cons (pe_bltn (v := .ty "tuple") (by rfl) G.tuple (by decide +kernel) rfl) pa_nil))))) (pw_or (pt_cmpR p_lt (pe_callB p_lenQ (by rfl) G.len (by decide +kernel) (pa_cons (pv 0) pa_nil)) pe_int (nomark _)) (pw_or1 (pt_not (pt_val (pe_callB call_isi (by rfl) G.isinstance (by decide +kernel) (pa_cons (pe_ix ix_tup (pv 0) pe_int (fun _ _ => rfl)) (pa_cons (pe_bltn (v := .ty "str") (by rfl) G.str (by decide +kernel) rfl) pa_nil))))))))) (pss_one (ps_ret pe_bl)) pss_nil)
      (pss_cons (ps_set (i := 3) sc_is_step.nd rfl (by first | exact Or.inl rfl | exact Or.inr rfl) (pe_ix ix_tup (pv 0) pe_int (fun _ _ => rfl)))
      (pss_cons (ps_if (pt_cmpR op_eq (pv 3) pe_str (nomark _)) (pss_one (ps_ret (pe_cmpR op_eq (pe_callB p_lenQ (by rfl) G.len (by decide +kernel) (pa_cons (pv 0) pa_nil)) pe_int (nomark _)))) pss_nil)
      (pss_cons (ps_if (pt_cmpR op_ne (pe_callB p_lenQ (by rfl) G.len (by decide +kernel) (pa_cons (pv 0) pa_nil)) pe_int (nomark _)) (pss_one (ps_ret pe_bl)) pss_nil)
      (pss_cons (ps_if (pt_cmpR op_eq (pv 3) pe_str (nomark _)) (pss_one (ps_ret (pe_and (pe_c c_is_expression_d hr (by omega) (by rfl) (pa_cons (pe_ix ix_tup (pv 0) pe_int (fun _ _ => rfl)) pa_nil)) (pe_one (pe_c c_is_expression_d hr (by omega) (by rfl) (pa_cons (pe_ix ix_tup (pv 0) pe_int (fun _ _ => rfl)) pa_nil)))))) pss_nil)
      (pss_cons (ps_if (pt_cmpR op_eq (pv 3) pe_str (nomark _)) (pss_one (ps_ret (pe_and (pe_c c_is_expression_d hr (by omega) (by rfl) (pa_cons (pe_ix ix_tup (pv 0) pe_int (fun _ _ => rfl)) pa_nil)) (pe_and (pe_c c_is_whole hr (by omega) (by rfl) (pa_cons (pe_ix ix_tup (pv 0) pe_int (fun _ _ => rfl)) pa_nil)) (pe_one (pe_chain p_le p_le pe_int (pe_ix ix_tup (pv 0) pe_int (fun _ _ => rfl)) (pv 2))))))) pss_nil)
      (pss_cons (ps_if (PW.pt (pw_or (pt_cmpR op_notIn_seq (pv 3) (pe_tup (pa_cons pe_str (pa_cons pe_str (pa_cons pe_str pa_nil)))) (by rfl)) (pw_or (pt_not (pt_val (pe_c c_is_name hr (by omega) (by rfl) (pa_cons (pe_ix ix_tup (pv 0) pe_int (fun _ _ => rfl)) pa_nil)))) (pw_or1 (pt_not (pt_val (pe_c c_is_expression_d hr (by omega) (by rfl) (pa_cons (pe_ix ix_tup (pv 0) pe_int (fun _ _ => rfl)) pa_nil)))))))) (pss_one (ps_ret pe_bl)) pss_nil)
      (pss_one (ps_ret (pe_or (pe_cmpR op_eq (pv 3) pe_str (nomark _)) (pe_one (pe_cmpR op_in_seq (pe_ix ix_tup (pv 0) pe_int (fun _ _ => rfl)) (pv 1) (by rfl)))))))))))))
theorem ok_has_form (F : FnP K "has_form" s_has_form [] f fd) (G : Gm w K mg dP es nn) (c_is_name : Cal P w K mg base 1 "is_name" sp_is_name []) : FnOk P w K mg base CX0 2 f fd ["thing"] sp_has_form :=
  FnP.go (k := 1) F sc_has_form (fun vs H Q E => by first | (unfold sp_has_form; walk_at "len") | walk_at "len") (t_has_form K) (fun vs H Q E h => pure_has_form (K := K) vs H Q E h) fun cdv A outer s H E hr =>
    (pss_cons (ps_if (pt_not (pt_val (pe_callB call_isi (by rfl) G.isinstance (by decide +kernel) (pa_cons (pv 0) (pa_cons (pe_bltn (v := .ty "list") (by rfl) G.list (by decide +kernel) rfl) pa_nil))))) (pss_one (ps_ret pe_bl)) pss_nil)
      (pss_cons (ps_for PassesOwn.never rfl (pi_list (pv 0)) (pg_name (i := 1) sc_has_form.nd rfl (by first | exact Or.inl rfl | exact Or.inr rfl)) (pss_one (ps_if (PW.pt (pw_or (pt_not (pt_val (pe_callB call_isi (by rfl) G.isinstance (by decide +kernel) (pa_cons (pv 1) (pa_cons (pe_bltn (v := .ty "tuple") (by rfl) G.tuple (by decide +kernel) rfl) pa_nil))))) (pw_or (pt_cmpR op_ne (pe_callB p_lenQ (by rfl) G.len (by decide +kernel) (pa_cons (pv 1) pa_nil)) pe_int (nomark _)) (pw_or (pt_not (pt_val (pe_c c_is_name hr (by omega) (by rfl) (pa_cons (pe_ix ix_tup (pv 1) pe_int (fun _ _ => rfl)) pa_nil)))) (pw_or1 (pt_not (pt_val (pe_callB call_isi (by rfl) G.isinstance (by decide +kernel) (pa_cons (pe_ix ix_tup (pv 1) pe_int (fun _ _ => rfl)) (pa_cons (pe_bltn (v := .ty "list") (by rfl) G.list (by decide +kernel) rfl) pa_nil)))))))))) (pss_one (ps_ret pe_bl)) pss_nil)))
      (pss_cons (ps_setLc (i := 2) (own := [("name", 3), ("steps", 4)]) (g := gTup K 2 (gCons (gName 3) (gCons (gName 4) (gNil)))) (tt := tYes) (by rfl) sc_has_form.nd rfl rfl (sw_true rfl rfl rfl (by decide +kernel)) (pi_list (pv 0)) (blkOk_by (own := [("name", 3), ("steps", 4)]) (N := ["thing", "row", "names", "name", "steps", "one", "other"]) (sc := defScope s_has_form) (by decide +kernel)) (fun _ _ _ _ _ => (pg_tup rfl (pgs_cons (pg_name (i := 3) sc_has_form.nd rfl (by first | exact Or.inl rfl | exact Or.inr rfl)) (pgs_cons (pg_name (i := 4) sc_has_form.nd rfl (by first | exact Or.inl rfl | exact Or.inr rfl)) pgs_nil)))) (fun _ _ _ _ _ => pts_nil) (fun _ _ _ _ _ => (pv 3)))
      (pss_one (ps_ret (pe_callB (cr_all rfl) (by rfl) G.all (by decide +kernel) (pa_cons (pe_lc (own := [("one", 5), ("other", 6)]) (g := gTup K 2 (gCons (gName 5) (gCons (gName 6) (gNil)))) (tt := tYes) (by rfl) sc_has_form.nd (pi_zip (by rfl) G.zip (pa_cons (pv 2) (pa_cons (pe_slice sl_list (pv 2) (po_some pe_int) po_none) pa_nil))) (blkOk_by (own := [("one", 5), ("other", 6)]) (N := ["thing", "row", "names", "name", "steps", "one", "other"]) (sc := defScope s_has_form) (by decide +kernel)) (fun _ _ _ _ _ => (pg_tup rfl (pgs_cons (pg_name (i := 5) sc_has_form.nd rfl (by first | exact Or.inl rfl | exact Or.inr rfl)) (pgs_cons (pg_name (i := 6) sc_has_form.nd rfl (by first | exact Or.inl rfl | exact Or.inr rfl)) pgs_nil)))) (fun _ _ _ _ _ => pts_nil) (fun _ _ _ _ _ => (pe_cmpR p_ltS (pv 5) (pv 6) (nomark _)))) pa_nil)))))))
theorem ok_first_wrong (F : FnP K "first_wrong" s_first_wrong [] f fd) (G : Gm w K mg dP es nn) (c_has_form : Cal P w K mg base 2 "has_form" sp_has_form []) (c_is_step : Cal P w K mg base 9 "is_step" (sp_is_step K) []) : FnOk P w K mg base CX0 10 f fd ["program"] sp_first_wrong :=
  FnP.go (k := 9) F sc_first_wrong (fun vs H Q E => by first | (unfold sp_first_wrong; walk_at "len") | walk_at "len") (t_first_wrong K) (fun vs H Q E h => pure_first_wrong (K := K) vs H Q E h) fun cdv A outer s H E hr =>
    (pss_cons (ps_if (pt_not (pt_val (pe_c c_has_form hr (by omega) (by rfl) (pa_cons (pv 0) pa_nil)))) (pss_one (ps_ret (pe_tup (pa_cons pe_non (pa_cons pe_non pa_nil))))) pss_nil)
      (pss_cons (ps_setLc (i := 1) (own := [("name", 2), ("steps", 3)]) (g := gTup K 2 (gCons (gName 2) (gCons (gName 3) (gNil)))) (tt := tYes) (by rfl) sc_first_wrong.nd rfl rfl (sw_true rfl rfl rfl (by decide +kernel)) (pi_list (pv 0)) (blkOk_by (own := [("name", 2), ("steps", 3)]) (N := ["program", "names", "name", "steps", "at", "step"]) (sc := defScope s_first_wrong) (by decide +kernel)) (fun _ _ _ _ _ => (pg_tup rfl (pgs_cons (pg_name (i := 2) sc_first_wrong.nd rfl (by first | exact Or.inl rfl | exact Or.inr rfl)) (pgs_cons (pg_name (i := 3) sc_first_wrong.nd rfl (by first | exact Or.inl rfl | exact Or.inr rfl)) pgs_nil)))) (fun _ _ _ _ _ => pts_nil) (fun _ _ _ _ _ => (pv 2)))
      (pss_cons (ps_for PassesOwn.never rfl (pi_list (pv 0)) (pg_tup rfl (pgs_cons (pg_name (i := 2) sc_first_wrong.nd rfl (by first | exact Or.inl rfl | exact Or.inr rfl)) (pgs_cons (pg_name (i := 3) sc_first_wrong.nd rfl (by first | exact Or.inl rfl | exact Or.inr rfl)) pgs_nil))) (pss_one (ps_for PassesOwn.never rfl (pi_enum (by rfl) G.enumerate (pa_cons (pv 3) pa_nil)) (pg_tup rfl (pgs_cons (pg_name (i := 4) sc_first_wrong.nd rfl (by first | exact Or.inl rfl | exact Or.inr rfl)) (pgs_cons (pg_name (i := 5) sc_first_wrong.nd rfl (by first | exact Or.inl rfl | exact Or.inr rfl)) pgs_nil))) (pss_one (ps_if (pt_not (pt_val (pe_c c_is_step hr (by omega) (by rfl) (pa_cons (pv 5) (pa_cons (pv 1) (pa_cons (pe_op p_sub (pe_op p_sub (pe_callB p_lenQ (by rfl) G.len (by decide +kernel) (pa_cons (pv 3) pa_nil)) (pv 4)) pe_int) pa_nil)))))) (pss_one (ps_ret (pe_tup (pa_cons (pv 2) (pa_cons (pv 4) pa_nil))))) pss_nil)))))
      (pss_one (ps_ret pe_non)))))
theorem ok_check (F : FnP K "check" s_check [] f fd) (G : Gm w K mg dP es nn) (c_first_wrong : Cal P w K mg base 10 "first_wrong" sp_first_wrong []) (m_NoProgram : MkX P w K mg base "NoProgram" (He.ga K "NoProgram") ["helper", "at"]) : FnOk P w K mg base (L2.CX P w) 11 f fd ["program"] (sp_check K) :=
  FnP.goX (k := 10) F sc_check (fun vs H Q E => by first | (unfold sp_check; walk_at "len") | walk_at "len") (fun E => t_check E K) (fun vs H Q E h => pure_check (K := K) vs H Q E h) fun cdv A outer s H E hr =>
    (pss_cons (ps_set (i := 1) sc_check.nd rfl (by first | exact Or.inl rfl | exact Or.inr rfl) (pe_c c_first_wrong hr (by omega) (by rfl) (pa_cons (pv 0) pa_nil)))
      (pss_one (ps_if (pt_cmpR p_notN (pv 1) pe_non (nomark _)) (pss_one (ps_raiseX rfl m_NoProgram hr (by decide) (takes_of rfl rfl rfl rfl) (by rfl) (pa_cons (pe_ix ix_tup (pv 1) pe_int (fun _ _ => rfl)) (pa_cons (pe_ix ix_tup (pv 1) pe_int (fun _ _ => rfl)) pa_nil)))) pss_nil)))
theorem ok_reckon (F : FnP K "reckon" s_reckon [.non] f fd) (G : Gm w K mg dP es nn) (g : mg "reckon" = some (.ref f))  : ∀ n : Nat, FnOk P w K mg base CX0 (n + 2) f fd ["expression", "arg", "cells", "asked"] ((sp_reckon n))
  | 0 => ⟨fun vs H Q E h => absurd h (no_reckon vs H Q E), fun A outer s H args us vs Q E _ _ _ _ h => absurd h (no_reckon vs H Q E)⟩
  | n + 1 => by
    have ih := ok_reckon F G g  n
    have c_reckon : Cal P w K mg base (n + 2) "reckon" ((sp_reckon n)) [] := FnP.cald 4 1 F ih g (by simp) rfl fun _ _ _ _ _ _ _ us its h1 h2 => match us, its, h1, h2 with | [_, _, _, _], [_], _, _ => ⟨_, rfl, rfl⟩
    exact FnP.go (k := n + 2) F sc_reckon (fun vs H Q E => by first | (unfold sp_reckon; walk_at "len") | walk_at "len") (t_reckon K n) (fun vs H Q E h => pure_reckon (K := K) n vs H Q E h) fun cdv A outer s H E hr =>
      (pss_cons (ps_if (pt_val (pe_callB call_isi (by rfl) G.isinstance (by decide +kernel) (pa_cons (pv 0) (pa_cons (pe_bltn (v := .ty "int") (by rfl) G.int (by decide +kernel) rfl) pa_nil)))) (pss_one (ps_ret (pv 0))) pss_nil)
      (pss_cons (ps_set (i := 4) sc_reckon.nd rfl (by first | exact Or.inl rfl | exact Or.inr rfl) (pe_ix ix_tup (pv 0) pe_int (fun _ _ => rfl)))
      (pss_cons (ps_if (pt_cmpR op_eq (pv 4) pe_str (nomark _)) (pss_one (ps_ret (pv 1))) pss_nil)
      (pss_cons (ps_set (i := 5) sc_reckon.nd rfl (by first | exact Or.inl rfl | exact Or.inr rfl) (pe_c c_reckon hr (by omega) (by rfl) (pa_cons (pe_ix ix_tup (pv 0) pe_int (fun _ _ => rfl)) (pa_cons (pv 1) (pa_cons (pv 2) (pa_cons (pv 3) pa_nil))))))
      (pss_cons (ps_if (pt_cmpR op_eq (pv 4) pe_str (nomark _)) (pss_cons (ps_if (pt_cmpR p_notN (pv 3) pe_non (nomark _)) (pss_one (ps_expr (pe_bm PySem.F.plainAttrs_list PySem.F.slot_list_append PySem.F.type_list_append mt_append (pv 3) (pa_cons (pv 5) pa_nil)))) pss_nil)
      (pss_one (ps_ret (pe_dget2 (hu_of hr) (pv 2) (pv 5) pe_int ⟨rfl, rfl, rfl, rfl⟩)))) pss_nil)
      (pss_cons (ps_set (i := 6) sc_reckon.nd rfl (by first | exact Or.inl rfl | exact Or.inr rfl) (pe_c c_reckon hr (by omega) (by rfl) (pa_cons (pe_ix ix_tup (pv 0) pe_int (fun _ _ => rfl)) (pa_cons (pv 1) (pa_cons (pv 2) (pa_cons (pv 3) pa_nil))))))
      (pss_cons (ps_if (pt_cmpR op_eq (pv 4) pe_str (nomark _)) (pss_one (ps_ret (pe_op p_add (pv 5) (pv 6)))) pss_nil)
      (pss_cons (ps_if (pt_cmpR op_eq (pv 4) pe_str (nomark _)) (pss_one (ps_ret (pe_op p_sub (pv 5) (pv 6)))) pss_nil)
      (pss_one (ps_ret (pe_callB (p_min rfl) (by rfl) G.min (by decide +kernel) (pa_cons (pv 5) (pa_cons (pv 6) pa_nil)))))))))))))
theorem ok_start_cells (F : FnP K "start_cells" s_start_cells [] f fd) (G : Gm w K mg dP es nn)  : FnOk P w K mg base CX0 1 f fd ["cells"] sp_start_cells :=
  FnP.go (k := 0) F sc_start_cells (fun vs H Q E => by first | (unfold sp_start_cells; walk_at "len") | walk_at "len") (t_start_cells K) (fun vs H Q E h => pure_start_cells (K := K) vs H Q E h) fun cdv A outer s H E hr =>
    (pss_cons (ps_set (i := 1) sc_start_cells.nd rfl (by first | exact Or.inl rfl | exact Or.inr rfl) pe_dnewK)
      (pss_cons (ps_for PassesOwn.never rfl (pi_list (pe_orT (pv 0) (pe_one (pe_lst pa_nil)))) (pg_tup rfl (pgs_cons (pg_name (i := 2) sc_start_cells.nd rfl (by first | exact Or.inl rfl | exact Or.inr rfl)) (pgs_cons (pg_name (i := 3) sc_start_cells.nd rfl (by first | exact Or.inl rfl | exact Or.inr rfl)) pgs_nil))) (pss_one (ps_dput (hu_of hr) (pv 1) (pv 2) (pv 3) rfl)))
      (pss_one (ps_ret (pv 1)))))
theorem ok_not_nought (F : FnP K "not_nought" s_not_nought [] f fd) (G : Gm w K mg dP es nn)  : FnOk P w K mg base CX0 1 f fd ["held"] sp_not_nought :=
  FnP.go (k := 0) F sc_not_nought (fun vs H Q E => by first | (unfold sp_not_nought; walk_at "len") | walk_at "len") (t_not_nought K) (fun vs H Q E h => pure_not_nought (K := K) vs H Q E h) fun cdv A outer s H E hr =>
    (pss_one (ps_ret (pe_lc (own := [("cell", 1)]) (g := gName 1) (tt := tTest (tOp rNe (tDGet (tVar 0) (tVar 1)) (tC (.int 0)))) (by rfl) sc_not_nought.nd (pi_list (pe_callB (p_sortDI rfl) (by rfl) G.sorted (by decide +kernel) (pa_cons (pv 0) pa_nil))) (blkOk_by (own := [("cell", 1)]) (N := ["held", "cell"]) (sc := defScope s_not_nought) (by decide +kernel)) (fun _ _ _ _ _ => (pg_name (i := 1) sc_not_nought.nd rfl (by first | exact Or.inl rfl | exact Or.inr rfl))) (fun _ _ _ _ _ => (pts_one (pt_cmpR op_ne (pe_dget (hu_of hr) (pv 0) (pv 1) (fun _ _ => rfl)) pe_int (nomark _)))) (fun _ _ _ _ _ => (pe_tup (pa_cons (pv 1) (pa_cons (pe_dget (hu_of hr) (pv 0) (pv 1) (fun _ _ => rfl)) pa_nil)))))))
theorem ok_helper_rows (F : FnP K "helper_rows" s_helper_rows [] f fd) (G : Gm w K mg dP es nn) (m_NoHelper : MkX P w K mg base "NoHelper" (He.ga K "NoHelper") ["name"]) : FnOk P w K mg base (L2.CX P w) 3 f fd ["program", "name"] (sp_helper_rows K) :=
  FnP.goX (k := 2) F sc_helper_rows (fun vs H Q E => by first | (unfold sp_helper_rows; walk_at "len") | walk_at "len") (fun E => t_helper_rows E K) (fun vs H Q E h => pure_helper_rows (K := K) vs H Q E h) fun cdv A outer s H E hr =>
    (pss_cons (ps_for (passes_of rfl) rfl (pi_list (pv 0)) (pg_tup rfl (pgs_cons (pg_name (i := 2) sc_helper_rows.nd rfl (by first | exact Or.inl rfl | exact Or.inr rfl)) (pgs_cons (pg_name (i := 3) sc_helper_rows.nd rfl (by first | exact Or.inl rfl | exact Or.inr rfl)) pgs_nil))) (pss_one (ps_if (pt_cmpR op_eq (pv 2) (pv 1) (nomark _)) (pss_one (ps_ret (pv 3))) pss_nil)))
      (pss_one (ps_raiseX rfl m_NoHelper hr (by decide) (takes_of rfl rfl rfl rfl) (by rfl) (pa_cons (pv 1) pa_nil))))
theorem sc_Record___init__ : FnScope ["self", "mark", "word", "doer", "reads"] ["self", "mark", "word", "doer", "reads"] (defScope s_Record___init__) := ⟨rfl, rfl, rfl, by decide +kernel, rfl, by decide +kernel, by decide +kernel⟩
theorem ok_Record___init__ (F : MtP K "__init__" "Record.__init__" s_Record___init__ f fd) (G : Gm w K mg dP es nn) (CF : CFs K) : FnOk P w K mg base CX0 1 f fd ["self", "mark", "word", "doer", "reads"] (sp_Record___init__ K) :=
  MtP.go (k := 0) F sc_Record___init__ (fun vs H Q E => by first | (unfold sp_Record___init__; walk_at "len") | walk_at "len") (t_Record___init__ K) (fun vs H Q E h => pure_Record___init__ (K := K) CF vs H Q E h) fun cdv A outer s H E hr =>
    (pss_cons (ps_fld (pv 0) (pv 1) rfl)
      (pss_cons (ps_fld (pv 0) (pv 2) rfl)
      (pss_cons (ps_fld (pv 0) (pv 3) rfl)
      (pss_cons (ps_fld (pv 0) pe_non rfl)
      (pss_cons (ps_fld (pv 0) (pv 4) rfl)
      (pss_one (ps_fld (pv 0) (pe_lst pa_nil) rfl)))))))
theorem ok_step_done (F : FnP K "step_done" s_step_done [] f fd) (G : Gm w K mg dP es nn) (CF : CFs K) (i_Record : MkI P w K mg base 1 "Record" (He.ga K "Record") (sp_Record___init__ K) []) (c_reckon : Cal P w K mg base 8 "reckon" (sp_reckon 6) []) : FnOk P w K mg base CX0 9 f fd ["frame", "held", "given"] (sp_step_done K) :=
  FnP.go (k := 8) F sc_step_done (fun vs H Q E => by first | (unfold sp_step_done; walk_at "len") | walk_at "len") (t_step_done K w) (fun vs H Q E h => pure_step_done (K := K) CF vs H Q E h) fun cdv A outer s H E hr =>
    (pss_cons (ps_set (i := 3) sc_step_done.nd rfl (by first | exact Or.inl rfl | exact Or.inr rfl) (pe_ix ix_list (pe_fld (pv 0) rfl) (pe_fld (pv 0) rfl) (fun _ _ => rfl)))
      (pss_cons (ps_set (i := 4) sc_step_done.nd rfl (by first | exact Or.inl rfl | exact Or.inr rfl) (pe_lst pa_nil))
      (pss_cons (ps_set (i := 5) sc_step_done.nd rfl (by first | exact Or.inl rfl | exact Or.inr rfl) (pe_mkI i_Record hr (by omega) (by rfl) (pa_cons (pe_tup (pa_cons (pe_fld (pv 0) rfl) (pa_cons (pe_fld (pv 0) rfl) pa_nil))) (pa_cons (pe_ix ix_tup (pv 3) pe_int (fun _ _ => rfl)) (pa_cons (pe_fld (pv 0) rfl) (pa_cons (pv 4) pa_nil))))))
      (pss_cons (ps_fldaug (pv 0) pe_int in_add)
      (pss_cons (ps_fldaug (pv 0) pe_int in_add)
      (pss_cons (ps_set (i := 6) sc_step_done.nd rfl (by first | exact Or.inl rfl | exact Or.inr rfl) pe_non)
      (pss_cons (ps_if (pt_cmpR op_eq (pe_ix ix_tup (pv 3) pe_int (fun _ _ => rfl)) pe_str (nomark _)) (pss_cons (ps_set (i := 7) sc_step_done.nd rfl (by first | exact Or.inl rfl | exact Or.inr rfl) (pe_c c_reckon hr (by omega) (by rfl) (pa_cons (pe_ix ix_tup (pv 3) pe_int (fun _ _ => rfl)) (pa_cons (pe_fld (pv 0) rfl) (pa_cons (pv 1) (pa_cons (pv 4) pa_nil))))))
      (pss_cons (ps_dput (hu_of hr) (pv 1) (pv 7) (pe_c c_reckon hr (by omega) (by rfl) (pa_cons (pe_ix ix_tup (pv 3) pe_int (fun _ _ => rfl)) (pa_cons (pe_fld (pv 0) rfl) (pa_cons (pv 1) (pa_cons (pv 4) pa_nil))))) rfl)
      (pss_one (ps_fld (pv 5) (pe_lst (pa_cons (pv 7) pa_nil)) rfl)))) (pss_one (ps_if (pt_cmpR op_eq (pe_ix ix_tup (pv 3) pe_int (fun _ _ => rfl)) pe_str (nomark _)) (pss_one (ps_expr (pe_bm PySem.F.plainAttrs_list PySem.F.slot_list_append PySem.F.type_list_append mt_append (pe_dsetd (pv 2) (pe_ix ix_tup (pv 3) pe_int (fun _ _ => rfl)) (pe_lst pa_nil) ⟨rfl, rfl, rfl, rfl⟩) (pa_cons (pe_c c_reckon hr (by omega) (by rfl) (pa_cons (pe_ix ix_tup (pv 3) pe_int (fun _ _ => rfl)) (pa_cons (pe_fld (pv 0) rfl) (pa_cons (pv 1) (pa_cons (pv 4) pa_nil))))) pa_nil)))) (pss_one (ps_if (pt_cmpR op_eq (pe_ix ix_tup (pv 3) pe_int (fun _ _ => rfl)) pe_str (nomark _)) (pss_one (ps_if (pt_cmpR op_eq (pe_c c_reckon hr (by omega) (by rfl) (pa_cons (pe_ix ix_tup (pv 3) pe_int (fun _ _ => rfl)) (pa_cons (pe_fld (pv 0) rfl) (pa_cons (pv 1) (pa_cons (pv 4) pa_nil))))) pe_int (nomark _)) (pss_one (ps_fldaug (pv 0) (pe_ix ix_tup (pv 3) pe_int (fun _ _ => rfl)) in_add)) pss_nil)) (pss_one (ps_if (pt_cmpR op_ne (pe_ix ix_tup (pv 3) pe_int (fun _ _ => rfl)) pe_str (nomark _)) (pss_one (ps_set (i := 6) sc_step_done.nd rfl (by first | exact Or.inl rfl | exact Or.inr rfl) (pe_tup (pa_cons (pe_ix ix_tup (pv 3) pe_int (fun _ _ => rfl)) (pa_cons (pe_c c_reckon hr (by omega) (by rfl) (pa_cons (pe_ix ix_tup (pv 3) pe_int (fun _ _ => rfl)) (pa_cons (pe_fld (pv 0) rfl) (pa_cons (pv 1) (pa_cons (pv 4) pa_nil))))) pa_nil))))) pss_nil)))))))
      (pss_cons (ps_fld (pv 5) (pe_callB (cr_sortedSet rfl) (by rfl) G.sorted (by decide +kernel) (pa_cons (pe_callTy (p_setL rfl) (by rfl) G.set (by decide +kernel) (pa_cons (pv 4) pa_nil)) pa_nil)) rfl)
      (pss_one (ps_ret (pe_tup (pa_cons (pv 5) (pa_cons (pv 6) pa_nil)))))))))))))
theorem sc_Frame___init__ : FnScope ["self", "number", "path", "rows", "arg"] ["self", "number", "path", "rows", "arg"] (defScope s_Frame___init__) := ⟨rfl, rfl, rfl, by decide +kernel, rfl, by decide +kernel, by decide +kernel⟩
theorem ok_Frame___init__ (F : MtP K "__init__" "Frame.__init__" s_Frame___init__ f fd) (G : Gm w K mg dP es nn) (CF : CFs K) : FnOk P w K mg base CX0 1 f fd ["self", "number", "path", "rows", "arg"] (sp_Frame___init__ K) :=
  MtP.go (k := 0) F sc_Frame___init__ (fun vs H Q E => by first | (unfold sp_Frame___init__; walk_at "len") | walk_at "len") (t_Frame___init__ K) (fun vs H Q E h => pure_Frame___init__ (K := K) CF vs H Q E h) fun cdv A outer s H E hr =>
    (pss_cons (ps_fld (pv 0) (pv 1) rfl)
      (pss_cons (ps_fld (pv 0) (pv 2) rfl)
      (pss_cons (ps_fld (pv 0) (pv 3) rfl)
      (pss_cons (ps_fld (pv 0) (pv 4) rfl)
      (pss_cons (ps_fld (pv 0) pe_int rfl)
      (pss_cons (ps_fld (pv 0) pe_int rfl)
      (pss_one (ps_fld (pv 0) pe_int rfl))))))))
theorem ok_trace (F : FnP K "trace" s_trace [] f fd) (G : Gm w K mg dP es nn) (CF : CFs K) (c_check : CalX P w K mg base 11 "check" (sp_check K) []) (c_helper_rows : CalX P w K mg base 3 "helper_rows" (sp_helper_rows K) []) (i_Frame : MkI P w K mg base 1 "Frame" (He.ga K "Frame") (sp_Frame___init__ K) []) (c_start_cells : Cal P w K mg base 1 "start_cells" sp_start_cells []) (c_step_done : Cal P w K mg base 9 "step_done" (sp_step_done K) []) (m_TooLong : MkX P w K mg base "TooLong" (He.ga K "TooLong") ["most"]) : FnOk P w K mg base (L2.CX P w) 12 f fd ["program", "name", "arg", "cells", "most"] (sp_trace K) :=
  FnP.goX (k := 11) F sc_trace (fun vs H Q E => by first | (unfold sp_trace; walk_at "len") | walk_at "len") (fun E => t_trace E K) (fun vs H Q E h => pure_trace (K := K) CF vs H Q E h) fun cdv A outer s H E hr =>
    (pss_cons (ps_expr (pe_cx c_check hr (by omega) (by rfl) (takes_of rfl rfl rfl rfl) (pa_cons (pv 0) pa_nil)))
      (pss_cons (ps_set (i := 5) sc_trace.nd rfl (by first | exact Or.inl rfl | exact Or.inr rfl) (pe_callTy (p_dictP rfl) (by rfl) G.dict (by decide +kernel) (pa_cons (pv 0) pa_nil)))
      (pss_cons (ps_set (i := 6) sc_trace.nd rfl (by first | exact Or.inl rfl | exact Or.inr rfl) (pe_lst (pa_cons (pe_mkI i_Frame hr (by omega) (by rfl) (pa_cons pe_int (pa_cons (pe_tup pa_nil) (pa_cons (pe_cx c_helper_rows hr (by omega) (by rfl) (takes_of rfl rfl rfl rfl) (pa_cons (pv 0) (pa_cons (pv 1) pa_nil))) (pa_cons (pv 2) pa_nil))))) pa_nil)))
      (pss_cons (ps_set (i := 7) sc_trace.nd rfl (by first | exact Or.inl rfl | exact Or.inr rfl) (pe_c c_start_cells hr (by omega) (by rfl) (pa_cons (pv 3) pa_nil)))
      (pss_cons (ps_set (i := 8) sc_trace.nd rfl (by first | exact Or.inl rfl | exact Or.inr rfl) pe_dnewK)
      (pss_cons (ps_set (i := 9) sc_trace.nd rfl (by first | exact Or.inl rfl | exact Or.inr rfl) (pe_lst pa_nil))
      (pss_cons (ps_set (i := 10) sc_trace.nd rfl (by first | exact Or.inl rfl | exact Or.inr rfl) pe_int)
      (pss_cons (ps_set (i := 11) sc_trace.nd rfl (by first | exact Or.inl rfl | exact Or.inr rfl) pe_int)
      (pss_cons (ps_while (passes_of rfl) (pt_cmpR (p_neE hr.units) (pv 6) (pe_lst pa_nil) (nomark _)) (pss_cons (ps_set (i := 12) sc_trace.nd rfl (by first | exact Or.inl rfl | exact Or.inr rfl) (pe_ix ix_list (pv 6) (pe_un un_neg pe_int) (fun _ _ => rfl)))
      (pss_one (ps_if (pt_cmpR p_ge (pe_fld (pv 12) rfl) (pe_callB p_lenQ (by rfl) G.len (by decide +kernel) (pa_cons (pe_fld (pv 12) rfl) pa_nil)) (nomark _)) (pss_one (ps_expr (pe_bm0 PySem.F.plainAttrs_list PySem.F.slot_list_pop PySem.F.type_list_pop mt_pop (pv 6)))) (pss_cons (ps_if (pt_cmpR p_ge (pe_callB p_lenQ (by rfl) G.len (by decide +kernel) (pa_cons (pv 9) pa_nil)) (pv 4) (nomark _)) (pss_one (ps_raiseX rfl m_TooLong hr (by decide) (takes_of rfl rfl rfl rfl) (by rfl) (pa_cons (pv 4) pa_nil))) pss_nil)
      (pss_cons (ps_asg (pe_c c_step_done hr (by omega) (by rfl) (pa_cons (pv 12) (pa_cons (pv 7) (pa_cons (pv 8) pa_nil)))) (pg_tup rfl (pgs_cons (pg_name (i := 13) sc_trace.nd rfl (by first | exact Or.inl rfl | exact Or.inr rfl)) (pgs_cons (pg_name (i := 14) sc_trace.nd rfl (by first | exact Or.inl rfl | exact Or.inr rfl)) pgs_nil))))
      (pss_cons (ps_expr (pe_bm PySem.F.plainAttrs_list PySem.F.slot_list_append PySem.F.type_list_append mt_append (pv 9) (pa_cons (pv 13) pa_nil)))
      (pss_one (ps_if (pt_cmpR p_notN (pv 14) pe_non (nomark _)) (pss_cons (ps_fld (pv 13) (pv 11) rfl)
      (pss_cons (ps_expr (pe_bm PySem.F.plainAttrs_list PySem.F.slot_list_append PySem.F.type_list_append mt_append (pv 6) (pa_cons (pe_mkI i_Frame hr (by omega) (by rfl) (pa_cons (pv 11) (pa_cons (pe_op op_catA (pe_fld (pv 12) rfl) (pe_tup (pa_cons (pe_fld (pv 12) rfl) pa_nil))) (pa_cons (pe_dget (hu_of hr) (pv 5) (pe_ix ix_tup (pv 14) pe_int (fun _ _ => rfl)) (fun _ _ => rfl)) (pa_cons (pe_ix ix_tup (pv 14) pe_int (fun _ _ => rfl)) pa_nil))))) pa_nil)))
      (pss_cons (ps_fldaug (pv 12) pe_int in_add)
      (pss_cons (ps_aug (i := 11) sc_trace.nd rfl (by first | exact Or.inl rfl | exact Or.inr rfl) pe_int ip_add)
      (pss_one (ps_set (i := 10) sc_trace.nd rfl (by first | exact Or.inl rfl | exact Or.inr rfl) (pe_callB (p_max rfl) (by rfl) G.max (by decide +kernel) (pa_cons (pv 10) (pa_cons (pe_callB p_lenQ (by rfl) G.len (by decide +kernel) (pa_cons (pv 6) pa_nil)) pa_nil))))))))) pss_nil)))))))))
      (pss_one (ps_ret (pe_tup (pa_cons (pv 9) (pa_cons (pv 7) (pa_cons (pv 8) (pa_cons (pv 10) pa_nil))))))))))))))))
theorem sc_Outcome___init__ : FnScope ["self", "cells", "given", "steps", "deepest", "name", "worths"] ["self", "cells", "given", "steps", "deepest"] (defScope s_Outcome___init__) := ⟨rfl, rfl, rfl, by decide +kernel, rfl, by decide +kernel, by decide +kernel⟩
theorem ok_Outcome___init__ (F : MtP K "__init__" "Outcome.__init__" s_Outcome___init__ f fd) (G : Gm w K mg dP es nn) (CF : CFs K) : FnOk P w K mg base CX0 1 f fd ["self", "cells", "given", "steps", "deepest"] (sp_Outcome___init__ K) :=
  MtP.go (k := 0) F sc_Outcome___init__ (fun vs H Q E => by first | (unfold sp_Outcome___init__; walk_at "len") | walk_at "len") (t_Outcome___init__ K) (fun vs H Q E h => pure_Outcome___init__ (K := K) CF vs H Q E h) fun cdv A outer s H E hr =>
    (pss_cons (ps_fld (pv 0) (pe_callTy p_listQ (by rfl) G.list (by decide +kernel) (pa_cons (pv 1) pa_nil)) rfl)
      (pss_cons (ps_fld (pv 0) (pe_lc (own := [("name", 5), ("worths", 6)]) (g := gTup K 2 (gCons (gName 5) (gCons (gName 6) (gNil)))) (tt := tYes) (by rfl) sc_Outcome___init__.nd (pi_list (pv 2)) (blkOk_by (own := [("name", 5), ("worths", 6)]) (N := ["self", "cells", "given", "steps", "deepest", "name", "worths"]) (sc := defScope s_Outcome___init__) (by decide +kernel)) (fun _ _ _ _ _ => (pg_tup rfl (pgs_cons (pg_name (i := 5) sc_Outcome___init__.nd rfl (by first | exact Or.inl rfl | exact Or.inr rfl)) (pgs_cons (pg_name (i := 6) sc_Outcome___init__.nd rfl (by first | exact Or.inl rfl | exact Or.inr rfl)) pgs_nil)))) (fun _ _ _ _ _ => pts_nil) (fun _ _ _ _ _ => (pe_tup (pa_cons (pv 5) (pa_cons (pe_callTy p_listQ (by rfl) G.list (by decide +kernel) (pa_cons (pv 6) pa_nil)) pa_nil))))) rfl)
      (pss_cons (ps_fld (pv 0) (pe_callTy p_listQ (by rfl) G.list (by decide +kernel) (pa_cons (pv 3) pa_nil)) rfl)
      (pss_one (ps_fld (pv 0) (pv 4) rfl)))))
theorem ok_run (F : FnP K "run" s_run [.str "main", .int 0, .non, .int 2000] f fd) (G : Gm w K mg dP es nn) (CF : CFs K) (c_trace : CalX P w K mg base 12 "trace" (sp_trace K) []) (c_not_nought : Cal P w K mg base 1 "not_nought" sp_not_nought []) (i_Outcome : MkI P w K mg base 1 "Outcome" (He.ga K "Outcome") (sp_Outcome___init__ K) []) : FnOk P w K mg base (L2.CX P w) 13 f fd ["program", "name", "arg", "cells", "most"] (sp_run K) :=
  FnP.goX (k := 12) F sc_run (fun vs H Q E => by first | (unfold sp_run; walk_at "len") | walk_at "len") (fun E => t_run E K) (fun vs H Q E h => pure_run (K := K) CF vs H Q E h) fun cdv A outer s H E hr =>
    (pss_cons (ps_asg (pe_cx c_trace hr (by omega) (by rfl) (takes_of rfl rfl rfl rfl) (pa_cons (pv 0) (pa_cons (pv 1) (pa_cons (pv 2) (pa_cons (pv 3) (pa_cons (pv 4) pa_nil)))))) (pg_tup rfl (pgs_cons (pg_name (i := 5) sc_run.nd rfl (by first | exact Or.inl rfl | exact Or.inr rfl)) (pgs_cons (pg_name (i := 6) sc_run.nd rfl (by first | exact Or.inl rfl | exact Or.inr rfl)) (pgs_cons (pg_name (i := 7) sc_run.nd rfl (by first | exact Or.inl rfl | exact Or.inr rfl)) (pgs_cons (pg_name (i := 8) sc_run.nd rfl (by first | exact Or.inl rfl | exact Or.inr rfl)) pgs_nil))))))
      (pss_cons (ps_setLc (i := 9) (own := [("one", 10)]) (g := gName 10) (tt := tYes) (by rfl) sc_run.nd rfl rfl (sw_true rfl rfl rfl (by decide +kernel)) (pi_list (pe_callB (p_sortDS rfl) (by rfl) G.sorted (by decide +kernel) (pa_cons (pv 7) pa_nil))) (blkOk_by (own := [("one", 10)]) (N := ["program", "name", "arg", "cells", "most", "records", "held", "given", "deepest", "gifts", "one", "record"]) (sc := defScope s_run) (by decide +kernel)) (fun _ _ _ _ _ => (pg_name (i := 10) sc_run.nd rfl (by first | exact Or.inl rfl | exact Or.inr rfl))) (fun _ _ _ _ _ => pts_nil) (fun _ _ _ _ _ => (pe_tup (pa_cons (pv 10) (pa_cons (pe_dget (hu_of hr) (pv 7) (pv 10) (fun _ _ => rfl)) pa_nil)))))
      (pss_one (ps_ret (pe_mkI i_Outcome hr (by omega) (by rfl) (pa_cons (pe_c c_not_nought hr (by omega) (by rfl) (pa_cons (pv 6) pa_nil)) (pa_cons (pv 9) (pa_cons (pe_lc (own := [("record", 11)]) (g := gName 11) (tt := tYes) (by rfl) sc_run.nd (pi_list (pv 5)) (blkOk_by (own := [("record", 11)]) (N := ["program", "name", "arg", "cells", "most", "records", "held", "given", "deepest", "gifts", "one", "record"]) (sc := defScope s_run) (by decide +kernel)) (fun _ _ _ _ _ => (pg_name (i := 11) sc_run.nd rfl (by first | exact Or.inl rfl | exact Or.inr rfl))) (fun _ _ _ _ _ => pts_nil) (fun _ _ _ _ _ => (pe_fld (pv 11) rfl))) (pa_cons (pv 8) pa_nil)))))))))
theorem ok__law_cell_at (F : FnP K "_law_cell_at" s__law_cell_at [] f fd) (G : Gm w K mg dP es nn)  : FnOk P w K mg base CX0 1 f fd ["script", "k"] (sp__law_cell_at K) :=
  FnP.go (k := 0) F sc__law_cell_at (fun vs H Q E => by first | (unfold sp__law_cell_at; walk_at "len") | walk_at "len") (t__law_cell_at K) (fun vs H Q E h => pure__law_cell_at (K := K) vs H Q E h) fun cdv A outer s H E hr =>
    (pss_cons (ps_if (pt_cmpR p_lt (pv 1) (pe_callB p_lenQ (by rfl) G.len (by decide +kernel) (pa_cons (pv 0) pa_nil)) (nomark _)) (pss_one (ps_ret (pe_ix ix_list (pv 0) (pv 1) (fun _ _ => rfl)))) pss_nil)
      (pss_one (ps_ret pe_int)))
theorem ok__law_stir (F : FnP K "_law_stir" s__law_stir [] f fd) (G : Gm w K mg dP es nn)  : FnOk P w K mg base CX0 1 f fd ["seed", "turn"] sp__law_stir :=
  FnP.go (k := 0) F sc__law_stir (fun vs H Q E => by first | (unfold sp__law_stir; walk_at "len") | walk_at "len") (t__law_stir) (fun vs H Q E h => pure__law_stir (K := K) vs H Q E h) fun cdv A outer s H E hr =>
    (pss_cons (ps_set (i := 2) sc__law_stir.nd rfl (by first | exact Or.inl rfl | exact Or.inr rfl) (pe_op p_add (pe_op p_mulW (pe_op p_add (pv 0) pe_int) pe_int) (pe_op p_mulW (pe_op p_add (pv 1) pe_int) pe_int)))
      (pss_one (ps_ret (pe_op p_mod (pe_op p_pow (pv 2) pe_int) pe_int))))
theorem ok__law_well (F : FnP K "_law_well" s__law_well [] f fd) (G : Gm w K mg dP es nn) (c__law_stir : Cal P w K mg base 1 "_law_stir" sp__law_stir []) : FnOk P w K mg base CX0 2 f fd ["cell", "k"] sp__law_well :=
  FnP.go (k := 1) F sc__law_well (fun vs H Q E => by first | (unfold sp__law_well; walk_at "len") | walk_at "len") (t__law_well) (fun vs H Q E h => pure__law_well (K := K) vs H Q E h) fun cdv A outer s H E hr =>
    (pss_cons (ps_set (i := 2) sc__law_well.nd rfl (by first | exact Or.inl rfl | exact Or.inr rfl) (pe_op p_add (pe_op p_mul (pe_op p_mod (pv 0) pe_int) pe_int) (pv 1)))
      (pss_cons (ps_if (pt_cmpR p_ge (pv 0) (pe_op p_pow pe_int pe_int) (nomark _)) (pss_one (ps_ret (pe_lst (pa_cons (pe_op p_sub (pv 0) (pe_op p_pow pe_int pe_int)) (pa_cons (pv 2) (pa_cons pe_int pa_nil)))))) pss_nil)
      (pss_one (ps_ret (pe_lst (pa_cons (pe_c c__law_stir hr (by omega) (by rfl) (pa_cons (pv 2) (pa_cons pe_int pa_nil))) (pa_cons (pv 2) (pa_cons pe_int pa_nil))))))))
theorem ok__law_draw (F : FnP K "_law_draw" s__law_draw [] f fd) (G : Gm w K mg dP es nn) (c__law_stir : Cal P w K mg base 1 "_law_stir" sp__law_stir []) : FnOk P w K mg base CX0 2 f fd ["well", "many"] sp__law_draw :=
  FnP.go (k := 1) F sc__law_draw (fun vs H Q E => by first | (unfold sp__law_draw; walk_at "len") | walk_at "len") (t__law_draw K) (fun vs H Q E h => pure__law_draw (K := K) vs H Q E h) fun cdv A outer s H E hr =>
    (pss_cons (ps_if (pt_cmpR op_eq (pe_ix ix_list (pv 0) pe_int (fun _ _ => rfl)) pe_int (nomark _)) (pss_cons (ps_asg (pe_op p_add (pe_ix ix_list (pv 0) pe_int (fun _ _ => rfl)) pe_int) (pg_sub (pv 0) pe_int set_list))
      (pss_one (ps_asg (pe_c c__law_stir hr (by omega) (by rfl) (pa_cons (pe_ix ix_list (pv 0) pe_int (fun _ _ => rfl)) (pa_cons (pe_ix ix_list (pv 0) pe_int (fun _ _ => rfl)) pa_nil))) (pg_sub (pv 0) pe_int set_list)))) pss_nil)
      (pss_cons (ps_set (i := 2) sc__law_draw.nd rfl (by first | exact Or.inl rfl | exact Or.inr rfl) (pe_op p_mod (pe_ix ix_list (pv 0) pe_int (fun _ _ => rfl)) (pv 1)))
      (pss_cons (ps_asg (pe_op p_fdiv (pe_ix ix_list (pv 0) pe_int (fun _ _ => rfl)) (pv 1)) (pg_sub (pv 0) pe_int set_list))
      (pss_one (ps_ret (pv 2))))))
theorem ok__law_new_name (F : FnP K "_law_new_name" s__law_new_name [] f fd) (G : Gm w K mg dP es nn) (c__law_draw : Cal P w K mg base 2 "_law_draw" sp__law_draw []) : FnOk P w K mg base CX0 3 f fd ["well", "names"] (sp__law_new_name K) :=
  FnP.go (k := 2) F sc__law_new_name (fun vs H Q E => by first | (unfold sp__law_new_name; walk_at "len") | walk_at "len") (t__law_new_name K) (fun vs H Q E h => pure__law_new_name (K := K) vs H Q E h) fun cdv A outer s H E hr =>
    (pss_cons (ps_set (i := 2) sc__law_new_name.nd rfl (by first | exact Or.inl rfl | exact Or.inr rfl) pe_str)
      (pss_cons (ps_set (i := 3) sc__law_new_name.nd rfl (by first | exact Or.inl rfl | exact Or.inr rfl) (pe_c c__law_draw hr (by omega) (by rfl) (pa_cons (pv 0) (pa_cons pe_int pa_nil))))
      (pss_cons (ps_set (i := 4) sc__law_new_name.nd rfl (by first | exact Or.inl rfl | exact Or.inr rfl) (pe_ix ix_str (pv 2) (pe_c c__law_draw hr (by omega) (by rfl) (pa_cons (pv 0) (pa_cons pe_int pa_nil))) (fun _ _ => rfl)))
      (pss_cons (ps_set (i := 5) sc__law_new_name.nd rfl (by first | exact Or.inl rfl | exact Or.inr rfl) (pe_join pe_str (pe_lc (own := [("k", 9)]) (g := gName 9) (tt := tYes) (by rfl) sc__law_new_name.nd (pi_range1 (by rfl) G.range (pa_cons (pe_op p_add pe_int (pe_c c__law_draw hr (by omega) (by rfl) (pa_cons (pv 0) (pa_cons pe_int pa_nil)))) pa_nil)) (blkOk_by (own := [("k", 9)]) (N := ["well", "names", "letters", "pick", "letter", "name", "old", "at", "some", "k", "one"]) (sc := defScope s__law_new_name) (by decide +kernel)) (fun _ _ _ _ _ => (pg_name (i := 9) sc__law_new_name.nd rfl (by first | exact Or.inl rfl | exact Or.inr rfl))) (fun _ _ _ _ _ => pts_nil) (fun _ _ _ _ _ => (pe_ix ix_str (pv 2) (pe_c c__law_draw hr (by omega) (by rfl) (pa_cons (pv 0) (pa_cons pe_int pa_nil))) (fun _ _ => rfl))))))
      (pss_cons (ps_if (PW.pt (pw_and (pt_cmpR p_gt (pv 3) pe_int (nomark _)) (pw_and1 (pt_cmpR (p_neE hr.units) (pv 1) (pe_lst pa_nil) (nomark _))))) (pss_cons (ps_set (i := 6) sc__law_new_name.nd rfl (by first | exact Or.inl rfl | exact Or.inr rfl) (pe_ix ix_list (pv 1) (pe_c c__law_draw hr (by omega) (by rfl) (pa_cons (pv 0) (pa_cons (pe_callB p_lenQ (by rfl) G.len (by decide +kernel) (pa_cons (pv 1) pa_nil)) pa_nil))) (fun _ _ => rfl)))
      (pss_cons (ps_set (i := 7) sc__law_new_name.nd rfl (by first | exact Or.inl rfl | exact Or.inr rfl) (pe_c c__law_draw hr (by omega) (by rfl) (pa_cons (pv 0) (pa_cons (pe_op p_add (pe_callB p_lenS (by rfl) G.len (by decide +kernel) (pa_cons (pv 6) pa_nil)) pe_int) pa_nil))))
      (pss_one (ps_set (i := 5) sc__law_new_name.nd rfl (by first | exact Or.inl rfl | exact Or.inr rfl) (pe_slice sl_str (pe_op p_addS (pe_op p_addS (pe_slice sl_str (pv 6) po_none (po_some (pv 7))) (pv 4)) (pe_slice sl_str (pv 6) (po_some (pe_op p_sub (pe_op p_add (pv 7) (pv 3)) pe_int)) po_none)) po_none (po_some pe_int)))))) pss_nil)
      (pss_cons (ps_set (i := 8) sc__law_new_name.nd rfl (by first | exact Or.inl rfl | exact Or.inr rfl) (pe_op op_cat (pe_op op_cat (pe_lst (pa_cons (pv 5) pa_nil)) (pe_lc (own := [("k", 9)]) (g := gName 9) (tt := tYes) (by rfl) sc__law_new_name.nd (pi_range1 (by rfl) G.range (pa_cons pe_int pa_nil)) (blkOk_by (own := [("k", 9)]) (N := ["well", "names", "letters", "pick", "letter", "name", "old", "at", "some", "k", "one"]) (sc := defScope s__law_new_name) (by decide +kernel)) (fun _ _ _ _ _ => (pg_name (i := 9) sc__law_new_name.nd rfl (by first | exact Or.inl rfl | exact Or.inr rfl))) (fun _ _ _ _ _ => pts_nil) (fun _ _ _ _ _ => (pe_ix ix_str (pv 2) (pv 9) (fun _ _ => rfl))))) (pe_lc (own := [("k", 9)]) (g := gName 9) (tt := tYes) (by rfl) sc__law_new_name.nd (pi_range1 (by rfl) G.range (pa_cons pe_int pa_nil)) (blkOk_by (own := [("k", 9)]) (N := ["well", "names", "letters", "pick", "letter", "name", "old", "at", "some", "k", "one"]) (sc := defScope s__law_new_name) (by decide +kernel)) (fun _ _ _ _ _ => (pg_name (i := 9) sc__law_new_name.nd rfl (by first | exact Or.inl rfl | exact Or.inr rfl))) (fun _ _ _ _ _ => pts_nil) (fun _ _ _ _ _ => (pe_op p_addS (pe_ix ix_str (pv 2) (pv 9) (fun _ _ => rfl)) (pe_ix ix_str (pv 2) (pv 9) (fun _ _ => rfl)))))))
      (pss_one (ps_ret (pe_ix ix_list (pe_lc (own := [("one", 10)]) (g := gName 10) (tt := tTest (tOp (rIn K true) (tVar 10) (tVar 1))) (by rfl) sc__law_new_name.nd (pi_list (pv 8)) (blkOk_by (own := [("one", 10)]) (N := ["well", "names", "letters", "pick", "letter", "name", "old", "at", "some", "k", "one"]) (sc := defScope s__law_new_name) (by decide +kernel)) (fun _ _ _ _ _ => (pg_name (i := 10) sc__law_new_name.nd rfl (by first | exact Or.inl rfl | exact Or.inr rfl))) (fun _ _ _ _ _ => (pts_one (pt_cmpR op_notIn_seq (pv 10) (pv 1) (by rfl)))) (fun _ _ _ _ _ => (pv 10))) pe_int (fun _ _ => rfl))))))))))
theorem ok__law_number (F : FnP K "_law_number" s__law_number [] f fd) (G : Gm w K mg dP es nn) (c__law_draw : Cal P w K mg base 2 "_law_draw" sp__law_draw []) : FnOk P w K mg base CX0 3 f fd ["well"] sp__law_number :=
  FnP.go (k := 2) F sc__law_number (fun vs H Q E => by first | (unfold sp__law_number; walk_at "len") | walk_at "len") (t__law_number) (fun vs H Q E h => pure__law_number (K := K) vs H Q E h) fun cdv A outer s H E hr =>
    (pss_cons (ps_set (i := 1) sc__law_number.nd rfl (by first | exact Or.inl rfl | exact Or.inr rfl) (pe_c c__law_draw hr (by omega) (by rfl) (pa_cons (pv 0) (pa_cons pe_int pa_nil))))
      (pss_cons (ps_if (pt_cmpR p_lt (pv 1) pe_int (nomark _)) (pss_one (ps_ret (pe_c c__law_draw hr (by omega) (by rfl) (pa_cons (pv 0) (pa_cons pe_int pa_nil))))) pss_nil)
      (pss_cons (ps_if (pt_cmpR p_lt (pv 1) pe_int (nomark _)) (pss_one (ps_ret (pe_op p_sub (pe_c c__law_draw hr (by omega) (by rfl) (pa_cons (pv 0) (pa_cons pe_int pa_nil))) pe_int))) pss_nil)
      (pss_one (ps_ret (pe_op p_add (pe_op p_sub (pe_c c__law_draw hr (by omega) (by rfl) (pa_cons (pv 0) (pa_cons (pe_op p_sub (pe_op p_mul pe_int (pe_op p_pow pe_int pe_int)) pe_int) pa_nil))) (pe_op p_pow pe_int pe_int)) pe_int))))))
theorem ok__law_expression (F : FnP K "_law_expression" s__law_expression [] f fd) (G : Gm w K mg dP es nn) (g : mg "_law_expression" = some (.ref f)) (c__law_draw : Cal P w K mg base 2 "_law_draw" sp__law_draw []) (c__law_number : Cal P w K mg base 3 "_law_number" sp__law_number []) : ∀ n : Nat, FnOk P w K mg base CX0 (n + 3) f fd ["well", "most"] ((sp__law_expression n))
  | 0 => ⟨fun vs H Q E h => absurd h (no__law_expression vs H Q E), fun A outer s H args us vs Q E _ _ _ _ h => absurd h (no__law_expression vs H Q E)⟩
  | n + 1 => by
    have ih := ok__law_expression F G g c__law_draw c__law_number n
    have c__law_expression : Cal P w K mg base (n + 3) "_law_expression" ((sp__law_expression n)) [] := F.cal ih g fun _ _ _ _ _ _ us hl => match us, hl with | [_, _], _ => rfl
    exact FnP.go (k := n + 3) F sc__law_expression (fun vs H Q E => by first | (unfold sp__law_expression; walk_at "len") | walk_at "len") (t__law_expression K n) (fun vs H Q E h => pure__law_expression (K := K) n vs H Q E h) fun cdv A outer s H E hr =>
      (pss_cons (ps_set (i := 2) sc__law_expression.nd rfl (by first | exact Or.inl rfl | exact Or.inr rfl) (pe_c c__law_draw hr (by omega) (by rfl) (pa_cons (pv 0) (pa_cons pe_int pa_nil))))
      (pss_cons (ps_if (PW.pt (pw_or (pt_cmpR p_lt (pv 1) pe_int (nomark _)) (pw_or1 (pt_cmpR p_lt (pv 2) pe_int (nomark _))))) (pss_one (ps_ret (pe_ix ix_list (pe_lst (pa_cons (pe_c c__law_number hr (by omega) (by rfl) (pa_cons (pv 0) pa_nil)) (pa_cons (pe_tup (pa_cons pe_str pa_nil)) pa_nil))) (pe_op p_fdiv (pe_c c__law_draw hr (by omega) (by rfl) (pa_cons (pv 0) (pa_cons pe_int pa_nil))) pe_int) (fun _ _ => rfl)))) pss_nil)
      (pss_cons (ps_if (pt_cmpR p_lt (pv 2) pe_int (nomark _)) (pss_one (ps_ret (pe_tup (pa_cons pe_str pa_nil)))) pss_nil)
      (pss_cons (ps_set (i := 3) sc__law_expression.nd rfl (by first | exact Or.inl rfl | exact Or.inr rfl) (pe_c c__law_expression hr (by omega) (by rfl) (pa_cons (pv 0) (pa_cons (pe_op p_sub (pv 1) pe_int) pa_nil))))
      (pss_cons (ps_if (pt_cmpR p_lt (pv 2) pe_int (nomark _)) (pss_one (ps_ret (pe_tup (pa_cons pe_str (pa_cons (pv 3) pa_nil))))) pss_nil)
      (pss_one (ps_ret (pe_tup (pa_cons (pe_ix ix_list (pe_lst (pa_cons pe_str (pa_cons pe_str (pa_cons pe_str (pa_cons pe_str pa_nil))))) (pe_c c__law_draw hr (by omega) (by rfl) (pa_cons (pv 0) (pa_cons pe_int pa_nil))) (fun _ _ => rfl)) (pa_cons (pv 3) (pa_cons (pe_c c__law_expression hr (by omega) (by rfl) (pa_cons (pv 0) (pa_cons (pe_op p_sub (pv 1) pe_int) pa_nil))) pa_nil)))))))))))
theorem ok__law_step (F : FnP K "_law_step" s__law_step [] f fd) (G : Gm w K mg dP es nn) (c__law_draw : Cal P w K mg base 2 "_law_draw" sp__law_draw []) (c__law_expression : Cal P w K mg base 9 "_law_expression" (sp__law_expression 6) []) : FnOk P w K mg base CX0 10 f fd ["well", "names", "gates", "k", "behind", "loose"] (sp__law_step K) :=
  FnP.go (k := 9) F sc__law_step (fun vs H Q E => by first | (unfold sp__law_step; walk_at "len") | walk_at "len") (t__law_step K) (fun vs H Q E h => pure__law_step (K := K) vs H Q E h) fun cdv A outer s H E hr =>
    (pss_cons (ps_set (i := 6) sc__law_step.nd rfl (by first | exact Or.inl rfl | exact Or.inr rfl) (pe_lst (pa_cons pe_str (pa_cons pe_str (pa_cons pe_str (pa_cons pe_str (pa_cons pe_str (pa_cons pe_str (pa_cons pe_str (pa_cons pe_str (pa_cons pe_str (pa_cons pe_str pa_nil))))))))))))
      (pss_cons (ps_set (i := 7) sc__law_step.nd rfl (by first | exact Or.inl rfl | exact Or.inr rfl) (pe_ix ix_list (pv 6) (pe_c c__law_draw hr (by omega) (by rfl) (pa_cons (pv 0) (pa_cons pe_int pa_nil))) (fun _ _ => rfl)))
      (pss_cons (ps_set (i := 8) sc__law_step.nd rfl (by first | exact Or.inl rfl | exact Or.inr rfl) (pe_ix ix_list (pe_lst (pa_cons pe_int (pa_cons pe_int (pa_cons pe_int (pa_cons pe_int (pa_cons pe_int pa_nil)))))) (pe_c c__law_draw hr (by omega) (by rfl) (pa_cons (pv 0) (pa_cons pe_int pa_nil))) (fun _ _ => rfl)))
      (pss_cons (ps_set (i := 9) sc__law_step.nd rfl (by first | exact Or.inl rfl | exact Or.inr rfl) (pe_c c__law_expression hr (by omega) (by rfl) (pa_cons (pv 0) (pa_cons (pv 8) pa_nil))))
      (pss_cons (ps_if (pt_cmpR op_eq (pv 7) pe_str (nomark _)) (pss_one (ps_ret (pe_tup (pa_cons (pv 7) (pa_cons (pe_ix ix_list (pe_lst (pa_cons (pe_c c__law_draw hr (by omega) (by rfl) (pa_cons (pv 0) (pa_cons pe_int pa_nil))) (pa_cons (pv 9) pa_nil))) (pe_c c__law_draw hr (by omega) (by rfl) (pa_cons (pv 0) (pa_cons pe_int pa_nil))) (fun _ _ => rfl)) (pa_cons (pe_c c__law_expression hr (by omega) (by rfl) (pa_cons (pv 0) (pa_cons (pv 8) pa_nil))) pa_nil)))))) pss_nil)
      (pss_cons (ps_if (pt_cmpR op_eq (pv 7) pe_str (nomark _)) (pss_one (ps_ret (pe_tup (pa_cons (pv 7) (pa_cons (pe_ix ix_list (pv 2) (pe_c c__law_draw hr (by omega) (by rfl) (pa_cons (pv 0) (pa_cons (pe_callB p_lenQ (by rfl) G.len (by decide +kernel) (pa_cons (pv 2) pa_nil)) pa_nil))) (fun _ _ => rfl)) (pa_cons (pv 9) pa_nil)))))) pss_nil)
      (pss_cons (ps_if (PW.pt (pw_and (pt_cmpR op_eq (pv 7) pe_str (nomark _)) (pw_and1 (pt_cmpR p_gt (pv 4) pe_int (nomark _))))) (pss_one (ps_ret (pe_tup (pa_cons (pv 7) (pa_cons (pv 9) (pa_cons (pe_op p_add pe_int (pe_c c__law_draw hr (by omega) (by rfl) (pa_cons (pv 0) (pa_cons (pv 4) pa_nil)))) pa_nil)))))) pss_nil)
      (pss_cons (ps_if (PW.pt (pw_or (pt_cmpR op_eq (pv 7) pe_str (nomark _)) (pw_or1 (pt_cmpR op_eq (pv 7) pe_str (nomark _))))) (pss_one (ps_ret (pe_tup (pa_cons pe_str pa_nil)))) pss_nil)
      (pss_cons (ps_set (i := 10) sc__law_step.nd rfl (by first | exact Or.inl rfl | exact Or.inr rfl) (pe_op p_sub (pe_op p_sub (pe_callB p_lenQ (by rfl) G.len (by decide +kernel) (pa_cons (pv 1) pa_nil)) (pv 3)) pe_int))
      (pss_cons (ps_if (PW.pt (pw_and (pt_cmpR op_eq (pv 5) pe_int (nomark _)) (pw_and1 (PW.pt (pw_or (pt_cmpR op_eq (pv 10) pe_int (nomark _)) (pw_or1 (pt_cmpR op_eq (pe_c c__law_draw hr (by omega) (by rfl) (pa_cons (pv 0) (pa_cons pe_int pa_nil))) pe_int (nomark _)))))))) (pss_one (ps_ret (pe_tup (pa_cons (pv 7) (pa_cons (pe_ix ix_list (pv 1) (pe_c c__law_draw hr (by omega) (by rfl) (pa_cons (pv 0) (pa_cons (pe_callB p_lenQ (by rfl) G.len (by decide +kernel) (pa_cons (pv 1) pa_nil)) pa_nil))) (fun _ _ => rfl)) (pa_cons (pe_tup (pa_cons pe_str (pa_cons (pe_tup (pa_cons pe_str pa_nil)) (pa_cons pe_int pa_nil)))) pa_nil)))))) pss_nil)
      (pss_cons (ps_if (pt_cmpR op_eq (pv 10) pe_int (nomark _)) (pss_one (ps_ret (pe_tup (pa_cons pe_str (pa_cons (pe_ix ix_list (pv 2) (pe_c c__law_draw hr (by omega) (by rfl) (pa_cons (pv 0) (pa_cons (pe_callB p_lenQ (by rfl) G.len (by decide +kernel) (pa_cons (pv 2) pa_nil)) pa_nil))) (fun _ _ => rfl)) (pa_cons (pv 9) pa_nil)))))) pss_nil)
      (pss_one (ps_ret (pe_tup (pa_cons (pv 7) (pa_cons (pe_ix ix_list (pv 1) (pe_op p_add (pe_op p_add (pv 3) pe_int) (pe_c c__law_draw hr (by omega) (by rfl) (pa_cons (pv 0) (pa_cons (pv 10) pa_nil)))) (fun _ _ => rfl)) (pa_cons (pv 9) pa_nil)))))))))))))))))
theorem ok__law_program (F : FnP K "_law_program" s__law_program [] f fd) (G : Gm w K mg dP es nn) (c__law_cell_at : Cal P w K mg base 1 "_law_cell_at" (sp__law_cell_at K) []) (c__law_well : Cal P w K mg base 2 "_law_well" sp__law_well []) (c__law_draw : Cal P w K mg base 2 "_law_draw" sp__law_draw []) (c__law_new_name : Cal P w K mg base 3 "_law_new_name" (sp__law_new_name K) []) (c__law_step : Cal P w K mg base 10 "_law_step" (sp__law_step K) []) : FnOk P w K mg base CX0 11 f fd ["cells", "most", "loose"] (sp__law_program K) :=
  FnP.go (k := 10) F sc__law_program (fun vs H Q E => by first | (unfold sp__law_program; walk_at "len") | walk_at "len") (t__law_program K) (fun vs H Q E h => pure__law_program (K := K) vs H Q E h) fun cdv A outer s H E hr =>
    (pss_cons (ps_set (i := 3) sc__law_program.nd rfl (by first | exact Or.inl rfl | exact Or.inr rfl) (pe_c c__law_well hr (by omega) (by rfl) (pa_cons (pe_c c__law_cell_at hr (by omega) (by rfl) (pa_cons (pv 0) (pa_cons pe_int pa_nil))) (pa_cons pe_int pa_nil))))
      (pss_cons (ps_set (i := 4) sc__law_program.nd rfl (by first | exact Or.inl rfl | exact Or.inr rfl) (pe_op p_fdiv (pe_c c__law_draw hr (by omega) (by rfl) (pa_cons (pv 3) (pa_cons pe_int pa_nil))) pe_int))
      (pss_cons (ps_set (i := 5) sc__law_program.nd rfl (by first | exact Or.inl rfl | exact Or.inr rfl) (pe_op p_add pe_int (pe_c c__law_draw hr (by omega) (by rfl) (pa_cons (pv 3) (pa_cons (pe_ix ix_list (pe_lst (pa_cons (pv 1) (pa_cons pe_int pa_nil))) (pv 4) (fun _ _ => rfl)) pa_nil)))))
      (pss_cons (ps_set (i := 6) sc__law_program.nd rfl (by first | exact Or.inl rfl | exact Or.inr rfl) (pe_lst (pa_cons pe_str pa_nil)))
      (pss_cons (ps_if (pt_cmpR op_eq (pe_c c__law_draw hr (by omega) (by rfl) (pa_cons (pv 3) (pa_cons pe_int pa_nil))) pe_int (nomark _)) (pss_one (ps_set (i := 6) sc__law_program.nd rfl (by first | exact Or.inl rfl | exact Or.inr rfl) (pe_lst (pa_cons (pe_c c__law_new_name hr (by omega) (by rfl) (pa_cons (pv 3) (pa_cons (pe_lst pa_nil) pa_nil))) pa_nil)))) pss_nil)
      (pss_cons (ps_for PassesOwn.never rfl (pi_range1 (by rfl) G.range (pa_cons (pe_op p_sub (pv 5) pe_int) pa_nil)) (pg_name (i := 7) sc__law_program.nd rfl (by first | exact Or.inl rfl | exact Or.inr rfl)) (pss_one (ps_expr (pe_bm PySem.F.plainAttrs_list PySem.F.slot_list_append PySem.F.type_list_append mt_append (pv 6) (pa_cons (pe_c c__law_new_name hr (by omega) (by rfl) (pa_cons (pv 3) (pa_cons (pv 6) pa_nil))) pa_nil)))))
      (pss_cons (ps_set (i := 8) sc__law_program.nd rfl (by first | exact Or.inl rfl | exact Or.inr rfl) (pe_lst (pa_cons pe_str (pa_cons (pe_c c__law_new_name hr (by omega) (by rfl) (pa_cons (pv 3) (pa_cons (pe_lst pa_nil) pa_nil))) (pa_cons (pe_c c__law_new_name hr (by omega) (by rfl) (pa_cons (pv 3) (pa_cons (pe_lst pa_nil) pa_nil))) pa_nil)))))
      (pss_cons (ps_set (i := 9) sc__law_program.nd rfl (by first | exact Or.inl rfl | exact Or.inr rfl) (pe_lst pa_nil))
      (pss_cons (ps_for PassesOwn.never rfl (pi_range1 (by rfl) G.range (pa_cons (pv 5) pa_nil)) (pg_name (i := 7) sc__law_program.nd rfl (by first | exact Or.inl rfl | exact Or.inr rfl)) (pss_cons (ps_set (i := 10) sc__law_program.nd rfl (by first | exact Or.inl rfl | exact Or.inr rfl) (pe_c c__law_well hr (by omega) (by rfl) (pa_cons (pe_c c__law_cell_at hr (by omega) (by rfl) (pa_cons (pv 0) (pa_cons (pe_op p_add (pv 7) pe_int) pa_nil))) (pa_cons (pv 7) pa_nil))))
      (pss_cons (ps_set (i := 11) sc__law_program.nd rfl (by first | exact Or.inl rfl | exact Or.inr rfl) (pe_c c__law_draw hr (by omega) (by rfl) (pa_cons (pv 10) (pa_cons (pe_ix ix_list (pe_lst (pa_cons pe_int (pa_cons pe_int pa_nil))) (pv 4) (fun _ _ => rfl)) pa_nil))))
      (pss_cons (ps_if (pt_cmpR op_eq (pv 7) pe_int (nomark _)) (pss_one (ps_set (i := 11) sc__law_program.nd rfl (by first | exact Or.inl rfl | exact Or.inr rfl) (pe_callB (p_max rfl) (by rfl) G.max (by decide +kernel) (pa_cons (pv 11) (pa_cons pe_int pa_nil))))) pss_nil)
      (pss_cons (ps_setLc (i := 12) (own := [("at", 13)]) (g := gName 13) (tt := tYes) (by rfl) sc__law_program.nd rfl rfl (sw_true rfl rfl rfl (by decide +kernel)) (pi_range1 (by rfl) G.range (pa_cons (pv 11) pa_nil)) (blkOk_by (own := [("at", 13)]) (N := ["cells", "most", "loose", "head", "great", "many", "names", "k", "gates", "helpers", "well", "size", "rows", "at"]) (sc := defScope s__law_program) (by decide +kernel)) (fun _ _ _ _ _ => (pg_name (i := 13) sc__law_program.nd rfl (by first | exact Or.inl rfl | exact Or.inr rfl))) (fun _ _ _ _ _ => pts_nil) (fun _ _ _ _ _ => (pe_c c__law_step hr (by omega) (by rfl) (pa_cons (pv 10) (pa_cons (pv 6) (pa_cons (pv 8) (pa_cons (pv 7) (pa_cons (pe_op p_sub (pe_op p_sub (pv 11) (pv 13)) pe_int) (pa_cons (pv 2) pa_nil)))))))))
      (pss_one (ps_expr (pe_bm PySem.F.plainAttrs_list PySem.F.slot_list_append PySem.F.type_list_append mt_append (pv 9) (pa_cons (pe_tup (pa_cons (pe_ix ix_list (pv 6) (pv 7) (fun _ _ => rfl)) (pa_cons (pv 12) pa_nil))) pa_nil)))))))))
      (pss_one (ps_ret (pe_tup (pa_cons (pv 6) (pa_cons (pe_callB p_sortedR (by rfl) G.sorted (by decide +kernel) (pa_cons (pv 9) pa_nil)) pa_nil))))))))))))))
theorem ok__law_worth (F : FnP K "_law_worth" s__law_worth [] f fd) (G : Gm w K mg dP es nn) (g : mg "_law_worth" = some (.ref f))  : ∀ n : Nat, FnOk P w K mg base CX0 (n + 2) f fd ["expression", "arg", "cells", "asked"] ((sp__law_worth n))
  | 0 => ⟨fun vs H Q E h => absurd h (no__law_worth vs H Q E), fun A outer s H args us vs Q E _ _ _ _ h => absurd h (no__law_worth vs H Q E)⟩
  | n + 1 => by
    have ih := ok__law_worth F G g  n
    have c__law_worth : Cal P w K mg base (n + 2) "_law_worth" ((sp__law_worth n)) [] := F.cal ih g fun _ _ _ _ _ _ us hl => match us, hl with | [_, _, _, _], _ => rfl
    exact FnP.go (k := n + 2) F sc__law_worth (fun vs H Q E => by first | (unfold sp__law_worth; walk_at "len") | walk_at "len") (t__law_worth K n) (fun vs H Q E h => pure__law_worth (K := K) n vs H Q E h) fun cdv A outer s H E hr =>
      (pss_cons (ps_if (pt_val (pe_callB call_isi (by rfl) G.isinstance (by decide +kernel) (pa_cons (pv 0) (pa_cons (pe_bltn (v := .ty "int") (by rfl) G.int (by decide +kernel) rfl) pa_nil)))) (pss_one (ps_ret (pv 0))) pss_nil)
      (pss_cons (ps_set (i := 4) sc__law_worth.nd rfl (by first | exact Or.inl rfl | exact Or.inr rfl) (pe_ix ix_tup (pv 0) pe_int (fun _ _ => rfl)))
      (pss_cons (ps_if (pt_cmpR op_eq (pv 4) pe_str (nomark _)) (pss_one (ps_ret (pv 1))) pss_nil)
      (pss_cons (ps_set (i := 5) sc__law_worth.nd rfl (by first | exact Or.inl rfl | exact Or.inr rfl) (pe_c c__law_worth hr (by omega) (by rfl) (pa_cons (pe_ix ix_tup (pv 0) pe_int (fun _ _ => rfl)) (pa_cons (pv 1) (pa_cons (pv 2) (pa_cons (pv 3) pa_nil))))))
      (pss_cons (ps_if (pt_cmpR op_eq (pv 4) pe_str (nomark _)) (pss_cons (ps_expr (pe_bm PySem.F.plainAttrs_list PySem.F.slot_list_append PySem.F.type_list_append mt_append (pv 3) (pa_cons (pv 5) pa_nil)))
      (pss_one (ps_ret (pe_dget2 (hu_of hr) (pv 2) (pv 5) pe_int ⟨rfl, rfl, rfl, rfl⟩)))) pss_nil)
      (pss_cons (ps_set (i := 6) sc__law_worth.nd rfl (by first | exact Or.inl rfl | exact Or.inr rfl) (pe_c c__law_worth hr (by omega) (by rfl) (pa_cons (pe_ix ix_tup (pv 0) pe_int (fun _ _ => rfl)) (pa_cons (pv 1) (pa_cons (pv 2) (pa_cons (pv 3) pa_nil))))))
      (pss_cons (ps_if (pt_cmpR op_eq (pv 4) pe_str (nomark _)) (pss_one (ps_ret (pe_callB (p_min rfl) (by rfl) G.min (by decide +kernel) (pa_cons (pv 5) (pa_cons (pv 6) pa_nil))))) pss_nil)
      (pss_one (ps_ret (pe_op p_add (pv 5) (pe_op p_mul (pv 6) (pe_ix ix_list (pe_lst (pa_cons pe_int (pa_cons (pe_un un_neg pe_int) pa_nil))) (pe_callTy p_int (by rfl) G.int (by decide +kernel) (pa_cons (pe_cmpR op_eq (pv 4) pe_str (nomark _)) pa_nil)) (fun _ _ => rfl)))))))))))))
theorem ok__law_made (F : FnP K "_law_made" s__law_made [] f fd) (G : Gm w K mg dP es nn) (c__law_worth : Cal P w K mg base 8 "_law_worth" (sp__law_worth 6) []) : FnOk P w K mg base CX0 9 f fd ["state", "step", "arg", "record"] (sp__law_made K) :=
  FnP.go (k := 8) F sc__law_made (fun vs H Q E => by first | (unfold sp__law_made; walk_at "len") | walk_at "len") (t__law_made K) (fun vs H Q E h => pure__law_made (K := K) vs H Q E h) fun cdv A outer s H E hr =>
    (pss_cons (ps_set (i := 4) sc__law_made.nd rfl (by first | exact Or.inl rfl | exact Or.inr rfl) (pe_dget (hu_of hr) (pv 0) pe_str (fun _ _ => rfl)))
      (pss_cons (ps_if (pt_cmpR op_eq (pe_ix ix_tup (pv 1) pe_int (fun _ _ => rfl)) pe_str (nomark _)) (pss_cons (ps_set (i := 5) sc__law_made.nd rfl (by first | exact Or.inl rfl | exact Or.inr rfl) (pe_c c__law_worth hr (by omega) (by rfl) (pa_cons (pe_ix ix_tup (pv 1) pe_int (fun _ _ => rfl)) (pa_cons (pv 2) (pa_cons (pv 4) (pa_cons (pe_ix ix_list (pv 3) pe_int (fun _ _ => rfl)) pa_nil))))))
      (pss_cons (ps_dput (hu_of hr) (pv 4) (pv 5) (pe_c c__law_worth hr (by omega) (by rfl) (pa_cons (pe_ix ix_tup (pv 1) pe_int (fun _ _ => rfl)) (pa_cons (pv 2) (pa_cons (pv 4) (pa_cons (pe_ix ix_list (pv 3) pe_int (fun _ _ => rfl)) pa_nil))))) rfl)
      (pss_one (ps_expr (pe_bm PySem.F.plainAttrs_list PySem.F.slot_list_append PySem.F.type_list_append mt_append (pe_ix ix_list (pv 3) pe_int (fun _ _ => rfl)) (pa_cons (pv 5) pa_nil)))))) pss_nil)
      (pss_cons (ps_if (pt_cmpR op_eq (pe_ix ix_tup (pv 1) pe_int (fun _ _ => rfl)) pe_str (nomark _)) (pss_cons (ps_set (i := 6) sc__law_made.nd rfl (by first | exact Or.inl rfl | exact Or.inr rfl) (pe_c c__law_worth hr (by omega) (by rfl) (pa_cons (pe_ix ix_tup (pv 1) pe_int (fun _ _ => rfl)) (pa_cons (pv 2) (pa_cons (pv 4) (pa_cons (pe_ix ix_list (pv 3) pe_int (fun _ _ => rfl)) pa_nil))))))
      (pss_one (ps_dput (hu_of hr) (pe_dget (hu_of hr) (pv 0) pe_str (fun _ _ => rfl)) (pe_ix ix_tup (pv 1) pe_int (fun _ _ => rfl)) (pe_op op_cat (pe_dget2 (hu_of hr) (pe_dget (hu_of hr) (pv 0) pe_str (fun _ _ => rfl)) (pe_ix ix_tup (pv 1) pe_int (fun _ _ => rfl)) (pe_lst pa_nil) ⟨rfl, rfl, rfl, rfl⟩) (pe_lst (pa_cons (pv 6) pa_nil))) rfl))) pss_nil)
      (pss_cons (ps_if (PW.pt (pw_and (pt_cmpR op_eq (pe_ix ix_tup (pv 1) pe_int (fun _ _ => rfl)) pe_str (nomark _)) (pw_and1 (pt_cmpR op_eq (pe_c c__law_worth hr (by omega) (by rfl) (pa_cons (pe_ix ix_tup (pv 1) pe_int (fun _ _ => rfl)) (pa_cons (pv 2) (pa_cons (pv 4) (pa_cons (pe_ix ix_list (pv 3) pe_int (fun _ _ => rfl)) pa_nil))))) pe_int (nomark _))))) (pss_one (ps_ret (pe_ix ix_tup (pv 1) pe_int (fun _ _ => rfl)))) pss_nil)
      (pss_one (ps_ret pe_int))))))
theorem ok__law_do (F : FnP K "_law_do" s__law_do [] f fd) (G : Gm w K mg dP es nn) (g : mg "_law_do" = some (.ref f)) (c__law_made : Cal P w K mg base 9 "_law_made" (sp__law_made K) []) (c__law_worth : Cal P w K mg base 8 "_law_worth" (sp__law_worth 6) []) : ∀ n : Nat, FnOk P w K mg base CX0 (n + 9) f fd ["state", "name", "arg", "path"] ((sp__law_do K n))
  | 0 => ⟨fun vs H Q E h => absurd h (no__law_do vs H Q E), fun A outer s H args us vs Q E _ _ _ _ h => absurd h (no__law_do vs H Q E)⟩
  | n + 1 => by
    have ih := ok__law_do F G g c__law_made c__law_worth n
    have c__law_do : Cal P w K mg base (n + 9) "_law_do" ((sp__law_do K n)) [] := F.cal ih g fun _ _ _ _ _ _ us hl => match us, hl with | [_, _, _, _], _ => rfl
    exact FnP.go (k := n + 9) F sc__law_do (fun vs H Q E => by first | (unfold sp__law_do; walk_at "len") | walk_at "len") (t__law_do K n) (fun vs H Q E h => pure__law_do (K := K) n vs H Q E h) fun cdv A outer s H E hr =>
      (pss_cons (ps_dput (hu_of hr) (pv 0) pe_str (pe_op p_add (pe_dget (hu_of hr) (pv 0) pe_str (fun _ _ => rfl)) pe_int) rfl)
      (pss_cons (ps_dput (hu_of hr) (pv 0) pe_str (pe_callB (p_max rfl) (by rfl) G.max (by decide +kernel) (pa_cons (pe_dget (hu_of hr) (pv 0) pe_str (fun _ _ => rfl)) (pa_cons (pe_dget (hu_of hr) (pv 0) pe_str (fun _ _ => rfl)) pa_nil))) rfl)
      (pss_cons (ps_set (i := 4) sc__law_do.nd rfl (by first | exact Or.inl rfl | exact Or.inr rfl) (pe_dget (hu_of hr) (pe_dget (hu_of hr) (pv 0) pe_str (fun _ _ => rfl)) (pv 1) (fun _ _ => rfl)))
      (pss_cons (ps_set (i := 5) sc__law_do.nd rfl (by first | exact Or.inl rfl | exact Or.inr rfl) pe_int)
      (pss_cons (ps_set (i := 6) sc__law_do.nd rfl (by first | exact Or.inl rfl | exact Or.inr rfl) pe_int)
      (pss_cons (ps_set (i := 7) sc__law_do.nd rfl (by first | exact Or.inl rfl | exact Or.inr rfl) pe_int)
      (pss_cons (ps_while PassesOwn.never (PW.pt (pw_and (pt_cmpR p_lt (pv 5) (pe_callB p_lenQ (by rfl) G.len (by decide +kernel) (pa_cons (pv 4) pa_nil)) (nomark _)) (pw_and1 (pt_not (pt_val (pe_dget (hu_of hr) (pv 0) pe_str (fun _ _ => rfl))))))) (pss_cons (ps_set (i := 8) sc__law_do.nd rfl (by first | exact Or.inl rfl | exact Or.inr rfl) (pe_ix ix_list (pv 4) (pv 5) (fun _ _ => rfl)))
      (pss_cons (ps_dput (hu_of hr) (pv 0) pe_str (pe_cmpR p_ge (pe_callB p_lenQ (by rfl) G.len (by decide +kernel) (pa_cons (pe_dget (hu_of hr) (pv 0) pe_str (fun _ _ => rfl)) pa_nil)) (pe_dget (hu_of hr) (pv 0) pe_str (fun _ _ => rfl)) (nomark _)) rfl)
      (pss_cons (ps_set (i := 9) sc__law_do.nd rfl (by first | exact Or.inl rfl | exact Or.inr rfl) (pe_lst (pa_cons (pe_tup (pa_cons (pv 3) (pa_cons (pv 6) pa_nil))) (pa_cons (pe_ix ix_tup (pv 8) pe_int (fun _ _ => rfl)) (pa_cons pe_non (pa_cons (pe_lst pa_nil) (pa_cons (pe_lst pa_nil) pa_nil)))))))
      (pss_cons (ps_if (pt_not (pt_val (pe_dget (hu_of hr) (pv 0) pe_str (fun _ _ => rfl)))) (pss_cons (ps_expr (pe_bm PySem.F.plainAttrs_list PySem.F.slot_list_append PySem.F.type_list_append mt_append (pe_dget (hu_of hr) (pv 0) pe_str (fun _ _ => rfl)) (pa_cons (pv 9) pa_nil)))
      (pss_cons (ps_set (i := 6) sc__law_do.nd rfl (by first | exact Or.inl rfl | exact Or.inr rfl) (pe_op p_add (pv 6) pe_int))
      (pss_one (ps_set (i := 5) sc__law_do.nd rfl (by first | exact Or.inl rfl | exact Or.inr rfl) (pe_op p_add (pe_op p_add (pv 5) pe_int) (pe_c c__law_made hr (by omega) (by rfl) (pa_cons (pv 0) (pa_cons (pv 8) (pa_cons (pv 2) (pa_cons (pv 9) pa_nil)))))))))) pss_nil)
      (pss_one (ps_if (PW.pt (pw_and (pt_cmpR op_in_seq (pe_ix ix_tup (pv 8) pe_int (fun _ _ => rfl)) (pe_lst (pa_cons pe_str (pa_cons pe_str pa_nil))) (by rfl)) (pw_and1 (pt_not (pt_val (pe_dget (hu_of hr) (pv 0) pe_str (fun _ _ => rfl))))))) (pss_cons (ps_asg (pe_op op_catA (pv 3) (pe_tup (pa_cons (pv 7) pa_nil))) (pg_sub (pv 9) pe_int set_list))
      (pss_cons (ps_set (i := 7) sc__law_do.nd rfl (by first | exact Or.inl rfl | exact Or.inr rfl) (pe_op p_add (pv 7) pe_int))
      (pss_one (ps_expr (pe_c c__law_do hr (by omega) (by rfl) (pa_cons (pv 0) (pa_cons (pe_ix ix_tup (pv 8) pe_int (fun _ _ => rfl)) (pa_cons (pe_c c__law_worth hr (by omega) (by rfl) (pa_cons (pe_ix ix_tup (pv 8) pe_int (fun _ _ => rfl)) (pa_cons (pv 2) (pa_cons (pe_dget (hu_of hr) (pv 0) pe_str (fun _ _ => rfl)) (pa_cons (pe_ix ix_list (pv 9) pe_int (fun _ _ => rfl)) pa_nil))))) (pa_cons (pe_ix ix_list (pv 9) pe_int (fun _ _ => rfl)) pa_nil))))))))) pss_nil)))))))
      (pss_one (ps_dput (hu_of hr) (pv 0) pe_str (pe_op p_sub (pe_dget (hu_of hr) (pv 0) pe_str (fun _ _ => rfl)) pe_int) rfl)))))))))
theorem ok__law_ran (F : FnP K "_law_ran" s__law_ran [] f fd) (G : Gm w K mg dP es nn) (c__law_do : Cal P w K mg base 161 "_law_do" (sp__law_do K 152) []) : FnOk P w K mg base CX0 162 f fd ["program", "name", "arg", "cells", "most"] (sp__law_ran K) :=
  FnP.go (k := 161) F sc__law_ran (fun vs H Q E => by first | (unfold sp__law_ran; walk_at "len") | walk_at "len") (t__law_ran K) (fun vs H Q E h => pure__law_ran (K := K) vs H Q E h) fun cdv A outer s H E hr =>
    (pss_cons (ps_set (i := 5) sc__law_ran.nd rfl (by first | exact Or.inl rfl | exact Or.inr rfl) (pe_disp (pps_cons pe_str (pe_callTy (p_dictP rfl) (by rfl) G.dict (by decide +kernel) (pa_cons (pv 0) pa_nil)) (pps_cons pe_str (pe_callTy (p_dictP rfl) (by rfl) G.dict (by decide +kernel) (pa_cons (pv 3) pa_nil)) (pps_cons pe_str pe_dnewK (pps_cons pe_str (pe_lst pa_nil) (pps_cons pe_str (pv 4) (pps_cons pe_str pe_bl pps_nil)))))) (by rfl) (by rfl) (fun z => by cases z) (by decide)))
      (pss_cons (ps_dput (hu_of hr) (pv 5) pe_str pe_int rfl)
      (pss_cons (ps_dput (hu_of hr) (pv 5) pe_str pe_int rfl)
      (pss_cons (ps_expr (pe_c c__law_do hr (by omega) (by rfl) (pa_cons (pv 5) (pa_cons (pv 1) (pa_cons (pv 2) (pa_cons (pe_tup pa_nil) pa_nil))))))
      (pss_one (ps_ret (pv 5)))))))
theorem ok__law_cells (F : FnP K "_law_cells" s__law_cells [] f fd) (G : Gm w K mg dP es nn) (c__law_draw : Cal P w K mg base 2 "_law_draw" sp__law_draw []) (c__law_number : Cal P w K mg base 3 "_law_number" sp__law_number []) : FnOk P w K mg base CX0 4 f fd ["well"] sp__law_cells :=
  FnP.go (k := 3) F sc__law_cells (fun vs H Q E => by first | (unfold sp__law_cells; walk_at "len") | walk_at "len") (t__law_cells K) (fun vs H Q E h => pure__law_cells (K := K) vs H Q E h) fun cdv A outer s H E hr =>
    (pss_cons (ps_set (i := 1) sc__law_cells.nd rfl (by first | exact Or.inl rfl | exact Or.inr rfl) (pe_lst pa_nil))
      (pss_cons (ps_for PassesOwn.never rfl (pi_range1 (by rfl) G.range (pa_cons (pe_c c__law_draw hr (by omega) (by rfl) (pa_cons (pv 0) (pa_cons pe_int pa_nil))) pa_nil)) (pg_name (i := 2) sc__law_cells.nd rfl (by first | exact Or.inl rfl | exact Or.inr rfl)) (pss_cons (ps_set (i := 3) sc__law_cells.nd rfl (by first | exact Or.inl rfl | exact Or.inr rfl) (pe_c c__law_number hr (by omega) (by rfl) (pa_cons (pv 0) pa_nil)))
      (pss_one (ps_if (pt_cmpR op_notIn_seq (pv 3) (pe_lc (own := [("one", 4), ("number", 5)]) (g := gTup K 2 (gCons (gName 4) (gCons (gName 5) (gNil)))) (tt := tYes) (by rfl) sc__law_cells.nd (pi_list (pv 1)) (blkOk_by (own := [("one", 4), ("number", 5)]) (N := ["well", "found", "k", "cell", "one", "number"]) (sc := defScope s__law_cells) (by decide +kernel)) (fun _ _ _ _ _ => (pg_tup rfl (pgs_cons (pg_name (i := 4) sc__law_cells.nd rfl (by first | exact Or.inl rfl | exact Or.inr rfl)) (pgs_cons (pg_name (i := 5) sc__law_cells.nd rfl (by first | exact Or.inl rfl | exact Or.inr rfl)) pgs_nil)))) (fun _ _ _ _ _ => pts_nil) (fun _ _ _ _ _ => (pv 4))) (by rfl)) (pss_one (ps_expr (pe_bm PySem.F.plainAttrs_list PySem.F.slot_list_append PySem.F.type_list_append mt_append (pv 1) (pa_cons (pe_tup (pa_cons (pv 3) (pa_cons (pe_c c__law_number hr (by omega) (by rfl) (pa_cons (pv 0) pa_nil)) pa_nil))) pa_nil)))) pss_nil))))
      (pss_one (ps_ret (pv 1)))))
theorem ok__law_held (F : FnP K "_law_held" s__law_held [] f fd) (G : Gm w K mg dP es nn)  : FnOk P w K mg base CX0 1 f fd ["state"] (sp__law_held K) :=
  FnP.go (k := 0) F sc__law_held (fun vs H Q E => by first | (unfold sp__law_held; walk_at "len") | walk_at "len") (t__law_held K) (fun vs H Q E h => pure__law_held (K := K) vs H Q E h) fun cdv A outer s H E hr =>
    (pss_one (ps_ret (pe_lc (own := [("cell", 1)]) (g := gName 1) (tt := tTest (tOp rNe (tDGet (tDGet (tVar 0) (tC (.str "cells"))) (tVar 1)) (tC (.int 0)))) (by rfl) sc__law_held.nd (pi_list (pe_callB (p_sortDI rfl) (by rfl) G.sorted (by decide +kernel) (pa_cons (pe_dget (hu_of hr) (pv 0) pe_str (fun _ _ => rfl)) pa_nil))) (blkOk_by (own := [("cell", 1)]) (N := ["state", "cell"]) (sc := defScope s__law_held) (by decide +kernel)) (fun _ _ _ _ _ => (pg_name (i := 1) sc__law_held.nd rfl (by first | exact Or.inl rfl | exact Or.inr rfl))) (fun _ _ _ _ _ => (pts_one (pt_cmpR op_ne (pe_dget (hu_of hr) (pe_dget (hu_of hr) (pv 0) pe_str (fun _ _ => rfl)) (pv 1) (fun _ _ => rfl)) pe_int (nomark _)))) (fun _ _ _ _ _ => (pe_tup (pa_cons (pv 1) (pa_cons (pe_dget (hu_of hr) (pe_dget (hu_of hr) (pv 0) pe_str (fun _ _ => rfl)) (pv 1) (fun _ _ => rfl)) pa_nil)))))))
theorem ok__law_gifts (F : FnP K "_law_gifts" s__law_gifts [] f fd) (G : Gm w K mg dP es nn)  : FnOk P w K mg base CX0 1 f fd ["state"] (sp__law_gifts K) :=
  FnP.go (k := 0) F sc__law_gifts (fun vs H Q E => by first | (unfold sp__law_gifts; walk_at "len") | walk_at "len") (t__law_gifts K) (fun vs H Q E h => pure__law_gifts (K := K) vs H Q E h) fun cdv A outer s H E hr =>
    (pss_one (ps_ret (pe_lc (own := [("name", 1)]) (g := gName 1) (tt := tYes) (by rfl) sc__law_gifts.nd (pi_list (pe_callB (p_sortDS rfl) (by rfl) G.sorted (by decide +kernel) (pa_cons (pe_dget (hu_of hr) (pv 0) pe_str (fun _ _ => rfl)) pa_nil))) (blkOk_by (own := [("name", 1)]) (N := ["state", "name"]) (sc := defScope s__law_gifts) (by decide +kernel)) (fun _ _ _ _ _ => (pg_name (i := 1) sc__law_gifts.nd rfl (by first | exact Or.inl rfl | exact Or.inr rfl))) (fun _ _ _ _ _ => pts_nil) (fun _ _ _ _ _ => (pe_tup (pa_cons (pv 1) (pa_cons (pe_dget (hu_of hr) (pe_dget (hu_of hr) (pv 0) pe_str (fun _ _ => rfl)) (pv 1) (fun _ _ => rfl)) pa_nil)))))))
theorem ok__law_wholes (F : FnP K "_law_wholes" s__law_wholes [] f fd) (G : Gm w K mg dP es nn)  : FnOk P w K mg base CX0 1 f fd ["rows"] (sp__law_wholes K) :=
  FnP.go (k := 0) F sc__law_wholes (fun vs H Q E => by first | (unfold sp__law_wholes; walk_at "len") | walk_at "len") (t__law_wholes K) (fun vs H Q E h => pure__law_wholes (K := K) vs H Q E h) fun cdv A outer s H E hr =>
    (pss_cons (ps_for PassesOwn.never rfl (pi_list (pv 0)) (pg_name (i := 1) sc__law_wholes.nd rfl (by first | exact Or.inl rfl | exact Or.inr rfl)) (pss_cons (ps_set (i := 2) sc__law_wholes.nd rfl (by first | exact Or.inl rfl | exact Or.inr rfl) (pe_lst (pa_cons (pv 1) pa_nil)))
      (pss_one (ps_while PassesOwn.never (pt_cmpR (p_neE hr.units) (pv 2) (pe_lst pa_nil) (nomark _)) (pss_cons (ps_set (i := 3) sc__law_wholes.nd rfl (by first | exact Or.inl rfl | exact Or.inr rfl) (pe_bm0 PySem.F.plainAttrs_list PySem.F.slot_list_pop PySem.F.type_list_pop mt_pop (pv 2)))
      (pss_cons (ps_if (pt_val (pe_callB call_isi (by rfl) G.isinstance (by decide +kernel) (pa_cons (pv 3) (pa_cons (pe_bltn (v := .ty "bool") (by rfl) G.bool (by decide +kernel) rfl) pa_nil)))) (pss_one (ps_ret pe_bl)) pss_nil)
      (pss_one (ps_if (pt_val (pe_callB call_isiT (by rfl) G.isinstance (by decide +kernel) (pa_cons (pv 3) (pa_cons (pe_tup (pa_cons (pe_bltn (v := .ty "list") (by rfl) G.list (by decide +kernel) rfl) (pa_cons (pe_bltn (v := .ty "tuple") (by rfl) G.tuple (by decide +kernel) rfl) pa_nil))) pa_nil)))) (pss_one (ps_expr (pe_bm PySem.F.plainAttrs_list PySem.F.slot_list_extend PySem.F.type_list_extend mt_extendA (pv 2) (pa_cons (pv 3) pa_nil)))) pss_nil))))))))
      (pss_one (ps_ret pe_bl)))
theorem ok__law_asked (F : FnP K "_law_asked" s__law_asked [] f fd) (G : Gm w K mg dP es nn) (XT : XTl K) (c_run : CalX P w K mg base 13 "run" (sp_run K) []) : FnOk P w K mg base CX0 14 f fd ["program", "name", "arg", "cells", "most"] (sp__law_asked K) :=
  FnP.go (k := 13) F sc__law_asked (fun vs H Q E => by first | (unfold sp__law_asked; walk_at "len") | walk_at "len") (t__law_asked K) (fun vs H Q E h => pure__law_asked (K := K) XT vs H Q E h) fun cdv A outer s H E hr =>
    (pss_cons (ps_set (i := 5) sc__law_asked.nd rfl (by first | exact Or.inl rfl | exact Or.inr rfl) pe_non)
      (pss_cons (ps_set (i := 6) sc__law_asked.nd rfl (by first | exact Or.inl rfl | exact Or.inr rfl) pe_non)
      (pss_cons (ps_try_hold (i := 7) (tb := fun W => tAsg (tCallSD (sp_run K) [] (WE (W)) (tCons (tVar 0) (tCons (tVar 1) (tCons (tVar 2) (tCons (tVar 3) (tCons (tVar 4) (tNil))))))) (gName 5)) (ts := fun a cls d => tAsg (tXf a cls d (He.ga K "TooLong") "most" (tVar 7)) (gName 6)) (Wout := fun _ _ _ _ => False) rfl rfl rfl sc__law_asked.nd rfl rfl ⟨rfl, by decide, Or.inl G.TooLong⟩ takes0 (fun W pn xe tk _ => (pss_one (ps_set (i := 5) sc__law_asked.nd rfl (by first | exact Or.inl rfl | exact Or.inr rfl) (pe_cx c_run hr (by omega) (by rfl) tk (pa_cons (pv 0) (pa_cons (pv 1) (pa_cons (pv 2) (pa_cons (pv 3) (pa_cons (pv 4) pa_nil))))))))) (fun a oe cls d pn hz hf => (pss_one (ps_set (i := 6) sc__law_asked.nd rfl (by first | exact Or.inl rfl | exact Or.inr rfl) (pe_xf XT.cl.xf (XT.inn.no "most" (by simp)) hz hf (pv 7))))))
      (pss_one (ps_ret (pe_tup (pa_cons (pv 5) (pa_cons (pv 6) pa_nil))))))))
theorem sc_Outcome___len__ : FnScope ["self"] ["self"] (defScope s_Outcome___len__) := ⟨rfl, rfl, rfl, by decide +kernel, rfl, by decide +kernel, by decide +kernel⟩
theorem ok_Outcome___len__ (F : MtP K "__len__" "Outcome.__len__" s_Outcome___len__ f fd) (G : Gm w K mg dP es nn) (CF : CFs K) : FnOk P w K mg base CX0 1 f fd ["self"] (sp_Outcome___len__ K) :=
  MtP.go (k := 0) F sc_Outcome___len__ (fun vs H Q E => by first | (unfold sp_Outcome___len__; walk_at "len") | walk_at "len") (t_Outcome___len__ K) (fun vs H Q E h => pure_Outcome___len__ (K := K) CF vs H Q E h) fun cdv A outer s H E hr =>
    (pss_one (ps_ret (pe_callB p_lenQ (by rfl) G.len (by decide +kernel) (pa_cons (pe_fld (pv 0) rfl) pa_nil))))
theorem ok_law (F : FnP K "law" s_law [] f fd) (G : Gm w K mg dP es nn) (CF : CFs K) (c__law_program : Cal P w K mg base 11 "_law_program" (sp__law_program K) []) (c__law_cell_at : Cal P w K mg base 1 "_law_cell_at" (sp__law_cell_at K) []) (c__law_well : Cal P w K mg base 2 "_law_well" sp__law_well []) (c__law_draw : Cal P w K mg base 2 "_law_draw" sp__law_draw []) (c__law_number : Cal P w K mg base 3 "_law_number" sp__law_number []) (c__law_cells : Cal P w K mg base 4 "_law_cells" sp__law_cells []) (c__law_ran : Cal P w K mg base 162 "_law_ran" (sp__law_ran K) []) (c__law_asked : Cal P w K mg base 14 "_law_asked" (sp__law_asked K) []) (c__law_held : Cal P w K mg base 1 "_law_held" (sp__law_held K) []) (c__law_gifts : Cal P w K mg base 1 "_law_gifts" (sp__law_gifts K) []) (c__law_wholes : Cal P w K mg base 1 "_law_wholes" (sp__law_wholes K) []) (n_Outcome : LnI P w K mg base 1 (He.ga K "Outcome") (sp_Outcome___len__ K)) : FnOk P w K mg base CX0 163 f fd ["script"] (sp_law K) :=
  FnP.go (k := 162) F sc_law (fun vs H Q E => by first | (unfold sp_law; walk_at "len") | walk_at "len") (t_law K) (fun vs H Q E h => pure_law (K := K) CF vs H Q E h) fun cdv A outer s H E hr =>
    (pss_cons (ps_asg (pe_c c__law_program hr (by omega) (by rfl) (pa_cons (pv 0) (pa_cons pe_int (pa_cons pe_int pa_nil)))) (pg_tup rfl (pgs_cons (pg_name (i := 1) sc_law.nd rfl (by first | exact Or.inl rfl | exact Or.inr rfl)) (pgs_cons (pg_name (i := 2) sc_law.nd rfl (by first | exact Or.inl rfl | exact Or.inr rfl)) pgs_nil))))
      (pss_cons (ps_set (i := 3) sc_law.nd rfl (by first | exact Or.inl rfl | exact Or.inr rfl) (pe_c c__law_well hr (by omega) (by rfl) (pa_cons (pe_op p_mod (pe_c c__law_cell_at hr (by omega) (by rfl) (pa_cons (pv 0) (pa_cons pe_int pa_nil))) (pe_op p_pow pe_int pe_int)) (pa_cons pe_int pa_nil))))
      (pss_cons (ps_set (i := 4) sc_law.nd rfl (by first | exact Or.inl rfl | exact Or.inr rfl) (pe_ix ix_list (pe_lst (pa_cons pe_int (pa_cons pe_int (pa_cons (pe_c c__law_draw hr (by omega) (by rfl) (pa_cons (pv 3) (pa_cons pe_int pa_nil))) pa_nil)))) (pe_c c__law_draw hr (by omega) (by rfl) (pa_cons (pv 3) (pa_cons pe_int pa_nil))) (fun _ _ => rfl)))
      (pss_cons (ps_set (i := 5) sc_law.nd rfl (by first | exact Or.inl rfl | exact Or.inr rfl) (pe_ix ix_list (pe_lst (pa_cons (pe_c c__law_draw hr (by omega) (by rfl) (pa_cons (pv 3) (pa_cons pe_int pa_nil))) (pa_cons (pe_c c__law_number hr (by omega) (by rfl) (pa_cons (pv 3) pa_nil)) pa_nil))) (pe_c c__law_draw hr (by omega) (by rfl) (pa_cons (pv 3) (pa_cons pe_int pa_nil))) (fun _ _ => rfl)))
      (pss_cons (ps_set (i := 6) sc_law.nd rfl (by first | exact Or.inl rfl | exact Or.inr rfl) (pe_c c__law_cells hr (by omega) (by rfl) (pa_cons (pv 3) pa_nil)))
      (pss_cons (ps_set (i := 7) sc_law.nd rfl (by first | exact Or.inl rfl | exact Or.inr rfl) (pe_c c__law_ran hr (by omega) (by rfl) (pa_cons (pv 2) (pa_cons (pe_ix ix_list (pv 1) pe_int (fun _ _ => rfl)) (pa_cons (pv 5) (pa_cons (pv 6) (pa_cons (pv 4) pa_nil)))))))
      (pss_cons (ps_set (i := 8) sc_law.nd rfl (by first | exact Or.inl rfl | exact Or.inr rfl) (pe_tup (pa_cons (pe_lc (own := [("name", 11), ("rows", 12)]) (g := gTup K 2 (gCons (gName 11) (gCons (gName 12) (gNil)))) (tt := tYes) (by rfl) sc_law.nd (pi_list (pv 2)) (blkOk_by (own := [("name", 11), ("rows", 12)]) (N := ["script", "names", "program", "well", "most", "arg", "cells", "state", "handed", "found", "field", "name", "rows", "record"]) (sc := defScope s_law) (by decide +kernel)) (fun _ _ _ _ _ => (pg_tup rfl (pgs_cons (pg_name (i := 11) sc_law.nd rfl (by first | exact Or.inl rfl | exact Or.inr rfl)) (pgs_cons (pg_name (i := 12) sc_law.nd rfl (by first | exact Or.inl rfl | exact Or.inr rfl)) pgs_nil)))) (fun _ _ _ _ _ => pts_nil) (fun _ _ _ _ _ => (pe_tup (pa_cons (pv 11) (pa_cons (pe_callTy p_listQ (by rfl) G.list (by decide +kernel) (pa_cons (pv 12) pa_nil)) pa_nil))))) (pa_cons (pe_callTy p_listQ (by rfl) G.list (by decide +kernel) (pa_cons (pv 6) pa_nil)) pa_nil))))
      (pss_cons (ps_asg (pe_c c__law_asked hr (by omega) (by rfl) (pa_cons (pv 2) (pa_cons (pe_ix ix_list (pv 1) pe_int (fun _ _ => rfl)) (pa_cons (pv 5) (pa_cons (pv 6) (pa_cons (pv 4) pa_nil)))))) (pg_tup rfl (pgs_cons (pg_name (i := 9) sc_law.nd rfl (by first | exact Or.inl rfl | exact Or.inr rfl)) (pgs_cons (pg_name (i := 10) sc_law.nd rfl (by first | exact Or.inl rfl | exact Or.inr rfl)) pgs_nil))))
      (pss_cons (ps_if (pt_cmpR (p_neD hr.units) (pv 8) (pe_tup (pa_cons (pv 2) (pa_cons (pv 6) pa_nil))) (nomark _)) (pss_one (ps_ret pe_bl)) pss_nil)
      (pss_cons (ps_if (pt_val (pe_dget (hu_of hr) (pv 7) pe_str (fun _ _ => rfl))) (pss_one (ps_ret (pe_and (pe_cmpR p_isN (pv 9) pe_non (nomark _)) (pe_one (pe_cmpR op_eq (pv 10) (pv 4) (nomark _)))))) pss_nil)
      (pss_cons (ps_if (PW.pt (pw_or (pt_cmpR p_notN (pv 10) pe_non (nomark _)) (pw_or1 (pt_cmpR p_isN (pv 9) pe_non (nomark _))))) (pss_one (ps_ret pe_bl)) pss_nil)
      (pss_cons (ps_if (pt_cmpR (p_neD hr.units) (pe_lst (pa_cons (pe_fld (pv 9) rfl) (pa_cons (pe_fld (pv 9) rfl) pa_nil))) (pe_lst (pa_cons (pe_c c__law_held hr (by omega) (by rfl) (pa_cons (pv 7) pa_nil)) (pa_cons (pe_c c__law_gifts hr (by omega) (by rfl) (pa_cons (pv 7) pa_nil)) pa_nil))) (nomark _)) (pss_one (ps_ret pe_bl)) pss_nil)
      (pss_cons (ps_if (PW.pt (pw_or (pt_cmpR (p_neD hr.units) (pe_fld (pv 9) rfl) (pe_lc (own := [("record", 13)]) (g := gName 13) (tt := tYes) (by rfl) sc_law.nd (pi_list (pe_dget (hu_of hr) (pv 7) pe_str (fun _ _ => rfl))) (blkOk_by (own := [("record", 13)]) (N := ["script", "names", "program", "well", "most", "arg", "cells", "state", "handed", "found", "field", "name", "rows", "record"]) (sc := defScope s_law) (by decide +kernel)) (fun _ _ _ _ _ => (pg_name (i := 13) sc_law.nd rfl (by first | exact Or.inl rfl | exact Or.inr rfl))) (fun _ _ _ _ _ => pts_nil) (fun _ _ _ _ _ => (pe_ix ix_list (pv 13) pe_int (fun _ _ => rfl)))) (nomark _)) (pw_or1 (pt_cmpR op_ne (pe_fld (pv 9) rfl) (pe_dget (hu_of hr) (pv 7) pe_str (fun _ _ => rfl)) (nomark _))))) (pss_one (ps_ret pe_bl)) pss_nil)
      (pss_one (ps_ret (pe_and (pe_c c__law_wholes hr (by omega) (by rfl) (pa_cons (pe_op op_cat (pe_op op_cat (pe_fld (pv 9) rfl) (pe_fld (pv 9) rfl)) (pe_fld (pv 9) rfl)) pa_nil)) (pe_one (pe_cmpR op_eq (pe_callB (p_lenI n_Outcome hr (by decide)) (by rfl) G.len (by decide +kernel) (pa_cons (pv 9) pa_nil)) (pe_callB p_lenQ (by rfl) G.len (by decide +kernel) (pa_cons (pe_dget (hu_of hr) (pv 7) pe_str (fun _ _ => rfl)) pa_nil)) (nomark _)))))))))))))))))))
theorem sc_NoHelper___init__ : FnScope ["self", "name"] ["self", "name"] (defScope s_NoHelper___init__) := ⟨rfl, rfl, rfl, by decide +kernel, rfl, by decide +kernel, by decide +kernel⟩
theorem mk_NoHelper (F : MtP K "__init__" "NoHelper.__init__" s_NoHelper___init__ (He.ma K (He.ga K "NoHelper") "__init__") fd) (X : XCl K (He.ga K "NoHelper")) (I : XIn K (He.ga K "NoHelper") ["name"]) (g : mg "NoHelper" = some (.ref (He.ga K "NoHelper"))) : MkX P w K mg base "NoHelper" (He.ga K "NoHelper") ["name"] :=
  ⟨X.ox, I.no, g, _, fd, ["self", "name"], I.at_, I.ty, MtP.go (k := 0) F sc_NoHelper___init__ (fun vs H Q E h => by obtain ⟨a, xs, rfl, hl, _⟩ := h; simp at hl ⊢; omega) (t_xinit1 K "name") (fun vs H Q E h => pure_xinit1 vs H Q E h) (fun cdv A outer s H E hr => (pss_one (ps_ost (pv 0) (pv 1)))), F.bindsN fun _ _ _ _ _ _ us hl => match us, hl with | [_, _], _ => rfl⟩
theorem sc_NoProgram___init__ : FnScope ["self", "helper", "at"] ["self", "helper", "at"] (defScope s_NoProgram___init__) := ⟨rfl, rfl, rfl, by decide +kernel, rfl, by decide +kernel, by decide +kernel⟩
theorem mk_NoProgram (F : MtP K "__init__" "NoProgram.__init__" s_NoProgram___init__ (He.ma K (He.ga K "NoProgram") "__init__") fd) (X : XCl K (He.ga K "NoProgram")) (I : XIn K (He.ga K "NoProgram") ["helper", "at"]) (g : mg "NoProgram" = some (.ref (He.ga K "NoProgram"))) : MkX P w K mg base "NoProgram" (He.ga K "NoProgram") ["helper", "at"] :=
  ⟨X.ox, I.no, g, _, fd, ["self", "helper", "at"], I.at_, I.ty, MtP.go (k := 0) F sc_NoProgram___init__ (fun vs H Q E h => by obtain ⟨a, xs, rfl, hl, _⟩ := h; simp at hl ⊢; omega) (t_xinit2 K "helper" "at") (fun vs H Q E h => pure_xinit2 vs H Q E h) (fun cdv A outer s H E hr => (pss_cons (ps_ost (pv 0) (pv 1)) (pss_one (ps_ost (pv 0) (pv 2))))), F.bindsN fun _ _ _ _ _ _ us hl => match us, hl with | [_, _, _], _ => rfl⟩
theorem sc_TooLong___init__ : FnScope ["self", "most"] ["self", "most"] (defScope s_TooLong___init__) := ⟨rfl, rfl, rfl, by decide +kernel, rfl, by decide +kernel, by decide +kernel⟩
theorem mk_TooLong (F : MtP K "__init__" "TooLong.__init__" s_TooLong___init__ (He.ma K (He.ga K "TooLong") "__init__") fd) (X : XCl K (He.ga K "TooLong")) (I : XIn K (He.ga K "TooLong") ["most"]) (g : mg "TooLong" = some (.ref (He.ga K "TooLong"))) : MkX P w K mg base "TooLong" (He.ga K "TooLong") ["most"] :=
  ⟨X.ox, I.no, g, _, fd, ["self", "most"], I.at_, I.ty, MtP.go (k := 0) F sc_TooLong___init__ (fun vs H Q E h => by obtain ⟨a, xs, rfl, hl, _⟩ := h; simp at hl ⊢; omega) (t_xinit1 K "most") (fun vs H Q E h => pure_xinit1 vs H Q E h) (fun cdv A outer s H E hr => (pss_one (ps_ost (pv 0) (pv 1)))), F.bindsN fun _ _ _ _ _ _ us hl => match us, hl with | [_, _], _ => rfl⟩
end
theorem facts {P : Program} {w : World} {K : PySem.W.Frag} {h : Heap} {mg : Str → Option Value} {f : Addr} (X : K.In h) (G0 : h.Ns mainGlobals mg) (hfa : mg ("law" : Str) = some (.ref f)) (c0 : He.SaysX fa fn ts [] ex w h K) :
    ∃ fd : FuncData, (∀ (s : Shared) (v : Value), BindsTo s fd ⟨[v], []⟩ [("script", v)]) ∧ ∀ base : Heap, K.In base → base.Ns mainGlobals mg → FnOk P w K mg base CX0 163 f fd ["script"] (sp_law K) := by
  have c := c0.t.d
  have hd : He.dicW K (He.ga K "PARTS") = some (He.keysIn w.params partK) := (List.cons.inj (congrArg (fun z : He.AlT => z.2) c0.t)).1
  have c0m : (He.valsB K (He.ga K "PARTS") partV && (xtOk K && (xclB K (He.ga K "NoHelper") && (xinB K (He.ga K "NoHelper") ["name"] && (xclB K (He.ga K "NoProgram") && (xinB K (He.ga K "NoProgram") ["helper", "at"] && (xclB K (He.ga K "TooLong") && (xinB K (He.ga K "TooLong") ["most"])))))))) = true := c0.more
  obtain ⟨c0more, c0r0⟩ := Bool.and_eq_true_iff.mp c0m
  obtain ⟨c0t, c0r1⟩ := Bool.and_eq_true_iff.mp c0r0
  obtain ⟨xc_NoHelper, c0r2⟩ := Bool.and_eq_true_iff.mp c0r1
  obtain ⟨xi_NoHelper, c0r3⟩ := Bool.and_eq_true_iff.mp c0r2
  obtain ⟨xc_NoProgram, c0r4⟩ := Bool.and_eq_true_iff.mp c0r3
  obtain ⟨xi_NoProgram, c0r5⟩ := Bool.and_eq_true_iff.mp c0r4
  obtain ⟨xc_TooLong, c0r6⟩ := Bool.and_eq_true_iff.mp c0r5
  have xi_TooLong := c0r6
  have XT : XTl K := xtOk_ok c0t
  have T : Parts K w (He.ga K "PARTS") := parts_of hd c0more
  obtain ⟨es, nn, kd⟩ := T.kd
  obtain ⟨fd_is_whole, F_is_whole⟩ : ∃ fd, FnP K "is_whole" s_is_whole [] (He.ga K "is_whole") fd := c.def_ 0 (d := d_is_whole) rfl
  obtain ⟨fd_is_name, F_is_name⟩ : ∃ fd, FnP K "is_name" s_is_name [] (He.ga K "is_name") fd := c.def_ 1 (d := d_is_name) rfl
  obtain ⟨fd_is_expression, F_is_expression⟩ : ∃ fd, FnP K "is_expression" s_is_expression [.int 5] (He.ga K "is_expression") fd := c.def_ 2 (d := d_is_expression) rfl
  obtain ⟨fd_is_step, F_is_step⟩ : ∃ fd, FnP K "is_step" s_is_step [] (He.ga K "is_step") fd := c.def_ 3 (d := d_is_step) rfl
  obtain ⟨fd_has_form, F_has_form⟩ : ∃ fd, FnP K "has_form" s_has_form [] (He.ga K "has_form") fd := c.def_ 4 (d := d_has_form) rfl
  obtain ⟨fd_first_wrong, F_first_wrong⟩ : ∃ fd, FnP K "first_wrong" s_first_wrong [] (He.ga K "first_wrong") fd := c.def_ 5 (d := d_first_wrong) rfl
  obtain ⟨fd_check, F_check⟩ : ∃ fd, FnP K "check" s_check [] (He.ga K "check") fd := c.def_ 6 (d := d_check) rfl
  obtain ⟨fd_reckon, F_reckon⟩ : ∃ fd, FnP K "reckon" s_reckon [.non] (He.ga K "reckon") fd := c.def_ 7 (d := d_reckon) rfl
  obtain ⟨fd_start_cells, F_start_cells⟩ : ∃ fd, FnP K "start_cells" s_start_cells [] (He.ga K "start_cells") fd := c.def_ 8 (d := d_start_cells) rfl
  obtain ⟨fd_not_nought, F_not_nought⟩ : ∃ fd, FnP K "not_nought" s_not_nought [] (He.ga K "not_nought") fd := c.def_ 9 (d := d_not_nought) rfl
  obtain ⟨fd_helper_rows, F_helper_rows⟩ : ∃ fd, FnP K "helper_rows" s_helper_rows [] (He.ga K "helper_rows") fd := c.def_ 10 (d := d_helper_rows) rfl
  obtain ⟨fd_step_done, F_step_done⟩ : ∃ fd, FnP K "step_done" s_step_done [] (He.ga K "step_done") fd := c.def_ 11 (d := d_step_done) rfl
  obtain ⟨fd_trace, F_trace⟩ : ∃ fd, FnP K "trace" s_trace [] (He.ga K "trace") fd := c.def_ 12 (d := d_trace) rfl
  obtain ⟨fd_run, F_run⟩ : ∃ fd, FnP K "run" s_run [.str "main", .int 0, .non, .int 2000] (He.ga K "run") fd := c.def_ 13 (d := d_run) rfl
  obtain ⟨fd__law_cell_at, F__law_cell_at⟩ : ∃ fd, FnP K "_law_cell_at" s__law_cell_at [] (He.ga K "_law_cell_at") fd := c.def_ 14 (d := d__law_cell_at) rfl
  obtain ⟨fd__law_stir, F__law_stir⟩ : ∃ fd, FnP K "_law_stir" s__law_stir [] (He.ga K "_law_stir") fd := c.def_ 15 (d := d__law_stir) rfl
  obtain ⟨fd__law_well, F__law_well⟩ : ∃ fd, FnP K "_law_well" s__law_well [] (He.ga K "_law_well") fd := c.def_ 16 (d := d__law_well) rfl
  obtain ⟨fd__law_draw, F__law_draw⟩ : ∃ fd, FnP K "_law_draw" s__law_draw [] (He.ga K "_law_draw") fd := c.def_ 17 (d := d__law_draw) rfl
  obtain ⟨fd__law_new_name, F__law_new_name⟩ : ∃ fd, FnP K "_law_new_name" s__law_new_name [] (He.ga K "_law_new_name") fd := c.def_ 18 (d := d__law_new_name) rfl
  obtain ⟨fd__law_number, F__law_number⟩ : ∃ fd, FnP K "_law_number" s__law_number [] (He.ga K "_law_number") fd := c.def_ 19 (d := d__law_number) rfl
  obtain ⟨fd__law_expression, F__law_expression⟩ : ∃ fd, FnP K "_law_expression" s__law_expression [] (He.ga K "_law_expression") fd := c.def_ 20 (d := d__law_expression) rfl
  obtain ⟨fd__law_step, F__law_step⟩ : ∃ fd, FnP K "_law_step" s__law_step [] (He.ga K "_law_step") fd := c.def_ 21 (d := d__law_step) rfl
  obtain ⟨fd__law_program, F__law_program⟩ : ∃ fd, FnP K "_law_program" s__law_program [] (He.ga K "_law_program") fd := c.def_ 22 (d := d__law_program) rfl
  obtain ⟨fd__law_worth, F__law_worth⟩ : ∃ fd, FnP K "_law_worth" s__law_worth [] (He.ga K "_law_worth") fd := c.def_ 23 (d := d__law_worth) rfl
  obtain ⟨fd__law_made, F__law_made⟩ : ∃ fd, FnP K "_law_made" s__law_made [] (He.ga K "_law_made") fd := c.def_ 24 (d := d__law_made) rfl
  obtain ⟨fd__law_do, F__law_do⟩ : ∃ fd, FnP K "_law_do" s__law_do [] (He.ga K "_law_do") fd := c.def_ 25 (d := d__law_do) rfl
  obtain ⟨fd__law_ran, F__law_ran⟩ : ∃ fd, FnP K "_law_ran" s__law_ran [] (He.ga K "_law_ran") fd := c.def_ 26 (d := d__law_ran) rfl
  obtain ⟨fd__law_cells, F__law_cells⟩ : ∃ fd, FnP K "_law_cells" s__law_cells [] (He.ga K "_law_cells") fd := c.def_ 27 (d := d__law_cells) rfl
  obtain ⟨fd__law_held, F__law_held⟩ : ∃ fd, FnP K "_law_held" s__law_held [] (He.ga K "_law_held") fd := c.def_ 28 (d := d__law_held) rfl
  obtain ⟨fd__law_gifts, F__law_gifts⟩ : ∃ fd, FnP K "_law_gifts" s__law_gifts [] (He.ga K "_law_gifts") fd := c.def_ 29 (d := d__law_gifts) rfl
  obtain ⟨fd__law_wholes, F__law_wholes⟩ : ∃ fd, FnP K "_law_wholes" s__law_wholes [] (He.ga K "_law_wholes") fd := c.def_ 30 (d := d__law_wholes) rfl
  obtain ⟨fd__law_asked, F__law_asked⟩ : ∃ fd, FnP K "_law_asked" s__law_asked [] (He.ga K "_law_asked") fd := c.def_ 31 (d := d__law_asked) rfl
  obtain ⟨fd_law, F_law⟩ : ∃ fd, FnP K "law" s_law [] (He.ga K "law") fd := c.def_ 32 (d := d_law) rfl
  obtain ⟨fd_NoHelper___init__, F_NoHelper___init__⟩ : ∃ fd, MtP K "__init__" "NoHelper.__init__" s_NoHelper___init__ (He.ma K (He.ga K "NoHelper") "__init__") fd := c.def_ 33 (d := d_NoHelper___init__) rfl
  obtain ⟨fd_NoProgram___init__, F_NoProgram___init__⟩ : ∃ fd, MtP K "__init__" "NoProgram.__init__" s_NoProgram___init__ (He.ma K (He.ga K "NoProgram") "__init__") fd := c.def_ 34 (d := d_NoProgram___init__) rfl
  obtain ⟨fd_TooLong___init__, F_TooLong___init__⟩ : ∃ fd, MtP K "__init__" "TooLong.__init__" s_TooLong___init__ (He.ma K (He.ga K "TooLong") "__init__") fd := c.def_ 35 (d := d_TooLong___init__) rfl
  obtain ⟨fd_Record___init__, F_Record___init__⟩ : ∃ fd, MtP K "__init__" "Record.__init__" s_Record___init__ (He.ma K (He.ga K "Record") "__init__") fd := c.def_ 36 (d := d_Record___init__) rfl
  obtain ⟨fd_Frame___init__, F_Frame___init__⟩ : ∃ fd, MtP K "__init__" "Frame.__init__" s_Frame___init__ (He.ma K (He.ga K "Frame") "__init__") fd := c.def_ 37 (d := d_Frame___init__) rfl
  obtain ⟨fd_Outcome___init__, F_Outcome___init__⟩ : ∃ fd, MtP K "__init__" "Outcome.__init__" s_Outcome___init__ (He.ma K (He.ga K "Outcome") "__init__") fd := c.def_ 38 (d := d_Outcome___init__) rfl
  obtain ⟨fd_Outcome___len__, F_Outcome___len__⟩ : ∃ fd, MtP K "__len__" "Outcome.__len__" s_Outcome___len__ (He.ma K (He.ga K "Outcome") "__len__") fd := c.def_ 39 (d := d_Outcome___len__) rfl
  have CF : CFs K := ⟨⟨He.cls_ok (c.fact 57 (f := .cls "Frame") rfl), He.noat_ok (c.fact 58 (f := .noat "Frame" "number") rfl), He.noat_ok (c.fact 59 (f := .noat "Frame" "path") rfl), He.noat_ok (c.fact 60 (f := .noat "Frame" "rows") rfl), He.noat_ok (c.fact 61 (f := .noat "Frame" "arg") rfl), He.noat_ok (c.fact 62 (f := .noat "Frame" "at") rfl), He.noat_ok (c.fact 63 (f := .noat "Frame" "past") rfl), He.noat_ok (c.fact 64 (f := .noat "Frame" "born") rfl)⟩, ⟨He.cls_ok (c.fact 65 (f := .cls "Record") rfl), He.noat_ok (c.fact 66 (f := .noat "Record" "mark") rfl), He.noat_ok (c.fact 67 (f := .noat "Record" "word") rfl), He.noat_ok (c.fact 68 (f := .noat "Record" "doer") rfl), He.noat_ok (c.fact 69 (f := .noat "Record" "child") rfl), He.noat_ok (c.fact 70 (f := .noat "Record" "reads") rfl), He.noat_ok (c.fact 71 (f := .noat "Record" "writes") rfl)⟩, ⟨He.cls_ok (c.fact 72 (f := .cls "Outcome") rfl), He.noat_ok (c.fact 73 (f := .noat "Outcome" "cells") rfl), He.noat_ok (c.fact 74 (f := .noat "Outcome" "given") rfl), He.noat_ok (c.fact 75 (f := .noat "Outcome" "steps") rfl), He.noat_ok (c.fact 76 (f := .noat "Outcome" "deepest") rfl)⟩⟩
  have G : Gm w K mg (He.ga K "PARTS") es nn := ⟨He.free_ok X G0 (c.fact 40 (f := .free "ValueError") rfl), He.free_ok X G0 (c.fact 41 (f := .free "all") rfl), He.free_ok X G0 (c.fact 42 (f := .free "isinstance") rfl), He.free_ok X G0 (c.fact 43 (f := .free "int") rfl), He.free_ok X G0 (c.fact 44 (f := .free "min") rfl), He.free_ok X G0 (c.fact 45 (f := .free "sorted") rfl), He.free_ok X G0 (c.fact 46 (f := .free "dict") rfl), He.free_ok X G0 (c.fact 47 (f := .free "range") rfl), He.free_ok X G0 (c.fact 48 (f := .free "max") rfl), He.free_ok X G0 (c.fact 49 (f := .free "len") rfl), He.free_ok X G0 (c.fact 50 (f := .free "list") rfl), He.free_ok X G0 (c.fact 51 (f := .free "enumerate") rfl), He.free_ok X G0 (c.fact 52 (f := .free "set") rfl), He.free_ok X G0 (c.fact 53 (f := .free "bool") rfl), He.free_ok X G0 (c.fact 54 (f := .free "str") rfl), He.free_ok X G0 (c.fact 55 (f := .free "tuple") rfl), He.free_ok X G0 (c.fact 56 (f := .free "zip") rfl), (let ⟨t, e⟩ := He.str_ok X G0 (c.fact 81 (f := .str "LETTERS" letters) rfl); ⟨_, e, t, rfl⟩), (let ⟨t, e⟩ := He.int_ok X G0 (c.fact 82 (f := .int "LONGEST_NAME" 8) rfl); ⟨_, e, t, rfl⟩), ⟨_, He.glo_ok X G0 (c.fact 83 (f := .glo "PARTS") rfl), rfl⟩, He.glo_ok X G0 (c.fact 33 (f := .glo "WorkError") rfl), He.glo_ok X G0 (c.fact 34 (f := .glo "NoProgram") rfl), He.glo_ok X G0 (c.fact 35 (f := .glo "NoHelper") rfl), He.glo_ok X G0 (c.fact 36 (f := .glo "TooLong") rfl), He.glo_ok X G0 (c.fact 37 (f := .glo "Outcome") rfl), He.glo_ok X G0 (c.fact 38 (f := .glo "Record") rfl), He.glo_ok X G0 (c.fact 39 (f := .glo "Frame") rfl), kd⟩
  have g_is_whole := He.glo_ok X G0 (c.fact 0 (f := .glo "is_whole") rfl)
  have g_is_name := He.glo_ok X G0 (c.fact 1 (f := .glo "is_name") rfl)
  have g_is_expression := He.glo_ok X G0 (c.fact 2 (f := .glo "is_expression") rfl)
  have g_is_step := He.glo_ok X G0 (c.fact 3 (f := .glo "is_step") rfl)
  have g_has_form := He.glo_ok X G0 (c.fact 4 (f := .glo "has_form") rfl)
  have g_first_wrong := He.glo_ok X G0 (c.fact 5 (f := .glo "first_wrong") rfl)
  have g_check := He.glo_ok X G0 (c.fact 6 (f := .glo "check") rfl)
  have g_reckon := He.glo_ok X G0 (c.fact 7 (f := .glo "reckon") rfl)
  have g_start_cells := He.glo_ok X G0 (c.fact 8 (f := .glo "start_cells") rfl)
  have g_not_nought := He.glo_ok X G0 (c.fact 9 (f := .glo "not_nought") rfl)
  have g_helper_rows := He.glo_ok X G0 (c.fact 10 (f := .glo "helper_rows") rfl)
  have g_step_done := He.glo_ok X G0 (c.fact 11 (f := .glo "step_done") rfl)
  have g_trace := He.glo_ok X G0 (c.fact 12 (f := .glo "trace") rfl)
  have g_run := He.glo_ok X G0 (c.fact 13 (f := .glo "run") rfl)
  have g__law_cell_at := He.glo_ok X G0 (c.fact 14 (f := .glo "_law_cell_at") rfl)
  have g__law_stir := He.glo_ok X G0 (c.fact 15 (f := .glo "_law_stir") rfl)
  have g__law_well := He.glo_ok X G0 (c.fact 16 (f := .glo "_law_well") rfl)
  have g__law_draw := He.glo_ok X G0 (c.fact 17 (f := .glo "_law_draw") rfl)
  have g__law_new_name := He.glo_ok X G0 (c.fact 18 (f := .glo "_law_new_name") rfl)
  have g__law_number := He.glo_ok X G0 (c.fact 19 (f := .glo "_law_number") rfl)
  have g__law_expression := He.glo_ok X G0 (c.fact 20 (f := .glo "_law_expression") rfl)
  have g__law_step := He.glo_ok X G0 (c.fact 21 (f := .glo "_law_step") rfl)
  have g__law_program := He.glo_ok X G0 (c.fact 22 (f := .glo "_law_program") rfl)
  have g__law_worth := He.glo_ok X G0 (c.fact 23 (f := .glo "_law_worth") rfl)
  have g__law_made := He.glo_ok X G0 (c.fact 24 (f := .glo "_law_made") rfl)
  have g__law_do := He.glo_ok X G0 (c.fact 25 (f := .glo "_law_do") rfl)
  have g__law_ran := He.glo_ok X G0 (c.fact 26 (f := .glo "_law_ran") rfl)
  have g__law_cells := He.glo_ok X G0 (c.fact 27 (f := .glo "_law_cells") rfl)
  have g__law_held := He.glo_ok X G0 (c.fact 28 (f := .glo "_law_held") rfl)
  have g__law_gifts := He.glo_ok X G0 (c.fact 29 (f := .glo "_law_gifts") rfl)
  have g__law_wholes := He.glo_ok X G0 (c.fact 30 (f := .glo "_law_wholes") rfl)
  have g__law_asked := He.glo_ok X G0 (c.fact 31 (f := .glo "_law_asked") rfl)
  have g_law := He.glo_ok X G0 (c.fact 32 (f := .glo "law") rfl)
  have e := hfa.symm.trans g_law
  cases e
  have b := FunD.bindsA (ps := ["script"]) F_law fun _ _ _ _ _ _ us hl => match us, hl with | [_], _ => rfl
  refine ⟨fd_law, fun s v => b s [v] rfl, fun base _ _ => ?_⟩
  have m_NoHelper := mk_NoHelper (P := P) (w := w) (base := base) F_NoHelper___init__ (xclB_ok xc_NoHelper) (xinB_ok xi_NoHelper) G.NoHelper
  have m_NoProgram := mk_NoProgram (P := P) (w := w) (base := base) F_NoProgram___init__ (xclB_ok xc_NoProgram) (xinB_ok xi_NoProgram) G.NoProgram
  have m_TooLong := mk_TooLong (P := P) (w := w) (base := base) F_TooLong___init__ (xclB_ok xc_TooLong) (xinB_ok xi_TooLong) G.TooLong
  have o_is_whole := ok_is_whole (P := P) (base := base) F_is_whole G 
  have c_is_whole := F_is_whole.cal o_is_whole g_is_whole fun _ _ _ _ _ _ us hl => match us, hl with | [_], _ => rfl
  have o_is_name := ok_is_name (P := P) (base := base) F_is_name G 
  have c_is_name := F_is_name.cal o_is_name g_is_name fun _ _ _ _ _ _ us hl => match us, hl with | [_], _ => rfl
  have o_is_expression := ok_is_expression (P := P) (base := base) F_is_expression G T g_is_expression c_is_whole 6
  have c_is_expression_d := FnP.cald 1 0 F_is_expression o_is_expression g_is_expression (by simp) rfl fun _ _ _ _ _ _ _ us its h1 h2 => match us, its, h1, h2 with | [_], [_], _, _ => ⟨_, rfl, rfl⟩
  have o_is_step := ok_is_step (P := P) (base := base) F_is_step G c_is_expression_d c_is_whole c_is_name
  have c_is_step := F_is_step.cal o_is_step g_is_step fun _ _ _ _ _ _ us hl => match us, hl with | [_, _, _], _ => rfl
  have o_has_form := ok_has_form (P := P) (base := base) F_has_form G c_is_name
  have c_has_form := F_has_form.cal o_has_form g_has_form fun _ _ _ _ _ _ us hl => match us, hl with | [_], _ => rfl
  have o_first_wrong := ok_first_wrong (P := P) (base := base) F_first_wrong G c_has_form c_is_step
  have c_first_wrong := F_first_wrong.cal o_first_wrong g_first_wrong fun _ _ _ _ _ _ us hl => match us, hl with | [_], _ => rfl
  have o_check := ok_check (P := P) (base := base) F_check G c_first_wrong m_NoProgram
  have c_check := F_check.calX o_check g_check fun _ _ _ _ _ _ us hl => match us, hl with | [_], _ => rfl
  have o_reckon := ok_reckon (P := P) (base := base) F_reckon G g_reckon  6
  have c_reckon := FnP.cald 4 1 F_reckon o_reckon g_reckon (by simp) rfl fun _ _ _ _ _ _ _ us its h1 h2 => match us, its, h1, h2 with | [_, _, _, _], [_], _, _ => ⟨_, rfl, rfl⟩
  have o_start_cells := ok_start_cells (P := P) (base := base) F_start_cells G 
  have c_start_cells := F_start_cells.cal o_start_cells g_start_cells fun _ _ _ _ _ _ us hl => match us, hl with | [_], _ => rfl
  have o_not_nought := ok_not_nought (P := P) (base := base) F_not_nought G 
  have c_not_nought := F_not_nought.cal o_not_nought g_not_nought fun _ _ _ _ _ _ us hl => match us, hl with | [_], _ => rfl
  have o_helper_rows := ok_helper_rows (P := P) (base := base) F_helper_rows G m_NoHelper
  have c_helper_rows := F_helper_rows.calX o_helper_rows g_helper_rows fun _ _ _ _ _ _ us hl => match us, hl with | [_, _], _ => rfl
  have o_Record___init__ := ok_Record___init__ (P := P) (base := base) F_Record___init__ G CF
  have i_Record := MtP.mki (C := "Record") F_Record___init__ (He.mkr_ok (c.fact 77 (f := .mkr "Record") rfl)) o_Record___init__ G.Record fun _ _ _ _ _ _ us hl => match us, hl with | [_, _, _, _, _], _ => rfl
  have o_step_done := ok_step_done (P := P) (base := base) F_step_done G CF i_Record c_reckon
  have c_step_done := F_step_done.cal o_step_done g_step_done fun _ _ _ _ _ _ us hl => match us, hl with | [_, _, _], _ => rfl
  have o_Frame___init__ := ok_Frame___init__ (P := P) (base := base) F_Frame___init__ G CF
  have i_Frame := MtP.mki (C := "Frame") F_Frame___init__ (He.mkr_ok (c.fact 78 (f := .mkr "Frame") rfl)) o_Frame___init__ G.Frame fun _ _ _ _ _ _ us hl => match us, hl with | [_, _, _, _, _], _ => rfl
  have o_trace := ok_trace (P := P) (base := base) F_trace G CF c_check c_helper_rows i_Frame c_start_cells c_step_done m_TooLong
  have c_trace := F_trace.calX o_trace g_trace fun _ _ _ _ _ _ us hl => match us, hl with | [_, _, _, _, _], _ => rfl
  have o_Outcome___init__ := ok_Outcome___init__ (P := P) (base := base) F_Outcome___init__ G CF
  have i_Outcome := MtP.mki (C := "Outcome") F_Outcome___init__ (He.mkr_ok (c.fact 79 (f := .mkr "Outcome") rfl)) o_Outcome___init__ G.Outcome fun _ _ _ _ _ _ us hl => match us, hl with | [_, _, _, _, _], _ => rfl
  have o_run := ok_run (P := P) (base := base) F_run G CF c_trace c_not_nought i_Outcome
  have c_run := FnP.caldX 5 4 F_run o_run g_run (by simp) rfl fun _ _ _ _ _ _ _ us its h1 h2 => match us, its, h1, h2 with | [_, _, _, _, _], [_, _, _, _], _, _ => ⟨_, rfl, rfl⟩
  have o__law_cell_at := ok__law_cell_at (P := P) (base := base) F__law_cell_at G 
  have c__law_cell_at := F__law_cell_at.cal o__law_cell_at g__law_cell_at fun _ _ _ _ _ _ us hl => match us, hl with | [_, _], _ => rfl
  have o__law_stir := ok__law_stir (P := P) (base := base) F__law_stir G 
  have c__law_stir := F__law_stir.cal o__law_stir g__law_stir fun _ _ _ _ _ _ us hl => match us, hl with | [_, _], _ => rfl
  have o__law_well := ok__law_well (P := P) (base := base) F__law_well G c__law_stir
  have c__law_well := F__law_well.cal o__law_well g__law_well fun _ _ _ _ _ _ us hl => match us, hl with | [_, _], _ => rfl
  have o__law_draw := ok__law_draw (P := P) (base := base) F__law_draw G c__law_stir
  have c__law_draw := F__law_draw.cal o__law_draw g__law_draw fun _ _ _ _ _ _ us hl => match us, hl with | [_, _], _ => rfl
  have o__law_new_name := ok__law_new_name (P := P) (base := base) F__law_new_name G c__law_draw
  have c__law_new_name := F__law_new_name.cal o__law_new_name g__law_new_name fun _ _ _ _ _ _ us hl => match us, hl with | [_, _], _ => rfl
  have o__law_number := ok__law_number (P := P) (base := base) F__law_number G c__law_draw
  have c__law_number := F__law_number.cal o__law_number g__law_number fun _ _ _ _ _ _ us hl => match us, hl with | [_], _ => rfl
  have o__law_expression := ok__law_expression (P := P) (base := base) F__law_expression G g__law_expression c__law_draw c__law_number 6
  have c__law_expression := F__law_expression.cal o__law_expression g__law_expression fun _ _ _ _ _ _ us hl => match us, hl with | [_, _], _ => rfl
  have o__law_step := ok__law_step (P := P) (base := base) F__law_step G c__law_draw c__law_expression
  have c__law_step := F__law_step.cal o__law_step g__law_step fun _ _ _ _ _ _ us hl => match us, hl with | [_, _, _, _, _, _], _ => rfl
  have o__law_program := ok__law_program (P := P) (base := base) F__law_program G c__law_cell_at c__law_well c__law_draw c__law_new_name c__law_step
  have c__law_program := F__law_program.cal o__law_program g__law_program fun _ _ _ _ _ _ us hl => match us, hl with | [_, _, _], _ => rfl
  have o__law_worth := ok__law_worth (P := P) (base := base) F__law_worth G g__law_worth  6
  have c__law_worth := F__law_worth.cal o__law_worth g__law_worth fun _ _ _ _ _ _ us hl => match us, hl with | [_, _, _, _], _ => rfl
  have o__law_made := ok__law_made (P := P) (base := base) F__law_made G c__law_worth
  have c__law_made := F__law_made.cal o__law_made g__law_made fun _ _ _ _ _ _ us hl => match us, hl with | [_, _, _, _], _ => rfl
  have o__law_do := ok__law_do (P := P) (base := base) F__law_do G g__law_do c__law_made c__law_worth 152
  have c__law_do := F__law_do.cal o__law_do g__law_do fun _ _ _ _ _ _ us hl => match us, hl with | [_, _, _, _], _ => rfl
  have o__law_ran := ok__law_ran (P := P) (base := base) F__law_ran G c__law_do
  have c__law_ran := F__law_ran.cal o__law_ran g__law_ran fun _ _ _ _ _ _ us hl => match us, hl with | [_, _, _, _, _], _ => rfl
  have o__law_cells := ok__law_cells (P := P) (base := base) F__law_cells G c__law_draw c__law_number
  have c__law_cells := F__law_cells.cal o__law_cells g__law_cells fun _ _ _ _ _ _ us hl => match us, hl with | [_], _ => rfl
  have o__law_held := ok__law_held (P := P) (base := base) F__law_held G 
  have c__law_held := F__law_held.cal o__law_held g__law_held fun _ _ _ _ _ _ us hl => match us, hl with | [_], _ => rfl
  have o__law_gifts := ok__law_gifts (P := P) (base := base) F__law_gifts G 
  have c__law_gifts := F__law_gifts.cal o__law_gifts g__law_gifts fun _ _ _ _ _ _ us hl => match us, hl with | [_], _ => rfl
  have o__law_wholes := ok__law_wholes (P := P) (base := base) F__law_wholes G 
  have c__law_wholes := F__law_wholes.cal o__law_wholes g__law_wholes fun _ _ _ _ _ _ us hl => match us, hl with | [_], _ => rfl
  have o__law_asked := ok__law_asked (P := P) (base := base) F__law_asked G XT c_run
  have c__law_asked := F__law_asked.cal o__law_asked g__law_asked fun _ _ _ _ _ _ us hl => match us, hl with | [_, _, _, _, _], _ => rfl
  have o_Outcome___len__ := ok_Outcome___len__ (P := P) (base := base) F_Outcome___len__ G CF
  have n_Outcome := MtP.lni (C := "Outcome") F_Outcome___len__ (He.meth_ok (c.fact 80 (f := .meth "Outcome" "__len__") rfl)) o_Outcome___len__ fun _ _ _ _ _ _ us hl => match us, hl with | [_], _ => rfl
  exact ok_law (P := P) (base := base) F_law G CF c__law_program c__law_cell_at c__law_well c__law_draw c__law_number c__law_cells c__law_ran c__law_asked c__law_held c__law_gifts c__law_wholes n_Outcome
end Fg
open PySem PySem.W PySem.Calls PyProof.Rows
set_option maxRecDepth 100000 in
set_option maxHeartbeats 0 in
theorem PySem.Challenge.cw_forkgather_k10_whole_one_hand_holds : PySem.Challenge.rw_forkgather_k10_whole_one_hand.Holds := by
  w_on; o_law
  refine HandSHeadRun.head_any (r := OpenLaw.row PySem.Challenge.rw_forkgather_k10_whole_one_hand) (q := view (OpenLaw.row PySem.Challenge.rw_forkgather_k10_whole_one_hand).prog [46]) (H := Fg.hk) (ob := Fg.ob) (M := 6000) (loose := Fg.names) (d := HandSHeadRun.topDef (OpenLaw.row PySem.Challenge.rw_forkgather_k10_whole_one_hand).prog 46) (kwd := []) Fg.ob_eq
    (by kernel_rfl) (fun s => by kernel_rfl) Fg.run (by kernel_rfl) (by kernel_rfl) (by kernel_rfl) (by rfl) (by first | assumption | decide +kernel) (by decide +kernel) ⟨rfl, rfl, rfl, rfl, rfl, by decide +kernel⟩ ?hw ?hc
  case hw => w_witness2
  case hc =>
    refine L2.walk_ofE (l := PySem.Challenge.rw_forkgather_k10_whole_one_hand) (n := 63) (k := 163) (x := "script") (CX := L2.CX0) rfl (by decide) (by kernel_rfl) ⟨rfl, by decide, by decide⟩ ?F (fun _ _ _ _ z => z)
    intro w mg fa h Y G hmg0
    obtain ⟨K, KX, c⟩ := Y
    have hmg : mg ("law" : PySem.Str) = some (.ref fa) := by
      have e : (HandSHeadRun.topDef (OpenLaw.row PySem.Challenge.rw_forkgather_k10_whole_one_hand).prog 46).name = ("law" : PySem.Str) := by kernel_rfl
      rw [← e]
      exact hmg0
    obtain ⟨fd, hb, hF⟩ := Fg.facts (P := (PySem.Challenge.rw_forkgather_k10_whole_one_hand).prog) (w := w) KX G hmg c
    exact ⟨K, fd, Fg.sp_law K, KX, hb, fun H a ns hl _ hS => ⟨a, ns, rfl, hS, hl, fun _ => rfl⟩, hF⟩
