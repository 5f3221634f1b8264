import PyProof.Rows.All
import Wide.All
import OpenK.AllK
import Wide.FinOn
import HandS.ForMost
import HandS.More
import HandS.Exc
import HandS.TryOnly
import HandS.ExcOwn
import HandS.WordsExc
import HandS.ExcInit
import HandS.ExcField
import HandS.ExcIs
import HandS.IsInst
import HandS.Property
import HandS.DictComp
import HandS.TupAny
import HandS.Wide
import HandS.Conv
import HandS.SetKeys
import HandS.SortOrd
import HandS.CallSlots
import KE.KExcIs
import KE.DataMinMax
import KE.SortData
import HandS.Strs
import HandS.Walk
import PySem.Challenge.RW_onceread_k52_bill_whole
set_option Elab.async false
set_option linter.all false
set_option maxRecDepth 100000
set_option maxHeartbeats 4000000
namespace K52
open PySem L2
/-! ### trees -/
inductive Tr where
  | rel (nm : Str) (vs : List Str)
  | atm (wd : Str) (vs : List Str)
  | neg (p : Tr)
  | bin (wd : Str) (p q : Tr)
  | qu (wd v : Str) (p : Tr)
  | mo (v : Str) (p : Tr) (w : Str) (q : Tr)
  | wk (l r : List Str) (p : Tr) (s g : List Str)
/-- a tuple (true) or a list (false) -/
def sq (b : Bool) (l : List PyData) : PyData := if b = true then .tuple l else .list l
abbrev nms (b : Bool) (vs : List Str) : PyData := sq b (vs.map PyData.str)
namespace Tr
def dat (b : Bool) : Tr → PyData
  | .rel nm vs => sq b [.str "rel", .str nm, nms b vs]
  | .atm wd vs => sq b (.str wd :: vs.map PyData.str)
  | .neg p => sq b [.str "not", p.dat b]
  | .bin wd p q => sq b [.str wd, p.dat b, q.dat b]
  | .qu wd v p => sq b [.str wd, .str v, p.dat b]
  | .mo v p w q => sq b [.str "more", .str v, p.dat b, .str w, q.dat b]
  | .wk l r p s g => sq b [.str "walk", nms b l, nms b r, p.dat b, nms b s, nms b g]
def size : Tr → Nat
  | .rel _ _ => 1
  | .atm _ _ => 1
  | .neg p => p.size + 1
  | .bin _ p q => p.size + q.size + 1
  | .qu _ _ p => p.size + 1
  | .mo _ p _ q => p.size + q.size + 1
  | .wk _ _ p _ _ => p.size + 1
def deep : Tr → Nat
  | .rel _ _ => 1
  | .atm _ _ => 1
  | .neg p => p.deep + 1
  | .bin _ p q => max p.deep q.deep + 1
  | .qu _ _ p => p.deep + 1
  | .mo _ p _ q => max p.deep q.deep + 1
  | .wk _ _ p _ _ => p.deep + 1
/-- the free names, in any order, some more than once -/
def fv : Tr → List Str
  | .rel _ vs => vs
  | .atm _ vs => vs
  | .neg p => p.fv
  | .bin _ p q => p.fv ++ q.fv
  | .qu _ v p => p.fv.filter fun x => decide (x ≠ v)
  | .mo v p w q => (p.fv.filter fun x => decide (x ≠ v)) ++ (q.fv.filter fun x => decide (x ≠ w))
  | .wk l r p s g => (s ++ g) ++ (p.fv.filter fun x => decide (x ∉ l ++ r))
def own : Tr → List Str
  | .rel _ vs => vs
  | .atm _ vs => vs
  | .wk _ _ _ s g => s ++ g
  | _ => []
/-- the parts, each with the names that are bound there -/
def sub : Tr → List (List Str × Tr)
  | .rel _ _ => []
  | .atm _ _ => []
  | .neg p => [([], p)]
  | .bin _ p q => [([], p), ([], q)]
  | .qu _ v p => [([v], p)]
  | .mo v p w q => [([v], p), ([w], q)]
  | .wk l r p _ _ => [(l ++ r, p)]
def mx (i j : Int) : Int := if j > i then j else i
def need : Tr → Int × Int
  | .rel _ _ => (0, 0)
  | .atm _ _ => (0, 0)
  | .neg p => (p.need.2, p.need.1)
  | .bin _ p q => (mx p.need.1 q.need.1, mx p.need.2 q.need.2)
  | .qu _ _ p => (1 + p.need.1, 1 + p.need.2)
  | .mo _ p _ q => (5 + mx (mx p.need.1 p.need.2) (mx q.need.1 q.need.2), 5 + mx (mx p.need.1 p.need.2) (mx q.need.1 q.need.2))
  | .wk l _ p _ _ => (2 * (l.length : Int) + p.need.1, 9 * (l.length : Int) + 1 + mx p.need.1 p.need.2)
/-- the trees that stand in a tree, itself first -/
def subs : Tr → List Tr
  | .rel n vs => [.rel n vs]
  | .atm w vs => [.atm w vs]
  | .neg p => .neg p :: p.subs
  | .bin w p q => .bin w p q :: (p.subs ++ q.subs)
  | .qu w v p => .qu w v p :: p.subs
  | .mo v p w q => .mo v p w q :: (p.subs ++ q.subs)
  | .wk l r p s g => .wk l r p s g :: p.subs
end Tr
/-! ### names -/
abbrev menu : List Str := ["x", "y", "a1", "b", "v10", "v9", "goal1", "z", "q", "thing", "abcdefghijkl", "u2", "l0", "m1"]
abbrev rels : List Str := ["edge", "f", "mark2", "tri"]
abbrev reserved : List Str := ["some", "every", "not", "and", "or", "walk", "more", "than", "first", "last", "next"]
abbrev atoms : List Str := ["rel", "same", "before", "next", "first", "last"]
abbrev firstSigns : Str := "abcdefghijklmnopqrstuvwxyz"
abbrev laterSigns : Str := "abcdefghijklmnopqrstuvwxyz0123456789"
/-- a name by point 2 -/
def isNm (z : Str) : Bool :=
  decide (z ∉ reserved) && decide (0 < z.cps.toList.length) && decide (z.cps.toList.length ≤ 12) && decide (z.cps.toList.getD 0 0 ∈ firstSigns.cps.toList) && z.cps.toList.all (fun c => decide (c ∈ laterSigns.cps.toList)) && PyData.strOk z
theorem menu_nm : ∀ z ∈ menu, isNm z = true := by decide +kernel
theorem rels_nm : ∀ z ∈ rels, isNm z = true := by decide +kernel
theorem menu_nd : menu.Nodup := by decide +kernel
/-- the number of variables of a relation -/
def ar (nm : Str) : Nat := if nm = "edge" then 2 else if nm = "f" then 2 else if nm = "mark2" then 1 else 3
namespace Tr
def Good : Tr → Prop
  | .rel nm vs => nm ∈ rels ∧ vs.length = ar nm ∧ ∀ v ∈ vs, v ∈ menu
  | .atm wd vs => ((wd ∈ (["same", "before", "next"] : List Str) ∧ vs.length = 2) ∨ (wd ∈ (["first", "last"] : List Str) ∧ vs.length = 1)) ∧ ∀ v ∈ vs, v ∈ menu
  | .neg p => p.Good
  | .bin wd p q => wd ∈ (["and", "or"] : List Str) ∧ p.Good ∧ q.Good
  | .qu wd v p => wd ∈ (["some", "every"] : List Str) ∧ v ∈ menu ∧ p.Good
  | .mo v p w q => v ∈ menu ∧ w ∈ menu ∧ p.Good ∧ q.Good
  | .wk l r p s g => (1 ≤ l.length ∧ l.length ≤ 60 ∧ r.length = l.length ∧ s.length = l.length ∧ g.length = l.length) ∧ (l ++ r).Nodup ∧ (∀ v ∈ l ++ r, isNm v = true) ∧ (∀ v ∈ s ++ g, v ∈ menu) ∧ p.Good
theorem fv_menu : ∀ {t : Tr}, t.Good → ∀ x ∈ t.fv, x ∈ menu
  | .rel _ _, h, x, hx => h.2.2 x hx
  | .atm _ _, h, x, hx => h.2 x hx
  | .neg p, h, x, hx => fv_menu (t := p) h x hx
  | .bin _ p q, h, x, hx => by
    rcases List.mem_append.mp hx with e | e
    · exact fv_menu h.2.1 x e
    · exact fv_menu h.2.2 x e
  | .qu _ v p, h, x, hx => fv_menu h.2.2 x (List.mem_filter.mp hx).1
  | .mo v p w q, h, x, hx => by
    rcases List.mem_append.mp hx with e | e
    · exact fv_menu h.2.2.1 x (List.mem_filter.mp e).1
    · exact fv_menu h.2.2.2 x (List.mem_filter.mp e).1
  | .wk l r p s g, h, x, hx => by
    rcases List.mem_append.mp hx with e | e
    · exact h.2.2.2.1 x e
    · exact fv_menu h.2.2.2.2 x (List.mem_filter.mp e).1
theorem own_menu : ∀ {t : Tr}, t.Good → ∀ x ∈ t.own, x ∈ menu
  | .rel _ _, h, x, hx => h.2.2 x hx
  | .atm _ _, h, x, hx => h.2 x hx
  | .wk l r p s g, h, x, hx => h.2.2.2.1 x hx
  | .neg _, _, _, hx => nomatch hx
  | .bin _ _ _, _, _, hx => nomatch hx
  | .qu _ _ _, _, _, hx => nomatch hx
  | .mo _ _ _ _, _, _, hx => nomatch hx
theorem deep_pos : ∀ t : Tr, 1 ≤ t.deep
  | .rel _ _ => Nat.le_refl _
  | .atm _ _ => Nat.le_refl _
  | .neg _ => Nat.le_add_left ..
  | .bin _ _ _ => Nat.le_add_left ..
  | .qu _ _ _ => Nat.le_add_left ..
  | .mo _ _ _ _ => Nat.le_add_left ..
  | .wk _ _ _ _ _ => Nat.le_add_left ..
theorem size_pos : ∀ t : Tr, 1 ≤ t.size
  | .rel _ _ => Nat.le_refl _
  | .atm _ _ => Nat.le_refl _
  | .neg _ => Nat.le_add_left ..
  | .bin _ _ _ => Nat.le_add_left ..
  | .qu _ _ _ => Nat.le_add_left ..
  | .mo _ _ _ _ => Nat.le_add_left ..
  | .wk _ _ _ _ _ => Nat.le_add_left ..
/-- the free names are the own ones and those of the parts that are not bound there -/
theorem mem_fv : ∀ (t : Tr) (x : Str), x ∈ t.fv ↔ x ∈ t.own ∨ ∃ b p, (b, p) ∈ t.sub ∧ x ∈ p.fv ∧ x ∉ b
  | .rel _ _, x => by simp [fv, own, sub]
  | .atm _ _, x => by simp [fv, own, sub]
  | .neg p, x => by
    simp only [fv, own, sub, List.not_mem_nil, false_or]
    constructor
    · intro h
      exact ⟨[], p, by simp, h, by simp⟩
    · rintro ⟨b, p', hm, h, _⟩
      simp only [List.mem_cons, List.not_mem_nil, or_false, Prod.mk.injEq] at hm
      obtain ⟨rfl, rfl⟩ := hm
      exact h
  | .bin _ p q, x => by
    simp only [fv, own, sub, List.mem_append, List.not_mem_nil, false_or]
    constructor
    · rintro (h | h)
      · exact ⟨[], p, by simp, h, by simp⟩
      · exact ⟨[], q, by simp, h, by simp⟩
    · rintro ⟨b, p', hm, h, _⟩
      simp only [List.mem_cons, List.not_mem_nil, or_false, Prod.mk.injEq] at hm
      rcases hm with ⟨_, rfl⟩ | ⟨_, rfl⟩
      · exact .inl h
      · exact .inr h
  | .qu _ v p, x => by
    simp only [fv, own, sub, List.mem_filter, decide_eq_true_eq, List.not_mem_nil, false_or]
    constructor
    · rintro ⟨h, n⟩
      exact ⟨[v], p, by simp, h, by simpa using n⟩
    · rintro ⟨b, p', hm, h, n⟩
      simp only [List.mem_cons, List.not_mem_nil, or_false, Prod.mk.injEq] at hm
      obtain ⟨rfl, rfl⟩ := hm
      exact ⟨h, by simpa using n⟩
  | .mo v p w q, x => by
    simp only [fv, own, sub, List.mem_append, List.mem_filter, decide_eq_true_eq, List.not_mem_nil, false_or]
    constructor
    · rintro (⟨h, n⟩ | ⟨h, n⟩)
      · exact ⟨[v], p, by simp, h, by simpa using n⟩
      · exact ⟨[w], q, by simp, h, by simpa using n⟩
    · rintro ⟨b, p', hm, h, n⟩
      simp only [List.mem_cons, List.not_mem_nil, or_false, Prod.mk.injEq] at hm
      rcases hm with ⟨rfl, rfl⟩ | ⟨rfl, rfl⟩
      · exact .inl ⟨h, by simpa using n⟩
      · exact .inr ⟨h, by simpa using n⟩
  | .wk l r p s g, x => by
    show x ∈ (s ++ g) ++ (p.fv.filter fun x => decide (x ∉ l ++ r)) ↔ _
    rw [List.mem_append, List.mem_filter, decide_eq_true_eq]
    constructor
    · rintro (h | ⟨h, n⟩)
      · exact .inl h
      · exact .inr ⟨l ++ r, p, by simp [sub], h, n⟩
    · rintro (h | ⟨b, p', hm, h, n⟩)
      · exact .inl h
      · simp only [sub, List.mem_cons, List.not_mem_nil, or_false, Prod.mk.injEq] at hm
        obtain ⟨rfl, rfl⟩ := hm
        exact .inr ⟨h, n⟩
theorem sub_good : ∀ {t : Tr}, t.Good → ∀ b p, (b, p) ∈ t.sub → p.Good ∧ p.deep + 1 ≤ t.deep
  | .rel _ _, _, b, p', hm => by simp [sub] at hm
  | .atm _ _, _, b, p', hm => by simp [sub] at hm
  | .neg p, h, b, p', hm => by
    simp only [sub, List.mem_cons, List.not_mem_nil, or_false, Prod.mk.injEq] at hm
    obtain ⟨rfl, rfl⟩ := hm
    exact ⟨h, Nat.le_refl _⟩
  | .bin _ p q, h, b, p', hm => by
    simp only [sub, List.mem_cons, List.not_mem_nil, or_false, Prod.mk.injEq] at hm
    rcases hm with ⟨rfl, rfl⟩ | ⟨rfl, rfl⟩
    · exact ⟨h.2.1, Nat.succ_le_succ (Nat.le_max_left ..)⟩
    · exact ⟨h.2.2, Nat.succ_le_succ (Nat.le_max_right ..)⟩
  | .qu _ v p, h, b, p', hm => by
    simp only [sub, List.mem_cons, List.not_mem_nil, or_false, Prod.mk.injEq] at hm
    obtain ⟨rfl, rfl⟩ := hm
    exact ⟨h.2.2, Nat.le_refl _⟩
  | .mo v p w q, h, b, p', hm => by
    simp only [sub, List.mem_cons, List.not_mem_nil, or_false, Prod.mk.injEq] at hm
    rcases hm with ⟨rfl, rfl⟩ | ⟨rfl, rfl⟩
    · exact ⟨h.2.2.1, Nat.succ_le_succ (Nat.le_max_left ..)⟩
    · exact ⟨h.2.2.2, Nat.succ_le_succ (Nat.le_max_right ..)⟩
  | .wk l r p s g, h, b, p', hm => by
    simp only [sub, List.mem_cons, List.not_mem_nil, or_false, Prod.mk.injEq] at hm
    obtain ⟨rfl, rfl⟩ := hm
    exact ⟨h.2.2.2.2, Nat.le_refl _⟩
theorem subs_eq : ∀ t : Tr, t.subs = t :: (t.sub.map fun x => x.2.subs).flatten
  | .rel _ _ => rfl
  | .atm _ _ => rfl
  | .neg p => by simp [subs, sub]
  | .bin _ p q => by simp [subs, sub]
  | .qu _ _ p => by simp [subs, sub]
  | .mo _ p _ q => by simp [subs, sub]
  | .wk _ _ p _ _ => by simp [subs, sub]
theorem subs_good : ∀ {t : Tr}, t.Good → ∀ x ∈ t.subs, x.Good
  | .rel n vs, h, x, hx => by
    simp only [subs, List.mem_cons, List.not_mem_nil, or_false] at hx
    subst hx
    exact h
  | .atm n vs, h, x, hx => by
    simp only [subs, List.mem_cons, List.not_mem_nil, or_false] at hx
    subst hx
    exact h
  | .neg p, h, x, hx => by
    rcases List.mem_cons.mp hx with rfl | hx
    · exact h
    · exact subs_good (t := p) h x hx
  | .bin _ p q, h, x, hx => by
    rcases List.mem_cons.mp hx with rfl | hx
    · exact h
    · rcases List.mem_append.mp hx with hx | hx
      · exact subs_good h.2.1 x hx
      · exact subs_good h.2.2 x hx
  | .qu _ _ p, h, x, hx => by
    rcases List.mem_cons.mp hx with rfl | hx
    · exact h
    · exact subs_good h.2.2 x hx
  | .mo _ p _ q, h, x, hx => by
    rcases List.mem_cons.mp hx with rfl | hx
    · exact h
    · rcases List.mem_append.mp hx with hx | hx
      · exact subs_good h.2.2.1 x hx
      · exact subs_good h.2.2.2 x hx
  | .wk _ _ p _ _, h, x, hx => by
    rcases List.mem_cons.mp hx with rfl | hx
    · exact h
    · exact subs_good h.2.2.2.2 x hx
theorem subs_len : ∀ t : Tr, t.subs.length = t.size
  | .rel _ _ => rfl
  | .atm _ _ => rfl
  | .neg p => by simp [subs, size, subs_len p]
  | .bin _ p q => by simp [subs, size, subs_len p, subs_len q]
  | .qu _ _ p => by simp [subs, size, subs_len p]
  | .mo _ p _ q => by simp [subs, size, subs_len p, subs_len q]
  | .wk _ _ p _ _ => by simp [subs, size, subs_len p]
end Tr
/-- two lists without doubles and with the same members are of one length -/
theorem same_len {α : Type} [DecidableEq α] : ∀ {a b : List α}, a.Nodup → b.Nodup → (∀ x, x ∈ a ↔ x ∈ b) → a.length = b.length := fun {a b} ha hb h => by
  have h1 := List.Perm.length_eq ((List.perm_ext_iff_of_nodup ha hb).mpr h)
  exact h1
end K52

set_option maxRecDepth 100000
set_option maxHeartbeats 4000000
namespace K52
open PySem PySem.Spec PyProof.Rows L2
section
variable {X : Cx}
/-! ### rules of my own -/
/-- a value that is an object is taken and locked as it is (a dict that a call has made, ahead of its walk) -/
def tFrz (te : TE) : TE := fun σ H Q => te σ H fun x H1 => ∃ d u, x = .ref d ∧ H1 d = some u ∧ Mut (some u) ∧ ∀ od, Q x (upd H1 d (.frz od u))
theorem pe_frz {e : Expr} {te : TE} (he : PE X e te) : PE X e (tFrz te) := by
  constructor
  intro pins s σ H Q I h
  refine thn (he.run pins s σ H _ I h) ?_
  rintro v s1 ⟨x, H1, I1, r1, d, u, ex, hd, mu, q⟩
  obtain ⟨od, I2⟩ := I1.lock hd mu
  exact ⟨x, _, I2, r1, q od⟩
/-- a sequence of either kind -/
def Sq (K : PySem.W.Frag) (H : Hp) (a : Addr) (xs : List V) : Bool → Prop
  | true => SqT K H a xs
  | false => SqL K H a xs
theorem Sq.or {K : PySem.W.Frag} {H : Hp} {a : Addr} {xs : List V} : ∀ {b : Bool}, Sq K H a xs b → SqL K H a xs ∨ SqT K H a xs
  | true, h => .inr h
  | false, h => .inl h
def rIxSq (K : PySem.W.Frag) : V → V → Hp → VK → Prop := fun x y H Q => ∃ b p xs i v, x = .ref p ∧ y = .int i ∧ Sq K H p xs b ∧ atI xs i = some v ∧ Q v H
theorem ix_sq : IxR X (rIxSq X.K) := by
  have g : IxR X (rIx X.K) := ix_seq
  intro value slice pins s σ H x y v u Q I rx ry h hs
  refine g value slice pins s σ H x y v u Q I rx ry ?_ hs
  obtain ⟨b, p, xs, i, z, h1, h2, h3, h4, q⟩ := h
  cases b with
  | true => exact .inr (.inl ⟨p, xs, i, z, h1, h2, h3, h4, q⟩)
  | false => exact .inl ⟨p, xs, i, z, h1, h2, h3, h4, q⟩
/-- the type of a sequence -/
def tyS : Bool → Value
  | true => .type "tuple"
  | false => .type "list"
theorem Sq.ty {K : PySem.W.Frag} {H : Hp} {a : Addr} {xs : List V} : ∀ {b : Bool}, Sq K H a xs b → TyX K H (.ref a) (tyS b)
  | true, h => by
    rcases h with (h | ⟨o, h⟩) | ⟨o, its, n, h1, h2, _⟩
    · exact .base (.tup h)
    · exact .fTuple h
    · exact .kTuple h1 h2
  | false, h => by
    rcases h with (h | ⟨o, h⟩) | ⟨o, its, n, h1, h2, _⟩
    · exact .base (.lst h)
    · exact .base (.frz h)
    · exact .kList h1 h2
end
/-- what was tracked stands still: sequences and data too -/
theorem same_tup {K : PySem.W.Frag} {H H' : Hp} {a : Addr} {xs : List V} (e : Same H H') (h : SqT K H a xs) : SqT K H' a xs := by
  rcases h with (h | ⟨o, h⟩) | h
  · exact .inl (.inl (e _ _ h))
  · exact .inl (.inr ⟨o, e _ _ h⟩)
  · exact .inr h
mutual
theorem same_dp {K : PySem.W.Frag} {H H' : Hp} (e : Same H H') : ∀ {v : V} {d : PyData}, Dp K H v d → Dp K H' v d
  | _, _, .non => .non
  | _, _, .bl b => .bl b
  | _, _, .int i => .int i
  | _, _, .str x => .str x
  | _, _, .lst h ha => .lst (e.seq h) (same_dps e ha)
  | _, _, .tup h ha => .tup (same_tup e h) (same_dps e ha)
theorem same_dps {K : PySem.W.Frag} {H H' : Hp} (e : Same H H') : ∀ {vs : List V} {ds : List PyData}, DpAll K H vs ds → DpAll K H' vs ds
  | _, _, .nil => .nil
  | _, _, .cons h ha => .cons (same_dp e h) (same_dps e ha)
end
/-- a new object -/
theorem same_new {H : Hp} {p : Addr} (h : H p = none) (o : HO) : Same H (upd H p o) := fun b u q => by rw [upd_ne (ne_of_none q h)]; exact q
/-- data of a sequence -/
theorem dp_sq {K : PySem.W.Frag} {H : Hp} {b : Bool} {l : List PyData} {v : V} (h : Dp K H v (sq b l)) : ∃ a xs, v = .ref a ∧ Sq K H a xs b ∧ DpAll K H xs l := by
  cases b with
  | true =>
    have h : Dp K H v (.tuple l) := h
    cases h with
    | tup h1 h2 => exact ⟨_, _, rfl, h1, h2⟩
  | false =>
    have h : Dp K H v (.list l) := h
    cases h with
    | lst h1 h2 => exact ⟨_, _, rfl, h1, h2⟩
theorem sq_dp {K : PySem.W.Frag} {H : Hp} {b : Bool} {l : List PyData} {a : Addr} {xs : List V} (h : Sq K H a xs b) (h2 : DpAll K H xs l) : Dp K H (.ref a) (sq b l) := by
  cases b with
  | true => exact .tup h h2
  | false => exact .lst h h2
theorem dps_strs {K : PySem.W.Frag} {H : Hp} : ∀ {vs : List Str} {xs : List V}, DpAll K H xs (vs.map PyData.str) → xs = vs.map V.str
  | [], _, .nil => rfl
  | z :: vs, _, .cons h ha => by
    cases h
    rw [dps_strs (vs := vs) ha]
    rfl
theorem strs_dps {K : PySem.W.Frag} {H : Hp} : ∀ vs : List Str, DpAll K H (vs.map V.str) (vs.map PyData.str)
  | [] => .nil
  | z :: vs => .cons (.str z) (strs_dps vs)
end K52

set_option maxRecDepth 100000
set_option maxHeartbeats 4000000
namespace K52
open PySem PySem.Spec PyProof.Rows L2
theorem mx_max (i j : Int) : Tr.mx i j = max i j := by
  unfold Tr.mx
  split <;> omega
section
variable {X : Cx}
/-- max of a tuple of two ints -/
theorem call_maxT (hc : X.calm = true) (hu : X.A.units + 64 < cLine) : CallR X (.builtin "max") (fun xs H Q => ∃ (a : Addr) (i j : Int), xs = [.ref a] ∧ SqT X.K H a [.int i, .int j] ∧ Q (.int (Tr.mx i j)) H) := by
  intro pins s σ H xs us Q I r h
  obtain ⟨a, i, j, rfl, ht, q⟩ := h
  obtain ⟨u, rfl, ru⟩ := vals1 r
  obtain rfl : u = Value.ref a := ru
  obtain ⟨its, rv, pl, _⟩ := I.tuple ht
  obtain ⟨u1, u2, rfl, r1, r2⟩ := vals2 rv
  obtain ⟨t1, rfl⟩ := r1
  obtain ⟨t2, rfl⟩ := r2
  have hr : ReadsAll s.heap [Value.int i t1, Value.int j t2] (PyData.int i :: ([j] : List Int).map PyData.int) ([] ++ ([] ++ [])) := .cons (.int i t1) (.cons (.int j t2) .nil)
  have al : PySem.W.AlikeAll (PyData.int i :: ([j] : List Int).map PyData.int) := by
    refine ⟨fun x hx y hy => ?_, fun x hx => ?_⟩
    · simp only [List.map_cons, List.map_nil, List.mem_cons, List.not_mem_nil, or_false] at hx hy
      rcases hx with rfl | rfl <;> rcases hy with rfl | rfl <;> rfl
    · simp only [List.map_cons, List.map_nil, List.mem_cons, List.not_mem_nil, or_false] at hx
      rcases hx with rfl | rfl <;> exact fun z => nomatch z
  refine PySem.W.max_tuple_data (I.ok.hd hc) pl hr al (by simp [PyData.depthAll, PyData.depth]; omega) fun k v h' tk bs hv hR hk => ?_
  rw [PySem.W.maxD_ints] at hR
  have e : ([j] : List Int).foldl max i = Tr.mx i j := (mx_max i j).symm
  rw [e] at hR
  cases hR with
  | int _ t => exact ⟨.int _, H, I.kept hk, ⟨t, rfl⟩, q⟩
end
end K52

set_option maxRecDepth 100000
set_option maxHeartbeats 4000000
namespace K52
open PySem PySem.Spec PyProof.Rows L2
/-- a list that is known place by place -/
theorem list_of_at {α β : Type} {l : List α} {m : List β} (g : β → α) (hl : l.length = m.length) (h : ∀ (j : Nat) (a : α) (b : β), l[j]? = some a → m[j]? = some b → a = g b) : l = m.map g := by
  apply List.ext_getElem?
  intro j
  rw [List.getElem?_map]
  cases hj : l[j]? with
  | none =>
    have h1 := List.getElem?_eq_none_iff.mp hj
    rw [List.getElem?_eq_none (by omega)]
    rfl
  | some a =>
    cases hm : m[j]? with
    | none =>
      have h1 := List.getElem?_eq_none_iff.mp hm
      have h2 := (List.getElem?_eq_some_iff.mp hj).1
      omega
    | some b =>
      rw [h j a b hj hm]
      rfl
theorem each_refs {β : Type} : ∀ (bs : List (Addr × β)), PySem.W.EachIs (fun (v : Value) (b : Addr × β) => v = Value.ref b.1) (bs.map fun b => Value.ref b.1) bs
  | [] => .nil
  | _ :: r => .cons rfl (each_refs r)
theorem refs_each {β : Type} : ∀ {vs : List Value} {bs : List (Addr × β)}, PySem.W.EachIs (fun (v : Value) (b : Addr × β) => v = Value.ref b.1) vs bs → vs = bs.map fun b => Value.ref b.1
  | _, _, .nil => rfl
  | _, _, .cons e r => by
    rw [e, refs_each r]
    rfl
/-- a pair of a text and an int as data -/
def enc (b : Addr × Str × Int) : PyData := .tuple [.str b.2.1, .int b.2.2]
theorem pair_reads {P : Program} {w : World} {H : Hp} {h : Heap} {a : Addr} {x : Str} {i : Int} (ok : HOk P w H h) (e : H a = some (.tup [.str x, .int i])) : Reads h (.ref a) (.tuple [.str x, .int i]) [] := by
  obtain ⟨_, its, rv, o, h1, h2, n, h3⟩ := (show ObjOk P w H h a (.tup [.str x, .int i]) from ok a _ e)
  obtain ⟨u1, u2, rfl, ⟨t1, rfl⟩, ⟨t2, rfl⟩⟩ := vals2 rv
  exact .tuple h1 h2 h3 (.cons (.str x t1) (.cons (.int i t2) .nil))
section
variable {X : Cx}
/-- sorted(d) of a dict whose keys are pairs of a text and an int: some order of them -/
theorem call_sortedDT (hc : X.calm = true) (hu : X.A.units + 64 < cLine) : CallR X (.builtin "sorted") (fun xs H Q => ∃ (a : Addr) (kvs : List (List Key × V)) (ks : List (Str × Int)), xs = [.ref a] ∧ H a = some (.dT kvs) ∧ kvs.map (·.1) = ks.map (fun k => [Sum.inr k.1, Sum.inl k.2]) ∧ ks.length ≤ 1000 ∧
    ∀ (p : Addr) (bs : List (Addr × Str × Int)), H p = none → (bs.map (·.2)).Perm ks → (∀ b ∈ bs, H b.1 = some (.tup [.str b.2.1, .int b.2.2])) → Q (.ref p) (upd H p (.lst (bs.map fun b => .ref b.1)))) := by
  intro pins s σ H xs us Q I r q
  obtain ⟨a, kvs, ks, rfl, hd, hks, hz, q⟩ := q
  obtain ⟨u, rfl, rx⟩ := vals1 r
  obtain rfl : u = Value.ref a := rx
  obtain ⟨z, hs, ms, pr, o, es, ep, ho, hx, hdt, he, hn⟩ := (show ObjOk X.prog X.w H s.heap a (.dT kvs) from I.hok a _ hd)
  have l1 : es.size = ms.length := size_of_entries he
  have l2 : kvs.length = ms.length := Paired.length pr
  have l3 : kvs.length = ks.length := by
    have e := congrArg List.length hks
    simpa using e
  -- the keys, with the addresses at which they stand
  obtain ⟨bs, hb1, hb2, hb3⟩ : ∃ bs : List (Addr × Str × Int), bs.map (·.2) = ks ∧ (∀ b ∈ bs, H b.1 = some (.tup [.str b.2.1, .int b.2.2])) ∧ bs.map (fun b => b.1) = ms.map fun m => m.2.1 := by
    clear q hz he l1 l3 z hn ho hx hdt l2 hd
    induction pr generalizing ks with
    | nil =>
      cases ks with
      | nil => exact ⟨[], rfl, (fun b hb => absurd hb (by simp)), rfl⟩
      | cons k ks => exact nomatch hks
    | cons hh tt ih =>
      cases ks with
      | nil => exact nomatch hks
      | cons k ks =>
        rw [List.map_cons, List.map_cons] at hks
        obtain ⟨e1, e2⟩ := List.cons.inj hks
        obtain ⟨bs, g1, g2, g3⟩ := ih ks e2
        obtain ⟨c1, c2, c3⟩ := hh
        rw [e1] at c2
        refine ⟨(_, k) :: bs, by rw [List.map_cons, g1], fun b hb => ?_, by rw [List.map_cons, List.map_cons, g3]⟩
        rcases List.mem_cons.mp hb with rfl | hb
        · exact c2
        · exact g2 b hb
  have l4 : bs.length = ks.length := by rw [← hb1, List.length_map]
  refine Calls.call_function_entry PyProof.Rows.kind_sorted PyProof.Rows.plain_sorted PyProof.Rows.entry_sorted (PyProof.Rows.args_sorted1 _) ?_
  unfold Builtin.«sorted»
  refine wpAny_bind (m := checkCount "sorted" 1 1 _) (wpAny_pure ?_)
  refine wpAny_bind (PySem.W.kdu_collect (A := X.A.in1) (kdl_raw hs hx hdt) (I.ok.hd hc) ho (by rw [sizeLine_eq]; omega) fun h' tk acc hk it => ?_)
  have al : acc.toList.length = ms.length := by rw [Array.length_toList, it.1]; exact l1
  have ea : acc.toList = ms.map fun m => Value.ref m.2.1 := list_of_at _ al fun j v m h1 h2 => by
    obtain ⟨en, hen, hv⟩ := it.2 j v (by rw [← Array.getElem?_toList]; exact h1)
    have qe := entry_at he j
    rw [hen, h2] at qe
    have e2 : en = entryOfKey (tupleKind (mixKind X.prog X.w)) m := Option.some.inj qe
    rw [hv, e2]
    rfl
  have eb : acc.toList = bs.map fun b => Value.ref b.1 := by
    rw [ea]
    have := congrArg (List.map Value.ref) hb3
    rw [List.map_map, List.map_map] at this
    exact this.symm
  have I1 : Inv X pins σ H { s with heap := h', toks := tk } := I.kept hk
  refine wpAny_bind (wpAny_newList ?_ (by rw [al, sizeLine_eq]; omega))
  have hoL : (h'.push (seqObj "list" acc.toList.toArray 0)).get? h'.objs.size = some (seqObj "list" acc.toList.toArray 0) := Heap.get?_push_size _ rfl
  show wpAny _ _ _ _ _ { s with heap := h'.push (seqObj "list" acc.toList.toArray 0), toks := tk }
  have rd : PySem.W.EachIs (fun v b => ∃ as, Reads (h'.push (seqObj "list" acc.toList.toArray 0)) v (enc b) as ∧ h'.objs.size ∉ as) acc.toList bs := by
    rw [eb]
    have key : ∀ l : List (Addr × Str × Int), (∀ b ∈ l, H b.1 = some (.tup [.str b.2.1, .int b.2.2])) → PySem.W.EachIs (fun v b => ∃ as, Reads (h'.push (seqObj "list" acc.toList.toArray 0)) v (enc b) as ∧ h'.objs.size ∉ as) (l.map fun b => Value.ref b.1) l := by
      intro l
      induction l with
      | nil => exact fun _ => .nil
      | cons b l ih =>
        intro hl
        have r0 : Reads h' (.ref b.1) (enc b) [] := pair_reads I1.hok (hl b List.mem_cons_self)
        exact .cons ⟨[], PyProof.Rows.Reads.keeps (fun b o e => Heap.get?_push_of_some _ e) r0, by simp⟩ (ih fun c hc => hl c (List.mem_cons_of_mem _ hc))
    have := key bs hb2
    rw [← eb] at this ⊢
    exact this
  refine wpAny_bind (wpAny_holding (PySem.W.list_sort_data (R := fun v b => v = Value.ref b.1) (enc := enc) (bs := bs) (vs := acc.toList) hoL (by rw [eb]; exact each_refs bs) rd ?_ ?_ (by rw [l4, sizeLine_eq]; omega) (fun b _ => ?_) fun out hlen ho2 => ?_))
  · intro d hd' d2 hd2
    obtain ⟨b, _, rfl⟩ := List.mem_map.mp hd'
    obtain ⟨b2, _, rfl⟩ := List.mem_map.mp hd2
    rfl
  · exact .inl fun d hd' => by
      obtain ⟨b, _, rfl⟩ := List.mem_map.mp hd'
      exact ⟨_, _, rfl⟩
  · show X.A.units + 1 + 1 + (1 + 0) < cLine
    omega
  · have eo := refs_each ho2
    have hp : (bs.mergeSort (PySem.W.dataLe false enc)).Perm bs := List.mergeSort_perm _ _
    generalize hbs : bs.mergeSort (PySem.W.dataLe false enc) = bs' at eo hp
    obtain ⟨e', he'⟩ := PyProof.Rows.sortedHeap_at (vs := acc.toList) (out := out.toArray) hoL
    have hl5 : (bs'.map fun b => V.ref b.1).length ≤ sizeLine := by
      rw [List.length_map, hp.length_eq, l4, sizeLine_eq]
      omega
    have hv : Vals (bs'.map fun b => V.ref b.1) out := by
      rw [eo]
      clear eo hp hbs hl5 he' hlen ho2
      induction bs' with
      | nil => exact .nil
      | cons b l ih => exact .cons rfl ih
    refine wpAny_pure ⟨_, rfl, .ref h'.objs.size, upd H h'.objs.size (.lst (bs'.map fun b => V.ref b.1)), I1.laid (t' := tk) (fun b u e => ?_) (Nat.le_refl _)
      (show ObjOk X.prog X.w _ _ _ (.lst (bs'.map fun b => V.ref b.1)) from ⟨hl5, out, e', hv, he'⟩), rfl, q _ bs' (I1.hok.fresh (Nat.le_refl _)) ?_ fun b hb => hb2 b (hp.mem_iff.mp hb)⟩
    · have hb : b < h'.objs.size := Heap.lt_size e
      rw [PyProof.Rows.sortedHeap_old (Nat.ne_of_lt hb) (by rw [Heap.size_push]; exact Nat.lt_succ_of_lt hb)]
      exact Heap.get?_push_of_some _ e
    · rw [← hb1]
      exact hp.map _
end
end K52

set_option maxRecDepth 100000
set_option maxHeartbeats 4000000
namespace K52
open PySem PySem.Spec PyProof.Rows L2
/-! ### set(t) of a tuple of different texts: as many as there are -/
abbrev bareSet (led : Bool) : Obj := { cls := .type "set", dict := none, data := .set #[] 0 (.fresh 0 0 led) }
/-- the texts taken so far -/
abbrev Had (P : Program) (w : World) (h : Heap) (S : Addr) (xs : List Str) (i : Nat) : Prop := h.SetOf (PySem.strKind P w) S (fun y => decide (y ∈ xs.take i)) i
section
variable {P : Program} {w : World} {A : Around} {E : Value → Shared → Prop}
theorem fill_set {I S : Addr} {fp wr : List Addr} {G : Array GenState → Array GenState → Prop} {n : Nat} {Pv : Nat → Value → Prop} {St : Nat → Shared → Prop} {R : Result → Shared → Prop} {xs : List Str}
    (W : WalksS P w A.in1 I fp wr G n Pv St) (nS : S ∉ fp) (en : xs.length = n) (nd : xs.Nodup) (few : n + 1 < scanBound) (it : ∀ i v, Pv i v → ∃ x t, xs[i]? = some x ∧ v = .str x t)
    (fin : ∀ s', Moved (S :: wr) G s s' → Had P w s'.heap S xs n → R (.ok (.ret .none)) s') (hst : St 0 s) (h0 : Had P w s.heap S xs 0) :
    codeAny (model P w) A (.builtin "set.update.loop" ⟨[.ref S, .ref I], []⟩) R s := by
  have nw : S ∉ wr := fun z => nS (W.sub _ z)
  have wid : ∀ b ∈ wr, b ∈ S :: wr := fun b z => List.mem_cons_of_mem _ z
  have far : ∀ m i, n - i = m → i ≤ n → ∀ s, (∀ s', Moved (S :: wr) G s s' → Had P w s'.heap S xs n → R (.ok (.ret .none)) s') → St i s → Had P w s.heap S xs i →
      codeAny (model P w) A (.builtin "set.update.loop" ⟨[.ref S, .ref I], []⟩) R s := by
    intro m
    induction m with
    | zero =>
      intro i em hi s fin hst hS
      obtain rfl : i = n := by omega
      refine codeAny_builtin PyProof.Rows.F.entry_set_update_loop ?_
      rw [Around.under_plainId PyProof.Rows.F.plain_set_update_loop _]
      refine wpAny_bind (m := pyNext (.ref I)) (W.done s _ _ hst fun s' mv => ?_)
      refine wpAny_pure (fin s' (mv.mono wid) ?_)
      obtain ⟨o, es, ep, tb, ho, more⟩ := hS
      exact ⟨o, es, ep, tb, mv.heap S _ nw ho, more⟩
    | succ m ih =>
      intro i em hi s fin hst hS
      have lt : i < n := by omega
      refine codeAny_builtin PyProof.Rows.F.entry_set_update_loop ?_
      rw [Around.under_plainId PyProof.Rows.F.plain_set_update_loop _]
      refine wpAny_bind (m := pyNext (.ref I)) (W.item i s _ _ lt hst fun v s' hv hst' mv => ?_)
      obtain ⟨x, t, hx, rfl⟩ := it i v hv
      have hS1 : Had P w s'.heap S xs i := by
        obtain ⟨o, es, ep, tb, ho, more⟩ := hS
        exact ⟨o, es, ep, tb, mv.heap S _ nw ho, more⟩
      refine wpAny_bind (m := holding [Value.str x t] (setAdd S (.str x t))) (wpAny_holding ?_)
      unfold setAdd
      refine wpAny_holding (wpAny_bind ((PySem.strKind P w).pyHash (k := x) (strKind_is _ _ _ _) ?_))
      refine wpAny_setAddHashed_of (knd := PySem.strKind P w) (s := { s' with toks := s'.toks + 1 }) (strKind_is _ _ _ _) rfl hS1 (by omega) fun h' sb hS2 => ?_
      have out : x ∉ xs.take i := by
        intro z
        obtain ⟨j, hj⟩ := List.getElem?_of_mem z
        have hj2 : j < i := by
          have := (List.getElem?_eq_some_iff.mp hj).1
          rw [List.length_take] at this
          omega
        rw [List.getElem?_take_of_lt hj2] at hj
        have := nd_ix nd hj hx
        omega
      have hS3 : Had P w h' S xs (i + 1) := by
        refine SetOf_congr hS2 (fun y => ?_) (by simp [out])
        rw [List.take_add_one, hx]
        simp [List.mem_append]
      refine wpAny_pure ⟨plainId_quiet PyProof.Rows.F.plain_set_update_loop _, ih (i + 1) (by omega) lt _ (fun s2 mv2 hS4 => ?_) (W.frame _ s' _ _ hst' (Nat.le_succ _) fun b hb o e => ?_) hS3⟩
      · refine fin s2 (Moved.trans W.gtrans ((mv.mono wid).then_heap (Nat.le_succ _) fun b o hb e => ?_) mv2) hS4
        rw [sb.2 b fun z : b = S => hb (by rw [z]; exact List.mem_cons_self)]
        exact e
      · rw [sb.2 b fun z : b = S => nS (by rw [← z]; exact hb)]
        exact e
  exact far n 0 (by omega) (Nat.zero_le _) s fin hst h0
theorem strs_place : ∀ {us : List Value} {xs : List Str}, StrsAre us xs → ∀ (i : Nat) (v : Value), us[i]? = some v → ∃ x t, xs[i]? = some x ∧ v = .str x t
  | _, _, .nil, i, v, h => by simp at h
  | _, _, .cons n t hr, 0, v, h => ⟨n, t, rfl, (Option.some.inj h).symm⟩
  | _, _, .cons n t hr, i + 1, v, h => by
    have h : _ := h
    rw [List.getElem?_cons_succ] at h
    exact strs_place hr i v h
variable {s : Shared}
theorem set_of_texts {l : Addr} {its : Array Value} {xs : List Str} {Q : Value → Shared → Prop} (hh : A.handled = none) (hl : s.heap.IsTuple l its) (hi : StrsAre its.toList xs) (nd : xs.Nodup) (few : xs.length + 1 < scanBound)
    (h : ∀ (h' : Heap) (tk : Nat), Had P w h' s.heap.objs.size xs its.size → (∀ b o, s.heap.get? b = some o → h'.get? b = some o) → Q (.ref s.heap.objs.size) { s with heap := h', toks := tk }) :
    wpAny (model P w) A (call (.type "set") [.ref l]) Q E s := by
  have en : xs.length = its.size := by
    have q := StrsAre.len_eq hi
    rw [Array.length_toList] at q
    exact q.symm
  obtain ⟨c, tl, hmro⟩ := PySem.F.called_set.mro
  have k1 := PySem.F.called_set.made
  have k2 := PySem.F.called_set.sub
  refine wpAny_call (codeAny_of_tree ?_)
  show wpAny _ _ (callAny (.type "set") _) _ _ _
  refine wpAny_pure ⟨Code.quiet_builtin _ (by decide +kernel), codeAny_builtin PySem.F.entry_type_call ?_⟩
  rw [Around.under_plain (weight_type_call_type "set" [.ref l] []) rfl]
  have k3 := PySem.F.called_set.notType
  have k4 := PySem.F.called_set.canCreate
  have k5 := PySem.F.typeCall_set_1 (.ref l)
  repeat (any_goals (first | assumption | wp_step))
  refine codeAny_mono (code_set_new_1 (.ref l) (E := E) (Q₁ := fun u s1 => ∃ led, u = .ref s.heap.objs.size ∧ s1 = { s with heap := s.heap.push (bareSet led) }) fun led => ⟨led, rfl, rfl⟩) fun r s1 hr => ?_
  cases r with
  | error e => exact hr
  | ok fl =>
    cases fl with
    | next => exact hr.elim
    | brk => exact hr.elim
    | cont => exact hr.elim
    | ret u =>
      obtain ⟨led, rfl, rfl⟩ := hr
      have at0 : (s.heap.push (bareSet led)).get? s.heap.objs.size = some (bareSet led) := Heap.get?_push_size _ rfl
      have k6 : Shared.TypeIs { s with heap := s.heap.push (bareSet led) } (.ref s.heap.objs.size) "set" := ⟨_, at0, rfl⟩
      have k7 := PySem.F.called_set.init.lookup
      have k8 := PySem.F.called_set.init.bind (.ref s.heap.objs.size)
      repeat (any_goals (first | assumption | wp_step))
      refine codeAny_mono (codeAny_call_builtin (R := wants (fun r s2 => r = .none ∧ ∃ h' tk, s2 = { s with heap := h', toks := tk } ∧ Had P w h' s.heap.objs.size xs its.size ∧ ∀ b o, s.heap.get? b = some o → h'.get? b = some o) E)
        PySem.F.called_set.init.plain PySem.F.entry_set_init (check_set_init_1 k6 ?_)) fun r2 s2 hr2 => ?_
      · obtain ⟨⟨oc, od, oda, osl⟩, hol, hc, nl, hd⟩ := hl
        dsimp only at hc hd
        subst hc hd
        have at1 : (s.heap.push (bareSet led)).get? l = some { cls := .type "tuple", dict := od, data := .seq its nl, slots := osl } := Heap.get?_push_of_some _ hol
        have m1 := PySem.F.sub_tuple_set
        have m2 := PySem.F.sub_tuple_frozenset
        have m3 : (Value.type "tuple" == Value.type "dict") = false := by decide
        have tup : (s.heap.push (bareSet led)).IsTuple l its := ⟨_, at1, rfl, nl, rfl⟩
        unfold Builtin.«set.__init__» noKeywords Builtin.Frozenset.updateFrom
        generalize hPI : pyIter = PI
        wp_walk
        subst hPI
        refine wpAny_pyIter_tuple tup (wpAny_bind (wpAny_runValue ?_))
        have below : l < s.heap.objs.size := Heap.lt_size hol
        have sz : (s.heap.push (bareSet led)).objs.size = s.heap.objs.size + 1 := Heap.size_push ..
        have ne1 : l ≠ (s.heap.push (bareSet led)).objs.size := by rw [sz]; exact Nat.ne_of_lt (Nat.lt_succ_of_lt below)
        have ne2 : s.heap.objs.size ≠ (s.heap.push (bareSet led)).objs.size := by rw [sz]; exact Nat.ne_of_lt (Nat.lt_succ_self _)
        have h3 : A.in1.in1.in1.handled = none := by simp [hh]
        refine fill_set (xs := xs) ((Walks.tuple h3 _ l ne1 its).toS) ?_ en nd (by rw [← en]; exact few) (fun i v hv => strs_place hi i v (by rw [Array.getElem?_toList]; exact hv)) ?_ ⟨⟨_, Heap.get?_push_size _ rfl, rfl, rfl⟩, tup.push _⟩ ?_
        · simp only [List.mem_cons, List.not_mem_nil, or_false, not_or]
          exact ⟨ne2, Nat.ne_of_gt below⟩
        · intro s3 mv hS
          obtain ⟨h3', g3, d3, tk3, os3⟩ := s3
          have eg : g3 = s.gens := mv.gens
          have ed : d3 = s.drawn := mv.drawn
          have eo : os3 = s.os := mv.os
          subst eg ed eo
          refine wpAny_pure ?_
          show wpAny _ _ (ret Value.none) _ _ _
          refine wpAny_pure ⟨rfl, h3', tk3, rfl, hS, fun b o e => ?_⟩
          have lb := Heap.lt_size e
          refine mv.heap b o ?_ (Heap.get?_push_of_some _ (Heap.get?_push_of_some _ e))
          simp only [List.mem_cons, List.not_mem_nil, or_false, not_or]
          exact ⟨Nat.ne_of_lt lb, by rw [sz]; exact Nat.ne_of_lt (Nat.lt_succ_of_lt lb)⟩
        · exact SetOf_congr ((setObjOf_fresh (knd := PySem.strKind P w) led).setOf (Heap.get?_push_of_some _ at0) (by unfold scanBound; omega)) (fun y => by simp) rfl
      · cases r2 with
        | error e => exact hr2
        | ok f2 =>
          cases f2 with
          | next => exact hr2.elim
          | brk => exact hr2.elim
          | cont => exact hr2.elim
          | ret r =>
            obtain ⟨rfl, h', tk, rfl, hS, hk⟩ := hr2
            repeat (any_goals (first | assumption | wp_step))
            exact h _ _ hS hk
end
section
variable {X : Cx}
/-- len(set(t)), t a tuple of different texts -/
def tLenTexts (K : PySem.W.Frag) (ta : TE) : TE := fun σ H Q => ta σ H fun x H1 => ∃ l, ∃ xs : List Str, x = .ref l ∧ SqT K H1 l (xs.map V.str) ∧ xs.Nodup ∧ xs.length ≤ 4000 ∧ Q (.int xs.length) H1
theorem pe_lenTexts {a : Expr} {ta : TE} {p p2 q pos : Pos} (hc : X.calm = true) (hg : Gl X "len") (hm : X.mg "len" = none) (hg2 : Gl X "set") (hm2 : X.mg "set" = none) (ha : PE X a ta)
    (na : starEach [a] X.env = (false, eval a X.env) :: starEach [] X.env := by rfl) : PE X (.Call (.Name "len" p) [.Call (.Name "set" p2) [a] [] q] [] pos) (tLenTexts X.K ta) := by
  constructor
  intro pins s σ H Q I h
  refine Call_ (ld_blt I hg hm boot_len (callWith_builtin1 (args_cons ?_ rfl) rfl rfl))
  refine Call_ (ld_blt I hg2 hm2 boot_set ?_)
  refine callWith_type1 (args_cons (thn (ha.run pins s σ H _ I h) fun v s1 ⟨x, H1, I1, r1, q1⟩ => args_nil ?_) na) na rfl
  obtain ⟨l, xs, rfl, ht, nd, hz, q1⟩ := q1
  obtain rfl : v = Value.ref l := r1
  obtain ⟨its, rv, pl, _⟩ := I1.tuple ht
  have el : its.toArray.size = xs.length := by rw [List.size_toArray, ← rv.length, List.length_map]
  refine set_of_texts (I1.ok.hd hc) pl (by simpa using strsAre_of rv) nd (by unfold scanBound; omega) fun h' tk hS hk => args_nil ?_
  rw [el] at hS
  obtain ⟨o, es, ep, t, ho, hex, hd, _, _, _, hf, hn⟩ := hS
  have I2 : Inv X pins σ H1 { s1 with heap := h', toks := tk } := I1.kept hk
  exact call_len_set ho hex hd hf (by rw [hn]; omega) ⟨.int xs.length, H1, I2.tok _, ⟨_, by rw [hn]⟩, q1⟩
end
end K52

set_option maxRecDepth 100000
set_option maxHeartbeats 4000000
namespace K52
open PySem PySem.Spec PyProof.Rows L2
/-- a new sequence of either kind -/
def sqO (b : Bool) (xs : List V) : HO := if b = true then .tup xs else .lst xs
theorem Sq.of {K : PySem.W.Frag} {H : Hp} {a : Addr} {xs : List V} : ∀ {b : Bool}, H a = some (sqO b xs) → Sq K H a xs b
  | true, h => SqT.of h
  | false, h => SqL.of h
section
variable {X : Cx}
/-- t[lo:hi], not the whole -/
def rSlSq (K : PySem.W.Frag) : V → Option Int → Option Int → Hp → VK → Prop := fun x lo hi H Q => ∃ b a xs, x = .ref a ∧ Sq K H a xs b ∧ ¬ (HT.sIx xs.length 0 lo = 0 ∧ HT.sIx xs.length xs.length hi = xs.length) ∧ ∀ p, H p = none → Q (.ref p) (upd H p (sqO b (cutV xs lo hi)))
theorem sl_sq : SlR X (rSlSq X.K) := by
  intro pins s σ H x v vl vu lo hi sl Q I rx hs pl pu h
  obtain ⟨b, a, xs, e, hq, hn, q⟩ := h
  cases b with
  | true => exact sl_tup pins s σ H x v vl vu lo hi sl Q I rx hs pl pu ⟨a, xs, e, hq, hn, q⟩
  | false => exact sl_list pins s σ H x v vl vu lo hi sl Q I rx hs pl pu ⟨a, xs, e, hq, q⟩
/-- y = {k: v for ..} -/
theorem ps_setDc {i : Nat} {y : Str} {py : Pos} {kx vx tg iter : Expr} {ifs : List Expr} {scope : Scope} {own : List (Str × Nat)} {pos spos : Pos} {wi : TI} {g : TG} {tt : TT} {tk tv : TE} (hc : X.calm = true) (hN : X.N.Nodup) (hy : X.N[i]? = some y) (hyl : X.env.scope.names.lookup y = some .local)
    (hsw : swapsWith (.DictComp kx vx [⟨tg, iter, ifs, 0⟩] scope pos) (some (.Name y py)) spos.line X.env = pure true) (hi : PI X tg iter wi) (ok : BlkOk X.N X.env.scope scope own)
    (hg : ∀ (s : Shared) (H : Hp) (C : Addr) (cl : List (Str × Addr)) (fp : List Addr), PG (X.blk s H scope (compEnvC scope cl C X.env) fp) tg g) (ht : ∀ (s : Shared) (H : Hp) (C : Addr) (cl : List (Str × Addr)) (fp : List Addr), PTs (X.blk s H scope (compEnvC scope cl C X.env) fp) ifs tt)
    (hk : ∀ (s : Shared) (H : Hp) (C : Addr) (cl : List (Str × Addr)) (fp : List Addr), PE (X.blk s H scope (compEnvC scope cl C X.env) fp) kx tk)
    (he : ∀ (s : Shared) (H : Hp) (C : Addr) (cl : List (Str × Addr)) (fp : List Addr), PE (X.blk s H scope (compEnvC scope cl C X.env) fp) vx tv) (hs : ∀ x, foldedSetIterable iter X.env x = pure x := by intro _; rfl) :
    PS X (.Assign [.Name y py] (.DictComp kx vx [⟨tg, iter, ifs, 0⟩] scope pos) spos) (tAsg (tDc wi g tt tk tv (own.map (·.2))) (gName i)) := by
  constructor
  intro pins s σ H D I h
  rw [exec_Assign_Name_used _ _ _ _ hsw]
  refine wpAny_bind (wpAny_standAt (wpAny_bind ?_))
  show wpAny _ X.A (do let _ ← comprehension (.DictComp kx vx [⟨tg, iter, ifs, 0⟩] scope pos) scope X.env (firstIterPos [⟨tg, iter, ifs, 0⟩] pos) newDict false (eval iter X.env) (some (assign (.Name y py) X.env))) _ _ s
  have h2 : tDc wi g tt tk tv (own.map (·.2)) σ H (fun x H1 => gName i x σ H1 D.nx) := h
  refine wpAny_bind (thn (dc_core (Qf := fun _ s' => SP X pins D .next s') hc hN I hi ok hg ht hk he hs h2 fun L C s' m H' I' q hn f => ?_) fun _ s' hq => wpAny_pure (wpAny_pure hq))
  show wpAny _ _ (assign (.Name y py) X.env (.ref L)) _ _ _
  refine wpAny_assign_Name (store_ok2 (v := V.ref L) I' hN hy (.inl hyl) rfl ?_ (.inr hyl))
  rintro s2 I2 ⟨a, sb, ha⟩
  obtain ⟨f0, f1, f2, f3, f4, f5⟩ := f
  have apart : C ≠ a := by
    rcases ha with z | z
    · rw [z]
      exact f1
    · exact fun e => f4 y a z e.symm
  exact ⟨m, hn.sameBut sb apart, fun h3 sb3 => ⟨_, H', I2.turned (t' := s2.toks) (fun b o hb e => (sb3.2 b hb).trans e) f0 f1 f3 f4 f5, q⟩⟩
/-- the heap line of a caught exception that has its own dict -/
theorem suite_inst {a C : Addr} {oe : Obj} {d : Addr} {pn : List (Addr × Obj)} {pins : List (Addr × Obj)} {σ : L2.St} {H : Hp} {s : Shared} {fs : List (Str × V)} (hz : Zc (.ref C) (some d) oe) (hf : ∃ vs, oe.data = .fields vs)
    (I : Inv (X.suite a ((a, oe) :: pn)) pins σ H s) (hd : H d = some (.xd fs)) : ∃ od, PySem.W.InstAt s.heap a oe C (some od) := by
  obtain ⟨hget, _⟩ := I.pin (a, oe) (List.mem_append_left _ List.mem_cons_self)
  obtain ⟨vs, hv⟩ := hf
  obtain ⟨mA, hns, hr⟩ := (show ObjOk X.prog X.w H s.heap d (.xd fs) from I.hok d _ hd)
  obtain ⟨od, ho, hl⟩ := lookIn_ns hns
  exact ⟨od, hget, hz.1, (by unfold PySem.W.notCls; rw [hv] <;> rfl), (by rw [hz.2]; exact ho)⟩
/-- isinstance(e, c) and isinstance(e, (c, ..)), e a caught exception of an own class with its own dict at d -/
def rIsS (K : PySem.W.Frag) (C a d : Addr) : List V → Hp → VK → Prop := fun xs H Q => ∃ fs, H d = some (.xd fs) ∧ ((∃ (c : V) (u : Value) (b : Bool), xs = [.ref a, c] ∧ ClsV c u ∧ PySem.W.kitOne K (.ref C) u = some b ∧ Q (.bl b) H) ∨
  ∃ (tp : Addr) (cs : List V) (us : List Value) (b : Bool), xs = [.ref a, .ref tp] ∧ H tp = some (.tup cs) ∧ Paired ClsV cs us ∧ PySem.W.kitAny K (.ref C) us = some b ∧ Q (.bl b) H)
theorem call_isS {a C d : Addr} {oe : Obj} {pn : List (Addr × Obj)} (T : ExcC X.K C) (hz : Zc (.ref C) (some d) oe) (hf : ∃ vs, oe.data = .fields vs) : CallR (X.suite a ((a, oe) :: pn)) (.builtin "isinstance") (rIsS X.K C a d) := by
  have hcl : (PySem.W.clsIn X.K C).isSome = true := by
    obtain ⟨cd, hc, _⟩ := PySem.W.any_some T.hd
    rw [hc]
    rfl
  intro pins s σ H xs us Q I r h
  obtain ⟨fs, hd, h⟩ := h
  obtain ⟨od, J⟩ := suite_inst hz hf I hd
  have Z := PySem.W.kitx_exc (x := a) (ox := oe) (od := some od) hcl T.hg T.hk T.hs T.ha T.hn T.ht T.hm
  rcases h with ⟨c, u, b, rfl, hc, e, q⟩ | ⟨tp, cs, ws, b, rfl, hT, hc, e, q⟩
  · obtain ⟨u1, u2, rfl, r1, r2⟩ := vals2 r
    obtain rfl : u1 = Value.ref a := r1
    have e2 := hc.eq r2
    subst e2
    exact PySem.W.kia_one Z I.kIn J e (fun z => nomatch z) fun tk => ⟨.bl b, H, I.tok tk, rfl, q⟩
  · obtain ⟨u1, u2, rfl, r1, r2⟩ := vals2 r
    obtain rfl : u1 = Value.ref a := r1
    obtain rfl : u2 = Value.ref tp := r2
    obtain ⟨_, its, rv, o, h1, h2, n, h3⟩ := (show ObjOk X.prog X.w H s.heap tp (.tup cs) from I.hok tp _ hT)
    have e3 := ClsV.all hc rv
    subst e3
    obtain ⟨oc, od2, dt, sl⟩ := o
    dsimp only at h2 h3
    subst h2 h3
    exact PySem.W.kia_tup Z I.kIn J h1 e (fun z => nomatch z) fun tk => ⟨.bl b, H, I.tok tk, rfl, q⟩
/-- written texts, one after another -/
inductive Txts : List Expr → List Str → Prop where
  | nil : Txts [] []
  | cons {x : Str} {j : Nat} {p : Pos} {es : List Expr} {xs : List Str} : Txts es xs → Txts (.Constant (.str x) j p :: es) (x :: xs)
def tTxts (xs : List Str) : TA := fun _ H Q => Q (xs.map V.str) H
theorem pa_txts : ∀ {es : List Expr} {xs : List Str}, Txts es xs → PA X es (tTxts xs)
  | _, _, .nil => pa_nil
  | _, _, .cons r => pa_cons pe_str (pa_txts r)
end
end K52

set_option maxRecDepth 100000
set_option maxHeartbeats 4000000
namespace K52
open PySem PySem.Spec PyProof.Rows L2
/-! ### the text by places -/
def top (i : Nat) : Stmt := PySem.Challenge.pw_onceread_k52_bill_whole.main.body.getD i (.Pass ⟨0, 0, 0, 0⟩)
/-- a def of the module, under its name -/
structure Def (K : PySem.W.Frag) (mg : Str → Option Value) (x : Str) (st : Stmt) : Prop where
  ex : ∃ (f : Addr) (fd : FuncData), Fun K x x st f fd ∧ mg x = some (.ref f)
/-- a def that may be called by its name -/
structure Cal (P : Program) (w : World) (K : PySem.W.Frag) (mg : Str → Option Value) (base : Heap) (CX : CXT) (k : Nat) (x : Str) (sp : Sp) : Prop where
  ex : ∃ (f : Addr) (fd : FuncData) (ps : List Str), FnOk P w K mg base CX k f fd ps sp ∧ mg x = some (.ref f) ∧ PySem.W.keepIn K (.ref f) = true ∧ Binds K fd ps []
section
variable {P : Program} {w : World} {K : PySem.W.Frag} {mg : Str → Option Value} {base : Heap}
theorem Cal.mono {CX : CXT} {j k : Nat} {x : Str} {sp : Sp} (c : Cal P w K mg base CX j x sp) (h : j ≤ k) : Cal P w K mg base CX k x sp := by
  obtain ⟨f, fd, ps, F, r⟩ := c.ex
  exact ⟨f, fd, ps, F.mono h, r⟩
theorem cal_mk {x : Str} {st : Stmt} {N ps : List Str} {k : Nat} {sp : Sp} (D : Def K mg x st) (S : FnScope N ps (defScope st))
    (hb : ∀ (kV doc pm : Value) (an : Option Addr) (cdv ct : Value) (us : List Value), us.length = ps.length → bindArgs (PySem.W.fnOf x x (defArgs st) (defBody st) (defScope st) .none kV doc pm an cdv ct) ⟨us, []⟩ = pure (ps.zip us))
    (len : ∀ vs H Q E, sp vs H Q E → vs.length = ps.length)
    (body : ∀ (f : Addr) (cdv : Value) (A : Around) (outer : List Env) (s : Shared) (H : Hp) (vs : List V) (Q : VK) (E : XK), Room k (A.deeper (envOfC x (defScope st) s.heap.objs.size f cdv)) → sp vs H Q E →
      ∃ t, PSs (cxOf CX0 P w K mg base N x (defScope st) f cdv A outer s H E).nox (defBody st) t ∧ t { nx := fun _ H' => Q .non H', rt := Q } (start N vs) H) : Cal P w K mg base CX0 (k + 1) x sp := by
  obtain ⟨f, fd, F, hm⟩ := D.ex
  exact ⟨f, fd, ps, F.ok S len (body f), hm, F.kp, F.binds hb⟩
theorem cal_mkX {x : Str} {st : Stmt} {N ps : List Str} {k : Nat} {sp : Sp} (D : Def K mg x st) (S : FnScope N ps (defScope st))
    (hb : ∀ (kV doc pm : Value) (an : Option Addr) (cdv ct : Value) (us : List Value), us.length = ps.length → bindArgs (PySem.W.fnOf x x (defArgs st) (defBody st) (defScope st) .none kV doc pm an cdv ct) ⟨us, []⟩ = pure (ps.zip us))
    (len : ∀ vs H Q E, sp vs H Q E → vs.length = ps.length)
    (body : ∀ (f : Addr) (cdv : Value) (A : Around) (outer : List Env) (s : Shared) (H : Hp) (vs : List V) (Q : VK) (E : XK), Room k (A.deeper (envOfC x (defScope st) s.heap.objs.size f cdv)) → sp vs H Q E →
      ∃ t, PSs (cxOf (L2.CX P w) P w K mg base N x (defScope st) f cdv A outer s H E) (defBody st) t ∧ t { nx := fun _ H' => Q .non H', rt := Q } (start N vs) H) : Cal P w K mg base (L2.CX P w) (k + 1) x sp := by
  obtain ⟨f, fd, F, hm⟩ := D.ex
  exact ⟨f, fd, ps, F.okX S len (body f), hm, F.kp, F.binds hb⟩
end
section
variable {X : Cx} {k j : Nat} {x : Str} {sp : Sp} {p pos : Pos} {e : Expr} {es : List Expr} {t : TA}
/-- f(a, ..), f a def of the module that lets no exception out -/
theorem pe_c (c : Cal X.prog X.w X.K X.mg X.base CX0 k x sp) (hr : Room j X.A) (hk : k ≤ j) (ha : PA X (e :: es) t) (hg : Gl X x := by rfl)
    (hdb : (x == ("__debug__" : Str)) = false := by decide) (he : starEach (e :: es) X.env = (false, eval e X.env) :: starEach es X.env := by rfl) (hpl : (backTo pos (starEach es X.env)).any (·.1) = false := by rfl) :
    PE X (.Call (.Name x p) (e :: es) [] pos) (tCall sp [] E0 t) := by
  obtain ⟨f, fd, ps, F, hm, kp, b⟩ := c.ex
  exact pe_call F (hr.mono hk) hg hm kp b .nil pass0 ha hdb he hpl
/-- a name of the module, by its value -/
theorem pe_g {v : V} (h : ∃ u, X.mg x = some u ∧ RelV v u) (hg : Gl X x := by rfl) (hd : (x == ("__debug__" : Str)) = false := by decide) : PE X (.Name x pos) (tC v) := by
  obtain ⟨u, hm, r⟩ := h
  exact pe_glob hg hm r hd
end
/-- what the module's top says of the built-in names and of its constants -/
structure Env1 (K : PySem.W.Frag) (mg : Str → Option Value) : Prop where
  len : mg "len" = none
  isi : mg "isinstance" = none
  str : mg "str" = none
  tuple : mg "tuple" = none
  list : mg "list" = none
  int : mg "int" = none
  bool : mg "bool" = none
  set : mg "set" = none
  sorted : mg "sorted" = none
  max : mg "max" = none
  range : mg "range" = none
  all : mg "all" = none
  any : mg "any" = none
  reserved : ∃ a, mg "RESERVED" = some (.ref a) ∧ ∀ H, SqT K H a (reserved.map V.str)
  atoms : ∃ a, mg "ATOMS" = some (.ref a) ∧ ∀ H, SqT K H a (atoms.map V.str)
  first : ∃ u, mg "FIRST_SIGNS" = some u ∧ RelV (.str firstSigns) u
  later : ∃ u, mg "LATER_SIGNS" = some u ∧ RelV (.str laterSigns) u
  signs : ∃ u, mg "MOST_SIGNS" = some u ∧ RelV (.int 12) u
  depth : ∃ u, mg "MOST_DEPTH" = some u ∧ RelV (.int 40) u
  trees : ∃ u, mg "MOST_TREES" = some u ∧ RelV (.int 20000) u
  width : ∃ u, mg "MOST_WIDTH" = some u ∧ RelV (.int 60) u
  arity : ∃ u, mg "MOST_ARITY" = some u ∧ RelV (.int 3) u
end K52

set_option maxRecDepth 100000
set_option maxHeartbeats 4000000
namespace K52
open PySem PySem.Spec PyProof.Rows L2
/-! ### tuples stay -/
def Keep (H H' : Hp) : Prop := ∀ b xs, H b = some (.tup xs) → H' b = some (.tup xs)
theorem Keep.refl (H : Hp) : Keep H H := fun _ _ h => h
theorem Keep.trans {H H1 H2 : Hp} (a : Keep H H1) (b : Keep H1 H2) : Keep H H2 := fun c o h => b c o (a c o h)
theorem keep_of {H H' : Hp} (e : Same H H') : Keep H H' := fun b xs h => e b _ h
theorem keep_upd {H : Hp} {p : Addr} {o : HO} (h : ∀ xs, H p ≠ some (.tup xs)) : Keep H (upd H p o) := fun b xs q => by
  rw [upd_ne fun z => h xs (by rw [← z]; exact q)]
  exact q
theorem keep_lst {H : Hp} {p : Addr} {o : HO} {l : List V} (h : H p = some (.lst l)) : Keep H (upd H p o) := keep_upd fun xs z => by rw [h] at z; cases z
theorem keep_dK {H : Hp} {p : Addr} {o : HO} {l : List (Key × V)} (h : H p = some (.dK l)) : Keep H (upd H p o) := keep_upd fun xs z => by rw [h] at z; cases z
theorem keep_dT {H : Hp} {p : Addr} {o : HO} {l : List (List Key × V)} (h : H p = some (.dT l)) : Keep H (upd H p o) := keep_upd fun xs z => by rw [h] at z; cases z
theorem keep_new {H : Hp} {p : Addr} (h : H p = none) (o : HO) : Keep H (upd H p o) := keep_of (same_new h o)
/-- an object changes that was not there at first -/
theorem same_upd {H H' : Hp} {p : Addr} (e : Same H H') (h : H p = none) (o : HO) : Same H (upd H' p o) := fun b u q => by
  rw [upd_ne (ne_of_none q h)]
  exact e b u q
mutual
/-- data of tuples and texts that stands in H -/
inductive Td (H : Hp) : V → PyData → Prop
  | str (x : Str) : Td H (.str x) (.str x)
  | tup {a : Addr} {xs : List V} {ds : List PyData} : H a = some (.tup xs) → TdAll H xs ds → Td H (.ref a) (.tuple ds)
inductive TdAll (H : Hp) : List V → List PyData → Prop
  | nil : TdAll H [] []
  | cons {v : V} {vs : List V} {d : PyData} {ds : List PyData} : Td H v d → TdAll H vs ds → TdAll H (v :: vs) (d :: ds)
end
mutual
theorem Td.keep {H H' : Hp} (e : Keep H H') : ∀ {v : V} {d : PyData}, Td H v d → Td H' v d
  | _, _, .str x => .str x
  | _, _, .tup h ha => .tup (e _ _ h) (TdAll.keep e ha)
theorem TdAll.keep {H H' : Hp} (e : Keep H H') : ∀ {vs : List V} {ds : List PyData}, TdAll H vs ds → TdAll H' vs ds
  | _, _, .nil => .nil
  | _, _, .cons h ha => .cons (Td.keep e h) (TdAll.keep e ha)
end
mutual
theorem Td.dp {K : PySem.W.Frag} {H : Hp} : ∀ {v : V} {d : PyData}, Td H v d → Dp K H v d
  | _, _, .str x => .str x
  | _, _, .tup h ha => .tup (SqT.of h) (TdAll.dp ha)
theorem TdAll.dp {K : PySem.W.Frag} {H : Hp} : ∀ {vs : List V} {ds : List PyData}, TdAll H vs ds → DpAll K H vs ds
  | _, _, .nil => .nil
  | _, _, .cons h ha => .cons (Td.dp h) (TdAll.dp ha)
end
theorem td_strs {H : Hp} : ∀ vs : List Str, TdAll H (vs.map V.str) (vs.map PyData.str)
  | [] => .nil
  | z :: vs => .cons (.str z) (td_strs vs)
theorem strs_td {H : Hp} : ∀ {vs : List Str} {xs : List V}, TdAll H xs (vs.map PyData.str) → xs = vs.map V.str
  | [], _, .nil => rfl
  | z :: vs, _, .cons h ha => by
    cases h
    rw [strs_td (vs := vs) ha]
    rfl
theorem td_tup {H : Hp} {l : List PyData} {v : V} (h : Td H v (sq true l)) : ∃ a xs, v = .ref a ∧ H a = some (.tup xs) ∧ TdAll H xs l := by
  have h : Td H v (.tuple l) := h
  cases h with
  | tup h1 h2 => exact ⟨_, _, rfl, h1, h2⟩
/-- a tree told by tuples stands at v -/
abbrev At (H : Hp) (t : Tr) (v : V) : Prop := Td H v (t.dat true)
/-! ### a comprehension without a test: one name, each element made by its own -/
theorem lc_name {J : It} {n : Nat} {G : Hp → Prop} {Y : Nat → Hp → V → Hp → Prop} (w : Walk J n G Y) {i0 : Nat} {te : TE} {vs : List Nat} {σ : L2.St} {H1 : Hp} {D : Addr} {Qd : Hp → Prop} (R : Nat → V → Hp → Prop)
    (hY : ∀ i H x H', Y i H x H' → H' = H) (hD : H1 D = none) (hn : n < sizeLine) (hG : ∀ H, Same H1 H → G H) (hR : ∀ i v H H', Keep H H' → R i v H → R i v H') (hw : ∀ x, wipe ((wipe σ vs).set i0 (some x)) vs = wipe σ vs)
    (hs : ∀ i x H (N : V → Hp → Prop), i < n → Same H1 H → Y i H x H → (∀ y H4, Same H H4 → R i y H4 → N y H4) → te ((wipe σ vs).set i0 (some x)) H N)
    (hd : ∀ ys H, ys.length = n → (∀ i y, ys[i]? = some y → R i y H) → Same H1 H → H D = some (.lst ys) → Qd H) :
    ∃ W : Nat → Nat → Hp → Prop, (∃ m, W 0 m (upd H1 D (.lst []))) ∧ ∀ i m H, W i m H →
      (J.stop i H ∧ Qd H) ∨ (J.go i H ∧ ∃ Nx : Hp → Prop, (∀ H', Nx H' → ∃ m', m' < m ∧ W (i + 1) m' H') ∧ ∀ x H', J.yld i H x H' → gName i0 x (wipe σ vs) H' fun σ2 H2 => wipe σ2 vs = wipe σ vs ∧ tYes σ2 H2 fun b H3 =>
        if b = true then te σ2 H3 fun y H4 => ∃ acc, H4 D = some (.lst acc) ∧ acc.length < sizeLine ∧ Nx (upd H4 D (.lst (acc ++ [y]))) else Nx H3) := by
  refine lc_it w (fun i H => ∃ ys, ys.length = i ∧ (∀ k y, ys[k]? = some y → R k y H) ∧ Same H1 H ∧ H D = some (.lst ys)) ⟨[], rfl, fun k y z => by simp at z, same_new hD _, upd_same⟩ (fun i H _ ⟨_, _, _, s, _⟩ => hG H s) ?_ fun H ⟨ys, h1, h2, h3, h4⟩ => hd ys H h1 h2 h3 h4
  rintro i x H H' hi ⟨ys, h1, h2, h3, h4⟩ y
  have eH := hY i H x H' y
  subst eH
  refine ⟨hw x, hs i x _ _ hi h3 y fun z H4 s4 r4 => ?_⟩
  have d4 := s4 D _ h4
  refine ⟨ys, d4, by omega, ys ++ [z], by rw [List.length_append, h1, List.length_singleton], fun k u e => ?_, same_upd (h3.trans s4) hD _, upd_same⟩
  by_cases hk : k < ys.length
  · rw [List.getElem?_append_left hk] at e
    exact hR _ _ _ _ ((keep_of s4).trans (keep_lst d4)) (h2 k u e)
  · rw [List.getElem?_append_right (by omega)] at e
    have hk2 : k - ys.length = 0 := by
      have := (List.getElem?_eq_some_iff.mp e).1
      rw [List.length_singleton] at this
      omega
    rw [hk2] at e
    have e2 : z = u := Option.some.inj e
    subst e2
    have hk3 : k = i := by omega
    subst hk3
    exact hR _ _ _ _ (keep_lst d4) r4
/-! ### a name that holds a sequence of either kind, walked -/
def itS (K : PySem.W.Frag) (a : Addr) : Bool → It
  | true => Itt K a
  | false => Itl K a
theorem walk_sq {K : PySem.W.Frag} {a : Addr} {xs : List V} : ∀ {b : Bool}, Walk (itS K a b) xs.length (fun H => Sq K H a xs b) (YAt xs)
  | true => walk_tup
  | false => walk_list
theorem Sq.same {K : PySem.W.Frag} {H H' : Hp} {a : Addr} {xs : List V} (e : Same H H') : ∀ {b : Bool}, Sq K H a xs b → Sq K H' a xs b
  | true, h => same_tup e h
  | false, h => e.seq h
def iSqV (K : PySem.W.Frag) (i : Nat) : TI := fun σ H R => ∃ b a xs, σ[i]? = some (some (.ref a)) ∧ Sq K H a xs b ∧ R (itS K a b) H
theorem pi_sqv {X : Cx} {tg : Expr} (i : Nat) {x : Str} {pos : Pos} (hN : X.N[i]? = some x := by rfl) (hv : Vis X.env.scope x := by first | exact Or.inl rfl | exact Or.inr (Or.inl rfl) | exact Or.inr (Or.inr rfl)) (hd : (x == ("__debug__" : Str)) = false := by decide)
    (hcd : (x == ("__classdict__" : Str)) = false := by decide) : PI X tg (.Name x pos) (iSqV X.K i) := by
  constructor
  intro pins s σ H R I h
  obtain ⟨b, a, xs, hs, hq, hr⟩ := h
  cases b with
  | true => exact (pi_tup (pe_var hN hv hd hcd)).run pins s σ H R I ⟨_, hs, a, rfl, ⟨xs, hq⟩, hr⟩
  | false => exact (pi_list (pe_var hN hv hd hcd)).run pins s σ H R I ⟨_, hs, a, rfl, ⟨xs, hq⟩, hr⟩
end K52

set_option maxRecDepth 100000
set_option maxHeartbeats 4000000
namespace K52
open PySem PySem.Spec PyProof.Rows L2
section
variable {P : Program} {w : World} {K : PySem.W.Frag} {mg : Str → Option Value} {base : Heap}
/-! ### is_name -/
abbrev sIsName : Stmt := top 28
def spIsName : Sp := fun vs H Q _ => ∃ (z : Str), vs = [.str z] ∧ isNm z = true ∧ ∀ H', Same H H' → Q (.bl true) H'
theorem scIsName : FnScope ["value", "sign"] ["value"] (defScope sIsName) := ⟨rfl, rfl, rfl, by decide +kernel, rfl, by decide +kernel, by decide +kernel⟩
/-- what isNm says, part by part -/
structure Nm (z : Str) : Prop where
  res : z ∉ reserved
  pos : 0 < z.cps.toList.length
  le : z.cps.toList.length ≤ 12
  fst : z.cps.toList.getD 0 0 ∈ firstSigns.cps.toList
  lat : ∀ c ∈ z.cps.toList, c ∈ laterSigns.cps.toList
  ok : PyData.strOk z = true
theorem nm_of {z : Str} (h : isNm z = true) : Nm z := by
  unfold isNm at h
  simp only [Bool.and_eq_true, decide_eq_true_eq, List.all_eq_true] at h
  obtain ⟨⟨⟨⟨⟨h1, h2⟩, h3⟩, h4⟩, h5⟩, h6⟩ := h
  exact ⟨h1, h2, h3, h4, h5, h6⟩
theorem inV_strs (z : Str) : ∀ l : List Str, inV (.str z) (l.map V.str) = decide (z ∈ l)
  | [] => rfl
  | x :: l => by
    have ih := inV_strs z l
    unfold inV at ih ⊢
    rw [List.map_cons, List.any_cons, ih]
    by_cases e : x = z
    · subst e
      simp [eqV]
    · have e2 : ¬ z = x := fun h => e h.symm
      simp [eqV, e, e2]
theorem flat_txts : ∀ l : List Str, (l.map V.str).all flatV = true
  | [] => rfl
  | x :: l => by
    rw [List.map_cons, List.all_cons, flat_txts l]
    rfl
theorem bools_of {ys : List V} {n : Nat} {b : Bool} (hl : ys.length = n) (h : ∀ (i : Nat) (y : V), ys[i]? = some y → y = .bl b) : ys = (List.replicate n b).map V.bl := by
  apply List.ext_getElem?
  intro j
  rw [List.getElem?_map, List.getElem?_replicate]
  cases hj : ys[j]? with
  | none =>
    have := List.getElem?_eq_none_iff.mp hj
    rw [if_neg (by omega)]
    rfl
  | some y =>
    have := (List.getElem?_eq_some_iff.mp hj).1
    rw [if_pos (by omega), h j y hj]
    rfl
theorem cal_is_name (E1 : Env1 K mg) (D : Def K mg "is_name" sIsName) : Cal P w K mg base CX0 1 "is_name" spIsName := by
  refine cal_mk D scIsName (fun _ _ _ _ _ _ us hl => match us, hl with | [_], _ => rfl) (fun vs H Q E h => ?_) (fun f cdv A outer s H vs Q E hr h => ?_)
  · obtain ⟨z, rfl, _⟩ := h
    rfl
  obtain ⟨z, rfl, hz, q⟩ := h
  have n := nm_of hz
  obtain ⟨ar, mr, hR⟩ := E1.reserved
  have hlen : z.length = z.cps.toList.length := by simp [Str.length]
  have hsz : z.length ≤ sizeLine := by rw [hlen]; exact Nat.le_of_lt (small1000 (Nat.le_trans n.le (by decide)))
  refine ⟨_, pss_cons (ps_if (PW.pt (pw_or (pt_not (pt_val (pe_callB call_isi rfl E1.isi (by decide +kernel) (pa_cons (pv 0) (pa_cons (pe_bltn (v := .ty "str") (u := .type "str") rfl E1.str (by decide +kernel) rfl) pa_nil)))))
      (pw_or1 (pt_cmpR op_in_seq (pv 0) (pe_g (v := .ref ar) ⟨_, mr, rfl⟩) rfl)))) (pss_one (ps_ret pe_bl)) pss_nil)
    (pss_cons (ps_if (PW.pt (pw_or (pt_cmpR op_eq (pe_callB call_len_str rfl E1.len boot_len (pa_cons (pv 0) pa_nil)) pe_int (nomark _))
      (pw_or (pt_cmpR op_gt (pe_callB call_len_str rfl E1.len boot_len (pa_cons (pv 0) pa_nil)) (pe_g E1.signs) (nomark _))
      (pw_or1 (pt_cmpR op_notIn_sign (pe_item_str (pv 0) pe_int (fun _ _ => rfl)) (pe_g E1.first) rfl))))) (pss_one (ps_ret pe_bl)) pss_nil)
    (pss_one (ps_ret (pe_callB (cr_all rfl) rfl E1.all (by decide +kernel) (pa_cons (pe_lc (own := [("sign", 1)]) (g := gName 1) (tt := tYes) rfl scIsName.nd (pi_str (pv 0)) (blkOk_by (N := ["value", "sign"]) (sc := defScope sIsName) (by decide +kernel))
      (fun _ _ _ _ _ => pg_name (i := 1) scIsName.nd rfl (Or.inl rfl)) (fun _ _ _ _ _ => pts_nil) (fun _ _ _ _ _ => pe_cmpR op_in_sign (pv 1) (pe_g E1.later) rfl)) pa_nil))))), ?_⟩
  refine ⟨_, rfl, .str z, .ty "str", .type "str", .type "str", true, rfl, .ty "str", .base (.str z), kit_ty (by decide +kernel), true, rfl, ?_⟩
  refine ⟨_, rfl, ar, reserved.map V.str, rfl, .inr (hR _), rfl, flat_txts _, false, ?_, ?_⟩
  · rw [inV_strs, decide_eq_false n.res]
    rfl
  refine ⟨_, rfl, z, rfl, hsz, rfl, false, ?_, ?_⟩
  · congr 1
    have := n.pos
    exact decide_eq_false fun e => by
      have e2 := V.int.inj e
      rw [hlen] at e2
      omega
  refine ⟨_, rfl, z, rfl, hsz, _, _, rfl, rfl, false, ?_, ?_⟩
  · have z1 : decide ((12 : Int) < (z.length : Int)) = false := decide_eq_false (by rw [hlen]; have := n.le; omega)
    exact congrArg V.bl z1
  refine ⟨_, rfl, z, 0, z.cps.toList.getD 0 0, rfl, rfl, Int.le_refl 0, by decide, ?_, ?_, _, _, rfl, rfl, false, ?_, ?_⟩
  · have := n.pos
    rw [hlen]
    omega
  · have := n.pos
    rw [← Array.getElem?_toList, List.getD_eq_getElem?_getD]
    show z.cps.toList[0]? = _
    rw [List.getElem?_eq_getElem this]
    rfl
  · rw [decide_eq_true n.fst]
    rfl
  refine ⟨_, rfl, z, rfl, fun T hT => ?_⟩
  refine lc_name walk_str (fun _ v _ => v = .bl true) (fun _ _ _ _ h => h.1) hT ?_ (fun _ _ => True.intro) (fun _ _ _ _ _ h => h) (fun _ => rfl) ?_ ?_
  · rw [← Array.length_toList]
    exact small1000 (Nat.le_trans n.le (by decide))
  · rintro i x H2 N hi s2 ⟨_, c, hc, rfl⟩ k
    refine ⟨_, rfl, c, _, rfl, rfl, ?_⟩
    refine k _ _ (Same.refl _) (congrArg V.bl (decide_eq_true (n.lat c ?_)))
    rw [← Array.getElem?_toList] at hc
    exact List.mem_of_getElem? hc
  · intro ys H2 hl hy s2 hd
    have e : ys = (List.replicate z.cps.size true).map V.bl := bools_of hl fun i y e => hy i y e
    rw [e] at hd
    refine ⟨T, _, rfl, .inl (.inl hd), ?_⟩
    rw [show (List.replicate z.cps.size true).all id = true by simp]
    exact q _ s2
end
end K52

set_option maxRecDepth 100000
set_option maxHeartbeats 4000000
namespace K52
open PySem PySem.Spec PyProof.Rows L2
section
variable {P : Program} {w : World} {K : PySem.W.Frag} {mg : Str → Option Value} {base : Heap}
/-! ### is_sequence, checked_name, checked_names -/
abbrev sIsSeq : Stmt := top 29
def spIsSeq (K : PySem.W.Frag) : Sp := fun vs H Q _ => ∃ (a : Addr) (b : Bool) (xs : List V), vs = [.ref a] ∧ Sq K H a xs b ∧ ∀ H', Same H H' → Q (.bl true) H'
theorem scIsSeq : FnScope ["value"] ["value"] (defScope sIsSeq) := ⟨rfl, rfl, rfl, by decide +kernel, rfl, by decide +kernel, by decide +kernel⟩
theorem kit_sq : ∀ b : Bool, PySem.W.kitAny K (tyS b) [.type "tuple", .type "list"] = some true
  | true => kitAny_cons (b := true) (kit_ty (by decide +kernel)) (fun z => nomatch z) fun _ => rfl
  | false => kitAny_cons (b := false) (kit_ty (by decide +kernel)) (fun _ => kitAny_cons (b := true) (kit_ty (by decide +kernel)) (fun z => nomatch z) fun _ => rfl) fun z => nomatch z
theorem two_line : 2 ≤ sizeLine := by decide
theorem cal_is_sequence (E1 : Env1 K mg) (D : Def K mg "is_sequence" sIsSeq) : Cal P w K mg base CX0 1 "is_sequence" (spIsSeq K) := by
  refine cal_mk D scIsSeq (fun _ _ _ _ _ _ us hl => match us, hl with | [_], _ => rfl) (fun vs H Q E h => ?_) (fun f cdv A outer s H vs Q E hr h => ?_)
  · obtain ⟨a, b, xs, rfl, _⟩ := h
    rfl
  obtain ⟨a, b, xs, rfl, hS, q⟩ := h
  refine ⟨_, pss_one (ps_ret (pe_callB call_isiT rfl E1.isi (by decide +kernel) (pa_cons (pv 0) (pa_cons (pe_tup (pa_cons (pe_bltn (v := .ty "tuple") (u := .type "tuple") rfl E1.tuple (by decide +kernel) rfl)
    (pa_cons (pe_bltn (v := .ty "list") (u := .type "list") rfl E1.list (by decide +kernel) rfl) pa_nil))) pa_nil)))), ?_⟩
  refine ⟨_, rfl, two_line, fun p hp => ?_⟩
  exact ⟨.ref a, p, _, tyS b, _, true, rfl, upd_same, .cons (.ty "tuple") (.cons (.ty "list") .nil), (hS.same (same_new hp _)).ty, kit_sq b, q _ (same_new hp _)⟩
abbrev sChName : Stmt := top 30
def spChName : Sp := fun vs H Q _ => ∃ (z : Str), vs = [.str z] ∧ isNm z = true ∧ ∀ H', Same H H' → Q (.str z) H'
theorem scChName : FnScope ["value"] ["value"] (defScope sChName) := ⟨rfl, rfl, rfl, by decide +kernel, rfl, by decide +kernel, by decide +kernel⟩
theorem cal_checked_name (D : Def K mg "checked_name" sChName) (c1 : Cal P w K mg base CX0 1 "is_name" spIsName) : Cal P w K mg base CX0 2 "checked_name" spChName := by
  refine cal_mk D scChName (fun _ _ _ _ _ _ us hl => match us, hl with | [_], _ => rfl) (fun vs H Q E h => ?_) (fun f cdv A outer s H vs Q E hr h => ?_)
  · obtain ⟨z, rfl, _⟩ := h
    rfl
  obtain ⟨z, rfl, hz, q⟩ := h
  refine ⟨_, pss_cons (ps_if (pt_not (pt_val (pe_c c1 hr (Nat.le_refl _) (pa_cons (pv 0) pa_nil)))) (pss_one ps_never) pss_nil) (pss_one (ps_ret (pv 0))), ?_⟩
  refine ⟨_, rfl, z, rfl, hz, fun H' s' => ⟨true, rfl, _, rfl, q _ s'⟩⟩
abbrev sChNames : Stmt := top 31
def spChNames (K : PySem.W.Frag) : Sp := fun vs H Q _ => ∃ (a : Addr) (b : Bool) (zs : List Str) (lo hi : Int), vs = [.ref a, .int lo, .int hi] ∧ Sq K H a (zs.map V.str) b ∧ (∀ z ∈ zs, isNm z = true) ∧ lo ≤ (zs.length : Int) ∧ (zs.length : Int) ≤ hi ∧ zs.length ≤ 1000 ∧
  ∀ H' p, Same H H' → H' p = some (.tup (zs.map V.str)) → Q (.ref p) H'
theorem scChNames : FnScope ["value", "least", "most", "name"] ["value", "least", "most"] (defScope sChNames) := ⟨rfl, rfl, rfl, by decide +kernel, rfl, by decide +kernel, by decide +kernel⟩
/-- what is known of each item is known of the list -/
theorem eq_of_at {α : Type} {l m : List α} (hl : l.length = m.length) (h : ∀ (i : Nat) (y : α), l[i]? = some y → m[i]? = some y) : l = m := by
  apply List.ext_getElem?
  intro j
  cases hj : l[j]? with
  | none =>
    have := List.getElem?_eq_none_iff.mp hj
    rw [List.getElem?_eq_none (by omega)]
  | some y => exact (h j y hj).symm
theorem cal_checked_names (E1 : Env1 K mg) (D : Def K mg "checked_names" sChNames) (c1 : Cal P w K mg base CX0 1 "is_sequence" (spIsSeq K)) (c2 : Cal P w K mg base CX0 2 "checked_name" spChName) : Cal P w K mg base CX0 3 "checked_names" (spChNames K) := by
  refine cal_mk D scChNames (fun _ _ _ _ _ _ us hl => match us, hl with | [_, _, _], _ => rfl) (fun vs H Q E h => ?_) (fun f cdv A outer s H vs Q E hr h => ?_)
  · obtain ⟨a, b, zs, lo, hi, rfl, _⟩ := h
    rfl
  obtain ⟨a, b, zs, lo, hi, rfl, hS, hz, h1, h2, h3, q⟩ := h
  have el : (zs.map V.str).length = zs.length := List.length_map _
  refine ⟨_, pss_cons (ps_if (PW.pt (pw_or (pt_not (pt_val (pe_c c1 hr (by decide) (pa_cons (pv 0) pa_nil))))
      (pw_or (pt_cmpR op_lt (pe_callB call_len_seq rfl E1.len boot_len (pa_cons (pv 0) pa_nil)) (pv 1) (nomark _))
      (pw_or1 (pt_cmpR op_gt (pe_callB call_len_seq rfl E1.len boot_len (pa_cons (pv 0) pa_nil)) (pv 2) (nomark _)))))) (pss_one ps_never) pss_nil)
    (pss_one (ps_ret (pe_callTy call_tuple_of rfl E1.tuple (by decide +kernel) (pa_cons (pe_lc (own := [("name", 3)]) (g := gName 3) (tt := tYes) rfl scChNames.nd (pi_sqv 0) (blkOk_by (N := ["value", "least", "most", "name"]) (sc := defScope sChNames) (by decide +kernel))
      (fun _ _ _ _ _ => pg_name (i := 3) scChNames.nd rfl (Or.inl rfl)) (fun _ _ _ _ _ => pts_nil) (fun _ _ _ _ _ => pe_c c2 hr (by decide) (pa_cons (pv 3) pa_nil))) pa_nil)))), ?_⟩
  refine ⟨_, rfl, a, b, _, rfl, hS, fun H1 s1 => ⟨true, rfl, ?_⟩⟩
  have hS1 := hS.same s1
  refine ⟨_, rfl, a, _, rfl, hS1.or, _, rfl, _, _, rfl, rfl, false, ?_, ?_⟩
  · exact congrArg V.bl (decide_eq_false (by rw [el]; omega))
  refine ⟨_, rfl, a, _, rfl, hS1.or, _, rfl, _, _, rfl, rfl, false, ?_, ?_⟩
  · exact congrArg V.bl (decide_eq_false (by rw [el]; omega))
  refine ⟨b, a, _, rfl, hS1, fun T hT => ?_⟩
  refine lc_name walk_sq (fun i v _ => (zs.map V.str)[i]? = some v) (fun _ _ _ _ h => h.1) hT ?_ (fun H2 s2 => hS1.same s2) (fun _ _ _ _ _ h => h) (fun _ => rfl) ?_ ?_
  · rw [el]
    exact small1000 h3
  · rintro i x H2 N hi s2 ⟨_, hx⟩ k
    rw [List.getElem?_map] at hx
    cases e : zs[i]? with
    | none =>
      rw [e] at hx
      cases hx
    | some z =>
      rw [e] at hx
      obtain rfl : V.str z = x := Option.some.inj hx
      refine ⟨_, rfl, z, rfl, hz z (List.mem_of_getElem? e), fun H3 s3 => k _ _ s3 ?_⟩
      rw [List.getElem?_map, e]
      rfl
  · intro ys H2 hl hy s2 hd
    have e : ys = zs.map V.str := eq_of_at hl hy
    rw [e] at hd
    exact ⟨T, _, rfl, .inl ⟨SqL.of hd, fun p hp => q _ p ((s1.trans s2).trans (same_new hp _)) upd_same⟩⟩
end
end K52

set_option maxRecDepth 100000
set_option maxHeartbeats 4000000
namespace K52
open PySem PySem.Spec PyProof.Rows L2
theorem ar_le (nm : Str) : 1 ≤ ar nm ∧ ar nm ≤ 3 := by
  unfold ar
  split
  · exact ⟨by decide, by decide⟩
  · split
    · exact ⟨by decide, by decide⟩
    · split
      · exact ⟨by decide, by decide⟩
      · exact ⟨by decide, by decide⟩
theorem td_mk {H : Hp} {a : Addr} {xs : List V} {l : List PyData} (h : H a = some (.tup xs)) (r : TdAll H xs l) : Td H (.ref a) (sq true l) := .tup h r
theorem td_str {H : Hp} {v : V} {x : Str} (h : Td H v (.str x)) : v = .str x := by
  cases h
  rfl
theorem dp_str {K : PySem.W.Frag} {H : Hp} {v : V} {x : Str} (h : Dp K H v (.str x)) : v = .str x := by
  cases h
  rfl
theorem dps_cons {K : PySem.W.Frag} {H : Hp} {xs : List V} {d : PyData} {ds : List PyData} (h : DpAll K H xs (d :: ds)) : ∃ v vs, xs = v :: vs ∧ Dp K H v d ∧ DpAll K H vs ds := by
  cases h with
  | cons h1 h2 => exact ⟨_, _, rfl, h1, h2⟩
theorem dps_nil {K : PySem.W.Frag} {H : Hp} {xs : List V} (h : DpAll K H xs []) : xs = [] := by
  cases h
  rfl
theorem tds_cons {H : Hp} {xs : List V} {d : PyData} {ds : List PyData} (h : TdAll H xs (d :: ds)) : ∃ v vs, xs = v :: vs ∧ Td H v d ∧ TdAll H vs ds := by
  cases h with
  | cons h1 h2 => exact ⟨_, _, rfl, h1, h2⟩
theorem tds_nil {H : Hp} {xs : List V} (h : TdAll H xs []) : xs = [] := by
  cases h
  rfl
theorem at_hd {x : V} {l : List V} : atI (x :: l) 0 = some x := atI_nat (j := 0) rfl
/-- the words -/
theorem bl_eq {p : Prop} [Decidable p] (h : p) : V.bl (decide p) = V.bl true := congrArg V.bl (decide_eq_true h)
theorem bl_ne {p : Prop} [Decidable p] (h : ¬ p) : V.bl (decide p) = V.bl false := congrArg V.bl (decide_eq_false h)
theorem in_txts {z : Str} {l : List Str} (h : z ∈ l) : V.bl (inV (.str z) (l.map V.str)) = V.bl true := by rw [inV_strs, decide_eq_true h]
theorem out_txts {z : Str} {l : List Str} (h : z ∉ l) : V.bl (inV (.str z) (l.map V.str)) = V.bl false := by rw [inV_strs, decide_eq_false h]
theorem str_ne {x y : Str} (h : x ≠ y) : ¬ V.str x = V.str y := fun e => h (V.str.inj e)
section
variable {P : Program} {w : World} {K : PySem.W.Frag} {mg : Str → Option Value} {base : Heap}
/-- an atom -/
inductive Atom : Tr → Prop
  | rel (nm : Str) (vs : List Str) : Atom (.rel nm vs)
  | atm (wd : Str) (vs : List Str) : Atom (.atm wd vs)
abbrev sChAtom : Stmt := top 32
def spChAtom (K : PySem.W.Frag) : Sp := fun vs H Q _ => ∃ (v : V) (b : Bool) (t : Tr), vs = [v] ∧ Dp K H v (t.dat b) ∧ Atom t ∧ t.Good ∧ ∀ H' v', Same H H' → At H' t v' → Q v' H'
theorem scChAtom : FnScope ["tree", "word", "many"] ["tree"] (defScope sChAtom) := ⟨rfl, rfl, rfl, by decide +kernel, rfl, by decide +kernel, by decide +kernel⟩
theorem cal_checked_atom (E1 : Env1 K mg) (D : Def K mg "checked_atom" sChAtom) (c2 : Cal P w K mg base CX0 2 "checked_name" spChName) (c3 : Cal P w K mg base CX0 3 "checked_names" (spChNames K)) : Cal P w K mg base CX0 4 "checked_atom" (spChAtom K) := by
  refine cal_mk D scChAtom (fun _ _ _ _ _ _ us hl => match us, hl with | [_], _ => rfl) (fun vs H Q E h => ?_) (fun f cdv A outer s H vs Q E hr h => ?_)
  · obtain ⟨v, b, t, rfl, _⟩ := h
    rfl
  obtain ⟨v, b, t, rfl, hd, ha, hg, q⟩ := h
  refine ⟨_, pss_cons (ps_set (i := 1) scChAtom.nd rfl (Or.inl rfl) (pe_ix ix_sq (pv 0) pe_int (fun _ _ => rfl)))
    (pss_cons (ps_if (pt_cmpR op_eq (pv 1) pe_str (nomark _))
      (pss_cons (ps_if (pt_cmpR op_ne (pe_callB call_len_seq rfl E1.len boot_len (pa_cons (pv 0) pa_nil)) pe_int (nomark _)) (pss_one ps_never) pss_nil)
      (pss_one (ps_ret (pe_tup (pa_cons pe_str (pa_cons (pe_c c2 hr (by decide) (pa_cons (pe_ix ix_sq (pv 0) pe_int (fun _ _ => rfl)) pa_nil))
        (pa_cons (pe_c c3 hr (Nat.le_refl _) (pa_cons (pe_ix ix_sq (pv 0) pe_int (fun _ _ => rfl)) (pa_cons pe_int (pa_cons (pe_g E1.arity) pa_nil)))) pa_nil))))))) pss_nil)
    (pss_cons (ps_set (i := 2) scChAtom.nd rfl (Or.inl rfl) (pe_ifExp (pt_cmpR op_in_seq (pv 1) (pe_tup (pa_cons pe_str (pa_cons pe_str pa_nil))) rfl) pe_int pe_int))
    (pss_one (ps_ret (pe_op op_catA (pe_tup (pa_cons (pv 1) pa_nil)) (pe_c c3 hr (Nat.le_refl _) (pa_cons (pe_slice sl_sq (pv 0) (po_some pe_int) po_none) (pa_cons (pv 2) (pa_cons (pv 2) pa_nil))))))))), ?_⟩
  cases ha with
  | rel nm vs =>
    obtain ⟨a, xs, rfl, hS, hxs⟩ := dp_sq hd
    obtain ⟨x0, xs1, rfl, h0, hxs1⟩ := dps_cons hxs
    obtain ⟨x1, xs2, rfl, h1, hxs2⟩ := dps_cons hxs1
    obtain ⟨x2, xs3, rfl, h2, hxs3⟩ := dps_cons hxs2
    obtain rfl := dps_nil hxs3
    obtain rfl := dp_str h0
    obtain rfl := dp_str h1
    obtain ⟨c, ys, rfl, hS2, hys⟩ := dp_sq h2
    obtain rfl := dps_strs hys
    obtain ⟨g1, g2, g3⟩ := hg
    refine ⟨_, rfl, b, a, _, 0, _, rfl, rfl, hS, rfl, ?_⟩
    refine ⟨_, rfl, rfl, true, bl_eq rfl, ?_⟩
    refine ⟨_, rfl, a, _, rfl, hS.or, rfl, false, rfl, ?_⟩
    refine ⟨_, rfl, b, a, _, 1, _, rfl, rfl, hS, rfl, nm, rfl, rels_nm nm g1, fun H1 s1 => ?_⟩
    refine ⟨_, rfl, b, a, _, 2, _, rfl, rfl, hS.same s1, rfl, c, b, vs, 1, 3, rfl, hS2.same s1, fun z hz => menu_nm z (g3 z hz), ?_, ?_, ?_, fun H2 p s2 hp => ?_⟩
    · have := ar_le nm
      omega
    · have := ar_le nm
      omega
    · have := ar_le nm
      omega
    refine ⟨by show 3 ≤ sizeLine; decide, fun p2 hp2 => ?_⟩
    refine q _ _ ((s1.trans s2).trans (same_new hp2 _)) ?_
    exact td_mk upd_same (.cons (.str _) (.cons (.str _) (.cons (td_mk (keep_new hp2 _ _ _ hp) (td_strs vs)) .nil)))
  | atm wd vs =>
    obtain ⟨a, xs, rfl, hS, hxs⟩ := dp_sq hd
    obtain ⟨x0, xs1, rfl, h0, hxs1⟩ := dps_cons hxs
    obtain rfl := dp_str h0
    obtain rfl := dps_strs hxs1
    obtain ⟨g1, g2⟩ := hg
    have nrel : wd ≠ "rel" := by
      rcases g1 with ⟨g1, _⟩ | ⟨g1, _⟩
      · rintro rfl
        exact absurd g1 (by decide +kernel)
      · rintro rfl
        exact absurd g1 (by decide +kernel)
    refine ⟨_, rfl, b, a, _, 0, _, rfl, rfl, hS, at_hd, ?_⟩
    refine ⟨_, rfl, rfl, false, bl_ne (str_ne nrel), ?_⟩
    refine ⟨_, rfl, two_line, fun p hp => ?_⟩
    have s1 := same_new hp (HO.tup ((["first", "last"] : List Str).map V.str))
    -- the rest, with the number of variables known
    have fin : ∀ n : Int, vs.length = n.toNat → 1 ≤ n → n ≤ 2 → tRet (tOp (rCatA K) (tTup (tCons (tVar 1) tNil)) (tCall (spChNames K) [] E0 (tCons (tSl (rSlSq K) (tVar 0) (tPart (tC (.int 1))) tNoPart) (tCons (tVar 2) (tCons (tVar 2) tNil)))))
        { nx := fun _ H' => Q .non H', rt := Q } [some (.ref a), some (.str wd), some (.int n)] (upd H p (.tup ((["first", "last"] : List Str).map V.str))) := by
      intro n hn hn1 hn2
      refine ⟨_, rfl, by show 1 ≤ sizeLine; decide, fun p1 hp1 => ?_⟩
      have s2 := s1.trans (same_new hp1 (HO.tup [V.str wd]))
      have hcut : ¬ (HT.sIx (V.str wd :: vs.map V.str).length 0 (some 1) = 0 ∧ HT.sIx (V.str wd :: vs.map V.str).length (V.str wd :: vs.map V.str).length none = (V.str wd :: vs.map V.str).length) := by
        rintro ⟨z, _⟩
        have : HT.sIx (V.str wd :: vs.map V.str).length 0 (some ((1 : Nat) : Int)) = min 1 (V.str wd :: vs.map V.str).length := HT.sIx_nat _ _ 1
        have e : (V.str wd :: vs.map V.str).length = (vs.map V.str).length + 1 := rfl
        rw [e] at this z
        have z' : HT.sIx ((vs.map V.str).length + 1) 0 (some ((1 : Nat) : Int)) = 0 := z
        omega
      have ecut : cutV (V.str wd :: vs.map V.str) (some 1) none = vs.map V.str := by
        have e : (V.str wd :: vs.map V.str).length = (vs.map V.str).length + 1 := rfl
        have e1 : HT.sIx (V.str wd :: vs.map V.str).length 0 (some 1) = 1 := by
          have : HT.sIx (V.str wd :: vs.map V.str).length 0 (some ((1 : Nat) : Int)) = min 1 (V.str wd :: vs.map V.str).length := HT.sIx_nat _ _ 1
          rw [e] at this ⊢
          have e2 : HT.sIx ((vs.map V.str).length + 1) 0 (some 1) = min 1 ((vs.map V.str).length + 1) := this
          omega
        unfold cutV
        rw [e1, HT.sIx_none, e]
        show ((vs.map V.str).drop 0).take ((vs.map V.str).length + 1 - 1) = vs.map V.str
        rw [List.drop_zero, Nat.add_sub_cancel, List.take_length]
      refine ⟨_, rfl, 1, rfl, b, a, _, rfl, hS.same s2, hcut, fun p2 hp2 => ?_⟩
      rw [ecut]
      have s3 := s2.trans (same_new hp2 (sqO b (vs.map V.str)))
      refine ⟨_, rfl, _, rfl, p2, b, vs, n, n, rfl, Sq.of upd_same, fun z hz => menu_nm z (g2 z hz), by omega, by omega, by omega, fun H3 p3 s4 hp3 => ?_⟩
      have hp1' : H3 p1 = some (.tup [V.str wd]) := s4 _ _ (same_new hp2 _ _ _ upd_same)
      refine ⟨p1, p3, [.str wd], vs.map V.str, rfl, rfl, SqT.of hp1', SqT.of hp3, by rw [List.length_map]; exact Nat.le_of_lt (small1000 (by show 1 + vs.length ≤ 1000; omega)), (fun z => nomatch z), (fun _ z => ?_), fun _ _ p4 hp4 => ?_⟩
      · have : (vs.map V.str).length = 0 := by rw [z]; rfl
        rw [List.length_map] at this
        omega
      · exact q _ _ ((s3.trans s4).trans (same_new hp4 _)) (td_mk upd_same (.cons (.str wd) (td_strs vs)))
    rcases g1 with ⟨g1, gl⟩ | ⟨g1, gl⟩
    · refine ⟨p, (["first", "last"] : List Str).map V.str, rfl, .inr (SqT.of upd_same), rfl, flat_txts _, false, out_txts ?_, ?_⟩
      · simp only [List.mem_cons, List.not_mem_nil, or_false] at g1
        rcases g1 with rfl | rfl | rfl <;> decide +kernel
      · exact fin 2 gl (by decide) (by decide)
    · refine ⟨p, (["first", "last"] : List Str).map V.str, rfl, .inr (SqT.of upd_same), rfl, flat_txts _, true, in_txts g1, ?_⟩
      exact fin 1 gl (by decide) (by decide)
end
end K52

set_option maxRecDepth 100000
set_option maxHeartbeats 4000000
namespace K52
open PySem PySem.Spec PyProof.Rows L2
theorem lit_eq {i j : Int} (h : i = j) : V.bl (decide (V.int i = V.int j)) = V.bl true := bl_eq (congrArg V.int h)
theorem lit_ne {i j : Int} (h : ¬ i = j) : V.bl (decide (V.int i = V.int j)) = V.bl false := bl_ne fun e => h (V.int.inj e)
section
variable {P : Program} {w : World} {K : PySem.W.Frag} {mg : Str → Option Value} {base : Heap}
abbrev sWalk : Stmt := top 33
abbrev sShaped : Stmt := top 34
def spShaped (K : PySem.W.Frag) (n : Nat) : Sp := fun vs H Q _ => ∃ (v : V) (d r : Int) (b : Bool) (t : Tr), vs = [v, .int d, .int r] ∧ Dp K H v (t.dat b) ∧ t.Good ∧ (t.deep : Int) ≤ d ∧ (t.size : Int) ≤ r ∧ t.deep ≤ n ∧
  ∀ H' p q, Same H H' → H' p = some (.tup [q, .int (t.size : Int)]) → At H' t q → Q (.ref p) H'
def spWalk (K : PySem.W.Frag) (n : Nat) : Sp := fun vs H Q _ => ∃ (v : V) (d r : Int) (b : Bool) (l m : List Str) (p : Tr) (st g : List Str), vs = [v, .int d, .int r] ∧ Dp K H v ((Tr.wk l m p st g).dat b) ∧ (Tr.wk l m p st g).Good ∧ ((Tr.wk l m p st g).deep : Int) ≤ d ∧ ((Tr.wk l m p st g).size : Int) ≤ r ∧ p.deep ≤ n ∧
  ∀ H' p2 q, Same H H' → H' p2 = some (.tup [q, .int ((Tr.wk l m p st g).size : Int)]) → At H' (.wk l m p st g) q → Q (.ref p2) H'
theorem scWalk : FnScope ["tree", "depth", "room", "left", "width", "right", "start", "goal", "step", "many"] ["tree", "depth", "room"] (defScope sWalk) := ⟨rfl, rfl, rfl, by decide +kernel, rfl, by decide +kernel, by decide +kernel⟩
theorem cal_checked_walk {n : Nat} (E1 : Env1 K mg) (D : Def K mg "checked_walk" sWalk) (c3 : Cal P w K mg base CX0 3 "checked_names" (spChNames K)) (cs : Cal P w K mg base CX0 (2 * n + 5) "shaped" (spShaped K n)) : Cal P w K mg base CX0 (2 * n + 6) "checked_walk" (spWalk K n) := by
  refine cal_mk D scWalk (fun _ _ _ _ _ _ us hl => match us, hl with | [_, _, _], _ => rfl) (fun vs H Q E h => ?_) (fun f cdv A outer s H vs Q E hr h => ?_)
  · obtain ⟨v, d, r, b, l, m, p, st, g, rfl, _⟩ := h
    rfl
  obtain ⟨v, d, r, b, l, m, p, st, g, rfl, hd, hg, hdd, hrr, hn, q⟩ := h
  refine ⟨_, pss_cons (ps_set (i := 3) scWalk.nd rfl (Or.inl rfl) (pe_c c3 hr (by omega) (pa_cons (pe_ix ix_sq (pv 0) pe_int (fun _ _ => rfl)) (pa_cons pe_int (pa_cons (pe_g E1.width) pa_nil)))))
    (pss_cons (ps_set (i := 4) scWalk.nd rfl (Or.inl rfl) (pe_callB call_len_seq rfl E1.len boot_len (pa_cons (pv 3) pa_nil)))
    (pss_cons (ps_set (i := 5) scWalk.nd rfl (Or.inl rfl) (pe_c c3 hr (by omega) (pa_cons (pe_ix ix_sq (pv 0) pe_int (fun _ _ => rfl)) (pa_cons (pv 4) (pa_cons (pv 4) pa_nil)))))
    (pss_cons (ps_set (i := 6) scWalk.nd rfl (Or.inl rfl) (pe_c c3 hr (by omega) (pa_cons (pe_ix ix_sq (pv 0) pe_int (fun _ _ => rfl)) (pa_cons (pv 4) (pa_cons (pv 4) pa_nil)))))
    (pss_cons (ps_set (i := 7) scWalk.nd rfl (Or.inl rfl) (pe_c c3 hr (by omega) (pa_cons (pe_ix ix_sq (pv 0) pe_int (fun _ _ => rfl)) (pa_cons (pv 4) (pa_cons (pv 4) pa_nil)))))
    (pss_cons (ps_if (pt_cmpR op_lt (pe_lenTexts rfl rfl E1.len rfl E1.set (pe_op op_catA (pv 3) (pv 5))) (pe_op op_mul pe_int (pv 4)) (nomark _)) (pss_one ps_never) pss_nil)
    (pss_cons (ps_asg (pe_c cs hr (Nat.le_refl _) (pa_cons (pe_ix ix_sq (pv 0) pe_int (fun _ _ => rfl)) (pa_cons (pe_op op_sub (pv 1) pe_int) (pa_cons (pe_op op_sub (pv 2) pe_int) pa_nil))))
      (pg_tup rfl (pgs_cons (pg_name (i := 8) scWalk.nd rfl (Or.inl rfl)) (pgs_cons (pg_name (i := 9) scWalk.nd rfl (Or.inl rfl)) pgs_nil))))
    (pss_one (ps_ret (pe_tup (pa_cons (pe_tup (pa_cons pe_str (pa_cons (pv 3) (pa_cons (pv 5) (pa_cons (pv 8) (pa_cons (pv 6) (pa_cons (pv 7) pa_nil))))))) (pa_cons (pe_op op_add (pv 9) pe_int) pa_nil))))))))))), ?_⟩
  obtain ⟨a, xs, rfl, hS, hxs⟩ := dp_sq hd
  obtain ⟨x0, xs1, rfl, h0, hxs1⟩ := dps_cons hxs
  obtain ⟨x1, xs2, rfl, h1, hxs2⟩ := dps_cons hxs1
  obtain ⟨x2, xs3, rfl, h2, hxs3⟩ := dps_cons hxs2
  obtain ⟨x3, xs4, rfl, h3, hxs4⟩ := dps_cons hxs3
  obtain ⟨x4, xs5, rfl, h4, hxs5⟩ := dps_cons hxs4
  obtain ⟨x5, xs6, rfl, h5, hxs6⟩ := dps_cons hxs5
  obtain rfl := dps_nil hxs6
  obtain rfl := dp_str h0
  obtain ⟨c1, y1, rfl, k1, e1⟩ := dp_sq h1
  obtain rfl := dps_strs e1
  obtain ⟨c2, y2, rfl, k2, e2⟩ := dp_sq h2
  obtain rfl := dps_strs e2
  obtain ⟨c4, y4, rfl, k4, e4⟩ := dp_sq h4
  obtain rfl := dps_strs e4
  obtain ⟨c5, y5, rfl, k5, e5⟩ := dp_sq h5
  obtain rfl := dps_strs e5
  obtain ⟨⟨l1, l2, l3, l4, l5⟩, nd, hnm, hmn, gp⟩ := hg
  have pl : ∀ z ∈ l, isNm z = true := fun z hz => hnm z (List.mem_append_left _ hz)
  have pm : ∀ z ∈ m, isNm z = true := fun z hz => hnm z (List.mem_append_right _ hz)
  have ps : ∀ z ∈ st, isNm z = true := fun z hz => menu_nm z (hmn z (List.mem_append_left _ hz))
  have pg : ∀ z ∈ g, isNm z = true := fun z hz => menu_nm z (hmn z (List.mem_append_right _ hz))
  have el : (l.map V.str).length = l.length := List.length_map _
  refine ⟨_, rfl, b, a, _, 1, _, rfl, rfl, hS, rfl, c1, b, l, 1, 60, rfl, k1, pl, by omega, by omega, by omega, fun H1 p1 s1 t1 => ?_⟩
  refine ⟨_, rfl, p1, _, rfl, .inr (SqT.of t1), ?_⟩
  refine ⟨_, rfl, b, a, _, 2, _, rfl, rfl, hS.same s1, rfl, _, rfl, _, rfl, c2, b, m, _, _, rfl, k2.same s1, pm, by omega, by omega, by omega, fun H2 p2 s2 t2 => ?_⟩
  have s02 := s1.trans s2
  refine ⟨_, rfl, b, a, _, 4, _, rfl, rfl, hS.same s02, rfl, _, rfl, _, rfl, c4, b, st, _, _, rfl, k4.same s02, ps, by omega, by omega, by omega, fun H3 p3 s3 t3 => ?_⟩
  have s03 := s02.trans s3
  refine ⟨_, rfl, b, a, _, 5, _, rfl, rfl, hS.same s03, rfl, _, rfl, _, rfl, c5, b, g, _, _, rfl, k5.same s03, pg, by omega, by omega, by omega, fun H4 p4 s4 t4 => ?_⟩
  have s04 := s03.trans s4
  have u1 : H4 p1 = some (.tup (l.map V.str)) := s4 _ _ (s3 _ _ (s2 _ _ t1))
  have u2 : H4 p2 = some (.tup (m.map V.str)) := s4 _ _ (s3 _ _ t2)
  have u3 : H4 p3 = some (.tup (st.map V.str)) := s4 _ _ t3
  refine ⟨_, rfl, _, rfl, p1, p2, l.map V.str, m.map V.str, rfl, rfl, SqT.of u1, SqT.of u2, ?_, (fun z => ?_), (fun _ z => ?_), fun _ _ p5 hp5 => ?_⟩
  · rw [List.length_map, List.length_map]
    exact Nat.le_of_lt (small1000 (by omega))
  · have : (l.map V.str).length = 0 := by rw [z]; rfl
    omega
  · have : (m.map V.str).length = 0 := by rw [z]; rfl
    rw [List.length_map] at this
    omega
  have s5 := same_new hp5 (HO.tup (l.map V.str ++ m.map V.str))
  refine ⟨p5, l ++ m, rfl, SqT.of (by rw [upd_same, List.map_append]), nd, by rw [List.length_append]; omega, _, rfl, 2, _, rfl, rfl, .inl ⟨by decide, by decide⟩, _, _, rfl, rfl, false, ?_, ?_⟩
  · exact bl_ne (by rw [List.length_append]; omega)
  have s05 := s04.trans s5
  have hpd : (p.deep : Int) ≤ d - 1 := by
    have e : (Tr.wk l m p st g).deep = p.deep + 1 := rfl
    omega
  have hps : (p.size : Int) ≤ r - 1 := by
    have e : (Tr.wk l m p st g).size = p.size + 1 := rfl
    omega
  refine ⟨_, rfl, b, a, _, 3, _, rfl, rfl, hS.same s05, rfl, _, rfl, d, 1, rfl, rfl, _, rfl, r, 1, rfl, rfl, x3, d - 1, r - 1, b, p, rfl, same_dp s05 h3, gp, hpd, hps, hn, fun H6 p6 q6 s6 t6 a6 => ?_⟩
  refine ⟨p6, _, rfl, SqT.of t6, rfl, _, _, rfl, _, _, rfl, rfl, ?_⟩
  refine ⟨_, rfl, _, rfl, _, rfl, _, rfl, _, rfl, by show 6 ≤ sizeLine; decide, fun p7 hp7 => ?_⟩
  refine ⟨_, rfl, _, 1, rfl, rfl, two_line, fun p8 hp8 => ?_⟩
  have s7 := same_new hp7 (HO.tup [.str "walk", .ref p1, .ref p2, q6, .ref p3, .ref p4])
  refine q _ p8 (.ref p7) (((s05.trans s6).trans s7).trans (same_new hp8 _)) upd_same ?_
  have back := s5.trans (s6.trans (s7.trans (same_new hp8 (HO.tup [.ref p7, .int ((p.size : Int) + 1)]))))
  exact td_mk (same_new hp8 _ _ _ upd_same) (.cons (.str _) (.cons (td_mk (back _ _ u1) (td_strs l)) (.cons (td_mk (back _ _ u2) (td_strs m)) (.cons (a6.keep (keep_of (s7.trans (same_new hp8 _))))
    (.cons (td_mk (back _ _ u3) (td_strs st)) (.cons (td_mk (back _ _ t4) (td_strs g)) .nil))))))
end
end K52

set_option maxRecDepth 100000
set_option maxHeartbeats 4000000
namespace K52
open PySem PySem.Spec PyProof.Rows L2
section
variable {P : Program} {w : World} {K : PySem.W.Frag} {mg : Str → Option Value} {base : Heap}
theorem scShaped : FnScope ["tree", "depth", "room", "word", "part", "many", "one", "two", "others"] ["tree", "depth", "room"] (defScope sShaped) := ⟨rfl, rfl, rfl, by decide +kernel, rfl, by decide +kernel, by decide +kernel⟩
abbrev ands : List V := (["and", "or"] : List Str).map V.str
abbrev somes : List V := (["some", "every"] : List Str).map V.str
/-- the members of a tree -/
def items (b : Bool) : Tr → List PyData
  | .rel nm vs => [.str "rel", .str nm, nms b vs]
  | .atm wd vs => .str wd :: vs.map PyData.str
  | .neg p => [.str "not", p.dat b]
  | .bin wd p q => [.str wd, p.dat b, q.dat b]
  | .qu wd v p => [.str wd, .str v, p.dat b]
  | .mo v p w q => [.str "more", .str v, p.dat b, .str w, q.dat b]
  | .wk l r p s g => [.str "walk", nms b l, nms b r, p.dat b, nms b s, nms b g]
theorem dat_items (b : Bool) (t : Tr) : t.dat b = sq b (items b t) := by cases t <;> rfl
theorem tree_seq {H : Hp} {v : V} {b : Bool} {t : Tr} (h : Dp K H v (t.dat b)) : ∃ a x xs, v = .ref a ∧ Sq K H a (x :: xs) b ∧ DpAll K H (x :: xs) (items b t) := by
  rw [dat_items] at h
  obtain ⟨a, l, e, hS, hx⟩ := dp_sq h
  have : ∃ x xs, l = x :: xs := by
    cases t <;> (obtain ⟨x, xs1, e1, _⟩ := dps_cons hx; exact ⟨x, xs1, e1⟩)
  obtain ⟨x, xs, rfl⟩ := this
  exact ⟨a, x, xs, e, hS, hx⟩
theorem len_ne {x : V} {l : List V} : V.bl (decide (V.int (((x :: l).length : Nat) : Int) = V.int 0)) = V.bl false := lit_ne (by show ¬ (((l.length + 1 : Nat) : Int) = 0); omega)
theorem cal_shaped {n : Nat} (E1 : Env1 K mg) (D : Def K mg "shaped" sShaped) (c1 : Cal P w K mg base CX0 1 "is_sequence" (spIsSeq K)) (c2 : Cal P w K mg base CX0 2 "checked_name" spChName) (c4 : Cal P w K mg base CX0 4 "checked_atom" (spChAtom K))
    (cw : Cal P w K mg base CX0 (2 * n + 6) "checked_walk" (spWalk K n)) (cs : Cal P w K mg base CX0 (2 * n + 5) "shaped" (spShaped K n)) : Cal P w K mg base CX0 (2 * n + 7) "shaped" (spShaped K (n + 1)) := by
  refine cal_mk D scShaped (fun _ _ _ _ _ _ us hl => match us, hl with | [_, _, _], _ => rfl) (fun vs H Q E h => ?_) (fun f cdv A outer s H vs Q E hr h => ?_)
  · obtain ⟨v, d, r, b, t, rfl, _⟩ := h
    rfl
  obtain ⟨v, d, r, b, t, rfl, hd, hg, hdd, hrr, hn, q⟩ := h
  obtain ⟨at0, ma, hA⟩ := E1.atoms
  have h9 : 2 * n + 5 ≤ 2 * n + 6 := by omega
  refine ⟨_, pss_cons (ps_if (PW.pt (pw_or (pt_cmpR op_eq (pv 1) pe_int (nomark _)) (pw_or (pt_cmpR op_eq (pv 2) pe_int (nomark _)) (pw_or (pt_not (pt_val (pe_c c1 hr (by omega) (pa_cons (pv 0) pa_nil))))
        (pw_or1 (pt_cmpR op_eq (pe_callB call_len_seq rfl E1.len boot_len (pa_cons (pv 0) pa_nil)) pe_int (nomark _))))))) (pss_one ps_never) pss_nil)
    (pss_cons (ps_set (i := 3) scShaped.nd rfl (Or.inl rfl) (pe_ix ix_sq (pv 0) pe_int (fun _ _ => rfl)))
    (pss_cons (ps_if (pt_cmpR op_in_seq (pv 3) (pe_g (v := .ref at0) ⟨_, ma, rfl⟩) rfl) (pss_one (ps_ret (pe_tup (pa_cons (pe_c c4 hr (by omega) (pa_cons (pv 0) pa_nil)) (pa_cons pe_int pa_nil))))) pss_nil)
    -- not
    (pss_cons (ps_if (PW.pt (pw_and (pt_cmpR op_eq (pv 3) pe_str (nomark _)) (pw_and1 (pt_cmpR op_eq (pe_callB call_len_seq rfl E1.len boot_len (pa_cons (pv 0) pa_nil)) pe_int (nomark _)))))
      (pss_cons (ps_asg (pe_c cs hr h9 (pa_cons (pe_ix ix_sq (pv 0) pe_int (fun _ _ => rfl)) (pa_cons (pe_op op_sub (pv 1) pe_int) (pa_cons (pe_op op_sub (pv 2) pe_int) pa_nil))))
        (pg_tup rfl (pgs_cons (pg_name (i := 4) scShaped.nd rfl (Or.inl rfl)) (pgs_cons (pg_name (i := 5) scShaped.nd rfl (Or.inl rfl)) pgs_nil))))
      (pss_one (ps_ret (pe_tup (pa_cons (pe_tup (pa_cons pe_str (pa_cons (pv 4) pa_nil))) (pa_cons (pe_op op_add (pv 5) pe_int) pa_nil)))))) pss_nil)
    -- and, or
    (pss_cons (ps_if (PW.pt (pw_and (pt_cmpR op_in_seq (pv 3) (pe_tup (pa_cons pe_str (pa_cons pe_str pa_nil))) rfl) (pw_and1 (pt_cmpR op_eq (pe_callB call_len_seq rfl E1.len boot_len (pa_cons (pv 0) pa_nil)) pe_int (nomark _)))))
      (pss_cons (ps_asg (pe_c cs hr h9 (pa_cons (pe_ix ix_sq (pv 0) pe_int (fun _ _ => rfl)) (pa_cons (pe_op op_sub (pv 1) pe_int) (pa_cons (pe_op op_sub (pv 2) pe_int) pa_nil))))
        (pg_tup rfl (pgs_cons (pg_name (i := 6) scShaped.nd rfl (Or.inl rfl)) (pgs_cons (pg_name (i := 5) scShaped.nd rfl (Or.inl rfl)) pgs_nil))))
      (pss_cons (ps_asg (pe_c cs hr h9 (pa_cons (pe_ix ix_sq (pv 0) pe_int (fun _ _ => rfl)) (pa_cons (pe_op op_sub (pv 1) pe_int) (pa_cons (pe_op op_sub (pe_op op_sub (pv 2) pe_int) (pv 5)) pa_nil))))
        (pg_tup rfl (pgs_cons (pg_name (i := 7) scShaped.nd rfl (Or.inl rfl)) (pgs_cons (pg_name (i := 8) scShaped.nd rfl (Or.inl rfl)) pgs_nil))))
      (pss_one (ps_ret (pe_tup (pa_cons (pe_tup (pa_cons (pv 3) (pa_cons (pv 6) (pa_cons (pv 7) pa_nil)))) (pa_cons (pe_op op_add (pe_op op_add (pv 5) (pv 8)) pe_int) pa_nil))))))) pss_nil)
    -- some, every
    (pss_cons (ps_if (PW.pt (pw_and (pt_cmpR op_in_seq (pv 3) (pe_tup (pa_cons pe_str (pa_cons pe_str pa_nil))) rfl) (pw_and1 (pt_cmpR op_eq (pe_callB call_len_seq rfl E1.len boot_len (pa_cons (pv 0) pa_nil)) pe_int (nomark _)))))
      (pss_cons (ps_asg (pe_c cs hr h9 (pa_cons (pe_ix ix_sq (pv 0) pe_int (fun _ _ => rfl)) (pa_cons (pe_op op_sub (pv 1) pe_int) (pa_cons (pe_op op_sub (pv 2) pe_int) pa_nil))))
        (pg_tup rfl (pgs_cons (pg_name (i := 4) scShaped.nd rfl (Or.inl rfl)) (pgs_cons (pg_name (i := 5) scShaped.nd rfl (Or.inl rfl)) pgs_nil))))
      (pss_one (ps_ret (pe_tup (pa_cons (pe_tup (pa_cons (pv 3) (pa_cons (pe_c c2 hr (by omega) (pa_cons (pe_ix ix_sq (pv 0) pe_int (fun _ _ => rfl)) pa_nil)) (pa_cons (pv 4) pa_nil)))) (pa_cons (pe_op op_add (pv 5) pe_int) pa_nil)))))) pss_nil)
    -- more
    (pss_cons (ps_if (PW.pt (pw_and (pt_cmpR op_eq (pv 3) pe_str (nomark _)) (pw_and1 (pt_cmpR op_eq (pe_callB call_len_seq rfl E1.len boot_len (pa_cons (pv 0) pa_nil)) pe_int (nomark _)))))
      (pss_cons (ps_asg (pe_c cs hr h9 (pa_cons (pe_ix ix_sq (pv 0) pe_int (fun _ _ => rfl)) (pa_cons (pe_op op_sub (pv 1) pe_int) (pa_cons (pe_op op_sub (pv 2) pe_int) pa_nil))))
        (pg_tup rfl (pgs_cons (pg_name (i := 6) scShaped.nd rfl (Or.inl rfl)) (pgs_cons (pg_name (i := 5) scShaped.nd rfl (Or.inl rfl)) pgs_nil))))
      (pss_cons (ps_asg (pe_c cs hr h9 (pa_cons (pe_ix ix_sq (pv 0) pe_int (fun _ _ => rfl)) (pa_cons (pe_op op_sub (pv 1) pe_int) (pa_cons (pe_op op_sub (pe_op op_sub (pv 2) pe_int) (pv 5)) pa_nil))))
        (pg_tup rfl (pgs_cons (pg_name (i := 7) scShaped.nd rfl (Or.inl rfl)) (pgs_cons (pg_name (i := 8) scShaped.nd rfl (Or.inl rfl)) pgs_nil))))
      (pss_one (ps_ret (pe_tup (pa_cons (pe_tup (pa_cons pe_str (pa_cons (pe_c c2 hr (by omega) (pa_cons (pe_ix ix_sq (pv 0) pe_int (fun _ _ => rfl)) pa_nil)) (pa_cons (pv 6) (pa_cons (pe_c c2 hr (by omega) (pa_cons (pe_ix ix_sq (pv 0) pe_int (fun _ _ => rfl)) pa_nil)) (pa_cons (pv 7) pa_nil))))))
        (pa_cons (pe_op op_add (pe_op op_add (pv 5) (pv 8)) pe_int) pa_nil))))))) pss_nil)
    -- walk
    (pss_cons (ps_if (PW.pt (pw_and (pt_cmpR op_eq (pv 3) pe_str (nomark _)) (pw_and1 (pt_cmpR op_eq (pe_callB call_len_seq rfl E1.len boot_len (pa_cons (pv 0) pa_nil)) pe_int (nomark _)))))
      (pss_one (ps_ret (pe_c cw hr (Nat.le_refl _) (pa_cons (pv 0) (pa_cons (pv 1) (pa_cons (pv 2) pa_nil)))))) pss_nil)
    (pss_one ps_never)))))))), ?_⟩
  obtain ⟨a, x, xs, rfl, hS, hxs⟩ := tree_seq hd
  have hdp := Tr.deep_pos t
  have hsp := Tr.size_pos t
  refine ⟨_, rfl, rfl, false, lit_ne (by omega), ?_⟩
  refine ⟨_, rfl, rfl, false, lit_ne (by omega), ?_⟩
  refine ⟨_, rfl, a, b, _, rfl, hS, fun H1 s1 => ⟨true, rfl, ?_⟩⟩
  have hS1 := hS.same s1
  refine ⟨_, rfl, a, _, rfl, hS1.or, rfl, false, len_ne, ?_⟩
  refine ⟨_, rfl, b, a, _, 0, _, rfl, rfl, hS1, at_hd, ?_⟩
  have hd1 := same_dp s1 hd
  cases t with
  | rel nm vs =>
    obtain ⟨x0, ys0, e0, h0, _⟩ := dps_cons hxs
    cases e0
    obtain rfl := dp_str h0
    refine ⟨_, rfl, at0, atoms.map V.str, rfl, .inr (hA _), rfl, flat_txts _, true, in_txts (by decide +kernel), ?_⟩
    refine ⟨_, rfl, _, b, _, rfl, hd1, .rel nm vs, hg, fun H2 v2 s2 a2 => ?_⟩
    exact ⟨two_line, fun p hp => q _ p v2 ((s1.trans s2).trans (same_new hp _)) upd_same (a2.keep (keep_new hp _))⟩
  | atm wd vs =>
    obtain ⟨x0, ys0, e0, h0, _⟩ := dps_cons hxs
    cases e0
    obtain rfl := dp_str h0
    have hw : wd ∈ atoms := by
      rcases hg.1 with ⟨g1, _⟩ | ⟨g1, _⟩
      · simp only [List.mem_cons, List.not_mem_nil, or_false] at g1
        rcases g1 with rfl | rfl | rfl <;> decide +kernel
      · simp only [List.mem_cons, List.not_mem_nil, or_false] at g1
        rcases g1 with rfl | rfl <;> decide +kernel
    refine ⟨_, rfl, at0, atoms.map V.str, rfl, .inr (hA _), rfl, flat_txts _, true, in_txts hw, ?_⟩
    refine ⟨_, rfl, _, b, _, rfl, hd1, .atm wd vs, hg, fun H2 v2 s2 a2 => ?_⟩
    exact ⟨two_line, fun p hp => q _ p v2 ((s1.trans s2).trans (same_new hp _)) upd_same (a2.keep (keep_new hp _))⟩
  | neg p =>
    obtain ⟨x0, ys0, e0, h0, z0⟩ := dps_cons hxs
    cases e0
    obtain ⟨x1, ys1, rfl, h1, z1⟩ := dps_cons z0
    obtain rfl := dps_nil z1
    obtain rfl := dp_str h0
    have ed : (Tr.neg p).deep = p.deep + 1 := rfl
    have es : (Tr.neg p).size = p.size + 1 := rfl
    refine ⟨_, rfl, at0, atoms.map V.str, rfl, .inr (hA _), rfl, flat_txts _, false, out_txts (by decide +kernel), ?_⟩
    refine ⟨_, rfl, rfl, true, bl_eq rfl, ?_⟩
    refine ⟨_, rfl, a, _, rfl, hS1.or, rfl, true, lit_eq rfl, ?_⟩
    refine ⟨_, rfl, b, a, _, 1, _, rfl, rfl, hS1, rfl, _, rfl, d, 1, rfl, rfl, _, rfl, r, 1, rfl, rfl, x1, d - 1, r - 1, b, p, rfl, same_dp s1 h1, hg, by omega, by omega, by omega, fun H2 p2 q2 s2 t2 a2 => ?_⟩
    refine ⟨p2, _, rfl, SqT.of t2, rfl, _, _, rfl, _, _, rfl, rfl, ?_⟩
    refine ⟨_, rfl, two_line, fun p3 hp3 => ?_⟩
    refine ⟨_, rfl, _, 1, rfl, rfl, two_line, fun p4 hp4 => ?_⟩
    refine q _ p4 (.ref p3) (((s1.trans s2).trans (same_new hp3 _)).trans (same_new hp4 _)) (by rw [upd_same, es]; rfl) ?_
    exact td_mk (same_new hp4 _ _ _ upd_same) (.cons (.str _) (.cons (a2.keep (keep_of ((same_new hp3 _).trans (same_new hp4 _)))) .nil))
  | bin wd p1 p2 =>
    obtain ⟨x0, ys0, e0, h0, z0⟩ := dps_cons hxs
    cases e0
    obtain ⟨x1, ys1, rfl, h1, z1⟩ := dps_cons z0
    obtain ⟨x2, ys2, rfl, h2, z2⟩ := dps_cons z1
    obtain rfl := dps_nil z2
    obtain rfl := dp_str h0
    obtain ⟨gw, g1, g2⟩ := hg
    have ed : (Tr.bin wd p1 p2).deep = max p1.deep p2.deep + 1 := rfl
    have es : (Tr.bin wd p1 p2).size = p1.size + p2.size + 1 := rfl
    have m1 : p1.deep ≤ max p1.deep p2.deep := Nat.le_max_left _ _
    have m2 : p2.deep ≤ max p1.deep p2.deep := Nat.le_max_right _ _
    have hw : wd ∉ atoms ∧ wd ≠ "not" := by
      simp only [List.mem_cons, List.not_mem_nil, or_false] at gw
      rcases gw with rfl | rfl <;> exact ⟨by decide +kernel, by decide +kernel⟩
    refine ⟨_, rfl, at0, atoms.map V.str, rfl, .inr (hA _), rfl, flat_txts _, false, out_txts hw.1, ?_⟩
    refine ⟨_, rfl, rfl, false, bl_ne (str_ne hw.2), ?_⟩
    refine ⟨_, rfl, two_line, fun o1 ho1 => ⟨o1, ands, rfl, .inr (SqT.of upd_same), rfl, flat_txts _, true, in_txts gw, ?_⟩⟩
    have s2 := s1.trans (same_new ho1 (HO.tup ands))
    refine ⟨_, rfl, a, _, rfl, (hS.same s2).or, rfl, true, lit_eq rfl, ?_⟩
    refine ⟨_, rfl, b, a, _, 1, _, rfl, rfl, hS.same s2, rfl, _, rfl, d, 1, rfl, rfl, _, rfl, r, 1, rfl, rfl, x1, d - 1, r - 1, b, p1, rfl, same_dp s2 h1, g1, by omega, by omega, by omega, fun H3 o3 q3 s3 t3 a3 => ?_⟩
    refine ⟨o3, _, rfl, SqT.of t3, rfl, _, _, rfl, _, _, rfl, rfl, ?_⟩
    have s03 := s2.trans s3
    refine ⟨_, rfl, b, a, _, 2, _, rfl, rfl, hS.same s03, rfl, _, rfl, d, 1, rfl, rfl, _, rfl, r, 1, rfl, rfl, _, rfl, r - 1, _, rfl, rfl, x2, d - 1, r - 1 - (p1.size : Int), b, p2, rfl, same_dp s03 h2, g2, by omega, by omega, by omega, fun H4 o4 q4 s4 t4 a4 => ?_⟩
    refine ⟨o4, _, rfl, SqT.of t4, rfl, _, _, rfl, _, _, rfl, rfl, ?_⟩
    refine ⟨_, rfl, _, rfl, _, rfl, by show 3 ≤ sizeLine; decide, fun o5 ho5 => ?_⟩
    refine ⟨_, rfl, _, rfl, _, _, rfl, rfl, _, 1, rfl, rfl, two_line, fun o6 ho6 => ?_⟩
    have b5 := (same_new ho5 (HO.tup [V.str wd, q3, q4])).trans (same_new ho6 (HO.tup [V.ref o5, V.int ((p1.size : Int) + (p2.size : Int) + 1)]))
    refine q _ o6 (.ref o5) ((s03.trans s4).trans b5) (by rw [upd_same, es]; rfl) ?_
    exact td_mk (same_new ho6 _ _ _ upd_same) (.cons (.str _) (.cons (a3.keep (keep_of (s4.trans b5))) (.cons (a4.keep (keep_of b5)) .nil)))
  | qu wd z p =>
    obtain ⟨x0, ys0, e0, h0, z0⟩ := dps_cons hxs
    cases e0
    obtain ⟨x1, ys1, rfl, h1, z1⟩ := dps_cons z0
    obtain ⟨x2, ys2, rfl, h2, z2⟩ := dps_cons z1
    obtain rfl := dps_nil z2
    obtain rfl := dp_str h0
    obtain rfl := dp_str h1
    obtain ⟨gw, g1, g2⟩ := hg
    have ed : (Tr.qu wd z p).deep = p.deep + 1 := rfl
    have es : (Tr.qu wd z p).size = p.size + 1 := rfl
    have hw : wd ∉ atoms ∧ wd ≠ "not" ∧ wd ∉ (["and", "or"] : List Str) := by
      simp only [List.mem_cons, List.not_mem_nil, or_false] at gw
      rcases gw with rfl | rfl <;> exact ⟨by decide +kernel, by decide +kernel, by decide +kernel⟩
    refine ⟨_, rfl, at0, atoms.map V.str, rfl, .inr (hA _), rfl, flat_txts _, false, out_txts hw.1, ?_⟩
    refine ⟨_, rfl, rfl, false, bl_ne (str_ne hw.2.1), ?_⟩
    refine ⟨_, rfl, two_line, fun o1 ho1 => ⟨o1, ands, rfl, .inr (SqT.of upd_same), rfl, flat_txts _, false, out_txts hw.2.2, ?_⟩⟩
    have s2 := s1.trans (same_new ho1 (HO.tup ands))
    refine ⟨_, rfl, two_line, fun o2 ho2 => ⟨o2, somes, rfl, .inr (SqT.of upd_same), rfl, flat_txts _, true, in_txts gw, ?_⟩⟩
    have s3 := s2.trans (same_new ho2 (HO.tup somes))
    refine ⟨_, rfl, a, _, rfl, (hS.same s3).or, rfl, true, lit_eq rfl, ?_⟩
    refine ⟨_, rfl, b, a, _, 2, _, rfl, rfl, hS.same s3, rfl, _, rfl, d, 1, rfl, rfl, _, rfl, r, 1, rfl, rfl, x2, d - 1, r - 1, b, p, rfl, same_dp s3 h2, g2, by omega, by omega, by omega, fun H4 o4 q4 s4 t4 a4 => ?_⟩
    refine ⟨o4, _, rfl, SqT.of t4, rfl, _, _, rfl, _, _, rfl, rfl, ?_⟩
    have s04 := s3.trans s4
    refine ⟨_, rfl, _, rfl, b, a, _, 1, _, rfl, rfl, hS.same s04, rfl, z, rfl, menu_nm z g1, fun H5 s5 => ?_⟩
    refine ⟨_, rfl, by show 3 ≤ sizeLine; decide, fun o6 ho6 => ?_⟩
    refine ⟨_, rfl, _, 1, rfl, rfl, two_line, fun o7 ho7 => ?_⟩
    have b6 := (same_new ho6 (HO.tup [V.str wd, .str z, q4])).trans (same_new ho7 (HO.tup [V.ref o6, V.int ((p.size : Int) + 1)]))
    refine q _ o7 (.ref o6) ((s04.trans s5).trans b6) (by rw [upd_same, es]; rfl) ?_
    exact td_mk (same_new ho7 _ _ _ upd_same) (.cons (.str _) (.cons (.str _) (.cons (a4.keep (keep_of (s5.trans b6))) .nil)))
  | mo z p1 y p2 =>
    obtain ⟨x0, ys0, e0, h0, z0⟩ := dps_cons hxs
    cases e0
    obtain ⟨x1, ys1, rfl, h1, z1⟩ := dps_cons z0
    obtain ⟨x2, ys2, rfl, h2, z2⟩ := dps_cons z1
    obtain ⟨x3, ys3, rfl, h3, z3⟩ := dps_cons z2
    obtain ⟨x4, ys4, rfl, h4, z4⟩ := dps_cons z3
    obtain rfl := dps_nil z4
    obtain rfl := dp_str h0
    obtain rfl := dp_str h1
    obtain rfl := dp_str h3
    obtain ⟨gz, gy, g1, g2⟩ := hg
    have ed : (Tr.mo z p1 y p2).deep = max p1.deep p2.deep + 1 := rfl
    have es : (Tr.mo z p1 y p2).size = p1.size + p2.size + 1 := rfl
    have m1 : p1.deep ≤ max p1.deep p2.deep := Nat.le_max_left _ _
    have m2 : p2.deep ≤ max p1.deep p2.deep := Nat.le_max_right _ _
    refine ⟨_, rfl, at0, atoms.map V.str, rfl, .inr (hA _), rfl, flat_txts _, false, out_txts (by decide +kernel), ?_⟩
    refine ⟨_, rfl, rfl, false, bl_ne (str_ne (by decide +kernel)), ?_⟩
    refine ⟨_, rfl, two_line, fun o1 ho1 => ⟨o1, ands, rfl, .inr (SqT.of upd_same), rfl, flat_txts _, false, out_txts (by decide +kernel), ?_⟩⟩
    have s2 := s1.trans (same_new ho1 (HO.tup ands))
    refine ⟨_, rfl, two_line, fun o2 ho2 => ⟨o2, somes, rfl, .inr (SqT.of upd_same), rfl, flat_txts _, false, out_txts (by decide +kernel), ?_⟩⟩
    have s3 := s2.trans (same_new ho2 (HO.tup somes))
    refine ⟨_, rfl, rfl, true, bl_eq rfl, ?_⟩
    refine ⟨_, rfl, a, _, rfl, (hS.same s3).or, rfl, true, lit_eq rfl, ?_⟩
    refine ⟨_, rfl, b, a, _, 2, _, rfl, rfl, hS.same s3, rfl, _, rfl, d, 1, rfl, rfl, _, rfl, r, 1, rfl, rfl, x2, d - 1, r - 1, b, p1, rfl, same_dp s3 h2, g1, by omega, by omega, by omega, fun H4 o4 q4 s4 t4 a4 => ?_⟩
    refine ⟨o4, _, rfl, SqT.of t4, rfl, _, _, rfl, _, _, rfl, rfl, ?_⟩
    have s04 := s3.trans s4
    refine ⟨_, rfl, b, a, _, 4, _, rfl, rfl, hS.same s04, rfl, _, rfl, d, 1, rfl, rfl, _, rfl, r, 1, rfl, rfl, _, rfl, r - 1, _, rfl, rfl, x4, d - 1, r - 1 - (p1.size : Int), b, p2, rfl, same_dp s04 h4, g2, by omega, by omega, by omega, fun H5 o5 q5 s5 t5 a5 => ?_⟩
    refine ⟨o5, _, rfl, SqT.of t5, rfl, _, _, rfl, _, _, rfl, rfl, ?_⟩
    have s05 := s04.trans s5
    refine ⟨_, rfl, b, a, _, 1, _, rfl, rfl, hS.same s05, rfl, z, rfl, menu_nm z gz, fun H6 s6 => ?_⟩
    have s06 := s05.trans s6
    refine ⟨_, rfl, _, rfl, b, a, _, 3, _, rfl, rfl, hS.same s06, rfl, y, rfl, menu_nm y gy, fun H7 s7 => ?_⟩
    refine ⟨_, rfl, by show 5 ≤ sizeLine; decide, fun o8 ho8 => ?_⟩
    refine ⟨_, rfl, _, rfl, _, _, rfl, rfl, _, 1, rfl, rfl, two_line, fun o9 ho9 => ?_⟩
    have b8 := (same_new ho8 (HO.tup [V.str "more", .str z, q4, .str y, q5])).trans (same_new ho9 (HO.tup [V.ref o8, V.int ((p1.size : Int) + (p2.size : Int) + 1)]))
    have b7 := s6.trans (s7.trans b8)
    refine q _ o9 (.ref o8) ((s06.trans s7).trans b8) (by rw [upd_same, es]; rfl) ?_
    exact td_mk (same_new ho9 _ _ _ upd_same) (.cons (.str _) (.cons (.str _) (.cons (a4.keep (keep_of (s5.trans b7))) (.cons (.str _) (.cons (a5.keep (keep_of b7)) .nil)))))
  | wk l m p st g =>
    obtain ⟨x0, ys0, e0, h0, z0⟩ := dps_cons hxs
    cases e0
    obtain ⟨x1, ys1, rfl, h1, z1⟩ := dps_cons z0
    obtain ⟨x2, ys2, rfl, h2, z2⟩ := dps_cons z1
    obtain ⟨x3, ys3, rfl, h3, z3⟩ := dps_cons z2
    obtain ⟨x4, ys4, rfl, h4, z4⟩ := dps_cons z3
    obtain ⟨x5, ys5, rfl, h5, z5⟩ := dps_cons z4
    obtain rfl := dps_nil z5
    obtain rfl := dp_str h0
    have ed : (Tr.wk l m p st g).deep = p.deep + 1 := rfl
    refine ⟨_, rfl, at0, atoms.map V.str, rfl, .inr (hA _), rfl, flat_txts _, false, out_txts (by decide +kernel), ?_⟩
    refine ⟨_, rfl, rfl, false, bl_ne (str_ne (by decide +kernel)), ?_⟩
    refine ⟨_, rfl, two_line, fun o1 ho1 => ⟨o1, ands, rfl, .inr (SqT.of upd_same), rfl, flat_txts _, false, out_txts (by decide +kernel), ?_⟩⟩
    have s2 := s1.trans (same_new ho1 (HO.tup ands))
    refine ⟨_, rfl, two_line, fun o2 ho2 => ⟨o2, somes, rfl, .inr (SqT.of upd_same), rfl, flat_txts _, false, out_txts (by decide +kernel), ?_⟩⟩
    have s3 := s2.trans (same_new ho2 (HO.tup somes))
    refine ⟨_, rfl, rfl, false, bl_ne (str_ne (by decide +kernel)), ?_⟩
    refine ⟨_, rfl, rfl, true, bl_eq rfl, ?_⟩
    refine ⟨_, rfl, a, _, rfl, (hS.same s3).or, rfl, true, lit_eq rfl, ?_⟩
    exact ⟨_, rfl, _, rfl, _, rfl, .ref a, d, r, b, l, m, p, st, g, rfl, same_dp s3 hd, hg, hdd, hrr, by omega, fun H4 o4 q4 s4 t4 a4 => q _ o4 q4 (s3.trans s4) t4 a4⟩
end
end K52

set_option maxRecDepth 100000
set_option maxHeartbeats 4000000
namespace K52
open PySem PySem.Spec PyProof.Rows L2
/-- a tree at hand: its tuple -/
theorem at_seq {H : Hp} {v : V} {t : Tr} (h : At H t v) : ∃ a x xs, v = .ref a ∧ H a = some (.tup (x :: xs)) ∧ TdAll H (x :: xs) (items true t) := by
  unfold At at h
  rw [dat_items] at h
  obtain ⟨a, l, e, hS, hx⟩ := td_tup h
  have : ∃ x xs, l = x :: xs := by
    cases t <;> (obtain ⟨x, xs1, e1, _⟩ := tds_cons hx; exact ⟨x, xs1, e1⟩)
  obtain ⟨x, xs, rfl⟩ := this
  exact ⟨a, x, xs, e, hS, hx⟩
/-- what scopes tells of a tree -/
def scData (t : Tr) : PyData := .tuple (t.sub.map fun x => .tuple [.tuple (x.1.map PyData.str), x.2.dat true])
def ptData (t : Tr) : PyData := .tuple (t.sub.map fun x => x.2.dat true)
theorem td_nil {H : Hp} {a : Addr} (h : H a = some (.tup [])) : Td H (.ref a) (.tuple (([] : List Str).map PyData.str)) := .tup h .nil
section
variable {P : Program} {w : World} {K : PySem.W.Frag} {mg : Str → Option Value} {base : Heap}
abbrev sScopes : Stmt := top 36
def spScopes : Sp := fun vs H Q _ => ∃ (v : V) (t : Tr), vs = [v] ∧ At H t v ∧ t.Good ∧ ∀ H' v', Same H H' → Td H' v' (scData t) → Q v' H'
theorem scScopes : FnScope ["tree", "word"] ["tree"] (defScope sScopes) := ⟨rfl, rfl, rfl, by decide +kernel, rfl, by decide +kernel, by decide +kernel⟩
theorem cal_scopes (E1 : Env1 K mg) (D : Def K mg "scopes" sScopes) : Cal P w K mg base CX0 1 "scopes" spScopes := by
  refine cal_mk D scScopes (fun _ _ _ _ _ _ us hl => match us, hl with | [_], _ => rfl) (fun vs H Q E h => ?_) (fun f cdv A outer s H vs Q E hr h => ?_)
  · obtain ⟨v, t, rfl, _⟩ := h
    rfl
  obtain ⟨v, t, rfl, hd, hg, q⟩ := h
  refine ⟨_, pss_cons (ps_set (i := 1) scScopes.nd rfl (Or.inl rfl) (pe_ix ix_tup (pv 0) pe_int (fun _ _ => rfl)))
    (pss_cons (ps_if (pt_cmpR op_eq (pv 1) pe_str (nomark _)) (pss_one (ps_ret (pe_tup (pa_cons (pe_tup (pa_cons (pe_tup pa_nil) (pa_cons (pe_ix ix_tup (pv 0) pe_int (fun _ _ => rfl)) pa_nil))) pa_nil)))) pss_nil)
    (pss_cons (ps_if (pt_cmpR op_in_seq (pv 1) (pe_tup (pa_cons pe_str (pa_cons pe_str pa_nil))) rfl) (pss_one (ps_ret (pe_tup (pa_cons (pe_tup (pa_cons (pe_tup pa_nil) (pa_cons (pe_ix ix_tup (pv 0) pe_int (fun _ _ => rfl)) pa_nil)))
      (pa_cons (pe_tup (pa_cons (pe_tup pa_nil) (pa_cons (pe_ix ix_tup (pv 0) pe_int (fun _ _ => rfl)) pa_nil))) pa_nil))))) pss_nil)
    (pss_cons (ps_if (pt_cmpR op_in_seq (pv 1) (pe_tup (pa_cons pe_str (pa_cons pe_str pa_nil))) rfl) (pss_one (ps_ret (pe_tup (pa_cons (pe_tup (pa_cons (pe_tup (pa_cons (pe_ix ix_tup (pv 0) pe_int (fun _ _ => rfl)) pa_nil)) (pa_cons (pe_ix ix_tup (pv 0) pe_int (fun _ _ => rfl)) pa_nil))) pa_nil)))) pss_nil)
    (pss_cons (ps_if (pt_cmpR op_eq (pv 1) pe_str (nomark _)) (pss_one (ps_ret (pe_tup (pa_cons (pe_tup (pa_cons (pe_tup (pa_cons (pe_ix ix_tup (pv 0) pe_int (fun _ _ => rfl)) pa_nil)) (pa_cons (pe_ix ix_tup (pv 0) pe_int (fun _ _ => rfl)) pa_nil)))
      (pa_cons (pe_tup (pa_cons (pe_tup (pa_cons (pe_ix ix_tup (pv 0) pe_int (fun _ _ => rfl)) pa_nil)) (pa_cons (pe_ix ix_tup (pv 0) pe_int (fun _ _ => rfl)) pa_nil))) pa_nil))))) pss_nil)
    (pss_cons (ps_if (pt_cmpR op_eq (pv 1) pe_str (nomark _)) (pss_one (ps_ret (pe_tup (pa_cons (pe_tup (pa_cons (pe_op op_catA (pe_ix ix_tup (pv 0) pe_int (fun _ _ => rfl)) (pe_ix ix_tup (pv 0) pe_int (fun _ _ => rfl))) (pa_cons (pe_ix ix_tup (pv 0) pe_int (fun _ _ => rfl)) pa_nil))) pa_nil)))) pss_nil)
    (pss_one (ps_ret (pe_tup pa_nil)))))))), ?_⟩
  obtain ⟨a, x, xs, rfl, hS, hxs⟩ := at_seq hd
  refine ⟨_, rfl, a, _, 0, _, rfl, rfl, SqT.of hS, at_hd, ?_⟩
  have z0 : (0 : Nat) ≤ sizeLine := Nat.zero_le _
  have z1 : (1 : Nat) ≤ sizeLine := by decide
  cases t with
  | rel nm vs =>
    obtain ⟨x0, ys0, e0, h0, _⟩ := tds_cons hxs
    cases e0
    obtain rfl := td_str h0
    refine ⟨_, rfl, rfl, false, bl_ne (str_ne (by decide +kernel)), ?_⟩
    refine ⟨_, rfl, two_line, fun o1 ho1 => ⟨o1, ands, rfl, .inr (SqT.of upd_same), rfl, flat_txts _, false, out_txts (by decide +kernel), ?_⟩⟩
    refine ⟨_, rfl, two_line, fun o2 ho2 => ⟨o2, somes, rfl, .inr (SqT.of upd_same), rfl, flat_txts _, false, out_txts (by decide +kernel), ?_⟩⟩
    refine ⟨_, rfl, rfl, false, bl_ne (str_ne (by decide +kernel)), ?_⟩
    refine ⟨_, rfl, rfl, false, bl_ne (str_ne (by decide +kernel)), ?_⟩
    exact ⟨z0, fun p hp => q _ _ (((same_new ho1 _).trans (same_new ho2 _)).trans (same_new hp _)) (.tup upd_same .nil)⟩
  | atm wd vs =>
    obtain ⟨x0, ys0, e0, h0, _⟩ := tds_cons hxs
    cases e0
    obtain rfl := td_str h0
    have hw : wd ≠ "not" ∧ wd ∉ (["and", "or"] : List Str) ∧ wd ∉ (["some", "every"] : List Str) ∧ wd ≠ "more" ∧ wd ≠ "walk" := by
      rcases hg.1 with ⟨g1, _⟩ | ⟨g1, _⟩
      · simp only [List.mem_cons, List.not_mem_nil, or_false] at g1
        rcases g1 with rfl | rfl | rfl <;> decide +kernel
      · simp only [List.mem_cons, List.not_mem_nil, or_false] at g1
        rcases g1 with rfl | rfl <;> decide +kernel
    obtain ⟨w1, w2, w3, w4, w5⟩ := hw
    refine ⟨_, rfl, rfl, false, bl_ne (str_ne w1), ?_⟩
    refine ⟨_, rfl, two_line, fun o1 ho1 => ⟨o1, ands, rfl, .inr (SqT.of upd_same), rfl, flat_txts _, false, out_txts w2, ?_⟩⟩
    refine ⟨_, rfl, two_line, fun o2 ho2 => ⟨o2, somes, rfl, .inr (SqT.of upd_same), rfl, flat_txts _, false, out_txts w3, ?_⟩⟩
    refine ⟨_, rfl, rfl, false, bl_ne (str_ne w4), ?_⟩
    refine ⟨_, rfl, rfl, false, bl_ne (str_ne w5), ?_⟩
    exact ⟨z0, fun p hp => q _ _ (((same_new ho1 _).trans (same_new ho2 _)).trans (same_new hp _)) (.tup upd_same .nil)⟩
  | neg p =>
    obtain ⟨x0, ys0, e0, h0, c0⟩ := tds_cons hxs
    cases e0
    obtain ⟨x1, ys1, rfl, h1, c1⟩ := tds_cons c0
    obtain rfl := tds_nil c1
    obtain rfl := td_str h0
    refine ⟨_, rfl, rfl, true, bl_eq rfl, ?_⟩
    refine ⟨z0, fun o1 ho1 => ?_⟩
    have s1 := same_new ho1 (HO.tup [])
    refine ⟨_, rfl, a, _, 1, _, rfl, rfl, SqT.of (s1 _ _ hS), rfl, two_line, fun o2 ho2 => ?_⟩
    have s2 := same_new ho2 (HO.tup [V.ref o1, x1])
    refine ⟨z1, fun o3 ho3 => ?_⟩
    have s3 := same_new ho3 (HO.tup [V.ref o2])
    refine q _ _ ((s1.trans s2).trans s3) (.tup upd_same (.cons (.tup (s3 _ _ upd_same) (.cons (.tup (s3 _ _ (s2 _ _ upd_same)) .nil) (.cons (h1.keep (keep_of ((s1.trans s2).trans s3))) .nil))) .nil))
  | bin wd p1 p2 =>
    obtain ⟨x0, ys0, e0, h0, c0⟩ := tds_cons hxs
    cases e0
    obtain ⟨x1, ys1, rfl, h1, c1⟩ := tds_cons c0
    obtain ⟨x2, ys2, rfl, h2, c2⟩ := tds_cons c1
    obtain rfl := tds_nil c2
    obtain rfl := td_str h0
    obtain ⟨gw, g1, g2⟩ := hg
    have w1 : wd ≠ "not" := by
      simp only [List.mem_cons, List.not_mem_nil, or_false] at gw
      rcases gw with rfl | rfl <;> decide +kernel
    refine ⟨_, rfl, rfl, false, bl_ne (str_ne w1), ?_⟩
    refine ⟨_, rfl, two_line, fun o1 ho1 => ⟨o1, ands, rfl, .inr (SqT.of upd_same), rfl, flat_txts _, true, in_txts gw, ?_⟩⟩
    have s1 := same_new ho1 (HO.tup ands)
    refine ⟨z0, fun o2 ho2 => ?_⟩
    have s2 := s1.trans (same_new ho2 (HO.tup []))
    refine ⟨_, rfl, a, _, 1, _, rfl, rfl, SqT.of (s2 _ _ hS), rfl, two_line, fun o3 ho3 => ?_⟩
    have t3 := same_new ho3 (HO.tup [V.ref o2, x1])
    have s3 := s2.trans t3
    refine ⟨z0, fun o4 ho4 => ?_⟩
    have t4 := same_new ho4 (HO.tup [])
    have s4 := s3.trans t4
    refine ⟨_, rfl, a, _, 2, _, rfl, rfl, SqT.of (s4 _ _ hS), rfl, two_line, fun o5 ho5 => ?_⟩
    have t5 := same_new ho5 (HO.tup [V.ref o4, x2])
    refine ⟨two_line, fun o6 ho6 => ?_⟩
    have t6 := same_new ho6 (HO.tup [V.ref o3, V.ref o5])
    have b5 := t5.trans t6
    have b4 := t4.trans b5
    refine q _ _ (s3.trans b4) (.tup upd_same (.cons (.tup (b4 _ _ upd_same) (.cons (.tup (b4 _ _ (t3 _ _ upd_same)) .nil) (.cons (h1.keep (keep_of (s3.trans b4))) .nil)))
      (.cons (.tup (t6 _ _ upd_same) (.cons (.tup (b5 _ _ upd_same) .nil) (.cons (h2.keep (keep_of (s3.trans b4))) .nil))) .nil)))
  | qu wd z p =>
    obtain ⟨x0, ys0, e0, h0, c0⟩ := tds_cons hxs
    cases e0
    obtain ⟨x1, ys1, rfl, h1, c1⟩ := tds_cons c0
    obtain ⟨x2, ys2, rfl, h2, c2⟩ := tds_cons c1
    obtain rfl := tds_nil c2
    obtain rfl := td_str h0
    obtain rfl := td_str h1
    obtain ⟨gw, g1, g2⟩ := hg
    have hw : wd ≠ "not" ∧ wd ∉ (["and", "or"] : List Str) := by
      simp only [List.mem_cons, List.not_mem_nil, or_false] at gw
      rcases gw with rfl | rfl <;> decide +kernel
    refine ⟨_, rfl, rfl, false, bl_ne (str_ne hw.1), ?_⟩
    refine ⟨_, rfl, two_line, fun o1 ho1 => ⟨o1, ands, rfl, .inr (SqT.of upd_same), rfl, flat_txts _, false, out_txts hw.2, ?_⟩⟩
    have s1 := same_new ho1 (HO.tup ands)
    refine ⟨_, rfl, two_line, fun o2 ho2 => ⟨o2, somes, rfl, .inr (SqT.of upd_same), rfl, flat_txts _, true, in_txts gw, ?_⟩⟩
    have s2 := s1.trans (same_new ho2 (HO.tup somes))
    refine ⟨_, rfl, a, _, 1, _, rfl, rfl, SqT.of (s2 _ _ hS), rfl, z1, fun o3 ho3 => ?_⟩
    have t3 := same_new ho3 (HO.tup [V.str z])
    have s3 := s2.trans t3
    refine ⟨_, rfl, a, _, 2, _, rfl, rfl, SqT.of (s3 _ _ hS), rfl, two_line, fun o4 ho4 => ?_⟩
    have t4 := same_new ho4 (HO.tup [V.ref o3, x2])
    refine ⟨z1, fun o5 ho5 => ?_⟩
    have t5 := same_new ho5 (HO.tup [V.ref o4])
    have b4 := t4.trans t5
    refine q _ _ (s3.trans b4) (.tup upd_same (.cons (.tup (t5 _ _ upd_same) (.cons (.tup (b4 _ _ upd_same) (.cons (.str _) .nil)) (.cons (h2.keep (keep_of (s3.trans b4))) .nil))) .nil))
  | mo z p1 y p2 =>
    obtain ⟨x0, ys0, e0, h0, c0⟩ := tds_cons hxs
    cases e0
    obtain ⟨x1, ys1, rfl, h1, c1⟩ := tds_cons c0
    obtain ⟨x2, ys2, rfl, h2, c2⟩ := tds_cons c1
    obtain ⟨x3, ys3, rfl, h3, c3⟩ := tds_cons c2
    obtain ⟨x4, ys4, rfl, h4, c4⟩ := tds_cons c3
    obtain rfl := tds_nil c4
    obtain rfl := td_str h0
    obtain rfl := td_str h1
    obtain rfl := td_str h3
    refine ⟨_, rfl, rfl, false, bl_ne (str_ne (by decide +kernel)), ?_⟩
    refine ⟨_, rfl, two_line, fun o1 ho1 => ⟨o1, ands, rfl, .inr (SqT.of upd_same), rfl, flat_txts _, false, out_txts (by decide +kernel), ?_⟩⟩
    have s1 := same_new ho1 (HO.tup ands)
    refine ⟨_, rfl, two_line, fun o2 ho2 => ⟨o2, somes, rfl, .inr (SqT.of upd_same), rfl, flat_txts _, false, out_txts (by decide +kernel), ?_⟩⟩
    have s2 := s1.trans (same_new ho2 (HO.tup somes))
    refine ⟨_, rfl, rfl, true, bl_eq rfl, ?_⟩
    refine ⟨_, rfl, a, _, 1, _, rfl, rfl, SqT.of (s2 _ _ hS), rfl, z1, fun o3 ho3 => ?_⟩
    have t3 := same_new ho3 (HO.tup [V.str z])
    have s3 := s2.trans t3
    refine ⟨_, rfl, a, _, 2, _, rfl, rfl, SqT.of (s3 _ _ hS), rfl, two_line, fun o4 ho4 => ?_⟩
    have t4 := same_new ho4 (HO.tup [V.ref o3, x2])
    have s4 := s3.trans t4
    refine ⟨_, rfl, a, _, 3, _, rfl, rfl, SqT.of (s4 _ _ hS), rfl, z1, fun o5 ho5 => ?_⟩
    have t5 := same_new ho5 (HO.tup [V.str y])
    have s5 := s4.trans t5
    refine ⟨_, rfl, a, _, 4, _, rfl, rfl, SqT.of (s5 _ _ hS), rfl, two_line, fun o6 ho6 => ?_⟩
    have t6 := same_new ho6 (HO.tup [V.ref o5, x4])
    refine ⟨two_line, fun o7 ho7 => ?_⟩
    have t7 := same_new ho7 (HO.tup [V.ref o4, V.ref o6])
    have b6 := t6.trans t7
    have b5 := t5.trans b6
    have b4 := t4.trans b5
    refine q _ _ (s3.trans b4) (.tup upd_same (.cons (.tup (b5 _ _ upd_same) (.cons (.tup (b4 _ _ upd_same) (.cons (.str _) .nil)) (.cons (h2.keep (keep_of (s3.trans b4))) .nil)))
      (.cons (.tup (t7 _ _ upd_same) (.cons (.tup (b6 _ _ upd_same) (.cons (.str _) .nil)) (.cons (h4.keep (keep_of (s3.trans b4))) .nil))) .nil)))
  | wk l m p st g =>
    obtain ⟨x0, ys0, e0, h0, c0⟩ := tds_cons hxs
    cases e0
    obtain ⟨x1, ys1, rfl, h1, c1⟩ := tds_cons c0
    obtain ⟨x2, ys2, rfl, h2, c2⟩ := tds_cons c1
    obtain ⟨x3, ys3, rfl, h3, c3⟩ := tds_cons c2
    obtain ⟨x4, ys4, rfl, h4, c4⟩ := tds_cons c3
    obtain ⟨x5, ys5, rfl, h5, c5⟩ := tds_cons c4
    obtain rfl := tds_nil c5
    obtain rfl := td_str h0
    obtain ⟨l1, y1, rfl, k1, e1⟩ := td_tup h1
    obtain rfl := strs_td e1
    obtain ⟨l2, y2, rfl, k2, e2⟩ := td_tup h2
    obtain rfl := strs_td e2
    obtain ⟨⟨n1, n2, n3, n4, n5⟩, _⟩ := hg
    refine ⟨_, rfl, rfl, false, bl_ne (str_ne (by decide +kernel)), ?_⟩
    refine ⟨_, rfl, two_line, fun o1 ho1 => ⟨o1, ands, rfl, .inr (SqT.of upd_same), rfl, flat_txts _, false, out_txts (by decide +kernel), ?_⟩⟩
    have s1 := same_new ho1 (HO.tup ands)
    refine ⟨_, rfl, two_line, fun o2 ho2 => ⟨o2, somes, rfl, .inr (SqT.of upd_same), rfl, flat_txts _, false, out_txts (by decide +kernel), ?_⟩⟩
    have s2 := s1.trans (same_new ho2 (HO.tup somes))
    refine ⟨_, rfl, rfl, false, bl_ne (str_ne (by decide +kernel)), ?_⟩
    refine ⟨_, rfl, rfl, true, bl_eq rfl, ?_⟩
    refine ⟨_, rfl, a, _, 1, _, rfl, rfl, SqT.of (s2 _ _ hS), rfl, _, rfl, a, _, 2, _, rfl, rfl, SqT.of (s2 _ _ hS), rfl, l1, l2, _, _, rfl, rfl, SqT.of (s2 _ _ k1), SqT.of (s2 _ _ k2), ?_, (fun z => ?_), (fun _ z => ?_), fun _ _ o3 ho3 => ?_⟩
    · rw [List.length_map, List.length_map]
      exact Nat.le_of_lt (small1000 (by omega))
    · have : (l.map V.str).length = 0 := by rw [z]; rfl
      rw [List.length_map] at this
      omega
    · have : (m.map V.str).length = 0 := by rw [z]; rfl
      rw [List.length_map] at this
      omega
    have t3 := same_new ho3 (HO.tup (l.map V.str ++ m.map V.str))
    have s3 := s2.trans t3
    refine ⟨_, rfl, a, _, 3, _, rfl, rfl, SqT.of (s3 _ _ hS), rfl, two_line, fun o4 ho4 => ?_⟩
    have t4 := same_new ho4 (HO.tup [V.ref o3, x3])
    refine ⟨z1, fun o5 ho5 => ?_⟩
    have t5 := same_new ho5 (HO.tup [V.ref o4])
    have b4 := t4.trans t5
    have u3 : upd (upd (upd (upd (upd H o1 (.tup ands)) o2 (.tup somes)) o3 (.tup (l.map V.str ++ m.map V.str))) o4 (.tup [V.ref o3, x3])) o5 (.tup [V.ref o4]) o3 = some (.tup ((l ++ m).map V.str)) := by
      rw [List.map_append]
      exact b4 _ _ upd_same
    exact q _ _ (s3.trans b4) (.tup upd_same (.cons (.tup (t5 _ _ upd_same) (.cons (.tup u3 (td_strs (l ++ m))) (.cons (h3.keep (keep_of (s3.trans b4))) .nil))) .nil))
end
end K52

set_option maxRecDepth 100000
set_option maxHeartbeats 4000000
namespace K52
open PySem PySem.Spec PyProof.Rows L2
theorem tds_get {H : Hp} : ∀ {xs : List V} {ds : List PyData} {i : Nat} {x : V}, TdAll H xs ds → xs[i]? = some x → ∃ d, ds[i]? = some d ∧ Td H x d
  | _, _, i, x, .nil, h => by simp at h
  | _, _, 0, x, .cons h1 h2, h => by
    obtain rfl := Option.some.inj h
    exact ⟨_, rfl, h1⟩
  | _, _, i + 1, x, .cons h1 h2, h => by
    rw [List.getElem?_cons_succ] at h
    obtain ⟨d, e, r⟩ := tds_get h2 h
    exact ⟨d, by rw [List.getElem?_cons_succ]; exact e, r⟩
theorem tds_of {H : Hp} : ∀ {xs : List V} {ds : List PyData}, xs.length = ds.length → (∀ (i : Nat) (x : V), xs[i]? = some x → ∃ d, ds[i]? = some d ∧ Td H x d) → TdAll H xs ds
  | [], [], _, _ => .nil
  | [], _ :: _, h, _ => by simp at h
  | _ :: _, [], h, _ => by simp at h
  | x :: xs, d :: ds, hl, h => by
    obtain ⟨d', e, r⟩ := h 0 x rfl
    obtain rfl := Option.some.inj e
    exact .cons r (tds_of (by simpa using hl) fun i y e => by
      obtain ⟨d', e', r'⟩ := h (i + 1) y (by rw [List.getElem?_cons_succ]; exact e)
      rw [List.getElem?_cons_succ] at e'
      exact ⟨d', e', r'⟩)
theorem tds_len {H : Hp} : ∀ {xs : List V} {ds : List PyData}, TdAll H xs ds → xs.length = ds.length
  | _, _, .nil => rfl
  | _, _, .cons _ h => by rw [List.length_cons, List.length_cons, tds_len h]
theorem tds_app {H : Hp} : ∀ {xs ys : List V} {ds es : List PyData}, TdAll H xs ds → TdAll H ys es → TdAll H (xs ++ ys) (ds ++ es)
  | _, _, _, _, .nil, h => h
  | _, _, _, _, .cons h1 h2, h => .cons h1 (tds_app h2 h)
theorem td_tuple {H : Hp} {v : V} {l : List PyData} (h : Td H v (.tuple l)) : ∃ a xs, v = .ref a ∧ H a = some (.tup xs) ∧ TdAll H xs l := by
  cases h with
  | tup h1 h2 => exact ⟨_, _, rfl, h1, h2⟩
theorem take_snoc {α : Type} : ∀ {l : List α} {i : Nat} {x : α}, l[i]? = some x → l.take (i + 1) = l.take i ++ [x]
  | [], i, x, h => by simp at h
  | y :: l, 0, x, h => by
    obtain rfl := Option.some.inj h
    rfl
  | y :: l, i + 1, x, h => by
    rw [List.getElem?_cons_succ] at h
    rw [List.take_succ_cons, List.take_succ_cons, take_snoc h, List.cons_append]
section
variable {P : Program} {w : World} {K : PySem.W.Frag} {mg : Str → Option Value} {base : Heap}
abbrev sParts : Stmt := top 37
def spParts : Sp := fun vs H Q _ => ∃ (v : V) (t : Tr), vs = [v] ∧ At H t v ∧ t.Good ∧ ∀ H' v', Same H H' → Td H' v' (ptData t) → Q v' H'
theorem scParts : FnScope ["tree", "scope"] ["tree"] (defScope sParts) := ⟨rfl, rfl, rfl, by decide +kernel, rfl, by decide +kernel, by decide +kernel⟩
theorem sub_few (t : Tr) : t.sub.length ≤ 2 := by cases t <;> simp [Tr.sub]
theorem cal_parts (E1 : Env1 K mg) (D : Def K mg "parts" sParts) (c1 : Cal P w K mg base CX0 1 "scopes" spScopes) : Cal P w K mg base CX0 2 "parts" spParts := by
  refine cal_mk D scParts (fun _ _ _ _ _ _ us hl => match us, hl with | [_], _ => rfl) (fun vs H Q E h => ?_) (fun f cdv A outer s H vs Q E hr h => ?_)
  · obtain ⟨v, t, rfl, _⟩ := h
    rfl
  obtain ⟨v, t, rfl, hd, hg, q⟩ := h
  refine ⟨_, pss_one (ps_ret (pe_callTy call_tuple_of rfl E1.tuple (by decide +kernel) (pa_cons (pe_lc (own := [("scope", 1)]) (g := gName 1) (tt := tYes) rfl scParts.nd (pi_tup (pe_c c1 hr (by decide) (pa_cons (pv 0) pa_nil))) (blkOk_by (N := ["tree", "scope"]) (sc := defScope sParts) (by decide +kernel))
      (fun _ _ _ _ _ => pg_name (i := 1) scParts.nd rfl (Or.inl rfl)) (fun _ _ _ _ _ => pts_nil) (fun _ _ _ _ _ => pe_ix (r := rIxT K) ix_tup (pv 1) pe_int (fun _ _ => rfl))) pa_nil))), ?_⟩
  refine ⟨_, rfl, v, t, rfl, hd, hg, fun H1 v1 s1 d1 => ?_⟩
  obtain ⟨a1, ys, rfl, h1, r1⟩ := td_tuple d1
  have hl1 : ys.length = t.sub.length := by rw [tds_len r1, List.length_map]
  have few := sub_few t
  refine ⟨a1, rfl, ⟨_, SqT.of h1⟩, fun T hT => ?_⟩
  refine lc_name walk_tup (fun i y H2 => ∃ d, (t.sub.map fun x => x.2.dat true)[i]? = some d ∧ Td H2 y d) (fun _ _ _ _ h => h.1) hT (by rw [hl1]; exact small1000 (by omega)) (fun H2 s2 => SqT.of (s2 _ _ h1)) (fun i y H2 H3 k ⟨d, e, r⟩ => ⟨d, e, r.keep k⟩) (fun _ => rfl) ?_ ?_
  · rintro i x H2 N hi s2 ⟨_, hx⟩ k
    obtain ⟨d, e, r⟩ := tds_get (r1.keep (keep_of s2)) hx
    rw [List.getElem?_map] at e
    cases e2 : t.sub[i]? with
    | none =>
      rw [e2] at e
      cases e
    | some z =>
      rw [e2] at e
      obtain rfl := Option.some.inj e
      obtain ⟨a2, zs, rfl, h2, r2⟩ := td_tuple r
      obtain ⟨y0, zs1, rfl, k0, r3⟩ := tds_cons r2
      obtain ⟨y1, zs2, rfl, k1, r4⟩ := tds_cons r3
      obtain rfl := tds_nil r4
      refine ⟨_, rfl, a2, _, 1, _, rfl, rfl, SqT.of h2, rfl, k _ _ (Same.refl _) ⟨_, ?_, k1⟩⟩
      rw [List.getElem?_map, e2]
      rfl
  · intro zs H2 hl hy s2 hd2
    refine ⟨T, _, rfl, .inl ⟨SqL.of hd2, fun p hp => q _ _ ((s1.trans s2).trans (same_new hp _)) (.tup upd_same ?_)⟩⟩
    refine TdAll.keep (keep_new hp _) (tds_of (by rw [hl, hl1, List.length_map]) hy)
abbrev sSubtrees : Stmt := top 38
def spSubtrees (n : Nat) : Sp := fun vs H Q _ => ∃ (v : V) (t : Tr), vs = [v] ∧ At H t v ∧ t.Good ∧ t.deep ≤ n ∧ t.size ≤ 100000 ∧ ∀ H' p ys, Same H H' → H' p = some (.lst ys) → TdAll H' ys (t.subs.map (Tr.dat true)) → Q (.ref p) H'
theorem scSubtrees : FnScope ["tree", "found", "part"] ["tree"] (defScope sSubtrees) := ⟨rfl, rfl, rfl, by decide +kernel, rfl, by decide +kernel, by decide +kernel⟩
theorem size_line {n : Nat} (h : n ≤ 100000) : n ≤ sizeLine := Nat.le_trans h (by decide)
/-- the trees of the first i parts -/
def subsOf (t : Tr) (i : Nat) : List Tr := ((t.sub.take i).map fun x => x.2.subs).flatten
theorem subsOf_all (t : Tr) : t :: subsOf t t.sub.length = t.subs := by
  unfold subsOf
  rw [List.take_length, ← Tr.subs_eq]
theorem subsOf_succ {t : Tr} {i : Nat} {x : List Str × Tr} (h : t.sub[i]? = some x) : subsOf t (i + 1) = subsOf t i ++ x.2.subs := by
  unfold subsOf
  rw [take_snoc h, List.map_append, List.flatten_append]
  simp
theorem subsOf_le (t : Tr) (i : Nat) : (subsOf t i).length + 1 ≤ t.size := by
  have h : subsOf t t.sub.length = subsOf t i ++ ((t.sub.drop i).map fun x => x.2.subs).flatten := by
    unfold subsOf
    rw [← List.flatten_append, ← List.map_append, List.take_append_drop, List.take_length]
  have e := congrArg List.length (subsOf_all t)
  rw [Tr.subs_len, List.length_cons, h, List.length_append] at e
  omega
theorem sub_at {t : Tr} {i : Nat} {d : PyData} (h : (t.sub.map fun x => x.2.dat true)[i]? = some d) : ∃ x, t.sub[i]? = some x ∧ d = x.2.dat true := by
  rw [List.getElem?_map] at h
  cases e2 : t.sub[i]? with
  | none =>
    rw [e2] at h
    cases h
  | some z =>
    rw [e2] at h
    exact ⟨z, rfl, (Option.some.inj h).symm⟩
theorem cal_subtrees {n : Nat} (E1 : Env1 K mg) (D : Def K mg "subtrees" sSubtrees) (c2 : Cal P w K mg base CX0 2 "parts" spParts) (cs : Cal P w K mg base CX0 (n + 2) "subtrees" (spSubtrees n)) : Cal P w K mg base CX0 (n + 3) "subtrees" (spSubtrees (n + 1)) := by
  refine cal_mk D scSubtrees (fun _ _ _ _ _ _ us hl => match us, hl with | [_], _ => rfl) (fun vs H Q E h => ?_) (fun f cdv A outer s H vs Q E hr h => ?_)
  · obtain ⟨v, t, rfl, _⟩ := h
    rfl
  obtain ⟨v, t, rfl, hd, hg, hn, hz, q⟩ := h
  refine ⟨_, pss_cons (ps_set (i := 1) scSubtrees.nd rfl (Or.inl rfl) (pe_lst (pa_cons (pv 0) pa_nil)))
    (pss_cons (ps_for PassesOwn.never rfl (pi_tup (pe_c c2 hr (by omega) (pa_cons (pv 0) pa_nil))) (pg_name (i := 2) scSubtrees.nd rfl (Or.inl rfl))
      (pss_one (ps_expr (pe_bm PySem.F.plainAttrs_list PySem.F.slot_list_extend PySem.F.type_list_extend mt_extend (pv 1) (pa_cons (pe_c cs hr (Nat.le_refl _) (pa_cons (pv 2) pa_nil)) pa_nil)))))
    (pss_one (ps_ret (pv 1)))), ?_⟩
  refine ⟨_, rfl, by show 1 ≤ sizeLine; decide, fun L hL => ?_⟩
  have s0 := same_new hL (HO.lst [v])
  refine ⟨_, rfl, v, t, rfl, hd.keep (keep_of s0), hg, fun H1 v1 s1 d1 => ?_⟩
  obtain ⟨a1, ps, rfl, h1, r1⟩ := td_tuple d1
  have hl1 : ps.length = t.sub.length := by rw [tds_len r1, List.length_map]
  have hs01 := s0.trans s1
  refine ⟨a1, rfl, ⟨_, SqT.of h1⟩, for_it (walk_tup (xs := ps)) (fun i σ H2 => ∃ ys z, σ = [some v, some (.ref L), z] ∧ H2 L = some (.lst ys) ∧ TdAll H2 ys ((t :: subsOf t i).map (Tr.dat true)) ∧ Keep H1 H2 ∧ Same H H2) ?_ ?_ ?_ ?_⟩
  · refine ⟨[v], none, rfl, s1 _ _ upd_same, .cons (hd.keep (keep_of hs01)) ?_, Keep.refl _, hs01⟩
    unfold subsOf
    exact .nil
  · rintro i σ H2 _ ⟨ys, z, _, _, _, k, _⟩
    exact SqT.of (k _ _ h1)
  · rintro i x σ H2 H3 hi ⟨ys, z, rfl, hL2, r2, k2, s2⟩ ⟨rfl, hx⟩
    obtain ⟨d, e, r⟩ := tds_get (r1.keep k2) hx
    obtain ⟨u, hu, rfl⟩ := sub_at e
    obtain ⟨gu, du⟩ := Tr.sub_good hg u.1 u.2 (List.mem_of_getElem? hu)
    have hle := subsOf_le t i
    have hle2 := subsOf_le t (i + 1)
    rw [subsOf_succ hu, List.length_append] at hle2
    have usz : u.2.size ≤ 100000 := by
      rw [← Tr.subs_len]
      omega
    have ylen : ys.length = (subsOf t i).length + 1 := by rw [tds_len r2, List.length_map, List.length_cons]
    refine ⟨_, rfl, .inl ⟨rfl, _, SqL.of hL2⟩, _, rfl, x, u.2, rfl, r, gu, by omega, usz, fun H4 p zs s4 hp rz => ?_⟩
    have zlen : zs.length = u.2.subs.length := by rw [tds_len rz, List.length_map]
    have hL4 := s4 _ _ hL2
    refine ⟨L, p, ys, zs, rfl, rfl, hL4, hp, size_line (by omega), ?_⟩
    refine ⟨ys ++ zs, some x, rfl, upd_same, ?_, (k2.trans (keep_of s4)).trans (keep_lst hL4), same_upd (s2.trans s4) hL _⟩
    rw [subsOf_succ hu, ← List.cons_append, List.map_append]
    exact tds_app (r2.keep ((keep_of s4).trans (keep_lst hL4))) (rz.keep (keep_lst hL4))
  · rintro σ H2 ⟨ys, z, rfl, hL2, r2, k2, s2⟩
    rw [hl1, subsOf_all] at r2
    exact ⟨_, rfl, q _ _ ys s2 hL2 r2⟩
abbrev sOwnVars : Stmt := top 39
def spOwnVars : Sp := fun vs H Q _ => ∃ (v : V) (t : Tr), vs = [v] ∧ At H t v ∧ t.Good ∧ ∀ H' p, Same H H' → H' p = some (.tup (t.own.map V.str)) → Q (.ref p) H'
theorem scOwnVars : FnScope ["tree", "word"] ["tree"] (defScope sOwnVars) := ⟨rfl, rfl, rfl, by decide +kernel, rfl, by decide +kernel, by decide +kernel⟩
theorem cut_one {x : V} {l : List V} : ¬ (HT.sIx (x :: l).length 0 (some 1) = 0 ∧ HT.sIx (x :: l).length (x :: l).length none = (x :: l).length) ∧ cutV (x :: l) (some 1) none = l := by
  have e : (x :: l).length = l.length + 1 := rfl
  have e1 : HT.sIx (x :: l).length 0 (some 1) = 1 := by
    have : HT.sIx (l.length + 1) 0 (some ((1 : Nat) : Int)) = min 1 (l.length + 1) := HT.sIx_nat _ _ 1
    rw [e]
    have e2 : HT.sIx (l.length + 1) 0 (some 1) = min 1 (l.length + 1) := this
    omega
  refine ⟨fun z => by omega, ?_⟩
  unfold cutV
  rw [e1, HT.sIx_none, e]
  show (l.drop 0).take (l.length + 1 - 1) = l
  rw [List.drop_zero, Nat.add_sub_cancel, List.take_length]
theorem cal_own (E1 : Env1 K mg) (D : Def K mg "own_variables" sOwnVars) : Cal P w K mg base CX0 1 "own_variables" spOwnVars := by
  refine cal_mk D scOwnVars (fun _ _ _ _ _ _ us hl => match us, hl with | [_], _ => rfl) (fun vs H Q E h => ?_) (fun f cdv A outer s H vs Q E hr h => ?_)
  · obtain ⟨v, t, rfl, _⟩ := h
    rfl
  obtain ⟨v, t, rfl, hd, hg, q⟩ := h
  obtain ⟨at0, ma, hA⟩ := E1.atoms
  refine ⟨_, pss_cons (ps_set (i := 1) scOwnVars.nd rfl (Or.inl rfl) (pe_ix ix_tup (pv 0) pe_int (fun _ _ => rfl)))
    (pss_cons (ps_if (pt_cmpR op_eq (pv 1) pe_str (nomark _)) (pss_one (ps_ret (pe_ix ix_tup (pv 0) pe_int (fun _ _ => rfl)))) pss_nil)
    (pss_cons (ps_if (pt_cmpR op_in_seq (pv 1) (pe_g (v := .ref at0) ⟨_, ma, rfl⟩) rfl) (pss_one (ps_ret (pe_slice sl_tup (pv 0) (po_some pe_int) po_none))) pss_nil)
    (pss_cons (ps_if (pt_cmpR op_eq (pv 1) pe_str (nomark _)) (pss_one (ps_ret (pe_op op_catA (pe_ix ix_tup (pv 0) pe_int (fun _ _ => rfl)) (pe_ix ix_tup (pv 0) pe_int (fun _ _ => rfl))))) pss_nil)
    (pss_one (ps_ret (pe_tup pa_nil)))))), ?_⟩
  obtain ⟨a, x, xs, rfl, hS, hxs⟩ := at_seq hd
  refine ⟨_, rfl, a, _, 0, _, rfl, rfl, SqT.of hS, at_hd, ?_⟩
  have z0 : (0 : Nat) ≤ sizeLine := Nat.zero_le _
  cases t with
  | rel nm vs =>
    obtain ⟨x0, ys0, e0, h0, c0⟩ := tds_cons hxs
    cases e0
    obtain ⟨x1, ys1, rfl, h1, c1⟩ := tds_cons c0
    obtain ⟨x2, ys2, rfl, h2, c2⟩ := tds_cons c1
    obtain rfl := tds_nil c2
    obtain rfl := td_str h0
    obtain ⟨l2, y2, rfl, k2, e2⟩ := td_tup h2
    obtain rfl := strs_td e2
    refine ⟨_, rfl, rfl, true, bl_eq rfl, ?_⟩
    exact ⟨_, rfl, a, _, 2, _, rfl, rfl, SqT.of hS, rfl, q _ _ (Same.refl _) k2⟩
  | atm wd vs =>
    obtain ⟨x0, ys0, e0, h0, c0⟩ := tds_cons hxs
    cases e0
    obtain rfl := td_str h0
    obtain rfl := strs_td c0
    have hw : wd ≠ "rel" ∧ wd ∈ atoms := by
      rcases hg.1 with ⟨g1, _⟩ | ⟨g1, _⟩
      · simp only [List.mem_cons, List.not_mem_nil, or_false] at g1
        rcases g1 with rfl | rfl | rfl <;> decide +kernel
      · simp only [List.mem_cons, List.not_mem_nil, or_false] at g1
        rcases g1 with rfl | rfl <;> decide +kernel
    refine ⟨_, rfl, rfl, false, bl_ne (str_ne hw.1), ?_⟩
    refine ⟨_, rfl, at0, atoms.map V.str, rfl, .inr (hA _), rfl, flat_txts _, true, in_txts hw.2, ?_⟩
    refine ⟨_, rfl, 1, rfl, a, _, rfl, SqT.of hS, cut_one.1, fun p hp => q _ _ (same_new hp _) ?_⟩
    rw [upd_same, cut_one.2]
    rfl
  | neg p =>
    obtain ⟨x0, ys0, e0, h0, c0⟩ := tds_cons hxs
    cases e0
    obtain rfl := td_str h0
    refine ⟨_, rfl, rfl, false, bl_ne (str_ne (by decide +kernel)), ?_⟩
    refine ⟨_, rfl, at0, atoms.map V.str, rfl, .inr (hA _), rfl, flat_txts _, false, out_txts (by decide +kernel), ?_⟩
    refine ⟨_, rfl, rfl, false, bl_ne (str_ne (by decide +kernel)), ?_⟩
    exact ⟨z0, fun p hp => q _ _ (same_new hp _) upd_same⟩
  | bin wd p1 p2 =>
    obtain ⟨x0, ys0, e0, h0, c0⟩ := tds_cons hxs
    cases e0
    obtain rfl := td_str h0
    have hw : wd ≠ "rel" ∧ wd ∉ atoms ∧ wd ≠ "walk" := by
      have gw := hg.1
      simp only [List.mem_cons, List.not_mem_nil, or_false] at gw
      rcases gw with rfl | rfl <;> decide +kernel
    refine ⟨_, rfl, rfl, false, bl_ne (str_ne hw.1), ?_⟩
    refine ⟨_, rfl, at0, atoms.map V.str, rfl, .inr (hA _), rfl, flat_txts _, false, out_txts hw.2.1, ?_⟩
    refine ⟨_, rfl, rfl, false, bl_ne (str_ne hw.2.2), ?_⟩
    exact ⟨z0, fun p hp => q _ _ (same_new hp _) upd_same⟩
  | qu wd z p =>
    obtain ⟨x0, ys0, e0, h0, c0⟩ := tds_cons hxs
    cases e0
    obtain rfl := td_str h0
    have hw : wd ≠ "rel" ∧ wd ∉ atoms ∧ wd ≠ "walk" := by
      have gw := hg.1
      simp only [List.mem_cons, List.not_mem_nil, or_false] at gw
      rcases gw with rfl | rfl <;> decide +kernel
    refine ⟨_, rfl, rfl, false, bl_ne (str_ne hw.1), ?_⟩
    refine ⟨_, rfl, at0, atoms.map V.str, rfl, .inr (hA _), rfl, flat_txts _, false, out_txts hw.2.1, ?_⟩
    refine ⟨_, rfl, rfl, false, bl_ne (str_ne hw.2.2), ?_⟩
    exact ⟨z0, fun p hp => q _ _ (same_new hp _) upd_same⟩
  | mo z p1 y p2 =>
    obtain ⟨x0, ys0, e0, h0, c0⟩ := tds_cons hxs
    cases e0
    obtain rfl := td_str h0
    refine ⟨_, rfl, rfl, false, bl_ne (str_ne (by decide +kernel)), ?_⟩
    refine ⟨_, rfl, at0, atoms.map V.str, rfl, .inr (hA _), rfl, flat_txts _, false, out_txts (by decide +kernel), ?_⟩
    refine ⟨_, rfl, rfl, false, bl_ne (str_ne (by decide +kernel)), ?_⟩
    exact ⟨z0, fun p hp => q _ _ (same_new hp _) upd_same⟩
  | wk l m p st g =>
    obtain ⟨x0, ys0, e0, h0, c0⟩ := tds_cons hxs
    cases e0
    obtain ⟨x1, ys1, rfl, h1, c1⟩ := tds_cons c0
    obtain ⟨x2, ys2, rfl, h2, c2⟩ := tds_cons c1
    obtain ⟨x3, ys3, rfl, h3, c3⟩ := tds_cons c2
    obtain ⟨x4, ys4, rfl, h4, c4⟩ := tds_cons c3
    obtain ⟨x5, ys5, rfl, h5, c5⟩ := tds_cons c4
    obtain rfl := tds_nil c5
    obtain rfl := td_str h0
    obtain ⟨l1, y1, rfl, k1, e1⟩ := td_tup h4
    obtain rfl := strs_td e1
    obtain ⟨l2, y2, rfl, k2, e2⟩ := td_tup h5
    obtain rfl := strs_td e2
    obtain ⟨⟨n1, n2, n3, n4, n5⟩, _⟩ := hg
    refine ⟨_, rfl, rfl, false, bl_ne (str_ne (by decide +kernel)), ?_⟩
    refine ⟨_, rfl, at0, atoms.map V.str, rfl, .inr (hA _), rfl, flat_txts _, false, out_txts (by decide +kernel), ?_⟩
    refine ⟨_, rfl, rfl, true, bl_eq rfl, ?_⟩
    refine ⟨_, rfl, a, _, 4, _, rfl, rfl, SqT.of hS, rfl, _, rfl, a, _, 5, _, rfl, rfl, SqT.of hS, rfl, l1, l2, _, _, rfl, rfl, SqT.of k1, SqT.of k2, ?_, (fun z => ?_), (fun _ z => ?_), fun _ _ o3 ho3 => ?_⟩
    · rw [List.length_map, List.length_map]
      exact Nat.le_of_lt (small1000 (by omega))
    · have : (st.map V.str).length = 0 := by rw [z]; rfl
      rw [List.length_map] at this
      omega
    · have : (g.map V.str).length = 0 := by rw [z]; rfl
      rw [List.length_map] at this
      omega
    refine q _ _ (same_new ho3 _) ?_
    rw [upd_same]
    show _ = some (HO.tup ((st ++ g).map V.str))
    rw [List.map_append]
end
end K52

set_option maxRecDepth 100000
set_option maxHeartbeats 4000000
namespace K52
open PySem PySem.Spec PyProof.Rows L2
/-- a dict of texts, each with True -/
def kk (ks : List Str) : List (Key × V) := ks.map fun k => ((Sum.inr k : Key), V.bl true)
def addK (ks : List Str) (x : Str) : List Str := if x ∈ ks then ks else ks ++ [x]
theorem kk_len (ks : List Str) : (kk ks).length = ks.length := List.length_map _
theorem put_kk (ks : List Str) (x : Str) : putK (kk ks) (Sum.inr x) (V.bl true) = kk (addK ks x) := by
  have h : ((kk ks).any fun kv => decide (kv.1 = (Sum.inr x : Key))) = decide (x ∈ ks) := by
    unfold kk
    induction ks with
    | nil => rfl
    | cons k ks ih =>
      rw [List.map_cons, List.any_cons, ih]
      by_cases e : k = x
      · subst e
        simp
      · have e2 : ¬ x = k := fun z => e z.symm
        simp [e, e2]
  unfold putK addK
  rw [h]
  by_cases e : x ∈ ks
  · rw [decide_eq_true e, if_pos rfl, if_pos e]
    unfold kk
    rw [List.map_map]
    refine List.map_congr_left fun k _ => ?_
    show (if (Sum.inr k : Key) = Sum.inr x then ((Sum.inr k : Key), V.bl true) else ((Sum.inr k : Key), V.bl true)) = _
    split <;> rfl
  · rw [decide_eq_false e, if_neg (by decide), if_neg e]
    unfold kk
    rw [List.map_append]
    rfl
theorem mem_addK {ks : List Str} {x y : Str} : y ∈ addK ks x ↔ y ∈ ks ∨ y = x := by
  unfold addK
  split
  · rename_i h
    constructor
    · exact .inl
    · rintro (h2 | rfl)
      · exact h2
      · exact h
  · rw [List.mem_append, List.mem_singleton]
theorem nd_addK {ks : List Str} {x : Str} (h : ks.Nodup) : (addK ks x).Nodup := by
  unfold addK
  split
  · exact h
  · rename_i hx
    rw [List.nodup_append]
    refine ⟨h, by simp, fun a ha b hb => ?_⟩
    rw [List.mem_singleton] at hb
    subst hb
    exact fun e => hx (e ▸ ha)
theorem kk_keys (ks : List Str) : (kk ks).map (·.1) = ks.map Sum.inr := by
  unfold kk
  rw [List.map_map]
  rfl
theorem few_menu {ks : List Str} (h : ks.Nodup) (hm : ∀ x ∈ ks, x ∈ menu) : ks.length ≤ 14 := by
  have e : ks.length = (menu.filter fun x => decide (x ∈ ks)).length := same_len h (menu_nd.filter _) fun x => by
    rw [List.mem_filter, decide_eq_true_eq]
    exact ⟨fun hx => ⟨hm x hx, hx⟩, fun hx => hx.2⟩
  rw [e]
  exact List.length_filter_le _ _
section
variable {P : Program} {w : World} {K : PySem.W.Frag} {mg : Str → Option Value} {base : Heap}
theorem sw_dc {kx vx : Expr} {gs : List Comprehension} {scope : Scope} {pos py : Pos} {y : Str} {l : Nat} {env : Env} (hk : env.scope.kind = .function) (hy : env.scope.names.lookup y = some .local) (hl : (py.line == pos.line) = true)
    (ha : (scope.names.any fun (n, k) => n == y && (k == .local || k == .cell)) = false) : swapsWith (.DictComp kx vx gs scope pos) (some (.Name y py)) l env = pure true := by
  have k1 : env.kindOf y = some .local := hy
  have k2 : env.blockKind = .function := by
    unfold Env.blockKind
    rw [hk]
    rfl
  unfold swapsWith
  simp only [k1, k2, ha, Expr.pos, hl]
  rfl
abbrev sFreeNames : Stmt := top 40
def spFreeNames (n : Nat) : Sp := fun vs H Q _ => ∃ (v : V) (t : Tr), vs = [v] ∧ At H t v ∧ t.Good ∧ t.deep ≤ n ∧ ∀ H' p ks, Same H H' → H p = none → H' p = some (.dK (kk ks)) → ks.Nodup → (∀ x, x ∈ ks ↔ x ∈ t.fv) → Q (.ref p) H'
theorem scFreeNames : FnScope ["tree", "found", "bound", "part", "name"] ["tree"] (defScope sFreeNames) := ⟨rfl, rfl, rfl, by decide +kernel, rfl, by decide +kernel, by decide +kernel⟩
/-- the names that are free so far: the own ones and those of the first i parts -/
def FreeTo (t : Tr) (i : Nat) (x : Str) : Prop := x ∈ t.own ∨ ∃ b p, (b, p) ∈ t.sub.take i ∧ x ∈ p.fv ∧ x ∉ b
theorem freeTo_succ {t : Tr} {i : Nat} {u : List Str × Tr} (h : t.sub[i]? = some u) (x : Str) : FreeTo t (i + 1) x ↔ FreeTo t i x ∨ (x ∈ u.2.fv ∧ x ∉ u.1) := by
  unfold FreeTo
  rw [take_snoc h]
  constructor
  · rintro (h1 | ⟨b, p, hm, h1, h2⟩)
    · exact .inl (.inl h1)
    · rcases List.mem_append.mp hm with hm | hm
      · exact .inl (.inr ⟨b, p, hm, h1, h2⟩)
      · rw [List.mem_singleton] at hm
        subst hm
        exact .inr ⟨h1, h2⟩
  · rintro ((h1 | ⟨b, p, hm, h1, h2⟩) | ⟨h1, h2⟩)
    · exact .inl h1
    · exact .inr ⟨b, p, List.mem_append_left _ hm, h1, h2⟩
    · exact .inr ⟨u.1, u.2, List.mem_append_right _ (List.mem_singleton.mpr rfl), h1, h2⟩
theorem freeTo_all (t : Tr) (x : Str) : FreeTo t t.sub.length x ↔ x ∈ t.fv := by
  unfold FreeTo
  rw [List.take_length, Tr.mem_fv]
theorem freeTo_menu {t : Tr} (hg : t.Good) {i : Nat} {x : Str} (h : FreeTo t i x) : x ∈ menu := by
  refine Tr.fv_menu hg x ((Tr.mem_fv t x).mpr ?_)
  rcases h with h | ⟨b, p, hm, h⟩
  · exact .inl h
  · exact .inr ⟨b, p, List.mem_of_mem_take hm, h⟩
theorem cal_free_names {n : Nat} (E1 : Env1 K mg) (D : Def K mg "free_names" sFreeNames) (c1 : Cal P w K mg base CX0 1 "own_variables" spOwnVars) (c2 : Cal P w K mg base CX0 1 "scopes" spScopes) (cs : Cal P w K mg base CX0 (n + 1) "free_names" (spFreeNames n)) :
    Cal P w K mg base CX0 (n + 2) "free_names" (spFreeNames (n + 1)) := by
  refine cal_mk D scFreeNames (fun _ _ _ _ _ _ us hl => match us, hl with | [_], _ => rfl) (fun vs H Q E h => ?_) (fun f cdv A outer s H vs Q E hr h => ?_)
  · obtain ⟨v, t, rfl, _⟩ := h
    rfl
  obtain ⟨v, t, rfl, hd, hg, hn, q⟩ := h
  refine ⟨_, pss_cons (ps_setDc (i := 1) (own := [("name", 4)]) (g := gName 4) (tt := tYes) rfl scFreeNames.nd rfl rfl (sw_dc rfl rfl rfl (by decide +kernel)) (pi_tup (pe_c c1 hr (by omega) (pa_cons (pv 0) pa_nil))) (blkOk_by (N := ["tree", "found", "bound", "part", "name"]) (sc := defScope sFreeNames) (by decide +kernel))
      (fun _ _ _ _ _ => pg_name (i := 4) scFreeNames.nd rfl (Or.inl rfl)) (fun _ _ _ _ _ => pts_nil) (fun _ _ _ _ _ => pv 4) (fun _ _ _ _ _ => pe_bl))
    (pss_cons (ps_for PassesOwn.never rfl (pi_tup (pe_c c2 hr (by omega) (pa_cons (pv 0) pa_nil))) (pg_tup rfl (pgs_cons (pg_name (i := 2) scFreeNames.nd rfl (Or.inl rfl)) (pgs_cons (pg_name (i := 3) scFreeNames.nd rfl (Or.inl rfl)) pgs_nil)))
      (pss_one (ps_for PassesOwn.never rfl (pi_keys (pe_frz (pe_c cs hr (Nat.le_refl _) (pa_cons (pv 3) pa_nil)))) (pg_name (i := 4) scFreeNames.nd rfl (Or.inl rfl))
        (pss_one (ps_if (pt_cmpR op_notIn_seq (pv 4) (pv 2) rfl) (pss_one (ps_dput (hu_of hr) (pv 1) (pv 4) pe_bl rfl)) pss_nil)))))
    (pss_one (ps_ret (pv 1)))), ?_⟩
  refine ⟨_, rfl, v, t, rfl, hd, hg, fun H1 p1 s1 t1 => ?_⟩
  have olen : t.own.length ≤ 120 := by
    cases t with
    | rel nm vs => exact Nat.le_trans (Nat.le_of_eq hg.2.1) (Nat.le_trans (ar_le nm).2 (by decide))
    | atm wd vs =>
      show vs.length ≤ 120
      rcases hg.1 with ⟨_, g1⟩ | ⟨_, g1⟩ <;> omega
    | wk l m p st g =>
      obtain ⟨⟨n1, n2, n3, n4, n5⟩, _⟩ := hg
      show (st ++ g).length ≤ 120
      rw [List.length_append]
      omega
    | neg p => exact Nat.zero_le _
    | bin wd p1 p2 => exact Nat.zero_le _
    | qu wd z p => exact Nat.zero_le _
    | mo z p1 y p2 => exact Nat.zero_le _
  refine ⟨p1, rfl, ⟨_, SqT.of t1⟩, fun F hF => ?_⟩
  have nF : H F = none := s1.free hF
  refine dc_tup (K := K) (a := p1) (xs := t.own.map V.str) (fun i H2 => ∃ ks, H2 F = some (.dK (kk ks)) ∧ ks.Nodup ∧ (∀ x, x ∈ ks ↔ x ∈ t.own.take i) ∧ Same H1 H2) ⟨[], upd_same, List.nodup_nil, fun x => by simp, same_new hF _⟩ (fun i H2 _ ⟨_, _, _, _, s2⟩ => SqT.of (s2 _ _ t1)) ?_ ?_
  · rintro i x H2 hx ⟨ks, h1, h2, h3, s2⟩
    rw [List.getElem?_map] at hx
    cases e : t.own[i]? with
    | none =>
      rw [e] at hx
      cases hx
    | some z =>
      rw [e] at hx
      obtain rfl := Option.some.inj hx
      have kl : ks.length ≤ 14 := few_menu h2 fun x hx => Tr.own_menu hg x (List.mem_of_mem_take ((h3 x).mp hx))
      refine ⟨rfl, ?_⟩
      refine ⟨_, rfl, kk ks, Sum.inr z, rfl, h1, by rw [kk_len]; exact small1000 (by omega), addK ks z, by rw [put_kk]; exact upd_same, nd_addK h2, fun x => ?_, same_upd s2 hF _⟩
      rw [mem_addK, h3, take_snoc e, List.mem_append, List.mem_singleton]
  rintro H2 ⟨ks, h1, h2, h3, s2⟩
  rw [List.length_map, List.take_length] at h3
  have s02 := s1.trans s2
  -- the parts
  refine ⟨_, rfl, v, t, rfl, hd.keep (keep_of s02), hg, fun H3 v3 s3 d3 => ?_⟩
  obtain ⟨a3, ps, rfl, g3, r3⟩ := td_tuple d3
  have hl3 : ps.length = t.sub.length := by rw [tds_len r3, List.length_map]
  have s03 := s02.trans s3
  refine ⟨a3, rfl, ⟨_, SqT.of g3⟩, for_it (walk_tup (xs := ps)) (fun i σ H4 => ∃ ks b c d, σ = [some v, some (.ref F), b, c, d] ∧ H4 F = some (.dK (kk ks)) ∧ ks.Nodup ∧ (∀ x, x ∈ ks ↔ FreeTo t i x) ∧ Keep H3 H4 ∧ Same H H4) ?_ ?_ ?_ ?_⟩
  · refine ⟨ks, none, none, none, rfl, s3 _ _ h1, h2, fun x => ?_, Keep.refl _, s03⟩
    rw [h3]
    unfold FreeTo
    simp
  · rintro i σ H4 _ ⟨_, _, _, _, _, _, _, _, k, _⟩
    exact SqT.of (k _ _ g3)
  · rintro i x σ H4 H5 hi ⟨ks4, b, c, d, rfl, k1, k2, k3, k4, s4⟩ ⟨rfl, hx⟩
    obtain ⟨dd, e, r⟩ := tds_get (r3.keep k4) hx
    rw [List.getElem?_map] at e
    obtain ⟨u, hu, e2⟩ : ∃ u, t.sub[i]? = some u ∧ dd = .tuple [.tuple (u.1.map PyData.str), u.2.dat true] := by
      cases e3 : t.sub[i]? with
      | none =>
        rw [e3] at e
        cases e
      | some z =>
        rw [e3] at e
        exact ⟨z, rfl, (Option.some.inj e).symm⟩
    subst e2
    obtain ⟨gu, du⟩ := Tr.sub_good hg u.1 u.2 (List.mem_of_getElem? hu)
    obtain ⟨o1, y1, rfl, w1, r1⟩ := td_tuple r
    obtain ⟨z0, zs0, rfl, q0, c0⟩ := tds_cons r1
    obtain ⟨z1, zs1, rfl, q1, c1'⟩ := tds_cons c0
    obtain rfl := tds_nil c1'
    obtain ⟨o2, y2, rfl, w2, r2⟩ := td_tuple q0
    obtain rfl := strs_td r2
    refine ⟨o1, _, rfl, SqT.of w1, rfl, _, _, rfl, _, _, rfl, rfl, ?_⟩
    refine ⟨_, rfl, z1, u.2, rfl, q1, gu, by omega, fun H6 p6 ys s6 n6 t6 nd6 m6 => ⟨p6, _, rfl, t6, True.intro, fun od => ?_⟩⟩
    have k6 := s6 _ _ k1
    have dF : F ≠ p6 := ne_of_none k1 n6
    have s46 : Keep H5 (upd H6 p6 (.frz od (.dK (kk ys)))) := (keep_of s6).trans (keep_dK t6)
    have s06 : Same H (upd H6 p6 (.frz od (.dK (kk ys)))) := same_upd (s4.trans s6) (s4.free n6) _
    refine ⟨p6, od, rfl, .inl ⟨kk ys, upd_same, ?_⟩⟩
    refine for_it walk_keys (fun j σ H7 => ∃ ks7 e7, σ = [some v, some (.ref F), some (.ref o2), some z1, e7] ∧ H7 F = some (.dK (kk ks7)) ∧ ks7.Nodup ∧ (∀ x, x ∈ ks7 ↔ FreeTo t i x ∨ (x ∈ ys.take j ∧ x ∉ u.1)) ∧ Keep H5 H7 ∧ Same H H7 ∧ H7 p6 = some (.frz od (.dK (kk ys)))) ?_ ?_ ?_ ?_
    · exact ⟨ks4, d, rfl, by rw [upd_ne dF]; exact k6, k2, fun x => by rw [k3]; simp, s46, s06, upd_same⟩
    · rintro j σ H7 _ ⟨_, _, _, _, _, _, _, _, h7⟩
      exact h7
    · rintro j x σ H7 H8 hj ⟨ks7, e7, rfl, l1, l2, l3, l4, l5, l6⟩ ⟨rfl, ky, kv, hk, rfl⟩
      obtain ⟨z, hz, ez⟩ : ∃ z, ys[j]? = some z ∧ ky = Sum.inr z := by
        unfold kk at hk
        rw [List.getElem?_map] at hk
        cases e3 : ys[j]? with
        | none =>
          rw [e3] at hk
          cases hk
        | some z =>
          rw [e3] at hk
          exact ⟨z, rfl, congrArg (·.1) (Option.some.inj hk).symm⟩
      subst ez
      have zm := List.mem_of_getElem? hz
      have kl : ks7.length ≤ 14 := few_menu l2 fun x hx => by
        rcases (l3 x).mp hx with h | ⟨h, _⟩
        · exact freeTo_menu hg h
        · exact Tr.fv_menu gu x ((m6 x).mp (List.mem_of_mem_take h))
      refine ⟨_, rfl, _, rfl, o2, u.1.map V.str, rfl, .inr (SqT.of (l4 _ _ w2)), rfl, flat_txts _, _, rfl, ?_⟩
      show if (!inV (.str z) (u.1.map V.str)) = true then _ else _
      rw [inV_strs]
      by_cases hb : z ∈ u.1
      · rw [decide_eq_true hb]
        refine ⟨ks7, some (.str z), rfl, l1, l2, fun x => ?_, l4, l5, l6⟩
        rw [l3, take_snoc hz, List.mem_append, List.mem_singleton]
        constructor
        · rintro (h | ⟨h, h'⟩)
          · exact .inl h
          · exact .inr ⟨.inl h, h'⟩
        · rintro (h | ⟨h | rfl, h'⟩)
          · exact .inl h
          · exact .inr ⟨h, h'⟩
          · exact absurd hb h'
      · rw [decide_eq_false hb]
        refine ⟨_, rfl, _, rfl, F, _, rfl, DPut.k (k := Sum.inr z) l1 (by rw [kk_len]; exact small1000 (by omega)), ?_⟩
        rw [put_kk]
        refine ⟨addK ks7 z, some (.str z), rfl, upd_same, nd_addK l2, fun x => ?_, l4.trans (keep_dK l1), same_upd l5 nF _, by rw [upd_ne (Ne.symm dF)]; exact l6⟩
        rw [mem_addK, l3, take_snoc hz, List.mem_append, List.mem_singleton]
        constructor
        · rintro ((h | ⟨h, h'⟩) | rfl)
          · exact .inl h
          · exact .inr ⟨.inl h, h'⟩
          · exact .inr ⟨.inr rfl, hb⟩
        · rintro (h | ⟨h | rfl, h'⟩)
          · exact .inl (.inl h)
          · exact .inl (.inr ⟨h, h'⟩)
          · exact .inr rfl
    · rintro σ H7 ⟨ks7, e7, rfl, l1, l2, l3, l4, l5, l6⟩
      refine ⟨ks7, some (.ref o2), some z1, e7, rfl, l1, l2, fun x => ?_, k4.trans l4, l5⟩
      rw [l3, kk_len, List.take_length, freeTo_succ hu, m6]
  · rintro σ H4 ⟨ks4, b, c, d, rfl, k1, k2, k3, k4, s4⟩
    rw [hl3] at k3
    exact ⟨_, rfl, q _ _ ks4 s4 nF k1 k2 fun x => by rw [k3, freeTo_all]⟩
end
end K52

set_option maxRecDepth 100000
set_option maxHeartbeats 4000000
namespace K52
open PySem PySem.Spec PyProof.Rows L2
/-- the pairs of a name and a number as keys of a dict -/
def key2 (k : Str × Int) : List Key := [Sum.inr k.1, Sum.inl k.2]
theorem key2_inj {a b : Str × Int} (h : key2 a = key2 b) : a = b := by
  unfold key2 at h
  injection h with h1 h2
  injection h2 with h3 _
  exact Prod.ext (Sum.inr.inj h1) (Sum.inl.inj h3)
def kt (ks : List (Str × Int)) : List (List Key × V) := ks.map fun k => (key2 k, V.bl true)
def addT (ks : List (Str × Int)) (x : Str × Int) : List (Str × Int) := if x ∈ ks then ks else ks ++ [x]
theorem kt_len (ks : List (Str × Int)) : (kt ks).length = ks.length := List.length_map _
theorem put_kt (ks : List (Str × Int)) (x : Str × Int) : putK (kt ks) (key2 x) (V.bl true) = kt (addT ks x) := by
  have h : ((kt ks).any fun kv => decide (kv.1 = key2 x)) = decide (x ∈ ks) := by
    unfold kt
    induction ks with
    | nil => rfl
    | cons k ks ih =>
      rw [List.map_cons, List.any_cons, ih]
      by_cases e : k = x
      · subst e
        simp
      · have e2 : ¬ x = k := fun z => e z.symm
        have e3 : ¬ key2 k = key2 x := fun z => e (key2_inj z)
        simp [e3, e2]
  unfold putK addT
  rw [h]
  by_cases e : x ∈ ks
  · rw [decide_eq_true e, if_pos rfl, if_pos e]
    unfold kt
    rw [List.map_map]
    refine List.map_congr_left fun k _ => ?_
    show (if key2 k = key2 x then (key2 k, V.bl true) else (key2 k, V.bl true)) = _
    split <;> rfl
  · rw [decide_eq_false e, if_neg (by decide), if_neg e]
    unfold kt
    rw [List.map_append]
    rfl
theorem mem_addT {ks : List (Str × Int)} {x y : Str × Int} (h : y ∈ addT ks x) : y ∈ ks ∨ y = x := by
  unfold addT at h
  split at h
  · exact .inl h
  · rw [List.mem_append, List.mem_singleton] at h
    exact h
theorem nd_addT {ks : List (Str × Int)} {x : Str × Int} (h : ks.Nodup) : (addT ks x).Nodup := by
  unfold addT
  split
  · exact h
  · rename_i hx
    rw [List.nodup_append]
    refine ⟨h, by simp, fun a ha b hb => ?_⟩
    rw [List.mem_singleton] at hb
    subst hb
    exact fun e => hx (e ▸ ha)
/-- each name with its own number: no name stands twice -/
def Fit (ks : List (Str × Int)) : Prop := ∀ k ∈ ks, k.1 ∈ rels ∧ k.2 = ((ar k.1 : Nat) : Int)
theorem fit_nd : ∀ {ks : List (Str × Int)}, ks.Nodup → Fit ks → (ks.map (·.1)).Nodup
  | [], _, _ => List.nodup_nil
  | k :: ks, h, f => by
    rw [List.nodup_cons] at h
    rw [List.map_cons, List.nodup_cons]
    refine ⟨fun hm => ?_, fit_nd h.2 fun j hj => f j (List.mem_cons_of_mem _ hj)⟩
    obtain ⟨j, hj, e⟩ := List.mem_map.mp hm
    have f1 := (f k List.mem_cons_self).2
    have f2 := (f j (List.mem_cons_of_mem _ hj)).2
    have ej : j = k := Prod.ext e (by rw [f1, f2, e])
    exact h.1 (ej ▸ hj)
theorem rels_nd : rels.Nodup := by decide +kernel
theorem fit_few {ks : List (Str × Int)} (h : ks.Nodup) (f : Fit ks) : ks.length ≤ 4 := by
  have h2 := fit_nd h f
  have e : (ks.map (·.1)).length = (rels.filter fun x => decide (x ∈ ks.map (·.1))).length := same_len h2 (rels_nd.filter _) fun x => by
    rw [List.mem_filter, decide_eq_true_eq]
    refine ⟨fun hx => ⟨?_, hx⟩, fun hx => hx.2⟩
    obtain ⟨j, hj, rfl⟩ := List.mem_map.mp hx
    exact (f j hj).1
  rw [List.length_map] at e
  rw [e]
  exact List.length_filter_le _ _
theorem bools_are : ∀ {ys : List V}, (∀ (i : Nat) (y : V), ys[i]? = some y → ∃ b, y = .bl b) → ∃ bs : List Bool, ys = bs.map V.bl
  | [], _ => ⟨[], rfl⟩
  | y :: ys, h => by
    obtain ⟨b, rfl⟩ := h 0 y rfl
    obtain ⟨bs, e⟩ := bools_are (ys := ys) fun i z hz => h (i + 1) z (by rw [List.getElem?_cons_succ]; exact hz)
    exact ⟨b :: bs, by rw [e]; rfl⟩
section
variable {P : Program} {w : World} {K : PySem.W.Frag} {mg : Str → Option Value} {base : Heap}
abbrev sFreeVars : Stmt := top 41
def spFreeVars (n : Nat) : Sp := fun vs H Q _ => ∃ (v : V) (t : Tr), vs = [v] ∧ At H t v ∧ t.Good ∧ t.deep ≤ n ∧ ∀ (H' : Hp) (p : Addr) (ys : List Str), Same H H' → H' p = some (.tup (ys.map V.str)) → ys.Nodup → (∀ x, x ∈ ys ↔ x ∈ t.fv) → Q (.ref p) H'
theorem scFreeVars : FnScope ["tree"] ["tree"] (defScope sFreeVars) := ⟨rfl, rfl, rfl, by decide +kernel, rfl, by decide +kernel, by decide +kernel⟩
theorem cal_free_variables {n : Nat} (E1 : Env1 K mg) (D : Def K mg "free_variables" sFreeVars) (cs : Cal P w K mg base CX0 (n + 1) "free_names" (spFreeNames n)) : Cal P w K mg base CX0 (n + 2) "free_variables" (spFreeVars n) := by
  refine cal_mk D scFreeVars (fun _ _ _ _ _ _ us hl => match us, hl with | [_], _ => rfl) (fun vs H Q E h => ?_) (fun f cdv A outer s H vs Q E hr h => ?_)
  · obtain ⟨v, t, rfl, _⟩ := h
    rfl
  obtain ⟨v, t, rfl, hd, hg, hn, q⟩ := h
  refine ⟨_, pss_one (ps_ret (pe_callTy call_tuple_of rfl E1.tuple (by decide +kernel) (pa_cons (pe_callB (call_sortedD rfl) rfl E1.sorted (by decide +kernel) (pa_cons (pe_c cs hr (Nat.le_refl _) (pa_cons (pv 0) pa_nil)) pa_nil)) pa_nil))), ?_⟩
  refine ⟨_, rfl, v, t, rfl, hd, hg, hn, fun H1 p1 ks s1 n1 t1 nd1 m1 => ?_⟩
  have kl : ks.length ≤ 14 := few_menu nd1 fun x hx => Tr.fv_menu hg x ((m1 x).mp hx)
  refine ⟨p1, kk ks, ks, rfl, .inl t1, kk_keys ks, by omega, fun ys p2 pm _ hp2 => ?_⟩
  have s2 := same_new hp2 (HO.lst (ys.map V.str))
  refine ⟨p2, _, rfl, .inl ⟨SqL.of upd_same, fun p3 hp3 => ?_⟩⟩
  exact q _ p3 ys ((s1.trans s2).trans (same_new hp3 _)) upd_same (pm.nodup_iff.mpr nd1) fun x => by rw [pm.mem_iff, m1]
abbrev sRelUses : Stmt := top 42
def spRelUses (n : Nat) : Sp := fun vs H Q _ => ∃ (v : V) (t : Tr), vs = [v] ∧ At H t v ∧ t.Good ∧ t.deep ≤ n ∧ t.size ≤ 100000 ∧ ∀ (H' : Hp) (p : Addr) (bs : List (Addr × Str × Int)), Same H H' → H' p = some (.tup (bs.map fun b => .ref b.1)) → (∀ b ∈ bs, H' b.1 = some (.tup [.str b.2.1, .int b.2.2])) →
  (bs.map (·.2.1)).Nodup → bs.length ≤ 1000 → Q (.ref p) H'
theorem scRelUses : FnScope ["tree", "found", "part"] ["tree"] (defScope sRelUses) := ⟨rfl, rfl, rfl, by decide +kernel, rfl, by decide +kernel, by decide +kernel⟩
theorem cal_relation_uses {n : Nat} (E1 : Env1 K mg) (D : Def K mg "relation_uses" sRelUses) (cs : Cal P w K mg base CX0 (n + 2) "subtrees" (spSubtrees n)) : Cal P w K mg base CX0 (n + 3) "relation_uses" (spRelUses n) := by
  refine cal_mk D scRelUses (fun _ _ _ _ _ _ us hl => match us, hl with | [_], _ => rfl) (fun vs H Q E h => ?_) (fun f cdv A outer s H vs Q E hr h => ?_)
  · obtain ⟨v, t, rfl, _⟩ := h
    rfl
  obtain ⟨v, t, rfl, hd, hg, hn, hz, q⟩ := h
  refine ⟨_, pss_cons (ps_set (i := 1) scRelUses.nd rfl (Or.inl rfl) pe_dnewT)
    (pss_cons (ps_for PassesOwn.never rfl (pi_list (pe_c cs hr (Nat.le_refl _) (pa_cons (pv 0) pa_nil))) (pg_name (i := 2) scRelUses.nd rfl (Or.inl rfl))
      (pss_one (ps_if (pt_cmpR op_eq (pe_ix ix_tup (pv 2) pe_int (fun _ _ => rfl)) pe_str (nomark _))
        (pss_one (ps_dput (hu_of hr) (pv 1) (pe_tup (pa_cons (pe_ix ix_tup (pv 2) pe_int (fun _ _ => rfl)) (pa_cons (pe_callB call_len_seq rfl E1.len boot_len (pa_cons (pe_ix ix_tup (pv 2) pe_int (fun _ _ => rfl)) pa_nil)) pa_nil))) pe_bl rfl)) pss_nil)))
    (pss_one (ps_ret (pe_callTy call_tuple_of rfl E1.tuple (by decide +kernel) (pa_cons (pe_callB (call_sortedDT rfl hr.units) rfl E1.sorted (by decide +kernel) (pa_cons (pv 1) pa_nil)) pa_nil))))), ?_⟩
  intro F hF
  have s0 := same_new hF (HO.dT [])
  refine ⟨_, rfl, v, t, rfl, hd.keep (keep_of s0), hg, hn, hz, fun H1 p1 ys s1 t1 r1 => ?_⟩
  have s01 := s0.trans s1
  have k1 : H1 F = some (.dT (kt [])) := s1 _ _ upd_same
  have dF : p1 ≠ F := ne_of t1 k1 (by intro z; cases z)
  have yl : ys.length = t.subs.length := by rw [tds_len r1, List.length_map]
  refine ⟨p1, rfl, ⟨_, SqL.of t1⟩, for_it (walk_list (xs := ys)) (fun i σ H2 => ∃ ks c, σ = [some v, some (.ref F), c] ∧ H2 F = some (.dT (kt ks)) ∧ ks.Nodup ∧ Fit ks ∧ Keep H1 H2 ∧ Same H H2 ∧ H2 p1 = some (.lst ys)) ?_ ?_ ?_ ?_⟩
  · exact ⟨[], none, rfl, k1, List.nodup_nil, (fun k hk => absurd hk (by simp)), Keep.refl _, s01, t1⟩
  · rintro i σ H2 _ ⟨_, _, _, _, _, _, _, _, h⟩
    exact SqL.of h
  · rintro i x σ H2 H3 hi ⟨ks, c, rfl, g1, g2, g3, g4, g5, g6⟩ ⟨rfl, hx⟩
    obtain ⟨d, e, r⟩ := tds_get (r1.keep g4) hx
    rw [List.getElem?_map] at e
    obtain ⟨u, hu, rfl⟩ : ∃ u, t.subs[i]? = some u ∧ d = u.dat true := by
      cases e3 : t.subs[i]? with
      | none =>
        rw [e3] at e
        cases e
      | some z =>
        rw [e3] at e
        exact ⟨z, rfl, (Option.some.inj e).symm⟩
    have gu := Tr.subs_good hg u (List.mem_of_getElem? hu)
    obtain ⟨a, y, zs, rfl, hS, hzs⟩ := at_seq r
    -- the word of a tree that is no rel
    have other : ∀ wd : Str, y = .str wd → wd ≠ "rel" → tIfS (tTest (tOp rEq (tOp (rIxT K) (tVar 2) (tC (.int 0))) (tC (.str "rel")))) (sDPut (tVar 1) (tTup (tCons (tOp (rIxT K) (tVar 2) (tC (.int 1))) (tCons (tCB (fun xs H Q => ∃ p ys, xs = [.ref p] ∧ (SqL K H p ys ∨ SqT K H p ys) ∧ Q (.int ys.length) H) (tCons (tOp (rIxT K) (tVar 2) (tC (.int 2))) tNil)) tNil))) (tC (.bl true))) tNext
        { nx := fun σ H2 => ∃ ks c, σ = [some v, some (.ref F), c] ∧ H2 F = some (.dT (kt ks)) ∧ ks.Nodup ∧ Fit ks ∧ Keep H1 H2 ∧ Same H H2 ∧ H2 p1 = some (.lst ys), rt := Q, ct := fun σ H2 => ∃ ks c, σ = [some v, some (.ref F), c] ∧ H2 F = some (.dT (kt ks)) ∧ ks.Nodup ∧ Fit ks ∧ Keep H1 H2 ∧ Same H H2 ∧ H2 p1 = some (.lst ys),
          bk := fun _ _ => True } [some v, some (.ref F), some (.ref a)] H3 := by
      rintro wd rfl hw
      refine ⟨_, rfl, a, _, 0, _, rfl, rfl, SqT.of hS, at_hd, rfl, false, bl_ne (str_ne hw), ?_⟩
      exact ⟨ks, some (.ref a), rfl, g1, g2, g3, g4, g5, g6⟩
    cases u with
    | rel nm vs =>
      obtain ⟨x0, ys0, e0, h0, c0⟩ := tds_cons hzs
      cases e0
      obtain ⟨x1, ys1, rfl, h1, c1⟩ := tds_cons c0
      obtain ⟨x2, ys2, rfl, h2, c2⟩ := tds_cons c1
      obtain rfl := tds_nil c2
      obtain rfl := td_str h0
      obtain rfl := td_str h1
      obtain ⟨l2, y2, rfl, k2, e2⟩ := td_tup h2
      obtain rfl := strs_td e2
      have kl := fit_few g2 g3
      refine ⟨_, rfl, a, _, 0, _, rfl, rfl, SqT.of hS, rfl, rfl, true, bl_eq rfl, ?_⟩
      refine ⟨_, rfl, _, rfl, a, _, 1, _, rfl, rfl, SqT.of hS, rfl, _, rfl, a, _, 2, _, rfl, rfl, SqT.of hS, rfl, l2, _, rfl, .inr (SqT.of k2), two_line, fun o ho => ?_⟩
      have dO : F ≠ o := ne_of_none g1 ho
      refine ⟨F, _, rfl, DPut.t (k := key2 (nm, (((vs.map V.str).length : Nat) : Int))) (by rw [upd_ne dO]; exact g1) upd_same (by rw [kt_len]; exact small1000 (by omega)), ?_⟩
      rw [put_kt]
      refine ⟨addT ks (nm, (((vs.map V.str).length : Nat) : Int)), some (.ref a), rfl, upd_same, nd_addT g2, fun k hk => ?_, (g4.trans (keep_new ho _)).trans (keep_dT (by rw [upd_ne dO]; exact g1)), same_upd (g5.trans (same_new ho _)) hF _, ?_⟩
      · rcases mem_addT hk with hk | rfl
        · exact g3 k hk
        · refine ⟨gu.1, ?_⟩
          show (((vs.map V.str).length : Nat) : Int) = ((ar nm : Nat) : Int)
          rw [List.length_map, gu.2.1]
      · rw [upd_ne dF, upd_ne (ne_of_none g6 ho)]
        exact g6
    | atm wd vs =>
      obtain ⟨x0, ys0, e0, h0, c0⟩ := tds_cons hzs
      cases e0
      obtain rfl := td_str h0
      refine other wd rfl ?_
      rcases gu.1 with ⟨h1, _⟩ | ⟨h1, _⟩
      · simp only [List.mem_cons, List.not_mem_nil, or_false] at h1
        rcases h1 with rfl | rfl | rfl <;> decide +kernel
      · simp only [List.mem_cons, List.not_mem_nil, or_false] at h1
        rcases h1 with rfl | rfl <;> decide +kernel
    | neg p =>
      obtain ⟨x0, ys0, e0, h0, c0⟩ := tds_cons hzs
      cases e0
      obtain rfl := td_str h0
      exact other _ rfl (by decide +kernel)
    | bin wd p p2 =>
      obtain ⟨x0, ys0, e0, h0, c0⟩ := tds_cons hzs
      cases e0
      obtain rfl := td_str h0
      refine other wd rfl ?_
      have h1 := gu.1
      simp only [List.mem_cons, List.not_mem_nil, or_false] at h1
      rcases h1 with rfl | rfl <;> decide +kernel
    | qu wd z p =>
      obtain ⟨x0, ys0, e0, h0, c0⟩ := tds_cons hzs
      cases e0
      obtain rfl := td_str h0
      refine other wd rfl ?_
      have h1 := gu.1
      simp only [List.mem_cons, List.not_mem_nil, or_false] at h1
      rcases h1 with rfl | rfl <;> decide +kernel
    | mo z p y p2 =>
      obtain ⟨x0, ys0, e0, h0, c0⟩ := tds_cons hzs
      cases e0
      obtain rfl := td_str h0
      exact other _ rfl (by decide +kernel)
    | wk l m p st g =>
      obtain ⟨x0, ys0, e0, h0, c0⟩ := tds_cons hzs
      cases e0
      obtain rfl := td_str h0
      exact other _ rfl (by decide +kernel)
  · rintro σ H2 ⟨ks, c, rfl, g1, g2, g3, g4, g5, g6⟩
    have kl := fit_few g2 g3
    refine ⟨_, rfl, F, kt ks, ks, rfl, g1, ?_, by omega, fun p2 bs hp2 pm hb => ?_⟩
    · unfold kt
      rw [List.map_map]
      rfl
    have s2 := same_new hp2 (HO.lst (bs.map fun b => V.ref b.1))
    refine ⟨p2, _, rfl, .inl ⟨SqL.of upd_same, fun p3 hp3 => ?_⟩⟩
    have s3 := s2.trans (same_new hp3 (HO.tup (bs.map fun b => V.ref b.1)))
    refine q _ p3 bs (g5.trans s3) upd_same (fun b hb2 => s3 _ _ (hb b hb2)) ?_ ?_
    · have e : bs.map (·.2.1) = (bs.map (·.2)).map (·.1) := by rw [List.map_map]; rfl
      rw [e]
      exact (pm.map _).nodup_iff.mpr (fit_nd g2 g3)
    · have e := pm.length_eq
      rw [List.length_map] at e
      omega
abbrev sBare : Stmt := top 43
abbrev sOrdered : Stmt := top 44
def spLook (n : Nat) : Sp := fun vs H Q _ => ∃ (v : V) (t : Tr), vs = [v] ∧ At H t v ∧ t.Good ∧ t.deep ≤ n ∧ t.size ≤ 100000 ∧ ∀ (H' : Hp) (b : Bool), Same H H' → Q (.bl b) H'
theorem scBare : FnScope ["tree", "part"] ["tree"] (defScope sBare) := ⟨rfl, rfl, rfl, by decide +kernel, rfl, by decide +kernel, by decide +kernel⟩
theorem scOrdered : FnScope ["tree", "part"] ["tree"] (defScope sOrdered) := ⟨rfl, rfl, rfl, by decide +kernel, rfl, by decide +kernel, by decide +kernel⟩
/-- the word of a tree at hand -/
theorem at_word {H : Hp} {v : V} {t : Tr} (h : At H t v) : ∃ a wd xs, v = .ref a ∧ H a = some (.tup (.str wd :: xs)) := by
  obtain ⟨a, x, xs, rfl, h1, h2⟩ := at_seq h
  cases t <;> (obtain ⟨x0, ys0, e0, h0, _⟩ := tds_cons h2; cases e0; obtain rfl := td_str h0; exact ⟨a, _, xs, rfl, h1⟩)
theorem cal_is_bare {n : Nat} (E1 : Env1 K mg) (D : Def K mg "is_bare" sBare) (cs : Cal P w K mg base CX0 (n + 2) "subtrees" (spSubtrees n)) : Cal P w K mg base CX0 (n + 3) "is_bare" (spLook n) := by
  refine cal_mk D scBare (fun _ _ _ _ _ _ us hl => match us, hl with | [_], _ => rfl) (fun vs H Q E h => ?_) (fun f cdv A outer s H vs Q E hr h => ?_)
  · obtain ⟨v, t, rfl, _⟩ := h
    rfl
  obtain ⟨v, t, rfl, hd, hg, hn, hz, q⟩ := h
  refine ⟨_, pss_one (ps_ret (pe_callB (cr_all rfl) rfl E1.all (by decide +kernel) (pa_cons (pe_lc (own := [("part", 1)]) (g := gName 1) (tt := tYes) rfl scBare.nd (pi_list (pe_c cs hr (Nat.le_refl _) (pa_cons (pv 0) pa_nil))) (blkOk_by (N := ["tree", "part"]) (sc := defScope sBare) (by decide +kernel))
      (fun _ _ _ _ _ => pg_name (i := 1) scBare.nd rfl (Or.inl rfl)) (fun _ _ _ _ _ => pts_nil) (fun _ _ _ _ _ => pe_cmpR (r := rIn K true) op_notIn_seq (pe_ix (r := rIxT K) ix_tup (pv 1) pe_int (fun _ _ => rfl)) (pe_tup (pa_txts (.cons (.cons (.cons (.cons .nil)))))) rfl)) pa_nil))), ?_⟩
  refine ⟨_, rfl, v, t, rfl, hd, hg, hn, hz, fun H1 p1 ys s1 t1 r1 => ?_⟩
  have yl : ys.length = t.size := by rw [tds_len r1, List.length_map, Tr.subs_len]
  refine ⟨p1, rfl, ⟨_, SqL.of t1⟩, fun T hT => ?_⟩
  refine lc_name (walk_list (xs := ys)) (fun _ y _ => ∃ b, y = .bl b) (fun _ _ _ _ h => h.1) hT (by rw [yl]; exact Nat.lt_of_le_of_lt hz (by decide)) (fun H2 s2 => SqL.of (s2 _ _ t1)) (fun _ _ _ _ _ h => h) (fun _ => rfl) ?_ ?_
  · rintro i x H2 N hi s2 ⟨_, hx⟩ k
    obtain ⟨d, e, r⟩ := tds_get (r1.keep (keep_of s2)) hx
    rw [List.getElem?_map] at e
    cases e3 : t.subs[i]? with
    | none =>
      rw [e3] at e
      cases e
    | some u =>
      rw [e3] at e
      obtain rfl := Option.some.inj e
      obtain ⟨a, wd, zs, rfl, hS⟩ := at_word r
      refine ⟨_, rfl, a, _, 0, _, rfl, rfl, SqT.of hS, at_hd, by show 4 ≤ sizeLine; decide, fun o ho => ?_⟩
      exact ⟨o, _, rfl, .inr (SqT.of upd_same), rfl, flat_txts _, k _ _ (same_new ho _) ⟨_, rfl⟩⟩
  · intro zs H2 hl hy s2 hd2
    obtain ⟨bs, rfl⟩ := bools_are hy
    exact ⟨T, bs, rfl, SqL.of hd2, q _ _ (s1.trans s2)⟩
theorem cal_is_ordered {n : Nat} (E1 : Env1 K mg) (D : Def K mg "is_ordered" sOrdered) (cs : Cal P w K mg base CX0 (n + 2) "subtrees" (spSubtrees n)) : Cal P w K mg base CX0 (n + 3) "is_ordered" (spLook n) := by
  refine cal_mk D scOrdered (fun _ _ _ _ _ _ us hl => match us, hl with | [_], _ => rfl) (fun vs H Q E h => ?_) (fun f cdv A outer s H vs Q E hr h => ?_)
  · obtain ⟨v, t, rfl, _⟩ := h
    rfl
  obtain ⟨v, t, rfl, hd, hg, hn, hz, q⟩ := h
  refine ⟨_, pss_one (ps_ret (pe_callB (cr_any rfl) rfl E1.any (by decide +kernel) (pa_cons (pe_lc (own := [("part", 1)]) (g := gName 1) (tt := tYes) rfl scOrdered.nd (pi_list (pe_c cs hr (Nat.le_refl _) (pa_cons (pv 0) pa_nil))) (blkOk_by (N := ["tree", "part"]) (sc := defScope sOrdered) (by decide +kernel))
      (fun _ _ _ _ _ => pg_name (i := 1) scOrdered.nd rfl (Or.inl rfl)) (fun _ _ _ _ _ => pts_nil) (fun _ _ _ _ _ => pe_cmpR (r := rIn K false) op_in_seq (pe_ix (r := rIxT K) ix_tup (pv 1) pe_int (fun _ _ => rfl)) (pe_tup (pa_txts (.cons (.cons (.cons (.cons .nil)))))) rfl)) pa_nil))), ?_⟩
  refine ⟨_, rfl, v, t, rfl, hd, hg, hn, hz, fun H1 p1 ys s1 t1 r1 => ?_⟩
  have yl : ys.length = t.size := by rw [tds_len r1, List.length_map, Tr.subs_len]
  refine ⟨p1, rfl, ⟨_, SqL.of t1⟩, fun T hT => ?_⟩
  refine lc_name (walk_list (xs := ys)) (fun _ y _ => ∃ b, y = .bl b) (fun _ _ _ _ h => h.1) hT (by rw [yl]; exact Nat.lt_of_le_of_lt hz (by decide)) (fun H2 s2 => SqL.of (s2 _ _ t1)) (fun _ _ _ _ _ h => h) (fun _ => rfl) ?_ ?_
  · rintro i x H2 N hi s2 ⟨_, hx⟩ k
    obtain ⟨d, e, r⟩ := tds_get (r1.keep (keep_of s2)) hx
    rw [List.getElem?_map] at e
    cases e3 : t.subs[i]? with
    | none =>
      rw [e3] at e
      cases e
    | some u =>
      rw [e3] at e
      obtain rfl := Option.some.inj e
      obtain ⟨a, wd, zs, rfl, hS⟩ := at_word r
      refine ⟨_, rfl, a, _, 0, _, rfl, rfl, SqT.of hS, at_hd, by show 4 ≤ sizeLine; decide, fun o ho => ?_⟩
      exact ⟨o, _, rfl, .inr (SqT.of upd_same), rfl, flat_txts _, k _ _ (same_new ho _) ⟨_, rfl⟩⟩
  · intro zs H2 hl hy s2 hd2
    obtain ⟨bs, rfl⟩ := bools_are hy
    exact ⟨T, bs, rfl, SqL.of hd2, q _ _ (s1.trans s2)⟩
end
end K52

set_option maxRecDepth 100000
set_option maxHeartbeats 4000000
namespace K52
open PySem PySem.Spec PyProof.Rows L2
section
variable {P : Program} {w : World} {K : PySem.W.Frag} {mg : Str → Option Value} {base : Heap}
abbrev sChecked : Stmt := top 35
def spChecked (K : PySem.W.Frag) : Sp := fun vs H Q _ => ∃ (v : V) (b : Bool) (t : Tr), vs = [v] ∧ Dp K H v (t.dat b) ∧ t.Good ∧ t.deep ≤ 40 ∧ t.size ≤ 20000 ∧ ∀ H' v', Same H H' → At H' t v' → Q v' H'
theorem scChecked : FnScope ["tree", "made", "uses", "at"] ["tree"] (defScope sChecked) := ⟨rfl, rfl, rfl, by decide +kernel, rfl, by decide +kernel, by decide +kernel⟩
theorem cal_checked (E1 : Env1 K mg) (D : Def K mg "checked" sChecked) (c1 : Cal P w K mg base CX0 85 "shaped" (spShaped K 40)) (c2 : Cal P w K mg base CX0 43 "relation_uses" (spRelUses 40)) : Cal P w K mg base CX0 86 "checked" (spChecked K) := by
  refine cal_mk D scChecked (fun _ _ _ _ _ _ us hl => match us, hl with | [_], _ => rfl) (fun vs H Q E h => ?_) (fun f cdv A outer s H vs Q E hr h => ?_)
  · obtain ⟨v, b, t, rfl, _⟩ := h
    rfl
  obtain ⟨v, b, t, rfl, hd, hg, hn, hz, q⟩ := h
  refine ⟨_, pss_cons (ps_set (i := 1) scChecked.nd rfl (Or.inl rfl) (pe_ix ix_tup (pe_c c1 hr (Nat.le_refl _) (pa_cons (pv 0) (pa_cons (pe_g E1.depth) (pa_cons (pe_g E1.trees) pa_nil)))) pe_int (fun _ _ => rfl)))
    (pss_cons (ps_set (i := 2) scChecked.nd rfl (Or.inl rfl) (pe_c c2 hr (by decide) (pa_cons (pv 1) pa_nil)))
    (pss_cons (ps_for PassesOwn.never rfl (pi_range2 rfl E1.range (pa_cons pe_int (pa_cons (pe_callB call_len_seq rfl E1.len boot_len (pa_cons (pv 2) pa_nil)) pa_nil))) (pg_name (i := 3) scChecked.nd rfl (Or.inl rfl))
      (pss_one (ps_if (pt_cmpR op_eq (pe_ix ix_tup (pe_ix ix_tup (pv 2) (pe_op op_sub (pv 3) pe_int) (fun _ _ => rfl)) pe_int (fun _ _ => rfl)) (pe_ix ix_tup (pe_ix ix_tup (pv 2) (pv 3) (fun _ _ => rfl)) pe_int (fun _ _ => rfl)) (nomark _)) (pss_one ps_never) pss_nil)))
    (pss_one (ps_ret (pv 1))))), ?_⟩
  refine ⟨_, rfl, v, 40, 20000, b, t, rfl, hd, hg, by omega, by omega, hn, fun H1 p1 q1 s1 t1 a1 => ?_⟩
  refine ⟨p1, _, 0, _, rfl, rfl, SqT.of t1, rfl, ?_⟩
  refine ⟨_, rfl, q1, t, rfl, a1, hg, hn, by omega, fun H2 p2 bs s2 t2 hb nd hl => ?_⟩
  have a2 := a1.keep (keep_of s2)
  have el : (bs.map fun b => V.ref b.1).length = bs.length := List.length_map _
  refine ⟨_, rfl, p2, _, rfl, .inr (SqT.of t2), 1, _, rfl, ⟨by decide, by decide, by rw [el]; omega, by rw [el]; omega⟩, ?_⟩
  refine for_range (lo := 1) (n := (((bs.map fun b => V.ref b.1).length : Int) - 1).toNat) (fun _ σ H3 => (∃ z, σ = [some v, some q1, some (.ref p2), z]) ∧ H3 = H2) ⟨⟨none, rfl⟩, rfl⟩ ?_ ?_
  · rintro i σ H3 hi ⟨⟨z, rfl⟩, rfl⟩
    rw [el] at hi
    have hi1 : i < bs.length := by omega
    have hi2 : i + 1 < bs.length := by omega
    have g1 : (bs.map fun b => V.ref b.1)[i]? = some (.ref (bs[i]).1) := by rw [List.getElem?_map, List.getElem?_eq_getElem hi1]; rfl
    have g2 : (bs.map fun b => V.ref b.1)[i + 1]? = some (.ref (bs[i + 1]).1) := by rw [List.getElem?_map, List.getElem?_eq_getElem hi2]; rfl
    have k1 := hb bs[i] (List.getElem_mem hi1)
    have k2 := hb bs[i + 1] (List.getElem_mem hi2)
    have ne : ¬ V.str (bs[i]).2.1 = V.str (bs[i + 1]).2.1 := fun e => by
      have e2 := V.str.inj e
      have w1 : (bs.map (·.2.1))[i]? = some (bs[i]).2.1 := by rw [List.getElem?_map, List.getElem?_eq_getElem hi1]; rfl
      have w2 : (bs.map (·.2.1))[i + 1]? = some (bs[i + 1]).2.1 := by rw [List.getElem?_map, List.getElem?_eq_getElem hi2]; rfl
      rw [← e2] at w2
      have := nd_ix nd w1 w2
      omega
    refine ⟨_, rfl, _, rfl, _, _, rfl, rfl, p2, _, _, _, rfl, rfl, SqT.of t2, at_of (by omega) g1, _, _, 0, _, rfl, rfl, SqT.of k1, rfl, ?_⟩
    refine ⟨_, rfl, _, rfl, p2, _, _, _, rfl, rfl, SqT.of t2, at_of (j := i + 1) (by omega) g2, _, _, 0, _, rfl, rfl, SqT.of k2, rfl, rfl, false, bl_ne ne, ?_⟩
    exact ⟨⟨_, rfl⟩, rfl⟩
  · rintro σ H3 ⟨⟨z, rfl⟩, rfl⟩
    exact ⟨_, rfl, q _ _ (s1.trans s2) a2⟩
/-! ### needs -/
abbrev sNeeds : Stmt := top 46
def spNeeds (n : Nat) : Sp := fun vs H Q _ => ∃ (v : V) (t : Tr), vs = [v] ∧ At H t v ∧ t.Good ∧ t.deep ≤ n ∧ ∀ (H' : Hp) (p : Addr), Same H H' → H' p = some (.tup [.int t.need.1, .int t.need.2]) → Q (.ref p) H'
theorem scNeeds : FnScope ["tree", "word", "below", "both", "width", "part"] ["tree"] (defScope sNeeds) := ⟨rfl, rfl, rfl, by decide +kernel, rfl, by decide +kernel, by decide +kernel⟩
/-- a pair of ints at hand -/
def IntPair (H : Hp) (v : V) (n : Int × Int) : Prop := ∃ p, v = .ref p ∧ H p = some (.tup [.int n.1, .int n.2])
theorem below1 {t : Tr} {b : List Str} {p : Tr} {zs : List V} {H : Hp} (e : t.sub = [(b, p)]) (hl : zs.length = t.sub.length) (hy : ∀ (i : Nat) (y : V), zs[i]? = some y → ∃ u, t.sub[i]? = some u ∧ IntPair H y u.2.need) :
    ∃ o, zs = [.ref o] ∧ H o = some (.tup [.int p.need.1, .int p.need.2]) := by
  rw [e] at hl hy
  match zs, hl with
  | [z], _ =>
    obtain ⟨u, hu, o, rfl, ho⟩ := hy 0 z rfl
    obtain rfl := Option.some.inj hu
    exact ⟨o, rfl, ho⟩
theorem below2 {t : Tr} {b c : List Str} {p q : Tr} {zs : List V} {H : Hp} (e : t.sub = [(b, p), (c, q)]) (hl : zs.length = t.sub.length) (hy : ∀ (i : Nat) (y : V), zs[i]? = some y → ∃ u, t.sub[i]? = some u ∧ IntPair H y u.2.need) :
    ∃ o1 o2, zs = [.ref o1, .ref o2] ∧ H o1 = some (.tup [.int p.need.1, .int p.need.2]) ∧ H o2 = some (.tup [.int q.need.1, .int q.need.2]) := by
  rw [e] at hl hy
  match zs, hl with
  | [z, z2], _ =>
    obtain ⟨u, hu, o, rfl, ho⟩ := hy 0 z rfl
    obtain rfl := Option.some.inj hu
    obtain ⟨u2, hu2, o2, rfl, ho2⟩ := hy 1 z2 rfl
    obtain rfl := Option.some.inj hu2
    exact ⟨o, o2, rfl, ho, ho2⟩
theorem cal_needs {n : Nat} (E1 : Env1 K mg) (D : Def K mg "needs" sNeeds) (c2 : Cal P w K mg base CX0 2 "parts" spParts) (cs : Cal P w K mg base CX0 (n + 2) "needs" (spNeeds n)) : Cal P w K mg base CX0 (n + 3) "needs" (spNeeds (n + 1)) := by
  refine cal_mk D scNeeds (fun _ _ _ _ _ _ us hl => match us, hl with | [_], _ => rfl) (fun vs H Q E h => ?_) (fun f cdv A outer s H vs Q E hr h => ?_)
  · obtain ⟨v, t, rfl, _⟩ := h
    rfl
  obtain ⟨v, t, rfl, hd, hg, hn, q⟩ := h
  have hm2 : ∀ {X : Cx}, X.calm = true → CallR X (.builtin "max") (fun xs H Q => ∃ i j, xs = [.int i, .int j] ∧ Q (.int (if j > i then j else i)) H) := fun h => call_max2 h
  refine ⟨_, pss_cons (ps_set (i := 1) scNeeds.nd rfl (Or.inl rfl) (pe_ix ix_tup (pv 0) pe_int (fun _ _ => rfl)))
    (pss_cons (ps_setLc (i := 2) (own := [("part", 5)]) (g := gName 5) (tt := tYes) rfl scNeeds.nd rfl rfl (sw_true rfl rfl rfl (by decide +kernel)) (pi_tup (pe_c c2 hr (by omega) (pa_cons (pv 0) pa_nil))) (blkOk_by (N := ["tree", "word", "below", "both", "width", "part"]) (sc := defScope sNeeds) (by decide +kernel))
      (fun _ _ _ _ _ => pg_name (i := 5) scNeeds.nd rfl (Or.inl rfl)) (fun _ _ _ _ _ => pts_nil) (fun _ _ _ _ _ => pe_c cs hr (Nat.le_refl _) (pa_cons (pv 5) pa_nil)))
    (pss_cons (ps_if (pt_cmpR op_eq (pv 1) pe_str (nomark _)) (pss_one (ps_ret (pe_tup (pa_cons (pe_ix ix_tup (pe_ix ix_list (pv 2) pe_int (fun _ _ => rfl)) pe_int (fun _ _ => rfl)) (pa_cons (pe_ix ix_tup (pe_ix ix_list (pv 2) pe_int (fun _ _ => rfl)) pe_int (fun _ _ => rfl)) pa_nil))))) pss_nil)
    (pss_cons (ps_if (pt_cmpR op_in_seq (pv 1) (pe_tup (pa_cons pe_str (pa_cons pe_str pa_nil))) rfl) (pss_one (ps_ret (pe_tup
        (pa_cons (pe_callB (call_max2 rfl) rfl E1.max (by decide +kernel) (pa_cons (pe_ix ix_tup (pe_ix ix_list (pv 2) pe_int (fun _ _ => rfl)) pe_int (fun _ _ => rfl)) (pa_cons (pe_ix ix_tup (pe_ix ix_list (pv 2) pe_int (fun _ _ => rfl)) pe_int (fun _ _ => rfl)) pa_nil)))
        (pa_cons (pe_callB (call_max2 rfl) rfl E1.max (by decide +kernel) (pa_cons (pe_ix ix_tup (pe_ix ix_list (pv 2) pe_int (fun _ _ => rfl)) pe_int (fun _ _ => rfl)) (pa_cons (pe_ix ix_tup (pe_ix ix_list (pv 2) pe_int (fun _ _ => rfl)) pe_int (fun _ _ => rfl)) pa_nil))) pa_nil))))) pss_nil)
    (pss_cons (ps_if (pt_cmpR op_in_seq (pv 1) (pe_tup (pa_cons pe_str (pa_cons pe_str pa_nil))) rfl) (pss_one (ps_ret (pe_tup
        (pa_cons (pe_op op_add pe_int (pe_ix ix_tup (pe_ix ix_list (pv 2) pe_int (fun _ _ => rfl)) pe_int (fun _ _ => rfl))) (pa_cons (pe_op op_add pe_int (pe_ix ix_tup (pe_ix ix_list (pv 2) pe_int (fun _ _ => rfl)) pe_int (fun _ _ => rfl))) pa_nil))))) pss_nil)
    (pss_cons (ps_if (pt_cmpR op_eq (pv 1) pe_str (nomark _))
      (pss_cons (ps_set (i := 3) scNeeds.nd rfl (Or.inl rfl) (pe_op op_add pe_int (pe_callB (call_max2 rfl) rfl E1.max (by decide +kernel)
          (pa_cons (pe_callB (call_maxT rfl hr.units) rfl E1.max (by decide +kernel) (pa_cons (pe_ix ix_list (pv 2) pe_int (fun _ _ => rfl)) pa_nil)) (pa_cons (pe_callB (call_maxT rfl hr.units) rfl E1.max (by decide +kernel) (pa_cons (pe_ix ix_list (pv 2) pe_int (fun _ _ => rfl)) pa_nil)) pa_nil)))))
      (pss_one (ps_ret (pe_tup (pa_cons (pv 3) (pa_cons (pv 3) pa_nil)))))) pss_nil)
    (pss_cons (ps_if (pt_cmpR op_eq (pv 1) pe_str (nomark _))
      (pss_cons (ps_set (i := 4) scNeeds.nd rfl (Or.inl rfl) (pe_callB call_len_seq rfl E1.len boot_len (pa_cons (pe_ix ix_tup (pv 0) pe_int (fun _ _ => rfl)) pa_nil)))
      (pss_one (ps_ret (pe_tup (pa_cons (pe_op op_add (pe_op op_mul pe_int (pv 4)) (pe_ix ix_tup (pe_ix ix_list (pv 2) pe_int (fun _ _ => rfl)) pe_int (fun _ _ => rfl)))
        (pa_cons (pe_op op_add (pe_op op_add (pe_op op_mul pe_int (pv 4)) pe_int) (pe_callB (call_maxT rfl hr.units) rfl E1.max (by decide +kernel) (pa_cons (pe_ix ix_list (pv 2) pe_int (fun _ _ => rfl)) pa_nil))) pa_nil)))))) pss_nil)
    (pss_one (ps_ret (pe_tup (pa_cons pe_int (pa_cons pe_int pa_nil)))))))))))  , ?_⟩
  obtain ⟨a, x0, xs, rfl, hS, hxs⟩ := at_seq hd
  refine ⟨_, rfl, a, _, 0, _, rfl, rfl, SqT.of hS, at_hd, ?_⟩
  refine ⟨_, rfl, .ref a, t, rfl, hd, hg, fun H1 v1 s1 d1 => ?_⟩
  obtain ⟨a1, ys, rfl, h1, r1⟩ := td_tuple d1
  have hl1 : ys.length = t.sub.length := by rw [tds_len r1, List.length_map]
  have few := sub_few t
  refine ⟨a1, rfl, ⟨_, SqT.of h1⟩, fun T hT => ?_⟩
  refine lc_name (walk_tup (xs := ys)) (fun i y H2 => ∃ u, t.sub[i]? = some u ∧ IntPair H2 y u.2.need) (fun _ _ _ _ h => h.1) hT (by rw [hl1]; exact small1000 (by omega)) (fun H2 s2 => SqT.of (s2 _ _ h1))
    (fun i y H2 H3 k ⟨u, e, p, e2, e3⟩ => ⟨u, e, p, e2, k _ _ e3⟩) (fun _ => rfl) ?_ ?_
  · rintro i x H2 N hi s2 ⟨_, hx⟩ k
    obtain ⟨d, e, r⟩ := tds_get (r1.keep (keep_of s2)) hx
    obtain ⟨u, hu, rfl⟩ := sub_at e
    obtain ⟨gu, du⟩ := Tr.sub_good hg u.1 u.2 (List.mem_of_getElem? hu)
    exact ⟨_, rfl, x, u.2, rfl, r, gu, by omega, fun H3 p s3 hp => k _ _ s3 ⟨u, hu, p, rfl, hp⟩⟩
  intro zs H2 hl hy s2 hd2
  rw [hl1] at hl
  have s02 := s1.trans s2
  have hS2 := s02 _ _ hS
  cases t with
  | rel nm vs =>
    obtain ⟨y0, ys0, e0, h0, c0⟩ := tds_cons hxs
    cases e0
    obtain rfl := td_str h0
    refine ⟨_, rfl, rfl, false, bl_ne (str_ne (by decide +kernel)), ?_⟩
    refine ⟨_, rfl, two_line, fun o1 ho1 => ⟨o1, ands, rfl, .inr (SqT.of upd_same), rfl, flat_txts _, false, out_txts (by decide +kernel), ?_⟩⟩
    refine ⟨_, rfl, two_line, fun o2 ho2 => ⟨o2, somes, rfl, .inr (SqT.of upd_same), rfl, flat_txts _, false, out_txts (by decide +kernel), ?_⟩⟩
    refine ⟨_, rfl, rfl, false, bl_ne (str_ne (by decide +kernel)), ?_⟩
    refine ⟨_, rfl, rfl, false, bl_ne (str_ne (by decide +kernel)), ?_⟩
    exact ⟨two_line, fun p hp => q _ _ (((s02.trans (same_new ho1 _)).trans (same_new ho2 _)).trans (same_new hp _)) upd_same⟩
  | atm wd vs =>
    obtain ⟨y0, ys0, e0, h0, c0⟩ := tds_cons hxs
    cases e0
    obtain rfl := td_str h0
    have hw : wd ≠ "not" ∧ wd ∉ (["and", "or"] : List Str) ∧ wd ∉ (["some", "every"] : List Str) ∧ wd ≠ "more" ∧ wd ≠ "walk" := by
      rcases hg.1 with ⟨g1, _⟩ | ⟨g1, _⟩
      · simp only [List.mem_cons, List.not_mem_nil, or_false] at g1
        rcases g1 with rfl | rfl | rfl <;> decide +kernel
      · simp only [List.mem_cons, List.not_mem_nil, or_false] at g1
        rcases g1 with rfl | rfl <;> decide +kernel
    obtain ⟨w1, w2, w3, w4, w5⟩ := hw
    refine ⟨_, rfl, rfl, false, bl_ne (str_ne w1), ?_⟩
    refine ⟨_, rfl, two_line, fun o1 ho1 => ⟨o1, ands, rfl, .inr (SqT.of upd_same), rfl, flat_txts _, false, out_txts w2, ?_⟩⟩
    refine ⟨_, rfl, two_line, fun o2 ho2 => ⟨o2, somes, rfl, .inr (SqT.of upd_same), rfl, flat_txts _, false, out_txts w3, ?_⟩⟩
    refine ⟨_, rfl, rfl, false, bl_ne (str_ne w4), ?_⟩
    refine ⟨_, rfl, rfl, false, bl_ne (str_ne w5), ?_⟩
    exact ⟨two_line, fun p hp => q _ _ (((s02.trans (same_new ho1 _)).trans (same_new ho2 _)).trans (same_new hp _)) upd_same⟩
  | neg p =>
    obtain ⟨y0, ys0, e0, h0, c0⟩ := tds_cons hxs
    cases e0
    obtain rfl := td_str h0
    obtain ⟨o, rfl, ho⟩ := below1 rfl hl hy
    refine ⟨_, rfl, rfl, true, bl_eq rfl, ?_⟩
    refine ⟨_, rfl, T, _, 0, _, rfl, rfl, SqL.of hd2, rfl, o, _, 1, _, rfl, rfl, SqT.of ho, rfl, ?_⟩
    refine ⟨_, rfl, T, _, 0, _, rfl, rfl, SqL.of hd2, rfl, o, _, 0, _, rfl, rfl, SqT.of ho, rfl, two_line, fun p2 hp => ?_⟩
    exact q _ _ (s02.trans (same_new hp _)) upd_same
  | bin wd p1 p2 =>
    obtain ⟨y0, ys0, e0, h0, c0⟩ := tds_cons hxs
    cases e0
    obtain rfl := td_str h0
    obtain ⟨gw, g1, g2⟩ := hg
    obtain ⟨o1, o2, rfl, ho1, ho2⟩ := below2 rfl hl hy
    have w1 : wd ≠ "not" := by
      simp only [List.mem_cons, List.not_mem_nil, or_false] at gw
      rcases gw with rfl | rfl <;> decide +kernel
    refine ⟨_, rfl, rfl, false, bl_ne (str_ne w1), ?_⟩
    refine ⟨_, rfl, two_line, fun o3 ho3 => ⟨o3, ands, rfl, .inr (SqT.of upd_same), rfl, flat_txts _, true, in_txts gw, ?_⟩⟩
    have s3 := same_new ho3 (HO.tup ands)
    have k0 := s3 _ _ hd2
    have k1 := s3 _ _ ho1
    have k2 := s3 _ _ ho2
    refine ⟨_, rfl, T, _, 0, _, rfl, rfl, SqL.of k0, rfl, o1, _, 0, _, rfl, rfl, SqT.of k1, rfl, _, rfl, T, _, 1, _, rfl, rfl, SqL.of k0, rfl, o2, _, 0, _, rfl, rfl, SqT.of k2, rfl, _, _, rfl, ?_⟩
    refine ⟨_, rfl, T, _, 0, _, rfl, rfl, SqL.of k0, rfl, o1, _, 1, _, rfl, rfl, SqT.of k1, rfl, _, rfl, T, _, 1, _, rfl, rfl, SqL.of k0, rfl, o2, _, 1, _, rfl, rfl, SqT.of k2, rfl, _, _, rfl, two_line, fun p3 hp => ?_⟩
    exact q _ _ ((s02.trans s3).trans (same_new hp _)) upd_same
  | qu wd z p =>
    obtain ⟨y0, ys0, e0, h0, c0⟩ := tds_cons hxs
    cases e0
    obtain rfl := td_str h0
    obtain ⟨gw, g1, g2⟩ := hg
    obtain ⟨o1, rfl, ho1⟩ := below1 rfl hl hy
    have hw : wd ≠ "not" ∧ wd ∉ (["and", "or"] : List Str) := by
      simp only [List.mem_cons, List.not_mem_nil, or_false] at gw
      rcases gw with rfl | rfl <;> decide +kernel
    refine ⟨_, rfl, rfl, false, bl_ne (str_ne hw.1), ?_⟩
    refine ⟨_, rfl, two_line, fun o3 ho3 => ⟨o3, ands, rfl, .inr (SqT.of upd_same), rfl, flat_txts _, false, out_txts hw.2, ?_⟩⟩
    have s3 := same_new ho3 (HO.tup ands)
    refine ⟨_, rfl, two_line, fun o4 ho4 => ⟨o4, somes, rfl, .inr (SqT.of upd_same), rfl, flat_txts _, true, in_txts gw, ?_⟩⟩
    have s4 := s3.trans (same_new ho4 (HO.tup somes))
    have k0 := s4 _ _ hd2
    have k1 := s4 _ _ ho1
    refine ⟨_, rfl, T, _, 0, _, rfl, rfl, SqL.of k0, rfl, o1, _, 0, _, rfl, rfl, SqT.of k1, rfl, 1, _, rfl, rfl, ?_⟩
    refine ⟨_, rfl, T, _, 0, _, rfl, rfl, SqL.of k0, rfl, o1, _, 1, _, rfl, rfl, SqT.of k1, rfl, 1, _, rfl, rfl, two_line, fun p3 hp => ?_⟩
    exact q _ _ ((s02.trans s4).trans (same_new hp _)) upd_same
  | mo z p1 y p2 =>
    obtain ⟨y0, ys0, e0, h0, c0⟩ := tds_cons hxs
    cases e0
    obtain rfl := td_str h0
    obtain ⟨o1, o2, rfl, ho1, ho2⟩ := below2 rfl hl hy
    refine ⟨_, rfl, rfl, false, bl_ne (str_ne (by decide +kernel)), ?_⟩
    refine ⟨_, rfl, two_line, fun o3 ho3 => ⟨o3, ands, rfl, .inr (SqT.of upd_same), rfl, flat_txts _, false, out_txts (by decide +kernel), ?_⟩⟩
    have s3 := same_new ho3 (HO.tup ands)
    refine ⟨_, rfl, two_line, fun o4 ho4 => ⟨o4, somes, rfl, .inr (SqT.of upd_same), rfl, flat_txts _, false, out_txts (by decide +kernel), ?_⟩⟩
    have s4 := s3.trans (same_new ho4 (HO.tup somes))
    have k0 := s4 _ _ hd2
    have k1 := s4 _ _ ho1
    have k2 := s4 _ _ ho2
    refine ⟨_, rfl, rfl, true, bl_eq rfl, ?_⟩
    refine ⟨_, rfl, T, _, 0, _, rfl, rfl, SqL.of k0, rfl, o1, _, _, rfl, SqT.of k1, _, rfl, T, _, 1, _, rfl, rfl, SqL.of k0, rfl, o2, _, _, rfl, SqT.of k2, _, _, rfl, 5, _, rfl, rfl, ?_⟩
    refine ⟨_, rfl, _, rfl, two_line, fun p3 hp => ?_⟩
    exact q _ _ ((s02.trans s4).trans (same_new hp _)) upd_same
  | wk l m p st g =>
    obtain ⟨y0, ys0, e0, h0, c0⟩ := tds_cons hxs
    cases e0
    obtain ⟨x1, ys1, rfl, h1', c1⟩ := tds_cons c0
    obtain rfl := td_str h0
    obtain ⟨l1, y1, rfl, w1, e1⟩ := td_tup h1'
    obtain rfl := strs_td e1
    obtain ⟨o1, rfl, ho1⟩ := below1 rfl hl hy
    refine ⟨_, rfl, rfl, false, bl_ne (str_ne (by decide +kernel)), ?_⟩
    refine ⟨_, rfl, two_line, fun o3 ho3 => ⟨o3, ands, rfl, .inr (SqT.of upd_same), rfl, flat_txts _, false, out_txts (by decide +kernel), ?_⟩⟩
    have s3 := same_new ho3 (HO.tup ands)
    refine ⟨_, rfl, two_line, fun o4 ho4 => ⟨o4, somes, rfl, .inr (SqT.of upd_same), rfl, flat_txts _, false, out_txts (by decide +kernel), ?_⟩⟩
    have s4 := s3.trans (same_new ho4 (HO.tup somes))
    have k0 := s4 _ _ hd2
    have k1 := s4 _ _ ho1
    refine ⟨_, rfl, rfl, false, bl_ne (str_ne (by decide +kernel)), ?_⟩
    refine ⟨_, rfl, rfl, true, bl_eq rfl, ?_⟩
    refine ⟨_, rfl, a, _, 1, _, rfl, rfl, SqT.of (s4 _ _ hS2), at_of (j := 1) rfl rfl, l1, _, rfl, .inr (SqT.of (s4 _ _ (s02 _ _ w1))), ?_⟩
    refine ⟨_, rfl, 2, _, rfl, rfl, .inl ⟨by decide, by decide⟩, _, rfl, T, _, 0, _, rfl, rfl, SqL.of k0, rfl, o1, _, 0, _, rfl, rfl, SqT.of k1, rfl, _, _, rfl, rfl, ?_⟩
    refine ⟨_, rfl, 9, _, rfl, rfl, .inl ⟨by decide, by decide⟩, _, 1, rfl, rfl, _, rfl, T, _, 0, _, rfl, rfl, SqL.of k0, rfl, o1, _, _, rfl, SqT.of k1, _, _, rfl, rfl, two_line, fun p3 hp => ?_⟩
    refine q _ _ ((s02.trans s4).trans (same_new hp _)) ?_
    rw [upd_same]
    show some (HO.tup [V.int (2 * ((l.map V.str).length : Int) + p.need.1), V.int (9 * ((l.map V.str).length : Int) + 1 + Tr.mx p.need.1 p.need.2)]) = _
    rw [List.length_map]
    rfl
end
end K52

set_option maxRecDepth 100000
set_option maxHeartbeats 4000000
namespace K52
open PySem PySem.Spec PyProof.Rows L2
section
variable {P : Program} {w : World} {K : PySem.W.Frag} {mg : Str → Option Value} {base : Heap}
/-- a promise that nothing meets -/
theorem cal_void {CX : CXT} {x : Str} {st : Stmt} {ps : List Str} {k : Nat} {sp : Sp} (D : Def K mg x st) (no : ∀ vs H Q E, ¬ sp vs H Q E)
    (hb : ∀ (kV doc pm : Value) (an : Option Addr) (cdv ct : Value) (us : List Value), us.length = ps.length → bindArgs (PySem.W.fnOf x x (defArgs st) (defBody st) (defScope st) .none kV doc pm an cdv ct) ⟨us, []⟩ = pure (ps.zip us)) : Cal P w K mg base CX k x sp := by
  obtain ⟨f, fd, F, hm⟩ := D.ex
  exact ⟨f, fd, ps, ⟨fun vs H Q E h => (no _ _ _ _ h).elim, fun A outer s H args us vs Q E _ _ _ _ h => (no _ _ _ _ h).elim⟩, hm, F.kp, F.binds hb⟩
/-- the package's defs, each under its name -/
structure Defs (K : PySem.W.Frag) (mg : Str → Option Value) : Prop where
  d28 : Def K mg "is_name" sIsName
  d29 : Def K mg "is_sequence" sIsSeq
  d30 : Def K mg "checked_name" sChName
  d31 : Def K mg "checked_names" sChNames
  d32 : Def K mg "checked_atom" sChAtom
  d33 : Def K mg "checked_walk" sWalk
  d34 : Def K mg "shaped" sShaped
  d35 : Def K mg "checked" sChecked
  d36 : Def K mg "scopes" sScopes
  d37 : Def K mg "parts" sParts
  d38 : Def K mg "subtrees" sSubtrees
  d39 : Def K mg "own_variables" sOwnVars
  d40 : Def K mg "free_names" sFreeNames
  d41 : Def K mg "free_variables" sFreeVars
  d42 : Def K mg "relation_uses" sRelUses
  d43 : Def K mg "is_bare" sBare
  d44 : Def K mg "is_ordered" sOrdered
  d46 : Def K mg "needs" sNeeds
variable (E1 : Env1 K mg) (D : Defs K mg)
include E1 D
theorem all_shaped : ∀ n : Nat, Cal P w K mg base CX0 (2 * n + 5) "shaped" (spShaped K n)
  | 0 => cal_void (ps := ["tree", "depth", "room"]) D.d34 (fun vs H Q E ⟨v, d, r, b, t, _, _, _, _, _, h, _⟩ => by
      have := t.deep_pos
      omega) (fun _ _ _ _ _ _ us hl => match us, hl with | [_, _, _], _ => rfl)
  | n + 1 => by
    have i := all_shaped n
    have c1 : Cal P w K mg base CX0 1 "is_name" spIsName := cal_is_name E1 D.d28
    have c2 : Cal P w K mg base CX0 2 "checked_name" spChName := cal_checked_name D.d30 c1
    have s1 : Cal P w K mg base CX0 1 "is_sequence" (spIsSeq K) := cal_is_sequence E1 D.d29
    have c3 : Cal P w K mg base CX0 3 "checked_names" (spChNames K) := cal_checked_names E1 D.d31 s1 c2
    have c4 : Cal P w K mg base CX0 4 "checked_atom" (spChAtom K) := cal_checked_atom E1 D.d32 c2 c3
    have := cal_shaped E1 D.d34 s1 c2 c4 (cal_checked_walk E1 D.d33 c3 i) i
    exact this
theorem the_parts : Cal P w K mg base CX0 2 "parts" spParts := cal_parts E1 D.d37 (cal_scopes E1 D.d36)
theorem all_subtrees : ∀ n : Nat, Cal P w K mg base CX0 (n + 2) "subtrees" (spSubtrees n)
  | 0 => cal_void (ps := ["tree"]) D.d38 (fun vs H Q E ⟨v, t, _, _, _, h, _⟩ => by
      have := t.deep_pos
      omega) (fun _ _ _ _ _ _ us hl => match us, hl with | [_], _ => rfl)
  | n + 1 => cal_subtrees E1 D.d38 (the_parts E1 D) (all_subtrees n)
theorem all_free_names : ∀ n : Nat, Cal P w K mg base CX0 (n + 1) "free_names" (spFreeNames n)
  | 0 => cal_void (ps := ["tree"]) D.d40 (fun vs H Q E ⟨v, t, _, _, _, h, _⟩ => by
      have := t.deep_pos
      omega) (fun _ _ _ _ _ _ us hl => match us, hl with | [_], _ => rfl)
  | n + 1 => cal_free_names E1 D.d40 (cal_own E1 D.d39) (cal_scopes E1 D.d36) (all_free_names n)
theorem all_needs : ∀ n : Nat, Cal P w K mg base CX0 (n + 2) "needs" (spNeeds n)
  | 0 => cal_void (ps := ["tree"]) D.d46 (fun vs H Q E ⟨v, t, _, _, _, h, _⟩ => by
      have := t.deep_pos
      omega) (fun _ _ _ _ _ _ us hl => match us, hl with | [_], _ => rfl)
  | n + 1 => cal_needs E1 D.d46 (the_parts E1 D) (all_needs n)
theorem the_checked : Cal P w K mg base CX0 86 "checked" (spChecked K) :=
  cal_checked E1 D.d35 (all_shaped E1 D 40) (cal_relation_uses E1 D.d42 (all_subtrees E1 D 40))
theorem the_needs : Cal P w K mg base CX0 42 "needs" (spNeeds 40) := all_needs E1 D 40
theorem the_free : Cal P w K mg base CX0 42 "free_variables" (spFreeVars 40) := cal_free_variables E1 D.d41 (all_free_names E1 D 40)
theorem the_uses : Cal P w K mg base CX0 43 "relation_uses" (spRelUses 40) := cal_relation_uses E1 D.d42 (all_subtrees E1 D 40)
theorem the_bare : Cal P w K mg base CX0 43 "is_bare" (spLook 40) := cal_is_bare E1 D.d43 (all_subtrees E1 D 40)
theorem the_ordered : Cal P w K mg base CX0 43 "is_ordered" (spLook 40) := cal_is_ordered E1 D.d44 (all_subtrees E1 D 40)
end
end K52

set_option maxRecDepth 100000
set_option maxHeartbeats 4000000
namespace K52
open PySem PySem.Spec PyProof.Rows L2
/-- all stays but p -/
def SameBut (p : Addr) (H H' : Hp) : Prop := ∀ b o, H b = some o → b ≠ p → H' b = some o
theorem SameBut.same {H H1 H2 : Hp} {p : Addr} (a : SameBut p H H1) (s : Same H1 H2) : SameBut p H H2 := fun b o e n => s b o (a b o e n)
theorem SameBut.put {H H' : Hp} {p : Addr} {o : HO} (a : SameBut p H H') : SameBut p H (upd H' p o) := fun b u e n => by rw [upd_ne n]; exact a b u e n
theorem keep_ins {H : Hp} {p C dx : Addr} {fs : List (Str × V)} {o : HO} (h : H p = some (.ins C dx fs)) : Keep H (upd H p o) := keep_upd fun xs z => by rw [h] at z; cases z
section
variable {P : Program} {w : World} {K : PySem.W.Frag} {mg : Str → Option Value} {base : Heap}
abbrev sQInit : Stmt := inClass (top 49) 0
abbrev sQFree : Stmt := inClass (top 49) 1
abbrev sBInit : Stmt := inClass (top 13) 0
abbrev sBill : Stmt := top 47
/-- the fields of a question -/
def qfs (t f u b o : V) : List (Str × V) := putF "_ordered" o (putF "_bare" b (putF "_uses" u (putF "_free" f (putF "tree" t []))))
/-- a question of the tree t stands at p -/
def QAt (C : Addr) (H : Hp) (p : Addr) (t : Tr) (n : Nat) : Prop := ∃ (dx : Addr) (tv : V) (fp : Addr) (u b o : V) (ys : List Str), H p = some (.ins C dx (qfs tv (.ref fp) u b o)) ∧ At H t tv ∧ H fp = some (.tup (ys.map V.str)) ∧ ys.Nodup ∧ (∀ x, x ∈ ys ↔ x ∈ t.fv) ∧ ys.length = n
theorem QAt.same {C : Addr} {H H' : Hp} {p : Addr} {t : Tr} {n : Nat} (q : QAt C H p t n) (s : Same H H') : QAt C H' p t n := by
  obtain ⟨dx, tv, fp, u, b, o, ys, h1, h2, h3, h4⟩ := q
  exact ⟨dx, tv, fp, u, b, o, ys, s _ _ h1, h2.keep (keep_of s), s _ _ h3, h4⟩
/-- what the top says of the class of the questions -/
structure TxtQ (K : PySem.W.Frag) (mg : Str → Option Value) (C fI fG pG : Addr) (fdI fdG : FuncData) : Prop where
  cl : Cls K C
  n1 : NoAttr K C "tree"
  n2 : NoAttr K C "_free"
  n3 : NoAttr K C "_uses"
  n4 : NoAttr K C "_bare"
  n5 : NoAttr K C "_ordered"
  mgC : mg "Question" = some (.ref C)
  mkC : Mk K C fI
  FI : Fun K "__init__" "Question.__init__" sQInit fI fdI
  FG : Fun K "free" "Question.free" sQFree fG fdG
  pr : PropOf K C "free" pG fG
theorem scQI : FnScope ["self", "tree"] ["self", "tree"] (defScope sQInit) := ⟨rfl, rfl, rfl, by decide +kernel, rfl, by decide +kernel, by decide +kernel⟩
theorem scQF : FnScope ["self"] ["self"] (defScope sQFree) := ⟨rfl, rfl, rfl, by decide +kernel, rfl, by decide +kernel, by decide +kernel⟩
theorem scBI : FnScope ["self", "side"] ["self", "side"] (defScope sBInit) := ⟨rfl, rfl, rfl, by decide +kernel, rfl, by decide +kernel, by decide +kernel⟩
def spQInit (K : PySem.W.Frag) (C : Addr) : Sp := fun vs H Q _ => ∃ (p dx : Addr) (v : V) (b : Bool) (t : Tr), vs = [.ref p, v] ∧ H p = some (.ins C dx []) ∧ Dp K H v (t.dat b) ∧ t.Good ∧ t.deep ≤ 40 ∧ t.size ≤ 20000 ∧
  ∀ (H' : Hp) (n : Nat), SameBut p H H' → QAt C H' p t n → Q .non H'
theorem ok_qinit {C fI fG pG : Addr} {fdI fdG : FuncData} (T : TxtQ K mg C fI fG pG fdI fdG) (c1 : Cal P w K mg base CX0 86 "checked" (spChecked K)) (c2 : Cal P w K mg base CX0 42 "free_variables" (spFreeVars 40)) (c3 : Cal P w K mg base CX0 43 "relation_uses" (spRelUses 40))
    (c4 : Cal P w K mg base CX0 43 "is_bare" (spLook 40)) (c5 : Cal P w K mg base CX0 43 "is_ordered" (spLook 40)) : FnOk P w K mg base CX0 87 fI fdI ["self", "tree"] (spQInit K C) := by
  refine T.FI.ok scQI (fun vs H Q E h => ?_) (fun cdv A outer s H vs Q E hr h => ?_)
  · obtain ⟨p, dx, v, b, t, rfl, _⟩ := h
    rfl
  obtain ⟨p, dx, v, b, t, rfl, hp, hd, hg, hn, hz, q⟩ := h
  refine ⟨_, pss_cons (ps_fld (pv 0) (pe_c c1 hr (by decide) (pa_cons (pv 1) pa_nil)) rfl)
    (pss_cons (ps_fld (pv 0) (pe_c c2 hr (by decide) (pa_cons (pe_fld (pv 0) rfl) pa_nil)) rfl)
    (pss_cons (ps_fld (pv 0) (pe_c c3 hr (by decide) (pa_cons (pe_fld (pv 0) rfl) pa_nil)) rfl)
    (pss_cons (ps_fld (pv 0) (pe_c c4 hr (by decide) (pa_cons (pe_fld (pv 0) rfl) pa_nil)) rfl)
    (pss_one (ps_fld (pv 0) (pe_c c5 hr (by decide) (pa_cons (pe_fld (pv 0) rfl) pa_nil)) rfl))))), ?_⟩
  refine ⟨_, rfl, v, b, t, rfl, hd, hg, hn, hz, fun H1 tv s1 a1 => ?_⟩
  have hp1 := s1 _ _ hp
  refine ⟨_, rfl, p, C, dx, [], rfl, hp1, T.cl, T.n1, (by show 0 < 1000; decide), ?_⟩
  have b1 : SameBut p H (upd H1 p (.ins C dx (putF "tree" tv []))) := SameBut.put fun b o e _ => s1 b o e
  have a2 := a1.keep (keep_ins (o := .ins C dx (putF "tree" tv [])) hp1)
  refine ⟨_, rfl, p, C, dx, _, _, rfl, upd_same, T.cl, T.n1, rfl, tv, t, rfl, a2, hg, hn, fun H2 fp ys s2 hf nd hy => ?_⟩
  have hp2 := s2 _ _ (show upd H1 p (.ins C dx (putF "tree" tv [])) p = some (.ins C dx (putF "tree" tv [])) from upd_same)
  have b2 := b1.same s2
  have a3 := a2.keep (keep_of s2)
  refine ⟨_, rfl, p, C, dx, _, rfl, hp2, T.cl, T.n2, (by show 1 < 1000; decide), ?_⟩
  have k3 := keep_ins (o := .ins C dx (putF "_free" (.ref fp) (putF "tree" tv []))) hp2
  have a4 := a3.keep k3
  have f4 := k3 _ _ hf
  have b3 := SameBut.put (o := .ins C dx (putF "_free" (.ref fp) (putF "tree" tv []))) b2
  refine ⟨_, rfl, p, C, dx, _, _, rfl, upd_same, T.cl, T.n1, rfl, tv, t, rfl, a4, hg, hn, (by omega), fun H3 up bs s3 _ hb3 _ _ => ?_⟩
  have hp3 := s3 _ _ (show upd H2 p (.ins C dx (putF "_free" (.ref fp) (putF "tree" tv []))) p = some (.ins C dx (putF "_free" (.ref fp) (putF "tree" tv []))) from upd_same)
  have b4 := b3.same s3
  have a5 := a4.keep (keep_of s3)
  have f5 := s3 _ _ f4
  refine ⟨_, rfl, p, C, dx, _, rfl, hp3, T.cl, T.n3, (by show 2 < 1000; decide), ?_⟩
  have k4 := keep_ins (o := .ins C dx (putF "_uses" (.ref up) (putF "_free" (.ref fp) (putF "tree" tv [])))) hp3
  have a6 := a5.keep k4
  have f6 := k4 _ _ f5
  have b5 := SameBut.put (o := .ins C dx (putF "_uses" (.ref up) (putF "_free" (.ref fp) (putF "tree" tv [])))) b4
  refine ⟨_, rfl, p, C, dx, _, _, rfl, upd_same, T.cl, T.n1, rfl, tv, t, rfl, a6, hg, hn, (by omega), fun H4 bb s4 => ?_⟩
  have hp4 := s4 _ _ (show upd H3 p (.ins C dx (putF "_uses" (.ref up) (putF "_free" (.ref fp) (putF "tree" tv [])))) p = some (.ins C dx (putF "_uses" (.ref up) (putF "_free" (.ref fp) (putF "tree" tv [])))) from upd_same)
  have b6 := b5.same s4
  have a7 := a6.keep (keep_of s4)
  have f7 := s4 _ _ f6
  refine ⟨_, rfl, p, C, dx, _, rfl, hp4, T.cl, T.n4, (by show 3 < 1000; decide), ?_⟩
  have k5 := keep_ins (o := .ins C dx (putF "_bare" (.bl bb) (putF "_uses" (.ref up) (putF "_free" (.ref fp) (putF "tree" tv []))))) hp4
  have a8 := a7.keep k5
  have f8 := k5 _ _ f7
  have b7 := SameBut.put (o := .ins C dx (putF "_bare" (.bl bb) (putF "_uses" (.ref up) (putF "_free" (.ref fp) (putF "tree" tv []))))) b6
  refine ⟨_, rfl, p, C, dx, _, _, rfl, upd_same, T.cl, T.n1, rfl, tv, t, rfl, a8, hg, hn, (by omega), fun H5 ob s5 => ?_⟩
  have hp5 := s5 _ _ (show upd H4 p (.ins C dx (putF "_bare" (.bl bb) (putF "_uses" (.ref up) (putF "_free" (.ref fp) (putF "tree" tv []))))) p = some (.ins C dx (putF "_bare" (.bl bb) (putF "_uses" (.ref up) (putF "_free" (.ref fp) (putF "tree" tv []))))) from upd_same)
  have b8 := b7.same s5
  have a9 := a8.keep (keep_of s5)
  have f9 := s5 _ _ f8
  refine ⟨_, rfl, p, C, dx, _, rfl, hp5, T.cl, T.n5, (by show 4 < 1000; decide), ?_⟩
  have k6 := keep_ins (o := .ins C dx (qfs tv (.ref fp) (.ref up) (.bl bb) (.bl ob))) hp5
  exact q _ _ (SameBut.put b8) ⟨dx, tv, fp, .ref up, .bl bb, .bl ob, ys, upd_same, a9.keep k6, k6 _ _ f9, nd, hy, rfl⟩
/-- the getter -/
def spQFree (C : Addr) : Sp := fun vs H Q _ => ∃ (p : Addr) (t : Tr) (n : Nat), vs = [.ref p] ∧ QAt C H p t n ∧ ∀ (fp : Addr) (ys : List Str), H fp = some (.tup (ys.map V.str)) → ys.length = n → Q (.ref fp) H
theorem ok_qfree {C fI fG pG : Addr} {fdI fdG : FuncData} (T : TxtQ K mg C fI fG pG fdI fdG) : FnOk P w K mg base CX0 1 fG fdG ["self"] (spQFree C) := by
  refine T.FG.ok scQF (fun vs H Q E h => ?_) (fun cdv A outer s H vs Q E hr h => ?_)
  · obtain ⟨p, t, n, rfl, _⟩ := h
    rfl
  obtain ⟨p, t, n, rfl, ⟨dx, tv, fp, u, b, o, ys, h1, h2, h3, h4, h5, h6⟩, q⟩ := h
  refine ⟨_, pss_one (ps_ret (pe_fld (pv 0) rfl)), ?_⟩
  exact ⟨_, rfl, p, C, dx, _, _, rfl, h1, T.cl, T.n2, rfl, q fp ys h3 h6⟩
/-! ### BadSide -/
def spBInit (C : Addr) : Sp := fun vs H Q _ => ∃ (a : Addr) (z : Str), vs = [.ref a, .str z] ∧ H a = some (exo a C none) ∧ ∀ dx, H dx = none → dx ≠ a → Q .non (upd (upd H dx (exd dx [("side", .str z)])) a (exo a C (some dx)))
structure TxtB (K : PySem.W.Frag) (mg : Str → Option Value) (C fI : Addr) (fdI : FuncData) : Prop where
  T : OexC K C
  iC : PySem.W.findIn K (.ref C) "__init__" = some (some (.ref fI))
  tI : PySem.W.typeIn K (.ref fI) = some (.type "function")
  F : Fun K "__init__" "BadSide.__init__" sBInit fI fdI
  no : PySem.W.findIn K (.ref C) "side" = some none
  mgC : mg "BadSide" = some (.ref C)
theorem ok_binit {C fI : Addr} {fdI : FuncData} (T : TxtB K mg C fI fdI) : FnOk P w K mg base CX0 1 fI fdI ["self", "side"] (spBInit C) := by
  refine T.F.ok scBI (fun vs H Q E h => ?_) (fun cdv A outer s H vs Q E hr h => ?_)
  · obtain ⟨a, z, rfl, _⟩ := h
    rfl
  obtain ⟨a, z, rfl, ha, q⟩ := h
  refine ⟨_, pss_one (ps_ost (pv 0) (pv 1)), ?_⟩
  exact ⟨_, rfl, _, rfl, a, C, rfl, T.T, T.no, Or.inl ⟨ha, fun dx n ne => q dx n ne⟩⟩
/-! ### bill -/
abbrev sides : List V := [V.str "yes", V.str "no"]
def spBill (CQ CB : Addr) : Sp := fun vs H Q E => ∃ (p : Addr) (z : Str) (t : Tr) (n : Nat), vs = [.ref p, .str z] ∧ QAt CQ H p t n ∧ t.Good ∧ t.deep ≤ 40 ∧
  (z ∉ (["yes", "no"] : List Str) → ∀ (d : Addr) (H' : Hp), Same H H' → H' d = some (.xd [("side", .str z)]) → E (.ref CB) (some d) H') ∧
  (z = "yes" → ∀ H', Same H H' → Q (.int ((n : Int) + 1 + t.need.1)) H') ∧ (z = "no" → ∀ H', Same H H' → Q (.int ((n : Int) + 1 + t.need.2)) H')
theorem scBill : FnScope ["question", "side", "yes", "no"] ["question", "side"] (defScope sBill) := ⟨rfl, rfl, rfl, by decide +kernel, rfl, by decide +kernel, by decide +kernel⟩
theorem notin_txts {z : Str} {l : List Str} (h : z ∉ l) : V.bl (!decide (V.str z ∈ l.map V.str)) = V.bl true := by
  rw [decide_eq_false]
  · rfl
  · intro e
    obtain ⟨y, hy, e2⟩ := List.mem_map.mp e
    exact h (V.str.inj e2 ▸ hy)
theorem cal_bill {CQ CB fI fG pG fB : Addr} {fdI fdG fdB : FuncData} (E1 : Env1 K mg) (D : Def K mg "bill" sBill) (T : TxtQ K mg CQ fI fG pG fdI fdG) (B : TxtB K mg CB fB fdB) (c1 : Cal P w K mg base CX0 42 "needs" (spNeeds 40)) :
    Cal P w K mg base (L2.CX P w) 44 "bill" (spBill CQ CB) := by
  refine cal_mkX D scBill (fun _ _ _ _ _ _ us hl => match us, hl with | [_, _], _ => rfl) (fun vs H Q E h => ?_) (fun f cdv A outer s H vs Q E hr h => ?_)
  · obtain ⟨p, z, t, n, rfl, _⟩ := h
    rfl
  obtain ⟨p, z, t, n, rfl, hq, hg, hn, kx, ky, kn⟩ := h
  have GB : FnOk P w K mg base CX0 1 fB fdB ["self", "side"] (spBInit CB) := ok_binit B
  have GF : FnOk P w K mg base CX0 1 fG fdG ["self"] (spQFree CQ) := ok_qfree T
  have bB : Binds K fdB ["self", "side"] [] := B.F.binds fun _ _ _ _ _ _ us hl => match us, hl with | [_, _], _ => rfl
  have bF : Binds K fdG ["self"] [] := T.FG.binds fun _ _ _ _ _ _ us hl => match us, hl with | [_], _ => rfl
  refine ⟨_, pss_cons (ps_if (pt_cmpR op_notIn_seq (pv 1) (pe_tup (pa_cons pe_str (pa_cons pe_str pa_nil))) rfl)
      (pss_one (ps_raise rfl (takes_of rfl rfl rfl rfl) (pmk_oex B.T B.iC B.tI GB (hr.mono (by decide)) bB .nil pass0 rfl B.mgC (pa_cons (pv 1) pa_nil)))) pss_nil)
    (pss_cons (ps_asg (pe_c c1 hr (by decide) (pa_cons (pe_fld (pv 0) rfl) pa_nil)) (pg_tup rfl (pgs_cons (pg_name (i := 2) scBill.nd rfl (Or.inl rfl)) (pgs_cons (pg_name (i := 3) scBill.nd rfl (Or.inl rfl)) pgs_nil))))
    (pss_one (ps_ret (pe_op op_add (pe_op op_add (pe_callB call_len_seq rfl E1.len boot_len (pa_cons (pe_prop (pv 0) T.cl T.pr GF (hr.mono (by decide)) bF .nil pass0 rfl) pa_nil)) pe_int)
      (pe_ifExp (pt_cmpR op_eq (pv 1) pe_str (nomark _)) (pv 2) (pv 3)))))), ?_⟩
  obtain ⟨dx, tv, fp, u, b, o, ys, h1, h2, h3, h4, h5, h6⟩ := id hq
  refine ⟨_, rfl, two_line, fun o1 ho1 => ⟨o1, sides, rfl, .inr (SqT.of upd_same), rfl, flat_txts ["yes", "no"], ?_⟩⟩
  have s1 := same_new ho1 (HO.tup sides)
  by_cases hz : z ∈ (["yes", "no"] : List Str)
  · refine ⟨false, ?_, ?_⟩
    · show V.bl (!inV (.str z) (List.map V.str ["yes", "no"])) = V.bl false
      rw [inV_strs, decide_eq_true hz]
      rfl
    refine ⟨_, rfl, p, CQ, dx, _, _, rfl, s1 _ _ h1, T.cl, T.n1, rfl, tv, t, rfl, h2.keep (keep_of s1), hg, hn, fun H2 p2 s2 hp2 => ?_⟩
    refine ⟨p2, _, rfl, SqT.of hp2, rfl, _, _, rfl, _, _, rfl, rfl, ?_⟩
    have s12 := s1.trans s2
    refine ⟨_, rfl, p, dx, _, rfl, s12 _ _ h1, p, t, n, rfl, hq.same s12, fun f2 zs hf2 hzs => ?_⟩
    refine ⟨f2, _, rfl, .inr (SqT.of hf2), _, _, rfl, rfl, ?_⟩
    have el : ((zs.map V.str).length : Int) = (n : Int) := by rw [List.length_map, hzs]
    simp only [List.mem_cons, List.not_mem_nil, or_false] at hz
    rcases hz with rfl | rfl
    · refine ⟨_, rfl, rfl, true, bl_eq rfl, _, rfl, _, _, rfl, rfl, ?_⟩
      have e := ky rfl H2 s12
      rw [← el] at e
      exact e
    · refine ⟨_, rfl, rfl, false, bl_ne (str_ne (by decide +kernel)), _, rfl, _, _, rfl, rfl, ?_⟩
      have e := kn rfl H2 s12
      rw [← el] at e
      exact e
  · refine ⟨true, ?_, ?_⟩
    · show V.bl (!inV (.str z) (List.map V.str ["yes", "no"])) = V.bl true
      rw [inV_strs, decide_eq_false hz]
      rfl
    refine ⟨_, rfl, (by show 1 ≤ 1000; decide), fun a ha => ?_⟩
    refine ⟨a, z, rfl, upd_same, fun d nd ne => ?_⟩
    have hd1 : (upd H o1 (HO.tup sides)) d = none := by rw [upd_ne ne] at nd; exact nd
    refine ⟨rfl, d, _, upd_same, (by rw [upd_ne ne]; exact upd_same), hd1, ?_⟩
    refine kx hz d _ (fun c o2 e => ?_) upd_same
    have e1 := s1 c o2 e
    have ca := ne_of_none e1 ha
    have cd := ne_of_none e1 hd1
    rw [upd_ne cd, del_ne ca, upd_ne ca, upd_ne cd, upd_ne ca]
    exact e1
end
end K52

set_option maxRecDepth 100000
set_option maxHeartbeats 4000000
namespace K52
open PySem PySem.Spec PyProof.Rows L2
section
variable {P : Program} {w : World} {K : PySem.W.Frag} {mg : Str → Option Value} {base : Heap}
abbrev sCell : Stmt := top 51
def spCellL (K : PySem.W.Frag) : Sp := fun vs H Q _ => ∃ (a : Addr) (ns : List Int) (k : Nat), vs = [.ref a, .int (k : Int)] ∧ SqL K H a (ns.map V.int) ∧ k ≤ 1000 ∧ ∀ z : Int, Q (.int z) H
theorem scCell : FnScope ["_law_script", "_law_k", "_law_seed", "_law_cell_here"] ["_law_script", "_law_k"] (defScope sCell) := ⟨rfl, rfl, rfl, by decide +kernel, rfl, by decide +kernel, by decide +kernel⟩
theorem map_get {α : Type} {f : α → V} {l : List α} {i : Nat} {y : V} (h : (l.map f)[i]? = some y) : ∃ z, l[i]? = some z ∧ y = f z := by
  rw [List.getElem?_map] at h
  cases e : l[i]? with
  | none =>
    rw [e] at h
    cases h
  | some z =>
    rw [e] at h
    exact ⟨z, rfl, (Option.some.inj h).symm⟩
theorem bl_yes {p : Prop} [Decidable p] (h : p) : V.bl (decide p) = V.bl true := by rw [decide_eq_true h]
theorem bl_no {p : Prop} [Decidable p] (h : ¬ p) : V.bl (decide p) = V.bl false := by rw [decide_eq_false h]
theorem pe_toInt {X : Cx} {p q : Pos} {e : Expr} {t : TE} (g : Gl X "int") (h : X.mg "int" = none) (he : PE X e t) (h1 : starEach [e] X.env = (false, eval e X.env) :: starEach [] X.env := by rfl) :
    PE X (.Call (.Name "int" p) [e] [] q) (tCB (fun xs H Q => (∃ i, xs = [.int i] ∧ Q (.int i) H) ∨ ∃ k, xs = [.bl k] ∧ Q (.int (if k then 1 else 0)) H) (tCons t tNil)) := pe_callTy call_int1 g h (by decide +kernel) (pa_cons he pa_nil h1) (he := h1)
theorem cal_cell (E1 : Env1 K mg) (D : Def K mg "_law_cell" sCell) : Cal P w K mg base CX0 1 "_law_cell" (spCellL K) := by
  refine cal_mk D scCell (fun _ _ _ _ _ _ us hl => match us, hl with | [_, _], _ => rfl) (fun vs H Q E h => ?_) (fun f cdv A outer s H vs Q E hr h => ?_)
  · obtain ⟨a, ns, k, rfl, _⟩ := h
    rfl
  obtain ⟨a, ns, k, rfl, hS, hk, q⟩ := h
  refine ⟨_, pss_cons (ps_if (pt_cmpR op_lt (pv 1) (pe_callB call_len_seq rfl E1.len boot_len (pa_cons (pv 0) pa_nil)) (nomark _)) (pss_one (ps_ret (pe_callTy call_int1 rfl E1.int (by decide +kernel) (pa_cons (pe_ix ix_list (pv 0) (pv 1) (fun _ _ => rfl)) pa_nil)))) pss_nil)
    (pss_cons (ps_set (i := 2) scCell.nd rfl (Or.inl rfl) pe_int)
    (pss_cons (ps_for PassesOwn.never rfl (pi_list (pv 0)) (pg_name (i := 3) scCell.nd rfl (Or.inl rfl))
      (pss_one (ps_set (i := 2) scCell.nd rfl (Or.inl rfl) (pe_op op_mod (pe_callTy call_int1 rfl E1.int (by decide +kernel) (pa_cons (pe_op op_add (pe_op op_mul (pv 2) pe_int) (pe_op op_mod (pe_callTy call_int1 rfl E1.int (by decide +kernel) (pa_cons (pv 3) pa_nil)) pe_int)) pa_nil)) pe_int))))
    (pss_one (ps_ret (pe_op op_mod (pe_callTy call_int1 rfl E1.int (by decide +kernel) (pa_cons (pe_op op_mul (pe_op op_mul (pe_op op_add (pv 2) pe_int) (pe_op op_add (pv 1) pe_int)) pe_int) pa_nil)) pe_int))))), ?_⟩
  refine ⟨_, rfl, _, rfl, a, _, rfl, .inl hS, _, _, rfl, rfl, ?_⟩
  by_cases c : k < ns.length
  · refine ⟨true, bl_yes (by rw [List.length_map]; omega), ?_⟩
    exact ⟨_, rfl, _, rfl, a, _, _, _, rfl, rfl, hS, atI_cell c, .inl ⟨_, rfl, q _⟩⟩
  · refine ⟨false, bl_no (by rw [List.length_map]; omega), ?_⟩
    refine ⟨_, rfl, a, rfl, ⟨_, hS⟩, for_list (K := K) (a := a) (xs := ns.map V.int) (fun i σ H2 => ∃ (z : Int) (v : Option V), σ = [some (.ref a), some (.int (k : Int)), some (.int z), v] ∧ 0 ≤ z ∧ z < 1000003 ∧ H2 = H)
      ⟨17, none, rfl, by decide, by decide, rfl⟩ (fun i σ H2 _ ⟨_, _, _, _, _, e⟩ => e ▸ hS) ?_ ?_⟩
    · rintro i y σ H2 hi ⟨z, v, rfl, h0, h1, rfl⟩
      obtain ⟨n, _, rfl⟩ := map_get hi
      refine ⟨_, rfl, _, _, rfl, rfl, .inl ⟨by omega, by omega⟩, _, rfl, .inl ⟨_, rfl, _, _, rfl, rfl, (by show (0 : Int) < 1000003; decide), _, _, rfl, rfl, .inl ⟨_, rfl, _, _, rfl, rfl, (by show (0 : Int) < 1000003; decide), ?_⟩⟩⟩
      exact ⟨_, _, rfl, Int.emod_nonneg _ (by decide), Int.emod_lt_of_pos _ (by decide), rfl⟩
    · rintro σ H2 ⟨z, v, rfl, h0, h1, rfl⟩
      refine ⟨_, rfl, _, _, rfl, rfl, _, rfl, _, _, rfl, rfl, _, _, rfl, rfl, .inl ⟨by omega, by omega⟩, _, _, rfl, rfl, .inr ⟨by decide, by decide⟩, .inl ⟨_, rfl, _, _, rfl, rfl, (by show (0 : Int) < 2147483647; decide), q _⟩⟩
/-! ### rows of digits -/
abbrev sRow : Stmt := top 52
/-- a row of digits below 60 at p -/
def Digs (zs : List Int) : Prop := ∀ z ∈ zs, 0 ≤ z ∧ z < 60
def spRow : Sp := fun vs H Q _ => ∃ (c : Int) (m : Nat), vs = [.int c, .int (m : Int)] ∧ m ≤ 400 ∧ ∀ (H' : Hp) (p : Addr) (zs : List Int), Same H H' → H p = none → H' p = some (.lst (zs.map V.int)) → zs.length = m → Digs zs → Q (.ref p) H'
theorem scRow : FnScope ["_law_cell_here", "_law_many", "_law_row_here", "_law_rest", "_law_k", "_law_seed"] ["_law_cell_here", "_law_many"] (defScope sRow) := ⟨rfl, rfl, rfl, by decide +kernel, rfl, by decide +kernel, by decide +kernel⟩
theorem digs_snoc {zs : List Int} {z : Int} (h : Digs zs) (h0 : 0 ≤ z) (h1 : z < 60) : Digs (zs ++ [z]) := fun y hy => by
  rcases List.mem_append.mp hy with g | g
  · exact h y g
  · rw [List.mem_singleton.mp g]
    exact ⟨h0, h1⟩
theorem map_snoc (zs : List Int) (z : Int) : zs.map V.int ++ [V.int z] = (zs ++ [z]).map V.int := by rw [List.map_append]; rfl
/-- i digits of the new row are made -/
def RowTo (H H2 : Hp) (p : Addr) (i : Nat) : Prop := Same H H2 ∧ ∃ zs : List Int, H2 p = some (.lst (zs.map V.int)) ∧ zs.length = i ∧ Digs zs
theorem rowTo_next {H H2 : Hp} {p : Addr} {i : Nat} {zs : List Int} {u : Int} (s : Same H H2) (hp : H p = none) (hl : zs.length = i) (hd : Digs zs) (u0 : 0 ≤ u) (u1 : u < 60) : RowTo H (upd H2 p (.lst (zs.map V.int ++ [V.int u]))) p (i + 1) := by
  refine ⟨same_upd s hp _, zs ++ [u], ?_, ?_, digs_snoc hd u0 u1⟩
  · rw [← map_snoc]
    exact upd_same
  · rw [List.length_append, hl]
    rfl
theorem cal_row (E1 : Env1 K mg) (D : Def K mg "_law_row" sRow) : Cal P w K mg base CX0 1 "_law_row" spRow := by
  refine cal_mk D scRow (fun _ _ _ _ _ _ us hl => match us, hl with | [_, _], _ => rfl) (fun vs H Q E h => ?_) (fun f cdv A outer s H vs Q E hr h => ?_)
  · obtain ⟨c, m, rfl, _⟩ := h
    rfl
  obtain ⟨c, m, rfl, hm, q⟩ := h
  refine ⟨_, pss_cons (ps_set (i := 2) scRow.nd rfl (Or.inl rfl) (pe_lst pa_nil))
    (pss_cons (ps_set (i := 3) scRow.nd rfl (Or.inl rfl) (pe_toInt rfl E1.int (pv 0)))
    (pss_cons (ps_if (pt_cmpR op_ge (pv 3) (pe_op op_pow pe_int pe_int) (nomark _))
      (pss_cons (ps_set (i := 3) scRow.nd rfl (Or.inl rfl) (pe_op op_sub (pv 3) (pe_op op_pow pe_int pe_int)))
      (pss_cons (ps_for PassesOwn.never rfl (pi_range1 rfl E1.range (pa_cons (pv 1) pa_nil)) (pg_name (i := 4) scRow.nd rfl (Or.inl rfl))
        (pss_cons (ps_expr (pe_bm PySem.F.plainAttrs_list PySem.F.slot_list_append PySem.F.type_list_append mt_append (pv 2) (pa_cons (pe_op op_mod (pe_toInt rfl E1.int (pv 3)) pe_int) pa_nil)))
        (pss_one (ps_set (i := 3) scRow.nd rfl (Or.inl rfl) (pe_op op_fdiv (pe_toInt rfl E1.int (pv 3)) pe_int)))))
      (pss_one (ps_ret (pv 2))))) pss_nil)
    (pss_cons (ps_set (i := 5) scRow.nd rfl (Or.inl rfl) (pe_op op_mod (pe_toInt rfl E1.int (pv 3)) pe_int))
    (pss_cons (ps_for PassesOwn.never rfl (pi_range1 rfl E1.range (pa_cons (pv 1) pa_nil)) (pg_name (i := 4) scRow.nd rfl (Or.inl rfl))
      (pss_cons (ps_set (i := 5) scRow.nd rfl (Or.inl rfl) (pe_op op_mod (pe_toInt rfl E1.int (pe_op op_add (pe_op op_add (pe_op op_mul (pv 5) pe_int) (pe_op op_mul pe_int (pv 4))) pe_int)) pe_int))
      (pss_one (ps_expr (pe_bm PySem.F.plainAttrs_list PySem.F.slot_list_append PySem.F.type_list_append mt_append (pv 2)
        (pa_cons (pe_op op_mod (pe_op op_fdiv (pe_op op_mod (pe_toInt rfl E1.int (pe_op op_mul (pv 5) (pe_op op_add (pe_op op_fdiv (pv 5) pe_int) pe_int))) pe_int) pe_int) pe_int) pa_nil))))))
    (pss_one (ps_ret (pv 2))))))), ?_⟩
  refine ⟨Nat.zero_le _, fun p hp => ?_⟩
  have s0 := same_new hp (HO.lst [])
  refine ⟨_, rfl, .inl ⟨_, rfl, ?_⟩⟩
  refine ⟨_, rfl, _, _, rfl, rfl, ⟨by decide, by decide, by decide⟩, _, _, rfl, rfl, _, rfl, ?_⟩
  refine ite2 (fun _ => ?_) (fun _ => ?_)
  · refine ⟨_, rfl, _, _, rfl, rfl, ⟨by decide, by decide, by decide⟩, _, _, rfl, rfl, ?_⟩
    refine ⟨_, rfl, m, rfl, by omega, by omega, for_range (lo := 0) (n := m) (fun i σ H2 => ∃ (r : Int) (v : Option V) (zs : List Int), σ = [some (.int c), some (.int (m : Int)), some (.ref p), some (.int r), v, none] ∧ Same H H2 ∧ H2 p = some (.lst (zs.map V.int)) ∧ zs.length = i ∧ Digs zs)
      ⟨_, none, [], rfl, s0, upd_same, rfl, fun _ h => nomatch h⟩ ?_ ?_⟩
    · rintro i σ H2 hi ⟨r, v, zs, rfl, s2, hz, hl, hd⟩
      refine ⟨_, rfl, .inl ⟨rfl, _, SqL.of hz⟩, _, rfl, .inl ⟨_, rfl, _, _, rfl, rfl, (by show (0 : Int) < 60; decide), p, _, _, rfl, rfl, hz, small1000 (by rw [List.length_map]; omega), ?_⟩⟩
      refine ⟨_, rfl, .inl ⟨_, rfl, _, _, rfl, rfl, ⟨by decide, by decide⟩, ?_⟩⟩
      refine ⟨_, _, zs ++ [r % 60], rfl, same_upd s2 hp _, ?_, ?_, ?_⟩
      · rw [← map_snoc]
        exact upd_same
      · rw [List.length_append, hl]
        rfl
      · exact digs_snoc hd (Int.emod_nonneg _ (by decide)) (Int.emod_lt_of_pos _ (by decide))
    · rintro σ H2 ⟨r, v, zs, rfl, s2, hz, hl, hd⟩
      exact ⟨_, rfl, q _ _ zs s2 hp hz hl hd⟩
  · refine ⟨_, rfl, .inl ⟨_, rfl, _, _, rfl, rfl, (by show (0 : Int) < 2147483629; decide), ?_⟩⟩
    refine ⟨_, rfl, m, rfl, by omega, by omega, for_range (lo := 0) (n := m) (fun i σ H2 => ∃ (r x : Int) (v : Option V), σ = [some (.int c), some (.int (m : Int)), some (.ref p), some (.int r), v, some (.int x)] ∧ 0 ≤ x ∧ x < 2147483647 ∧ RowTo H H2 p i)
      ⟨_, _, none, rfl, Int.emod_nonneg _ (by decide), Int.lt_trans (Int.emod_lt_of_pos _ (by decide)) (by decide), s0, [], upd_same, rfl, fun _ h => nomatch h⟩ ?_ ?_⟩
    · rintro i σ H2 hi ⟨r, x, v, rfl, x0, x1, s2, zs, hz, hl, hd⟩
      refine ⟨_, rfl, _, _, rfl, rfl, .inr ⟨by decide, by decide⟩, _, rfl, _, _, rfl, rfl, .inl ⟨by decide, by decide⟩, _, _, rfl, rfl, _, _, rfl, rfl, .inl ⟨_, rfl, _, _, rfl, rfl, (by show (0 : Int) < 2147483647; decide), ?_⟩⟩
      refine ⟨_, rfl, .inl ⟨rfl, _, SqL.of hz⟩, _, rfl, _, rfl, _, _, rfl, rfl, ⟨by decide, by decide⟩, _, _, rfl, rfl, _, _, rfl, rfl, .inl ⟨by omega, by omega⟩, .inl ⟨_, rfl, _, _, rfl, rfl, (by show (0 : Int) < 2147483629; decide), _, _, rfl, rfl, ⟨by decide, by decide⟩, _, _, rfl, rfl, (by show (0 : Int) < 60; decide), ?_⟩⟩
      refine ⟨p, _, _, rfl, rfl, hz, small1000 (by rw [List.length_map]; omega), ?_⟩
      exact ⟨_, _, _, rfl, Int.emod_nonneg _ (by decide), Int.emod_lt_of_pos _ (by decide), rowTo_next s2 hp hl hd (Int.emod_nonneg _ (by decide)) (Int.emod_lt_of_pos _ (by decide))⟩
    · rintro σ H2 ⟨r, x, v, rfl, x0, x1, s2, zs, hz, hl, hd⟩
      exact ⟨_, rfl, q _ _ zs s2 hp hz hl hd⟩
/-! ### the next digit -/
abbrev sTake : Stmt := top 53
/-- a row at r, its place k at a -/
structure Rw (H : Hp) (r a : Addr) (k : Nat) : Prop where
  row : ∃ zs : List Int, H r = some (.lst (zs.map V.int)) ∧ Digs zs ∧ 0 < zs.length ∧ zs.length ≤ 400
  at_ : H a = some (.lst [.int (k : Int)])
  ne : r ≠ a
theorem but_refl {a : Addr} {H : Hp} : SameBut a H H := fun _ _ e _ => e
theorem but_trans {a : Addr} {H H1 H2 : Hp} (x : SameBut a H H1) (y : SameBut a H1 H2) : SameBut a H H2 := fun b o e n => y b o (x b o e n) n
theorem but_same {a : Addr} {H H1 : Hp} (x : Same H H1) : SameBut a H H1 := fun b o e _ => x b o e
theorem but_put {a : Addr} {H : Hp} {o : HO} : SameBut a H (upd H a o) := fun b u e n => by rw [upd_ne n]; exact e
theorem but_new {a p : Addr} {H : Hp} {o : HO} (h : H p = none) : SameBut a H (upd H p o) := but_same (same_new h o)
def spTake : Sp := fun vs H Q _ => ∃ (r a : Addr) (k m : Nat), vs = [.ref r, .ref a, .int (m : Int)] ∧ Rw H r a k ∧ 0 < m ∧ k ≤ 100000 ∧ ∀ (j : Nat) (H' : Hp), j < m → SameBut a H H' → Rw H' r a (k + 1) → Q (.int (j : Int)) H'
theorem scTake : FnScope ["_law_row_here", "_law_at", "_law_many"] ["_law_row_here", "_law_at", "_law_many"] (defScope sTake) := ⟨rfl, rfl, rfl, by decide +kernel, rfl, by decide +kernel, by decide +kernel⟩
theorem Rw.next {H : Hp} {r a : Addr} {k j : Nat} (h : Rw H r a k) : Rw (upd H a (.lst [.int (j : Int)])) r a j := by
  obtain ⟨⟨zs, h1, h2⟩, _, h3⟩ := h
  exact ⟨⟨zs, by rw [upd_ne h3]; exact h1, h2⟩, upd_same, h3⟩
theorem nat_of_mod {i : Int} {m : Nat} (h : 0 < m) : ∃ j : Nat, i % (m : Int) = (j : Int) ∧ j < m := by
  have h0 : 0 ≤ i % (m : Int) := Int.emod_nonneg i (by omega)
  have h1 : i % (m : Int) < (m : Int) := Int.emod_lt_of_pos i (by omega)
  exact ⟨(i % (m : Int)).toNat, by omega, by omega⟩
theorem cal_take (E1 : Env1 K mg) (D : Def K mg "_law_take" sTake) : Cal P w K mg base CX0 1 "_law_take" spTake := by
  refine cal_mk D scTake (fun _ _ _ _ _ _ us hl => match us, hl with | [_, _, _], _ => rfl) (fun vs H Q E h => ?_) (fun f cdv A outer s H vs Q E hr h => ?_)
  · obtain ⟨r, a, k, m, rfl, _⟩ := h
    rfl
  obtain ⟨r, a, k, m, rfl, hw, hm, hk, q⟩ := h
  obtain ⟨⟨zs, h1, hd, hz, hz4⟩, h2, h3⟩ := id hw
  refine ⟨_, pss_cons (ps_asg (pe_op op_add (pe_ix ix_list (pv 1) pe_int (fun _ _ => rfl)) pe_int) (pg_sub (pv 1) pe_int set_list))
    (pss_one (ps_ret (pe_op op_mod (pe_callTy call_int1 rfl E1.int (by decide +kernel) (pa_cons (pe_op op_add (pe_ix ix_list (pv 0) (pe_op op_mod (pe_op op_sub (pe_ix ix_list (pv 1) pe_int (fun _ _ => rfl)) pe_int) (pe_callB call_len_seq rfl E1.len boot_len (pa_cons (pv 0) pa_nil))) (fun _ _ => rfl))
      (pe_op op_mul (pe_op op_fdiv (pe_op op_sub (pe_ix ix_list (pv 1) pe_int (fun _ _ => rfl)) pe_int) (pe_callB call_len_seq rfl E1.len boot_len (pa_cons (pv 0) pa_nil))) pe_int)) pa_nil)) (pv 2)))), ?_⟩
  refine ⟨_, rfl, a, _, _, _, rfl, rfl, SqL.of h2, rfl, _, _, rfl, rfl, _, rfl, a, _, _, 0, rfl, rfl, h2, rfl, ?_⟩
  have g2 : upd H a (.lst [.int ((k + 1 : Nat) : Int)]) a = some (.lst [.int ((k + 1 : Nat) : Int)]) := upd_same
  have g1 : upd H a (.lst [.int ((k + 1 : Nat) : Int)]) r = some (.lst (zs.map V.int)) := by rw [upd_ne h3]; exact h1
  have el : ((zs.map V.int).length : Int) = (zs.length : Int) := by rw [List.length_map]
  show ∃ v, _
  obtain ⟨j, ej, hj⟩ := nat_of_mod (i := ((k + 1 : Nat) : Int) - 1) hz
  have gj : atI (zs.map V.int) ((((k + 1 : Nat) : Int) - 1) % ((zs.map V.int).length : Int)) = some (V.int zs[j]) := by
    rw [el, ej]
    exact atI_nat (by rw [List.getElem?_map, List.getElem?_eq_getElem hj]; rfl)
  obtain ⟨d0, d1⟩ := hd _ (List.getElem_mem hj)
  refine ⟨_, rfl, _, rfl, a, _, _, _, rfl, rfl, SqL.of g2, rfl, _, _, rfl, rfl, _, rfl, r, _, rfl, .inl (SqL.of g1), _, _, rfl, rfl, (by rw [el]; omega), r, _, _, _, rfl, rfl, SqL.of g1, gj, ?_⟩
  refine ⟨_, rfl, a, _, _, _, rfl, rfl, SqL.of g2, rfl, _, _, rfl, rfl, _, rfl, r, _, rfl, .inl (SqL.of g1), _, _, rfl, rfl, ⟨(by rw [el]; omega), (by rw [el]; omega)⟩, _, _, rfl, rfl, .inr ⟨by decide, by decide⟩, _, _, rfl, rfl, .inl ⟨_, rfl, _, rfl, _, _, rfl, rfl, (by omega), ?_⟩⟩
  obtain ⟨i, ei, hi⟩ := nat_of_mod (i := zs[j] + (((k + 1 : Nat) : Int) - 1) / ((zs.map V.int).length : Int) * 7) hm
  have e := q i _ hi but_put (hw.next (j := k + 1))
  rw [← ei] at e
  exact e
end
end K52

set_option maxRecDepth 100000
set_option maxHeartbeats 4000000
namespace K52
open PySem PySem.Spec PyProof.Rows L2
/-! ### what stays while the place of a row goes on -/
theorem Rw.keep {H H' : Hp} {r a : Addr} {k : Nat} (h : Rw H r a k) (s : SameBut a H H') : Keep H H' := fun b xs e => s b _ e fun z => by rw [z, h.at_] at e; cases e
theorem Rw.same {H H' : Hp} {r a : Addr} {k : Nat} (h : Rw H r a k) (s : Same H H') : Rw H' r a k := by
  obtain ⟨⟨zs, h1, h2⟩, h3, h4⟩ := h
  exact ⟨⟨zs, s _ _ h1, h2⟩, s _ _ h3, h4⟩
theorem Rw.new {H : Hp} {r a p : Addr} {k : Nat} {o : HO} (h : Rw H r a k) (n : H p = none) : Rw (upd H p o) r a k := h.same (same_new n o)
/-- an atom stands at v -/
def AtomV (H : Hp) (v : V) : Prop := ∃ t, Atom t ∧ t.Good ∧ At H t v
def Atoms (H : Hp) (vs : List V) : Prop := ∀ v ∈ vs, AtomV H v
theorem AtomV.keep {H H' : Hp} {v : V} (h : AtomV H v) (k : Keep H H') : AtomV H' v := by
  obtain ⟨t, h1, h2, h3⟩ := h
  exact ⟨t, h1, h2, h3.keep k⟩
theorem Atoms.keep {H H' : Hp} {vs : List V} (h : Atoms H vs) (k : Keep H H') : Atoms H' vs := fun v hv => (h v hv).keep k
theorem Atoms.snoc {H : Hp} {vs : List V} {v : V} (h : Atoms H vs) (x : AtomV H v) : Atoms H (vs ++ [v]) := fun y hy => by
  rcases List.mem_append.mp hy with g | g
  · exact h y g
  · rw [List.mem_singleton.mp g]
    exact x
theorem Atoms.app {H : Hp} {vs us : List V} (h : Atoms H vs) (x : Atoms H us) : Atoms H (vs ++ us) := fun y hy => by
  rcases List.mem_append.mp hy with g | g
  · exact h y g
  · exact x y g
theorem atoms_nil {H : Hp} : Atoms H [] := fun _ h => nomatch h
/-- ("rel", nm, (..)), both tuples new -/
theorem atom_rel {H : Hp} {p p2 : Addr} {nm : Str} {zs : List Str} (hp : H p = none) (hp2 : (upd H p (.tup (zs.map V.str))) p2 = none) (hn : nm ∈ rels) (hl : zs.length = ar nm) (hz : ∀ z ∈ zs, z ∈ menu) :
    AtomV (upd (upd H p (.tup (zs.map V.str))) p2 (.tup [.str "rel", .str nm, .ref p])) (.ref p2) := by
  refine ⟨.rel nm zs, .rel _ _, ⟨hn, hl, hz⟩, ?_⟩
  have k1 : upd (upd H p (.tup (zs.map V.str))) p2 (.tup [.str "rel", .str nm, .ref p]) p = some (.tup (zs.map V.str)) := same_new hp2 _ _ _ upd_same
  exact Td.tup upd_same (.cons (.str _) (.cons (.str _) (.cons (Td.tup k1 (td_strs zs)) .nil)))
theorem atom_atm {H : Hp} {p : Addr} {wd : Str} {zs : List Str} (hg : (Tr.atm wd zs).Good) : AtomV (upd H p (.tup (.str wd :: zs.map V.str))) (.ref p) :=
  ⟨.atm wd zs, .atm _ _, hg, Td.tup upd_same (.cons (.str _) (td_strs zs))⟩
theorem menu_at {j : Nat} (h : j < 14) : ∃ z, z ∈ menu ∧ atI (menu.map V.str) (j : Int) = some (.str z) := by
  have hj : j < menu.length := h
  exact ⟨menu[j], List.getElem_mem hj, atI_nat (by rw [List.getElem?_map, List.getElem?_eq_getElem hj]; rfl)⟩
theorem one_in {α : Type} {l : List α} {x : α} (h : x ∈ l) : ∀ z ∈ [x], z ∈ l := fun z hz => by
  rw [List.mem_singleton.mp hz]
  exact h
theorem two_in {α : Type} {l : List α} {x y : α} (h : x ∈ l) (g : y ∈ l) : ∀ z ∈ [x, y], z ∈ l := fun z hz => by
  rcases List.mem_cons.mp hz with e | hz
  · rw [e]
    exact h
  · exact one_in g z hz
theorem three_in {α : Type} {l : List α} {x y u : α} (h : x ∈ l) (g : y ∈ l) (k : u ∈ l) : ∀ z ∈ [x, y, u], z ∈ l := fun z hz => by
  rcases List.mem_cons.mp hz with e | hz
  · rw [e]
    exact h
  · exact two_in g k z hz
theorem atoms_at {H : Hp} {vs : List V} {j : Nat} (h : Atoms H vs) (hj : j < vs.length) : ∃ v, atI vs (j : Int) = some v ∧ AtomV H v :=
  ⟨vs[j], atI_nat (List.getElem?_eq_getElem hj), h _ (List.getElem_mem hj)⟩
section
variable {P : Program} {w : World} {K : PySem.W.Frag} {mg : Str → Option Value} {base : Heap}
abbrev sAtom : Stmt := top 54
def spAtom : Sp := fun vs H Q _ => ∃ (r a nn sc : Addr) (k : Nat), vs = [.ref r, .ref a, .ref nn, .ref sc] ∧ Rw H r a k ∧ k ≤ 90000 ∧ H nn = some (.lst (rels.map V.str)) ∧ H sc = some (.lst (menu.map V.str)) ∧
  ∀ (H' : Hp) (v : V), SameBut a H H' → Rw H' r a (k + 4) → AtomV H' v → Q v H'
theorem scAtom : FnScope ["_law_row_here", "_law_at", "_law_names", "_law_scope", "_law_one", "_law_two", "_law_menu"] ["_law_row_here", "_law_at", "_law_names", "_law_scope"] (defScope sAtom) := ⟨rfl, rfl, rfl, by decide +kernel, rfl, by decide +kernel, by decide +kernel⟩
theorem three_line : 3 ≤ sizeLine := by decide
theorem one_line : 1 ≤ sizeLine := by decide
theorem cal_atom (E1 : Env1 K mg) (D : Def K mg "_law_atom" sAtom) (ct : Cal P w K mg base CX0 1 "_law_take" spTake) : Cal P w K mg base CX0 2 "_law_atom" spAtom := by
  refine cal_mk D scAtom (fun _ _ _ _ _ _ us hl => match us, hl with | [_, _, _, _], _ => rfl) (fun vs H Q E h => ?_) (fun f cdv A outer s H vs Q E hr h => ?_)
  · obtain ⟨r, a, nn, sc, k, rfl, _⟩ := h
    rfl
  obtain ⟨r, a, nn, sc, k, rfl, hw, hk, hn, hs, q⟩ := h
  refine ⟨_, pss_cons (ps_set (i := 4) scAtom.nd rfl (Or.inl rfl) (pe_ix ix_list (pv 3) (pe_c ct hr (by decide) (pa_cons (pv 0) (pa_cons (pv 1) (pa_cons (pe_callB call_len_seq rfl E1.len boot_len (pa_cons (pv 3) pa_nil)) pa_nil)))) (fun _ _ => rfl)))
    (pss_cons (ps_set (i := 5) scAtom.nd rfl (Or.inl rfl) (pe_ix ix_list (pv 3) (pe_c ct hr (by decide) (pa_cons (pv 0) (pa_cons (pv 1) (pa_cons (pe_callB call_len_seq rfl E1.len boot_len (pa_cons (pv 3) pa_nil)) pa_nil)))) (fun _ _ => rfl)))
    (pss_cons (ps_set (i := 6) scAtom.nd rfl (Or.inl rfl) (pe_lst
      (pa_cons (pe_tup (pa_cons pe_str (pa_cons (pe_ix ix_list (pv 2) pe_int (fun _ _ => rfl)) (pa_cons (pe_tup (pa_cons (pv 4) (pa_cons (pv 5) pa_nil))) pa_nil))))
      (pa_cons (pe_tup (pa_cons pe_str (pa_cons (pe_ix ix_list (pv 2) pe_int (fun _ _ => rfl)) (pa_cons (pe_tup (pa_cons (pv 5) (pa_cons (pv 4) pa_nil))) pa_nil))))
      (pa_cons (pe_tup (pa_cons pe_str (pa_cons (pe_ix ix_list (pv 2) pe_int (fun _ _ => rfl)) (pa_cons (pe_tup (pa_cons (pv 4) (pa_cons (pv 5) pa_nil))) pa_nil))))
      (pa_cons (pe_tup (pa_cons pe_str (pa_cons (pe_ix ix_list (pv 2) pe_int (fun _ _ => rfl)) (pa_cons (pe_tup (pa_cons (pv 4) pa_nil)) pa_nil)))) pa_nil))))))
    (pss_cons (ps_set (i := 6) scAtom.nd rfl (Or.inl rfl) (pe_op op_cat (pv 6) (pe_lst
      (pa_cons (pe_tup (pa_cons pe_str (pa_cons (pe_ix ix_list (pv 2) pe_int (fun _ _ => rfl)) (pa_cons (pe_tup (pa_cons (pv 5) (pa_cons (pv 4) (pa_cons
          (pe_ix ix_list (pv 3) (pe_c ct hr (by decide) (pa_cons (pv 0) (pa_cons (pv 1) (pa_cons (pe_callB call_len_seq rfl E1.len boot_len (pa_cons (pv 3) pa_nil)) pa_nil)))) (fun _ _ => rfl)) pa_nil)))) pa_nil))))
      (pa_cons (pe_tup (pa_cons pe_str (pa_cons (pv 4) (pa_cons (pv 5) pa_nil))))
      (pa_cons (pe_tup (pa_cons pe_str (pa_cons (pv 4) (pa_cons (pv 5) pa_nil)))) pa_nil))))))
    (pss_one (ps_ret (pe_ix ix_list (pe_op op_cat (pv 6) (pe_lst
      (pa_cons (pe_tup (pa_cons pe_str (pa_cons (pv 4) (pa_cons (pv 5) pa_nil))))
      (pa_cons (pe_tup (pa_cons pe_str (pa_cons (pv 4) pa_nil)))
      (pa_cons (pe_tup (pa_cons pe_str (pa_cons (pv 4) pa_nil))) pa_nil)))))
      (pe_c ct hr (by decide) (pa_cons (pv 0) (pa_cons (pv 1) (pa_cons pe_int pa_nil)))) (fun _ _ => rfl))))))), ?_⟩
  have na : nn ≠ a := ne_of hn hw.at_ (by intro z; cases z)
  have sa : sc ≠ a := ne_of hs hw.at_ (by intro z; cases z)
  -- one
  refine ⟨_, rfl, _, rfl, _, rfl, _, rfl, sc, _, rfl, .inl (SqL.of hs), r, a, k, 14, rfl, hw, by decide, by omega, fun j1 H1 hj1 e1 w1 => ?_⟩
  obtain ⟨x, hx, ex⟩ := menu_at hj1
  have s1 := e1 _ _ hs sa
  refine ⟨sc, _, _, _, rfl, rfl, SqL.of s1, ex, ?_⟩
  -- two
  refine ⟨_, rfl, _, rfl, _, rfl, _, rfl, sc, _, rfl, .inl (SqL.of s1), r, a, k + 1, 14, rfl, w1, by decide, by omega, fun j2 H2 hj2 e12 w2 => ?_⟩
  obtain ⟨y, hy, ey⟩ := menu_at hj2
  have e2 := but_trans e1 e12
  have s2 := e2 _ _ hs sa
  have n2 := e2 _ _ hn na
  refine ⟨sc, _, _, _, rfl, rfl, SqL.of s2, ey, ?_⟩
  have mxy := two_in hx hy
  have myx := two_in hy hx
  have mx1 := one_in hx
  -- the first four
  refine ⟨_, rfl, nn, _, _, _, rfl, rfl, SqL.of n2, rfl, _, rfl, _, rfl, two_line, fun p1 h1 => ⟨three_line, fun p2 h2 => ?_⟩⟩
  have A1 := (atoms_nil (H := upd (upd H2 p1 _) p2 _)).snoc (atom_rel (nm := "edge") (zs := [x, y]) h1 h2 (by decide +kernel) rfl mxy)
  have n3 := same_new h2 (.tup [.str "rel", .str "edge", .ref p1]) _ _ (same_new h1 (.tup [.str x, .str y]) _ _ n2)
  refine ⟨_, rfl, nn, _, _, _, rfl, rfl, SqL.of n3, rfl, _, rfl, _, rfl, two_line, fun p3 h3 => ⟨three_line, fun p4 h4 => ?_⟩⟩
  have A2 := (A1.keep ((keep_new h3 _).trans (keep_new h4 _))).snoc (atom_rel (nm := "edge") (zs := [y, x]) h3 h4 (by decide +kernel) rfl myx)
  have n4 := same_new h4 (.tup [.str "rel", .str "edge", .ref p3]) _ _ (same_new h3 (.tup [.str y, .str x]) _ _ n3)
  refine ⟨_, rfl, nn, _, _, _, rfl, rfl, SqL.of n4, rfl, _, rfl, _, rfl, two_line, fun p5 h5 => ⟨three_line, fun p6 h6 => ?_⟩⟩
  have A3 := (A2.keep ((keep_new h5 _).trans (keep_new h6 _))).snoc (atom_rel (nm := "f") (zs := [x, y]) h5 h6 (by decide +kernel) rfl mxy)
  have n5 := same_new h6 (.tup [.str "rel", .str "f", .ref p5]) _ _ (same_new h5 (.tup [.str x, .str y]) _ _ n4)
  refine ⟨_, rfl, nn, _, _, _, rfl, rfl, SqL.of n5, rfl, _, rfl, one_line, fun p7 h7 => ⟨three_line, fun p8 h8 => ?_⟩⟩
  have A4 := (A3.keep ((keep_new h7 _).trans (keep_new h8 _))).snoc (atom_rel (nm := "mark2") (zs := [x]) h7 h8 (by decide +kernel) rfl mx1)
  have n6 := same_new h8 (.tup [.str "rel", .str "mark2", .ref p7]) _ _ (same_new h7 (.tup [.str x]) _ _ n5)
  refine ⟨(by decide : 4 ≤ sizeLine), fun m hm => ?_⟩
  have S : Same H2 _ := ((((((((same_new h1 _).trans (same_new h2 _)).trans (same_new h3 _)).trans (same_new h4 _)).trans (same_new h5 _)).trans (same_new h6 _)).trans (same_new h7 _)).trans (same_new h8 _)).trans (same_new hm (.lst [.ref p2, .ref p4, .ref p6, .ref p8]))
  have A5 := A4.keep (keep_new hm (.lst [.ref p2, .ref p4, .ref p6, .ref p8]))
  have g5 := upd_same (H := upd (upd (upd (upd (upd (upd (upd (upd H2 p1 (.tup [.str x, .str y])) p2 (.tup [.str "rel", .str "edge", .ref p1])) p3 (.tup [.str y, .str x])) p4 (.tup [.str "rel", .str "edge", .ref p3])) p5 (.tup [.str x, .str y])) p6 (.tup [.str "rel", .str "f", .ref p5])) p7 (.tup [.str x])) p8 (.tup [.str "rel", .str "mark2", .ref p7])) (a := m) (o := .lst [.ref p2, .ref p4, .ref p6, .ref p8])
  have n5 := same_new hm (.lst [.ref p2, .ref p4, .ref p6, .ref p8]) _ _ n6
  have w5 := w2.same S
  have s5 := S _ _ s2
  have e5 := but_trans e2 (but_same S)
  have ma : m ≠ a := fun z => by
    have := S _ _ w2.at_
    rw [← z, g5] at this
    cases this
  revert A5 g5 n5 w5 s5 e5
  generalize upd _ m _ = H5
  intro A5 g5 n5 w5 s5 e5
  -- three more
  refine ⟨_, rfl, _, rfl, nn, _, _, _, rfl, rfl, SqL.of n5, rfl, _, rfl, _, rfl, _, rfl, _, rfl, _, rfl, _, rfl, sc, _, rfl, .inl (SqL.of s5), r, a, k + 1 + 1, 14, rfl, w5, by decide, by omega, fun j3 H6 hj3 e56 w6 => ?_⟩
  obtain ⟨u, hu, eu⟩ := menu_at hj3
  have e6 := but_trans e5 e56
  have s6 := e6 _ _ hs sa
  have A6 := A5.keep (w5.keep e56)
  have g6 := e56 _ _ g5 ma
  refine ⟨sc, _, _, _, rfl, rfl, SqL.of s6, eu, three_line, fun q1 i1 => ⟨three_line, fun q2 i2 => ?_⟩⟩
  have B1 := (atoms_nil (H := upd (upd H6 q1 _) q2 _)).snoc (atom_rel (nm := "tri") (zs := [y, x, u]) i1 i2 (by decide +kernel) rfl (three_in hy hx hu))
  refine ⟨_, rfl, _, rfl, three_line, fun q3 i3 => ?_⟩
  have B2 := (B1.keep (keep_new i3 _)).snoc (atom_atm (p := q3) (wd := "same") (zs := [x, y]) ⟨.inl ⟨by decide +kernel, rfl⟩, mxy⟩)
  refine ⟨_, rfl, _, rfl, three_line, fun q4 i4 => ?_⟩
  have B3 := (B2.keep (keep_new i4 _)).snoc (atom_atm (p := q4) (wd := "before") (zs := [x, y]) ⟨.inl ⟨by decide +kernel, rfl⟩, mxy⟩)
  refine ⟨three_line, fun q5 i5 => ?_⟩
  have S7 : Same H6 _ := ((((same_new i1 (.tup [.str y, .str x, .str u])).trans (same_new i2 (.tup [.str "rel", .str "tri", .ref q1]))).trans (same_new i3 (.tup [.str "same", .str x, .str y]))).trans (same_new i4 (.tup [.str "before", .str x, .str y]))).trans (same_new i5 (.lst [.ref q2, .ref q3, .ref q4]))
  have g7 := S7 _ _ g6
  refine ⟨m, q5, _, _, rfl, rfl, g7, upd_same, (by decide : 7 ≤ sizeLine), fun m2 hm2 => ?_⟩
  have A8 := (A6.keep (keep_of S7)).app (B3.keep (keep_new i5 (.lst [.ref q2, .ref q3, .ref q4])))
  have A9 := A8.keep (keep_new hm2 (.lst ([.ref p2, .ref p4, .ref p6, .ref p8] ++ [.ref q2, .ref q3, .ref q4])))
  have S9 : Same H6 _ := S7.trans (same_new hm2 (.lst ([.ref p2, .ref p4, .ref p6, .ref p8] ++ [.ref q2, .ref q3, .ref q4])))
  have w9 := w6.same S9
  have e9 := but_trans e6 (but_same S9)
  have g9 : upd _ m2 (.lst ([.ref p2, .ref p4, .ref p6, .ref p8] ++ [.ref q2, .ref q3, .ref q4])) m2 = _ := upd_same (H := upd (upd (upd (upd (upd H6 q1 (.tup [.str y, .str x, .str u])) q2 (.tup [.str "rel", .str "tri", .ref q1])) q3 (.tup [.str "same", .str x, .str y])) q4 (.tup [.str "before", .str x, .str y])) q5 (.lst [.ref q2, .ref q3, .ref q4]))
  revert A9 g9 w9 e9
  generalize upd _ m2 _ = H9
  intro A9 w9 e9 g9
  -- the last three
  refine ⟨_, rfl, _, rfl, _, rfl, three_line, fun r1 l1 => ?_⟩
  have C1 := (atoms_nil (H := upd H9 r1 _)).snoc (atom_atm (p := r1) (wd := "next") (zs := [x, y]) ⟨.inl ⟨by decide +kernel, rfl⟩, mxy⟩)
  refine ⟨_, rfl, two_line, fun r2 l2 => ?_⟩
  have C2 := (C1.keep (keep_new l2 _)).snoc (atom_atm (p := r2) (wd := "first") (zs := [x]) ⟨.inr ⟨by decide +kernel, rfl⟩, mx1⟩)
  refine ⟨_, rfl, two_line, fun r3 l3 => ?_⟩
  have C3 := (C2.keep (keep_new l3 _)).snoc (atom_atm (p := r3) (wd := "last") (zs := [x]) ⟨.inr ⟨by decide +kernel, rfl⟩, mx1⟩)
  refine ⟨three_line, fun r4 l4 => ?_⟩
  have S10 : Same H9 _ := (((same_new l1 (.tup [.str "next", .str x, .str y])).trans (same_new l2 (.tup [.str "first", .str x]))).trans (same_new l3 (.tup [.str "last", .str x]))).trans (same_new l4 (.lst [.ref r1, .ref r2, .ref r3]))
  have g10 := S10 _ _ g9
  refine ⟨m2, r4, _, _, rfl, rfl, g10, upd_same, (by decide : 10 ≤ sizeLine), fun m3 hm3 => ?_⟩
  have A10 := (A9.keep (keep_of S10)).app (C3.keep (keep_new l4 (.lst [.ref r1, .ref r2, .ref r3])))
  have A11 := A10.keep (keep_new hm3 (.lst (([.ref p2, .ref p4, .ref p6, .ref p8] ++ [.ref q2, .ref q3, .ref q4]) ++ [.ref r1, .ref r2, .ref r3])))
  have S11 : Same H9 _ := S10.trans (same_new hm3 (.lst (([.ref p2, .ref p4, .ref p6, .ref p8] ++ [.ref q2, .ref q3, .ref q4]) ++ [.ref r1, .ref r2, .ref r3])))
  have w11 := w9.same S11
  have e11 := but_trans e9 (but_same S11)
  have m3a : m3 ≠ a := (ne_of_none (S10 _ _ w9.at_) hm3).symm
  refine ⟨_, rfl, _, rfl, r, a, k + 1 + 1 + 1, 10, rfl, w11, by decide, by omega, fun j4 H12 hj4 e12 w12 => ?_⟩
  obtain ⟨v, ev, hv⟩ := atoms_at (A11.keep (w11.keep e12)) (j := j4) hj4
  exact ⟨m3, _, _, _, rfl, rfl, SqL.of (e12 _ _ upd_same m3a), ev, q _ _ (but_trans e11 e12) w12 hv⟩
end
end K52

set_option maxRecDepth 100000
set_option maxHeartbeats 4000000
namespace K52
open PySem PySem.Spec PyProof.Rows L2
/-- one part of a tree with its bound names, told by a list -/
def BdV (H : Hp) (y : V) (u : List Str × Tr) : Prop := ∃ (o bt : Addr) (pv : V), y = .ref o ∧ H o = some (.lst [pv, .ref bt]) ∧ At H u.2 pv ∧ H bt = some (.tup (u.1.map V.str))
def Bds (H : Hp) (ys : List V) (l : List (List Str × Tr)) : Prop := ys.length = l.length ∧ ∀ (i : Nat) (y : V), ys[i]? = some y → ∃ u, l[i]? = some u ∧ BdV H y u
theorem BdV.same {H H' : Hp} {y : V} {u : List Str × Tr} (h : BdV H y u) (s : Same H H') : BdV H' y u := by
  obtain ⟨o, bt, pv, e, h1, h2, h3⟩ := h
  exact ⟨o, bt, pv, e, s _ _ h1, h2.keep (keep_of s), s _ _ h3⟩
theorem Bds.same {H H' : Hp} {ys : List V} {l : List (List Str × Tr)} (h : Bds H ys l) (s : Same H H') : Bds H' ys l := ⟨h.1, fun i y e => by
  obtain ⟨u, e2, h2⟩ := h.2 i y e
  exact ⟨u, e2, h2.same s⟩⟩
theorem bds_nil {H : Hp} : Bds H [] [] := ⟨rfl, fun i y e => by simp at e⟩
theorem bds_one {H : Hp} {y : V} {u : List Str × Tr} (h : BdV H y u) : Bds H [y] [u] := ⟨rfl, fun i z e => by
  match i, e with
  | 0, e => exact ⟨u, rfl, Option.some.inj e ▸ h⟩⟩
theorem bds_two {H : Hp} {y z : V} {u v : List Str × Tr} (h : BdV H y u) (g : BdV H z v) : Bds H [y, z] [u, v] := ⟨rfl, fun i x e => by
  match i, e with
  | 0, e => exact ⟨u, rfl, Option.some.inj e ▸ h⟩
  | 1, e => exact ⟨v, rfl, Option.some.inj e ▸ g⟩⟩
/-- word == x or word == y -/
theorem eq2_yes {i : Nat} {x y wd : Str} {σ : L2.St} {H : Hp} {Q : Bool → Hp → Prop} (hσ : σ[i]? = some (some (.str wd))) (h : wd ∈ ([x, y] : List Str)) (q : Q true H) :
    tOr (tTest (tOp rEq (tVar i) (tC (.str x)))) (tTest (tOp rEq (tVar i) (tC (.str y)))) σ H Q := by
  by_cases e : wd = x
  · exact ⟨_, hσ, rfl, true, bl_eq (congrArg V.str e), q⟩
  · have e2 : wd = y := by
      simp only [List.mem_cons, List.not_mem_nil, or_false] at h
      exact h.resolve_left e
    exact ⟨_, hσ, rfl, false, bl_ne (str_ne e), _, hσ, rfl, true, bl_eq (congrArg V.str e2), q⟩
theorem eq2_no {i : Nat} {x y wd : Str} {σ : L2.St} {H : Hp} {Q : Bool → Hp → Prop} (hσ : σ[i]? = some (some (.str wd))) (h : wd ∉ ([x, y] : List Str)) (q : Q false H) :
    tOr (tTest (tOp rEq (tVar i) (tC (.str x)))) (tTest (tOp rEq (tVar i) (tC (.str y)))) σ H Q := by
  simp only [List.mem_cons, List.not_mem_nil, or_false, not_or] at h
  exact ⟨_, hσ, rfl, false, bl_ne (str_ne h.1), _, hσ, rfl, false, bl_ne (str_ne h.2), q⟩
theorem atm_words {wd : Str} {vs : List Str} (hg : (Tr.atm wd vs).Good) : wd ≠ "not" ∧ wd ∉ (["and", "or"] : List Str) ∧ wd ∉ (["some", "every"] : List Str) ∧ wd ≠ "more" ∧ wd ≠ "walk" ∧ wd ≠ "rel" ∧ wd ∈ (["same", "before", "next", "first", "last"] : List Str) := by
  rcases hg.1 with ⟨g1, _⟩ | ⟨g1, _⟩
  · simp only [List.mem_cons, List.not_mem_nil, or_false] at g1
    rcases g1 with rfl | rfl | rfl <;> decide +kernel
  · simp only [List.mem_cons, List.not_mem_nil, or_false] at g1
    rcases g1 with rfl | rfl <;> decide +kernel
theorem bin_words {wd : Str} (gw : wd ∈ (["and", "or"] : List Str)) : wd ≠ "not" ∧ wd ≠ "rel" ∧ wd ≠ "walk" ∧ wd ∉ (["same", "before", "next", "first", "last"] : List Str) := by
  simp only [List.mem_cons, List.not_mem_nil, or_false] at gw
  rcases gw with rfl | rfl <;> decide +kernel
theorem qu_words {wd : Str} (gw : wd ∈ (["some", "every"] : List Str)) : wd ≠ "not" ∧ wd ∉ (["and", "or"] : List Str) ∧ wd ≠ "rel" ∧ wd ≠ "walk" ∧ wd ∉ (["same", "before", "next", "first", "last"] : List Str) := by
  simp only [List.mem_cons, List.not_mem_nil, or_false] at gw
  rcases gw with rfl | rfl <;> decide +kernel
section
variable {P : Program} {w : World} {K : PySem.W.Frag} {mg : Str → Option Value} {base : Heap}
abbrev sBound : Stmt := top 55
def spBound : Sp := fun vs H Q _ => ∃ (v : V) (t : Tr), vs = [v] ∧ At H t v ∧ t.Good ∧ ∀ (H' : Hp) (p : Addr) (ys : List V), Same H H' → H p = none → H' p = some (.lst ys) → Bds H' ys t.sub → Q (.ref p) H'
theorem scBound : FnScope ["_law_tree", "_law_word"] ["_law_tree"] (defScope sBound) := ⟨rfl, rfl, rfl, by decide +kernel, rfl, by decide +kernel, by decide +kernel⟩
theorem cal_bound (E1 : Env1 K mg) (D : Def K mg "_law_bound" sBound) : Cal P w K mg base CX0 1 "_law_bound" spBound := by
  refine cal_mk D scBound (fun _ _ _ _ _ _ us hl => match us, hl with | [_], _ => rfl) (fun vs H Q E h => ?_) (fun f cdv A outer s H vs Q E hr h => ?_)
  · obtain ⟨v, t, rfl, _⟩ := h
    rfl
  obtain ⟨v, t, rfl, hd, hg, q⟩ := h
  refine ⟨_, pss_cons (ps_set (i := 1) scBound.nd rfl (Or.inl rfl) (pe_ix ix_tup (pv 0) pe_int (fun _ _ => rfl)))
    (pss_cons (ps_if (pt_cmpR op_eq (pv 1) pe_str (nomark _)) (pss_one (ps_ret (pe_lst (pa_cons (pe_lst (pa_cons (pe_ix ix_tup (pv 0) pe_int (fun _ _ => rfl)) (pa_cons (pe_tup pa_nil) pa_nil))) pa_nil)))) pss_nil)
    (pss_cons (ps_if (PW.pt (pw_or (pt_cmpR op_eq (pv 1) pe_str (nomark _)) (pw_or1 (pt_cmpR op_eq (pv 1) pe_str (nomark _))))) (pss_one (ps_ret (pe_lst (pa_cons (pe_lst (pa_cons (pe_ix ix_tup (pv 0) pe_int (fun _ _ => rfl)) (pa_cons (pe_tup pa_nil) pa_nil)))
      (pa_cons (pe_lst (pa_cons (pe_ix ix_tup (pv 0) pe_int (fun _ _ => rfl)) (pa_cons (pe_tup pa_nil) pa_nil))) pa_nil))))) pss_nil)
    (pss_cons (ps_if (PW.pt (pw_or (pt_cmpR op_eq (pv 1) pe_str (nomark _)) (pw_or1 (pt_cmpR op_eq (pv 1) pe_str (nomark _))))) (pss_one (ps_ret (pe_lst (pa_cons (pe_lst (pa_cons (pe_ix ix_tup (pv 0) pe_int (fun _ _ => rfl)) (pa_cons (pe_tup (pa_cons (pe_ix ix_tup (pv 0) pe_int (fun _ _ => rfl)) pa_nil)) pa_nil))) pa_nil)))) pss_nil)
    (pss_cons (ps_if (pt_cmpR op_eq (pv 1) pe_str (nomark _)) (pss_one (ps_ret (pe_lst (pa_cons (pe_lst (pa_cons (pe_ix ix_tup (pv 0) pe_int (fun _ _ => rfl)) (pa_cons (pe_tup (pa_cons (pe_ix ix_tup (pv 0) pe_int (fun _ _ => rfl)) pa_nil)) pa_nil)))
      (pa_cons (pe_lst (pa_cons (pe_ix ix_tup (pv 0) pe_int (fun _ _ => rfl)) (pa_cons (pe_tup (pa_cons (pe_ix ix_tup (pv 0) pe_int (fun _ _ => rfl)) pa_nil)) pa_nil))) pa_nil))))) pss_nil)
    (pss_cons (ps_if (pt_cmpR op_eq (pv 1) pe_str (nomark _)) (pss_one (ps_ret (pe_lst (pa_cons (pe_lst (pa_cons (pe_ix ix_tup (pv 0) pe_int (fun _ _ => rfl)) (pa_cons (pe_op op_catA (pe_callTy call_tuple_of rfl E1.tuple (by decide +kernel) (pa_cons (pe_ix ix_tup (pv 0) pe_int (fun _ _ => rfl)) pa_nil)) (pe_callTy call_tuple_of rfl E1.tuple (by decide +kernel) (pa_cons (pe_ix ix_tup (pv 0) pe_int (fun _ _ => rfl)) pa_nil))) pa_nil))) pa_nil)))) pss_nil)
    (pss_one (ps_ret (pe_lst pa_nil)))))))), ?_⟩
  obtain ⟨a, x, xs, rfl, hS, hxs⟩ := at_seq hd
  refine ⟨_, rfl, a, _, 0, _, rfl, rfl, SqT.of hS, at_hd, ?_⟩
  have z0 : (0 : Nat) ≤ sizeLine := Nat.zero_le _
  have z1 : (1 : Nat) ≤ sizeLine := by decide
  cases t with
  | rel nm vs =>
    obtain ⟨x0, ys0, e0, h0, _⟩ := tds_cons hxs
    cases e0
    obtain rfl := td_str h0
    refine ⟨_, rfl, rfl, false, bl_ne (str_ne (by decide +kernel)), ?_⟩
    refine eq2_no rfl (by decide +kernel) (eq2_no rfl (by decide +kernel) ?_)
    refine ⟨_, rfl, rfl, false, bl_ne (str_ne (by decide +kernel)), ?_⟩
    refine ⟨_, rfl, rfl, false, bl_ne (str_ne (by decide +kernel)), ?_⟩
    exact ⟨z0, fun p hp => q _ _ _ (same_new hp _) hp upd_same bds_nil⟩
  | atm wd vs =>
    obtain ⟨x0, ys0, e0, h0, _⟩ := tds_cons hxs
    cases e0
    obtain rfl := td_str h0
    obtain ⟨w1, w2, w3, w4, w5, _⟩ := atm_words hg
    refine ⟨_, rfl, rfl, false, bl_ne (str_ne w1), ?_⟩
    refine eq2_no rfl w2 (eq2_no rfl w3 ?_)
    refine ⟨_, rfl, rfl, false, bl_ne (str_ne w4), ?_⟩
    refine ⟨_, rfl, rfl, false, bl_ne (str_ne w5), ?_⟩
    exact ⟨z0, fun p hp => q _ _ _ (same_new hp _) hp upd_same bds_nil⟩
  | neg p =>
    obtain ⟨x0, ys0, e0, h0, c0⟩ := tds_cons hxs
    cases e0
    obtain ⟨x1, ys1, rfl, h1, c1⟩ := tds_cons c0
    obtain rfl := tds_nil c1
    obtain rfl := td_str h0
    refine ⟨_, rfl, rfl, true, bl_eq rfl, ?_⟩
    refine ⟨_, rfl, a, _, 1, _, rfl, rfl, SqT.of hS, rfl, z0, fun o1 i1 => ⟨two_line, fun o2 i2 => ⟨z1, fun o3 i3 => ?_⟩⟩⟩
    have t1 := same_new i1 (HO.tup [])
    have t2 := same_new i2 (HO.lst [x1, V.ref o1])
    have t3 := same_new i3 (HO.lst [V.ref o2])
    exact q _ _ _ ((t1.trans t2).trans t3) ((t1.trans t2).free i3) upd_same (bds_one ⟨o2, o1, x1, rfl, t3 _ _ upd_same, h1.keep (keep_of ((t1.trans t2).trans t3)), t3 _ _ (t2 _ _ upd_same)⟩)
  | bin wd p1 p2 =>
    obtain ⟨x0, ys0, e0, h0, c0⟩ := tds_cons hxs
    cases e0
    obtain ⟨x1, ys1, rfl, h1, c1⟩ := tds_cons c0
    obtain ⟨x2, ys2, rfl, h2, c2⟩ := tds_cons c1
    obtain rfl := tds_nil c2
    obtain rfl := td_str h0
    obtain ⟨gw, g1, g2⟩ := hg
    refine ⟨_, rfl, rfl, false, bl_ne (str_ne (bin_words gw).1), ?_⟩
    refine eq2_yes rfl gw ?_
    refine ⟨_, rfl, a, _, 1, _, rfl, rfl, SqT.of hS, rfl, z0, fun o1 i1 => ⟨two_line, fun o2 i2 => ?_⟩⟩
    have t1 := same_new i1 (HO.tup [])
    have t2 := same_new i2 (HO.lst [x1, V.ref o1])
    have s2 := t1.trans t2
    refine ⟨_, rfl, a, _, 2, _, rfl, rfl, SqT.of (s2 _ _ hS), rfl, z0, fun o3 i3 => ⟨two_line, fun o4 i4 => ⟨two_line, fun o5 i5 => ?_⟩⟩⟩
    have t3 := same_new i3 (HO.tup [])
    have t4 := same_new i4 (HO.lst [x2, V.ref o3])
    have t5 := same_new i5 (HO.lst [V.ref o2, V.ref o4])
    have b4 := t4.trans t5
    have b3 := t3.trans b4
    exact q _ _ _ (s2.trans b3) ((s2.trans (t3.trans t4)).free i5) upd_same (bds_two ⟨o2, o1, x1, rfl, b3 _ _ upd_same, h1.keep (keep_of (s2.trans b3)), b3 _ _ (t2 _ _ upd_same)⟩ ⟨o4, o3, x2, rfl, t5 _ _ upd_same, h2.keep (keep_of (s2.trans b3)), b4 _ _ upd_same⟩)
  | qu wd z p =>
    obtain ⟨x0, ys0, e0, h0, c0⟩ := tds_cons hxs
    cases e0
    obtain ⟨x1, ys1, rfl, h1, c1⟩ := tds_cons c0
    obtain ⟨x2, ys2, rfl, h2, c2⟩ := tds_cons c1
    obtain rfl := tds_nil c2
    obtain rfl := td_str h0
    obtain rfl := td_str h1
    obtain ⟨gw, g1, g2⟩ := hg
    obtain ⟨w1, w2, _⟩ := qu_words gw
    refine ⟨_, rfl, rfl, false, bl_ne (str_ne w1), ?_⟩
    refine eq2_no rfl w2 (eq2_yes rfl gw ?_)
    refine ⟨_, rfl, a, _, 2, _, rfl, rfl, SqT.of hS, rfl, _, rfl, a, _, 1, _, rfl, rfl, SqT.of hS, rfl, z1, fun o1 i1 => ⟨two_line, fun o2 i2 => ⟨z1, fun o3 i3 => ?_⟩⟩⟩
    have t1 := same_new i1 (HO.tup [V.str z])
    have t2 := same_new i2 (HO.lst [x2, V.ref o1])
    have t3 := same_new i3 (HO.lst [V.ref o2])
    exact q _ _ _ ((t1.trans t2).trans t3) ((t1.trans t2).free i3) upd_same (bds_one ⟨o2, o1, x2, rfl, t3 _ _ upd_same, h2.keep (keep_of ((t1.trans t2).trans t3)), t3 _ _ (t2 _ _ upd_same)⟩)
  | mo z p1 y p2 =>
    obtain ⟨x0, ys0, e0, h0, c0⟩ := tds_cons hxs
    cases e0
    obtain ⟨x1, ys1, rfl, h1, c1⟩ := tds_cons c0
    obtain ⟨x2, ys2, rfl, h2, c2⟩ := tds_cons c1
    obtain ⟨x3, ys3, rfl, h3, c3⟩ := tds_cons c2
    obtain ⟨x4, ys4, rfl, h4, c4⟩ := tds_cons c3
    obtain rfl := tds_nil c4
    obtain rfl := td_str h0
    obtain rfl := td_str h1
    obtain rfl := td_str h3
    refine ⟨_, rfl, rfl, false, bl_ne (str_ne (by decide +kernel)), ?_⟩
    refine eq2_no rfl (by decide +kernel) (eq2_no rfl (by decide +kernel) ?_)
    refine ⟨_, rfl, rfl, true, bl_eq rfl, ?_⟩
    refine ⟨_, rfl, a, _, 2, _, rfl, rfl, SqT.of hS, rfl, _, rfl, a, _, 1, _, rfl, rfl, SqT.of hS, rfl, z1, fun o1 i1 => ⟨two_line, fun o2 i2 => ?_⟩⟩
    have t1 := same_new i1 (HO.tup [V.str z])
    have t2 := same_new i2 (HO.lst [x2, V.ref o1])
    have s2 := t1.trans t2
    refine ⟨_, rfl, a, _, 4, _, rfl, rfl, SqT.of (s2 _ _ hS), rfl, _, rfl, a, _, 3, _, rfl, rfl, SqT.of (s2 _ _ hS), rfl, z1, fun o3 i3 => ⟨two_line, fun o4 i4 => ⟨two_line, fun o5 i5 => ?_⟩⟩⟩
    have t3 := same_new i3 (HO.tup [V.str y])
    have t4 := same_new i4 (HO.lst [x4, V.ref o3])
    have t5 := same_new i5 (HO.lst [V.ref o2, V.ref o4])
    have b4 := t4.trans t5
    have b3 := t3.trans b4
    exact q _ _ _ (s2.trans b3) ((s2.trans (t3.trans t4)).free i5) upd_same (bds_two ⟨o2, o1, x2, rfl, b3 _ _ upd_same, h2.keep (keep_of (s2.trans b3)), b3 _ _ (t2 _ _ upd_same)⟩ ⟨o4, o3, x4, rfl, t5 _ _ upd_same, h4.keep (keep_of (s2.trans b3)), b4 _ _ upd_same⟩)
  | wk l m p st g =>
    obtain ⟨x0, ys0, e0, h0, c0⟩ := tds_cons hxs
    cases e0
    obtain ⟨x1, ys1, rfl, h1, c1⟩ := tds_cons c0
    obtain ⟨x2, ys2, rfl, h2, c2⟩ := tds_cons c1
    obtain ⟨x3, ys3, rfl, h3, c3⟩ := tds_cons c2
    obtain ⟨x4, ys4, rfl, h4, c4⟩ := tds_cons c3
    obtain ⟨x5, ys5, rfl, h5, c5⟩ := tds_cons c4
    obtain rfl := tds_nil c5
    obtain rfl := td_str h0
    obtain ⟨l1, y1, rfl, k1, e1⟩ := td_tup h1
    obtain rfl := strs_td e1
    obtain ⟨l2, y2, rfl, k2, e2⟩ := td_tup h2
    obtain rfl := strs_td e2
    obtain ⟨⟨n1, n2, n3, n4, n5⟩, _⟩ := hg
    refine ⟨_, rfl, rfl, false, bl_ne (str_ne (by decide +kernel)), ?_⟩
    refine eq2_no rfl (by decide +kernel) (eq2_no rfl (by decide +kernel) ?_)
    refine ⟨_, rfl, rfl, false, bl_ne (str_ne (by decide +kernel)), ?_⟩
    refine ⟨_, rfl, rfl, true, bl_eq rfl, ?_⟩
    refine ⟨_, rfl, a, _, 3, _, rfl, rfl, SqT.of hS, rfl, _, rfl, a, _, 1, _, rfl, rfl, SqT.of hS, rfl, l1, _, rfl, .inr ⟨SqT.of k1, ?_⟩⟩
    refine ⟨_, rfl, a, _, 2, _, rfl, rfl, SqT.of hS, rfl, l2, _, rfl, .inr ⟨SqT.of k2, ?_⟩⟩
    refine ⟨l1, l2, _, _, rfl, rfl, SqT.of k1, SqT.of k2, ?_, (fun z => ?_), (fun _ z => ?_), fun _ _ o1 i1 => ⟨two_line, fun o2 i2 => ⟨z1, fun o3 i3 => ?_⟩⟩⟩
    · rw [List.length_map, List.length_map]
      exact Nat.le_of_lt (small1000 (by omega))
    · have : (l.map V.str).length = 0 := by rw [z]; rfl
      rw [List.length_map] at this
      omega
    · have : (m.map V.str).length = 0 := by rw [z]; rfl
      rw [List.length_map] at this
      omega
    have t1 := same_new i1 (HO.tup (l.map V.str ++ m.map V.str))
    have t2 := same_new i2 (HO.lst [x3, V.ref o1])
    have t3 := same_new i3 (HO.lst [V.ref o2])
    have u1 := t3 _ _ (t2 _ _ (upd_same (H := H) (a := o1) (o := HO.tup (l.map V.str ++ m.map V.str))))
    rw [← List.map_append] at u1
    exact q _ _ _ ((t1.trans t2).trans t3) ((t1.trans t2).free i3) upd_same (bds_one ⟨o2, o1, x3, rfl, t3 _ _ upd_same, h3.keep (keep_of ((t1.trans t2).trans t3)), by rw [← List.map_append]; exact u1⟩)
end
end K52

set_option maxRecDepth 100000
set_option maxHeartbeats 4000000
namespace K52
open PySem PySem.Spec PyProof.Rows L2
/-- four statements, what they leave, and the rest -/
theorem cut4 {s1 s2 s3 s4 R : TS} {D : Ends} {σ : L2.St} {H : Hp} (Pv : L2.St → Hp → Prop) (h : ∀ R' : TS, (∀ σ' H', Pv σ' H' → R' D σ' H') → tSeq s1 (tSeq s2 (tSeq s3 (tSeq s4 R'))) D σ H) (k : ∀ σ' H', Pv σ' H' → R D σ' H') :
    tSeq s1 (tSeq s2 (tSeq s3 (tSeq s4 R))) D σ H := h R k
theorem own_len {t : Tr} (hg : t.Good) : t.own.length ≤ 120 := by
  cases t with
  | rel nm vs => exact Nat.le_trans (Nat.le_of_eq hg.2.1) (Nat.le_trans (ar_le nm).2 (by decide))
  | atm wd vs =>
    show vs.length ≤ 120
    rcases hg.1 with ⟨_, g1⟩ | ⟨_, g1⟩ <;> omega
  | wk l m p st g =>
    obtain ⟨⟨n1, n2, n3, n4, n5⟩, _⟩ := hg
    show (st ++ g).length ≤ 120
    rw [List.length_append]
    omega
  | neg p => exact Nat.zero_le _
  | bin wd p1 p2 => exact Nat.zero_le _
  | qu wd z p => exact Nat.zero_le _
  | mo z p1 y p2 => exact Nat.zero_le _
theorem cut_to {l : List V} {i : Nat} (h : i ≤ l.length) : cutV l none (some (i : Int)) = l.take i := by
  unfold cutV
  rw [HT.sIx_none, HT.sIx_nat]
  show (l.drop 0).take (min i l.length - 0) = _
  rw [List.drop_zero, Nat.min_eq_left h, Nat.sub_zero]
abbrev fives : List Str := ["same", "before", "next", "first", "last"]
theorem five_line : 5 ≤ sizeLine := by decide
section
variable {P : Program} {w : World} {K : PySem.W.Frag} {mg : Str → Option Value} {base : Heap}
abbrev sFreeL : Stmt := top 56
def spFreeL (n : Nat) : Sp := fun vs H Q _ => ∃ (v : V) (t : Tr), vs = [v] ∧ At H t v ∧ t.Good ∧ t.deep ≤ n ∧ ∀ (H' : Hp) (p : Addr) (zs : List Str), Same H H' → H p = none → H' p = some (.lst (zs.map V.str)) → zs.Nodup → (∀ x, x ∈ zs ↔ x ∈ t.fv) → Q (.ref p) H'
theorem scFreeL : FnScope ["_law_tree", "_law_found", "_law_one", "_law_name", "_law_k"] ["_law_tree"] (defScope sFreeL) := ⟨rfl, rfl, rfl, by decide +kernel, rfl, by decide +kernel, by decide +kernel⟩
theorem cal_free {n : Nat} (E1 : Env1 K mg) (D : Def K mg "_law_free" sFreeL) (cb : Cal P w K mg base CX0 1 "_law_bound" spBound) (cs : Cal P w K mg base CX0 (n + 1) "_law_free" (spFreeL n)) : Cal P w K mg base CX0 (n + 2) "_law_free" (spFreeL (n + 1)) := by
  refine cal_mk D scFreeL (fun _ _ _ _ _ _ us hl => match us, hl with | [_], _ => rfl) (fun vs H Q E h => ?_) (fun f cdv A outer s H vs Q E hr h => ?_)
  · obtain ⟨v, t, rfl, _⟩ := h
    rfl
  obtain ⟨v, t, rfl, hd, hg, hn, q⟩ := h
  refine ⟨_, pss_cons (ps_set (i := 1) scFreeL.nd rfl (Or.inr rfl) (pe_lst pa_nil))
    (pss_cons (ps_if (pt_cmpR op_eq (pe_ix ix_tup (pv 0) pe_int (fun _ _ => rfl)) pe_str (nomark _)) (pss_one (ps_set (i := 1) scFreeL.nd rfl (Or.inr rfl) (pe_callTy call_list_of rfl E1.list (by decide +kernel) (pa_cons (pe_ix ix_tup (pv 0) pe_int (fun _ _ => rfl)) pa_nil)))) pss_nil)
    (pss_cons (ps_if (pt_cmpR op_in_seq (pe_ix ix_tup (pv 0) pe_int (fun _ _ => rfl)) (pe_lst (pa_cons pe_str (pa_cons pe_str (pa_cons pe_str (pa_cons pe_str (pa_cons pe_str pa_nil)))))) rfl)
      (pss_one (ps_set (i := 1) scFreeL.nd rfl (Or.inr rfl) (pe_callTy call_list_of rfl E1.list (by decide +kernel) (pa_cons (pe_slice sl_tup (pv 0) (po_some pe_int) po_none) pa_nil)))) pss_nil)
    (pss_cons (ps_if (pt_cmpR op_eq (pe_ix ix_tup (pv 0) pe_int (fun _ _ => rfl)) pe_str (nomark _))
      (pss_one (ps_set (i := 1) scFreeL.nd rfl (Or.inr rfl) (pe_op op_cat (pe_callTy call_list_of rfl E1.list (by decide +kernel) (pa_cons (pe_ix ix_tup (pv 0) pe_int (fun _ _ => rfl)) pa_nil)) (pe_callTy call_list_of rfl E1.list (by decide +kernel) (pa_cons (pe_ix ix_tup (pv 0) pe_int (fun _ _ => rfl)) pa_nil))))) pss_nil)
    (pss_cons (ps_for PassesOwn.never rfl (pi_list (pe_c cb hr (by omega) (pa_cons (pv 0) pa_nil))) (pg_name (i := 2) scFreeL.nd rfl (Or.inr rfl))
      (pss_one (ps_set (i := 1) scFreeL.nd rfl (Or.inr rfl) (pe_op op_cat (pv 1)
        (pe_lc (own := [("_law_name", 3)]) (g := gName 3) (tt := tTest (tOp (rIn K true) (tVar 3) (tOp (rIxL K) (tVar 2) (tC (.int 1))))) rfl scFreeL.nd (pi_list (pe_c cs hr (Nat.le_refl _) (pa_cons (pe_ix ix_list (pv 2) pe_int (fun _ _ => rfl)) pa_nil)))
          (blkOk_by (N := ["_law_tree", "_law_found", "_law_one", "_law_name", "_law_k"]) (sc := defScope sFreeL) (by decide +kernel))
          (fun _ _ _ _ _ => pg_name (i := 3) scFreeL.nd rfl (Or.inl rfl)) (fun _ _ _ _ _ => pts_one (pt_cmpR (r := rIn K true) op_notIn_seq (pv 3) (pe_ix (r := rIxL K) ix_list (pv 2) pe_int (fun _ _ => rfl)) rfl)) (fun _ _ _ _ _ => pv 3))))))
    (pss_one (ps_ret (pe_callB cr_sortedS rfl E1.sorted (by decide +kernel) (pa_cons
      (pe_lc (own := [("_law_k", 4)]) (g := gName 4) (tt := tTest (tOp (rIn K true) (tOp (rIxL K) (tVar 1) (tVar 4)) (tSl (rSlL K) (tVar 1) tNoPart (tPart (tVar 4))))) rfl scFreeL.nd (pi_range1 rfl E1.range (pa_cons (pe_callB call_len_seq rfl E1.len boot_len (pa_cons (pv 1) pa_nil)) pa_nil))
          (blkOk_by (N := ["_law_tree", "_law_found", "_law_one", "_law_name", "_law_k"]) (sc := defScope sFreeL) (by decide +kernel))
          (fun _ _ _ _ _ => pg_name (i := 4) scFreeL.nd rfl (Or.inl rfl)) (fun _ _ _ _ _ => pts_one (pt_cmpR (r := rIn K true) op_notIn_seq (pe_ix (r := rIxL K) ix_list (pv 1) (pv 4) (fun _ _ => rfl)) (pe_slice (r := rSlL K) sl_list (pv 1) po_none (po_some (pv 4))) rfl))
          (fun _ _ _ _ _ => pe_ix (r := rIxL K) ix_list (pv 1) (pv 4) (fun _ _ => rfl))) pa_nil)))))))), ?_⟩
  obtain ⟨a, x, xs, rfl, hS, hxs⟩ := at_seq hd
  refine cut4 (fun σ' H' => ∃ p1 : Addr, σ' = [some (.ref a), some (.ref p1), none, none, none] ∧ Same H H' ∧ H' p1 = some (.lst (t.own.map V.str))) (fun R k => ?_) ?_
  · refine ⟨Nat.zero_le _, fun p0 i0 => ?_⟩
    have s0 := same_new i0 (HO.lst [])
    have hS0 := s0 _ _ hS
    cases t with
    | rel nm vs =>
      obtain ⟨x0, ys0, e0, h0, c0⟩ := tds_cons hxs
      cases e0
      obtain ⟨x1, ys1, rfl, h1, c1⟩ := tds_cons c0
      obtain ⟨x2, ys2, rfl, h2, c2⟩ := tds_cons c1
      obtain rfl := tds_nil c2
      obtain rfl := td_str h0
      obtain ⟨l2, y2, rfl, k2, e2⟩ := td_tup h2
      obtain rfl := strs_td e2
      refine ⟨_, rfl, a, _, 0, _, rfl, rfl, SqT.of hS0, at_hd, rfl, true, bl_eq rfl, ?_⟩
      refine ⟨_, rfl, a, _, 2, _, rfl, rfl, SqT.of hS0, rfl, l2, _, rfl, .inr (SqT.of (s0 _ _ k2)), fun p1 i1 => ?_⟩
      have s1 := s0.trans (same_new i1 (HO.lst (vs.map V.str)))
      refine ⟨_, rfl, a, _, 0, _, rfl, rfl, SqT.of (s1 _ _ hS), at_hd, five_line, fun o ho => ⟨o, fives.map V.str, rfl, .inl (SqL.of upd_same), rfl, flat_txts _, false, out_txts (by decide +kernel), ?_⟩⟩
      have t2 := same_new ho (HO.lst (fives.map V.str))
      refine ⟨_, rfl, a, _, 0, _, rfl, rfl, SqT.of (t2 _ _ (s1 _ _ hS)), at_hd, rfl, false, bl_ne (str_ne (by decide +kernel)), ?_⟩
      exact k _ _ ⟨p1, rfl, s1.trans t2, t2 _ _ upd_same⟩
    | atm wd vs =>
      obtain ⟨x0, ys0, e0, h0, c0⟩ := tds_cons hxs
      cases e0
      obtain rfl := td_str h0
      obtain rfl := strs_td c0
      obtain ⟨_, _, _, _, w5, w6, w7⟩ := atm_words hg
      refine ⟨_, rfl, a, _, 0, _, rfl, rfl, SqT.of hS0, at_hd, rfl, false, bl_ne (str_ne w6), ?_⟩
      refine ⟨_, rfl, a, _, 0, _, rfl, rfl, SqT.of hS0, at_hd, five_line, fun o ho => ⟨o, fives.map V.str, rfl, .inl (SqL.of upd_same), rfl, flat_txts _, true, in_txts w7, ?_⟩⟩
      have s1 := s0.trans (same_new ho (HO.lst (fives.map V.str)))
      refine ⟨_, rfl, 1, rfl, a, _, rfl, SqT.of (s1 _ _ hS), cut_one.1, fun p i1 => ⟨p, vs.map V.str, rfl, .inr (SqT.of (by rw [upd_same, cut_one.2])), fun p1 i2 => ?_⟩⟩
      have s2 := s1.trans ((same_new i1 (HO.tup (cutV (V.str wd :: vs.map V.str) (some 1) none))).trans (same_new i2 (HO.lst (vs.map V.str))))
      refine ⟨_, rfl, a, _, 0, _, rfl, rfl, SqT.of (s2 _ _ hS), at_hd, rfl, false, bl_ne (str_ne w5), ?_⟩
      exact k _ _ ⟨p1, rfl, s2, upd_same⟩
    | neg p =>
      obtain ⟨x0, ys0, e0, h0, c0⟩ := tds_cons hxs
      cases e0
      obtain rfl := td_str h0
      refine ⟨_, rfl, a, _, 0, _, rfl, rfl, SqT.of hS0, at_hd, rfl, false, bl_ne (str_ne (by decide +kernel)), ?_⟩
      refine ⟨_, rfl, a, _, 0, _, rfl, rfl, SqT.of hS0, at_hd, five_line, fun o ho => ⟨o, fives.map V.str, rfl, .inl (SqL.of upd_same), rfl, flat_txts _, false, out_txts (by decide +kernel), ?_⟩⟩
      have t2 := same_new ho (HO.lst (fives.map V.str))
      refine ⟨_, rfl, a, _, 0, _, rfl, rfl, SqT.of (t2 _ _ hS0), at_hd, rfl, false, bl_ne (str_ne (by decide +kernel)), ?_⟩
      exact k _ _ ⟨p0, rfl, s0.trans t2, t2 _ _ upd_same⟩
    | bin wd p1 p2 =>
      obtain ⟨x0, ys0, e0, h0, c0⟩ := tds_cons hxs
      cases e0
      obtain rfl := td_str h0
      obtain ⟨_, w2, w3, w4⟩ := bin_words hg.1
      refine ⟨_, rfl, a, _, 0, _, rfl, rfl, SqT.of hS0, at_hd, rfl, false, bl_ne (str_ne w2), ?_⟩
      refine ⟨_, rfl, a, _, 0, _, rfl, rfl, SqT.of hS0, at_hd, five_line, fun o ho => ⟨o, fives.map V.str, rfl, .inl (SqL.of upd_same), rfl, flat_txts _, false, out_txts w4, ?_⟩⟩
      have t2 := same_new ho (HO.lst (fives.map V.str))
      refine ⟨_, rfl, a, _, 0, _, rfl, rfl, SqT.of (t2 _ _ hS0), at_hd, rfl, false, bl_ne (str_ne w3), ?_⟩
      exact k _ _ ⟨p0, rfl, s0.trans t2, t2 _ _ upd_same⟩
    | qu wd z p =>
      obtain ⟨x0, ys0, e0, h0, c0⟩ := tds_cons hxs
      cases e0
      obtain rfl := td_str h0
      obtain ⟨_, _, w2, w3, w4⟩ := qu_words hg.1
      refine ⟨_, rfl, a, _, 0, _, rfl, rfl, SqT.of hS0, at_hd, rfl, false, bl_ne (str_ne w2), ?_⟩
      refine ⟨_, rfl, a, _, 0, _, rfl, rfl, SqT.of hS0, at_hd, five_line, fun o ho => ⟨o, fives.map V.str, rfl, .inl (SqL.of upd_same), rfl, flat_txts _, false, out_txts w4, ?_⟩⟩
      have t2 := same_new ho (HO.lst (fives.map V.str))
      refine ⟨_, rfl, a, _, 0, _, rfl, rfl, SqT.of (t2 _ _ hS0), at_hd, rfl, false, bl_ne (str_ne w3), ?_⟩
      exact k _ _ ⟨p0, rfl, s0.trans t2, t2 _ _ upd_same⟩
    | mo z p1 y p2 =>
      obtain ⟨x0, ys0, e0, h0, c0⟩ := tds_cons hxs
      cases e0
      obtain rfl := td_str h0
      refine ⟨_, rfl, a, _, 0, _, rfl, rfl, SqT.of hS0, at_hd, rfl, false, bl_ne (str_ne (by decide +kernel)), ?_⟩
      refine ⟨_, rfl, a, _, 0, _, rfl, rfl, SqT.of hS0, at_hd, five_line, fun o ho => ⟨o, fives.map V.str, rfl, .inl (SqL.of upd_same), rfl, flat_txts _, false, out_txts (by decide +kernel), ?_⟩⟩
      have t2 := same_new ho (HO.lst (fives.map V.str))
      refine ⟨_, rfl, a, _, 0, _, rfl, rfl, SqT.of (t2 _ _ hS0), at_hd, rfl, false, bl_ne (str_ne (by decide +kernel)), ?_⟩
      exact k _ _ ⟨p0, rfl, s0.trans t2, t2 _ _ upd_same⟩
    | wk l m p st g =>
      obtain ⟨x0, ys0, e0, h0, c0⟩ := tds_cons hxs
      cases e0
      obtain ⟨x1, ys1, rfl, h1, c1⟩ := tds_cons c0
      obtain ⟨x2, ys2, rfl, h2, c2⟩ := tds_cons c1
      obtain ⟨x3, ys3, rfl, h3, c3⟩ := tds_cons c2
      obtain ⟨x4, ys4, rfl, h4, c4⟩ := tds_cons c3
      obtain ⟨x5, ys5, rfl, h5, c5⟩ := tds_cons c4
      obtain rfl := tds_nil c5
      obtain rfl := td_str h0
      obtain ⟨l4, y4, rfl, k4, e4⟩ := td_tup h4
      obtain rfl := strs_td e4
      obtain ⟨l5, y5, rfl, k5, e5⟩ := td_tup h5
      obtain rfl := strs_td e5
      obtain ⟨⟨n1, n2, n3, n4, n5⟩, _⟩ := hg
      refine ⟨_, rfl, a, _, 0, _, rfl, rfl, SqT.of hS0, at_hd, rfl, false, bl_ne (str_ne (by decide +kernel)), ?_⟩
      refine ⟨_, rfl, a, _, 0, _, rfl, rfl, SqT.of hS0, at_hd, five_line, fun o ho => ⟨o, fives.map V.str, rfl, .inl (SqL.of upd_same), rfl, flat_txts _, false, out_txts (by decide +kernel), ?_⟩⟩
      have t2 := same_new ho (HO.lst (fives.map V.str))
      have s2 := s0.trans t2
      refine ⟨_, rfl, a, _, 0, _, rfl, rfl, SqT.of (t2 _ _ hS0), at_hd, rfl, true, bl_eq rfl, ?_⟩
      refine ⟨_, rfl, a, _, 4, _, rfl, rfl, SqT.of (s2 _ _ hS), rfl, l4, _, rfl, .inr (SqT.of (s2 _ _ k4)), fun q1 i1 => ?_⟩
      have s3 := s2.trans (same_new i1 (HO.lst (st.map V.str)))
      refine ⟨_, rfl, a, _, 5, _, rfl, rfl, SqT.of (s3 _ _ hS), rfl, l5, _, rfl, .inr (SqT.of (s3 _ _ k5)), fun q2 i2 => ?_⟩
      have t4 := same_new i2 (HO.lst (g.map V.str))
      refine ⟨q1, q2, _, _, rfl, rfl, t4 _ _ upd_same, upd_same, ?_, fun q3 i3 => ?_⟩
      · rw [List.length_map, List.length_map]
        exact Nat.le_of_lt (small1000 (by omega))
      refine k _ _ ⟨q3, rfl, (s3.trans t4).trans (same_new i3 _), ?_⟩
      rw [← List.map_append]
      exact upd_same
  rintro σ' H1 ⟨p1, rfl, s1, t1⟩
  refine ⟨_, rfl, .ref a, t, rfl, hd.keep (keep_of s1), hg, fun H2 p2 ys s2 n2 t2 b2 => ?_⟩
  have s02 := s1.trans s2
  refine ⟨p2, rfl, ⟨_, SqL.of t2⟩, for_it (walk_list (xs := ys)) (fun i σ H3 => ∃ (pf : Addr) (zs : List Str) (c : Option V), σ = [some (.ref a), some (.ref pf), c, none, none] ∧ H3 pf = some (.lst (zs.map V.str)) ∧ (∀ x, x ∈ zs ↔ FreeTo t i x) ∧ zs.length ≤ 120 + 14 * i ∧ Same H2 H3) ?_ ?_ ?_ ?_⟩
  · refine ⟨p1, t.own, none, rfl, s2 _ _ t1, fun x => ?_, own_len hg, Same.refl _⟩
    unfold FreeTo
    simp
  · rintro i σ H3 _ ⟨_, _, _, _, _, _, _, s3⟩
    exact SqL.of (s3 _ _ t2)
  · rintro i x σ H3 H4 hi ⟨pf, zs, c, rfl, h1, h2, h3, s3⟩ ⟨rfl, hx⟩
    obtain ⟨u, hu, o, bt, pv, rfl, g1, g2, g3⟩ := b2.2 i x hx
    obtain ⟨gu, du⟩ := Tr.sub_good hg u.1 u.2 (List.mem_of_getElem? hu)
    have few := sub_few t
    have hi2 : i < t.sub.length := (List.getElem?_eq_some_iff.mp hu).1
    refine ⟨_, rfl, _, rfl, o, _, 0, _, rfl, rfl, SqL.of (s3 _ _ g1), rfl, pv, u.2, rfl, g2.keep (keep_of s3), gu, by omega, fun H5 p5 ws s5 n5 t5 nd5 m5 => ⟨p5, rfl, ⟨_, SqL.of t5⟩, fun F hF => ?_⟩⟩
    have wl : ws.length ≤ 14 := few_menu nd5 fun x hx => Tr.fv_menu gu x ((m5 x).mp hx)
    have s35 := s3.trans s5
    refine lc_list (K := K) (a := p5) (xs := ws.map V.str) (fun j H6 => ∃ us : List Str, H6 F = some (.lst (us.map V.str)) ∧ (∀ x, x ∈ us ↔ x ∈ ws.take j ∧ x ∉ u.1) ∧ us.length ≤ j ∧ Same H5 H6) ⟨[], upd_same, fun x => by simp, Nat.le_refl _, same_new hF _⟩ (fun j H6 _ ⟨_, _, _, _, s6⟩ => SqL.of (s6 _ _ t5)) ?_ ?_
    · rintro j y H6 hy ⟨us, k1, k2, k3, s6⟩
      obtain ⟨z, hz, rfl⟩ := map_get hy
      have jl : j < ws.length := (List.getElem?_eq_some_iff.mp hz).1
      have s36 := s35.trans s6
      refine ⟨rfl, _, rfl, _, rfl, o, _, 1, _, rfl, rfl, SqL.of (s36 _ _ g1), rfl, bt, _, rfl, .inr (SqT.of (s36 _ _ g3)), rfl, flat_txts u.1, ?_⟩
      by_cases cz : z ∈ u.1
      · refine ⟨false, ?_, us, k1, fun x => ?_, by omega, s6⟩
        · show V.bl (!inV (.str z) (u.1.map V.str)) = V.bl false
          rw [inV_strs, decide_eq_true cz]
          rfl
        · rw [k2, take_snoc hz, List.mem_append, List.mem_singleton]
          constructor
          · rintro ⟨e1, e2⟩
            exact ⟨.inl e1, e2⟩
          · rintro ⟨e1 | e1, e2⟩
            · exact ⟨e1, e2⟩
            · exact absurd cz (e1 ▸ e2)
      · refine ⟨true, ?_, _, rfl, _, k1, small1000 (by rw [List.length_map]; omega), us ++ [z], ?_, fun x => ?_, ?_, same_upd s6 hF _⟩
        · show V.bl (!inV (.str z) (u.1.map V.str)) = V.bl true
          rw [inV_strs, decide_eq_false cz]
          rfl
        · rw [List.map_append]
          exact upd_same
        · rw [List.mem_append, k2, take_snoc hz, List.mem_append, List.mem_singleton]
          constructor
          · rintro (⟨e1, e2⟩ | e1)
            · exact ⟨.inl e1, e2⟩
            · exact ⟨.inr e1, e1 ▸ cz⟩
          · rintro ⟨e1 | e1, e2⟩
            · exact .inl ⟨e1, e2⟩
            · exact .inr e1
        · rw [List.length_append, List.length_singleton]
          omega
    · rintro H6 ⟨us, k1, k2, k3, s6⟩
      rw [List.length_map] at k2 k3
      rw [List.take_length] at k2
      have s36 := s5.trans s6
      refine ⟨pf, F, _, _, rfl, rfl, s36 _ _ h1, k1, ?_, fun p7 i7 => ?_⟩
      · rw [List.length_map, List.length_map]
        exact Nat.le_of_lt (small1000 (by omega))
      refine ⟨p7, zs ++ us, some (.ref o), rfl, ?_, fun x => ?_, ?_, (s3.trans s36).trans (same_new i7 _)⟩
      · rw [← List.map_append]
        exact upd_same
      · rw [List.mem_append, freeTo_succ hu, h2, k2, m5]
      · rw [List.length_append]
        omega
  rintro σ H3 ⟨pf, zs, c, rfl, h1, h2, h3, s3⟩
  rw [b2.1] at h2 h3
  have few := sub_few t
  have fm : ∀ x ∈ zs, x ∈ menu := fun x hx => freeTo_menu hg ((h2 x).mp hx)
  have el : (zs.map V.str).length = zs.length := List.length_map _
  refine ⟨_, rfl, pf, _, rfl, .inl (SqL.of h1), _, rfl, (by rw [el]; omega), (by rw [el]; omega), fun F hF => ?_⟩
  refine lc_range (lo := 0) (n := (zs.map V.str).length) (fun k H6 => ∃ us : List Str, H6 F = some (.lst (us.map V.str)) ∧ us.Nodup ∧ (∀ x, x ∈ us ↔ x ∈ zs.take k) ∧ Same H3 H6) ⟨[], upd_same, List.nodup_nil, fun x => by simp, same_new hF _⟩ ?_ ?_
  · rintro k H6 hk ⟨us, k1, k2, k3, s6⟩
    rw [el] at hk
    have hz : zs[k]? = some zs[k] := List.getElem?_eq_getElem hk
    have hzv : (zs.map V.str)[k]? = some (V.str zs[k]) := by rw [List.getElem?_map, hz]; rfl
    have ul : us.length ≤ 14 := few_menu k2 fun x hx => fm x (List.mem_of_mem_take ((k3 x).mp hx))
    refine ⟨rfl, _, rfl, _, rfl, pf, _, _, _, rfl, rfl, SqL.of (s6 _ _ h1), at_of (j := k) (by omega) hzv, ?_⟩
    refine ⟨_, rfl, _, rfl, _, rfl, pf, _, rfl, SqL.of (s6 _ _ h1), fun p hp => ?_⟩
    have t7 := same_new hp (HO.lst (cutV (zs.map V.str) none (some (0 + (k : Int)))))
    have e7 : cutV (zs.map V.str) none (some (0 + (k : Int))) = (zs.take k).map V.str := by
      rw [Int.zero_add, cut_to (by omega), List.map_take]
    have g7 : upd H6 p (HO.lst (cutV (zs.map V.str) none (some (0 + (k : Int))))) p = some (.lst ((zs.take k).map V.str)) := by rw [upd_same, e7]
    refine ⟨p, _, rfl, .inl (SqL.of g7), rfl, flat_txts _, ?_⟩
    by_cases cz : zs[k] ∈ zs.take k
    · refine ⟨false, ?_, us, t7 _ _ k1, k2, fun x => ?_, s6.trans t7⟩
      · show V.bl (!inV (.str zs[k]) ((zs.take k).map V.str)) = V.bl false
        rw [inV_strs, decide_eq_true cz]
        rfl
      · rw [k3, take_snoc hz, List.mem_append, List.mem_singleton]
        constructor
        · exact .inl
        · rintro (e | e)
          · exact e
          · exact e ▸ cz
    · refine ⟨true, ?_, _, rfl, _, rfl, pf, _, _, _, rfl, rfl, SqL.of (t7 _ _ (s6 _ _ h1)), at_of (j := k) (by omega) hzv, _, t7 _ _ k1, small1000 (by rw [List.length_map]; omega), us ++ [zs[k]], ?_, ?_, fun x => ?_, same_upd (s6.trans t7) hF _⟩
      · show V.bl (!inV (.str zs[k]) ((zs.take k).map V.str)) = V.bl true
        rw [inV_strs, decide_eq_false cz]
        rfl
      · rw [List.map_append]
        exact upd_same
      · refine List.nodup_append.mpr ⟨k2, List.nodup_cons.mpr ⟨List.not_mem_nil, List.nodup_nil⟩, fun x hx y hy => ?_⟩
        rw [List.mem_singleton.mp hy]
        rintro rfl
        exact cz ((k3 _).mp hx)
      · rw [List.mem_append, k3, take_snoc hz, List.mem_append]
  · rintro H6 ⟨us, k1, k2, k3, s6⟩
    rw [el, List.take_length] at k3
    have ul : us.length ≤ 14 := few_menu k2 fun x hx => fm x ((k3 x).mp hx)
    refine ⟨F, us, rfl, SqL.of k1, by omega, fun vs p pm _ hp => ?_⟩
    have sA := (s02.trans s3).trans s6
    exact q _ p vs (sA.trans (same_new hp _)) (sA.free hp) upd_same (pm.nodup_iff.mpr k2) fun x => by rw [pm.mem_iff, k3, h2, freeTo_all]
end
end K52

set_option maxRecDepth 100000
set_option maxHeartbeats 4000000
namespace K52
open PySem PySem.Spec PyProof.Rows L2
/-! ### tuples told by lists -/
def LsAt (H : Hp) : Nat → V → PyData → Prop
  | 0, v, d => ∃ x, v = .str x ∧ d = .str x
  | n + 1, v, d => (∃ x, v = .str x ∧ d = .str x) ∨ ∃ a xs ds, v = .ref a ∧ d = .list ds ∧ H a = some (.tup xs) ∧ xs.length ≤ 900 ∧ xs.length = ds.length ∧ ∀ (i : Nat) (y : V), xs[i]? = some y → ∃ e, ds[i]? = some e ∧ LsAt H n y e
def LsAll (H : Hp) (n : Nat) (xs : List V) (ds : List PyData) : Prop := xs.length = ds.length ∧ ∀ (i : Nat) (y : V), xs[i]? = some y → ∃ e, ds[i]? = some e ∧ LsAt H n y e
theorem LsAt.keep {H H' : Hp} (k : Keep H H') : ∀ {n : Nat} {v : V} {d : PyData}, LsAt H n v d → LsAt H' n v d
  | 0, _, _, h => h
  | n + 1, _, _, .inl h => .inl h
  | n + 1, _, _, .inr ⟨a, xs, ds, e1, e2, h1, h2, h3, h4⟩ => .inr ⟨a, xs, ds, e1, e2, k _ _ h1, h2, h3, fun i y hy => by
      obtain ⟨e, he, hl⟩ := h4 i y hy
      exact ⟨e, he, LsAt.keep k hl⟩⟩
theorem LsAt.up {H : Hp} : ∀ {n m : Nat} {v : V} {d : PyData}, n ≤ m → LsAt H n v d → LsAt H m v d
  | 0, 0, _, _, _, h => h
  | 0, m + 1, _, _, _, h => .inl h
  | n + 1, m + 1, _, _, _, .inl h => .inl h
  | n + 1, m + 1, _, _, hm, .inr ⟨a, xs, ds, e1, e2, h1, h2, h3, h4⟩ => .inr ⟨a, xs, ds, e1, e2, h1, h2, h3, fun i y hy => by
      obtain ⟨e, he, hl⟩ := h4 i y hy
      exact ⟨e, he, LsAt.up (Nat.le_of_succ_le_succ hm) hl⟩⟩
theorem LsAt.str {H : Hp} {n : Nat} (x : Str) : LsAt H n (.str x) (.str x) := by
  cases n with
  | zero => exact ⟨x, rfl, rfl⟩
  | succ n => exact .inl ⟨x, rfl, rfl⟩
theorem lsall_nil {H : Hp} {n : Nat} : LsAll H n [] [] := ⟨rfl, fun i y e => by simp at e⟩
theorem lsall_cons {H : Hp} {n : Nat} {x : V} {xs : List V} {d : PyData} {ds : List PyData} (h : LsAt H n x d) (g : LsAll H n xs ds) : LsAll H n (x :: xs) (d :: ds) :=
  ⟨by rw [List.length_cons, List.length_cons, g.1], fun i y e => by
    match i, e with
    | 0, e => exact ⟨d, rfl, Option.some.inj e ▸ h⟩
    | i + 1, e => exact g.2 i y e⟩
theorem lsall_strs {H : Hp} {n : Nat} : ∀ vs : List Str, LsAll H n (vs.map V.str) (vs.map PyData.str)
  | [] => lsall_nil
  | z :: vs => lsall_cons (.str z) (lsall_strs vs)
theorem ls_tup {H : Hp} {n : Nat} {a : Addr} {xs : List V} {ds : List PyData} (h : H a = some (.tup xs)) (hl : xs.length ≤ 900) (g : LsAll H n xs ds) : LsAt H (n + 1) (.ref a) (.list ds) := .inr ⟨a, xs, ds, rfl, rfl, h, hl, g.1, g.2⟩
theorem ls_names {H : Hp} {n : Nat} {v : V} {vs : List Str} (h : Td H v (nms true vs)) (hl : vs.length ≤ 900) : LsAt H (n + 1) v (nms false vs) := by
  obtain ⟨a, xs, rfl, h1, h2⟩ := td_tup h
  obtain rfl := strs_td h2
  exact ls_tup h1 (by rw [List.length_map]; exact hl) (lsall_strs vs)
theorem ls_tree {H : Hp} : ∀ {t : Tr} {v : V}, t.Good → At H t v → LsAt H (t.deep + 1) v (t.dat false)
  | .rel nm vs, v, hg, h => by
    obtain ⟨a, xs, rfl, h1, h2⟩ := td_tup (l := [.str "rel", .str nm, nms true vs]) h
    obtain ⟨x0, ys0, rfl, k0, c0⟩ := tds_cons h2
    obtain ⟨x1, ys1, rfl, k1, c1⟩ := tds_cons c0
    obtain ⟨x2, ys2, rfl, k2, c2⟩ := tds_cons c1
    obtain rfl := tds_nil c2
    obtain rfl := td_str k0
    obtain rfl := td_str k1
    have vl : vs.length ≤ 900 := Nat.le_trans (Nat.le_of_eq hg.2.1) (Nat.le_trans (ar_le nm).2 (by decide))
    exact ls_tup h1 (by show 3 ≤ 900; decide) (lsall_cons (.str _) (lsall_cons (.str _) (lsall_cons (ls_names (n := 0) k2 vl) lsall_nil)))
  | .atm wd vs, v, hg, h => by
    obtain ⟨a, xs, rfl, h1, h2⟩ := td_tup (l := .str wd :: vs.map PyData.str) h
    obtain ⟨x0, ys0, rfl, k0, c0⟩ := tds_cons h2
    obtain rfl := td_str k0
    obtain rfl := strs_td c0
    have vl : vs.length ≤ 2 := by rcases hg.1 with ⟨_, g1⟩ | ⟨_, g1⟩ <;> omega
    exact ls_tup h1 (by rw [List.length_cons, List.length_map]; omega) (lsall_cons (.str _) (lsall_strs vs))
  | .neg p, v, hg, h => by
    obtain ⟨a, xs, rfl, h1, h2⟩ := td_tup (l := [.str "not", p.dat true]) h
    obtain ⟨x0, ys0, rfl, k0, c0⟩ := tds_cons h2
    obtain ⟨x1, ys1, rfl, k1, c1⟩ := tds_cons c0
    obtain rfl := tds_nil c1
    obtain rfl := td_str k0
    exact ls_tup h1 (by show 2 ≤ 900; decide) (lsall_cons (.str _) (lsall_cons (ls_tree (t := p) hg k1) lsall_nil))
  | .bin wd p q, v, hg, h => by
    obtain ⟨a, xs, rfl, h1, h2⟩ := td_tup (l := [.str wd, p.dat true, q.dat true]) h
    obtain ⟨x0, ys0, rfl, k0, c0⟩ := tds_cons h2
    obtain ⟨x1, ys1, rfl, k1, c1⟩ := tds_cons c0
    obtain ⟨x2, ys2, rfl, k2, c2⟩ := tds_cons c1
    obtain rfl := tds_nil c2
    obtain rfl := td_str k0
    have e1 : p.deep + 1 ≤ (Tr.bin wd p q).deep := Nat.succ_le_succ (Nat.le_max_left _ _)
    have e2 : q.deep + 1 ≤ (Tr.bin wd p q).deep := Nat.succ_le_succ (Nat.le_max_right _ _)
    exact ls_tup h1 (by show 3 ≤ 900; decide) (lsall_cons (.str _) (lsall_cons ((ls_tree (t := p) hg.2.1 k1).up e1) (lsall_cons ((ls_tree (t := q) hg.2.2 k2).up e2) lsall_nil)))
  | .qu wd z p, v, hg, h => by
    obtain ⟨a, xs, rfl, h1, h2⟩ := td_tup (l := [.str wd, .str z, p.dat true]) h
    obtain ⟨x0, ys0, rfl, k0, c0⟩ := tds_cons h2
    obtain ⟨x1, ys1, rfl, k1, c1⟩ := tds_cons c0
    obtain ⟨x2, ys2, rfl, k2, c2⟩ := tds_cons c1
    obtain rfl := tds_nil c2
    obtain rfl := td_str k0
    obtain rfl := td_str k1
    exact ls_tup h1 (by show 3 ≤ 900; decide) (lsall_cons (.str _) (lsall_cons (.str _) (lsall_cons (ls_tree (t := p) hg.2.2 k2) lsall_nil)))
  | .mo z p y q, v, hg, h => by
    obtain ⟨a, xs, rfl, h1, h2⟩ := td_tup (l := [.str "more", .str z, p.dat true, .str y, q.dat true]) h
    obtain ⟨x0, ys0, rfl, k0, c0⟩ := tds_cons h2
    obtain ⟨x1, ys1, rfl, k1, c1⟩ := tds_cons c0
    obtain ⟨x2, ys2, rfl, k2, c2⟩ := tds_cons c1
    obtain ⟨x3, ys3, rfl, k3, c3⟩ := tds_cons c2
    obtain ⟨x4, ys4, rfl, k4, c4⟩ := tds_cons c3
    obtain rfl := tds_nil c4
    obtain rfl := td_str k0
    obtain rfl := td_str k1
    obtain rfl := td_str k3
    have e1 : p.deep + 1 ≤ (Tr.mo z p y q).deep := Nat.succ_le_succ (Nat.le_max_left _ _)
    have e2 : q.deep + 1 ≤ (Tr.mo z p y q).deep := Nat.succ_le_succ (Nat.le_max_right _ _)
    exact ls_tup h1 (by show 5 ≤ 900; decide) (lsall_cons (.str _) (lsall_cons (.str _) (lsall_cons ((ls_tree (t := p) hg.2.2.1 k2).up e1) (lsall_cons (.str _) (lsall_cons ((ls_tree (t := q) hg.2.2.2 k4).up e2) lsall_nil)))))
  | .wk l m p st g, v, hg, h => by
    obtain ⟨a, xs, rfl, h1, h2⟩ := td_tup (l := [.str "walk", nms true l, nms true m, p.dat true, nms true st, nms true g]) h
    obtain ⟨x0, ys0, rfl, k0, c0⟩ := tds_cons h2
    obtain ⟨x1, ys1, rfl, k1, c1⟩ := tds_cons c0
    obtain ⟨x2, ys2, rfl, k2, c2⟩ := tds_cons c1
    obtain ⟨x3, ys3, rfl, k3, c3⟩ := tds_cons c2
    obtain ⟨x4, ys4, rfl, k4, c4⟩ := tds_cons c3
    obtain ⟨x5, ys5, rfl, k5, c5⟩ := tds_cons c4
    obtain rfl := tds_nil c5
    obtain rfl := td_str k0
    obtain ⟨⟨n1, n2, n3, n4, n5⟩, _, _, _, gp⟩ := hg
    exact ls_tup h1 (by show 6 ≤ 900; decide) (lsall_cons (.str _) (lsall_cons (ls_names (n := p.deep) k1 (by omega)) (lsall_cons (ls_names (n := p.deep) k2 (by omega)) (lsall_cons (ls_tree (t := p) gp k3)
      (lsall_cons (ls_names (n := p.deep) k4 (by omega)) (lsall_cons (ls_names (n := p.deep) k5 (by omega)) lsall_nil))))))
/-! ### data of new lists -/
mutual
inductive Ld (N : Addr → Prop) (H : Hp) : V → PyData → Prop
  | str (x : Str) : Ld N H (.str x) (.str x)
  | lst {a : Addr} {xs : List V} {ds : List PyData} : N a → H a = some (.lst xs) → LdAll N H xs ds → Ld N H (.ref a) (.list ds)
inductive LdAll (N : Addr → Prop) (H : Hp) : List V → List PyData → Prop
  | nil : LdAll N H [] []
  | cons {v : V} {vs : List V} {d : PyData} {ds : List PyData} : Ld N H v d → LdAll N H vs ds → LdAll N H (v :: vs) (d :: ds)
end
mutual
theorem Ld.keep {N N' : Addr → Prop} {H H' : Hp} (n : ∀ b, N b → N' b) (e : ∀ b o, N b → H b = some o → H' b = some o) : ∀ {v : V} {d : PyData}, Ld N H v d → Ld N' H' v d
  | _, _, .str x => .str x
  | _, _, .lst a h ha => .lst (n _ a) (e _ _ a h) (LdAll.keep n e ha)
theorem LdAll.keep {N N' : Addr → Prop} {H H' : Hp} (n : ∀ b, N b → N' b) (e : ∀ b o, N b → H b = some o → H' b = some o) : ∀ {vs : List V} {ds : List PyData}, LdAll N H vs ds → LdAll N' H' vs ds
  | _, _, .nil => .nil
  | _, _, .cons h ha => .cons (Ld.keep n e h) (LdAll.keep n e ha)
end
mutual
theorem Ld.dp {N : Addr → Prop} {K : PySem.W.Frag} {H : Hp} : ∀ {v : V} {d : PyData}, Ld N H v d → Dp K H v d
  | _, _, .str x => .str x
  | _, _, .lst _ h ha => .lst (SqL.of h) (LdAll.dp ha)
theorem LdAll.dp {N : Addr → Prop} {K : PySem.W.Frag} {H : Hp} : ∀ {vs : List V} {ds : List PyData}, LdAll N H vs ds → DpAll K H vs ds
  | _, _, .nil => .nil
  | _, _, .cons h ha => .cons (Ld.dp h) (LdAll.dp ha)
end
theorem ldall_of {N : Addr → Prop} {H : Hp} : ∀ {xs : List V} {ds : List PyData}, xs.length = ds.length → (∀ (i : Nat) (y : V), xs[i]? = some y → ∃ e, ds[i]? = some e ∧ Ld N H y e) → LdAll N H xs ds
  | [], [], _, _ => .nil
  | x :: xs, d :: ds, hl, h => by
    obtain ⟨e, he, h0⟩ := h 0 x rfl
    obtain rfl := Option.some.inj he
    exact .cons h0 (ldall_of (Nat.succ.inj hl) fun i y hy => h (i + 1) y hy)
section
variable {P : Program} {w : World} {K : PySem.W.Frag} {mg : Str → Option Value} {base : Heap}
abbrev sListed : Stmt := top 57
def spListed (n : Nat) : Sp := fun vs H Q _ => ∃ (v : V) (d : PyData), vs = [v] ∧ LsAt H n v d ∧ ∀ (H' : Hp) (v' : V), Same H H' → Ld (fun b => H b = none) H' v' d → Q v' H'
theorem scListed : FnScope ["_law_value", "_law_one"] ["_law_value"] (defScope sListed) := ⟨rfl, rfl, rfl, by decide +kernel, rfl, by decide +kernel, by decide +kernel⟩
/-- the text's way -/
theorem cal_listed0 (E1 : Env1 K mg) (D : Def K mg "_law_listed" sListed) : Cal P w K mg base CX0 1 "_law_listed" (spListed 0) := by
  have c : Cal P w K mg base CX0 0 "_law_listed" (fun _ _ _ _ => False) := cal_void (ps := ["_law_value"]) D (fun _ _ _ _ h => h) (fun _ _ _ _ _ _ us hl => match us, hl with | [_], _ => rfl)
  refine cal_mk D scListed (fun _ _ _ _ _ _ us hl => match us, hl with | [_], _ => rfl) (fun vs H Q E h => ?_) (fun f cdv A outer s H vs Q E hr h => ?_)
  · obtain ⟨v, d, rfl, _⟩ := h
    rfl
  obtain ⟨v, d, rfl, hd, q⟩ := h
  refine ⟨_, pss_cons (ps_if (pt_val (pe_callB call_isi rfl E1.isi (by decide +kernel) (pa_cons (pv 0) (pa_cons (pe_bltn (v := .ty "tuple") (u := .type "tuple") rfl E1.tuple (by decide +kernel) rfl) pa_nil))))
      (pss_one (ps_ret (pe_lc (own := [("_law_one", 1)]) (g := gName 1) (tt := tYes) rfl scListed.nd (pi_tup (pv 0)) (blkOk_by (N := ["_law_value", "_law_one"]) (sc := defScope sListed) (by decide +kernel))
        (fun _ _ _ _ _ => pg_name (i := 1) scListed.nd rfl (Or.inl rfl)) (fun _ _ _ _ _ => pts_nil) (fun _ _ _ _ _ => pe_c c hr (Nat.le_refl _) (pa_cons (pv 1) pa_nil))))) pss_nil)
    (pss_one (ps_ret (pv 0))), ?_⟩
  obtain ⟨x, rfl, rfl⟩ := hd
  refine ⟨_, rfl, .str x, .ty "tuple", .type "str", .type "tuple", false, rfl, .ty "tuple", .base (.str x), kit_ty (by decide +kernel), false, rfl, ?_⟩
  exact ⟨_, rfl, q _ _ (Same.refl _) (.str x)⟩
theorem cal_listed1 {m : Nat} (E1 : Env1 K mg) (D : Def K mg "_law_listed" sListed) (c : Cal P w K mg base CX0 (m + 1) "_law_listed" (spListed m)) : Cal P w K mg base CX0 (m + 2) "_law_listed" (spListed (m + 1)) := by
  refine cal_mk D scListed (fun _ _ _ _ _ _ us hl => match us, hl with | [_], _ => rfl) (fun vs H Q E h => ?_) (fun f cdv A outer s H vs Q E hr h => ?_)
  · obtain ⟨v, d, rfl, _⟩ := h
    rfl
  obtain ⟨v, d, rfl, hd, q⟩ := h
  refine ⟨_, pss_cons (ps_if (pt_val (pe_callB call_isi rfl E1.isi (by decide +kernel) (pa_cons (pv 0) (pa_cons (pe_bltn (v := .ty "tuple") (u := .type "tuple") rfl E1.tuple (by decide +kernel) rfl) pa_nil))))
      (pss_one (ps_ret (pe_lc (own := [("_law_one", 1)]) (g := gName 1) (tt := tYes) rfl scListed.nd (pi_tup (pv 0)) (blkOk_by (N := ["_law_value", "_law_one"]) (sc := defScope sListed) (by decide +kernel))
        (fun _ _ _ _ _ => pg_name (i := 1) scListed.nd rfl (Or.inl rfl)) (fun _ _ _ _ _ => pts_nil) (fun _ _ _ _ _ => pe_c c hr (Nat.le_refl _) (pa_cons (pv 1) pa_nil))))) pss_nil)
    (pss_one (ps_ret (pv 0))), ?_⟩
  rcases hd with ⟨x, rfl, rfl⟩ | ⟨a, xs, ds, rfl, rfl, h1, h2, h3, h4⟩
  · refine ⟨_, rfl, .str x, .ty "tuple", .type "str", .type "tuple", false, rfl, .ty "tuple", .base (.str x), kit_ty (by decide +kernel), false, rfl, ?_⟩
    exact ⟨_, rfl, q _ _ (Same.refl _) (.str x)⟩
  refine ⟨_, rfl, .ref a, .ty "tuple", .type "tuple", .type "tuple", true, rfl, .ty "tuple", (Sq.ty (b := true) (SqT.of h1)), kit_ty (by decide +kernel), true, rfl, ?_⟩
  refine ⟨_, rfl, a, rfl, ⟨_, SqT.of h1⟩, fun T hT => ?_⟩
  have k0 : Keep H (upd H T (.lst [])) := keep_new hT _
  refine lc_tup (K := K) (a := a) (xs := xs) (fun i H6 => ∃ ys : List V, H6 T = some (.lst ys) ∧ ys.length = i ∧ Same H H6 ∧ ∀ (k : Nat) (y : V), ys[k]? = some y → ∃ e, ds[k]? = some e ∧ Ld (fun b => H b = none ∧ b ≠ T) H6 y e)
    ⟨[], upd_same, rfl, same_new hT _, fun k y e => by simp at e⟩ (fun i H6 _ ⟨_, _, _, s6, _⟩ => SqT.of (s6 _ _ h1)) ?_ ?_
  · rintro i y H6 hy ⟨ys, k1, k2, s6, k4⟩
    obtain ⟨e, he, hl⟩ := h4 i y hy
    have il : i < xs.length := (List.getElem?_eq_some_iff.mp hy).1
    refine ⟨rfl, ?_⟩
    refine ⟨_, rfl, y, e, rfl, hl.keep (keep_of s6), fun H7 y' s7 l7 => ?_⟩
    refine ⟨ys, s7 _ _ k1, small1000 (by omega), ys ++ [y'], upd_same, by rw [List.length_append, k2]; rfl, same_upd (s6.trans s7) hT _, fun k z hz => ?_⟩
    by_cases hk : k < ys.length
    · rw [List.getElem?_append_left hk] at hz
      obtain ⟨e2, he2, hl2⟩ := k4 k z hz
      exact ⟨e2, he2, hl2.keep (fun _ h => h) fun b o hb ho => by rw [upd_ne hb.2]; exact s7 _ _ ho⟩
    · rw [List.getElem?_append_right (by omega)] at hz
      have hk2 : k - ys.length = 0 := by
        have := (List.getElem?_eq_some_iff.mp hz).1
        rw [List.length_singleton] at this
        omega
      rw [hk2] at hz
      obtain rfl : y' = z := Option.some.inj hz
      have hk3 : k = i := by omega
      subst hk3
      have ne : ∀ b, H6 b = none → H b = none ∧ b ≠ T := fun b hb => ⟨s6.free hb, fun z => by rw [z, k1] at hb; cases hb⟩
      exact ⟨e, he, l7.keep ne fun b o hb ho => by rw [upd_ne (ne b hb).2]; exact ho⟩
  · rintro H6 ⟨ys, k1, k2, s6, k4⟩
    exact q _ _ s6 (.lst hT k1 (ldall_of (by rw [k2, h3]) fun k y hy => by
      obtain ⟨e, he, hl⟩ := k4 k y hy
      exact ⟨e, he, hl.keep (fun b h => h.1) fun _ _ _ h => h⟩))
theorem cal_listed (E1 : Env1 K mg) (D : Def K mg "_law_listed" sListed) : ∀ n : Nat, Cal P w K mg base CX0 (n + 1) "_law_listed" (spListed n)
  | 0 => cal_listed0 E1 D
  | n + 1 => cal_listed1 E1 D (cal_listed E1 D n)
theorem cal_free_all (E1 : Env1 K mg) (D : Def K mg "_law_free" sFreeL) (cb : Cal P w K mg base CX0 1 "_law_bound" spBound) : ∀ n : Nat, Cal P w K mg base CX0 (n + 1) "_law_free" (spFreeL n)
  | 0 => cal_void (ps := ["_law_tree"]) D (fun vs H Q E ⟨v, t, _, _, _, h, _⟩ => by
      have := t.deep_pos
      omega) (fun _ _ _ _ _ _ us hl => match us, hl with | [_], _ => rfl)
  | n + 1 => cal_free E1 D cb (cal_free_all E1 D cb n)
end
end K52

set_option maxRecDepth 100000
set_option maxHeartbeats 4000000
namespace K52
open PySem PySem.Spec PyProof.Rows L2
/-- e == x or e == y, e a text -/
theorem eq2e_yes {te : TE} {x y wd : Str} {σ : L2.St} {H : Hp} {Q : Bool → Hp → Prop} (he : ∀ Q : VK, Q (.str wd) H → te σ H Q) (h : wd ∈ ([x, y] : List Str)) (q : Q true H) :
    tOr (tTest (tOp rEq te (tC (.str x)))) (tTest (tOp rEq te (tC (.str y)))) σ H Q := by
  by_cases e : wd = x
  · exact he _ ⟨rfl, true, bl_eq (congrArg V.str e), q⟩
  · have e2 : wd = y := by
      simp only [List.mem_cons, List.not_mem_nil, or_false] at h
      exact h.resolve_left e
    exact he _ ⟨rfl, false, bl_ne (str_ne e), he _ ⟨rfl, true, bl_eq (congrArg V.str e2), q⟩⟩
theorem eq2e_no {te : TE} {x y wd : Str} {σ : L2.St} {H : Hp} {Q : Bool → Hp → Prop} (he : ∀ Q : VK, Q (.str wd) H → te σ H Q) (h : wd ∉ ([x, y] : List Str)) (q : Q false H) :
    tOr (tTest (tOp rEq te (tC (.str x)))) (tTest (tOp rEq te (tC (.str y)))) σ H Q := by
  simp only [List.mem_cons, List.not_mem_nil, or_false, not_or] at h
  exact he _ ⟨rfl, false, bl_ne (str_ne h.1), he _ ⟨rfl, false, bl_ne (str_ne h.2), q⟩⟩
theorem eq2t_yes {K : PySem.W.Frag} {i : Nat} {x y wd : Str} {σ : L2.St} {H : Hp} {Q : Bool → Hp → Prop} {a : Addr} {xs : List V} (hσ : σ[i]? = some (some (.ref a))) (hS : SqT K H a (V.str wd :: xs)) (h : wd ∈ ([x, y] : List Str)) (q : Q true H) :
    tOr (tTest (tOp rEq (tOp (rIxT K) (tVar i) (tC (.int 0))) (tC (.str x)))) (tTest (tOp rEq (tOp (rIxT K) (tVar i) (tC (.int 0))) (tC (.str y)))) σ H Q :=
  eq2e_yes (fun Q h => ⟨_, hσ, a, _, 0, _, rfl, rfl, hS, at_hd, h⟩) h q
theorem eq2t_no {K : PySem.W.Frag} {i : Nat} {x y wd : Str} {σ : L2.St} {H : Hp} {Q : Bool → Hp → Prop} {a : Addr} {xs : List V} (hσ : σ[i]? = some (some (.ref a))) (hS : SqT K H a (V.str wd :: xs)) (h : wd ∉ ([x, y] : List Str)) (q : Q false H) :
    tOr (tTest (tOp rEq (tOp (rIxT K) (tVar i) (tC (.int 0))) (tC (.str x)))) (tTest (tOp rEq (tOp (rIxT K) (tVar i) (tC (.int 0))) (tC (.str y)))) σ H Q :=
  eq2e_no (fun Q h => ⟨_, hσ, a, _, 0, _, rfl, rfl, hS, at_hd, h⟩) h q
theorem few_take {x y : V} {k : Nat} : (([x, y] : List V).take k).length < sizeLine := small1000 (by rw [List.length_take]; show min k 2 ≤ 1000; omega)
theorem max_two {m a b : Int} (h : m ∈ [a, b]) (g : ∀ z ∈ [a, b], z ≤ m) : m = Tr.mx a b := by
  have h1 := g a (by simp)
  have h2 := g b (by simp)
  simp only [List.mem_cons, List.not_mem_nil, or_false] at h
  unfold Tr.mx
  split <;> omega
theorem max_four {m a b c d : Int} (h : m ∈ [a, b, c, d]) (g : ∀ z ∈ [a, b, c, d], z ≤ m) : m = Tr.mx (Tr.mx a b) (Tr.mx c d) := by
  have h1 := g a (by simp)
  have h2 := g b (by simp)
  have h3 := g c (by simp)
  have h4 := g d (by simp)
  simp only [List.mem_cons, List.not_mem_nil, or_false] at h
  unfold Tr.mx
  repeat' split
  all_goals omega
/-- the pair of ints, told by a list -/
def PairL (H : Hp) (v : V) (n : Int × Int) : Prop := ∃ p, v = .ref p ∧ H p = some (.lst [.int n.1, .int n.2])
theorem belowL1 {t : Tr} {b : List Str} {p : Tr} {zs : List V} {H : Hp} (e : t.sub = [(b, p)]) (hl : zs.length = t.sub.length) (hy : ∀ (i : Nat) (y : V), zs[i]? = some y → ∃ u, t.sub[i]? = some u ∧ PairL H y u.2.need) :
    ∃ o, zs = [.ref o] ∧ H o = some (.lst [.int p.need.1, .int p.need.2]) := by
  rw [e] at hl hy
  match zs, hl with
  | [z], _ =>
    obtain ⟨u, hu, o, rfl, ho⟩ := hy 0 z rfl
    obtain rfl := Option.some.inj hu
    exact ⟨o, rfl, ho⟩
theorem belowL2 {t : Tr} {b c : List Str} {p q : Tr} {zs : List V} {H : Hp} (e : t.sub = [(b, p), (c, q)]) (hl : zs.length = t.sub.length) (hy : ∀ (i : Nat) (y : V), zs[i]? = some y → ∃ u, t.sub[i]? = some u ∧ PairL H y u.2.need) :
    ∃ o1 o2, zs = [.ref o1, .ref o2] ∧ H o1 = some (.lst [.int p.need.1, .int p.need.2]) ∧ H o2 = some (.lst [.int q.need.1, .int q.need.2]) := by
  rw [e] at hl hy
  match zs, hl with
  | [z, z2], _ =>
    obtain ⟨u, hu, o, rfl, ho⟩ := hy 0 z rfl
    obtain rfl := Option.some.inj hu
    obtain ⟨u2, hu2, o2, rfl, ho2⟩ := hy 1 z2 rfl
    obtain rfl := Option.some.inj hu2
    exact ⟨o, o2, rfl, ho, ho2⟩
section
variable {P : Program} {w : World} {K : PySem.W.Frag} {mg : Str → Option Value} {base : Heap}
abbrev sNeedsL : Stmt := top 59
def spNeedsL (n : Nat) : Sp := fun vs H Q _ => ∃ (v : V) (t : Tr), vs = [v] ∧ At H t v ∧ t.Good ∧ t.deep ≤ n ∧ ∀ (H' : Hp) (p : Addr), Same H H' → H p = none → H' p = some (.lst [.int t.need.1, .int t.need.2]) → Q (.ref p) H'
theorem scNeedsL : FnScope ["_law_tree", "_law_below", "_law_one", "_law_k"] ["_law_tree"] (defScope sNeedsL) := ⟨rfl, rfl, rfl, by decide +kernel, rfl, by decide +kernel, by decide +kernel⟩
theorem cal_needsL {n : Nat} (E1 : Env1 K mg) (D : Def K mg "_law_needs" sNeedsL) (cb : Cal P w K mg base CX0 1 "_law_bound" spBound) (cs : Cal P w K mg base CX0 (n + 1) "_law_needs" (spNeedsL n)) : Cal P w K mg base CX0 (n + 2) "_law_needs" (spNeedsL (n + 1)) := by
  refine cal_mk D scNeedsL (fun _ _ _ _ _ _ us hl => match us, hl with | [_], _ => rfl) (fun vs H Q E h => ?_) (fun f cdv A outer s H vs Q E hr h => ?_)
  · obtain ⟨v, t, rfl, _⟩ := h
    rfl
  obtain ⟨v, t, rfl, hd, hg, hn, q⟩ := h
  refine ⟨_, pss_cons (ps_set (i := 1) scNeedsL.nd rfl (Or.inr rfl) (pe_lc (own := [("_law_one", 2)]) (g := gName 2) (tt := tYes) rfl scNeedsL.nd (pi_list (pe_c cb hr (by omega) (pa_cons (pv 0) pa_nil))) (blkOk_by (N := ["_law_tree", "_law_below", "_law_one", "_law_k"]) (sc := defScope sNeedsL) (by decide +kernel))
      (fun _ _ _ _ _ => pg_name (i := 2) scNeedsL.nd rfl (Or.inl rfl)) (fun _ _ _ _ _ => pts_nil) (fun _ _ _ _ _ => pe_c cs hr (Nat.le_refl _) (pa_cons (pe_ix (r := rIxL K) ix_list (pv 2) pe_int (fun _ _ => rfl)) pa_nil))))
    (pss_cons (ps_if (pt_cmpR op_eq (pe_ix ix_tup (pv 0) pe_int (fun _ _ => rfl)) pe_str (nomark _)) (pss_one (ps_ret (pe_lst (pa_cons (pe_ix ix_list (pe_ix ix_list (pv 1) pe_int (fun _ _ => rfl)) pe_int (fun _ _ => rfl)) (pa_cons (pe_ix ix_list (pe_ix ix_list (pv 1) pe_int (fun _ _ => rfl)) pe_int (fun _ _ => rfl)) pa_nil))))) pss_nil)
    (pss_cons (ps_if (PW.pt (pw_or (pt_cmpR op_eq (pe_ix ix_tup (pv 0) pe_int (fun _ _ => rfl)) pe_str (nomark _)) (pw_or1 (pt_cmpR op_eq (pe_ix ix_tup (pv 0) pe_int (fun _ _ => rfl)) pe_str (nomark _)))))
      (pss_one (ps_ret (pe_lc (own := [("_law_k", 3)]) (g := gName 3) (tt := tYes) rfl scNeedsL.nd (pi_range1 rfl E1.range (pa_cons pe_int pa_nil)) (blkOk_by (N := ["_law_tree", "_law_below", "_law_one", "_law_k"]) (sc := defScope sNeedsL) (by decide +kernel))
        (fun _ _ _ _ _ => pg_name (i := 3) scNeedsL.nd rfl (Or.inl rfl)) (fun _ _ _ _ _ => pts_nil)
        (fun _ _ _ _ _ => pe_callB (call_max2 rfl) rfl E1.max (by decide +kernel) (pa_cons (pe_ix (r := rIxL K) ix_list (pe_ix (r := rIxL K) ix_list (pv 1) pe_int (fun _ _ => rfl)) (pv 3) (fun _ _ => rfl)) (pa_cons (pe_ix (r := rIxL K) ix_list (pe_ix (r := rIxL K) ix_list (pv 1) pe_int (fun _ _ => rfl)) (pv 3) (fun _ _ => rfl)) pa_nil)))))) pss_nil)
    (pss_cons (ps_if (PW.pt (pw_or (pt_cmpR op_eq (pe_ix ix_tup (pv 0) pe_int (fun _ _ => rfl)) pe_str (nomark _)) (pw_or1 (pt_cmpR op_eq (pe_ix ix_tup (pv 0) pe_int (fun _ _ => rfl)) pe_str (nomark _)))))
      (pss_one (ps_ret (pe_lst (pa_cons (pe_op op_add pe_int (pe_ix ix_list (pe_ix ix_list (pv 1) pe_int (fun _ _ => rfl)) pe_int (fun _ _ => rfl))) (pa_cons (pe_op op_add pe_int (pe_ix ix_list (pe_ix ix_list (pv 1) pe_int (fun _ _ => rfl)) pe_int (fun _ _ => rfl))) pa_nil))))) pss_nil)
    (pss_cons (ps_if (pt_cmpR op_eq (pe_ix ix_tup (pv 0) pe_int (fun _ _ => rfl)) pe_str (nomark _))
      (pss_one (ps_ret (pe_lc (own := [("_law_k", 3)]) (g := gName 3) (tt := tYes) rfl scNeedsL.nd (pi_range1 rfl E1.range (pa_cons pe_int pa_nil)) (blkOk_by (N := ["_law_tree", "_law_below", "_law_one", "_law_k"]) (sc := defScope sNeedsL) (by decide +kernel))
        (fun _ _ _ _ _ => pg_name (i := 3) scNeedsL.nd rfl (Or.inl rfl)) (fun _ _ _ _ _ => pts_nil)
        (fun _ _ _ _ _ => pe_op op_add pe_int (pe_callB (r := rMax K) (cr_max rfl) rfl E1.max (by decide +kernel) (pa_cons (pe_op op_cat (pe_ix (r := rIxL K) ix_list (pv 1) pe_int (fun _ _ => rfl)) (pe_ix (r := rIxL K) ix_list (pv 1) pe_int (fun _ _ => rfl))) pa_nil)))))) pss_nil)
    (pss_cons (ps_if (pt_cmpR op_eq (pe_ix ix_tup (pv 0) pe_int (fun _ _ => rfl)) pe_str (nomark _))
      (pss_one (ps_ret (pe_lst (pa_cons (pe_op op_add (pe_op op_mul pe_int (pe_callB call_len_seq rfl E1.len boot_len (pa_cons (pe_ix ix_tup (pv 0) pe_int (fun _ _ => rfl)) pa_nil))) (pe_ix ix_list (pe_ix ix_list (pv 1) pe_int (fun _ _ => rfl)) pe_int (fun _ _ => rfl)))
        (pa_cons (pe_op op_add (pe_op op_add (pe_op op_mul pe_int (pe_callB call_len_seq rfl E1.len boot_len (pa_cons (pe_ix ix_tup (pv 0) pe_int (fun _ _ => rfl)) pa_nil))) pe_int) (pe_callB (cr_max rfl) rfl E1.max (by decide +kernel) (pa_cons (pe_ix ix_list (pv 1) pe_int (fun _ _ => rfl)) pa_nil))) pa_nil))))) pss_nil)
    (pss_one (ps_ret (pe_lst (pa_cons pe_int (pa_cons pe_int pa_nil)))))))))), ?_⟩
  obtain ⟨a, x, xs, rfl, hS, hxs⟩ := at_seq hd
  refine ⟨_, rfl, .ref a, t, rfl, hd, hg, fun H1 p1 ys s1 n1 t1 b1 => ⟨p1, rfl, ⟨_, SqL.of t1⟩, fun T hT => ?_⟩⟩
  have few := sub_few t
  refine lc_list (K := K) (a := p1) (xs := ys) (fun i H6 => ∃ zs : List V, H6 T = some (.lst zs) ∧ zs.length = i ∧ Same H1 H6 ∧ ∀ (k : Nat) (z : V), zs[k]? = some z → ∃ (u : List Str × Tr) (p : Addr), t.sub[k]? = some u ∧ z = .ref p ∧ p ≠ T ∧ H6 p = some (.lst [.int u.2.need.1, .int u.2.need.2]))
    ⟨[], upd_same, rfl, same_new hT _, fun k y e => by simp at e⟩ (fun i H6 _ ⟨_, _, _, s6, _⟩ => SqL.of (s6 _ _ t1)) ?_ ?_
  · rintro i y H6 hy ⟨zs, k1, k2, s6, k4⟩
    obtain ⟨u, hu, o, bt, pv, rfl, g1, g2, g3⟩ := b1.2 i y hy
    obtain ⟨gu, du⟩ := Tr.sub_good hg u.1 u.2 (List.mem_of_getElem? hu)
    have il : i < t.sub.length := (List.getElem?_eq_some_iff.mp hu).1
    refine ⟨rfl, ?_⟩
    refine ⟨_, rfl, o, _, 0, _, rfl, rfl, SqL.of (s6 _ _ g1), rfl, pv, u.2, rfl, g2.keep (keep_of s6), gu, by omega, fun H7 p7 s7 n7 t7 => ?_⟩
    have nT : p7 ≠ T := fun z => by rw [z, k1] at n7; cases n7
    refine ⟨zs, s7 _ _ k1, small1000 (by omega), zs ++ [.ref p7], upd_same, by rw [List.length_append, k2]; rfl, same_upd (s6.trans s7) hT _, fun k z hz => ?_⟩
    by_cases hk : k < zs.length
    · rw [List.getElem?_append_left hk] at hz
      obtain ⟨u2, p2, e1, e2, e3, e4⟩ := k4 k z hz
      exact ⟨u2, p2, e1, e2, e3, by rw [upd_ne e3]; exact s7 _ _ e4⟩
    · rw [List.getElem?_append_right (by omega)] at hz
      have hk2 : k - zs.length = 0 := by
        have := (List.getElem?_eq_some_iff.mp hz).1
        rw [List.length_singleton] at this
        omega
      rw [hk2] at hz
      obtain rfl : V.ref p7 = z := Option.some.inj hz
      have hk3 : k = i := by omega
      subst hk3
      exact ⟨u, p7, hu, rfl, nT, by rw [upd_ne nT]; exact t7⟩
  rintro H2 ⟨zs, k1, k2, s2, k4⟩
  have hl : zs.length = t.sub.length := k2.trans b1.1
  have hy : ∀ (i : Nat) (y : V), zs[i]? = some y → ∃ u, t.sub[i]? = some u ∧ PairL H2 y u.2.need := fun i y e => by
    obtain ⟨u, p, e1, e2, _, e4⟩ := k4 i y e
    exact ⟨u, e1, p, e2, e4⟩
  have s02 := s1.trans s2
  have hS2 := SqT.of (K := K) (s02 _ _ hS)
  clear k4 hd
  cases t with
  | rel nm vs =>
    obtain ⟨x0, ys0, e0, h0, c0⟩ := tds_cons hxs
    cases e0
    obtain rfl := td_str h0
    refine ⟨_, rfl, a, _, 0, _, rfl, rfl, hS2, at_hd, rfl, false, bl_ne (str_ne (by decide +kernel)), ?_⟩
    refine eq2t_no rfl hS2 (by decide +kernel) (eq2t_no rfl hS2 (by decide +kernel) ?_)
    refine ⟨_, rfl, a, _, 0, _, rfl, rfl, hS2, at_hd, rfl, false, bl_ne (str_ne (by decide +kernel)), ?_⟩
    refine ⟨_, rfl, a, _, 0, _, rfl, rfl, hS2, at_hd, rfl, false, bl_ne (str_ne (by decide +kernel)), ?_⟩
    exact ⟨two_line, fun p hp => q _ p (s02.trans (same_new hp _)) (s02.free hp) upd_same⟩
  | atm wd vs =>
    obtain ⟨x0, ys0, e0, h0, c0⟩ := tds_cons hxs
    cases e0
    obtain rfl := td_str h0
    obtain ⟨w1, w2, w3, w4, w5, _⟩ := atm_words hg
    refine ⟨_, rfl, a, _, 0, _, rfl, rfl, hS2, at_hd, rfl, false, bl_ne (str_ne w1), ?_⟩
    refine eq2t_no rfl hS2 w2 (eq2t_no rfl hS2 w3 ?_)
    refine ⟨_, rfl, a, _, 0, _, rfl, rfl, hS2, at_hd, rfl, false, bl_ne (str_ne w4), ?_⟩
    refine ⟨_, rfl, a, _, 0, _, rfl, rfl, hS2, at_hd, rfl, false, bl_ne (str_ne w5), ?_⟩
    exact ⟨two_line, fun p hp => q _ p (s02.trans (same_new hp _)) (s02.free hp) upd_same⟩
  | neg p =>
    obtain ⟨x0, ys0, e0, h0, c0⟩ := tds_cons hxs
    cases e0
    obtain rfl := td_str h0
    obtain ⟨o, rfl, ho⟩ := belowL1 rfl hl hy
    refine ⟨_, rfl, a, _, 0, _, rfl, rfl, hS2, at_hd, rfl, true, bl_eq rfl, ?_⟩
    refine ⟨_, rfl, T, _, 0, _, rfl, rfl, SqL.of k1, rfl, o, _, 1, _, rfl, rfl, SqL.of ho, rfl, ?_⟩
    refine ⟨_, rfl, T, _, 0, _, rfl, rfl, SqL.of k1, rfl, o, _, 0, _, rfl, rfl, SqL.of ho, rfl, ?_⟩
    exact ⟨two_line, fun p hp => q _ p (s02.trans (same_new hp _)) (s02.free hp) upd_same⟩
  | bin wd p1 p2 =>
    obtain ⟨x0, ys0, e0, h0, c0⟩ := tds_cons hxs
    cases e0
    obtain rfl := td_str h0
    obtain ⟨gw, g1, g2⟩ := hg
    obtain ⟨o1, o2, rfl, ho1, ho2⟩ := belowL2 rfl hl hy
    refine ⟨_, rfl, a, _, 0, _, rfl, rfl, hS2, at_hd, rfl, false, bl_ne (str_ne (bin_words gw).1), ?_⟩
    refine eq2t_yes rfl hS2 gw ?_
    refine ⟨2, rfl, by decide, by decide, fun F hF => ?_⟩
    refine lc_range (lo := 0) (n := 2) (fun k H6 => Same H2 H6 ∧ H6 F = some (.lst ([V.int (Tr.bin wd p1 p2).need.1, V.int (Tr.bin wd p1 p2).need.2].take k))) ⟨same_new hF _, upd_same⟩ ?_ ?_
    · rintro k H6 hk ⟨s6, k6⟩
      rcases (by omega : k = 0 ∨ k = 1) with rfl | rfl
      · exact ⟨rfl, _, rfl, T, _, 0, _, rfl, rfl, SqL.of (s6 _ _ k1), rfl, _, rfl, o1, _, _, _, rfl, rfl, SqL.of (s6 _ _ ho1), at_of (j := 0) rfl rfl, _, rfl, T, _, 1, _, rfl, rfl, SqL.of (s6 _ _ k1), rfl, _, rfl, o2, _, _, _, rfl, rfl, SqL.of (s6 _ _ ho2), at_of (j := 0) rfl rfl, _, _, rfl, _, k6, few_take, same_upd s6 hF _, upd_same⟩
      · exact ⟨rfl, _, rfl, T, _, 0, _, rfl, rfl, SqL.of (s6 _ _ k1), rfl, _, rfl, o1, _, _, _, rfl, rfl, SqL.of (s6 _ _ ho1), at_of (j := 1) rfl rfl, _, rfl, T, _, 1, _, rfl, rfl, SqL.of (s6 _ _ k1), rfl, _, rfl, o2, _, _, _, rfl, rfl, SqL.of (s6 _ _ ho2), at_of (j := 1) rfl rfl, _, _, rfl, _, k6, few_take, same_upd s6 hF _, upd_same⟩
    · rintro H6 ⟨s6, k6⟩
      exact q _ F (s02.trans s6) (s02.free hF) k6
  | qu wd z p =>
    obtain ⟨x0, ys0, e0, h0, c0⟩ := tds_cons hxs
    cases e0
    obtain rfl := td_str h0
    obtain ⟨gw, g1, g2⟩ := hg
    obtain ⟨w1, w2, _⟩ := qu_words gw
    obtain ⟨o, rfl, ho⟩ := belowL1 rfl hl hy
    refine ⟨_, rfl, a, _, 0, _, rfl, rfl, hS2, at_hd, rfl, false, bl_ne (str_ne w1), ?_⟩
    refine eq2t_no rfl hS2 w2 (eq2t_yes rfl hS2 gw ?_)
    refine ⟨_, rfl, T, _, 0, _, rfl, rfl, SqL.of k1, rfl, o, _, 0, _, rfl, rfl, SqL.of ho, rfl, _, _, rfl, rfl, ?_⟩
    refine ⟨_, rfl, T, _, 0, _, rfl, rfl, SqL.of k1, rfl, o, _, 1, _, rfl, rfl, SqL.of ho, rfl, _, _, rfl, rfl, ?_⟩
    exact ⟨two_line, fun p hp => q _ p (s02.trans (same_new hp _)) (s02.free hp) upd_same⟩
  | mo z p1 y p2 =>
    obtain ⟨x0, ys0, e0, h0, c0⟩ := tds_cons hxs
    cases e0
    obtain rfl := td_str h0
    obtain ⟨o1, o2, rfl, ho1, ho2⟩ := belowL2 rfl hl hy
    refine ⟨_, rfl, a, _, 0, _, rfl, rfl, hS2, at_hd, rfl, false, bl_ne (str_ne (by decide +kernel)), ?_⟩
    refine eq2t_no rfl hS2 (by decide +kernel) (eq2t_no rfl hS2 (by decide +kernel) ?_)
    refine ⟨_, rfl, a, _, 0, _, rfl, rfl, hS2, at_hd, rfl, true, bl_eq rfl, ?_⟩
    refine ⟨2, rfl, by decide, by decide, fun F hF => ?_⟩
    refine lc_range (lo := 0) (n := 2) (fun k H6 => Same H2 H6 ∧ H6 F = some (.lst ([V.int (Tr.mo z p1 y p2).need.1, V.int (Tr.mo z p1 y p2).need.2].take k))) ⟨same_new hF _, upd_same⟩ ?_ ?_
    · rintro k H6 hk ⟨s6, k6⟩
      refine ⟨rfl, _, rfl, T, _, 0, _, rfl, rfl, SqL.of (s6 _ _ k1), rfl, _, rfl, T, _, 1, _, rfl, rfl, SqL.of (s6 _ _ k1), rfl, o1, o2, _, _, rfl, rfl, s6 _ _ ho1, s6 _ _ ho2, (by decide : 4 ≤ sizeLine), fun pc hc => ?_⟩
      refine ⟨pc, [p1.need.1, p1.need.2, p2.need.1, p2.need.2], rfl, SqL.of upd_same, Nat.zero_lt_succ _, fun m hm hle => ?_⟩
      obtain rfl := max_four hm hle
      have t7 := same_new hc (HO.lst [V.int p1.need.1, V.int p1.need.2, V.int p2.need.1, V.int p2.need.2])
      have k7 := t7 _ _ k6
      rcases (by omega : k = 0 ∨ k = 1) with rfl | rfl
      · exact ⟨5, _, rfl, rfl, _, k7, few_take, same_upd (s6.trans t7) hF _, upd_same⟩
      · exact ⟨5, _, rfl, rfl, _, k7, few_take, same_upd (s6.trans t7) hF _, upd_same⟩
    · rintro H6 ⟨s6, k6⟩
      exact q _ F (s02.trans s6) (s02.free hF) k6
  | wk l m p st g =>
    obtain ⟨x0, ys0, e0, h0, c0⟩ := tds_cons hxs
    cases e0
    obtain ⟨x1, ys1, rfl, h1', c1⟩ := tds_cons c0
    obtain rfl := td_str h0
    obtain ⟨l1, y1, rfl, w1, e1⟩ := td_tup h1'
    obtain rfl := strs_td e1
    obtain ⟨o, rfl, ho⟩ := belowL1 rfl hl hy
    refine ⟨_, rfl, a, _, 0, _, rfl, rfl, hS2, at_hd, rfl, false, bl_ne (str_ne (by decide +kernel)), ?_⟩
    refine eq2t_no rfl hS2 (by decide +kernel) (eq2t_no rfl hS2 (by decide +kernel) ?_)
    refine ⟨_, rfl, a, _, 0, _, rfl, rfl, hS2, at_hd, rfl, false, bl_ne (str_ne (by decide +kernel)), ?_⟩
    refine ⟨_, rfl, a, _, 0, _, rfl, rfl, hS2, at_hd, rfl, true, bl_eq rfl, ?_⟩
    refine ⟨_, rfl, a, _, 1, _, rfl, rfl, hS2, at_of (j := 1) rfl rfl, l1, _, rfl, .inr (SqT.of (s02 _ _ w1)), 2, _, rfl, rfl, .inl ⟨by decide, by decide⟩, ?_⟩
    refine ⟨_, rfl, T, _, 0, _, rfl, rfl, SqL.of k1, rfl, o, _, 0, _, rfl, rfl, SqL.of ho, rfl, _, _, rfl, rfl, ?_⟩
    refine ⟨_, rfl, a, _, 1, _, rfl, rfl, hS2, at_of (j := 1) rfl rfl, l1, _, rfl, .inr (SqT.of (s02 _ _ w1)), 9, _, rfl, rfl, .inl ⟨by decide, by decide⟩, _, 1, rfl, rfl, ?_⟩
    refine ⟨_, rfl, T, _, 0, _, rfl, rfl, SqL.of k1, rfl, o, [p.need.1, p.need.2], rfl, SqL.of ho, Nat.zero_lt_succ _, fun mm hm hle => ?_⟩
    obtain rfl := max_two hm hle
    refine ⟨_, _, rfl, rfl, two_line, fun p3 hp3 => q _ p3 (s02.trans (same_new hp3 _)) (s02.free hp3) ?_⟩
    rw [upd_same]
    show some (HO.lst [V.int (2 * ((l.map V.str).length : Int) + p.need.1), V.int (9 * ((l.map V.str).length : Int) + 1 + Tr.mx p.need.1 p.need.2)]) = _
    rw [List.length_map]
    rfl
theorem cal_needsL_all (E1 : Env1 K mg) (D : Def K mg "_law_needs" sNeedsL) (cb : Cal P w K mg base CX0 1 "_law_bound" spBound) : ∀ n : Nat, Cal P w K mg base CX0 (n + 1) "_law_needs" (spNeedsL n)
  | 0 => cal_void (ps := ["_law_tree"]) D (fun vs H Q E ⟨v, t, _, _, _, h, _⟩ => by
      have := t.deep_pos
      omega) (fun _ _ _ _ _ _ us hl => match us, hl with | [_], _ => rfl)
  | n + 1 => cal_needsL E1 D cb (cal_needsL_all E1 D cb n)
end
end K52

set_option maxRecDepth 100000
set_option maxHeartbeats 4000000
namespace K52
open PySem PySem.Spec PyProof.Rows L2
/-! ### the names of a walk -/
def nmP (pre : Str) (j : Nat) : Str := pre ++ (toString (0 + (j : Int)) : Str)
theorem nm_l : ∀ j < 60, isNm (nmP "l" j) = true := by decide +kernel
theorem nm_x : ∀ j < 60, isNm (nmP "x" j) = true := by decide +kernel
theorem nm_m : ∀ j < 60, isNm (nmP "m" j) = true := by decide +kernel
theorem nd_l : ((List.range 60).map (nmP "l") ++ (List.range 60).map (nmP "m")).Nodup := by decide +kernel
theorem nd_x : ((List.range 60).map (nmP "x") ++ (List.range 60).map (nmP "m")).Nodup := by decide +kernel
theorem num_log : ∀ j : Nat, j < 60 → (0 + (j : Int)).natAbs.log2 < 1920 := by decide +kernel
theorem num_len : ∀ j : Nat, j < 60 → ((toString (0 + (j : Int)) : Str)).length ≤ 10 := by decide +kernel
theorem range_take {w : Nat} (h : w ≤ 60) : List.range w = (List.range 60).take w := by rw [List.take_range, Nat.min_eq_left h]
theorem walk_nd {pre : Str} (hp : pre ∈ (["l", "x"] : List Str)) {w : Nat} (h : w ≤ 60) : ((List.range w).map (nmP pre) ++ (List.range w).map (nmP "m")).Nodup := by
  have key : ∀ pre : Str, ((List.range 60).map (nmP pre) ++ (List.range 60).map (nmP "m")).Nodup → ((List.range w).map (nmP pre) ++ (List.range w).map (nmP "m")).Nodup := fun pre hn => by
    rw [range_take h]
    refine List.Nodup.sublist ?_ hn
    exact List.Sublist.append ((List.take_sublist _ _).map _) ((List.take_sublist _ _).map _)
  simp only [List.mem_cons, List.not_mem_nil, or_false] at hp
  rcases hp with rfl | rfl
  · exact key _ nd_l
  · exact key _ nd_x
theorem walk_nm {pre : Str} (hp : pre ∈ (["l", "x"] : List Str)) {w : Nat} (h : w ≤ 60) : ∀ v ∈ (List.range w).map (nmP pre) ++ (List.range w).map (nmP "m"), isNm v = true := fun v hv => by
  have lt : ∀ j ∈ List.range w, j < 60 := fun j hj => Nat.lt_of_lt_of_le (List.mem_range.mp hj) h
  rcases List.mem_append.mp hv with e | e
  · obtain ⟨j, hj, rfl⟩ := List.mem_map.mp e
    simp only [List.mem_cons, List.not_mem_nil, or_false] at hp
    rcases hp with rfl | rfl
    · exact nm_l j (lt j hj)
    · exact nm_x j (lt j hj)
  · obtain ⟨j, hj, rfl⟩ := List.mem_map.mp e
    exact nm_m j (lt j hj)
theorem texts_at {l : List Str} (z : Int) (h : 0 < l.length) : ∃ p, p ∈ l ∧ atI (l.map V.str) (z % (l.length : Int)) = some (.str p) := by
  obtain ⟨j, ej, hj⟩ := nat_of_mod (i := z) h
  refine ⟨l[j], List.getElem_mem hj, ?_⟩
  rw [ej]
  exact atI_nat (by rw [List.getElem?_map, List.getElem?_eq_getElem hj]; rfl)
abbrev widths : List Nat := [1, 1, 2, 3, 1, 2, 7, 60, 5, 1, 4, 20]
theorem width_at {j : Nat} (h : j < 12) : ∃ n : Nat, 1 ≤ n ∧ n ≤ 60 ∧ atI (widths.map fun n : Nat => V.int (n : Int)) (j : Int) = some (.int (n : Int)) := by
  have hj : j < widths.length := h
  have hb : ∀ n ∈ widths, 1 ≤ n ∧ n ≤ 60 := by decide
  obtain ⟨b1, b2⟩ := hb _ (List.getElem_mem hj)
  exact ⟨widths[j], b1, b2, atI_nat (by rw [List.getElem?_map, List.getElem?_eq_getElem hj]; rfl)⟩
/-! ### a tree at hand, with its bounds -/
def TreeV (H : Hp) (v : V) (d s : Nat) : Prop := ∃ t : Tr, At H t v ∧ t.Good ∧ t.deep ≤ d ∧ t.size ≤ s
theorem TreeV.keep {H H' : Hp} {v : V} {d s : Nat} (h : TreeV H v d s) (k : Keep H H') : TreeV H' v d s := by
  obtain ⟨t, h1, h2⟩ := h
  exact ⟨t, h1.keep k, h2⟩
theorem AtomV.tree {H : Hp} {v : V} (h : AtomV H v) : TreeV H v 1 1 := by
  obtain ⟨t, h1, h2, h3⟩ := h
  cases h1 with
  | rel nm vs => exact ⟨_, h3, h2, Nat.le_refl _, Nat.le_refl _⟩
  | atm wd vs => exact ⟨_, h3, h2, Nat.le_refl _, Nat.le_refl _⟩
theorem TreeV.up {H : Hp} {v : V} {d d' s s' : Nat} (h : TreeV H v d s) (hd : d ≤ d') (hs : s ≤ s') : TreeV H v d' s' := by
  obtain ⟨t, h1, h2, h3, h4⟩ := h
  exact ⟨t, h1, h2, Nat.le_trans h3 hd, Nat.le_trans h4 hs⟩
theorem tree_neg {H : Hp} {p : Addr} {v : V} {d s : Nat} (hp : H p = none) (h : TreeV H v d s) : TreeV (upd H p (.tup [.str "not", v])) (.ref p) (d + 1) (s + 1) := by
  obtain ⟨t, h1, h2, h3, h4⟩ := h
  exact ⟨.neg t, Td.tup upd_same (.cons (.str _) (.cons (h1.keep (keep_new hp _)) .nil)), h2, Nat.succ_le_succ h3, Nat.succ_le_succ h4⟩
theorem tree_bin {H : Hp} {p : Addr} {v u : V} {wd : Str} {d d2 s s2 : Nat} (hw : wd ∈ (["and", "or"] : List Str)) (hp : H p = none) (h : TreeV H v d s) (g : TreeV H u d2 s2) : TreeV (upd H p (.tup [.str wd, v, u])) (.ref p) (max d d2 + 1) (s + s2 + 1) := by
  obtain ⟨t, h1, h2, h3, h4⟩ := h
  obtain ⟨t2, g1, g2, g3, g4⟩ := g
  exact ⟨.bin wd t t2, Td.tup upd_same (.cons (.str _) (.cons (h1.keep (keep_new hp _)) (.cons (g1.keep (keep_new hp _)) .nil))), ⟨hw, h2, g2⟩, by show max t.deep t2.deep + 1 ≤ _; omega, by show t.size + t2.size + 1 ≤ _; omega⟩
theorem tree_qu {H : Hp} {p : Addr} {v : V} {wd z : Str} {d s : Nat} (hw : wd ∈ (["some", "every"] : List Str)) (hz : z ∈ menu) (hp : H p = none) (h : TreeV H v d s) : TreeV (upd H p (.tup [.str wd, .str z, v])) (.ref p) (d + 1) (s + 1) := by
  obtain ⟨t, h1, h2, h3, h4⟩ := h
  exact ⟨.qu wd z t, Td.tup upd_same (.cons (.str _) (.cons (.str _) (.cons (h1.keep (keep_new hp _)) .nil))), ⟨hw, hz, h2⟩, Nat.succ_le_succ h3, Nat.succ_le_succ h4⟩
theorem tree_mo {H : Hp} {p : Addr} {v u : V} {y z : Str} {d d2 s s2 : Nat} (hz : z ∈ menu) (hy : y ∈ menu) (hp : H p = none) (h : TreeV H v d s) (g : TreeV H u d2 s2) : TreeV (upd H p (.tup [.str "more", .str z, v, .str y, u])) (.ref p) (max d d2 + 1) (s + s2 + 1) := by
  obtain ⟨t, h1, h2, h3, h4⟩ := h
  obtain ⟨t2, g1, g2, g3, g4⟩ := g
  exact ⟨.mo z t y t2, Td.tup upd_same (.cons (.str _) (.cons (.str _) (.cons (h1.keep (keep_new hp _)) (.cons (.str _) (.cons (g1.keep (keep_new hp _)) .nil))))), ⟨hz, hy, h2, g2⟩, by show max t.deep t2.deep + 1 ≤ _; omega, by show t.size + t2.size + 1 ≤ _; omega⟩
theorem tree_wk {H : Hp} {p l r s g : Addr} {v : V} {ls rs ss gs : List Str} {d n : Nat} (hp : H p = none) (hl : H l = some (.tup (ls.map V.str))) (hr : H r = some (.tup (rs.map V.str))) (hs : H s = some (.tup (ss.map V.str))) (hg : H g = some (.tup (gs.map V.str)))
    (h1 : 1 ≤ ls.length) (h2 : ls.length ≤ 60) (h3 : rs.length = ls.length) (h4 : ss.length = ls.length) (h5 : gs.length = ls.length) (nd : (ls ++ rs).Nodup) (nm : ∀ v ∈ ls ++ rs, isNm v = true) (ms : ∀ v ∈ ss, v ∈ menu) (mg : ∀ v ∈ gs, v ∈ menu) (h : TreeV H v d n) :
    TreeV (upd H p (.tup [.str "walk", .ref l, .ref r, v, .ref s, .ref g])) (.ref p) (d + 1) (n + 1) := by
  obtain ⟨t, k1, k2, k3, k4⟩ := h
  have kp := keep_new hp (.tup [.str "walk", .ref l, .ref r, v, .ref s, .ref g])
  refine ⟨.wk ls rs t ss gs, Td.tup upd_same (.cons (.str _) (.cons (.tup (kp _ _ hl) (td_strs ls)) (.cons (.tup (kp _ _ hr) (td_strs rs)) (.cons (k1.keep kp) (.cons (.tup (kp _ _ hs) (td_strs ss)) (.cons (.tup (kp _ _ hg) (td_strs gs)) .nil)))))),
    ⟨⟨h1, h2, h3, h4, h5⟩, nd, nm, fun x hx => ?_, k2⟩, Nat.succ_le_succ k3, Nat.succ_le_succ k4⟩
  rcases List.mem_append.mp hx with e | e
  · exact ms x e
  · exact mg x e
theorem trees_at {H : Hp} {vs : List V} {d s j : Nat} (h : ∀ v ∈ vs, TreeV H v d s) (hj : j < vs.length) : ∃ v, atI vs (j : Int) = some v ∧ TreeV H v d s := ⟨vs[j], atI_nat (List.getElem?_eq_getElem hj), h _ (List.getElem_mem hj)⟩
def Trees (H : Hp) (vs : List V) (d s : Nat) : Prop := ∀ v ∈ vs, TreeV H v d s
theorem trees_nil {H : Hp} {d s : Nat} : Trees H [] d s := fun _ h => nomatch h
theorem Trees.snoc {H H' : Hp} {vs : List V} {v : V} {d s : Nat} (h : Trees H vs d s) (k : Keep H H') (x : TreeV H' v d s) : Trees H' (vs ++ [v]) d s := fun y hy => by
  rcases List.mem_append.mp hy with g | g
  · exact (h y g).keep k
  · rw [List.mem_singleton.mp g]
    exact x
theorem Trees.keep {H H' : Hp} {vs : List V} {d s : Nat} (h : Trees H vs d s) (k : Keep H H') : Trees H' vs d s := fun y hy => (h y hy).keep k
theorem eqV_str (x y : Str) : eqV (.str x) (.str y) = decide (x = y) := by
  show (x == y) = decide (x = y)
  by_cases e : x = y
  · subst e
    simp
  · simp [e]
theorem strs_snoc (zs : List Str) (z : Str) : zs.map V.str ++ [V.str z] = (zs ++ [z]).map V.str := by rw [List.map_append]; rfl
theorem menu_ix (z : Int) : ∃ p, p ∈ menu ∧ atI (menu.map V.str) (z % 14) = some (.str p) := texts_at (l := menu) z (by decide)
theorem cutIf {c : TT} {s1 s2 R : TS} {D : Ends} {σ : L2.St} {H : Hp} (Pv : L2.St → Hp → Prop) (h : ∀ R' : TS, (∀ σ' H', Pv σ' H' → R' D σ' H') → tSeq (tIfS c s1 s2) R' D σ H) (k : ∀ σ' H', Pv σ' H' → R D σ' H') : tSeq (tIfS c s1 s2) R D σ H := h R k
end K52

set_option maxRecDepth 100000
set_option maxHeartbeats 4000000
namespace K52
open PySem PySem.Spec PyProof.Rows L2
section
variable {P : Program} {w : World} {K : PySem.W.Frag} {mg : Str → Option Value} {base : Heap}
abbrev sChain : Stmt := top 58
abbrev chN : List Str := ["_law_row_here", "_law_at", "_law_many", "_law_menu", "_law_tree", "_law_heavy", "_law_k", "_law_kind", "_law_other", "_law_new", "_law_width", "_law_turn", "_law_begin", "_law_end", "_law_left", "_law_j"]
def spChain : Sp := fun vs H Q _ => ∃ (r a : Addr) (m k : Nat), vs = [.ref r, .ref a, .int (m : Int)] ∧ Rw H r a k ∧ m ≤ 60 ∧ k ≤ 1000 ∧ ∀ (H' : Hp) (v : V) (k' : Nat), SameBut a H H' → Rw H' r a k' → k' ≤ k + 4 + 8 * m → TreeV H' v (m + 1) (2 * m + 1) → Q v H'
theorem scChain : FnScope chN ["_law_row_here", "_law_at", "_law_many"] (defScope sChain) := ⟨rfl, rfl, rfl, by decide +kernel, rfl, by decide +kernel, by decide +kernel⟩
/-- behind i turns -/
def ChInv (r a mn : Addr) (m k : Nat) (H0 : Hp) (i : Nat) (σ : L2.St) (H2 : Hp) : Prop := ∃ (tv : V) (h : Int) (kk : Nat) (c6 c7 c8 c9 c10 c11 c12 c13 c14 : Option V),
  σ = [some (.ref r), some (.ref a), some (.int (m : Int)), some (.ref mn), some tv, some (.int h), c6, c7, c8, c9, c10, c11, c12, c13, c14, none] ∧ SameBut a H0 H2 ∧ Rw H2 r a kk ∧ kk ≤ k + 4 + 8 * i ∧ H2 mn = some (.lst (menu.map V.str)) ∧ TreeV H2 tv (i + 1) (2 * i + 1)
theorem four_line : 4 ≤ sizeLine := by decide
theorem six_line : 6 ≤ sizeLine := by decide
theorem cal_chain (E1 : Env1 K mg) (D : Def K mg "_law_chain" sChain) (ct : Cal P w K mg base CX0 1 "_law_take" spTake) (ca : Cal P w K mg base CX0 2 "_law_atom" spAtom) : Cal P w K mg base CX0 3 "_law_chain" spChain := by
  refine cal_mk D scChain (fun _ _ _ _ _ _ us hl => match us, hl with | [_, _, _], _ => rfl) (fun vs H Q E h => ?_) (fun f cdv A outer s H vs Q E hr h => ?_)
  · obtain ⟨r, a, m, k, rfl, _⟩ := h
    rfl
  obtain ⟨r, a, m, k, rfl, hw, hm, hk, q⟩ := h
  refine ⟨_, (pss_cons (ps_set (i := 3) scChain.nd rfl (Or.inr rfl) (pe_lst (pa_cons pe_str (pa_cons pe_str (pa_cons pe_str (pa_cons pe_str (pa_cons pe_str (pa_cons pe_str (pa_cons pe_str (pa_cons pe_str (pa_cons pe_str (pa_cons pe_str (pa_cons pe_str (pa_cons pe_str (pa_cons pe_str (pa_cons pe_str pa_nil))))))))))))))))
    (pss_cons (ps_set (i := 4) scChain.nd rfl (Or.inl rfl) (pe_c ca hr (Nat.le_refl _) (pa_cons (pv 0) (pa_cons (pv 1) (pa_cons (pe_lst (pa_cons pe_str (pa_cons pe_str (pa_cons pe_str (pa_cons pe_str pa_nil))))) (pa_cons (pv 3) pa_nil))))))
    (pss_cons (ps_set (i := 5) scChain.nd rfl (Or.inl rfl) pe_int)
    (pss_cons (ps_for PassesOwn.never rfl (pi_range1 rfl E1.range (pa_cons (pv 2) pa_nil)) (pg_name (i := 6) scChain.nd rfl (Or.inr rfl))
      (pss_cons (ps_set (i := 7) scChain.nd rfl (Or.inl rfl) (pe_c ct hr (by decide) (pa_cons (pv 0) (pa_cons (pv 1) (pa_cons pe_int pa_nil)))))
      (pss_cons (ps_set (i := 5) scChain.nd rfl (Or.inl rfl) (pe_op op_add (pv 5) (pe_toInt rfl E1.int (pe_cmpR op_gt (pv 7) pe_int (nomark _)))))
      (pss_cons (ps_if (pt_cmpR op_gt (pv 5) pe_int (nomark _)) (pss_one (ps_set (i := 7) scChain.nd rfl (Or.inl rfl) (pe_op op_mod (pe_toInt rfl E1.int (pv 7)) pe_int))) pss_nil)
      (pss_cons (ps_set (i := 8) scChain.nd rfl (Or.inl rfl) (pe_c ca hr (Nat.le_refl _) (pa_cons (pv 0) (pa_cons (pv 1) (pa_cons (pe_lst (pa_cons pe_str (pa_cons pe_str (pa_cons pe_str (pa_cons pe_str pa_nil))))) (pa_cons (pv 3) pa_nil))))))
      (pss_cons (ps_set (i := 9) scChain.nd rfl (Or.inl rfl) (pe_ix ix_list (pv 3) (pe_c ct hr (by decide) (pa_cons (pv 0) (pa_cons (pv 1) (pa_cons pe_int pa_nil)))) (fun _ _ => rfl)))
      (pss_one (ps_if (pt_cmpR op_lt (pv 7) pe_int (nomark _)) (pss_one (ps_set (i := 4) scChain.nd rfl (Or.inl rfl) (pe_tup (pa_cons pe_str (pa_cons (pv 4) pa_nil)))))
      (pss_one (ps_if (pt_cmpR op_lt (pv 7) pe_int (nomark _)) (pss_one (ps_set (i := 4) scChain.nd rfl (Or.inl rfl) (pe_ix ix_list (pe_lst (pa_cons (pe_tup (pa_cons pe_str (pa_cons (pv 4) (pa_cons (pv 8) pa_nil)))) (pa_cons (pe_tup (pa_cons pe_str (pa_cons (pv 8) (pa_cons (pv 4) pa_nil)))) (pa_cons (pe_tup (pa_cons pe_str (pa_cons (pv 4) (pa_cons (pv 8) pa_nil)))) (pa_cons (pe_tup (pa_cons pe_str (pa_cons (pv 8) (pa_cons (pv 4) pa_nil)))) pa_nil))))) (pe_op op_sub (pv 7) pe_int) (fun _ _ => rfl))))
      (pss_one (ps_if (pt_cmpR op_lt (pv 7) pe_int (nomark _)) (pss_one (ps_set (i := 4) scChain.nd rfl (Or.inl rfl) (pe_tup (pa_cons (pe_ix ix_list (pe_lst (pa_cons pe_str (pa_cons pe_str pa_nil))) (pe_op op_mod (pv 7) pe_int) (fun _ _ => rfl)) (pa_cons (pv 9) (pa_cons (pv 4) pa_nil))))))
      (pss_one (ps_if (pt_cmpR op_lt (pv 7) pe_int (nomark _)) (pss_one (ps_set (i := 4) scChain.nd rfl (Or.inl rfl) (pe_ix ix_list (pe_lst (pa_cons (pe_tup (pa_cons pe_str (pa_cons (pv 9) (pa_cons (pv 4) (pa_cons (pe_ix ix_list (pv 3) (pe_op op_sub (pv 7) pe_int) (fun _ _ => rfl)) (pa_cons (pv 8) pa_nil)))))) (pa_cons (pe_tup (pa_cons pe_str (pa_cons (pe_ix ix_list (pv 3) (pv 7) (fun _ _ => rfl)) (pa_cons (pv 8) (pa_cons (pv 9) (pa_cons (pv 4) pa_nil)))))) pa_nil))) (pe_op op_sub (pv 7) pe_int) (fun _ _ => rfl))))
      (pss_cons (ps_set (i := 10) scChain.nd rfl (Or.inl rfl) (pe_ix ix_list (pe_lst (pa_cons pe_int (pa_cons pe_int (pa_cons pe_int (pa_cons pe_int (pa_cons pe_int (pa_cons pe_int (pa_cons pe_int (pa_cons pe_int (pa_cons pe_int (pa_cons pe_int (pa_cons pe_int (pa_cons pe_int pa_nil))))))))))))) (pe_c ct hr (by decide) (pa_cons (pv 0) (pa_cons (pv 1) (pa_cons pe_int pa_nil)))) (fun _ _ => rfl)))
      (pss_cons (ps_set (i := 11) scChain.nd rfl (Or.inr rfl) (pe_c ct hr (by decide) (pa_cons (pv 0) (pa_cons (pv 1) (pa_cons pe_int pa_nil)))))
      (pss_cons (ps_set (i := 12) scChain.nd rfl (Or.inl rfl) (pe_callTy call_tuple_of rfl E1.tuple (by decide +kernel) (pa_cons (pe_lc (own := [("_law_j", 15)]) (g := gName 15) (tt := tYes) rfl scChain.nd (pi_range1 rfl E1.range (pa_cons (pv 10) pa_nil)) (blkOk_by (N := chN) (sc := defScope sChain) (by decide +kernel)) (fun _ _ _ _ _ => pg_name (i := 15) scChain.nd rfl (Or.inl rfl)) (fun _ _ _ _ _ => pts_nil) (fun _ _ _ _ _ => (pe_ix (r := rIxL K) ix_list (pv 3) (pe_op op_mod (pe_toInt rfl E1.int (pe_op op_add (pv 11) (pe_op op_mul (pv 15) (pe_op op_add pe_int (pe_op op_mod (pv 6) pe_int))))) pe_int) (fun _ _ => rfl)))) pa_nil)))
      (pss_cons (ps_set (i := 13) scChain.nd rfl (Or.inl rfl) (pe_callTy call_tuple_of rfl E1.tuple (by decide +kernel) (pa_cons (pe_lc (own := [("_law_j", 15)]) (g := gName 15) (tt := tYes) rfl scChain.nd (pi_range1 rfl E1.range (pa_cons (pv 10) pa_nil)) (blkOk_by (N := chN) (sc := defScope sChain) (by decide +kernel)) (fun _ _ _ _ _ => pg_name (i := 15) scChain.nd rfl (Or.inl rfl)) (fun _ _ _ _ _ => pts_nil) (fun _ _ _ _ _ => (pe_ix (r := rIxL K) ix_list (pv 3) (pe_op op_mod (pe_toInt rfl E1.int (pe_op op_add (pe_op op_add (pv 11) pe_int) (pe_op op_mul (pv 15) (pe_op op_add pe_int (pe_op op_mod (pv 6) pe_int))))) pe_int) (fun _ _ => rfl)))) pa_nil)))
      (pss_cons (ps_set (i := 14) scChain.nd rfl (Or.inl rfl) (pe_callTy call_tuple_of rfl E1.tuple (by decide +kernel) (pa_cons (pe_lc (own := [("_law_j", 15)]) (g := gName 15) (tt := tYes) rfl scChain.nd (pi_range1 rfl E1.range (pa_cons (pv 10) pa_nil)) (blkOk_by (N := chN) (sc := defScope sChain) (by decide +kernel)) (fun _ _ _ _ _ => pg_name (i := 15) scChain.nd rfl (Or.inl rfl)) (fun _ _ _ _ _ => pts_nil) (fun _ _ _ _ _ => (pe_op op_add_str (pe_ix (r := rIxL K) ix_list (pe_lst (pa_cons pe_str (pa_cons pe_str pa_nil))) (pe_op op_mod (pv 6) pe_int) (fun _ _ => rfl)) (pe_callTy call_str_int rfl E1.str (by decide +kernel) (pa_cons (pv 15) pa_nil))))) pa_nil)))
      (pss_cons (ps_set (i := 4) scChain.nd rfl (Or.inl rfl) (pe_tup (pa_cons pe_str (pa_cons (pv 14) (pa_cons (pe_callTy call_tuple_of rfl E1.tuple (by decide +kernel) (pa_cons (pe_lc (own := [("_law_j", 15)]) (g := gName 15) (tt := tYes) rfl scChain.nd (pi_range1 rfl E1.range (pa_cons (pv 10) pa_nil)) (blkOk_by (N := chN) (sc := defScope sChain) (by decide +kernel)) (fun _ _ _ _ _ => pg_name (i := 15) scChain.nd rfl (Or.inl rfl)) (fun _ _ _ _ _ => pts_nil) (fun _ _ _ _ _ => (pe_op op_add_str pe_str (pe_callTy call_str_int rfl E1.str (by decide +kernel) (pa_cons (pv 15) pa_nil))))) pa_nil)) (pa_cons (pv 4) (pa_cons (pv 12) (pa_cons (pv 13) pa_nil))))))))
      (pss_one (ps_if (PW.pt (pw_and (pt_cmpR op_eq (pv 10) pe_int (nomark _)) (pw_and1 (pt_cmpR op_eq (pv 7) pe_int (nomark _))))) (pss_one (ps_set (i := 4) scChain.nd rfl (Or.inl rfl) (pe_tup (pa_cons pe_str (pa_cons (pe_tup (pa_cons (pv 9) pa_nil)) (pa_cons (pe_tup (pa_cons (pe_ix ix_list (pv 3) (pe_op op_mod (pe_toInt rfl E1.int (pe_op op_add (pe_bm PySem.F.plainAttrs_list PySem.F.slot_list_index PySem.F.type_list_index mt_index (pv 3) (pa_cons (pv 9) pa_nil)) pe_int)) pe_int) (fun _ _ => rfl)) pa_nil)) (pa_cons (pe_ix ix_tup (pv 4) pe_int (fun _ _ => rfl)) (pa_cons (pv 12) (pa_cons (pv 13) pa_nil))))))))) pss_nil)))))))) ))))))))))))))
    (pss_one (ps_ret (pv 4))))))), ?_⟩
  refine ⟨(by decide : 14 ≤ sizeLine), fun mn i1 => ?_⟩
  have t1 := same_new i1 (HO.lst (menu.map V.str))
  refine ⟨_, rfl, _, rfl, four_line, fun nn i2 => ⟨_, rfl, ?_⟩⟩
  have t2 := same_new i2 (HO.lst (rels.map V.str))
  have w2 := hw.same (t1.trans t2)
  have m2 : upd (upd H mn (HO.lst (menu.map V.str))) nn (HO.lst (rels.map V.str)) mn = some (HO.lst (menu.map V.str)) := t2 _ _ upd_same
  refine ⟨r, a, nn, mn, k, rfl, w2, by omega, upd_same, m2, fun H3 tv e3 w3 av => ?_⟩
  have ma : mn ≠ a := ne_of m2 w2.at_ (by intro z; cases z)
  have m3 := e3 _ _ m2 ma
  have e03 := but_trans (but_same (t1.trans t2)) e3
  refine ⟨_, rfl, m, rfl, by omega, by omega, for_range (lo := 0) (n := m) (ChInv r a mn m k H) ⟨tv, 0, k + 4, none, none, none, none, none, none, none, none, none, rfl, e03, w3, by omega, m3, av.tree⟩ ?_ ?_⟩
  · rintro i σ H2 hi ⟨tv, h, kk, c6, c7, c8, c9, c10, c11, c12, c13, c14, rfl, e2, w2, k2, m2, t2⟩
    -- kind, heavy
    refine ⟨_, rfl, _, rfl, r, a, kk, 17, rfl, w2, by decide, by omega, fun kd H3 hkd e23 w3 => ?_⟩
    have e3 := but_trans e2 e23
    have m3 := e23 _ _ m2 ma
    have t3 := t2.keep (w2.keep e23)
    refine ⟨_, rfl, _, rfl, _, _, rfl, rfl, .inr ⟨_, rfl, _, _, rfl, rfl, ?_⟩⟩
    dsimp only [gName]
    refine cutIf (fun σ' H' => ∃ (h' z : Int), 0 ≤ z ∧ z < 17 ∧ H' = H3 ∧ σ' = [some (.ref r), some (.ref a), some (.int (m : Int)), some (.ref mn), some tv, some (.int h'), some (.int (0 + (i : Int))), some (.int z), c8, c9, c10, c11, c12, c13, c14, none]) (fun R k => ?_) ?_
    · refine ⟨_, rfl, _, 9, rfl, rfl, _, rfl, ?_⟩
      refine ite2 (fun _ => ?_) (fun _ => ?_)
      · refine ⟨_, rfl, .inl ⟨_, rfl, _, _, rfl, rfl, (by show (0 : Int) < 10; decide), ?_⟩⟩
        exact k _ _ ⟨_, _, Int.emod_nonneg _ (by decide), Int.lt_trans (Int.emod_lt_of_pos _ (by decide)) (by decide), rfl, rfl⟩
      · exact k _ _ ⟨_, _, Int.natCast_nonneg kd, by omega, rfl, rfl⟩
    rintro σ' H' ⟨h', z, hz0, hz, rfl, rfl⟩
    obtain ⟨kd', rfl⟩ : ∃ n : Nat, z = (n : Int) := ⟨z.toNat, by omega⟩
    -- other, new
    refine ⟨_, rfl, _, rfl, four_line, fun nn i2 => ⟨_, rfl, ?_⟩⟩
    have t4 := same_new i2 (HO.lst (rels.map V.str))
    have w4 := w3.same t4
    refine ⟨r, a, nn, mn, kk + 1, rfl, w4, by omega, upd_same, t4 _ _ m3, fun H5 ov e5 w5 av => ?_⟩
    have m5 := e5 _ _ (t4 _ _ m3) ma
    have t5 := (t3.keep (keep_of t4)).keep (w4.keep e5)
    have e05 := but_trans (but_trans e3 (but_same t4)) e5
    refine ⟨_, rfl, _, rfl, _, rfl, r, a, kk + 1 + 4, 14, rfl, w5, by decide, by omega, fun j6 H6 hj6 e6 w6 => ?_⟩
    obtain ⟨nw, hnw, enw⟩ := menu_at hj6
    have m6 := e6 _ _ m5 ma
    have t6 := t5.keep (w5.keep e6)
    have o6 := (av.keep (w5.keep e6)).tree
    have e06 := but_trans e05 e6
    refine ⟨mn, _, _, _, rfl, rfl, SqL.of m6, enw, ?_⟩
    have z0 : max (i + 1) 1 + 1 ≤ i + 1 + 1 := by omega
    have z1 : max 1 (i + 1) + 1 ≤ i + 1 + 1 := by omega
    have z2 : 2 * i + 1 + 1 + 1 ≤ 2 * (i + 1) + 1 := by omega
    have z3 : 1 + (2 * i + 1) + 1 ≤ 2 * (i + 1) + 1 := by omega
    by_cases c1 : kd' < 3
    · refine ⟨_, rfl, _, 3, rfl, rfl, true, bl_yes (by omega), ?_⟩
      refine ⟨_, rfl, two_line, fun p hp => ?_⟩
      exact ⟨_, _, _, _, _, _, _, _, _, _, _, _, rfl, but_trans e06 (but_new hp), w6.new hp, by omega, same_new hp _ _ _ m6, (tree_neg hp t6).up (by omega) (by omega)⟩
    refine ⟨_, rfl, _, 3, rfl, rfl, false, bl_no (by omega), ?_⟩
    by_cases c2 : kd' < 7
    · refine ⟨_, rfl, _, 7, rfl, rfl, true, bl_yes (by omega), ?_⟩
      refine ⟨_, rfl, _, rfl, three_line, fun p1 h1 => ?_⟩
      have T1 := trees_nil.snoc (keep_new h1 _) ((tree_bin (wd := "and") (by decide +kernel) h1 t6 o6).up z0 z2)
      have b1 := keep_new h1 (.tup [.str "and", tv, ov])
      refine ⟨_, rfl, _, rfl, three_line, fun p2 h2 => ?_⟩
      have T2 := T1.snoc (keep_new h2 _) ((tree_bin (wd := "or") (by decide +kernel) h2 (o6.keep b1) (t6.keep b1)).up z1 z3)
      have b2 := b1.trans (keep_new h2 (.tup [.str "or", ov, tv]))
      refine ⟨_, rfl, _, rfl, three_line, fun p3 h3 => ?_⟩
      have T3 := T2.snoc (keep_new h3 _) ((tree_bin (wd := "or") (by decide +kernel) h3 (t6.keep b2) (o6.keep b2)).up z0 z2)
      have b3 := b2.trans (keep_new h3 (.tup [.str "or", tv, ov]))
      refine ⟨_, rfl, _, rfl, three_line, fun p4 h4 => ?_⟩
      have T4 := T3.snoc (keep_new h4 _) ((tree_bin (wd := "and") (by decide +kernel) h4 (o6.keep b3) (t6.keep b3)).up z1 z3)
      refine ⟨four_line, fun p5 h5 => ?_⟩
      have S : Same H6 _ := ((((same_new h1 (.tup [.str "and", tv, ov])).trans (same_new h2 (.tup [.str "or", ov, tv]))).trans (same_new h3 (.tup [.str "or", tv, ov]))).trans (same_new h4 (.tup [.str "and", ov, tv]))).trans (same_new h5 (.lst [.ref p1, .ref p2, .ref p3, .ref p4]))
      obtain ⟨v, ev, hv⟩ := trees_at (T4.keep (keep_new h5 (.lst [.ref p1, .ref p2, .ref p3, .ref p4]))) (j := kd' - 3) (by show kd' - 3 < 4; omega)
      have ek : (kd' : Int) - 3 = ((kd' - 3 : Nat) : Int) := by omega
      refine ⟨_, rfl, _, _, rfl, rfl, p5, _, _, _, rfl, rfl, SqL.of upd_same, (by rw [ek]; exact ev), ?_⟩
      exact ⟨_, _, _, _, _, _, _, _, _, _, _, _, rfl, but_trans e06 (but_same S), w6.same S, by omega, S _ _ m6, hv⟩
    refine ⟨_, rfl, _, 7, rfl, rfl, false, bl_no (by omega), ?_⟩
    by_cases c3 : kd' < 10
    · refine ⟨_, rfl, _, 10, rfl, rfl, true, bl_yes (by omega), ?_⟩
      obtain ⟨wd, hwd, ewd⟩ := texts_at (l := ["some", "every"]) (kd' : Int) (by decide)
      refine ⟨two_line, fun o ho => ⟨_, rfl, _, _, rfl, rfl, (by show (0 : Int) < 2; decide), o, _, _, _, rfl, rfl, SqL.of upd_same, ewd, ?_⟩⟩
      refine ⟨_, rfl, _, rfl, three_line, fun p hp => ?_⟩
      have S : Same H6 _ := (same_new ho (.lst [.str "some", .str "every"])).trans (same_new hp (.tup [.str wd, .str nw, tv]))
      exact ⟨_, _, _, _, _, _, _, _, _, _, _, _, rfl, but_trans e06 (but_same S), w6.same S, by omega, S _ _ m6, (tree_qu hwd hnw hp (t6.keep (keep_new ho _))).up (by omega) (by omega)⟩
    refine ⟨_, rfl, _, 10, rfl, rfl, false, bl_no (by omega), ?_⟩
    by_cases c4 : kd' < 12
    · refine ⟨_, rfl, _, 12, rfl, rfl, true, bl_yes (by omega), ?_⟩
      obtain ⟨y1, hy1, ey1⟩ := menu_at (j := kd' - 3) (by omega)
      obtain ⟨y2, hy2, ey2⟩ := menu_at (j := kd') (by omega)
      have ek : (kd' : Int) - 3 = ((kd' - 3 : Nat) : Int) := by omega
      refine ⟨_, rfl, _, rfl, _, rfl, _, rfl, _, _, rfl, rfl, mn, _, _, _, rfl, rfl, SqL.of m6, (by rw [ek]; exact ey1), _, rfl, five_line, fun p1 h1 => ?_⟩
      have T1 := trees_nil.snoc (keep_new h1 _) ((tree_mo hnw hy1 h1 t6 o6).up z0 z2)
      have b1 := keep_new h1 (.tup [.str "more", .str nw, tv, .str y1, ov])
      have m7 := same_new h1 (.tup [.str "more", .str nw, tv, .str y1, ov]) _ _ m6
      refine ⟨_, rfl, _, rfl, mn, _, _, _, rfl, rfl, SqL.of m7, ey2, _, rfl, _, rfl, _, rfl, five_line, fun p2 h2 => ?_⟩
      have T2 := T1.snoc (keep_new h2 _) ((tree_mo hy2 hnw h2 (o6.keep b1) (t6.keep b1)).up z1 z3)
      refine ⟨two_line, fun p3 h3 => ?_⟩
      have S : Same H6 _ := ((same_new h1 (.tup [.str "more", .str nw, tv, .str y1, ov])).trans (same_new h2 (.tup [.str "more", .str y2, ov, .str nw, tv]))).trans (same_new h3 (.lst [.ref p1, .ref p2]))
      obtain ⟨v, ev, hv⟩ := trees_at (T2.keep (keep_new h3 (.lst [.ref p1, .ref p2]))) (j := kd' - 10) (by show kd' - 10 < 2; omega)
      have ek2 : (kd' : Int) - 10 = ((kd' - 10 : Nat) : Int) := by omega
      refine ⟨_, rfl, _, _, rfl, rfl, p3, _, _, _, rfl, rfl, SqL.of upd_same, (by rw [ek2]; exact ev), ?_⟩
      exact ⟨_, _, _, _, _, _, _, _, _, _, _, _, rfl, but_trans e06 (but_same S), w6.same S, by omega, S _ _ m6, hv⟩
    refine ⟨_, rfl, _, 12, rfl, rfl, false, bl_no (by omega), ?_⟩
    -- width, turn
    refine ⟨(by decide : 12 ≤ sizeLine), fun o ho => ?_⟩
    have t7 := same_new ho (HO.lst (widths.map fun n : Nat => V.int (n : Int)))
    have w7 := w6.same t7
    refine ⟨_, rfl, _, rfl, r, a, kk + 1 + 4 + 1, 12, rfl, w7, by decide, by omega, fun jw H8 hjw e8 w8 => ?_⟩
    have oa : o ≠ a := (ne_of_none w6.at_ ho).symm
    have g8 := e8 _ _ (upd_same (H := H6) (a := o) (o := HO.lst (widths.map fun n : Nat => V.int (n : Int)))) oa
    obtain ⟨wd, wd1, wd2, ew⟩ := width_at hjw
    refine ⟨o, _, _, _, rfl, rfl, SqL.of g8, ew, ?_⟩
    refine ⟨_, rfl, _, rfl, r, a, kk + 1 + 4 + 1 + 1, 14, rfl, w8, by decide, by omega, fun tn H9 htn e9 w9 => ?_⟩
    have e09 := but_trans (but_trans (but_trans e06 (but_same t7)) e8) e9
    have m9 := e9 _ _ (e8 _ _ (t7 _ _ m6) ma) ma
    have t9 := ((t6.keep (keep_of t7)).keep (w7.keep e8)).keep (w8.keep e9)
    -- begin
    refine ⟨_, rfl, wd, rfl, by omega, by omega, fun F hF => ?_⟩
    refine lc_range (lo := 0) (n := wd) (fun j Hj => ∃ zs : List Str, Hj F = some (.lst (zs.map V.str)) ∧ zs.length = j ∧ (∀ z ∈ zs, z ∈ menu) ∧ Same H9 Hj) ⟨[], upd_same, rfl, fun z hz => (nomatch hz), same_new hF _⟩ ?_ ?_
    · rintro j Hj hj ⟨zs, y1, y2, y3, y4⟩
      obtain ⟨y, hy, ey⟩ := menu_ix ((tn : Int) + (0 + (j : Int)) * (1 + (0 + (i : Int)) % 3))
      refine ⟨rfl, _, rfl, _, rfl, _, rfl, _, rfl, _, _, rfl, rfl, (by show (0 : Int) < 3; decide), _, _, rfl, rfl, _, _, rfl, rfl, .inl ⟨by omega, by omega⟩, _, _, rfl, rfl, .inl ⟨_, rfl, _, _, rfl, rfl, (by show (0 : Int) < 14; decide), mn, _, _, _, rfl, rfl, SqL.of (y4 _ _ m9), ey, ?_⟩⟩
      refine ⟨_, y1, small1000 (by rw [List.length_map]; omega), zs ++ [y], ?_, by rw [List.length_append, y2]; rfl, ?_, same_upd y4 hF _⟩
      · rw [← strs_snoc]
        exact upd_same
      · intro z hz
        rcases List.mem_append.mp hz with g | g
        · exact y3 z g
        · rw [List.mem_singleton.mp g]
          exact hy
    rintro H10 ⟨bs, b1, b2, b3, b4⟩
    refine ⟨F, _, rfl, .inl ⟨SqL.of b1, fun lb hlb => ?_⟩⟩
    have u11 := same_new hlb (HO.tup (bs.map V.str))
    have s11 := b4.trans u11
    have hb11 := upd_same (H := H10) (a := lb) (o := HO.tup (bs.map V.str))
    revert s11 hb11
    generalize upd H10 lb (HO.tup (bs.map V.str)) = H11
    intro s11 hb11
    -- end
    refine ⟨_, rfl, wd, rfl, by omega, by omega, fun G hG => ?_⟩
    refine lc_range (lo := 0) (n := wd) (fun j Hj => ∃ zs : List Str, Hj G = some (.lst (zs.map V.str)) ∧ zs.length = j ∧ (∀ z ∈ zs, z ∈ menu) ∧ Same H11 Hj) ⟨[], upd_same, rfl, fun z hz => (nomatch hz), same_new hG _⟩ ?_ ?_
    · rintro j Hj hj ⟨zs, y1, y2, y3, y4⟩
      obtain ⟨y, hy, ey⟩ := menu_ix ((tn : Int) + 5 + (0 + (j : Int)) * (1 + (0 + (i : Int)) % 5))
      refine ⟨rfl, _, rfl, _, rfl, _, _, rfl, rfl, _, rfl, _, rfl, _, _, rfl, rfl, (by show (0 : Int) < 5; decide), _, _, rfl, rfl, _, _, rfl, rfl, .inl ⟨by omega, by omega⟩, _, _, rfl, rfl, .inl ⟨_, rfl, _, _, rfl, rfl, (by show (0 : Int) < 14; decide), mn, _, _, _, rfl, rfl, SqL.of (y4 _ _ (s11 _ _ m9)), ey, ?_⟩⟩
      refine ⟨_, y1, small1000 (by rw [List.length_map]; omega), zs ++ [y], ?_, by rw [List.length_append, y2]; rfl, ?_, same_upd y4 hG _⟩
      · rw [← strs_snoc]
        exact upd_same
      · intro z hz
        rcases List.mem_append.mp hz with g | g
        · exact y3 z g
        · rw [List.mem_singleton.mp g]
          exact hy
    rintro H12 ⟨cs, d1, d2, d3, d4⟩
    refine ⟨G, _, rfl, .inl ⟨SqL.of d1, fun lc hlc => ?_⟩⟩
    have u13 := same_new hlc (HO.tup (cs.map V.str))
    have s13 := s11.trans (d4.trans u13)
    have hb13 := u13 _ _ (d4 _ _ hb11)
    have hc13 := upd_same (H := H12) (a := lc) (o := HO.tup (cs.map V.str))
    revert s13 hb13 hc13
    generalize upd H12 lc (HO.tup (cs.map V.str)) = H13
    intro s13 hb13 hc13
    -- left
    obtain ⟨pre, hpre, epre⟩ := texts_at (l := ["l", "x"]) (0 + (i : Int)) (by decide)
    refine ⟨_, rfl, wd, rfl, by omega, by omega, fun F2 hF2 => ?_⟩
    refine lc_range (lo := 0) (n := wd) (fun j Hj => Hj F2 = some (.lst (((List.range j).map (nmP pre)).map V.str)) ∧ Same H13 Hj) ⟨upd_same, same_new hF2 _⟩ ?_ ?_
    · rintro j Hj hj ⟨y1, y4⟩
      have pl : pre.length = 1 := by
        simp only [List.mem_cons, List.not_mem_nil, or_false] at hpre
        rcases hpre with rfl | rfl <;> decide +kernel
      have jl := num_len j (by omega)
      refine ⟨rfl, two_line, fun o2 ho2 => ⟨_, rfl, _, _, rfl, rfl, (by show (0 : Int) < 2; decide), o2, _, _, _, rfl, rfl, SqL.of upd_same, epre, _, rfl, _, rfl, num_log j (by omega), _, _, rfl, rfl, ?_, ?_⟩⟩
      · rw [pl]
        exact Nat.le_of_lt (small1000 (by omega))
      have u := same_new ho2 (HO.lst [V.str "l", V.str "x"])
      refine ⟨_, u _ _ y1, small1000 (by rw [List.length_map, List.length_map, List.length_range]; omega), ?_, same_upd (y4.trans u) hF2 _⟩
      rw [List.range_succ, List.map_append, List.map_append]
      exact upd_same
    rintro H14 ⟨l1, l2⟩
    refine ⟨F2, _, rfl, .inl ⟨SqL.of l1, fun ll hll => ?_⟩⟩
    have u15 := same_new hll (HO.tup (((List.range wd).map (nmP pre)).map V.str))
    have s15 := s13.trans (l2.trans u15)
    have hb15 := u15 _ _ (l2 _ _ hb13)
    have hc15 := u15 _ _ (l2 _ _ hc13)
    have hl15 := upd_same (H := H14) (a := ll) (o := HO.tup (((List.range wd).map (nmP pre)).map V.str))
    revert s15 hb15 hc15 hl15
    generalize upd H14 ll (HO.tup (((List.range wd).map (nmP pre)).map V.str)) = H15
    intro s15 hb15 hc15 hl15
    -- the walk
    refine ⟨_, rfl, _, rfl, wd, rfl, by omega, by omega, fun G2 hG2 => ?_⟩
    refine lc_range (lo := 0) (n := wd) (fun j Hj => Hj G2 = some (.lst (((List.range j).map (nmP "m")).map V.str)) ∧ Same H15 Hj) ⟨upd_same, same_new hG2 _⟩ ?_ ?_
    · rintro j Hj hj ⟨y1, y4⟩
      have jl := num_len j (by omega)
      refine ⟨rfl, _, rfl, _, rfl, num_log j (by omega), _, _, rfl, rfl, ?_, ?_⟩
      · have : (Str.ofString "m").length = 1 := by decide +kernel
        rw [this]
        exact Nat.le_of_lt (small1000 (by omega))
      refine ⟨_, y1, small1000 (by rw [List.length_map, List.length_map, List.length_range]; omega), ?_, same_upd y4 hG2 _⟩
      rw [List.range_succ, List.map_append, List.map_append]
      exact upd_same
    rintro H16 ⟨f1, f2⟩
    refine ⟨G2, _, rfl, .inl ⟨SqL.of f1, fun lm hlm => ?_⟩⟩
    have u17 := same_new hlm (HO.tup (((List.range wd).map (nmP "m")).map V.str))
    have s17 := s15.trans (f2.trans u17)
    have hb17 := u17 _ _ (f2 _ _ hb15)
    have hc17 := u17 _ _ (f2 _ _ hc15)
    have hl17 := u17 _ _ (f2 _ _ hl15)
    have hm17 := upd_same (H := H16) (a := lm) (o := HO.tup (((List.range wd).map (nmP "m")).map V.str))
    revert s17 hb17 hc17 hl17 hm17
    generalize upd H16 lm (HO.tup (((List.range wd).map (nmP "m")).map V.str)) = H17
    intro s17 hb17 hc17 hl17 hm17
    refine ⟨_, rfl, _, rfl, _, rfl, six_line, fun p hp => ?_⟩
    have m17 := s17 _ _ m9
    have t17 := t9.keep (keep_of s17)
    have w17 := w9.same s17
    have e17 := but_trans e09 (but_same s17)
    have up := same_new hp (HO.tup [.str "walk", .ref ll, .ref lm, tv, .ref lb, .ref lc])
    have ll1 : ((List.range wd).map (nmP pre)).length = wd := by rw [List.length_map, List.length_range]
    have lm1 : ((List.range wd).map (nmP "m")).length = wd := by rw [List.length_map, List.length_range]
    have T : TreeV (upd H17 p (HO.tup [.str "walk", .ref ll, .ref lm, tv, .ref lb, .ref lc])) (.ref p) (i + 1 + 1) (2 * i + 1 + 1) :=
      tree_wk hp hl17 hm17 hb17 hc17 (by omega) (by omega) (by omega) (by omega) (by omega) (walk_nd hpre wd2) (walk_nm hpre wd2) b3 d3 t17
    have fin : ∀ (H' : Hp) (v : V) (x7 x8 x9 x10 x11 x12 x13 x14 : Option V), Same H17 H' → TreeV H' v (i + 1 + 1) (2 * i + 1 + 1) →
        ChInv r a mn m k H (i + 1) [some (.ref r), some (.ref a), some (.int (m : Int)), some (.ref mn), some v, some (.int h'), some (.int (0 + (i : Int))), x7, x8, x9, x10, x11, x12, x13, x14, none] H' := fun H' v x7 x8 x9 x10 x11 x12 x13 x14 s hv =>
      ⟨v, h', kk + 1 + 4 + 1 + 1 + 1, _, _, _, _, _, _, _, _, _, rfl, but_trans e17 (but_same s), w17.same s, by omega, s _ _ m17, hv.up (by omega) (by omega)⟩
    by_cases cw : wd = 1
    · subst cw
      refine ⟨_, rfl, rfl, true, lit_eq (by omega), ?_⟩
      by_cases ck : kd' = 12
      · subst ck
        refine ⟨_, rfl, rfl, true, lit_eq (by omega), ?_⟩
        refine ⟨_, rfl, one_line, fun q1 g1 => ?_⟩
        have v1 := up.trans (same_new g1 (HO.tup [.str nw]))
        have m18 := v1 _ _ m17
        have jl : j6 < menu.length := hj6
        have nwv : menu[j6]? = some nw := by
          have e1 : atI (menu.map V.str) (j6 : Int) = some (V.str menu[j6]) := atI_nat (by rw [List.getElem?_map, List.getElem?_eq_getElem jl]; rfl)
          rw [enw] at e1
          rw [List.getElem?_eq_getElem jl]
          exact congrArg some (V.str.inj (Option.some.inj e1)).symm
        obtain ⟨j7, ej7, hj7⟩ := nat_of_mod (i := (j6 : Int) + 3) (m := 14) (by decide)
        have jl7 : j7 < menu.length := hj7
        have e7 : menu[j7]? = some menu[j7] := List.getElem?_eq_getElem jl7
        have em : atI (menu.map V.str) (((j6 : Int) + 3) % 14) = some (V.str menu[j7]) := by
          have : ((j6 : Int) + 3) % 14 = (j7 : Int) := ej7
          rw [this]
          exact atI_nat (by rw [List.getElem?_map, e7]; rfl)
        refine ⟨_, rfl, _, rfl, .inl ⟨rfl, _, SqL.of m18⟩, _, rfl, mn, _, _, j6, V.str nw, rfl, rfl, SqL.of m18, rfl, flat_txts menu, ?_, ?_, ?_, ?_⟩
        · rw [List.getElem?_map, nwv]
          rfl
        · rw [eqV_str]
          exact decide_eq_true rfl
        · intro x z' hx hz'
          obtain ⟨y, hy, rfl⟩ := map_get hz'
          rw [eqV_str]
          refine decide_eq_false fun e => ?_
          subst e
          have := nd_ix menu_nd hy nwv
          omega
        refine ⟨_, _, rfl, rfl, .inl ⟨_, rfl, _, _, rfl, rfl, (by show (0 : Int) < 14; decide), mn, _, _, _, rfl, rfl, SqL.of m18, em, one_line, fun q2 g2 => ?_⟩⟩
        have u2 := same_new g2 (HO.tup [.str menu[j7]])
        have v2 := v1.trans u2
        refine ⟨_, rfl, p, _, 3, _, rfl, rfl, SqT.of (u2 _ _ (same_new g1 (HO.tup [.str nw]) _ _ upd_same)), rfl, _, rfl, _, rfl, six_line, fun p2 g3 => ?_⟩
        have l18 := u2 _ _ (upd_same (H := upd H17 p (HO.tup [.str "walk", .ref ll, .ref lm, tv, .ref lb, .ref lc])) (a := q1) (o := HO.tup [.str nw]))
        have ne : nw ≠ menu[j7] := fun e => by
          rw [← e] at e7
          have := nd_ix menu_nd nwv e7
          omega
        refine fin _ _ _ _ _ _ _ _ _ _ (v2.trans (same_new g3 _)) (tree_wk (ls := [nw]) (rs := [menu[j7]]) g3 l18 upd_same (v2 _ _ hb17) (v2 _ _ hc17) (by show 1 ≤ 1; decide) (by show 1 ≤ 60; decide) rfl (by rw [b2]; rfl) (by rw [d2]; rfl) ?_ ?_ b3 d3 (t17.keep (keep_of v2)))
        · refine List.nodup_cons.mpr ⟨fun hx => ne (List.mem_singleton.mp hx), List.nodup_cons.mpr ⟨List.not_mem_nil, List.nodup_nil⟩⟩
        · exact fun x hx => menu_nm x (two_in hnw (List.getElem_mem jl7) x hx)
      · refine ⟨_, rfl, rfl, false, lit_ne (by omega), ?_⟩
        exact fin _ _ _ _ _ _ _ _ _ _ up T
    · refine ⟨_, rfl, rfl, false, lit_ne (by omega), ?_⟩
      exact fin _ _ _ _ _ _ _ _ _ _ up T
  · rintro σ H4 ⟨tv, h, kk, c6, c7, c8, c9, c10, c11, c12, c13, c14, rfl, e4, w4, hk4, m4, t4⟩
    exact ⟨_, rfl, q _ _ _ e4 w4 hk4 t4⟩
end
end K52

set_option maxRecDepth 100000
set_option maxHeartbeats 4000000
namespace K52
open PySem PySem.Spec PyProof.Rows L2
/-- isinstance in a suite, the exception's class and dict as they come -/
def rIsG (K : PySem.W.Frag) (cls : Value) (d : Option Addr) (C a : Addr) : List V → Hp → VK → Prop := fun xs H Q => ∃ dd : Addr, cls = .ref C ∧ d = some dd ∧ rIsS K C a dd xs H Q
theorem call_isG {X : Cx} {a C : Addr} {cls : Value} {d : Option Addr} {oe : Obj} {pn : List (Addr × Obj)} (T : ExcC X.K C) (hz : Zc cls d oe) (hf : ∃ vs, oe.data = .fields vs) : CallR (X.suite a ((a, oe) :: pn)) (.builtin "isinstance") (rIsG X.K cls d C a) := by
  intro pins s σ H xs us Q I r h
  obtain ⟨dd, rfl, rfl, h⟩ := h
  exact call_isS T hz hf pins s σ H xs us Q I r h
/-- a call that lets nothing out -/
theorem passL {P : Program} {w : World} {X : Cx} : Passes (L2.CX P w) X (fun _ _ _ => False) := fun _ _ _ _ _ _ _ ⟨_, _, _, _, _, _, _, _, _, _, _, _, z⟩ => z.elim
section
variable {P : Program} {w : World} {K : PySem.W.Frag} {mg : Str → Option Value} {base : Heap}
abbrev sIsBill : Stmt := top 60
abbrev sRefused : Stmt := top 61
def spIsBill (CQ : Addr) : Sp := fun vs H Q _ => ∃ (p : Addr) (z : Str) (t : Tr) (n : Nat) (d : Int), vs = [.ref p, .str z, .int d] ∧ QAt CQ H p t n ∧ t.Good ∧ t.deep ≤ 40 ∧
  ((z = "yes" ∧ d = (n : Int) + 1 + t.need.1) ∨ (z = "no" ∧ d = (n : Int) + 1 + t.need.2)) ∧ ∀ H', Same H H' → Q (.bl true) H'
theorem scIsBill : FnScope ["_law_question", "_law_side", "_law_due", "_law_told"] ["_law_question", "_law_side", "_law_due"] (defScope sIsBill) := ⟨rfl, rfl, rfl, by decide +kernel, rfl, by decide +kernel, by decide +kernel⟩
theorem cal_is_bill {CQ CB : Addr} (E1 : Env1 K mg) (D : Def K mg "_law_is_bill" sIsBill) (c : Cal P w K mg base (L2.CX P w) 44 "bill" (spBill CQ CB)) : Cal P w K mg base CX0 45 "_law_is_bill" (spIsBill CQ) := by
  refine cal_mk D scIsBill (fun _ _ _ _ _ _ us hl => match us, hl with | [_, _, _], _ => rfl) (fun vs H Q E h => ?_) (fun f cdv A outer s H vs Q E hr h => ?_)
  · obtain ⟨p, z, t, n, d, rfl, _⟩ := h
    rfl
  obtain ⟨p, z, t, n, d, rfl, hq, hg, hn, hz, q⟩ := h
  obtain ⟨fb, fdb, ps, F, hm, kp, b⟩ := c.ex
  refine ⟨_, pss_cons (ps_set (i := 3) scIsBill.nd rfl (Or.inl rfl) (pe_call F hr rfl hm kp b .nil passL (pa_cons (pv 0) (pa_cons (pv 1) pa_nil))))
    (pss_one (ps_ret (pe_and (pe_callB call_isi rfl E1.isi (by decide +kernel) (pa_cons (pv 3) (pa_cons (pe_bltn (v := .ty "int") (u := .type "int") rfl E1.int (by decide +kernel) rfl) pa_nil)))
      (pe_and (pe_not (pe_callB call_isi rfl E1.isi (by decide +kernel) (pa_cons (pv 3) (pa_cons (pe_bltn (v := .ty "bool") (u := .type "bool") rfl E1.bool (by decide +kernel) rfl) pa_nil))))
      (pe_one (pe_cmpR op_eq (pv 3) (pv 2) (nomark _))))))), ?_⟩
  have key : ∀ H' : Hp, Same H H' → ∀ k : Int, k = d → ∃ c, V.bl (decide (V.int k = V.int d)) = V.bl c ∧ Q (.bl c) H' := fun H' s k e => ⟨true, bl_eq (congrArg V.int e), q H' s⟩
  refine ⟨_, rfl, _, rfl, p, z, t, n, rfl, hq, hg, hn, fun c => ?_, fun e H' s' => ?_, fun e H' s' => ?_⟩
  · rcases hz with ⟨rfl, _⟩ | ⟨rfl, _⟩
    · exact absurd (by decide +kernel) c
    · exact absurd (by decide +kernel) c
  · refine ⟨_, rfl, .int _, .ty "int", .type "int", .type "int", true, rfl, .ty "int", .base (.int _), kit_ty (by decide +kernel), true, rfl, ?_⟩
    refine ⟨_, rfl, .int _, .ty "bool", .type "int", .type "bool", false, rfl, .ty "bool", .base (.int _), kit_ty (by decide +kernel), false, rfl, true, rfl, ?_⟩
    refine ⟨_, rfl, _, rfl, rfl, ?_⟩
    have ed : (n : Int) + 1 + t.need.1 = d := by
      rcases hz with ⟨_, e2⟩ | ⟨e1, _⟩
      · exact e2.symm
      · rw [e] at e1
        exact absurd e1 (by decide +kernel)
    show Q (V.bl (decide (V.int ((n : Int) + 1 + t.need.1) = V.int d))) H'
    rw [ed, bl_eq rfl]
    exact q H' s'
  · refine ⟨_, rfl, .int _, .ty "int", .type "int", .type "int", true, rfl, .ty "int", .base (.int _), kit_ty (by decide +kernel), true, rfl, ?_⟩
    refine ⟨_, rfl, .int _, .ty "bool", .type "int", .type "bool", false, rfl, .ty "bool", .base (.int _), kit_ty (by decide +kernel), false, rfl, true, rfl, ?_⟩
    refine ⟨_, rfl, _, rfl, rfl, ?_⟩
    have ed : (n : Int) + 1 + t.need.2 = d := by
      rcases hz with ⟨e1, _⟩ | ⟨_, e2⟩
      · rw [e] at e1
        exact absurd e1 (by decide +kernel)
      · exact e2.symm
    show Q (V.bl (decide (V.int ((n : Int) + 1 + t.need.2) = V.int d))) H'
    rw [ed, bl_eq rfl]
    exact q H' s'
/-! ### the refusal -/
structure TxtR (K : PySem.W.Frag) (mg : Str → Option Value) (CB CO c1 c2 c3 c4 c5 c6 c7 c8 d1 d2 d3 d4 d5 d6 : Addr) : Prop where
  T : ExcC K CB
  X : XfC K CB
  no : PySem.W.findIn K (.ref CB) "side" = some none
  gB : mg "BadSide" = some (.ref CB)
  gO : mg "OnceError" = some (.ref CO)
  gV : mg "ValueError" = none
  g1 : mg "BadGiven" = some (.ref c1)
  g2 : mg "BadJudge" = some (.ref c2)
  g3 : mg "BadLetter" = some (.ref c3)
  g4 : mg "BadQuestion" = some (.ref c4)
  g5 : mg "BadText" = some (.ref c5)
  g6 : mg "BadValues" = some (.ref c6)
  g7 : mg "BadWorld" = some (.ref c7)
  g8 : mg "NoSuchRelation" = some (.ref c8)
  h1 : mg "NoSuchWord" = some (.ref d1)
  h2 : mg "NotAWalk" = some (.ref d2)
  h3 : mg "NotRight" = some (.ref d3)
  h4 : mg "TooLarge" = some (.ref d4)
  h5 : mg "TooMany" = some (.ref d5)
  h6 : mg "Unvalued" = some (.ref d6)
  k1 : PySem.W.kitAny K (.ref CB) [.ref c1, .ref c2, .ref c3, .ref c4, .ref c5, .ref c6, .ref c7, .ref c8] = some false
  k2 : PySem.W.kitAny K (.ref CB) [.ref d1, .ref d2, .ref d3, .ref d4, .ref d5, .ref d6] = some false
  kV : PySem.W.kitOne K (.ref CB) (.type "ValueError") = some true
  kB : PySem.W.kitOne K (.ref CB) (.ref CB) = some true
  eB : PySem.W.exmOne K (.ref CB) (.ref CB) = some true
  eO : PySem.W.exmOne K (.ref CB) (.ref CO) = some true
def spRefused (CQ : Addr) : Sp := fun vs H Q _ => ∃ (p : Addr) (z : Str) (t : Tr) (n : Nat), vs = [.ref p, .str z] ∧ QAt CQ H p t n ∧ t.Good ∧ t.deep ≤ 40 ∧ z ∉ (["yes", "no"] : List Str) ∧ ∀ H', Same H H' → Q (.bl true) H'
theorem scRefused : FnScope ["_law_question", "_law_word", "e", "_law_other"] ["_law_question", "_law_word"] (defScope sRefused) := ⟨rfl, rfl, rfl, by decide +kernel, rfl, by decide +kernel, by decide +kernel⟩
theorem eight_line : 8 ≤ sizeLine := by decide
theorem cal_refused {CQ CB CO c1 c2 c3 c4 c5 c6 c7 c8 d1 d2 d3 d4 d5 d6 : Addr} (E1 : Env1 K mg) (D : Def K mg "_law_refused" sRefused) (R : TxtR K mg CB CO c1 c2 c3 c4 c5 c6 c7 c8 d1 d2 d3 d4 d5 d6) (c : Cal P w K mg base (L2.CX P w) 44 "bill" (spBill CQ CB)) :
    Cal P w K mg base CX0 45 "_law_refused" (spRefused CQ) := by
  refine cal_mk D scRefused (fun _ _ _ _ _ _ us hl => match us, hl with | [_, _], _ => rfl) (fun vs H Q E h => ?_) (fun f cdv A outer s H vs Q E hr h => ?_)
  · obtain ⟨p, z, t, n, rfl, _⟩ := h
    rfl
  obtain ⟨p, z, t, n, rfl, hq, hg, hn, hz, q⟩ := h
  obtain ⟨fb, fdb, ps, F, hm, kp, b⟩ := c.ex
  refine ⟨_, pss_cons (ps_try_as (i := 2) (Wout := fun _ _ _ _ => False) rfl rfl scRefused.nd rfl rfl ⟨rfl, by decide, Or.inl R.gB⟩ takes0
      (fun W pn xe tk _ => pss_cons (ps_expr (pe_callS F hr rfl hm kp b (fun σ => passAt tk σ) (pa_cons (pv 0) (pa_cons (pv 1) pa_nil)))) (pss_one (ps_ret pe_bl)))
      (fun a oe cls d pn hz hf => pss_cons (ps_set (i := 3) scRefused.nd rfl (Or.inl rfl) (pe_callB (r := rIsG K cls d CB a) (call_isG R.T hz hf) rfl E1.isi (by decide +kernel) (pa_cons (pv 2) (pa_cons (pe_tup
          (pa_cons (pe_g (v := .ref c1) ⟨_, R.g1, rfl⟩) (pa_cons (pe_g (v := .ref c2) ⟨_, R.g2, rfl⟩) (pa_cons (pe_g (v := .ref c3) ⟨_, R.g3, rfl⟩) (pa_cons (pe_g (v := .ref c4) ⟨_, R.g4, rfl⟩)
          (pa_cons (pe_g (v := .ref c5) ⟨_, R.g5, rfl⟩) (pa_cons (pe_g (v := .ref c6) ⟨_, R.g6, rfl⟩) (pa_cons (pe_g (v := .ref c7) ⟨_, R.g7, rfl⟩) (pa_cons (pe_g (v := .ref c8) ⟨_, R.g8, rfl⟩) pa_nil))))))))) pa_nil))))
        (pss_cons (ps_if (PW.pt (pw_or (pt_val (pv 3)) (pw_or1 (pt_val (pe_callB (r := rIsG K cls d CB a) (call_isG R.T hz hf) rfl E1.isi (by decide +kernel) (pa_cons (pv 2) (pa_cons (pe_tup
          (pa_cons (pe_g (v := .ref d1) ⟨_, R.h1, rfl⟩) (pa_cons (pe_g (v := .ref d2) ⟨_, R.h2, rfl⟩) (pa_cons (pe_g (v := .ref d3) ⟨_, R.h3, rfl⟩) (pa_cons (pe_g (v := .ref d4) ⟨_, R.h4, rfl⟩)
          (pa_cons (pe_g (v := .ref d5) ⟨_, R.h5, rfl⟩) (pa_cons (pe_g (v := .ref d6) ⟨_, R.h6, rfl⟩) pa_nil))))))) pa_nil))))))) (pss_one (ps_ret pe_bl)) pss_nil)
        (pss_one (ps_if (PW.pt (pw_or (pt_not (pt_val (pe_callB (r := rIsG K cls d CB a) (call_isG R.T hz hf) rfl E1.isi (by decide +kernel) (pa_cons (pv 2) (pa_cons (pe_bltn (v := .ty "ValueError") (u := .type "ValueError") rfl R.gV (by decide +kernel) rfl) pa_nil)))))
          (pw_or (pt_not (pt_val (pe_callB (r := rIsi K) call_isi rfl E1.isi (by decide +kernel) (pa_cons (pe_xf R.X R.no hz hf (pv 2)) (pa_cons (pe_bltn (v := .ty "str") (u := .type "str") rfl E1.str (by decide +kernel) rfl) pa_nil)))))
          (pw_or1 (pt_cmpR op_ne (pe_xf R.X R.no hz hf (pv 2)) (pv 1) (nomark _)))))) (pss_one (ps_ret pe_bl)) pss_nil)))))
    (pss_one (ps_try_as (i := 2) (Wout := fun _ _ _ _ => False) rfl rfl scRefused.nd rfl rfl ⟨rfl, by decide, Or.inl R.gO⟩ takes0
      (fun W pn xe tk _ => pss_cons (ps_expr (pe_callS F hr rfl hm kp b (fun σ => passAt tk σ) (pa_cons (pv 0) (pa_cons (pv 1) pa_nil)))) (pss_one (ps_ret pe_bl)))
      (fun a oe cls d pn hz hf => pss_one (ps_ret (pe_callB (r := rIsG K cls d CB a) (call_isG R.T hz hf) rfl E1.isi (by decide +kernel) (pa_cons (pv 2) (pa_cons (pe_g (v := .ref CB) ⟨_, R.gB, rfl⟩) pa_nil))))))), ?_⟩
  have y1 : z ≠ "yes" := fun e => hz (by rw [e]; exact List.mem_cons_self ..)
  have y2 : z ≠ "no" := fun e => hz (by rw [e]; exact List.mem_cons_of_mem _ (List.mem_cons_self ..))
  refine ⟨_, rfl, _, rfl, p, z, t, n, rfl, hq, hg, hn, fun _ d H1 s1 hd => ⟨true, R.eB, fun _ a ha => ?_, fun x => nomatch x⟩, fun e => absurd e y1, fun e => absurd e y2⟩
  refine ⟨_, rfl, eight_line, fun o ho => ⟨d, rfl, rfl, _, same_new ho _ _ _ hd, .inr ⟨o, _, _, false, rfl, upd_same, .cons (.own c1) (.cons (.own c2) (.cons (.own c3) (.cons (.own c4) (.cons (.own c5) (.cons (.own c6) (.cons (.own c7) (.cons (.own c8) .nil))))))), R.k1, ?_⟩⟩⟩
  have t1 := same_new ho (HO.tup [.ref c1, .ref c2, .ref c3, .ref c4, .ref c5, .ref c6, .ref c7, .ref c8])
  have hd2 := t1 _ _ hd
  refine ⟨_, rfl, false, rfl, _, rfl, six_line, fun o2 ho2 => ⟨d, rfl, rfl, _, same_new ho2 _ _ _ hd2, .inr ⟨o2, _, _, false, rfl, upd_same, .cons (.own d1) (.cons (.own d2) (.cons (.own d3) (.cons (.own d4) (.cons (.own d5) (.cons (.own d6) .nil))))), R.k2, false, rfl, ?_⟩⟩⟩
  have t2 := same_new ho2 (HO.tup [.ref d1, .ref d2, .ref d3, .ref d4, .ref d5, .ref d6])
  have hd3 := t2 _ _ hd2
  refine ⟨_, rfl, d, rfl, rfl, _, hd3, .inl ⟨.ty "ValueError", .type "ValueError", true, rfl, .ty "ValueError", R.kV, true, rfl, ?_⟩⟩
  refine ⟨_, rfl, rfl, rfl, d, _, .str z, rfl, hd3, rfl, .str z, .ty "str", .type "str", .type "str", true, rfl, .ty "str", .base (.str z), kit_ty (by decide +kernel), true, rfl, ?_⟩
  refine ⟨_, rfl, rfl, rfl, d, _, .str z, rfl, hd3, rfl, _, rfl, rfl, false, by simp, ?_⟩
  have s3 := (s1.trans t1).trans t2
  refine ⟨_, rfl, _, rfl, p, z, t, n, rfl, hq.same s3, hg, hn, fun _ e H4 s4 he => ⟨true, R.eO, fun _ a ha => ?_, fun x => nomatch x⟩, fun e => absurd e y1, fun e => absurd e y2⟩
  exact ⟨_, rfl, e, rfl, rfl, _, he, .inl ⟨.ref CB, .ref CB, true, rfl, .own CB, R.kB, q _ (s3.trans s4)⟩⟩
end
end K52

set_option maxRecDepth 100000
set_option maxHeartbeats 4000000
namespace K52
open PySem PySem.Spec PyProof.Rows L2
/-! ### the data of a tree may be compared -/
theorem lay_sq (b : Bool) (l : List PyData) : (sq b l).canLay0 = PyData.canLayAll0 l := by
  cases b <;> simp [sq, PyData.canLay0]
theorem dep_sq (b : Bool) (l : List PyData) : (sq b l).depth = PyData.depthAll l + 1 := by
  cases b <;> simp [sq, PyData.depth]
theorem lay_nil : PyData.canLayAll0 [] = true := by simp [PyData.canLayAll0]
theorem lay_cons {d : PyData} {l : List PyData} (h : d.canLay0 = true) (g : PyData.canLayAll0 l = true) : PyData.canLayAll0 (d :: l) = true := by simp [PyData.canLayAll0, h, g]
theorem lay_str {z : Str} (h : PyData.strOk z = true) : (PyData.str z).canLay0 = true := by simp [PyData.canLay0, h]
theorem dep_nil : PyData.depthAll [] = 0 := by simp [PyData.depthAll]
theorem dep_cons (d : PyData) (l : List PyData) : PyData.depthAll (d :: l) = max d.depth (PyData.depthAll l) := by simp [PyData.depthAll]
theorem dep_str (z : Str) : (PyData.str z).depth = 0 := by simp [PyData.depth]
theorem lay_names : ∀ {vs : List Str}, (∀ v ∈ vs, isNm v = true) → PyData.canLayAll0 (vs.map PyData.str) = true
  | [], _ => lay_nil
  | z :: vs, h => lay_cons (lay_str (nm_of (h z (List.mem_cons_self ..))).ok) (lay_names fun v hv => h v (List.mem_cons_of_mem _ hv))
theorem dep_names : ∀ vs : List Str, PyData.depthAll (vs.map PyData.str) = 0
  | [] => dep_nil
  | z :: vs => by rw [List.map_cons, dep_cons, dep_str, dep_names vs]; rfl
theorem dat_lay (b : Bool) : ∀ {t : Tr}, t.Good → (t.dat b).canLay0 = true ∧ (t.dat b).depth ≤ t.deep + 1
  | .rel nm vs, h => by
    have h1 : PyData.strOk nm = true := (nm_of (rels_nm nm h.1)).ok
    refine ⟨?_, ?_⟩
    · show (sq b [.str "rel", .str nm, nms b vs]).canLay0 = true
      rw [lay_sq]
      exact lay_cons (lay_str (by decide +kernel)) (lay_cons (lay_str h1) (lay_cons (by rw [lay_sq]; exact lay_names fun v hv => menu_nm v (h.2.2 v hv)) lay_nil))
    · show (sq b [.str "rel", .str nm, nms b vs]).depth ≤ 2
      rw [dep_sq, dep_cons, dep_cons, dep_cons, dep_nil, dep_str, dep_str, dep_sq, dep_names]
      decide
  | .atm wd vs, h => by
    have h1 : PyData.strOk wd = true := by
      rcases h.1 with ⟨g1, _⟩ | ⟨g1, _⟩
      · simp only [List.mem_cons, List.not_mem_nil, or_false] at g1
        rcases g1 with rfl | rfl | rfl <;> decide +kernel
      · simp only [List.mem_cons, List.not_mem_nil, or_false] at g1
        rcases g1 with rfl | rfl <;> decide +kernel
    refine ⟨?_, ?_⟩
    · show (sq b (.str wd :: vs.map PyData.str)).canLay0 = true
      rw [lay_sq]
      exact lay_cons (lay_str h1) (lay_names fun v hv => menu_nm v (h.2 v hv))
    · show (sq b (.str wd :: vs.map PyData.str)).depth ≤ 2
      rw [dep_sq, dep_cons, dep_str, dep_names]
      decide
  | .neg p, h => by
    obtain ⟨l1, l2⟩ := dat_lay b (t := p) h
    refine ⟨?_, ?_⟩
    · show (sq b [.str "not", p.dat b]).canLay0 = true
      rw [lay_sq]
      exact lay_cons (lay_str (by decide +kernel)) (lay_cons l1 lay_nil)
    · show (sq b [.str "not", p.dat b]).depth ≤ p.deep + 1 + 1
      rw [dep_sq, dep_cons, dep_cons, dep_nil, dep_str]
      omega
  | .bin wd p q, h => by
    obtain ⟨l1, l2⟩ := dat_lay b (t := p) h.2.1
    obtain ⟨m1, m2⟩ := dat_lay b (t := q) h.2.2
    have h1 : PyData.strOk wd = true := by
      have g1 := h.1
      simp only [List.mem_cons, List.not_mem_nil, or_false] at g1
      rcases g1 with rfl | rfl <;> decide +kernel
    refine ⟨?_, ?_⟩
    · show (sq b [.str wd, p.dat b, q.dat b]).canLay0 = true
      rw [lay_sq]
      exact lay_cons (lay_str h1) (lay_cons l1 (lay_cons m1 lay_nil))
    · show (sq b [.str wd, p.dat b, q.dat b]).depth ≤ max p.deep q.deep + 1 + 1
      rw [dep_sq, dep_cons, dep_cons, dep_cons, dep_nil, dep_str]
      omega
  | .qu wd z p, h => by
    obtain ⟨l1, l2⟩ := dat_lay b (t := p) h.2.2
    have h1 : PyData.strOk wd = true := by
      have g1 := h.1
      simp only [List.mem_cons, List.not_mem_nil, or_false] at g1
      rcases g1 with rfl | rfl <;> decide +kernel
    refine ⟨?_, ?_⟩
    · show (sq b [.str wd, .str z, p.dat b]).canLay0 = true
      rw [lay_sq]
      exact lay_cons (lay_str h1) (lay_cons (lay_str (nm_of (menu_nm z h.2.1)).ok) (lay_cons l1 lay_nil))
    · show (sq b [.str wd, .str z, p.dat b]).depth ≤ p.deep + 1 + 1
      rw [dep_sq, dep_cons, dep_cons, dep_cons, dep_nil, dep_str, dep_str]
      omega
  | .mo z p y q, h => by
    obtain ⟨l1, l2⟩ := dat_lay b (t := p) h.2.2.1
    obtain ⟨m1, m2⟩ := dat_lay b (t := q) h.2.2.2
    refine ⟨?_, ?_⟩
    · show (sq b [.str "more", .str z, p.dat b, .str y, q.dat b]).canLay0 = true
      rw [lay_sq]
      exact lay_cons (lay_str (by decide +kernel)) (lay_cons (lay_str (nm_of (menu_nm z h.1)).ok) (lay_cons l1 (lay_cons (lay_str (nm_of (menu_nm y h.2.1)).ok) (lay_cons m1 lay_nil))))
    · show (sq b [.str "more", .str z, p.dat b, .str y, q.dat b]).depth ≤ max p.deep q.deep + 1 + 1
      rw [dep_sq, dep_cons, dep_cons, dep_cons, dep_cons, dep_cons, dep_nil, dep_str, dep_str, dep_str]
      omega
  | .wk l m p st g, h => by
    obtain ⟨_, _, hn, hm, gp⟩ := h
    obtain ⟨l1, l2⟩ := dat_lay b (t := p) gp
    refine ⟨?_, ?_⟩
    · show (sq b [.str "walk", nms b l, nms b m, p.dat b, nms b st, nms b g]).canLay0 = true
      rw [lay_sq]
      exact lay_cons (lay_str (by decide +kernel)) (lay_cons (by rw [lay_sq]; exact lay_names fun v hv => hn v (List.mem_append_left _ hv)) (lay_cons (by rw [lay_sq]; exact lay_names fun v hv => hn v (List.mem_append_right _ hv)) (lay_cons l1
        (lay_cons (by rw [lay_sq]; exact lay_names fun v hv => menu_nm v (hm v (List.mem_append_left _ hv))) (lay_cons (by rw [lay_sq]; exact lay_names fun v hv => menu_nm v (hm v (List.mem_append_right _ hv))) lay_nil)))))
    · show (sq b [.str "walk", nms b l, nms b m, p.dat b, nms b st, nms b g]).depth ≤ p.deep + 1 + 1
      rw [dep_sq, dep_cons, dep_cons, dep_cons, dep_cons, dep_cons, dep_cons, dep_nil, dep_str, dep_sq, dep_sq, dep_sq, dep_sq, dep_names, dep_names, dep_names, dep_names]
      omega
theorem shaped2 {t u : Tr} (h : t.Good) (g : u.Good) (ht : t.deep ≤ 40) (hu : u.deep ≤ 40) : SeqAt.shaped (.list [t.dat false, u.dat false]) = true := by
  obtain ⟨l1, l2⟩ := dat_lay false h
  obtain ⟨m1, m2⟩ := dat_lay false g
  have e1 : (PyData.list [t.dat false, u.dat false]).canLay0 = true := by
    simp only [PyData.canLay0]
    exact lay_cons l1 (lay_cons m1 lay_nil)
  have e2 : (PyData.list [t.dat false, u.dat false]).depth ≤ 64 := by
    simp only [PyData.depth]
    rw [dep_cons, dep_cons, dep_nil]
    omega
  unfold SeqAt.shaped
  rw [e1, decide_eq_true e2]
  rfl
theorem eqv2 {t u : Tr} (h : t.Good) (g : u.Good) : PyData.eqv (.list [t.dat false, u.dat false]) (.list [t.dat false, u.dat false]) = true := by
  obtain ⟨l1, l2⟩ := dat_lay false h
  obtain ⟨m1, m2⟩ := dat_lay false g
  refine SeqAt.eqv_refl _ ?_
  simp only [PyData.canLay0]
  exact lay_cons l1 (lay_cons m1 lay_nil)
end K52

set_option maxRecDepth 100000
set_option maxHeartbeats 4000000
namespace K52
open PySem PySem.Spec PyProof.Rows L2
theorem pair_eq {a : Addr} {x y : Int} (h : x = y) : [V.ref a, V.int x] = [V.ref a, V.int y] := by rw [h]
theorem trip_eq {a b : Addr} {x y : Int} (h : x = y) : [V.ref a, V.ref b, V.int x] = [V.ref a, V.ref b, V.int y] := by rw [h]
/-- the list at a is new, the rest stays -/
theorem same_but {H H1 H2 : Hp} {a : Addr} (s : Same H H1) (n : H a = none) (b : SameBut a H1 H2) : Same H H2 := fun c o e => b c o (s c o e) (ne_of_none e n)
/-- a new instance and its dict -/
theorem mk_same {H Ho H7 : Hp} {x dx : Addr} {o u : HO} (s : Same H Ho) (nx : Ho x = none) (nd : Ho dx = none) (sb : SameBut x (upd (upd Ho dx o) x u) H7) : Same H H7 := fun c v e => by
  have e1 := s c v e
  refine sb c v ?_ (ne_of_none e1 nx)
  rw [upd_ne (ne_of_none e1 nx), upd_ne (ne_of_none e1 nd)]
  exact e1
theorem mk_old {Ho : Hp} {x dx : Addr} {o u : HO} (nx : Ho x = none) (nd : Ho dx = none) : Same Ho (upd (upd Ho dx o) x u) := fun c v e => by
  rw [upd_ne (ne_of_none e nx), upd_ne (ne_of_none e nd)]
  exact e
/-! ### the trees -/
def TreesAt (H : Hp) (vs : List V) (ts : List Tr) : Prop := vs.length = ts.length ∧ ∀ (k : Nat) (y : V), vs[k]? = some y → ∃ t, ts[k]? = some t ∧ At H t y ∧ t.Good ∧ t.deep ≤ 40 ∧ t.size ≤ 200
theorem TreesAt.keep {H H' : Hp} {vs : List V} {ts : List Tr} (h : TreesAt H vs ts) (k : Keep H H') : TreesAt H' vs ts := ⟨h.1, fun j y e => by
  obtain ⟨t, h1, h2, h3⟩ := h.2 j y e
  exact ⟨t, h1, h2.keep k, h3⟩⟩
theorem trees_none {H : Hp} : TreesAt H [] [] := ⟨rfl, fun k y e => by simp at e⟩
theorem TreesAt.snoc {H H' : Hp} {vs : List V} {ts : List Tr} {v : V} (h : TreesAt H vs ts) (k : Keep H H') (x : TreeV H' v 40 200) : ∃ t, TreesAt H' (vs ++ [v]) (ts ++ [t]) := by
  obtain ⟨t, x1, x2, x3, x4⟩ := x
  refine ⟨t, by rw [List.length_append, List.length_append, h.1]; rfl, fun j y e => ?_⟩
  by_cases hj : j < vs.length
  · rw [List.getElem?_append_left hj] at e
    obtain ⟨t2, h1, h2, h3⟩ := h.2 j y e
    exact ⟨t2, by rw [List.getElem?_append_left (by rw [← h.1]; exact hj)]; exact h1, h2.keep k, h3⟩
  · rw [List.getElem?_append_right (by omega)] at e
    have e0 : j - vs.length = 0 := by
      have := (List.getElem?_eq_some_iff.mp e).1
      rw [List.length_singleton] at this
      omega
    rw [e0] at e
    obtain rfl : v = y := Option.some.inj e
    refine ⟨t, ?_, x1, x2, x3, x4⟩
    rw [List.getElem?_append_right (by rw [← h.1]; omega), ← h.1, e0]
    rfl
/-- [_law_listed(tree) for tree in trees] -/
theorem lc_listed {K : PySem.W.Frag} {T D : Addr} {xs : List V} {ts : List Tr} {σ : L2.St} {vs : List Nat} {H1 : Hp} {Qd : Hp → Prop} (hT : H1 T = some (.lst xs)) (h : TreesAt H1 xs ts) (hD : H1 D = none) (hn : xs.length ≤ 900)
    (hw : ∀ x, wipe ((wipe σ vs).set 5 (some x)) vs = wipe σ vs) (hg : ∀ x, ((wipe σ vs).set 5 (some x))[5]? = some (some x))
    (hd : ∀ (H' : Hp) (ys : List V), Same H1 H' → H' D = some (.lst ys) → LdAll (fun _ => True) H' ys (ts.map (Tr.dat false)) → Qd H') :
    ∃ W : Nat → Nat → Hp → Prop, (∃ m, W 0 m (upd H1 D (.lst []))) ∧ ∀ i m H, W i m H →
      ((Itl K T).stop i H ∧ Qd H) ∨ ((Itl K T).go i H ∧ ∃ Nx : Hp → Prop, (∀ H', Nx H' → ∃ m', m' < m ∧ W (i + 1) m' H') ∧ ∀ x H', (Itl K T).yld i H x H' → gName 5 x (wipe σ vs) H' fun σ2 H2 => wipe σ2 vs = wipe σ vs ∧ tYes σ2 H2 fun b H3 =>
        if b = true then tCall (spListed 41) [] E0 (tCons (tVar 5) tNil) σ2 H3 fun y H4 => ∃ acc, H4 D = some (.lst acc) ∧ acc.length < sizeLine ∧ Nx (upd H4 D (.lst (acc ++ [y]))) else Nx H3) := by
  refine lc_list (K := K) (a := T) (xs := xs) (fun i H6 => ∃ ys : List V, H6 D = some (.lst ys) ∧ ys.length = i ∧ Same H1 H6 ∧ ∀ (k : Nat) (y : V), ys[k]? = some y → ∃ t, ts[k]? = some t ∧ Ld (fun b => H1 b = none ∧ b ≠ D) H6 y (t.dat false))
    ⟨[], upd_same, rfl, same_new hD _, fun k y e => by simp at e⟩ (fun i H6 _ ⟨_, _, _, s6, _⟩ => SqL.of (s6 _ _ hT)) ?_ ?_
  · rintro i y H6 hy ⟨ys, k1, k2, s6, k4⟩
    obtain ⟨t, ht, ha, hgd, hdp, _⟩ := h.2 i y hy
    have il : i < xs.length := (List.getElem?_eq_some_iff.mp hy).1
    refine ⟨hw _, ?_⟩
    refine ⟨_, hg _, y, t.dat false, rfl, ((ls_tree hgd ha).keep (keep_of s6)).up (by omega), fun H7 y' s7 l7 => ?_⟩
    refine ⟨ys, s7 _ _ k1, small1000 (by omega), ys ++ [y'], upd_same, by rw [List.length_append, k2]; rfl, same_upd (s6.trans s7) hD _, fun k z hz => ?_⟩
    by_cases hk : k < ys.length
    · rw [List.getElem?_append_left hk] at hz
      obtain ⟨e2, he2, hl2⟩ := k4 k z hz
      exact ⟨e2, he2, hl2.keep (fun _ h => h) fun b o hb ho => by rw [upd_ne hb.2]; exact s7 _ _ ho⟩
    · rw [List.getElem?_append_right (by omega)] at hz
      have hk2 : k - ys.length = 0 := by
        have := (List.getElem?_eq_some_iff.mp hz).1
        rw [List.length_singleton] at this
        omega
      rw [hk2] at hz
      obtain rfl : y' = z := Option.some.inj hz
      have hk3 : k = i := by omega
      subst hk3
      have ne : ∀ b, H6 b = none → H1 b = none ∧ b ≠ D := fun b hb => ⟨s6.free hb, fun z => by rw [z, k1] at hb; cases hb⟩
      exact ⟨t, ht, l7.keep ne fun b o hb ho => by rw [upd_ne (ne b hb).2]; exact ho⟩
  · rintro H6 ⟨ys, k1, k2, s6, k4⟩
    refine hd H6 ys s6 k1 (ldall_of (by rw [k2, h.1, List.length_map]) fun k y hy => ?_)
    obtain ⟨t, ht, hl⟩ := k4 k y hy
    exact ⟨t.dat false, by rw [List.getElem?_map, ht]; rfl, hl.keep (fun _ _ => True.intro) fun _ _ _ h => h⟩
theorem Ld.same {H H' : Hp} {v : V} {d : PyData} (h : Ld (fun _ => True) H v d) (s : Same H H') : Ld (fun _ => True) H' v d := h.keep (fun _ h => h) fun b o _ e => s b o e
theorem LdAll.same {H H' : Hp} {v : List V} {d : List PyData} (h : LdAll (fun _ => True) H v d) (s : Same H H') : LdAll (fun _ => True) H' v d := h.keep (fun _ h => h) fun b o _ e => s b o e
theorem ldall_len {N : Addr → Prop} {H : Hp} : ∀ {xs : List V} {ds : List PyData}, LdAll N H xs ds → xs.length = ds.length
  | _, _, .nil => rfl
  | _, _, .cons _ h => by rw [List.length_cons, List.length_cons, ldall_len h]
theorem ldall_get {N : Addr → Prop} {H : Hp} : ∀ {xs : List V} {ds : List PyData} {i : Nat} {x : V}, LdAll N H xs ds → xs[i]? = some x → ∃ d, ds[i]? = some d ∧ Ld N H x d
  | _, _, i, x, .nil, e => by simp at e
  | _, _, 0, x, .cons h _, e => ⟨_, rfl, Option.some.inj e ▸ h⟩
  | _, _, i + 1, x, .cons _ h, e => ldall_get (i := i) h e
/-! ### the questions and what is due -/
theorem QAt.put {C : Addr} {H : Hp} {p F : Addr} {t : Tr} {n : Nat} {l : List V} {o : HO} (q : QAt C H p t n) (h : H F = some (.lst l)) : QAt C (upd H F o) p t n := by
  obtain ⟨dx, tv, fp, u, b, o2, ys, h1, h2, h3, h4⟩ := q
  have k := keep_lst (o := o) h
  exact ⟨dx, tv, fp, u, b, o2, ys, by rw [upd_ne (ne_of h1 h (by intro z; cases z))]; exact h1, h2.keep k, k _ _ h3, h4⟩
theorem QAt.cnt {C : Addr} {H : Hp} {p : Addr} {t : Tr} {n : Nat} (q : QAt C H p t n) {zs : List Str} (nd : zs.Nodup) (m : ∀ x, x ∈ zs ↔ x ∈ t.fv) : zs.length = n := by
  obtain ⟨dx, tv, fp, u, b, o2, ys, h1, h2, h3, h4, h5, rfl⟩ := q
  exact same_len nd h4 fun x => by rw [m, h5]
/-- what is due for a question's tree, both sides -/
def DueAt (H : Hp) (y : V) (t : Tr) (n : Nat) : Prop := ∃ p, y = .ref p ∧ H p = some (.lst [.int ((n : Int) + 1 + t.need.1), .int ((n : Int) + 1 + t.need.2)])
theorem DueAt.same {H H' : Hp} {y : V} {t : Tr} {n : Nat} (h : DueAt H y t n) (s : Same H H') : DueAt H' y t n := by
  obtain ⟨p, e, h⟩ := h
  exact ⟨p, e, s _ _ h⟩
theorem cut_mem {l : List V} {lo hi : Option Int} {y : V} (h : y ∈ cutV l lo hi) : y ∈ l := List.mem_of_mem_drop (List.mem_of_mem_take h)
theorem digit_at {zs : List Int} {j : Nat} (h : j < zs.length) : ∃ z, (zs.map V.int)[j]? = some (V.int z) ∧ z ∈ zs := ⟨zs[j], by rw [List.getElem?_map, List.getElem?_eq_getElem h]; rfl, List.getElem_mem h⟩
theorem ones_sum : ∀ {us : List Str}, (∀ u ∈ us, u.length = 1) → (us.map (·.length)).sum = us.length
  | [], _ => rfl
  | u :: us, h => by
    rw [List.map_cons, List.sum_cons, ones_sum fun x hx => h x (List.mem_cons_of_mem _ hx), h u (List.mem_cons_self ..), List.length_cons]
    omega
theorem DueAt.put {H : Hp} {y : V} {t : Tr} {n : Nat} {F : Addr} {o : HO} (h : DueAt H y t n) (ne : y ≠ .ref F) : DueAt (upd H F o) y t n := by
  obtain ⟨p, rfl, h⟩ := h
  exact ⟨p, rfl, by rw [upd_ne fun z => ne (by rw [z])]; exact h⟩
theorem bits_at {l : List Nat} (z : Int) (h : 0 < l.length) (hb : ∀ n ∈ l, n < 2) : ∃ n : Nat, n < 2 ∧ atI (l.map fun n : Nat => V.int (n : Int)) (z % (l.length : Int)) = some (.int (n : Int)) := by
  obtain ⟨j, ej, hj⟩ := nat_of_mod (i := z) h
  refine ⟨l[j], hb _ (List.getElem_mem hj), ?_⟩
  rw [ej]
  exact atI_nat (by rw [List.getElem?_map, List.getElem?_eq_getElem hj]; rfl)
abbrev words : List Str := ["", "Yes", "NO", "yes ", " no", "y", "n", "yesno", "taken", "never", "true", "none", "no no", "yes\n", "other"]
abbrev signs : Str := "yesnoabcdefghijklmnopqrstuvwxyz YNO019"
theorem signs_len : signs.cps.size = 38 := by decide +kernel
theorem sign_at (z : Int) : ∃ c, signs.cps[(z % 37).toNat]? = some c := by
  have h0 : 0 ≤ z % 37 := Int.emod_nonneg _ (by decide)
  have h1 : z % 37 < 37 := Int.emod_lt_of_pos _ (by decide)
  have : (z % 37).toNat < signs.cps.size := by rw [signs_len]; omega
  exact ⟨_, Array.getElem?_eq_getElem this⟩
theorem longer {z : Str} (h : z ∈ (["yes", "no"] : List Str)) : z ++ ("s" : Str) ∉ (["yes", "no"] : List Str) ∧ z.length ≤ 3 := by
  simp only [List.mem_cons, List.not_mem_nil, or_false] at h
  rcases h with rfl | rfl <;> decide +kernel
end K52

set_option maxRecDepth 100000
set_option maxHeartbeats 4000000
namespace K52
open PySem PySem.Spec PyProof.Rows L2
section
variable {P : Program} {w : World} {K : PySem.W.Frag} {mg : Str → Option Value} {base : Heap}
abbrev sLaw : Stmt := top 62
abbrev lawN : List Str := ["_law_script", "_law_trees", "_law_k", "_law_row_here", "_law_at", "_law_tree", "_law_turn", "_law_other", "_law_joined", "_law_listed_here", "_law_turns", "_law_questions", "_law_dues", "_law_texts", "_law_word", "_law_j", "_law_side", "_law_need", "_law_one"]
def spLaw (K : PySem.W.Frag) : Sp := fun vs H Q _ => ∃ (a : Addr) (ns : List Int), vs = [.ref a] ∧ SqL K H a (ns.map V.int) ∧ ∀ H', Q (.bl true) H'
theorem scLaw : FnScope lawN ["_law_script"] (defScope sLaw) := ⟨rfl, rfl, rfl, by decide +kernel, rfl, by decide +kernel, by decide +kernel⟩
/-- the scope of the outer comprehension of the dues -/
def dueScope : Scope := { kind := .function, names := [(".0", .local), ("_law_tree", .cell), ("_law_needs", .globalImplicit)], isGenerator := false, isCoroutine := false, more := [] }
/-- len(_law_free(tree)) + 1 + need -/
abbrev tDue (K : PySem.W.Frag) : TE := tOp (rI0 fun i j => .int (i + j)) (tOp (rI0 fun i j => .int (i + j)) (tCB (fun xs H Q => ∃ p ys, xs = [.ref p] ∧ (SqL K H p ys ∨ SqT K H p ys) ∧ Q (.int ys.length) H) (tCons (tCall (spFreeL 40) [] E0 (tCons (tVar 5) tNil)) tNil)) (tC (.int 1))) (tVar 17)
theorem ok_law {CQ fI fG pG f : Addr} {fdI fdG fd : FuncData} (E1 : Env1 K mg) (FL : Fun K "law" "law" sLaw f fd) (T : TxtQ K mg CQ fI fG pG fdI fdG) (GQ : FnOk P w K mg base CX0 87 fI fdI ["self", "tree"] (spQInit K CQ)) (ce : Cal P w K mg base CX0 1 "_law_cell" (spCellL K)) (cr : Cal P w K mg base CX0 1 "_law_row" spRow) (ct : Cal P w K mg base CX0 1 "_law_take" spTake)
    (cc : Cal P w K mg base CX0 3 "_law_chain" spChain) (cl : Cal P w K mg base CX0 42 "_law_listed" (spListed 41)) (cf : Cal P w K mg base CX0 41 "_law_free" (spFreeL 40)) (cn : Cal P w K mg base CX0 41 "_law_needs" (spNeedsL 40))
    (ci : Cal P w K mg base CX0 45 "_law_is_bill" (spIsBill CQ)) (cx : Cal P w K mg base CX0 45 "_law_refused" (spRefused CQ)) : FnOk P w K mg base CX0 89 f fd ["_law_script"] (spLaw K) := by
  refine FL.ok scLaw (fun vs H Q E h => ?_) (fun cdv A outer s H vs Q E hr h => ?_)
  · obtain ⟨a, ns, rfl, _⟩ := h
    rfl
  obtain ⟨a, ns, rfl, hS, q⟩ := h
  have bQ : Binds K fdI ["self", "tree"] [] := T.FI.binds fun _ _ _ _ _ _ us hl => match us, hl with | [_, _], _ => rfl
  refine ⟨_, (pss_cons (ps_set (i := 1) scLaw.nd rfl (Or.inr rfl) (pe_lst pa_nil))
      (pss_cons (ps_for PassesOwn.never rfl (pi_range1 rfl E1.range (pa_cons pe_int pa_nil)) (pg_name (i := 2) scLaw.nd rfl (Or.inl rfl))
      (pss_cons (ps_set (i := 3) scLaw.nd rfl (Or.inl rfl) (pe_c cr hr (by decide) (pa_cons (pe_c ce hr (by decide) (pa_cons (pv 0) (pa_cons (pe_op op_mul pe_int (pv 2)) pa_nil))) (pa_cons pe_int pa_nil))))
      (pss_cons (ps_set (i := 4) scLaw.nd rfl (Or.inl rfl) (pe_lst (pa_cons pe_int pa_nil)))
      (pss_cons (ps_set (i := 5) scLaw.nd rfl (Or.inl rfl) (pe_c cc hr (by decide) (pa_cons (pv 3) (pa_cons (pv 4) (pa_cons (pe_op op_mod (pe_toInt rfl E1.int (pe_ix ix_list (pv 3) pe_int (fun _ _ => rfl))) pe_int) pa_nil)))))
      (pss_cons (ps_if (pt_cmpR op_gt (pe_op op_mod (pe_ix ix_list (pv 3) pe_int (fun _ _ => rfl)) pe_int) pe_int (nomark _)) (pss_cons (ps_set (i := 6) scLaw.nd rfl (Or.inl rfl) (pe_c ct hr (by decide) (pa_cons (pv 3) (pa_cons (pv 4) (pa_cons pe_int pa_nil)))))
      (pss_cons (ps_set (i := 7) scLaw.nd rfl (Or.inl rfl) (pe_c cc hr (by decide) (pa_cons (pe_c cr hr (by decide) (pa_cons (pe_c ce hr (by decide) (pa_cons (pv 0) (pa_cons (pe_op op_add (pe_op op_mul pe_int (pv 2)) pe_int) pa_nil))) (pa_cons pe_int pa_nil))) (pa_cons (pe_lst (pa_cons pe_int pa_nil)) (pa_cons (pe_op op_add pe_int (pe_op op_mod (pe_toInt rfl E1.int (pe_ix ix_list (pv 3) pe_int (fun _ _ => rfl))) pe_int)) pa_nil)))))
      (pss_cons (ps_set (i := 8) scLaw.nd rfl (Or.inl rfl) (pe_lst (pa_cons (pe_tup (pa_cons pe_str (pa_cons (pv 5) (pa_cons (pv 7) pa_nil)))) (pa_cons (pe_tup (pa_cons pe_str (pa_cons (pv 7) (pa_cons (pv 5) pa_nil)))) (pa_cons (pe_tup (pa_cons pe_str (pa_cons pe_str (pa_cons (pv 5) (pa_cons pe_str (pa_cons (pv 7) pa_nil)))))) (pa_cons (pe_tup (pa_cons pe_str (pa_cons pe_str (pa_cons (pv 7) (pa_cons pe_str (pa_cons (pv 5) pa_nil)))))) pa_nil))))))
      (pss_one (ps_set (i := 5) scLaw.nd rfl (Or.inl rfl) (pe_ix ix_list (pv 8) (pv 6) (fun _ _ => rfl))))))) pss_nil)
      (pss_one (ps_expr (pe_bm PySem.F.plainAttrs_list PySem.F.slot_list_append PySem.F.type_list_append mt_append (pv 1) (pa_cons (pv 5) pa_nil)))))))))
      (pss_cons (ps_set (i := 9) scLaw.nd rfl (Or.inr rfl) (pe_lc (own := [("_law_tree", 5)]) (g := gName 5) (tt := tYes) rfl scLaw.nd  (pi_list (pv 1)) (blkOk_by (N := lawN) (sc := defScope sLaw) (by decide +kernel)) (fun _ _ _ _ _ => pg_name (i := 5) scLaw.nd rfl (Or.inl rfl)) (fun _ _ _ _ _ => pts_nil) (fun _ _ _ _ _ => (pe_c cl hr (by decide) (pa_cons (pv 5) pa_nil)))))
      (pss_cons (ps_set (i := 10) scLaw.nd rfl (Or.inr rfl) (pe_c cr hr (by decide) (pa_cons (pe_c ce hr (by decide) (pa_cons (pv 0) (pa_cons pe_int pa_nil))) (pa_cons pe_int pa_nil))))
      (pss_cons (ps_setLc (i := 11) (own := [("_law_k", 2)]) (g := gName 2) (tt := tYes) rfl scLaw.nd rfl rfl (sw_true rfl rfl rfl (by decide +kernel)) (pi_range1 rfl E1.range (pa_cons pe_int pa_nil)) (blkOk_by (N := lawN) (sc := defScope sLaw) (by decide +kernel)) (fun _ _ _ _ _ => pg_name (i := 2) scLaw.nd rfl (Or.inl rfl)) (fun _ _ _ _ _ => pts_nil) (fun _ _ _ _ _ => (pe_make T.mkC GQ (hr.mono (by decide)) rfl T.mgC bQ .nil pass0 (pa_cons (pe_ix (r := rIxL K) ix_list (pe_lst (pa_cons (pe_ix (r := rIxL K) ix_list (pv 1) (pv 2) (fun _ _ => rfl)) (pa_cons (pe_ix (r := rIxL K) ix_list (pv 9) (pv 2) (fun _ _ => rfl)) pa_nil))) (pe_op op_mod (pe_toInt rfl E1.int (pe_ix (r := rIxL K) ix_list (pv 10) (pv 2) (fun _ _ => rfl))) pe_int) (fun _ _ => rfl)) pa_nil))))
      (pss_cons (ps_setLc (i := 12) (own := [("_law_tree", 5)]) (g := gName 5) (tt := tYes) rfl scLaw.nd rfl rfl (sw_true rfl rfl rfl (by decide +kernel)) (pi_list (pv 1)) (blkOk_by (N := lawN) (sc := defScope sLaw) (by decide +kernel)) (fun _ _ _ _ _ => pg_name (i := 5) scLaw.nd rfl (Or.inr rfl)) (fun _ _ _ _ _ => pts_nil) (fun _ _ _ _ _ => (pe_lc (wi := iList K (tCall (spNeedsL 40) [] E0 (tCons (tVar 5) tNil))) (te := tDue K) (own := [("_law_need", 17)]) (g := gName 17) (tt := tYes) rfl scLaw.nd  (pi_list (pe_c cn hr (by decide) (pa_cons (pv 5) pa_nil))) (blkOk_by (N := lawN) (sc := dueScope) (by decide +kernel)) (fun _ _ _ _ _ => pg_name (i := 17) scLaw.nd rfl (Or.inl rfl)) (fun _ _ _ _ _ => pts_nil) (fun _ _ _ _ _ => (pe_op op_add (pe_op op_add (pe_callB call_len_seq rfl E1.len boot_len (pa_cons (pe_c cf hr (by decide) (pa_cons (pv 5) pa_nil)) pa_nil)) pe_int) (pv 17))))))
      (pss_cons (ps_set (i := 13) scLaw.nd rfl (Or.inl rfl) (pe_lst (pa_cons pe_str (pa_cons pe_str (pa_cons pe_str (pa_cons pe_str (pa_cons pe_str (pa_cons pe_str (pa_cons pe_str (pa_cons pe_str (pa_cons pe_str (pa_cons pe_str (pa_cons pe_str (pa_cons pe_str (pa_cons pe_str (pa_cons pe_str (pa_cons pe_str pa_nil)))))))))))))))))
      (pss_cons (ps_expr (pe_bm PySem.F.plainAttrs_list PySem.F.slot_list_append PySem.F.type_list_append mt_append (pv 13) (pa_cons (pe_join pe_str (pe_lc (own := [("_law_one", 18)]) (g := gName 18) (tt := tYes) rfl scLaw.nd  (pi_list (pe_slice sl_list (pv 10) (po_some pe_int) (po_some (pe_op op_add pe_int (pe_op op_mod (pe_ix ix_list (pv 10) pe_int (fun _ _ => rfl)) pe_int))))) (blkOk_by (N := lawN) (sc := defScope sLaw) (by decide +kernel)) (fun _ _ _ _ _ => pg_name (i := 18) scLaw.nd rfl (Or.inl rfl)) (fun _ _ _ _ _ => pts_nil) (fun _ _ _ _ _ => (pe_item_str pe_str (pe_op op_mod (pe_toInt rfl E1.int (pv 18)) pe_int) (fun _ _ => rfl))))) pa_nil)))
      (pss_cons (ps_set (i := 14) scLaw.nd rfl (Or.inl rfl) (pe_ix ix_list (pv 13) (pe_op op_mod (pe_toInt rfl E1.int (pe_ix ix_list (pv 10) pe_int (fun _ _ => rfl))) pe_int) (fun _ _ => rfl)))
      (pss_cons (ps_if (pt_cmpR op_in_seq (pv 14) (pe_lst (pa_cons pe_str (pa_cons pe_str pa_nil))) rfl) (pss_one (ps_set (i := 14) scLaw.nd rfl (Or.inl rfl) (pe_op op_add_str (pv 14) pe_str))) pss_nil)
      (pss_cons (ps_for PassesOwn.never rfl (pi_range1 rfl E1.range (pa_cons pe_int pa_nil)) (pg_name (i := 2) scLaw.nd rfl (Or.inl rfl))
      (pss_cons (ps_set (i := 15) scLaw.nd rfl (Or.inl rfl) (pe_ix ix_list (pe_lst (pa_cons pe_int (pa_cons pe_int (pa_cons pe_int (pa_cons pe_int (pa_cons pe_int (pa_cons pe_int pa_nil))))))) (pe_op op_mod (pv 2) pe_int) (fun _ _ => rfl)))
      (pss_cons (ps_set (i := 16) scLaw.nd rfl (Or.inl rfl) (pe_ix ix_list (pe_lst (pa_cons pe_int (pa_cons pe_int (pa_cons pe_int (pa_cons pe_int (pa_cons pe_int (pa_cons pe_int pa_nil))))))) (pe_op op_mod (pe_op op_add (pv 2) (pe_ix ix_list (pv 10) pe_int (fun _ _ => rfl))) pe_int) (fun _ _ => rfl)))
      (pss_cons (ps_if (pt_not (pt_val (pe_c ci hr (by decide) (pa_cons (pe_ix ix_list (pv 11) (pv 15) (fun _ _ => rfl)) (pa_cons (pe_ix ix_list (pe_lst (pa_cons pe_str (pa_cons pe_str pa_nil))) (pv 16) (fun _ _ => rfl)) (pa_cons (pe_ix ix_list (pe_ix ix_list (pv 12) (pv 15) (fun _ _ => rfl)) (pv 16) (fun _ _ => rfl)) pa_nil)))))) (pss_one (ps_ret pe_bl)) pss_nil)
      (pss_one (ps_if (PW.pt (pw_and (pt_cmpR op_eq (pv 2) pe_int (nomark _)) (pw_and1 (PW.pt (pw_or (pt_not (pt_val (pe_c cx hr (by decide) (pa_cons (pe_ix ix_list (pv 11) (pe_op op_mod (pe_ix ix_list (pv 10) pe_int (fun _ _ => rfl)) pe_int) (fun _ _ => rfl)) (pa_cons (pv 14) pa_nil))))) (pw_or1 (pt_not (pt_val (pe_c cx hr (by decide) (pa_cons (pe_ix ix_list (pv 11) (pe_op op_sub pe_int (pe_op op_mod (pe_ix ix_list (pv 10) pe_int (fun _ _ => rfl)) pe_int)) (fun _ _ => rfl)) (pa_cons (pv 14) pa_nil))))))))))) (pss_one (ps_ret pe_bl)) pss_nil))))))
      (pss_one (ps_ret (pe_cmpR (op_eqD hr.units) (pv 9) (pe_lc (own := [("_law_tree", 5)]) (g := gName 5) (tt := tYes) rfl scLaw.nd  (pi_list (pv 1)) (blkOk_by (N := lawN) (sc := defScope sLaw) (by decide +kernel)) (fun _ _ _ _ _ => pg_name (i := 5) scLaw.nd rfl (Or.inl rfl)) (fun _ _ _ _ _ => pts_nil) (fun _ _ _ _ _ => (pe_c cl hr (by decide) (pa_cons (pv 5) pa_nil)))) (nomark _))))))))))))))), ?_⟩
  -- trees = []
  refine ⟨Nat.zero_le _, fun T hT => ?_⟩
  refine ⟨2, rfl, by decide, by decide, for_range (lo := 0) (n := 2) (fun i σ H2 => ∃ (vs : List V) (ts : List Tr) (c2 c3 c4 c5 c6 c7 c8 : Option V), σ = [some (.ref a), some (.ref T), c2, c3, c4, c5, c6, c7, c8, none, none, none, none, none, none, none, none, none, none] ∧ H2 T = some (.lst vs) ∧ vs.length = i ∧ TreesAt H2 vs ts ∧ Same H H2)
    ⟨[], [], none, none, none, none, none, none, none, rfl, upd_same, rfl, trees_none, same_new hT _⟩ ?_ ?_⟩
  · rintro i σ H2 hi ⟨vs, ts, c2, c3, c4, c5, c6, c7, c8, rfl, g1, g2, g3, s2⟩
    -- the row, its place
    refine ⟨_, rfl, _, rfl, _, _, rfl, rfl, .inl ⟨by decide, by decide⟩, a, ns, 2 * i, pair_eq (by omega), s2.seq hS, by omega, fun z => ⟨z, 400, rfl, by decide, fun H3 r zs s3 n3 r3 l3 d3 => ?_⟩⟩
    refine ⟨one_line, fun aa haa => ?_⟩
    have t4 := same_new haa (HO.lst [V.int 2])
    have r4 := t4 _ _ r3
    have ra : r ≠ aa := ne_of_none r3 haa
    have w4 : Rw (upd H3 aa (.lst [.int 2])) r aa 2 := ⟨⟨zs, r4, d3, by omega, by omega⟩, upd_same, ra⟩
    have s24 := s3.trans t4
    have na : H2 aa = none := s3.free haa
    obtain ⟨y0, ey0, _⟩ := digit_at (zs := zs) (j := 0) (by omega)
    obtain ⟨y1, ey1, _⟩ := digit_at (zs := zs) (j := 1) (by omega)
    obtain ⟨m0, em0, hm0⟩ := nat_of_mod (i := y0) (m := 39) (by decide)
    obtain ⟨m1, em1, hm1⟩ := nat_of_mod (i := y1) (m := 37) (by decide)
    -- the first chain
    refine ⟨_, rfl, _, rfl, _, rfl, r, _, 0, _, rfl, rfl, SqL.of r4, at_of (j := 0) rfl ey0, .inl ⟨_, rfl, _, _, rfl, rfl, (by show (0 : Int) < 39; decide), ?_⟩⟩
    refine ⟨r, aa, m0, 2, trip_eq em0, w4, by omega, by decide, fun H5 tv k' e5 w5 hk5 t5 => ?_⟩
    have s25 := same_but s24 na e5
    have r5 := e5 _ _ r4 ra
    dsimp only [gName]
    refine cutIf (fun σ' H' => ∃ (tv' : V) (c6' c7' c8' : Option V), σ' = [some (.ref a), some (.ref T), some (.int (0 + (i : Int))), some (.ref r), some (.ref aa), some tv', c6', c7', c8', none, none, none, none, none, none, none, none, none, none] ∧ TreeV H' tv' 40 200 ∧ Same H2 H') (fun R k => ?_) ?_
    · refine ⟨_, rfl, r, _, 1, _, rfl, rfl, SqL.of r5, at_of (j := 1) rfl ey1, _, _, rfl, rfl, (by show (0 : Int) < 3; decide), _, 0, rfl, rfl, _, rfl, ?_⟩
      refine ite2 (fun _ => ?_) (fun _ => ?_)
      · refine ⟨_, rfl, _, rfl, r, aa, k', 4, rfl, w5, by decide, by omega, fun j6 H6 hj6 e6 w6 => ?_⟩
        have s26 := same_but s25 na e6
        have r6 := e6 _ _ r5 ra
        have t6 := t5.keep (w5.keep e6)
        refine ⟨_, rfl, _, rfl, _, _, rfl, rfl, .inl ⟨by decide, by decide⟩, _, _, rfl, rfl, a, ns, 2 * i + 1, pair_eq (by omega), (s2.trans s26).seq hS, by omega, fun z2 => ⟨z2, 400, rfl, by decide, fun H7 r2 zs2 s7 n7 r7 l7 d7 => ?_⟩⟩
        refine ⟨one_line, fun a2 ha2 => ?_⟩
        have t8 := same_new ha2 (HO.lst [V.int 0])
        have s68 := s7.trans t8
        have w8 : Rw (upd H7 a2 (.lst [.int 0])) r2 a2 0 := ⟨⟨zs2, t8 _ _ r7, d7, by omega, by omega⟩, upd_same, ne_of_none r7 ha2⟩
        refine ⟨_, rfl, r, _, 1, _, rfl, rfl, SqL.of (s68 _ _ r6), at_of (j := 1) rfl ey1, .inl ⟨_, rfl, _, _, rfl, rfl, (by show (0 : Int) < 37; decide), _, _, rfl, rfl, ?_⟩⟩
        refine ⟨r2, a2, 1 + m1, 0, trip_eq (by rw [show y1 % 37 = (m1 : Int) from em1]; omega), w8, by omega, by decide, fun H9 ov k9 e9 w9 hk9 t9 => ?_⟩
        have n2a : H6 a2 = none := s7.free ha2
        have s69 := same_but s68 n2a e9
        have s29 := s26.trans s69
        have x9 := (t6.keep (keep_of s69)).up (d' := 39) (s' := 77) (by omega) (by omega)
        have o9 := t9.up (d' := 39) (s' := 77) (by omega) (by omega)
        have hx : ("x" : Str) ∈ menu := by decide +kernel
        have hy : ("y" : Str) ∈ menu := by decide +kernel
        have hz : ("z" : Str) ∈ menu := by decide +kernel
        have hq : ("q" : Str) ∈ menu := by decide +kernel
        refine ⟨_, rfl, _, rfl, three_line, fun p1 h1 => ?_⟩
        have T1 := trees_nil.snoc (keep_new h1 _) ((tree_bin (wd := "and") (by decide +kernel) h1 x9 o9).up (d' := 40) (s' := 200) (by omega) (by omega))
        have b1 := keep_new h1 (.tup [.str "and", tv, ov])
        refine ⟨_, rfl, _, rfl, three_line, fun p2 h2 => ?_⟩
        have T2 := T1.snoc (keep_new h2 _) ((tree_bin (wd := "or") (by decide +kernel) h2 (o9.keep b1) (x9.keep b1)).up (d' := 40) (s' := 200) (by omega) (by omega))
        have b2 := b1.trans (keep_new h2 (.tup [.str "or", ov, tv]))
        refine ⟨_, rfl, _, rfl, five_line, fun p3 h3 => ?_⟩
        have T3 := T2.snoc (keep_new h3 _) ((tree_mo hx hy h3 (x9.keep b2) (o9.keep b2)).up (d' := 40) (s' := 200) (by omega) (by omega))
        have b3 := b2.trans (keep_new h3 (.tup [.str "more", .str "x", tv, .str "y", ov]))
        refine ⟨_, rfl, _, rfl, five_line, fun p4 h4 => ?_⟩
        have T4 := T3.snoc (keep_new h4 _) ((tree_mo hz hq h4 (o9.keep b3) (x9.keep b3)).up (d' := 40) (s' := 200) (by omega) (by omega))
        refine ⟨four_line, fun p5 h5 => ?_⟩
        have S : Same H9 _ := ((((same_new h1 (.tup [.str "and", tv, ov])).trans (same_new h2 (.tup [.str "or", ov, tv]))).trans (same_new h3 (.tup [.str "more", .str "x", tv, .str "y", ov]))).trans (same_new h4 (.tup [.str "more", .str "z", ov, .str "q", tv]))).trans (same_new h5 (.lst [.ref p1, .ref p2, .ref p3, .ref p4]))
        obtain ⟨v, ev, hv⟩ := trees_at (T4.keep (keep_new h5 (.lst [.ref p1, .ref p2, .ref p3, .ref p4]))) (j := j6) hj6
        refine ⟨_, rfl, _, rfl, p5, _, _, _, rfl, rfl, SqL.of upd_same, ev, ?_⟩
        exact k _ _ ⟨_, _, _, _, rfl, hv, s29.trans S⟩
      · exact k _ _ ⟨_, _, _, _, rfl, t5.up (by omega) (by omega), s25⟩
    rintro σ' H6 ⟨tv', c6', c7', c8', rfl, tr, s26⟩
    have g6 := s26 _ _ g1
    obtain ⟨t, g3'⟩ := g3.snoc (keep_of s26) tr
    refine ⟨_, rfl, .inl ⟨rfl, _, SqL.of g6⟩, _, rfl, T, _, _, rfl, rfl, g6, small1000 (by omega), ?_⟩
    exact ⟨_, _, _, _, _, _, _, _, _, rfl, upd_same, by rw [List.length_append, g2]; rfl, g3'.keep (keep_lst g6), same_upd (s2.trans s26) hT _⟩
  · rintro σ H2 ⟨vs, ts, c2, c3, c4, c5, c6, c7, c8, rfl, g1, g2, g3, s2⟩
    have tl : ts.length = 2 := by rw [← g3.1, g2]
    -- the lists
    refine ⟨_, rfl, T, rfl, ⟨_, SqL.of g1⟩, fun L hL => ?_⟩
    refine lc_listed g1 g3 hL (by omega) (fun _ => rfl) (fun _ => rfl) fun H3 ls s3 gl hl => ?_
    -- the turns
    refine ⟨_, rfl, a, ns, 4, rfl, (s2.trans s3).seq hS, by decide, fun z => ⟨z, 30, rfl, by decide, fun H4 R zs s4 n4 r4 l4 d4 => ?_⟩⟩
    have g4 := s4 _ _ (s3 _ _ g1)
    have gl4 := s4 _ _ gl
    have hl4 := hl.same s4
    have g34 := g3.keep (keep_of (s3.trans s4))
    have ll : ls.length = 2 := by rw [ldall_len hl4, List.length_map, tl]
    have dig : ∀ j, j < 30 → ∃ z, (zs.map V.int)[j]? = some (V.int z) := fun j hj => by
      obtain ⟨z, hz, _⟩ := digit_at (zs := zs) (j := j) (by omega)
      exact ⟨z, hz⟩
    have at2 : ∀ k, k < 2 → ∃ v l t, vs[k]? = some v ∧ ls[k]? = some l ∧ ts[k]? = some t ∧ At H4 t v ∧ Ld (fun _ => True) H4 l (t.dat false) ∧ t.Good ∧ t.deep ≤ 40 ∧ t.size ≤ 200 := fun k hk => by
      have hv : vs[k]? = some (vs[k]'(by omega)) := List.getElem?_eq_getElem _
      have hl : ls[k]? = some (ls[k]'(by omega)) := List.getElem?_eq_getElem _
      obtain ⟨t, ht, h1, h2, h3, h4⟩ := g34.2 k _ hv
      obtain ⟨d, hd, h5⟩ := ldall_get hl4 hl
      rw [List.getElem?_map, ht] at hd
      obtain rfl := Option.some.inj hd
      exact ⟨_, _, t, hv, hl, ht, h1, h5, h2, h3, h4⟩
    -- the questions
    refine ⟨2, rfl, by decide, by decide, fun F hF => ?_⟩
    refine lc_range (lo := 0) (n := 2) (fun k H6 => ∃ qs : List V, H6 F = some (.lst qs) ∧ qs.length = k ∧ Same H4 H6 ∧ ∀ (j : Nat) (y : V), qs[j]? = some y → ∃ t p n, ts[j]? = some t ∧ y = .ref p ∧ QAt CQ H6 p t n) ⟨[], upd_same, rfl, same_new hF _, fun k y e => by simp at e⟩ ?_ ?_
    · rintro k H6 hk ⟨qs, y1, y2, s6, y4⟩
      obtain ⟨v, l, t, hv, hll, ht, ha, hld, hgd, hdp, hsz⟩ := at2 k hk
      obtain ⟨z, hz⟩ := dig k (by omega)
      obtain ⟨e, ee, he⟩ := nat_of_mod (i := z) (m := 2) (by decide)
      refine ⟨rfl, _, rfl, _, rfl, T, _, _, _, rfl, rfl, SqL.of (s6 _ _ g4), at_of (j := k) (by omega) hv, _, rfl, _, rfl, L, _, _, _, rfl, rfl, SqL.of (s6 _ _ gl4), at_of (j := k) (by omega) hll, two_line, fun o ho => ?_⟩
      have t7 := same_new ho (HO.lst [v, l])
      refine ⟨_, rfl, _, rfl, R, _, _, _, rfl, rfl, SqL.of (t7 _ _ (s6 _ _ r4)), at_of (j := k) (by omega) hz, .inl ⟨_, rfl, _, _, rfl, rfl, (by show (0 : Int) < 2; decide), ?_⟩⟩
      obtain ⟨x, b, hx, hxd⟩ : ∃ (x : V) (b : Bool), atI [v, l] (z % 2) = some x ∧ ∀ H' : Hp, Same H4 H' → Dp K H' x (t.dat b) := by
        rcases (by omega : e = 0 ∨ e = 1) with rfl | rfl
        · exact ⟨v, true, by rw [show z % 2 = ((0 : Nat) : Int) from ee]; rfl, fun H' s => (ha.keep (keep_of s)).dp⟩
        · exact ⟨l, false, by rw [show z % 2 = ((1 : Nat) : Int) from ee]; rfl, fun H' s => (hld.same s).dp⟩
      refine ⟨o, _, _, _, rfl, rfl, SqL.of upd_same, hx, fun qa dx nx ndx nex => ?_⟩
      have sN := mk_old (o := HO.own qa) (u := HO.ins CQ dx []) nx ndx
      refine ⟨qa, dx, x, b, t, rfl, upd_same, hxd _ ((s6.trans t7).trans sN), hgd, hdp, by omega, fun H7 n sb hq => ⟨rfl, ?_⟩⟩
      have s67 := mk_same t7 nx ndx sb
      have y17 := s67 _ _ y1
      refine ⟨qs, y17, small1000 (by omega), qs ++ [.ref qa], upd_same, by rw [List.length_append, y2]; rfl, same_upd (s6.trans s67) hF _, fun j y hy => ?_⟩
      by_cases hj : j < qs.length
      · rw [List.getElem?_append_left hj] at hy
        obtain ⟨t2, p2, n2, e1, e2, e3⟩ := y4 j y hy
        exact ⟨t2, p2, n2, e1, e2, (e3.same s67).put y17⟩
      · rw [List.getElem?_append_right (by omega)] at hy
        have hk2 : j - qs.length = 0 := by
          have := (List.getElem?_eq_some_iff.mp hy).1
          rw [List.length_singleton] at this
          omega
        rw [hk2] at hy
        obtain rfl : V.ref qa = y := Option.some.inj hy
        have hk3 : j = k := by omega
        subst hk3
        exact ⟨t, qa, n, ht, rfl, hq.put y17⟩
    rintro H5 ⟨qs, gq, ql, s5, hq⟩
    have qf : ∀ k, k < 2 → ∃ v t p n, vs[k]? = some v ∧ ts[k]? = some t ∧ qs[k]? = some (.ref p) ∧ QAt CQ H5 p t n ∧ At H5 t v ∧ t.Good ∧ t.deep ≤ 40 := fun k hk => by
      obtain ⟨v, l, t, hv, hll, ht, ha, hld, hgd, hdp, hsz⟩ := at2 k hk
      have hqk : qs[k]? = some (qs[k]'(by omega)) := List.getElem?_eq_getElem _
      obtain ⟨t2, p, n, e1, e2, e3⟩ := hq k _ hqk
      rw [ht] at e1
      obtain rfl := Option.some.inj e1
      rw [e2] at hqk
      exact ⟨v, t, p, n, hv, ht, hqk, e3, ha.keep (keep_of s5), hgd, hdp⟩
    -- the dues
    refine ⟨_, rfl, T, rfl, ⟨_, SqL.of (s5 _ _ g4)⟩, fun F2 hF2 => ?_⟩
    have gT5 := s5 _ _ g4
    refine lc_list (K := K) (a := T) (xs := vs) (fun i H6 => ∃ ds : List V, H6 F2 = some (.lst ds) ∧ ds.length = i ∧ Same H5 H6 ∧ ∀ (j : Nat) (y : V), ds[j]? = some y → ∃ t p n, ts[j]? = some t ∧ qs[j]? = some (.ref p) ∧ QAt CQ H5 p t n ∧ DueAt H6 y t n ∧ y ≠ .ref F2)
      ⟨[], upd_same, rfl, same_new hF2 _, fun k y e => by simp at e⟩ (fun i H6 _ ⟨_, _, _, s6, _⟩ => SqL.of (s6 _ _ gT5)) ?_ ?_
    · rintro i y H6 hy ⟨ds, y1, y2, s6, y4⟩
      have il : i < 2 := by
        have := (List.getElem?_eq_some_iff.mp hy).1
        omega
      obtain ⟨v, t, p, n, hv, ht, hqk, hqa, ha, hgd, hdp⟩ := qf i il
      rw [hv] at hy
      obtain rfl := Option.some.inj hy
      refine ⟨rfl, ?_⟩
      refine ⟨_, rfl, v, t, rfl, ha.keep (keep_of s6), hgd, hdp, fun H7 pn s7 n7 g7 => ⟨pn, rfl, ⟨_, SqL.of g7⟩, fun F3 hF3 => ?_⟩⟩
      refine lc_list (K := K) (a := pn) (xs := [V.int t.need.1, V.int t.need.2]) (fun j H8 => H8 F3 = some (.lst ([V.int ((n : Int) + 1 + t.need.1), V.int ((n : Int) + 1 + t.need.2)].take j)) ∧ Same H7 H8) ⟨upd_same, same_new hF3 _⟩ (fun j H8 _ ⟨_, s8⟩ => SqL.of (s8 _ _ g7)) ?_ ?_
      · rintro j x H8 hx ⟨k1, s8⟩
        have s68 := s7.trans s8
        refine ⟨rfl, _, rfl, v, t, rfl, ha.keep (keep_of (s6.trans s68)), hgd, hdp, fun H9 pz zz s9 n9 g9 nd9 m9 => ?_⟩
        have el : ((zz.map V.str).length : Int) = (n : Int) := by rw [List.length_map, hqa.cnt nd9 m9]
        have k9 := s9 _ _ k1
        refine ⟨pz, _, rfl, .inl (SqL.of g9), _, _, rfl, rfl, _, rfl, ?_⟩
        have jl : j < 2 := (List.getElem?_eq_some_iff.mp hx).1
        rcases (by omega : j = 0 ∨ j = 1) with rfl | rfl
        · obtain rfl := Option.some.inj hx
          refine ⟨_, _, rfl, rfl, _, k9, few_take, ?_, same_upd (s8.trans s9) hF3 _⟩
          rw [upd_same, el]
          rfl
        · obtain rfl := Option.some.inj hx
          refine ⟨_, _, rfl, rfl, _, k9, few_take, ?_, same_upd (s8.trans s9) hF3 _⟩
          rw [upd_same, el]
          rfl
      · rintro H8 ⟨k1, s8⟩
        have s68 := s7.trans s8
        have y18 := s68 _ _ y1
        have f32 : F2 ≠ F3 := ne_of_none (s7 _ _ y1) hF3
        have k2 : H8 F3 = some (.lst [V.int ((n : Int) + 1 + t.need.1), V.int ((n : Int) + 1 + t.need.2)]) := k1
        refine ⟨ds, y18, small1000 (by omega), ds ++ [.ref F3], upd_same, by rw [List.length_append, y2]; rfl, same_upd (s6.trans s68) hF2 _, fun j y hy => ?_⟩
        by_cases hj : j < ds.length
        · rw [List.getElem?_append_left hj] at hy
          obtain ⟨t2, p2, n2, e1, e2, e3, e4, e5⟩ := y4 j y hy
          exact ⟨t2, p2, n2, e1, e2, e3, (e4.same s68).put e5, e5⟩
        · rw [List.getElem?_append_right (by omega)] at hy
          have hk2 : j - ds.length = 0 := by
            have := (List.getElem?_eq_some_iff.mp hy).1
            rw [List.length_singleton] at this
            omega
          rw [hk2] at hy
          obtain rfl : V.ref F3 = y := Option.some.inj hy
          have hk3 : j = i := by omega
          subst hk3
          exact ⟨t, p, n, ht, hqk, hqa, ⟨F3, rfl, by rw [upd_ne f32.symm]; exact k2⟩, fun z => f32 (V.ref.inj z).symm⟩
    rintro H6 ⟨ds, gd, dl, s6, hdu⟩
    rw [g2] at dl
    have df : ∀ k, k < 2 → ∃ p pd t n, qs[k]? = some (.ref p) ∧ ds[k]? = some (.ref pd) ∧ QAt CQ H6 p t n ∧ H6 pd = some (.lst [V.int ((n : Int) + 1 + t.need.1), V.int ((n : Int) + 1 + t.need.2)]) ∧ t.Good ∧ t.deep ≤ 40 := fun k hk => by
      obtain ⟨v, l, t, hv, hll, ht, ha, hld, hgd, hdp, hsz⟩ := at2 k hk
      have hdk : ds[k]? = some (ds[k]'(by omega)) := List.getElem?_eq_getElem _
      obtain ⟨t2, p, n, e1, e2, e3, ⟨pd, e4, e5⟩, _⟩ := hdu k _ hdk
      rw [ht] at e1
      obtain rfl := Option.some.inj e1
      rw [e4] at hdk
      exact ⟨p, pd, t, n, e2, hdk, e3.same s6, e5, hgd, hdp⟩
    clear hdu hq qf
    have gq6 := s6 _ _ gq
    have s46 := s5.trans s6
    have r6 := s46 _ _ r4
    -- the texts
    refine ⟨(by decide : 15 ≤ sizeLine), fun X hX => ?_⟩
    have t7 := same_new hX (HO.lst [.str "", .str "Yes", .str "NO", .str "yes ", .str " no", .str "y", .str "n", .str "yesno", .str "taken", .str "never", .str "true", .str "none", .str "no no", .str "yes\n", .str "other"])
    obtain ⟨z9, hz9⟩ := dig 9 (by omega)
    refine ⟨_, rfl, .inl ⟨rfl, _, SqL.of upd_same⟩, ⟨_, rfl⟩, ?_⟩
    refine ⟨_, rfl, 10, rfl, _, rfl, R, _, 9, _, rfl, rfl, SqL.of (t7 _ _ r6), at_of (j := 9) rfl hz9, _, _, rfl, rfl, (by show (0 : Int) < 9; decide), _, _, rfl, rfl, _, rfl, R, _, rfl, SqL.of (t7 _ _ r6), fun p hp => ?_⟩
    have t8 := same_new hp (HO.lst (cutV (zs.map V.int) (some 10) (some (11 + z9 % 9))))
    have g8 := upd_same (H := upd H6 X (HO.lst [.str "", .str "Yes", .str "NO", .str "yes ", .str " no", .str "y", .str "n", .str "yesno", .str "taken", .str "never", .str "true", .str "none", .str "no no", .str "yes\n", .str "other"])) (a := p) (o := HO.lst (cutV (zs.map V.int) (some 10) (some (11 + z9 % 9))))
    have gX8 := t8 _ _ (upd_same (H := H6) (a := X) (o := HO.lst (words.map V.str)))
    have s68 := t7.trans t8
    revert g8 gX8 s68
    generalize upd (upd H6 X (HO.lst [.str "", .str "Yes", .str "NO", .str "yes ", .str " no", .str "y", .str "n", .str "yesno", .str "taken", .str "never", .str "true", .str "none", .str "no no", .str "yes\n", .str "other"])) p (HO.lst (cutV (zs.map V.int) (some 10) (some (11 + z9 % 9)))) = H8
    intro g8 gX8 s68
    have cl30 : (cutV (zs.map V.int) (some 10) (some (11 + z9 % 9))).length ≤ 30 := Nat.le_trans (cutV_length _ _ _) (by rw [List.length_map, l4]; exact Nat.le_refl _)
    refine ⟨p, rfl, ⟨_, SqL.of g8⟩, fun F4 hF4 => ?_⟩
    refine lc_list (K := K) (a := p) (xs := cutV (zs.map V.int) (some 10) (some (11 + z9 % 9))) (fun i Hi => ∃ us : List Str, Hi F4 = some (.lst (us.map V.str)) ∧ us.length = i ∧ (∀ u ∈ us, u.length = 1) ∧ Same H8 Hi) ⟨[], upd_same, rfl, fun u hu => (nomatch hu), same_new hF4 _⟩ (fun i Hi _ ⟨_, _, _, _, si⟩ => SqL.of (si _ _ g8)) ?_ ?_
    · rintro i y Hi hy ⟨us, y1, y2, y3, si⟩
      obtain ⟨zz, _, rfl⟩ := List.mem_map.mp (cut_mem (List.mem_of_getElem? hy))
      have il := (List.getElem?_eq_some_iff.mp hy).1
      obtain ⟨c, hc⟩ := sign_at zz
      have h0 : 0 ≤ zz % 37 := Int.emod_nonneg _ (by decide)
      have h1 : zz % 37 < 37 := Int.emod_lt_of_pos _ (by decide)
      have hl38 : ((signs.length : Nat) : Int) = 38 := by
        have : signs.length = 38 := signs_len
        rw [this]
        rfl
      refine ⟨rfl, _, rfl, .inl ⟨_, rfl, _, _, rfl, rfl, (by show (0 : Int) < 37; decide), signs, _, c, rfl, rfl, h0, by omega, by omega, hc, ?_⟩⟩
      refine ⟨_, y1, small1000 (by rw [List.length_map]; omega), us ++ [⟨#[c]⟩], ?_, by rw [List.length_append, y2]; rfl, fun u hu => ?_, same_upd si hF4 _⟩
      · rw [← strs_snoc]
        exact upd_same
      · rcases List.mem_append.mp hu with g | g
        · exact y3 u g
        · rw [List.mem_singleton.mp g]
          rfl
    rintro H9 ⟨us, y1, y2, y3, s89⟩
    refine ⟨_, F4, us, rfl, rfl, .inl (SqL.of y1), ?_, ?_⟩
    · rw [ones_sum y3, y2]
      show _ + _ * 0 ≤ _
      omega
    have gX9 : H9 X = some (.lst (words.map V.str)) := s89 _ _ gX8
    refine ⟨X, _, _, rfl, rfl, gX9, (by decide : 15 < sizeLine), ?_⟩
    have s6A := same_upd (s68.trans s89) hX (.lst (words.map V.str ++ [.str (Txt.join ("" : Str) us)]))
    have gXA : upd H9 X (.lst (words.map V.str ++ [.str (Txt.join ("" : Str) us)])) X = some (.lst ((words ++ [Txt.join ("" : Str) us]).map V.str)) := upd_same
    obtain ⟨z2, hz2⟩ := dig 2 (by omega)
    obtain ⟨z3, hz3⟩ := dig 3 (by omega)
    obtain ⟨z4, hz4⟩ := dig 4 (by omega)
    obtain ⟨wd, _, ew⟩ := texts_at (l := words ++ [Txt.join ("" : Str) us]) z2 (Nat.zero_lt_succ _)
    refine ⟨_, rfl, _, rfl, R, _, 2, _, rfl, rfl, SqL.of (s6A _ _ r6), at_of (j := 2) rfl hz2, .inl ⟨_, rfl, _, _, rfl, rfl, (by show (0 : Int) < 16; decide), X, _, _, _, rfl, rfl, SqL.of gXA, ew, ?_⟩⟩
    dsimp only [gName]
    refine cutIf (fun σ' H' => ∃ z : Str, z ∉ (["yes", "no"] : List Str) ∧ σ' = [some (.ref a), some (.ref T), c2, c3, c4, c5, c6, c7, c8, some (.ref L), some (.ref R), some (.ref F), some (.ref F2), some (.ref X), some (.str z), none, none, none, none] ∧ Same H6 H') (fun R' k => ?_) ?_
    · refine ⟨_, rfl, two_line, fun o ho => ⟨o, (["yes", "no"] : List Str).map V.str, rfl, .inl (SqL.of upd_same), rfl, flat_txts _, ?_⟩⟩
      have sB := s6A.trans (same_new ho (HO.lst ((["yes", "no"] : List Str).map V.str)))
      by_cases hw : wd ∈ (["yes", "no"] : List Str)
      · refine ⟨true, in_txts hw, _, rfl, _, _, rfl, rfl, ?_, ?_⟩
        · have h1 := (longer hw).2
          have h2 : (Str.ofString "s").length = 1 := by decide +kernel
          rw [h2]
          exact Nat.le_of_lt (small1000 (by omega))
        · exact k _ _ ⟨_, (longer hw).1, rfl, sB⟩
      · refine ⟨false, out_txts hw, ?_⟩
        exact k _ _ ⟨_, hw, rfl, sB⟩
    rintro σ' HC ⟨z, hz, rfl, s6C⟩
    -- the asking
    refine ⟨12, rfl, by decide, by decide, for_range (lo := 0) (n := 12) (fun i σ H2 => ∃ (d2 d15 d16 : Option V), σ = [some (.ref a), some (.ref T), d2, c3, c4, c5, c6, c7, c8, some (.ref L), some (.ref R), some (.ref F), some (.ref F2), some (.ref X), some (.str z), d15, d16, none, none] ∧ Same H6 H2)
      ⟨c2, none, none, rfl, s6C⟩ ?_ ?_⟩
    · rintro i σ HD hi ⟨d2, d15, d16, rfl, s6D⟩
      obtain ⟨j, hj, ej⟩ := bits_at (l := [0, 1, 0, 1, 1, 0]) (0 + (i : Int)) (by decide) (by decide)
      obtain ⟨sd, hsd, es⟩ := bits_at (l := [0, 0, 1, 1, 0, 1]) (0 + (i : Int) + z3) (by decide) (by decide)
      obtain ⟨p, pd, t, n, hqj, hdj, hqa, hpd, hgd, hdp⟩ := df j hj
      refine ⟨six_line, fun o1 h1 => ⟨_, rfl, _, _, rfl, rfl, (by show (0 : Int) < 6; decide), o1, _, _, _, rfl, rfl, SqL.of upd_same, ej, ?_⟩⟩
      have sE := s6D.trans (same_new h1 (HO.lst (([0, 1, 0, 1, 1, 0] : List Nat).map fun n : Nat => V.int (n : Int))))
      refine ⟨six_line, fun o2 h2 => ?_⟩
      have tF := same_new h2 (HO.lst (([0, 0, 1, 1, 0, 1] : List Nat).map fun n : Nat => V.int (n : Int)))
      have sF := sE.trans tF
      refine ⟨_, rfl, _, rfl, R, _, 3, _, rfl, rfl, SqL.of (sF _ _ r6), at_of (j := 3) rfl hz3, _, _, rfl, rfl, _, _, rfl, rfl, (by show (0 : Int) < 6; decide), o2, _, _, _, rfl, rfl, SqL.of upd_same, es, ?_⟩
      obtain ⟨zt, dv, e1, e2, e3⟩ : ∃ (zt : Str) (dv : Int), atI [V.str "yes", V.str "no"] (sd : Int) = some (.str zt) ∧ atI [V.int ((n : Int) + 1 + t.need.1), V.int ((n : Int) + 1 + t.need.2)] (sd : Int) = some (.int dv) ∧ ((zt = "yes" ∧ dv = (n : Int) + 1 + t.need.1) ∨ (zt = "no" ∧ dv = (n : Int) + 1 + t.need.2)) := by
        rcases (by omega : sd = 0 ∨ sd = 1) with rfl | rfl
        · exact ⟨"yes", _, rfl, rfl, .inl ⟨rfl, rfl⟩⟩
        · exact ⟨"no", _, rfl, rfl, .inr ⟨rfl, rfl⟩⟩
      refine ⟨_, rfl, _, rfl, F, _, _, _, rfl, rfl, SqL.of (sF _ _ gq6), atI_nat hqj, two_line, fun o3 h3 => ⟨_, rfl, o3, _, _, _, rfl, rfl, SqL.of upd_same, e1, ?_⟩⟩
      have sG := sF.trans (same_new h3 (HO.lst [V.str "yes", V.str "no"]))
      refine ⟨_, rfl, _, rfl, F2, _, _, _, rfl, rfl, SqL.of (sG _ _ gd), atI_nat hdj, _, rfl, pd, _, _, _, rfl, rfl, SqL.of (sG _ _ hpd), e2, ?_⟩
      refine ⟨p, zt, t, n, dv, rfl, hqa.same sG, hgd, hdp, e3, fun HH sH => ⟨true, rfl, ?_⟩⟩
      have sGH := sG.trans sH
      by_cases h5 : i = 5
      · refine ⟨_, rfl, rfl, true, lit_eq (by omega), ?_⟩
        obtain ⟨k1, ek1, hk1⟩ := nat_of_mod (i := z4) (m := 2) (by decide)
        obtain ⟨p1, _, t1, n1, hq1, _, hqa1, _, hg1, hp1⟩ := df k1 hk1
        obtain ⟨p2, _, t2, n2, hq2, _, hqa2, _, hg2, hp2⟩ := df (1 - k1) (by omega)
        have em : z4 % 2 = (k1 : Int) := ek1
        refine ⟨_, rfl, _, rfl, R, _, 4, _, rfl, rfl, SqL.of (sGH _ _ r6), at_of (j := 4) rfl hz4, _, _, rfl, rfl, (by show (0 : Int) < 2; decide), F, _, _, _, rfl, rfl, SqL.of (sGH _ _ gq6), at_of (j := k1) em hq1, _, rfl, ?_⟩
        refine ⟨p1, z, t1, n1, rfl, hqa1.same sGH, hg1, hp1, hz, fun HI sI => ⟨true, rfl, ?_⟩⟩
        have sGI := sGH.trans sI
        refine ⟨_, rfl, _, rfl, R, _, 4, _, rfl, rfl, SqL.of (sGI _ _ r6), at_of (j := 4) rfl hz4, _, _, rfl, rfl, (by show (0 : Int) < 2; decide), _, _, rfl, rfl, F, _, _, _, rfl, rfl, SqL.of (sGI _ _ gq6), at_of (j := 1 - k1) (by omega) hq2, _, rfl, ?_⟩
        refine ⟨p2, z, t2, n2, rfl, hqa2.same sGI, hg2, hp2, hz, fun HJ sJ => ⟨true, rfl, ?_⟩⟩
        exact ⟨_, _, _, rfl, sGI.trans sJ⟩
      · refine ⟨_, rfl, rfl, false, lit_ne (by omega), ?_⟩
        exact ⟨_, _, _, rfl, sGH⟩
    · rintro σ HD ⟨d2, d15, d16, rfl, s6D⟩
      have s4D := s46.trans s6D
      refine ⟨_, rfl, _, rfl, T, rfl, ⟨_, SqL.of (s4D _ _ g4)⟩, fun D2 hD2 => ?_⟩
      refine lc_listed (s4D _ _ g4) (g34.keep (keep_of s4D)) hD2 (by omega) (fun _ => rfl) (fun _ => rfl) fun HE le sE gE hE => ?_
      have s4E := s4D.trans sE
      obtain ⟨t0, t1, rfl⟩ : ∃ t0 t1, ts = [t0, t1] := by
        match ts, tl with
        | [t0, t1], _ => exact ⟨t0, t1, rfl⟩
      obtain ⟨_, _, u0, _, _, e0, _, _, gd0, dp0, _⟩ := at2 0 (by decide)
      obtain rfl := Option.some.inj e0
      obtain ⟨_, _, u1, _, _, e1, _, _, gd1, dp1, _⟩ := at2 1 (by decide)
      obtain rfl := Option.some.inj e1
      refine ⟨.list [t0.dat false, t1.dat false], .list [t0.dat false, t1.dat false], .lst (SqL.of (s4E _ _ gl4)) (hl4.same s4E).dp, .lst (SqL.of gE) hE.dp, shaped2 gd0 gd1 dp0 dp1, shaped2 gd0 gd1 dp0 dp1, ?_⟩
      rw [eqv2 gd0 gd1]
      exact q _
end
end K52

set_option maxRecDepth 100000
set_option maxHeartbeats 4000000
namespace K52
open PySem PySem.Spec PyProof.Rows L2
/-! ### what the top has written -/
def txtB (u : Value) (z : Str) : Bool := match u with
  | .str s _ => decide (s = z)
  | _ => false
def intB (u : Value) (z : Int) : Bool := match u with
  | .int s _ => decide (s = z)
  | _ => false
def txtsB : List Value → List Str → Bool
  | [], [] => true
  | u :: us, z :: zs => txtB u z && txtsB us zs
  | _, _ => false
theorem rel_txt {u : Value} {z : Str} (h : txtB u z = true) : RelV (.str z) u := by
  cases u with
  | str s t =>
    have e : s = z := of_decide_eq_true h
    subst e
    exact ⟨t, rfl⟩
  | _ => cases h
theorem rel_int {u : Value} {z : Int} (h : intB u z = true) : RelV (.int z) u := by
  cases u with
  | int s t =>
    have e : s = z := of_decide_eq_true h
    subst e
    exact ⟨t, rfl⟩
  | _ => cases h
theorem rel_txts : ∀ {us : List Value} {zs : List Str}, txtsB us zs = true → Vals (zs.map V.str) us
  | [], [], _ => .nil
  | u :: us, z :: zs, h => by
    have h2 : (txtB u z && txtsB us zs) = true := h
    rw [Bool.and_eq_true] at h2
    exact .cons (rel_txt h2.1) (rel_txts h2.2)
  | [], z :: zs, h => by cases h
  | u :: us, [], h => by cases h
section
variable {K : PySem.W.Frag} {h : Heap} {mg : Str → Option Value}
theorem def_of {x : Str} {st : Stmt} {f : Addr} {oc : Value} {od an : Option Addr} {osl : Array (Option Value)} {kV doc pm cdv ct : Value} (X : K.In h) (G : h.Ns mainGlobals mg) (a : PySem.W.nsIn K mainGlobals x = some (some (.ref f)))
    (l : K.lookup f = some ⟨oc, od, .func (PySem.W.fnOf x x (defArgs st) (defBody st) (defScope st) .none kV doc pm an cdv ct), osl⟩) (c : PySem.W.codeIn K cdv x = true) (k : PySem.W.keepIn K (.ref f) = true) : Def K mg x st := ⟨f, _, fun_mk l c k, PySem.W.mg_of X G a⟩
theorem tup_of {x : Str} {zs : List Str} {a : Addr} {od : Option Addr} {its : Array Value} {n : Nat} {sl : Array (Option Value)} (X : K.In h) (G : h.Ns mainGlobals mg) (r : PySem.W.nsIn K mainGlobals x = some (some (.ref a))) (l : K.lookup a = some ⟨.type "tuple", od, .seq its n, sl⟩)
    (t : txtsB its.toList zs = true) (hz : zs.length ≤ 1000) : ∃ a, mg x = some (.ref a) ∧ ∀ H, SqT K H a (zs.map V.str) := by
  have v := rel_txts t
  refine ⟨a, PySem.W.mg_of X G r, fun H => .inr ⟨_, its, n, l, rfl, rfl, ?_, v⟩⟩
  have e := v.length
  have e2 : its.toList.length = its.size := Array.length_toList
  rw [List.length_map] at e
  exact Nat.le_of_lt (small1000 (by omega))
theorem txt_of {x z : Str} {u : Value} (X : K.In h) (G : h.Ns mainGlobals mg) (r : PySem.W.nsIn K mainGlobals x = some (some u)) (t : txtB u z = true) : ∃ u, mg x = some u ∧ RelV (.str z) u := ⟨u, PySem.W.mg_of X G r, rel_txt t⟩
theorem int_of {x : Str} {z : Int} {u : Value} (X : K.In h) (G : h.Ns mainGlobals mg) (r : PySem.W.nsIn K mainGlobals x = some (some u)) (t : intB u z = true) : ∃ u, mg x = some u ∧ RelV (.int z) u := ⟨u, PySem.W.mg_of X G r, rel_int t⟩
theorem no_of {x : Str} (X : K.In h) (G : h.Ns mainGlobals mg) (r : PySem.W.nsIn K mainGlobals x = some none) : mg x = none := PySem.W.mg_none_of X G r
/-- the class of the questions -/
def HasQ (K : PySem.W.Frag) (mg : Str → Option Value) : Prop := ∃ (C fI fG pG : Addr) (fdI fdG : FuncData), TxtQ K mg C fI fG pG fdI fdG
theorem q_of {C f1 f2 p : Addr} {rest : List Value} {od1 an1 od2 an2 : Option Addr} {sl1 sl2 : Array (Option Value)} {oc1 kV1 dc1 pm1 cd1 ct1 oc2 kV2 dc2 pm2 cd2 ct2 : Value} (X : K.In h) (G : h.Ns mainGlobals mg) (aC : PySem.W.nsIn K mainGlobals "Question" = some (some (.ref C)))
    (a1 : PySem.W.findIn K (.ref C) "__init__" = some (some (.ref f1))) (i1 : PySem.W.isFn K (.ref f1) = true) (l1 : K.lookup f1 = some ⟨oc1, od1, .func (PySem.W.fnOf "__init__" "Question.__init__" (defArgs sQInit) (defBody sQInit) (defScope sQInit) .none kV1 dc1 pm1 an1 cd1 ct1), sl1⟩) (c1 : PySem.W.codeIn K cd1 "Question.__init__" = true) (k1 : PySem.W.keepIn K (.ref f1) = true)
    (a2 : PySem.W.findIn K (.ref C) "free" = some (some (.ref p))) (g2 : PySem.W.specialIn K (.ref p) "__get__" = some (some (.builtin "property.__get__"))) (t2 : PySem.W.takesIn K (.ref p) = some true) (r2 : PySem.W.recIn K p "property" = some (.ref f2 :: rest))
    (l2 : K.lookup f2 = some ⟨oc2, od2, .func (PySem.W.fnOf "free" "Question.free" (defArgs sQFree) (defBody sQFree) (defScope sQFree) .none kV2 dc2 pm2 an2 cd2 ct2), sl2⟩) (c2 : PySem.W.codeIn K cd2 "Question.free" = true) (k2 : PySem.W.keepIn K (.ref f2) = true)
    (pg : PySem.W.plainGet K C Str.empty = true) (hd : PySem.W.hasDictIn K C = true) (po : PySem.W.plainOver K C = true) (sa : PySem.W.findIn K (.ref C) "__setattr__" = some (some (.builtin "object.__setattr__"))) (mk : PySem.W.makesIn K C = true) (kc : PySem.W.keepIn K (.ref C) = true)
    (n1 : PySem.W.findIn K (.ref C) "tree" = some none) (n2 : PySem.W.findIn K (.ref C) "_free" = some none) (n3 : PySem.W.findIn K (.ref C) "_uses" = some none) (n4 : PySem.W.findIn K (.ref C) "_bare" = some none) (n5 : PySem.W.findIn K (.ref C) "_ordered" = some none) : HasQ K mg :=
  ⟨C, f1, f2, p, _, _, { cl := ⟨pg, hd, po, sa⟩, n1 := n1, n2 := n2, n3 := n3, n4 := n4, n5 := n5, mgC := PySem.W.mg_of X G aC, mkC := ⟨mk, a1, i1, kc⟩, FI := fun_mk l1 c1 k1, FG := fun_mk l2 c2 k2, pr := ⟨a2, g2, t2, ⟨rest, r2⟩⟩ }⟩
/-! ### the errors -/
theorem kit_no {t c : Addr} (h1 : PySem.W.isClsIn K c = true) (h2 : PySem.W.typeIn K (.ref c) = some (.type "type")) (h3 : PySem.W.subIn K (.ref t) (.ref c) = some false) (h4 : PySem.W.subIn K (.ref t) (.ref t) = some true) : PySem.W.kitOne K (.ref t) (.ref c) = some false := by
  have ne : (Value.ref t == Value.ref c) = false := by
    by_cases e : t = c
    · subst e
      rw [h3] at h4
      cases h4
    · exact Bool.eq_false_iff.mpr fun z => e (Value.ref.inj (beq_iff_eq.mp z))
  have h1' : (PySem.W.clsIn K c).isSome = true := h1
  have e2 : ((PySem.W.clsIn K c).isSome && PySem.W.typeIn K (.ref c) == some (.type "type")) = true := by rw [h1', h2] <;> rfl
  unfold PySem.W.kitOne
  rw [if_neg (by rw [ne]; decide)]
  show (if ((PySem.W.clsIn K c).isSome && PySem.W.typeIn K (.ref c) == some (.type "type")) = true then PySem.W.subIn K (.ref t) (.ref c) else none) = some false
  rw [if_pos e2]
  exact h3
theorem kit_self {t : Addr} : PySem.W.kitOne K (.ref t) (.ref t) = some true := by
  unfold PySem.W.kitOne
  rw [if_pos (by simp)]
theorem kit_ve {t : Addr} (h : PySem.W.subIn K (.ref t) (.type "ValueError") = some true) : PySem.W.kitOne K (.ref t) (.type "ValueError") = some true := by
  unfold PySem.W.kitOne
  rw [if_neg (fun z => by cases beq_iff_eq.mp z)]
  show (if PySem.W.kitMeta "ValueError" = true then PySem.W.subIn K (.ref t) (.type "ValueError") else none) = some true
  rw [if_pos (by decide +kernel)]
  exact h
/-- a class that BadSide is not of -/
def Oth (K : PySem.W.Frag) (mg : Str → Option Value) (CB : Addr) (x : Str) : Prop := ∃ c, mg x = some (.ref c) ∧ PySem.W.kitOne K (.ref CB) (.ref c) = some false
theorem oth_of {x : Str} {t c : Addr} (X : K.In h) (G : h.Ns mainGlobals mg) (h0 : PySem.W.nsIn K mainGlobals x = some (some (.ref c))) (h1 : PySem.W.isClsIn K c = true) (h2 : PySem.W.typeIn K (.ref c) = some (.type "type")) (h3 : PySem.W.subIn K (.ref t) (.ref c) = some false) (h4 : PySem.W.subIn K (.ref t) (.ref t) = some true) : Oth K mg t x :=
  ⟨c, PySem.W.mg_of X G h0, kit_no h1 h2 h3 h4⟩
theorem any_no {t : Value} : ∀ {cs : List Value}, (∀ c ∈ cs, PySem.W.kitOne K t c = some false) → PySem.W.kitAny K t cs = some false
  | [], _ => rfl
  | c :: cs, h => kitAny_cons (b := false) (h c (List.mem_cons_self ..)) (fun _ => any_no fun d hd => h d (List.mem_cons_of_mem _ hd)) fun z => nomatch z
def HasB (K : PySem.W.Frag) (mg : Str → Option Value) : Prop := ∃ (CB fB : Addr) (fdB : FuncData) (CO c1 c2 c3 c4 c5 c6 c7 c8 d1 d2 d3 d4 d5 d6 : Addr), TxtB K mg CB fB fdB ∧ TxtR K mg CB CO c1 c2 c3 c4 c5 c6 c7 c8 d1 d2 d3 d4 d5 d6
theorem b_of {C CO f1 : Addr} {nm q : Str} {N : Addr} {bs bm : List Value} {sn : List Str} {sub : List Value} {ab : Bool} {col : Option Bool} {dd : Option Addr} {m0 m1 m2 m3 m5 : Option Value} {od1 an1 : Option Addr} {sl1 : Array (Option Value)} {oc1 kV1 dc1 pm1 cd1 ct1 : Value}
    (X : K.In h) (G : h.Ns mainGlobals mg) (aC : PySem.W.nsIn K mainGlobals "BadSide" = some (some (.ref C))) (aO : PySem.W.nsIn K mainGlobals "OnceError" = some (some (.ref CO)))
    (xL : K.lookup C = some (excClassObj nm q C N bs bm true sn sub ab col dd m0 m1 m2 m3 m5 "ValueError.__new__")) (rv : PySem.HandSPX.refsVE bm = true)
    (sa : PySem.W.findIn K (.ref C) "__setattr__" = some (some (.builtin "object.__setattr__"))) (ga : PySem.W.findIn K (.ref C) "__getattribute__" = some (some (.builtin "BaseException.__getattribute__"))) (gg : PySem.W.findIn K (.ref C) "__getattr__" = some none) (nb : PySem.W.findIn K (.ref C) "side" = some none)
    (a1 : PySem.W.findIn K (.ref C) "__init__" = some (some (.ref f1))) (t1 : PySem.W.typeIn K (.ref f1) = some (.type "function"))
    (l1 : K.lookup f1 = some ⟨oc1, od1, .func (PySem.W.fnOf "__init__" "BadSide.__init__" (defArgs sBInit) (defBody sBInit) (defScope sBInit) .none kV1 dc1 pm1 an1 cd1 ct1), sl1⟩) (c1 : PySem.W.codeIn K cd1 "BadSide.__init__" = true) (k1 : PySem.W.keepIn K (.ref f1) = true)
    (kC : PySem.W.keepIn K (.ref C) = true) (eC : PySem.W.subIn K (.ref C) (.type "BaseException") = some true) (tC : PySem.W.typeIn K (.ref C) = some (.type "type")) (hC : PySem.W.hasDictIn K C = true) (sC : PySem.W.subIn K (.ref C) (.ref C) = some true) (vC : PySem.W.subIn K (.ref C) (.type "ValueError") = some true)
    (ha : PySem.W.findIn K (.ref C) "__class__" = some (some (.builtin "object.__class__"))) (hn : PySem.W.specialIn K (.builtin "object.__class__") "__get__" = some (some (.builtin "getset_descriptor.__get__"))) (ht : PySem.W.takesIn K (.builtin "object.__class__") = some true) (hm : PySem.W.mroIn K C (.type "object") = some true)
    (eO : PySem.W.subIn K (.ref CO) (.type "BaseException") = some true) (hO : PySem.W.hasDictIn K CO = true) (tO : PySem.W.typeIn K (.ref CO) = some (.type "type")) (sO : PySem.W.subIn K (.ref C) (.ref CO) = some true) (zV : PySem.W.nsIn K mainGlobals "ValueError" = some none)
    (o1 : Oth K mg C "BadGiven") (o2 : Oth K mg C "BadJudge") (o3 : Oth K mg C "BadLetter") (o4 : Oth K mg C "BadQuestion") (o5 : Oth K mg C "BadText") (o6 : Oth K mg C "BadValues") (o7 : Oth K mg C "BadWorld") (o8 : Oth K mg C "NoSuchRelation")
    (p1 : Oth K mg C "NoSuchWord") (p2 : Oth K mg C "NotAWalk") (p3 : Oth K mg C "NotRight") (p4 : Oth K mg C "TooLarge") (p5 : Oth K mg C "TooMany") (p6 : Oth K mg C "Unvalued") : HasB K mg := by
  obtain ⟨x1, g1, e1⟩ := o1
  obtain ⟨x2, g2, e2⟩ := o2
  obtain ⟨x3, g3, e3⟩ := o3
  obtain ⟨x4, g4, e4⟩ := o4
  obtain ⟨x5, g5, e5⟩ := o5
  obtain ⟨x6, g6, e6⟩ := o6
  obtain ⟨x7, g7, e7⟩ := o7
  obtain ⟨x8, g8, e8⟩ := o8
  obtain ⟨y1, h1, f1'⟩ := p1
  obtain ⟨y2, h2, f2'⟩ := p2
  obtain ⟨y3, h3, f3'⟩ := p3
  obtain ⟨y4, h4, f4'⟩ := p4
  obtain ⟨y5, h5, f5'⟩ := p5
  obtain ⟨y6, h6, f6'⟩ := p6
  refine ⟨C, f1, _, CO, x1, x2, x3, x4, x5, x6, x7, x8, y1, y2, y3, y4, y5, y6, ⟨⟨⟨nm, q, N, bs, bm, sn, sub, ab, col, dd, m0, m1, m2, m3, m5, xL, rv⟩, sa, eC, tC, kC⟩, a1, t1, fun_mk l1 c1 k1, nb, PySem.W.mg_of X G aC⟩, ?_⟩
  refine { T := ⟨ga, gg, eC, hC, ha, hn, ht, hm⟩, X := ⟨ga, gg, eC, hC⟩, no := nb, gB := PySem.W.mg_of X G aC, gO := PySem.W.mg_of X G aO, gV := PySem.W.mg_none_of X G zV, g1 := g1, g2 := g2, g3 := g3, g4 := g4, g5 := g5, g6 := g6, g7 := g7, g8 := g8, h1 := h1, h2 := h2, h3 := h3, h4 := h4, h5 := h5, h6 := h6, k1 := ?_, k2 := ?_, kV := kit_ve vC, kB := kit_self, eB := PySem.W.exm_ref eC hC tC sC, eO := PySem.W.exm_ref eO hO tO sO }
  · refine any_no fun c hc => ?_
    simp only [List.mem_cons, List.not_mem_nil, or_false] at hc
    rcases hc with rfl | rfl | rfl | rfl | rfl | rfl | rfl | rfl <;> assumption
  · refine any_no fun c hc => ?_
    simp only [List.mem_cons, List.not_mem_nil, or_false] at hc
    rcases hc with rfl | rfl | rfl | rfl | rfl | rfl <;> assumption
/-! ### all together -/
structure Helps (K : PySem.W.Frag) (mg : Str → Option Value) : Prop where
  d47 : Def K mg "bill" sBill
  d51 : Def K mg "_law_cell" sCell
  d52 : Def K mg "_law_row" sRow
  d53 : Def K mg "_law_take" sTake
  d54 : Def K mg "_law_atom" sAtom
  d55 : Def K mg "_law_bound" sBound
  d56 : Def K mg "_law_free" sFreeL
  d57 : Def K mg "_law_listed" sListed
  d58 : Def K mg "_law_chain" sChain
  d59 : Def K mg "_law_needs" sNeedsL
  d60 : Def K mg "_law_is_bill" sIsBill
  d61 : Def K mg "_law_refused" sRefused
  d62 : Def K mg "law" sLaw
theorem all_law {P : Program} {w : World} {fa : Addr} (hfa : mg "law" = some (.ref fa)) (E1 : Env1 K mg) (D : Defs K mg) (D2 : Helps K mg) (hq : HasQ K mg) (hb : HasB K mg) :
    ∃ fd : FuncData, (∀ (s : Shared) (v : Value), BindsTo s fd ⟨[v], []⟩ [("_law_script", v)]) ∧ ∀ base : Heap, FnOk P w K mg base CX0 89 fa fd ["_law_script"] (spLaw K) := by
  obtain ⟨f, fd, F, hm⟩ := D2.d62.ex
  have e := hfa.symm.trans hm
  cases e
  obtain ⟨CQ, fI, fG, pG, fdI, fdG, T⟩ := hq
  obtain ⟨CB, fB, fdB, CO, c1, c2, c3, c4, c5, c6, c7, c8, d1, d2, d3, d4, d5, d6, B, R⟩ := hb
  refine ⟨fd, fun s v => ?_, fun base => ?_⟩
  · obtain ⟨oc, od, kV, doc, pm, an, cdv, ct, osl, rfl, _⟩ := F.ex
    exact .of_eq rfl
  have ct : Cal P w K mg base CX0 1 "_law_take" spTake := cal_take E1 D2.d53
  have ca : Cal P w K mg base CX0 2 "_law_atom" spAtom := cal_atom E1 D2.d54 ct
  have cb : Cal P w K mg base CX0 1 "_law_bound" spBound := cal_bound E1 D2.d55
  have bl : Cal P w K mg base (L2.CX P w) 44 "bill" (spBill CQ CB) := cal_bill E1 D2.d47 T B (the_needs E1 D)
  exact ok_law E1 F T (ok_qinit T (the_checked E1 D) (the_free E1 D) (the_uses E1 D) (the_bare E1 D) (the_ordered E1 D)) (cal_cell E1 D2.d51) (cal_row E1 D2.d52) ct (cal_chain E1 D2.d58 ct ca) (cal_listed E1 D2.d57 41) (cal_free_all E1 D2.d56 cb 40) (cal_needsL_all E1 D2.d59 cb 40)
    (cal_is_bill E1 D2.d60 bl) (cal_refused E1 D2.d61 R bl)
end
theorem walk {l : PySem.W.OpenLaw} {q : Program} {loose : List Str} {XP : (Str → Option Value) → Heap → Prop} {YP : World → Heap → Prop} {d : DefRec} {K : Params → PySem.W.Frag} (hn : l.most = some 63) (hdf : d.params.defaults = [])
    (hY : ∀ (w : World) (h : Heap), YP w h → (K w.params).In h)
    (F : ∀ (w : World) (mg : Str → Option Value) (fa : Addr) (h : Heap), (K w.params).In h → h.Ns mainGlobals mg → mg d.name = some (.ref fa) →
      ∃ fd : FuncData, (∀ (s : Shared) (u : Value), BindsTo s fd ⟨[u], []⟩ [("_law_script", u)]) ∧ ∀ base : Heap, FnOk l.prog w (K w.params) mg base CX0 89 fa fd ["_law_script"] (spLaw (K w.params))) :
    PySem.W.WalkO q loose XP YP l.row.toRowW d [] (fun f vs => PySem.call f vs) :=
  L2.walk_of (n := 63) (k := 89) (x := "_law_script") (CX := fun _ => CX0) (sp := fun w => spLaw (K w.params)) hn (by decide) hdf ⟨rfl, by decide, by decide⟩ hY (fun w mg fa h KX G hm => by
    obtain ⟨fd, h1, h2⟩ := F w mg fa h KX G hm
    exact ⟨fd, h1, fun base _ _ => h2 base⟩) (fun _ _ a ns hl _ hS => ⟨a, ns, rfl, hS, fun _ => rfl⟩) fun _ _ _ _ _ z => z
end K52

open PySem PySem.W PyProof.Rows
set_option maxRecDepth 100000 in
set_option maxHeartbeats 0 in
theorem PySem.Challenge.cw_onceread_k52_bill_whole_holds : PySem.Challenge.rw_onceread_k52_bill_whole.Holds := by
  w_on; o_law; k_head; (case hw => w_witness2)
  k_fill
  refine K52.walk (l := PySem.Challenge.rw_onceread_k52_bill_whole) rfl rfl (fun w h Y => PySem.W.kIn_of Y) ?F
  case F =>
    intro w mg fa h KX G hmg
    refine K52.all_law hmg ?E1 ?DD ?HH ?HQ ?HB
    case E1 =>
      refine ⟨?z_len, ?z_isi, ?z_str, ?z_tuple, ?z_list, ?z_int, ?z_bool, ?z_set, ?z_sorted, ?z_max, ?z_range, ?z_all, ?z_any, ?z_reserved, ?z_atoms, ?z_first, ?z_later, ?z_signs, ?z_depth, ?z_trees, ?z_width, ?z_arity⟩
      (case z_len => refine' K52.no_of KX G ?a_1; k_is)
      (case z_isi => refine' K52.no_of KX G ?a_2; k_is)
      (case z_str => refine' K52.no_of KX G ?a_3; k_is)
      (case z_tuple => refine' K52.no_of KX G ?a_4; k_is)
      (case z_list => refine' K52.no_of KX G ?a_5; k_is)
      (case z_int => refine' K52.no_of KX G ?a_6; k_is)
      (case z_bool => refine' K52.no_of KX G ?a_7; k_is)
      (case z_set => refine' K52.no_of KX G ?a_8; k_is)
      (case z_sorted => refine' K52.no_of KX G ?a_9; k_is)
      (case z_max => refine' K52.no_of KX G ?a_10; k_is)
      (case z_range => refine' K52.no_of KX G ?a_11; k_is)
      (case z_all => refine' K52.no_of KX G ?a_12; k_is)
      (case z_any => refine' K52.no_of KX G ?a_13; k_is)
      (case z_reserved => refine' K52.tup_of KX G ?a_14 ?l_14 ?t_14 (by decide); (case a_14 => k_is); (case l_14 => k_is); (case t_14 => decide +kernel))
      (case z_atoms => refine' K52.tup_of KX G ?a_15 ?l_15 ?t_15 (by decide); (case a_15 => k_is); (case l_15 => k_is); (case t_15 => decide +kernel))
      (case z_first => refine' K52.txt_of KX G ?a_16 ?t_16; (case a_16 => k_is); (case t_16 => decide +kernel))
      (case z_later => refine' K52.txt_of KX G ?a_17 ?t_17; (case a_17 => k_is); (case t_17 => decide +kernel))
      (case z_signs => refine' K52.int_of KX G ?a_18 ?t_18; (case a_18 => k_is); (case t_18 => decide +kernel))
      (case z_depth => refine' K52.int_of KX G ?a_19 ?t_19; (case a_19 => k_is); (case t_19 => decide +kernel))
      (case z_trees => refine' K52.int_of KX G ?a_20 ?t_20; (case a_20 => k_is); (case t_20 => decide +kernel))
      (case z_width => refine' K52.int_of KX G ?a_21 ?t_21; (case a_21 => k_is); (case t_21 => decide +kernel))
      (case z_arity => refine' K52.int_of KX G ?a_22 ?t_22; (case a_22 => k_is); (case t_22 => decide +kernel))
    case DD =>
      refine ⟨?d28, ?d29, ?d30, ?d31, ?d32, ?d33, ?d34, ?d35, ?d36, ?d37, ?d38, ?d39, ?d40, ?d41, ?d42, ?d43, ?d44, ?d46⟩
      (case d28 => refine' K52.def_of KX G ?a_23 ?l_23 ?c_23 ?k_23; (case a_23 => k_is); (case l_23 => k_is); (case c_23 => k_is); (case k_23 => k_is))
      (case d29 => refine' K52.def_of KX G ?a_24 ?l_24 ?c_24 ?k_24; (case a_24 => k_is); (case l_24 => k_is); (case c_24 => k_is); (case k_24 => k_is))
      (case d30 => refine' K52.def_of KX G ?a_25 ?l_25 ?c_25 ?k_25; (case a_25 => k_is); (case l_25 => k_is); (case c_25 => k_is); (case k_25 => k_is))
      (case d31 => refine' K52.def_of KX G ?a_26 ?l_26 ?c_26 ?k_26; (case a_26 => k_is); (case l_26 => k_is); (case c_26 => k_is); (case k_26 => k_is))
      (case d32 => refine' K52.def_of KX G ?a_27 ?l_27 ?c_27 ?k_27; (case a_27 => k_is); (case l_27 => k_is); (case c_27 => k_is); (case k_27 => k_is))
      (case d33 => refine' K52.def_of KX G ?a_28 ?l_28 ?c_28 ?k_28; (case a_28 => k_is); (case l_28 => k_is); (case c_28 => k_is); (case k_28 => k_is))
      (case d34 => refine' K52.def_of KX G ?a_29 ?l_29 ?c_29 ?k_29; (case a_29 => k_is); (case l_29 => k_is); (case c_29 => k_is); (case k_29 => k_is))
      (case d35 => refine' K52.def_of KX G ?a_30 ?l_30 ?c_30 ?k_30; (case a_30 => k_is); (case l_30 => k_is); (case c_30 => k_is); (case k_30 => k_is))
      (case d36 => refine' K52.def_of KX G ?a_31 ?l_31 ?c_31 ?k_31; (case a_31 => k_is); (case l_31 => k_is); (case c_31 => k_is); (case k_31 => k_is))
      (case d37 => refine' K52.def_of KX G ?a_32 ?l_32 ?c_32 ?k_32; (case a_32 => k_is); (case l_32 => k_is); (case c_32 => k_is); (case k_32 => k_is))
      (case d38 => refine' K52.def_of KX G ?a_33 ?l_33 ?c_33 ?k_33; (case a_33 => k_is); (case l_33 => k_is); (case c_33 => k_is); (case k_33 => k_is))
      (case d39 => refine' K52.def_of KX G ?a_34 ?l_34 ?c_34 ?k_34; (case a_34 => k_is); (case l_34 => k_is); (case c_34 => k_is); (case k_34 => k_is))
      (case d40 => refine' K52.def_of KX G ?a_35 ?l_35 ?c_35 ?k_35; (case a_35 => k_is); (case l_35 => k_is); (case c_35 => k_is); (case k_35 => k_is))
      (case d41 => refine' K52.def_of KX G ?a_36 ?l_36 ?c_36 ?k_36; (case a_36 => k_is); (case l_36 => k_is); (case c_36 => k_is); (case k_36 => k_is))
      (case d42 => refine' K52.def_of KX G ?a_37 ?l_37 ?c_37 ?k_37; (case a_37 => k_is); (case l_37 => k_is); (case c_37 => k_is); (case k_37 => k_is))
      (case d43 => refine' K52.def_of KX G ?a_38 ?l_38 ?c_38 ?k_38; (case a_38 => k_is); (case l_38 => k_is); (case c_38 => k_is); (case k_38 => k_is))
      (case d44 => refine' K52.def_of KX G ?a_39 ?l_39 ?c_39 ?k_39; (case a_39 => k_is); (case l_39 => k_is); (case c_39 => k_is); (case k_39 => k_is))
      (case d46 => refine' K52.def_of KX G ?a_40 ?l_40 ?c_40 ?k_40; (case a_40 => k_is); (case l_40 => k_is); (case c_40 => k_is); (case k_40 => k_is))
    case HH =>
      refine ⟨?d47, ?d51, ?d52, ?d53, ?d54, ?d55, ?d56, ?d57, ?d58, ?d59, ?d60, ?d61, ?d62⟩
      (case d47 => refine' K52.def_of KX G ?a_41 ?l_41 ?c_41 ?k_41; (case a_41 => k_is); (case l_41 => k_is); (case c_41 => k_is); (case k_41 => k_is))
      (case d51 => refine' K52.def_of KX G ?a_42 ?l_42 ?c_42 ?k_42; (case a_42 => k_is); (case l_42 => k_is); (case c_42 => k_is); (case k_42 => k_is))
      (case d52 => refine' K52.def_of KX G ?a_43 ?l_43 ?c_43 ?k_43; (case a_43 => k_is); (case l_43 => k_is); (case c_43 => k_is); (case k_43 => k_is))
      (case d53 => refine' K52.def_of KX G ?a_44 ?l_44 ?c_44 ?k_44; (case a_44 => k_is); (case l_44 => k_is); (case c_44 => k_is); (case k_44 => k_is))
      (case d54 => refine' K52.def_of KX G ?a_45 ?l_45 ?c_45 ?k_45; (case a_45 => k_is); (case l_45 => k_is); (case c_45 => k_is); (case k_45 => k_is))
      (case d55 => refine' K52.def_of KX G ?a_46 ?l_46 ?c_46 ?k_46; (case a_46 => k_is); (case l_46 => k_is); (case c_46 => k_is); (case k_46 => k_is))
      (case d56 => refine' K52.def_of KX G ?a_47 ?l_47 ?c_47 ?k_47; (case a_47 => k_is); (case l_47 => k_is); (case c_47 => k_is); (case k_47 => k_is))
      (case d57 => refine' K52.def_of KX G ?a_48 ?l_48 ?c_48 ?k_48; (case a_48 => k_is); (case l_48 => k_is); (case c_48 => k_is); (case k_48 => k_is))
      (case d58 => refine' K52.def_of KX G ?a_49 ?l_49 ?c_49 ?k_49; (case a_49 => k_is); (case l_49 => k_is); (case c_49 => k_is); (case k_49 => k_is))
      (case d59 => refine' K52.def_of KX G ?a_50 ?l_50 ?c_50 ?k_50; (case a_50 => k_is); (case l_50 => k_is); (case c_50 => k_is); (case k_50 => k_is))
      (case d60 => refine' K52.def_of KX G ?a_51 ?l_51 ?c_51 ?k_51; (case a_51 => k_is); (case l_51 => k_is); (case c_51 => k_is); (case k_51 => k_is))
      (case d61 => refine' K52.def_of KX G ?a_52 ?l_52 ?c_52 ?k_52; (case a_52 => k_is); (case l_52 => k_is); (case c_52 => k_is); (case k_52 => k_is))
      (case d62 => refine' K52.def_of KX G ?a_53 ?l_53 ?c_53 ?k_53; (case a_53 => k_is); (case l_53 => k_is); (case c_53 => k_is); (case k_53 => k_is))
    case HQ =>
      refine' K52.q_of KX G ?aC ?a1 ?i1 ?l1 ?c1 ?k1 ?a2 ?g2 ?t2 ?r2 ?l2 ?c2 ?k2 ?pg ?hd ?po ?sa ?mk ?kc ?n1 ?n2 ?n3 ?n4 ?n5
      (case aC => k_is)
      (case a1 => k_is)
      (case i1 => k_is)
      (case l1 => k_is)
      (case c1 => k_is)
      (case k1 => k_is)
      (case a2 => k_is)
      (case g2 => k_is)
      (case t2 => k_is)
      (case r2 => k_is)
      (case l2 => k_is)
      (case c2 => k_is)
      (case k2 => k_is)
      (case pg => k_is)
      (case hd => k_is)
      (case po => k_is)
      (case sa => k_is)
      (case mk => k_is)
      (case kc => k_is)
      (case n1 => k_is)
      (case n2 => k_is)
      (case n3 => k_is)
      (case n4 => k_is)
      (case n5 => k_is)
    case HB =>
      refine' K52.b_of KX G ?aC ?aO ?xL ?rv ?sa ?ga ?gg ?nb ?a1 ?t1 ?l1 ?c1 ?k1 ?kC ?eC ?tC ?hC ?sC ?vC ?ha ?hn ?ht ?hm ?eO ?hO ?tO ?sO ?zV ?o1 ?o2 ?o3 ?o4 ?o5 ?o6 ?o7 ?o8 ?p1 ?p2 ?p3 ?p4 ?p5 ?p6
      (case aC => k_is)
      (case aO => k_is)
      (case xL => k_is)
      (case rv => decide +kernel)
      (case sa => k_is)
      (case ga => k_is)
      (case gg => k_is)
      (case nb => k_is)
      (case a1 => k_is)
      (case t1 => k_is)
      (case l1 => k_is)
      (case c1 => k_is)
      (case k1 => k_is)
      (case kC => k_is)
      (case eC => k_is)
      (case tC => k_is)
      (case hC => k_is)
      (case sC => k_is)
      (case vC => k_is)
      (case ha => k_is)
      (case hn => k_is)
      (case ht => k_is)
      (case hm => k_is)
      (case eO => k_is)
      (case hO => k_is)
      (case tO => k_is)
      (case sO => k_is)
      (case zV => k_is)
      (case o1 => refine' K52.oth_of KX G ?h0_54 ?h1_54 ?h2_54 ?h3_54 ?h4_54; (case h0_54 => k_is); (case h1_54 => k_is); (case h2_54 => k_is); (case h3_54 => k_is); (case h4_54 => k_is))
      (case o2 => refine' K52.oth_of KX G ?h0_55 ?h1_55 ?h2_55 ?h3_55 ?h4_55; (case h0_55 => k_is); (case h1_55 => k_is); (case h2_55 => k_is); (case h3_55 => k_is); (case h4_55 => k_is))
      (case o3 => refine' K52.oth_of KX G ?h0_56 ?h1_56 ?h2_56 ?h3_56 ?h4_56; (case h0_56 => k_is); (case h1_56 => k_is); (case h2_56 => k_is); (case h3_56 => k_is); (case h4_56 => k_is))
      (case o4 => refine' K52.oth_of KX G ?h0_57 ?h1_57 ?h2_57 ?h3_57 ?h4_57; (case h0_57 => k_is); (case h1_57 => k_is); (case h2_57 => k_is); (case h3_57 => k_is); (case h4_57 => k_is))
      (case o5 => refine' K52.oth_of KX G ?h0_58 ?h1_58 ?h2_58 ?h3_58 ?h4_58; (case h0_58 => k_is); (case h1_58 => k_is); (case h2_58 => k_is); (case h3_58 => k_is); (case h4_58 => k_is))
      (case o6 => refine' K52.oth_of KX G ?h0_59 ?h1_59 ?h2_59 ?h3_59 ?h4_59; (case h0_59 => k_is); (case h1_59 => k_is); (case h2_59 => k_is); (case h3_59 => k_is); (case h4_59 => k_is))
      (case o7 => refine' K52.oth_of KX G ?h0_60 ?h1_60 ?h2_60 ?h3_60 ?h4_60; (case h0_60 => k_is); (case h1_60 => k_is); (case h2_60 => k_is); (case h3_60 => k_is); (case h4_60 => k_is))
      (case o8 => refine' K52.oth_of KX G ?h0_61 ?h1_61 ?h2_61 ?h3_61 ?h4_61; (case h0_61 => k_is); (case h1_61 => k_is); (case h2_61 => k_is); (case h3_61 => k_is); (case h4_61 => k_is))
      (case p1 => refine' K52.oth_of KX G ?h0_62 ?h1_62 ?h2_62 ?h3_62 ?h4_62; (case h0_62 => k_is); (case h1_62 => k_is); (case h2_62 => k_is); (case h3_62 => k_is); (case h4_62 => k_is))
      (case p2 => refine' K52.oth_of KX G ?h0_63 ?h1_63 ?h2_63 ?h3_63 ?h4_63; (case h0_63 => k_is); (case h1_63 => k_is); (case h2_63 => k_is); (case h3_63 => k_is); (case h4_63 => k_is))
      (case p3 => refine' K52.oth_of KX G ?h0_64 ?h1_64 ?h2_64 ?h3_64 ?h4_64; (case h0_64 => k_is); (case h1_64 => k_is); (case h2_64 => k_is); (case h3_64 => k_is); (case h4_64 => k_is))
      (case p4 => refine' K52.oth_of KX G ?h0_65 ?h1_65 ?h2_65 ?h3_65 ?h4_65; (case h0_65 => k_is); (case h1_65 => k_is); (case h2_65 => k_is); (case h3_65 => k_is); (case h4_65 => k_is))
      (case p5 => refine' K52.oth_of KX G ?h0_66 ?h1_66 ?h2_66 ?h3_66 ?h4_66; (case h0_66 => k_is); (case h1_66 => k_is); (case h2_66 => k_is); (case h3_66 => k_is); (case h4_66 => k_is))
      (case p6 => refine' K52.oth_of KX G ?h0_67 ?h1_67 ?h2_67 ?h3_67 ?h4_67; (case h0_67 => k_is); (case h1_67 => k_is); (case h2_67 => k_is); (case h3_67 => k_is); (case h4_67 => k_is))
