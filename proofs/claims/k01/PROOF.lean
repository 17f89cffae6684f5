import PyProof.Rows.All
import Wide.All
import OpenK.AllK
import Wide.FinOn
import HandS.ForMost
import HandS.ForExc
import HandS.Lambda
import HandS.TupAny
import HandS.Zip
import HandS.IsInst
import HandS.Deep
import HandS.Conv
import HandS.Style
import HandS.SetFor
import HandS.TupSets
import KE.SortData
import KE.DataCmp
import KE.DataMinMax
import HandS.Ends
import HandS.Set
import PySem.Challenge.RW_tiewebs_k01_webs_known
set_option Elab.async false
set_option linter.all false
set_option maxRecDepth 100000
namespace TW
open PySem PySem.Spec PyProof.Rows L2

abbrev D := PyData

/-! ### the plain side: slots, results, the monad -/
inductive C where
  | un | dat (d : D) | own (t : Bool) (ds : List D)
inductive R (α : Type) where
  | ok (a : α) | err (c : Nat) (xs : List D) | bad
abbrev M (α : Type) := List C → R (α × List C)
@[inline] def M.pure {α : Type} (a : α) : M α := fun cs => .ok (a, cs)
def R.bind {α β : Type} (r : R α) (k : α → R β) : R β := match r with
  | .ok a => k a
  | .err c xs => .err c xs
  | .bad => .bad
def M.bind {α β : Type} (m : M α) (k : α → M β) : M β := fun cs => match m cs with
  | .ok (a, cs') => k a cs'
  | .err c xs => .err c xs
  | .bad => .bad
def M.lift {α : Type} (r : R α) : M α := fun cs => match r with
  | .ok a => .ok (a, cs)
  | .err c xs => .err c xs
  | .bad => .bad

/-! ### heaps -/
def NT (o : HO) : Prop := ∀ ps, o ≠ .tbl ps

mutual
inductive Rp (K : PySem.W.Frag) (G : Hp) : V → D → Prop
  | non : Rp K G .non .none
  | bl (b : Bool) : Rp K G (.bl b) (.bool b)
  | int (i : Int) : Rp K G (.int i) (.int i)
  | str (x : Str) : Rp K G (.str x) (.str x)
  | lst {a : Addr} {xs : List V} {ds : List D} : G a = some (.lst xs) → ds.length ≤ sizeLine → RpAll K G xs ds → Rp K G (.ref a) (.list ds)
  | scr {a : Addr} {xs : List V} {ds : List D} : SqL K G a xs → ds.length ≤ sizeLine → RpAll K G xs ds → Rp K G (.ref a) (.dict [(.none, .list ds)])
  | tup {a : Addr} {xs : List V} {ds : List D} : SqT K G a xs → ds.length ≤ sizeLine → RpAll K G xs ds → Rp K G (.ref a) (.tuple ds)
  | dct {a : Addr} : G a = some (.dK []) → Rp K G (.ref a) (.dict [])
inductive RpAll (K : PySem.W.Frag) (G : Hp) : List V → List D → Prop
  | nil : RpAll K G [] []
  | cons {v : V} {vs : List V} {d : D} {ds : List D} : Rp K G v d → RpAll K G vs ds → RpAll K G (v :: vs) (d :: ds)
end

theorem Same.sqt {K : PySem.W.Frag} {H H' : Hp} {a : Addr} {xs : List V} (e : Same H H') (h : SqT K H a xs) : SqT K H' a xs := by
  rcases h with (h | ⟨o, h⟩) | h
  · exact .inl (.inl (e _ _ h))
  · exact .inl (.inr ⟨o, e _ _ h⟩)
  · exact .inr h

mutual
theorem Rp.mono {K : PySem.W.Frag} {G G' : Hp} (e : Same G G') : ∀ {v : V} {d : D}, Rp K G v d → Rp K G' v d
  | _, _, .non => .non
  | _, _, .bl b => .bl b
  | _, _, .int i => .int i
  | _, _, .str x => .str x
  | _, _, .lst h z a => .lst (e _ _ h) z (RpAll.mono e a)
  | _, _, .scr h z a => .scr (Same.seq e h) z (RpAll.mono e a)
  | _, _, .tup h z a => .tup (Same.sqt e h) z (RpAll.mono e a)
  | _, _, .dct h => .dct (e _ _ h)
theorem RpAll.mono {K : PySem.W.Frag} {G G' : Hp} (e : Same G G') : ∀ {vs : List V} {ds : List D}, RpAll K G vs ds → RpAll K G' vs ds
  | _, _, .nil => .nil
  | _, _, .cons h t => .cons (Rp.mono e h) (RpAll.mono e t)
end
section
variable {K : PySem.W.Frag} {G H : Hp}
theorem RpAll.length : ∀ {vs : List V} {ds : List D}, RpAll K G vs ds → vs.length = ds.length
  | _, _, .nil => rfl
  | _, _, .cons _ t => congrArg (· + 1) (RpAll.length t)
theorem RpAll.get : ∀ {vs : List V} {ds : List D} {i : Nat} {d : D}, RpAll K G vs ds → ds[i]? = some d → ∃ v, vs[i]? = some v ∧ Rp K G v d
  | _, _, _, _, .nil, e => by simp at e
  | _, _, 0, _, .cons h _, e => by simp at e; subst e; exact ⟨_, rfl, h⟩
  | _, _, i + 1, d, .cons _ t, e => by
    obtain ⟨v, h1, h2⟩ := RpAll.get (i := i) t (by simpa using e)
    exact ⟨v, by simpa using h1, h2⟩
theorem RpAll.append : ∀ {vs ws : List V} {ds es : List D}, RpAll K G vs ds → RpAll K G ws es → RpAll K G (vs ++ ws) (ds ++ es)
  | _, _, _, _, .nil, s => s
  | _, _, _, _, .cons h t, s => .cons h (RpAll.append t s)
theorem RpAll.take : ∀ (n : Nat) {vs : List V} {ds : List D}, RpAll K G vs ds → RpAll K G (vs.take n) (ds.take n)
  | 0, _, _, _ => .nil
  | _ + 1, _, _, .nil => .nil
  | n + 1, _, _, .cons h t => .cons h (RpAll.take n t)
theorem RpAll.drop : ∀ (n : Nat) {vs : List V} {ds : List D}, RpAll K G vs ds → RpAll K G (vs.drop n) (ds.drop n)
  | 0, _, _, h => h
  | _ + 1, _, _, .nil => .nil
  | n + 1, _, _, .cons _ t => RpAll.drop n t
theorem RpAll.set {v : V} {d : D} (h : Rp K G v d) : ∀ (i : Nat) {vs : List V} {ds : List D}, RpAll K G vs ds → RpAll K G (vs.set i v) (ds.set i d)
  | _, _, _, .nil => .nil
  | 0, _, _, .cons _ t => .cons h t
  | i + 1, _, _, .cons q t => .cons q (RpAll.set h i t)
theorem RpAll.eraseIdx : ∀ (i : Nat) {vs : List V} {ds : List D}, RpAll K G vs ds → RpAll K G (vs.eraseIdx i) (ds.eraseIdx i)
  | _, _, _, .nil => .nil
  | 0, _, _, .cons _ t => t
  | i + 1, _, _, .cons q t => .cons q (RpAll.eraseIdx i t)
theorem RpAll.reverse {vs : List V} {ds : List D} (h : RpAll K G vs ds) : RpAll K G vs.reverse ds.reverse := by
  induction ds generalizing vs with
  | nil => cases h; exact .nil
  | cons d ds ih =>
    cases h with
    | cons a b =>
      rw [List.reverse_cons, List.reverse_cons]
      exact (ih b).append (.cons a .nil)
/-- the kit's own reading -/
theorem Rp.ofInt {v : V} {i : Int} (h : Rp K G v (.int i)) : v = .int i := by cases h; rfl
theorem Rp.ofBl {v : V} {b : Bool} (h : Rp K G v (.bool b)) : v = .bl b := by cases h; rfl
theorem Rp.ofStr {v : V} {x : Str} (h : Rp K G v (.str x)) : v = .str x := by cases h; rfl
theorem Rp.ofNon {v : V} (h : Rp K G v .none) : v = .non := by cases h; rfl
theorem Rp.ofScr {v : V} {ds : List D} (h : Rp K G v (.dict [(.none, .list ds)])) : ∃ a xs, v = .ref a ∧ SqL K G a xs ∧ ds.length ≤ sizeLine ∧ RpAll K G xs ds := by cases h with | scr h z a => exact ⟨_, _, rfl, h, z, a⟩
theorem Rp.ofLst {v : V} {ds : List D} (h : Rp K G v (.list ds)) : ∃ a xs, v = .ref a ∧ G a = some (.lst xs) ∧ ds.length ≤ sizeLine ∧ RpAll K G xs ds := by cases h with | lst h z a => exact ⟨_, _, rfl, h, z, a⟩
theorem Rp.ofTup {v : V} {ds : List D} (h : Rp K G v (.tuple ds)) : ∃ a xs, v = .ref a ∧ SqT K G a xs ∧ ds.length ≤ sizeLine ∧ RpAll K G xs ds := by cases h with | tup h z a => exact ⟨_, _, rfl, h, z, a⟩
end
mutual
/-- no dict in it -/
def noDict : D → Bool
  | .none | .bool _ | .int _ | .str _ => true
  | .list xs | .tuple xs => noDictAll xs
  | .dict _ => false
def noDictAll : List D → Bool
  | [] => true
  | x :: xs => noDict x && noDictAll xs
end
section
variable {K : PySem.W.Frag} {G : Hp}
mutual
theorem Rp.dp : ∀ {v : V} {d : D}, noDict d = true → Rp K G v d → Dp K G v d
  | _, _, _, .non => .non
  | _, _, _, .bl b => .bl b
  | _, _, _, .int i => .int i
  | _, _, _, .str x => .str x
  | _, .list ds, n, .lst h z a => .lst (SqL.of h) (RpAll.dp (by simpa [noDict] using n) a)
  | _, .tuple ds, n, .tup h z a => .tup h (RpAll.dp (by simpa [noDict] using n) a)
  | _, _, n, .dct h => by simp [noDict] at n
  | _, _, n, .scr _ _ _ => by simp [noDict] at n
theorem RpAll.dp : ∀ {vs : List V} {ds : List D}, noDictAll ds = true → RpAll K G vs ds → DpAll K G vs ds
  | _, _, _, .nil => .nil
  | _, d :: ds, n, .cons h t => by
    simp only [noDictAll, Bool.and_eq_true] at n
    exact .cons (Rp.dp n.1 h) (RpAll.dp n.2 t)
end
mutual
theorem noDict_of : ∀ d : D, d.canLay0 = true → noDict d = true
  | .none, _ | .bool _, _ | .int _, _ | .str _, _ => by simp [noDict]
  | .list xs, h | .tuple xs, h => by
    simp only [noDict]
    exact noDictAll_of xs (by simpa [PyData.canLay0] using h)
  | .dict _, h => by simp [PyData.canLay0] at h
theorem noDictAll_of : ∀ ds : List D, PyData.canLayAll0 ds = true → noDictAll ds = true
  | [], _ => by simp [noDictAll]
  | d :: ds, h => by
    simp only [PyData.canLayAll0, Bool.and_eq_true] at h
    simp only [noDictAll, noDict_of d h.1, noDictAll_of ds h.2, Bool.and_self]
end
end

/-! ### what slots stand for -/
/-- the addresses of the slots' own lists -/
def Ow (t : Bool) (δ : List C) (σ : L2.St) (b : Addr) : Prop := ∃ (i : Nat) (ds : List D), δ[i]? = some (.own t ds) ∧ σ[i]? = some (some (.ref b))
def OwA (δ : List C) (σ : L2.St) (b : Addr) : Prop := ∃ t, Ow t δ σ b

structure Rel (K : PySem.W.Frag) (δ : List C) (G : Hp) (σ : L2.St) (H : Hp) : Prop where
  len : δ.length = σ.length
  same : Same G H
  nt : ∀ b o, G b = some o → NT o
  dat : ∀ (i : Nat) (d : D), δ[i]? = some (.dat d) → ∃ v, σ[i]? = some (some v) ∧ Rp K G v d
  own : ∀ (i : Nat) (t : Bool) (ds : List D), δ[i]? = some (.own t ds) → ∃ p vs, σ[i]? = some (some (.ref p)) ∧ H p = some (.lst vs) ∧ G p = none ∧ ds.length ≤ sizeLine ∧ RpAll K G vs ds
  inj : ∀ (i j : Nat) (p : Addr) (t u : Bool) (ds es : List D), δ[i]? = some (.own t ds) → δ[j]? = some (.own u es) → σ[i]? = some (some (.ref p)) → σ[j]? = some (some (.ref p)) → i = j

structure Ext (δ : List C) (G H : Hp) (σ : L2.St) (δ' : List C) (G' H' : Hp) (σ' : L2.St) : Prop where
  keep : ∀ b o, H b = some o → NT o → ¬ OwA δ σ b → H' b = some o
  there : ∀ b, H b ≠ none → H' b ≠ none
  same : Same G G'
  new : ∀ b o, G' b = some o → G b = some o ∨ H b = none ∨ Ow false δ σ b
  own : ∀ b, Ow false δ' σ' b → Ow false δ σ b ∨ H b = none
  par : ∀ b, Ow true δ' σ' b → Ow true δ σ b
  tabs : ∀ T, LamX.Tabs T H → LamX.Tabs T H'
/-- what holds behind an exception -/
structure EExt (δ : List C) (σ : L2.St) (H H' : Hp) : Prop where
  keep : ∀ b o, H b = some o → NT o → ¬ OwA δ σ b → H' b = some o
  there : ∀ b, H b ≠ none → H' b ≠ none
  tabs : ∀ T, LamX.Tabs T H → LamX.Tabs T H'

section
variable {δ δ1 δ2 : List C} {G G1 G2 H H1 H2 : Hp} {σ σ1 σ2 : L2.St}
theorem Ext.refl : Ext δ G H σ δ G H σ := ⟨fun _ _ h _ _ => h, fun _ h => h, Same.refl _, fun _ _ h => .inl h, fun _ h => .inl h, fun _ h => h, fun _ h => h⟩
theorem Ext.owA (a : Ext δ G H σ δ1 G1 H1 σ1) {b : Addr} (h : OwA δ1 σ1 b) : OwA δ σ b ∨ H b = none := by
  obtain ⟨t, h⟩ := h
  cases t with
  | true => exact .inl ⟨true, a.par b h⟩
  | false => exact (a.own b h).imp (fun z => ⟨false, z⟩) id
theorem Ext.none_back (a : Ext δ G H σ δ1 G1 H1 σ1) {b : Addr} (h : H1 b = none) : H b = none := by
  cases e : H b with
  | none => rfl
  | some o => exact absurd h (a.there b (by rw [e]; simp))
theorem Ext.trans (a : Ext δ G H σ δ1 G1 H1 σ1) (b : Ext δ1 G1 H1 σ1 δ2 G2 H2 σ2) : Ext δ G H σ δ2 G2 H2 σ2 where
  keep := fun c o h n w => b.keep c o (a.keep c o h n w) n fun z => by
    rcases a.owA z with z | z
    · exact w z
    · rw [h] at z; cases z
  there := fun c h => b.there c (a.there c h)
  same := a.same.trans b.same
  new := fun c o h => by
    rcases b.new c o h with h | h | h
    · exact a.new c o h
    · exact .inr (.inl (a.none_back h))
    · rcases a.own c h with h | h
      · exact .inr (.inr h)
      · exact .inr (.inl h)
  own := fun c h => by
    rcases b.own c h with h | h
    · exact a.own c h
    · exact .inr (a.none_back h)
  par := fun c h => a.par c (b.par c h)
  tabs := fun T h => b.tabs T (a.tabs T h)
theorem Ext.eext (a : Ext δ G H σ δ1 G1 H1 σ1) : EExt δ σ H H1 := ⟨a.keep, a.there, a.tabs⟩
theorem EExt.after (a : Ext δ G H σ δ1 G1 H1 σ1) (b : EExt δ1 σ1 H1 H2) : EExt δ σ H H2 where
  keep := fun c o h n w => b.keep c o (a.keep c o h n w) n fun z => by
    rcases a.owA z with z | z
    · exact w z
    · rw [h] at z; cases z
  there := fun c h => b.there c (a.there c h)
  tabs := fun T h => b.tabs T (a.tabs T h)
end

/-- both heaps grow, nothing that was there is changed -/
structure Grow (G H G' H' : Hp) : Prop where
  keep : Same H H'
  same : Same G G'
  sub : Same G' H'
  nt : ∀ b o, G' b = some o → NT o
  new : ∀ b o, G' b = some o → G b = some o ∨ H b = none
theorem tabs_keep {H H' : Hp} (e : Same H H') : ∀ T, LamX.Tabs T H → LamX.Tabs T H' := fun T h => h.ext e
section
variable {K : PySem.W.Frag} {δ : List C} {G G' H H' : Hp} {σ : L2.St}
theorem Same.there {H H' : Hp} (e : Same H H') : ∀ b, H b ≠ none → H' b ≠ none := fun b h => by
  cases q : H b with
  | none => exact absurd q h
  | some o => rw [e b o q]; simp
theorem Grow.ext (g : Grow G H G' H') : Ext δ G H σ δ G' H' σ :=
  ⟨fun b o h _ _ => g.keep b o h, Same.there g.keep, g.same, fun b o h => (g.new b o h).imp id .inl, fun _ h => .inl h, fun _ h => h, tabs_keep g.keep⟩
theorem Grow.rel (g : Grow G H G' H') (r : Rel K δ G σ H) : Rel K δ G' σ H' := by
  refine ⟨r.len, g.sub, g.nt, fun i d e => ?_, fun i t ds e => ?_, r.inj⟩
  · obtain ⟨v, h1, h2⟩ := r.dat i d e
    exact ⟨v, h1, h2.mono g.same⟩
  · obtain ⟨p, vs, h1, h2, h3, h4, h5⟩ := r.own i t ds e
    refine ⟨p, vs, h1, g.keep _ _ h2, ?_, h4, h5.mono g.same⟩
    cases q : G' p with
    | none => rfl
    | some o =>
      rcases g.new p o q with z | z
      · rw [h3] at z; cases z
      · rw [h2] at z; cases z
theorem Grow.refl (r : Rel K δ G σ H) : Grow G H G H := ⟨Same.refl _, Same.refl _, r.same, r.nt, fun _ _ h => .inl h⟩
theorem same_upd {H : Hp} {p : Addr} {o : HO} (h : H p = none) : Same H (upd H p o) := fun b x e => by
  rw [upd_ne (ne_of_none e h)]; exact e
/-- a new frozen object -/
theorem Grow.laid {p : Addr} {o : HO} (hs : Same G H) (hn : ∀ b o, G b = some o → NT o) (h : H p = none) (no : NT o) : Grow G H (upd G p o) (upd H p o) := by
  have hg : G p = none := Same.free hs h
  refine ⟨same_upd h, same_upd hg, fun b x e => ?_, fun b x e => ?_, fun b x e => ?_⟩
  · by_cases q : b = p
    · subst q; rw [upd_same] at e ⊢; exact e
    · rw [upd_ne q] at e ⊢; exact hs b x e
  · by_cases q : b = p
    · subst q; rw [upd_same] at e; cases e; exact no
    · rw [upd_ne q] at e; exact hn b x e
  · by_cases q : b = p
    · subst q; exact .inr h
    · rw [upd_ne q] at e; exact .inl e
/-- a new object that is not frozen -/
theorem Grow.alloc {p : Addr} {o : HO} (hs : Same G H) (hn : ∀ b o, G b = some o → NT o) (h : H p = none) : Grow G H G (upd H p o) :=
  ⟨same_upd h, Same.refl _, hs.trans (same_upd h), hn, fun _ _ e => .inl e⟩
theorem nt_lst {xs : List V} : NT (.lst xs) := fun _ e => nomatch e
theorem nt_tup {xs : List V} : NT (.tup xs) := fun _ e => nomatch e
end

/-! ### errors -/
/-- the class table, by number; a TooGreat has its two fields -/
def ErrR (ct : Nat → Addr) (n : Nat) (xs : List D) (cls : Value) (dx : Option Addr) (H : Hp) : Prop :=
  cls = .ref (ct n) ∧ match xs with
    | [] => dx = none
    | [.int a, .int b] => ∃ d, dx = some d ∧ H d = some (.xd [("many", .int a), ("most", .int b)])
    | _ => False

/-! ### the readings -/
class Anti {α β : Type} (P : Hp → Hp → Hp → List C → L2.St → β → α → Prop) : Prop where
  anti : ∀ {δ δ1 : List C} {G H G1 H1 : Hp} {σ σ1 : L2.St} {G' H' : Hp} {δ' : List C} {σ' : L2.St} {v : β} {a : α}, Ext δ G H σ δ1 G1 H1 σ1 → P H1 G' H' δ' σ' v a → P H G' H' δ' σ' v a

def Post {α β : Type} (K : PySem.W.Frag) (ct : Nat → Addr) (W : WX) (P : Hp → Hp → Hp → List C → L2.St → β → α → Prop) (r : R (α × List C)) (δ : List C) (G H : Hp) (σ : L2.St) (Q : β → Hp → Prop) : Prop :=
  match r with
  | .ok (a, δ') => ∀ v G' H', Ext δ G H σ δ' G' H' σ → Rel K δ' G' σ H' → P H G' H' δ' σ v a → Q v H'
  | .err n xs => ∀ cls dx σ' H', EExt δ σ H H' → ErrR ct n xs cls dx H' → W cls dx σ' H'
  | .bad => False
def tG {α β : Type} (K : PySem.W.Frag) (ct : Nat → Addr) (W : WX) (P : Hp → Hp → Hp → List C → L2.St → β → α → Prop) (m : M α) : L2.St → Hp → (β → Hp → Prop) → Prop := fun σ H Q =>
  ∃ δ G, Rel K δ G σ H ∧ Post K ct W P (m δ) δ G H σ Q

/-- data | a test | arguments | a fresh list | a thing that is only looked at -/
def PD (K : PySem.W.Frag) : Hp → Hp → Hp → List C → L2.St → V → D → Prop := fun _ G' _ _ _ v d => Rp K G' v d
def PB : Hp → Hp → Hp → List C → L2.St → Bool → Bool → Prop := fun _ _ _ _ _ v d => v = d
def PAs (K : PySem.W.Frag) : Hp → Hp → Hp → List C → L2.St → List V → List D → Prop := fun _ G' _ _ _ v d => RpAll K G' v d
def PN (K : PySem.W.Frag) : Hp → Hp → Hp → List C → L2.St → V → List D → Prop := fun H G' H' δ' σ' v ds =>
  ∃ p vs, v = .ref p ∧ H p = none ∧ H' p = some (.lst vs) ∧ G' p = none ∧ ¬ OwA δ' σ' p ∧ ds.length ≤ sizeLine ∧ RpAll K G' vs ds
def RpV (K : PySem.W.Frag) (δ : List C) (σ : L2.St) (G H : Hp) (v : V) (d : D) : Prop :=
  Rp K G v d ∨ ∃ p vs ds, v = .ref p ∧ d = .list ds ∧ H p = some (.lst vs) ∧ ds.length ≤ sizeLine ∧ RpAll K G vs ds ∧
    ((∃ (i : Nat) (t : Bool), δ[i]? = some (.own t ds) ∧ σ[i]? = some (some (.ref p))) ∨ ¬ OwA δ σ p)
def PV (K : PySem.W.Frag) : Hp → Hp → Hp → List C → L2.St → V → D → Prop := fun _ G' H' δ' σ' v d => RpV K δ' σ' G' H' v d
instance {K : PySem.W.Frag} : Anti (PD K) := ⟨fun _ h => h⟩
instance : Anti PB := ⟨fun _ h => h⟩
instance {K : PySem.W.Frag} : Anti (PAs K) := ⟨fun _ h => h⟩
instance {K : PySem.W.Frag} : Anti (PV K) := ⟨fun _ h => h⟩
instance {K : PySem.W.Frag} : Anti (PN K) := ⟨fun e ⟨p, vs, h1, h2, h3⟩ => ⟨p, vs, h1, e.none_back h2, h3⟩⟩

section
variable {K : PySem.W.Frag} {ct : Nat → Addr} {W : WX} {α β γ ε : Type} {P : Hp → Hp → Hp → List C → L2.St → β → α → Prop} {P' : Hp → Hp → Hp → List C → L2.St → ε → γ → Prop} {δ : List C} {G H : Hp} {σ : L2.St} {Q : ε → Hp → Prop}
theorem Post.at [Anti P'] {r : R (γ × List C)} {δ1 : List C} {G1 H1 : Hp} (x : Ext δ G H σ δ1 G1 H1 σ) (h : Post K ct W P' r δ G H σ Q) : Post K ct W P' r δ1 G1 H1 σ Q := by
  cases r with
  | ok p => exact fun v G' H' x' r' q => h v G' H' (x.trans x') r' (Anti.anti x q)
  | err n xs => exact fun cls dx σ' H' x' e => h cls dx σ' H' (.after x x') e
  | bad => exact h
/-- one part of an expression, then the rest -/
theorem step [Anti P'] {m : M α} {k : α → M γ} {Q1 : β → Hp → Prop} (rel : Rel K δ G σ H) (h : Post K ct W P' (M.bind m k δ) δ G H σ Q)
    (next : ∀ a δ1 v G1 H1, m δ = .ok (a, δ1) → Ext δ G H σ δ1 G1 H1 σ → Rel K δ1 G1 σ H1 → P H G1 H1 δ1 σ v a → Post K ct W P' (k a δ1) δ1 G1 H1 σ Q → Q1 v H1) :
    Post K ct W P (m δ) δ G H σ Q1 := by
  unfold M.bind at h
  cases e : m δ with
  | ok p =>
    obtain ⟨a, δ1⟩ := p
    rw [e] at h
    exact fun v G1 H1 x r q => next a δ1 v G1 H1 e x r q (Post.at x h)
  | err n xs => rw [e] at h; exact h
  | bad => rw [e] at h; exact h
theorem tG.step [Anti P'] {m : M α} {k : α → M γ} {Q1 : β → Hp → Prop} (h : tG K ct W P' (M.bind m k) σ H Q)
    (next : ∀ a δ1 v G1 H1, Rel K δ1 G1 σ H1 → P H G1 H1 δ1 σ v a → Post K ct W P' (k a δ1) δ1 G1 H1 σ Q → Q1 v H1) : tG K ct W P m σ H Q1 := by
  obtain ⟨δ, G, rel, h⟩ := h
  exact ⟨δ, G, rel, TW.step rel h fun a δ1 v G1 H1 _ _ r q h => next a δ1 v G1 H1 r q h⟩
/-- the end: a value that the heaps grew by -/
theorem Post.done [Anti P'] {a : γ} {v : ε} {G' H' : Hp} (h : Post K ct W P' (.ok (a, δ)) δ G H σ Q) (rel : Rel K δ G σ H) (g : Grow G H G' H') (q : P' H G' H' δ σ v a) : Q v H' := h v G' H' g.ext (g.rel rel) q
end
theorem PE.conv {X : Cx} {e : Expr} {t t' : TE} (h : PE X e t) (i : ∀ σ H Q, t' σ H Q → t σ H Q) : PE X e t' := ⟨fun pins s σ H Q I q => h.run pins s σ H Q I (i σ H Q q)⟩
theorem PT.conv {X : Cx} {e : Expr} {t t' : TT} (h : PT X e t) (i : ∀ σ H Q, t' σ H Q → t σ H Q) : PT X e t' := ⟨fun pins s σ H Q I q => h.run pins s σ H Q I (i σ H Q q)⟩
theorem PA.conv {X : Cx} {es : List Expr} {t t' : TA} (h : PA X es t) (i : ∀ σ H Q, t' σ H Q → t σ H Q) : PA X es t' := ⟨fun pos pins s σ H Q I q => h.run pos pins s σ H Q I (i σ H Q q)⟩
theorem PS.conv {X : Cx} {e : Stmt} {t t' : TS} (h : PS X e t) (i : ∀ D σ H, t' D σ H → t D σ H) : PS X e t' := ⟨fun pins s σ H D I q => h.run pins s σ H D I (i D σ H q)⟩
theorem PSs.conv {X : Cx} {e : List Stmt} {t t' : TS} (h : PSs X e t) (i : ∀ D σ H, t' D σ H → t D σ H) : PSs X e t' := ⟨fun pins s σ H D I q => h.run pins s σ H D I (i D σ H q)⟩
theorem PI.conv {X : Cx} {tg e : Expr} {t t' : TI} (h : PI X tg e t) (i : ∀ σ H Q, t' σ H Q → t σ H Q) : PI X tg e t' := ⟨fun pins s σ H Q I q => h.run pins s σ H Q I (i σ H Q q)⟩

/-! ### the judgements -/
abbrev VE (ct : Nat → Addr) (W : WX) (X : Cx) (e : Expr) (m : M D) : Prop := PE X e (tG X.K ct W (PD X.K) m)
abbrev VV (ct : Nat → Addr) (W : WX) (X : Cx) (e : Expr) (m : M D) : Prop := PE X e (tG X.K ct W (PV X.K) m)
abbrev VN (ct : Nat → Addr) (W : WX) (X : Cx) (e : Expr) (m : M (List D)) : Prop := PE X e (tG X.K ct W (PN X.K) m)
abbrev VT (ct : Nat → Addr) (W : WX) (X : Cx) (e : Expr) (m : M Bool) : Prop := PT X e (tG X.K ct W PB m)
abbrev VA (ct : Nat → Addr) (W : WX) (X : Cx) (es : List Expr) (m : M (List D)) : Prop := PA X es (tG X.K ct W (PAs X.K) m)
end TW

set_option Elab.async false
set_option linter.all false
set_option maxRecDepth 100000
namespace TW
open PySem PySem.Spec PyProof.Rows L2

/-! ### looking at things -/
section
variable {K : PySem.W.Frag} {δ δ1 : List C} {G H G1 H1 : Hp} {σ : L2.St} {v : V} {d : D}
theorem RpV.of (h : Rp K G v d) : RpV K δ σ G H v d := .inl h
theorem RpV.at (x : Ext δ G H σ δ G1 H1 σ) (r : Rel K δ G1 σ H1) (h : RpV K δ σ G H v d) : RpV K δ σ G1 H1 v d := by
  rcases h with h | ⟨p, vs, ds, h1, h2, h3, h4, h5, h6⟩
  · exact .inl (h.mono x.same)
  · rcases h6 with ⟨i, t, e1, e2⟩ | h6
    · obtain ⟨q, ws, a1, a2, a3, a4, a5⟩ := r.own i t ds e1
      rw [e2] at a1
      cases a1
      exact .inr ⟨p, ws, ds, h1, h2, a2, a4, a5, .inl ⟨i, t, e1, e2⟩⟩
    · exact .inr ⟨p, vs, ds, h1, h2, x.keep p _ h3 nt_lst h6, h4, h5.mono x.same, .inr h6⟩
theorem RpV.int {i : Int} (h : RpV K δ σ G H v (.int i)) : v = .int i := by
  rcases h with h | ⟨p, vs, ds, _, h2, _⟩
  · exact h.ofInt
  · cases h2
theorem RpV.bl {b : Bool} (h : RpV K δ σ G H v (.bool b)) : v = .bl b := by
  rcases h with h | ⟨p, vs, ds, _, h2, _⟩
  · exact h.ofBl
  · cases h2
theorem RpV.str {x : Str} (h : RpV K δ σ G H v (.str x)) : v = .str x := by
  rcases h with h | ⟨p, vs, ds, _, h2, _⟩
  · exact h.ofStr
  · cases h2
theorem RpV.non (h : RpV K δ σ G H v .none) : v = .non := by
  rcases h with h | ⟨p, vs, ds, _, h2, _⟩
  · exact h.ofNon
  · cases h2
theorem RpV.lst {ds : List D} (s : Same G H) (h : RpV K δ σ G H v (.list ds)) : ∃ a xs, v = .ref a ∧ SqL K H a xs ∧ ds.length ≤ sizeLine ∧ RpAll K G xs ds := by
  rcases h with h | ⟨p, vs, ds', h1, h2, h3, h4, h5, _⟩
  · obtain ⟨a, xs, e, h1, h2, h3⟩ := h.ofLst
    exact ⟨a, xs, e, SqL.of (s _ _ h1), h2, h3⟩
  · cases h2
    exact ⟨p, vs, h1, SqL.of h3, h4, h5⟩
theorem RpV.lst' {ds : List D} (s : Same G H) (h : RpV K δ σ G H v (.list ds)) : ∃ a xs, v = .ref a ∧ H a = some (.lst xs) ∧ ds.length ≤ sizeLine ∧ RpAll K G xs ds := by
  rcases h with h | ⟨p, vs, ds', h1, h2, h3, h4, h5, _⟩
  · obtain ⟨a, xs, e, h1, h2, h3⟩ := h.ofLst
    exact ⟨a, xs, e, s _ _ h1, h2, h3⟩
  · cases h2
    exact ⟨p, vs, h1, h3, h4, h5⟩
theorem RpV.scr {ds : List D} (s : Same G H) (h : RpV K δ σ G H v (.dict [(.none, .list ds)])) : ∃ a xs, v = .ref a ∧ SqL K H a xs ∧ ds.length ≤ sizeLine ∧ RpAll K G xs ds := by
  rcases h with h | ⟨p, vs, ds', h1, h2, h3, h4, h5, _⟩
  · obtain ⟨a, xs, e, h1, h2, h3⟩ := h.ofScr
    exact ⟨a, xs, e, Same.seq s h1, h2, h3⟩
  · cases h2
theorem RpV.tup {ds : List D} (s : Same G H) (h : RpV K δ σ G H v (.tuple ds)) : ∃ a xs, v = .ref a ∧ SqT K H a xs ∧ ds.length ≤ sizeLine ∧ RpAll K G xs ds := by
  rcases h with h | ⟨p, vs, ds', h1, h2, h3, h4, h5, _⟩
  · obtain ⟨a, xs, e, h1, h2, h3⟩ := h.ofTup
    exact ⟨a, xs, e, Same.sqt s h1, h2, h3⟩
  · cases h2
theorem RpV.dp (s : Same G H) (n : noDict d = true) (h : RpV K δ σ G H v d) : Dp K H v d := by
  rcases h with h | ⟨p, vs, ds', h1, h2, h3, h4, h5, _⟩
  · exact (h.mono s).dp n
  · subst h1; subst h2
    exact .lst (SqL.of h3) ((h5.mono s).dp (by simpa [noDict] using n))
theorem RpAll.atI {vs : List V} {ds : List D} {i : Int} {d : D} (h : RpAll K G vs ds) (e : atI ds i = some d) : ∃ v, atI vs i = some v ∧ Rp K G v d := by
  unfold L2.atI at e ⊢
  rw [h.length]
  cases q : ixN ds.length i with
  | none => rw [q] at e; cases e
  | some j =>
    rw [q] at e
    exact h.get (i := j) (by simpa using e)
theorem shaped_noDict {d : D} (h : SeqAt.shaped d = true) : noDict d = true := noDict_of d (SeqAt.canLay_of_shaped h)
end

/-! ### names and constants -/
def mVar (i : Nat) : M D := fun cs => match cs[i]? with
  | some (.dat d) => .ok (d, cs)
  | some (.own false ds) => .ok (.list ds, cs.set i (.dat (.list ds)))
  | _ => .bad
def vVar (i : Nat) : M D := fun cs => match cs[i]? with
  | some (.dat d) => .ok (d, cs)
  | some (.own _ ds) => .ok (.list ds, cs)
  | _ => .bad
def mC (d : D) : M D := M.pure d
section
variable {ct : Nat → Addr} {W : WX} {X : Cx} {e a b : Expr} {m ma mb : M D} {pos : Pos}
/-- a list of a slot's own is frozen -/
theorem freeze {K : PySem.W.Frag} {δ : List C} {G H : Hp} {σ : L2.St} {i : Nat} {ds : List D} {p : Addr} {vs : List V} (r : Rel K δ G σ H) (e1 : δ[i]? = some (.own false ds)) (e2 : σ[i]? = some (some (.ref p))) (e3 : H p = some (.lst vs)) (e4 : G p = none) (e5 : ds.length ≤ sizeLine) (e6 : RpAll K G vs ds) :
    Ext δ G H σ (δ.set i (.dat (.list ds))) (upd G p (.lst vs)) H σ ∧ Rel K (δ.set i (.dat (.list ds))) (upd G p (.lst vs)) σ H ∧ Rp K (upd G p (.lst vs)) (.ref p) (.list ds) := by
  have sg : Same G (upd G p (.lst vs)) := same_upd e4
  have hi : i < δ.length := (List.getElem?_eq_some_iff.mp e1).1
  have hrp : Rp K (upd G p (.lst vs)) (.ref p) (.list ds) := .lst upd_same e5 (e6.mono sg)
  have keep : ∀ {j : Nat} {t : Bool} {es : List D}, (δ.set i (.dat (.list ds)))[j]? = some (.own t es) → j ≠ i ∧ δ[j]? = some (.own t es) := fun {j t es} h => by
    by_cases q : j = i
    · subst q
      rw [List.getElem?_set_self hi] at h
      cases h
    · rw [List.getElem?_set_ne (Ne.symm q)] at h
      exact ⟨q, h⟩
  refine ⟨⟨fun _ _ h _ _ => h, fun _ h => h, sg, fun b o h => ?_, fun b ⟨j, es, h1, h2⟩ => .inl ⟨j, es, (keep h1).2, h2⟩, fun b ⟨j, es, h1, h2⟩ => ⟨j, es, (keep h1).2, h2⟩, fun _ h => h⟩,
    ⟨by rw [List.length_set]; exact r.len, fun b o h => ?_, fun b o h => ?_, fun j d h => ?_, fun j t es h => ?_, fun j k q t u es fs h1 h2 => r.inj j k q t u es fs (keep h1).2 (keep h2).2⟩, hrp⟩
  · by_cases q : b = p
    · subst q; exact .inr (.inr ⟨i, ds, e1, e2⟩)
    · rw [upd_ne q] at h; exact .inl h
  · by_cases q : b = p
    · subst q; rw [upd_same] at h; cases h; exact e3
    · rw [upd_ne q] at h; exact r.same b o h
  · by_cases q : b = p
    · subst q; rw [upd_same] at h; cases h; exact nt_lst
    · rw [upd_ne q] at h; exact r.nt b o h
  · by_cases q : j = i
    · subst q
      rw [List.getElem?_set_self hi] at h
      cases h
      exact ⟨_, e2, hrp⟩
    · rw [List.getElem?_set_ne (Ne.symm q)] at h
      obtain ⟨v, h1, h2⟩ := r.dat j d h
      exact ⟨v, h1, h2.mono sg⟩
  · obtain ⟨q, h⟩ := keep h
    obtain ⟨p', ws, a1, a2, a3, a4, a5⟩ := r.own j t es h
    have n : p' ≠ p := fun z => q (r.inj j i p t false es ds h e1 (z ▸ a1) e2)
    exact ⟨p', ws, a1, a2, by rw [upd_ne n]; exact a3, a4, a5.mono sg⟩
theorem ve_of {t : TE} {i : Nat} (h : PE X e t) (ht : ∀ σ H Q, tVar i σ H Q → t σ H Q) : VE ct W X e (mVar i) := PE.conv h fun σ H Q ⟨δ, G, r, q⟩ => ht σ H Q (by
  unfold mVar at q
  cases e1 : δ[i]? with
  | none => rw [e1] at q; exact q.elim
  | some c =>
    rw [e1] at q
    cases c with
    | un => exact q.elim
    | dat d =>
      obtain ⟨v, h1, h2⟩ := r.dat i d e1
      exact ⟨v, h1, q v G H Ext.refl r h2⟩
    | own t ds =>
      cases t with
      | true => exact q.elim
      | false =>
        obtain ⟨p, vs, h1, h2, h3, h4, h5⟩ := r.own i false ds e1
        obtain ⟨x, r', rp⟩ := freeze r e1 h1 h2 h3 h4 h5
        exact ⟨_, h1, q _ _ H x r' rp⟩)
theorem ve_var (i : Nat) {x : Str} (h : PE X (.Name x pos) (tVar i)) : VE ct W X (.Name x pos) (mVar i) := ve_of h fun _ _ _ q => q
theorem vv_var (i : Nat) {x : Str} (h : PE X (.Name x pos) (tVar i)) : VV ct W X (.Name x pos) (vVar i) := PE.conv h fun σ H Q ⟨δ, G, r, q⟩ => by
  unfold vVar at q
  cases e1 : δ[i]? with
  | none => rw [e1] at q; exact q.elim
  | some c =>
    rw [e1] at q
    cases c with
    | un => exact q.elim
    | dat d =>
      obtain ⟨v, h1, h2⟩ := r.dat i d e1
      exact ⟨v, h1, q v G H Ext.refl r (.inl h2)⟩
    | own t ds =>
      obtain ⟨p, vs, h1, h2, h3, h4, h5⟩ := r.own i t ds e1
      exact ⟨_, h1, q _ _ H Ext.refl r (.inr ⟨p, vs, ds, rfl, rfl, h2, h4, h5, .inl ⟨i, t, e1, h1⟩⟩)⟩
/-- data of no object -/
inductive Flat : V → D → Prop
  | non : Flat .non .none
  | bl (b : Bool) : Flat (.bl b) (.bool b)
  | int (i : Int) : Flat (.int i) (.int i)
  | str (x : Str) : Flat (.str x) (.str x)
theorem Flat.rp {K : PySem.W.Frag} {G : Hp} {v : V} {d : D} (h : Flat v d) : Rp K G v d := by
  cases h
  · exact .non
  · exact .bl _
  · exact .int _
  · exact .str _
theorem ve_c {v : V} {d : D} (h : PE X e (tC v)) (f : Flat v d) : VE ct W X e (mC d) := PE.conv h fun σ H Q ⟨δ, G, r, q⟩ => q v G H Ext.refl r f.rp
theorem vv_of (h : VE ct W X e m) : VV ct W X e m := PE.conv h fun σ H Q ⟨δ, G, r, q⟩ => ⟨δ, G, r, by
  cases e1 : m δ with
  | ok p => obtain ⟨d, δ'⟩ := p; rw [e1] at q; exact fun v G' H' x r' rp => q v G' H' x r' (.inl rp)
  | err n xs => rw [e1] at q; exact q
  | bad => rw [e1] at q; exact q.elim⟩
/-- a fresh list, as data -/
def mOfN (m : M (List D)) : M D := M.bind m fun ds => M.pure (.list ds)
theorem fresh_rel {K : PySem.W.Frag} {δ δ' : List C} {G H G' H' : Hp} {σ : L2.St} {p : Addr} {vs : List V} {ds : List D} (x : Ext δ G H σ δ' G' H' σ) (r : Rel K δ' G' σ H') (h1 : H p = none) (h2 : H' p = some (.lst vs)) (h3 : G' p = none) (h4 : ¬ OwA δ' σ p) (h5 : ds.length ≤ sizeLine) (h6 : RpAll K G' vs ds) :
    Ext δ G H σ δ' (upd G' p (.lst vs)) H' σ ∧ Rel K δ' (upd G' p (.lst vs)) σ H' ∧ Rp K (upd G' p (.lst vs)) (.ref p) (.list ds) := by
  have sg : Same G' (upd G' p (.lst vs)) := same_upd h3
  refine ⟨⟨x.keep, x.there, x.same.trans sg, fun b o h => ?_, x.own, x.par, x.tabs⟩, ⟨r.len, fun b o h => ?_, fun b o h => ?_, fun j d h => ?_, fun j t es h => ?_, r.inj⟩, .lst upd_same h5 (h6.mono sg)⟩
  · by_cases q : b = p
    · subst q; exact .inr (.inl h1)
    · rw [upd_ne q] at h; exact x.new b o h
  · by_cases q : b = p
    · subst q; rw [upd_same] at h; cases h; exact h2
    · rw [upd_ne q] at h; exact r.same b o h
  · by_cases q : b = p
    · subst q; rw [upd_same] at h; cases h; exact nt_lst
    · rw [upd_ne q] at h; exact r.nt b o h
  · obtain ⟨v, a, c⟩ := r.dat j d h
    exact ⟨v, a, c.mono sg⟩
  · obtain ⟨p', ws, a1, a2, a3, a4, a5⟩ := r.own j t es h
    have n : p' ≠ p := fun z => h4 ⟨t, j, es, h, z ▸ a1⟩
    exact ⟨p', ws, a1, a2, by rw [upd_ne n]; exact a3, a4, a5.mono sg⟩
theorem ve_ofN {m : M (List D)} (h : VN ct W X e m) : VE ct W X e (mOfN m) := PE.conv h fun σ H Q ⟨δ, G, r, q⟩ => ⟨δ, G, r, by
  unfold mOfN M.bind at q
  cases e1 : m δ with
  | ok p =>
    obtain ⟨d, δ'⟩ := p
    rw [e1] at q
    intro v G' H' x r' ⟨p, vs, h0, h1, h2, h3, h4, h5, h6⟩
    subst h0
    obtain ⟨x', r2, rp⟩ := fresh_rel x r' h1 h2 h3 h4 h5 h6
    exact q _ _ _ x' r2 rp
  | err n xs => rw [e1] at q; exact q
  | bad => rw [e1] at q; exact q.elim⟩
theorem vv_ofN {m : M (List D)} (h : VN ct W X e m) : VV ct W X e (mOfN m) := PE.conv h fun σ H Q ⟨δ, G, r, q⟩ => ⟨δ, G, r, by
  unfold mOfN M.bind at q
  cases e1 : m δ with
  | ok p =>
    obtain ⟨d, δ'⟩ := p
    rw [e1] at q
    intro v G' H' x r' ⟨p, vs, h0, h1, h2, h3, h4, h5, h6⟩
    exact q _ _ _ x r' (.inr ⟨p, vs, d, h0, rfl, h2, h5, h6, .inr h4⟩)
  | err n xs => rw [e1] at q; exact q
  | bad => rw [e1] at q; exact q.elim⟩
end

/-! ### argument lists, displays -/
def mNil : M (List D) := M.pure []
def mCons (m : M D) (ms : M (List D)) : M (List D) := M.bind m fun d => M.bind ms fun ds => M.pure (d :: ds)
def szOk (n : Nat) : Bool := decide (n ≤ 16777216)
theorem szOk_le {n : Nat} (h : szOk n = true) : n ≤ sizeLine := by rw [sizeLine_eq]; exact of_decide_eq_true h
def mTup (ms : M (List D)) : M D := M.bind ms fun ds => if szOk ds.length then M.pure (.tuple ds) else fun _ => .bad
def mLst (ms : M (List D)) : M (List D) := M.bind ms fun ds => if szOk ds.length then M.pure ds else fun _ => .bad
section
variable {ct : Nat → Addr} {W : WX} {X : Cx} {e a b : Expr} {es : List Expr} {m ma mb : M D} {ms : M (List D)} {pos : Pos}
theorem va_nil : VA ct W X [] mNil := PA.conv pa_nil fun σ H Q ⟨δ, G, r, q⟩ => q [] G H Ext.refl r .nil
theorem va_cons (ha : VE ct W X e m) (hr : VA ct W X es ms) (hs : starEach (e :: es) X.env = (false, eval e X.env) :: starEach es X.env := by rfl) : VA ct W X (e :: es) (mCons m ms) :=
  PA.conv (pa_cons ha hr hs) fun σ H Q h => tG.step h fun d δ1 v G1 H1 r1 p1 h1 => ⟨δ1, G1, r1, TW.step r1 h1 fun ds δ2 vs G2 H2 e2 x2 r2 p2 h2 => h2 (v :: vs) G2 H2 Ext.refl r2 (.cons (Rp.mono x2.same p1) p2)⟩
theorem ve_tup {k : Nat} (h : VA ct W X es ms) : VE ct W X (.Tuple es k pos) (mTup ms) :=
  PE.conv (pe_tup h) fun σ H Q h => tG.step h fun ds δ1 vs G1 H1 r1 p1 h1 => by
    by_cases z : szOk ds.length = true
    · simp only [z, if_true] at h1
      have hl := szOk_le z
      refine ⟨by rw [RpAll.length p1]; exact hl, fun p hp => ?_⟩
      exact Post.done h1 r1 (Grow.laid r1.same r1.nt hp nt_tup) (.tup (SqT.of upd_same) hl (RpAll.mono (same_upd (Same.free r1.same hp)) p1))
    · simp only [z] at h1
      exact h1.elim
theorem vn_lst (h : VA ct W X es ms) : VN ct W X (.List es pos) (mLst ms) :=
  PE.conv (pe_lst h) fun σ H Q h => tG.step h fun ds δ1 vs G1 H1 r1 p1 h1 => by
    by_cases z : szOk ds.length = true
    · simp only [z, if_true] at h1
      have hl := szOk_le z
      refine ⟨by rw [RpAll.length p1]; exact hl, fun p hp => ?_⟩
      refine Post.done h1 r1 (Grow.alloc r1.same r1.nt hp) ⟨p, vs, rfl, hp, upd_same, Same.free r1.same hp, fun ⟨t, i, es, a1, a2⟩ => ?_, hl, p1⟩
      obtain ⟨q, ws, b1, b2, _⟩ := r1.own i t es a1
      rw [a2] at b1
      cases b1
      rw [hp] at b2
      cases b2
    · simp only [z] at h1
      exact h1.elim
end

/-! ### operators -/
def M.only {α : Type} (r : R α) : M α := fun cs => match r with
  | .ok a => .ok (a, cs)
  | _ => .bad
def mOp2 (g : D → D → R D) (ma mb : M D) : M D := M.bind ma fun d => M.bind mb fun e => M.only (g d e)
def mOp1 (g : D → R D) (ma : M D) : M D := M.bind ma fun d => M.only (g d)
/-- a part that changes no slot -/
def Pure (m : M D) : Prop := ∀ cs d cs', m cs = .ok (d, cs') → cs' = cs
def R2D (K : PySem.W.Frag) (r : R2) (g : D → D → R D) : Prop := ∀ (δ : List C) (σ : L2.St) (G H : Hp) (x y : V) (d e z : D) (Q : VK), Rel K δ G σ H → RpV K δ σ G H x d → RpV K δ σ G H y e → g d e = .ok z →
  (∀ v G' H', Grow G H G' H' → Rp K G' v z → Q v H') → r x y H Q
theorem Post.only {K : PySem.W.Frag} {ct : Nat → Addr} {W : WX} {α β : Type} {P : Hp → Hp → Hp → List C → L2.St → β → α → Prop} {r : R α} {δ : List C} {G H : Hp} {σ : L2.St} {Q : β → Hp → Prop} (h : Post K ct W P (M.only r δ) δ G H σ Q) :
    ∃ a, r = .ok a ∧ Post K ct W P (.ok (a, δ)) δ G H σ Q := by
  cases r with
  | ok a => exact ⟨a, rfl, h⟩
  | err n xs => exact h.elim
  | bad => exact h.elim
section
variable {ct : Nat → Addr} {W : WX} {X : Cx} {e a b : Expr} {es : List Expr} {m ma mb : M D} {ms : M (List D)} {pos : Pos} {r : R2} {g : D → D → R D}
theorem op2_core {K : PySem.W.Frag} (hr : R2D K r g) {σ : L2.St} {H : Hp} {Q : VK} (h : tG K ct W (PD K) (mOp2 g ma mb) σ H Q) : tOp r (tG K ct W (PD K) ma) (tG K ct W (PV K) mb) σ H Q :=
  tG.step h fun d δ1 x G1 H1 r1 p1 h1 => ⟨δ1, G1, r1, TW.step r1 h1 fun e δ2 y G2 H2 _ x2 r2 p2 h2 => by
    obtain ⟨z, ez, h3⟩ := Post.only h2
    exact hr δ2 σ G2 H2 x y d e z Q r2 (.inl (Rp.mono x2.same p1)) p2 ez fun v G' H' g rp => Post.done h3 r2 g rp⟩
theorem op2_coreV {K : PySem.W.Frag} (hr : R2D K r g) (hp : Pure mb) {σ : L2.St} {H : Hp} {Q : VK} (h : tG K ct W (PD K) (mOp2 g ma mb) σ H Q) : tOp r (tG K ct W (PV K) ma) (tG K ct W (PV K) mb) σ H Q :=
  tG.step h fun d δ1 x G1 H1 r1 p1 h1 => ⟨δ1, G1, r1, TW.step r1 h1 fun e δ2 y G2 H2 e2 x2 r2 p2 h2 => by
    obtain ⟨z, ez, h3⟩ := Post.only h2
    have q := hp _ _ _ e2
    subst q
    exact hr δ2 σ G2 H2 x y d e z Q r2 (RpV.at x2 r2 p1) p2 ez fun v G' H' g rp => Post.done h3 r2 g rp⟩
theorem ve_op {op : Operator} (ho : OpR X (binaryOp op) r) (hr : R2D X.K r g) (ha : VE ct W X a ma) (hb : VV ct W X b mb) : VE ct W X (.BinOp a op b pos) (mOp2 g ma mb) := PE.conv (pe_op ho ha hb) fun _ _ _ h => op2_core hr h
theorem ve_opV {op : Operator} (ho : OpR X (binaryOp op) r) (hr : R2D X.K r g) (ha : VV ct W X a ma) (hp : Pure mb) (hb : VV ct W X b mb) : VE ct W X (.BinOp a op b pos) (mOp2 g ma mb) := PE.conv (pe_op ho ha hb) fun _ _ _ h => op2_coreV hr hp h
theorem ve_cmp {op : CmpOp} (ho : OpR X (compareOp op) r) (hr : R2D X.K r g) (hm : behindInMarks op b = false) (ha : VE ct W X a ma) (hb : VV ct W X b mb) : VE ct W X (.Compare a [op] [b] pos) (mOp2 g ma mb) := PE.conv (pe_cmpR ho ha hb hm) fun _ _ _ h => op2_core hr h
theorem ve_cmpV {op : CmpOp} (ho : OpR X (compareOp op) r) (hr : R2D X.K r g) (hm : behindInMarks op b = false) (ha : VV ct W X a ma) (hp : Pure mb) (hb : VV ct W X b mb) : VE ct W X (.Compare a [op] [b] pos) (mOp2 g ma mb) := PE.conv (pe_cmpR ho ha hb hm) fun _ _ _ h => op2_coreV hr hp h
/-- a value that is a bool, as a test -/
def mTest (m : M D) : M Bool := M.bind m fun d => match d with
  | .bool b => M.pure b
  | _ => fun _ => .bad
theorem test_core {K : PySem.W.Frag} {σ : L2.St} {H : Hp} {Q : Bool → Hp → Prop} (h : tG K ct W PB (mTest m) σ H Q) : tG K ct W (PD K) m σ H (fun x H' => ∃ k, x = .bl k ∧ Q k H') :=
  tG.step h fun d δ1 x G1 H1 r1 p1 h1 => by
    cases d <;> first
      | exact h1.elim
      | exact ⟨_, Rp.ofBl p1, h1 _ G1 H1 Ext.refl r1 rfl⟩
theorem vt_cmp {op : CmpOp} (ho : OpR X (compareOp op) r) (hr : R2D X.K r g) (hm : behindInMarks op b = false) (ha : VE ct W X a ma) (hb : VV ct W X b mb) : VT ct W X (.Compare a [op] [b] pos) (mTest (mOp2 g ma mb)) :=
  PT.conv (pt_cmpR ho ha hb hm) fun _ _ _ h => op2_core hr (test_core h)
theorem vt_cmpV {op : CmpOp} (ho : OpR X (compareOp op) r) (hr : R2D X.K r g) (hm : behindInMarks op b = false) (ha : VV ct W X a ma) (hp : Pure mb) (hb : VV ct W X b mb) : VT ct W X (.Compare a [op] [b] pos) (mTest (mOp2 g ma mb)) :=
  PT.conv (pt_cmpR ho ha hb hm) fun _ _ _ h => op2_coreV hr hp (test_core h)
theorem vt_val (h : VE ct W X e m) (he : ∀ whole, isTrue e X.env whole = (do let v ← whole; standAt e.pos; holding [v] (truthy v)) := by intro _; rfl) : VT ct W X e (mTest m) := PT.conv (pt_val h he) fun _ _ _ h => test_core h
theorem pure_mC {d : D} : Pure (mC d) := fun cs d' cs' h => by cases h; rfl
theorem pure_vVar {i : Nat} : Pure (vVar i) := fun cs d cs' h => by
  unfold vVar at h
  split at h <;> cases h <;> rfl
theorem pure_nil : Pure (mOfN (mLst mNil)) := fun cs d cs' h => by cases h; rfl
end

/-! ### the operators on data -/
def gI (f : Int → Int → Int) : D → D → R D
  | .int i, .int j => .ok (.int (f i j))
  | _, _ => .bad
def gIC (c : Int → Int → Bool) (f : Int → Int → Int) : D → D → R D
  | .int i, .int j => if c i j then .ok (.int (f i j)) else .bad
  | _, _ => .bad
def gIB (f : Int → Int → Bool) : D → D → R D
  | .int i, .int j => .ok (.bool (f i j))
  | _, _ => .bad
def gEq : D → D → R D := fun d e => if SeqAt.shaped d && SeqAt.shaped e then .ok (.bool (PyData.eqv d e)) else .bad
def gNe : D → D → R D := fun d e => if SeqAt.shaped d && SeqAt.shaped e then .ok (.bool (!PyData.eqv d e)) else .bad
def gIn (neg : Bool) : D → D → R D
  | d, .list es => if SeqAt.shaped d && SeqAt.shaped (.list es) then .ok (.bool (neg != es.any fun z => PyData.eqv z d)) else .bad
  | d, .tuple es => if SeqAt.shaped d && SeqAt.shaped (.tuple es) then .ok (.bool (neg != es.any fun z => PyData.eqv z d)) else .bad
  | _, _ => .bad
def gIsB : D → D → R D
  | .bool a, .bool b => .ok (.bool (decide (a = b)))
  | _, _ => .bad
def gNotB : D → D → R D
  | .bool a, .bool b => .ok (.bool (!decide (a = b)))
  | _, _ => .bad
def isNon : D → Bool
  | .none => true
  | _ => false
def gIsN : D → D → R D
  | d, .none => .ok (.bool (isNon d))
  | _, _ => .bad
def gNotN : D → D → R D
  | d, .none => .ok (.bool (!isNon d))
  | _, _ => .bad
section
variable {K : PySem.W.Frag} {X : Cx}
theorem r2_I {f : Int → Int → Int} : R2D K (rI0 fun i j => .int (f i j)) (gI f) := fun δ σ G H x y d e z Q r hx hy hz q => by
  unfold gI at hz
  split at hz
  · cases hz
    exact ⟨_, _, hx.int, hy.int, q _ G H (Grow.refl r) (.int _)⟩
  · cases hz
theorem r2_IC {c : Int → Int → Bool} {Cc : Int → Int → Prop} {f : Int → Int → Int} (hc : ∀ i j, c i j = true → Cc i j) : R2D K (rI Cc fun i j => .int (f i j)) (gIC c f) := fun δ σ G H x y d e z Q r hx hy hz q => by
  unfold gIC at hz
  split at hz
  · split at hz
    · rename_i hk
      cases hz
      exact ⟨_, _, hx.int, hy.int, hc _ _ hk, q _ G H (Grow.refl r) (.int _)⟩
    · cases hz
  · cases hz
theorem r2_IB {f : Int → Int → Bool} : R2D K (rI0 fun i j => .bl (f i j)) (gIB f) := fun δ σ G H x y d e z Q r hx hy hz q => by
  unfold gIB at hz
  split at hz
  · cases hz
    exact ⟨_, _, hx.int, hy.int, q _ G H (Grow.refl r) (.bl _)⟩
  · cases hz
theorem r2_Eq : R2D K (rEqD K) gEq := fun δ σ G H x y d e z Q r hx hy hz q => by
  unfold gEq at hz
  split at hz
  · rename_i hk
    rw [Bool.and_eq_true] at hk
    cases hz
    exact ⟨d, e, hx.dp r.same (shaped_noDict hk.1), hy.dp r.same (shaped_noDict hk.2), hk.1, hk.2, q _ G H (Grow.refl r) (.bl _)⟩
  · cases hz
theorem r2_Ne : R2D K (rNeD K) gNe := fun δ σ G H x y d e z Q r hx hy hz q => by
  unfold gNe at hz
  split at hz
  · rename_i hk
    rw [Bool.and_eq_true] at hk
    cases hz
    exact ⟨d, e, hx.dp r.same (shaped_noDict hk.1), hy.dp r.same (shaped_noDict hk.2), hk.1, hk.2, q _ G H (Grow.refl r) (.bl _)⟩
  · cases hz
/-- x in a list or a tuple of data -/
def rInA (K : PySem.W.Frag) (neg : Bool) : R2 := fun x y H Q => ∃ d ds, Dp K H x d ∧ (Dp K H y (.list ds) ∨ Dp K H y (.tuple ds)) ∧ SeqAt.shaped d = true ∧ PyData.canLayAll0 ds = true ∧ Q (.bl (neg != ds.any fun z => PyData.eqv z d)) H
theorem op_inA (hu : X.A.units + 65 < cLine) : OpR X (compareOp .In) (rInA X.K false) := by
  intro pins s σ H x y v u Q I rx ry h
  obtain ⟨d, ds, hd, he, sd, se, q⟩ := h
  obtain ⟨as, r1⟩ := Dp.reads I d x v hd rx
  have q' : Q (.bl (ds.any fun z => PyData.eqv z d)) H := by
    have := q
    rwa [Bool.false_bne] at this
  rcases he with he | he
  · obtain ⟨bs, r2⟩ := Dp.reads I (.list ds) y u he ry
    exact SeqAt.in_list_reads r2 r1 se (SeqAt.canLay_of_shaped sd) (room_in_shaped sd hu) ⟨.bl _, H, I, rfl, q'⟩
  · obtain ⟨bs, r2⟩ := Dp.reads I (.tuple ds) y u he ry
    exact SeqAt.in_tuple_reads r2 r1 se (SeqAt.canLay_of_shaped sd) (room_in_shaped sd hu) ⟨.bl _, H, I, rfl, q'⟩
theorem op_notInA (hu : X.A.units + 65 < cLine) : OpR X (compareOp .NotIn) (rInA X.K true) := by
  intro pins s σ H x y v u Q I rx ry h
  obtain ⟨d, ds, hd, he, sd, se, q⟩ := h
  obtain ⟨as, r1⟩ := Dp.reads I d x v hd rx
  have q' : Q (.bl (!ds.any fun z => PyData.eqv z d)) H := by
    have := q
    rwa [Bool.true_bne] at this
  rcases he with he | he
  · obtain ⟨bs, r2⟩ := Dp.reads I (.list ds) y u he ry
    exact SeqAt.notIn_list_reads r2 r1 se (SeqAt.canLay_of_shaped sd) (room_in_shaped sd hu) ⟨.bl _, H, I, rfl, q'⟩
  · obtain ⟨bs, r2⟩ := Dp.reads I (.tuple ds) y u he ry
    exact SeqAt.notIn_tuple_reads r2 r1 se (SeqAt.canLay_of_shaped sd) (room_in_shaped sd hu) ⟨.bl _, H, I, rfl, q'⟩
theorem r2_In {neg : Bool} : R2D K (rInA K neg) (gIn neg) := fun δ σ G H x y d e z Q r hx hy hz q => by
  unfold gIn at hz
  split at hz
  · split at hz
    · rename_i hk
      rw [Bool.and_eq_true] at hk
      cases hz
      exact ⟨_, _, hx.dp r.same (shaped_noDict hk.1), .inl (hy.dp r.same (shaped_noDict hk.2)), hk.1, by simpa [PyData.canLay0] using SeqAt.canLay_of_shaped hk.2, q _ G H (Grow.refl r) (.bl _)⟩
    · cases hz
  · split at hz
    · rename_i hk
      rw [Bool.and_eq_true] at hk
      cases hz
      exact ⟨_, _, hx.dp r.same (shaped_noDict hk.1), .inr (hy.dp r.same (shaped_noDict hk.2)), hk.1, by simpa [PyData.canLay0] using SeqAt.canLay_of_shaped hk.2, q _ G H (Grow.refl r) (.bl _)⟩
    · cases hz
  · cases hz
theorem rpv_non {δ : List C} {σ : L2.St} {G H : Hp} {x : V} {d : D} (h : RpV K δ σ G H x d) : decide (x = .non) = isNon d := by
  rcases h with h | ⟨p, vs, ds, h1, h2, _⟩
  · cases h <;> rfl
  · subst h1; subst h2; rfl
theorem r2_IsN : R2D K (fun x y H Q => y = .non ∧ Q (.bl (decide (x = .non))) H) gIsN := fun δ σ G H x y d e z Q r hx hy hz q => by
  unfold gIsN at hz
  split at hz
  · cases hz
    exact ⟨hy.non, by rw [rpv_non hx]; exact q _ G H (Grow.refl r) (.bl _)⟩
  · cases hz
theorem r2_NotN : R2D K (fun x y H Q => y = .non ∧ Q (.bl (!decide (x = .non))) H) gNotN := fun δ σ G H x y d e z Q r hx hy hz q => by
  unfold gNotN at hz
  split at hz
  · cases hz
    exact ⟨hy.non, by rw [rpv_non hx]; exact q _ G H (Grow.refl r) (.bl _)⟩
  · cases hz
theorem r2_IsB : R2D K (fun x y H Q => ∃ a b : Bool, x = .bl a ∧ y = .bl b ∧ Q (.bl (decide (a = b))) H) gIsB := fun δ σ G H x y d e z Q r hx hy hz q => by
  unfold gIsB at hz
  split at hz
  · cases hz
    exact ⟨_, _, hx.bl, hy.bl, q _ G H (Grow.refl r) (.bl _)⟩
  · cases hz
theorem r2_NotB : R2D K (fun x y H Q => ∃ a b : Bool, x = .bl a ∧ y = .bl b ∧ Q (.bl (!decide (a = b))) H) gNotB := fun δ σ G H x y d e z Q r hx hy hz q => by
  unfold gNotB at hz
  split at hz
  · cases hz
    exact ⟨_, _, hx.bl, hy.bl, q _ G H (Grow.refl r) (.bl _)⟩
  · cases hz
/-- t + u of tuples -/
def gCatT : D → D → R D
  | .tuple ds, .tuple es => if szOk (ds.length + es.length) then .ok (.tuple (ds ++ es)) else .bad
  | _, _ => .bad
theorem r2_CatT : R2D K (rCatA K) gCatT := fun δ σ G H x y d e z Q r hx hy hz q => by
  unfold gCatT at hz
  split at hz
  · split at hz
    · rename_i ds es hk
      cases hz
      have hl := szOk_le hk
      obtain ⟨a, xs, e1, h1, h2, h3⟩ := hx.tup r.same
      obtain ⟨b, ys, e2, k1, k2, k3⟩ := hy.tup r.same
      have l1 := h3.length
      have l2 := k3.length
      refine ⟨a, b, xs, ys, e1, e2, h1, k1, by omega, fun z => ?_, fun z w => ?_, fun z w p hp => ?_⟩
      · subst z
        have : ds = [] := List.eq_nil_of_length_eq_zero (by rw [← l1]; rfl)
        subst this
        subst e2
        refine q _ G H (Grow.refl r) ?_
        rcases hy with hy | ⟨_, _, _, _, h2, _⟩
        · exact hy
        · cases h2
      · subst w
        have : es = [] := List.eq_nil_of_length_eq_zero (by rw [← l2]; rfl)
        subst this
        subst e1
        rw [List.append_nil] at q
        refine q _ G H (Grow.refl r) ?_
        rcases hx with hx | ⟨_, _, _, _, h2, _⟩
        · exact hx
        · cases h2
      · exact q _ _ _ (Grow.laid r.same r.nt hp nt_tup) (.tup (SqT.of upd_same) (by rw [List.length_append]; exact hl) (RpAll.mono (same_upd (Same.free r.same hp)) (h3.append k3)))
    · cases hz
  · cases hz
/-- items -/
def gIx : D → D → R D
  | .list ds, .int i => match atI ds i with | some d => .ok d | none => .bad
  | .tuple ds, .int i => match atI ds i with | some d => .ok d | none => .bad
  | .dict [(.none, .list ds)], .int i => match atI ds i with | some d => .ok d | none => .bad
  | .str x, .int i => if szOk x.length then (match atI x.cps.toList i with | some c => .ok (.str ⟨#[c]⟩) | none => .bad) else .bad
  | _, _ => .bad
theorem r2_Ix : R2D K (rIx K) gIx := fun δ σ G H x y d e z Q r hx hy hz q => by
  unfold gIx at hz
  split at hz
  · rename_i ds i
    obtain ⟨a, xs, e1, h1, h2, h3⟩ := hx.lst r.same
    cases ha : atI ds i with
    | none => rw [ha] at hz; cases hz
    | some d =>
      rw [ha] at hz; cases hz
      obtain ⟨v, hv, rv⟩ := h3.atI ha
      exact .inl ⟨a, xs, i, v, e1, hy.int, h1, hv, q _ G H (Grow.refl r) rv⟩
  · rename_i ds i
    obtain ⟨a, xs, e1, h1, h2, h3⟩ := hx.tup r.same
    cases ha : atI ds i with
    | none => rw [ha] at hz; cases hz
    | some d =>
      rw [ha] at hz; cases hz
      obtain ⟨v, hv, rv⟩ := h3.atI ha
      exact .inr (.inl ⟨a, xs, i, v, e1, hy.int, h1, hv, q _ G H (Grow.refl r) rv⟩)
  · rename_i ds i
    obtain ⟨a, xs, e1, h1, h2, h3⟩ := hx.scr r.same
    cases ha : atI ds i with
    | none => rw [ha] at hz; cases hz
    | some d =>
      rw [ha] at hz; cases hz
      obtain ⟨v, hv, rv⟩ := h3.atI ha
      exact .inl ⟨a, xs, i, v, e1, hy.int, h1, hv, q _ G H (Grow.refl r) rv⟩
  · split at hz
    · rename_i x' i hk
      cases ha : atI x'.cps.toList i with
      | none => rw [ha] at hz; cases hz
      | some c =>
        rw [ha] at hz; cases hz
        exact .inr (.inr ⟨x', i, c, hx.str, hy.int, szOk_le hk, ha, q _ G H (Grow.refl r) (.str _)⟩)
    · cases hz
  · cases hz
end
section
variable {ct : Nat → Addr} {W : WX} {X : Cx} {e a b c : Expr} {es : List Expr} {m ma mb mc : M D} {ms : M (List D)} {pos : Pos} {r r' : R2} {g g' : D → D → R D}
theorem ve_ix (ha : VE ct W X a ma) (hb : VV ct W X b mb) (hs : PlainIx b) : VE ct W X (.Subscript a b pos) (mOp2 gIx ma mb) := PE.conv (pe_ix ix_seq ha hb hs) fun _ _ _ h => op2_core r2_Ix h
theorem ve_ixV (ha : VV ct W X a ma) (hp : Pure mb) (hb : VV ct W X b mb) (hs : PlainIx b) : VE ct W X (.Subscript a b pos) (mOp2 gIx ma mb) := PE.conv (pe_ix ix_seq ha hb hs) fun _ _ _ h => op2_coreV r2_Ix hp h
def gNeg : D → R D
  | .int i => .ok (.int (-i))
  | _ => .bad
theorem ve_neg (ha : VE ct W X a ma) : VE ct W X (.UnaryOp .USub a pos) (mOp1 gNeg ma) := PE.conv (pe_un un_neg ha) fun σ H Q h => tG.step h fun d δ1 x G1 H1 r1 p1 h1 => by
  obtain ⟨z, ez, h3⟩ := Post.only h1
  unfold gNeg at ez
  split at ez
  · cases ez
    exact ⟨_, Rp.ofInt p1, Post.done h3 r1 (Grow.refl r1) (.int _)⟩
  · cases ez
/-- a op b op' c -/
def mChain (g g' : D → D → R D) (ma mb mc : M D) : M D := M.bind ma fun x => M.bind mb fun y => M.bind (M.only (g x y)) fun z => match z with
  | .bool true => M.bind mc fun w => M.only (g' y w)
  | .bool false => M.pure (.bool false)
  | _ => fun _ => .bad
theorem chain_core {K : PySem.W.Frag} (hr : R2D K r g) (hr' : R2D K r' g') {σ : L2.St} {H : Hp} {Q : VK} (h : tG K ct W (PD K) (mChain g g' ma mb mc) σ H Q) : tChain r r' (tG K ct W (PD K) ma) (tG K ct W (PD K) mb) (tG K ct W (PV K) mc) σ H Q :=
  tG.step h fun d δ1 x G1 H1 r1 p1 h1 => ⟨δ1, G1, r1, TW.step r1 h1 fun e δ2 y G2 H2 _ x2 r2 p2 h2 => by
    unfold M.bind at h2
    cases eg : g d e with
    | err n xs => simp only [eg, M.only] at h2; exact h2.elim
    | bad => simp only [eg, M.only] at h2; exact h2.elim
    | ok z =>
      simp only [eg, M.only] at h2
      refine hr δ2 σ G2 H2 x y d e z _ r2 (.inl (Rp.mono x2.same p1)) (.inl p2) eg fun v G' H' gr rp => ?_
      cases z <;> first
        | exact h2.elim
        | skip
      rename_i k
      have h3 := Post.at (gr.ext (δ := δ2) (σ := σ)) h2
      have r3 := gr.rel r2
      refine ⟨k, Rp.ofBl rp, ?_⟩
      cases k with
      | true =>
        rw [if_pos rfl]
        exact ⟨δ2, G', r3, TW.step r3 h3 fun w δ4 y' G4 H4 _ x4 r4 p4 h4 => by
          obtain ⟨z', ez, h5⟩ := Post.only h4
          exact hr' δ4 σ G4 H4 y y' e w z' Q r4 (.inl (Rp.mono (gr.same.trans x4.same) p2)) p4 ez fun v G' H' g rp => Post.done h5 r4 g rp⟩
      | false =>
        rw [if_neg Bool.false_ne_true]
        exact Post.done h3 r3 (Grow.refl r3) (.bl false)⟩
theorem ve_chain {op op' : CmpOp} (ho : OpR X (compareOp op) r) (hr : R2D X.K r g) (ho' : OpR X (compareOp op') r') (hr' : R2D X.K r' g') (ha : VE ct W X a ma) (hb : VE ct W X b mb) (hc : VV ct W X c mc)
    (hm : lastMarks [op, op'] [b, c] = false := by with_unfolding_all rfl) : VE ct W X (.Compare a [op, op'] [b, c] pos) (mChain g g' ma mb mc) := PE.conv (pe_chain ho ho' ha hb hc hm) fun _ _ _ h => chain_core hr hr' h
theorem vt_chain {op op' : CmpOp} (ho : OpR X (compareOp op) r) (hr : R2D X.K r g) (ho' : OpR X (compareOp op') r') (hr' : R2D X.K r' g') (ha : VE ct W X a ma) (hb : VE ct W X b mb) (hc : VV ct W X c mc)
    (hm : lastMarks [op, op'] [b, c] = false := by with_unfolding_all rfl) : VT ct W X (.Compare a [op, op'] [b, c] pos) (mTest (mChain g g' ma mb mc)) := PT.conv (pt_chain ho ho' ha hb hc hm) fun _ _ _ h => chain_core hr hr' (test_core h)
/-! ### and, or, not, if -/
variable {tA tB : M Bool} {rest : List Expr}
def mAnd (a b : M Bool) : M Bool := M.bind a fun k => if k then b else M.pure false
def mOr (a b : M Bool) : M Bool := M.bind a fun k => if k then M.pure true else b
def mNot (a : M Bool) : M Bool := M.bind a fun k => M.pure (!k)
abbrev VW (ct : Nat → Addr) (W : WX) (X : Cx) (e : Expr) (m : M Bool) : Prop := PW X e (tG X.K ct W PB m)
theorem PW.conv {X : Cx} {e : Expr} {t t' : TT} (h : PW X e t) (i : ∀ σ H Q, t' σ H Q → t σ H Q) : PW X e t' := ⟨fun wh pins s σ H Q I q => h.run wh pins s σ H Q I (i σ H Q q)⟩
theorem and_core {K : PySem.W.Frag} {σ : L2.St} {H : Hp} {Q : Bool → Hp → Prop} (h : tG K ct W PB (mAnd tA tB) σ H Q) : tAnd (tG K ct W PB tA) (tG K ct W PB tB) σ H Q :=
  tG.step h fun k δ1 x G1 H1 r1 p1 h1 => by
    obtain rfl : x = k := p1
    cases x with
    | true => rw [if_pos rfl]; exact ⟨δ1, G1, r1, h1⟩
    | false => rw [if_neg Bool.false_ne_true]; exact h1 _ _ _ Ext.refl r1 rfl
theorem or_core {K : PySem.W.Frag} {σ : L2.St} {H : Hp} {Q : Bool → Hp → Prop} (h : tG K ct W PB (mOr tA tB) σ H Q) : tOr (tG K ct W PB tA) (tG K ct W PB tB) σ H Q :=
  tG.step h fun k δ1 x G1 H1 r1 p1 h1 => by
    obtain rfl : x = k := p1
    cases x with
    | true => rw [if_pos rfl]; exact h1 _ _ _ Ext.refl r1 rfl
    | false => rw [if_neg Bool.false_ne_true]; exact ⟨δ1, G1, r1, h1⟩
theorem vw_and1 (ha : VT ct W X a tA) : VW ct W X (.BoolOp .And [a] pos) tA := pw_and1 ha
theorem vw_or1 (ha : VT ct W X a tA) : VW ct W X (.BoolOp .Or [a] pos) tA := pw_or1 ha
theorem vw_and (ha : VT ct W X a tA) (hb : VW ct W X (.BoolOp .And (b :: rest) pos) tB) : VW ct W X (.BoolOp .And (a :: b :: rest) pos) (mAnd tA tB) := PW.conv (pw_and ha hb) fun _ _ _ h => and_core h
theorem vw_or (ha : VT ct W X a tA) (hb : VW ct W X (.BoolOp .Or (b :: rest) pos) tB) : VW ct W X (.BoolOp .Or (a :: b :: rest) pos) (mOr tA tB) := PW.conv (pw_or ha hb) fun _ _ _ h => or_core h
theorem vt_w (h : VW ct W X e tA) : VT ct W X e tA := h.pt
theorem vt_not (h : VT ct W X a tA) : VT ct W X (.UnaryOp .Not a pos) (mNot tA) := PT.conv (pt_not h) fun σ H Q h => tG.step h fun k δ1 x G1 H1 r1 p1 h1 => by
  obtain rfl : x = k := p1
  exact h1 _ _ _ Ext.refl r1 rfl
def mIf (t : M Bool) (a b : M D) : M D := M.bind t fun k => if k then a else b
theorem ve_if (hc : VT ct W X c tA) (ha : VE ct W X a ma) (hb : VE ct W X b mb) : VE ct W X (.IfExp c a b pos) (mIf tA ma mb) := PE.conv (pe_ifExp hc ha hb) fun σ H Q h => tG.step h fun k δ1 x G1 H1 r1 p1 h1 => by
  obtain rfl : x = k := p1
  cases x with
  | true => rw [if_pos rfl]; exact ⟨δ1, G1, r1, h1⟩
  | false => rw [if_neg Bool.false_ne_true]; exact ⟨δ1, G1, r1, h1⟩
end
end TW

set_option Elab.async false
set_option linter.all false
set_option maxRecDepth 100000
namespace TW
open PySem PySem.Spec PyProof.Rows L2

/-! ### fresh lists by values -/
section
variable {K : PySem.W.Frag} {ct : Nat → Addr} {W : WX} {δ : List C} {G H : Hp} {σ : L2.St} {Q : VK}
theorem fresh_not {p : Addr} (r : Rel K δ G σ H) (hp : H p = none) : ¬ OwA δ σ p := fun ⟨t, i, es, a1, a2⟩ => by
  obtain ⟨q, ws, b1, b2, _⟩ := r.own i t es a1
  rw [a2] at b1
  cases b1
  rw [hp] at b2
  cases b2
theorem Post.fresh {ds : List D} {vs : List V} {p : Addr} (h : Post K ct W (PN K) (.ok (ds, δ)) δ G H σ Q) (r : Rel K δ G σ H) (hp : H p = none) (hl : ds.length ≤ sizeLine) (ha : RpAll K G vs ds) : Q (.ref p) (upd H p (.lst vs)) :=
  Post.done h r (Grow.alloc r.same r.nt hp) ⟨p, vs, rfl, hp, upd_same, Same.free r.same hp, fresh_not r hp, hl, ha⟩
end

/-! ### and, or as values -/
def mAndV (a b : M D) : M D := M.bind a fun d => match d with
  | .bool true => b
  | .bool false => M.pure (.bool false)
  | _ => fun _ => .bad
def mOrV (a b : M D) : M D := M.bind a fun d => match d with
  | .bool true => M.pure (.bool true)
  | .bool false => b
  | _ => fun _ => .bad
def mNotV (a : M D) : M D := M.bind a fun d => match d with
  | .bool b => M.pure (.bool (!b))
  | _ => fun _ => .bad
section
variable {ct : Nat → Addr} {W : WX} {X : Cx} {e a b : Expr} {rest : List Expr} {m ma mb : M D} {pos : Pos}
theorem ve_one {op} (h : VE ct W X a m) : VE ct W X (.BoolOp op [a] pos) m := pe_one h
theorem ve_and (ha : VE ct W X a ma) (hb : VE ct W X (.BoolOp .And (b :: rest) pos) mb) : VE ct W X (.BoolOp .And (a :: b :: rest) pos) (mAndV ma mb) := PE.conv (pe_and ha hb) fun σ H Q h => tG.step h fun d δ1 x G1 H1 r1 p1 h1 => by
  cases d <;> first
    | exact h1.elim
    | skip
  rename_i k
  refine ⟨k, Rp.ofBl p1, ?_⟩
  cases k with
  | true => rw [if_pos rfl]; exact ⟨δ1, G1, r1, h1⟩
  | false => rw [if_neg Bool.false_ne_true]; exact h1 _ _ _ Ext.refl r1 (.bl _)
theorem ve_or (ha : VE ct W X a ma) (hb : VE ct W X (.BoolOp .Or (b :: rest) pos) mb) : VE ct W X (.BoolOp .Or (a :: b :: rest) pos) (mOrV ma mb) := PE.conv (pe_or ha hb) fun σ H Q h => tG.step h fun d δ1 x G1 H1 r1 p1 h1 => by
  cases d <;> first
    | exact h1.elim
    | skip
  rename_i k
  refine ⟨k, Rp.ofBl p1, ?_⟩
  cases k with
  | true => rw [if_pos rfl]; exact h1 _ _ _ Ext.refl r1 (.bl _)
  | false => rw [if_neg Bool.false_ne_true]; exact ⟨δ1, G1, r1, h1⟩
theorem ve_not (ha : VE ct W X a ma) : VE ct W X (.UnaryOp .Not a pos) (mNotV ma) := PE.conv (pe_not ha) fun σ H Q h => tG.step h fun d δ1 x G1 H1 r1 p1 h1 => by
  cases d <;> first
    | exact h1.elim
    | exact ⟨_, Rp.ofBl p1, h1 _ _ _ Ext.refl r1 (.bl _)⟩
end

/-! ### built-in functions of one thing -/
def R1D (K : PySem.W.Frag) (r : List V → Hp → VK → Prop) (g : D → R D) : Prop := ∀ (δ : List C) (σ : L2.St) (G H : Hp) (x : V) (d z : D) (Q : VK), Rel K δ G σ H → RpV K δ σ G H x d → g d = .ok z →
  (∀ v G' H', Grow G H G' H' → Rp K G' v z → Q v H') → r [x] H Q
def R1N (K : PySem.W.Frag) (r : List V → Hp → VK → Prop) (g : D → R (List D)) : Prop := ∀ (δ : List C) (σ : L2.St) (G H : Hp) (x : V) (d : D) (z : List D) (Q : VK), Rel K δ G σ H → RpV K δ σ G H x d → g d = .ok z →
  (∀ p vs, H p = none → z.length ≤ sizeLine → RpAll K G vs z → Q (.ref p) (upd H p (.lst vs))) → r [x] H Q
def mOp1N (g : D → R (List D)) (ma : M D) : M (List D) := M.bind ma fun d => M.only (g d)
section
variable {ct : Nat → Addr} {W : WX} {X : Cx} {e a b : Expr} {m ma mb : M D} {p pos : Pos} {x : Str} {id T : String} {r : List V → Hp → VK → Prop} {g : D → R D} {gN : D → R (List D)}
theorem call1_core {K : PySem.W.Frag} (hr : R1D K r g) {σ : L2.St} {H : Hp} {Q : VK} (h : tG K ct W (PD K) (mOp1 g ma) σ H Q) : tCB r (tCons (tG K ct W (PV K) ma) tNil) σ H Q :=
  tG.step h fun d δ1 x G1 H1 r1 p1 h1 => by
    obtain ⟨z, ez, h3⟩ := Post.only h1
    exact hr δ1 σ G1 H1 x d z Q r1 p1 ez fun v G' H' g rp => Post.done h3 r1 g rp
theorem call1N_core {K : PySem.W.Frag} (hr : R1N K r gN) {σ : L2.St} {H : Hp} {Q : VK} (h : tG K ct W (PN K) (mOp1N gN ma) σ H Q) : tCB r (tCons (tG K ct W (PV K) ma) tNil) σ H Q :=
  tG.step h fun d δ1 x G1 H1 r1 p1 h1 => by
    obtain ⟨z, ez, h3⟩ := Post.only h1
    exact hr δ1 σ G1 H1 x d z Q r1 p1 ez fun p vs hp hl ha => Post.fresh h3 r1 hp hl ha
theorem ve_callB (hc : CallR X (.builtin id) r) (hr : R1D X.K r g) (hg : Gl X x) (hm : X.mg x = none) (hv : bootBuiltins x = some (.builtin id)) (ha : VV ct W X a ma)
    (hs : starEach [a] X.env = (false, eval a X.env) :: starEach [] X.env := by rfl) (hn : x ≠ "__name__" := by decide) (hdb : (x == ("__debug__" : Str)) = false := by decide) : VE ct W X (.Call (.Name x p) [a] [] pos) (mOp1 g ma) :=
  PE.conv (pe_callB hc hg hm hv (pa_cons ha pa_nil hs) hn hdb hs) fun _ _ _ h => call1_core hr h
theorem ve_callTy (hc : CallR X (.type T) r) (hr : R1D X.K r g) (hg : Gl X x) (hm : X.mg x = none) (hv : bootBuiltins x = some (.type T)) (ha : VV ct W X a ma)
    (hs : starEach [a] X.env = (false, eval a X.env) :: starEach [] X.env := by rfl) (hn : x ≠ "__name__" := by decide) (hdb : (x == ("__debug__" : Str)) = false := by decide) : VE ct W X (.Call (.Name x p) [a] [] pos) (mOp1 g ma) :=
  PE.conv (pe_callTy hc hg hm hv (pa_cons ha pa_nil hs) hn hdb hs) fun _ _ _ h => call1_core hr h
theorem vn_callB (hc : CallR X (.builtin id) r) (hr : R1N X.K r gN) (hg : Gl X x) (hm : X.mg x = none) (hv : bootBuiltins x = some (.builtin id)) (ha : VV ct W X a ma)
    (hs : starEach [a] X.env = (false, eval a X.env) :: starEach [] X.env := by rfl) (hn : x ≠ "__name__" := by decide) (hdb : (x == ("__debug__" : Str)) = false := by decide) : VN ct W X (.Call (.Name x p) [a] [] pos) (mOp1N gN ma) :=
  PE.conv (pe_callB hc hg hm hv (pa_cons ha pa_nil hs) hn hdb hs) fun _ _ _ h => call1N_core hr h
theorem vn_callTy (hc : CallR X (.type T) r) (hr : R1N X.K r gN) (hg : Gl X x) (hm : X.mg x = none) (hv : bootBuiltins x = some (.type T)) (ha : VV ct W X a ma)
    (hs : starEach [a] X.env = (false, eval a X.env) :: starEach [] X.env := by rfl) (hn : x ≠ "__name__" := by decide) (hdb : (x == ("__debug__" : Str)) = false := by decide) : VN ct W X (.Call (.Name x p) [a] [] pos) (mOp1N gN ma) :=
  PE.conv (pe_callTy hc hg hm hv (pa_cons ha pa_nil hs) hn hdb hs) fun _ _ _ h => call1N_core hr h
end

/-! ### which -/
def gLen : D → R D
  | .list ds => .ok (.int ds.length)
  | .tuple ds => .ok (.int ds.length)
  | .dict [(.none, .list ds)] => .ok (.int ds.length)
  | .str x => if szOk x.length then .ok (.int x.length) else .bad
  | _ => .bad
def boolsD : List D → Option (List Bool)
  | [] => some []
  | .bool b :: ds => (boolsD ds).map (b :: ·)
  | _ :: _ => none
def intsD : List D → Option (List Int)
  | [] => some []
  | .int i :: ds => (intsD ds).map (i :: ·)
  | _ :: _ => none
def gAll : D → R D
  | .list ds => match boolsD ds with | some bs => .ok (.bool (bs.all id)) | none => .bad
  | _ => .bad
def gAny : D → R D
  | .list ds => match boolsD ds with | some bs => .ok (.bool (bs.any id)) | none => .bad
  | _ => .bad
def gSum : D → R D
  | .list ds => match intsD ds with | some is => .ok (.int is.sum) | none => .bad
  | _ => .bad
def gTuple : D → R D
  | .list ds => .ok (.tuple ds)
  | .tuple ds => .ok (.tuple ds)
  | _ => .bad
def gList : D → R (List D)
  | .list ds => .ok ds
  | .tuple ds => .ok ds
  | _ => .bad
section
variable {K : PySem.W.Frag} {X : Cx}
theorem r1_len : R1D K (fun xs H Q => ∃ x n, xs = [x] ∧ LenV K x H n ∧ Q (.int n) H) gLen := fun δ σ G H x d z Q r hx hz q => by
  unfold gLen at hz
  split at hz
  · cases hz
    obtain ⟨a, xs, e1, h1, h2, h3⟩ := hx.lst r.same
    subst e1
    exact ⟨_, _, rfl, .inl ⟨xs, h1, (RpAll.length h3).symm⟩, q _ G H (Grow.refl r) (.int _)⟩
  · cases hz
    obtain ⟨a, xs, e1, h1, h2, h3⟩ := hx.tup r.same
    subst e1
    exact ⟨_, _, rfl, .inr ⟨xs, h1, (RpAll.length h3).symm⟩, q _ G H (Grow.refl r) (.int _)⟩
  · cases hz
    obtain ⟨a, xs, e1, h1, h2, h3⟩ := hx.scr r.same
    subst e1
    exact ⟨_, _, rfl, .inl ⟨xs, h1, (RpAll.length h3).symm⟩, q _ G H (Grow.refl r) (.int _)⟩
  · split at hz
    · rename_i hk
      cases hz
      have := hx.str
      subst this
      exact ⟨_, _, rfl, ⟨szOk_le hk, rfl⟩, q _ G H (Grow.refl r) (.int _)⟩
    · cases hz
  · cases hz
theorem boolsRp {G : Hp} : ∀ {vs : List V} {ds : List D} {bs : List Bool}, RpAll K G vs ds → boolsD ds = some bs → vs = bs.map V.bl
  | _, _, _, .nil, e => by cases e; rfl
  | _, d :: ds, bs, .cons h t, e => by
    cases d <;> first
      | (simp [boolsD] at e; done)
      | skip
    rename_i b
    simp only [boolsD] at e
    cases e2 : boolsD ds with
    | none => rw [e2] at e; cases e
    | some cs =>
      rw [e2] at e
      cases e
      rw [h.ofBl, boolsRp t e2]
      rfl
theorem intsRp {G : Hp} : ∀ {vs : List V} {ds : List D} {bs : List Int}, RpAll K G vs ds → intsD ds = some bs → vs = bs.map V.int
  | _, _, _, .nil, e => by cases e; rfl
  | _, d :: ds, bs, .cons h t, e => by
    cases d <;> first
      | (simp [intsD] at e; done)
      | skip
    rename_i b
    simp only [intsD] at e
    cases e2 : intsD ds with
    | none => rw [e2] at e; cases e
    | some cs =>
      rw [e2] at e
      cases e
      rw [h.ofInt, intsRp t e2]
      rfl
theorem r1_all : R1D K (rAll K) gAll := fun δ σ G H x d z Q r hx hz q => by
  unfold gAll at hz
  split at hz
  · split at hz
    · rename_i e
      cases hz
      obtain ⟨a, xs, e1, h1, h2, h3⟩ := hx.lst r.same
      have := boolsRp h3 e
      subst this
      subst e1
      exact ⟨a, _, rfl, h1, q _ G H (Grow.refl r) (.bl _)⟩
    · cases hz
  · cases hz
theorem r1_any : R1D K (rAny K) gAny := fun δ σ G H x d z Q r hx hz q => by
  unfold gAny at hz
  split at hz
  · split at hz
    · rename_i e
      cases hz
      obtain ⟨a, xs, e1, h1, h2, h3⟩ := hx.lst r.same
      have := boolsRp h3 e
      subst this
      subst e1
      exact ⟨a, _, rfl, h1, q _ G H (Grow.refl r) (.bl _)⟩
    · cases hz
  · cases hz
theorem r1_sum : R1D K (rSum K) gSum := fun δ σ G H x d z Q r hx hz q => by
  unfold gSum at hz
  split at hz
  · split at hz
    · rename_i e
      cases hz
      obtain ⟨a, xs, e1, h1, h2, h3⟩ := hx.lst r.same
      have := intsRp h3 e
      subst this
      subst e1
      exact ⟨a, _, rfl, h1, q _ G H (Grow.refl r) (.int _)⟩
    · cases hz
  · cases hz
theorem r1_tuple : R1D K (fun xs H Q => ∃ p ys, xs = [.ref p] ∧ ((SqL K H p ys ∧ ∀ l, H l = none → Q (.ref l) (upd H l (.tup ys))) ∨ (SqT K H p ys ∧ Q (.ref p) H))) gTuple := fun δ σ G H x d z Q r hx hz q => by
  unfold gTuple at hz
  split at hz
  · cases hz
    obtain ⟨a, xs, e1, h1, h2, h3⟩ := hx.lst r.same
    subst e1
    exact ⟨a, xs, rfl, .inl ⟨h1, fun l hl => q _ _ _ (Grow.laid r.same r.nt hl nt_tup) (.tup (SqT.of upd_same) h2 (RpAll.mono (same_upd (Same.free r.same hl)) h3))⟩⟩
  · cases hz
    obtain ⟨a, xs, e1, h1, h2, h3⟩ := hx.tup r.same
    subst e1
    refine ⟨a, xs, rfl, .inr ⟨h1, q _ G H (Grow.refl r) ?_⟩⟩
    rcases hx with hx | ⟨_, _, _, _, h2, _⟩
    · exact hx
    · cases h2
  · cases hz
theorem r1_list : R1N K (fun xs H Q => ∃ p ys, xs = [.ref p] ∧ (SqL K H p ys ∨ SqT K H p ys) ∧ ∀ l, H l = none → Q (.ref l) (upd H l (.lst ys))) gList := fun δ σ G H x d z Q r hx hz q => by
  unfold gList at hz
  split at hz
  · cases hz
    obtain ⟨a, xs, e1, h1, h2, h3⟩ := hx.lst r.same
    subst e1
    exact ⟨a, xs, rfl, .inl h1, fun l hl => q l xs hl h2 h3⟩
  · cases hz
    obtain ⟨a, xs, e1, h1, h2, h3⟩ := hx.tup r.same
    subst e1
    exact ⟨a, xs, rfl, .inr h1, fun l hl => q l xs hl h2 h3⟩
  · cases hz
end

/-! ### sorted, min, <, of data -/
def allAlike (ds : List D) : Bool := ds.all fun d => ds.all fun e => PySem.W.alike d e
def sortKind (ds : List D) : Bool := (ds.all fun d => match d with | .tuple (_ :: _) => true | _ => false) || ds.all fun d => match d with | .none => false | .tuple _ => false | _ => true
def shallow (ds : List D) : Bool := ds.all fun d => decide (d.depth ≤ 32) && SeqAt.shaped d
def sortD (ds : List D) : List D := ds.mergeSort (PySem.W.dataLe false id)
def gSorted : D → R (List D)
  | .list ds => if allAlike ds && (sortKind ds && shallow ds) then .ok (sortD ds) else .bad
  | _ => .bad
theorem allAlike_of {ds : List D} (h : allAlike ds = true) : PySem.W.AllAlike ds := fun d hd e he => by
  have h1 := List.all_eq_true.mp h d hd
  exact List.all_eq_true.mp h1 e he
theorem sortKind_of {ds : List D} (h : sortKind ds = true) : PySem.W.Sortable ds := by
  unfold sortKind at h
  rw [Bool.or_eq_true] at h
  rcases h with h | h
  · refine .inl fun d hd => ?_
    have h1 := List.all_eq_true.mp h d hd
    split at h1
    · exact ⟨_, _, rfl⟩
    · cases h1
  · refine .inr fun d hd => ?_
    have h1 := List.all_eq_true.mp h d hd
    split at h1
    · cases h1
    · cases h1
    · rename_i a b
      exact ⟨fun e => a e, fun xs e => b xs e⟩
section
variable {X : Cx}
/-- sorted of a list of data, by values: what the items stand for stays -/
def rSortedA (K : PySem.W.Frag) : List V → Hp → VK → Prop := fun vs H Q => ∃ (a : Addr) (xs : List V) (ds : List D) (P : V → D → Prop), vs = [.ref a] ∧ SqL K H a xs ∧ PySem.W.EachIs P xs ds ∧ (∀ x d, P x d → Dp K H x d) ∧
  PySem.W.AllAlike ds ∧ PySem.W.Sortable ds ∧ (∀ d ∈ ds, d.depth ≤ 32) ∧ ds.length ≤ sizeLine ∧ ∀ p ys, H p = none → PySem.W.EachIs P ys (sortD ds) → Q (.ref p) (upd H p (.lst ys))
theorem each_vals {P : V → D → Prop} : ∀ {xs : List V} {us : List Value} {ds : List D}, PySem.W.EachIs P xs ds → Vals xs us → PySem.W.EachIs (fun u d => ∃ x, RelV x u ∧ P x d) us ds
  | _, _, _, .nil, .nil => .nil
  | _, _, _, .cons h t, .cons r s => .cons ⟨_, r, h⟩ (each_vals t s)
theorem vals_each {P : V → D → Prop} : ∀ {us : List Value} {ds : List D}, PySem.W.EachIs (fun u d => ∃ x, RelV x u ∧ P x d) us ds → ∃ ys, Vals ys us ∧ PySem.W.EachIs P ys ds
  | _, _, .nil => ⟨[], .nil, .nil⟩
  | _, _, .cons ⟨x, r, h⟩ t => by
    obtain ⟨ys, a, b⟩ := vals_each t
    exact ⟨x :: ys, .cons r a, .cons h b⟩
theorem call_sortedA (hu : X.A.units + 64 < cLine) : CallR X (.builtin "sorted") (rSortedA X.K) := by
  intro pins s σ H vs us Q I r h
  obtain ⟨a, xs, ds, P, rfl, hs, he, hd, hal, hk, hdep, hL, q⟩ := h
  obtain ⟨its, rv, hl, hz⟩ := I.list hs
  rw [Vals.ref1 r]
  have ev := each_vals he rv
  have hlen : its.length = ds.length := ev.length
  refine PySem.W.sorted_data (enc := id) (bs := ds) (R := fun u d => ∃ x, RelV x u ∧ P x d) hl.isList ev (ev.mono fun u d ⟨x, rx, p⟩ => Dp.reads I d x u (hd x d p) rx) (by rw [List.map_id]; exact hal) (by rw [List.map_id]; exact hk) hL
    (fun d hm => by have := hdep d hm; show X.A.units + 2 + d.depth < cLine; omega) fun out ho eo => ?_
  obtain ⟨ys, vy, ey⟩ := vals_each eo
  obtain ⟨ep, he'⟩ := PyProof.Rows.sortedAll_at s.heap its out.toArray
  exact ⟨.ref _, upd H (s.heap.objs.size + 1) (.lst ys), I.laid (t' := s.toks) (fun _ _ => PyProof.Rows.sortedAll_old) (Nat.le_succ _) ⟨by rw [vy.length, ho]; exact hL, out, ep, vy, he'⟩, rfl, q _ ys (I.hok.fresh (Nat.le_succ _)) ey⟩
theorem each_rp {K : PySem.W.Frag} {G : Hp} : ∀ {vs : List V} {ds : List D}, RpAll K G vs ds → PySem.W.EachIs (Rp K G) vs ds
  | _, _, .nil => .nil
  | _, _, .cons h t => .cons h (each_rp t)
theorem rp_each {K : PySem.W.Frag} {G : Hp} : ∀ {vs : List V} {ds : List D}, PySem.W.EachIs (Rp K G) vs ds → RpAll K G vs ds
  | _, _, .nil => .nil
  | _, _, .cons h t => .cons h (rp_each t)
theorem each_with {P : V → D → Prop} {S : D → Prop} : ∀ {vs : List V} {ds : List D}, PySem.W.EachIs P vs ds → (∀ d ∈ ds, S d) → PySem.W.EachIs (fun v d => P v d ∧ S d) vs ds
  | _, _, .nil, _ => .nil
  | _, _, .cons h t, g => .cons ⟨h, g _ List.mem_cons_self⟩ (each_with t fun d hd => g d (List.mem_cons_of_mem _ hd))
theorem r1_sorted {K : PySem.W.Frag} : R1N K (rSortedA K) gSorted := fun δ σ G H x d z Q r hx hz q => by
  unfold gSorted at hz
  split at hz
  · split at hz
    · rename_i hk
      rw [Bool.and_eq_true, Bool.and_eq_true] at hk
      obtain ⟨k1, k2, k3⟩ := hk
      cases hz
      obtain ⟨a, xs, e1, h1, h2, h3⟩ := hx.lst r.same
      subst e1
      have sh : ∀ d ∈ _, d.depth ≤ 32 ∧ SeqAt.shaped d = true := fun d hd => by
        have := List.all_eq_true.mp k3 d hd
        rw [Bool.and_eq_true] at this
        exact ⟨of_decide_eq_true this.1, this.2⟩
      refine ⟨a, xs, _, fun v d => Rp K G v d ∧ SeqAt.shaped d = true, rfl, h1, each_with (each_rp h3) (fun d hd => (sh d hd).2), fun x d p => (p.1.mono r.same).dp (shaped_noDict p.2), allAlike_of k1, sortKind_of k2, fun d hd => (sh d hd).1, h2, fun p ys hp e => ?_⟩
      exact q p ys hp (by unfold sortD; rw [List.length_mergeSort]; exact h2) (rp_each (e.mono fun _ _ p => p.1))
    · cases hz
  · cases hz
/-- a < b and its like, of data that are alike -/
def rLtD (K : PySem.W.Frag) (f : D → D → Bool) : R2 := fun x y H Q => ∃ d e, Dp K H x d ∧ Dp K H y e ∧ PySem.W.alike d e = true ∧ d ≠ .none ∧ d.depth ≤ 60 ∧ Q (.bl (f d e)) H
theorem min_dep {A : Around} {d e : D} (hu : A.units + 64 < cLine) (h : d.depth ≤ 60) : A.units + min d.depth e.depth < cLine := by
  have := Nat.min_le_left d.depth e.depth
  omega
theorem op_ltD (hu : X.A.units + 64 < cLine) : OpR X (compareOp .Lt) (rLtD X.K PySem.W.dataLt) := by
  intro pins s σ H x y v u Q I rx ry h
  obtain ⟨d, e, hd, he, ha, hn, hp, q⟩ := h
  obtain ⟨as, r1⟩ := Dp.reads I d x v hd rx
  obtain ⟨bs, r2⟩ := Dp.reads I e y u he ry
  exact PySem.W.lt_data r1 r2 ha hn (min_dep hu hp) ⟨.bl _, H, I, rfl, q⟩
theorem op_gtD (hu : X.A.units + 64 < cLine) : OpR X (compareOp .Gt) (rLtD X.K fun d e => PySem.W.dataLt e d) := by
  intro pins s σ H x y v u Q I rx ry h
  obtain ⟨d, e, hd, he, ha, hn, hp, q⟩ := h
  obtain ⟨as, r1⟩ := Dp.reads I d x v hd rx
  obtain ⟨bs, r2⟩ := Dp.reads I e y u he ry
  exact PySem.W.gt_data r1 r2 ha hn (min_dep hu hp) ⟨.bl _, H, I, rfl, q⟩
theorem op_leD (hu : X.A.units + 64 < cLine) : OpR X (compareOp .LtE) (rLtD X.K fun d e => !PySem.W.dataLt e d) := by
  intro pins s σ H x y v u Q I rx ry h
  obtain ⟨d, e, hd, he, ha, hn, hp, q⟩ := h
  obtain ⟨as, r1⟩ := Dp.reads I d x v hd rx
  obtain ⟨bs, r2⟩ := Dp.reads I e y u he ry
  exact PySem.W.le_data r1 r2 ha hn (min_dep hu hp) ⟨.bl _, H, I, rfl, q⟩
theorem op_geD (hu : X.A.units + 64 < cLine) : OpR X (compareOp .GtE) (rLtD X.K fun d e => !PySem.W.dataLt d e) := by
  intro pins s σ H x y v u Q I rx ry h
  obtain ⟨d, e, hd, he, ha, hn, hp, q⟩ := h
  obtain ⟨as, r1⟩ := Dp.reads I d x v hd rx
  obtain ⟨bs, r2⟩ := Dp.reads I e y u he ry
  exact PySem.W.ge_data r1 r2 ha hn (min_dep hu hp) ⟨.bl _, H, I, rfl, q⟩
def gOrd (f : D → D → Bool) : D → D → R D := fun d e => if (SeqAt.shaped d && SeqAt.shaped e) && (PySem.W.alike d e && (!isNon d && decide (d.depth ≤ 60))) then .ok (.bool (f d e)) else .bad
theorem r2_ord {K : PySem.W.Frag} {f : D → D → Bool} : R2D K (rLtD K f) (gOrd f) := fun δ σ G H x y d e z Q r hx hy hz q => by
  unfold gOrd at hz
  split at hz
  · rename_i hk
    simp only [Bool.and_eq_true, Bool.not_eq_true', decide_eq_true_eq] at hk
    cases hz
    refine ⟨d, e, hx.dp r.same (shaped_noDict hk.1.1), hy.dp r.same (shaped_noDict hk.1.2), hk.2.1, fun e => ?_, hk.2.2.2, q _ G H (Grow.refl r) (.bl _)⟩
    subst e
    cases hk.2.2.1
  · cases hz
end
end TW

set_option Elab.async false
set_option linter.all false
set_option maxRecDepth 100000
namespace TW
open PySem PySem.Spec PyProof.Rows L2

/-! ### isinstance -/
def tyN : D → String
  | .none => "NoneType"
  | .bool _ => "bool"
  | .int _ => "int"
  | .str _ => "str"
  | .list _ => "list"
  | .tuple _ => "tuple"
  | .dict _ => "dict"
/-- whether a thing is of the built-in class T -/
def isiD (T : String) (d : D) : Bool := tyN d == T || (tyN d == "bool" && T == "int")
def plainD : D → Bool
  | .dict (_ :: _) => false
  | _ => true
def gIsi (T : String) : D → R D := fun d => if plainD d then .ok (.bool (isiD T d)) else .bad
def gIsi2 (T U : String) : D → R D := fun d => if plainD d then .ok (.bool (isiD T d || isiD U d)) else .bad
def tyNs : List String := ["NoneType", "bool", "int", "str", "list", "tuple", "dict"]
theorem tyN_mem (d : D) : tyN d ∈ tyNs := by cases d <;> simp [tyN, tyNs]
def TyOk (T : String) : Prop := ∀ n ∈ tyNs, kitB n T = some (n == T || (n == "bool" && T == "int"))
theorem TyOk.at {T : String} (h : TyOk T) (d : D) : kitB (tyN d) T = some (isiD T d) := h _ (tyN_mem d)
theorem ty_int : TyOk "int" := by unfold TyOk; decide +kernel
theorem ty_bool : TyOk "bool" := by unfold TyOk; decide +kernel
theorem ty_tuple : TyOk "tuple" := by unfold TyOk; decide +kernel
theorem ty_list : TyOk "list" := by unfold TyOk; decide +kernel
theorem ty_str : TyOk "str" := by unfold TyOk; decide +kernel
section
variable {K : PySem.W.Frag} {ct : Nat → Addr} {W : WX} {X : Cx} {a : Expr} {ma mb : M D} {δ : List C} {σ : L2.St} {G H : Hp} {p q pos : Pos} {T U : String}
theorem sql_ty {a : Addr} {xs : List V} (h : SqL K H a xs) : TyX K H (.ref a) (.type "list") := by
  rcases h with (h | ⟨o, h⟩) | ⟨o, its, n, h1, h2, _⟩
  · exact .base (.lst h)
  · exact .base (.frz h)
  · exact .kList h1 h2
theorem sqt_ty {a : Addr} {xs : List V} (h : SqT K H a xs) : TyX K H (.ref a) (.type "tuple") := by
  rcases h with (h | ⟨o, h⟩) | ⟨o, its, n, h1, h2, _⟩
  · exact .base (.tup h)
  · exact .fTuple h
  · exact .kTuple h1 h2
theorem RpV.ty {v : V} {d : D} (s : Same G H) (n : plainD d = true) (h : RpV K δ σ G H v d) : TyX K H v (.type (tyN d)) := by
  rcases h with h | ⟨p, vs, ds', h1, h2, h3, h4, h5, _⟩
  · cases h with
    | non => exact .base .non
    | bl b => exact .base (.bl b)
    | int i => exact .base (.int i)
    | str x => exact .base (.str x)
    | lst h _ _ => exact .base (.lst (s _ _ h))
    | scr h _ _ => simp [plainD] at n
    | tup h _ _ => exact sqt_ty (Same.sqt s h)
    | dct h => exact .base (.dK (s _ _ h))
  · subst h1; subst h2
    exact .base (.lst h3)
theorem ve_isi (ht : TyOk T) (hg : Gl X "isinstance") (hm : X.mg "isinstance" = none) (hT : PE X a (tG X.K ct W (PV X.K) ma)) {b : Expr} (hb : PE X b (tC (.ty T)))
    (hs : starEach [a, b] X.env = (false, eval a X.env) :: starEach [b] X.env := by rfl) (hs2 : starEach [b] X.env = (false, eval b X.env) :: starEach [] X.env := by rfl) (hpl : (backTo pos (starEach [b] X.env)).any (·.1) = false := by rfl) :
    VE ct W X (.Call (.Name "isinstance" p) [a, b] [] pos) (mOp1 (gIsi T) ma) :=
  PE.conv (pe_callB call_isi hg hm PyProof.Rows.boot_isinstance (pa_cons hT (pa_cons hb pa_nil hs2) hs) (by decide) (by decide) hs hpl) fun σ H Q h => tG.step h fun d δ1 x G1 H1 r1 p1 h1 => by
    obtain ⟨z, ez, h3⟩ := Post.only h1
    unfold gIsi at ez
    split at ez
    case isFalse => cases ez
    rename_i hpl
    cases ez
    exact ⟨x, .ty T, _, _, _, rfl, .ty T, p1.ty r1.same hpl, kit_ty (ht.at d), Post.done h3 r1 (Grow.refl r1) (.bl _)⟩
theorem ve_isi2 {k : Nat} {tpos : Pos} (ht : TyOk T) (hu : TyOk U) (hg : Gl X "isinstance") (hm : X.mg "isinstance" = none) (hT : PE X a (tG X.K ct W (PV X.K) ma)) {b c : Expr} (hb : PE X b (tC (.ty T))) (hc : PE X c (tC (.ty U)))
    (hs : starEach [a, .Tuple [b, c] k tpos] X.env = (false, eval a X.env) :: starEach [.Tuple [b, c] k tpos] X.env := by rfl) (hs2 : starEach [.Tuple [b, c] k tpos] X.env = (false, eval (.Tuple [b, c] k tpos) X.env) :: starEach [] X.env := by rfl)
    (hs3 : starEach [b, c] X.env = (false, eval b X.env) :: starEach [c] X.env := by rfl) (hs4 : starEach [c] X.env = (false, eval c X.env) :: starEach [] X.env := by rfl)
    (hpl : (backTo pos (starEach [.Tuple [b, c] k tpos] X.env)).any (·.1) = false := by rfl) :
    VE ct W X (.Call (.Name "isinstance" p) [a, .Tuple [b, c] k tpos] [] pos) (mOp1 (gIsi2 T U) ma) :=
  PE.conv (pe_callB call_isiT hg hm PyProof.Rows.boot_isinstance (pa_cons hT (pa_cons (pe_tup (pa_cons hb (pa_cons hc pa_nil hs4) hs3)) pa_nil hs2) hs) (by decide) (by decide) hs hpl) fun σ H Q h => tG.step h fun d δ1 x G1 H1 r1 p1 h1 => by
    obtain ⟨z, ez, h3⟩ := Post.only h1
    unfold gIsi2 at ez
    split at ez
    case isFalse => cases ez
    rename_i hpl
    cases ez
    refine ⟨by show 2 ≤ sizeLine; rw [sizeLine_eq]; omega, fun tp htp => ?_⟩
    have g := Grow.alloc r1.same r1.nt htp (o := .tup [V.ty T, V.ty U])
    refine ⟨x, tp, [V.ty T, V.ty U], _, [.type T, .type U], isiD T d || isiD U d, rfl, upd_same, .cons (.ty T) (.cons (.ty U) .nil), RpV.ty (g.rel r1).same hpl (RpV.at g.ext (g.rel r1) p1), ?_, Post.done h3 r1 g (.bl _)⟩
    refine kitAny_cons (kit_ty (ht.at d)) (fun e => ?_) (fun e => by rw [e]; rfl)
    refine kitAny_cons (kit_ty (hu.at d)) (fun e2 => by rw [e, e2]; rfl) (fun e2 => by rw [e, e2]; rfl)
end

/-! ### max, min of two ints -/
def gMax2 : D → D → R D
  | .int i, .int j => .ok (.int (if j > i then j else i))
  | _, _ => .bad
def gMin2 : D → D → R D
  | .int i, .int j => .ok (.int (if j < i then j else i))
  | _, _ => .bad
section
variable {K : PySem.W.Frag} {ct : Nat → Addr} {W : WX} {X : Cx} {a b : Expr} {ma mb : M D} {p q pos : Pos}
theorem ve_max2 (hc : X.calm = true) (hg : Gl X "max") (hm : X.mg "max" = none) (ha : VE ct W X a ma) (hb : VV ct W X b mb)
    (hs : starEach [a, b] X.env = (false, eval a X.env) :: starEach [b] X.env := by rfl) (hs2 : starEach [b] X.env = (false, eval b X.env) :: starEach [] X.env := by rfl) (hpl : (backTo pos (starEach [b] X.env)).any (·.1) = false := by rfl) :
    VE ct W X (.Call (.Name "max" p) [a, b] [] pos) (mOp2 gMax2 ma mb) :=
  PE.conv (pe_callB (call_max2 hc) hg hm PyProof.Rows.boot_max (pa_cons ha (pa_cons hb pa_nil hs2) hs) (by decide) (by decide) hs hpl) fun σ H Q h => tG.step h fun d δ1 x G1 H1 r1 p1 h1 => ⟨δ1, G1, r1, TW.step r1 h1 fun e δ2 y G2 H2 _ x2 r2 p2 h2 => by
    obtain ⟨z, ez, h3⟩ := Post.only h2
    unfold gMax2 at ez
    split at ez
    · cases ez
      have e1 := Rp.ofInt p1
      have e2 := RpV.int p2
      subst e1; subst e2
      exact ⟨_, _, rfl, Post.done h3 r2 (Grow.refl r2) (.int _)⟩
    · cases ez⟩
theorem ve_min2 (hc : X.calm = true) (hg : Gl X "min") (hm : X.mg "min" = none) (ha : VE ct W X a ma) (hb : VV ct W X b mb)
    (hs : starEach [a, b] X.env = (false, eval a X.env) :: starEach [b] X.env := by rfl) (hs2 : starEach [b] X.env = (false, eval b X.env) :: starEach [] X.env := by rfl) (hpl : (backTo pos (starEach [b] X.env)).any (·.1) = false := by rfl) :
    VE ct W X (.Call (.Name "min" p) [a, b] [] pos) (mOp2 gMin2 ma mb) :=
  PE.conv (pe_callB (call_min2 hc) hg hm PyProof.Rows.boot_min (pa_cons ha (pa_cons hb pa_nil hs2) hs) (by decide) (by decide) hs hpl) fun σ H Q h => tG.step h fun d δ1 x G1 H1 r1 p1 h1 => ⟨δ1, G1, r1, TW.step r1 h1 fun e δ2 y G2 H2 _ x2 r2 p2 h2 => by
    obtain ⟨z, ez, h3⟩ := Post.only h2
    unfold gMin2 at ez
    split at ez
    · cases ez
      have e1 := Rp.ofInt p1
      have e2 := RpV.int p2
      subst e1; subst e2
      exact ⟨_, _, rfl, Post.done h3 r2 (Grow.refl r2) (.int _)⟩
    · cases ez⟩
end

/-! ### slices -/
abbrev MO := M (Option Int)
def PO' : Hp → Hp → Hp → List C → L2.St → Option Int → Option Int → Prop := fun _ _ _ _ _ v d => v = d
instance : Anti PO' := ⟨fun _ h => h⟩
abbrev VO (ct : Nat → Addr) (W : WX) (X : Cx) (e : Option Expr) (m : MO) : Prop := PO X e (tG X.K ct W PO' m)
theorem PO.conv {X : Cx} {e : Option Expr} {t t' : TO} (h : PO X e t) (i : ∀ σ H Q, t' σ H Q → t σ H Q) : PO X e t' := ⟨fun pins s σ H Q I q => h.run pins s σ H Q I (i σ H Q q)⟩
def mPart (m : M D) : MO := M.bind m fun d => match d with
  | .int i => M.pure (some i)
  | _ => fun _ => .bad
def mNoPart : MO := M.pure none
section
variable {ct : Nat → Addr} {W : WX} {X : Cx} {a e : Expr} {m ma mb : M D} {p p2 q pos : Pos} {lo hi : Option Expr} {ml mh : MO}
theorem vo_none : VO ct W X none mNoPart := PO.conv po_none fun σ H Q ⟨δ, G, r, q⟩ => q none G H Ext.refl r rfl
theorem vo_some (h : VE ct W X e m) : VO ct W X (some e) (mPart m) := PO.conv (po_some h) fun σ H Q h => tG.step h fun d δ1 x G1 H1 r1 p1 h1 => by
  cases d <;> first
    | exact h1.elim
    | exact ⟨_, Rp.ofInt p1, h1 _ _ _ Ext.refl r1 rfl⟩
/-- the items of a slice -/
def cutD (ds : List D) (lo hi : Option Int) : List D := (ds.drop (HT.sIx ds.length 0 lo)).take (HT.sIx ds.length ds.length hi - HT.sIx ds.length 0 lo)
theorem cutD_length (xs : List D) (lo hi : Option Int) : (cutD xs lo hi).length ≤ xs.length := by
  unfold cutD
  rw [List.length_take, List.length_drop]
  omega
theorem cut_rp {K : PySem.W.Frag} {G : Hp} {vs : List V} {ds : List D} {lo hi : Option Int} (h : RpAll K G vs ds) : RpAll K G (cutV vs lo hi) (cutD ds lo hi) := by
  unfold cutV cutD
  rw [RpAll.length h]
  exact RpAll.take _ (RpAll.drop _ h)
def gSlT : D → Option Int → Option Int → R D
  | .tuple ds, lo, hi => .ok (.tuple (cutD ds lo hi))
  | _, _, _ => .bad
def gSlL : D → Option Int → Option Int → R (List D)
  | .list ds, lo, hi => .ok (cutD ds lo hi)
  | _, _, _ => .bad
def mSlT (ma : M D) (ml mh : MO) : M D := M.bind ma fun d => M.bind ml fun lo => M.bind mh fun hi => M.only (gSlT d lo hi)
def mSlL (ma : M D) (ml mh : MO) : M (List D) := M.bind ma fun d => M.bind ml fun lo => M.bind mh fun hi => M.only (gSlL d lo hi)
theorem cut_whole {ds : List D} {lo hi : Option Int} (h : HT.sIx ds.length 0 lo = 0 ∧ HT.sIx ds.length ds.length hi = ds.length) : cutD ds lo hi = ds := by
  unfold cutD
  rw [h.1, h.2, List.drop_zero, Nat.sub_zero, List.take_length]
theorem ve_slT (ha : VE ct W X a ma) (hl : VO ct W X lo ml) (hh : VO ct W X hi mh) : VE ct W X (.Subscript a (.Slice lo hi none p2) pos) (mSlT ma ml mh) :=
  PE.conv (pe_slice sl_tupA ha hl hh) fun σ H Q h => tG.step h fun d δ1 x G1 H1 r1 p1 h1 => ⟨δ1, G1, r1, TW.step r1 h1 fun l δ2 y G2 H2 _ x2 r2 p2 h2 => ⟨δ2, G2, r2, TW.step r2 h2 fun u δ3 z G3 H3 _ x3 r3 p3 h3 => by
    obtain rfl : y = l := p2
    obtain rfl : z = u := p3
    obtain ⟨w, ez, h4⟩ := Post.only h3
    unfold gSlT at ez
    split at ez
    · cases ez
      rename_i ds _ _
      have p1' := Rp.mono (x2.same.trans x3.same) p1
      obtain ⟨b, xs, e1, k1, k2, k3⟩ := Rp.ofTup p1'
      subst e1
      have hlen := RpAll.length k3
      refine ⟨b, xs, rfl, Same.sqt r3.same k1, fun hw => ?_, fun _ q hq => ?_⟩
      · rw [hlen] at hw
        rw [cut_whole hw] at h4
        exact Post.done h4 r3 (Grow.refl r3) p1'
      · exact Post.done h4 r3 (Grow.laid r3.same r3.nt hq nt_tup) (.tup (SqT.of upd_same) (Nat.le_trans (cutD_length _ _ _) k2) (RpAll.mono (same_upd (Same.free r3.same hq)) (cut_rp k3)))
    · cases ez⟩⟩
theorem vn_slL (ha : VE ct W X a ma) (hl : VO ct W X lo ml) (hh : VO ct W X hi mh) : VN ct W X (.Subscript a (.Slice lo hi none p2) pos) (mSlL ma ml mh) :=
  PE.conv (pe_slice sl_list ha hl hh) fun σ H Q h => tG.step h fun d δ1 x G1 H1 r1 p1 h1 => ⟨δ1, G1, r1, TW.step r1 h1 fun l δ2 y G2 H2 _ x2 r2 p2 h2 => ⟨δ2, G2, r2, TW.step r2 h2 fun u δ3 z G3 H3 _ x3 r3 p3 h3 => by
    obtain rfl : y = l := p2
    obtain rfl : z = u := p3
    obtain ⟨w, ez, h4⟩ := Post.only h3
    unfold gSlL at ez
    split at ez
    · cases ez
      have p1' := Rp.mono (x2.same.trans x3.same) p1
      obtain ⟨b, xs, e1, k1, k2, k3⟩ := Rp.ofLst p1'
      subst e1
      exact ⟨b, xs, rfl, SqL.of (r3.same _ _ k1), fun q hq => Post.fresh h4 r3 hq (Nat.le_trans (cutD_length _ _ _) k2) (cut_rp k3)⟩
    · cases ez⟩⟩
end

/-! ### list(range(..)) -/
def rgD (a b : Int) : List D := (List.range (b - a).toNat).map fun i => .int (a + (i : Nat))
def rgOk (a b : Int) : Bool := decide (-4611686018427387904 ≤ a ∧ a < 4611686018427387904 ∧ -4611686018427387904 ≤ b ∧ b < 4611686018427387904 ∧ (b - a).toNat ≤ 16777216)
theorem rgOk_of {a b : Int} (h : rgOk a b = true) : RgOk a b := by
  have := of_decide_eq_true h
  exact ⟨by omega, by omega, by omega, by omega, by omega⟩
theorem rg_rp {K : PySem.W.Frag} {G : Hp} (a b : Int) : RpAll K G (rgV a b) (rgD a b) := by
  unfold rgV rgD
  generalize List.range (b - a).toNat = l
  induction l with
  | nil => exact .nil
  | cons i l ih => exact .cons (.int _) ih
theorem rgD_length (a b : Int) : (rgD a b).length = (b - a).toNat := by unfold rgD; rw [List.length_map, List.length_range]
def gRg : D → D → R (List D)
  | .int i, .int j => if rgOk i j then .ok (rgD i j) else .bad
  | _, _ => .bad
def mRange (ma mb : M D) : M (List D) := M.bind ma fun d => M.bind mb fun e => M.only (gRg d e)
def mRange1 (ma : M D) : M (List D) := M.bind ma fun e => M.only (gRg (.int 0) e)
theorem gRg_ok {d e : D} {z : List D} (h : gRg d e = .ok z) : ∃ i j, d = .int i ∧ e = .int j ∧ rgOk i j = true ∧ z = rgD i j := by
  unfold gRg at h
  split at h
  · split at h
    · rename_i k
      cases h
      exact ⟨_, _, rfl, rfl, k, rfl⟩
    · cases h
  · cases h
section
variable {ct : Nat → Addr} {W : WX} {X : Cx} {a b : Expr} {ma mb : M D} {p p2 q pos : Pos}
theorem vn_listRg1 (hc : X.calm = true) (hg : Gl X "list") (hm : X.mg "list" = none) (hg2 : Gl X "range") (hm2 : X.mg "range" = none) (ha : VE ct W X a ma)
    (na : starEach [.Call (.Name "range" p) [a] [] q] X.env = (false, eval (.Call (.Name "range" p) [a] [] q) X.env) :: starEach [] X.env := by rfl) (na2 : starEach [a] X.env = (false, eval a X.env) :: starEach [] X.env := by rfl) :
    VN ct W X (.Call (.Name "list" p2) [.Call (.Name "range" p) [a] [] q] [] pos) (mRange1 ma) :=
  PE.conv (pe_listRg hc hg hm (prg_1 hg2 hm2 ha na2) na) fun σ H Q h => tG.step h fun d δ1 x G1 H1 r1 p1 h1 => by
    obtain ⟨z, ez, h3⟩ := Post.only h1
    obtain ⟨i, j, e1, e2, k, e3⟩ := gRg_ok ez
    cases e1
    subst e2 e3
    have hz := rgOk_of k
    exact ⟨j, Rp.ofInt p1, hz, fun q hq => Post.fresh h3 r1 hq (by rw [rgD_length, sizeLine_eq]; exact hz.2.2.2.2) (rg_rp 0 j)⟩
theorem vn_listRg2 (hc : X.calm = true) (hg : Gl X "list") (hm : X.mg "list" = none) (hg2 : Gl X "range") (hm2 : X.mg "range" = none) (ha : VE ct W X a ma) (hb : VE ct W X b mb)
    (na : starEach [.Call (.Name "range" p) [a, b] [] q] X.env = (false, eval (.Call (.Name "range" p) [a, b] [] q) X.env) :: starEach [] X.env := by rfl) (na2 : starEach [a, b] X.env = (false, eval a X.env) :: starEach [b] X.env := by rfl)
    (nb : starEach [b] X.env = (false, eval b X.env) :: starEach [] X.env := by rfl) (hp : (backTo q (starEach [b] X.env)).any (·.1) = false := by rfl) :
    VN ct W X (.Call (.Name "list" p2) [.Call (.Name "range" p) [a, b] [] q] [] pos) (mRange ma mb) :=
  PE.conv (pe_listRg hc hg hm (prg_2 hg2 hm2 ha hb na2 nb hp) na) fun σ H Q h => tG.step h fun d δ1 x G1 H1 r1 p1 h1 => ⟨δ1, G1, r1, TW.step r1 h1 fun e δ2 y G2 H2 _ x2 r2 p2 h2 => by
    obtain ⟨z, ez, h3⟩ := Post.only h2
    obtain ⟨i, j, e1, e2, k, e3⟩ := gRg_ok ez
    subst e1 e2 e3
    have hz := rgOk_of k
    exact ⟨i, j, Rp.ofInt p1, Rp.ofInt p2, hz, fun q hq => Post.fresh h3 r2 hq (by rw [rgD_length, sizeLine_eq]; exact hz.2.2.2.2) (rg_rp i j)⟩⟩
end

/-! ### list + list, list * int -/
def gCatL : D → D → R (List D)
  | .list ds, .list es => if szOk (ds.length + es.length) then .ok (ds ++ es) else .bad
  | _, _ => .bad
def gRepL : D → D → R (List D)
  | .list ds, .int k => if decide (-4611686018427387904 ≤ k ∧ k < 4611686018427387904) && szOk (ds.length * k.toNat) then .ok (List.replicate k.toNat ds).flatten else .bad
  | _, _ => .bad
def mOp2N (g : D → D → R (List D)) (ma mb : M D) : M (List D) := M.bind ma fun d => M.bind mb fun e => M.only (g d e)
def R2N (K : PySem.W.Frag) (r : R2) (g : D → D → R (List D)) : Prop := ∀ (δ : List C) (σ : L2.St) (G H : Hp) (x y : V) (d e : D) (z : List D) (Q : VK), Rel K δ G σ H → RpV K δ σ G H x d → RpV K δ σ G H y e → g d e = .ok z →
  (∀ p vs, H p = none → z.length ≤ sizeLine → RpAll K G vs z → Q (.ref p) (upd H p (.lst vs))) → r x y H Q
theorem RpAll.rep {K : PySem.W.Frag} {G : Hp} {vs : List V} {ds : List D} (h : RpAll K G vs ds) : ∀ k : Nat, RpAll K G (List.replicate k vs).flatten (List.replicate k ds).flatten
  | 0 => .nil
  | k + 1 => by
    rw [List.replicate_succ, List.replicate_succ, List.flatten_cons, List.flatten_cons]
    exact h.append (RpAll.rep h k)
section
variable {K : PySem.W.Frag} {ct : Nat → Addr} {W : WX} {X : Cx} {a b : Expr} {ma mb : M D} {pos : Pos} {r : R2} {g : D → D → R (List D)}
theorem r2_CatL : R2N K rCat gCatL := fun δ σ G H x y d e z Q r hx hy hz q => by
  unfold gCatL at hz
  split at hz
  · split at hz
    · rename_i ds es hk
      cases hz
      have hl := szOk_le hk
      obtain ⟨a, xs, e1, h1, h2, h3⟩ := hx.lst' r.same
      obtain ⟨b, ys, e2, k1, k2, k3⟩ := hy.lst' r.same
      have l1 := h3.length
      have l2 := k3.length
      exact ⟨a, b, xs, ys, e1, e2, h1, k1, by omega, fun p hp => q p _ hp (by rw [List.length_append]; exact hl) (h3.append k3)⟩
    · cases hz
  · cases hz
theorem r2_RepL : R2N K rRep gRepL := fun δ σ G H x y d e z Q r hx hy hz q => by
  unfold gRepL at hz
  split at hz
  · split at hz
    · rename_i ds k hk
      rw [Bool.and_eq_true] at hk
      have hb := of_decide_eq_true hk.1
      cases hz
      have hl := szOk_le hk.2
      obtain ⟨a, xs, e1, h1, h2, h3⟩ := hx.lst' r.same
      have l1 := h3.length
      have e : (List.replicate k.toNat ds).flatten.length = ds.length * k.toNat := by
        rw [List.length_flatten, List.map_replicate, List.sum_replicate_nat, Nat.mul_comm]
      exact ⟨a, k, xs, e1, hy.int, h1, by omega, by omega, by rw [l1]; exact hl, fun p hp => q p _ hp (by rw [e]; exact hl) (h3.rep _)⟩
    · cases hz
  · cases hz
theorem vn_op {op : Operator} (ho : OpR X (binaryOp op) r) (hr : R2N X.K r g) (ha : VE ct W X a ma) (hb : VV ct W X b mb) : VN ct W X (.BinOp a op b pos) (mOp2N g ma mb) := PE.conv (pe_op ho ha hb) fun σ H Q h =>
  tG.step h fun d δ1 x G1 H1 r1 p1 h1 => ⟨δ1, G1, r1, TW.step r1 h1 fun e δ2 y G2 H2 _ x2 r2 p2 h2 => by
    obtain ⟨z, ez, h3⟩ := Post.only h2
    exact hr δ2 σ G2 H2 x y d e z Q r2 (.inl (Rp.mono x2.same p1)) p2 ez fun p vs hp hl ha => Post.fresh h3 r2 hp hl ha⟩
end
end TW

set_option Elab.async false
set_option linter.all false
set_option maxRecDepth 100000
namespace TW
open PySem PySem.Spec PyProof.Rows L2

/-! ### what is walked -/
structure Walks (K : PySem.W.Frag) (G0 : Hp) (J : It) (ds : List D) : Prop where
  size : ds.length ≤ sizeLine
  go : ∀ (i : Nat) (d : D) (G H : Hp), ds[i]? = some d → Same G0 G → Same G H → (∀ b o, G b = some o → NT o) → J.go i H ∧ ∀ x H', J.yld i H x H' → ∃ G', Grow G H G' H' ∧ Rp K G' x d
  stop : ∀ (i : Nat) (G H : Hp), ds.length ≤ i → Same G0 G → Same G H → J.stop i H
def PIt (K : PySem.W.Frag) : Hp → Hp → Hp → List C → L2.St → It → List D → Prop := fun _ G' _ _ _ J ds => Walks K G' J ds
instance {K : PySem.W.Frag} : Anti (PIt K) := ⟨fun _ h => h⟩
abbrev VI (ct : Nat → Addr) (W : WX) (X : Cx) (tg e : Expr) (m : M (List D)) : Prop := PI X tg e (tG X.K ct W (PIt X.K) m)
section
variable {K : PySem.W.Frag} {G : Hp}
theorem grow_id {G H : Hp} (s : Same G H) (n : ∀ b o, G b = some o → NT o) : Grow G H G H := ⟨Same.refl _, Same.refl _, s, n, fun _ _ h => .inl h⟩
theorem walks_l {a : Addr} {xs : List V} {ds : List D} (h : G a = some (.lst xs)) (z : ds.length ≤ sizeLine) (ha : RpAll K G xs ds) : Walks K G (Itl K a) ds :=
  ⟨z, fun i d G' H e s1 s2 n => by
    obtain ⟨v, h1, h2⟩ := ha.get e
    have hs : SqL K H a xs := SqL.of (s2 _ _ (s1 _ _ h))
    refine ⟨⟨xs, v, hs, h1⟩, fun x H' ⟨e1, e2⟩ => ?_⟩
    subst e1
    have := e2 xs hs
    rw [h1] at this
    cases this
    exact ⟨G', grow_id s2 n, h2.mono s1⟩, fun i G' H e s1 s2 => ⟨xs, SqL.of (s2 _ _ (s1 _ _ h)), by rw [RpAll.length ha]; exact e⟩⟩
theorem walks_t {a : Addr} {xs : List V} {ds : List D} (h : SqT K G a xs) (z : ds.length ≤ sizeLine) (ha : RpAll K G xs ds) : Walks K G (Itt K a) ds :=
  ⟨z, fun i d G' H e s1 s2 n => by
    obtain ⟨v, h1, h2⟩ := ha.get e
    have hs : SqT K H a xs := Same.sqt (s1.trans s2) h
    refine ⟨⟨xs, v, hs, h1⟩, fun x H' ⟨e1, e2⟩ => ?_⟩
    subst e1
    have := e2 xs hs
    rw [h1] at this
    cases this
    exact ⟨G', grow_id s2 n, h2.mono s1⟩, fun i G' H e s1 s2 => ⟨xs, Same.sqt (s1.trans s2) h, by rw [RpAll.length ha]; exact e⟩⟩
theorem rgD_get {lo hi : Int} {i : Nat} {d : D} (e : (rgD lo hi)[i]? = some d) : i < (hi - lo).toNat ∧ d = .int (lo + i) := by
  unfold rgD at e
  rw [List.getElem?_map] at e
  cases q : (List.range (hi - lo).toNat)[i]? with
  | none => rw [q] at e; cases e
  | some j =>
    rw [q] at e
    obtain ⟨h1, h2⟩ := List.getElem?_eq_some_iff.mp q
    rw [List.getElem_range] at h2
    rw [List.length_range] at h1
    subst h2
    cases e
    exact ⟨h1, rfl⟩
theorem walks_r {lo hi : Int} (z : (hi - lo).toNat ≤ sizeLine) : Walks K G (Itr lo (hi - lo).toNat) (rgD lo hi) :=
  ⟨by rw [rgD_length]; exact z, fun i d G' H e s1 s2 n => by
    obtain ⟨h1, h2⟩ := rgD_get e
    subst h2
    exact ⟨h1, fun x H' ⟨e1, e2⟩ => by subst e1; subst e2; exact ⟨G', grow_id s2 n, .int _⟩⟩, fun i G' H e s1 s2 => by rw [rgD_length] at e; exact e⟩
end
/-- a list or a tuple -/
theorem pi_seq {X : Cx} {tg l : Expr} {tl : TE} (hl : PE X l tl) : PI X tg l (fun σ H R => tl σ H fun x H1 => ∃ a, x = .ref a ∧ ((∃ xs, SqL X.K H1 a xs ∧ R (Itl X.K a) H1) ∨ ∃ xs, SqT X.K H1 a xs ∧ R (Itt X.K a) H1)) := by
  refine ⟨fun pins s σ H R I h => ?_⟩
  refine thn (hl.run pins s σ H _ I h) fun v s1 ⟨x, H1, I1, r1, q1⟩ => ?_
  obtain ⟨a, e, q⟩ := q1
  subst e
  cases r1
  rcases q with ⟨xs, hq, q⟩ | ⟨xs, hq, q⟩
  · obtain ⟨its, rv, p, hz⟩ := I1.list hq
    refine wpAny_pyIter_list p.isList ?_
    refine ⟨s1.heap.objs.size, [s1.heap.objs.size], _, _, H1, rfl, I1.kept (t' := s1.toks) fun b o e => Heap.get?_push_of_some _ e, turn_list a _, ⟨_, Heap.get?_push_size _ rfl, rfl, rfl⟩, fun b hb => ?_, q⟩
    have e : b = s1.heap.objs.size := by simpa using hb
    subst e
    exact I1.fpOk (Nat.le_refl _) (I1.hok.fresh (Nat.le_refl _))
  · obtain ⟨its, rv, p, hz⟩ := I1.tuple hq
    refine wpAny_pyIter_tuple (show s1.heap.IsTuple a its.toArray from p) ?_
    refine ⟨s1.heap.objs.size, [s1.heap.objs.size], _, _, H1, rfl, I1.kept (t' := s1.toks) fun b o e => Heap.get?_push_of_some _ e, turn_tuple a _, ⟨_, Heap.get?_push_size _ rfl, rfl, rfl⟩, fun b hb => ?_, q⟩
    have e : b = s1.heap.objs.size := by simpa using hb
    subst e
    exact I1.fpOk (Nat.le_refl _) (I1.hok.fresh (Nat.le_refl _))
def gSeq : D → R (List D)
  | .list ds => .ok ds
  | .tuple ds => .ok ds
  | _ => .bad
def mSeq1 (m : M D) : M (List D) := M.bind m fun d => M.only (gSeq d)
section
variable {ct : Nat → Addr} {W : WX} {X : Cx} {tg e a b : Expr} {m ma mb : M D} {p q pos : Pos}
theorem Post.same {K : PySem.W.Frag} {α β : Type} {P : Hp → Hp → Hp → List C → L2.St → β → α → Prop} {δ : List C} {G H : Hp} {σ : L2.St} {Q : β → Hp → Prop} {a : α} {v : β} (h : Post K ct W P (.ok (a, δ)) δ G H σ Q) (r : Rel K δ G σ H) (q : P H G H δ σ v a) : Q v H := h v G H Ext.refl r q
theorem vi_seq (h : VE ct W X e m) : VI ct W X tg e (mSeq1 m) := PI.conv (pi_seq h) fun σ H R h => tG.step h fun d δ1 x G1 H1 r1 p1 h1 => by
  obtain ⟨z, ez, h3⟩ := Post.only h1
  unfold gSeq at ez
  split at ez
  · cases ez
    obtain ⟨a, xs, e1, k1, k2, k3⟩ := Rp.ofLst p1
    exact ⟨a, e1, .inl ⟨xs, SqL.of (r1.same _ _ k1), h3 _ _ _ Ext.refl r1 (walks_l k1 k2 k3)⟩⟩
  · cases ez
    obtain ⟨a, xs, e1, k1, k2, k3⟩ := Rp.ofTup p1
    exact ⟨a, e1, .inr ⟨xs, Same.sqt r1.same k1, h3 _ _ _ Ext.refl r1 (walks_t k1 k2 k3)⟩⟩
  · cases ez
theorem vi_range1 (hg : Gl X "range") (hm : X.mg "range" = none) (ha : VE ct W X a ma) (hs : starEach [a] X.env = [(false, eval a X.env)] := by rfl) : VI ct W X tg (.Call (.Name "range" p) [a] [] pos) (mRange1 ma) :=
  PI.conv (pi_range1 hg hm (pa_cons ha pa_nil hs) hs) fun σ H R h => tG.step h fun d δ1 x G1 H1 r1 p1 h1 => by
    obtain ⟨z, ez, h3⟩ := Post.only h1
    obtain ⟨i, j, e1, e2, k, e3⟩ := gRg_ok ez
    cases e1
    subst e2 e3
    have hz := rgOk_of k
    have e := Rp.ofInt p1
    subst e
    refine ⟨j, rfl, hz.2.2.1, hz.2.2.2.1, ?_⟩
    have w := walks_r (K := X.K) (G := G1) (lo := 0) (hi := j) (by rw [sizeLine_eq]; exact hz.2.2.2.2)
    have e : (j - 0).toNat = j.toNat := by rw [Int.sub_zero]
    rw [e] at w
    exact h3 _ _ _ Ext.refl r1 w
theorem vi_range2 (hg : Gl X "range") (hm : X.mg "range" = none) (ha : VE ct W X a ma) (hb : VE ct W X b mb) (hs : starEach [a, b] X.env = [(false, eval a X.env), (false, eval b X.env)] := by rfl) (hs2 : starEach [b] X.env = [(false, eval b X.env)] := by rfl) : VI ct W X tg (.Call (.Name "range" p) [a, b] [] pos) (mRange ma mb) :=
  PI.conv (pi_range2 hg hm (pa_cons ha (pa_cons hb pa_nil hs2) (by rw [hs, hs2])) hs hs2) fun σ H R h => tG.step h fun d δ1 x G1 H1 r1 p1 h1 => ⟨δ1, G1, r1, TW.step r1 h1 fun e δ2 y G2 H2 _ x2 r2 p2 h2 => by
    obtain ⟨z, ez, h3⟩ := Post.only h2
    obtain ⟨i, j, e1, e2, k, e3⟩ := gRg_ok ez
    subst e1 e2 e3
    have hz := rgOk_of k
    have e1 := Rp.ofInt p1
    have e2 := Rp.ofInt p2
    subst e1 e2
    exact ⟨i, j, rfl, ⟨hz.1, hz.2.1, hz.2.2.1, hz.2.2.2.1⟩, h3 _ _ _ Ext.refl r2 (walks_r (by rw [sizeLine_eq]; exact hz.2.2.2.2))⟩⟩
/-- zip of two lists or of two tuples -/
def gZip : D → D → R (List D)
  | .list ds, .list es => .ok ((ds.zip es).map fun p => .tuple [p.1, p.2])
  | .tuple ds, .tuple es => .ok ((ds.zip es).map fun p => .tuple [p.1, p.2])
  | _, _ => .bad
def mZip (ma mb : M D) : M (List D) := M.bind ma fun d => M.bind mb fun e => M.only (gZip d e)
theorem zip_get {ds es : List D} {i : Nat} {d : D} (e : ((ds.zip es).map fun p => PyData.tuple [p.1, p.2])[i]? = some d) : ∃ x y, ds[i]? = some x ∧ es[i]? = some y ∧ d = .tuple [x, y] := by
  rw [List.getElem?_map] at e
  cases q : (ds.zip es)[i]? with
  | none => rw [q] at e; cases e
  | some p =>
    rw [q] at e
    cases e
    obtain ⟨h1, h2⟩ := List.getElem?_zip_eq_some.mp q
    exact ⟨p.1, p.2, h1, h2, rfl⟩
theorem pair_grow {K : PySem.W.Frag} {G H : Hp} {T : Addr} {x y : V} {d e : D} (s : Same G H) (n : ∀ b o, G b = some o → NT o) (hT : H T = none) (h1 : Rp K G x d) (h2 : Rp K G y e) : ∃ G', Grow G H G' (upd H T (.tup [x, y])) ∧ Rp K G' (.ref T) (.tuple [d, e]) := by
  have sg := same_upd (o := .tup [x, y]) (Same.free s hT)
  exact ⟨_, Grow.laid s n hT nt_tup, .tup (SqT.of upd_same) (by show 2 ≤ sizeLine; rw [sizeLine_eq]; omega) (.cons (h1.mono sg) (.cons (h2.mono sg) .nil))⟩
theorem zip_size {ds es : List D} (h : ds.length ≤ sizeLine) : ((ds.zip es).map fun p => PyData.tuple [p.1, p.2]).length ≤ sizeLine := by
  rw [List.length_map, List.length_zip]; omega
theorem walks_zl {K : PySem.W.Frag} {G : Hp} {a b : Addr} {xs ys : List V} {ds es : List D} (h : G a = some (.lst xs)) (h' : G b = some (.lst ys)) (z : ds.length ≤ sizeLine) (ha : RpAll K G xs ds) (hb : RpAll K G ys es) : Walks K G (Itz K a b) ((ds.zip es).map fun p => .tuple [p.1, p.2]) :=
  ⟨zip_size z, fun i d G' H e s1 s2 n => by
    obtain ⟨d1, d2, q1, q2, rfl⟩ := zip_get e
    obtain ⟨v, h1, h2⟩ := ha.get q1
    obtain ⟨w, k1, k2⟩ := hb.get q2
    have hs : SqL K H a xs := SqL.of (s2 _ _ (s1 _ _ h))
    have hs' : SqL K H b ys := SqL.of (s2 _ _ (s1 _ _ h'))
    refine ⟨⟨xs, ys, v, w, hs, hs', h1, k1⟩, fun x H' ⟨T, x1, y1, e1, e2, e3, e4, e5⟩ => ?_⟩
    have t1 := e4 xs hs
    have t2 := e5 ys hs'
    rw [h1] at t1
    rw [k1] at t2
    cases t1
    cases t2
    subst e1 e3
    exact pair_grow s2 n e2 (h2.mono s1) (k2.mono s1), fun i G' H e s1 s2 => ⟨xs, ys, SqL.of (s2 _ _ (s1 _ _ h)), SqL.of (s2 _ _ (s1 _ _ h')), by
      rw [List.length_map, List.length_zip] at e
      rw [RpAll.length ha, RpAll.length hb]
      omega⟩⟩
theorem walks_zt {K : PySem.W.Frag} {G : Hp} {a b : Addr} {xs ys : List V} {ds es : List D} (h : SqT K G a xs) (h' : SqT K G b ys) (z : ds.length ≤ sizeLine) (ha : RpAll K G xs ds) (hb : RpAll K G ys es) : Walks K G (RZ.ItzT K a b) ((ds.zip es).map fun p => .tuple [p.1, p.2]) :=
  ⟨zip_size z, fun i d G' H e s1 s2 n => by
    obtain ⟨d1, d2, q1, q2, rfl⟩ := zip_get e
    obtain ⟨v, h1, h2⟩ := ha.get q1
    obtain ⟨w, k1, k2⟩ := hb.get q2
    have hs : SqT K H a xs := Same.sqt (s1.trans s2) h
    have hs' : SqT K H b ys := Same.sqt (s1.trans s2) h'
    refine ⟨⟨xs, ys, v, w, hs, hs', h1, k1⟩, fun x H' ⟨T, x1, y1, e1, e2, e3, e4, e5⟩ => ?_⟩
    have t1 := e4 xs hs
    have t2 := e5 ys hs'
    rw [h1] at t1
    rw [k1] at t2
    cases t1
    cases t2
    subst e1 e3
    exact pair_grow s2 n e2 (h2.mono s1) (k2.mono s1), fun i G' H e s1 s2 => ⟨xs, ys, Same.sqt (s1.trans s2) h, Same.sqt (s1.trans s2) h', by
      rw [List.length_map, List.length_zip] at e
      rw [RpAll.length ha, RpAll.length hb]
      omega⟩⟩
theorem vi_zip {elts : List Expr} {kk : Nat} {tpos : Pos} (hg : Gl X "zip") (hm : X.mg "zip" = none) (ha : VE ct W X a ma) (hb : VE ct W X b mb)
    (hs : starEach [a, b] X.env = (false, eval a X.env) :: starEach [b] X.env := by rfl) (hs2 : starEach [b] X.env = (false, eval b X.env) :: starEach [] X.env := by rfl) (hpl : (backTo pos (starEach [b] X.env)).any (·.1) = false := by rfl) :
    VI ct W X (.Tuple elts kk tpos) (.Call (.Name "zip" p) [a, b] [] pos) (mZip ma mb) :=
  PI.conv (RZ.pi_zipA hg hm (pa_cons ha (pa_cons hb pa_nil hs2) hs) hs hpl) fun σ H R h => tG.step h fun d δ1 x G1 H1 r1 p1 h1 => ⟨δ1, G1, r1, TW.step r1 h1 fun e δ2 y G2 H2 _ x2 r2 p2 h2 => by
    obtain ⟨z, ez, h3⟩ := Post.only h2
    have p1 := Rp.mono x2.same p1
    unfold gZip at ez
    split at ez
    · cases ez
      obtain ⟨a, xs, e1, k1, k2, k3⟩ := Rp.ofLst p1
      obtain ⟨b, ys, e2, j1, j2, j3⟩ := Rp.ofLst p2
      subst e1 e2
      exact ⟨a, b, xs, ys, rfl, .inl ⟨SqL.of (r2.same _ _ k1), SqL.of (r2.same _ _ j1), h3 _ _ _ Ext.refl r2 (walks_zl k1 j1 k2 k3 j3)⟩⟩
    · cases ez
      obtain ⟨a, xs, e1, k1, k2, k3⟩ := Rp.ofTup p1
      obtain ⟨b, ys, e2, j1, j2, j3⟩ := Rp.ofTup p2
      subst e1 e2
      exact ⟨a, b, xs, ys, rfl, .inr ⟨Same.sqt r2.same k1, Same.sqt r2.same j1, h3 _ _ _ Ext.refl r2 (walks_zt k1 j1 k2 k3 j3)⟩⟩
    · cases ez⟩
end

/-! ### targets -/
def setC : List C → List Nat → List D → List C
  | cs, i :: is, d :: ds => setC (cs.set i (.dat d)) is ds
  | cs, _, _ => cs
def setA : L2.St → List Nat → List V → L2.St
  | σ, i :: is, v :: vs => setA (σ.set i (some v)) is vs
  | σ, _, _ => σ
def wipeC : List C → List Nat → List C
  | cs, [] => cs
  | cs, v :: vs => (wipeC cs vs).set v .un
section
variable {K : PySem.W.Frag} {δ : List C} {G H : Hp} {σ : L2.St}
theorem set_keep {δ : List C} {i : Nat} {c : C} (hc : ∀ t ds, c ≠ .own t ds) {j : Nat} {t : Bool} {es : List D} (h : (δ.set i c)[j]? = some (.own t es)) : j ≠ i ∧ δ[j]? = some (.own t es) := by
  by_cases q : j = i
  · subst q
    by_cases hi : j < δ.length
    · rw [List.getElem?_set_self hi] at h
      exact absurd (Option.some.inj h) (hc t es)
    · rw [List.getElem?_eq_none (by simpa using hi)] at h
      cases h
  · rw [List.getElem?_set_ne (Ne.symm q)] at h
    exact ⟨q, h⟩
/-- a slot gets data -/
theorem Rel.set {i : Nat} {v : V} {d : D} (r : Rel K δ G σ H) (h : Rp K G v d) : Rel K (δ.set i (.dat d)) G (σ.set i (some v)) H := by
  have kp : ∀ {j : Nat} {t : Bool} {es : List D}, (δ.set i (.dat d))[j]? = some (.own t es) → j ≠ i ∧ δ[j]? = some (.own t es) := fun h => set_keep (c := .dat d) (fun _ _ e => nomatch e) h
  refine ⟨by rw [List.length_set, List.length_set]; exact r.len, r.same, r.nt, fun j e q => ?_, fun j t es q => ?_, fun j k p t u es fs h1 h2 h3 h4 => ?_⟩
  · by_cases z : j = i
    · subst z
      by_cases hi : j < δ.length
      · rw [List.getElem?_set_self hi] at q
        cases q
        exact ⟨v, by rw [List.getElem?_set_self (by rw [← r.len]; exact hi)], h⟩
      · rw [List.getElem?_eq_none (by simpa using hi)] at q
        cases q
    · rw [List.getElem?_set_ne (Ne.symm z)] at q ⊢
      exact r.dat j e q
  · obtain ⟨z, q⟩ := kp q
    rw [List.getElem?_set_ne (Ne.symm z)]
    exact r.own j t es q
  · obtain ⟨z1, q1⟩ := kp h1
    obtain ⟨z2, q2⟩ := kp h2
    rw [List.getElem?_set_ne (Ne.symm z1)] at h3
    rw [List.getElem?_set_ne (Ne.symm z2)] at h4
    exact r.inj j k p t u es fs q1 q2 h3 h4
theorem set_ow {i : Nat} {c : C} {x : Option V} (hc : ∀ t ds, c ≠ .own t ds) {t : Bool} {b : Addr} (h : Ow t (δ.set i c) (σ.set i x) b) : Ow t δ σ b := by
  obtain ⟨j, es, h1, h2⟩ := h
  obtain ⟨z, h1⟩ := set_keep hc h1
  rw [List.getElem?_set_ne (Ne.symm z)] at h2
  exact ⟨j, es, h1, h2⟩
theorem Ext.sub {δ1 : List C} {σ1 : L2.St} (h : ∀ t b, Ow t δ1 σ1 b → Ow t δ σ b) : Ext δ G H σ δ1 G H σ1 := ⟨fun _ _ h _ _ => h, fun _ h => h, Same.refl _, fun _ _ h => .inl h, fun b q => .inl (h _ b q), fun b q => h _ b q, fun _ h => h⟩
theorem Rel.setA : ∀ {is : List Nat} {vs : List V} {ds : List D} {δ : List C} {σ : L2.St}, Rel K δ G σ H → RpAll K G vs ds → Rel K (setC δ is ds) G (TW.setA σ is vs) H
  | [], _, _, _, _, r, _ => by cases ‹RpAll K G _ _› <;> exact r
  | i :: is, _, _, _, _, r, .nil => r
  | i :: is, _ :: vs, _ :: ds, _, _, r, .cons h t => Rel.setA (is := is) (vs := vs) (ds := ds) (r.set h) t
theorem setA_ow : ∀ {is : List Nat} {vs : List V} {ds : List D} {δ : List C} {σ : L2.St} {t : Bool} {b : Addr}, RpAll K G vs ds → Ow t (setC δ is ds) (setA σ is vs) b → Ow t δ σ b
  | [], _, _, _, _, _, _, _, h => by cases ‹RpAll K G _ _› <;> exact h
  | i :: is, _, _, _, _, _, _, .nil, h => h
  | i :: is, _, d :: _, _, _, _, _, .cons _ t, h => set_ow (c := .dat d) (fun _ _ e => nomatch e) (setA_ow t h)
theorem Rel.unset {i : Nat} {x : Option V} (r : Rel K δ G σ H) : Rel K (δ.set i .un) G (σ.set i x) H := by
  have kp : ∀ {j : Nat} {t : Bool} {es : List D}, (δ.set i .un)[j]? = some (.own t es) → j ≠ i ∧ δ[j]? = some (.own t es) := fun h => set_keep (c := .un) (fun _ _ e => nomatch e) h
  refine ⟨by rw [List.length_set, List.length_set]; exact r.len, r.same, r.nt, fun j e q => ?_, fun j t es q => ?_, fun j k p t u es fs h1 h2 h3 h4 => ?_⟩
  · have z : j ≠ i := fun z => by
      subst z
      by_cases hi : j < δ.length
      · rw [List.getElem?_set_self hi] at q
        cases q
      · rw [List.getElem?_eq_none (by simpa using hi)] at q
        cases q
    rw [List.getElem?_set_ne (Ne.symm z)] at q ⊢
    exact r.dat j e q
  · obtain ⟨z, q⟩ := kp q
    rw [List.getElem?_set_ne (Ne.symm z)]
    exact r.own j t es q
  · obtain ⟨z1, q1⟩ := kp h1
    obtain ⟨z2, q2⟩ := kp h2
    rw [List.getElem?_set_ne (Ne.symm z1)] at h3
    rw [List.getElem?_set_ne (Ne.symm z2)] at h4
    exact r.inj j k p t u es fs q1 q2 h3 h4
theorem Rel.wipe (r : Rel K δ G σ H) : ∀ vs : List Nat, Rel K (wipeC δ vs) G (L2.wipe σ vs) H
  | [] => r
  | _ :: vs => (Rel.wipe r vs).unset
theorem wipe_ow {t : Bool} {b : Addr} : ∀ {vs : List Nat}, Ow t (wipeC δ vs) (wipe σ vs) b → Ow t δ σ b
  | [], h => h
  | _ :: vs, h => wipe_ow (vs := vs) (set_ow (c := .un) (fun _ _ e => nomatch e) h)
theorem wipeC_not {i : Nat} {c : C} : ∀ {vs : List Nat}, (wipeC δ vs)[i]? = some c → c ≠ .un → i ∉ vs
  | [], _, _ => by simp
  | v :: vs, h, n => by
    unfold wipeC at h
    by_cases q : v = i
    · subst q
      by_cases hv : v < (wipeC δ vs).length
      · rw [List.getElem?_set_self hv] at h
        exact absurd (Option.some.inj h).symm n
      · rw [List.getElem?_eq_none (by simpa using hv)] at h
        cases h
    · rw [List.getElem?_set_ne q] at h
      have := wipeC_not h n
      intro hm
      rcases List.mem_cons.mp hm with z | z
      · exact q z.symm
      · exact this z
theorem wipe_at {i : Nat} : ∀ {vs : List Nat}, i ∉ vs → (wipe σ vs)[i]? = σ[i]? := fun h => L2.wipe_out h
/-- behind the block: the outer slots again -/
theorem Rel.unwipe {vs : List Nat} (r : Rel K (wipeC δ vs) G (L2.wipe σ vs) H) : Rel K (wipeC δ vs) G σ H := by
  have nv : ∀ {i : Nat} {d : D}, (wipeC δ vs)[i]? = some (.dat d) → (L2.wipe σ vs)[i]? = σ[i]? := fun h => wipe_at (wipeC_not h fun z => nomatch z)
  have no : ∀ {i : Nat} {t : Bool} {d : List D}, (wipeC δ vs)[i]? = some (.own t d) → (L2.wipe σ vs)[i]? = σ[i]? := fun h => wipe_at (wipeC_not h fun z => nomatch z)
  refine ⟨by rw [r.len, wipe_length], r.same, r.nt, fun i d h => ?_, fun i t ds h => ?_, fun i j p t u ds es h1 h2 h3 h4 => ?_⟩
  · rw [← nv h]; exact r.dat i d h
  · rw [← no h]; exact r.own i t ds h
  · rw [← no h1] at h3
    rw [← no h2] at h4
    exact r.inj i j p t u ds es h1 h2 h3 h4
theorem unwipe_ow {vs : List Nat} {t : Bool} {b : Addr} (h : Ow t (wipeC δ vs) σ b) : Ow t (wipeC δ vs) (wipe σ vs) b := by
  obtain ⟨i, ds, h1, h2⟩ := h
  exact ⟨i, ds, h1, by rw [wipe_at (wipeC_not h1 fun z => nomatch z)]; exact h2⟩
theorem wipe_set {i : Nat} {x : Option V} : ∀ {vs : List Nat}, i ∈ vs → wipe (σ.set i x) vs = wipe σ vs
  | [], h => by cases h
  | v :: vs, h => by
    show (wipe (σ.set i x) vs).set v none = (wipe σ vs).set v none
    by_cases hv : i ∈ vs
    · rw [wipe_set hv]
    · have e : i = v := by
        rcases List.mem_cons.mp h with z | z
        · exact z
        · exact absurd z hv
      subst e
      have : ∀ vs : List Nat, i ∉ vs → wipe (σ.set i x) vs = (wipe σ vs).set i x := fun vs => by
        induction vs with
        | nil => intro _; rfl
        | cons w ws ih =>
          intro hn
          have h1 : i ≠ w := fun e => hn (by rw [e]; exact List.mem_cons_self)
          have h2 : i ∉ ws := fun e => hn (List.mem_cons_of_mem _ e)
          show (wipe (σ.set i x) ws).set w none = ((wipe σ ws).set w none).set i x
          rw [ih h2, List.set_comm _ _ h1]
      rw [this vs hv, List.set_set]
theorem wipe_wipe : ∀ (us vs : List Nat), (∀ i ∈ us, i ∈ vs) → wipe (wipe σ us) vs = wipe σ vs
  | [], _, _ => rfl
  | u :: us, vs, h => by
    show wipe ((wipe σ us).set u none) vs = wipe σ vs
    rw [wipe_set (h u List.mem_cons_self)]
    exact wipe_wipe us vs fun i hi => h i (List.mem_cons_of_mem _ hi)
theorem wipe_setA : ∀ {is : List Nat} {vs : List V} {us : List Nat} {σ : L2.St}, (∀ i ∈ is, i ∈ us) → wipe (setA σ is vs) us = wipe σ us
  | [], _, _, _, _ => rfl
  | _ :: _, [], _, _, _ => rfl
  | i :: is, v :: vs, us, σ, h => by
    show wipe (TW.setA (σ.set i (some v)) is vs) us = wipe σ us
    rw [wipe_setA fun j hj => h j (List.mem_cons_of_mem _ hj), wipe_set (h i List.mem_cons_self)]
end
/-- a target's reading: the slots that it fills, and with what -/
structure TgOk (K : PySem.W.Frag) (g : TG) (is : List Nat) (f : D → R (List D)) : Prop where
  run : ∀ (δ : List C) (σ : L2.St) (G H : Hp) (x : V) (d : D) (ds : List D) (Q : L2.St → Hp → Prop), Rel K δ G σ H → Rp K G x d → f d = .ok ds → (∀ vs, RpAll K G vs ds → Q (setA σ is vs) H) → g x σ H Q
def fName : D → R (List D) := fun d => .ok [d]
def fTup (n : Nat) : D → R (List D)
  | .tuple ds => if ds.length = n then .ok ds else .bad
  | _ => .bad
section
variable {K : PySem.W.Frag}
theorem tg_name {i : Nat} : TgOk K (gName i) [i] fName := ⟨fun δ σ G H x d ds Q r h e q => by
  cases e
  exact q [x] (.cons h .nil)⟩
theorem tg_two {i j : Nat} : TgOk K (gTup K 2 (gCons (gName i) (gCons (gName j) gNil))) [i, j] (fTup 2) := ⟨fun δ σ G H x d ds Q r h e q => by
  unfold fTup at e
  split at e
  · split at e
    · rename_i es hl
      cases e
      obtain ⟨a, xs, e1, k1, k2, k3⟩ := Rp.ofTup h
      have hx := RpAll.length k3
      match xs, hx with
      | [v, w], hx => exact ⟨a, [v, w], e1, Same.sqt r.same k1, rfl, v, [w], rfl, w, [], rfl, rfl, q [v, w] k3⟩
      | [], hx => simp at hx; omega
      | [_], hx => simp at hx; omega
      | _ :: _ :: _ :: _, hx => simp at hx; omega
    · cases e
  · cases e⟩
end

/-! ### comprehensions -/
def mYes : M Bool := M.pure true
def compGo (vs is : List Nat) (f : D → R (List D)) (mt : M Bool) (me : M D) : List D → M (List D)
  | [], cs => .ok ([], cs)
  | x :: xs, cs => match f x with
    | .ok ds => match mt (setC cs is ds) with
      | .ok (true, c1) => match me c1 with
        | .ok (d, c2) => match compGo vs is f mt me xs (wipeC c2 vs) with
          | .ok (r, c3) => .ok (d :: r, c3)
          | _ => .bad
        | _ => .bad
      | .ok (false, c1) => compGo vs is f mt me xs (wipeC c1 vs)
      | _ => .bad
    | _ => .bad
def mComp (vs is : List Nat) (f : D → R (List D)) (mi : M (List D)) (mt : M Bool) (me : M D) : M (List D) := M.bind mi fun ds => fun cs => match compGo vs is f mt me ds (wipeC cs vs) with
  | .ok r => .ok r
  | _ => .bad
def W0 : WX := fun _ _ _ _ => False
theorem takesW0 {X : Cx} : Takes X W0 := fun _ _ x => by
  obtain ⟨_, _, _, _, _, _, _, _, _, _, _, _, _, _, _, _, z⟩ := x
  exact z.elim
theorem wipeC_wipeC {cs : List C} {vs : List Nat} : True := trivial
section
variable {ct : Nat → Addr} {W : WX} {X : Cx} {tg iter elt : Expr} {ifs : List Expr} {scope : Scope} {own : List (Str × Nat)} {pos : Pos} {mi : M (List D)} {mt : M Bool} {me : M D} {g : TG} {is : List Nat} {f : D → R (List D)}
/-- the comprehension's state between two turns -/
structure CompAt (K : PySem.W.Frag) (vs is : List Nat) (f : D → R (List D)) (mt : M Bool) (me : M D) (ds : List D) (res : List D) (δf : List C) (δ0 : List C) (G0 H0 : Hp) (σ0 : L2.St) (Dd : Addr) (i m : Nat) (H : Hp) : Prop where
  ex : ∃ (δi : List C) (Gi : Hp) (acc : List D) (accV : List V) (rest : List D), i + m = ds.length ∧ Rel K (wipeC δi vs) Gi (wipe σ0 vs) H ∧ Ext δ0 G0 H0 σ0 (wipeC δi vs) Gi H (wipe σ0 vs) ∧ H Dd = some (.lst accV) ∧ RpAll K Gi accV acc ∧ acc.length ≤ i ∧ Gi Dd = none ∧
    ¬ OwA (wipeC δi vs) (wipe σ0 vs) Dd ∧ compGo vs is f mt me (ds.drop i) (wipeC δi vs) = .ok (rest, wipeC δf vs) ∧ res = acc ++ rest
theorem compGo_end {vs : List Nat} {mt : M Bool} {me : M D} : ∀ (ds : List D) (cs : List C) (r : List D) (cf : List C), compGo vs is f mt me ds (wipeC cs vs) = .ok (r, cf) → ∃ c, cf = wipeC c vs
  | [], cs, r, cf, h => by cases h; exact ⟨cs, rfl⟩
  | x :: xs, cs, r, cf, h => by
    unfold compGo at h
    split at h
    · split at h
      · split at h
        · split at h
          · rename_i e
            cases h
            exact compGo_end xs _ _ _ e
          · cases h
        · cases h
      · exact compGo_end xs _ _ _ h
      · cases h
    · cases h
theorem drop_at {ds : List D} {i : Nat} (h : i < ds.length) : ds.drop i = ds[i] :: ds.drop (i + 1) := List.drop_eq_getElem_cons h
theorem upd_lst_rel {K : PySem.W.Frag} {δ : List C} {G H : Hp} {σ : L2.St} {p : Addr} {xs : List V} (r : Rel K δ G σ H) (hG : G p = none) (ho : ¬ OwA δ σ p) : Rel K δ G σ (upd H p (.lst xs)) := by
  refine ⟨r.len, fun b o h => ?_, r.nt, r.dat, fun i t ds h => ?_, r.inj⟩
  · have n : b ≠ p := fun e => by subst e; rw [hG] at h; cases h
    rw [upd_ne n]; exact r.same b o h
  · obtain ⟨q, ws, a1, a2, a3, a4, a5⟩ := r.own i t ds h
    have n : q ≠ p := fun e => ho ⟨t, i, ds, h, e ▸ a1⟩
    exact ⟨q, ws, a1, by rw [upd_ne n]; exact a2, a3, a4, a5⟩
theorem tabs_lst {H : Hp} {p : Addr} {xs ys : List V} (h : H p = some (.lst xs)) : ∀ T, LamX.Tabs T H → LamX.Tabs T (upd H p (.lst ys)) := fun T ht q hq => by
  obtain ⟨ps, h1, h2, h3⟩ := ht q hq
  have n : q.1 ≠ p := fun e => by rw [e, h] at h1; cases h1
  refine ⟨ps, by rw [upd_ne n]; exact h1, h2, fun pos cv hc => ?_⟩
  obtain ⟨c, e1, e2⟩ := h3 pos cv hc
  have n2 : c ≠ p := fun e => by rw [e, h] at e2; unfold LamX.CodeO at e2; cases e2
  exact ⟨c, e1, by rw [upd_ne n2]; exact e2⟩
theorem comp_core (K : PySem.W.Frag) {W2 : WX} (tk : TgOk K g is f) (hsub : ∀ i ∈ is, i ∈ own.map (·.2)) {σ : L2.St} {H : Hp} {Q : VK} (h : tG K ct W (PN K) (mComp (own.map (·.2)) is f mi mt me) σ H Q) :
    tLc (tG K ct W (PIt K) mi) g (tG K ct W0 PB mt) (tG K ct W0 (PD K) me) (own.map (·.2)) σ H Q := by
  refine tG.step h fun ds δ1 J G1 H1 r1 wk h1 => ?_
  intro Dd hD
  have wk : Walks K G1 J ds := wk
  revert h1 hsub
  generalize own.map (·.2) = vs
  intro hsub h1
  cases e0 : compGo vs is f mt me ds (wipeC δ1 vs) with
  | err n xs => rw [e0] at h1; exact h1.elim
  | bad => rw [e0] at h1; exact h1.elim
  | ok pr =>
    obtain ⟨res, cf⟩ := pr
    rw [e0] at h1
    obtain ⟨δf, hf⟩ := compGo_end ds δ1 res cf e0
    subst hf
    refine ⟨fun i m H => CompAt K vs is f mt me ds res δf δ1 G1 H1 σ Dd i m H, ⟨ds.length, ⟨δ1, G1, [], [], res, by omega, ?_, ?_, upd_same, .nil, Nat.le_refl _, Same.free r1.same hD, ?_, by rw [List.drop_zero]; exact e0, rfl⟩⟩, fun i m H ⟨δi, Gi, acc, accV, rest, eim, ri, xi, hDd, hacc, hal, hGD, hOD, ego, eres⟩ => ?_⟩
    · exact upd_lst_rel (r1.wipe vs) (Same.free r1.same hD) fun ⟨t, z⟩ => fresh_not r1 hD ⟨t, wipe_ow z⟩
    · exact ⟨fun b o h _ _ => by rw [upd_ne (ne_of_none h hD)]; exact h, fun b hb => by
        cases q : H1 b with
        | none => exact absurd q hb
        | some o => rw [upd_ne (ne_of_none q hD), q]; simp, Same.refl _, fun _ _ h => .inl h, fun b h => .inl (wipe_ow h), fun b h => wipe_ow h, tabs_keep (same_upd hD)⟩
    · exact fun ⟨t, z⟩ => fresh_not r1 hD ⟨t, wipe_ow z⟩
    have ow_keep : ∀ {δ' : List C} {G' H' : Hp} {σ' : L2.St} {Hx : Hp} {δx : List C} {Gx : Hp} {σx : L2.St} {av : List V}, Ext δx Gx Hx σx δ' G' H' σ' → Hx Dd = some (.lst av) → ¬ OwA δx σx Dd → Gx Dd = none → H' Dd = some (.lst av) ∧ ¬ OwA δ' σ' Dd ∧ G' Dd = none := fun {δ' G' H' σ' Hx δx Gx σx av} x h1 h2 h3 => by
      refine ⟨x.keep _ _ h1 nt_lst h2, fun z => ?_, ?_⟩
      · rcases x.owA z with z | z
        · exact h2 z
        · rw [h1] at z; cases z
      · cases q : G' Dd with
        | none => rfl
        | some o =>
          rcases x.new _ _ q with z | z | z
          · rw [h3] at z; cases z
          · rw [h1] at z; cases z
          · exact absurd ⟨false, z⟩ h2
    by_cases hi : i < ds.length
    · refine .inr ?_
      have hd : ds[i]? = some ds[i] := List.getElem?_eq_getElem hi
      obtain ⟨hgo, hy⟩ := wk.go i ds[i] Gi H hd xi.same ri.same ri.nt
      refine ⟨hgo, fun H' => CompAt K vs is f mt me ds res δf δ1 G1 H1 σ Dd (i + 1) (m - 1) H', fun H' hN => ⟨m - 1, by omega, hN⟩, fun x H' y => ?_⟩
      obtain ⟨G2, gr, rx⟩ := hy x H' y
      have x2 := gr.ext (δ := wipeC δi vs) (σ := wipe σ vs)
      have r2 := gr.rel ri
      obtain ⟨k1, k2, k3⟩ := ow_keep x2 hDd hOD hGD
      rw [drop_at hi] at ego
      unfold compGo at ego
      split at ego
      · rename_i es ef
        refine tk.run (wipeC δi vs) (wipe σ vs) G2 H' x ds[i] es _ r2 rx ef fun ws hws => ?_
        have r3 := r2.setA (is := is) hws
        have x3 : Ext (wipeC δi vs) G2 H' (wipe σ vs) (setC (wipeC δi vs) is es) G2 H' (setA (wipe σ vs) is ws) := Ext.sub fun t b z => setA_ow hws z
        obtain ⟨j1, j2, j3⟩ := ow_keep x3 k1 k2 k3
        have hw : wipe (setA (wipe σ vs) is ws) vs = wipe σ vs := by
          rw [wipe_setA hsub]
          exact wipe_wipe vs vs fun _ h => h
        refine ⟨hw, _, _, r3, ?_⟩
        split at ego
        · rename_i c1 et
          rw [et]
          intro b G4 H4 x4 r4 eb
          obtain rfl : b = true := eb
          rw [if_pos rfl]
          obtain ⟨l1, l2, l3⟩ := ow_keep x4 j1 j2 j3
          refine ⟨c1, G4, r4, ?_⟩
          split at ego
          · rename_i d c2 ee
            rw [ee]
            intro yv G5 H5 x5 r5 ry
            obtain ⟨n1, n2, n3⟩ := ow_keep x5 l1 l2 l3
            split at ego
            · rename_i rr c3 er
              cases ego
              have sz : accV.length < sizeLine := by
                have a1 := RpAll.length hacc
                have a2 := wk.size
                omega
              refine ⟨accV, n1, sz, ⟨c2, G5, acc ++ [d], accV ++ [yv], rr, by omega, ?_, ?_, upd_same, ?_, by rw [List.length_append]; show acc.length + 1 ≤ i + 1; omega, n3, ?_, er, by rw [eres, List.append_assoc] <;> rfl⟩⟩
              · have := r5.wipe vs
                rw [hw] at this
                exact upd_lst_rel this n3 fun ⟨t, z⟩ => n2 ⟨t, wipe_ow (vs := vs) (by rw [hw]; exact z)⟩
              · have xt := xi.trans (x2.trans (x3.trans (x4.trans x5)))
                refine ⟨fun b o h n nb => ?_, fun b hb => ?_, xt.same, xt.new, fun b z => xt.own b (wipe_ow (vs := vs) (by rw [hw]; exact z)), fun b z => xt.par b (wipe_ow (vs := vs) (by rw [hw]; exact z)), fun T ht => tabs_lst n1 T (xt.tabs T ht)⟩
                · rw [upd_ne (ne_of_none h hD)]
                  exact xt.keep b o h n nb
                · by_cases q : b = Dd
                  · subst q; rw [upd_same]; simp
                  · rw [upd_ne q]; exact xt.there b hb
              · exact RpAll.append (RpAll.mono (x2.same.trans (x3.same.trans (x4.same.trans x5.same))) hacc) (.cons ry .nil)
              · exact fun ⟨t, z⟩ => n2 ⟨t, wipe_ow (vs := vs) (by rw [hw]; exact z)⟩
            · cases ego
          · cases ego
        · rename_i c1 et
          rw [et]
          intro b G4 H4 x4 r4 eb
          obtain rfl : b = false := eb
          rw [if_neg Bool.false_ne_true]
          obtain ⟨l1, l2, l3⟩ := ow_keep x4 j1 j2 j3
          have r5 := r4.wipe vs
          rw [hw] at r5
          refine ⟨c1, G4, acc, accV, rest, by omega, r5, xi.trans (x2.trans (x3.trans (x4.trans (Ext.sub fun t b z => wipe_ow (vs := vs) (by rw [hw]; exact z))))), l1, RpAll.mono (x2.same.trans (x3.same.trans x4.same)) hacc, by omega, l3, fun ⟨t, z⟩ => l2 ⟨t, wipe_ow (vs := vs) (by rw [hw]; exact z)⟩, ego, eres⟩
        · cases ego
      · cases ego
    · refine .inl ⟨wk.stop i Gi H (by omega) xi.same ri.same, ?_⟩
      have e1 : ds.drop i = [] := List.drop_eq_nil_of_le (by omega)
      rw [e1] at ego
      unfold compGo at ego
      have e2 : rest = [] ∧ wipeC δi vs = wipeC δf vs := by
        have := R.ok.inj ego
        exact ⟨(congrArg Prod.fst this).symm, congrArg Prod.snd this⟩
      obtain ⟨e2, e3⟩ := e2
      subst e2
      rw [List.append_nil] at eres
      subst eres
      rw [e3] at ri xi hOD
      refine h1 (.ref Dd) Gi H ?_ ri.unwipe ⟨Dd, accV, rfl, hD, hDd, hGD, fun ⟨t, z⟩ => hOD ⟨t, unwipe_ow z⟩, by have := wk.size; omega, hacc⟩
      exact ⟨xi.keep, xi.there, xi.same, xi.new, fun b z => xi.own b (unwipe_ow z), fun b z => xi.par b (unwipe_ow z), xi.tabs⟩
end
end TW

set_option Elab.async false
set_option linter.all false
set_option maxRecDepth 100000
namespace TW
open PySem PySem.Spec PyProof.Rows L2

/-! ### comprehensions, the rule -/
theorem PTs.conv {X : Cx} {es : List Expr} {t t' : TT} (h : PTs X es t) (i : ∀ σ H Q, t' σ H Q → t σ H Q) : PTs X es t' := ⟨fun pins s σ H Q I q => h.run pins s σ H Q I (i σ H Q q)⟩
abbrev VTs (ct : Nat → Addr) (W : WX) (X : Cx) (es : List Expr) (m : M Bool) : Prop := PTs X es (tG X.K ct W PB m)
section
variable {ct : Nat → Addr} {W : WX} {X : Cx} {tg iter elt : Expr} {ifs : List Expr} {scope : Scope} {own : List (Str × Nat)} {pos spos py : Pos} {mi : M (List D)} {mt : M Bool} {me : M D} {g : TG} {is : List Nat} {f : D → R (List D)}
theorem vts_nil : VTs ct W X [] mYes := PTs.conv pts_nil fun σ H Q ⟨δ, G, r, q⟩ => q true G H Ext.refl r rfl
theorem vts_one {c : Expr} (h : VT ct W X c mt) : VTs ct W X [c] mt := pts_one h
theorem vn_lc (hc : X.calm = true) (hN : X.N.Nodup) (tk : TgOk X.K g is f) (hi : VI ct W X tg iter mi) (ok : BlkOk X.N X.env.scope scope own) (hsub : ∀ i ∈ is, i ∈ own.map (·.2))
    (hg : ∀ (s : Shared) (H : Hp) (C : Addr) (cl : List (Str × Addr)) (fp : List Addr), PG (X.blk s H scope (compEnvC scope cl C X.env) fp) tg g)
    (ht : ∀ (s : Shared) (H : Hp) (C : Addr) (cl : List (Str × Addr)) (fp : List Addr), VTs ct W0 (X.blk s H scope (compEnvC scope cl C X.env) fp) ifs mt)
    (he : ∀ (s : Shared) (H : Hp) (C : Addr) (cl : List (Str × Addr)) (fp : List Addr), VE ct W0 (X.blk s H scope (compEnvC scope cl C X.env) fp) elt me) (hs : ∀ x, foldedSetIterable iter X.env x = pure x := by intro _; rfl) :
    VN ct W X (.ListComp elt [⟨tg, iter, ifs, 0⟩] scope pos) (mComp (own.map (·.2)) is f mi mt me) :=
  PE.conv (pe_lc hc hN hi ok hg ht he hs) fun σ H Q h => comp_core X.K (W2 := W) tk hsub h
end

/-! ### statements -/
inductive Fl where
  | nx | rt (d : D) | rn (ds : List D) | bk | ct
abbrev MS := M Fl
def PostS (K : PySem.W.Frag) (ct : Nat → Addr) (W : WX) (r : R (Fl × List C)) (δ : List C) (G H : Hp) (σ : L2.St) (D : Ends) : Prop :=
  match r with
  | .ok (.nx, δ') => ∀ σ' G' H', Ext δ G H σ δ' G' H' σ' → Rel K δ' G' σ' H' → D.nx σ' H'
  | .ok (.bk, δ') => ∀ σ' G' H', Ext δ G H σ δ' G' H' σ' → Rel K δ' G' σ' H' → D.bk σ' H'
  | .ok (.ct, δ') => ∀ σ' G' H', Ext δ G H σ δ' G' H' σ' → Rel K δ' G' σ' H' → D.ct σ' H'
  | .ok (.rt d, δ') => ∀ v σ' G' H', Ext δ G H σ δ' G' H' σ' → Rel K δ' G' σ' H' → Rp K G' v d → D.rt v H'
  | .ok (.rn ds, δ') => ∀ p vs σ' G' H', Ext δ G H σ δ' G' H' σ' → Rel K δ' G' σ' H' → H' p = some (.lst vs) → G' p = none → ds.length ≤ sizeLine → RpAll K G' vs ds → (Ow false δ σ p ∨ H p = none) → ¬ OwA δ' σ' p → D.rt (.ref p) H'
  | .err n xs => ∀ cls dx σ' H', EExt δ σ H H' → ErrR ct n xs cls dx H' → W cls dx σ' H'
  | .bad => False
def tS (K : PySem.W.Frag) (ct : Nat → Addr) (W : WX) (m : MS) : TS := fun D σ H => ∃ δ G, Rel K δ G σ H ∧ PostS K ct W (m δ) δ G H σ D
abbrev VS (ct : Nat → Addr) (W : WX) (X : Cx) (st : Stmt) (m : MS) : Prop := PS X st (tS X.K ct W m)
abbrev VSs (ct : Nat → Addr) (W : WX) (X : Cx) (st : List Stmt) (m : MS) : Prop := PSs X st (tS X.K ct W m)
section
variable {K : PySem.W.Frag} {ct : Nat → Addr} {W : WX} {δ : List C} {G H : Hp} {σ : L2.St} {De : Ends}
theorem PostS.at {r : R (Fl × List C)} {δ1 : List C} {G1 H1 : Hp} {σ1 : L2.St} (x : Ext δ G H σ δ1 G1 H1 σ1) (h : PostS K ct W r δ G H σ De) : PostS K ct W r δ1 G1 H1 σ1 De := by
  cases r with
  | ok p =>
    obtain ⟨f, δ'⟩ := p
    cases f with
    | nx => exact fun σ' G' H' x' r' => h σ' G' H' (x.trans x') r'
    | bk => exact fun σ' G' H' x' r' => h σ' G' H' (x.trans x') r'
    | ct => exact fun σ' G' H' x' r' => h σ' G' H' (x.trans x') r'
    | rt d => exact fun v σ' G' H' x' r' rp => h v σ' G' H' (x.trans x') r' rp
    | rn ds => exact fun p vs σ' G' H' x' r' a b c d e nw => h p vs σ' G' H' (x.trans x') r' a b c d (by
        rcases e with e | e
        · exact x.own p e
        · exact .inr (x.none_back e)) nw
  | err n xs => exact fun cls dx σ' H' x' e => h cls dx σ' H' (.after x x') e
  | bad => exact h
/-- an expression, then the rest of the statement -/
theorem stepS {α β : Type} {P : Hp → Hp → Hp → List C → L2.St → β → α → Prop} {m : M α} {k : α → MS} {Q1 : β → Hp → Prop} (h : tS K ct W (M.bind m k) De σ H)
    (next : ∀ a δ1 v G1 H1, Rel K δ1 G1 σ H1 → (∃ δ0 G0, Ext δ0 G0 H σ δ1 G1 H1 σ ∧ P H G1 H1 δ1 σ v a) → PostS K ct W (k a δ1) δ1 G1 H1 σ De → Q1 v H1) : tG K ct W P m σ H Q1 := by
  obtain ⟨δ, G, rel, h⟩ := h
  refine ⟨δ, G, rel, ?_⟩
  unfold M.bind at h
  cases e : m δ with
  | ok p =>
    obtain ⟨a, δ1⟩ := p
    rw [e] at h
    exact fun v G1 H1 x r q => next a δ1 v G1 H1 r ⟨δ, G, x, q⟩ (PostS.at x h)
  | err n xs => rw [e] at h; exact h
  | bad => rw [e] at h; exact h
def mSeq (a b : MS) : MS := M.bind a fun f => match f with
  | .nx => b
  | f => M.pure f
theorem seq_core {a b : MS} (h : tS K ct W (mSeq a b) De σ H) : tS K ct W a { De with nx := tS K ct W b De } σ H := by
  obtain ⟨δ, G, rel, h⟩ := h
  refine ⟨δ, G, rel, ?_⟩
  unfold mSeq M.bind at h
  cases e : a δ with
  | ok p =>
    obtain ⟨f, δ1⟩ := p
    rw [e] at h
    cases f with
    | nx => exact fun σ' G' H' x r => ⟨δ1, G', r, PostS.at x h⟩
    | bk => exact h
    | ct => exact h
    | rt d => exact h
    | rn ds => exact h
  | err n xs => rw [e] at h; exact h
  | bad => rw [e] at h; exact h
end
def mNx : MS := M.pure .nx
section
variable {ct : Nat → Addr} {W : WX} {X : Cx} {st : Stmt} {rest : List Stmt} {a b : MS} {e : Expr} {m : M D} {mn : M (List D)} {pos py : Pos} {x : Str} {i : Nat}
theorem vss_nil : VSs ct W X [] mNx := PSs.conv pss_nil fun D σ H ⟨δ, G, r, q⟩ => q σ G H Ext.refl r
theorem vss_cons (h1 : VS ct W X st a) (h2 : VSs ct W X rest b) : VSs ct W X (st :: rest) (mSeq a b) := PSs.conv (pss_cons h1 h2) fun D σ H h => seq_core h
theorem vss_one (h1 : VS ct W X st a) : VSs ct W X [st] a := pss_one h1
theorem vs_pass : VS ct W X (.Pass pos) mNx := PS.conv ps_pass fun D σ H ⟨δ, G, r, q⟩ => q σ G H Ext.refl r
theorem vs_break : VS ct W X (.Break pos) (M.pure .bk) := PS.conv ps_break fun D σ H ⟨δ, G, r, q⟩ => q σ G H Ext.refl r
theorem vs_continue : VS ct W X (.Continue pos) (M.pure .ct) := PS.conv ps_continue fun D σ H ⟨δ, G, r, q⟩ => q σ G H Ext.refl r
/-- a statement that is never come to -/
theorem vs_bad : VS ct W X st (fun _ => .bad) := PS.conv ps_never fun D σ H ⟨δ, G, r, q⟩ => q.elim
theorem vss_bad {sts : List Stmt} : VSs ct W X sts (fun _ => .bad) := PSs.conv pss_never fun D σ H ⟨δ, G, r, q⟩ => q.elim
/-! x = e -/
def mPut (i : Nat) (d : D) : MS := fun cs => .ok (.nx, cs.set i (.dat d))
def mPutN (i : Nat) (ds : List D) : MS := fun cs => .ok (.nx, cs.set i (.own false ds))
def mSet (i : Nat) (m : M D) : MS := M.bind m fun d => mPut i d
def mSetN (i : Nat) (m : M (List D)) : MS := M.bind m fun ds => mPutN i ds
theorem put_ext {K : PySem.W.Frag} {δ : List C} {G H : Hp} {σ : L2.St} {v : V} {d : D} : Ext δ G H σ (δ.set i (.dat d)) G H (σ.set i (some v)) := Ext.sub fun t b z => set_ow (c := .dat d) (fun _ _ e => nomatch e) z
theorem set_core {K : PySem.W.Frag} {De : Ends} {σ : L2.St} {H : Hp} (h : tS K ct W (mSet i m) De σ H) : tAsg (tG K ct W (PD K) m) (gName i) De σ H :=
  stepS (P := PD K) h fun d δ1 v G1 H1 r1 ⟨_, _, _, p1⟩ h1 => h1 _ G1 H1 (put_ext (K := K)) (r1.set p1)
theorem ownset {K : PySem.W.Frag} {δ : List C} {G H : Hp} {σ : L2.St} {p : Addr} {vs : List V} {ds : List D} (r : Rel K δ G σ H) (h1 : H p = some (.lst vs)) (h2 : G p = none) (h3 : ¬ OwA δ σ p) (h4 : ds.length ≤ sizeLine) (h5 : RpAll K G vs ds) (hi : i < δ.length) :
    Rel K (δ.set i (.own false ds)) G (σ.set i (some (.ref p))) H := by
  have hi' : i < σ.length := by rw [← r.len]; exact hi
  have kp : ∀ {j : Nat} {t : Bool} {es : List D}, (δ.set i (.own false ds))[j]? = some (.own t es) → (j = i ∧ t = false ∧ es = ds) ∨ (j ≠ i ∧ δ[j]? = some (.own t es)) := fun {j t es} h => by
    by_cases q : j = i
    · subst q
      rw [List.getElem?_set_self hi] at h
      cases h
      exact .inl ⟨rfl, rfl, rfl⟩
    · rw [List.getElem?_set_ne (Ne.symm q)] at h
      exact .inr ⟨q, h⟩
  refine ⟨by rw [List.length_set, List.length_set]; exact r.len, r.same, r.nt, fun j e q => ?_, fun j t es q => ?_, fun j k q t u es fs a1 a2 a3 a4 => ?_⟩
  · have z : j ≠ i := fun z => by subst z; rw [List.getElem?_set_self hi] at q; cases q
    rw [List.getElem?_set_ne (Ne.symm z)] at q ⊢
    exact r.dat j e q
  · rcases kp q with ⟨z, z2, z3⟩ | ⟨z, q⟩
    · subst z z2 z3
      exact ⟨p, vs, by rw [List.getElem?_set_self hi'], h1, h2, h4, h5⟩
    · rw [List.getElem?_set_ne (Ne.symm z)]
      exact r.own j t es q
  · rcases kp a1 with ⟨z, _, _⟩ | ⟨z, q1⟩
    · rcases kp a2 with ⟨y, _, _⟩ | ⟨y, q2⟩
      · rw [z, y]
      · subst z
        rw [List.getElem?_set_self hi'] at a3
        rw [List.getElem?_set_ne (Ne.symm y)] at a4
        cases a3
        exact absurd ⟨u, k, fs, q2, a4⟩ h3
    · rcases kp a2 with ⟨y, _, _⟩ | ⟨y, q2⟩
      · subst y
        rw [List.getElem?_set_self hi'] at a4
        rw [List.getElem?_set_ne (Ne.symm z)] at a3
        cases a4
        exact absurd ⟨t, j, es, q1, a3⟩ h3
      · rw [List.getElem?_set_ne (Ne.symm z)] at a3
        rw [List.getElem?_set_ne (Ne.symm y)] at a4
        exact r.inj j k q t u es fs q1 q2 a3 a4
theorem ownset_ext {K : PySem.W.Frag} {δ0 δ : List C} {G0 H0 G H : Hp} {σ : L2.St} {p : Addr} {ds : List D} (x : Ext δ0 G0 H0 σ δ G H σ) (h : H0 p = none) (hi : i < σ.length) : Ext δ0 G0 H0 σ (δ.set i (.own false ds)) G H (σ.set i (some (.ref p))) := by
  refine ⟨x.keep, x.there, x.same, x.new, fun b ⟨j, es, h1, h2⟩ => ?_, fun b ⟨j, es, h1, h2⟩ => ?_, x.tabs⟩
  · by_cases q : j = i
    · subst q
      rw [List.getElem?_set_self hi] at h2
      cases h2
      exact .inr h
    · rw [List.getElem?_set_ne (Ne.symm q)] at h1 h2
      exact x.own b ⟨j, es, h1, h2⟩
  · by_cases q : j = i
    · subst q
      by_cases hj : j < δ.length
      · rw [List.getElem?_set_self hj] at h1
        cases h1
      · rw [List.getElem?_eq_none (by simpa using hj)] at h1
        cases h1
    · rw [List.getElem?_set_ne (Ne.symm q)] at h1 h2
      exact x.par b ⟨j, es, h1, h2⟩
theorem setN_core {K : PySem.W.Frag} {De : Ends} {σ : L2.St} {H : Hp} (hσ : i < σ.length) (h : tS K ct W (mSetN i mn) De σ H) : tAsg (tG K ct W (PN K) mn) (gName i) De σ H := by
  obtain ⟨δ, G, rel, h⟩ := h
  refine ⟨δ, G, rel, ?_⟩
  unfold mSetN M.bind at h
  cases e : mn δ with
  | ok p =>
    obtain ⟨ds, δ1⟩ := p
    rw [e] at h
    intro v G1 H1 x r ⟨p, vs, e1, e2, e3, e4, e5, e6, e7⟩
    subst e1
    exact h _ G1 H1 (ownset_ext (K := K) x e2 hσ) (ownset r e3 e4 e5 e6 e7 (by rw [r.len]; exact hσ))
  | err n xs => rw [e] at h; exact h
  | bad => rw [e] at h; exact h
theorem vs_set (hN : X.N.Nodup) (hi : X.N[i]? = some x) (hx : Loc X.env.scope x) (he : VE ct W X e m) (hs : swapsWith e (some (.Name x py)) pos.line X.env = pure false := by rfl) (hf : X.fn x = true ∨ X.env.scope.names.lookup x = some .local := by first | exact .inl rfl | exact .inr rfl | assumption) :
    VS ct W X (.Assign [.Name x py] e pos) (mSet i m) := PS.conv (ps_set hN hi hx he hs hf) fun D σ H h => set_core h
/-- with what the state knows -/
theorem PS.convI {X : Cx} {e : Stmt} {t t' : TS} (h : PS X e t) (i : ∀ D σ H, σ.length = X.N.length → t' D σ H → t D σ H) : PS X e t' := ⟨fun pins s σ H D I q => h.run pins s σ H D I (i D σ H I.len q)⟩
theorem vs_setN (hN : X.N.Nodup) (hi : X.N[i]? = some x) (hx : Loc X.env.scope x) (he : VN ct W X e mn) (hs : swapsWith e (some (.Name x py)) pos.line X.env = pure false := by rfl) (hf : X.fn x = true ∨ X.env.scope.names.lookup x = some .local := by first | exact .inl rfl | exact .inr rfl | assumption) :
    VS ct W X (.Assign [.Name x py] e pos) (mSetN i mn) := PS.convI (ps_set hN hi hx he hs hf) fun D σ H hl h => setN_core (by rw [hl]; exact (List.getElem?_eq_some_iff.mp hi).1) h
/-! x = [.. for ..] on one line -/
variable {tg iter elt : Expr} {ifs : List Expr} {scope : Scope} {own : List (Str × Nat)} {mi : M (List D)} {mt : M Bool} {me : M D} {g : TG} {is : List Nat} {f : D → R (List D)} {cpos : Pos}
theorem PS_lc (hc : X.calm = true) (hN : X.N.Nodup) (hy : X.N[i]? = some x) (hyl : X.env.scope.names.lookup x = some .local) (hsw : swapsWith (.ListComp elt [⟨tg, iter, ifs, 0⟩] scope cpos) (some (.Name x py)) pos.line X.env = pure true)
    (tk : TgOk X.K g is f) (hi : VI ct W X tg iter mi) (ok : BlkOk X.N X.env.scope scope own) (hsub : ∀ i ∈ is, i ∈ own.map (·.2))
    (hg : ∀ (s : Shared) (H : Hp) (C : Addr) (cl : List (Str × Addr)) (fp : List Addr), PG (X.blk s H scope (compEnvC scope cl C X.env) fp) tg g)
    (ht : ∀ (s : Shared) (H : Hp) (C : Addr) (cl : List (Str × Addr)) (fp : List Addr), VTs ct W0 (X.blk s H scope (compEnvC scope cl C X.env) fp) ifs mt)
    (he : ∀ (s : Shared) (H : Hp) (C : Addr) (cl : List (Str × Addr)) (fp : List Addr), VE ct W0 (X.blk s H scope (compEnvC scope cl C X.env) fp) elt me) (hs : ∀ x, foldedSetIterable iter X.env x = pure x := by intro _; rfl) :
    PS X (.Assign [.Name x py] (.ListComp elt [⟨tg, iter, ifs, 0⟩] scope cpos) pos) (tAsg (tG X.K ct W (PN X.K) (mComp (own.map (·.2)) is f mi mt me)) (gName i)) :=
  PS.conv (ps_setLc hc hN hy hyl hsw hi ok hg ht he hs) fun D σ H h => comp_core X.K (W2 := W) tk hsub h
/-- a fresh list kept as data -/
theorem ofN_core {K : PySem.W.Frag} {σ : L2.St} {H : Hp} {Q : VK} (h : tG K ct W (PD K) (mOfN mn) σ H Q) : tG K ct W (PN K) mn σ H Q := by
  obtain ⟨δ, G, r, q⟩ := h
  refine ⟨δ, G, r, ?_⟩
  unfold mOfN M.bind at q
  cases e1 : mn δ with
  | ok p =>
    obtain ⟨d, δ'⟩ := p
    rw [e1] at q
    intro v G' H' x r' ⟨p, vs, h0, h1, h2, h3, h4, h5, h6⟩
    subst h0
    obtain ⟨x', r2, rp⟩ := fresh_rel x r' h1 h2 h3 h4 h5 h6
    exact q _ _ _ x' r2 rp
  | err n xs => rw [e1] at q; exact q
  | bad => rw [e1] at q; exact q.elim
theorem vs_setLc (hN : X.N.Nodup) (hi : X.N[i]? = some x) (h : PS X (.Assign [.Name x py] e pos) (tAsg (tG X.K ct W (PN X.K) mn) (gName i))) : VS ct W X (.Assign [.Name x py] e pos) (mSet i (mOfN mn)) :=
  PS.conv h fun D σ H h => ofN_core (set_core h)
theorem vs_setLcN (hN : X.N.Nodup) (hi : X.N[i]? = some x) (h : PS X (.Assign [.Name x py] e pos) (tAsg (tG X.K ct W (PN X.K) mn) (gName i))) : VS ct W X (.Assign [.Name x py] e pos) (mSetN i mn) :=
  PS.convI h fun D σ H hl h => setN_core (by rw [hl]; exact (List.getElem?_eq_some_iff.mp hi).1) h
/-! if, return -/
def mIfS (t : M Bool) (a b : MS) : MS := M.bind t fun k => if k then a else b
theorem vs_if {c : Expr} {sa sb : List Stmt} (hc : VT ct W X c mt) (ha : VSs ct W X sa a) (hb : VSs ct W X sb b) : VS ct W X (.If c sa sb pos) (mIfS mt a b) := PS.conv (ps_if hc ha hb) fun D σ H h => stepS (P := PB) h fun k δ1 v G1 H1 r1 ⟨_, _, _, p1⟩ h1 => by
  obtain rfl : v = k := p1
  cases v with
  | true => rw [if_pos rfl]; exact ⟨δ1, G1, r1, h1⟩
  | false => rw [if_neg Bool.false_ne_true]; exact ⟨δ1, G1, r1, h1⟩
def mRet (m : M D) : MS := M.bind m fun d => M.pure (.rt d)
def mRetN (m : M (List D)) : MS := M.bind m fun d => M.pure (.rn d)
def mRetO (i : Nat) : MS := fun cs => match cs[i]? with
  | some (.own false ds) => .ok (.rn ds, cs.set i .un)
  | _ => .bad
theorem vs_ret (he : VE ct W X e m) : VS ct W X (.Return (some e) pos) (mRet m) := PS.conv (ps_ret he) fun D σ H h => stepS (P := PD X.K) h fun d δ1 v G1 H1 r1 ⟨_, _, _, p1⟩ h1 => h1 v σ G1 H1 Ext.refl r1 p1
theorem vs_retN (he : VN ct W X e mn) : VS ct W X (.Return (some e) pos) (mRetN mn) := PS.conv (ps_ret he) fun D σ H ⟨δ, G, rel, h⟩ => ⟨δ, G, rel, by
  unfold mRetN M.bind at h
  cases e : mn δ with
  | ok p =>
    obtain ⟨ds, δ1⟩ := p
    rw [e] at h
    intro v G1 H1 x r ⟨p, vs, e1, e2, e3, e4, e5, e6, e7⟩
    subst e1
    exact h p vs σ G1 H1 x r e3 e4 e6 e7 (.inr e2) e5
  | err n xs => rw [e] at h; exact h
  | bad => rw [e] at h; exact h⟩
theorem vs_retO (h : PE X (.Name x py) (tVar i)) : VS ct W X (.Return (some (.Name x py)) pos) (mRetO i) := PS.conv (ps_ret h) fun D σ H ⟨δ, G, r, h⟩ => by
  unfold mRetO at h
  cases e1 : δ[i]? with
  | none => rw [e1] at h; exact h.elim
  | some c =>
    rw [e1] at h
    cases c with
    | un => exact h.elim
    | dat d => exact h.elim
    | own t ds =>
      cases t with
      | true => exact h.elim
      | false =>
        obtain ⟨p, vs, h1, h2, h3, h4, h5⟩ := r.own i false ds e1
        have kp : ∀ {j : Nat} {t : Bool} {es : List TW.D}, (δ.set i .un)[j]? = some (.own t es) → j ≠ i ∧ δ[j]? = some (.own t es) := fun h => set_keep (c := .un) (fun _ _ e => nomatch e) h
        have ru : Rel X.K (δ.set i .un) G σ H := by
          have := r.unset (i := i) (x := some (.ref p))
          rwa [show σ.set i (some (.ref p)) = σ from by
            obtain ⟨hi, e⟩ := List.getElem?_eq_some_iff.mp h1
            rw [← e]; exact List.set_getElem_self hi] at this
        have ow : ∀ t b, Ow t (δ.set i .un) σ b → Ow t δ σ b := fun t b ⟨j, es, a1, a2⟩ => ⟨j, es, (kp a1).2, a2⟩
        refine ⟨.ref p, h1, h p vs σ G H (Ext.sub ow) ru h2 h3 h4 h5 (.inl ⟨i, ds, e1, h1⟩) fun ⟨t, j, es, a1, a2⟩ => ?_⟩
        obtain ⟨q1, q2⟩ := kp a1
        exact q1 (r.inj j i p t false es ds q2 e1 a2 h1)
theorem vs_retNone : VS ct W X (.Return none pos) (M.pure (.rt .none)) := PS.conv ps_retN fun D σ H ⟨δ, G, r, q⟩ => q .non σ G H Ext.refl r .non
/-- an expression whose value is dropped -/
def mDrop (m : M D) : MS := M.bind m fun _ => mNx
theorem vs_expr (he : VE ct W X e m) (hs : swapsWith e none pos.line X.env = pure false := by rfl) : VS ct W X (.Expr e pos) (mDrop m) := PS.conv (ps_expr he hs) fun D σ H h => stepS (P := PD X.K) h fun d δ1 v G1 H1 r1 _ h1 => h1 σ G1 H1 Ext.refl r1
/-! own lists changed -/
/-- the list in slot i becomes another one -/
theorem own_upd {K : PySem.W.Frag} {δ : List C} {G H : Hp} {σ : L2.St} {p : Addr} {vs ws : List V} {ds es : List D} {t : Bool} (r : Rel K δ G σ H) (h1 : δ[i]? = some (.own t ds)) (h2 : σ[i]? = some (some (.ref p))) (h3 : H p = some (.lst vs)) (h4 : G p = none) (h5 : es.length ≤ sizeLine) (h6 : RpAll K G ws es) :
    Ext δ G H σ (δ.set i (.own t es)) G (upd H p (.lst ws)) σ ∧ Rel K (δ.set i (.own t es)) G σ (upd H p (.lst ws)) := by
  have hi : i < δ.length := (List.getElem?_eq_some_iff.mp h1).1
  have kp : ∀ {j : Nat} {u : Bool} {fs : List D}, (δ.set i (.own t es))[j]? = some (.own u fs) → (j = i ∧ u = t ∧ fs = es) ∨ (j ≠ i ∧ δ[j]? = some (.own u fs)) := fun {j u fs} h => by
    by_cases q : j = i
    · subst q
      rw [List.getElem?_set_self hi] at h
      cases h
      exact .inl ⟨rfl, rfl, rfl⟩
    · rw [List.getElem?_set_ne (Ne.symm q)] at h
      exact .inr ⟨q, h⟩
  have ow : ∀ u b, Ow u (δ.set i (.own t es)) σ b → Ow u δ σ b := fun u b ⟨j, fs, a1, a2⟩ => by
    rcases kp a1 with ⟨z, z2, z3⟩ | ⟨z, q⟩
    · subst z z2 z3
      exact ⟨j, ds, h1, a2⟩
    · exact ⟨j, fs, q, a2⟩
  have np : ∀ b o, G b = some o → b ≠ p := fun b o h e => by subst e; rw [h4] at h; cases h
  refine ⟨⟨fun b o h _ nb => ?_, fun b h => ?_, Same.refl _, fun _ _ h => .inl h, fun b z => .inl (ow _ b z), fun b z => ow _ b z, tabs_lst h3⟩, ⟨by rw [List.length_set]; exact r.len, fun b o h => ?_, r.nt, fun j e q => ?_, fun j u fs q => ?_, fun j k q u v fs gs a1 a2 a3 a4 => ?_⟩⟩
  · have : b ≠ p := fun e => nb ⟨t, i, ds, h1, e ▸ h2⟩
    rw [upd_ne this]; exact h
  · by_cases q : b = p
    · subst q; rw [upd_same]; simp
    · rw [upd_ne q]; exact h
  · rw [upd_ne (np b o h)]; exact r.same b o h
  · have z : j ≠ i := fun z => by subst z; rw [List.getElem?_set_self hi] at q; cases q
    rw [List.getElem?_set_ne (Ne.symm z)] at q
    exact r.dat j e q
  · rcases kp q with ⟨z, z2, z3⟩ | ⟨z, q⟩
    · subst z z2 z3
      exact ⟨p, ws, h2, upd_same, h4, h5, h6⟩
    · obtain ⟨p', xs, b1, b2, b3, b4, b5⟩ := r.own j u fs q
      have n : p' ≠ p := fun e => z (r.inj j i p u t fs ds q h1 (e ▸ b1) h2)
      exact ⟨p', xs, b1, by rw [upd_ne n]; exact b2, b3, b4, b5⟩
  · have f1 : ∃ es', δ[j]? = some (.own u es') := by
      rcases kp a1 with ⟨z, z2, _⟩ | ⟨_, q⟩
      · subst z z2; exact ⟨_, h1⟩
      · exact ⟨_, q⟩
    have f2 : ∃ es', δ[k]? = some (.own v es') := by
      rcases kp a2 with ⟨z, z2, _⟩ | ⟨_, q⟩
      · subst z z2; exact ⟨_, h1⟩
      · exact ⟨_, q⟩
    obtain ⟨e1, f1⟩ := f1
    obtain ⟨e2, f2⟩ := f2
    exact r.inj j k q u v e1 e2 f1 f2 a3 a4
end
end TW

set_option Elab.async false
set_option linter.all false
set_option maxRecDepth 100000
namespace TW
open PySem PySem.Spec PyProof.Rows L2

/-! ### own lists changed by methods -/
def isOwn (cs : List C) (i : Nat) : Bool := match cs[i]? with
  | some (.own _ _) => true
  | _ => false
def ownPut (i : Nat) (g : List D → R (List D)) : M Unit := fun cs => match cs[i]? with
  | some (.own t ds) => match g ds with
    | .ok es => if szOk es.length then .ok ((), cs.set i (.own t es)) else .bad
    | _ => .bad
  | _ => .bad
def gApp (d : D) (ds : List D) : R (List D) := .ok (ds ++ [d])
def gExt : D → List D → R (List D)
  | .list es, ds => .ok (ds ++ es)
  | _, _ => .bad
def mOn (i : Nat) (m : M D) (g : D → List D → R (List D)) : MS := fun cs => if isOwn cs i then (M.bind m fun d => M.bind (ownPut i (g d)) fun _ => mNx) cs else .bad
section
variable {K : PySem.W.Frag} {ct : Nat → Addr} {W : WX} {X : Cx} {δ : List C} {G H : Hp} {σ : L2.St} {i : Nat} {o e k : Expr} {m mk : M D} {x : Str} {pos py cpos apos : Pos} {De : Ends}
theorem isOwn_at {cs : List C} (h : isOwn cs i = true) : ∃ t ds, cs[i]? = some (.own t ds) := by
  unfold isOwn at h
  split at h
  · exact ⟨_, _, by assumption⟩
  · cases h
theorem ownPut_at {cs cs' : List C} {g : List D → R (List D)} {u : Unit} (h : ownPut i g cs = .ok (u, cs')) : ∃ t ds es, cs[i]? = some (.own t ds) ∧ g ds = .ok es ∧ szOk es.length = true ∧ cs' = cs.set i (.own t es) := by
  unfold ownPut at h
  split at h
  · split at h
    · split at h
      · cases h
        exact ⟨_, _, _, by assumption, by assumption, by assumption, rfl⟩
      · cases h
    · cases h
  · cases h
theorem ownPut_err {cs : List C} {g : List D → R (List D)} {n : Nat} {xs : List D} : ownPut i g cs ≠ .err n xs := fun h => by
  unfold ownPut at h
  split at h
  · split at h
    · split at h <;> cases h
    · cases h
  · cases h
/-- what a changing method asks: of the list in the slot and of the argument -/
theorem on_core {g : D → List D → R (List D)} {r : V → List V → Hp → VK → Prop} (h : tS K ct W (mOn i m g) De σ H)
    (hr : ∀ (G1 H1 : Hp) (p : Addr) (vs : List V) (ds es : List D) (v : V) (d : D) (Q : VK), Same G1 H1 → H1 p = some (.lst vs) → G1 p = none → RpAll K G1 vs ds → ds.length ≤ sizeLine → Rp K G1 v d → g d ds = .ok es → es.length ≤ sizeLine → (∀ ws, RpAll K G1 ws es → Q .non (upd H1 p (.lst ws))) → r (.ref p) [v] H1 Q) :
    tDrop (tBM K "list" r (tVar i) (tCons (tG K ct W (PD K) m) tNil)) De σ H := by
  obtain ⟨δ, G, rel, h⟩ := h
  unfold mOn at h
  cases ho : isOwn δ i with
  | false => rw [ho] at h; exact h.elim
  | true =>
    rw [ho, if_pos rfl] at h
    obtain ⟨t0, ds0, e0⟩ := isOwn_at ho
    obtain ⟨p, vs0, a1, a2, a3, a4, a5⟩ := rel.own i t0 ds0 e0
    refine ⟨.ref p, a1, .inl ⟨rfl, vs0, SqL.of a2⟩, ?_⟩
    refine stepS (P := PD K) (m := m) (k := fun d => M.bind (ownPut i (g d)) fun _ => mNx) ⟨δ, G, rel, h⟩ fun d δ1 v G1 H1 r1 ⟨_, _, _, p1⟩ h1 => ?_
    unfold M.bind at h1
    cases eo : ownPut i (g d) δ1 with
    | bad => rw [eo] at h1; exact h1.elim
    | err n xs => exact absurd eo ownPut_err
    | ok pr =>
      obtain ⟨u, δ2⟩ := pr
      rw [eo] at h1
      obtain ⟨t1, ds1, es, e1, e2, e3, e4⟩ := ownPut_at eo
      subst e4
      obtain ⟨p1', vs, b1, b2, b3, b4, b5⟩ := r1.own i t1 ds1 e1
      rw [a1] at b1
      cases b1
      exact hr G1 H1 p vs ds1 es v d _ r1.same b2 b3 b5 b4 p1 e2 (szOk_le e3) fun ws hw => by
        obtain ⟨x', r'⟩ := own_upd r1 e1 a1 b2 b3 (szOk_le e3) hw
        exact h1 σ G1 _ x' r'
theorem vs_append (ho : PE X o (tVar i)) (he : VE ct W X e m) (hs : starEach [e] X.env = (false, eval e X.env) :: starEach [] X.env := by rfl)
    (hbase : attributeBase o "append" X.env (eval o X.env) = eval o X.env := by rfl)
    (hfew : ((backTo cpos (starEach [e] X.env)).all (fun x => !x.1) && (backToKw cpos (keywordEach [] X.env)).all (fun x => x.1.isSome) && decide (([e] : List Expr).length + ([] : List Keyword).length + (if ([] : List Keyword).isEmpty then 0 else 1) < 30)) = true := by rfl)
    (hline : (apos.endLine == cpos.line) = true := by rfl) (hsw : swapsWith (.Call (.Attribute o "append" apos) [e] [] cpos) none pos.line X.env = pure false := by rfl) :
    VS ct W X (.Expr (.Call (.Attribute o "append" apos) [e] [] cpos) pos) (mOn i m gApp) :=
  PS.conv (ps_expr (pe_bm PySem.F.plainAttrs_list PySem.F.slot_list_append PySem.F.type_list_append mt_append ho (pa_cons he pa_nil hs) hbase hfew hline hs) hsw) fun D σ H h => on_core h
    fun G1 H1 p vs ds es v d Q s hp hG ha hl rv eg hz q => by
      cases eg
      rw [List.length_append] at hz
      exact ⟨p, vs, v, rfl, rfl, hp, by rw [RpAll.length ha]; exact hz, q _ (ha.append (.cons rv .nil))⟩
theorem vs_extend (ho : PE X o (tVar i)) (he : VE ct W X e m) (hs : starEach [e] X.env = (false, eval e X.env) :: starEach [] X.env := by rfl)
    (hbase : attributeBase o "extend" X.env (eval o X.env) = eval o X.env := by rfl)
    (hfew : ((backTo cpos (starEach [e] X.env)).all (fun x => !x.1) && (backToKw cpos (keywordEach [] X.env)).all (fun x => x.1.isSome) && decide (([e] : List Expr).length + ([] : List Keyword).length + (if ([] : List Keyword).isEmpty then 0 else 1) < 30)) = true := by rfl)
    (hline : (apos.endLine == cpos.line) = true := by rfl) (hsw : swapsWith (.Call (.Attribute o "extend" apos) [e] [] cpos) none pos.line X.env = pure false := by rfl) :
    VS ct W X (.Expr (.Call (.Attribute o "extend" apos) [e] [] cpos) pos) (mOn i m gExt) :=
  PS.conv (ps_expr (pe_bm PySem.F.plainAttrs_list PySem.F.slot_list_extend PySem.F.type_list_extend mt_extend ho (pa_cons he pa_nil hs) hbase hfew hline hs) hsw) fun D σ H h => on_core h
    fun G1 H1 p vs ds es v d Q s hp hG ha hl rv eg hz q => by
      unfold gExt at eg
      split at eg
      · cases eg
        rename_i es' 
        obtain ⟨b, xs, e1, k1, k2, k3⟩ := Rp.ofLst rv
        subst e1
        rw [List.length_append] at hz
        have l1 := RpAll.length ha
        have l2 := RpAll.length k3
        exact ⟨p, b, vs, xs, rfl, rfl, hp, s _ _ k1, by omega, q _ (ha.append k3)⟩
      · cases eg
/-! x.pop(k), a value -/
def gPut (k d : D) (ds : List D) : R (List D) := match k with
  | .int j => match ixN ds.length j with
    | some n => .ok (ds.set n d)
    | none => .bad
  | _ => .bad
def popAt (i : Nat) (d : D) : M D := fun cs => match d, cs[i]? with
  | .int k, some (.own t ds) => if decide (-4611686018427387904 ≤ k ∧ k < 4611686018427387904) then (match seqIndex? k ds.length with
    | some j => match ds[j]? with
      | some z => .ok (z, cs.set i (.own t (ds.eraseIdx j)))
      | none => .bad
    | none => .bad) else .bad
  | _, _ => .bad
def mPop (i : Nat) (m : M D) : M D := fun cs => if isOwn cs i then (M.bind m fun d => popAt i d) cs else .bad
theorem popAt_at {d z : D} {cs cs' : List C} (h : popAt i d cs = .ok (z, cs')) : ∃ k t ds j, d = .int k ∧ cs[i]? = some (.own t ds) ∧ (-4611686018427387904 ≤ k ∧ k < 4611686018427387904) ∧ seqIndex? k ds.length = some j ∧ ds[j]? = some z ∧ cs' = cs.set i (.own t (ds.eraseIdx j)) := by
  unfold popAt at h
  split at h
  · split at h
    · split at h
      · split at h
        · cases h
          exact ⟨_, _, _, _, rfl, by assumption, of_decide_eq_true (by assumption), by assumption, by assumption, rfl⟩
        · cases h
      · cases h
    · cases h
  · cases h
theorem popAt_err {d : D} {cs : List C} {n : Nat} {xs : List D} : popAt i d cs ≠ .err n xs := fun h => by
  unfold popAt at h
  split at h
  · split at h
    · split at h
      · split at h <;> cases h
      · cases h
    · cases h
  · cases h
theorem gPut_at {k d : D} {ds es : List D} (h : gPut k d ds = .ok es) : ∃ j n, k = .int j ∧ ixN ds.length j = some n ∧ es = ds.set n d := by
  unfold gPut at h
  split at h
  · split at h
    · cases h
      exact ⟨_, _, rfl, by assumption, rfl⟩
    · cases h
  · cases h
theorem ve_pop (ho : PE X o (tVar i)) (he : VE ct W X e m) (hs : starEach [e] X.env = (false, eval e X.env) :: starEach [] X.env := by rfl)
    (hbase : attributeBase o "pop" X.env (eval o X.env) = eval o X.env := by rfl)
    (hfew : ((backTo cpos (starEach [e] X.env)).all (fun x => !x.1) && (backToKw cpos (keywordEach [] X.env)).all (fun x => x.1.isSome) && decide (([e] : List Expr).length + ([] : List Keyword).length + (if ([] : List Keyword).isEmpty then 0 else 1) < 30)) = true := by rfl)
    (hline : (apos.endLine == cpos.line) = true := by rfl) : VE ct W X (.Call (.Attribute o "pop" apos) [e] [] cpos) (mPop i m) :=
  PE.conv (pe_bm PySem.F.plainAttrs_list PySem.F.slot_list_pop PySem.F.type_list_pop mt_popAt ho (pa_cons he pa_nil hs) hbase hfew hline hs) fun σ H Q ⟨δ, G, rel, h⟩ => by
    unfold mPop at h
    cases ho : isOwn δ i with
    | false => rw [ho] at h; exact h.elim
    | true =>
      rw [ho, if_pos rfl] at h
      obtain ⟨t0, ds0, e0⟩ := isOwn_at ho
      obtain ⟨p, vs0, a1, a2, a3, a4, a5⟩ := rel.own i t0 ds0 e0
      refine ⟨.ref p, a1, .inl ⟨rfl, vs0, SqL.of a2⟩, δ, G, rel, TW.step rel h fun d δ1 v G1 H1 _ x1 r1 p1 h1 => ?_⟩
      cases eo : popAt i d δ1 with
      | bad => rw [eo] at h1; exact h1.elim
      | err n xs => exact absurd eo popAt_err
      | ok pr =>
        obtain ⟨z, δ2⟩ := pr
        rw [eo] at h1
        obtain ⟨k, t, ds, j, ed, e1, hb, ej, ez, e4⟩ := popAt_at eo
        subst ed e4
        obtain ⟨p', vs, b1, b2, b3, b4, b5⟩ := r1.own i t ds e1
        rw [a1] at b1
        cases b1
        obtain ⟨y, hy, ry⟩ := RpAll.get b5 ez
        have ev := Rp.ofInt p1
        subst ev
        obtain ⟨x', r'⟩ := own_upd (es := ds.eraseIdx j) (ws := vs.eraseIdx j) r1 e1 a1 b2 b3 (Nat.le_trans (len_erase ds j) b4) (RpAll.eraseIdx j b5)
        exact ⟨p, vs, k, j, y, rfl, rfl, b2, by omega, by omega, by rw [RpAll.length b5]; exact ej, hy, h1 y G1 _ x' r' ry⟩
/-! x[k] = e -/
def mSetIx (i : Nat) (mk m : M D) : MS := M.bind m fun d => fun cs => if isOwn cs i then (M.bind mk fun k => M.bind (ownPut i (gPut k d)) fun _ => mNx) cs else .bad
theorem setix_core (h : tS K ct W (mSetIx i mk m) De σ H) : tAsg (tG K ct W (PD K) m) (gSub (tVar i) (tG K ct W (PD K) mk) rSetL) De σ H :=
  stepS (P := PD K) h fun d δ0 v G0 H0 r0 ⟨_, _, _, p0⟩ h0 => by
    cases ho : isOwn δ0 i with
    | false => simp only [ho] at h0; exact h0.elim
    | true =>
      simp only [ho, if_true] at h0
      obtain ⟨t0, ds0, e0⟩ := isOwn_at ho
      obtain ⟨p, vs0, a1, a2, a3, a4, a5⟩ := r0.own i t0 ds0 e0
      refine ⟨.ref p, a1, ?_⟩
      have h0' : tS K ct W (M.bind mk fun k => M.bind (ownPut i (gPut k d)) fun _ => mNx) De σ H0 := ⟨δ0, G0, r0, h0⟩
      obtain ⟨δ, G, rel, hh⟩ := h0'
      clear hh
      refine ⟨δ0, G0, r0, ?_⟩
      unfold M.bind at h0
      cases ek : mk δ0 with
      | bad => rw [ek] at h0; exact h0.elim
      | err n xs => rw [ek] at h0; exact h0
      | ok pk =>
        obtain ⟨kd, δ1⟩ := pk
        rw [ek] at h0
        intro kv G1 H1 x1 r1 p1
        have p1 : Rp K G1 kv kd := p1
        cases eo : ownPut i (gPut kd d) δ1 with
        | bad => simp only [eo] at h0; exact h0.elim
        | err n xs => exact absurd eo ownPut_err
        | ok pr =>
          obtain ⟨u, δ2⟩ := pr
          simp only [eo] at h0
          obtain ⟨t1, ds1, es, e1, e2, e3, e4⟩ := ownPut_at eo
          subst e4
          obtain ⟨p1', vs, b1, b2, b3, b4, b5⟩ := r1.own i t1 ds1 e1
          rw [a1] at b1
          cases b1
          obtain ⟨j, n, ej, en, ee⟩ := gPut_at e2
          subst ej ee
          have ev := Rp.ofInt p1
          subst ev
          obtain ⟨x', r'⟩ := own_upd r1 e1 a1 b2 b3 (szOk_le e3) (RpAll.set (Rp.mono x1.same p0) n b5)
          exact ⟨p, vs, j, n, rfl, rfl, b2, by rw [RpAll.length b5]; exact en, h0 σ G1 _ (x1.trans x') r'⟩
theorem vs_setix (ho : PE X o (tVar i)) (hk : VE ct W X k mk) (he : VE ct W X e m)
    (ha : ∀ v, assign (.Subscript o k py) X.env v = (do
      let ov ← holding [v] (eval o X.env)
      let iv ← holding [v, ov] (eval k X.env)
      standAt py
      holding [v, ov, iv] (setItem ov iv v)
      release [v, ov, iv] []) := by intro _; rfl)
    (hs : swapsWithSole [.Subscript o k py] e pos.line X.env = pure false := by rfl) (hw : swappedStores [.Subscript o k py] e X.env = pure none := by rfl) (h1 : (assignEach [.Subscript o k py] X.env).map (·.2) = [assign (.Subscript o k py) X.env] := by rfl) :
    VS ct W X (.Assign [.Subscript o k py] e pos) (mSetIx i mk m) := PS.conv (ps_asg he (pg_sub ho hk set_list ha) hs hw h1) fun D σ H h => setix_core h
/-! a, b = e -/
def mUnp (is : List Nat) (f : D → R (List D)) (m : M D) : MS := M.bind m fun d => fun cs => match f d with
  | .ok ds => .ok (.nx, setC cs is ds)
  | _ => .bad
theorem unp_core {g : TG} {is : List Nat} {f : D → R (List D)} (tk : TgOk K g is f) (h : tS K ct W (mUnp is f m) De σ H) : tAsg (tG K ct W (PD K) m) g De σ H :=
  stepS (P := PD K) h fun d δ1 v G1 H1 r1 ⟨_, _, _, p1⟩ h1 => by

    split at h1
    · rename_i ds ef
      exact tk.run δ1 σ G1 H1 v d ds _ r1 p1 ef fun ws hw => h1 _ G1 H1 (Ext.sub fun t b z => setA_ow hw z) (r1.setA hw)
    · exact h1.elim
theorem vs_unp {tg : Expr} {g : TG} {is : List Nat} {f : D → R (List D)} (tk : TgOk X.K g is f) (hg : PG X tg g) (he : VE ct W X e m) (hs : swapsWithSole [tg] e pos.line X.env = pure false := by rfl) (hw : swappedStores [tg] e X.env = pure none := by rfl)
    (h1 : (assignEach [tg] X.env).map (·.2) = [assign tg X.env] := by rfl) : VS ct W X (.Assign [tg] e pos) (mUnp is f m) := PS.conv (ps_asg he hg hs hw h1) fun D σ H h => unp_core tk h
end

/-! ### for -/
def forGo (is : List Nat) (f : D → R (List D)) (body : MS) : List D → MS
  | [], cs => .ok (.nx, cs)
  | x :: xs, cs => match f x with
    | .ok ds => match body (setC cs is ds) with
      | .ok (.nx, c1) => forGo is f body xs c1
      | .ok (.ct, c1) => forGo is f body xs c1
      | .ok (.bk, c1) => .ok (.nx, c1)
      | r => r
    | _ => .bad
def mFor (is : List Nat) (f : D → R (List D)) (mi : M (List D)) (body : MS) : MS := M.bind mi fun ds => forGo is f body ds
section
variable {K : PySem.W.Frag} {ct : Nat → Addr} {W : WX} {X : Cx} {δ : List C} {G H : Hp} {σ : L2.St} {De : Ends} {is : List Nat} {f : D → R (List D)} {body : MS} {mi : M (List D)} {g : TG} {tb : TS}
theorem for_core (tk : TgOk K g is f) (h : tS K ct W (mFor is f mi body) De σ H) : tFor (tG K ct W (PIt K) mi) g (tS K ct W body) De σ H :=
  stepS (P := PIt K) h fun ds δ1 J G1 H1 r1 ⟨_, _, _, wk⟩ h1 => by
    have wk : Walks K G1 J ds := wk
    refine ⟨fun i m σ' H' => i + m = ds.length ∧ ∃ δi Gi, Rel K δi Gi σ' H' ∧ Same G1 Gi ∧ PostS K ct W (forGo is f body (ds.drop i) δi) δi Gi H' σ' De, ⟨ds.length, by omega, δ1, G1, r1, Same.refl _, by rw [List.drop_zero]; exact h1⟩, fun i m σ2 H2 ⟨eim, δi, Gi, ri, si, hi⟩ => ?_⟩
    by_cases hlt : i < ds.length
    · obtain ⟨hgo, hy⟩ := wk.go i ds[i] Gi H2 (List.getElem?_eq_getElem hlt) si ri.same ri.nt
      refine .inr ⟨hgo, fun σ' H' => (i + 1) + (m - 1) = ds.length ∧ ∃ δi Gi, Rel K δi Gi σ' H' ∧ Same G1 Gi ∧ PostS K ct W (forGo is f body (ds.drop (i + 1)) δi) δi Gi H' σ' De, fun σ' H' hN => ⟨m - 1, by omega, hN⟩, fun x H3 y => ?_⟩
      obtain ⟨G3, gr, rx⟩ := hy x H3 y
      have x3 := gr.ext (δ := δi) (σ := σ2)
      have r3 := gr.rel ri
      have hi := PostS.at x3 hi
      rw [drop_at hlt] at hi
      unfold forGo at hi
      split at hi
      · rename_i es ef
        refine tk.run δi σ2 G3 H3 x ds[i] es _ r3 rx ef fun ws hws => ?_
        have r4 := r3.setA (is := is) hws
        have x4 : Ext δi G3 H3 σ2 (setC δi is es) G3 H3 (setA σ2 is ws) := Ext.sub fun t b z => setA_ow hws z
        have hi := PostS.at x4 hi
        refine ⟨_, _, r4, ?_⟩
        split at hi
        · rename_i c1 eb
          rw [eb]
          exact fun σ5 G5 H5 x5 r5 => ⟨by omega, c1, G5, r5, si.trans (gr.same.trans x5.same), PostS.at x5 hi⟩
        · rename_i c1 eb
          rw [eb]
          exact fun σ5 G5 H5 x5 r5 => ⟨by omega, c1, G5, r5, si.trans (gr.same.trans x5.same), PostS.at x5 hi⟩
        · rename_i c1 eb
          rw [eb]
          exact fun σ5 G5 H5 x5 r5 => hi σ5 G5 H5 x5 r5
        · rename_i n1 n2 n3
          cases eb : body (setC δi is es) with
          | bad => rw [eb] at hi; exact hi.elim
          | err n xs => rw [eb] at hi; exact hi
          | ok p =>
            obtain ⟨fl, c1⟩ := p
            rw [eb] at hi
            cases fl with
            | nx => exact absurd eb (n1 c1)
            | ct => exact absurd eb (n2 c1)
            | bk => exact absurd eb (n3 c1)
            | rt d => exact hi
            | rn d => exact hi
      · exact hi.elim
    · refine .inl ⟨wk.stop i Gi H2 (by omega) si ri.same, ?_⟩
      have e1 : ds.drop i = [] := List.drop_eq_nil_of_le (by omega)
      rw [e1] at hi
      exact hi σ2 Gi H2 Ext.refl ri
theorem vs_for {tg iter : Expr} {sb : List Stmt} {pos : Pos} (hp : PassesOwn (model X.prog X.w) X.A X.env X.xe) (hc : X.calm = true) (tk : TgOk X.K g is f) (hi : VI ct W X tg iter mi) (hg : PG X tg g) (hb : VSs ct W X sb body)
    (hs : ∀ x, foldedSetIterable iter X.env x = pure x := by intro _; rfl) : VS ct W X (.For tg iter sb [] pos) (mFor is f mi body) := PS.conv (ps_for hp hc hi hg hb hs) fun D σ H h => for_core tk h

/-! ### while -/
def whileGo (t : M Bool) (body : MS) : Nat → MS
  | 0, _ => .bad
  | n + 1, cs => match t cs with
    | .ok (true, c0) => match body c0 with
      | .ok (.nx, c1) => whileGo t body n c1
      | .ok (.ct, c1) => whileGo t body n c1
      | .ok (.bk, c1) => .ok (.nx, c1)
      | r => r
    | .ok (false, c0) => .ok (.nx, c0)
    | .err n xs => .err n xs
    | .bad => .bad
variable {t : M Bool} {fuel : Nat}
theorem while_core (h : tS K ct W (whileGo t body fuel) De σ H) : tWhile (tG K ct W PB t) (tS K ct W body) De σ H := by
  refine ⟨fun m σ' H' => tS K ct W (whileGo t body m) De σ' H', ⟨fuel, h⟩, fun m σ2 H2 ⟨δi, Gi, ri, hi⟩ => ?_⟩
  cases m with
  | zero => exact hi.elim
  | succ m =>
    unfold whileGo at hi
    refine ⟨δi, Gi, ri, ?_⟩
    split at hi
    · rename_i c0 et
      rw [et]
      intro b G3 H3 x3 r3 eb
      obtain rfl : b = true := eb
      rw [if_pos rfl]
      have hi := PostS.at x3 hi
      refine ⟨fun σ' H' => tS K ct W (whileGo t body m) De σ' H', fun σ' H' hN => ⟨m, Nat.lt_succ_self m, hN⟩, c0, G3, r3, ?_⟩
      split at hi
      · rename_i c1 eb
        rw [eb]
        exact fun σ5 G5 H5 x5 r5 => ⟨c1, G5, r5, PostS.at x5 hi⟩
      · rename_i c1 eb
        rw [eb]
        exact fun σ5 G5 H5 x5 r5 => ⟨c1, G5, r5, PostS.at x5 hi⟩
      · rename_i c1 eb
        rw [eb]
        exact fun σ5 G5 H5 x5 r5 => hi σ5 G5 H5 x5 r5
      · rename_i n1 n2 n3
        cases eb : body c0 with
        | bad => rw [eb] at hi; exact hi.elim
        | err n xs => rw [eb] at hi; exact hi
        | ok p =>
          obtain ⟨fl, c1⟩ := p
          rw [eb] at hi
          cases fl with
          | nx => exact absurd eb (n1 c1)
          | ct => exact absurd eb (n2 c1)
          | bk => exact absurd eb (n3 c1)
          | rt d => exact hi
          | rn d => exact hi
    · rename_i c0 et
      rw [et]
      intro b G3 H3 x3 r3 eb
      obtain rfl : b = false := eb
      rw [if_neg Bool.false_ne_true]
      exact hi σ2 G3 H3 x3 r3
    · rename_i n xs et
      rw [et]
      exact hi
    · exact hi.elim
theorem vs_while {c : Expr} {sb : List Stmt} {pos : Pos} (n : Nat) (hp : PassesOwn (model X.prog X.w) X.A X.env X.xe) (hc : VT ct W X c t) (hb : VSs ct W X sb body) : VS ct W X (.While c sb [] pos) (whileGo t body n) := PS.conv (ps_while hp hc hb) fun D σ H h => while_core h
end
end TW

set_option Elab.async false
set_option linter.all false
set_option maxRecDepth 100000
namespace TW
open PySem PySem.Spec PyProof.Rows L2

/-! ### defs of data -/
def unfill (n : Nat) (cs : List C) : List C := cs ++ List.replicate (n - cs.length) .un
def fnD (n : Nat) (body : MS) : List D → R D := fun ds => match body (unfill n (ds.map .dat)) with
  | .ok (.rt d, _) => .ok d
  | .ok (.rn es, _) => .ok (.list es)
  | .ok (.nx, _) => .ok .none
  | .err c xs => .err c xs
  | _ => .bad
/-- .. whose answer is a list of the asker's own -/
def fnN (n : Nat) (body : MS) : List D → R (List D) := fun ds => match body (unfill n (ds.map .dat)) with
  | .ok (.rn es, _) => .ok es
  | .err c xs => .err c xs
  | _ => .bad
/-- .. whose first argument is a list that it changes -/
def fnS (n : Nat) (body : MS) : List D → List D → R (D × List D) := fun ss ds => match body (unfill n (.own true ss :: ds.map .dat)) with
  | .ok (.rt d, cs) => match (List.head? cs : Option C) with
    | some (C.own true ss') => .ok (d, ss')
    | _ => .bad
  | .ok (.rn es, cs) => match (List.head? cs : Option C) with
    | some (C.own true ss') => .ok (.list es, ss')
    | _ => .bad
  | _ => .bad
structure Fz (G H : Hp) : Prop where
  same : Same G H
  nt : ∀ b o, G b = some o → NT o
def ErrOk (ct : Nat → Addr) (H : Hp) (n : Nat) (xs : List D) (E : XK) : Prop := ∀ cls dx H', EExt [] [] H H' → ErrR ct n xs cls dx H' → E cls dx H'
def spD (K : PySem.W.Frag) (ct : Nat → Addr) (n : Nat) (F : List D → R D) : Sp := fun vs H Q E => ∃ ds G, ds.length = n ∧ Fz G H ∧ RpAll K G vs ds ∧ match F ds with
  | .ok d => ∀ v G' H', Ext [] G H [] [] G' H' [] → Fz G' H' → Rp K G' v d → Q v H'
  | .err c xs => ErrOk ct H c xs E
  | .bad => False
def spN (K : PySem.W.Frag) (ct : Nat → Addr) (n : Nat) (F : List D → R (List D)) : Sp := fun vs H Q E => ∃ ds G, ds.length = n ∧ Fz G H ∧ RpAll K G vs ds ∧ match F ds with
  | .ok es => ∀ p ws G' H', Ext [] G H [] [] G' H' [] → Fz G' H' → H p = none → H' p = some (.lst ws) → G' p = none → es.length ≤ sizeLine → RpAll K G' ws es → Q (.ref p) H'
  | .err c xs => ErrOk ct H c xs E
  | .bad => False
def spS (K : PySem.W.Frag) (n : Nat) (F : List D → List D → R (D × List D)) : Sp := fun vs H Q E => ∃ p sv ss ws ds G, vs = .ref p :: ws ∧ ds.length = n ∧ Fz G H ∧ RpAll K G ws ds ∧ H p = some (.lst sv) ∧ G p = none ∧ ss.length ≤ sizeLine ∧ RpAll K G sv ss ∧ match F ss ds with
  | .ok (d, ss') => ∀ v G' H' sv', Ext [.own true ss] G H [some (.ref p)] [.own true ss'] G' H' [some (.ref p)] → Fz G' H' → H' p = some (.lst sv') → G' p = none → ss'.length ≤ sizeLine → RpAll K G' sv' ss' → Rp K G' v d → Q v H'
  | _ => False

section
variable {K : PySem.W.Frag} {G H : Hp}
theorem fill_len {n : Nat} {cs : List C} (h : cs.length ≤ n) : (unfill n cs).length = n := by
  unfold unfill
  rw [List.length_append, List.length_replicate]
  omega
theorem start_len {N : List Str} {vs : List V} (h : vs.length ≤ N.length) : (L2.start N vs).length = N.length := by
  unfold L2.start
  rw [List.length_append, List.length_map, List.length_replicate]
  omega
theorem start_at {N : List Str} {vs : List V} {i : Nat} {v : V} (h : vs[i]? = some v) : (L2.start N vs)[i]? = some (some v) := by
  unfold L2.start
  have hi := (List.getElem?_eq_some_iff.mp h).1
  rw [List.getElem?_append_left (by simpa using hi), List.getElem?_map, h]
  rfl
theorem fill_at {n : Nat} {cs : List C} {i : Nat} {c : C} (h : (unfill n cs)[i]? = some c) (hc : c ≠ .un) : cs[i]? = some c := by
  unfold unfill at h
  by_cases hi : i < cs.length
  · rwa [List.getElem?_append_left hi] at h
  · rw [List.getElem?_append_right (by omega), List.getElem?_replicate] at h
    split at h
    · exact absurd (Option.some.inj h).symm hc
    · cases h
theorem rel_start {N : List Str} {vs : List V} {ds : List D} (fz : Fz G H) (ha : RpAll K G vs ds) (hl : vs.length ≤ N.length) : Rel K (unfill N.length (ds.map .dat)) G (L2.start N vs) H := by
  have hlen := RpAll.length ha
  have nown : ∀ {i : Nat} {t : Bool} {es : List D}, (unfill N.length (ds.map .dat))[i]? = some (.own t es) → False := fun {i t es} h => by
    have := fill_at h (fun z => nomatch z)
    rw [List.getElem?_map] at this
    cases q : ds[i]? with
    | none => rw [q] at this; cases this
    | some d => rw [q] at this; cases this
  refine ⟨by rw [fill_len (by rw [List.length_map]; omega), start_len hl], fz.same, fz.nt, fun i d h => ?_, fun i t es h => (nown h).elim, fun i j p t u es fs h => (nown h).elim⟩
  have := fill_at h (fun z => nomatch z)
  rw [List.getElem?_map] at this
  cases q : ds[i]? with
  | none => rw [q] at this; cases this
  | some e =>
    rw [q] at this
    cases this
    obtain ⟨v, h1, h2⟩ := ha.get q
    exact ⟨v, start_at h1, h2⟩
theorem no_ow {N : List Str} {vs : List V} {ds : List D} {n : Nat} {σ : L2.St} {t : Bool} {b : Addr} : ¬ Ow t (unfill n (ds.map .dat)) σ b := fun ⟨i, es, h, _⟩ => by
  have := fill_at h (fun z => nomatch z)
  rw [List.getElem?_map] at this
  cases q : ds[i]? with
  | none => rw [q] at this; cases this
  | some d => rw [q] at this; cases this
theorem ext_out {δ δ' : List C} {σ σ' : L2.St} {G' H' : Hp} (h : ∀ t b, ¬ Ow t δ σ b) (x : Ext δ G H σ δ' G' H' σ') : Ext [] G H [] [] G' H' [] :=
  ⟨fun b o e n _ => x.keep b o e n fun ⟨t, z⟩ => h t b z, x.there, x.same, fun b o e => (x.new b o e).imp id fun z => z.elim .inl fun z => absurd z (h false b), fun b ⟨i, es, z, _⟩ => by simp at z, fun b ⟨i, es, z, _⟩ => by simp at z, x.tabs⟩
theorem eext_out {δ : List C} {σ : L2.St} {H' : Hp} (h : ∀ t b, ¬ Ow t δ σ b) (x : EExt δ σ H H') : EExt [] [] H H' := ⟨fun b o e n _ => x.keep b o e n fun ⟨t, z⟩ => h t b z, x.there, x.tabs⟩
theorem Ext.in {δ : List C} {σ : L2.St} {G' H' : Hp} (x : Ext [] G H [] [] G' H' []) : Ext δ G H σ δ G' H' σ :=
  ⟨fun b o e n _ => x.keep b o e n fun ⟨t, i, es, z, _⟩ => by simp at z, x.there, x.same, fun b o e => (x.new b o e).imp id fun z => z.elim .inl fun ⟨i, es, z, _⟩ => by simp at z, fun b z => .inl z, fun b z => z, x.tabs⟩
theorem EExt.in {δ : List C} {σ : L2.St} {H' : Hp} (x : EExt [] [] H H') : EExt δ σ H H' := ⟨fun b o e n _ => x.keep b o e n fun ⟨t, i, es, z, _⟩ => by simp at z, x.there, x.tabs⟩
/-- the caller's slots behind a call -/
theorem rel_in {δ : List C} {σ : L2.St} {G' H' : Hp} (r : Rel K δ G σ H) (x : Ext [] G H [] [] G' H' []) (fz : Fz G' H') : Rel K δ G' σ H' := by
  refine ⟨r.len, fz.same, fz.nt, fun i d h => ?_, fun i t ds h => ?_, r.inj⟩
  · obtain ⟨v, h1, h2⟩ := r.dat i d h
    exact ⟨v, h1, h2.mono x.same⟩
  · obtain ⟨p, vs, h1, h2, h3, h4, h5⟩ := r.own i t ds h
    refine ⟨p, vs, h1, x.keep _ _ h2 nt_lst fun ⟨t, i, es, z, _⟩ => by simp at z, ?_, h4, h5.mono x.same⟩
    cases q : G' p with
    | none => rfl
    | some o =>
      rcases x.new p o q with z | z | ⟨i, es, z, _⟩
      · rw [h3] at z; cases z
      · rw [h2] at z; cases z
      · simp at z
end

/-- what is wished of an exception in a def's body -/
abbrev WE' (E : XK) : WX := fun cls d _ H => E cls d H
section
variable {P : Program} {w : World} {K : PySem.W.Frag} {mg : Str → Option Value} {base : Heap} {ct : Nat → Addr} {x qual : Str} {st : Stmt} {f : Addr} {fd : FuncData} {N ps : List Str} {k n : Nat} {body : MS}
theorem fn_bad {sp : Sp} (h : ∀ vs H Q E, ¬ sp vs H Q E) : FnOk P w K mg base (L2.CX P w) k f fd ps sp := ⟨fun vs H Q E z => absurd z (h vs H Q E), fun A outer s H args us vs Q E _ _ _ _ z => absurd z (h vs H Q E)⟩
theorem fnD_ok (F : Fun K x qual st f fd) (S : FnScope N ps (defScope st)) (hps : ps.length = n) (hn : ps.length ≤ N.length)
    (hb : ∀ (cdv : Value) (A : Around) (outer : List Env) (s : Shared) (H : Hp) (E : XK), Room k (cxOf (L2.CX P w) P w K mg base N qual (defScope st) f cdv A outer s H E).A → Takes (cxOf (L2.CX P w) P w K mg base N qual (defScope st) f cdv A outer s H E) (WE' E) →
      PassesOwn (model P w) (cxOf (L2.CX P w) P w K mg base N qual (defScope st) f cdv A outer s H E).A (cxOf (L2.CX P w) P w K mg base N qual (defScope st) f cdv A outer s H E).env (cxOf (L2.CX P w) P w K mg base N qual (defScope st) f cdv A outer s H E).xe →
      VSs ct (WE' E) (cxOf (L2.CX P w) P w K mg base N qual (defScope st) f cdv A outer s H E) (defBody st) body) : FnOk P w K mg base (L2.CX P w) (k + 1) f fd ps (spD K ct n (fnD N.length body)) := by
  refine F.okX S (fun vs H Q E ⟨ds, G, hl, fz, ha, _⟩ => by rw [RpAll.length ha, hl, hps]) fun cdv A outer s H vs Q E hr ⟨ds, G, hl, fz, ha, hq⟩ => ?_
  refine ⟨_, hb cdv A outer s H E hr (takes_of rfl rfl rfl rfl) (passes_of rfl), unfill N.length (ds.map .dat), G, rel_start fz ha (by rw [RpAll.length ha, hl, ← hps]; exact hn), ?_⟩
  have now : ∀ t b, ¬ Ow t (unfill N.length (ds.map .dat)) (L2.start N vs) b := fun t b => no_ow (N := N) (vs := vs)
  unfold fnD at hq
  cases eb : body (unfill N.length (ds.map .dat)) with
  | bad => rw [eb] at hq; exact hq.elim
  | err c xs =>
    rw [eb] at hq
    exact fun cls dx σ' H' x' e => hq cls dx H' (eext_out now x') e
  | ok pr =>
    obtain ⟨fl, c1⟩ := pr
    rw [eb] at hq
    cases fl with
    | nx => exact fun σ' G' H' x' r' => hq .non G' H' (ext_out now x') ⟨r'.same, r'.nt⟩ .non
    | bk => exact hq.elim
    | ct => exact hq.elim
    | rt d => exact fun v σ' G' H' x' r' rp => hq v G' H' (ext_out now x') ⟨r'.same, r'.nt⟩ rp
    | rn es =>
        intro p ws σ' G' H' x' r' h1 h2 h3 h4 h5 h6
        have hp : H p = none := h5.elim (fun z => absurd z (now false p)) id
        have xo := ext_out now x'
        have sg : Same G' (upd G' p (.lst ws)) := same_upd h2
        refine hq (.ref p) (upd G' p (.lst ws)) H' ⟨xo.keep, xo.there, xo.same.trans sg, fun b o e => ?_, xo.own, xo.par, xo.tabs⟩ ⟨fun b o e => ?_, fun b o e => ?_⟩ (.lst upd_same h3 (h4.mono sg))
        · by_cases q : b = p
          · subst q; exact .inr (.inl hp)
          · rw [upd_ne q] at e; exact xo.new b o e
        · by_cases q : b = p
          · subst q; rw [upd_same] at e; cases e; exact h1
          · rw [upd_ne q] at e; exact r'.same b o e
        · by_cases q : b = p
          · subst q; rw [upd_same] at e; cases e; exact nt_lst
          · rw [upd_ne q] at e; exact r'.nt b o e
theorem fnN_ok (F : Fun K x qual st f fd) (S : FnScope N ps (defScope st)) (hps : ps.length = n) (hn : ps.length ≤ N.length)
    (hb : ∀ (cdv : Value) (A : Around) (outer : List Env) (s : Shared) (H : Hp) (E : XK), Room k (cxOf (L2.CX P w) P w K mg base N qual (defScope st) f cdv A outer s H E).A → Takes (cxOf (L2.CX P w) P w K mg base N qual (defScope st) f cdv A outer s H E) (WE' E) →
      PassesOwn (model P w) (cxOf (L2.CX P w) P w K mg base N qual (defScope st) f cdv A outer s H E).A (cxOf (L2.CX P w) P w K mg base N qual (defScope st) f cdv A outer s H E).env (cxOf (L2.CX P w) P w K mg base N qual (defScope st) f cdv A outer s H E).xe →
      VSs ct (WE' E) (cxOf (L2.CX P w) P w K mg base N qual (defScope st) f cdv A outer s H E) (defBody st) body) : FnOk P w K mg base (L2.CX P w) (k + 1) f fd ps (spN K ct n (fnN N.length body)) := by
  refine F.okX S (fun vs H Q E ⟨ds, G, hl, fz, ha, _⟩ => by rw [RpAll.length ha, hl, hps]) fun cdv A outer s H vs Q E hr ⟨ds, G, hl, fz, ha, hq⟩ => ?_
  refine ⟨_, hb cdv A outer s H E hr (takes_of rfl rfl rfl rfl) (passes_of rfl), unfill N.length (ds.map .dat), G, rel_start fz ha (by rw [RpAll.length ha, hl, ← hps]; exact hn), ?_⟩
  have now : ∀ t b, ¬ Ow t (unfill N.length (ds.map .dat)) (L2.start N vs) b := fun t b => no_ow (N := N) (vs := vs)
  unfold fnN at hq
  cases eb : body (unfill N.length (ds.map .dat)) with
  | bad => rw [eb] at hq; exact hq.elim
  | err c xs =>
    rw [eb] at hq
    exact fun cls dx σ' H' x' e => hq cls dx H' (eext_out now x') e
  | ok pr =>
    obtain ⟨fl, c1⟩ := pr
    rw [eb] at hq
    cases fl with
    | nx => exact hq.elim
    | bk => exact hq.elim
    | ct => exact hq.elim
    | rt d => exact hq.elim
    | rn es =>
        intro p ws σ' G' H' x' r' h1 h2 h3 h4 h5 h6
        exact hq p ws G' H' (ext_out now x') ⟨r'.same, r'.nt⟩ (h5.elim (fun z => absurd z (now false p)) id) h1 h2 h3 h4
/-- the state's slot at the entry -/
theorem rel_startS {vs : List V} {ds ss : List D} {p : Addr} {sv : List V} {G H : Hp} (fz : Fz G H) (ha : RpAll K G vs ds) (h1 : H p = some (.lst sv)) (h2 : G p = none) (h3 : ss.length ≤ sizeLine) (h4 : RpAll K G sv ss) (hl : vs.length + 1 ≤ N.length) :
    Rel K (unfill N.length (.own true ss :: ds.map .dat)) G (L2.start N (.ref p :: vs)) H := by
  have hlen := RpAll.length ha
  have kown : ∀ {i : Nat} {t : Bool} {es : List D}, (unfill N.length (.own true ss :: ds.map .dat))[i]? = some (.own t es) → i = 0 ∧ t = true ∧ es = ss := fun {i t es} h => by
    have := fill_at h (fun z => nomatch z)
    cases i with
    | zero =>
      simp at this
      exact ⟨rfl, this.1, this.2.symm⟩
    | succ i =>
      rw [List.getElem?_cons_succ, List.getElem?_map] at this
      cases q : ds[i]? with
      | none => rw [q] at this; cases this
      | some d => rw [q] at this; cases this
  refine ⟨by rw [fill_len (by rw [List.length_cons, List.length_map]; omega), start_len (by rw [List.length_cons]; exact hl)], fz.same, fz.nt, fun i d h => ?_, fun i t es h => ?_, fun i j p t u es fs e1 e2 _ _ => by rw [(kown e1).1, (kown e2).1]⟩
  · have := fill_at h (fun z => nomatch z)
    cases i with
    | zero => simp at this
    | succ i =>
      rw [List.getElem?_cons_succ, List.getElem?_map] at this
      cases q : ds[i]? with
      | none => rw [q] at this; cases this
      | some e =>
        rw [q] at this
        cases this
        obtain ⟨v, k1, k2⟩ := ha.get q
        exact ⟨v, start_at (by rw [List.getElem?_cons_succ]; exact k1), k2⟩
  · obtain ⟨e1, e2, e3⟩ := kown h
    subst e1 e2 e3
    exact ⟨p, sv, start_at rfl, h1, h2, h3, h4⟩
theorem ow_startS {vs : List V} {ds ss : List D} {p b : Addr} {n : Nat} {t : Bool} (h : Ow t (unfill n (.own true ss :: ds.map .dat)) (L2.start N (.ref p :: vs)) b) : t = true ∧ b = p := by
  obtain ⟨i, es, h1, h2⟩ := h
  have := fill_at h1 (fun z => nomatch z)
  cases i with
  | zero =>
    simp at this
    rw [start_at (v := .ref p) rfl] at h2
    cases h2
    exact ⟨this.1, rfl⟩
  | succ i =>
    rw [List.getElem?_cons_succ, List.getElem?_map] at this
    cases q : ds[i]? with
    | none => rw [q] at this; cases this
    | some d => rw [q] at this; cases this
theorem fnS_ok (F : Fun K x qual st f fd) (S : FnScope N ps (defScope st)) (hps : ps.length = n + 1) (hn : ps.length ≤ N.length)
    (hb : ∀ (cdv : Value) (A : Around) (outer : List Env) (s : Shared) (H : Hp) (E : XK), Room k (cxOf (L2.CX P w) P w K mg base N qual (defScope st) f cdv A outer s H E).A → Takes (cxOf (L2.CX P w) P w K mg base N qual (defScope st) f cdv A outer s H E) (WE' E) →
      PassesOwn (model P w) (cxOf (L2.CX P w) P w K mg base N qual (defScope st) f cdv A outer s H E).A (cxOf (L2.CX P w) P w K mg base N qual (defScope st) f cdv A outer s H E).env (cxOf (L2.CX P w) P w K mg base N qual (defScope st) f cdv A outer s H E).xe →
      VSs ct (WE' E) (cxOf (L2.CX P w) P w K mg base N qual (defScope st) f cdv A outer s H E) (defBody st) body) : FnOk P w K mg base (L2.CX P w) (k + 1) f fd ps (spS K n (fnS N.length body)) := by
  refine F.okX S (fun vs H Q E ⟨p, sv, ss, ws, ds, G, ev, hl, fz, ha, _⟩ => by rw [ev, List.length_cons, RpAll.length ha, hl, hps]) fun cdv A outer s H vs Q E hr ⟨p, sv, ss, ws, ds, G, ev, hl, fz, ha, h1, h2, h3, h4, hq⟩ => ?_
  subst ev
  have rel := rel_startS (N := N) fz ha h1 h2 h3 h4 (by rw [RpAll.length ha, hl, ← hps]; exact hn)
  refine ⟨_, hb cdv A outer s H E hr (takes_of rfl rfl rfl rfl) (passes_of rfl), unfill N.length (.own true ss :: ds.map .dat), G, rel, ?_⟩
  -- behind the body: the first slot is still the state's
  have fin : ∀ {c1 : List C} {ss' : List D} {σ' : L2.St} {G' H' : Hp}, c1.head? = some (.own true ss') → Ext (unfill N.length (.own true ss :: ds.map .dat)) G H (L2.start N (.ref p :: ws)) c1 G' H' σ' → Rel K c1 G' σ' H' →
      Ext [.own true ss] G H [some (.ref p)] [.own true ss'] G' H' [some (.ref p)] ∧ ∃ sv', H' p = some (.lst sv') ∧ G' p = none ∧ ss'.length ≤ sizeLine ∧ RpAll K G' sv' ss' := fun {c1 ss' σ' G' H'} e0 x' r' => by
    have e0 : c1[0]? = some (.own true ss') := by rw [← List.head?_eq_getElem?]; exact e0
    obtain ⟨q, sv', b1, b2, b3, b4, b5⟩ := r'.own 0 true ss' e0
    obtain ⟨_, e⟩ := ow_startS (x'.par q ⟨0, ss', e0, b1⟩)
    subst e
    have one : ∀ {t : Bool} {b : Addr} {es : List D}, Ow t [.own true es] [some (V.ref q)] b → t = true ∧ b = q := fun {t b es} ⟨i, fs, z1, z2⟩ => by
      cases i with
      | zero => simp at z1 z2; exact ⟨z1.1, z2.symm⟩
      | succ i => simp at z1
    refine ⟨⟨fun b o e n nb => x'.keep b o e n fun ⟨t, z⟩ => ?_, x'.there, x'.same, fun b o e => ?_, fun b z => ?_, fun b z => ?_, x'.tabs⟩, sv', b2, b3, b4, b5⟩
    · obtain ⟨e1, e2⟩ := ow_startS z
      subst e1 e2
      exact nb ⟨true, 0, ss, rfl, rfl⟩
    · rcases x'.new b o e with z | z | z
      · exact .inl z
      · exact .inr (.inl z)
      · exact absurd (ow_startS z).1 Bool.false_ne_true
    · exact absurd (one z).1 Bool.false_ne_true
    · rw [(one z).2]
      exact ⟨0, ss, rfl, rfl⟩
  unfold fnS at hq
  cases eb : body (unfill N.length (.own true ss :: ds.map .dat)) with
  | bad => rw [eb] at hq; exact hq.elim
  | err c xs => rw [eb] at hq; exact hq.elim
  | ok pr =>
    obtain ⟨fl, c1⟩ := pr
    rw [eb] at hq
    cases fl with
    | nx => exact hq.elim
    | bk => exact hq.elim
    | ct => exact hq.elim
    | rt d =>
      intro v σ' G' H' x' r' rp
      cases e0 : c1.head? with
      | none => simp only [e0] at hq
      | some c =>
        cases c with
        | un => simp only [e0] at hq
        | dat d => simp only [e0] at hq
        | own t ss' =>
          cases t with
          | false => simp only [e0] at hq
          | true =>
            simp only [e0] at hq
            obtain ⟨xo, sv', c1', c2', c3', c4'⟩ := fin e0 x' r'
            exact hq v G' H' sv' xo ⟨r'.same, r'.nt⟩ c1' c2' c3' c4' rp
    | rn es =>
      intro q ws' σ' G' H' x' r' k1 k2 k3 k4 k5 k6
      cases e0 : c1.head? with
      | none => simp only [e0] at hq
      | some c =>
        cases c with
        | un => simp only [e0] at hq
        | dat d => simp only [e0] at hq
        | own t ss' =>
          cases t with
          | false => simp only [e0] at hq
          | true =>
            simp only [e0] at hq
            obtain ⟨xo, sv', c1', c2', c3', c4'⟩ := fin e0 x' r'
            have hpq : H q = none := k5.elim (fun z => absurd (ow_startS z).1 Bool.false_ne_true) id
            have npq : p ≠ q := ne_of_none h1 hpq
            have sg : Same G' (upd G' q (.lst ws')) := same_upd k2
            refine hq (.ref q) (upd G' q (.lst ws')) H' sv' ⟨xo.keep, xo.there, xo.same.trans sg, fun b o e => ?_, xo.own, xo.par, xo.tabs⟩ ⟨fun b o e => ?_, fun b o e => ?_⟩ c1' (by rw [upd_ne npq]; exact c2') c3' (c4'.mono sg) (.lst upd_same k3 (k4.mono sg))
            · by_cases z : b = q
              · subst z; exact .inr (.inl hpq)
              · rw [upd_ne z] at e; exact xo.new b o e
            · by_cases z : b = q
              · subst z; rw [upd_same] at e; cases e; exact k1
              · rw [upd_ne z] at e; exact r'.same b o e
            · by_cases z : b = q
              · subst z; rw [upd_same] at e; cases e; exact nt_lst
              · rw [upd_ne z] at e; exact r'.nt b o e
end

/-! ### calls -/
def mCall (n : Nat) (F : List D → R D) (ms : M (List D)) : M D := M.bind ms fun ds => if ds.length = n then M.lift (F ds) else fun _ => .bad
def mCallN (n : Nat) (F : List D → R (List D)) (ms : M (List D)) : M (List D) := M.bind ms fun ds => if ds.length = n then M.lift (F ds) else fun _ => .bad
def stPut (i : Nat) (F : List D → R (D × List D)) : M D := fun cs => match cs[i]? with
  | some (.own t ss) => match F ss with
    | .ok (d, ss') => .ok (d, cs.set i (.own t ss'))
    | _ => .bad
  | _ => .bad
def mCallS (n i : Nat) (F : List D → List D → R (D × List D)) (ms : M (List D)) : M D := fun cs => if isOwn cs i then (M.bind ms fun ds => if ds.length = n then stPut i fun ss => F ss ds else fun _ => .bad) cs else .bad
section
variable {ct : Nat → Addr} {W : WX} {X : Cx} {f : Addr} {fd : FuncData} {ps : List Str} {k n i : Nat} {Fd : List D → R D} {Fn : List D → R (List D)} {Fs : List D → List D → R (D × List D)} {e o : Expr} {es : List Expr} {ms : M (List D)} {x : Str} {p pos : Pos}
abbrev anyW (W : WX) : XK := fun cls d H => ∀ σ, W cls d σ H
theorem passAny (tk : Takes X W) : Passes (L2.CX X.prog X.w) X (anyW W) := passes_call tk fun _ _ σ _ h => h σ
theorem call_core {K : PySem.W.Frag} {σ : L2.St} {H : Hp} {Q : VK} (h : tG K ct W (PD K) (mCall n Fd ms) σ H Q) : tCall (spD K ct n Fd) [] (anyW W) (tG K ct W (PAs K) ms) σ H Q :=
  tG.step h fun ds δ1 vs G1 H1 r1 p1 h1 => by
    have p1 : RpAll K G1 vs ds := p1
    by_cases hl : ds.length = n
    · simp only [hl, if_true] at h1
      rw [List.append_nil]
      refine ⟨ds, G1, hl, ⟨r1.same, r1.nt⟩, p1, ?_⟩
      cases ef : Fd ds with
      | ok d =>
        simp only [ef, M.lift] at h1
        exact fun v G' H' x fz rp => h1 v G' H' x.in (rel_in r1 x fz) rp
      | err c xs =>
        simp only [ef, M.lift] at h1
        exact fun cls dx H' x e σ' => h1 cls dx σ' H' x.in e
      | bad => simp only [ef, M.lift] at h1; exact h1.elim
    · simp only [hl, if_false] at h1
      exact h1.elim
theorem callN_core {K : PySem.W.Frag} {σ : L2.St} {H : Hp} {Q : VK} (h : tG K ct W (PN K) (mCallN n Fn ms) σ H Q) : tCall (spN K ct n Fn) [] (anyW W) (tG K ct W (PAs K) ms) σ H Q :=
  tG.step h fun ds δ1 vs G1 H1 r1 p1 h1 => by
    have p1 : RpAll K G1 vs ds := p1
    by_cases hl : ds.length = n
    · simp only [hl, if_true] at h1
      rw [List.append_nil]
      refine ⟨ds, G1, hl, ⟨r1.same, r1.nt⟩, p1, ?_⟩
      cases ef : Fn ds with
      | ok d =>
        simp only [ef, M.lift] at h1
        exact fun p ws G' H' x fz a b c d e => h1 _ G' H' x.in (rel_in r1 x fz) ⟨p, ws, rfl, a, b, c, fresh_not r1 a, d, e⟩
      | err c xs =>
        simp only [ef, M.lift] at h1
        exact fun cls dx H' x e σ' => h1 cls dx σ' H' x.in e
      | bad => simp only [ef, M.lift] at h1; exact h1.elim
    · simp only [hl, if_false] at h1
      exact h1.elim
theorem stPut_at {F : List D → R (D × List D)} {cs cs' : List C} {d : D} (h : stPut i F cs = .ok (d, cs')) : ∃ t ss ss', cs[i]? = some (.own t ss) ∧ F ss = .ok (d, ss') ∧ cs' = cs.set i (.own t ss') := by
  unfold stPut at h
  split at h
  · split at h
    · cases h
      exact ⟨_, _, _, by assumption, by assumption, rfl⟩
    · cases h
  · cases h
theorem stPut_err {F : List D → R (D × List D)} {cs : List C} {c : Nat} {xs : List D} : stPut i F cs ≠ .err c xs := fun h => by
  unfold stPut at h
  split at h
  · split at h <;> cases h
  · cases h
theorem callS_core {K : PySem.W.Frag} {σ : L2.St} {H : Hp} {Q : VK} (h : tG K ct W (PD K) (mCallS n i Fs ms) σ H Q) : tCall (spS K n Fs) [] (anyW W) (tCons (tVar i) (tG K ct W (PAs K) ms)) σ H Q := by
  obtain ⟨δ, G, rel, h⟩ := h
  unfold mCallS at h
  cases ho : isOwn δ i with
  | false => rw [ho] at h; exact h.elim
  | true =>
    rw [ho, if_pos rfl] at h
    obtain ⟨t0, ds0, e0⟩ := isOwn_at ho
    obtain ⟨p, vs0, a1, a2, a3, a4, a5⟩ := rel.own i t0 ds0 e0
    refine ⟨.ref p, a1, δ, G, rel, TW.step rel h fun ds δ1 vs G1 H1 _ x1 r1 p1 h1 => ?_⟩
    have p1 : RpAll K G1 vs ds := p1
    by_cases hl : ds.length = n
    · simp only [hl, if_true] at h1
      show spS K n Fs ((V.ref p :: vs) ++ []) H1 Q (anyW W)
      rw [List.append_nil]
      cases eo : stPut i (fun ss => Fs ss ds) δ1 with
      | bad => rw [eo] at h1; exact h1.elim
      | err c xs => exact absurd eo stPut_err
      | ok pr =>
        obtain ⟨d, δ2⟩ := pr
        rw [eo] at h1
        obtain ⟨t, ss, ss', e1, ef, e4⟩ := stPut_at eo
        subst e4
        obtain ⟨p', sv, b1, b2, b3, b4, b5⟩ := r1.own i t ss e1
        rw [a1] at b1
        cases b1
        refine ⟨p, sv, ss, vs, ds, G1, rfl, hl, ⟨r1.same, r1.nt⟩, p1, b2, b3, b4, b5, ?_⟩
        rw [ef]
        intro v G' H' sv' x fz c1 c2 c3 c4 rp
        have hi : i < δ1.length := (List.getElem?_eq_some_iff.mp e1).1
        have one : ∀ {u : Bool} {b : Addr} {fs : List D}, Ow u [.own true fs] [some (V.ref p)] b → u = true ∧ b = p := fun {u b fs} ⟨j, gs, z1, z2⟩ => by
          cases j with
          | zero => simp at z1 z2; exact ⟨z1.1, z2.symm⟩
          | succ j => simp at z1
        have kp : ∀ {j : Nat} {u : Bool} {fs : List D}, (δ1.set i (.own t ss'))[j]? = some (.own u fs) → (j = i ∧ u = t ∧ fs = ss') ∨ (j ≠ i ∧ δ1[j]? = some (.own u fs)) := fun {j u fs} h => by
          by_cases q : j = i
          · subst q
            rw [List.getElem?_set_self hi] at h
            cases h
            exact .inl ⟨rfl, rfl, rfl⟩
          · rw [List.getElem?_set_ne (Ne.symm q)] at h
            exact .inr ⟨q, h⟩
        have ow : ∀ u b, Ow u (δ1.set i (.own t ss')) σ b → Ow u δ1 σ b := fun u b ⟨j, fs, z1, z2⟩ => by
          rcases kp z1 with ⟨z, z3, z4⟩ | ⟨z, q⟩
          · subst z z3 z4
            exact ⟨j, ss, e1, z2⟩
          · exact ⟨j, fs, q, z2⟩
        refine h1 v G' H' ⟨fun b o e nt nb => x.keep b o e nt fun ⟨u, z⟩ => nb ?_, x.there, x.same, fun b o e => ?_, fun b z => .inl (ow _ b z), fun b z => ow _ b z, x.tabs⟩ ⟨by rw [List.length_set]; exact r1.len, fz.same, fz.nt, fun j d q => ?_, fun j u fs q => ?_, fun j k q u v fs gs z1 z2 z3 z4 => ?_⟩ rp
        · rw [(one z).2]
          exact ⟨t, i, ss, e1, a1⟩
        · rcases x.new b o e with z | z | z
          · exact .inl z
          · exact .inr (.inl z)
          · exact absurd (one z).1 Bool.false_ne_true
        · have z : j ≠ i := fun z => by subst z; rw [List.getElem?_set_self hi] at q; cases q
          rw [List.getElem?_set_ne (Ne.symm z)] at q
          obtain ⟨y, k1, k2⟩ := r1.dat j d q
          exact ⟨y, k1, k2.mono x.same⟩
        · rcases kp q with ⟨z, z3, z4⟩ | ⟨z, q⟩
          · subst z z3 z4
            exact ⟨p, sv', a1, c1, c2, c3, c4⟩
          · obtain ⟨p', ys, k1, k2, k3, k4, k5⟩ := r1.own j u fs q
            have n : p' ≠ p := fun e => z (r1.inj j i p u t fs ss q e1 (e ▸ k1) a1)
            refine ⟨p', ys, k1, x.keep _ _ k2 nt_lst fun ⟨u, z⟩ => n (one z).2, ?_, k4, k5.mono x.same⟩
            cases qg : G' p' with
            | none => rfl
            | some o =>
              rcases x.new _ _ qg with z | z | z
              · rw [k3] at z; cases z
              · rw [k2] at z; cases z
              · exact absurd (one z).1 Bool.false_ne_true
        · have f1 : ∃ es', δ1[j]? = some (.own u es') := by
            rcases kp z1 with ⟨z, zz, _⟩ | ⟨_, q⟩
            · subst z zz; exact ⟨_, e1⟩
            · exact ⟨_, q⟩
          have f2 : ∃ es', δ1[k]? = some (.own v es') := by
            rcases kp z2 with ⟨z, zz, _⟩ | ⟨_, q⟩
            · subst z zz; exact ⟨_, e1⟩
            · exact ⟨_, q⟩
          obtain ⟨g1, f1⟩ := f1
          obtain ⟨g2, f2⟩ := f2
          exact r1.inj j k q u v g1 g2 f1 f2 z3 z4
    · simp only [hl, if_false] at h1
      exact h1.elim
theorem ve_call (F : FnOk X.prog X.w X.K X.mg X.base (L2.CX X.prog X.w) k f fd ps (spD X.K ct n Fd)) (hr : Room k X.A) (tk : Takes X W) (hg : Gl X x) (hm : X.mg x = some (.ref f)) (hk : PySem.W.keepIn X.K (.ref f) = true) (hb : Binds X.K fd ps []) (ha : VA ct W X (e :: es) ms)
    (hdb : (x == ("__debug__" : Str)) = false := by decide) (he : starEach (e :: es) X.env = (false, eval e X.env) :: starEach es X.env := by rfl) (hpl : (backTo pos (starEach es X.env)).any (·.1) = false := by rfl) :
    VE ct W X (.Call (.Name x p) (e :: es) [] pos) (mCall n Fd ms) := PE.conv (pe_call F hr hg hm hk hb .nil (passAny tk) ha hdb he hpl) fun _ _ _ h => call_core h
theorem vn_call (F : FnOk X.prog X.w X.K X.mg X.base (L2.CX X.prog X.w) k f fd ps (spN X.K ct n Fn)) (hr : Room k X.A) (tk : Takes X W) (hg : Gl X x) (hm : X.mg x = some (.ref f)) (hk : PySem.W.keepIn X.K (.ref f) = true) (hb : Binds X.K fd ps []) (ha : VA ct W X (e :: es) ms)
    (hdb : (x == ("__debug__" : Str)) = false := by decide) (he : starEach (e :: es) X.env = (false, eval e X.env) :: starEach es X.env := by rfl) (hpl : (backTo pos (starEach es X.env)).any (·.1) = false := by rfl) :
    VN ct W X (.Call (.Name x p) (e :: es) [] pos) (mCallN n Fn ms) := PE.conv (pe_call F hr hg hm hk hb .nil (passAny tk) ha hdb he hpl) fun _ _ _ h => callN_core h
theorem ve_callS (F : FnOk X.prog X.w X.K X.mg X.base (L2.CX X.prog X.w) k f fd ps (spS X.K n Fs)) (hr : Room k X.A) (tk : Takes X W) (hg : Gl X x) (hm : X.mg x = some (.ref f)) (hk : PySem.W.keepIn X.K (.ref f) = true) (hb : Binds X.K fd ps []) (ho : PE X e (tVar i)) (ha : VA ct W X es ms)
    (hdb : (x == ("__debug__" : Str)) = false := by decide) (he : starEach (e :: es) X.env = (false, eval e X.env) :: starEach es X.env := by rfl) (hpl : (backTo pos (starEach es X.env)).any (·.1) = false := by rfl) :
    VE ct W X (.Call (.Name x p) (e :: es) [] pos) (mCallS n i Fs ms) := PE.conv (pe_call F hr hg hm hk hb .nil (passAny tk) (pa_cons ho ha he) hdb he hpl) fun _ _ _ h => callS_core h
end
end TW

set_option Elab.async false
set_option linter.all false
set_option maxRecDepth 100000
namespace TW
open PySem PySem.Spec PyProof.Rows L2

/-! ### one operator, many kinds of things -/
def gOr (g g' : D → D → R D) : D → D → R D := fun d e => match g d e with
  | .ok z => .ok z
  | _ => g' d e
def rOr (r r' : R2) : R2 := fun x y H Q => r x y H Q ∨ r' x y H Q
section
variable {K : PySem.W.Frag} {X : Cx} {r r' : R2} {g g' : D → D → R D} {f : Value → Value → Sem Value}
theorem OpR.or (h : OpR X f r) (h' : OpR X f r') : OpR X f (rOr r r') := fun pins s σ H x y v u Q I rx ry q => by
  rcases q with q | q
  · exact h pins s σ H x y v u Q I rx ry q
  · exact h' pins s σ H x y v u Q I rx ry q
theorem R2D.or (h : R2D K r g) (h' : R2D K r' g') : R2D K (rOr r r') (gOr g g') := fun δ σ G H x y d e z Q rl hx hy hz q => by
  unfold gOr at hz
  cases e1 : g d e with
  | ok z' => rw [e1] at hz; cases hz; exact .inl (h δ σ G H x y d e _ Q rl hx hy e1 q)
  | err n xs => rw [e1] at hz; exact .inr (h' δ σ G H x y d e z Q rl hx hy hz q)
  | bad => rw [e1] at hz; exact .inr (h' δ σ G H x y d e z Q rl hx hy hz q)
/-- texts -/
def gCatS : D → D → R D
  | .str x, .str y => if szOk (x.length + y.length) then .ok (.str (x ++ y)) else .bad
  | _, _ => .bad
def rCatS : R2 := fun x y H Q => ∃ a b, x = .str a ∧ y = .str b ∧ a.length + b.length ≤ sizeLine ∧ Q (.str (a ++ b)) H
theorem op_catS : OpR X (binaryOp .Add) rCatS := fun pins s σ H x y v u Q I rx ry ⟨a, b, e1, e2, hz, q⟩ => op_add_str pins s σ H x y v u Q I rx ry ⟨a, b, e1, e2, hz, q⟩
theorem r2_CatS : R2D K rCatS gCatS := fun δ σ G H x y d e z Q r hx hy hz q => by
  unfold gCatS at hz
  split at hz
  · split at hz
    · rename_i hk
      cases hz
      exact ⟨_, _, hx.str, hy.str, szOk_le hk, q _ G H (Grow.refl r) (.str _)⟩
    · cases hz
  · cases hz
/-- lists, as data -/
def asD (g : D → D → R (List D)) : D → D → R D := fun d e => match g d e with
  | .ok ds => .ok (.list ds)
  | .err n xs => .err n xs
  | .bad => .bad
theorem R2N.asD {gn : D → D → R (List D)} (h : R2N K r gn) : R2D K r (asD gn) := fun δ σ G H x y d e z Q rl hx hy hz q => by
  unfold TW.asD at hz
  cases e1 : gn d e with
  | ok ds =>
    rw [e1] at hz
    cases hz
    exact h δ σ G H x y d e ds Q rl hx hy e1 fun p vs hp hl ha => q _ _ _ (Grow.laid rl.same rl.nt hp nt_lst) (.lst upd_same hl (RpAll.mono (same_upd (Same.free rl.same hp)) ha))
  | err n xs => rw [e1] at hz; cases hz
  | bad => rw [e1] at hz; cases hz
def gAdd : D → D → R D := gOr (gI (· + ·)) (gOr gCatT (gOr gCatS (asD gCatL)))
def rAddX (K : PySem.W.Frag) : R2 := rOr (rI0 fun i j => .int (i + j)) (rOr (rCatA K) (rOr rCatS rCat))
theorem op_addX : OpR X (binaryOp .Add) (rAddX X.K) := op_add.or (op_catA.or (op_catS.or op_cat))
theorem r2_addX : R2D K (rAddX K) gAdd := r2_I.or (r2_CatT.or (r2_CatS.or r2_CatL.asD))
def cMul (i j : Int) : Bool := decide (-18446744073709551616 < i ∧ i < 18446744073709551616) || decide (-18446744073709551616 < j ∧ j < 18446744073709551616)
theorem cMul_ok (i j : Int) (h : cMul i j = true) : CMul i j := by
  unfold cMul at h
  rw [Bool.or_eq_true] at h
  rcases h with h | h
  · exact .inl (by have := of_decide_eq_true h; omega)
  · exact .inr (by have := of_decide_eq_true h; omega)
def gMul : D → D → R D := gOr (gIC cMul (· * ·)) (asD gRepL)
def rMulX : R2 := rOr (rI CMul fun i j => .int (i * j)) rRep
theorem op_mulX : OpR X (binaryOp .Mult) rMulX := op_mul.or op_rep
theorem r2_mulX : R2D K rMulX gMul := (r2_IC cMul_ok).or r2_RepL.asD
def cDiv (i j : Int) : Bool := decide (0 < j ∧ j < 1073741824)
def cMod (i j : Int) : Bool := decide (0 < j)
def cPow (i j : Int) : Bool := decide (0 ≤ j ∧ j ≤ 1000000 ∧ i.natAbs < 18446744073709551616)
def gDiv : D → D → R D := gIC cDiv (· / ·)
def gMod : D → D → R D := gIC cMod (· % ·)
def gPow : D → D → R D := gIC cPow fun i j => i ^ j.toNat
def gSub : D → D → R D := gI (· - ·)
/-- a sign or a text in a text -/
def inS (neg : Bool) (x y : Str) : Bool := neg != !(Builtin.Str.occurrences y x 0 y.length 1).isEmpty
def gInS (neg : Bool) : D → D → R D
  | .str x, .str y => .ok (.bool (inS neg x y))
  | _, _ => .bad
def rInS (neg : Bool) : R2 := fun x y H Q => ∃ i j, x = .str i ∧ y = .str j ∧ Q (.bl (inS neg i j)) H
theorem op_inS : OpR X (compareOp .In) (rInS false) := fun pins s σ H x y v u Q I rx ry ⟨a, b, e1, e2, q⟩ => op_in_str pins s σ H x y v u Q I rx ry ⟨a, b, e1, e2, by unfold inS at q; rwa [Bool.false_bne] at q⟩
theorem op_notInS : OpR X (compareOp .NotIn) (rInS true) := fun pins s σ H x y v u Q I rx ry ⟨a, b, e1, e2, q⟩ => op_notin_str pins s σ H x y v u Q I rx ry ⟨a, b, e1, e2, by unfold inS at q; rwa [Bool.true_bne] at q⟩
theorem r2_InS {neg : Bool} : R2D K (rInS neg) (gInS neg) := fun δ σ G H x y d e z Q r hx hy hz q => by
  unfold gInS at hz
  split at hz
  · cases hz
    exact ⟨_, _, hx.str, hy.str, q _ G H (Grow.refl r) (.bl _)⟩
  · cases hz
def gInX (neg : Bool) : D → D → R D := gOr (gIn neg) (gInS neg)
end
section
variable {ct : Nat → Addr} {W : WX} {X : Cx} {a b c : Expr} {ma mb mc : M D} {pos : Pos} {k : Nat}
theorem u64 {A : Around} (hr : Room k A) : A.units + 64 < cLine := hr.units
theorem u65 {A : Around} (hr : Room k A) : A.units + 65 < cLine := by have := hr.un; omega
theorem ve_add (ha : VE ct W X a ma) (hb : VV ct W X b mb) : VE ct W X (.BinOp a .Add b pos) (mOp2 gAdd ma mb) := ve_op op_addX r2_addX ha hb
theorem ve_sub (ha : VE ct W X a ma) (hb : VV ct W X b mb) : VE ct W X (.BinOp a .Sub b pos) (mOp2 gSub ma mb) := ve_op op_sub r2_I ha hb
theorem ve_mul (ha : VE ct W X a ma) (hb : VV ct W X b mb) : VE ct W X (.BinOp a .Mult b pos) (mOp2 gMul ma mb) := ve_op op_mulX r2_mulX ha hb
theorem ve_div (ha : VE ct W X a ma) (hb : VV ct W X b mb) : VE ct W X (.BinOp a .FloorDiv b pos) (mOp2 gDiv ma mb) := ve_op op_fdiv (r2_IC (Cc := CDiv) fun i j h => by have := of_decide_eq_true h; exact this) ha hb
theorem ve_mod (ha : VE ct W X a ma) (hb : VV ct W X b mb) : VE ct W X (.BinOp a .Mod b pos) (mOp2 gMod ma mb) := ve_op op_mod (r2_IC (Cc := fun _ j => 0 < j) fun i j h => by have := of_decide_eq_true h; exact this) ha hb
theorem ve_pow (ha : VE ct W X a ma) (hb : VV ct W X b mb) : VE ct W X (.BinOp a .Pow b pos) (mOp2 gPow ma mb) := ve_op op_pow (r2_IC fun i j h => by have := of_decide_eq_true h; exact ⟨this.1, this.2.1, by omega⟩) ha hb
theorem vn_add (ha : VE ct W X a ma) (hb : VV ct W X b mb) : VN ct W X (.BinOp a .Add b pos) (mOp2N gCatL ma mb) := vn_op op_cat r2_CatL ha hb
theorem vn_mul (ha : VE ct W X a ma) (hb : VV ct W X b mb) : VN ct W X (.BinOp a .Mult b pos) (mOp2N gRepL ma mb) := vn_op op_rep r2_RepL ha hb
/-! comparisons: as values, as tests -/
theorem ve_eq (hr : Room k X.A) (ha : VE ct W X a ma) (hb : VV ct W X b mb) : VE ct W X (.Compare a [.Eq] [b] pos) (mOp2 gEq ma mb) := ve_cmp (op_eqD (u64 hr)) r2_Eq (nomark _) ha hb
theorem ve_ne (hr : Room k X.A) (ha : VE ct W X a ma) (hb : VV ct W X b mb) : VE ct W X (.Compare a [.NotEq] [b] pos) (mOp2 gNe ma mb) := ve_cmp (op_neD (u64 hr)) r2_Ne (nomark _) ha hb
theorem ve_lt (hr : Room k X.A) (ha : VE ct W X a ma) (hb : VV ct W X b mb) : VE ct W X (.Compare a [.Lt] [b] pos) (mOp2 (gOrd PySem.W.dataLt) ma mb) := ve_cmp (op_ltD (u64 hr)) r2_ord (nomark _) ha hb
theorem ve_gt (hr : Room k X.A) (ha : VE ct W X a ma) (hb : VV ct W X b mb) : VE ct W X (.Compare a [.Gt] [b] pos) (mOp2 (gOrd fun d e => PySem.W.dataLt e d) ma mb) := ve_cmp (op_gtD (u64 hr)) r2_ord (nomark _) ha hb
theorem ve_le (hr : Room k X.A) (ha : VE ct W X a ma) (hb : VV ct W X b mb) : VE ct W X (.Compare a [.LtE] [b] pos) (mOp2 (gOrd fun d e => !PySem.W.dataLt e d) ma mb) := ve_cmp (op_leD (u64 hr)) r2_ord (nomark _) ha hb
theorem ve_ge (hr : Room k X.A) (ha : VE ct W X a ma) (hb : VV ct W X b mb) : VE ct W X (.Compare a [.GtE] [b] pos) (mOp2 (gOrd fun d e => !PySem.W.dataLt d e) ma mb) := ve_cmp (op_geD (u64 hr)) r2_ord (nomark _) ha hb
theorem ve_in (hr : Room k X.A) (ha : VE ct W X a ma) (hb : VV ct W X b mb) (hm : behindInMarks .In b = false := by rfl) : VE ct W X (.Compare a [.In] [b] pos) (mOp2 (gInX false) ma mb) := ve_cmp ((op_inA (u65 hr)).or op_inS) (r2_In.or r2_InS) hm ha hb
theorem ve_nin (hr : Room k X.A) (ha : VE ct W X a ma) (hb : VV ct W X b mb) (hm : behindInMarks .NotIn b = false := by rfl) : VE ct W X (.Compare a [.NotIn] [b] pos) (mOp2 (gInX true) ma mb) := ve_cmp ((op_notInA (u65 hr)).or op_notInS) (r2_In.or r2_InS) hm ha hb
theorem ve_isN (ha : VE ct W X a ma) (hb : VV ct W X b mb) : VE ct W X (.Compare a [.Is] [b] pos) (mOp2 gIsN ma mb) := ve_cmp op_isN r2_IsN (nomark _) ha hb
theorem ve_notN (ha : VE ct W X a ma) (hb : VV ct W X b mb) : VE ct W X (.Compare a [.IsNot] [b] pos) (mOp2 gNotN ma mb) := ve_cmp op_notN r2_NotN (nomark _) ha hb
theorem ve_isB (ha : VE ct W X a ma) (hb : VV ct W X b mb) : VE ct W X (.Compare a [.Is] [b] pos) (mOp2 gIsB ma mb) := ve_cmp op_isBl r2_IsB (nomark _) ha hb
theorem ve_notB (ha : VE ct W X a ma) (hb : VV ct W X b mb) : VE ct W X (.Compare a [.IsNot] [b] pos) (mOp2 gNotB ma mb) := ve_cmp op_notBl r2_NotB (nomark _) ha hb
theorem vt_eq (hr : Room k X.A) (ha : VE ct W X a ma) (hb : VV ct W X b mb) : VT ct W X (.Compare a [.Eq] [b] pos) (mTest (mOp2 gEq ma mb)) := vt_cmp (op_eqD (u64 hr)) r2_Eq (nomark _) ha hb
theorem vt_ne (hr : Room k X.A) (ha : VE ct W X a ma) (hb : VV ct W X b mb) : VT ct W X (.Compare a [.NotEq] [b] pos) (mTest (mOp2 gNe ma mb)) := vt_cmp (op_neD (u64 hr)) r2_Ne (nomark _) ha hb
theorem vt_eqV (hr : Room k X.A) (ha : VV ct W X a ma) (hp : Pure mb) (hb : VV ct W X b mb) : VT ct W X (.Compare a [.Eq] [b] pos) (mTest (mOp2 gEq ma mb)) := vt_cmpV (op_eqD (u64 hr)) r2_Eq (nomark _) ha hp hb
theorem vt_neV (hr : Room k X.A) (ha : VV ct W X a ma) (hp : Pure mb) (hb : VV ct W X b mb) : VT ct W X (.Compare a [.NotEq] [b] pos) (mTest (mOp2 gNe ma mb)) := vt_cmpV (op_neD (u64 hr)) r2_Ne (nomark _) ha hp hb
theorem vt_lt (hr : Room k X.A) (ha : VE ct W X a ma) (hb : VV ct W X b mb) : VT ct W X (.Compare a [.Lt] [b] pos) (mTest (mOp2 (gOrd PySem.W.dataLt) ma mb)) := vt_cmp (op_ltD (u64 hr)) r2_ord (nomark _) ha hb
theorem vt_gt (hr : Room k X.A) (ha : VE ct W X a ma) (hb : VV ct W X b mb) : VT ct W X (.Compare a [.Gt] [b] pos) (mTest (mOp2 (gOrd fun d e => PySem.W.dataLt e d) ma mb)) := vt_cmp (op_gtD (u64 hr)) r2_ord (nomark _) ha hb
theorem vt_le (hr : Room k X.A) (ha : VE ct W X a ma) (hb : VV ct W X b mb) : VT ct W X (.Compare a [.LtE] [b] pos) (mTest (mOp2 (gOrd fun d e => !PySem.W.dataLt e d) ma mb)) := vt_cmp (op_leD (u64 hr)) r2_ord (nomark _) ha hb
theorem vt_ge (hr : Room k X.A) (ha : VE ct W X a ma) (hb : VV ct W X b mb) : VT ct W X (.Compare a [.GtE] [b] pos) (mTest (mOp2 (gOrd fun d e => !PySem.W.dataLt d e) ma mb)) := vt_cmp (op_geD (u64 hr)) r2_ord (nomark _) ha hb
theorem vt_in (hr : Room k X.A) (ha : VE ct W X a ma) (hb : VV ct W X b mb) (hm : behindInMarks .In b = false := by rfl) : VT ct W X (.Compare a [.In] [b] pos) (mTest (mOp2 (gInX false) ma mb)) := vt_cmp ((op_inA (u65 hr)).or op_inS) (r2_In.or r2_InS) hm ha hb
theorem vt_nin (hr : Room k X.A) (ha : VE ct W X a ma) (hb : VV ct W X b mb) (hm : behindInMarks .NotIn b = false := by rfl) : VT ct W X (.Compare a [.NotIn] [b] pos) (mTest (mOp2 (gInX true) ma mb)) := vt_cmp ((op_notInA (u65 hr)).or op_notInS) (r2_In.or r2_InS) hm ha hb
theorem vt_isN (ha : VE ct W X a ma) (hb : VV ct W X b mb) : VT ct W X (.Compare a [.Is] [b] pos) (mTest (mOp2 gIsN ma mb)) := vt_cmp op_isN r2_IsN (nomark _) ha hb
theorem vt_notN (ha : VE ct W X a ma) (hb : VV ct W X b mb) : VT ct W X (.Compare a [.IsNot] [b] pos) (mTest (mOp2 gNotN ma mb)) := vt_cmp op_notN r2_NotN (nomark _) ha hb
theorem vt_isB (ha : VE ct W X a ma) (hb : VV ct W X b mb) : VT ct W X (.Compare a [.Is] [b] pos) (mTest (mOp2 gIsB ma mb)) := vt_cmp op_isBl r2_IsB (nomark _) ha hb
theorem vt_notB (ha : VE ct W X a ma) (hb : VV ct W X b mb) : VT ct W X (.Compare a [.IsNot] [b] pos) (mTest (mOp2 gNotB ma mb)) := vt_cmp op_notBl r2_NotB (nomark _) ha hb
/-- a op b op' c of the order -/
def oLt : D → D → R D := gOrd PySem.W.dataLt
def oLe : D → D → R D := gOrd fun d e => !PySem.W.dataLt e d
theorem ve_leLt (hr : Room k X.A) (ha : VE ct W X a ma) (hb : VE ct W X b mb) (hc : VV ct W X c mc) (hm : lastMarks [CmpOp.LtE, CmpOp.Lt] [b, c] = false := by with_unfolding_all rfl) : VE ct W X (.Compare a [.LtE, .Lt] [b, c] pos) (mChain oLe oLt ma mb mc) := ve_chain (op_leD (u64 hr)) r2_ord (op_ltD (u64 hr)) r2_ord ha hb hc hm
theorem ve_leLe (hr : Room k X.A) (ha : VE ct W X a ma) (hb : VE ct W X b mb) (hc : VV ct W X c mc) (hm : lastMarks [CmpOp.LtE, CmpOp.LtE] [b, c] = false := by with_unfolding_all rfl) : VE ct W X (.Compare a [.LtE, .LtE] [b, c] pos) (mChain oLe oLe ma mb mc) := ve_chain (op_leD (u64 hr)) r2_ord (op_leD (u64 hr)) r2_ord ha hb hc hm
theorem vt_leLt (hr : Room k X.A) (ha : VE ct W X a ma) (hb : VE ct W X b mb) (hc : VV ct W X c mc) (hm : lastMarks [CmpOp.LtE, CmpOp.Lt] [b, c] = false := by with_unfolding_all rfl) : VT ct W X (.Compare a [.LtE, .Lt] [b, c] pos) (mTest (mChain oLe oLt ma mb mc)) := vt_chain (op_leD (u64 hr)) r2_ord (op_ltD (u64 hr)) r2_ord ha hb hc hm
theorem vt_leLe (hr : Room k X.A) (ha : VE ct W X a ma) (hb : VE ct W X b mb) (hc : VV ct W X c mc) (hm : lastMarks [CmpOp.LtE, CmpOp.LtE] [b, c] = false := by with_unfolding_all rfl) : VT ct W X (.Compare a [.LtE, .LtE] [b, c] pos) (mTest (mChain oLe oLe ma mb mc)) := vt_chain (op_leD (u64 hr)) r2_ord (op_leD (u64 hr)) r2_ord ha hb hc hm
/-! calls of built-ins -/
variable {p : Pos}
theorem ve_len (hg : Gl X "len") (hm : X.mg "len" = none) (ha : VV ct W X a ma) (hs : starEach [a] X.env = (false, eval a X.env) :: starEach [] X.env := by rfl) : VE ct W X (.Call (.Name "len" p) [a] [] pos) (mOp1 gLen ma) := ve_callB call_len r1_len hg hm PySem.boot_len ha hs
theorem ve_all (hc : X.calm = true) (hg : Gl X "all") (hm : X.mg "all" = none) (ha : VV ct W X a ma) (hs : starEach [a] X.env = (false, eval a X.env) :: starEach [] X.env := by rfl) : VE ct W X (.Call (.Name "all" p) [a] [] pos) (mOp1 gAll ma) := ve_callB (cr_all hc) r1_all hg hm PyProof.Rows.boot_all ha hs
theorem ve_any (hc : X.calm = true) (hg : Gl X "any") (hm : X.mg "any" = none) (ha : VV ct W X a ma) (hs : starEach [a] X.env = (false, eval a X.env) :: starEach [] X.env := by rfl) : VE ct W X (.Call (.Name "any" p) [a] [] pos) (mOp1 gAny ma) := ve_callB (cr_any hc) r1_any hg hm PyProof.Rows.boot_any ha hs
theorem ve_sum (hc : X.calm = true) (hg : Gl X "sum") (hm : X.mg "sum" = none) (ha : VV ct W X a ma) (hs : starEach [a] X.env = (false, eval a X.env) :: starEach [] X.env := by rfl) : VE ct W X (.Call (.Name "sum" p) [a] [] pos) (mOp1 gSum ma) := ve_callB (cr_sum hc) r1_sum hg hm PyProof.Rows.boot_sum ha hs
theorem ve_tuple (hg : Gl X "tuple") (hm : X.mg "tuple" = none) (ha : VV ct W X a ma) (hs : starEach [a] X.env = (false, eval a X.env) :: starEach [] X.env := by rfl) : VE ct W X (.Call (.Name "tuple" p) [a] [] pos) (mOp1 gTuple ma) := ve_callTy call_tuple_of r1_tuple hg hm PyProof.Rows.boot_tuple ha hs
theorem vn_list (hg : Gl X "list") (hm : X.mg "list" = none) (ha : VV ct W X a ma) (hs : starEach [a] X.env = (false, eval a X.env) :: starEach [] X.env := by rfl) : VN ct W X (.Call (.Name "list" p) [a] [] pos) (mOp1N gList ma) := vn_callTy call_list_of r1_list hg hm PyProof.Rows.boot_list ha hs
theorem vn_sorted (hr : Room k X.A) (hg : Gl X "sorted") (hm : X.mg "sorted" = none) (ha : VV ct W X a ma) (hs : starEach [a] X.env = (false, eval a X.env) :: starEach [] X.env := by rfl) : VN ct W X (.Call (.Name "sorted" p) [a] [] pos) (mOp1N gSorted ma) := vn_callB (call_sortedA (u64 hr)) r1_sorted hg hm PyProof.Rows.boot_sorted ha hs
end
end TW

set_option Elab.async false
set_option linter.all false
set_option maxRecDepth 100000
namespace TW
open PySem PySem.Spec PyProof.Rows L2

/-! ### a def of the text, and its contract -/
structure Tx (K : PySem.W.Frag) (mg : Str → Option Value) (x : Str) (st : Stmt) (ps : List Str) : Prop where
  ex : ∃ f fd, Fun K x x st f fd ∧ mg x = some (.ref f) ∧ Binds K fd ps []
structure Cal (P : Program) (w : World) (K : PySem.W.Frag) (mg : Str → Option Value) (base : Heap) (x : Str) (ps : List Str) (k : Nat) (sp : Sp) : Prop where
  ex : ∃ f fd, FnOk P w K mg base (L2.CX P w) k f fd ps sp ∧ mg x = some (.ref f) ∧ PySem.W.keepIn K (.ref f) = true ∧ Binds K fd ps []
section
variable {P : Program} {w : World} {K : PySem.W.Frag} {mg : Str → Option Value} {base : Heap} {ct : Nat → Addr} {x : Str} {st : Stmt} {N ps : List Str} {k n : Nat} {body : MS}
/-- the context of a def's body -/
abbrev Bx (P : Program) (w : World) (K : PySem.W.Frag) (mg : Str → Option Value) (base : Heap) (N : List Str) (x : Str) (st : Stmt) (f : Addr) (cdv : Value) (A : Around) (outer : List Env) (s : Shared) (H : Hp) (E : XK) : Cx := cxOf (L2.CX P w) P w K mg base N x (defScope st) f cdv A outer s H E
def BodyOk (P : Program) (w : World) (K : PySem.W.Frag) (mg : Str → Option Value) (base : Heap) (ct : Nat → Addr) (N : List Str) (x : Str) (st : Stmt) (k : Nat) (body : MS) : Prop :=
  ∀ (f : Addr) (cdv : Value) (A : Around) (outer : List Env) (s : Shared) (H : Hp) (E : XK), Room k (Bx P w K mg base N x st f cdv A outer s H E).A → Takes (Bx P w K mg base N x st f cdv A outer s H E) (WE' E) →
      PassesOwn (model P w) (Bx P w K mg base N x st f cdv A outer s H E).A (Bx P w K mg base N x st f cdv A outer s H E).env (Bx P w K mg base N x st f cdv A outer s H E).xe →
      VSs ct (WE' E) (Bx P w K mg base N x st f cdv A outer s H E) (defBody st) body
theorem calD (T : Tx K mg x st ps) (S : FnScope N ps (defScope st)) (hps : ps.length = n) (hn : ps.length ≤ N.length) (hb : BodyOk P w K mg base ct N x st k body) : Cal P w K mg base x ps (k + 1) (spD K ct n (fnD N.length body)) := by
  obtain ⟨f, fd, F, hm, b⟩ := T.ex
  exact ⟨f, fd, fnD_ok F S hps hn (hb f), hm, F.kp, b⟩
theorem calN (T : Tx K mg x st ps) (S : FnScope N ps (defScope st)) (hps : ps.length = n) (hn : ps.length ≤ N.length) (hb : BodyOk P w K mg base ct N x st k body) : Cal P w K mg base x ps (k + 1) (spN K ct n (fnN N.length body)) := by
  obtain ⟨f, fd, F, hm, b⟩ := T.ex
  exact ⟨f, fd, fnN_ok F S hps hn (hb f), hm, F.kp, b⟩
theorem calS (T : Tx K mg x st ps) (S : FnScope N ps (defScope st)) (hps : ps.length = n + 1) (hn : ps.length ≤ N.length) (hb : BodyOk P w K mg base ct N x st k body) : Cal P w K mg base x ps (k + 1) (spS K n (fnS N.length body)) := by
  obtain ⟨f, fd, F, hm, b⟩ := T.ex
  exact ⟨f, fd, fnS_ok F S hps hn (hb f), hm, F.kp, b⟩
/-- no promise at all -/
theorem cal_bad (T : Tx K mg x st ps) {sp : Sp} (h : ∀ vs H Q E, ¬ sp vs H Q E) : Cal P w K mg base x ps k sp := by
  obtain ⟨f, fd, F, hm, b⟩ := T.ex
  exact ⟨f, fd, fn_bad h, hm, F.kp, b⟩
theorem spD_bad {n : Nat} : ∀ vs H Q E, ¬ spD K ct n (fun _ => .bad) vs H Q E := fun vs H Q E ⟨ds, G, _, _, _, h⟩ => h
theorem Cal.imp {sp sp' : Sp} (c : Cal P w K mg base x ps k sp) (h : ∀ vs H Q E, sp' vs H Q E → sp vs H Q E) : Cal P w K mg base x ps k sp' := by
  obtain ⟨f, fd, F, a⟩ := c.ex
  exact ⟨f, fd, F.imp h, a⟩
end
section
variable {ct : Nat → Addr} {W : WX} {X : Cx} {e a b : Expr} {es : List Expr} {ms : M (List D)} {ma mb : M D} {p pos : Pos} {x : Str} {ps : List Str} {k j n i : Nat} {Fd : List D → R D} {Fn : List D → R (List D)} {Fs : List D → List D → R (D × List D)}
theorem ve_callC (c : Cal X.prog X.w X.K X.mg X.base x ps k (spD X.K ct n Fd)) (hr : Room j X.A) (hkj : k ≤ j) (tk : Takes X W) (hg : Gl X x) (ha : VA ct W X (e :: es) ms)
    (hdb : (x == ("__debug__" : Str)) = false := by decide) (he : starEach (e :: es) X.env = (false, eval e X.env) :: starEach es X.env := by rfl) (hpl : (backTo pos (starEach es X.env)).any (·.1) = false := by rfl) :
    VE ct W X (.Call (.Name x p) (e :: es) [] pos) (mCall n Fd ms) := by
  obtain ⟨f, fd, F, hm, hk, hb⟩ := c.ex
  exact ve_call F (hr.mono hkj) tk hg hm hk hb ha hdb he hpl
theorem vn_callC (c : Cal X.prog X.w X.K X.mg X.base x ps k (spN X.K ct n Fn)) (hr : Room j X.A) (hkj : k ≤ j) (tk : Takes X W) (hg : Gl X x) (ha : VA ct W X (e :: es) ms)
    (hdb : (x == ("__debug__" : Str)) = false := by decide) (he : starEach (e :: es) X.env = (false, eval e X.env) :: starEach es X.env := by rfl) (hpl : (backTo pos (starEach es X.env)).any (·.1) = false := by rfl) :
    VN ct W X (.Call (.Name x p) (e :: es) [] pos) (mCallN n Fn ms) := by
  obtain ⟨f, fd, F, hm, hk, hb⟩ := c.ex
  exact vn_call F (hr.mono hkj) tk hg hm hk hb ha hdb he hpl
theorem ve_callSC (c : Cal X.prog X.w X.K X.mg X.base x ps k (spS X.K n Fs)) (hr : Room j X.A) (hkj : k ≤ j) (tk : Takes X W) (hg : Gl X x) (ho : PE X e (tVar i)) (ha : VA ct W X es ms)
    (hdb : (x == ("__debug__" : Str)) = false := by decide) (he : starEach (e :: es) X.env = (false, eval e X.env) :: starEach es X.env := by rfl) (hpl : (backTo pos (starEach es X.env)).any (·.1) = false := by rfl) :
    VE ct W X (.Call (.Name x p) (e :: es) [] pos) (mCallS n i Fs ms) := by
  obtain ⟨f, fd, F, hm, hk, hb⟩ := c.ex
  exact ve_callS F (hr.mono hkj) tk hg hm hk hb ho ha hdb he hpl
/-! the module's ints -/
def GcI (mg : Str → Option Value) (x : Str) (n : Int) : Prop := ∃ t, mg x = some (.int n t)
theorem ve_gi {z : Int} (h : GcI X.mg x z) (hg : Gl X x) (hd : (x == ("__debug__" : Str)) = false := by decide) : VE ct W X (.Name x p) (mC (.int z)) := by
  obtain ⟨t, h⟩ := h
  exact ve_c (v := .int z) (pe_glob (v := .int z) hg h ⟨t, rfl⟩ hd) (.int z)
/-! slices of any kind -/
def gSl : D → Option Int → Option Int → R D
  | .tuple ds, lo, hi => .ok (.tuple (cutD ds lo hi))
  | .list ds, lo, hi => .ok (.list (cutD ds lo hi))
  | .str x, lo, hi => if szOk x.length then .ok (.str (cutS x lo hi)) else .bad
  | _, _, _ => .bad
def mSl (ma : M D) (ml mh : MO) : M D := M.bind ma fun d => M.bind ml fun lo => M.bind mh fun hi => M.only (gSl d lo hi)
theorem ve_sl {p2 : Pos} {lo hi : Option Expr} {ml mh : MO} (ha : VE ct W X a ma) (hl : VO ct W X lo ml) (hh : VO ct W X hi mh) : VE ct W X (.Subscript a (.Slice lo hi none p2) pos) (mSl ma ml mh) :=
  PE.conv (pe_slice (sl_tupA.or (sl_list.or sl_str)) ha hl hh) fun σ H Q h => tG.step h fun d δ1 x G1 H1 r1 p1 h1 => ⟨δ1, G1, r1, TW.step r1 h1 fun l δ2 y G2 H2 _ x2 r2 p2 h2 => ⟨δ2, G2, r2, TW.step r2 h2 fun u δ3 z G3 H3 _ x3 r3 p3 h3 => by
    obtain rfl : y = l := p2
    obtain rfl : z = u := p3
    obtain ⟨w, ez, h4⟩ := Post.only h3
    unfold gSl at ez
    have p1' := Rp.mono (x2.same.trans x3.same) p1
    split at ez
    · cases ez
      rename_i ds _ _
      obtain ⟨b, xs, e1, k1, k2, k3⟩ := Rp.ofTup p1'
      subst e1
      have hlen := RpAll.length k3
      refine .inl ⟨b, xs, rfl, Same.sqt r3.same k1, fun hw => ?_, fun _ q hq => ?_⟩
      · rw [hlen] at hw
        rw [cut_whole hw] at h4
        exact Post.done h4 r3 (Grow.refl r3) p1'
      · exact Post.done h4 r3 (Grow.laid r3.same r3.nt hq nt_tup) (.tup (SqT.of upd_same) (Nat.le_trans (cutD_length _ _ _) k2) (RpAll.mono (same_upd (Same.free r3.same hq)) (cut_rp k3)))
    · cases ez
      obtain ⟨b, xs, e1, k1, k2, k3⟩ := Rp.ofLst p1'
      subst e1
      exact .inr (.inl ⟨b, xs, rfl, SqL.of (r3.same _ _ k1), fun q hq => Post.done h4 r3 (Grow.laid r3.same r3.nt hq nt_lst) (.lst upd_same (Nat.le_trans (cutD_length _ _ _) k2) (RpAll.mono (same_upd (Same.free r3.same hq)) (cut_rp k3)))⟩)
    · split at ez
      · rename_i hz
        cases ez
        exact .inr (.inr ⟨_, Rp.ofStr p1', szOk_le hz, Post.done h4 r3 (Grow.refl r3) (.str _)⟩)
      · cases ez
    · cases ez⟩⟩
end

/-! ### the script, the end -/
def scrD (ns : List Int) : D := .dict [(.none, .list (ns.map .int))]
theorem ints_rp {K : PySem.W.Frag} {G : Hp} : ∀ ns : List Int, RpAll K G (ns.map V.int) (ns.map .int)
  | [] => .nil
  | n :: ns => .cons (.int n) (ints_rp ns)
theorem end_sp {K : PySem.W.Frag} {ct : Nat → Addr} {F : List D → R D} {H : Hp} {a : Addr} {ns : List Int} (hO : Only H) (hS : SqL K H a (ns.map V.int)) (hl : ns.length ≤ 63) (h : F [scrD ns] = .ok (.bool true)) :
    spD K ct 1 F [.ref a] H (fun v _ => v = .bl true) fun _ _ _ => False := by
  refine ⟨[scrD ns], H, rfl, ⟨Same.refl _, fun b o e => ?_⟩, .cons (.scr hS (by rw [List.length_map, sizeLine_eq]; omega) (ints_rp ns)) .nil, ?_⟩
  · rcases hO b with z | ⟨ob, xs, z⟩
    · rw [z] at e; cases e
    · rw [z] at e; cases e; exact fun ps q => nomatch q
  · rw [h]
    exact fun v G' H' _ _ rp => Rp.ofBl rp
end TW

set_option Elab.async false
set_option linter.all false
set_option maxRecDepth 100000
namespace TW
open PySem PySem.Spec PyProof.Rows L2

/-! ### t[::-1] of a tuple -/
section
variable {prog : Program} {w : World} {A : Around} {E : Value → Shared → Prop} {s : Shared}
theorem back_bounds (n : Nat) : Builtin.Slice.sliceAdjust none none (-1) (n : Int) = ((n : Int) - 1, -1) := by
  unfold Builtin.Slice.sliceAdjust
  simp
theorem back_places (n : Nat) : Builtin.Slice.slicePlaces ((n : Int) - 1) (-1) (-1) = n := by
  unfold Builtin.Slice.slicePlaces
  simp
  split <;> omega
theorem back_pick (xs : Array Value) : ((List.range xs.size).filterMap fun (k : Nat) => xs[((xs.size : Int) - 1 + (k : Int) * (-1)).toNat]?) = xs.toList.reverse := by
  have e : ∀ n, n ≤ xs.size → ((List.range n).filterMap fun (k : Nat) => xs[((xs.size : Int) - 1 + (k : Int) * (-1)).toNat]?) = xs.toList.reverse.take n := by
    intro n
    induction n with
    | zero => intro _; simp
    | succ n ih =>
      intro h
      rw [List.range_succ, List.filterMap_append, ih (by omega), List.take_add_one]
      congr 1
      have hk : ((xs.size : Int) - 1 + (n : Int) * (-1)).toNat = xs.size - 1 - n := by omega
      rw [List.getElem?_reverse (by rw [Array.length_toList]; omega), Array.length_toList, Array.getElem?_toList]
      simp only [List.filterMap_cons, List.filterMap_nil, hk]
      cases hq : xs[xs.size - 1 - n]? <;> rfl
  rw [e _ (Nat.le_refl _), List.take_of_length_le (by rw [List.length_reverse, Array.length_toList]; exact Nat.le_refl _)]
theorem applied_back {sl : Addr} {u : Tok} {n : Nat} {Q : Int × Int × Nat → Shared → Prop} (hs : s.heap.IsSliceOf sl .none .none (.int (-1) u))
    (h : Q ((n : Int) - 1, -1, n) s) : wpAny (model prog w) A (Builtin.Slice.sliceApplied (.ref sl) (pure (n : Int))) Q E s := by
  obtain ⟨os, hos, hcs, hds⟩ := id hs
  unfold Builtin.Slice.sliceApplied Builtin.Slice.sliceFields
  refine wpAny_bind (wpAny_bind (wpAny_field hos hds (x := .none) rfl (wpAny_bind (wpAny_field hos hds (x := .none) rfl (wpAny_bind (wpAny_field hos hds (x := .int (-1) u) rfl (wpAny_pure ?_)))))))
  refine wpAny_bind (HT.slicePart_ (.int (-1) u) ?_)
  show wpAny _ _ (if ((-1 : Int) == 0) = true then _ else _) _ _ s
  rw [if_neg (by decide)]
  refine wpAny_bind (HT.slicePart_ .none (wpAny_bind (HT.slicePart_ .none (wpAny_bind (wpAny_pure ?_)))))
  show wpAny _ _ (match Builtin.Slice.sliceAdjust none none (-1) (n : Int) with | (lo, hi) => pure (lo, (-1 : Int), Builtin.Slice.slicePlaces lo hi (-1))) _ _ s
  rw [back_bounds n]
  show wpAny _ _ (pure ((n : Int) - 1, (-1 : Int), Builtin.Slice.slicePlaces ((n : Int) - 1) (-1) (-1))) _ _ s
  rw [back_places]
  exact wpAny_pure h
theorem getItem_tuple_back {t sl : Addr} {items : Array Value} {u : Tok} {Q : Value → Shared → Prop} (ht : IsTup s.heap t items) (hs : s.heap.IsSliceOf sl .none .none (.int (-1) u))
    (h : Q (.ref s.heap.objs.size) { s with heap := s.heap.push { cls := .type "tuple", data := .seq items.toList.reverse.toArray } })
    (hsz : items.size ≤ sizeLine) : wpAny (model prog w) A (getItem (.ref t) (.ref sl)) Q E s := by
  have hfit : sizeOk (.seq items.toList.reverse.toArray) := by
    show items.toList.reverse.toArray.size ≤ sizeLine
    rw [List.size_toArray, List.length_reverse, Array.length_toList]
    exact hsz
  obtain ⟨os, hos, hcs, hds⟩ := id hs
  have hTs : s.TypeIs (.ref sl) "slice" := ⟨os, hos, hcs⟩
  unfold getItem
  try with_reducible refine wpAny_holding ?_
  first | refine wpAny_bind (wpAny_pure ?_) | skip
  refine wpAny_bind (wpAny_sequenceKey ht.typeIs (by decide) ?_)
  refine wpAny_bind (wpAny_callSpecial?_slot (name := Str.ofString "__getitem__") ht.typeIs PyProof.Rows.slot_tuple_getitem
    (wpAny_call_entry PyProof.Rows.slot_tuple_getitem ht.typeIs PyProof.Rows.entry_tuple_getitem ?_ (PyProof.Rows.args_tuple_getitem _ _)))
  show wpAny _ _ (Builtin.Tuple.tupleItemsOf (.ref t) >>= _) _ _ s
  refine wpAny_bind (PyProof.Rows.tupleItemsOf_ ht ?_)
  refine wpAny_bind (wpAny_typeOf hTs ?_)
  rw [if_pos (by decide)]
  refine wpAny_bind (applied_back hs ?_)
  have hno : ¬ ((((items.size : Int) - 1) == 0 && (-1 : Int) == 1 && items.size == items.size) = true) := by
    intro q
    rw [Bool.and_eq_true, Bool.and_eq_true] at q
    exact absurd (eq_of_beq q.1.2) (by decide)
  show wpAny _ _ (if (((items.size : Int) - 1) == 0 && (-1 : Int) == 1 && items.size == items.size) = true then _ else _) _ _ s
  rw [if_neg hno, back_pick]
  first
    | exact wpAny_bind (m := Builtin.Tuple.tupleExact _) (wpAny_newObj_type (wpAny_pure ⟨_, rfl, wpAny_pure h⟩) hfit)
    | exact wpAny_bind (m := Builtin.Tuple.tupleExact _) (wpAny_newObj_type (wpAny_bind (wpAny_pure (wpAny_pure ⟨_, rfl, wpAny_pure h⟩))) hfit)
    | exact wpAny_bind (wpAny_bind (m := Builtin.Tuple.tupleExact _) (wpAny_newObj_type (wpAny_pure (wpAny_pure ⟨_, rfl, wpAny_pure h⟩)) hfit))
    | exact wpAny_bind (wpAny_bind (m := Builtin.Tuple.tupleExact _) (wpAny_newObj_type (wpAny_pure ⟨_, rfl, wpAny_pure h⟩) hfit))
end
def tRevT (K : PySem.W.Frag) (te : TE) : TE := fun σ H Q => te σ H fun x H1 => ∃ a xs, x = .ref a ∧ SqT K H1 a xs ∧ ∀ p, H1 p = none → Q (.ref p) (upd H1 p (.tup xs.reverse))
theorem pe_revT {X : Cx} {e : Expr} {te : TE} {k : Nat} {p1 p2 p3 pos : Pos} (he : PE X e te) : PE X (.Subscript e (.Slice none none (some (.UnaryOp .USub (.Constant (.int 1) k p1) p2)) p3) pos) (tRevT X.K te) := by
  refine ⟨fun pins s σ H Q I h => ?_⟩
  refine Subscript_ (thn (he.run pins s σ H _ I h) fun v s1 ⟨x, H1, I1, r1, q1⟩ => ?_)
  obtain ⟨a, xs, ex, hx, q⟩ := q1
  subst ex
  cases r1
  have hst : PO X (some (.UnaryOp .USub (.Constant (.int 1) k p1) p2)) (tPart (tUn (rU fun i => .int (-i)) (tC (.int 1)))) := po_some (pe_un un_neg pe_int)
  refine wpAny_Slice (thn (po_none.run pins s1 σ H1 (fun o H2 => o = none ∧ H2 = H1) I1 ⟨rfl, rfl⟩) fun vl s2 ⟨l, H2, I2, pl, el, e2⟩ => ?_)
  subst el e2
  refine thn (po_none.run pins s2 σ H2 (fun o H3 => o = none ∧ H3 = H2) I2 ⟨rfl, rfl⟩) fun vu s3 ⟨u, H3, I3, pu, eu, e3⟩ => ?_
  subst eu e3
  refine thn (hst.run pins s3 σ H3 (fun o H4 => o = some (-1) ∧ H4 = H3) I3 ⟨1, rfl, -1, rfl, rfl, rfl⟩) fun vs s4 ⟨o, H4, I4, ps, eo, e4⟩ => ?_
  subst eo e4
  cases pl
  cases pu
  obtain ⟨tk, rfl⟩ : ∃ tk, vs = .int (-1) tk := by cases ps; exact ⟨_, rfl⟩
  have I5 : Inv X pins σ H4 { s4 with heap := s4.heap.push { cls := .type "slice", data := .fields #[.none, .none, .int (-1) tk] } } := I4.kept (t' := s4.toks) fun b ob q => Heap.get?_push_of_some _ q
  obtain ⟨its, r, ht, hz⟩ := I5.tuple hx
  have hlen := r.length
  show wpAny (model X.prog X.w) X.A (subscriptTail e (.Slice none none (some (.UnaryOp .USub (.Constant (.int 1) k p1) p2)) p3) (.ref a) (.ref s4.heap.objs.size)) (EP X pins σ Q) X.xe { s4 with heap := s4.heap.push { cls := .type "slice", data := .fields #[.none, .none, .int (-1) tk] } }
  refine tail_any (ops := [.ref a, .ref s4.heap.objs.size]) ht.typeIs (PyProof.Rows.slot_tuple_getitem.lookup) ?_ (by with_unfolding_all rfl)
  refine getItem_tuple_back ht (Heap.IsSliceOf.new _ .none .none (.int (-1) tk)) ?_ (by rw [List.size_toArray]; omega)
  refine ⟨.ref _, _, I5.laid (t' := s4.toks) (o := .tup xs.reverse) (fun b ob q => Heap.get?_push_of_some _ q) (Nat.le_refl _) ?_, rfl, q _ (I5.hok.fresh (Nat.le_refl _))⟩
  exact ⟨by rw [List.length_reverse]; exact hz, _, r.reverse, IsTup.new _ _⟩
end TW

set_option Elab.async false
set_option linter.all false
set_option maxRecDepth 100000
namespace TW
open PySem PySem.Spec PyProof.Rows L2

/-! ### set(t), t a tuple of tuples of ints -/
section
variable {P : Program} {w : World} {A : Around} {E : Value → Shared → Prop} {s : Shared}
abbrev emptySet (w : World) : Obj := { cls := .type "set", dict := none, data := .set #[] 0 (.fresh 0 0 (!w.params.followText "set-order")) }
set_option maxHeartbeats 3200000 in
theorem set_of_tuple {l : Addr} {items : Array Value} (ks : List (Addr × List Int)) {Q : Value → Shared → Prop} (free : A.handled = none) (hl : s.heap.IsTuple l items) (hit : items.toList = ks.map fun p => Value.ref p.1)
    (hk : ∀ p ∈ ks, IsT P w s.heap p.2 p.1) (few : ks.length < 64) (room : A.units + 3 < cLine)
    (fin : ∀ (h' : Heap) (tk : Nat) L es ep t, SetTR P w h' s.heap.objs.size L es ep t → Got ks ks.length L → (∀ b o, s.heap.get? b = some o → h'.get? b = some o) → Q (.ref s.heap.objs.size) { s with heap := h', toks := tk }) :
    wpAny (model P w) A (call (.type "set") [.ref l]) Q E s := by
  have size : items.size = ks.length := by rw [← Array.length_toList, hit, List.length_map]
  obtain ⟨c, tl, hmro⟩ := PySem.F.called_set.mro
  have hmade := PySem.F.called_set.made
  have hsub := PySem.F.called_set.sub
  refine wpAny_call (codeAny_of_tree (show wpAny _ _ (callAny (.type "set") _) _ _ _ from ?_))
  refine wpAny_pure ⟨Code.quiet_builtin _ (by decide +kernel), codeAny_builtin PySem.F.entry_type_call ?_⟩
  rw [Around.under_plain (weight_type_call_type "set" [.ref l] []) rfl]
  have h1 := PySem.F.called_set.notType
  have h2 := PySem.F.called_set.canCreate
  have hct := PySem.F.typeCall_set_1 (.ref l)
  repeat (any_goals (first | assumption | wp_step))
  refine codeAny_mono (code_set_led1 (.ref l) (E := E) (Q₁ := fun obj s₁ => obj = .ref s.heap.objs.size ∧ s₁ = { s with heap := s.heap.push (emptySet w) }) ⟨rfl, rfl⟩) fun r s₁ hr => ?_
  rcases r with e | fl
  · exact hr
  cases fl with
  | ret obj =>
    obtain ⟨rfl, rfl⟩ := hr
    have there : (s.heap.push (emptySet w)).get? s.heap.objs.size = some (emptySet w) := Heap.get?_push_size _ rfl
    have isSet : Shared.TypeIs { s with heap := s.heap.push (emptySet w) } (.ref s.heap.objs.size) "set" := ⟨_, there, rfl⟩
    have hli := PySem.F.called_set.init.lookup
    have hbi := PySem.F.called_set.init.bind (.ref s.heap.objs.size)
    repeat (any_goals (first | assumption | wp_step))
    refine codeAny_mono (codeAny_call_builtin (R := wants (fun r s₂ => r = .none ∧ ∃ h' tk L es ep t, s₂ = { s with heap := h', toks := tk } ∧ SetTR P w h' s.heap.objs.size L es ep t ∧ Got ks ks.length L ∧
        (∀ b o, s.heap.get? b = some o → h'.get? b = some o)) E) PySem.F.called_set.init.plain PySem.F.entry_set_init (check_set_init_1 isSet ?_)) fun r₂ s₂ hr₂ => ?_
    · obtain ⟨⟨ocls, odict, odata, oslots⟩, hol, hcl, nl, hdl⟩ := hl
      simp only at hcl hdl
      subst hcl; subst hdl
      have hol' : (s.heap.push (emptySet w)).get? l = some { cls := .type "tuple", dict := odict, data := .seq items nl, slots := oslots } := Heap.get?_push_of_some _ hol
      have hsls := PySem.F.sub_tuple_set
      have hslf := PySem.F.sub_tuple_frozenset
      have hne : (Value.type "tuple" == Value.type "dict") = false := by decide
      have asTup : (s.heap.push (emptySet w)).IsTuple l items := ⟨_, hol', rfl, nl, rfl⟩
      unfold Builtin.«set.__init__» noKeywords Builtin.Frozenset.updateFrom
      generalize hPI : pyIter = PI
      wp_walk
      subst hPI
      refine wpAny_pyIter_tuple asTup (wpAny_bind (wpAny_runValue ?_))
      have below : l < s.heap.objs.size := Heap.lt_size hol
      have free3 : A.in1.in1.in1.handled = none := by simp [free]
      have grown : (s.heap.push (emptySet w)).objs.size = s.heap.objs.size + 1 := Heap.size_push ..
      have apart : l ≠ (s.heap.push (emptySet w)).objs.size := by rw [grown]; exact Nat.ne_of_lt (Nat.lt_succ_of_lt below)
      have off : s.heap.objs.size ∉ [(s.heap.push (emptySet w)).objs.size, l] := by
        rw [grown]
        intro z
        rcases List.mem_cons.mp z with z | z
        · exact absurd z (Nat.ne_of_lt (Nat.lt_succ_self _))
        · exact absurd (List.mem_singleton.mp z) (Nat.ne_of_gt below)
      have at_ : ∀ (i : Nat) (v : Value), items[i]? = some v → ∃ p, ks[i]? = some p ∧ v = .ref p.1 := fun i v hv => by
        have q : items.toList[i]? = some v := by rw [Array.getElem?_toList]; exact hv
        rw [hit, List.getElem?_map] at q
        cases hq : ks[i]? with
        | none => rw [hq] at q; cases q
        | some p => rw [hq] at q; exact ⟨p, rfl, (Option.some.inj q).symm⟩
      have none_of : ∀ b, s.heap.objs.size ≤ b → s.heap.get? b = none := fun b hb => by
        cases q : s.heap.get? b with
        | none => rfl
        | some o => exact absurd (Heap.lt_size q) (Nat.not_lt.mpr hb)
      refine set_update_tups ((Walks.tuple free3 _ l apart items).toS) s.heap.objs.size off ks size few at_ s.heap hk (none_of _ (Nat.le_refl _))
        (fun b hb => none_of b (by rw [List.mem_singleton.mp hb, grown]; exact Nat.le_succ _)) room (items.size - 0) 0 _ (by omega) (Nat.zero_le _)
        ⟨⟨_, Heap.get?_push_size _ rfl, rfl, rfl⟩, (asTup.push _)⟩ (fun b o e => Heap.get?_push_of_some _ (Heap.get?_push_of_some _ e)) ⟨[], #[], 0, _, setTR_fresh (Heap.get?_push_of_some _ there), Got.zero ks⟩ ?_
      rintro ⟨h', g2, d', tk', os'⟩ L es ep t hm hS' g' hkp
      have eg : g2 = s.gens := hm.gens
      have ed : d' = s.drawn := hm.drawn
      have eo : os' = s.os := hm.os
      subst eg; subst ed; subst eo
      rw [size] at g'
      exact wpAny_pure (show wpAny _ _ (ret Value.none) _ _ _ from wpAny_pure ⟨rfl, h', tk', L, es, ep, t, rfl, hS', g', hkp⟩)
    · rcases r₂ with e | fl₂
      · exact hr₂
      cases fl₂ with
      | ret r =>
        obtain ⟨rfl, h', tk, L, es, ep, t, rfl, hS', g', hk'⟩ := hr₂
        repeat (any_goals (first | assumption | wp_step))
        exact fin _ _ _ _ _ _ hS' g' hk'
      | _ => exact hr₂.elim
  | _ => exact hr.elim
end
/-- set of a list or of a tuple of tuples of ints -/
def rSetAny (K : PySem.W.Frag) (P : Program) (w : World) : List V → Hp → VK → Prop := fun xs H Q => ∃ (l : Addr) (ks : List (Addr × List Int)), xs = [V.ref l] ∧ (SqL K H l (ks.map fun p => V.ref p.1) ∨ SqT K H l (ks.map fun p => V.ref p.1)) ∧ (∀ p ∈ ks, SqT K H p.1 (p.2.map V.int)) ∧ ks.length < 64 ∧
  ∀ a L, H a = none → (∀ p ∈ L, p ∈ ks) → (∀ p ∈ ks, p.2 ∈ L.map (·.2)) → Q (.ref a) (upd H a (SetTO P w a L))
theorem cr_setAny {X : Cx} (hc : X.calm = true) (hu : X.A.units + 64 < cLine) : CallR X (.type "set") (rSetAny X.K X.prog X.w) := by
  intro pins s σ H xs us Q I r h
  obtain ⟨l, ks, e, hl | hl, hk, few, q⟩ := h
  · exact cr_setOfT hc hu pins s σ H xs us Q I r ⟨l, ks, e, hl, hk, few, q⟩
  · subst e
    rw [Vals.ref1 r]
    obtain ⟨its, rv, pl, hz⟩ := I.tuple hl
    refine set_of_tuple (P := X.prog) (w := X.w) ks (I.ok.hd hc) pl (by simpa using refs_of_vals rv) (fun p hp => I.isT (hk p hp)) few (by omega) fun h' tk L es ep t R g k => ?_
    refine ⟨.ref s.heap.objs.size, _, I.laid (t' := tk) k (Nat.le_refl _) (setTO_new R.t0), rfl, q _ L (I.hok.fresh (Nat.le_refl _)) (fun p hp => List.mem_of_mem_take (g.sub p hp)) fun p hp => g.all p ?_⟩
    rw [List.take_length]
    exact hp
end TW

set_option Elab.async false
set_option linter.all false
set_option maxRecDepth 100000
namespace TW
open PySem PySem.Spec PyProof.Rows L2

/-! ### sorted(set): the order of data -/
def tupD (ns : List Int) : D := .tuple (ns.map .int)
theorem keyToks_ints (a b : List Int) : PySem.W.keyToksAll (a.map .int) = PySem.W.keyToksAll (b.map .int) → a = b := by
  induction a generalizing b with
  | nil =>
    cases b with
    | nil => intro _; rfl
    | cons y b => intro h; simp [PySem.W.keyToksAll] at h
  | cons x a ih =>
    cases b with
    | nil => intro h; simp [PySem.W.keyToksAll] at h
    | cons y b =>
      intro h
      simp [PySem.W.keyToksAll, PySem.W.keyToks] at h
      rw [h.1, ih b h.2]
theorem sortD_pw (ds : List D) : (sortD ds).Pairwise fun x y => PySem.W.dataLe false id x y = true := by
  have t := PySem.W.sortLe_total (PyProof.Rows.listOrd PyProof.Rows.itemOrd) false (fun b : D => PySem.W.keyToks b)
  exact List.pairwise_mergeSort (fun a b c h1 h2 => t.trans a b c h1 h2) (fun a b => by
    rcases t.total a b with h | h
    · exact Bool.or_eq_true_iff.mpr (.inl h)
    · exact Bool.or_eq_true_iff.mpr (.inr h)) ds
theorem sortD_perm (ds : List D) : (sortD ds).Perm ds := List.mergeSort_perm ds _
theorem dataLe_anti {x y : D} (h1 : PySem.W.dataLe false id x y = true) (h2 : PySem.W.dataLe false id y x = true) : PySem.W.keyToks x = PySem.W.keyToks y := by
  unfold PySem.W.dataLe PySem.W.sortLe at h1 h2
  simp only [cond_false, Bool.not_eq_true', id] at h1 h2
  exact (PyProof.Rows.listOrd PyProof.Rows.itemOrd).total _ _ h2 h1
/-- the order leaves no choice -/
theorem sortD_unique {ds es : List D} (p : ds.Perm es) (inj : ∀ x ∈ ds, ∀ y ∈ ds, PySem.W.keyToks x = PySem.W.keyToks y → x = y) : sortD ds = sortD es := by
  refine List.Perm.eq_of_pairwise (fun a b ha hb h1 h2 => inj a ((sortD_perm ds).mem_iff.mp ha) b (p.mem_iff.mpr ((sortD_perm es).mem_iff.mp hb)) (dataLe_anti h1 h2)) (sortD_pw ds) (sortD_pw es) ((sortD_perm ds).trans (p.trans (sortD_perm es).symm))
theorem tups_unique {ks ls : List (List Int)} (p : ks.Perm ls) : sortD (ks.map tupD) = sortD (ls.map tupD) := by
  refine sortD_unique (p.map _) fun x hx y hy e => ?_
  obtain ⟨a, _, rfl⟩ := List.mem_map.mp hx
  obtain ⟨b, _, rfl⟩ := List.mem_map.mp hy
  simp only [tupD, PySem.W.keyToks] at e
  rw [keyToks_ints a b e]
/-- each once -/
def uniqL : List (List Int) → List (List Int)
  | [] => []
  | x :: xs => if x ∈ uniqL xs then uniqL xs else x :: uniqL xs
theorem uniqL_mem {x : List Int} : ∀ {xs : List (List Int)}, x ∈ uniqL xs ↔ x ∈ xs
  | [] => by simp [uniqL]
  | y :: xs => by
    unfold uniqL
    split
    · rename_i h
      rw [uniqL_mem (xs := xs), List.mem_cons]
      refine ⟨.inr, fun z => ?_⟩
      rcases z with z | z
      · subst z; exact uniqL_mem.mp h
      · exact z
    · rw [List.mem_cons, List.mem_cons, uniqL_mem (xs := xs)]
theorem uniqL_nodup : ∀ xs : List (List Int), (uniqL xs).Nodup
  | [] => List.nodup_nil
  | y :: xs => by
    unfold uniqL
    split
    · exact uniqL_nodup xs
    · rename_i h
      exact List.nodup_cons.mpr ⟨h, uniqL_nodup xs⟩
theorem uniqL_len : ∀ xs : List (List Int), (uniqL xs).length ≤ xs.length
  | [] => Nat.le_refl _
  | y :: xs => by
    have := uniqL_len xs
    unfold uniqL
    split
    · rw [List.length_cons]; omega
    · rw [List.length_cons, List.length_cons]; omega
theorem uniqL_perm {ks ls : List (List Int)} (n : ls.Nodup) (h1 : ∀ x ∈ ls, x ∈ ks) (h2 : ∀ x ∈ ks, x ∈ ls) : ls.Perm (uniqL ks) :=
  (List.perm_ext_iff_of_nodup n (uniqL_nodup ks)).mpr fun x => ⟨fun h => uniqL_mem.mpr (h1 x h), fun h => h2 x (uniqL_mem.mp h)⟩
theorem alike_ints : ∀ a b : List Int, PySem.W.alikeAll (a.map .int) (b.map .int) = true
  | [], _ => by simp [PySem.W.alikeAll]
  | _ :: _, [] => by simp [PySem.W.alikeAll]
  | x :: a, y :: b => by simp [PySem.W.alikeAll, PySem.W.alike, alike_ints a b]
theorem depth_ints (a : List Int) : (tupD a).depth ≤ 8 := by
  have : ∀ a : List Int, PyData.depthAll (a.map .int) ≤ 6 := fun a => by
    induction a with
    | nil => simp [PyData.depthAll]
    | cons x a ih => simp [PyData.depthAll, PyData.depth]; omega
  have := this a
  simp [tupD, PyData.depth]
  omega
theorem perm_map_pick {α β : Type} {f : α → β} : ∀ {vs : List β} {ws : List α}, vs.Perm (ws.map f) → ∃ us : List α, us.Perm ws ∧ vs = us.map f
  | [], ws, p => by
    have := p.length_eq
    rw [List.length_map] at this
    have e : ws = [] := List.eq_nil_of_length_eq_zero this.symm
    subst e
    exact ⟨[], List.Perm.refl _, rfl⟩
  | v :: vs, ws, p => by
    obtain ⟨x, hx, e⟩ := List.mem_map.mp (p.mem_iff.mp List.mem_cons_self)
    subst e
    obtain ⟨a, b, rfl⟩ := List.append_of_mem hx
    have q : (a ++ x :: b).Perm (x :: (a ++ b)) := List.perm_middle
    obtain ⟨us, h1, h2⟩ := perm_map_pick (vs := vs) (ws := a ++ b) ((List.perm_cons (f x)).mp (p.trans (q.map f)))
    exact ⟨x :: us, (h1.cons x).trans q.symm, by rw [h2]; rfl⟩
theorem each_maps : ∀ (L M : List (Addr × List Int)), (∀ q ∈ M, q ∈ L) → PySem.W.EachIs (fun v b => ∃ q ∈ L, v = Value.ref q.1 ∧ b = tupD q.2) (M.map fun q => Value.ref q.1) (M.map fun q => tupD q.2)
  | _, [], _ => .nil
  | L, q :: M, h => .cons ⟨q, h q List.mem_cons_self, rfl, rfl⟩ (each_maps L M fun r hr => h r (List.mem_cons_of_mem _ hr))
section
variable {P : Program} {w : World} {A : Around} {E : Value → Shared → Prop} {s : Shared}
theorem sorted_setD {a : Addr} {L : List (Addr × List Int)} {es : Array (Int × Value)} {ep : Nat} {t : SetTable} {Q : Value → Shared → Prop} (R : SetTR P w s.heap a L es ep t) (free : A.handled = none) (room : A.units + 64 < cLine)
    (full : ∀ p ∈ L, p.2 ≠ [])
    (hQ : ∀ s' p (out : Array Value) (c : Nat) (ks : List (List Int)), (∀ b o, s.heap.get? b = some o → s'.heap.get? b = some o) → s'.gens = s.gens → s'.os = s.os → s.heap.objs.size ≤ p →
      s'.heap.get? p = some (seqObj "list" out c) → ks.Perm (L.map (·.2)) → PySem.W.EachIs (fun v b => ∃ q ∈ L, v = Value.ref q.1 ∧ b = tupD q.2) out.toList (sortD (ks.map tupD)) → Q (.ref p) s') :
    wpAny (model P w) A (call (.builtin "sorted") [.ref a]) Q E s := by
  obtain ⟨o, ho, hex, hd⟩ := R.ob
  have few := R.few
  have size := R.size
  refine Calls.call_function_entry kind_sorted plain_sorted entry_sorted (args_sorted1 _) ?_
  unfold Builtin.«sorted»
  refine wpAny_bind (m := checkCount "sorted" 1 1 _) (wpAny_pure ?_)
  refine wpAny_bind (collect_set (A := A.in1) free ⟨o, ho, hex.1, hd⟩ R.fits (by unfold scanBound; omega) R.tab.ris R.led fun s1 vs k1 hz g1 o1 pm => ?_)
  have items : es.toList.map (·.2) = L.map fun q => Value.ref q.1 := by rw [R.rows]; unfold rowsOf; rw [List.map_map] <;> rfl
  rw [items] at pm
  obtain ⟨L1, p1, e1⟩ := perm_map_pick pm
  subst e1
  have len : (L1.map fun q => Value.ref q.1).length < 64 := by rw [List.length_map, p1.length_eq]; exact few
  refine wpAny_bind (wpAny_newList ?_ (by rw [sizeLine_eq]; omega))
  have made : (s1.heap.push (seqObj "list" (L1.map fun q => Value.ref q.1).toArray 0)).get? s1.heap.objs.size = some (seqObj "list" (L1.map fun q => Value.ref q.1).toArray 0) := Heap.get?_push_size _ rfl
  have each : PySem.W.EachIs (fun v b => ∃ q ∈ L1, v = Value.ref q.1 ∧ b = tupD q.2) (L1.map fun q => Value.ref q.1) (L1.map fun q => tupD q.2) := each_maps L1 L1 fun _ h => h
  have mem : ∀ q ∈ L1, q ∈ L := fun q h => p1.mem_iff.mp h
  have reads : PySem.W.EachIs (fun v b => ∃ as, Reads (s1.heap.push (seqObj "list" (L1.map fun q => Value.ref q.1).toArray 0)) v (id b) as ∧ s1.heap.objs.size ∉ as) (L1.map fun q => Value.ref q.1) (L1.map fun q => tupD q.2) := each.mono fun v b ⟨q, hq, e1, e2⟩ => ⟨[], by
    subst e1 e2
    obtain ⟨T, vr, z1, z2, z3⟩ : TS.TupInts (s1.heap.push (seqObj "list" (L1.map fun q => Value.ref q.1).toArray 0)) (.ref q.1) q.2 := tupInts_of (P := P) (w := w) (isT_keep (R.tup q (mem q hq)) fun b u e => Heap.get?_push_of_some _ (k1 b u e))
    cases z1
    exact PyProof.Rows.reads_tuple_ints (vr := vr.toList) (by rw [Array.toArray_toList]; exact z2) z3, fun h => nomatch h⟩
  have al : PySem.W.AllAlike ((L1.map fun q => tupD q.2).map id) := by
    rw [List.map_id]
    intro x hx y hy
    obtain ⟨a, _, rfl⟩ := List.mem_map.mp hx
    obtain ⟨b, _, rfl⟩ := List.mem_map.mp hy
    simp only [tupD, PySem.W.alike]
    exact alike_ints _ _
  have so : PySem.W.Sortable ((L1.map fun q => tupD q.2).map id) := by
    rw [List.map_id]
    refine .inl fun x hx => ?_
    obtain ⟨q, hq, rfl⟩ := List.mem_map.mp hx
    cases e : q.2 with
    | nil => exact absurd e (full q (mem q hq))
    | cons i is => exact ⟨.int i, is.map .int, by simp only [tupD, List.map_cons]⟩
  have un : ∀ b ∈ L1.map (fun q => tupD q.2), A.in1.units + 1 + (id b : D).depth < cLine := fun b hb => by
    obtain ⟨q, hq, rfl⟩ := List.mem_map.mp hb
    have := depth_ints q.2
    have : A.in1.units ≤ A.units + 1 := by first | exact Nat.le_refl _ | (simp [Around.in1]; done) | omega
    show A.in1.units + 1 + (tupD q.2).depth < cLine
    omega
  have fit : (L1.map fun q => tupD q.2).length ≤ sizeLine := by
    rw [List.length_map] at len ⊢
    rw [sizeLine_eq]
    omega
  refine wpAny_bind (wpAny_holding (PySem.W.list_sort_data (enc := id) (R := fun v b => ∃ q ∈ L1, v = Value.ref q.1 ∧ b = tupD q.2) (s := { s1 with heap := s1.heap.push (seqObj "list" (L1.map fun q => Value.ref q.1).toArray 0) }) made each reads al so fit un fun out ho2 eo => ?_))
  obtain ⟨c, hc⟩ := sortedHeap_at (vs := L1.map fun q => Value.ref q.1) (out := out.toArray) made
  refine wpAny_pure ⟨_, rfl, hQ _ s1.heap.objs.size out.toArray c (L1.map (·.2)) (fun b u e => ?_) g1 o1 hz hc (p1.map _) ?_⟩
  · have q := k1 b u e
    have hlt := Heap.lt_size q
    show (sortedHeap (s1.heap.push (seqObj "list" (L1.map fun q => Value.ref q.1).toArray 0)) s1.heap.objs.size (L1.map fun q => Value.ref q.1) out.toArray).get? b = some u
    rw [sortedHeap_old (Nat.ne_of_lt hlt) (by rw [size_push']; exact Nat.lt_succ_of_lt hlt)]
    exact Heap.get?_push_of_some _ q
  · rw [List.map_map]
    exact eo.mono fun v b ⟨q, hq, z⟩ => ⟨q, mem q hq, z⟩
end
end TW

set_option Elab.async false
set_option linter.all false
set_option maxRecDepth 100000
namespace TW
open PySem PySem.Spec PyProof.Rows L2

/-! ### sorted(set(x)) -/
theorem each_ref {L : List (Addr × List Int)} : ∀ {us : List Value} {bs : List D}, PySem.W.EachIs (fun v b => ∃ q ∈ L, v = Value.ref q.1 ∧ b = tupD q.2) us bs →
    ∃ ys, Vals ys us ∧ PySem.W.EachIs (fun x b => ∃ q ∈ L, x = V.ref q.1 ∧ b = tupD q.2) ys bs
  | _, _, .nil => ⟨[], .nil, .nil⟩
  | _, _, .cons ⟨q, hq, e1, e2⟩ t => by
    obtain ⟨ys, a, b⟩ := each_ref t
    subst e1
    exact ⟨.ref q.1 :: ys, .cons rfl a, .cons ⟨q, hq, rfl, e2⟩ b⟩
theorem cr_sortSet {X : Cx} (hc : X.calm = true) (hu : X.A.units + 64 < cLine) : CallR X (.builtin "sorted") (fun vs H Q => ∃ (a : Addr) (L : List (Addr × List Int)), vs = [V.ref a] ∧ H a = some (SetTO X.prog X.w a L) ∧ (∀ p ∈ L, SqT X.K H p.1 (p.2.map V.int)) ∧ (∀ p ∈ L, p.2 ≠ []) ∧
    ∀ (p : Addr) (ks : List (List Int)) (ys : List V), H p = none → (L.map (·.2)).Nodup → ks.Perm (L.map (·.2)) → ks.length < 64 → PySem.W.EachIs (fun x b => ∃ q ∈ L, x = V.ref q.1 ∧ b = tupD q.2) ys (sortD (ks.map tupD)) → Q (.ref p) (upd H p (.lst ys))) := by
  intro pins s σ H vs us Q I r h
  obtain ⟨a, L, rfl, ha, hk, full, q⟩ := h
  have R0 : SetT0 X.prog X.w s.heap a L := (I.hok a _ ha).1
  obtain ⟨es, ep, t, R⟩ := R0.full fun p hp => I.isT (hk p hp)
  rw [Vals.ref1 r]
  refine sorted_setD R (I.ok.hd hc) hu full fun s' p out c ks k g o hp hg pm eo => ?_
  have few : ks.length < 64 := by rw [pm.length_eq, List.length_map]; exact R.few
  obtain ⟨ys, hv, he⟩ := each_ref eo
  have len : ys.length ≤ sizeLine := by
    have := he.length
    have e := List.length_mergeSort (le := PySem.W.dataLe false id) (ks.map tupD)
    unfold sortD at this
    rw [e, List.length_map] at this
    rw [sizeLine_eq]
    omega
  have hn : H p = none := I.hok.fresh hp
  have J : Inv X pins σ (upd H p (.lst ys)) { s with heap := s'.heap, gens := s'.gens, drawn := s'.drawn, toks := s'.toks } :=
    I.call (ch := []) (Un.laid k hp hn) (I.hok.laid k hp ⟨len, out.toList, c, hv, by rw [Array.toArray_toList]; exact hg⟩) (by rw [g]; exact I.bare) (fun _ z => nomatch z)
  have e : s' = { s with heap := s'.heap, gens := s'.gens, drawn := s'.drawn, toks := s'.toks } := by
    cases s'
    cases s
    cases o
    rfl
  rw [e]
  exact ⟨.ref p, _, J, rfl, q p ks ys hn R.nd pm few he⟩
/-- tuples of ints, none of them empty -/
def rowD : List D → Option (List Int)
  | [] => some []
  | .int i :: ds => (rowD ds).map (i :: ·)
  | _ :: _ => none
def keysD : List D → Option (List (List Int))
  | [] => some []
  | .tuple (.int i :: xs) :: ds => match rowD xs, keysD ds with
    | some is, some ks => some ((i :: is) :: ks)
    | _, _ => none
  | _ :: _ => none
theorem rowD_eq : ∀ {ds : List D} {is : List Int}, rowD ds = some is → ds = is.map .int
  | [], is, e => by cases e; rfl
  | d :: ds, is, e => by
    cases d <;> first
      | (simp [rowD] at e; done)
      | skip
    rename_i i
    simp only [rowD] at e
    cases e2 : rowD ds with
    | none => rw [e2] at e; cases e
    | some js => rw [e2] at e; cases e; rw [rowD_eq e2]; rfl
theorem keysD_eq : ∀ {ds : List D} {ks : List (List Int)}, keysD ds = some ks → ds = ks.map tupD ∧ ∀ k ∈ ks, k ≠ []
  | [], ks, e => by cases e; exact ⟨rfl, fun _ h => nomatch h⟩
  | d :: ds, ks, e => by
    unfold keysD at e
    split at e
    · rename_i q; cases q
    · rename_i i xs ds' q
      cases q
      split at e
      · rename_i is ks' e1 e2
        cases e
        obtain ⟨h1, h2⟩ := keysD_eq e2
        refine ⟨by rw [h1, rowD_eq e1]; rfl, fun k hk => ?_⟩
        rcases List.mem_cons.mp hk with z | z
        · subst z; exact List.cons_ne_nil _ _
        · exact h2 k z
      · cases e
    · cases e
section
variable {K : PySem.W.Frag}
theorem row_rp {G : Hp} : ∀ {vs : List V} {is : List Int}, RpAll K G vs (is.map .int) → vs = is.map V.int
  | _, [], .nil => rfl
  | _, _ :: _, .cons h t => by rw [h.ofInt, row_rp t]; rfl
theorem keys_rp {G : Hp} : ∀ {vs : List V} {ks : List (List Int)}, RpAll K G vs (ks.map tupD) → ∃ ps : List (Addr × List Int), vs = ps.map (fun p => V.ref p.1) ∧ ps.map (·.2) = ks ∧ (∀ p ∈ ps, SqT K G p.1 (p.2.map V.int)) ∧ ∀ p ∈ ps, Rp K G (.ref p.1) (tupD p.2)
  | _, [], .nil => ⟨[], rfl, rfl, (fun _ h => nomatch h), (fun _ h => nomatch h)⟩
  | _, k :: ks, .cons h t => by
    obtain ⟨ps, h1, h2, h3, h4⟩ := keys_rp t
    obtain ⟨a, xs, e1, s1, z1, r1⟩ := Rp.ofTup h
    subst e1
    refine ⟨(a, k) :: ps, by rw [h1]; rfl, by rw [List.map_cons, h2], fun p hp => ?_, fun p hp => ?_⟩
    · rcases List.mem_cons.mp hp with z | z
      · subst z; rw [← row_rp r1]; exact s1
      · exact h3 p z
    · rcases List.mem_cons.mp hp with z | z
      · subst z; exact h
      · exact h4 p z
theorem eachs_rp {G : Hp} {L : List (Addr × List Int)} (hL : ∀ p ∈ L, Rp K G (.ref p.1) (tupD p.2)) : ∀ {ys : List V} {bs : List D}, PySem.W.EachIs (fun x b => ∃ q ∈ L, x = V.ref q.1 ∧ b = tupD q.2) ys bs → RpAll K G ys bs
  | _, _, .nil => .nil
  | _, _, .cons ⟨q, hq, e1, e2⟩ t => by subst e1 e2; exact .cons (hL q hq) (eachs_rp hL t)
end
def seqOf : D → Option (List D)
  | .list ds => some ds
  | .tuple ds => some ds
  | _ => none
def gSetSort (d : D) : R (List D) := match seqOf d with
  | none => .bad
  | some ds => match keysD ds with
    | none => .bad
    | some ks => if ks.length < 64 then .ok (sortD ((uniqL ks).map tupD)) else .bad
theorem gSetSort_ok {d : D} {z : List D} (h : gSetSort d = .ok z) : ∃ ds ks, seqOf d = some ds ∧ keysD ds = some ks ∧ ks.length < 64 ∧ z = sortD ((uniqL ks).map tupD) := by
  unfold gSetSort at h
  split at h
  · cases h
  · split at h
    · cases h
    · split at h
      · cases h; exact ⟨_, _, by assumption, by assumption, by assumption, rfl⟩
      · cases h
theorem RpV.seq {K : PySem.W.Frag} {δ : List C} {σ : L2.St} {G H : Hp} {x : V} {d : D} {ds : List D} (s : Same G H) (h : RpV K δ σ G H x d) (e : seqOf d = some ds) : ∃ a xs, x = .ref a ∧ (SqL K H a xs ∨ SqT K H a xs) ∧ ds.length ≤ sizeLine ∧ RpAll K G xs ds := by
  unfold seqOf at e
  split at e
  · cases e
    obtain ⟨a, xs, e1, h1, h2, h3⟩ := h.lst s
    exact ⟨a, xs, e1, .inl h1, h2, h3⟩
  · cases e
    obtain ⟨a, xs, e1, h1, h2, h3⟩ := h.tup s
    exact ⟨a, xs, e1, .inr h1, h2, h3⟩
  · cases e
section
variable {ct : Nat → Addr} {W : WX} {X : Cx} {a b : Expr} {ma mb : M D} {p p2 q pos : Pos} {k : Nat}
theorem vn_setsort (hc : X.calm = true) (hr : Room k X.A) (hg : Gl X "sorted") (hm : X.mg "sorted" = none) (hg2 : Gl X "set") (hm2 : X.mg "set" = none) (ha : VV ct W X a ma)
    (hs : starEach [.Call (.Name "set" p2) [a] [] q] X.env = (false, eval (.Call (.Name "set" p2) [a] [] q) X.env) :: starEach [] X.env := by rfl) (hs2 : starEach [a] X.env = (false, eval a X.env) :: starEach [] X.env := by rfl) :
    VN ct W X (.Call (.Name "sorted" p) [.Call (.Name "set" p2) [a] [] q] [] pos) (mOp1N gSetSort ma) :=
  PE.conv (pe_callB (cr_sortSet hc (u64 hr)) hg hm PyProof.Rows.boot_sorted (pa_cons (pe_callTy (cr_setAny hc (u64 hr)) hg2 hm2 PyProof.Rows.boot_set (pa_cons ha pa_nil hs2) (by decide) (by decide) hs2) pa_nil hs) (by decide) (by decide) hs) fun σ H Q h => tG.step h fun d δ1 x G1 H1 r1 p1 h1 => by
    obtain ⟨z, ez, h3⟩ := Post.only h1
    obtain ⟨ds, ks, e1, e2, few, ez⟩ := gSetSort_ok ez
    subst ez
    obtain ⟨e3, full⟩ := keysD_eq e2
    subst e3
    obtain ⟨l, xs, e4, sq, hz, ra⟩ := RpV.seq r1.same p1 e1
    subst e4
    obtain ⟨ps, q1, q2, q3, q4⟩ := keys_rp ra
    subst q1 q2
    rw [List.length_map] at few
    refine ⟨l, ps, rfl, sq, fun p hp => Same.sqt r1.same (q3 p hp), few, fun s L hs h5 h6 => ?_⟩
    have hsame : Same H1 (upd H1 s (SetTO X.prog X.w s L)) := same_upd hs
    refine ⟨s, L, rfl, upd_same, fun p hp => Same.sqt hsame (Same.sqt r1.same (q3 p (h5 p hp))), fun p hp => full _ (List.mem_map.mpr ⟨p, h5 p hp, rfl⟩), fun t ls ys ht nd pm lt he => ?_⟩
    have g : Grow G1 H1 G1 (upd H1 s (SetTO X.prog X.w s L)) := Grow.alloc r1.same r1.nt hs
    have r2 := g.rel r1
    have es : sortD (ls.map tupD) = sortD ((uniqL (ps.map (·.2))).map tupD) := tups_unique (pm.trans (uniqL_perm nd (fun x hx => by
      obtain ⟨q, hq, e⟩ := List.mem_map.mp hx
      exact List.mem_map.mpr ⟨q, h5 q hq, e⟩) fun x hx => by
      obtain ⟨q, hq, e⟩ := List.mem_map.mp hx
      subst e
      exact h6 q hq))
    rw [es] at he
    have h4 := Post.at (g.ext (δ := δ1) (σ := σ)) h3
    refine Post.fresh h4 r2 ht ?_ (eachs_rp (fun p hp => q4 p (h5 p hp)) he)
    have el := List.length_mergeSort (le := PySem.W.dataLe false id) ((uniqL (ps.map (·.2))).map tupD)
    have := uniqL_len (ps.map (·.2))
    unfold sortD
    rw [el, List.length_map, sizeLine_eq]
    rw [List.length_map] at this
    omega
/-! ### {}, t[::-1], str(i), a, b = x, y -/
def mDct : M D := M.pure (.dict [])
theorem nt_dK {xs : List (Key × V)} : NT (.dK xs) := fun _ e => nomatch e
theorem ve_dct : VE ct W X (.Dict [] [] pos) mDct := PE.conv pe_dnewK fun σ H Q ⟨δ, G, r, h⟩ => fun p hp => Post.done h r (Grow.laid r.same r.nt hp nt_dK) (.dct upd_same)
def oGt : D → D → R D := gOrd fun d e => PySem.W.dataLt e d
def oGe : D → D → R D := gOrd fun d e => !PySem.W.dataLt d e
def gRev : D → R D
  | .tuple ds => .ok (.tuple ds.reverse)
  | _ => .bad
theorem ve_rev {kk : Nat} {p1 p3 : Pos} (ha : VE ct W X a ma) : VE ct W X (.Subscript a (.Slice none none (some (.UnaryOp .USub (.Constant (.int 1) kk p1) p2)) p3) pos) (mOp1 gRev ma) := PE.conv (pe_revT ha) fun σ H Q h => tG.step h fun d δ1 x G1 H1 r1 p1 h1 => by
  obtain ⟨z, ez, h3⟩ := Post.only h1
  unfold gRev at ez
  split at ez
  · cases ez
    obtain ⟨b, xs, e1, k1, k2, k3⟩ := Rp.ofTup p1
    exact ⟨b, xs, e1, Same.sqt r1.same k1, fun q hq => Post.done h3 r1 (Grow.laid r1.same r1.nt hq nt_tup) (.tup (SqT.of upd_same) (by rw [List.length_reverse]; exact k2) (RpAll.mono (same_upd (Same.free r1.same hq)) k3.reverse))⟩
  · cases ez
def gStr : D → R D
  | .int i => if decide (-1000000 < i ∧ i < 1000000) then .ok (.str (toString i)) else .bad
  | _ => .bad
theorem ve_str (hg : Gl X "str") (hm : X.mg "str" = none) (ha : VV ct W X a ma) (hs : starEach [a] X.env = (false, eval a X.env) :: starEach [] X.env := by rfl) : VE ct W X (.Call (.Name "str" p) [a] [] pos) (mOp1 gStr ma) :=
  ve_callTy call_str_int (fun δ σ G H x d z Q r hx hz q => by
    unfold gStr at hz
    split at hz
    · split at hz
      · rename_i i hk
        cases hz
        have hb := of_decide_eq_true hk
        refine ⟨i, by rw [hx.int], ?_, q _ G H (Grow.refl r) (.str _)⟩
        by_cases h0 : i.natAbs = 0
        · rw [h0]; decide
        · exact Nat.lt_trans ((Nat.log2_lt h0).mpr (by omega : i.natAbs < 2 ^ 20)) (by decide)
      · cases hz
    · cases hz) hg hm PyProof.Rows.boot_str ha hs
def mPar (i j : Nat) (m : M (List D)) : MS := M.bind m fun ds => match ds with
  | [d, e] => fun cs => .ok (.nx, (cs.set i (.dat d)).set j (.dat e))
  | _ => fun _ => .bad
theorem vs_par {i j : Nat} {x y : Str} {ms : M (List D)} {px py pt : Pos} {kt k2 : Nat} {pt2 : Pos} (hc : X.calm = true) (hN : X.N.Nodup) (hi : X.N[i]? = some x) (hj : X.N[j]? = some y) (hij : i ≠ j)
    (hx : X.env.scope.names.lookup x = some .local) (hy : X.env.scope.names.lookup y = some .local) (ha : VA ct W X [a, b] ms)
    (hw : swappedStores [.Tuple [.Name x px, .Name y py] kt pt] (.Tuple [a, b] k2 pt2) X.env = pure (some [x, y]))
    (hs : swapsWithSole [.Tuple [.Name x px, .Name y py] kt pt] (.Tuple [a, b] k2 pt2) pos.line X.env = pure false := by rfl) :
    VS ct W X (.Assign [.Tuple [.Name x px, .Name y py] kt pt] (.Tuple [a, b] k2 pt2) pos) (mPar i j ms) := PS.conv (ps_par hc hN hi hj hij hx hy ha hw hs) fun De σ H h =>
  stepS (P := PAs X.K) h fun ds δ1 vs G1 H1 r1 ⟨_, _, _, p1⟩ h1 => by
    cases p1 with
    | nil => exact h1.elim
    | cons p q =>
      cases q with
      | nil => exact h1.elim
      | cons p' q' =>
        cases q' with
        | cons _ _ => exact h1.elim
        | nil => exact ⟨_, _, rfl, h1 _ G1 H1 ((put_ext (K := X.K)).trans (put_ext (K := X.K))) ((r1.set p).set p')⟩
end
section
variable {P : Program} {w : World} {K : PySem.W.Frag} {mg : Str → Option Value} {base : Heap} {ct : Nat → Addr} {x : Str} {st : Stmt} {N ps : List Str} {k n m : Nat} {body : MS}
theorem calDm (T : Tx K mg x st ps) (S : FnScope N ps (defScope st)) (hm : N.length = m) (hps : ps.length = n) (hn : ps.length ≤ N.length) (hb : BodyOk P w K mg base ct N x st k body) : Cal P w K mg base x ps (k + 1) (spD K ct n (fnD m body)) := hm ▸ calD T S hps hn hb
theorem calNm (T : Tx K mg x st ps) (S : FnScope N ps (defScope st)) (hm : N.length = m) (hps : ps.length = n) (hn : ps.length ≤ N.length) (hb : BodyOk P w K mg base ct N x st k body) : Cal P w K mg base x ps (k + 1) (spN K ct n (fnN m body)) := hm ▸ calN T S hps hn hb
theorem calSm (T : Tx K mg x st ps) (S : FnScope N ps (defScope st)) (hm : N.length = m) (hps : ps.length = n + 1) (hn : ps.length ≤ N.length) (hb : BodyOk P w K mg base ct N x st k body) : Cal P w K mg base x ps (k + 1) (spS K n (fnS m body)) := hm ▸ calS T S hps hn hb
end
/-! ### a op b op' c op'' d -/
def tChain3 (r r' r2 : R2) (ta tb tc td : TE) : TE := fun σ H Q => ta σ H fun x H1 => tb σ H1 fun y H2 => r x y H2 fun z H3 => ∃ k, z = .bl k ∧
  (if k = true then tc σ H3 fun w' H4 => r' y w' H4 fun z2 H5 => ∃ k2, z2 = .bl k2 ∧ (if k2 = true then td σ H5 fun u' H6 => r2 w' u' H6 Q else Q (.bl false) H5) else Q (.bl false) H3)
section
variable {X : Cx} {a b c d : Expr} {ta tb tc td : TE} {pos : Pos}
theorem pt_chain3 {op op' op2 : CmpOp} {r r' r2 : R2} (ho : OpR X (compareOp op) r) (ho' : OpR X (compareOp op') r') (ho2 : OpR X (compareOp op2) r2) (ha : PE X a ta) (hb : PE X b tb) (hc : PE X c tc) (hd : PE X d td)
    (hm : lastMarks [op, op', op2] [b, c, d] = false := by with_unfolding_all rfl) : PT X (.Compare a [op, op', op2] [b, c, d] pos) (tTest (tChain3 r r' r2 ta tb tc td)) := by
  refine ⟨fun pins s σ H Q I h => ?_⟩
  refine isTrue_chain (thn (ha.run pins s σ H _ I h) fun v s1 ⟨x, H1, I1, v1, q1⟩ => test_link (thn (hb.run pins s1 σ H1 _ I1 q1) fun u s2 ⟨y, H2, I2, v2, q2⟩ =>
    thn (ho pins s2 σ H2 x y v u _ I2 v1 v2 q2) fun d s3 ⟨z, H3, I3, v3, k, e, q3⟩ => ?_)) hm
  subst e
  cases v3
  refine wpAny_truthy_bool ?_
  cases k with
  | false =>
    obtain ⟨k', e', q'⟩ := q3
    cases e'
    exact ite_ff ⟨H3, I3, q'⟩
  | true =>
    refine ite_tt (test_link (thn (hc.run pins s3 σ H3 _ I3 q3) fun w' s4 ⟨z', H4, I4, v4, q4⟩ => thn (ho' pins s4 σ H4 y z' u w' _ I4 v2 v4 q4) fun d' s5 ⟨z2, H5, I5, v5, k2, e2, q5⟩ => ?_))
    subst e2
    cases v5
    refine wpAny_truthy_bool ?_
    cases k2 with
    | false =>
      obtain ⟨k', e', q'⟩ := q5
      cases e'
      exact ite_ff ⟨H5, I5, q'⟩
    | true =>
      refine ite_tt (test_last (thn (hd.run pins s5 σ H5 _ I5 q5) fun w2 s6 ⟨z3, H6, I6, v6, q6⟩ => thn (ho2 pins s6 σ H6 z' z3 w' w2 _ I6 v4 v6 q6) fun d2 s7 ⟨z4, H7, I7, v7, k3, e3, q7⟩ => ?_))
      subst e3
      cases v7
      exact wpAny_truthy_bool ⟨H7, I7, q7⟩
end
def mChain3 (g g' g2 : D → D → R D) (ma mb mc md : M D) : M D := M.bind ma fun x => M.bind mb fun y => M.bind (M.only (g x y)) fun z => match z with
  | .bool true => M.bind mc fun w => M.bind (M.only (g' y w)) fun z => match z with
    | .bool true => M.bind md fun u => M.only (g2 w u)
    | .bool false => M.pure (.bool false)
    | _ => fun _ => .bad
  | .bool false => M.pure (.bool false)
  | _ => fun _ => .bad
section
variable {ct : Nat → Addr} {W : WX} {X : Cx} {a b c d : Expr} {ma mb mc md : M D} {pos : Pos} {r r' r2 : R2} {g g' g2 : D → D → R D} {K : PySem.W.Frag}
theorem Post.isOk {α γ ε : Type} {P' : Hp → Hp → Hp → List C → L2.St → ε → γ → Prop} {rr : R α} {k : α → M γ} {δ : List C} {G H : Hp} {σ : L2.St} {Q : ε → Hp → Prop} (h : Post K ct W P' (M.bind (M.only rr) k δ) δ G H σ Q) : ∃ z, rr = .ok z ∧ Post K ct W P' (k z δ) δ G H σ Q := by
  cases rr with
  | ok z => exact ⟨z, rfl, h⟩
  | err n xs => exact h.elim
  | bad => exact h.elim
theorem chain3_core (hr : R2D K r g) (hr' : R2D K r' g') (hr2 : R2D K r2 g2) {σ : L2.St} {H : Hp} {Q : VK} (h : tG K ct W (PD K) (mChain3 g g' g2 ma mb mc md) σ H Q) : tChain3 r r' r2 (tG K ct W (PD K) ma) (tG K ct W (PD K) mb) (tG K ct W (PD K) mc) (tG K ct W (PV K) md) σ H Q :=
  tG.step h fun d δ1 x G1 H1 r1 p1 h1 => ⟨δ1, G1, r1, TW.step r1 h1 fun e δ2 y G2 H2 _ x2 r2' p2 h2 => by
    obtain ⟨z, eg, h2⟩ := Post.isOk h2
    refine hr δ2 σ G2 H2 x y d e z _ r2' (.inl (Rp.mono x2.same p1)) (.inl p2) eg fun v G' H' gr rp => ?_
    cases z <;> first
      | exact h2.elim
      | skip
    rename_i k
    have h3 := Post.at (gr.ext (δ := δ2) (σ := σ)) h2
    have r3 := gr.rel r2'
    refine ⟨k, Rp.ofBl rp, ?_⟩
    cases k with
    | false =>
      rw [if_neg Bool.false_ne_true]
      exact Post.done h3 r3 (Grow.refl r3) (.bl false)
    | true =>
      rw [if_pos rfl]
      refine ⟨δ2, G', r3, TW.step r3 h3 fun w δ4 y' G4 H4 _ x4 r4 p4 h4 => ?_⟩
      obtain ⟨z', ez, h4⟩ := Post.isOk h4
      refine hr' δ4 σ G4 H4 y y' e w z' _ r4 (.inl (Rp.mono (gr.same.trans x4.same) p2)) (.inl p4) ez fun v G5 H5 gr5 rp5 => ?_
      cases z' <;> first
        | exact h4.elim
        | skip
      rename_i k2
      have h5 := Post.at (gr5.ext (δ := δ4) (σ := σ)) h4
      have r5 := gr5.rel r4
      refine ⟨k2, Rp.ofBl rp5, ?_⟩
      cases k2 with
      | false =>
        rw [if_neg Bool.false_ne_true]
        exact Post.done h5 r5 (Grow.refl r5) (.bl false)
      | true =>
        rw [if_pos rfl]
        exact ⟨δ4, G5, r5, TW.step r5 h5 fun u δ6 u' G6 H6 _ x6 r6 p6 h6 => by
          obtain ⟨z6, e6, h6⟩ := Post.only h6
          exact hr2 δ6 σ G6 H6 y' u' w u z6 Q r6 (.inl (Rp.mono (gr5.same.trans x6.same) p4)) p6 e6 fun v G' H' g rp => Post.done h6 r6 g rp⟩⟩
theorem vt_leLtLt {k : Nat} (hr : Room k X.A) (ha : VE ct W X a ma) (hb : VE ct W X b mb) (hc : VE ct W X c mc) (hd : VV ct W X d md) (hm : lastMarks [CmpOp.LtE, CmpOp.Lt, CmpOp.Lt] [b, c, d] = false := by with_unfolding_all rfl) :
    VT ct W X (.Compare a [.LtE, .Lt, .Lt] [b, c, d] pos) (mTest (mChain3 oLe oLt oLt ma mb mc md)) := PT.conv (pt_chain3 (op_leD (u64 hr)) (op_ltD (u64 hr)) (op_ltD (u64 hr)) ha hb hc hd hm) fun _ _ _ h => chain3_core r2_ord r2_ord r2_ord (test_core h)
end
section
variable {K : PySem.W.Frag} {h : Heap} {mg : Str → Option Value} {x : Str} {st : Stmt} {ps : List Str} {f : Addr} {oc : Value} {od an : Option Addr} {osl : Array (Option Value)} {kV doc pm cdv ct : Value}
theorem tx_mk (X : K.In h) (G : h.Ns mainGlobals mg) (a : PySem.W.nsIn K mainGlobals x = some (some (.ref f))) (l : K.lookup f = some ⟨oc, od, .func (PySem.W.fnOf x x (defArgs st) (defBody st) (defScope st) .none kV doc pm an cdv ct), osl⟩)
    (c : PySem.W.codeIn K cdv x = true) (k : PySem.W.keepIn K (.ref f) = true)
    (hb : ∀ (kV doc pm : Value) (an : Option Addr) (cdv ct : Value) (us : List Value), us.length = ps.length → bindArgs (PySem.W.fnOf x x (defArgs st) (defBody st) (defScope st) .none kV doc pm an cdv ct) ⟨us, []⟩ = pure (ps.zip us)) : Tx K mg x st ps :=
  ⟨f, _, fun_mk l c k, PySem.W.mg_of X G a, (fun_mk l c k).binds hb⟩
theorem cx_end {P : Program} {w : World} {H : Hp} {s s' : Shared} {e : Value} (h : L2.CX P w [] H s (fun _ _ _ => False) e s') : False := by
  obtain ⟨_, _, _, _, _, _, _, _, _, _, _, _, q⟩ := h
  exact q
end
end TW

set_option Elab.async false
set_option linter.all false
set_option maxRecDepth 100000
namespace K01
open PySem PySem.Spec PyProof.Rows L2 TW
def topS (i : Nat) : Stmt := PySem.Challenge.pw_tiewebs_k01_webs_known.main.body.getD i (.Pass ⟨0, 0, 0, 0⟩)
abbrev s_is_whole : Stmt := topS 2
abbrev N_is_whole : List Str := ["thing"]
abbrev P_is_whole : List Str := ["thing"]
theorem sc_is_whole : FnScope N_is_whole P_is_whole (defScope s_is_whole) := ⟨rfl, rfl, rfl, by decide +kernel, rfl, by decide +kernel, by decide +kernel⟩
abbrev s_is_place : Stmt := topS 3
abbrev N_is_place : List Str := ["many", "thing"]
abbrev P_is_place : List Str := ["many", "thing"]
theorem sc_is_place : FnScope N_is_place P_is_place (defScope s_is_place) := ⟨rfl, rfl, rfl, by decide +kernel, rfl, by decide +kernel, by decide +kernel⟩
abbrev s_rises : Stmt := topS 4
abbrev N_rises : List Str := ["some", "one", "other"]
abbrev P_rises : List Str := ["some"]
theorem sc_rises : FnScope N_rises P_rises (defScope s_rises) := ⟨rfl, rfl, rfl, by decide +kernel, rfl, by decide +kernel, by decide +kernel⟩
abbrev s_is_tie : Stmt := topS 5
abbrev N_is_tie : List Str := ["many", "thing", "one"]
abbrev P_is_tie : List Str := ["many", "thing"]
theorem sc_is_tie : FnScope N_is_tie P_is_tie (defScope s_is_tie) := ⟨rfl, rfl, rfl, by decide +kernel, rfl, by decide +kernel, by decide +kernel⟩
abbrev s_is_web : Stmt := topS 6
abbrev N_is_web : List Str := ["thing", "tie"]
abbrev P_is_web : List Str := ["thing"]
theorem sc_is_web : FnScope N_is_web P_is_web (defScope s_is_web) := ⟨rfl, rfl, rfl, by decide +kernel, rfl, by decide +kernel, by decide +kernel⟩
abbrev s__law_cell_at : Stmt := topS 8
abbrev N__law_cell_at : List Str := ["_law_script", "_law_k"]
abbrev P__law_cell_at : List Str := ["_law_script", "_law_k"]
theorem sc__law_cell_at : FnScope N__law_cell_at P__law_cell_at (defScope s__law_cell_at) := ⟨rfl, rfl, rfl, by decide +kernel, rfl, by decide +kernel, by decide +kernel⟩
abbrev s__law_state : Stmt := topS 9
abbrev N__law_state : List Str := ["_law_script", "_law_k", "_law_cell"]
abbrev P__law_state : List Str := ["_law_script", "_law_k"]
theorem sc__law_state : FnScope N__law_state P__law_state (defScope s__law_state) := ⟨rfl, rfl, rfl, by decide +kernel, rfl, by decide +kernel, by decide +kernel⟩
abbrev s__law_take : Stmt := topS 10
abbrev N__law_take : List Str := ["_law_state_here", "_law_many", "_law_stirred", "_law_found"]
abbrev P__law_take : List Str := ["_law_state_here", "_law_many"]
theorem sc__law_take : FnScope N__law_take P__law_take (defScope s__law_take) := ⟨rfl, rfl, rfl, by decide +kernel, rfl, by decide +kernel, by decide +kernel⟩
abbrev s__law_pairs : Stmt := topS 11
abbrev N__law_pairs : List Str := ["_law_many", "_law_found", "_law_a", "_law_b"]
abbrev P__law_pairs : List Str := ["_law_many"]
theorem sc__law_pairs : FnScope N__law_pairs P__law_pairs (defScope s__law_pairs) := ⟨rfl, rfl, rfl, by decide +kernel, rfl, by decide +kernel, by decide +kernel⟩
abbrev s__law_mixed_row : Stmt := topS 12
abbrev N__law_mixed_row : List Str := ["_law_state_here", "_law_things", "_law_left", "_law_found"]
abbrev P__law_mixed_row : List Str := ["_law_state_here", "_law_things"]
theorem sc__law_mixed_row : FnScope N__law_mixed_row P__law_mixed_row (defScope s__law_mixed_row) := ⟨rfl, rfl, rfl, by decide +kernel, rfl, by decide +kernel, by decide +kernel⟩
abbrev s__law_web : Stmt := topS 13
abbrev N__law_web : List Str := ["_law_state_here", "_law_most", "_law_many", "_law_way", "_law_ties", "_law_row", "_law_at", "_law_odd", "_law_tie"]
abbrev P__law_web : List Str := ["_law_state_here", "_law_most"]
theorem sc__law_web : FnScope N__law_web P__law_web (defScope s__law_web) := ⟨rfl, rfl, rfl, by decide +kernel, rfl, by decide +kernel, by decide +kernel⟩
abbrev s__law_great_web : Stmt := topS 14
abbrev N__law_great_web : List Str := ["_law_state_here", "_law_many", "_law_ties", "_law_turn", "_law_one", "_law_other"]
abbrev P__law_great_web : List Str := ["_law_state_here"]
theorem sc__law_great_web : FnScope N__law_great_web P__law_great_web (defScope s__law_great_web) := ⟨rfl, rfl, rfl, by decide +kernel, rfl, by decide +kernel, by decide +kernel⟩
abbrev s__law_whole : Stmt := topS 15
abbrev N__law_whole : List Str := ["_law_thing"]
abbrev P__law_whole : List Str := ["_law_thing"]
theorem sc__law_whole : FnScope N__law_whole P__law_whole (defScope s__law_whole) := ⟨rfl, rfl, rfl, by decide +kernel, rfl, by decide +kernel, by decide +kernel⟩
abbrev s__law_is_web : Stmt := topS 16
abbrev N__law_is_web : List Str := ["_law_thing", "_law_tie"]
abbrev P__law_is_web : List Str := ["_law_thing"]
theorem sc__law_is_web : FnScope N__law_is_web P__law_is_web (defScope s__law_is_web) := ⟨rfl, rfl, rfl, by decide +kernel, rfl, by decide +kernel, by decide +kernel⟩
abbrev s__law_bad_web : Stmt := topS 17
abbrev N__law_bad_web : List Str := ["_law_state_here", "_law_some"]
abbrev P__law_bad_web : List Str := ["_law_state_here"]
theorem sc__law_bad_web : FnScope N__law_bad_web P__law_bad_web (defScope s__law_bad_web) := ⟨rfl, rfl, rfl, by decide +kernel, rfl, by decide +kernel, by decide +kernel⟩
abbrev s__law_same : Stmt := topS 18
abbrev N__law_same : List Str := ["_law_found", "_law_due", "_law_one", "_law_other"]
abbrev P__law_same : List Str := ["_law_found", "_law_due"]
theorem sc__law_same : FnScope N__law_same P__law_same (defScope s__law_same) := ⟨rfl, rfl, rfl, by decide +kernel, rfl, by decide +kernel, by decide +kernel⟩
abbrev s__law_bent : Stmt := topS 19
abbrev N__law_bent : List Str := ["_law_state_here", "_law_web_here", "_law_many", "_law_ties", "_law_at", "_law_a", "_law_b", "_law_odd", "_law_some"]
abbrev P__law_bent : List Str := ["_law_state_here", "_law_web_here"]
theorem sc__law_bent : FnScope N__law_bent P__law_bent (defScope s__law_bent) := ⟨rfl, rfl, rfl, by decide +kernel, rfl, by decide +kernel, by decide +kernel⟩
abbrev s_law : Stmt := topS 20
abbrev N_law : List Str := ["_law_script", "_law_k", "_law_state_here", "_law_web_here", "_law_thing", "_law_turn"]
abbrev P_law : List Str := ["_law_script"]
theorem sc_law : FnScope N_law P_law (defScope s_law) := ⟨rfl, rfl, rfl, by decide +kernel, rfl, by decide +kernel, by decide +kernel⟩
def b_is_whole : MS := (mRet (mAndV (mOp1 (gIsi "int") (vVar 0)) (mNotV (mOp1 (gIsi "bool") (vVar 0)))))
def F_is_whole : List D → R D := fnD 1 b_is_whole
section
variable {P : Program} {w : World} {K : PySem.W.Frag} {mg : Str → Option Value} {base : Heap} {ct : Nat → Addr}
theorem k_is_whole (T : Tx K mg "is_whole" s_is_whole P_is_whole) (m_bool : mg "bool" = none) (m_int : mg "int" = none) (m_isinstance : mg "isinstance" = none) : Cal P w K mg base "is_whole" P_is_whole 1 (spD K ct 1 F_is_whole) := by
  show Cal P w K mg base "is_whole" P_is_whole 1 (spD K ct 1 (fnD 1 b_is_whole))
  refine calDm (P := P) (w := w) (base := base) (ct := ct) (body := b_is_whole) (k := 0) T sc_is_whole rfl rfl (by decide) fun f cdv A outer s H E hr tk hp => ?_
  refine vss_one ?_
  exact vs_ret (ve_and (ve_isi ty_int (by rfl) m_isinstance (vv_var 0 (pv 0)) (pe_bltn (by rfl) m_int PyProof.Rows.boot_int rfl)) (ve_one (ve_not (ve_isi ty_bool (by rfl) m_isinstance (vv_var 0 (pv 0)) (pe_bltn (by rfl) m_bool PyProof.Rows.boot_bool rfl)))))
end
def b_is_place : MS := (mRet (mAndV (mCall 1 F_is_whole (mCons (mVar 1) mNil)) (mChain oLe oLt (mC (.int 0)) (mVar 1) (vVar 0))))
def F_is_place : List D → R D := fnD 2 b_is_place
section
variable {P : Program} {w : World} {K : PySem.W.Frag} {mg : Str → Option Value} {base : Heap} {ct : Nat → Addr}
theorem k_is_place (T : Tx K mg "is_place" s_is_place P_is_place) (k_is_whole : Cal P w K mg base "is_whole" P_is_whole 1 (spD K ct 1 F_is_whole)) : Cal P w K mg base "is_place" P_is_place 2 (spD K ct 2 F_is_place) := by
  show Cal P w K mg base "is_place" P_is_place 2 (spD K ct 2 (fnD 2 b_is_place))
  refine calDm (P := P) (w := w) (base := base) (ct := ct) (body := b_is_place) (k := 1) T sc_is_place rfl rfl (by decide) fun f cdv A outer s H E hr tk hp => ?_
  refine vss_one ?_
  exact vs_ret (ve_and (ve_callC k_is_whole hr (by decide) tk (by rfl) (va_cons (ve_var 1 (pv 1)) va_nil)) (ve_one (ve_leLt hr (ve_c pe_int (.int _)) (ve_var 1 (pv 1)) (vv_var 0 (pv 0)))))
end
def b_rises : MS := (mRet (mOp1 gAll (mOfN (mComp [1, 2] [1, 2] (fTup 2) (mZip (mVar 0) (mSl (mVar 0) (mPart (mC (.int 1))) mNoPart)) mYes (mOp2 oLt (mVar 1) (vVar 2))))))
def F_rises : List D → R D := fnD 3 b_rises
section
variable {P : Program} {w : World} {K : PySem.W.Frag} {mg : Str → Option Value} {base : Heap} {ct : Nat → Addr}
theorem k_rises (T : Tx K mg "rises" s_rises P_rises) (m_all : mg "all" = none) (m_zip : mg "zip" = none) : Cal P w K mg base "rises" P_rises 1 (spD K ct 1 F_rises) := by
  show Cal P w K mg base "rises" P_rises 1 (spD K ct 1 (fnD 3 b_rises))
  refine calDm (P := P) (w := w) (base := base) (ct := ct) (body := b_rises) (k := 0) T sc_rises rfl rfl (by decide) fun f cdv A outer s H E hr tk hp => ?_
  refine vss_one ?_
  exact vs_ret (ve_all rfl (by rfl) m_all (vv_ofN (vn_lc (own := [("one", 1), ("other", 2)]) rfl sc_rises.nd tg_two (vi_zip (by rfl) m_zip (ve_var 0 (pv 0)) (ve_sl (ve_var 0 (pv 0)) (vo_some (ve_c pe_int (.int _))) vo_none)) (blkOk_by (N := N_rises) (sc := defScope s_rises) (by decide +kernel)) (by decide) (fun _ _ _ _ _ => (pg_tup rfl (pgs_cons (pg_name (i := 1) sc_rises.nd rfl (Or.inl rfl)) (pgs_cons (pg_name (i := 2) sc_rises.nd rfl (Or.inl rfl)) pgs_nil)))) (fun _ _ _ _ _ => vts_nil) (fun _ _ _ _ _ => (ve_lt hr (ve_var 1 (pv 1)) (vv_var 2 (pv 2)))))))
end
def b_is_tie : MS := (mSeq (mIfS (mOr (mNot (mTest (mOp1 (gIsi "tuple") (vVar 1)))) (mOr (mTest (mOp2 gNe (mOp1 gLen (vVar 1)) (mC (.int 2)))) (mNot (mTest (mOp1 gAll (mOfN (mComp [2] [2] fName (mSeq1 (mVar 1)) mYes (mCall 2 F_is_place (mCons (mVar 0) (mCons (mVar 2) mNil)))))))))) (mRet (mC (.bool false))) mNx) (mRet (mOp2 oLt (mOp2 gIx (mVar 1) (mC (.int 0))) (mOp2 gIx (mVar 1) (mC (.int 1))))))
def F_is_tie : List D → R D := fnD 3 b_is_tie
section
variable {P : Program} {w : World} {K : PySem.W.Frag} {mg : Str → Option Value} {base : Heap} {ct : Nat → Addr}
theorem k_is_tie (T : Tx K mg "is_tie" s_is_tie P_is_tie) (m_all : mg "all" = none) (m_isinstance : mg "isinstance" = none) (m_len : mg "len" = none) (m_tuple : mg "tuple" = none) (k_is_place : Cal P w K mg base "is_place" P_is_place 2 (spD K ct 2 F_is_place)) : Cal P w K mg base "is_tie" P_is_tie 3 (spD K ct 2 F_is_tie) := by
  show Cal P w K mg base "is_tie" P_is_tie 3 (spD K ct 2 (fnD 3 b_is_tie))
  refine calDm (P := P) (w := w) (base := base) (ct := ct) (body := b_is_tie) (k := 2) T sc_is_tie rfl rfl (by decide) fun f cdv A outer s H E hr tk hp => ?_
  refine vss_cons ?_ ?_
  · refine vs_if ?_ ?_ ?_
    · exact (vt_w (vw_or (vt_not (vt_val (ve_isi ty_tuple (by rfl) m_isinstance (vv_var 1 (pv 1)) (pe_bltn (by rfl) m_tuple PyProof.Rows.boot_tuple rfl)))) (vw_or (vt_ne hr (ve_len (by rfl) m_len (vv_var 1 (pv 1))) (vv_of (ve_c pe_int (.int _)))) (vw_or1 (vt_not (vt_val (ve_all rfl (by rfl) m_all (vv_ofN (vn_lc (own := [("one", 2)]) rfl sc_is_tie.nd tg_name (vi_seq (ve_var 1 (pv 1))) (blkOk_by (N := N_is_tie) (sc := defScope s_is_tie) (by decide +kernel)) (by decide) (fun _ _ _ _ _ => (pg_name (i := 2) sc_is_tie.nd rfl (Or.inl rfl))) (fun _ _ _ _ _ => vts_nil) (fun _ _ _ _ _ => (ve_callC k_is_place hr (by decide) takesW0 (by rfl) (va_cons (ve_var 0 (pv 0)) (va_cons (ve_var 2 (pv 2)) va_nil)))))))))))))
    · refine vss_one ?_
      exact vs_ret (ve_c pe_bl (.bl _))
    · exact vss_nil
  · refine vss_one ?_
    exact vs_ret (ve_lt hr (ve_ix (ve_var 1 (pv 1)) (vv_of (ve_c pe_int (.int _))) (fun _ _ => rfl)) (vv_of (ve_ix (ve_var 1 (pv 1)) (vv_of (ve_c pe_int (.int _))) (fun _ _ => rfl))))
end
def b_is_web : MS := (mSeq (mIfS (mOr (mNot (mTest (mOp1 (gIsi "tuple") (vVar 0)))) (mOr (mTest (mOp2 gNe (mOp1 gLen (vVar 0)) (mC (.int 2)))) (mOr (mNot (mTest (mCall 1 F_is_whole (mCons (mOp2 gIx (mVar 0) (mC (.int 0))) mNil)))) (mNot (mTest (mChain oLe oLe (mC (.int 0)) (mOp2 gIx (mVar 0) (mC (.int 0))) (mC (.int 14)))))))) (mRet (mC (.bool false))) mNx) (mRet (mAndV (mOp1 (gIsi "tuple") (mOp2 gIx (mVar 0) (mC (.int 1)))) (mAndV (mOp1 gAll (mOfN (mComp [1] [1] fName (mSeq1 (mOp2 gIx (mVar 0) (mC (.int 1)))) mYes (mCall 2 F_is_tie (mCons (mOp2 gIx (mVar 0) (mC (.int 0))) (mCons (mVar 1) mNil)))))) (mCall 1 F_rises (mCons (mOp2 gIx (mVar 0) (mC (.int 1))) mNil))))))
def F_is_web : List D → R D := fnD 2 b_is_web
section
variable {P : Program} {w : World} {K : PySem.W.Frag} {mg : Str → Option Value} {base : Heap} {ct : Nat → Addr}
theorem k_is_web (T : Tx K mg "is_web" s_is_web P_is_web) (m_all : mg "all" = none) (m_isinstance : mg "isinstance" = none) (m_len : mg "len" = none) (m_tuple : mg "tuple" = none) (c_MOST_PLACES : GcI mg "MOST_PLACES" 14) (k_rises : Cal P w K mg base "rises" P_rises 1 (spD K ct 1 F_rises)) (k_is_tie : Cal P w K mg base "is_tie" P_is_tie 3 (spD K ct 2 F_is_tie)) (k_is_whole : Cal P w K mg base "is_whole" P_is_whole 1 (spD K ct 1 F_is_whole)) : Cal P w K mg base "is_web" P_is_web 4 (spD K ct 1 F_is_web) := by
  show Cal P w K mg base "is_web" P_is_web 4 (spD K ct 1 (fnD 2 b_is_web))
  refine calDm (P := P) (w := w) (base := base) (ct := ct) (body := b_is_web) (k := 3) T sc_is_web rfl rfl (by decide) fun f cdv A outer s H E hr tk hp => ?_
  refine vss_cons ?_ ?_
  · refine vs_if ?_ ?_ ?_
    · exact (vt_w (vw_or (vt_not (vt_val (ve_isi ty_tuple (by rfl) m_isinstance (vv_var 0 (pv 0)) (pe_bltn (by rfl) m_tuple PyProof.Rows.boot_tuple rfl)))) (vw_or (vt_ne hr (ve_len (by rfl) m_len (vv_var 0 (pv 0))) (vv_of (ve_c pe_int (.int _)))) (vw_or (vt_not (vt_val (ve_callC k_is_whole hr (by decide) tk (by rfl) (va_cons (ve_ix (ve_var 0 (pv 0)) (vv_of (ve_c pe_int (.int _))) (fun _ _ => rfl)) va_nil)))) (vw_or1 (vt_not (vt_leLe hr (ve_c pe_int (.int _)) (ve_ix (ve_var 0 (pv 0)) (vv_of (ve_c pe_int (.int _))) (fun _ _ => rfl)) (vv_of (ve_gi c_MOST_PLACES (by rfl))))))))))
    · refine vss_one ?_
      exact vs_ret (ve_c pe_bl (.bl _))
    · exact vss_nil
  · refine vss_one ?_
    exact vs_ret (ve_and (ve_isi ty_tuple (by rfl) m_isinstance (vv_of (ve_ix (ve_var 0 (pv 0)) (vv_of (ve_c pe_int (.int _))) (fun _ _ => rfl))) (pe_bltn (by rfl) m_tuple PyProof.Rows.boot_tuple rfl)) (ve_and (ve_all rfl (by rfl) m_all (vv_ofN (vn_lc (own := [("tie", 1)]) rfl sc_is_web.nd tg_name (vi_seq (ve_ix (ve_var 0 (pv 0)) (vv_of (ve_c pe_int (.int _))) (fun _ _ => rfl))) (blkOk_by (N := N_is_web) (sc := defScope s_is_web) (by decide +kernel)) (by decide) (fun _ _ _ _ _ => (pg_name (i := 1) sc_is_web.nd rfl (Or.inl rfl))) (fun _ _ _ _ _ => vts_nil) (fun _ _ _ _ _ => (ve_callC k_is_tie hr (by decide) takesW0 (by rfl) (va_cons (ve_ix (ve_var 0 (pv 0)) (vv_of (ve_c pe_int (.int _))) (fun _ _ => rfl)) (va_cons (ve_var 1 (pv 1)) va_nil))))))) (ve_one (ve_callC k_rises hr (by decide) tk (by rfl) (va_cons (ve_ix (ve_var 0 (pv 0)) (vv_of (ve_c pe_int (.int _))) (fun _ _ => rfl)) va_nil)))))
end
def b__law_cell_at : MS := (mSeq (mIfS (mTest (mOp2 oLt (mVar 1) (mOp1 gLen (vVar 0)))) (mRet (mOp2 gIx (mVar 0) (vVar 1))) mNx) (mRet (mC (.int 0))))
def F__law_cell_at : List D → R D := fnD 2 b__law_cell_at
section
variable {P : Program} {w : World} {K : PySem.W.Frag} {mg : Str → Option Value} {base : Heap} {ct : Nat → Addr}
theorem k__law_cell_at (T : Tx K mg "_law_cell_at" s__law_cell_at P__law_cell_at) (m_len : mg "len" = none) : Cal P w K mg base "_law_cell_at" P__law_cell_at 1 (spD K ct 2 F__law_cell_at) := by
  show Cal P w K mg base "_law_cell_at" P__law_cell_at 1 (spD K ct 2 (fnD 2 b__law_cell_at))
  refine calDm (P := P) (w := w) (base := base) (ct := ct) (body := b__law_cell_at) (k := 0) T sc__law_cell_at rfl rfl (by decide) fun f cdv A outer s H E hr tk hp => ?_
  refine vss_cons ?_ ?_
  · refine vs_if ?_ ?_ ?_
    · exact (vt_lt hr (ve_var 1 (pv 1)) (vv_of (ve_len (by rfl) m_len (vv_var 0 (pv 0)))))
    · refine vss_one ?_
      exact vs_ret (ve_ix (ve_var 0 (pv 0)) (vv_var 1 (pv 1)) (fun _ _ => rfl))
    · exact vss_nil
  · refine vss_one ?_
    exact vs_ret (ve_c pe_int (.int _))
end
def b__law_state : MS := (mSeq (mSet 2 (mCall 2 F__law_cell_at (mCons (mVar 0) (mCons (mVar 1) mNil)))) (mSeq (mIfS (mTest (mOp2 oGe (mVar 2) (mOp2 gPow (mC (.int 10)) (mC (.int 18))))) (mRetN (mLst (mCons (mOp2 gSub (mVar 2) (mOp2 gPow (mC (.int 10)) (mC (.int 18)))) (mCons (mC (.bool true)) mNil)))) mNx) (mRetN (mLst (mCons (mOp2 gMod (mVar 2) (mC (.int 2147483647))) (mCons (mC (.bool false)) mNil))))))
def F__law_state : List D → R (List D) := fnN 3 b__law_state
section
variable {P : Program} {w : World} {K : PySem.W.Frag} {mg : Str → Option Value} {base : Heap} {ct : Nat → Addr}
theorem k__law_state (T : Tx K mg "_law_state" s__law_state P__law_state) (k__law_cell_at : Cal P w K mg base "_law_cell_at" P__law_cell_at 1 (spD K ct 2 F__law_cell_at)) : Cal P w K mg base "_law_state" P__law_state 2 (spN K ct 2 F__law_state) := by
  show Cal P w K mg base "_law_state" P__law_state 2 (spN K ct 2 (fnN 3 b__law_state))
  refine calNm (P := P) (w := w) (base := base) (ct := ct) (body := b__law_state) (k := 1) T sc__law_state rfl rfl (by decide) fun f cdv A outer s H E hr tk hp => ?_
  refine vss_cons ?_ ?_
  · exact vs_set (i := 2) sc__law_state.nd rfl (Or.inl rfl) (ve_callC k__law_cell_at hr (by decide) tk (by rfl) (va_cons (ve_var 0 (pv 0)) (va_cons (ve_var 1 (pv 1)) va_nil)))
  · refine vss_cons ?_ ?_
    · refine vs_if ?_ ?_ ?_
      · exact (vt_ge hr (ve_var 2 (pv 2)) (vv_of (ve_pow (ve_c pe_int (.int _)) (vv_of (ve_c pe_int (.int _))))))
      · refine vss_one ?_
        exact vs_retN (vn_lst (va_cons (ve_sub (ve_var 2 (pv 2)) (vv_of (ve_pow (ve_c pe_int (.int _)) (vv_of (ve_c pe_int (.int _)))))) (va_cons (ve_c pe_bl (.bl _)) va_nil)))
      · exact vss_nil
    · refine vss_one ?_
      exact vs_retN (vn_lst (va_cons (ve_mod (ve_var 2 (pv 2)) (vv_of (ve_c pe_int (.int _)))) (va_cons (ve_c pe_bl (.bl _)) va_nil)))
end
def b__law_take : MS := (mSeq (mIfS (mTest (mOp2 gIx (vVar 0) (mC (.int 1)))) (mSeq (mSet 3 (mOp2 gMod (mOp2 gIx (vVar 0) (mC (.int 0))) (vVar 1))) (mSeq (mSetIx 0 (mC (.int 0)) (mOp2 gDiv (mOp2 gIx (vVar 0) (mC (.int 0))) (vVar 1))) (mRet (mVar 3)))) mNx) (mSeq (mSetIx 0 (mC (.int 0)) (mOp2 gMod (mOp2 gAdd (mOp2 gMul (mOp2 gIx (vVar 0) (mC (.int 0))) (mC (.int 48271))) (mC (.int 29))) (mC (.int 2147483647)))) (mSeq (mSet 2 (mOp2 gMod (mOp2 gAdd (mOp2 gAdd (mOp2 gMul (mOp2 gIx (vVar 0) (mC (.int 0))) (mOp2 gIx (vVar 0) (mC (.int 0)))) (mOp2 gMul (mC (.int 39373)) (mOp2 gIx (vVar 0) (mC (.int 0))))) (mC (.int 7))) (mC (.int 2147483629)))) (mSeq (mSet 2 (mOp2 gMod (mOp2 gAdd (mOp2 gMul (mVar 2) (vVar 2)) (mOp2 gMul (mC (.int 16807)) (vVar 2))) (mC (.int 2147483587)))) (mRet (mOp2 gMod (mOp2 gDiv (mVar 2) (mC (.int 8))) (vVar 1)))))))
def F__law_take : List D → List D → R (D × List D) := fnS 4 b__law_take
section
variable {P : Program} {w : World} {K : PySem.W.Frag} {mg : Str → Option Value} {base : Heap} {ct : Nat → Addr}
theorem k__law_take (T : Tx K mg "_law_take" s__law_take P__law_take) : Cal P w K mg base "_law_take" P__law_take 1 (spS K 1 F__law_take) := by
  show Cal P w K mg base "_law_take" P__law_take 1 (spS K 1 (fnS 4 b__law_take))
  refine calSm (P := P) (w := w) (base := base) (ct := fun _ => 0) (body := b__law_take) (k := 0) T sc__law_take rfl rfl (by decide) fun f cdv A outer s H E hr tk hp => ?_
  refine vss_cons ?_ ?_
  · refine vs_if ?_ ?_ ?_
    · exact (vt_val (ve_ixV (vv_var 0 (pv 0)) pure_mC (vv_of (ve_c pe_int (.int _))) (fun _ _ => rfl)))
    · refine vss_cons ?_ ?_
      · exact vs_set (i := 3) sc__law_take.nd rfl (Or.inl rfl) (ve_mod (ve_ixV (vv_var 0 (pv 0)) pure_mC (vv_of (ve_c pe_int (.int _))) (fun _ _ => rfl)) (vv_var 1 (pv 1)))
      · refine vss_cons ?_ ?_
        · exact vs_setix (pv 0) (ve_c pe_int (.int _)) (ve_div (ve_ixV (vv_var 0 (pv 0)) pure_mC (vv_of (ve_c pe_int (.int _))) (fun _ _ => rfl)) (vv_var 1 (pv 1)))
        · refine vss_one ?_
          exact vs_ret (ve_var 3 (pv 3))
    · exact vss_nil
  · refine vss_cons ?_ ?_
    · exact vs_setix (pv 0) (ve_c pe_int (.int _)) (ve_mod (ve_add (ve_mul (ve_ixV (vv_var 0 (pv 0)) pure_mC (vv_of (ve_c pe_int (.int _))) (fun _ _ => rfl)) (vv_of (ve_c pe_int (.int _)))) (vv_of (ve_c pe_int (.int _)))) (vv_of (ve_c pe_int (.int _))))
    · refine vss_cons ?_ ?_
      · exact vs_set (i := 2) sc__law_take.nd rfl (Or.inl rfl) (ve_mod (ve_add (ve_add (ve_mul (ve_ixV (vv_var 0 (pv 0)) pure_mC (vv_of (ve_c pe_int (.int _))) (fun _ _ => rfl)) (vv_of (ve_ixV (vv_var 0 (pv 0)) pure_mC (vv_of (ve_c pe_int (.int _))) (fun _ _ => rfl)))) (vv_of (ve_mul (ve_c pe_int (.int _)) (vv_of (ve_ixV (vv_var 0 (pv 0)) pure_mC (vv_of (ve_c pe_int (.int _))) (fun _ _ => rfl)))))) (vv_of (ve_c pe_int (.int _)))) (vv_of (ve_c pe_int (.int _))))
      · refine vss_cons ?_ ?_
        · exact vs_set (i := 2) sc__law_take.nd rfl (Or.inl rfl) (ve_mod (ve_add (ve_mul (ve_var 2 (pv 2)) (vv_var 2 (pv 2))) (vv_of (ve_mul (ve_c pe_int (.int _)) (vv_var 2 (pv 2))))) (vv_of (ve_c pe_int (.int _))))
        · refine vss_one ?_
          exact vs_ret (ve_mod (ve_div (ve_var 2 (pv 2)) (vv_of (ve_c pe_int (.int _)))) (vv_var 1 (pv 1)))
end
def b__law_pairs : MS := (mSeq (mSetN 1 (mLst mNil)) (mSeq (mFor [2] fName (mRange1 (mVar 0)) (mOn 1 (mOfN (mComp [3] [3] fName (mRange (mOp2 gAdd (mVar 2) (mC (.int 1))) (mVar 0)) mYes (mTup (mCons (mVar 2) (mCons (mVar 3) mNil))))) gExt)) (mRet (mVar 1))))
def F__law_pairs : List D → R D := fnD 4 b__law_pairs
section
variable {P : Program} {w : World} {K : PySem.W.Frag} {mg : Str → Option Value} {base : Heap} {ct : Nat → Addr}
theorem k__law_pairs (T : Tx K mg "_law_pairs" s__law_pairs P__law_pairs) (m_range : mg "range" = none) : Cal P w K mg base "_law_pairs" P__law_pairs 1 (spD K ct 1 F__law_pairs) := by
  show Cal P w K mg base "_law_pairs" P__law_pairs 1 (spD K ct 1 (fnD 4 b__law_pairs))
  refine calDm (P := P) (w := w) (base := base) (ct := ct) (body := b__law_pairs) (k := 0) T sc__law_pairs rfl rfl (by decide) fun f cdv A outer s H E hr tk hp => ?_
  refine vss_cons ?_ ?_
  · exact vs_setN (i := 1) sc__law_pairs.nd rfl (Or.inl rfl) (vn_lst va_nil)
  · refine vss_cons ?_ ?_
    · refine vs_for hp rfl tg_name (vi_range1 (by rfl) m_range (ve_var 0 (pv 0))) (pg_name (i := 2) sc__law_pairs.nd rfl (Or.inr rfl)) ?_
      refine vss_one ?_
      exact vs_extend (pv 1) (ve_ofN (vn_lc (own := [("_law_b", 3)]) rfl sc__law_pairs.nd tg_name (vi_range2 (by rfl) m_range (ve_add (ve_var 2 (pv 2)) (vv_of (ve_c pe_int (.int _)))) (ve_var 0 (pv 0))) (blkOk_by (N := N__law_pairs) (sc := defScope s__law_pairs) (by decide +kernel)) (by decide) (fun _ _ _ _ _ => (pg_name (i := 3) sc__law_pairs.nd rfl (Or.inl rfl))) (fun _ _ _ _ _ => vts_nil) (fun _ _ _ _ _ => (ve_tup (va_cons (ve_var 2 (pv 2)) (va_cons (ve_var 3 (pv 3)) va_nil))))))
    · refine vss_one ?_
      exact vs_ret (ve_var 1 (pv 1))
end
def b__law_mixed_row : MS := (mSeq (mSetN 2 (mOp1N gList (vVar 1))) (mSeq (mSetN 3 (mLst mNil)) (mSeq (whileGo (mTest (mOp2 gNe (vVar 2) (mOfN (mLst mNil)))) (mOn 3 (mPop 2 (mCallS 1 0 F__law_take (mCons (mOp1 gLen (vVar 2)) mNil))) gApp) 100000) (mRet (mVar 3)))))
def F__law_mixed_row : List D → List D → R (D × List D) := fnS 4 b__law_mixed_row
section
variable {P : Program} {w : World} {K : PySem.W.Frag} {mg : Str → Option Value} {base : Heap} {ct : Nat → Addr}
theorem k__law_mixed_row (T : Tx K mg "_law_mixed_row" s__law_mixed_row P__law_mixed_row) (m_len : mg "len" = none) (m_list : mg "list" = none) (k__law_take : Cal P w K mg base "_law_take" P__law_take 1 (spS K 1 F__law_take)) : Cal P w K mg base "_law_mixed_row" P__law_mixed_row 2 (spS K 1 F__law_mixed_row) := by
  show Cal P w K mg base "_law_mixed_row" P__law_mixed_row 2 (spS K 1 (fnS 4 b__law_mixed_row))
  refine calSm (P := P) (w := w) (base := base) (ct := fun _ => 0) (body := b__law_mixed_row) (k := 1) T sc__law_mixed_row rfl rfl (by decide) fun f cdv A outer s H E hr tk hp => ?_
  refine vss_cons ?_ ?_
  · exact vs_setN (i := 2) sc__law_mixed_row.nd rfl (Or.inl rfl) (vn_list (by rfl) m_list (vv_var 1 (pv 1)))
  · refine vss_cons ?_ ?_
    · exact vs_setN (i := 3) sc__law_mixed_row.nd rfl (Or.inl rfl) (vn_lst va_nil)
    · refine vss_cons ?_ ?_
      · refine vs_while 100000 hp ?_ ?_
        · exact (vt_neV hr (vv_var 2 (pv 2)) pure_nil (vv_ofN (vn_lst va_nil)))
        · refine vss_one ?_
          exact vs_append (pv 3) (ve_pop (pv 2) (ve_callSC k__law_take hr (by decide) tk (by rfl) (pv 0) (va_cons (ve_len (by rfl) m_len (vv_var 2 (pv 2))) va_nil)))
      · refine vss_one ?_
        exact vs_ret (ve_var 3 (pv 3))
end
def b__law_web : MS := (mSeq (mSet 2 (mOp2 gMax2 (mC (.int 0)) (mOp2 gSub (mVar 1) (mOp2 gIx (mOfN (mLst (mCons (mC (.int 0)) (mCons (mC (.int 0)) (mCons (mC (.int 1)) (mCons (mC (.int 0)) (mCons (mC (.int 2)) (mCons (mC (.int 1)) (mCons (mC (.int 3)) (mCons (mVar 1) mNil)))))))))) (mCallS 1 0 F__law_take (mCons (mC (.int 8)) mNil)))))) (mSeq (mSet 3 (mCallS 1 0 F__law_take (mCons (mC (.int 7)) mNil))) (mSeq (mSetN 4 (mComp [8] [8] fName (mSeq1 (mCall 1 F__law_pairs (mCons (mVar 2) mNil))) (mTest (mOp2 oLt (mCallS 1 0 F__law_take (mCons (mC (.int 8)) mNil)) (mOp2 gIx (mOfN (mLst (mCons (mC (.int 2)) (mCons (mC (.int 4)) (mCons (mC (.int 6)) mNil))))) (mOp2 gMod (mVar 3) (mC (.int 3)))))) (mVar 8))) (mSeq (mSet 5 (mCallS 1 0 F__law_mixed_row (mCons (mOfN (mRange1 (mVar 2))) mNil))) (mSeq (mIfS (mTest (mOp2 oGt (mVar 3) (mC (.int 2)))) (mSeq (mSetN 4 (mLst mNil)) (mSeq (mFor [6] fName (mRange (mC (.int 1)) (mVar 2)) (mOn 4 (mOp1 gTuple (mOfN (mOp1N gSorted (mOfN (mLst (mCons (mOp2 gIx (mVar 5) (vVar 6)) (mCons (mOp2 gIx (mVar 5) (mOp2 gIx (mOfN (mLst (mCons (mOp2 gSub (mVar 6) (mC (.int 1))) (mCons (mOp2 gSub (mVar 6) (mC (.int 1))) (mCons (mC (.int 0)) (mCons (mOp2 gDiv (mVar 6) (mC (.int 2))) mNil)))))) (mOp2 gSub (mVar 3) (mC (.int 3))))) mNil))))))) gApp)) (mSeq (mIfS (mAnd (mTest (mOp2 gEq (mVar 3) (mC (.int 4)))) (mTest (mOp2 oGt (mVar 2) (mC (.int 2))))) (mOn 4 (mOp1 gTuple (mOfN (mOp1N gSorted (mOfN (mLst (mCons (mOp2 gIx (mVar 5) (mC (.int 0))) (mCons (mOp2 gIx (mVar 5) (mOp2 gSub (mVar 2) (mC (.int 1)))) mNil))))))) gApp) mNx) (mSeq (mSet 7 (mOfN (mComp [8] [8] fName (mSeq1 (mCall 1 F__law_pairs (mCons (mVar 2) mNil))) (mTest (mOp2 gEq (mCallS 1 0 F__law_take (mCons (mC (.int 12)) mNil)) (mC (.int 0)))) (mVar 8)))) (mSetN 4 (mComp [8] [8] fName (mSeq1 (mCall 1 F__law_pairs (mCons (mVar 2) mNil))) (mTest (mOp2 gNe (mOp2 (gInX false) (mVar 8) (vVar 4)) (mOp2 (gInX false) (mVar 8) (vVar 7)))) (mVar 8))))))) mNx) (mRet (mTup (mCons (mVar 2) (mCons (mOp1 gTuple (mOfN (mOp1N gSorted (vVar 4)))) mNil)))))))))
def F__law_web : List D → List D → R (D × List D) := fnS 9 b__law_web
section
variable {P : Program} {w : World} {K : PySem.W.Frag} {mg : Str → Option Value} {base : Heap} {ct : Nat → Addr}
theorem k__law_web (T : Tx K mg "_law_web" s__law_web P__law_web) (m_list : mg "list" = none) (m_max : mg "max" = none) (m_range : mg "range" = none) (m_sorted : mg "sorted" = none) (m_tuple : mg "tuple" = none) (k__law_pairs : Cal P w K mg base "_law_pairs" P__law_pairs 1 (spD K ct 1 F__law_pairs)) (k__law_take : Cal P w K mg base "_law_take" P__law_take 1 (spS K 1 F__law_take)) (k__law_mixed_row : Cal P w K mg base "_law_mixed_row" P__law_mixed_row 2 (spS K 1 F__law_mixed_row)) : Cal P w K mg base "_law_web" P__law_web 3 (spS K 1 F__law_web) := by
  show Cal P w K mg base "_law_web" P__law_web 3 (spS K 1 (fnS 9 b__law_web))
  refine calSm (P := P) (w := w) (base := base) (ct := ct) (body := b__law_web) (k := 2) T sc__law_web rfl rfl (by decide) fun f cdv A outer s H E hr tk hp => ?_
  refine vss_cons ?_ ?_
  · exact vs_set (i := 2) sc__law_web.nd rfl (Or.inl rfl) (ve_max2 rfl (by rfl) m_max (ve_c pe_int (.int _)) (vv_of (ve_sub (ve_var 1 (pv 1)) (vv_of (ve_ix (ve_ofN (vn_lst (va_cons (ve_c pe_int (.int _)) (va_cons (ve_c pe_int (.int _)) (va_cons (ve_c pe_int (.int _)) (va_cons (ve_c pe_int (.int _)) (va_cons (ve_c pe_int (.int _)) (va_cons (ve_c pe_int (.int _)) (va_cons (ve_c pe_int (.int _)) (va_cons (ve_var 1 (pv 1)) va_nil)))))))))) (vv_of (ve_callSC k__law_take hr (by decide) tk (by rfl) (pv 0) (va_cons (ve_c pe_int (.int _)) va_nil))) (fun _ _ => rfl))))))
  · refine vss_cons ?_ ?_
    · exact vs_set (i := 3) sc__law_web.nd rfl (Or.inr rfl) (ve_callSC k__law_take hr (by decide) tk (by rfl) (pv 0) (va_cons (ve_c pe_int (.int _)) va_nil))
    · refine vss_cons ?_ ?_
      · exact vs_setN (i := 4) sc__law_web.nd rfl (Or.inr rfl) (vn_lc (own := [("_law_tie", 8)]) rfl sc__law_web.nd tg_name (vi_seq (ve_callC k__law_pairs hr (by decide) tk (by rfl) (va_cons (ve_var 2 (pv 2)) va_nil))) (blkOk_by (N := N__law_web) (sc := defScope s__law_web) (by decide +kernel)) (by decide) (fun _ _ _ _ _ => (pg_name (i := 8) sc__law_web.nd rfl (Or.inl rfl))) (fun _ _ _ _ _ => (vts_one (vt_lt hr (ve_callSC k__law_take hr (by decide) takesW0 (by rfl) (pv 0) (va_cons (ve_c pe_int (.int _)) va_nil)) (vv_of (ve_ix (ve_ofN (vn_lst (va_cons (ve_c pe_int (.int _)) (va_cons (ve_c pe_int (.int _)) (va_cons (ve_c pe_int (.int _)) va_nil))))) (vv_of (ve_mod (ve_var 3 (pv 3)) (vv_of (ve_c pe_int (.int _))))) (fun _ _ => rfl)))))) (fun _ _ _ _ _ => (ve_var 8 (pv 8))))
      · refine vss_cons ?_ ?_
        · exact vs_set (i := 5) sc__law_web.nd rfl (Or.inl rfl) (ve_callSC k__law_mixed_row hr (by decide) tk (by rfl) (pv 0) (va_cons (ve_ofN (vn_listRg1 rfl (by rfl) m_list (by rfl) m_range (ve_var 2 (pv 2)))) va_nil))
        · refine vss_cons ?_ ?_
          · refine vs_if ?_ ?_ ?_
            · exact (vt_gt hr (ve_var 3 (pv 3)) (vv_of (ve_c pe_int (.int _))))
            · refine vss_cons ?_ ?_
              · exact vs_setN (i := 4) sc__law_web.nd rfl (Or.inr rfl) (vn_lst va_nil)
              · refine vss_cons ?_ ?_
                · refine vs_for hp rfl tg_name (vi_range2 (by rfl) m_range (ve_c pe_int (.int _)) (ve_var 2 (pv 2))) (pg_name (i := 6) sc__law_web.nd rfl (Or.inl rfl)) ?_
                  refine vss_one ?_
                  exact vs_append (pv 4) (ve_tuple (by rfl) m_tuple (vv_ofN (vn_sorted hr (by rfl) m_sorted (vv_ofN (vn_lst (va_cons (ve_ix (ve_var 5 (pv 5)) (vv_var 6 (pv 6)) (fun _ _ => rfl)) (va_cons (ve_ix (ve_var 5 (pv 5)) (vv_of (ve_ix (ve_ofN (vn_lst (va_cons (ve_sub (ve_var 6 (pv 6)) (vv_of (ve_c pe_int (.int _)))) (va_cons (ve_sub (ve_var 6 (pv 6)) (vv_of (ve_c pe_int (.int _)))) (va_cons (ve_c pe_int (.int _)) (va_cons (ve_div (ve_var 6 (pv 6)) (vv_of (ve_c pe_int (.int _)))) va_nil)))))) (vv_of (ve_sub (ve_var 3 (pv 3)) (vv_of (ve_c pe_int (.int _))))) (fun _ _ => rfl))) (fun _ _ => rfl)) va_nil)))))))
                · refine vss_cons ?_ ?_
                  · refine vs_if ?_ ?_ ?_
                    · exact (vt_w (vw_and (vt_eq hr (ve_var 3 (pv 3)) (vv_of (ve_c pe_int (.int _)))) (vw_and1 (vt_gt hr (ve_var 2 (pv 2)) (vv_of (ve_c pe_int (.int _)))))))
                    · refine vss_one ?_
                      exact vs_append (pv 4) (ve_tuple (by rfl) m_tuple (vv_ofN (vn_sorted hr (by rfl) m_sorted (vv_ofN (vn_lst (va_cons (ve_ix (ve_var 5 (pv 5)) (vv_of (ve_c pe_int (.int _))) (fun _ _ => rfl)) (va_cons (ve_ix (ve_var 5 (pv 5)) (vv_of (ve_sub (ve_var 2 (pv 2)) (vv_of (ve_c pe_int (.int _))))) (fun _ _ => rfl)) va_nil)))))))
                    · exact vss_nil
                  · refine vss_cons ?_ ?_
                    · exact vs_set (i := 7) sc__law_web.nd rfl (Or.inr rfl) (ve_ofN (vn_lc (own := [("_law_tie", 8)]) rfl sc__law_web.nd tg_name (vi_seq (ve_callC k__law_pairs hr (by decide) tk (by rfl) (va_cons (ve_var 2 (pv 2)) va_nil))) (blkOk_by (N := N__law_web) (sc := defScope s__law_web) (by decide +kernel)) (by decide) (fun _ _ _ _ _ => (pg_name (i := 8) sc__law_web.nd rfl (Or.inl rfl))) (fun _ _ _ _ _ => (vts_one (vt_eq hr (ve_callSC k__law_take hr (by decide) takesW0 (by rfl) (pv 0) (va_cons (ve_c pe_int (.int _)) va_nil)) (vv_of (ve_c pe_int (.int _)))))) (fun _ _ _ _ _ => (ve_var 8 (pv 8)))))
                    · refine vss_one ?_
                      exact vs_setN (i := 4) sc__law_web.nd rfl (Or.inr rfl) (vn_lc (own := [("_law_tie", 8)]) rfl sc__law_web.nd tg_name (vi_seq (ve_callC k__law_pairs hr (by decide) tk (by rfl) (va_cons (ve_var 2 (pv 2)) va_nil))) (blkOk_by (N := N__law_web) (sc := defScope s__law_web) (by decide +kernel)) (by decide) (fun _ _ _ _ _ => (pg_name (i := 8) sc__law_web.nd rfl (Or.inl rfl))) (fun _ _ _ _ _ => (vts_one (vt_ne hr (ve_in hr (ve_var 8 (pv 8)) (vv_var 4 (pv 4))) (vv_of (ve_in hr (ve_var 8 (pv 8)) (vv_var 7 (pv 7))))))) (fun _ _ _ _ _ => (ve_var 8 (pv 8))))
            · exact vss_nil
          · refine vss_one ?_
            exact vs_ret (ve_tup (va_cons (ve_var 2 (pv 2)) (va_cons (ve_tuple (by rfl) m_tuple (vv_ofN (vn_sorted hr (by rfl) m_sorted (vv_var 4 (pv 4))))) va_nil)))
end
def b__law_great_web : MS := (mSeq (mSet 1 (mOp2 gAdd (mC (.int 8)) (mCallS 1 0 F__law_take (mCons (mC (.int 7)) mNil)))) (mSeq (mSetN 2 (mLst mNil)) (mSeq (mFor [3] fName (mRange1 (mCallS 1 0 F__law_take (mCons (mC (.int 12)) mNil))) (mSeq (mSet 4 (mCallS 1 0 F__law_take (mCons (mVar 1) mNil))) (mSeq (mSet 5 (mOp2 gMod (mOp2 gAdd (mOp2 gAdd (mVar 4) (mC (.int 1))) (mCallS 1 0 F__law_take (mCons (mOp2 gSub (mVar 1) (mC (.int 1))) mNil))) (vVar 1))) (mOn 2 (mTup (mCons (mOp2 gMin2 (mVar 4) (vVar 5)) (mCons (mOp2 gMax2 (mVar 4) (vVar 5)) mNil))) gApp)))) (mRet (mTup (mCons (mVar 1) (mCons (mOp1 gTuple (mOfN (mOp1N gSetSort (vVar 2)))) mNil)))))))
def F__law_great_web : List D → List D → R (D × List D) := fnS 6 b__law_great_web
section
variable {P : Program} {w : World} {K : PySem.W.Frag} {mg : Str → Option Value} {base : Heap} {ct : Nat → Addr}
theorem k__law_great_web (T : Tx K mg "_law_great_web" s__law_great_web P__law_great_web) (m_max : mg "max" = none) (m_min : mg "min" = none) (m_range : mg "range" = none) (m_set : mg "set" = none) (m_sorted : mg "sorted" = none) (m_tuple : mg "tuple" = none) (k__law_take : Cal P w K mg base "_law_take" P__law_take 1 (spS K 1 F__law_take)) : Cal P w K mg base "_law_great_web" P__law_great_web 2 (spS K 0 F__law_great_web) := by
  show Cal P w K mg base "_law_great_web" P__law_great_web 2 (spS K 0 (fnS 6 b__law_great_web))
  refine calSm (P := P) (w := w) (base := base) (ct := fun _ => 0) (body := b__law_great_web) (k := 1) T sc__law_great_web rfl rfl (by decide) fun f cdv A outer s H E hr tk hp => ?_
  refine vss_cons ?_ ?_
  · exact vs_set (i := 1) sc__law_great_web.nd rfl (Or.inl rfl) (ve_add (ve_c pe_int (.int _)) (vv_of (ve_callSC k__law_take hr (by decide) tk (by rfl) (pv 0) (va_cons (ve_c pe_int (.int _)) va_nil))))
  · refine vss_cons ?_ ?_
    · exact vs_setN (i := 2) sc__law_great_web.nd rfl (Or.inl rfl) (vn_lst va_nil)
    · refine vss_cons ?_ ?_
      · refine vs_for hp rfl tg_name (vi_range1 (by rfl) m_range (ve_callSC k__law_take hr (by decide) tk (by rfl) (pv 0) (va_cons (ve_c pe_int (.int _)) va_nil))) (pg_name (i := 3) sc__law_great_web.nd rfl (Or.inl rfl)) ?_
        refine vss_cons ?_ ?_
        · exact vs_set (i := 4) sc__law_great_web.nd rfl (Or.inl rfl) (ve_callSC k__law_take hr (by decide) tk (by rfl) (pv 0) (va_cons (ve_var 1 (pv 1)) va_nil))
        · refine vss_cons ?_ ?_
          · exact vs_set (i := 5) sc__law_great_web.nd rfl (Or.inl rfl) (ve_mod (ve_add (ve_add (ve_var 4 (pv 4)) (vv_of (ve_c pe_int (.int _)))) (vv_of (ve_callSC k__law_take hr (by decide) tk (by rfl) (pv 0) (va_cons (ve_sub (ve_var 1 (pv 1)) (vv_of (ve_c pe_int (.int _)))) va_nil)))) (vv_var 1 (pv 1)))
          · refine vss_one ?_
            exact vs_append (pv 2) (ve_tup (va_cons (ve_min2 rfl (by rfl) m_min (ve_var 4 (pv 4)) (vv_var 5 (pv 5))) (va_cons (ve_max2 rfl (by rfl) m_max (ve_var 4 (pv 4)) (vv_var 5 (pv 5))) va_nil)))
      · refine vss_one ?_
        exact vs_ret (ve_tup (va_cons (ve_var 1 (pv 1)) (va_cons (ve_tuple (by rfl) m_tuple (vv_ofN (vn_setsort rfl hr (by rfl) m_sorted (by rfl) m_set (vv_var 2 (pv 2))))) va_nil)))
end
def b__law_whole : MS := (mRet (mAndV (mOp1 (gIsi "int") (vVar 0)) (mNotV (mOp1 (gIsi "bool") (vVar 0)))))
def F__law_whole : List D → R D := fnD 1 b__law_whole
section
variable {P : Program} {w : World} {K : PySem.W.Frag} {mg : Str → Option Value} {base : Heap} {ct : Nat → Addr}
theorem k__law_whole (T : Tx K mg "_law_whole" s__law_whole P__law_whole) (m_bool : mg "bool" = none) (m_int : mg "int" = none) (m_isinstance : mg "isinstance" = none) : Cal P w K mg base "_law_whole" P__law_whole 1 (spD K ct 1 F__law_whole) := by
  show Cal P w K mg base "_law_whole" P__law_whole 1 (spD K ct 1 (fnD 1 b__law_whole))
  refine calDm (P := P) (w := w) (base := base) (ct := ct) (body := b__law_whole) (k := 0) T sc__law_whole rfl rfl (by decide) fun f cdv A outer s H E hr tk hp => ?_
  refine vss_one ?_
  exact vs_ret (ve_and (ve_isi ty_int (by rfl) m_isinstance (vv_var 0 (pv 0)) (pe_bltn (by rfl) m_int PyProof.Rows.boot_int rfl)) (ve_one (ve_not (ve_isi ty_bool (by rfl) m_isinstance (vv_var 0 (pv 0)) (pe_bltn (by rfl) m_bool PyProof.Rows.boot_bool rfl)))))
end
def b__law_is_web : MS := (mSeq (mIfS (mOr (mNot (mTest (mOp1 (gIsi "tuple") (vVar 0)))) (mOr (mTest (mOp2 gNe (mOp1 gLen (vVar 0)) (mC (.int 2)))) (mOr (mNot (mTest (mCall 1 F__law_whole (mCons (mOp2 gIx (mVar 0) (mC (.int 0))) mNil)))) (mNot (mTest (mChain oLe oLe (mC (.int 0)) (mOp2 gIx (mVar 0) (mC (.int 0))) (mC (.int 14)))))))) (mRet (mC (.bool false))) mNx) (mSeq (mIfS (mNot (mTest (mOp1 (gIsi "tuple") (mOp2 gIx (mVar 0) (mC (.int 1)))))) (mRet (mC (.bool false))) mNx) (mSeq (mFor [1] fName (mSeq1 (mOp2 gIx (mVar 0) (mC (.int 1)))) (mSeq (mIfS (mOr (mNot (mTest (mOp1 (gIsi "tuple") (vVar 1)))) (mOr (mTest (mOp2 gNe (mOp1 gLen (vVar 1)) (mC (.int 2)))) (mOr (mNot (mTest (mCall 1 F__law_whole (mCons (mOp2 gIx (mVar 1) (mC (.int 0))) mNil)))) (mNot (mTest (mCall 1 F__law_whole (mCons (mOp2 gIx (mVar 1) (mC (.int 1))) mNil))))))) (mRet (mC (.bool false))) mNx) (mIfS (mNot (mTest (mChain3 oLe oLt oLt (mC (.int 0)) (mOp2 gIx (mVar 1) (mC (.int 0))) (mOp2 gIx (mVar 1) (mC (.int 1))) (mOp2 gIx (mVar 0) (mC (.int 0)))))) (mRet (mC (.bool false))) mNx))) (mRet (mOp2 gEq (mOfN (mOp1N gList (mOp2 gIx (mVar 0) (mC (.int 1))))) (mOfN (mOp1N gSetSort (mOp2 gIx (mVar 0) (mC (.int 1))))))))))
def F__law_is_web : List D → R D := fnD 2 b__law_is_web
section
variable {P : Program} {w : World} {K : PySem.W.Frag} {mg : Str → Option Value} {base : Heap} {ct : Nat → Addr}
theorem k__law_is_web (T : Tx K mg "_law_is_web" s__law_is_web P__law_is_web) (m_isinstance : mg "isinstance" = none) (m_len : mg "len" = none) (m_list : mg "list" = none) (m_set : mg "set" = none) (m_sorted : mg "sorted" = none) (m_tuple : mg "tuple" = none) (k__law_whole : Cal P w K mg base "_law_whole" P__law_whole 1 (spD K ct 1 F__law_whole)) : Cal P w K mg base "_law_is_web" P__law_is_web 2 (spD K ct 1 F__law_is_web) := by
  show Cal P w K mg base "_law_is_web" P__law_is_web 2 (spD K ct 1 (fnD 2 b__law_is_web))
  refine calDm (P := P) (w := w) (base := base) (ct := ct) (body := b__law_is_web) (k := 1) T sc__law_is_web rfl rfl (by decide) fun f cdv A outer s H E hr tk hp => ?_
  refine vss_cons ?_ ?_
  · refine vs_if ?_ ?_ ?_
    · exact (vt_w (vw_or (vt_not (vt_val (ve_isi ty_tuple (by rfl) m_isinstance (vv_var 0 (pv 0)) (pe_bltn (by rfl) m_tuple PyProof.Rows.boot_tuple rfl)))) (vw_or (vt_ne hr (ve_len (by rfl) m_len (vv_var 0 (pv 0))) (vv_of (ve_c pe_int (.int _)))) (vw_or (vt_not (vt_val (ve_callC k__law_whole hr (by decide) tk (by rfl) (va_cons (ve_ix (ve_var 0 (pv 0)) (vv_of (ve_c pe_int (.int _))) (fun _ _ => rfl)) va_nil)))) (vw_or1 (vt_not (vt_leLe hr (ve_c pe_int (.int _)) (ve_ix (ve_var 0 (pv 0)) (vv_of (ve_c pe_int (.int _))) (fun _ _ => rfl)) (vv_of (ve_c pe_int (.int _))))))))))
    · refine vss_one ?_
      exact vs_ret (ve_c pe_bl (.bl _))
    · exact vss_nil
  · refine vss_cons ?_ ?_
    · refine vs_if ?_ ?_ ?_
      · exact (vt_not (vt_val (ve_isi ty_tuple (by rfl) m_isinstance (vv_of (ve_ix (ve_var 0 (pv 0)) (vv_of (ve_c pe_int (.int _))) (fun _ _ => rfl))) (pe_bltn (by rfl) m_tuple PyProof.Rows.boot_tuple rfl))))
      · refine vss_one ?_
        exact vs_ret (ve_c pe_bl (.bl _))
      · exact vss_nil
    · refine vss_cons ?_ ?_
      · refine vs_for hp rfl tg_name (vi_seq (ve_ix (ve_var 0 (pv 0)) (vv_of (ve_c pe_int (.int _))) (fun _ _ => rfl))) (pg_name (i := 1) sc__law_is_web.nd rfl (Or.inl rfl)) ?_
        refine vss_cons ?_ ?_
        · refine vs_if ?_ ?_ ?_
          · exact (vt_w (vw_or (vt_not (vt_val (ve_isi ty_tuple (by rfl) m_isinstance (vv_var 1 (pv 1)) (pe_bltn (by rfl) m_tuple PyProof.Rows.boot_tuple rfl)))) (vw_or (vt_ne hr (ve_len (by rfl) m_len (vv_var 1 (pv 1))) (vv_of (ve_c pe_int (.int _)))) (vw_or (vt_not (vt_val (ve_callC k__law_whole hr (by decide) tk (by rfl) (va_cons (ve_ix (ve_var 1 (pv 1)) (vv_of (ve_c pe_int (.int _))) (fun _ _ => rfl)) va_nil)))) (vw_or1 (vt_not (vt_val (ve_callC k__law_whole hr (by decide) tk (by rfl) (va_cons (ve_ix (ve_var 1 (pv 1)) (vv_of (ve_c pe_int (.int _))) (fun _ _ => rfl)) va_nil)))))))))
          · refine vss_one ?_
            exact vs_ret (ve_c pe_bl (.bl _))
          · exact vss_nil
        · refine vss_one ?_
          refine vs_if ?_ ?_ ?_
          · exact (vt_not (vt_leLtLt hr (ve_c pe_int (.int _)) (ve_ix (ve_var 1 (pv 1)) (vv_of (ve_c pe_int (.int _))) (fun _ _ => rfl)) (ve_ix (ve_var 1 (pv 1)) (vv_of (ve_c pe_int (.int _))) (fun _ _ => rfl)) (vv_of (ve_ix (ve_var 0 (pv 0)) (vv_of (ve_c pe_int (.int _))) (fun _ _ => rfl)))))
          · refine vss_one ?_
            exact vs_ret (ve_c pe_bl (.bl _))
          · exact vss_nil
      · refine vss_one ?_
        exact vs_ret (ve_eq hr (ve_ofN (vn_list (by rfl) m_list (vv_of (ve_ix (ve_var 0 (pv 0)) (vv_of (ve_c pe_int (.int _))) (fun _ _ => rfl))))) (vv_ofN (vn_setsort rfl hr (by rfl) m_sorted (by rfl) m_set (vv_of (ve_ix (ve_var 0 (pv 0)) (vv_of (ve_c pe_int (.int _))) (fun _ _ => rfl))))))
end
def b__law_bad_web : MS := (mSeq (mSet 1 (mOfN (mLst (mCons (mC .none) (mCons (mC (.int 0)) (mCons (mTup mNil) (mCons (mTup (mCons (mC (.int 15)) (mCons (mTup mNil) mNil))) (mCons (mTup (mCons (mOp1 gNeg (mC (.int 1))) (mCons (mTup mNil) mNil))) (mCons (mTup (mCons (mC (.bool true)) (mCons (mTup mNil) mNil))) (mCons (mTup (mCons (mC (.int 2)) (mCons (mOfN (mLst mNil)) mNil))) (mCons (mOfN (mLst (mCons (mC (.int 2)) (mCons (mTup mNil) mNil)))) (mCons (mTup (mCons (mC (.int 2)) (mCons (mTup (mCons (mTup (mCons (mC (.int 1)) (mCons (mC (.int 0)) mNil))) mNil)) mNil))) (mCons (mTup (mCons (mC (.int 2)) (mCons (mTup (mCons (mTup (mCons (mC (.int 0)) (mCons (mC (.int 0)) mNil))) mNil)) mNil))) (mCons mDct (mCons (mC (.str "2:")) mNil))))))))))))))) (mSeq (mSet 1 (mOp2 gAdd (mVar 1) (mOfN (mLst (mCons (mTup (mCons (mC (.int 2)) (mCons (mTup (mCons (mTup (mCons (mC (.int 0)) (mCons (mC (.int 1)) mNil))) (mCons (mTup (mCons (mC (.int 0)) (mCons (mC (.int 1)) mNil))) mNil))) mNil))) (mCons (mTup (mCons (mC (.int 3)) (mCons (mTup (mCons (mTup (mCons (mC (.int 0)) (mCons (mC (.int 2)) mNil))) (mCons (mTup (mCons (mC (.int 0)) (mCons (mC (.int 1)) mNil))) mNil))) mNil))) (mCons (mTup (mCons (mC (.int 2)) (mCons (mTup (mCons (mTup (mCons (mC (.int 0)) (mCons (mC (.int 2)) mNil))) mNil)) mNil))) (mCons (mTup (mCons (mC (.int 2)) (mCons (mTup (mCons (mTup (mCons (mC (.int 0)) (mCons (mC (.bool true)) mNil))) mNil)) mNil))) (mCons (mTup (mCons (mC (.int 2)) (mCons (mTup (mCons (mTup (mCons (mC (.int 0)) (mCons (mC (.int 1)) (mCons (mC (.int 1)) mNil)))) mNil)) mNil))) mNil))))))))) (mSeq (mSet 1 (mOp2 gAdd (mVar 1) (mOfN (mLst (mCons (mTup (mCons (mC (.int 2)) (mCons (mTup (mCons (mC (.int 0)) (mCons (mC (.int 1)) mNil))) mNil))) (mCons (mTup (mCons (mC (.int 2)) (mCons (mC .none) mNil))) (mCons (mTup (mCons (mC (.int 2)) (mCons (mTup mNil) (mCons (mTup mNil) mNil)))) (mCons (mTup (mCons (mC (.int 2)) mNil)) (mCons (mTup (mCons (mC (.int 2)) (mCons (mTup (mCons (mOfN (mLst (mCons (mC (.int 0)) (mCons (mC (.int 1)) mNil)))) mNil)) mNil))) (mCons (mTup (mCons (mC (.int 2)) (mCons (mTup (mCons (mC .none) mNil)) mNil))) (mCons (mTup (mCons (mC (.str "2")) (mCons (mTup mNil) mNil))) (mCons (mTup (mCons (mC (.int 0)) (mCons (mTup (mCons (mTup (mCons (mC (.int 0)) (mCons (mC (.int 1)) mNil))) mNil)) mNil))) mNil)))))))))))) (mRet (mOp2 gIx (mVar 1) (mCallS 1 0 F__law_take (mCons (mC (.int 25)) mNil)))))))
def F__law_bad_web : List D → List D → R (D × List D) := fnS 2 b__law_bad_web
section
variable {P : Program} {w : World} {K : PySem.W.Frag} {mg : Str → Option Value} {base : Heap} {ct : Nat → Addr}
theorem k__law_bad_web (T : Tx K mg "_law_bad_web" s__law_bad_web P__law_bad_web) (k__law_take : Cal P w K mg base "_law_take" P__law_take 1 (spS K 1 F__law_take)) : Cal P w K mg base "_law_bad_web" P__law_bad_web 2 (spS K 0 F__law_bad_web) := by
  show Cal P w K mg base "_law_bad_web" P__law_bad_web 2 (spS K 0 (fnS 2 b__law_bad_web))
  refine calSm (P := P) (w := w) (base := base) (ct := fun _ => 0) (body := b__law_bad_web) (k := 1) T sc__law_bad_web rfl rfl (by decide) fun f cdv A outer s H E hr tk hp => ?_
  refine vss_cons ?_ ?_
  · exact vs_set (i := 1) sc__law_bad_web.nd rfl (Or.inl rfl) (ve_ofN (vn_lst (va_cons (ve_c pe_non .non) (va_cons (ve_c pe_int (.int _)) (va_cons (ve_tup va_nil) (va_cons (ve_tup (va_cons (ve_c pe_int (.int _)) (va_cons (ve_tup va_nil) va_nil))) (va_cons (ve_tup (va_cons (ve_neg (ve_c pe_int (.int _))) (va_cons (ve_tup va_nil) va_nil))) (va_cons (ve_tup (va_cons (ve_c pe_bl (.bl _)) (va_cons (ve_tup va_nil) va_nil))) (va_cons (ve_tup (va_cons (ve_c pe_int (.int _)) (va_cons (ve_ofN (vn_lst va_nil)) va_nil))) (va_cons (ve_ofN (vn_lst (va_cons (ve_c pe_int (.int _)) (va_cons (ve_tup va_nil) va_nil)))) (va_cons (ve_tup (va_cons (ve_c pe_int (.int _)) (va_cons (ve_tup (va_cons (ve_tup (va_cons (ve_c pe_int (.int _)) (va_cons (ve_c pe_int (.int _)) va_nil))) va_nil)) va_nil))) (va_cons (ve_tup (va_cons (ve_c pe_int (.int _)) (va_cons (ve_tup (va_cons (ve_tup (va_cons (ve_c pe_int (.int _)) (va_cons (ve_c pe_int (.int _)) va_nil))) va_nil)) va_nil))) (va_cons ve_dct (va_cons (ve_c pe_str (.str _)) va_nil))))))))))))))
  · refine vss_cons ?_ ?_
    · exact vs_set (i := 1) sc__law_bad_web.nd rfl (Or.inl rfl) (ve_add (ve_var 1 (pv 1)) (vv_ofN (vn_lst (va_cons (ve_tup (va_cons (ve_c pe_int (.int _)) (va_cons (ve_tup (va_cons (ve_tup (va_cons (ve_c pe_int (.int _)) (va_cons (ve_c pe_int (.int _)) va_nil))) (va_cons (ve_tup (va_cons (ve_c pe_int (.int _)) (va_cons (ve_c pe_int (.int _)) va_nil))) va_nil))) va_nil))) (va_cons (ve_tup (va_cons (ve_c pe_int (.int _)) (va_cons (ve_tup (va_cons (ve_tup (va_cons (ve_c pe_int (.int _)) (va_cons (ve_c pe_int (.int _)) va_nil))) (va_cons (ve_tup (va_cons (ve_c pe_int (.int _)) (va_cons (ve_c pe_int (.int _)) va_nil))) va_nil))) va_nil))) (va_cons (ve_tup (va_cons (ve_c pe_int (.int _)) (va_cons (ve_tup (va_cons (ve_tup (va_cons (ve_c pe_int (.int _)) (va_cons (ve_c pe_int (.int _)) va_nil))) va_nil)) va_nil))) (va_cons (ve_tup (va_cons (ve_c pe_int (.int _)) (va_cons (ve_tup (va_cons (ve_tup (va_cons (ve_c pe_int (.int _)) (va_cons (ve_c pe_bl (.bl _)) va_nil))) va_nil)) va_nil))) (va_cons (ve_tup (va_cons (ve_c pe_int (.int _)) (va_cons (ve_tup (va_cons (ve_tup (va_cons (ve_c pe_int (.int _)) (va_cons (ve_c pe_int (.int _)) (va_cons (ve_c pe_int (.int _)) va_nil)))) va_nil)) va_nil))) va_nil))))))))
    · refine vss_cons ?_ ?_
      · exact vs_set (i := 1) sc__law_bad_web.nd rfl (Or.inl rfl) (ve_add (ve_var 1 (pv 1)) (vv_ofN (vn_lst (va_cons (ve_tup (va_cons (ve_c pe_int (.int _)) (va_cons (ve_tup (va_cons (ve_c pe_int (.int _)) (va_cons (ve_c pe_int (.int _)) va_nil))) va_nil))) (va_cons (ve_tup (va_cons (ve_c pe_int (.int _)) (va_cons (ve_c pe_non .non) va_nil))) (va_cons (ve_tup (va_cons (ve_c pe_int (.int _)) (va_cons (ve_tup va_nil) (va_cons (ve_tup va_nil) va_nil)))) (va_cons (ve_tup (va_cons (ve_c pe_int (.int _)) va_nil)) (va_cons (ve_tup (va_cons (ve_c pe_int (.int _)) (va_cons (ve_tup (va_cons (ve_ofN (vn_lst (va_cons (ve_c pe_int (.int _)) (va_cons (ve_c pe_int (.int _)) va_nil)))) va_nil)) va_nil))) (va_cons (ve_tup (va_cons (ve_c pe_int (.int _)) (va_cons (ve_tup (va_cons (ve_c pe_non .non) va_nil)) va_nil))) (va_cons (ve_tup (va_cons (ve_c pe_str (.str _)) (va_cons (ve_tup va_nil) va_nil))) (va_cons (ve_tup (va_cons (ve_c pe_int (.int _)) (va_cons (ve_tup (va_cons (ve_tup (va_cons (ve_c pe_int (.int _)) (va_cons (ve_c pe_int (.int _)) va_nil))) va_nil)) va_nil))) va_nil)))))))))))
      · refine vss_one ?_
        exact vs_ret (ve_ix (ve_var 1 (pv 1)) (vv_of (ve_callSC k__law_take hr (by decide) tk (by rfl) (pv 0) (va_cons (ve_c pe_int (.int _)) va_nil))) (fun _ _ => rfl))
end
def b__law_same (n : List D → R D) : MS := (mSeq (mIfS (mTest (mOp1 (gIsi2 "tuple" "list") (vVar 1))) (mSeq (mIfS (mOr (mTest (mOp2 gNe (mOp1 (gIsi "tuple") (vVar 0)) (mOp1 (gIsi "tuple") (vVar 1)))) (mTest (mOp2 gNe (mOp1 (gIsi "list") (vVar 0)) (mOp1 (gIsi "list") (vVar 1))))) (mRet (mC (.bool false))) mNx) (mSeq (mIfS (mTest (mOp2 gNe (mOp1 gLen (vVar 0)) (mOp1 gLen (vVar 1)))) (mRet (mC (.bool false))) mNx) (mRet (mOp1 gAll (mOfN (mComp [2, 3] [2, 3] (fTup 2) (mZip (mVar 0) (mVar 1)) mYes (mCall 2 n (mCons (mVar 2) (mCons (mVar 3) mNil))))))))) mNx) (mRet (mAndV (mOp2 gEq (mVar 0) (vVar 1)) (mOp2 gEq (mOp1 (gIsi "bool") (vVar 0)) (mOp1 (gIsi "bool") (vVar 1))))))
def F__law_same : Nat → List D → R D
  | 0 => fun _ => .bad
  | n + 1 => fnD 4 (b__law_same (F__law_same n))
section
variable {P : Program} {w : World} {K : PySem.W.Frag} {mg : Str → Option Value} {base : Heap} {ct : Nat → Addr}
theorem k__law_same (T : Tx K mg "_law_same" s__law_same P__law_same) (m_all : mg "all" = none) (m_bool : mg "bool" = none) (m_isinstance : mg "isinstance" = none) (m_len : mg "len" = none) (m_list : mg "list" = none) (m_tuple : mg "tuple" = none) (m_zip : mg "zip" = none) : ∀ n : Nat, Cal P w K mg base "_law_same" P__law_same (n + 0) (spD K ct 2 (F__law_same n))
  | 0 => cal_bad T spD_bad
  | n + 1 => by
    have k__law_same := k__law_same T m_all m_bool m_isinstance m_len m_list m_tuple m_zip n
    refine calDm (P := P) (w := w) (base := base) (ct := ct) (body := b__law_same (F__law_same n)) (k := n + 0) T sc__law_same rfl rfl (by decide) fun f cdv A outer s H E hr tk hp => ?_
    refine vss_cons ?_ ?_
    · refine vs_if ?_ ?_ ?_
      · exact (vt_val (ve_isi2 ty_tuple ty_list (by rfl) m_isinstance (vv_var 1 (pv 1)) (pe_bltn (by rfl) m_tuple PyProof.Rows.boot_tuple rfl) (pe_bltn (by rfl) m_list PyProof.Rows.boot_list rfl)))
      · refine vss_cons ?_ ?_
        · refine vs_if ?_ ?_ ?_
          · exact (vt_w (vw_or (vt_ne hr (ve_isi ty_tuple (by rfl) m_isinstance (vv_var 0 (pv 0)) (pe_bltn (by rfl) m_tuple PyProof.Rows.boot_tuple rfl)) (vv_of (ve_isi ty_tuple (by rfl) m_isinstance (vv_var 1 (pv 1)) (pe_bltn (by rfl) m_tuple PyProof.Rows.boot_tuple rfl)))) (vw_or1 (vt_ne hr (ve_isi ty_list (by rfl) m_isinstance (vv_var 0 (pv 0)) (pe_bltn (by rfl) m_list PyProof.Rows.boot_list rfl)) (vv_of (ve_isi ty_list (by rfl) m_isinstance (vv_var 1 (pv 1)) (pe_bltn (by rfl) m_list PyProof.Rows.boot_list rfl)))))))
          · refine vss_one ?_
            exact vs_ret (ve_c pe_bl (.bl _))
          · exact vss_nil
        · refine vss_cons ?_ ?_
          · refine vs_if ?_ ?_ ?_
            · exact (vt_ne hr (ve_len (by rfl) m_len (vv_var 0 (pv 0))) (vv_of (ve_len (by rfl) m_len (vv_var 1 (pv 1)))))
            · refine vss_one ?_
              exact vs_ret (ve_c pe_bl (.bl _))
            · exact vss_nil
          · refine vss_one ?_
            exact vs_ret (ve_all rfl (by rfl) m_all (vv_ofN (vn_lc (own := [("_law_one", 2), ("_law_other", 3)]) rfl sc__law_same.nd tg_two (vi_zip (by rfl) m_zip (ve_var 0 (pv 0)) (ve_var 1 (pv 1))) (blkOk_by (N := N__law_same) (sc := defScope s__law_same) (by decide +kernel)) (by decide) (fun _ _ _ _ _ => (pg_tup rfl (pgs_cons (pg_name (i := 2) sc__law_same.nd rfl (Or.inl rfl)) (pgs_cons (pg_name (i := 3) sc__law_same.nd rfl (Or.inl rfl)) pgs_nil)))) (fun _ _ _ _ _ => vts_nil) (fun _ _ _ _ _ => (ve_callC k__law_same hr (Nat.le_refl _) takesW0 (by rfl) (va_cons (ve_var 2 (pv 2)) (va_cons (ve_var 3 (pv 3)) va_nil)))))))
      · exact vss_nil
    · refine vss_one ?_
      exact vs_ret (ve_and (ve_eq hr (ve_var 0 (pv 0)) (vv_var 1 (pv 1))) (ve_one (ve_eq hr (ve_isi ty_bool (by rfl) m_isinstance (vv_var 0 (pv 0)) (pe_bltn (by rfl) m_bool PyProof.Rows.boot_bool rfl)) (vv_of (ve_isi ty_bool (by rfl) m_isinstance (vv_var 1 (pv 1)) (pe_bltn (by rfl) m_bool PyProof.Rows.boot_bool rfl))))))
end
def b__law_bent : MS := (mSeq (mUnp [2, 3] (fTup 2) (mVar 1)) (mSeq (mSet 4 (mCallS 1 0 F__law_take (mCons (mOp2 gAdd (mOp1 gLen (vVar 3)) (mC (.int 1))) mNil))) (mSeq (mPar 5 6 (mCons (mCallS 1 0 F__law_take (mCons (mOp2 gAdd (mVar 2) (mC (.int 1))) mNil)) (mCons (mCallS 1 0 F__law_take (mCons (mOp2 gAdd (mVar 2) (mC (.int 1))) mNil)) mNil))) (mSeq (mSet 7 (mOfN (mLst (mCons (mTup (mCons (mVar 5) (mCons (mVar 6) mNil))) (mCons (mTup (mCons (mVar 6) (mCons (mVar 5) mNil))) (mCons (mTup (mCons (mVar 5) (mCons (mVar 5) mNil))) (mCons (mTup (mCons (mOp1 gNeg (mC (.int 1))) (mCons (mVar 5) mNil))) (mCons (mTup (mCons (mVar 5) (mCons (mC (.bool true)) mNil))) (mCons (mTup (mCons (mVar 5) mNil)) (mCons (mTup (mCons (mVar 5) (mCons (mVar 6) (mCons (mVar 6) mNil)))) (mCons (mOfN (mLst (mCons (mVar 5) (mCons (mVar 6) mNil)))) (mCons (mC .none) (mCons (mC (.str "01")) (mCons (mVar 5) (mCons (mTup (mCons (mVar 5) (mCons (mC .none) mNil))) (mCons (mTup (mCons (mTup (mCons (mVar 5) (mCons (mVar 6) mNil))) mNil)) mNil)))))))))))))))) (mSeq (mSet 7 (mOp2 gIx (mVar 7) (mCallS 1 0 F__law_take (mCons (mC (.int 13)) mNil)))) (mSeq (mSet 8 (mOfN (mLst (mCons (mTup (mCons (mVar 2) (mCons (mOp2 gAdd (mSl (mVar 3) mNoPart (mPart (mVar 4))) (mSl (mVar 3) (mPart (mOp2 gAdd (mVar 4) (mC (.int 1)))) mNoPart)) mNil))) (mCons (mTup (mCons (mVar 2) (mCons (mOp2 gAdd (mOp2 gAdd (mSl (mVar 3) mNoPart (mPart (mVar 4))) (mTup (mCons (mVar 7) mNil))) (mSl (mVar 3) (mPart (mVar 4)) mNoPart)) mNil))) (mCons (mTup (mCons (mOp2 gSub (mVar 2) (mC (.int 1))) (mCons (mVar 3) mNil))) mNil)))))) (mSeq (mSet 8 (mOp2 gAdd (mVar 8) (mOfN (mLst (mCons (mTup (mCons (mVar 2) (mCons (mOp2 gAdd (mOp2 gAdd (mSl (mVar 3) mNoPart (mPart (mVar 4))) (mTup (mCons (mVar 7) mNil))) (mSl (mVar 3) (mPart (mOp2 gAdd (mVar 4) (mC (.int 1)))) mNoPart)) mNil))) (mCons (mTup (mCons (mVar 2) (mCons (mOp2 gAdd (mOp2 gAdd (mSl (mVar 3) mNoPart (mPart (mVar 4))) (mSl (mVar 3) (mPart (mVar 4)) (mPart (mOp2 gAdd (mVar 4) (mC (.int 1)))))) (mSl (mVar 3) (mPart (mVar 4)) mNoPart)) mNil))) mNil)))))) (mSeq (mSet 8 (mOp2 gAdd (mVar 8) (mOfN (mLst (mCons (mTup (mCons (mVar 2) (mCons (mOp1 gRev (mVar 3)) mNil))) (mCons (mTup (mCons (mVar 2) (mCons (mOfN (mOp1N gList (vVar 3))) mNil))) (mCons (mOfN (mLst (mCons (mVar 2) (mCons (mVar 3) mNil)))) (mCons (mTup (mCons (mOp2 gAdd (mVar 2) (mC (.int 1))) (mCons (mVar 3) mNil))) (mCons (mTup (mCons (mVar 2) mNil)) (mCons (mTup (mCons (mVar 3) (mCons (mVar 2) mNil))) mNil)))))))))) (mSeq (mSet 8 (mOp2 gAdd (mVar 8) (mOfN (mLst (mCons (mTup (mCons (mVar 2) (mCons (mVar 3) (mCons (mTup mNil) mNil)))) (mCons (mTup (mCons (mC (.bool true)) (mCons (mVar 3) mNil))) (mCons (mTup (mCons (mOp1 gStr (vVar 2)) (mCons (mVar 3) mNil))) (mCons (mTup (mCons (mC (.int 15)) (mCons (mVar 3) mNil))) mNil)))))))) (mRet (mOp2 gIx (mVar 8) (mCallS 1 0 F__law_take (mCons (mC (.int 15)) mNil)))))))))))))
def F__law_bent : List D → List D → R (D × List D) := fnS 9 b__law_bent
section
variable {P : Program} {w : World} {K : PySem.W.Frag} {mg : Str → Option Value} {base : Heap} {ct : Nat → Addr}
theorem k__law_bent (T : Tx K mg "_law_bent" s__law_bent P__law_bent) (m_len : mg "len" = none) (m_list : mg "list" = none) (m_str : mg "str" = none) (k__law_take : Cal P w K mg base "_law_take" P__law_take 1 (spS K 1 F__law_take)) : Cal P w K mg base "_law_bent" P__law_bent 2 (spS K 1 F__law_bent) := by
  show Cal P w K mg base "_law_bent" P__law_bent 2 (spS K 1 (fnS 9 b__law_bent))
  refine calSm (P := P) (w := w) (base := base) (ct := fun _ => 0) (body := b__law_bent) (k := 1) T sc__law_bent rfl rfl (by decide) fun f cdv A outer s H E hr tk hp => ?_
  refine vss_cons ?_ ?_
  · exact vs_unp tg_two (pg_tup rfl (pgs_cons (pg_name (i := 2) sc__law_bent.nd rfl (Or.inl rfl)) (pgs_cons (pg_name (i := 3) sc__law_bent.nd rfl (Or.inl rfl)) pgs_nil))) (ve_var 1 (pv 1))
  · refine vss_cons ?_ ?_
    · exact vs_set (i := 4) sc__law_bent.nd rfl (Or.inl rfl) (ve_callSC k__law_take hr (by decide) tk (by rfl) (pv 0) (va_cons (ve_add (ve_len (by rfl) m_len (vv_var 3 (pv 3))) (vv_of (ve_c pe_int (.int _)))) va_nil))
    · refine vss_cons ?_ ?_
      · exact vs_par (i := 5) (j := 6) rfl sc__law_bent.nd rfl rfl (by decide) rfl rfl (va_cons (ve_callSC k__law_take hr (by decide) tk (by rfl) (pv 0) (va_cons (ve_add (ve_var 2 (pv 2)) (vv_of (ve_c pe_int (.int _)))) va_nil)) (va_cons (ve_callSC k__law_take hr (by decide) tk (by rfl) (pv 0) (va_cons (ve_add (ve_var 2 (pv 2)) (vv_of (ve_c pe_int (.int _)))) va_nil)) va_nil)) (by rfl)
      · refine vss_cons ?_ ?_
        · exact vs_set (i := 7) sc__law_bent.nd rfl (Or.inl rfl) (ve_ofN (vn_lst (va_cons (ve_tup (va_cons (ve_var 5 (pv 5)) (va_cons (ve_var 6 (pv 6)) va_nil))) (va_cons (ve_tup (va_cons (ve_var 6 (pv 6)) (va_cons (ve_var 5 (pv 5)) va_nil))) (va_cons (ve_tup (va_cons (ve_var 5 (pv 5)) (va_cons (ve_var 5 (pv 5)) va_nil))) (va_cons (ve_tup (va_cons (ve_neg (ve_c pe_int (.int _))) (va_cons (ve_var 5 (pv 5)) va_nil))) (va_cons (ve_tup (va_cons (ve_var 5 (pv 5)) (va_cons (ve_c pe_bl (.bl _)) va_nil))) (va_cons (ve_tup (va_cons (ve_var 5 (pv 5)) va_nil)) (va_cons (ve_tup (va_cons (ve_var 5 (pv 5)) (va_cons (ve_var 6 (pv 6)) (va_cons (ve_var 6 (pv 6)) va_nil)))) (va_cons (ve_ofN (vn_lst (va_cons (ve_var 5 (pv 5)) (va_cons (ve_var 6 (pv 6)) va_nil)))) (va_cons (ve_c pe_non .non) (va_cons (ve_c pe_str (.str _)) (va_cons (ve_var 5 (pv 5)) (va_cons (ve_tup (va_cons (ve_var 5 (pv 5)) (va_cons (ve_c pe_non .non) va_nil))) (va_cons (ve_tup (va_cons (ve_tup (va_cons (ve_var 5 (pv 5)) (va_cons (ve_var 6 (pv 6)) va_nil))) va_nil)) va_nil)))))))))))))))
        · refine vss_cons ?_ ?_
          · exact vs_set (i := 7) sc__law_bent.nd rfl (Or.inl rfl) (ve_ix (ve_var 7 (pv 7)) (vv_of (ve_callSC k__law_take hr (by decide) tk (by rfl) (pv 0) (va_cons (ve_c pe_int (.int _)) va_nil))) (fun _ _ => rfl))
          · refine vss_cons ?_ ?_
            · exact vs_set (i := 8) sc__law_bent.nd rfl (Or.inl rfl) (ve_ofN (vn_lst (va_cons (ve_tup (va_cons (ve_var 2 (pv 2)) (va_cons (ve_add (ve_sl (ve_var 3 (pv 3)) vo_none (vo_some (ve_var 4 (pv 4)))) (vv_of (ve_sl (ve_var 3 (pv 3)) (vo_some (ve_add (ve_var 4 (pv 4)) (vv_of (ve_c pe_int (.int _))))) vo_none))) va_nil))) (va_cons (ve_tup (va_cons (ve_var 2 (pv 2)) (va_cons (ve_add (ve_add (ve_sl (ve_var 3 (pv 3)) vo_none (vo_some (ve_var 4 (pv 4)))) (vv_of (ve_tup (va_cons (ve_var 7 (pv 7)) va_nil)))) (vv_of (ve_sl (ve_var 3 (pv 3)) (vo_some (ve_var 4 (pv 4))) vo_none))) va_nil))) (va_cons (ve_tup (va_cons (ve_sub (ve_var 2 (pv 2)) (vv_of (ve_c pe_int (.int _)))) (va_cons (ve_var 3 (pv 3)) va_nil))) va_nil)))))
            · refine vss_cons ?_ ?_
              · exact vs_set (i := 8) sc__law_bent.nd rfl (Or.inl rfl) (ve_add (ve_var 8 (pv 8)) (vv_ofN (vn_lst (va_cons (ve_tup (va_cons (ve_var 2 (pv 2)) (va_cons (ve_add (ve_add (ve_sl (ve_var 3 (pv 3)) vo_none (vo_some (ve_var 4 (pv 4)))) (vv_of (ve_tup (va_cons (ve_var 7 (pv 7)) va_nil)))) (vv_of (ve_sl (ve_var 3 (pv 3)) (vo_some (ve_add (ve_var 4 (pv 4)) (vv_of (ve_c pe_int (.int _))))) vo_none))) va_nil))) (va_cons (ve_tup (va_cons (ve_var 2 (pv 2)) (va_cons (ve_add (ve_add (ve_sl (ve_var 3 (pv 3)) vo_none (vo_some (ve_var 4 (pv 4)))) (vv_of (ve_sl (ve_var 3 (pv 3)) (vo_some (ve_var 4 (pv 4))) (vo_some (ve_add (ve_var 4 (pv 4)) (vv_of (ve_c pe_int (.int _)))))))) (vv_of (ve_sl (ve_var 3 (pv 3)) (vo_some (ve_var 4 (pv 4))) vo_none))) va_nil))) va_nil)))))
              · refine vss_cons ?_ ?_
                · exact vs_set (i := 8) sc__law_bent.nd rfl (Or.inl rfl) (ve_add (ve_var 8 (pv 8)) (vv_ofN (vn_lst (va_cons (ve_tup (va_cons (ve_var 2 (pv 2)) (va_cons (ve_rev (ve_var 3 (pv 3))) va_nil))) (va_cons (ve_tup (va_cons (ve_var 2 (pv 2)) (va_cons (ve_ofN (vn_list (by rfl) m_list (vv_var 3 (pv 3)))) va_nil))) (va_cons (ve_ofN (vn_lst (va_cons (ve_var 2 (pv 2)) (va_cons (ve_var 3 (pv 3)) va_nil)))) (va_cons (ve_tup (va_cons (ve_add (ve_var 2 (pv 2)) (vv_of (ve_c pe_int (.int _)))) (va_cons (ve_var 3 (pv 3)) va_nil))) (va_cons (ve_tup (va_cons (ve_var 2 (pv 2)) va_nil)) (va_cons (ve_tup (va_cons (ve_var 3 (pv 3)) (va_cons (ve_var 2 (pv 2)) va_nil))) va_nil)))))))))
                · refine vss_cons ?_ ?_
                  · exact vs_set (i := 8) sc__law_bent.nd rfl (Or.inl rfl) (ve_add (ve_var 8 (pv 8)) (vv_ofN (vn_lst (va_cons (ve_tup (va_cons (ve_var 2 (pv 2)) (va_cons (ve_var 3 (pv 3)) (va_cons (ve_tup va_nil) va_nil)))) (va_cons (ve_tup (va_cons (ve_c pe_bl (.bl _)) (va_cons (ve_var 3 (pv 3)) va_nil))) (va_cons (ve_tup (va_cons (ve_str (by rfl) m_str (vv_var 2 (pv 2))) (va_cons (ve_var 3 (pv 3)) va_nil))) (va_cons (ve_tup (va_cons (ve_c pe_int (.int _)) (va_cons (ve_var 3 (pv 3)) va_nil))) va_nil)))))))
                  · refine vss_one ?_
                    exact vs_ret (ve_ix (ve_var 8 (pv 8)) (vv_of (ve_callSC k__law_take hr (by decide) tk (by rfl) (pv 0) (va_cons (ve_c pe_int (.int _)) va_nil))) (fun _ _ => rfl))
end
def b_law : MS := (mSeq (mFor [1] fName (mRange1 (mOp2 gMax2 (mC (.int 1)) (mOp2 gMin2 (mOp1 gLen (vVar 0)) (mC (.int 10))))) (mSeq (mSetN 2 (mCallN 2 F__law_state (mCons (mVar 0) (mCons (mVar 1) mNil)))) (mFor [3] fName (mSeq1 (mOfN (mLst (mCons (mCallS 1 2 F__law_web (mCons (mC (.int 6)) mNil)) (mCons (mCallS 0 2 F__law_great_web mNil) mNil))))) (mSeq (mIfS (mTest (mOp2 gNotB (mCall 1 F_is_web (mCons (mVar 3) mNil)) (mC (.bool true)))) (mRet (mC (.bool false))) mNx) (mFor [4] fName (mSeq1 (mOp2 gAdd (mOfN (mComp [5] [5] fName (mRange1 (mC (.int 4))) mYes (mCallS 1 2 F__law_bent (mCons (mVar 3) mNil)))) (mOfN (mLst (mCons (mCallS 0 2 F__law_bad_web mNil) mNil))))) (mIfS (mNot (mTest (mCall 2 (F__law_same 12) (mCons (mCall 1 F_is_web (mCons (mVar 4) mNil)) (mCons (mCall 1 F__law_is_web (mCons (mVar 4) mNil)) mNil))))) (mRet (mC (.bool false))) mNx)))))) (mRet (mAndV (mOp2 gIsB (mCall 1 F_is_web (mCons (mTup (mCons (mC (.int 0)) (mCons (mTup mNil) mNil))) mNil)) (mC (.bool true))) (mOp2 gIsB (mCall 1 F_is_web (mCons (mTup (mCons (mC (.int 14)) (mCons (mTup (mCons (mTup (mCons (mC (.int 0)) (mCons (mC (.int 13)) mNil))) mNil)) mNil))) mNil)) (mC (.bool true))))))
def F_law : List D → R D := fnD 6 b_law
section
variable {P : Program} {w : World} {K : PySem.W.Frag} {mg : Str → Option Value} {base : Heap} {ct : Nat → Addr}
theorem kb_law (m_len : mg "len" = none) (m_max : mg "max" = none) (m_min : mg "min" = none) (m_range : mg "range" = none) (k_is_web : Cal P w K mg base "is_web" P_is_web 4 (spD K ct 1 F_is_web)) (k__law_great_web : Cal P w K mg base "_law_great_web" P__law_great_web 2 (spS K 0 F__law_great_web)) (k__law_web : Cal P w K mg base "_law_web" P__law_web 3 (spS K 1 F__law_web)) (k__law_bent : Cal P w K mg base "_law_bent" P__law_bent 2 (spS K 1 F__law_bent)) (k__law_bad_web : Cal P w K mg base "_law_bad_web" P__law_bad_web 2 (spS K 0 F__law_bad_web)) (k__law_same : Cal P w K mg base "_law_same" P__law_same 12 (spD K ct 2 (F__law_same 12))) (k__law_is_web : Cal P w K mg base "_law_is_web" P__law_is_web 2 (spD K ct 1 F__law_is_web)) (k__law_state : Cal P w K mg base "_law_state" P__law_state 2 (spN K ct 2 F__law_state)) : BodyOk P w K mg base ct N_law "law" s_law 12 b_law := by
  intro f cdv A outer s H E hr tk hp
  refine vss_cons ?_ ?_
  · refine vs_for hp rfl tg_name (vi_range1 (by rfl) m_range (ve_max2 rfl (by rfl) m_max (ve_c pe_int (.int _)) (vv_of (ve_min2 rfl (by rfl) m_min (ve_len (by rfl) m_len (vv_var 0 (pv 0))) (vv_of (ve_c pe_int (.int _))))))) (pg_name (i := 1) sc_law.nd rfl (Or.inl rfl)) ?_
    refine vss_cons ?_ ?_
    · exact vs_setN (i := 2) sc_law.nd rfl (Or.inr rfl) (vn_callC k__law_state hr (by decide) tk (by rfl) (va_cons (ve_var 0 (pv 0)) (va_cons (ve_var 1 (pv 1)) va_nil)))
    · refine vss_one ?_
      refine vs_for hp rfl tg_name (vi_seq (ve_ofN (vn_lst (va_cons (ve_callSC k__law_web hr (by decide) tk (by rfl) (pv 2) (va_cons (ve_c pe_int (.int _)) va_nil)) (va_cons (ve_callSC k__law_great_web hr (by decide) tk (by rfl) (pv 2) va_nil) va_nil))))) (pg_name (i := 3) sc_law.nd rfl (Or.inr rfl)) ?_
      refine vss_cons ?_ ?_
      · refine vs_if ?_ ?_ ?_
        · exact (vt_notB (ve_callC k_is_web hr (by decide) tk (by rfl) (va_cons (ve_var 3 (pv 3)) va_nil)) (vv_of (ve_c pe_bl (.bl _))))
        · refine vss_one ?_
          exact vs_ret (ve_c pe_bl (.bl _))
        · exact vss_nil
      · refine vss_one ?_
        refine vs_for hp rfl tg_name (vi_seq (ve_add (ve_ofN (vn_lc (own := [("_law_turn", 5)]) rfl sc_law.nd tg_name (vi_range1 (by rfl) m_range (ve_c pe_int (.int _))) (blkOk_by (N := N_law) (sc := defScope s_law) (by decide +kernel)) (by decide) (fun _ _ _ _ _ => (pg_name (i := 5) sc_law.nd rfl (Or.inl rfl))) (fun _ _ _ _ _ => vts_nil) (fun _ _ _ _ _ => (ve_callSC k__law_bent hr (by decide) takesW0 (by rfl) (pv 2) (va_cons (ve_var 3 (pv 3)) va_nil))))) (vv_ofN (vn_lst (va_cons (ve_callSC k__law_bad_web hr (by decide) tk (by rfl) (pv 2) va_nil) va_nil))))) (pg_name (i := 4) sc_law.nd rfl (Or.inl rfl)) ?_
        refine vss_one ?_
        refine vs_if ?_ ?_ ?_
        · exact (vt_not (vt_val (ve_callC k__law_same hr (by decide) tk (by rfl) (va_cons (ve_callC k_is_web hr (by decide) tk (by rfl) (va_cons (ve_var 4 (pv 4)) va_nil)) (va_cons (ve_callC k__law_is_web hr (by decide) tk (by rfl) (va_cons (ve_var 4 (pv 4)) va_nil)) va_nil)))))
        · refine vss_one ?_
          exact vs_ret (ve_c pe_bl (.bl _))
        · exact vss_nil
  · refine vss_one ?_
    exact vs_ret (ve_and (ve_isB (ve_callC k_is_web hr (by decide) tk (by rfl) (va_cons (ve_tup (va_cons (ve_c pe_int (.int _)) (va_cons (ve_tup va_nil) va_nil))) va_nil)) (vv_of (ve_c pe_bl (.bl _)))) (ve_one (ve_isB (ve_callC k_is_web hr (by decide) tk (by rfl) (va_cons (ve_tup (va_cons (ve_c pe_int (.int _)) (va_cons (ve_tup (va_cons (ve_tup (va_cons (ve_c pe_int (.int _)) (va_cons (ve_c pe_int (.int _)) va_nil))) va_nil)) va_nil))) va_nil)) (vv_of (ve_c pe_bl (.bl _))))))
end
end K01

set_option Elab.async false
set_option linter.all false
set_option maxRecDepth 100000
namespace TW
open PySem PySem.Spec PyProof.Rows L2

/-! ### plain readings: what comes, and what holds of it -/
def Ev {α : Type} (r : R α) (Q : α → Prop) : Prop := ∃ a, r = .ok a ∧ Q a
theorem ex_two {α β : Type} {x : α} {y : β} {Q : α → β → Prop} : (∃ a c, (x = a ∧ y = c) ∧ Q a c) ↔ Q x y := ⟨fun ⟨_, _, ⟨e1, e2⟩, h⟩ => by subst e1 e2; exact h, fun h => ⟨x, y, ⟨rfl, rfl⟩, h⟩⟩
def Rn {α : Type} (m : M α) (cs : List C) (Q : α → List C → Prop) : Prop := ∃ a cs', m cs = .ok (a, cs') ∧ Q a cs'
section
variable {α β : Type}
@[simp] theorem ev_ok {a : α} {Q : α → Prop} : Ev (.ok a) Q ↔ Q a := ⟨fun ⟨_, e, h⟩ => by cases e; exact h, fun h => ⟨a, rfl, h⟩⟩
@[simp] theorem ev_bad {Q : α → Prop} : Ev (.bad : R α) Q ↔ False := ⟨fun ⟨_, e, _⟩ => (nomatch e), fun h => h.elim⟩
@[simp] theorem ev_err {n : Nat} {xs : List D} {Q : α → Prop} : Ev (.err n xs : R α) Q ↔ False := ⟨fun ⟨_, e, _⟩ => (nomatch e), fun h => h.elim⟩
theorem Ev.mono {r : R α} {Q Q' : α → Prop} (h : Ev r Q) (f : ∀ a, Q a → Q' a) : Ev r Q' := let ⟨a, e, q⟩ := h; ⟨a, e, f a q⟩
theorem Rn.mono {m : M α} {cs : List C} {Q Q' : α → List C → Prop} (h : Rn m cs Q) (f : ∀ a c, Q a c → Q' a c) : Rn m cs Q' := let ⟨a, c, e, q⟩ := h; ⟨a, c, e, f a c q⟩
theorem Ev.eq {r : R α} {a : α} (h : Ev r fun x => x = a) : r = .ok a := by obtain ⟨x, e, q⟩ := h; rw [e, q]
@[simp] theorem ev_ite {c : Prop} [Decidable c] {r s : R α} {Q : α → Prop} : Ev (if c then r else s) Q ↔ (if c then Ev r Q else Ev s Q) := by split <;> rfl
@[simp] theorem rn_bind {m : M α} {k : α → M β} {cs : List C} {Q : β → List C → Prop} : Rn (M.bind m k) cs Q ↔ Rn m cs fun a c => Rn (k a) c Q := by
  unfold Rn M.bind
  constructor
  · rintro ⟨b, c, e, q⟩
    cases em : m cs with
    | ok p => obtain ⟨a, c1⟩ := p; rw [em] at e; exact ⟨a, c1, rfl, b, c, e, q⟩
    | err n xs => rw [em] at e; cases e
    | bad => rw [em] at e; cases e
  · rintro ⟨a, c1, em, b, c, e, q⟩
    exact ⟨b, c, by rw [em]; exact e, q⟩
@[simp] theorem rn_pure {a : α} {cs : List C} {Q : α → List C → Prop} : Rn (M.pure a) cs Q ↔ Q a cs := ⟨fun ⟨_, _, e, h⟩ => by cases e; exact h, fun h => ⟨a, cs, rfl, h⟩⟩
@[simp] theorem rn_badM {cs : List C} {Q : α → List C → Prop} : Rn (fun _ => .bad) cs Q ↔ False := ⟨fun ⟨_, _, e, _⟩ => (nomatch e), fun h => h.elim⟩
@[simp] theorem rn_lift {r : R α} {cs : List C} {Q : α → List C → Prop} : Rn (M.lift r) cs Q ↔ Ev r fun a => Q a cs := by
  cases r with
  | ok a => exact ⟨fun ⟨_, _, e, h⟩ => by cases e; exact ⟨a, rfl, h⟩, fun ⟨_, e, h⟩ => by cases e; exact ⟨a, cs, rfl, h⟩⟩
  | err n xs => exact ⟨fun ⟨_, _, e, _⟩ => (nomatch e), fun ⟨_, e, _⟩ => (nomatch e)⟩
  | bad => exact ⟨fun ⟨_, _, e, _⟩ => (nomatch e), fun ⟨_, e, _⟩ => (nomatch e)⟩
@[simp] theorem rn_only {r : R α} {cs : List C} {Q : α → List C → Prop} : Rn (M.only r) cs Q ↔ Ev r fun a => Q a cs := by
  cases r with
  | ok a => exact ⟨fun ⟨_, _, e, h⟩ => by cases e; exact ⟨a, rfl, h⟩, fun ⟨_, e, h⟩ => by cases e; exact ⟨a, cs, rfl, h⟩⟩
  | err n xs => exact ⟨fun ⟨_, _, e, _⟩ => (nomatch e), fun ⟨_, e, _⟩ => (nomatch e)⟩
  | bad => exact ⟨fun ⟨_, _, e, _⟩ => (nomatch e), fun ⟨_, e, _⟩ => (nomatch e)⟩
@[simp] theorem rn_ite {c : Prop} [Decidable c] {m n : M α} {cs : List C} {Q : α → List C → Prop} : Rn (if c then m else n) cs Q ↔ (if c then Rn m cs Q else Rn n cs Q) := by split <;> rfl
end
section
variable {Q : D → List C → Prop} {QL : List D → List C → Prop} {QB : Bool → List C → Prop} {QF : Fl → List C → Prop} {cs : List C} {ma mb mc : M D} {ms : M (List D)} {i n : Nat}
@[simp] theorem rn_mC {d : D} : Rn (mC d) cs Q ↔ Q d cs := rn_pure
/-! what a slot holds -/
def onVar (o : Option C) (cs : List C) (i : Nat) (Q : D → List C → Prop) : Prop := match o with
  | some (.dat d) => Q d cs
  | some (.own false ds) => Q (.list ds) (cs.set i (.dat (.list ds)))
  | _ => False
@[simp] theorem onVar_dat {d : D} : onVar (some (.dat d)) cs i Q ↔ Q d cs := Iff.rfl
@[simp] theorem onVar_own {ds : List D} : onVar (some (.own false ds)) cs i Q ↔ Q (.list ds) (cs.set i (.dat (.list ds))) := Iff.rfl
def onLook (o : Option C) (cs : List C) (Q : D → List C → Prop) : Prop := match o with
  | some (.dat d) => Q d cs
  | some (.own _ ds) => Q (.list ds) cs
  | _ => False
@[simp] theorem onLook_dat {d : D} : onLook (some (.dat d)) cs Q ↔ Q d cs := Iff.rfl
@[simp] theorem onLook_own {t : Bool} {ds : List D} : onLook (some (.own t ds)) cs Q ↔ Q (.list ds) cs := Iff.rfl
def onOwn (o : Option C) (Q : Bool → List D → Prop) : Prop := match o with
  | some (.own t ss) => Q t ss
  | _ => False
@[simp] theorem onOwn_own {t : Bool} {ds : List D} {Q : Bool → List D → Prop} : onOwn (some (.own t ds)) Q ↔ Q t ds := Iff.rfl
def asInt (d : D) (Q : Int → Prop) : Prop := match d with
  | .int k => Q k
  | _ => False
@[simp] theorem asInt_int {k : Int} {Q : Int → Prop} : asInt (.int k) Q ↔ Q k := Iff.rfl
def asTwo (ds : List D) (Q : D → D → Prop) : Prop := match ds with
  | [d, e] => Q d e
  | _ => False
@[simp] theorem asTwo_two {d e : D} {Q : D → D → Prop} : asTwo [d, e] Q ↔ Q d e := Iff.rfl
def onFl (f : Fl) (P : Prop) (Q : Prop) : Prop := match f with
  | .nx => P
  | _ => Q
@[simp] theorem onFl_nx {P Q : Prop} : onFl .nx P Q ↔ P := Iff.rfl
@[simp] theorem onFl_rt {P Q : Prop} {d : D} : onFl (.rt d) P Q ↔ Q := Iff.rfl
@[simp] theorem onFl_rn {P Q : Prop} {d : List D} : onFl (.rn d) P Q ↔ Q := Iff.rfl
@[simp] theorem onFl_bk {P Q : Prop} : onFl .bk P Q ↔ Q := Iff.rfl
@[simp] theorem onFl_ct {P Q : Prop} : onFl .ct P Q ↔ Q := Iff.rfl
theorem rn_var {d : D} (h : cs[i]? = some (.dat d)) : Rn (mVar i) cs Q ↔ Q d cs := by
  unfold Rn mVar
  rw [h]
  exact ⟨fun ⟨_, _, e, q⟩ => by cases e; exact q, fun q => ⟨_, _, rfl, q⟩⟩
@[simp] theorem rn_mVar : Rn (mVar i) cs Q ↔ onVar cs[i]? cs i Q := by
  unfold Rn mVar onVar
  cases e : cs[i]? with
  | none => simp
  | some c =>
    cases c with
    | un => simp
    | dat d => simp [ex_two]
    | own t ds => cases t <;> simp [ex_two]
@[simp] theorem rn_vVar : Rn (vVar i) cs Q ↔ onLook cs[i]? cs Q := by
  unfold Rn vVar onLook
  cases e : cs[i]? with
  | none => simp
  | some c =>
    cases c with
    | un => simp
    | dat d => simp [ex_two]
    | own t ds => cases t <;> simp [ex_two]
@[simp] theorem rn_mOfN : Rn (mOfN ms) cs Q ↔ Rn ms cs fun ds c => Q (.list ds) c := by unfold mOfN; rw [rn_bind]; simp only [rn_pure]
@[simp] theorem rn_mNil : Rn mNil cs QL ↔ QL [] cs := rn_pure
@[simp] theorem rn_mCons : Rn (mCons ma ms) cs QL ↔ Rn ma cs fun d c => Rn ms c fun ds c => QL (d :: ds) c := by unfold mCons; simp only [rn_bind, rn_pure]
@[simp] theorem rn_mTup : Rn (mTup ms) cs Q ↔ Rn ms cs fun ds c => ds.length ≤ 16777216 ∧ Q (.tuple ds) c := by
  unfold mTup
  rw [rn_bind]
  refine iff_of_eq (congrArg _ (funext fun ds => funext fun c => propext ?_))
  by_cases h : ds.length ≤ 16777216 <;> simp [szOk, h]
@[simp] theorem rn_mLst : Rn (mLst ms) cs QL ↔ Rn ms cs fun ds c => ds.length ≤ 16777216 ∧ QL ds c := by
  unfold mLst
  rw [rn_bind]
  refine iff_of_eq (congrArg _ (funext fun ds => funext fun c => propext ?_))
  by_cases h : ds.length ≤ 16777216 <;> simp [szOk, h]
@[simp] theorem rn_mOp1 {g : D → R D} : Rn (mOp1 g ma) cs Q ↔ Rn ma cs fun d c => Ev (g d) fun z => Q z c := by unfold mOp1; simp only [rn_bind, rn_only]
@[simp] theorem rn_mOp2 {g : D → D → R D} : Rn (mOp2 g ma mb) cs Q ↔ Rn ma cs fun d c => Rn mb c fun e c => Ev (g d e) fun z => Q z c := by unfold mOp2; simp only [rn_bind, rn_only]
@[simp] theorem rn_mOp1N {g : D → R (List D)} : Rn (mOp1N g ma) cs QL ↔ Rn ma cs fun d c => Ev (g d) fun z => QL z c := by unfold mOp1N; simp only [rn_bind, rn_only]
@[simp] theorem rn_mOp2N {g : D → D → R (List D)} : Rn (mOp2N g ma mb) cs QL ↔ Rn ma cs fun d c => Rn mb c fun e c => Ev (g d e) fun z => QL z c := by unfold mOp2N; simp only [rn_bind, rn_only]
/-- a truth -/
def AsB (d : D) (Q : Bool → Prop) : Prop := match d with
  | .bool b => Q b
  | _ => False
@[simp] theorem asB_bool {b : Bool} {Q : Bool → Prop} : AsB (.bool b) Q ↔ Q b := Iff.rfl
@[simp] theorem rn_mTest : Rn (mTest ma) cs QB ↔ Rn ma cs fun d c => AsB d fun b => QB b c := by
  unfold mTest
  rw [rn_bind]
  refine iff_of_eq (congrArg _ (funext fun d => funext fun c => propext ?_))
  cases d <;> simp [AsB]
@[simp] theorem rn_mChain {g g' : D → D → R D} : Rn (mChain g g' ma mb mc) cs Q ↔ Rn ma cs fun x c => Rn mb c fun y c => Ev (g x y) fun z => AsB z fun b => if b then Rn mc c fun w c => Ev (g' y w) fun z => Q z c else Q (.bool false) c := by
  unfold mChain
  simp only [rn_bind, rn_only]
  refine iff_of_eq (congrArg _ (funext fun d => funext fun c => congrArg _ (funext fun e => funext fun c => congrArg _ (funext fun z => propext ?_))))
  cases z <;> simp [AsB]
  rename_i b
  cases b <;> simp
@[simp] theorem rn_mChain3 {md : M D} {g g' g2 : D → D → R D} : Rn (mChain3 g g' g2 ma mb mc md) cs Q ↔ Rn ma cs fun x c => Rn mb c fun y c => Ev (g x y) fun z => AsB z fun b => if b then Rn mc c fun w c => Ev (g' y w) fun z => AsB z fun b => if b then Rn md c fun u c => Ev (g2 w u) fun z => Q z c else Q (.bool false) c else Q (.bool false) c := by
  unfold mChain3
  simp only [rn_bind, rn_only]
  refine iff_of_eq (congrArg _ (funext fun d => funext fun c => congrArg _ (funext fun e => funext fun c => congrArg _ (funext fun z => propext ?_))))
  cases z <;> simp [AsB]
  rename_i b
  cases b <;> simp
  refine iff_of_eq (congrArg _ (funext fun d => funext fun c => congrArg _ (funext fun z => propext ?_)))
  cases z <;> simp
  rename_i b
  cases b <;> simp
variable {ta tb : M Bool}
@[simp] theorem rn_mAnd : Rn (mAnd ta tb) cs QB ↔ Rn ta cs fun k c => if k then Rn tb c QB else QB false c := by unfold mAnd; simp only [rn_bind, rn_ite, rn_pure]
@[simp] theorem rn_mOr : Rn (mOr ta tb) cs QB ↔ Rn ta cs fun k c => if k then QB true c else Rn tb c QB := by unfold mOr; simp only [rn_bind, rn_ite, rn_pure]
@[simp] theorem rn_mNot : Rn (mNot ta) cs QB ↔ Rn ta cs fun k c => QB (!k) c := by unfold mNot; simp only [rn_bind, rn_pure]
@[simp] theorem rn_mIf : Rn (mIf ta ma mb) cs Q ↔ Rn ta cs fun k c => if k then Rn ma c Q else Rn mb c Q := by unfold mIf; simp only [rn_bind, rn_ite]
@[simp] theorem rn_mAndV : Rn (mAndV ma mb) cs Q ↔ Rn ma cs fun d c => AsB d fun b => if b then Rn mb c Q else Q (.bool false) c := by
  unfold mAndV
  rw [rn_bind]
  refine iff_of_eq (congrArg _ (funext fun d => funext fun c => propext ?_))
  cases d <;> simp [AsB]
  rename_i b
  cases b <;> simp
@[simp] theorem rn_mOrV : Rn (mOrV ma mb) cs Q ↔ Rn ma cs fun d c => AsB d fun b => if b then Q (.bool true) c else Rn mb c Q := by
  unfold mOrV
  rw [rn_bind]
  refine iff_of_eq (congrArg _ (funext fun d => funext fun c => propext ?_))
  cases d <;> simp [AsB]
  rename_i b
  cases b <;> simp
@[simp] theorem rn_mNotV : Rn (mNotV ma) cs Q ↔ Rn ma cs fun d c => AsB d fun b => Q (.bool (!b)) c := by
  unfold mNotV
  rw [rn_bind]
  refine iff_of_eq (congrArg _ (funext fun d => funext fun c => propext ?_))
  cases d <;> simp [AsB]
@[simp] theorem rn_mNoPart {QO : Option Int → List C → Prop} : Rn mNoPart cs QO ↔ QO none cs := rn_pure
@[simp] theorem rn_mPart {QO : Option Int → List C → Prop} : Rn (mPart ma) cs QO ↔ Rn ma cs fun d c => asInt d fun i => QO (some i) c := by
  unfold mPart
  rw [rn_bind]
  refine iff_of_eq (congrArg _ (funext fun d => funext fun c => propext ?_))
  cases d <;> simp [asInt]
@[simp] theorem rn_mSl {ml mh : MO} : Rn (mSl ma ml mh) cs Q ↔ Rn ma cs fun d c => Rn ml c fun lo c => Rn mh c fun hi c => Ev (gSl d lo hi) fun z => Q z c := by unfold mSl; simp only [rn_bind, rn_only]
@[simp] theorem rn_mRange : Rn (mRange ma mb) cs QL ↔ Rn ma cs fun d c => Rn mb c fun e c => Ev (gRg d e) fun z => QL z c := by unfold mRange; simp only [rn_bind, rn_only]
@[simp] theorem rn_mRange1 : Rn (mRange1 ma) cs QL ↔ Rn ma cs fun d c => Ev (gRg (.int 0) d) fun z => QL z c := by unfold mRange1; simp only [rn_bind, rn_only]
@[simp] theorem rn_mSeq1 : Rn (mSeq1 ma) cs QL ↔ Rn ma cs fun d c => Ev (gSeq d) fun z => QL z c := by unfold mSeq1; simp only [rn_bind, rn_only]
@[simp] theorem rn_mZip : Rn (mZip ma mb) cs QL ↔ Rn ma cs fun d c => Rn mb c fun e c => Ev (gZip d e) fun z => QL z c := by unfold mZip; simp only [rn_bind, rn_only]
@[simp] theorem rn_mYes : Rn mYes cs QB ↔ QB true cs := rn_pure
@[simp] theorem rn_mCall {F : List D → R D} : Rn (mCall n F ms) cs Q ↔ Rn ms cs fun ds c => ds.length = n ∧ Ev (F ds) fun z => Q z c := by
  unfold mCall
  rw [rn_bind]
  refine iff_of_eq (congrArg _ (funext fun ds => funext fun c => propext ?_))
  by_cases h : ds.length = n <;> simp [h]
@[simp] theorem rn_mCallN {F : List D → R (List D)} : Rn (mCallN n F ms) cs QL ↔ Rn ms cs fun ds c => ds.length = n ∧ Ev (F ds) fun z => QL z c := by
  unfold mCallN
  rw [rn_bind]
  refine iff_of_eq (congrArg _ (funext fun ds => funext fun c => propext ?_))
  by_cases h : ds.length = n <;> simp [h]
@[simp] theorem rn_stPut {F : List D → R (D × List D)} : Rn (stPut i F) cs Q ↔ onOwn cs[i]? fun t ss => Ev (F ss) fun p => Q p.1 (cs.set i (.own t p.2)) := by
  unfold Rn stPut onOwn
  cases e : cs[i]? with
  | none => simp
  | some c =>
    cases c with
    | un => simp
    | dat d => simp
    | own t ss => cases ef : F ss <;> simp [ef, ex_two]
@[simp] theorem rn_own {α : Type} {m : M α} {QA : α → List C → Prop} : Rn (fun cs => if isOwn cs i then m cs else .bad) cs QA ↔ isOwn cs i = true ∧ Rn m cs QA := by
  unfold Rn
  by_cases h : isOwn cs i = true
  · simp [h]
  · simp [h]
@[simp] theorem rn_mCallS {F : List D → List D → R (D × List D)} : Rn (mCallS n i F ms) cs Q ↔ isOwn cs i = true ∧ Rn ms cs fun ds c => ds.length = n ∧ Rn (stPut i fun ss => F ss ds) c Q := by
  unfold mCallS
  rw [rn_own, rn_bind]
  refine and_congr Iff.rfl (iff_of_eq (congrArg _ (funext fun ds => funext fun c => propext ?_)))
  by_cases h : ds.length = n <;> simp [h]
@[simp] theorem rn_popAt {d : D} : Rn (popAt i d) cs Q ↔ asInt d fun k => onOwn cs[i]? fun t ds => (-4611686018427387904 ≤ k ∧ k < 4611686018427387904) ∧ ∃ j z, seqIndex? k ds.length = some j ∧ ds[j]? = some z ∧ Q z (cs.set i (.own t (ds.eraseIdx j))) := by
  unfold Rn popAt onOwn asInt
  cases e : cs[i]? with
  | none => cases d <;> simp
  | some c =>
    cases c with
    | un => cases d <;> simp
    | dat d' => cases d <;> simp
    | own t ds =>
      cases d with
      | int k =>
        by_cases hk : -4611686018427387904 ≤ k ∧ k < 4611686018427387904
        · simp only [hk, and_self, decide_true, if_true, true_and]
          cases ej : seqIndex? k ds.length with
          | none => simp
          | some j => cases ez : ds[j]? <;> simp [ez, ex_two]
        · simp [hk]
      | _ => simp
@[simp] theorem rn_mPop : Rn (mPop i ma) cs Q ↔ isOwn cs i = true ∧ Rn ma cs fun d c => Rn (popAt i d) c Q := by unfold mPop; rw [rn_own, rn_bind]
/-! statements -/
variable {sa sb : MS}
@[simp] theorem rn_mSeq : Rn (mSeq sa sb) cs QF ↔ Rn sa cs fun f c => onFl f (Rn sb c QF) (QF f c) := by
  unfold mSeq
  rw [rn_bind]
  refine iff_of_eq (congrArg _ (funext fun f => funext fun c => propext ?_))
  cases f <;> simp
@[simp] theorem rn_mNx : Rn mNx cs QF ↔ QF .nx cs := rn_pure
@[simp] theorem rn_mPut {d : D} : Rn (mPut i d) cs QF ↔ QF .nx (cs.set i (.dat d)) := ⟨fun ⟨_, _, e, h⟩ => by cases e; exact h, fun h => ⟨_, _, rfl, h⟩⟩
@[simp] theorem rn_mPutN {d : List D} : Rn (mPutN i d) cs QF ↔ QF .nx (cs.set i (.own false d)) := ⟨fun ⟨_, _, e, h⟩ => by cases e; exact h, fun h => ⟨_, _, rfl, h⟩⟩
@[simp] theorem rn_mSet : Rn (mSet i ma) cs QF ↔ Rn ma cs fun d c => QF .nx (c.set i (.dat d)) := by unfold mSet; simp only [rn_bind, rn_mPut]
@[simp] theorem rn_mSetN : Rn (mSetN i ms) cs QF ↔ Rn ms cs fun d c => QF .nx (c.set i (.own false d)) := by unfold mSetN; simp only [rn_bind, rn_mPutN]
@[simp] theorem rn_mIfS : Rn (mIfS ta sa sb) cs QF ↔ Rn ta cs fun k c => if k then Rn sa c QF else Rn sb c QF := by unfold mIfS; simp only [rn_bind, rn_ite]
@[simp] theorem rn_mRet : Rn (mRet ma) cs QF ↔ Rn ma cs fun d c => QF (.rt d) c := by unfold mRet; simp only [rn_bind, rn_pure]
@[simp] theorem rn_mRetN : Rn (mRetN ms) cs QF ↔ Rn ms cs fun d c => QF (.rn d) c := by unfold mRetN; simp only [rn_bind, rn_pure]
@[simp] theorem rn_mRetO : Rn (mRetO i) cs QF ↔ onOwn cs[i]? fun t ds => t = false ∧ QF (.rn ds) (cs.set i .un) := by
  unfold Rn mRetO onOwn
  cases e : cs[i]? with
  | none => simp
  | some c =>
    cases c with
    | un => simp
    | dat d => simp
    | own t ss => cases t <;> simp [ex_two]
@[simp] theorem rn_mDrop : Rn (mDrop ma) cs QF ↔ Rn ma cs fun _ c => QF .nx c := by unfold mDrop; simp only [rn_bind, rn_mNx]
@[simp] theorem rn_ownPut {g : List D → R (List D)} {QU : Unit → List C → Prop} : Rn (ownPut i g) cs QU ↔ onOwn cs[i]? fun t ds => Ev (g ds) fun es => es.length ≤ 16777216 ∧ QU () (cs.set i (.own t es)) := by
  unfold Rn ownPut onOwn
  cases e : cs[i]? with
  | none => simp
  | some c =>
    cases c with
    | un => simp
    | dat d => simp
    | own t ds =>
      cases ef : g ds with
      | ok es =>
        by_cases h : es.length ≤ 16777216
        · simp [szOk, h, ef, ex_two]
          exact ⟨fun ⟨_, h⟩ => h, fun h => ⟨(), h⟩⟩
        · simp [szOk, h, ef]
      | err n xs => simp [ef]
      | bad => simp [ef]
@[simp] theorem rn_mOn {g : D → List D → R (List D)} : Rn (mOn i ma g) cs QF ↔ isOwn cs i = true ∧ Rn ma cs fun d c => Rn (ownPut i (g d)) c fun _ c => QF .nx c := by unfold mOn; rw [rn_own]; simp only [rn_bind, rn_mNx]
@[simp] theorem rn_mSetIx {mk : M D} : Rn (mSetIx i mk ma) cs QF ↔ Rn ma cs fun d c => isOwn c i = true ∧ Rn mk c fun k c => Rn (ownPut i (gPut k d)) c fun _ c => QF .nx c := by
  unfold mSetIx
  rw [rn_bind]
  refine iff_of_eq (congrArg _ (funext fun d => funext fun c => propext ?_))
  rw [rn_own]
  simp only [rn_bind, rn_mNx]
@[simp] theorem rn_mPar {j : Nat} : Rn (mPar i j ms) cs QF ↔ Rn ms cs fun ds c => asTwo ds fun d e => QF .nx ((c.set i (.dat d)).set j (.dat e)) := by
  unfold mPar
  rw [rn_bind]
  refine iff_of_eq (congrArg _ (funext fun ds => funext fun c => propext ?_))
  match ds with
  | [d, e] => exact ⟨fun ⟨_, _, e, h⟩ => by cases e; exact h, fun h => ⟨_, _, rfl, h⟩⟩
  | [] => simp [asTwo]
  | [_] => simp [asTwo]
  | _ :: _ :: _ :: _ => simp [asTwo]
@[simp] theorem rn_mUnp {is : List Nat} {f : D → R (List D)} : Rn (mUnp is f ma) cs QF ↔ Rn ma cs fun d c => Ev (f d) fun ds => QF .nx (setC c is ds) := by
  unfold mUnp
  rw [rn_bind]
  refine iff_of_eq (congrArg _ (funext fun d => funext fun c => propext ?_))
  unfold Rn
  cases f d with
  | ok ds => simp [ex_two]
  | err n xs => simp
  | bad => simp
/-! defs -/
variable {body : MS} {ds ss : List D}
def Ends1 (Q : D → Prop) (f : Fl) : Prop := match f with
  | .rt d => Q d
  | .rn es => Q (.list es)
  | .nx => Q .none
  | _ => False
@[simp] theorem ends_rt {Q : D → Prop} {d : D} : Ends1 Q (.rt d) ↔ Q d := Iff.rfl
@[simp] theorem ends_rn {Q : D → Prop} {d : List D} : Ends1 Q (.rn d) ↔ Q (.list d) := Iff.rfl
@[simp] theorem ends_nx {Q : D → Prop} : Ends1 Q .nx ↔ Q .none := Iff.rfl
theorem ev_fnD {Q : D → Prop} : Ev (fnD n body ds) Q ↔ Rn body (unfill n (ds.map .dat)) fun f _ => Ends1 Q f := by
  unfold fnD Rn
  cases body (unfill n (ds.map .dat)) with
  | ok p => obtain ⟨f, c⟩ := p; cases f <;> simp [Ends1]
  | err n xs => simp
  | bad => simp
theorem ev_fnN {Q : List D → Prop} : Ev (fnN n body ds) Q ↔ Rn body (unfill n (ds.map .dat)) fun f _ => match f with | .rn es => Q es | _ => False := by
  unfold fnN Rn
  cases body (unfill n (ds.map .dat)) with
  | ok p => obtain ⟨f, c⟩ := p; cases f <;> simp
  | err n xs => simp
  | bad => simp
def St1 (cs : List C) (Q : List D → Prop) : Prop := match (List.head? cs : Option C) with
  | some (C.own true ss') => Q ss'
  | _ => False
@[simp] theorem st1_own {cs : List C} {ss : List D} {Q : List D → Prop} : St1 (.own true ss :: cs) Q ↔ Q ss := Iff.rfl
theorem ev_fnS {Q : D × List D → Prop} : Ev (fnS n body ss ds) Q ↔ Rn body (unfill n (.own true ss :: ds.map .dat)) fun f c => match f with | .rt d => St1 c fun s => Q (d, s) | .rn es => St1 c fun s => Q (.list es, s) | _ => False := by
  unfold fnS Rn
  cases body (unfill n (.own true ss :: ds.map .dat)) with
  | ok p =>
    obtain ⟨f, c⟩ := p
    cases f
    · simp
    · simp only [ex_two, R.ok.injEq, Prod.mk.injEq, St1]
      cases e : c.head? with
      | none => simp
      | some z => cases z with
        | own t ss => cases t <;> simp
        | _ => simp
    · simp only [ex_two, R.ok.injEq, Prod.mk.injEq, St1]
      cases e : c.head? with
      | none => simp
      | some z => cases z with
        | own t ss => cases t <;> simp
        | _ => simp
    · simp
    · simp
  | err n xs => simp
  | bad => simp
end

/-! ### loops -/
section
variable {is vs : List Nat} {f : D → R (List D)} {body : MS} {mi : M (List D)} {mt : M Bool} {me : M D} {cs : List C}
theorem rn_mFor {QF : Fl → List C → Prop} : Rn (mFor is f mi body) cs QF ↔ Rn mi cs fun ds c => Rn (forGo is f body ds) c QF := by unfold mFor; rw [rn_bind]
theorem rn_mComp {QL : List D → List C → Prop} : Rn (mComp vs is f mi mt me) cs QL ↔ Rn mi cs fun ds c => Rn (compGo vs is f mt me ds) (wipeC c vs) QL := by
  unfold mComp
  rw [rn_bind]
  refine iff_of_eq (congrArg _ (funext fun ds => funext fun c => propext ?_))
  unfold Rn
  cases e : compGo vs is f mt me ds (wipeC c vs) <;> simp [e]
/-- a turn of a loop -/
theorem rn_for_nil {QF : Fl → List C → Prop} : Rn (forGo is f body []) cs QF ↔ QF .nx cs := ⟨fun ⟨_, _, e, h⟩ => by cases e; exact h, fun h => ⟨_, _, rfl, h⟩⟩
theorem rn_for_cons {x : D} {xs : List D} {QF : Fl → List C → Prop} : Rn (forGo is f body (x :: xs)) cs QF ↔ Ev (f x) fun ds => Rn body (setC cs is ds) fun fl c => match fl with
    | .nx => Rn (forGo is f body xs) c QF
    | .ct => Rn (forGo is f body xs) c QF
    | .bk => QF .nx c
    | fl => QF fl c := by
  unfold Rn
  simp only [forGo]
  cases f x with
  | ok ds =>
    simp only [ev_ok]
    cases body (setC cs is ds) with
    | ok p => obtain ⟨fl, c⟩ := p; cases fl <;> simp [ex_two]
    | err n xs => simp
    | bad => simp
  | err n xs => simp
  | bad => simp
/-- a for that runs to its end: I holds at each turn -/
theorem for_rule {ds : List D} {QF : Fl → List C → Prop} (I : List D → List C → Prop) (h0 : I ds cs) (he : ∀ c, I [] c → QF .nx c)
    (step : ∀ x xs c, I (x :: xs) c → Ev (f x) fun ys => Rn body (setC c is ys) fun fl c' => match fl with
      | .nx => I xs c'
      | .ct => I xs c'
      | .bk => QF .nx c'
      | fl => QF fl c') : Rn (forGo is f body ds) cs QF := by
  induction ds generalizing cs with
  | nil => exact rn_for_nil.mpr (he cs h0)
  | cons x xs ih =>
    refine rn_for_cons.mpr ((step x xs cs h0).mono fun ys hy => hy.mono fun fl c hc => ?_)
    cases fl with
    | nx => exact ih hc
    | ct => exact ih hc
    | bk => exact hc
    | rt d => exact hc
    | rn d => exact hc
theorem rn_comp_nil {QL : List D → List C → Prop} : Rn (compGo vs is f mt me []) cs QL ↔ QL [] cs := ⟨fun ⟨_, _, e, h⟩ => by cases e; exact h, fun h => ⟨_, _, rfl, h⟩⟩
theorem rn_comp_cons {x : D} {xs : List D} {QL : List D → List C → Prop} : Rn (compGo vs is f mt me (x :: xs)) cs QL ↔ Ev (f x) fun ds => Rn mt (setC cs is ds) fun b c => if b then Rn me c fun d c => Rn (compGo vs is f mt me xs) (wipeC c vs) fun r c => QL (d :: r) c else Rn (compGo vs is f mt me xs) (wipeC c vs) QL := by
  unfold Rn
  simp only [compGo]
  cases f x with
  | ok ds =>
    simp only [ev_ok]
    cases mt (setC cs is ds) with
    | ok p =>
      obtain ⟨b, c⟩ := p
      cases b with
      | true =>
        simp only [if_true]
        cases e2 : me c with
        | ok p =>
          obtain ⟨d, c2⟩ := p
          cases e3 : compGo vs is f mt me xs (wipeC c2 vs) with
          | ok p => obtain ⟨r, c3⟩ := p; simp [e2, e3, ex_two]
          | err n xs => simp [e2, e3]
          | bad => simp [e2, e3]
        | err n xs => simp [e2]
        | bad => simp [e2]
      | false =>
        cases e3 : compGo vs is f mt me xs (wipeC c vs) <;> simp [e3]
    | err n xs => simp
    | bad => simp
  | err n xs => simp
  | bad => simp
/-- a comprehension: I holds at each turn, of what is got so far -/
theorem comp_rule {ds : List D} {QL : List D → List C → Prop} (I : List D → List D → List C → Prop) (h0 : I ds [] cs) (he : ∀ es c, I [] es c → QL es c)
    (step : ∀ x xs es c, I (x :: xs) es c → Ev (f x) fun ys => Rn mt (setC c is ys) fun b c => if b then Rn me c fun d c => I xs (es ++ [d]) (wipeC c vs) else I xs es (wipeC c vs)) : Rn (compGo vs is f mt me ds) cs QL := by
  suffices h : ∀ (ds : List D) (es : List D) (cs : List C), I ds es cs → Rn (compGo vs is f mt me ds) cs fun r c => QL (es ++ r) c from h ds [] cs h0
  intro ds
  induction ds with
  | nil => intro es cs h; exact rn_comp_nil.mpr (by rw [List.append_nil]; exact he es cs h)
  | cons x xs ih =>
    intro es cs h
    refine rn_comp_cons.mpr ((step x xs es cs h).mono fun ys hy => hy.mono fun b c hc => ?_)
    cases b with
    | true =>
      simp only [if_true] at hc ⊢
      refine hc.mono fun d c hd => (ih (es ++ [d]) _ hd).mono fun r c' hr => ?_
      rwa [List.append_assoc, List.singleton_append] at hr
    | false => exact ih es _ hc
theorem rn_while {fuel : Nat} {QF : Fl → List C → Prop} : Rn (whileGo mt body (fuel + 1)) cs QF ↔ Rn mt cs fun b c => if b then Rn body c fun fl c => match fl with
    | .nx => Rn (whileGo mt body fuel) c QF
    | .ct => Rn (whileGo mt body fuel) c QF
    | .bk => QF .nx c
    | fl => QF fl c
  else QF .nx c := by
  unfold Rn
  simp only [whileGo]
  cases mt cs with
  | ok p =>
    obtain ⟨b, c⟩ := p
    cases b with
    | true =>
      simp only [if_true]
      cases e : body c with
      | ok p => obtain ⟨fl, c⟩ := p; cases fl <;> simp [e, ex_two]
      | err n xs => simp [e]
      | bad => simp [e]
    | false => simp [ex_two]
  | err n xs => simp
  | bad => simp
theorem while_rule {fuel : Nat} {QF : Fl → List C → Prop} (I : Nat → List C → Prop) (n : Nat) (h0 : I n cs) (hn : n < fuel)
    (step : ∀ k c, I k c → Rn mt c fun b c => if b then 0 < k ∧ Rn body c fun fl c => match fl with
      | .nx => I (k - 1) c
      | .ct => I (k - 1) c
      | .bk => QF .nx c
      | fl => QF fl c
    else QF .nx c) : Rn (whileGo mt body fuel) cs QF := by
  induction fuel generalizing cs n with
  | zero => exact absurd hn (Nat.not_lt_zero _)
  | succ fuel ih =>
    refine rn_while.mpr ((step n cs h0).mono fun b c hc => ?_)
    cases b with
    | false => exact hc
    | true =>
      simp only [if_true] at hc ⊢
      obtain ⟨h1, h2⟩ := hc
      refine h2.mono fun fl c hc => ?_
      cases fl with
      | nx => exact ih (n - 1) hc (by omega)
      | ct => exact ih (n - 1) hc (by omega)
      | bk => exact hc
      | rt d => exact hc
      | rn d => exact hc
end
end TW

set_option Elab.async false
set_option linter.all false
set_option maxRecDepth 100000
namespace TW
open PySem PySem.Spec PyProof.Rows L2

/-! ### operators on things known -/
section
variable {i j : Int} {a b : Bool} {d e : D} {ds es : List D}
theorem shaped_int : SeqAt.shaped (.int i) = true := by simp [SeqAt.shaped, PyData.canLay0, PyData.depth]
theorem shaped_bool : SeqAt.shaped (.bool a) = true := by simp [SeqAt.shaped, PyData.canLay0, PyData.depth]
@[simp] theorem gOrd_int {f : D → D → Bool} : gOrd f (.int i) (.int j) = .ok (.bool (f (.int i) (.int j))) := by simp [gOrd, shaped_int, PySem.W.alike, isNon, PyData.depth]
@[simp] theorem oLt_int : oLt (.int i) (.int j) = .ok (.bool (decide (i < j))) := by simp [oLt, PySem.W.dataLt_int]
@[simp] theorem oGt_int : oGt (.int i) (.int j) = .ok (.bool (decide (j < i))) := by simp [oGt, PySem.W.dataLt_int]
@[simp] theorem oLe_int : oLe (.int i) (.int j) = .ok (.bool (decide (i ≤ j))) := by simp [oLe, PySem.W.dataLt_int, ← Int.not_lt]
@[simp] theorem oGe_int : oGe (.int i) (.int j) = .ok (.bool (decide (j ≤ i))) := by simp [oGe, PySem.W.dataLt_int, ← Int.not_lt]
@[simp] theorem gAdd_int : gAdd (.int i) (.int j) = .ok (.int (i + j)) := by simp [gAdd, gOr, gI]
@[simp] theorem gSub_int : gSub (.int i) (.int j) = .ok (.int (i - j)) := by simp [gSub, gI]
theorem gMul_int (h : -18446744073709551616 < i ∧ i < 18446744073709551616 ∨ -18446744073709551616 < j ∧ j < 18446744073709551616) : gMul (.int i) (.int j) = .ok (.int (i * j)) := by
  have : cMul i j = true := by unfold cMul; rw [Bool.or_eq_true, decide_eq_true_eq, decide_eq_true_eq]; exact h
  simp [gMul, gOr, gIC, this]
theorem gDiv_int (h : 0 < j ∧ j < 1073741824) : gDiv (.int i) (.int j) = .ok (.int (i / j)) := by simp [gDiv, gIC, cDiv, h]
theorem gMod_int (h : 0 < j) : gMod (.int i) (.int j) = .ok (.int (i % j)) := by simp [gMod, gIC, cMod, h]
theorem gPow_int (h : 0 ≤ j ∧ j ≤ 1000000 ∧ i.natAbs < 18446744073709551616) : gPow (.int i) (.int j) = .ok (.int (i ^ j.toNat)) := by simp [gPow, gIC, cPow, h]
@[simp] theorem gEq_int : gEq (.int i) (.int j) = .ok (.bool (i == j)) := by simp [gEq, shaped_int, PyData.eqv]
@[simp] theorem gNe_int : gNe (.int i) (.int j) = .ok (.bool (i != j)) := by simp [gNe, shaped_int, PyData.eqv, bne]
@[simp] theorem gEq_bool : gEq (.bool a) (.bool b) = .ok (.bool (a == b)) := by simp [gEq, shaped_bool, PyData.eqv]
@[simp] theorem gNe_bool : gNe (.bool a) (.bool b) = .ok (.bool (a != b)) := by simp [gNe, shaped_bool, PyData.eqv, bne]
@[simp] theorem gNeg_int : gNeg (.int i) = .ok (.int (-i)) := rfl
@[simp] theorem gMax2_int : gMax2 (.int i) (.int j) = .ok (.int (max i j)) := by
  simp only [gMax2, R.ok.injEq, PyData.int.injEq]
  split <;> omega
@[simp] theorem gMin2_int : gMin2 (.int i) (.int j) = .ok (.int (min i j)) := by
  simp only [gMin2, R.ok.injEq, PyData.int.injEq]
  split <;> omega
@[simp] theorem gIsB_bool : gIsB (.bool a) (.bool b) = .ok (.bool (decide (a = b))) := rfl
@[simp] theorem gNotB_bool : gNotB (.bool a) (.bool b) = .ok (.bool (!decide (a = b))) := rfl
@[simp] theorem gLen_list : gLen (.list ds) = .ok (.int ds.length) := rfl
@[simp] theorem gLen_tuple : gLen (.tuple ds) = .ok (.int ds.length) := rfl
@[simp] theorem gSeq_list : gSeq (.list ds) = .ok ds := rfl
@[simp] theorem gSeq_tuple : gSeq (.tuple ds) = .ok ds := rfl
@[simp] theorem gTuple_list : gTuple (.list ds) = .ok (.tuple ds) := rfl
@[simp] theorem gTuple_tuple : gTuple (.tuple ds) = .ok (.tuple ds) := rfl
@[simp] theorem gList_list : gList (.list ds) = .ok ds := rfl
@[simp] theorem gList_tuple : gList (.tuple ds) = .ok ds := rfl
@[simp] theorem gRev_tuple : gRev (.tuple ds) = .ok (.tuple ds.reverse) := rfl
@[simp] theorem gApp_ok : gApp d ds = .ok (ds ++ [d]) := rfl
@[simp] theorem gExt_list : gExt (.list es) ds = .ok (ds ++ es) := rfl
@[simp] theorem gSl_tuple {lo hi : Option Int} : gSl (.tuple ds) lo hi = .ok (.tuple (cutD ds lo hi)) := rfl
@[simp] theorem gSl_list {lo hi : Option Int} : gSl (.list ds) lo hi = .ok (.list (cutD ds lo hi)) := rfl
@[simp] theorem gZip_list : gZip (.list ds) (.list es) = .ok ((ds.zip es).map fun p => .tuple [p.1, p.2]) := rfl
@[simp] theorem gZip_tuple : gZip (.tuple ds) (.tuple es) = .ok ((ds.zip es).map fun p => .tuple [p.1, p.2]) := rfl
@[simp] theorem fName_ok : fName d = .ok [d] := rfl
@[simp] theorem fTup_two : fTup 2 (.tuple [d, e]) = .ok [d, e] := rfl
theorem gCat_tuple (h : ds.length + es.length ≤ 16777216) : gAdd (.tuple ds) (.tuple es) = .ok (.tuple (ds ++ es)) := by simp [gAdd, gOr, gI, gCatT, szOk, h]
theorem gCat_list (h : ds.length + es.length ≤ 16777216) : gAdd (.list ds) (.list es) = .ok (.list (ds ++ es)) := by simp [gAdd, gOr, gI, gCatT, gCatS, asD, gCatL, szOk, h]
/-! items -/
theorem gIx_list {k : Nat} (hi : 0 ≤ i) (hk : i.toNat = k) (hb : i < 4611686018427387904) (h : ds[k]? = some d) : gIx (.list ds) (.int i) = .ok d := by
  have e : i = ((k : Nat) : Int) := by omega
  subst e
  simp only [gIx]
  rw [atI_nat h]
theorem gIx_tuple {k : Nat} (hi : 0 ≤ i) (hk : i.toNat = k) (h : ds[k]? = some d) : gIx (.tuple ds) (.int i) = .ok d := by
  have e : i = ((k : Nat) : Int) := by omega
  subst e
  simp only [gIx]
  rw [atI_nat h]
@[simp] theorem gIx_l0 {es : List D} : gIx (.list (d :: es)) (.int 0) = .ok d := by simp only [gIx]; rw [show (0 : Int) = ((0 : Nat) : Int) from rfl, atI_nat (j := 0) rfl]
@[simp] theorem gIx_l1 {es : List D} : gIx (.list (d :: e :: es)) (.int 1) = .ok e := by simp only [gIx]; rw [show (1 : Int) = ((1 : Nat) : Int) from rfl, atI_nat (j := 1) rfl]
@[simp] theorem gIx_t0 {es : List D} : gIx (.tuple (d :: es)) (.int 0) = .ok d := by simp only [gIx]; rw [show (0 : Int) = ((0 : Nat) : Int) from rfl, atI_nat (j := 0) rfl]
@[simp] theorem gIx_t1 {es : List D} : gIx (.tuple (d :: e :: es)) (.int 1) = .ok e := by simp only [gIx]; rw [show (1 : Int) = ((1 : Nat) : Int) from rfl, atI_nat (j := 1) rfl]
theorem gIx_scr {ns : List Int} {k : Nat} (h : k < ns.length) : gIx (scrD ns) (.int k) = .ok (.int ns[k]) := by
  simp only [scrD, gIx]
  rw [atI_nat (j := k) (by rw [List.getElem?_map, List.getElem?_eq_getElem h]; rfl)]
@[simp] theorem gLen_scr {ns : List Int} : gLen (scrD ns) = .ok (.int ns.length) := by simp [scrD, gLen]
@[simp] theorem ixN_0 {n : Nat} (h : 0 < n) : ixN n 0 = some 0 := by simp [ixN]; omega
/-! ranges -/
theorem gRg_int (h : rgOk i j = true) : gRg (.int i) (.int j) = .ok (rgD i j) := by simp [gRg, h]
theorem rgOk_small (h1 : -1000000 ≤ i ∧ i ≤ 1000000) (h2 : -1000000 ≤ j ∧ j ≤ 1000000) : rgOk i j = true := by
  simp only [rgOk, decide_eq_true_eq]
  omega
end
end TW

set_option Elab.async false
set_option linter.all false
set_option maxRecDepth 100000
namespace TW
open PySem PySem.Spec PyProof.Rows L2

/-! ### comprehensions in short -/
section
variable {vs is : List Nat} {f : D → R (List D)} {mt : M Bool} {me : M D}
/-- no if: each item gives its own -/
theorem comp_map {ds : List D} {c0 : List C} {QL : List D → List C → Prop} (g : D → D) (step : ∀ x ∈ ds, Ev (f x) fun ys => Rn me (setC c0 is ys) fun d c => d = g x ∧ wipeC c vs = c0) (h : QL (ds.map g) c0) : Rn (compGo vs is f mYes me ds) c0 QL := by
  induction ds generalizing QL with
  | nil => exact rn_comp_nil.mpr h
  | cons x xs ih =>
    refine rn_comp_cons.mpr ((step x List.mem_cons_self).mono fun ys hy => ?_)
    simp only [rn_mYes, if_true]
    refine hy.mono fun d c ⟨e1, e2⟩ => ?_
    rw [e2]
    exact ih (fun y hy => step y (List.mem_cons_of_mem _ hy)) (by rw [e1]; exact h)
/-- the items that a test lets through; the test may change slots -/
theorem comp_pick {ds : List D} {cs : List C} (I : List C → Prop) (h0 : I cs)
    (step : ∀ x ∈ ds, ∀ c, I c → Ev (f x) fun ys => Rn mt (setC c is ys) fun b c => if b then Rn me c fun d c => d = x ∧ I (wipeC c vs) else I (wipeC c vs)) : Rn (compGo vs is f mt me ds) cs fun es c => es.Sublist ds ∧ I c := by
  induction ds generalizing cs with
  | nil => exact rn_comp_nil.mpr ⟨List.Sublist.refl _, h0⟩
  | cons x xs ih =>
    refine rn_comp_cons.mpr ((step x List.mem_cons_self cs h0).mono fun ys hy => hy.mono fun b c hc => ?_)
    have ih := fun {cs} h => @ih cs h fun y hy => step y (List.mem_cons_of_mem _ hy)
    cases b with
    | true =>
      simp only [if_true] at hc ⊢
      exact hc.mono fun d c ⟨e, hi⟩ => (ih hi).mono fun r c' ⟨h1, h2⟩ => ⟨by rw [e]; exact h1.cons_cons x, h2⟩
    | false => exact (ih hc).mono fun r c' ⟨h1, h2⟩ => ⟨h1.cons x, h2⟩
/-- the items that a plain test lets through -/
theorem comp_filter {ds : List D} {c0 : List C} {QL : List D → List C → Prop} (t : D → Bool) (g : D → D)
    (step : ∀ x ∈ ds, Ev (f x) fun ys => Rn mt (setC c0 is ys) fun b c => b = t x ∧ if b then Rn me c fun d c => d = g x ∧ wipeC c vs = c0 else wipeC c vs = c0) (h : QL ((ds.filter t).map g) c0) : Rn (compGo vs is f mt me ds) c0 QL := by
  induction ds generalizing QL with
  | nil => exact rn_comp_nil.mpr h
  | cons x xs ih =>
    refine rn_comp_cons.mpr ((step x List.mem_cons_self).mono fun ys hy => hy.mono fun b c ⟨eb, hc⟩ => ?_)
    have ih := fun {Q} h => @ih Q (fun y hy => step y (List.mem_cons_of_mem _ hy)) h
    cases b with
    | true =>
      simp only [if_true] at hc ⊢
      rw [List.filter_cons_of_pos eb.symm] at h
      refine hc.mono fun d c ⟨e1, e2⟩ => ?_
      rw [e2]
      exact ih (by rw [e1]; exact h)
    | false =>
      simp only [Bool.false_eq_true, if_false] at hc ⊢
      rw [List.filter_cons_of_neg (by rw [← eb]; exact Bool.false_ne_true)] at h
      rw [hc]
      exact ih h
/-- each item gives something; the item's work may change slots -/
theorem comp_each {ds : List D} {cs : List C} (I : List C → Prop) (P : D → Prop) (h0 : I cs)
    (step : ∀ x ∈ ds, ∀ c, I c → Ev (f x) fun ys => Rn me (setC c is ys) fun d c => P d ∧ I (wipeC c vs)) : Rn (compGo vs is f mYes me ds) cs fun es c => es.length = ds.length ∧ (∀ e ∈ es, P e) ∧ I c := by
  induction ds generalizing cs with
  | nil => exact rn_comp_nil.mpr ⟨rfl, fun _ h => (nomatch h), h0⟩
  | cons x xs ih =>
    refine rn_comp_cons.mpr ((step x List.mem_cons_self cs h0).mono fun ys hy => ?_)
    simp only [rn_mYes, if_true]
    refine hy.mono fun d c ⟨hd, hc⟩ => (ih hc fun y hy => step y (List.mem_cons_of_mem _ hy)).mono fun r c' ⟨h1, h2, h3⟩ => ⟨by rw [List.length_cons, List.length_cons, h1], fun e he => ?_, h3⟩
    rcases List.mem_cons.mp he with z | z
    · subst z; exact hd
    · exact h2 e z
end

/-! ### ints, pairs -/
def rgI (a b : Int) : List Int := (List.range (b - a).toNat).map fun i => a + (i : Nat)
theorem rgD_eq (a b : Int) : rgD a b = (rgI a b).map .int := by unfold rgD rgI; rw [List.map_map]; rfl
theorem rgI_mem {a b x : Int} : x ∈ rgI a b ↔ a ≤ x ∧ x < b := by
  unfold rgI
  rw [List.mem_map]
  constructor
  · rintro ⟨i, hi, rfl⟩
    have := List.mem_range.mp hi
    omega
  · intro h
    exact ⟨(x - a).toNat, List.mem_range.mpr (by omega), by omega⟩
theorem rgI_pw (a b : Int) : (rgI a b).Pairwise (· < ·) := by
  unfold rgI
  rw [List.pairwise_map]
  exact List.pairwise_lt_range.imp fun h => by omega
theorem rgI_length (a b : Int) : (rgI a b).length = (b - a).toNat := by unfold rgI; rw [List.length_map, List.length_range]
def tieD (p : Int × Int) : D := .tuple [.int p.1, .int p.2]
theorem tieD_inj {p q : Int × Int} (h : tieD p = tieD q) : p = q := by
  unfold tieD at h
  injection h with h
  injection h with h1 h
  injection h with h2 h
  injection h1 with h1
  injection h2 with h2
  exact Prod.ext h1 h2
/-- the order of pairs -/
def ltP (p q : Int × Int) : Prop := p.1 < q.1 ∨ p.1 = q.1 ∧ p.2 < q.2
theorem ltP_irrefl (p : Int × Int) : ¬ ltP p p := fun h => by unfold ltP at h; omega
theorem ltP_trans {p q r : Int × Int} (h : ltP p q) (h' : ltP q r) : ltP p r := by unfold ltP at *; omega
theorem ltP_total {p q : Int × Int} (h : p ≠ q) : ltP p q ∨ ltP q p := by
  unfold ltP
  have : ¬ (p.1 = q.1 ∧ p.2 = q.2) := fun z => h (Prod.ext z.1 z.2)
  omega
instance (p q : Int × Int) : Decidable (ltP p q) := by unfold ltP; infer_instance
def pairsL (n : Int) : List (Int × Int) := (rgI 0 n).flatMap fun a => (rgI (a + 1) n).map fun b => (a, b)
theorem pairsL_mem {n : Int} {p : Int × Int} : p ∈ pairsL n ↔ 0 ≤ p.1 ∧ p.1 < p.2 ∧ p.2 < n := by
  unfold pairsL
  rw [List.mem_flatMap]
  constructor
  · rintro ⟨a, ha, h⟩
    obtain ⟨b, hb, rfl⟩ := List.mem_map.mp h
    have := rgI_mem.mp ha
    have := rgI_mem.mp hb
    exact ⟨by omega, by omega, by omega⟩
  · intro h
    exact ⟨p.1, rgI_mem.mpr (by omega), List.mem_map.mpr ⟨p.2, rgI_mem.mpr (by omega), rfl⟩⟩
theorem pairsL_pw (n : Int) : (pairsL n).Pairwise ltP := by
  unfold pairsL
  rw [List.pairwise_flatMap]
  refine ⟨fun a _ => ?_, (rgI_pw 0 n).imp fun h x hx y hy => ?_⟩
  · rw [List.pairwise_map]
    exact (rgI_pw _ _).imp fun h => .inr ⟨rfl, h⟩
  · obtain ⟨b, _, rfl⟩ := List.mem_map.mp hx
    obtain ⟨c, _, rfl⟩ := List.mem_map.mp hy
    exact .inl h
theorem pw_nodup {ks : List (Int × Int)} (h : ks.Pairwise ltP) : ks.Nodup := h.imp fun {a b} q e => by subst e; exact ltP_irrefl a q
/-- rising pairs are as many as there are places for -/
theorem nodup_le {ks ls : List (Int × Int)} (h : ks.Nodup) (s : ∀ x ∈ ks, x ∈ ls) : ks.length ≤ ls.length := by
  induction ks generalizing ls with
  | nil => exact Nat.zero_le _
  | cons x ks ih =>
    obtain ⟨h1, h2⟩ := List.nodup_cons.mp h
    obtain ⟨a, b, rfl⟩ := List.append_of_mem (s x List.mem_cons_self)
    have := ih (ls := a ++ b) h2 fun y hy => by
      rcases List.mem_append.mp (s y (List.mem_cons_of_mem _ hy)) with z | z
      · exact List.mem_append_left _ z
      · rcases List.mem_cons.mp z with z | z
        · subst z; exact absurd hy h1
        · exact List.mem_append_right _ z
    rw [List.length_append] at this
    rw [List.length_append, List.length_cons, List.length_cons]
    omega
theorem pairsL_len {n : Int} (h : n ≤ 14) : (pairsL n).length ≤ 91 := by
  have e : (pairsL 14).length = 91 := by decide +kernel
  rw [← e]
  exact nodup_le (pw_nodup (pairsL_pw n)) fun x hx => pairsL_mem.mpr (by have := pairsL_mem.mp hx; omega)

/-! ### webs -/
def webD (n : Int) (ks : List (Int × Int)) : D := .tuple [.int n, .tuple (ks.map tieD)]
structure Web (n : Int) (ks : List (Int × Int)) : Prop where
  many : 0 ≤ n ∧ n ≤ 14
  pw : ks.Pairwise ltP
  ties : ∀ p ∈ ks, 0 ≤ p.1 ∧ p.1 < p.2 ∧ p.2 < n
theorem Web.len {n : Int} {ks : List (Int × Int)} (w : Web n ks) : ks.length ≤ 91 :=
  Nat.le_trans (nodup_le (pw_nodup w.pw) fun x hx => pairsL_mem.mpr (w.ties x hx)) (pairsL_len w.many.2)

/-! ### sorted pairs -/
theorem pair_toks (p : Int × Int) : PySem.W.keyToks (tieD p) = [.inl 1, .inl p.1, .inl 1, .inl p.2, .inl 0] := by simp [tieD, PySem.W.keyToks, PySem.W.keyToksAll]
theorem lex_ints (x y : Int) (l m : List (Int ⊕ List Nat)) : PyProof.Rows.lexLt PyProof.Rows.itemOrd (.inl x :: l) (.inl y :: m) = (decide (x < y) || (decide (x = y) && PyProof.Rows.lexLt PyProof.Rows.itemOrd l m)) := by
  by_cases h : x = y
  · subst h
    rw [PyProof.Rows.lex_self]
    simp
  · rw [PySem.W.lex_atom (by simpa using h), PySem.W.lex_one]
    show decide (x < y) = _
    simp [h]
theorem dataLt_pair (p q : Int × Int) : PySem.W.dataLt (tieD p) (tieD q) = decide (ltP p q) := by
  unfold PySem.W.dataLt
  rw [pair_toks, pair_toks, lex_ints, lex_ints, lex_ints, lex_ints, lex_ints]
  have e : PyProof.Rows.lexLt PyProof.Rows.itemOrd [] [] = false := PyProof.Rows.lex_irrefl _
  rw [e]
  unfold ltP
  by_cases h1 : p.1 < q.1
  · simp [h1]
  · by_cases h2 : p.1 = q.1
    · simp [h2]
    · simp [h1, h2]
theorem dataLe_pair (p q : Int × Int) : PySem.W.dataLe false id (tieD p) (tieD q) = !decide (ltP q p) := by
  rw [← dataLt_pair]
  rfl
/-- sorted of pairs -/
theorem sort_pairs {ks : List (Int × Int)} (h : ks.Nodup) : ∃ ls : List (Int × Int), sortD (ks.map tieD) = ls.map tieD ∧ ls.Perm ks ∧ ls.Pairwise ltP := by
  obtain ⟨ls, h1, h2⟩ := perm_map_pick (sortD_perm (ks.map tieD))
  refine ⟨ls, h2, h1, ?_⟩
  have pw := sortD_pw (ks.map tieD)
  rw [h2, List.pairwise_map] at pw
  have nd : ls.Nodup := h1.nodup_iff.mpr h
  refine (pw.and nd).imp fun {p q} ⟨a, b⟩ => ?_
  rw [dataLe_pair] at a
  have a : ¬ ltP q p := by simpa using a
  rcases ltP_total b with z | z
  · exact z
  · exact absurd z a
/-- rising already: as it was -/
theorem sort_rising {ks : List (Int × Int)} (h : ks.Pairwise ltP) : sortD (ks.map tieD) = ks.map tieD := by
  obtain ⟨ls, h1, h2, h3⟩ := sort_pairs (pw_nodup h)
  rw [h1, List.Perm.eq_of_pairwise (fun a b _ _ q r => absurd (ltP_trans q r) (ltP_irrefl _)) h3 h h2]
end TW

set_option Elab.async false
set_option linter.all false
set_option maxRecDepth 100000
namespace TW
open PySem PySem.Spec PyProof.Rows L2

/-- a statement, then the rest -/
theorem seq_cut {a b : MS} {cs : List C} {QF : Fl → List C → Prop} (P : List C → Prop) (h : Rn a cs fun f c => f = .nx ∧ P c) (k : ∀ c, P c → Rn b c QF) : Rn (mSeq a b) cs QF := by
  rw [rn_mSeq]
  exact h.mono fun f c ⟨e, p⟩ => by subst e; exact k c p
theorem ix_ev {ds : List D} {r : Int} {Q : D → Prop} (h0 : 0 ≤ r) (h1 : r < ds.length) (h : ∀ d ∈ ds, Q d) : Ev (gIx (.list ds) (.int r)) Q := by
  have hk : r.toNat < ds.length := by omega
  simp only [gIx]
  have e : r = ((r.toNat : Nat) : Int) := by omega
  rw [e, atI_nat (List.getElem?_eq_getElem hk)]
  exact ev_ok.mpr (h _ (List.getElem_mem hk))
theorem ixt_ev {ds : List D} {r : Int} {Q : D → Prop} (h0 : 0 ≤ r) (h1 : r < ds.length) (h : ∀ d ∈ ds, Q d) : Ev (gIx (.tuple ds) (.int r)) Q := by
  have hk : r.toNat < ds.length := by omega
  simp only [gIx]
  have e : r = ((r.toNat : Nat) : Int) := by omega
  rw [e, atI_nat (List.getElem?_eq_getElem hk)]
  exact ev_ok.mpr (h _ (List.getElem_mem hk))
theorem canLay_ints : ∀ ks : List Int, PyData.canLayAll0 (ks.map .int) = true
  | [] => by simp [PyData.canLayAll0]
  | k :: ks => by simp [PyData.canLayAll0, PyData.canLay0, canLay_ints ks]
theorem canLay_rows : ∀ ks : List (List Int), PyData.canLayAll0 (ks.map tupD) = true
  | [] => by simp [PyData.canLayAll0]
  | k :: ks => by simp [PyData.canLayAll0, tupD, PyData.canLay0, canLay_ints, canLay_rows ks]
theorem depth_rows : ∀ ks : List (List Int), PyData.depthAll (ks.map tupD) ≤ 8
  | [] => by simp [PyData.depthAll]
  | k :: ks => by
    have h1 := depth_rows ks
    have h2 := depth_ints k
    simp only [List.map_cons, PyData.depthAll]
    omega
theorem shaped_row (k : List Int) : SeqAt.shaped (tupD k) = true := by
  have h2 := depth_ints k
  unfold SeqAt.shaped
  rw [Bool.and_eq_true, decide_eq_true_eq]
  exact ⟨by simp [tupD, PyData.canLay0, canLay_ints], by omega⟩
theorem shaped_rows (ks : List (List Int)) : SeqAt.shaped (.list (ks.map tupD)) = true := by
  have h2 := depth_rows ks
  unfold SeqAt.shaped
  rw [Bool.and_eq_true, decide_eq_true_eq]
  refine ⟨by simp [PyData.canLay0, canLay_rows], ?_⟩
  simp only [PyData.depth]
  omega
theorem shaped_rowsT (ks : List (List Int)) : SeqAt.shaped (.tuple (ks.map tupD)) = true := by
  have h2 := depth_rows ks
  unfold SeqAt.shaped
  rw [Bool.and_eq_true, decide_eq_true_eq]
  refine ⟨by simp [PyData.canLay0, canLay_rows], ?_⟩
  simp only [PyData.depth]
  omega
theorem tieD_eq (p : Int × Int) : tieD p = tupD [p.1, p.2] := rfl
theorem ties_rows (ks : List (Int × Int)) : ks.map tieD = (ks.map fun p => [p.1, p.2]).map tupD := by rw [List.map_map]; rfl
theorem sort_perm {ds : List D} (h : allAlike ds = true ∧ sortKind ds = true ∧ shallow ds = true) : gSorted (.list ds) = .ok (sortD ds) := by simp [gSorted, h]
theorem gSorted_rows {ks : List (List Int)} (h : ∀ k ∈ ks, k ≠ []) : gSorted (.list (ks.map tupD)) = .ok (sortD (ks.map tupD)) := by
  refine sort_perm ⟨?_, ?_, ?_⟩
  · simp only [allAlike, List.all_map, List.all_eq_true, Function.comp]
    intro a _ b _
    simp only [tupD, PySem.W.alike]
    exact alike_ints a b
  · unfold sortKind
    rw [Bool.or_eq_true]
    refine .inl ?_
    simp only [List.all_map, List.all_eq_true, Function.comp]
    intro a ha
    cases e : a with
    | nil => exact absurd e (h a ha)
    | cons x xs => simp [tupD]
  · simp only [shallow, List.all_map, List.all_eq_true, Function.comp, Bool.and_eq_true, decide_eq_true_eq]
    exact fun a _ => ⟨Nat.le_trans (depth_ints a) (by omega), shaped_row a⟩
theorem gSorted_ties (ks : List (Int × Int)) : gSorted (.list (ks.map tieD)) = .ok (sortD (ks.map tieD)) := by
  rw [ties_rows]
  exact gSorted_rows fun k hk => by
    obtain ⟨p, _, rfl⟩ := List.mem_map.mp hk
    exact List.cons_ne_nil _ _
theorem gSorted_ints (ks : List Int) : gSorted (.list (ks.map .int)) = .ok (sortD (ks.map .int)) := by
  refine sort_perm ⟨?_, ?_, ?_⟩
  · simp [allAlike, PySem.W.alike]
  · unfold sortKind
    rw [Bool.or_eq_true]
    refine .inr ?_
    simp
  · simp [shallow, PyData.depth, shaped_int]
theorem sort_ints (ks : List Int) : ∃ ls : List Int, sortD (ks.map .int) = ls.map .int ∧ ls.Perm ks := by
  obtain ⟨ls, h1, h2⟩ := perm_map_pick (sortD_perm (ks.map PyData.int))
  exact ⟨ls, h2, h1⟩
theorem sub_map {α β : Type} {f : α → β} {es : List β} {ks : List α} (h : es.Sublist (ks.map f)) : ∃ ls : List α, es = ls.map f ∧ ls.Sublist ks := by
  obtain ⟨ls, h1, h2⟩ := List.sublist_map_iff.mp h
  exact ⟨ls, h2, h1⟩
theorem gIn_row {neg : Bool} {k : List Int} {ks : List (List Int)} : gInX neg (tupD k) (.list (ks.map tupD)) = .ok (.bool (neg != (ks.map tupD).any fun z => PyData.eqv z (tupD k))) := by
  unfold gInX gOr
  simp only [gIn, shaped_row, shaped_rows, Bool.and_self, if_true]
theorem eqv_ints : ∀ a b : List Int, PyData.eqvAll (a.map .int) (b.map .int) = decide (a = b)
  | [], [] => by simp [PyData.eqvAll]
  | [], _ :: _ => by simp [PyData.eqvAll]
  | _ :: _, [] => by simp [PyData.eqvAll]
  | x :: a, y :: b => by
    rw [List.map_cons, List.map_cons, PyData.eqvAll, eqv_ints a b]
    by_cases h : x = y <;> simp [PyData.eqv, h]
theorem eqv_rows : ∀ a b : List (List Int), PyData.eqvAll (a.map tupD) (b.map tupD) = decide (a = b)
  | [], [] => by simp [PyData.eqvAll]
  | [], _ :: _ => by simp [PyData.eqvAll]
  | _ :: _, [] => by simp [PyData.eqvAll]
  | x :: a, y :: b => by
    rw [List.map_cons, List.map_cons, PyData.eqvAll, eqv_rows a b]
    have e : PyData.eqv (tupD x) (tupD y) = decide (x = y) := by simp only [tupD, PyData.eqv]; exact eqv_ints x y
    rw [e]
    by_cases h : x = y <;> simp [h]
theorem Web.of {n : Int} {ks : List (Int × Int)} (h : 0 ≤ n ∧ n ≤ 14) (s : ks.Sublist (pairsL n)) : Web n ks := ⟨h, (pairsL_pw n).sublist s, fun p hp => pairsL_mem.mp (s.subset hp)⟩
end TW

set_option Elab.async false
set_option linter.all false
set_option maxRecDepth 100000
namespace TW
open PySem PySem.Spec PyProof.Rows L2

/-! ### sorted(set) of pairs -/
def rowP (p : Int × Int) : List Int := [p.1, p.2]
theorem rowP_inj {p q : Int × Int} (h : rowP p = rowP q) : p = q := by
  unfold rowP at h
  injection h with h1 h
  injection h with h2 _
  exact Prod.ext h1 h2
theorem of_rows : ∀ {l : List (List Int)}, (∀ k ∈ l, ∃ p, k = rowP p) → ∃ us : List (Int × Int), l = us.map rowP
  | [], _ => ⟨[], rfl⟩
  | k :: l, h => by
    obtain ⟨p, e⟩ := h k List.mem_cons_self
    obtain ⟨us, e2⟩ := of_rows (l := l) fun k hk => h k (List.mem_cons_of_mem _ hk)
    exact ⟨p :: us, by rw [e, e2]; rfl⟩
theorem keysD_rows : ∀ ks : List (List Int), (∀ k ∈ ks, k ≠ []) → keysD (ks.map tupD) = some ks
  | [], _ => rfl
  | k :: ks, h => by
    have hr : ∀ is : List Int, rowD (is.map .int) = some is := fun is => by
      induction is with
      | nil => rfl
      | cons i is ih => simp [rowD, ih]
    cases k with
    | nil => exact absurd rfl (h [] List.mem_cons_self)
    | cons i is => simp [tupD, keysD, hr, keysD_rows ks fun k hk => h k (List.mem_cons_of_mem _ hk)]
theorem ties_tup (ks : List (Int × Int)) : ks.map tieD = (ks.map rowP).map tupD := by rw [List.map_map]; rfl
/-- each pair once, rising -/
theorem setsort_ties {ks : List (Int × Int)} {d : D} (hd : seqOf d = some (ks.map tieD)) (h : ks.length < 64) : ∃ ls : List (Int × Int), gSetSort d = .ok (ls.map tieD) ∧ ls.Pairwise ltP ∧ ∀ p, p ∈ ls ↔ p ∈ ks := by
  have hk : keysD (ks.map tieD) = some (ks.map rowP) := by
    rw [ties_tup]
    exact keysD_rows _ fun k hk => by
      obtain ⟨p, _, rfl⟩ := List.mem_map.mp hk
      exact List.cons_ne_nil _ _
  obtain ⟨us, e⟩ := of_rows (l := uniqL (ks.map rowP)) fun k hk => by
    obtain ⟨p, _, rfl⟩ := List.mem_map.mp (uniqL_mem.mp hk)
    exact ⟨p, rfl⟩
  have nd : us.Nodup := by
    have := uniqL_nodup (ks.map rowP)
    rw [e] at this
    exact nodup_of_map this
  obtain ⟨ls, h1, h2, h3⟩ := sort_pairs nd
  refine ⟨ls, ?_, h3, fun p => ?_⟩
  · unfold gSetSort
    rw [hd]
    simp only [hk, List.length_map, h, if_true, R.ok.injEq]
    rw [e, ← ties_tup, h1]
  · rw [h2.mem_iff]
    have m : rowP p ∈ us.map rowP ↔ rowP p ∈ ks.map rowP := by rw [← e]; exact uniqL_mem
    have inj : ∀ l : List (Int × Int), rowP p ∈ l.map rowP ↔ p ∈ l := fun l => ⟨fun q => by
      obtain ⟨r, hr, e⟩ := List.mem_map.mp q
      rw [← rowP_inj e]
      exact hr, fun q => List.mem_map.mpr ⟨p, q, rfl⟩⟩
    rw [inj, inj] at m
    exact m
end TW

set_option Elab.async false
set_option linter.all false
set_option maxRecDepth 100000
namespace TW
open PySem PySem.Spec PyProof.Rows L2

/-! ### what a web is -/
theorem plain_of {d : D} (h : noDict d = true) : plainD d = true := by
  cases d <;> simp [plainD, noDict] at *
def isI : D → Bool
  | .int _ => true
  | _ => false
def placeB (n : Int) : D → Bool
  | .int i => decide (0 ≤ i) && decide (i < n)
  | _ => false
def tieB (n : Int) : D → Bool
  | .tuple [.int a, .int b] => decide (0 ≤ a ∧ a < b ∧ b < n)
  | _ => false
def unTie : D → Int × Int
  | .tuple [.int a, .int b] => (a, b)
  | _ => (0, 0)
@[simp] theorem unTie_tieD (p : Int × Int) : unTie (tieD p) = p := rfl
@[simp] theorem tieB_tieD (n : Int) (p : Int × Int) : tieB n (tieD p) = decide (0 ≤ p.1 ∧ p.1 < p.2 ∧ p.2 < n) := rfl
theorem tieB_inv {n : Int} {d : D} (h : tieB n d = true) : ∃ p, d = tieD p := by
  unfold tieB at h
  split at h
  · rename_i a b; exact ⟨(a, b), rfl⟩
  · cases h
theorem ties_inv {n : Int} : ∀ {ts : List D}, (ts.all (tieB n)) = true → ∃ ks : List (Int × Int), ts = ks.map tieD ∧ ∀ p ∈ ks, 0 ≤ p.1 ∧ p.1 < p.2 ∧ p.2 < n
  | [], _ => ⟨[], rfl, fun _ h => (nomatch h)⟩
  | t :: ts, h => by
    rw [List.all_cons, Bool.and_eq_true] at h
    obtain ⟨ks, e, hk⟩ := ties_inv h.2
    obtain ⟨p, rfl⟩ := tieB_inv h.1
    have := of_decide_eq_true ((tieB_tieD n p).symm.trans h.1)
    exact ⟨p :: ks, by rw [e]; rfl, fun q hq => by
      rcases List.mem_cons.mp hq with z | z
      · rw [z]; exact this
      · exact hk q z⟩
def risB : List (Int × Int) → Bool
  | p :: q :: r => decide (ltP p q) && risB (q :: r)
  | _ => true
theorem risB_iff : ∀ {ks : List (Int × Int)}, risB ks = true ↔ ks.Pairwise ltP
  | [] => by simp [risB]
  | [p] => by simp [risB]
  | p :: q :: r => by
    unfold risB
    rw [Bool.and_eq_true, decide_eq_true_eq, risB_iff (ks := q :: r)]
    constructor
    · rintro ⟨h1, h2⟩
      refine List.pairwise_cons.mpr ⟨fun x hx => ?_, h2⟩
      rcases List.mem_cons.mp hx with z | z
      · rw [z]; exact h1
      · exact ltP_trans h1 ((List.pairwise_cons.mp h2).1 x z)
    · intro h
      exact ⟨(List.pairwise_cons.mp h).1 q List.mem_cons_self, (List.pairwise_cons.mp h).2⟩
def webB : D → Bool
  | .tuple [.int n, .tuple ts] => decide (0 ≤ n) && decide (n ≤ 14) && (ts.all (tieB n) && risB (ts.map unTie))
  | _ => false
theorem oLt_tie (p q : Int × Int) : oLt (tieD p) (tieD q) = .ok (.bool (decide (ltP p q))) := by
  have e := dataLt_pair p q
  unfold oLt gOrd
  rw [tieD_eq, tieD_eq] at *
  have a : PySem.W.alike (tupD [p.1, p.2]) (tupD [q.1, q.2]) = true := by simp only [tupD, PySem.W.alike]; exact alike_ints _ _
  have b : isNon (tupD [p.1, p.2]) = false := rfl
  have c : (tupD [p.1, p.2]).depth ≤ 60 := Nat.le_trans (depth_ints _) (by omega)
  rw [shaped_row, shaped_row, a, b, e]
  simp [c]
theorem cut_one (ds : List D) : cutD ds (some 1) none = ds.drop 1 := by
  unfold cutD
  rw [HT.sIx_none, show HT.sIx ds.length 0 (some 1) = min 1 ds.length from HT.sIx_nat ds.length 0 1]
  cases ds with
  | nil => rfl
  | cons x r =>
    rw [show min 1 (x :: r).length = 1 by rw [List.length_cons]; omega]
    rw [List.length_cons, Nat.add_sub_cancel]
    exact List.take_of_length_le (by simp)
theorem boolsD_map {α : Type} (f : α → Bool) : ∀ l : List α, boolsD (l.map fun x => .bool (f x)) = some (l.map f)
  | [] => rfl
  | x :: l => by simp [boolsD, boolsD_map f l]
theorem gAll_map {α : Type} (f : α → Bool) (l : List α) : gAll (.list (l.map fun x => .bool (f x))) = .ok (.bool (l.all f)) := by
  simp [gAll, boolsD_map, List.all_map]
theorem gAny_map {α : Type} (f : α → Bool) (l : List α) : gAny (.list (l.map fun x => .bool (f x))) = .ok (.bool (l.any f)) := by
  simp [gAny, boolsD_map, List.any_map]
theorem ris_zip : ∀ ks : List (Int × Int), ((ks.zip (ks.drop 1)).all fun z => decide (ltP z.1 z.2)) = risB ks
  | [] => rfl
  | [p] => rfl
  | p :: q :: r => by
    have := ris_zip (q :: r)
    simp only [List.drop_succ_cons, List.drop_zero] at this ⊢
    unfold risB
    rw [← this]
    simp
/-- sorted(set) is the list itself just where it rises -/
theorem rising_iff {ks ls : List (Int × Int)} (h : ls.Pairwise ltP) (m : ∀ p, p ∈ ls ↔ p ∈ ks) : decide (ks = ls) = risB ks := by
  rw [Bool.eq_iff_iff, decide_eq_true_eq, risB_iff]
  constructor
  · intro e; rw [e]; exact h
  · intro hk
    exact List.Perm.eq_of_pairwise (fun a b _ _ q r => absurd (ltP_trans q r) (ltP_irrefl _)) hk h ((List.perm_ext_iff_of_nodup (pw_nodup hk) (pw_nodup h)).mpr fun p => (m p).symm)
end TW

set_option Elab.async false
set_option linter.all false
set_option maxRecDepth 100000
namespace K01
open PySem PySem.Spec PyProof.Rows L2 TW

/-! ### what the helpers draw -/
theorem cell_at_ev (ns : List Int) {k : Int} (hk : 0 ≤ k) : Ev (F__law_cell_at [scrD ns, .int k]) fun d => ∃ c, d = .int c := by
  unfold F__law_cell_at
  rw [ev_fnD]
  simp only [b__law_cell_at, unfill, rn_mSeq, rn_mIfS, rn_mTest, rn_mOp2, rn_mVar, rn_mOp1, rn_vVar, rn_mRet, rn_mC, rn_mNx]
  simp
  intro h
  have e : k = ((k.toNat : Nat) : Int) := by omega
  rw [e, gIx_scr (by omega)]
  simp
/-- the drawer's state -/
def St (ss : List D) : Prop := ∃ i b, ss = [.int i, .bool b] ∧ 0 ≤ i ∧ (b = false → i < 2147483647)
theorem state_ev (ns : List Int) {k : Int} (hk : 0 ≤ k) : Ev (F__law_state [scrD ns, .int k]) St := by
  unfold F__law_state
  rw [ev_fnN]
  simp only [b__law_state, unfill]
  simp
  refine (cell_at_ev ns hk).mono ?_
  rintro d ⟨c, rfl⟩
  simp [gPow_int]
  split
  · exact ⟨_, true, rfl, by omega, by simp⟩
  · rw [gMod_int (by omega)]
    simp
    exact ⟨_, false, rfl, by omega, by omega⟩
theorem take_ev {ss : List D} {m : Int} (hs : St ss) (h0 : 0 < m) (h1 : m < 1073741824) : Ev (F__law_take ss [.int m]) fun p => ∃ r, p.1 = .int r ∧ 0 ≤ r ∧ r < m ∧ St p.2 := by
  obtain ⟨i, b, rfl, hi, hb⟩ := hs
  unfold F__law_take
  rw [ev_fnS]
  simp only [b__law_take, unfill]
  cases b with
  | true =>
    simp [gMod_int h0, gDiv_int ⟨h0, h1⟩, isOwn, gPut]
    exact ⟨Int.emod_nonneg _ (by omega), Int.emod_lt_of_pos _ h0, _, true, rfl, Int.ediv_nonneg hi (by omega), by simp⟩
  | false =>
    have hb := hb rfl
    have q1 : (0 : Int) ≤ (i * 48271 + 29) % 2147483647 := Int.emod_nonneg _ (by omega)
    have q2 : (i * 48271 + 29) % 2147483647 < (2147483647 : Int) := Int.emod_lt_of_pos _ (by omega)
    generalize hj : (i * 48271 + 29) % 2147483647 = j at q1 q2
    simp [gMul_int, gMod_int, h0, gDiv_int, isOwn, gPut, hj, q1]
    rw [gMul_int (by omega)]
    simp only [ev_ok, gAdd_int]
    rw [gMod_int (by omega)]
    simp only [ev_ok]
    have p1 : (0 : Int) ≤ (j * j + 39373 * j + 7) % 2147483629 := Int.emod_nonneg _ (by omega)
    have p2 : (j * j + 39373 * j + 7) % 2147483629 < (2147483629 : Int) := Int.emod_lt_of_pos _ (by omega)
    generalize (j * j + 39373 * j + 7) % 2147483629 = k at p1 p2
    rw [gMul_int (by omega)]
    simp only [ev_ok]
    rw [gMul_int (by omega)]
    simp only [ev_ok, gAdd_int]
    rw [gMod_int (by omega)]
    simp only [ev_ok]
    rw [gDiv_int (by omega)]
    simp only [ev_ok]
    rw [gMod_int h0]
    simp only [ev_ok]
    exact ⟨_, rfl, Int.emod_nonneg _ (by omega), Int.emod_lt_of_pos _ h0, _, false, rfl, q1, fun _ => q2⟩
end K01

set_option Elab.async false
set_option linter.all false
set_option maxRecDepth 100000
namespace K01
open PySem PySem.Spec PyProof.Rows L2 TW

def pairsI (n : Int) (xs : List D) (c : List C) : Prop := ∃ (as : List Int) (acc : List (Int × Int)) (s2 : C), xs = as.map .int ∧ c = [.dat (.int n), .own false (acc.map tieD), s2, .un] ∧ acc ++ (as.flatMap fun a => (rgI (a + 1) n).map fun b => (a, b)) = pairsL n ∧ ∀ a ∈ as, 0 ≤ a ∧ a < n
theorem pairs_eq {n : Int} (h : 0 ≤ n ∧ n ≤ 14) : F__law_pairs [.int n] = .ok (.list ((pairsL n).map tieD)) := by
  apply Ev.eq
  unfold F__law_pairs
  rw [ev_fnD]
  simp [b__law_pairs, unfill, rn_mFor, gRg_int (rgOk_small (i := 0) (j := n) (by omega) (by omega))]
  refine for_rule (I := pairsI n) ?_ ?_ ?_
  · exact ⟨rgI 0 n, [], .un, rgD_eq 0 n, rfl, rfl, fun a ha => rgI_mem.mp ha⟩
  · rintro c ⟨as, acc, s2, e1, rfl, e3, _⟩
    have : as = [] := by simpa using e1.symm
    subst this
    simp at e3
    simp [e3]
  · rintro x xs c ⟨as, acc, s2, e1, rfl, e3, hb⟩
    cases as with
    | nil => simp at e1
    | cons a as =>
      simp at e1
      obtain ⟨rfl, rfl⟩ := e1
      have ha := hb a List.mem_cons_self
      simp [setC, isOwn, rn_mComp, wipeC, gRg_int (rgOk_small (i := a + 1) (j := n) (by omega) (by omega)), rgD_eq]
      refine comp_map (g := fun d => .tuple [.int a, d]) (fun x hx => ?_) ?_
      · simp [setC, wipeC]
      · have hl : (acc ++ (rgI (a + 1) n).map fun b => (a, b)).length ≤ 91 := by
          have := congrArg List.length e3
          have l := pairsL_len h.2
          simp [List.flatMap_cons] at this ⊢
          omega
        simp
        simp at hl
        refine ⟨by omega, as, acc ++ (rgI (a + 1) n).map fun b => (a, b), .dat (.int a), rfl, ?_, by rw [← e3, List.flatMap_cons, List.append_assoc], fun b hb' => hb b (List.mem_cons_of_mem _ hb')⟩
        simp [tieD]
def rowI (ks : List Int) (n : Nat) (c : List C) : Prop := ∃ (ss : List D) (l f : List Int) (s1 : C), c = [.own true ss, s1, .own false (l.map .int), .own false (f.map .int)] ∧ St ss ∧ (f ++ l).Perm ks ∧ l.length = n
theorem shaped_ints : ∀ ks : List Int, SeqAt.shaped (.list (ks.map .int)) = true := fun ks => by
  have h1 : ∀ ks : List Int, PyData.canLayAll0 (ks.map .int) = true := fun ks => by
    induction ks with
    | nil => simp [PyData.canLayAll0]
    | cons k ks ih => simp [PyData.canLayAll0, PyData.canLay0, ih]
  have h2 := depth_ints ks
  simp [tupD, PyData.depth] at h2
  simp [SeqAt.shaped, PyData.canLay0, h1, PyData.depth]
  omega
theorem map_erase {α β : Type} (g : α → β) : ∀ (l : List α) (i : Nat), (l.map g).eraseIdx i = (l.eraseIdx i).map g
  | [], _ => by simp
  | x :: l, 0 => by simp
  | x :: l, i + 1 => by simp [map_erase g l i]
theorem erase_perm {α : Type} : ∀ {l : List α} {i : Nat} (h : i < l.length), ([l[i]] ++ l.eraseIdx i).Perm l
  | x :: l, 0, _ => by simp
  | x :: l, i + 1, h => by
    have := erase_perm (l := l) (i := i) (by simp at h; omega)
    simp only [List.getElem_cons_succ, List.eraseIdx_cons_succ, List.singleton_append] at this ⊢
    exact (List.Perm.swap _ _ _).trans (this.cons x)
theorem mixed_ev {ss : List D} {ks : List Int} (hs : St ss) (hk : ks.length ≤ 1000) : Ev (F__law_mixed_row ss [.list (ks.map .int)]) fun p => ∃ ls : List Int, p.1 = .list (ls.map .int) ∧ ls.Perm ks ∧ St p.2 := by
  unfold F__law_mixed_row
  rw [ev_fnS]
  simp [b__law_mixed_row, unfill]
  refine while_rule (I := rowI ks) ks.length ⟨ss, ks, [], _, rfl, hs, List.Perm.refl _, rfl⟩ (by omega) ?_
  rintro k c ⟨ss, l, f, s1, rfl, hs, pm, hl⟩
  cases l with
  | nil =>
    have h0 := shaped_ints []
    simp at h0
    simp [gNe, h0, PyData.eqv, PyData.eqvAll]
    exact ⟨f, rfl, by simpa using pm, hs⟩
  | cons x l =>
    have := shaped_ints (x :: l)
    have h0 := shaped_ints []
    simp [gNe, this, PyData.eqv, PyData.eqvAll, isOwn]
    simp at this h0
    simp [this, h0]
    have len := pm.length_eq
    simp at len
    refine ⟨by simp at hl; omega, (take_ev hs (m := l.length + 1) (by omega) (by omega)).mono ?_⟩
    rintro ⟨d, ss'⟩ ⟨r, e, h1, h2, hs'⟩
    simp at e
    subst e
    have hr : r.toNat < (x :: l).length := by simp; omega
    refine ⟨by omega, r.toNat, ?_, .int (x :: l)[r.toNat], ?_, by omega, ss', (x :: l).eraseIdx r.toNat, f ++ [(x :: l)[r.toNat]], s1, ?_, hs', ?_, ?_⟩
    · have e : r = ((r.toNat : Nat) : Int) := by omega
      rw [e]
      exact seqIndex_of (by simp; omega) (by simp; omega)
    · rw [← List.map_cons, List.getElem?_map, List.getElem?_eq_getElem hr]
      rfl
    · rw [← List.map_cons, map_erase]
      simp
    · refine List.Perm.trans ?_ pm
      rw [List.append_assoc]
      exact List.Perm.append_left f (erase_perm hr)
    · rw [List.length_eraseIdx_of_lt hr, hl]
end K01

set_option Elab.async false
set_option linter.all false
set_option maxRecDepth 100000
namespace K01
open PySem PySem.Spec PyProof.Rows L2 TW

def webP1 (m n : Int) (c : List C) : Prop := ∃ ss : List D, c = [.own true ss, .dat (.int m), .dat (.int n), .un, .un, .un, .un, .un, .un] ∧ St ss
def webP2 (m n w : Int) (c : List C) : Prop := ∃ ss : List D, c = [.own true ss, .dat (.int m), .dat (.int n), .dat (.int w), .un, .un, .un, .un, .un] ∧ St ss
def webP3 (m n w : Int) (c : List C) : Prop := ∃ (ss : List D) (ks : List (Int × Int)), c = [.own true ss, .dat (.int m), .dat (.int n), .dat (.int w), .own false (ks.map tieD), .un, .un, .un, .un] ∧ St ss ∧ ks.Sublist (pairsL n)
def webP4 (m n w : Int) (c : List C) : Prop := ∃ (ss : List D) (ks : List (Int × Int)) (ls : List Int), c = [.own true ss, .dat (.int m), .dat (.int n), .dat (.int w), .own false (ks.map tieD), .dat (.list (ls.map .int)), .un, .un, .un] ∧ St ss ∧ ks.Sublist (pairsL n) ∧ ls.length = n.toNat
def webP5 (m n w : Int) (c : List C) : Prop := ∃ (ss : List D) (ks : List (Int × Int)) (s5 s6 s7 s8 : C), c = [.own true ss, .dat (.int m), .dat (.int n), .dat (.int w), .own false (ks.map tieD), s5, s6, s7, s8] ∧ St ss ∧ ks.Sublist (pairsL n)
def webI (m n w : Int) (ls : List Int) (k : Nat) (c : List C) : Prop := ∃ (ss : List D) (rs : List (List Int)) (s6 : C), c = [.own true ss, .dat (.int m), .dat (.int n), .dat (.int w), .own false (rs.map tupD), .dat (.list (ls.map .int)), s6, .un, .un] ∧ St ss ∧ rs.length = k
def webJ (m n w : Int) (ls : List Int) (xs : List D) (c : List C) : Prop := ∃ (as : List Int) (k : Nat), xs = as.map .int ∧ (∀ a ∈ as, 1 ≤ a ∧ a < n) ∧ k + as.length ≤ 14 ∧ webI m n w ls k c
def webO (m n w : Int) (c : List C) : Prop := ∃ (ss : List D) (rs : List (List Int)) (os : List (Int × Int)) (s5 s6 : C), c = [.own true ss, .dat (.int m), .dat (.int n), .dat (.int w), .own false (rs.map tupD), s5, s6, .dat (.list (os.map tieD)), .un] ∧ St ss
def webR (m n w : Int) (rs : List (List Int)) (s5 s6 : C) (c : List C) : Prop := ∃ ss : List D, c = [.own true ss, .dat (.int m), .dat (.int n), .dat (.int w), .own false (rs.map tupD), s5, s6, .un, .un] ∧ St ss
def webS (m n w : Int) (rs : List (List Int)) (os : List (Int × Int)) (s5 s6 : C) (ss : List D) (c : List C) : Prop := c = [.own true ss, .dat (.int m), .dat (.int n), .dat (.int w), .own false (rs.map tupD), s5, s6, .dat (.list (os.map tieD)), .un]
def webQ (m n w : Int) (ls : List Int) (c : List C) : Prop := ∃ k : Nat, k ≤ 15 ∧ webI m n w ls k c
theorem sorted_two {x y : Int} {Q : List D → Prop} (h : ∀ k : List Int, Q (k.map .int)) : Ev (gSorted (.list [.int x, .int y])) Q := by
  have e := gSorted_ints [x, y]
  simp only [List.map_cons, List.map_nil] at e
  rw [e]
  obtain ⟨ls, h1, _⟩ := sort_ints [x, y]
  simp only [List.map_cons, List.map_nil] at h1
  rw [h1]
  exact ev_ok.mpr (h ls)
theorem in_rows {neg : Bool} {p : Int × Int} {rs : List (List Int)} {Q : D → Prop} (h : ∀ b, Q (.bool b)) : Ev (gInX neg (tieD p) (.list (rs.map tupD))) Q := by
  rw [tieD_eq, gIn_row]
  exact ev_ok.mpr (h _)
theorem in_ties {neg : Bool} {p : Int × Int} {os : List (Int × Int)} {Q : D → Prop} (h : ∀ b, Q (.bool b)) : Ev (gInX neg (tieD p) (.list (os.map tieD))) Q := by
  rw [ties_rows]
  exact in_rows h
theorem web_many {m : Int} {ss : List D} {r : Int} (hm : 0 ≤ m) (h0 : 0 ≤ r) (h1 : r < 8) : Ev (gIx (.list [.int 0, .int 0, .int 1, .int 0, .int 2, .int 1, .int 3, .int m]) (.int r)) fun d => ∃ v, d = .int v ∧ 0 ≤ v := by
  refine ix_ev h0 (by simpa using h1) ?_
  simp
  exact hm
theorem pair_of_row {ls : List Int} {i : Int} {Q : D → Prop} (hi : 0 ≤ i ∧ i < ls.length) (h : ∀ x : Int, Q (.int x)) : Ev (gIx (.list (ls.map .int)) (.int i)) Q := by
  refine ix_ev hi.1 (by simpa using hi.2) fun d hd => ?_
  obtain ⟨x, _, rfl⟩ := List.mem_map.mp hd
  exact h x
def webP0 (m : Int) (c : List C) : Prop := ∃ n, (0 ≤ n ∧ n ≤ m) ∧ webP1 m n c
theorem web_ev {ss : List D} {m : Int} (hs : St ss) (hm : 0 ≤ m ∧ m ≤ 14) : Ev (F__law_web ss [.int m]) fun p => ∃ n ks, p.1 = webD n ks ∧ Web n ks ∧ n ≤ m ∧ St p.2 := by
  unfold F__law_web
  rw [ev_fnS]
  unfold b__law_web
  show Rn _ [.own true ss, .dat (.int m), .un, .un, .un, .un, .un, .un, .un] _
  refine seq_cut (webP0 m) ?_ ?_
  · simp [isOwn]
    refine (take_ev hs (by omega) (by omega)).mono ?_
    rintro ⟨d, ss'⟩ ⟨r, e, h1, h2, hs'⟩
    simp at e
    subst e
    refine (web_many (ss := ss) hm.1 h1 h2).mono ?_
    rintro d ⟨v, rfl, hv⟩
    simp
    exact ⟨max 0 (m - v), by omega, ss', rfl, hs'⟩
  rintro c ⟨n, hn, ss, rfl, hs⟩
  refine seq_cut (fun c => ∃ w : Int, (0 ≤ w ∧ w < 7) ∧ webP2 m n w c) ?_ ?_
  · simp [isOwn]
    refine (take_ev hs (by omega) (by omega)).mono ?_
    rintro ⟨d, ss'⟩ ⟨r, e, h1, h2, hs'⟩
    simp at e
    subst e
    exact ⟨r, ⟨h1, h2⟩, ss', rfl, hs'⟩
  rintro c ⟨w, hw, ss, rfl, hs⟩
  refine seq_cut (webP3 m n w) ?_ ?_
  · simp [rn_mComp, pairs_eq (n := n) (by omega), wipeC]
    refine (comp_pick (I := webP2 m n w) ⟨ss, rfl, hs⟩ ?_).mono ?_
    · rintro x hx c ⟨ss, rfl, hs⟩
      simp [setC, isOwn, wipeC]
      refine (take_ev hs (by omega) (by omega)).mono ?_
      rintro ⟨d, ss'⟩ ⟨r, e, h1, h2, hs'⟩
      simp at e
      subst e
      rw [gMod_int (by omega)]
      simp
      have q1 := Int.emod_nonneg w (by omega : (3 : Int) ≠ 0)
      have q2 := Int.emod_lt_of_pos w (by omega : (0 : Int) < 3)
      refine ix_ev q1 (by simpa using q2) ?_
      simp
      have : webP2 m n w [C.own true ss', C.dat (PyData.int m), C.dat (PyData.int n), C.dat (PyData.int w), C.un, C.un, C.un, C.un, C.un] := ⟨ss', rfl, hs'⟩
      simp [this]
    · rintro es c ⟨h1, ss, rfl, hs⟩
      obtain ⟨ks, rfl, h2⟩ := sub_map h1
      exact ⟨ss, ks, rfl, hs, h2⟩
  rintro c ⟨ss, ks, rfl, hs, hk⟩
  refine seq_cut (webP4 m n w) ?_ ?_
  · simp [isOwn, gRg_int (rgOk_small (i := 0) (j := n) (by omega) (by omega)), rgD_eq]
    refine (mixed_ev hs (by rw [rgI_length]; omega)).mono ?_
    rintro ⟨d, ss'⟩ ⟨ls, e, h1, hs'⟩
    simp at e
    subst e
    exact ⟨ss', ks, ls, rfl, hs', hk, by rw [h1.length_eq, rgI_length]; omega⟩
  rintro c ⟨ss, ks, ls, rfl, hs, hk, hl⟩
  refine seq_cut (webP5 m n w) ?_ ?_
  · rw [rn_mIfS]
    simp only [rn_mTest, rn_mOp2, rn_mVar, onVar_dat, rn_mC, List.getElem?_cons_succ, List.getElem?_cons_zero, oGt_int, ev_ok, asB_bool]
    by_cases hw2 : 2 < w
    rotate_left
    · simp [hw2]
      exact ⟨ss, ks, _, _, _, _, rfl, hs, hk⟩
    simp only [hw2, decide_true, if_true]
    refine seq_cut (webI m n w ls 0) ?_ ?_
    · simp
      exact ⟨ss, [], .un, rfl, hs, rfl⟩
    intro c hc
    refine seq_cut (webQ m n w ls) ?_ ?_
    · obtain ⟨ss, rs, s6, rfl, hs, hr⟩ := hc
      simp [rn_mFor, gRg_int (rgOk_small (i := 1) (j := n) (by omega) (by omega)), rgD_eq]
      refine for_rule (I := webJ m n w ls) ⟨rgI 1 n, 0, rfl, fun a ha => rgI_mem.mp ha, by rw [rgI_length]; omega, ss, rs, s6, rfl, hs, hr⟩ ?_ ?_
      · rintro c ⟨as, k, e, _, hk, hc⟩
        simp
        exact ⟨k, by omega, hc⟩
      · rintro x xs c ⟨as, k, e, hb, hk, ss, rs, s6, rfl, hs, hr⟩
        cases as with
        | nil => simp at e
        | cons a as =>
          simp at e
          obtain ⟨rfl, rfl⟩ := e
          have ha := hb a List.mem_cons_self
          simp [setC, isOwn]
          refine pair_of_row (by omega) fun x => ?_
          rw [gDiv_int (by omega)]
          simp
          refine ix_ev (by omega) (by simp; omega) ?_
          have key : ∀ v : Int, 0 ≤ v ∧ v < n → Ev (gIx (PyData.list (List.map PyData.int ls)) (PyData.int v)) fun z => Ev (gSorted (PyData.list [PyData.int x, z])) fun z => rs.length ≤ 16777215 ∧ webJ m n w ls (List.map PyData.int as) [C.own true ss, C.dat (PyData.int m), C.dat (PyData.int n), C.dat (PyData.int w), C.own false (List.map tupD rs ++ [PyData.tuple z]), C.dat (PyData.list (List.map PyData.int ls)), C.dat (PyData.int a), C.un, C.un] := by
            intro v hv
            refine pair_of_row (by omega) fun y => sorted_two fun q => ⟨by simp at hk; omega, as, k + 1, rfl, fun b hb' => hb b (List.mem_cons_of_mem _ hb'), by simp at hk; omega, ss, rs ++ [q], .dat (.int a), ?_, hs, by simp [hr]⟩
            simp [tupD]
          have q1 := Int.ediv_nonneg (show 0 ≤ a by omega) (show (0 : Int) ≤ 2 by omega)
          have q2 : a / 2 ≤ a := Int.ediv_le_self _ (by omega)
          simp
          exact ⟨key _ (by omega), key _ (by omega), key _ (by omega)⟩
    rintro c ⟨k, hk15, ss, rs, s6, rfl, hs, hr⟩
    refine seq_cut (fun c => ∃ k : Nat, k ≤ 16 ∧ webI m n w ls k c) ?_ ?_
    · rw [rn_mIfS]
      simp only [rn_mAnd, rn_mTest, rn_mOp2, rn_mVar, onVar_dat, rn_mC, List.getElem?_cons_succ, List.getElem?_cons_zero, gEq_int, oGt_int, ev_ok, asB_bool]
      have done : Rn mNx [C.own true ss, C.dat (PyData.int m), C.dat (PyData.int n), C.dat (PyData.int w), C.own false (List.map tupD rs), C.dat (PyData.list (List.map PyData.int ls)), s6, C.un, C.un] (fun f c => f = Fl.nx ∧ ∃ k : Nat, k ≤ 16 ∧ webI m n w ls k c) := by
        simp
        exact ⟨k, by omega, ss, rs, s6, rfl, hs, hr⟩
      by_cases h4 : (w == 4) = true
      · simp only [h4, if_true]
        by_cases h5 : 2 < n
        · simp only [h5, decide_true, if_true]
          simp [isOwn]
          refine pair_of_row (by omega) fun x => ?_
          refine pair_of_row (by omega) fun y => sorted_two fun q => ⟨by omega, k + 1, by omega, ss, rs ++ [q], s6, ?_, hs, by simp [hr]⟩
          simp [tupD]
        · simpa only [h5, decide_false, Bool.false_eq_true, if_false] using done
      · simpa only [h4, Bool.false_eq_true, if_false] using done
    rintro c ⟨k, hk16, ss, rs, s6, rfl, hs, hr⟩
    refine seq_cut (webO m n w) ?_ ?_
    · simp [rn_mComp, pairs_eq (n := n) (by omega), wipeC]
      refine (comp_pick (I := webR m n w rs (.dat (.list (ls.map .int))) s6) ⟨ss, rfl, hs⟩ ?_).mono ?_
      · rintro x hx c ⟨ss, rfl, hs⟩
        simp [setC, isOwn, wipeC]
        refine (take_ev hs (by omega) (by omega)).mono ?_
        rintro ⟨d, ss'⟩ ⟨r, e, h1, h2, hs'⟩
        simp at e
        subst e
        have : webR m n w rs (.dat (.list (ls.map .int))) s6 [C.own true ss', C.dat (PyData.int m), C.dat (PyData.int n), C.dat (PyData.int w), C.own false (List.map tupD rs), .dat (.list (ls.map .int)), s6, C.un, C.un] := ⟨ss', rfl, hs'⟩
        simp [this]
      · rintro es c ⟨h1, ss, rfl, hs⟩
        obtain ⟨os, rfl, h2⟩ := sub_map h1
        exact ⟨ss, rs, os, _, _, rfl, hs⟩
    rintro c ⟨ss, rs, os, s5, s6, rfl, hs⟩
    simp [rn_mComp, pairs_eq (n := n) (by omega), wipeC]
    refine (comp_pick (I := webS m n w rs os s5 s6 ss) rfl ?_).mono ?_
    · rintro x hx c rfl
      obtain ⟨p, hp, rfl⟩ := List.mem_map.mp hx
      simp [setC, isOwn, wipeC]
      refine in_rows fun b => in_ties fun b' => ?_
      have : webS m n w rs os s5 s6 ss [C.own true ss, C.dat (PyData.int m), C.dat (PyData.int n), C.dat (PyData.int w), C.own false (List.map tupD rs), s5, s6, .dat (.list (os.map tieD)), C.un] := rfl
      simp [this]
    · rintro es c ⟨h1, rfl⟩
      obtain ⟨ks, rfl, h2⟩ := sub_map h1
      exact ⟨ss, ks, _, _, _, _, rfl, hs, h2⟩
  rintro c ⟨ss, ks, s5, s6, s7, s8, rfl, hs, hk⟩
  simp [gSorted_ties]
  refine ⟨n, ks, ?_, Web.of (by omega) hk, hn.2, hs⟩
  rw [sort_rising ((pairsL_pw n).sublist hk)]
  rfl
end K01

set_option Elab.async false
set_option linter.all false
set_option maxRecDepth 100000
namespace K01
open PySem PySem.Spec PyProof.Rows L2 TW

def grI (n : Int) (xs : List D) (c : List C) : Prop := ∃ (ss : List D) (ks : List (Int × Int)) (s3 s4 s5 : C), c = [.own true ss, .dat (.int n), .own false (ks.map tieD), s3, s4, s5] ∧ St ss ∧ (∀ p ∈ ks, 0 ≤ p.1 ∧ p.1 < p.2 ∧ p.2 < n) ∧ ks.length + xs.length ≤ 12
theorem great_ev {ss : List D} (hs : St ss) : Ev (F__law_great_web ss []) fun p => ∃ n ks, p.1 = webD n ks ∧ Web n ks ∧ 8 ≤ n ∧ ks.length ≤ 12 ∧ St p.2 := by
  unfold F__law_great_web
  rw [ev_fnS]
  unfold b__law_great_web
  show Rn _ [.own true ss, .un, .un, .un, .un, .un] _
  refine seq_cut (fun c => ∃ n : Int, (8 ≤ n ∧ n ≤ 14) ∧ ∃ ss : List D, c = [.own true ss, .dat (.int n), .un, .un, .un, .un] ∧ St ss) ?_ ?_
  · simp [isOwn]
    refine (take_ev hs (by omega) (by omega)).mono ?_
    rintro ⟨d, ss'⟩ ⟨r, e, h1, h2, hs'⟩
    simp at e
    subst e
    simp
    exact ⟨8 + r, by omega, ss', ⟨rfl, rfl⟩, hs'⟩
  rintro c ⟨n, hn, ss, rfl, hs⟩
  refine seq_cut (fun c => c = [.own true ss, .dat (.int n), .own false [], .un, .un, .un]) ?_ ?_
  · simp
  rintro c rfl
  refine seq_cut (grI n []) ?_ ?_
  · simp [rn_mFor, isOwn]
    refine (take_ev hs (by omega) (by omega)).mono ?_
    rintro ⟨d, ss'⟩ ⟨r, e, h1, h2, hs'⟩
    simp at e
    subst e
    simp
    rw [gRg_int (rgOk_small (by omega) (by omega))]
    simp
    refine for_rule (I := grI n) ⟨ss', [], .un, .un, .un, rfl, hs', (fun _ h => nomatch h), by simp [rgD_length]; omega⟩ ?_ ?_
    · intro c hc
      simp
      exact hc
    · rintro x xs c ⟨ss, ks, s3, s4, s5, rfl, hs, hk, hl⟩
      rw [fName_ok, ev_ok]
      show Rn _ [.own true ss, .dat (.int n), .own false (ks.map tieD), .dat x, s4, s5] _
      refine seq_cut (fun c => ∃ a : Int, (0 ≤ a ∧ a < n) ∧ ∃ ss : List D, c = [.own true ss, .dat (.int n), .own false (ks.map tieD), .dat x, .dat (.int a), s5] ∧ St ss) ?_ ?_
      · simp [isOwn]
        refine (take_ev hs (by omega) (by omega)).mono ?_
        rintro ⟨d, ss'⟩ ⟨a, e, a1, a2, hs'⟩
        simp at e
        subst e
        simp
        exact ⟨a, ⟨a1, a2⟩, ss', ⟨rfl, rfl⟩, hs'⟩
      rintro c ⟨a, ⟨a1, a2⟩, ss', rfl, hs'⟩
      refine seq_cut (fun c => ∃ b : Int, (0 ≤ b ∧ b < n - 1) ∧ ∃ ss : List D, c = [.own true ss, .dat (.int n), .own false (ks.map tieD), .dat x, .dat (.int a), .dat (.int ((a + 1 + b) % n))] ∧ St ss) ?_ ?_
      · simp [isOwn]
        refine (take_ev hs' (by omega) (by omega)).mono ?_
        rintro ⟨d, ss'⟩ ⟨b, e, b1, b2, hs'⟩
        simp at e
        subst e
        simp
        rw [gMod_int (by omega)]
        simp
        exact ⟨b, ⟨b1, b2⟩, ss', ⟨rfl, rfl⟩, hs'⟩
      rintro c ⟨b, ⟨b1, b2⟩, ss2, rfl, hs2⟩
      have q1 := Int.emod_nonneg (a + 1 + b) (by omega : n ≠ 0)
      have q2 := Int.emod_lt_of_pos (a + 1 + b) (by omega : 0 < n)
      have q3 : (a + 1 + b) % n ≠ a := by
        intro h
        by_cases z : a + 1 + b < n
        · rw [Int.emod_eq_of_lt (by omega) z] at h; omega
        · have e : a + 1 + b = (a + 1 + b - n) + n := by omega
          rw [e, Int.add_emod_right, Int.emod_eq_of_lt (by omega) (by omega)] at h
          omega
      generalize (a + 1 + b) % n = o at q1 q2 q3
      simp at hl
      simp [isOwn]
      refine ⟨by omega, ss2, ks ++ [(min a o, max a o)], .dat x, .dat (.int a), .dat (.int o), ?_, hs2, fun p hp => ?_, by simp; omega⟩
      · simp [tieD]
      · rcases List.mem_append.mp hp with z | z
        · exact hk p z
        · obtain rfl := List.mem_singleton.mp z
          show 0 ≤ min a o ∧ min a o < max a o ∧ max a o < n
          omega
  rintro c ⟨ss, ks, s3, s4, s5, rfl, hs, hk, hl⟩
  simp at hl
  obtain ⟨ls, e1, e2, e3⟩ := setsort_ties (ks := ks) (d := .list (ks.map tieD)) rfl (by omega)
  simp [e1]
  refine ⟨n, ls, rfl, ⟨by omega, e2, fun p hp => hk p ((e3 p).mp hp)⟩, hn.1, ?_, hs⟩
  exact Nat.le_trans (nodup_le (pw_nodup e2) fun x hx => (e3 x).mp hx) hl
end K01

set_option Elab.async false
set_option linter.all false
set_option maxRecDepth 100000
namespace K01
open PySem PySem.Spec PyProof.Rows L2 TW

theorem is_whole_eq {d : D} (h : plainD d = true) : F_is_whole [d] = .ok (.bool (isI d)) := by
  apply Ev.eq
  unfold F_is_whole
  rw [ev_fnD]
  cases d <;> simp [b_is_whole, unfill, gIsi, h, isiD, tyN, isI]
theorem is_place_eq {n : Int} {d : D} (h : plainD d = true) : F_is_place [.int n, d] = .ok (.bool (placeB n d)) := by
  apply Ev.eq
  unfold F_is_place
  rw [ev_fnD]
  cases d <;> simp [b_is_place, unfill, is_whole_eq, h, isI, placeB]
  rename_i i
  by_cases h0 : 0 ≤ i <;> simp [h0]
theorem is_tie_eq {n : Int} {d : D} (h : noDict d = true) : F_is_tie [.int n, d] = .ok (.bool (tieB n d)) := by
  apply Ev.eq
  unfold F_is_tie
  rw [ev_fnD]
  have hp := plain_of h
  cases d with
  | tuple xs =>
    simp only [b_is_tie, unfill]
    simp [gIsi, hp, isiD, tyN]
    have hl : ((xs.length : Int) != 2) = decide (xs.length ≠ 2) := by
      rw [Bool.eq_iff_iff]
      simp
      omega
    match xs, h, hp with
    | [a, b], h, hp =>
      simp [noDict, noDictAll] at h
      simp [rn_mComp, wipeC]
      refine comp_map (g := fun d => .bool (placeB n d)) (fun x hx => ?_) ?_
      · have hx : noDict x = true := by
          rcases List.mem_cons.mp hx with z | z
          · rw [z]; exact h.1
          · rw [List.mem_singleton.mp z]; exact h.2
        simp [setC, is_place_eq (plain_of hx), wipeC]
      · rw [gAll_map]
        simp
        cases a <;> cases b <;> simp [placeB, tieB]
        rename_i i j
        by_cases h1 : 0 ≤ i <;> by_cases h2 : i < n <;> by_cases h3 : 0 ≤ j <;> by_cases h4 : j < n <;> simp [h1, h2, h3, h4] <;> omega
    | [], _, _ => simp [tieB]
    | [a], _, _ => simp [tieB]
    | a :: b :: c :: r, _, _ =>
      have e : (2 : Int) ≠ (r.length : Int) + 1 + 1 + 1 := by omega
      simp [tieB]
      intro z
      omega
  | _ => simp [b_is_tie, unfill, gIsi, hp, isiD, tyN, tieB]
theorem rises_eq (ks : List (Int × Int)) : F_rises [.tuple (ks.map tieD)] = .ok (.bool (risB ks)) := by
  apply Ev.eq
  unfold F_rises
  rw [ev_fnD]
  simp only [b_rises, unfill]
  simp [rn_mComp, wipeC, cut_one]
  have e : List.map (fun p => PyData.tuple [p.fst, p.snd]) ((ks.map tieD).zip ((ks.map tieD).drop 1)) = (ks.zip (ks.drop 1)).map fun z => .tuple [tieD z.1, tieD z.2] := by
    rw [← List.map_drop, List.zip_map, List.map_map]
    rfl
  simp only [List.drop_one, List.map_tail] at e ⊢
  rw [e]
  refine comp_map (g := fun d => match d with | .tuple [a, b] => .bool (decide (ltP (unTie a) (unTie b))) | _ => .none) (fun x hx => ?_) ?_
  · obtain ⟨z, hz, rfl⟩ := List.mem_map.mp hx
    simp [setC, wipeC, oLt_tie]
    first | rfl | exact decide_eq_decide.mpr Iff.rfl
  · rw [List.map_map]
    have := ris_zip ks
    simp only [List.drop_one] at this
    rw [← this]
    show Ev (gAll (.list ((ks.zip ks.tail).map fun z => .bool (decide (ltP (unTie (tieD z.1)) (unTie (tieD z.2))))))) _
    rw [gAll_map (fun z : (Int × Int) × (Int × Int) => decide (ltP (unTie (tieD z.1)) (unTie (tieD z.2))))]
    exact ev_ok.mpr rfl
end K01

set_option Elab.async false
set_option linter.all false
set_option maxRecDepth 100000
namespace K01
open PySem PySem.Spec PyProof.Rows L2 TW

theorem noDictAll_mem : ∀ {ts : List D}, noDictAll ts = true → ∀ t ∈ ts, noDict t = true
  | [], _, _, h => (nomatch h)
  | x :: ts, e, t, h => by
    simp only [noDictAll, Bool.and_eq_true] at e
    rcases List.mem_cons.mp h with z | z
    · rw [z]; exact e.1
    · exact noDictAll_mem e.2 t z
theorem webB_not {x y : D} (h : isI x = false) : webB (.tuple [x, y]) = false := by
  cases x <;> simp [isI, webB] at *
theorem webB_far {n : Int} {y : D} (h : ¬ (0 ≤ n ∧ n ≤ 14)) : webB (.tuple [.int n, y]) = false := by
  cases y <;> simp [webB]
  intro a b
  exact absurd ⟨a, b⟩ h
theorem seq_rt {a b : MS} {cs : List C} {Q : Fl → List C → Prop} {d : D} (h : Rn a cs fun f c => f = .rt d ∧ Q (.rt d) c) : Rn (mSeq a b) cs Q := by
  rw [rn_mSeq]
  exact h.mono fun f c ⟨e, q⟩ => by subst e; exact q
theorem is_web_eq {d : D} (h : plainD d = true) (h2 : ∀ x y, d = .tuple [x, y] → noDict x = true ∧ noDict y = true) : F_is_web [d] = .ok (.bool (webB d)) := by
  apply Ev.eq
  unfold F_is_web
  rw [ev_fnD]
  cases d with
  | tuple xs =>
    simp only [b_is_web, unfill]
    match xs, h, h2 with
    | [], h, h2 => simp [gIsi, h, isiD, tyN, webB]
    | [a], h, h2 => simp [gIsi, h, isiD, tyN, webB]
    | a :: b :: c :: r, h, h2 =>
      simp [gIsi, h, isiD, tyN, webB]
      intro z
      omega
    | [x, y], h, h2 =>
      obtain ⟨hx, hy⟩ := h2 x y rfl
      simp [gIsi, h, isiD, tyN, is_whole_eq (plain_of hx)]
      by_cases hi : isI x = true
      rotate_left
      · simp [hi]
        exact webB_not (by simpa using hi)
      · obtain ⟨n, rfl⟩ : ∃ n, x = .int n := by cases x <;> simp [isI] at hi; exact ⟨_, rfl⟩
        simp [hi]
        by_cases h0 : 0 ≤ n
        rotate_left
        · simp [h0]
          exact webB_far (fun z => h0 z.1)
        simp [h0]
        by_cases h14 : n ≤ 14
        rotate_left
        · simp [h14]
          exact webB_far (fun z => h14 z.2)
        simp [h14, plain_of hy]
        cases y with
        | tuple ts =>
          simp [rn_mComp, wipeC]
          refine comp_map (g := fun d => .bool (tieB n d)) (fun x hx => ?_) ?_
          · have hx : noDict x = true := noDictAll_mem (by simpa [noDict] using hy) x hx
            simp [setC, is_tie_eq hx, wipeC]
          · rw [gAll_map]
            by_cases ha : ts.all (tieB n) = true
            · obtain ⟨ks, rfl, _⟩ := ties_inv ha
              have hv : webB (.tuple [.int n, .tuple (ks.map tieD)]) = risB ks := by
                have z : webB (.tuple [.int n, .tuple (ks.map tieD)]) = (decide (0 ≤ n) && decide (n ≤ 14) && ((ks.map tieD).all (tieB n) && risB ((ks.map tieD).map unTie))) := rfl
                rw [z, ha, List.map_map]
                simp [h0, h14, Function.comp_def]
              simp only [ev_ok, asB_bool, ha, if_true]
              simp [rises_eq, hv]
            · simp [ha, webB, h0, h14]
        | _ => simp [webB]
  | _ =>
    unfold b_is_web
    refine seq_rt (d := .bool false) ?_
    simp [unfill, gIsi, h, isiD, tyN, webB]
theorem whole_eq {d : D} (h : plainD d = true) : F__law_whole [d] = .ok (.bool (isI d)) := by
  apply Ev.eq
  unfold F__law_whole
  rw [ev_fnD]
  cases d <;> simp [b__law_whole, unfill, gIsi, h, isiD, tyN, isI]
def tieBody : MS := (mSeq (mIfS (mOr (mNot (mTest (mOp1 (gIsi "tuple") (vVar 1)))) (mOr (mTest (mOp2 gNe (mOp1 gLen (vVar 1)) (mC (.int 2)))) (mOr (mNot (mTest (mCall 1 F__law_whole (mCons (mOp2 gIx (mVar 1) (mC (.int 0))) mNil)))) (mNot (mTest (mCall 1 F__law_whole (mCons (mOp2 gIx (mVar 1) (mC (.int 1))) mNil))))))) (mRet (mC (.bool false))) mNx) (mIfS (mNot (mTest (mChain3 oLe oLt oLt (mC (.int 0)) (mOp2 gIx (mVar 1) (mC (.int 0))) (mOp2 gIx (mVar 1) (mC (.int 1))) (mOp2 gIx (mVar 0) (mC (.int 0)))))) (mRet (mC (.bool false))) mNx))
theorem body_tie {n : Int} {y x : D} {Q : Fl → List C → Prop} (h : noDict x = true) (q1 : tieB n x = true → Q .nx [.dat (.tuple [.int n, y]), .dat x]) (q2 : tieB n x = false → Q (.rt (.bool false)) [.dat (.tuple [.int n, y]), .dat x]) :
    Rn tieBody [.dat (.tuple [.int n, y]), .dat x] Q := by
  have hp := plain_of h
  unfold tieBody
  cases x with
  | tuple xs =>
    match xs, h, hp, q1, q2 with
    | [], h, hp, q1, q2 =>
      refine seq_rt (d := .bool false) ?_
      simp [gIsi, hp, isiD, tyN]
      exact q2 rfl
    | [a], h, hp, q1, q2 =>
      refine seq_rt (d := .bool false) ?_
      simp [gIsi, hp, isiD, tyN]
      exact q2 (by simp [tieB])
    | a :: b :: c :: r, h, hp, q1, q2 =>
      refine seq_rt (d := .bool false) ?_
      have e : ¬ ((r.length : Int) + 1 + 1 + 1 = 2) := by omega
      simp [gIsi, hp, isiD, tyN, e]
      exact q2 (by simp [tieB])
    | [a, b], h, hp, q1, q2 =>
      simp [noDict, noDictAll] at h
      by_cases ha : isI a = true
      rotate_left
      · refine seq_rt (d := .bool false) ?_
        simp [gIsi, hp, isiD, tyN, whole_eq (plain_of h.1), ha]
        exact q2 (by cases a <;> simp [isI] at ha <;> rfl)
      by_cases hb : isI b = true
      rotate_left
      · refine seq_rt (d := .bool false) ?_
        simp [gIsi, hp, isiD, tyN, whole_eq (plain_of h.1), whole_eq (plain_of h.2), ha, hb]
        exact q2 (by cases a <;> simp [isI] at ha; cases b <;> simp [isI] at hb <;> rfl)
      obtain ⟨i, rfl⟩ : ∃ n, a = .int n := by cases a <;> simp [isI] at ha; exact ⟨_, rfl⟩
      obtain ⟨j, rfl⟩ : ∃ n, b = .int n := by cases b <;> simp [isI] at hb; exact ⟨_, rfl⟩
      refine seq_cut (fun c => c = [.dat (.tuple [.int n, y]), .dat (.tuple [.int i, .int j])]) ?_ ?_
      · simp [gIsi, hp, isiD, tyN, whole_eq (plain_of h.1), whole_eq (plain_of h.2), ha, hb]
      rintro c rfl
      have e : tieB n (.tuple [.int i, .int j]) = decide (0 ≤ i ∧ i < j ∧ j < n) := rfl
      rw [e] at q1 q2
      by_cases h1 : 0 ≤ i <;> by_cases h2 : i < j <;> by_cases h3 : j < n <;> simp [h1, h2, h3] at q1 q2 ⊢ <;> assumption
  | _ =>
    refine seq_rt (d := .bool false) ?_
    simp [gIsi, hp, isiD, tyN]
    exact q2 rfl
theorem for_ties {n : Int} {y : D} {Q : Fl → List C → Prop} : ∀ (ts : List D) (s1 : C), noDictAll ts = true → (ts.all (tieB n) = true → ∀ s1, Q .nx [.dat (.tuple [.int n, y]), s1]) → (ts.all (tieB n) = false → ∀ s1, Q (.rt (.bool false)) [.dat (.tuple [.int n, y]), s1]) →
    Rn (forGo [1] fName tieBody ts) [.dat (.tuple [.int n, y]), s1] Q
  | [], s1, _, q1, _ => rn_for_nil.mpr (q1 rfl s1)
  | t :: ts, s1, h, q1, q2 => by
    simp only [noDictAll, Bool.and_eq_true] at h
    refine rn_for_cons.mpr ?_
    rw [fName_ok, ev_ok]
    refine body_tie h.1 (fun e => ?_) fun e => ?_
    · exact for_ties ts _ h.2 (fun z => q1 (by rw [List.all_cons, e, z]; rfl)) fun z => q2 (by rw [List.all_cons, e, z]; rfl)
    · exact q2 (by rw [List.all_cons, e]; rfl) _
theorem law_is_web_eq {d : D} (h : plainD d = true) (h2 : ∀ x y, d = .tuple [x, y] → noDict x = true ∧ noDict y = true) (h3 : ∀ n ts, d = .tuple [n, .tuple ts] → ts.length < 64) : F__law_is_web [d] = .ok (.bool (webB d)) := by
  apply Ev.eq
  unfold F__law_is_web
  rw [ev_fnD]
  unfold b__law_is_web
  cases d with
  | tuple xs =>
    match xs, h, h2, h3 with
    | [], h, h2, h3 =>
      refine seq_rt (d := .bool false) ?_
      simp [unfill, gIsi, h, isiD, tyN, webB]
    | [a], h, h2, h3 =>
      refine seq_rt (d := .bool false) ?_
      simp [unfill, gIsi, h, isiD, tyN, webB]
    | a :: b :: c :: r, h, h2, h3 =>
      refine seq_rt (d := .bool false) ?_
      have e : ¬ ((r.length : Int) + 1 + 1 + 1 = 2) := by omega
      simp [unfill, gIsi, h, isiD, tyN, webB, e]
    | [x, y], h, h2, h3 =>
      obtain ⟨hx, hy⟩ := h2 x y rfl
      by_cases hi : isI x = true
      rotate_left
      · refine seq_rt (d := .bool false) ?_
        simp [unfill, gIsi, h, isiD, tyN, whole_eq (plain_of hx), hi]
        exact webB_not (by simpa using hi)
      obtain ⟨n, rfl⟩ : ∃ n, x = .int n := by cases x <;> simp [isI] at hi; exact ⟨_, rfl⟩
      by_cases hb : 0 ≤ n ∧ n ≤ 14
      rotate_left
      · refine seq_rt (d := .bool false) ?_
        have e := webB_far (y := y) hb
        by_cases h0 : 0 ≤ n
        · have h14 : ¬ n ≤ 14 := fun z => hb ⟨h0, z⟩
          simp [unfill, gIsi, h, isiD, tyN, whole_eq (plain_of hx), hi, h0, h14, e]
        · simp [unfill, gIsi, h, isiD, tyN, whole_eq (plain_of hx), hi, h0, e]
      refine seq_cut (fun c => c = [.dat (.tuple [.int n, y]), .un]) ?_ ?_
      · simp [unfill, gIsi, h, isiD, tyN, whole_eq (plain_of hx), hi, hb.1, hb.2]
      rintro c rfl
      cases y with
      | tuple ts =>
        refine seq_cut (fun c => c = [.dat (.tuple [.int n, .tuple ts]), .un]) ?_ ?_
        · simp [gIsi, plain_of hy, isiD, tyN]
        rintro c rfl
        have few := h3 _ ts rfl
        have hn : noDictAll ts = true := by simpa [noDict] using hy
        rw [rn_mSeq, rn_mFor]
        simp only [rn_mSeq1, rn_mOp2, rn_mVar, onVar_dat, rn_mC, List.getElem?_cons_zero, gIx_t1, ev_ok, gSeq_tuple]
        refine for_ties (n := n) ts .un hn (fun ha s1 => ?_) fun ha s1 => ?_
        · obtain ⟨ks, rfl, _⟩ := ties_inv ha
          have hv : webB (.tuple [.int n, .tuple (ks.map tieD)]) = risB ks := by
            have z : webB (.tuple [.int n, .tuple (ks.map tieD)]) = (decide (0 ≤ n) && decide (n ≤ 14) && ((ks.map tieD).all (tieB n) && risB ((ks.map tieD).map unTie))) := rfl
            rw [z, ha, List.map_map]
            simp [hb.1, hb.2, Function.comp_def]
          obtain ⟨ls, e1, e2, e3⟩ := setsort_ties (ks := ks) (d := .tuple (ks.map tieD)) rfl (by simpa using few)
          simp [e1]
          rw [hv, ← rising_iff e2 e3]
          unfold gEq
          rw [ties_tup, ties_tup, shaped_rows, shaped_rows]
          simp only [Bool.and_self, if_true, ev_ok, PyData.eqv, eqv_rows]
          refine congrArg _ (decide_eq_decide.mpr ⟨fun z => ?_, fun z => by rw [z]⟩)
          exact List.map_inj_right (fun _ _ h => rowP_inj h) |>.mp z
        · have e : webB (.tuple [.int n, .tuple ts]) = false := by
            have z : webB (.tuple [.int n, .tuple ts]) = (decide (0 ≤ n) && decide (n ≤ 14) && (ts.all (tieB n) && risB (ts.map unTie))) := rfl
            rw [z, ha]
            simp
          rw [e]
          rfl
      | _ =>
        refine seq_rt (d := .bool false) ?_
        simp [gIsi, plain_of hy, isiD, tyN, webB]
  | _ =>
    refine seq_rt (d := .bool false) ?_
    simp [unfill, gIsi, h, isiD, tyN, webB]
end K01

set_option Elab.async false
set_option linter.all false
set_option maxRecDepth 100000
namespace K01
open PySem PySem.Spec PyProof.Rows L2 TW

theorem same_bool (a b : Bool) : F__law_same 12 [.bool a, .bool b] = .ok (.bool (a == b)) := by
  apply Ev.eq
  show Ev (fnD 4 (b__law_same (F__law_same 11)) [.bool a, .bool b]) _
  rw [ev_fnD]
  unfold b__law_same
  refine seq_cut (fun c => c = [.dat (.bool a), .dat (.bool b), .un, .un]) ?_ ?_
  · simp [unfill, gIsi2, plainD, isiD, tyN]
  rintro c rfl
  simp [gIsi, plainD, isiD, tyN]
/-- fit to be asked about -/
def okB (d : D) : Bool := plainD d && match d with
  | .tuple [x, y] => noDict x && noDict y && match y with
    | .tuple ts => decide (ts.length < 64)
    | _ => true
  | _ => true
theorem ok_both {d : D} (h : okB d = true) : F_is_web [d] = .ok (.bool (webB d)) ∧ F__law_is_web [d] = .ok (.bool (webB d)) := by
  unfold okB at h
  rw [Bool.and_eq_true] at h
  obtain ⟨h1, h2⟩ := h
  have a : ∀ x y, d = .tuple [x, y] → noDict x = true ∧ noDict y = true := fun x y e => by
    subst e
    simp only [Bool.and_eq_true] at h2
    exact h2.1
  have b : ∀ n ts, d = .tuple [n, .tuple ts] → ts.length < 64 := fun n ts e => by
    subst e
    simp only [Bool.and_eq_true, decide_eq_true_eq] at h2
    exact h2.2
  exact ⟨is_web_eq h1 a, law_is_web_eq h1 a b⟩
theorem bad_ev {ss : List D} (hs : St ss) : Ev (F__law_bad_web ss []) fun p => okB p.1 = true ∧ St p.2 := by
  unfold F__law_bad_web
  rw [ev_fnS]
  unfold b__law_bad_web
  show Rn _ [.own true ss, .un] _
  refine seq_cut (fun c => ∃ L : List D, c = [.own true ss, .dat (.list L)] ∧ L.all okB = true ∧ L.length = 12) ⟨_, _, rfl, rfl, _, rfl, rfl, rfl⟩ ?_
  rintro c ⟨L1, rfl, h1, l1⟩
  refine seq_cut (fun c => ∃ L : List D, c = [.own true ss, .dat (.list L)] ∧ L.all okB = true ∧ L.length = 17) ?_ ?_
  · rw [rn_mSet, rn_mOp2, rn_mVar]
    refine ⟨_, _, rfl, ?_⟩
    show Ev (gAdd (.list L1) (.list _)) _
    rw [gCat_list (by rw [l1]; decide)]
    refine ev_ok.mpr ⟨rfl, _, rfl, ?_, ?_⟩
    · rw [List.all_append, h1]; rfl
    · rw [List.length_append, l1]; rfl
  rintro c ⟨L2, rfl, h2, l2⟩
  refine seq_cut (fun c => ∃ L : List D, c = [.own true ss, .dat (.list L)] ∧ L.all okB = true ∧ L.length = 25) ?_ ?_
  · rw [rn_mSet, rn_mOp2, rn_mVar]
    refine ⟨_, _, rfl, ?_⟩
    show Ev (gAdd (.list L2) (.list _)) _
    rw [gCat_list (by rw [l2]; decide)]
    refine ev_ok.mpr ⟨rfl, _, rfl, ?_, ?_⟩
    · rw [List.all_append, h2]; rfl
    · rw [List.length_append, l2]; rfl
  rintro c ⟨L, rfl, h3, l3⟩
  simp [isOwn]
  refine (take_ev hs (by omega) (by omega)).mono ?_
  rintro ⟨d, ss'⟩ ⟨r, e, r1, r2, hs'⟩
  simp at e
  subst e
  refine ix_ev r1 (by rw [l3]; exact r2) fun d hd => ?_
  exact ⟨List.all_eq_true.mp h3 d hd, hs'⟩
end K01

set_option Elab.async false
set_option linter.all false
set_option maxRecDepth 100000
namespace K01
open PySem PySem.Spec PyProof.Rows L2 TW

theorem sIx_lo (n d k : Nat) (h : k ≤ n) : HT.sIx n d (some (k : Int)) = k := by rw [HT.sIx_nat]; omega
theorem cut_to {ds : List D} {k : Nat} (h : k ≤ ds.length) : TW.cutD ds none (some (k : Int)) = ds.take k := by
  unfold TW.cutD
  rw [HT.sIx_none, sIx_lo _ _ _ h, List.drop_zero, Nat.sub_zero]
theorem cut_from {ds : List D} {k : Nat} : TW.cutD ds (some (k : Int)) none = ds.drop k := by
  unfold TW.cutD
  rw [HT.sIx_none, HT.sIx_nat]
  by_cases h : k ≤ ds.length
  · rw [Nat.min_eq_left h]
    exact List.take_of_length_le (by rw [List.length_drop]; exact Nat.le_refl _)
  · rw [Nat.min_eq_right (by omega), List.drop_eq_nil_of_le (show ds.length ≤ k by omega), Nat.sub_self]
    rfl
theorem cut_mid {ds : List D} {k : Nat} (h : k ≤ ds.length) : (TW.cutD ds (some (k : Int)) (some ((k : Int) + 1))).length ≤ 1 := by
  have e : (k : Int) + 1 = ((k + 1 : Nat) : Int) := by omega
  rw [e]
  unfold TW.cutD
  rw [HT.sIx_nat, HT.sIx_nat, List.length_take]
  omega
theorem noDictAll_append : ∀ {a b : List D}, noDictAll a = true → noDictAll b = true → noDictAll (a ++ b) = true
  | [], _, _, h => h
  | x :: a, b, h, h' => by
    simp only [noDictAll, Bool.and_eq_true, List.cons_append] at h ⊢
    exact ⟨h.1, noDictAll_append h.2 h'⟩
theorem noDictAll_take : ∀ {a : List D} (k : Nat), noDictAll a = true → noDictAll (a.take k) = true
  | [], k, _ => by simp [noDictAll]
  | x :: a, 0, _ => by simp [noDictAll]
  | x :: a, k + 1, h => by
    simp only [noDictAll, Bool.and_eq_true, List.take_succ_cons] at h ⊢
    exact ⟨h.1, noDictAll_take k h.2⟩
theorem noDictAll_drop : ∀ {a : List D} (k : Nat), noDictAll a = true → noDictAll (a.drop k) = true
  | [], k, _ => by simp [noDictAll]
  | x :: a, 0, h => h
  | x :: a, k + 1, h => by
    simp only [noDictAll, Bool.and_eq_true, List.drop_succ_cons] at h ⊢
    exact noDictAll_drop k h.2
theorem noDictAll_cut {a : List D} {lo hi : Option Int} (h : noDictAll a = true) : noDictAll (TW.cutD a lo hi) = true := noDictAll_take _ (noDictAll_drop _ h)
theorem noDictAll_of_mem : ∀ {ts : List D}, (∀ t ∈ ts, noDict t = true) → noDictAll ts = true
  | [], _ => by simp [noDictAll]
  | x :: ts, h => by
    simp only [noDictAll, Bool.and_eq_true]
    exact ⟨h x List.mem_cons_self, noDictAll_of_mem fun t ht => h t (List.mem_cons_of_mem _ ht)⟩
theorem cat_ev {ds es : List D} {Q : D → Prop} (h : ds.length + es.length ≤ 16777216) (q : Q (.tuple (ds ++ es))) : Ev (gAdd (.tuple ds) (.tuple es)) Q := by rw [gCat_tuple h]; exact ev_ok.mpr q
theorem catl_ev {ds es : List D} {Q : D → Prop} (h : ds.length + es.length ≤ 16777216) (q : Q (.list (ds ++ es))) : Ev (gAdd (.list ds) (.list es)) Q := by rw [gCat_list h]; exact ev_ok.mpr q
theorem ok_web {x : D} {ts : List D} (h1 : noDict x = true) (h2 : noDictAll ts = true) (h3 : ts.length < 64) : okB (.tuple [x, .tuple ts]) = true := by
  simp [okB, plainD, noDict, h1, h2, h3]
def bentL (n : Int) (T : List D) (k a b : Int) (o : D) (ss : List D) (m : Nat) (c : List C) : Prop := ∃ L : List D, c = [.own true ss, .dat (.tuple [.int n, .tuple T]), .dat (.int n), .dat (.tuple T), .dat (.int k), .dat (.int a), .dat (.int b), .dat o, .dat (.list L)] ∧ (∀ d ∈ L, okB d = true) ∧ L.length = m
theorem bent_ev {ss : List D} {n : Int} {T : List D} (hs : St ss) (hn : 0 ≤ n ∧ n ≤ 14) (hT : noDictAll T = true) (hl : T.length ≤ 60) : Ev (F__law_bent ss [.tuple [.int n, .tuple T]]) fun p => okB p.1 = true ∧ St p.2 := by
  unfold F__law_bent
  rw [ev_fnS]
  unfold b__law_bent
  show Rn _ [.own true ss, .dat (.tuple [.int n, .tuple T]), .un, .un, .un, .un, .un, .un, .un] _
  refine seq_cut (fun c => c = [.own true ss, .dat (.tuple [.int n, .tuple T]), .dat (.int n), .dat (.tuple T), .un, .un, .un, .un, .un]) ?_ ?_
  · simp [setC]
  rintro c rfl
  refine seq_cut (fun c => ∃ k : Int, (0 ≤ k ∧ k ≤ T.length) ∧ ∃ ss : List D, c = [.own true ss, .dat (.tuple [.int n, .tuple T]), .dat (.int n), .dat (.tuple T), .dat (.int k), .un, .un, .un, .un] ∧ St ss) ?_ ?_
  · simp [isOwn]
    refine (take_ev hs (by omega) (by omega)).mono ?_
    rintro ⟨d, ss'⟩ ⟨r, e, r1, r2, hs'⟩
    simp at e
    subst e
    simp
    exact ⟨r, by omega, ss', ⟨rfl, rfl⟩, hs'⟩
  rintro c ⟨k, hk, ss, rfl, hs⟩
  refine seq_cut (fun c => ∃ a b : Int, ∃ ss : List D, c = [.own true ss, .dat (.tuple [.int n, .tuple T]), .dat (.int n), .dat (.tuple T), .dat (.int k), .dat (.int a), .dat (.int b), .un, .un] ∧ St ss) ?_ ?_
  · simp [isOwn]
    refine (take_ev hs (by omega) (by omega)).mono ?_
    rintro ⟨d, ss'⟩ ⟨a, e, r1, r2, hs'⟩
    simp at e
    subst e
    simp
    refine (take_ev hs' (by omega) (by omega)).mono ?_
    rintro ⟨d, ss2⟩ ⟨b, e, r1, r2, hs2⟩
    simp at e
    subst e
    simp
    exact ⟨a, b, ss2, ⟨rfl, rfl, rfl⟩, hs2⟩
  rintro c ⟨a, b, ss, rfl, hs⟩
  refine seq_cut (fun c => ∃ L : List D, c = [.own true ss, .dat (.tuple [.int n, .tuple T]), .dat (.int n), .dat (.tuple T), .dat (.int k), .dat (.int a), .dat (.int b), .dat (.list L), .un] ∧ L.all noDict = true ∧ L.length = 13) ⟨_, _, rfl, rfl, _, rfl, rfl, rfl⟩ ?_
  rintro c ⟨L, rfl, hL, lL⟩
  refine seq_cut (fun c => ∃ o : D, noDict o = true ∧ ∃ ss : List D, c = [.own true ss, .dat (.tuple [.int n, .tuple T]), .dat (.int n), .dat (.tuple T), .dat (.int k), .dat (.int a), .dat (.int b), .dat o, .un] ∧ St ss) ?_ ?_
  · simp [isOwn]
    refine (take_ev hs (by omega) (by omega)).mono ?_
    rintro ⟨d, ss'⟩ ⟨r, e, r1, r2, hs'⟩
    simp at e
    subst e
    refine ix_ev r1 (by rw [lL]; exact r2) fun d hd => ?_
    exact ⟨d, List.all_eq_true.mp hL d hd, ss', by simp, hs'⟩
  rintro c ⟨o, ho, ss, rfl, hs⟩
  obtain ⟨j, rfl⟩ : ∃ j : Nat, k = (j : Int) := ⟨k.toNat, by omega⟩
  have hj : j ≤ T.length := by omega
  have ej : (j : Int) + 1 = ((j + 1 : Nat) : Int) := by omega
  have tk := noDictAll_take j hT
  have dr := noDictAll_drop j hT
  have dr1 := noDictAll_drop (j + 1) hT
  have ltk : (T.take j).length = j := by rw [List.length_take]; omega
  have ldr : (T.drop j).length = T.length - j := List.length_drop
  have ldr1 : (T.drop (j + 1)).length = T.length - (j + 1) := List.length_drop
  have oo : noDictAll [o] = true := by simp [noDictAll, ho]
  refine seq_cut (bentL n T j a b o ss 3) ?_ ?_
  · simp
    rw [ej, cut_to hj, cut_from, cut_from]
    refine cat_ev (by omega) ?_
    refine cat_ev (by simp; omega) ?_
    refine cat_ev (by simp; omega) ?_
    refine ⟨_, rfl, ?_, rfl⟩
    intro d hd
    simp only [List.mem_cons, List.not_mem_nil, or_false] at hd
    rcases hd with rfl | rfl | rfl
    · exact ok_web rfl (noDictAll_append tk dr1) (by simp; omega)
    · exact ok_web rfl (noDictAll_append (noDictAll_append tk oo) dr) (by simp; omega)
    · exact ok_web rfl hT (by omega)
  rintro c ⟨L1, rfl, h1, l1⟩
  refine seq_cut (bentL n T j a b o ss 5) ?_ ?_
  · have lm := cut_mid hj
    have ym := noDictAll_cut (lo := some (j : Int)) (hi := some ((j : Int) + 1)) hT
    simp
    generalize TW.cutD T (some (j : Int)) (some ((j : Int) + 1)) = mid at lm ym
    rw [ej, cut_to hj, cut_from, cut_from]
    refine cat_ev (by simp; omega) ?_
    refine cat_ev (by simp; omega) ?_
    refine cat_ev (by simp; omega) ?_
    refine cat_ev (by simp; omega) ?_
    refine catl_ev (by rw [l1]; simp) ⟨_, rfl, ?_, by simp [l1]⟩
    intro d hd
    simp only [List.mem_append, List.mem_cons, List.not_mem_nil, or_false] at hd
    rcases hd with hd | rfl | rfl
    · exact h1 d hd
    · exact ok_web rfl (noDictAll_append (noDictAll_append tk oo) dr1) (by simp; omega)
    · exact ok_web rfl (noDictAll_append (noDictAll_append tk ym) dr) (by simp; omega)
  rintro c ⟨L2, rfl, h2, l2⟩
  refine seq_cut (bentL n T j a b o ss 11) ?_ ?_
  · simp
    refine catl_ev (by rw [l2]; simp) ⟨_, rfl, ?_, by simp [l2]⟩
    intro d hd
    simp only [List.mem_append, List.mem_cons, List.not_mem_nil, or_false] at hd
    rcases hd with hd | rfl | rfl | rfl | rfl | rfl | rfl
    · exact h2 d hd
    · refine ok_web rfl (noDictAll_of_mem fun t ht => ?_) (by simp; omega)
      exact noDictAll_mem hT t (List.mem_reverse.mp ht)
    · simp [okB, plainD, noDict, hT]
    · simp [okB, plainD]
    · exact ok_web rfl hT (by omega)
    · simp [okB, plainD]
    · simp [okB, plainD, noDict, hT]
  rintro c ⟨L3, rfl, h3, l3⟩
  refine seq_cut (bentL n T j a b o ss 15) ?_ ?_
  · have es : gStr (.int n) = .ok (.str (toString n)) := by
      have h : decide (-1000000 < n ∧ n < 1000000) = true := by rw [decide_eq_true_eq]; omega
      simp only [gStr, h, if_true]
    simp [es]
    refine catl_ev (by rw [l3]; simp) ⟨_, rfl, ?_, by simp [l3]⟩
    intro d hd
    simp only [List.mem_append, List.mem_cons, List.not_mem_nil, or_false] at hd
    rcases hd with hd | rfl | rfl | rfl | rfl
    · exact h3 d hd
    · simp [okB, plainD]
    · exact ok_web rfl hT (by omega)
    · exact ok_web (by simp [noDict]) hT (by omega)
    · exact ok_web rfl hT (by omega)
  rintro c ⟨L, rfl, h4, l4⟩
  simp [isOwn]
  refine (take_ev hs (by omega) (by omega)).mono ?_
  rintro ⟨d, ss'⟩ ⟨r, e, r1, r2, hs'⟩
  simp at e
  subst e
  exact ix_ev r1 (by rw [l4]; exact r2) fun d hd => ⟨h4 d hd, hs'⟩
end K01

set_option Elab.async false
set_option linter.all false
set_option maxRecDepth 100000
namespace K01
open PySem PySem.Spec PyProof.Rows L2 TW

theorem ties_noDict (ks : List (Int × Int)) : noDictAll (ks.map tieD) = true := noDictAll_of_mem fun t ht => by
  obtain ⟨p, _, rfl⟩ := List.mem_map.mp ht
  simp [tieD, noDict, noDictAll]
theorem webB_web {n : Int} {ks : List (Int × Int)} (w : Web n ks) : webB (webD n ks) = true := by
  have z : webB (webD n ks) = (decide (0 ≤ n) && decide (n ≤ 14) && ((ks.map tieD).all (tieB n) && risB ((ks.map tieD).map unTie))) := rfl
  rw [z, List.map_map]
  have a : (ks.map tieD).all (tieB n) = true := by
    rw [List.all_map, List.all_eq_true]
    intro p hp
    simp only [Function.comp, tieB_tieD, decide_eq_true_eq]
    exact w.ties p hp
  rw [a]
  simp [w.many.1, w.many.2, Function.comp_def, risB_iff.mpr w.pw]
theorem is_web_web {n : Int} {ks : List (Int × Int)} (w : Web n ks) : F_is_web [webD n ks] = .ok (.bool true) := by
  rw [is_web_eq rfl (fun x y e => ?_), webB_web w]
  unfold webD at e
  injection e with e
  injection e with e1 e
  injection e with e2 _
  subst e1 e2
  exact ⟨rfl, by simp [noDict, ties_noDict]⟩
theorem small_len {n : Int} {ks : List (Int × Int)} (w : Web n ks) (h : n ≤ 6) : ks.length ≤ 15 := by
  have e : (pairsL 6).length = 15 := by decide +kernel
  rw [← e]
  exact nodup_le (pw_nodup w.pw) fun x hx => pairsL_mem.mpr (by have := w.ties x hx; omega)
def lawI (ns : List Int) (xs : List D) (c : List C) : Prop := ∃ (as : List Int) (s1 s2 s3 s4 s5 : C), xs = as.map .int ∧ (∀ a ∈ as, 0 ≤ a) ∧ c = [.dat (scrD ns), s1, s2, s3, s4, s5]
def lawW (ns : List Int) (xs : List D) (c : List C) : Prop := ∃ (ss : List D) (s1 s3 s4 s5 : C), c = [.dat (scrD ns), s1, .own false ss, s3, s4, s5] ∧ St ss ∧ ∀ x ∈ xs, ∃ n ks, x = webD n ks ∧ Web n ks ∧ ks.length ≤ 60
def lawT (ns : List Int) (xs : List D) (c : List C) : Prop := ∃ (ss : List D) (s1 s3 s4 s5 : C), c = [.dat (scrD ns), s1, .own false ss, s3, s4, s5] ∧ St ss ∧ ∀ x ∈ xs, okB x = true
def lawS (ns : List Int) (n : Int) (ks : List (Int × Int)) (c : List C) : Prop := ∃ (ss : List D) (s1 s4 : C), c = [.dat (scrD ns), s1, .own false ss, .dat (webD n ks), s4, .un] ∧ St ss
def lawK (ns : List Int) (c : List C) : Prop := ∃ (ss : List D) (s1 s3 s4 s5 : C), c = [.dat (scrD ns), s1, .own false ss, s3, s4, s5] ∧ St ss
theorem law_true (ns : List Int) (hn : ns.length ≤ 63) : F_law [scrD ns] = .ok (.bool true) := by
  apply Ev.eq
  unfold F_law
  rw [ev_fnD]
  unfold b_law
  show Rn _ [.dat (scrD ns), .un, .un, .un, .un, .un] _
  refine seq_cut (lawI ns []) ?_ ?_
  · rw [rn_mFor]
    simp
    rw [gRg_int (rgOk_small (by omega) (by omega)), rgD_eq]
    simp
    refine for_rule (I := lawI ns) ⟨_, _, _, _, _, _, rfl, fun a ha => (rgI_mem.mp ha).1, rfl⟩ ?_ ?_
    · intro c hc
      simp
      exact hc
    rintro x xs c ⟨as, s1, s2, s3, s4, s5, e, ha, rfl⟩
    cases as with
    | nil => simp at e
    | cons a as =>
      simp at e
      obtain ⟨rfl, rfl⟩ := e
      rw [fName_ok, ev_ok]
      show Rn _ [.dat (scrD ns), .dat (.int a), s2, s3, s4, s5] _
      refine seq_cut (lawK ns) ?_ ?_
      · simp
        refine (state_ev ns (ha a List.mem_cons_self)).mono fun ss hs => ?_
        exact ⟨ss, _, _, _, _, rfl, hs⟩
      rintro c ⟨ss, s1, s3, s4, s5, rfl, hs⟩
      rw [rn_mFor]
      simp [isOwn]
      refine (web_ev hs (m := 6) (by omega)).mono ?_
      rintro ⟨d, ss1⟩ ⟨n, ks, e1, w1, hn6, hs1⟩
      simp at e1
      subst e1
      simp [isOwn]
      refine (great_ev hs1).mono ?_
      rintro ⟨d, ss2⟩ ⟨n2, ks2, e2, w2, hn8, hl2, hs2⟩
      simp at e2
      subst e2
      simp
      refine for_rule (I := lawW ns) ⟨ss2, _, _, _, _, rfl, hs2, ?_⟩ ?_ ?_
      · intro x hx
        rcases List.mem_cons.mp hx with z | z
        · exact ⟨n, ks, z, w1, Nat.le_trans (small_len w1 hn6) (by omega)⟩
        · exact ⟨n2, ks2, List.mem_singleton.mp z, w2, by omega⟩
      · rintro c ⟨ss, s1, s3, s4, s5, rfl, _, _⟩
        exact ⟨as, _, _, _, _, _, rfl, fun b hb => ha b (List.mem_cons_of_mem _ hb), rfl⟩
      rintro x xs c ⟨ss, s1, s3, s4, s5, rfl, hs, hx⟩
      obtain ⟨n, ks, rfl, w, hl⟩ := hx x List.mem_cons_self
      rw [fName_ok, ev_ok]
      show Rn _ [.dat (scrD ns), s1, .own false ss, .dat (webD n ks), s4, s5] _
      refine seq_cut (fun c => c = [.dat (scrD ns), s1, .own false ss, .dat (webD n ks), s4, s5]) ?_ ?_
      · simp [is_web_web w]
      rintro c rfl
      rw [rn_mFor]
      simp only [rn_mSeq1, rn_mOp2, rn_mOfN, rn_mComp, rn_mRange1, rn_mC, ev_ok]
      rw [gRg_int (rgOk_small (by omega) (by omega))]
      simp only [ev_ok, wipeC]
      refine (comp_each (I := lawS ns n ks) (P := fun d => okB d = true) ⟨ss, s1, s4, rfl, hs⟩ ?_).mono ?_
      · rintro x hx c ⟨ss, s1, s4, rfl, hs⟩
        simp [setC, isOwn, wipeC]
        refine (bent_ev hs w.many (ties_noDict ks) (by simpa using hl)).mono ?_
        rintro ⟨d, ss'⟩ ⟨h1, h2⟩
        exact ⟨h1, ss', _, _, rfl, h2⟩
      · rintro es c ⟨h1, h2, ss, s1, s4, rfl, hs⟩
        simp [isOwn]
        refine (bad_ev hs).mono ?_
        rintro ⟨d, ss'⟩ ⟨h3, h4⟩
        simp
        rw [gCat_list (by rw [h1, rgD_length]; simp)]
        simp
        refine for_rule (I := lawT ns) ⟨ss', _, _, _, _, rfl, h4, ?_⟩ ?_ ?_
        · intro x hx
          rcases List.mem_append.mp hx with z | z
          · exact h2 x z
          · rw [List.mem_singleton.mp z]; exact h3
        · rintro c ⟨ss, s1, s3, s4, s5, rfl, hs, _⟩
          exact ⟨ss, _, _, _, _, rfl, hs, fun y hy => hx y (List.mem_cons_of_mem _ hy)⟩
        · rintro y ys c ⟨ss, s1, s3, s4, s5, rfl, hs, hy⟩
          obtain ⟨g1, g2⟩ := ok_both (hy y List.mem_cons_self)
          simp [setC, g1, g2, same_bool]
          exact ⟨ss, _, _, _, _, rfl, hs, fun z hz => hy z (List.mem_cons_of_mem _ hz)⟩
  rintro c ⟨as, s1, s2, s3, s4, s5, _, _, rfl⟩
  have e1 : F_is_web [.tuple [.int 0, .tuple []]] = .ok (.bool true) := is_web_web (n := 0) (ks := []) ⟨by omega, List.Pairwise.nil, fun _ h => (nomatch h)⟩
  have e2 : F_is_web [.tuple [.int 14, .tuple [.tuple [.int 0, .int 13]]]] = .ok (.bool true) := is_web_web (n := 14) (ks := [(0, 13)]) ⟨by omega, List.pairwise_singleton _ _, fun p h => by rw [List.mem_singleton.mp h]; simp⟩
  simp [e1, e2]
end K01

set_option Elab.async false
set_option linter.all false
set_option maxRecDepth 100000
namespace K01
open PySem PySem.Spec PyProof.Rows L2 TW
section
variable {P : Program} {w : World} {K : PySem.W.Frag} {h : Heap} {mg : Str → Option Value}
theorem all_mk {fa : Addr} (X : K.In h) (G : h.Ns mainGlobals mg) (hfa : mg "law" = some (.ref fa))
  {f0 : Addr} {od0 an0 : Option Addr} {sl0 : Array (Option Value)} {oc0 kV0 dc0 pm0 cd0 ct0 : Value} (a0 : PySem.W.nsIn K mainGlobals "is_whole" = some (some (.ref f0))) (l0 : K.lookup f0 = some ⟨oc0, od0, .func (PySem.W.fnOf "is_whole" "is_whole" (defArgs s_is_whole) (defBody s_is_whole) (defScope s_is_whole) .none kV0 dc0 pm0 an0 cd0 ct0), sl0⟩) (c0 : PySem.W.codeIn K cd0 "is_whole" = true) (k0 : PySem.W.keepIn K (.ref f0) = true)
  {f1 : Addr} {od1 an1 : Option Addr} {sl1 : Array (Option Value)} {oc1 kV1 dc1 pm1 cd1 ct1 : Value} (a1 : PySem.W.nsIn K mainGlobals "is_place" = some (some (.ref f1))) (l1 : K.lookup f1 = some ⟨oc1, od1, .func (PySem.W.fnOf "is_place" "is_place" (defArgs s_is_place) (defBody s_is_place) (defScope s_is_place) .none kV1 dc1 pm1 an1 cd1 ct1), sl1⟩) (c1 : PySem.W.codeIn K cd1 "is_place" = true) (k1 : PySem.W.keepIn K (.ref f1) = true)
  {f2 : Addr} {od2 an2 : Option Addr} {sl2 : Array (Option Value)} {oc2 kV2 dc2 pm2 cd2 ct2 : Value} (a2 : PySem.W.nsIn K mainGlobals "rises" = some (some (.ref f2))) (l2 : K.lookup f2 = some ⟨oc2, od2, .func (PySem.W.fnOf "rises" "rises" (defArgs s_rises) (defBody s_rises) (defScope s_rises) .none kV2 dc2 pm2 an2 cd2 ct2), sl2⟩) (c2 : PySem.W.codeIn K cd2 "rises" = true) (k2 : PySem.W.keepIn K (.ref f2) = true)
  {f3 : Addr} {od3 an3 : Option Addr} {sl3 : Array (Option Value)} {oc3 kV3 dc3 pm3 cd3 ct3 : Value} (a3 : PySem.W.nsIn K mainGlobals "is_tie" = some (some (.ref f3))) (l3 : K.lookup f3 = some ⟨oc3, od3, .func (PySem.W.fnOf "is_tie" "is_tie" (defArgs s_is_tie) (defBody s_is_tie) (defScope s_is_tie) .none kV3 dc3 pm3 an3 cd3 ct3), sl3⟩) (c3 : PySem.W.codeIn K cd3 "is_tie" = true) (k3 : PySem.W.keepIn K (.ref f3) = true)
  {f4 : Addr} {od4 an4 : Option Addr} {sl4 : Array (Option Value)} {oc4 kV4 dc4 pm4 cd4 ct4 : Value} (a4 : PySem.W.nsIn K mainGlobals "is_web" = some (some (.ref f4))) (l4 : K.lookup f4 = some ⟨oc4, od4, .func (PySem.W.fnOf "is_web" "is_web" (defArgs s_is_web) (defBody s_is_web) (defScope s_is_web) .none kV4 dc4 pm4 an4 cd4 ct4), sl4⟩) (c4 : PySem.W.codeIn K cd4 "is_web" = true) (k4 : PySem.W.keepIn K (.ref f4) = true)
  {f5 : Addr} {od5 an5 : Option Addr} {sl5 : Array (Option Value)} {oc5 kV5 dc5 pm5 cd5 ct5 : Value} (a5 : PySem.W.nsIn K mainGlobals "_law_cell_at" = some (some (.ref f5))) (l5 : K.lookup f5 = some ⟨oc5, od5, .func (PySem.W.fnOf "_law_cell_at" "_law_cell_at" (defArgs s__law_cell_at) (defBody s__law_cell_at) (defScope s__law_cell_at) .none kV5 dc5 pm5 an5 cd5 ct5), sl5⟩) (c5 : PySem.W.codeIn K cd5 "_law_cell_at" = true) (k5 : PySem.W.keepIn K (.ref f5) = true)
  {f6 : Addr} {od6 an6 : Option Addr} {sl6 : Array (Option Value)} {oc6 kV6 dc6 pm6 cd6 ct6 : Value} (a6 : PySem.W.nsIn K mainGlobals "_law_state" = some (some (.ref f6))) (l6 : K.lookup f6 = some ⟨oc6, od6, .func (PySem.W.fnOf "_law_state" "_law_state" (defArgs s__law_state) (defBody s__law_state) (defScope s__law_state) .none kV6 dc6 pm6 an6 cd6 ct6), sl6⟩) (c6 : PySem.W.codeIn K cd6 "_law_state" = true) (k6 : PySem.W.keepIn K (.ref f6) = true)
  {f7 : Addr} {od7 an7 : Option Addr} {sl7 : Array (Option Value)} {oc7 kV7 dc7 pm7 cd7 ct7 : Value} (a7 : PySem.W.nsIn K mainGlobals "_law_take" = some (some (.ref f7))) (l7 : K.lookup f7 = some ⟨oc7, od7, .func (PySem.W.fnOf "_law_take" "_law_take" (defArgs s__law_take) (defBody s__law_take) (defScope s__law_take) .none kV7 dc7 pm7 an7 cd7 ct7), sl7⟩) (c7 : PySem.W.codeIn K cd7 "_law_take" = true) (k7 : PySem.W.keepIn K (.ref f7) = true)
  {f8 : Addr} {od8 an8 : Option Addr} {sl8 : Array (Option Value)} {oc8 kV8 dc8 pm8 cd8 ct8 : Value} (a8 : PySem.W.nsIn K mainGlobals "_law_pairs" = some (some (.ref f8))) (l8 : K.lookup f8 = some ⟨oc8, od8, .func (PySem.W.fnOf "_law_pairs" "_law_pairs" (defArgs s__law_pairs) (defBody s__law_pairs) (defScope s__law_pairs) .none kV8 dc8 pm8 an8 cd8 ct8), sl8⟩) (c8 : PySem.W.codeIn K cd8 "_law_pairs" = true) (k8 : PySem.W.keepIn K (.ref f8) = true)
  {f9 : Addr} {od9 an9 : Option Addr} {sl9 : Array (Option Value)} {oc9 kV9 dc9 pm9 cd9 ct9 : Value} (a9 : PySem.W.nsIn K mainGlobals "_law_mixed_row" = some (some (.ref f9))) (l9 : K.lookup f9 = some ⟨oc9, od9, .func (PySem.W.fnOf "_law_mixed_row" "_law_mixed_row" (defArgs s__law_mixed_row) (defBody s__law_mixed_row) (defScope s__law_mixed_row) .none kV9 dc9 pm9 an9 cd9 ct9), sl9⟩) (c9 : PySem.W.codeIn K cd9 "_law_mixed_row" = true) (k9 : PySem.W.keepIn K (.ref f9) = true)
  {f10 : Addr} {od10 an10 : Option Addr} {sl10 : Array (Option Value)} {oc10 kV10 dc10 pm10 cd10 ct10 : Value} (a10 : PySem.W.nsIn K mainGlobals "_law_web" = some (some (.ref f10))) (l10 : K.lookup f10 = some ⟨oc10, od10, .func (PySem.W.fnOf "_law_web" "_law_web" (defArgs s__law_web) (defBody s__law_web) (defScope s__law_web) .none kV10 dc10 pm10 an10 cd10 ct10), sl10⟩) (c10 : PySem.W.codeIn K cd10 "_law_web" = true) (k10 : PySem.W.keepIn K (.ref f10) = true)
  {f11 : Addr} {od11 an11 : Option Addr} {sl11 : Array (Option Value)} {oc11 kV11 dc11 pm11 cd11 ct11 : Value} (a11 : PySem.W.nsIn K mainGlobals "_law_great_web" = some (some (.ref f11))) (l11 : K.lookup f11 = some ⟨oc11, od11, .func (PySem.W.fnOf "_law_great_web" "_law_great_web" (defArgs s__law_great_web) (defBody s__law_great_web) (defScope s__law_great_web) .none kV11 dc11 pm11 an11 cd11 ct11), sl11⟩) (c11 : PySem.W.codeIn K cd11 "_law_great_web" = true) (k11 : PySem.W.keepIn K (.ref f11) = true)
  {f12 : Addr} {od12 an12 : Option Addr} {sl12 : Array (Option Value)} {oc12 kV12 dc12 pm12 cd12 ct12 : Value} (a12 : PySem.W.nsIn K mainGlobals "_law_whole" = some (some (.ref f12))) (l12 : K.lookup f12 = some ⟨oc12, od12, .func (PySem.W.fnOf "_law_whole" "_law_whole" (defArgs s__law_whole) (defBody s__law_whole) (defScope s__law_whole) .none kV12 dc12 pm12 an12 cd12 ct12), sl12⟩) (c12 : PySem.W.codeIn K cd12 "_law_whole" = true) (k12 : PySem.W.keepIn K (.ref f12) = true)
  {f13 : Addr} {od13 an13 : Option Addr} {sl13 : Array (Option Value)} {oc13 kV13 dc13 pm13 cd13 ct13 : Value} (a13 : PySem.W.nsIn K mainGlobals "_law_is_web" = some (some (.ref f13))) (l13 : K.lookup f13 = some ⟨oc13, od13, .func (PySem.W.fnOf "_law_is_web" "_law_is_web" (defArgs s__law_is_web) (defBody s__law_is_web) (defScope s__law_is_web) .none kV13 dc13 pm13 an13 cd13 ct13), sl13⟩) (c13 : PySem.W.codeIn K cd13 "_law_is_web" = true) (k13 : PySem.W.keepIn K (.ref f13) = true)
  {f14 : Addr} {od14 an14 : Option Addr} {sl14 : Array (Option Value)} {oc14 kV14 dc14 pm14 cd14 ct14 : Value} (a14 : PySem.W.nsIn K mainGlobals "_law_bad_web" = some (some (.ref f14))) (l14 : K.lookup f14 = some ⟨oc14, od14, .func (PySem.W.fnOf "_law_bad_web" "_law_bad_web" (defArgs s__law_bad_web) (defBody s__law_bad_web) (defScope s__law_bad_web) .none kV14 dc14 pm14 an14 cd14 ct14), sl14⟩) (c14 : PySem.W.codeIn K cd14 "_law_bad_web" = true) (k14 : PySem.W.keepIn K (.ref f14) = true)
  {f15 : Addr} {od15 an15 : Option Addr} {sl15 : Array (Option Value)} {oc15 kV15 dc15 pm15 cd15 ct15 : Value} (a15 : PySem.W.nsIn K mainGlobals "_law_same" = some (some (.ref f15))) (l15 : K.lookup f15 = some ⟨oc15, od15, .func (PySem.W.fnOf "_law_same" "_law_same" (defArgs s__law_same) (defBody s__law_same) (defScope s__law_same) .none kV15 dc15 pm15 an15 cd15 ct15), sl15⟩) (c15 : PySem.W.codeIn K cd15 "_law_same" = true) (k15 : PySem.W.keepIn K (.ref f15) = true)
  {f16 : Addr} {od16 an16 : Option Addr} {sl16 : Array (Option Value)} {oc16 kV16 dc16 pm16 cd16 ct16 : Value} (a16 : PySem.W.nsIn K mainGlobals "_law_bent" = some (some (.ref f16))) (l16 : K.lookup f16 = some ⟨oc16, od16, .func (PySem.W.fnOf "_law_bent" "_law_bent" (defArgs s__law_bent) (defBody s__law_bent) (defScope s__law_bent) .none kV16 dc16 pm16 an16 cd16 ct16), sl16⟩) (c16 : PySem.W.codeIn K cd16 "_law_bent" = true) (k16 : PySem.W.keepIn K (.ref f16) = true)
  {f17 : Addr} {od17 an17 : Option Addr} {sl17 : Array (Option Value)} {oc17 kV17 dc17 pm17 cd17 ct17 : Value} (a17 : PySem.W.nsIn K mainGlobals "law" = some (some (.ref f17))) (l17 : K.lookup f17 = some ⟨oc17, od17, .func (PySem.W.fnOf "law" "law" (defArgs s_law) (defBody s_law) (defScope s_law) .none kV17 dc17 pm17 an17 cd17 ct17), sl17⟩) (c17 : PySem.W.codeIn K cd17 "law" = true) (k17 : PySem.W.keepIn K (.ref f17) = true)
  (z_all : PySem.W.nsIn K mainGlobals "all" = some none)
  (z_bool : PySem.W.nsIn K mainGlobals "bool" = some none)
  (z_int : PySem.W.nsIn K mainGlobals "int" = some none)
  (z_isinstance : PySem.W.nsIn K mainGlobals "isinstance" = some none)
  (z_len : PySem.W.nsIn K mainGlobals "len" = some none)
  (z_list : PySem.W.nsIn K mainGlobals "list" = some none)
  (z_max : PySem.W.nsIn K mainGlobals "max" = some none)
  (z_min : PySem.W.nsIn K mainGlobals "min" = some none)
  (z_range : PySem.W.nsIn K mainGlobals "range" = some none)
  (z_set : PySem.W.nsIn K mainGlobals "set" = some none)
  (z_sorted : PySem.W.nsIn K mainGlobals "sorted" = some none)
  (z_str : PySem.W.nsIn K mainGlobals "str" = some none)
  (z_tuple : PySem.W.nsIn K mainGlobals "tuple" = some none)
  (z_zip : PySem.W.nsIn K mainGlobals "zip" = some none)
  {t_MOST_PLACES : Tok} (z_MOST_PLACES : PySem.W.nsIn K mainGlobals "MOST_PLACES" = some (some (.int 14 t_MOST_PLACES)))
  : ∃ fd : FuncData, (∀ (s : Shared) (v : Value), BindsTo s fd ⟨[v], []⟩ [("_law_script", v)]) ∧ ∀ base : Heap, K.In base → base.Ns mainGlobals mg → FnOk P w K mg base (L2.CX P w) 13 fa fd ["_law_script"] (spD K (fun _ => 0) 1 F_law) := by
  have e := hfa.symm.trans (PySem.W.mg_of X G a17)
  cases e
  have t_is_whole : Tx K mg "is_whole" s_is_whole P_is_whole := tx_mk X G a0 l0 c0 k0 fun _ _ _ _ _ _ us hl => match us, hl with | [_], _ => rfl
  have t_is_place : Tx K mg "is_place" s_is_place P_is_place := tx_mk X G a1 l1 c1 k1 fun _ _ _ _ _ _ us hl => match us, hl with | [_, _], _ => rfl
  have t_rises : Tx K mg "rises" s_rises P_rises := tx_mk X G a2 l2 c2 k2 fun _ _ _ _ _ _ us hl => match us, hl with | [_], _ => rfl
  have t_is_tie : Tx K mg "is_tie" s_is_tie P_is_tie := tx_mk X G a3 l3 c3 k3 fun _ _ _ _ _ _ us hl => match us, hl with | [_, _], _ => rfl
  have t_is_web : Tx K mg "is_web" s_is_web P_is_web := tx_mk X G a4 l4 c4 k4 fun _ _ _ _ _ _ us hl => match us, hl with | [_], _ => rfl
  have t__law_cell_at : Tx K mg "_law_cell_at" s__law_cell_at P__law_cell_at := tx_mk X G a5 l5 c5 k5 fun _ _ _ _ _ _ us hl => match us, hl with | [_, _], _ => rfl
  have t__law_state : Tx K mg "_law_state" s__law_state P__law_state := tx_mk X G a6 l6 c6 k6 fun _ _ _ _ _ _ us hl => match us, hl with | [_, _], _ => rfl
  have t__law_take : Tx K mg "_law_take" s__law_take P__law_take := tx_mk X G a7 l7 c7 k7 fun _ _ _ _ _ _ us hl => match us, hl with | [_, _], _ => rfl
  have t__law_pairs : Tx K mg "_law_pairs" s__law_pairs P__law_pairs := tx_mk X G a8 l8 c8 k8 fun _ _ _ _ _ _ us hl => match us, hl with | [_], _ => rfl
  have t__law_mixed_row : Tx K mg "_law_mixed_row" s__law_mixed_row P__law_mixed_row := tx_mk X G a9 l9 c9 k9 fun _ _ _ _ _ _ us hl => match us, hl with | [_, _], _ => rfl
  have t__law_web : Tx K mg "_law_web" s__law_web P__law_web := tx_mk X G a10 l10 c10 k10 fun _ _ _ _ _ _ us hl => match us, hl with | [_, _], _ => rfl
  have t__law_great_web : Tx K mg "_law_great_web" s__law_great_web P__law_great_web := tx_mk X G a11 l11 c11 k11 fun _ _ _ _ _ _ us hl => match us, hl with | [_], _ => rfl
  have t__law_whole : Tx K mg "_law_whole" s__law_whole P__law_whole := tx_mk X G a12 l12 c12 k12 fun _ _ _ _ _ _ us hl => match us, hl with | [_], _ => rfl
  have t__law_is_web : Tx K mg "_law_is_web" s__law_is_web P__law_is_web := tx_mk X G a13 l13 c13 k13 fun _ _ _ _ _ _ us hl => match us, hl with | [_], _ => rfl
  have t__law_bad_web : Tx K mg "_law_bad_web" s__law_bad_web P__law_bad_web := tx_mk X G a14 l14 c14 k14 fun _ _ _ _ _ _ us hl => match us, hl with | [_], _ => rfl
  have t__law_same : Tx K mg "_law_same" s__law_same P__law_same := tx_mk X G a15 l15 c15 k15 fun _ _ _ _ _ _ us hl => match us, hl with | [_, _], _ => rfl
  have t__law_bent : Tx K mg "_law_bent" s__law_bent P__law_bent := tx_mk X G a16 l16 c16 k16 fun _ _ _ _ _ _ us hl => match us, hl with | [_, _], _ => rfl
  have m_all := PySem.W.mg_none_of X G z_all
  have m_bool := PySem.W.mg_none_of X G z_bool
  have m_int := PySem.W.mg_none_of X G z_int
  have m_isinstance := PySem.W.mg_none_of X G z_isinstance
  have m_len := PySem.W.mg_none_of X G z_len
  have m_list := PySem.W.mg_none_of X G z_list
  have m_max := PySem.W.mg_none_of X G z_max
  have m_min := PySem.W.mg_none_of X G z_min
  have m_range := PySem.W.mg_none_of X G z_range
  have m_set := PySem.W.mg_none_of X G z_set
  have m_sorted := PySem.W.mg_none_of X G z_sorted
  have m_str := PySem.W.mg_none_of X G z_str
  have m_tuple := PySem.W.mg_none_of X G z_tuple
  have m_zip := PySem.W.mg_none_of X G z_zip
  have c_MOST_PLACES : GcI mg "MOST_PLACES" 14 := ⟨_, PySem.W.mg_of X G z_MOST_PLACES⟩
  refine ⟨PySem.W.fnOf "law" "law" (defArgs s_law) (defBody s_law) (defScope s_law) .none kV17 dc17 pm17 an17 cd17 ct17, fun s v => .of_eq rfl, fun base _ _ => ?_⟩
  have k_is_whole := k_is_whole (P := P) (w := w) (base := base) (ct := fun _ => 0) t_is_whole m_bool m_int m_isinstance
  have k_is_place := k_is_place (P := P) (w := w) (base := base) (ct := fun _ => 0) t_is_place k_is_whole
  have k_rises := k_rises (P := P) (w := w) (base := base) (ct := fun _ => 0) t_rises m_all m_zip
  have k_is_tie := k_is_tie (P := P) (w := w) (base := base) (ct := fun _ => 0) t_is_tie m_all m_isinstance m_len m_tuple k_is_place
  have k_is_web := k_is_web (P := P) (w := w) (base := base) (ct := fun _ => 0) t_is_web m_all m_isinstance m_len m_tuple c_MOST_PLACES k_rises k_is_tie k_is_whole
  have k__law_cell_at := k__law_cell_at (P := P) (w := w) (base := base) (ct := fun _ => 0) t__law_cell_at m_len
  have k__law_state := k__law_state (P := P) (w := w) (base := base) (ct := fun _ => 0) t__law_state k__law_cell_at
  have k__law_take := k__law_take (P := P) (w := w) (base := base) t__law_take
  have k__law_pairs := k__law_pairs (P := P) (w := w) (base := base) (ct := fun _ => 0) t__law_pairs m_range
  have k__law_mixed_row := k__law_mixed_row (P := P) (w := w) (base := base) t__law_mixed_row m_len m_list k__law_take
  have k__law_web := k__law_web (P := P) (w := w) (base := base) (ct := fun _ => 0) t__law_web m_list m_max m_range m_sorted m_tuple k__law_pairs k__law_take k__law_mixed_row
  have k__law_great_web := k__law_great_web (P := P) (w := w) (base := base) t__law_great_web m_max m_min m_range m_set m_sorted m_tuple k__law_take
  have k__law_whole := k__law_whole (P := P) (w := w) (base := base) (ct := fun _ => 0) t__law_whole m_bool m_int m_isinstance
  have k__law_is_web := k__law_is_web (P := P) (w := w) (base := base) (ct := fun _ => 0) t__law_is_web m_isinstance m_len m_list m_set m_sorted m_tuple k__law_whole
  have k__law_bad_web := k__law_bad_web (P := P) (w := w) (base := base) t__law_bad_web k__law_take
  have k__law_same := k__law_same (P := P) (w := w) (base := base) (ct := fun _ => 0) t__law_same m_all m_bool m_isinstance m_len m_list m_tuple m_zip 12
  have k__law_bent := k__law_bent (P := P) (w := w) (base := base) t__law_bent m_len m_list m_str k__law_take
  exact fnD_ok (fun_mk (st := s_law) l17 c17 k17) sc_law rfl (by decide) (kb_law m_len m_max m_min m_range k_is_web k__law_great_web k__law_web k__law_bent k__law_bad_web k__law_same k__law_is_web k__law_state _)
end
end K01
open PySem PySem.W PyProof.Rows
set_option maxHeartbeats 0 in
theorem PySem.Challenge.cw_tiewebs_k01_webs_known_holds : PySem.Challenge.rw_tiewebs_k01_webs_known.Holds := by
  w_on; o_law; k_head; (case hw => w_witness2)
  k_fill
  refine L2.walk_of (l := PySem.Challenge.rw_tiewebs_k01_webs_known) (n := 63) (k := 13) (x := "_law_script") (CX := fun w => L2.CX PySem.Challenge.rw_tiewebs_k01_webs_known.prog w) (sp := fun w => TW.spD _ (fun _ => 0) 1 K01.F_law) rfl (by decide) rfl ⟨rfl, by decide, by decide⟩ (fun w h Y => PySem.W.kIn_of Y) ?F (fun w H a ns hl hO hS => TW.end_sp hO hS hl (K01.law_true ns hl)) (fun _ _ _ _ _ h => TW.cx_end h)
  case F =>
    intro w mg fa h KX G hmg
    refine' K01.all_mk KX G hmg ?a0 ?l0 ?c0 ?k0 ?a1 ?l1 ?c1 ?k1 ?a2 ?l2 ?c2 ?k2 ?a3 ?l3 ?c3 ?k3 ?a4 ?l4 ?c4 ?k4 ?a5 ?l5 ?c5 ?k5 ?a6 ?l6 ?c6 ?k6 ?a7 ?l7 ?c7 ?k7 ?a8 ?l8 ?c8 ?k8 ?a9 ?l9 ?c9 ?k9 ?a10 ?l10 ?c10 ?k10 ?a11 ?l11 ?c11 ?k11 ?a12 ?l12 ?c12 ?k12 ?a13 ?l13 ?c13 ?k13 ?a14 ?l14 ?c14 ?k14 ?a15 ?l15 ?c15 ?k15 ?a16 ?l16 ?c16 ?k16 ?a17 ?l17 ?c17 ?k17 ?z_all ?z_bool ?z_int ?z_isinstance ?z_len ?z_list ?z_max ?z_min ?z_range ?z_set ?z_sorted ?z_str ?z_tuple ?z_zip ?z_MOST_PLACES
    (case a0 => k_is); (case l0 => k_is); (case c0 => k_is); (case k0 => k_is); (case a1 => k_is); (case l1 => k_is); (case c1 => k_is); (case k1 => k_is); (case a2 => k_is); (case l2 => k_is); (case c2 => k_is); (case k2 => k_is); (case a3 => k_is); (case l3 => k_is); (case c3 => k_is); (case k3 => k_is); (case a4 => k_is); (case l4 => k_is); (case c4 => k_is); (case k4 => k_is); (case a5 => k_is); (case l5 => k_is); (case c5 => k_is); (case k5 => k_is); (case a6 => k_is); (case l6 => k_is); (case c6 => k_is); (case k6 => k_is); (case a7 => k_is); (case l7 => k_is); (case c7 => k_is); (case k7 => k_is); (case a8 => k_is); (case l8 => k_is); (case c8 => k_is); (case k8 => k_is); (case a9 => k_is); (case l9 => k_is); (case c9 => k_is); (case k9 => k_is); (case a10 => k_is); (case l10 => k_is); (case c10 => k_is); (case k10 => k_is); (case a11 => k_is); (case l11 => k_is); (case c11 => k_is); (case k11 => k_is); (case a12 => k_is); (case l12 => k_is); (case c12 => k_is); (case k12 => k_is); (case a13 => k_is); (case l13 => k_is); (case c13 => k_is); (case k13 => k_is); (case a14 => k_is); (case l14 => k_is); (case c14 => k_is); (case k14 => k_is); (case a15 => k_is); (case l15 => k_is); (case c15 => k_is); (case k15 => k_is); (case a16 => k_is); (case l16 => k_is); (case c16 => k_is); (case k16 => k_is); (case a17 => k_is); (case l17 => k_is); (case c17 => k_is); (case k17 => k_is); (case z_all => k_is); (case z_bool => k_is); (case z_int => k_is); (case z_isinstance => k_is); (case z_len => k_is); (case z_list => k_is); (case z_max => k_is); (case z_min => k_is); (case z_range => k_is); (case z_set => k_is); (case z_sorted => k_is); (case z_str => k_is); (case z_tuple => k_is); (case z_zip => k_is); (case z_MOST_PLACES => k_is)
