import PyProof.Rows.All
import Wide.All
import OpenK.AllK
import Wide.FinOn
import HandS.ForMost
import HandS.ForExc
import HandS.Lambda
import HandS.TupAny
import HandS.Zip
import HandS.IsInst
import HandS.Deep
import HandS.TupMul
import HandS.Conv
import KE.KDictKeyed
import KE.SortData
import HandS.Style
import HandS.SetFor
import HandS.TupSets
import KE.DataCmp
import KE.DataMinMax
import HandS.Ends
import HandS.Set
import KE.GoesMore
import HandS.ExcOwn
import HandS.ExcInit
import HandS.ExcIs
import HandS.ExcField
import HandS.EndOwn
import HandS.NoneIn
import HandS.Strs
import KE.DataFind
import HandS.TryOnly
import HandS.DictSubView
import HandS.StrMore
import HandS.Codes
import PySem.Challenge.RW_tiewebs_k91_texts_that_write_none
set_option Elab.async false
set_option linter.all false
set_option maxRecDepth 100000
namespace TW
open PySem PySem.Spec PyProof.Rows L2
def SqN (H : Hp) (a : Addr) (xs : List V) : Prop := ∃ o : Obj, H a = some (.frz o (.tup xs)) ∧ o.dict = none
theorem SqN.sqt {K : PySem.W.Frag} {H : Hp} {a : Addr} {xs : List V} (h : SqN H a xs) : SqT K H a xs := let ⟨o, e, _⟩ := h; .inl (.inr ⟨o, e⟩)
def NewT (Q : VK) (H : Hp) (xs : List V) : Prop := ∀ (p : Addr) (o : Obj), H p = none → o.dict = none → Q (.ref p) (upd H p (.frz o (.tup xs)))
section
variable {X : Cx} {pins : List (Addr × Obj)} {σ : L2.St} {H : Hp} {s : Shared} {xs : List V} {us : List Value} {Q : VK}
theorem newT {t' : Nat} (I : Inv X pins σ H s) (r : Vals xs us) (hz : xs.length ≤ sizeLine) (h : NewT Q H xs) :
    EP X pins σ Q (.ref s.heap.objs.size) { s with heap := s.heap.push { cls := .type "tuple", data := .seq us.toArray }, toks := t' } := by
  have hp : H s.heap.objs.size = none := I.hok.fresh (Nat.le_refl _)
  refine ⟨.ref s.heap.objs.size, upd H s.heap.objs.size (.frz { cls := .type "tuple", data := .seq us.toArray } (.tup xs)), I.laid (fun b u q => Heap.get?_push_of_some _ q) (Nat.le_refl _) ?_, rfl, h _ _ hp rfl⟩
  exact ⟨Heap.get?_push_size _ rfl, hz, us, r, IsTup.new _ _⟩
end
def tTupN (t : TA) : TE := fun σ H Q => t σ H fun xs H1 => xs.length ≤ sizeLine ∧ NewT Q H1 xs
theorem pe_tupN {X : Cx} {es : List Expr} {t : TA} {pos : Pos} {k} (h : PA X es t) : PE X (.Tuple es k pos) (tTupN t) :=
  ⟨fun pins s σ H Q I hq => wpAny_Tuple_spliced (thn (h.run pos pins s σ H _ I hq) fun us s1 ⟨xs, H1, I1, r, z, q⟩ => ⟨by rw [← r.length]; exact z, newT (t' := s1.toks) I1 r z q⟩)⟩
def rCatN (K : PySem.W.Frag) : R2 := fun x y H Q => ∃ a b xs ys, x = .ref a ∧ y = .ref b ∧ SqT K H a xs ∧ SqT K H b ys ∧ xs.length + ys.length ≤ sizeLine ∧
  (xs = [] → Q (.ref b) H) ∧ (xs ≠ [] → ys = [] → Q (.ref a) H) ∧ (xs ≠ [] → ys ≠ [] → NewT Q H (xs ++ ys))
theorem op_catN {X : Cx} : OpR X (binaryOp .Add) (rCatN X.K) := by
  intro pins s σ H x y v u Q I rx ry h
  obtain ⟨a, b, xs, ys, rfl, rfl, ha, hb, hz, q0, q1, q2⟩ := h
  by_cases hx : xs = []
  · exact op_catA pins s σ H _ _ v u Q I rx ry ⟨a, b, xs, ys, rfl, rfl, ha, hb, hz, q0, q1, fun z => absurd hx z⟩
  by_cases hy : ys = []
  · exact op_catA pins s σ H _ _ v u Q I rx ry ⟨a, b, xs, ys, rfl, rfl, ha, hb, hz, q0, q1, fun _ z => absurd hy z⟩
  cases rx
  cases ry
  obtain ⟨its, r1, p1, _⟩ := I.tuple ha
  obtain ⟨its2, r2, p2, _⟩ := I.tuple hb
  refine HT.cat_tup p1 p2 (fun z => hx (r1.nil_iff.mp z)) (fun z => absurd (r2.nil_iff.mp z) hy) (fun z => ?_) (by rw [← r1.length, ← r2.length]; exact hz)
  exact newT (t' := s.toks) I (r1.append r2) (by rw [List.length_append]; exact hz) (q2 hx hy)
def rSlN (K : PySem.W.Frag) : V → Option Int → Option Int → Hp → VK → Prop := fun x lo hi H Q => ∃ a xs, x = .ref a ∧ SqT K H a xs ∧
  (HT.sIx xs.length 0 lo = 0 ∧ HT.sIx xs.length xs.length hi = xs.length → Q (.ref a) H) ∧ (¬ (HT.sIx xs.length 0 lo = 0 ∧ HT.sIx xs.length xs.length hi = xs.length) → NewT Q H (cutV xs lo hi))
theorem sl_tupN {X : Cx} : SlR X (rSlN X.K) := by
  intro pins s σ H x v vl vu lo hi sl Q I rx hs pl pu h
  obtain ⟨a, xs, rfl, hx, q1, q2⟩ := h
  by_cases hw : HT.sIx xs.length 0 lo = 0 ∧ HT.sIx xs.length xs.length hi = xs.length
  · exact sl_tupA pins s σ H _ v vl vu lo hi sl Q I rx hs pl pu ⟨a, xs, rfl, hx, q1, fun z => absurd hw z⟩
  cases rx
  obtain ⟨its, r, ht, hz⟩ := I.tuple hx
  have hlen : its.toArray.size = xs.length := by rw [List.size_toArray]; exact r.length.symm
  refine ⟨"tuple", _, PyProof.Rows.slot_tuple_getitem.lookup, ht.typeIs, HT.getItem_tuple_cut ht hs pl pu (by rw [hlen]; exact hw) ?_ (by rw [hlen]; exact hz)⟩
  rw [hlen]
  exact newT (t' := s.toks) I ((r.drop _).take _) (Nat.le_trans (cutV_length xs lo hi) hz) (q2 hw)
def rTupOf (K : PySem.W.Frag) : List V → Hp → VK → Prop := fun xs H Q => ∃ p ys, xs = [.ref p] ∧ ((SqL K H p ys ∧ NewT Q H ys) ∨ (SqT K H p ys ∧ Q (.ref p) H))
theorem call_tupOf {X : Cx} : CallR X (.type "tuple") (rTupOf X.K) := by
  intro pins s σ H xs us Q I r h
  obtain ⟨p, ys, rfl, h⟩ := h
  rcases h with ⟨hq, q⟩ | ⟨hq, q⟩
  · obtain ⟨u, rfl, rx⟩ := vals1 r
    cases rx
    obtain ⟨its, r', pl, hz⟩ := I.list hq
    have hlen := r'.length
    refine call_tuple_list pl.isList (fun h' kp => ?_) (by simp only [List.size_toArray] <;> omega)
    exact newT (t' := s.toks) (I.kept (t' := s.toks) kp) r' hz q
  · exact call_tuple_of pins s σ H _ us Q I r ⟨p, ys, rfl, .inr ⟨hq, q⟩⟩
def rRepN (K : PySem.W.Frag) : R2 := fun x y H Q => ∃ l k xs, x = .ref l ∧ y = .int k ∧ SqT K H l xs ∧ xs ≠ [] ∧ 2 ≤ k ∧ k ≤ 1000 ∧ xs.length ≤ 1000 ∧ NewT Q H (List.replicate k.toNat xs).flatten
theorem op_repN {X : Cx} : OpR X (binaryOp .Mult) (rRepN X.K) := by
  intro pins s σ H x y v u Q I rx ry h
  obtain ⟨l, k, xs, rfl, rfl, hT, hne, h1, h2, hz, q⟩ := h
  cases rx
  obtain ⟨t, rfl⟩ := ry
  obtain ⟨its, r, ⟨⟨cls, dd, data, sl⟩, ho, hc, n, hd⟩, hs⟩ := I.tuple hT
  simp only at hc hd
  subst hc hd
  have hle : its.toArray.size = xs.length := by rw [List.size_toArray]; exact r.length.symm
  have hpos : 0 < xs.length := List.length_pos_iff.mpr hne
  have hi : its.toArray.isEmpty = false := by
    rw [Bool.eq_false_iff]
    intro z
    have := Array.isEmpty_iff_size_eq_zero.mp z
    omega
  have hfl : ∀ {α : Type} (ys : List α), ys.length ≤ 1000 → (List.replicate k.toNat ys).flatten.length ≤ sizeLine := fun ys hy => by
    rw [List.length_flatten, List.map_replicate, List.sum_replicate_nat, sizeLine_eq]
    exact Nat.le_trans (Nat.mul_le_mul (show k.toNat ≤ 1000 by omega) hy) (by decide)
  have hm : ((its.toArray.size : Nat) : Int) * k ≤ 1000 * 1000 := by
    rw [hle]
    exact Int.mul_le_mul (by omega) h2 (by omega) (by decide)
  have d0 : (decide (k < -(2 ^ 63)) || decide (k ≥ 2 ^ 63)) = false := by rw [decide_eq_false (by omega), decide_eq_false (by omega)]; rfl
  have d1 : (its.toArray.isEmpty || k == 1) = false := by rw [hi, Bool.false_or]; exact beq_eq_false_iff_ne.mpr (by omega)
  have d2 : (decide (k ≤ 0) || its.toArray.isEmpty) = false := by rw [hi, Bool.or_false]; exact decide_eq_false (by omega)
  have d4 : Builtin.Tuple.tupleTooMany (((its.toArray.size : Nat) : Int) * k) = false := by
    unfold Builtin.Tuple.tupleTooMany
    rw [sizeLine_eq]
    exact decide_eq_false (by omega)
  have hl : its.length ≤ 1000 := by rw [List.size_toArray] at hle; omega
  refine wpAny_binaryOp_repeat_ref (T := "tuple") (U := "int") (by decide) ⟨_, ho, rfl⟩ (fun s' => typeIs_int s' k t) noFill_tuple_mul F.fills_int_mul F.slot_int_rmul repeat_tuple F.slot_int_index.lookup ?_
  refine call_meets F.slot_int_rmul (typeIs_int s k t) F.entry_int_rmul (F.args_int_rmul_2 _ _) (int_rmul_tuple k t l its.toArray n dd sl) ⟨ho, rfl, ⟨_, ho, rfl⟩, ?_⟩
  refine call_meets F.slot_tuple_mul ⟨_, ho, rfl⟩ F.entry_tuple_mul (F.args_tuple_mul_2 _ _) (tuple_mulW l its.toArray n dd sl k t d0 d1 d2 (by omega) d4 (by rw [size_rep, List.size_toArray]; exact hfl its hl)) ⟨ho, ?_⟩
  rw [size_rep]
  exact newT (t' := s.toks) I (r.rep k.toNat) (hfl xs hz) q
end TW
set_option Elab.async false
set_option linter.all false
set_option maxRecDepth 100000
namespace TW
open PySem PySem.Spec PyProof.Rows L2
def EntR (x : NestedKey × Addr × V) (y : NestedKey × Addr × Value) : Prop := x.1 = y.1 ∧ x.2.1 = y.2.1 ∧ RelV x.2.2 y.2.2
def dictO (P : Program) (w : World) (a : Addr) (xs : List (NestedKey × Addr × V)) : HO := .ext fun h => (a == sysModules) = false ∧ ∃ o es ep ys, h.get? a = some o ∧ o.ExactDict ∧ o.data = .dict es ep ∧ Paired EntR xs ys ∧ es.toList = ys.map (entryOfKey (nestedKind P w))
def objX (a : Addr) (o : Obj) : HO := .ext fun h => h.get? a = some o
structure DictIs (P : Program) (w : World) (a : Addr) (o : Obj) (xs : List (NestedKey × Addr × V)) : Prop where
  mods : (a == sysModules) = false
  is : ∃ es ep ys, o.ExactDict ∧ o.data = .dict es ep ∧ Paired EntR xs ys ∧ es.toList = ys.map (entryOfKey (nestedKind P w))
def Still (k : NestedKey) : Prop := ∀ w w' : World, k.hash w = k.hash w'
end TW
set_option Elab.async false
set_option linter.all false
set_option maxRecDepth 100000
namespace TW
open PySem PySem.Spec PyProof.Rows L2
abbrev D := PyData
inductive C where
  | un | dat (d : D) | own (t : Bool) (ds : List D)
inductive R (α : Type) where
  | ok (a : α) | err (c : Nat) (xs : List D) | bad
abbrev M (α : Type) := List C → R (α × List C)
@[inline] def M.pure {α : Type} (a : α) : M α := fun cs => .ok (a, cs)
def R.bind {α β : Type} (r : R α) (k : α → R β) : R β := match r with
  | .ok a => k a
  | .err c xs => .err c xs
  | .bad => .bad
def M.bind {α β : Type} (m : M α) (k : α → M β) : M β := fun cs => match m cs with
  | .ok (a, cs') => k a cs'
  | .err c xs => .err c xs
  | .bad => .bad
def M.lift {α : Type} (r : R α) : M α := fun cs => match r with
  | .ok a => .ok (a, cs)
  | .err c xs => .err c xs
  | .bad => .bad
def NT (o : HO) : Prop := ∀ ps, o ≠ .tbl ps
mutual
inductive Rp (K : PySem.W.Frag) (G : Hp) : V → D → Prop
  | non : Rp K G .non .none
  | bl (b : Bool) : Rp K G (.bl b) (.bool b)
  | int (i : Int) : Rp K G (.int i) (.int i)
  | str (x : Str) : Rp K G (.str x) (.str x)
  | lst {a : Addr} {xs : List V} {ds : List D} : G a = some (.lst xs) → ds.length ≤ sizeLine → RpAll K G xs ds → Rp K G (.ref a) (.list ds)
  | scr {a : Addr} {xs : List V} {ds : List D} : SqL K G a xs → ds.length ≤ sizeLine → RpAll K G xs ds → Rp K G (.ref a) (.dict [(.none, .list ds)])
  | tup {a : Addr} {xs : List V} {ds : List D} : SqN G a xs → ds.length ≤ sizeLine → RpAll K G xs ds → Rp K G (.ref a) (.tuple ds)
  | zp {a : Addr} {xs : List V} {ds : List D} : SqT K G a xs → RpAll K G xs ds → Rp K G (.ref a) (.dict [(.bool true, .tuple ds)])
  | dct {a : Addr} : G a = some (.dK []) → Rp K G (.ref a) (.dict [])
  | ex0 {a : Addr} : Rp K G (.ref a) (.dict [(.int a, .none)])
  | exF {a dd : Addr} {m n : Int} : G dd = some (.xd [("most", .int n), ("many", .int m)]) → Rp K G (.ref a) (.dict [(.int a, .tuple [.int dd, .int m, .int n])])
  | lam {f c : Addr} {q : Str} : G c = some (LamX.CodeO c q) → Rp K G (.ref f) (.dict [(.none, .tuple [.int f, .int c, .str q])])
  | dik {P : Program} {w : World} {a : Addr} {o : Obj} {xs : List (NestedKey × Addr × V)} {ds : List D} : G a = some (objX a o) → DictIs P w a o xs → xs.length ≤ sizeLine → (xs.map (·.1)).Nodup → (∀ x ∈ xs, x.1.depth ≤ 8 ∧ Still x.1) → RpAll K G (xs.map fun x => .ref x.2.1) (xs.map (·.1.data)) → RpAll K G (xs.map (·.2.2)) ds → Rp K G (.ref a) (.dict ((.bool false, .none) :: (xs.map (·.1.data)).zip ds))
inductive RpAll (K : PySem.W.Frag) (G : Hp) : List V → List D → Prop
  | nil : RpAll K G [] []
  | cons {v : V} {vs : List V} {d : D} {ds : List D} : Rp K G v d → RpAll K G vs ds → RpAll K G (v :: vs) (d :: ds)
end
theorem Same.sqn {H H' : Hp} {a : Addr} {xs : List V} (e : Same H H') (h : SqN H a xs) : SqN H' a xs := let ⟨o, q, d⟩ := h; ⟨o, e _ _ q, d⟩
theorem Same.sqt {K : PySem.W.Frag} {H H' : Hp} {a : Addr} {xs : List V} (e : Same H H') (h : SqT K H a xs) : SqT K H' a xs := by
  rcases h with (h | ⟨o, h⟩) | h
  · exact .inl (.inl (e _ _ h))
  · exact .inl (.inr ⟨o, e _ _ h⟩)
  · exact .inr h
mutual
theorem Rp.mono {K : PySem.W.Frag} {G G' : Hp} (e : Same G G') : ∀ {v : V} {d : D}, Rp K G v d → Rp K G' v d
  | _, _, .non => .non
  | _, _, .bl b => .bl b
  | _, _, .int i => .int i
  | _, _, .str x => .str x
  | _, _, .lst h z a => .lst (e _ _ h) z (RpAll.mono e a)
  | _, _, .scr h z a => .scr (Same.seq e h) z (RpAll.mono e a)
  | _, _, .tup h z a => .tup (Same.sqn e h) z (RpAll.mono e a)
  | _, _, .zp h a => .zp (Same.sqt e h) (RpAll.mono e a)
  | _, _, .dct h => .dct (e _ _ h)
  | _, _, .ex0 => .ex0
  | _, _, .exF h => .exF (e _ _ h)
  | _, _, .lam h => .lam (e _ _ h)
  | _, _, .dik h i y n z k a => .dik (e _ _ h) i y n z (RpAll.mono e k) (RpAll.mono e a)
theorem RpAll.mono {K : PySem.W.Frag} {G G' : Hp} (e : Same G G') : ∀ {vs : List V} {ds : List D}, RpAll K G vs ds → RpAll K G' vs ds
  | _, _, .nil => .nil
  | _, _, .cons h t => .cons (Rp.mono e h) (RpAll.mono e t)
end
section
variable {K : PySem.W.Frag} {G H : Hp}
theorem RpAll.length : ∀ {vs : List V} {ds : List D}, RpAll K G vs ds → vs.length = ds.length
  | _, _, .nil => rfl
  | _, _, .cons _ t => congrArg (· + 1) (RpAll.length t)
theorem RpAll.get : ∀ {vs : List V} {ds : List D} {i : Nat} {d : D}, RpAll K G vs ds → ds[i]? = some d → ∃ v, vs[i]? = some v ∧ Rp K G v d
  | _, _, _, _, .nil, e => by simp at e
  | _, _, 0, _, .cons h _, e => by simp at e; subst e; exact ⟨_, rfl, h⟩
  | _, _, i + 1, d, .cons _ t, e => by
    obtain ⟨v, h1, h2⟩ := RpAll.get (i := i) t (by simpa using e)
    exact ⟨v, by simpa using h1, h2⟩
theorem RpAll.append : ∀ {vs ws : List V} {ds es : List D}, RpAll K G vs ds → RpAll K G ws es → RpAll K G (vs ++ ws) (ds ++ es)
  | _, _, _, _, .nil, s => s
  | _, _, _, _, .cons h t, s => .cons h (RpAll.append t s)
theorem RpAll.take : ∀ (n : Nat) {vs : List V} {ds : List D}, RpAll K G vs ds → RpAll K G (vs.take n) (ds.take n)
  | 0, _, _, _ => .nil
  | _ + 1, _, _, .nil => .nil
  | n + 1, _, _, .cons h t => .cons h (RpAll.take n t)
theorem RpAll.drop : ∀ (n : Nat) {vs : List V} {ds : List D}, RpAll K G vs ds → RpAll K G (vs.drop n) (ds.drop n)
  | 0, _, _, h => h
  | _ + 1, _, _, .nil => .nil
  | n + 1, _, _, .cons _ t => RpAll.drop n t
theorem RpAll.set {v : V} {d : D} (h : Rp K G v d) : ∀ (i : Nat) {vs : List V} {ds : List D}, RpAll K G vs ds → RpAll K G (vs.set i v) (ds.set i d)
  | _, _, _, .nil => .nil
  | 0, _, _, .cons _ t => .cons h t
  | i + 1, _, _, .cons q t => .cons q (RpAll.set h i t)
theorem RpAll.eraseIdx : ∀ (i : Nat) {vs : List V} {ds : List D}, RpAll K G vs ds → RpAll K G (vs.eraseIdx i) (ds.eraseIdx i)
  | _, _, _, .nil => .nil
  | 0, _, _, .cons _ t => t
  | i + 1, _, _, .cons q t => .cons q (RpAll.eraseIdx i t)
theorem RpAll.reverse {vs : List V} {ds : List D} (h : RpAll K G vs ds) : RpAll K G vs.reverse ds.reverse := by
  induction ds generalizing vs with
  | nil => cases h; exact .nil
  | cons d ds ih =>
    cases h with
    | cons a b =>
      rw [List.reverse_cons, List.reverse_cons]
      exact (ih b).append (.cons a .nil)
theorem Rp.ofInt {v : V} {i : Int} (h : Rp K G v (.int i)) : v = .int i := by cases h; rfl
theorem Rp.ofBl {v : V} {b : Bool} (h : Rp K G v (.bool b)) : v = .bl b := by cases h; rfl
theorem Rp.ofStr {v : V} {x : Str} (h : Rp K G v (.str x)) : v = .str x := by cases h; rfl
theorem Rp.ofNon {v : V} (h : Rp K G v .none) : v = .non := by cases h; rfl
theorem Rp.ofScr {v : V} {ds : List D} (h : Rp K G v (.dict [(.none, .list ds)])) : ∃ a xs, v = .ref a ∧ SqL K G a xs ∧ ds.length ≤ sizeLine ∧ RpAll K G xs ds := by cases h with | scr h z a => exact ⟨_, _, rfl, h, z, a⟩
theorem Rp.ofLst {v : V} {ds : List D} (h : Rp K G v (.list ds)) : ∃ a xs, v = .ref a ∧ G a = some (.lst xs) ∧ ds.length ≤ sizeLine ∧ RpAll K G xs ds := by cases h with | lst h z a => exact ⟨_, _, rfl, h, z, a⟩
theorem Rp.ofTup {v : V} {ds : List D} (h : Rp K G v (.tuple ds)) : ∃ a xs, v = .ref a ∧ SqT K G a xs ∧ ds.length ≤ sizeLine ∧ RpAll K G xs ds := by cases h with | tup h z a => exact ⟨_, _, rfl, h.sqt, z, a⟩
theorem Rp.ofZp {v : V} {ds : List D} (h : Rp K G v (.dict [(.bool true, .tuple ds)])) : ∃ a xs, v = .ref a ∧ SqT K G a xs ∧ RpAll K G xs ds := by cases h with | zp h a => exact ⟨_, _, rfl, h, a⟩
end
mutual
/-- no dict in it -/
def noDict : D → Bool
  | .none | .bool _ | .int _ | .str _ => true
  | .list xs | .tuple xs => noDictAll xs
  | .dict _ => false
def noDictAll : List D → Bool
  | [] => true
  | x :: xs => noDict x && noDictAll xs
end
section
variable {K : PySem.W.Frag} {G : Hp}
mutual
theorem Rp.dp : ∀ {v : V} {d : D}, noDict d = true → Rp K G v d → Dp K G v d
  | _, _, _, .non => .non
  | _, _, _, .bl b => .bl b
  | _, _, _, .int i => .int i
  | _, _, _, .str x => .str x
  | _, .list ds, n, .lst h z a => .lst (SqL.of h) (RpAll.dp (by simpa [noDict] using n) a)
  | _, .tuple ds, n, .tup h z a => .tup h.sqt (RpAll.dp (by simpa [noDict] using n) a)
  | _, _, n, .dct h => by simp [noDict] at n
  | _, _, n, .scr _ _ _ => by simp [noDict] at n
  | _, _, n, .zp _ _ => by simp [noDict] at n
  | _, _, n, .ex0 => by simp [noDict] at n
  | _, _, n, .exF _ => by simp [noDict] at n
  | _, _, n, .lam _ => by simp [noDict] at n
  | _, _, n, .dik _ _ _ _ _ _ _ => by simp [noDict] at n
theorem RpAll.dp : ∀ {vs : List V} {ds : List D}, noDictAll ds = true → RpAll K G vs ds → DpAll K G vs ds
  | _, _, _, .nil => .nil
  | _, d :: ds, n, .cons h t => by
    simp only [noDictAll, Bool.and_eq_true] at n
    exact .cons (Rp.dp n.1 h) (RpAll.dp n.2 t)
end
mutual
theorem noDict_of : ∀ d : D, d.canLay0 = true → noDict d = true
  | .none, _ | .bool _, _ | .int _, _ | .str _, _ => by simp [noDict]
  | .list xs, h | .tuple xs, h => by
    simp only [noDict]
    exact noDictAll_of xs (by simpa [PyData.canLay0] using h)
  | .dict _, h => by simp [PyData.canLay0] at h
theorem noDictAll_of : ∀ ds : List D, PyData.canLayAll0 ds = true → noDictAll ds = true
  | [], _ => by simp [noDictAll]
  | d :: ds, h => by
    simp only [PyData.canLayAll0, Bool.and_eq_true] at h
    simp only [noDictAll, noDict_of d h.1, noDictAll_of ds h.2, Bool.and_self]
end
end
def Ow (t : Bool) (δ : List C) (σ : L2.St) (b : Addr) : Prop := ∃ (i : Nat) (ds : List D), δ[i]? = some (.own t ds) ∧ σ[i]? = some (some (.ref b))
def OwA (δ : List C) (σ : L2.St) (b : Addr) : Prop := ∃ t, Ow t δ σ b
def tabAt (K : PySem.W.Frag) (x : Str) : Option Addr := match PySem.W.nsIn K mainGlobals x with
  | some (some (.ref f)) => match K.lookup f with
    | some ⟨_, _, .func fd, _⟩ => match fd.code with
      | .ref c => match K.lookup c with
        | some ⟨_, _, .fields vs, _⟩ => match (vs[11]? : Option Value) with
          | some (Value.ref P) => some P
          | _ => none
        | _ => none
      | _ => none
    | _ => none
  | _ => none
def lamQ : List (Str × Str) := [("law", "law.<locals>.<lambda>"), ("_law_within_right", "_law_within_right.<locals>.<lambda>"), ("_law_refusals_right", "_law_refusals_right.<locals>.<lambda>"),
  ("_law_sharings_right", "_law_sharings_right.<locals>.<lambda>"), ("_law_right", "_law_right.<locals>.<lambda>"), ("_law_lists_right", "_law_lists_right.<locals>.<lambda>"), ("_law_papers_right", "_law_papers_right.<locals>.<lambda>"),
  ("_law_great_right", "_law_great_right.<locals>.<lambda>"), ("_law_told_right", "_law_told_right.<locals>.<lambda>"), ("_law_desks_right", "_law_desks_right.<locals>.<lambda>"), ("_law_texts_right", "_law_texts_right.<locals>.<lambda>")]
def lamT (K : PySem.W.Frag) : List (Addr × Str) := lamQ.filterMap fun z => (tabAt K z.1).map fun P => (P, z.2)
structure Rel (K : PySem.W.Frag) (δ : List C) (G : Hp) (σ : L2.St) (H : Hp) : Prop where
  len : δ.length = σ.length
  same : Same G H
  nt : ∀ b o, G b = some o → NT o
  dat : ∀ (i : Nat) (d : D), δ[i]? = some (.dat d) → ∃ v, σ[i]? = some (some v) ∧ Rp K G v d
  own : ∀ (i : Nat) (t : Bool) (ds : List D), δ[i]? = some (.own t ds) → ∃ p vs, σ[i]? = some (some (.ref p)) ∧ H p = some (.lst vs) ∧ G p = none ∧ ds.length ≤ sizeLine ∧ RpAll K G vs ds
  inj : ∀ (i j : Nat) (p : Addr) (t u : Bool) (ds es : List D), δ[i]? = some (.own t ds) → δ[j]? = some (.own u es) → σ[i]? = some (some (.ref p)) → σ[j]? = some (some (.ref p)) → i = j
  tabs : LamX.Tabs (lamT K) H
def Fre (H : Hp) (b : Addr) : Prop := ∀ o, H b = some o → ¬ NT o
theorem fre_none {H : Hp} {b : Addr} (h : H b = none) : Fre H b := fun o e => by rw [h] at e; cases e
theorem Fre.not {H : Hp} {b : Addr} {xs : List V} (h : Fre H b) (e : H b = some (.lst xs)) {α : Prop} : α := (h _ e fun _ z => nomatch z).elim
def NewAt (H : Hp) (b : Addr) (o : HO) : Prop := Fre H b ∨ ∃ q, o = LamX.CodeO b q
theorem code_not_lst {b : Addr} {q : Str} {xs : List V} (e : (HO.lst xs) = LamX.CodeO b q) {α : Prop} : α := by unfold LamX.CodeO at e; cases e
theorem NewAt.not {H H' : Hp} {b : Addr} {o : HO} {xs ys : List V} (z : NewAt H b o) (h : H b = some (.lst xs)) (h1 : H' b = some o) (h2 : H' b = some (.lst ys)) {α : Prop} : α := by
  rcases z with z | ⟨q, z⟩
  · exact z.not h
  · subst z
    rw [h2] at h1
    exact code_not_lst (Option.some.inj h1)
structure Ext (δ : List C) (G H : Hp) (σ : L2.St) (δ' : List C) (G' H' : Hp) (σ' : L2.St) : Prop where
  keep : ∀ b o, H b = some o → NT o → ¬ OwA δ σ b → H' b = some o
  back : ∀ b, Fre H' b → Fre H b
  same : Same G G'
  new : ∀ b o, G' b = some o → G b = some o ∨ NewAt H b o ∨ Ow false δ σ b
  own : ∀ b, Ow false δ' σ' b → Ow false δ σ b ∨ Fre H b
  par : ∀ b, Ow true δ' σ' b → Ow true δ σ b
structure EExt (K : PySem.W.Frag) (δ : List C) (σ : L2.St) (H H' : Hp) : Prop where
  keep : ∀ b o, H b = some o → NT o → ¬ OwA δ σ b → H' b = some o
  back : ∀ b, Fre H' b → Fre H b
  tabs : LamX.Tabs (lamT K) H'
section
variable {δ δ1 δ2 : List C} {G G1 G2 H H1 H2 : Hp} {σ σ1 σ2 : L2.St}
theorem Ext.refl : Ext δ G H σ δ G H σ := ⟨fun _ _ h _ _ => h, fun _ h => h, Same.refl _, fun _ _ h => .inl h, fun _ h => .inl h, fun _ h => h⟩
theorem Ext.owA (a : Ext δ G H σ δ1 G1 H1 σ1) {b : Addr} (h : OwA δ1 σ1 b) : OwA δ σ b ∨ Fre H b := by
  obtain ⟨t, h⟩ := h
  cases t with
  | true => exact .inl ⟨true, a.par b h⟩
  | false => exact (a.own b h).imp (fun z => ⟨false, z⟩) id
theorem Ext.none_back (a : Ext δ G H σ δ1 G1 H1 σ1) {b : Addr} (h : Fre H1 b) : Fre H b := a.back b h
theorem Ext.trans (a : Ext δ G H σ δ1 G1 H1 σ1) (b : Ext δ1 G1 H1 σ1 δ2 G2 H2 σ2) : Ext δ G H σ δ2 G2 H2 σ2 where
  keep := fun c o h n w => b.keep c o (a.keep c o h n w) n fun z => by
    rcases a.owA z with z | z
    · exact w z
    · exact z _ h n
  back := fun c h => a.back c (b.back c h)
  same := a.same.trans b.same
  new := fun c o h => by
    rcases b.new c o h with h | h | h
    · exact a.new c o h
    · exact .inr (.inl (h.imp (fun z => a.none_back z) id))
    · rcases a.own c h with h | h
      · exact .inr (.inr h)
      · exact .inr (.inl (.inl h))
  own := fun c h => by
    rcases b.own c h with h | h
    · exact a.own c h
    · exact .inr (a.none_back h)
  par := fun c h => a.par c (b.par c h)
theorem EExt.after {K : PySem.W.Frag} (a : Ext δ G H σ δ1 G1 H1 σ1) (b : EExt K δ1 σ1 H1 H2) : EExt K δ σ H H2 where
  keep := fun c o h n w => b.keep c o (a.keep c o h n w) n fun z => by
    rcases a.owA z with z | z
    · exact w z
    · exact z _ h n
  back := fun c h => a.back c (b.back c h)
  tabs := b.tabs
end
structure Grow (G H G' H' : Hp) : Prop where
  keep : Same H H'
  same : Same G G'
  sub : Same G' H'
  nt : ∀ b o, G' b = some o → NT o
  new : ∀ b o, G' b = some o → G b = some o ∨ H b = none
theorem tabs_keep {H H' : Hp} (e : Same H H') : ∀ T, LamX.Tabs T H → LamX.Tabs T H' := fun T h => h.ext e
section
variable {K : PySem.W.Frag} {δ : List C} {G G' H H' : Hp} {σ : L2.St}
theorem Same.there {H H' : Hp} (e : Same H H') : ∀ b, Fre H' b → Fre H b := fun b h o q => h o (e b o q)
theorem Grow.ext (g : Grow G H G' H') : Ext δ G H σ δ G' H' σ :=
  ⟨fun b o h _ _ => g.keep b o h, Same.there g.keep, g.same, fun b o h => (g.new b o h).imp id fun z => .inl (.inl (fre_none z)), fun _ h => .inl h, fun _ h => h⟩
theorem Grow.rel (g : Grow G H G' H') (r : Rel K δ G σ H) : Rel K δ G' σ H' := by
  refine ⟨r.len, g.sub, g.nt, fun i d e => ?_, fun i t ds e => ?_, r.inj, tabs_keep g.keep _ r.tabs⟩
  · obtain ⟨v, h1, h2⟩ := r.dat i d e
    exact ⟨v, h1, h2.mono g.same⟩
  · obtain ⟨p, vs, h1, h2, h3, h4, h5⟩ := r.own i t ds e
    refine ⟨p, vs, h1, g.keep _ _ h2, ?_, h4, h5.mono g.same⟩
    cases q : G' p with
    | none => rfl
    | some o =>
      rcases g.new p o q with z | z
      · rw [h3] at z; cases z
      · rw [h2] at z; cases z
theorem Grow.refl (r : Rel K δ G σ H) : Grow G H G H := ⟨Same.refl _, Same.refl _, r.same, r.nt, fun _ _ h => .inl h⟩
theorem same_upd {H : Hp} {p : Addr} {o : HO} (h : H p = none) : Same H (upd H p o) := fun b x e => by
  rw [upd_ne (ne_of_none e h)]; exact e
theorem Grow.laid {p : Addr} {o : HO} (hs : Same G H) (hn : ∀ b o, G b = some o → NT o) (h : H p = none) (no : NT o) : Grow G H (upd G p o) (upd H p o) := by
  have hg : G p = none := Same.free hs h
  refine ⟨same_upd h, same_upd hg, fun b x e => ?_, fun b x e => ?_, fun b x e => ?_⟩
  · by_cases q : b = p
    · subst q; rw [upd_same] at e ⊢; exact e
    · rw [upd_ne q] at e ⊢; exact hs b x e
  · by_cases q : b = p
    · subst q; rw [upd_same] at e; cases e; exact no
    · rw [upd_ne q] at e; exact hn b x e
  · by_cases q : b = p
    · subst q; exact .inr h
    · rw [upd_ne q] at e; exact .inl e
theorem Grow.alloc {p : Addr} {o : HO} (hs : Same G H) (hn : ∀ b o, G b = some o → NT o) (h : H p = none) : Grow G H G (upd H p o) :=
  ⟨same_upd h, Same.refl _, hs.trans (same_upd h), hn, fun _ _ e => .inl e⟩
theorem nt_lst {xs : List V} : NT (.lst xs) := fun _ e => nomatch e
theorem nt_tup {xs : List V} : NT (.tup xs) := fun _ e => nomatch e
theorem nt_frz {o : Obj} {u : HO} : NT (.frz o u) := fun _ e => nomatch e
end
def ErrR (ct : Nat → Addr) (n : Nat) (xs : List D) (cls : Value) (dx : Option Addr) (H : Hp) : Prop :=
  cls = .ref (ct n) ∧ match xs with
    | [] => dx = none
    | [.int a, .int b] => ∃ d, dx = some d ∧ H d = some (.xd [("most", .int b), ("many", .int a)])
    | _ => False
class Anti {α β : Type} (P : Hp → Hp → Hp → List C → L2.St → β → α → Prop) : Prop where
  anti : ∀ {δ δ1 : List C} {G H G1 H1 : Hp} {σ σ1 : L2.St} {G' H' : Hp} {δ' : List C} {σ' : L2.St} {v : β} {a : α}, Ext δ G H σ δ1 G1 H1 σ1 → P H1 G' H' δ' σ' v a → P H G' H' δ' σ' v a
def Post {α β : Type} (K : PySem.W.Frag) (ct : Nat → Addr) (W : WX) (P : Hp → Hp → Hp → List C → L2.St → β → α → Prop) (r : R (α × List C)) (δ : List C) (G H : Hp) (σ : L2.St) (Q : β → Hp → Prop) : Prop :=
  match r with
  | .ok (a, δ') => ∀ v G' H', Ext δ G H σ δ' G' H' σ → Rel K δ' G' σ H' → P H G' H' δ' σ v a → Q v H'
  | .err n xs => ∀ cls dx σ' H', EExt K δ σ H H' → ErrR ct n xs cls dx H' → W cls dx σ' H'
  | .bad => False
def tG {α β : Type} (K : PySem.W.Frag) (ct : Nat → Addr) (W : WX) (P : Hp → Hp → Hp → List C → L2.St → β → α → Prop) (m : M α) : L2.St → Hp → (β → Hp → Prop) → Prop := fun σ H Q =>
  ∃ δ G, Rel K δ G σ H ∧ Post K ct W P (m δ) δ G H σ Q
def PD (K : PySem.W.Frag) : Hp → Hp → Hp → List C → L2.St → V → D → Prop := fun _ G' _ _ _ v d => Rp K G' v d
def PB : Hp → Hp → Hp → List C → L2.St → Bool → Bool → Prop := fun _ _ _ _ _ v d => v = d
def PAs (K : PySem.W.Frag) : Hp → Hp → Hp → List C → L2.St → List V → List D → Prop := fun _ G' _ _ _ v d => RpAll K G' v d
def PN (K : PySem.W.Frag) : Hp → Hp → Hp → List C → L2.St → V → List D → Prop := fun H G' H' δ' σ' v ds =>
  ∃ p vs, v = .ref p ∧ Fre H p ∧ H' p = some (.lst vs) ∧ G' p = none ∧ ¬ OwA δ' σ' p ∧ ds.length ≤ sizeLine ∧ RpAll K G' vs ds
def RpV (K : PySem.W.Frag) (δ : List C) (σ : L2.St) (G H : Hp) (v : V) (d : D) : Prop :=
  Rp K G v d ∨ ∃ p vs ds, v = .ref p ∧ d = .list ds ∧ H p = some (.lst vs) ∧ ds.length ≤ sizeLine ∧ RpAll K G vs ds ∧
    ((∃ (i : Nat) (t : Bool), δ[i]? = some (.own t ds) ∧ σ[i]? = some (some (.ref p))) ∨ ¬ OwA δ σ p)
def PV (K : PySem.W.Frag) : Hp → Hp → Hp → List C → L2.St → V → D → Prop := fun _ G' H' δ' σ' v d => RpV K δ' σ' G' H' v d
instance {K : PySem.W.Frag} : Anti (PD K) := ⟨fun _ h => h⟩
instance : Anti PB := ⟨fun _ h => h⟩
instance {K : PySem.W.Frag} : Anti (PAs K) := ⟨fun _ h => h⟩
instance {K : PySem.W.Frag} : Anti (PV K) := ⟨fun _ h => h⟩
instance {K : PySem.W.Frag} : Anti (PN K) := ⟨fun e ⟨p, vs, h1, h2, h3⟩ => ⟨p, vs, h1, e.none_back h2, h3⟩⟩
section
variable {K : PySem.W.Frag} {ct : Nat → Addr} {W : WX} {α β γ ε : Type} {P : Hp → Hp → Hp → List C → L2.St → β → α → Prop} {P' : Hp → Hp → Hp → List C → L2.St → ε → γ → Prop} {δ : List C} {G H : Hp} {σ : L2.St} {Q : ε → Hp → Prop}
theorem Post.at [Anti P'] {r : R (γ × List C)} {δ1 : List C} {G1 H1 : Hp} (x : Ext δ G H σ δ1 G1 H1 σ) (h : Post K ct W P' r δ G H σ Q) : Post K ct W P' r δ1 G1 H1 σ Q := by
  cases r with
  | ok p => exact fun v G' H' x' r' q => h v G' H' (x.trans x') r' (Anti.anti x q)
  | err n xs => exact fun cls dx σ' H' x' e => h cls dx σ' H' (.after x x') e
  | bad => exact h
theorem step [Anti P'] {m : M α} {k : α → M γ} {Q1 : β → Hp → Prop} (rel : Rel K δ G σ H) (h : Post K ct W P' (M.bind m k δ) δ G H σ Q)
    (next : ∀ a δ1 v G1 H1, m δ = .ok (a, δ1) → Ext δ G H σ δ1 G1 H1 σ → Rel K δ1 G1 σ H1 → P H G1 H1 δ1 σ v a → Post K ct W P' (k a δ1) δ1 G1 H1 σ Q → Q1 v H1) :
    Post K ct W P (m δ) δ G H σ Q1 := by
  unfold M.bind at h
  cases e : m δ with
  | ok p =>
    obtain ⟨a, δ1⟩ := p
    rw [e] at h
    exact fun v G1 H1 x r q => next a δ1 v G1 H1 e x r q (Post.at x h)
  | err n xs => rw [e] at h; exact h
  | bad => rw [e] at h; exact h
theorem tG.step [Anti P'] {m : M α} {k : α → M γ} {Q1 : β → Hp → Prop} (h : tG K ct W P' (M.bind m k) σ H Q)
    (next : ∀ a δ1 v G1 H1, Rel K δ1 G1 σ H1 → P H G1 H1 δ1 σ v a → Post K ct W P' (k a δ1) δ1 G1 H1 σ Q → Q1 v H1) : tG K ct W P m σ H Q1 := by
  obtain ⟨δ, G, rel, h⟩ := h
  exact ⟨δ, G, rel, TW.step rel h fun a δ1 v G1 H1 _ _ r q h => next a δ1 v G1 H1 r q h⟩
theorem Post.done [Anti P'] {a : γ} {v : ε} {G' H' : Hp} (h : Post K ct W P' (.ok (a, δ)) δ G H σ Q) (rel : Rel K δ G σ H) (g : Grow G H G' H') (q : P' H G' H' δ σ v a) : Q v H' := h v G' H' g.ext (g.rel rel) q
end
theorem PE.conv {X : Cx} {e : Expr} {t t' : TE} (h : PE X e t) (i : ∀ σ H Q, t' σ H Q → t σ H Q) : PE X e t' := ⟨fun pins s σ H Q I q => h.run pins s σ H Q I (i σ H Q q)⟩
theorem PT.conv {X : Cx} {e : Expr} {t t' : TT} (h : PT X e t) (i : ∀ σ H Q, t' σ H Q → t σ H Q) : PT X e t' := ⟨fun pins s σ H Q I q => h.run pins s σ H Q I (i σ H Q q)⟩
theorem PA.conv {X : Cx} {es : List Expr} {t t' : TA} (h : PA X es t) (i : ∀ σ H Q, t' σ H Q → t σ H Q) : PA X es t' := ⟨fun pos pins s σ H Q I q => h.run pos pins s σ H Q I (i σ H Q q)⟩
theorem PS.conv {X : Cx} {e : Stmt} {t t' : TS} (h : PS X e t) (i : ∀ D σ H, t' D σ H → t D σ H) : PS X e t' := ⟨fun pins s σ H D I q => h.run pins s σ H D I (i D σ H q)⟩
theorem PSs.conv {X : Cx} {e : List Stmt} {t t' : TS} (h : PSs X e t) (i : ∀ D σ H, t' D σ H → t D σ H) : PSs X e t' := ⟨fun pins s σ H D I q => h.run pins s σ H D I (i D σ H q)⟩
theorem PI.conv {X : Cx} {tg e : Expr} {t t' : TI} (h : PI X tg e t) (i : ∀ σ H Q, t' σ H Q → t σ H Q) : PI X tg e t' := ⟨fun pins s σ H Q I q => h.run pins s σ H Q I (i σ H Q q)⟩
abbrev VE (ct : Nat → Addr) (W : WX) (X : Cx) (e : Expr) (m : M D) : Prop := PE X e (tG X.K ct W (PD X.K) m)
abbrev VV (ct : Nat → Addr) (W : WX) (X : Cx) (e : Expr) (m : M D) : Prop := PE X e (tG X.K ct W (PV X.K) m)
abbrev VN (ct : Nat → Addr) (W : WX) (X : Cx) (e : Expr) (m : M (List D)) : Prop := PE X e (tG X.K ct W (PN X.K) m)
abbrev VT (ct : Nat → Addr) (W : WX) (X : Cx) (e : Expr) (m : M Bool) : Prop := PT X e (tG X.K ct W PB m)
abbrev VA (ct : Nat → Addr) (W : WX) (X : Cx) (es : List Expr) (m : M (List D)) : Prop := PA X es (tG X.K ct W (PAs X.K) m)
end TW
set_option Elab.async false
set_option linter.all false
set_option maxRecDepth 100000
namespace TW
open PySem PySem.Spec PyProof.Rows L2
section
variable {K : PySem.W.Frag} {δ δ1 : List C} {G H G1 H1 : Hp} {σ : L2.St} {v : V} {d : D}
theorem RpV.of (h : Rp K G v d) : RpV K δ σ G H v d := .inl h
theorem RpV.at (x : Ext δ G H σ δ G1 H1 σ) (r : Rel K δ G1 σ H1) (h : RpV K δ σ G H v d) : RpV K δ σ G1 H1 v d := by
  rcases h with h | ⟨p, vs, ds, h1, h2, h3, h4, h5, h6⟩
  · exact .inl (h.mono x.same)
  · rcases h6 with ⟨i, t, e1, e2⟩ | h6
    · obtain ⟨q, ws, a1, a2, a3, a4, a5⟩ := r.own i t ds e1
      rw [e2] at a1
      cases a1
      exact .inr ⟨p, ws, ds, h1, h2, a2, a4, a5, .inl ⟨i, t, e1, e2⟩⟩
    · exact .inr ⟨p, vs, ds, h1, h2, x.keep p _ h3 nt_lst h6, h4, h5.mono x.same, .inr h6⟩
theorem RpV.int {i : Int} (h : RpV K δ σ G H v (.int i)) : v = .int i := by
  rcases h with h | ⟨p, vs, ds, _, h2, _⟩
  · exact h.ofInt
  · cases h2
theorem RpV.bl {b : Bool} (h : RpV K δ σ G H v (.bool b)) : v = .bl b := by
  rcases h with h | ⟨p, vs, ds, _, h2, _⟩
  · exact h.ofBl
  · cases h2
theorem RpV.str {x : Str} (h : RpV K δ σ G H v (.str x)) : v = .str x := by
  rcases h with h | ⟨p, vs, ds, _, h2, _⟩
  · exact h.ofStr
  · cases h2
theorem RpV.non (h : RpV K δ σ G H v .none) : v = .non := by
  rcases h with h | ⟨p, vs, ds, _, h2, _⟩
  · exact h.ofNon
  · cases h2
theorem RpV.lst {ds : List D} (s : Same G H) (h : RpV K δ σ G H v (.list ds)) : ∃ a xs, v = .ref a ∧ SqL K H a xs ∧ ds.length ≤ sizeLine ∧ RpAll K G xs ds := by
  rcases h with h | ⟨p, vs, ds', h1, h2, h3, h4, h5, _⟩
  · obtain ⟨a, xs, e, h1, h2, h3⟩ := h.ofLst
    exact ⟨a, xs, e, SqL.of (s _ _ h1), h2, h3⟩
  · cases h2
    exact ⟨p, vs, h1, SqL.of h3, h4, h5⟩
theorem RpV.lst' {ds : List D} (s : Same G H) (h : RpV K δ σ G H v (.list ds)) : ∃ a xs, v = .ref a ∧ H a = some (.lst xs) ∧ ds.length ≤ sizeLine ∧ RpAll K G xs ds := by
  rcases h with h | ⟨p, vs, ds', h1, h2, h3, h4, h5, _⟩
  · obtain ⟨a, xs, e, h1, h2, h3⟩ := h.ofLst
    exact ⟨a, xs, e, s _ _ h1, h2, h3⟩
  · cases h2
    exact ⟨p, vs, h1, h3, h4, h5⟩
theorem RpV.scr {ds : List D} (s : Same G H) (h : RpV K δ σ G H v (.dict [(.none, .list ds)])) : ∃ a xs, v = .ref a ∧ SqL K H a xs ∧ ds.length ≤ sizeLine ∧ RpAll K G xs ds := by
  rcases h with h | ⟨p, vs, ds', h1, h2, h3, h4, h5, _⟩
  · obtain ⟨a, xs, e, h1, h2, h3⟩ := h.ofScr
    exact ⟨a, xs, e, Same.seq s h1, h2, h3⟩
  · cases h2
theorem RpV.tup {ds : List D} (s : Same G H) (h : RpV K δ σ G H v (.tuple ds)) : ∃ a xs, v = .ref a ∧ SqT K H a xs ∧ ds.length ≤ sizeLine ∧ RpAll K G xs ds := by
  rcases h with h | ⟨p, vs, ds', h1, h2, h3, h4, h5, _⟩
  · obtain ⟨a, xs, e, h1, h2, h3⟩ := h.ofTup
    exact ⟨a, xs, e, Same.sqt s h1, h2, h3⟩
  · cases h2
theorem RpV.dp (s : Same G H) (n : noDict d = true) (h : RpV K δ σ G H v d) : Dp K H v d := by
  rcases h with h | ⟨p, vs, ds', h1, h2, h3, h4, h5, _⟩
  · exact (h.mono s).dp n
  · subst h1; subst h2
    exact .lst (SqL.of h3) ((h5.mono s).dp (by simpa [noDict] using n))
theorem RpAll.atI {vs : List V} {ds : List D} {i : Int} {d : D} (h : RpAll K G vs ds) (e : atI ds i = some d) : ∃ v, atI vs i = some v ∧ Rp K G v d := by
  unfold L2.atI at e ⊢
  rw [h.length]
  cases q : ixN ds.length i with
  | none => rw [q] at e; cases e
  | some j =>
    rw [q] at e
    exact h.get (i := j) (by simpa using e)
theorem shaped_noDict {d : D} (h : SeqAt.shaped d = true) : noDict d = true := noDict_of d (SeqAt.canLay_of_shaped h)
end
def mVar (i : Nat) : M D := fun cs => match cs[i]? with
  | some (.dat d) => .ok (d, cs)
  | some (.own false ds) => .ok (.list ds, cs.set i (.dat (.list ds)))
  | _ => .bad
def vVar (i : Nat) : M D := fun cs => match cs[i]? with
  | some (.dat d) => .ok (d, cs)
  | some (.own _ ds) => .ok (.list ds, cs)
  | _ => .bad
def mC (d : D) : M D := M.pure d
section
variable {ct : Nat → Addr} {W : WX} {X : Cx} {e a b : Expr} {m ma mb : M D} {pos : Pos}
theorem freeze {K : PySem.W.Frag} {δ : List C} {G H : Hp} {σ : L2.St} {i : Nat} {ds : List D} {p : Addr} {vs : List V} (r : Rel K δ G σ H) (e1 : δ[i]? = some (.own false ds)) (e2 : σ[i]? = some (some (.ref p))) (e3 : H p = some (.lst vs)) (e4 : G p = none) (e5 : ds.length ≤ sizeLine) (e6 : RpAll K G vs ds) :
    Ext δ G H σ (δ.set i (.dat (.list ds))) (upd G p (.lst vs)) H σ ∧ Rel K (δ.set i (.dat (.list ds))) (upd G p (.lst vs)) σ H ∧ Rp K (upd G p (.lst vs)) (.ref p) (.list ds) := by
  have sg : Same G (upd G p (.lst vs)) := same_upd e4
  have hi : i < δ.length := (List.getElem?_eq_some_iff.mp e1).1
  have hrp : Rp K (upd G p (.lst vs)) (.ref p) (.list ds) := .lst upd_same e5 (e6.mono sg)
  have keep : ∀ {j : Nat} {t : Bool} {es : List D}, (δ.set i (.dat (.list ds)))[j]? = some (.own t es) → j ≠ i ∧ δ[j]? = some (.own t es) := fun {j t es} h => by
    by_cases q : j = i
    · subst q
      rw [List.getElem?_set_self hi] at h
      cases h
    · rw [List.getElem?_set_ne (Ne.symm q)] at h
      exact ⟨q, h⟩
  refine ⟨⟨fun _ _ h _ _ => h, fun _ h => h, sg, fun b o h => ?_, fun b ⟨j, es, h1, h2⟩ => .inl ⟨j, es, (keep h1).2, h2⟩, fun b ⟨j, es, h1, h2⟩ => ⟨j, es, (keep h1).2, h2⟩⟩,
    ⟨by rw [List.length_set]; exact r.len, fun b o h => ?_, fun b o h => ?_, fun j d h => ?_, fun j t es h => ?_, fun j k q t u es fs h1 h2 => r.inj j k q t u es fs (keep h1).2 (keep h2).2, r.tabs⟩, hrp⟩
  · by_cases q : b = p
    · subst q; exact .inr (.inr ⟨i, ds, e1, e2⟩)
    · rw [upd_ne q] at h; exact .inl h
  · by_cases q : b = p
    · subst q; rw [upd_same] at h; cases h; exact e3
    · rw [upd_ne q] at h; exact r.same b o h
  · by_cases q : b = p
    · subst q; rw [upd_same] at h; cases h; exact nt_lst
    · rw [upd_ne q] at h; exact r.nt b o h
  · by_cases q : j = i
    · subst q
      rw [List.getElem?_set_self hi] at h
      cases h
      exact ⟨_, e2, hrp⟩
    · rw [List.getElem?_set_ne (Ne.symm q)] at h
      obtain ⟨v, h1, h2⟩ := r.dat j d h
      exact ⟨v, h1, h2.mono sg⟩
  · obtain ⟨q, h⟩ := keep h
    obtain ⟨p', ws, a1, a2, a3, a4, a5⟩ := r.own j t es h
    have n : p' ≠ p := fun z => q (r.inj j i p t false es ds h e1 (z ▸ a1) e2)
    exact ⟨p', ws, a1, a2, by rw [upd_ne n]; exact a3, a4, a5.mono sg⟩
theorem ve_of {t : TE} {i : Nat} (h : PE X e t) (ht : ∀ σ H Q, tVar i σ H Q → t σ H Q) : VE ct W X e (mVar i) := PE.conv h fun σ H Q ⟨δ, G, r, q⟩ => ht σ H Q (by
  unfold mVar at q
  cases e1 : δ[i]? with
  | none => rw [e1] at q; exact q.elim
  | some c =>
    rw [e1] at q
    cases c with
    | un => exact q.elim
    | dat d =>
      obtain ⟨v, h1, h2⟩ := r.dat i d e1
      exact ⟨v, h1, q v G H Ext.refl r h2⟩
    | own t ds =>
      cases t with
      | true => exact q.elim
      | false =>
        obtain ⟨p, vs, h1, h2, h3, h4, h5⟩ := r.own i false ds e1
        obtain ⟨x, r', rp⟩ := freeze r e1 h1 h2 h3 h4 h5
        exact ⟨_, h1, q _ _ H x r' rp⟩)
theorem ve_var (i : Nat) {x : Str} (h : PE X (.Name x pos) (tVar i)) : VE ct W X (.Name x pos) (mVar i) := ve_of h fun _ _ _ q => q
theorem vv_var (i : Nat) {x : Str} (h : PE X (.Name x pos) (tVar i)) : VV ct W X (.Name x pos) (vVar i) := PE.conv h fun σ H Q ⟨δ, G, r, q⟩ => by
  unfold vVar at q
  cases e1 : δ[i]? with
  | none => rw [e1] at q; exact q.elim
  | some c =>
    rw [e1] at q
    cases c with
    | un => exact q.elim
    | dat d =>
      obtain ⟨v, h1, h2⟩ := r.dat i d e1
      exact ⟨v, h1, q v G H Ext.refl r (.inl h2)⟩
    | own t ds =>
      obtain ⟨p, vs, h1, h2, h3, h4, h5⟩ := r.own i t ds e1
      exact ⟨_, h1, q _ _ H Ext.refl r (.inr ⟨p, vs, ds, rfl, rfl, h2, h4, h5, .inl ⟨i, t, e1, h1⟩⟩)⟩
inductive Flat : V → D → Prop
  | non : Flat .non .none
  | bl (b : Bool) : Flat (.bl b) (.bool b)
  | int (i : Int) : Flat (.int i) (.int i)
  | str (x : Str) : Flat (.str x) (.str x)
theorem Flat.rp {K : PySem.W.Frag} {G : Hp} {v : V} {d : D} (h : Flat v d) : Rp K G v d := by
  cases h
  · exact .non
  · exact .bl _
  · exact .int _
  · exact .str _
theorem ve_c {v : V} {d : D} (h : PE X e (tC v)) (f : Flat v d) : VE ct W X e (mC d) := PE.conv h fun σ H Q ⟨δ, G, r, q⟩ => q v G H Ext.refl r f.rp
theorem vv_of (h : VE ct W X e m) : VV ct W X e m := PE.conv h fun σ H Q ⟨δ, G, r, q⟩ => ⟨δ, G, r, by
  cases e1 : m δ with
  | ok p => obtain ⟨d, δ'⟩ := p; rw [e1] at q; exact fun v G' H' x r' rp => q v G' H' x r' (.inl rp)
  | err n xs => rw [e1] at q; exact q
  | bad => rw [e1] at q; exact q.elim⟩
def mOfN (m : M (List D)) : M D := M.bind m fun ds => M.pure (.list ds)
theorem fresh_rel {K : PySem.W.Frag} {δ δ' : List C} {G H G' H' : Hp} {σ : L2.St} {p : Addr} {vs : List V} {ds : List D} (x : Ext δ G H σ δ' G' H' σ) (r : Rel K δ' G' σ H') (h1 : Fre H p) (h2 : H' p = some (.lst vs)) (h3 : G' p = none) (h4 : ¬ OwA δ' σ p) (h5 : ds.length ≤ sizeLine) (h6 : RpAll K G' vs ds) :
    Ext δ G H σ δ' (upd G' p (.lst vs)) H' σ ∧ Rel K δ' (upd G' p (.lst vs)) σ H' ∧ Rp K (upd G' p (.lst vs)) (.ref p) (.list ds) := by
  have sg : Same G' (upd G' p (.lst vs)) := same_upd h3
  refine ⟨⟨x.keep, x.back, x.same.trans sg, fun b o h => ?_, x.own, x.par⟩, ⟨r.len, fun b o h => ?_, fun b o h => ?_, fun j d h => ?_, fun j t es h => ?_, r.inj, r.tabs⟩, .lst upd_same h5 (h6.mono sg)⟩
  · by_cases q : b = p
    · subst q; exact .inr (.inl (.inl h1))
    · rw [upd_ne q] at h; exact x.new b o h
  · by_cases q : b = p
    · subst q; rw [upd_same] at h; cases h; exact h2
    · rw [upd_ne q] at h; exact r.same b o h
  · by_cases q : b = p
    · subst q; rw [upd_same] at h; cases h; exact nt_lst
    · rw [upd_ne q] at h; exact r.nt b o h
  · obtain ⟨v, a, c⟩ := r.dat j d h
    exact ⟨v, a, c.mono sg⟩
  · obtain ⟨p', ws, a1, a2, a3, a4, a5⟩ := r.own j t es h
    have n : p' ≠ p := fun z => h4 ⟨t, j, es, h, z ▸ a1⟩
    exact ⟨p', ws, a1, a2, by rw [upd_ne n]; exact a3, a4, a5.mono sg⟩
theorem ve_ofN {m : M (List D)} (h : VN ct W X e m) : VE ct W X e (mOfN m) := PE.conv h fun σ H Q ⟨δ, G, r, q⟩ => ⟨δ, G, r, by
  unfold mOfN M.bind at q
  cases e1 : m δ with
  | ok p =>
    obtain ⟨d, δ'⟩ := p
    rw [e1] at q
    intro v G' H' x r' ⟨p, vs, h0, h1, h2, h3, h4, h5, h6⟩
    subst h0
    obtain ⟨x', r2, rp⟩ := fresh_rel x r' h1 h2 h3 h4 h5 h6
    exact q _ _ _ x' r2 rp
  | err n xs => rw [e1] at q; exact q
  | bad => rw [e1] at q; exact q.elim⟩
theorem vv_ofN {m : M (List D)} (h : VN ct W X e m) : VV ct W X e (mOfN m) := PE.conv h fun σ H Q ⟨δ, G, r, q⟩ => ⟨δ, G, r, by
  unfold mOfN M.bind at q
  cases e1 : m δ with
  | ok p =>
    obtain ⟨d, δ'⟩ := p
    rw [e1] at q
    intro v G' H' x r' ⟨p, vs, h0, h1, h2, h3, h4, h5, h6⟩
    exact q _ _ _ x r' (.inr ⟨p, vs, d, h0, rfl, h2, h5, h6, .inr h4⟩)
  | err n xs => rw [e1] at q; exact q
  | bad => rw [e1] at q; exact q.elim⟩
end
def mNil : M (List D) := M.pure []
def mCons (m : M D) (ms : M (List D)) : M (List D) := M.bind m fun d => M.bind ms fun ds => M.pure (d :: ds)
def szOk (n : Nat) : Bool := decide (n ≤ 16777216)
theorem szOk_le {n : Nat} (h : szOk n = true) : n ≤ sizeLine := by rw [sizeLine_eq]; exact of_decide_eq_true h
def mTup (ms : M (List D)) : M D := M.bind ms fun ds => if szOk ds.length then M.pure (.tuple ds) else fun _ => .bad
def mLst (ms : M (List D)) : M (List D) := M.bind ms fun ds => if szOk ds.length then M.pure ds else fun _ => .bad
section
variable {ct : Nat → Addr} {W : WX} {X : Cx} {e a b : Expr} {es : List Expr} {m ma mb : M D} {ms : M (List D)} {pos : Pos}
theorem va_nil : VA ct W X [] mNil := PA.conv pa_nil fun σ H Q ⟨δ, G, r, q⟩ => q [] G H Ext.refl r .nil
theorem va_cons (ha : VE ct W X e m) (hr : VA ct W X es ms) (hs : starEach (e :: es) X.env = (false, eval e X.env) :: starEach es X.env := by rfl) : VA ct W X (e :: es) (mCons m ms) :=
  PA.conv (pa_cons ha hr hs) fun σ H Q h => tG.step h fun d δ1 v G1 H1 r1 p1 h1 => ⟨δ1, G1, r1, TW.step r1 h1 fun ds δ2 vs G2 H2 e2 x2 r2 p2 h2 => h2 (v :: vs) G2 H2 Ext.refl r2 (.cons (Rp.mono x2.same p1) p2)⟩
theorem ve_tup {k : Nat} (h : VA ct W X es ms) : VE ct W X (.Tuple es k pos) (mTup ms) :=
  PE.conv (pe_tupN h) fun σ H Q h => tG.step h fun ds δ1 vs G1 H1 r1 p1 h1 => by
    by_cases z : szOk ds.length = true
    · simp only [z, if_true] at h1
      have hl := szOk_le z
      refine ⟨by rw [RpAll.length p1]; exact hl, fun p ob hp hd => ?_⟩
      exact Post.done h1 r1 (Grow.laid r1.same r1.nt hp nt_frz) (.tup ⟨ob, upd_same, hd⟩ hl (RpAll.mono (same_upd (Same.free r1.same hp)) p1))
    · simp only [z] at h1
      exact h1.elim
theorem vn_lst (h : VA ct W X es ms) : VN ct W X (.List es pos) (mLst ms) :=
  PE.conv (pe_lst h) fun σ H Q h => tG.step h fun ds δ1 vs G1 H1 r1 p1 h1 => by
    by_cases z : szOk ds.length = true
    · simp only [z, if_true] at h1
      have hl := szOk_le z
      refine ⟨by rw [RpAll.length p1]; exact hl, fun p hp => ?_⟩
      refine Post.done h1 r1 (Grow.alloc r1.same r1.nt hp) ⟨p, vs, rfl, fre_none hp, upd_same, Same.free r1.same hp, fun ⟨t, i, es, a1, a2⟩ => ?_, hl, p1⟩
      obtain ⟨q, ws, b1, b2, _⟩ := r1.own i t es a1
      rw [a2] at b1
      cases b1
      rw [hp] at b2
      cases b2
    · simp only [z] at h1
      exact h1.elim
end
def M.only {α : Type} (r : R α) : M α := fun cs => match r with
  | .ok a => .ok (a, cs)
  | _ => .bad
def mOp2 (g : D → D → R D) (ma mb : M D) : M D := M.bind ma fun d => M.bind mb fun e => M.only (g d e)
def mOp1 (g : D → R D) (ma : M D) : M D := M.bind ma fun d => M.only (g d)
def Pure (m : M D) : Prop := ∀ cs d cs', m cs = .ok (d, cs') → cs' = cs
def R2D (K : PySem.W.Frag) (r : R2) (g : D → D → R D) : Prop := ∀ (δ : List C) (σ : L2.St) (G H : Hp) (x y : V) (d e z : D) (Q : VK), Rel K δ G σ H → RpV K δ σ G H x d → RpV K δ σ G H y e → g d e = .ok z →
  (∀ v G' H', Grow G H G' H' → Rp K G' v z → Q v H') → r x y H Q
theorem Post.only {K : PySem.W.Frag} {ct : Nat → Addr} {W : WX} {α β : Type} {P : Hp → Hp → Hp → List C → L2.St → β → α → Prop} {r : R α} {δ : List C} {G H : Hp} {σ : L2.St} {Q : β → Hp → Prop} (h : Post K ct W P (M.only r δ) δ G H σ Q) :
    ∃ a, r = .ok a ∧ Post K ct W P (.ok (a, δ)) δ G H σ Q := by
  cases r with
  | ok a => exact ⟨a, rfl, h⟩
  | err n xs => exact h.elim
  | bad => exact h.elim
section
variable {ct : Nat → Addr} {W : WX} {X : Cx} {e a b : Expr} {es : List Expr} {m ma mb : M D} {ms : M (List D)} {pos : Pos} {r : R2} {g : D → D → R D}
theorem op2_core {K : PySem.W.Frag} (hr : R2D K r g) {σ : L2.St} {H : Hp} {Q : VK} (h : tG K ct W (PD K) (mOp2 g ma mb) σ H Q) : tOp r (tG K ct W (PD K) ma) (tG K ct W (PV K) mb) σ H Q :=
  tG.step h fun d δ1 x G1 H1 r1 p1 h1 => ⟨δ1, G1, r1, TW.step r1 h1 fun e δ2 y G2 H2 _ x2 r2 p2 h2 => by
    obtain ⟨z, ez, h3⟩ := Post.only h2
    exact hr δ2 σ G2 H2 x y d e z Q r2 (.inl (Rp.mono x2.same p1)) p2 ez fun v G' H' g rp => Post.done h3 r2 g rp⟩
theorem op2_coreV {K : PySem.W.Frag} (hr : R2D K r g) (hp : Pure mb) {σ : L2.St} {H : Hp} {Q : VK} (h : tG K ct W (PD K) (mOp2 g ma mb) σ H Q) : tOp r (tG K ct W (PV K) ma) (tG K ct W (PV K) mb) σ H Q :=
  tG.step h fun d δ1 x G1 H1 r1 p1 h1 => ⟨δ1, G1, r1, TW.step r1 h1 fun e δ2 y G2 H2 e2 x2 r2 p2 h2 => by
    obtain ⟨z, ez, h3⟩ := Post.only h2
    have q := hp _ _ _ e2
    subst q
    exact hr δ2 σ G2 H2 x y d e z Q r2 (RpV.at x2 r2 p1) p2 ez fun v G' H' g rp => Post.done h3 r2 g rp⟩
theorem ve_op {op : Operator} (ho : OpR X (binaryOp op) r) (hr : R2D X.K r g) (ha : VE ct W X a ma) (hb : VV ct W X b mb) : VE ct W X (.BinOp a op b pos) (mOp2 g ma mb) := PE.conv (pe_op ho ha hb) fun _ _ _ h => op2_core hr h
theorem ve_cmp {op : CmpOp} (ho : OpR X (compareOp op) r) (hr : R2D X.K r g) (hm : behindInMarks op b = false) (ha : VE ct W X a ma) (hb : VV ct W X b mb) : VE ct W X (.Compare a [op] [b] pos) (mOp2 g ma mb) := PE.conv (pe_cmpR ho ha hb hm) fun _ _ _ h => op2_core hr h
def mTest (m : M D) : M Bool := M.bind m fun d => match d with
  | .bool b => M.pure b
  | _ => fun _ => .bad
theorem test_core {K : PySem.W.Frag} {σ : L2.St} {H : Hp} {Q : Bool → Hp → Prop} (h : tG K ct W PB (mTest m) σ H Q) : tG K ct W (PD K) m σ H (fun x H' => ∃ k, x = .bl k ∧ Q k H') :=
  tG.step h fun d δ1 x G1 H1 r1 p1 h1 => by
    cases d <;> first
      | exact h1.elim
      | exact ⟨_, Rp.ofBl p1, h1 _ G1 H1 Ext.refl r1 rfl⟩
theorem vt_cmp {op : CmpOp} (ho : OpR X (compareOp op) r) (hr : R2D X.K r g) (hm : behindInMarks op b = false) (ha : VE ct W X a ma) (hb : VV ct W X b mb) : VT ct W X (.Compare a [op] [b] pos) (mTest (mOp2 g ma mb)) :=
  PT.conv (pt_cmpR ho ha hb hm) fun _ _ _ h => op2_core hr (test_core h)
theorem vt_cmpV {op : CmpOp} (ho : OpR X (compareOp op) r) (hr : R2D X.K r g) (hm : behindInMarks op b = false) (ha : VV ct W X a ma) (hp : Pure mb) (hb : VV ct W X b mb) : VT ct W X (.Compare a [op] [b] pos) (mTest (mOp2 g ma mb)) :=
  PT.conv (pt_cmpR ho ha hb hm) fun _ _ _ h => op2_coreV hr hp (test_core h)
theorem vt_val (h : VE ct W X e m) (he : ∀ whole, isTrue e X.env whole = (do let v ← whole; standAt e.pos; holding [v] (truthy v)) := by intro _; rfl) : VT ct W X e (mTest m) := PT.conv (pt_val h he) fun _ _ _ h => test_core h
theorem pure_mC {d : D} : Pure (mC d) := fun cs d' cs' h => by cases h; rfl
theorem pure_vVar {i : Nat} : Pure (vVar i) := fun cs d cs' h => by
  unfold vVar at h
  split at h <;> cases h <;> rfl
theorem pure_nil : Pure (mOfN (mLst mNil)) := fun cs d cs' h => by cases h; rfl
end
def gI (f : Int → Int → Int) : D → D → R D
  | .int i, .int j => .ok (.int (f i j))
  | _, _ => .bad
def gIC (c : Int → Int → Bool) (f : Int → Int → Int) : D → D → R D
  | .int i, .int j => if c i j then .ok (.int (f i j)) else .bad
  | _, _ => .bad
def gEq : D → D → R D := fun d e => if SeqAt.shaped d && SeqAt.shaped e then .ok (.bool (PyData.eqv d e)) else .bad
def gNe : D → D → R D := fun d e => if SeqAt.shaped d && SeqAt.shaped e then .ok (.bool (!PyData.eqv d e)) else .bad
def gIn (neg : Bool) : D → D → R D
  | d, .list es => if SeqAt.shaped d && SeqAt.shaped (.list es) then .ok (.bool (neg != es.any fun z => PyData.eqv z d)) else .bad
  | d, .tuple es => if SeqAt.shaped d && SeqAt.shaped (.tuple es) then .ok (.bool (neg != es.any fun z => PyData.eqv z d)) else .bad
  | _, _ => .bad
def gIsB : D → D → R D
  | .bool a, .bool b => .ok (.bool (decide (a = b)))
  | _, _ => .bad
def gNotB : D → D → R D
  | .bool a, .bool b => .ok (.bool (!decide (a = b)))
  | _, _ => .bad
def isNon : D → Bool
  | .none => true
  | _ => false
def gIsN : D → D → R D
  | d, .none => .ok (.bool (isNon d))
  | _, _ => .bad
section
variable {K : PySem.W.Frag} {X : Cx}
theorem r2_I {f : Int → Int → Int} : R2D K (rI0 fun i j => .int (f i j)) (gI f) := fun δ σ G H x y d e z Q r hx hy hz q => by
  unfold gI at hz
  split at hz
  · cases hz
    exact ⟨_, _, hx.int, hy.int, q _ G H (Grow.refl r) (.int _)⟩
  · cases hz
theorem r2_IC {c : Int → Int → Bool} {Cc : Int → Int → Prop} {f : Int → Int → Int} (hc : ∀ i j, c i j = true → Cc i j) : R2D K (rI Cc fun i j => .int (f i j)) (gIC c f) := fun δ σ G H x y d e z Q r hx hy hz q => by
  unfold gIC at hz
  split at hz
  · split at hz
    · rename_i hk
      cases hz
      exact ⟨_, _, hx.int, hy.int, hc _ _ hk, q _ G H (Grow.refl r) (.int _)⟩
    · cases hz
  · cases hz
theorem r2_Eq : R2D K (rEqD K) gEq := fun δ σ G H x y d e z Q r hx hy hz q => by
  unfold gEq at hz
  split at hz
  · rename_i hk
    rw [Bool.and_eq_true] at hk
    cases hz
    exact ⟨d, e, hx.dp r.same (shaped_noDict hk.1), hy.dp r.same (shaped_noDict hk.2), hk.1, hk.2, q _ G H (Grow.refl r) (.bl _)⟩
  · cases hz
theorem r2_Ne : R2D K (rNeD K) gNe := fun δ σ G H x y d e z Q r hx hy hz q => by
  unfold gNe at hz
  split at hz
  · rename_i hk
    rw [Bool.and_eq_true] at hk
    cases hz
    exact ⟨d, e, hx.dp r.same (shaped_noDict hk.1), hy.dp r.same (shaped_noDict hk.2), hk.1, hk.2, q _ G H (Grow.refl r) (.bl _)⟩
  · cases hz
def rInA (K : PySem.W.Frag) (neg : Bool) : R2 := fun x y H Q => ∃ d ds, Dp K H x d ∧ (Dp K H y (.list ds) ∨ Dp K H y (.tuple ds)) ∧ SeqAt.shaped d = true ∧ PyData.canLayAll0 ds = true ∧ Q (.bl (neg != ds.any fun z => PyData.eqv z d)) H
theorem op_inA (hu : X.A.units + 65 < cLine) : OpR X (compareOp .In) (rInA X.K false) := by
  intro pins s σ H x y v u Q I rx ry h
  obtain ⟨d, ds, hd, he, sd, se, q⟩ := h
  obtain ⟨as, r1⟩ := Dp.reads I d x v hd rx
  have q' : Q (.bl (ds.any fun z => PyData.eqv z d)) H := by
    have := q
    rwa [Bool.false_bne] at this
  rcases he with he | he
  · obtain ⟨bs, r2⟩ := Dp.reads I (.list ds) y u he ry
    exact SeqAt.in_list_reads r2 r1 se (SeqAt.canLay_of_shaped sd) (room_in_shaped sd hu) ⟨.bl _, H, I, rfl, q'⟩
  · obtain ⟨bs, r2⟩ := Dp.reads I (.tuple ds) y u he ry
    exact SeqAt.in_tuple_reads r2 r1 se (SeqAt.canLay_of_shaped sd) (room_in_shaped sd hu) ⟨.bl _, H, I, rfl, q'⟩
theorem r2_In {neg : Bool} : R2D K (rInA K neg) (gIn neg) := fun δ σ G H x y d e z Q r hx hy hz q => by
  unfold gIn at hz
  split at hz
  · split at hz
    · rename_i hk
      rw [Bool.and_eq_true] at hk
      cases hz
      exact ⟨_, _, hx.dp r.same (shaped_noDict hk.1), .inl (hy.dp r.same (shaped_noDict hk.2)), hk.1, by simpa [PyData.canLay0] using SeqAt.canLay_of_shaped hk.2, q _ G H (Grow.refl r) (.bl _)⟩
    · cases hz
  · split at hz
    · rename_i hk
      rw [Bool.and_eq_true] at hk
      cases hz
      exact ⟨_, _, hx.dp r.same (shaped_noDict hk.1), .inr (hy.dp r.same (shaped_noDict hk.2)), hk.1, by simpa [PyData.canLay0] using SeqAt.canLay_of_shaped hk.2, q _ G H (Grow.refl r) (.bl _)⟩
    · cases hz
  · cases hz
theorem rpv_non {δ : List C} {σ : L2.St} {G H : Hp} {x : V} {d : D} (h : RpV K δ σ G H x d) : decide (x = .non) = isNon d := by
  rcases h with h | ⟨p, vs, ds, h1, h2, _⟩
  · cases h <;> rfl
  · subst h1; subst h2; rfl
theorem r2_IsN : R2D K (fun x y H Q => y = .non ∧ Q (.bl (decide (x = .non))) H) gIsN := fun δ σ G H x y d e z Q r hx hy hz q => by
  unfold gIsN at hz
  split at hz
  · cases hz
    exact ⟨hy.non, by rw [rpv_non hx]; exact q _ G H (Grow.refl r) (.bl _)⟩
  · cases hz
def gCatT : D → D → R D
  | .tuple ds, .tuple es => if szOk (ds.length + es.length) then .ok (.tuple (ds ++ es)) else .bad
  | _, _ => .bad
theorem r2_CatT : R2D K (rCatN K) gCatT := fun δ σ G H x y d e z Q r hx hy hz q => by
  unfold gCatT at hz
  split at hz
  · split at hz
    · rename_i ds es hk
      cases hz
      have hl := szOk_le hk
      obtain ⟨a, xs, e1, h1, h2, h3⟩ := hx.tup r.same
      obtain ⟨b, ys, e2, k1, k2, k3⟩ := hy.tup r.same
      have l1 := h3.length
      have l2 := k3.length
      refine ⟨a, b, xs, ys, e1, e2, h1, k1, by omega, fun z => ?_, fun z w => ?_, fun z w p ob hp hd => ?_⟩
      · subst z
        have : ds = [] := List.eq_nil_of_length_eq_zero (by rw [← l1]; rfl)
        subst this
        subst e2
        refine q _ G H (Grow.refl r) ?_
        rcases hy with hy | ⟨_, _, _, _, h2, _⟩
        · exact hy
        · cases h2
      · subst w
        have : es = [] := List.eq_nil_of_length_eq_zero (by rw [← l2]; rfl)
        subst this
        subst e1
        rw [List.append_nil] at q
        refine q _ G H (Grow.refl r) ?_
        rcases hx with hx | ⟨_, _, _, _, h2, _⟩
        · exact hx
        · cases h2
      · exact q _ _ _ (Grow.laid r.same r.nt hp nt_frz) (.tup ⟨ob, upd_same, hd⟩ (by rw [List.length_append]; exact hl) (RpAll.mono (same_upd (Same.free r.same hp)) (h3.append k3)))
    · cases hz
  · cases hz
def gIx : D → D → R D
  | .list ds, .int i => match atI ds i with | some d => .ok d | none => .bad
  | .tuple ds, .int i => match atI ds i with | some d => .ok d | none => .bad
  | .dict [(.none, .list ds)], .int i => match atI ds i with | some d => .ok d | none => .bad
  | .str x, .int i => if szOk x.length then (match atI x.cps.toList i with | some c => .ok (.str ⟨#[c]⟩) | none => .bad) else .bad
  | _, _ => .bad
theorem r2_Ix : R2D K (rIx K) gIx := fun δ σ G H x y d e z Q r hx hy hz q => by
  unfold gIx at hz
  split at hz
  · rename_i ds i
    obtain ⟨a, xs, e1, h1, h2, h3⟩ := hx.lst r.same
    cases ha : atI ds i with
    | none => rw [ha] at hz; cases hz
    | some d =>
      rw [ha] at hz; cases hz
      obtain ⟨v, hv, rv⟩ := h3.atI ha
      exact .inl ⟨a, xs, i, v, e1, hy.int, h1, hv, q _ G H (Grow.refl r) rv⟩
  · rename_i ds i
    obtain ⟨a, xs, e1, h1, h2, h3⟩ := hx.tup r.same
    cases ha : atI ds i with
    | none => rw [ha] at hz; cases hz
    | some d =>
      rw [ha] at hz; cases hz
      obtain ⟨v, hv, rv⟩ := h3.atI ha
      exact .inr (.inl ⟨a, xs, i, v, e1, hy.int, h1, hv, q _ G H (Grow.refl r) rv⟩)
  · rename_i ds i
    obtain ⟨a, xs, e1, h1, h2, h3⟩ := hx.scr r.same
    cases ha : atI ds i with
    | none => rw [ha] at hz; cases hz
    | some d =>
      rw [ha] at hz; cases hz
      obtain ⟨v, hv, rv⟩ := h3.atI ha
      exact .inl ⟨a, xs, i, v, e1, hy.int, h1, hv, q _ G H (Grow.refl r) rv⟩
  · split at hz
    · rename_i x' i hk
      cases ha : atI x'.cps.toList i with
      | none => rw [ha] at hz; cases hz
      | some c =>
        rw [ha] at hz; cases hz
        exact .inr (.inr ⟨x', i, c, hx.str, hy.int, szOk_le hk, ha, q _ G H (Grow.refl r) (.str _)⟩)
    · cases hz
  · cases hz
end
section
variable {ct : Nat → Addr} {W : WX} {X : Cx} {e a b c : Expr} {es : List Expr} {m ma mb mc : M D} {ms : M (List D)} {pos : Pos} {r r' : R2} {g g' : D → D → R D}
theorem ve_ix (ha : VE ct W X a ma) (hb : VV ct W X b mb) (hs : PlainIx b) : VE ct W X (.Subscript a b pos) (mOp2 gIx ma mb) := PE.conv (pe_ix ix_seq ha hb hs) fun _ _ _ h => op2_core r2_Ix h
theorem ve_ixV (ha : VV ct W X a ma) (hp : Pure mb) (hb : VV ct W X b mb) (hs : PlainIx b) : VE ct W X (.Subscript a b pos) (mOp2 gIx ma mb) := PE.conv (pe_ix ix_seq ha hb hs) fun _ _ _ h => op2_coreV r2_Ix hp h
def gNeg : D → R D
  | .int i => .ok (.int (-i))
  | _ => .bad
theorem ve_neg (ha : VE ct W X a ma) : VE ct W X (.UnaryOp .USub a pos) (mOp1 gNeg ma) := PE.conv (pe_un un_neg ha) fun σ H Q h => tG.step h fun d δ1 x G1 H1 r1 p1 h1 => by
  obtain ⟨z, ez, h3⟩ := Post.only h1
  unfold gNeg at ez
  split at ez
  · cases ez
    exact ⟨_, Rp.ofInt p1, Post.done h3 r1 (Grow.refl r1) (.int _)⟩
  · cases ez
def mChain (g g' : D → D → R D) (ma mb mc : M D) : M D := M.bind ma fun x => M.bind mb fun y => M.bind (M.only (g x y)) fun z => match z with
  | .bool true => M.bind mc fun w => M.only (g' y w)
  | .bool false => M.pure (.bool false)
  | _ => fun _ => .bad
theorem chain_core {K : PySem.W.Frag} (hr : R2D K r g) (hr' : R2D K r' g') {σ : L2.St} {H : Hp} {Q : VK} (h : tG K ct W (PD K) (mChain g g' ma mb mc) σ H Q) : tChain r r' (tG K ct W (PD K) ma) (tG K ct W (PD K) mb) (tG K ct W (PV K) mc) σ H Q :=
  tG.step h fun d δ1 x G1 H1 r1 p1 h1 => ⟨δ1, G1, r1, TW.step r1 h1 fun e δ2 y G2 H2 _ x2 r2 p2 h2 => by
    unfold M.bind at h2
    cases eg : g d e with
    | err n xs => simp only [eg, M.only] at h2; exact h2.elim
    | bad => simp only [eg, M.only] at h2; exact h2.elim
    | ok z =>
      simp only [eg, M.only] at h2
      refine hr δ2 σ G2 H2 x y d e z _ r2 (.inl (Rp.mono x2.same p1)) (.inl p2) eg fun v G' H' gr rp => ?_
      cases z <;> first
        | exact h2.elim
        | skip
      rename_i k
      have h3 := Post.at (gr.ext (δ := δ2) (σ := σ)) h2
      have r3 := gr.rel r2
      refine ⟨k, Rp.ofBl rp, ?_⟩
      cases k with
      | true =>
        rw [if_pos rfl]
        exact ⟨δ2, G', r3, TW.step r3 h3 fun w δ4 y' G4 H4 _ x4 r4 p4 h4 => by
          obtain ⟨z', ez, h5⟩ := Post.only h4
          exact hr' δ4 σ G4 H4 y y' e w z' Q r4 (.inl (Rp.mono (gr.same.trans x4.same) p2)) p4 ez fun v G' H' g rp => Post.done h5 r4 g rp⟩
      | false =>
        rw [if_neg Bool.false_ne_true]
        exact Post.done h3 r3 (Grow.refl r3) (.bl false)⟩
theorem ve_chain {op op' : CmpOp} (ho : OpR X (compareOp op) r) (hr : R2D X.K r g) (ho' : OpR X (compareOp op') r') (hr' : R2D X.K r' g') (ha : VE ct W X a ma) (hb : VE ct W X b mb) (hc : VV ct W X c mc)
    (hm : lastMarks [op, op'] [b, c] = false := by with_unfolding_all rfl) : VE ct W X (.Compare a [op, op'] [b, c] pos) (mChain g g' ma mb mc) := PE.conv (pe_chain ho ho' ha hb hc hm) fun _ _ _ h => chain_core hr hr' h
theorem vt_chain {op op' : CmpOp} (ho : OpR X (compareOp op) r) (hr : R2D X.K r g) (ho' : OpR X (compareOp op') r') (hr' : R2D X.K r' g') (ha : VE ct W X a ma) (hb : VE ct W X b mb) (hc : VV ct W X c mc)
    (hm : lastMarks [op, op'] [b, c] = false := by with_unfolding_all rfl) : VT ct W X (.Compare a [op, op'] [b, c] pos) (mTest (mChain g g' ma mb mc)) := PT.conv (pt_chain ho ho' ha hb hc hm) fun _ _ _ h => chain_core hr hr' (test_core h)
variable {tA tB : M Bool} {rest : List Expr}
def mAnd (a b : M Bool) : M Bool := M.bind a fun k => if k then b else M.pure false
def mOr (a b : M Bool) : M Bool := M.bind a fun k => if k then M.pure true else b
def mNot (a : M Bool) : M Bool := M.bind a fun k => M.pure (!k)
abbrev VW (ct : Nat → Addr) (W : WX) (X : Cx) (e : Expr) (m : M Bool) : Prop := PW X e (tG X.K ct W PB m)
theorem PW.conv {X : Cx} {e : Expr} {t t' : TT} (h : PW X e t) (i : ∀ σ H Q, t' σ H Q → t σ H Q) : PW X e t' := ⟨fun wh pins s σ H Q I q => h.run wh pins s σ H Q I (i σ H Q q)⟩
theorem and_core {K : PySem.W.Frag} {σ : L2.St} {H : Hp} {Q : Bool → Hp → Prop} (h : tG K ct W PB (mAnd tA tB) σ H Q) : tAnd (tG K ct W PB tA) (tG K ct W PB tB) σ H Q :=
  tG.step h fun k δ1 x G1 H1 r1 p1 h1 => by
    obtain rfl : x = k := p1
    cases x with
    | true => rw [if_pos rfl]; exact ⟨δ1, G1, r1, h1⟩
    | false => rw [if_neg Bool.false_ne_true]; exact h1 _ _ _ Ext.refl r1 rfl
theorem or_core {K : PySem.W.Frag} {σ : L2.St} {H : Hp} {Q : Bool → Hp → Prop} (h : tG K ct W PB (mOr tA tB) σ H Q) : tOr (tG K ct W PB tA) (tG K ct W PB tB) σ H Q :=
  tG.step h fun k δ1 x G1 H1 r1 p1 h1 => by
    obtain rfl : x = k := p1
    cases x with
    | true => rw [if_pos rfl]; exact h1 _ _ _ Ext.refl r1 rfl
    | false => rw [if_neg Bool.false_ne_true]; exact ⟨δ1, G1, r1, h1⟩
theorem vw_and1 (ha : VT ct W X a tA) : VW ct W X (.BoolOp .And [a] pos) tA := pw_and1 ha
theorem vw_or1 (ha : VT ct W X a tA) : VW ct W X (.BoolOp .Or [a] pos) tA := pw_or1 ha
theorem vw_and (ha : VT ct W X a tA) (hb : VW ct W X (.BoolOp .And (b :: rest) pos) tB) : VW ct W X (.BoolOp .And (a :: b :: rest) pos) (mAnd tA tB) := PW.conv (pw_and ha hb) fun _ _ _ h => and_core h
theorem vw_or (ha : VT ct W X a tA) (hb : VW ct W X (.BoolOp .Or (b :: rest) pos) tB) : VW ct W X (.BoolOp .Or (a :: b :: rest) pos) (mOr tA tB) := PW.conv (pw_or ha hb) fun _ _ _ h => or_core h
theorem vt_w (h : VW ct W X e tA) : VT ct W X e tA := h.pt
theorem vt_not (h : VT ct W X a tA) : VT ct W X (.UnaryOp .Not a pos) (mNot tA) := PT.conv (pt_not h) fun σ H Q h => tG.step h fun k δ1 x G1 H1 r1 p1 h1 => by
  obtain rfl : x = k := p1
  exact h1 _ _ _ Ext.refl r1 rfl
def mIf (t : M Bool) (a b : M D) : M D := M.bind t fun k => if k then a else b
theorem ve_if (hc : VT ct W X c tA) (ha : VE ct W X a ma) (hb : VE ct W X b mb) : VE ct W X (.IfExp c a b pos) (mIf tA ma mb) := PE.conv (pe_ifExp hc ha hb) fun σ H Q h => tG.step h fun k δ1 x G1 H1 r1 p1 h1 => by
  obtain rfl : x = k := p1
  cases x with
  | true => rw [if_pos rfl]; exact ⟨δ1, G1, r1, h1⟩
  | false => rw [if_neg Bool.false_ne_true]; exact ⟨δ1, G1, r1, h1⟩
end
end TW
set_option Elab.async false
set_option linter.all false
set_option maxRecDepth 100000
namespace TW
open PySem PySem.W PySem.Calls PyProof.Rows
section
variable {prog : Program} {w : World} {A : Around} {E : Value → Shared → Prop} {s : Shared}
theorem takes_all {t : Addr} {us : List Value} {Q : List Value → Shared → Prop} (ht : s.heap.IsTuple t us.toArray) (few : us.length ≤ sizeLine)
    (q : Q us { s with heap := (s.heap.push (seqObj "list" #[] 0)).update s.heap.objs.size (Obj.mapSeq (· ++ us.toArray)) }) : wpAny (model prog w) A (collect (.ref t)) Q E s := by
  obtain ⟨ob, get, cl, k, dat⟩ := id ht
  have get' : (s.heap.push (seqObj "list" #[] 0)).get? t = some ob := Heap.get?_push_of_some _ get
  have mine : (s.heap.push (seqObj "list" #[] 0)).get? s.heap.objs.size = some (seqObj "list" #[] 0) := Heap.get?_push_size _ rfl
  have tt : (Value.type "tuple" == Value.type "tuple") = true := rfl
  unfold collect
  refine wpAny_bind (wpAny_runValue (codeAny_builtin entry_proto_collect' ?_))
  refine wpAny_bind (wpAny_newList (wpAny_pure ⟨Code.quiet_builtin _ (by decide +kernel), codeAny_builtin entry_list_iadd' ?_⟩))
  show wpAny _ _ (Builtin.List.listExtendWith (.ref s.heap.objs.size) (.ref t) (.ref s.heap.objs.size)) _ _ _
  unfold Builtin.List.listExtendWith
  refine wpAny_bind (wpAny_typeOf (T := "tuple") ⟨ob, get', cl⟩ ?_)
  rw [if_pos (by rw [tt]; simp)]
  refine wpAny_bind (listItems_at get' dat (wpAny_bind (listItems_at mine rfl ?_)))
  rw [if_neg (by simp)]
  refine wpAny_bind (listUpdate_at mine rfl ?_ (Nat.zero_le _) (by simp only [Array.size_append, List.size_toArray, List.length_nil]; omega))
  refine wpAny_pure ?_
  refine wpAny_bind (wpAny_load (get?_update_seq mine _) ?_)
  show wpAny _ _ (pure ((#[] : Array Value) ++ us.toArray).toList) Q E _
  rw [show ((#[] : Array Value) ++ us.toArray).toList = us by simp]
  exact wpAny_pure q
theorem sorted_tup {κ : PyProof.Rows.KeyKind} {t : Addr} {us : List Value} {Q : Value → Shared → Prop} (ht : s.heap.IsTuple t us.toArray) (S : SortsAt prog w A.in1.in1 { s with heap := sortingHeap (copyHeap s.heap us) (s.heap.objs.size + 1) us } κ us) (few : us.length ≤ sizeLine)
    (q : Q (.ref (s.heap.objs.size + 1)) { s with heap := sortedAll s.heap us (sortVals κ false us us).toArray }) : wpAny (model prog w) A (call (.builtin "sorted") [.ref t]) Q E s := by
  refine call_function_entry_kw kind_sorted plain_sorted entry_sorted (args_sorted1 _) ?_
  unfold Builtin.«sorted»
  refine wpAny_bind (m := checkCount "sorted" 1 1 _) (wpAny_pure (wpAny_bind (takes_all ht few (wpAny_bind (wpAny_newList ?_ few)))))
  have size : ((s.heap.push (seqObj "list" #[] 0)).update s.heap.objs.size (Obj.mapSeq (· ++ us.toArray))).objs.size = s.heap.objs.size + 1 := by rw [Heap.size_update, size_push']
  show wpAny _ _ _ _ _ { s with heap := copyHeap s.heap us }
  rw [size]
  have go : ∀ E' : Value → Shared → Prop, wpAny (model prog w) A.in1.in1 (Builtin.«list.sort» ⟨[.ref (s.heap.objs.size + 1)], []⟩) (fun f s' => f = .done (.ret .none) ∧ Q (.ref (s.heap.objs.size + 1)) s') E' { s with heap := copyHeap s.heap us } :=
    fun E' => list_sort_vals (s := { s with heap := copyHeap s.heap us }) (copyHeap_at s.heap us) S few ⟨rfl, q⟩
  refine wpAny_bind (wpAny_holding (wpAny_call_entry_kw slot_list_sort ⟨_, copyHeap_at s.heap us, rfl⟩ entry_list_sort ?b (args_list_sort _)))
  case b => exact wpAny_mono (go _) (fun f s' ⟨e, hq⟩ => by subst e; exact ⟨_, rfl, wpAny_pure ⟨_, rfl, hq⟩⟩) fun _ _ e => e
variable {β : Type} {R : Value → β → Prop} {bs : List β} {enc : β → PyData}
theorem sorted_tupD {t : Addr} {us : List Value} {Q : Value → Shared → Prop} (ht : s.heap.IsTuple t us.toArray) (e : EachIs R us bs) (er : EachIs (fun v b => ∃ as, Reads s.heap v (enc b) as) us bs) (hal : AllAlike (bs.map enc)) (hk : Sortable (bs.map enc)) (few : bs.length ≤ sizeLine)
    (hu : ∀ b, b ∈ bs → A.units + 2 + (enc b).depth < cLine) (q : ∀ out, out.length = bs.length → EachIs R out (bs.mergeSort (dataLe false enc)) → Q (.ref (s.heap.objs.size + 1)) { s with heap := sortedAll s.heap us (List.toArray out) }) :
    wpAny (model prog w) A (call (.builtin "sorted") [.ref t]) Q E s := by
  have er2 : EachIs (fun v b => ∃ as, Reads (sortingHeap (copyHeap s.heap us) (s.heap.objs.size + 1) us) v (enc b) as) us bs := er.mono fun _ _ ⟨as, r⟩ => ⟨as, PyProof.Rows.Reads.keeps (fun _ _ => sorting_copy_old) r⟩
  have er3 := each_map (R := fun v d => ∃ as, Reads (sortingHeap (copyHeap s.heap us) (s.heap.objs.size + 1) us) v d as) enc er2
  refine sorted_tup ht (SortsAt.data (s := { s with heap := sortingHeap (copyHeap s.heap us) (s.heap.objs.size + 1) us }) er3 hal hk (bound_map hu)) (by rw [e.length]; exact few) (q _ ?_ (sortVals_data false e er2 hal))
  rw [sortVals_length false rfl]
  exact e.length
end
end TW
set_option Elab.async false
set_option linter.all false
set_option maxRecDepth 100000
namespace TW
open PySem PySem.Spec PyProof.Rows L2
section
variable {K : PySem.W.Frag} {ct : Nat → Addr} {W : WX} {δ : List C} {G H : Hp} {σ : L2.St} {Q : VK}
theorem fresh_not {p : Addr} (r : Rel K δ G σ H) (hp : H p = none) : ¬ OwA δ σ p := fun ⟨t, i, es, a1, a2⟩ => by
  obtain ⟨q, ws, b1, b2, _⟩ := r.own i t es a1
  rw [a2] at b1
  cases b1
  rw [hp] at b2
  cases b2
theorem fresh_notF {p : Addr} (r : Rel K δ G σ H) (hp : Fre H p) : ¬ OwA δ σ p := fun ⟨t, i, es, a1, a2⟩ => by
  obtain ⟨q, ws, b1, b2, _⟩ := r.own i t es a1
  rw [a2] at b1
  cases b1
  exact hp.not b2
theorem Post.fresh {ds : List D} {vs : List V} {p : Addr} (h : Post K ct W (PN K) (.ok (ds, δ)) δ G H σ Q) (r : Rel K δ G σ H) (hp : H p = none) (hl : ds.length ≤ sizeLine) (ha : RpAll K G vs ds) : Q (.ref p) (upd H p (.lst vs)) :=
  Post.done h r (Grow.alloc r.same r.nt hp) ⟨p, vs, rfl, fre_none hp, upd_same, Same.free r.same hp, fresh_not r hp, hl, ha⟩
end
def mAndV (a b : M D) : M D := M.bind a fun d => match d with
  | .bool true => b
  | .bool false => M.pure (.bool false)
  | _ => fun _ => .bad
def mOrV (a b : M D) : M D := M.bind a fun d => match d with
  | .bool true => M.pure (.bool true)
  | .bool false => b
  | _ => fun _ => .bad
def mNotV (a : M D) : M D := M.bind a fun d => match d with
  | .bool b => M.pure (.bool (!b))
  | _ => fun _ => .bad
section
variable {ct : Nat → Addr} {W : WX} {X : Cx} {e a b : Expr} {rest : List Expr} {m ma mb : M D} {pos : Pos}
theorem ve_one {op} (h : VE ct W X a m) : VE ct W X (.BoolOp op [a] pos) m := pe_one h
theorem ve_and (ha : VE ct W X a ma) (hb : VE ct W X (.BoolOp .And (b :: rest) pos) mb) : VE ct W X (.BoolOp .And (a :: b :: rest) pos) (mAndV ma mb) := PE.conv (pe_and ha hb) fun σ H Q h => tG.step h fun d δ1 x G1 H1 r1 p1 h1 => by
  cases d <;> first
    | exact h1.elim
    | skip
  rename_i k
  refine ⟨k, Rp.ofBl p1, ?_⟩
  cases k with
  | true => rw [if_pos rfl]; exact ⟨δ1, G1, r1, h1⟩
  | false => rw [if_neg Bool.false_ne_true]; exact h1 _ _ _ Ext.refl r1 (.bl _)
theorem ve_not (ha : VE ct W X a ma) : VE ct W X (.UnaryOp .Not a pos) (mNotV ma) := PE.conv (pe_not ha) fun σ H Q h => tG.step h fun d δ1 x G1 H1 r1 p1 h1 => by
  cases d <;> first
    | exact h1.elim
    | exact ⟨_, Rp.ofBl p1, h1 _ _ _ Ext.refl r1 (.bl _)⟩
end
def R1D (K : PySem.W.Frag) (r : List V → Hp → VK → Prop) (g : D → R D) : Prop := ∀ (δ : List C) (σ : L2.St) (G H : Hp) (x : V) (d z : D) (Q : VK), Rel K δ G σ H → RpV K δ σ G H x d → g d = .ok z →
  (∀ v G' H', Grow G H G' H' → Rp K G' v z → Q v H') → r [x] H Q
def R1N (K : PySem.W.Frag) (r : List V → Hp → VK → Prop) (g : D → R (List D)) : Prop := ∀ (δ : List C) (σ : L2.St) (G H : Hp) (x : V) (d : D) (z : List D) (Q : VK), Rel K δ G σ H → RpV K δ σ G H x d → g d = .ok z →
  (∀ p vs, H p = none → z.length ≤ sizeLine → RpAll K G vs z → Q (.ref p) (upd H p (.lst vs))) → r [x] H Q
def mOp1N (g : D → R (List D)) (ma : M D) : M (List D) := M.bind ma fun d => M.only (g d)
section
variable {ct : Nat → Addr} {W : WX} {X : Cx} {e a b : Expr} {m ma mb : M D} {p pos : Pos} {x : Str} {id T : String} {r : List V → Hp → VK → Prop} {g : D → R D} {gN : D → R (List D)}
theorem call1_core {K : PySem.W.Frag} (hr : R1D K r g) {σ : L2.St} {H : Hp} {Q : VK} (h : tG K ct W (PD K) (mOp1 g ma) σ H Q) : tCB r (tCons (tG K ct W (PV K) ma) tNil) σ H Q :=
  tG.step h fun d δ1 x G1 H1 r1 p1 h1 => by
    obtain ⟨z, ez, h3⟩ := Post.only h1
    exact hr δ1 σ G1 H1 x d z Q r1 p1 ez fun v G' H' g rp => Post.done h3 r1 g rp
theorem call1N_core {K : PySem.W.Frag} (hr : R1N K r gN) {σ : L2.St} {H : Hp} {Q : VK} (h : tG K ct W (PN K) (mOp1N gN ma) σ H Q) : tCB r (tCons (tG K ct W (PV K) ma) tNil) σ H Q :=
  tG.step h fun d δ1 x G1 H1 r1 p1 h1 => by
    obtain ⟨z, ez, h3⟩ := Post.only h1
    exact hr δ1 σ G1 H1 x d z Q r1 p1 ez fun p vs hp hl ha => Post.fresh h3 r1 hp hl ha
theorem ve_callB (hc : CallR X (.builtin id) r) (hr : R1D X.K r g) (hg : Gl X x) (hm : X.mg x = none) (hv : bootBuiltins x = some (.builtin id)) (ha : VV ct W X a ma)
    (hs : starEach [a] X.env = (false, eval a X.env) :: starEach [] X.env := by rfl) (hn : x ≠ "__name__" := by decide) (hdb : (x == ("__debug__" : Str)) = false := by decide) : VE ct W X (.Call (.Name x p) [a] [] pos) (mOp1 g ma) :=
  PE.conv (pe_callB hc hg hm hv (pa_cons ha pa_nil hs) hn hdb hs) fun _ _ _ h => call1_core hr h
theorem ve_callTy (hc : CallR X (.type T) r) (hr : R1D X.K r g) (hg : Gl X x) (hm : X.mg x = none) (hv : bootBuiltins x = some (.type T)) (ha : VV ct W X a ma)
    (hs : starEach [a] X.env = (false, eval a X.env) :: starEach [] X.env := by rfl) (hn : x ≠ "__name__" := by decide) (hdb : (x == ("__debug__" : Str)) = false := by decide) : VE ct W X (.Call (.Name x p) [a] [] pos) (mOp1 g ma) :=
  PE.conv (pe_callTy hc hg hm hv (pa_cons ha pa_nil hs) hn hdb hs) fun _ _ _ h => call1_core hr h
theorem vn_callB (hc : CallR X (.builtin id) r) (hr : R1N X.K r gN) (hg : Gl X x) (hm : X.mg x = none) (hv : bootBuiltins x = some (.builtin id)) (ha : VV ct W X a ma)
    (hs : starEach [a] X.env = (false, eval a X.env) :: starEach [] X.env := by rfl) (hn : x ≠ "__name__" := by decide) (hdb : (x == ("__debug__" : Str)) = false := by decide) : VN ct W X (.Call (.Name x p) [a] [] pos) (mOp1N gN ma) :=
  PE.conv (pe_callB hc hg hm hv (pa_cons ha pa_nil hs) hn hdb hs) fun _ _ _ h => call1N_core hr h
theorem vn_callTy (hc : CallR X (.type T) r) (hr : R1N X.K r gN) (hg : Gl X x) (hm : X.mg x = none) (hv : bootBuiltins x = some (.type T)) (ha : VV ct W X a ma)
    (hs : starEach [a] X.env = (false, eval a X.env) :: starEach [] X.env := by rfl) (hn : x ≠ "__name__" := by decide) (hdb : (x == ("__debug__" : Str)) = false := by decide) : VN ct W X (.Call (.Name x p) [a] [] pos) (mOp1N gN ma) :=
  PE.conv (pe_callTy hc hg hm hv (pa_cons ha pa_nil hs) hn hdb hs) fun _ _ _ h => call1N_core hr h
end
def gLen : D → R D
  | .list ds => .ok (.int ds.length)
  | .tuple ds => .ok (.int ds.length)
  | .dict [(.none, .list ds)] => .ok (.int ds.length)
  | .str x => if szOk x.length then .ok (.int x.length) else .bad
  | _ => .bad
def boolsD : List D → Option (List Bool)
  | [] => some []
  | .bool b :: ds => (boolsD ds).map (b :: ·)
  | _ :: _ => none
def gAll : D → R D
  | .list ds => match boolsD ds with | some bs => .ok (.bool (bs.all id)) | none => .bad
  | _ => .bad
def gTuple : D → R D
  | .list ds => .ok (.tuple ds)
  | .tuple ds => .ok (.tuple ds)
  | _ => .bad
def gList : D → R (List D)
  | .list ds => .ok ds
  | .tuple ds => .ok ds
  | _ => .bad
section
variable {K : PySem.W.Frag} {X : Cx}
theorem r1_len : R1D K (fun xs H Q => ∃ x n, xs = [x] ∧ LenV K x H n ∧ Q (.int n) H) gLen := fun δ σ G H x d z Q r hx hz q => by
  unfold gLen at hz
  split at hz
  · cases hz
    obtain ⟨a, xs, e1, h1, h2, h3⟩ := hx.lst r.same
    subst e1
    exact ⟨_, _, rfl, .inl ⟨xs, h1, (RpAll.length h3).symm⟩, q _ G H (Grow.refl r) (.int _)⟩
  · cases hz
    obtain ⟨a, xs, e1, h1, h2, h3⟩ := hx.tup r.same
    subst e1
    exact ⟨_, _, rfl, .inr ⟨xs, h1, (RpAll.length h3).symm⟩, q _ G H (Grow.refl r) (.int _)⟩
  · cases hz
    obtain ⟨a, xs, e1, h1, h2, h3⟩ := hx.scr r.same
    subst e1
    exact ⟨_, _, rfl, .inl ⟨xs, h1, (RpAll.length h3).symm⟩, q _ G H (Grow.refl r) (.int _)⟩
  · split at hz
    · rename_i hk
      cases hz
      have := hx.str
      subst this
      exact ⟨_, _, rfl, ⟨szOk_le hk, rfl⟩, q _ G H (Grow.refl r) (.int _)⟩
    · cases hz
  · cases hz
theorem boolsRp {G : Hp} : ∀ {vs : List V} {ds : List D} {bs : List Bool}, RpAll K G vs ds → boolsD ds = some bs → vs = bs.map V.bl
  | _, _, _, .nil, e => by cases e; rfl
  | _, d :: ds, bs, .cons h t, e => by
    cases d <;> first
      | (simp [boolsD] at e; done)
      | skip
    rename_i b
    simp only [boolsD] at e
    cases e2 : boolsD ds with
    | none => rw [e2] at e; cases e
    | some cs =>
      rw [e2] at e
      cases e
      rw [h.ofBl, boolsRp t e2]
      rfl
theorem r1_all : R1D K (rAll K) gAll := fun δ σ G H x d z Q r hx hz q => by
  unfold gAll at hz
  split at hz
  · split at hz
    · rename_i e
      cases hz
      obtain ⟨a, xs, e1, h1, h2, h3⟩ := hx.lst r.same
      have := boolsRp h3 e
      subst this
      subst e1
      exact ⟨a, _, rfl, h1, q _ G H (Grow.refl r) (.bl _)⟩
    · cases hz
  · cases hz
theorem r1_tuple : R1D K (rTupOf K) gTuple := fun δ σ G H x d z Q r hx hz q => by
  unfold gTuple at hz
  split at hz
  · cases hz
    obtain ⟨a, xs, e1, h1, h2, h3⟩ := hx.lst r.same
    subst e1
    exact ⟨a, xs, rfl, .inl ⟨h1, fun l ob hl hd => q _ _ _ (Grow.laid r.same r.nt hl nt_frz) (.tup ⟨ob, upd_same, hd⟩ h2 (RpAll.mono (same_upd (Same.free r.same hl)) h3))⟩⟩
  · cases hz
    obtain ⟨a, xs, e1, h1, h2, h3⟩ := hx.tup r.same
    subst e1
    refine ⟨a, xs, rfl, .inr ⟨h1, q _ G H (Grow.refl r) ?_⟩⟩
    rcases hx with hx | ⟨_, _, _, _, h2, _⟩
    · exact hx
    · cases h2
  · cases hz
theorem r1_list : R1N K (fun xs H Q => ∃ p ys, xs = [.ref p] ∧ (SqL K H p ys ∨ SqT K H p ys) ∧ ∀ l, H l = none → Q (.ref l) (upd H l (.lst ys))) gList := fun δ σ G H x d z Q r hx hz q => by
  unfold gList at hz
  split at hz
  · cases hz
    obtain ⟨a, xs, e1, h1, h2, h3⟩ := hx.lst r.same
    subst e1
    exact ⟨a, xs, rfl, .inl h1, fun l hl => q l xs hl h2 h3⟩
  · cases hz
    obtain ⟨a, xs, e1, h1, h2, h3⟩ := hx.tup r.same
    subst e1
    exact ⟨a, xs, rfl, .inr h1, fun l hl => q l xs hl h2 h3⟩
  · cases hz
end
def allAlike (ds : List D) : Bool := ds.all fun d => ds.all fun e => PySem.W.alike d e
def sortKind (ds : List D) : Bool := (ds.all fun d => match d with | .tuple (_ :: _) => true | _ => false) || ds.all fun d => match d with | .none => false | .tuple _ => false | _ => true
def shallow (ds : List D) : Bool := ds.all fun d => decide (d.depth ≤ 32) && SeqAt.shaped d
def sortD (ds : List D) : List D := ds.mergeSort (PySem.W.dataLe false id)
def gSorted : D → R (List D)
  | .list ds => if allAlike ds && (sortKind ds && shallow ds) then .ok (sortD ds) else .bad
  | .tuple ds => if allAlike ds && (sortKind ds && shallow ds) then .ok (sortD ds) else .bad
  | _ => .bad
theorem allAlike_of {ds : List D} (h : allAlike ds = true) : PySem.W.AllAlike ds := fun d hd e he => by
  have h1 := List.all_eq_true.mp h d hd
  exact List.all_eq_true.mp h1 e he
theorem sortKind_of {ds : List D} (h : sortKind ds = true) : PySem.W.Sortable ds := by
  unfold sortKind at h
  rw [Bool.or_eq_true] at h
  rcases h with h | h
  · refine .inl fun d hd => ?_
    have h1 := List.all_eq_true.mp h d hd
    split at h1
    · exact ⟨_, _, rfl⟩
    · cases h1
  · refine .inr fun d hd => ?_
    have h1 := List.all_eq_true.mp h d hd
    split at h1
    · cases h1
    · cases h1
    · rename_i a b
      exact ⟨fun e => a e, fun xs e => b xs e⟩
section
variable {X : Cx}
def rSortedA (K : PySem.W.Frag) : List V → Hp → VK → Prop := fun vs H Q => ∃ (a : Addr) (xs : List V) (ds : List D) (P : V → D → Prop), vs = [.ref a] ∧ (SqL K H a xs ∨ SqT K H a xs) ∧ PySem.W.EachIs P xs ds ∧ (∀ x d, P x d → Dp K H x d) ∧
  PySem.W.AllAlike ds ∧ PySem.W.Sortable ds ∧ (∀ d ∈ ds, d.depth ≤ 32) ∧ ds.length ≤ sizeLine ∧ ∀ p ys, H p = none → PySem.W.EachIs P ys (sortD ds) → Q (.ref p) (upd H p (.lst ys))
theorem each_vals {P : V → D → Prop} : ∀ {xs : List V} {us : List Value} {ds : List D}, PySem.W.EachIs P xs ds → Vals xs us → PySem.W.EachIs (fun u d => ∃ x, RelV x u ∧ P x d) us ds
  | _, _, _, .nil, .nil => .nil
  | _, _, _, .cons h t, .cons r s => .cons ⟨_, r, h⟩ (each_vals t s)
theorem vals_each {P : V → D → Prop} : ∀ {us : List Value} {ds : List D}, PySem.W.EachIs (fun u d => ∃ x, RelV x u ∧ P x d) us ds → ∃ ys, Vals ys us ∧ PySem.W.EachIs P ys ds
  | _, _, .nil => ⟨[], .nil, .nil⟩
  | _, _, .cons ⟨x, r, h⟩ t => by
    obtain ⟨ys, a, b⟩ := vals_each t
    exact ⟨x :: ys, .cons r a, .cons h b⟩
theorem call_sortedA (hu : X.A.units + 64 < cLine) : CallR X (.builtin "sorted") (rSortedA X.K) := by
  intro pins s σ H vs us Q I r h
  obtain ⟨a, xs, ds, P, rfl, hs, he, hd, hal, hk, hdep, hL, q⟩ := h
  rw [Vals.ref1 r]
  rcases hs with hs | hs
  · obtain ⟨its, rv, hl, hz⟩ := I.list hs
    have ev := each_vals he rv
    have hlen : its.length = ds.length := ev.length
    refine PySem.W.sorted_data (enc := id) (bs := ds) (R := fun u d => ∃ x, RelV x u ∧ P x d) hl.isList ev (ev.mono fun u d ⟨x, rx, p⟩ => Dp.reads I d x u (hd x d p) rx) (by rw [List.map_id]; exact hal) (by rw [List.map_id]; exact hk) hL
      (fun d hm => by have := hdep d hm; show X.A.units + 2 + d.depth < cLine; omega) fun out ho eo => ?_
    obtain ⟨ys, vy, ey⟩ := vals_each eo
    obtain ⟨ep, he'⟩ := PyProof.Rows.sortedAll_at s.heap its out.toArray
    exact ⟨.ref _, upd H (s.heap.objs.size + 1) (.lst ys), I.laid (t' := s.toks) (fun _ _ => PyProof.Rows.sortedAll_old) (Nat.le_succ _) ⟨by rw [vy.length, ho]; exact hL, out, ep, vy, he'⟩, rfl, q _ ys (I.hok.fresh (Nat.le_succ _)) ey⟩
  · obtain ⟨its, rv, hl, hz⟩ := I.tuple hs
    have ev := each_vals he rv
    have hlen : its.length = ds.length := ev.length
    refine sorted_tupD (enc := id) (bs := ds) (R := fun u d => ∃ x, RelV x u ∧ P x d) (show s.heap.IsTuple a its.toArray from hl) ev (ev.mono fun u d ⟨x, rx, p⟩ => Dp.reads I d x u (hd x d p) rx) (by rw [List.map_id]; exact hal) (by rw [List.map_id]; exact hk) hL
      (fun d hm => by have := hdep d hm; show X.A.units + 2 + d.depth < cLine; omega) fun out ho eo => ?_
    obtain ⟨ys, vy, ey⟩ := vals_each eo
    obtain ⟨ep, he'⟩ := PyProof.Rows.sortedAll_at s.heap its out.toArray
    exact ⟨.ref _, upd H (s.heap.objs.size + 1) (.lst ys), I.laid (t' := s.toks) (fun _ _ => PyProof.Rows.sortedAll_old) (Nat.le_succ _) ⟨by rw [vy.length, ho]; exact hL, out, ep, vy, he'⟩, rfl, q _ ys (I.hok.fresh (Nat.le_succ _)) ey⟩
theorem each_rp {K : PySem.W.Frag} {G : Hp} : ∀ {vs : List V} {ds : List D}, RpAll K G vs ds → PySem.W.EachIs (Rp K G) vs ds
  | _, _, .nil => .nil
  | _, _, .cons h t => .cons h (each_rp t)
theorem rp_each {K : PySem.W.Frag} {G : Hp} : ∀ {vs : List V} {ds : List D}, PySem.W.EachIs (Rp K G) vs ds → RpAll K G vs ds
  | _, _, .nil => .nil
  | _, _, .cons h t => .cons h (rp_each t)
theorem each_with {P : V → D → Prop} {S : D → Prop} : ∀ {vs : List V} {ds : List D}, PySem.W.EachIs P vs ds → (∀ d ∈ ds, S d) → PySem.W.EachIs (fun v d => P v d ∧ S d) vs ds
  | _, _, .nil, _ => .nil
  | _, _, .cons h t, g => .cons ⟨h, g _ List.mem_cons_self⟩ (each_with t fun d hd => g d (List.mem_cons_of_mem _ hd))
theorem r1_sorted {K : PySem.W.Frag} : R1N K (rSortedA K) gSorted := fun δ σ G H x d z Q r hx hz q => by
  have go : ∀ (a : Addr) (xs : List V) (ds : List D), x = .ref a → (SqL K H a xs ∨ SqT K H a xs) → ds.length ≤ sizeLine → RpAll K G xs ds → (if allAlike ds && (sortKind ds && shallow ds) then R.ok (sortD ds) else .bad) = .ok z → rSortedA K [x] H Q := by
    intro a xs ds e1 h1 h2 h3 hz
    split at hz
    · rename_i hk
      rw [Bool.and_eq_true, Bool.and_eq_true] at hk
      obtain ⟨k1, k2, k3⟩ := hk
      cases hz
      subst e1
      have sh : ∀ d ∈ ds, d.depth ≤ 32 ∧ SeqAt.shaped d = true := fun d hd => by
        have := List.all_eq_true.mp k3 d hd
        rw [Bool.and_eq_true] at this
        exact ⟨of_decide_eq_true this.1, this.2⟩
      refine ⟨a, xs, ds, fun v d => Rp K G v d ∧ SeqAt.shaped d = true, rfl, h1, each_with (each_rp h3) (fun d hd => (sh d hd).2), fun x d p => (p.1.mono r.same).dp (shaped_noDict p.2), allAlike_of k1, sortKind_of k2, fun d hd => (sh d hd).1, h2, fun p ys hp e => ?_⟩
      exact q p ys hp (by unfold sortD; rw [List.length_mergeSort]; exact h2) (rp_each (e.mono fun _ _ p => p.1))
    · cases hz
  unfold gSorted at hz
  split at hz
  · obtain ⟨a, xs, e1, h1, h2, h3⟩ := hx.lst r.same
    exact go a xs _ e1 (.inl h1) h2 h3 hz
  · obtain ⟨a, xs, e1, h1, h2, h3⟩ := hx.tup r.same
    exact go a xs _ e1 (.inr h1) h2 h3 hz
  · cases hz
def rLtD (K : PySem.W.Frag) (f : D → D → Bool) : R2 := fun x y H Q => ∃ d e, Dp K H x d ∧ Dp K H y e ∧ PySem.W.alike d e = true ∧ d ≠ .none ∧ d.depth ≤ 60 ∧ Q (.bl (f d e)) H
theorem min_dep {A : Around} {d e : D} (hu : A.units + 64 < cLine) (h : d.depth ≤ 60) : A.units + min d.depth e.depth < cLine := by
  have := Nat.min_le_left d.depth e.depth
  omega
theorem op_ltD (hu : X.A.units + 64 < cLine) : OpR X (compareOp .Lt) (rLtD X.K PySem.W.dataLt) := by
  intro pins s σ H x y v u Q I rx ry h
  obtain ⟨d, e, hd, he, ha, hn, hp, q⟩ := h
  obtain ⟨as, r1⟩ := Dp.reads I d x v hd rx
  obtain ⟨bs, r2⟩ := Dp.reads I e y u he ry
  exact PySem.W.lt_data r1 r2 ha hn (min_dep hu hp) ⟨.bl _, H, I, rfl, q⟩
theorem op_gtD (hu : X.A.units + 64 < cLine) : OpR X (compareOp .Gt) (rLtD X.K fun d e => PySem.W.dataLt e d) := by
  intro pins s σ H x y v u Q I rx ry h
  obtain ⟨d, e, hd, he, ha, hn, hp, q⟩ := h
  obtain ⟨as, r1⟩ := Dp.reads I d x v hd rx
  obtain ⟨bs, r2⟩ := Dp.reads I e y u he ry
  exact PySem.W.gt_data r1 r2 ha hn (min_dep hu hp) ⟨.bl _, H, I, rfl, q⟩
theorem op_leD (hu : X.A.units + 64 < cLine) : OpR X (compareOp .LtE) (rLtD X.K fun d e => !PySem.W.dataLt e d) := by
  intro pins s σ H x y v u Q I rx ry h
  obtain ⟨d, e, hd, he, ha, hn, hp, q⟩ := h
  obtain ⟨as, r1⟩ := Dp.reads I d x v hd rx
  obtain ⟨bs, r2⟩ := Dp.reads I e y u he ry
  exact PySem.W.le_data r1 r2 ha hn (min_dep hu hp) ⟨.bl _, H, I, rfl, q⟩
theorem op_geD (hu : X.A.units + 64 < cLine) : OpR X (compareOp .GtE) (rLtD X.K fun d e => !PySem.W.dataLt d e) := by
  intro pins s σ H x y v u Q I rx ry h
  obtain ⟨d, e, hd, he, ha, hn, hp, q⟩ := h
  obtain ⟨as, r1⟩ := Dp.reads I d x v hd rx
  obtain ⟨bs, r2⟩ := Dp.reads I e y u he ry
  exact PySem.W.ge_data r1 r2 ha hn (min_dep hu hp) ⟨.bl _, H, I, rfl, q⟩
def gOrd (f : D → D → Bool) : D → D → R D := fun d e => if (SeqAt.shaped d && SeqAt.shaped e) && (PySem.W.alike d e && (!isNon d && decide (d.depth ≤ 60))) then .ok (.bool (f d e)) else .bad
theorem r2_ord {K : PySem.W.Frag} {f : D → D → Bool} : R2D K (rLtD K f) (gOrd f) := fun δ σ G H x y d e z Q r hx hy hz q => by
  unfold gOrd at hz
  split at hz
  · rename_i hk
    simp only [Bool.and_eq_true, Bool.not_eq_true', decide_eq_true_eq] at hk
    cases hz
    refine ⟨d, e, hx.dp r.same (shaped_noDict hk.1.1), hy.dp r.same (shaped_noDict hk.1.2), hk.2.1, fun e => ?_, hk.2.2.2, q _ G H (Grow.refl r) (.bl _)⟩
    subst e
    cases hk.2.2.1
  · cases hz
end
end TW
set_option Elab.async false
set_option linter.all false
set_option maxRecDepth 100000
namespace TW
open PySem PySem.Spec PyProof.Rows L2
def tyN : D → String
  | .none => "NoneType"
  | .bool _ => "bool"
  | .int _ => "int"
  | .str _ => "str"
  | .list _ => "list"
  | .tuple _ => "tuple"
  | .dict _ => "dict"
def isiD (T : String) (d : D) : Bool := tyN d == T || (tyN d == "bool" && T == "int")
def plainD : D → Bool
  | .dict (_ :: _) => false
  | _ => true
def gIsi (T : String) : D → R D := fun d => if plainD d then .ok (.bool (isiD T d)) else .bad
def gIsi2 (T U : String) : D → R D := fun d => if plainD d then .ok (.bool (isiD T d || isiD U d)) else .bad
def tyNs : List String := ["NoneType", "bool", "int", "str", "list", "tuple", "dict"]
theorem tyN_mem (d : D) : tyN d ∈ tyNs := by cases d <;> simp [tyN, tyNs]
def TyOk (T : String) : Prop := ∀ n ∈ tyNs, kitB n T = some (n == T || (n == "bool" && T == "int"))
theorem TyOk.at {T : String} (h : TyOk T) (d : D) : kitB (tyN d) T = some (isiD T d) := h _ (tyN_mem d)
theorem ty_int : TyOk "int" := by unfold TyOk; decide +kernel
theorem ty_bool : TyOk "bool" := by unfold TyOk; decide +kernel
theorem ty_tuple : TyOk "tuple" := by unfold TyOk; decide +kernel
theorem ty_list : TyOk "list" := by unfold TyOk; decide +kernel
theorem ty_str : TyOk "str" := by unfold TyOk; decide +kernel
section
variable {K : PySem.W.Frag} {ct : Nat → Addr} {W : WX} {X : Cx} {a : Expr} {ma mb : M D} {δ : List C} {σ : L2.St} {G H : Hp} {p q pos : Pos} {T U : String}
theorem sqt_ty {a : Addr} {xs : List V} (h : SqT K H a xs) : TyX K H (.ref a) (.type "tuple") := by
  rcases h with (h | ⟨o, h⟩) | ⟨o, its, n, h1, h2, _⟩
  · exact .base (.tup h)
  · exact .fTuple h
  · exact .kTuple h1 h2
theorem RpV.ty {v : V} {d : D} (s : Same G H) (n : plainD d = true) (h : RpV K δ σ G H v d) : TyX K H v (.type (tyN d)) := by
  rcases h with h | ⟨p, vs, ds', h1, h2, h3, h4, h5, _⟩
  · cases h with
    | non => exact .base .non
    | bl b => exact .base (.bl b)
    | int i => exact .base (.int i)
    | str x => exact .base (.str x)
    | lst h _ _ => exact .base (.lst (s _ _ h))
    | scr h _ _ => simp [plainD] at n
    | tup h _ _ => exact sqt_ty (Same.sqt s h.sqt)
    | zp _ _ => simp [plainD] at n
    | dct h => exact .base (.dK (s _ _ h))
    | ex0 => simp [plainD] at n
    | exF _ => simp [plainD] at n
    | lam _ => simp [plainD] at n
    | dik _ _ _ _ _ _ _ => simp [plainD] at n
  · subst h1; subst h2
    exact .base (.lst h3)
theorem ve_isi (ht : TyOk T) (hg : Gl X "isinstance") (hm : X.mg "isinstance" = none) (hT : PE X a (tG X.K ct W (PV X.K) ma)) {b : Expr} (hb : PE X b (tC (.ty T)))
    (hs : starEach [a, b] X.env = (false, eval a X.env) :: starEach [b] X.env := by rfl) (hs2 : starEach [b] X.env = (false, eval b X.env) :: starEach [] X.env := by rfl) (hpl : (backTo pos (starEach [b] X.env)).any (·.1) = false := by rfl) :
    VE ct W X (.Call (.Name "isinstance" p) [a, b] [] pos) (mOp1 (gIsi T) ma) :=
  PE.conv (pe_callB call_isi hg hm PyProof.Rows.boot_isinstance (pa_cons hT (pa_cons hb pa_nil hs2) hs) (by decide) (by decide) hs hpl) fun σ H Q h => tG.step h fun d δ1 x G1 H1 r1 p1 h1 => by
    obtain ⟨z, ez, h3⟩ := Post.only h1
    unfold gIsi at ez
    split at ez
    case isFalse => cases ez
    rename_i hpl
    cases ez
    exact ⟨x, .ty T, _, _, _, rfl, .ty T, p1.ty r1.same hpl, kit_ty (ht.at d), Post.done h3 r1 (Grow.refl r1) (.bl _)⟩
theorem ve_isi2 {k : Nat} {tpos : Pos} (ht : TyOk T) (hu : TyOk U) (hg : Gl X "isinstance") (hm : X.mg "isinstance" = none) (hT : PE X a (tG X.K ct W (PV X.K) ma)) {b c : Expr} (hb : PE X b (tC (.ty T))) (hc : PE X c (tC (.ty U)))
    (hs : starEach [a, .Tuple [b, c] k tpos] X.env = (false, eval a X.env) :: starEach [.Tuple [b, c] k tpos] X.env := by rfl) (hs2 : starEach [.Tuple [b, c] k tpos] X.env = (false, eval (.Tuple [b, c] k tpos) X.env) :: starEach [] X.env := by rfl)
    (hs3 : starEach [b, c] X.env = (false, eval b X.env) :: starEach [c] X.env := by rfl) (hs4 : starEach [c] X.env = (false, eval c X.env) :: starEach [] X.env := by rfl)
    (hpl : (backTo pos (starEach [.Tuple [b, c] k tpos] X.env)).any (·.1) = false := by rfl) :
    VE ct W X (.Call (.Name "isinstance" p) [a, .Tuple [b, c] k tpos] [] pos) (mOp1 (gIsi2 T U) ma) :=
  PE.conv (pe_callB call_isiT hg hm PyProof.Rows.boot_isinstance (pa_cons hT (pa_cons (pe_tup (pa_cons hb (pa_cons hc pa_nil hs4) hs3)) pa_nil hs2) hs) (by decide) (by decide) hs hpl) fun σ H Q h => tG.step h fun d δ1 x G1 H1 r1 p1 h1 => by
    obtain ⟨z, ez, h3⟩ := Post.only h1
    unfold gIsi2 at ez
    split at ez
    case isFalse => cases ez
    rename_i hpl
    cases ez
    refine ⟨by show 2 ≤ sizeLine; rw [sizeLine_eq]; omega, fun tp htp => ?_⟩
    have g := Grow.alloc r1.same r1.nt htp (o := .tup [V.ty T, V.ty U])
    refine ⟨x, tp, [V.ty T, V.ty U], _, [.type T, .type U], isiD T d || isiD U d, rfl, upd_same, .cons (.ty T) (.cons (.ty U) .nil), RpV.ty (g.rel r1).same hpl (RpV.at g.ext (g.rel r1) p1), ?_, Post.done h3 r1 g (.bl _)⟩
    refine kitAny_cons (kit_ty (ht.at d)) (fun e => ?_) (fun e => by rw [e]; rfl)
    refine kitAny_cons (kit_ty (hu.at d)) (fun e2 => by rw [e, e2]; rfl) (fun e2 => by rw [e, e2]; rfl)
end
def gMax2 : D → D → R D
  | .int i, .int j => .ok (.int (if j > i then j else i))
  | _, _ => .bad
def gMin2 : D → D → R D
  | .int i, .int j => .ok (.int (if j < i then j else i))
  | _, _ => .bad
section
variable {K : PySem.W.Frag} {ct : Nat → Addr} {W : WX} {X : Cx} {a b : Expr} {ma mb : M D} {p q pos : Pos}
theorem ve_max2 (hc : X.calm = true) (hg : Gl X "max") (hm : X.mg "max" = none) (ha : VE ct W X a ma) (hb : VV ct W X b mb)
    (hs : starEach [a, b] X.env = (false, eval a X.env) :: starEach [b] X.env := by rfl) (hs2 : starEach [b] X.env = (false, eval b X.env) :: starEach [] X.env := by rfl) (hpl : (backTo pos (starEach [b] X.env)).any (·.1) = false := by rfl) :
    VE ct W X (.Call (.Name "max" p) [a, b] [] pos) (mOp2 gMax2 ma mb) :=
  PE.conv (pe_callB (call_max2 hc) hg hm PyProof.Rows.boot_max (pa_cons ha (pa_cons hb pa_nil hs2) hs) (by decide) (by decide) hs hpl) fun σ H Q h => tG.step h fun d δ1 x G1 H1 r1 p1 h1 => ⟨δ1, G1, r1, TW.step r1 h1 fun e δ2 y G2 H2 _ x2 r2 p2 h2 => by
    obtain ⟨z, ez, h3⟩ := Post.only h2
    unfold gMax2 at ez
    split at ez
    · cases ez
      have e1 := Rp.ofInt p1
      have e2 := RpV.int p2
      subst e1; subst e2
      exact ⟨_, _, rfl, Post.done h3 r2 (Grow.refl r2) (.int _)⟩
    · cases ez⟩
theorem ve_min2 (hc : X.calm = true) (hg : Gl X "min") (hm : X.mg "min" = none) (ha : VE ct W X a ma) (hb : VV ct W X b mb)
    (hs : starEach [a, b] X.env = (false, eval a X.env) :: starEach [b] X.env := by rfl) (hs2 : starEach [b] X.env = (false, eval b X.env) :: starEach [] X.env := by rfl) (hpl : (backTo pos (starEach [b] X.env)).any (·.1) = false := by rfl) :
    VE ct W X (.Call (.Name "min" p) [a, b] [] pos) (mOp2 gMin2 ma mb) :=
  PE.conv (pe_callB (call_min2 hc) hg hm PyProof.Rows.boot_min (pa_cons ha (pa_cons hb pa_nil hs2) hs) (by decide) (by decide) hs hpl) fun σ H Q h => tG.step h fun d δ1 x G1 H1 r1 p1 h1 => ⟨δ1, G1, r1, TW.step r1 h1 fun e δ2 y G2 H2 _ x2 r2 p2 h2 => by
    obtain ⟨z, ez, h3⟩ := Post.only h2
    unfold gMin2 at ez
    split at ez
    · cases ez
      have e1 := Rp.ofInt p1
      have e2 := RpV.int p2
      subst e1; subst e2
      exact ⟨_, _, rfl, Post.done h3 r2 (Grow.refl r2) (.int _)⟩
    · cases ez⟩
end
abbrev MO := M (Option Int)
def PO' : Hp → Hp → Hp → List C → L2.St → Option Int → Option Int → Prop := fun _ _ _ _ _ v d => v = d
instance : Anti PO' := ⟨fun _ h => h⟩
abbrev VO (ct : Nat → Addr) (W : WX) (X : Cx) (e : Option Expr) (m : MO) : Prop := PO X e (tG X.K ct W PO' m)
theorem PO.conv {X : Cx} {e : Option Expr} {t t' : TO} (h : PO X e t) (i : ∀ σ H Q, t' σ H Q → t σ H Q) : PO X e t' := ⟨fun pins s σ H Q I q => h.run pins s σ H Q I (i σ H Q q)⟩
def mPart (m : M D) : MO := M.bind m fun d => match d with
  | .int i => M.pure (some i)
  | _ => fun _ => .bad
def mNoPart : MO := M.pure none
section
variable {ct : Nat → Addr} {W : WX} {X : Cx} {a e : Expr} {m ma mb : M D} {p p2 q pos : Pos} {lo hi : Option Expr} {ml mh : MO}
theorem vo_none : VO ct W X none mNoPart := PO.conv po_none fun σ H Q ⟨δ, G, r, q⟩ => q none G H Ext.refl r rfl
theorem vo_some (h : VE ct W X e m) : VO ct W X (some e) (mPart m) := PO.conv (po_some h) fun σ H Q h => tG.step h fun d δ1 x G1 H1 r1 p1 h1 => by
  cases d <;> first
    | exact h1.elim
    | exact ⟨_, Rp.ofInt p1, h1 _ _ _ Ext.refl r1 rfl⟩
def cutD (ds : List D) (lo hi : Option Int) : List D := (ds.drop (HT.sIx ds.length 0 lo)).take (HT.sIx ds.length ds.length hi - HT.sIx ds.length 0 lo)
theorem cutD_length (xs : List D) (lo hi : Option Int) : (cutD xs lo hi).length ≤ xs.length := by
  unfold cutD
  rw [List.length_take, List.length_drop]
  omega
theorem cut_rp {K : PySem.W.Frag} {G : Hp} {vs : List V} {ds : List D} {lo hi : Option Int} (h : RpAll K G vs ds) : RpAll K G (cutV vs lo hi) (cutD ds lo hi) := by
  unfold cutV cutD
  rw [RpAll.length h]
  exact RpAll.take _ (RpAll.drop _ h)
theorem cut_whole {ds : List D} {lo hi : Option Int} (h : HT.sIx ds.length 0 lo = 0 ∧ HT.sIx ds.length ds.length hi = ds.length) : cutD ds lo hi = ds := by
  unfold cutD
  rw [h.1, h.2, List.drop_zero, Nat.sub_zero, List.take_length]
end
def rgD (a b : Int) : List D := (List.range (b - a).toNat).map fun i => .int (a + (i : Nat))
def rgOk (a b : Int) : Bool := decide (-4611686018427387904 ≤ a ∧ a < 4611686018427387904 ∧ -4611686018427387904 ≤ b ∧ b < 4611686018427387904 ∧ (b - a).toNat ≤ 16777216)
theorem rgOk_of {a b : Int} (h : rgOk a b = true) : RgOk a b := by
  have := of_decide_eq_true h
  exact ⟨by omega, by omega, by omega, by omega, by omega⟩
theorem rg_rp {K : PySem.W.Frag} {G : Hp} (a b : Int) : RpAll K G (rgV a b) (rgD a b) := by
  unfold rgV rgD
  generalize List.range (b - a).toNat = l
  induction l with
  | nil => exact .nil
  | cons i l ih => exact .cons (.int _) ih
theorem rgD_length (a b : Int) : (rgD a b).length = (b - a).toNat := by unfold rgD; rw [List.length_map, List.length_range]
def gRg : D → D → R (List D)
  | .int i, .int j => if rgOk i j then .ok (rgD i j) else .bad
  | _, _ => .bad
def mRange (ma mb : M D) : M (List D) := M.bind ma fun d => M.bind mb fun e => M.only (gRg d e)
def mRange1 (ma : M D) : M (List D) := M.bind ma fun e => M.only (gRg (.int 0) e)
theorem gRg_ok {d e : D} {z : List D} (h : gRg d e = .ok z) : ∃ i j, d = .int i ∧ e = .int j ∧ rgOk i j = true ∧ z = rgD i j := by
  unfold gRg at h
  split at h
  · split at h
    · rename_i k
      cases h
      exact ⟨_, _, rfl, rfl, k, rfl⟩
    · cases h
  · cases h
section
variable {ct : Nat → Addr} {W : WX} {X : Cx} {a b : Expr} {ma mb : M D} {p p2 q pos : Pos}
theorem vn_listRg1 (hc : X.calm = true) (hg : Gl X "list") (hm : X.mg "list" = none) (hg2 : Gl X "range") (hm2 : X.mg "range" = none) (ha : VE ct W X a ma)
    (na : starEach [.Call (.Name "range" p) [a] [] q] X.env = (false, eval (.Call (.Name "range" p) [a] [] q) X.env) :: starEach [] X.env := by rfl) (na2 : starEach [a] X.env = (false, eval a X.env) :: starEach [] X.env := by rfl) :
    VN ct W X (.Call (.Name "list" p2) [.Call (.Name "range" p) [a] [] q] [] pos) (mRange1 ma) :=
  PE.conv (pe_listRg hc hg hm (prg_1 hg2 hm2 ha na2) na) fun σ H Q h => tG.step h fun d δ1 x G1 H1 r1 p1 h1 => by
    obtain ⟨z, ez, h3⟩ := Post.only h1
    obtain ⟨i, j, e1, e2, k, e3⟩ := gRg_ok ez
    cases e1
    subst e2 e3
    have hz := rgOk_of k
    exact ⟨j, Rp.ofInt p1, hz, fun q hq => Post.fresh h3 r1 hq (by rw [rgD_length, sizeLine_eq]; exact hz.2.2.2.2) (rg_rp 0 j)⟩
end
def gCatL : D → D → R (List D)
  | .list ds, .list es => if szOk (ds.length + es.length) then .ok (ds ++ es) else .bad
  | _, _ => .bad
def gRepL : D → D → R (List D)
  | .list ds, .int k => if decide (-4611686018427387904 ≤ k ∧ k < 4611686018427387904) && szOk (ds.length * k.toNat) then .ok (List.replicate k.toNat ds).flatten else .bad
  | _, _ => .bad
def mOp2N (g : D → D → R (List D)) (ma mb : M D) : M (List D) := M.bind ma fun d => M.bind mb fun e => M.only (g d e)
def R2N (K : PySem.W.Frag) (r : R2) (g : D → D → R (List D)) : Prop := ∀ (δ : List C) (σ : L2.St) (G H : Hp) (x y : V) (d e : D) (z : List D) (Q : VK), Rel K δ G σ H → RpV K δ σ G H x d → RpV K δ σ G H y e → g d e = .ok z →
  (∀ p vs, H p = none → z.length ≤ sizeLine → RpAll K G vs z → Q (.ref p) (upd H p (.lst vs))) → r x y H Q
theorem RpAll.rep {K : PySem.W.Frag} {G : Hp} {vs : List V} {ds : List D} (h : RpAll K G vs ds) : ∀ k : Nat, RpAll K G (List.replicate k vs).flatten (List.replicate k ds).flatten
  | 0 => .nil
  | k + 1 => by
    rw [List.replicate_succ, List.replicate_succ, List.flatten_cons, List.flatten_cons]
    exact h.append (RpAll.rep h k)
section
variable {K : PySem.W.Frag} {ct : Nat → Addr} {W : WX} {X : Cx} {a b : Expr} {ma mb : M D} {pos : Pos} {r : R2} {g : D → D → R (List D)}
theorem r2_CatL : R2N K rCat gCatL := fun δ σ G H x y d e z Q r hx hy hz q => by
  unfold gCatL at hz
  split at hz
  · split at hz
    · rename_i ds es hk
      cases hz
      have hl := szOk_le hk
      obtain ⟨a, xs, e1, h1, h2, h3⟩ := hx.lst' r.same
      obtain ⟨b, ys, e2, k1, k2, k3⟩ := hy.lst' r.same
      have l1 := h3.length
      have l2 := k3.length
      exact ⟨a, b, xs, ys, e1, e2, h1, k1, by omega, fun p hp => q p _ hp (by rw [List.length_append]; exact hl) (h3.append k3)⟩
    · cases hz
  · cases hz
theorem r2_RepL : R2N K rRep gRepL := fun δ σ G H x y d e z Q r hx hy hz q => by
  unfold gRepL at hz
  split at hz
  · split at hz
    · rename_i ds k hk
      rw [Bool.and_eq_true] at hk
      have hb := of_decide_eq_true hk.1
      cases hz
      have hl := szOk_le hk.2
      obtain ⟨a, xs, e1, h1, h2, h3⟩ := hx.lst' r.same
      have l1 := h3.length
      have e : (List.replicate k.toNat ds).flatten.length = ds.length * k.toNat := by
        rw [List.length_flatten, List.map_replicate, List.sum_replicate_nat, Nat.mul_comm]
      exact ⟨a, k, xs, e1, hy.int, h1, by omega, by omega, by rw [l1]; exact hl, fun p hp => q p _ hp (by rw [e]; exact hl) (h3.rep _)⟩
    · cases hz
  · cases hz
theorem vn_op {op : Operator} (ho : OpR X (binaryOp op) r) (hr : R2N X.K r g) (ha : VE ct W X a ma) (hb : VV ct W X b mb) : VN ct W X (.BinOp a op b pos) (mOp2N g ma mb) := PE.conv (pe_op ho ha hb) fun σ H Q h =>
  tG.step h fun d δ1 x G1 H1 r1 p1 h1 => ⟨δ1, G1, r1, TW.step r1 h1 fun e δ2 y G2 H2 _ x2 r2 p2 h2 => by
    obtain ⟨z, ez, h3⟩ := Post.only h2
    exact hr δ2 σ G2 H2 x y d e z Q r2 (.inl (Rp.mono x2.same p1)) p2 ez fun p vs hp hl ha => Post.fresh h3 r2 hp hl ha⟩
end
end TW
set_option Elab.async false
set_option linter.all false
set_option maxRecDepth 100000
namespace TW
open PySem PySem.Spec PyProof.Rows L2
structure Walks (K : PySem.W.Frag) (G0 : Hp) (J : It) (ds : List D) : Prop where
  size : ds.length ≤ sizeLine
  go : ∀ (i : Nat) (d : D) (G H : Hp), ds[i]? = some d → Same G0 G → Same G H → (∀ b o, G b = some o → NT o) → J.go i H ∧ ∀ x H', J.yld i H x H' → ∃ G', Grow G H G' H' ∧ Rp K G' x d
  stop : ∀ (i : Nat) (G H : Hp), ds.length ≤ i → Same G0 G → Same G H → J.stop i H
def PIt (K : PySem.W.Frag) : Hp → Hp → Hp → List C → L2.St → It → List D → Prop := fun _ G' _ _ _ J ds => Walks K G' J ds
instance {K : PySem.W.Frag} : Anti (PIt K) := ⟨fun _ h => h⟩
abbrev VI (ct : Nat → Addr) (W : WX) (X : Cx) (tg e : Expr) (m : M (List D)) : Prop := PI X tg e (tG X.K ct W (PIt X.K) m)
section
variable {K : PySem.W.Frag} {G : Hp}
theorem grow_id {G H : Hp} (s : Same G H) (n : ∀ b o, G b = some o → NT o) : Grow G H G H := ⟨Same.refl _, Same.refl _, s, n, fun _ _ h => .inl h⟩
theorem walks_l {a : Addr} {xs : List V} {ds : List D} (h : G a = some (.lst xs)) (z : ds.length ≤ sizeLine) (ha : RpAll K G xs ds) : Walks K G (Itl K a) ds :=
  ⟨z, fun i d G' H e s1 s2 n => by
    obtain ⟨v, h1, h2⟩ := ha.get e
    have hs : SqL K H a xs := SqL.of (s2 _ _ (s1 _ _ h))
    refine ⟨⟨xs, v, hs, h1⟩, fun x H' ⟨e1, e2⟩ => ?_⟩
    subst e1
    have := e2 xs hs
    rw [h1] at this
    cases this
    exact ⟨G', grow_id s2 n, h2.mono s1⟩, fun i G' H e s1 s2 => ⟨xs, SqL.of (s2 _ _ (s1 _ _ h)), by rw [RpAll.length ha]; exact e⟩⟩
theorem walks_t {a : Addr} {xs : List V} {ds : List D} (h : SqT K G a xs) (z : ds.length ≤ sizeLine) (ha : RpAll K G xs ds) : Walks K G (Itt K a) ds :=
  ⟨z, fun i d G' H e s1 s2 n => by
    obtain ⟨v, h1, h2⟩ := ha.get e
    have hs : SqT K H a xs := Same.sqt (s1.trans s2) h
    refine ⟨⟨xs, v, hs, h1⟩, fun x H' ⟨e1, e2⟩ => ?_⟩
    subst e1
    have := e2 xs hs
    rw [h1] at this
    cases this
    exact ⟨G', grow_id s2 n, h2.mono s1⟩, fun i G' H e s1 s2 => ⟨xs, Same.sqt (s1.trans s2) h, by rw [RpAll.length ha]; exact e⟩⟩
theorem rgD_get {lo hi : Int} {i : Nat} {d : D} (e : (rgD lo hi)[i]? = some d) : i < (hi - lo).toNat ∧ d = .int (lo + i) := by
  unfold rgD at e
  rw [List.getElem?_map] at e
  cases q : (List.range (hi - lo).toNat)[i]? with
  | none => rw [q] at e; cases e
  | some j =>
    rw [q] at e
    obtain ⟨h1, h2⟩ := List.getElem?_eq_some_iff.mp q
    rw [List.getElem_range] at h2
    rw [List.length_range] at h1
    subst h2
    cases e
    exact ⟨h1, rfl⟩
theorem walks_r {lo hi : Int} (z : (hi - lo).toNat ≤ sizeLine) : Walks K G (Itr lo (hi - lo).toNat) (rgD lo hi) :=
  ⟨by rw [rgD_length]; exact z, fun i d G' H e s1 s2 n => by
    obtain ⟨h1, h2⟩ := rgD_get e
    subst h2
    exact ⟨h1, fun x H' ⟨e1, e2⟩ => by subst e1; subst e2; exact ⟨G', grow_id s2 n, .int _⟩⟩, fun i G' H e s1 s2 => by rw [rgD_length] at e; exact e⟩
end
theorem pi_seq {X : Cx} {tg l : Expr} {tl : TE} (hl : PE X l tl) : PI X tg l (fun σ H R => tl σ H fun x H1 => ∃ a, x = .ref a ∧ ((∃ xs, SqL X.K H1 a xs ∧ R (Itl X.K a) H1) ∨ ∃ xs, SqT X.K H1 a xs ∧ R (Itt X.K a) H1)) := by
  refine ⟨fun pins s σ H R I h => ?_⟩
  refine thn (hl.run pins s σ H _ I h) fun v s1 ⟨x, H1, I1, r1, q1⟩ => ?_
  obtain ⟨a, e, q⟩ := q1
  subst e
  cases r1
  rcases q with ⟨xs, hq, q⟩ | ⟨xs, hq, q⟩
  · obtain ⟨its, rv, p, hz⟩ := I1.list hq
    refine wpAny_pyIter_list p.isList ?_
    refine ⟨s1.heap.objs.size, [s1.heap.objs.size], _, _, H1, rfl, I1.kept (t' := s1.toks) fun b o e => Heap.get?_push_of_some _ e, turn_list a _, ⟨_, Heap.get?_push_size _ rfl, rfl, rfl⟩, fun b hb => ?_, q⟩
    have e : b = s1.heap.objs.size := by simpa using hb
    subst e
    exact I1.fpOk (Nat.le_refl _) (I1.hok.fresh (Nat.le_refl _))
  · obtain ⟨its, rv, p, hz⟩ := I1.tuple hq
    refine wpAny_pyIter_tuple (show s1.heap.IsTuple a its.toArray from p) ?_
    refine ⟨s1.heap.objs.size, [s1.heap.objs.size], _, _, H1, rfl, I1.kept (t' := s1.toks) fun b o e => Heap.get?_push_of_some _ e, turn_tuple a _, ⟨_, Heap.get?_push_size _ rfl, rfl, rfl⟩, fun b hb => ?_, q⟩
    have e : b = s1.heap.objs.size := by simpa using hb
    subst e
    exact I1.fpOk (Nat.le_refl _) (I1.hok.fresh (Nat.le_refl _))
def gSeq : D → R (List D)
  | .list ds => .ok ds
  | .tuple ds => .ok ds
  | _ => .bad
def mSeq1 (m : M D) : M (List D) := M.bind m fun d => M.only (gSeq d)
section
variable {ct : Nat → Addr} {W : WX} {X : Cx} {tg e a b : Expr} {m ma mb : M D} {p q pos : Pos}
theorem Post.same {K : PySem.W.Frag} {α β : Type} {P : Hp → Hp → Hp → List C → L2.St → β → α → Prop} {δ : List C} {G H : Hp} {σ : L2.St} {Q : β → Hp → Prop} {a : α} {v : β} (h : Post K ct W P (.ok (a, δ)) δ G H σ Q) (r : Rel K δ G σ H) (q : P H G H δ σ v a) : Q v H := h v G H Ext.refl r q
theorem vi_seq (h : VE ct W X e m) : VI ct W X tg e (mSeq1 m) := PI.conv (pi_seq h) fun σ H R h => tG.step h fun d δ1 x G1 H1 r1 p1 h1 => by
  obtain ⟨z, ez, h3⟩ := Post.only h1
  unfold gSeq at ez
  split at ez
  · cases ez
    obtain ⟨a, xs, e1, k1, k2, k3⟩ := Rp.ofLst p1
    exact ⟨a, e1, .inl ⟨xs, SqL.of (r1.same _ _ k1), h3 _ _ _ Ext.refl r1 (walks_l k1 k2 k3)⟩⟩
  · cases ez
    obtain ⟨a, xs, e1, k1, k2, k3⟩ := Rp.ofTup p1
    exact ⟨a, e1, .inr ⟨xs, Same.sqt r1.same k1, h3 _ _ _ Ext.refl r1 (walks_t k1 k2 k3)⟩⟩
  · cases ez
theorem vi_range1 (hg : Gl X "range") (hm : X.mg "range" = none) (ha : VE ct W X a ma) (hs : starEach [a] X.env = [(false, eval a X.env)] := by rfl) : VI ct W X tg (.Call (.Name "range" p) [a] [] pos) (mRange1 ma) :=
  PI.conv (pi_range1 hg hm (pa_cons ha pa_nil hs) hs) fun σ H R h => tG.step h fun d δ1 x G1 H1 r1 p1 h1 => by
    obtain ⟨z, ez, h3⟩ := Post.only h1
    obtain ⟨i, j, e1, e2, k, e3⟩ := gRg_ok ez
    cases e1
    subst e2 e3
    have hz := rgOk_of k
    have e := Rp.ofInt p1
    subst e
    refine ⟨j, rfl, hz.2.2.1, hz.2.2.2.1, ?_⟩
    have w := walks_r (K := X.K) (G := G1) (lo := 0) (hi := j) (by rw [sizeLine_eq]; exact hz.2.2.2.2)
    have e : (j - 0).toNat = j.toNat := by rw [Int.sub_zero]
    rw [e] at w
    exact h3 _ _ _ Ext.refl r1 w
theorem vi_range2 (hg : Gl X "range") (hm : X.mg "range" = none) (ha : VE ct W X a ma) (hb : VE ct W X b mb) (hs : starEach [a, b] X.env = [(false, eval a X.env), (false, eval b X.env)] := by rfl) (hs2 : starEach [b] X.env = [(false, eval b X.env)] := by rfl) : VI ct W X tg (.Call (.Name "range" p) [a, b] [] pos) (mRange ma mb) :=
  PI.conv (pi_range2 hg hm (pa_cons ha (pa_cons hb pa_nil hs2) (by rw [hs, hs2])) hs hs2) fun σ H R h => tG.step h fun d δ1 x G1 H1 r1 p1 h1 => ⟨δ1, G1, r1, TW.step r1 h1 fun e δ2 y G2 H2 _ x2 r2 p2 h2 => by
    obtain ⟨z, ez, h3⟩ := Post.only h2
    obtain ⟨i, j, e1, e2, k, e3⟩ := gRg_ok ez
    subst e1 e2 e3
    have hz := rgOk_of k
    have e1 := Rp.ofInt p1
    have e2 := Rp.ofInt p2
    subst e1 e2
    exact ⟨i, j, rfl, ⟨hz.1, hz.2.1, hz.2.2.1, hz.2.2.2.1⟩, h3 _ _ _ Ext.refl r2 (walks_r (by rw [sizeLine_eq]; exact hz.2.2.2.2))⟩⟩
def zpD (ds : List D) : D := .dict [(.bool true, .tuple ds)]
def gZip : D → D → R (List D)
  | .list ds, .list es => .ok ((ds.zip es).map fun p => zpD [p.1, p.2])
  | .tuple ds, .tuple es => .ok ((ds.zip es).map fun p => zpD [p.1, p.2])
  | _, _ => .bad
def mZip (ma mb : M D) : M (List D) := M.bind ma fun d => M.bind mb fun e => M.only (gZip d e)
theorem zip_get {ds es : List D} {i : Nat} {d : D} (e : ((ds.zip es).map fun p => zpD [p.1, p.2])[i]? = some d) : ∃ x y, ds[i]? = some x ∧ es[i]? = some y ∧ d = zpD [x, y] := by
  rw [List.getElem?_map] at e
  cases q : (ds.zip es)[i]? with
  | none => rw [q] at e; cases e
  | some p =>
    rw [q] at e
    cases e
    obtain ⟨h1, h2⟩ := List.getElem?_zip_eq_some.mp q
    exact ⟨p.1, p.2, h1, h2, rfl⟩
theorem pair_grow {K : PySem.W.Frag} {G H : Hp} {T : Addr} {x y : V} {d e : D} (s : Same G H) (n : ∀ b o, G b = some o → NT o) (hT : H T = none) (h1 : Rp K G x d) (h2 : Rp K G y e) : ∃ G', Grow G H G' (upd H T (.tup [x, y])) ∧ Rp K G' (.ref T) (zpD [d, e]) := by
  have sg := same_upd (o := .tup [x, y]) (Same.free s hT)
  exact ⟨_, Grow.laid s n hT nt_tup, .zp (SqT.of upd_same) (.cons (h1.mono sg) (.cons (h2.mono sg) .nil))⟩
theorem zip_size {ds es : List D} (h : ds.length ≤ sizeLine) : ((ds.zip es).map fun p => zpD [p.1, p.2]).length ≤ sizeLine := by
  rw [List.length_map, List.length_zip]; omega
theorem walks_zl {K : PySem.W.Frag} {G : Hp} {a b : Addr} {xs ys : List V} {ds es : List D} (h : G a = some (.lst xs)) (h' : G b = some (.lst ys)) (z : ds.length ≤ sizeLine) (ha : RpAll K G xs ds) (hb : RpAll K G ys es) : Walks K G (Itz K a b) ((ds.zip es).map fun p => zpD [p.1, p.2]) :=
  ⟨zip_size z, fun i d G' H e s1 s2 n => by
    obtain ⟨d1, d2, q1, q2, rfl⟩ := zip_get e
    obtain ⟨v, h1, h2⟩ := ha.get q1
    obtain ⟨w, k1, k2⟩ := hb.get q2
    have hs : SqL K H a xs := SqL.of (s2 _ _ (s1 _ _ h))
    have hs' : SqL K H b ys := SqL.of (s2 _ _ (s1 _ _ h'))
    refine ⟨⟨xs, ys, v, w, hs, hs', h1, k1⟩, fun x H' ⟨T, x1, y1, e1, e2, e3, e4, e5⟩ => ?_⟩
    have t1 := e4 xs hs
    have t2 := e5 ys hs'
    rw [h1] at t1
    rw [k1] at t2
    cases t1
    cases t2
    subst e1 e3
    exact pair_grow s2 n e2 (h2.mono s1) (k2.mono s1), fun i G' H e s1 s2 => ⟨xs, ys, SqL.of (s2 _ _ (s1 _ _ h)), SqL.of (s2 _ _ (s1 _ _ h')), by
      rw [List.length_map, List.length_zip] at e
      rw [RpAll.length ha, RpAll.length hb]
      omega⟩⟩
theorem walks_zt {K : PySem.W.Frag} {G : Hp} {a b : Addr} {xs ys : List V} {ds es : List D} (h : SqT K G a xs) (h' : SqT K G b ys) (z : ds.length ≤ sizeLine) (ha : RpAll K G xs ds) (hb : RpAll K G ys es) : Walks K G (RZ.ItzT K a b) ((ds.zip es).map fun p => zpD [p.1, p.2]) :=
  ⟨zip_size z, fun i d G' H e s1 s2 n => by
    obtain ⟨d1, d2, q1, q2, rfl⟩ := zip_get e
    obtain ⟨v, h1, h2⟩ := ha.get q1
    obtain ⟨w, k1, k2⟩ := hb.get q2
    have hs : SqT K H a xs := Same.sqt (s1.trans s2) h
    have hs' : SqT K H b ys := Same.sqt (s1.trans s2) h'
    refine ⟨⟨xs, ys, v, w, hs, hs', h1, k1⟩, fun x H' ⟨T, x1, y1, e1, e2, e3, e4, e5⟩ => ?_⟩
    have t1 := e4 xs hs
    have t2 := e5 ys hs'
    rw [h1] at t1
    rw [k1] at t2
    cases t1
    cases t2
    subst e1 e3
    exact pair_grow s2 n e2 (h2.mono s1) (k2.mono s1), fun i G' H e s1 s2 => ⟨xs, ys, Same.sqt (s1.trans s2) h, Same.sqt (s1.trans s2) h', by
      rw [List.length_map, List.length_zip] at e
      rw [RpAll.length ha, RpAll.length hb]
      omega⟩⟩
theorem vi_zip {elts : List Expr} {kk : Nat} {tpos : Pos} (hg : Gl X "zip") (hm : X.mg "zip" = none) (ha : VE ct W X a ma) (hb : VE ct W X b mb)
    (hs : starEach [a, b] X.env = (false, eval a X.env) :: starEach [b] X.env := by rfl) (hs2 : starEach [b] X.env = (false, eval b X.env) :: starEach [] X.env := by rfl) (hpl : (backTo pos (starEach [b] X.env)).any (·.1) = false := by rfl) :
    VI ct W X (.Tuple elts kk tpos) (.Call (.Name "zip" p) [a, b] [] pos) (mZip ma mb) :=
  PI.conv (RZ.pi_zipA hg hm (pa_cons ha (pa_cons hb pa_nil hs2) hs) hs hpl) fun σ H R h => tG.step h fun d δ1 x G1 H1 r1 p1 h1 => ⟨δ1, G1, r1, TW.step r1 h1 fun e δ2 y G2 H2 _ x2 r2 p2 h2 => by
    obtain ⟨z, ez, h3⟩ := Post.only h2
    have p1 := Rp.mono x2.same p1
    unfold gZip at ez
    split at ez
    · cases ez
      obtain ⟨a, xs, e1, k1, k2, k3⟩ := Rp.ofLst p1
      obtain ⟨b, ys, e2, j1, j2, j3⟩ := Rp.ofLst p2
      subst e1 e2
      exact ⟨a, b, xs, ys, rfl, .inl ⟨SqL.of (r2.same _ _ k1), SqL.of (r2.same _ _ j1), h3 _ _ _ Ext.refl r2 (walks_zl k1 j1 k2 k3 j3)⟩⟩
    · cases ez
      obtain ⟨a, xs, e1, k1, k2, k3⟩ := Rp.ofTup p1
      obtain ⟨b, ys, e2, j1, j2, j3⟩ := Rp.ofTup p2
      subst e1 e2
      exact ⟨a, b, xs, ys, rfl, .inr ⟨Same.sqt r2.same k1, Same.sqt r2.same j1, h3 _ _ _ Ext.refl r2 (walks_zt k1 j1 k2 k3 j3)⟩⟩
    · cases ez⟩
end
def setC : List C → List Nat → List D → List C
  | cs, i :: is, d :: ds => setC (cs.set i (.dat d)) is ds
  | cs, _, _ => cs
def setA : L2.St → List Nat → List V → L2.St
  | σ, i :: is, v :: vs => setA (σ.set i (some v)) is vs
  | σ, _, _ => σ
def wipeC : List C → List Nat → List C
  | cs, [] => cs
  | cs, v :: vs => (wipeC cs vs).set v .un
section
variable {K : PySem.W.Frag} {δ : List C} {G H : Hp} {σ : L2.St}
theorem set_keep {δ : List C} {i : Nat} {c : C} (hc : ∀ t ds, c ≠ .own t ds) {j : Nat} {t : Bool} {es : List D} (h : (δ.set i c)[j]? = some (.own t es)) : j ≠ i ∧ δ[j]? = some (.own t es) := by
  by_cases q : j = i
  · subst q
    by_cases hi : j < δ.length
    · rw [List.getElem?_set_self hi] at h
      exact absurd (Option.some.inj h) (hc t es)
    · rw [List.getElem?_eq_none (by simpa using hi)] at h
      cases h
  · rw [List.getElem?_set_ne (Ne.symm q)] at h
    exact ⟨q, h⟩
theorem Rel.set {i : Nat} {v : V} {d : D} (r : Rel K δ G σ H) (h : Rp K G v d) : Rel K (δ.set i (.dat d)) G (σ.set i (some v)) H := by
  have kp : ∀ {j : Nat} {t : Bool} {es : List D}, (δ.set i (.dat d))[j]? = some (.own t es) → j ≠ i ∧ δ[j]? = some (.own t es) := fun h => set_keep (c := .dat d) (fun _ _ e => nomatch e) h
  refine ⟨by rw [List.length_set, List.length_set]; exact r.len, r.same, r.nt, fun j e q => ?_, fun j t es q => ?_, fun j k p t u es fs h1 h2 h3 h4 => ?_, r.tabs⟩
  · by_cases z : j = i
    · subst z
      by_cases hi : j < δ.length
      · rw [List.getElem?_set_self hi] at q
        cases q
        exact ⟨v, by rw [List.getElem?_set_self (by rw [← r.len]; exact hi)], h⟩
      · rw [List.getElem?_eq_none (by simpa using hi)] at q
        cases q
    · rw [List.getElem?_set_ne (Ne.symm z)] at q ⊢
      exact r.dat j e q
  · obtain ⟨z, q⟩ := kp q
    rw [List.getElem?_set_ne (Ne.symm z)]
    exact r.own j t es q
  · obtain ⟨z1, q1⟩ := kp h1
    obtain ⟨z2, q2⟩ := kp h2
    rw [List.getElem?_set_ne (Ne.symm z1)] at h3
    rw [List.getElem?_set_ne (Ne.symm z2)] at h4
    exact r.inj j k p t u es fs q1 q2 h3 h4
theorem set_ow {i : Nat} {c : C} {x : Option V} (hc : ∀ t ds, c ≠ .own t ds) {t : Bool} {b : Addr} (h : Ow t (δ.set i c) (σ.set i x) b) : Ow t δ σ b := by
  obtain ⟨j, es, h1, h2⟩ := h
  obtain ⟨z, h1⟩ := set_keep hc h1
  rw [List.getElem?_set_ne (Ne.symm z)] at h2
  exact ⟨j, es, h1, h2⟩
theorem Ext.sub {δ1 : List C} {σ1 : L2.St} (h : ∀ t b, Ow t δ1 σ1 b → Ow t δ σ b) : Ext δ G H σ δ1 G H σ1 := ⟨fun _ _ h _ _ => h, fun _ h => h, Same.refl _, fun _ _ h => .inl h, fun b q => .inl (h _ b q), fun b q => h _ b q⟩
theorem Rel.setA : ∀ {is : List Nat} {vs : List V} {ds : List D} {δ : List C} {σ : L2.St}, Rel K δ G σ H → RpAll K G vs ds → Rel K (setC δ is ds) G (TW.setA σ is vs) H
  | [], _, _, _, _, r, _ => by cases ‹RpAll K G _ _› <;> exact r
  | i :: is, _, _, _, _, r, .nil => r
  | i :: is, _ :: vs, _ :: ds, _, _, r, .cons h t => Rel.setA (is := is) (vs := vs) (ds := ds) (r.set h) t
theorem setA_ow : ∀ {is : List Nat} {vs : List V} {ds : List D} {δ : List C} {σ : L2.St} {t : Bool} {b : Addr}, RpAll K G vs ds → Ow t (setC δ is ds) (setA σ is vs) b → Ow t δ σ b
  | [], _, _, _, _, _, _, _, h => by cases ‹RpAll K G _ _› <;> exact h
  | i :: is, _, _, _, _, _, _, .nil, h => h
  | i :: is, _, d :: _, _, _, _, _, .cons _ t, h => set_ow (c := .dat d) (fun _ _ e => nomatch e) (setA_ow t h)
theorem Rel.unset {i : Nat} {x : Option V} (r : Rel K δ G σ H) : Rel K (δ.set i .un) G (σ.set i x) H := by
  have kp : ∀ {j : Nat} {t : Bool} {es : List D}, (δ.set i .un)[j]? = some (.own t es) → j ≠ i ∧ δ[j]? = some (.own t es) := fun h => set_keep (c := .un) (fun _ _ e => nomatch e) h
  refine ⟨by rw [List.length_set, List.length_set]; exact r.len, r.same, r.nt, fun j e q => ?_, fun j t es q => ?_, fun j k p t u es fs h1 h2 h3 h4 => ?_, r.tabs⟩
  · have z : j ≠ i := fun z => by
      subst z
      by_cases hi : j < δ.length
      · rw [List.getElem?_set_self hi] at q
        cases q
      · rw [List.getElem?_eq_none (by simpa using hi)] at q
        cases q
    rw [List.getElem?_set_ne (Ne.symm z)] at q ⊢
    exact r.dat j e q
  · obtain ⟨z, q⟩ := kp q
    rw [List.getElem?_set_ne (Ne.symm z)]
    exact r.own j t es q
  · obtain ⟨z1, q1⟩ := kp h1
    obtain ⟨z2, q2⟩ := kp h2
    rw [List.getElem?_set_ne (Ne.symm z1)] at h3
    rw [List.getElem?_set_ne (Ne.symm z2)] at h4
    exact r.inj j k p t u es fs q1 q2 h3 h4
theorem Rel.wipe (r : Rel K δ G σ H) : ∀ vs : List Nat, Rel K (wipeC δ vs) G (L2.wipe σ vs) H
  | [] => r
  | _ :: vs => (Rel.wipe r vs).unset
theorem wipe_ow {t : Bool} {b : Addr} : ∀ {vs : List Nat}, Ow t (wipeC δ vs) (wipe σ vs) b → Ow t δ σ b
  | [], h => h
  | _ :: vs, h => wipe_ow (vs := vs) (set_ow (c := .un) (fun _ _ e => nomatch e) h)
theorem wipeC_not {i : Nat} {c : C} : ∀ {vs : List Nat}, (wipeC δ vs)[i]? = some c → c ≠ .un → i ∉ vs
  | [], _, _ => by simp
  | v :: vs, h, n => by
    unfold wipeC at h
    by_cases q : v = i
    · subst q
      by_cases hv : v < (wipeC δ vs).length
      · rw [List.getElem?_set_self hv] at h
        exact absurd (Option.some.inj h).symm n
      · rw [List.getElem?_eq_none (by simpa using hv)] at h
        cases h
    · rw [List.getElem?_set_ne q] at h
      have := wipeC_not h n
      intro hm
      rcases List.mem_cons.mp hm with z | z
      · exact q z.symm
      · exact this z
theorem wipe_at {i : Nat} : ∀ {vs : List Nat}, i ∉ vs → (wipe σ vs)[i]? = σ[i]? := fun h => L2.wipe_out h
theorem Rel.unwipe {vs : List Nat} (r : Rel K (wipeC δ vs) G (L2.wipe σ vs) H) : Rel K (wipeC δ vs) G σ H := by
  have nv : ∀ {i : Nat} {d : D}, (wipeC δ vs)[i]? = some (.dat d) → (L2.wipe σ vs)[i]? = σ[i]? := fun h => wipe_at (wipeC_not h fun z => nomatch z)
  have no : ∀ {i : Nat} {t : Bool} {d : List D}, (wipeC δ vs)[i]? = some (.own t d) → (L2.wipe σ vs)[i]? = σ[i]? := fun h => wipe_at (wipeC_not h fun z => nomatch z)
  refine ⟨by rw [r.len, wipe_length], r.same, r.nt, fun i d h => ?_, fun i t ds h => ?_, fun i j p t u ds es h1 h2 h3 h4 => ?_, r.tabs⟩
  · rw [← nv h]; exact r.dat i d h
  · rw [← no h]; exact r.own i t ds h
  · rw [← no h1] at h3
    rw [← no h2] at h4
    exact r.inj i j p t u ds es h1 h2 h3 h4
theorem unwipe_ow {vs : List Nat} {t : Bool} {b : Addr} (h : Ow t (wipeC δ vs) σ b) : Ow t (wipeC δ vs) (wipe σ vs) b := by
  obtain ⟨i, ds, h1, h2⟩ := h
  exact ⟨i, ds, h1, by rw [wipe_at (wipeC_not h1 fun z => nomatch z)]; exact h2⟩
theorem wipe_set {i : Nat} {x : Option V} : ∀ {vs : List Nat}, i ∈ vs → wipe (σ.set i x) vs = wipe σ vs
  | [], h => by cases h
  | v :: vs, h => by
    show (wipe (σ.set i x) vs).set v none = (wipe σ vs).set v none
    by_cases hv : i ∈ vs
    · rw [wipe_set hv]
    · have e : i = v := by
        rcases List.mem_cons.mp h with z | z
        · exact z
        · exact absurd z hv
      subst e
      have : ∀ vs : List Nat, i ∉ vs → wipe (σ.set i x) vs = (wipe σ vs).set i x := fun vs => by
        induction vs with
        | nil => intro _; rfl
        | cons w ws ih =>
          intro hn
          have h1 : i ≠ w := fun e => hn (by rw [e]; exact List.mem_cons_self)
          have h2 : i ∉ ws := fun e => hn (List.mem_cons_of_mem _ e)
          show (wipe (σ.set i x) ws).set w none = ((wipe σ ws).set w none).set i x
          rw [ih h2, List.set_comm _ _ h1]
      rw [this vs hv, List.set_set]
theorem wipe_wipe : ∀ (us vs : List Nat), (∀ i ∈ us, i ∈ vs) → wipe (wipe σ us) vs = wipe σ vs
  | [], _, _ => rfl
  | u :: us, vs, h => by
    show wipe ((wipe σ us).set u none) vs = wipe σ vs
    rw [wipe_set (h u List.mem_cons_self)]
    exact wipe_wipe us vs fun i hi => h i (List.mem_cons_of_mem _ hi)
theorem wipe_setA : ∀ {is : List Nat} {vs : List V} {us : List Nat} {σ : L2.St}, (∀ i ∈ is, i ∈ us) → wipe (setA σ is vs) us = wipe σ us
  | [], _, _, _, _ => rfl
  | _ :: _, [], _, _, _ => rfl
  | i :: is, v :: vs, us, σ, h => by
    show wipe (TW.setA (σ.set i (some v)) is vs) us = wipe σ us
    rw [wipe_setA fun j hj => h j (List.mem_cons_of_mem _ hj), wipe_set (h i List.mem_cons_self)]
end
structure TgOk (K : PySem.W.Frag) (g : TG) (is : List Nat) (f : D → R (List D)) : Prop where
  run : ∀ (δ : List C) (σ : L2.St) (G H : Hp) (x : V) (d : D) (ds : List D) (Q : L2.St → Hp → Prop), Rel K δ G σ H → Rp K G x d → f d = .ok ds → (∀ vs, RpAll K G vs ds → Q (setA σ is vs) H) → g x σ H Q
def fName : D → R (List D) := fun d => .ok [d]
def fTup (n : Nat) : D → R (List D)
  | .tuple ds => if ds.length = n then .ok ds else .bad
  | .dict [(.bool true, .tuple ds)] => if ds.length = n then .ok ds else .bad
  | _ => .bad
theorem fTup_some {K : PySem.W.Frag} {G : Hp} {n : Nat} {x : V} {d : D} {ds : List D} (h : Rp K G x d) (e : fTup n d = .ok ds) : ∃ a xs, x = .ref a ∧ SqT K G a xs ∧ RpAll K G xs ds ∧ ds.length = n := by
  unfold fTup at e
  split at e
  · split at e
    · rename_i es hl
      cases e
      obtain ⟨a, xs, e1, k1, k2, k3⟩ := Rp.ofTup h
      exact ⟨a, xs, e1, k1, k3, hl⟩
    · cases e
  · split at e
    · rename_i es hl
      cases e
      obtain ⟨a, xs, e1, k1, k3⟩ := Rp.ofZp h
      exact ⟨a, xs, e1, k1, k3, hl⟩
    · cases e
  · cases e
section
variable {K : PySem.W.Frag}
theorem tg_name {i : Nat} : TgOk K (gName i) [i] fName := ⟨fun δ σ G H x d ds Q r h e q => by
  cases e
  exact q [x] (.cons h .nil)⟩
theorem tg_two {i j : Nat} : TgOk K (gTup K 2 (gCons (gName i) (gCons (gName j) gNil))) [i, j] (fTup 2) := ⟨fun δ σ G H x d ds Q r h e q => by
  obtain ⟨a, xs, e1, k1, k3, hl⟩ := fTup_some h e
  have hx := RpAll.length k3
  match xs, hx with
  | [v, w], hx => exact ⟨a, [v, w], e1, Same.sqt r.same k1, rfl, v, [w], rfl, w, [], rfl, rfl, q [v, w] k3⟩
  | [], hx => simp at hx; omega
  | [_], hx => simp at hx; omega
  | _ :: _ :: _ :: _, hx => simp at hx; omega⟩
end
def mYes : M Bool := M.pure true
def compGo (vs is : List Nat) (f : D → R (List D)) (mt : M Bool) (me : M D) : List D → M (List D)
  | [], cs => .ok ([], cs)
  | x :: xs, cs => match f x with
    | .ok ds => match mt (setC cs is ds) with
      | .ok (true, c1) => match me c1 with
        | .ok (d, c2) => match compGo vs is f mt me xs (wipeC c2 vs) with
          | .ok (r, c3) => .ok (d :: r, c3)
          | _ => .bad
        | _ => .bad
      | .ok (false, c1) => compGo vs is f mt me xs (wipeC c1 vs)
      | _ => .bad
    | _ => .bad
def mComp (vs is : List Nat) (f : D → R (List D)) (mi : M (List D)) (mt : M Bool) (me : M D) : M (List D) := M.bind mi fun ds => fun cs => match compGo vs is f mt me ds (wipeC cs vs) with
  | .ok r => .ok r
  | _ => .bad
def W0 : WX := fun _ _ _ _ => False
theorem takesW0 {X : Cx} : Takes X W0 := fun _ _ x => by
  obtain ⟨_, _, _, _, _, _, _, _, _, _, _, _, _, _, _, _, z⟩ := x
  exact z.elim
section
variable {ct : Nat → Addr} {W : WX} {X : Cx} {tg iter elt : Expr} {ifs : List Expr} {scope : Scope} {own : List (Str × Nat)} {pos : Pos} {mi : M (List D)} {mt : M Bool} {me : M D} {g : TG} {is : List Nat} {f : D → R (List D)}
structure CompAt (K : PySem.W.Frag) (vs is : List Nat) (f : D → R (List D)) (mt : M Bool) (me : M D) (ds : List D) (res : List D) (δf : List C) (δ0 : List C) (G0 H0 : Hp) (σ0 : L2.St) (Dd : Addr) (i m : Nat) (H : Hp) : Prop where
  ex : ∃ (δi : List C) (Gi : Hp) (acc : List D) (accV : List V) (rest : List D), i + m = ds.length ∧ Rel K (wipeC δi vs) Gi (wipe σ0 vs) H ∧ Ext δ0 G0 H0 σ0 (wipeC δi vs) Gi H (wipe σ0 vs) ∧ H Dd = some (.lst accV) ∧ RpAll K Gi accV acc ∧ acc.length ≤ i ∧ Gi Dd = none ∧
    ¬ OwA (wipeC δi vs) (wipe σ0 vs) Dd ∧ compGo vs is f mt me (ds.drop i) (wipeC δi vs) = .ok (rest, wipeC δf vs) ∧ res = acc ++ rest
theorem compGo_end {vs : List Nat} {mt : M Bool} {me : M D} : ∀ (ds : List D) (cs : List C) (r : List D) (cf : List C), compGo vs is f mt me ds (wipeC cs vs) = .ok (r, cf) → ∃ c, cf = wipeC c vs
  | [], cs, r, cf, h => by cases h; exact ⟨cs, rfl⟩
  | x :: xs, cs, r, cf, h => by
    unfold compGo at h
    split at h
    · split at h
      · split at h
        · split at h
          · rename_i e
            cases h
            exact compGo_end xs _ _ _ e
          · cases h
        · cases h
      · exact compGo_end xs _ _ _ h
      · cases h
    · cases h
theorem drop_at {ds : List D} {i : Nat} (h : i < ds.length) : ds.drop i = ds[i] :: ds.drop (i + 1) := List.drop_eq_getElem_cons h
theorem upd_lst_rel {K : PySem.W.Frag} {δ : List C} {G H : Hp} {σ : L2.St} {p : Addr} {xs : List V} (r : Rel K δ G σ H) (hG : G p = none) (ho : ¬ OwA δ σ p) (ht : LamX.Tabs (lamT K) (upd H p (.lst xs))) : Rel K δ G σ (upd H p (.lst xs)) := by
  refine ⟨r.len, fun b o h => ?_, r.nt, r.dat, fun i t ds h => ?_, r.inj, ht⟩
  · have n : b ≠ p := fun e => by subst e; rw [hG] at h; cases h
    rw [upd_ne n]; exact r.same b o h
  · obtain ⟨q, ws, a1, a2, a3, a4, a5⟩ := r.own i t ds h
    have n : q ≠ p := fun e => ho ⟨t, i, ds, h, e ▸ a1⟩
    exact ⟨q, ws, a1, by rw [upd_ne n]; exact a2, a3, a4, a5⟩
theorem tabs_lst {H : Hp} {p : Addr} {xs ys : List V} (h : H p = some (.lst xs)) : ∀ T, LamX.Tabs T H → LamX.Tabs T (upd H p (.lst ys)) := fun T ht q hq => by
  obtain ⟨ps, h1, h2, h3⟩ := ht q hq
  have n : q.1 ≠ p := fun e => by rw [e, h] at h1; cases h1
  refine ⟨ps, by rw [upd_ne n]; exact h1, h2, fun pos cv hc => ?_⟩
  obtain ⟨c, e1, e2⟩ := h3 pos cv hc
  have n2 : c ≠ p := fun e => by rw [e, h] at e2; unfold LamX.CodeO at e2; cases e2
  exact ⟨c, e1, by rw [upd_ne n2]; exact e2⟩
theorem comp_core (K : PySem.W.Frag) {W2 : WX} (tk : TgOk K g is f) (hsub : ∀ i ∈ is, i ∈ own.map (·.2)) {σ : L2.St} {H : Hp} {Q : VK} (h : tG K ct W (PN K) (mComp (own.map (·.2)) is f mi mt me) σ H Q) :
    tLc (tG K ct W (PIt K) mi) g (tG K ct W0 PB mt) (tG K ct W0 (PD K) me) (own.map (·.2)) σ H Q := by
  refine tG.step h fun ds δ1 J G1 H1 r1 wk h1 => ?_
  intro Dd hD
  have wk : Walks K G1 J ds := wk
  revert h1 hsub
  generalize own.map (·.2) = vs
  intro hsub h1
  cases e0 : compGo vs is f mt me ds (wipeC δ1 vs) with
  | err n xs => rw [e0] at h1; exact h1.elim
  | bad => rw [e0] at h1; exact h1.elim
  | ok pr =>
    obtain ⟨res, cf⟩ := pr
    rw [e0] at h1
    obtain ⟨δf, hf⟩ := compGo_end ds δ1 res cf e0
    subst hf
    refine ⟨fun i m H => CompAt K vs is f mt me ds res δf δ1 G1 H1 σ Dd i m H, ⟨ds.length, ⟨δ1, G1, [], [], res, by omega, ?_, ?_, upd_same, .nil, Nat.le_refl _, Same.free r1.same hD, ?_, by rw [List.drop_zero]; exact e0, rfl⟩⟩, fun i m H ⟨δi, Gi, acc, accV, rest, eim, ri, xi, hDd, hacc, hal, hGD, hOD, ego, eres⟩ => ?_⟩
    · exact upd_lst_rel (r1.wipe vs) (Same.free r1.same hD) (fun ⟨t, z⟩ => fresh_not r1 hD ⟨t, wipe_ow z⟩) (tabs_keep (same_upd hD) _ r1.tabs)
    · exact ⟨fun b o h _ _ => by rw [upd_ne (ne_of_none h hD)]; exact h, fun b hb o q => hb o (by rw [upd_ne (ne_of_none q hD)]; exact q), Same.refl _, fun _ _ h => .inl h, fun b h => .inl (wipe_ow h), fun b h => wipe_ow h⟩
    · exact fun ⟨t, z⟩ => fresh_not r1 hD ⟨t, wipe_ow z⟩
    have ow_keep : ∀ {δ' : List C} {G' H' : Hp} {σ' : L2.St} {Hx : Hp} {δx : List C} {Gx : Hp} {σx : L2.St} {av : List V}, Ext δx Gx Hx σx δ' G' H' σ' → Same G' H' → Hx Dd = some (.lst av) → ¬ OwA δx σx Dd → Gx Dd = none → H' Dd = some (.lst av) ∧ ¬ OwA δ' σ' Dd ∧ G' Dd = none := fun {δ' G' H' σ' Hx δx Gx σx av} x sm h1 h2 h3 => by
      refine ⟨x.keep _ _ h1 nt_lst h2, fun z => ?_, ?_⟩
      · rcases x.owA z with z | z
        · exact h2 z
        · exact z.not h1
      · cases q : G' Dd with
        | none => rfl
        | some o =>
          rcases x.new _ _ q with z | z | z
          · rw [h3] at z; cases z
          · exact z.not h1 (sm _ _ q) (x.keep _ _ h1 nt_lst h2)
          · exact absurd ⟨false, z⟩ h2
    by_cases hi : i < ds.length
    · refine .inr ?_
      have hd : ds[i]? = some ds[i] := List.getElem?_eq_getElem hi
      obtain ⟨hgo, hy⟩ := wk.go i ds[i] Gi H hd xi.same ri.same ri.nt
      refine ⟨hgo, fun H' => CompAt K vs is f mt me ds res δf δ1 G1 H1 σ Dd (i + 1) (m - 1) H', fun H' hN => ⟨m - 1, by omega, hN⟩, fun x H' y => ?_⟩
      obtain ⟨G2, gr, rx⟩ := hy x H' y
      have x2 := gr.ext (δ := wipeC δi vs) (σ := wipe σ vs)
      have r2 := gr.rel ri
      obtain ⟨k1, k2, k3⟩ := ow_keep x2 r2.same hDd hOD hGD
      rw [drop_at hi] at ego
      unfold compGo at ego
      split at ego
      · rename_i es ef
        refine tk.run (wipeC δi vs) (wipe σ vs) G2 H' x ds[i] es _ r2 rx ef fun ws hws => ?_
        have r3 := r2.setA (is := is) hws
        have x3 : Ext (wipeC δi vs) G2 H' (wipe σ vs) (setC (wipeC δi vs) is es) G2 H' (setA (wipe σ vs) is ws) := Ext.sub fun t b z => setA_ow hws z
        obtain ⟨j1, j2, j3⟩ := ow_keep x3 r3.same k1 k2 k3
        have hw : wipe (setA (wipe σ vs) is ws) vs = wipe σ vs := by
          rw [wipe_setA hsub]
          exact wipe_wipe vs vs fun _ h => h
        refine ⟨hw, _, _, r3, ?_⟩
        split at ego
        · rename_i c1 et
          rw [et]
          intro b G4 H4 x4 r4 eb
          obtain rfl : b = true := eb
          rw [if_pos rfl]
          obtain ⟨l1, l2, l3⟩ := ow_keep x4 r4.same j1 j2 j3
          refine ⟨c1, G4, r4, ?_⟩
          split at ego
          · rename_i d c2 ee
            rw [ee]
            intro yv G5 H5 x5 r5 ry
            obtain ⟨n1, n2, n3⟩ := ow_keep x5 r5.same l1 l2 l3
            split at ego
            · rename_i rr c3 er
              cases ego
              have sz : accV.length < sizeLine := by
                have a1 := RpAll.length hacc
                have a2 := wk.size
                omega
              refine ⟨accV, n1, sz, ⟨c2, G5, acc ++ [d], accV ++ [yv], rr, by omega, ?_, ?_, upd_same, ?_, by rw [List.length_append]; show acc.length + 1 ≤ i + 1; omega, n3, ?_, er, by rw [eres, List.append_assoc] <;> rfl⟩⟩
              · have := r5.wipe vs
                rw [hw] at this
                exact upd_lst_rel this n3 (fun ⟨t, z⟩ => n2 ⟨t, wipe_ow (vs := vs) (by rw [hw]; exact z)⟩) (tabs_lst n1 _ this.tabs)
              · have xt := xi.trans (x2.trans (x3.trans (x4.trans x5)))
                refine ⟨fun b o h n nb => ?_, fun b hb => ?_, xt.same, xt.new, fun b z => xt.own b (wipe_ow (vs := vs) (by rw [hw]; exact z)), fun b z => xt.par b (wipe_ow (vs := vs) (by rw [hw]; exact z))⟩
                · rw [upd_ne (ne_of_none h hD)]
                  exact xt.keep b o h n nb
                · by_cases q : b = Dd
                  · subst q; exact hb.not upd_same
                  · exact xt.back b fun o e => hb o (by rw [upd_ne q]; exact e)
              · exact RpAll.append (RpAll.mono (x2.same.trans (x3.same.trans (x4.same.trans x5.same))) hacc) (.cons ry .nil)
              · exact fun ⟨t, z⟩ => n2 ⟨t, wipe_ow (vs := vs) (by rw [hw]; exact z)⟩
            · cases ego
          · cases ego
        · rename_i c1 et
          rw [et]
          intro b G4 H4 x4 r4 eb
          obtain rfl : b = false := eb
          rw [if_neg Bool.false_ne_true]
          obtain ⟨l1, l2, l3⟩ := ow_keep x4 r4.same j1 j2 j3
          have r5 := r4.wipe vs
          rw [hw] at r5
          refine ⟨c1, G4, acc, accV, rest, by omega, r5, xi.trans (x2.trans (x3.trans (x4.trans (Ext.sub fun t b z => wipe_ow (vs := vs) (by rw [hw]; exact z))))), l1, RpAll.mono (x2.same.trans (x3.same.trans x4.same)) hacc, by omega, l3, fun ⟨t, z⟩ => l2 ⟨t, wipe_ow (vs := vs) (by rw [hw]; exact z)⟩, ego, eres⟩
        · cases ego
      · cases ego
    · refine .inl ⟨wk.stop i Gi H (by omega) xi.same ri.same, ?_⟩
      have e1 : ds.drop i = [] := List.drop_eq_nil_of_le (by omega)
      rw [e1] at ego
      unfold compGo at ego
      have e2 : rest = [] ∧ wipeC δi vs = wipeC δf vs := by
        have := R.ok.inj ego
        exact ⟨(congrArg Prod.fst this).symm, congrArg Prod.snd this⟩
      obtain ⟨e2, e3⟩ := e2
      subst e2
      rw [List.append_nil] at eres
      subst eres
      rw [e3] at ri xi hOD
      refine h1 (.ref Dd) Gi H ?_ ri.unwipe ⟨Dd, accV, rfl, fre_none hD, hDd, hGD, fun ⟨t, z⟩ => hOD ⟨t, unwipe_ow z⟩, by have := wk.size; omega, hacc⟩
      exact ⟨xi.keep, xi.back, xi.same, xi.new, fun b z => xi.own b (unwipe_ow z), fun b z => xi.par b (unwipe_ow z)⟩
end
end TW
set_option Elab.async false
set_option linter.all false
set_option maxRecDepth 100000
namespace TW
open PySem PySem.Spec PyProof.Rows L2
theorem PTs.conv {X : Cx} {es : List Expr} {t t' : TT} (h : PTs X es t) (i : ∀ σ H Q, t' σ H Q → t σ H Q) : PTs X es t' := ⟨fun pins s σ H Q I q => h.run pins s σ H Q I (i σ H Q q)⟩
abbrev VTs (ct : Nat → Addr) (W : WX) (X : Cx) (es : List Expr) (m : M Bool) : Prop := PTs X es (tG X.K ct W PB m)
section
variable {ct : Nat → Addr} {W : WX} {X : Cx} {tg iter elt : Expr} {ifs : List Expr} {scope : Scope} {own : List (Str × Nat)} {pos spos py : Pos} {mi : M (List D)} {mt : M Bool} {me : M D} {g : TG} {is : List Nat} {f : D → R (List D)}
theorem vts_nil : VTs ct W X [] mYes := PTs.conv pts_nil fun σ H Q ⟨δ, G, r, q⟩ => q true G H Ext.refl r rfl
theorem vts_one {c : Expr} (h : VT ct W X c mt) : VTs ct W X [c] mt := pts_one h
theorem vn_lc (hc : X.calm = true) (hN : X.N.Nodup) (tk : TgOk X.K g is f) (hi : VI ct W X tg iter mi) (ok : BlkOk X.N X.env.scope scope own) (hsub : ∀ i ∈ is, i ∈ own.map (·.2))
    (hg : ∀ (s : Shared) (H : Hp) (C : Addr) (cl : List (Str × Addr)) (fp : List Addr), PG (X.blk s H scope (compEnvC scope cl C X.env) fp) tg g)
    (ht : ∀ (s : Shared) (H : Hp) (C : Addr) (cl : List (Str × Addr)) (fp : List Addr), VTs ct W0 (X.blk s H scope (compEnvC scope cl C X.env) fp) ifs mt)
    (he : ∀ (s : Shared) (H : Hp) (C : Addr) (cl : List (Str × Addr)) (fp : List Addr), VE ct W0 (X.blk s H scope (compEnvC scope cl C X.env) fp) elt me) (hs : ∀ x, foldedSetIterable iter X.env x = pure x := by intro _; rfl) :
    VN ct W X (.ListComp elt [⟨tg, iter, ifs, 0⟩] scope pos) (mComp (own.map (·.2)) is f mi mt me) :=
  PE.conv (pe_lc hc hN hi ok hg ht he hs) fun σ H Q h => comp_core X.K (W2 := W) tk hsub h
end
inductive Fl where
  | nx | rt (d : D) | rn (ds : List D) | bk | ct
abbrev MS := M Fl
def PostS (K : PySem.W.Frag) (ct : Nat → Addr) (W : WX) (r : R (Fl × List C)) (δ : List C) (G H : Hp) (σ : L2.St) (D : Ends) : Prop :=
  match r with
  | .ok (.nx, δ') => ∀ σ' G' H', Ext δ G H σ δ' G' H' σ' → Rel K δ' G' σ' H' → D.nx σ' H'
  | .ok (.bk, δ') => ∀ σ' G' H', Ext δ G H σ δ' G' H' σ' → Rel K δ' G' σ' H' → D.bk σ' H'
  | .ok (.ct, δ') => ∀ σ' G' H', Ext δ G H σ δ' G' H' σ' → Rel K δ' G' σ' H' → D.ct σ' H'
  | .ok (.rt d, δ') => ∀ v σ' G' H', Ext δ G H σ δ' G' H' σ' → Rel K δ' G' σ' H' → Rp K G' v d → D.rt v H'
  | .ok (.rn ds, δ') => ∀ p vs σ' G' H', Ext δ G H σ δ' G' H' σ' → Rel K δ' G' σ' H' → H' p = some (.lst vs) → G' p = none → ds.length ≤ sizeLine → RpAll K G' vs ds → (Ow false δ σ p ∨ Fre H p) → ¬ OwA δ' σ' p → D.rt (.ref p) H'
  | .err n xs => ∀ cls dx σ' H', EExt K δ σ H H' → ErrR ct n xs cls dx H' → W cls dx σ' H'
  | .bad => False
def tS (K : PySem.W.Frag) (ct : Nat → Addr) (W : WX) (m : MS) : TS := fun D σ H => ∃ δ G, Rel K δ G σ H ∧ PostS K ct W (m δ) δ G H σ D
abbrev VS (ct : Nat → Addr) (W : WX) (X : Cx) (st : Stmt) (m : MS) : Prop := PS X st (tS X.K ct W m)
abbrev VSs (ct : Nat → Addr) (W : WX) (X : Cx) (st : List Stmt) (m : MS) : Prop := PSs X st (tS X.K ct W m)
section
variable {K : PySem.W.Frag} {ct : Nat → Addr} {W : WX} {δ : List C} {G H : Hp} {σ : L2.St} {De : Ends}
theorem PostS.at {r : R (Fl × List C)} {δ1 : List C} {G1 H1 : Hp} {σ1 : L2.St} (x : Ext δ G H σ δ1 G1 H1 σ1) (h : PostS K ct W r δ G H σ De) : PostS K ct W r δ1 G1 H1 σ1 De := by
  cases r with
  | ok p =>
    obtain ⟨f, δ'⟩ := p
    cases f with
    | nx => exact fun σ' G' H' x' r' => h σ' G' H' (x.trans x') r'
    | bk => exact fun σ' G' H' x' r' => h σ' G' H' (x.trans x') r'
    | ct => exact fun σ' G' H' x' r' => h σ' G' H' (x.trans x') r'
    | rt d => exact fun v σ' G' H' x' r' rp => h v σ' G' H' (x.trans x') r' rp
    | rn ds => exact fun p vs σ' G' H' x' r' a b c d e nw => h p vs σ' G' H' (x.trans x') r' a b c d (by
        rcases e with e | e
        · exact x.own p e
        · exact .inr (x.none_back e)) nw
  | err n xs => exact fun cls dx σ' H' x' e => h cls dx σ' H' (.after x x') e
  | bad => exact h
theorem stepS {α β : Type} {P : Hp → Hp → Hp → List C → L2.St → β → α → Prop} {m : M α} {k : α → MS} {Q1 : β → Hp → Prop} (h : tS K ct W (M.bind m k) De σ H)
    (next : ∀ a δ1 v G1 H1, Rel K δ1 G1 σ H1 → (∃ δ0 G0, Ext δ0 G0 H σ δ1 G1 H1 σ ∧ P H G1 H1 δ1 σ v a) → PostS K ct W (k a δ1) δ1 G1 H1 σ De → Q1 v H1) : tG K ct W P m σ H Q1 := by
  obtain ⟨δ, G, rel, h⟩ := h
  refine ⟨δ, G, rel, ?_⟩
  unfold M.bind at h
  cases e : m δ with
  | ok p =>
    obtain ⟨a, δ1⟩ := p
    rw [e] at h
    exact fun v G1 H1 x r q => next a δ1 v G1 H1 r ⟨δ, G, x, q⟩ (PostS.at x h)
  | err n xs => rw [e] at h; exact h
  | bad => rw [e] at h; exact h
def mSeq (a b : MS) : MS := M.bind a fun f => match f with
  | .nx => b
  | f => M.pure f
theorem seq_core {a b : MS} (h : tS K ct W (mSeq a b) De σ H) : tS K ct W a { De with nx := tS K ct W b De } σ H := by
  obtain ⟨δ, G, rel, h⟩ := h
  refine ⟨δ, G, rel, ?_⟩
  unfold mSeq M.bind at h
  cases e : a δ with
  | ok p =>
    obtain ⟨f, δ1⟩ := p
    rw [e] at h
    cases f with
    | nx => exact fun σ' G' H' x r => ⟨δ1, G', r, PostS.at x h⟩
    | bk => exact h
    | ct => exact h
    | rt d => exact h
    | rn ds => exact h
  | err n xs => rw [e] at h; exact h
  | bad => rw [e] at h; exact h
end
def mNx : MS := M.pure .nx
section
variable {ct : Nat → Addr} {W : WX} {X : Cx} {st : Stmt} {rest : List Stmt} {a b : MS} {e : Expr} {m : M D} {mn : M (List D)} {pos py : Pos} {x : Str} {i : Nat}
theorem vss_nil : VSs ct W X [] mNx := PSs.conv pss_nil fun D σ H ⟨δ, G, r, q⟩ => q σ G H Ext.refl r
theorem vss_cons (h1 : VS ct W X st a) (h2 : VSs ct W X rest b) : VSs ct W X (st :: rest) (mSeq a b) := PSs.conv (pss_cons h1 h2) fun D σ H h => seq_core h
theorem vss_one (h1 : VS ct W X st a) : VSs ct W X [st] a := pss_one h1
def mPut (i : Nat) (d : D) : MS := fun cs => .ok (.nx, cs.set i (.dat d))
def mPutN (i : Nat) (ds : List D) : MS := fun cs => .ok (.nx, cs.set i (.own false ds))
def mSet (i : Nat) (m : M D) : MS := M.bind m fun d => mPut i d
def mSetN (i : Nat) (m : M (List D)) : MS := M.bind m fun ds => mPutN i ds
theorem put_ext {K : PySem.W.Frag} {δ : List C} {G H : Hp} {σ : L2.St} {v : V} {d : D} : Ext δ G H σ (δ.set i (.dat d)) G H (σ.set i (some v)) := Ext.sub fun t b z => set_ow (c := .dat d) (fun _ _ e => nomatch e) z
theorem set_core {K : PySem.W.Frag} {De : Ends} {σ : L2.St} {H : Hp} (h : tS K ct W (mSet i m) De σ H) : tAsg (tG K ct W (PD K) m) (gName i) De σ H :=
  stepS (P := PD K) h fun d δ1 v G1 H1 r1 ⟨_, _, _, p1⟩ h1 => h1 _ G1 H1 (put_ext (K := K)) (r1.set p1)
theorem ownset {K : PySem.W.Frag} {δ : List C} {G H : Hp} {σ : L2.St} {p : Addr} {vs : List V} {ds : List D} (r : Rel K δ G σ H) (h1 : H p = some (.lst vs)) (h2 : G p = none) (h3 : ¬ OwA δ σ p) (h4 : ds.length ≤ sizeLine) (h5 : RpAll K G vs ds) (hi : i < δ.length) :
    Rel K (δ.set i (.own false ds)) G (σ.set i (some (.ref p))) H := by
  have hi' : i < σ.length := by rw [← r.len]; exact hi
  have kp : ∀ {j : Nat} {t : Bool} {es : List D}, (δ.set i (.own false ds))[j]? = some (.own t es) → (j = i ∧ t = false ∧ es = ds) ∨ (j ≠ i ∧ δ[j]? = some (.own t es)) := fun {j t es} h => by
    by_cases q : j = i
    · subst q
      rw [List.getElem?_set_self hi] at h
      cases h
      exact .inl ⟨rfl, rfl, rfl⟩
    · rw [List.getElem?_set_ne (Ne.symm q)] at h
      exact .inr ⟨q, h⟩
  refine ⟨by rw [List.length_set, List.length_set]; exact r.len, r.same, r.nt, fun j e q => ?_, fun j t es q => ?_, fun j k q t u es fs a1 a2 a3 a4 => ?_, r.tabs⟩
  · have z : j ≠ i := fun z => by subst z; rw [List.getElem?_set_self hi] at q; cases q
    rw [List.getElem?_set_ne (Ne.symm z)] at q ⊢
    exact r.dat j e q
  · rcases kp q with ⟨z, z2, z3⟩ | ⟨z, q⟩
    · subst z z2 z3
      exact ⟨p, vs, by rw [List.getElem?_set_self hi'], h1, h2, h4, h5⟩
    · rw [List.getElem?_set_ne (Ne.symm z)]
      exact r.own j t es q
  · rcases kp a1 with ⟨z, _, _⟩ | ⟨z, q1⟩
    · rcases kp a2 with ⟨y, _, _⟩ | ⟨y, q2⟩
      · rw [z, y]
      · subst z
        rw [List.getElem?_set_self hi'] at a3
        rw [List.getElem?_set_ne (Ne.symm y)] at a4
        cases a3
        exact absurd ⟨u, k, fs, q2, a4⟩ h3
    · rcases kp a2 with ⟨y, _, _⟩ | ⟨y, q2⟩
      · subst y
        rw [List.getElem?_set_self hi'] at a4
        rw [List.getElem?_set_ne (Ne.symm z)] at a3
        cases a4
        exact absurd ⟨t, j, es, q1, a3⟩ h3
      · rw [List.getElem?_set_ne (Ne.symm z)] at a3
        rw [List.getElem?_set_ne (Ne.symm y)] at a4
        exact r.inj j k q t u es fs q1 q2 a3 a4
theorem ownset_ext {K : PySem.W.Frag} {δ0 δ : List C} {G0 H0 G H : Hp} {σ : L2.St} {p : Addr} {ds : List D} (x : Ext δ0 G0 H0 σ δ G H σ) (h : Fre H0 p) (hi : i < σ.length) : Ext δ0 G0 H0 σ (δ.set i (.own false ds)) G H (σ.set i (some (.ref p))) := by
  refine ⟨x.keep, x.back, x.same, x.new, fun b ⟨j, es, h1, h2⟩ => ?_, fun b ⟨j, es, h1, h2⟩ => ?_⟩
  · by_cases q : j = i
    · subst q
      rw [List.getElem?_set_self hi] at h2
      cases h2
      exact .inr h
    · rw [List.getElem?_set_ne (Ne.symm q)] at h1 h2
      exact x.own b ⟨j, es, h1, h2⟩
  · by_cases q : j = i
    · subst q
      by_cases hj : j < δ.length
      · rw [List.getElem?_set_self hj] at h1
        cases h1
      · rw [List.getElem?_eq_none (by simpa using hj)] at h1
        cases h1
    · rw [List.getElem?_set_ne (Ne.symm q)] at h1 h2
      exact x.par b ⟨j, es, h1, h2⟩
theorem setN_core {K : PySem.W.Frag} {De : Ends} {σ : L2.St} {H : Hp} (hσ : i < σ.length) (h : tS K ct W (mSetN i mn) De σ H) : tAsg (tG K ct W (PN K) mn) (gName i) De σ H := by
  obtain ⟨δ, G, rel, h⟩ := h
  refine ⟨δ, G, rel, ?_⟩
  unfold mSetN M.bind at h
  cases e : mn δ with
  | ok p =>
    obtain ⟨ds, δ1⟩ := p
    rw [e] at h
    intro v G1 H1 x r ⟨p, vs, e1, e2, e3, e4, e5, e6, e7⟩
    subst e1
    exact h _ G1 H1 (ownset_ext (K := K) x e2 hσ) (ownset r e3 e4 e5 e6 e7 (by rw [r.len]; exact hσ))
  | err n xs => rw [e] at h; exact h
  | bad => rw [e] at h; exact h
theorem vs_set (hN : X.N.Nodup) (hi : X.N[i]? = some x) (hx : Loc X.env.scope x) (he : VE ct W X e m) (hs : swapsWith e (some (.Name x py)) pos.line X.env = pure false := by rfl) (hf : X.fn x = true ∨ X.env.scope.names.lookup x = some .local := by first | exact .inl rfl | exact .inr rfl | assumption) :
    VS ct W X (.Assign [.Name x py] e pos) (mSet i m) := PS.conv (ps_set hN hi hx he hs hf) fun D σ H h => set_core h
theorem PS.convI {X : Cx} {e : Stmt} {t t' : TS} (h : PS X e t) (i : ∀ D σ H, σ.length = X.N.length → t' D σ H → t D σ H) : PS X e t' := ⟨fun pins s σ H D I q => h.run pins s σ H D I (i D σ H I.len q)⟩
theorem vs_setN (hN : X.N.Nodup) (hi : X.N[i]? = some x) (hx : Loc X.env.scope x) (he : VN ct W X e mn) (hs : swapsWith e (some (.Name x py)) pos.line X.env = pure false := by rfl) (hf : X.fn x = true ∨ X.env.scope.names.lookup x = some .local := by first | exact .inl rfl | exact .inr rfl | assumption) :
    VS ct W X (.Assign [.Name x py] e pos) (mSetN i mn) := PS.convI (ps_set hN hi hx he hs hf) fun D σ H hl h => setN_core (by rw [hl]; exact (List.getElem?_eq_some_iff.mp hi).1) h
variable {tg iter elt : Expr} {ifs : List Expr} {scope : Scope} {own : List (Str × Nat)} {mi : M (List D)} {mt : M Bool} {me : M D} {g : TG} {is : List Nat} {f : D → R (List D)} {cpos : Pos}
theorem PS_lc (hc : X.calm = true) (hN : X.N.Nodup) (hy : X.N[i]? = some x) (hyl : X.env.scope.names.lookup x = some .local) (hsw : swapsWith (.ListComp elt [⟨tg, iter, ifs, 0⟩] scope cpos) (some (.Name x py)) pos.line X.env = pure true)
    (tk : TgOk X.K g is f) (hi : VI ct W X tg iter mi) (ok : BlkOk X.N X.env.scope scope own) (hsub : ∀ i ∈ is, i ∈ own.map (·.2))
    (hg : ∀ (s : Shared) (H : Hp) (C : Addr) (cl : List (Str × Addr)) (fp : List Addr), PG (X.blk s H scope (compEnvC scope cl C X.env) fp) tg g)
    (ht : ∀ (s : Shared) (H : Hp) (C : Addr) (cl : List (Str × Addr)) (fp : List Addr), VTs ct W0 (X.blk s H scope (compEnvC scope cl C X.env) fp) ifs mt)
    (he : ∀ (s : Shared) (H : Hp) (C : Addr) (cl : List (Str × Addr)) (fp : List Addr), VE ct W0 (X.blk s H scope (compEnvC scope cl C X.env) fp) elt me) (hs : ∀ x, foldedSetIterable iter X.env x = pure x := by intro _; rfl) :
    PS X (.Assign [.Name x py] (.ListComp elt [⟨tg, iter, ifs, 0⟩] scope cpos) pos) (tAsg (tG X.K ct W (PN X.K) (mComp (own.map (·.2)) is f mi mt me)) (gName i)) :=
  PS.conv (ps_setLc hc hN hy hyl hsw hi ok hg ht he hs) fun D σ H h => comp_core X.K (W2 := W) tk hsub h
theorem ofN_core {K : PySem.W.Frag} {σ : L2.St} {H : Hp} {Q : VK} (h : tG K ct W (PD K) (mOfN mn) σ H Q) : tG K ct W (PN K) mn σ H Q := by
  obtain ⟨δ, G, r, q⟩ := h
  refine ⟨δ, G, r, ?_⟩
  unfold mOfN M.bind at q
  cases e1 : mn δ with
  | ok p =>
    obtain ⟨d, δ'⟩ := p
    rw [e1] at q
    intro v G' H' x r' ⟨p, vs, h0, h1, h2, h3, h4, h5, h6⟩
    subst h0
    obtain ⟨x', r2, rp⟩ := fresh_rel x r' h1 h2 h3 h4 h5 h6
    exact q _ _ _ x' r2 rp
  | err n xs => rw [e1] at q; exact q
  | bad => rw [e1] at q; exact q.elim
theorem vs_setLc (hN : X.N.Nodup) (hi : X.N[i]? = some x) (h : PS X (.Assign [.Name x py] e pos) (tAsg (tG X.K ct W (PN X.K) mn) (gName i))) : VS ct W X (.Assign [.Name x py] e pos) (mSet i (mOfN mn)) :=
  PS.conv h fun D σ H h => ofN_core (set_core h)
def mIfS (t : M Bool) (a b : MS) : MS := M.bind t fun k => if k then a else b
theorem vs_if {c : Expr} {sa sb : List Stmt} (hc : VT ct W X c mt) (ha : VSs ct W X sa a) (hb : VSs ct W X sb b) : VS ct W X (.If c sa sb pos) (mIfS mt a b) := PS.conv (ps_if hc ha hb) fun D σ H h => stepS (P := PB) h fun k δ1 v G1 H1 r1 ⟨_, _, _, p1⟩ h1 => by
  obtain rfl : v = k := p1
  cases v with
  | true => rw [if_pos rfl]; exact ⟨δ1, G1, r1, h1⟩
  | false => rw [if_neg Bool.false_ne_true]; exact ⟨δ1, G1, r1, h1⟩
def mRet (m : M D) : MS := M.bind m fun d => M.pure (.rt d)
def mRetN (m : M (List D)) : MS := M.bind m fun d => M.pure (.rn d)
def mRetO (i : Nat) : MS := fun cs => match cs[i]? with
  | some (.own false ds) => .ok (.rn ds, cs.set i .un)
  | _ => .bad
theorem vs_ret (he : VE ct W X e m) : VS ct W X (.Return (some e) pos) (mRet m) := PS.conv (ps_ret he) fun D σ H h => stepS (P := PD X.K) h fun d δ1 v G1 H1 r1 ⟨_, _, _, p1⟩ h1 => h1 v σ G1 H1 Ext.refl r1 p1
theorem vs_retN (he : VN ct W X e mn) : VS ct W X (.Return (some e) pos) (mRetN mn) := PS.conv (ps_ret he) fun D σ H ⟨δ, G, rel, h⟩ => ⟨δ, G, rel, by
  unfold mRetN M.bind at h
  cases e : mn δ with
  | ok p =>
    obtain ⟨ds, δ1⟩ := p
    rw [e] at h
    intro v G1 H1 x r ⟨p, vs, e1, e2, e3, e4, e5, e6, e7⟩
    subst e1
    exact h p vs σ G1 H1 x r e3 e4 e6 e7 (.inr e2) e5
  | err n xs => rw [e] at h; exact h
  | bad => rw [e] at h; exact h⟩
theorem vs_retO (h : PE X (.Name x py) (tVar i)) : VS ct W X (.Return (some (.Name x py)) pos) (mRetO i) := PS.conv (ps_ret h) fun D σ H ⟨δ, G, r, h⟩ => by
  unfold mRetO at h
  cases e1 : δ[i]? with
  | none => rw [e1] at h; exact h.elim
  | some c =>
    rw [e1] at h
    cases c with
    | un => exact h.elim
    | dat d => exact h.elim
    | own t ds =>
      cases t with
      | true => exact h.elim
      | false =>
        obtain ⟨p, vs, h1, h2, h3, h4, h5⟩ := r.own i false ds e1
        have kp : ∀ {j : Nat} {t : Bool} {es : List TW.D}, (δ.set i .un)[j]? = some (.own t es) → j ≠ i ∧ δ[j]? = some (.own t es) := fun h => set_keep (c := .un) (fun _ _ e => nomatch e) h
        have ru : Rel X.K (δ.set i .un) G σ H := by
          have := r.unset (i := i) (x := some (.ref p))
          rwa [show σ.set i (some (.ref p)) = σ from by
            obtain ⟨hi, e⟩ := List.getElem?_eq_some_iff.mp h1
            rw [← e]; exact List.set_getElem_self hi] at this
        have ow : ∀ t b, Ow t (δ.set i .un) σ b → Ow t δ σ b := fun t b ⟨j, es, a1, a2⟩ => ⟨j, es, (kp a1).2, a2⟩
        refine ⟨.ref p, h1, h p vs σ G H (Ext.sub ow) ru h2 h3 h4 h5 (.inl ⟨i, ds, e1, h1⟩) fun ⟨t, j, es, a1, a2⟩ => ?_⟩
        obtain ⟨q1, q2⟩ := kp a1
        exact q1 (r.inj j i p t false es ds q2 e1 a2 h1)
def mDrop (m : M D) : MS := M.bind m fun _ => mNx
theorem own_upd {K : PySem.W.Frag} {δ : List C} {G H : Hp} {σ : L2.St} {p : Addr} {vs ws : List V} {ds es : List D} {t : Bool} (r : Rel K δ G σ H) (h1 : δ[i]? = some (.own t ds)) (h2 : σ[i]? = some (some (.ref p))) (h3 : H p = some (.lst vs)) (h4 : G p = none) (h5 : es.length ≤ sizeLine) (h6 : RpAll K G ws es) :
    Ext δ G H σ (δ.set i (.own t es)) G (upd H p (.lst ws)) σ ∧ Rel K (δ.set i (.own t es)) G σ (upd H p (.lst ws)) := by
  have hi : i < δ.length := (List.getElem?_eq_some_iff.mp h1).1
  have kp : ∀ {j : Nat} {u : Bool} {fs : List D}, (δ.set i (.own t es))[j]? = some (.own u fs) → (j = i ∧ u = t ∧ fs = es) ∨ (j ≠ i ∧ δ[j]? = some (.own u fs)) := fun {j u fs} h => by
    by_cases q : j = i
    · subst q
      rw [List.getElem?_set_self hi] at h
      cases h
      exact .inl ⟨rfl, rfl, rfl⟩
    · rw [List.getElem?_set_ne (Ne.symm q)] at h
      exact .inr ⟨q, h⟩
  have ow : ∀ u b, Ow u (δ.set i (.own t es)) σ b → Ow u δ σ b := fun u b ⟨j, fs, a1, a2⟩ => by
    rcases kp a1 with ⟨z, z2, z3⟩ | ⟨z, q⟩
    · subst z z2 z3
      exact ⟨j, ds, h1, a2⟩
    · exact ⟨j, fs, q, a2⟩
  have np : ∀ b o, G b = some o → b ≠ p := fun b o h e => by subst e; rw [h4] at h; cases h
  refine ⟨⟨fun b o h _ nb => ?_, fun b h => ?_, Same.refl _, fun _ _ h => .inl h, fun b z => .inl (ow _ b z), fun b z => ow _ b z⟩, ⟨by rw [List.length_set]; exact r.len, fun b o h => ?_, r.nt, fun j e q => ?_, fun j u fs q => ?_, fun j k q u v fs gs a1 a2 a3 a4 => ?_, tabs_lst h3 _ r.tabs⟩⟩
  · have : b ≠ p := fun e => nb ⟨t, i, ds, h1, e ▸ h2⟩
    rw [upd_ne this]; exact h
  · by_cases q : b = p
    · subst q; exact h.not upd_same
    · exact fun o e => h o (by rw [upd_ne q]; exact e)
  · rw [upd_ne (np b o h)]; exact r.same b o h
  · have z : j ≠ i := fun z => by subst z; rw [List.getElem?_set_self hi] at q; cases q
    rw [List.getElem?_set_ne (Ne.symm z)] at q
    exact r.dat j e q
  · rcases kp q with ⟨z, z2, z3⟩ | ⟨z, q⟩
    · subst z z2 z3
      exact ⟨p, ws, h2, upd_same, h4, h5, h6⟩
    · obtain ⟨p', xs, b1, b2, b3, b4, b5⟩ := r.own j u fs q
      have n : p' ≠ p := fun e => z (r.inj j i p u t fs ds q h1 (e ▸ b1) h2)
      exact ⟨p', xs, b1, by rw [upd_ne n]; exact b2, b3, b4, b5⟩
  · have f1 : ∃ es', δ[j]? = some (.own u es') := by
      rcases kp a1 with ⟨z, z2, _⟩ | ⟨_, q⟩
      · subst z z2; exact ⟨_, h1⟩
      · exact ⟨_, q⟩
    have f2 : ∃ es', δ[k]? = some (.own v es') := by
      rcases kp a2 with ⟨z, z2, _⟩ | ⟨_, q⟩
      · subst z z2; exact ⟨_, h1⟩
      · exact ⟨_, q⟩
    obtain ⟨e1, f1⟩ := f1
    obtain ⟨e2, f2⟩ := f2
    exact r.inj j k q u v e1 e2 f1 f2 a3 a4
end
end TW
set_option Elab.async false
set_option linter.all false
set_option maxRecDepth 100000
namespace TW
open PySem PySem.Spec PyProof.Rows L2
def isOwn (cs : List C) (i : Nat) : Bool := match cs[i]? with
  | some (.own _ _) => true
  | _ => false
def ownPut (i : Nat) (g : List D → R (List D)) : M Unit := fun cs => match cs[i]? with
  | some (.own t ds) => match g ds with
    | .ok es => if szOk es.length then .ok ((), cs.set i (.own t es)) else .bad
    | _ => .bad
  | _ => .bad
def gApp (d : D) (ds : List D) : R (List D) := .ok (ds ++ [d])
def gExt : D → List D → R (List D)
  | .list es, ds => .ok (ds ++ es)
  | _, _ => .bad
def mOn (i : Nat) (m : M D) (g : D → List D → R (List D)) : MS := fun cs => if isOwn cs i then (M.bind m fun d => M.bind (ownPut i (g d)) fun _ => mNx) cs else .bad
section
variable {K : PySem.W.Frag} {ct : Nat → Addr} {W : WX} {X : Cx} {δ : List C} {G H : Hp} {σ : L2.St} {i : Nat} {o e k : Expr} {m mk : M D} {x : Str} {pos py cpos apos : Pos} {De : Ends}
theorem isOwn_at {cs : List C} (h : isOwn cs i = true) : ∃ t ds, cs[i]? = some (.own t ds) := by
  unfold isOwn at h
  split at h
  · exact ⟨_, _, by assumption⟩
  · cases h
theorem ownPut_at {cs cs' : List C} {g : List D → R (List D)} {u : Unit} (h : ownPut i g cs = .ok (u, cs')) : ∃ t ds es, cs[i]? = some (.own t ds) ∧ g ds = .ok es ∧ szOk es.length = true ∧ cs' = cs.set i (.own t es) := by
  unfold ownPut at h
  split at h
  · split at h
    · split at h
      · cases h
        exact ⟨_, _, _, by assumption, by assumption, by assumption, rfl⟩
      · cases h
    · cases h
  · cases h
theorem ownPut_err {cs : List C} {g : List D → R (List D)} {n : Nat} {xs : List D} : ownPut i g cs ≠ .err n xs := fun h => by
  unfold ownPut at h
  split at h
  · split at h
    · split at h <;> cases h
    · cases h
  · cases h
theorem on_core {g : D → List D → R (List D)} {r : V → List V → Hp → VK → Prop} (h : tS K ct W (mOn i m g) De σ H)
    (hr : ∀ (G1 H1 : Hp) (p : Addr) (vs : List V) (ds es : List D) (v : V) (d : D) (Q : VK), Same G1 H1 → H1 p = some (.lst vs) → G1 p = none → RpAll K G1 vs ds → ds.length ≤ sizeLine → Rp K G1 v d → g d ds = .ok es → es.length ≤ sizeLine → (∀ ws, RpAll K G1 ws es → Q .non (upd H1 p (.lst ws))) → r (.ref p) [v] H1 Q) :
    tDrop (tBM K "list" r (tVar i) (tCons (tG K ct W (PD K) m) tNil)) De σ H := by
  obtain ⟨δ, G, rel, h⟩ := h
  unfold mOn at h
  cases ho : isOwn δ i with
  | false => rw [ho] at h; exact h.elim
  | true =>
    rw [ho, if_pos rfl] at h
    obtain ⟨t0, ds0, e0⟩ := isOwn_at ho
    obtain ⟨p, vs0, a1, a2, a3, a4, a5⟩ := rel.own i t0 ds0 e0
    refine ⟨.ref p, a1, .inl ⟨rfl, vs0, SqL.of a2⟩, ?_⟩
    refine stepS (P := PD K) (m := m) (k := fun d => M.bind (ownPut i (g d)) fun _ => mNx) ⟨δ, G, rel, h⟩ fun d δ1 v G1 H1 r1 ⟨_, _, _, p1⟩ h1 => ?_
    unfold M.bind at h1
    cases eo : ownPut i (g d) δ1 with
    | bad => rw [eo] at h1; exact h1.elim
    | err n xs => exact absurd eo ownPut_err
    | ok pr =>
      obtain ⟨u, δ2⟩ := pr
      rw [eo] at h1
      obtain ⟨t1, ds1, es, e1, e2, e3, e4⟩ := ownPut_at eo
      subst e4
      obtain ⟨p1', vs, b1, b2, b3, b4, b5⟩ := r1.own i t1 ds1 e1
      rw [a1] at b1
      cases b1
      exact hr G1 H1 p vs ds1 es v d _ r1.same b2 b3 b5 b4 p1 e2 (szOk_le e3) fun ws hw => by
        obtain ⟨x', r'⟩ := own_upd r1 e1 a1 b2 b3 (szOk_le e3) hw
        exact h1 σ G1 _ x' r'
theorem vs_append (ho : PE X o (tVar i)) (he : VE ct W X e m) (hs : starEach [e] X.env = (false, eval e X.env) :: starEach [] X.env := by rfl)
    (hbase : attributeBase o "append" X.env (eval o X.env) = eval o X.env := by rfl)
    (hfew : ((backTo cpos (starEach [e] X.env)).all (fun x => !x.1) && (backToKw cpos (keywordEach [] X.env)).all (fun x => x.1.isSome) && decide (([e] : List Expr).length + ([] : List Keyword).length + (if ([] : List Keyword).isEmpty then 0 else 1) < 30)) = true := by rfl)
    (hline : (apos.endLine == cpos.line) = true := by rfl) (hsw : swapsWith (.Call (.Attribute o "append" apos) [e] [] cpos) none pos.line X.env = pure false := by rfl) :
    VS ct W X (.Expr (.Call (.Attribute o "append" apos) [e] [] cpos) pos) (mOn i m gApp) :=
  PS.conv (ps_expr (pe_bm PySem.F.plainAttrs_list PySem.F.slot_list_append PySem.F.type_list_append mt_append ho (pa_cons he pa_nil hs) hbase hfew hline hs) hsw) fun D σ H h => on_core h
    fun G1 H1 p vs ds es v d Q s hp hG ha hl rv eg hz q => by
      cases eg
      rw [List.length_append] at hz
      exact ⟨p, vs, v, rfl, rfl, hp, by rw [RpAll.length ha]; exact hz, q _ (ha.append (.cons rv .nil))⟩
theorem vs_extend (ho : PE X o (tVar i)) (he : VE ct W X e m) (hs : starEach [e] X.env = (false, eval e X.env) :: starEach [] X.env := by rfl)
    (hbase : attributeBase o "extend" X.env (eval o X.env) = eval o X.env := by rfl)
    (hfew : ((backTo cpos (starEach [e] X.env)).all (fun x => !x.1) && (backToKw cpos (keywordEach [] X.env)).all (fun x => x.1.isSome) && decide (([e] : List Expr).length + ([] : List Keyword).length + (if ([] : List Keyword).isEmpty then 0 else 1) < 30)) = true := by rfl)
    (hline : (apos.endLine == cpos.line) = true := by rfl) (hsw : swapsWith (.Call (.Attribute o "extend" apos) [e] [] cpos) none pos.line X.env = pure false := by rfl) :
    VS ct W X (.Expr (.Call (.Attribute o "extend" apos) [e] [] cpos) pos) (mOn i m gExt) :=
  PS.conv (ps_expr (pe_bm PySem.F.plainAttrs_list PySem.F.slot_list_extend PySem.F.type_list_extend mt_extend ho (pa_cons he pa_nil hs) hbase hfew hline hs) hsw) fun D σ H h => on_core h
    fun G1 H1 p vs ds es v d Q s hp hG ha hl rv eg hz q => by
      unfold gExt at eg
      split at eg
      · cases eg
        rename_i es' 
        obtain ⟨b, xs, e1, k1, k2, k3⟩ := Rp.ofLst rv
        subst e1
        rw [List.length_append] at hz
        have l1 := RpAll.length ha
        have l2 := RpAll.length k3
        exact ⟨p, b, vs, xs, rfl, rfl, hp, s _ _ k1, by omega, q _ (ha.append k3)⟩
      · cases eg
def gPut (k d : D) (ds : List D) : R (List D) := match k with
  | .int j => match ixN ds.length j with
    | some n => .ok (ds.set n d)
    | none => .bad
  | _ => .bad
def popAt (i : Nat) (d : D) : M D := fun cs => match d, cs[i]? with
  | .int k, some (.own t ds) => if decide (-4611686018427387904 ≤ k ∧ k < 4611686018427387904) then (match seqIndex? k ds.length with
    | some j => match ds[j]? with
      | some z => .ok (z, cs.set i (.own t (ds.eraseIdx j)))
      | none => .bad
    | none => .bad) else .bad
  | _, _ => .bad
def mPop (i : Nat) (m : M D) : M D := fun cs => if isOwn cs i then (M.bind m fun d => popAt i d) cs else .bad
theorem popAt_at {d z : D} {cs cs' : List C} (h : popAt i d cs = .ok (z, cs')) : ∃ k t ds j, d = .int k ∧ cs[i]? = some (.own t ds) ∧ (-4611686018427387904 ≤ k ∧ k < 4611686018427387904) ∧ seqIndex? k ds.length = some j ∧ ds[j]? = some z ∧ cs' = cs.set i (.own t (ds.eraseIdx j)) := by
  unfold popAt at h
  split at h
  · split at h
    · split at h
      · split at h
        · cases h
          exact ⟨_, _, _, _, rfl, by assumption, of_decide_eq_true (by assumption), by assumption, by assumption, rfl⟩
        · cases h
      · cases h
    · cases h
  · cases h
theorem popAt_err {d : D} {cs : List C} {n : Nat} {xs : List D} : popAt i d cs ≠ .err n xs := fun h => by
  unfold popAt at h
  split at h
  · split at h
    · split at h
      · split at h <;> cases h
      · cases h
    · cases h
  · cases h
theorem gPut_at {k d : D} {ds es : List D} (h : gPut k d ds = .ok es) : ∃ j n, k = .int j ∧ ixN ds.length j = some n ∧ es = ds.set n d := by
  unfold gPut at h
  split at h
  · split at h
    · cases h
      exact ⟨_, _, rfl, by assumption, rfl⟩
    · cases h
  · cases h
theorem ve_pop (ho : PE X o (tVar i)) (he : VE ct W X e m) (hs : starEach [e] X.env = (false, eval e X.env) :: starEach [] X.env := by rfl)
    (hbase : attributeBase o "pop" X.env (eval o X.env) = eval o X.env := by rfl)
    (hfew : ((backTo cpos (starEach [e] X.env)).all (fun x => !x.1) && (backToKw cpos (keywordEach [] X.env)).all (fun x => x.1.isSome) && decide (([e] : List Expr).length + ([] : List Keyword).length + (if ([] : List Keyword).isEmpty then 0 else 1) < 30)) = true := by rfl)
    (hline : (apos.endLine == cpos.line) = true := by rfl) : VE ct W X (.Call (.Attribute o "pop" apos) [e] [] cpos) (mPop i m) :=
  PE.conv (pe_bm PySem.F.plainAttrs_list PySem.F.slot_list_pop PySem.F.type_list_pop mt_popAt ho (pa_cons he pa_nil hs) hbase hfew hline hs) fun σ H Q ⟨δ, G, rel, h⟩ => by
    unfold mPop at h
    cases ho : isOwn δ i with
    | false => rw [ho] at h; exact h.elim
    | true =>
      rw [ho, if_pos rfl] at h
      obtain ⟨t0, ds0, e0⟩ := isOwn_at ho
      obtain ⟨p, vs0, a1, a2, a3, a4, a5⟩ := rel.own i t0 ds0 e0
      refine ⟨.ref p, a1, .inl ⟨rfl, vs0, SqL.of a2⟩, δ, G, rel, TW.step rel h fun d δ1 v G1 H1 _ x1 r1 p1 h1 => ?_⟩
      cases eo : popAt i d δ1 with
      | bad => rw [eo] at h1; exact h1.elim
      | err n xs => exact absurd eo popAt_err
      | ok pr =>
        obtain ⟨z, δ2⟩ := pr
        rw [eo] at h1
        obtain ⟨k, t, ds, j, ed, e1, hb, ej, ez, e4⟩ := popAt_at eo
        subst ed e4
        obtain ⟨p', vs, b1, b2, b3, b4, b5⟩ := r1.own i t ds e1
        rw [a1] at b1
        cases b1
        obtain ⟨y, hy, ry⟩ := RpAll.get b5 ez
        have ev := Rp.ofInt p1
        subst ev
        obtain ⟨x', r'⟩ := own_upd (es := ds.eraseIdx j) (ws := vs.eraseIdx j) r1 e1 a1 b2 b3 (Nat.le_trans (len_erase ds j) b4) (RpAll.eraseIdx j b5)
        exact ⟨p, vs, k, j, y, rfl, rfl, b2, by omega, by omega, by rw [RpAll.length b5]; exact ej, hy, h1 y G1 _ x' r' ry⟩
def mSetIx (i : Nat) (mk m : M D) : MS := M.bind m fun d => fun cs => if isOwn cs i then (M.bind mk fun k => M.bind (ownPut i (gPut k d)) fun _ => mNx) cs else .bad
theorem setix_core (h : tS K ct W (mSetIx i mk m) De σ H) : tAsg (tG K ct W (PD K) m) (gSub (tVar i) (tG K ct W (PD K) mk) rSetL) De σ H :=
  stepS (P := PD K) h fun d δ0 v G0 H0 r0 ⟨_, _, _, p0⟩ h0 => by
    cases ho : isOwn δ0 i with
    | false => simp only [ho] at h0; exact h0.elim
    | true =>
      simp only [ho, if_true] at h0
      obtain ⟨t0, ds0, e0⟩ := isOwn_at ho
      obtain ⟨p, vs0, a1, a2, a3, a4, a5⟩ := r0.own i t0 ds0 e0
      refine ⟨.ref p, a1, ?_⟩
      have h0' : tS K ct W (M.bind mk fun k => M.bind (ownPut i (gPut k d)) fun _ => mNx) De σ H0 := ⟨δ0, G0, r0, h0⟩
      obtain ⟨δ, G, rel, hh⟩ := h0'
      clear hh
      refine ⟨δ0, G0, r0, ?_⟩
      unfold M.bind at h0
      cases ek : mk δ0 with
      | bad => rw [ek] at h0; exact h0.elim
      | err n xs => rw [ek] at h0; exact h0
      | ok pk =>
        obtain ⟨kd, δ1⟩ := pk
        rw [ek] at h0
        intro kv G1 H1 x1 r1 p1
        have p1 : Rp K G1 kv kd := p1
        cases eo : ownPut i (gPut kd d) δ1 with
        | bad => simp only [eo] at h0; exact h0.elim
        | err n xs => exact absurd eo ownPut_err
        | ok pr =>
          obtain ⟨u, δ2⟩ := pr
          simp only [eo] at h0
          obtain ⟨t1, ds1, es, e1, e2, e3, e4⟩ := ownPut_at eo
          subst e4
          obtain ⟨p1', vs, b1, b2, b3, b4, b5⟩ := r1.own i t1 ds1 e1
          rw [a1] at b1
          cases b1
          obtain ⟨j, n, ej, en, ee⟩ := gPut_at e2
          subst ej ee
          have ev := Rp.ofInt p1
          subst ev
          obtain ⟨x', r'⟩ := own_upd r1 e1 a1 b2 b3 (szOk_le e3) (RpAll.set (Rp.mono x1.same p0) n b5)
          exact ⟨p, vs, j, n, rfl, rfl, b2, by rw [RpAll.length b5]; exact en, h0 σ G1 _ (x1.trans x') r'⟩
theorem vs_setix (ho : PE X o (tVar i)) (hk : VE ct W X k mk) (he : VE ct W X e m)
    (ha : ∀ v, assign (.Subscript o k py) X.env v = (do
      let ov ← holding [v] (eval o X.env)
      let iv ← holding [v, ov] (eval k X.env)
      standAt py
      holding [v, ov, iv] (setItem ov iv v)
      release [v, ov, iv] []) := by intro _; rfl)
    (hs : swapsWithSole [.Subscript o k py] e pos.line X.env = pure false := by rfl) (hw : swappedStores [.Subscript o k py] e X.env = pure none := by rfl) (h1 : (assignEach [.Subscript o k py] X.env).map (·.2) = [assign (.Subscript o k py) X.env] := by rfl) :
    VS ct W X (.Assign [.Subscript o k py] e pos) (mSetIx i mk m) := PS.conv (ps_asg he (pg_sub ho hk set_list ha) hs hw h1) fun D σ H h => setix_core h
def mUnp (is : List Nat) (f : D → R (List D)) (m : M D) : MS := M.bind m fun d => fun cs => match f d with
  | .ok ds => .ok (.nx, setC cs is ds)
  | _ => .bad
end
def forGo (is : List Nat) (f : D → R (List D)) (body : MS) : List D → MS
  | [], cs => .ok (.nx, cs)
  | x :: xs, cs => match f x with
    | .ok ds => match body (setC cs is ds) with
      | .ok (.nx, c1) => forGo is f body xs c1
      | .ok (.ct, c1) => forGo is f body xs c1
      | .ok (.bk, c1) => .ok (.nx, c1)
      | r => r
    | _ => .bad
def mFor (is : List Nat) (f : D → R (List D)) (mi : M (List D)) (body : MS) : MS := M.bind mi fun ds => forGo is f body ds
section
variable {K : PySem.W.Frag} {ct : Nat → Addr} {W : WX} {X : Cx} {δ : List C} {G H : Hp} {σ : L2.St} {De : Ends} {is : List Nat} {f : D → R (List D)} {body : MS} {mi : M (List D)} {g : TG} {tb : TS}
theorem for_core (tk : TgOk K g is f) (h : tS K ct W (mFor is f mi body) De σ H) : tFor (tG K ct W (PIt K) mi) g (tS K ct W body) De σ H :=
  stepS (P := PIt K) h fun ds δ1 J G1 H1 r1 ⟨_, _, _, wk⟩ h1 => by
    have wk : Walks K G1 J ds := wk
    refine ⟨fun i m σ' H' => i + m = ds.length ∧ ∃ δi Gi, Rel K δi Gi σ' H' ∧ Same G1 Gi ∧ PostS K ct W (forGo is f body (ds.drop i) δi) δi Gi H' σ' De, ⟨ds.length, by omega, δ1, G1, r1, Same.refl _, by rw [List.drop_zero]; exact h1⟩, fun i m σ2 H2 ⟨eim, δi, Gi, ri, si, hi⟩ => ?_⟩
    by_cases hlt : i < ds.length
    · obtain ⟨hgo, hy⟩ := wk.go i ds[i] Gi H2 (List.getElem?_eq_getElem hlt) si ri.same ri.nt
      refine .inr ⟨hgo, fun σ' H' => (i + 1) + (m - 1) = ds.length ∧ ∃ δi Gi, Rel K δi Gi σ' H' ∧ Same G1 Gi ∧ PostS K ct W (forGo is f body (ds.drop (i + 1)) δi) δi Gi H' σ' De, fun σ' H' hN => ⟨m - 1, by omega, hN⟩, fun x H3 y => ?_⟩
      obtain ⟨G3, gr, rx⟩ := hy x H3 y
      have x3 := gr.ext (δ := δi) (σ := σ2)
      have r3 := gr.rel ri
      have hi := PostS.at x3 hi
      rw [drop_at hlt] at hi
      unfold forGo at hi
      split at hi
      · rename_i es ef
        refine tk.run δi σ2 G3 H3 x ds[i] es _ r3 rx ef fun ws hws => ?_
        have r4 := r3.setA (is := is) hws
        have x4 : Ext δi G3 H3 σ2 (setC δi is es) G3 H3 (setA σ2 is ws) := Ext.sub fun t b z => setA_ow hws z
        have hi := PostS.at x4 hi
        refine ⟨_, _, r4, ?_⟩
        split at hi
        · rename_i c1 eb
          rw [eb]
          exact fun σ5 G5 H5 x5 r5 => ⟨by omega, c1, G5, r5, si.trans (gr.same.trans x5.same), PostS.at x5 hi⟩
        · rename_i c1 eb
          rw [eb]
          exact fun σ5 G5 H5 x5 r5 => ⟨by omega, c1, G5, r5, si.trans (gr.same.trans x5.same), PostS.at x5 hi⟩
        · rename_i c1 eb
          rw [eb]
          exact fun σ5 G5 H5 x5 r5 => hi σ5 G5 H5 x5 r5
        · rename_i n1 n2 n3
          cases eb : body (setC δi is es) with
          | bad => rw [eb] at hi; exact hi.elim
          | err n xs => rw [eb] at hi; exact hi
          | ok p =>
            obtain ⟨fl, c1⟩ := p
            rw [eb] at hi
            cases fl with
            | nx => exact absurd eb (n1 c1)
            | ct => exact absurd eb (n2 c1)
            | bk => exact absurd eb (n3 c1)
            | rt d => exact hi
            | rn d => exact hi
      · exact hi.elim
    · refine .inl ⟨wk.stop i Gi H2 (by omega) si ri.same, ?_⟩
      have e1 : ds.drop i = [] := List.drop_eq_nil_of_le (by omega)
      rw [e1] at hi
      exact hi σ2 Gi H2 Ext.refl ri
theorem vs_for {tg iter : Expr} {sb : List Stmt} {pos : Pos} (hp : PassesOwn (model X.prog X.w) X.A X.env X.xe) (hc : X.calm = true) (tk : TgOk X.K g is f) (hi : VI ct W X tg iter mi) (hg : PG X tg g) (hb : VSs ct W X sb body)
    (hs : ∀ x, foldedSetIterable iter X.env x = pure x := by intro _; rfl) : VS ct W X (.For tg iter sb [] pos) (mFor is f mi body) := PS.conv (ps_for hp hc hi hg hb hs) fun D σ H h => for_core tk h
def whileGo (t : M Bool) (body : MS) : Nat → MS
  | 0, _ => .bad
  | n + 1, cs => match t cs with
    | .ok (true, c0) => match body c0 with
      | .ok (.nx, c1) => whileGo t body n c1
      | .ok (.ct, c1) => whileGo t body n c1
      | .ok (.bk, c1) => .ok (.nx, c1)
      | r => r
    | .ok (false, c0) => .ok (.nx, c0)
    | .err n xs => .err n xs
    | .bad => .bad
variable {t : M Bool} {fuel : Nat}
theorem while_core (h : tS K ct W (whileGo t body fuel) De σ H) : tWhile (tG K ct W PB t) (tS K ct W body) De σ H := by
  refine ⟨fun m σ' H' => tS K ct W (whileGo t body m) De σ' H', ⟨fuel, h⟩, fun m σ2 H2 ⟨δi, Gi, ri, hi⟩ => ?_⟩
  cases m with
  | zero => exact hi.elim
  | succ m =>
    unfold whileGo at hi
    refine ⟨δi, Gi, ri, ?_⟩
    split at hi
    · rename_i c0 et
      rw [et]
      intro b G3 H3 x3 r3 eb
      obtain rfl : b = true := eb
      rw [if_pos rfl]
      have hi := PostS.at x3 hi
      refine ⟨fun σ' H' => tS K ct W (whileGo t body m) De σ' H', fun σ' H' hN => ⟨m, Nat.lt_succ_self m, hN⟩, c0, G3, r3, ?_⟩
      split at hi
      · rename_i c1 eb
        rw [eb]
        exact fun σ5 G5 H5 x5 r5 => ⟨c1, G5, r5, PostS.at x5 hi⟩
      · rename_i c1 eb
        rw [eb]
        exact fun σ5 G5 H5 x5 r5 => ⟨c1, G5, r5, PostS.at x5 hi⟩
      · rename_i c1 eb
        rw [eb]
        exact fun σ5 G5 H5 x5 r5 => hi σ5 G5 H5 x5 r5
      · rename_i n1 n2 n3
        cases eb : body c0 with
        | bad => rw [eb] at hi; exact hi.elim
        | err n xs => rw [eb] at hi; exact hi
        | ok p =>
          obtain ⟨fl, c1⟩ := p
          rw [eb] at hi
          cases fl with
          | nx => exact absurd eb (n1 c1)
          | ct => exact absurd eb (n2 c1)
          | bk => exact absurd eb (n3 c1)
          | rt d => exact hi
          | rn d => exact hi
    · rename_i c0 et
      rw [et]
      intro b G3 H3 x3 r3 eb
      obtain rfl : b = false := eb
      rw [if_neg Bool.false_ne_true]
      exact hi σ2 G3 H3 x3 r3
    · rename_i n xs et
      rw [et]
      exact hi
    · exact hi.elim
theorem vs_while {c : Expr} {sb : List Stmt} {pos : Pos} (n : Nat) (hp : PassesOwn (model X.prog X.w) X.A X.env X.xe) (hc : VT ct W X c t) (hb : VSs ct W X sb body) : VS ct W X (.While c sb [] pos) (whileGo t body n) := PS.conv (ps_while hp hc hb) fun D σ H h => while_core h
end
end TW
set_option Elab.async false
set_option linter.all false
set_option maxRecDepth 100000
namespace TW
open PySem PySem.Spec PyProof.Rows L2
def unfill (n : Nat) (cs : List C) : List C := cs ++ List.replicate (n - cs.length) .un
def fnD (n : Nat) (body : MS) : List D → R D := fun ds => match body (unfill n (ds.map .dat)) with
  | .ok (.rt d, _) => .ok d
  | .ok (.rn es, _) => .ok (.list es)
  | .ok (.nx, _) => .ok .none
  | .err c xs => .err c xs
  | _ => .bad
def fnN (n : Nat) (body : MS) : List D → R (List D) := fun ds => match body (unfill n (ds.map .dat)) with
  | .ok (.rn es, _) => .ok es
  | .err c xs => .err c xs
  | _ => .bad
def fnS (n : Nat) (body : MS) : List D → List D → R (D × List D) := fun ss ds => match body (unfill n (.own true ss :: ds.map .dat)) with
  | .ok (.rt d, cs) => match (List.head? cs : Option C) with
    | some (C.own true ss') => .ok (d, ss')
    | _ => .bad
  | .ok (.rn es, cs) => match (List.head? cs : Option C) with
    | some (C.own true ss') => .ok (.list es, ss')
    | _ => .bad
  | _ => .bad
structure Fz (K : PySem.W.Frag) (G H : Hp) : Prop where
  same : Same G H
  nt : ∀ b o, G b = some o → NT o
  tabs : LamX.Tabs (lamT K) H
def ErrOk (K : PySem.W.Frag) (ct : Nat → Addr) (H : Hp) (n : Nat) (xs : List D) (E : XK) : Prop := ∀ cls dx H', EExt K [] [] H H' → ErrR ct n xs cls dx H' → E cls dx H'
def spD (K : PySem.W.Frag) (ct : Nat → Addr) (n : Nat) (F : List D → R D) : Sp := fun vs H Q E => ∃ ds G, ds.length = n ∧ Fz K G H ∧ RpAll K G vs ds ∧ match F ds with
  | .ok d => ∀ v G' H', Ext [] G H [] [] G' H' [] → Fz K G' H' → Rp K G' v d → Q v H'
  | .err c xs => ErrOk K ct H c xs E
  | .bad => False
def spN (K : PySem.W.Frag) (ct : Nat → Addr) (n : Nat) (F : List D → R (List D)) : Sp := fun vs H Q E => ∃ ds G, ds.length = n ∧ Fz K G H ∧ RpAll K G vs ds ∧ match F ds with
  | .ok es => ∀ p ws G' H', Ext [] G H [] [] G' H' [] → Fz K G' H' → Fre H p → H' p = some (.lst ws) → G' p = none → es.length ≤ sizeLine → RpAll K G' ws es → Q (.ref p) H'
  | .err c xs => ErrOk K ct H c xs E
  | .bad => False
def spS (K : PySem.W.Frag) (n : Nat) (F : List D → List D → R (D × List D)) : Sp := fun vs H Q E => ∃ p sv ss ws ds G, vs = .ref p :: ws ∧ ds.length = n ∧ Fz K G H ∧ RpAll K G ws ds ∧ H p = some (.lst sv) ∧ G p = none ∧ ss.length ≤ sizeLine ∧ RpAll K G sv ss ∧ match F ss ds with
  | .ok (d, ss') => ∀ v G' H' sv', Ext [.own true ss] G H [some (.ref p)] [.own true ss'] G' H' [some (.ref p)] → Fz K G' H' → H' p = some (.lst sv') → G' p = none → ss'.length ≤ sizeLine → RpAll K G' sv' ss' → Rp K G' v d → Q v H'
  | _ => False
section
variable {K : PySem.W.Frag} {G H : Hp}
theorem fill_len {n : Nat} {cs : List C} (h : cs.length ≤ n) : (unfill n cs).length = n := by
  unfold unfill
  rw [List.length_append, List.length_replicate]
  omega
theorem start_len {N : List Str} {vs : List V} (h : vs.length ≤ N.length) : (L2.start N vs).length = N.length := by
  unfold L2.start
  rw [List.length_append, List.length_map, List.length_replicate]
  omega
theorem start_at {N : List Str} {vs : List V} {i : Nat} {v : V} (h : vs[i]? = some v) : (L2.start N vs)[i]? = some (some v) := by
  unfold L2.start
  have hi := (List.getElem?_eq_some_iff.mp h).1
  rw [List.getElem?_append_left (by simpa using hi), List.getElem?_map, h]
  rfl
theorem fill_at {n : Nat} {cs : List C} {i : Nat} {c : C} (h : (unfill n cs)[i]? = some c) (hc : c ≠ .un) : cs[i]? = some c := by
  unfold unfill at h
  by_cases hi : i < cs.length
  · rwa [List.getElem?_append_left hi] at h
  · rw [List.getElem?_append_right (by omega), List.getElem?_replicate] at h
    split at h
    · exact absurd (Option.some.inj h).symm hc
    · cases h
theorem rel_start {N : List Str} {vs : List V} {ds : List D} (fz : Fz K G H) (ha : RpAll K G vs ds) (hl : vs.length ≤ N.length) : Rel K (unfill N.length (ds.map .dat)) G (L2.start N vs) H := by
  have hlen := RpAll.length ha
  have nown : ∀ {i : Nat} {t : Bool} {es : List D}, (unfill N.length (ds.map .dat))[i]? = some (.own t es) → False := fun {i t es} h => by
    have := fill_at h (fun z => nomatch z)
    rw [List.getElem?_map] at this
    cases q : ds[i]? with
    | none => rw [q] at this; cases this
    | some d => rw [q] at this; cases this
  refine ⟨by rw [fill_len (by rw [List.length_map]; omega), start_len hl], fz.same, fz.nt, fun i d h => ?_, fun i t es h => (nown h).elim, fun i j p t u es fs h => (nown h).elim, fz.tabs⟩
  have := fill_at h (fun z => nomatch z)
  rw [List.getElem?_map] at this
  cases q : ds[i]? with
  | none => rw [q] at this; cases this
  | some e =>
    rw [q] at this
    cases this
    obtain ⟨v, h1, h2⟩ := ha.get q
    exact ⟨v, start_at h1, h2⟩
theorem no_ow {N : List Str} {vs : List V} {ds : List D} {n : Nat} {σ : L2.St} {t : Bool} {b : Addr} : ¬ Ow t (unfill n (ds.map .dat)) σ b := fun ⟨i, es, h, _⟩ => by
  have := fill_at h (fun z => nomatch z)
  rw [List.getElem?_map] at this
  cases q : ds[i]? with
  | none => rw [q] at this; cases this
  | some d => rw [q] at this; cases this
theorem ext_out {δ δ' : List C} {σ σ' : L2.St} {G' H' : Hp} (h : ∀ t b, ¬ Ow t δ σ b) (x : Ext δ G H σ δ' G' H' σ') : Ext [] G H [] [] G' H' [] :=
  ⟨fun b o e n _ => x.keep b o e n fun ⟨t, z⟩ => h t b z, x.back, x.same, fun b o e => (x.new b o e).imp id fun z => z.elim .inl fun z => absurd z (h false b), fun b ⟨i, es, z, _⟩ => by simp at z, fun b ⟨i, es, z, _⟩ => by simp at z⟩
theorem eext_out {δ : List C} {σ : L2.St} {H' : Hp} (h : ∀ t b, ¬ Ow t δ σ b) (x : EExt K δ σ H H') : EExt K [] [] H H' := ⟨fun b o e n _ => x.keep b o e n fun ⟨t, z⟩ => h t b z, x.back, x.tabs⟩
theorem Ext.in {δ : List C} {σ : L2.St} {G' H' : Hp} (x : Ext [] G H [] [] G' H' []) : Ext δ G H σ δ G' H' σ :=
  ⟨fun b o e n _ => x.keep b o e n fun ⟨t, i, es, z, _⟩ => by simp at z, x.back, x.same, fun b o e => (x.new b o e).imp id fun z => z.elim .inl fun ⟨i, es, z, _⟩ => by simp at z, fun b z => .inl z, fun b z => z⟩
theorem EExt.in {δ : List C} {σ : L2.St} {H' : Hp} (x : EExt K [] [] H H') : EExt K δ σ H H' := ⟨fun b o e n _ => x.keep b o e n fun ⟨t, i, es, z, _⟩ => by simp at z, x.back, x.tabs⟩
theorem rel_in {δ : List C} {σ : L2.St} {G' H' : Hp} (r : Rel K δ G σ H) (x : Ext [] G H [] [] G' H' []) (fz : Fz K G' H') : Rel K δ G' σ H' := by
  refine ⟨r.len, fz.same, fz.nt, fun i d h => ?_, fun i t ds h => ?_, r.inj, fz.tabs⟩
  · obtain ⟨v, h1, h2⟩ := r.dat i d h
    exact ⟨v, h1, h2.mono x.same⟩
  · obtain ⟨p, vs, h1, h2, h3, h4, h5⟩ := r.own i t ds h
    refine ⟨p, vs, h1, x.keep _ _ h2 nt_lst fun ⟨t, i, es, z, _⟩ => by simp at z, ?_, h4, h5.mono x.same⟩
    cases q : G' p with
    | none => rfl
    | some o =>
      rcases x.new p o q with z | z | ⟨i, es, z, _⟩
      · rw [h3] at z; cases z
      · exact z.not h2 (fz.same _ _ q) (x.keep _ _ h2 nt_lst fun ⟨t, i, es, z, _⟩ => by simp at z)
      · simp at z
end
abbrev WE' (E : XK) : WX := fun cls d _ H => E cls d H
section
variable {P : Program} {w : World} {K : PySem.W.Frag} {mg : Str → Option Value} {base : Heap} {ct : Nat → Addr} {x qual : Str} {st : Stmt} {f : Addr} {fd : FuncData} {N ps : List Str} {k n : Nat} {body : MS}
theorem fn_bad {sp : Sp} (h : ∀ vs H Q E, ¬ sp vs H Q E) : FnOk P w K mg base (L2.CX P w) k f fd ps sp := ⟨fun vs H Q E z => absurd z (h vs H Q E), fun A outer s H args us vs Q E _ _ _ _ z => absurd z (h vs H Q E)⟩
theorem fnD_ok (F : Fun K x qual st f fd) (S : FnScope N ps (defScope st)) (hps : ps.length = n) (hn : ps.length ≤ N.length)
    (hb : ∀ (cdv : Value) (A : Around) (outer : List Env) (s : Shared) (H : Hp) (E : XK), Room k (cxOf (L2.CX P w) P w K mg base N qual (defScope st) f cdv A outer s H E).A → Takes (cxOf (L2.CX P w) P w K mg base N qual (defScope st) f cdv A outer s H E) (WE' E) →
      PassesOwn (model P w) (cxOf (L2.CX P w) P w K mg base N qual (defScope st) f cdv A outer s H E).A (cxOf (L2.CX P w) P w K mg base N qual (defScope st) f cdv A outer s H E).env (cxOf (L2.CX P w) P w K mg base N qual (defScope st) f cdv A outer s H E).xe →
      VSs ct (WE' E) (cxOf (L2.CX P w) P w K mg base N qual (defScope st) f cdv A outer s H E) (defBody st) body) : FnOk P w K mg base (L2.CX P w) (k + 1) f fd ps (spD K ct n (fnD N.length body)) := by
  refine F.okX S (fun vs H Q E ⟨ds, G, hl, fz, ha, _⟩ => by rw [RpAll.length ha, hl, hps]) fun cdv A outer s H vs Q E hr ⟨ds, G, hl, fz, ha, hq⟩ => ?_
  refine ⟨_, hb cdv A outer s H E hr (takes_of rfl rfl rfl rfl) (passes_of rfl), unfill N.length (ds.map .dat), G, rel_start fz ha (by rw [RpAll.length ha, hl, ← hps]; exact hn), ?_⟩
  have now : ∀ t b, ¬ Ow t (unfill N.length (ds.map .dat)) (L2.start N vs) b := fun t b => no_ow (N := N) (vs := vs)
  unfold fnD at hq
  cases eb : body (unfill N.length (ds.map .dat)) with
  | bad => rw [eb] at hq; exact hq.elim
  | err c xs =>
    rw [eb] at hq
    exact fun cls dx σ' H' x' e => hq cls dx H' (eext_out now x') e
  | ok pr =>
    obtain ⟨fl, c1⟩ := pr
    rw [eb] at hq
    cases fl with
    | nx => exact fun σ' G' H' x' r' => hq .non G' H' (ext_out now x') ⟨r'.same, r'.nt, r'.tabs⟩ .non
    | bk => exact hq.elim
    | ct => exact hq.elim
    | rt d => exact fun v σ' G' H' x' r' rp => hq v G' H' (ext_out now x') ⟨r'.same, r'.nt, r'.tabs⟩ rp
    | rn es =>
        intro p ws σ' G' H' x' r' h1 h2 h3 h4 h5 h6
        have hp : Fre H p := h5.elim (fun z => absurd z (now false p)) id
        have xo := ext_out now x'
        have sg : Same G' (upd G' p (.lst ws)) := same_upd h2
        refine hq (.ref p) (upd G' p (.lst ws)) H' ⟨xo.keep, xo.back, xo.same.trans sg, fun b o e => ?_, xo.own, xo.par⟩ ⟨fun b o e => ?_, fun b o e => ?_, r'.tabs⟩ (.lst upd_same h3 (h4.mono sg))
        · by_cases q : b = p
          · subst q; exact .inr (.inl (.inl hp))
          · rw [upd_ne q] at e; exact xo.new b o e
        · by_cases q : b = p
          · subst q; rw [upd_same] at e; cases e; exact h1
          · rw [upd_ne q] at e; exact r'.same b o e
        · by_cases q : b = p
          · subst q; rw [upd_same] at e; cases e; exact nt_lst
          · rw [upd_ne q] at e; exact r'.nt b o e
theorem fnN_ok (F : Fun K x qual st f fd) (S : FnScope N ps (defScope st)) (hps : ps.length = n) (hn : ps.length ≤ N.length)
    (hb : ∀ (cdv : Value) (A : Around) (outer : List Env) (s : Shared) (H : Hp) (E : XK), Room k (cxOf (L2.CX P w) P w K mg base N qual (defScope st) f cdv A outer s H E).A → Takes (cxOf (L2.CX P w) P w K mg base N qual (defScope st) f cdv A outer s H E) (WE' E) →
      PassesOwn (model P w) (cxOf (L2.CX P w) P w K mg base N qual (defScope st) f cdv A outer s H E).A (cxOf (L2.CX P w) P w K mg base N qual (defScope st) f cdv A outer s H E).env (cxOf (L2.CX P w) P w K mg base N qual (defScope st) f cdv A outer s H E).xe →
      VSs ct (WE' E) (cxOf (L2.CX P w) P w K mg base N qual (defScope st) f cdv A outer s H E) (defBody st) body) : FnOk P w K mg base (L2.CX P w) (k + 1) f fd ps (spN K ct n (fnN N.length body)) := by
  refine F.okX S (fun vs H Q E ⟨ds, G, hl, fz, ha, _⟩ => by rw [RpAll.length ha, hl, hps]) fun cdv A outer s H vs Q E hr ⟨ds, G, hl, fz, ha, hq⟩ => ?_
  refine ⟨_, hb cdv A outer s H E hr (takes_of rfl rfl rfl rfl) (passes_of rfl), unfill N.length (ds.map .dat), G, rel_start fz ha (by rw [RpAll.length ha, hl, ← hps]; exact hn), ?_⟩
  have now : ∀ t b, ¬ Ow t (unfill N.length (ds.map .dat)) (L2.start N vs) b := fun t b => no_ow (N := N) (vs := vs)
  unfold fnN at hq
  cases eb : body (unfill N.length (ds.map .dat)) with
  | bad => rw [eb] at hq; exact hq.elim
  | err c xs =>
    rw [eb] at hq
    exact fun cls dx σ' H' x' e => hq cls dx H' (eext_out now x') e
  | ok pr =>
    obtain ⟨fl, c1⟩ := pr
    rw [eb] at hq
    cases fl with
    | nx => exact hq.elim
    | bk => exact hq.elim
    | ct => exact hq.elim
    | rt d => exact hq.elim
    | rn es =>
        intro p ws σ' G' H' x' r' h1 h2 h3 h4 h5 h6
        exact hq p ws G' H' (ext_out now x') ⟨r'.same, r'.nt, r'.tabs⟩ (h5.elim (fun z => absurd z (now false p)) id) h1 h2 h3 h4
theorem rel_startS {vs : List V} {ds ss : List D} {p : Addr} {sv : List V} {G H : Hp} (fz : Fz K G H) (ha : RpAll K G vs ds) (h1 : H p = some (.lst sv)) (h2 : G p = none) (h3 : ss.length ≤ sizeLine) (h4 : RpAll K G sv ss) (hl : vs.length + 1 ≤ N.length) :
    Rel K (unfill N.length (.own true ss :: ds.map .dat)) G (L2.start N (.ref p :: vs)) H := by
  have hlen := RpAll.length ha
  have kown : ∀ {i : Nat} {t : Bool} {es : List D}, (unfill N.length (.own true ss :: ds.map .dat))[i]? = some (.own t es) → i = 0 ∧ t = true ∧ es = ss := fun {i t es} h => by
    have := fill_at h (fun z => nomatch z)
    cases i with
    | zero =>
      simp at this
      exact ⟨rfl, this.1, this.2.symm⟩
    | succ i =>
      rw [List.getElem?_cons_succ, List.getElem?_map] at this
      cases q : ds[i]? with
      | none => rw [q] at this; cases this
      | some d => rw [q] at this; cases this
  refine ⟨by rw [fill_len (by rw [List.length_cons, List.length_map]; omega), start_len (by rw [List.length_cons]; exact hl)], fz.same, fz.nt, fun i d h => ?_, fun i t es h => ?_, fun i j p t u es fs e1 e2 _ _ => by rw [(kown e1).1, (kown e2).1], fz.tabs⟩
  · have := fill_at h (fun z => nomatch z)
    cases i with
    | zero => simp at this
    | succ i =>
      rw [List.getElem?_cons_succ, List.getElem?_map] at this
      cases q : ds[i]? with
      | none => rw [q] at this; cases this
      | some e =>
        rw [q] at this
        cases this
        obtain ⟨v, k1, k2⟩ := ha.get q
        exact ⟨v, start_at (by rw [List.getElem?_cons_succ]; exact k1), k2⟩
  · obtain ⟨e1, e2, e3⟩ := kown h
    subst e1 e2 e3
    exact ⟨p, sv, start_at rfl, h1, h2, h3, h4⟩
theorem ow_startS {vs : List V} {ds ss : List D} {p b : Addr} {n : Nat} {t : Bool} (h : Ow t (unfill n (.own true ss :: ds.map .dat)) (L2.start N (.ref p :: vs)) b) : t = true ∧ b = p := by
  obtain ⟨i, es, h1, h2⟩ := h
  have := fill_at h1 (fun z => nomatch z)
  cases i with
  | zero =>
    simp at this
    rw [start_at (v := .ref p) rfl] at h2
    cases h2
    exact ⟨this.1, rfl⟩
  | succ i =>
    rw [List.getElem?_cons_succ, List.getElem?_map] at this
    cases q : ds[i]? with
    | none => rw [q] at this; cases this
    | some d => rw [q] at this; cases this
theorem fnS_okC {oc : Value} {od an : Option Addr} {kV doc pm cdv cv : Value} {osl : Array (Option Value)} (lk : K.lookup f = some ⟨oc, od, .func (PySem.W.fnOf x qual (defArgs st) (defBody st) (defScope st) .none kV doc pm an cdv cv), osl⟩) (hcd : PySem.W.codeIn K cdv qual = true) (S : FnScope N ps (defScope st)) (hps : ps.length = n + 1) (hn : ps.length ≤ N.length)
    (hb : ∀ (A : Around) (outer : List Env) (s : Shared) (H : Hp) (E : XK), Room k (cxOf (L2.CX P w) P w K mg base N qual (defScope st) f cdv A outer s H E).A → Takes (cxOf (L2.CX P w) P w K mg base N qual (defScope st) f cdv A outer s H E) (WE' E) →
      PassesOwn (model P w) (cxOf (L2.CX P w) P w K mg base N qual (defScope st) f cdv A outer s H E).A (cxOf (L2.CX P w) P w K mg base N qual (defScope st) f cdv A outer s H E).env (cxOf (L2.CX P w) P w K mg base N qual (defScope st) f cdv A outer s H E).xe →
      VSs ct (WE' E) (cxOf (L2.CX P w) P w K mg base N qual (defScope st) f cdv A outer s H E) (defBody st) body) : FnOk P w K mg base (L2.CX P w) (k + 1) f (PySem.W.fnOf x qual (defArgs st) (defBody st) (defScope st) .none kV doc pm an cdv cv) ps (spS K n (fnS N.length body)) := by
  refine fn_of lk hcd S (fun vs H Q E ⟨p, sv, ss, ws, ds, G, ev, hl, fz, ha, _⟩ => by rw [ev, List.length_cons, RpAll.length ha, hl, hps]) fun A outer s H vs Q E hr ⟨p, sv, ss, ws, ds, G, ev, hl, fz, ha, h1, h2, h3, h4, hq⟩ => ?_
  subst ev
  have rel := rel_startS (N := N) fz ha h1 h2 h3 h4 (by rw [RpAll.length ha, hl, ← hps]; exact hn)
  refine ⟨_, hb A outer s H E hr (takes_of rfl rfl rfl rfl) (passes_of rfl), unfill N.length (.own true ss :: ds.map .dat), G, rel, ?_⟩
  -- behind the body: the first slot is still the state's
  have fin : ∀ {c1 : List C} {ss' : List D} {σ' : L2.St} {G' H' : Hp}, c1.head? = some (.own true ss') → Ext (unfill N.length (.own true ss :: ds.map .dat)) G H (L2.start N (.ref p :: ws)) c1 G' H' σ' → Rel K c1 G' σ' H' →
      Ext [.own true ss] G H [some (.ref p)] [.own true ss'] G' H' [some (.ref p)] ∧ ∃ sv', H' p = some (.lst sv') ∧ G' p = none ∧ ss'.length ≤ sizeLine ∧ RpAll K G' sv' ss' := fun {c1 ss' σ' G' H'} e0 x' r' => by
    have e0 : c1[0]? = some (.own true ss') := by rw [← List.head?_eq_getElem?]; exact e0
    obtain ⟨q, sv', b1, b2, b3, b4, b5⟩ := r'.own 0 true ss' e0
    obtain ⟨_, e⟩ := ow_startS (x'.par q ⟨0, ss', e0, b1⟩)
    subst e
    have one : ∀ {t : Bool} {b : Addr} {es : List D}, Ow t [.own true es] [some (V.ref q)] b → t = true ∧ b = q := fun {t b es} ⟨i, fs, z1, z2⟩ => by
      cases i with
      | zero => simp at z1 z2; exact ⟨z1.1, z2.symm⟩
      | succ i => simp at z1
    refine ⟨⟨fun b o e n nb => x'.keep b o e n fun ⟨t, z⟩ => ?_, x'.back, x'.same, fun b o e => ?_, fun b z => ?_, fun b z => ?_⟩, sv', b2, b3, b4, b5⟩
    · obtain ⟨e1, e2⟩ := ow_startS z
      subst e1 e2
      exact nb ⟨true, 0, ss, rfl, rfl⟩
    · rcases x'.new b o e with z | z | z
      · exact .inl z
      · exact .inr (.inl z)
      · exact absurd (ow_startS z).1 Bool.false_ne_true
    · exact absurd (one z).1 Bool.false_ne_true
    · rw [(one z).2]
      exact ⟨0, ss, rfl, rfl⟩
  unfold fnS at hq
  cases eb : body (unfill N.length (.own true ss :: ds.map .dat)) with
  | bad => rw [eb] at hq; exact hq.elim
  | err c xs => rw [eb] at hq; exact hq.elim
  | ok pr =>
    obtain ⟨fl, c1⟩ := pr
    rw [eb] at hq
    cases fl with
    | nx => exact hq.elim
    | bk => exact hq.elim
    | ct => exact hq.elim
    | rt d =>
      intro v σ' G' H' x' r' rp
      cases e0 : c1.head? with
      | none => simp only [e0] at hq
      | some c =>
        cases c with
        | un => simp only [e0] at hq
        | dat d => simp only [e0] at hq
        | own t ss' =>
          cases t with
          | false => simp only [e0] at hq
          | true =>
            simp only [e0] at hq
            obtain ⟨xo, sv', c1', c2', c3', c4'⟩ := fin e0 x' r'
            exact hq v G' H' sv' xo ⟨r'.same, r'.nt, r'.tabs⟩ c1' c2' c3' c4' rp
    | rn es =>
      intro q ws' σ' G' H' x' r' k1 k2 k3 k4 k5 k6
      cases e0 : c1.head? with
      | none => simp only [e0] at hq
      | some c =>
        cases c with
        | un => simp only [e0] at hq
        | dat d => simp only [e0] at hq
        | own t ss' =>
          cases t with
          | false => simp only [e0] at hq
          | true =>
            simp only [e0] at hq
            obtain ⟨xo, sv', c1', c2', c3', c4'⟩ := fin e0 x' r'
            have hpq : Fre H q := k5.elim (fun z => absurd (ow_startS z).1 Bool.false_ne_true) id
            have npq : p ≠ q := fun e => hpq.not (e ▸ h1)
            have sg : Same G' (upd G' q (.lst ws')) := same_upd k2
            refine hq (.ref q) (upd G' q (.lst ws')) H' sv' ⟨xo.keep, xo.back, xo.same.trans sg, fun b o e => ?_, xo.own, xo.par⟩ ⟨fun b o e => ?_, fun b o e => ?_, r'.tabs⟩ c1' (by rw [upd_ne npq]; exact c2') c3' (c4'.mono sg) (.lst upd_same k3 (k4.mono sg))
            · by_cases z : b = q
              · subst z; exact .inr (.inl (.inl hpq))
              · rw [upd_ne z] at e; exact xo.new b o e
            · by_cases z : b = q
              · subst z; rw [upd_same] at e; cases e; exact k1
              · rw [upd_ne z] at e; exact r'.same b o e
            · by_cases z : b = q
              · subst z; rw [upd_same] at e; cases e; exact nt_lst
              · rw [upd_ne z] at e; exact r'.nt b o e
theorem fnS_ok (F : Fun K x qual st f fd) (S : FnScope N ps (defScope st)) (hps : ps.length = n + 1) (hn : ps.length ≤ N.length)
    (hb : ∀ (cdv : Value) (A : Around) (outer : List Env) (s : Shared) (H : Hp) (E : XK), Room k (cxOf (L2.CX P w) P w K mg base N qual (defScope st) f cdv A outer s H E).A → Takes (cxOf (L2.CX P w) P w K mg base N qual (defScope st) f cdv A outer s H E) (WE' E) →
      PassesOwn (model P w) (cxOf (L2.CX P w) P w K mg base N qual (defScope st) f cdv A outer s H E).A (cxOf (L2.CX P w) P w K mg base N qual (defScope st) f cdv A outer s H E).env (cxOf (L2.CX P w) P w K mg base N qual (defScope st) f cdv A outer s H E).xe →
      VSs ct (WE' E) (cxOf (L2.CX P w) P w K mg base N qual (defScope st) f cdv A outer s H E) (defBody st) body) : FnOk P w K mg base (L2.CX P w) (k + 1) f fd ps (spS K n (fnS N.length body)) := by
  obtain ⟨oc, od, kV, doc, pm, an, cdv, cv, osl, rfl, lk, hcd⟩ := F.ex
  exact fnS_okC lk hcd S hps hn (hb cdv)
end
def mCall (n : Nat) (F : List D → R D) (ms : M (List D)) : M D := M.bind ms fun ds => if ds.length = n then M.lift (F ds) else fun _ => .bad
def mCallN (n : Nat) (F : List D → R (List D)) (ms : M (List D)) : M (List D) := M.bind ms fun ds => if ds.length = n then M.lift (F ds) else fun _ => .bad
def stPut (i : Nat) (F : List D → R (D × List D)) : M D := fun cs => match cs[i]? with
  | some (.own t ss) => match F ss with
    | .ok (d, ss') => .ok (d, cs.set i (.own t ss'))
    | _ => .bad
  | _ => .bad
def mCallS (n i : Nat) (F : List D → List D → R (D × List D)) (ms : M (List D)) : M D := fun cs => if isOwn cs i then (M.bind ms fun ds => if ds.length = n then stPut i fun ss => F ss ds else fun _ => .bad) cs else .bad
section
variable {ct : Nat → Addr} {W : WX} {X : Cx} {f : Addr} {fd : FuncData} {ps : List Str} {k n i : Nat} {Fd : List D → R D} {Fn : List D → R (List D)} {Fs : List D → List D → R (D × List D)} {e o : Expr} {es : List Expr} {ms : M (List D)} {x : Str} {p pos : Pos}
abbrev anyW (W : WX) : XK := fun cls d H => ∀ σ, W cls d σ H
theorem passAny (tk : Takes X W) : Passes (L2.CX X.prog X.w) X (anyW W) := passes_call tk fun _ _ σ _ h => h σ
theorem call_core {K : PySem.W.Frag} {σ : L2.St} {H : Hp} {Q : VK} (h : tG K ct W (PD K) (mCall n Fd ms) σ H Q) : tCall (spD K ct n Fd) [] (anyW W) (tG K ct W (PAs K) ms) σ H Q :=
  tG.step h fun ds δ1 vs G1 H1 r1 p1 h1 => by
    have p1 : RpAll K G1 vs ds := p1
    by_cases hl : ds.length = n
    · simp only [hl, if_true] at h1
      rw [List.append_nil]
      refine ⟨ds, G1, hl, ⟨r1.same, r1.nt, r1.tabs⟩, p1, ?_⟩
      cases ef : Fd ds with
      | ok d =>
        simp only [ef, M.lift] at h1
        exact fun v G' H' x fz rp => h1 v G' H' x.in (rel_in r1 x fz) rp
      | err c xs =>
        simp only [ef, M.lift] at h1
        exact fun cls dx H' x e σ' => h1 cls dx σ' H' x.in e
      | bad => simp only [ef, M.lift] at h1; exact h1.elim
    · simp only [hl, if_false] at h1
      exact h1.elim
theorem callN_core {K : PySem.W.Frag} {σ : L2.St} {H : Hp} {Q : VK} (h : tG K ct W (PN K) (mCallN n Fn ms) σ H Q) : tCall (spN K ct n Fn) [] (anyW W) (tG K ct W (PAs K) ms) σ H Q :=
  tG.step h fun ds δ1 vs G1 H1 r1 p1 h1 => by
    have p1 : RpAll K G1 vs ds := p1
    by_cases hl : ds.length = n
    · simp only [hl, if_true] at h1
      rw [List.append_nil]
      refine ⟨ds, G1, hl, ⟨r1.same, r1.nt, r1.tabs⟩, p1, ?_⟩
      cases ef : Fn ds with
      | ok d =>
        simp only [ef, M.lift] at h1
        exact fun p ws G' H' x fz a b c d e => h1 _ G' H' x.in (rel_in r1 x fz) ⟨p, ws, rfl, a, b, c, fresh_notF r1 a, d, e⟩
      | err c xs =>
        simp only [ef, M.lift] at h1
        exact fun cls dx H' x e σ' => h1 cls dx σ' H' x.in e
      | bad => simp only [ef, M.lift] at h1; exact h1.elim
    · simp only [hl, if_false] at h1
      exact h1.elim
theorem stPut_at {F : List D → R (D × List D)} {cs cs' : List C} {d : D} (h : stPut i F cs = .ok (d, cs')) : ∃ t ss ss', cs[i]? = some (.own t ss) ∧ F ss = .ok (d, ss') ∧ cs' = cs.set i (.own t ss') := by
  unfold stPut at h
  split at h
  · split at h
    · cases h
      exact ⟨_, _, _, by assumption, by assumption, rfl⟩
    · cases h
  · cases h
theorem stPut_err {F : List D → R (D × List D)} {cs : List C} {c : Nat} {xs : List D} : stPut i F cs ≠ .err c xs := fun h => by
  unfold stPut at h
  split at h
  · split at h <;> cases h
  · cases h
theorem callS_core {K : PySem.W.Frag} {σ : L2.St} {H : Hp} {Q : VK} (h : tG K ct W (PD K) (mCallS n i Fs ms) σ H Q) : tCall (spS K n Fs) [] (anyW W) (tCons (tVar i) (tG K ct W (PAs K) ms)) σ H Q := by
  obtain ⟨δ, G, rel, h⟩ := h
  unfold mCallS at h
  cases ho : isOwn δ i with
  | false => rw [ho] at h; exact h.elim
  | true =>
    rw [ho, if_pos rfl] at h
    obtain ⟨t0, ds0, e0⟩ := isOwn_at ho
    obtain ⟨p, vs0, a1, a2, a3, a4, a5⟩ := rel.own i t0 ds0 e0
    refine ⟨.ref p, a1, δ, G, rel, TW.step rel h fun ds δ1 vs G1 H1 _ x1 r1 p1 h1 => ?_⟩
    have p1 : RpAll K G1 vs ds := p1
    by_cases hl : ds.length = n
    · simp only [hl, if_true] at h1
      show spS K n Fs ((V.ref p :: vs) ++ []) H1 Q (anyW W)
      rw [List.append_nil]
      cases eo : stPut i (fun ss => Fs ss ds) δ1 with
      | bad => rw [eo] at h1; exact h1.elim
      | err c xs => exact absurd eo stPut_err
      | ok pr =>
        obtain ⟨d, δ2⟩ := pr
        rw [eo] at h1
        obtain ⟨t, ss, ss', e1, ef, e4⟩ := stPut_at eo
        subst e4
        obtain ⟨p', sv, b1, b2, b3, b4, b5⟩ := r1.own i t ss e1
        rw [a1] at b1
        cases b1
        refine ⟨p, sv, ss, vs, ds, G1, rfl, hl, ⟨r1.same, r1.nt, r1.tabs⟩, p1, b2, b3, b4, b5, ?_⟩
        rw [ef]
        intro v G' H' sv' x fz c1 c2 c3 c4 rp
        have hi : i < δ1.length := (List.getElem?_eq_some_iff.mp e1).1
        have one : ∀ {u : Bool} {b : Addr} {fs : List D}, Ow u [.own true fs] [some (V.ref p)] b → u = true ∧ b = p := fun {u b fs} ⟨j, gs, z1, z2⟩ => by
          cases j with
          | zero => simp at z1 z2; exact ⟨z1.1, z2.symm⟩
          | succ j => simp at z1
        have kp : ∀ {j : Nat} {u : Bool} {fs : List D}, (δ1.set i (.own t ss'))[j]? = some (.own u fs) → (j = i ∧ u = t ∧ fs = ss') ∨ (j ≠ i ∧ δ1[j]? = some (.own u fs)) := fun {j u fs} h => by
          by_cases q : j = i
          · subst q
            rw [List.getElem?_set_self hi] at h
            cases h
            exact .inl ⟨rfl, rfl, rfl⟩
          · rw [List.getElem?_set_ne (Ne.symm q)] at h
            exact .inr ⟨q, h⟩
        have ow : ∀ u b, Ow u (δ1.set i (.own t ss')) σ b → Ow u δ1 σ b := fun u b ⟨j, fs, z1, z2⟩ => by
          rcases kp z1 with ⟨z, z3, z4⟩ | ⟨z, q⟩
          · subst z z3 z4
            exact ⟨j, ss, e1, z2⟩
          · exact ⟨j, fs, q, z2⟩
        refine h1 v G' H' ⟨fun b o e nt nb => x.keep b o e nt fun ⟨u, z⟩ => nb ?_, x.back, x.same, fun b o e => ?_, fun b z => .inl (ow _ b z), fun b z => ow _ b z⟩ ⟨by rw [List.length_set]; exact r1.len, fz.same, fz.nt, fun j d q => ?_, fun j u fs q => ?_, fun j k q u v fs gs z1 z2 z3 z4 => ?_, fz.tabs⟩ rp
        · rw [(one z).2]
          exact ⟨t, i, ss, e1, a1⟩
        · rcases x.new b o e with z | z | z
          · exact .inl z
          · exact .inr (.inl z)
          · exact absurd (one z).1 Bool.false_ne_true
        · have z : j ≠ i := fun z => by subst z; rw [List.getElem?_set_self hi] at q; cases q
          rw [List.getElem?_set_ne (Ne.symm z)] at q
          obtain ⟨y, k1, k2⟩ := r1.dat j d q
          exact ⟨y, k1, k2.mono x.same⟩
        · rcases kp q with ⟨z, z3, z4⟩ | ⟨z, q⟩
          · subst z z3 z4
            exact ⟨p, sv', a1, c1, c2, c3, c4⟩
          · obtain ⟨p', ys, k1, k2, k3, k4, k5⟩ := r1.own j u fs q
            have n : p' ≠ p := fun e => z (r1.inj j i p u t fs ss q e1 (e ▸ k1) a1)
            refine ⟨p', ys, k1, x.keep _ _ k2 nt_lst fun ⟨u, z⟩ => n (one z).2, ?_, k4, k5.mono x.same⟩
            cases qg : G' p' with
            | none => rfl
            | some o =>
              rcases x.new _ _ qg with z | z | z
              · rw [k3] at z; cases z
              · exact z.not k2 (fz.same _ _ qg) (x.keep _ _ k2 nt_lst fun ⟨u, z⟩ => n (one z).2)
              · exact absurd (one z).1 Bool.false_ne_true
        · have f1 : ∃ es', δ1[j]? = some (.own u es') := by
            rcases kp z1 with ⟨z, zz, _⟩ | ⟨_, q⟩
            · subst z zz; exact ⟨_, e1⟩
            · exact ⟨_, q⟩
          have f2 : ∃ es', δ1[k]? = some (.own v es') := by
            rcases kp z2 with ⟨z, zz, _⟩ | ⟨_, q⟩
            · subst z zz; exact ⟨_, e1⟩
            · exact ⟨_, q⟩
          obtain ⟨g1, f1⟩ := f1
          obtain ⟨g2, f2⟩ := f2
          exact r1.inj j k q u v g1 g2 f1 f2 z3 z4
    · simp only [hl, if_false] at h1
      exact h1.elim
theorem ve_call (F : FnOk X.prog X.w X.K X.mg X.base (L2.CX X.prog X.w) k f fd ps (spD X.K ct n Fd)) (hr : Room k X.A) (tk : Takes X W) (hg : Gl X x) (hm : X.mg x = some (.ref f)) (hk : PySem.W.keepIn X.K (.ref f) = true) (hb : Binds X.K fd ps []) (ha : VA ct W X (e :: es) ms)
    (hdb : (x == ("__debug__" : Str)) = false := by decide) (he : starEach (e :: es) X.env = (false, eval e X.env) :: starEach es X.env := by rfl) (hpl : (backTo pos (starEach es X.env)).any (·.1) = false := by rfl) :
    VE ct W X (.Call (.Name x p) (e :: es) [] pos) (mCall n Fd ms) := PE.conv (pe_call F hr hg hm hk hb .nil (passAny tk) ha hdb he hpl) fun _ _ _ h => call_core h
theorem vn_call (F : FnOk X.prog X.w X.K X.mg X.base (L2.CX X.prog X.w) k f fd ps (spN X.K ct n Fn)) (hr : Room k X.A) (tk : Takes X W) (hg : Gl X x) (hm : X.mg x = some (.ref f)) (hk : PySem.W.keepIn X.K (.ref f) = true) (hb : Binds X.K fd ps []) (ha : VA ct W X (e :: es) ms)
    (hdb : (x == ("__debug__" : Str)) = false := by decide) (he : starEach (e :: es) X.env = (false, eval e X.env) :: starEach es X.env := by rfl) (hpl : (backTo pos (starEach es X.env)).any (·.1) = false := by rfl) :
    VN ct W X (.Call (.Name x p) (e :: es) [] pos) (mCallN n Fn ms) := PE.conv (pe_call F hr hg hm hk hb .nil (passAny tk) ha hdb he hpl) fun _ _ _ h => callN_core h
theorem ve_callS (F : FnOk X.prog X.w X.K X.mg X.base (L2.CX X.prog X.w) k f fd ps (spS X.K n Fs)) (hr : Room k X.A) (tk : Takes X W) (hg : Gl X x) (hm : X.mg x = some (.ref f)) (hk : PySem.W.keepIn X.K (.ref f) = true) (hb : Binds X.K fd ps []) (ho : PE X e (tVar i)) (ha : VA ct W X es ms)
    (hdb : (x == ("__debug__" : Str)) = false := by decide) (he : starEach (e :: es) X.env = (false, eval e X.env) :: starEach es X.env := by rfl) (hpl : (backTo pos (starEach es X.env)).any (·.1) = false := by rfl) :
    VE ct W X (.Call (.Name x p) (e :: es) [] pos) (mCallS n i Fs ms) := PE.conv (pe_call F hr hg hm hk hb .nil (passAny tk) (pa_cons ho ha he) hdb he hpl) fun _ _ _ h => callS_core h
end
end TW
set_option Elab.async false
set_option linter.all false
set_option maxRecDepth 100000
namespace TW
open PySem PySem.Spec PyProof.Rows L2
def gOr (g g' : D → D → R D) : D → D → R D := fun d e => match g d e with
  | .ok z => .ok z
  | _ => g' d e
def rOr (r r' : R2) : R2 := fun x y H Q => r x y H Q ∨ r' x y H Q
section
variable {K : PySem.W.Frag} {X : Cx} {r r' : R2} {g g' : D → D → R D} {f : Value → Value → Sem Value}
theorem OpR.or (h : OpR X f r) (h' : OpR X f r') : OpR X f (rOr r r') := fun pins s σ H x y v u Q I rx ry q => by
  rcases q with q | q
  · exact h pins s σ H x y v u Q I rx ry q
  · exact h' pins s σ H x y v u Q I rx ry q
theorem R2D.or (h : R2D K r g) (h' : R2D K r' g') : R2D K (rOr r r') (gOr g g') := fun δ σ G H x y d e z Q rl hx hy hz q => by
  unfold gOr at hz
  cases e1 : g d e with
  | ok z' => rw [e1] at hz; cases hz; exact .inl (h δ σ G H x y d e _ Q rl hx hy e1 q)
  | err n xs => rw [e1] at hz; exact .inr (h' δ σ G H x y d e z Q rl hx hy hz q)
  | bad => rw [e1] at hz; exact .inr (h' δ σ G H x y d e z Q rl hx hy hz q)
def gCatS : D → D → R D
  | .str x, .str y => if szOk (x.length + y.length) then .ok (.str (x ++ y)) else .bad
  | _, _ => .bad
def rCatS : R2 := fun x y H Q => ∃ a b, x = .str a ∧ y = .str b ∧ a.length + b.length ≤ sizeLine ∧ Q (.str (a ++ b)) H
theorem op_catS : OpR X (binaryOp .Add) rCatS := fun pins s σ H x y v u Q I rx ry ⟨a, b, e1, e2, hz, q⟩ => op_add_str pins s σ H x y v u Q I rx ry ⟨a, b, e1, e2, hz, q⟩
theorem r2_CatS : R2D K rCatS gCatS := fun δ σ G H x y d e z Q r hx hy hz q => by
  unfold gCatS at hz
  split at hz
  · split at hz
    · rename_i hk
      cases hz
      exact ⟨_, _, hx.str, hy.str, szOk_le hk, q _ G H (Grow.refl r) (.str _)⟩
    · cases hz
  · cases hz
def asD (g : D → D → R (List D)) : D → D → R D := fun d e => match g d e with
  | .ok ds => .ok (.list ds)
  | .err n xs => .err n xs
  | .bad => .bad
theorem R2N.asD {gn : D → D → R (List D)} (h : R2N K r gn) : R2D K r (asD gn) := fun δ σ G H x y d e z Q rl hx hy hz q => by
  unfold TW.asD at hz
  cases e1 : gn d e with
  | ok ds =>
    rw [e1] at hz
    cases hz
    exact h δ σ G H x y d e ds Q rl hx hy e1 fun p vs hp hl ha => q _ _ _ (Grow.laid rl.same rl.nt hp nt_lst) (.lst upd_same hl (RpAll.mono (same_upd (Same.free rl.same hp)) ha))
  | err n xs => rw [e1] at hz; cases hz
  | bad => rw [e1] at hz; cases hz
def gAdd : D → D → R D := gOr (gI (· + ·)) (gOr gCatT (gOr gCatS (asD gCatL)))
def rAddX (K : PySem.W.Frag) : R2 := rOr (rI0 fun i j => .int (i + j)) (rOr (rCatN K) (rOr rCatS rCat))
theorem op_addX : OpR X (binaryOp .Add) (rAddX X.K) := op_add.or (op_catN.or (op_catS.or op_cat))
theorem r2_addX : R2D K (rAddX K) gAdd := r2_I.or (r2_CatT.or (r2_CatS.or r2_CatL.asD))
def cMul (i j : Int) : Bool := decide (-18446744073709551616 < i ∧ i < 18446744073709551616) || decide (-18446744073709551616 < j ∧ j < 18446744073709551616)
theorem cMul_ok (i j : Int) (h : cMul i j = true) : CMul i j := by
  unfold cMul at h
  rw [Bool.or_eq_true] at h
  rcases h with h | h
  · exact .inl (by have := of_decide_eq_true h; omega)
  · exact .inr (by have := of_decide_eq_true h; omega)
def gRepT : D → D → R D
  | .tuple ds, .int k => if !ds.isEmpty && decide (2 ≤ k ∧ k ≤ 1000 ∧ ds.length ≤ 1000) then .ok (.tuple (List.replicate k.toNat ds).flatten) else .bad
  | _, _ => .bad
theorem r2_RepT : R2D K (rRepN K) gRepT := fun δ σ G H x y d e z Q r hx hy hz q => by
  unfold gRepT at hz
  split at hz
  · split at hz
    · rename_i ds k hk
      rw [Bool.and_eq_true, decide_eq_true_eq] at hk
      obtain ⟨hk0, hk1, hk2, hk3⟩ := hk
      cases hz
      obtain ⟨a, xs, e1, h1, h2, h3⟩ := hx.tup r.same
      have l1 := h3.length
      have e : (List.replicate k.toNat ds).flatten.length = ds.length * k.toNat := by
        rw [List.length_flatten, List.map_replicate, List.sum_replicate_nat, Nat.mul_comm]
      have hl : (List.replicate k.toNat ds).flatten.length ≤ sizeLine := by
        rw [e, sizeLine_eq]
        exact Nat.le_trans (Nat.mul_le_mul hk3 (show k.toNat ≤ 1000 by omega)) (by decide)
      refine ⟨a, k, xs, e1, hy.int, h1, fun z => ?_, hk1, hk2, by omega, fun p ob hp hd => q _ _ _ (Grow.laid r.same r.nt hp nt_frz) (.tup ⟨ob, upd_same, hd⟩ hl (RpAll.mono (same_upd (Same.free r.same hp)) (h3.rep _)))⟩
      rw [z] at l1
      cases ds with
      | nil => simp at hk0
      | cons _ _ => simp at l1
    · cases hz
  · cases hz
def gMul : D → D → R D := gOr (gIC cMul (· * ·)) (gOr (asD gRepL) gRepT)
def rMulX (K : PySem.W.Frag) : R2 := rOr (rI CMul fun i j => .int (i * j)) (rOr rRep (rRepN K))
theorem op_mulX : OpR X (binaryOp .Mult) (rMulX X.K) := op_mul.or (op_rep.or op_repN)
theorem r2_mulX : R2D K (rMulX K) gMul := (r2_IC cMul_ok).or (r2_RepL.asD.or r2_RepT)
def cDiv (i j : Int) : Bool := decide (0 < j ∧ j < 1073741824)
def cMod (i j : Int) : Bool := decide (0 < j)
def cPow (i j : Int) : Bool := decide (0 ≤ j ∧ j ≤ 1000000 ∧ i.natAbs < 18446744073709551616)
def gDiv : D → D → R D := gIC cDiv (· / ·)
def gMod : D → D → R D := gIC cMod (· % ·)
def gPow : D → D → R D := gIC cPow fun i j => i ^ j.toNat
def gSub : D → D → R D := gI (· - ·)
def inS (neg : Bool) (x y : Str) : Bool := neg != !(Builtin.Str.occurrences y x 0 y.length 1).isEmpty
def gInS (neg : Bool) : D → D → R D
  | .str x, .str y => .ok (.bool (inS neg x y))
  | _, _ => .bad
def rInS (neg : Bool) : R2 := fun x y H Q => ∃ i j, x = .str i ∧ y = .str j ∧ Q (.bl (inS neg i j)) H
theorem op_inS : OpR X (compareOp .In) (rInS false) := fun pins s σ H x y v u Q I rx ry ⟨a, b, e1, e2, q⟩ => op_in_str pins s σ H x y v u Q I rx ry ⟨a, b, e1, e2, by unfold inS at q; rwa [Bool.false_bne] at q⟩
theorem r2_InS {neg : Bool} : R2D K (rInS neg) (gInS neg) := fun δ σ G H x y d e z Q r hx hy hz q => by
  unfold gInS at hz
  split at hz
  · cases hz
    exact ⟨_, _, hx.str, hy.str, q _ G H (Grow.refl r) (.bl _)⟩
  · cases hz
def gInX (neg : Bool) : D → D → R D := gOr (gIn neg) (gInS neg)
end
section
variable {ct : Nat → Addr} {W : WX} {X : Cx} {a b c : Expr} {ma mb mc : M D} {pos : Pos} {k : Nat}
theorem u64 {A : Around} (hr : Room k A) : A.units + 64 < cLine := hr.units
theorem u65 {A : Around} (hr : Room k A) : A.units + 65 < cLine := by have := hr.un; omega
theorem ve_add (ha : VE ct W X a ma) (hb : VV ct W X b mb) : VE ct W X (.BinOp a .Add b pos) (mOp2 gAdd ma mb) := ve_op op_addX r2_addX ha hb
theorem ve_sub (ha : VE ct W X a ma) (hb : VV ct W X b mb) : VE ct W X (.BinOp a .Sub b pos) (mOp2 gSub ma mb) := ve_op op_sub r2_I ha hb
theorem ve_mul (ha : VE ct W X a ma) (hb : VV ct W X b mb) : VE ct W X (.BinOp a .Mult b pos) (mOp2 gMul ma mb) := ve_op op_mulX r2_mulX ha hb
theorem ve_div (ha : VE ct W X a ma) (hb : VV ct W X b mb) : VE ct W X (.BinOp a .FloorDiv b pos) (mOp2 gDiv ma mb) := ve_op op_fdiv (r2_IC (Cc := CDiv) fun i j h => by have := of_decide_eq_true h; exact this) ha hb
theorem ve_mod (ha : VE ct W X a ma) (hb : VV ct W X b mb) : VE ct W X (.BinOp a .Mod b pos) (mOp2 gMod ma mb) := ve_op op_mod (r2_IC (Cc := fun _ j => 0 < j) fun i j h => by have := of_decide_eq_true h; exact this) ha hb
theorem ve_pow (ha : VE ct W X a ma) (hb : VV ct W X b mb) : VE ct W X (.BinOp a .Pow b pos) (mOp2 gPow ma mb) := ve_op op_pow (r2_IC fun i j h => by have := of_decide_eq_true h; exact ⟨this.1, this.2.1, by omega⟩) ha hb
theorem vn_add (ha : VE ct W X a ma) (hb : VV ct W X b mb) : VN ct W X (.BinOp a .Add b pos) (mOp2N gCatL ma mb) := vn_op op_cat r2_CatL ha hb
theorem ve_eq (hr : Room k X.A) (ha : VE ct W X a ma) (hb : VV ct W X b mb) : VE ct W X (.Compare a [.Eq] [b] pos) (mOp2 gEq ma mb) := ve_cmp (op_eqD (u64 hr)) r2_Eq (nomark _) ha hb
theorem ve_lt (hr : Room k X.A) (ha : VE ct W X a ma) (hb : VV ct W X b mb) : VE ct W X (.Compare a [.Lt] [b] pos) (mOp2 (gOrd PySem.W.dataLt) ma mb) := ve_cmp (op_ltD (u64 hr)) r2_ord (nomark _) ha hb
theorem ve_in (hr : Room k X.A) (ha : VE ct W X a ma) (hb : VV ct W X b mb) (hm : behindInMarks .In b = false := by rfl) : VE ct W X (.Compare a [.In] [b] pos) (mOp2 (gInX false) ma mb) := ve_cmp ((op_inA (u65 hr)).or op_inS) (r2_In.or r2_InS) hm ha hb
theorem vt_eq (hr : Room k X.A) (ha : VE ct W X a ma) (hb : VV ct W X b mb) : VT ct W X (.Compare a [.Eq] [b] pos) (mTest (mOp2 gEq ma mb)) := vt_cmp (op_eqD (u64 hr)) r2_Eq (nomark _) ha hb
theorem vt_ne (hr : Room k X.A) (ha : VE ct W X a ma) (hb : VV ct W X b mb) : VT ct W X (.Compare a [.NotEq] [b] pos) (mTest (mOp2 gNe ma mb)) := vt_cmp (op_neD (u64 hr)) r2_Ne (nomark _) ha hb
theorem vt_neV (hr : Room k X.A) (ha : VV ct W X a ma) (hp : Pure mb) (hb : VV ct W X b mb) : VT ct W X (.Compare a [.NotEq] [b] pos) (mTest (mOp2 gNe ma mb)) := vt_cmpV (op_neD (u64 hr)) r2_Ne (nomark _) ha hp hb
theorem vt_lt (hr : Room k X.A) (ha : VE ct W X a ma) (hb : VV ct W X b mb) : VT ct W X (.Compare a [.Lt] [b] pos) (mTest (mOp2 (gOrd PySem.W.dataLt) ma mb)) := vt_cmp (op_ltD (u64 hr)) r2_ord (nomark _) ha hb
theorem vt_gt (hr : Room k X.A) (ha : VE ct W X a ma) (hb : VV ct W X b mb) : VT ct W X (.Compare a [.Gt] [b] pos) (mTest (mOp2 (gOrd fun d e => PySem.W.dataLt e d) ma mb)) := vt_cmp (op_gtD (u64 hr)) r2_ord (nomark _) ha hb
theorem vt_ge (hr : Room k X.A) (ha : VE ct W X a ma) (hb : VV ct W X b mb) : VT ct W X (.Compare a [.GtE] [b] pos) (mTest (mOp2 (gOrd fun d e => !PySem.W.dataLt d e) ma mb)) := vt_cmp (op_geD (u64 hr)) r2_ord (nomark _) ha hb
theorem vt_in (hr : Room k X.A) (ha : VE ct W X a ma) (hb : VV ct W X b mb) (hm : behindInMarks .In b = false := by rfl) : VT ct W X (.Compare a [.In] [b] pos) (mTest (mOp2 (gInX false) ma mb)) := vt_cmp ((op_inA (u65 hr)).or op_inS) (r2_In.or r2_InS) hm ha hb
theorem vt_isN (ha : VE ct W X a ma) (hb : VV ct W X b mb) : VT ct W X (.Compare a [.Is] [b] pos) (mTest (mOp2 gIsN ma mb)) := vt_cmp op_isN r2_IsN (nomark _) ha hb
def oLt : D → D → R D := gOrd PySem.W.dataLt
def oLe : D → D → R D := gOrd fun d e => !PySem.W.dataLt e d
theorem ve_leLt (hr : Room k X.A) (ha : VE ct W X a ma) (hb : VE ct W X b mb) (hc : VV ct W X c mc) (hm : lastMarks [CmpOp.LtE, CmpOp.Lt] [b, c] = false := by with_unfolding_all rfl) : VE ct W X (.Compare a [.LtE, .Lt] [b, c] pos) (mChain oLe oLt ma mb mc) := ve_chain (op_leD (u64 hr)) r2_ord (op_ltD (u64 hr)) r2_ord ha hb hc hm
theorem vt_leLe (hr : Room k X.A) (ha : VE ct W X a ma) (hb : VE ct W X b mb) (hc : VV ct W X c mc) (hm : lastMarks [CmpOp.LtE, CmpOp.LtE] [b, c] = false := by with_unfolding_all rfl) : VT ct W X (.Compare a [.LtE, .LtE] [b, c] pos) (mTest (mChain oLe oLe ma mb mc)) := vt_chain (op_leD (u64 hr)) r2_ord (op_leD (u64 hr)) r2_ord ha hb hc hm
variable {p : Pos}
theorem ve_len (hg : Gl X "len") (hm : X.mg "len" = none) (ha : VV ct W X a ma) (hs : starEach [a] X.env = (false, eval a X.env) :: starEach [] X.env := by rfl) : VE ct W X (.Call (.Name "len" p) [a] [] pos) (mOp1 gLen ma) := ve_callB call_len r1_len hg hm PySem.boot_len ha hs
theorem ve_all (hc : X.calm = true) (hg : Gl X "all") (hm : X.mg "all" = none) (ha : VV ct W X a ma) (hs : starEach [a] X.env = (false, eval a X.env) :: starEach [] X.env := by rfl) : VE ct W X (.Call (.Name "all" p) [a] [] pos) (mOp1 gAll ma) := ve_callB (cr_all hc) r1_all hg hm PyProof.Rows.boot_all ha hs
theorem ve_tuple (hg : Gl X "tuple") (hm : X.mg "tuple" = none) (ha : VV ct W X a ma) (hs : starEach [a] X.env = (false, eval a X.env) :: starEach [] X.env := by rfl) : VE ct W X (.Call (.Name "tuple" p) [a] [] pos) (mOp1 gTuple ma) := ve_callTy call_tupOf r1_tuple hg hm PyProof.Rows.boot_tuple ha hs
theorem vn_list (hg : Gl X "list") (hm : X.mg "list" = none) (ha : VV ct W X a ma) (hs : starEach [a] X.env = (false, eval a X.env) :: starEach [] X.env := by rfl) : VN ct W X (.Call (.Name "list" p) [a] [] pos) (mOp1N gList ma) := vn_callTy call_list_of r1_list hg hm PyProof.Rows.boot_list ha hs
theorem vn_sorted (hr : Room k X.A) (hg : Gl X "sorted") (hm : X.mg "sorted" = none) (ha : VV ct W X a ma) (hs : starEach [a] X.env = (false, eval a X.env) :: starEach [] X.env := by rfl) : VN ct W X (.Call (.Name "sorted" p) [a] [] pos) (mOp1N gSorted ma) := vn_callB (call_sortedA (u64 hr)) r1_sorted hg hm PyProof.Rows.boot_sorted ha hs
end
end TW
set_option Elab.async false
set_option linter.all false
set_option maxRecDepth 100000
namespace TW
open PySem PySem.Spec PyProof.Rows L2
structure Tx (K : PySem.W.Frag) (mg : Str → Option Value) (x : Str) (st : Stmt) (ps : List Str) : Prop where
  ex : ∃ f fd, Fun K x x st f fd ∧ mg x = some (.ref f) ∧ Binds K fd ps []
structure Cal (P : Program) (w : World) (K : PySem.W.Frag) (mg : Str → Option Value) (base : Heap) (x : Str) (ps : List Str) (k : Nat) (sp : Sp) : Prop where
  ex : ∃ f fd, FnOk P w K mg base (L2.CX P w) k f fd ps sp ∧ mg x = some (.ref f) ∧ PySem.W.keepIn K (.ref f) = true ∧ Binds K fd ps []
section
variable {P : Program} {w : World} {K : PySem.W.Frag} {mg : Str → Option Value} {base : Heap} {ct : Nat → Addr} {x : Str} {st : Stmt} {N ps : List Str} {k n : Nat} {body : MS}
abbrev Bx (P : Program) (w : World) (K : PySem.W.Frag) (mg : Str → Option Value) (base : Heap) (N : List Str) (x : Str) (st : Stmt) (f : Addr) (cdv : Value) (A : Around) (outer : List Env) (s : Shared) (H : Hp) (E : XK) : Cx := cxOf (L2.CX P w) P w K mg base N x (defScope st) f cdv A outer s H E
def BodyOk (P : Program) (w : World) (K : PySem.W.Frag) (mg : Str → Option Value) (base : Heap) (ct : Nat → Addr) (N : List Str) (x : Str) (st : Stmt) (k : Nat) (body : MS) : Prop :=
  ∀ (f : Addr) (cdv : Value) (A : Around) (outer : List Env) (s : Shared) (H : Hp) (E : XK), Room k (Bx P w K mg base N x st f cdv A outer s H E).A → Takes (Bx P w K mg base N x st f cdv A outer s H E) (WE' E) →
      PassesOwn (model P w) (Bx P w K mg base N x st f cdv A outer s H E).A (Bx P w K mg base N x st f cdv A outer s H E).env (Bx P w K mg base N x st f cdv A outer s H E).xe →
      VSs ct (WE' E) (Bx P w K mg base N x st f cdv A outer s H E) (defBody st) body
theorem calD (T : Tx K mg x st ps) (S : FnScope N ps (defScope st)) (hps : ps.length = n) (hn : ps.length ≤ N.length) (hb : BodyOk P w K mg base ct N x st k body) : Cal P w K mg base x ps (k + 1) (spD K ct n (fnD N.length body)) := by
  obtain ⟨f, fd, F, hm, b⟩ := T.ex
  exact ⟨f, fd, fnD_ok F S hps hn (hb f), hm, F.kp, b⟩
theorem calN (T : Tx K mg x st ps) (S : FnScope N ps (defScope st)) (hps : ps.length = n) (hn : ps.length ≤ N.length) (hb : BodyOk P w K mg base ct N x st k body) : Cal P w K mg base x ps (k + 1) (spN K ct n (fnN N.length body)) := by
  obtain ⟨f, fd, F, hm, b⟩ := T.ex
  exact ⟨f, fd, fnN_ok F S hps hn (hb f), hm, F.kp, b⟩
theorem calS (T : Tx K mg x st ps) (S : FnScope N ps (defScope st)) (hps : ps.length = n + 1) (hn : ps.length ≤ N.length) (hb : BodyOk P w K mg base ct N x st k body) : Cal P w K mg base x ps (k + 1) (spS K n (fnS N.length body)) := by
  obtain ⟨f, fd, F, hm, b⟩ := T.ex
  exact ⟨f, fd, fnS_ok F S hps hn (hb f), hm, F.kp, b⟩
theorem cal_bad (T : Tx K mg x st ps) {sp : Sp} (h : ∀ vs H Q E, ¬ sp vs H Q E) : Cal P w K mg base x ps k sp := by
  obtain ⟨f, fd, F, hm, b⟩ := T.ex
  exact ⟨f, fd, fn_bad h, hm, F.kp, b⟩
theorem spD_bad {n : Nat} : ∀ vs H Q E, ¬ spD K ct n (fun _ => .bad) vs H Q E := fun vs H Q E ⟨ds, G, _, _, _, h⟩ => h
theorem Cal.imp {sp sp' : Sp} (c : Cal P w K mg base x ps k sp) (h : ∀ vs H Q E, sp' vs H Q E → sp vs H Q E) : Cal P w K mg base x ps k sp' := by
  obtain ⟨f, fd, F, a⟩ := c.ex
  exact ⟨f, fd, F.imp h, a⟩
end
section
variable {ct : Nat → Addr} {W : WX} {X : Cx} {e a b : Expr} {es : List Expr} {ms : M (List D)} {ma mb : M D} {p pos : Pos} {x : Str} {ps : List Str} {k j n i : Nat} {Fd : List D → R D} {Fn : List D → R (List D)} {Fs : List D → List D → R (D × List D)}
theorem ve_callC (c : Cal X.prog X.w X.K X.mg X.base x ps k (spD X.K ct n Fd)) (hr : Room j X.A) (hkj : k ≤ j) (tk : Takes X W) (hg : Gl X x) (ha : VA ct W X (e :: es) ms)
    (hdb : (x == ("__debug__" : Str)) = false := by decide) (he : starEach (e :: es) X.env = (false, eval e X.env) :: starEach es X.env := by rfl) (hpl : (backTo pos (starEach es X.env)).any (·.1) = false := by rfl) :
    VE ct W X (.Call (.Name x p) (e :: es) [] pos) (mCall n Fd ms) := by
  obtain ⟨f, fd, F, hm, hk, hb⟩ := c.ex
  exact ve_call F (hr.mono hkj) tk hg hm hk hb ha hdb he hpl
theorem vn_callC (c : Cal X.prog X.w X.K X.mg X.base x ps k (spN X.K ct n Fn)) (hr : Room j X.A) (hkj : k ≤ j) (tk : Takes X W) (hg : Gl X x) (ha : VA ct W X (e :: es) ms)
    (hdb : (x == ("__debug__" : Str)) = false := by decide) (he : starEach (e :: es) X.env = (false, eval e X.env) :: starEach es X.env := by rfl) (hpl : (backTo pos (starEach es X.env)).any (·.1) = false := by rfl) :
    VN ct W X (.Call (.Name x p) (e :: es) [] pos) (mCallN n Fn ms) := by
  obtain ⟨f, fd, F, hm, hk, hb⟩ := c.ex
  exact vn_call F (hr.mono hkj) tk hg hm hk hb ha hdb he hpl
theorem ve_callSC (c : Cal X.prog X.w X.K X.mg X.base x ps k (spS X.K n Fs)) (hr : Room j X.A) (hkj : k ≤ j) (tk : Takes X W) (hg : Gl X x) (ho : PE X e (tVar i)) (ha : VA ct W X es ms)
    (hdb : (x == ("__debug__" : Str)) = false := by decide) (he : starEach (e :: es) X.env = (false, eval e X.env) :: starEach es X.env := by rfl) (hpl : (backTo pos (starEach es X.env)).any (·.1) = false := by rfl) :
    VE ct W X (.Call (.Name x p) (e :: es) [] pos) (mCallS n i Fs ms) := by
  obtain ⟨f, fd, F, hm, hk, hb⟩ := c.ex
  exact ve_callS F (hr.mono hkj) tk hg hm hk hb ho ha hdb he hpl
def GcI (mg : Str → Option Value) (x : Str) (n : Int) : Prop := ∃ t, mg x = some (.int n t)
theorem ve_gi {z : Int} (h : GcI X.mg x z) (hg : Gl X x) (hd : (x == ("__debug__" : Str)) = false := by decide) : VE ct W X (.Name x p) (mC (.int z)) := by
  obtain ⟨t, h⟩ := h
  exact ve_c (v := .int z) (pe_glob (v := .int z) hg h ⟨t, rfl⟩ hd) (.int z)
def gSl : D → Option Int → Option Int → R D
  | .tuple ds, lo, hi => .ok (.tuple (cutD ds lo hi))
  | .list ds, lo, hi => .ok (.list (cutD ds lo hi))
  | .str x, lo, hi => if szOk x.length then .ok (.str (cutS x lo hi)) else .bad
  | _, _, _ => .bad
def mSl (ma : M D) (ml mh : MO) : M D := M.bind ma fun d => M.bind ml fun lo => M.bind mh fun hi => M.only (gSl d lo hi)
theorem ve_sl {p2 : Pos} {lo hi : Option Expr} {ml mh : MO} (ha : VE ct W X a ma) (hl : VO ct W X lo ml) (hh : VO ct W X hi mh) : VE ct W X (.Subscript a (.Slice lo hi none p2) pos) (mSl ma ml mh) :=
  PE.conv (pe_slice (sl_tupN.or (sl_list.or sl_str)) ha hl hh) fun σ H Q h => tG.step h fun d δ1 x G1 H1 r1 p1 h1 => ⟨δ1, G1, r1, TW.step r1 h1 fun l δ2 y G2 H2 _ x2 r2 p2 h2 => ⟨δ2, G2, r2, TW.step r2 h2 fun u δ3 z G3 H3 _ x3 r3 p3 h3 => by
    obtain rfl : y = l := p2
    obtain rfl : z = u := p3
    obtain ⟨w, ez, h4⟩ := Post.only h3
    unfold gSl at ez
    have p1' := Rp.mono (x2.same.trans x3.same) p1
    split at ez
    · cases ez
      rename_i ds _ _
      obtain ⟨b, xs, e1, k1, k2, k3⟩ := Rp.ofTup p1'
      subst e1
      have hlen := RpAll.length k3
      refine .inl ⟨b, xs, rfl, Same.sqt r3.same k1, fun hw => ?_, fun _ q ob hq hd => ?_⟩
      · rw [hlen] at hw
        rw [cut_whole hw] at h4
        exact Post.done h4 r3 (Grow.refl r3) p1'
      · exact Post.done h4 r3 (Grow.laid r3.same r3.nt hq nt_frz) (.tup ⟨ob, upd_same, hd⟩ (Nat.le_trans (cutD_length _ _ _) k2) (RpAll.mono (same_upd (Same.free r3.same hq)) (cut_rp k3)))
    · cases ez
      obtain ⟨b, xs, e1, k1, k2, k3⟩ := Rp.ofLst p1'
      subst e1
      exact .inr (.inl ⟨b, xs, rfl, SqL.of (r3.same _ _ k1), fun q hq => Post.done h4 r3 (Grow.laid r3.same r3.nt hq nt_lst) (.lst upd_same (Nat.le_trans (cutD_length _ _ _) k2) (RpAll.mono (same_upd (Same.free r3.same hq)) (cut_rp k3)))⟩)
    · split at ez
      · rename_i hz
        cases ez
        exact .inr (.inr ⟨_, Rp.ofStr p1', szOk_le hz, Post.done h4 r3 (Grow.refl r3) (.str _)⟩)
      · cases ez
    · cases ez⟩⟩
end
def scrD (ns : List Int) : D := .dict [(.none, .list (ns.map .int))]
theorem ints_rp {K : PySem.W.Frag} {G : Hp} : ∀ ns : List Int, RpAll K G (ns.map V.int) (ns.map .int)
  | [] => .nil
  | n :: ns => .cons (.int n) (ints_rp ns)
theorem end_sp {K : PySem.W.Frag} {ct : Nat → Addr} {F : List D → R D} {H : Hp} {a : Addr} {ns : List Int} (hT : LamX.Tabs (lamT K) H) (hS : SqL K H a (ns.map V.int)) (hl : ns.length ≤ 63) (h : F [scrD ns] = .ok (.bool true)) :
    spD K ct 1 F [.ref a] H (fun v _ => v = .bl true) fun _ _ _ => False := by
  have go : ∀ G : Hp, Same G H → (∀ b o, G b = some o → NT o) → SqL K G a (ns.map V.int) → spD K ct 1 F [.ref a] H (fun v _ => v = .bl true) fun _ _ _ => False := fun G s n q => by
    refine ⟨[scrD ns], G, rfl, ⟨s, n, hT⟩, .cons (.scr q (by rw [List.length_map, sizeLine_eq]; omega) (ints_rp ns)) .nil, ?_⟩
    rw [h]
    exact fun v G' H' _ _ rp => Rp.ofBl rp
  have one : ∀ o : HO, H a = some o → NT o → Same (upd (fun _ => none) a o) H ∧ ∀ b u, (upd (fun _ => none) a o : Hp) b = some u → NT u := by
    intro o e n
    refine ⟨fun b u q => ?_, fun b u q => ?_⟩
    · by_cases z : b = a
      · subst z; rw [upd_same] at q; cases q; exact e
      · rw [upd_ne z] at q; cases q
    · by_cases z : b = a
      · subst z; rw [upd_same] at q; cases q; exact n
      · rw [upd_ne z] at q; cases q
  rcases hS with (e | ⟨o, e⟩) | e
  · obtain ⟨s, n⟩ := one _ e nt_lst
    exact go _ s n (.inl (.inl upd_same))
  · obtain ⟨s, n⟩ := one _ e fun ps q => nomatch q
    exact go _ s n (.inl (.inr ⟨o, upd_same⟩))
  · exact go (fun _ => none) (fun _ _ q => nomatch q) (fun _ _ q => nomatch q) (.inr e)
end TW
set_option Elab.async false
set_option linter.all false
set_option maxRecDepth 100000
namespace TW
open PySem PySem.Spec PyProof.Rows L2
end TW
set_option Elab.async false
set_option linter.all false
set_option maxRecDepth 100000
namespace TW
open PySem PySem.Spec PyProof.Rows L2
section
variable {P : Program} {w : World} {A : Around} {E : Value → Shared → Prop} {s : Shared}
abbrev emptySet (w : World) : Obj := { cls := .type "set", dict := none, data := .set #[] 0 (.fresh 0 0 (!w.params.followText "set-order")) }
set_option maxHeartbeats 3200000 in
theorem set_of_tuple {l : Addr} {items : Array Value} (ks : List (Addr × List Int)) {Q : Value → Shared → Prop} (free : A.handled = none) (hl : s.heap.IsTuple l items) (hit : items.toList = ks.map fun p => Value.ref p.1)
    (hk : ∀ p ∈ ks, IsT P w s.heap p.2 p.1) (few : ks.length < 64) (room : A.units + 3 < cLine)
    (fin : ∀ (h' : Heap) (tk : Nat) L es ep t, SetTR P w h' s.heap.objs.size L es ep t → Got ks ks.length L → (∀ b o, s.heap.get? b = some o → h'.get? b = some o) → Q (.ref s.heap.objs.size) { s with heap := h', toks := tk }) :
    wpAny (model P w) A (call (.type "set") [.ref l]) Q E s := by
  have size : items.size = ks.length := by rw [← Array.length_toList, hit, List.length_map]
  obtain ⟨c, tl, hmro⟩ := PySem.F.called_set.mro
  have hmade := PySem.F.called_set.made
  have hsub := PySem.F.called_set.sub
  refine wpAny_call (codeAny_of_tree (show wpAny _ _ (callAny (.type "set") _) _ _ _ from ?_))
  refine wpAny_pure ⟨Code.quiet_builtin _ (by decide +kernel), codeAny_builtin PySem.F.entry_type_call ?_⟩
  rw [Around.under_plain (weight_type_call_type "set" [.ref l] []) rfl]
  have h1 := PySem.F.called_set.notType
  have h2 := PySem.F.called_set.canCreate
  have hct := PySem.F.typeCall_set_1 (.ref l)
  repeat (any_goals (first | assumption | wp_step))
  refine codeAny_mono (code_set_led1 (.ref l) (E := E) (Q₁ := fun obj s₁ => obj = .ref s.heap.objs.size ∧ s₁ = { s with heap := s.heap.push (emptySet w) }) ⟨rfl, rfl⟩) fun r s₁ hr => ?_
  rcases r with e | fl
  · exact hr
  cases fl with
  | ret obj =>
    obtain ⟨rfl, rfl⟩ := hr
    have there : (s.heap.push (emptySet w)).get? s.heap.objs.size = some (emptySet w) := Heap.get?_push_size _ rfl
    have isSet : Shared.TypeIs { s with heap := s.heap.push (emptySet w) } (.ref s.heap.objs.size) "set" := ⟨_, there, rfl⟩
    have hli := PySem.F.called_set.init.lookup
    have hbi := PySem.F.called_set.init.bind (.ref s.heap.objs.size)
    repeat (any_goals (first | assumption | wp_step))
    refine codeAny_mono (codeAny_call_builtin (R := wants (fun r s₂ => r = .none ∧ ∃ h' tk L es ep t, s₂ = { s with heap := h', toks := tk } ∧ SetTR P w h' s.heap.objs.size L es ep t ∧ Got ks ks.length L ∧
        (∀ b o, s.heap.get? b = some o → h'.get? b = some o)) E) PySem.F.called_set.init.plain PySem.F.entry_set_init (check_set_init_1 isSet ?_)) fun r₂ s₂ hr₂ => ?_
    · obtain ⟨⟨ocls, odict, odata, oslots⟩, hol, hcl, nl, hdl⟩ := hl
      simp only at hcl hdl
      subst hcl; subst hdl
      have hol' : (s.heap.push (emptySet w)).get? l = some { cls := .type "tuple", dict := odict, data := .seq items nl, slots := oslots } := Heap.get?_push_of_some _ hol
      have hsls := PySem.F.sub_tuple_set
      have hslf := PySem.F.sub_tuple_frozenset
      have hne : (Value.type "tuple" == Value.type "dict") = false := by decide
      have asTup : (s.heap.push (emptySet w)).IsTuple l items := ⟨_, hol', rfl, nl, rfl⟩
      unfold Builtin.«set.__init__» noKeywords Builtin.Frozenset.updateFrom
      generalize hPI : pyIter = PI
      wp_walk
      subst hPI
      refine wpAny_pyIter_tuple asTup (wpAny_bind (wpAny_runValue ?_))
      have below : l < s.heap.objs.size := Heap.lt_size hol
      have free3 : A.in1.in1.in1.handled = none := by simp [free]
      have grown : (s.heap.push (emptySet w)).objs.size = s.heap.objs.size + 1 := Heap.size_push ..
      have apart : l ≠ (s.heap.push (emptySet w)).objs.size := by rw [grown]; exact Nat.ne_of_lt (Nat.lt_succ_of_lt below)
      have off : s.heap.objs.size ∉ [(s.heap.push (emptySet w)).objs.size, l] := by
        rw [grown]
        intro z
        rcases List.mem_cons.mp z with z | z
        · exact absurd z (Nat.ne_of_lt (Nat.lt_succ_self _))
        · exact absurd (List.mem_singleton.mp z) (Nat.ne_of_gt below)
      have at_ : ∀ (i : Nat) (v : Value), items[i]? = some v → ∃ p, ks[i]? = some p ∧ v = .ref p.1 := fun i v hv => by
        have q : items.toList[i]? = some v := by rw [Array.getElem?_toList]; exact hv
        rw [hit, List.getElem?_map] at q
        cases hq : ks[i]? with
        | none => rw [hq] at q; cases q
        | some p => rw [hq] at q; exact ⟨p, rfl, (Option.some.inj q).symm⟩
      have none_of : ∀ b, s.heap.objs.size ≤ b → s.heap.get? b = none := fun b hb => by
        cases q : s.heap.get? b with
        | none => rfl
        | some o => exact absurd (Heap.lt_size q) (Nat.not_lt.mpr hb)
      refine set_update_tups ((Walks.tuple free3 _ l apart items).toS) s.heap.objs.size off ks size few at_ s.heap hk (none_of _ (Nat.le_refl _))
        (fun b hb => none_of b (by rw [List.mem_singleton.mp hb, grown]; exact Nat.le_succ _)) room (items.size - 0) 0 _ (by omega) (Nat.zero_le _)
        ⟨⟨_, Heap.get?_push_size _ rfl, rfl, rfl⟩, (asTup.push _)⟩ (fun b o e => Heap.get?_push_of_some _ (Heap.get?_push_of_some _ e)) ⟨[], #[], 0, _, setTR_fresh (Heap.get?_push_of_some _ there), Got.zero ks⟩ ?_
      rintro ⟨h', g2, d', tk', os'⟩ L es ep t hm hS' g' hkp
      have eg : g2 = s.gens := hm.gens
      have ed : d' = s.drawn := hm.drawn
      have eo : os' = s.os := hm.os
      subst eg; subst ed; subst eo
      rw [size] at g'
      exact wpAny_pure (show wpAny _ _ (ret Value.none) _ _ _ from wpAny_pure ⟨rfl, h', tk', L, es, ep, t, rfl, hS', g', hkp⟩)
    · rcases r₂ with e | fl₂
      · exact hr₂
      cases fl₂ with
      | ret r =>
        obtain ⟨rfl, h', tk, L, es, ep, t, rfl, hS', g', hk'⟩ := hr₂
        repeat (any_goals (first | assumption | wp_step))
        exact fin _ _ _ _ _ _ hS' g' hk'
      | _ => exact hr₂.elim
  | _ => exact hr.elim
end
def rSetAny (K : PySem.W.Frag) (P : Program) (w : World) : List V → Hp → VK → Prop := fun xs H Q => ∃ (l : Addr) (ks : List (Addr × List Int)), xs = [V.ref l] ∧ (SqL K H l (ks.map fun p => V.ref p.1) ∨ SqT K H l (ks.map fun p => V.ref p.1)) ∧ (∀ p ∈ ks, SqT K H p.1 (p.2.map V.int)) ∧ ks.length < 64 ∧
  ∀ a L, H a = none → (∀ p ∈ L, p ∈ ks) → (∀ p ∈ ks, p.2 ∈ L.map (·.2)) → Q (.ref a) (upd H a (SetTO P w a L))
theorem cr_setAny {X : Cx} (hc : X.calm = true) (hu : X.A.units + 64 < cLine) : CallR X (.type "set") (rSetAny X.K X.prog X.w) := by
  intro pins s σ H xs us Q I r h
  obtain ⟨l, ks, e, hl | hl, hk, few, q⟩ := h
  · exact cr_setOfT hc hu pins s σ H xs us Q I r ⟨l, ks, e, hl, hk, few, q⟩
  · subst e
    rw [Vals.ref1 r]
    obtain ⟨its, rv, pl, hz⟩ := I.tuple hl
    refine set_of_tuple (P := X.prog) (w := X.w) ks (I.ok.hd hc) pl (by simpa using refs_of_vals rv) (fun p hp => I.isT (hk p hp)) few (by omega) fun h' tk L es ep t R g k => ?_
    refine ⟨.ref s.heap.objs.size, _, I.laid (t' := tk) k (Nat.le_refl _) (setTO_new R.t0), rfl, q _ L (I.hok.fresh (Nat.le_refl _)) (fun p hp => List.mem_of_mem_take (g.sub p hp)) fun p hp => g.all p ?_⟩
    rw [List.take_length]
    exact hp
end TW
set_option Elab.async false
set_option linter.all false
set_option maxRecDepth 100000
namespace TW
open PySem PySem.Spec PyProof.Rows L2
def tupD (ns : List Int) : D := .tuple (ns.map .int)
theorem keyToks_ints (a b : List Int) : PySem.W.keyToksAll (a.map .int) = PySem.W.keyToksAll (b.map .int) → a = b := by
  induction a generalizing b with
  | nil =>
    cases b with
    | nil => intro _; rfl
    | cons y b => intro h; simp [PySem.W.keyToksAll] at h
  | cons x a ih =>
    cases b with
    | nil => intro h; simp [PySem.W.keyToksAll] at h
    | cons y b =>
      intro h
      simp [PySem.W.keyToksAll, PySem.W.keyToks] at h
      rw [h.1, ih b h.2]
theorem sortD_pw (ds : List D) : (sortD ds).Pairwise fun x y => PySem.W.dataLe false id x y = true := by
  have t := PySem.W.sortLe_total (PyProof.Rows.listOrd PyProof.Rows.itemOrd) false (fun b : D => PySem.W.keyToks b)
  exact List.pairwise_mergeSort (fun a b c h1 h2 => t.trans a b c h1 h2) (fun a b => by
    rcases t.total a b with h | h
    · exact Bool.or_eq_true_iff.mpr (.inl h)
    · exact Bool.or_eq_true_iff.mpr (.inr h)) ds
theorem sortD_perm (ds : List D) : (sortD ds).Perm ds := List.mergeSort_perm ds _
theorem dataLe_anti {x y : D} (h1 : PySem.W.dataLe false id x y = true) (h2 : PySem.W.dataLe false id y x = true) : PySem.W.keyToks x = PySem.W.keyToks y := by
  unfold PySem.W.dataLe PySem.W.sortLe at h1 h2
  simp only [cond_false, Bool.not_eq_true', id] at h1 h2
  exact (PyProof.Rows.listOrd PyProof.Rows.itemOrd).total _ _ h2 h1
theorem sortD_unique {ds es : List D} (p : ds.Perm es) (inj : ∀ x ∈ ds, ∀ y ∈ ds, PySem.W.keyToks x = PySem.W.keyToks y → x = y) : sortD ds = sortD es := by
  refine List.Perm.eq_of_pairwise (fun a b ha hb h1 h2 => inj a ((sortD_perm ds).mem_iff.mp ha) b (p.mem_iff.mpr ((sortD_perm es).mem_iff.mp hb)) (dataLe_anti h1 h2)) (sortD_pw ds) (sortD_pw es) ((sortD_perm ds).trans (p.trans (sortD_perm es).symm))
theorem tups_unique {ks ls : List (List Int)} (p : ks.Perm ls) : sortD (ks.map tupD) = sortD (ls.map tupD) := by
  refine sortD_unique (p.map _) fun x hx y hy e => ?_
  obtain ⟨a, _, rfl⟩ := List.mem_map.mp hx
  obtain ⟨b, _, rfl⟩ := List.mem_map.mp hy
  simp only [tupD, PySem.W.keyToks] at e
  rw [keyToks_ints a b e]
def uniqL : List (List Int) → List (List Int)
  | [] => []
  | x :: xs => if x ∈ uniqL xs then uniqL xs else x :: uniqL xs
theorem uniqL_mem {x : List Int} : ∀ {xs : List (List Int)}, x ∈ uniqL xs ↔ x ∈ xs
  | [] => by simp [uniqL]
  | y :: xs => by
    unfold uniqL
    split
    · rename_i h
      rw [uniqL_mem (xs := xs), List.mem_cons]
      refine ⟨.inr, fun z => ?_⟩
      rcases z with z | z
      · subst z; exact uniqL_mem.mp h
      · exact z
    · rw [List.mem_cons, List.mem_cons, uniqL_mem (xs := xs)]
theorem uniqL_nodup : ∀ xs : List (List Int), (uniqL xs).Nodup
  | [] => List.nodup_nil
  | y :: xs => by
    unfold uniqL
    split
    · exact uniqL_nodup xs
    · rename_i h
      exact List.nodup_cons.mpr ⟨h, uniqL_nodup xs⟩
theorem uniqL_len : ∀ xs : List (List Int), (uniqL xs).length ≤ xs.length
  | [] => Nat.le_refl _
  | y :: xs => by
    have := uniqL_len xs
    unfold uniqL
    split
    · rw [List.length_cons]; omega
    · rw [List.length_cons, List.length_cons]; omega
theorem uniqL_perm {ks ls : List (List Int)} (n : ls.Nodup) (h1 : ∀ x ∈ ls, x ∈ ks) (h2 : ∀ x ∈ ks, x ∈ ls) : ls.Perm (uniqL ks) :=
  (List.perm_ext_iff_of_nodup n (uniqL_nodup ks)).mpr fun x => ⟨fun h => uniqL_mem.mpr (h1 x h), fun h => h2 x (uniqL_mem.mp h)⟩
theorem alike_ints : ∀ a b : List Int, PySem.W.alikeAll (a.map .int) (b.map .int) = true
  | [], _ => by simp [PySem.W.alikeAll]
  | _ :: _, [] => by simp [PySem.W.alikeAll]
  | x :: a, y :: b => by simp [PySem.W.alikeAll, PySem.W.alike, alike_ints a b]
theorem depth_ints (a : List Int) : (tupD a).depth ≤ 8 := by
  have : ∀ a : List Int, PyData.depthAll (a.map .int) ≤ 6 := fun a => by
    induction a with
    | nil => simp [PyData.depthAll]
    | cons x a ih => simp [PyData.depthAll, PyData.depth]; omega
  have := this a
  simp [tupD, PyData.depth]
  omega
theorem perm_map_pick {α β : Type} {f : α → β} : ∀ {vs : List β} {ws : List α}, vs.Perm (ws.map f) → ∃ us : List α, us.Perm ws ∧ vs = us.map f
  | [], ws, p => by
    have := p.length_eq
    rw [List.length_map] at this
    have e : ws = [] := List.eq_nil_of_length_eq_zero this.symm
    subst e
    exact ⟨[], List.Perm.refl _, rfl⟩
  | v :: vs, ws, p => by
    obtain ⟨x, hx, e⟩ := List.mem_map.mp (p.mem_iff.mp List.mem_cons_self)
    subst e
    obtain ⟨a, b, rfl⟩ := List.append_of_mem hx
    have q : (a ++ x :: b).Perm (x :: (a ++ b)) := List.perm_middle
    obtain ⟨us, h1, h2⟩ := perm_map_pick (vs := vs) (ws := a ++ b) ((List.perm_cons (f x)).mp (p.trans (q.map f)))
    exact ⟨x :: us, (h1.cons x).trans q.symm, by rw [h2]; rfl⟩
theorem each_maps : ∀ (L M : List (Addr × List Int)), (∀ q ∈ M, q ∈ L) → PySem.W.EachIs (fun v b => ∃ q ∈ L, v = Value.ref q.1 ∧ b = tupD q.2) (M.map fun q => Value.ref q.1) (M.map fun q => tupD q.2)
  | _, [], _ => .nil
  | L, q :: M, h => .cons ⟨q, h q List.mem_cons_self, rfl, rfl⟩ (each_maps L M fun r hr => h r (List.mem_cons_of_mem _ hr))
section
variable {P : Program} {w : World} {A : Around} {E : Value → Shared → Prop} {s : Shared}
theorem sorted_setD {a : Addr} {L : List (Addr × List Int)} {es : Array (Int × Value)} {ep : Nat} {t : SetTable} {Q : Value → Shared → Prop} (R : SetTR P w s.heap a L es ep t) (free : A.handled = none) (room : A.units + 64 < cLine)
    (full : ∀ p ∈ L, p.2 ≠ [])
    (hQ : ∀ s' p (out : Array Value) (c : Nat) (ks : List (List Int)), (∀ b o, s.heap.get? b = some o → s'.heap.get? b = some o) → s'.gens = s.gens → s'.os = s.os → s.heap.objs.size ≤ p →
      s'.heap.get? p = some (seqObj "list" out c) → ks.Perm (L.map (·.2)) → PySem.W.EachIs (fun v b => ∃ q ∈ L, v = Value.ref q.1 ∧ b = tupD q.2) out.toList (sortD (ks.map tupD)) → Q (.ref p) s') :
    wpAny (model P w) A (call (.builtin "sorted") [.ref a]) Q E s := by
  obtain ⟨o, ho, hex, hd⟩ := R.ob
  have few := R.few
  have size := R.size
  refine Calls.call_function_entry kind_sorted plain_sorted entry_sorted (args_sorted1 _) ?_
  unfold Builtin.«sorted»
  refine wpAny_bind (m := checkCount "sorted" 1 1 _) (wpAny_pure ?_)
  refine wpAny_bind (collect_set (A := A.in1) free ⟨o, ho, hex.1, hd⟩ R.fits (by unfold scanBound; omega) R.tab.ris R.led fun s1 vs k1 hz g1 o1 pm => ?_)
  have items : es.toList.map (·.2) = L.map fun q => Value.ref q.1 := by rw [R.rows]; unfold rowsOf; rw [List.map_map] <;> rfl
  rw [items] at pm
  obtain ⟨L1, p1, e1⟩ := perm_map_pick pm
  subst e1
  have len : (L1.map fun q => Value.ref q.1).length < 64 := by rw [List.length_map, p1.length_eq]; exact few
  refine wpAny_bind (wpAny_newList ?_ (by rw [sizeLine_eq]; omega))
  have made : (s1.heap.push (seqObj "list" (L1.map fun q => Value.ref q.1).toArray 0)).get? s1.heap.objs.size = some (seqObj "list" (L1.map fun q => Value.ref q.1).toArray 0) := Heap.get?_push_size _ rfl
  have each : PySem.W.EachIs (fun v b => ∃ q ∈ L1, v = Value.ref q.1 ∧ b = tupD q.2) (L1.map fun q => Value.ref q.1) (L1.map fun q => tupD q.2) := each_maps L1 L1 fun _ h => h
  have mem : ∀ q ∈ L1, q ∈ L := fun q h => p1.mem_iff.mp h
  have reads : PySem.W.EachIs (fun v b => ∃ as, Reads (s1.heap.push (seqObj "list" (L1.map fun q => Value.ref q.1).toArray 0)) v (id b) as ∧ s1.heap.objs.size ∉ as) (L1.map fun q => Value.ref q.1) (L1.map fun q => tupD q.2) := each.mono fun v b ⟨q, hq, e1, e2⟩ => ⟨[], by
    subst e1 e2
    obtain ⟨T, vr, z1, z2, z3⟩ : TS.TupInts (s1.heap.push (seqObj "list" (L1.map fun q => Value.ref q.1).toArray 0)) (.ref q.1) q.2 := tupInts_of (P := P) (w := w) (isT_keep (R.tup q (mem q hq)) fun b u e => Heap.get?_push_of_some _ (k1 b u e))
    cases z1
    exact PyProof.Rows.reads_tuple_ints (vr := vr.toList) (by rw [Array.toArray_toList]; exact z2) z3, fun h => nomatch h⟩
  have al : PySem.W.AllAlike ((L1.map fun q => tupD q.2).map id) := by
    rw [List.map_id]
    intro x hx y hy
    obtain ⟨a, _, rfl⟩ := List.mem_map.mp hx
    obtain ⟨b, _, rfl⟩ := List.mem_map.mp hy
    simp only [tupD, PySem.W.alike]
    exact alike_ints _ _
  have so : PySem.W.Sortable ((L1.map fun q => tupD q.2).map id) := by
    rw [List.map_id]
    refine .inl fun x hx => ?_
    obtain ⟨q, hq, rfl⟩ := List.mem_map.mp hx
    cases e : q.2 with
    | nil => exact absurd e (full q (mem q hq))
    | cons i is => exact ⟨.int i, is.map .int, by simp only [tupD, List.map_cons]⟩
  have un : ∀ b ∈ L1.map (fun q => tupD q.2), A.in1.units + 1 + (id b : D).depth < cLine := fun b hb => by
    obtain ⟨q, hq, rfl⟩ := List.mem_map.mp hb
    have := depth_ints q.2
    have : A.in1.units ≤ A.units + 1 := by first | exact Nat.le_refl _ | (simp [Around.in1]; done) | omega
    show A.in1.units + 1 + (tupD q.2).depth < cLine
    omega
  have fit : (L1.map fun q => tupD q.2).length ≤ sizeLine := by
    rw [List.length_map] at len ⊢
    rw [sizeLine_eq]
    omega
  refine wpAny_bind (wpAny_holding (PySem.W.list_sort_data (enc := id) (R := fun v b => ∃ q ∈ L1, v = Value.ref q.1 ∧ b = tupD q.2) (s := { s1 with heap := s1.heap.push (seqObj "list" (L1.map fun q => Value.ref q.1).toArray 0) }) made each reads al so fit un fun out ho2 eo => ?_))
  obtain ⟨c, hc⟩ := sortedHeap_at (vs := L1.map fun q => Value.ref q.1) (out := out.toArray) made
  refine wpAny_pure ⟨_, rfl, hQ _ s1.heap.objs.size out.toArray c (L1.map (·.2)) (fun b u e => ?_) g1 o1 hz hc (p1.map _) ?_⟩
  · have q := k1 b u e
    have hlt := Heap.lt_size q
    show (sortedHeap (s1.heap.push (seqObj "list" (L1.map fun q => Value.ref q.1).toArray 0)) s1.heap.objs.size (L1.map fun q => Value.ref q.1) out.toArray).get? b = some u
    rw [sortedHeap_old (Nat.ne_of_lt hlt) (by rw [size_push']; exact Nat.lt_succ_of_lt hlt)]
    exact Heap.get?_push_of_some _ q
  · rw [List.map_map]
    exact eo.mono fun v b ⟨q, hq, z⟩ => ⟨q, mem q hq, z⟩
end
end TW
set_option Elab.async false
set_option linter.all false
set_option maxRecDepth 100000
namespace TW
open PySem PySem.Spec PyProof.Rows L2
theorem each_ref {L : List (Addr × List Int)} : ∀ {us : List Value} {bs : List D}, PySem.W.EachIs (fun v b => ∃ q ∈ L, v = Value.ref q.1 ∧ b = tupD q.2) us bs →
    ∃ ys, Vals ys us ∧ PySem.W.EachIs (fun x b => ∃ q ∈ L, x = V.ref q.1 ∧ b = tupD q.2) ys bs
  | _, _, .nil => ⟨[], .nil, .nil⟩
  | _, _, .cons ⟨q, hq, e1, e2⟩ t => by
    obtain ⟨ys, a, b⟩ := each_ref t
    subst e1
    exact ⟨.ref q.1 :: ys, .cons rfl a, .cons ⟨q, hq, rfl, e2⟩ b⟩
theorem cr_sortSet {X : Cx} (hc : X.calm = true) (hu : X.A.units + 64 < cLine) : CallR X (.builtin "sorted") (fun vs H Q => ∃ (a : Addr) (L : List (Addr × List Int)), vs = [V.ref a] ∧ H a = some (SetTO X.prog X.w a L) ∧ (∀ p ∈ L, SqT X.K H p.1 (p.2.map V.int)) ∧ (∀ p ∈ L, p.2 ≠ []) ∧
    ∀ (p : Addr) (ks : List (List Int)) (ys : List V), H p = none → (L.map (·.2)).Nodup → ks.Perm (L.map (·.2)) → ks.length < 64 → PySem.W.EachIs (fun x b => ∃ q ∈ L, x = V.ref q.1 ∧ b = tupD q.2) ys (sortD (ks.map tupD)) → Q (.ref p) (upd H p (.lst ys))) := by
  intro pins s σ H vs us Q I r h
  obtain ⟨a, L, rfl, ha, hk, full, q⟩ := h
  have R0 : SetT0 X.prog X.w s.heap a L := (I.hok a _ ha).1
  obtain ⟨es, ep, t, R⟩ := R0.full fun p hp => I.isT (hk p hp)
  rw [Vals.ref1 r]
  refine sorted_setD R (I.ok.hd hc) hu full fun s' p out c ks k g o hp hg pm eo => ?_
  have few : ks.length < 64 := by rw [pm.length_eq, List.length_map]; exact R.few
  obtain ⟨ys, hv, he⟩ := each_ref eo
  have len : ys.length ≤ sizeLine := by
    have := he.length
    have e := List.length_mergeSort (le := PySem.W.dataLe false id) (ks.map tupD)
    unfold sortD at this
    rw [e, List.length_map] at this
    rw [sizeLine_eq]
    omega
  have hn : H p = none := I.hok.fresh hp
  have J : Inv X pins σ (upd H p (.lst ys)) { s with heap := s'.heap, gens := s'.gens, drawn := s'.drawn, toks := s'.toks } :=
    I.call (ch := []) (Un.laid k hp hn) (I.hok.laid k hp ⟨len, out.toList, c, hv, by rw [Array.toArray_toList]; exact hg⟩) (by rw [g]; exact I.bare) (fun _ z => nomatch z)
  have e : s' = { s with heap := s'.heap, gens := s'.gens, drawn := s'.drawn, toks := s'.toks } := by
    cases s'
    cases s
    cases o
    rfl
  rw [e]
  exact ⟨.ref p, _, J, rfl, q p ks ys hn R.nd pm few he⟩
def rowD : List D → Option (List Int)
  | [] => some []
  | .int i :: ds => (rowD ds).map (i :: ·)
  | _ :: _ => none
def keysD : List D → Option (List (List Int))
  | [] => some []
  | .tuple (.int i :: xs) :: ds => match rowD xs, keysD ds with
    | some is, some ks => some ((i :: is) :: ks)
    | _, _ => none
  | _ :: _ => none
theorem rowD_eq : ∀ {ds : List D} {is : List Int}, rowD ds = some is → ds = is.map .int
  | [], is, e => by cases e; rfl
  | d :: ds, is, e => by
    cases d <;> first
      | (simp [rowD] at e; done)
      | skip
    rename_i i
    simp only [rowD] at e
    cases e2 : rowD ds with
    | none => rw [e2] at e; cases e
    | some js => rw [e2] at e; cases e; rw [rowD_eq e2]; rfl
theorem keysD_eq : ∀ {ds : List D} {ks : List (List Int)}, keysD ds = some ks → ds = ks.map tupD ∧ ∀ k ∈ ks, k ≠ []
  | [], ks, e => by cases e; exact ⟨rfl, fun _ h => nomatch h⟩
  | d :: ds, ks, e => by
    unfold keysD at e
    split at e
    · rename_i q; cases q
    · rename_i i xs ds' q
      cases q
      split at e
      · rename_i is ks' e1 e2
        cases e
        obtain ⟨h1, h2⟩ := keysD_eq e2
        refine ⟨by rw [h1, rowD_eq e1]; rfl, fun k hk => ?_⟩
        rcases List.mem_cons.mp hk with z | z
        · subst z; exact List.cons_ne_nil _ _
        · exact h2 k z
      · cases e
    · cases e
section
variable {K : PySem.W.Frag}
theorem row_rp {G : Hp} : ∀ {vs : List V} {is : List Int}, RpAll K G vs (is.map .int) → vs = is.map V.int
  | _, [], .nil => rfl
  | _, _ :: _, .cons h t => by rw [h.ofInt, row_rp t]; rfl
theorem keys_rp {G : Hp} : ∀ {vs : List V} {ks : List (List Int)}, RpAll K G vs (ks.map tupD) → ∃ ps : List (Addr × List Int), vs = ps.map (fun p => V.ref p.1) ∧ ps.map (·.2) = ks ∧ (∀ p ∈ ps, SqT K G p.1 (p.2.map V.int)) ∧ ∀ p ∈ ps, Rp K G (.ref p.1) (tupD p.2)
  | _, [], .nil => ⟨[], rfl, rfl, (fun _ h => nomatch h), (fun _ h => nomatch h)⟩
  | _, k :: ks, .cons h t => by
    obtain ⟨ps, h1, h2, h3, h4⟩ := keys_rp t
    obtain ⟨a, xs, e1, s1, z1, r1⟩ := Rp.ofTup h
    subst e1
    refine ⟨(a, k) :: ps, by rw [h1]; rfl, by rw [List.map_cons, h2], fun p hp => ?_, fun p hp => ?_⟩
    · rcases List.mem_cons.mp hp with z | z
      · subst z; rw [← row_rp r1]; exact s1
      · exact h3 p z
    · rcases List.mem_cons.mp hp with z | z
      · subst z; exact h
      · exact h4 p z
theorem eachs_rp {G : Hp} {L : List (Addr × List Int)} (hL : ∀ p ∈ L, Rp K G (.ref p.1) (tupD p.2)) : ∀ {ys : List V} {bs : List D}, PySem.W.EachIs (fun x b => ∃ q ∈ L, x = V.ref q.1 ∧ b = tupD q.2) ys bs → RpAll K G ys bs
  | _, _, .nil => .nil
  | _, _, .cons ⟨q, hq, e1, e2⟩ t => by subst e1 e2; exact .cons (hL q hq) (eachs_rp hL t)
end
def seqOf : D → Option (List D)
  | .list ds => some ds
  | .tuple ds => some ds
  | _ => none
def gSetSort (d : D) : R (List D) := match seqOf d with
  | none => .bad
  | some ds => match keysD ds with
    | none => .bad
    | some ks => if ks.length < 64 then .ok (sortD ((uniqL ks).map tupD)) else .bad
theorem gSetSort_ok {d : D} {z : List D} (h : gSetSort d = .ok z) : ∃ ds ks, seqOf d = some ds ∧ keysD ds = some ks ∧ ks.length < 64 ∧ z = sortD ((uniqL ks).map tupD) := by
  unfold gSetSort at h
  split at h
  · cases h
  · split at h
    · cases h
    · split at h
      · cases h; exact ⟨_, _, by assumption, by assumption, by assumption, rfl⟩
      · cases h
theorem RpV.seq {K : PySem.W.Frag} {δ : List C} {σ : L2.St} {G H : Hp} {x : V} {d : D} {ds : List D} (s : Same G H) (h : RpV K δ σ G H x d) (e : seqOf d = some ds) : ∃ a xs, x = .ref a ∧ (SqL K H a xs ∨ SqT K H a xs) ∧ ds.length ≤ sizeLine ∧ RpAll K G xs ds := by
  unfold seqOf at e
  split at e
  · cases e
    obtain ⟨a, xs, e1, h1, h2, h3⟩ := h.lst s
    exact ⟨a, xs, e1, .inl h1, h2, h3⟩
  · cases e
    obtain ⟨a, xs, e1, h1, h2, h3⟩ := h.tup s
    exact ⟨a, xs, e1, .inr h1, h2, h3⟩
  · cases e
section
variable {ct : Nat → Addr} {W : WX} {X : Cx} {a b : Expr} {ma mb : M D} {p p2 q pos : Pos} {k : Nat}
theorem vn_setsort (hc : X.calm = true) (hr : Room k X.A) (hg : Gl X "sorted") (hm : X.mg "sorted" = none) (hg2 : Gl X "set") (hm2 : X.mg "set" = none) (ha : VV ct W X a ma)
    (hs : starEach [.Call (.Name "set" p2) [a] [] q] X.env = (false, eval (.Call (.Name "set" p2) [a] [] q) X.env) :: starEach [] X.env := by rfl) (hs2 : starEach [a] X.env = (false, eval a X.env) :: starEach [] X.env := by rfl) :
    VN ct W X (.Call (.Name "sorted" p) [.Call (.Name "set" p2) [a] [] q] [] pos) (mOp1N gSetSort ma) :=
  PE.conv (pe_callB (cr_sortSet hc (u64 hr)) hg hm PyProof.Rows.boot_sorted (pa_cons (pe_callTy (cr_setAny hc (u64 hr)) hg2 hm2 PyProof.Rows.boot_set (pa_cons ha pa_nil hs2) (by decide) (by decide) hs2) pa_nil hs) (by decide) (by decide) hs) fun σ H Q h => tG.step h fun d δ1 x G1 H1 r1 p1 h1 => by
    obtain ⟨z, ez, h3⟩ := Post.only h1
    obtain ⟨ds, ks, e1, e2, few, ez⟩ := gSetSort_ok ez
    subst ez
    obtain ⟨e3, full⟩ := keysD_eq e2
    subst e3
    obtain ⟨l, xs, e4, sq, hz, ra⟩ := RpV.seq r1.same p1 e1
    subst e4
    obtain ⟨ps, q1, q2, q3, q4⟩ := keys_rp ra
    subst q1 q2
    rw [List.length_map] at few
    refine ⟨l, ps, rfl, sq, fun p hp => Same.sqt r1.same (q3 p hp), few, fun s L hs h5 h6 => ?_⟩
    have hsame : Same H1 (upd H1 s (SetTO X.prog X.w s L)) := same_upd hs
    refine ⟨s, L, rfl, upd_same, fun p hp => Same.sqt hsame (Same.sqt r1.same (q3 p (h5 p hp))), fun p hp => full _ (List.mem_map.mpr ⟨p, h5 p hp, rfl⟩), fun t ls ys ht nd pm lt he => ?_⟩
    have g : Grow G1 H1 G1 (upd H1 s (SetTO X.prog X.w s L)) := Grow.alloc r1.same r1.nt hs
    have r2 := g.rel r1
    have es : sortD (ls.map tupD) = sortD ((uniqL (ps.map (·.2))).map tupD) := tups_unique (pm.trans (uniqL_perm nd (fun x hx => by
      obtain ⟨q, hq, e⟩ := List.mem_map.mp hx
      exact List.mem_map.mpr ⟨q, h5 q hq, e⟩) fun x hx => by
      obtain ⟨q, hq, e⟩ := List.mem_map.mp hx
      subst e
      exact h6 q hq))
    rw [es] at he
    have h4 := Post.at (g.ext (δ := δ1) (σ := σ)) h3
    refine Post.fresh h4 r2 ht ?_ (eachs_rp (fun p hp => q4 p (h5 p hp)) he)
    have el := List.length_mergeSort (le := PySem.W.dataLe false id) ((uniqL (ps.map (·.2))).map tupD)
    have := uniqL_len (ps.map (·.2))
    unfold sortD
    rw [el, List.length_map, sizeLine_eq]
    rw [List.length_map] at this
    omega
def mDct : M D := M.pure (.dict [])
theorem nt_dK {xs : List (Key × V)} : NT (.dK xs) := fun _ e => nomatch e
theorem ve_dct : VE ct W X (.Dict [] [] pos) mDct := PE.conv pe_dnewK fun σ H Q ⟨δ, G, r, h⟩ => fun p hp => Post.done h r (Grow.laid r.same r.nt hp nt_dK) (.dct upd_same)
def oGt : D → D → R D := gOrd fun d e => PySem.W.dataLt e d
def oGe : D → D → R D := gOrd fun d e => !PySem.W.dataLt d e
def gRev : D → R D
  | .tuple ds => .ok (.tuple ds.reverse)
  | _ => .bad
def gStr : D → R D
  | .int i => if decide (-1000000 < i ∧ i < 1000000) then .ok (.str (toString i)) else .bad
  | _ => .bad
theorem ve_str (hg : Gl X "str") (hm : X.mg "str" = none) (ha : VV ct W X a ma) (hs : starEach [a] X.env = (false, eval a X.env) :: starEach [] X.env := by rfl) : VE ct W X (.Call (.Name "str" p) [a] [] pos) (mOp1 gStr ma) :=
  ve_callTy call_str_int (fun δ σ G H x d z Q r hx hz q => by
    unfold gStr at hz
    split at hz
    · split at hz
      · rename_i i hk
        cases hz
        have hb := of_decide_eq_true hk
        refine ⟨i, by rw [hx.int], ?_, q _ G H (Grow.refl r) (.str _)⟩
        by_cases h0 : i.natAbs = 0
        · rw [h0]; decide
        · exact Nat.lt_trans ((Nat.log2_lt h0).mpr (by omega : i.natAbs < 2 ^ 20)) (by decide)
      · cases hz
    · cases hz) hg hm PyProof.Rows.boot_str ha hs
def mPar (i j : Nat) (m : M (List D)) : MS := M.bind m fun ds => match ds with
  | [d, e] => fun cs => .ok (.nx, (cs.set i (.dat d)).set j (.dat e))
  | _ => fun _ => .bad
theorem vs_par {i j : Nat} {x y : Str} {ms : M (List D)} {px py pt : Pos} {kt k2 : Nat} {pt2 : Pos} (hc : X.calm = true) (hN : X.N.Nodup) (hi : X.N[i]? = some x) (hj : X.N[j]? = some y) (hij : i ≠ j)
    (hx : X.env.scope.names.lookup x = some .local) (hy : X.env.scope.names.lookup y = some .local) (ha : VA ct W X [a, b] ms)
    (hw : swappedStores [.Tuple [.Name x px, .Name y py] kt pt] (.Tuple [a, b] k2 pt2) X.env = pure (some [x, y]))
    (hs : swapsWithSole [.Tuple [.Name x px, .Name y py] kt pt] (.Tuple [a, b] k2 pt2) pos.line X.env = pure false := by rfl) :
    VS ct W X (.Assign [.Tuple [.Name x px, .Name y py] kt pt] (.Tuple [a, b] k2 pt2) pos) (mPar i j ms) := PS.conv (ps_par hc hN hi hj hij hx hy ha hw hs) fun De σ H h =>
  stepS (P := PAs X.K) h fun ds δ1 vs G1 H1 r1 ⟨_, _, _, p1⟩ h1 => by
    cases p1 with
    | nil => exact h1.elim
    | cons p q =>
      cases q with
      | nil => exact h1.elim
      | cons p' q' =>
        cases q' with
        | cons _ _ => exact h1.elim
        | nil => exact ⟨_, _, rfl, h1 _ G1 H1 ((put_ext (K := X.K)).trans (put_ext (K := X.K))) ((r1.set p).set p')⟩
end
section
variable {P : Program} {w : World} {K : PySem.W.Frag} {mg : Str → Option Value} {base : Heap} {ct : Nat → Addr} {x : Str} {st : Stmt} {N ps : List Str} {k n m : Nat} {body : MS}
theorem calDm (T : Tx K mg x st ps) (S : FnScope N ps (defScope st)) (hm : N.length = m) (hps : ps.length = n) (hn : ps.length ≤ N.length) (hb : BodyOk P w K mg base ct N x st k body) : Cal P w K mg base x ps (k + 1) (spD K ct n (fnD m body)) := hm ▸ calD T S hps hn hb
theorem calNm (T : Tx K mg x st ps) (S : FnScope N ps (defScope st)) (hm : N.length = m) (hps : ps.length = n) (hn : ps.length ≤ N.length) (hb : BodyOk P w K mg base ct N x st k body) : Cal P w K mg base x ps (k + 1) (spN K ct n (fnN m body)) := hm ▸ calN T S hps hn hb
theorem calSm (T : Tx K mg x st ps) (S : FnScope N ps (defScope st)) (hm : N.length = m) (hps : ps.length = n + 1) (hn : ps.length ≤ N.length) (hb : BodyOk P w K mg base ct N x st k body) : Cal P w K mg base x ps (k + 1) (spS K n (fnS m body)) := hm ▸ calS T S hps hn hb
end
def tChain3 (r r' r2 : R2) (ta tb tc td : TE) : TE := fun σ H Q => ta σ H fun x H1 => tb σ H1 fun y H2 => r x y H2 fun z H3 => ∃ k, z = .bl k ∧
  (if k = true then tc σ H3 fun w' H4 => r' y w' H4 fun z2 H5 => ∃ k2, z2 = .bl k2 ∧ (if k2 = true then td σ H5 fun u' H6 => r2 w' u' H6 Q else Q (.bl false) H5) else Q (.bl false) H3)
section
variable {X : Cx} {a b c d : Expr} {ta tb tc td : TE} {pos : Pos}
theorem pt_chain3 {op op' op2 : CmpOp} {r r' r2 : R2} (ho : OpR X (compareOp op) r) (ho' : OpR X (compareOp op') r') (ho2 : OpR X (compareOp op2) r2) (ha : PE X a ta) (hb : PE X b tb) (hc : PE X c tc) (hd : PE X d td)
    (hm : lastMarks [op, op', op2] [b, c, d] = false := by with_unfolding_all rfl) : PT X (.Compare a [op, op', op2] [b, c, d] pos) (tTest (tChain3 r r' r2 ta tb tc td)) := by
  refine ⟨fun pins s σ H Q I h => ?_⟩
  refine isTrue_chain (thn (ha.run pins s σ H _ I h) fun v s1 ⟨x, H1, I1, v1, q1⟩ => test_link (thn (hb.run pins s1 σ H1 _ I1 q1) fun u s2 ⟨y, H2, I2, v2, q2⟩ =>
    thn (ho pins s2 σ H2 x y v u _ I2 v1 v2 q2) fun d s3 ⟨z, H3, I3, v3, k, e, q3⟩ => ?_)) hm
  subst e
  cases v3
  refine wpAny_truthy_bool ?_
  cases k with
  | false =>
    obtain ⟨k', e', q'⟩ := q3
    cases e'
    exact ite_ff ⟨H3, I3, q'⟩
  | true =>
    refine ite_tt (test_link (thn (hc.run pins s3 σ H3 _ I3 q3) fun w' s4 ⟨z', H4, I4, v4, q4⟩ => thn (ho' pins s4 σ H4 y z' u w' _ I4 v2 v4 q4) fun d' s5 ⟨z2, H5, I5, v5, k2, e2, q5⟩ => ?_))
    subst e2
    cases v5
    refine wpAny_truthy_bool ?_
    cases k2 with
    | false =>
      obtain ⟨k', e', q'⟩ := q5
      cases e'
      exact ite_ff ⟨H5, I5, q'⟩
    | true =>
      refine ite_tt (test_last (thn (hd.run pins s5 σ H5 _ I5 q5) fun w2 s6 ⟨z3, H6, I6, v6, q6⟩ => thn (ho2 pins s6 σ H6 z' z3 w' w2 _ I6 v4 v6 q6) fun d2 s7 ⟨z4, H7, I7, v7, k3, e3, q7⟩ => ?_))
      subst e3
      cases v7
      exact wpAny_truthy_bool ⟨H7, I7, q7⟩
end
def mChain3 (g g' g2 : D → D → R D) (ma mb mc md : M D) : M D := M.bind ma fun x => M.bind mb fun y => M.bind (M.only (g x y)) fun z => match z with
  | .bool true => M.bind mc fun w => M.bind (M.only (g' y w)) fun z => match z with
    | .bool true => M.bind md fun u => M.only (g2 w u)
    | .bool false => M.pure (.bool false)
    | _ => fun _ => .bad
  | .bool false => M.pure (.bool false)
  | _ => fun _ => .bad
section
variable {ct : Nat → Addr} {W : WX} {X : Cx} {a b c d : Expr} {ma mb mc md : M D} {pos : Pos} {r r' r2 : R2} {g g' g2 : D → D → R D} {K : PySem.W.Frag}
theorem Post.isOk {α γ ε : Type} {P' : Hp → Hp → Hp → List C → L2.St → ε → γ → Prop} {rr : R α} {k : α → M γ} {δ : List C} {G H : Hp} {σ : L2.St} {Q : ε → Hp → Prop} (h : Post K ct W P' (M.bind (M.only rr) k δ) δ G H σ Q) : ∃ z, rr = .ok z ∧ Post K ct W P' (k z δ) δ G H σ Q := by
  cases rr with
  | ok z => exact ⟨z, rfl, h⟩
  | err n xs => exact h.elim
  | bad => exact h.elim
theorem chain3_core (hr : R2D K r g) (hr' : R2D K r' g') (hr2 : R2D K r2 g2) {σ : L2.St} {H : Hp} {Q : VK} (h : tG K ct W (PD K) (mChain3 g g' g2 ma mb mc md) σ H Q) : tChain3 r r' r2 (tG K ct W (PD K) ma) (tG K ct W (PD K) mb) (tG K ct W (PD K) mc) (tG K ct W (PV K) md) σ H Q :=
  tG.step h fun d δ1 x G1 H1 r1 p1 h1 => ⟨δ1, G1, r1, TW.step r1 h1 fun e δ2 y G2 H2 _ x2 r2' p2 h2 => by
    obtain ⟨z, eg, h2⟩ := Post.isOk h2
    refine hr δ2 σ G2 H2 x y d e z _ r2' (.inl (Rp.mono x2.same p1)) (.inl p2) eg fun v G' H' gr rp => ?_
    cases z <;> first
      | exact h2.elim
      | skip
    rename_i k
    have h3 := Post.at (gr.ext (δ := δ2) (σ := σ)) h2
    have r3 := gr.rel r2'
    refine ⟨k, Rp.ofBl rp, ?_⟩
    cases k with
    | false =>
      rw [if_neg Bool.false_ne_true]
      exact Post.done h3 r3 (Grow.refl r3) (.bl false)
    | true =>
      rw [if_pos rfl]
      refine ⟨δ2, G', r3, TW.step r3 h3 fun w δ4 y' G4 H4 _ x4 r4 p4 h4 => ?_⟩
      obtain ⟨z', ez, h4⟩ := Post.isOk h4
      refine hr' δ4 σ G4 H4 y y' e w z' _ r4 (.inl (Rp.mono (gr.same.trans x4.same) p2)) (.inl p4) ez fun v G5 H5 gr5 rp5 => ?_
      cases z' <;> first
        | exact h4.elim
        | skip
      rename_i k2
      have h5 := Post.at (gr5.ext (δ := δ4) (σ := σ)) h4
      have r5 := gr5.rel r4
      refine ⟨k2, Rp.ofBl rp5, ?_⟩
      cases k2 with
      | false =>
        rw [if_neg Bool.false_ne_true]
        exact Post.done h5 r5 (Grow.refl r5) (.bl false)
      | true =>
        rw [if_pos rfl]
        exact ⟨δ4, G5, r5, TW.step r5 h5 fun u δ6 u' G6 H6 _ x6 r6 p6 h6 => by
          obtain ⟨z6, e6, h6⟩ := Post.only h6
          exact hr2 δ6 σ G6 H6 y' u' w u z6 Q r6 (.inl (Rp.mono (gr5.same.trans x6.same) p4)) p6 e6 fun v G' H' g rp => Post.done h6 r6 g rp⟩⟩
theorem vt_leLtLt {k : Nat} (hr : Room k X.A) (ha : VE ct W X a ma) (hb : VE ct W X b mb) (hc : VE ct W X c mc) (hd : VV ct W X d md) (hm : lastMarks [CmpOp.LtE, CmpOp.Lt, CmpOp.Lt] [b, c, d] = false := by with_unfolding_all rfl) :
    VT ct W X (.Compare a [.LtE, .Lt, .Lt] [b, c, d] pos) (mTest (mChain3 oLe oLt oLt ma mb mc md)) := PT.conv (pt_chain3 (op_leD (u64 hr)) (op_ltD (u64 hr)) (op_ltD (u64 hr)) ha hb hc hd hm) fun _ _ _ h => chain3_core r2_ord r2_ord r2_ord (test_core h)
end
section
variable {K : PySem.W.Frag} {h : Heap} {mg : Str → Option Value} {x : Str} {st : Stmt} {ps : List Str} {f : Addr} {oc : Value} {od an : Option Addr} {osl : Array (Option Value)} {kV doc pm cdv ct : Value}
theorem tx_mk (X : K.In h) (G : h.Ns mainGlobals mg) (a : PySem.W.nsIn K mainGlobals x = some (some (.ref f))) (l : K.lookup f = some ⟨oc, od, .func (PySem.W.fnOf x x (defArgs st) (defBody st) (defScope st) .none kV doc pm an cdv ct), osl⟩)
    (c : PySem.W.codeIn K cdv x = true) (k : PySem.W.keepIn K (.ref f) = true)
    (hb : ∀ (kV doc pm : Value) (an : Option Addr) (cdv ct : Value) (us : List Value), us.length = ps.length → bindArgs (PySem.W.fnOf x x (defArgs st) (defBody st) (defScope st) .none kV doc pm an cdv ct) ⟨us, []⟩ = pure (ps.zip us)) : Tx K mg x st ps :=
  ⟨f, _, fun_mk l c k, PySem.W.mg_of X G a, (fun_mk l c k).binds hb⟩
theorem cx_end {P : Program} {w : World} {H : Hp} {s s' : Shared} {e : Value} (h : L2.CX P w [] H s (fun _ _ _ => False) e s') : False := by
  obtain ⟨_, _, _, _, _, _, _, _, _, _, _, _, q⟩ := h
  exact q
end
end TW
set_option Elab.async false
set_option linter.all false
set_option maxRecDepth 100000
namespace PySem
open Sem (wp)
open AutoSeq1 (wpAny_loadPart')
end PySem
namespace TW
open PySem PySem.Spec PyProof.Rows L2
def gEnum : D → R (List D)
  | .list ds => .ok (ds.mapIdx fun i d => zpD [.int (i : Nat), d])
  | .tuple ds => .ok (ds.mapIdx fun i d => zpD [.int (i : Nat), d])
  | _ => .bad
def mEnum (ma : M D) : M (List D) := M.bind ma fun d => M.only (gEnum d)
end TW
set_option Elab.async false
set_option linter.all false
set_option maxRecDepth 100000
namespace TW
open PySem PySem.Spec PyProof.Rows L2
def RpVs (K : PySem.W.Frag) (δ : List C) (σ : L2.St) (G H : Hp) : List V → List D → Prop
  | [], [] => True
  | v :: vs, d :: ds => RpV K δ σ G H v d ∧ RpVs K δ σ G H vs ds
  | _, _ => False
def PVs (K : PySem.W.Frag) : Hp → Hp → Hp → List C → L2.St → List V → List D → Prop := fun _ G' H' δ' σ' vs ds => RpVs K δ' σ' G' H' vs ds
instance {K : PySem.W.Frag} : Anti (PVs K) := ⟨fun _ h => h⟩
def lookAt (i : Nat) (ds : List D) : M (List D) := fun cs => match cs[i]? with
  | some (.dat d) => .ok (d :: ds, cs)
  | some (.own _ es) => .ok (.list es :: ds, cs)
  | _ => .bad
def hasC (cs : List C) (i : Nat) : Bool := match cs[i]? with
  | some (.dat _) => true
  | some (.own _ _) => true
  | _ => false
def mLook (i : Nat) (ms : M (List D)) : M (List D) := fun cs => if hasC cs i then (M.bind ms fun ds => lookAt i ds) cs else .bad
def flatD : D → Bool
  | .none | .bool _ | .int _ | .str _ => true
  | _ => false
def liftFlat (r : R D) : M D := fun cs => match r with
  | .ok d => if flatD d then .ok (d, cs) else .bad
  | .err n xs => .err n xs
  | .bad => .bad
def mCallL (n : Nat) (F : List D → R D) (ms : M (List D)) : M D := M.bind ms fun ds => if ds.length = n then liftFlat (F ds) else fun _ => .bad
end TW
set_option Elab.async false
set_option linter.all false
set_option maxRecDepth 100000
namespace TW
open PySem PySem.Spec PyProof.Rows L2
end TW
set_option Elab.async false
set_option linter.all false
set_option maxRecDepth 100000
namespace L2
open PySem PySem.Spec PyProof.Rows
end L2
namespace TW
open PySem PySem.Spec PyProof.Rows L2
end TW
set_option Elab.async false
set_option linter.all false
set_option maxRecDepth 100000
namespace TW
open PySem PySem.Spec PyProof.Rows L2
def lookIx (i : Nat) (e : D) : M D := fun cs => match cs[i]? with
  | some (.dat d) => M.only (gIx d e) cs
  | some (.own _ es) => M.only (gIx (.list es) e) cs
  | _ => .bad
def mIxO (i : Nat) (mb : M D) : M D := fun cs => if hasC cs i then (M.bind mb fun e => lookIx i e) cs else .bad
end TW
set_option Elab.async false
set_option linter.all false
set_option maxRecDepth 100000
namespace TW
open PySem PySem.Spec PyProof.Rows L2
structure ErrC (K : PySem.W.Frag) (mg : Str → Option Value) (ct : Nat → Addr) (n : Nat) (x : Str) : Prop where
  gC : mg x = some (.ref (ct n))
  q : ∃ (B newId initId : String) (bmB : List Value), ExcBaseFacts B newId initId bmB ∧ PySem.W.excIn K (ct n) bmB newId = true
  kC : PySem.W.keepIn K (.ref (ct n)) = true
  sub : PySem.W.subIn K (.ref (ct n)) (.type "BaseException") = some true
  ty : PySem.W.typeIn K (.ref (ct n)) = some (.type "type")
def mErr (n : Nat) : MS := fun _ => .err n []
section
variable {ct : Nat → Addr} {W : WX} {X : Cx} {p p2 p3 pos : Pos}
theorem EExt.refl {K : PySem.W.Frag} {δ : List C} {σ : L2.St} {H : Hp} (t : LamX.Tabs (lamT K) H) : EExt K δ σ H H := ⟨fun _ _ h _ _ => h, fun _ h => h, t⟩
theorem vs_raise {n j : Nat} {x m : Str} (hc : X.calm = true) (tk : Takes X W) (E : ErrC X.K X.mg ct n x) (hg : Gl X x) (hdb : (x == ("__debug__" : Str)) = false := by decide) :
    VS ct W X (.Raise (some (.Call (.Name x p) [.Constant (.str m) j p2] [] p3)) none pos) (mErr n) := by
  obtain ⟨B, newId, initId, bmB, F, q⟩ := E.q
  exact PS.conv (ps_raise hc tk (pmk_own F q E.gC E.kC (raises_own E.sub E.ty) hg hdb)) fun De σ H ⟨δ, G, rel, h⟩ => h (.ref (ct n)) none σ H (EExt.refl rel.tabs) ⟨rfl, rfl⟩
end
end TW
set_option Elab.async false
set_option linter.all false
set_option maxRecDepth 100000
namespace TW
open PySem PySem.Spec PyProof.Rows L2
abbrev withPin (X : Cx) (q : Addr × Obj) : Cx := { X with pn := q :: X.pn }
section
variable {X : Cx} {pins : List (Addr × Obj)} {σ : L2.St} {H : Hp} {s : Shared} {q : Addr × Obj}
theorem pin_in (I : Inv X (q :: pins) σ H s) : Inv (withPin X q) pins σ H s :=
  ⟨I.ok.toTry _ _, I.os, I.bare, I.base, I.loc, I.cell, I.free, I.freeC, fun p hp => I.pin p (by
    have hp' : p ∈ q :: (X.pn ++ pins) := hp
    rcases List.mem_cons.mp hp' with e | h
    · rw [e]; exact List.mem_append_right _ List.mem_cons_self
    · rcases List.mem_append.mp h with z | z
      · exact List.mem_append_left _ z
      · exact List.mem_append_right _ (List.mem_cons_of_mem _ z)), I.hok, I.len⟩
theorem pin_out (ok : X.Ok) (I : Inv (withPin X q) pins σ H s) : Inv X pins σ H s :=
  ⟨ok, I.os, I.bare, I.base, I.loc, I.cell, I.free, I.freeC, fun p hp => I.pin p (List.mem_cons_of_mem _ hp), I.hok, I.len⟩
theorem pin_suite {a : Addr} {oe : Obj} {pn' : List (Addr × Obj)} (I : Inv (X.suite a ((a, oe) :: (X.pn ++ pins))) pn' σ H s) (ok : X.Ok) : Inv X ((a, oe) :: pins) σ H s :=
  ⟨ok, I.os, I.bare, I.base, I.loc, I.cell, I.free, I.freeC, fun p hp => I.pin p (List.mem_append_left _ (by
    rcases List.mem_append.mp hp with z | z
    · exact List.mem_cons_of_mem _ (List.mem_append_left _ z)
    · rcases List.mem_cons.mp z with e | z
      · rw [e]; exact List.mem_cons_self
      · exact List.mem_cons_of_mem _ (List.mem_append_right _ z))), I.hok, I.len⟩
end
def wAsR (L : Nat) (K : PySem.W.Frag) (c : Value) (i : Nat) (ts v : Addr → Value → Option Addr → TS) (Wout : WX) (D : Ends) : WX := fun cls d σ H =>
  ∃ b, PySem.W.exmOne K cls c = some b ∧ (b = true → σ.length = L → ∀ a, H a = none → ts a cls d { nx := fun σ' H' => v a cls d D (σ'.set i none) H', rt := fun _ _ => False } (σ.set i (some (.ref a))) H) ∧
    (b = false → Wout cls d σ H)
section
variable {X : Cx} {x n : Str} {c : Value} {i : Nat} {body suite rest : List Stmt} {b₀ : Stmt} {np pos pos' : Pos} {tb : WX → TS} {ts v : Addr → Value → Option Addr → TS} {u : TS} {Wout : WX}
theorem pss_try_rest (hs : X.stack = X.env :: X.outer) (hf : X.env.frame = some X.env.locals) (hN : X.N.Nodup) (hi : X.N[i]? = some n) (hln : X.env.kindOf n = some .local) (hc : Names X x c) (tk : Takes X Wout)
    (hb : ∀ (W : WX) (pn : List (Addr × Obj)) (xe : Value → Shared → Prop), Takes (X.tr pn xe) W → PassesOwn (model X.prog X.w) X.A X.env xe → PSs (X.tr pn xe) body (tb W))
    (hsu : ∀ (a : Addr) (oe : Obj) (cls : Value) (d : Option Addr) (pn : List (Addr × Obj)), Zc cls d oe → (∃ vs, oe.data = .fields vs) → PSs (X.suite a ((a, oe) :: pn)) (b₀ :: suite) (ts a cls d))
    (ho : PSs X rest u) (he : ∀ (a : Addr) (oe : Obj) (cls : Value) (d : Option Addr), Zc cls d oe → (∃ vs, oe.data = .fields vs) → PSs (withPin X (a, oe)) rest (v a cls d)) :
    PSs X (.Try body [.ExceptHandler (some (.Name x np)) (some n) (b₀ :: suite) pos'] [] [] pos :: rest) (fun D σ H => tb (wAsR X.N.length X.K c i ts v Wout D) { D with nx := u D } σ H) := by
  refine ⟨fun pins s σ H D I h => ?_⟩
  have ok := I.ok
  have hfr : X.A.frames = some (X.env :: X.outer) := by rw [ok.frames, hs]
  have hloc : Loc X.env.scope n := .inl hln
  refine wpAny_execs_cons ?_
  refine wpAny_Try_except ?_
  let Post : Flow → Shared → Prop := fun f s1 => match f with
    | .next => wpAny (model X.prog X.w) X.A (execs rest X.env) (SP X pins D) X.xe s1
    | f => SP X pins D f s1
  refine wpAny_mono ((hb (wAsR X.N.length X.K c i ts v Wout D) (X.pn ++ pins) (fun e s₁ => wpAny (model X.prog X.w) X.A (noteFrame e X.env) (fun _ s₂ => wpAny (model X.prog X.w) X.A (setFlight e none) (fun _ s₃ =>
    wpAny (model X.prog X.w) X.A (handleBy e X.env [.ExceptHandler (some (.Name x np)) (some n) (b₀ :: suite) pos']) Post X.xe s₃) X.xe s₂) X.xe s₁) (fun u s' xx => ?_) PassesOwn.looking).run [] s σ H _ (I.toTry _) h) (fun f s1 hsp => ?_) (fun e s1 he => he)
  · obtain ⟨a, B, sI, pins', σ', H', cls, d, rfl, J', nb, up, sky, na, os, ag, b, hb1, hyes, hno⟩ := xx
    have J : Inv X pins σ' H' sI := J'.ofTry ok
    have sky' : Sky B (X.env :: X.outer) a (Zc cls d) X.env.locals s'.heap := by rw [← hs]; exact sky
    show wpAny (model X.prog X.w) X.A (noteFrame (.ref a) X.env) _ _ _
    refine Sky.land Zc.steady hfr hf sky' fun h3 fl3 up3 => ?_
    have J3 : Inv X pins σ' H' { s' with heap := h3 } := J.landed nb fl3.1 (up.trans up3) os ag
    obtain ⟨oe3, vs3, he3, hz3, hd3⟩ := fl3.there
    have notFr : ∀ {h : Heap} {o : Obj} {vs : Array Value}, h.FunFrames B (X.env :: X.outer) → h.get? a = some o → o.data = .fields vs → a ∉ frs (X.env :: X.outer) := fun {h o vs} ff e dd hm => by
      obtain ⟨_, o', e', hnf⟩ := ff.mem hm
      rw [e] at e'; cases e'
      exact hnf _ dd
    have nfr := notFr fl3.2.2.1 he3 hd3
    have nL : a ≠ X.env.locals := fun z => nfr (List.mem_filterMap.mpr ⟨X.env, List.mem_cons_self, by rw [hf, z]⟩)
    have nF : a ∉ X.fs := fun hm => by
      obtain ⟨e, he, q⟩ := List.mem_filterMap.mp hm
      exact nfr (List.mem_filterMap.mpr ⟨e, List.mem_cons_of_mem _ he, q⟩)
    have S3 := J3.suite he3 hd3 na nL nF
    refine wpAny_handleBy_cons (codeAny_handlers_test ?_) (by intro q; cases q)
    have LT : PySem.W.Looks (model X.prog X.w) h3 (typeOf (.ref a)) cls := fun A Q E s k q => wpAny_typeOf_ref (k _ _ he3) (by rw [hz3.1]; exact q)
    have LM := PySem.W.exm_one (M := model X.prog X.w) (J3.kIn) LT hb1
    have test : ∀ {Q : Value → Shared → Prop} {E : Value → Shared → Prop}, Q c { s' with heap := h3 } → wpAny (model X.prog X.w) (X.A.mark (some (.ref a))) (eval (.Name x np) X.env) Q E { s' with heap := h3 } := fun {Q E} q => by
      obtain ⟨hg, hdbg, hm | ⟨hm, hv, hnn⟩⟩ := hc
      · exact ld_glob (X := X.suite a ((a, oe3) :: (X.pn ++ pins))) S3 hg hm q hdbg
      · exact ld_blt (X := X.suite a ((a, oe3) :: (X.pn ++ pins))) S3 hg hm hv q hnn hdbg
    refine test (LM.here ?_)
    cases b with
    | true =>
      refine codeAny_handlers_suite_as ?_
      refine HandSPX.lands_againZ fl3 fun h4 fl4 up4 => ?_
      have J4 : Inv X pins σ' H' { s' with heap := h4 } := J.landed nb fl4.1 ((up.trans up3).trans up4) os ag
      obtain ⟨oe4, vs4, he4, hz4, hd4⟩ := fl4.there
      have S4 := J4.suite he4 hd4 na nL nF
      refine store_ok (X := X.suite a ((a, oe4) :: (X.pn ++ pins))) (v := .ref a) S4 hN hi hloc rfl (fun s5 S5 => ?_) (.inr hln)
      refine wpAny_mono ((hsu a oe4 cls d (X.pn ++ pins) hz4 ⟨_, hd4⟩).run [] s5 _ H' _ S5 (hyes rfl J.len a na)) (fun f s6 hsp => ?_) (fun _ _ z => False.elim z)
      cases f with
      | next =>
        obtain ⟨σ6, H6, S6, q6⟩ := hsp
        refine gone_ok (pin_suite S6 ok) hN hi hln fun s7 J7 => ?_
        show wpAny (model X.prog X.w) X.A (execs rest X.env) (SP X pins D) X.xe s7
        refine thn ((he a oe4 cls d hz4 ⟨_, hd4⟩).run pins s7 _ H6 D (pin_in J7) q6) fun f s8 q8 => ?_
        cases f with
        | next => obtain ⟨σ', H', J', q⟩ := q8; exact ⟨σ', H', pin_out ok J', q⟩
        | brk => obtain ⟨σ', H', J', q⟩ := q8; exact ⟨σ', H', pin_out ok J', q⟩
        | cont => obtain ⟨σ', H', J', q⟩ := q8; exact ⟨σ', H', pin_out ok J', q⟩
        | ret u => obtain ⟨v, σ', H', J', r, q⟩ := q8; exact ⟨v, σ', H', pin_out ok J', r, q⟩
      | brk => obtain ⟨_, _, _, q6⟩ := hsp; exact False.elim q6
      | cont => obtain ⟨_, _, _, q6⟩ := hsp; exact False.elim q6
      | ret u => obtain ⟨_, _, _, _, _, q6⟩ := hsp; exact False.elim q6
    | false =>
      show wpAny _ X.A (handleBy (.ref a) X.env []) _ _ _
      refine wpAny_handleBy_nil ?_
      obtain ⟨k1, k2, k3, oe, vs, T, oT, ts', he, hz, hd, h1, hr⟩ := id fl3
      unfold PySem.passOn
      refine wpAny_bind (wpAny_field he hd h1 ?_)
      rw [if_neg (show ¬ ((Value.ref T == Value.none) = true) from by simp)]
      have fin : wpAny (model X.prog X.w) X.A (setFlight (.ref a) X.env.frame) (fun _ s4 => wpAny (model X.prog X.w) X.A (throw (.ref a) : Sem Flow) Post X.xe s4) X.xe { s' with heap := h3 } := by
        rw [hf]
        refine HandSPX.setFlight_upZ fl3 fun h4 hh4 up4 => wpAny_throw (tk _ _ ?_)
        exact ⟨a, B, sI, pins, σ', H', cls, d, rfl, J, nb, (up.trans up3).trans up4, .inr (.inr (by rw [hs]; exact hh4)), na, os, ag, hno rfl⟩
      first
        | exact wpAny_bind (wpAny_pure (wpAny_bind fin))
        | exact wpAny_bind fin
  · cases f with
    | next =>
      obtain ⟨σ', H', J', q⟩ := hsp
      refine wpAny_execs_nil ?_
      exact ho.run pins s1 σ' H' D (J'.ofTry ok) q
    | brk => obtain ⟨σ', H', J', q⟩ := hsp; exact ⟨σ', H', J'.ofTry ok, q⟩
    | cont => obtain ⟨σ', H', J', q⟩ := hsp; exact ⟨σ', H', J'.ofTry ok, q⟩
    | ret u => obtain ⟨v, σ', H', J', r, q⟩ := hsp; exact ⟨v, σ', H', J'.ofTry ok, r, q⟩
end
end TW
set_option Elab.async false
set_option linter.all false
set_option maxRecDepth 100000
namespace TW
open PySem PySem.Spec PySem.Calls PyProof.Rows PySem.W
section
variable {prog : Program} {w : World} {A : Around} {E : Value → Shared → Prop} {s : Shared} {K : Frag} {x D : Addr} {ox : Obj} {od : Option Obj}
theorem find_class {C : Addr} {name : Str} {a g : Value} (hc : (clsIn K C).isSome = true) (ha : findIn K (.ref C) name = some (some a)) (hg : specialIn K a "__get__" = some (some g)) (ht : takesIn K a = some true) : findObj K C od name = some (.bind g a) := by
  obtain ⟨cd, hc⟩ := Option.isSome_iff_exists.mp hc
  unfold findObj
  rw [hc, Option.bind_some, ha, Option.bind_some]
  simp [hg, ht]
theorem get_class {Q : Option Value → Shared → Prop} (c : L2.ExcC K D) (X : K.In s.heap) (I : InstAt s.heap x ox D od) (h : Q (some (.ref D)) { s with toks := s.toks + 1 }) : wpAny (model prog w) A (getAttr? (.ref x) "__class__") Q E s := by
  have hf : findObj K D od "__class__" = some (.bind (.builtin "getset_descriptor.__get__") (.builtin "object.__class__")) := find_class (by obtain ⟨cd, hc, _⟩ := any_some c.hd; rw [hc]; rfl) c.ha c.hn c.ht
  obtain ⟨hp, g, d, t, os⟩ := s
  have L0 := I.type (M := model prog w)
  have L1 := looks_findIn (M := model prog w) X c.hg
  have L2' := looks_findIn (M := model prog w) X c.hk
  have L3 := looks_find (M := model prog w) X I hf
  have sub : Looks (model prog w) hp (isInstance (.ref x) (.type "BaseException")) true := L0.andThen (looks_subIn X c.hs)
  have hx0 : (false && onTheHeap (Value.builtin "BaseException.__getattribute__")) = false := rfl
  have hx2 : (Value.builtin "BaseException.__getattribute__" == Value.builtin "object.__getattribute__") = false := by decide +kernel
  have hx1 : (onTheHeap (Value.ref D) && Value.builtin "BaseException.__getattribute__" == Value.builtin "object.__getattribute__") = false := by rw [hx2]; rfl
  unfold getAttr? getAttrBy? getAttrBy
  refine wpAny_bind (wpAny_mkText (wpAny_bind (wpAny_attempt (wpAny_holding (wpAny_bind (L0.at (wpAny_bind (L1.at ?_))))))))
  show wpAny _ _ (if (onTheHeap (Value.ref D) && Value.builtin "BaseException.__getattribute__" == Value.builtin "object.__getattribute__") = true then _ else _) _ _ _
  rw [hx1, if_neg Bool.false_ne_true]
  unfold getAttrByItsOwn hookBefore
  refine wpAny_bind ?_
  rw [if_pos (show onTheHeap (Value.ref D) = true from rfl)]
  refine L2'.at ?_
  refine wpAny_bind (wpAny_attempt (wpAny_holding ?_))
  unfold callGetattribute
  rw [hx0, if_neg Bool.false_ne_true]
  unfold boundAndCalled
  rw [PySem.F.excAttr_ValueError.ga.bind (.ref x)]
  refine wpAny_bind (wpAny_pure ?_)
  show wpAny _ _ (call (.builtin "BaseException.__getattribute__") [.ref x, .str "__class__" t]) _ _ _
  refine wpAny_call (codeAny_call_builtin PySem.F.excAttr_ValueError.ga.plain PySem.F.entry_bexc_ga ?_)
  refine @check_slot (model prog w) _ _ ⟨hp, g, d, t + 1, os⟩ "BaseException.__getattribute__" "BaseException" "__getattribute__" (.ref x) [.str "__class__" t] [] _ (by decide +kernel) (by decide +kernel) sub (PySem.F.args_bexc_ga (.ref x) (.str "__class__" t)) ?_
  unfold Builtin.«object.__getattribute__»
  refine wpAny_bind (wpAny_of_eq (a := ((Value.ref x : Value), [Value.str "__class__" t])) (by first | rfl | (simp only [slotArgs]; rfl)) ?_)
  refine wpAny_bind (wpAny_pure (wpAny_bind (L0.at (wpAny_bind (L3.at ?_)))))
  show wpAny _ _ (holding [Value.builtin "object.__class__"] (call (.builtin "getset_descriptor.__get__") [.builtin "object.__class__", .ref x, .ref D]) >>= ret) _ _ _
  refine wpAny_bind (wpAny_holding (wpAny_call (class_get (s := ⟨hp, g, d, t + 1, os⟩) (ox := ox) (od := od) X I c.hm ?_)))
  refine wpAny_pure ?_
  show wpAny _ _ (handedOut (.ref D)) _ _ _
  rw [handedOut_of (v := .ref D) rfl]
  first
    | exact wpAny_pure (wpAny_pure h)
    | exact wpAny_pure h
    | exact wpAny_pure (wpAny_bind (wpAny_pure (wpAny_pure h)))
theorem kit_exc (c : L2.ExcC K D) : KitX K (.ref x) (.ref D) (fun h => InstAt h x ox D od) where
  ty := fun _ _ _ I => I.type
  it := fun _ _ X _ => by
    obtain ⟨cdD, hcD, _⟩ := any_some c.hd
    unfold clsIn at hcD
    split at hcD
    · rename_i c' d' cd' sl' ho
      intro A' Q' E' s' k q
      unfold isType loadHead
      exact wpAny_bind (wpAny_loadPart (k _ _ (X _ _ ho)) (wpAny_pure q))
    · cases hcD
  ne := fun h tp dd its n sl X htp => by
    obtain ⟨cdD, hcD, _⟩ := any_some c.hd
    refine Bool.eq_false_iff.mpr fun q => ?_
    have e : D = tp := Value.ref.inj (beq_iff_eq.mp q)
    subst e
    unfold clsIn at hcD
    split at hcD
    · rename_i c' d' cd' sl' ho
      have z := (X _ _ ho).symm.trans htp
      cases z
    · cases hcD
  ca := fun X I k => get_class c X I k
end
open L2
def rIsP (K : PySem.W.Frag) (D a : Addr) (d : Option Addr) : List V → Hp → VK → Prop := fun xs H Q => ∃ (c : V) (cv : Value) (b : Bool), xs = [.ref a, c] ∧ (∀ u, RelV c u → u = cv) ∧ (∀ dd, d = some dd → ∃ fs, H dd = some (.xd fs)) ∧ PySem.W.kitOne K (.ref D) cv = some b ∧ Q (.bl b) H
section
variable {X : Cx} {a D : Addr} {oe : Obj} {d : Option Addr}
theorem call_isP (C : ExcC X.K D) (hz : Zc (.ref D) d oe) (hf : ∃ vs, oe.data = .fields vs) : CallR (withPin X (a, oe)) (.builtin "isinstance") (rIsP X.K D a d) := by
  intro pins s σ H xs us Q I r h
  obtain ⟨c, cv, b, rfl, hcv, hd, e, q⟩ := h
  cases r with
  | cons rx rr =>
    cases rr with
    | cons rt rr =>
      cases rr
      cases rx
      have ec := hcv _ rt
      subst ec
      obtain ⟨hget, _⟩ := I.pin (a, oe) List.mem_cons_self
      obtain ⟨vs, hv⟩ := hf
      have J : ∃ od, PySem.W.InstAt s.heap a oe D od := by
        cases d with
        | none => exact ⟨none, hget, hz.1, by unfold PySem.W.notCls; rw [hv] <;> rfl, by rw [hz.2]; trivial⟩
        | some dd =>
          obtain ⟨fs, hfs⟩ := hd dd rfl
          obtain ⟨mA, hns, hr⟩ : ObjOk X.prog X.w H s.heap dd (.xd fs) := I.hok dd _ hfs
          obtain ⟨od, ho, hl⟩ := lookIn_ns hns
          exact ⟨some od, hget, hz.1, by unfold PySem.W.notCls; rw [hv] <;> rfl, by rw [hz.2]; exact ho⟩
      obtain ⟨od, J⟩ := J
      exact PySem.W.kia_one (kit_exc C) I.kIn J e (fun z => nomatch z) fun tk => ⟨.bl b, H, I.kept (t' := tk) fun _ _ z => z, rfl, q⟩
theorem pe_xp {C : Addr} {cls : Value} {e : Expr} {te : TE} {pos : Pos} {n : Str} (T : XfC X.K C) (hno : PySem.W.findIn X.K (.ref C) n = some none)
    (hz : Zc cls d oe) (hf : ∃ vs, oe.data = .fields vs) (he : PE (withPin X (a, oe)) e te) (hb : attributeBase e n X.env (eval e X.env) = eval e X.env := by rfl) :
    PE (withPin X (a, oe)) (.Attribute e n pos) (tXf a cls d C n te) := by
  refine ⟨fun pins s σ H Q I h => ?_⟩
  refine attr_of hb (thn (he.run pins s σ H _ I h) fun u s1 hh => ?_)
  obtain ⟨x, H1, I1, rx, ex, ec, dd, fs, v, ed, ea, l, q⟩ := hh
  subst ex
  obtain rfl : u = Value.ref a := rx
  subst ec
  subst ed
  obtain ⟨ha, _⟩ := I1.pin (a, oe) List.mem_cons_self
  obtain ⟨vs, hd⟩ := hf
  have hx : ObjOk X.prog X.w H1 s1.heap dd (.xd fs) := I1.hok dd _ ea
  obtain ⟨mA, hns, hr⟩ := hx
  obtain ⟨od, ho, hl⟩ := lookIn_ns hns
  obtain ⟨u, hu, ru⟩ := RelO.some_of (v := v) (o := mA n) (by rw [← l]; exact hr n)
  have J : PySem.W.InstAt s1.heap a oe C (some od) := ⟨ha, hz.1, by unfold PySem.W.notCls; rw [hd] <;> rfl, by rw [hz.2]; exact ho⟩
  exact HandSPX.exc_get I1.kIn J T.ga T.gg T.exC (PySem.W.findObj_own T.hdC hno rfl (by rw [hl, hu])) (handed_of ru) ⟨v, H1, I1.tok _, ru, q⟩
end
end TW
set_option Elab.async false
set_option linter.all false
set_option maxRecDepth 100000
namespace TW
open PySem PySem.Spec PyProof.Rows L2
structure Marks (K : PySem.W.Frag) (ct : Nat → Addr) (cw : Addr) : Prop where
  exc : ∀ n, n < 13 → ExcC K (ct n)
  one : ∀ n, n < 13 → ∀ m, m < 13 → PySem.W.kitOne K (.ref (ct n)) (.ref (ct m)) = some (n == m)
  non : ∀ m, m < 13 → PySem.W.kitOne K (.type "NoneType") (.ref (ct m)) = some false
  val : ∀ n, n < 13 → PySem.W.kitOne K (.ref (ct n)) (.type "ValueError") = some true
  nov : PySem.W.kitOne K (.type "NoneType") (.type "ValueError") = some false
  web : ∀ n, n < 13 → PySem.W.exmOne K (.ref (ct n)) (.ref cw) = some true
abbrev Known := Option (Nat × Addr × Option Addr)
def excIs (kn : Known) (k : Int) (x : D) : Option Nat := match kn, x with
  | some (n, a, none), .none => if k = a then some n else none
  | some (n, a, some dd), .tuple [.int k', _, _] => if k = a ∧ k' = dd then some n else none
  | _, _ => none
def gIsNo : D → R D
  | .none => .ok (.bool false)
  | _ => .bad
def gIsX (kn : Known) (m : Nat) : D → R D
  | .dict [(.int k, x)] => match excIs kn k x with
    | some n => .ok (.bool (n == m))
    | none => .bad
  | _ => .bad
def gIsVX (kn : Known) : D → R D
  | .dict [(.int k, x)] => match excIs kn k x with
    | some _ => .ok (.bool true)
    | none => .bad
  | _ => .bad
theorem rp_exc {K : PySem.W.Frag} {G : Hp} {v : V} {k : Int} {x : D} {n : Nat} {a : Addr} {d : Option Addr} (h : Rp K G v (.dict [(.int k, x)])) (e : excIs (some (n, a, d)) k x = some n) : v = .ref a ∧ ∀ dd, d = some dd → ∃ fs, G dd = some (.xd fs) := by
  cases h with
  | ex0 =>
    cases d with
    | none =>
      simp only [excIs] at e
      split at e
      · rename_i z
        exact ⟨by rw [show (_ : Addr) = a from Int.ofNat.inj z], fun dd q => (nomatch q)⟩
      · cases e
    | some dd => simp [excIs] at e
  | exF hg =>
    cases d with
    | none => simp [excIs] at e
    | some dd =>
      simp only [excIs] at e
      split at e
      · rename_i z
        refine ⟨by rw [show (_ : Addr) = a from Int.ofNat.inj z.1], fun d' q => ?_⟩
        cases q
        rw [← show (_ : Addr) = dd from Int.ofNat.inj z.2]
        exact ⟨_, hg⟩
      · cases e
section
variable {ct : Nat → Addr} {cw : Addr} {W : WX} {X : Cx} {e b : Expr} {me : M D} {p q pos : Pos}
theorem ve_isO0 {m : Nat} (M : Marks X.K ct cw) (hm13 : m < 13) (hg : Gl X "isinstance") (hm : X.mg "isinstance" = none) (ha : VE ct W X e me) (hb : PE X b (tC (.ref (ct m))))
    (hs : starEach [e, b] X.env = (false, eval e X.env) :: starEach [b] X.env := by rfl) (hs2 : starEach [b] X.env = (false, eval b X.env) :: starEach [] X.env := by rfl) (hpl : (backTo pos (starEach [b] X.env)).any (·.1) = false := by rfl) :
    VE ct W X (.Call (.Name "isinstance" p) [e, b] [] pos) (mOp1 gIsNo me) :=
  PE.conv (pe_callB call_isi hg hm PyProof.Rows.boot_isinstance (pa_cons ha (pa_cons hb pa_nil hs2) hs) (by decide) (by decide) hs hpl) fun σ H Q h => tG.step h fun d δ1 x G1 H1 r1 p1 h1 => by
    obtain ⟨z, ez, h3⟩ := Post.only h1
    cases d <;> first
      | (cases ez; done)
      | skip
    cases ez
    have ex := Rp.ofNon p1
    subst ex
    exact ⟨.non, .ref (ct m), _, _, false, rfl, .own _, .base .non, M.non m hm13, Post.done h3 r1 (Grow.refl r1) (.bl _)⟩
theorem ve_isV0 (M : Marks X.K ct cw) (hg : Gl X "isinstance") (hm : X.mg "isinstance" = none) (ha : VE ct W X e me) (hb : PE X b (tC (.ty "ValueError")))
    (hs : starEach [e, b] X.env = (false, eval e X.env) :: starEach [b] X.env := by rfl) (hs2 : starEach [b] X.env = (false, eval b X.env) :: starEach [] X.env := by rfl) (hpl : (backTo pos (starEach [b] X.env)).any (·.1) = false := by rfl) :
    VE ct W X (.Call (.Name "isinstance" p) [e, b] [] pos) (mOp1 gIsNo me) :=
  PE.conv (pe_callB call_isi hg hm PyProof.Rows.boot_isinstance (pa_cons ha (pa_cons hb pa_nil hs2) hs) (by decide) (by decide) hs hpl) fun σ H Q h => tG.step h fun d δ1 x G1 H1 r1 p1 h1 => by
    obtain ⟨z, ez, h3⟩ := Post.only h1
    cases d <;> first
      | (cases ez; done)
      | skip
    cases ez
    have ex := Rp.ofNon p1
    subst ex
    exact ⟨.non, .ty "ValueError", _, _, false, rfl, .ty _, .base .non, M.nov, Post.done h3 r1 (Grow.refl r1) (.bl _)⟩
theorem excIs_fst {n n' : Nat} {a : Addr} {d : Option Addr} {k : Int} {x : D} (h : excIs (some (n, a, d)) k x = some n') : n' = n := by
  cases d with
  | none =>
    cases x <;> simp [excIs] at h
    exact h.2.symm
  | some dd =>
    unfold excIs at h
    split at h
    · rename_i q; cases q
    · rename_i q
      cases q
      split at h
      · cases h; rfl
      · cases h
    · cases h
theorem ve_isO1 {m n : Nat} {a : Addr} {oe : Obj} {d : Option Addr} (M : Marks X.K ct cw) (hn13 : n < 13) (hm13 : m < 13) (hz : Zc (.ref (ct n)) d oe) (hf : ∃ vs, oe.data = .fields vs) (hg : Gl X "isinstance") (hm : X.mg "isinstance" = none)
    (ha : VE ct W (withPin X (a, oe)) e me) (hb : PE (withPin X (a, oe)) b (tC (.ref (ct m))))
    (hs : starEach [e, b] X.env = (false, eval e X.env) :: starEach [b] X.env := by rfl) (hs2 : starEach [b] X.env = (false, eval b X.env) :: starEach [] X.env := by rfl) (hpl : (backTo pos (starEach [b] X.env)).any (·.1) = false := by rfl) :
    VE ct W (withPin X (a, oe)) (.Call (.Name "isinstance" p) [e, b] [] pos) (mOp1 (gIsX (some (n, a, d)) m) me) :=
  PE.conv (pe_callB (X := withPin X (a, oe)) (call_isP (X := X) (d := d) (M.exc n hn13) hz hf) hg hm PyProof.Rows.boot_isinstance (pa_cons ha (pa_cons hb pa_nil hs2) hs) (by decide) (by decide) hs hpl) fun σ H Q h => tG.step h fun dt δ1 x G1 H1 r1 p1 h1 => by
    obtain ⟨z, ez, h3⟩ := Post.only h1
    unfold gIsX at ez
    split at ez
    · rename_i k y
      split at ez
      · rename_i n' en
        cases ez
        have := excIs_fst en
        subst this
        obtain ⟨ev, hd⟩ := rp_exc p1 en
        subst ev
        refine ⟨.ref (ct m), .ref (ct m), _, rfl, fun u hu => hu, fun dd q => ?_, M.one _ hn13 m hm13, Post.done h3 r1 (Grow.refl r1) (.bl _)⟩
        obtain ⟨fs, hfs⟩ := hd dd q
        exact ⟨fs, r1.same _ _ hfs⟩
      · cases ez
    · cases ez
theorem ve_isV1 {n : Nat} {a : Addr} {oe : Obj} {d : Option Addr} (M : Marks X.K ct cw) (hn13 : n < 13) (hz : Zc (.ref (ct n)) d oe) (hf : ∃ vs, oe.data = .fields vs) (hg : Gl X "isinstance") (hm : X.mg "isinstance" = none)
    (ha : VE ct W (withPin X (a, oe)) e me) (hb : PE (withPin X (a, oe)) b (tC (.ty "ValueError")))
    (hs : starEach [e, b] X.env = (false, eval e X.env) :: starEach [b] X.env := by rfl) (hs2 : starEach [b] X.env = (false, eval b X.env) :: starEach [] X.env := by rfl) (hpl : (backTo pos (starEach [b] X.env)).any (·.1) = false := by rfl) :
    VE ct W (withPin X (a, oe)) (.Call (.Name "isinstance" p) [e, b] [] pos) (mOp1 (gIsVX (some (n, a, d))) me) :=
  PE.conv (pe_callB (X := withPin X (a, oe)) (call_isP (X := X) (d := d) (M.exc n hn13) hz hf) hg hm PyProof.Rows.boot_isinstance (pa_cons ha (pa_cons hb pa_nil hs2) hs) (by decide) (by decide) hs hpl) fun σ H Q h => tG.step h fun dt δ1 x G1 H1 r1 p1 h1 => by
    obtain ⟨z, ez, h3⟩ := Post.only h1
    unfold gIsVX at ez
    split at ez
    · rename_i k y
      split at ez
      · rename_i n' en
        cases ez
        have := excIs_fst en
        subst this
        obtain ⟨ev, hd⟩ := rp_exc p1 en
        subst ev
        refine ⟨.ty "ValueError", .type "ValueError", _, rfl, fun u hu => hu, fun dd q => ?_, M.val _ hn13, Post.done h3 r1 (Grow.refl r1) (.bl _)⟩
        obtain ⟨fs, hfs⟩ := hd dd q
        exact ⟨fs, r1.same _ _ hfs⟩
      · cases ez
    · cases ez
def gFldX (kn : Known) (f : Str) : D → R D
  | .dict [(.int k, .tuple [.int dd, .int i, .int j])] => match excIs kn k (.tuple [.int dd, .int i, .int j]) with
    | some _ => if f = "many" then .ok (.int i) else if f = "most" then .ok (.int j) else .bad
    | none => .bad
  | _ => .bad
theorem ve_fld1 {n : Nat} {a : Addr} {oe : Obj} {d : Option Addr} {f : Str} (T : XfC X.K (ct n)) (hno : PySem.W.findIn X.K (.ref (ct n)) f = some none) (hz : Zc (.ref (ct n)) d oe) (hf : ∃ vs, oe.data = .fields vs) (ha : VE ct W (withPin X (a, oe)) e me)
    (hb : attributeBase e f X.env (eval e X.env) = eval e X.env := by rfl) :
    VE ct W (withPin X (a, oe)) (.Attribute e f pos) (mOp1 (gFldX (some (n, a, d)) f) me) :=
  PE.conv (pe_xp (X := X) (d := d) T hno hz hf ha hb) fun σ H Q h => tG.step h fun dt δ1 x G1 H1 r1 p1 h1 => by
    obtain ⟨z, ez, h3⟩ := Post.only h1
    unfold gFldX at ez
    split at ez
    · rename_i k dd i j
      split at ez
      · rename_i n' en
        have := excIs_fst en
        subst this
        obtain ⟨ev, hd⟩ := rp_exc p1 en
        subst ev
        have key : ∃ d0 : Addr, d = some d0 ∧ H1 d0 = some (.xd [("most", .int j), ("many", .int i)]) := by
          cases d with
          | none => simp [excIs] at en
          | some d0 =>
            simp only [excIs] at en
            split at en
            · rename_i z2
              refine ⟨d0, rfl, ?_⟩
              cases p1 with
              | exF hg =>
                rw [← show (_ : Addr) = d0 from Int.ofNat.inj z2.2]
                exact r1.same _ _ hg
            · cases en
        obtain ⟨d0, e0, h0⟩ := key
        split at ez
        · rename_i ef
          cases ez
          subst ef
          exact ⟨rfl, rfl, d0, _, .int i, e0, h0, rfl, Post.done h3 r1 (Grow.refl r1) (.int _)⟩
        · split at ez
          · rename_i ef
            cases ez
            subst ef
            exact ⟨rfl, rfl, d0, _, .int j, e0, h0, rfl, Post.done h3 r1 (Grow.refl r1) (.int _)⟩
          · cases ez
      · cases ez
    · cases ez
end
end TW
set_option Elab.async false
set_option linter.all false
set_option maxRecDepth 100000
namespace TW
open PySem PySem.Spec PyProof.Rows L2
end TW
set_option Elab.async false
set_option linter.all false
set_option maxRecDepth 100000
namespace TW
open PySem PySem.Spec PyProof.Rows L2
def maskC (c : C) : C := match c with
  | .own _ _ => .un
  | c => c
def mask (cs : List C) : List C := cs.map maskC
section
variable {K : PySem.W.Frag} {ct : Nat → Addr} {δ δ' : List C} {G G' H H1 H' : Hp} {σ : L2.St}
theorem mask_own {i : Nat} {t : Bool} {ds : List D} (h : (mask δ)[i]? = some (.own t ds)) : False := by
  unfold mask at h
  rw [List.getElem?_map] at h
  cases e : δ[i]? with
  | none => rw [e] at h; cases h
  | some c => rw [e] at h; cases c <;> simp [maskC] at h
theorem mask_dat {i : Nat} {d : D} (h : (mask δ)[i]? = some (.dat d)) : δ[i]? = some (.dat d) := by
  unfold mask at h
  rw [List.getElem?_map] at h
  cases e : δ[i]? with
  | none => rw [e] at h; cases h
  | some c => rw [e] at h; cases c <;> simp [maskC] at h; rw [h]
theorem mask_ow {t : Bool} {b : Addr} : ¬ Ow t (mask δ) σ b := fun ⟨_, _, h, _⟩ => mask_own h
theorem Rel.made (r : Rel K δ G σ H) (e : LamX.ExtN H H1) (ht : LamX.Tabs (lamT K) H1) : Rel K δ G σ H1 :=
  ⟨r.len, fun b o h => e b o (r.same b o h) (r.nt b o h), r.nt, r.dat, fun i t ds h => by
    obtain ⟨p, vs, h1, h2, h3⟩ := r.own i t ds h
    exact ⟨p, vs, h1, e p _ h2 (fun _ z => nomatch z), h3⟩, r.inj, ht⟩
theorem Rel.mask (r : Rel K δ G σ H) : Rel K (TW.mask δ) G σ H :=
  ⟨by unfold TW.mask; rw [List.length_map]; exact r.len, r.same, r.nt, fun i d h => r.dat i d (mask_dat h), fun i t ds h => (mask_own h).elim, fun i j p t u ds es h => (mask_own h).elim, r.tabs⟩
theorem made_ext (e : LamX.ExtN H H1) : Ext δ G H σ δ G H1 σ :=
  ⟨fun b o h n _ => e b o h n, fun b h o q n => h o (e b o q n) n, Same.refl _, fun _ _ h => .inl h, fun _ h => .inl h, fun _ h => h⟩
theorem Rel.back (r : Rel K δ G σ H) (x : Ext (TW.mask δ) G H σ δ' G' H' σ) (r' : Rel K δ' G' σ H') : Rel K δ G' σ H' := by
  refine ⟨r.len, r'.same, r'.nt, fun i d h => ?_, fun i t ds h => ?_, r.inj, r'.tabs⟩
  · obtain ⟨v, h1, h2⟩ := r.dat i d h
    exact ⟨v, h1, h2.mono x.same⟩
  · obtain ⟨p, vs, h1, h2, h3, h4, h5⟩ := r.own i t ds h
    refine ⟨p, vs, h1, x.keep _ _ h2 nt_lst fun ⟨t, z⟩ => mask_ow z, ?_, h4, h5.mono x.same⟩
    cases q : G' p with
    | none => rfl
    | some o =>
      rcases x.new p o q with z | z | z
      · rw [h3] at z; cases z
      · exact z.not h2 (r'.same _ _ q) (x.keep _ _ h2 nt_lst fun ⟨t, z⟩ => mask_ow z)
      · exact absurd z mask_ow
theorem ext_back (x : Ext (TW.mask δ) G H σ δ' G' H' σ) : Ext δ G H σ δ G' H' σ :=
  ⟨fun b o h n _ => x.keep b o h n fun ⟨t, z⟩ => mask_ow z, x.back, x.same, fun b o h => (x.new b o h).imp id fun z => z.elim .inl fun z => absurd z mask_ow, fun b z => .inl z, fun b z => z⟩
theorem Rel.caught (r : Rel K δ G σ H) (x : EExt K (TW.mask δ) σ H H') : Rel K δ G σ H' :=
  ⟨r.len, fun b o h => x.keep b o (r.same b o h) (r.nt b o h) fun ⟨t, z⟩ => mask_ow z, r.nt, r.dat, fun i t ds h => by
    obtain ⟨p, vs, h1, h2, h3⟩ := r.own i t ds h
    exact ⟨p, vs, h1, x.keep _ _ h2 nt_lst fun ⟨t, z⟩ => mask_ow z, h3⟩, r.inj, x.tabs⟩
theorem caught_ext (x : EExt K (TW.mask δ) σ H H') : Ext δ G H σ δ G H' σ :=
  ⟨fun b o h n _ => x.keep b o h n fun ⟨t, z⟩ => mask_ow z, x.back, Same.refl _, fun _ _ h => .inl h, fun _ h => .inl h, fun _ h => h⟩
end
def mRefused (m : M D) : M D := fun cs => match m (mask cs) with
  | .ok _ => .ok (.none, cs)
  | .err n [] => if n < 12 then .ok (.list [.int n], cs) else .bad
  | .err n [.int i, .int j] => if n = 12 then .ok (.list [.int 12, .int i, .int j], cs) else .bad
  | _ => .bad
end TW
set_option Elab.async false
set_option linter.all false
set_option maxRecDepth 100000
namespace TW
open PySem PySem.Spec PyProof.Rows L2
abbrev W00 : WX := fun _ _ _ _ => False
abbrev EndQ (Q : VK) : Ends := { nx := fun _ H' => Q .non H', rt := Q }
def TTref (K : PySem.W.Frag) (ct : Nat → Addr) (L : Nat) (m0 : MS) (m1 : Nat → Addr → Option Addr → MS) : (XK → Hp → VK → Prop) → Hp → VK → Prop := fun tl H Q =>
  tl (fun cls dx H' => ∃ n xs, n < 13 ∧ ErrR ct n xs cls dx H' ∧ ∀ a σ', H' a = none → σ'.length = L → σ'[1]? = some (some (.ref a)) → tS K ct W00 (m1 n a dx) (EndQ Q) σ' H') H
    fun _ H' => ∀ σ' : L2.St, σ'.length = L → σ'[1]? = some (some .non) → tS K ct W00 m0 (EndQ Q) σ' H'
def rest0 (L : Nat) (d : D) : List C := .un :: .dat d :: List.replicate (L - 2) .un
structure Tells (L : Nat) (m0 : MS) (m1 : Nat → Addr → Option Addr → MS) : Prop where
  two : 2 ≤ L
  non : ∃ cs', m0 (rest0 L .none) = .ok (.rt .none, cs')
  one : ∀ n, n < 12 → ∀ a : Addr, ∃ cs', m1 n a none (rest0 L (.dict [(.int a, .none)])) = .ok (.rt (.list [.int n]), cs')
  big : ∀ (a dd : Addr) (i j : Int), ∃ cs', m1 12 a (some dd) (rest0 L (.dict [(.int a, .tuple [.int dd, .int i, .int j])])) = .ok (.rt (.list [.int 12, .int i, .int j]), cs')
section
variable {K : PySem.W.Frag} {ct : Nat → Addr} {G H : Hp} {L : Nat} {σ' : L2.St} {d : D} {v : V}
theorem rest0_len (h : 2 ≤ L) : (rest0 L d).length = L := by
  unfold rest0
  rw [List.length_cons, List.length_cons, List.length_replicate]
  omega
theorem rest0_get {i : Nat} {c : C} (h : (rest0 L d)[i]? = some c) : c = .un ∨ i = 1 ∧ c = .dat d := by
  unfold rest0 at h
  match i, h with
  | 0, h => cases h; exact .inl rfl
  | 1, h => cases h; exact .inr ⟨rfl, rfl⟩
  | i + 2, h =>
    rw [List.getElem?_cons_succ, List.getElem?_cons_succ, List.getElem?_replicate] at h
    split at h
    · cases h; exact .inl rfl
    · cases h
theorem rest0_rel (h2 : 2 ≤ L) (s : Same G H) (n : ∀ b o, G b = some o → NT o) (t : LamX.Tabs (lamT K) H) (hl : σ'.length = L) (h1 : σ'[1]? = some (some v)) (hv : Rp K G v d) : Rel K (rest0 L d) G σ' H := by
  have no : ∀ {i : Nat} {t : Bool} {ds : List D}, (rest0 L d)[i]? = some (.own t ds) → False := fun h => by
    rcases rest0_get h with z | ⟨z, y⟩
    · cases z
    · cases y
  refine ⟨by rw [rest0_len h2, hl], s, n, fun i e h => ?_, fun i t ds h => (no h).elim, fun i j p t u ds es h => (no h).elim, t⟩
  rcases rest0_get h with z | ⟨z, y⟩
  · cases z
  · cases y; subst z; exact ⟨v, h1, hv⟩
theorem rest0_ow {t : Bool} {b : Addr} : ¬ Ow t (rest0 L d) σ' b := fun ⟨i, es, h, _⟩ => by
  rcases rest0_get h with z | ⟨z, y⟩
  · cases z
  · cases y
theorem rel_keep {δ : List C} {σ : L2.St} {G0 G2 H' H2 : Hp} (r : Rel K δ G σ H') (x : Ext [] G0 H' [] [] G2 H2 []) (t : LamX.Tabs (lamT K) H2) : Rel K δ G σ H2 := by
  have no : ∀ {b : Addr}, ¬ OwA ([] : List C) ([] : L2.St) b := fun ⟨_, _, _, z, _⟩ => by simp at z
  refine ⟨r.len, fun b o h => x.keep b o (r.same b o h) (r.nt b o h) no, r.nt, r.dat, fun i t ds h => ?_, r.inj, t⟩
  obtain ⟨p, vs, h1, h2, h3⟩ := r.own i t ds h
  exact ⟨p, vs, h1, x.keep _ _ h2 nt_lst no, h3⟩
end
end TW
set_option Elab.async false
set_option linter.all false
set_option maxRecDepth 100000
namespace TW
open PySem PySem.Spec PyProof.Rows L2
section
variable {K : PySem.W.Frag} {ct : Nat → Addr} {L : Nat} {m0 : MS} {m1 : Nat → Addr → Option Addr → MS}
theorem told_end {δ : List C} {G H H' : Hp} {σ σ' : L2.St} {d : D} {is : List Int} {cs' : List C} {Q : VK} {G0 : Hp} (rc : Rel K δ G σ H') (xc : Ext δ G H σ δ G H' σ) (sg : ∀ b xs, G0 b = some (.lst xs) → G b = some (.lst xs))
    (hQ : ∀ v G' H', Ext δ G H σ δ G' H' σ → Rel K δ G' σ H' → Rp K G' v (.list (is.map .int)) → Q v H') :
    PostS K ct W00 (.ok (.rt (.list (is.map .int)), cs')) (rest0 L d) G0 H' σ' (EndQ Q) := by
  intro v2 σ2 G2 H2 x2 r2 rp
  have xo : Ext [] G0 H' [] [] G2 H2 [] := ext_out (fun t b => rest0_ow) x2
  have rk := rel_keep rc xo r2.tabs
  obtain ⟨p, xs, ev, hp, hz, ha⟩ := Rp.ofLst rp
  subst ev
  have ex := row_rp ha
  subst ex
  have no : ∀ {b : Addr}, ¬ OwA ([] : List C) ([] : L2.St) b := fun ⟨_, _, _, z, _⟩ => by simp at z
  have fr : G p = some (.lst (is.map V.int)) ∨ G p = none ∧ Fre H' p := by
    cases e : G p with
    | some o =>
      have e2 := r2.same _ _ hp
      rw [rk.same _ _ e] at e2
      cases e2
      exact .inl rfl
    | none =>
      rcases xo.new p _ hp with z | z | ⟨_, _, z, _⟩
      · rw [sg _ _ z] at e; cases e
      · exact .inr ⟨rfl, z.elim id fun ⟨_, e⟩ => code_not_lst e⟩
      · simp at z
  have e1 : Ext δ G H' σ δ G H2 σ := ⟨fun b o h n _ => xo.keep b o h n no, xo.back, Same.refl _, fun _ _ h => .inl h, fun _ h => .inl h, fun _ h => h⟩
  have hz : (is.map PyData.int).length ≤ sizeLine := hz
  rcases fr with e | ⟨e, f⟩
  · exact hQ _ G H2 (xc.trans e1) rk (.lst e hz (ints_rp is))
  · obtain ⟨x3, r3, rp3⟩ := fresh_rel e1 rk f (r2.same _ _ hp) e (fresh_notF rc f) hz (ints_rp is)
    exact hQ _ _ H2 (xc.trans x3) r3 rp3
theorem refused_core {W : WX} {me : M D} (T : Tells L m0 m1) {σ : L2.St} {H : Hp} {Q : VK} (h : tG K ct W (PD K) (mRefused me) σ H Q) : LamX.tLam (lamT K) (TTref K ct L m0 m1) (fun E => tG K ct (WE' E) (PD K) me) σ H Q := by
  obtain ⟨δ, G, rel, h⟩ := h
  refine ⟨rel.tabs, fun H1 eN T1 => ?_⟩
  have r1 := rel.made eN T1
  refine ⟨mask δ, G, r1.mask, ?_⟩
  unfold mRefused at h
  cases e : me (mask δ) with
  | ok p =>
    obtain ⟨d, δ'⟩ := p
    rw [e] at h
    intro v G' H' x r' _ σ' hl h1
    obtain ⟨cs', ec⟩ := T.non
    refine ⟨rest0 L .none, G', rest0_rel T.two r'.same r'.nt r'.tabs hl h1 .non, ?_⟩
    rw [ec]
    intro v2 σ2 G2 H2 x2 r2 rp
    have xo : Ext [] G' H' [] [] G2 H2 [] := ext_out (fun t b => rest0_ow) x2
    exact h v2 G2 H2 (((made_ext eN).trans (ext_back x)).trans xo.in) (rel_in (r1.back x r') xo ⟨r2.same, r2.nt, r2.tabs⟩) rp
  | bad => rw [e] at h; exact h.elim
  | err n xs =>
    rw [e] at h
    intro cls dx σe H' x er
    have rc := r1.caught x
    have xc : Ext δ G H σ δ G H' σ := (made_ext eN).trans (caught_ext x)
    split at h
    · rename_i q; cases q
    · rename_i q
      cases q
      split at h
      · rename_i hn
        refine ⟨n, [], by omega, er, fun a σ' ha hl h1 => ?_⟩
        obtain ⟨_, rfl⟩ := er
        obtain ⟨cs', ec⟩ := T.one n hn a
        refine ⟨rest0 L (.dict [(.int a, .none)]), G, rest0_rel T.two rc.same rc.nt rc.tabs hl h1 .ex0, ?_⟩
        rw [ec]
        exact told_end (is := [(n : Int)]) rc xc (fun _ _ z => z) fun v G' H' x r rp => h v G' H' x r rp
      · exact h.elim
    · rename_i i j q
      cases q
      split at h
      · rename_i hn
        subst hn
        refine ⟨12, [.int i, .int j], by omega, er, fun a σ' ha hl h1 => ?_⟩
        obtain ⟨_, dd, rfl, hd⟩ := er
        obtain ⟨cs', ec⟩ := T.big a dd i j
        have up : ∀ b o, upd G dd (.xd [("most", .int j), ("many", .int i)]) b = some o → H' b = some o ∧ NT o ∧ (b = dd ∨ G b = some o) := fun b o z => by
          by_cases q : b = dd
          · subst q; rw [upd_same] at z; cases z; exact ⟨hd, (fun ps y => nomatch y), .inl rfl⟩
          · rw [upd_ne q] at z; exact ⟨rc.same _ _ z, rc.nt _ _ z, .inr z⟩
        refine ⟨rest0 L (.dict [(.int a, .tuple [.int dd, .int i, .int j])]), upd G dd (.xd [("most", .int j), ("many", .int i)]), rest0_rel T.two (fun b o z => (up b o z).1) (fun b o z => (up b o z).2.1) rc.tabs hl h1 (.exF upd_same), ?_⟩
        rw [ec]
        exact told_end (is := [(12 : Int), i, j]) rc xc (fun b xs z => by
          by_cases q : b = dd
          · subst q; rw [upd_same] at z; cases z
          · rw [upd_ne q] at z; exact z) fun v G' H' x r rp => h v G' H' x r rp
      · exact h.elim
    · exact h.elim
end
end TW
set_option Elab.async false
set_option linter.all false
set_option maxRecDepth 100000
namespace TW
open PySem PySem.Spec PyProof.Rows L2
section
variable {X : Cx} {ct : Nat → Addr} {cw : Addr} {N : List Str} {x a : Str} {sg : Scope} {g : Addr} {cdg : Value} {q : Str} {rest : List Stmt} {m0 : MS} {m1 : Nat → Addr → Option Addr → MS} {ie : Nat} {py pc p0 p1 p2 p3 p4 p5 p6 p7 p8 p9 : Pos} {j0 : Nat}
abbrev Zr (X : Cx) (N : List Str) (x : Str) (sg : Scope) (g : Addr) (cdg : Value) (s : Shared) (H : Hp) : Cx := (cxOf C8.CX0 X.prog X.w X.K X.mg X.base N x sg g cdg X.A X.stack s H C8.E0).nox
theorem ref_gives (hN : N.Nodup) (n0 : N[0]? = some a) (n1 : N[1]? = some ("_law_error" : Str)) (ne : N[ie]? = some ("e" : Str)) (hie : ie ≠ 0 ∧ ie ≠ 1) (hl1 : sg.names.lookup ("_law_error" : Str) = some .local) (hle : sg.names.lookup ("e" : Str) = some .local) (kind : sg.kind = .function)
    (hw : sg.names.lookup ("WebError" : Str) = some .globalImplicit) (mw : X.mg "WebError" = some (.ref cw)) (M : Marks X.K ct cw) (kd : ∀ s H, (Zr X N x sg g cdg s H).env.kindOf ("e" : Str) = some .local)
    (h0 : ∀ s H, VSs ct W00 (Zr X N x sg g cdg s H) rest m0)
    (h1 : ∀ s H n, n < 13 → ∀ (b : Addr) (oe : Obj) (d : Option Addr), Zc (.ref (ct n)) d oe → (∃ vs, oe.data = .fields vs) → VSs ct W00 (withPin (Zr X N x sg g cdg s H) (b, oe)) rest (m1 n b d)) :
    LamX.GivesTo X N x sg g cdg (.Assign [.Name "_law_error" py] (.Constant .none j0 pc) p0 :: .Try [.Expr (.Call (.Name a p1) [] [] p2) p3] [.ExceptHandler (some (.Name "WebError" p4)) (some "e") [.Assign [.Name "_law_error" p5] (.Name "e" p6) p7] p8] [] [] p9 :: rest) a q (TTref X.K ct N.length m0 m1) := by
  intro f c' s H Q tl act hc h
  have hgl : Gl (Zr X N x sg g cdg s H) "WebError" := hw
  have weak : ∀ {Y : Cx} {e : Expr} {tt : TE}, PE Y e tt → PE Y e (fun σ H Q => ∃ Qs : VK, (∀ v H', Qs v H' → Q v H') ∧ tt σ H Qs) := fun {Y e tt} hp => ⟨fun pins s σ H Q I ⟨Qs, hQ, ht⟩ => thn (hp.run pins s σ H Qs I ht) fun u s1 ⟨v, H1, I1, r1, q1⟩ => ⟨v, H1, I1, r1, hQ v H1 q1⟩⟩
  refine ⟨_, pss_cons (ps_set (X := Zr X N x sg g cdg s H) (i := 1) hN n1 (.inl hl1) pe_non (hf := .inr hl1)) (pss_try_rest (X := Zr X N x sg g cdg s H) (c := .ref cw) (i := ie) (Wout := W00)
      (tb := fun W D σ H => ∃ Ech : XK, (∀ cls d σ' H', Ech cls d H' → W cls d σ' H') ∧ ∃ Qs : VK, (∀ v H', Qs v H' → D.nx σ H') ∧ σ[0]? = some (some (.ref f)) ∧ H c' = some (LamX.CodeO c' q) ∧ tl Ech H Qs)
      (ts := fun _ _ _ => tAsg (tVar ie) (gName 1)) (v := fun b cls d D σ H => ∃ n, n < 13 ∧ cls = .ref (ct n) ∧ (σ.length = N.length → tS X.K ct W00 (m1 n b d) D σ H))
      rfl rfl hN ne (kd s H) ⟨hgl, by decide, .inl mw⟩ LamX.takes0 (fun W pn xe tk _ => ?hb) (fun b oe cls d pn _ _ => ?hs) (h0 s H) (fun b oe cls d hz hf => ?he)), ?_⟩
  case hb =>
    refine ⟨fun pins s' σ H' D I h' => ?_⟩
    obtain ⟨Ech, hW, Qs, hQ, a1, a2, a3⟩ := h'
    have hp := weak (act W pn xe Ech p1 p2 tk hW)
    exact (pss_one (ps_expr (pos := p3) hp)).run pins s' σ H' D I ⟨Qs, hQ, a1, a2, a3⟩
  case hs => exact pss_one (ps_set (i := 1) hN n1 (.inl hl1) (pe_var (i := ie) ne (.inl hle) (by decide) (by decide)) (hf := .inr hl1))
  case he =>
    refine ⟨fun pins s' σ H' D I h' => ?_⟩
    obtain ⟨n, hn, ec, ht⟩ := h'
    subst ec
    exact (h1 s H n hn b oe d hz hf).run pins s' σ H' D I (ht I.len)
  have big1 : 1 < N.length := (List.getElem?_eq_some_iff.mp n1).1
  have bige : ie < N.length := (List.getElem?_eq_some_iff.mp ne).1
  have l0 : (L2.start N [V.ref f]).length = N.length := start_len (by show 1 ≤ N.length; omega)
  have hs0 : (L2.start N [V.ref f])[0]? = some (some (.ref f)) := start_at rfl
  refine ⟨fun cls d H' => ∃ n xs, n < 13 ∧ ErrR ct n xs cls d H' ∧ ∀ (a : Addr) (σ' : L2.St), H' a = none → σ'.length = N.length → σ'[1]? = some (some (V.ref a)) → tS X.K ct W00 (m1 n a d) (EndQ Q) σ' H', ?_, (fun _ H' => ∀ σ' : L2.St, σ'.length = N.length → σ'[1]? = some (some V.non) → tS X.K ct W00 m0 (EndQ Q) σ' H'), ?_, ?_, hc, h⟩
  · rintro cls d σ' H' ⟨n, xs, hn, er, k⟩
    refine ⟨true, by rw [er.1]; exact M.web n hn, fun _ hlen b hb => ?_, fun z => nomatch z⟩
    have hlen : σ'.length = N.length := hlen
    refine ⟨.ref b, by rw [List.getElem?_set_self (by rw [hlen]; exact bige)], n, hn, er.1, fun _ => ?_⟩
    refine k b _ hb (by simp [hlen]) ?_
    rw [List.getElem?_set_ne hie.2, List.getElem?_set_self (by simp [hlen]; exact big1)]
  · exact fun v H' hv => hv _ (by rw [List.length_set]; exact l0) (List.getElem?_set_self (by rw [l0]; exact big1))
  · rw [List.getElem?_set_ne (by decide)]; exact hs0
end
end TW
set_option Elab.async false
set_option linter.all false
set_option maxRecDepth 100000
namespace TW
open PySem PySem.Spec PyProof.Rows L2
theorem boot_VE : bootBuiltins "ValueError" = some (.type "ValueError") := by decide +kernel
def errNames : List Str := ["NoWeb", "NoPlace", "NoPlaces", "NoMap", "NoSharing", "NoRoot", "NoNumber", "NotJoined", "NoTie", "NoText", "NoLine", "NoDeed", "TooGreat"]
def clsAt (K : PySem.W.Frag) (x : Str) : Addr := match PySem.W.nsIn K mainGlobals x with
  | some (some (.ref a)) => a
  | _ => 0
def ctK (K : PySem.W.Frag) (n : Nat) : Addr := clsAt K (errNames.getD n "")
abbrev veMro : List Value := [.type "ValueError", .type "Exception", .type "BaseException", .type "object"]
def hereB (K : PySem.W.Frag) (x : Str) : Bool := decide (PySem.W.nsIn K mainGlobals x = some (some (.ref (clsAt K x))))
def errB (K : PySem.W.Frag) (x : Str) : Bool := hereB K x && (PySem.W.excIn K (clsAt K x) veMro "ValueError.__new__" && (PySem.W.keepIn K (.ref (clsAt K x)) && (decide (PySem.W.subIn K (.ref (clsAt K x)) (.type "BaseException") = some true) && decide (PySem.W.typeIn K (.ref (clsAt K x)) = some (.type "type")))))
theorem here_of {K : PySem.W.Frag} {h : Heap} {mg : Str → Option Value} {x : Str} (X : K.In h) (G : h.Ns mainGlobals mg) (e : hereB K x = true) : mg x = some (.ref (clsAt K x)) := PySem.W.mg_of X G (of_decide_eq_true e)
theorem errC_of {K : PySem.W.Frag} {h : Heap} {mg : Str → Option Value} (X : K.In h) (G : h.Ns mainGlobals mg) (n : Nat) {x : Str} (hx : errNames.getD n "" = x) (e : errB K x = true) : ErrC K mg (ctK K) n x := by
  unfold errB at e
  simp only [Bool.and_eq_true, decide_eq_true_eq] at e
  obtain ⟨e1, e2, e3, e4, e5⟩ := e
  have hc : ctK K n = clsAt K x := by unfold ctK; rw [hx]
  refine ⟨?_, ⟨_, _, _, _, PySem.F.excBase_ValueError, ?_⟩, ?_, ?_, ?_⟩
  · rw [hc]; exact here_of X G e1
  · rw [hc]; exact e2
  · rw [hc]; exact e3
  · rw [hc]; exact e4
  · rw [hc]; exact e5
def excCB (K : PySem.W.Frag) (D : Addr) : Bool :=
  decide (PySem.W.findIn K (.ref D) "__getattribute__" = some (some (.builtin "BaseException.__getattribute__"))) && (decide (PySem.W.findIn K (.ref D) "__getattr__" = some none) && (decide (PySem.W.subIn K (.ref D) (.type "BaseException") = some true) && (PySem.W.hasDictIn K D &&
  (decide (PySem.W.findIn K (.ref D) "__class__" = some (some (.builtin "object.__class__"))) && (decide (PySem.W.specialIn K (.builtin "object.__class__") "__get__" = some (some (.builtin "getset_descriptor.__get__"))) && (decide (PySem.W.takesIn K (.builtin "object.__class__") = some true) && decide (PySem.W.mroIn K D (.type "object") = some true)))))))
theorem excCB_ok {K : PySem.W.Frag} {D : Addr} (e : excCB K D = true) : ExcC K D := by
  unfold excCB at e
  simp only [Bool.and_eq_true, decide_eq_true_eq] at e
  obtain ⟨e1, e2, e3, e4, e5, e6, e7, e8⟩ := e
  exact ⟨e1, e2, e3, e4, e5, e6, e7, e8⟩
def marksB (K : PySem.W.Frag) (cw : Addr) : Bool :=
  ((List.range 13).all fun n => hereB K (errNames.getD n "") && (excCB K (ctK K n) && (decide (PySem.W.kitOne K (.ref (ctK K n)) (.type "ValueError") = some true) && (decide (PySem.W.kitOne K (.type "NoneType") (.ref (ctK K n)) = some false) &&
    (decide (PySem.W.exmOne K (.ref (ctK K n)) (.ref cw) = some true) && (List.range 13).all fun m => decide (PySem.W.kitOne K (.ref (ctK K n)) (.ref (ctK K m)) = some (n == m))))))) &&
  decide (PySem.W.kitOne K (.type "NoneType") (.type "ValueError") = some false)
theorem marksB_ok {K : PySem.W.Frag} {cw : Addr} (e : marksB K cw = true) : Marks K (ctK K) cw ∧ ∀ n, n < 13 → hereB K (errNames.getD n "") = true := by
  unfold marksB at e
  rw [Bool.and_eq_true, List.all_eq_true] at e
  obtain ⟨e1, e2⟩ := e
  have k : ∀ n, n < 13 → _ := fun n hn => e1 n (List.mem_range.mpr hn)
  simp only [Bool.and_eq_true, decide_eq_true_eq, List.all_eq_true] at k
  exact ⟨⟨fun n hn => excCB_ok (k n hn).2.1, fun n hn m hm => (k n hn).2.2.2.2.2 m (List.mem_range.mpr hm), fun n hn => (k n hn).2.2.2.1, fun n hn => (k n hn).2.2.1, of_decide_eq_true e2, fun n hn => (k n hn).2.2.2.2.1⟩, fun n hn => (k n hn).1⟩
structure Errs (K : PySem.W.Frag) (mg : Str → Option Value) (ct : Nat → Addr) (cw : Addr) : Prop where
  M : Marks K ct cw
  web : mg "WebError" = some (.ref cw)
  gl : ∀ n, n < 13 → mg (errNames.getD n "") = some (.ref (ct n))
  T : ∀ n, n < 13 → XfC K (ct n)
  noM : ∀ n, n < 13 → PySem.W.findIn K (.ref (ct n)) "many" = some none
  noN : ∀ n, n < 13 → PySem.W.findIn K (.ref (ct n)) "most" = some none
  gg : PySem.W.exmOne K (.ref (ct 12)) (.ref (ct 12)) = some true
def errsB (K : PySem.W.Frag) : Bool := decide (PySem.W.exmOne K (.ref (ctK K 12)) (.ref (ctK K 12)) = some true) && (hereB K "WebError" && (marksB K (clsAt K "WebError") && (List.range 13).all fun n => xfB K (ctK K n) && (decide (PySem.W.findIn K (.ref (ctK K n)) "many" = some none) && decide (PySem.W.findIn K (.ref (ctK K n)) "most" = some none))))
theorem errs_of {K : PySem.W.Frag} {h : Heap} {mg : Str → Option Value} (X : K.In h) (G : h.Ns mainGlobals mg) (e : errsB K = true) : Errs K mg (ctK K) (clsAt K "WebError") := by
  unfold errsB at e
  rw [Bool.and_eq_true, Bool.and_eq_true, Bool.and_eq_true, List.all_eq_true] at e
  obtain ⟨e0, e1, e2, e3⟩ := e
  have k : ∀ n, n < 13 → _ := fun n hn => e3 n (List.mem_range.mpr hn)
  simp only [Bool.and_eq_true, decide_eq_true_eq] at k
  obtain ⟨m1, m2⟩ := marksB_ok e2
  exact ⟨m1, here_of X G e1, fun n hn => here_of X G (m2 n hn), fun n hn => xfB_ok (k n hn).1, fun n hn => (k n hn).2.1, fun n hn => (k n hn).2.2, of_decide_eq_true e0⟩
structure Maker (X : Cx) : Prop where
  ex : ∃ c P, LamX.TabB X.base X.mg c P ∧ X.env.code = .ref c ∧ (P, X.env.qual ++ "<lambda>") ∈ lamT X.K ∧ ∀ p ∈ lamT X.K, p.1 = P → p.2 = X.env.qual ++ "<lambda>"
section
variable {ct : Nat → Addr} {W : WX} {X : Cx} {x a : Str} {st : Stmt} {Ng : List Str} {m0 : MS} {m1 : Nat → Addr → Option Addr → MS} {params : Arguments} {body : Expr} {scope : Scope} {me : M D} {p lpos pos : Pos} {k : Nat}
def Refuses (X : Cx) (ct : Nat → Addr) (x a : Str) (st : Stmt) (Ng : List Str) (m0 : MS) (m1 : Nat → Addr → Option Addr → MS) : Prop :=
  ∀ (g : Addr) (cdv : Value) (q : Str), LamX.GivesTo X Ng x (defScope st) g cdv (defBody st) a q (TTref X.K ct Ng.length m0 m1)
theorem ve_refused (mk : Maker X) (T : Tx X.K X.mg x st [a]) (Sg : FnScope Ng [a] (defScope st)) (h0 : Ng[0]? = some a) (hva : Vis (defScope st) a) (hG : Refuses X ct x a st Ng m0 m1) (tl : Tells Ng.length m0 m1) (hg : Gl X x) (hr : Room (k + 2) X.A)
    (L : LamX.LamS X.env.scope scope) (hbody : ∀ (A : Around) (outer : List Env) (s : Shared) (H : Hp) (E : XK) (f c' : Addr), Room k (LamX.lamCx X A outer s H E scope f c').A → Takes (LamX.lamCx X A outer s H E scope f c') (WE' E) → VE ct (WE' E) (LamX.lamCx X A outer s H E scope f c') body me)
    (hdef : defaultsOf params X.env = ([], []) := by rfl)
    (hbind : ∀ (q : Str) (cl : List (Str × Addr)) (pm cv ctv : Value), bindArgs (PySem.W.kla_fn "<lambda>" q params body scope cl pm cv ctv) ⟨[], []⟩ = pure [] := by intro _ _ _ _ _; rfl)
    (hdb : (x == ("__debug__" : Str)) = false := by decide) (hd : (a == ("__debug__" : Str)) = false := by decide) (hcd : (a == ("__classdict__" : Str)) = false := by decide) :
    VE ct W X (.Call (.Name x p) [.Lambda params body scope lpos] [] pos) (mRefused me) := by
  obtain ⟨c, P, TB, hcode, hm, hu⟩ := mk.ex
  obtain ⟨f, fd, F, hmg, hb⟩ := T.ex
  have hk := F.kp
  obtain ⟨oc, od, kV, doc, pm, an, cdv, cv, osl, rfl, lk, hcd'⟩ := F.ex
  exact PE.conv (LamX.pe_lamcall (T := lamT X.K) (TT := TTref X.K ct Ng.length m0 m1) (t := fun E => tG X.K ct (WE' E) (PD X.K) me) hg hmg hk lk hcd' hb Sg h0 hva (hG f cdv _) TB hcode hm hu hr L hdef hbind (fun A outer s H E f c' hr' => hbody A outer s H E f c' hr' (takes_of rfl rfl rfl rfl)) hdb hd hcd) fun σ H Q h => refused_core tl h
end
section
variable {P : Program} {w : World} {K : PySem.W.Frag} {mg : Str → Option Value} {base : Heap} {ct : Nat → Addr} {x qual : Str} {st : Stmt} {f : Addr} {fd : FuncData} {N ps : List Str} {k n : Nat} {body : MS} {oc kV doc pm cdv cv : Value} {od an : Option Addr} {osl : Array (Option Value)}
def BodyAt (P : Program) (w : World) (K : PySem.W.Frag) (mg : Str → Option Value) (base : Heap) (ct : Nat → Addr) (N : List Str) (x : Str) (st : Stmt) (cdv : Value) (k : Nat) (body : MS) : Prop :=
  ∀ (f : Addr) (A : Around) (outer : List Env) (s : Shared) (H : Hp) (E : XK), Room k (Bx P w K mg base N x st f cdv A outer s H E).A → Takes (Bx P w K mg base N x st f cdv A outer s H E) (WE' E) →
      PassesOwn (model P w) (Bx P w K mg base N x st f cdv A outer s H E).A (Bx P w K mg base N x st f cdv A outer s H E).env (Bx P w K mg base N x st f cdv A outer s H E).xe →
      VSs ct (WE' E) (Bx P w K mg base N x st f cdv A outer s H E) (defBody st) body
theorem fnD_okC (lk : K.lookup f = some ⟨oc, od, .func (PySem.W.fnOf x qual (defArgs st) (defBody st) (defScope st) .none kV doc pm an cdv cv), osl⟩) (hcd : PySem.W.codeIn K cdv qual = true) (S : FnScope N ps (defScope st)) (hps : ps.length = n) (hn : ps.length ≤ N.length)
    (hb : BodyAt P w K mg base ct N qual st cdv k body) : FnOk P w K mg base (L2.CX P w) (k + 1) f (PySem.W.fnOf x qual (defArgs st) (defBody st) (defScope st) .none kV doc pm an cdv cv) ps (spD K ct n (fnD N.length body)) := by
  refine fn_of lk hcd S (fun vs H Q E ⟨ds, G, hl, fz, ha, _⟩ => by rw [RpAll.length ha, hl, hps]) fun A outer s H vs Q E hr ⟨ds, G, hl, fz, ha, hq⟩ => ?_
  refine ⟨_, hb f A outer s H E hr (takes_of rfl rfl rfl rfl) (passes_of rfl), unfill N.length (ds.map .dat), G, rel_start fz ha (by rw [RpAll.length ha, hl, ← hps]; exact hn), ?_⟩
  have now : ∀ t b, ¬ Ow t (unfill N.length (ds.map .dat)) (L2.start N vs) b := fun t b => no_ow (N := N) (vs := vs)
  unfold fnD at hq
  cases eb : body (unfill N.length (ds.map .dat)) with
  | bad => rw [eb] at hq; exact hq.elim
  | err c xs =>
    rw [eb] at hq
    exact fun cls dx σ' H' x' e => hq cls dx H' (eext_out now x') e
  | ok pr =>
    obtain ⟨fl, c1⟩ := pr
    rw [eb] at hq
    cases fl with
    | nx => exact fun σ' G' H' x' r' => hq .non G' H' (ext_out now x') ⟨r'.same, r'.nt, r'.tabs⟩ .non
    | bk => exact hq.elim
    | ct => exact hq.elim
    | rt d => exact fun v σ' G' H' x' r' rp => hq v G' H' (ext_out now x') ⟨r'.same, r'.nt, r'.tabs⟩ rp
    | rn es =>
        intro p ws σ' G' H' x' r' h1 h2 h3 h4 h5 h6
        have hp : Fre H p := h5.elim (fun z => absurd z (now false p)) id
        have xo := ext_out now x'
        have sg : Same G' (upd G' p (.lst ws)) := same_upd h2
        refine hq (.ref p) (upd G' p (.lst ws)) H' ⟨xo.keep, xo.back, xo.same.trans sg, fun b o e => ?_, xo.own, xo.par⟩ ⟨fun b o e => ?_, fun b o e => ?_, r'.tabs⟩ (.lst upd_same h3 (h4.mono sg))
        · by_cases q : b = p
          · subst q; exact .inr (.inl (.inl hp))
          · rw [upd_ne q] at e; exact xo.new b o e
        · by_cases q : b = p
          · subst q; rw [upd_same] at e; cases e; exact h1
          · rw [upd_ne q] at e; exact r'.same b o e
        · by_cases q : b = p
          · subst q; rw [upd_same] at e; cases e; exact nt_lst
          · rw [upd_ne q] at e; exact r'.nt b o e
end
theorem walk_tw {l : PySem.W.OpenLaw} {n k : Nat} {q : Program} {loose : List Str} {XP : (Str → Option Value) → Heap → Prop} {YP : World → Heap → Prop} {d : DefRec} {K : Params → PySem.W.Frag} {CX : World → CXT} {x : Str}
    (hn : l.most = some n) (hn2 : n ≤ sizeLine) (hdf : d.params.defaults = []) (hr : Room k callerA) (hY : ∀ (w : World) (h : Heap), YP w h → (K w.params).In h)
    (F : ∀ (w : World) (mg : Str → Option Value) (fa : Addr) (h : Heap), YP w h → (K w.params).In h → h.Ns mainGlobals mg → mg d.name = some (.ref fa) →
      (∀ (y : Str) (c P : Addr), ((recsOf q).any fun e => e.name == y) = true → PySem.W.tabIn (K w.params) y = some (c, P) → PySem.W.CodeHd h c P ∧ h.get? P = some (PySem.W.tabObj #[])) → LamX.LawAtS l w (K w.params) (CX w) k n x mg fa h)
    (hCX : ∀ (w : World) (H : Hp) (s : Shared) (e : Value) (s' : Shared), CX w [] H s (fun _ _ _ => False) e s' → False) :
    PySem.W.WalkO q loose XP YP l.row.toRowW d [] (fun f vs => PySem.call f vs) := by
  refine Att.attach_callB hn hdf fun w s₀ s₁ mg mb fa o pm cd doc a vs ns G Y ho hd hcd hmg hobj hints hlen hbits hg => ?_
  have KX := hY w _ Y
  have hTb : ∀ (y : Str) (c P : Addr), ((recsOf q).any fun e => e.name == y) = true → PySem.W.tabIn (K w.params) y = some (c, P) → PySem.W.CodeHd s₁.heap c P ∧ s₁.heap.get? P = some (PySem.W.tabObj #[]) := fun y c P h1 h2 => by
    obtain ⟨dL, hm, hn1⟩ := List.any_eq_true.mp h1
    obtain ⟨e, he⟩ := Option.isSome_iff_exists.mp (List.find?_isSome (p := fun e : DefRec => e.name == y) |>.mpr ⟨dL, hm, hn1⟩)
    exact PySem.W.tab_of G.T KX he h2
  obtain ⟨fd, cs, sp, hT, nT, C, hb, hsp, hF⟩ := F w mg fa _ Y KX G.T.g hmg hTb
  exact LamX.law_callTs KX G.T.g G.T.b G.T.builtins G.T.nolimit hg hT nT C G.T.bmain hobj hints (Nat.le_trans hlen hn2) hr hF hb (fun H hH hS => hsp H a ns hlen hbits hH hS) fun H e s' => hCX w H s₁ e s'
section
variable {ct : Nat → Addr} {W : WX} {X : Cx} {e : Expr}
theorem ve_bad : VE ct W X e (fun _ => .bad) := ⟨fun pins s σ H Q I ⟨δ, G, r, h⟩ => h.elim⟩
end
end TW
set_option Elab.async false
set_option linter.all false
set_option maxRecDepth 100000
namespace TW
open PySem PySem.Spec PyProof.Rows L2
def Ev {α : Type} (r : R α) (Q : α → Prop) : Prop := ∃ a, r = .ok a ∧ Q a
theorem ex_two {α β : Type} {x : α} {y : β} {Q : α → β → Prop} : (∃ a c, (x = a ∧ y = c) ∧ Q a c) ↔ Q x y := ⟨fun ⟨_, _, ⟨e1, e2⟩, h⟩ => by subst e1 e2; exact h, fun h => ⟨x, y, ⟨rfl, rfl⟩, h⟩⟩
def Rn {α : Type} (m : M α) (cs : List C) (Q : α → List C → Prop) : Prop := ∃ a cs', m cs = .ok (a, cs') ∧ Q a cs'
section
variable {α β : Type}
@[simp] theorem ev_ok {a : α} {Q : α → Prop} : Ev (.ok a) Q ↔ Q a := ⟨fun ⟨_, e, h⟩ => by cases e; exact h, fun h => ⟨a, rfl, h⟩⟩
@[simp] theorem ev_bad {Q : α → Prop} : Ev (.bad : R α) Q ↔ False := ⟨fun ⟨_, e, _⟩ => (nomatch e), fun h => h.elim⟩
@[simp] theorem ev_err {n : Nat} {xs : List D} {Q : α → Prop} : Ev (.err n xs : R α) Q ↔ False := ⟨fun ⟨_, e, _⟩ => (nomatch e), fun h => h.elim⟩
theorem Ev.mono {r : R α} {Q Q' : α → Prop} (h : Ev r Q) (f : ∀ a, Q a → Q' a) : Ev r Q' := let ⟨a, e, q⟩ := h; ⟨a, e, f a q⟩
theorem Rn.mono {m : M α} {cs : List C} {Q Q' : α → List C → Prop} (h : Rn m cs Q) (f : ∀ a c, Q a c → Q' a c) : Rn m cs Q' := let ⟨a, c, e, q⟩ := h; ⟨a, c, e, f a c q⟩
theorem Ev.eq {r : R α} {a : α} (h : Ev r fun x => x = a) : r = .ok a := by obtain ⟨x, e, q⟩ := h; rw [e, q]
@[simp] theorem ev_ite {c : Prop} [Decidable c] {r s : R α} {Q : α → Prop} : Ev (if c then r else s) Q ↔ (if c then Ev r Q else Ev s Q) := by split <;> rfl
@[simp] theorem rn_bind {m : M α} {k : α → M β} {cs : List C} {Q : β → List C → Prop} : Rn (M.bind m k) cs Q ↔ Rn m cs fun a c => Rn (k a) c Q := by
  unfold Rn M.bind
  constructor
  · rintro ⟨b, c, e, q⟩
    cases em : m cs with
    | ok p => obtain ⟨a, c1⟩ := p; rw [em] at e; exact ⟨a, c1, rfl, b, c, e, q⟩
    | err n xs => rw [em] at e; cases e
    | bad => rw [em] at e; cases e
  · rintro ⟨a, c1, em, b, c, e, q⟩
    exact ⟨b, c, by rw [em]; exact e, q⟩
@[simp] theorem rn_pure {a : α} {cs : List C} {Q : α → List C → Prop} : Rn (M.pure a) cs Q ↔ Q a cs := ⟨fun ⟨_, _, e, h⟩ => by cases e; exact h, fun h => ⟨a, cs, rfl, h⟩⟩
@[simp] theorem rn_badM {cs : List C} {Q : α → List C → Prop} : Rn (fun _ => .bad) cs Q ↔ False := ⟨fun ⟨_, _, e, _⟩ => (nomatch e), fun h => h.elim⟩
@[simp] theorem rn_lift {r : R α} {cs : List C} {Q : α → List C → Prop} : Rn (M.lift r) cs Q ↔ Ev r fun a => Q a cs := by
  cases r with
  | ok a => exact ⟨fun ⟨_, _, e, h⟩ => by cases e; exact ⟨a, rfl, h⟩, fun ⟨_, e, h⟩ => by cases e; exact ⟨a, cs, rfl, h⟩⟩
  | err n xs => exact ⟨fun ⟨_, _, e, _⟩ => (nomatch e), fun ⟨_, e, _⟩ => (nomatch e)⟩
  | bad => exact ⟨fun ⟨_, _, e, _⟩ => (nomatch e), fun ⟨_, e, _⟩ => (nomatch e)⟩
@[simp] theorem rn_only {r : R α} {cs : List C} {Q : α → List C → Prop} : Rn (M.only r) cs Q ↔ Ev r fun a => Q a cs := by
  cases r with
  | ok a => exact ⟨fun ⟨_, _, e, h⟩ => by cases e; exact ⟨a, rfl, h⟩, fun ⟨_, e, h⟩ => by cases e; exact ⟨a, cs, rfl, h⟩⟩
  | err n xs => exact ⟨fun ⟨_, _, e, _⟩ => (nomatch e), fun ⟨_, e, _⟩ => (nomatch e)⟩
  | bad => exact ⟨fun ⟨_, _, e, _⟩ => (nomatch e), fun ⟨_, e, _⟩ => (nomatch e)⟩
@[simp] theorem rn_ite {c : Prop} [Decidable c] {m n : M α} {cs : List C} {Q : α → List C → Prop} : Rn (if c then m else n) cs Q ↔ (if c then Rn m cs Q else Rn n cs Q) := by split <;> rfl
end
section
variable {Q : D → List C → Prop} {QL : List D → List C → Prop} {QB : Bool → List C → Prop} {QF : Fl → List C → Prop} {cs : List C} {ma mb mc : M D} {ms : M (List D)} {i n : Nat}
@[simp] theorem rn_mC {d : D} : Rn (mC d) cs Q ↔ Q d cs := rn_pure
def onVar (o : Option C) (cs : List C) (i : Nat) (Q : D → List C → Prop) : Prop := match o with
  | some (.dat d) => Q d cs
  | some (.own false ds) => Q (.list ds) (cs.set i (.dat (.list ds)))
  | _ => False
@[simp] theorem onVar_dat {d : D} : onVar (some (.dat d)) cs i Q ↔ Q d cs := Iff.rfl
@[simp] theorem onVar_own {ds : List D} : onVar (some (.own false ds)) cs i Q ↔ Q (.list ds) (cs.set i (.dat (.list ds))) := Iff.rfl
def onLook (o : Option C) (cs : List C) (Q : D → List C → Prop) : Prop := match o with
  | some (.dat d) => Q d cs
  | some (.own _ ds) => Q (.list ds) cs
  | _ => False
@[simp] theorem onLook_dat {d : D} : onLook (some (.dat d)) cs Q ↔ Q d cs := Iff.rfl
@[simp] theorem onLook_own {t : Bool} {ds : List D} : onLook (some (.own t ds)) cs Q ↔ Q (.list ds) cs := Iff.rfl
def onOwn (o : Option C) (Q : Bool → List D → Prop) : Prop := match o with
  | some (.own t ss) => Q t ss
  | _ => False
@[simp] theorem onOwn_own {t : Bool} {ds : List D} {Q : Bool → List D → Prop} : onOwn (some (.own t ds)) Q ↔ Q t ds := Iff.rfl
def asInt (d : D) (Q : Int → Prop) : Prop := match d with
  | .int k => Q k
  | _ => False
@[simp] theorem asInt_int {k : Int} {Q : Int → Prop} : asInt (.int k) Q ↔ Q k := Iff.rfl
def asTwo (ds : List D) (Q : D → D → Prop) : Prop := match ds with
  | [d, e] => Q d e
  | _ => False
@[simp] theorem asTwo_two {d e : D} {Q : D → D → Prop} : asTwo [d, e] Q ↔ Q d e := Iff.rfl
def onFl (f : Fl) (P : Prop) (Q : Prop) : Prop := match f with
  | .nx => P
  | _ => Q
@[simp] theorem onFl_nx {P Q : Prop} : onFl .nx P Q ↔ P := Iff.rfl
@[simp] theorem onFl_rt {P Q : Prop} {d : D} : onFl (.rt d) P Q ↔ Q := Iff.rfl
@[simp] theorem onFl_rn {P Q : Prop} {d : List D} : onFl (.rn d) P Q ↔ Q := Iff.rfl
@[simp] theorem onFl_bk {P Q : Prop} : onFl .bk P Q ↔ Q := Iff.rfl
@[simp] theorem onFl_ct {P Q : Prop} : onFl .ct P Q ↔ Q := Iff.rfl
@[simp] theorem rn_mVar : Rn (mVar i) cs Q ↔ onVar cs[i]? cs i Q := by
  unfold Rn mVar onVar
  cases e : cs[i]? with
  | none => simp
  | some c =>
    cases c with
    | un => simp
    | dat d => simp [ex_two]
    | own t ds => cases t <;> simp [ex_two]
@[simp] theorem rn_vVar : Rn (vVar i) cs Q ↔ onLook cs[i]? cs Q := by
  unfold Rn vVar onLook
  cases e : cs[i]? with
  | none => simp
  | some c =>
    cases c with
    | un => simp
    | dat d => simp [ex_two]
    | own t ds => cases t <;> simp [ex_two]
@[simp] theorem rn_mOfN : Rn (mOfN ms) cs Q ↔ Rn ms cs fun ds c => Q (.list ds) c := by unfold mOfN; rw [rn_bind]; simp only [rn_pure]
@[simp] theorem rn_mNil : Rn mNil cs QL ↔ QL [] cs := rn_pure
@[simp] theorem rn_mCons : Rn (mCons ma ms) cs QL ↔ Rn ma cs fun d c => Rn ms c fun ds c => QL (d :: ds) c := by unfold mCons; simp only [rn_bind, rn_pure]
@[simp] theorem rn_mTup : Rn (mTup ms) cs Q ↔ Rn ms cs fun ds c => ds.length ≤ 16777216 ∧ Q (.tuple ds) c := by
  unfold mTup
  rw [rn_bind]
  refine iff_of_eq (congrArg _ (funext fun ds => funext fun c => propext ?_))
  by_cases h : ds.length ≤ 16777216 <;> simp [szOk, h]
@[simp] theorem rn_mLst : Rn (mLst ms) cs QL ↔ Rn ms cs fun ds c => ds.length ≤ 16777216 ∧ QL ds c := by
  unfold mLst
  rw [rn_bind]
  refine iff_of_eq (congrArg _ (funext fun ds => funext fun c => propext ?_))
  by_cases h : ds.length ≤ 16777216 <;> simp [szOk, h]
@[simp] theorem rn_mOp1 {g : D → R D} : Rn (mOp1 g ma) cs Q ↔ Rn ma cs fun d c => Ev (g d) fun z => Q z c := by unfold mOp1; simp only [rn_bind, rn_only]
@[simp] theorem rn_mOp2 {g : D → D → R D} : Rn (mOp2 g ma mb) cs Q ↔ Rn ma cs fun d c => Rn mb c fun e c => Ev (g d e) fun z => Q z c := by unfold mOp2; simp only [rn_bind, rn_only]
@[simp] theorem rn_mOp1N {g : D → R (List D)} : Rn (mOp1N g ma) cs QL ↔ Rn ma cs fun d c => Ev (g d) fun z => QL z c := by unfold mOp1N; simp only [rn_bind, rn_only]
@[simp] theorem rn_mOp2N {g : D → D → R (List D)} : Rn (mOp2N g ma mb) cs QL ↔ Rn ma cs fun d c => Rn mb c fun e c => Ev (g d e) fun z => QL z c := by unfold mOp2N; simp only [rn_bind, rn_only]
def AsB (d : D) (Q : Bool → Prop) : Prop := match d with
  | .bool b => Q b
  | _ => False
@[simp] theorem asB_bool {b : Bool} {Q : Bool → Prop} : AsB (.bool b) Q ↔ Q b := Iff.rfl
@[simp] theorem rn_mTest : Rn (mTest ma) cs QB ↔ Rn ma cs fun d c => AsB d fun b => QB b c := by
  unfold mTest
  rw [rn_bind]
  refine iff_of_eq (congrArg _ (funext fun d => funext fun c => propext ?_))
  cases d <;> simp [AsB]
@[simp] theorem rn_mChain {g g' : D → D → R D} : Rn (mChain g g' ma mb mc) cs Q ↔ Rn ma cs fun x c => Rn mb c fun y c => Ev (g x y) fun z => AsB z fun b => if b then Rn mc c fun w c => Ev (g' y w) fun z => Q z c else Q (.bool false) c := by
  unfold mChain
  simp only [rn_bind, rn_only]
  refine iff_of_eq (congrArg _ (funext fun d => funext fun c => congrArg _ (funext fun e => funext fun c => congrArg _ (funext fun z => propext ?_))))
  cases z <;> simp [AsB]
  rename_i b
  cases b <;> simp
@[simp] theorem rn_mChain3 {md : M D} {g g' g2 : D → D → R D} : Rn (mChain3 g g' g2 ma mb mc md) cs Q ↔ Rn ma cs fun x c => Rn mb c fun y c => Ev (g x y) fun z => AsB z fun b => if b then Rn mc c fun w c => Ev (g' y w) fun z => AsB z fun b => if b then Rn md c fun u c => Ev (g2 w u) fun z => Q z c else Q (.bool false) c else Q (.bool false) c := by
  unfold mChain3
  simp only [rn_bind, rn_only]
  refine iff_of_eq (congrArg _ (funext fun d => funext fun c => congrArg _ (funext fun e => funext fun c => congrArg _ (funext fun z => propext ?_))))
  cases z <;> simp [AsB]
  rename_i b
  cases b <;> simp
  refine iff_of_eq (congrArg _ (funext fun d => funext fun c => congrArg _ (funext fun z => propext ?_)))
  cases z <;> simp
  rename_i b
  cases b <;> simp
variable {ta tb : M Bool}
@[simp] theorem rn_mAnd : Rn (mAnd ta tb) cs QB ↔ Rn ta cs fun k c => if k then Rn tb c QB else QB false c := by unfold mAnd; simp only [rn_bind, rn_ite, rn_pure]
@[simp] theorem rn_mOr : Rn (mOr ta tb) cs QB ↔ Rn ta cs fun k c => if k then QB true c else Rn tb c QB := by unfold mOr; simp only [rn_bind, rn_ite, rn_pure]
@[simp] theorem rn_mNot : Rn (mNot ta) cs QB ↔ Rn ta cs fun k c => QB (!k) c := by unfold mNot; simp only [rn_bind, rn_pure]
@[simp] theorem rn_mIf : Rn (mIf ta ma mb) cs Q ↔ Rn ta cs fun k c => if k then Rn ma c Q else Rn mb c Q := by unfold mIf; simp only [rn_bind, rn_ite]
@[simp] theorem rn_mAndV : Rn (mAndV ma mb) cs Q ↔ Rn ma cs fun d c => AsB d fun b => if b then Rn mb c Q else Q (.bool false) c := by
  unfold mAndV
  rw [rn_bind]
  refine iff_of_eq (congrArg _ (funext fun d => funext fun c => propext ?_))
  cases d <;> simp [AsB]
  rename_i b
  cases b <;> simp
@[simp] theorem rn_mOrV : Rn (mOrV ma mb) cs Q ↔ Rn ma cs fun d c => AsB d fun b => if b then Q (.bool true) c else Rn mb c Q := by
  unfold mOrV
  rw [rn_bind]
  refine iff_of_eq (congrArg _ (funext fun d => funext fun c => propext ?_))
  cases d <;> simp [AsB]
  rename_i b
  cases b <;> simp
@[simp] theorem rn_mNotV : Rn (mNotV ma) cs Q ↔ Rn ma cs fun d c => AsB d fun b => Q (.bool (!b)) c := by
  unfold mNotV
  rw [rn_bind]
  refine iff_of_eq (congrArg _ (funext fun d => funext fun c => propext ?_))
  cases d <;> simp [AsB]
@[simp] theorem rn_mNoPart {QO : Option Int → List C → Prop} : Rn mNoPart cs QO ↔ QO none cs := rn_pure
@[simp] theorem rn_mPart {QO : Option Int → List C → Prop} : Rn (mPart ma) cs QO ↔ Rn ma cs fun d c => asInt d fun i => QO (some i) c := by
  unfold mPart
  rw [rn_bind]
  refine iff_of_eq (congrArg _ (funext fun d => funext fun c => propext ?_))
  cases d <;> simp [asInt]
@[simp] theorem rn_mSl {ml mh : MO} : Rn (mSl ma ml mh) cs Q ↔ Rn ma cs fun d c => Rn ml c fun lo c => Rn mh c fun hi c => Ev (gSl d lo hi) fun z => Q z c := by unfold mSl; simp only [rn_bind, rn_only]
@[simp] theorem rn_mRange : Rn (mRange ma mb) cs QL ↔ Rn ma cs fun d c => Rn mb c fun e c => Ev (gRg d e) fun z => QL z c := by unfold mRange; simp only [rn_bind, rn_only]
@[simp] theorem rn_mRange1 : Rn (mRange1 ma) cs QL ↔ Rn ma cs fun d c => Ev (gRg (.int 0) d) fun z => QL z c := by unfold mRange1; simp only [rn_bind, rn_only]
@[simp] theorem rn_mSeq1 : Rn (mSeq1 ma) cs QL ↔ Rn ma cs fun d c => Ev (gSeq d) fun z => QL z c := by unfold mSeq1; simp only [rn_bind, rn_only]
@[simp] theorem rn_mZip : Rn (mZip ma mb) cs QL ↔ Rn ma cs fun d c => Rn mb c fun e c => Ev (gZip d e) fun z => QL z c := by unfold mZip; simp only [rn_bind, rn_only]
@[simp] theorem rn_mYes : Rn mYes cs QB ↔ QB true cs := rn_pure
@[simp] theorem rn_mCall {F : List D → R D} : Rn (mCall n F ms) cs Q ↔ Rn ms cs fun ds c => ds.length = n ∧ Ev (F ds) fun z => Q z c := by
  unfold mCall
  rw [rn_bind]
  refine iff_of_eq (congrArg _ (funext fun ds => funext fun c => propext ?_))
  by_cases h : ds.length = n <;> simp [h]
@[simp] theorem rn_mCallN {F : List D → R (List D)} : Rn (mCallN n F ms) cs QL ↔ Rn ms cs fun ds c => ds.length = n ∧ Ev (F ds) fun z => QL z c := by
  unfold mCallN
  rw [rn_bind]
  refine iff_of_eq (congrArg _ (funext fun ds => funext fun c => propext ?_))
  by_cases h : ds.length = n <;> simp [h]
@[simp] theorem rn_stPut {F : List D → R (D × List D)} : Rn (stPut i F) cs Q ↔ onOwn cs[i]? fun t ss => Ev (F ss) fun p => Q p.1 (cs.set i (.own t p.2)) := by
  unfold Rn stPut onOwn
  cases e : cs[i]? with
  | none => simp
  | some c =>
    cases c with
    | un => simp
    | dat d => simp
    | own t ss => cases ef : F ss <;> simp [ef, ex_two]
@[simp] theorem rn_own {α : Type} {m : M α} {QA : α → List C → Prop} : Rn (fun cs => if isOwn cs i then m cs else .bad) cs QA ↔ isOwn cs i = true ∧ Rn m cs QA := by
  unfold Rn
  by_cases h : isOwn cs i = true
  · simp [h]
  · simp [h]
@[simp] theorem rn_mCallS {F : List D → List D → R (D × List D)} : Rn (mCallS n i F ms) cs Q ↔ isOwn cs i = true ∧ Rn ms cs fun ds c => ds.length = n ∧ Rn (stPut i fun ss => F ss ds) c Q := by
  unfold mCallS
  rw [rn_own, rn_bind]
  refine and_congr Iff.rfl (iff_of_eq (congrArg _ (funext fun ds => funext fun c => propext ?_)))
  by_cases h : ds.length = n <;> simp [h]
@[simp] theorem rn_popAt {d : D} : Rn (popAt i d) cs Q ↔ asInt d fun k => onOwn cs[i]? fun t ds => (-4611686018427387904 ≤ k ∧ k < 4611686018427387904) ∧ ∃ j z, seqIndex? k ds.length = some j ∧ ds[j]? = some z ∧ Q z (cs.set i (.own t (ds.eraseIdx j))) := by
  unfold Rn popAt onOwn asInt
  cases e : cs[i]? with
  | none => cases d <;> simp
  | some c =>
    cases c with
    | un => cases d <;> simp
    | dat d' => cases d <;> simp
    | own t ds =>
      cases d with
      | int k =>
        by_cases hk : -4611686018427387904 ≤ k ∧ k < 4611686018427387904
        · simp only [hk, and_self, decide_true, if_true, true_and]
          cases ej : seqIndex? k ds.length with
          | none => simp
          | some j => cases ez : ds[j]? <;> simp [ez, ex_two]
        · simp [hk]
      | _ => simp
@[simp] theorem rn_mPop : Rn (mPop i ma) cs Q ↔ isOwn cs i = true ∧ Rn ma cs fun d c => Rn (popAt i d) c Q := by unfold mPop; rw [rn_own, rn_bind]
variable {sa sb : MS}
@[simp] theorem rn_mSeq : Rn (mSeq sa sb) cs QF ↔ Rn sa cs fun f c => onFl f (Rn sb c QF) (QF f c) := by
  unfold mSeq
  rw [rn_bind]
  refine iff_of_eq (congrArg _ (funext fun f => funext fun c => propext ?_))
  cases f <;> simp
@[simp] theorem rn_mNx : Rn mNx cs QF ↔ QF .nx cs := rn_pure
@[simp] theorem rn_mPut {d : D} : Rn (mPut i d) cs QF ↔ QF .nx (cs.set i (.dat d)) := ⟨fun ⟨_, _, e, h⟩ => by cases e; exact h, fun h => ⟨_, _, rfl, h⟩⟩
@[simp] theorem rn_mPutN {d : List D} : Rn (mPutN i d) cs QF ↔ QF .nx (cs.set i (.own false d)) := ⟨fun ⟨_, _, e, h⟩ => by cases e; exact h, fun h => ⟨_, _, rfl, h⟩⟩
@[simp] theorem rn_mSet : Rn (mSet i ma) cs QF ↔ Rn ma cs fun d c => QF .nx (c.set i (.dat d)) := by unfold mSet; simp only [rn_bind, rn_mPut]
@[simp] theorem rn_mSetN : Rn (mSetN i ms) cs QF ↔ Rn ms cs fun d c => QF .nx (c.set i (.own false d)) := by unfold mSetN; simp only [rn_bind, rn_mPutN]
@[simp] theorem rn_mIfS : Rn (mIfS ta sa sb) cs QF ↔ Rn ta cs fun k c => if k then Rn sa c QF else Rn sb c QF := by unfold mIfS; simp only [rn_bind, rn_ite]
@[simp] theorem rn_mRet : Rn (mRet ma) cs QF ↔ Rn ma cs fun d c => QF (.rt d) c := by unfold mRet; simp only [rn_bind, rn_pure]
@[simp] theorem rn_mRetN : Rn (mRetN ms) cs QF ↔ Rn ms cs fun d c => QF (.rn d) c := by unfold mRetN; simp only [rn_bind, rn_pure]
@[simp] theorem rn_mRetO : Rn (mRetO i) cs QF ↔ onOwn cs[i]? fun t ds => t = false ∧ QF (.rn ds) (cs.set i .un) := by
  unfold Rn mRetO onOwn
  cases e : cs[i]? with
  | none => simp
  | some c =>
    cases c with
    | un => simp
    | dat d => simp
    | own t ss => cases t <;> simp [ex_two]
@[simp] theorem rn_mDrop : Rn (mDrop ma) cs QF ↔ Rn ma cs fun _ c => QF .nx c := by unfold mDrop; simp only [rn_bind, rn_mNx]
@[simp] theorem rn_ownPut {g : List D → R (List D)} {QU : Unit → List C → Prop} : Rn (ownPut i g) cs QU ↔ onOwn cs[i]? fun t ds => Ev (g ds) fun es => es.length ≤ 16777216 ∧ QU () (cs.set i (.own t es)) := by
  unfold Rn ownPut onOwn
  cases e : cs[i]? with
  | none => simp
  | some c =>
    cases c with
    | un => simp
    | dat d => simp
    | own t ds =>
      cases ef : g ds with
      | ok es =>
        by_cases h : es.length ≤ 16777216
        · simp [szOk, h, ef, ex_two]
          exact ⟨fun ⟨_, h⟩ => h, fun h => ⟨(), h⟩⟩
        · simp [szOk, h, ef]
      | err n xs => simp [ef]
      | bad => simp [ef]
@[simp] theorem rn_mOn {g : D → List D → R (List D)} : Rn (mOn i ma g) cs QF ↔ isOwn cs i = true ∧ Rn ma cs fun d c => Rn (ownPut i (g d)) c fun _ c => QF .nx c := by unfold mOn; rw [rn_own]; simp only [rn_bind, rn_mNx]
@[simp] theorem rn_mSetIx {mk : M D} : Rn (mSetIx i mk ma) cs QF ↔ Rn ma cs fun d c => isOwn c i = true ∧ Rn mk c fun k c => Rn (ownPut i (gPut k d)) c fun _ c => QF .nx c := by
  unfold mSetIx
  rw [rn_bind]
  refine iff_of_eq (congrArg _ (funext fun d => funext fun c => propext ?_))
  rw [rn_own]
  simp only [rn_bind, rn_mNx]
@[simp] theorem rn_mPar {j : Nat} : Rn (mPar i j ms) cs QF ↔ Rn ms cs fun ds c => asTwo ds fun d e => QF .nx ((c.set i (.dat d)).set j (.dat e)) := by
  unfold mPar
  rw [rn_bind]
  refine iff_of_eq (congrArg _ (funext fun ds => funext fun c => propext ?_))
  match ds with
  | [d, e] => exact ⟨fun ⟨_, _, e, h⟩ => by cases e; exact h, fun h => ⟨_, _, rfl, h⟩⟩
  | [] => simp [asTwo]
  | [_] => simp [asTwo]
  | _ :: _ :: _ :: _ => simp [asTwo]
@[simp] theorem rn_mUnp {is : List Nat} {f : D → R (List D)} : Rn (mUnp is f ma) cs QF ↔ Rn ma cs fun d c => Ev (f d) fun ds => QF .nx (setC c is ds) := by
  unfold mUnp
  rw [rn_bind]
  refine iff_of_eq (congrArg _ (funext fun d => funext fun c => propext ?_))
  unfold Rn
  cases f d with
  | ok ds => simp [ex_two]
  | err n xs => simp
  | bad => simp
variable {body : MS} {ds ss : List D}
def Ends1 (Q : D → Prop) (f : Fl) : Prop := match f with
  | .rt d => Q d
  | .rn es => Q (.list es)
  | .nx => Q .none
  | _ => False
@[simp] theorem ends_rt {Q : D → Prop} {d : D} : Ends1 Q (.rt d) ↔ Q d := Iff.rfl
@[simp] theorem ends_rn {Q : D → Prop} {d : List D} : Ends1 Q (.rn d) ↔ Q (.list d) := Iff.rfl
@[simp] theorem ends_nx {Q : D → Prop} : Ends1 Q .nx ↔ Q .none := Iff.rfl
theorem ev_fnD {Q : D → Prop} : Ev (fnD n body ds) Q ↔ Rn body (unfill n (ds.map .dat)) fun f _ => Ends1 Q f := by
  unfold fnD Rn
  cases body (unfill n (ds.map .dat)) with
  | ok p => obtain ⟨f, c⟩ := p; cases f <;> simp [Ends1]
  | err n xs => simp
  | bad => simp
theorem ev_fnN {Q : List D → Prop} : Ev (fnN n body ds) Q ↔ Rn body (unfill n (ds.map .dat)) fun f _ => match f with | .rn es => Q es | _ => False := by
  unfold fnN Rn
  cases body (unfill n (ds.map .dat)) with
  | ok p => obtain ⟨f, c⟩ := p; cases f <;> simp
  | err n xs => simp
  | bad => simp
def St1 (cs : List C) (Q : List D → Prop) : Prop := match (List.head? cs : Option C) with
  | some (C.own true ss') => Q ss'
  | _ => False
@[simp] theorem st1_own {cs : List C} {ss : List D} {Q : List D → Prop} : St1 (.own true ss :: cs) Q ↔ Q ss := Iff.rfl
theorem ev_fnS {Q : D × List D → Prop} : Ev (fnS n body ss ds) Q ↔ Rn body (unfill n (.own true ss :: ds.map .dat)) fun f c => match f with | .rt d => St1 c fun s => Q (d, s) | .rn es => St1 c fun s => Q (.list es, s) | _ => False := by
  unfold fnS Rn
  cases body (unfill n (.own true ss :: ds.map .dat)) with
  | ok p =>
    obtain ⟨f, c⟩ := p
    cases f
    · simp
    · simp only [ex_two, R.ok.injEq, Prod.mk.injEq, St1]
      cases e : c.head? with
      | none => simp
      | some z => cases z with
        | own t ss => cases t <;> simp
        | _ => simp
    · simp only [ex_two, R.ok.injEq, Prod.mk.injEq, St1]
      cases e : c.head? with
      | none => simp
      | some z => cases z with
        | own t ss => cases t <;> simp
        | _ => simp
    · simp
    · simp
  | err n xs => simp
  | bad => simp
end
section
variable {is vs : List Nat} {f : D → R (List D)} {body : MS} {mi : M (List D)} {mt : M Bool} {me : M D} {cs : List C}
theorem rn_mFor {QF : Fl → List C → Prop} : Rn (mFor is f mi body) cs QF ↔ Rn mi cs fun ds c => Rn (forGo is f body ds) c QF := by unfold mFor; rw [rn_bind]
theorem rn_mComp {QL : List D → List C → Prop} : Rn (mComp vs is f mi mt me) cs QL ↔ Rn mi cs fun ds c => Rn (compGo vs is f mt me ds) (wipeC c vs) QL := by
  unfold mComp
  rw [rn_bind]
  refine iff_of_eq (congrArg _ (funext fun ds => funext fun c => propext ?_))
  unfold Rn
  cases e : compGo vs is f mt me ds (wipeC c vs) <;> simp [e]
theorem rn_for_nil {QF : Fl → List C → Prop} : Rn (forGo is f body []) cs QF ↔ QF .nx cs := ⟨fun ⟨_, _, e, h⟩ => by cases e; exact h, fun h => ⟨_, _, rfl, h⟩⟩
theorem rn_for_cons {x : D} {xs : List D} {QF : Fl → List C → Prop} : Rn (forGo is f body (x :: xs)) cs QF ↔ Ev (f x) fun ds => Rn body (setC cs is ds) fun fl c => match fl with
    | .nx => Rn (forGo is f body xs) c QF
    | .ct => Rn (forGo is f body xs) c QF
    | .bk => QF .nx c
    | fl => QF fl c := by
  unfold Rn
  simp only [forGo]
  cases f x with
  | ok ds =>
    simp only [ev_ok]
    cases body (setC cs is ds) with
    | ok p => obtain ⟨fl, c⟩ := p; cases fl <;> simp [ex_two]
    | err n xs => simp
    | bad => simp
  | err n xs => simp
  | bad => simp
theorem for_rule {ds : List D} {QF : Fl → List C → Prop} (I : List D → List C → Prop) (h0 : I ds cs) (he : ∀ c, I [] c → QF .nx c)
    (step : ∀ x xs c, I (x :: xs) c → Ev (f x) fun ys => Rn body (setC c is ys) fun fl c' => match fl with
      | .nx => I xs c'
      | .ct => I xs c'
      | .bk => QF .nx c'
      | fl => QF fl c') : Rn (forGo is f body ds) cs QF := by
  induction ds generalizing cs with
  | nil => exact rn_for_nil.mpr (he cs h0)
  | cons x xs ih =>
    refine rn_for_cons.mpr ((step x xs cs h0).mono fun ys hy => hy.mono fun fl c hc => ?_)
    cases fl with
    | nx => exact ih hc
    | ct => exact ih hc
    | bk => exact hc
    | rt d => exact hc
    | rn d => exact hc
theorem rn_comp_nil {QL : List D → List C → Prop} : Rn (compGo vs is f mt me []) cs QL ↔ QL [] cs := ⟨fun ⟨_, _, e, h⟩ => by cases e; exact h, fun h => ⟨_, _, rfl, h⟩⟩
theorem rn_comp_cons {x : D} {xs : List D} {QL : List D → List C → Prop} : Rn (compGo vs is f mt me (x :: xs)) cs QL ↔ Ev (f x) fun ds => Rn mt (setC cs is ds) fun b c => if b then Rn me c fun d c => Rn (compGo vs is f mt me xs) (wipeC c vs) fun r c => QL (d :: r) c else Rn (compGo vs is f mt me xs) (wipeC c vs) QL := by
  unfold Rn
  simp only [compGo]
  cases f x with
  | ok ds =>
    simp only [ev_ok]
    cases mt (setC cs is ds) with
    | ok p =>
      obtain ⟨b, c⟩ := p
      cases b with
      | true =>
        simp only [if_true]
        cases e2 : me c with
        | ok p =>
          obtain ⟨d, c2⟩ := p
          cases e3 : compGo vs is f mt me xs (wipeC c2 vs) with
          | ok p => obtain ⟨r, c3⟩ := p; simp [e2, e3, ex_two]
          | err n xs => simp [e2, e3]
          | bad => simp [e2, e3]
        | err n xs => simp [e2]
        | bad => simp [e2]
      | false =>
        cases e3 : compGo vs is f mt me xs (wipeC c vs) <;> simp [e3]
    | err n xs => simp
    | bad => simp
  | err n xs => simp
  | bad => simp
theorem rn_while {fuel : Nat} {QF : Fl → List C → Prop} : Rn (whileGo mt body (fuel + 1)) cs QF ↔ Rn mt cs fun b c => if b then Rn body c fun fl c => match fl with
    | .nx => Rn (whileGo mt body fuel) c QF
    | .ct => Rn (whileGo mt body fuel) c QF
    | .bk => QF .nx c
    | fl => QF fl c
  else QF .nx c := by
  unfold Rn
  simp only [whileGo]
  cases mt cs with
  | ok p =>
    obtain ⟨b, c⟩ := p
    cases b with
    | true =>
      simp only [if_true]
      cases e : body c with
      | ok p => obtain ⟨fl, c⟩ := p; cases fl <;> simp [e, ex_two]
      | err n xs => simp [e]
      | bad => simp [e]
    | false => simp [ex_two]
  | err n xs => simp
  | bad => simp
theorem while_rule {fuel : Nat} {QF : Fl → List C → Prop} (I : Nat → List C → Prop) (n : Nat) (h0 : I n cs) (hn : n < fuel)
    (step : ∀ k c, I k c → Rn mt c fun b c => if b then 0 < k ∧ Rn body c fun fl c => match fl with
      | .nx => I (k - 1) c
      | .ct => I (k - 1) c
      | .bk => QF .nx c
      | fl => QF fl c
    else QF .nx c) : Rn (whileGo mt body fuel) cs QF := by
  induction fuel generalizing cs n with
  | zero => exact absurd hn (Nat.not_lt_zero _)
  | succ fuel ih =>
    refine rn_while.mpr ((step n cs h0).mono fun b c hc => ?_)
    cases b with
    | false => exact hc
    | true =>
      simp only [if_true] at hc ⊢
      obtain ⟨h1, h2⟩ := hc
      refine h2.mono fun fl c hc => ?_
      cases fl with
      | nx => exact ih (n - 1) hc (by omega)
      | ct => exact ih (n - 1) hc (by omega)
      | bk => exact hc
      | rt d => exact hc
      | rn d => exact hc
end
end TW
set_option Elab.async false
set_option linter.all false
set_option maxRecDepth 100000
namespace TW
open PySem PySem.Spec PyProof.Rows L2
section
variable {i j : Int} {a b : Bool} {d e : D} {ds es : List D}
theorem shaped_int : SeqAt.shaped (.int i) = true := by simp [SeqAt.shaped, PyData.canLay0, PyData.depth]
theorem shaped_bool : SeqAt.shaped (.bool a) = true := by simp [SeqAt.shaped, PyData.canLay0, PyData.depth]
@[simp] theorem gOrd_int {f : D → D → Bool} : gOrd f (.int i) (.int j) = .ok (.bool (f (.int i) (.int j))) := by simp [gOrd, shaped_int, PySem.W.alike, isNon, PyData.depth]
@[simp] theorem oLt_int : oLt (.int i) (.int j) = .ok (.bool (decide (i < j))) := by simp [oLt, PySem.W.dataLt_int]
@[simp] theorem oGt_int : oGt (.int i) (.int j) = .ok (.bool (decide (j < i))) := by simp [oGt, PySem.W.dataLt_int]
@[simp] theorem oLe_int : oLe (.int i) (.int j) = .ok (.bool (decide (i ≤ j))) := by simp [oLe, PySem.W.dataLt_int, ← Int.not_lt]
@[simp] theorem oGe_int : oGe (.int i) (.int j) = .ok (.bool (decide (j ≤ i))) := by simp [oGe, PySem.W.dataLt_int, ← Int.not_lt]
@[simp] theorem gAdd_int : gAdd (.int i) (.int j) = .ok (.int (i + j)) := by simp [gAdd, gOr, gI]
@[simp] theorem gSub_int : gSub (.int i) (.int j) = .ok (.int (i - j)) := by simp [gSub, gI]
theorem gMul_int (h : -18446744073709551616 < i ∧ i < 18446744073709551616 ∨ -18446744073709551616 < j ∧ j < 18446744073709551616) : gMul (.int i) (.int j) = .ok (.int (i * j)) := by
  have : cMul i j = true := by unfold cMul; rw [Bool.or_eq_true, decide_eq_true_eq, decide_eq_true_eq]; exact h
  simp [gMul, gOr, gIC, this]
theorem gDiv_int (h : 0 < j ∧ j < 1073741824) : gDiv (.int i) (.int j) = .ok (.int (i / j)) := by simp [gDiv, gIC, cDiv, h]
theorem gMod_int (h : 0 < j) : gMod (.int i) (.int j) = .ok (.int (i % j)) := by simp [gMod, gIC, cMod, h]
theorem gPow_int (h : 0 ≤ j ∧ j ≤ 1000000 ∧ i.natAbs < 18446744073709551616) : gPow (.int i) (.int j) = .ok (.int (i ^ j.toNat)) := by simp [gPow, gIC, cPow, h]
@[simp] theorem gEq_int : gEq (.int i) (.int j) = .ok (.bool (i == j)) := by simp [gEq, shaped_int, PyData.eqv]
@[simp] theorem gNe_int : gNe (.int i) (.int j) = .ok (.bool (i != j)) := by simp [gNe, shaped_int, PyData.eqv, bne]
@[simp] theorem gEq_bool : gEq (.bool a) (.bool b) = .ok (.bool (a == b)) := by simp [gEq, shaped_bool, PyData.eqv]
@[simp] theorem gNe_bool : gNe (.bool a) (.bool b) = .ok (.bool (a != b)) := by simp [gNe, shaped_bool, PyData.eqv, bne]
@[simp] theorem gNeg_int : gNeg (.int i) = .ok (.int (-i)) := rfl
@[simp] theorem gMax2_int : gMax2 (.int i) (.int j) = .ok (.int (max i j)) := by
  simp only [gMax2, R.ok.injEq, PyData.int.injEq]
  split <;> omega
@[simp] theorem gMin2_int : gMin2 (.int i) (.int j) = .ok (.int (min i j)) := by
  simp only [gMin2, R.ok.injEq, PyData.int.injEq]
  split <;> omega
@[simp] theorem gIsB_bool : gIsB (.bool a) (.bool b) = .ok (.bool (decide (a = b))) := rfl
@[simp] theorem gNotB_bool : gNotB (.bool a) (.bool b) = .ok (.bool (!decide (a = b))) := rfl
@[simp] theorem gLen_list : gLen (.list ds) = .ok (.int ds.length) := rfl
@[simp] theorem gLen_tuple : gLen (.tuple ds) = .ok (.int ds.length) := rfl
@[simp] theorem gSeq_list : gSeq (.list ds) = .ok ds := rfl
@[simp] theorem gSeq_tuple : gSeq (.tuple ds) = .ok ds := rfl
@[simp] theorem gTuple_list : gTuple (.list ds) = .ok (.tuple ds) := rfl
@[simp] theorem gTuple_tuple : gTuple (.tuple ds) = .ok (.tuple ds) := rfl
@[simp] theorem gList_list : gList (.list ds) = .ok ds := rfl
@[simp] theorem gList_tuple : gList (.tuple ds) = .ok ds := rfl
@[simp] theorem gRev_tuple : gRev (.tuple ds) = .ok (.tuple ds.reverse) := rfl
@[simp] theorem gApp_ok : gApp d ds = .ok (ds ++ [d]) := rfl
@[simp] theorem gExt_list : gExt (.list es) ds = .ok (ds ++ es) := rfl
@[simp] theorem gSl_tuple {lo hi : Option Int} : gSl (.tuple ds) lo hi = .ok (.tuple (cutD ds lo hi)) := rfl
@[simp] theorem gSl_list {lo hi : Option Int} : gSl (.list ds) lo hi = .ok (.list (cutD ds lo hi)) := rfl
@[simp] theorem gZip_list : gZip (.list ds) (.list es) = .ok ((ds.zip es).map fun p => zpD [p.1, p.2]) := rfl
@[simp] theorem gZip_tuple : gZip (.tuple ds) (.tuple es) = .ok ((ds.zip es).map fun p => zpD [p.1, p.2]) := rfl
@[simp] theorem fName_ok : fName d = .ok [d] := rfl
@[simp] theorem fTup_zp : fTup 2 (zpD [d, e]) = .ok [d, e] := rfl
@[simp] theorem fTup_two : fTup 2 (.tuple [d, e]) = .ok [d, e] := rfl
theorem gCat_list (h : ds.length + es.length ≤ 16777216) : gAdd (.list ds) (.list es) = .ok (.list (ds ++ es)) := by simp [gAdd, gOr, gI, gCatT, gCatS, asD, gCatL, szOk, h]
@[simp] theorem gIx_l0 {es : List D} : gIx (.list (d :: es)) (.int 0) = .ok d := by simp only [gIx]; rw [show (0 : Int) = ((0 : Nat) : Int) from rfl, atI_nat (j := 0) rfl]
@[simp] theorem gIx_l1 {es : List D} : gIx (.list (d :: e :: es)) (.int 1) = .ok e := by simp only [gIx]; rw [show (1 : Int) = ((1 : Nat) : Int) from rfl, atI_nat (j := 1) rfl]
@[simp] theorem gIx_t0 {es : List D} : gIx (.tuple (d :: es)) (.int 0) = .ok d := by simp only [gIx]; rw [show (0 : Int) = ((0 : Nat) : Int) from rfl, atI_nat (j := 0) rfl]
@[simp] theorem gIx_t1 {es : List D} : gIx (.tuple (d :: e :: es)) (.int 1) = .ok e := by simp only [gIx]; rw [show (1 : Int) = ((1 : Nat) : Int) from rfl, atI_nat (j := 1) rfl]
theorem gIx_scr {ns : List Int} {k : Nat} (h : k < ns.length) : gIx (scrD ns) (.int k) = .ok (.int ns[k]) := by
  simp only [scrD, gIx]
  rw [atI_nat (j := k) (by rw [List.getElem?_map, List.getElem?_eq_getElem h]; rfl)]
@[simp] theorem gLen_scr {ns : List Int} : gLen (scrD ns) = .ok (.int ns.length) := by simp [scrD, gLen]
@[simp] theorem ixN_0 {n : Nat} (h : 0 < n) : ixN n 0 = some 0 := by simp [ixN]; omega
theorem gRg_int (h : rgOk i j = true) : gRg (.int i) (.int j) = .ok (rgD i j) := by simp [gRg, h]
theorem rgOk_small (h1 : -1000000 ≤ i ∧ i ≤ 1000000) (h2 : -1000000 ≤ j ∧ j ≤ 1000000) : rgOk i j = true := by
  simp only [rgOk, decide_eq_true_eq]
  omega
end
end TW
set_option Elab.async false
set_option linter.all false
set_option maxRecDepth 100000
namespace TW
open PySem PySem.Spec PyProof.Rows L2
section
variable {vs is : List Nat} {f : D → R (List D)} {mt : M Bool} {me : M D}
theorem comp_map {ds : List D} {c0 : List C} {QL : List D → List C → Prop} (g : D → D) (step : ∀ x ∈ ds, Ev (f x) fun ys => Rn me (setC c0 is ys) fun d c => d = g x ∧ wipeC c vs = c0) (h : QL (ds.map g) c0) : Rn (compGo vs is f mYes me ds) c0 QL := by
  induction ds generalizing QL with
  | nil => exact rn_comp_nil.mpr h
  | cons x xs ih =>
    refine rn_comp_cons.mpr ((step x List.mem_cons_self).mono fun ys hy => ?_)
    simp only [rn_mYes, if_true]
    refine hy.mono fun d c ⟨e1, e2⟩ => ?_
    rw [e2]
    exact ih (fun y hy => step y (List.mem_cons_of_mem _ hy)) (by rw [e1]; exact h)
theorem comp_pick {ds : List D} {cs : List C} (I : List C → Prop) (h0 : I cs)
    (step : ∀ x ∈ ds, ∀ c, I c → Ev (f x) fun ys => Rn mt (setC c is ys) fun b c => if b then Rn me c fun d c => d = x ∧ I (wipeC c vs) else I (wipeC c vs)) : Rn (compGo vs is f mt me ds) cs fun es c => es.Sublist ds ∧ I c := by
  induction ds generalizing cs with
  | nil => exact rn_comp_nil.mpr ⟨List.Sublist.refl _, h0⟩
  | cons x xs ih =>
    refine rn_comp_cons.mpr ((step x List.mem_cons_self cs h0).mono fun ys hy => hy.mono fun b c hc => ?_)
    have ih := fun {cs} h => @ih cs h fun y hy => step y (List.mem_cons_of_mem _ hy)
    cases b with
    | true =>
      simp only [if_true] at hc ⊢
      exact hc.mono fun d c ⟨e, hi⟩ => (ih hi).mono fun r c' ⟨h1, h2⟩ => ⟨by rw [e]; exact h1.cons_cons x, h2⟩
    | false => exact (ih hc).mono fun r c' ⟨h1, h2⟩ => ⟨h1.cons x, h2⟩
end
def rgI (a b : Int) : List Int := (List.range (b - a).toNat).map fun i => a + (i : Nat)
theorem rgD_eq (a b : Int) : rgD a b = (rgI a b).map .int := by unfold rgD rgI; rw [List.map_map]; rfl
theorem rgI_mem {a b x : Int} : x ∈ rgI a b ↔ a ≤ x ∧ x < b := by
  unfold rgI
  rw [List.mem_map]
  constructor
  · rintro ⟨i, hi, rfl⟩
    have := List.mem_range.mp hi
    omega
  · intro h
    exact ⟨(x - a).toNat, List.mem_range.mpr (by omega), by omega⟩
theorem rgI_pw (a b : Int) : (rgI a b).Pairwise (· < ·) := by
  unfold rgI
  rw [List.pairwise_map]
  exact List.pairwise_lt_range.imp fun h => by omega
theorem rgI_length (a b : Int) : (rgI a b).length = (b - a).toNat := by unfold rgI; rw [List.length_map, List.length_range]
def tieD (p : Int × Int) : D := .tuple [.int p.1, .int p.2]
def ltP (p q : Int × Int) : Prop := p.1 < q.1 ∨ p.1 = q.1 ∧ p.2 < q.2
theorem ltP_irrefl (p : Int × Int) : ¬ ltP p p := fun h => by unfold ltP at h; omega
theorem ltP_trans {p q r : Int × Int} (h : ltP p q) (h' : ltP q r) : ltP p r := by unfold ltP at *; omega
theorem ltP_total {p q : Int × Int} (h : p ≠ q) : ltP p q ∨ ltP q p := by
  unfold ltP
  have : ¬ (p.1 = q.1 ∧ p.2 = q.2) := fun z => h (Prod.ext z.1 z.2)
  omega
instance (p q : Int × Int) : Decidable (ltP p q) := by unfold ltP; infer_instance
def pairsL (n : Int) : List (Int × Int) := (rgI 0 n).flatMap fun a => (rgI (a + 1) n).map fun b => (a, b)
theorem pairsL_mem {n : Int} {p : Int × Int} : p ∈ pairsL n ↔ 0 ≤ p.1 ∧ p.1 < p.2 ∧ p.2 < n := by
  unfold pairsL
  rw [List.mem_flatMap]
  constructor
  · rintro ⟨a, ha, h⟩
    obtain ⟨b, hb, rfl⟩ := List.mem_map.mp h
    have := rgI_mem.mp ha
    have := rgI_mem.mp hb
    exact ⟨by omega, by omega, by omega⟩
  · intro h
    exact ⟨p.1, rgI_mem.mpr (by omega), List.mem_map.mpr ⟨p.2, rgI_mem.mpr (by omega), rfl⟩⟩
theorem pairsL_pw (n : Int) : (pairsL n).Pairwise ltP := by
  unfold pairsL
  rw [List.pairwise_flatMap]
  refine ⟨fun a _ => ?_, (rgI_pw 0 n).imp fun h x hx y hy => ?_⟩
  · rw [List.pairwise_map]
    exact (rgI_pw _ _).imp fun h => .inr ⟨rfl, h⟩
  · obtain ⟨b, _, rfl⟩ := List.mem_map.mp hx
    obtain ⟨c, _, rfl⟩ := List.mem_map.mp hy
    exact .inl h
theorem pw_nodup {ks : List (Int × Int)} (h : ks.Pairwise ltP) : ks.Nodup := h.imp fun {a b} q e => by subst e; exact ltP_irrefl a q
theorem nodup_le {ks ls : List (Int × Int)} (h : ks.Nodup) (s : ∀ x ∈ ks, x ∈ ls) : ks.length ≤ ls.length := by
  induction ks generalizing ls with
  | nil => exact Nat.zero_le _
  | cons x ks ih =>
    obtain ⟨h1, h2⟩ := List.nodup_cons.mp h
    obtain ⟨a, b, rfl⟩ := List.append_of_mem (s x List.mem_cons_self)
    have := ih (ls := a ++ b) h2 fun y hy => by
      rcases List.mem_append.mp (s y (List.mem_cons_of_mem _ hy)) with z | z
      · exact List.mem_append_left _ z
      · rcases List.mem_cons.mp z with z | z
        · subst z; exact absurd hy h1
        · exact List.mem_append_right _ z
    rw [List.length_append] at this
    rw [List.length_append, List.length_cons, List.length_cons]
    omega
theorem pairsL_len {n : Int} (h : n ≤ 14) : (pairsL n).length ≤ 91 := by
  have e : (pairsL 14).length = 91 := by decide +kernel
  rw [← e]
  exact nodup_le (pw_nodup (pairsL_pw n)) fun x hx => pairsL_mem.mpr (by have := pairsL_mem.mp hx; omega)
def webD (n : Int) (ks : List (Int × Int)) : D := .tuple [.int n, .tuple (ks.map tieD)]
structure Web (n : Int) (ks : List (Int × Int)) : Prop where
  many : 0 ≤ n ∧ n ≤ 14
  pw : ks.Pairwise ltP
  ties : ∀ p ∈ ks, 0 ≤ p.1 ∧ p.1 < p.2 ∧ p.2 < n
theorem Web.len {n : Int} {ks : List (Int × Int)} (w : Web n ks) : ks.length ≤ 91 :=
  Nat.le_trans (nodup_le (pw_nodup w.pw) fun x hx => pairsL_mem.mpr (w.ties x hx)) (pairsL_len w.many.2)
theorem pair_toks (p : Int × Int) : PySem.W.keyToks (tieD p) = [.inl 1, .inl p.1, .inl 1, .inl p.2, .inl 0] := by simp [tieD, PySem.W.keyToks, PySem.W.keyToksAll]
theorem lex_ints (x y : Int) (l m : List (Int ⊕ List Nat)) : PyProof.Rows.lexLt PyProof.Rows.itemOrd (.inl x :: l) (.inl y :: m) = (decide (x < y) || (decide (x = y) && PyProof.Rows.lexLt PyProof.Rows.itemOrd l m)) := by
  by_cases h : x = y
  · subst h
    rw [PyProof.Rows.lex_self]
    simp
  · rw [PySem.W.lex_atom (by simpa using h), PySem.W.lex_one]
    show decide (x < y) = _
    simp [h]
theorem dataLt_pair (p q : Int × Int) : PySem.W.dataLt (tieD p) (tieD q) = decide (ltP p q) := by
  unfold PySem.W.dataLt
  rw [pair_toks, pair_toks, lex_ints, lex_ints, lex_ints, lex_ints, lex_ints]
  have e : PyProof.Rows.lexLt PyProof.Rows.itemOrd [] [] = false := PyProof.Rows.lex_irrefl _
  rw [e]
  unfold ltP
  by_cases h1 : p.1 < q.1
  · simp [h1]
  · by_cases h2 : p.1 = q.1
    · simp [h2]
    · simp [h1, h2]
theorem dataLe_pair (p q : Int × Int) : PySem.W.dataLe false id (tieD p) (tieD q) = !decide (ltP q p) := by
  rw [← dataLt_pair]
  rfl
theorem sort_pairs {ks : List (Int × Int)} (h : ks.Nodup) : ∃ ls : List (Int × Int), sortD (ks.map tieD) = ls.map tieD ∧ ls.Perm ks ∧ ls.Pairwise ltP := by
  obtain ⟨ls, h1, h2⟩ := perm_map_pick (sortD_perm (ks.map tieD))
  refine ⟨ls, h2, h1, ?_⟩
  have pw := sortD_pw (ks.map tieD)
  rw [h2, List.pairwise_map] at pw
  have nd : ls.Nodup := h1.nodup_iff.mpr h
  refine (pw.and nd).imp fun {p q} ⟨a, b⟩ => ?_
  rw [dataLe_pair] at a
  have a : ¬ ltP q p := by simpa using a
  rcases ltP_total b with z | z
  · exact z
  · exact absurd z a
theorem sort_rising {ks : List (Int × Int)} (h : ks.Pairwise ltP) : sortD (ks.map tieD) = ks.map tieD := by
  obtain ⟨ls, h1, h2, h3⟩ := sort_pairs (pw_nodup h)
  rw [h1, List.Perm.eq_of_pairwise (fun a b _ _ q r => absurd (ltP_trans q r) (ltP_irrefl _)) h3 h h2]
end TW
set_option Elab.async false
set_option linter.all false
set_option maxRecDepth 100000
namespace TW
open PySem PySem.Spec PyProof.Rows L2
theorem seq_cut {a b : MS} {cs : List C} {QF : Fl → List C → Prop} (P : List C → Prop) (h : Rn a cs fun f c => f = .nx ∧ P c) (k : ∀ c, P c → Rn b c QF) : Rn (mSeq a b) cs QF := by
  rw [rn_mSeq]
  exact h.mono fun f c ⟨e, p⟩ => by subst e; exact k c p
theorem ix_ev {ds : List D} {r : Int} {Q : D → Prop} (h0 : 0 ≤ r) (h1 : r < ds.length) (h : ∀ d ∈ ds, Q d) : Ev (gIx (.list ds) (.int r)) Q := by
  have hk : r.toNat < ds.length := by omega
  simp only [gIx]
  have e : r = ((r.toNat : Nat) : Int) := by omega
  rw [e, atI_nat (List.getElem?_eq_getElem hk)]
  exact ev_ok.mpr (h _ (List.getElem_mem hk))
theorem canLay_ints : ∀ ks : List Int, PyData.canLayAll0 (ks.map .int) = true
  | [] => by simp [PyData.canLayAll0]
  | k :: ks => by simp [PyData.canLayAll0, PyData.canLay0, canLay_ints ks]
theorem canLay_rows : ∀ ks : List (List Int), PyData.canLayAll0 (ks.map tupD) = true
  | [] => by simp [PyData.canLayAll0]
  | k :: ks => by simp [PyData.canLayAll0, tupD, PyData.canLay0, canLay_ints, canLay_rows ks]
theorem depth_rows : ∀ ks : List (List Int), PyData.depthAll (ks.map tupD) ≤ 8
  | [] => by simp [PyData.depthAll]
  | k :: ks => by
    have h1 := depth_rows ks
    have h2 := depth_ints k
    simp only [List.map_cons, PyData.depthAll]
    omega
theorem shaped_row (k : List Int) : SeqAt.shaped (tupD k) = true := by
  have h2 := depth_ints k
  unfold SeqAt.shaped
  rw [Bool.and_eq_true, decide_eq_true_eq]
  exact ⟨by simp [tupD, PyData.canLay0, canLay_ints], by omega⟩
theorem shaped_rows (ks : List (List Int)) : SeqAt.shaped (.list (ks.map tupD)) = true := by
  have h2 := depth_rows ks
  unfold SeqAt.shaped
  rw [Bool.and_eq_true, decide_eq_true_eq]
  refine ⟨by simp [PyData.canLay0, canLay_rows], ?_⟩
  simp only [PyData.depth]
  omega
theorem tieD_eq (p : Int × Int) : tieD p = tupD [p.1, p.2] := rfl
theorem ties_rows (ks : List (Int × Int)) : ks.map tieD = (ks.map fun p => [p.1, p.2]).map tupD := by rw [List.map_map]; rfl
theorem sort_perm {ds : List D} (h : allAlike ds = true ∧ sortKind ds = true ∧ shallow ds = true) : gSorted (.list ds) = .ok (sortD ds) := by simp [gSorted, h]
theorem gSorted_rows {ks : List (List Int)} (h : ∀ k ∈ ks, k ≠ []) : gSorted (.list (ks.map tupD)) = .ok (sortD (ks.map tupD)) := by
  refine sort_perm ⟨?_, ?_, ?_⟩
  · simp only [allAlike, List.all_map, List.all_eq_true, Function.comp]
    intro a _ b _
    simp only [tupD, PySem.W.alike]
    exact alike_ints a b
  · unfold sortKind
    rw [Bool.or_eq_true]
    refine .inl ?_
    simp only [List.all_map, List.all_eq_true, Function.comp]
    intro a ha
    cases e : a with
    | nil => exact absurd e (h a ha)
    | cons x xs => simp [tupD]
  · simp only [shallow, List.all_map, List.all_eq_true, Function.comp, Bool.and_eq_true, decide_eq_true_eq]
    exact fun a _ => ⟨Nat.le_trans (depth_ints a) (by omega), shaped_row a⟩
theorem gSorted_ties (ks : List (Int × Int)) : gSorted (.list (ks.map tieD)) = .ok (sortD (ks.map tieD)) := by
  rw [ties_rows]
  exact gSorted_rows fun k hk => by
    obtain ⟨p, _, rfl⟩ := List.mem_map.mp hk
    exact List.cons_ne_nil _ _
theorem gSorted_ints (ks : List Int) : gSorted (.list (ks.map .int)) = .ok (sortD (ks.map .int)) := by
  refine sort_perm ⟨?_, ?_, ?_⟩
  · simp [allAlike, PySem.W.alike]
  · unfold sortKind
    rw [Bool.or_eq_true]
    refine .inr ?_
    simp
  · simp [shallow, PyData.depth, shaped_int]
theorem sort_ints (ks : List Int) : ∃ ls : List Int, sortD (ks.map .int) = ls.map .int ∧ ls.Perm ks := by
  obtain ⟨ls, h1, h2⟩ := perm_map_pick (sortD_perm (ks.map PyData.int))
  exact ⟨ls, h2, h1⟩
theorem sub_map {α β : Type} {f : α → β} {es : List β} {ks : List α} (h : es.Sublist (ks.map f)) : ∃ ls : List α, es = ls.map f ∧ ls.Sublist ks := by
  obtain ⟨ls, h1, h2⟩ := List.sublist_map_iff.mp h
  exact ⟨ls, h2, h1⟩
theorem gIn_row {neg : Bool} {k : List Int} {ks : List (List Int)} : gInX neg (tupD k) (.list (ks.map tupD)) = .ok (.bool (neg != (ks.map tupD).any fun z => PyData.eqv z (tupD k))) := by
  unfold gInX gOr
  simp only [gIn, shaped_row, shaped_rows, Bool.and_self, if_true]
theorem eqv_ints : ∀ a b : List Int, PyData.eqvAll (a.map .int) (b.map .int) = decide (a = b)
  | [], [] => by simp [PyData.eqvAll]
  | [], _ :: _ => by simp [PyData.eqvAll]
  | _ :: _, [] => by simp [PyData.eqvAll]
  | x :: a, y :: b => by
    rw [List.map_cons, List.map_cons, PyData.eqvAll, eqv_ints a b]
    by_cases h : x = y <;> simp [PyData.eqv, h]
theorem eqv_rows : ∀ a b : List (List Int), PyData.eqvAll (a.map tupD) (b.map tupD) = decide (a = b)
  | [], [] => by simp [PyData.eqvAll]
  | [], _ :: _ => by simp [PyData.eqvAll]
  | _ :: _, [] => by simp [PyData.eqvAll]
  | x :: a, y :: b => by
    rw [List.map_cons, List.map_cons, PyData.eqvAll, eqv_rows a b]
    have e : PyData.eqv (tupD x) (tupD y) = decide (x = y) := by simp only [tupD, PyData.eqv]; exact eqv_ints x y
    rw [e]
    by_cases h : x = y <;> simp [h]
theorem Web.of {n : Int} {ks : List (Int × Int)} (h : 0 ≤ n ∧ n ≤ 14) (s : ks.Sublist (pairsL n)) : Web n ks := ⟨h, (pairsL_pw n).sublist s, fun p hp => pairsL_mem.mp (s.subset hp)⟩
end TW
set_option Elab.async false
set_option linter.all false
set_option maxRecDepth 100000
namespace TW
open PySem PySem.Spec PyProof.Rows L2
def rowP (p : Int × Int) : List Int := [p.1, p.2]
theorem rowP_inj {p q : Int × Int} (h : rowP p = rowP q) : p = q := by
  unfold rowP at h
  injection h with h1 h
  injection h with h2 _
  exact Prod.ext h1 h2
theorem of_rows : ∀ {l : List (List Int)}, (∀ k ∈ l, ∃ p, k = rowP p) → ∃ us : List (Int × Int), l = us.map rowP
  | [], _ => ⟨[], rfl⟩
  | k :: l, h => by
    obtain ⟨p, e⟩ := h k List.mem_cons_self
    obtain ⟨us, e2⟩ := of_rows (l := l) fun k hk => h k (List.mem_cons_of_mem _ hk)
    exact ⟨p :: us, by rw [e, e2]; rfl⟩
theorem keysD_rows : ∀ ks : List (List Int), (∀ k ∈ ks, k ≠ []) → keysD (ks.map tupD) = some ks
  | [], _ => rfl
  | k :: ks, h => by
    have hr : ∀ is : List Int, rowD (is.map .int) = some is := fun is => by
      induction is with
      | nil => rfl
      | cons i is ih => simp [rowD, ih]
    cases k with
    | nil => exact absurd rfl (h [] List.mem_cons_self)
    | cons i is => simp [tupD, keysD, hr, keysD_rows ks fun k hk => h k (List.mem_cons_of_mem _ hk)]
theorem ties_tup (ks : List (Int × Int)) : ks.map tieD = (ks.map rowP).map tupD := by rw [List.map_map]; rfl
theorem setsort_ties {ks : List (Int × Int)} {d : D} (hd : seqOf d = some (ks.map tieD)) (h : ks.length < 64) : ∃ ls : List (Int × Int), gSetSort d = .ok (ls.map tieD) ∧ ls.Pairwise ltP ∧ ∀ p, p ∈ ls ↔ p ∈ ks := by
  have hk : keysD (ks.map tieD) = some (ks.map rowP) := by
    rw [ties_tup]
    exact keysD_rows _ fun k hk => by
      obtain ⟨p, _, rfl⟩ := List.mem_map.mp hk
      exact List.cons_ne_nil _ _
  obtain ⟨us, e⟩ := of_rows (l := uniqL (ks.map rowP)) fun k hk => by
    obtain ⟨p, _, rfl⟩ := List.mem_map.mp (uniqL_mem.mp hk)
    exact ⟨p, rfl⟩
  have nd : us.Nodup := by
    have := uniqL_nodup (ks.map rowP)
    rw [e] at this
    exact nodup_of_map this
  obtain ⟨ls, h1, h2, h3⟩ := sort_pairs nd
  refine ⟨ls, ?_, h3, fun p => ?_⟩
  · unfold gSetSort
    rw [hd]
    simp only [hk, List.length_map, h, if_true, R.ok.injEq]
    rw [e, ← ties_tup, h1]
  · rw [h2.mem_iff]
    have m : rowP p ∈ us.map rowP ↔ rowP p ∈ ks.map rowP := by rw [← e]; exact uniqL_mem
    have inj : ∀ l : List (Int × Int), rowP p ∈ l.map rowP ↔ p ∈ l := fun l => ⟨fun q => by
      obtain ⟨r, hr, e⟩ := List.mem_map.mp q
      rw [← rowP_inj e]
      exact hr, fun q => List.mem_map.mpr ⟨p, q, rfl⟩⟩
    rw [inj, inj] at m
    exact m
end TW
set_option Elab.async false
set_option linter.all false
set_option maxRecDepth 100000
namespace TW
open PySem PySem.Spec PyProof.Rows L2
theorem plain_of {d : D} (h : noDict d = true) : plainD d = true := by
  cases d <;> simp [plainD, noDict] at *
def isI : D → Bool
  | .int _ => true
  | _ => false
def placeB (n : Int) : D → Bool
  | .int i => decide (0 ≤ i) && decide (i < n)
  | _ => false
def tieB (n : Int) : D → Bool
  | .tuple [.int a, .int b] => decide (0 ≤ a ∧ a < b ∧ b < n)
  | _ => false
def unTie : D → Int × Int
  | .tuple [.int a, .int b] => (a, b)
  | _ => (0, 0)
@[simp] theorem unTie_tieD (p : Int × Int) : unTie (tieD p) = p := rfl
@[simp] theorem tieB_tieD (n : Int) (p : Int × Int) : tieB n (tieD p) = decide (0 ≤ p.1 ∧ p.1 < p.2 ∧ p.2 < n) := rfl
theorem tieB_inv {n : Int} {d : D} (h : tieB n d = true) : ∃ p, d = tieD p := by
  unfold tieB at h
  split at h
  · rename_i a b; exact ⟨(a, b), rfl⟩
  · cases h
theorem ties_inv {n : Int} : ∀ {ts : List D}, (ts.all (tieB n)) = true → ∃ ks : List (Int × Int), ts = ks.map tieD ∧ ∀ p ∈ ks, 0 ≤ p.1 ∧ p.1 < p.2 ∧ p.2 < n
  | [], _ => ⟨[], rfl, fun _ h => (nomatch h)⟩
  | t :: ts, h => by
    rw [List.all_cons, Bool.and_eq_true] at h
    obtain ⟨ks, e, hk⟩ := ties_inv h.2
    obtain ⟨p, rfl⟩ := tieB_inv h.1
    have := of_decide_eq_true ((tieB_tieD n p).symm.trans h.1)
    exact ⟨p :: ks, by rw [e]; rfl, fun q hq => by
      rcases List.mem_cons.mp hq with z | z
      · rw [z]; exact this
      · exact hk q z⟩
def risB : List (Int × Int) → Bool
  | p :: q :: r => decide (ltP p q) && risB (q :: r)
  | _ => true
theorem risB_iff : ∀ {ks : List (Int × Int)}, risB ks = true ↔ ks.Pairwise ltP
  | [] => by simp [risB]
  | [p] => by simp [risB]
  | p :: q :: r => by
    unfold risB
    rw [Bool.and_eq_true, decide_eq_true_eq, risB_iff (ks := q :: r)]
    constructor
    · rintro ⟨h1, h2⟩
      refine List.pairwise_cons.mpr ⟨fun x hx => ?_, h2⟩
      rcases List.mem_cons.mp hx with z | z
      · rw [z]; exact h1
      · exact ltP_trans h1 ((List.pairwise_cons.mp h2).1 x z)
    · intro h
      exact ⟨(List.pairwise_cons.mp h).1 q List.mem_cons_self, (List.pairwise_cons.mp h).2⟩
def webB : D → Bool
  | .tuple [.int n, .tuple ts] => decide (0 ≤ n) && decide (n ≤ 14) && (ts.all (tieB n) && risB (ts.map unTie))
  | _ => false
theorem oLt_tie (p q : Int × Int) : oLt (tieD p) (tieD q) = .ok (.bool (decide (ltP p q))) := by
  have e := dataLt_pair p q
  unfold oLt gOrd
  rw [tieD_eq, tieD_eq] at *
  have a : PySem.W.alike (tupD [p.1, p.2]) (tupD [q.1, q.2]) = true := by simp only [tupD, PySem.W.alike]; exact alike_ints _ _
  have b : isNon (tupD [p.1, p.2]) = false := rfl
  have c : (tupD [p.1, p.2]).depth ≤ 60 := Nat.le_trans (depth_ints _) (by omega)
  rw [shaped_row, shaped_row, a, b, e]
  simp [c]
theorem cut_one (ds : List D) : cutD ds (some 1) none = ds.drop 1 := by
  unfold cutD
  rw [HT.sIx_none, show HT.sIx ds.length 0 (some 1) = min 1 ds.length from HT.sIx_nat ds.length 0 1]
  cases ds with
  | nil => rfl
  | cons x r =>
    rw [show min 1 (x :: r).length = 1 by rw [List.length_cons]; omega]
    rw [List.length_cons, Nat.add_sub_cancel]
    exact List.take_of_length_le (by simp)
theorem boolsD_map {α : Type} (f : α → Bool) : ∀ l : List α, boolsD (l.map fun x => .bool (f x)) = some (l.map f)
  | [] => rfl
  | x :: l => by simp [boolsD, boolsD_map f l]
theorem gAll_map {α : Type} (f : α → Bool) (l : List α) : gAll (.list (l.map fun x => .bool (f x))) = .ok (.bool (l.all f)) := by
  simp [gAll, boolsD_map, List.all_map]
theorem ris_zip : ∀ ks : List (Int × Int), ((ks.zip (ks.drop 1)).all fun z => decide (ltP z.1 z.2)) = risB ks
  | [] => rfl
  | [p] => rfl
  | p :: q :: r => by
    have := ris_zip (q :: r)
    simp only [List.drop_succ_cons, List.drop_zero] at this ⊢
    unfold risB
    rw [← this]
    simp
theorem rising_iff {ks ls : List (Int × Int)} (h : ls.Pairwise ltP) (m : ∀ p, p ∈ ls ↔ p ∈ ks) : decide (ks = ls) = risB ks := by
  rw [Bool.eq_iff_iff, decide_eq_true_eq, risB_iff]
  constructor
  · intro e; rw [e]; exact h
  · intro hk
    exact List.Perm.eq_of_pairwise (fun a b _ _ q r => absurd (ltP_trans q r) (ltP_irrefl _)) hk h ((List.perm_ext_iff_of_nodup (pw_nodup hk) (pw_nodup h)).mpr fun p => (m p).symm)
end TW
set_option Elab.async false
set_option linter.all false
set_option maxRecDepth 100000
namespace TW
open PySem PySem.Spec PyProof.Rows L2
section
variable {α β : Type} {n k : Nat} {xs ds : List D} {cs : List C} {a b body : MS} {m : M D} {ms : M (List D)} {F : List D → R D} {Fn : List D → R (List D)}
theorem err_bind {m : M α} {f : α → M β} (h : m cs = .err n xs) : M.bind m f cs = .err n xs := by unfold M.bind; rw [h]
theorem err_bind2 {m : M α} {f : α → M β} (h : Rn m cs fun a c => f a c = .err n xs) : M.bind m f cs = .err n xs := by
  obtain ⟨a, c, e, q⟩ := h
  unfold M.bind
  rw [e]
  exact q
theorem err_seq (h : a cs = .err n xs) : mSeq a b cs = .err n xs := err_bind h
theorem err_seq2 (P : List C → Prop) (h : Rn a cs fun f c => f = .nx ∧ P c) (q : ∀ c, P c → b c = .err n xs) : mSeq a b cs = .err n xs := by
  refine err_bind2 (h.mono fun f c ⟨e, p⟩ => ?_)
  subst e
  exact q c p
theorem err_call (h : Rn ms cs fun ds _ => ds.length = k ∧ F ds = .err n xs) : mCall k F ms cs = .err n xs := by
  refine err_bind2 (h.mono fun ds c ⟨e, p⟩ => ?_)
  rw [if_pos e]
  unfold M.lift
  rw [p]
theorem err_ifT {t : M Bool} (h : Rn t cs fun k c => k = true ∧ a c = .err n xs) : mIfS t a b cs = .err n xs := by
  refine err_bind2 (h.mono fun k c ⟨e, p⟩ => ?_)
  subst e
  exact p
theorem err_fnD (h : body (unfill k (ds.map .dat)) = .err n xs) : fnD k body ds = .err n xs := by unfold fnD; rw [h]
theorem rn_refused {me : M D} {Q : D → List C → Prop} (h : me (mask cs) = .err n []) (hn : n < 12) (q : Q (.list [.int n]) cs) : Rn (mRefused me) cs Q := by
  refine ⟨.list [.int n], cs, ?_, q⟩
  unfold mRefused
  rw [h]
  simp [hn]
end
section
variable {ms : M (List D)} {cs : List C} {i n : Nat} {QL : List D → List C → Prop} {Q : D → List C → Prop} {F : List D → R D}
@[simp] theorem rn_mLook : Rn (mLook i ms) cs QL ↔ hasC cs i = true ∧ Rn ms cs fun ds c => onLook c[i]? c fun d c => QL (d :: ds) c := by
  have e : ∀ ds c, Rn (lookAt i ds) c QL ↔ onLook c[i]? c fun d c => QL (d :: ds) c := fun ds c => by
    unfold Rn lookAt onLook
    cases e : c[i]? with
    | none => simp
    | some x => cases x <;> simp [ex_two]
  unfold mLook
  by_cases h : hasC cs i = true
  · simp only [Rn, h, if_true, true_and]
    have := rn_bind (m := ms) (k := fun ds => lookAt i ds) (cs := cs) (Q := QL)
    simp only [e] at this
    exact this
  · simp [Rn, h]
@[simp] theorem rn_mCallL : Rn (mCallL n F ms) cs Q ↔ Rn ms cs fun ds c => ds.length = n ∧ Ev (F ds) fun z => flatD z = true ∧ Q z c := by
  unfold mCallL
  rw [rn_bind]
  refine iff_of_eq (congrArg _ (funext fun ds => funext fun c => propext ?_))
  by_cases h : ds.length = n
  · simp only [h, if_true, true_and]
    unfold Rn liftFlat
    cases e : F ds with
    | ok d => by_cases hf : flatD d = true <;> simp [hf, ex_two]
    | err n xs => simp
    | bad => simp
  · simp [h]
end
end TW
set_option Elab.async false
set_option linter.all false
set_option maxRecDepth 100000
namespace TW
open PySem PySem.Spec PyProof.Rows L2
def thenPut (i : Nat) (mk : M D) (d : D) (rest : MS) : MS := M.bind mk fun k => M.bind (ownPut i (gPut k d)) fun _ => rest
def swapPut (i : Nat) (k1 k2 : M D) (d : D) : MS := match d with
  | .tuple [a, b] => fun cs => if isOwn cs i then thenPut i k1 a (thenPut i k2 b mNx) cs else .bad
  | _ => fun _ => .bad
def mSwap2 (i : Nat) (k1 k2 m : M D) : MS := M.bind m fun d => swapPut i k1 k2 d
section
variable {cs : List C} {i : Nat} {mb k1 k2 m : M D} {Q : D → List C → Prop} {QF : Fl → List C → Prop}
@[simp] theorem rn_mIxO : Rn (mIxO i mb) cs Q ↔ hasC cs i = true ∧ Rn mb cs fun e c => onLook c[i]? c fun d c => Ev (gIx d e) fun z => Q z c := by
  have e : ∀ d c, Rn (lookIx i d) c Q ↔ onLook c[i]? c fun x c => Ev (gIx x d) fun z => Q z c := fun d c => by
    unfold Rn lookIx onLook
    cases e : c[i]? with
    | none => simp
    | some x =>
      cases x with
      | un => simp
      | dat y => exact rn_only
      | own t ds => exact rn_only
  unfold mIxO
  by_cases h : hasC cs i = true
  · simp only [Rn, h, if_true, true_and]
    have := rn_bind (m := mb) (k := fun ds => lookIx i ds) (cs := cs) (Q := Q)
    simp only [e] at this
    exact this
  · simp [Rn, h]
@[simp] theorem rn_thenPut {d : D} {rest : MS} : Rn (thenPut i k1 d rest) cs QF ↔ Rn k1 cs fun k c => Rn (ownPut i (gPut k d)) c fun _ c => Rn rest c QF := by
  unfold thenPut
  simp only [rn_bind]
@[simp] theorem rn_mSwap2 : Rn (mSwap2 i k1 k2 m) cs QF ↔ Rn m cs fun d c => Rn (swapPut i k1 k2 d) c QF := by unfold mSwap2; rw [rn_bind]
@[simp] theorem rn_swapPut {a b : D} : Rn (swapPut i k1 k2 (.tuple [a, b])) cs QF ↔ isOwn cs i = true ∧ Rn (thenPut i k1 a (thenPut i k2 b mNx)) cs QF := by
  unfold swapPut
  exact rn_own
end
end TW
set_option Elab.async false
set_option linter.all false
set_option maxRecDepth 100000
namespace TW
open PySem PySem.Spec PyProof.Rows L2
def fLst (n : Nat) : D → R (List D)
  | .list ds => if ds.length = n then .ok ds else .bad
  | _ => .bad
@[simp] theorem fLst_two {d e : D} : fLst 2 (.list [d, e]) = .ok [d, e] := rfl
end TW
set_option Elab.async false
set_option linter.all false
set_option maxRecDepth 100000
namespace TW
open PySem PySem.Spec PyProof.Rows L2
end TW
set_option Elab.async false
set_option linter.all false
set_option maxRecDepth 100000
namespace TW
open PySem PySem.Spec PyProof.Rows L2 LamX
end TW
set_option Elab.async false
set_option linter.all false
set_option maxRecDepth 100000
namespace TW
open PySem PySem.Spec PyProof.Rows L2 LamX
end TW
set_option Elab.async false
set_option linter.all false
set_option maxRecDepth 100000
namespace TW
open PySem PySem.Spec PyProof.Rows L2 LamX
end TW
set_option Elab.async false
set_option linter.all false
set_option maxRecDepth 100000
namespace TW
open PySem PySem.Spec PyProof.Rows L2
end TW
set_option Elab.async false
set_option linter.all false
set_option maxRecDepth 100000
namespace TW
open PySem PySem.Spec PyProof.Rows L2
structure MakerAt (K : PySem.W.Frag) (mg : Str → Option Value) (base : Heap) (c : Addr) (q : Str) : Prop where
  ex : ∃ P, LamX.TabB base mg c P ∧ (P, q) ∈ lamT K ∧ ∀ p ∈ lamT K, p.1 = P → p.2 = q
theorem MakerAt.mk' {X : Cx} {c : Addr} {q : Str} (h : MakerAt X.K X.mg X.base c q) (hc : X.env.code = .ref c) (hq : X.env.qual ++ "<lambda>" = q) : Maker X := by
  obtain ⟨P, h1, h2, h3⟩ := h.ex
  exact ⟨c, P, h1, hc, by rw [hq]; exact h2, by rw [hq]; exact h3⟩
theorem nodup_fst {α β : Type} : ∀ {l : List (α × β)} {a : α} {b b' : β}, (l.map Prod.fst).Nodup → (a, b) ∈ l → (a, b') ∈ l → b = b'
  | [], _, _, _, _, h, _ => by cases h
  | x :: l, a, b, b', n, h, h' => by
    rw [List.map_cons, List.nodup_cons] at n
    rcases List.mem_cons.mp h with e | h
    · rcases List.mem_cons.mp h' with e' | h'
      · rw [← e] at e'; cases e'; rfl
      · rw [← e] at n; exact absurd (List.mem_map.mpr ⟨_, h', rfl⟩) n.1
    · rcases List.mem_cons.mp h' with e' | h'
      · rw [← e'] at n; exact absurd (List.mem_map.mpr ⟨_, h, rfl⟩) n.1
      · exact nodup_fst n.2 h h'
theorem makerAt_of {K : PySem.W.Frag} {mg : Str → Option Value} {base : Heap} {c P : Addr} {q : Str} {L : List (Addr × Str)} (lt : lamT K = L) (nd : (L.map Prod.fst).Nodup) (tb : LamX.TabB base mg c P) (hm : (P, q) ∈ L) : MakerAt K mg base c q :=
  ⟨P, tb, by rw [lt]; exact hm, by
    rw [lt]
    rintro ⟨P', q'⟩ hp e
    cases (show P' = P from e)
    exact nodup_fst nd hp hm⟩
end TW
set_option Elab.async false
set_option linter.all false
set_option maxRecDepth 100000
namespace Td
open PySem PySem.Spec PyProof.Rows L2 TW
def b_is_whole : MS := (mRet (mAndV (mOp1 (gIsi "int") (vVar 0)) (mNotV (mOp1 (gIsi "bool") (vVar 0)))))
def F_is_whole : List D → R D := fnD 1 b_is_whole
def b_is_place : MS := (mRet (mAndV (mCall 1 F_is_whole (mCons (mVar 1) mNil)) (mChain oLe oLt (mC (.int 0)) (mVar 1) (vVar 0))))
def F_is_place : List D → R D := fnD 2 b_is_place
def b_rises : MS := (mRet (mOp1 gAll (mOfN (mComp [1, 2] [1, 2] (fTup 2) (mZip (mVar 0) (mSl (mVar 0) (mPart (mC (.int 1))) mNoPart)) mYes (mOp2 oLt (mVar 1) (vVar 2))))))
def F_rises : List D → R D := fnD 3 b_rises
def b_is_tie : MS := (mSeq (mIfS (mOr (mNot (mTest (mOp1 (gIsi "tuple") (vVar 1)))) (mOr (mTest (mOp2 gNe (mOp1 gLen (vVar 1)) (mC (.int 2)))) (mNot (mTest (mOp1 gAll (mOfN (mComp [2] [2] fName (mSeq1 (mVar 1)) mYes (mCall 2 F_is_place (mCons (mVar 0) (mCons (mVar 2) mNil)))))))))) (mRet (mC (.bool false))) mNx) (mRet (mOp2 oLt (mOp2 gIx (mVar 1) (mC (.int 0))) (mOp2 gIx (mVar 1) (mC (.int 1))))))
def F_is_tie : List D → R D := fnD 3 b_is_tie
def b_is_web : MS := (mSeq (mIfS (mOr (mNot (mTest (mOp1 (gIsi "tuple") (vVar 0)))) (mOr (mTest (mOp2 gNe (mOp1 gLen (vVar 0)) (mC (.int 2)))) (mOr (mNot (mTest (mCall 1 F_is_whole (mCons (mOp2 gIx (mVar 0) (mC (.int 0))) mNil)))) (mNot (mTest (mChain oLe oLe (mC (.int 0)) (mOp2 gIx (mVar 0) (mC (.int 0))) (mC (.int 14)))))))) (mRet (mC (.bool false))) mNx) (mRet (mAndV (mOp1 (gIsi "tuple") (mOp2 gIx (mVar 0) (mC (.int 1)))) (mAndV (mOp1 gAll (mOfN (mComp [1] [1] fName (mSeq1 (mOp2 gIx (mVar 0) (mC (.int 1)))) mYes (mCall 2 F_is_tie (mCons (mOp2 gIx (mVar 0) (mC (.int 0))) (mCons (mVar 1) mNil)))))) (mCall 1 F_rises (mCons (mOp2 gIx (mVar 0) (mC (.int 1))) mNil))))))
def F_is_web : List D → R D := fnD 2 b_is_web
def b__law_cell_at : MS := (mSeq (mIfS (mTest (mOp2 oLt (mVar 1) (mOp1 gLen (vVar 0)))) (mRet (mOp2 gIx (mVar 0) (vVar 1))) mNx) (mRet (mC (.int 0))))
def F__law_cell_at : List D → R D := fnD 2 b__law_cell_at
def b__law_state : MS := (mSeq (mSet 2 (mCall 2 F__law_cell_at (mCons (mVar 0) (mCons (mVar 1) mNil)))) (mSeq (mIfS (mTest (mOp2 oGe (mVar 2) (mOp2 gPow (mC (.int 10)) (mC (.int 18))))) (mRetN (mLst (mCons (mOp2 gSub (mVar 2) (mOp2 gPow (mC (.int 10)) (mC (.int 18)))) (mCons (mC (.bool true)) mNil)))) mNx) (mRetN (mLst (mCons (mOp2 gMod (mVar 2) (mC (.int 2147483647))) (mCons (mC (.bool false)) mNil))))))
def F__law_state : List D → R (List D) := fnN 3 b__law_state
def b__law_take : MS := (mSeq (mIfS (mTest (mOp2 gIx (vVar 0) (mC (.int 1)))) (mSeq (mSet 3 (mOp2 gMod (mOp2 gIx (vVar 0) (mC (.int 0))) (vVar 1))) (mSeq (mSetIx 0 (mC (.int 0)) (mOp2 gDiv (mOp2 gIx (vVar 0) (mC (.int 0))) (vVar 1))) (mRet (mVar 3)))) mNx) (mSeq (mSetIx 0 (mC (.int 0)) (mOp2 gMod (mOp2 gAdd (mOp2 gMul (mOp2 gIx (vVar 0) (mC (.int 0))) (mC (.int 48271))) (mC (.int 29))) (mC (.int 2147483647)))) (mSeq (mSet 2 (mOp2 gMod (mOp2 gAdd (mOp2 gAdd (mOp2 gMul (mOp2 gIx (vVar 0) (mC (.int 0))) (mOp2 gIx (vVar 0) (mC (.int 0)))) (mOp2 gMul (mC (.int 39373)) (mOp2 gIx (vVar 0) (mC (.int 0))))) (mC (.int 7))) (mC (.int 2147483629)))) (mSeq (mSet 2 (mOp2 gMod (mOp2 gAdd (mOp2 gMul (mVar 2) (vVar 2)) (mOp2 gMul (mC (.int 16807)) (vVar 2))) (mC (.int 2147483587)))) (mRet (mOp2 gMod (mOp2 gDiv (mVar 2) (mC (.int 8))) (vVar 1)))))))
def F__law_take : List D → List D → R (D × List D) := fnS 4 b__law_take
def b__law_pairs : MS := (mSeq (mSetN 1 (mLst mNil)) (mSeq (mFor [2] fName (mRange1 (mVar 0)) (mOn 1 (mOfN (mComp [3] [3] fName (mRange (mOp2 gAdd (mVar 2) (mC (.int 1))) (mVar 0)) mYes (mTup (mCons (mVar 2) (mCons (mVar 3) mNil))))) gExt)) (mRetO 1)))
def F__law_pairs : List D → R (List D) := fnN 4 b__law_pairs
def b__law_mixed_row : MS := (mSeq (mSetN 2 (mOp1N gList (vVar 1))) (mSeq (mSetN 3 (mLst mNil)) (mSeq (whileGo (mTest (mOp2 gNe (vVar 2) (mOfN (mLst mNil)))) (mOn 3 (mPop 2 (mCallS 1 0 F__law_take (mCons (mOp1 gLen (vVar 2)) mNil))) gApp) 100000) (mRet (mVar 3)))))
def F__law_mixed_row : List D → List D → R (D × List D) := fnS 4 b__law_mixed_row
def b__law_web : MS := (mSeq (mSet 2 (mOp2 gMax2 (mC (.int 0)) (mOp2 gSub (mVar 1) (mOp2 gIx (mOfN (mLst (mCons (mC (.int 0)) (mCons (mC (.int 0)) (mCons (mC (.int 1)) (mCons (mC (.int 0)) (mCons (mC (.int 2)) (mCons (mC (.int 1)) (mCons (mC (.int 3)) (mCons (mVar 1) mNil)))))))))) (mCallS 1 0 F__law_take (mCons (mC (.int 8)) mNil)))))) (mSeq (mSet 3 (mCallS 1 0 F__law_take (mCons (mC (.int 7)) mNil))) (mSeq (mSetN 4 (mComp [8] [8] fName (mSeq1 (mOfN (mCallN 1 F__law_pairs (mCons (mVar 2) mNil)))) (mTest (mOp2 oLt (mCallS 1 0 F__law_take (mCons (mC (.int 8)) mNil)) (mOp2 gIx (mOfN (mLst (mCons (mC (.int 2)) (mCons (mC (.int 4)) (mCons (mC (.int 6)) mNil))))) (mOp2 gMod (mVar 3) (mC (.int 3)))))) (mVar 8))) (mSeq (mSet 5 (mCallS 1 0 F__law_mixed_row (mCons (mOfN (mRange1 (mVar 2))) mNil))) (mSeq (mIfS (mTest (mOp2 oGt (mVar 3) (mC (.int 2)))) (mSeq (mSetN 4 (mLst mNil)) (mSeq (mFor [6] fName (mRange (mC (.int 1)) (mVar 2)) (mOn 4 (mOp1 gTuple (mOfN (mOp1N gSorted (mOfN (mLst (mCons (mOp2 gIx (mVar 5) (vVar 6)) (mCons (mOp2 gIx (mVar 5) (mOp2 gIx (mOfN (mLst (mCons (mOp2 gSub (mVar 6) (mC (.int 1))) (mCons (mOp2 gSub (mVar 6) (mC (.int 1))) (mCons (mC (.int 0)) (mCons (mOp2 gDiv (mVar 6) (mC (.int 2))) mNil)))))) (mOp2 gSub (mVar 3) (mC (.int 3))))) mNil))))))) gApp)) (mSeq (mIfS (mAnd (mTest (mOp2 gEq (mVar 3) (mC (.int 4)))) (mTest (mOp2 oGt (mVar 2) (mC (.int 2))))) (mOn 4 (mOp1 gTuple (mOfN (mOp1N gSorted (mOfN (mLst (mCons (mOp2 gIx (mVar 5) (mC (.int 0))) (mCons (mOp2 gIx (mVar 5) (mOp2 gSub (mVar 2) (mC (.int 1)))) mNil))))))) gApp) mNx) (mSeq (mSet 7 (mOfN (mComp [8] [8] fName (mSeq1 (mOfN (mCallN 1 F__law_pairs (mCons (mVar 2) mNil)))) (mTest (mOp2 gEq (mCallS 1 0 F__law_take (mCons (mC (.int 12)) mNil)) (mC (.int 0)))) (mVar 8)))) (mSetN 4 (mComp [8] [8] fName (mSeq1 (mOfN (mCallN 1 F__law_pairs (mCons (mVar 2) mNil)))) (mTest (mOp2 gNe (mOp2 (gInX false) (mVar 8) (vVar 4)) (mOp2 (gInX false) (mVar 8) (vVar 7)))) (mVar 8))))))) mNx) (mRet (mTup (mCons (mVar 2) (mCons (mOp1 gTuple (mOfN (mOp1N gSorted (vVar 4)))) mNil)))))))))
def F__law_web : List D → List D → R (D × List D) := fnS 9 b__law_web
def b__law_great_web : MS := (mSeq (mSet 1 (mOp2 gAdd (mC (.int 8)) (mCallS 1 0 F__law_take (mCons (mC (.int 7)) mNil)))) (mSeq (mSetN 2 (mLst mNil)) (mSeq (mFor [3] fName (mRange1 (mCallS 1 0 F__law_take (mCons (mC (.int 12)) mNil))) (mSeq (mSet 4 (mCallS 1 0 F__law_take (mCons (mVar 1) mNil))) (mSeq (mSet 5 (mOp2 gMod (mOp2 gAdd (mOp2 gAdd (mVar 4) (mC (.int 1))) (mCallS 1 0 F__law_take (mCons (mOp2 gSub (mVar 1) (mC (.int 1))) mNil))) (vVar 1))) (mOn 2 (mTup (mCons (mOp2 gMin2 (mVar 4) (vVar 5)) (mCons (mOp2 gMax2 (mVar 4) (vVar 5)) mNil))) gApp)))) (mRet (mTup (mCons (mVar 1) (mCons (mOp1 gTuple (mOfN (mOp1N gSetSort (vVar 2)))) mNil)))))))
def F__law_great_web : List D → List D → R (D × List D) := fnS 6 b__law_great_web
def b__law_whole : MS := (mRet (mAndV (mOp1 (gIsi "int") (vVar 0)) (mNotV (mOp1 (gIsi "bool") (vVar 0)))))
def F__law_whole : List D → R D := fnD 1 b__law_whole
def b__law_is_web : MS := (mSeq (mIfS (mOr (mNot (mTest (mOp1 (gIsi "tuple") (vVar 0)))) (mOr (mTest (mOp2 gNe (mOp1 gLen (vVar 0)) (mC (.int 2)))) (mOr (mNot (mTest (mCall 1 F__law_whole (mCons (mOp2 gIx (mVar 0) (mC (.int 0))) mNil)))) (mNot (mTest (mChain oLe oLe (mC (.int 0)) (mOp2 gIx (mVar 0) (mC (.int 0))) (mC (.int 14)))))))) (mRet (mC (.bool false))) mNx) (mSeq (mIfS (mNot (mTest (mOp1 (gIsi "tuple") (mOp2 gIx (mVar 0) (mC (.int 1)))))) (mRet (mC (.bool false))) mNx) (mSeq (mFor [1] fName (mSeq1 (mOp2 gIx (mVar 0) (mC (.int 1)))) (mSeq (mIfS (mOr (mNot (mTest (mOp1 (gIsi "tuple") (vVar 1)))) (mOr (mTest (mOp2 gNe (mOp1 gLen (vVar 1)) (mC (.int 2)))) (mOr (mNot (mTest (mCall 1 F__law_whole (mCons (mOp2 gIx (mVar 1) (mC (.int 0))) mNil)))) (mNot (mTest (mCall 1 F__law_whole (mCons (mOp2 gIx (mVar 1) (mC (.int 1))) mNil))))))) (mRet (mC (.bool false))) mNx) (mIfS (mNot (mTest (mChain3 oLe oLt oLt (mC (.int 0)) (mOp2 gIx (mVar 1) (mC (.int 0))) (mOp2 gIx (mVar 1) (mC (.int 1))) (mOp2 gIx (mVar 0) (mC (.int 0)))))) (mRet (mC (.bool false))) mNx))) (mRet (mOp2 gEq (mOfN (mOp1N gList (mOp2 gIx (mVar 0) (mC (.int 1))))) (mOfN (mOp1N gSetSort (mOp2 gIx (mVar 0) (mC (.int 1))))))))))
def F__law_is_web : List D → R D := fnD 2 b__law_is_web
def b__law_same (n : List D → R D) : MS := (mSeq (mIfS (mTest (mOp1 (gIsi2 "tuple" "list") (vVar 1))) (mSeq (mIfS (mOr (mTest (mOp2 gNe (mOp1 (gIsi "tuple") (vVar 0)) (mOp1 (gIsi "tuple") (vVar 1)))) (mTest (mOp2 gNe (mOp1 (gIsi "list") (vVar 0)) (mOp1 (gIsi "list") (vVar 1))))) (mRet (mC (.bool false))) mNx) (mSeq (mIfS (mTest (mOp2 gNe (mOp1 gLen (vVar 0)) (mOp1 gLen (vVar 1)))) (mRet (mC (.bool false))) mNx) (mRet (mOp1 gAll (mOfN (mComp [2, 3] [2, 3] (fTup 2) (mZip (mVar 0) (mVar 1)) mYes (mCall 2 n (mCons (mVar 2) (mCons (mVar 3) mNil))))))))) mNx) (mRet (mAndV (mOp2 gEq (mVar 0) (vVar 1)) (mOp2 gEq (mOp1 (gIsi "bool") (vVar 0)) (mOp1 (gIsi "bool") (vVar 1))))))
def F__law_same : Nat → List D → R D
  | 0 => fun _ => .bad
  | n + 1 => fnD 4 (b__law_same (F__law_same n))
def m0__law_refused : MS := (mSeq (mSetN 2 (mLst (mCons (mOp1 gIsNo (mVar 1)) (mCons (mOp1 gIsNo (mVar 1)) (mCons (mOp1 gIsNo (mVar 1)) mNil))))) (mSeq (mSetN 2 (mOp2N gCatL (mVar 2) (mOfN (mLst (mCons (mOp1 gIsNo (mVar 1)) (mCons (mOp1 gIsNo (mVar 1)) (mCons (mOp1 gIsNo (mVar 1)) mNil))))))) (mSeq (mSetN 2 (mOp2N gCatL (mVar 2) (mOfN (mLst (mCons (mOp1 gIsNo (mVar 1)) (mCons (mOp1 gIsNo (mVar 1)) (mCons (mOp1 gIsNo (mVar 1)) mNil))))))) (mSeq (mSetN 2 (mOp2N gCatL (mVar 2) (mOfN (mLst (mCons (mOp1 gIsNo (mVar 1)) (mCons (mOp1 gIsNo (mVar 1)) (mCons (mOp1 gIsNo (mVar 1)) mNil))))))) (mSeq (mOn 2 (mOp1 gIsNo (mVar 1)) gApp) (mSeq (mIfS (mNot (mTest (mOp1 gIsNo (mVar 1)))) (mRet (mC .none)) mNx) (mSeq (mSet 3 (mOfN (mComp [5] [5] fName (mRange1 (mC (.int 13))) (mTest (mOp2 gIx (vVar 2) (vVar 5))) (mVar 5)))) (mRet (mIf (mTest (mOp2 gEq (mVar 3) (mOfN (mLst (mCons (mC (.int 12)) mNil))))) (mOp2 gAdd (mVar 3) (mOfN (mLst (mCons (fun _ => .bad) (mCons (fun _ => .bad) mNil))))) (mVar 3))))))))))
def m1__law_refused (n : Nat) (a : Addr) (d : Option Addr) : MS := (mSeq (mSetN 2 (mLst (mCons (mOp1 (gIsX (some (n, a, d)) 0) (mVar 1)) (mCons (mOp1 (gIsX (some (n, a, d)) 1) (mVar 1)) (mCons (mOp1 (gIsX (some (n, a, d)) 2) (mVar 1)) mNil))))) (mSeq (mSetN 2 (mOp2N gCatL (mVar 2) (mOfN (mLst (mCons (mOp1 (gIsX (some (n, a, d)) 3) (mVar 1)) (mCons (mOp1 (gIsX (some (n, a, d)) 4) (mVar 1)) (mCons (mOp1 (gIsX (some (n, a, d)) 5) (mVar 1)) mNil))))))) (mSeq (mSetN 2 (mOp2N gCatL (mVar 2) (mOfN (mLst (mCons (mOp1 (gIsX (some (n, a, d)) 6) (mVar 1)) (mCons (mOp1 (gIsX (some (n, a, d)) 7) (mVar 1)) (mCons (mOp1 (gIsX (some (n, a, d)) 8) (mVar 1)) mNil))))))) (mSeq (mSetN 2 (mOp2N gCatL (mVar 2) (mOfN (mLst (mCons (mOp1 (gIsX (some (n, a, d)) 9) (mVar 1)) (mCons (mOp1 (gIsX (some (n, a, d)) 10) (mVar 1)) (mCons (mOp1 (gIsX (some (n, a, d)) 11) (mVar 1)) mNil))))))) (mSeq (mOn 2 (mOp1 (gIsX (some (n, a, d)) 12) (mVar 1)) gApp) (mSeq (mIfS (mNot (mTest (mOp1 (gIsVX (some (n, a, d))) (mVar 1)))) (mRet (mC .none)) mNx) (mSeq (mSet 3 (mOfN (mComp [5] [5] fName (mRange1 (mC (.int 13))) (mTest (mOp2 gIx (vVar 2) (vVar 5))) (mVar 5)))) (mRet (mIf (mTest (mOp2 gEq (mVar 3) (mOfN (mLst (mCons (mC (.int 12)) mNil))))) (mOp2 gAdd (mVar 3) (mOfN (mLst (mCons (mOp1 (gFldX (some (n, a, d)) "many") (mVar 1)) (mCons (mOp1 (gFldX (some (n, a, d)) "most") (mVar 1)) mNil))))) (mVar 3))))))))))
end Td
set_option Elab.async false
set_option linter.all false
set_option maxRecDepth 100000
namespace Td
open PySem PySem.Spec PyProof.Rows L2 TW
theorem gIsX_one {n : Nat} {a : Addr} {m : Nat} : gIsX (some (n, a, none)) m (.dict [(.int a, .none)]) = .ok (.bool (n == m)) := by simp [gIsX, excIs]
theorem gIsVX_one {n : Nat} {a : Addr} : gIsVX (some (n, a, none)) (.dict [(.int a, .none)]) = .ok (.bool true) := by simp [gIsVX, excIs]
theorem gIsX_big {n : Nat} {a dd : Addr} {m : Nat} {i j : Int} : gIsX (some (n, a, some dd)) m (.dict [(.int a, .tuple [.int dd, .int i, .int j])]) = .ok (.bool (n == m)) := by simp [gIsX, excIs]
theorem gIsVX_big {n : Nat} {a dd : Addr} {i j : Int} : gIsVX (some (n, a, some dd)) (.dict [(.int a, .tuple [.int dd, .int i, .int j])]) = .ok (.bool true) := by simp [gIsVX, excIs]
theorem gFldX_many {n : Nat} {a dd : Addr} {i j : Int} : gFldX (some (n, a, some dd)) "many" (.dict [(.int a, .tuple [.int dd, .int i, .int j])]) = .ok (.int i) := by simp [gFldX, excIs]
theorem gFldX_most {n : Nat} {a dd : Addr} {i j : Int} : gFldX (some (n, a, some dd)) "most" (.dict [(.int a, .tuple [.int dd, .int i, .int j])]) = .ok (.int j) := by
  have e : (("most" : Str) = "many") = False := by decide
  simp [gFldX, excIs, e]
theorem gCat_ok {ds es : List D} (h : ds.length + es.length ≤ 16777216) : gCatL (.list ds) (.list es) = .ok (ds ++ es) := by simp [gCatL, szOk, h]
def marks (n : Nat) : List D := [.bool (n == 0), .bool (n == 1), .bool (n == 2), .bool (n == 3), .bool (n == 4), .bool (n == 5), .bool (n == 6), .bool (n == 7), .bool (n == 8), .bool (n == 9), .bool (n == 10), .bool (n == 11), .bool (n == 12)]
theorem tells_end {n : Nat} (hn : n < 12) (x : D) : Rn (mSet 3 (mOfN (mComp [5] [5] fName (mRange1 (mC (.int 13))) (mTest (mOp2 gIx (vVar 2) (vVar 5))) (mVar 5)))) [.un, .dat x, .own false (marks n), .un, .un, .un] fun f c => f = .nx ∧ c = [.un, .dat x, .own false (marks n), .dat (.list [.int n]), .un, .un] := by
  have : n = 0 ∨ n = 1 ∨ n = 2 ∨ n = 3 ∨ n = 4 ∨ n = 5 ∨ n = 6 ∨ n = 7 ∨ n = 8 ∨ n = 9 ∨ n = 10 ∨ n = 11 := by omega
  rcases this with e | e | e | e | e | e | e | e | e | e | e | e <;> subst e <;> exact ⟨.nx, _, by kernel_rfl, rfl, rfl⟩
theorem tells_end2 (x : D) : Rn (mSet 3 (mOfN (mComp [5] [5] fName (mRange1 (mC (.int 13))) (mTest (mOp2 gIx (vVar 2) (vVar 5))) (mVar 5)))) [.un, .dat x, .own false (marks 12), .un, .un, .un] fun f c => f = .nx ∧ c = [.un, .dat x, .own false (marks 12), .dat (.list [.int 12]), .un, .un] := ⟨.nx, _, by kernel_rfl, rfl, rfl⟩
theorem tells__law_refused : Tells 6 m0__law_refused m1__law_refused := by
  refine ⟨by decide, ⟨_, rfl⟩, fun n hn a => ?_, fun a dd i j => ?_⟩
  · suffices h : Rn (m1__law_refused n a none) [.un, .dat (.dict [(.int a, .none)]), .un, .un, .un, .un] fun f _ => f = .rt (.list [.int n]) by
      obtain ⟨f, c, e, rfl⟩ := h
      exact ⟨c, e⟩
    unfold m1__law_refused
    generalize hx : PyData.dict [(.int a, .none)] = x
    have q1 : ∀ m, gIsX (some (n, a, none)) m x = .ok (.bool (n == m)) := fun m => by rw [← hx]; exact gIsX_one
    have q2 : gIsVX (some (n, a, none)) x = .ok (.bool true) := by rw [← hx]; exact gIsVX_one
    refine seq_cut (fun c => c = [.un, .dat x, .own false [.bool (n == 0), .bool (n == 1), .bool (n == 2)], .un, .un, .un]) (by simp [q1]) ?_
    rintro c rfl
    refine seq_cut (fun c => c = [.un, .dat x, .own false [.bool (n == 0), .bool (n == 1), .bool (n == 2), .bool (n == 3), .bool (n == 4), .bool (n == 5)], .un, .un, .un]) (by simp [q1, gCat_ok]) ?_
    rintro c rfl
    refine seq_cut (fun c => c = [.un, .dat x, .own false [.bool (n == 0), .bool (n == 1), .bool (n == 2), .bool (n == 3), .bool (n == 4), .bool (n == 5), .bool (n == 6), .bool (n == 7), .bool (n == 8)], .un, .un, .un]) (by simp [q1, gCat_ok]) ?_
    rintro c rfl
    refine seq_cut (fun c => c = [.un, .dat x, .own false [.bool (n == 0), .bool (n == 1), .bool (n == 2), .bool (n == 3), .bool (n == 4), .bool (n == 5), .bool (n == 6), .bool (n == 7), .bool (n == 8), .bool (n == 9), .bool (n == 10), .bool (n == 11)], .un, .un, .un]) (by simp [q1, gCat_ok]) ?_
    rintro c rfl
    refine seq_cut (fun c => c = [.un, .dat x, .own false (marks n), .un, .un, .un]) (by simp [q1, isOwn, marks]) ?_
    rintro c rfl
    refine seq_cut (fun c => c = [.un, .dat x, .own false (marks n), .un, .un, .un]) (by simp [q2]) ?_
    rintro c rfl
    refine seq_cut _ (tells_end hn x) ?_
    rintro c rfl
    have e : gEq (.list [.int n]) (.list [.int 12]) = .ok (.bool false) := by
      have : ((n : Int) == 12) = false := by simp; omega
      simp [gEq, SeqAt.shaped, PyData.canLay0, PyData.canLayAll0, PyData.depth, PyData.depthAll, PyData.eqv, PyData.eqvAll, this]
    simp [e]
  · suffices h : Rn (m1__law_refused 12 a (some dd)) [.un, .dat (.dict [(.int a, .tuple [.int dd, .int i, .int j])]), .un, .un, .un, .un] fun f _ => f = .rt (.list [.int 12, .int i, .int j]) by
      obtain ⟨f, c, e, rfl⟩ := h
      exact ⟨c, e⟩
    unfold m1__law_refused
    generalize hx : PyData.dict [(.int a, .tuple [.int dd, .int i, .int j])] = x
    have q1 : ∀ m, gIsX (some (12, a, some dd)) m x = .ok (.bool (12 == m)) := fun m => by rw [← hx]; exact gIsX_big
    have q2 : gIsVX (some (12, a, some dd)) x = .ok (.bool true) := by rw [← hx]; exact gIsVX_big
    have q3 : gFldX (some (12, a, some dd)) "many" x = .ok (.int i) := by rw [← hx]; exact gFldX_many
    have q4 : gFldX (some (12, a, some dd)) "most" x = .ok (.int j) := by rw [← hx]; exact gFldX_most
    have f : ∀ m, ((12 : Nat) == m) = decide (12 = m) := fun m => rfl
    refine seq_cut (fun c => c = [.un, .dat x, .own false [.bool false, .bool false, .bool false], .un, .un, .un]) (by simp [q1]) ?_
    rintro c rfl
    refine seq_cut (fun c => c = [.un, .dat x, .own false [.bool false, .bool false, .bool false, .bool false, .bool false, .bool false], .un, .un, .un]) (by simp [q1, gCat_ok]) ?_
    rintro c rfl
    refine seq_cut (fun c => c = [.un, .dat x, .own false [.bool false, .bool false, .bool false, .bool false, .bool false, .bool false, .bool false, .bool false, .bool false], .un, .un, .un]) (by simp [q1, gCat_ok]) ?_
    rintro c rfl
    refine seq_cut (fun c => c = [.un, .dat x, .own false [.bool false, .bool false, .bool false, .bool false, .bool false, .bool false, .bool false, .bool false, .bool false, .bool false, .bool false, .bool false], .un, .un, .un]) (by simp [q1, gCat_ok]) ?_
    rintro c rfl
    refine seq_cut (fun c => c = [.un, .dat x, .own false (marks 12), .un, .un, .un]) (by simp [q1, isOwn, marks]) ?_
    rintro c rfl
    refine seq_cut (fun c => c = [.un, .dat x, .own false (marks 12), .un, .un, .un]) (by simp [q2]) ?_
    rintro c rfl
    refine seq_cut _ (tells_end2 x) ?_
    rintro c rfl
    have e : gEq (.list [.int 12]) (.list [.int 12]) = .ok (.bool true) := rfl
    simp [e, q3, q4]
    rw [gCat_list (by simp)]
    simp
end Td
set_option Elab.async false
set_option linter.all false
set_option maxRecDepth 100000
namespace Td
open PySem PySem.Spec PyProof.Rows L2 TW
def marksB (n : Nat) : List D := [.bool (n == 0), .bool (n == 1), .bool (n == 2), .bool (n == 4), .bool (n == 5), .bool (n == 6), .bool (n == 7), .bool (n == 8), .bool (n == 9), .bool (n == 10), .bool (n == 11), .bool (n == 12), .bool (n == 3)]
end Td
set_option Elab.async false
set_option linter.all false
set_option maxRecDepth 100000
namespace TW
open PySem PySem.Spec PyProof.Rows L2
def mParN (i j : Nat) (mx my : M (List D)) : MS := M.bind mx fun ds => M.bind my fun es => fun cs => .ok (.nx, (cs.set i (.own false ds)).set j (.own false es))
section
variable {ct : Nat → Addr} {W : WX} {X : Cx} {a b : Expr} {pos : Pos}
@[simp] theorem rn_mParN {i j : Nat} {mx my : M (List D)} {cs : List C} {QF : Fl → List C → Prop} : Rn (mParN i j mx my) cs QF ↔ Rn mx cs fun ds c => Rn my c fun es c => QF .nx ((c.set i (.own false ds)).set j (.own false es)) := by
  unfold mParN
  rw [rn_bind]
  simp only [rn_bind]
  refine iff_of_eq (congrArg _ (funext fun ds => funext fun c => congrArg _ (funext fun es => funext fun c => propext ?_)))
  exact ⟨fun ⟨_, _, e, h⟩ => by cases e; exact h, fun h => ⟨_, _, rfl, h⟩⟩
end
end TW
set_option Elab.async false
set_option linter.all false
set_option maxRecDepth 100000
namespace TW
open PySem PySem.Spec PyProof.Rows L2
def gCnt (ds : List D) (d : D) : R D := if PyData.canLayAll0 ds && SeqAt.shaped d then .ok (.int ((ds.countP fun y => PyData.eqv y d : Nat) : Int)) else .bad
def mCntT (mo m : M D) : M D := M.bind mo fun d => match d with
  | .tuple ds => M.bind m fun e => M.only (gCnt ds e)
  | _ => fun _ => .bad
def mCntL (mn : M (List D)) (m : M D) : M D := M.bind mn fun ds => M.bind m fun e => M.only (gCnt ds e)
section
variable {cs : List C} {mo m : M D} {mn : M (List D)} {Q : D → List C → Prop}
@[simp] theorem rn_mCntT : Rn (mCntT mo m) cs Q ↔ Rn mo cs fun d c => ∃ ds, d = .tuple ds ∧ Rn m c fun e c => Ev (gCnt ds e) fun z => Q z c := by
  unfold mCntT
  rw [rn_bind]
  constructor
  · refine fun h => h.mono fun d c h => ?_
    cases d with
    | tuple ds =>
      refine ⟨ds, rfl, ?_⟩
      simpa [rn_bind, rn_only] using h
    | _ =>
      obtain ⟨_, _, h, _⟩ := h
      cases h
  · refine fun h => h.mono fun d c h => ?_
    obtain ⟨ds, rfl, h⟩ := h
    simpa [rn_bind, rn_only] using h
@[simp] theorem rn_mCntL : Rn (mCntL mn m) cs Q ↔ Rn mn cs fun ds c => Rn m c fun e c => Ev (gCnt ds e) fun z => Q z c := by
  unfold mCntL
  simp only [rn_bind, rn_only]
end
end TW
namespace TW
open PySem PySem.Spec PyProof.Rows L2
end TW
namespace TW
open PySem PySem.Spec PyProof.Rows L2
end TW
set_option Elab.async false
set_option linter.all false
set_option maxRecDepth 100000
namespace Td
open PySem PySem.Spec PyProof.Rows L2 TW
end Td
set_option Elab.async false
set_option linter.all false
set_option maxRecDepth 100000
namespace TW
open PySem PySem.Spec PyProof.Rows L2
section
variable {α : Type} {vs is : List Nat} {f : D → R (List D)} {mt : M Bool} {me : M D} {body : MS} {cs c0 : List C}
theorem for_list {φ : α → D} {l : List α} {QF : Fl → List C → Prop} (P : List α → List C → Prop) (h0 : P [] cs) (he : ∀ c, P l c → QF .nx c)
    (step : ∀ d x r c, l = d ++ x :: r → P d c → Ev (f (φ x)) fun ys => Rn body (setC c is ys) fun fl c' => match fl with
      | .nx => P (d ++ [x]) c'
      | .ct => P (d ++ [x]) c'
      | .bk => QF .nx c'
      | fl => QF fl c') : Rn (forGo is f body (l.map φ)) cs QF := by
  refine for_rule (I := fun xs c => ∃ d r, l = d ++ r ∧ xs = r.map φ ∧ P d c) ⟨[], l, rfl, rfl, h0⟩ ?_ ?_
  · rintro c ⟨d, r, e1, e2, p⟩
    have : r = [] := by simpa using e2.symm
    subst this
    rw [List.append_nil] at e1
    subst e1
    exact he c p
  · rintro x xs c ⟨d, r, e1, e2, p⟩
    cases r with
    | nil => simp at e2
    | cons y r =>
      simp at e2
      obtain ⟨rfl, rfl⟩ := e2
      refine (step d y r c e1 p).mono fun ys hy => hy.mono fun fl c' h => ?_
      have e3 : l = (d ++ [y]) ++ r := by rw [e1, List.append_assoc]; rfl
      cases fl with
      | nx => exact ⟨_, r, e3, rfl, h⟩
      | ct => exact ⟨_, r, e3, rfl, h⟩
      | bk => exact h
      | rt d => exact h
      | rn d => exact h
theorem comp_mapM {φ : α → D} {l : List α} {QL : List D → List C → Prop} (g : α → D) (step : ∀ x ∈ l, Ev (f (φ x)) fun ys => Rn me (setC c0 is ys) fun d c => d = g x ∧ wipeC c vs = c0) (h : QL (l.map g) c0) : Rn (compGo vs is f mYes me (l.map φ)) c0 QL := by
  induction l generalizing QL with
  | nil => exact rn_comp_nil.mpr h
  | cons x xs ih =>
    refine rn_comp_cons.mpr ((step x List.mem_cons_self).mono fun ys hy => ?_)
    simp only [rn_mYes, if_true]
    refine hy.mono fun d c ⟨e1, e2⟩ => ?_
    rw [e2]
    exact ih (fun y hy => step y (List.mem_cons_of_mem _ hy)) (by rw [e1]; exact h)
end
theorem law_loop {n m : Nat} {ns : List Int} {body rest : MS} (hn : 2 ≤ n) (hm : m ≤ 63) (hl : ns.length ≤ 63)
    (hb : ∀ (k : Int) (c : List C), 0 ≤ k → c.length = n → c[0]? = some (.dat (scrD ns)) → c[1]? = some (.dat (.int k)) → Rn body c fun f c' => f = .nx ∧ c'.length = n ∧ c'[0]? = some (.dat (scrD ns)))
    (hr : ∀ c : List C, c.length = n → c[0]? = some (.dat (scrD ns)) → Rn rest c fun f _ => Ends1 (fun d => d = .bool true) f) :
    fnD n (mSeq (mFor [1] fName (mRange1 (mOp2 gMax2 (mC (.int 1)) (mOp2 gMin2 (mOp1 gLen (vVar 0)) (mC (.int m))))) body) rest) [scrD ns] = .ok (.bool true) := by
  apply Ev.eq
  rw [ev_fnD]
  have hu : unfill n ([scrD ns].map .dat) = .dat (scrD ns) :: List.replicate (n - 1) .un := by
    simp [unfill]
  have h0 : (unfill n ([scrD ns].map .dat)).length = n ∧ (unfill n ([scrD ns].map .dat))[0]? = some (.dat (scrD ns)) := by
    rw [hu]
    exact ⟨by rw [List.length_cons, List.length_replicate]; omega, rfl⟩
  generalize unfill n ([scrD ns].map .dat) = c at h0
  refine seq_cut (fun c => c.length = n ∧ c[0]? = some (.dat (scrD ns))) ?_ fun c h => hr c h.1 h.2
  rw [rn_mFor]
  simp [h0.2]
  rw [gRg_int (rgOk_small (by omega) (by omega)), rgD_eq]
  simp
  refine for_list (P := fun _ c => c.length = n ∧ c[0]? = some (.dat (scrD ns))) h0 (fun c h => ⟨rfl, h⟩) ?_
  rintro d x r c e ⟨h1, h2⟩
  have hx : 0 ≤ x := (rgI_mem.mp (by rw [e]; simp)).1
  rw [fName_ok, ev_ok]
  have g1 : (setC c [1] [.int x]).length = n := by simp [setC, h1]
  have g2 : (setC c [1] [.int x])[0]? = some (.dat (scrD ns)) := by simp [setC, h2]
  have g3 : (setC c [1] [.int x])[1]? = some (.dat (.int x)) := by
    simp only [setC]
    rw [List.getElem?_set_self (by omega)]
  refine (hb x _ hx g1 g2 g3).mono fun f c' ⟨e1, h⟩ => ?_
  subst e1
  exact h
end TW
set_option Elab.async false
set_option linter.all false
set_option maxRecDepth 100000
namespace TW
open PySem PySem.Spec PyProof.Rows L2
end TW
set_option Elab.async false
set_option linter.all false
set_option maxRecDepth 100000
namespace Td
open PySem PySem.Spec PyProof.Rows L2 TW
end Td
set_option Elab.async false
set_option linter.all false
set_option maxRecDepth 100000
namespace TW
open PySem PySem.Spec PyProof.Rows L2
end TW
set_option Elab.async false
set_option linter.all false
set_option maxRecDepth 100000
namespace Td
open PySem PySem.Spec PyProof.Rows L2 TW
end Td
set_option Elab.async false
set_option linter.all false
set_option maxRecDepth 100000
namespace TW
open PySem PySem.Spec PyProof.Rows L2
section
variable {X : Cx} {pins : List (Addr × Obj)} {σ : L2.St} {G H : Hp} {s : Shared}
mutual
theorem key_is (I : Inv X pins σ H s) (sm : Same G H) : ∀ (k : NestedKey) {v : V} {u : Value}, Rp X.K G v k.data → RelV v u → NestedIs s.heap k u
  | .none, v, u, r, q => by
    have := Rp.ofNon r
    subst this
    obtain rfl : u = .none := q
    exact .none
  | .num i, v, u, r, q => by
    have := Rp.ofInt r
    subst this
    obtain ⟨t, rfl⟩ : ∃ t, u = .int i t := q
    exact .int i t
  | .text x, v, u, r, q => by
    have := Rp.ofStr r
    subst this
    obtain ⟨t, rfl⟩ : ∃ t, u = .str x t := q
    exact .text x t
  | .tup ks, v, u, r, q => by
    obtain ⟨a, xs, e, h, z, ra⟩ := Rp.ofTup (show Rp X.K G v (.tuple (NestedKey.datas ks)) from r)
    subst e
    obtain rfl : u = .ref a := q
    obtain ⟨its, rv, ⟨o, ho, hc, n, hd⟩, _⟩ := I.tuple (Same.sqt sm h)
    exact .tup ho hc hd (by simpa using keys_are I sm ks ra rv)
theorem keys_are (I : Inv X pins σ H s) (sm : Same G H) : ∀ (ks : List NestedKey) {vs : List V} {us : List Value}, RpAll X.K G vs (NestedKey.datas ks) → Vals vs us → NestedAll s.heap ks us
  | [], vs, us, r, q => by
    cases r
    cases q
    exact .nil
  | k :: ks, vs, us, r, q => by
    cases r with
    | cons r1 r2 =>
      cases q with
      | cons q1 q2 => exact .cons (key_is I sm k r1 q1) (keys_are I sm ks r2 q2)
end
end
theorem nt_dictO {P : Program} {w : World} {a : Addr} {xs : List (NestedKey × Addr × V)} : NT (dictO P w a xs) := fun _ e => nomatch e
def KeysIn (K : PySem.W.Frag) (G : Hp) (xs : List (NestedKey × Addr × V)) : Prop := ∀ x ∈ xs, Rp K G (.ref x.2.1) x.1.data ∧ x.1.depth ≤ 8
theorem KeysIn.mono {K : PySem.W.Frag} {G G' : Hp} {xs : List (NestedKey × Addr × V)} (sm : Same G G') (h : KeysIn K G xs) : KeysIn K G' xs := fun x hx => ⟨(h x hx).1.mono sm, (h x hx).2⟩
section
variable {X : Cx} {pins : List (Addr × Obj)} {σ : L2.St} {G H : Hp} {s : Shared} {a b : Addr} {k : NestedKey} {xs : List (NestedKey × Addr × V)} {ys : List (NestedKey × Addr × Value)}
theorem ent_keys : ∀ {xs : List (NestedKey × Addr × V)} {ys : List (NestedKey × Addr × Value)}, Paired EntR xs ys → xs.map (·.1) = ys.map (·.1)
  | _, _, .nil => rfl
  | _, _, .cons r t => by rw [List.map_cons, List.map_cons, r.1, ent_keys t]
theorem ent_mem : ∀ {xs : List (NestedKey × Addr × V)} {ys : List (NestedKey × Addr × Value)}, Paired EntR xs ys → ∀ y ∈ ys, ∃ x ∈ xs, EntR x y
  | _, _, .nil, y, h => by cases h
  | _, _, .cons r t, y, h => by
    rcases List.mem_cons.mp h with e | h
    · subst e; exact ⟨_, List.mem_cons_self, r⟩
    · obtain ⟨x, hx, q⟩ := ent_mem t y h
      exact ⟨x, List.mem_cons_of_mem _ hx, q⟩
def DO (H : Hp) (P : Program) (w : World) (a : Addr) (xs : List (NestedKey × Addr × V)) : Prop := H a = some (dictO P w a xs) ∨ ∃ o, DictIs P w a o xs ∧ H a = some (objX a o)
theorem do_of {P : Program} {w : World} (I : Inv X pins σ H s) (h : DO H P w a xs) : (a == sysModules) = false ∧ ∃ o es ep ys, s.heap.get? a = some o ∧ o.ExactDict ∧ o.data = .dict es ep ∧ Paired EntR xs ys ∧ es.toList = ys.map (entryOfKey (nestedKind P w)) := by
  rcases h with h | ⟨o, ⟨z, es, ep, ys, r⟩, h⟩
  · obtain ⟨r, _⟩ := rd_of I.hok (.inl h)
    exact r
  · obtain ⟨ho, _⟩ := rd_of I.hok (.inl h)
    exact ⟨z, o, es, ep, ys, ho, r⟩
theorem dict_now {P : Program} {w : World} (I : Inv X pins σ H s) (hH : DO H P w a xs) (hw : ∀ x ∈ xs, x.1.hash w = x.1.hash X.w) (sm : Same G H) (kk : KeysIn X.K G xs) (nd : (xs.map (·.1)).Nodup) : (a == sysModules) = false ∧ ∃ ys, Paired EntR xs ys ∧ s.heap.DictOfH (nestedKind X.prog X.w) a ys := by
  obtain ⟨z, o, es, ep, ys, ho, hx, hd, pr, he⟩ := do_of I hH
  have he : es.toList = ys.map (entryOfKey (nestedKind X.prog X.w)) := he.trans (List.map_congr_left fun y hy => by
    obtain ⟨x, hx, e1, _⟩ := ent_mem pr y hy
    show (⟨y.1.hash w, _, _⟩ : DictEntry) = ⟨y.1.hash X.w, _, _⟩
    rw [← e1, hw x hx])
  refine ⟨z, ys, pr, o, es, ep, ho, hx, hd, he, fun y hy => ?_, by rw [← ent_keys pr]; exact nd⟩
  obtain ⟨x, hx, e1, e2, _⟩ := ent_mem pr y hy
  obtain ⟨r, dp⟩ := kk x hx
  rw [← e1, ← e2]
  exact ⟨key_is I sm x.1 r rfl, dp⟩
end
section
variable {X : Cx} {o i value : Expr} {pos pos' : Pos} {td ty tv : TE}
structure DAt (X : Cx) (H : Hp) (a b : Addr) (k : NestedKey) (xs : List (NestedKey × Addr × V)) : Prop where
  at_ : ∃ P w, DO H P w a xs ∧ ∀ x ∈ xs, x.1.hash w = x.1.hash X.w
  nd : (xs.map (·.1)).Nodup
  data : ∃ G, Same G H ∧ KeysIn X.K G xs ∧ Rp X.K G (.ref b) k.data
  dep : k.depth ≤ 8
theorem DAt.now {pins : List (Addr × Obj)} {σ : L2.St} {H : Hp} {s : Shared} {a b : Addr} {k : NestedKey} {xs : List (NestedKey × Addr × V)} (d : DAt X H a b k xs) (I : Inv X pins σ H s) : (nestedKind X.prog X.w).is s.heap k b ∧ (a == sysModules) = false ∧ ∃ ys, Paired EntR xs ys ∧ s.heap.DictOfH (nestedKind X.prog X.w) a ys := by
  obtain ⟨G, sm, kk, r⟩ := d.data
  obtain ⟨P, w, h1, h2⟩ := d.at_
  exact ⟨⟨key_is I sm k r rfl, d.dep⟩, dict_now I h1 h2 sm kk d.nd⟩
end
end TW
set_option Elab.async false
set_option linter.all false
set_option maxRecDepth 100000
namespace TW
open PySem PySem.Spec PyProof.Rows L2
abbrev DE := List (NestedKey × D)
structure DSt (P : Program) (w : World) (K : PySem.W.Frag) (a : Addr) (E : DE) (G H : Hp) : Prop where
  ex : ∃ xs, H a = some (dictO P w a xs) ∧ (xs.map (·.1)).Nodup ∧ KeysIn K G xs ∧ Paired (fun x (e : NestedKey × D) => x.1 = e.1 ∧ Rp K G x.2.2 e.2) xs E
  out : G a = none
abbrev MSd := DE → List C → R (Fl × DE × List C)
section
variable {P : Program} {w : World} {K : PySem.W.Frag} {ct : Nat → Addr} {W : WX} {a : Addr} {δ0 δ δ' : List C} {G0 G G' H0 H H' : Hp} {σ0 σ σ' : L2.St} {De : Ends} {E : DE}
theorem pair_mono {xs : List (NestedKey × Addr × V)} {E : DE} (sm : Same G G') (h : Paired (fun x (e : NestedKey × D) => x.1 = e.1 ∧ Rp K G x.2.2 e.2) xs E) : Paired (fun x (e : NestedKey × D) => x.1 = e.1 ∧ Rp K G' x.2.2 e.2) xs E := by
  induction h with
  | nil => exact .nil
  | cons r t ih => exact .cons ⟨r.1, r.2.mono sm⟩ ih
theorem not_own (r : Rel K δ G σ H) {o : HO} (h : H a = some o) (no : ∀ xs, o ≠ .lst xs) : ¬ OwA δ σ a := fun ⟨t, i, ds, h1, h2⟩ => by
  obtain ⟨p, vs, k1, k2, _⟩ := r.own i t ds h1
  rw [h2] at k1
  cases k1
  rw [h] at k2
  exact no _ (Option.some.inj k2)
theorem dictO_not_code {P : Program} {w : World} {a : Addr} {xs : List (NestedKey × Addr × V)} {q : Str} : dictO P w a xs ≠ LamX.CodeO a q := fun e => by
  unfold dictO LamX.CodeO at e
  injection e with e
  let oc : Obj := { cls := .type "code", data := .fields #[.none, .str q default] }
  let h : Heap := { objs := Array.replicate (a + 1) oc }
  have hg : h.get? a = some oc := by
    unfold Heap.get?
    simp [h, oc]
  have c := congrFun e h
  have : (a == sysModules) = false ∧ ∃ o es ep ys, h.get? a = some o ∧ o.ExactDict ∧ o.data = .dict es ep ∧ Paired EntR xs ys ∧ es.toList = ys.map (entryOfKey (nestedKind P w)) := c.mpr ⟨oc, _, default, hg, rfl, rfl⟩
  obtain ⟨_, o, es, ep, ys, ho, _, hd, _⟩ := this
  rw [hg] at ho
  cases ho
  cases hd
theorem DSt.keep (d : DSt P w K a E G H) (r : Rel K δ G σ H) (x : Ext δ G H σ δ' G' H' σ') (sm : Same G' H') : DSt P w K a E G' H' := by
  obtain ⟨xs, h1, h2, h3, h4⟩ := d.ex
  have no := not_own r h1 (fun xs z => by cases z)
  refine ⟨⟨xs, x.keep a _ h1 nt_dictO no, h2, h3.mono x.same, pair_mono x.same h4⟩, ?_⟩
  cases q : G' a with
  | none => rfl
  | some o =>
    rcases x.new a o q with z | z | z
    · rw [d.out] at z; cases z
    · rcases z with z | ⟨y, z⟩
      · exact (z _ h1 nt_dictO).elim
      · have e1 := sm _ _ q
        rw [x.keep a _ h1 nt_dictO no, z] at e1
        exact absurd (Option.some.inj e1) dictO_not_code
    · exact absurd ⟨false, z⟩ no
def PostB (P : Program) (w : World) (K : PySem.W.Frag) (ct : Nat → Addr) (W : WX) (a : Addr) (r : R (Fl × DE × List C)) (Gc : Hp) (δ0 : List C) (G0 H0 : Hp) (σ0 : L2.St) (De : Ends) : Prop := match r with
  | .ok (.nx, E', δ') => ∀ σ' G' H', Same Gc G' → Ext δ0 G0 H0 σ0 δ' G' H' σ' → Rel K δ' G' σ' H' → DSt P w K a E' G' H' → De.nx σ' H'
  | .ok (.rt d, _, δ') => ∀ v σ' G' H', Ext δ0 G0 H0 σ0 δ' G' H' σ' → Rel K δ' G' σ' H' → Rp K G' v d → De.rt v H'
  | .ok (.rn ds, _, δ') => ∀ p vs σ' G' H', Ext δ0 G0 H0 σ0 δ' G' H' σ' → Rel K δ' G' σ' H' → H' p = some (.lst vs) → G' p = none → ds.length ≤ sizeLine → RpAll K G' vs ds → (Ow false δ0 σ0 p ∨ Fre H0 p) → ¬ OwA δ' σ' p → De.rt (.ref p) H'
  | _ => False
theorem PostB.at {r : R (Fl × DE × List C)} {Gc Gd : Hp} (sm : Same Gc Gd) (h : PostB P w K ct W a r Gc δ0 G0 H0 σ0 De) : PostB P w K ct W a r Gd δ0 G0 H0 σ0 De := by
  cases r with
  | bad => exact h
  | err n xs => exact h
  | ok p =>
    obtain ⟨f, E1, c⟩ := p
    cases f with
    | nx => exact fun σ' G' H' s2 => h σ' G' H' (sm.trans s2)
    | bk => exact h
    | ct => exact h
    | rt v => exact h
    | rn ds => exact h
end
end TW
set_option Elab.async false
set_option linter.all false
set_option maxRecDepth 100000
namespace TW
open PySem PySem.Spec PyProof.Rows L2
section
variable {P : Program} {w : World} {K : PySem.W.Frag} {ct : Nat → Addr} {W : WX} {a : Addr} {δ0 δ : List C} {G0 G H0 H : Hp} {σ0 σ : L2.St} {De : Ends} {E : DE}
theorem dict_not_code {xs : List (NestedKey × Addr × V)} {q : Str} : dictO P w a xs ≠ LamX.CodeO a q := fun e => by
  unfold dictO LamX.CodeO at e
  injection e with e
  let oc : Obj := { cls := .type "code", data := .fields #[.none, .str q default] }
  let h : Heap := { objs := Array.replicate (a + 1) oc }
  have hg : h.get? a = some oc := by
    unfold Heap.get?
    simp [h, oc]
  have c := congrFun e h
  have : (a == sysModules) = false ∧ ∃ o es ep ys, h.get? a = some o ∧ o.ExactDict ∧ o.data = .dict es ep ∧ Paired EntR xs ys ∧ es.toList = ys.map (entryOfKey (nestedKind P w)) := c.mpr ⟨oc, _, default, hg, rfl, rfl⟩
  obtain ⟨_, o, es, ep, ys, ho, _, hd, _⟩ := this
  rw [hg] at ho
  cases ho
  cases hd
theorem tabs_dict {xs : List (NestedKey × Addr × V)} {o : HO} (h : H a = some (dictO P w a xs)) : ∀ T, LamX.Tabs T H → LamX.Tabs T (upd H a o) := fun T ht q hq => by
  obtain ⟨ps, h1, h2, h3⟩ := ht q hq
  have n : q.1 ≠ a := fun e => by rw [e, h] at h1; cases h1
  refine ⟨ps, by rw [upd_ne n]; exact h1, h2, fun pos cv hc => ?_⟩
  obtain ⟨c, e1, e2⟩ := h3 pos cv hc
  have n2 : c ≠ a := fun e => by rw [e, h] at e2; exact dict_not_code (Option.some.inj e2)
  exact ⟨c, e1, by rw [upd_ne n2]; exact e2⟩
theorem Rel.dict {xs ys : List (NestedKey × Addr × V)} (r : Rel K δ G σ H) (h : H a = some (dictO P w a xs)) (out : G a = none) : Rel K δ G σ (upd H a (dictO P w a ys)) := by
  have no := not_own r h (fun xs z => by cases z)
  refine ⟨r.len, fun b o hb => ?_, r.nt, r.dat, fun i t ds hi => ?_, r.inj, tabs_dict h _ r.tabs⟩
  · have n : b ≠ a := fun e => by subst e; rw [out] at hb; cases hb
    rw [upd_ne n]; exact r.same b o hb
  · obtain ⟨q, ws, a1, a2, a3⟩ := r.own i t ds hi
    have n : q ≠ a := fun e => no ⟨t, i, ds, hi, e ▸ a1⟩
    exact ⟨q, ws, a1, by rw [upd_ne n]; exact a2, a3⟩
theorem Ext.dict {ys : List (NestedKey × Addr × V)} (x : Ext δ0 G0 H0 σ0 δ G H σ) (h0 : H0 a = none) : Ext δ0 G0 H0 σ0 δ G (upd H a (dictO P w a ys)) σ := by
  refine ⟨fun b o hb n no => ?_, fun b hb => ?_, x.same, x.new, x.own, x.par⟩
  · have q : b ≠ a := fun e => by subst e; rw [h0] at hb; cases hb
    rw [upd_ne q]; exact x.keep b o hb n no
  · by_cases q : b = a
    · subst q; exact fre_none h0
    · exact x.back b fun o e => hb o (by rw [upd_ne q]; exact e)
end
end TW
set_option Elab.async false
set_option linter.all false
set_option maxRecDepth 100000
namespace TW
open PySem PySem.Spec PyProof.Rows L2
end TW
set_option Elab.async false
set_option linter.all false
set_option maxRecDepth 100000
namespace TW
open PySem PySem.Spec PyProof.Rows L2
abbrev MSe := DE → List C → R (Fl × List C)
section
variable {ct : Nat → Addr} {W : WX} {X : Cx} {rest : List Stmt} {i : Nat} {x : Str} {py pd pos : Pos} {m : Addr → MSe}
theorem Rel.fresh {K : PySem.W.Frag} {δ : List C} {G H : Hp} {σ : L2.St} {p : Addr} {o : HO} (r : Rel K δ G σ H) (hp : H p = none) : Rel K δ G σ (upd H p o) :=
  ⟨r.len, fun b u hb => by rw [upd_ne (ne_of_none (r.same b u hb) hp)]; exact r.same b u hb, r.nt, r.dat, fun j t ds h => by
    obtain ⟨q, ws, a1, a2, a3⟩ := r.own j t ds h
    exact ⟨q, ws, a1, by rw [upd_ne (ne_of_none a2 hp)]; exact a2, a3⟩, r.inj, tabs_keep (same_upd hp) _ r.tabs⟩
end
end TW
set_option Elab.async false
set_option linter.all false
set_option maxRecDepth 100000
namespace TW
open PySem PySem.Spec PyProof.Rows L2
end TW
set_option Elab.async false
set_option linter.all false
set_option maxRecDepth 100000
namespace TW
open PySem PySem.Spec PyProof.Rows L2
abbrev MDd := DE → List C → R (D × List C)
end TW
set_option Elab.async false
set_option linter.all false
set_option maxRecDepth 100000
namespace TW
open PySem PySem.Spec PyProof.Rows L2
def gKeys : D → R (List D)
  | .dict ((.bool false, .none) :: es) => .ok (es.map (·.1))
  | _ => .bad
def mSeqK (m : M D) : M (List D) := M.bind m fun d => M.only (gKeys d)
end TW
set_option Elab.async false
set_option linter.all false
set_option maxRecDepth 100000
namespace Td
open PySem PySem.Spec PyProof.Rows L2 TW
end Td
set_option Elab.async false
set_option linter.all false
set_option maxRecDepth 100000
namespace TW
open PySem PySem.Spec PyProof.Rows L2 LamX
end TW
set_option Elab.async false
set_option linter.all false
set_option maxRecDepth 100000
namespace TW
open PySem PySem.Spec PyProof.Rows L2 LamX
def LamObj (X : Cx) (params : Arguments) (body : Expr) (scope : Scope) (o : Obj) (c' : Addr) : Prop := ∃ pm ctv, o = PySem.W.kla_obj "<lambda>" (X.env.qual ++ "<lambda>") params body scope (cloFrom X.env.cells scope.names []) pm c' ctv
end TW
set_option Elab.async false
set_option linter.all false
set_option maxRecDepth 100000
namespace TW
open PySem PySem.Spec PyProof.Rows L2 LamX
structure LamIn (X : Cx) (ct : Nat → Addr) (k : Nat) (l : Addr × Addr × M D) : Prop where
  ex : ∃ params body scope ob, (l.1, ob) ∈ X.pn ∧ LamObj X params body scope ob l.2.1 ∧ l.1 ∉ frs X.stack ∧ LamS X.env.scope scope ∧
    (∀ (q : Str) (cl : List (Str × Addr)) (pm cv ctv : Value), bindArgs (PySem.W.kla_fn "<lambda>" q params body scope cl pm cv ctv) ⟨[], []⟩ = pure []) ∧
    ∀ (A : Around) (outer : List Env) (s : Shared) (H : Hp) (E : XK) (f c' : Addr), Room k (lamCx X A outer s H E scope f c').A → Takes (lamCx X A outer s H E scope f c') (WE' E) → VE ct (WE' E) (lamCx X A outer s H E scope f c') body l.2.2
theorem LamIn.pin {X : Cx} {ct : Nat → Addr} {k : Nat} {l : Addr × Addr × M D} {q : Addr × Obj} (h : LamIn X ct k l) : LamIn (withPin X q) ct k l := by
  obtain ⟨params, body, scope, ob, h1, h2, h3, h4, h5, h6⟩ := h.ex
  exact ⟨params, body, scope, ob, List.mem_cons_of_mem _ h1, h2, h3, h4, h5, h6⟩
theorem Maker.pin {X : Cx} {q : Addr × Obj} (h : Maker X) : Maker (withPin X q) := ⟨h.ex⟩
end TW
set_option Elab.async false
set_option linter.all false
set_option maxRecDepth 100000
namespace TW
open PySem PySem.Spec PyProof.Rows L2
def RnD (m : MSd) (E : DE) (cs : List C) (Q : Fl → DE → List C → Prop) : Prop := ∃ f E' c', m E cs = .ok (f, E', c') ∧ Q f E' c'
def RnV (m : MDd) (E : DE) (cs : List C) (Q : D → List C → Prop) : Prop := ∃ d c', m E cs = .ok (d, c') ∧ Q d c'
section
variable {α : Type} {E : DE} {cs : List C} {Q : Fl → DE → List C → Prop} {QV : D → List C → Prop} {m n : MSd} {is : List Nat} {f : D → R (List D)} {body : MSd} {mi : M (List D)} {a : Addr} {i : Nat} {mk mx mv : M D}
theorem RnD.mono {Q' : Fl → DE → List C → Prop} (h : RnD m E cs Q) (k : ∀ f E c, Q f E c → Q' f E c) : RnD m E cs Q' := let ⟨f, E1, c, e, q⟩ := h; ⟨f, E1, c, e, k _ _ _ q⟩
theorem RnV.mono {mv : MDd} {Q' : D → List C → Prop} (h : RnV mv E cs QV) (k : ∀ f c, QV f c → Q' f c) : RnV mv E cs Q' := let ⟨f, c, e, q⟩ := h; ⟨f, c, e, k _ _ q⟩
@[simp] theorem rn_mSeqK {QL : List D → List C → Prop} : Rn (mSeqK mk) cs QL ↔ Rn mk cs fun d c => Ev (gKeys d) fun z => QL z c := by unfold mSeqK; simp only [rn_bind, rn_only]
end
end TW
set_option Elab.async false
set_option linter.all false
set_option maxRecDepth 100000
namespace TW
open PySem PySem.Spec PyProof.Rows L2 LamX
def mK (d : D) : M D := fun cs => .ok (d, cs)
theorem _root_.L2.Takes.pin {X : Cx} {W : WX} {q : Addr × Obj} (tk : Takes X W) : Takes (withPin X q) W := fun u s' ⟨a, B, sI, pins, σ, H, cls, d, e, I, nb, up, sky, na, os, ag, w⟩ =>
  tk u s' ⟨a, B, sI, pins, σ, H, cls, d, e, pin_out (I.ok.toTry X.pn X.xe) I, nb, up, sky, na, os, ag, w⟩
section
variable {cs : List C} {Q : Fl → List C → Prop} {keep : List Nat} {k : Addr → Addr → MS} {j : Nat} {q : Str} {R : M D → M D} {Ls : List (Addr × Addr × M D)} {f c : Addr}
@[simp] theorem rn_mK {d : D} {QD : D → List C → Prop} : Rn (mK d) cs QD ↔ QD d cs := ⟨fun ⟨_, _, e, h⟩ => by cases e; exact h, fun h => ⟨d, cs, rfl, h⟩⟩
end
end TW
set_option Elab.async false
set_option linter.all false
set_option maxRecDepth 100000
namespace TW
open PySem PySem.Spec PyProof.Rows L2 LamX
end TW
set_option Elab.async false
set_option linter.all false
set_option maxRecDepth 100000
namespace Td
open PySem PySem.Spec PyProof.Rows L2 TW
end Td
set_option Elab.async false
set_option linter.all false
set_option maxRecDepth 100000
namespace TW
open PySem PySem.Spec PyProof.Rows L2
structure MutR (is : List Nat) (L : Addr) (vs : List V) (K : PySem.W.Frag) (σ : L2.St) (H : Hp) (σ2 : L2.St) (H2 : Hp) : Prop where
  len : σ2.length = σ.length
  agree : ∀ k, k ∉ is → σ2[k]? = σ[k]?
  keep : ∀ b o, H b = some o → NT o → b ≠ L → V.ref b ∉ vs → H2 b = some o
  back : ∀ b, Fre H2 b → Fre H b
  tabs : LamX.Tabs (lamT K) H2
end TW
set_option Elab.async false
set_option linter.all false
set_option maxRecDepth 100000
namespace TW
open PySem PySem.Spec PyProof.Rows L2
section
variable {K : PySem.W.Frag} {i j n : Nat} {is : List Nat} {L p : Addr} {vs xs ys : List V} {σ0 σ σ1 : L2.St} {H0 H H1 : Hp} {v : V}
theorem MutR.refl (t : LamX.Tabs (lamT K) H) : MutR is L vs K σ H σ H := ⟨rfl, fun _ _ => rfl, fun _ _ h _ _ _ => h, fun _ h => h, t⟩
theorem MutR.upd (m : MutR is L vs K σ0 H0 σ H) (e : Same H H1) (hp : H1 p = some (.lst xs)) (hw : p = L ∨ V.ref p ∈ vs) : MutR is L vs K σ0 H0 σ (upd H1 p (.lst ys)) := by
  refine ⟨m.len, m.agree, fun b o h n h1 h2 => ?_, fun b h => m.back b fun o q => ?_, tabs_lst hp _ (tabs_keep e _ m.tabs)⟩
  · have : b ≠ p := fun z => by subst z; exact hw.elim h1 h2
    rw [upd_ne this]
    exact e _ _ (m.keep b o h n h1 h2)
  · by_cases z : b = p
    · subst z; exact h.not upd_same
    · exact h o (by rw [upd_ne z]; exact e _ _ q)
theorem MutR.slot (m : MutR is L vs K σ0 H0 σ H) (hj : j ∈ is) {x : Option V} : MutR is L vs K σ0 H0 (σ.set j x) H :=
  ⟨by rw [List.length_set]; exact m.len, fun k hk => by rw [List.getElem?_set_ne (show j ≠ k from fun z => by subst z; exact hk hj)]; exact m.agree k hk, m.keep, m.back, m.tabs⟩
end
end TW
namespace TW
open PySem PySem.Spec PyProof.Rows L2
end TW
set_option Elab.async false
set_option linter.all false
set_option maxRecDepth 100000
namespace TW
open PySem PySem.Spec PyProof.Rows L2
def strsD : List D → Option (List Str)
  | [] => some []
  | .str x :: ds => (strsD ds).map (x :: ·)
  | _ :: _ => none
theorem strsD_eq : ∀ {ds : List D} {ys : List Str}, strsD ds = some ys → ds = ys.map .str
  | [], _, h => by cases h; rfl
  | .str x :: ds, ys, h => by
    cases e : strsD ds with
    | none => rw [strsD, e] at h; cases h
    | some zs =>
      rw [strsD, e] at h
      cases h
      rw [strsD_eq e]; rfl
  | .none :: _, _, h => by simp [strsD] at h
  | .bool _ :: _, _, h => by simp [strsD] at h
  | .int _ :: _, _, h => by simp [strsD] at h
  | .list _ :: _, _, h => by simp [strsD] at h
  | .tuple _ :: _, _, h => by simp [strsD] at h
  | .dict _ :: _, _, h => by simp [strsD] at h
theorem strsD_map (ys : List Str) : strsD (ys.map .str) = some ys := by
  induction ys with
  | nil => rfl
  | cons y ys ih => rw [List.map_cons, strsD, ih]; rfl
theorem strs_rp {K : PySem.W.Frag} {G : Hp} : ∀ ys : List Str, RpAll K G (ys.map V.str) (ys.map .str)
  | [] => .nil
  | y :: ys => .cons (.str y) (strs_rp ys)
theorem rp_strs {K : PySem.W.Frag} {G : Hp} : ∀ {ys : List Str} {vs : List V}, RpAll K G vs (ys.map .str) → vs = ys.map V.str
  | [], _, .nil => rfl
  | y :: ys, _, .cons h t => by
    rw [rp_strs t]
    cases h
    rfl
def gJoin (a : Str) : D → R D
  | .list ds => match strsD ds with
    | some ys => if decide ((ys.map (·.length)).sum + ys.length * a.length ≤ 16777216) then .ok (.str (Txt.join a ys)) else .bad
    | none => .bad
  | _ => .bad
def mJoin (mo m : M D) : M D := M.bind mo fun d => match d with
  | .str a => M.bind m fun e => M.only (gJoin a e)
  | _ => fun _ => .bad
def gSplit (a : Str) : D → R (List D)
  | .str b => if !(b.length == 0) && szOk (a.length + 2) then .ok ((Txt.split a b).map .str) else .bad
  | _ => .bad
def mSplit (mo m : M D) : M (List D) := M.bind mo fun d => match d with
  | .str a => M.bind m fun e => M.only (gSplit a e)
  | _ => fun _ => .bad
def gStripC (a : Str) : D → R D
  | .str b => if szOk a.length then .ok (.str (Txt.stripChars a b)) else .bad
  | _ => .bad
def mStripC (mo m : M D) : M D := M.bind mo fun d => match d with
  | .str a => M.bind m fun e => M.only (gStripC a e)
  | _ => fun _ => .bad
def gIntS : D → R D
  | .str a => match PySem.intText? a with
    | some n => if decide (a.length ≤ 640) then .ok (.int n) else .bad
    | none => .bad
  | _ => .bad
def signsD (x : Str) : List D := x.cps.toList.map fun c => .str ⟨#[c]⟩
def gSigns : D → R (List D)
  | .str x => if szOk x.length then .ok (signsD x) else .bad
  | _ => .bad
def mSigns (m : M D) : M (List D) := M.bind m fun d => M.only (gSigns d)
section
variable {ct : Nat → Addr} {W : WX} {X : Cx} {o e a : Expr} {mo m ma : M D} {p pos apos : Pos} {x : Str}
theorem ve_join (ho : VE ct W X o mo) (he : VE ct W X e m) (hs : starEach [e] X.env = [(false, eval e X.env)] := by rfl) (hbase : attributeBase o "join" X.env (eval o X.env) = eval o X.env := by rfl) (hline : (apos.endLine == pos.line) = true := by rfl) :
    VE ct W X (.Call (.Attribute o "join" apos) [e] [] pos) (mJoin mo m) := PE.conv (pe_join ho he hs hbase hline) fun σ H Q h => tG.step h fun d δ1 v G1 H1 r1 p1 h1 => by
  cases d <;> first
    | exact h1.elim
    | skip
  rename_i a
  have p1 : Rp X.K G1 v (.str a) := p1
  cases Rp.ofStr p1
  refine ⟨⟨a, rfl⟩, δ1, G1, r1, TW.step r1 h1 fun f δ2 y G2 H2 _ x2 r2 p2 h2 => ?_⟩
  obtain ⟨z, ez, h3⟩ := Post.only h2
  cases f <;> first
    | cases ez
    | skip
  rename_i ds _
  have p2 : Rp X.K G2 y (.list ds) := p2
  unfold gJoin at ez
  simp only at ez
  · split at ez
    · split at ez
      · rename_i ys e1 hz
        cases ez
        rw [decide_eq_true_eq] at hz
        obtain ⟨b, xs, e2, k1, k2, k3⟩ := Rp.ofLst p2
        subst e2
        have := strsD_eq e1
        subst this
        exact ⟨a, b, ys, rfl, rfl, .inl (SqL.of (by rw [← rp_strs k3]; exact r2.same _ _ k1)), hz, Post.done h3 r2 (Grow.refl r2) (.str _)⟩
      · cases ez
    · cases ez
theorem vn_split (ho : VE ct W X o mo) (he : VE ct W X e m) (hs : starEach [e] X.env = [(false, eval e X.env)] := by rfl) (hbase : attributeBase o "split" X.env (eval o X.env) = eval o X.env := by rfl) (hline : (apos.endLine == pos.line) = true := by rfl) :
    VN ct W X (.Call (.Attribute o "split" apos) [e] [] pos) (mSplit mo m) := PE.conv (pe_split ho he hs hbase hline) fun σ H Q h => tG.step h fun d δ1 v G1 H1 r1 p1 h1 => by
  cases d <;> first
    | exact h1.elim
    | skip
  rename_i a
  have p1 : Rp X.K G1 v (.str a) := p1
  cases Rp.ofStr p1
  refine ⟨⟨a, rfl⟩, δ1, G1, r1, TW.step r1 h1 fun f δ2 y G2 H2 _ x2 r2 p2 h2 => ?_⟩
  obtain ⟨z, ez, h3⟩ := Post.only h2
  cases f <;> first
    | cases ez
    | skip
  rename_i b _
  have p2 : Rp X.K G2 y (.str b) := p2
  unfold gSplit at ez
  simp only at ez
  · split at ez
    · rename_i hz
      cases ez
      rw [Bool.and_eq_true, Bool.not_eq_true'] at hz
      cases Rp.ofStr p2
      have hl := szOk_le hz.2
      refine ⟨a, b, rfl, rfl, hz.1, hl, fun q hq => ?_⟩
      refine Post.done h3 r2 (Grow.alloc r2.same r2.nt hq) ⟨q, _, rfl, fre_none hq, upd_same, Same.free r2.same hq, ?_, ?_, strs_rp _⟩
      · rintro ⟨t, k, ds, z1, z2⟩
        obtain ⟨q', vs, b1, b2, _⟩ := r2.own k t ds z1
        rw [b1] at z2
        cases z2
        rw [hq] at b2
        cases b2
      · rw [List.length_map]
        exact Nat.le_trans (PyProof.Rows.split_le a b) hl
    · cases ez
theorem ve_stripC (ho : VE ct W X o mo) (he : VE ct W X e m) (hs : starEach [e] X.env = [(false, eval e X.env)] := by rfl) (hbase : attributeBase o "strip" X.env (eval o X.env) = eval o X.env := by rfl) (hline : (apos.endLine == pos.line) = true := by rfl) :
    VE ct W X (.Call (.Attribute o "strip" apos) [e] [] pos) (mStripC mo m) := PE.conv (pe_m1 PySem.F.slot_str_strip PySem.F.type_str_strip mt_stripChars ho he hs hbase hline) fun σ H Q h => tG.step h fun d δ1 v G1 H1 r1 p1 h1 => by
  cases d <;> first
    | exact h1.elim
    | skip
  rename_i a
  have p1 : Rp X.K G1 v (.str a) := p1
  cases Rp.ofStr p1
  refine ⟨⟨a, rfl⟩, δ1, G1, r1, TW.step r1 h1 fun f δ2 y G2 H2 _ x2 r2 p2 h2 => ?_⟩
  obtain ⟨z, ez, h3⟩ := Post.only h2
  cases f <;> first
    | cases ez
    | skip
  rename_i b _
  have p2 : Rp X.K G2 y (.str b) := p2
  unfold gStripC at ez
  simp only at ez
  · split at ez
    · rename_i hz
      cases ez
      cases Rp.ofStr p2
      exact ⟨a, b, rfl, rfl, szOk_le hz, Post.done h3 r2 (Grow.refl r2) (.str _)⟩
    · cases ez
theorem ve_intS (hg : Gl X "int") (hm : X.mg "int" = none) (ha : VV ct W X a ma) (hs : starEach [a] X.env = (false, eval a X.env) :: starEach [] X.env := by rfl) : VE ct W X (.Call (.Name "int" p) [a] [] pos) (mOp1 gIntS ma) :=
  ve_callTy call_int_str (fun δ σ G H x d z Q r hx hz q => by
    cases d <;> first
      | cases hz
      | skip
    rename_i a
    unfold gIntS at hz
    simp only at hz
    split at hz
    · split at hz
      · rename_i n e1 e2
        cases hz
        exact ⟨a, n, by rw [hx.str], e1, of_decide_eq_true e2, q _ G H (Grow.refl r) (.int _)⟩
      · cases hz
    · cases hz) hg hm (by decide +kernel) ha hs
theorem walks_s {K : PySem.W.Frag} {G : Hp} {x : Str} (z : x.length ≤ sizeLine) : Walks K G (Its x) (signsD x) := by
  have len : (signsD x).length = x.cps.size := by unfold signsD; rw [List.length_map, Array.length_toList]
  refine ⟨by rw [len]; exact z, fun i d G' H e s1 s2 n => ?_, fun i G' H e s1 s2 => by rw [len] at e; exact e⟩
  have hi : i < x.cps.size := by rw [← len]; exact (List.getElem?_eq_some_iff.mp e).1
  refine ⟨hi, fun v H' ⟨e1, c, e2, e3⟩ => ?_⟩
  subst e1 e3
  unfold signsD at e
  rw [List.getElem?_map, Array.getElem?_toList, e2] at e
  cases e
  exact ⟨G', grow_id s2 n, .str _⟩
theorem vi_str {tg : Expr} (h : VE ct W X e m) : VI ct W X tg e (mSigns m) := PI.conv (pi_str h) fun σ H R h => tG.step h fun d δ1 x G1 H1 r1 p1 h1 => by
  obtain ⟨z, ez, h3⟩ := Post.only h1
  unfold gSigns at ez
  split at ez
  · split at ez
    · rename_i y hz
      cases ez
      have p1 : Rp X.K G1 x (.str y) := p1
      exact ⟨y, Rp.ofStr p1, h3 _ _ _ Ext.refl r1 (walks_s (szOk_le hz))⟩
    · cases ez
  · cases ez
def GcS (mg : Str → Option Value) (x : Str) (z : Str) : Prop := ∃ t, mg x = some (.str z t)
theorem ve_gs {z : Str} (h : GcS X.mg x z) (hg : Gl X x) (hd : (x == ("__debug__" : Str)) = false := by decide) : VE ct W X (.Name x p) (mC (.str z)) := by
  obtain ⟨t, h⟩ := h
  exact ve_c (v := .str z) (pe_glob (v := .str z) hg h ⟨t, rfl⟩ hd) (.str z)
end
section
variable {mo m : M D} {cs : List C} {Q : D → List C → Prop} {QL : List D → List C → Prop}
def AsS (d : D) (Q : Str → Prop) : Prop := match d with
  | .str b => Q b
  | _ => False
@[simp] theorem asS_str {b : Str} {Q : Str → Prop} : AsS (.str b) Q ↔ Q b := Iff.rfl
@[simp] theorem rn_mJoin : Rn (mJoin mo m) cs Q ↔ Rn mo cs fun d c => AsS d fun a => Rn m c fun e c => Ev (gJoin a e) fun z => Q z c := by
  unfold mJoin
  rw [rn_bind]
  refine iff_of_eq (congrArg _ (funext fun d => funext fun c => propext ?_))
  cases d <;> simp [AsS]
@[simp] theorem rn_mSplit : Rn (mSplit mo m) cs QL ↔ Rn mo cs fun d c => AsS d fun a => Rn m c fun e c => Ev (gSplit a e) fun z => QL z c := by
  unfold mSplit
  rw [rn_bind]
  refine iff_of_eq (congrArg _ (funext fun d => funext fun c => propext ?_))
  cases d <;> simp [AsS]
@[simp] theorem rn_mStripC : Rn (mStripC mo m) cs Q ↔ Rn mo cs fun d c => AsS d fun a => Rn m c fun e c => Ev (gStripC a e) fun z => Q z c := by
  unfold mStripC
  rw [rn_bind]
  refine iff_of_eq (congrArg _ (funext fun d => funext fun c => propext ?_))
  cases d <;> simp [AsS]
@[simp] theorem rn_mSigns : Rn (mSigns m) cs QL ↔ Rn m cs fun d c => Ev (gSigns d) fun z => QL z c := by unfold mSigns; simp only [rn_bind, rn_only]
end
end TW
set_option Elab.async false
set_option linter.all false
set_option maxRecDepth 100000
namespace Td
open PySem PySem.Spec PyProof.Rows L2 TW
def b_shown : MS := (mRet (mJoin (mC (.str " ")) (mOp2 gAdd (mOfN (mLst (mCons (mOp2 gAdd (mOp1 gStr (mOp2 gIx (mVar 0) (mC (.int 0)))) (mC (.str ":"))) mNil))) (mOfN (mComp [1, 2] [1, 2] (fTup 2) (mSeq1 (mOp2 gIx (mVar 0) (mC (.int 1)))) mYes (mOp2 gAdd (mOp2 gAdd (mOp1 gStr (vVar 1)) (mC (.str "-"))) (mOp1 gStr (vVar 2))))))))
def F_shown : List D → R D := fnD 3 b_shown
def b_number_in : MS := (mSeq (mIfS (mOr (mNot (mTest (mChain oLe oLe (mC (.int 1)) (mOp1 gLen (vVar 0)) (mC (.int 2))))) (mNot (mTest (mOp1 gAll (mOfN (mComp [1] [1] fName (mSigns (mVar 0)) mYes (mOp2 (gInX false) (mVar 1) (mC (.str "0123456789"))))))))) (mRet (mC .none)) mNx) (mSeq (mIfS (mAnd (mTest (mOp2 gEq (mOp2 gIx (mVar 0) (mC (.int 0))) (mC (.str "0")))) (mTest (mOp2 oGt (mOp1 gLen (vVar 0)) (mC (.int 1))))) (mRet (mC .none)) mNx) (mRet (mOp1 gIntS (vVar 0)))))
def F_number_in : List D → R D := fnD 2 b_number_in
def b_read_web : MS := (mSeq (mIfS (mNot (mTest (mOp1 (gIsi "str") (vVar 0)))) (mErr 9) mNx) (mSeq (mSet 1 (mOfN (mSplit (mVar 0) (mC (.str " "))))) (mSeq (mSet 2 (mOfN (mComp [4] [4] fName (mSeq1 (mSl (mVar 1) (mPart (mC (.int 1))) mNoPart)) mYes (mOp1 gTuple (mOfN (mComp [5] [5] fName (mSeq1 (mOfN (mSplit (mVar 4) (mC (.str "-"))))) mYes (mCall 1 F_number_in (mCons (mVar 5) mNil)))))))) (mSeq (mSet 3 (mTup (mCons (mCall 1 F_number_in (mCons (mSl (mOp2 gIx (mVar 1) (mC (.int 0))) mNoPart (mPart (mOp1 gNeg (mC (.int 1))))) mNil)) (mCons (mOp1 gTuple (vVar 2)) mNil)))) (mSeq (mIfS (mOr (mNot (mTest (mCall 1 F_is_web (mCons (mVar 3) mNil)))) (mTest (mOp2 gNe (mCall 1 F_shown (mCons (mVar 3) mNil)) (vVar 0)))) (mErr 9) mNx) (mRet (mVar 3)))))))
def F_read_web : List D → R D := fnD 6 b_read_web
def b__law_number : MS := (mSeq (mIfS (mOr (mTest (mOp2 gEq (mVar 0) (mC (.str "")))) (mOr (mTest (mOp2 gNe (mStripC (mVar 0) (mC (.str "0123456789"))) (mC (.str "")))) (mAnd (mTest (mOp2 gEq (mOp2 gIx (mVar 0) (mC (.int 0))) (mC (.str "0")))) (mTest (mOp2 gNe (mVar 0) (mC (.str "0"))))))) (mRet (mC .none)) mNx) (mRet (mOp1 gIntS (vVar 0))))
def F__law_number : List D → R D := fnD 1 b__law_number
def b__law_web_in : MS := (mSeq (mSet 1 (mOfN (mSplit (mVar 0) (mC (.str " "))))) (mSeq (mIfS (mOr (mTest (mOp2 gNe (mSl (mOp2 gIx (mVar 1) (mC (.int 0))) (mPart (mOp1 gNeg (mC (.int 1)))) mNoPart) (mC (.str ":")))) (mTest (mOp2 gIsN (mCall 1 F__law_number (mCons (mSl (mOp2 gIx (mVar 1) (mC (.int 0))) mNoPart (mPart (mOp1 gNeg (mC (.int 1))))) mNil)) (mC .none)))) (mRet (mC .none)) mNx) (mSeq (mSetN 2 (mLst mNil)) (mSeq (mFor [3] fName (mSeq1 (mSl (mVar 1) (mPart (mC (.int 1))) mNoPart)) (mSeq (mSet 5 (mOfN (mComp [6] [6] fName (mSeq1 (mOfN (mSplit (mVar 3) (mC (.str "-"))))) mYes (mCall 1 F__law_number (mCons (mVar 6) mNil))))) (mSeq (mIfS (mOr (mTest (mOp2 gNe (mOp1 gLen (vVar 5)) (mC (.int 2)))) (mTest (mOp2 (gInX false) (mC .none) (vVar 5)))) (mRet (mC .none)) mNx) (mOn 2 (mTup (mCons (mOp2 gIx (mVar 5) (mC (.int 0))) (mCons (mOp2 gIx (mVar 5) (mC (.int 1))) mNil))) gApp)))) (mSeq (mSet 4 (mTup (mCons (mCall 1 F__law_number (mCons (mSl (mOp2 gIx (mVar 1) (mC (.int 0))) mNoPart (mPart (mOp1 gNeg (mC (.int 1))))) mNil)) (mCons (mOp1 gTuple (vVar 2)) mNil)))) (mRet (mIf (mTest (mCall 1 F__law_is_web (mCons (mVar 4) mNil))) (mVar 4) (mC .none))))))))
def F__law_web_in : List D → R D := fnD 7 b__law_web_in
def b__law_bent_7 : MS := (mSeq (mSet 2 (mCallS 1 0 F__law_take (mCons (mOp2 gAdd (mOp1 gLen (vVar 1)) (mC (.int 1))) mNil))) (mSeq (mSet 3 (mC (.str " !\"#$&'()*+,-./0123456789:;<=>?@ABCDEFGHIJKLMNOPQRSTUVWXYZ[\\]^_`abcdefghijklmnopqrstuvwxyz{|}~"))) (mSeq (mSet 4 (mOp2 gIx (mOfN (mLst (mCons (mOp2 gIx (mVar 3) (mCallS 1 0 F__law_take (mCons (mC (.int 94)) mNil))) (mCons (mOp2 gIx (mC (.str "0123456 :-")) (mCallS 1 0 F__law_take (mCons (mC (.int 10)) mNil))) mNil)))) (mCallS 1 0 F__law_take (mCons (mC (.int 2)) mNil)))) (mSeq (mPar 5 6 (mCons (mSl (mVar 1) mNoPart (mPart (mVar 2))) (mCons (mSl (mVar 1) (mPart (mVar 2)) mNoPart) mNil))) (mSeq (mSet 7 (mOfN (mSplit (mVar 1) (mC (.str " "))))) (mSeq (mPar 8 9 (mCons (mCallS 1 0 F__law_take (mCons (mOp1 gLen (vVar 7)) mNil)) (mCons (mCallS 1 0 F__law_take (mCons (mOp1 gLen (vVar 7)) mNil)) mNil))) (mSeq (mSet 10 (mOp2 gIx (mVar 7) (vVar 8))) (mSeq (mSet 11 (mOfN (mLst (mCons (mOp2 gAdd (mVar 5) (mSl (mVar 6) (mPart (mC (.int 1))) mNoPart)) (mCons (mOp2 gAdd (mOp2 gAdd (mVar 5) (vVar 4)) (vVar 6)) (mCons (mOp2 gAdd (mOp2 gAdd (mVar 5) (vVar 4)) (mSl (mVar 6) (mPart (mC (.int 1))) mNoPart)) (mCons (mOp2 gAdd (mOp2 gAdd (mOp2 gAdd (mVar 5) (mSl (mVar 6) (mPart (mC (.int 1))) (mPart (mC (.int 2))))) (mSl (mVar 6) mNoPart (mPart (mC (.int 1))))) (mSl (mVar 6) (mPart (mC (.int 2))) mNoPart)) mNil))))))) (mSeq (mSet 11 (mOp2 gAdd (mVar 11) (mOfN (mLst (mCons (mJoin (mC (.str " ")) (mOp2 gAdd (mSl (mVar 7) mNoPart (mPart (mVar 8))) (mSl (mVar 7) (mPart (mOp2 gAdd (mVar 8) (mC (.int 1)))) mNoPart))) (mCons (mJoin (mC (.str " ")) (mOp2 gAdd (mOp2 gAdd (mSl (mVar 7) mNoPart (mPart (mVar 8))) (mOfN (mLst (mCons (mVar 10) mNil)))) (mSl (mVar 7) (mPart (mVar 8)) mNoPart))) mNil)))))) (mSeq (mSet 12 (mOp2 gAdd (mSl (mVar 7) mNoPart (mPart (mVar 8))) (mSl (mVar 7) (mPart (mOp2 gAdd (mVar 8) (mC (.int 1)))) mNoPart))) (mSeq (mSet 11 (mOp2 gAdd (mVar 11) (mOfN (mLst (mCons (mJoin (mC (.str " ")) (mOp2 gAdd (mOp2 gAdd (mSl (mVar 12) mNoPart (mPart (mVar 9))) (mOfN (mLst (mCons (mVar 10) mNil)))) (mSl (mVar 12) (mPart (mVar 9)) mNoPart))) (mCons (mVar 1) (mCons (mOp2 gAdd (mC (.str " ")) (vVar 1)) (mCons (mOp2 gAdd (mVar 1) (mC (.str " "))) mNil)))))))) (mRet (mOp2 gIx (mVar 11) (mCallS 1 0 F__law_take (mCons (mC (.int 10)) mNil)))))))))))))))
def F__law_bent_7 : List D → List D → R (D × List D) := fnS 13 b__law_bent_7
end Td
set_option Elab.async false
set_option linter.all false
set_option maxRecDepth 100000
namespace K91
open PySem PySem.Spec PyProof.Rows L2 TW Td
def topS (i : Nat) : Stmt := PySem.Challenge.pw_tiewebs_k91_texts_that_write_none.main.body.getD i (.Pass ⟨0, 0, 0, 0⟩)
abbrev s_is_whole : Stmt := topS 17
abbrev N_is_whole : List Str := ["thing"]
abbrev P_is_whole : List Str := ["thing"]
theorem sc_is_whole : FnScope N_is_whole P_is_whole (defScope s_is_whole) := ⟨rfl, rfl, rfl, by decide +kernel, rfl, by decide +kernel, by decide +kernel⟩
abbrev s_is_place : Stmt := topS 18
abbrev N_is_place : List Str := ["many", "thing"]
abbrev P_is_place : List Str := ["many", "thing"]
theorem sc_is_place : FnScope N_is_place P_is_place (defScope s_is_place) := ⟨rfl, rfl, rfl, by decide +kernel, rfl, by decide +kernel, by decide +kernel⟩
abbrev s_rises : Stmt := topS 19
abbrev N_rises : List Str := ["some", "one", "other"]
abbrev P_rises : List Str := ["some"]
theorem sc_rises : FnScope N_rises P_rises (defScope s_rises) := ⟨rfl, rfl, rfl, by decide +kernel, rfl, by decide +kernel, by decide +kernel⟩
abbrev s_is_tie : Stmt := topS 20
abbrev N_is_tie : List Str := ["many", "thing", "one"]
abbrev P_is_tie : List Str := ["many", "thing"]
theorem sc_is_tie : FnScope N_is_tie P_is_tie (defScope s_is_tie) := ⟨rfl, rfl, rfl, by decide +kernel, rfl, by decide +kernel, by decide +kernel⟩
abbrev s_is_web : Stmt := topS 21
abbrev N_is_web : List Str := ["thing", "tie"]
abbrev P_is_web : List Str := ["thing"]
theorem sc_is_web : FnScope N_is_web P_is_web (defScope s_is_web) := ⟨rfl, rfl, rfl, by decide +kernel, rfl, by decide +kernel, by decide +kernel⟩
abbrev s_shown : Stmt := topS 25
abbrev N_shown : List Str := ["web", "a", "b"]
abbrev P_shown : List Str := ["web"]
theorem sc_shown : FnScope N_shown P_shown (defScope s_shown) := ⟨rfl, rfl, rfl, by decide +kernel, rfl, by decide +kernel, by decide +kernel⟩
abbrev s_number_in : Stmt := topS 26
abbrev N_number_in : List Str := ["word", "sign"]
abbrev P_number_in : List Str := ["word"]
theorem sc_number_in : FnScope N_number_in P_number_in (defScope s_number_in) := ⟨rfl, rfl, rfl, by decide +kernel, rfl, by decide +kernel, by decide +kernel⟩
abbrev s_read_web : Stmt := topS 27
abbrev N_read_web : List Str := ["text", "words", "ties", "web", "word", "part"]
abbrev P_read_web : List Str := ["text"]
theorem sc_read_web : FnScope N_read_web P_read_web (defScope s_read_web) := ⟨rfl, rfl, rfl, by decide +kernel, rfl, by decide +kernel, by decide +kernel⟩
abbrev s__law_cell_at : Stmt := topS 29
abbrev N__law_cell_at : List Str := ["_law_script", "_law_k"]
abbrev P__law_cell_at : List Str := ["_law_script", "_law_k"]
theorem sc__law_cell_at : FnScope N__law_cell_at P__law_cell_at (defScope s__law_cell_at) := ⟨rfl, rfl, rfl, by decide +kernel, rfl, by decide +kernel, by decide +kernel⟩
abbrev s__law_state : Stmt := topS 30
abbrev N__law_state : List Str := ["_law_script", "_law_k", "_law_cell"]
abbrev P__law_state : List Str := ["_law_script", "_law_k"]
theorem sc__law_state : FnScope N__law_state P__law_state (defScope s__law_state) := ⟨rfl, rfl, rfl, by decide +kernel, rfl, by decide +kernel, by decide +kernel⟩
abbrev s__law_take : Stmt := topS 31
abbrev N__law_take : List Str := ["_law_state_here", "_law_many", "_law_stirred", "_law_found"]
abbrev P__law_take : List Str := ["_law_state_here", "_law_many"]
theorem sc__law_take : FnScope N__law_take P__law_take (defScope s__law_take) := ⟨rfl, rfl, rfl, by decide +kernel, rfl, by decide +kernel, by decide +kernel⟩
abbrev s__law_pairs : Stmt := topS 32
abbrev N__law_pairs : List Str := ["_law_many", "_law_found", "_law_a", "_law_b"]
abbrev P__law_pairs : List Str := ["_law_many"]
theorem sc__law_pairs : FnScope N__law_pairs P__law_pairs (defScope s__law_pairs) := ⟨rfl, rfl, rfl, by decide +kernel, rfl, by decide +kernel, by decide +kernel⟩
abbrev s__law_mixed_row : Stmt := topS 33
abbrev N__law_mixed_row : List Str := ["_law_state_here", "_law_things", "_law_left", "_law_found"]
abbrev P__law_mixed_row : List Str := ["_law_state_here", "_law_things"]
theorem sc__law_mixed_row : FnScope N__law_mixed_row P__law_mixed_row (defScope s__law_mixed_row) := ⟨rfl, rfl, rfl, by decide +kernel, rfl, by decide +kernel, by decide +kernel⟩
abbrev s__law_web : Stmt := topS 34
abbrev N__law_web : List Str := ["_law_state_here", "_law_most", "_law_many", "_law_way", "_law_ties", "_law_row", "_law_at", "_law_odd", "_law_tie"]
abbrev P__law_web : List Str := ["_law_state_here", "_law_most"]
theorem sc__law_web : FnScope N__law_web P__law_web (defScope s__law_web) := ⟨rfl, rfl, rfl, by decide +kernel, rfl, by decide +kernel, by decide +kernel⟩
abbrev s__law_great_web : Stmt := topS 35
abbrev N__law_great_web : List Str := ["_law_state_here", "_law_many", "_law_ties", "_law_turn", "_law_one", "_law_other"]
abbrev P__law_great_web : List Str := ["_law_state_here"]
theorem sc__law_great_web : FnScope N__law_great_web P__law_great_web (defScope s__law_great_web) := ⟨rfl, rfl, rfl, by decide +kernel, rfl, by decide +kernel, by decide +kernel⟩
abbrev s__law_whole : Stmt := topS 36
abbrev N__law_whole : List Str := ["_law_thing"]
abbrev P__law_whole : List Str := ["_law_thing"]
theorem sc__law_whole : FnScope N__law_whole P__law_whole (defScope s__law_whole) := ⟨rfl, rfl, rfl, by decide +kernel, rfl, by decide +kernel, by decide +kernel⟩
abbrev s__law_is_web : Stmt := topS 37
abbrev N__law_is_web : List Str := ["_law_thing", "_law_tie"]
abbrev P__law_is_web : List Str := ["_law_thing"]
theorem sc__law_is_web : FnScope N__law_is_web P__law_is_web (defScope s__law_is_web) := ⟨rfl, rfl, rfl, by decide +kernel, rfl, by decide +kernel, by decide +kernel⟩
abbrev s__law_same : Stmt := topS 38
abbrev N__law_same : List Str := ["_law_found", "_law_due", "_law_one", "_law_other"]
abbrev P__law_same : List Str := ["_law_found", "_law_due"]
theorem sc__law_same : FnScope N__law_same P__law_same (defScope s__law_same) := ⟨rfl, rfl, rfl, by decide +kernel, rfl, by decide +kernel, by decide +kernel⟩
abbrev s__law_refused : Stmt := topS 39
abbrev N__law_refused : List Str := ["_law_call", "_law_error", "_law_marks", "_law_found", "e", "_law_k"]
abbrev P__law_refused : List Str := ["_law_call"]
theorem sc__law_refused : FnScope N__law_refused P__law_refused (defScope s__law_refused) := ⟨rfl, rfl, rfl, by decide +kernel, rfl, by decide +kernel, by decide +kernel⟩
abbrev s__law_number : Stmt := topS 40
abbrev N__law_number : List Str := ["_law_word"]
abbrev P__law_number : List Str := ["_law_word"]
theorem sc__law_number : FnScope N__law_number P__law_number (defScope s__law_number) := ⟨rfl, rfl, rfl, by decide +kernel, rfl, by decide +kernel, by decide +kernel⟩
abbrev s__law_web_in : Stmt := topS 41
abbrev N__law_web_in : List Str := ["_law_text", "_law_words", "_law_ties", "_law_word", "_law_found", "_law_ends", "_law_part"]
abbrev P__law_web_in : List Str := ["_law_text"]
theorem sc__law_web_in : FnScope N__law_web_in P__law_web_in (defScope s__law_web_in) := ⟨rfl, rfl, rfl, by decide +kernel, rfl, by decide +kernel, by decide +kernel⟩
abbrev s__law_bent : Stmt := topS 42
abbrev N__law_bent : List Str := ["_law_state_here", "_law_text", "_law_at", "_law_signs", "_law_sign", "_law_left", "_law_right", "_law_words", "_law_one", "_law_other", "_law_word", "_law_some", "_law_rest"]
abbrev P__law_bent : List Str := ["_law_state_here", "_law_text"]
theorem sc__law_bent : FnScope N__law_bent P__law_bent (defScope s__law_bent) := ⟨rfl, rfl, rfl, by decide +kernel, rfl, by decide +kernel, by decide +kernel⟩
abbrev s_law : Stmt := topS 43
abbrev N_law : List Str := ["_law_script", "_law_k", "_law_state_here", "_law_web_here", "_law_text", "_law_turn", "_law_odd", "_law_due", "_law_a", "_law_b"]
abbrev P_law : List Str := ["_law_script"]
theorem sc_law : FnScope N_law P_law (defScope s_law) := ⟨rfl, rfl, rfl, by decide +kernel, rfl, by decide +kernel, by decide +kernel⟩
section
variable {P : Program} {w : World} {K : PySem.W.Frag} {mg : Str → Option Value} {base : Heap} {ct : Nat → Addr} {cw : Addr}
theorem k_is_whole (T : Tx K mg "is_whole" s_is_whole P_is_whole) (m_bool : mg "bool" = none) (m_int : mg "int" = none) (m_isinstance : mg "isinstance" = none) : Cal P w K mg base "is_whole" P_is_whole 1 (spD K ct 1 F_is_whole) := by
  show Cal P w K mg base "is_whole" P_is_whole 1 (spD K ct 1 (fnD 1 b_is_whole))
  refine calDm (P := P) (w := w) (base := base) (ct := ct) (body := b_is_whole) (k := 0) T sc_is_whole rfl rfl (by decide) fun f cdv A outer s H E hr tk hp => ?_
  unfold b_is_whole
  refine vss_one ?_
  exact vs_ret (ve_and (ve_isi ty_int (by rfl) m_isinstance (vv_var 0 (pv 0)) (pe_bltn (by rfl) m_int PyProof.Rows.boot_int rfl)) (ve_one (ve_not (ve_isi ty_bool (by rfl) m_isinstance (vv_var 0 (pv 0)) (pe_bltn (by rfl) m_bool PyProof.Rows.boot_bool rfl)))))
end
section
variable {P : Program} {w : World} {K : PySem.W.Frag} {mg : Str → Option Value} {base : Heap} {ct : Nat → Addr} {cw : Addr}
theorem k_is_place (T : Tx K mg "is_place" s_is_place P_is_place) (k_is_whole : Cal P w K mg base "is_whole" P_is_whole 1 (spD K ct 1 F_is_whole)) : Cal P w K mg base "is_place" P_is_place 2 (spD K ct 2 F_is_place) := by
  show Cal P w K mg base "is_place" P_is_place 2 (spD K ct 2 (fnD 2 b_is_place))
  refine calDm (P := P) (w := w) (base := base) (ct := ct) (body := b_is_place) (k := 1) T sc_is_place rfl rfl (by decide) fun f cdv A outer s H E hr tk hp => ?_
  unfold b_is_place
  refine vss_one ?_
  exact vs_ret (ve_and (ve_callC k_is_whole hr (by decide) tk (by rfl) (va_cons (ve_var 1 (pv 1)) va_nil)) (ve_one (ve_leLt hr (ve_c pe_int (.int _)) (ve_var 1 (pv 1)) (vv_var 0 (pv 0)))))
end
section
variable {P : Program} {w : World} {K : PySem.W.Frag} {mg : Str → Option Value} {base : Heap} {ct : Nat → Addr} {cw : Addr}
theorem k_rises (T : Tx K mg "rises" s_rises P_rises) (m_all : mg "all" = none) (m_zip : mg "zip" = none) : Cal P w K mg base "rises" P_rises 1 (spD K ct 1 F_rises) := by
  show Cal P w K mg base "rises" P_rises 1 (spD K ct 1 (fnD 3 b_rises))
  refine calDm (P := P) (w := w) (base := base) (ct := ct) (body := b_rises) (k := 0) T sc_rises rfl rfl (by decide) fun f cdv A outer s H E hr tk hp => ?_
  unfold b_rises
  refine vss_one ?_
  exact vs_ret (ve_all rfl (by rfl) m_all (vv_ofN (vn_lc (own := [("one", 1), ("other", 2)]) rfl sc_rises.nd tg_two (vi_zip (by rfl) m_zip (ve_var 0 (pv 0)) (ve_sl (ve_var 0 (pv 0)) (vo_some (ve_c pe_int (.int _))) vo_none)) (blkOk_by (N := N_rises) (sc := defScope s_rises) (by decide +kernel)) (by decide) (fun _ _ _ _ _ => (pg_tup rfl (pgs_cons (pg_name (i := 1) sc_rises.nd rfl (Or.inl rfl)) (pgs_cons (pg_name (i := 2) sc_rises.nd rfl (Or.inl rfl)) pgs_nil)))) (fun _ _ _ _ _ => vts_nil) (fun _ _ _ _ _ => (ve_lt hr (ve_var 1 (pv 1)) (vv_var 2 (pv 2)))))))
end
section
variable {P : Program} {w : World} {K : PySem.W.Frag} {mg : Str → Option Value} {base : Heap} {ct : Nat → Addr} {cw : Addr}
theorem k_is_tie (T : Tx K mg "is_tie" s_is_tie P_is_tie) (m_all : mg "all" = none) (m_isinstance : mg "isinstance" = none) (m_len : mg "len" = none) (m_tuple : mg "tuple" = none) (k_is_place : Cal P w K mg base "is_place" P_is_place 2 (spD K ct 2 F_is_place)) : Cal P w K mg base "is_tie" P_is_tie 3 (spD K ct 2 F_is_tie) := by
  show Cal P w K mg base "is_tie" P_is_tie 3 (spD K ct 2 (fnD 3 b_is_tie))
  refine calDm (P := P) (w := w) (base := base) (ct := ct) (body := b_is_tie) (k := 2) T sc_is_tie rfl rfl (by decide) fun f cdv A outer s H E hr tk hp => ?_
  unfold b_is_tie
  refine vss_cons ?_ ?_
  · refine vs_if ?_ ?_ ?_
    · exact (vt_w (vw_or (vt_not (vt_val (ve_isi ty_tuple (by rfl) m_isinstance (vv_var 1 (pv 1)) (pe_bltn (by rfl) m_tuple PyProof.Rows.boot_tuple rfl)))) (vw_or (vt_ne hr (ve_len (by rfl) m_len (vv_var 1 (pv 1))) (vv_of (ve_c pe_int (.int _)))) (vw_or1 (vt_not (vt_val (ve_all rfl (by rfl) m_all (vv_ofN (vn_lc (own := [("one", 2)]) rfl sc_is_tie.nd tg_name (vi_seq (ve_var 1 (pv 1))) (blkOk_by (N := N_is_tie) (sc := defScope s_is_tie) (by decide +kernel)) (by decide) (fun _ _ _ _ _ => (pg_name (i := 2) sc_is_tie.nd rfl (Or.inl rfl))) (fun _ _ _ _ _ => vts_nil) (fun _ _ _ _ _ => (ve_callC k_is_place hr (by decide) takesW0 (by rfl) (va_cons (ve_var 0 (pv 0)) (va_cons (ve_var 2 (pv 2)) va_nil)))))))))))))
    · refine vss_one ?_
      exact vs_ret (ve_c pe_bl (.bl _))
    · exact vss_nil
  · refine vss_one ?_
    exact vs_ret (ve_lt hr (ve_ix (ve_var 1 (pv 1)) (vv_of (ve_c pe_int (.int _))) (fun _ _ => rfl)) (vv_of (ve_ix (ve_var 1 (pv 1)) (vv_of (ve_c pe_int (.int _))) (fun _ _ => rfl))))
end
section
variable {P : Program} {w : World} {K : PySem.W.Frag} {mg : Str → Option Value} {base : Heap} {ct : Nat → Addr} {cw : Addr}
theorem k_is_web (T : Tx K mg "is_web" s_is_web P_is_web) (m_all : mg "all" = none) (m_isinstance : mg "isinstance" = none) (m_len : mg "len" = none) (m_tuple : mg "tuple" = none) (c_MOST_PLACES : GcI mg "MOST_PLACES" 14) (k_rises : Cal P w K mg base "rises" P_rises 1 (spD K ct 1 F_rises)) (k_is_tie : Cal P w K mg base "is_tie" P_is_tie 3 (spD K ct 2 F_is_tie)) (k_is_whole : Cal P w K mg base "is_whole" P_is_whole 1 (spD K ct 1 F_is_whole)) : Cal P w K mg base "is_web" P_is_web 4 (spD K ct 1 F_is_web) := by
  show Cal P w K mg base "is_web" P_is_web 4 (spD K ct 1 (fnD 2 b_is_web))
  refine calDm (P := P) (w := w) (base := base) (ct := ct) (body := b_is_web) (k := 3) T sc_is_web rfl rfl (by decide) fun f cdv A outer s H E hr tk hp => ?_
  unfold b_is_web
  refine vss_cons ?_ ?_
  · refine vs_if ?_ ?_ ?_
    · exact (vt_w (vw_or (vt_not (vt_val (ve_isi ty_tuple (by rfl) m_isinstance (vv_var 0 (pv 0)) (pe_bltn (by rfl) m_tuple PyProof.Rows.boot_tuple rfl)))) (vw_or (vt_ne hr (ve_len (by rfl) m_len (vv_var 0 (pv 0))) (vv_of (ve_c pe_int (.int _)))) (vw_or (vt_not (vt_val (ve_callC k_is_whole hr (by decide) tk (by rfl) (va_cons (ve_ix (ve_var 0 (pv 0)) (vv_of (ve_c pe_int (.int _))) (fun _ _ => rfl)) va_nil)))) (vw_or1 (vt_not (vt_leLe hr (ve_c pe_int (.int _)) (ve_ix (ve_var 0 (pv 0)) (vv_of (ve_c pe_int (.int _))) (fun _ _ => rfl)) (vv_of (ve_gi c_MOST_PLACES (by rfl))))))))))
    · refine vss_one ?_
      exact vs_ret (ve_c pe_bl (.bl _))
    · exact vss_nil
  · refine vss_one ?_
    exact vs_ret (ve_and (ve_isi ty_tuple (by rfl) m_isinstance (vv_of (ve_ix (ve_var 0 (pv 0)) (vv_of (ve_c pe_int (.int _))) (fun _ _ => rfl))) (pe_bltn (by rfl) m_tuple PyProof.Rows.boot_tuple rfl)) (ve_and (ve_all rfl (by rfl) m_all (vv_ofN (vn_lc (own := [("tie", 1)]) rfl sc_is_web.nd tg_name (vi_seq (ve_ix (ve_var 0 (pv 0)) (vv_of (ve_c pe_int (.int _))) (fun _ _ => rfl))) (blkOk_by (N := N_is_web) (sc := defScope s_is_web) (by decide +kernel)) (by decide) (fun _ _ _ _ _ => (pg_name (i := 1) sc_is_web.nd rfl (Or.inl rfl))) (fun _ _ _ _ _ => vts_nil) (fun _ _ _ _ _ => (ve_callC k_is_tie hr (by decide) takesW0 (by rfl) (va_cons (ve_ix (ve_var 0 (pv 0)) (vv_of (ve_c pe_int (.int _))) (fun _ _ => rfl)) (va_cons (ve_var 1 (pv 1)) va_nil))))))) (ve_one (ve_callC k_rises hr (by decide) tk (by rfl) (va_cons (ve_ix (ve_var 0 (pv 0)) (vv_of (ve_c pe_int (.int _))) (fun _ _ => rfl)) va_nil)))))
end
section
variable {P : Program} {w : World} {K : PySem.W.Frag} {mg : Str → Option Value} {base : Heap} {ct : Nat → Addr} {cw : Addr}
theorem k_shown (T : Tx K mg "shown" s_shown P_shown) (m_str : mg "str" = none) : Cal P w K mg base "shown" P_shown 1 (spD K ct 1 F_shown) := by
  show Cal P w K mg base "shown" P_shown 1 (spD K ct 1 (fnD 3 b_shown))
  refine calDm (P := P) (w := w) (base := base) (ct := ct) (body := b_shown) (k := 0) T sc_shown rfl rfl (by decide) fun f cdv A outer s H E hr tk hp => ?_
  unfold b_shown
  refine vss_one ?_
  exact vs_ret (ve_join (ve_c pe_str (.str _)) (ve_add (ve_ofN (vn_lst (va_cons (ve_add (ve_str (by rfl) m_str (vv_of (ve_ix (ve_var 0 (pv 0)) (vv_of (ve_c pe_int (.int _))) (fun _ _ => rfl)))) (vv_of (ve_c pe_str (.str _)))) va_nil))) (vv_ofN (vn_lc (own := [("a", 1), ("b", 2)]) rfl sc_shown.nd tg_two (vi_seq (ve_ix (ve_var 0 (pv 0)) (vv_of (ve_c pe_int (.int _))) (fun _ _ => rfl))) (blkOk_by (N := N_shown) (sc := defScope s_shown) (by decide +kernel)) (by decide) (fun _ _ _ _ _ => (pg_tup rfl (pgs_cons (pg_name (i := 1) sc_shown.nd rfl (Or.inl rfl)) (pgs_cons (pg_name (i := 2) sc_shown.nd rfl (Or.inl rfl)) pgs_nil)))) (fun _ _ _ _ _ => vts_nil) (fun _ _ _ _ _ => (ve_add (ve_add (ve_str (by rfl) m_str (vv_var 1 (pv 1))) (vv_of (ve_c pe_str (.str _)))) (vv_of (ve_str (by rfl) m_str (vv_var 2 (pv 2))))))))))
end
section
variable {P : Program} {w : World} {K : PySem.W.Frag} {mg : Str → Option Value} {base : Heap} {ct : Nat → Addr} {cw : Addr}
theorem k_number_in (T : Tx K mg "number_in" s_number_in P_number_in) (m_all : mg "all" = none) (m_int : mg "int" = none) (m_len : mg "len" = none) (c_FIGURES : GcS mg "FIGURES" "0123456789") (c_MOST_FIGURES : GcI mg "MOST_FIGURES" 2) : Cal P w K mg base "number_in" P_number_in 1 (spD K ct 1 F_number_in) := by
  show Cal P w K mg base "number_in" P_number_in 1 (spD K ct 1 (fnD 2 b_number_in))
  refine calDm (P := P) (w := w) (base := base) (ct := ct) (body := b_number_in) (k := 0) T sc_number_in rfl rfl (by decide) fun f cdv A outer s H E hr tk hp => ?_
  unfold b_number_in
  refine vss_cons ?_ ?_
  · refine vs_if ?_ ?_ ?_
    · exact (vt_w (vw_or (vt_not (vt_leLe hr (ve_c pe_int (.int _)) (ve_len (by rfl) m_len (vv_var 0 (pv 0))) (vv_of (ve_gi c_MOST_FIGURES (by rfl))))) (vw_or1 (vt_not (vt_val (ve_all rfl (by rfl) m_all (vv_ofN (vn_lc (own := [("sign", 1)]) rfl sc_number_in.nd tg_name (vi_str (ve_var 0 (pv 0))) (blkOk_by (N := N_number_in) (sc := defScope s_number_in) (by decide +kernel)) (by decide) (fun _ _ _ _ _ => (pg_name (i := 1) sc_number_in.nd rfl (Or.inl rfl))) (fun _ _ _ _ _ => vts_nil) (fun _ _ _ _ _ => (ve_in hr (ve_var 1 (pv 1)) (vv_of (ve_gs c_FIGURES (by rfl)))))))))))))
    · refine vss_one ?_
      exact vs_ret (ve_c pe_non .non)
    · exact vss_nil
  · refine vss_cons ?_ ?_
    · refine vs_if ?_ ?_ ?_
      · exact (vt_w (vw_and (vt_eq hr (ve_ix (ve_var 0 (pv 0)) (vv_of (ve_c pe_int (.int _))) (fun _ _ => rfl)) (vv_of (ve_c pe_str (.str _)))) (vw_and1 (vt_gt hr (ve_len (by rfl) m_len (vv_var 0 (pv 0))) (vv_of (ve_c pe_int (.int _)))))))
      · refine vss_one ?_
        exact vs_ret (ve_c pe_non .non)
      · exact vss_nil
    · refine vss_one ?_
      exact vs_ret (ve_intS (by rfl) m_int (vv_var 0 (pv 0)))
end
section
variable {P : Program} {w : World} {K : PySem.W.Frag} {mg : Str → Option Value} {base : Heap} {ct : Nat → Addr} {cw : Addr}
theorem k_read_web (T : Tx K mg "read_web" s_read_web P_read_web) (m_isinstance : mg "isinstance" = none) (m_str : mg "str" = none) (m_tuple : mg "tuple" = none) (e_NoText : ErrC K mg ct 9 "NoText") (k_shown : Cal P w K mg base "shown" P_shown 1 (spD K ct 1 F_shown)) (k_is_web : Cal P w K mg base "is_web" P_is_web 4 (spD K ct 1 F_is_web)) (k_number_in : Cal P w K mg base "number_in" P_number_in 1 (spD K ct 1 F_number_in)) : Cal P w K mg base "read_web" P_read_web 5 (spD K ct 1 F_read_web) := by
  show Cal P w K mg base "read_web" P_read_web 5 (spD K ct 1 (fnD 6 b_read_web))
  refine calDm (P := P) (w := w) (base := base) (ct := ct) (body := b_read_web) (k := 4) T sc_read_web rfl rfl (by decide) fun f cdv A outer s H E hr tk hp => ?_
  unfold b_read_web
  refine vss_cons ?_ ?_
  · refine vs_if ?_ ?_ ?_
    · exact (vt_not (vt_val (ve_isi ty_str (by rfl) m_isinstance (vv_var 0 (pv 0)) (pe_bltn (by rfl) m_str PyProof.Rows.boot_str rfl))))
    · refine vss_one ?_
      exact vs_raise rfl tk e_NoText (by rfl)
    · exact vss_nil
  · refine vss_cons ?_ ?_
    · exact vs_set (i := 1) sc_read_web.nd rfl (Or.inl rfl) (ve_ofN (vn_split (ve_var 0 (pv 0)) (ve_c pe_str (.str _))))
    · refine vss_cons ?_ ?_
      · exact vs_setLc (i := 2) sc_read_web.nd rfl (PS_lc (own := [("word", 4)]) rfl sc_read_web.nd rfl rfl (sw_true rfl rfl rfl (by decide +kernel)) tg_name (vi_seq (ve_sl (ve_var 1 (pv 1)) (vo_some (ve_c pe_int (.int _))) vo_none)) (blkOk_by (N := N_read_web) (sc := defScope s_read_web) (by decide +kernel)) (by decide) (fun _ _ _ _ _ => (pg_name (i := 4) sc_read_web.nd rfl (Or.inl rfl))) (fun _ _ _ _ _ => vts_nil) (fun _ _ _ _ _ => (ve_tuple (by rfl) m_tuple (vv_ofN (vn_lc (own := [("part", 5)]) rfl sc_read_web.nd tg_name (vi_seq (ve_ofN (vn_split (ve_var 4 (pv 4)) (ve_c pe_str (.str _))))) (blkOk_by (by rfl)) (by decide) (fun _ _ _ _ _ => (pg_name (i := 5) sc_read_web.nd rfl (Or.inl rfl))) (fun _ _ _ _ _ => vts_nil) (fun _ _ _ _ _ => (ve_callC k_number_in hr (by decide) takesW0 (by rfl) (va_cons (ve_var 5 (pv 5)) va_nil))))))))
      · refine vss_cons ?_ ?_
        · exact vs_set (i := 3) sc_read_web.nd rfl (Or.inl rfl) (ve_tup (va_cons (ve_callC k_number_in hr (by decide) tk (by rfl) (va_cons (ve_sl (ve_ix (ve_var 1 (pv 1)) (vv_of (ve_c pe_int (.int _))) (fun _ _ => rfl)) vo_none (vo_some (ve_neg (ve_c pe_int (.int _))))) va_nil)) (va_cons (ve_tuple (by rfl) m_tuple (vv_var 2 (pv 2))) va_nil)))
        · refine vss_cons ?_ ?_
          · refine vs_if ?_ ?_ ?_
            · exact (vt_w (vw_or (vt_not (vt_val (ve_callC k_is_web hr (by decide) tk (by rfl) (va_cons (ve_var 3 (pv 3)) va_nil)))) (vw_or1 (vt_ne hr (ve_callC k_shown hr (by decide) tk (by rfl) (va_cons (ve_var 3 (pv 3)) va_nil)) (vv_var 0 (pv 0))))))
            · refine vss_one ?_
              exact vs_raise rfl tk e_NoText (by rfl)
            · exact vss_nil
          · refine vss_one ?_
            exact vs_ret (ve_var 3 (pv 3))
end
section
variable {P : Program} {w : World} {K : PySem.W.Frag} {mg : Str → Option Value} {base : Heap} {ct : Nat → Addr} {cw : Addr}
theorem k__law_cell_at (T : Tx K mg "_law_cell_at" s__law_cell_at P__law_cell_at) (m_len : mg "len" = none) : Cal P w K mg base "_law_cell_at" P__law_cell_at 1 (spD K ct 2 F__law_cell_at) := by
  show Cal P w K mg base "_law_cell_at" P__law_cell_at 1 (spD K ct 2 (fnD 2 b__law_cell_at))
  refine calDm (P := P) (w := w) (base := base) (ct := ct) (body := b__law_cell_at) (k := 0) T sc__law_cell_at rfl rfl (by decide) fun f cdv A outer s H E hr tk hp => ?_
  unfold b__law_cell_at
  refine vss_cons ?_ ?_
  · refine vs_if ?_ ?_ ?_
    · exact (vt_lt hr (ve_var 1 (pv 1)) (vv_of (ve_len (by rfl) m_len (vv_var 0 (pv 0)))))
    · refine vss_one ?_
      exact vs_ret (ve_ix (ve_var 0 (pv 0)) (vv_var 1 (pv 1)) (fun _ _ => rfl))
    · exact vss_nil
  · refine vss_one ?_
    exact vs_ret (ve_c pe_int (.int _))
end
section
variable {P : Program} {w : World} {K : PySem.W.Frag} {mg : Str → Option Value} {base : Heap} {ct : Nat → Addr} {cw : Addr}
theorem k__law_state (T : Tx K mg "_law_state" s__law_state P__law_state) (k__law_cell_at : Cal P w K mg base "_law_cell_at" P__law_cell_at 1 (spD K ct 2 F__law_cell_at)) : Cal P w K mg base "_law_state" P__law_state 2 (spN K ct 2 F__law_state) := by
  show Cal P w K mg base "_law_state" P__law_state 2 (spN K ct 2 (fnN 3 b__law_state))
  refine calNm (P := P) (w := w) (base := base) (ct := ct) (body := b__law_state) (k := 1) T sc__law_state rfl rfl (by decide) fun f cdv A outer s H E hr tk hp => ?_
  unfold b__law_state
  refine vss_cons ?_ ?_
  · exact vs_set (i := 2) sc__law_state.nd rfl (Or.inl rfl) (ve_callC k__law_cell_at hr (by decide) tk (by rfl) (va_cons (ve_var 0 (pv 0)) (va_cons (ve_var 1 (pv 1)) va_nil)))
  · refine vss_cons ?_ ?_
    · refine vs_if ?_ ?_ ?_
      · exact (vt_ge hr (ve_var 2 (pv 2)) (vv_of (ve_pow (ve_c pe_int (.int _)) (vv_of (ve_c pe_int (.int _))))))
      · refine vss_one ?_
        exact vs_retN (vn_lst (va_cons (ve_sub (ve_var 2 (pv 2)) (vv_of (ve_pow (ve_c pe_int (.int _)) (vv_of (ve_c pe_int (.int _)))))) (va_cons (ve_c pe_bl (.bl _)) va_nil)))
      · exact vss_nil
    · refine vss_one ?_
      exact vs_retN (vn_lst (va_cons (ve_mod (ve_var 2 (pv 2)) (vv_of (ve_c pe_int (.int _)))) (va_cons (ve_c pe_bl (.bl _)) va_nil)))
end
section
variable {P : Program} {w : World} {K : PySem.W.Frag} {mg : Str → Option Value} {base : Heap} {ct : Nat → Addr} {cw : Addr}
theorem k__law_take (T : Tx K mg "_law_take" s__law_take P__law_take) : Cal P w K mg base "_law_take" P__law_take 1 (spS K 1 F__law_take) := by
  show Cal P w K mg base "_law_take" P__law_take 1 (spS K 1 (fnS 4 b__law_take))
  refine calSm (P := P) (w := w) (base := base) (ct := fun _ => 0) (body := b__law_take) (k := 0) T sc__law_take rfl rfl (by decide) fun f cdv A outer s H E hr tk hp => ?_
  unfold b__law_take
  refine vss_cons ?_ ?_
  · refine vs_if ?_ ?_ ?_
    · exact (vt_val (ve_ixV (vv_var 0 (pv 0)) pure_mC (vv_of (ve_c pe_int (.int _))) (fun _ _ => rfl)))
    · refine vss_cons ?_ ?_
      · exact vs_set (i := 3) sc__law_take.nd rfl (Or.inl rfl) (ve_mod (ve_ixV (vv_var 0 (pv 0)) pure_mC (vv_of (ve_c pe_int (.int _))) (fun _ _ => rfl)) (vv_var 1 (pv 1)))
      · refine vss_cons ?_ ?_
        · exact vs_setix (pv 0) (ve_c pe_int (.int _)) (ve_div (ve_ixV (vv_var 0 (pv 0)) pure_mC (vv_of (ve_c pe_int (.int _))) (fun _ _ => rfl)) (vv_var 1 (pv 1)))
        · refine vss_one ?_
          exact vs_ret (ve_var 3 (pv 3))
    · exact vss_nil
  · refine vss_cons ?_ ?_
    · exact vs_setix (pv 0) (ve_c pe_int (.int _)) (ve_mod (ve_add (ve_mul (ve_ixV (vv_var 0 (pv 0)) pure_mC (vv_of (ve_c pe_int (.int _))) (fun _ _ => rfl)) (vv_of (ve_c pe_int (.int _)))) (vv_of (ve_c pe_int (.int _)))) (vv_of (ve_c pe_int (.int _))))
    · refine vss_cons ?_ ?_
      · exact vs_set (i := 2) sc__law_take.nd rfl (Or.inl rfl) (ve_mod (ve_add (ve_add (ve_mul (ve_ixV (vv_var 0 (pv 0)) pure_mC (vv_of (ve_c pe_int (.int _))) (fun _ _ => rfl)) (vv_of (ve_ixV (vv_var 0 (pv 0)) pure_mC (vv_of (ve_c pe_int (.int _))) (fun _ _ => rfl)))) (vv_of (ve_mul (ve_c pe_int (.int _)) (vv_of (ve_ixV (vv_var 0 (pv 0)) pure_mC (vv_of (ve_c pe_int (.int _))) (fun _ _ => rfl)))))) (vv_of (ve_c pe_int (.int _)))) (vv_of (ve_c pe_int (.int _))))
      · refine vss_cons ?_ ?_
        · exact vs_set (i := 2) sc__law_take.nd rfl (Or.inl rfl) (ve_mod (ve_add (ve_mul (ve_var 2 (pv 2)) (vv_var 2 (pv 2))) (vv_of (ve_mul (ve_c pe_int (.int _)) (vv_var 2 (pv 2))))) (vv_of (ve_c pe_int (.int _))))
        · refine vss_one ?_
          exact vs_ret (ve_mod (ve_div (ve_var 2 (pv 2)) (vv_of (ve_c pe_int (.int _)))) (vv_var 1 (pv 1)))
end
section
variable {P : Program} {w : World} {K : PySem.W.Frag} {mg : Str → Option Value} {base : Heap} {ct : Nat → Addr} {cw : Addr}
theorem k__law_pairs (T : Tx K mg "_law_pairs" s__law_pairs P__law_pairs) (m_range : mg "range" = none) : Cal P w K mg base "_law_pairs" P__law_pairs 1 (spN K ct 1 F__law_pairs) := by
  show Cal P w K mg base "_law_pairs" P__law_pairs 1 (spN K ct 1 (fnN 4 b__law_pairs))
  refine calNm (P := P) (w := w) (base := base) (ct := ct) (body := b__law_pairs) (k := 0) T sc__law_pairs rfl rfl (by decide) fun f cdv A outer s H E hr tk hp => ?_
  unfold b__law_pairs
  refine vss_cons ?_ ?_
  · exact vs_setN (i := 1) sc__law_pairs.nd rfl (Or.inl rfl) (vn_lst va_nil)
  · refine vss_cons ?_ ?_
    · refine vs_for hp rfl tg_name (vi_range1 (by rfl) m_range (ve_var 0 (pv 0))) (pg_name (i := 2) sc__law_pairs.nd rfl (Or.inr rfl)) ?_
      refine vss_one ?_
      exact vs_extend (pv 1) (ve_ofN (vn_lc (own := [("_law_b", 3)]) rfl sc__law_pairs.nd tg_name (vi_range2 (by rfl) m_range (ve_add (ve_var 2 (pv 2)) (vv_of (ve_c pe_int (.int _)))) (ve_var 0 (pv 0))) (blkOk_by (N := N__law_pairs) (sc := defScope s__law_pairs) (by decide +kernel)) (by decide) (fun _ _ _ _ _ => (pg_name (i := 3) sc__law_pairs.nd rfl (Or.inl rfl))) (fun _ _ _ _ _ => vts_nil) (fun _ _ _ _ _ => (ve_tup (va_cons (ve_var 2 (pv 2)) (va_cons (ve_var 3 (pv 3)) va_nil))))))
    · refine vss_one ?_
      exact vs_retO (pv 1)
end
section
variable {P : Program} {w : World} {K : PySem.W.Frag} {mg : Str → Option Value} {base : Heap} {ct : Nat → Addr} {cw : Addr}
theorem k__law_mixed_row (T : Tx K mg "_law_mixed_row" s__law_mixed_row P__law_mixed_row) (m_len : mg "len" = none) (m_list : mg "list" = none) (k__law_take : Cal P w K mg base "_law_take" P__law_take 1 (spS K 1 F__law_take)) : Cal P w K mg base "_law_mixed_row" P__law_mixed_row 2 (spS K 1 F__law_mixed_row) := by
  show Cal P w K mg base "_law_mixed_row" P__law_mixed_row 2 (spS K 1 (fnS 4 b__law_mixed_row))
  refine calSm (P := P) (w := w) (base := base) (ct := fun _ => 0) (body := b__law_mixed_row) (k := 1) T sc__law_mixed_row rfl rfl (by decide) fun f cdv A outer s H E hr tk hp => ?_
  unfold b__law_mixed_row
  refine vss_cons ?_ ?_
  · exact vs_setN (i := 2) sc__law_mixed_row.nd rfl (Or.inl rfl) (vn_list (by rfl) m_list (vv_var 1 (pv 1)))
  · refine vss_cons ?_ ?_
    · exact vs_setN (i := 3) sc__law_mixed_row.nd rfl (Or.inl rfl) (vn_lst va_nil)
    · refine vss_cons ?_ ?_
      · refine vs_while 100000 hp ?_ ?_
        · exact (vt_neV hr (vv_var 2 (pv 2)) pure_nil (vv_ofN (vn_lst va_nil)))
        · refine vss_one ?_
          exact vs_append (pv 3) (ve_pop (pv 2) (ve_callSC k__law_take hr (by decide) tk (by rfl) (pv 0) (va_cons (ve_len (by rfl) m_len (vv_var 2 (pv 2))) va_nil)))
      · refine vss_one ?_
        exact vs_ret (ve_var 3 (pv 3))
end
section
variable {P : Program} {w : World} {K : PySem.W.Frag} {mg : Str → Option Value} {base : Heap} {ct : Nat → Addr} {cw : Addr}
theorem k__law_web (T : Tx K mg "_law_web" s__law_web P__law_web) (m_list : mg "list" = none) (m_max : mg "max" = none) (m_range : mg "range" = none) (m_sorted : mg "sorted" = none) (m_tuple : mg "tuple" = none) (k__law_pairs : Cal P w K mg base "_law_pairs" P__law_pairs 1 (spN K ct 1 F__law_pairs)) (k__law_take : Cal P w K mg base "_law_take" P__law_take 1 (spS K 1 F__law_take)) (k__law_mixed_row : Cal P w K mg base "_law_mixed_row" P__law_mixed_row 2 (spS K 1 F__law_mixed_row)) : Cal P w K mg base "_law_web" P__law_web 3 (spS K 1 F__law_web) := by
  show Cal P w K mg base "_law_web" P__law_web 3 (spS K 1 (fnS 9 b__law_web))
  refine calSm (P := P) (w := w) (base := base) (ct := ct) (body := b__law_web) (k := 2) T sc__law_web rfl rfl (by decide) fun f cdv A outer s H E hr tk hp => ?_
  unfold b__law_web
  refine vss_cons ?_ ?_
  · exact vs_set (i := 2) sc__law_web.nd rfl (Or.inl rfl) (ve_max2 rfl (by rfl) m_max (ve_c pe_int (.int _)) (vv_of (ve_sub (ve_var 1 (pv 1)) (vv_of (ve_ix (ve_ofN (vn_lst (va_cons (ve_c pe_int (.int _)) (va_cons (ve_c pe_int (.int _)) (va_cons (ve_c pe_int (.int _)) (va_cons (ve_c pe_int (.int _)) (va_cons (ve_c pe_int (.int _)) (va_cons (ve_c pe_int (.int _)) (va_cons (ve_c pe_int (.int _)) (va_cons (ve_var 1 (pv 1)) va_nil)))))))))) (vv_of (ve_callSC k__law_take hr (by decide) tk (by rfl) (pv 0) (va_cons (ve_c pe_int (.int _)) va_nil))) (fun _ _ => rfl))))))
  · refine vss_cons ?_ ?_
    · exact vs_set (i := 3) sc__law_web.nd rfl (Or.inr rfl) (ve_callSC k__law_take hr (by decide) tk (by rfl) (pv 0) (va_cons (ve_c pe_int (.int _)) va_nil))
    · refine vss_cons ?_ ?_
      · exact vs_setN (i := 4) sc__law_web.nd rfl (Or.inr rfl) (vn_lc (own := [("_law_tie", 8)]) rfl sc__law_web.nd tg_name (vi_seq (ve_ofN (vn_callC k__law_pairs hr (by decide) tk (by rfl) (va_cons (ve_var 2 (pv 2)) va_nil)))) (blkOk_by (N := N__law_web) (sc := defScope s__law_web) (by decide +kernel)) (by decide) (fun _ _ _ _ _ => (pg_name (i := 8) sc__law_web.nd rfl (Or.inl rfl))) (fun _ _ _ _ _ => (vts_one (vt_lt hr (ve_callSC k__law_take hr (by decide) takesW0 (by rfl) (pv 0) (va_cons (ve_c pe_int (.int _)) va_nil)) (vv_of (ve_ix (ve_ofN (vn_lst (va_cons (ve_c pe_int (.int _)) (va_cons (ve_c pe_int (.int _)) (va_cons (ve_c pe_int (.int _)) va_nil))))) (vv_of (ve_mod (ve_var 3 (pv 3)) (vv_of (ve_c pe_int (.int _))))) (fun _ _ => rfl)))))) (fun _ _ _ _ _ => (ve_var 8 (pv 8))))
      · refine vss_cons ?_ ?_
        · exact vs_set (i := 5) sc__law_web.nd rfl (Or.inl rfl) (ve_callSC k__law_mixed_row hr (by decide) tk (by rfl) (pv 0) (va_cons (ve_ofN (vn_listRg1 rfl (by rfl) m_list (by rfl) m_range (ve_var 2 (pv 2)))) va_nil))
        · refine vss_cons ?_ ?_
          · refine vs_if ?_ ?_ ?_
            · exact (vt_gt hr (ve_var 3 (pv 3)) (vv_of (ve_c pe_int (.int _))))
            · refine vss_cons ?_ ?_
              · exact vs_setN (i := 4) sc__law_web.nd rfl (Or.inr rfl) (vn_lst va_nil)
              · refine vss_cons ?_ ?_
                · refine vs_for hp rfl tg_name (vi_range2 (by rfl) m_range (ve_c pe_int (.int _)) (ve_var 2 (pv 2))) (pg_name (i := 6) sc__law_web.nd rfl (Or.inl rfl)) ?_
                  refine vss_one ?_
                  exact vs_append (pv 4) (ve_tuple (by rfl) m_tuple (vv_ofN (vn_sorted hr (by rfl) m_sorted (vv_ofN (vn_lst (va_cons (ve_ix (ve_var 5 (pv 5)) (vv_var 6 (pv 6)) (fun _ _ => rfl)) (va_cons (ve_ix (ve_var 5 (pv 5)) (vv_of (ve_ix (ve_ofN (vn_lst (va_cons (ve_sub (ve_var 6 (pv 6)) (vv_of (ve_c pe_int (.int _)))) (va_cons (ve_sub (ve_var 6 (pv 6)) (vv_of (ve_c pe_int (.int _)))) (va_cons (ve_c pe_int (.int _)) (va_cons (ve_div (ve_var 6 (pv 6)) (vv_of (ve_c pe_int (.int _)))) va_nil)))))) (vv_of (ve_sub (ve_var 3 (pv 3)) (vv_of (ve_c pe_int (.int _))))) (fun _ _ => rfl))) (fun _ _ => rfl)) va_nil)))))))
                · refine vss_cons ?_ ?_
                  · refine vs_if ?_ ?_ ?_
                    · exact (vt_w (vw_and (vt_eq hr (ve_var 3 (pv 3)) (vv_of (ve_c pe_int (.int _)))) (vw_and1 (vt_gt hr (ve_var 2 (pv 2)) (vv_of (ve_c pe_int (.int _)))))))
                    · refine vss_one ?_
                      exact vs_append (pv 4) (ve_tuple (by rfl) m_tuple (vv_ofN (vn_sorted hr (by rfl) m_sorted (vv_ofN (vn_lst (va_cons (ve_ix (ve_var 5 (pv 5)) (vv_of (ve_c pe_int (.int _))) (fun _ _ => rfl)) (va_cons (ve_ix (ve_var 5 (pv 5)) (vv_of (ve_sub (ve_var 2 (pv 2)) (vv_of (ve_c pe_int (.int _))))) (fun _ _ => rfl)) va_nil)))))))
                    · exact vss_nil
                  · refine vss_cons ?_ ?_
                    · exact vs_set (i := 7) sc__law_web.nd rfl (Or.inr rfl) (ve_ofN (vn_lc (own := [("_law_tie", 8)]) rfl sc__law_web.nd tg_name (vi_seq (ve_ofN (vn_callC k__law_pairs hr (by decide) tk (by rfl) (va_cons (ve_var 2 (pv 2)) va_nil)))) (blkOk_by (N := N__law_web) (sc := defScope s__law_web) (by decide +kernel)) (by decide) (fun _ _ _ _ _ => (pg_name (i := 8) sc__law_web.nd rfl (Or.inl rfl))) (fun _ _ _ _ _ => (vts_one (vt_eq hr (ve_callSC k__law_take hr (by decide) takesW0 (by rfl) (pv 0) (va_cons (ve_c pe_int (.int _)) va_nil)) (vv_of (ve_c pe_int (.int _)))))) (fun _ _ _ _ _ => (ve_var 8 (pv 8)))))
                    · refine vss_one ?_
                      exact vs_setN (i := 4) sc__law_web.nd rfl (Or.inr rfl) (vn_lc (own := [("_law_tie", 8)]) rfl sc__law_web.nd tg_name (vi_seq (ve_ofN (vn_callC k__law_pairs hr (by decide) tk (by rfl) (va_cons (ve_var 2 (pv 2)) va_nil)))) (blkOk_by (N := N__law_web) (sc := defScope s__law_web) (by decide +kernel)) (by decide) (fun _ _ _ _ _ => (pg_name (i := 8) sc__law_web.nd rfl (Or.inl rfl))) (fun _ _ _ _ _ => (vts_one (vt_ne hr (ve_in hr (ve_var 8 (pv 8)) (vv_var 4 (pv 4))) (vv_of (ve_in hr (ve_var 8 (pv 8)) (vv_var 7 (pv 7))))))) (fun _ _ _ _ _ => (ve_var 8 (pv 8))))
            · exact vss_nil
          · refine vss_one ?_
            exact vs_ret (ve_tup (va_cons (ve_var 2 (pv 2)) (va_cons (ve_tuple (by rfl) m_tuple (vv_ofN (vn_sorted hr (by rfl) m_sorted (vv_var 4 (pv 4))))) va_nil)))
end
section
variable {P : Program} {w : World} {K : PySem.W.Frag} {mg : Str → Option Value} {base : Heap} {ct : Nat → Addr} {cw : Addr}
theorem k__law_great_web (T : Tx K mg "_law_great_web" s__law_great_web P__law_great_web) (m_max : mg "max" = none) (m_min : mg "min" = none) (m_range : mg "range" = none) (m_set : mg "set" = none) (m_sorted : mg "sorted" = none) (m_tuple : mg "tuple" = none) (k__law_take : Cal P w K mg base "_law_take" P__law_take 1 (spS K 1 F__law_take)) : Cal P w K mg base "_law_great_web" P__law_great_web 2 (spS K 0 F__law_great_web) := by
  show Cal P w K mg base "_law_great_web" P__law_great_web 2 (spS K 0 (fnS 6 b__law_great_web))
  refine calSm (P := P) (w := w) (base := base) (ct := fun _ => 0) (body := b__law_great_web) (k := 1) T sc__law_great_web rfl rfl (by decide) fun f cdv A outer s H E hr tk hp => ?_
  unfold b__law_great_web
  refine vss_cons ?_ ?_
  · exact vs_set (i := 1) sc__law_great_web.nd rfl (Or.inl rfl) (ve_add (ve_c pe_int (.int _)) (vv_of (ve_callSC k__law_take hr (by decide) tk (by rfl) (pv 0) (va_cons (ve_c pe_int (.int _)) va_nil))))
  · refine vss_cons ?_ ?_
    · exact vs_setN (i := 2) sc__law_great_web.nd rfl (Or.inl rfl) (vn_lst va_nil)
    · refine vss_cons ?_ ?_
      · refine vs_for hp rfl tg_name (vi_range1 (by rfl) m_range (ve_callSC k__law_take hr (by decide) tk (by rfl) (pv 0) (va_cons (ve_c pe_int (.int _)) va_nil))) (pg_name (i := 3) sc__law_great_web.nd rfl (Or.inl rfl)) ?_
        refine vss_cons ?_ ?_
        · exact vs_set (i := 4) sc__law_great_web.nd rfl (Or.inl rfl) (ve_callSC k__law_take hr (by decide) tk (by rfl) (pv 0) (va_cons (ve_var 1 (pv 1)) va_nil))
        · refine vss_cons ?_ ?_
          · exact vs_set (i := 5) sc__law_great_web.nd rfl (Or.inl rfl) (ve_mod (ve_add (ve_add (ve_var 4 (pv 4)) (vv_of (ve_c pe_int (.int _)))) (vv_of (ve_callSC k__law_take hr (by decide) tk (by rfl) (pv 0) (va_cons (ve_sub (ve_var 1 (pv 1)) (vv_of (ve_c pe_int (.int _)))) va_nil)))) (vv_var 1 (pv 1)))
          · refine vss_one ?_
            exact vs_append (pv 2) (ve_tup (va_cons (ve_min2 rfl (by rfl) m_min (ve_var 4 (pv 4)) (vv_var 5 (pv 5))) (va_cons (ve_max2 rfl (by rfl) m_max (ve_var 4 (pv 4)) (vv_var 5 (pv 5))) va_nil)))
      · refine vss_one ?_
        exact vs_ret (ve_tup (va_cons (ve_var 1 (pv 1)) (va_cons (ve_tuple (by rfl) m_tuple (vv_ofN (vn_setsort rfl hr (by rfl) m_sorted (by rfl) m_set (vv_var 2 (pv 2))))) va_nil)))
end
section
variable {P : Program} {w : World} {K : PySem.W.Frag} {mg : Str → Option Value} {base : Heap} {ct : Nat → Addr} {cw : Addr}
theorem k__law_whole (T : Tx K mg "_law_whole" s__law_whole P__law_whole) (m_bool : mg "bool" = none) (m_int : mg "int" = none) (m_isinstance : mg "isinstance" = none) : Cal P w K mg base "_law_whole" P__law_whole 1 (spD K ct 1 F__law_whole) := by
  show Cal P w K mg base "_law_whole" P__law_whole 1 (spD K ct 1 (fnD 1 b__law_whole))
  refine calDm (P := P) (w := w) (base := base) (ct := ct) (body := b__law_whole) (k := 0) T sc__law_whole rfl rfl (by decide) fun f cdv A outer s H E hr tk hp => ?_
  unfold b__law_whole
  refine vss_one ?_
  exact vs_ret (ve_and (ve_isi ty_int (by rfl) m_isinstance (vv_var 0 (pv 0)) (pe_bltn (by rfl) m_int PyProof.Rows.boot_int rfl)) (ve_one (ve_not (ve_isi ty_bool (by rfl) m_isinstance (vv_var 0 (pv 0)) (pe_bltn (by rfl) m_bool PyProof.Rows.boot_bool rfl)))))
end
section
variable {P : Program} {w : World} {K : PySem.W.Frag} {mg : Str → Option Value} {base : Heap} {ct : Nat → Addr} {cw : Addr}
theorem k__law_is_web (T : Tx K mg "_law_is_web" s__law_is_web P__law_is_web) (m_isinstance : mg "isinstance" = none) (m_len : mg "len" = none) (m_list : mg "list" = none) (m_set : mg "set" = none) (m_sorted : mg "sorted" = none) (m_tuple : mg "tuple" = none) (k__law_whole : Cal P w K mg base "_law_whole" P__law_whole 1 (spD K ct 1 F__law_whole)) : Cal P w K mg base "_law_is_web" P__law_is_web 2 (spD K ct 1 F__law_is_web) := by
  show Cal P w K mg base "_law_is_web" P__law_is_web 2 (spD K ct 1 (fnD 2 b__law_is_web))
  refine calDm (P := P) (w := w) (base := base) (ct := ct) (body := b__law_is_web) (k := 1) T sc__law_is_web rfl rfl (by decide) fun f cdv A outer s H E hr tk hp => ?_
  unfold b__law_is_web
  refine vss_cons ?_ ?_
  · refine vs_if ?_ ?_ ?_
    · exact (vt_w (vw_or (vt_not (vt_val (ve_isi ty_tuple (by rfl) m_isinstance (vv_var 0 (pv 0)) (pe_bltn (by rfl) m_tuple PyProof.Rows.boot_tuple rfl)))) (vw_or (vt_ne hr (ve_len (by rfl) m_len (vv_var 0 (pv 0))) (vv_of (ve_c pe_int (.int _)))) (vw_or (vt_not (vt_val (ve_callC k__law_whole hr (by decide) tk (by rfl) (va_cons (ve_ix (ve_var 0 (pv 0)) (vv_of (ve_c pe_int (.int _))) (fun _ _ => rfl)) va_nil)))) (vw_or1 (vt_not (vt_leLe hr (ve_c pe_int (.int _)) (ve_ix (ve_var 0 (pv 0)) (vv_of (ve_c pe_int (.int _))) (fun _ _ => rfl)) (vv_of (ve_c pe_int (.int _))))))))))
    · refine vss_one ?_
      exact vs_ret (ve_c pe_bl (.bl _))
    · exact vss_nil
  · refine vss_cons ?_ ?_
    · refine vs_if ?_ ?_ ?_
      · exact (vt_not (vt_val (ve_isi ty_tuple (by rfl) m_isinstance (vv_of (ve_ix (ve_var 0 (pv 0)) (vv_of (ve_c pe_int (.int _))) (fun _ _ => rfl))) (pe_bltn (by rfl) m_tuple PyProof.Rows.boot_tuple rfl))))
      · refine vss_one ?_
        exact vs_ret (ve_c pe_bl (.bl _))
      · exact vss_nil
    · refine vss_cons ?_ ?_
      · refine vs_for hp rfl tg_name (vi_seq (ve_ix (ve_var 0 (pv 0)) (vv_of (ve_c pe_int (.int _))) (fun _ _ => rfl))) (pg_name (i := 1) sc__law_is_web.nd rfl (Or.inl rfl)) ?_
        refine vss_cons ?_ ?_
        · refine vs_if ?_ ?_ ?_
          · exact (vt_w (vw_or (vt_not (vt_val (ve_isi ty_tuple (by rfl) m_isinstance (vv_var 1 (pv 1)) (pe_bltn (by rfl) m_tuple PyProof.Rows.boot_tuple rfl)))) (vw_or (vt_ne hr (ve_len (by rfl) m_len (vv_var 1 (pv 1))) (vv_of (ve_c pe_int (.int _)))) (vw_or (vt_not (vt_val (ve_callC k__law_whole hr (by decide) tk (by rfl) (va_cons (ve_ix (ve_var 1 (pv 1)) (vv_of (ve_c pe_int (.int _))) (fun _ _ => rfl)) va_nil)))) (vw_or1 (vt_not (vt_val (ve_callC k__law_whole hr (by decide) tk (by rfl) (va_cons (ve_ix (ve_var 1 (pv 1)) (vv_of (ve_c pe_int (.int _))) (fun _ _ => rfl)) va_nil)))))))))
          · refine vss_one ?_
            exact vs_ret (ve_c pe_bl (.bl _))
          · exact vss_nil
        · refine vss_one ?_
          refine vs_if ?_ ?_ ?_
          · exact (vt_not (vt_leLtLt hr (ve_c pe_int (.int _)) (ve_ix (ve_var 1 (pv 1)) (vv_of (ve_c pe_int (.int _))) (fun _ _ => rfl)) (ve_ix (ve_var 1 (pv 1)) (vv_of (ve_c pe_int (.int _))) (fun _ _ => rfl)) (vv_of (ve_ix (ve_var 0 (pv 0)) (vv_of (ve_c pe_int (.int _))) (fun _ _ => rfl)))))
          · refine vss_one ?_
            exact vs_ret (ve_c pe_bl (.bl _))
          · exact vss_nil
      · refine vss_one ?_
        exact vs_ret (ve_eq hr (ve_ofN (vn_list (by rfl) m_list (vv_of (ve_ix (ve_var 0 (pv 0)) (vv_of (ve_c pe_int (.int _))) (fun _ _ => rfl))))) (vv_ofN (vn_setsort rfl hr (by rfl) m_sorted (by rfl) m_set (vv_of (ve_ix (ve_var 0 (pv 0)) (vv_of (ve_c pe_int (.int _))) (fun _ _ => rfl))))))
end
section
variable {P : Program} {w : World} {K : PySem.W.Frag} {mg : Str → Option Value} {base : Heap} {ct : Nat → Addr} {cw : Addr}
theorem k__law_same (T : Tx K mg "_law_same" s__law_same P__law_same) (m_all : mg "all" = none) (m_bool : mg "bool" = none) (m_isinstance : mg "isinstance" = none) (m_len : mg "len" = none) (m_list : mg "list" = none) (m_tuple : mg "tuple" = none) (m_zip : mg "zip" = none) : ∀ n : Nat, Cal P w K mg base "_law_same" P__law_same (n + 0) (spD K ct 2 (F__law_same n))
  | 0 => cal_bad T spD_bad
  | n + 1 => by
    have k__law_same := k__law_same T m_all m_bool m_isinstance m_len m_list m_tuple m_zip n
    refine calDm (P := P) (w := w) (base := base) (ct := ct) (body := b__law_same (F__law_same n)) (k := n + 0) T sc__law_same rfl rfl (by decide) fun f cdv A outer s H E hr tk hp => ?_
    unfold b__law_same
    refine vss_cons ?_ ?_
    · refine vs_if ?_ ?_ ?_
      · exact (vt_val (ve_isi2 ty_tuple ty_list (by rfl) m_isinstance (vv_var 1 (pv 1)) (pe_bltn (by rfl) m_tuple PyProof.Rows.boot_tuple rfl) (pe_bltn (by rfl) m_list PyProof.Rows.boot_list rfl)))
      · refine vss_cons ?_ ?_
        · refine vs_if ?_ ?_ ?_
          · exact (vt_w (vw_or (vt_ne hr (ve_isi ty_tuple (by rfl) m_isinstance (vv_var 0 (pv 0)) (pe_bltn (by rfl) m_tuple PyProof.Rows.boot_tuple rfl)) (vv_of (ve_isi ty_tuple (by rfl) m_isinstance (vv_var 1 (pv 1)) (pe_bltn (by rfl) m_tuple PyProof.Rows.boot_tuple rfl)))) (vw_or1 (vt_ne hr (ve_isi ty_list (by rfl) m_isinstance (vv_var 0 (pv 0)) (pe_bltn (by rfl) m_list PyProof.Rows.boot_list rfl)) (vv_of (ve_isi ty_list (by rfl) m_isinstance (vv_var 1 (pv 1)) (pe_bltn (by rfl) m_list PyProof.Rows.boot_list rfl)))))))
          · refine vss_one ?_
            exact vs_ret (ve_c pe_bl (.bl _))
          · exact vss_nil
        · refine vss_cons ?_ ?_
          · refine vs_if ?_ ?_ ?_
            · exact (vt_ne hr (ve_len (by rfl) m_len (vv_var 0 (pv 0))) (vv_of (ve_len (by rfl) m_len (vv_var 1 (pv 1)))))
            · refine vss_one ?_
              exact vs_ret (ve_c pe_bl (.bl _))
            · exact vss_nil
          · refine vss_one ?_
            exact vs_ret (ve_all rfl (by rfl) m_all (vv_ofN (vn_lc (own := [("_law_one", 2), ("_law_other", 3)]) rfl sc__law_same.nd tg_two (vi_zip (by rfl) m_zip (ve_var 0 (pv 0)) (ve_var 1 (pv 1))) (blkOk_by (N := N__law_same) (sc := defScope s__law_same) (by decide +kernel)) (by decide) (fun _ _ _ _ _ => (pg_tup rfl (pgs_cons (pg_name (i := 2) sc__law_same.nd rfl (Or.inl rfl)) (pgs_cons (pg_name (i := 3) sc__law_same.nd rfl (Or.inl rfl)) pgs_nil)))) (fun _ _ _ _ _ => vts_nil) (fun _ _ _ _ _ => (ve_callC k__law_same hr (Nat.le_refl _) takesW0 (by rfl) (va_cons (ve_var 2 (pv 2)) (va_cons (ve_var 3 (pv 3)) va_nil)))))))
      · exact vss_nil
    · refine vss_one ?_
      exact vs_ret (ve_and (ve_eq hr (ve_var 0 (pv 0)) (vv_var 1 (pv 1))) (ve_one (ve_eq hr (ve_isi ty_bool (by rfl) m_isinstance (vv_var 0 (pv 0)) (pe_bltn (by rfl) m_bool PyProof.Rows.boot_bool rfl)) (vv_of (ve_isi ty_bool (by rfl) m_isinstance (vv_var 1 (pv 1)) (pe_bltn (by rfl) m_bool PyProof.Rows.boot_bool rfl))))))
end
section
theorem rf__law_refused {X : Cx} {ct : Nat → Addr} {cw : Addr} (hr : Room 1 X.A) (er : Errs X.K X.mg ct cw) (m_ValueError : X.mg "ValueError" = none) (m_isinstance : X.mg "isinstance" = none) (m_range : X.mg "range" = none) : Refuses X ct "_law_refused" "_law_call" s__law_refused N__law_refused m0__law_refused m1__law_refused := fun g cdv q =>
  ref_gives (N := N__law_refused) (ie := 4) (by decide) rfl rfl rfl (by decide) rfl rfl rfl rfl er.web er.M (fun _ _ => rfl) (fun s H => by
    have hr : Room 0 (Zr X N__law_refused "_law_refused" (defScope s__law_refused) g cdv s H).A := hr.deeper _
    unfold m0__law_refused
    refine vss_cons ?_ ?_
    · exact vs_setN (i := 2) sc__law_refused.nd rfl (Or.inr rfl) (vn_lst (va_cons (ve_isO0 (m := 0) er.M (by decide) (by rfl) m_isinstance (ve_var 1 (pv 1)) (pe_glob (v := .ref (ct 0)) (by rfl) (er.gl 0 (by decide)) rfl)) (va_cons (ve_isO0 (m := 1) er.M (by decide) (by rfl) m_isinstance (ve_var 1 (pv 1)) (pe_glob (v := .ref (ct 1)) (by rfl) (er.gl 1 (by decide)) rfl)) (va_cons (ve_isO0 (m := 2) er.M (by decide) (by rfl) m_isinstance (ve_var 1 (pv 1)) (pe_glob (v := .ref (ct 2)) (by rfl) (er.gl 2 (by decide)) rfl)) va_nil))))
    · refine vss_cons ?_ ?_
      · exact vs_setN (i := 2) sc__law_refused.nd rfl (Or.inr rfl) (vn_add (ve_var 2 (pv 2)) (vv_ofN (vn_lst (va_cons (ve_isO0 (m := 3) er.M (by decide) (by rfl) m_isinstance (ve_var 1 (pv 1)) (pe_glob (v := .ref (ct 3)) (by rfl) (er.gl 3 (by decide)) rfl)) (va_cons (ve_isO0 (m := 4) er.M (by decide) (by rfl) m_isinstance (ve_var 1 (pv 1)) (pe_glob (v := .ref (ct 4)) (by rfl) (er.gl 4 (by decide)) rfl)) (va_cons (ve_isO0 (m := 5) er.M (by decide) (by rfl) m_isinstance (ve_var 1 (pv 1)) (pe_glob (v := .ref (ct 5)) (by rfl) (er.gl 5 (by decide)) rfl)) va_nil))))))
      · refine vss_cons ?_ ?_
        · exact vs_setN (i := 2) sc__law_refused.nd rfl (Or.inr rfl) (vn_add (ve_var 2 (pv 2)) (vv_ofN (vn_lst (va_cons (ve_isO0 (m := 6) er.M (by decide) (by rfl) m_isinstance (ve_var 1 (pv 1)) (pe_glob (v := .ref (ct 6)) (by rfl) (er.gl 6 (by decide)) rfl)) (va_cons (ve_isO0 (m := 7) er.M (by decide) (by rfl) m_isinstance (ve_var 1 (pv 1)) (pe_glob (v := .ref (ct 7)) (by rfl) (er.gl 7 (by decide)) rfl)) (va_cons (ve_isO0 (m := 8) er.M (by decide) (by rfl) m_isinstance (ve_var 1 (pv 1)) (pe_glob (v := .ref (ct 8)) (by rfl) (er.gl 8 (by decide)) rfl)) va_nil))))))
        · refine vss_cons ?_ ?_
          · exact vs_setN (i := 2) sc__law_refused.nd rfl (Or.inr rfl) (vn_add (ve_var 2 (pv 2)) (vv_ofN (vn_lst (va_cons (ve_isO0 (m := 9) er.M (by decide) (by rfl) m_isinstance (ve_var 1 (pv 1)) (pe_glob (v := .ref (ct 9)) (by rfl) (er.gl 9 (by decide)) rfl)) (va_cons (ve_isO0 (m := 10) er.M (by decide) (by rfl) m_isinstance (ve_var 1 (pv 1)) (pe_glob (v := .ref (ct 10)) (by rfl) (er.gl 10 (by decide)) rfl)) (va_cons (ve_isO0 (m := 11) er.M (by decide) (by rfl) m_isinstance (ve_var 1 (pv 1)) (pe_glob (v := .ref (ct 11)) (by rfl) (er.gl 11 (by decide)) rfl)) va_nil))))))
          · refine vss_cons ?_ ?_
            · exact vs_append (pv 2) (ve_isO0 (m := 12) er.M (by decide) (by rfl) m_isinstance (ve_var 1 (pv 1)) (pe_glob (v := .ref (ct 12)) (by rfl) (er.gl 12 (by decide)) rfl))
            · refine vss_cons ?_ ?_
              · refine vs_if ?_ ?_ ?_
                · exact (vt_not (vt_val (ve_isV0 er.M (by rfl) m_isinstance (ve_var 1 (pv 1)) (pe_bltn (by rfl) m_ValueError boot_VE rfl))))
                · refine vss_one ?_
                  exact vs_ret (ve_c pe_non .non)
                · exact vss_nil
              · refine vss_cons ?_ ?_
                · exact vs_setLc (i := 3) sc__law_refused.nd rfl (PS_lc (own := [("_law_k", 5)]) rfl sc__law_refused.nd rfl rfl (sw_true rfl rfl rfl (by decide +kernel)) tg_name (vi_range1 (by rfl) m_range (ve_c pe_int (.int _))) (blkOk_by (N := N__law_refused) (sc := defScope s__law_refused) (by decide +kernel)) (by decide) (fun _ _ _ _ _ => (pg_name (i := 5) sc__law_refused.nd rfl (Or.inl rfl))) (fun _ _ _ _ _ => (vts_one (vt_val (ve_ixV (vv_var 2 (pv 2)) pure_vVar (vv_var 5 (pv 5)) (fun _ _ => rfl))))) (fun _ _ _ _ _ => (ve_var 5 (pv 5))))
                · refine vss_one ?_
                  exact vs_ret (ve_if (vt_eq hr (ve_var 3 (pv 3)) (vv_ofN (vn_lst (va_cons (ve_c pe_int (.int _)) va_nil)))) (ve_add (ve_var 3 (pv 3)) (vv_ofN (vn_lst (va_cons ve_bad (va_cons ve_bad va_nil))))) (ve_var 3 (pv 3)))
  ) (fun s H n hn a oe d hz hf => by
    have hr : Room 0 (Zr X N__law_refused "_law_refused" (defScope s__law_refused) g cdv s H).A := hr.deeper _
    unfold m1__law_refused
    refine vss_cons ?_ ?_
    · exact vs_setN (i := 2) sc__law_refused.nd rfl (Or.inr rfl) (vn_lst (va_cons (ve_isO1 (m := 0) er.M hn (by decide) hz hf (by rfl) m_isinstance (ve_var 1 (pv 1)) (pe_glob (v := .ref (ct 0)) (by rfl) (er.gl 0 (by decide)) rfl)) (va_cons (ve_isO1 (m := 1) er.M hn (by decide) hz hf (by rfl) m_isinstance (ve_var 1 (pv 1)) (pe_glob (v := .ref (ct 1)) (by rfl) (er.gl 1 (by decide)) rfl)) (va_cons (ve_isO1 (m := 2) er.M hn (by decide) hz hf (by rfl) m_isinstance (ve_var 1 (pv 1)) (pe_glob (v := .ref (ct 2)) (by rfl) (er.gl 2 (by decide)) rfl)) va_nil))))
    · refine vss_cons ?_ ?_
      · exact vs_setN (i := 2) sc__law_refused.nd rfl (Or.inr rfl) (vn_add (ve_var 2 (pv 2)) (vv_ofN (vn_lst (va_cons (ve_isO1 (m := 3) er.M hn (by decide) hz hf (by rfl) m_isinstance (ve_var 1 (pv 1)) (pe_glob (v := .ref (ct 3)) (by rfl) (er.gl 3 (by decide)) rfl)) (va_cons (ve_isO1 (m := 4) er.M hn (by decide) hz hf (by rfl) m_isinstance (ve_var 1 (pv 1)) (pe_glob (v := .ref (ct 4)) (by rfl) (er.gl 4 (by decide)) rfl)) (va_cons (ve_isO1 (m := 5) er.M hn (by decide) hz hf (by rfl) m_isinstance (ve_var 1 (pv 1)) (pe_glob (v := .ref (ct 5)) (by rfl) (er.gl 5 (by decide)) rfl)) va_nil))))))
      · refine vss_cons ?_ ?_
        · exact vs_setN (i := 2) sc__law_refused.nd rfl (Or.inr rfl) (vn_add (ve_var 2 (pv 2)) (vv_ofN (vn_lst (va_cons (ve_isO1 (m := 6) er.M hn (by decide) hz hf (by rfl) m_isinstance (ve_var 1 (pv 1)) (pe_glob (v := .ref (ct 6)) (by rfl) (er.gl 6 (by decide)) rfl)) (va_cons (ve_isO1 (m := 7) er.M hn (by decide) hz hf (by rfl) m_isinstance (ve_var 1 (pv 1)) (pe_glob (v := .ref (ct 7)) (by rfl) (er.gl 7 (by decide)) rfl)) (va_cons (ve_isO1 (m := 8) er.M hn (by decide) hz hf (by rfl) m_isinstance (ve_var 1 (pv 1)) (pe_glob (v := .ref (ct 8)) (by rfl) (er.gl 8 (by decide)) rfl)) va_nil))))))
        · refine vss_cons ?_ ?_
          · exact vs_setN (i := 2) sc__law_refused.nd rfl (Or.inr rfl) (vn_add (ve_var 2 (pv 2)) (vv_ofN (vn_lst (va_cons (ve_isO1 (m := 9) er.M hn (by decide) hz hf (by rfl) m_isinstance (ve_var 1 (pv 1)) (pe_glob (v := .ref (ct 9)) (by rfl) (er.gl 9 (by decide)) rfl)) (va_cons (ve_isO1 (m := 10) er.M hn (by decide) hz hf (by rfl) m_isinstance (ve_var 1 (pv 1)) (pe_glob (v := .ref (ct 10)) (by rfl) (er.gl 10 (by decide)) rfl)) (va_cons (ve_isO1 (m := 11) er.M hn (by decide) hz hf (by rfl) m_isinstance (ve_var 1 (pv 1)) (pe_glob (v := .ref (ct 11)) (by rfl) (er.gl 11 (by decide)) rfl)) va_nil))))))
          · refine vss_cons ?_ ?_
            · exact vs_append (pv 2) (ve_isO1 (m := 12) er.M hn (by decide) hz hf (by rfl) m_isinstance (ve_var 1 (pv 1)) (pe_glob (v := .ref (ct 12)) (by rfl) (er.gl 12 (by decide)) rfl))
            · refine vss_cons ?_ ?_
              · refine vs_if ?_ ?_ ?_
                · exact (vt_not (vt_val (ve_isV1 er.M hn hz hf (by rfl) m_isinstance (ve_var 1 (pv 1)) (pe_bltn (by rfl) m_ValueError boot_VE rfl))))
                · refine vss_one ?_
                  exact vs_ret (ve_c pe_non .non)
                · exact vss_nil
              · refine vss_cons ?_ ?_
                · exact vs_setLc (i := 3) sc__law_refused.nd rfl (PS_lc (own := [("_law_k", 5)]) rfl sc__law_refused.nd rfl rfl (sw_true rfl rfl rfl (by decide +kernel)) tg_name (vi_range1 (by rfl) m_range (ve_c pe_int (.int _))) (blkOk_by (N := N__law_refused) (sc := defScope s__law_refused) (by decide +kernel)) (by decide) (fun _ _ _ _ _ => (pg_name (i := 5) sc__law_refused.nd rfl (Or.inl rfl))) (fun _ _ _ _ _ => (vts_one (vt_val (ve_ixV (vv_var 2 (pv 2)) pure_vVar (vv_var 5 (pv 5)) (fun _ _ => rfl))))) (fun _ _ _ _ _ => (ve_var 5 (pv 5))))
                · refine vss_one ?_
                  exact vs_ret (ve_if (vt_eq hr (ve_var 3 (pv 3)) (vv_ofN (vn_lst (va_cons (ve_c pe_int (.int _)) va_nil)))) (ve_add (ve_var 3 (pv 3)) (vv_ofN (vn_lst (va_cons (ve_fld1 (er.T _ hn) (er.noM _ hn) hz hf (ve_var 1 (pv 1))) (va_cons (ve_fld1 (er.T _ hn) (er.noN _ hn) hz hf (ve_var 1 (pv 1))) va_nil))))) (ve_var 3 (pv 3)))
  )
end
section
variable {P : Program} {w : World} {K : PySem.W.Frag} {mg : Str → Option Value} {base : Heap} {ct : Nat → Addr} {cw : Addr}
theorem k__law_number (T : Tx K mg "_law_number" s__law_number P__law_number) (m_int : mg "int" = none) : Cal P w K mg base "_law_number" P__law_number 1 (spD K ct 1 F__law_number) := by
  show Cal P w K mg base "_law_number" P__law_number 1 (spD K ct 1 (fnD 1 b__law_number))
  refine calDm (P := P) (w := w) (base := base) (ct := ct) (body := b__law_number) (k := 0) T sc__law_number rfl rfl (by decide) fun f cdv A outer s H E hr tk hp => ?_
  unfold b__law_number
  refine vss_cons ?_ ?_
  · refine vs_if ?_ ?_ ?_
    · exact (vt_w (vw_or (vt_eq hr (ve_var 0 (pv 0)) (vv_of (ve_c pe_str (.str _)))) (vw_or (vt_ne hr (ve_stripC (ve_var 0 (pv 0)) (ve_c pe_str (.str _))) (vv_of (ve_c pe_str (.str _)))) (vw_or1 (vt_w (vw_and (vt_eq hr (ve_ix (ve_var 0 (pv 0)) (vv_of (ve_c pe_int (.int _))) (fun _ _ => rfl)) (vv_of (ve_c pe_str (.str _)))) (vw_and1 (vt_ne hr (ve_var 0 (pv 0)) (vv_of (ve_c pe_str (.str _)))))))))))
    · refine vss_one ?_
      exact vs_ret (ve_c pe_non .non)
    · exact vss_nil
  · refine vss_one ?_
    exact vs_ret (ve_intS (by rfl) m_int (vv_var 0 (pv 0)))
end
section
variable {P : Program} {w : World} {K : PySem.W.Frag} {mg : Str → Option Value} {base : Heap} {ct : Nat → Addr} {cw : Addr}
theorem k__law_web_in (T : Tx K mg "_law_web_in" s__law_web_in P__law_web_in) (m_len : mg "len" = none) (m_tuple : mg "tuple" = none) (k__law_is_web : Cal P w K mg base "_law_is_web" P__law_is_web 2 (spD K ct 1 F__law_is_web)) (k__law_number : Cal P w K mg base "_law_number" P__law_number 1 (spD K ct 1 F__law_number)) : Cal P w K mg base "_law_web_in" P__law_web_in 3 (spD K ct 1 F__law_web_in) := by
  show Cal P w K mg base "_law_web_in" P__law_web_in 3 (spD K ct 1 (fnD 7 b__law_web_in))
  refine calDm (P := P) (w := w) (base := base) (ct := ct) (body := b__law_web_in) (k := 2) T sc__law_web_in rfl rfl (by decide) fun f cdv A outer s H E hr tk hp => ?_
  unfold b__law_web_in
  refine vss_cons ?_ ?_
  · exact vs_set (i := 1) sc__law_web_in.nd rfl (Or.inl rfl) (ve_ofN (vn_split (ve_var 0 (pv 0)) (ve_c pe_str (.str _))))
  · refine vss_cons ?_ ?_
    · refine vs_if ?_ ?_ ?_
      · exact (vt_w (vw_or (vt_ne hr (ve_sl (ve_ix (ve_var 1 (pv 1)) (vv_of (ve_c pe_int (.int _))) (fun _ _ => rfl)) (vo_some (ve_neg (ve_c pe_int (.int _)))) vo_none) (vv_of (ve_c pe_str (.str _)))) (vw_or1 (vt_isN (ve_callC k__law_number hr (by decide) tk (by rfl) (va_cons (ve_sl (ve_ix (ve_var 1 (pv 1)) (vv_of (ve_c pe_int (.int _))) (fun _ _ => rfl)) vo_none (vo_some (ve_neg (ve_c pe_int (.int _))))) va_nil)) (vv_of (ve_c pe_non .non))))))
      · refine vss_one ?_
        exact vs_ret (ve_c pe_non .non)
      · exact vss_nil
    · refine vss_cons ?_ ?_
      · exact vs_setN (i := 2) sc__law_web_in.nd rfl (Or.inl rfl) (vn_lst va_nil)
      · refine vss_cons ?_ ?_
        · refine vs_for hp rfl tg_name (vi_seq (ve_sl (ve_var 1 (pv 1)) (vo_some (ve_c pe_int (.int _))) vo_none)) (pg_name (i := 3) sc__law_web_in.nd rfl (Or.inl rfl)) ?_
          refine vss_cons ?_ ?_
          · exact vs_setLc (i := 5) sc__law_web_in.nd rfl (PS_lc (own := [("_law_part", 6)]) rfl sc__law_web_in.nd rfl rfl (sw_true rfl rfl rfl (by decide +kernel)) tg_name (vi_seq (ve_ofN (vn_split (ve_var 3 (pv 3)) (ve_c pe_str (.str _))))) (blkOk_by (N := N__law_web_in) (sc := defScope s__law_web_in) (by decide +kernel)) (by decide) (fun _ _ _ _ _ => (pg_name (i := 6) sc__law_web_in.nd rfl (Or.inl rfl))) (fun _ _ _ _ _ => vts_nil) (fun _ _ _ _ _ => (ve_callC k__law_number hr (by decide) takesW0 (by rfl) (va_cons (ve_var 6 (pv 6)) va_nil))))
          · refine vss_cons ?_ ?_
            · refine vs_if ?_ ?_ ?_
              · exact (vt_w (vw_or (vt_ne hr (ve_len (by rfl) m_len (vv_var 5 (pv 5))) (vv_of (ve_c pe_int (.int _)))) (vw_or1 (vt_in hr (ve_c pe_non .non) (vv_var 5 (pv 5))))))
              · refine vss_one ?_
                exact vs_ret (ve_c pe_non .non)
              · exact vss_nil
            · refine vss_one ?_
              exact vs_append (pv 2) (ve_tup (va_cons (ve_ix (ve_var 5 (pv 5)) (vv_of (ve_c pe_int (.int _))) (fun _ _ => rfl)) (va_cons (ve_ix (ve_var 5 (pv 5)) (vv_of (ve_c pe_int (.int _))) (fun _ _ => rfl)) va_nil)))
        · refine vss_cons ?_ ?_
          · exact vs_set (i := 4) sc__law_web_in.nd rfl (Or.inl rfl) (ve_tup (va_cons (ve_callC k__law_number hr (by decide) tk (by rfl) (va_cons (ve_sl (ve_ix (ve_var 1 (pv 1)) (vv_of (ve_c pe_int (.int _))) (fun _ _ => rfl)) vo_none (vo_some (ve_neg (ve_c pe_int (.int _))))) va_nil)) (va_cons (ve_tuple (by rfl) m_tuple (vv_var 2 (pv 2))) va_nil)))
          · refine vss_one ?_
            exact vs_ret (ve_if (vt_val (ve_callC k__law_is_web hr (by decide) tk (by rfl) (va_cons (ve_var 4 (pv 4)) va_nil))) (ve_var 4 (pv 4)) (ve_c pe_non .non))
end
section
variable {P : Program} {w : World} {K : PySem.W.Frag} {mg : Str → Option Value} {base : Heap} {ct : Nat → Addr} {cw : Addr}
theorem k__law_bent (T : Tx K mg "_law_bent" s__law_bent P__law_bent) (m_len : mg "len" = none) (k__law_take : Cal P w K mg base "_law_take" P__law_take 1 (spS K 1 F__law_take)) : Cal P w K mg base "_law_bent" P__law_bent 2 (spS K 1 F__law_bent_7) := by
  show Cal P w K mg base "_law_bent" P__law_bent 2 (spS K 1 (fnS 13 b__law_bent_7))
  refine calSm (P := P) (w := w) (base := base) (ct := fun _ => 0) (body := b__law_bent_7) (k := 1) T sc__law_bent rfl rfl (by decide) fun f cdv A outer s H E hr tk hp => ?_
  unfold b__law_bent_7
  refine vss_cons ?_ ?_
  · exact vs_set (i := 2) sc__law_bent.nd rfl (Or.inl rfl) (ve_callSC k__law_take hr (by decide) tk (by rfl) (pv 0) (va_cons (ve_add (ve_len (by rfl) m_len (vv_var 1 (pv 1))) (vv_of (ve_c pe_int (.int _)))) va_nil))
  · refine vss_cons ?_ ?_
    · exact vs_set (i := 3) sc__law_bent.nd rfl (Or.inl rfl) (ve_c pe_str (.str _))
    · refine vss_cons ?_ ?_
      · exact vs_set (i := 4) sc__law_bent.nd rfl (Or.inl rfl) (ve_ix (ve_ofN (vn_lst (va_cons (ve_ix (ve_var 3 (pv 3)) (vv_of (ve_callSC k__law_take hr (by decide) tk (by rfl) (pv 0) (va_cons (ve_c pe_int (.int _)) va_nil))) (fun _ _ => rfl)) (va_cons (ve_ix (ve_c pe_str (.str _)) (vv_of (ve_callSC k__law_take hr (by decide) tk (by rfl) (pv 0) (va_cons (ve_c pe_int (.int _)) va_nil))) (fun _ _ => rfl)) va_nil)))) (vv_of (ve_callSC k__law_take hr (by decide) tk (by rfl) (pv 0) (va_cons (ve_c pe_int (.int _)) va_nil))) (fun _ _ => rfl))
      · refine vss_cons ?_ ?_
        · exact vs_par (i := 5) (j := 6) rfl sc__law_bent.nd rfl rfl (by decide) rfl rfl (va_cons (ve_sl (ve_var 1 (pv 1)) vo_none (vo_some (ve_var 2 (pv 2)))) (va_cons (ve_sl (ve_var 1 (pv 1)) (vo_some (ve_var 2 (pv 2))) vo_none) va_nil)) (by rfl)
        · refine vss_cons ?_ ?_
          · exact vs_set (i := 7) sc__law_bent.nd rfl (Or.inl rfl) (ve_ofN (vn_split (ve_var 1 (pv 1)) (ve_c pe_str (.str _))))
          · refine vss_cons ?_ ?_
            · exact vs_par (i := 8) (j := 9) rfl sc__law_bent.nd rfl rfl (by decide) rfl rfl (va_cons (ve_callSC k__law_take hr (by decide) tk (by rfl) (pv 0) (va_cons (ve_len (by rfl) m_len (vv_var 7 (pv 7))) va_nil)) (va_cons (ve_callSC k__law_take hr (by decide) tk (by rfl) (pv 0) (va_cons (ve_len (by rfl) m_len (vv_var 7 (pv 7))) va_nil)) va_nil)) (by rfl)
            · refine vss_cons ?_ ?_
              · exact vs_set (i := 10) sc__law_bent.nd rfl (Or.inl rfl) (ve_ix (ve_var 7 (pv 7)) (vv_var 8 (pv 8)) (fun _ _ => rfl))
              · refine vss_cons ?_ ?_
                · exact vs_set (i := 11) sc__law_bent.nd rfl (Or.inl rfl) (ve_ofN (vn_lst (va_cons (ve_add (ve_var 5 (pv 5)) (vv_of (ve_sl (ve_var 6 (pv 6)) (vo_some (ve_c pe_int (.int _))) vo_none))) (va_cons (ve_add (ve_add (ve_var 5 (pv 5)) (vv_var 4 (pv 4))) (vv_var 6 (pv 6))) (va_cons (ve_add (ve_add (ve_var 5 (pv 5)) (vv_var 4 (pv 4))) (vv_of (ve_sl (ve_var 6 (pv 6)) (vo_some (ve_c pe_int (.int _))) vo_none))) (va_cons (ve_add (ve_add (ve_add (ve_var 5 (pv 5)) (vv_of (ve_sl (ve_var 6 (pv 6)) (vo_some (ve_c pe_int (.int _))) (vo_some (ve_c pe_int (.int _)))))) (vv_of (ve_sl (ve_var 6 (pv 6)) vo_none (vo_some (ve_c pe_int (.int _)))))) (vv_of (ve_sl (ve_var 6 (pv 6)) (vo_some (ve_c pe_int (.int _))) vo_none))) va_nil))))))
                · refine vss_cons ?_ ?_
                  · exact vs_set (i := 11) sc__law_bent.nd rfl (Or.inl rfl) (ve_add (ve_var 11 (pv 11)) (vv_ofN (vn_lst (va_cons (ve_join (ve_c pe_str (.str _)) (ve_add (ve_sl (ve_var 7 (pv 7)) vo_none (vo_some (ve_var 8 (pv 8)))) (vv_of (ve_sl (ve_var 7 (pv 7)) (vo_some (ve_add (ve_var 8 (pv 8)) (vv_of (ve_c pe_int (.int _))))) vo_none)))) (va_cons (ve_join (ve_c pe_str (.str _)) (ve_add (ve_add (ve_sl (ve_var 7 (pv 7)) vo_none (vo_some (ve_var 8 (pv 8)))) (vv_ofN (vn_lst (va_cons (ve_var 10 (pv 10)) va_nil)))) (vv_of (ve_sl (ve_var 7 (pv 7)) (vo_some (ve_var 8 (pv 8))) vo_none)))) va_nil)))))
                  · refine vss_cons ?_ ?_
                    · exact vs_set (i := 12) sc__law_bent.nd rfl (Or.inl rfl) (ve_add (ve_sl (ve_var 7 (pv 7)) vo_none (vo_some (ve_var 8 (pv 8)))) (vv_of (ve_sl (ve_var 7 (pv 7)) (vo_some (ve_add (ve_var 8 (pv 8)) (vv_of (ve_c pe_int (.int _))))) vo_none)))
                    · refine vss_cons ?_ ?_
                      · exact vs_set (i := 11) sc__law_bent.nd rfl (Or.inl rfl) (ve_add (ve_var 11 (pv 11)) (vv_ofN (vn_lst (va_cons (ve_join (ve_c pe_str (.str _)) (ve_add (ve_add (ve_sl (ve_var 12 (pv 12)) vo_none (vo_some (ve_var 9 (pv 9)))) (vv_ofN (vn_lst (va_cons (ve_var 10 (pv 10)) va_nil)))) (vv_of (ve_sl (ve_var 12 (pv 12)) (vo_some (ve_var 9 (pv 9))) vo_none)))) (va_cons (ve_var 1 (pv 1)) (va_cons (ve_add (ve_c pe_str (.str _)) (vv_var 1 (pv 1))) (va_cons (ve_add (ve_var 1 (pv 1)) (vv_of (ve_c pe_str (.str _)))) va_nil)))))))
                      · refine vss_one ?_
                        exact vs_ret (ve_ix (ve_var 11 (pv 11)) (vv_of (ve_callSC k__law_take hr (by decide) tk (by rfl) (pv 0) (va_cons (ve_c pe_int (.int _)) va_nil))) (fun _ _ => rfl))
end
section
variable {P : Program} {w : World} {K : PySem.W.Frag} {mg : Str → Option Value} {base : Heap} {ct : Nat → Addr} {cw : Addr}
def b_law : MS := (mSeq (mFor [1] fName (mRange1 (mOp2 gMax2 (mC (.int 1)) (mOp2 gMin2 (mOp1 gLen (vVar 0)) (mC (.int 8))))) (mSeq (mSetN 2 (mCallN 2 F__law_state (mCons (mVar 0) (mCons (mVar 1) mNil)))) (mSeq (mSet 3 (mOp2 gIx (mOfN (mLst (mCons (mCallS 1 2 F__law_web (mCons (mC (.int 7)) mNil)) (mCons (mCallS 0 2 F__law_great_web mNil) mNil)))) (mCallS 1 2 F__law_take (mCons (mC (.int 2)) mNil)))) (mSeq (mSet 4 (mJoin (mC (.str " ")) (mOp2 gAdd (mOfN (mLst (mCons (mOp2 gAdd (mOp1 gStr (mOp2 gIx (mVar 3) (mC (.int 0)))) (mC (.str ":"))) mNil))) (mOfN (mComp [8, 9] [8, 9] (fTup 2) (mSeq1 (mOp2 gIx (mVar 3) (mC (.int 1)))) mYes (mOp2 gAdd (mOp2 gAdd (mOp1 gStr (vVar 8)) (mC (.str "-"))) (mOp1 gStr (vVar 9)))))))) (mSeq (mFor [5] fName (mRange1 (mC (.int 4))) (mSeq (mSet 7 (mCall 1 F__law_web_in (mCons (mVar 4) mNil))) (mSeq (mIfS (mTest (mOp2 gIsN (mVar 7) (mC .none))) (mIfS (mTest (mOp2 gNe (mRefused (mCall 1 F_read_web (mCons (mVar 4) mNil))) (mOfN (mLst (mCons (mC (.int 9)) mNil))))) (mRet (mC (.bool false))) mNx) (mIfS (mNot (mTest (mCall 2 (F__law_same 12) (mCons (mCall 1 F_read_web (mCons (mVar 4) mNil)) (mCons (mVar 7) mNil))))) (mRet (mC (.bool false))) mNx)) (mSet 4 (mCallS 1 2 F__law_bent_7 (mCons (mVar 4) mNil)))))) (mSeq (mSet 6 (mOp2 gIx (mOfN (mLst (mCons (mC .none) (mCons (mC (.int 7)) (mCons (mTup (mCons (mC (.str "0:")) mNil)) (mCons (mOfN (mLst (mCons (mC (.str "0:")) mNil))) (mCons (mC (.bool true)) (mCons mDct (mCons (mTup (mCons (mC (.int 0)) (mCons (mTup mNil) mNil))) mNil))))))))) (mCallS 1 2 F__law_take (mCons (mC (.int 7)) mNil)))) (mIfS (mTest (mOp2 gNe (mRefused (mCall 1 F_read_web (mCons (mVar 6) mNil))) (mOfN (mLst (mCons (mC (.int 9)) mNil))))) (mRet (mC (.bool false))) mNx))))))) (mRet (mC (.bool true))))
def F_law : List D → R D := fnD 10 b_law
theorem kb_law {cL : Addr} (mkr : MakerAt K mg base cL "law.<locals>.<lambda>") (m_len : mg "len" = none) (m_max : mg "max" = none) (m_min : mg "min" = none) (m_range : mg "range" = none) (m_str : mg "str" = none) (k_read_web : Cal P w K mg base "read_web" P_read_web 5 (spD K ct 1 F_read_web)) (k__law_take : Cal P w K mg base "_law_take" P__law_take 1 (spS K 1 F__law_take)) (k__law_bent : Cal P w K mg base "_law_bent" P__law_bent 2 (spS K 1 F__law_bent_7)) (k__law_same : Cal P w K mg base "_law_same" P__law_same 12 (spD K ct 2 (F__law_same 12))) (k__law_web_in : Cal P w K mg base "_law_web_in" P__law_web_in 3 (spD K ct 1 F__law_web_in)) (k__law_great_web : Cal P w K mg base "_law_great_web" P__law_great_web 2 (spS K 0 F__law_great_web)) (k__law_web : Cal P w K mg base "_law_web" P__law_web 3 (spS K 1 F__law_web)) (k__law_state : Cal P w K mg base "_law_state" P__law_state 2 (spN K ct 2 F__law_state)) (er : Errs K mg ct cw) (t__law_refused : Tx K mg "_law_refused" s__law_refused P__law_refused) (m_ValueError : mg "ValueError" = none) (m_isinstance : mg "isinstance" = none) : BodyAt P w K mg base ct N_law "law" s_law (.ref cL) 16 b_law := by
  intro f A outer s H E hr tk hp
  have mk : Maker (Bx P w K mg base N_law "law" s_law f (.ref cL) A outer s H E) := mkr.mk' rfl rfl
  refine vss_cons ?_ ?_
  · refine vs_for hp rfl tg_name (vi_range1 (by rfl) m_range (ve_max2 rfl (by rfl) m_max (ve_c pe_int (.int _)) (vv_of (ve_min2 rfl (by rfl) m_min (ve_len (by rfl) m_len (vv_var 0 (pv 0))) (vv_of (ve_c pe_int (.int _))))))) (pg_name (i := 1) sc_law.nd rfl (Or.inl rfl)) ?_
    refine vss_cons ?_ ?_
    · exact vs_setN (i := 2) sc_law.nd rfl (Or.inl rfl) (vn_callC k__law_state hr (by decide) tk (by rfl) (va_cons (ve_var 0 (pv 0)) (va_cons (ve_var 1 (pv 1)) va_nil)))
    · refine vss_cons ?_ ?_
      · exact vs_set (i := 3) sc_law.nd rfl (Or.inl rfl) (ve_ix (ve_ofN (vn_lst (va_cons (ve_callSC k__law_web hr (by decide) tk (by rfl) (pv 2) (va_cons (ve_c pe_int (.int _)) va_nil)) (va_cons (ve_callSC k__law_great_web hr (by decide) tk (by rfl) (pv 2) va_nil) va_nil)))) (vv_of (ve_callSC k__law_take hr (by decide) tk (by rfl) (pv 2) (va_cons (ve_c pe_int (.int _)) va_nil))) (fun _ _ => rfl))
      · refine vss_cons ?_ ?_
        · exact vs_set (i := 4) sc_law.nd rfl (Or.inr rfl) (ve_join (ve_c pe_str (.str _)) (ve_add (ve_ofN (vn_lst (va_cons (ve_add (ve_str (by rfl) m_str (vv_of (ve_ix (ve_var 3 (pv 3)) (vv_of (ve_c pe_int (.int _))) (fun _ _ => rfl)))) (vv_of (ve_c pe_str (.str _)))) va_nil))) (vv_ofN (vn_lc (own := [("_law_a", 8), ("_law_b", 9)]) rfl sc_law.nd tg_two (vi_seq (ve_ix (ve_var 3 (pv 3)) (vv_of (ve_c pe_int (.int _))) (fun _ _ => rfl))) (blkOk_by (N := N_law) (sc := defScope s_law) (by decide +kernel)) (by decide) (fun _ _ _ _ _ => (pg_tup rfl (pgs_cons (pg_name (i := 8) sc_law.nd rfl (Or.inl rfl)) (pgs_cons (pg_name (i := 9) sc_law.nd rfl (Or.inl rfl)) pgs_nil)))) (fun _ _ _ _ _ => vts_nil) (fun _ _ _ _ _ => (ve_add (ve_add (ve_str (by rfl) m_str (vv_var 8 (pv 8))) (vv_of (ve_c pe_str (.str _)))) (vv_of (ve_str (by rfl) m_str (vv_var 9 (pv 9))))))))))
        · refine vss_cons ?_ ?_
          · refine vs_for hp rfl tg_name (vi_range1 (by rfl) m_range (ve_c pe_int (.int _))) (pg_name (i := 5) sc_law.nd rfl (Or.inl rfl)) ?_
            refine vss_cons ?_ ?_
            · exact vs_set (i := 7) sc_law.nd rfl (Or.inl rfl) (ve_callC k__law_web_in hr (by decide) tk (by rfl) (va_cons (ve_var 4 (pv 4)) va_nil))
            · refine vss_cons ?_ ?_
              · refine vs_if ?_ ?_ ?_
                · exact (vt_isN (ve_var 7 (pv 7)) (vv_of (ve_c pe_non .non)))
                · refine vss_one ?_
                  refine vs_if ?_ ?_ ?_
                  · exact (vt_ne hr (ve_refused (k := 14) mk t__law_refused sc__law_refused rfl (Or.inl rfl) (rf__law_refused (hr.mono (by decide)) er m_ValueError m_isinstance m_range) tells__law_refused (by rfl) hr (LamX.lamS_by (sc := defScope s_law) (by decide +kernel)) (fun _ _ _ _ _ _ _ hr tk => (ve_callC k_read_web hr (by decide) tk (by rfl) (va_cons (ve_var 4 (pv 4)) va_nil)))) (vv_ofN (vn_lst (va_cons (ve_c pe_int (.int _)) va_nil))))
                  · refine vss_one ?_
                    exact vs_ret (ve_c pe_bl (.bl _))
                  · exact vss_nil
                · refine vss_one ?_
                  refine vs_if ?_ ?_ ?_
                  · exact (vt_not (vt_val (ve_callC k__law_same hr (by decide) tk (by rfl) (va_cons (ve_callC k_read_web hr (by decide) tk (by rfl) (va_cons (ve_var 4 (pv 4)) va_nil)) (va_cons (ve_var 7 (pv 7)) va_nil)))))
                  · refine vss_one ?_
                    exact vs_ret (ve_c pe_bl (.bl _))
                  · exact vss_nil
              · refine vss_one ?_
                exact vs_set (i := 4) sc_law.nd rfl (Or.inr rfl) (ve_callSC k__law_bent hr (by decide) tk (by rfl) (pv 2) (va_cons (ve_var 4 (pv 4)) va_nil))
          · refine vss_cons ?_ ?_
            · exact vs_set (i := 6) sc_law.nd rfl (Or.inr rfl) (ve_ix (ve_ofN (vn_lst (va_cons (ve_c pe_non .non) (va_cons (ve_c pe_int (.int _)) (va_cons (ve_tup (va_cons (ve_c pe_str (.str _)) va_nil)) (va_cons (ve_ofN (vn_lst (va_cons (ve_c pe_str (.str _)) va_nil))) (va_cons (ve_c pe_bl (.bl _)) (va_cons ve_dct (va_cons (ve_tup (va_cons (ve_c pe_int (.int _)) (va_cons (ve_tup va_nil) va_nil))) va_nil))))))))) (vv_of (ve_callSC k__law_take hr (by decide) tk (by rfl) (pv 2) (va_cons (ve_c pe_int (.int _)) va_nil))) (fun _ _ => rfl))
            · refine vss_one ?_
              refine vs_if ?_ ?_ ?_
              · exact (vt_ne hr (ve_refused (k := 14) mk t__law_refused sc__law_refused rfl (Or.inl rfl) (rf__law_refused (hr.mono (by decide)) er m_ValueError m_isinstance m_range) tells__law_refused (by rfl) hr (LamX.lamS_by (sc := defScope s_law) (by decide +kernel)) (fun _ _ _ _ _ _ _ hr tk => (ve_callC k_read_web hr (by decide) tk (by rfl) (va_cons (ve_var 6 (pv 6)) va_nil)))) (vv_ofN (vn_lst (va_cons (ve_c pe_int (.int _)) va_nil))))
              · refine vss_one ?_
                exact vs_ret (ve_c pe_bl (.bl _))
              · exact vss_nil
  · refine vss_one ?_
    exact vs_ret (ve_c pe_bl (.bl _))
end
end K91
set_option Elab.async false
set_option linter.all false
set_option maxRecDepth 100000
namespace Td
open PySem PySem.Spec PyProof.Rows L2 TW
theorem cell_at_ev (ns : List Int) {k : Int} (hk : 0 ≤ k) : Ev (F__law_cell_at [scrD ns, .int k]) fun d => ∃ c, d = .int c := by
  unfold F__law_cell_at
  rw [ev_fnD]
  simp only [b__law_cell_at, unfill, rn_mSeq, rn_mIfS, rn_mTest, rn_mOp2, rn_mVar, rn_mOp1, rn_vVar, rn_mRet, rn_mC, rn_mNx]
  simp
  intro h
  have e : k = ((k.toNat : Nat) : Int) := by omega
  rw [e, gIx_scr (by omega)]
  simp
def St (ss : List D) : Prop := ∃ i b, ss = [.int i, .bool b] ∧ 0 ≤ i ∧ (b = false → i < 2147483647)
theorem state_ev (ns : List Int) {k : Int} (hk : 0 ≤ k) : Ev (F__law_state [scrD ns, .int k]) St := by
  unfold F__law_state
  rw [ev_fnN]
  simp only [b__law_state, unfill]
  simp
  refine (cell_at_ev ns hk).mono ?_
  rintro d ⟨c, rfl⟩
  simp [gPow_int]
  split
  · exact ⟨_, true, rfl, by omega, by simp⟩
  · rw [gMod_int (by omega)]
    simp
    exact ⟨_, false, rfl, by omega, by omega⟩
theorem take_ev {ss : List D} {m : Int} (hs : St ss) (h0 : 0 < m) (h1 : m < 1073741824) : Ev (F__law_take ss [.int m]) fun p => ∃ r, p.1 = .int r ∧ 0 ≤ r ∧ r < m ∧ St p.2 := by
  obtain ⟨i, b, rfl, hi, hb⟩ := hs
  unfold F__law_take
  rw [ev_fnS]
  simp only [b__law_take, unfill]
  cases b with
  | true =>
    simp [gMod_int h0, gDiv_int ⟨h0, h1⟩, isOwn, gPut]
    exact ⟨Int.emod_nonneg _ (by omega), Int.emod_lt_of_pos _ h0, _, true, rfl, Int.ediv_nonneg hi (by omega), by simp⟩
  | false =>
    have hb := hb rfl
    have q1 : (0 : Int) ≤ (i * 48271 + 29) % 2147483647 := Int.emod_nonneg _ (by omega)
    have q2 : (i * 48271 + 29) % 2147483647 < (2147483647 : Int) := Int.emod_lt_of_pos _ (by omega)
    generalize hj : (i * 48271 + 29) % 2147483647 = j at q1 q2
    simp [gMul_int, gMod_int, h0, gDiv_int, isOwn, gPut, hj, q1]
    rw [gMul_int (by omega)]
    simp only [ev_ok, gAdd_int]
    rw [gMod_int (by omega)]
    simp only [ev_ok]
    have p1 : (0 : Int) ≤ (j * j + 39373 * j + 7) % 2147483629 := Int.emod_nonneg _ (by omega)
    have p2 : (j * j + 39373 * j + 7) % 2147483629 < (2147483629 : Int) := Int.emod_lt_of_pos _ (by omega)
    generalize (j * j + 39373 * j + 7) % 2147483629 = k at p1 p2
    rw [gMul_int (by omega)]
    simp only [ev_ok]
    rw [gMul_int (by omega)]
    simp only [ev_ok, gAdd_int]
    rw [gMod_int (by omega)]
    simp only [ev_ok]
    rw [gDiv_int (by omega)]
    simp only [ev_ok]
    rw [gMod_int h0]
    simp only [ev_ok]
    exact ⟨_, rfl, Int.emod_nonneg _ (by omega), Int.emod_lt_of_pos _ h0, _, false, rfl, q1, fun _ => q2⟩
end Td
set_option Elab.async false
set_option linter.all false
set_option maxRecDepth 100000
namespace Td
open PySem PySem.Spec PyProof.Rows L2 TW
def pairsI (n : Int) (xs : List D) (c : List C) : Prop := ∃ (as : List Int) (acc : List (Int × Int)) (s2 : C), xs = as.map .int ∧ c = [.dat (.int n), .own false (acc.map tieD), s2, .un] ∧ acc ++ (as.flatMap fun a => (rgI (a + 1) n).map fun b => (a, b)) = pairsL n ∧ ∀ a ∈ as, 0 ≤ a ∧ a < n
theorem pairs_eq {n : Int} (h : 0 ≤ n ∧ n ≤ 14) : F__law_pairs [.int n] = .ok ((pairsL n).map tieD) := by
  apply Ev.eq
  unfold F__law_pairs
  rw [ev_fnN]
  simp [b__law_pairs, unfill, rn_mFor, gRg_int (rgOk_small (i := 0) (j := n) (by omega) (by omega))]
  refine for_rule (I := pairsI n) ?_ ?_ ?_
  · exact ⟨rgI 0 n, [], .un, rgD_eq 0 n, rfl, rfl, fun a ha => rgI_mem.mp ha⟩
  · rintro c ⟨as, acc, s2, e1, rfl, e3, _⟩
    have : as = [] := by simpa using e1.symm
    subst this
    simp at e3
    simp [e3]
  · rintro x xs c ⟨as, acc, s2, e1, rfl, e3, hb⟩
    cases as with
    | nil => simp at e1
    | cons a as =>
      simp at e1
      obtain ⟨rfl, rfl⟩ := e1
      have ha := hb a List.mem_cons_self
      simp [setC, isOwn, rn_mComp, wipeC, gRg_int (rgOk_small (i := a + 1) (j := n) (by omega) (by omega)), rgD_eq]
      refine comp_map (g := fun d => .tuple [.int a, d]) (fun x hx => ?_) ?_
      · simp [setC, wipeC]
      · have hl : (acc ++ (rgI (a + 1) n).map fun b => (a, b)).length ≤ 91 := by
          have := congrArg List.length e3
          have l := pairsL_len h.2
          simp [List.flatMap_cons] at this ⊢
          omega
        simp
        simp at hl
        refine ⟨by omega, as, acc ++ (rgI (a + 1) n).map fun b => (a, b), .dat (.int a), rfl, ?_, by rw [← e3, List.flatMap_cons, List.append_assoc], fun b hb' => hb b (List.mem_cons_of_mem _ hb')⟩
        simp [tieD]
def rowI (ks : List Int) (n : Nat) (c : List C) : Prop := ∃ (ss : List D) (l f : List Int) (s1 : C), c = [.own true ss, s1, .own false (l.map .int), .own false (f.map .int)] ∧ St ss ∧ (f ++ l).Perm ks ∧ l.length = n
theorem shaped_ints : ∀ ks : List Int, SeqAt.shaped (.list (ks.map .int)) = true := fun ks => by
  have h1 : ∀ ks : List Int, PyData.canLayAll0 (ks.map .int) = true := fun ks => by
    induction ks with
    | nil => simp [PyData.canLayAll0]
    | cons k ks ih => simp [PyData.canLayAll0, PyData.canLay0, ih]
  have h2 := depth_ints ks
  simp [tupD, PyData.depth] at h2
  simp [SeqAt.shaped, PyData.canLay0, h1, PyData.depth]
  omega
theorem map_erase {α β : Type} (g : α → β) : ∀ (l : List α) (i : Nat), (l.map g).eraseIdx i = (l.eraseIdx i).map g
  | [], _ => by simp
  | x :: l, 0 => by simp
  | x :: l, i + 1 => by simp [map_erase g l i]
theorem erase_perm {α : Type} : ∀ {l : List α} {i : Nat} (h : i < l.length), ([l[i]] ++ l.eraseIdx i).Perm l
  | x :: l, 0, _ => by simp
  | x :: l, i + 1, h => by
    have := erase_perm (l := l) (i := i) (by simp at h; omega)
    simp only [List.getElem_cons_succ, List.eraseIdx_cons_succ, List.singleton_append] at this ⊢
    exact (List.Perm.swap _ _ _).trans (this.cons x)
theorem mixed_ev {ss : List D} {ks : List Int} (hs : St ss) (hk : ks.length ≤ 1000) : Ev (F__law_mixed_row ss [.list (ks.map .int)]) fun p => ∃ ls : List Int, p.1 = .list (ls.map .int) ∧ ls.Perm ks ∧ St p.2 := by
  unfold F__law_mixed_row
  rw [ev_fnS]
  simp [b__law_mixed_row, unfill]
  refine while_rule (I := rowI ks) ks.length ⟨ss, ks, [], _, rfl, hs, List.Perm.refl _, rfl⟩ (by omega) ?_
  rintro k c ⟨ss, l, f, s1, rfl, hs, pm, hl⟩
  cases l with
  | nil =>
    have h0 := shaped_ints []
    simp at h0
    simp [gNe, h0, PyData.eqv, PyData.eqvAll]
    exact ⟨f, rfl, by simpa using pm, hs⟩
  | cons x l =>
    have := shaped_ints (x :: l)
    have h0 := shaped_ints []
    simp [gNe, this, PyData.eqv, PyData.eqvAll, isOwn]
    simp at this h0
    simp [this, h0]
    have len := pm.length_eq
    simp at len
    refine ⟨by simp at hl; omega, (take_ev hs (m := l.length + 1) (by omega) (by omega)).mono ?_⟩
    rintro ⟨d, ss'⟩ ⟨r, e, h1, h2, hs'⟩
    simp at e
    subst e
    have hr : r.toNat < (x :: l).length := by simp; omega
    refine ⟨by omega, r.toNat, ?_, .int (x :: l)[r.toNat], ?_, by omega, ss', (x :: l).eraseIdx r.toNat, f ++ [(x :: l)[r.toNat]], s1, ?_, hs', ?_, ?_⟩
    · have e : r = ((r.toNat : Nat) : Int) := by omega
      rw [e]
      exact seqIndex_of (by simp; omega) (by simp; omega)
    · rw [← List.map_cons, List.getElem?_map, List.getElem?_eq_getElem hr]
      rfl
    · rw [← List.map_cons, map_erase]
      simp
    · refine List.Perm.trans ?_ pm
      rw [List.append_assoc]
      exact List.Perm.append_left f (erase_perm hr)
    · rw [List.length_eraseIdx_of_lt hr, hl]
end Td
set_option Elab.async false
set_option linter.all false
set_option maxRecDepth 100000
namespace Td
open PySem PySem.Spec PyProof.Rows L2 TW
def webP1 (m n : Int) (c : List C) : Prop := ∃ ss : List D, c = [.own true ss, .dat (.int m), .dat (.int n), .un, .un, .un, .un, .un, .un] ∧ St ss
def webP2 (m n w : Int) (c : List C) : Prop := ∃ ss : List D, c = [.own true ss, .dat (.int m), .dat (.int n), .dat (.int w), .un, .un, .un, .un, .un] ∧ St ss
def webP3 (m n w : Int) (c : List C) : Prop := ∃ (ss : List D) (ks : List (Int × Int)), c = [.own true ss, .dat (.int m), .dat (.int n), .dat (.int w), .own false (ks.map tieD), .un, .un, .un, .un] ∧ St ss ∧ ks.Sublist (pairsL n)
def webP4 (m n w : Int) (c : List C) : Prop := ∃ (ss : List D) (ks : List (Int × Int)) (ls : List Int), c = [.own true ss, .dat (.int m), .dat (.int n), .dat (.int w), .own false (ks.map tieD), .dat (.list (ls.map .int)), .un, .un, .un] ∧ St ss ∧ ks.Sublist (pairsL n) ∧ ls.length = n.toNat
def webP5 (m n w : Int) (c : List C) : Prop := ∃ (ss : List D) (ks : List (Int × Int)) (s5 s6 s7 s8 : C), c = [.own true ss, .dat (.int m), .dat (.int n), .dat (.int w), .own false (ks.map tieD), s5, s6, s7, s8] ∧ St ss ∧ ks.Sublist (pairsL n)
def webI (m n w : Int) (ls : List Int) (k : Nat) (c : List C) : Prop := ∃ (ss : List D) (rs : List (List Int)) (s6 : C), c = [.own true ss, .dat (.int m), .dat (.int n), .dat (.int w), .own false (rs.map tupD), .dat (.list (ls.map .int)), s6, .un, .un] ∧ St ss ∧ rs.length = k
def webJ (m n w : Int) (ls : List Int) (xs : List D) (c : List C) : Prop := ∃ (as : List Int) (k : Nat), xs = as.map .int ∧ (∀ a ∈ as, 1 ≤ a ∧ a < n) ∧ k + as.length ≤ 14 ∧ webI m n w ls k c
def webO (m n w : Int) (c : List C) : Prop := ∃ (ss : List D) (rs : List (List Int)) (os : List (Int × Int)) (s5 s6 : C), c = [.own true ss, .dat (.int m), .dat (.int n), .dat (.int w), .own false (rs.map tupD), s5, s6, .dat (.list (os.map tieD)), .un] ∧ St ss
def webR (m n w : Int) (rs : List (List Int)) (s5 s6 : C) (c : List C) : Prop := ∃ ss : List D, c = [.own true ss, .dat (.int m), .dat (.int n), .dat (.int w), .own false (rs.map tupD), s5, s6, .un, .un] ∧ St ss
def webS (m n w : Int) (rs : List (List Int)) (os : List (Int × Int)) (s5 s6 : C) (ss : List D) (c : List C) : Prop := c = [.own true ss, .dat (.int m), .dat (.int n), .dat (.int w), .own false (rs.map tupD), s5, s6, .dat (.list (os.map tieD)), .un]
def webQ (m n w : Int) (ls : List Int) (c : List C) : Prop := ∃ k : Nat, k ≤ 15 ∧ webI m n w ls k c
theorem sorted_two {x y : Int} {Q : List D → Prop} (h : ∀ k : List Int, Q (k.map .int)) : Ev (gSorted (.list [.int x, .int y])) Q := by
  have e := gSorted_ints [x, y]
  simp only [List.map_cons, List.map_nil] at e
  rw [e]
  obtain ⟨ls, h1, _⟩ := sort_ints [x, y]
  simp only [List.map_cons, List.map_nil] at h1
  rw [h1]
  exact ev_ok.mpr (h ls)
theorem in_rows {neg : Bool} {p : Int × Int} {rs : List (List Int)} {Q : D → Prop} (h : ∀ b, Q (.bool b)) : Ev (gInX neg (tieD p) (.list (rs.map tupD))) Q := by
  rw [tieD_eq, gIn_row]
  exact ev_ok.mpr (h _)
theorem in_ties {neg : Bool} {p : Int × Int} {os : List (Int × Int)} {Q : D → Prop} (h : ∀ b, Q (.bool b)) : Ev (gInX neg (tieD p) (.list (os.map tieD))) Q := by
  rw [ties_rows]
  exact in_rows h
theorem web_many {m : Int} {ss : List D} {r : Int} (hm : 0 ≤ m) (h0 : 0 ≤ r) (h1 : r < 8) : Ev (gIx (.list [.int 0, .int 0, .int 1, .int 0, .int 2, .int 1, .int 3, .int m]) (.int r)) fun d => ∃ v, d = .int v ∧ 0 ≤ v := by
  refine ix_ev h0 (by simpa using h1) ?_
  simp
  exact hm
theorem pair_of_row {ls : List Int} {i : Int} {Q : D → Prop} (hi : 0 ≤ i ∧ i < ls.length) (h : ∀ x : Int, Q (.int x)) : Ev (gIx (.list (ls.map .int)) (.int i)) Q := by
  refine ix_ev hi.1 (by simpa using hi.2) fun d hd => ?_
  obtain ⟨x, _, rfl⟩ := List.mem_map.mp hd
  exact h x
def webP0 (m : Int) (c : List C) : Prop := ∃ n, (0 ≤ n ∧ n ≤ m) ∧ webP1 m n c
theorem web_ev {ss : List D} {m : Int} (hs : St ss) (hm : 0 ≤ m ∧ m ≤ 14) : Ev (F__law_web ss [.int m]) fun p => ∃ n ks, p.1 = webD n ks ∧ Web n ks ∧ n ≤ m ∧ St p.2 := by
  unfold F__law_web
  rw [ev_fnS]
  unfold b__law_web
  show Rn _ [.own true ss, .dat (.int m), .un, .un, .un, .un, .un, .un, .un] _
  refine seq_cut (webP0 m) ?_ ?_
  · simp [isOwn]
    refine (take_ev hs (by omega) (by omega)).mono ?_
    rintro ⟨d, ss'⟩ ⟨r, e, h1, h2, hs'⟩
    simp at e
    subst e
    refine (web_many (ss := ss) hm.1 h1 h2).mono ?_
    rintro d ⟨v, rfl, hv⟩
    simp
    exact ⟨max 0 (m - v), by omega, ss', rfl, hs'⟩
  rintro c ⟨n, hn, ss, rfl, hs⟩
  refine seq_cut (fun c => ∃ w : Int, (0 ≤ w ∧ w < 7) ∧ webP2 m n w c) ?_ ?_
  · simp [isOwn]
    refine (take_ev hs (by omega) (by omega)).mono ?_
    rintro ⟨d, ss'⟩ ⟨r, e, h1, h2, hs'⟩
    simp at e
    subst e
    exact ⟨r, ⟨h1, h2⟩, ss', rfl, hs'⟩
  rintro c ⟨w, hw, ss, rfl, hs⟩
  refine seq_cut (webP3 m n w) ?_ ?_
  · simp [rn_mComp, pairs_eq (n := n) (by omega), wipeC]
    refine (comp_pick (I := webP2 m n w) ⟨ss, rfl, hs⟩ ?_).mono ?_
    · rintro x hx c ⟨ss, rfl, hs⟩
      simp [setC, isOwn, wipeC]
      refine (take_ev hs (by omega) (by omega)).mono ?_
      rintro ⟨d, ss'⟩ ⟨r, e, h1, h2, hs'⟩
      simp at e
      subst e
      rw [gMod_int (by omega)]
      simp
      have q1 := Int.emod_nonneg w (by omega : (3 : Int) ≠ 0)
      have q2 := Int.emod_lt_of_pos w (by omega : (0 : Int) < 3)
      refine ix_ev q1 (by simpa using q2) ?_
      simp
      have : webP2 m n w [C.own true ss', C.dat (PyData.int m), C.dat (PyData.int n), C.dat (PyData.int w), C.un, C.un, C.un, C.un, C.un] := ⟨ss', rfl, hs'⟩
      simp [this]
    · rintro es c ⟨h1, ss, rfl, hs⟩
      obtain ⟨ks, rfl, h2⟩ := sub_map h1
      exact ⟨ss, ks, rfl, hs, h2⟩
  rintro c ⟨ss, ks, rfl, hs, hk⟩
  refine seq_cut (webP4 m n w) ?_ ?_
  · simp [isOwn, gRg_int (rgOk_small (i := 0) (j := n) (by omega) (by omega)), rgD_eq]
    refine (mixed_ev hs (by rw [rgI_length]; omega)).mono ?_
    rintro ⟨d, ss'⟩ ⟨ls, e, h1, hs'⟩
    simp at e
    subst e
    exact ⟨ss', ks, ls, rfl, hs', hk, by rw [h1.length_eq, rgI_length]; omega⟩
  rintro c ⟨ss, ks, ls, rfl, hs, hk, hl⟩
  refine seq_cut (webP5 m n w) ?_ ?_
  · rw [rn_mIfS]
    simp only [rn_mTest, rn_mOp2, rn_mVar, onVar_dat, rn_mC, List.getElem?_cons_succ, List.getElem?_cons_zero, oGt_int, ev_ok, asB_bool]
    by_cases hw2 : 2 < w
    rotate_left
    · simp [hw2]
      exact ⟨ss, ks, _, _, _, _, rfl, hs, hk⟩
    simp only [hw2, decide_true, if_true]
    refine seq_cut (webI m n w ls 0) ?_ ?_
    · simp
      exact ⟨ss, [], .un, rfl, hs, rfl⟩
    intro c hc
    refine seq_cut (webQ m n w ls) ?_ ?_
    · obtain ⟨ss, rs, s6, rfl, hs, hr⟩ := hc
      simp [rn_mFor, gRg_int (rgOk_small (i := 1) (j := n) (by omega) (by omega)), rgD_eq]
      refine for_rule (I := webJ m n w ls) ⟨rgI 1 n, 0, rfl, fun a ha => rgI_mem.mp ha, by rw [rgI_length]; omega, ss, rs, s6, rfl, hs, hr⟩ ?_ ?_
      · rintro c ⟨as, k, e, _, hk, hc⟩
        simp
        exact ⟨k, by omega, hc⟩
      · rintro x xs c ⟨as, k, e, hb, hk, ss, rs, s6, rfl, hs, hr⟩
        cases as with
        | nil => simp at e
        | cons a as =>
          simp at e
          obtain ⟨rfl, rfl⟩ := e
          have ha := hb a List.mem_cons_self
          simp [setC, isOwn]
          refine pair_of_row (by omega) fun x => ?_
          rw [gDiv_int (by omega)]
          simp
          refine ix_ev (by omega) (by simp; omega) ?_
          have key : ∀ v : Int, 0 ≤ v ∧ v < n → Ev (gIx (PyData.list (List.map PyData.int ls)) (PyData.int v)) fun z => Ev (gSorted (PyData.list [PyData.int x, z])) fun z => rs.length ≤ 16777215 ∧ webJ m n w ls (List.map PyData.int as) [C.own true ss, C.dat (PyData.int m), C.dat (PyData.int n), C.dat (PyData.int w), C.own false (List.map tupD rs ++ [PyData.tuple z]), C.dat (PyData.list (List.map PyData.int ls)), C.dat (PyData.int a), C.un, C.un] := by
            intro v hv
            refine pair_of_row (by omega) fun y => sorted_two fun q => ⟨by simp at hk; omega, as, k + 1, rfl, fun b hb' => hb b (List.mem_cons_of_mem _ hb'), by simp at hk; omega, ss, rs ++ [q], .dat (.int a), ?_, hs, by simp [hr]⟩
            simp [tupD]
          have q1 := Int.ediv_nonneg (show 0 ≤ a by omega) (show (0 : Int) ≤ 2 by omega)
          have q2 : a / 2 ≤ a := Int.ediv_le_self _ (by omega)
          simp
          exact ⟨key _ (by omega), key _ (by omega), key _ (by omega)⟩
    rintro c ⟨k, hk15, ss, rs, s6, rfl, hs, hr⟩
    refine seq_cut (fun c => ∃ k : Nat, k ≤ 16 ∧ webI m n w ls k c) ?_ ?_
    · rw [rn_mIfS]
      simp only [rn_mAnd, rn_mTest, rn_mOp2, rn_mVar, onVar_dat, rn_mC, List.getElem?_cons_succ, List.getElem?_cons_zero, gEq_int, oGt_int, ev_ok, asB_bool]
      have done : Rn mNx [C.own true ss, C.dat (PyData.int m), C.dat (PyData.int n), C.dat (PyData.int w), C.own false (List.map tupD rs), C.dat (PyData.list (List.map PyData.int ls)), s6, C.un, C.un] (fun f c => f = Fl.nx ∧ ∃ k : Nat, k ≤ 16 ∧ webI m n w ls k c) := by
        simp
        exact ⟨k, by omega, ss, rs, s6, rfl, hs, hr⟩
      by_cases h4 : (w == 4) = true
      · simp only [h4, if_true]
        by_cases h5 : 2 < n
        · simp only [h5, decide_true, if_true]
          simp [isOwn]
          refine pair_of_row (by omega) fun x => ?_
          refine pair_of_row (by omega) fun y => sorted_two fun q => ⟨by omega, k + 1, by omega, ss, rs ++ [q], s6, ?_, hs, by simp [hr]⟩
          simp [tupD]
        · simpa only [h5, decide_false, Bool.false_eq_true, if_false] using done
      · simpa only [h4, Bool.false_eq_true, if_false] using done
    rintro c ⟨k, hk16, ss, rs, s6, rfl, hs, hr⟩
    refine seq_cut (webO m n w) ?_ ?_
    · simp [rn_mComp, pairs_eq (n := n) (by omega), wipeC]
      refine (comp_pick (I := webR m n w rs (.dat (.list (ls.map .int))) s6) ⟨ss, rfl, hs⟩ ?_).mono ?_
      · rintro x hx c ⟨ss, rfl, hs⟩
        simp [setC, isOwn, wipeC]
        refine (take_ev hs (by omega) (by omega)).mono ?_
        rintro ⟨d, ss'⟩ ⟨r, e, h1, h2, hs'⟩
        simp at e
        subst e
        have : webR m n w rs (.dat (.list (ls.map .int))) s6 [C.own true ss', C.dat (PyData.int m), C.dat (PyData.int n), C.dat (PyData.int w), C.own false (List.map tupD rs), .dat (.list (ls.map .int)), s6, C.un, C.un] := ⟨ss', rfl, hs'⟩
        simp [this]
      · rintro es c ⟨h1, ss, rfl, hs⟩
        obtain ⟨os, rfl, h2⟩ := sub_map h1
        exact ⟨ss, rs, os, _, _, rfl, hs⟩
    rintro c ⟨ss, rs, os, s5, s6, rfl, hs⟩
    simp [rn_mComp, pairs_eq (n := n) (by omega), wipeC]
    refine (comp_pick (I := webS m n w rs os s5 s6 ss) rfl ?_).mono ?_
    · rintro x hx c rfl
      obtain ⟨p, hp, rfl⟩ := List.mem_map.mp hx
      simp [setC, isOwn, wipeC]
      refine in_rows fun b => in_ties fun b' => ?_
      have : webS m n w rs os s5 s6 ss [C.own true ss, C.dat (PyData.int m), C.dat (PyData.int n), C.dat (PyData.int w), C.own false (List.map tupD rs), s5, s6, .dat (.list (os.map tieD)), C.un] := rfl
      simp [this]
    · rintro es c ⟨h1, rfl⟩
      obtain ⟨ks, rfl, h2⟩ := sub_map h1
      exact ⟨ss, ks, _, _, _, _, rfl, hs, h2⟩
  rintro c ⟨ss, ks, s5, s6, s7, s8, rfl, hs, hk⟩
  simp [gSorted_ties]
  refine ⟨n, ks, ?_, Web.of (by omega) hk, hn.2, hs⟩
  rw [sort_rising ((pairsL_pw n).sublist hk)]
  rfl
end Td
set_option Elab.async false
set_option linter.all false
set_option maxRecDepth 100000
namespace Td
open PySem PySem.Spec PyProof.Rows L2 TW
def grI (n : Int) (xs : List D) (c : List C) : Prop := ∃ (ss : List D) (ks : List (Int × Int)) (s3 s4 s5 : C), c = [.own true ss, .dat (.int n), .own false (ks.map tieD), s3, s4, s5] ∧ St ss ∧ (∀ p ∈ ks, 0 ≤ p.1 ∧ p.1 < p.2 ∧ p.2 < n) ∧ ks.length + xs.length ≤ 12
theorem great_ev {ss : List D} (hs : St ss) : Ev (F__law_great_web ss []) fun p => ∃ n ks, p.1 = webD n ks ∧ Web n ks ∧ 8 ≤ n ∧ ks.length ≤ 12 ∧ St p.2 := by
  unfold F__law_great_web
  rw [ev_fnS]
  unfold b__law_great_web
  show Rn _ [.own true ss, .un, .un, .un, .un, .un] _
  refine seq_cut (fun c => ∃ n : Int, (8 ≤ n ∧ n ≤ 14) ∧ ∃ ss : List D, c = [.own true ss, .dat (.int n), .un, .un, .un, .un] ∧ St ss) ?_ ?_
  · simp [isOwn]
    refine (take_ev hs (by omega) (by omega)).mono ?_
    rintro ⟨d, ss'⟩ ⟨r, e, h1, h2, hs'⟩
    simp at e
    subst e
    simp
    exact ⟨8 + r, by omega, ss', ⟨rfl, rfl⟩, hs'⟩
  rintro c ⟨n, hn, ss, rfl, hs⟩
  refine seq_cut (fun c => c = [.own true ss, .dat (.int n), .own false [], .un, .un, .un]) ?_ ?_
  · simp
  rintro c rfl
  refine seq_cut (grI n []) ?_ ?_
  · simp [rn_mFor, isOwn]
    refine (take_ev hs (by omega) (by omega)).mono ?_
    rintro ⟨d, ss'⟩ ⟨r, e, h1, h2, hs'⟩
    simp at e
    subst e
    simp
    rw [gRg_int (rgOk_small (by omega) (by omega))]
    simp
    refine for_rule (I := grI n) ⟨ss', [], .un, .un, .un, rfl, hs', (fun _ h => nomatch h), by simp [rgD_length]; omega⟩ ?_ ?_
    · intro c hc
      simp
      exact hc
    · rintro x xs c ⟨ss, ks, s3, s4, s5, rfl, hs, hk, hl⟩
      rw [fName_ok, ev_ok]
      show Rn _ [.own true ss, .dat (.int n), .own false (ks.map tieD), .dat x, s4, s5] _
      refine seq_cut (fun c => ∃ a : Int, (0 ≤ a ∧ a < n) ∧ ∃ ss : List D, c = [.own true ss, .dat (.int n), .own false (ks.map tieD), .dat x, .dat (.int a), s5] ∧ St ss) ?_ ?_
      · simp [isOwn]
        refine (take_ev hs (by omega) (by omega)).mono ?_
        rintro ⟨d, ss'⟩ ⟨a, e, a1, a2, hs'⟩
        simp at e
        subst e
        simp
        exact ⟨a, ⟨a1, a2⟩, ss', ⟨rfl, rfl⟩, hs'⟩
      rintro c ⟨a, ⟨a1, a2⟩, ss', rfl, hs'⟩
      refine seq_cut (fun c => ∃ b : Int, (0 ≤ b ∧ b < n - 1) ∧ ∃ ss : List D, c = [.own true ss, .dat (.int n), .own false (ks.map tieD), .dat x, .dat (.int a), .dat (.int ((a + 1 + b) % n))] ∧ St ss) ?_ ?_
      · simp [isOwn]
        refine (take_ev hs' (by omega) (by omega)).mono ?_
        rintro ⟨d, ss'⟩ ⟨b, e, b1, b2, hs'⟩
        simp at e
        subst e
        simp
        rw [gMod_int (by omega)]
        simp
        exact ⟨b, ⟨b1, b2⟩, ss', ⟨rfl, rfl⟩, hs'⟩
      rintro c ⟨b, ⟨b1, b2⟩, ss2, rfl, hs2⟩
      have q1 := Int.emod_nonneg (a + 1 + b) (by omega : n ≠ 0)
      have q2 := Int.emod_lt_of_pos (a + 1 + b) (by omega : 0 < n)
      have q3 : (a + 1 + b) % n ≠ a := by
        intro h
        by_cases z : a + 1 + b < n
        · rw [Int.emod_eq_of_lt (by omega) z] at h; omega
        · have e : a + 1 + b = (a + 1 + b - n) + n := by omega
          rw [e, Int.add_emod_right, Int.emod_eq_of_lt (by omega) (by omega)] at h
          omega
      generalize (a + 1 + b) % n = o at q1 q2 q3
      simp at hl
      simp [isOwn]
      refine ⟨by omega, ss2, ks ++ [(min a o, max a o)], .dat x, .dat (.int a), .dat (.int o), ?_, hs2, fun p hp => ?_, by simp; omega⟩
      · simp [tieD]
      · rcases List.mem_append.mp hp with z | z
        · exact hk p z
        · obtain rfl := List.mem_singleton.mp z
          show 0 ≤ min a o ∧ min a o < max a o ∧ max a o < n
          omega
  rintro c ⟨ss, ks, s3, s4, s5, rfl, hs, hk, hl⟩
  simp at hl
  obtain ⟨ls, e1, e2, e3⟩ := setsort_ties (ks := ks) (d := .list (ks.map tieD)) rfl (by omega)
  simp [e1]
  refine ⟨n, ls, rfl, ⟨by omega, e2, fun p hp => hk p ((e3 p).mp hp)⟩, hn.1, ?_, hs⟩
  exact Nat.le_trans (nodup_le (pw_nodup e2) fun x hx => (e3 x).mp hx) hl
end Td
set_option Elab.async false
set_option linter.all false
set_option maxRecDepth 100000
namespace Td
open PySem PySem.Spec PyProof.Rows L2 TW
theorem is_whole_eq {d : D} (h : plainD d = true) : F_is_whole [d] = .ok (.bool (isI d)) := by
  apply Ev.eq
  unfold F_is_whole
  rw [ev_fnD]
  cases d <;> simp [b_is_whole, unfill, gIsi, h, isiD, tyN, isI]
theorem is_place_eq {n : Int} {d : D} (h : plainD d = true) : F_is_place [.int n, d] = .ok (.bool (placeB n d)) := by
  apply Ev.eq
  unfold F_is_place
  rw [ev_fnD]
  cases d <;> simp [b_is_place, unfill, is_whole_eq, h, isI, placeB]
  rename_i i
  by_cases h0 : 0 ≤ i <;> simp [h0]
theorem is_tie_eq {n : Int} {d : D} (h : noDict d = true) : F_is_tie [.int n, d] = .ok (.bool (tieB n d)) := by
  apply Ev.eq
  unfold F_is_tie
  rw [ev_fnD]
  have hp := plain_of h
  cases d with
  | tuple xs =>
    simp only [b_is_tie, unfill]
    simp [gIsi, hp, isiD, tyN]
    have hl : ((xs.length : Int) != 2) = decide (xs.length ≠ 2) := by
      rw [Bool.eq_iff_iff]
      simp
      omega
    match xs, h, hp with
    | [a, b], h, hp =>
      simp [noDict, noDictAll] at h
      simp [rn_mComp, wipeC]
      refine comp_map (g := fun d => .bool (placeB n d)) (fun x hx => ?_) ?_
      · have hx : noDict x = true := by
          rcases List.mem_cons.mp hx with z | z
          · rw [z]; exact h.1
          · rw [List.mem_singleton.mp z]; exact h.2
        simp [setC, is_place_eq (plain_of hx), wipeC]
      · rw [gAll_map]
        simp
        cases a <;> cases b <;> simp [placeB, tieB]
        rename_i i j
        by_cases h1 : 0 ≤ i <;> by_cases h2 : i < n <;> by_cases h3 : 0 ≤ j <;> by_cases h4 : j < n <;> simp [h1, h2, h3, h4] <;> omega
    | [], _, _ => simp [tieB]
    | [a], _, _ => simp [tieB]
    | a :: b :: c :: r, _, _ =>
      have e : (2 : Int) ≠ (r.length : Int) + 1 + 1 + 1 := by omega
      simp [tieB]
      intro z
      omega
  | _ => simp [b_is_tie, unfill, gIsi, hp, isiD, tyN, tieB]
theorem rises_eq (ks : List (Int × Int)) : F_rises [.tuple (ks.map tieD)] = .ok (.bool (risB ks)) := by
  apply Ev.eq
  unfold F_rises
  rw [ev_fnD]
  simp only [b_rises, unfill]
  simp [rn_mComp, wipeC, cut_one]
  have e : List.map (fun p => zpD [p.fst, p.snd]) ((ks.map tieD).zip ((ks.map tieD).drop 1)) = (ks.zip (ks.drop 1)).map fun z => zpD [tieD z.1, tieD z.2] := by
    rw [← List.map_drop, List.zip_map, List.map_map]
    rfl
  simp only [List.drop_one, List.map_tail] at e ⊢
  rw [e]
  refine comp_map (g := fun d => match d with | .dict [(.bool true, .tuple [a, b])] => .bool (decide (ltP (unTie a) (unTie b))) | _ => .none) (fun x hx => ?_) ?_
  · obtain ⟨z, hz, rfl⟩ := List.mem_map.mp hx
    simp [setC, wipeC, oLt_tie]
    first | rfl | exact decide_eq_decide.mpr Iff.rfl
  · rw [List.map_map]
    have := ris_zip ks
    simp only [List.drop_one] at this
    rw [← this]
    show Ev (gAll (.list ((ks.zip ks.tail).map fun z => .bool (decide (ltP (unTie (tieD z.1)) (unTie (tieD z.2))))))) _
    rw [gAll_map (fun z : (Int × Int) × (Int × Int) => decide (ltP (unTie (tieD z.1)) (unTie (tieD z.2))))]
    exact ev_ok.mpr rfl
end Td
set_option Elab.async false
set_option linter.all false
set_option maxRecDepth 100000
namespace Td
open PySem PySem.Spec PyProof.Rows L2 TW
theorem noDictAll_mem : ∀ {ts : List D}, noDictAll ts = true → ∀ t ∈ ts, noDict t = true
  | [], _, _, h => (nomatch h)
  | x :: ts, e, t, h => by
    simp only [noDictAll, Bool.and_eq_true] at e
    rcases List.mem_cons.mp h with z | z
    · rw [z]; exact e.1
    · exact noDictAll_mem e.2 t z
theorem webB_not {x y : D} (h : isI x = false) : webB (.tuple [x, y]) = false := by
  cases x <;> simp [isI, webB] at *
theorem webB_far {n : Int} {y : D} (h : ¬ (0 ≤ n ∧ n ≤ 14)) : webB (.tuple [.int n, y]) = false := by
  cases y <;> simp [webB]
  intro a b
  exact absurd ⟨a, b⟩ h
theorem seq_rt {a b : MS} {cs : List C} {Q : Fl → List C → Prop} {d : D} (h : Rn a cs fun f c => f = .rt d ∧ Q (.rt d) c) : Rn (mSeq a b) cs Q := by
  rw [rn_mSeq]
  exact h.mono fun f c ⟨e, q⟩ => by subst e; exact q
theorem is_web_eq {d : D} (h : plainD d = true) (h2 : ∀ x y, d = .tuple [x, y] → noDict x = true ∧ noDict y = true) : F_is_web [d] = .ok (.bool (webB d)) := by
  apply Ev.eq
  unfold F_is_web
  rw [ev_fnD]
  cases d with
  | tuple xs =>
    simp only [b_is_web, unfill]
    match xs, h, h2 with
    | [], h, h2 => simp [gIsi, h, isiD, tyN, webB]
    | [a], h, h2 => simp [gIsi, h, isiD, tyN, webB]
    | a :: b :: c :: r, h, h2 =>
      simp [gIsi, h, isiD, tyN, webB]
      intro z
      omega
    | [x, y], h, h2 =>
      obtain ⟨hx, hy⟩ := h2 x y rfl
      simp [gIsi, h, isiD, tyN, is_whole_eq (plain_of hx)]
      by_cases hi : isI x = true
      rotate_left
      · simp [hi]
        exact webB_not (by simpa using hi)
      · obtain ⟨n, rfl⟩ : ∃ n, x = .int n := by cases x <;> simp [isI] at hi; exact ⟨_, rfl⟩
        simp [hi]
        by_cases h0 : 0 ≤ n
        rotate_left
        · simp [h0]
          exact webB_far (fun z => h0 z.1)
        simp [h0]
        by_cases h14 : n ≤ 14
        rotate_left
        · simp [h14]
          exact webB_far (fun z => h14 z.2)
        simp [h14, plain_of hy]
        cases y with
        | tuple ts =>
          simp [rn_mComp, wipeC]
          refine comp_map (g := fun d => .bool (tieB n d)) (fun x hx => ?_) ?_
          · have hx : noDict x = true := noDictAll_mem (by simpa [noDict] using hy) x hx
            simp [setC, is_tie_eq hx, wipeC]
          · rw [gAll_map]
            by_cases ha : ts.all (tieB n) = true
            · obtain ⟨ks, rfl, _⟩ := ties_inv ha
              have hv : webB (.tuple [.int n, .tuple (ks.map tieD)]) = risB ks := by
                have z : webB (.tuple [.int n, .tuple (ks.map tieD)]) = (decide (0 ≤ n) && decide (n ≤ 14) && ((ks.map tieD).all (tieB n) && risB ((ks.map tieD).map unTie))) := rfl
                rw [z, ha, List.map_map]
                simp [h0, h14, Function.comp_def]
              simp only [ev_ok, asB_bool, ha, if_true]
              simp [rises_eq, hv]
            · simp [ha, webB, h0, h14]
        | _ => simp [webB]
  | _ =>
    unfold b_is_web
    refine seq_rt (d := .bool false) ?_
    simp [unfill, gIsi, h, isiD, tyN, webB]
theorem webB_web {n : Int} {ks : List (Int × Int)} (w : Web n ks) : webB (webD n ks) = true := by
  have z : webB (webD n ks) = (decide (0 ≤ n) && decide (n ≤ 14) && ((ks.map tieD).all (tieB n) && risB ((ks.map tieD).map unTie))) := rfl
  rw [z, List.map_map]
  have a : (ks.map tieD).all (tieB n) = true := by
    rw [List.all_map, List.all_eq_true]
    intro p hp
    simp only [Function.comp, tieB_tieD, decide_eq_true_eq]
    exact w.ties p hp
  rw [a]
  simp [w.many.1, w.many.2, Function.comp_def, risB_iff.mpr w.pw]
end Td
set_option Elab.async false
set_option linter.all false
set_option maxRecDepth 100000
namespace Td
open PySem PySem.Spec PyProof.Rows L2 TW
def fitK : Nat → D → Bool
  | 0, _ => false
  | k + 1, .list ds => ds.all (fitK k)
  | k + 1, .tuple ds => ds.all (fitK k)
  | _ + 1, .dict _ => false
  | _ + 1, .str x => PyData.strOk x
  | _ + 1, _ => true
theorem gAll_const {α : Type} (l : List α) : gAll (.list (l.map fun _ => .bool true)) = .ok (.bool true) := by
  have := gAll_map (fun _ : α => true) l
  rw [this]
  simp
theorem zip_self {ds : List D} : (ds.zip ds).map (fun p => zpD [p.1, p.2]) = ds.map fun d => zpD [d, d] := by
  induction ds with
  | nil => rfl
  | cons d ds ih => rw [List.zip_cons_cons, List.map_cons, List.map_cons, ih]
theorem gEq_refl {d : D} (h : SeqAt.shaped d = true) (e : PyData.eqv d d = true) : gEq d d = .ok (.bool true) := by simp [gEq, h, e]
theorem same_refl : ∀ (k : Nat) (d : D), fitK k d = true → F__law_same k [d, d] = .ok (.bool true)
  | 0, _, h => by cases h
  | k + 1, d, h => by
    apply Ev.eq
    show Ev (fnD 4 (b__law_same (F__law_same k)) [d, d]) _
    rw [ev_fnD]
    unfold b__law_same
    cases d with
    | dict xs => cases h
    | list ds =>
      have h : ∀ x ∈ ds, fitK k x = true := by simpa [fitK] using h
      have ih := fun x hx => same_refl k x (h x hx)
      simp [unfill, gIsi2, gIsi, plainD, isiD, tyN, rn_mComp, wipeC]
      have z := zip_self (ds := ds)
      rw [z]
      refine comp_map (g := fun _ => .bool true) (fun x hx => ?_) ?_
      · obtain ⟨y, hy, rfl⟩ := List.mem_map.mp hx
        simp [setC, wipeC, ih y hy]
      · rw [gAll_const]
        simp
    | tuple ds =>
      have h : ∀ x ∈ ds, fitK k x = true := by simpa [fitK] using h
      have ih := fun x hx => same_refl k x (h x hx)
      simp [unfill, gIsi2, gIsi, plainD, isiD, tyN, rn_mComp, wipeC]
      have z := zip_self (ds := ds)
      rw [z]
      refine comp_map (g := fun _ => .bool true) (fun x hx => ?_) ?_
      · obtain ⟨y, hy, rfl⟩ := List.mem_map.mp hx
        simp [setC, wipeC, ih y hy]
      · rw [gAll_const]
        simp
    | int i => simp [unfill, gIsi2, gIsi, plainD, isiD, tyN]
    | bool b => simp [unfill, gIsi2, gIsi, plainD, isiD, tyN]
    | none => simp [unfill, gIsi2, gIsi, plainD, isiD, tyN, gEq_refl (d := .none) rfl rfl]
    | str x =>
      have hx : PyData.strOk x = true := h
      simp [unfill, gIsi2, gIsi, plainD, isiD, tyN, gEq_refl (d := .str x) (by simp [SeqAt.shaped, PyData.canLay0, PyData.depth, hx]) (by simp [PyData.eqv])]
end Td
set_option Elab.async false
set_option linter.all false
set_option maxRecDepth 100000
namespace Td
open PySem PySem.Spec PyProof.Rows L2 TW
def tiedB (ks : List (Int × Int)) (a b : Int) : Bool := decide ((min a b, max a b) ∈ ks)
theorem any_int (i : Int) (is : List Int) : ((is.map PyData.int).any fun z => PyData.eqv z (.int i)) = decide (i ∈ is) := by
  rw [List.any_map]
  rw [Bool.eq_iff_iff, List.any_eq_true, decide_eq_true_eq]
  constructor
  · rintro ⟨q, hq, e⟩
    simp only [Function.comp, PyData.eqv, beq_iff_eq] at e
    rw [← e]; exact hq
  · intro h
    exact ⟨i, h, by simp [PyData.eqv]⟩
theorem gIn_intT (neg : Bool) (i : Int) (is : List Int) : gInX neg (.int i) (.tuple (is.map .int)) = .ok (.bool (neg != decide (i ∈ is))) := by
  have h2 : SeqAt.shaped (.tuple (is.map .int)) = true := shaped_row is
  unfold gInX gOr
  simp only [gIn, shaped_int, h2, Bool.and_self, if_true, any_int]
@[simp] theorem gIx_web0 {n : Int} {ks : List (Int × Int)} : gIx (webD n ks) (.int 0) = .ok (.int n) := gIx_t0
@[simp] theorem gIx_web1 {n : Int} {ks : List (Int × Int)} : gIx (webD n ks) (.int 1) = .ok (.tuple (ks.map tieD)) := gIx_t1
theorem gRg_to {n : Int} (h : 0 ≤ n ∧ n ≤ 100000) : gRg (.int 0) (.int n) = .ok ((rgI 0 n).map .int) := by
  rw [gRg_int (rgOk_small (by omega) (by omega)), rgD_eq]
@[simp] theorem gIx_tie0 {p : Int × Int} : gIx (tieD p) (.int 0) = .ok (.int p.1) := gIx_t0
@[simp] theorem gIx_tie1 {p : Int × Int} : gIx (tieD p) (.int 1) = .ok (.int p.2) := gIx_t1
end Td
set_option Elab.async false
set_option linter.all false
set_option maxRecDepth 100000
namespace Td
open PySem PySem.Spec PyProof.Rows L2 TW
def c2 (c : Int) : Int := c * (c - 1) / 2
theorem rgI_nodup (a b : Int) : (rgI a b).Nodup := (rgI_pw a b).imp fun h => by omega
def other (v : Int) (p : Int × Int) : Int := if v = p.1 then p.2 else p.1
end Td
set_option Elab.async false
set_option linter.all false
set_option maxRecDepth 100000
namespace Td
open PySem PySem.Spec PyProof.Rows L2 TW
theorem small_len {n : Int} {ks : List (Int × Int)} (w : Web n ks) (h : n ≤ 7) : ks.length ≤ 21 := by
  have e : (pairsL 7).length = 21 := by decide +kernel
  rw [← e]
  exact nodup_le (pw_nodup w.pw) fun x hx => pairsL_mem.mpr (by have := w.ties x hx; omega)
end Td
set_option Elab.async false
set_option linter.all false
set_option maxRecDepth 100000
namespace Td
open PySem PySem.Spec PyProof.Rows L2 TW
end Td
set_option Elab.async false
set_option linter.all false
set_option maxRecDepth 100000
namespace Td
open PySem PySem.Spec PyProof.Rows L2 TW
theorem enum_ints (r : List Int) : (r.map PyData.int).mapIdx (fun i d => zpD [.int (i : Nat), d]) = r.zipIdx.map fun x => zpD [.int (x.2 : Nat), .int x.1] := by
  apply List.ext_getElem?
  intro i
  rw [List.getElem?_mapIdx, List.getElem?_map, List.getElem?_map, List.getElem?_zipIdx]
  cases r[i]? with
  | none => rfl
  | some x => simp
@[simp] theorem rn_mEnum {ma : M D} {cs : List C} {QL : List D → List C → Prop} : Rn (mEnum ma) cs QL ↔ Rn ma cs fun d c => Ev (gEnum d) fun z => QL z c := by unfold mEnum; simp only [rn_bind, rn_only]
theorem gEnum_ints (r : List Int) : gEnum (.tuple (r.map .int)) = .ok (r.zipIdx.map fun x => zpD [.int (x.2 : Nat), .int x.1]) := by
  rw [show gEnum (.tuple (r.map .int)) = .ok ((r.map PyData.int).mapIdx (fun i d => zpD [.int (i : Nat), d])) from rfl, enum_ints]
end Td
set_option Elab.async false
set_option linter.all false
set_option maxRecDepth 100000
namespace Td
open PySem PySem.Spec PyProof.Rows L2 TW
def atL (r : List Int) (a : Int) : Int := r.getD a.toNat 0
theorem atL_get {r : List Int} {a : Nat} (h : a < r.length) : atL r a = r[a] := by
  simp [atL, List.getD_eq_getElem?_getD, List.getElem?_eq_getElem h]
@[simp] theorem gLen_row {r : List Int} : gLen (tupD r) = .ok (.int r.length) := by simp [tupD]
@[simp] theorem gSeq_row {r : List Int} : gSeq (tupD r) = .ok (r.map .int) := rfl
@[simp] theorem gEnum_row {r : List Int} : gEnum (tupD r) = .ok (r.zipIdx.map fun x => zpD [.int (x.2 : Nat), .int x.1]) := gEnum_ints r
end Td
set_option Elab.async false
set_option linter.all false
set_option maxRecDepth 100000
namespace Td
open PySem PySem.Spec PyProof.Rows L2 TW
structure Ren (n : Int) (r : List Int) : Prop where
  perm : r.Perm (rgI 0 n)
section
variable {n : Int} {r : List Int}
theorem Ren.len (h : Ren n r) (hn : 0 ≤ n) : (r.length : Int) = n := by rw [h.perm.length_eq, rgI_length]; omega
theorem Ren.nodup (h : Ren n r) : r.Nodup := h.perm.nodup_iff.mpr (rgI_nodup 0 n)
theorem Ren.at (h : Ren n r) {a : Int} (ha : 0 ≤ a ∧ a < n) : 0 ≤ atL r a ∧ atL r a < n := by
  have hl := h.len (by omega)
  obtain ⟨k, rfl⟩ : ∃ k : Nat, a = k := ⟨a.toNat, by omega⟩
  rw [atL_get (by omega)]
  exact rgI_mem.mp (h.perm.mem_iff.mp (List.getElem_mem (by omega)))
theorem Ren.inj (h : Ren n r) {a b : Int} (ha : 0 ≤ a ∧ a < n) (hb : 0 ≤ b ∧ b < n) (e : atL r a = atL r b) : a = b := by
  have hl := h.len (by omega)
  obtain ⟨k, rfl⟩ : ∃ k : Nat, a = k := ⟨a.toNat, by omega⟩
  obtain ⟨j, rfl⟩ : ∃ k : Nat, b = k := ⟨b.toNat, by omega⟩
  have hk : k < r.length := by omega
  have hj : j < r.length := by omega
  rw [atL_get hk, atL_get hj] at e
  have pw := List.pairwise_iff_getElem.mp h.nodup
  by_cases h1 : k < j
  · exact absurd e (pw _ _ hk hj h1)
  by_cases h2 : j < k
  · exact absurd e.symm (pw _ _ hj hk h2)
  omega
end
end Td
set_option Elab.async false
set_option linter.all false
set_option maxRecDepth 100000
namespace Td
open PySem PySem.Spec PyProof.Rows L2 TW
theorem whole_eq {d : D} (h : plainD d = true) : F__law_whole [d] = .ok (.bool (isI d)) := by
  apply Ev.eq
  unfold F__law_whole
  rw [ev_fnD]
  cases d <;> simp [b__law_whole, unfill, gIsi, h, isiD, tyN, isI]
theorem canAll_iff : ∀ {ds : List D}, PyData.canLayAll0 ds = true ↔ ∀ x ∈ ds, x.canLay0 = true
  | [] => by simp [PyData.canLayAll0]
  | x :: ds => by
    rw [PyData.canLayAll0, Bool.and_eq_true, canAll_iff (ds := ds)]
    simp
theorem depthAll_iff {k : Nat} : ∀ {ds : List D}, PyData.depthAll ds ≤ k ↔ ∀ x ∈ ds, x.depth ≤ k
  | [] => by simp [PyData.depthAll]
  | x :: ds => by
    have ih := depthAll_iff (k := k) (ds := ds)
    simp only [PyData.depthAll, List.mem_cons, forall_eq_or_imp, ← ih]
    omega
theorem shaped_lst {ds : List D} : SeqAt.shaped (.list ds) = true ↔ ∀ x ∈ ds, x.canLay0 = true ∧ x.depth ≤ 63 := by
  unfold SeqAt.shaped
  rw [Bool.and_eq_true, decide_eq_true_eq]
  simp only [PyData.canLay0, PyData.depth]
  rw [canAll_iff]
  have := depthAll_iff (k := 63) (ds := ds)
  constructor
  · rintro ⟨a, b⟩ x hx
    exact ⟨a x hx, this.mp (by omega) x hx⟩
  · intro h
    exact ⟨fun x hx => (h x hx).1, by have := this.mpr fun x hx => (h x hx).2; omega⟩
end Td
set_option Elab.async false
set_option linter.all false
set_option maxRecDepth 100000
namespace Td
open PySem PySem.Spec PyProof.Rows L2 TW
theorem catl_ev {ds es : List D} {Q : D → Prop} (h : ds.length + es.length ≤ 16777216) (q : Q (.list (ds ++ es))) : Ev (gAdd (.list ds) (.list es)) Q := by rw [gCat_list h]; exact ev_ok.mpr q
end Td
set_option Elab.async false
set_option linter.all false
set_option maxRecDepth 100000
namespace Td
open PySem PySem.Spec PyProof.Rows L2 TW
@[simp] theorem rn_mDct {cs : List C} {Q : D → List C → Prop} : Rn mDct cs Q ↔ Q (.dict []) cs := rn_pure
end Td
set_option Elab.async false
set_option linter.all false
set_option maxRecDepth 100000
namespace Td
open PySem PySem.Spec PyProof.Rows L2 TW
structure Crow (n : Int) (ks : List (Int × Int)) (r : List Int) : Prop where
  up : r.Pairwise (· < ·)
  ran : ∀ x ∈ r, 0 ≤ x ∧ x < n
  tied : r.Pairwise fun a b => tiedB ks a b = true
theorem Crow.nil {n : Int} {ks : List (Int × Int)} : Crow n ks [] := ⟨.nil, by simp, .nil⟩
theorem Crow.mono {n m : Int} {ks : List (Int × Int)} {r : List Int} (h : Crow n ks r) (k : n ≤ m) : Crow m ks r := ⟨h.up, fun x hx => by have := h.ran x hx; omega, h.tied⟩
theorem up_len {b : Int} : ∀ {r : List Int} {a : Int}, r.Pairwise (· < ·) → (∀ x ∈ r, a ≤ x ∧ x < b) → a ≤ b → a + r.length ≤ b
  | [], a, _, _, h => by simpa using h
  | x :: r, a, h, k, h0 => by
    have hx := k x (by simp)
    obtain ⟨h1, h2⟩ := List.pairwise_cons.mp h
    have := up_len (b := b) (r := r) (a := x + 1) h2 (fun y hy => by have := h1 y hy; have := k y (by simp [hy]); omega) (by omega)
    simp only [List.length_cons]
    omega
theorem Crow.len {n : Int} {ks : List (Int × Int)} {r : List Int} (h : Crow n ks r) (hn : 0 ≤ n) : (r.length : Int) ≤ n := by
  have := up_len h.up h.ran hn
  omega
end Td
set_option Elab.async false
set_option linter.all false
set_option maxRecDepth 100000
namespace Td
open PySem PySem.Spec PyProof.Rows L2 TW
end Td
set_option Elab.async false
set_option linter.all false
set_option maxRecDepth 100000
namespace Td
open PySem PySem.Spec PyProof.Rows L2 TW
end Td
set_option Elab.async false
set_option linter.all false
set_option maxRecDepth 100000
namespace Td
open PySem PySem.Spec PyProof.Rows L2 TW
end Td
set_option Elab.async false
set_option linter.all false
set_option maxRecDepth 100000
namespace Td
open PySem PySem.Spec PyProof.Rows L2 TW
def Clo (ks : List (Int × Int)) (S : Int → Prop) : Prop := ∀ p ∈ ks, S p.1 ↔ S p.2
theorem Clo.tied {ks : List (Int × Int)} {S : Int → Prop} (h : Clo ks S) {x y : Int} (t : tiedB ks x y = true) : S x ↔ S y := by
  unfold tiedB at t
  have m := h _ (of_decide_eq_true t)
  by_cases q : x ≤ y
  · rw [show min x y = x by omega, show max x y = y by omega] at m; exact m
  · rw [show min x y = y by omega, show max x y = x by omega] at m; exact m.symm
section
variable {n : Int} {ks : List (Int × Int)} {v : Int}
theorem up_nodup {r : List Int} (h : r.Pairwise (· < ·)) : r.Nodup := h.imp fun h e => by omega
end
def stepH (h : List Int) (p : Int × Int) : List Int := if p.1 ∈ h ∧ p.2 ∉ h then h ++ [p.2] else if p.2 ∈ h ∧ p.1 ∉ h then h ++ [p.1] else h
structure Here (n : Int) (ks : List (Int × Int)) (h : List Int) : Prop where
  nd : h.Nodup
  ran : ∀ x ∈ h, 0 ≤ x ∧ x < n
  many : h.length ≤ (ks.countP fun p => decide (p.1 ∈ h ∧ p.2 ∈ h)) + 1
  tied : h = [0] ∨ ∀ x ∈ h, ∃ p ∈ ks, x = p.1 ∨ x = p.2
theorem countP_more {α : Type} {f g : α → Bool} (hfg : ∀ x, f x = true → g x = true) : ∀ {l : List α} {p : α}, p ∈ l → f p = false → g p = true → l.countP f + 1 ≤ l.countP g
  | q :: l, p, hp, h1, h2 => by
    rcases List.mem_cons.mp hp with e | hp
    · subst e
      have := List.countP_mono_left (l := l) fun x _ => hfg x
      rw [List.countP_cons_of_neg (by simp [h1]), List.countP_cons_of_pos h2]
      omega
    · have ih := countP_more hfg hp h1 h2
      by_cases a : f q = true
      · rw [List.countP_cons_of_pos a, List.countP_cons_of_pos (hfg q a)]; omega
      · rw [List.countP_cons_of_neg a]
        by_cases b : g q = true
        · rw [List.countP_cons_of_pos b]; omega
        · rw [List.countP_cons_of_neg b]; exact ih
theorem Here.add {n : Int} {ks : List (Int × Int)} {h : List Int} (H : Here n ks h) {p : Int × Int} (hp : p ∈ ks) {x y : Int} (e : p = (x, y) ∨ p = (y, x)) (hx : x ∈ h) (hy : y ∉ h) (ry : 0 ≤ y ∧ y < n) : Here n ks (h ++ [y]) := by
  refine ⟨List.nodup_append.mpr ⟨H.nd, by simp, fun a ha b hb q => ?_⟩, fun z hz => ?_, ?_, .inr fun z hz => ?_⟩
  · rw [List.mem_singleton.mp hb] at q; subst q; exact hy ha
  · rcases List.mem_append.mp hz with z | z
    · exact H.ran _ z
    · rw [List.mem_singleton.mp z]; exact ry
  · have := countP_more (f := fun p : Int × Int => decide (p.1 ∈ h ∧ p.2 ∈ h)) (g := fun p : Int × Int => decide (p.1 ∈ h ++ [y] ∧ p.2 ∈ h ++ [y])) (fun q hq => by
      have := of_decide_eq_true hq
      simp [this.1, this.2]) hp (by rcases e with rfl | rfl <;> simp [hy]) (by rcases e with rfl | rfl <;> simp [hx])
    have hm := H.many
    rw [List.length_append, List.length_singleton]
    omega
  · have px : ∃ p ∈ ks, x = p.1 ∨ x = p.2 := ⟨p, hp, by rcases e with rfl | rfl <;> simp⟩
    have py : ∃ p ∈ ks, y = p.1 ∨ y = p.2 := ⟨p, hp, by rcases e with rfl | rfl <;> simp⟩
    rcases List.mem_append.mp hz with z' | z'
    · rcases H.tied with q | q
      · subst q
        rw [List.mem_singleton.mp z', ← List.mem_singleton.mp hx]
        exact px
      · exact q z z'
    · rw [List.mem_singleton.mp z']; exact py
theorem Here.step {n : Int} {ks : List (Int × Int)} {h : List Int} (H : Here n ks h) {p : Int × Int} (hp : p ∈ ks) (rp : 0 ≤ p.1 ∧ p.1 < p.2 ∧ p.2 < n) : Here n ks (stepH h p) := by
  unfold stepH
  split
  · rename_i q; exact H.add hp (.inl rfl) q.1 q.2 (by omega)
  · split
    · rename_i q; exact H.add hp (.inr rfl) q.1 q.2 (by omega)
    · exact H
end Td
set_option Elab.async false
set_option linter.all false
set_option maxRecDepth 100000
namespace Td
open PySem PySem.Spec PyProof.Rows L2 TW
end Td
set_option Elab.async false
set_option linter.all false
set_option maxRecDepth 100000
namespace Td
open PySem PySem.Spec PyProof.Rows L2 TW
end Td
set_option Elab.async false
set_option linter.all false
set_option maxRecDepth 100000
namespace Td
open PySem PySem.Spec PyProof.Rows L2 TW
structure Ties (m : Int) (es : List (Int × Int)) : Prop where
  nd : es.Nodup
  ok : ∀ p ∈ es, 0 ≤ p.1 ∧ p.1 < p.2 ∧ p.2 < m
  few : es.length ≤ 20
theorem Ties.add {m : Int} {es : List (Int × Int)} (h : Ties m es) (hl : es.length ≤ 19) {p : Int × Int} (hp : p ∉ es) (ok : 0 ≤ p.1 ∧ p.1 < p.2 ∧ p.2 < m) : Ties m (es ++ [p]) :=
  ⟨List.nodup_append.mpr ⟨h.nd, by simp, fun a ha b hb e => by rw [List.mem_singleton.mp hb] at e; subst e; exact hp ha⟩, fun q hq => by
    rcases List.mem_append.mp hq with z | z
    · exact h.ok q z
    · rw [List.mem_singleton.mp z]; exact ok, by rw [List.length_append, List.length_singleton]; omega⟩
end Td
set_option Elab.async false
set_option linter.all false
set_option maxRecDepth 100000
namespace Td
open PySem PySem.Spec PyProof.Rows L2 TW
def inC (c : List Int) (p : Int × Int) : Bool := decide (p.1 ∈ c) && decide (p.2 ∈ c)
def leftL (ks : List (Int × Int)) (so : List (List Int)) : List (Int × Int) := ks.filter fun p => !(so.any fun c => inC c p)
def degS (so : List (List Int)) (x : Int) : Nat := so.countP fun o => decide (x ∈ o)
def mayB (so : List (List Int)) (c : List Int) : Bool := (so.all fun o => decide ((c.filter fun x => decide (x ∈ o)).length ≤ 1)) && (c.all fun x => decide (degS so x ≤ 1))
def nextsL (ks : List (Int × Int)) (cs : List (List Int)) (so : List (List Int)) : List (List (List Int)) := match leftL ks so with
  | [] => []
  | p :: _ => (cs.filter fun c => inC c p && mayB so c).map fun c => so ++ [c]
def begunL (ks : List (Int × Int)) (cs : List (List Int)) : Nat → List (List (List Int))
  | 0 => [[]]
  | t + 1 => (begunL ks cs t).flatMap (nextsL ks cs)
def leafB (ks : List (Int × Int)) (so : List (List Int)) : Bool := decide (leftL ks so = [])
def foundL (ks : List (Int × Int)) (cs : List (List Int)) : Nat → List (List (List Int))
  | 0 => []
  | t + 1 => foundL ks cs t ++ (begunL ks cs t).filter (leafB ks)
end Td
set_option Elab.async false
set_option linter.all false
set_option maxRecDepth 100000
namespace Td
open PySem PySem.Spec PyProof.Rows L2 TW
structure Part (n : Int) (ks : List (Int × Int)) (so : List (List Int)) : Prop where
  crow : ∀ c ∈ so, Crow n ks c ∧ 2 ≤ c.length
  two : ∀ x, degS so x ≤ 2
theorem deg_add (so : List (List Int)) (c : List Int) (x : Int) : degS (so ++ [c]) x = degS so x + if decide (x ∈ c) = true then 1 else 0 := by
  unfold degS
  rw [List.countP_append]
  congr 1
  by_cases h : x ∈ c <;> simp [h]
theorem Crow.nd {n : Int} {ks : List (Int × Int)} {c : List Int} (h : Crow n ks c) : c.Nodup := up_nodup h.up
theorem Part.nil {n : Int} {ks : List (Int × Int)} : Part n ks [] := ⟨by simp, fun x => by simp [degS]⟩
theorem Part.add {n : Int} {ks : List (Int × Int)} {so : List (List Int)} (h : Part n ks so) {c : List Int} (hc : Crow n ks c) (h2 : 2 ≤ c.length) (hm : mayB so c = true) : Part n ks (so ++ [c]) := by
  unfold mayB at hm
  simp only [Bool.and_eq_true, List.all_eq_true, decide_eq_true_eq] at hm
  refine ⟨fun d hd => ?_, fun x => ?_⟩
  · rcases List.mem_append.mp hd with z | z
    · exact h.crow d z
    · rw [List.mem_singleton.mp z]; exact ⟨hc, h2⟩
  · rw [deg_add]
    by_cases hx : x ∈ c
    · have := hm.2 x hx
      simp only [hx, decide_true, if_true]
      omega
    · have := h.two x
      simp only [hx, decide_false, Bool.false_eq_true, if_false]
      omega
end Td
set_option Elab.async false
set_option linter.all false
set_option maxRecDepth 100000
namespace Td
open PySem PySem.Spec PyProof.Rows L2 TW
theorem gIn_row (neg : Bool) (x : Int) (c : List Int) : gInX neg (.int x) (tupD c) = .ok (.bool (neg != decide (x ∈ c))) := gIn_intT neg x c
end Td
set_option Elab.async false
set_option linter.all false
set_option maxRecDepth 100000
namespace Td
open PySem PySem.Spec PyProof.Rows L2 TW
def shD (so : List (List Int)) : D := .list (sortD (so.map tupD))
end Td
set_option Elab.async false
set_option linter.all false
set_option maxRecDepth 100000
namespace Td
open PySem PySem.Spec PyProof.Rows L2 TW
end Td
set_option Elab.async false
set_option linter.all false
set_option maxRecDepth 100000
namespace Td
open PySem PySem.Spec PyProof.Rows L2 TW
def rD (so : List (List Int)) : D := .list (so.map tupD)
section
variable {n : Int} {ks : List (Int × Int)} {cs : List (List Int)}
def ls (n : Int) (ks : List (Int × Int)) (cs : List (List Int)) (fo : List (List (List Int))) (s3 : C) (la : List (List (List Int))) (s5 s6 s7 s8 s9 : C) : List C :=
  [.dat (webD n ks), .dat (.list (cs.map tupD)), .own false (fo.map shD), s3, .own false (la.map rD), s5, s6, s7, s8, s9]
def lw (n : Int) (ks : List (Int × Int)) (cs : List (List Int)) (t : Nat) (s4 s5 s6 s7 s8 s9 : C) : List C :=
  [.dat (webD n ks), .dat (.list (cs.map tupD)), .own false ((foundL ks cs t).map shD), .dat (.list ((begunL ks cs t).map rD)), s4, s5, s6, s7, s8, s9]
end
end Td
set_option Elab.async false
set_option linter.all false
set_option maxRecDepth 100000
namespace Td
open PySem PySem.Spec PyProof.Rows L2 TW
def oneC (o c : List Int) : Prop := ∀ x y, x ∈ o → x ∈ c → y ∈ o → y ∈ c → x = y
structure Shr (n : Int) (ks : List (Int × Int)) (so : List (List Int)) : Prop where
  crow : ∀ c ∈ so, Crow n ks c ∧ 2 ≤ c.length
  deg : ∀ x, degS so x ≤ 2
  one : so.Pairwise oneC
  all : ∀ p ∈ ks, ∃ c ∈ so, inC c p = true
theorem deg_perm {so so' : List (List Int)} (h : so.Perm so') (x : Int) : degS so x = degS so' x := h.countP_eq _
theorem Shr.perm {n : Int} {ks : List (Int × Int)} {so so' : List (List Int)} (s : Shr n ks so) (h : so.Perm so') : Shr n ks so' :=
  ⟨fun c hc => s.crow c (h.mem_iff.mpr hc), fun x => by rw [← deg_perm h]; exact s.deg x, (h.pairwise_iff fun q x y a b c d => q x y b a d c).mp s.one, fun p hp => by
    obtain ⟨c, hc, e⟩ := s.all p hp
    exact ⟨c, h.mem_iff.mp hc, e⟩⟩
end Td
set_option Elab.async false
set_option linter.all false
set_option maxRecDepth 100000
namespace Td
open PySem PySem.Spec PyProof.Rows L2 TW
def lsD (l : List Int) : D := .list (l.map .int)
@[simp] theorem gLen_ls {l : List Int} : gLen (lsD l) = .ok (.int l.length) := by simp [lsD]
@[simp] theorem gSeq_ls {l : List Int} : gSeq (lsD l) = .ok (l.map .int) := rfl
@[simp] theorem gTuple_ls {l : List Int} : gTuple (lsD l) = .ok (tupD l) := rfl
end Td
set_option Elab.async false
set_option linter.all false
set_option maxRecDepth 100000
namespace Td
open PySem PySem.Spec PyProof.Rows L2 TW
def tieBody : MS := (mSeq (mIfS (mOr (mNot (mTest (mOp1 (gIsi "tuple") (vVar 1)))) (mOr (mTest (mOp2 gNe (mOp1 gLen (vVar 1)) (mC (.int 2)))) (mOr (mNot (mTest (mCall 1 F__law_whole (mCons (mOp2 gIx (mVar 1) (mC (.int 0))) mNil)))) (mNot (mTest (mCall 1 F__law_whole (mCons (mOp2 gIx (mVar 1) (mC (.int 1))) mNil))))))) (mRet (mC (.bool false))) mNx) (mIfS (mNot (mTest (mChain3 oLe oLt oLt (mC (.int 0)) (mOp2 gIx (mVar 1) (mC (.int 0))) (mOp2 gIx (mVar 1) (mC (.int 1))) (mOp2 gIx (mVar 0) (mC (.int 0)))))) (mRet (mC (.bool false))) mNx))
theorem body_tie {n : Int} {y x : D} {Q : Fl → List C → Prop} (h : noDict x = true) (q1 : tieB n x = true → Q .nx [.dat (.tuple [.int n, y]), .dat x]) (q2 : tieB n x = false → Q (.rt (.bool false)) [.dat (.tuple [.int n, y]), .dat x]) :
    Rn tieBody [.dat (.tuple [.int n, y]), .dat x] Q := by
  have hp := plain_of h
  unfold tieBody
  cases x with
  | tuple xs =>
    match xs, h, hp, q1, q2 with
    | [], h, hp, q1, q2 =>
      refine seq_rt (d := .bool false) ?_
      simp [gIsi, hp, isiD, tyN]
      exact q2 rfl
    | [a], h, hp, q1, q2 =>
      refine seq_rt (d := .bool false) ?_
      simp [gIsi, hp, isiD, tyN]
      exact q2 (by simp [tieB])
    | a :: b :: c :: r, h, hp, q1, q2 =>
      refine seq_rt (d := .bool false) ?_
      have e : ¬ ((r.length : Int) + 1 + 1 + 1 = 2) := by omega
      simp [gIsi, hp, isiD, tyN, e]
      exact q2 (by simp [tieB])
    | [a, b], h, hp, q1, q2 =>
      simp [noDict, noDictAll] at h
      by_cases ha : isI a = true
      rotate_left
      · refine seq_rt (d := .bool false) ?_
        simp [gIsi, hp, isiD, tyN, whole_eq (plain_of h.1), ha]
        exact q2 (by cases a <;> simp [isI] at ha <;> rfl)
      by_cases hb : isI b = true
      rotate_left
      · refine seq_rt (d := .bool false) ?_
        simp [gIsi, hp, isiD, tyN, whole_eq (plain_of h.1), whole_eq (plain_of h.2), ha, hb]
        exact q2 (by cases a <;> simp [isI] at ha; cases b <;> simp [isI] at hb <;> rfl)
      obtain ⟨i, rfl⟩ : ∃ n, a = .int n := by cases a <;> simp [isI] at ha; exact ⟨_, rfl⟩
      obtain ⟨j, rfl⟩ : ∃ n, b = .int n := by cases b <;> simp [isI] at hb; exact ⟨_, rfl⟩
      refine seq_cut (fun c => c = [.dat (.tuple [.int n, y]), .dat (.tuple [.int i, .int j])]) ?_ ?_
      · simp [gIsi, hp, isiD, tyN, whole_eq (plain_of h.1), whole_eq (plain_of h.2), ha, hb]
      rintro c rfl
      have e : tieB n (.tuple [.int i, .int j]) = decide (0 ≤ i ∧ i < j ∧ j < n) := rfl
      rw [e] at q1 q2
      by_cases h1 : 0 ≤ i <;> by_cases h2 : i < j <;> by_cases h3 : j < n <;> simp [h1, h2, h3] at q1 q2 ⊢ <;> assumption
  | _ =>
    refine seq_rt (d := .bool false) ?_
    simp [gIsi, hp, isiD, tyN]
    exact q2 rfl
theorem for_ties {n : Int} {y : D} {Q : Fl → List C → Prop} : ∀ (ts : List D) (s1 : C), noDictAll ts = true → (ts.all (tieB n) = true → ∀ s1, Q .nx [.dat (.tuple [.int n, y]), s1]) → (ts.all (tieB n) = false → ∀ s1, Q (.rt (.bool false)) [.dat (.tuple [.int n, y]), s1]) →
    Rn (forGo [1] fName tieBody ts) [.dat (.tuple [.int n, y]), s1] Q
  | [], s1, _, q1, _ => rn_for_nil.mpr (q1 rfl s1)
  | t :: ts, s1, h, q1, q2 => by
    simp only [noDictAll, Bool.and_eq_true] at h
    refine rn_for_cons.mpr ?_
    rw [fName_ok, ev_ok]
    refine body_tie h.1 (fun e => ?_) fun e => ?_
    · exact for_ties ts _ h.2 (fun z => q1 (by rw [List.all_cons, e, z]; rfl)) fun z => q2 (by rw [List.all_cons, e, z]; rfl)
    · exact q2 (by rw [List.all_cons, e]; rfl) _
theorem law_is_web_eq {d : D} (h : plainD d = true) (h2 : ∀ x y, d = .tuple [x, y] → noDict x = true ∧ noDict y = true) (h3 : ∀ n ts, d = .tuple [n, .tuple ts] → ts.length < 64) : F__law_is_web [d] = .ok (.bool (webB d)) := by
  apply Ev.eq
  unfold F__law_is_web
  rw [ev_fnD]
  unfold b__law_is_web
  cases d with
  | tuple xs =>
    match xs, h, h2, h3 with
    | [], h, h2, h3 =>
      refine seq_rt (d := .bool false) ?_
      simp [unfill, gIsi, h, isiD, tyN, webB]
    | [a], h, h2, h3 =>
      refine seq_rt (d := .bool false) ?_
      simp [unfill, gIsi, h, isiD, tyN, webB]
    | a :: b :: c :: r, h, h2, h3 =>
      refine seq_rt (d := .bool false) ?_
      have e : ¬ ((r.length : Int) + 1 + 1 + 1 = 2) := by omega
      simp [unfill, gIsi, h, isiD, tyN, webB, e]
    | [x, y], h, h2, h3 =>
      obtain ⟨hx, hy⟩ := h2 x y rfl
      by_cases hi : isI x = true
      rotate_left
      · refine seq_rt (d := .bool false) ?_
        simp [unfill, gIsi, h, isiD, tyN, whole_eq (plain_of hx), hi]
        exact webB_not (by simpa using hi)
      obtain ⟨n, rfl⟩ : ∃ n, x = .int n := by cases x <;> simp [isI] at hi; exact ⟨_, rfl⟩
      by_cases hb : 0 ≤ n ∧ n ≤ 14
      rotate_left
      · refine seq_rt (d := .bool false) ?_
        have e := webB_far (y := y) hb
        by_cases h0 : 0 ≤ n
        · have h14 : ¬ n ≤ 14 := fun z => hb ⟨h0, z⟩
          simp [unfill, gIsi, h, isiD, tyN, whole_eq (plain_of hx), hi, h0, h14, e]
        · simp [unfill, gIsi, h, isiD, tyN, whole_eq (plain_of hx), hi, h0, e]
      refine seq_cut (fun c => c = [.dat (.tuple [.int n, y]), .un]) ?_ ?_
      · simp [unfill, gIsi, h, isiD, tyN, whole_eq (plain_of hx), hi, hb.1, hb.2]
      rintro c rfl
      cases y with
      | tuple ts =>
        refine seq_cut (fun c => c = [.dat (.tuple [.int n, .tuple ts]), .un]) ?_ ?_
        · simp [gIsi, plain_of hy, isiD, tyN]
        rintro c rfl
        have few := h3 _ ts rfl
        have hn : noDictAll ts = true := by simpa [noDict] using hy
        rw [rn_mSeq, rn_mFor]
        simp only [rn_mSeq1, rn_mOp2, rn_mVar, onVar_dat, rn_mC, List.getElem?_cons_zero, gIx_t1, ev_ok, gSeq_tuple]
        refine for_ties (n := n) ts .un hn (fun ha s1 => ?_) fun ha s1 => ?_
        · obtain ⟨ks, rfl, _⟩ := ties_inv ha
          have hv : webB (.tuple [.int n, .tuple (ks.map tieD)]) = risB ks := by
            have z : webB (.tuple [.int n, .tuple (ks.map tieD)]) = (decide (0 ≤ n) && decide (n ≤ 14) && ((ks.map tieD).all (tieB n) && risB ((ks.map tieD).map unTie))) := rfl
            rw [z, ha, List.map_map]
            simp [hb.1, hb.2, Function.comp_def]
          obtain ⟨ls, e1, e2, e3⟩ := setsort_ties (ks := ks) (d := .tuple (ks.map tieD)) rfl (by simpa using few)
          simp [e1]
          rw [hv, ← rising_iff e2 e3]
          unfold gEq
          rw [ties_tup, ties_tup, shaped_rows, shaped_rows]
          simp only [Bool.and_self, if_true, ev_ok, PyData.eqv, eqv_rows]
          refine congrArg _ (decide_eq_decide.mpr ⟨fun z => ?_, fun z => by rw [z]⟩)
          exact List.map_inj_right (fun _ _ h => rowP_inj h) |>.mp z
        · have e : webB (.tuple [.int n, .tuple ts]) = false := by
            have z : webB (.tuple [.int n, .tuple ts]) = (decide (0 ≤ n) && decide (n ≤ 14) && (ts.all (tieB n) && risB (ts.map unTie))) := rfl
            rw [z, ha]
            simp
          rw [e]
          rfl
      | _ =>
        refine seq_rt (d := .bool false) ?_
        simp [gIsi, plain_of hy, isiD, tyN, webB]
  | _ =>
    refine seq_rt (d := .bool false) ?_
    simp [unfill, gIsi, h, isiD, tyN, webB]
end Td
set_option Elab.async false
set_option linter.all false
set_option maxRecDepth 100000
namespace Td
open PySem PySem.Spec PyProof.Rows L2 TW
theorem webB_inv {r : D} (h : webB r = true) : ∃ m ls, r = webD m ls ∧ Web m ls := by
  unfold webB at h
  split at h
  · rename_i n ts
    simp only [Bool.and_eq_true, decide_eq_true_eq] at h
    obtain ⟨⟨h1, h2⟩, h3, h4⟩ := h
    obtain ⟨ks, rfl, hk⟩ := ties_inv h3
    refine ⟨n, ks, rfl, ⟨h1, h2⟩, ?_, hk⟩
    rw [List.map_map] at h4
    exact risB_iff.mp (by simpa [Function.comp_def] using h4)
  · cases h
def elts (d : D) : List D := match d with | .tuple xs => xs | _ => []
end Td
set_option Elab.async false
set_option linter.all false
set_option maxRecDepth 100000
namespace Td
open PySem PySem.Spec PyProof.Rows L2 TW
open TL (tl spl joinL numL)
open NumText (digitsVal AllDigits)
abbrev S := SX.S
def strD (l : List Nat) : D := .str (S l)
def plainS (l : List Nat) : Prop := ∀ c ∈ l, c < 128
theorem strOk_S {l : List Nat} (h : plainS l) : PyData.strOk (S l) = true := by
  unfold PyData.strOk
  rw [← Array.all_toList]
  exact List.all_eq_true.mpr fun c hc => by have := h c hc; simp; omega
theorem shaped_S {l : List Nat} (h : plainS l) : SeqAt.shaped (strD l) = true := by
  unfold SeqAt.shaped strD
  rw [Bool.and_eq_true, decide_eq_true_eq]
  exact ⟨strOk_S h, by simp [PyData.depth]⟩
theorem eqv_S (a b : List Nat) : PyData.eqv (strD a) (strD b) = decide (a = b) := by
  unfold strD
  simp only [PyData.eqv]
  exact SX.S_beq_eq
theorem gEq_S {a b : List Nat} (ha : plainS a) (hb : plainS b) : gEq (strD a) (strD b) = .ok (.bool (decide (a = b))) := by
  simp only [gEq, shaped_S ha, shaped_S hb, Bool.and_self, if_true, eqv_S]
theorem gNe_S {a b : List Nat} (ha : plainS a) (hb : plainS b) : gNe (strD a) (strD b) = .ok (.bool (!decide (a = b))) := by
  simp only [gNe, shaped_S ha, shaped_S hb, Bool.and_self, if_true, eqv_S]
theorem gLen_S {a : List Nat} (h : a.length ≤ 16777216) : gLen (strD a) = .ok (.int (a.length : Nat)) := by
  unfold gLen strD
  simp only [SX.S_len]
  rw [if_pos (by simp [szOk, h])]
theorem gAdd_S {a b : List Nat} (h : a.length + b.length ≤ 16777216) : gAdd (strD a) (strD b) = .ok (strD (a ++ b)) := by
  have hz : szOk ((S a).length + (S b).length) = true := by rw [SX.S_len, SX.S_len]; simp [szOk, h]
  have : gCatS (strD a) (strD b) = .ok (strD (a ++ b)) := by
    unfold strD
    show (if szOk ((S a).length + (S b).length) = true then R.ok (PyData.str (S a ++ S b)) else R.bad) = _
    rw [if_pos hz, SX.S_cat]
  unfold gAdd gOr
  have h1 : gI (· + ·) (strD a) (strD b) = .bad := rfl
  have h2 : gCatT (strD a) (strD b) = .bad := rfl
  simp only [h1, h2, this]
theorem gIx_S {a : List Nat} {i : Nat} {c : Nat} (h : a[i]? = some c) (hl : a.length ≤ 16777216) : gIx (strD a) (.int i) = .ok (strD [c]) := by
  unfold gIx strD
  simp only [SX.S_len]
  rw [if_pos (by simp [szOk, hl])]
  rw [atI_nat h]
theorem gSplit_S {a : List Nat} {s : Nat} (hs : s < 256) (hl : a.length + 2 ≤ 16777216) : gSplit (S a) (strD [s]) = .ok ((spl [s] 0 [] a).map strD) := by
  unfold gSplit strD
  simp only
  rw [if_pos (by rw [SX.S_len, SX.S_len]; simp [szOk]; omega), SX.split_S (by simp) (by simp [hs]), List.map_map]
  rfl
theorem strsD_S (ws : List (List Nat)) : strsD (ws.map strD) = some (ws.map S) := by
  have := strsD_map (ws.map S)
  rw [List.map_map] at this
  exact this
def joinLen (ws : List (List Nat)) : Nat := (ws.map (·.length)).sum + ws.length
theorem gJoin_S {s : Nat} {ws : List (List Nat)} (h : joinLen ws ≤ 16777216) : gJoin (S [s]) (.list (ws.map strD)) = .ok (strD (joinL [s] ws)) := by
  unfold gJoin
  simp only [strsD_S, SX.lens, SX.S_len, SX.join_S, List.length_map]
  rw [if_pos]
  · rfl
  · unfold joinLen at h
    simp
    simpa using h
theorem gSl_to {a : List Nat} {k : Nat} (hl : a.length ≤ 16777216) : gSl (strD a) none (some (k : Int)) = .ok (strD (a.take k)) := by
  unfold gSl strD
  simp only [SX.S_len]
  rw [if_pos (by simp [szOk, hl])]
  unfold cutS
  rw [HT.sIx_none, HT.sIx_nat, List.drop_zero, Nat.sub_zero, SX.S_len]
  congr 3
  show ((a.take (min k a.length)).toArray) = _
  by_cases h : k ≤ a.length
  · rw [Nat.min_eq_left h]
  · rw [Nat.min_eq_right (by omega), List.take_of_length_le (by omega), List.take_of_length_le (by omega)]
theorem gSl_from {a : List Nat} {k : Nat} (hl : a.length ≤ 16777216) : gSl (strD a) (some (k : Int)) none = .ok (strD (a.drop k)) := by
  unfold gSl strD
  simp only [SX.S_len]
  rw [if_pos (by simp [szOk, hl])]
  unfold cutS
  rw [HT.sIx_none, HT.sIx_nat, SX.S_len]
  congr 3
  show ((a.drop (min k a.length)).take (a.length - min k a.length)).toArray = _
  rw [List.take_of_length_le (by rw [List.length_drop]; omega)]
  by_cases h : k ≤ a.length
  · rw [Nat.min_eq_left h]
  · rw [Nat.min_eq_right (by omega), List.drop_of_length_le (by omega), List.drop_of_length_le (by omega)]
theorem gSl_mid {a : List Nat} {j k : Nat} (hl : a.length ≤ 16777216) : gSl (strD a) (some (j : Int)) (some (k : Int)) = .ok (strD ((a.drop j).take (k - j))) := by
  unfold gSl strD
  simp only [SX.S_len]
  rw [if_pos (by simp [szOk, hl])]
  unfold cutS
  rw [HT.sIx_nat, HT.sIx_nat, SX.S_len]
  congr 3
  show ((a.drop (min j a.length)).take (min k a.length - min j a.length)).toArray = _
  congr 1
  by_cases h : j ≤ a.length
  · rw [Nat.min_eq_left h]
    by_cases h1 : k ≤ a.length
    · rw [Nat.min_eq_left h1]
    · rw [Nat.min_eq_right (by omega), List.take_of_length_le (by rw [List.length_drop]; omega), List.take_of_length_le (by rw [List.length_drop]; omega)]
  · rw [Nat.min_eq_right (by omega : a.length ≤ j), List.drop_of_length_le (Nat.le_refl _), List.drop_of_length_le (by omega), List.take_nil, List.take_nil]
theorem gSl_but {a : List Nat} (hl : a.length ≤ 16777216) : gSl (strD a) none (some (-1)) = .ok (strD a.dropLast) := by
  unfold gSl strD
  simp only [SX.S_len]
  rw [if_pos (by simp [szOk, hl])]
  unfold cutS
  rw [HT.sIx_none, List.drop_zero, Nat.sub_zero, SX.S_len]
  have : HT.sIx a.length a.length (some (-1)) = a.length - 1 := by
    unfold HT.sIx
    simp
    omega
  rw [this]
  congr 3
  rw [List.dropLast_eq_take]
theorem gSl_last {a : List Nat} (hl : a.length ≤ 16777216) : gSl (strD a) (some (-1)) none = .ok (strD (a.drop (a.length - 1))) := by
  unfold gSl strD
  simp only [SX.S_len]
  rw [if_pos (by simp [szOk, hl])]
  unfold cutS
  have : HT.sIx a.length 0 (some (-1)) = a.length - 1 := by
    unfold HT.sIx
    simp
    omega
  rw [HT.sIx_none, SX.S_len, this]
  congr 3
  show ((a.drop (a.length - 1)).take (a.length - (a.length - 1))).toArray = _
  rw [List.take_of_length_le (by rw [List.length_drop]; omega)]
def isDig (c : Nat) : Bool := decide (48 ≤ c) && decide (c ≤ 57)
theorem dig_iff {w : List Nat} : w.all isDig = true ↔ AllDigits w := by
  rw [List.all_eq_true]
  unfold AllDigits isDig
  simp
def digs : List Nat := [48, 49, 50, 51, 52, 53, 54, 55, 56, 57]
theorem dig_mem (c : Nat) : c ∈ digs ↔ isDig c = true := by
  unfold isDig digs
  simp
  omega
theorem digs_str : (.str "0123456789" : D) = strD digs := by
  unfold strD
  congr 1
theorem gIn_S (c : Nat) (a : List Nat) : gInX false (strD [c]) (strD a) = .ok (.bool (decide (c ∈ a))) := by
  have h1 : gIn false (strD [c]) (strD a) = .bad := rfl
  unfold gInX gOr
  simp only [h1]
  unfold gInS strD inS
  simp only [Bool.false_bne, SX.in_one]
theorem stripHi_all {goes : Nat → Bool} : ∀ {l : List Nat}, (∀ c ∈ l, goes c = true) → l.takeWhile goes = l := fun {l} h => by
  induction l with
  | nil => rfl
  | cons c l ih => rw [List.takeWhile_cons_of_pos (h c List.mem_cons_self), ih fun x hx => h x (List.mem_cons_of_mem _ hx)]
theorem tw_true {p : Nat → Bool} {x : Nat} : ∀ {l : List Nat}, x ∈ l.takeWhile p → p x = true
  | [], h => by cases h
  | c :: l, h => by
    by_cases q : p c = true
    · rw [List.takeWhile_cons_of_pos q] at h
      rcases List.mem_cons.mp h with z | z
      · rw [z]; exact q
      · exact tw_true z
    · rw [List.takeWhile_cons_of_neg q] at h
      cases h
theorem strip_nil {a : List Nat} : Txt.stripChars (S a) (S digs) = S [] ↔ a.all isDig = true := by
  have cont : ∀ c, (S digs).cps.contains c = isDig c := fun c => by
    show (digs.toArray).contains c = _
    rw [List.contains_toArray, List.contains_eq_mem]
    rw [Bool.eq_iff_iff, decide_eq_true_eq, dig_mem]
  have len0 : ∀ x : Str, x = S [] ↔ x.length = 0 := fun x => by
    rw [TL.len_tl]
    constructor
    · rintro rfl; rfl
    · intro h
      exact TL.ext_tl (by rw [List.length_eq_zero_iff.mp h])
  have hgo : (S digs).cps.contains = isDig := funext cont
  unfold Txt.stripChars Txt.stripBy
  rw [hgo]
  constructor
  · intro h
    by_cases q : a.all isDig = true
    · exact q
    exfalso
    obtain ⟨c, hc, hd⟩ : ∃ c ∈ a, isDig c = false := by
      obtain ⟨c, h1, h2⟩ := List.all_eq_false.mp (by simpa using q)
      exact ⟨c, h1, by simpa using h2⟩
    split at h
    · have := (len0 _).mp h
      rw [SX.S_len] at this
      rw [List.length_eq_zero_iff.mp this] at hc
      cases hc
    · have h0 := (len0 _).mp h
      unfold stripped at h0
      rw [TL.len_tl, TL.tl_strSub, List.length_take, List.length_drop] at h0
      unfold stripHi stripLo at h0
      simp only [if_true] at h0
      have el : (S a).cps.toList = a := rfl
      rw [SX.S_len] at h0
      have el2 : (tl (S a)).length = a.length := rfl
      rw [el2] at h0
      -- the first sign that is no digit stays
      have split1 := List.takeWhile_append_dropWhile (p := isDig) (l := a)
      have lo : (a.takeWhile isDig).length < a.length := by
        apply Classical.byContradiction
        intro z
        have : a.takeWhile isDig = a := List.IsPrefix.eq_of_length_le (List.takeWhile_prefix _) (by omega)
        have : isDig c = true := tw_true (by rw [this]; exact hc)
        rw [hd] at this
        cases this
      have dr : a.drop (a.takeWhile isDig).length = a.dropWhile isDig := by
        have := congrArg (List.drop (a.takeWhile isDig).length) split1
        rw [List.drop_left] at this
        exact this.symm
      rw [dr] at h0
      have hi : ((a.dropWhile isDig).reverse.takeWhile isDig).length < (a.dropWhile isDig).length := by
        apply Classical.byContradiction
        intro z
        have e : (a.dropWhile isDig).reverse.takeWhile isDig = (a.dropWhile isDig).reverse := List.IsPrefix.eq_of_length_le (List.takeWhile_prefix _) (by rw [List.length_reverse]; omega)
        have ne : a.dropWhile isDig ≠ [] := fun z => by
          rw [z, List.append_nil] at split1
          rw [split1] at lo
          omega
        have hh := List.head_dropWhile_not isDig (l := a) ne
        have : isDig ((a.dropWhile isDig).head ne) = true := tw_true (l := (a.dropWhile isDig).reverse) (by rw [e]; exact List.mem_reverse.mpr (List.head_mem ne))
        simp [hh] at this
      have ld : (a.dropWhile isDig).length = a.length - (a.takeWhile isDig).length := by rw [← dr, List.length_drop]
      omega
  · intro h
    have h' := List.all_eq_true.mp h
    have tw : a.takeWhile isDig = a := stripHi_all h'
    rw [len0]
    split
    · rename_i z
      unfold stripSame stripLo at z
      simp only [if_true] at z
      rw [tw] at z
      simp at z
      rw [z.1]
      rfl
    · unfold stripped stripLo
      simp only [if_true]
      rw [tw, TL.len_tl, TL.tl_strSub, List.length_take, List.length_drop]
      show min _ (a.length - a.length) = 0
      omega
end Td
set_option Elab.async false
set_option linter.all false
set_option maxRecDepth 100000
namespace Td
open PySem PySem.Spec PyProof.Rows L2 TW
open TL (tl spl joinL numL)
open NumText (digitsVal AllDigits)
def lead : List Nat → Bool
  | 48 :: _ :: _ => true
  | _ => false
def numQ (w : List Nat) : Option Nat := if (!w.isEmpty && w.all isDig) && !lead w then some (digitsVal w) else none
def numP (w : List Nat) : Option Nat := if w.length ≤ 2 then numQ w else none
def numD : Option Nat → D
  | some n => .int n
  | none => .none
theorem numL_head : ∀ n : Nat, 0 < n → (numL n).head? ≠ some 48 := fun n => by
  induction n using Nat.strongRecOn with
  | _ n ih =>
    intro h
    by_cases hn : n < 10
    · rw [TL.numL_lt hn]
      simp
      omega
    · rw [TL.numL_step (by omega)]
      have := ih (n / 10) (by omega) (by omega)
      cases e : numL (n / 10) with
      | nil => exact absurd e (TL.numL_ne _)
      | cons x l => rw [e] at this; exact this
theorem lead_num (n : Nat) : lead (numL n) = false := by
  by_cases h : n < 10
  · rw [TL.numL_lt h]
    unfold lead
    split
    · rename_i e; simp at e
    · rfl
  · have := numL_head n (by omega)
    unfold lead
    split
    · rename_i e; rw [e] at this; simp at this
    · rfl
theorem numQ_num (n : Nat) : numQ (numL n) = some n := by
  unfold numQ
  have h1 : (numL n).isEmpty = false := by
    cases e : numL n with
    | nil => exact absurd e (TL.numL_ne n)
    | cons => rfl
  rw [h1, dig_iff.mpr (TL.numL_digits n), lead_num, TL.numL_val]
  rfl
theorem digitsVal_snoc (r : List Nat) (c : Nat) : digitsVal (r ++ [c]) = digitsVal r * 10 + (c - 48) := by
  unfold digitsVal
  rw [List.foldl_append]
  rfl
theorem num_back : ∀ (k : Nat) (w : List Nat), w.length = k → w ≠ [] → AllDigits w → lead w = false → w = numL (digitsVal w) := fun k => by
  induction k with
  | zero => intro w hl hne; exact absurd (List.length_eq_zero_iff.mp hl) hne
  | succ k ih =>
    intro w hl hne hd hz
    obtain ⟨r, c, rfl⟩ : ∃ r c, w = r ++ [c] := ⟨w.dropLast, w.getLast hne, (List.dropLast_concat_getLast hne).symm⟩
    have hc := hd c (by simp)
    rw [digitsVal_snoc]
    cases r with
    | nil =>
      have : digitsVal [] = 0 := rfl
      rw [this, TL.numL_lt (by omega)]
      simp
      omega
    | cons a r =>
      have hdr : AllDigits (a :: r) := fun x hx => hd x (List.mem_append_left _ hx)
      have ha : a ≠ 48 := fun z => by
        subst z
        cases r <;> simp [lead] at hz
      have hzr : lead (a :: r) = false := by
        unfold lead
        split
        · rename_i e; exact absurd (List.cons.inj e).1 ha
        · rfl
      have e := ih (a :: r) (by simp at hl ⊢; omega) (by simp) hdr hzr
      have pos : 0 < digitsVal (a :: r) := by
        apply Classical.byContradiction
        intro z
        have z0 : digitsVal (a :: r) = 0 := by omega
        rw [z0, TL.numL_lt (by omega)] at e
        exact ha (List.cons.inj e).1
      rw [TL.numL_step (by omega)]
      have h1 : (digitsVal (a :: r) * 10 + (c - 48)) / 10 = digitsVal (a :: r) := by omega
      have h2 : (digitsVal (a :: r) * 10 + (c - 48)) % 10 = c - 48 := by omega
      rw [h1, h2, ← e]
      congr 2
      omega
theorem numQ_inv {w : List Nat} {n : Nat} (h : numQ w = some n) : w = numL n := by
  unfold numQ at h
  split at h
  · rename_i c
    simp only [Bool.and_eq_true, Bool.not_eq_true'] at c
    cases h
    exact num_back w.length w rfl (fun z => by rw [z] at c; simp at c) (dig_iff.mp c.1.2) c.2
  · cases h
theorem numP_num {n : Nat} (h : n < 100) : numP (numL n) = some n := by
  unfold numP
  rw [if_pos (TL.numL_len (k := 2) (by decide) (by omega)), numQ_num]
theorem num_plain (n : Nat) : plainS (numL n) := fun c hc => by
  have := TL.numL_digits n c hc
  omega
@[simp] theorem asS_S {a : List Nat} {Q : Str → Prop} : AsS (strD a) Q ↔ Q (S a) := Iff.rfl
theorem plain_nil : plainS [] := fun c h => by cases h
theorem plain_one {c : Nat} (h : c < 128) : plainS [c] := fun x hx => by rw [List.mem_singleton.mp hx]; exact h
theorem str0 : (.str "0" : D) = strD [48] := rfl
theorem strE : (.str "" : D) = strD [] := rfl
theorem gInt_S {a : List Nat} (h : AllDigits a) (h1 : a ≠ []) (hl : a.length ≤ 640) : gIntS (strD a) = .ok (.int (digitsVal a : Nat)) := by
  unfold gIntS strD
  have e : intText? (S a) = some ((digitsVal a : Nat) : Int) := PySem.intText_digits h h1 (by rw [SX.S_len]; omega)
  simp only [e, SX.S_len]
  rw [if_pos (by simpa using hl)]
theorem number_in_eq {a : List Nat} (hp : plainS a) (hl : a.length ≤ 100000) : F_number_in [strD a] = .ok (numD (numP a)) := by
  apply Ev.eq
  unfold F_number_in
  rw [ev_fnD]
  unfold b_number_in
  show Rn _ [.dat (strD a), .un] _
  have gl := gLen_S (a := a) (by omega)
  have gs : gSigns (strD a) = .ok (a.map fun c => strD [c]) := by
    unfold gSigns strD
    simp only [SX.S_len]
    rw [if_pos (by simp [szOk]; omega)]
    rfl
  have comp : ∀ {QL : List D → List C → Prop}, QL (a.map fun c => .bool (isDig c)) [.dat (strD a), .un] → Rn (compGo [1] [1] fName mYes (mOp2 (gInX false) (mVar 1) (mC (.str "0123456789"))) (a.map fun c => strD [c])) [.dat (strD a), .un] QL := fun {QL} hq =>
    comp_mapM (φ := fun c => strD [c]) (g := fun c => .bool (isDig c)) (fun c hc => by
      have g := gIn_S c digs
      have : decide (c ∈ digs) = isDig c := by rw [Bool.eq_iff_iff, decide_eq_true_eq, dig_mem]
      rw [this] at g
      rw [show fName (strD [c]) = .ok [strD [c]] from rfl, ev_ok]
      simp [setC, wipeC, digs_str, g]) hq
  have ga := gAll_map isDig a
  by_cases h12 : 1 ≤ a.length ∧ a.length ≤ 2
  · cases hd : a.all isDig with
    | false =>
      have e : numP a = none := by unfold numP numQ; simp [hd]
      rw [e]
      refine seq_rt (d := .none) ?_
      rw [hd] at ga
      have h1 : (1 : Int) ≤ a.length := by omega
      have h2 : (a.length : Int) ≤ 2 := by omega
      simp [gl, h1, h2, gs, rn_mComp, wipeC]
      refine comp ?_
      simp [ga, numD]
    | true =>
      have hd' := dig_iff.mp hd
      rw [hd] at ga
      have h1 : (1 : Int) ≤ a.length := by omega
      have h2 : (a.length : Int) ≤ 2 := by omega
      refine seq_cut (fun c => c = [.dat (strD a), .un]) ?_ ?_
      · simp [gl, h1, h2, gs, rn_mComp, wipeC]
        refine comp ?_
        simp [ga]
      rintro c rfl
      obtain ⟨x, r, rfl⟩ : ∃ x r, a = x :: r := by
        cases a with
        | nil => simp at h12
        | cons x r => exact ⟨x, r, rfl⟩
      have g0 := gIx_S (a := x :: r) (i := 0) (c := x) rfl (by omega)
      have hx : x < 128 := hp x List.mem_cons_self
      have ge := gEq_S (a := [x]) (b := [48]) (plain_one hx) (plain_one (by omega))
      have g0' : gIx (strD (x :: r)) (.int 0) = .ok (strD [x]) := g0
      by_cases z : x = 48 ∧ r ≠ []
      · have e : numP (x :: r) = none := by
          have : lead (x :: r) = true := by
            obtain ⟨z1, z2⟩ := z
            subst z1
            cases r with
            | nil => exact absurd rfl z2
            | cons => rfl
          unfold numP numQ
          simp [this]
        rw [e]
        have hr : 0 < r.length := List.length_pos_iff.mpr z.2
        rw [z.1] at ge g0' gl ⊢
        refine seq_rt (d := .none) ?_
        have l1 : (1 : Int) < ((48 :: r).length : Nat) := by simp; omega
        simp at l1
        simp [g0', str0, ge, gl, numD]
        omega
      · have e : numP (x :: r) = some (digitsVal (x :: r)) := by
          have : lead (x :: r) = false := by
            unfold lead
            split
            · rename_i e
              obtain ⟨e1, e2⟩ := List.cons.inj e
              exact absurd ⟨e1, by rw [e2]; simp⟩ z
            · rfl
          unfold numP numQ
          rw [if_pos h12.2, hd, this]
          rfl
        rw [e]
        have gi := gInt_S hd' (by simp) (by omega)
        refine seq_cut (fun c => c = [.dat (strD (x :: r)), .un]) ?_ ?_
        · by_cases z1 : x = 48
          · have z2 : r = [] := Classical.byContradiction fun q => z ⟨z1, q⟩
            subst z1 z2
            simp [g0', str0, ge, gl]
          · simp [g0', str0, ge, z1]
        rintro c rfl
        simp [gi, numD]
  · have e : numP a = none := by
      unfold numP numQ
      by_cases h : a.length ≤ 2
      · have : a = [] := List.length_eq_zero_iff.mp (by omega)
        subst this
        rfl
      · rw [if_neg h]
    rw [e]
    refine seq_rt (d := .none) ?_
    by_cases h1 : (1 : Int) ≤ a.length
    · have h2 : ¬ ((a.length : Int) ≤ 2) := by omega
      simp [gl, h1, h2, numD]
    · simp [gl, h1, numD]
theorem law_number_eq {a : List Nat} (hp : plainS a) (hl : a.length ≤ 100000) (hd : a.all isDig = true → a.length ≤ 640) : F__law_number [strD a] = .ok (numD (numQ a)) := by
  apply Ev.eq
  unfold F__law_number
  rw [ev_fnD]
  unfold b__law_number
  show Rn _ [.dat (strD a)] _
  have ge0 := gEq_S hp plain_nil
  cases a with
  | nil =>
    refine seq_rt (d := .none) ?_
    simp [strE, ge0, numQ, numD]
  | cons x r =>
    have hx : x < 128 := hp x List.mem_cons_self
    have hs : gStripC (S (x :: r)) (strD digs) = .ok (.str (Txt.stripChars (S (x :: r)) (S digs))) := by
      unfold gStripC strD
      simp only [SX.S_len]
      rw [if_pos (by simp [szOk]; simp at hl; omega)]
    have g0' : gIx (strD (x :: r)) (.int 0) = .ok (strD [x]) := gIx_S (a := x :: r) (i := 0) (c := x) rfl (by omega)
    have ge := gEq_S (a := [x]) (b := [48]) (plain_one hx) (plain_one (by omega))
    have gn := gNe_S (a := x :: r) (b := [48]) hp (plain_one (by omega))
    -- what strip leaves
    obtain ⟨st, est, pst, hst⟩ : ∃ st : List Nat, (.str (Txt.stripChars (S (x :: r)) (S digs)) : D) = strD st ∧ plainS st ∧ (st = [] ↔ (x :: r).all isDig = true) := by
      refine ⟨tl (Txt.stripChars (S (x :: r)) (S digs)), ?_, ?_, ?_⟩
      · exact congrArg PyData.str (SX.S_tl _).symm
      · unfold Txt.stripChars Txt.stripBy
        split
        · exact hp
        · unfold stripped
          rw [TL.tl_strSub]
          exact fun c hc => hp c (List.mem_of_mem_drop (List.mem_of_mem_take hc))
      · rw [← strip_nil]
        exact ⟨fun h => TL.ext_tl h, fun h => by rw [h]⟩
    rw [est] at hs
    have gs := gNe_S pst plain_nil
    cases ha : (x :: r).all isDig with
    | false =>
      have e : numQ (x :: r) = none := by unfold numQ; rw [ha]; rfl
      have : st ≠ [] := fun z => by rw [hst.mp z] at ha; cases ha
      rw [e]
      refine seq_rt (d := .none) ?_
      simp only [rn_mIfS, rn_mOr, rn_mTest, rn_mOp2, rn_mVar, rn_mC, List.getElem?_cons_zero, onVar_dat, strE, ge0, ev_ok, asB_bool]
      simp [digs_str, hs, gs, this, numD]
    | true =>
      have z0 : st = [] := hst.mpr ha
      have hl' := hd ha
      have gi := gInt_S (dig_iff.mp ha) (by simp) hl'
      by_cases z : x = 48 ∧ r ≠ []
      · have e : numQ (x :: r) = none := by
          have : lead (x :: r) = true := by
            obtain ⟨z1, z2⟩ := z
            subst z1
            cases r with
            | nil => exact absurd rfl z2
            | cons => rfl
          unfold numQ
          simp [this]
        rw [e]
        have : ¬ (x :: r = [48]) := fun h => z.2 (List.cons.inj h).2
        refine seq_rt (d := .none) ?_
        simp only [rn_mIfS, rn_mOr, rn_mTest, rn_mOp2, rn_mVar, rn_mC, List.getElem?_cons_zero, onVar_dat, strE, ge0, ev_ok, asB_bool]
        rw [z0] at gs hs
        obtain ⟨z1, z2⟩ := z
        subst z1
        simp [digs_str, hs, gs, g0', str0, ge, gn, numD, z2]
      · have e : numQ (x :: r) = some (digitsVal (x :: r)) := by
          have : lead (x :: r) = false := by
            unfold lead
            split
            · rename_i e
              obtain ⟨e1, e2⟩ := List.cons.inj e
              exact absurd ⟨e1, by rw [e2]; simp⟩ z
            · rfl
          unfold numQ
          rw [ha, this]
          rfl
        rw [e]
        refine seq_cut (fun c => c = [.dat (strD (x :: r))]) ?_ ?_
        · simp only [rn_mIfS, rn_mOr, rn_mTest, rn_mOp2, rn_mVar, rn_mC, List.getElem?_cons_zero, onVar_dat, strE, ge0, ev_ok, asB_bool]
          rw [z0] at gs hs
          by_cases z1 : x = 48
          · have z2 : r = [] := Classical.byContradiction fun q => z ⟨z1, q⟩
            subst z1 z2
            simp [digs_str, hs, gs, g0', str0, ge, gn]
          · simp [digs_str, hs, gs, g0', str0, ge, z1]
        rintro c rfl
        simp [gi, numD]
end Td
set_option Elab.async false
set_option linter.all false
set_option maxRecDepth 100000
namespace Td
open PySem PySem.Spec PyProof.Rows L2 TW
open TL (tl spl joinL numL)
open NumText (digitsVal AllDigits)
def tieT (p : Int × Int) : List Nat := numL p.1.toNat ++ (45 :: numL p.2.toNat)
def textW (n : Int) (ks : List (Int × Int)) : List (List Nat) := (numL n.toNat ++ [58]) :: ks.map tieT
def textL (n : Int) (ks : List (Int × Int)) : List Nat := joinL [32] (textW n ks)
theorem join_spl {s : Nat} (hs : s < 256) (a : List Nat) : joinL [s] (spl [s] 0 [] a) = a := by
  have h1 := PySem.StrLaws.join_split (S a) (S [s])
  rw [SX.split_S (by simp) (by simp [hs]), ← TL.join_eq, SX.join_S] at h1
  exact SX.S_inj h1
theorem sum_le {b : Nat} : ∀ {ws : List (List Nat)}, (∀ w ∈ ws, w.length ≤ b) → (ws.map (·.length)).sum ≤ b * ws.length
  | [], _ => by simp
  | w :: ws, h => by
    have ih := sum_le (ws := ws) fun x hx => h x (List.mem_cons_of_mem _ hx)
    have := h w List.mem_cons_self
    rw [List.map_cons, List.sum_cons, List.length_cons, Nat.mul_succ]
    omega
theorem gStr_num {i : Int} (h : 0 ≤ i ∧ i < 1000000) : gStr (.int i) = .ok (strD (numL i.toNat)) := by
  unfold gStr
  simp only
  rw [if_pos (by simp; omega)]
  obtain ⟨k, rfl⟩ : ∃ k : Nat, i = (k : Int) := ⟨i.toNat, by omega⟩
  have := SX.num_S k
  unfold strD
  rw [Int.toNat_natCast]
  exact congrArg (fun z => R.ok (PyData.str z)) this
theorem num_short {i : Int} (h : 0 ≤ i ∧ i < 100) : (numL i.toNat).length ≤ 2 := TL.numL_len (k := 2) (by decide) (by omega)
theorem strC : (.str ":" : D) = strD [58] := rfl
theorem strM : (.str "-" : D) = strD [45] := rfl
theorem strB : (.str " " : D) = strD [32] := rfl
section
variable {n : Int} {ks : List (Int × Int)}
theorem tie_short (w : Web n ks) : ∀ x ∈ ks.map tieT, x.length ≤ 5 := fun x hx => by
  obtain ⟨p, hp, rfl⟩ := List.mem_map.mp hx
  have t := w.ties p hp
  have := w.many
  have h1 := num_short (i := p.1) (by omega)
  have h2 := num_short (i := p.2) (by omega)
  unfold tieT
  rw [List.length_append, List.length_cons]
  omega
theorem words_short (w : Web n ks) : ∀ x ∈ textW n ks, x.length ≤ 5 := fun x hx => by
  rcases List.mem_cons.mp hx with z | z
  · have := w.many
    have h1 := num_short (i := n) (by omega)
    rw [z, List.length_append]
    simp
    omega
  · exact tie_short w x z
theorem shown_eq (w : Web n ks) : F_shown [webD n ks] = .ok (strD (textL n ks)) := by
  have wn := w.many
  have wl := w.len
  apply Ev.eq
  unfold F_shown
  rw [ev_fnD]
  unfold b_shown
  show Rn _ [.dat (webD n ks), .un, .un] _
  have ln := num_short (i := n) (by omega)
  have g1 : gAdd (strD (numL n.toNat)) (strD [58]) = .ok (strD (numL n.toNat ++ [58])) := gAdd_S (by simp; omega)
  simp [gStr_num (i := n) (by omega), strC, g1, rn_mComp, wipeC]
  refine comp_mapM (φ := tieD) (g := fun p => strD (tieT p)) (fun p hp => ?_) ?_
  · have t := w.ties p hp
    have l1 := num_short (i := p.1) (by omega)
    have l2 := num_short (i := p.2) (by omega)
    have a1 : gAdd (strD (numL p.1.toNat)) (strD [45]) = .ok (strD (numL p.1.toNat ++ [45])) := gAdd_S (by simp; omega)
    have a2 : gAdd (strD (numL p.1.toNat ++ [45])) (strD (numL p.2.toNat)) = .ok (strD (numL p.1.toNat ++ [45] ++ numL p.2.toNat)) := gAdd_S (by simp; omega)
    rw [show fTup 2 (tieD p) = .ok [.int p.1, .int p.2] from rfl, ev_ok]
    simp [setC, wipeC, gStr_num (i := p.1) (by omega), gStr_num (i := p.2) (by omega), strM, a1]
    simp at a2
    simp [a2, tieT]
  · have e : strD (numL n.toNat ++ [58]) :: ks.map (fun p => strD (tieT p)) = (textW n ks).map strD := by
      unfold textW
      rw [List.map_cons, List.map_map]
      rfl
    have lw : (textW n ks).length ≤ 1000 := by unfold textW; rw [List.length_cons, List.length_map]; omega
    have j := gJoin_S (s := 32) (ws := textW n ks) (by
      have := sum_le (words_short w)
      unfold joinLen
      omega)
    refine catl_ev (by simp; omega) ?_
    rw [List.singleton_append, e]
    have sB : Str.ofString " " = S [32] := rfl
    simp [sB, j, textL]
theorem num_noB {i : Nat} {s : Nat} (h : s < 48 ∨ 57 < s) : s ∉ numL i := TL.numL_free h
theorem spl_text (w : Web n ks) : spl [32] 0 [] (textL n ks) = textW n ks := by
  refine TL.spl_join (by simp [textW]) fun p hp => ?_
  rcases List.mem_cons.mp hp with z | z
  · rw [z]
    intro h
    rcases List.mem_append.mp h with h | h
    · exact num_noB (by omega) h
    · simp at h
  · obtain ⟨q, _, rfl⟩ := List.mem_map.mp z
    intro h
    unfold tieT at h
    rcases List.mem_append.mp h with h | h
    · exact num_noB (by omega) h
    · rcases List.mem_cons.mp h with h | h
      · omega
      · exact num_noB (by omega) h
theorem spl_tie (p : Int × Int) : spl [45] 0 [] (tieT p) = [numL p.1.toNat, numL p.2.toNat] := by
  have : tieT p = joinL [45] [numL p.1.toNat, numL p.2.toNat] := rfl
  rw [this]
  refine TL.spl_join (by simp) fun q hq => ?_
  simp at hq
  rcases hq with rfl | rfl <;> exact num_noB (by omega)
end
def wordsL (L : List Nat) : List (List Nat) := spl [32] 0 [] L
def endsD (w : List Nat) : D := .tuple ((spl [45] 0 [] w).map fun p => numD (numP p))
def candD (L : List Nat) : D := .tuple [numD (numP ((wordsL L).headD []).dropLast), .tuple ((wordsL L).tail.map endsD)]
theorem spl_ne (s : List Nat) : ∀ (l : List Nat) (k : Nat) (acc : List Nat), spl s k acc l ≠ []
  | [], k, acc => by rw [TL.spl_nil]; simp
  | c :: r, 0, acc => by
    unfold spl
    split
    · simp
    · exact spl_ne s r 0 _
  | c :: r, k + 1, acc => spl_ne s r k acc
theorem words_ne (L : List Nat) : wordsL L ≠ [] := spl_ne _ _ _ _
theorem spl_mem {s c : Nat} : ∀ (l : List Nat) (k : Nat) (acc : List Nat), ∀ p ∈ spl [s] k acc l, c ∈ p → c ∈ acc ∨ c ∈ l
  | [], k, acc, p, hp, hc => by
    rw [TL.spl_nil] at hp
    rw [List.mem_singleton.mp hp] at hc
    exact .inl hc
  | d :: r, 0, acc, p, hp, hc => by
    unfold spl at hp
    split at hp
    · rcases List.mem_cons.mp hp with z | z
      · rw [z] at hc; exact .inl hc
      · rcases spl_mem r _ [] p z hc with y | y
        · cases y
        · exact .inr (List.mem_cons_of_mem _ y)
    · rcases spl_mem r 0 _ p hp hc with y | y
      · rcases List.mem_append.mp y with y | y
        · exact .inl y
        · rw [List.mem_singleton.mp y]; exact .inr List.mem_cons_self
      · exact .inr (List.mem_cons_of_mem _ y)
  | d :: r, k + 1, acc, p, hp, hc => by
    rcases spl_mem r k acc p hp hc with y | y
    · exact .inl y
    · exact .inr (List.mem_cons_of_mem _ y)
theorem part_plain {s : Nat} {L p : List Nat} (h : plainS L) (hp : p ∈ spl [s] 0 [] L) : plainS p := fun c hc => by
  rcases spl_mem L 0 [] p hp hc with z | z
  · cases z
  · exact h c z
theorem spl_count {s : Nat} (f : Nat → Bool) : ∀ (l : List Nat) (k : Nat) (acc : List Nat), ∀ p ∈ spl [s] k acc l, p.countP f ≤ acc.countP f + l.countP f
  | [], k, acc, p, hp => by
    rw [TL.spl_nil] at hp
    rw [List.mem_singleton.mp hp]
    simp
  | d :: r, 0, acc, p, hp => by
    unfold spl at hp
    rw [List.countP_cons]
    split at hp
    · rcases List.mem_cons.mp hp with z | z
      · rw [z]; omega
      · have := spl_count f r _ [] p z
        simp at this
        omega
    · have := spl_count f r 0 _ p hp
      rw [List.countP_append, List.countP_singleton] at this
      omega
  | d :: r, k + 1, acc, p, hp => by
    have := spl_count f r k acc p hp
    rw [List.countP_cons]
    omega
theorem part_count {s : Nat} {L p : List Nat} (f : Nat → Bool) (hp : p ∈ spl [s] 0 [] L) : p.countP f ≤ L.countP f := by
  have := spl_count f L 0 [] p hp
  simpa using this
theorem part_len {s : Nat} {L p : List Nat} (hp : p ∈ spl [s] 0 [] L) : p.length ≤ L.length := by
  have := part_count (fun _ => true) hp
  simpa using this
theorem parts_many {s : Nat} : ∀ (l : List Nat) (k : Nat) (acc : List Nat), (spl [s] k acc l).length ≤ l.countP (· == s) + 1
  | [], k, acc => by rw [TL.spl_nil]; simp
  | d :: r, 0, acc => by
    unfold spl
    split
    · rename_i h
      have hd : d = s := by
        unfold TL.pre at h
        simpa using h
      have := parts_many (s := s) r ([s].length - 1) []
      rw [List.length_cons, List.countP_cons, hd]
      simp
      exact this
    · have := parts_many (s := s) r 0 (acc ++ [d])
      rw [List.countP_cons]
      omega
  | d :: r, k + 1, acc => by
    have := parts_many (s := s) r k acc
    rw [List.countP_cons]
    show (spl [s] k acc r).length ≤ _
    omega
end Td
set_option Elab.async false
set_option linter.all false
set_option maxRecDepth 100000
namespace Td
open PySem PySem.Spec PyProof.Rows L2 TW
open TL (tl spl joinL numL)
open NumText (digitsVal AllDigits)
theorem noDict_num (o : Option Nat) : noDict (numD o) = true := by cases o <;> rfl
theorem noDictAll_of' : ∀ {l : List D}, (∀ d ∈ l, noDict d = true) → noDictAll l = true
  | [], _ => rfl
  | d :: l, h => by simp only [noDictAll, h d List.mem_cons_self, noDictAll_of' fun x hx => h x (List.mem_cons_of_mem _ hx), Bool.and_self]
theorem noDict_ends (w : List Nat) : noDict (endsD w) = true := by
  unfold endsD
  simp only [noDict]
  exact noDictAll_of' fun d hd => by obtain ⟨p, _, rfl⟩ := List.mem_map.mp hd; exact noDict_num _
theorem cand_isweb (L : List Nat) : F_is_web [candD L] = .ok (.bool (webB (candD L))) := by
  refine is_web_eq rfl fun x y e => ?_
  unfold candD at e
  injection e with e
  injection e with e1 e2
  injection e2 with e2 _
  subst e1 e2
  refine ⟨noDict_num _, ?_⟩
  simp only [noDict]
  exact noDictAll_of' fun d hd => by obtain ⟨p, _, rfl⟩ := List.mem_map.mp hd; exact noDict_ends p
theorem drop_plain {a : List Nat} (h : plainS a) : plainS a.dropLast := fun c hc => h c (List.dropLast_subset _ hc)
def rw0 (L : List Nat) (s3 : C) : List C := [.dat (strD L), .dat (.list ((wordsL L).map strD)), .dat (.list ((wordsL L).tail.map endsD)), s3, .un, .un]
theorem gIx_words {L : List Nat} : gIx (.list ((wordsL L).map strD)) (.int 0) = .ok (strD ((wordsL L).headD [])) := by
  cases e : wordsL L with
  | nil => exact absurd e (words_ne L)
  | cons w ws =>
    have : atI (((w :: ws).map strD)) ((0 : Nat) : Int) = some (strD w) := atI_nat rfl
    unfold gIx
    simp only
    have this : atI (((w :: ws).map strD)) (0 : Int) = some (strD w) := this
    rw [this]
    rfl
theorem head_mem (L : List Nat) : (wordsL L).headD [] ∈ wordsL L := by
  cases e : wordsL L with
  | nil => exact absurd e (words_ne L)
  | cons w ws => exact List.mem_cons_self
abbrev rS1 : MS := mIfS (mNot (mTest (mOp1 (gIsi "str") (vVar 0)))) (mErr 9) mNx
abbrev rS2 : MS := mSet 1 (mOfN (mSplit (mVar 0) (mC (.str " "))))
abbrev rS3 : MS := mSet 2 (mOfN (mComp [4] [4] fName (mSeq1 (mSl (mVar 1) (mPart (mC (.int 1))) mNoPart)) mYes (mOp1 gTuple (mOfN (mComp [5] [5] fName (mSeq1 (mOfN (mSplit (mVar 4) (mC (.str "-"))))) mYes (mCall 1 F_number_in (mCons (mVar 5) mNil)))))))
abbrev rS4 : MS := mSet 3 (mTup (mCons (mCall 1 F_number_in (mCons (mSl (mOp2 gIx (mVar 1) (mC (.int 0))) mNoPart (mPart (mOp1 gNeg (mC (.int 1))))) mNil)) (mCons (mOp1 gTuple (vVar 2)) mNil)))
def rwA (L : List Nat) (s1 : C) : List C := [.dat (strD L), s1, .un, .un, .un, .un]
section
variable {L : List Nat} (hp : plainS L) (hl : L.length ≤ 10000)
include hp hl
theorem words_fit : ∀ w ∈ wordsL L, plainS w ∧ w.length ≤ 10000 := fun w hw => ⟨part_plain hp hw, Nat.le_trans (part_len hw) hl⟩
theorem rd1 : Rn rS1 (rwA L .un) fun f c => f = .nx ∧ c = rwA L .un := by
  have isi : gIsi "str" (strD L) = .ok (.bool true) := rfl
  unfold rwA
  simp [isi]
theorem rd2 : Rn rS2 (rwA L .un) fun f c => f = .nx ∧ c = rwA L (.dat (.list ((wordsL L).map strD))) := by
  have g1 := gSplit_S (a := L) (s := 32) (by omega) (by omega)
  unfold rwA
  simp [strB, g1]
  rfl
theorem rd3 : Rn rS3 (rwA L (.dat (.list ((wordsL L).map strD)))) fun f c => f = .nx ∧ c = rw0 L .un := by
  unfold rwA
  simp [rn_mComp, wipeC, cut_one]
  rw [← List.map_tail]
  refine comp_mapM (φ := strD) (l := (wordsL L).tail) (g := endsD) (fun w hw => ?_) ?_
  · have hw' := List.mem_of_mem_tail hw
    obtain ⟨pl, ln⟩ := words_fit hp hl w hw'
    have g2 := gSplit_S (a := w) (s := 45) (by omega) (by omega)
    rw [show fName (strD w) = .ok [strD w] from rfl, ev_ok]
    simp [setC, wipeC, rn_mComp, strM, g2]
    refine comp_mapM (φ := strD) (l := spl [45] 0 [] w) (g := fun p => numD (numP p)) (fun p hp' => ?_) ?_
    · have := number_in_eq (part_plain pl hp') (by have := part_len hp'; omega)
      rw [show fName (strD p) = .ok [strD p] from rfl, ev_ok]
      simp [setC, wipeC, this]
    · simp [endsD, wipeC]
  · rfl
theorem rd4 : Rn rS4 (rw0 L .un) fun f c => f = .nx ∧ c = rw0 L (.dat (candD L)) := by
  have hm := head_mem L
  have gi := gIx_words (L := L)
  have ec : candD L = .tuple [numD (numP ((wordsL L).headD []).dropLast), .tuple ((wordsL L).tail.map endsD)] := rfl
  rw [ec]
  generalize (wordsL L).headD [] = h0 at hm gi ⊢
  obtain ⟨ph, lh⟩ := words_fit hp hl _ hm
  have gn := number_in_eq (drop_plain ph) (by rw [List.length_dropLast]; omega)
  have gb := gSl_but (a := h0) (by omega)
  unfold rw0
  simp [gi, gb, gn]
theorem read_then {rest : MS} {Q : Fl → List C → Prop} (h : Rn rest (rw0 L (.dat (candD L))) Q) : Rn (mSeq rS1 (mSeq rS2 (mSeq rS3 (mSeq rS4 rest)))) (rwA L .un) Q := by
  refine seq_cut _ (rd1 hp hl) ?_
  rintro c rfl
  refine seq_cut _ (rd2 hp hl) ?_
  rintro c rfl
  refine seq_cut _ (rd3 hp hl) ?_
  rintro c rfl
  refine seq_cut _ (rd4 hp hl) ?_
  rintro c rfl
  exact h
theorem read_err {rest : MS} {n : Nat} {xs : List D} (h : rest (rw0 L (.dat (candD L))) = .err n xs) : mSeq rS1 (mSeq rS2 (mSeq rS3 (mSeq rS4 rest))) (rwA L .un) = .err n xs := by
  refine err_seq2 _ (rd1 hp hl) ?_
  rintro c rfl
  refine err_seq2 _ (rd2 hp hl) ?_
  rintro c rfl
  refine err_seq2 _ (rd3 hp hl) ?_
  rintro c rfl
  refine err_seq2 _ (rd4 hp hl) ?_
  rintro c rfl
  exact h
end
theorem cand_text {n : Int} {ks : List (Int × Int)} (w : Web n ks) : candD (textL n ks) = webD n ks := by
  have wn := w.many
  unfold candD wordsL
  rw [spl_text w]
  unfold textW
  simp only [List.headD_cons, List.tail_cons, List.dropLast_concat]
  rw [numP_num (by omega), List.map_map]
  unfold webD
  congr 2
  · simp [numD]
    omega
  · congr 2
    refine List.map_congr_left fun p hp => ?_
    have t := w.ties p hp
    show endsD (tieT p) = tieD p
    unfold endsD
    rw [spl_tie]
    simp only [List.map_cons, List.map_nil]
    rw [numP_num (by omega), numP_num (by omega)]
    simp [numD, tieD]
    omega
theorem read_web_ok {L : List Nat} (hp : plainS L) (hl : L.length ≤ 10000) {n : Int} {ks : List (Int × Int)} (w : Web n ks) (e : L = textL n ks) : F_read_web [strD L] = .ok (webD n ks) := by
  have iw := cand_isweb L
  have sh := shown_eq w
  have gn := gNe_S hp hp
  rw [e, cand_text w, webB_web w] at iw
  apply Ev.eq
  unfold F_read_web
  rw [ev_fnD]
  unfold b_read_web
  refine read_then hp hl ?_
  rw [e, cand_text w]
  unfold rw0
  rw [e] at gn
  simp [iw, sh, gn]
theorem read_web_no {L : List Nat} (hp : plainS L) (hl : L.length ≤ 10000) (h : ∀ n ks, Web n ks → L ≠ textL n ks) : F_read_web [strD L] = .err 9 [] := by
  have iw := cand_isweb L
  unfold F_read_web
  refine err_fnD ?_
  unfold b_read_web
  refine read_err hp hl ?_
  refine err_seq (err_ifT ?_)
  unfold rw0
  cases hb : webB (candD L) with
  | false =>
    rw [hb] at iw
    simp [iw]
    rfl
  | true =>
    rw [hb] at iw
    obtain ⟨m, ls, e1, w⟩ := webB_inv hb
    rw [e1] at iw ⊢
    have sh := shown_eq w
    have ne : textL m ls ≠ L := fun z => h m ls w z.symm
    have pt : plainS (textL m ls) := by
      intro c hc
      unfold textL at hc
      apply Classical.byContradiction
      intro q
      have : ∀ ws : List (List Nat), (∀ x ∈ ws, plainS x) → plainS (joinL [32] ws) := fun ws => by
        induction ws with
        | nil => intro _ c hc; cases hc
        | cons a ws ih =>
          intro hw c hc
          cases ws with
          | nil => exact hw a List.mem_cons_self c hc
          | cons b ws =>
            have hc : c ∈ a ++ ([32] ++ joinL [32] (b :: ws)) := hc
            rcases List.mem_append.mp hc with z | z
            · exact hw a List.mem_cons_self c z
            · rcases List.mem_append.mp z with z | z
              · rw [List.mem_singleton.mp z]; omega
              · exact ih (fun x hx => hw x (List.mem_cons_of_mem _ hx)) c z
      refine q (this _ (fun x hx => ?_) c hc)
      rcases List.mem_cons.mp hx with z | z
      · rw [z]
        intro c hc
        rcases List.mem_append.mp hc with z | z
        · exact num_plain _ c z
        · rw [List.mem_singleton.mp z]; omega
      · obtain ⟨p, _, rfl⟩ := List.mem_map.mp z
        intro c hc
        unfold tieT at hc
        rcases List.mem_append.mp hc with z | z
        · exact num_plain _ c z
        · rcases List.mem_cons.mp z with z | z
          · rw [z]; omega
          · exact num_plain _ c z
    have gn := gNe_S pt hp
    simp [iw, sh, gn, ne]
    rfl
end Td
set_option Elab.async false
set_option linter.all false
set_option maxRecDepth 100000
namespace Td
open PySem PySem.Spec PyProof.Rows L2 TW
open TL (tl spl joinL numL)
open NumText (digitsVal AllDigits)
theorem text_plain {n : Int} {ks : List (Int × Int)} : plainS (textL n ks) := by
  have : ∀ ws : List (List Nat), (∀ x ∈ ws, plainS x) → plainS (joinL [32] ws) := fun ws => by
    induction ws with
    | nil => intro _ c hc; cases hc
    | cons a ws ih =>
      intro hw c hc
      cases ws with
      | nil => exact hw a List.mem_cons_self c hc
      | cons b ws =>
        have hc : c ∈ a ++ ([32] ++ joinL [32] (b :: ws)) := hc
        rcases List.mem_append.mp hc with z | z
        · exact hw a List.mem_cons_self c z
        · rcases List.mem_append.mp z with z | z
          · rw [List.mem_singleton.mp z]; omega
          · exact ih (fun x hx => hw x (List.mem_cons_of_mem _ hx)) c z
  refine this _ fun x hx => ?_
  rcases List.mem_cons.mp hx with z | z
  · rw [z]
    intro c hc
    rcases List.mem_append.mp hc with z | z
    · exact num_plain _ c z
    · rw [List.mem_singleton.mp z]; omega
  · obtain ⟨p, _, rfl⟩ := List.mem_map.mp z
    intro c hc
    unfold tieT at hc
    rcases List.mem_append.mp hc with z | z
    · exact num_plain _ c z
    · rcases List.mem_cons.mp z with z | z
      · rw [z]; omega
      · exact num_plain _ c z
def endsQ (w : List Nat) : List (Option Nat) := (spl [45] 0 [] w).map numQ
def wordQ (w : List Nat) : Option (Nat × Nat) := match endsQ w with
  | [some a, some b] => some (a, b)
  | _ => none
def pairD2 (p : Nat × Nat) : D := .tuple [.int p.1, .int p.2]
theorem wordQ_inv {w : List Nat} {p : Nat × Nat} (h : wordQ w = some p) : w = numL p.1 ++ (45 :: numL p.2) := by
  unfold wordQ at h
  split at h
  · rename_i a b e
    cases h
    unfold endsQ at e
    match es : spl [45] 0 [] w, e with
    | [x, y], e =>
      simp only [List.map_cons, List.map_nil, List.cons.injEq, and_true] at e
      have j := join_spl (s := 45) (by omega) w
      rw [es] at j
      have hx := numQ_inv e.1
      have hy := numQ_inv e.2
      rw [← j, hx, hy]
      rfl
    | [], e => simp at e
    | [x], e => simp at e
    | x :: y :: z :: r, e => simp at e
  · cases h
def headOk (h : List Nat) : Bool := decide (h.drop (h.length - 1) = [58]) && (numQ h.dropLast).isSome
theorem headOk_inv {h : List Nat} (k : headOk h = true) : ∃ n, numQ h.dropLast = some n ∧ h = numL n ++ [58] := by
  unfold headOk at k
  rw [Bool.and_eq_true, decide_eq_true_eq] at k
  obtain ⟨k1, k2⟩ := k
  cases e : numQ h.dropLast with
  | none => rw [e] at k2; cases k2
  | some n =>
    refine ⟨n, rfl, ?_⟩
    have := numQ_inv e
    rw [← this]
    have ne : h ≠ [] := fun z => by subst z; simp at k1
    have l := List.dropLast_concat_getLast ne
    have : h.drop (h.length - 1) = [h.getLast ne] := by
      conv => lhs; rw [← l]
      rw [List.length_append, List.length_singleton, Nat.add_sub_cancel, List.drop_left]
    rw [this] at k1
    rw [← k1]
    exact l.symm
section
variable {L : List Nat}
def lwS (L : List Nat) (ps : List (Nat × Nat)) (c : List C) : Prop := ∃ s3 s5, c = [.dat (strD L), .dat (.list ((wordsL L).map strD)), .own false (ps.map pairD2), s3, .un, s5, .un]
theorem gIx_two (a b : D) : gIx (.list [a, b]) (.int 0) = .ok a ∧ gIx (.list [a, b]) (.int 1) = .ok b := ⟨rfl, rfl⟩
theorem gIn_none (l : List (Option Nat)) : gInX false .none (.list (l.map numD)) = .ok (.bool (decide (none ∈ l))) := by
  have sh : SeqAt.shaped (.list (l.map numD)) = true := shaped_lst.mpr fun x hx => by
    obtain ⟨o, _, rfl⟩ := List.mem_map.mp hx
    cases o <;> exact ⟨rfl, by simp [numD, PyData.depth]⟩
  have ev : ((l.map numD).any fun z => PyData.eqv z .none) = decide (none ∈ l) := by
    rw [Bool.eq_iff_iff, List.any_eq_true, decide_eq_true_eq]
    constructor
    · rintro ⟨x, hx, e⟩
      obtain ⟨o, ho, rfl⟩ := List.mem_map.mp hx
      cases o with
      | none => exact ho
      | some n => simp [numD, PyData.eqv] at e
    · intro h
      exact ⟨.none, List.mem_map.mpr ⟨none, h, rfl⟩, by simp [PyData.eqv]⟩
  unfold gInX gOr
  have s0 : SeqAt.shaped .none = true := rfl
  simp only [gIn, sh, s0, Bool.and_self, if_true, ev, Bool.false_bne]
abbrev wordBody : MS := (mSeq (mSet 5 (mOfN (mComp [6] [6] fName (mSeq1 (mOfN (mSplit (mVar 3) (mC (.str "-"))))) mYes (mCall 1 F__law_number (mCons (mVar 6) mNil))))) (mSeq (mIfS (mOr (mTest (mOp2 gNe (mOp1 gLen (vVar 5)) (mC (.int 2)))) (mTest (mOp2 (gInX false) (mC .none) (vVar 5)))) (mRet (mC .none)) mNx) (mOn 2 (mTup (mCons (mOp2 gIx (mVar 5) (mC (.int 0))) (mCons (mOp2 gIx (mVar 5) (mC (.int 1))) mNil))) gApp)))
theorem word_turn (hp : plainS L) (hl : L.length ≤ 10000) (hd : L.countP isDig ≤ 640) {w : List Nat} (hw : w ∈ wordsL L) {ps : List (Nat × Nat)} (lp : ps.length ≤ 10000) {s5 : C} :
    Rn wordBody [.dat (strD L), .dat (.list ((wordsL L).map strD)), .own false (ps.map pairD2), .dat (strD w), .un, s5, .un] fun f c => match wordQ w with
      | some p => f = .nx ∧ lwS L (ps ++ [p]) c
      | none => f = .rt .none := by
  obtain ⟨pl, ln⟩ := words_fit hp hl w hw
  have g2 := gSplit_S (a := w) (s := 45) (by omega) (by omega)
  have dig : ∀ p ∈ spl [45] 0 [] w, p.all isDig = true → p.length ≤ 640 := fun p hp' ha => by
    have h1 := part_count isDig hp'
    have h2 := part_count isDig hw
    have h3 : p.countP isDig = p.length := List.countP_eq_length.mpr (List.all_eq_true.mp ha)
    omega
  refine seq_cut (fun c => c = [.dat (strD L), .dat (.list ((wordsL L).map strD)), .own false (ps.map pairD2), .dat (strD w), .un, .dat (.list ((endsQ w).map numD)), .un]) ?_ ?_
  · simp [rn_mComp, wipeC, strM, g2]
    refine comp_mapM (φ := strD) (l := spl [45] 0 [] w) (g := fun p => numD (numQ p)) (fun p hp' => ?_) ?_
    · have := law_number_eq (part_plain pl hp') (by have := part_len hp'; omega) (dig p hp')
      rw [show fName (strD p) = .ok [strD p] from rfl, ev_ok]
      simp [setC, wipeC, this]
    · simp [endsQ, List.map_map, Function.comp]
  rintro c rfl
  have gN := gIn_none (endsQ w)
  have gl : gNe (.int ((endsQ w).length : Nat)) (.int 2) = .ok (.bool (!decide ((endsQ w).length = 2))) := by
    rw [gNe_int]
    congr 2
    rw [Bool.eq_iff_iff]
    simp
    omega
  unfold wordQ
  by_cases h2 : (endsQ w).length = 2
  · match e : endsQ w, h2 with
    | [x, y], _ =>
      rw [e] at gN gl
      cases x with
      | none =>
        refine seq_rt (d := .none) ?_
        simp at gN gl
        simp [gN, gl]
      | some a =>
        cases y with
        | none =>
          refine seq_rt (d := .none) ?_
          simp at gN gl
          simp [gN, gl]
        | some b =>
          simp only
          simp at gN gl
          refine seq_cut (fun c => c = [.dat (strD L), .dat (.list ((wordsL L).map strD)), .own false (ps.map pairD2), .dat (strD w), .un, .dat (.list ([some a, some b].map numD)), .un]) (by simp [gN, gl]) ?_
          rintro c rfl
          have g3 := gIx_two (numD (some a)) (numD (some b))
          simp [isOwn, g3.1, g3.2, gApp]
          refine ⟨by omega, .dat (strD w), .dat (.list ([some a, some b].map numD)), ?_⟩
          simp [pairD2, numD]
  · have : (match endsQ w with | [some a, some b] => some (a, b) | _ => none) = (none : Option (Nat × Nat)) := by
      split
      · rename_i e; rw [e] at h2; exact absurd rfl h2
      · rfl
    rw [this]
    refine seq_rt (d := .none) ?_
    simp [gl, h2]
theorem for_words (hp : plainS L) (hl : L.length ≤ 10000) (hd : L.countP isDig ≤ 640) : ∀ (ws : List (List Nat)) (ps : List (Nat × Nat)) (c : List C), (∀ w ∈ ws, w ∈ wordsL L) → ps.length + ws.length ≤ 10000 → lwS L ps c →
    Rn (forGo [3] fName wordBody (ws.map strD)) c fun f c => match ws.mapM wordQ with
      | some qs => f = .nx ∧ lwS L (ps ++ qs) c
      | none => f = .rt .none := fun ws => by
  induction ws with
  | nil =>
    intro ps c _ _ hc
    refine rn_for_nil.mpr ?_
    simp
    exact hc
  | cons w ws ih =>
    rintro ps c hw hl2 ⟨s3, s5, rfl⟩
    rw [List.length_cons] at hl2
    refine rn_for_cons.mpr ?_
    rw [show fName (strD w) = .ok [strD w] from rfl, ev_ok]
    show Rn wordBody [.dat (strD L), .dat (.list ((wordsL L).map strD)), .own false (ps.map pairD2), .dat (strD w), .un, s5, .un] _
    refine (word_turn hp hl hd (hw w List.mem_cons_self) (ps := ps) (by omega)).mono fun f c h => ?_
    cases e : wordQ w with
    | none =>
      rw [e] at h
      simp only at h
      subst h
      simp [List.mapM_cons, e]
    | some p =>
      rw [e] at h
      obtain ⟨e1, h⟩ := h
      subst e1
      refine (ih (ps ++ [p]) c (fun x hx => hw x (List.mem_cons_of_mem _ hx)) (by rw [List.length_append, List.length_singleton]; omega) h).mono fun f c h => ?_
      simp only [List.mapM_cons, e]
      cases q : ws.mapM wordQ with
      | none => rw [q] at h; exact h
      | some qs =>
        rw [q] at h
        refine ⟨h.1, ?_⟩
        have := h.2
        rwa [List.append_assoc] at this
def foundD (n : Nat) (qs : List (Nat × Nat)) : D := .tuple [.int n, .tuple (qs.map pairD2)]
def lawR2 (h0 : List Nat) (ws : List (List Nat)) : D := if headOk h0 then (match numQ h0.dropLast, ws.mapM wordQ with
  | some n, some qs => if webB (foundD n qs) then foundD n qs else .none
  | _, _ => .none) else .none
def lawR (L : List Nat) : D := lawR2 ((wordsL L).headD []) (wordsL L).tail
theorem mapM_len {α β : Type} (f : α → Option β) : ∀ {l : List α} {r : List β}, l.mapM f = some r → r.length = l.length
  | [], r, h => by simp at h; subst h; rfl
  | a :: l, r, h => by
    rw [List.mapM_cons] at h
    cases e : f a with
    | none => simp [e] at h
    | some b =>
      cases q : l.mapM f with
      | none => simp [e, q] at h
      | some r' =>
        simp [e, q] at h
        rw [← h, List.length_cons, List.length_cons, mapM_len f q]
set_option maxHeartbeats 0 in
theorem law_web_in_eq (hp : plainS L) (hl : L.length ≤ 10000) (hd : L.countP isDig ≤ 640) (hb : L.countP (· == 32) ≤ 60) : F__law_web_in [strD L] = .ok (lawR L) := by
  have lw : (wordsL L).length ≤ 61 := Nat.le_trans (parts_many L 0 []) (by omega)
  have hm := head_mem L
  have gi := gIx_words (L := L)
  unfold lawR
  generalize (wordsL L).headD [] = h0 at hm gi ⊢
  unfold lawR2
  obtain ⟨ph, lh⟩ := words_fit hp hl _ hm
  have g1 := gSplit_S (a := L) (s := 32) (by omega) (by omega)
  have gb := gSl_but (a := h0) (by omega)
  have gla := gSl_last (a := h0) (by omega)
  have pla : plainS (h0.drop (h0.length - 1)) := fun c hc => ph c (List.mem_of_mem_drop hc)
  have gn := gNe_S (a := h0.drop (h0.length - 1)) (b := [58]) pla (plain_one (by omega))
  have ln := law_number_eq (drop_plain ph) (by rw [List.length_dropLast]; omega) (fun ha => by
    have h2 := part_count isDig hm
    have h3 : h0.dropLast.countP isDig = h0.dropLast.length := List.countP_eq_length.mpr (List.all_eq_true.mp ha)
    have h4 : h0.dropLast.countP isDig ≤ h0.countP isDig := (List.dropLast_sublist h0).countP_le
    omega)
  have cd : TW.cutD ((wordsL L).map strD) (some 1) none = (wordsL L).tail.map strD := by rw [cut_one, ← List.map_drop, List.drop_one]
  apply Ev.eq
  unfold F__law_web_in
  rw [ev_fnD]
  unfold b__law_web_in
  show Rn _ [.dat (strD L), .un, .un, .un, .un, .un, .un] _
  refine seq_cut (fun c => c = [.dat (strD L), .dat (.list ((wordsL L).map strD)), .un, .un, .un, .un, .un]) (by simp [strB, g1]; rfl) ?_
  rintro c rfl
  cases hk : headOk h0 with
  | false =>
    rw [if_neg (by simp)]
    refine seq_rt (d := .none) ?_
    unfold headOk at hk
    by_cases z : h0.drop (h0.length - 1) = [58]
    · have hq : numQ h0.dropLast = none := by
        simp [z] at hk
        exact hk
      rw [hq] at ln
      have gN : gIsN (numD none) .none = .ok (.bool true) := rfl
      rw [z] at gn gla
      simp [gi, gla, gb, strC, gn, ln, gN]
    · simp [gi, gla, strC, gn, z]
  | true =>
    rw [if_pos rfl]
    obtain ⟨n, hq, eh⟩ := headOk_inv hk
    have z : h0.drop (h0.length - 1) = [58] := by
      unfold headOk at hk
      rw [Bool.and_eq_true, decide_eq_true_eq] at hk
      exact hk.1
    rw [hq] at ln ⊢
    have gN : gIsN (numD (some n)) .none = .ok (.bool false) := rfl
    refine seq_cut (fun c => c = [.dat (strD L), .dat (.list ((wordsL L).map strD)), .un, .un, .un, .un, .un]) (by rw [z] at gn gla; simp [gi, gla, gb, strC, gn, ln, gN]) ?_
    rintro c rfl
    refine seq_cut (lwS L []) (by simp; exact ⟨.un, .un, rfl⟩) ?_
    rintro c ⟨s3, s5, rfl⟩
    have loop : Rn (mFor [3] fName (mSeq1 (mSl (mVar 1) (mPart (mC (.int 1))) mNoPart)) wordBody) [.dat (strD L), .dat (.list ((wordsL L).map strD)), .own false (([] : List (Nat × Nat)).map pairD2), s3, .un, s5, .un] fun f c => match (wordsL L).tail.mapM wordQ with
        | some qs => f = .nx ∧ lwS L qs c
        | none => f = .rt .none := by
      rw [rn_mFor]
      simp only [rn_mSeq1, rn_mSl, rn_mVar, List.getElem?_cons_succ, List.getElem?_cons_zero, onVar_dat, rn_mPart, rn_mC, asInt_int, rn_mNoPart, gSl_list, ev_ok, cd, gSeq_list]
      have := for_words hp hl hd (wordsL L).tail [] [.dat (strD L), .dat (.list ((wordsL L).map strD)), .own false (([] : List (Nat × Nat)).map pairD2), s3, .un, s5, .un] (fun w hw => List.mem_of_mem_tail hw) (by rw [List.length_tail]; simp; omega) ⟨s3, s5, rfl⟩
      simpa using this
    cases q : (wordsL L).tail.mapM wordQ with
    | none =>
      rw [q] at loop
      refine seq_rt (d := .none) (loop.mono fun f c h => ?_)
      exact ⟨h, by simp⟩
    | some qs =>
      rw [q] at loop
      refine seq_cut (lwS L qs) loop ?_
      rintro c ⟨s3, s5, rfl⟩
      have lq : qs.length ≤ 60 := by
        have := mapM_len _ q
        rw [this, List.length_tail]
        omega
      have iw : F__law_is_web [foundD n qs] = .ok (.bool (webB (foundD n qs))) := law_is_web_eq rfl (fun x y e => by
        unfold foundD at e
        injection e with e
        injection e with e1 e2
        injection e2 with e2 _
        subst e1 e2
        refine ⟨rfl, ?_⟩
        simp only [noDict]
        exact noDictAll_of' fun d hd => by obtain ⟨p, _, rfl⟩ := List.mem_map.mp hd; rfl) (fun n' ts e => by
        unfold foundD at e
        injection e with e
        injection e with e1 e2
        injection e2 with e2 _
        injection e2 with e2
        subst e2
        rw [List.length_map]
        omega)
      refine seq_cut (fun c => c = [.dat (strD L), .dat (.list ((wordsL L).map strD)), .dat (.list (qs.map pairD2)), s3, .dat (foundD n qs), s5, .un] ∨ c = [.dat (strD L), .dat (.list ((wordsL L).map strD)), .own false (qs.map pairD2), s3, .dat (foundD n qs), s5, .un]) (by simp [gi, gb, ln, numD, foundD]) ?_
      rintro c (rfl | rfl) <;> cases hw : webB (foundD n qs) <;> rw [hw] at iw <;> simp [iw, hw]
theorem law_ok {n : Int} {ks : List (Int × Int)} (w : Web n ks) (e : L = textL n ks) : lawR L = webD n ks := by
  have wn := w.many
  have ww : wordsL L = textW n ks := by unfold wordsL; rw [e]; exact spl_text w
  unfold lawR
  rw [ww]
  show lawR2 (numL n.toNat ++ [58]) (ks.map tieT) = _
  unfold lawR2
  rw [List.dropLast_concat]
  have hk : headOk (numL n.toNat ++ [58]) = true := by
    unfold headOk
    rw [List.dropLast_concat, numQ_num]
    simp
  rw [if_pos hk, numQ_num]
  have q : (ks.map tieT).mapM wordQ = some (ks.map fun p => (p.1.toNat, p.2.toNat)) := by
    clear e ww hk
    have : ∀ l : List (Int × Int), (l.map tieT).mapM wordQ = some (l.map fun p => (p.1.toNat, p.2.toNat)) := fun l => by
      induction l with
      | nil => rfl
      | cons p l ih =>
        have : wordQ (tieT p) = some (p.1.toNat, p.2.toNat) := by
          unfold wordQ endsQ
          rw [spl_tie]
          simp [numQ_num]
        rw [List.map_cons, List.mapM_cons, this, ih]
        rfl
    exact this ks
  rw [q]
  have ef : foundD n.toNat (ks.map fun p => (p.1.toNat, p.2.toNat)) = webD n ks := by
    unfold foundD webD
    rw [List.map_map]
    have : ks.map (pairD2 ∘ fun p => (p.1.toNat, p.2.toNat)) = ks.map tieD := List.map_congr_left fun p hp => by
      have t := w.ties p hp
      simp [pairD2, tieD]
      omega
    rw [this]
    congr 2
    simp
    omega
  simp only [ef, webB_web w, if_true]
theorem law_no (h : ∀ n ks, Web n ks → L ≠ textL n ks) : lawR L = .none := by
  unfold lawR
  have hne := words_ne L
  have jl : joinL [32] (wordsL L) = L := join_spl (by omega) L
  obtain ⟨h0, ws, ew⟩ : ∃ h0 ws, wordsL L = h0 :: ws := by
    cases e : wordsL L with
    | nil => exact absurd e hne
    | cons a b => exact ⟨a, b, rfl⟩
  rw [ew] at jl ⊢
  show lawR2 h0 ws = _
  unfold lawR2
  by_cases hk : headOk h0 = true
  rotate_left
  · rw [if_neg hk]
  · obtain ⟨n, hq, eh⟩ := headOk_inv hk
    rw [if_pos hk, hq]
    cases q : ws.mapM wordQ with
    | none => rfl
    | some qs =>
      simp only
      cases hw : webB (foundD n qs) with
      | false => simp
      | true =>
        exfalso
        obtain ⟨m, ls, e1, w⟩ := webB_inv hw
        unfold foundD webD at e1
        injection e1 with e1
        injection e1 with e2 e3
        injection e3 with e3 _
        injection e3 with e3
        injection e2 with e2
        refine h m ls w ?_
        have wt : ∀ (ws : List (List Nat)) (qs : List (Nat × Nat)) (ls : List (Int × Int)), ws.mapM wordQ = some qs → qs.map pairD2 = ls.map tieD → ws = ls.map tieT := fun ws => by
          induction ws with
          | nil =>
            intro qs ls a b
            simp at a
            subst a
            cases ls with
            | nil => rfl
            | cons => simp at b
          | cons x ws ih =>
            intro qs ls a b
            rw [List.mapM_cons] at a
            cases e : wordQ x with
            | none => simp [e] at a
            | some p =>
              cases r : ws.mapM wordQ with
              | none => simp [e, r] at a
              | some rs =>
                simp [e, r] at a
                subst a
                cases ls with
                | nil => simp at b
                | cons l ls =>
                  rw [List.map_cons, List.map_cons] at b
                  injection b with b1 b2
                  rw [List.map_cons, ← ih rs ls r b2]
                  congr 1
                  rw [wordQ_inv e]
                  simp [pairD2, tieD] at b1
                  unfold tieT
                  rw [← b1.1, ← b1.2]
                  simp
        have := wt ws qs ls q e3
        rw [← jl, eh, this]
        unfold textL textW
        rw [← e2]
        simp
end
end Td
set_option Elab.async false
set_option linter.all false
set_option maxRecDepth 100000
namespace TW
open PySem PySem.Spec PyProof.Rows L2
end TW
set_option Elab.async false
set_option linter.all false
set_option maxRecDepth 100000
namespace Td
open PySem PySem.Spec PyProof.Rows L2 TW
open TL (tl spl joinL numL)
def sumC (f : Nat → Bool) (ws : List (List Nat)) : Nat := (ws.map (·.countP f)).sum
theorem sumC_app (f : Nat → Bool) (a b : List (List Nat)) : sumC f (a ++ b) = sumC f a + sumC f b := by unfold sumC; rw [List.map_append, List.sum_append]
theorem sumC_cons (f : Nat → Bool) (w : List Nat) (ws : List (List Nat)) : sumC f (w :: ws) = w.countP f + sumC f ws := by unfold sumC; rw [List.map_cons, List.sum_cons]
theorem sumC_cut (f : Nat → Bool) (ws : List (List Nat)) (k : Nat) : sumC f (ws.take k) + sumC f (ws.drop k) = sumC f ws := by rw [← sumC_app, List.take_append_drop]
theorem sumC_mem {f : Nat → Bool} {w : List Nat} : ∀ {ws : List (List Nat)}, w ∈ ws → w.countP f ≤ sumC f ws
  | v :: ws, h => by
    rw [sumC_cons]
    rcases List.mem_cons.mp h with z | z
    · rw [z]; omega
    · have := sumC_mem (f := f) z
      omega
theorem join_count (f : Nat → Bool) (s : Nat) : ∀ ws : List (List Nat), (joinL [s] ws).countP f = sumC f ws + (ws.length - 1) * (if f s then 1 else 0)
  | [] => by simp [joinL, sumC]
  | [p] => by simp [joinL, sumC]
  | p :: q :: r => by
    have ih := join_count f s (q :: r)
    show (p ++ ([s] ++ joinL [s] (q :: r))).countP f = _
    rw [List.countP_append, List.countP_append, ih, sumC_cons f p (q :: r), List.countP_singleton]
    simp only [List.length_cons, Nat.add_sub_cancel]
    rw [Nat.succ_mul]
    omega
theorem spl_free (s : Nat) : ∀ (l : List Nat) (k : Nat) (acc : List Nat), s ∉ acc → ∀ p ∈ spl [s] k acc l, s ∉ p
  | [], k, acc, ha, p, hp => by
    rw [TL.spl_nil] at hp
    rw [List.mem_singleton.mp hp]
    exact ha
  | d :: r, 0, acc, ha, p, hp => by
    unfold spl at hp
    split at hp
    · rcases List.mem_cons.mp hp with z | z
      · rw [z]; exact ha
      · exact spl_free s r _ [] (by simp) p z
    · rename_i h
      refine spl_free s r 0 _ (fun z => ?_) p hp
      rcases List.mem_append.mp z with z | z
      · exact ha z
      · have e := List.mem_singleton.mp z
        apply h
        unfold TL.pre
        simp [e]
  | d :: r, k + 1, acc, ha, p, hp => spl_free s r k acc ha p hp
theorem sumC_blank {ws : List (List Nat)} (h : ∀ p ∈ ws, 32 ∉ p) : sumC (· == 32) ws = 0 := by
  induction ws with
  | nil => rfl
  | cons w ws ih =>
    rw [sumC_cons, ih fun p hp => h p (List.mem_cons_of_mem _ hp), Nat.add_zero, List.countP_eq_zero]
    intro c hc z
    have : c = 32 := by simpa using z
    subst this
    exact h w List.mem_cons_self hc
structure Bend (L L' : List Nat) : Prop where
  plain : plainS L'
  len : L'.length ≤ 2 * L.length + 2
  dig : L'.countP isDig ≤ 2 * L.countP isDig + 1
  bl : L'.countP (· == 32) ≤ L.countP (· == 32) + 1
theorem count_len (l : List Nat) : l.countP (fun _ => true) = l.length := by simp
theorem bend_of {L L' : List Nat} (h1 : plainS L') (h2 : ∀ f : Nat → Bool, L'.countP f ≤ L.countP f + 1) : Bend L L' := by
  have a := h2 (fun _ => true)
  rw [count_len, count_len] at a
  exact ⟨h1, by omega, by have := h2 isDig; omega, h2 _⟩
section
variable {L : List Nat}
theorem cut_count (f : Nat → Bool) (k : Nat) : (L.take k).countP f + (L.drop k).countP f = L.countP f := by rw [← List.countP_append, List.take_append_drop]
theorem drop_count (f : Nat → Bool) (l : List Nat) (k : Nat) : (l.drop k).countP f ≤ l.countP f := (List.drop_sublist k l).countP_le
theorem take_plain (h : plainS L) (k : Nat) : plainS (L.take k) := fun c hc => h c (List.mem_of_mem_take hc)
theorem dropP (h : plainS L) (k : Nat) : plainS (L.drop k) := fun c hc => h c (List.mem_of_mem_drop hc)
theorem appP {a b : List Nat} (h : plainS a) (k : plainS b) : plainS (a ++ b) := fun c hc => (List.mem_append.mp hc).elim (h c) (k c)
theorem one_count (f : Nat → Bool) (c : Nat) : [c].countP f ≤ 1 := by rw [List.countP_singleton]; split <;> omega
theorem bendA (h : plainS L) (a : Nat) : Bend L (L.take a ++ (L.drop a).drop 1) := bend_of (appP (take_plain h a) (dropP (dropP h a) 1)) fun f => by
  have := cut_count (L := L) f a
  have := drop_count f (L.drop a) 1
  rw [List.countP_append]
  omega
theorem bendB (h : plainS L) (a : Nat) {c : Nat} (hc : c < 128) : Bend L (L.take a ++ [c] ++ L.drop a) := bend_of (appP (appP (take_plain h a) (plain_one hc)) (dropP h a)) fun f => by
  have := cut_count (L := L) f a
  have := one_count f c
  rw [List.countP_append, List.countP_append]
  omega
theorem bendC (h : plainS L) (a : Nat) {c : Nat} (hc : c < 128) : Bend L (L.take a ++ [c] ++ (L.drop a).drop 1) := bend_of (appP (appP (take_plain h a) (plain_one hc)) (dropP (dropP h a) 1)) fun f => by
  have := cut_count (L := L) f a
  have := one_count f c
  have := drop_count f (L.drop a) 1
  rw [List.countP_append, List.countP_append]
  omega
theorem bendD (h : plainS L) (a : Nat) : Bend L (L.take a ++ ((L.drop a).drop 1).take 1 ++ (L.drop a).take 1 ++ (L.drop a).drop 2) := bend_of (appP (appP (appP (take_plain h a) (take_plain (dropP (dropP h a) 1) 1)) (take_plain (dropP h a) 1)) (dropP (dropP h a) 2)) fun f => by
  have h1 := cut_count (L := L) f a
  have h2 := cut_count (L := L.drop a) f 1
  have h3 := cut_count (L := (L.drop a).drop 1) f 1
  rw [List.countP_append, List.countP_append, List.countP_append]
  have e2 : (L.drop a).drop (1 + 1) = (L.drop a).drop 2 := rfl
  have e3 : (L.drop a).drop (1 + 1) = ((L.drop a).drop 1).drop 1 := by rw [List.drop_drop, List.drop_drop, List.drop_drop]
  have h4 := cut_count (L := (L.drop a).drop 1) f 1
  rw [← e3, e2] at h4
  omega
theorem bendI (h : plainS L) {c : Nat} (hc : c < 128) : Bend L ([c] ++ L) := bend_of (appP (plain_one hc) h) fun f => by
  have := one_count f c
  rw [List.countP_append]
  omega
theorem bendJ (h : plainS L) {c : Nat} (hc : c < 128) : Bend L (L ++ [c]) := bend_of (appP h (plain_one hc)) fun f => by
  have := one_count f c
  rw [List.countP_append]
  omega
theorem bendH (h : plainS L) : Bend L L := bend_of h fun f => by omega
theorem joinP {ws : List (List Nat)} (h : ∀ w ∈ ws, plainS w) : plainS (joinL [32] ws) := by
  induction ws with
  | nil => intro c hc; cases hc
  | cons a ws ih =>
    intro c hc
    cases ws with
    | nil => exact h a List.mem_cons_self c hc
    | cons b ws =>
      have hc : c ∈ a ++ ([32] ++ joinL [32] (b :: ws)) := hc
      rcases List.mem_append.mp hc with z | z
      · exact h a List.mem_cons_self c z
      · rcases List.mem_append.mp z with z | z
        · rw [List.mem_singleton.mp z]; omega
        · exact ih (fun x hx => h x (List.mem_cons_of_mem _ hx)) c z
theorem bend_words (h : plainS L) {ws : List (List Nat)} (hm : ∀ w ∈ ws, w ∈ wordsL L) (hs : ∀ f, sumC f ws ≤ 2 * sumC f (wordsL L)) (hl : ws.length ≤ (wordsL L).length + 1) : Bend L (joinL [32] ws) := by
  have jl : joinL [32] (wordsL L) = L := join_spl (by omega) L
  have c0 : ∀ f, L.countP f = sumC f (wordsL L) + ((wordsL L).length - 1) * (if f 32 then 1 else 0) := fun f => by
    have := join_count f 32 (wordsL L)
    rwa [jl] at this
  have c1 := fun f => join_count f 32 ws
  have pos : 0 < (wordsL L).length := List.length_pos_iff.mpr (words_ne L)
  refine ⟨joinP fun w hw => part_plain h (hm w hw), ?_, ?_, ?_⟩
  · have a := c1 (fun _ => true)
    have b := c0 (fun _ => true)
    have c := hs (fun _ => true)
    rw [count_len] at a b
    simp at a b
    omega
  · have a := c1 isDig
    have b := c0 isDig
    have c := hs isDig
    have : isDig 32 = false := rfl
    rw [this] at a b
    simp at a b
    omega
  · have a := c1 (· == 32)
    have b := c0 (· == 32)
    have z1 := sumC_blank (ws := ws) fun p hp => spl_free 32 L 0 [] (by simp) p (hm p hp)
    have z2 := sumC_blank (ws := wordsL L) fun p hp => spl_free 32 L 0 [] (by simp) p hp
    rw [z1] at a
    rw [z2] at b
    simp only [beq_self_eq_true, if_true, Nat.mul_one, Nat.zero_add] at a b
    omega
theorem words_len : (wordsL L).length ≤ L.length + 1 := Nat.le_trans (parts_many L 0 []) (by have := List.countP_le_length (p := (· == 32)) (l := L); omega)
theorem words_sum : joinLen (wordsL L) ≤ L.length + 1 := by
  have jl : joinL [32] (wordsL L) = L := join_spl (by omega) L
  have c := join_count (fun _ => true) 32 (wordsL L)
  rw [jl, count_len] at c
  have pos : 0 < (wordsL L).length := List.length_pos_iff.mpr (words_ne L)
  unfold joinLen
  have : sumC (fun _ => true) (wordsL L) = ((wordsL L).map (·.length)).sum := by unfold sumC; simp
  simp at c
  omega
end
def txt94 : List Nat := [32, 33, 34, 35, 36, 38, 39, 40, 41, 42, 43, 44, 45, 46, 47, 48, 49, 50, 51, 52, 53, 54, 55, 56, 57, 58, 59, 60, 61, 62, 63, 64, 65, 66, 67, 68, 69, 70, 71, 72, 73, 74, 75, 76, 77, 78, 79, 80, 81, 82, 83, 84, 85, 86, 87, 88, 89, 90, 91, 92, 93, 94, 95, 96, 97, 98, 99, 100, 101, 102, 103, 104, 105, 106, 107, 108, 109, 110, 111, 112, 113, 114, 115, 116, 117, 118, 119, 120, 121, 122, 123, 124, 125, 126]
theorem str94 : (.str " !\"#$&'()*+,-./0123456789:;<=>?@ABCDEFGHIJKLMNOPQRSTUVWXYZ[\\]^_`abcdefghijklmnopqrstuvwxyz{|}~" : D) = strD txt94 := by
  unfold strD
  congr 1
def txt10 : List Nat := [48, 49, 50, 51, 52, 53, 54, 32, 58, 45]
theorem str10 : (.str "0123456 :-" : D) = strD txt10 := by
  unfold strD
  congr 1
theorem sign_ev {l : List Nat} (h : plainS l) (hl : l.length ≤ 1000) {i : Int} (h0 : 0 ≤ i) (h1 : i < l.length) : ∃ c, c < 128 ∧ gIx (strD l) (.int i) = .ok (strD [c]) := by
  have hi : i.toNat < l.length := by omega
  refine ⟨l[i.toNat], h _ (List.getElem_mem hi), ?_⟩
  have := gIx_S (a := l) (i := i.toNat) (c := l[i.toNat]) (List.getElem?_eq_getElem hi) (by omega)
  rw [show ((i.toNat : Nat) : Int) = i by omega] at this
  exact this
theorem plain94 : plainS txt94 := by
  intro c hc
  have : txt94.all (fun c => decide (c < 128)) = true := by decide +kernel
  simpa using List.all_eq_true.mp this c hc
theorem plain10 : plainS txt10 := by
  intro c hc
  have : txt10.all (fun c => decide (c < 128)) = true := by decide +kernel
  simpa using List.all_eq_true.mp this c hc
def b7 (L : List Nat) (s2 s3 s4 s5 s6 s7 s8 s9 s10 s11 s12 : C) (c : List C) : Prop := ∃ ss, c = [.own true ss, .dat (strD L), s2, s3, s4, s5, s6, s7, s8, s9, s10, s11, s12] ∧ St ss
theorem cut_strs {ws : List (List Nat)} {k : Nat} : TW.cutD (ws.map strD) none (some (k : Int)) = (ws.take k).map strD ∧ TW.cutD (ws.map strD) (some (k : Int)) none = (ws.drop k).map strD := by
  unfold TW.cutD
  rw [HT.sIx_none, HT.sIx_none, HT.sIx_nat, HT.sIx_nat, List.drop_zero, Nat.sub_zero, List.length_map]
  by_cases h : k ≤ ws.length
  · rw [Nat.min_eq_left h]
    exact ⟨by rw [List.map_take], by rw [List.take_of_length_le (by rw [List.length_drop, List.length_map]; omega), List.map_drop]⟩
  · rw [Nat.min_eq_right (by omega)]
    refine ⟨by rw [List.take_of_length_le (by simp), List.take_of_length_le (by omega)], ?_⟩
    rw [List.drop_of_length_le (by simp), List.drop_of_length_le (by omega)]
    simp
set_option maxHeartbeats 0 in
theorem bent7_ev {ss : List D} {L : List Nat} (hs : St ss) (hp : plainS L) (hl : L.length ≤ 10000) : Ev (F__law_bent_7 ss [strD L]) fun p => (∃ L', p.1 = strD L' ∧ Bend L L') ∧ St p.2 := by
  have gl := gLen_S (a := L) (by omega)
  have gsp := gSplit_S (a := L) (s := 32) (by omega) (by omega)
  have wl := words_len (L := L)
  have wm := words_sum (L := L)
  have wpos : 0 < (wordsL L).length := List.length_pos_iff.mpr (words_ne L)
  unfold F__law_bent_7
  rw [ev_fnS]
  unfold b__law_bent_7
  show Rn _ [.own true ss, .dat (strD L), .un, .un, .un, .un, .un, .un, .un, .un, .un, .un, .un] _
  refine seq_cut (fun c => ∃ a : Nat, a ≤ L.length ∧ b7 L (.dat (.int a)) .un .un .un .un .un .un .un .un .un .un c) ?_ ?_
  · simp [isOwn, gl]
    refine (take_ev hs (by omega) (by omega)).mono ?_
    rintro ⟨d, ss'⟩ ⟨a, e, a1, a2, hs'⟩
    simp at e
    subst e
    refine ⟨a.toNat, by omega, ss', ?_, hs'⟩
    simp
    omega
  rintro c ⟨a, ha, ss, rfl, hs⟩
  refine seq_cut (b7 L (.dat (.int a)) (.dat (strD txt94)) .un .un .un .un .un .un .un .un .un) (by simp [str94]; exact ⟨ss, rfl, hs⟩) ?_
  rintro c ⟨ss, rfl, hs⟩
  refine seq_cut (fun c => ∃ s : Nat, s < 128 ∧ b7 L (.dat (.int a)) (.dat (strD txt94)) (.dat (strD [s])) .un .un .un .un .un .un .un .un c) ?_ ?_
  · simp [isOwn]
    refine (take_ev hs (by omega) (by omega)).mono ?_
    rintro ⟨d, ss1⟩ ⟨i, e, i1, i2, hs1⟩
    simp at e
    subst e
    obtain ⟨c1, hc1, e1⟩ := sign_ev plain94 (by decide) i1 (by simpa [txt94] using i2)
    simp [e1, isOwn]
    refine (take_ev hs1 (by omega) (by omega)).mono ?_
    rintro ⟨d, ss2⟩ ⟨j, e, j1, j2, hs2⟩
    simp at e
    subst e
    obtain ⟨c2, hc2, e2⟩ := sign_ev plain10 (by decide) j1 (by simpa [txt10] using j2)
    simp [str10, e2, isOwn]
    refine (take_ev hs2 (by omega) (by omega)).mono ?_
    rintro ⟨d, ss3⟩ ⟨q, e, q1, q2, hs3⟩
    simp at e
    subst e
    refine ix_ev q1 (by simpa using q2) fun d hd => ?_
    simp at hd
    rcases hd with rfl | rfl
    · exact ⟨c1, hc1, ss3, rfl, hs3⟩
    · exact ⟨c2, hc2, ss3, rfl, hs3⟩
  rintro c ⟨s, hsg, ss, rfl, hs⟩
  refine seq_cut (b7 L (.dat (.int a)) (.dat (strD txt94)) (.dat (strD [s])) (.dat (strD (L.take a))) (.dat (strD (L.drop a))) .un .un .un .un .un .un) ?_ ?_
  · have g1 := gSl_to (a := L) (k := a) (by omega)
    have g2 := gSl_from (a := L) (k := a) (by omega)
    simp [g1, g2]
    exact ⟨ss, rfl, hs⟩
  rintro c ⟨ss, rfl, hs⟩
  refine seq_cut (b7 L (.dat (.int a)) (.dat (strD txt94)) (.dat (strD [s])) (.dat (strD (L.take a))) (.dat (strD (L.drop a))) (.dat (.list ((wordsL L).map strD))) .un .un .un .un .un) ?_ ?_
  · simp [strB, gsp]
    exact ⟨ss, rfl, hs⟩
  rintro c ⟨ss, rfl, hs⟩
  refine seq_cut (fun c => ∃ o t : Nat, (o < (wordsL L).length ∧ t < (wordsL L).length) ∧ b7 L (.dat (.int a)) (.dat (strD txt94)) (.dat (strD [s])) (.dat (strD (L.take a))) (.dat (strD (L.drop a))) (.dat (.list ((wordsL L).map strD))) (.dat (.int o)) (.dat (.int t)) .un .un .un c) ?_ ?_
  · simp [isOwn]
    refine (take_ev hs (by omega) (by omega)).mono ?_
    rintro ⟨d, ss1⟩ ⟨i, e, i1, i2, hs1⟩
    simp at e
    subst e
    simp [isOwn]
    refine (take_ev hs1 (by omega) (by omega)).mono ?_
    rintro ⟨d, ss2⟩ ⟨j, e, j1, j2, hs2⟩
    simp at e
    subst e
    simp
    refine ⟨i.toNat, j.toNat, ⟨by omega, by omega⟩, ss2, ?_, hs2⟩
    simp
    omega
  rintro c ⟨o, t, ⟨ho, ht⟩, ss, rfl, hs⟩
  -- the word, the texts
  have gw : gIx (.list ((wordsL L).map strD)) (.int o) = .ok (strD (wordsL L)[o]) := by
    have : atI ((wordsL L).map strD) (o : Int) = some (strD (wordsL L)[o]) := atI_nat (by rw [List.getElem?_map, List.getElem?_eq_getElem ho]; rfl)
    unfold gIx
    simp only [this]
  have mw : (wordsL L)[o] ∈ wordsL L := List.getElem_mem ho
  have sp := fun f => sumC_cut f (wordsL L) o
  have sw : ∀ f, sumC f ((wordsL L).drop o) = ((wordsL L)[o]).countP f + sumC f ((wordsL L).drop (o + 1)) := fun f => by
    rw [← sumC_cons, List.drop_eq_getElem_cons ho]
  generalize (wordsL L)[o] = word at gw mw sw
  refine seq_cut (b7 L (.dat (.int a)) (.dat (strD txt94)) (.dat (strD [s])) (.dat (strD (L.take a))) (.dat (strD (L.drop a))) (.dat (.list ((wordsL L).map strD))) (.dat (.int o)) (.dat (.int t)) (.dat (strD word)) .un .un) ?_ ?_
  · simp [gw]
    exact ⟨ss, rfl, hs⟩
  rintro c ⟨ss, rfl, hs⟩
  let okL : Nat → List D → Prop := fun k M => M.length = k ∧ ∀ d ∈ M, ∃ L', d = strD L' ∧ Bend L L'
  have lt : ∀ k, (L.take k).length ≤ 10000 := fun k => by rw [List.length_take]; omega
  have ld : ∀ k, (L.drop k).length ≤ 10000 := fun k => by rw [List.length_drop]; omega
  have a1 : ((1 : Nat) : Int) = 1 := rfl
  have a2 : ((2 : Nat) : Int) = 2 := rfl
  refine seq_cut (fun c => ∃ M, okL 4 M ∧ b7 L (.dat (.int a)) (.dat (strD txt94)) (.dat (strD [s])) (.dat (strD (L.take a))) (.dat (strD (L.drop a))) (.dat (.list ((wordsL L).map strD))) (.dat (.int o)) (.dat (.int t)) (.dat (strD word)) (.dat (.list M)) .un c) ?_ ?_
  · have l1 := lt a
    have l2 := ld a
    have f1 : gSl (strD (L.drop a)) (some 1) none = .ok (strD ((L.drop a).drop 1)) := gSl_from (a := L.drop a) (k := 1) (by omega)
    have f2 : gSl (strD (L.drop a)) (some 2) none = .ok (strD ((L.drop a).drop 2)) := gSl_from (a := L.drop a) (k := 2) (by omega)
    have f3 : gSl (strD (L.drop a)) none (some 1) = .ok (strD ((L.drop a).take 1)) := gSl_to (a := L.drop a) (k := 1) (by omega)
    have f4 : gSl (strD (L.drop a)) (some 1) (some 2) = .ok (strD (((L.drop a).drop 1).take 1)) := gSl_mid (a := L.drop a) (j := 1) (k := 2) (by omega)
    have c1 : gAdd (strD (L.take a)) (strD ((L.drop a).drop 1)) = .ok (strD (L.take a ++ (L.drop a).drop 1)) := gAdd_S (by simp; omega)
    have c2 : gAdd (strD (L.take a)) (strD [s]) = .ok (strD (L.take a ++ [s])) := gAdd_S (by simp; omega)
    have c3 : gAdd (strD (L.take a ++ [s])) (strD (L.drop a)) = .ok (strD (L.take a ++ [s] ++ L.drop a)) := gAdd_S (by simp; omega)
    have c4 : gAdd (strD (L.take a ++ [s])) (strD ((L.drop a).drop 1)) = .ok (strD (L.take a ++ [s] ++ (L.drop a).drop 1)) := gAdd_S (by simp; omega)
    have c5 : gAdd (strD (L.take a)) (strD (((L.drop a).drop 1).take 1)) = .ok (strD (L.take a ++ ((L.drop a).drop 1).take 1)) := gAdd_S (by simp; omega)
    have c6 : gAdd (strD (L.take a ++ ((L.drop a).drop 1).take 1)) (strD ((L.drop a).take 1)) = .ok (strD (L.take a ++ ((L.drop a).drop 1).take 1 ++ (L.drop a).take 1)) := gAdd_S (by simp; omega)
    have c7 : gAdd (strD (L.take a ++ ((L.drop a).drop 1).take 1 ++ (L.drop a).take 1)) (strD ((L.drop a).drop 2)) = .ok (strD (L.take a ++ ((L.drop a).drop 1).take 1 ++ (L.drop a).take 1 ++ (L.drop a).drop 2)) := gAdd_S (by simp; omega)
    have bA := bendA hp a
    have bB := bendB hp a hsg
    have bC := bendC hp a hsg
    have bD := bendD hp a
    generalize L.take a = left at *
    generalize L.drop a = right at *
    generalize right.drop 1 = r1 at *
    generalize right.drop 2 = r2 at *
    generalize right.take 1 = r3 at *
    generalize r1.take 1 = r4 at *
    generalize left ++ r1 = x1 at *
    generalize left ++ [s] = x2 at *
    generalize left ++ r4 = x3 at *
    generalize x2 ++ right = x4 at *
    generalize x2 ++ r1 = x5 at *
    generalize x3 ++ r3 = x6 at *
    generalize x6 ++ r2 = x7 at *
    simp [f1, f2, f3, f4, c1, c2, c3, c4, c5, c6, c7]
    refine ⟨_, ⟨rfl, ?_⟩, ss, rfl, hs⟩
    intro d hd
    simp only [List.mem_cons, List.not_mem_nil, or_false] at hd
    rcases hd with rfl | rfl | rfl | rfl
    · exact ⟨_, rfl, bA⟩
    · exact ⟨_, rfl, bB⟩
    · exact ⟨_, rfl, bC⟩
    · exact ⟨_, rfl, bD⟩
  rintro c ⟨M4, ⟨l4, h4⟩, ss, rfl, hs⟩
  generalize eW : wordsL L = W at *
  have jn : ∀ ws : List (List Nat), (∀ w ∈ ws, w ∈ W) → ws.length ≤ W.length + 1 → (∀ f, sumC f ws ≤ 2 * sumC f W) → gJoin (S [32]) (.list (ws.map strD)) = .ok (strD (joinL [32] ws)) ∧ Bend L (joinL [32] ws) := fun ws h1 h2 h3 => by
    subst eW
    refine ⟨gJoin_S ?_, bend_words hp h1 h3 h2⟩
    have := h3 (fun _ => true)
    have e1 : sumC (fun _ => true) ws = (ws.map (·.length)).sum := by unfold sumC; simp
    have e2 : sumC (fun _ => true) (wordsL L) = ((wordsL L).map (·.length)).sum := by unfold sumC; simp
    unfold joinLen at wm ⊢
    omega
  have sB : Str.ofString " " = S [32] := rfl
  obtain ⟨t1, t2⟩ := cut_strs (ws := W) (k := o)
  obtain ⟨_, t3⟩ := cut_strs (ws := W) (k := o + 1)
  rw [show ((o + 1 : Nat) : Int) = (o : Int) + 1 from rfl] at t3
  refine seq_cut (fun c => ∃ M, okL 6 M ∧ b7 L (.dat (.int a)) (.dat (strD txt94)) (.dat (strD [s])) (.dat (strD (L.take a))) (.dat (strD (L.drop a))) (.dat (.list (W.map strD))) (.dat (.int o)) (.dat (.int t)) (.dat (strD word)) (.dat (.list M)) .un c) ?_ ?_
  · have mt : ∀ w ∈ W.take o, w ∈ W := fun w hw => List.mem_of_mem_take hw
    have md : ∀ k, ∀ w ∈ W.drop k, w ∈ W := fun k w hw => List.mem_of_mem_drop hw
    have lto : (W.take o).length = o := by rw [List.length_take]; omega
    have ldo : (W.drop o).length = W.length - o := List.length_drop
    have ld1 : (W.drop (o + 1)).length = W.length - (o + 1) := List.length_drop
    obtain ⟨j1, k1⟩ := jn (W.take o ++ W.drop (o + 1)) (fun w hw => (List.mem_append.mp hw).elim (mt w) (md _ w)) (by rw [List.length_append]; omega) (fun f => by
      have := sp f
      have := sw f
      rw [sumC_app]
      omega)
    obtain ⟨j2, k2⟩ := jn (W.take o ++ [word] ++ W.drop o) (fun w hw => by
      rcases List.mem_append.mp hw with z | z
      · rcases List.mem_append.mp z with z | z
        · exact mt w z
        · rw [List.mem_singleton.mp z]; exact mw
      · exact md _ w z) (by rw [List.length_append, List.length_append, List.length_singleton]; omega) (fun f => by
      have h1 := sp f
      have h2 := sumC_mem (f := f) mw
      have h3 : sumC f [word] = word.countP f := by unfold sumC; simp
      rw [sumC_app, sumC_app, h3]
      omega)
    have q1 : List.take o (W.map strD) ++ List.drop (o + 1) (W.map strD) = (W.take o ++ W.drop (o + 1)).map strD := by rw [List.map_append, List.map_take, List.map_drop]
    have q2 : List.take o (W.map strD) ++ [strD word] ++ List.drop o (W.map strD) = (W.take o ++ [word] ++ W.drop o).map strD := by rw [List.map_append, List.map_append, List.map_take, List.map_drop]; rfl
    simp [t1, t2, t3]
    refine catl_ev (by simp; omega) ?_
    rw [q1, sB, j1]
    simp only [ev_ok]
    refine catl_ev (by simp; omega) ?_
    refine catl_ev (by simp; omega) ?_
    rw [q2, j2]
    simp only [ev_ok]
    refine catl_ev (by rw [l4]; simp) ?_
    refine ⟨_, ⟨by rw [List.length_append, l4]; rfl, ?_⟩, ss, rfl, hs⟩
    intro d hd
    simp only [List.mem_append, List.mem_cons, List.not_mem_nil, or_false] at hd
    rcases hd with hd | rfl | rfl
    · exact h4 d hd
    · exact ⟨_, rfl, k1⟩
    · exact ⟨_, rfl, k2⟩
  rintro c ⟨M6, ⟨l6, h6⟩, ss, rfl, hs⟩
  have md : ∀ k, ∀ w ∈ W.drop k, w ∈ W := fun k w hw => List.mem_of_mem_drop hw
  have mt : ∀ k, ∀ w ∈ W.take k, w ∈ W := fun k w hw => List.mem_of_mem_take hw
  have er : ∃ R : List (List Nat), R = W.take o ++ W.drop (o + 1) := ⟨_, rfl⟩
  obtain ⟨R, eR⟩ := er
  have lR : R.length + 1 = W.length := by rw [eR, List.length_append, List.length_take, List.length_drop]; omega
  have mR : ∀ w ∈ R, w ∈ W := fun w hw => by
    rw [eR] at hw
    exact (List.mem_append.mp hw).elim (mt o w) (md _ w)
  have sR : ∀ f, sumC f R + word.countP f = sumC f W := fun f => by
    have := sp f
    have := sw f
    rw [eR, sumC_app]
    omega
  have q3 : List.take o (W.map strD) ++ List.drop (o + 1) (W.map strD) = R.map strD := by rw [eR, List.map_append, List.map_take, List.map_drop]
  refine seq_cut (b7 L (.dat (.int a)) (.dat (strD txt94)) (.dat (strD [s])) (.dat (strD (L.take a))) (.dat (strD (L.drop a))) (.dat (.list (W.map strD))) (.dat (.int o)) (.dat (.int t)) (.dat (strD word)) (.dat (.list M6)) (.dat (.list (R.map strD)))) ?_ ?_
  · simp [t1, t3]
    refine catl_ev (by simp; omega) ?_
    rw [q3]
    exact ⟨ss, rfl, hs⟩
  rintro c ⟨ss, rfl, hs⟩
  obtain ⟨u1, u2⟩ := cut_strs (ws := R) (k := t)
  refine seq_cut (fun c => ∃ M, okL 10 M ∧ b7 L (.dat (.int a)) (.dat (strD txt94)) (.dat (strD [s])) (.dat (strD (L.take a))) (.dat (strD (L.drop a))) (.dat (.list (W.map strD))) (.dat (.int o)) (.dat (.int t)) (.dat (strD word)) (.dat (.list M)) (.dat (.list (R.map strD))) c) ?_ ?_
  · obtain ⟨j3, k3⟩ := jn (R.take t ++ [word] ++ R.drop t) (fun w hw => by
      rcases List.mem_append.mp hw with z | z
      · rcases List.mem_append.mp z with z | z
        · exact mR w (List.mem_of_mem_take z)
        · rw [List.mem_singleton.mp z]; exact mw
      · exact mR w (List.mem_of_mem_drop z)) (by
      rw [List.length_append, List.length_append, List.length_singleton, List.length_take, List.length_drop]
      omega) (fun f => by
      have h1 := sR f
      have h2 := sumC_cut f R t
      have h3 : sumC f [word] = word.countP f := by unfold sumC; simp
      rw [sumC_app, sumC_app, h3]
      omega)
    have q4 : List.take t (R.map strD) ++ [strD word] ++ List.drop t (R.map strD) = (R.take t ++ [word] ++ R.drop t).map strD := by rw [List.map_append, List.map_append, List.map_take, List.map_drop]; rfl
    have g1 : gAdd (strD [32]) (strD L) = .ok (strD ([32] ++ L)) := gAdd_S (by simp; omega)
    have g2 : gAdd (strD L) (strD [32]) = .ok (strD (L ++ [32])) := gAdd_S (by simp; omega)
    have bI := bendI hp (c := 32) (by omega)
    have bJ := bendJ hp (c := 32) (by omega)
    generalize [32] ++ L = x1 at *
    generalize L ++ [32] = x2 at *
    simp [u1, u2]
    refine catl_ev (by simp; omega) ?_
    refine catl_ev (by simp; omega) ?_
    rw [q4, sB, j3]
    have g1' : gAdd (.str (S [32])) (strD L) = .ok (strD x1) := g1
    have g2' : gAdd (strD L) (.str (S [32])) = .ok (strD x2) := g2
    simp only [ev_ok, g1', g2']
    refine catl_ev (by rw [l6]; simp) ?_
    refine ⟨_, ⟨by rw [List.length_append, l6]; rfl, ?_⟩, ss, rfl, hs⟩
    intro d hd
    simp only [List.mem_append, List.mem_cons, List.not_mem_nil, or_false] at hd
    rcases hd with hd | rfl | rfl | rfl | rfl
    · exact h6 d hd
    · exact ⟨_, rfl, k3⟩
    · exact ⟨_, rfl, bendH hp⟩
    · exact ⟨_, rfl, bI⟩
    · exact ⟨_, rfl, bJ⟩
  rintro c ⟨M, ⟨lM, hM⟩, ss, rfl, hs⟩
  simp [isOwn]
  refine (take_ev hs (by omega) (by omega)).mono ?_
  rintro ⟨d, ss'⟩ ⟨q, e, r1, r2, hs'⟩
  simp at e
  subst e
  exact ix_ev (Q := fun d => (∃ L', d = strD L' ∧ Bend L L') ∧ St ss') r1 (by rw [lM]; exact r2) fun d hd => ⟨hM d hd, hs'⟩
end Td
set_option Elab.async false
set_option linter.all false
set_option maxRecDepth 100000
namespace K91
open PySem PySem.Spec PyProof.Rows L2 TW Td
open TL (tl spl joinL numL)
theorem join_len (s : Nat) : ∀ ws : List (List Nat), (joinL [s] ws).length ≤ joinLen ws
  | [] => by simp [joinL]
  | [p] => by simp [joinL, joinLen]
  | p :: q :: r => by
    have ih := join_len s (q :: r)
    show (p ++ ([s] ++ joinL [s] (q :: r))).length ≤ _
    unfold joinLen at ih ⊢
    simp at ih ⊢
    omega
theorem text_len {n : Int} {ks : List (Int × Int)} (w : Web n ks) : (textL n ks).length ≤ 1000 := by
  have h1 := join_len 32 (textW n ks)
  have h2 := sum_le (words_short w)
  have wl := w.len
  have h3 : (textW n ks).length = ks.length + 1 := by unfold textW; rw [List.length_cons, List.length_map]
  unfold joinLen at h1
  unfold textL
  omega
theorem sum_b {f : Nat → Bool} {b : Nat} : ∀ {ws : List (List Nat)}, (∀ w ∈ ws, w.countP f ≤ b) → sumC f ws ≤ b * ws.length
  | [], _ => by simp [sumC]
  | w :: ws, h => by
    have ih := sum_b (ws := ws) fun x hx => h x (List.mem_cons_of_mem _ hx)
    have := h w List.mem_cons_self
    rw [sumC_cons, List.length_cons, Nat.mul_succ]
    omega
theorem text_dig {n : Int} {ks : List (Int × Int)} (w : Web n ks) {b : Nat} (h : ∀ i : Int, 0 ≤ i → i ≤ n → (numL i.toNat).length ≤ b) : (textL n ks).countP isDig ≤ b + 2 * b * ks.length := by
  have wn := w.many
  unfold textL
  rw [join_count]
  have z : isDig 32 = false := rfl
  rw [z]
  unfold textW
  rw [sumC_cons, List.countP_append]
  have h1 := List.countP_le_length (p := isDig) (l := numL n.toNat)
  have h2 := h n wn.1 (by omega)
  have h3 : [58].countP isDig = 0 := rfl
  have h4 := sum_b (f := isDig) (b := 2 * b) (ws := ks.map tieT) fun x hx => by
    obtain ⟨p, hp, rfl⟩ := List.mem_map.mp hx
    have t := w.ties p hp
    have a1 := List.countP_le_length (p := isDig) (l := numL p.1.toNat)
    have a2 := List.countP_le_length (p := isDig) (l := numL p.2.toNat)
    have b1 := h p.1 (by omega) (by omega)
    have b2 := h p.2 (by omega) (by omega)
    unfold tieT
    rw [List.countP_append, List.countP_cons]
    have : isDig 45 = false := rfl
    rw [this]
    simp
    omega
  rw [List.length_map] at h4
  have h3' : isDig 58 = false := rfl
  simp [h3']
  omega
theorem text_bl {n : Int} {ks : List (Int × Int)} (w : Web n ks) : (textL n ks).countP (· == 32) ≤ ks.length := by
  unfold textL
  rw [join_count, sumC_blank fun p hp => ?_]
  · unfold textW
    simp
  · have e := spl_text w
    exact spl_free 32 (textL n ks) 0 [] (by simp) p (by rw [e]; exact hp)
structure Fit (t : Nat) (L : List Nat) : Prop where
  plain : plainS L
  len : L.length + 2 ≤ 1002 * 2 ^ t
  dig : L.countP isDig + 1 ≤ 51 * 2 ^ t
  bl : L.countP (· == 32) ≤ 21 + t
theorem Fit.next {t : Nat} {L L' : List Nat} (h : Fit t L) (b : Bend L L') : Fit (t + 1) L' := by
  have h1 := h.len
  have h2 := h.dig
  have h3 := h.bl
  have b1 := b.len
  have b2 := b.dig
  have b3 := b.bl
  refine ⟨b.plain, ?_, ?_, by omega⟩
  · rw [Nat.pow_succ]; omega
  · rw [Nat.pow_succ]; omega
theorem fit0 {n : Int} {ks : List (Int × Int)} (w : Web n ks) (h : n ≤ 7 ∨ ks.length ≤ 12) : Fit 0 (textL n ks) := by
  have wn := w.many
  refine ⟨text_plain, by have := text_len w; omega, ?_, ?_⟩
  · rcases h with h | h
    · have := text_dig w (b := 1) fun i h0 h1 => by rw [TL.numL_lt (by omega)]; simp
      have := small_len w h
      omega
    · have := text_dig w (b := 2) fun i h0 h1 => num_short (by omega)
      omega
  · have := text_bl w
    rcases h with h | h
    · have := small_len w h
      omega
    · omega
def cs (ns : List Int) (k : C) (ss : List D) (s3 s4 s5 s6 s7 s8 s9 : C) : List C := [.dat (scrD ns), k, .own false ss, s3, s4, s5, s6, s7, s8, s9]
def tS' (ns : List Int) (k s3 s6 : C) (t : Nat) (c : List C) : Prop := ∃ ss L s5 s7 s8 s9, c = cs ns k ss s3 (.dat (strD L)) s5 s6 s7 s8 s9 ∧ Fit t L ∧ St ss
theorem text_ev {ns : List Int} {k s4 s5 s6 s7 s8 s9 : C} {ss : List D} {n : Int} {ks : List (Int × Int)} (w : Web n ks) : Rn (mSet 4 (mJoin (mC (.str " ")) (mOp2 gAdd (mOfN (mLst (mCons (mOp2 gAdd (mOp1 gStr (mOp2 gIx (mVar 3) (mC (.int 0)))) (mC (.str ":"))) mNil))) (mOfN (mComp [8, 9] [8, 9] (fTup 2) (mSeq1 (mOp2 gIx (mVar 3) (mC (.int 1)))) mYes (mOp2 gAdd (mOp2 gAdd (mOp1 gStr (vVar 8)) (mC (.str "-"))) (mOp1 gStr (vVar 9)))))))) (cs ns k ss (.dat (webD n ks)) s4 s5 s6 s7 s8 s9) fun f c => f = .nx ∧ c = cs ns k ss (.dat (webD n ks)) (.dat (strD (textL n ks))) s5 s6 s7 .un .un := by
  have wn := w.many
  have wl := w.len
  have ln := num_short (i := n) (by omega)
  have g1 : gAdd (strD (numL n.toNat)) (strD [58]) = .ok (strD (numL n.toNat ++ [58])) := gAdd_S (by simp; omega)
  unfold cs
  simp [gStr_num (i := n) (by omega), strC, g1, rn_mComp, wipeC]
  refine comp_mapM (φ := tieD) (g := fun p => strD (tieT p)) (fun p hp => ?_) ?_
  · have t := w.ties p hp
    have l1 := num_short (i := p.1) (by omega)
    have l2 := num_short (i := p.2) (by omega)
    have a1 : gAdd (strD (numL p.1.toNat)) (strD [45]) = .ok (strD (numL p.1.toNat ++ [45])) := gAdd_S (by simp; omega)
    have a2 : gAdd (strD (numL p.1.toNat ++ [45])) (strD (numL p.2.toNat)) = .ok (strD (numL p.1.toNat ++ [45] ++ numL p.2.toNat)) := gAdd_S (by simp; omega)
    rw [show fTup 2 (tieD p) = .ok [.int p.1, .int p.2] from rfl, ev_ok]
    simp [setC, wipeC, gStr_num (i := p.1) (by omega), gStr_num (i := p.2) (by omega), strM, a1]
    simp at a2
    simp [a2, tieT]
  · have e : strD (numL n.toNat ++ [58]) :: ks.map (fun p => strD (tieT p)) = (textW n ks).map strD := by
      unfold textW
      rw [List.map_cons, List.map_map]
      rfl
    have lw : (textW n ks).length ≤ 1000 := by unfold textW; rw [List.length_cons, List.length_map]; omega
    have j := gJoin_S (s := 32) (ws := textW n ks) (by
      have := sum_le (words_short w)
      unfold joinLen
      omega)
    refine catl_ev (by simp; omega) ?_
    rw [List.singleton_append, e]
    have sB : Str.ofString " " = S [32] := rfl
    simp [sB, j, textL]
theorem read_odd {d : D} (h : gIsi "str" d = .ok (.bool false)) : F_read_web [d] = .err 9 [] := by
  refine err_fnD (err_seq (err_ifT ?_))
  simp [unfill, h]
  rfl
set_option maxHeartbeats 0 in
theorem law_true (ns : List Int) (hn : ns.length ≤ 63) : F_law [scrD ns] = .ok (.bool true) := by
  have g9 : gNe (.list [.int 9]) (.list [.int 9]) = .ok (.bool false) := rfl
  unfold F_law b_law
  refine law_loop (by decide) (m := 8) (by decide) hn ?_ ?_
  · intro k c hk hl h0 h1
    match c, hl, h0, h1 with
    | [_, _, s2, s3, s4, s5, s6, s7, s8, s9], _, h0, h1 =>
      simp at h0 h1
      subst h0 h1
      refine seq_cut (fun c => ∃ ss, St ss ∧ c = cs ns (.dat (.int k)) ss s3 s4 s5 s6 s7 s8 s9) ?_ ?_
      · simp
        exact (state_ev ns hk).mono fun ss hs => ⟨ss, hs, rfl⟩
      rintro c ⟨ss, hs, rfl⟩
      refine seq_cut (fun c => ∃ n ks ss, ((Web n ks ∧ (n ≤ 7 ∨ ks.length ≤ 12)) ∧ St ss) ∧ c = cs ns (.dat (.int k)) ss (.dat (webD n ks)) s4 s5 s6 s7 s8 s9) ?_ ?_
      · unfold cs
        simp [isOwn]
        refine (web_ev hs (m := 7) (by omega)).mono ?_
        rintro ⟨d, ss1⟩ ⟨n1, k1, e1, w1, l1, hs1⟩
        simp at e1
        subst e1
        simp [isOwn]
        refine (great_ev hs1).mono ?_
        rintro ⟨d, ss2⟩ ⟨n2, k2, e1, w2, _, l2, hs2⟩
        simp at e1
        subst e1
        simp [isOwn]
        refine (take_ev hs2 (by omega) (by omega)).mono ?_
        rintro ⟨d, ss3⟩ ⟨q, e, q1, q2, hs3⟩
        simp at e
        subst e
        refine ix_ev q1 (by simpa using q2) fun d hd => ?_
        simp at hd
        rcases hd with rfl | rfl
        · exact ⟨n1, k1, ss3, ⟨⟨w1, .inl l1⟩, hs3⟩, rfl, rfl⟩
        · exact ⟨n2, k2, ss3, ⟨⟨w2, .inr l2⟩, hs3⟩, rfl, rfl⟩
      rintro c ⟨n, ks, ss, ⟨⟨w, hw⟩, hs⟩, rfl⟩
      refine seq_cut _ (text_ev w) ?_
      rintro c rfl
      refine seq_cut (fun c => ∃ t, tS' ns (.dat (.int k)) (.dat (webD n ks)) s6 t c) ?_ ?_
      · rw [rn_mFor]
        simp only [rn_mRange1, rn_mC]
        rw [gRg_to (by omega)]
        simp only [ev_ok]
        refine for_list (φ := .int) (fun d => tS' ns (.dat (.int k)) (.dat (webD n ks)) s6 d.length) ⟨ss, textL n ks, s5, s7, .un, .un, rfl, fit0 w hw, hs⟩ (fun c h => ⟨rfl, _, h⟩) ?_
        rintro d t rest c e ⟨ss, L, s5, s7, s8, s9, rfl, fL, hs⟩
        have hd : d.length ≤ 3 := by
          have := congrArg List.length e
          rw [rgI_length, List.length_append, List.length_cons] at this
          omega
        have p2 : 2 ^ d.length ≤ 8 := Nat.le_trans (Nat.pow_le_pow_right (by decide) hd) (by decide)
        have hp := fL.plain
        have f1 := fL.len
        have f2 := fL.dig
        have f3 := fL.bl
        have hl : L.length ≤ 10000 := by have := Nat.mul_le_mul_left 1002 p2; omega
        have hdg : L.countP isDig ≤ 640 := by have := Nat.mul_le_mul_left 51 p2; omega
        have hbl : L.countP (· == 32) ≤ 60 := by omega
        have lw := law_web_in_eq hp hl hdg hbl
        rw [fName_ok, ev_ok]
        show Rn _ (cs ns (.dat (.int k)) ss (.dat (webD n ks)) (.dat (strD L)) (.dat (.int t)) s6 s7 s8 s9) _
        refine seq_cut (fun c => c = cs ns (.dat (.int k)) ss (.dat (webD n ks)) (.dat (strD L)) (.dat (.int t)) s6 (.dat (lawR L)) s8 s9) (by unfold cs; simp [lw]) ?_
        rintro c rfl
        refine seq_cut (fun c => c = cs ns (.dat (.int k)) ss (.dat (webD n ks)) (.dat (strD L)) (.dat (.int t)) s6 (.dat (lawR L)) s8 s9) ?_ ?_
        · by_cases hx : ∃ m ls, Web m ls ∧ L = textL m ls
          · obtain ⟨m, ls, wm, eL⟩ := hx
            have e1 := law_ok wm eL
            have e2 := read_web_ok hp hl wm eL
            have s2 : F__law_same 12 [webD m ls, webD m ls] = .ok (.bool true) := same_refl 12 _ (by simp [webD, fitK, tieD])
            have gN : gIsN (webD m ls) .none = .ok (.bool false) := rfl
            rw [e1]
            unfold cs
            simp [gN, e2, s2]
          · have no : ∀ m ls, Web m ls → L ≠ textL m ls := fun m ls wm e => hx ⟨m, ls, wm, e⟩
            have e1 := law_no no
            have e2 := read_web_no hp hl no
            have gN : gIsN .none .none = .ok (.bool true) := rfl
            rw [e1]
            unfold cs
            simp [gN]
            refine rn_refused (n := 9) (err_call ?_) (by decide) ?_
            · simp [mask, maskC]
              exact e2
            · simp [g9]
        rintro c rfl
        unfold cs
        simp [isOwn]
        refine (bent7_ev hs hp hl).mono ?_
        rintro ⟨d', ss'⟩ ⟨⟨L', e1, hb⟩, hs'⟩
        simp at e1
        subst e1
        refine ⟨ss', L', _, _, _, _, rfl, ?_, hs'⟩
        exact fL.next hb
      rintro c ⟨t, ss, L, s5, s7, s8, s9, rfl, fL, hs⟩
      refine seq_cut (fun c => ∃ d ss, (gIsi "str" d = .ok (.bool false) ∧ St ss) ∧ c = cs ns (.dat (.int k)) ss (.dat (webD n ks)) (.dat (strD L)) s5 (.dat d) s7 s8 s9) ?_ ?_
      · unfold cs
        simp [isOwn]
        refine (take_ev hs (by omega) (by omega)).mono ?_
        rintro ⟨d, ss3⟩ ⟨q, e, q1, q2, hs3⟩
        simp at e
        subst e
        refine ix_ev q1 (by simpa using q2) fun d hd => ?_
        refine ⟨d, ss3, ⟨?_, hs3⟩, rfl, rfl⟩
        simp at hd
        rcases hd with rfl | rfl | rfl | rfl | rfl | rfl | rfl <;> rfl
      rintro c ⟨d, ss, ⟨hd, hs⟩, rfl⟩
      unfold cs
      simp
      refine rn_refused (n := 9) (err_call ?_) (by decide) ?_
      · simp [mask, maskC]
        exact read_odd hd
      · simp [g9]
  · intro c hl h0
    simp
end K91
set_option Elab.async false
set_option linter.all false
set_option maxRecDepth 100000
namespace K91
open PySem PySem.Spec PyProof.Rows L2 TW Td
section
variable {l : PySem.W.OpenLaw} {w : World} {K : PySem.W.Frag} {h : Heap} {mg : Str → Option Value}
set_option maxHeartbeats 0 in
theorem all_mk {fa : Addr} (X : K.In h) (G : h.Ns mainGlobals mg) (hfa : mg "law" = some (.ref fa))
  {f0 : Addr} {od0 an0 : Option Addr} {sl0 : Array (Option Value)} {oc0 kV0 dc0 pm0 cd0 ct0 : Value} (a0 : PySem.W.nsIn K mainGlobals "is_whole" = some (some (.ref f0))) (l0 : K.lookup f0 = some ⟨oc0, od0, .func (PySem.W.fnOf "is_whole" "is_whole" (defArgs s_is_whole) (defBody s_is_whole) (defScope s_is_whole) .none kV0 dc0 pm0 an0 cd0 ct0), sl0⟩) (c0 : PySem.W.codeIn K cd0 "is_whole" = true) (k0 : PySem.W.keepIn K (.ref f0) = true)
  {f1 : Addr} {od1 an1 : Option Addr} {sl1 : Array (Option Value)} {oc1 kV1 dc1 pm1 cd1 ct1 : Value} (a1 : PySem.W.nsIn K mainGlobals "is_place" = some (some (.ref f1))) (l1 : K.lookup f1 = some ⟨oc1, od1, .func (PySem.W.fnOf "is_place" "is_place" (defArgs s_is_place) (defBody s_is_place) (defScope s_is_place) .none kV1 dc1 pm1 an1 cd1 ct1), sl1⟩) (c1 : PySem.W.codeIn K cd1 "is_place" = true) (k1 : PySem.W.keepIn K (.ref f1) = true)
  {f2 : Addr} {od2 an2 : Option Addr} {sl2 : Array (Option Value)} {oc2 kV2 dc2 pm2 cd2 ct2 : Value} (a2 : PySem.W.nsIn K mainGlobals "rises" = some (some (.ref f2))) (l2 : K.lookup f2 = some ⟨oc2, od2, .func (PySem.W.fnOf "rises" "rises" (defArgs s_rises) (defBody s_rises) (defScope s_rises) .none kV2 dc2 pm2 an2 cd2 ct2), sl2⟩) (c2 : PySem.W.codeIn K cd2 "rises" = true) (k2 : PySem.W.keepIn K (.ref f2) = true)
  {f3 : Addr} {od3 an3 : Option Addr} {sl3 : Array (Option Value)} {oc3 kV3 dc3 pm3 cd3 ct3 : Value} (a3 : PySem.W.nsIn K mainGlobals "is_tie" = some (some (.ref f3))) (l3 : K.lookup f3 = some ⟨oc3, od3, .func (PySem.W.fnOf "is_tie" "is_tie" (defArgs s_is_tie) (defBody s_is_tie) (defScope s_is_tie) .none kV3 dc3 pm3 an3 cd3 ct3), sl3⟩) (c3 : PySem.W.codeIn K cd3 "is_tie" = true) (k3 : PySem.W.keepIn K (.ref f3) = true)
  {f4 : Addr} {od4 an4 : Option Addr} {sl4 : Array (Option Value)} {oc4 kV4 dc4 pm4 cd4 ct4 : Value} (a4 : PySem.W.nsIn K mainGlobals "is_web" = some (some (.ref f4))) (l4 : K.lookup f4 = some ⟨oc4, od4, .func (PySem.W.fnOf "is_web" "is_web" (defArgs s_is_web) (defBody s_is_web) (defScope s_is_web) .none kV4 dc4 pm4 an4 cd4 ct4), sl4⟩) (c4 : PySem.W.codeIn K cd4 "is_web" = true) (k4 : PySem.W.keepIn K (.ref f4) = true)
  {f5 : Addr} {od5 an5 : Option Addr} {sl5 : Array (Option Value)} {oc5 kV5 dc5 pm5 cd5 ct5 : Value} (a5 : PySem.W.nsIn K mainGlobals "shown" = some (some (.ref f5))) (l5 : K.lookup f5 = some ⟨oc5, od5, .func (PySem.W.fnOf "shown" "shown" (defArgs s_shown) (defBody s_shown) (defScope s_shown) .none kV5 dc5 pm5 an5 cd5 ct5), sl5⟩) (c5 : PySem.W.codeIn K cd5 "shown" = true) (k5 : PySem.W.keepIn K (.ref f5) = true)
  {f6 : Addr} {od6 an6 : Option Addr} {sl6 : Array (Option Value)} {oc6 kV6 dc6 pm6 cd6 ct6 : Value} (a6 : PySem.W.nsIn K mainGlobals "number_in" = some (some (.ref f6))) (l6 : K.lookup f6 = some ⟨oc6, od6, .func (PySem.W.fnOf "number_in" "number_in" (defArgs s_number_in) (defBody s_number_in) (defScope s_number_in) .none kV6 dc6 pm6 an6 cd6 ct6), sl6⟩) (c6 : PySem.W.codeIn K cd6 "number_in" = true) (k6 : PySem.W.keepIn K (.ref f6) = true)
  {f7 : Addr} {od7 an7 : Option Addr} {sl7 : Array (Option Value)} {oc7 kV7 dc7 pm7 cd7 ct7 : Value} (a7 : PySem.W.nsIn K mainGlobals "read_web" = some (some (.ref f7))) (l7 : K.lookup f7 = some ⟨oc7, od7, .func (PySem.W.fnOf "read_web" "read_web" (defArgs s_read_web) (defBody s_read_web) (defScope s_read_web) .none kV7 dc7 pm7 an7 cd7 ct7), sl7⟩) (c7 : PySem.W.codeIn K cd7 "read_web" = true) (k7 : PySem.W.keepIn K (.ref f7) = true)
  {f8 : Addr} {od8 an8 : Option Addr} {sl8 : Array (Option Value)} {oc8 kV8 dc8 pm8 cd8 ct8 : Value} (a8 : PySem.W.nsIn K mainGlobals "_law_cell_at" = some (some (.ref f8))) (l8 : K.lookup f8 = some ⟨oc8, od8, .func (PySem.W.fnOf "_law_cell_at" "_law_cell_at" (defArgs s__law_cell_at) (defBody s__law_cell_at) (defScope s__law_cell_at) .none kV8 dc8 pm8 an8 cd8 ct8), sl8⟩) (c8 : PySem.W.codeIn K cd8 "_law_cell_at" = true) (k8 : PySem.W.keepIn K (.ref f8) = true)
  {f9 : Addr} {od9 an9 : Option Addr} {sl9 : Array (Option Value)} {oc9 kV9 dc9 pm9 cd9 ct9 : Value} (a9 : PySem.W.nsIn K mainGlobals "_law_state" = some (some (.ref f9))) (l9 : K.lookup f9 = some ⟨oc9, od9, .func (PySem.W.fnOf "_law_state" "_law_state" (defArgs s__law_state) (defBody s__law_state) (defScope s__law_state) .none kV9 dc9 pm9 an9 cd9 ct9), sl9⟩) (c9 : PySem.W.codeIn K cd9 "_law_state" = true) (k9 : PySem.W.keepIn K (.ref f9) = true)
  {f10 : Addr} {od10 an10 : Option Addr} {sl10 : Array (Option Value)} {oc10 kV10 dc10 pm10 cd10 ct10 : Value} (a10 : PySem.W.nsIn K mainGlobals "_law_take" = some (some (.ref f10))) (l10 : K.lookup f10 = some ⟨oc10, od10, .func (PySem.W.fnOf "_law_take" "_law_take" (defArgs s__law_take) (defBody s__law_take) (defScope s__law_take) .none kV10 dc10 pm10 an10 cd10 ct10), sl10⟩) (c10 : PySem.W.codeIn K cd10 "_law_take" = true) (k10 : PySem.W.keepIn K (.ref f10) = true)
  {f11 : Addr} {od11 an11 : Option Addr} {sl11 : Array (Option Value)} {oc11 kV11 dc11 pm11 cd11 ct11 : Value} (a11 : PySem.W.nsIn K mainGlobals "_law_pairs" = some (some (.ref f11))) (l11 : K.lookup f11 = some ⟨oc11, od11, .func (PySem.W.fnOf "_law_pairs" "_law_pairs" (defArgs s__law_pairs) (defBody s__law_pairs) (defScope s__law_pairs) .none kV11 dc11 pm11 an11 cd11 ct11), sl11⟩) (c11 : PySem.W.codeIn K cd11 "_law_pairs" = true) (k11 : PySem.W.keepIn K (.ref f11) = true)
  {f12 : Addr} {od12 an12 : Option Addr} {sl12 : Array (Option Value)} {oc12 kV12 dc12 pm12 cd12 ct12 : Value} (a12 : PySem.W.nsIn K mainGlobals "_law_mixed_row" = some (some (.ref f12))) (l12 : K.lookup f12 = some ⟨oc12, od12, .func (PySem.W.fnOf "_law_mixed_row" "_law_mixed_row" (defArgs s__law_mixed_row) (defBody s__law_mixed_row) (defScope s__law_mixed_row) .none kV12 dc12 pm12 an12 cd12 ct12), sl12⟩) (c12 : PySem.W.codeIn K cd12 "_law_mixed_row" = true) (k12 : PySem.W.keepIn K (.ref f12) = true)
  {f13 : Addr} {od13 an13 : Option Addr} {sl13 : Array (Option Value)} {oc13 kV13 dc13 pm13 cd13 ct13 : Value} (a13 : PySem.W.nsIn K mainGlobals "_law_web" = some (some (.ref f13))) (l13 : K.lookup f13 = some ⟨oc13, od13, .func (PySem.W.fnOf "_law_web" "_law_web" (defArgs s__law_web) (defBody s__law_web) (defScope s__law_web) .none kV13 dc13 pm13 an13 cd13 ct13), sl13⟩) (c13 : PySem.W.codeIn K cd13 "_law_web" = true) (k13 : PySem.W.keepIn K (.ref f13) = true)
  {f14 : Addr} {od14 an14 : Option Addr} {sl14 : Array (Option Value)} {oc14 kV14 dc14 pm14 cd14 ct14 : Value} (a14 : PySem.W.nsIn K mainGlobals "_law_great_web" = some (some (.ref f14))) (l14 : K.lookup f14 = some ⟨oc14, od14, .func (PySem.W.fnOf "_law_great_web" "_law_great_web" (defArgs s__law_great_web) (defBody s__law_great_web) (defScope s__law_great_web) .none kV14 dc14 pm14 an14 cd14 ct14), sl14⟩) (c14 : PySem.W.codeIn K cd14 "_law_great_web" = true) (k14 : PySem.W.keepIn K (.ref f14) = true)
  {f15 : Addr} {od15 an15 : Option Addr} {sl15 : Array (Option Value)} {oc15 kV15 dc15 pm15 cd15 ct15 : Value} (a15 : PySem.W.nsIn K mainGlobals "_law_whole" = some (some (.ref f15))) (l15 : K.lookup f15 = some ⟨oc15, od15, .func (PySem.W.fnOf "_law_whole" "_law_whole" (defArgs s__law_whole) (defBody s__law_whole) (defScope s__law_whole) .none kV15 dc15 pm15 an15 cd15 ct15), sl15⟩) (c15 : PySem.W.codeIn K cd15 "_law_whole" = true) (k15 : PySem.W.keepIn K (.ref f15) = true)
  {f16 : Addr} {od16 an16 : Option Addr} {sl16 : Array (Option Value)} {oc16 kV16 dc16 pm16 cd16 ct16 : Value} (a16 : PySem.W.nsIn K mainGlobals "_law_is_web" = some (some (.ref f16))) (l16 : K.lookup f16 = some ⟨oc16, od16, .func (PySem.W.fnOf "_law_is_web" "_law_is_web" (defArgs s__law_is_web) (defBody s__law_is_web) (defScope s__law_is_web) .none kV16 dc16 pm16 an16 cd16 ct16), sl16⟩) (c16 : PySem.W.codeIn K cd16 "_law_is_web" = true) (k16 : PySem.W.keepIn K (.ref f16) = true)
  {f17 : Addr} {od17 an17 : Option Addr} {sl17 : Array (Option Value)} {oc17 kV17 dc17 pm17 cd17 ct17 : Value} (a17 : PySem.W.nsIn K mainGlobals "_law_same" = some (some (.ref f17))) (l17 : K.lookup f17 = some ⟨oc17, od17, .func (PySem.W.fnOf "_law_same" "_law_same" (defArgs s__law_same) (defBody s__law_same) (defScope s__law_same) .none kV17 dc17 pm17 an17 cd17 ct17), sl17⟩) (c17 : PySem.W.codeIn K cd17 "_law_same" = true) (k17 : PySem.W.keepIn K (.ref f17) = true)
  {f18 : Addr} {od18 an18 : Option Addr} {sl18 : Array (Option Value)} {oc18 kV18 dc18 pm18 cd18 ct18 : Value} (a18 : PySem.W.nsIn K mainGlobals "_law_refused" = some (some (.ref f18))) (l18 : K.lookup f18 = some ⟨oc18, od18, .func (PySem.W.fnOf "_law_refused" "_law_refused" (defArgs s__law_refused) (defBody s__law_refused) (defScope s__law_refused) .none kV18 dc18 pm18 an18 cd18 ct18), sl18⟩) (c18 : PySem.W.codeIn K cd18 "_law_refused" = true) (k18 : PySem.W.keepIn K (.ref f18) = true)
  {f19 : Addr} {od19 an19 : Option Addr} {sl19 : Array (Option Value)} {oc19 kV19 dc19 pm19 cd19 ct19 : Value} (a19 : PySem.W.nsIn K mainGlobals "_law_number" = some (some (.ref f19))) (l19 : K.lookup f19 = some ⟨oc19, od19, .func (PySem.W.fnOf "_law_number" "_law_number" (defArgs s__law_number) (defBody s__law_number) (defScope s__law_number) .none kV19 dc19 pm19 an19 cd19 ct19), sl19⟩) (c19 : PySem.W.codeIn K cd19 "_law_number" = true) (k19 : PySem.W.keepIn K (.ref f19) = true)
  {f20 : Addr} {od20 an20 : Option Addr} {sl20 : Array (Option Value)} {oc20 kV20 dc20 pm20 cd20 ct20 : Value} (a20 : PySem.W.nsIn K mainGlobals "_law_web_in" = some (some (.ref f20))) (l20 : K.lookup f20 = some ⟨oc20, od20, .func (PySem.W.fnOf "_law_web_in" "_law_web_in" (defArgs s__law_web_in) (defBody s__law_web_in) (defScope s__law_web_in) .none kV20 dc20 pm20 an20 cd20 ct20), sl20⟩) (c20 : PySem.W.codeIn K cd20 "_law_web_in" = true) (k20 : PySem.W.keepIn K (.ref f20) = true)
  {f21 : Addr} {od21 an21 : Option Addr} {sl21 : Array (Option Value)} {oc21 kV21 dc21 pm21 cd21 ct21 : Value} (a21 : PySem.W.nsIn K mainGlobals "_law_bent" = some (some (.ref f21))) (l21 : K.lookup f21 = some ⟨oc21, od21, .func (PySem.W.fnOf "_law_bent" "_law_bent" (defArgs s__law_bent) (defBody s__law_bent) (defScope s__law_bent) .none kV21 dc21 pm21 an21 cd21 ct21), sl21⟩) (c21 : PySem.W.codeIn K cd21 "_law_bent" = true) (k21 : PySem.W.keepIn K (.ref f21) = true)
  {f22 : Addr} {od22 an22 : Option Addr} {sl22 : Array (Option Value)} {oc22 kV22 dc22 pm22  ct22 : Value} {cL22 : Addr} (a22 : PySem.W.nsIn K mainGlobals "law" = some (some (.ref f22))) (l22 : K.lookup f22 = some ⟨oc22, od22, .func (PySem.W.fnOf "law" "law" (defArgs s_law) (defBody s_law) (defScope s_law) .none kV22 dc22 pm22 an22 (.ref cL22) ct22), sl22⟩) (c22 : PySem.W.codeIn K (.ref cL22) "law" = true) (k22 : PySem.W.keepIn K (.ref f22) = true)
  (z_ValueError : PySem.W.nsIn K mainGlobals "ValueError" = some none)
  (z_all : PySem.W.nsIn K mainGlobals "all" = some none)
  (z_bool : PySem.W.nsIn K mainGlobals "bool" = some none)
  (z_int : PySem.W.nsIn K mainGlobals "int" = some none)
  (z_isinstance : PySem.W.nsIn K mainGlobals "isinstance" = some none)
  (z_len : PySem.W.nsIn K mainGlobals "len" = some none)
  (z_list : PySem.W.nsIn K mainGlobals "list" = some none)
  (z_max : PySem.W.nsIn K mainGlobals "max" = some none)
  (z_min : PySem.W.nsIn K mainGlobals "min" = some none)
  (z_range : PySem.W.nsIn K mainGlobals "range" = some none)
  (z_set : PySem.W.nsIn K mainGlobals "set" = some none)
  (z_sorted : PySem.W.nsIn K mainGlobals "sorted" = some none)
  (z_str : PySem.W.nsIn K mainGlobals "str" = some none)
  (z_tuple : PySem.W.nsIn K mainGlobals "tuple" = some none)
  (z_zip : PySem.W.nsIn K mainGlobals "zip" = some none)
  {t_FIGURES : Tok} (z_FIGURES : PySem.W.nsIn K mainGlobals "FIGURES" = some (some (.str "0123456789" t_FIGURES)))
  {t_MOST_FIGURES : Tok} (z_MOST_FIGURES : PySem.W.nsIn K mainGlobals "MOST_FIGURES" = some (some (.int 2 t_MOST_FIGURES)))
  {t_MOST_PLACES : Tok} (z_MOST_PLACES : PySem.W.nsIn K mainGlobals "MOST_PLACES" = some (some (.int 14 t_MOST_PLACES)))
  (zb_NoText : errB K "NoText" = true)
  (zb_er : errsB K = true)
  {PL22 : Addr} {ocC22 : Value} {odC22 : Option Addr} {vC22 : Array Value} {slC22 : Array (Option Value)} (lC22 : K.lookup cL22 = some ⟨ocC22, odC22, .fields vC22, slC22⟩) (pC22 : (vC22[11]? : Option Value) = some (.ref PL22)) (nT22 : K.lookup PL22 = none)
  (hT22 : PySem.W.tabIn K "law" = some (cL22, PL22) → PySem.W.CodeHd h cL22 PL22 ∧ h.get? PL22 = some (PySem.W.tabObj #[]))
  (lt : lamT K = [(PL22, ("law.<locals>.<lambda>" : Str))]) (nd : ([(PL22, ("law.<locals>.<lambda>" : Str))].map Prod.fst).Nodup)
  (ht : ∀ ns : List Int, ns.length ≤ 63 → F_law [scrD ns] = .ok (.bool true))
  : LamX.LawAtS l w K (L2.CX l.prog w) 17 63 "_law_script" mg fa h := by
  have e := hfa.symm.trans (PySem.W.mg_of X G a22)
  cases e
  have t_is_whole : Tx K mg "is_whole" s_is_whole P_is_whole := tx_mk X G a0 l0 c0 k0 fun _ _ _ _ _ _ us hl => match us, hl with | [_], _ => rfl
  have t_is_place : Tx K mg "is_place" s_is_place P_is_place := tx_mk X G a1 l1 c1 k1 fun _ _ _ _ _ _ us hl => match us, hl with | [_, _], _ => rfl
  have t_rises : Tx K mg "rises" s_rises P_rises := tx_mk X G a2 l2 c2 k2 fun _ _ _ _ _ _ us hl => match us, hl with | [_], _ => rfl
  have t_is_tie : Tx K mg "is_tie" s_is_tie P_is_tie := tx_mk X G a3 l3 c3 k3 fun _ _ _ _ _ _ us hl => match us, hl with | [_, _], _ => rfl
  have t_is_web : Tx K mg "is_web" s_is_web P_is_web := tx_mk X G a4 l4 c4 k4 fun _ _ _ _ _ _ us hl => match us, hl with | [_], _ => rfl
  have t_shown : Tx K mg "shown" s_shown P_shown := tx_mk X G a5 l5 c5 k5 fun _ _ _ _ _ _ us hl => match us, hl with | [_], _ => rfl
  have t_number_in : Tx K mg "number_in" s_number_in P_number_in := tx_mk X G a6 l6 c6 k6 fun _ _ _ _ _ _ us hl => match us, hl with | [_], _ => rfl
  have t_read_web : Tx K mg "read_web" s_read_web P_read_web := tx_mk X G a7 l7 c7 k7 fun _ _ _ _ _ _ us hl => match us, hl with | [_], _ => rfl
  have t__law_cell_at : Tx K mg "_law_cell_at" s__law_cell_at P__law_cell_at := tx_mk X G a8 l8 c8 k8 fun _ _ _ _ _ _ us hl => match us, hl with | [_, _], _ => rfl
  have t__law_state : Tx K mg "_law_state" s__law_state P__law_state := tx_mk X G a9 l9 c9 k9 fun _ _ _ _ _ _ us hl => match us, hl with | [_, _], _ => rfl
  have t__law_take : Tx K mg "_law_take" s__law_take P__law_take := tx_mk X G a10 l10 c10 k10 fun _ _ _ _ _ _ us hl => match us, hl with | [_, _], _ => rfl
  have t__law_pairs : Tx K mg "_law_pairs" s__law_pairs P__law_pairs := tx_mk X G a11 l11 c11 k11 fun _ _ _ _ _ _ us hl => match us, hl with | [_], _ => rfl
  have t__law_mixed_row : Tx K mg "_law_mixed_row" s__law_mixed_row P__law_mixed_row := tx_mk X G a12 l12 c12 k12 fun _ _ _ _ _ _ us hl => match us, hl with | [_, _], _ => rfl
  have t__law_web : Tx K mg "_law_web" s__law_web P__law_web := tx_mk X G a13 l13 c13 k13 fun _ _ _ _ _ _ us hl => match us, hl with | [_, _], _ => rfl
  have t__law_great_web : Tx K mg "_law_great_web" s__law_great_web P__law_great_web := tx_mk X G a14 l14 c14 k14 fun _ _ _ _ _ _ us hl => match us, hl with | [_], _ => rfl
  have t__law_whole : Tx K mg "_law_whole" s__law_whole P__law_whole := tx_mk X G a15 l15 c15 k15 fun _ _ _ _ _ _ us hl => match us, hl with | [_], _ => rfl
  have t__law_is_web : Tx K mg "_law_is_web" s__law_is_web P__law_is_web := tx_mk X G a16 l16 c16 k16 fun _ _ _ _ _ _ us hl => match us, hl with | [_], _ => rfl
  have t__law_same : Tx K mg "_law_same" s__law_same P__law_same := tx_mk X G a17 l17 c17 k17 fun _ _ _ _ _ _ us hl => match us, hl with | [_, _], _ => rfl
  have t__law_refused : Tx K mg "_law_refused" s__law_refused P__law_refused := tx_mk X G a18 l18 c18 k18 fun _ _ _ _ _ _ us hl => match us, hl with | [_], _ => rfl
  have t__law_number : Tx K mg "_law_number" s__law_number P__law_number := tx_mk X G a19 l19 c19 k19 fun _ _ _ _ _ _ us hl => match us, hl with | [_], _ => rfl
  have t__law_web_in : Tx K mg "_law_web_in" s__law_web_in P__law_web_in := tx_mk X G a20 l20 c20 k20 fun _ _ _ _ _ _ us hl => match us, hl with | [_], _ => rfl
  have t__law_bent : Tx K mg "_law_bent" s__law_bent P__law_bent := tx_mk X G a21 l21 c21 k21 fun _ _ _ _ _ _ us hl => match us, hl with | [_, _], _ => rfl
  have m_ValueError := PySem.W.mg_none_of X G z_ValueError
  have m_all := PySem.W.mg_none_of X G z_all
  have m_bool := PySem.W.mg_none_of X G z_bool
  have m_int := PySem.W.mg_none_of X G z_int
  have m_isinstance := PySem.W.mg_none_of X G z_isinstance
  have m_len := PySem.W.mg_none_of X G z_len
  have m_list := PySem.W.mg_none_of X G z_list
  have m_max := PySem.W.mg_none_of X G z_max
  have m_min := PySem.W.mg_none_of X G z_min
  have m_range := PySem.W.mg_none_of X G z_range
  have m_set := PySem.W.mg_none_of X G z_set
  have m_sorted := PySem.W.mg_none_of X G z_sorted
  have m_str := PySem.W.mg_none_of X G z_str
  have m_tuple := PySem.W.mg_none_of X G z_tuple
  have m_zip := PySem.W.mg_none_of X G z_zip
  have c_FIGURES : GcS mg "FIGURES" "0123456789" := ⟨_, PySem.W.mg_of X G z_FIGURES⟩
  have c_MOST_FIGURES : GcI mg "MOST_FIGURES" 2 := ⟨_, PySem.W.mg_of X G z_MOST_FIGURES⟩
  have c_MOST_PLACES : GcI mg "MOST_PLACES" 14 := ⟨_, PySem.W.mg_of X G z_MOST_PLACES⟩
  have e_NoText : ErrC K mg (ctK K) 9 "NoText" := errC_of X G 9 rfl zb_NoText
  have er := errs_of X G zb_er
  have tI22 : PySem.W.tabIn K "law" = some (cL22, PL22) := by
    unfold PySem.W.tabIn; rw [a22]; dsimp only; rw [l22]; dsimp only [PySem.W.fnOf]; rw [lC22]; dsimp only; rw [pC22]
  obtain ⟨hC22, hP22⟩ := hT22 tI22
  refine ⟨PySem.W.fnOf "law" "law" (defArgs s_law) (defBody s_law) (defScope s_law) .none kV22 dc22 pm22 an22 (.ref cL22) ct22, [(cL22, PL22)], spD K (ctK K) 1 F_law, ?_, ?_, ?_, fun s v => .of_eq rfl, fun H a ns hl _ hH hS => end_sp ?_ hS hl (ht ns hl), fun base _ _ hB => ?_⟩
  · exact fun p hp => by
      simp only [List.mem_cons, List.not_mem_nil, or_false] at hp
      rcases hp with rfl
      · exact hP22
  · exact fun p hp => by
      simp only [List.mem_cons, List.not_mem_nil, or_false] at hp
      rcases hp with rfl
      · exact nT22
  · exact fun p hp => by
      simp only [List.mem_cons, List.not_mem_nil, or_false] at hp
      rcases hp with rfl
      · exact hC22
  · rw [lt]
    exact fun p hp => by
      simp only [List.mem_cons, List.not_mem_nil, or_false] at hp
      rcases hp with rfl
      · exact LamX.TabS.nil (hH (cL22, PL22) List.mem_cons_self)
  have mk_law : MakerAt K mg base cL22 "law.<locals>.<lambda>" := makerAt_of lt nd (hB (cL22, PL22) List.mem_cons_self) List.mem_cons_self
  have k_is_whole := k_is_whole (P := l.prog) (w := w) (base := base) (ct := ctK K) t_is_whole m_bool m_int m_isinstance
  have k_is_place := k_is_place (P := l.prog) (w := w) (base := base) (ct := ctK K) t_is_place k_is_whole
  have k_rises := k_rises (P := l.prog) (w := w) (base := base) (ct := ctK K) t_rises m_all m_zip
  have k_is_tie := k_is_tie (P := l.prog) (w := w) (base := base) (ct := ctK K) t_is_tie m_all m_isinstance m_len m_tuple k_is_place
  have k_is_web := k_is_web (P := l.prog) (w := w) (base := base) (ct := ctK K) t_is_web m_all m_isinstance m_len m_tuple c_MOST_PLACES k_rises k_is_tie k_is_whole
  have k_shown := k_shown (P := l.prog) (w := w) (base := base) (ct := ctK K) t_shown m_str
  have k_number_in := k_number_in (P := l.prog) (w := w) (base := base) (ct := ctK K) t_number_in m_all m_int m_len c_FIGURES c_MOST_FIGURES
  have k_read_web := k_read_web (P := l.prog) (w := w) (base := base) (ct := ctK K) t_read_web m_isinstance m_str m_tuple e_NoText k_shown k_is_web k_number_in
  have k__law_cell_at := k__law_cell_at (P := l.prog) (w := w) (base := base) (ct := ctK K) t__law_cell_at m_len
  have k__law_state := k__law_state (P := l.prog) (w := w) (base := base) (ct := ctK K) t__law_state k__law_cell_at
  have k__law_take := k__law_take (P := l.prog) (w := w) (base := base) t__law_take
  have k__law_pairs := k__law_pairs (P := l.prog) (w := w) (base := base) (ct := ctK K) t__law_pairs m_range
  have k__law_mixed_row := k__law_mixed_row (P := l.prog) (w := w) (base := base) t__law_mixed_row m_len m_list k__law_take
  have k__law_web := k__law_web (P := l.prog) (w := w) (base := base) (ct := ctK K) t__law_web m_list m_max m_range m_sorted m_tuple k__law_pairs k__law_take k__law_mixed_row
  have k__law_great_web := k__law_great_web (P := l.prog) (w := w) (base := base) t__law_great_web m_max m_min m_range m_set m_sorted m_tuple k__law_take
  have k__law_whole := k__law_whole (P := l.prog) (w := w) (base := base) (ct := ctK K) t__law_whole m_bool m_int m_isinstance
  have k__law_is_web := k__law_is_web (P := l.prog) (w := w) (base := base) (ct := ctK K) t__law_is_web m_isinstance m_len m_list m_set m_sorted m_tuple k__law_whole
  have k__law_same := k__law_same (P := l.prog) (w := w) (base := base) (ct := ctK K) t__law_same m_all m_bool m_isinstance m_len m_list m_tuple m_zip 12
  have k__law_number := k__law_number (P := l.prog) (w := w) (base := base) (ct := ctK K) t__law_number m_int
  have k__law_web_in := k__law_web_in (P := l.prog) (w := w) (base := base) (ct := ctK K) t__law_web_in m_len m_tuple k__law_is_web k__law_number
  have k__law_bent := k__law_bent (P := l.prog) (w := w) (base := base) t__law_bent m_len k__law_take
  exact fnD_okC l22 c22 sc_law rfl (by decide) (kb_law (ct := ctK K) mk_law m_len m_max m_min m_range m_str k_read_web k__law_take k__law_bent k__law_same k__law_web_in k__law_great_web k__law_web k__law_state er t__law_refused m_ValueError m_isinstance)
end
end K91
open PySem PySem.W PyProof.Rows
set_option maxHeartbeats 0 in
theorem PySem.Challenge.cw_tiewebs_k91_texts_that_write_none_holds : PySem.Challenge.rw_tiewebs_k91_texts_that_write_none.Holds := by
  w_on; o_law; k_head; (case hw => w_witness2)
  k_fill
  refine TW.walk_tw (l := PySem.Challenge.rw_tiewebs_k91_texts_that_write_none) (n := 63) (k := 17) (x := "_law_script") (CX := fun w => L2.CX PySem.Challenge.rw_tiewebs_k91_texts_that_write_none.prog w) rfl (by decide) rfl ⟨rfl, by decide, by decide⟩ (fun w h Y => by first | exact PySem.W.kIn_of Y | exact PySem.W.km_in_of Y) ?F (fun _ _ _ _ _ h => TW.cx_end h)
  case F =>
    intro w mg fa h Y0 KX G hmg hTab
    refine' K91.all_mk KX G hmg ?a0 ?l0 ?c0 ?k0 ?a1 ?l1 ?c1 ?k1 ?a2 ?l2 ?c2 ?k2 ?a3 ?l3 ?c3 ?k3 ?a4 ?l4 ?c4 ?k4 ?a5 ?l5 ?c5 ?k5 ?a6 ?l6 ?c6 ?k6 ?a7 ?l7 ?c7 ?k7 ?a8 ?l8 ?c8 ?k8 ?a9 ?l9 ?c9 ?k9 ?a10 ?l10 ?c10 ?k10 ?a11 ?l11 ?c11 ?k11 ?a12 ?l12 ?c12 ?k12 ?a13 ?l13 ?c13 ?k13 ?a14 ?l14 ?c14 ?k14 ?a15 ?l15 ?c15 ?k15 ?a16 ?l16 ?c16 ?k16 ?a17 ?l17 ?c17 ?k17 ?a18 ?l18 ?c18 ?k18 ?a19 ?l19 ?c19 ?k19 ?a20 ?l20 ?c20 ?k20 ?a21 ?l21 ?c21 ?k21 ?a22 ?l22 ?c22 ?k22 ?z_ValueError ?z_all ?z_bool ?z_int ?z_isinstance ?z_len ?z_list ?z_max ?z_min ?z_range ?z_set ?z_sorted ?z_str ?z_tuple ?z_zip ?z_FIGURES ?z_MOST_FIGURES ?z_MOST_PLACES ?zb_NoText ?zb_er ?lC22 ?pC22 ?nT22 ?hT22 ?lt ?nd K91.law_true
    (case a0 => k_is); (case l0 => k_is); (case c0 => k_is); (case k0 => k_is); (case a1 => k_is); (case l1 => k_is); (case c1 => k_is); (case k1 => k_is); (case a2 => k_is); (case l2 => k_is); (case c2 => k_is); (case k2 => k_is); (case a3 => k_is); (case l3 => k_is); (case c3 => k_is); (case k3 => k_is); (case a4 => k_is); (case l4 => k_is); (case c4 => k_is); (case k4 => k_is); (case a5 => k_is); (case l5 => k_is); (case c5 => k_is); (case k5 => k_is); (case a6 => k_is); (case l6 => k_is); (case c6 => k_is); (case k6 => k_is); (case a7 => k_is); (case l7 => k_is); (case c7 => k_is); (case k7 => k_is); (case a8 => k_is); (case l8 => k_is); (case c8 => k_is); (case k8 => k_is); (case a9 => k_is); (case l9 => k_is); (case c9 => k_is); (case k9 => k_is); (case a10 => k_is); (case l10 => k_is); (case c10 => k_is); (case k10 => k_is); (case a11 => k_is); (case l11 => k_is); (case c11 => k_is); (case k11 => k_is); (case a12 => k_is); (case l12 => k_is); (case c12 => k_is); (case k12 => k_is); (case a13 => k_is); (case l13 => k_is); (case c13 => k_is); (case k13 => k_is); (case a14 => k_is); (case l14 => k_is); (case c14 => k_is); (case k14 => k_is); (case a15 => k_is); (case l15 => k_is); (case c15 => k_is); (case k15 => k_is); (case a16 => k_is); (case l16 => k_is); (case c16 => k_is); (case k16 => k_is); (case a17 => k_is); (case l17 => k_is); (case c17 => k_is); (case k17 => k_is); (case a18 => k_is); (case l18 => k_is); (case c18 => k_is); (case k18 => k_is); (case a19 => k_is); (case l19 => k_is); (case c19 => k_is); (case k19 => k_is); (case a20 => k_is); (case l20 => k_is); (case c20 => k_is); (case k20 => k_is); (case a21 => k_is); (case l21 => k_is); (case c21 => k_is); (case k21 => k_is); (case a22 => k_is); (case l22 => k_is); (case c22 => k_is); (case k22 => k_is); (case z_ValueError => k_is); (case z_all => k_is); (case z_bool => k_is); (case z_int => k_is); (case z_isinstance => k_is); (case z_len => k_is); (case z_list => k_is); (case z_max => k_is); (case z_min => k_is); (case z_range => k_is); (case z_set => k_is); (case z_sorted => k_is); (case z_str => k_is); (case z_tuple => k_is); (case z_zip => k_is); (case z_FIGURES => k_is); (case z_MOST_FIGURES => k_is); (case z_MOST_PLACES => k_is)
    (case zb_NoText => kernel_rfl)
    (case zb_er => kernel_rfl)
    (case lC22 => k_is); (case pC22 => rfl); (case nT22 => kernel_rfl); (case hT22 => exact hTab "law" _ _ (by kernel_rfl))
    (case lt => kernel_rfl); (case nd => decide)
