import PyProof.Rows.All
import Wide.All
import OpenK.AllK
import Wide.FinOn
import HandS.ForMost
import HandS.ForExc
import HandS.Lambda
import HandS.TupAny
import HandS.Zip
import HandS.IsInst
import HandS.Deep
import HandS.TupMul
import HandS.Conv
import KE.KDictKeyed
import KE.SortData
import HandS.Style
import HandS.SetFor
import HandS.TupSets
import KE.DataCmp
import KE.DataMinMax
import HandS.Ends
import HandS.Set
import KE.GoesMore
import HandS.ExcOwn
import HandS.ExcInit
import HandS.ExcIs
import HandS.ExcField
import HandS.EndOwn
import HandS.NoneIn
import HandS.Strs
import KE.DataFind
import HandS.TryOnly
import HandS.DictSubView
import HandS.StrMore
import HandS.Flow
import HandS.RaiseMore
import KE.GoesComp
import KE.KAsSuite
import HandS.Codes
import PySem.Challenge.RW_tiewebs_k93_lines_that_are_none
set_option Elab.async false
set_option linter.all false
set_option maxRecDepth 100000
namespace TW
open PySem PySem.Spec PyProof.Rows L2
def SqN (H : Hp) (a : Addr) (xs : List V) : Prop := ∃ o : Obj, H a = some (.frz o (.tup xs)) ∧ o.dict = none
theorem SqN.sqt {K : PySem.W.Frag} {H : Hp} {a : Addr} {xs : List V} (h : SqN H a xs) : SqT K H a xs := let ⟨o, e, _⟩ := h; .inl (.inr ⟨o, e⟩)
def NewT (Q : VK) (H : Hp) (xs : List V) : Prop := ∀ (p : Addr) (o : Obj), H p = none → o.dict = none → Q (.ref p) (upd H p (.frz o (.tup xs)))
section
variable {X : Cx} {pins : List (Addr × Obj)} {σ : L2.St} {H : Hp} {s : Shared} {xs : List V} {us : List Value} {Q : VK}
theorem newT {t' : Nat} (I : Inv X pins σ H s) (r : Vals xs us) (hz : xs.length ≤ sizeLine) (h : NewT Q H xs) :
    EP X pins σ Q (.ref s.heap.objs.size) { s with heap := s.heap.push { cls := .type "tuple", data := .seq us.toArray }, toks := t' } := by
  have hp : H s.heap.objs.size = none := I.hok.fresh (Nat.le_refl _)
  refine ⟨.ref s.heap.objs.size, upd H s.heap.objs.size (.frz { cls := .type "tuple", data := .seq us.toArray } (.tup xs)), I.laid (fun b u q => Heap.get?_push_of_some _ q) (Nat.le_refl _) ?_, rfl, h _ _ hp rfl⟩
  exact ⟨Heap.get?_push_size _ rfl, hz, us, r, IsTup.new _ _⟩
end
def tTupN (t : TA) : TE := fun σ H Q => t σ H fun xs H1 => xs.length ≤ sizeLine ∧ NewT Q H1 xs
theorem pe_tupN {X : Cx} {es : List Expr} {t : TA} {pos : Pos} {k} (h : PA X es t) : PE X (.Tuple es k pos) (tTupN t) :=
  ⟨fun pins s σ H Q I hq => wpAny_Tuple_spliced (thn (h.run pos pins s σ H _ I hq) fun us s1 ⟨xs, H1, I1, r, z, q⟩ => ⟨by rw [← r.length]; exact z, newT (t' := s1.toks) I1 r z q⟩)⟩
def rCatN (K : PySem.W.Frag) : R2 := fun x y H Q => ∃ a b xs ys, x = .ref a ∧ y = .ref b ∧ SqT K H a xs ∧ SqT K H b ys ∧ xs.length + ys.length ≤ sizeLine ∧
  (xs = [] → Q (.ref b) H) ∧ (xs ≠ [] → ys = [] → Q (.ref a) H) ∧ (xs ≠ [] → ys ≠ [] → NewT Q H (xs ++ ys))
theorem op_catN {X : Cx} : OpR X (binaryOp .Add) (rCatN X.K) := by
  intro pins s σ H x y v u Q I rx ry h
  obtain ⟨a, b, xs, ys, rfl, rfl, ha, hb, hz, q0, q1, q2⟩ := h
  by_cases hx : xs = []
  · exact op_catA pins s σ H _ _ v u Q I rx ry ⟨a, b, xs, ys, rfl, rfl, ha, hb, hz, q0, q1, fun z => absurd hx z⟩
  by_cases hy : ys = []
  · exact op_catA pins s σ H _ _ v u Q I rx ry ⟨a, b, xs, ys, rfl, rfl, ha, hb, hz, q0, q1, fun _ z => absurd hy z⟩
  cases rx
  cases ry
  obtain ⟨its, r1, p1, _⟩ := I.tuple ha
  obtain ⟨its2, r2, p2, _⟩ := I.tuple hb
  refine HT.cat_tup p1 p2 (fun z => hx (r1.nil_iff.mp z)) (fun z => absurd (r2.nil_iff.mp z) hy) (fun z => ?_) (by rw [← r1.length, ← r2.length]; exact hz)
  exact newT (t' := s.toks) I (r1.append r2) (by rw [List.length_append]; exact hz) (q2 hx hy)
def rSlN (K : PySem.W.Frag) : V → Option Int → Option Int → Hp → VK → Prop := fun x lo hi H Q => ∃ a xs, x = .ref a ∧ SqT K H a xs ∧
  (HT.sIx xs.length 0 lo = 0 ∧ HT.sIx xs.length xs.length hi = xs.length → Q (.ref a) H) ∧ (¬ (HT.sIx xs.length 0 lo = 0 ∧ HT.sIx xs.length xs.length hi = xs.length) → NewT Q H (cutV xs lo hi))
theorem sl_tupN {X : Cx} : SlR X (rSlN X.K) := by
  intro pins s σ H x v vl vu lo hi sl Q I rx hs pl pu h
  obtain ⟨a, xs, rfl, hx, q1, q2⟩ := h
  by_cases hw : HT.sIx xs.length 0 lo = 0 ∧ HT.sIx xs.length xs.length hi = xs.length
  · exact sl_tupA pins s σ H _ v vl vu lo hi sl Q I rx hs pl pu ⟨a, xs, rfl, hx, q1, fun z => absurd hw z⟩
  cases rx
  obtain ⟨its, r, ht, hz⟩ := I.tuple hx
  have hlen : its.toArray.size = xs.length := by rw [List.size_toArray]; exact r.length.symm
  refine ⟨"tuple", _, PyProof.Rows.slot_tuple_getitem.lookup, ht.typeIs, HT.getItem_tuple_cut ht hs pl pu (by rw [hlen]; exact hw) ?_ (by rw [hlen]; exact hz)⟩
  rw [hlen]
  exact newT (t' := s.toks) I ((r.drop _).take _) (Nat.le_trans (cutV_length xs lo hi) hz) (q2 hw)
def rTupOf (K : PySem.W.Frag) : List V → Hp → VK → Prop := fun xs H Q => ∃ p ys, xs = [.ref p] ∧ ((SqL K H p ys ∧ NewT Q H ys) ∨ (SqT K H p ys ∧ Q (.ref p) H))
theorem call_tupOf {X : Cx} : CallR X (.type "tuple") (rTupOf X.K) := by
  intro pins s σ H xs us Q I r h
  obtain ⟨p, ys, rfl, h⟩ := h
  rcases h with ⟨hq, q⟩ | ⟨hq, q⟩
  · obtain ⟨u, rfl, rx⟩ := vals1 r
    cases rx
    obtain ⟨its, r', pl, hz⟩ := I.list hq
    have hlen := r'.length
    refine call_tuple_list pl.isList (fun h' kp => ?_) (by simp only [List.size_toArray] <;> omega)
    exact newT (t' := s.toks) (I.kept (t' := s.toks) kp) r' hz q
  · exact call_tuple_of pins s σ H _ us Q I r ⟨p, ys, rfl, .inr ⟨hq, q⟩⟩
def rRepN (K : PySem.W.Frag) : R2 := fun x y H Q => ∃ l k xs, x = .ref l ∧ y = .int k ∧ SqT K H l xs ∧ xs ≠ [] ∧ 2 ≤ k ∧ k ≤ 1000 ∧ xs.length ≤ 1000 ∧ NewT Q H (List.replicate k.toNat xs).flatten
theorem op_repN {X : Cx} : OpR X (binaryOp .Mult) (rRepN X.K) := by
  intro pins s σ H x y v u Q I rx ry h
  obtain ⟨l, k, xs, rfl, rfl, hT, hne, h1, h2, hz, q⟩ := h
  cases rx
  obtain ⟨t, rfl⟩ := ry
  obtain ⟨its, r, ⟨⟨cls, dd, data, sl⟩, ho, hc, n, hd⟩, hs⟩ := I.tuple hT
  simp only at hc hd
  subst hc hd
  have hle : its.toArray.size = xs.length := by rw [List.size_toArray]; exact r.length.symm
  have hpos : 0 < xs.length := List.length_pos_iff.mpr hne
  have hi : its.toArray.isEmpty = false := by
    rw [Bool.eq_false_iff]
    intro z
    have := Array.isEmpty_iff_size_eq_zero.mp z
    omega
  have hfl : ∀ {α : Type} (ys : List α), ys.length ≤ 1000 → (List.replicate k.toNat ys).flatten.length ≤ sizeLine := fun ys hy => by
    rw [List.length_flatten, List.map_replicate, List.sum_replicate_nat, sizeLine_eq]
    exact Nat.le_trans (Nat.mul_le_mul (show k.toNat ≤ 1000 by omega) hy) (by decide)
  have hm : ((its.toArray.size : Nat) : Int) * k ≤ 1000 * 1000 := by
    rw [hle]
    exact Int.mul_le_mul (by omega) h2 (by omega) (by decide)
  have d0 : (decide (k < -(2 ^ 63)) || decide (k ≥ 2 ^ 63)) = false := by rw [decide_eq_false (by omega), decide_eq_false (by omega)]; rfl
  have d1 : (its.toArray.isEmpty || k == 1) = false := by rw [hi, Bool.false_or]; exact beq_eq_false_iff_ne.mpr (by omega)
  have d2 : (decide (k ≤ 0) || its.toArray.isEmpty) = false := by rw [hi, Bool.or_false]; exact decide_eq_false (by omega)
  have d4 : Builtin.Tuple.tupleTooMany (((its.toArray.size : Nat) : Int) * k) = false := by
    unfold Builtin.Tuple.tupleTooMany
    rw [sizeLine_eq]
    exact decide_eq_false (by omega)
  have hl : its.length ≤ 1000 := by rw [List.size_toArray] at hle; omega
  refine wpAny_binaryOp_repeat_ref (T := "tuple") (U := "int") (by decide) ⟨_, ho, rfl⟩ (fun s' => typeIs_int s' k t) noFill_tuple_mul F.fills_int_mul F.slot_int_rmul repeat_tuple F.slot_int_index.lookup ?_
  refine call_meets F.slot_int_rmul (typeIs_int s k t) F.entry_int_rmul (F.args_int_rmul_2 _ _) (int_rmul_tuple k t l its.toArray n dd sl) ⟨ho, rfl, ⟨_, ho, rfl⟩, ?_⟩
  refine call_meets F.slot_tuple_mul ⟨_, ho, rfl⟩ F.entry_tuple_mul (F.args_tuple_mul_2 _ _) (tuple_mulW l its.toArray n dd sl k t d0 d1 d2 (by omega) d4 (by rw [size_rep, List.size_toArray]; exact hfl its hl)) ⟨ho, ?_⟩
  rw [size_rep]
  exact newT (t' := s.toks) I (r.rep k.toNat) (hfl xs hz) q
end TW
set_option Elab.async false
set_option linter.all false
set_option maxRecDepth 100000
namespace TW
open PySem PySem.Spec PyProof.Rows L2
def EntR (x : NestedKey × Addr × V) (y : NestedKey × Addr × Value) : Prop := x.1 = y.1 ∧ x.2.1 = y.2.1 ∧ RelV x.2.2 y.2.2
def dictO (P : Program) (w : World) (a : Addr) (xs : List (NestedKey × Addr × V)) : HO := .ext fun h => (a == sysModules) = false ∧ ∃ o es ep ys, h.get? a = some o ∧ o.ExactDict ∧ o.data = .dict es ep ∧ Paired EntR xs ys ∧ es.toList = ys.map (entryOfKey (nestedKind P w))
def objX (a : Addr) (o : Obj) : HO := .ext fun h => h.get? a = some o
structure DictIs (P : Program) (w : World) (a : Addr) (o : Obj) (xs : List (NestedKey × Addr × V)) : Prop where
  mods : (a == sysModules) = false
  is : ∃ es ep ys, o.ExactDict ∧ o.data = .dict es ep ∧ Paired EntR xs ys ∧ es.toList = ys.map (entryOfKey (nestedKind P w))
def Still (k : NestedKey) : Prop := ∀ w w' : World, k.hash w = k.hash w'
end TW
set_option Elab.async false
set_option linter.all false
set_option maxRecDepth 100000
namespace TW
open PySem PySem.Spec PyProof.Rows L2
abbrev D := PyData
inductive C where
  | un | dat (d : D) | own (t : Bool) (ds : List D)
inductive R (α : Type) where
  | ok (a : α) | err (c : Nat) (xs : List D) | bad
abbrev M (α : Type) := List C → R (α × List C)
@[inline] def M.pure {α : Type} (a : α) : M α := fun cs => .ok (a, cs)
def R.bind {α β : Type} (r : R α) (k : α → R β) : R β := match r with
  | .ok a => k a
  | .err c xs => .err c xs
  | .bad => .bad
def M.bind {α β : Type} (m : M α) (k : α → M β) : M β := fun cs => match m cs with
  | .ok (a, cs') => k a cs'
  | .err c xs => .err c xs
  | .bad => .bad
def M.lift {α : Type} (r : R α) : M α := fun cs => match r with
  | .ok a => .ok (a, cs)
  | .err c xs => .err c xs
  | .bad => .bad
def NT (o : HO) : Prop := ∀ ps, o ≠ .tbl ps
def deskC (K : PySem.W.Frag) : Addr := match PySem.W.nsIn K mainGlobals "Desk" with
  | some (some (.ref c)) => c
  | _ => 0
mutual
inductive Rp (K : PySem.W.Frag) (G : Hp) : V → D → Prop
  | non : Rp K G .non .none
  | bl (b : Bool) : Rp K G (.bl b) (.bool b)
  | int (i : Int) : Rp K G (.int i) (.int i)
  | str (x : Str) : Rp K G (.str x) (.str x)
  | lst {a : Addr} {xs : List V} {ds : List D} : G a = some (.lst xs) → ds.length ≤ sizeLine → RpAll K G xs ds → Rp K G (.ref a) (.list ds)
  | scr {a : Addr} {xs : List V} {ds : List D} : SqL K G a xs → ds.length ≤ sizeLine → RpAll K G xs ds → Rp K G (.ref a) (.dict [(.none, .list ds)])
  | tup {a : Addr} {xs : List V} {ds : List D} : SqN G a xs → ds.length ≤ sizeLine → RpAll K G xs ds → Rp K G (.ref a) (.tuple ds)
  | zp {a : Addr} {xs : List V} {ds : List D} : SqT K G a xs → RpAll K G xs ds → Rp K G (.ref a) (.dict [(.bool true, .tuple ds)])
  | dct {a : Addr} : G a = some (.dK []) → Rp K G (.ref a) (.dict [])
  | ex0 {a : Addr} : Rp K G (.ref a) (.dict [(.int a, .none)])
  | exF {a dd : Addr} {m n : Int} : G dd = some (.xd [("most", .int n), ("many", .int m)]) → Rp K G (.ref a) (.dict [(.int a, .tuple [.int dd, .int m, .int n])])
  | lam {f c : Addr} {q : Str} : G c = some (LamX.CodeO c q) → Rp K G (.ref f) (.dict [(.none, .tuple [.int f, .int c, .str q])])
  | dik {P : Program} {w : World} {a : Addr} {o : Obj} {xs : List (NestedKey × Addr × V)} {ds : List D} : G a = some (objX a o) → DictIs P w a o xs → xs.length ≤ sizeLine → (xs.map (·.1)).Nodup → (∀ x ∈ xs, x.1.depth ≤ 8 ∧ Still x.1) → RpAll K G (xs.map fun x => .ref x.2.1) (xs.map (·.1.data)) → RpAll K G (xs.map (·.2.2)) ds → Rp K G (.ref a) (.dict ((.bool false, .none) :: (xs.map (·.1.data)).zip ds))
  | ikd {a : Addr} {kvs : List (Int × V)} {ds : List D} : G a = some (.dK (kvs.map fun e => (.inl e.1, e.2))) → kvs.length ≤ sizeLine → (kvs.map (·.1)).Nodup → RpAll K G (kvs.map (·.2)) ds → Rp K G (.ref a) (.dict ((.bool false, .bool true) :: List.zipWith (fun e d => (.int e.1, d)) kvs ds))
  | dsk {x dx p : Addr} {v : V} {vs : List V} {w : D} {ps : List D} : G x = some (.ins (deskC K) dx [("web", v), ("past", .ref p)]) → G p = some (.lst vs) → ps.length ≤ sizeLine → Rp K G v w → RpAll K G vs ps → Rp K G (.ref x) (.dict [(.bool false, .int x), (w, .list ps)])
inductive RpAll (K : PySem.W.Frag) (G : Hp) : List V → List D → Prop
  | nil : RpAll K G [] []
  | cons {v : V} {vs : List V} {d : D} {ds : List D} : Rp K G v d → RpAll K G vs ds → RpAll K G (v :: vs) (d :: ds)
end
theorem Same.sqn {H H' : Hp} {a : Addr} {xs : List V} (e : Same H H') (h : SqN H a xs) : SqN H' a xs := let ⟨o, q, d⟩ := h; ⟨o, e _ _ q, d⟩
theorem Same.sqt {K : PySem.W.Frag} {H H' : Hp} {a : Addr} {xs : List V} (e : Same H H') (h : SqT K H a xs) : SqT K H' a xs := by
  rcases h with (h | ⟨o, h⟩) | h
  · exact .inl (.inl (e _ _ h))
  · exact .inl (.inr ⟨o, e _ _ h⟩)
  · exact .inr h
mutual
theorem Rp.mono {K : PySem.W.Frag} {G G' : Hp} (e : Same G G') : ∀ {v : V} {d : D}, Rp K G v d → Rp K G' v d
  | _, _, .non => .non
  | _, _, .bl b => .bl b
  | _, _, .int i => .int i
  | _, _, .str x => .str x
  | _, _, .lst h z a => .lst (e _ _ h) z (RpAll.mono e a)
  | _, _, .scr h z a => .scr (Same.seq e h) z (RpAll.mono e a)
  | _, _, .tup h z a => .tup (Same.sqn e h) z (RpAll.mono e a)
  | _, _, .zp h a => .zp (Same.sqt e h) (RpAll.mono e a)
  | _, _, .dct h => .dct (e _ _ h)
  | _, _, .ex0 => .ex0
  | _, _, .exF h => .exF (e _ _ h)
  | _, _, .lam h => .lam (e _ _ h)
  | _, _, .dik h i y n z k a => .dik (e _ _ h) i y n z (RpAll.mono e k) (RpAll.mono e a)
  | _, _, .ikd h z n a => .ikd (e _ _ h) z n (RpAll.mono e a)
  | _, _, .dsk h1 h2 z r a => .dsk (e _ _ h1) (e _ _ h2) z (Rp.mono e r) (RpAll.mono e a)
theorem RpAll.mono {K : PySem.W.Frag} {G G' : Hp} (e : Same G G') : ∀ {vs : List V} {ds : List D}, RpAll K G vs ds → RpAll K G' vs ds
  | _, _, .nil => .nil
  | _, _, .cons h t => .cons (Rp.mono e h) (RpAll.mono e t)
end
section
variable {K : PySem.W.Frag} {G H : Hp}
theorem RpAll.length : ∀ {vs : List V} {ds : List D}, RpAll K G vs ds → vs.length = ds.length
  | _, _, .nil => rfl
  | _, _, .cons _ t => congrArg (· + 1) (RpAll.length t)
theorem RpAll.get : ∀ {vs : List V} {ds : List D} {i : Nat} {d : D}, RpAll K G vs ds → ds[i]? = some d → ∃ v, vs[i]? = some v ∧ Rp K G v d
  | _, _, _, _, .nil, e => by simp at e
  | _, _, 0, _, .cons h _, e => by simp at e; subst e; exact ⟨_, rfl, h⟩
  | _, _, i + 1, d, .cons _ t, e => by
    obtain ⟨v, h1, h2⟩ := RpAll.get (i := i) t (by simpa using e)
    exact ⟨v, by simpa using h1, h2⟩
theorem RpAll.append : ∀ {vs ws : List V} {ds es : List D}, RpAll K G vs ds → RpAll K G ws es → RpAll K G (vs ++ ws) (ds ++ es)
  | _, _, _, _, .nil, s => s
  | _, _, _, _, .cons h t, s => .cons h (RpAll.append t s)
theorem RpAll.take : ∀ (n : Nat) {vs : List V} {ds : List D}, RpAll K G vs ds → RpAll K G (vs.take n) (ds.take n)
  | 0, _, _, _ => .nil
  | _ + 1, _, _, .nil => .nil
  | n + 1, _, _, .cons h t => .cons h (RpAll.take n t)
theorem RpAll.drop : ∀ (n : Nat) {vs : List V} {ds : List D}, RpAll K G vs ds → RpAll K G (vs.drop n) (ds.drop n)
  | 0, _, _, h => h
  | _ + 1, _, _, .nil => .nil
  | n + 1, _, _, .cons _ t => RpAll.drop n t
theorem RpAll.set {v : V} {d : D} (h : Rp K G v d) : ∀ (i : Nat) {vs : List V} {ds : List D}, RpAll K G vs ds → RpAll K G (vs.set i v) (ds.set i d)
  | _, _, _, .nil => .nil
  | 0, _, _, .cons _ t => .cons h t
  | i + 1, _, _, .cons q t => .cons q (RpAll.set h i t)
theorem RpAll.eraseIdx : ∀ (i : Nat) {vs : List V} {ds : List D}, RpAll K G vs ds → RpAll K G (vs.eraseIdx i) (ds.eraseIdx i)
  | _, _, _, .nil => .nil
  | 0, _, _, .cons _ t => t
  | i + 1, _, _, .cons q t => .cons q (RpAll.eraseIdx i t)
theorem RpAll.reverse {vs : List V} {ds : List D} (h : RpAll K G vs ds) : RpAll K G vs.reverse ds.reverse := by
  induction ds generalizing vs with
  | nil => cases h; exact .nil
  | cons d ds ih =>
    cases h with
    | cons a b =>
      rw [List.reverse_cons, List.reverse_cons]
      exact (ih b).append (.cons a .nil)
theorem Rp.ofInt {v : V} {i : Int} (h : Rp K G v (.int i)) : v = .int i := by cases h; rfl
theorem Rp.ofBl {v : V} {b : Bool} (h : Rp K G v (.bool b)) : v = .bl b := by cases h; rfl
theorem Rp.ofStr {v : V} {x : Str} (h : Rp K G v (.str x)) : v = .str x := by cases h; rfl
theorem Rp.ofNon {v : V} (h : Rp K G v .none) : v = .non := by cases h; rfl
theorem Rp.ofScr {v : V} {ds : List D} (h : Rp K G v (.dict [(.none, .list ds)])) : ∃ a xs, v = .ref a ∧ SqL K G a xs ∧ ds.length ≤ sizeLine ∧ RpAll K G xs ds := by cases h with | scr h z a => exact ⟨_, _, rfl, h, z, a⟩
theorem Rp.ofLst {v : V} {ds : List D} (h : Rp K G v (.list ds)) : ∃ a xs, v = .ref a ∧ G a = some (.lst xs) ∧ ds.length ≤ sizeLine ∧ RpAll K G xs ds := by cases h with | lst h z a => exact ⟨_, _, rfl, h, z, a⟩
theorem Rp.ofTup {v : V} {ds : List D} (h : Rp K G v (.tuple ds)) : ∃ a xs, v = .ref a ∧ SqT K G a xs ∧ ds.length ≤ sizeLine ∧ RpAll K G xs ds := by cases h with | tup h z a => exact ⟨_, _, rfl, h.sqt, z, a⟩
theorem Rp.ofZp {v : V} {ds : List D} (h : Rp K G v (.dict [(.bool true, .tuple ds)])) : ∃ a xs, v = .ref a ∧ SqT K G a xs ∧ RpAll K G xs ds := by cases h with | zp h a => exact ⟨_, _, rfl, h, a⟩
end
mutual
/-- no dict in it -/
def noDict : D → Bool
  | .none | .bool _ | .int _ | .str _ => true
  | .list xs | .tuple xs => noDictAll xs
  | .dict _ => false
def noDictAll : List D → Bool
  | [] => true
  | x :: xs => noDict x && noDictAll xs
end
section
variable {K : PySem.W.Frag} {G : Hp}
mutual
theorem Rp.dp : ∀ {v : V} {d : D}, noDict d = true → Rp K G v d → Dp K G v d
  | _, _, _, .non => .non
  | _, _, _, .bl b => .bl b
  | _, _, _, .int i => .int i
  | _, _, _, .str x => .str x
  | _, .list ds, n, .lst h z a => .lst (SqL.of h) (RpAll.dp (by simpa [noDict] using n) a)
  | _, .tuple ds, n, .tup h z a => .tup h.sqt (RpAll.dp (by simpa [noDict] using n) a)
  | _, _, n, .dct h => by simp [noDict] at n
  | _, _, n, .scr _ _ _ => by simp [noDict] at n
  | _, _, n, .zp _ _ => by simp [noDict] at n
  | _, _, n, .ex0 => by simp [noDict] at n
  | _, _, n, .exF _ => by simp [noDict] at n
  | _, _, n, .lam _ => by simp [noDict] at n
  | _, _, n, .dik _ _ _ _ _ _ _ => by simp [noDict] at n
theorem RpAll.dp : ∀ {vs : List V} {ds : List D}, noDictAll ds = true → RpAll K G vs ds → DpAll K G vs ds
  | _, _, _, .nil => .nil
  | _, d :: ds, n, .cons h t => by
    simp only [noDictAll, Bool.and_eq_true] at n
    exact .cons (Rp.dp n.1 h) (RpAll.dp n.2 t)
end
mutual
theorem noDict_of : ∀ d : D, d.canLay0 = true → noDict d = true
  | .none, _ | .bool _, _ | .int _, _ | .str _, _ => by simp [noDict]
  | .list xs, h | .tuple xs, h => by
    simp only [noDict]
    exact noDictAll_of xs (by simpa [PyData.canLay0] using h)
  | .dict _, h => by simp [PyData.canLay0] at h
theorem noDictAll_of : ∀ ds : List D, PyData.canLayAll0 ds = true → noDictAll ds = true
  | [], _ => by simp [noDictAll]
  | d :: ds, h => by
    simp only [PyData.canLayAll0, Bool.and_eq_true] at h
    simp only [noDictAll, noDict_of d h.1, noDictAll_of ds h.2, Bool.and_self]
end
end
def Ow (t : Bool) (δ : List C) (σ : L2.St) (b : Addr) : Prop := ∃ (i : Nat) (ds : List D), δ[i]? = some (.own t ds) ∧ σ[i]? = some (some (.ref b))
def OwA (δ : List C) (σ : L2.St) (b : Addr) : Prop := ∃ t, Ow t δ σ b
def tabAt (K : PySem.W.Frag) (x : Str) : Option Addr := match PySem.W.nsIn K mainGlobals x with
  | some (some (.ref f)) => match K.lookup f with
    | some ⟨_, _, .func fd, _⟩ => match fd.code with
      | .ref c => match K.lookup c with
        | some ⟨_, _, .fields vs, _⟩ => match (vs[11]? : Option Value) with
          | some (Value.ref P) => some P
          | _ => none
        | _ => none
      | _ => none
    | _ => none
  | _ => none
def lamQ : List (Str × Str) := [("law", "law.<locals>.<lambda>"), ("_law_within_right", "_law_within_right.<locals>.<lambda>"), ("_law_refusals_right", "_law_refusals_right.<locals>.<lambda>"),
  ("_law_sharings_right", "_law_sharings_right.<locals>.<lambda>"), ("_law_right", "_law_right.<locals>.<lambda>"), ("_law_lists_right", "_law_lists_right.<locals>.<lambda>"), ("_law_papers_right", "_law_papers_right.<locals>.<lambda>"),
  ("_law_great_right", "_law_great_right.<locals>.<lambda>"), ("_law_told_right", "_law_told_right.<locals>.<lambda>"), ("_law_desks_right", "_law_desks_right.<locals>.<lambda>"), ("_law_texts_right", "_law_texts_right.<locals>.<lambda>")]
def lamT (K : PySem.W.Frag) : List (Addr × Str) := lamQ.filterMap fun z => (tabAt K z.1).map fun P => (P, z.2)
structure Rel (K : PySem.W.Frag) (δ : List C) (G : Hp) (σ : L2.St) (H : Hp) : Prop where
  len : δ.length = σ.length
  same : Same G H
  nt : ∀ b o, G b = some o → NT o
  dat : ∀ (i : Nat) (d : D), δ[i]? = some (.dat d) → ∃ v, σ[i]? = some (some v) ∧ Rp K G v d
  own : ∀ (i : Nat) (t : Bool) (ds : List D), δ[i]? = some (.own t ds) → ∃ p vs, σ[i]? = some (some (.ref p)) ∧ H p = some (.lst vs) ∧ G p = none ∧ ds.length ≤ sizeLine ∧ RpAll K G vs ds
  inj : ∀ (i j : Nat) (p : Addr) (t u : Bool) (ds es : List D), δ[i]? = some (.own t ds) → δ[j]? = some (.own u es) → σ[i]? = some (some (.ref p)) → σ[j]? = some (some (.ref p)) → i = j
  tabs : LamX.Tabs (lamT K) H
def Fre (H : Hp) (b : Addr) : Prop := ∀ o, H b = some o → ¬ NT o
theorem fre_none {H : Hp} {b : Addr} (h : H b = none) : Fre H b := fun o e => by rw [h] at e; cases e
theorem Fre.not {H : Hp} {b : Addr} {xs : List V} (h : Fre H b) (e : H b = some (.lst xs)) {α : Prop} : α := (h _ e fun _ z => nomatch z).elim
def NewAt (H : Hp) (b : Addr) (o : HO) : Prop := Fre H b ∨ ∃ q, o = LamX.CodeO b q
theorem code_not_lst {b : Addr} {q : Str} {xs : List V} (e : (HO.lst xs) = LamX.CodeO b q) {α : Prop} : α := by unfold LamX.CodeO at e; cases e
theorem NewAt.not {H H' : Hp} {b : Addr} {o : HO} {xs ys : List V} (z : NewAt H b o) (h : H b = some (.lst xs)) (h1 : H' b = some o) (h2 : H' b = some (.lst ys)) {α : Prop} : α := by
  rcases z with z | ⟨q, z⟩
  · exact z.not h
  · subst z
    rw [h2] at h1
    exact code_not_lst (Option.some.inj h1)
structure Ext (δ : List C) (G H : Hp) (σ : L2.St) (δ' : List C) (G' H' : Hp) (σ' : L2.St) : Prop where
  keep : ∀ b o, H b = some o → NT o → ¬ OwA δ σ b → H' b = some o
  back : ∀ b, Fre H' b → Fre H b
  same : Same G G'
  new : ∀ b o, G' b = some o → G b = some o ∨ NewAt H b o ∨ Ow false δ σ b
  own : ∀ b, Ow false δ' σ' b → Ow false δ σ b ∨ Fre H b
  par : ∀ b, Ow true δ' σ' b → Ow true δ σ b
structure EExt (K : PySem.W.Frag) (δ : List C) (σ : L2.St) (H H' : Hp) : Prop where
  keep : ∀ b o, H b = some o → NT o → ¬ OwA δ σ b → H' b = some o
  back : ∀ b, Fre H' b → Fre H b
  tabs : LamX.Tabs (lamT K) H'
section
variable {δ δ1 δ2 : List C} {G G1 G2 H H1 H2 : Hp} {σ σ1 σ2 : L2.St}
theorem Ext.refl : Ext δ G H σ δ G H σ := ⟨fun _ _ h _ _ => h, fun _ h => h, Same.refl _, fun _ _ h => .inl h, fun _ h => .inl h, fun _ h => h⟩
theorem Ext.owA (a : Ext δ G H σ δ1 G1 H1 σ1) {b : Addr} (h : OwA δ1 σ1 b) : OwA δ σ b ∨ Fre H b := by
  obtain ⟨t, h⟩ := h
  cases t with
  | true => exact .inl ⟨true, a.par b h⟩
  | false => exact (a.own b h).imp (fun z => ⟨false, z⟩) id
theorem Ext.none_back (a : Ext δ G H σ δ1 G1 H1 σ1) {b : Addr} (h : Fre H1 b) : Fre H b := a.back b h
theorem Ext.trans (a : Ext δ G H σ δ1 G1 H1 σ1) (b : Ext δ1 G1 H1 σ1 δ2 G2 H2 σ2) : Ext δ G H σ δ2 G2 H2 σ2 where
  keep := fun c o h n w => b.keep c o (a.keep c o h n w) n fun z => by
    rcases a.owA z with z | z
    · exact w z
    · exact z _ h n
  back := fun c h => a.back c (b.back c h)
  same := a.same.trans b.same
  new := fun c o h => by
    rcases b.new c o h with h | h | h
    · exact a.new c o h
    · exact .inr (.inl (h.imp (fun z => a.none_back z) id))
    · rcases a.own c h with h | h
      · exact .inr (.inr h)
      · exact .inr (.inl (.inl h))
  own := fun c h => by
    rcases b.own c h with h | h
    · exact a.own c h
    · exact .inr (a.none_back h)
  par := fun c h => a.par c (b.par c h)
theorem Ext.eext {K : PySem.W.Frag} (a : Ext δ G H σ δ1 G1 H1 σ1) (t : LamX.Tabs (lamT K) H1) : EExt K δ σ H H1 := ⟨a.keep, a.back, t⟩
theorem EExt.after {K : PySem.W.Frag} (a : Ext δ G H σ δ1 G1 H1 σ1) (b : EExt K δ1 σ1 H1 H2) : EExt K δ σ H H2 where
  keep := fun c o h n w => b.keep c o (a.keep c o h n w) n fun z => by
    rcases a.owA z with z | z
    · exact w z
    · exact z _ h n
  back := fun c h => a.back c (b.back c h)
  tabs := b.tabs
end
structure Grow (G H G' H' : Hp) : Prop where
  keep : Same H H'
  same : Same G G'
  sub : Same G' H'
  nt : ∀ b o, G' b = some o → NT o
  new : ∀ b o, G' b = some o → G b = some o ∨ H b = none
theorem tabs_keep {H H' : Hp} (e : Same H H') : ∀ T, LamX.Tabs T H → LamX.Tabs T H' := fun T h => h.ext e
section
variable {K : PySem.W.Frag} {δ : List C} {G G' H H' : Hp} {σ : L2.St}
theorem Same.there {H H' : Hp} (e : Same H H') : ∀ b, Fre H' b → Fre H b := fun b h o q => h o (e b o q)
theorem Grow.ext (g : Grow G H G' H') : Ext δ G H σ δ G' H' σ :=
  ⟨fun b o h _ _ => g.keep b o h, Same.there g.keep, g.same, fun b o h => (g.new b o h).imp id fun z => .inl (.inl (fre_none z)), fun _ h => .inl h, fun _ h => h⟩
theorem Grow.rel (g : Grow G H G' H') (r : Rel K δ G σ H) : Rel K δ G' σ H' := by
  refine ⟨r.len, g.sub, g.nt, fun i d e => ?_, fun i t ds e => ?_, r.inj, tabs_keep g.keep _ r.tabs⟩
  · obtain ⟨v, h1, h2⟩ := r.dat i d e
    exact ⟨v, h1, h2.mono g.same⟩
  · obtain ⟨p, vs, h1, h2, h3, h4, h5⟩ := r.own i t ds e
    refine ⟨p, vs, h1, g.keep _ _ h2, ?_, h4, h5.mono g.same⟩
    cases q : G' p with
    | none => rfl
    | some o =>
      rcases g.new p o q with z | z
      · rw [h3] at z; cases z
      · rw [h2] at z; cases z
theorem Grow.refl (r : Rel K δ G σ H) : Grow G H G H := ⟨Same.refl _, Same.refl _, r.same, r.nt, fun _ _ h => .inl h⟩
theorem same_upd {H : Hp} {p : Addr} {o : HO} (h : H p = none) : Same H (upd H p o) := fun b x e => by
  rw [upd_ne (ne_of_none e h)]; exact e
theorem Grow.laid {p : Addr} {o : HO} (hs : Same G H) (hn : ∀ b o, G b = some o → NT o) (h : H p = none) (no : NT o) : Grow G H (upd G p o) (upd H p o) := by
  have hg : G p = none := Same.free hs h
  refine ⟨same_upd h, same_upd hg, fun b x e => ?_, fun b x e => ?_, fun b x e => ?_⟩
  · by_cases q : b = p
    · subst q; rw [upd_same] at e ⊢; exact e
    · rw [upd_ne q] at e ⊢; exact hs b x e
  · by_cases q : b = p
    · subst q; rw [upd_same] at e; cases e; exact no
    · rw [upd_ne q] at e; exact hn b x e
  · by_cases q : b = p
    · subst q; exact .inr h
    · rw [upd_ne q] at e; exact .inl e
theorem Grow.alloc {p : Addr} {o : HO} (hs : Same G H) (hn : ∀ b o, G b = some o → NT o) (h : H p = none) : Grow G H G (upd H p o) :=
  ⟨same_upd h, Same.refl _, hs.trans (same_upd h), hn, fun _ _ e => .inl e⟩
theorem nt_lst {xs : List V} : NT (.lst xs) := fun _ e => nomatch e
theorem nt_tup {xs : List V} : NT (.tup xs) := fun _ e => nomatch e
theorem nt_frz {o : Obj} {u : HO} : NT (.frz o u) := fun _ e => nomatch e
end
def ErrR (ct : Nat → Addr) (n : Nat) (xs : List D) (cls : Value) (dx : Option Addr) (H : Hp) : Prop :=
  cls = .ref (ct n) ∧ match xs with
    | [] => dx = none
    | [.int a, .int b] => ∃ d, dx = some d ∧ H d = some (.xd [("most", .int b), ("many", .int a)])
    | _ => False
class Anti {α β : Type} (P : Hp → Hp → Hp → List C → L2.St → β → α → Prop) : Prop where
  anti : ∀ {δ δ1 : List C} {G H G1 H1 : Hp} {σ σ1 : L2.St} {G' H' : Hp} {δ' : List C} {σ' : L2.St} {v : β} {a : α}, Ext δ G H σ δ1 G1 H1 σ1 → P H1 G' H' δ' σ' v a → P H G' H' δ' σ' v a
def Post {α β : Type} (K : PySem.W.Frag) (ct : Nat → Addr) (W : WX) (P : Hp → Hp → Hp → List C → L2.St → β → α → Prop) (r : R (α × List C)) (δ : List C) (G H : Hp) (σ : L2.St) (Q : β → Hp → Prop) : Prop :=
  match r with
  | .ok (a, δ') => ∀ v G' H', Ext δ G H σ δ' G' H' σ → Rel K δ' G' σ H' → P H G' H' δ' σ v a → Q v H'
  | .err n xs => ∀ cls dx σ' H', EExt K δ σ H H' → ErrR ct n xs cls dx H' → W cls dx σ' H'
  | .bad => False
def tG {α β : Type} (K : PySem.W.Frag) (ct : Nat → Addr) (W : WX) (P : Hp → Hp → Hp → List C → L2.St → β → α → Prop) (m : M α) : L2.St → Hp → (β → Hp → Prop) → Prop := fun σ H Q =>
  ∃ δ G, Rel K δ G σ H ∧ Post K ct W P (m δ) δ G H σ Q
def PD (K : PySem.W.Frag) : Hp → Hp → Hp → List C → L2.St → V → D → Prop := fun _ G' _ _ _ v d => Rp K G' v d
def PB : Hp → Hp → Hp → List C → L2.St → Bool → Bool → Prop := fun _ _ _ _ _ v d => v = d
def PAs (K : PySem.W.Frag) : Hp → Hp → Hp → List C → L2.St → List V → List D → Prop := fun _ G' _ _ _ v d => RpAll K G' v d
def PN (K : PySem.W.Frag) : Hp → Hp → Hp → List C → L2.St → V → List D → Prop := fun H G' H' δ' σ' v ds =>
  ∃ p vs, v = .ref p ∧ Fre H p ∧ H' p = some (.lst vs) ∧ G' p = none ∧ ¬ OwA δ' σ' p ∧ ds.length ≤ sizeLine ∧ RpAll K G' vs ds
def RpV (K : PySem.W.Frag) (δ : List C) (σ : L2.St) (G H : Hp) (v : V) (d : D) : Prop :=
  Rp K G v d ∨ ∃ p vs ds, v = .ref p ∧ d = .list ds ∧ H p = some (.lst vs) ∧ ds.length ≤ sizeLine ∧ RpAll K G vs ds ∧
    ((∃ (i : Nat) (t : Bool), δ[i]? = some (.own t ds) ∧ σ[i]? = some (some (.ref p))) ∨ ¬ OwA δ σ p)
def PV (K : PySem.W.Frag) : Hp → Hp → Hp → List C → L2.St → V → D → Prop := fun _ G' H' δ' σ' v d => RpV K δ' σ' G' H' v d
instance {K : PySem.W.Frag} : Anti (PD K) := ⟨fun _ h => h⟩
instance : Anti PB := ⟨fun _ h => h⟩
instance {K : PySem.W.Frag} : Anti (PAs K) := ⟨fun _ h => h⟩
instance {K : PySem.W.Frag} : Anti (PV K) := ⟨fun _ h => h⟩
instance {K : PySem.W.Frag} : Anti (PN K) := ⟨fun e ⟨p, vs, h1, h2, h3⟩ => ⟨p, vs, h1, e.none_back h2, h3⟩⟩
section
variable {K : PySem.W.Frag} {ct : Nat → Addr} {W : WX} {α β γ ε : Type} {P : Hp → Hp → Hp → List C → L2.St → β → α → Prop} {P' : Hp → Hp → Hp → List C → L2.St → ε → γ → Prop} {δ : List C} {G H : Hp} {σ : L2.St} {Q : ε → Hp → Prop}
theorem Post.at [Anti P'] {r : R (γ × List C)} {δ1 : List C} {G1 H1 : Hp} (x : Ext δ G H σ δ1 G1 H1 σ) (h : Post K ct W P' r δ G H σ Q) : Post K ct W P' r δ1 G1 H1 σ Q := by
  cases r with
  | ok p => exact fun v G' H' x' r' q => h v G' H' (x.trans x') r' (Anti.anti x q)
  | err n xs => exact fun cls dx σ' H' x' e => h cls dx σ' H' (.after x x') e
  | bad => exact h
theorem step [Anti P'] {m : M α} {k : α → M γ} {Q1 : β → Hp → Prop} (rel : Rel K δ G σ H) (h : Post K ct W P' (M.bind m k δ) δ G H σ Q)
    (next : ∀ a δ1 v G1 H1, m δ = .ok (a, δ1) → Ext δ G H σ δ1 G1 H1 σ → Rel K δ1 G1 σ H1 → P H G1 H1 δ1 σ v a → Post K ct W P' (k a δ1) δ1 G1 H1 σ Q → Q1 v H1) :
    Post K ct W P (m δ) δ G H σ Q1 := by
  unfold M.bind at h
  cases e : m δ with
  | ok p =>
    obtain ⟨a, δ1⟩ := p
    rw [e] at h
    exact fun v G1 H1 x r q => next a δ1 v G1 H1 e x r q (Post.at x h)
  | err n xs => rw [e] at h; exact h
  | bad => rw [e] at h; exact h
theorem tG.step [Anti P'] {m : M α} {k : α → M γ} {Q1 : β → Hp → Prop} (h : tG K ct W P' (M.bind m k) σ H Q)
    (next : ∀ a δ1 v G1 H1, Rel K δ1 G1 σ H1 → P H G1 H1 δ1 σ v a → Post K ct W P' (k a δ1) δ1 G1 H1 σ Q → Q1 v H1) : tG K ct W P m σ H Q1 := by
  obtain ⟨δ, G, rel, h⟩ := h
  exact ⟨δ, G, rel, TW.step rel h fun a δ1 v G1 H1 _ _ r q h => next a δ1 v G1 H1 r q h⟩
theorem Post.done [Anti P'] {a : γ} {v : ε} {G' H' : Hp} (h : Post K ct W P' (.ok (a, δ)) δ G H σ Q) (rel : Rel K δ G σ H) (g : Grow G H G' H') (q : P' H G' H' δ σ v a) : Q v H' := h v G' H' g.ext (g.rel rel) q
end
theorem PE.conv {X : Cx} {e : Expr} {t t' : TE} (h : PE X e t) (i : ∀ σ H Q, t' σ H Q → t σ H Q) : PE X e t' := ⟨fun pins s σ H Q I q => h.run pins s σ H Q I (i σ H Q q)⟩
theorem PT.conv {X : Cx} {e : Expr} {t t' : TT} (h : PT X e t) (i : ∀ σ H Q, t' σ H Q → t σ H Q) : PT X e t' := ⟨fun pins s σ H Q I q => h.run pins s σ H Q I (i σ H Q q)⟩
theorem PA.conv {X : Cx} {es : List Expr} {t t' : TA} (h : PA X es t) (i : ∀ σ H Q, t' σ H Q → t σ H Q) : PA X es t' := ⟨fun pos pins s σ H Q I q => h.run pos pins s σ H Q I (i σ H Q q)⟩
theorem PS.conv {X : Cx} {e : Stmt} {t t' : TS} (h : PS X e t) (i : ∀ D σ H, t' D σ H → t D σ H) : PS X e t' := ⟨fun pins s σ H D I q => h.run pins s σ H D I (i D σ H q)⟩
theorem PSs.conv {X : Cx} {e : List Stmt} {t t' : TS} (h : PSs X e t) (i : ∀ D σ H, t' D σ H → t D σ H) : PSs X e t' := ⟨fun pins s σ H D I q => h.run pins s σ H D I (i D σ H q)⟩
theorem PI.conv {X : Cx} {tg e : Expr} {t t' : TI} (h : PI X tg e t) (i : ∀ σ H Q, t' σ H Q → t σ H Q) : PI X tg e t' := ⟨fun pins s σ H Q I q => h.run pins s σ H Q I (i σ H Q q)⟩
abbrev VE (ct : Nat → Addr) (W : WX) (X : Cx) (e : Expr) (m : M D) : Prop := PE X e (tG X.K ct W (PD X.K) m)
abbrev VV (ct : Nat → Addr) (W : WX) (X : Cx) (e : Expr) (m : M D) : Prop := PE X e (tG X.K ct W (PV X.K) m)
abbrev VN (ct : Nat → Addr) (W : WX) (X : Cx) (e : Expr) (m : M (List D)) : Prop := PE X e (tG X.K ct W (PN X.K) m)
abbrev VT (ct : Nat → Addr) (W : WX) (X : Cx) (e : Expr) (m : M Bool) : Prop := PT X e (tG X.K ct W PB m)
abbrev VA (ct : Nat → Addr) (W : WX) (X : Cx) (es : List Expr) (m : M (List D)) : Prop := PA X es (tG X.K ct W (PAs X.K) m)
end TW
set_option Elab.async false
set_option linter.all false
set_option maxRecDepth 100000
namespace TW
open PySem PySem.Spec PyProof.Rows L2
section
variable {K : PySem.W.Frag} {δ δ1 : List C} {G H G1 H1 : Hp} {σ : L2.St} {v : V} {d : D}
theorem RpV.of (h : Rp K G v d) : RpV K δ σ G H v d := .inl h
theorem RpV.at (x : Ext δ G H σ δ G1 H1 σ) (r : Rel K δ G1 σ H1) (h : RpV K δ σ G H v d) : RpV K δ σ G1 H1 v d := by
  rcases h with h | ⟨p, vs, ds, h1, h2, h3, h4, h5, h6⟩
  · exact .inl (h.mono x.same)
  · rcases h6 with ⟨i, t, e1, e2⟩ | h6
    · obtain ⟨q, ws, a1, a2, a3, a4, a5⟩ := r.own i t ds e1
      rw [e2] at a1
      cases a1
      exact .inr ⟨p, ws, ds, h1, h2, a2, a4, a5, .inl ⟨i, t, e1, e2⟩⟩
    · exact .inr ⟨p, vs, ds, h1, h2, x.keep p _ h3 nt_lst h6, h4, h5.mono x.same, .inr h6⟩
theorem RpV.int {i : Int} (h : RpV K δ σ G H v (.int i)) : v = .int i := by
  rcases h with h | ⟨p, vs, ds, _, h2, _⟩
  · exact h.ofInt
  · cases h2
theorem RpV.bl {b : Bool} (h : RpV K δ σ G H v (.bool b)) : v = .bl b := by
  rcases h with h | ⟨p, vs, ds, _, h2, _⟩
  · exact h.ofBl
  · cases h2
theorem RpV.str {x : Str} (h : RpV K δ σ G H v (.str x)) : v = .str x := by
  rcases h with h | ⟨p, vs, ds, _, h2, _⟩
  · exact h.ofStr
  · cases h2
theorem RpV.non (h : RpV K δ σ G H v .none) : v = .non := by
  rcases h with h | ⟨p, vs, ds, _, h2, _⟩
  · exact h.ofNon
  · cases h2
theorem RpV.lst {ds : List D} (s : Same G H) (h : RpV K δ σ G H v (.list ds)) : ∃ a xs, v = .ref a ∧ SqL K H a xs ∧ ds.length ≤ sizeLine ∧ RpAll K G xs ds := by
  rcases h with h | ⟨p, vs, ds', h1, h2, h3, h4, h5, _⟩
  · obtain ⟨a, xs, e, h1, h2, h3⟩ := h.ofLst
    exact ⟨a, xs, e, SqL.of (s _ _ h1), h2, h3⟩
  · cases h2
    exact ⟨p, vs, h1, SqL.of h3, h4, h5⟩
theorem RpV.lst' {ds : List D} (s : Same G H) (h : RpV K δ σ G H v (.list ds)) : ∃ a xs, v = .ref a ∧ H a = some (.lst xs) ∧ ds.length ≤ sizeLine ∧ RpAll K G xs ds := by
  rcases h with h | ⟨p, vs, ds', h1, h2, h3, h4, h5, _⟩
  · obtain ⟨a, xs, e, h1, h2, h3⟩ := h.ofLst
    exact ⟨a, xs, e, s _ _ h1, h2, h3⟩
  · cases h2
    exact ⟨p, vs, h1, h3, h4, h5⟩
theorem RpV.scr {ds : List D} (s : Same G H) (h : RpV K δ σ G H v (.dict [(.none, .list ds)])) : ∃ a xs, v = .ref a ∧ SqL K H a xs ∧ ds.length ≤ sizeLine ∧ RpAll K G xs ds := by
  rcases h with h | ⟨p, vs, ds', h1, h2, h3, h4, h5, _⟩
  · obtain ⟨a, xs, e, h1, h2, h3⟩ := h.ofScr
    exact ⟨a, xs, e, Same.seq s h1, h2, h3⟩
  · cases h2
theorem RpV.tup {ds : List D} (s : Same G H) (h : RpV K δ σ G H v (.tuple ds)) : ∃ a xs, v = .ref a ∧ SqT K H a xs ∧ ds.length ≤ sizeLine ∧ RpAll K G xs ds := by
  rcases h with h | ⟨p, vs, ds', h1, h2, h3, h4, h5, _⟩
  · obtain ⟨a, xs, e, h1, h2, h3⟩ := h.ofTup
    exact ⟨a, xs, e, Same.sqt s h1, h2, h3⟩
  · cases h2
theorem RpV.dp (s : Same G H) (n : noDict d = true) (h : RpV K δ σ G H v d) : Dp K H v d := by
  rcases h with h | ⟨p, vs, ds', h1, h2, h3, h4, h5, _⟩
  · exact (h.mono s).dp n
  · subst h1; subst h2
    exact .lst (SqL.of h3) ((h5.mono s).dp (by simpa [noDict] using n))
theorem RpAll.atI {vs : List V} {ds : List D} {i : Int} {d : D} (h : RpAll K G vs ds) (e : atI ds i = some d) : ∃ v, atI vs i = some v ∧ Rp K G v d := by
  unfold L2.atI at e ⊢
  rw [h.length]
  cases q : ixN ds.length i with
  | none => rw [q] at e; cases e
  | some j =>
    rw [q] at e
    exact h.get (i := j) (by simpa using e)
theorem shaped_noDict {d : D} (h : SeqAt.shaped d = true) : noDict d = true := noDict_of d (SeqAt.canLay_of_shaped h)
end
def mVar (i : Nat) : M D := fun cs => match cs[i]? with
  | some (.dat d) => .ok (d, cs)
  | some (.own false ds) => .ok (.list ds, cs.set i (.dat (.list ds)))
  | _ => .bad
def vVar (i : Nat) : M D := fun cs => match cs[i]? with
  | some (.dat d) => .ok (d, cs)
  | some (.own _ ds) => .ok (.list ds, cs)
  | _ => .bad
def mC (d : D) : M D := M.pure d
section
variable {ct : Nat → Addr} {W : WX} {X : Cx} {e a b : Expr} {m ma mb : M D} {pos : Pos}
theorem freeze {K : PySem.W.Frag} {δ : List C} {G H : Hp} {σ : L2.St} {i : Nat} {ds : List D} {p : Addr} {vs : List V} (r : Rel K δ G σ H) (e1 : δ[i]? = some (.own false ds)) (e2 : σ[i]? = some (some (.ref p))) (e3 : H p = some (.lst vs)) (e4 : G p = none) (e5 : ds.length ≤ sizeLine) (e6 : RpAll K G vs ds) :
    Ext δ G H σ (δ.set i (.dat (.list ds))) (upd G p (.lst vs)) H σ ∧ Rel K (δ.set i (.dat (.list ds))) (upd G p (.lst vs)) σ H ∧ Rp K (upd G p (.lst vs)) (.ref p) (.list ds) := by
  have sg : Same G (upd G p (.lst vs)) := same_upd e4
  have hi : i < δ.length := (List.getElem?_eq_some_iff.mp e1).1
  have hrp : Rp K (upd G p (.lst vs)) (.ref p) (.list ds) := .lst upd_same e5 (e6.mono sg)
  have keep : ∀ {j : Nat} {t : Bool} {es : List D}, (δ.set i (.dat (.list ds)))[j]? = some (.own t es) → j ≠ i ∧ δ[j]? = some (.own t es) := fun {j t es} h => by
    by_cases q : j = i
    · subst q
      rw [List.getElem?_set_self hi] at h
      cases h
    · rw [List.getElem?_set_ne (Ne.symm q)] at h
      exact ⟨q, h⟩
  refine ⟨⟨fun _ _ h _ _ => h, fun _ h => h, sg, fun b o h => ?_, fun b ⟨j, es, h1, h2⟩ => .inl ⟨j, es, (keep h1).2, h2⟩, fun b ⟨j, es, h1, h2⟩ => ⟨j, es, (keep h1).2, h2⟩⟩,
    ⟨by rw [List.length_set]; exact r.len, fun b o h => ?_, fun b o h => ?_, fun j d h => ?_, fun j t es h => ?_, fun j k q t u es fs h1 h2 => r.inj j k q t u es fs (keep h1).2 (keep h2).2, r.tabs⟩, hrp⟩
  · by_cases q : b = p
    · subst q; exact .inr (.inr ⟨i, ds, e1, e2⟩)
    · rw [upd_ne q] at h; exact .inl h
  · by_cases q : b = p
    · subst q; rw [upd_same] at h; cases h; exact e3
    · rw [upd_ne q] at h; exact r.same b o h
  · by_cases q : b = p
    · subst q; rw [upd_same] at h; cases h; exact nt_lst
    · rw [upd_ne q] at h; exact r.nt b o h
  · by_cases q : j = i
    · subst q
      rw [List.getElem?_set_self hi] at h
      cases h
      exact ⟨_, e2, hrp⟩
    · rw [List.getElem?_set_ne (Ne.symm q)] at h
      obtain ⟨v, h1, h2⟩ := r.dat j d h
      exact ⟨v, h1, h2.mono sg⟩
  · obtain ⟨q, h⟩ := keep h
    obtain ⟨p', ws, a1, a2, a3, a4, a5⟩ := r.own j t es h
    have n : p' ≠ p := fun z => q (r.inj j i p t false es ds h e1 (z ▸ a1) e2)
    exact ⟨p', ws, a1, a2, by rw [upd_ne n]; exact a3, a4, a5.mono sg⟩
theorem ve_of {t : TE} {i : Nat} (h : PE X e t) (ht : ∀ σ H Q, tVar i σ H Q → t σ H Q) : VE ct W X e (mVar i) := PE.conv h fun σ H Q ⟨δ, G, r, q⟩ => ht σ H Q (by
  unfold mVar at q
  cases e1 : δ[i]? with
  | none => rw [e1] at q; exact q.elim
  | some c =>
    rw [e1] at q
    cases c with
    | un => exact q.elim
    | dat d =>
      obtain ⟨v, h1, h2⟩ := r.dat i d e1
      exact ⟨v, h1, q v G H Ext.refl r h2⟩
    | own t ds =>
      cases t with
      | true => exact q.elim
      | false =>
        obtain ⟨p, vs, h1, h2, h3, h4, h5⟩ := r.own i false ds e1
        obtain ⟨x, r', rp⟩ := freeze r e1 h1 h2 h3 h4 h5
        exact ⟨_, h1, q _ _ H x r' rp⟩)
theorem ve_var (i : Nat) {x : Str} (h : PE X (.Name x pos) (tVar i)) : VE ct W X (.Name x pos) (mVar i) := ve_of h fun _ _ _ q => q
theorem vv_var (i : Nat) {x : Str} (h : PE X (.Name x pos) (tVar i)) : VV ct W X (.Name x pos) (vVar i) := PE.conv h fun σ H Q ⟨δ, G, r, q⟩ => by
  unfold vVar at q
  cases e1 : δ[i]? with
  | none => rw [e1] at q; exact q.elim
  | some c =>
    rw [e1] at q
    cases c with
    | un => exact q.elim
    | dat d =>
      obtain ⟨v, h1, h2⟩ := r.dat i d e1
      exact ⟨v, h1, q v G H Ext.refl r (.inl h2)⟩
    | own t ds =>
      obtain ⟨p, vs, h1, h2, h3, h4, h5⟩ := r.own i t ds e1
      exact ⟨_, h1, q _ _ H Ext.refl r (.inr ⟨p, vs, ds, rfl, rfl, h2, h4, h5, .inl ⟨i, t, e1, h1⟩⟩)⟩
inductive Flat : V → D → Prop
  | non : Flat .non .none
  | bl (b : Bool) : Flat (.bl b) (.bool b)
  | int (i : Int) : Flat (.int i) (.int i)
  | str (x : Str) : Flat (.str x) (.str x)
theorem Flat.rp {K : PySem.W.Frag} {G : Hp} {v : V} {d : D} (h : Flat v d) : Rp K G v d := by
  cases h
  · exact .non
  · exact .bl _
  · exact .int _
  · exact .str _
theorem ve_c {v : V} {d : D} (h : PE X e (tC v)) (f : Flat v d) : VE ct W X e (mC d) := PE.conv h fun σ H Q ⟨δ, G, r, q⟩ => q v G H Ext.refl r f.rp
theorem vv_of (h : VE ct W X e m) : VV ct W X e m := PE.conv h fun σ H Q ⟨δ, G, r, q⟩ => ⟨δ, G, r, by
  cases e1 : m δ with
  | ok p => obtain ⟨d, δ'⟩ := p; rw [e1] at q; exact fun v G' H' x r' rp => q v G' H' x r' (.inl rp)
  | err n xs => rw [e1] at q; exact q
  | bad => rw [e1] at q; exact q.elim⟩
def mOfN (m : M (List D)) : M D := M.bind m fun ds => M.pure (.list ds)
theorem fresh_rel {K : PySem.W.Frag} {δ δ' : List C} {G H G' H' : Hp} {σ : L2.St} {p : Addr} {vs : List V} {ds : List D} (x : Ext δ G H σ δ' G' H' σ) (r : Rel K δ' G' σ H') (h1 : Fre H p) (h2 : H' p = some (.lst vs)) (h3 : G' p = none) (h4 : ¬ OwA δ' σ p) (h5 : ds.length ≤ sizeLine) (h6 : RpAll K G' vs ds) :
    Ext δ G H σ δ' (upd G' p (.lst vs)) H' σ ∧ Rel K δ' (upd G' p (.lst vs)) σ H' ∧ Rp K (upd G' p (.lst vs)) (.ref p) (.list ds) := by
  have sg : Same G' (upd G' p (.lst vs)) := same_upd h3
  refine ⟨⟨x.keep, x.back, x.same.trans sg, fun b o h => ?_, x.own, x.par⟩, ⟨r.len, fun b o h => ?_, fun b o h => ?_, fun j d h => ?_, fun j t es h => ?_, r.inj, r.tabs⟩, .lst upd_same h5 (h6.mono sg)⟩
  · by_cases q : b = p
    · subst q; exact .inr (.inl (.inl h1))
    · rw [upd_ne q] at h; exact x.new b o h
  · by_cases q : b = p
    · subst q; rw [upd_same] at h; cases h; exact h2
    · rw [upd_ne q] at h; exact r.same b o h
  · by_cases q : b = p
    · subst q; rw [upd_same] at h; cases h; exact nt_lst
    · rw [upd_ne q] at h; exact r.nt b o h
  · obtain ⟨v, a, c⟩ := r.dat j d h
    exact ⟨v, a, c.mono sg⟩
  · obtain ⟨p', ws, a1, a2, a3, a4, a5⟩ := r.own j t es h
    have n : p' ≠ p := fun z => h4 ⟨t, j, es, h, z ▸ a1⟩
    exact ⟨p', ws, a1, a2, by rw [upd_ne n]; exact a3, a4, a5.mono sg⟩
theorem ve_ofN {m : M (List D)} (h : VN ct W X e m) : VE ct W X e (mOfN m) := PE.conv h fun σ H Q ⟨δ, G, r, q⟩ => ⟨δ, G, r, by
  unfold mOfN M.bind at q
  cases e1 : m δ with
  | ok p =>
    obtain ⟨d, δ'⟩ := p
    rw [e1] at q
    intro v G' H' x r' ⟨p, vs, h0, h1, h2, h3, h4, h5, h6⟩
    subst h0
    obtain ⟨x', r2, rp⟩ := fresh_rel x r' h1 h2 h3 h4 h5 h6
    exact q _ _ _ x' r2 rp
  | err n xs => rw [e1] at q; exact q
  | bad => rw [e1] at q; exact q.elim⟩
theorem vv_ofN {m : M (List D)} (h : VN ct W X e m) : VV ct W X e (mOfN m) := PE.conv h fun σ H Q ⟨δ, G, r, q⟩ => ⟨δ, G, r, by
  unfold mOfN M.bind at q
  cases e1 : m δ with
  | ok p =>
    obtain ⟨d, δ'⟩ := p
    rw [e1] at q
    intro v G' H' x r' ⟨p, vs, h0, h1, h2, h3, h4, h5, h6⟩
    exact q _ _ _ x r' (.inr ⟨p, vs, d, h0, rfl, h2, h5, h6, .inr h4⟩)
  | err n xs => rw [e1] at q; exact q
  | bad => rw [e1] at q; exact q.elim⟩
end
def mNil : M (List D) := M.pure []
def mCons (m : M D) (ms : M (List D)) : M (List D) := M.bind m fun d => M.bind ms fun ds => M.pure (d :: ds)
def szOk (n : Nat) : Bool := decide (n ≤ 16777216)
theorem szOk_le {n : Nat} (h : szOk n = true) : n ≤ sizeLine := by rw [sizeLine_eq]; exact of_decide_eq_true h
def mTup (ms : M (List D)) : M D := M.bind ms fun ds => if szOk ds.length then M.pure (.tuple ds) else fun _ => .bad
def mLst (ms : M (List D)) : M (List D) := M.bind ms fun ds => if szOk ds.length then M.pure ds else fun _ => .bad
section
variable {ct : Nat → Addr} {W : WX} {X : Cx} {e a b : Expr} {es : List Expr} {m ma mb : M D} {ms : M (List D)} {pos : Pos}
theorem va_nil : VA ct W X [] mNil := PA.conv pa_nil fun σ H Q ⟨δ, G, r, q⟩ => q [] G H Ext.refl r .nil
theorem va_cons (ha : VE ct W X e m) (hr : VA ct W X es ms) (hs : starEach (e :: es) X.env = (false, eval e X.env) :: starEach es X.env := by rfl) : VA ct W X (e :: es) (mCons m ms) :=
  PA.conv (pa_cons ha hr hs) fun σ H Q h => tG.step h fun d δ1 v G1 H1 r1 p1 h1 => ⟨δ1, G1, r1, TW.step r1 h1 fun ds δ2 vs G2 H2 e2 x2 r2 p2 h2 => h2 (v :: vs) G2 H2 Ext.refl r2 (.cons (Rp.mono x2.same p1) p2)⟩
theorem ve_tup {k : Nat} (h : VA ct W X es ms) : VE ct W X (.Tuple es k pos) (mTup ms) :=
  PE.conv (pe_tupN h) fun σ H Q h => tG.step h fun ds δ1 vs G1 H1 r1 p1 h1 => by
    by_cases z : szOk ds.length = true
    · simp only [z, if_true] at h1
      have hl := szOk_le z
      refine ⟨by rw [RpAll.length p1]; exact hl, fun p ob hp hd => ?_⟩
      exact Post.done h1 r1 (Grow.laid r1.same r1.nt hp nt_frz) (.tup ⟨ob, upd_same, hd⟩ hl (RpAll.mono (same_upd (Same.free r1.same hp)) p1))
    · simp only [z] at h1
      exact h1.elim
theorem vn_lst (h : VA ct W X es ms) : VN ct W X (.List es pos) (mLst ms) :=
  PE.conv (pe_lst h) fun σ H Q h => tG.step h fun ds δ1 vs G1 H1 r1 p1 h1 => by
    by_cases z : szOk ds.length = true
    · simp only [z, if_true] at h1
      have hl := szOk_le z
      refine ⟨by rw [RpAll.length p1]; exact hl, fun p hp => ?_⟩
      refine Post.done h1 r1 (Grow.alloc r1.same r1.nt hp) ⟨p, vs, rfl, fre_none hp, upd_same, Same.free r1.same hp, fun ⟨t, i, es, a1, a2⟩ => ?_, hl, p1⟩
      obtain ⟨q, ws, b1, b2, _⟩ := r1.own i t es a1
      rw [a2] at b1
      cases b1
      rw [hp] at b2
      cases b2
    · simp only [z] at h1
      exact h1.elim
end
def M.only {α : Type} (r : R α) : M α := fun cs => match r with
  | .ok a => .ok (a, cs)
  | _ => .bad
def mOp2 (g : D → D → R D) (ma mb : M D) : M D := M.bind ma fun d => M.bind mb fun e => M.only (g d e)
def mOp1 (g : D → R D) (ma : M D) : M D := M.bind ma fun d => M.only (g d)
def Pure (m : M D) : Prop := ∀ cs d cs', m cs = .ok (d, cs') → cs' = cs
def R2D (K : PySem.W.Frag) (r : R2) (g : D → D → R D) : Prop := ∀ (δ : List C) (σ : L2.St) (G H : Hp) (x y : V) (d e z : D) (Q : VK), Rel K δ G σ H → RpV K δ σ G H x d → RpV K δ σ G H y e → g d e = .ok z →
  (∀ v G' H', Grow G H G' H' → Rp K G' v z → Q v H') → r x y H Q
theorem Post.only {K : PySem.W.Frag} {ct : Nat → Addr} {W : WX} {α β : Type} {P : Hp → Hp → Hp → List C → L2.St → β → α → Prop} {r : R α} {δ : List C} {G H : Hp} {σ : L2.St} {Q : β → Hp → Prop} (h : Post K ct W P (M.only r δ) δ G H σ Q) :
    ∃ a, r = .ok a ∧ Post K ct W P (.ok (a, δ)) δ G H σ Q := by
  cases r with
  | ok a => exact ⟨a, rfl, h⟩
  | err n xs => exact h.elim
  | bad => exact h.elim
section
variable {ct : Nat → Addr} {W : WX} {X : Cx} {e a b : Expr} {es : List Expr} {m ma mb : M D} {ms : M (List D)} {pos : Pos} {r : R2} {g : D → D → R D}
theorem op2_core {K : PySem.W.Frag} (hr : R2D K r g) {σ : L2.St} {H : Hp} {Q : VK} (h : tG K ct W (PD K) (mOp2 g ma mb) σ H Q) : tOp r (tG K ct W (PD K) ma) (tG K ct W (PV K) mb) σ H Q :=
  tG.step h fun d δ1 x G1 H1 r1 p1 h1 => ⟨δ1, G1, r1, TW.step r1 h1 fun e δ2 y G2 H2 _ x2 r2 p2 h2 => by
    obtain ⟨z, ez, h3⟩ := Post.only h2
    exact hr δ2 σ G2 H2 x y d e z Q r2 (.inl (Rp.mono x2.same p1)) p2 ez fun v G' H' g rp => Post.done h3 r2 g rp⟩
theorem op2_coreV {K : PySem.W.Frag} (hr : R2D K r g) (hp : Pure mb) {σ : L2.St} {H : Hp} {Q : VK} (h : tG K ct W (PD K) (mOp2 g ma mb) σ H Q) : tOp r (tG K ct W (PV K) ma) (tG K ct W (PV K) mb) σ H Q :=
  tG.step h fun d δ1 x G1 H1 r1 p1 h1 => ⟨δ1, G1, r1, TW.step r1 h1 fun e δ2 y G2 H2 e2 x2 r2 p2 h2 => by
    obtain ⟨z, ez, h3⟩ := Post.only h2
    have q := hp _ _ _ e2
    subst q
    exact hr δ2 σ G2 H2 x y d e z Q r2 (RpV.at x2 r2 p1) p2 ez fun v G' H' g rp => Post.done h3 r2 g rp⟩
theorem ve_op {op : Operator} (ho : OpR X (binaryOp op) r) (hr : R2D X.K r g) (ha : VE ct W X a ma) (hb : VV ct W X b mb) : VE ct W X (.BinOp a op b pos) (mOp2 g ma mb) := PE.conv (pe_op ho ha hb) fun _ _ _ h => op2_core hr h
theorem ve_cmp {op : CmpOp} (ho : OpR X (compareOp op) r) (hr : R2D X.K r g) (hm : behindInMarks op b = false) (ha : VE ct W X a ma) (hb : VV ct W X b mb) : VE ct W X (.Compare a [op] [b] pos) (mOp2 g ma mb) := PE.conv (pe_cmpR ho ha hb hm) fun _ _ _ h => op2_core hr h
def mTest (m : M D) : M Bool := M.bind m fun d => match d with
  | .bool b => M.pure b
  | _ => fun _ => .bad
theorem test_core {K : PySem.W.Frag} {σ : L2.St} {H : Hp} {Q : Bool → Hp → Prop} (h : tG K ct W PB (mTest m) σ H Q) : tG K ct W (PD K) m σ H (fun x H' => ∃ k, x = .bl k ∧ Q k H') :=
  tG.step h fun d δ1 x G1 H1 r1 p1 h1 => by
    cases d <;> first
      | exact h1.elim
      | exact ⟨_, Rp.ofBl p1, h1 _ G1 H1 Ext.refl r1 rfl⟩
theorem vt_cmp {op : CmpOp} (ho : OpR X (compareOp op) r) (hr : R2D X.K r g) (hm : behindInMarks op b = false) (ha : VE ct W X a ma) (hb : VV ct W X b mb) : VT ct W X (.Compare a [op] [b] pos) (mTest (mOp2 g ma mb)) :=
  PT.conv (pt_cmpR ho ha hb hm) fun _ _ _ h => op2_core hr (test_core h)
theorem vt_val (h : VE ct W X e m) (he : ∀ whole, isTrue e X.env whole = (do let v ← whole; standAt e.pos; holding [v] (truthy v)) := by intro _; rfl) : VT ct W X e (mTest m) := PT.conv (pt_val h he) fun _ _ _ h => test_core h
theorem pure_vVar {i : Nat} : Pure (vVar i) := fun cs d cs' h => by
  unfold vVar at h
  split at h <;> cases h <;> rfl
end
def gI (f : Int → Int → Int) : D → D → R D
  | .int i, .int j => .ok (.int (f i j))
  | _, _ => .bad
def gIC (c : Int → Int → Bool) (f : Int → Int → Int) : D → D → R D
  | .int i, .int j => if c i j then .ok (.int (f i j)) else .bad
  | _, _ => .bad
def gEq : D → D → R D := fun d e => if SeqAt.shaped d && SeqAt.shaped e then .ok (.bool (PyData.eqv d e)) else .bad
def gNe : D → D → R D := fun d e => if SeqAt.shaped d && SeqAt.shaped e then .ok (.bool (!PyData.eqv d e)) else .bad
def gIn (neg : Bool) : D → D → R D
  | d, .list es => if SeqAt.shaped d && SeqAt.shaped (.list es) then .ok (.bool (neg != es.any fun z => PyData.eqv z d)) else .bad
  | d, .tuple es => if SeqAt.shaped d && SeqAt.shaped (.tuple es) then .ok (.bool (neg != es.any fun z => PyData.eqv z d)) else .bad
  | _, _ => .bad
def gIsB : D → D → R D
  | .bool a, .bool b => .ok (.bool (decide (a = b)))
  | _, _ => .bad
def gNotB : D → D → R D
  | .bool a, .bool b => .ok (.bool (!decide (a = b)))
  | _, _ => .bad
def isNon : D → Bool
  | .none => true
  | _ => false
def gIsN : D → D → R D
  | d, .none => .ok (.bool (isNon d))
  | _, _ => .bad
section
variable {K : PySem.W.Frag} {X : Cx}
theorem r2_I {f : Int → Int → Int} : R2D K (rI0 fun i j => .int (f i j)) (gI f) := fun δ σ G H x y d e z Q r hx hy hz q => by
  unfold gI at hz
  split at hz
  · cases hz
    exact ⟨_, _, hx.int, hy.int, q _ G H (Grow.refl r) (.int _)⟩
  · cases hz
theorem r2_IC {c : Int → Int → Bool} {Cc : Int → Int → Prop} {f : Int → Int → Int} (hc : ∀ i j, c i j = true → Cc i j) : R2D K (rI Cc fun i j => .int (f i j)) (gIC c f) := fun δ σ G H x y d e z Q r hx hy hz q => by
  unfold gIC at hz
  split at hz
  · split at hz
    · rename_i hk
      cases hz
      exact ⟨_, _, hx.int, hy.int, hc _ _ hk, q _ G H (Grow.refl r) (.int _)⟩
    · cases hz
  · cases hz
theorem r2_Eq : R2D K (rEqD K) gEq := fun δ σ G H x y d e z Q r hx hy hz q => by
  unfold gEq at hz
  split at hz
  · rename_i hk
    rw [Bool.and_eq_true] at hk
    cases hz
    exact ⟨d, e, hx.dp r.same (shaped_noDict hk.1), hy.dp r.same (shaped_noDict hk.2), hk.1, hk.2, q _ G H (Grow.refl r) (.bl _)⟩
  · cases hz
theorem r2_Ne : R2D K (rNeD K) gNe := fun δ σ G H x y d e z Q r hx hy hz q => by
  unfold gNe at hz
  split at hz
  · rename_i hk
    rw [Bool.and_eq_true] at hk
    cases hz
    exact ⟨d, e, hx.dp r.same (shaped_noDict hk.1), hy.dp r.same (shaped_noDict hk.2), hk.1, hk.2, q _ G H (Grow.refl r) (.bl _)⟩
  · cases hz
def rInA (K : PySem.W.Frag) (neg : Bool) : R2 := fun x y H Q => ∃ d ds, Dp K H x d ∧ (Dp K H y (.list ds) ∨ Dp K H y (.tuple ds)) ∧ SeqAt.shaped d = true ∧ PyData.canLayAll0 ds = true ∧ Q (.bl (neg != ds.any fun z => PyData.eqv z d)) H
theorem op_inA (hu : X.A.units + 65 < cLine) : OpR X (compareOp .In) (rInA X.K false) := by
  intro pins s σ H x y v u Q I rx ry h
  obtain ⟨d, ds, hd, he, sd, se, q⟩ := h
  obtain ⟨as, r1⟩ := Dp.reads I d x v hd rx
  have q' : Q (.bl (ds.any fun z => PyData.eqv z d)) H := by
    have := q
    rwa [Bool.false_bne] at this
  rcases he with he | he
  · obtain ⟨bs, r2⟩ := Dp.reads I (.list ds) y u he ry
    exact SeqAt.in_list_reads r2 r1 se (SeqAt.canLay_of_shaped sd) (room_in_shaped sd hu) ⟨.bl _, H, I, rfl, q'⟩
  · obtain ⟨bs, r2⟩ := Dp.reads I (.tuple ds) y u he ry
    exact SeqAt.in_tuple_reads r2 r1 se (SeqAt.canLay_of_shaped sd) (room_in_shaped sd hu) ⟨.bl _, H, I, rfl, q'⟩
theorem op_notInA (hu : X.A.units + 65 < cLine) : OpR X (compareOp .NotIn) (rInA X.K true) := by
  intro pins s σ H x y v u Q I rx ry h
  obtain ⟨d, ds, hd, he, sd, se, q⟩ := h
  obtain ⟨as, r1⟩ := Dp.reads I d x v hd rx
  have q' : Q (.bl (!ds.any fun z => PyData.eqv z d)) H := by
    have := q
    rwa [Bool.true_bne] at this
  rcases he with he | he
  · obtain ⟨bs, r2⟩ := Dp.reads I (.list ds) y u he ry
    exact SeqAt.notIn_list_reads r2 r1 se (SeqAt.canLay_of_shaped sd) (room_in_shaped sd hu) ⟨.bl _, H, I, rfl, q'⟩
  · obtain ⟨bs, r2⟩ := Dp.reads I (.tuple ds) y u he ry
    exact SeqAt.notIn_tuple_reads r2 r1 se (SeqAt.canLay_of_shaped sd) (room_in_shaped sd hu) ⟨.bl _, H, I, rfl, q'⟩
theorem r2_In {neg : Bool} : R2D K (rInA K neg) (gIn neg) := fun δ σ G H x y d e z Q r hx hy hz q => by
  unfold gIn at hz
  split at hz
  · split at hz
    · rename_i hk
      rw [Bool.and_eq_true] at hk
      cases hz
      exact ⟨_, _, hx.dp r.same (shaped_noDict hk.1), .inl (hy.dp r.same (shaped_noDict hk.2)), hk.1, by simpa [PyData.canLay0] using SeqAt.canLay_of_shaped hk.2, q _ G H (Grow.refl r) (.bl _)⟩
    · cases hz
  · split at hz
    · rename_i hk
      rw [Bool.and_eq_true] at hk
      cases hz
      exact ⟨_, _, hx.dp r.same (shaped_noDict hk.1), .inr (hy.dp r.same (shaped_noDict hk.2)), hk.1, by simpa [PyData.canLay0] using SeqAt.canLay_of_shaped hk.2, q _ G H (Grow.refl r) (.bl _)⟩
    · cases hz
  · cases hz
theorem rpv_non {δ : List C} {σ : L2.St} {G H : Hp} {x : V} {d : D} (h : RpV K δ σ G H x d) : decide (x = .non) = isNon d := by
  rcases h with h | ⟨p, vs, ds, h1, h2, _⟩
  · cases h <;> rfl
  · subst h1; subst h2; rfl
theorem r2_IsN : R2D K (fun x y H Q => y = .non ∧ Q (.bl (decide (x = .non))) H) gIsN := fun δ σ G H x y d e z Q r hx hy hz q => by
  unfold gIsN at hz
  split at hz
  · cases hz
    exact ⟨hy.non, by rw [rpv_non hx]; exact q _ G H (Grow.refl r) (.bl _)⟩
  · cases hz
def gCatT : D → D → R D
  | .tuple ds, .tuple es => if szOk (ds.length + es.length) then .ok (.tuple (ds ++ es)) else .bad
  | _, _ => .bad
theorem r2_CatT : R2D K (rCatN K) gCatT := fun δ σ G H x y d e z Q r hx hy hz q => by
  unfold gCatT at hz
  split at hz
  · split at hz
    · rename_i ds es hk
      cases hz
      have hl := szOk_le hk
      obtain ⟨a, xs, e1, h1, h2, h3⟩ := hx.tup r.same
      obtain ⟨b, ys, e2, k1, k2, k3⟩ := hy.tup r.same
      have l1 := h3.length
      have l2 := k3.length
      refine ⟨a, b, xs, ys, e1, e2, h1, k1, by omega, fun z => ?_, fun z w => ?_, fun z w p ob hp hd => ?_⟩
      · subst z
        have : ds = [] := List.eq_nil_of_length_eq_zero (by rw [← l1]; rfl)
        subst this
        subst e2
        refine q _ G H (Grow.refl r) ?_
        rcases hy with hy | ⟨_, _, _, _, h2, _⟩
        · exact hy
        · cases h2
      · subst w
        have : es = [] := List.eq_nil_of_length_eq_zero (by rw [← l2]; rfl)
        subst this
        subst e1
        rw [List.append_nil] at q
        refine q _ G H (Grow.refl r) ?_
        rcases hx with hx | ⟨_, _, _, _, h2, _⟩
        · exact hx
        · cases h2
      · exact q _ _ _ (Grow.laid r.same r.nt hp nt_frz) (.tup ⟨ob, upd_same, hd⟩ (by rw [List.length_append]; exact hl) (RpAll.mono (same_upd (Same.free r.same hp)) (h3.append k3)))
    · cases hz
  · cases hz
def gIx : D → D → R D
  | .list ds, .int i => match atI ds i with | some d => .ok d | none => .bad
  | .tuple ds, .int i => match atI ds i with | some d => .ok d | none => .bad
  | .dict [(.none, .list ds)], .int i => match atI ds i with | some d => .ok d | none => .bad
  | .str x, .int i => if szOk x.length then (match atI x.cps.toList i with | some c => .ok (.str ⟨#[c]⟩) | none => .bad) else .bad
  | _, _ => .bad
theorem r2_Ix : R2D K (rIx K) gIx := fun δ σ G H x y d e z Q r hx hy hz q => by
  unfold gIx at hz
  split at hz
  · rename_i ds i
    obtain ⟨a, xs, e1, h1, h2, h3⟩ := hx.lst r.same
    cases ha : atI ds i with
    | none => rw [ha] at hz; cases hz
    | some d =>
      rw [ha] at hz; cases hz
      obtain ⟨v, hv, rv⟩ := h3.atI ha
      exact .inl ⟨a, xs, i, v, e1, hy.int, h1, hv, q _ G H (Grow.refl r) rv⟩
  · rename_i ds i
    obtain ⟨a, xs, e1, h1, h2, h3⟩ := hx.tup r.same
    cases ha : atI ds i with
    | none => rw [ha] at hz; cases hz
    | some d =>
      rw [ha] at hz; cases hz
      obtain ⟨v, hv, rv⟩ := h3.atI ha
      exact .inr (.inl ⟨a, xs, i, v, e1, hy.int, h1, hv, q _ G H (Grow.refl r) rv⟩)
  · rename_i ds i
    obtain ⟨a, xs, e1, h1, h2, h3⟩ := hx.scr r.same
    cases ha : atI ds i with
    | none => rw [ha] at hz; cases hz
    | some d =>
      rw [ha] at hz; cases hz
      obtain ⟨v, hv, rv⟩ := h3.atI ha
      exact .inl ⟨a, xs, i, v, e1, hy.int, h1, hv, q _ G H (Grow.refl r) rv⟩
  · split at hz
    · rename_i x' i hk
      cases ha : atI x'.cps.toList i with
      | none => rw [ha] at hz; cases hz
      | some c =>
        rw [ha] at hz; cases hz
        exact .inr (.inr ⟨x', i, c, hx.str, hy.int, szOk_le hk, ha, q _ G H (Grow.refl r) (.str _)⟩)
    · cases hz
  · cases hz
end
section
variable {ct : Nat → Addr} {W : WX} {X : Cx} {e a b c : Expr} {es : List Expr} {m ma mb mc : M D} {ms : M (List D)} {pos : Pos} {r r' : R2} {g g' : D → D → R D}
theorem ve_ix (ha : VE ct W X a ma) (hb : VV ct W X b mb) (hs : PlainIx b) : VE ct W X (.Subscript a b pos) (mOp2 gIx ma mb) := PE.conv (pe_ix ix_seq ha hb hs) fun _ _ _ h => op2_core r2_Ix h
theorem ve_ixV (ha : VV ct W X a ma) (hp : Pure mb) (hb : VV ct W X b mb) (hs : PlainIx b) : VE ct W X (.Subscript a b pos) (mOp2 gIx ma mb) := PE.conv (pe_ix ix_seq ha hb hs) fun _ _ _ h => op2_coreV r2_Ix hp h
def gNeg : D → R D
  | .int i => .ok (.int (-i))
  | _ => .bad
theorem ve_neg (ha : VE ct W X a ma) : VE ct W X (.UnaryOp .USub a pos) (mOp1 gNeg ma) := PE.conv (pe_un un_neg ha) fun σ H Q h => tG.step h fun d δ1 x G1 H1 r1 p1 h1 => by
  obtain ⟨z, ez, h3⟩ := Post.only h1
  unfold gNeg at ez
  split at ez
  · cases ez
    exact ⟨_, Rp.ofInt p1, Post.done h3 r1 (Grow.refl r1) (.int _)⟩
  · cases ez
def mChain (g g' : D → D → R D) (ma mb mc : M D) : M D := M.bind ma fun x => M.bind mb fun y => M.bind (M.only (g x y)) fun z => match z with
  | .bool true => M.bind mc fun w => M.only (g' y w)
  | .bool false => M.pure (.bool false)
  | _ => fun _ => .bad
theorem chain_core {K : PySem.W.Frag} (hr : R2D K r g) (hr' : R2D K r' g') {σ : L2.St} {H : Hp} {Q : VK} (h : tG K ct W (PD K) (mChain g g' ma mb mc) σ H Q) : tChain r r' (tG K ct W (PD K) ma) (tG K ct W (PD K) mb) (tG K ct W (PV K) mc) σ H Q :=
  tG.step h fun d δ1 x G1 H1 r1 p1 h1 => ⟨δ1, G1, r1, TW.step r1 h1 fun e δ2 y G2 H2 _ x2 r2 p2 h2 => by
    unfold M.bind at h2
    cases eg : g d e with
    | err n xs => simp only [eg, M.only] at h2; exact h2.elim
    | bad => simp only [eg, M.only] at h2; exact h2.elim
    | ok z =>
      simp only [eg, M.only] at h2
      refine hr δ2 σ G2 H2 x y d e z _ r2 (.inl (Rp.mono x2.same p1)) (.inl p2) eg fun v G' H' gr rp => ?_
      cases z <;> first
        | exact h2.elim
        | skip
      rename_i k
      have h3 := Post.at (gr.ext (δ := δ2) (σ := σ)) h2
      have r3 := gr.rel r2
      refine ⟨k, Rp.ofBl rp, ?_⟩
      cases k with
      | true =>
        rw [if_pos rfl]
        exact ⟨δ2, G', r3, TW.step r3 h3 fun w δ4 y' G4 H4 _ x4 r4 p4 h4 => by
          obtain ⟨z', ez, h5⟩ := Post.only h4
          exact hr' δ4 σ G4 H4 y y' e w z' Q r4 (.inl (Rp.mono (gr.same.trans x4.same) p2)) p4 ez fun v G' H' g rp => Post.done h5 r4 g rp⟩
      | false =>
        rw [if_neg Bool.false_ne_true]
        exact Post.done h3 r3 (Grow.refl r3) (.bl false)⟩
theorem ve_chain {op op' : CmpOp} (ho : OpR X (compareOp op) r) (hr : R2D X.K r g) (ho' : OpR X (compareOp op') r') (hr' : R2D X.K r' g') (ha : VE ct W X a ma) (hb : VE ct W X b mb) (hc : VV ct W X c mc)
    (hm : lastMarks [op, op'] [b, c] = false := by with_unfolding_all rfl) : VE ct W X (.Compare a [op, op'] [b, c] pos) (mChain g g' ma mb mc) := PE.conv (pe_chain ho ho' ha hb hc hm) fun _ _ _ h => chain_core hr hr' h
theorem vt_chain {op op' : CmpOp} (ho : OpR X (compareOp op) r) (hr : R2D X.K r g) (ho' : OpR X (compareOp op') r') (hr' : R2D X.K r' g') (ha : VE ct W X a ma) (hb : VE ct W X b mb) (hc : VV ct W X c mc)
    (hm : lastMarks [op, op'] [b, c] = false := by with_unfolding_all rfl) : VT ct W X (.Compare a [op, op'] [b, c] pos) (mTest (mChain g g' ma mb mc)) := PT.conv (pt_chain ho ho' ha hb hc hm) fun _ _ _ h => chain_core hr hr' (test_core h)
variable {tA tB : M Bool} {rest : List Expr}
def mAnd (a b : M Bool) : M Bool := M.bind a fun k => if k then b else M.pure false
def mOr (a b : M Bool) : M Bool := M.bind a fun k => if k then M.pure true else b
def mNot (a : M Bool) : M Bool := M.bind a fun k => M.pure (!k)
abbrev VW (ct : Nat → Addr) (W : WX) (X : Cx) (e : Expr) (m : M Bool) : Prop := PW X e (tG X.K ct W PB m)
theorem PW.conv {X : Cx} {e : Expr} {t t' : TT} (h : PW X e t) (i : ∀ σ H Q, t' σ H Q → t σ H Q) : PW X e t' := ⟨fun wh pins s σ H Q I q => h.run wh pins s σ H Q I (i σ H Q q)⟩
theorem and_core {K : PySem.W.Frag} {σ : L2.St} {H : Hp} {Q : Bool → Hp → Prop} (h : tG K ct W PB (mAnd tA tB) σ H Q) : tAnd (tG K ct W PB tA) (tG K ct W PB tB) σ H Q :=
  tG.step h fun k δ1 x G1 H1 r1 p1 h1 => by
    obtain rfl : x = k := p1
    cases x with
    | true => rw [if_pos rfl]; exact ⟨δ1, G1, r1, h1⟩
    | false => rw [if_neg Bool.false_ne_true]; exact h1 _ _ _ Ext.refl r1 rfl
theorem or_core {K : PySem.W.Frag} {σ : L2.St} {H : Hp} {Q : Bool → Hp → Prop} (h : tG K ct W PB (mOr tA tB) σ H Q) : tOr (tG K ct W PB tA) (tG K ct W PB tB) σ H Q :=
  tG.step h fun k δ1 x G1 H1 r1 p1 h1 => by
    obtain rfl : x = k := p1
    cases x with
    | true => rw [if_pos rfl]; exact h1 _ _ _ Ext.refl r1 rfl
    | false => rw [if_neg Bool.false_ne_true]; exact ⟨δ1, G1, r1, h1⟩
theorem vw_and1 (ha : VT ct W X a tA) : VW ct W X (.BoolOp .And [a] pos) tA := pw_and1 ha
theorem vw_or1 (ha : VT ct W X a tA) : VW ct W X (.BoolOp .Or [a] pos) tA := pw_or1 ha
theorem vw_and (ha : VT ct W X a tA) (hb : VW ct W X (.BoolOp .And (b :: rest) pos) tB) : VW ct W X (.BoolOp .And (a :: b :: rest) pos) (mAnd tA tB) := PW.conv (pw_and ha hb) fun _ _ _ h => and_core h
theorem vw_or (ha : VT ct W X a tA) (hb : VW ct W X (.BoolOp .Or (b :: rest) pos) tB) : VW ct W X (.BoolOp .Or (a :: b :: rest) pos) (mOr tA tB) := PW.conv (pw_or ha hb) fun _ _ _ h => or_core h
theorem vt_w (h : VW ct W X e tA) : VT ct W X e tA := h.pt
theorem vt_not (h : VT ct W X a tA) : VT ct W X (.UnaryOp .Not a pos) (mNot tA) := PT.conv (pt_not h) fun σ H Q h => tG.step h fun k δ1 x G1 H1 r1 p1 h1 => by
  obtain rfl : x = k := p1
  exact h1 _ _ _ Ext.refl r1 rfl
def mIf (t : M Bool) (a b : M D) : M D := M.bind t fun k => if k then a else b
theorem ve_if (hc : VT ct W X c tA) (ha : VE ct W X a ma) (hb : VE ct W X b mb) : VE ct W X (.IfExp c a b pos) (mIf tA ma mb) := PE.conv (pe_ifExp hc ha hb) fun σ H Q h => tG.step h fun k δ1 x G1 H1 r1 p1 h1 => by
  obtain rfl : x = k := p1
  cases x with
  | true => rw [if_pos rfl]; exact ⟨δ1, G1, r1, h1⟩
  | false => rw [if_neg Bool.false_ne_true]; exact ⟨δ1, G1, r1, h1⟩
end
end TW
set_option Elab.async false
set_option linter.all false
set_option maxRecDepth 100000
namespace TW
open PySem PySem.W PySem.Calls PyProof.Rows
section
variable {prog : Program} {w : World} {A : Around} {E : Value → Shared → Prop} {s : Shared}
theorem takes_all {t : Addr} {us : List Value} {Q : List Value → Shared → Prop} (ht : s.heap.IsTuple t us.toArray) (few : us.length ≤ sizeLine)
    (q : Q us { s with heap := (s.heap.push (seqObj "list" #[] 0)).update s.heap.objs.size (Obj.mapSeq (· ++ us.toArray)) }) : wpAny (model prog w) A (collect (.ref t)) Q E s := by
  obtain ⟨ob, get, cl, k, dat⟩ := id ht
  have get' : (s.heap.push (seqObj "list" #[] 0)).get? t = some ob := Heap.get?_push_of_some _ get
  have mine : (s.heap.push (seqObj "list" #[] 0)).get? s.heap.objs.size = some (seqObj "list" #[] 0) := Heap.get?_push_size _ rfl
  have tt : (Value.type "tuple" == Value.type "tuple") = true := rfl
  unfold collect
  refine wpAny_bind (wpAny_runValue (codeAny_builtin entry_proto_collect' ?_))
  refine wpAny_bind (wpAny_newList (wpAny_pure ⟨Code.quiet_builtin _ (by decide +kernel), codeAny_builtin entry_list_iadd' ?_⟩))
  show wpAny _ _ (Builtin.List.listExtendWith (.ref s.heap.objs.size) (.ref t) (.ref s.heap.objs.size)) _ _ _
  unfold Builtin.List.listExtendWith
  refine wpAny_bind (wpAny_typeOf (T := "tuple") ⟨ob, get', cl⟩ ?_)
  rw [if_pos (by rw [tt]; simp)]
  refine wpAny_bind (listItems_at get' dat (wpAny_bind (listItems_at mine rfl ?_)))
  rw [if_neg (by simp)]
  refine wpAny_bind (listUpdate_at mine rfl ?_ (Nat.zero_le _) (by simp only [Array.size_append, List.size_toArray, List.length_nil]; omega))
  refine wpAny_pure ?_
  refine wpAny_bind (wpAny_load (get?_update_seq mine _) ?_)
  show wpAny _ _ (pure ((#[] : Array Value) ++ us.toArray).toList) Q E _
  rw [show ((#[] : Array Value) ++ us.toArray).toList = us by simp]
  exact wpAny_pure q
theorem sorted_tup {κ : PyProof.Rows.KeyKind} {t : Addr} {us : List Value} {Q : Value → Shared → Prop} (ht : s.heap.IsTuple t us.toArray) (S : SortsAt prog w A.in1.in1 { s with heap := sortingHeap (copyHeap s.heap us) (s.heap.objs.size + 1) us } κ us) (few : us.length ≤ sizeLine)
    (q : Q (.ref (s.heap.objs.size + 1)) { s with heap := sortedAll s.heap us (sortVals κ false us us).toArray }) : wpAny (model prog w) A (call (.builtin "sorted") [.ref t]) Q E s := by
  refine call_function_entry_kw kind_sorted plain_sorted entry_sorted (args_sorted1 _) ?_
  unfold Builtin.«sorted»
  refine wpAny_bind (m := checkCount "sorted" 1 1 _) (wpAny_pure (wpAny_bind (takes_all ht few (wpAny_bind (wpAny_newList ?_ few)))))
  have size : ((s.heap.push (seqObj "list" #[] 0)).update s.heap.objs.size (Obj.mapSeq (· ++ us.toArray))).objs.size = s.heap.objs.size + 1 := by rw [Heap.size_update, size_push']
  show wpAny _ _ _ _ _ { s with heap := copyHeap s.heap us }
  rw [size]
  have go : ∀ E' : Value → Shared → Prop, wpAny (model prog w) A.in1.in1 (Builtin.«list.sort» ⟨[.ref (s.heap.objs.size + 1)], []⟩) (fun f s' => f = .done (.ret .none) ∧ Q (.ref (s.heap.objs.size + 1)) s') E' { s with heap := copyHeap s.heap us } :=
    fun E' => list_sort_vals (s := { s with heap := copyHeap s.heap us }) (copyHeap_at s.heap us) S few ⟨rfl, q⟩
  refine wpAny_bind (wpAny_holding (wpAny_call_entry_kw slot_list_sort ⟨_, copyHeap_at s.heap us, rfl⟩ entry_list_sort ?b (args_list_sort _)))
  case b => exact wpAny_mono (go _) (fun f s' ⟨e, hq⟩ => by subst e; exact ⟨_, rfl, wpAny_pure ⟨_, rfl, hq⟩⟩) fun _ _ e => e
variable {β : Type} {R : Value → β → Prop} {bs : List β} {enc : β → PyData}
theorem sorted_tupD {t : Addr} {us : List Value} {Q : Value → Shared → Prop} (ht : s.heap.IsTuple t us.toArray) (e : EachIs R us bs) (er : EachIs (fun v b => ∃ as, Reads s.heap v (enc b) as) us bs) (hal : AllAlike (bs.map enc)) (hk : Sortable (bs.map enc)) (few : bs.length ≤ sizeLine)
    (hu : ∀ b, b ∈ bs → A.units + 2 + (enc b).depth < cLine) (q : ∀ out, out.length = bs.length → EachIs R out (bs.mergeSort (dataLe false enc)) → Q (.ref (s.heap.objs.size + 1)) { s with heap := sortedAll s.heap us (List.toArray out) }) :
    wpAny (model prog w) A (call (.builtin "sorted") [.ref t]) Q E s := by
  have er2 : EachIs (fun v b => ∃ as, Reads (sortingHeap (copyHeap s.heap us) (s.heap.objs.size + 1) us) v (enc b) as) us bs := er.mono fun _ _ ⟨as, r⟩ => ⟨as, PyProof.Rows.Reads.keeps (fun _ _ => sorting_copy_old) r⟩
  have er3 := each_map (R := fun v d => ∃ as, Reads (sortingHeap (copyHeap s.heap us) (s.heap.objs.size + 1) us) v d as) enc er2
  refine sorted_tup ht (SortsAt.data (s := { s with heap := sortingHeap (copyHeap s.heap us) (s.heap.objs.size + 1) us }) er3 hal hk (bound_map hu)) (by rw [e.length]; exact few) (q _ ?_ (sortVals_data false e er2 hal))
  rw [sortVals_length false rfl]
  exact e.length
end
end TW
set_option Elab.async false
set_option linter.all false
set_option maxRecDepth 100000
namespace TW
open PySem PySem.Spec PyProof.Rows L2
section
variable {K : PySem.W.Frag} {ct : Nat → Addr} {W : WX} {δ : List C} {G H : Hp} {σ : L2.St} {Q : VK}
theorem fresh_not {p : Addr} (r : Rel K δ G σ H) (hp : H p = none) : ¬ OwA δ σ p := fun ⟨t, i, es, a1, a2⟩ => by
  obtain ⟨q, ws, b1, b2, _⟩ := r.own i t es a1
  rw [a2] at b1
  cases b1
  rw [hp] at b2
  cases b2
theorem fresh_notF {p : Addr} (r : Rel K δ G σ H) (hp : Fre H p) : ¬ OwA δ σ p := fun ⟨t, i, es, a1, a2⟩ => by
  obtain ⟨q, ws, b1, b2, _⟩ := r.own i t es a1
  rw [a2] at b1
  cases b1
  exact hp.not b2
theorem Post.fresh {ds : List D} {vs : List V} {p : Addr} (h : Post K ct W (PN K) (.ok (ds, δ)) δ G H σ Q) (r : Rel K δ G σ H) (hp : H p = none) (hl : ds.length ≤ sizeLine) (ha : RpAll K G vs ds) : Q (.ref p) (upd H p (.lst vs)) :=
  Post.done h r (Grow.alloc r.same r.nt hp) ⟨p, vs, rfl, fre_none hp, upd_same, Same.free r.same hp, fresh_not r hp, hl, ha⟩
end
def mAndV (a b : M D) : M D := M.bind a fun d => match d with
  | .bool true => b
  | .bool false => M.pure (.bool false)
  | _ => fun _ => .bad
def mOrV (a b : M D) : M D := M.bind a fun d => match d with
  | .bool true => M.pure (.bool true)
  | .bool false => b
  | _ => fun _ => .bad
def mNotV (a : M D) : M D := M.bind a fun d => match d with
  | .bool b => M.pure (.bool (!b))
  | _ => fun _ => .bad
section
variable {ct : Nat → Addr} {W : WX} {X : Cx} {e a b : Expr} {rest : List Expr} {m ma mb : M D} {pos : Pos}
theorem ve_one {op} (h : VE ct W X a m) : VE ct W X (.BoolOp op [a] pos) m := pe_one h
theorem ve_and (ha : VE ct W X a ma) (hb : VE ct W X (.BoolOp .And (b :: rest) pos) mb) : VE ct W X (.BoolOp .And (a :: b :: rest) pos) (mAndV ma mb) := PE.conv (pe_and ha hb) fun σ H Q h => tG.step h fun d δ1 x G1 H1 r1 p1 h1 => by
  cases d <;> first
    | exact h1.elim
    | skip
  rename_i k
  refine ⟨k, Rp.ofBl p1, ?_⟩
  cases k with
  | true => rw [if_pos rfl]; exact ⟨δ1, G1, r1, h1⟩
  | false => rw [if_neg Bool.false_ne_true]; exact h1 _ _ _ Ext.refl r1 (.bl _)
theorem ve_or (ha : VE ct W X a ma) (hb : VE ct W X (.BoolOp .Or (b :: rest) pos) mb) : VE ct W X (.BoolOp .Or (a :: b :: rest) pos) (mOrV ma mb) := PE.conv (pe_or ha hb) fun σ H Q h => tG.step h fun d δ1 x G1 H1 r1 p1 h1 => by
  cases d <;> first
    | exact h1.elim
    | skip
  rename_i k
  refine ⟨k, Rp.ofBl p1, ?_⟩
  cases k with
  | true => rw [if_pos rfl]; exact h1 _ _ _ Ext.refl r1 (.bl _)
  | false => rw [if_neg Bool.false_ne_true]; exact ⟨δ1, G1, r1, h1⟩
theorem ve_not (ha : VE ct W X a ma) : VE ct W X (.UnaryOp .Not a pos) (mNotV ma) := PE.conv (pe_not ha) fun σ H Q h => tG.step h fun d δ1 x G1 H1 r1 p1 h1 => by
  cases d <;> first
    | exact h1.elim
    | exact ⟨_, Rp.ofBl p1, h1 _ _ _ Ext.refl r1 (.bl _)⟩
end
def R1D (K : PySem.W.Frag) (r : List V → Hp → VK → Prop) (g : D → R D) : Prop := ∀ (δ : List C) (σ : L2.St) (G H : Hp) (x : V) (d z : D) (Q : VK), Rel K δ G σ H → RpV K δ σ G H x d → g d = .ok z →
  (∀ v G' H', Grow G H G' H' → Rp K G' v z → Q v H') → r [x] H Q
def R1N (K : PySem.W.Frag) (r : List V → Hp → VK → Prop) (g : D → R (List D)) : Prop := ∀ (δ : List C) (σ : L2.St) (G H : Hp) (x : V) (d : D) (z : List D) (Q : VK), Rel K δ G σ H → RpV K δ σ G H x d → g d = .ok z →
  (∀ p vs, H p = none → z.length ≤ sizeLine → RpAll K G vs z → Q (.ref p) (upd H p (.lst vs))) → r [x] H Q
def mOp1N (g : D → R (List D)) (ma : M D) : M (List D) := M.bind ma fun d => M.only (g d)
section
variable {ct : Nat → Addr} {W : WX} {X : Cx} {e a b : Expr} {m ma mb : M D} {p pos : Pos} {x : Str} {id T : String} {r : List V → Hp → VK → Prop} {g : D → R D} {gN : D → R (List D)}
theorem call1_core {K : PySem.W.Frag} (hr : R1D K r g) {σ : L2.St} {H : Hp} {Q : VK} (h : tG K ct W (PD K) (mOp1 g ma) σ H Q) : tCB r (tCons (tG K ct W (PV K) ma) tNil) σ H Q :=
  tG.step h fun d δ1 x G1 H1 r1 p1 h1 => by
    obtain ⟨z, ez, h3⟩ := Post.only h1
    exact hr δ1 σ G1 H1 x d z Q r1 p1 ez fun v G' H' g rp => Post.done h3 r1 g rp
theorem call1N_core {K : PySem.W.Frag} (hr : R1N K r gN) {σ : L2.St} {H : Hp} {Q : VK} (h : tG K ct W (PN K) (mOp1N gN ma) σ H Q) : tCB r (tCons (tG K ct W (PV K) ma) tNil) σ H Q :=
  tG.step h fun d δ1 x G1 H1 r1 p1 h1 => by
    obtain ⟨z, ez, h3⟩ := Post.only h1
    exact hr δ1 σ G1 H1 x d z Q r1 p1 ez fun p vs hp hl ha => Post.fresh h3 r1 hp hl ha
theorem ve_callB (hc : CallR X (.builtin id) r) (hr : R1D X.K r g) (hg : Gl X x) (hm : X.mg x = none) (hv : bootBuiltins x = some (.builtin id)) (ha : VV ct W X a ma)
    (hs : starEach [a] X.env = (false, eval a X.env) :: starEach [] X.env := by rfl) (hn : x ≠ "__name__" := by decide) (hdb : (x == ("__debug__" : Str)) = false := by decide) : VE ct W X (.Call (.Name x p) [a] [] pos) (mOp1 g ma) :=
  PE.conv (pe_callB hc hg hm hv (pa_cons ha pa_nil hs) hn hdb hs) fun _ _ _ h => call1_core hr h
theorem ve_callTy (hc : CallR X (.type T) r) (hr : R1D X.K r g) (hg : Gl X x) (hm : X.mg x = none) (hv : bootBuiltins x = some (.type T)) (ha : VV ct W X a ma)
    (hs : starEach [a] X.env = (false, eval a X.env) :: starEach [] X.env := by rfl) (hn : x ≠ "__name__" := by decide) (hdb : (x == ("__debug__" : Str)) = false := by decide) : VE ct W X (.Call (.Name x p) [a] [] pos) (mOp1 g ma) :=
  PE.conv (pe_callTy hc hg hm hv (pa_cons ha pa_nil hs) hn hdb hs) fun _ _ _ h => call1_core hr h
theorem vn_callB (hc : CallR X (.builtin id) r) (hr : R1N X.K r gN) (hg : Gl X x) (hm : X.mg x = none) (hv : bootBuiltins x = some (.builtin id)) (ha : VV ct W X a ma)
    (hs : starEach [a] X.env = (false, eval a X.env) :: starEach [] X.env := by rfl) (hn : x ≠ "__name__" := by decide) (hdb : (x == ("__debug__" : Str)) = false := by decide) : VN ct W X (.Call (.Name x p) [a] [] pos) (mOp1N gN ma) :=
  PE.conv (pe_callB hc hg hm hv (pa_cons ha pa_nil hs) hn hdb hs) fun _ _ _ h => call1N_core hr h
theorem vn_callTy (hc : CallR X (.type T) r) (hr : R1N X.K r gN) (hg : Gl X x) (hm : X.mg x = none) (hv : bootBuiltins x = some (.type T)) (ha : VV ct W X a ma)
    (hs : starEach [a] X.env = (false, eval a X.env) :: starEach [] X.env := by rfl) (hn : x ≠ "__name__" := by decide) (hdb : (x == ("__debug__" : Str)) = false := by decide) : VN ct W X (.Call (.Name x p) [a] [] pos) (mOp1N gN ma) :=
  PE.conv (pe_callTy hc hg hm hv (pa_cons ha pa_nil hs) hn hdb hs) fun _ _ _ h => call1N_core hr h
end
def gLen : D → R D
  | .list ds => .ok (.int ds.length)
  | .tuple ds => .ok (.int ds.length)
  | .dict [(.none, .list ds)] => .ok (.int ds.length)
  | .str x => if szOk x.length then .ok (.int x.length) else .bad
  | _ => .bad
def boolsD : List D → Option (List Bool)
  | [] => some []
  | .bool b :: ds => (boolsD ds).map (b :: ·)
  | _ :: _ => none
def intsD : List D → Option (List Int)
  | [] => some []
  | .int i :: ds => (intsD ds).map (i :: ·)
  | _ :: _ => none
def gAll : D → R D
  | .list ds => match boolsD ds with | some bs => .ok (.bool (bs.all id)) | none => .bad
  | _ => .bad
def gAny : D → R D
  | .list ds => match boolsD ds with | some bs => .ok (.bool (bs.any id)) | none => .bad
  | _ => .bad
def gSum : D → R D
  | .list ds => match intsD ds with | some is => .ok (.int is.sum) | none => .bad
  | _ => .bad
def gTuple : D → R D
  | .list ds => .ok (.tuple ds)
  | .tuple ds => .ok (.tuple ds)
  | _ => .bad
def gList : D → R (List D)
  | .list ds => .ok ds
  | .tuple ds => .ok ds
  | _ => .bad
section
variable {K : PySem.W.Frag} {X : Cx}
theorem r1_len : R1D K (fun xs H Q => ∃ x n, xs = [x] ∧ LenV K x H n ∧ Q (.int n) H) gLen := fun δ σ G H x d z Q r hx hz q => by
  unfold gLen at hz
  split at hz
  · cases hz
    obtain ⟨a, xs, e1, h1, h2, h3⟩ := hx.lst r.same
    subst e1
    exact ⟨_, _, rfl, .inl ⟨xs, h1, (RpAll.length h3).symm⟩, q _ G H (Grow.refl r) (.int _)⟩
  · cases hz
    obtain ⟨a, xs, e1, h1, h2, h3⟩ := hx.tup r.same
    subst e1
    exact ⟨_, _, rfl, .inr ⟨xs, h1, (RpAll.length h3).symm⟩, q _ G H (Grow.refl r) (.int _)⟩
  · cases hz
    obtain ⟨a, xs, e1, h1, h2, h3⟩ := hx.scr r.same
    subst e1
    exact ⟨_, _, rfl, .inl ⟨xs, h1, (RpAll.length h3).symm⟩, q _ G H (Grow.refl r) (.int _)⟩
  · split at hz
    · rename_i hk
      cases hz
      have := hx.str
      subst this
      exact ⟨_, _, rfl, ⟨szOk_le hk, rfl⟩, q _ G H (Grow.refl r) (.int _)⟩
    · cases hz
  · cases hz
theorem boolsRp {G : Hp} : ∀ {vs : List V} {ds : List D} {bs : List Bool}, RpAll K G vs ds → boolsD ds = some bs → vs = bs.map V.bl
  | _, _, _, .nil, e => by cases e; rfl
  | _, d :: ds, bs, .cons h t, e => by
    cases d <;> first
      | (simp [boolsD] at e; done)
      | skip
    rename_i b
    simp only [boolsD] at e
    cases e2 : boolsD ds with
    | none => rw [e2] at e; cases e
    | some cs =>
      rw [e2] at e
      cases e
      rw [h.ofBl, boolsRp t e2]
      rfl
theorem intsRp {G : Hp} : ∀ {vs : List V} {ds : List D} {bs : List Int}, RpAll K G vs ds → intsD ds = some bs → vs = bs.map V.int
  | _, _, _, .nil, e => by cases e; rfl
  | _, d :: ds, bs, .cons h t, e => by
    cases d <;> first
      | (simp [intsD] at e; done)
      | skip
    rename_i b
    simp only [intsD] at e
    cases e2 : intsD ds with
    | none => rw [e2] at e; cases e
    | some cs =>
      rw [e2] at e
      cases e
      rw [h.ofInt, intsRp t e2]
      rfl
theorem r1_all : R1D K (rAll K) gAll := fun δ σ G H x d z Q r hx hz q => by
  unfold gAll at hz
  split at hz
  · split at hz
    · rename_i e
      cases hz
      obtain ⟨a, xs, e1, h1, h2, h3⟩ := hx.lst r.same
      have := boolsRp h3 e
      subst this
      subst e1
      exact ⟨a, _, rfl, h1, q _ G H (Grow.refl r) (.bl _)⟩
    · cases hz
  · cases hz
theorem r1_any : R1D K (rAny K) gAny := fun δ σ G H x d z Q r hx hz q => by
  unfold gAny at hz
  split at hz
  · split at hz
    · rename_i e
      cases hz
      obtain ⟨a, xs, e1, h1, h2, h3⟩ := hx.lst r.same
      have := boolsRp h3 e
      subst this
      subst e1
      exact ⟨a, _, rfl, h1, q _ G H (Grow.refl r) (.bl _)⟩
    · cases hz
  · cases hz
theorem r1_sum : R1D K (rSum K) gSum := fun δ σ G H x d z Q r hx hz q => by
  unfold gSum at hz
  split at hz
  · split at hz
    · rename_i e
      cases hz
      obtain ⟨a, xs, e1, h1, h2, h3⟩ := hx.lst r.same
      have := intsRp h3 e
      subst this
      subst e1
      exact ⟨a, _, rfl, h1, q _ G H (Grow.refl r) (.int _)⟩
    · cases hz
  · cases hz
theorem r1_tuple : R1D K (rTupOf K) gTuple := fun δ σ G H x d z Q r hx hz q => by
  unfold gTuple at hz
  split at hz
  · cases hz
    obtain ⟨a, xs, e1, h1, h2, h3⟩ := hx.lst r.same
    subst e1
    exact ⟨a, xs, rfl, .inl ⟨h1, fun l ob hl hd => q _ _ _ (Grow.laid r.same r.nt hl nt_frz) (.tup ⟨ob, upd_same, hd⟩ h2 (RpAll.mono (same_upd (Same.free r.same hl)) h3))⟩⟩
  · cases hz
    obtain ⟨a, xs, e1, h1, h2, h3⟩ := hx.tup r.same
    subst e1
    refine ⟨a, xs, rfl, .inr ⟨h1, q _ G H (Grow.refl r) ?_⟩⟩
    rcases hx with hx | ⟨_, _, _, _, h2, _⟩
    · exact hx
    · cases h2
  · cases hz
theorem r1_list : R1N K (fun xs H Q => ∃ p ys, xs = [.ref p] ∧ (SqL K H p ys ∨ SqT K H p ys) ∧ ∀ l, H l = none → Q (.ref l) (upd H l (.lst ys))) gList := fun δ σ G H x d z Q r hx hz q => by
  unfold gList at hz
  split at hz
  · cases hz
    obtain ⟨a, xs, e1, h1, h2, h3⟩ := hx.lst r.same
    subst e1
    exact ⟨a, xs, rfl, .inl h1, fun l hl => q l xs hl h2 h3⟩
  · cases hz
    obtain ⟨a, xs, e1, h1, h2, h3⟩ := hx.tup r.same
    subst e1
    exact ⟨a, xs, rfl, .inr h1, fun l hl => q l xs hl h2 h3⟩
  · cases hz
end
def allAlike (ds : List D) : Bool := ds.all fun d => ds.all fun e => PySem.W.alike d e
def sortKind (ds : List D) : Bool := (ds.all fun d => match d with | .tuple (_ :: _) => true | _ => false) || ds.all fun d => match d with | .none => false | .tuple _ => false | _ => true
def shallow (ds : List D) : Bool := ds.all fun d => decide (d.depth ≤ 32) && SeqAt.shaped d
def sortD (ds : List D) : List D := ds.mergeSort (PySem.W.dataLe false id)
def gSorted : D → R (List D)
  | .list ds => if allAlike ds && (sortKind ds && shallow ds) then .ok (sortD ds) else .bad
  | .tuple ds => if allAlike ds && (sortKind ds && shallow ds) then .ok (sortD ds) else .bad
  | _ => .bad
theorem allAlike_of {ds : List D} (h : allAlike ds = true) : PySem.W.AllAlike ds := fun d hd e he => by
  have h1 := List.all_eq_true.mp h d hd
  exact List.all_eq_true.mp h1 e he
theorem sortKind_of {ds : List D} (h : sortKind ds = true) : PySem.W.Sortable ds := by
  unfold sortKind at h
  rw [Bool.or_eq_true] at h
  rcases h with h | h
  · refine .inl fun d hd => ?_
    have h1 := List.all_eq_true.mp h d hd
    split at h1
    · exact ⟨_, _, rfl⟩
    · cases h1
  · refine .inr fun d hd => ?_
    have h1 := List.all_eq_true.mp h d hd
    split at h1
    · cases h1
    · cases h1
    · rename_i a b
      exact ⟨fun e => a e, fun xs e => b xs e⟩
section
variable {X : Cx}
def rSortedA (K : PySem.W.Frag) : List V → Hp → VK → Prop := fun vs H Q => ∃ (a : Addr) (xs : List V) (ds : List D) (P : V → D → Prop), vs = [.ref a] ∧ (SqL K H a xs ∨ SqT K H a xs) ∧ PySem.W.EachIs P xs ds ∧ (∀ x d, P x d → Dp K H x d) ∧
  PySem.W.AllAlike ds ∧ PySem.W.Sortable ds ∧ (∀ d ∈ ds, d.depth ≤ 32) ∧ ds.length ≤ sizeLine ∧ ∀ p ys, H p = none → PySem.W.EachIs P ys (sortD ds) → Q (.ref p) (upd H p (.lst ys))
theorem each_vals {P : V → D → Prop} : ∀ {xs : List V} {us : List Value} {ds : List D}, PySem.W.EachIs P xs ds → Vals xs us → PySem.W.EachIs (fun u d => ∃ x, RelV x u ∧ P x d) us ds
  | _, _, _, .nil, .nil => .nil
  | _, _, _, .cons h t, .cons r s => .cons ⟨_, r, h⟩ (each_vals t s)
theorem vals_each {P : V → D → Prop} : ∀ {us : List Value} {ds : List D}, PySem.W.EachIs (fun u d => ∃ x, RelV x u ∧ P x d) us ds → ∃ ys, Vals ys us ∧ PySem.W.EachIs P ys ds
  | _, _, .nil => ⟨[], .nil, .nil⟩
  | _, _, .cons ⟨x, r, h⟩ t => by
    obtain ⟨ys, a, b⟩ := vals_each t
    exact ⟨x :: ys, .cons r a, .cons h b⟩
theorem call_sortedA (hu : X.A.units + 64 < cLine) : CallR X (.builtin "sorted") (rSortedA X.K) := by
  intro pins s σ H vs us Q I r h
  obtain ⟨a, xs, ds, P, rfl, hs, he, hd, hal, hk, hdep, hL, q⟩ := h
  rw [Vals.ref1 r]
  rcases hs with hs | hs
  · obtain ⟨its, rv, hl, hz⟩ := I.list hs
    have ev := each_vals he rv
    have hlen : its.length = ds.length := ev.length
    refine PySem.W.sorted_data (enc := id) (bs := ds) (R := fun u d => ∃ x, RelV x u ∧ P x d) hl.isList ev (ev.mono fun u d ⟨x, rx, p⟩ => Dp.reads I d x u (hd x d p) rx) (by rw [List.map_id]; exact hal) (by rw [List.map_id]; exact hk) hL
      (fun d hm => by have := hdep d hm; show X.A.units + 2 + d.depth < cLine; omega) fun out ho eo => ?_
    obtain ⟨ys, vy, ey⟩ := vals_each eo
    obtain ⟨ep, he'⟩ := PyProof.Rows.sortedAll_at s.heap its out.toArray
    exact ⟨.ref _, upd H (s.heap.objs.size + 1) (.lst ys), I.laid (t' := s.toks) (fun _ _ => PyProof.Rows.sortedAll_old) (Nat.le_succ _) ⟨by rw [vy.length, ho]; exact hL, out, ep, vy, he'⟩, rfl, q _ ys (I.hok.fresh (Nat.le_succ _)) ey⟩
  · obtain ⟨its, rv, hl, hz⟩ := I.tuple hs
    have ev := each_vals he rv
    have hlen : its.length = ds.length := ev.length
    refine sorted_tupD (enc := id) (bs := ds) (R := fun u d => ∃ x, RelV x u ∧ P x d) (show s.heap.IsTuple a its.toArray from hl) ev (ev.mono fun u d ⟨x, rx, p⟩ => Dp.reads I d x u (hd x d p) rx) (by rw [List.map_id]; exact hal) (by rw [List.map_id]; exact hk) hL
      (fun d hm => by have := hdep d hm; show X.A.units + 2 + d.depth < cLine; omega) fun out ho eo => ?_
    obtain ⟨ys, vy, ey⟩ := vals_each eo
    obtain ⟨ep, he'⟩ := PyProof.Rows.sortedAll_at s.heap its out.toArray
    exact ⟨.ref _, upd H (s.heap.objs.size + 1) (.lst ys), I.laid (t' := s.toks) (fun _ _ => PyProof.Rows.sortedAll_old) (Nat.le_succ _) ⟨by rw [vy.length, ho]; exact hL, out, ep, vy, he'⟩, rfl, q _ ys (I.hok.fresh (Nat.le_succ _)) ey⟩
theorem each_rp {K : PySem.W.Frag} {G : Hp} : ∀ {vs : List V} {ds : List D}, RpAll K G vs ds → PySem.W.EachIs (Rp K G) vs ds
  | _, _, .nil => .nil
  | _, _, .cons h t => .cons h (each_rp t)
theorem rp_each {K : PySem.W.Frag} {G : Hp} : ∀ {vs : List V} {ds : List D}, PySem.W.EachIs (Rp K G) vs ds → RpAll K G vs ds
  | _, _, .nil => .nil
  | _, _, .cons h t => .cons h (rp_each t)
theorem each_with {P : V → D → Prop} {S : D → Prop} : ∀ {vs : List V} {ds : List D}, PySem.W.EachIs P vs ds → (∀ d ∈ ds, S d) → PySem.W.EachIs (fun v d => P v d ∧ S d) vs ds
  | _, _, .nil, _ => .nil
  | _, _, .cons h t, g => .cons ⟨h, g _ List.mem_cons_self⟩ (each_with t fun d hd => g d (List.mem_cons_of_mem _ hd))
theorem r1_sorted {K : PySem.W.Frag} : R1N K (rSortedA K) gSorted := fun δ σ G H x d z Q r hx hz q => by
  have go : ∀ (a : Addr) (xs : List V) (ds : List D), x = .ref a → (SqL K H a xs ∨ SqT K H a xs) → ds.length ≤ sizeLine → RpAll K G xs ds → (if allAlike ds && (sortKind ds && shallow ds) then R.ok (sortD ds) else .bad) = .ok z → rSortedA K [x] H Q := by
    intro a xs ds e1 h1 h2 h3 hz
    split at hz
    · rename_i hk
      rw [Bool.and_eq_true, Bool.and_eq_true] at hk
      obtain ⟨k1, k2, k3⟩ := hk
      cases hz
      subst e1
      have sh : ∀ d ∈ ds, d.depth ≤ 32 ∧ SeqAt.shaped d = true := fun d hd => by
        have := List.all_eq_true.mp k3 d hd
        rw [Bool.and_eq_true] at this
        exact ⟨of_decide_eq_true this.1, this.2⟩
      refine ⟨a, xs, ds, fun v d => Rp K G v d ∧ SeqAt.shaped d = true, rfl, h1, each_with (each_rp h3) (fun d hd => (sh d hd).2), fun x d p => (p.1.mono r.same).dp (shaped_noDict p.2), allAlike_of k1, sortKind_of k2, fun d hd => (sh d hd).1, h2, fun p ys hp e => ?_⟩
      exact q p ys hp (by unfold sortD; rw [List.length_mergeSort]; exact h2) (rp_each (e.mono fun _ _ p => p.1))
    · cases hz
  unfold gSorted at hz
  split at hz
  · obtain ⟨a, xs, e1, h1, h2, h3⟩ := hx.lst r.same
    exact go a xs _ e1 (.inl h1) h2 h3 hz
  · obtain ⟨a, xs, e1, h1, h2, h3⟩ := hx.tup r.same
    exact go a xs _ e1 (.inr h1) h2 h3 hz
  · cases hz
def rLtD (K : PySem.W.Frag) (f : D → D → Bool) : R2 := fun x y H Q => ∃ d e, Dp K H x d ∧ Dp K H y e ∧ PySem.W.alike d e = true ∧ d ≠ .none ∧ d.depth ≤ 60 ∧ Q (.bl (f d e)) H
theorem min_dep {A : Around} {d e : D} (hu : A.units + 64 < cLine) (h : d.depth ≤ 60) : A.units + min d.depth e.depth < cLine := by
  have := Nat.min_le_left d.depth e.depth
  omega
theorem op_ltD (hu : X.A.units + 64 < cLine) : OpR X (compareOp .Lt) (rLtD X.K PySem.W.dataLt) := by
  intro pins s σ H x y v u Q I rx ry h
  obtain ⟨d, e, hd, he, ha, hn, hp, q⟩ := h
  obtain ⟨as, r1⟩ := Dp.reads I d x v hd rx
  obtain ⟨bs, r2⟩ := Dp.reads I e y u he ry
  exact PySem.W.lt_data r1 r2 ha hn (min_dep hu hp) ⟨.bl _, H, I, rfl, q⟩
theorem op_gtD (hu : X.A.units + 64 < cLine) : OpR X (compareOp .Gt) (rLtD X.K fun d e => PySem.W.dataLt e d) := by
  intro pins s σ H x y v u Q I rx ry h
  obtain ⟨d, e, hd, he, ha, hn, hp, q⟩ := h
  obtain ⟨as, r1⟩ := Dp.reads I d x v hd rx
  obtain ⟨bs, r2⟩ := Dp.reads I e y u he ry
  exact PySem.W.gt_data r1 r2 ha hn (min_dep hu hp) ⟨.bl _, H, I, rfl, q⟩
theorem op_leD (hu : X.A.units + 64 < cLine) : OpR X (compareOp .LtE) (rLtD X.K fun d e => !PySem.W.dataLt e d) := by
  intro pins s σ H x y v u Q I rx ry h
  obtain ⟨d, e, hd, he, ha, hn, hp, q⟩ := h
  obtain ⟨as, r1⟩ := Dp.reads I d x v hd rx
  obtain ⟨bs, r2⟩ := Dp.reads I e y u he ry
  exact PySem.W.le_data r1 r2 ha hn (min_dep hu hp) ⟨.bl _, H, I, rfl, q⟩
def gOrd (f : D → D → Bool) : D → D → R D := fun d e => if (SeqAt.shaped d && SeqAt.shaped e) && (PySem.W.alike d e && (!isNon d && decide (d.depth ≤ 60))) then .ok (.bool (f d e)) else .bad
theorem r2_ord {K : PySem.W.Frag} {f : D → D → Bool} : R2D K (rLtD K f) (gOrd f) := fun δ σ G H x y d e z Q r hx hy hz q => by
  unfold gOrd at hz
  split at hz
  · rename_i hk
    simp only [Bool.and_eq_true, Bool.not_eq_true', decide_eq_true_eq] at hk
    cases hz
    refine ⟨d, e, hx.dp r.same (shaped_noDict hk.1.1), hy.dp r.same (shaped_noDict hk.1.2), hk.2.1, fun e => ?_, hk.2.2.2, q _ G H (Grow.refl r) (.bl _)⟩
    subst e
    cases hk.2.2.1
  · cases hz
end
end TW
set_option Elab.async false
set_option linter.all false
set_option maxRecDepth 100000
namespace TW
open PySem PySem.Spec PyProof.Rows L2
def tyN : D → String
  | .none => "NoneType"
  | .bool _ => "bool"
  | .int _ => "int"
  | .str _ => "str"
  | .list _ => "list"
  | .tuple _ => "tuple"
  | .dict _ => "dict"
def isiD (T : String) (d : D) : Bool := tyN d == T || (tyN d == "bool" && T == "int")
def plainD : D → Bool
  | .dict (_ :: _) => false
  | _ => true
def gIsi (T : String) : D → R D := fun d => if plainD d then .ok (.bool (isiD T d)) else .bad
def tyNs : List String := ["NoneType", "bool", "int", "str", "list", "tuple", "dict"]
theorem tyN_mem (d : D) : tyN d ∈ tyNs := by cases d <;> simp [tyN, tyNs]
def TyOk (T : String) : Prop := ∀ n ∈ tyNs, kitB n T = some (n == T || (n == "bool" && T == "int"))
theorem TyOk.at {T : String} (h : TyOk T) (d : D) : kitB (tyN d) T = some (isiD T d) := h _ (tyN_mem d)
theorem ty_int : TyOk "int" := by unfold TyOk; decide +kernel
theorem ty_bool : TyOk "bool" := by unfold TyOk; decide +kernel
theorem ty_tuple : TyOk "tuple" := by unfold TyOk; decide +kernel
theorem ty_str : TyOk "str" := by unfold TyOk; decide +kernel
section
variable {K : PySem.W.Frag} {ct : Nat → Addr} {W : WX} {X : Cx} {a : Expr} {ma mb : M D} {δ : List C} {σ : L2.St} {G H : Hp} {p q pos : Pos} {T U : String}
theorem sqt_ty {a : Addr} {xs : List V} (h : SqT K H a xs) : TyX K H (.ref a) (.type "tuple") := by
  rcases h with (h | ⟨o, h⟩) | ⟨o, its, n, h1, h2, _⟩
  · exact .base (.tup h)
  · exact .fTuple h
  · exact .kTuple h1 h2
theorem RpV.ty {v : V} {d : D} (s : Same G H) (n : plainD d = true) (h : RpV K δ σ G H v d) : TyX K H v (.type (tyN d)) := by
  rcases h with h | ⟨p, vs, ds', h1, h2, h3, h4, h5, _⟩
  · cases h with
    | non => exact .base .non
    | bl b => exact .base (.bl b)
    | int i => exact .base (.int i)
    | str x => exact .base (.str x)
    | lst h _ _ => exact .base (.lst (s _ _ h))
    | scr h _ _ => simp [plainD] at n
    | tup h _ _ => exact sqt_ty (Same.sqt s h.sqt)
    | zp _ _ => simp [plainD] at n
    | dct h => exact .base (.dK (s _ _ h))
    | ex0 => simp [plainD] at n
    | exF _ => simp [plainD] at n
    | lam _ => simp [plainD] at n
    | dik _ _ _ _ _ _ _ => simp [plainD] at n
    | ikd _ _ _ _ => simp [plainD] at n
    | dsk _ _ _ _ _ => simp [plainD] at n
  · subst h1; subst h2
    exact .base (.lst h3)
theorem ve_isi (ht : TyOk T) (hg : Gl X "isinstance") (hm : X.mg "isinstance" = none) (hT : PE X a (tG X.K ct W (PV X.K) ma)) {b : Expr} (hb : PE X b (tC (.ty T)))
    (hs : starEach [a, b] X.env = (false, eval a X.env) :: starEach [b] X.env := by rfl) (hs2 : starEach [b] X.env = (false, eval b X.env) :: starEach [] X.env := by rfl) (hpl : (backTo pos (starEach [b] X.env)).any (·.1) = false := by rfl) :
    VE ct W X (.Call (.Name "isinstance" p) [a, b] [] pos) (mOp1 (gIsi T) ma) :=
  PE.conv (pe_callB call_isi hg hm PyProof.Rows.boot_isinstance (pa_cons hT (pa_cons hb pa_nil hs2) hs) (by decide) (by decide) hs hpl) fun σ H Q h => tG.step h fun d δ1 x G1 H1 r1 p1 h1 => by
    obtain ⟨z, ez, h3⟩ := Post.only h1
    unfold gIsi at ez
    split at ez
    case isFalse => cases ez
    rename_i hpl
    cases ez
    exact ⟨x, .ty T, _, _, _, rfl, .ty T, p1.ty r1.same hpl, kit_ty (ht.at d), Post.done h3 r1 (Grow.refl r1) (.bl _)⟩
end
def gMax2 : D → D → R D
  | .int i, .int j => .ok (.int (if j > i then j else i))
  | _, _ => .bad
def gMin2 : D → D → R D
  | .int i, .int j => .ok (.int (if j < i then j else i))
  | _, _ => .bad
section
variable {K : PySem.W.Frag} {ct : Nat → Addr} {W : WX} {X : Cx} {a b : Expr} {ma mb : M D} {p q pos : Pos}
theorem ve_max2 (hc : X.calm = true) (hg : Gl X "max") (hm : X.mg "max" = none) (ha : VE ct W X a ma) (hb : VV ct W X b mb)
    (hs : starEach [a, b] X.env = (false, eval a X.env) :: starEach [b] X.env := by rfl) (hs2 : starEach [b] X.env = (false, eval b X.env) :: starEach [] X.env := by rfl) (hpl : (backTo pos (starEach [b] X.env)).any (·.1) = false := by rfl) :
    VE ct W X (.Call (.Name "max" p) [a, b] [] pos) (mOp2 gMax2 ma mb) :=
  PE.conv (pe_callB (call_max2 hc) hg hm PyProof.Rows.boot_max (pa_cons ha (pa_cons hb pa_nil hs2) hs) (by decide) (by decide) hs hpl) fun σ H Q h => tG.step h fun d δ1 x G1 H1 r1 p1 h1 => ⟨δ1, G1, r1, TW.step r1 h1 fun e δ2 y G2 H2 _ x2 r2 p2 h2 => by
    obtain ⟨z, ez, h3⟩ := Post.only h2
    unfold gMax2 at ez
    split at ez
    · cases ez
      have e1 := Rp.ofInt p1
      have e2 := RpV.int p2
      subst e1; subst e2
      exact ⟨_, _, rfl, Post.done h3 r2 (Grow.refl r2) (.int _)⟩
    · cases ez⟩
theorem ve_min2 (hc : X.calm = true) (hg : Gl X "min") (hm : X.mg "min" = none) (ha : VE ct W X a ma) (hb : VV ct W X b mb)
    (hs : starEach [a, b] X.env = (false, eval a X.env) :: starEach [b] X.env := by rfl) (hs2 : starEach [b] X.env = (false, eval b X.env) :: starEach [] X.env := by rfl) (hpl : (backTo pos (starEach [b] X.env)).any (·.1) = false := by rfl) :
    VE ct W X (.Call (.Name "min" p) [a, b] [] pos) (mOp2 gMin2 ma mb) :=
  PE.conv (pe_callB (call_min2 hc) hg hm PyProof.Rows.boot_min (pa_cons ha (pa_cons hb pa_nil hs2) hs) (by decide) (by decide) hs hpl) fun σ H Q h => tG.step h fun d δ1 x G1 H1 r1 p1 h1 => ⟨δ1, G1, r1, TW.step r1 h1 fun e δ2 y G2 H2 _ x2 r2 p2 h2 => by
    obtain ⟨z, ez, h3⟩ := Post.only h2
    unfold gMin2 at ez
    split at ez
    · cases ez
      have e1 := Rp.ofInt p1
      have e2 := RpV.int p2
      subst e1; subst e2
      exact ⟨_, _, rfl, Post.done h3 r2 (Grow.refl r2) (.int _)⟩
    · cases ez⟩
end
abbrev MO := M (Option Int)
def PO' : Hp → Hp → Hp → List C → L2.St → Option Int → Option Int → Prop := fun _ _ _ _ _ v d => v = d
instance : Anti PO' := ⟨fun _ h => h⟩
abbrev VO (ct : Nat → Addr) (W : WX) (X : Cx) (e : Option Expr) (m : MO) : Prop := PO X e (tG X.K ct W PO' m)
theorem PO.conv {X : Cx} {e : Option Expr} {t t' : TO} (h : PO X e t) (i : ∀ σ H Q, t' σ H Q → t σ H Q) : PO X e t' := ⟨fun pins s σ H Q I q => h.run pins s σ H Q I (i σ H Q q)⟩
def mPart (m : M D) : MO := M.bind m fun d => match d with
  | .int i => M.pure (some i)
  | _ => fun _ => .bad
def mNoPart : MO := M.pure none
section
variable {ct : Nat → Addr} {W : WX} {X : Cx} {a e : Expr} {m ma mb : M D} {p p2 q pos : Pos} {lo hi : Option Expr} {ml mh : MO}
theorem vo_none : VO ct W X none mNoPart := PO.conv po_none fun σ H Q ⟨δ, G, r, q⟩ => q none G H Ext.refl r rfl
theorem vo_some (h : VE ct W X e m) : VO ct W X (some e) (mPart m) := PO.conv (po_some h) fun σ H Q h => tG.step h fun d δ1 x G1 H1 r1 p1 h1 => by
  cases d <;> first
    | exact h1.elim
    | exact ⟨_, Rp.ofInt p1, h1 _ _ _ Ext.refl r1 rfl⟩
def cutD (ds : List D) (lo hi : Option Int) : List D := (ds.drop (HT.sIx ds.length 0 lo)).take (HT.sIx ds.length ds.length hi - HT.sIx ds.length 0 lo)
theorem cutD_length (xs : List D) (lo hi : Option Int) : (cutD xs lo hi).length ≤ xs.length := by
  unfold cutD
  rw [List.length_take, List.length_drop]
  omega
theorem cut_rp {K : PySem.W.Frag} {G : Hp} {vs : List V} {ds : List D} {lo hi : Option Int} (h : RpAll K G vs ds) : RpAll K G (cutV vs lo hi) (cutD ds lo hi) := by
  unfold cutV cutD
  rw [RpAll.length h]
  exact RpAll.take _ (RpAll.drop _ h)
theorem cut_whole {ds : List D} {lo hi : Option Int} (h : HT.sIx ds.length 0 lo = 0 ∧ HT.sIx ds.length ds.length hi = ds.length) : cutD ds lo hi = ds := by
  unfold cutD
  rw [h.1, h.2, List.drop_zero, Nat.sub_zero, List.take_length]
end
def rgD (a b : Int) : List D := (List.range (b - a).toNat).map fun i => .int (a + (i : Nat))
def rgOk (a b : Int) : Bool := decide (-4611686018427387904 ≤ a ∧ a < 4611686018427387904 ∧ -4611686018427387904 ≤ b ∧ b < 4611686018427387904 ∧ (b - a).toNat ≤ 16777216)
theorem rgOk_of {a b : Int} (h : rgOk a b = true) : RgOk a b := by
  have := of_decide_eq_true h
  exact ⟨by omega, by omega, by omega, by omega, by omega⟩
theorem rgD_length (a b : Int) : (rgD a b).length = (b - a).toNat := by unfold rgD; rw [List.length_map, List.length_range]
def gRg : D → D → R (List D)
  | .int i, .int j => if rgOk i j then .ok (rgD i j) else .bad
  | _, _ => .bad
def mRange (ma mb : M D) : M (List D) := M.bind ma fun d => M.bind mb fun e => M.only (gRg d e)
def mRange1 (ma : M D) : M (List D) := M.bind ma fun e => M.only (gRg (.int 0) e)
theorem gRg_ok {d e : D} {z : List D} (h : gRg d e = .ok z) : ∃ i j, d = .int i ∧ e = .int j ∧ rgOk i j = true ∧ z = rgD i j := by
  unfold gRg at h
  split at h
  · split at h
    · rename_i k
      cases h
      exact ⟨_, _, rfl, rfl, k, rfl⟩
    · cases h
  · cases h
def gCatL : D → D → R (List D)
  | .list ds, .list es => if szOk (ds.length + es.length) then .ok (ds ++ es) else .bad
  | _, _ => .bad
def gRepL : D → D → R (List D)
  | .list ds, .int k => if decide (-4611686018427387904 ≤ k ∧ k < 4611686018427387904) && szOk (ds.length * k.toNat) then .ok (List.replicate k.toNat ds).flatten else .bad
  | _, _ => .bad
def mOp2N (g : D → D → R (List D)) (ma mb : M D) : M (List D) := M.bind ma fun d => M.bind mb fun e => M.only (g d e)
def R2N (K : PySem.W.Frag) (r : R2) (g : D → D → R (List D)) : Prop := ∀ (δ : List C) (σ : L2.St) (G H : Hp) (x y : V) (d e : D) (z : List D) (Q : VK), Rel K δ G σ H → RpV K δ σ G H x d → RpV K δ σ G H y e → g d e = .ok z →
  (∀ p vs, H p = none → z.length ≤ sizeLine → RpAll K G vs z → Q (.ref p) (upd H p (.lst vs))) → r x y H Q
theorem RpAll.rep {K : PySem.W.Frag} {G : Hp} {vs : List V} {ds : List D} (h : RpAll K G vs ds) : ∀ k : Nat, RpAll K G (List.replicate k vs).flatten (List.replicate k ds).flatten
  | 0 => .nil
  | k + 1 => by
    rw [List.replicate_succ, List.replicate_succ, List.flatten_cons, List.flatten_cons]
    exact h.append (RpAll.rep h k)
section
variable {K : PySem.W.Frag} {ct : Nat → Addr} {W : WX} {X : Cx} {a b : Expr} {ma mb : M D} {pos : Pos} {r : R2} {g : D → D → R (List D)}
theorem r2_CatL : R2N K rCat gCatL := fun δ σ G H x y d e z Q r hx hy hz q => by
  unfold gCatL at hz
  split at hz
  · split at hz
    · rename_i ds es hk
      cases hz
      have hl := szOk_le hk
      obtain ⟨a, xs, e1, h1, h2, h3⟩ := hx.lst' r.same
      obtain ⟨b, ys, e2, k1, k2, k3⟩ := hy.lst' r.same
      have l1 := h3.length
      have l2 := k3.length
      exact ⟨a, b, xs, ys, e1, e2, h1, k1, by omega, fun p hp => q p _ hp (by rw [List.length_append]; exact hl) (h3.append k3)⟩
    · cases hz
  · cases hz
theorem r2_RepL : R2N K rRep gRepL := fun δ σ G H x y d e z Q r hx hy hz q => by
  unfold gRepL at hz
  split at hz
  · split at hz
    · rename_i ds k hk
      rw [Bool.and_eq_true] at hk
      have hb := of_decide_eq_true hk.1
      cases hz
      have hl := szOk_le hk.2
      obtain ⟨a, xs, e1, h1, h2, h3⟩ := hx.lst' r.same
      have l1 := h3.length
      have e : (List.replicate k.toNat ds).flatten.length = ds.length * k.toNat := by
        rw [List.length_flatten, List.map_replicate, List.sum_replicate_nat, Nat.mul_comm]
      exact ⟨a, k, xs, e1, hy.int, h1, by omega, by omega, by rw [l1]; exact hl, fun p hp => q p _ hp (by rw [e]; exact hl) (h3.rep _)⟩
    · cases hz
  · cases hz
theorem vn_op {op : Operator} (ho : OpR X (binaryOp op) r) (hr : R2N X.K r g) (ha : VE ct W X a ma) (hb : VV ct W X b mb) : VN ct W X (.BinOp a op b pos) (mOp2N g ma mb) := PE.conv (pe_op ho ha hb) fun σ H Q h =>
  tG.step h fun d δ1 x G1 H1 r1 p1 h1 => ⟨δ1, G1, r1, TW.step r1 h1 fun e δ2 y G2 H2 _ x2 r2 p2 h2 => by
    obtain ⟨z, ez, h3⟩ := Post.only h2
    exact hr δ2 σ G2 H2 x y d e z Q r2 (.inl (Rp.mono x2.same p1)) p2 ez fun p vs hp hl ha => Post.fresh h3 r2 hp hl ha⟩
end
end TW
set_option Elab.async false
set_option linter.all false
set_option maxRecDepth 100000
namespace TW
open PySem PySem.Spec PyProof.Rows L2
structure Walks (K : PySem.W.Frag) (G0 : Hp) (J : It) (ds : List D) : Prop where
  size : ds.length ≤ sizeLine
  go : ∀ (i : Nat) (d : D) (G H : Hp), ds[i]? = some d → Same G0 G → Same G H → (∀ b o, G b = some o → NT o) → J.go i H ∧ ∀ x H', J.yld i H x H' → ∃ G', Grow G H G' H' ∧ Rp K G' x d
  stop : ∀ (i : Nat) (G H : Hp), ds.length ≤ i → Same G0 G → Same G H → J.stop i H
def PIt (K : PySem.W.Frag) : Hp → Hp → Hp → List C → L2.St → It → List D → Prop := fun _ G' _ _ _ J ds => Walks K G' J ds
instance {K : PySem.W.Frag} : Anti (PIt K) := ⟨fun _ h => h⟩
abbrev VI (ct : Nat → Addr) (W : WX) (X : Cx) (tg e : Expr) (m : M (List D)) : Prop := PI X tg e (tG X.K ct W (PIt X.K) m)
section
variable {K : PySem.W.Frag} {G : Hp}
theorem grow_id {G H : Hp} (s : Same G H) (n : ∀ b o, G b = some o → NT o) : Grow G H G H := ⟨Same.refl _, Same.refl _, s, n, fun _ _ h => .inl h⟩
theorem walks_l {a : Addr} {xs : List V} {ds : List D} (h : G a = some (.lst xs)) (z : ds.length ≤ sizeLine) (ha : RpAll K G xs ds) : Walks K G (Itl K a) ds :=
  ⟨z, fun i d G' H e s1 s2 n => by
    obtain ⟨v, h1, h2⟩ := ha.get e
    have hs : SqL K H a xs := SqL.of (s2 _ _ (s1 _ _ h))
    refine ⟨⟨xs, v, hs, h1⟩, fun x H' ⟨e1, e2⟩ => ?_⟩
    subst e1
    have := e2 xs hs
    rw [h1] at this
    cases this
    exact ⟨G', grow_id s2 n, h2.mono s1⟩, fun i G' H e s1 s2 => ⟨xs, SqL.of (s2 _ _ (s1 _ _ h)), by rw [RpAll.length ha]; exact e⟩⟩
theorem walks_t {a : Addr} {xs : List V} {ds : List D} (h : SqT K G a xs) (z : ds.length ≤ sizeLine) (ha : RpAll K G xs ds) : Walks K G (Itt K a) ds :=
  ⟨z, fun i d G' H e s1 s2 n => by
    obtain ⟨v, h1, h2⟩ := ha.get e
    have hs : SqT K H a xs := Same.sqt (s1.trans s2) h
    refine ⟨⟨xs, v, hs, h1⟩, fun x H' ⟨e1, e2⟩ => ?_⟩
    subst e1
    have := e2 xs hs
    rw [h1] at this
    cases this
    exact ⟨G', grow_id s2 n, h2.mono s1⟩, fun i G' H e s1 s2 => ⟨xs, Same.sqt (s1.trans s2) h, by rw [RpAll.length ha]; exact e⟩⟩
theorem rgD_get {lo hi : Int} {i : Nat} {d : D} (e : (rgD lo hi)[i]? = some d) : i < (hi - lo).toNat ∧ d = .int (lo + i) := by
  unfold rgD at e
  rw [List.getElem?_map] at e
  cases q : (List.range (hi - lo).toNat)[i]? with
  | none => rw [q] at e; cases e
  | some j =>
    rw [q] at e
    obtain ⟨h1, h2⟩ := List.getElem?_eq_some_iff.mp q
    rw [List.getElem_range] at h2
    rw [List.length_range] at h1
    subst h2
    cases e
    exact ⟨h1, rfl⟩
theorem walks_r {lo hi : Int} (z : (hi - lo).toNat ≤ sizeLine) : Walks K G (Itr lo (hi - lo).toNat) (rgD lo hi) :=
  ⟨by rw [rgD_length]; exact z, fun i d G' H e s1 s2 n => by
    obtain ⟨h1, h2⟩ := rgD_get e
    subst h2
    exact ⟨h1, fun x H' ⟨e1, e2⟩ => by subst e1; subst e2; exact ⟨G', grow_id s2 n, .int _⟩⟩, fun i G' H e s1 s2 => by rw [rgD_length] at e; exact e⟩
end
theorem pi_seq {X : Cx} {tg l : Expr} {tl : TE} (hl : PE X l tl) : PI X tg l (fun σ H R => tl σ H fun x H1 => ∃ a, x = .ref a ∧ ((∃ xs, SqL X.K H1 a xs ∧ R (Itl X.K a) H1) ∨ ∃ xs, SqT X.K H1 a xs ∧ R (Itt X.K a) H1)) := by
  refine ⟨fun pins s σ H R I h => ?_⟩
  refine thn (hl.run pins s σ H _ I h) fun v s1 ⟨x, H1, I1, r1, q1⟩ => ?_
  obtain ⟨a, e, q⟩ := q1
  subst e
  cases r1
  rcases q with ⟨xs, hq, q⟩ | ⟨xs, hq, q⟩
  · obtain ⟨its, rv, p, hz⟩ := I1.list hq
    refine wpAny_pyIter_list p.isList ?_
    refine ⟨s1.heap.objs.size, [s1.heap.objs.size], _, _, H1, rfl, I1.kept (t' := s1.toks) fun b o e => Heap.get?_push_of_some _ e, turn_list a _, ⟨_, Heap.get?_push_size _ rfl, rfl, rfl⟩, fun b hb => ?_, q⟩
    have e : b = s1.heap.objs.size := by simpa using hb
    subst e
    exact I1.fpOk (Nat.le_refl _) (I1.hok.fresh (Nat.le_refl _))
  · obtain ⟨its, rv, p, hz⟩ := I1.tuple hq
    refine wpAny_pyIter_tuple (show s1.heap.IsTuple a its.toArray from p) ?_
    refine ⟨s1.heap.objs.size, [s1.heap.objs.size], _, _, H1, rfl, I1.kept (t' := s1.toks) fun b o e => Heap.get?_push_of_some _ e, turn_tuple a _, ⟨_, Heap.get?_push_size _ rfl, rfl, rfl⟩, fun b hb => ?_, q⟩
    have e : b = s1.heap.objs.size := by simpa using hb
    subst e
    exact I1.fpOk (Nat.le_refl _) (I1.hok.fresh (Nat.le_refl _))
def gSeq : D → R (List D)
  | .list ds => .ok ds
  | .tuple ds => .ok ds
  | _ => .bad
def mSeq1 (m : M D) : M (List D) := M.bind m fun d => M.only (gSeq d)
section
variable {ct : Nat → Addr} {W : WX} {X : Cx} {tg e a b : Expr} {m ma mb : M D} {p q pos : Pos}
theorem Post.same {K : PySem.W.Frag} {α β : Type} {P : Hp → Hp → Hp → List C → L2.St → β → α → Prop} {δ : List C} {G H : Hp} {σ : L2.St} {Q : β → Hp → Prop} {a : α} {v : β} (h : Post K ct W P (.ok (a, δ)) δ G H σ Q) (r : Rel K δ G σ H) (q : P H G H δ σ v a) : Q v H := h v G H Ext.refl r q
theorem vi_seq (h : VE ct W X e m) : VI ct W X tg e (mSeq1 m) := PI.conv (pi_seq h) fun σ H R h => tG.step h fun d δ1 x G1 H1 r1 p1 h1 => by
  obtain ⟨z, ez, h3⟩ := Post.only h1
  unfold gSeq at ez
  split at ez
  · cases ez
    obtain ⟨a, xs, e1, k1, k2, k3⟩ := Rp.ofLst p1
    exact ⟨a, e1, .inl ⟨xs, SqL.of (r1.same _ _ k1), h3 _ _ _ Ext.refl r1 (walks_l k1 k2 k3)⟩⟩
  · cases ez
    obtain ⟨a, xs, e1, k1, k2, k3⟩ := Rp.ofTup p1
    exact ⟨a, e1, .inr ⟨xs, Same.sqt r1.same k1, h3 _ _ _ Ext.refl r1 (walks_t k1 k2 k3)⟩⟩
  · cases ez
theorem vi_range1 (hg : Gl X "range") (hm : X.mg "range" = none) (ha : VE ct W X a ma) (hs : starEach [a] X.env = [(false, eval a X.env)] := by rfl) : VI ct W X tg (.Call (.Name "range" p) [a] [] pos) (mRange1 ma) :=
  PI.conv (pi_range1 hg hm (pa_cons ha pa_nil hs) hs) fun σ H R h => tG.step h fun d δ1 x G1 H1 r1 p1 h1 => by
    obtain ⟨z, ez, h3⟩ := Post.only h1
    obtain ⟨i, j, e1, e2, k, e3⟩ := gRg_ok ez
    cases e1
    subst e2 e3
    have hz := rgOk_of k
    have e := Rp.ofInt p1
    subst e
    refine ⟨j, rfl, hz.2.2.1, hz.2.2.2.1, ?_⟩
    have w := walks_r (K := X.K) (G := G1) (lo := 0) (hi := j) (by rw [sizeLine_eq]; exact hz.2.2.2.2)
    have e : (j - 0).toNat = j.toNat := by rw [Int.sub_zero]
    rw [e] at w
    exact h3 _ _ _ Ext.refl r1 w
theorem vi_range2 (hg : Gl X "range") (hm : X.mg "range" = none) (ha : VE ct W X a ma) (hb : VE ct W X b mb) (hs : starEach [a, b] X.env = [(false, eval a X.env), (false, eval b X.env)] := by rfl) (hs2 : starEach [b] X.env = [(false, eval b X.env)] := by rfl) : VI ct W X tg (.Call (.Name "range" p) [a, b] [] pos) (mRange ma mb) :=
  PI.conv (pi_range2 hg hm (pa_cons ha (pa_cons hb pa_nil hs2) (by rw [hs, hs2])) hs hs2) fun σ H R h => tG.step h fun d δ1 x G1 H1 r1 p1 h1 => ⟨δ1, G1, r1, TW.step r1 h1 fun e δ2 y G2 H2 _ x2 r2 p2 h2 => by
    obtain ⟨z, ez, h3⟩ := Post.only h2
    obtain ⟨i, j, e1, e2, k, e3⟩ := gRg_ok ez
    subst e1 e2 e3
    have hz := rgOk_of k
    have e1 := Rp.ofInt p1
    have e2 := Rp.ofInt p2
    subst e1 e2
    exact ⟨i, j, rfl, ⟨hz.1, hz.2.1, hz.2.2.1, hz.2.2.2.1⟩, h3 _ _ _ Ext.refl r2 (walks_r (by rw [sizeLine_eq]; exact hz.2.2.2.2))⟩⟩
def zpD (ds : List D) : D := .dict [(.bool true, .tuple ds)]
def gZip : D → D → R (List D)
  | .list ds, .list es => .ok ((ds.zip es).map fun p => zpD [p.1, p.2])
  | .tuple ds, .tuple es => .ok ((ds.zip es).map fun p => zpD [p.1, p.2])
  | _, _ => .bad
def mZip (ma mb : M D) : M (List D) := M.bind ma fun d => M.bind mb fun e => M.only (gZip d e)
theorem zip_get {ds es : List D} {i : Nat} {d : D} (e : ((ds.zip es).map fun p => zpD [p.1, p.2])[i]? = some d) : ∃ x y, ds[i]? = some x ∧ es[i]? = some y ∧ d = zpD [x, y] := by
  rw [List.getElem?_map] at e
  cases q : (ds.zip es)[i]? with
  | none => rw [q] at e; cases e
  | some p =>
    rw [q] at e
    cases e
    obtain ⟨h1, h2⟩ := List.getElem?_zip_eq_some.mp q
    exact ⟨p.1, p.2, h1, h2, rfl⟩
theorem pair_grow {K : PySem.W.Frag} {G H : Hp} {T : Addr} {x y : V} {d e : D} (s : Same G H) (n : ∀ b o, G b = some o → NT o) (hT : H T = none) (h1 : Rp K G x d) (h2 : Rp K G y e) : ∃ G', Grow G H G' (upd H T (.tup [x, y])) ∧ Rp K G' (.ref T) (zpD [d, e]) := by
  have sg := same_upd (o := .tup [x, y]) (Same.free s hT)
  exact ⟨_, Grow.laid s n hT nt_tup, .zp (SqT.of upd_same) (.cons (h1.mono sg) (.cons (h2.mono sg) .nil))⟩
theorem zip_size {ds es : List D} (h : ds.length ≤ sizeLine) : ((ds.zip es).map fun p => zpD [p.1, p.2]).length ≤ sizeLine := by
  rw [List.length_map, List.length_zip]; omega
theorem walks_zl {K : PySem.W.Frag} {G : Hp} {a b : Addr} {xs ys : List V} {ds es : List D} (h : G a = some (.lst xs)) (h' : G b = some (.lst ys)) (z : ds.length ≤ sizeLine) (ha : RpAll K G xs ds) (hb : RpAll K G ys es) : Walks K G (Itz K a b) ((ds.zip es).map fun p => zpD [p.1, p.2]) :=
  ⟨zip_size z, fun i d G' H e s1 s2 n => by
    obtain ⟨d1, d2, q1, q2, rfl⟩ := zip_get e
    obtain ⟨v, h1, h2⟩ := ha.get q1
    obtain ⟨w, k1, k2⟩ := hb.get q2
    have hs : SqL K H a xs := SqL.of (s2 _ _ (s1 _ _ h))
    have hs' : SqL K H b ys := SqL.of (s2 _ _ (s1 _ _ h'))
    refine ⟨⟨xs, ys, v, w, hs, hs', h1, k1⟩, fun x H' ⟨T, x1, y1, e1, e2, e3, e4, e5⟩ => ?_⟩
    have t1 := e4 xs hs
    have t2 := e5 ys hs'
    rw [h1] at t1
    rw [k1] at t2
    cases t1
    cases t2
    subst e1 e3
    exact pair_grow s2 n e2 (h2.mono s1) (k2.mono s1), fun i G' H e s1 s2 => ⟨xs, ys, SqL.of (s2 _ _ (s1 _ _ h)), SqL.of (s2 _ _ (s1 _ _ h')), by
      rw [List.length_map, List.length_zip] at e
      rw [RpAll.length ha, RpAll.length hb]
      omega⟩⟩
theorem walks_zt {K : PySem.W.Frag} {G : Hp} {a b : Addr} {xs ys : List V} {ds es : List D} (h : SqT K G a xs) (h' : SqT K G b ys) (z : ds.length ≤ sizeLine) (ha : RpAll K G xs ds) (hb : RpAll K G ys es) : Walks K G (RZ.ItzT K a b) ((ds.zip es).map fun p => zpD [p.1, p.2]) :=
  ⟨zip_size z, fun i d G' H e s1 s2 n => by
    obtain ⟨d1, d2, q1, q2, rfl⟩ := zip_get e
    obtain ⟨v, h1, h2⟩ := ha.get q1
    obtain ⟨w, k1, k2⟩ := hb.get q2
    have hs : SqT K H a xs := Same.sqt (s1.trans s2) h
    have hs' : SqT K H b ys := Same.sqt (s1.trans s2) h'
    refine ⟨⟨xs, ys, v, w, hs, hs', h1, k1⟩, fun x H' ⟨T, x1, y1, e1, e2, e3, e4, e5⟩ => ?_⟩
    have t1 := e4 xs hs
    have t2 := e5 ys hs'
    rw [h1] at t1
    rw [k1] at t2
    cases t1
    cases t2
    subst e1 e3
    exact pair_grow s2 n e2 (h2.mono s1) (k2.mono s1), fun i G' H e s1 s2 => ⟨xs, ys, Same.sqt (s1.trans s2) h, Same.sqt (s1.trans s2) h', by
      rw [List.length_map, List.length_zip] at e
      rw [RpAll.length ha, RpAll.length hb]
      omega⟩⟩
theorem vi_zip {elts : List Expr} {kk : Nat} {tpos : Pos} (hg : Gl X "zip") (hm : X.mg "zip" = none) (ha : VE ct W X a ma) (hb : VE ct W X b mb)
    (hs : starEach [a, b] X.env = (false, eval a X.env) :: starEach [b] X.env := by rfl) (hs2 : starEach [b] X.env = (false, eval b X.env) :: starEach [] X.env := by rfl) (hpl : (backTo pos (starEach [b] X.env)).any (·.1) = false := by rfl) :
    VI ct W X (.Tuple elts kk tpos) (.Call (.Name "zip" p) [a, b] [] pos) (mZip ma mb) :=
  PI.conv (RZ.pi_zipA hg hm (pa_cons ha (pa_cons hb pa_nil hs2) hs) hs hpl) fun σ H R h => tG.step h fun d δ1 x G1 H1 r1 p1 h1 => ⟨δ1, G1, r1, TW.step r1 h1 fun e δ2 y G2 H2 _ x2 r2 p2 h2 => by
    obtain ⟨z, ez, h3⟩ := Post.only h2
    have p1 := Rp.mono x2.same p1
    unfold gZip at ez
    split at ez
    · cases ez
      obtain ⟨a, xs, e1, k1, k2, k3⟩ := Rp.ofLst p1
      obtain ⟨b, ys, e2, j1, j2, j3⟩ := Rp.ofLst p2
      subst e1 e2
      exact ⟨a, b, xs, ys, rfl, .inl ⟨SqL.of (r2.same _ _ k1), SqL.of (r2.same _ _ j1), h3 _ _ _ Ext.refl r2 (walks_zl k1 j1 k2 k3 j3)⟩⟩
    · cases ez
      obtain ⟨a, xs, e1, k1, k2, k3⟩ := Rp.ofTup p1
      obtain ⟨b, ys, e2, j1, j2, j3⟩ := Rp.ofTup p2
      subst e1 e2
      exact ⟨a, b, xs, ys, rfl, .inr ⟨Same.sqt r2.same k1, Same.sqt r2.same j1, h3 _ _ _ Ext.refl r2 (walks_zt k1 j1 k2 k3 j3)⟩⟩
    · cases ez⟩
end
def setC : List C → List Nat → List D → List C
  | cs, i :: is, d :: ds => setC (cs.set i (.dat d)) is ds
  | cs, _, _ => cs
def setA : L2.St → List Nat → List V → L2.St
  | σ, i :: is, v :: vs => setA (σ.set i (some v)) is vs
  | σ, _, _ => σ
def wipeC : List C → List Nat → List C
  | cs, [] => cs
  | cs, v :: vs => (wipeC cs vs).set v .un
section
variable {K : PySem.W.Frag} {δ : List C} {G H : Hp} {σ : L2.St}
theorem set_keep {δ : List C} {i : Nat} {c : C} (hc : ∀ t ds, c ≠ .own t ds) {j : Nat} {t : Bool} {es : List D} (h : (δ.set i c)[j]? = some (.own t es)) : j ≠ i ∧ δ[j]? = some (.own t es) := by
  by_cases q : j = i
  · subst q
    by_cases hi : j < δ.length
    · rw [List.getElem?_set_self hi] at h
      exact absurd (Option.some.inj h) (hc t es)
    · rw [List.getElem?_eq_none (by simpa using hi)] at h
      cases h
  · rw [List.getElem?_set_ne (Ne.symm q)] at h
    exact ⟨q, h⟩
theorem Rel.set {i : Nat} {v : V} {d : D} (r : Rel K δ G σ H) (h : Rp K G v d) : Rel K (δ.set i (.dat d)) G (σ.set i (some v)) H := by
  have kp : ∀ {j : Nat} {t : Bool} {es : List D}, (δ.set i (.dat d))[j]? = some (.own t es) → j ≠ i ∧ δ[j]? = some (.own t es) := fun h => set_keep (c := .dat d) (fun _ _ e => nomatch e) h
  refine ⟨by rw [List.length_set, List.length_set]; exact r.len, r.same, r.nt, fun j e q => ?_, fun j t es q => ?_, fun j k p t u es fs h1 h2 h3 h4 => ?_, r.tabs⟩
  · by_cases z : j = i
    · subst z
      by_cases hi : j < δ.length
      · rw [List.getElem?_set_self hi] at q
        cases q
        exact ⟨v, by rw [List.getElem?_set_self (by rw [← r.len]; exact hi)], h⟩
      · rw [List.getElem?_eq_none (by simpa using hi)] at q
        cases q
    · rw [List.getElem?_set_ne (Ne.symm z)] at q ⊢
      exact r.dat j e q
  · obtain ⟨z, q⟩ := kp q
    rw [List.getElem?_set_ne (Ne.symm z)]
    exact r.own j t es q
  · obtain ⟨z1, q1⟩ := kp h1
    obtain ⟨z2, q2⟩ := kp h2
    rw [List.getElem?_set_ne (Ne.symm z1)] at h3
    rw [List.getElem?_set_ne (Ne.symm z2)] at h4
    exact r.inj j k p t u es fs q1 q2 h3 h4
theorem set_ow {i : Nat} {c : C} {x : Option V} (hc : ∀ t ds, c ≠ .own t ds) {t : Bool} {b : Addr} (h : Ow t (δ.set i c) (σ.set i x) b) : Ow t δ σ b := by
  obtain ⟨j, es, h1, h2⟩ := h
  obtain ⟨z, h1⟩ := set_keep hc h1
  rw [List.getElem?_set_ne (Ne.symm z)] at h2
  exact ⟨j, es, h1, h2⟩
theorem Ext.sub {δ1 : List C} {σ1 : L2.St} (h : ∀ t b, Ow t δ1 σ1 b → Ow t δ σ b) : Ext δ G H σ δ1 G H σ1 := ⟨fun _ _ h _ _ => h, fun _ h => h, Same.refl _, fun _ _ h => .inl h, fun b q => .inl (h _ b q), fun b q => h _ b q⟩
theorem Rel.setA : ∀ {is : List Nat} {vs : List V} {ds : List D} {δ : List C} {σ : L2.St}, Rel K δ G σ H → RpAll K G vs ds → Rel K (setC δ is ds) G (TW.setA σ is vs) H
  | [], _, _, _, _, r, _ => by cases ‹RpAll K G _ _› <;> exact r
  | i :: is, _, _, _, _, r, .nil => r
  | i :: is, _ :: vs, _ :: ds, _, _, r, .cons h t => Rel.setA (is := is) (vs := vs) (ds := ds) (r.set h) t
theorem setA_ow : ∀ {is : List Nat} {vs : List V} {ds : List D} {δ : List C} {σ : L2.St} {t : Bool} {b : Addr}, RpAll K G vs ds → Ow t (setC δ is ds) (setA σ is vs) b → Ow t δ σ b
  | [], _, _, _, _, _, _, _, h => by cases ‹RpAll K G _ _› <;> exact h
  | i :: is, _, _, _, _, _, _, .nil, h => h
  | i :: is, _, d :: _, _, _, _, _, .cons _ t, h => set_ow (c := .dat d) (fun _ _ e => nomatch e) (setA_ow t h)
theorem Rel.unset {i : Nat} {x : Option V} (r : Rel K δ G σ H) : Rel K (δ.set i .un) G (σ.set i x) H := by
  have kp : ∀ {j : Nat} {t : Bool} {es : List D}, (δ.set i .un)[j]? = some (.own t es) → j ≠ i ∧ δ[j]? = some (.own t es) := fun h => set_keep (c := .un) (fun _ _ e => nomatch e) h
  refine ⟨by rw [List.length_set, List.length_set]; exact r.len, r.same, r.nt, fun j e q => ?_, fun j t es q => ?_, fun j k p t u es fs h1 h2 h3 h4 => ?_, r.tabs⟩
  · have z : j ≠ i := fun z => by
      subst z
      by_cases hi : j < δ.length
      · rw [List.getElem?_set_self hi] at q
        cases q
      · rw [List.getElem?_eq_none (by simpa using hi)] at q
        cases q
    rw [List.getElem?_set_ne (Ne.symm z)] at q ⊢
    exact r.dat j e q
  · obtain ⟨z, q⟩ := kp q
    rw [List.getElem?_set_ne (Ne.symm z)]
    exact r.own j t es q
  · obtain ⟨z1, q1⟩ := kp h1
    obtain ⟨z2, q2⟩ := kp h2
    rw [List.getElem?_set_ne (Ne.symm z1)] at h3
    rw [List.getElem?_set_ne (Ne.symm z2)] at h4
    exact r.inj j k p t u es fs q1 q2 h3 h4
theorem Rel.wipe (r : Rel K δ G σ H) : ∀ vs : List Nat, Rel K (wipeC δ vs) G (L2.wipe σ vs) H
  | [] => r
  | _ :: vs => (Rel.wipe r vs).unset
theorem wipe_ow {t : Bool} {b : Addr} : ∀ {vs : List Nat}, Ow t (wipeC δ vs) (wipe σ vs) b → Ow t δ σ b
  | [], h => h
  | _ :: vs, h => wipe_ow (vs := vs) (set_ow (c := .un) (fun _ _ e => nomatch e) h)
theorem wipeC_not {i : Nat} {c : C} : ∀ {vs : List Nat}, (wipeC δ vs)[i]? = some c → c ≠ .un → i ∉ vs
  | [], _, _ => by simp
  | v :: vs, h, n => by
    unfold wipeC at h
    by_cases q : v = i
    · subst q
      by_cases hv : v < (wipeC δ vs).length
      · rw [List.getElem?_set_self hv] at h
        exact absurd (Option.some.inj h).symm n
      · rw [List.getElem?_eq_none (by simpa using hv)] at h
        cases h
    · rw [List.getElem?_set_ne q] at h
      have := wipeC_not h n
      intro hm
      rcases List.mem_cons.mp hm with z | z
      · exact q z.symm
      · exact this z
theorem wipe_at {i : Nat} : ∀ {vs : List Nat}, i ∉ vs → (wipe σ vs)[i]? = σ[i]? := fun h => L2.wipe_out h
theorem Rel.unwipe {vs : List Nat} (r : Rel K (wipeC δ vs) G (L2.wipe σ vs) H) : Rel K (wipeC δ vs) G σ H := by
  have nv : ∀ {i : Nat} {d : D}, (wipeC δ vs)[i]? = some (.dat d) → (L2.wipe σ vs)[i]? = σ[i]? := fun h => wipe_at (wipeC_not h fun z => nomatch z)
  have no : ∀ {i : Nat} {t : Bool} {d : List D}, (wipeC δ vs)[i]? = some (.own t d) → (L2.wipe σ vs)[i]? = σ[i]? := fun h => wipe_at (wipeC_not h fun z => nomatch z)
  refine ⟨by rw [r.len, wipe_length], r.same, r.nt, fun i d h => ?_, fun i t ds h => ?_, fun i j p t u ds es h1 h2 h3 h4 => ?_, r.tabs⟩
  · rw [← nv h]; exact r.dat i d h
  · rw [← no h]; exact r.own i t ds h
  · rw [← no h1] at h3
    rw [← no h2] at h4
    exact r.inj i j p t u ds es h1 h2 h3 h4
theorem unwipe_ow {vs : List Nat} {t : Bool} {b : Addr} (h : Ow t (wipeC δ vs) σ b) : Ow t (wipeC δ vs) (wipe σ vs) b := by
  obtain ⟨i, ds, h1, h2⟩ := h
  exact ⟨i, ds, h1, by rw [wipe_at (wipeC_not h1 fun z => nomatch z)]; exact h2⟩
theorem wipe_set {i : Nat} {x : Option V} : ∀ {vs : List Nat}, i ∈ vs → wipe (σ.set i x) vs = wipe σ vs
  | [], h => by cases h
  | v :: vs, h => by
    show (wipe (σ.set i x) vs).set v none = (wipe σ vs).set v none
    by_cases hv : i ∈ vs
    · rw [wipe_set hv]
    · have e : i = v := by
        rcases List.mem_cons.mp h with z | z
        · exact z
        · exact absurd z hv
      subst e
      have : ∀ vs : List Nat, i ∉ vs → wipe (σ.set i x) vs = (wipe σ vs).set i x := fun vs => by
        induction vs with
        | nil => intro _; rfl
        | cons w ws ih =>
          intro hn
          have h1 : i ≠ w := fun e => hn (by rw [e]; exact List.mem_cons_self)
          have h2 : i ∉ ws := fun e => hn (List.mem_cons_of_mem _ e)
          show (wipe (σ.set i x) ws).set w none = ((wipe σ ws).set w none).set i x
          rw [ih h2, List.set_comm _ _ h1]
      rw [this vs hv, List.set_set]
theorem wipe_wipe : ∀ (us vs : List Nat), (∀ i ∈ us, i ∈ vs) → wipe (wipe σ us) vs = wipe σ vs
  | [], _, _ => rfl
  | u :: us, vs, h => by
    show wipe ((wipe σ us).set u none) vs = wipe σ vs
    rw [wipe_set (h u List.mem_cons_self)]
    exact wipe_wipe us vs fun i hi => h i (List.mem_cons_of_mem _ hi)
theorem wipe_setA : ∀ {is : List Nat} {vs : List V} {us : List Nat} {σ : L2.St}, (∀ i ∈ is, i ∈ us) → wipe (setA σ is vs) us = wipe σ us
  | [], _, _, _, _ => rfl
  | _ :: _, [], _, _, _ => rfl
  | i :: is, v :: vs, us, σ, h => by
    show wipe (TW.setA (σ.set i (some v)) is vs) us = wipe σ us
    rw [wipe_setA fun j hj => h j (List.mem_cons_of_mem _ hj), wipe_set (h i List.mem_cons_self)]
end
structure TgOk (K : PySem.W.Frag) (g : TG) (is : List Nat) (f : D → R (List D)) : Prop where
  run : ∀ (δ : List C) (σ : L2.St) (G H : Hp) (x : V) (d : D) (ds : List D) (Q : L2.St → Hp → Prop), Rel K δ G σ H → Rp K G x d → f d = .ok ds → (∀ vs, RpAll K G vs ds → Q (setA σ is vs) H) → g x σ H Q
def fName : D → R (List D) := fun d => .ok [d]
def fTup (n : Nat) : D → R (List D)
  | .tuple ds => if ds.length = n then .ok ds else .bad
  | .dict [(.bool true, .tuple ds)] => if ds.length = n then .ok ds else .bad
  | _ => .bad
theorem fTup_some {K : PySem.W.Frag} {G : Hp} {n : Nat} {x : V} {d : D} {ds : List D} (h : Rp K G x d) (e : fTup n d = .ok ds) : ∃ a xs, x = .ref a ∧ SqT K G a xs ∧ RpAll K G xs ds ∧ ds.length = n := by
  unfold fTup at e
  split at e
  · split at e
    · rename_i es hl
      cases e
      obtain ⟨a, xs, e1, k1, k2, k3⟩ := Rp.ofTup h
      exact ⟨a, xs, e1, k1, k3, hl⟩
    · cases e
  · split at e
    · rename_i es hl
      cases e
      obtain ⟨a, xs, e1, k1, k3⟩ := Rp.ofZp h
      exact ⟨a, xs, e1, k1, k3, hl⟩
    · cases e
  · cases e
section
variable {K : PySem.W.Frag}
theorem tg_name {i : Nat} : TgOk K (gName i) [i] fName := ⟨fun δ σ G H x d ds Q r h e q => by
  cases e
  exact q [x] (.cons h .nil)⟩
theorem tg_two {i j : Nat} : TgOk K (gTup K 2 (gCons (gName i) (gCons (gName j) gNil))) [i, j] (fTup 2) := ⟨fun δ σ G H x d ds Q r h e q => by
  obtain ⟨a, xs, e1, k1, k3, hl⟩ := fTup_some h e
  have hx := RpAll.length k3
  match xs, hx with
  | [v, w], hx => exact ⟨a, [v, w], e1, Same.sqt r.same k1, rfl, v, [w], rfl, w, [], rfl, rfl, q [v, w] k3⟩
  | [], hx => simp at hx; omega
  | [_], hx => simp at hx; omega
  | _ :: _ :: _ :: _, hx => simp at hx; omega⟩
end
def mYes : M Bool := M.pure true
def compGo (vs is : List Nat) (f : D → R (List D)) (mt : M Bool) (me : M D) : List D → M (List D)
  | [], cs => .ok ([], cs)
  | x :: xs, cs => match f x with
    | .ok ds => match mt (setC cs is ds) with
      | .ok (true, c1) => match me c1 with
        | .ok (d, c2) => match compGo vs is f mt me xs (wipeC c2 vs) with
          | .ok (r, c3) => .ok (d :: r, c3)
          | _ => .bad
        | _ => .bad
      | .ok (false, c1) => compGo vs is f mt me xs (wipeC c1 vs)
      | _ => .bad
    | _ => .bad
def mComp (vs is : List Nat) (f : D → R (List D)) (mi : M (List D)) (mt : M Bool) (me : M D) : M (List D) := M.bind mi fun ds => fun cs => match compGo vs is f mt me ds (wipeC cs vs) with
  | .ok r => .ok r
  | _ => .bad
def W0 : WX := fun _ _ _ _ => False
theorem takesW0 {X : Cx} : Takes X W0 := fun _ _ x => by
  obtain ⟨_, _, _, _, _, _, _, _, _, _, _, _, _, _, _, _, z⟩ := x
  exact z.elim
section
variable {ct : Nat → Addr} {W : WX} {X : Cx} {tg iter elt : Expr} {ifs : List Expr} {scope : Scope} {own : List (Str × Nat)} {pos : Pos} {mi : M (List D)} {mt : M Bool} {me : M D} {g : TG} {is : List Nat} {f : D → R (List D)}
structure CompAt (K : PySem.W.Frag) (vs is : List Nat) (f : D → R (List D)) (mt : M Bool) (me : M D) (ds : List D) (res : List D) (δf : List C) (δ0 : List C) (G0 H0 : Hp) (σ0 : L2.St) (Dd : Addr) (i m : Nat) (H : Hp) : Prop where
  ex : ∃ (δi : List C) (Gi : Hp) (acc : List D) (accV : List V) (rest : List D), i + m = ds.length ∧ Rel K (wipeC δi vs) Gi (wipe σ0 vs) H ∧ Ext δ0 G0 H0 σ0 (wipeC δi vs) Gi H (wipe σ0 vs) ∧ H Dd = some (.lst accV) ∧ RpAll K Gi accV acc ∧ acc.length ≤ i ∧ Gi Dd = none ∧
    ¬ OwA (wipeC δi vs) (wipe σ0 vs) Dd ∧ compGo vs is f mt me (ds.drop i) (wipeC δi vs) = .ok (rest, wipeC δf vs) ∧ res = acc ++ rest
theorem compGo_end {vs : List Nat} {mt : M Bool} {me : M D} : ∀ (ds : List D) (cs : List C) (r : List D) (cf : List C), compGo vs is f mt me ds (wipeC cs vs) = .ok (r, cf) → ∃ c, cf = wipeC c vs
  | [], cs, r, cf, h => by cases h; exact ⟨cs, rfl⟩
  | x :: xs, cs, r, cf, h => by
    unfold compGo at h
    split at h
    · split at h
      · split at h
        · split at h
          · rename_i e
            cases h
            exact compGo_end xs _ _ _ e
          · cases h
        · cases h
      · exact compGo_end xs _ _ _ h
      · cases h
    · cases h
theorem drop_at {ds : List D} {i : Nat} (h : i < ds.length) : ds.drop i = ds[i] :: ds.drop (i + 1) := List.drop_eq_getElem_cons h
theorem upd_lst_rel {K : PySem.W.Frag} {δ : List C} {G H : Hp} {σ : L2.St} {p : Addr} {xs : List V} (r : Rel K δ G σ H) (hG : G p = none) (ho : ¬ OwA δ σ p) (ht : LamX.Tabs (lamT K) (upd H p (.lst xs))) : Rel K δ G σ (upd H p (.lst xs)) := by
  refine ⟨r.len, fun b o h => ?_, r.nt, r.dat, fun i t ds h => ?_, r.inj, ht⟩
  · have n : b ≠ p := fun e => by subst e; rw [hG] at h; cases h
    rw [upd_ne n]; exact r.same b o h
  · obtain ⟨q, ws, a1, a2, a3, a4, a5⟩ := r.own i t ds h
    have n : q ≠ p := fun e => ho ⟨t, i, ds, h, e ▸ a1⟩
    exact ⟨q, ws, a1, by rw [upd_ne n]; exact a2, a3, a4, a5⟩
theorem tabs_lst {H : Hp} {p : Addr} {xs ys : List V} (h : H p = some (.lst xs)) : ∀ T, LamX.Tabs T H → LamX.Tabs T (upd H p (.lst ys)) := fun T ht q hq => by
  obtain ⟨ps, h1, h2, h3⟩ := ht q hq
  have n : q.1 ≠ p := fun e => by rw [e, h] at h1; cases h1
  refine ⟨ps, by rw [upd_ne n]; exact h1, h2, fun pos cv hc => ?_⟩
  obtain ⟨c, e1, e2⟩ := h3 pos cv hc
  have n2 : c ≠ p := fun e => by rw [e, h] at e2; unfold LamX.CodeO at e2; cases e2
  exact ⟨c, e1, by rw [upd_ne n2]; exact e2⟩
theorem comp_core (K : PySem.W.Frag) {W2 : WX} (tk : TgOk K g is f) (hsub : ∀ i ∈ is, i ∈ own.map (·.2)) {σ : L2.St} {H : Hp} {Q : VK} (h : tG K ct W (PN K) (mComp (own.map (·.2)) is f mi mt me) σ H Q) :
    tLc (tG K ct W (PIt K) mi) g (tG K ct W0 PB mt) (tG K ct W0 (PD K) me) (own.map (·.2)) σ H Q := by
  refine tG.step h fun ds δ1 J G1 H1 r1 wk h1 => ?_
  intro Dd hD
  have wk : Walks K G1 J ds := wk
  revert h1 hsub
  generalize own.map (·.2) = vs
  intro hsub h1
  cases e0 : compGo vs is f mt me ds (wipeC δ1 vs) with
  | err n xs => rw [e0] at h1; exact h1.elim
  | bad => rw [e0] at h1; exact h1.elim
  | ok pr =>
    obtain ⟨res, cf⟩ := pr
    rw [e0] at h1
    obtain ⟨δf, hf⟩ := compGo_end ds δ1 res cf e0
    subst hf
    refine ⟨fun i m H => CompAt K vs is f mt me ds res δf δ1 G1 H1 σ Dd i m H, ⟨ds.length, ⟨δ1, G1, [], [], res, by omega, ?_, ?_, upd_same, .nil, Nat.le_refl _, Same.free r1.same hD, ?_, by rw [List.drop_zero]; exact e0, rfl⟩⟩, fun i m H ⟨δi, Gi, acc, accV, rest, eim, ri, xi, hDd, hacc, hal, hGD, hOD, ego, eres⟩ => ?_⟩
    · exact upd_lst_rel (r1.wipe vs) (Same.free r1.same hD) (fun ⟨t, z⟩ => fresh_not r1 hD ⟨t, wipe_ow z⟩) (tabs_keep (same_upd hD) _ r1.tabs)
    · exact ⟨fun b o h _ _ => by rw [upd_ne (ne_of_none h hD)]; exact h, fun b hb o q => hb o (by rw [upd_ne (ne_of_none q hD)]; exact q), Same.refl _, fun _ _ h => .inl h, fun b h => .inl (wipe_ow h), fun b h => wipe_ow h⟩
    · exact fun ⟨t, z⟩ => fresh_not r1 hD ⟨t, wipe_ow z⟩
    have ow_keep : ∀ {δ' : List C} {G' H' : Hp} {σ' : L2.St} {Hx : Hp} {δx : List C} {Gx : Hp} {σx : L2.St} {av : List V}, Ext δx Gx Hx σx δ' G' H' σ' → Same G' H' → Hx Dd = some (.lst av) → ¬ OwA δx σx Dd → Gx Dd = none → H' Dd = some (.lst av) ∧ ¬ OwA δ' σ' Dd ∧ G' Dd = none := fun {δ' G' H' σ' Hx δx Gx σx av} x sm h1 h2 h3 => by
      refine ⟨x.keep _ _ h1 nt_lst h2, fun z => ?_, ?_⟩
      · rcases x.owA z with z | z
        · exact h2 z
        · exact z.not h1
      · cases q : G' Dd with
        | none => rfl
        | some o =>
          rcases x.new _ _ q with z | z | z
          · rw [h3] at z; cases z
          · exact z.not h1 (sm _ _ q) (x.keep _ _ h1 nt_lst h2)
          · exact absurd ⟨false, z⟩ h2
    by_cases hi : i < ds.length
    · refine .inr ?_
      have hd : ds[i]? = some ds[i] := List.getElem?_eq_getElem hi
      obtain ⟨hgo, hy⟩ := wk.go i ds[i] Gi H hd xi.same ri.same ri.nt
      refine ⟨hgo, fun H' => CompAt K vs is f mt me ds res δf δ1 G1 H1 σ Dd (i + 1) (m - 1) H', fun H' hN => ⟨m - 1, by omega, hN⟩, fun x H' y => ?_⟩
      obtain ⟨G2, gr, rx⟩ := hy x H' y
      have x2 := gr.ext (δ := wipeC δi vs) (σ := wipe σ vs)
      have r2 := gr.rel ri
      obtain ⟨k1, k2, k3⟩ := ow_keep x2 r2.same hDd hOD hGD
      rw [drop_at hi] at ego
      unfold compGo at ego
      split at ego
      · rename_i es ef
        refine tk.run (wipeC δi vs) (wipe σ vs) G2 H' x ds[i] es _ r2 rx ef fun ws hws => ?_
        have r3 := r2.setA (is := is) hws
        have x3 : Ext (wipeC δi vs) G2 H' (wipe σ vs) (setC (wipeC δi vs) is es) G2 H' (setA (wipe σ vs) is ws) := Ext.sub fun t b z => setA_ow hws z
        obtain ⟨j1, j2, j3⟩ := ow_keep x3 r3.same k1 k2 k3
        have hw : wipe (setA (wipe σ vs) is ws) vs = wipe σ vs := by
          rw [wipe_setA hsub]
          exact wipe_wipe vs vs fun _ h => h
        refine ⟨hw, _, _, r3, ?_⟩
        split at ego
        · rename_i c1 et
          rw [et]
          intro b G4 H4 x4 r4 eb
          obtain rfl : b = true := eb
          rw [if_pos rfl]
          obtain ⟨l1, l2, l3⟩ := ow_keep x4 r4.same j1 j2 j3
          refine ⟨c1, G4, r4, ?_⟩
          split at ego
          · rename_i d c2 ee
            rw [ee]
            intro yv G5 H5 x5 r5 ry
            obtain ⟨n1, n2, n3⟩ := ow_keep x5 r5.same l1 l2 l3
            split at ego
            · rename_i rr c3 er
              cases ego
              have sz : accV.length < sizeLine := by
                have a1 := RpAll.length hacc
                have a2 := wk.size
                omega
              refine ⟨accV, n1, sz, ⟨c2, G5, acc ++ [d], accV ++ [yv], rr, by omega, ?_, ?_, upd_same, ?_, by rw [List.length_append]; show acc.length + 1 ≤ i + 1; omega, n3, ?_, er, by rw [eres, List.append_assoc] <;> rfl⟩⟩
              · have := r5.wipe vs
                rw [hw] at this
                exact upd_lst_rel this n3 (fun ⟨t, z⟩ => n2 ⟨t, wipe_ow (vs := vs) (by rw [hw]; exact z)⟩) (tabs_lst n1 _ this.tabs)
              · have xt := xi.trans (x2.trans (x3.trans (x4.trans x5)))
                refine ⟨fun b o h n nb => ?_, fun b hb => ?_, xt.same, xt.new, fun b z => xt.own b (wipe_ow (vs := vs) (by rw [hw]; exact z)), fun b z => xt.par b (wipe_ow (vs := vs) (by rw [hw]; exact z))⟩
                · rw [upd_ne (ne_of_none h hD)]
                  exact xt.keep b o h n nb
                · by_cases q : b = Dd
                  · subst q; exact hb.not upd_same
                  · exact xt.back b fun o e => hb o (by rw [upd_ne q]; exact e)
              · exact RpAll.append (RpAll.mono (x2.same.trans (x3.same.trans (x4.same.trans x5.same))) hacc) (.cons ry .nil)
              · exact fun ⟨t, z⟩ => n2 ⟨t, wipe_ow (vs := vs) (by rw [hw]; exact z)⟩
            · cases ego
          · cases ego
        · rename_i c1 et
          rw [et]
          intro b G4 H4 x4 r4 eb
          obtain rfl : b = false := eb
          rw [if_neg Bool.false_ne_true]
          obtain ⟨l1, l2, l3⟩ := ow_keep x4 r4.same j1 j2 j3
          have r5 := r4.wipe vs
          rw [hw] at r5
          refine ⟨c1, G4, acc, accV, rest, by omega, r5, xi.trans (x2.trans (x3.trans (x4.trans (Ext.sub fun t b z => wipe_ow (vs := vs) (by rw [hw]; exact z))))), l1, RpAll.mono (x2.same.trans (x3.same.trans x4.same)) hacc, by omega, l3, fun ⟨t, z⟩ => l2 ⟨t, wipe_ow (vs := vs) (by rw [hw]; exact z)⟩, ego, eres⟩
        · cases ego
      · cases ego
    · refine .inl ⟨wk.stop i Gi H (by omega) xi.same ri.same, ?_⟩
      have e1 : ds.drop i = [] := List.drop_eq_nil_of_le (by omega)
      rw [e1] at ego
      unfold compGo at ego
      have e2 : rest = [] ∧ wipeC δi vs = wipeC δf vs := by
        have := R.ok.inj ego
        exact ⟨(congrArg Prod.fst this).symm, congrArg Prod.snd this⟩
      obtain ⟨e2, e3⟩ := e2
      subst e2
      rw [List.append_nil] at eres
      subst eres
      rw [e3] at ri xi hOD
      refine h1 (.ref Dd) Gi H ?_ ri.unwipe ⟨Dd, accV, rfl, fre_none hD, hDd, hGD, fun ⟨t, z⟩ => hOD ⟨t, unwipe_ow z⟩, by have := wk.size; omega, hacc⟩
      exact ⟨xi.keep, xi.back, xi.same, xi.new, fun b z => xi.own b (unwipe_ow z), fun b z => xi.par b (unwipe_ow z)⟩
end
end TW
set_option Elab.async false
set_option linter.all false
set_option maxRecDepth 100000
namespace TW
open PySem PySem.Spec PyProof.Rows L2
theorem PTs.conv {X : Cx} {es : List Expr} {t t' : TT} (h : PTs X es t) (i : ∀ σ H Q, t' σ H Q → t σ H Q) : PTs X es t' := ⟨fun pins s σ H Q I q => h.run pins s σ H Q I (i σ H Q q)⟩
abbrev VTs (ct : Nat → Addr) (W : WX) (X : Cx) (es : List Expr) (m : M Bool) : Prop := PTs X es (tG X.K ct W PB m)
section
variable {ct : Nat → Addr} {W : WX} {X : Cx} {tg iter elt : Expr} {ifs : List Expr} {scope : Scope} {own : List (Str × Nat)} {pos spos py : Pos} {mi : M (List D)} {mt : M Bool} {me : M D} {g : TG} {is : List Nat} {f : D → R (List D)}
theorem vts_nil : VTs ct W X [] mYes := PTs.conv pts_nil fun σ H Q ⟨δ, G, r, q⟩ => q true G H Ext.refl r rfl
theorem vts_one {c : Expr} (h : VT ct W X c mt) : VTs ct W X [c] mt := pts_one h
theorem vn_lc (hc : X.calm = true) (hN : X.N.Nodup) (tk : TgOk X.K g is f) (hi : VI ct W X tg iter mi) (ok : BlkOk X.N X.env.scope scope own) (hsub : ∀ i ∈ is, i ∈ own.map (·.2))
    (hg : ∀ (s : Shared) (H : Hp) (C : Addr) (cl : List (Str × Addr)) (fp : List Addr), PG (X.blk s H scope (compEnvC scope cl C X.env) fp) tg g)
    (ht : ∀ (s : Shared) (H : Hp) (C : Addr) (cl : List (Str × Addr)) (fp : List Addr), VTs ct W0 (X.blk s H scope (compEnvC scope cl C X.env) fp) ifs mt)
    (he : ∀ (s : Shared) (H : Hp) (C : Addr) (cl : List (Str × Addr)) (fp : List Addr), VE ct W0 (X.blk s H scope (compEnvC scope cl C X.env) fp) elt me) (hs : ∀ x, foldedSetIterable iter X.env x = pure x := by intro _; rfl) :
    VN ct W X (.ListComp elt [⟨tg, iter, ifs, 0⟩] scope pos) (mComp (own.map (·.2)) is f mi mt me) :=
  PE.conv (pe_lc hc hN hi ok hg ht he hs) fun σ H Q h => comp_core X.K (W2 := W) tk hsub h
end
inductive Fl where
  | nx | rt (d : D) | rn (ds : List D) | bk | ct
abbrev MS := M Fl
def PostS (K : PySem.W.Frag) (ct : Nat → Addr) (W : WX) (r : R (Fl × List C)) (δ : List C) (G H : Hp) (σ : L2.St) (D : Ends) : Prop :=
  match r with
  | .ok (.nx, δ') => ∀ σ' G' H', Ext δ G H σ δ' G' H' σ' → Rel K δ' G' σ' H' → D.nx σ' H'
  | .ok (.bk, δ') => ∀ σ' G' H', Ext δ G H σ δ' G' H' σ' → Rel K δ' G' σ' H' → D.bk σ' H'
  | .ok (.ct, δ') => ∀ σ' G' H', Ext δ G H σ δ' G' H' σ' → Rel K δ' G' σ' H' → D.ct σ' H'
  | .ok (.rt d, δ') => ∀ v σ' G' H', Ext δ G H σ δ' G' H' σ' → Rel K δ' G' σ' H' → Rp K G' v d → D.rt v H'
  | .ok (.rn ds, δ') => ∀ p vs σ' G' H', Ext δ G H σ δ' G' H' σ' → Rel K δ' G' σ' H' → H' p = some (.lst vs) → G' p = none → ds.length ≤ sizeLine → RpAll K G' vs ds → (Ow false δ σ p ∨ Fre H p) → ¬ OwA δ' σ' p → D.rt (.ref p) H'
  | .err n xs => ∀ cls dx σ' H', EExt K δ σ H H' → ErrR ct n xs cls dx H' → W cls dx σ' H'
  | .bad => False
def tS (K : PySem.W.Frag) (ct : Nat → Addr) (W : WX) (m : MS) : TS := fun D σ H => ∃ δ G, Rel K δ G σ H ∧ PostS K ct W (m δ) δ G H σ D
abbrev VS (ct : Nat → Addr) (W : WX) (X : Cx) (st : Stmt) (m : MS) : Prop := PS X st (tS X.K ct W m)
abbrev VSs (ct : Nat → Addr) (W : WX) (X : Cx) (st : List Stmt) (m : MS) : Prop := PSs X st (tS X.K ct W m)
section
variable {K : PySem.W.Frag} {ct : Nat → Addr} {W : WX} {δ : List C} {G H : Hp} {σ : L2.St} {De : Ends}
theorem PostS.at {r : R (Fl × List C)} {δ1 : List C} {G1 H1 : Hp} {σ1 : L2.St} (x : Ext δ G H σ δ1 G1 H1 σ1) (h : PostS K ct W r δ G H σ De) : PostS K ct W r δ1 G1 H1 σ1 De := by
  cases r with
  | ok p =>
    obtain ⟨f, δ'⟩ := p
    cases f with
    | nx => exact fun σ' G' H' x' r' => h σ' G' H' (x.trans x') r'
    | bk => exact fun σ' G' H' x' r' => h σ' G' H' (x.trans x') r'
    | ct => exact fun σ' G' H' x' r' => h σ' G' H' (x.trans x') r'
    | rt d => exact fun v σ' G' H' x' r' rp => h v σ' G' H' (x.trans x') r' rp
    | rn ds => exact fun p vs σ' G' H' x' r' a b c d e nw => h p vs σ' G' H' (x.trans x') r' a b c d (by
        rcases e with e | e
        · exact x.own p e
        · exact .inr (x.none_back e)) nw
  | err n xs => exact fun cls dx σ' H' x' e => h cls dx σ' H' (.after x x') e
  | bad => exact h
theorem stepS {α β : Type} {P : Hp → Hp → Hp → List C → L2.St → β → α → Prop} {m : M α} {k : α → MS} {Q1 : β → Hp → Prop} (h : tS K ct W (M.bind m k) De σ H)
    (next : ∀ a δ1 v G1 H1, Rel K δ1 G1 σ H1 → (∃ δ0 G0, Ext δ0 G0 H σ δ1 G1 H1 σ ∧ P H G1 H1 δ1 σ v a) → PostS K ct W (k a δ1) δ1 G1 H1 σ De → Q1 v H1) : tG K ct W P m σ H Q1 := by
  obtain ⟨δ, G, rel, h⟩ := h
  refine ⟨δ, G, rel, ?_⟩
  unfold M.bind at h
  cases e : m δ with
  | ok p =>
    obtain ⟨a, δ1⟩ := p
    rw [e] at h
    exact fun v G1 H1 x r q => next a δ1 v G1 H1 r ⟨δ, G, x, q⟩ (PostS.at x h)
  | err n xs => rw [e] at h; exact h
  | bad => rw [e] at h; exact h
def mSeq (a b : MS) : MS := M.bind a fun f => match f with
  | .nx => b
  | f => M.pure f
theorem seq_core {a b : MS} (h : tS K ct W (mSeq a b) De σ H) : tS K ct W a { De with nx := tS K ct W b De } σ H := by
  obtain ⟨δ, G, rel, h⟩ := h
  refine ⟨δ, G, rel, ?_⟩
  unfold mSeq M.bind at h
  cases e : a δ with
  | ok p =>
    obtain ⟨f, δ1⟩ := p
    rw [e] at h
    cases f with
    | nx => exact fun σ' G' H' x r => ⟨δ1, G', r, PostS.at x h⟩
    | bk => exact h
    | ct => exact h
    | rt d => exact h
    | rn ds => exact h
  | err n xs => rw [e] at h; exact h
  | bad => rw [e] at h; exact h
end
def mNx : MS := M.pure .nx
section
variable {ct : Nat → Addr} {W : WX} {X : Cx} {st : Stmt} {rest : List Stmt} {a b : MS} {e : Expr} {m : M D} {mn : M (List D)} {pos py : Pos} {x : Str} {i : Nat}
theorem vss_nil : VSs ct W X [] mNx := PSs.conv pss_nil fun D σ H ⟨δ, G, r, q⟩ => q σ G H Ext.refl r
theorem vss_cons (h1 : VS ct W X st a) (h2 : VSs ct W X rest b) : VSs ct W X (st :: rest) (mSeq a b) := PSs.conv (pss_cons h1 h2) fun D σ H h => seq_core h
theorem vss_one (h1 : VS ct W X st a) : VSs ct W X [st] a := pss_one h1
def mPut (i : Nat) (d : D) : MS := fun cs => .ok (.nx, cs.set i (.dat d))
def mPutN (i : Nat) (ds : List D) : MS := fun cs => .ok (.nx, cs.set i (.own false ds))
def mSet (i : Nat) (m : M D) : MS := M.bind m fun d => mPut i d
def mSetN (i : Nat) (m : M (List D)) : MS := M.bind m fun ds => mPutN i ds
theorem put_ext {K : PySem.W.Frag} {δ : List C} {G H : Hp} {σ : L2.St} {v : V} {d : D} : Ext δ G H σ (δ.set i (.dat d)) G H (σ.set i (some v)) := Ext.sub fun t b z => set_ow (c := .dat d) (fun _ _ e => nomatch e) z
theorem set_core {K : PySem.W.Frag} {De : Ends} {σ : L2.St} {H : Hp} (h : tS K ct W (mSet i m) De σ H) : tAsg (tG K ct W (PD K) m) (gName i) De σ H :=
  stepS (P := PD K) h fun d δ1 v G1 H1 r1 ⟨_, _, _, p1⟩ h1 => h1 _ G1 H1 (put_ext (K := K)) (r1.set p1)
theorem ownset {K : PySem.W.Frag} {δ : List C} {G H : Hp} {σ : L2.St} {p : Addr} {vs : List V} {ds : List D} (r : Rel K δ G σ H) (h1 : H p = some (.lst vs)) (h2 : G p = none) (h3 : ¬ OwA δ σ p) (h4 : ds.length ≤ sizeLine) (h5 : RpAll K G vs ds) (hi : i < δ.length) :
    Rel K (δ.set i (.own false ds)) G (σ.set i (some (.ref p))) H := by
  have hi' : i < σ.length := by rw [← r.len]; exact hi
  have kp : ∀ {j : Nat} {t : Bool} {es : List D}, (δ.set i (.own false ds))[j]? = some (.own t es) → (j = i ∧ t = false ∧ es = ds) ∨ (j ≠ i ∧ δ[j]? = some (.own t es)) := fun {j t es} h => by
    by_cases q : j = i
    · subst q
      rw [List.getElem?_set_self hi] at h
      cases h
      exact .inl ⟨rfl, rfl, rfl⟩
    · rw [List.getElem?_set_ne (Ne.symm q)] at h
      exact .inr ⟨q, h⟩
  refine ⟨by rw [List.length_set, List.length_set]; exact r.len, r.same, r.nt, fun j e q => ?_, fun j t es q => ?_, fun j k q t u es fs a1 a2 a3 a4 => ?_, r.tabs⟩
  · have z : j ≠ i := fun z => by subst z; rw [List.getElem?_set_self hi] at q; cases q
    rw [List.getElem?_set_ne (Ne.symm z)] at q ⊢
    exact r.dat j e q
  · rcases kp q with ⟨z, z2, z3⟩ | ⟨z, q⟩
    · subst z z2 z3
      exact ⟨p, vs, by rw [List.getElem?_set_self hi'], h1, h2, h4, h5⟩
    · rw [List.getElem?_set_ne (Ne.symm z)]
      exact r.own j t es q
  · rcases kp a1 with ⟨z, _, _⟩ | ⟨z, q1⟩
    · rcases kp a2 with ⟨y, _, _⟩ | ⟨y, q2⟩
      · rw [z, y]
      · subst z
        rw [List.getElem?_set_self hi'] at a3
        rw [List.getElem?_set_ne (Ne.symm y)] at a4
        cases a3
        exact absurd ⟨u, k, fs, q2, a4⟩ h3
    · rcases kp a2 with ⟨y, _, _⟩ | ⟨y, q2⟩
      · subst y
        rw [List.getElem?_set_self hi'] at a4
        rw [List.getElem?_set_ne (Ne.symm z)] at a3
        cases a4
        exact absurd ⟨t, j, es, q1, a3⟩ h3
      · rw [List.getElem?_set_ne (Ne.symm z)] at a3
        rw [List.getElem?_set_ne (Ne.symm y)] at a4
        exact r.inj j k q t u es fs q1 q2 a3 a4
theorem ownset_ext {K : PySem.W.Frag} {δ0 δ : List C} {G0 H0 G H : Hp} {σ : L2.St} {p : Addr} {ds : List D} (x : Ext δ0 G0 H0 σ δ G H σ) (h : Fre H0 p) (hi : i < σ.length) : Ext δ0 G0 H0 σ (δ.set i (.own false ds)) G H (σ.set i (some (.ref p))) := by
  refine ⟨x.keep, x.back, x.same, x.new, fun b ⟨j, es, h1, h2⟩ => ?_, fun b ⟨j, es, h1, h2⟩ => ?_⟩
  · by_cases q : j = i
    · subst q
      rw [List.getElem?_set_self hi] at h2
      cases h2
      exact .inr h
    · rw [List.getElem?_set_ne (Ne.symm q)] at h1 h2
      exact x.own b ⟨j, es, h1, h2⟩
  · by_cases q : j = i
    · subst q
      by_cases hj : j < δ.length
      · rw [List.getElem?_set_self hj] at h1
        cases h1
      · rw [List.getElem?_eq_none (by simpa using hj)] at h1
        cases h1
    · rw [List.getElem?_set_ne (Ne.symm q)] at h1 h2
      exact x.par b ⟨j, es, h1, h2⟩
theorem setN_core {K : PySem.W.Frag} {De : Ends} {σ : L2.St} {H : Hp} (hσ : i < σ.length) (h : tS K ct W (mSetN i mn) De σ H) : tAsg (tG K ct W (PN K) mn) (gName i) De σ H := by
  obtain ⟨δ, G, rel, h⟩ := h
  refine ⟨δ, G, rel, ?_⟩
  unfold mSetN M.bind at h
  cases e : mn δ with
  | ok p =>
    obtain ⟨ds, δ1⟩ := p
    rw [e] at h
    intro v G1 H1 x r ⟨p, vs, e1, e2, e3, e4, e5, e6, e7⟩
    subst e1
    exact h _ G1 H1 (ownset_ext (K := K) x e2 hσ) (ownset r e3 e4 e5 e6 e7 (by rw [r.len]; exact hσ))
  | err n xs => rw [e] at h; exact h
  | bad => rw [e] at h; exact h
theorem vs_set (hN : X.N.Nodup) (hi : X.N[i]? = some x) (hx : Loc X.env.scope x) (he : VE ct W X e m) (hs : swapsWith e (some (.Name x py)) pos.line X.env = pure false := by rfl) (hf : X.fn x = true ∨ X.env.scope.names.lookup x = some .local := by first | exact .inl rfl | exact .inr rfl | assumption) :
    VS ct W X (.Assign [.Name x py] e pos) (mSet i m) := PS.conv (ps_set hN hi hx he hs hf) fun D σ H h => set_core h
theorem PS.convI {X : Cx} {e : Stmt} {t t' : TS} (h : PS X e t) (i : ∀ D σ H, σ.length = X.N.length → t' D σ H → t D σ H) : PS X e t' := ⟨fun pins s σ H D I q => h.run pins s σ H D I (i D σ H I.len q)⟩
theorem vs_setN (hN : X.N.Nodup) (hi : X.N[i]? = some x) (hx : Loc X.env.scope x) (he : VN ct W X e mn) (hs : swapsWith e (some (.Name x py)) pos.line X.env = pure false := by rfl) (hf : X.fn x = true ∨ X.env.scope.names.lookup x = some .local := by first | exact .inl rfl | exact .inr rfl | assumption) :
    VS ct W X (.Assign [.Name x py] e pos) (mSetN i mn) := PS.convI (ps_set hN hi hx he hs hf) fun D σ H hl h => setN_core (by rw [hl]; exact (List.getElem?_eq_some_iff.mp hi).1) h
variable {tg iter elt : Expr} {ifs : List Expr} {scope : Scope} {own : List (Str × Nat)} {mi : M (List D)} {mt : M Bool} {me : M D} {g : TG} {is : List Nat} {f : D → R (List D)} {cpos : Pos}
theorem PS_lc (hc : X.calm = true) (hN : X.N.Nodup) (hy : X.N[i]? = some x) (hyl : X.env.scope.names.lookup x = some .local) (hsw : swapsWith (.ListComp elt [⟨tg, iter, ifs, 0⟩] scope cpos) (some (.Name x py)) pos.line X.env = pure true)
    (tk : TgOk X.K g is f) (hi : VI ct W X tg iter mi) (ok : BlkOk X.N X.env.scope scope own) (hsub : ∀ i ∈ is, i ∈ own.map (·.2))
    (hg : ∀ (s : Shared) (H : Hp) (C : Addr) (cl : List (Str × Addr)) (fp : List Addr), PG (X.blk s H scope (compEnvC scope cl C X.env) fp) tg g)
    (ht : ∀ (s : Shared) (H : Hp) (C : Addr) (cl : List (Str × Addr)) (fp : List Addr), VTs ct W0 (X.blk s H scope (compEnvC scope cl C X.env) fp) ifs mt)
    (he : ∀ (s : Shared) (H : Hp) (C : Addr) (cl : List (Str × Addr)) (fp : List Addr), VE ct W0 (X.blk s H scope (compEnvC scope cl C X.env) fp) elt me) (hs : ∀ x, foldedSetIterable iter X.env x = pure x := by intro _; rfl) :
    PS X (.Assign [.Name x py] (.ListComp elt [⟨tg, iter, ifs, 0⟩] scope cpos) pos) (tAsg (tG X.K ct W (PN X.K) (mComp (own.map (·.2)) is f mi mt me)) (gName i)) :=
  PS.conv (ps_setLc hc hN hy hyl hsw hi ok hg ht he hs) fun D σ H h => comp_core X.K (W2 := W) tk hsub h
theorem ofN_core {K : PySem.W.Frag} {σ : L2.St} {H : Hp} {Q : VK} (h : tG K ct W (PD K) (mOfN mn) σ H Q) : tG K ct W (PN K) mn σ H Q := by
  obtain ⟨δ, G, r, q⟩ := h
  refine ⟨δ, G, r, ?_⟩
  unfold mOfN M.bind at q
  cases e1 : mn δ with
  | ok p =>
    obtain ⟨d, δ'⟩ := p
    rw [e1] at q
    intro v G' H' x r' ⟨p, vs, h0, h1, h2, h3, h4, h5, h6⟩
    subst h0
    obtain ⟨x', r2, rp⟩ := fresh_rel x r' h1 h2 h3 h4 h5 h6
    exact q _ _ _ x' r2 rp
  | err n xs => rw [e1] at q; exact q
  | bad => rw [e1] at q; exact q.elim
theorem vs_setLc (hN : X.N.Nodup) (hi : X.N[i]? = some x) (h : PS X (.Assign [.Name x py] e pos) (tAsg (tG X.K ct W (PN X.K) mn) (gName i))) : VS ct W X (.Assign [.Name x py] e pos) (mSet i (mOfN mn)) :=
  PS.conv h fun D σ H h => ofN_core (set_core h)
theorem vs_setLcN (hN : X.N.Nodup) (hi : X.N[i]? = some x) (h : PS X (.Assign [.Name x py] e pos) (tAsg (tG X.K ct W (PN X.K) mn) (gName i))) : VS ct W X (.Assign [.Name x py] e pos) (mSetN i mn) :=
  PS.convI h fun D σ H hl h => setN_core (by rw [hl]; exact (List.getElem?_eq_some_iff.mp hi).1) h
def mIfS (t : M Bool) (a b : MS) : MS := M.bind t fun k => if k then a else b
theorem vs_if {c : Expr} {sa sb : List Stmt} (hc : VT ct W X c mt) (ha : VSs ct W X sa a) (hb : VSs ct W X sb b) : VS ct W X (.If c sa sb pos) (mIfS mt a b) := PS.conv (ps_if hc ha hb) fun D σ H h => stepS (P := PB) h fun k δ1 v G1 H1 r1 ⟨_, _, _, p1⟩ h1 => by
  obtain rfl : v = k := p1
  cases v with
  | true => rw [if_pos rfl]; exact ⟨δ1, G1, r1, h1⟩
  | false => rw [if_neg Bool.false_ne_true]; exact ⟨δ1, G1, r1, h1⟩
def mRet (m : M D) : MS := M.bind m fun d => M.pure (.rt d)
def mRetN (m : M (List D)) : MS := M.bind m fun d => M.pure (.rn d)
def mRetO (i : Nat) : MS := fun cs => match cs[i]? with
  | some (.own false ds) => .ok (.rn ds, cs.set i .un)
  | _ => .bad
theorem vs_ret (he : VE ct W X e m) : VS ct W X (.Return (some e) pos) (mRet m) := PS.conv (ps_ret he) fun D σ H h => stepS (P := PD X.K) h fun d δ1 v G1 H1 r1 ⟨_, _, _, p1⟩ h1 => h1 v σ G1 H1 Ext.refl r1 p1
theorem vs_retN (he : VN ct W X e mn) : VS ct W X (.Return (some e) pos) (mRetN mn) := PS.conv (ps_ret he) fun D σ H ⟨δ, G, rel, h⟩ => ⟨δ, G, rel, by
  unfold mRetN M.bind at h
  cases e : mn δ with
  | ok p =>
    obtain ⟨ds, δ1⟩ := p
    rw [e] at h
    intro v G1 H1 x r ⟨p, vs, e1, e2, e3, e4, e5, e6, e7⟩
    subst e1
    exact h p vs σ G1 H1 x r e3 e4 e6 e7 (.inr e2) e5
  | err n xs => rw [e] at h; exact h
  | bad => rw [e] at h; exact h⟩
theorem vs_retO (h : PE X (.Name x py) (tVar i)) : VS ct W X (.Return (some (.Name x py)) pos) (mRetO i) := PS.conv (ps_ret h) fun D σ H ⟨δ, G, r, h⟩ => by
  unfold mRetO at h
  cases e1 : δ[i]? with
  | none => rw [e1] at h; exact h.elim
  | some c =>
    rw [e1] at h
    cases c with
    | un => exact h.elim
    | dat d => exact h.elim
    | own t ds =>
      cases t with
      | true => exact h.elim
      | false =>
        obtain ⟨p, vs, h1, h2, h3, h4, h5⟩ := r.own i false ds e1
        have kp : ∀ {j : Nat} {t : Bool} {es : List TW.D}, (δ.set i .un)[j]? = some (.own t es) → j ≠ i ∧ δ[j]? = some (.own t es) := fun h => set_keep (c := .un) (fun _ _ e => nomatch e) h
        have ru : Rel X.K (δ.set i .un) G σ H := by
          have := r.unset (i := i) (x := some (.ref p))
          rwa [show σ.set i (some (.ref p)) = σ from by
            obtain ⟨hi, e⟩ := List.getElem?_eq_some_iff.mp h1
            rw [← e]; exact List.set_getElem_self hi] at this
        have ow : ∀ t b, Ow t (δ.set i .un) σ b → Ow t δ σ b := fun t b ⟨j, es, a1, a2⟩ => ⟨j, es, (kp a1).2, a2⟩
        refine ⟨.ref p, h1, h p vs σ G H (Ext.sub ow) ru h2 h3 h4 h5 (.inl ⟨i, ds, e1, h1⟩) fun ⟨t, j, es, a1, a2⟩ => ?_⟩
        obtain ⟨q1, q2⟩ := kp a1
        exact q1 (r.inj j i p t false es ds q2 e1 a2 h1)
def mDrop (m : M D) : MS := M.bind m fun _ => mNx
theorem vs_expr (he : VE ct W X e m) (hs : swapsWith e none pos.line X.env = pure false := by rfl) : VS ct W X (.Expr e pos) (mDrop m) := PS.conv (ps_expr he hs) fun D σ H h => stepS (P := PD X.K) h fun d δ1 v G1 H1 r1 _ h1 => h1 σ G1 H1 Ext.refl r1
theorem own_upd {K : PySem.W.Frag} {δ : List C} {G H : Hp} {σ : L2.St} {p : Addr} {vs ws : List V} {ds es : List D} {t : Bool} (r : Rel K δ G σ H) (h1 : δ[i]? = some (.own t ds)) (h2 : σ[i]? = some (some (.ref p))) (h3 : H p = some (.lst vs)) (h4 : G p = none) (h5 : es.length ≤ sizeLine) (h6 : RpAll K G ws es) :
    Ext δ G H σ (δ.set i (.own t es)) G (upd H p (.lst ws)) σ ∧ Rel K (δ.set i (.own t es)) G σ (upd H p (.lst ws)) := by
  have hi : i < δ.length := (List.getElem?_eq_some_iff.mp h1).1
  have kp : ∀ {j : Nat} {u : Bool} {fs : List D}, (δ.set i (.own t es))[j]? = some (.own u fs) → (j = i ∧ u = t ∧ fs = es) ∨ (j ≠ i ∧ δ[j]? = some (.own u fs)) := fun {j u fs} h => by
    by_cases q : j = i
    · subst q
      rw [List.getElem?_set_self hi] at h
      cases h
      exact .inl ⟨rfl, rfl, rfl⟩
    · rw [List.getElem?_set_ne (Ne.symm q)] at h
      exact .inr ⟨q, h⟩
  have ow : ∀ u b, Ow u (δ.set i (.own t es)) σ b → Ow u δ σ b := fun u b ⟨j, fs, a1, a2⟩ => by
    rcases kp a1 with ⟨z, z2, z3⟩ | ⟨z, q⟩
    · subst z z2 z3
      exact ⟨j, ds, h1, a2⟩
    · exact ⟨j, fs, q, a2⟩
  have np : ∀ b o, G b = some o → b ≠ p := fun b o h e => by subst e; rw [h4] at h; cases h
  refine ⟨⟨fun b o h _ nb => ?_, fun b h => ?_, Same.refl _, fun _ _ h => .inl h, fun b z => .inl (ow _ b z), fun b z => ow _ b z⟩, ⟨by rw [List.length_set]; exact r.len, fun b o h => ?_, r.nt, fun j e q => ?_, fun j u fs q => ?_, fun j k q u v fs gs a1 a2 a3 a4 => ?_, tabs_lst h3 _ r.tabs⟩⟩
  · have : b ≠ p := fun e => nb ⟨t, i, ds, h1, e ▸ h2⟩
    rw [upd_ne this]; exact h
  · by_cases q : b = p
    · subst q; exact h.not upd_same
    · exact fun o e => h o (by rw [upd_ne q]; exact e)
  · rw [upd_ne (np b o h)]; exact r.same b o h
  · have z : j ≠ i := fun z => by subst z; rw [List.getElem?_set_self hi] at q; cases q
    rw [List.getElem?_set_ne (Ne.symm z)] at q
    exact r.dat j e q
  · rcases kp q with ⟨z, z2, z3⟩ | ⟨z, q⟩
    · subst z z2 z3
      exact ⟨p, ws, h2, upd_same, h4, h5, h6⟩
    · obtain ⟨p', xs, b1, b2, b3, b4, b5⟩ := r.own j u fs q
      have n : p' ≠ p := fun e => z (r.inj j i p u t fs ds q h1 (e ▸ b1) h2)
      exact ⟨p', xs, b1, by rw [upd_ne n]; exact b2, b3, b4, b5⟩
  · have f1 : ∃ es', δ[j]? = some (.own u es') := by
      rcases kp a1 with ⟨z, z2, _⟩ | ⟨_, q⟩
      · subst z z2; exact ⟨_, h1⟩
      · exact ⟨_, q⟩
    have f2 : ∃ es', δ[k]? = some (.own v es') := by
      rcases kp a2 with ⟨z, z2, _⟩ | ⟨_, q⟩
      · subst z z2; exact ⟨_, h1⟩
      · exact ⟨_, q⟩
    obtain ⟨e1, f1⟩ := f1
    obtain ⟨e2, f2⟩ := f2
    exact r.inj j k q u v e1 e2 f1 f2 a3 a4
end
end TW
set_option Elab.async false
set_option linter.all false
set_option maxRecDepth 100000
namespace TW
open PySem PySem.Spec PyProof.Rows L2
def isOwn (cs : List C) (i : Nat) : Bool := match cs[i]? with
  | some (.own _ _) => true
  | _ => false
def ownPut (i : Nat) (g : List D → R (List D)) : M Unit := fun cs => match cs[i]? with
  | some (.own t ds) => match g ds with
    | .ok es => if szOk es.length then .ok ((), cs.set i (.own t es)) else .bad
    | _ => .bad
  | _ => .bad
def gApp (d : D) (ds : List D) : R (List D) := .ok (ds ++ [d])
def gExt : D → List D → R (List D)
  | .list es, ds => .ok (ds ++ es)
  | _, _ => .bad
def mOn (i : Nat) (m : M D) (g : D → List D → R (List D)) : MS := fun cs => if isOwn cs i then (M.bind m fun d => M.bind (ownPut i (g d)) fun _ => mNx) cs else .bad
section
variable {K : PySem.W.Frag} {ct : Nat → Addr} {W : WX} {X : Cx} {δ : List C} {G H : Hp} {σ : L2.St} {i : Nat} {o e k : Expr} {m mk : M D} {x : Str} {pos py cpos apos : Pos} {De : Ends}
theorem isOwn_at {cs : List C} (h : isOwn cs i = true) : ∃ t ds, cs[i]? = some (.own t ds) := by
  unfold isOwn at h
  split at h
  · exact ⟨_, _, by assumption⟩
  · cases h
theorem ownPut_at {cs cs' : List C} {g : List D → R (List D)} {u : Unit} (h : ownPut i g cs = .ok (u, cs')) : ∃ t ds es, cs[i]? = some (.own t ds) ∧ g ds = .ok es ∧ szOk es.length = true ∧ cs' = cs.set i (.own t es) := by
  unfold ownPut at h
  split at h
  · split at h
    · split at h
      · cases h
        exact ⟨_, _, _, by assumption, by assumption, by assumption, rfl⟩
      · cases h
    · cases h
  · cases h
theorem ownPut_err {cs : List C} {g : List D → R (List D)} {n : Nat} {xs : List D} : ownPut i g cs ≠ .err n xs := fun h => by
  unfold ownPut at h
  split at h
  · split at h
    · split at h <;> cases h
    · cases h
  · cases h
theorem on_core {g : D → List D → R (List D)} {r : V → List V → Hp → VK → Prop} (h : tS K ct W (mOn i m g) De σ H)
    (hr : ∀ (G1 H1 : Hp) (p : Addr) (vs : List V) (ds es : List D) (v : V) (d : D) (Q : VK), Same G1 H1 → H1 p = some (.lst vs) → G1 p = none → RpAll K G1 vs ds → ds.length ≤ sizeLine → Rp K G1 v d → g d ds = .ok es → es.length ≤ sizeLine → (∀ ws, RpAll K G1 ws es → Q .non (upd H1 p (.lst ws))) → r (.ref p) [v] H1 Q) :
    tDrop (tBM K "list" r (tVar i) (tCons (tG K ct W (PD K) m) tNil)) De σ H := by
  obtain ⟨δ, G, rel, h⟩ := h
  unfold mOn at h
  cases ho : isOwn δ i with
  | false => rw [ho] at h; exact h.elim
  | true =>
    rw [ho, if_pos rfl] at h
    obtain ⟨t0, ds0, e0⟩ := isOwn_at ho
    obtain ⟨p, vs0, a1, a2, a3, a4, a5⟩ := rel.own i t0 ds0 e0
    refine ⟨.ref p, a1, .inl ⟨rfl, vs0, SqL.of a2⟩, ?_⟩
    refine stepS (P := PD K) (m := m) (k := fun d => M.bind (ownPut i (g d)) fun _ => mNx) ⟨δ, G, rel, h⟩ fun d δ1 v G1 H1 r1 ⟨_, _, _, p1⟩ h1 => ?_
    unfold M.bind at h1
    cases eo : ownPut i (g d) δ1 with
    | bad => rw [eo] at h1; exact h1.elim
    | err n xs => exact absurd eo ownPut_err
    | ok pr =>
      obtain ⟨u, δ2⟩ := pr
      rw [eo] at h1
      obtain ⟨t1, ds1, es, e1, e2, e3, e4⟩ := ownPut_at eo
      subst e4
      obtain ⟨p1', vs, b1, b2, b3, b4, b5⟩ := r1.own i t1 ds1 e1
      rw [a1] at b1
      cases b1
      exact hr G1 H1 p vs ds1 es v d _ r1.same b2 b3 b5 b4 p1 e2 (szOk_le e3) fun ws hw => by
        obtain ⟨x', r'⟩ := own_upd r1 e1 a1 b2 b3 (szOk_le e3) hw
        exact h1 σ G1 _ x' r'
theorem vs_append (ho : PE X o (tVar i)) (he : VE ct W X e m) (hs : starEach [e] X.env = (false, eval e X.env) :: starEach [] X.env := by rfl)
    (hbase : attributeBase o "append" X.env (eval o X.env) = eval o X.env := by rfl)
    (hfew : ((backTo cpos (starEach [e] X.env)).all (fun x => !x.1) && (backToKw cpos (keywordEach [] X.env)).all (fun x => x.1.isSome) && decide (([e] : List Expr).length + ([] : List Keyword).length + (if ([] : List Keyword).isEmpty then 0 else 1) < 30)) = true := by rfl)
    (hline : (apos.endLine == cpos.line) = true := by rfl) (hsw : swapsWith (.Call (.Attribute o "append" apos) [e] [] cpos) none pos.line X.env = pure false := by rfl) :
    VS ct W X (.Expr (.Call (.Attribute o "append" apos) [e] [] cpos) pos) (mOn i m gApp) :=
  PS.conv (ps_expr (pe_bm PySem.F.plainAttrs_list PySem.F.slot_list_append PySem.F.type_list_append mt_append ho (pa_cons he pa_nil hs) hbase hfew hline hs) hsw) fun D σ H h => on_core h
    fun G1 H1 p vs ds es v d Q s hp hG ha hl rv eg hz q => by
      cases eg
      rw [List.length_append] at hz
      exact ⟨p, vs, v, rfl, rfl, hp, by rw [RpAll.length ha]; exact hz, q _ (ha.append (.cons rv .nil))⟩
theorem vs_extend (ho : PE X o (tVar i)) (he : VE ct W X e m) (hs : starEach [e] X.env = (false, eval e X.env) :: starEach [] X.env := by rfl)
    (hbase : attributeBase o "extend" X.env (eval o X.env) = eval o X.env := by rfl)
    (hfew : ((backTo cpos (starEach [e] X.env)).all (fun x => !x.1) && (backToKw cpos (keywordEach [] X.env)).all (fun x => x.1.isSome) && decide (([e] : List Expr).length + ([] : List Keyword).length + (if ([] : List Keyword).isEmpty then 0 else 1) < 30)) = true := by rfl)
    (hline : (apos.endLine == cpos.line) = true := by rfl) (hsw : swapsWith (.Call (.Attribute o "extend" apos) [e] [] cpos) none pos.line X.env = pure false := by rfl) :
    VS ct W X (.Expr (.Call (.Attribute o "extend" apos) [e] [] cpos) pos) (mOn i m gExt) :=
  PS.conv (ps_expr (pe_bm PySem.F.plainAttrs_list PySem.F.slot_list_extend PySem.F.type_list_extend mt_extend ho (pa_cons he pa_nil hs) hbase hfew hline hs) hsw) fun D σ H h => on_core h
    fun G1 H1 p vs ds es v d Q s hp hG ha hl rv eg hz q => by
      unfold gExt at eg
      split at eg
      · cases eg
        rename_i es' 
        obtain ⟨b, xs, e1, k1, k2, k3⟩ := Rp.ofLst rv
        subst e1
        rw [List.length_append] at hz
        have l1 := RpAll.length ha
        have l2 := RpAll.length k3
        exact ⟨p, b, vs, xs, rfl, rfl, hp, s _ _ k1, by omega, q _ (ha.append k3)⟩
      · cases eg
def gPut (k d : D) (ds : List D) : R (List D) := match k with
  | .int j => match ixN ds.length j with
    | some n => .ok (ds.set n d)
    | none => .bad
  | _ => .bad
def popAt (i : Nat) (d : D) : M D := fun cs => match d, cs[i]? with
  | .int k, some (.own t ds) => if decide (-4611686018427387904 ≤ k ∧ k < 4611686018427387904) then (match seqIndex? k ds.length with
    | some j => match ds[j]? with
      | some z => .ok (z, cs.set i (.own t (ds.eraseIdx j)))
      | none => .bad
    | none => .bad) else .bad
  | _, _ => .bad
def mPop (i : Nat) (m : M D) : M D := fun cs => if isOwn cs i then (M.bind m fun d => popAt i d) cs else .bad
def mSetIx (i : Nat) (mk m : M D) : MS := M.bind m fun d => fun cs => if isOwn cs i then (M.bind mk fun k => M.bind (ownPut i (gPut k d)) fun _ => mNx) cs else .bad
def mUnp (is : List Nat) (f : D → R (List D)) (m : M D) : MS := M.bind m fun d => fun cs => match f d with
  | .ok ds => .ok (.nx, setC cs is ds)
  | _ => .bad
end
def forGo (is : List Nat) (f : D → R (List D)) (body : MS) : List D → MS
  | [], cs => .ok (.nx, cs)
  | x :: xs, cs => match f x with
    | .ok ds => match body (setC cs is ds) with
      | .ok (.nx, c1) => forGo is f body xs c1
      | .ok (.ct, c1) => forGo is f body xs c1
      | .ok (.bk, c1) => .ok (.nx, c1)
      | r => r
    | _ => .bad
def mFor (is : List Nat) (f : D → R (List D)) (mi : M (List D)) (body : MS) : MS := M.bind mi fun ds => forGo is f body ds
section
variable {K : PySem.W.Frag} {ct : Nat → Addr} {W : WX} {X : Cx} {δ : List C} {G H : Hp} {σ : L2.St} {De : Ends} {is : List Nat} {f : D → R (List D)} {body : MS} {mi : M (List D)} {g : TG} {tb : TS}
theorem for_core (tk : TgOk K g is f) (h : tS K ct W (mFor is f mi body) De σ H) : tFor (tG K ct W (PIt K) mi) g (tS K ct W body) De σ H :=
  stepS (P := PIt K) h fun ds δ1 J G1 H1 r1 ⟨_, _, _, wk⟩ h1 => by
    have wk : Walks K G1 J ds := wk
    refine ⟨fun i m σ' H' => i + m = ds.length ∧ ∃ δi Gi, Rel K δi Gi σ' H' ∧ Same G1 Gi ∧ PostS K ct W (forGo is f body (ds.drop i) δi) δi Gi H' σ' De, ⟨ds.length, by omega, δ1, G1, r1, Same.refl _, by rw [List.drop_zero]; exact h1⟩, fun i m σ2 H2 ⟨eim, δi, Gi, ri, si, hi⟩ => ?_⟩
    by_cases hlt : i < ds.length
    · obtain ⟨hgo, hy⟩ := wk.go i ds[i] Gi H2 (List.getElem?_eq_getElem hlt) si ri.same ri.nt
      refine .inr ⟨hgo, fun σ' H' => (i + 1) + (m - 1) = ds.length ∧ ∃ δi Gi, Rel K δi Gi σ' H' ∧ Same G1 Gi ∧ PostS K ct W (forGo is f body (ds.drop (i + 1)) δi) δi Gi H' σ' De, fun σ' H' hN => ⟨m - 1, by omega, hN⟩, fun x H3 y => ?_⟩
      obtain ⟨G3, gr, rx⟩ := hy x H3 y
      have x3 := gr.ext (δ := δi) (σ := σ2)
      have r3 := gr.rel ri
      have hi := PostS.at x3 hi
      rw [drop_at hlt] at hi
      unfold forGo at hi
      split at hi
      · rename_i es ef
        refine tk.run δi σ2 G3 H3 x ds[i] es _ r3 rx ef fun ws hws => ?_
        have r4 := r3.setA (is := is) hws
        have x4 : Ext δi G3 H3 σ2 (setC δi is es) G3 H3 (setA σ2 is ws) := Ext.sub fun t b z => setA_ow hws z
        have hi := PostS.at x4 hi
        refine ⟨_, _, r4, ?_⟩
        split at hi
        · rename_i c1 eb
          rw [eb]
          exact fun σ5 G5 H5 x5 r5 => ⟨by omega, c1, G5, r5, si.trans (gr.same.trans x5.same), PostS.at x5 hi⟩
        · rename_i c1 eb
          rw [eb]
          exact fun σ5 G5 H5 x5 r5 => ⟨by omega, c1, G5, r5, si.trans (gr.same.trans x5.same), PostS.at x5 hi⟩
        · rename_i c1 eb
          rw [eb]
          exact fun σ5 G5 H5 x5 r5 => hi σ5 G5 H5 x5 r5
        · rename_i n1 n2 n3
          cases eb : body (setC δi is es) with
          | bad => rw [eb] at hi; exact hi.elim
          | err n xs => rw [eb] at hi; exact hi
          | ok p =>
            obtain ⟨fl, c1⟩ := p
            rw [eb] at hi
            cases fl with
            | nx => exact absurd eb (n1 c1)
            | ct => exact absurd eb (n2 c1)
            | bk => exact absurd eb (n3 c1)
            | rt d => exact hi
            | rn d => exact hi
      · exact hi.elim
    · refine .inl ⟨wk.stop i Gi H2 (by omega) si ri.same, ?_⟩
      have e1 : ds.drop i = [] := List.drop_eq_nil_of_le (by omega)
      rw [e1] at hi
      exact hi σ2 Gi H2 Ext.refl ri
theorem vs_for {tg iter : Expr} {sb : List Stmt} {pos : Pos} (hp : PassesOwn (model X.prog X.w) X.A X.env X.xe) (hc : X.calm = true) (tk : TgOk X.K g is f) (hi : VI ct W X tg iter mi) (hg : PG X tg g) (hb : VSs ct W X sb body)
    (hs : ∀ x, foldedSetIterable iter X.env x = pure x := by intro _; rfl) : VS ct W X (.For tg iter sb [] pos) (mFor is f mi body) := PS.conv (ps_for hp hc hi hg hb hs) fun D σ H h => for_core tk h
def whileGo (t : M Bool) (body : MS) : Nat → MS
  | 0, _ => .bad
  | n + 1, cs => match t cs with
    | .ok (true, c0) => match body c0 with
      | .ok (.nx, c1) => whileGo t body n c1
      | .ok (.ct, c1) => whileGo t body n c1
      | .ok (.bk, c1) => .ok (.nx, c1)
      | r => r
    | .ok (false, c0) => .ok (.nx, c0)
    | .err n xs => .err n xs
    | .bad => .bad
variable {t : M Bool} {fuel : Nat}
theorem while_core (h : tS K ct W (whileGo t body fuel) De σ H) : tWhile (tG K ct W PB t) (tS K ct W body) De σ H := by
  refine ⟨fun m σ' H' => tS K ct W (whileGo t body m) De σ' H', ⟨fuel, h⟩, fun m σ2 H2 ⟨δi, Gi, ri, hi⟩ => ?_⟩
  cases m with
  | zero => exact hi.elim
  | succ m =>
    unfold whileGo at hi
    refine ⟨δi, Gi, ri, ?_⟩
    split at hi
    · rename_i c0 et
      rw [et]
      intro b G3 H3 x3 r3 eb
      obtain rfl : b = true := eb
      rw [if_pos rfl]
      have hi := PostS.at x3 hi
      refine ⟨fun σ' H' => tS K ct W (whileGo t body m) De σ' H', fun σ' H' hN => ⟨m, Nat.lt_succ_self m, hN⟩, c0, G3, r3, ?_⟩
      split at hi
      · rename_i c1 eb
        rw [eb]
        exact fun σ5 G5 H5 x5 r5 => ⟨c1, G5, r5, PostS.at x5 hi⟩
      · rename_i c1 eb
        rw [eb]
        exact fun σ5 G5 H5 x5 r5 => ⟨c1, G5, r5, PostS.at x5 hi⟩
      · rename_i c1 eb
        rw [eb]
        exact fun σ5 G5 H5 x5 r5 => hi σ5 G5 H5 x5 r5
      · rename_i n1 n2 n3
        cases eb : body c0 with
        | bad => rw [eb] at hi; exact hi.elim
        | err n xs => rw [eb] at hi; exact hi
        | ok p =>
          obtain ⟨fl, c1⟩ := p
          rw [eb] at hi
          cases fl with
          | nx => exact absurd eb (n1 c1)
          | ct => exact absurd eb (n2 c1)
          | bk => exact absurd eb (n3 c1)
          | rt d => exact hi
          | rn d => exact hi
    · rename_i c0 et
      rw [et]
      intro b G3 H3 x3 r3 eb
      obtain rfl : b = false := eb
      rw [if_neg Bool.false_ne_true]
      exact hi σ2 G3 H3 x3 r3
    · rename_i n xs et
      rw [et]
      exact hi
    · exact hi.elim
theorem vs_while {c : Expr} {sb : List Stmt} {pos : Pos} (n : Nat) (hp : PassesOwn (model X.prog X.w) X.A X.env X.xe) (hc : VT ct W X c t) (hb : VSs ct W X sb body) : VS ct W X (.While c sb [] pos) (whileGo t body n) := PS.conv (ps_while hp hc hb) fun D σ H h => while_core h
end
end TW
set_option Elab.async false
set_option linter.all false
set_option maxRecDepth 100000
namespace TW
open PySem PySem.Spec PyProof.Rows L2
def unfill (n : Nat) (cs : List C) : List C := cs ++ List.replicate (n - cs.length) .un
def fnD (n : Nat) (body : MS) : List D → R D := fun ds => match body (unfill n (ds.map .dat)) with
  | .ok (.rt d, _) => .ok d
  | .ok (.rn es, _) => .ok (.list es)
  | .ok (.nx, _) => .ok .none
  | .err c xs => .err c xs
  | _ => .bad
def fnN (n : Nat) (body : MS) : List D → R (List D) := fun ds => match body (unfill n (ds.map .dat)) with
  | .ok (.rn es, _) => .ok es
  | .err c xs => .err c xs
  | _ => .bad
def fnS (n : Nat) (body : MS) : List D → List D → R (D × List D) := fun ss ds => match body (unfill n (.own true ss :: ds.map .dat)) with
  | .ok (.rt d, cs) => match (List.head? cs : Option C) with
    | some (C.own true ss') => .ok (d, ss')
    | _ => .bad
  | .ok (.rn es, cs) => match (List.head? cs : Option C) with
    | some (C.own true ss') => .ok (.list es, ss')
    | _ => .bad
  | _ => .bad
structure Fz (K : PySem.W.Frag) (G H : Hp) : Prop where
  same : Same G H
  nt : ∀ b o, G b = some o → NT o
  tabs : LamX.Tabs (lamT K) H
def ErrOk (K : PySem.W.Frag) (ct : Nat → Addr) (H : Hp) (n : Nat) (xs : List D) (E : XK) : Prop := ∀ cls dx H', EExt K [] [] H H' → ErrR ct n xs cls dx H' → E cls dx H'
def spD (K : PySem.W.Frag) (ct : Nat → Addr) (n : Nat) (F : List D → R D) : Sp := fun vs H Q E => ∃ ds G, ds.length = n ∧ Fz K G H ∧ RpAll K G vs ds ∧ match F ds with
  | .ok d => ∀ v G' H', Ext [] G H [] [] G' H' [] → Fz K G' H' → Rp K G' v d → Q v H'
  | .err c xs => ErrOk K ct H c xs E
  | .bad => False
def spN (K : PySem.W.Frag) (ct : Nat → Addr) (n : Nat) (F : List D → R (List D)) : Sp := fun vs H Q E => ∃ ds G, ds.length = n ∧ Fz K G H ∧ RpAll K G vs ds ∧ match F ds with
  | .ok es => ∀ p ws G' H', Ext [] G H [] [] G' H' [] → Fz K G' H' → Fre H p → H' p = some (.lst ws) → G' p = none → es.length ≤ sizeLine → RpAll K G' ws es → Q (.ref p) H'
  | .err c xs => ErrOk K ct H c xs E
  | .bad => False
section
variable {K : PySem.W.Frag} {G H : Hp}
theorem fill_len {n : Nat} {cs : List C} (h : cs.length ≤ n) : (unfill n cs).length = n := by
  unfold unfill
  rw [List.length_append, List.length_replicate]
  omega
theorem start_len {N : List Str} {vs : List V} (h : vs.length ≤ N.length) : (L2.start N vs).length = N.length := by
  unfold L2.start
  rw [List.length_append, List.length_map, List.length_replicate]
  omega
theorem start_at {N : List Str} {vs : List V} {i : Nat} {v : V} (h : vs[i]? = some v) : (L2.start N vs)[i]? = some (some v) := by
  unfold L2.start
  have hi := (List.getElem?_eq_some_iff.mp h).1
  rw [List.getElem?_append_left (by simpa using hi), List.getElem?_map, h]
  rfl
theorem fill_at {n : Nat} {cs : List C} {i : Nat} {c : C} (h : (unfill n cs)[i]? = some c) (hc : c ≠ .un) : cs[i]? = some c := by
  unfold unfill at h
  by_cases hi : i < cs.length
  · rwa [List.getElem?_append_left hi] at h
  · rw [List.getElem?_append_right (by omega), List.getElem?_replicate] at h
    split at h
    · exact absurd (Option.some.inj h).symm hc
    · cases h
theorem rel_start {N : List Str} {vs : List V} {ds : List D} (fz : Fz K G H) (ha : RpAll K G vs ds) (hl : vs.length ≤ N.length) : Rel K (unfill N.length (ds.map .dat)) G (L2.start N vs) H := by
  have hlen := RpAll.length ha
  have nown : ∀ {i : Nat} {t : Bool} {es : List D}, (unfill N.length (ds.map .dat))[i]? = some (.own t es) → False := fun {i t es} h => by
    have := fill_at h (fun z => nomatch z)
    rw [List.getElem?_map] at this
    cases q : ds[i]? with
    | none => rw [q] at this; cases this
    | some d => rw [q] at this; cases this
  refine ⟨by rw [fill_len (by rw [List.length_map]; omega), start_len hl], fz.same, fz.nt, fun i d h => ?_, fun i t es h => (nown h).elim, fun i j p t u es fs h => (nown h).elim, fz.tabs⟩
  have := fill_at h (fun z => nomatch z)
  rw [List.getElem?_map] at this
  cases q : ds[i]? with
  | none => rw [q] at this; cases this
  | some e =>
    rw [q] at this
    cases this
    obtain ⟨v, h1, h2⟩ := ha.get q
    exact ⟨v, start_at h1, h2⟩
theorem no_ow {N : List Str} {vs : List V} {ds : List D} {n : Nat} {σ : L2.St} {t : Bool} {b : Addr} : ¬ Ow t (unfill n (ds.map .dat)) σ b := fun ⟨i, es, h, _⟩ => by
  have := fill_at h (fun z => nomatch z)
  rw [List.getElem?_map] at this
  cases q : ds[i]? with
  | none => rw [q] at this; cases this
  | some d => rw [q] at this; cases this
theorem ext_out {δ δ' : List C} {σ σ' : L2.St} {G' H' : Hp} (h : ∀ t b, ¬ Ow t δ σ b) (x : Ext δ G H σ δ' G' H' σ') : Ext [] G H [] [] G' H' [] :=
  ⟨fun b o e n _ => x.keep b o e n fun ⟨t, z⟩ => h t b z, x.back, x.same, fun b o e => (x.new b o e).imp id fun z => z.elim .inl fun z => absurd z (h false b), fun b ⟨i, es, z, _⟩ => by simp at z, fun b ⟨i, es, z, _⟩ => by simp at z⟩
theorem eext_out {δ : List C} {σ : L2.St} {H' : Hp} (h : ∀ t b, ¬ Ow t δ σ b) (x : EExt K δ σ H H') : EExt K [] [] H H' := ⟨fun b o e n _ => x.keep b o e n fun ⟨t, z⟩ => h t b z, x.back, x.tabs⟩
theorem Ext.in {δ : List C} {σ : L2.St} {G' H' : Hp} (x : Ext [] G H [] [] G' H' []) : Ext δ G H σ δ G' H' σ :=
  ⟨fun b o e n _ => x.keep b o e n fun ⟨t, i, es, z, _⟩ => by simp at z, x.back, x.same, fun b o e => (x.new b o e).imp id fun z => z.elim .inl fun ⟨i, es, z, _⟩ => by simp at z, fun b z => .inl z, fun b z => z⟩
theorem EExt.in {δ : List C} {σ : L2.St} {H' : Hp} (x : EExt K [] [] H H') : EExt K δ σ H H' := ⟨fun b o e n _ => x.keep b o e n fun ⟨t, i, es, z, _⟩ => by simp at z, x.back, x.tabs⟩
theorem rel_in {δ : List C} {σ : L2.St} {G' H' : Hp} (r : Rel K δ G σ H) (x : Ext [] G H [] [] G' H' []) (fz : Fz K G' H') : Rel K δ G' σ H' := by
  refine ⟨r.len, fz.same, fz.nt, fun i d h => ?_, fun i t ds h => ?_, r.inj, fz.tabs⟩
  · obtain ⟨v, h1, h2⟩ := r.dat i d h
    exact ⟨v, h1, h2.mono x.same⟩
  · obtain ⟨p, vs, h1, h2, h3, h4, h5⟩ := r.own i t ds h
    refine ⟨p, vs, h1, x.keep _ _ h2 nt_lst fun ⟨t, i, es, z, _⟩ => by simp at z, ?_, h4, h5.mono x.same⟩
    cases q : G' p with
    | none => rfl
    | some o =>
      rcases x.new p o q with z | z | ⟨i, es, z, _⟩
      · rw [h3] at z; cases z
      · exact z.not h2 (fz.same _ _ q) (x.keep _ _ h2 nt_lst fun ⟨t, i, es, z, _⟩ => by simp at z)
      · simp at z
end
abbrev WE' (E : XK) : WX := fun cls d _ H => E cls d H
section
variable {P : Program} {w : World} {K : PySem.W.Frag} {mg : Str → Option Value} {base : Heap} {ct : Nat → Addr} {x qual : Str} {st : Stmt} {f : Addr} {fd : FuncData} {N ps : List Str} {k n : Nat} {body : MS}
theorem fn_bad {sp : Sp} (h : ∀ vs H Q E, ¬ sp vs H Q E) : FnOk P w K mg base (L2.CX P w) k f fd ps sp := ⟨fun vs H Q E z => absurd z (h vs H Q E), fun A outer s H args us vs Q E _ _ _ _ z => absurd z (h vs H Q E)⟩
theorem fnD_ok (F : Fun K x qual st f fd) (S : FnScope N ps (defScope st)) (hps : ps.length = n) (hn : ps.length ≤ N.length)
    (hb : ∀ (cdv : Value) (A : Around) (outer : List Env) (s : Shared) (H : Hp) (E : XK), Room k (cxOf (L2.CX P w) P w K mg base N qual (defScope st) f cdv A outer s H E).A → Takes (cxOf (L2.CX P w) P w K mg base N qual (defScope st) f cdv A outer s H E) (WE' E) →
      PassesOwn (model P w) (cxOf (L2.CX P w) P w K mg base N qual (defScope st) f cdv A outer s H E).A (cxOf (L2.CX P w) P w K mg base N qual (defScope st) f cdv A outer s H E).env (cxOf (L2.CX P w) P w K mg base N qual (defScope st) f cdv A outer s H E).xe →
      VSs ct (WE' E) (cxOf (L2.CX P w) P w K mg base N qual (defScope st) f cdv A outer s H E) (defBody st) body) : FnOk P w K mg base (L2.CX P w) (k + 1) f fd ps (spD K ct n (fnD N.length body)) := by
  refine F.okX S (fun vs H Q E ⟨ds, G, hl, fz, ha, _⟩ => by rw [RpAll.length ha, hl, hps]) fun cdv A outer s H vs Q E hr ⟨ds, G, hl, fz, ha, hq⟩ => ?_
  refine ⟨_, hb cdv A outer s H E hr (takes_of rfl rfl rfl rfl) (passes_of rfl), unfill N.length (ds.map .dat), G, rel_start fz ha (by rw [RpAll.length ha, hl, ← hps]; exact hn), ?_⟩
  have now : ∀ t b, ¬ Ow t (unfill N.length (ds.map .dat)) (L2.start N vs) b := fun t b => no_ow (N := N) (vs := vs)
  unfold fnD at hq
  cases eb : body (unfill N.length (ds.map .dat)) with
  | bad => rw [eb] at hq; exact hq.elim
  | err c xs =>
    rw [eb] at hq
    exact fun cls dx σ' H' x' e => hq cls dx H' (eext_out now x') e
  | ok pr =>
    obtain ⟨fl, c1⟩ := pr
    rw [eb] at hq
    cases fl with
    | nx => exact fun σ' G' H' x' r' => hq .non G' H' (ext_out now x') ⟨r'.same, r'.nt, r'.tabs⟩ .non
    | bk => exact hq.elim
    | ct => exact hq.elim
    | rt d => exact fun v σ' G' H' x' r' rp => hq v G' H' (ext_out now x') ⟨r'.same, r'.nt, r'.tabs⟩ rp
    | rn es =>
        intro p ws σ' G' H' x' r' h1 h2 h3 h4 h5 h6
        have hp : Fre H p := h5.elim (fun z => absurd z (now false p)) id
        have xo := ext_out now x'
        have sg : Same G' (upd G' p (.lst ws)) := same_upd h2
        refine hq (.ref p) (upd G' p (.lst ws)) H' ⟨xo.keep, xo.back, xo.same.trans sg, fun b o e => ?_, xo.own, xo.par⟩ ⟨fun b o e => ?_, fun b o e => ?_, r'.tabs⟩ (.lst upd_same h3 (h4.mono sg))
        · by_cases q : b = p
          · subst q; exact .inr (.inl (.inl hp))
          · rw [upd_ne q] at e; exact xo.new b o e
        · by_cases q : b = p
          · subst q; rw [upd_same] at e; cases e; exact h1
          · rw [upd_ne q] at e; exact r'.same b o e
        · by_cases q : b = p
          · subst q; rw [upd_same] at e; cases e; exact nt_lst
          · rw [upd_ne q] at e; exact r'.nt b o e
theorem fnN_ok (F : Fun K x qual st f fd) (S : FnScope N ps (defScope st)) (hps : ps.length = n) (hn : ps.length ≤ N.length)
    (hb : ∀ (cdv : Value) (A : Around) (outer : List Env) (s : Shared) (H : Hp) (E : XK), Room k (cxOf (L2.CX P w) P w K mg base N qual (defScope st) f cdv A outer s H E).A → Takes (cxOf (L2.CX P w) P w K mg base N qual (defScope st) f cdv A outer s H E) (WE' E) →
      PassesOwn (model P w) (cxOf (L2.CX P w) P w K mg base N qual (defScope st) f cdv A outer s H E).A (cxOf (L2.CX P w) P w K mg base N qual (defScope st) f cdv A outer s H E).env (cxOf (L2.CX P w) P w K mg base N qual (defScope st) f cdv A outer s H E).xe →
      VSs ct (WE' E) (cxOf (L2.CX P w) P w K mg base N qual (defScope st) f cdv A outer s H E) (defBody st) body) : FnOk P w K mg base (L2.CX P w) (k + 1) f fd ps (spN K ct n (fnN N.length body)) := by
  refine F.okX S (fun vs H Q E ⟨ds, G, hl, fz, ha, _⟩ => by rw [RpAll.length ha, hl, hps]) fun cdv A outer s H vs Q E hr ⟨ds, G, hl, fz, ha, hq⟩ => ?_
  refine ⟨_, hb cdv A outer s H E hr (takes_of rfl rfl rfl rfl) (passes_of rfl), unfill N.length (ds.map .dat), G, rel_start fz ha (by rw [RpAll.length ha, hl, ← hps]; exact hn), ?_⟩
  have now : ∀ t b, ¬ Ow t (unfill N.length (ds.map .dat)) (L2.start N vs) b := fun t b => no_ow (N := N) (vs := vs)
  unfold fnN at hq
  cases eb : body (unfill N.length (ds.map .dat)) with
  | bad => rw [eb] at hq; exact hq.elim
  | err c xs =>
    rw [eb] at hq
    exact fun cls dx σ' H' x' e => hq cls dx H' (eext_out now x') e
  | ok pr =>
    obtain ⟨fl, c1⟩ := pr
    rw [eb] at hq
    cases fl with
    | nx => exact hq.elim
    | bk => exact hq.elim
    | ct => exact hq.elim
    | rt d => exact hq.elim
    | rn es =>
        intro p ws σ' G' H' x' r' h1 h2 h3 h4 h5 h6
        exact hq p ws G' H' (ext_out now x') ⟨r'.same, r'.nt, r'.tabs⟩ (h5.elim (fun z => absurd z (now false p)) id) h1 h2 h3 h4
end
def mCall (n : Nat) (F : List D → R D) (ms : M (List D)) : M D := M.bind ms fun ds => if ds.length = n then M.lift (F ds) else fun _ => .bad
def mCallN (n : Nat) (F : List D → R (List D)) (ms : M (List D)) : M (List D) := M.bind ms fun ds => if ds.length = n then M.lift (F ds) else fun _ => .bad
def stPut (i : Nat) (F : List D → R (D × List D)) : M D := fun cs => match cs[i]? with
  | some (.own t ss) => match F ss with
    | .ok (d, ss') => .ok (d, cs.set i (.own t ss'))
    | _ => .bad
  | _ => .bad
def mCallS (n i : Nat) (F : List D → List D → R (D × List D)) (ms : M (List D)) : M D := fun cs => if isOwn cs i then (M.bind ms fun ds => if ds.length = n then stPut i fun ss => F ss ds else fun _ => .bad) cs else .bad
section
variable {ct : Nat → Addr} {W : WX} {X : Cx} {f : Addr} {fd : FuncData} {ps : List Str} {k n i : Nat} {Fd : List D → R D} {Fn : List D → R (List D)} {Fs : List D → List D → R (D × List D)} {e o : Expr} {es : List Expr} {ms : M (List D)} {x : Str} {p pos : Pos}
abbrev anyW (W : WX) : XK := fun cls d H => ∀ σ, W cls d σ H
theorem passAny (tk : Takes X W) : Passes (L2.CX X.prog X.w) X (anyW W) := passes_call tk fun _ _ σ _ h => h σ
theorem call_core {K : PySem.W.Frag} {σ : L2.St} {H : Hp} {Q : VK} (h : tG K ct W (PD K) (mCall n Fd ms) σ H Q) : tCall (spD K ct n Fd) [] (anyW W) (tG K ct W (PAs K) ms) σ H Q :=
  tG.step h fun ds δ1 vs G1 H1 r1 p1 h1 => by
    have p1 : RpAll K G1 vs ds := p1
    by_cases hl : ds.length = n
    · simp only [hl, if_true] at h1
      rw [List.append_nil]
      refine ⟨ds, G1, hl, ⟨r1.same, r1.nt, r1.tabs⟩, p1, ?_⟩
      cases ef : Fd ds with
      | ok d =>
        simp only [ef, M.lift] at h1
        exact fun v G' H' x fz rp => h1 v G' H' x.in (rel_in r1 x fz) rp
      | err c xs =>
        simp only [ef, M.lift] at h1
        exact fun cls dx H' x e σ' => h1 cls dx σ' H' x.in e
      | bad => simp only [ef, M.lift] at h1; exact h1.elim
    · simp only [hl, if_false] at h1
      exact h1.elim
theorem callN_core {K : PySem.W.Frag} {σ : L2.St} {H : Hp} {Q : VK} (h : tG K ct W (PN K) (mCallN n Fn ms) σ H Q) : tCall (spN K ct n Fn) [] (anyW W) (tG K ct W (PAs K) ms) σ H Q :=
  tG.step h fun ds δ1 vs G1 H1 r1 p1 h1 => by
    have p1 : RpAll K G1 vs ds := p1
    by_cases hl : ds.length = n
    · simp only [hl, if_true] at h1
      rw [List.append_nil]
      refine ⟨ds, G1, hl, ⟨r1.same, r1.nt, r1.tabs⟩, p1, ?_⟩
      cases ef : Fn ds with
      | ok d =>
        simp only [ef, M.lift] at h1
        exact fun p ws G' H' x fz a b c d e => h1 _ G' H' x.in (rel_in r1 x fz) ⟨p, ws, rfl, a, b, c, fresh_notF r1 a, d, e⟩
      | err c xs =>
        simp only [ef, M.lift] at h1
        exact fun cls dx H' x e σ' => h1 cls dx σ' H' x.in e
      | bad => simp only [ef, M.lift] at h1; exact h1.elim
    · simp only [hl, if_false] at h1
      exact h1.elim
theorem ve_call (F : FnOk X.prog X.w X.K X.mg X.base (L2.CX X.prog X.w) k f fd ps (spD X.K ct n Fd)) (hr : Room k X.A) (tk : Takes X W) (hg : Gl X x) (hm : X.mg x = some (.ref f)) (hk : PySem.W.keepIn X.K (.ref f) = true) (hb : Binds X.K fd ps []) (ha : VA ct W X (e :: es) ms)
    (hdb : (x == ("__debug__" : Str)) = false := by decide) (he : starEach (e :: es) X.env = (false, eval e X.env) :: starEach es X.env := by rfl) (hpl : (backTo pos (starEach es X.env)).any (·.1) = false := by rfl) :
    VE ct W X (.Call (.Name x p) (e :: es) [] pos) (mCall n Fd ms) := PE.conv (pe_call F hr hg hm hk hb .nil (passAny tk) ha hdb he hpl) fun _ _ _ h => call_core h
theorem vn_call (F : FnOk X.prog X.w X.K X.mg X.base (L2.CX X.prog X.w) k f fd ps (spN X.K ct n Fn)) (hr : Room k X.A) (tk : Takes X W) (hg : Gl X x) (hm : X.mg x = some (.ref f)) (hk : PySem.W.keepIn X.K (.ref f) = true) (hb : Binds X.K fd ps []) (ha : VA ct W X (e :: es) ms)
    (hdb : (x == ("__debug__" : Str)) = false := by decide) (he : starEach (e :: es) X.env = (false, eval e X.env) :: starEach es X.env := by rfl) (hpl : (backTo pos (starEach es X.env)).any (·.1) = false := by rfl) :
    VN ct W X (.Call (.Name x p) (e :: es) [] pos) (mCallN n Fn ms) := PE.conv (pe_call F hr hg hm hk hb .nil (passAny tk) ha hdb he hpl) fun _ _ _ h => callN_core h
end
end TW
set_option Elab.async false
set_option linter.all false
set_option maxRecDepth 100000
namespace TW
open PySem PySem.Spec PyProof.Rows L2
def gOr (g g' : D → D → R D) : D → D → R D := fun d e => match g d e with
  | .ok z => .ok z
  | _ => g' d e
def rOr (r r' : R2) : R2 := fun x y H Q => r x y H Q ∨ r' x y H Q
section
variable {K : PySem.W.Frag} {X : Cx} {r r' : R2} {g g' : D → D → R D} {f : Value → Value → Sem Value}
theorem OpR.or (h : OpR X f r) (h' : OpR X f r') : OpR X f (rOr r r') := fun pins s σ H x y v u Q I rx ry q => by
  rcases q with q | q
  · exact h pins s σ H x y v u Q I rx ry q
  · exact h' pins s σ H x y v u Q I rx ry q
theorem R2D.or (h : R2D K r g) (h' : R2D K r' g') : R2D K (rOr r r') (gOr g g') := fun δ σ G H x y d e z Q rl hx hy hz q => by
  unfold gOr at hz
  cases e1 : g d e with
  | ok z' => rw [e1] at hz; cases hz; exact .inl (h δ σ G H x y d e _ Q rl hx hy e1 q)
  | err n xs => rw [e1] at hz; exact .inr (h' δ σ G H x y d e z Q rl hx hy hz q)
  | bad => rw [e1] at hz; exact .inr (h' δ σ G H x y d e z Q rl hx hy hz q)
def gCatS : D → D → R D
  | .str x, .str y => if szOk (x.length + y.length) then .ok (.str (x ++ y)) else .bad
  | _, _ => .bad
def rCatS : R2 := fun x y H Q => ∃ a b, x = .str a ∧ y = .str b ∧ a.length + b.length ≤ sizeLine ∧ Q (.str (a ++ b)) H
theorem op_catS : OpR X (binaryOp .Add) rCatS := fun pins s σ H x y v u Q I rx ry ⟨a, b, e1, e2, hz, q⟩ => op_add_str pins s σ H x y v u Q I rx ry ⟨a, b, e1, e2, hz, q⟩
theorem r2_CatS : R2D K rCatS gCatS := fun δ σ G H x y d e z Q r hx hy hz q => by
  unfold gCatS at hz
  split at hz
  · split at hz
    · rename_i hk
      cases hz
      exact ⟨_, _, hx.str, hy.str, szOk_le hk, q _ G H (Grow.refl r) (.str _)⟩
    · cases hz
  · cases hz
def asD (g : D → D → R (List D)) : D → D → R D := fun d e => match g d e with
  | .ok ds => .ok (.list ds)
  | .err n xs => .err n xs
  | .bad => .bad
theorem R2N.asD {gn : D → D → R (List D)} (h : R2N K r gn) : R2D K r (asD gn) := fun δ σ G H x y d e z Q rl hx hy hz q => by
  unfold TW.asD at hz
  cases e1 : gn d e with
  | ok ds =>
    rw [e1] at hz
    cases hz
    exact h δ σ G H x y d e ds Q rl hx hy e1 fun p vs hp hl ha => q _ _ _ (Grow.laid rl.same rl.nt hp nt_lst) (.lst upd_same hl (RpAll.mono (same_upd (Same.free rl.same hp)) ha))
  | err n xs => rw [e1] at hz; cases hz
  | bad => rw [e1] at hz; cases hz
def gAdd : D → D → R D := gOr (gI (· + ·)) (gOr gCatT (gOr gCatS (asD gCatL)))
def rAddX (K : PySem.W.Frag) : R2 := rOr (rI0 fun i j => .int (i + j)) (rOr (rCatN K) (rOr rCatS rCat))
theorem op_addX : OpR X (binaryOp .Add) (rAddX X.K) := op_add.or (op_catN.or (op_catS.or op_cat))
theorem r2_addX : R2D K (rAddX K) gAdd := r2_I.or (r2_CatT.or (r2_CatS.or r2_CatL.asD))
def cMul (i j : Int) : Bool := decide (-18446744073709551616 < i ∧ i < 18446744073709551616) || decide (-18446744073709551616 < j ∧ j < 18446744073709551616)
theorem cMul_ok (i j : Int) (h : cMul i j = true) : CMul i j := by
  unfold cMul at h
  rw [Bool.or_eq_true] at h
  rcases h with h | h
  · exact .inl (by have := of_decide_eq_true h; omega)
  · exact .inr (by have := of_decide_eq_true h; omega)
def gRepT : D → D → R D
  | .tuple ds, .int k => if !ds.isEmpty && decide (2 ≤ k ∧ k ≤ 1000 ∧ ds.length ≤ 1000) then .ok (.tuple (List.replicate k.toNat ds).flatten) else .bad
  | _, _ => .bad
theorem r2_RepT : R2D K (rRepN K) gRepT := fun δ σ G H x y d e z Q r hx hy hz q => by
  unfold gRepT at hz
  split at hz
  · split at hz
    · rename_i ds k hk
      rw [Bool.and_eq_true, decide_eq_true_eq] at hk
      obtain ⟨hk0, hk1, hk2, hk3⟩ := hk
      cases hz
      obtain ⟨a, xs, e1, h1, h2, h3⟩ := hx.tup r.same
      have l1 := h3.length
      have e : (List.replicate k.toNat ds).flatten.length = ds.length * k.toNat := by
        rw [List.length_flatten, List.map_replicate, List.sum_replicate_nat, Nat.mul_comm]
      have hl : (List.replicate k.toNat ds).flatten.length ≤ sizeLine := by
        rw [e, sizeLine_eq]
        exact Nat.le_trans (Nat.mul_le_mul hk3 (show k.toNat ≤ 1000 by omega)) (by decide)
      refine ⟨a, k, xs, e1, hy.int, h1, fun z => ?_, hk1, hk2, by omega, fun p ob hp hd => q _ _ _ (Grow.laid r.same r.nt hp nt_frz) (.tup ⟨ob, upd_same, hd⟩ hl (RpAll.mono (same_upd (Same.free r.same hp)) (h3.rep _)))⟩
      rw [z] at l1
      cases ds with
      | nil => simp at hk0
      | cons _ _ => simp at l1
    · cases hz
  · cases hz
def gMul : D → D → R D := gOr (gIC cMul (· * ·)) (gOr (asD gRepL) gRepT)
def rMulX (K : PySem.W.Frag) : R2 := rOr (rI CMul fun i j => .int (i * j)) (rOr rRep (rRepN K))
theorem op_mulX : OpR X (binaryOp .Mult) (rMulX X.K) := op_mul.or (op_rep.or op_repN)
theorem r2_mulX : R2D K (rMulX K) gMul := (r2_IC cMul_ok).or (r2_RepL.asD.or r2_RepT)
def cDiv (i j : Int) : Bool := decide (0 < j ∧ j < 1073741824)
def cMod (i j : Int) : Bool := decide (0 < j)
def gDiv : D → D → R D := gIC cDiv (· / ·)
def gMod : D → D → R D := gIC cMod (· % ·)
def gSub : D → D → R D := gI (· - ·)
def inS (neg : Bool) (x y : Str) : Bool := neg != !(Builtin.Str.occurrences y x 0 y.length 1).isEmpty
def gInS (neg : Bool) : D → D → R D
  | .str x, .str y => .ok (.bool (inS neg x y))
  | _, _ => .bad
def rInS (neg : Bool) : R2 := fun x y H Q => ∃ i j, x = .str i ∧ y = .str j ∧ Q (.bl (inS neg i j)) H
theorem op_inS : OpR X (compareOp .In) (rInS false) := fun pins s σ H x y v u Q I rx ry ⟨a, b, e1, e2, q⟩ => op_in_str pins s σ H x y v u Q I rx ry ⟨a, b, e1, e2, by unfold inS at q; rwa [Bool.false_bne] at q⟩
theorem op_notInS : OpR X (compareOp .NotIn) (rInS true) := fun pins s σ H x y v u Q I rx ry ⟨a, b, e1, e2, q⟩ => op_notin_str pins s σ H x y v u Q I rx ry ⟨a, b, e1, e2, by unfold inS at q; rwa [Bool.true_bne] at q⟩
theorem r2_InS {neg : Bool} : R2D K (rInS neg) (gInS neg) := fun δ σ G H x y d e z Q r hx hy hz q => by
  unfold gInS at hz
  split at hz
  · cases hz
    exact ⟨_, _, hx.str, hy.str, q _ G H (Grow.refl r) (.bl _)⟩
  · cases hz
def gInX (neg : Bool) : D → D → R D := gOr (gIn neg) (gInS neg)
end
section
variable {ct : Nat → Addr} {W : WX} {X : Cx} {a b c : Expr} {ma mb mc : M D} {pos : Pos} {k : Nat}
theorem u64 {A : Around} (hr : Room k A) : A.units + 64 < cLine := hr.units
theorem u65 {A : Around} (hr : Room k A) : A.units + 65 < cLine := by have := hr.un; omega
theorem ve_add (ha : VE ct W X a ma) (hb : VV ct W X b mb) : VE ct W X (.BinOp a .Add b pos) (mOp2 gAdd ma mb) := ve_op op_addX r2_addX ha hb
theorem ve_sub (ha : VE ct W X a ma) (hb : VV ct W X b mb) : VE ct W X (.BinOp a .Sub b pos) (mOp2 gSub ma mb) := ve_op op_sub r2_I ha hb
theorem ve_mul (ha : VE ct W X a ma) (hb : VV ct W X b mb) : VE ct W X (.BinOp a .Mult b pos) (mOp2 gMul ma mb) := ve_op op_mulX r2_mulX ha hb
theorem ve_div (ha : VE ct W X a ma) (hb : VV ct W X b mb) : VE ct W X (.BinOp a .FloorDiv b pos) (mOp2 gDiv ma mb) := ve_op op_fdiv (r2_IC (Cc := CDiv) fun i j h => by have := of_decide_eq_true h; exact this) ha hb
theorem ve_mod (ha : VE ct W X a ma) (hb : VV ct W X b mb) : VE ct W X (.BinOp a .Mod b pos) (mOp2 gMod ma mb) := ve_op op_mod (r2_IC (Cc := fun _ j => 0 < j) fun i j h => by have := of_decide_eq_true h; exact this) ha hb
theorem vn_add (ha : VE ct W X a ma) (hb : VV ct W X b mb) : VN ct W X (.BinOp a .Add b pos) (mOp2N gCatL ma mb) := vn_op op_cat r2_CatL ha hb
theorem ve_ne (hr : Room k X.A) (ha : VE ct W X a ma) (hb : VV ct W X b mb) : VE ct W X (.Compare a [.NotEq] [b] pos) (mOp2 gNe ma mb) := ve_cmp (op_neD (u64 hr)) r2_Ne (nomark _) ha hb
theorem ve_lt (hr : Room k X.A) (ha : VE ct W X a ma) (hb : VV ct W X b mb) : VE ct W X (.Compare a [.Lt] [b] pos) (mOp2 (gOrd PySem.W.dataLt) ma mb) := ve_cmp (op_ltD (u64 hr)) r2_ord (nomark _) ha hb
theorem ve_in (hr : Room k X.A) (ha : VE ct W X a ma) (hb : VV ct W X b mb) (hm : behindInMarks .In b = false := by rfl) : VE ct W X (.Compare a [.In] [b] pos) (mOp2 (gInX false) ma mb) := ve_cmp ((op_inA (u65 hr)).or op_inS) (r2_In.or r2_InS) hm ha hb
theorem vt_eq (hr : Room k X.A) (ha : VE ct W X a ma) (hb : VV ct W X b mb) : VT ct W X (.Compare a [.Eq] [b] pos) (mTest (mOp2 gEq ma mb)) := vt_cmp (op_eqD (u64 hr)) r2_Eq (nomark _) ha hb
theorem vt_ne (hr : Room k X.A) (ha : VE ct W X a ma) (hb : VV ct W X b mb) : VT ct W X (.Compare a [.NotEq] [b] pos) (mTest (mOp2 gNe ma mb)) := vt_cmp (op_neD (u64 hr)) r2_Ne (nomark _) ha hb
theorem vt_lt (hr : Room k X.A) (ha : VE ct W X a ma) (hb : VV ct W X b mb) : VT ct W X (.Compare a [.Lt] [b] pos) (mTest (mOp2 (gOrd PySem.W.dataLt) ma mb)) := vt_cmp (op_ltD (u64 hr)) r2_ord (nomark _) ha hb
theorem vt_gt (hr : Room k X.A) (ha : VE ct W X a ma) (hb : VV ct W X b mb) : VT ct W X (.Compare a [.Gt] [b] pos) (mTest (mOp2 (gOrd fun d e => PySem.W.dataLt e d) ma mb)) := vt_cmp (op_gtD (u64 hr)) r2_ord (nomark _) ha hb
theorem vt_le (hr : Room k X.A) (ha : VE ct W X a ma) (hb : VV ct W X b mb) : VT ct W X (.Compare a [.LtE] [b] pos) (mTest (mOp2 (gOrd fun d e => !PySem.W.dataLt e d) ma mb)) := vt_cmp (op_leD (u64 hr)) r2_ord (nomark _) ha hb
theorem vt_in (hr : Room k X.A) (ha : VE ct W X a ma) (hb : VV ct W X b mb) (hm : behindInMarks .In b = false := by rfl) : VT ct W X (.Compare a [.In] [b] pos) (mTest (mOp2 (gInX false) ma mb)) := vt_cmp ((op_inA (u65 hr)).or op_inS) (r2_In.or r2_InS) hm ha hb
theorem vt_nin (hr : Room k X.A) (ha : VE ct W X a ma) (hb : VV ct W X b mb) (hm : behindInMarks .NotIn b = false := by rfl) : VT ct W X (.Compare a [.NotIn] [b] pos) (mTest (mOp2 (gInX true) ma mb)) := vt_cmp ((op_notInA (u65 hr)).or op_notInS) (r2_In.or r2_InS) hm ha hb
theorem vt_isN (ha : VE ct W X a ma) (hb : VV ct W X b mb) : VT ct W X (.Compare a [.Is] [b] pos) (mTest (mOp2 gIsN ma mb)) := vt_cmp op_isN r2_IsN (nomark _) ha hb
def oLt : D → D → R D := gOrd PySem.W.dataLt
def oLe : D → D → R D := gOrd fun d e => !PySem.W.dataLt e d
theorem ve_leLt (hr : Room k X.A) (ha : VE ct W X a ma) (hb : VE ct W X b mb) (hc : VV ct W X c mc) (hm : lastMarks [CmpOp.LtE, CmpOp.Lt] [b, c] = false := by with_unfolding_all rfl) : VE ct W X (.Compare a [.LtE, .Lt] [b, c] pos) (mChain oLe oLt ma mb mc) := ve_chain (op_leD (u64 hr)) r2_ord (op_ltD (u64 hr)) r2_ord ha hb hc hm
theorem vt_leLe (hr : Room k X.A) (ha : VE ct W X a ma) (hb : VE ct W X b mb) (hc : VV ct W X c mc) (hm : lastMarks [CmpOp.LtE, CmpOp.LtE] [b, c] = false := by with_unfolding_all rfl) : VT ct W X (.Compare a [.LtE, .LtE] [b, c] pos) (mTest (mChain oLe oLe ma mb mc)) := vt_chain (op_leD (u64 hr)) r2_ord (op_leD (u64 hr)) r2_ord ha hb hc hm
variable {p : Pos}
theorem ve_len (hg : Gl X "len") (hm : X.mg "len" = none) (ha : VV ct W X a ma) (hs : starEach [a] X.env = (false, eval a X.env) :: starEach [] X.env := by rfl) : VE ct W X (.Call (.Name "len" p) [a] [] pos) (mOp1 gLen ma) := ve_callB call_len r1_len hg hm PySem.boot_len ha hs
theorem ve_all (hc : X.calm = true) (hg : Gl X "all") (hm : X.mg "all" = none) (ha : VV ct W X a ma) (hs : starEach [a] X.env = (false, eval a X.env) :: starEach [] X.env := by rfl) : VE ct W X (.Call (.Name "all" p) [a] [] pos) (mOp1 gAll ma) := ve_callB (cr_all hc) r1_all hg hm PyProof.Rows.boot_all ha hs
theorem ve_any (hc : X.calm = true) (hg : Gl X "any") (hm : X.mg "any" = none) (ha : VV ct W X a ma) (hs : starEach [a] X.env = (false, eval a X.env) :: starEach [] X.env := by rfl) : VE ct W X (.Call (.Name "any" p) [a] [] pos) (mOp1 gAny ma) := ve_callB (cr_any hc) r1_any hg hm PyProof.Rows.boot_any ha hs
theorem ve_sum (hc : X.calm = true) (hg : Gl X "sum") (hm : X.mg "sum" = none) (ha : VV ct W X a ma) (hs : starEach [a] X.env = (false, eval a X.env) :: starEach [] X.env := by rfl) : VE ct W X (.Call (.Name "sum" p) [a] [] pos) (mOp1 gSum ma) := ve_callB (cr_sum hc) r1_sum hg hm PyProof.Rows.boot_sum ha hs
theorem ve_tuple (hg : Gl X "tuple") (hm : X.mg "tuple" = none) (ha : VV ct W X a ma) (hs : starEach [a] X.env = (false, eval a X.env) :: starEach [] X.env := by rfl) : VE ct W X (.Call (.Name "tuple" p) [a] [] pos) (mOp1 gTuple ma) := ve_callTy call_tupOf r1_tuple hg hm PyProof.Rows.boot_tuple ha hs
theorem vn_list (hg : Gl X "list") (hm : X.mg "list" = none) (ha : VV ct W X a ma) (hs : starEach [a] X.env = (false, eval a X.env) :: starEach [] X.env := by rfl) : VN ct W X (.Call (.Name "list" p) [a] [] pos) (mOp1N gList ma) := vn_callTy call_list_of r1_list hg hm PyProof.Rows.boot_list ha hs
theorem vn_sorted (hr : Room k X.A) (hg : Gl X "sorted") (hm : X.mg "sorted" = none) (ha : VV ct W X a ma) (hs : starEach [a] X.env = (false, eval a X.env) :: starEach [] X.env := by rfl) : VN ct W X (.Call (.Name "sorted" p) [a] [] pos) (mOp1N gSorted ma) := vn_callB (call_sortedA (u64 hr)) r1_sorted hg hm PyProof.Rows.boot_sorted ha hs
end
end TW
set_option Elab.async false
set_option linter.all false
set_option maxRecDepth 100000
namespace TW
open PySem PySem.Spec PyProof.Rows L2
structure Tx (K : PySem.W.Frag) (mg : Str → Option Value) (x : Str) (st : Stmt) (ps : List Str) : Prop where
  ex : ∃ f fd, Fun K x x st f fd ∧ mg x = some (.ref f) ∧ Binds K fd ps []
structure Cal (P : Program) (w : World) (K : PySem.W.Frag) (mg : Str → Option Value) (base : Heap) (x : Str) (ps : List Str) (k : Nat) (sp : Sp) : Prop where
  ex : ∃ f fd, FnOk P w K mg base (L2.CX P w) k f fd ps sp ∧ mg x = some (.ref f) ∧ PySem.W.keepIn K (.ref f) = true ∧ Binds K fd ps []
section
variable {P : Program} {w : World} {K : PySem.W.Frag} {mg : Str → Option Value} {base : Heap} {ct : Nat → Addr} {x : Str} {st : Stmt} {N ps : List Str} {k n : Nat} {body : MS}
abbrev Bx (P : Program) (w : World) (K : PySem.W.Frag) (mg : Str → Option Value) (base : Heap) (N : List Str) (x : Str) (st : Stmt) (f : Addr) (cdv : Value) (A : Around) (outer : List Env) (s : Shared) (H : Hp) (E : XK) : Cx := cxOf (L2.CX P w) P w K mg base N x (defScope st) f cdv A outer s H E
def BodyOk (P : Program) (w : World) (K : PySem.W.Frag) (mg : Str → Option Value) (base : Heap) (ct : Nat → Addr) (N : List Str) (x : Str) (st : Stmt) (k : Nat) (body : MS) : Prop :=
  ∀ (f : Addr) (cdv : Value) (A : Around) (outer : List Env) (s : Shared) (H : Hp) (E : XK), Room k (Bx P w K mg base N x st f cdv A outer s H E).A → Takes (Bx P w K mg base N x st f cdv A outer s H E) (WE' E) →
      PassesOwn (model P w) (Bx P w K mg base N x st f cdv A outer s H E).A (Bx P w K mg base N x st f cdv A outer s H E).env (Bx P w K mg base N x st f cdv A outer s H E).xe →
      VSs ct (WE' E) (Bx P w K mg base N x st f cdv A outer s H E) (defBody st) body
theorem calD (T : Tx K mg x st ps) (S : FnScope N ps (defScope st)) (hps : ps.length = n) (hn : ps.length ≤ N.length) (hb : BodyOk P w K mg base ct N x st k body) : Cal P w K mg base x ps (k + 1) (spD K ct n (fnD N.length body)) := by
  obtain ⟨f, fd, F, hm, b⟩ := T.ex
  exact ⟨f, fd, fnD_ok F S hps hn (hb f), hm, F.kp, b⟩
theorem calN (T : Tx K mg x st ps) (S : FnScope N ps (defScope st)) (hps : ps.length = n) (hn : ps.length ≤ N.length) (hb : BodyOk P w K mg base ct N x st k body) : Cal P w K mg base x ps (k + 1) (spN K ct n (fnN N.length body)) := by
  obtain ⟨f, fd, F, hm, b⟩ := T.ex
  exact ⟨f, fd, fnN_ok F S hps hn (hb f), hm, F.kp, b⟩
theorem cal_bad (T : Tx K mg x st ps) {sp : Sp} (h : ∀ vs H Q E, ¬ sp vs H Q E) : Cal P w K mg base x ps k sp := by
  obtain ⟨f, fd, F, hm, b⟩ := T.ex
  exact ⟨f, fd, fn_bad h, hm, F.kp, b⟩
theorem spD_bad {n : Nat} : ∀ vs H Q E, ¬ spD K ct n (fun _ => .bad) vs H Q E := fun vs H Q E ⟨ds, G, _, _, _, h⟩ => h
theorem Cal.imp {sp sp' : Sp} (c : Cal P w K mg base x ps k sp) (h : ∀ vs H Q E, sp' vs H Q E → sp vs H Q E) : Cal P w K mg base x ps k sp' := by
  obtain ⟨f, fd, F, a⟩ := c.ex
  exact ⟨f, fd, F.imp h, a⟩
end
section
variable {ct : Nat → Addr} {W : WX} {X : Cx} {e a b : Expr} {es : List Expr} {ms : M (List D)} {ma mb : M D} {p pos : Pos} {x : Str} {ps : List Str} {k j n i : Nat} {Fd : List D → R D} {Fn : List D → R (List D)} {Fs : List D → List D → R (D × List D)}
theorem ve_callC (c : Cal X.prog X.w X.K X.mg X.base x ps k (spD X.K ct n Fd)) (hr : Room j X.A) (hkj : k ≤ j) (tk : Takes X W) (hg : Gl X x) (ha : VA ct W X (e :: es) ms)
    (hdb : (x == ("__debug__" : Str)) = false := by decide) (he : starEach (e :: es) X.env = (false, eval e X.env) :: starEach es X.env := by rfl) (hpl : (backTo pos (starEach es X.env)).any (·.1) = false := by rfl) :
    VE ct W X (.Call (.Name x p) (e :: es) [] pos) (mCall n Fd ms) := by
  obtain ⟨f, fd, F, hm, hk, hb⟩ := c.ex
  exact ve_call F (hr.mono hkj) tk hg hm hk hb ha hdb he hpl
theorem vn_callC (c : Cal X.prog X.w X.K X.mg X.base x ps k (spN X.K ct n Fn)) (hr : Room j X.A) (hkj : k ≤ j) (tk : Takes X W) (hg : Gl X x) (ha : VA ct W X (e :: es) ms)
    (hdb : (x == ("__debug__" : Str)) = false := by decide) (he : starEach (e :: es) X.env = (false, eval e X.env) :: starEach es X.env := by rfl) (hpl : (backTo pos (starEach es X.env)).any (·.1) = false := by rfl) :
    VN ct W X (.Call (.Name x p) (e :: es) [] pos) (mCallN n Fn ms) := by
  obtain ⟨f, fd, F, hm, hk, hb⟩ := c.ex
  exact vn_call F (hr.mono hkj) tk hg hm hk hb ha hdb he hpl
def GcI (mg : Str → Option Value) (x : Str) (n : Int) : Prop := ∃ t, mg x = some (.int n t)
theorem ve_gi {z : Int} (h : GcI X.mg x z) (hg : Gl X x) (hd : (x == ("__debug__" : Str)) = false := by decide) : VE ct W X (.Name x p) (mC (.int z)) := by
  obtain ⟨t, h⟩ := h
  exact ve_c (v := .int z) (pe_glob (v := .int z) hg h ⟨t, rfl⟩ hd) (.int z)
def gSl : D → Option Int → Option Int → R D
  | .tuple ds, lo, hi => .ok (.tuple (cutD ds lo hi))
  | .list ds, lo, hi => .ok (.list (cutD ds lo hi))
  | .str x, lo, hi => if szOk x.length then .ok (.str (cutS x lo hi)) else .bad
  | _, _, _ => .bad
def mSl (ma : M D) (ml mh : MO) : M D := M.bind ma fun d => M.bind ml fun lo => M.bind mh fun hi => M.only (gSl d lo hi)
theorem ve_sl {p2 : Pos} {lo hi : Option Expr} {ml mh : MO} (ha : VE ct W X a ma) (hl : VO ct W X lo ml) (hh : VO ct W X hi mh) : VE ct W X (.Subscript a (.Slice lo hi none p2) pos) (mSl ma ml mh) :=
  PE.conv (pe_slice (sl_tupN.or (sl_list.or sl_str)) ha hl hh) fun σ H Q h => tG.step h fun d δ1 x G1 H1 r1 p1 h1 => ⟨δ1, G1, r1, TW.step r1 h1 fun l δ2 y G2 H2 _ x2 r2 p2 h2 => ⟨δ2, G2, r2, TW.step r2 h2 fun u δ3 z G3 H3 _ x3 r3 p3 h3 => by
    obtain rfl : y = l := p2
    obtain rfl : z = u := p3
    obtain ⟨w, ez, h4⟩ := Post.only h3
    unfold gSl at ez
    have p1' := Rp.mono (x2.same.trans x3.same) p1
    split at ez
    · cases ez
      rename_i ds _ _
      obtain ⟨b, xs, e1, k1, k2, k3⟩ := Rp.ofTup p1'
      subst e1
      have hlen := RpAll.length k3
      refine .inl ⟨b, xs, rfl, Same.sqt r3.same k1, fun hw => ?_, fun _ q ob hq hd => ?_⟩
      · rw [hlen] at hw
        rw [cut_whole hw] at h4
        exact Post.done h4 r3 (Grow.refl r3) p1'
      · exact Post.done h4 r3 (Grow.laid r3.same r3.nt hq nt_frz) (.tup ⟨ob, upd_same, hd⟩ (Nat.le_trans (cutD_length _ _ _) k2) (RpAll.mono (same_upd (Same.free r3.same hq)) (cut_rp k3)))
    · cases ez
      obtain ⟨b, xs, e1, k1, k2, k3⟩ := Rp.ofLst p1'
      subst e1
      exact .inr (.inl ⟨b, xs, rfl, SqL.of (r3.same _ _ k1), fun q hq => Post.done h4 r3 (Grow.laid r3.same r3.nt hq nt_lst) (.lst upd_same (Nat.le_trans (cutD_length _ _ _) k2) (RpAll.mono (same_upd (Same.free r3.same hq)) (cut_rp k3)))⟩)
    · split at ez
      · rename_i hz
        cases ez
        exact .inr (.inr ⟨_, Rp.ofStr p1', szOk_le hz, Post.done h4 r3 (Grow.refl r3) (.str _)⟩)
      · cases ez
    · cases ez⟩⟩
end
def scrD (ns : List Int) : D := .dict [(.none, .list (ns.map .int))]
theorem ints_rp {K : PySem.W.Frag} {G : Hp} : ∀ ns : List Int, RpAll K G (ns.map V.int) (ns.map .int)
  | [] => .nil
  | n :: ns => .cons (.int n) (ints_rp ns)
theorem end_sp {K : PySem.W.Frag} {ct : Nat → Addr} {F : List D → R D} {H : Hp} {a : Addr} {ns : List Int} (hT : LamX.Tabs (lamT K) H) (hS : SqL K H a (ns.map V.int)) (hl : ns.length ≤ 63) (h : F [scrD ns] = .ok (.bool true)) :
    spD K ct 1 F [.ref a] H (fun v _ => v = .bl true) fun _ _ _ => False := by
  have go : ∀ G : Hp, Same G H → (∀ b o, G b = some o → NT o) → SqL K G a (ns.map V.int) → spD K ct 1 F [.ref a] H (fun v _ => v = .bl true) fun _ _ _ => False := fun G s n q => by
    refine ⟨[scrD ns], G, rfl, ⟨s, n, hT⟩, .cons (.scr q (by rw [List.length_map, sizeLine_eq]; omega) (ints_rp ns)) .nil, ?_⟩
    rw [h]
    exact fun v G' H' _ _ rp => Rp.ofBl rp
  have one : ∀ o : HO, H a = some o → NT o → Same (upd (fun _ => none) a o) H ∧ ∀ b u, (upd (fun _ => none) a o : Hp) b = some u → NT u := by
    intro o e n
    refine ⟨fun b u q => ?_, fun b u q => ?_⟩
    · by_cases z : b = a
      · subst z; rw [upd_same] at q; cases q; exact e
      · rw [upd_ne z] at q; cases q
    · by_cases z : b = a
      · subst z; rw [upd_same] at q; cases q; exact n
      · rw [upd_ne z] at q; cases q
  rcases hS with (e | ⟨o, e⟩) | e
  · obtain ⟨s, n⟩ := one _ e nt_lst
    exact go _ s n (.inl (.inl upd_same))
  · obtain ⟨s, n⟩ := one _ e fun ps q => nomatch q
    exact go _ s n (.inl (.inr ⟨o, upd_same⟩))
  · exact go (fun _ => none) (fun _ _ q => nomatch q) (fun _ _ q => nomatch q) (.inr e)
end TW
set_option Elab.async false
set_option linter.all false
set_option maxRecDepth 100000
namespace TW
open PySem PySem.Spec PyProof.Rows L2
end TW
set_option Elab.async false
set_option linter.all false
set_option maxRecDepth 100000
namespace TW
open PySem PySem.Spec PyProof.Rows L2
section
variable {P : Program} {w : World} {A : Around} {E : Value → Shared → Prop} {s : Shared}
abbrev emptySet (w : World) : Obj := { cls := .type "set", dict := none, data := .set #[] 0 (.fresh 0 0 (!w.params.followText "set-order")) }
set_option maxHeartbeats 3200000 in
theorem set_of_tuple {l : Addr} {items : Array Value} (ks : List (Addr × List Int)) {Q : Value → Shared → Prop} (free : A.handled = none) (hl : s.heap.IsTuple l items) (hit : items.toList = ks.map fun p => Value.ref p.1)
    (hk : ∀ p ∈ ks, IsT P w s.heap p.2 p.1) (few : ks.length < 64) (room : A.units + 3 < cLine)
    (fin : ∀ (h' : Heap) (tk : Nat) L es ep t, SetTR P w h' s.heap.objs.size L es ep t → Got ks ks.length L → (∀ b o, s.heap.get? b = some o → h'.get? b = some o) → Q (.ref s.heap.objs.size) { s with heap := h', toks := tk }) :
    wpAny (model P w) A (call (.type "set") [.ref l]) Q E s := by
  have size : items.size = ks.length := by rw [← Array.length_toList, hit, List.length_map]
  obtain ⟨c, tl, hmro⟩ := PySem.F.called_set.mro
  have hmade := PySem.F.called_set.made
  have hsub := PySem.F.called_set.sub
  refine wpAny_call (codeAny_of_tree (show wpAny _ _ (callAny (.type "set") _) _ _ _ from ?_))
  refine wpAny_pure ⟨Code.quiet_builtin _ (by decide +kernel), codeAny_builtin PySem.F.entry_type_call ?_⟩
  rw [Around.under_plain (weight_type_call_type "set" [.ref l] []) rfl]
  have h1 := PySem.F.called_set.notType
  have h2 := PySem.F.called_set.canCreate
  have hct := PySem.F.typeCall_set_1 (.ref l)
  repeat (any_goals (first | assumption | wp_step))
  refine codeAny_mono (code_set_led1 (.ref l) (E := E) (Q₁ := fun obj s₁ => obj = .ref s.heap.objs.size ∧ s₁ = { s with heap := s.heap.push (emptySet w) }) ⟨rfl, rfl⟩) fun r s₁ hr => ?_
  rcases r with e | fl
  · exact hr
  cases fl with
  | ret obj =>
    obtain ⟨rfl, rfl⟩ := hr
    have there : (s.heap.push (emptySet w)).get? s.heap.objs.size = some (emptySet w) := Heap.get?_push_size _ rfl
    have isSet : Shared.TypeIs { s with heap := s.heap.push (emptySet w) } (.ref s.heap.objs.size) "set" := ⟨_, there, rfl⟩
    have hli := PySem.F.called_set.init.lookup
    have hbi := PySem.F.called_set.init.bind (.ref s.heap.objs.size)
    repeat (any_goals (first | assumption | wp_step))
    refine codeAny_mono (codeAny_call_builtin (R := wants (fun r s₂ => r = .none ∧ ∃ h' tk L es ep t, s₂ = { s with heap := h', toks := tk } ∧ SetTR P w h' s.heap.objs.size L es ep t ∧ Got ks ks.length L ∧
        (∀ b o, s.heap.get? b = some o → h'.get? b = some o)) E) PySem.F.called_set.init.plain PySem.F.entry_set_init (check_set_init_1 isSet ?_)) fun r₂ s₂ hr₂ => ?_
    · obtain ⟨⟨ocls, odict, odata, oslots⟩, hol, hcl, nl, hdl⟩ := hl
      simp only at hcl hdl
      subst hcl; subst hdl
      have hol' : (s.heap.push (emptySet w)).get? l = some { cls := .type "tuple", dict := odict, data := .seq items nl, slots := oslots } := Heap.get?_push_of_some _ hol
      have hsls := PySem.F.sub_tuple_set
      have hslf := PySem.F.sub_tuple_frozenset
      have hne : (Value.type "tuple" == Value.type "dict") = false := by decide
      have asTup : (s.heap.push (emptySet w)).IsTuple l items := ⟨_, hol', rfl, nl, rfl⟩
      unfold Builtin.«set.__init__» noKeywords Builtin.Frozenset.updateFrom
      generalize hPI : pyIter = PI
      wp_walk
      subst hPI
      refine wpAny_pyIter_tuple asTup (wpAny_bind (wpAny_runValue ?_))
      have below : l < s.heap.objs.size := Heap.lt_size hol
      have free3 : A.in1.in1.in1.handled = none := by simp [free]
      have grown : (s.heap.push (emptySet w)).objs.size = s.heap.objs.size + 1 := Heap.size_push ..
      have apart : l ≠ (s.heap.push (emptySet w)).objs.size := by rw [grown]; exact Nat.ne_of_lt (Nat.lt_succ_of_lt below)
      have off : s.heap.objs.size ∉ [(s.heap.push (emptySet w)).objs.size, l] := by
        rw [grown]
        intro z
        rcases List.mem_cons.mp z with z | z
        · exact absurd z (Nat.ne_of_lt (Nat.lt_succ_self _))
        · exact absurd (List.mem_singleton.mp z) (Nat.ne_of_gt below)
      have at_ : ∀ (i : Nat) (v : Value), items[i]? = some v → ∃ p, ks[i]? = some p ∧ v = .ref p.1 := fun i v hv => by
        have q : items.toList[i]? = some v := by rw [Array.getElem?_toList]; exact hv
        rw [hit, List.getElem?_map] at q
        cases hq : ks[i]? with
        | none => rw [hq] at q; cases q
        | some p => rw [hq] at q; exact ⟨p, rfl, (Option.some.inj q).symm⟩
      have none_of : ∀ b, s.heap.objs.size ≤ b → s.heap.get? b = none := fun b hb => by
        cases q : s.heap.get? b with
        | none => rfl
        | some o => exact absurd (Heap.lt_size q) (Nat.not_lt.mpr hb)
      refine set_update_tups ((Walks.tuple free3 _ l apart items).toS) s.heap.objs.size off ks size few at_ s.heap hk (none_of _ (Nat.le_refl _))
        (fun b hb => none_of b (by rw [List.mem_singleton.mp hb, grown]; exact Nat.le_succ _)) room (items.size - 0) 0 _ (by omega) (Nat.zero_le _)
        ⟨⟨_, Heap.get?_push_size _ rfl, rfl, rfl⟩, (asTup.push _)⟩ (fun b o e => Heap.get?_push_of_some _ (Heap.get?_push_of_some _ e)) ⟨[], #[], 0, _, setTR_fresh (Heap.get?_push_of_some _ there), Got.zero ks⟩ ?_
      rintro ⟨h', g2, d', tk', os'⟩ L es ep t hm hS' g' hkp
      have eg : g2 = s.gens := hm.gens
      have ed : d' = s.drawn := hm.drawn
      have eo : os' = s.os := hm.os
      subst eg; subst ed; subst eo
      rw [size] at g'
      exact wpAny_pure (show wpAny _ _ (ret Value.none) _ _ _ from wpAny_pure ⟨rfl, h', tk', L, es, ep, t, rfl, hS', g', hkp⟩)
    · rcases r₂ with e | fl₂
      · exact hr₂
      cases fl₂ with
      | ret r =>
        obtain ⟨rfl, h', tk, L, es, ep, t, rfl, hS', g', hk'⟩ := hr₂
        repeat (any_goals (first | assumption | wp_step))
        exact fin _ _ _ _ _ _ hS' g' hk'
      | _ => exact hr₂.elim
  | _ => exact hr.elim
end
def rSetAny (K : PySem.W.Frag) (P : Program) (w : World) : List V → Hp → VK → Prop := fun xs H Q => ∃ (l : Addr) (ks : List (Addr × List Int)), xs = [V.ref l] ∧ (SqL K H l (ks.map fun p => V.ref p.1) ∨ SqT K H l (ks.map fun p => V.ref p.1)) ∧ (∀ p ∈ ks, SqT K H p.1 (p.2.map V.int)) ∧ ks.length < 64 ∧
  ∀ a L, H a = none → (∀ p ∈ L, p ∈ ks) → (∀ p ∈ ks, p.2 ∈ L.map (·.2)) → Q (.ref a) (upd H a (SetTO P w a L))
theorem cr_setAny {X : Cx} (hc : X.calm = true) (hu : X.A.units + 64 < cLine) : CallR X (.type "set") (rSetAny X.K X.prog X.w) := by
  intro pins s σ H xs us Q I r h
  obtain ⟨l, ks, e, hl | hl, hk, few, q⟩ := h
  · exact cr_setOfT hc hu pins s σ H xs us Q I r ⟨l, ks, e, hl, hk, few, q⟩
  · subst e
    rw [Vals.ref1 r]
    obtain ⟨its, rv, pl, hz⟩ := I.tuple hl
    refine set_of_tuple (P := X.prog) (w := X.w) ks (I.ok.hd hc) pl (by simpa using refs_of_vals rv) (fun p hp => I.isT (hk p hp)) few (by omega) fun h' tk L es ep t R g k => ?_
    refine ⟨.ref s.heap.objs.size, _, I.laid (t' := tk) k (Nat.le_refl _) (setTO_new R.t0), rfl, q _ L (I.hok.fresh (Nat.le_refl _)) (fun p hp => List.mem_of_mem_take (g.sub p hp)) fun p hp => g.all p ?_⟩
    rw [List.take_length]
    exact hp
end TW
set_option Elab.async false
set_option linter.all false
set_option maxRecDepth 100000
namespace TW
open PySem PySem.Spec PyProof.Rows L2
def tupD (ns : List Int) : D := .tuple (ns.map .int)
theorem keyToks_ints (a b : List Int) : PySem.W.keyToksAll (a.map .int) = PySem.W.keyToksAll (b.map .int) → a = b := by
  induction a generalizing b with
  | nil =>
    cases b with
    | nil => intro _; rfl
    | cons y b => intro h; simp [PySem.W.keyToksAll] at h
  | cons x a ih =>
    cases b with
    | nil => intro h; simp [PySem.W.keyToksAll] at h
    | cons y b =>
      intro h
      simp [PySem.W.keyToksAll, PySem.W.keyToks] at h
      rw [h.1, ih b h.2]
theorem sortD_pw (ds : List D) : (sortD ds).Pairwise fun x y => PySem.W.dataLe false id x y = true := by
  have t := PySem.W.sortLe_total (PyProof.Rows.listOrd PyProof.Rows.itemOrd) false (fun b : D => PySem.W.keyToks b)
  exact List.pairwise_mergeSort (fun a b c h1 h2 => t.trans a b c h1 h2) (fun a b => by
    rcases t.total a b with h | h
    · exact Bool.or_eq_true_iff.mpr (.inl h)
    · exact Bool.or_eq_true_iff.mpr (.inr h)) ds
theorem sortD_perm (ds : List D) : (sortD ds).Perm ds := List.mergeSort_perm ds _
theorem dataLe_anti {x y : D} (h1 : PySem.W.dataLe false id x y = true) (h2 : PySem.W.dataLe false id y x = true) : PySem.W.keyToks x = PySem.W.keyToks y := by
  unfold PySem.W.dataLe PySem.W.sortLe at h1 h2
  simp only [cond_false, Bool.not_eq_true', id] at h1 h2
  exact (PyProof.Rows.listOrd PyProof.Rows.itemOrd).total _ _ h2 h1
theorem sortD_unique {ds es : List D} (p : ds.Perm es) (inj : ∀ x ∈ ds, ∀ y ∈ ds, PySem.W.keyToks x = PySem.W.keyToks y → x = y) : sortD ds = sortD es := by
  refine List.Perm.eq_of_pairwise (fun a b ha hb h1 h2 => inj a ((sortD_perm ds).mem_iff.mp ha) b (p.mem_iff.mpr ((sortD_perm es).mem_iff.mp hb)) (dataLe_anti h1 h2)) (sortD_pw ds) (sortD_pw es) ((sortD_perm ds).trans (p.trans (sortD_perm es).symm))
theorem tups_unique {ks ls : List (List Int)} (p : ks.Perm ls) : sortD (ks.map tupD) = sortD (ls.map tupD) := by
  refine sortD_unique (p.map _) fun x hx y hy e => ?_
  obtain ⟨a, _, rfl⟩ := List.mem_map.mp hx
  obtain ⟨b, _, rfl⟩ := List.mem_map.mp hy
  simp only [tupD, PySem.W.keyToks] at e
  rw [keyToks_ints a b e]
def uniqL : List (List Int) → List (List Int)
  | [] => []
  | x :: xs => if x ∈ uniqL xs then uniqL xs else x :: uniqL xs
theorem uniqL_mem {x : List Int} : ∀ {xs : List (List Int)}, x ∈ uniqL xs ↔ x ∈ xs
  | [] => by simp [uniqL]
  | y :: xs => by
    unfold uniqL
    split
    · rename_i h
      rw [uniqL_mem (xs := xs), List.mem_cons]
      refine ⟨.inr, fun z => ?_⟩
      rcases z with z | z
      · subst z; exact uniqL_mem.mp h
      · exact z
    · rw [List.mem_cons, List.mem_cons, uniqL_mem (xs := xs)]
theorem uniqL_nodup : ∀ xs : List (List Int), (uniqL xs).Nodup
  | [] => List.nodup_nil
  | y :: xs => by
    unfold uniqL
    split
    · exact uniqL_nodup xs
    · rename_i h
      exact List.nodup_cons.mpr ⟨h, uniqL_nodup xs⟩
theorem uniqL_len : ∀ xs : List (List Int), (uniqL xs).length ≤ xs.length
  | [] => Nat.le_refl _
  | y :: xs => by
    have := uniqL_len xs
    unfold uniqL
    split
    · rw [List.length_cons]; omega
    · rw [List.length_cons, List.length_cons]; omega
theorem uniqL_perm {ks ls : List (List Int)} (n : ls.Nodup) (h1 : ∀ x ∈ ls, x ∈ ks) (h2 : ∀ x ∈ ks, x ∈ ls) : ls.Perm (uniqL ks) :=
  (List.perm_ext_iff_of_nodup n (uniqL_nodup ks)).mpr fun x => ⟨fun h => uniqL_mem.mpr (h1 x h), fun h => h2 x (uniqL_mem.mp h)⟩
theorem alike_ints : ∀ a b : List Int, PySem.W.alikeAll (a.map .int) (b.map .int) = true
  | [], _ => by simp [PySem.W.alikeAll]
  | _ :: _, [] => by simp [PySem.W.alikeAll]
  | x :: a, y :: b => by simp [PySem.W.alikeAll, PySem.W.alike, alike_ints a b]
theorem depth_ints (a : List Int) : (tupD a).depth ≤ 8 := by
  have : ∀ a : List Int, PyData.depthAll (a.map .int) ≤ 6 := fun a => by
    induction a with
    | nil => simp [PyData.depthAll]
    | cons x a ih => simp [PyData.depthAll, PyData.depth]; omega
  have := this a
  simp [tupD, PyData.depth]
  omega
theorem perm_map_pick {α β : Type} {f : α → β} : ∀ {vs : List β} {ws : List α}, vs.Perm (ws.map f) → ∃ us : List α, us.Perm ws ∧ vs = us.map f
  | [], ws, p => by
    have := p.length_eq
    rw [List.length_map] at this
    have e : ws = [] := List.eq_nil_of_length_eq_zero this.symm
    subst e
    exact ⟨[], List.Perm.refl _, rfl⟩
  | v :: vs, ws, p => by
    obtain ⟨x, hx, e⟩ := List.mem_map.mp (p.mem_iff.mp List.mem_cons_self)
    subst e
    obtain ⟨a, b, rfl⟩ := List.append_of_mem hx
    have q : (a ++ x :: b).Perm (x :: (a ++ b)) := List.perm_middle
    obtain ⟨us, h1, h2⟩ := perm_map_pick (vs := vs) (ws := a ++ b) ((List.perm_cons (f x)).mp (p.trans (q.map f)))
    exact ⟨x :: us, (h1.cons x).trans q.symm, by rw [h2]; rfl⟩
theorem each_maps : ∀ (L M : List (Addr × List Int)), (∀ q ∈ M, q ∈ L) → PySem.W.EachIs (fun v b => ∃ q ∈ L, v = Value.ref q.1 ∧ b = tupD q.2) (M.map fun q => Value.ref q.1) (M.map fun q => tupD q.2)
  | _, [], _ => .nil
  | L, q :: M, h => .cons ⟨q, h q List.mem_cons_self, rfl, rfl⟩ (each_maps L M fun r hr => h r (List.mem_cons_of_mem _ hr))
section
variable {P : Program} {w : World} {A : Around} {E : Value → Shared → Prop} {s : Shared}
theorem sorted_setD {a : Addr} {L : List (Addr × List Int)} {es : Array (Int × Value)} {ep : Nat} {t : SetTable} {Q : Value → Shared → Prop} (R : SetTR P w s.heap a L es ep t) (free : A.handled = none) (room : A.units + 64 < cLine)
    (full : ∀ p ∈ L, p.2 ≠ [])
    (hQ : ∀ s' p (out : Array Value) (c : Nat) (ks : List (List Int)), (∀ b o, s.heap.get? b = some o → s'.heap.get? b = some o) → s'.gens = s.gens → s'.os = s.os → s.heap.objs.size ≤ p →
      s'.heap.get? p = some (seqObj "list" out c) → ks.Perm (L.map (·.2)) → PySem.W.EachIs (fun v b => ∃ q ∈ L, v = Value.ref q.1 ∧ b = tupD q.2) out.toList (sortD (ks.map tupD)) → Q (.ref p) s') :
    wpAny (model P w) A (call (.builtin "sorted") [.ref a]) Q E s := by
  obtain ⟨o, ho, hex, hd⟩ := R.ob
  have few := R.few
  have size := R.size
  refine Calls.call_function_entry kind_sorted plain_sorted entry_sorted (args_sorted1 _) ?_
  unfold Builtin.«sorted»
  refine wpAny_bind (m := checkCount "sorted" 1 1 _) (wpAny_pure ?_)
  refine wpAny_bind (collect_set (A := A.in1) free ⟨o, ho, hex.1, hd⟩ R.fits (by unfold scanBound; omega) R.tab.ris R.led fun s1 vs k1 hz g1 o1 pm => ?_)
  have items : es.toList.map (·.2) = L.map fun q => Value.ref q.1 := by rw [R.rows]; unfold rowsOf; rw [List.map_map] <;> rfl
  rw [items] at pm
  obtain ⟨L1, p1, e1⟩ := perm_map_pick pm
  subst e1
  have len : (L1.map fun q => Value.ref q.1).length < 64 := by rw [List.length_map, p1.length_eq]; exact few
  refine wpAny_bind (wpAny_newList ?_ (by rw [sizeLine_eq]; omega))
  have made : (s1.heap.push (seqObj "list" (L1.map fun q => Value.ref q.1).toArray 0)).get? s1.heap.objs.size = some (seqObj "list" (L1.map fun q => Value.ref q.1).toArray 0) := Heap.get?_push_size _ rfl
  have each : PySem.W.EachIs (fun v b => ∃ q ∈ L1, v = Value.ref q.1 ∧ b = tupD q.2) (L1.map fun q => Value.ref q.1) (L1.map fun q => tupD q.2) := each_maps L1 L1 fun _ h => h
  have mem : ∀ q ∈ L1, q ∈ L := fun q h => p1.mem_iff.mp h
  have reads : PySem.W.EachIs (fun v b => ∃ as, Reads (s1.heap.push (seqObj "list" (L1.map fun q => Value.ref q.1).toArray 0)) v (id b) as ∧ s1.heap.objs.size ∉ as) (L1.map fun q => Value.ref q.1) (L1.map fun q => tupD q.2) := each.mono fun v b ⟨q, hq, e1, e2⟩ => ⟨[], by
    subst e1 e2
    obtain ⟨T, vr, z1, z2, z3⟩ : TS.TupInts (s1.heap.push (seqObj "list" (L1.map fun q => Value.ref q.1).toArray 0)) (.ref q.1) q.2 := tupInts_of (P := P) (w := w) (isT_keep (R.tup q (mem q hq)) fun b u e => Heap.get?_push_of_some _ (k1 b u e))
    cases z1
    exact PyProof.Rows.reads_tuple_ints (vr := vr.toList) (by rw [Array.toArray_toList]; exact z2) z3, fun h => nomatch h⟩
  have al : PySem.W.AllAlike ((L1.map fun q => tupD q.2).map id) := by
    rw [List.map_id]
    intro x hx y hy
    obtain ⟨a, _, rfl⟩ := List.mem_map.mp hx
    obtain ⟨b, _, rfl⟩ := List.mem_map.mp hy
    simp only [tupD, PySem.W.alike]
    exact alike_ints _ _
  have so : PySem.W.Sortable ((L1.map fun q => tupD q.2).map id) := by
    rw [List.map_id]
    refine .inl fun x hx => ?_
    obtain ⟨q, hq, rfl⟩ := List.mem_map.mp hx
    cases e : q.2 with
    | nil => exact absurd e (full q (mem q hq))
    | cons i is => exact ⟨.int i, is.map .int, by simp only [tupD, List.map_cons]⟩
  have un : ∀ b ∈ L1.map (fun q => tupD q.2), A.in1.units + 1 + (id b : D).depth < cLine := fun b hb => by
    obtain ⟨q, hq, rfl⟩ := List.mem_map.mp hb
    have := depth_ints q.2
    have : A.in1.units ≤ A.units + 1 := by first | exact Nat.le_refl _ | (simp [Around.in1]; done) | omega
    show A.in1.units + 1 + (tupD q.2).depth < cLine
    omega
  have fit : (L1.map fun q => tupD q.2).length ≤ sizeLine := by
    rw [List.length_map] at len ⊢
    rw [sizeLine_eq]
    omega
  refine wpAny_bind (wpAny_holding (PySem.W.list_sort_data (enc := id) (R := fun v b => ∃ q ∈ L1, v = Value.ref q.1 ∧ b = tupD q.2) (s := { s1 with heap := s1.heap.push (seqObj "list" (L1.map fun q => Value.ref q.1).toArray 0) }) made each reads al so fit un fun out ho2 eo => ?_))
  obtain ⟨c, hc⟩ := sortedHeap_at (vs := L1.map fun q => Value.ref q.1) (out := out.toArray) made
  refine wpAny_pure ⟨_, rfl, hQ _ s1.heap.objs.size out.toArray c (L1.map (·.2)) (fun b u e => ?_) g1 o1 hz hc (p1.map _) ?_⟩
  · have q := k1 b u e
    have hlt := Heap.lt_size q
    show (sortedHeap (s1.heap.push (seqObj "list" (L1.map fun q => Value.ref q.1).toArray 0)) s1.heap.objs.size (L1.map fun q => Value.ref q.1) out.toArray).get? b = some u
    rw [sortedHeap_old (Nat.ne_of_lt hlt) (by rw [size_push']; exact Nat.lt_succ_of_lt hlt)]
    exact Heap.get?_push_of_some _ q
  · rw [List.map_map]
    exact eo.mono fun v b ⟨q, hq, z⟩ => ⟨q, mem q hq, z⟩
end
end TW
set_option Elab.async false
set_option linter.all false
set_option maxRecDepth 100000
namespace TW
open PySem PySem.Spec PyProof.Rows L2
theorem each_ref {L : List (Addr × List Int)} : ∀ {us : List Value} {bs : List D}, PySem.W.EachIs (fun v b => ∃ q ∈ L, v = Value.ref q.1 ∧ b = tupD q.2) us bs →
    ∃ ys, Vals ys us ∧ PySem.W.EachIs (fun x b => ∃ q ∈ L, x = V.ref q.1 ∧ b = tupD q.2) ys bs
  | _, _, .nil => ⟨[], .nil, .nil⟩
  | _, _, .cons ⟨q, hq, e1, e2⟩ t => by
    obtain ⟨ys, a, b⟩ := each_ref t
    subst e1
    exact ⟨.ref q.1 :: ys, .cons rfl a, .cons ⟨q, hq, rfl, e2⟩ b⟩
theorem cr_sortSet {X : Cx} (hc : X.calm = true) (hu : X.A.units + 64 < cLine) : CallR X (.builtin "sorted") (fun vs H Q => ∃ (a : Addr) (L : List (Addr × List Int)), vs = [V.ref a] ∧ H a = some (SetTO X.prog X.w a L) ∧ (∀ p ∈ L, SqT X.K H p.1 (p.2.map V.int)) ∧ (∀ p ∈ L, p.2 ≠ []) ∧
    ∀ (p : Addr) (ks : List (List Int)) (ys : List V), H p = none → (L.map (·.2)).Nodup → ks.Perm (L.map (·.2)) → ks.length < 64 → PySem.W.EachIs (fun x b => ∃ q ∈ L, x = V.ref q.1 ∧ b = tupD q.2) ys (sortD (ks.map tupD)) → Q (.ref p) (upd H p (.lst ys))) := by
  intro pins s σ H vs us Q I r h
  obtain ⟨a, L, rfl, ha, hk, full, q⟩ := h
  have R0 : SetT0 X.prog X.w s.heap a L := (I.hok a _ ha).1
  obtain ⟨es, ep, t, R⟩ := R0.full fun p hp => I.isT (hk p hp)
  rw [Vals.ref1 r]
  refine sorted_setD R (I.ok.hd hc) hu full fun s' p out c ks k g o hp hg pm eo => ?_
  have few : ks.length < 64 := by rw [pm.length_eq, List.length_map]; exact R.few
  obtain ⟨ys, hv, he⟩ := each_ref eo
  have len : ys.length ≤ sizeLine := by
    have := he.length
    have e := List.length_mergeSort (le := PySem.W.dataLe false id) (ks.map tupD)
    unfold sortD at this
    rw [e, List.length_map] at this
    rw [sizeLine_eq]
    omega
  have hn : H p = none := I.hok.fresh hp
  have J : Inv X pins σ (upd H p (.lst ys)) { s with heap := s'.heap, gens := s'.gens, drawn := s'.drawn, toks := s'.toks } :=
    I.call (ch := []) (Un.laid k hp hn) (I.hok.laid k hp ⟨len, out.toList, c, hv, by rw [Array.toArray_toList]; exact hg⟩) (by rw [g]; exact I.bare) (fun _ z => nomatch z)
  have e : s' = { s with heap := s'.heap, gens := s'.gens, drawn := s'.drawn, toks := s'.toks } := by
    cases s'
    cases s
    cases o
    rfl
  rw [e]
  exact ⟨.ref p, _, J, rfl, q p ks ys hn R.nd pm few he⟩
def rowD : List D → Option (List Int)
  | [] => some []
  | .int i :: ds => (rowD ds).map (i :: ·)
  | _ :: _ => none
def keysD : List D → Option (List (List Int))
  | [] => some []
  | .tuple (.int i :: xs) :: ds => match rowD xs, keysD ds with
    | some is, some ks => some ((i :: is) :: ks)
    | _, _ => none
  | _ :: _ => none
theorem rowD_eq : ∀ {ds : List D} {is : List Int}, rowD ds = some is → ds = is.map .int
  | [], is, e => by cases e; rfl
  | d :: ds, is, e => by
    cases d <;> first
      | (simp [rowD] at e; done)
      | skip
    rename_i i
    simp only [rowD] at e
    cases e2 : rowD ds with
    | none => rw [e2] at e; cases e
    | some js => rw [e2] at e; cases e; rw [rowD_eq e2]; rfl
theorem keysD_eq : ∀ {ds : List D} {ks : List (List Int)}, keysD ds = some ks → ds = ks.map tupD ∧ ∀ k ∈ ks, k ≠ []
  | [], ks, e => by cases e; exact ⟨rfl, fun _ h => nomatch h⟩
  | d :: ds, ks, e => by
    unfold keysD at e
    split at e
    · rename_i q; cases q
    · rename_i i xs ds' q
      cases q
      split at e
      · rename_i is ks' e1 e2
        cases e
        obtain ⟨h1, h2⟩ := keysD_eq e2
        refine ⟨by rw [h1, rowD_eq e1]; rfl, fun k hk => ?_⟩
        rcases List.mem_cons.mp hk with z | z
        · subst z; exact List.cons_ne_nil _ _
        · exact h2 k z
      · cases e
    · cases e
section
variable {K : PySem.W.Frag}
theorem row_rp {G : Hp} : ∀ {vs : List V} {is : List Int}, RpAll K G vs (is.map .int) → vs = is.map V.int
  | _, [], .nil => rfl
  | _, _ :: _, .cons h t => by rw [h.ofInt, row_rp t]; rfl
theorem keys_rp {G : Hp} : ∀ {vs : List V} {ks : List (List Int)}, RpAll K G vs (ks.map tupD) → ∃ ps : List (Addr × List Int), vs = ps.map (fun p => V.ref p.1) ∧ ps.map (·.2) = ks ∧ (∀ p ∈ ps, SqT K G p.1 (p.2.map V.int)) ∧ ∀ p ∈ ps, Rp K G (.ref p.1) (tupD p.2)
  | _, [], .nil => ⟨[], rfl, rfl, (fun _ h => nomatch h), (fun _ h => nomatch h)⟩
  | _, k :: ks, .cons h t => by
    obtain ⟨ps, h1, h2, h3, h4⟩ := keys_rp t
    obtain ⟨a, xs, e1, s1, z1, r1⟩ := Rp.ofTup h
    subst e1
    refine ⟨(a, k) :: ps, by rw [h1]; rfl, by rw [List.map_cons, h2], fun p hp => ?_, fun p hp => ?_⟩
    · rcases List.mem_cons.mp hp with z | z
      · subst z; rw [← row_rp r1]; exact s1
      · exact h3 p z
    · rcases List.mem_cons.mp hp with z | z
      · subst z; exact h
      · exact h4 p z
theorem eachs_rp {G : Hp} {L : List (Addr × List Int)} (hL : ∀ p ∈ L, Rp K G (.ref p.1) (tupD p.2)) : ∀ {ys : List V} {bs : List D}, PySem.W.EachIs (fun x b => ∃ q ∈ L, x = V.ref q.1 ∧ b = tupD q.2) ys bs → RpAll K G ys bs
  | _, _, .nil => .nil
  | _, _, .cons ⟨q, hq, e1, e2⟩ t => by subst e1 e2; exact .cons (hL q hq) (eachs_rp hL t)
end
def seqOf : D → Option (List D)
  | .list ds => some ds
  | .tuple ds => some ds
  | _ => none
def gSetSort (d : D) : R (List D) := match seqOf d with
  | none => .bad
  | some ds => match keysD ds with
    | none => .bad
    | some ks => if ks.length < 64 then .ok (sortD ((uniqL ks).map tupD)) else .bad
theorem gSetSort_ok {d : D} {z : List D} (h : gSetSort d = .ok z) : ∃ ds ks, seqOf d = some ds ∧ keysD ds = some ks ∧ ks.length < 64 ∧ z = sortD ((uniqL ks).map tupD) := by
  unfold gSetSort at h
  split at h
  · cases h
  · split at h
    · cases h
    · split at h
      · cases h; exact ⟨_, _, by assumption, by assumption, by assumption, rfl⟩
      · cases h
theorem RpV.seq {K : PySem.W.Frag} {δ : List C} {σ : L2.St} {G H : Hp} {x : V} {d : D} {ds : List D} (s : Same G H) (h : RpV K δ σ G H x d) (e : seqOf d = some ds) : ∃ a xs, x = .ref a ∧ (SqL K H a xs ∨ SqT K H a xs) ∧ ds.length ≤ sizeLine ∧ RpAll K G xs ds := by
  unfold seqOf at e
  split at e
  · cases e
    obtain ⟨a, xs, e1, h1, h2, h3⟩ := h.lst s
    exact ⟨a, xs, e1, .inl h1, h2, h3⟩
  · cases e
    obtain ⟨a, xs, e1, h1, h2, h3⟩ := h.tup s
    exact ⟨a, xs, e1, .inr h1, h2, h3⟩
  · cases e
section
variable {ct : Nat → Addr} {W : WX} {X : Cx} {a b : Expr} {ma mb : M D} {p p2 q pos : Pos} {k : Nat}
theorem vn_setsort (hc : X.calm = true) (hr : Room k X.A) (hg : Gl X "sorted") (hm : X.mg "sorted" = none) (hg2 : Gl X "set") (hm2 : X.mg "set" = none) (ha : VV ct W X a ma)
    (hs : starEach [.Call (.Name "set" p2) [a] [] q] X.env = (false, eval (.Call (.Name "set" p2) [a] [] q) X.env) :: starEach [] X.env := by rfl) (hs2 : starEach [a] X.env = (false, eval a X.env) :: starEach [] X.env := by rfl) :
    VN ct W X (.Call (.Name "sorted" p) [.Call (.Name "set" p2) [a] [] q] [] pos) (mOp1N gSetSort ma) :=
  PE.conv (pe_callB (cr_sortSet hc (u64 hr)) hg hm PyProof.Rows.boot_sorted (pa_cons (pe_callTy (cr_setAny hc (u64 hr)) hg2 hm2 PyProof.Rows.boot_set (pa_cons ha pa_nil hs2) (by decide) (by decide) hs2) pa_nil hs) (by decide) (by decide) hs) fun σ H Q h => tG.step h fun d δ1 x G1 H1 r1 p1 h1 => by
    obtain ⟨z, ez, h3⟩ := Post.only h1
    obtain ⟨ds, ks, e1, e2, few, ez⟩ := gSetSort_ok ez
    subst ez
    obtain ⟨e3, full⟩ := keysD_eq e2
    subst e3
    obtain ⟨l, xs, e4, sq, hz, ra⟩ := RpV.seq r1.same p1 e1
    subst e4
    obtain ⟨ps, q1, q2, q3, q4⟩ := keys_rp ra
    subst q1 q2
    rw [List.length_map] at few
    refine ⟨l, ps, rfl, sq, fun p hp => Same.sqt r1.same (q3 p hp), few, fun s L hs h5 h6 => ?_⟩
    have hsame : Same H1 (upd H1 s (SetTO X.prog X.w s L)) := same_upd hs
    refine ⟨s, L, rfl, upd_same, fun p hp => Same.sqt hsame (Same.sqt r1.same (q3 p (h5 p hp))), fun p hp => full _ (List.mem_map.mpr ⟨p, h5 p hp, rfl⟩), fun t ls ys ht nd pm lt he => ?_⟩
    have g : Grow G1 H1 G1 (upd H1 s (SetTO X.prog X.w s L)) := Grow.alloc r1.same r1.nt hs
    have r2 := g.rel r1
    have es : sortD (ls.map tupD) = sortD ((uniqL (ps.map (·.2))).map tupD) := tups_unique (pm.trans (uniqL_perm nd (fun x hx => by
      obtain ⟨q, hq, e⟩ := List.mem_map.mp hx
      exact List.mem_map.mpr ⟨q, h5 q hq, e⟩) fun x hx => by
      obtain ⟨q, hq, e⟩ := List.mem_map.mp hx
      subst e
      exact h6 q hq))
    rw [es] at he
    have h4 := Post.at (g.ext (δ := δ1) (σ := σ)) h3
    refine Post.fresh h4 r2 ht ?_ (eachs_rp (fun p hp => q4 p (h5 p hp)) he)
    have el := List.length_mergeSort (le := PySem.W.dataLe false id) ((uniqL (ps.map (·.2))).map tupD)
    have := uniqL_len (ps.map (·.2))
    unfold sortD
    rw [el, List.length_map, sizeLine_eq]
    rw [List.length_map] at this
    omega
def mDct : M D := M.pure (.dict [])
theorem nt_dK {xs : List (Key × V)} : NT (.dK xs) := fun _ e => nomatch e
theorem ve_dct : VE ct W X (.Dict [] [] pos) mDct := PE.conv pe_dnewK fun σ H Q ⟨δ, G, r, h⟩ => fun p hp => Post.done h r (Grow.laid r.same r.nt hp nt_dK) (.dct upd_same)
def oGt : D → D → R D := gOrd fun d e => PySem.W.dataLt e d
def oGe : D → D → R D := gOrd fun d e => !PySem.W.dataLt d e
def gRev : D → R D
  | .tuple ds => .ok (.tuple ds.reverse)
  | _ => .bad
def gStr : D → R D
  | .int i => if decide (-1000000 < i ∧ i < 1000000) then .ok (.str (toString i)) else .bad
  | _ => .bad
theorem ve_str (hg : Gl X "str") (hm : X.mg "str" = none) (ha : VV ct W X a ma) (hs : starEach [a] X.env = (false, eval a X.env) :: starEach [] X.env := by rfl) : VE ct W X (.Call (.Name "str" p) [a] [] pos) (mOp1 gStr ma) :=
  ve_callTy call_str_int (fun δ σ G H x d z Q r hx hz q => by
    unfold gStr at hz
    split at hz
    · split at hz
      · rename_i i hk
        cases hz
        have hb := of_decide_eq_true hk
        refine ⟨i, by rw [hx.int], ?_, q _ G H (Grow.refl r) (.str _)⟩
        by_cases h0 : i.natAbs = 0
        · rw [h0]; decide
        · exact Nat.lt_trans ((Nat.log2_lt h0).mpr (by omega : i.natAbs < 2 ^ 20)) (by decide)
      · cases hz
    · cases hz) hg hm PyProof.Rows.boot_str ha hs
def mPar (i j : Nat) (m : M (List D)) : MS := M.bind m fun ds => match ds with
  | [d, e] => fun cs => .ok (.nx, (cs.set i (.dat d)).set j (.dat e))
  | _ => fun _ => .bad
end
section
variable {P : Program} {w : World} {K : PySem.W.Frag} {mg : Str → Option Value} {base : Heap} {ct : Nat → Addr} {x : Str} {st : Stmt} {N ps : List Str} {k n m : Nat} {body : MS}
theorem calDm (T : Tx K mg x st ps) (S : FnScope N ps (defScope st)) (hm : N.length = m) (hps : ps.length = n) (hn : ps.length ≤ N.length) (hb : BodyOk P w K mg base ct N x st k body) : Cal P w K mg base x ps (k + 1) (spD K ct n (fnD m body)) := hm ▸ calD T S hps hn hb
theorem calNm (T : Tx K mg x st ps) (S : FnScope N ps (defScope st)) (hm : N.length = m) (hps : ps.length = n) (hn : ps.length ≤ N.length) (hb : BodyOk P w K mg base ct N x st k body) : Cal P w K mg base x ps (k + 1) (spN K ct n (fnN m body)) := hm ▸ calN T S hps hn hb
end
def mChain3 (g g' g2 : D → D → R D) (ma mb mc md : M D) : M D := M.bind ma fun x => M.bind mb fun y => M.bind (M.only (g x y)) fun z => match z with
  | .bool true => M.bind mc fun w => M.bind (M.only (g' y w)) fun z => match z with
    | .bool true => M.bind md fun u => M.only (g2 w u)
    | .bool false => M.pure (.bool false)
    | _ => fun _ => .bad
  | .bool false => M.pure (.bool false)
  | _ => fun _ => .bad
section
variable {K : PySem.W.Frag} {h : Heap} {mg : Str → Option Value} {x : Str} {st : Stmt} {ps : List Str} {f : Addr} {oc : Value} {od an : Option Addr} {osl : Array (Option Value)} {kV doc pm cdv ct : Value}
theorem tx_mk (X : K.In h) (G : h.Ns mainGlobals mg) (a : PySem.W.nsIn K mainGlobals x = some (some (.ref f))) (l : K.lookup f = some ⟨oc, od, .func (PySem.W.fnOf x x (defArgs st) (defBody st) (defScope st) .none kV doc pm an cdv ct), osl⟩)
    (c : PySem.W.codeIn K cdv x = true) (k : PySem.W.keepIn K (.ref f) = true)
    (hb : ∀ (kV doc pm : Value) (an : Option Addr) (cdv ct : Value) (us : List Value), us.length = ps.length → bindArgs (PySem.W.fnOf x x (defArgs st) (defBody st) (defScope st) .none kV doc pm an cdv ct) ⟨us, []⟩ = pure (ps.zip us)) : Tx K mg x st ps :=
  ⟨f, _, fun_mk l c k, PySem.W.mg_of X G a, (fun_mk l c k).binds hb⟩
theorem cx_end {P : Program} {w : World} {H : Hp} {s s' : Shared} {e : Value} (h : L2.CX P w [] H s (fun _ _ _ => False) e s') : False := by
  obtain ⟨_, _, _, _, _, _, _, _, _, _, _, _, q⟩ := h
  exact q
end
end TW
set_option Elab.async false
set_option linter.all false
set_option maxRecDepth 100000
namespace PySem
open Sem (wp)
open AutoSeq1 (wpAny_loadPart')
theorem meets_enumerate_newTp (l : Addr) (items : Array Value) (n : Nat) (dct : Option Addr) (sl : Array (Option Value)) :
    Meets (Builtin.«enumerate.__new__» ⟨[.type "enumerate", .ref l], []⟩) (fun _ R s => s.heap.get? l = some { cls := .type "tuple", dict := dct, data := .seq items n, slots := sl } ∧
      R (.ok (.ret (.ref (s.heap.push { cls := .type "tuple_iterator", data := .fields #[.ref l, .int 0 0] }).objs.size)))
        { s with heap := (s.heap.push { cls := .type "tuple_iterator", data := .fields #[.ref l, .int 0 0] }).push { cls := .type "enumerate", data := .fields #[.none, .bool false, .ref s.heap.objs.size, rawInt 0, .none, .none] } }) :=
  .of_wp fun prog w A R s h => by
    obtain ⟨hp, g, d, tk, os⟩ := s; obtain ⟨hl, h⟩ := h
    have hsub := sub_enumerate
    have hL : Heap.IsTuple (Shared.heap ⟨hp, g, d, tk, os⟩) l items := ⟨_, hl, rfl, n, rfl⟩
    wp_walk using wpAny_loadPart' hl
    refine wpAny_stack_any fun st => wpAny_pure ?_
    split
    · rename_i c _ _ _ _ _
      cases (c == Value.type "enumerate")
      · wp_walk using wpAny_loadPart' hl, wpAny_pyIter_tuple hL
        exact ⟨_, rfl, h⟩
      · wp_walk using wpAny_loadPart' hl, wpAny_pyIter_tuple hL
        exact ⟨_, rfl, h⟩
    · wp_walk using wpAny_loadPart' hl, wpAny_pyIter_tuple hL
      exact ⟨_, rfl, h⟩
section
variable {prog : Program} {w : World} {A : Around} {E : Value → Shared → Prop} {s : Shared}
theorem call_enumerate_tupl {l : Addr} {items : Array Value} {Q : Value → Shared → Prop} (hL : s.heap.IsTuple l items)
    (h : ∀ h', IsEnum h' (s.heap.objs.size + 1) s.heap.objs.size 0 .none → h'.IsTupleIter s.heap.objs.size l 0 → h'.objs.size = s.heap.objs.size + 2 →
      (∀ b o, s.heap.get? b = some o → h'.get? b = some o) → Q (.ref (s.heap.objs.size + 1)) { s with heap := h' }) :
    wpAny (model prog w) A (call (.type "enumerate") [.ref l]) Q E s := by
  obtain ⟨⟨c, dct, dt, sl⟩, hl, hc, n, hd⟩ := hL
  replace hc : c = .type "tuple" := hc
  replace hd : dt = .seq items n := hd
  subst hc hd
  refine callType_new F.called_enumerate (by decide) (F.typeCall_enumerate_1 _) (F.newCall_enumerate_1 _) (fun obj => F.args_object_init_2 obj _) F.entry_enumerate_new
    (meets_enumerate_newTp l items n dct sl) ⟨hl, ?_⟩
  have hz : (s.heap.push { cls := .type "tuple_iterator", data := .fields #[.ref l, .int 0 0] }).objs.size = s.heap.objs.size + 1 := Heap.size_push ..
  show _ ∧ _
  rw [hz]
  have he : IsEnum ((s.heap.push { cls := .type "tuple_iterator", data := .fields #[.ref l, .int 0 0] }).push
      { cls := .type "enumerate", data := .fields #[.none, .bool false, .ref s.heap.objs.size, rawInt 0, .none, .none] }) (s.heap.objs.size + 1) s.heap.objs.size 0 .none := by
    have := Heap.get?_push_size (s.heap.push { cls := .type "tuple_iterator", data := .fields #[.ref l, .int 0 0] })
      (o := { cls := .type "enumerate", data := .fields #[.none, .bool false, .ref s.heap.objs.size, rawInt 0, .none, .none] }) rfl
    rw [hz] at this; exact this
  refine ⟨⟨_, he, rfl⟩, h _ he ⟨_, Heap.get?_push_of_some _ (Heap.get?_push_size _ rfl), rfl, rfl⟩ (by rw [Heap.size_push, hz]) fun b o x => Heap.get?_push_of_some _ (Heap.get?_push_of_some _ x)⟩
end
end PySem
namespace TW
open PySem PySem.Spec PyProof.Rows L2
def IteT (K : PySem.W.Frag) (a : Addr) : It :=
  ⟨fun i H => ∃ (xs : List V) (x : V), SqT K H a xs ∧ xs[i]? = some x, fun i H v H' => ∃ T x, v = .ref T ∧ H T = none ∧ H' = upd H T (.tup [.int (i : Nat), x]) ∧ ∀ xs, SqT K H a xs → xs[i]? = some x, fun i H => ∃ xs : List V, SqT K H a xs ∧ xs.length ≤ i⟩
theorem turn_enumT {P : Program} {w : World} {K : PySem.W.Frag} {elts : List Expr} {kk : Nat} {tpos : Pos} (a e it : Addr) :
    Turn P w K (.Tuple elts kk tpos) (IteT K a) [e, it] e (fun i h => (∃ old, IsEnum h e it ((i : Nat) : Int) old) ∧ h.IsTupleIter it a i ∧ e ≠ it ∧ a ≠ it ∧ e ≠ a) where
  mem := by simp
  obj := fun i h st b hb => by
    obtain ⟨⟨old, he⟩, ⟨o, ho, hc, hd⟩, _⟩ := st
    have e' : b = e ∨ b = it := by simpa using hb
    rcases e' with z | z
    · rw [z]; exact ⟨_, he, fun v q => nomatch q⟩
    · rw [z]; exact ⟨o, ho, fun v q => by rw [hd] at q; cases q⟩
  keep := fun i h h' st k => let ⟨⟨old, he⟩, hi, hne⟩ := st; ⟨⟨old, k e (by simp) _ he⟩, hi.at fun o q => k it (by simp) o q, hne⟩
  item := by
    intro X hP hw hK hc i pins s σ H E I hf st hg
    subst hP hw hK
    obtain ⟨⟨old, he⟩, hit, hne, hat, hea⟩ := st
    obtain ⟨xs, x, hq, hx⟩ := hg
    obtain ⟨its, rv, p, hz⟩ := I.tuple hq
    obtain ⟨u, hu, ru⟩ := rv.get hx
    have hel : e < s.heap.objs.size := Heap.lt_size he
    have hil : it < s.heap.objs.size := by obtain ⟨_, q, _⟩ := hit; exact Heap.lt_size q
    have hi : i < its.toArray.size := by
      have := (List.getElem?_eq_some_iff.mp hu).1
      simpa using this
    refine wpAny_pyNext_enum_itemD (A := X.A) (Draws.tuple (A := X.A.in1) (I.ok.hd hc) it a hat its.toArray) he ⟨hit, p⟩ hi hne (by simp [hne, hea]) fun u' h' tk hP ho hst hT hsz hk => ?_
    obtain ⟨hit', hp'⟩ := hst
    have eu : u' = u := by
      have h1 : its[i]? = some u' := by simpa using hP
      rw [hu] at h1
      exact (Option.some.inj h1).symm
    subst eu
    refine ⟨_, rfl, wpAny_letOwnedTupleGo_enum (s := { s with heap := h', toks := tk + 1 }) ho fun h'' he' sb => ?_⟩
    have hT2 : h''.get? s.heap.objs.size = some { cls := .type "tuple", data := .seq #[.int i tk, u'] } := (sb.2 _ (Nat.ne_of_gt hel)).trans hT
    have new : ObjOk X.prog X.w (upd H s.heap.objs.size (.tup [.int (i : Nat), x])) h'' s.heap.objs.size (.tup [.int (i : Nat), x]) :=
      ⟨by show 2 ≤ sizeLine; decide, [.int i tk, u'], .cons ⟨_, rfl⟩ (.cons ru .nil), ⟨_, hT2, rfl, _, rfl⟩⟩
    have I1 : Inv X pins σ (upd H s.heap.objs.size (.tup [.int (i : Nat), x])) { s with heap := h'', toks := tk + 1 } :=
      I.turnedNew (ch := [e, it]) (fun b ob hb q => (sb.2 b (fun z => hb (by simp [z]))).trans (hk b ob (fun z => hb (by simp [z])) (fun z => hb (by simp [z])) q)) hf (Nat.le_refl _) new
    refine ⟨.ref s.heap.objs.size, _, I1, rfl, ⟨_, x, rfl, I.hok.fresh (Nat.le_refl _), rfl, fun ys hy => by rw [I.tuple_inj hy hq]; exact hx⟩, ⟨⟨u', ?_⟩, hit'.at fun o q => (sb.2 it (Ne.symm hne)).trans q, hne, hat, hea⟩, fun b hb => ?_⟩
    · have e1 : ((i + 1 : Nat) : Int) = (i : Int) + 1 := by omega
      rw [e1]; exact he'
    · have hb' : b < s.heap.objs.size := by
        have e' : b = e ∨ b = it := by simpa using hb
        rcases e' with z | z
        · rw [z]; exact hel
        · rw [z]; exact hil
      rw [upd_ne (Nat.ne_of_lt hb')]
      exact (hf b hb).1
  done := by
    intro X hP hw hK hc i pins s σ H E I hf st hg
    subst hP hw hK
    obtain ⟨⟨old, he⟩, hit, hne, hat, hea⟩ := st
    obtain ⟨xs, hq, hx⟩ := hg
    obtain ⟨its, rv, p, hz⟩ := I.tuple hq
    obtain ⟨f0, f1, f2, f3, f4, f5⟩ := hf it (by simp)
    have hl := rv.length
    have hT : s.TypeIs (.ref e) "enumerate" := ⟨_, he, rfl⟩
    have fin : ∀ h', Heap.ExtBut it s.heap h' → _ := fun h' eb => (⟨rfl, I.turned (t' := s.toks) (fun b o hb q => eb b o hb q) f0 f1 f3 f4 f5⟩ : (none : Option Value) = none ∧ Inv X pins σ H { s with heap := h' })
    unfold pyNext
    refine wpAny_bind (wpAny_attempt (wpAny_callSpecial?_slot (name := Str.ofString "__next__") hT F.slot_enumerate_next
      (wpAny_call_entry F.slot_enumerate_next hT F.entry_enumerate_next ?_ (F.args_enumerate_next_1 _))))
    show wpAny _ _ (field (.ref e) 2 >>= _) _ _ _
    refine wpAny_bind (wpAny_field he rfl (x := .ref it) rfl ?_)
    refine wpAny_bind (wpAny_nextOf_tuple_end (I.ok.hd hc) hit p (by simp; omega) fun h' x he' hx' => ?_)
    obtain ⟨o, ho, hc'⟩ := hx'
    refine wpAny_bind (wpAny_isInstance (T := "StopIteration") (b := true) ⟨o, ho, hc'⟩ isSubtype_stop ?_)
    exact wpAny_pure (fin h' he')
  self := fun A i s Q E st h => let ⟨⟨_, he⟩, _⟩ := st; wpAny_pyIter_enum he h
def iEnumT (K : PySem.W.Frag) (ta : TA) : TI := fun σ H R => ta σ H fun vs H1 => ∃ a xs, vs = [.ref a] ∧ ((SqL K H1 a xs ∧ R (Ite K a) H1) ∨ (SqT K H1 a xs ∧ R (IteT K a) H1))
theorem pi_enumT {X : Cx} {e : Expr} {ta : TA} {p pos tpos : Pos} {elts : List Expr} {kk : Nat} (hg : Gl X "enumerate") (hm : X.mg "enumerate" = none) (ha : PA X [e] ta) (hs : starEach [e] X.env = [(false, eval e X.env)] := by rfl) :
    PI X (.Tuple elts kk tpos) (.Call (.Name "enumerate" p) [e] [] pos) (iEnumT X.K ta) := by
  refine ⟨fun pins s σ H R I h => ?_⟩
  refine Call_ (ld_blt I hg hm boot_enumerate (PyProof.Rows.callWith_type1 (thn (ha.run pos pins s σ H _ I h) fun us s1 ⟨vs, H1, I1, r1, q1⟩ => ?_) hs rfl))
  obtain ⟨a, xs, ex, q⟩ := q1
  subst ex
  cases r1 with
  | cons r rr =>
    cases rr
    cases r
    have fresh2 : ∀ b, b ∈ [s1.heap.objs.size + 1, s1.heap.objs.size] → FpOk X pins H1 b := fun b hb => by
      have e' : b = s1.heap.objs.size + 1 ∨ b = s1.heap.objs.size := by simpa using hb
      have hle : s1.heap.objs.size ≤ b := by
        rcases e' with z | z
        · rw [z]; exact Nat.le_add_right _ _
        · rw [z]; exact Nat.le_refl _
      exact I1.fpOk hle (I1.hok.fresh hle)
    rcases q with ⟨hq, q⟩ | ⟨hq, q⟩
    · obtain ⟨its, rv, p', hz⟩ := I1.list hq
      refine call_enumerate_list p'.isList fun h' he hit hsz hk => wpAny_pyIter_enum he ?_
      have I2 : Inv X pins σ H1 { s1 with heap := h' } := I1.kept (t' := s1.toks) hk
      exact ⟨s1.heap.objs.size + 1, [s1.heap.objs.size + 1, s1.heap.objs.size], _, _, H1, rfl, I2, turn_enum a (s1.heap.objs.size + 1) s1.heap.objs.size, ⟨⟨.none, he⟩, hit, Nat.succ_ne_self _⟩, fresh2, q⟩
    · obtain ⟨its, rv, p', hz⟩ := I1.tuple hq
      obtain ⟨o1, ho1, _⟩ := id p'
      have lt := Heap.lt_size ho1
      refine call_enumerate_tupl (show s1.heap.IsTuple a its.toArray from p') fun h' he hit hsz hk => wpAny_pyIter_enum he ?_
      have I2 : Inv X pins σ H1 { s1 with heap := h' } := I1.kept (t' := s1.toks) hk
      exact ⟨s1.heap.objs.size + 1, [s1.heap.objs.size + 1, s1.heap.objs.size], _, _, H1, rfl, I2, turn_enumT a (s1.heap.objs.size + 1) s1.heap.objs.size, ⟨⟨.none, he⟩, hit, Nat.succ_ne_self _, Nat.ne_of_lt lt, Nat.ne_of_gt (Nat.lt_succ_of_lt lt)⟩, fresh2, q⟩
def gEnum : D → R (List D)
  | .list ds => .ok (ds.mapIdx fun i d => zpD [.int (i : Nat), d])
  | .tuple ds => .ok (ds.mapIdx fun i d => zpD [.int (i : Nat), d])
  | _ => .bad
def mEnum (ma : M D) : M (List D) := M.bind ma fun d => M.only (gEnum d)
theorem enum_get {ds : List D} {i : Nat} {d : D} (e : (ds.mapIdx fun i d => zpD [.int (i : Nat), d])[i]? = some d) : ∃ x, ds[i]? = some x ∧ d = zpD [.int (i : Nat), x] := by
  rw [List.getElem?_mapIdx] at e
  cases q : ds[i]? with
  | none => rw [q] at e; cases e
  | some p => rw [q] at e; cases e; exact ⟨p, rfl, rfl⟩
theorem walks_el {K : PySem.W.Frag} {G : Hp} {a : Addr} {xs : List V} {ds : List D} (h : G a = some (.lst xs)) (z : ds.length ≤ sizeLine) (ha : RpAll K G xs ds) : Walks K G (Ite K a) (ds.mapIdx fun i d => zpD [.int (i : Nat), d]) :=
  ⟨by rw [List.length_mapIdx]; exact z, fun i d G' H e s1 s2 n => by
    obtain ⟨d1, q1, rfl⟩ := enum_get e
    obtain ⟨v, h1, h2⟩ := ha.get q1
    have hs : SqL K H a xs := SqL.of (s2 _ _ (s1 _ _ h))
    refine ⟨⟨xs, v, hs, h1⟩, fun x H' ⟨T, x1, e1, e2, e3, e4⟩ => ?_⟩
    have t1 := e4 xs hs
    rw [h1] at t1
    cases t1
    subst e1 e3
    exact pair_grow s2 n e2 (.int _) (h2.mono s1), fun i G' H e s1 s2 => ⟨xs, SqL.of (s2 _ _ (s1 _ _ h)), by
      rw [List.length_mapIdx] at e
      rw [RpAll.length ha]
      exact e⟩⟩
theorem walks_et {K : PySem.W.Frag} {G : Hp} {a : Addr} {xs : List V} {ds : List D} (h : SqT K G a xs) (z : ds.length ≤ sizeLine) (ha : RpAll K G xs ds) : Walks K G (IteT K a) (ds.mapIdx fun i d => zpD [.int (i : Nat), d]) :=
  ⟨by rw [List.length_mapIdx]; exact z, fun i d G' H e s1 s2 n => by
    obtain ⟨d1, q1, rfl⟩ := enum_get e
    obtain ⟨v, h1, h2⟩ := ha.get q1
    have hs : SqT K H a xs := Same.sqt (s1.trans s2) h
    refine ⟨⟨xs, v, hs, h1⟩, fun x H' ⟨T, x1, e1, e2, e3, e4⟩ => ?_⟩
    have t1 := e4 xs hs
    rw [h1] at t1
    cases t1
    subst e1 e3
    exact pair_grow s2 n e2 (.int _) (h2.mono s1), fun i G' H e s1 s2 => ⟨xs, Same.sqt (s1.trans s2) h, by
      rw [List.length_mapIdx] at e
      rw [RpAll.length ha]
      exact e⟩⟩
section
variable {ct : Nat → Addr} {W : WX} {X : Cx} {a b : Expr} {ma mb : M D} {p p2 q pos : Pos} {k : Nat}
theorem vi_enum {elts : List Expr} {kk : Nat} {tpos : Pos} (hg : Gl X "enumerate") (hm : X.mg "enumerate" = none) (ha : VE ct W X a ma)
    (hs : starEach [a] X.env = [(false, eval a X.env)] := by rfl) : VI ct W X (.Tuple elts kk tpos) (.Call (.Name "enumerate" p) [a] [] pos) (mEnum ma) :=
  PI.conv (pi_enumT hg hm (pa_cons ha pa_nil hs) hs) fun σ H R h => tG.step h fun d δ1 x G1 H1 r1 p1 h1 => by
    obtain ⟨z, ez, h3⟩ := Post.only h1
    unfold gEnum at ez
    split at ez
    · cases ez
      obtain ⟨a, xs, e1, k1, k2, k3⟩ := Rp.ofLst p1
      subst e1
      exact ⟨a, xs, rfl, .inl ⟨SqL.of (r1.same _ _ k1), h3 _ _ _ Ext.refl r1 (walks_el k1 k2 k3)⟩⟩
    · cases ez
      obtain ⟨a, xs, e1, k1, k2, k3⟩ := Rp.ofTup p1
      subst e1
      exact ⟨a, xs, rfl, .inr ⟨Same.sqt r1.same k1, h3 _ _ _ Ext.refl r1 (walks_et k1 k2 k3)⟩⟩
    · cases ez
end
def distI : List Int → List Int
  | [] => []
  | x :: r => if x ∈ r then distI r else x :: distI r
theorem distI_mem {x : Int} : ∀ {l : List Int}, x ∈ distI l ↔ x ∈ l
  | [] => Iff.rfl
  | y :: r => by
    unfold distI
    split
    · rename_i h
      rw [distI_mem, List.mem_cons]
      exact ⟨.inr, fun z => z.elim (fun e => e ▸ h) id⟩
    · rw [List.mem_cons, List.mem_cons, distI_mem]
theorem distI_nodup : ∀ {l : List Int}, (distI l).Nodup
  | [] => List.nodup_nil
  | y :: r => by
    unfold distI
    split
    · exact distI_nodup
    · rename_i h
      exact List.nodup_cons.mpr ⟨fun z => h (distI_mem.mp z), distI_nodup⟩
end TW
set_option Elab.async false
set_option linter.all false
set_option maxRecDepth 100000
namespace TW
open PySem PySem.Spec PyProof.Rows L2
def RpVs (K : PySem.W.Frag) (δ : List C) (σ : L2.St) (G H : Hp) : List V → List D → Prop
  | [], [] => True
  | v :: vs, d :: ds => RpV K δ σ G H v d ∧ RpVs K δ σ G H vs ds
  | _, _ => False
def PVs (K : PySem.W.Frag) : Hp → Hp → Hp → List C → L2.St → List V → List D → Prop := fun _ G' H' δ' σ' vs ds => RpVs K δ' σ' G' H' vs ds
instance {K : PySem.W.Frag} : Anti (PVs K) := ⟨fun _ h => h⟩
def lookAt (i : Nat) (ds : List D) : M (List D) := fun cs => match cs[i]? with
  | some (.dat d) => .ok (d :: ds, cs)
  | some (.own _ es) => .ok (.list es :: ds, cs)
  | _ => .bad
def hasC (cs : List C) (i : Nat) : Bool := match cs[i]? with
  | some (.dat _) => true
  | some (.own _ _) => true
  | _ => false
def mLook (i : Nat) (ms : M (List D)) : M (List D) := fun cs => if hasC cs i then (M.bind ms fun ds => lookAt i ds) cs else .bad
def flatD : D → Bool
  | .none | .bool _ | .int _ | .str _ => true
  | _ => false
def liftFlat (r : R D) : M D := fun cs => match r with
  | .ok d => if flatD d then .ok (d, cs) else .bad
  | .err n xs => .err n xs
  | .bad => .bad
def mCallL (n : Nat) (F : List D → R D) (ms : M (List D)) : M D := M.bind ms fun ds => if ds.length = n then liftFlat (F ds) else fun _ => .bad
end TW
set_option Elab.async false
set_option linter.all false
set_option maxRecDepth 100000
namespace TW
open PySem PySem.Spec PyProof.Rows L2
end TW
set_option Elab.async false
set_option linter.all false
set_option maxRecDepth 100000
namespace L2
open PySem PySem.Spec PyProof.Rows
section
variable {P : Program} {w : World} {A : Around} {E : Value → Shared → Prop} {s : Shared}
abbrev bareSet (w : World) : Obj := { cls := .type "set", dict := none, data := .set #[] 0 (.fresh 0 0 (!w.params.followText "set-order")) }
abbrev withSet (w : World) (s : Shared) : Shared := { s with heap := s.heap.push (bareSet w) }
set_option maxHeartbeats 3200000 in
theorem set_called {a : Value} {Q : Value → Shared → Prop} {Z : Shared → Prop} (hz : ∀ s', Z s' → Q (.ref s.heap.objs.size) s')
    (hi : wpAny (model P w) A.in1.in1 (Builtin.«set.__init__» ⟨[.ref s.heap.objs.size, a], []⟩) (fun fin s' => fin = .done (.ret .none) ∧ Z s') E (withSet w s)) : wpAny (model P w) A (call (.type "set") [a]) Q E s := by
  have ft := F.called_set
  obtain ⟨c, tl, q1⟩ := ft.mro
  have q2 := ft.made
  have q3 := ft.sub
  have q4 := ft.notType
  have q5 := ft.canCreate
  have q6 := F.typeCall_set_1 a
  refine wpAny_call (codeAny_of_tree (show wpAny _ _ (callAny (.type "set") _) _ _ _ from wpAny_pure ⟨Code.quiet_builtin _ (by decide +kernel), codeAny_builtin F.entry_type_call ?_⟩))
  rw [Around.under_plain (weight_type_call_type "set" [a] []) rfl]
  repeat (any_goals (first | assumption | wp_step))
  refine codeAny_mono (code_set_led1 a (E := E) (Q₁ := fun v t => v = .ref s.heap.objs.size ∧ t = withSet w s) ⟨rfl, rfl⟩) fun r t hr => ?_
  match r, hr with
  | .error e, hr => exact hr
  | .ok (.ret v), ⟨e1, e2⟩ =>
    subst e1 e2
    have ty : Shared.TypeIs (withSet w s) (.ref s.heap.objs.size) "set" := ⟨_, Heap.get?_push_size _ rfl, rfl⟩
    have q7 := ft.init.lookup
    have q8 := ft.init.bind (.ref s.heap.objs.size)
    repeat (any_goals (first | assumption | wp_step))
    refine codeAny_mono (codeAny_call_builtin (R := wants (fun r t => r = .none ∧ Z t) E) ft.init.plain F.entry_set_init (check_set_init_1 ty (wpAny_mono hi (fun f t ⟨e, z⟩ => by subst e; exact ⟨rfl, z⟩) fun _ _ z => z))) fun r t hr => ?_
    match r, hr with
    | .error e, hr => exact hr
    | .ok (.ret v), ⟨e, z⟩ =>
      subst e
      repeat (any_goals (first | assumption | wp_step))
      exact hz _ z
set_option maxHeartbeats 3200000 in
theorem init_ints {l : Addr} {items : Array Value} (ns : List Int) (hh : A.handled = none) (hl : s.heap.IsList l items) (hit : IntsAre items.toList ns) (hb : ns.length + 1 < scanBound) :
    wpAny (model P w) A (Builtin.«set.__init__» ⟨[.ref s.heap.objs.size, .ref l], []⟩) (fun fin s' => fin = .done (.ret .none) ∧ ∃ (h' : Heap) (tk c : Nat), s' = { s with heap := h', toks := tk } ∧
      SetR w h' s.heap.objs.size (fun j => decide (j ∈ ns)) c ∧ c ≤ ns.length ∧ ∀ b o, s.heap.get? b = some o → h'.get? b = some o) E (withSet w s) := by
  have len : items.size = ns.length := by
    have := IntsAre.length hit
    rwa [Array.length_toList] at this
  obtain ⟨⟨cls, dct, dat, slots⟩, at_l, ec, n, ed⟩ := hl
  simp only at ec ed
  subst ec ed
  have at_set : (withSet w s).heap.get? s.heap.objs.size = some (bareSet w) := Heap.get?_push_size _ rfl
  have at_l2 : (withSet w s).heap.get? l = some { cls := .type "list", dict := dct, data := .seq items n, slots := slots } := Heap.get?_push_of_some _ at_l
  have isl : (withSet w s).heap.IsList l items := ⟨_, at_l2, rfl, n, rfl⟩
  have ty : Shared.TypeIs (withSet w s) (.ref s.heap.objs.size) "set" := ⟨_, at_set, rfl⟩
  have f1 := F.sub_list_set
  have f2 := F.sub_list_frozenset
  have f3 : (Value.type "list" == Value.type "dict") = false := by decide
  have lt : l < s.heap.objs.size := Heap.lt_size at_l
  have two : (withSet w s).heap.objs.size = s.heap.objs.size + 1 := Heap.size_push ..
  unfold Builtin.«set.__init__» noKeywords Builtin.Frozenset.updateFrom
  generalize hp : pyIter = it
  wp_walk
  subst hp
  refine wpAny_pyIter_list isl (wpAny_bind (wpAny_runValue ?_))
  refine set_update_ints ((Walks.list (show A.in1.handled = none by simp [hh]) _ l (by rw [two]; exact Nat.ne_of_lt (Nat.lt_succ_of_lt lt)) items).toS) s.heap.objs.size ?_ ns len hb ?_ (items.size - 0) 0 _ (by omega) (Nat.zero_le _)
    ⟨⟨_, Heap.get?_push_size _ rfl, rfl, rfl⟩, isl.push _⟩ ⟨0, Nat.le_refl 0, setR_new_at (Heap.get?_push_of_some _ at_set)⟩ ?_
  · simp only [List.mem_cons, List.mem_singleton, List.not_mem_nil, or_false, not_or]
    rw [two]
    exact ⟨Nat.ne_of_lt (Nat.lt_succ_self _), Nat.ne_of_gt lt⟩
  · intro i v hv
    have hi : i < ns.length := by rw [← len]; exact (Array.getElem?_eq_some_iff.mp hv).1
    obtain ⟨t, e⟩ := PyProof.Rows.IntsAre.int_at hit i v (by rw [Array.getElem?_toList]; exact hv)
    exact ⟨ns[i], t, List.getElem?_eq_getElem hi, by rw [e, List.getD_eq_getElem?_getD, List.getElem?_eq_getElem hi]; rfl⟩
  · intro t c hm hc hS
    have e : t = { s with heap := t.heap, toks := t.toks } := by
      have a1 : t.gens = s.gens := hm.gens
      have a2 : t.drawn = s.drawn := hm.drawn
      have a3 : t.os = s.os := hm.os
      cases t
      simp only at a1 a2 a3
      subst a1 a2 a3
      rfl
    refine wpAny_pure ?_
    refine wpAny_pure ⟨rfl, t.heap, t.toks, c, e, hS, by omega, fun b o hbo => hm.heap b o ?_ (Heap.get?_push_of_some _ (Heap.get?_push_of_some _ hbo))⟩
    have lb := Heap.lt_size hbo
    simp only [List.mem_cons, List.mem_singleton, List.not_mem_nil, or_false, not_or]
    rw [two]
    exact ⟨Nat.ne_of_lt lb, Nat.ne_of_lt (Nat.lt_succ_of_lt lb)⟩
end
end L2
namespace TW
open PySem PySem.Spec PyProof.Rows L2
def tSetSortI (K : PySem.W.Frag) (ta : TE) : TE := fun σ H Q => ta σ H fun x H1 => ∃ (l : Addr) (ns : List Int), x = .ref l ∧ SqL K H1 l (ns.map V.int) ∧ ns.length < 64 ∧
  ∀ (ms : List Int) (p : Addr), ms.Pairwise (· < ·) → (∀ k, k ∈ ms ↔ k ∈ ns) → ms.length ≤ ns.length → H1 p = none → Q (.ref p) (upd H1 p (.lst (ms.map V.int)))
theorem pe_setsortI {X : Cx} {a : Expr} {ta : TE} {p p2 q pos : Pos} (hg : Gl X "sorted") (hm : X.mg "sorted" = none) (hg2 : Gl X "set") (hm2 : X.mg "set" = none) (ha : PE X a ta) (hc : X.calm = true := by rfl)
    (na : starEach [a] X.env = (false, eval a X.env) :: starEach [] X.env := by rfl) : PE X (.Call (.Name "sorted" p) [.Call (.Name "set" p2) [a] [] q] [] pos) (tSetSortI X.K ta) := by
  refine ⟨fun pins s σ H Q I h => ?_⟩
  refine Call_ (ld_blt I hg hm PyProof.Rows.boot_sorted ?_)
  refine PyProof.Rows.callWith_builtin1 (PyProof.Rows.args_cons ?_ rfl) rfl rfl
  refine Call_ (ld_blt I hg2 hm2 boot_set ?_)
  refine PyProof.Rows.callWith_type1 (PyProof.Rows.args_cons (thn (ha.run pins s σ H _ I h) fun v s1 ⟨x, H1, I1, r1, q1⟩ => PyProof.Rows.args_nil ?_) na) na rfl
  obtain ⟨l, ns, rfl, hq, hl, q1⟩ := q1
  cases r1
  obtain ⟨its, r, pl, hz⟩ := I1.list hq
  refine set_called (fun _ z => ?_) (init_ints ns (show _ = none by simp [I1.ok.hd hc]) pl.isList (by simpa using RZ.intsAre_vals r) (by unfold scanBound; omega))
  obtain ⟨h', tk, c, e0, hR, hcl, hk⟩ := z
  subst e0
  refine PyProof.Rows.args_nil ?_
  have I2 : Inv X pins σ H1 { s1 with heap := h', toks := tk } := I1.kept hk
  refine sorted_set hR (I2.ok.hd hc) (by omega) fun s' p out c' ms k g o hp hgp hi hs hmem hlen => ?_
  have hlen2 : (ms.map V.int).length ≤ sizeLine := by rw [List.length_map, hlen, sizeLine_eq]; omega
  have hn : H1 p = none := I2.hok.fresh hp
  have J : Inv X pins σ (upd H1 p (.lst (ms.map V.int))) { ({ s1 with heap := h', toks := tk } : Shared) with heap := s'.heap, gens := s'.gens, drawn := s'.drawn, toks := s'.toks } :=
    I2.call (ch := []) (Un.laid k hp hn) (I2.hok.laid k hp ⟨hlen2, out.toList, c', vals_of_ints hi, hgp⟩) (by rw [g]; exact I2.bare) (fun _ z => nomatch z)
  have e : s' = { s1 with heap := s'.heap, gens := s'.gens, drawn := s'.drawn, toks := s'.toks } := by
    cases s'
    cases s1
    cases o
    rfl
  rw [e]
  exact ⟨.ref p, _, J, rfl, q1 ms p hs (fun k => by rw [hmem]; simp) (by omega) hn⟩
def gSetSortI : D → R (List D)
  | .list ds => match intsD ds with
    | some ns => if ns.length < 64 then .ok (sortD ((distI ns).map .int)) else .bad
    | none => .bad
  | _ => .bad
section
variable {ct : Nat → Addr} {W : WX} {X : Cx} {a b : Expr} {ma mb : M D} {p p2 q pos : Pos} {k : Nat}
theorem sort_dist {ns ms : List Int} (h : ms.Pairwise (· < ·)) (m : ∀ k, k ∈ ms ↔ k ∈ ns) : sortD ((distI ns).map .int) = ms.map .int := by
  have nd : ms.Nodup := h.imp fun h e => by omega
  have pm : ms.Perm (distI ns) := (List.perm_ext_iff_of_nodup nd distI_nodup).mpr fun x => (m x).trans distI_mem.symm
  obtain ⟨ls, h1, h2⟩ := perm_map_pick (sortD_perm ((distI ns).map PyData.int))
  have h3 := sortD_pw ((distI ns).map PyData.int)
  rw [h2] at h3 ⊢
  rw [List.pairwise_map] at h3
  have h4 : ls.Pairwise (· ≤ ·) := h3.imp fun {a b} h => by
    have : (!PySem.W.dataLt (.int b) (.int a)) = true := h
    rw [PySem.W.dataLt_int] at this
    simp at this
    exact this
  rw [List.Perm.eq_of_pairwise (fun a b _ _ q r => Int.le_antisymm q r) h4 (h.imp fun h => Int.le_of_lt h) (h1.trans pm.symm)]
theorem vn_setsortI (hc : X.calm = true) (hg : Gl X "sorted") (hm : X.mg "sorted" = none) (hg2 : Gl X "set") (hm2 : X.mg "set" = none) (ha : VE ct W X a ma)
    (na : starEach [a] X.env = (false, eval a X.env) :: starEach [] X.env := by rfl) : VN ct W X (.Call (.Name "sorted" p) [.Call (.Name "set" p2) [a] [] q] [] pos) (mOp1N gSetSortI ma) :=
  PE.conv (pe_setsortI hg hm hg2 hm2 ha hc na) fun σ H Q h => tG.step h fun d δ1 x G1 H1 r1 p1 h1 => by
    obtain ⟨z, ez, h3⟩ := Post.only h1
    unfold gSetSortI at ez
    split at ez
    · split at ez
      · rename_i ns e
        split at ez
        · rename_i hz
          cases ez
          obtain ⟨l, xs, e1, k1, k2, k3⟩ := Rp.ofLst p1
          subst e1
          have := intsRp k3 e
          subst this
          refine ⟨l, ns, rfl, SqL.of (r1.same _ _ k1), hz, fun ms p' h5 h6 h7 h8 => ?_⟩
          rw [sort_dist h5 h6] at h3
          exact Post.fresh h3 r1 h8 (by rw [List.length_map, sizeLine_eq]; omega) (ints_rp ms)
        · cases ez
      · cases ez
    · cases ez
end
end TW
set_option Elab.async false
set_option linter.all false
set_option maxRecDepth 100000
namespace TW
open PySem PySem.Spec PyProof.Rows L2
def lookIx (i : Nat) (e : D) : M D := fun cs => match cs[i]? with
  | some (.dat d) => M.only (gIx d e) cs
  | some (.own _ es) => M.only (gIx (.list es) e) cs
  | _ => .bad
def mIxO (i : Nat) (mb : M D) : M D := fun cs => if hasC cs i then (M.bind mb fun e => lookIx i e) cs else .bad
section
variable {ct : Nat → Addr} {W : WX} {X : Cx} {e b : Expr} {mb : M D} {pos : Pos} {i : Nat}
theorem ve_ixO (ho : PE X e (tVar i)) (hb : VE ct W X b mb) (hs : PlainIx b) : VE ct W X (.Subscript e b pos) (mIxO i mb) :=
  PE.conv (pe_ix ix_seq ho hb hs) fun σ H Q ⟨δ, G, r, q⟩ => by
    unfold mIxO at q
    by_cases hc : hasC δ i = true
    rotate_left
    · simp only [hc] at q
      exact q.elim
    simp only [hc, if_true] at q
    have hv : ∃ v, σ[i]? = some (some v) := by
      unfold hasC at hc
      split at hc
      · rename_i d e1
        obtain ⟨v, h1, _⟩ := r.dat i d e1
        exact ⟨v, h1⟩
      · rename_i t ds e1
        obtain ⟨p, vs, h1, _⟩ := r.own i t ds e1
        exact ⟨_, h1⟩
      · cases hc
    obtain ⟨v, hv⟩ := hv
    refine ⟨v, hv, δ, G, r, TW.step r q fun e δ2 y G2 H2 e2 x2 r2 p2 h2 => ?_⟩
    unfold lookIx at h2
    cases e1 : δ2[i]? with
    | none => rw [e1] at h2; exact h2.elim
    | some c =>
      rw [e1] at h2
      cases c with
      | un => exact h2.elim
      | dat d =>
        obtain ⟨w, w1, w2⟩ := r2.dat i d e1
        rw [hv] at w1
        cases w1
        obtain ⟨z, ez, h3⟩ := Post.only h2
        exact r2_Ix δ2 σ G2 H2 v y d e z Q r2 (.inl w2) (.inl p2) ez fun v G' H' g rp => Post.done h3 r2 g rp
      | own t ds =>
        obtain ⟨q, ws, w1, w2, w3, w4, w5⟩ := r2.own i t ds e1
        rw [hv] at w1
        cases w1
        obtain ⟨z, ez, h3⟩ := Post.only h2
        exact r2_Ix δ2 σ G2 H2 (.ref q) y (.list ds) e z Q r2 (.inr ⟨q, ws, ds, rfl, rfl, w2, w4, w5, .inl ⟨i, t, e1, hv⟩⟩) (.inl p2) ez fun v G' H' g rp => Post.done h3 r2 g rp
end
end TW
set_option Elab.async false
set_option linter.all false
set_option maxRecDepth 100000
namespace TW
open PySem PySem.Spec PyProof.Rows L2
structure ErrC (K : PySem.W.Frag) (mg : Str → Option Value) (ct : Nat → Addr) (n : Nat) (x : Str) : Prop where
  gC : mg x = some (.ref (ct n))
  q : ∃ (B newId initId : String) (bmB : List Value), ExcBaseFacts B newId initId bmB ∧ PySem.W.excIn K (ct n) bmB newId = true
  kC : PySem.W.keepIn K (.ref (ct n)) = true
  sub : PySem.W.subIn K (.ref (ct n)) (.type "BaseException") = some true
  ty : PySem.W.typeIn K (.ref (ct n)) = some (.type "type")
def mErr (n : Nat) : MS := fun _ => .err n []
section
variable {ct : Nat → Addr} {W : WX} {X : Cx} {p p2 p3 pos : Pos}
theorem EExt.refl {K : PySem.W.Frag} {δ : List C} {σ : L2.St} {H : Hp} (t : LamX.Tabs (lamT K) H) : EExt K δ σ H H := ⟨fun _ _ h _ _ => h, fun _ h => h, t⟩
theorem vs_raise {n j : Nat} {x m : Str} (hc : X.calm = true) (tk : Takes X W) (E : ErrC X.K X.mg ct n x) (hg : Gl X x) (hdb : (x == ("__debug__" : Str)) = false := by decide) :
    VS ct W X (.Raise (some (.Call (.Name x p) [.Constant (.str m) j p2] [] p3)) none pos) (mErr n) := by
  obtain ⟨B, newId, initId, bmB, F, q⟩ := E.q
  exact PS.conv (ps_raise hc tk (pmk_own F q E.gC E.kC (raises_own E.sub E.ty) hg hdb)) fun De σ H ⟨δ, G, rel, h⟩ => h (.ref (ct n)) none σ H (EExt.refl rel.tabs) ⟨rfl, rfl⟩
end
end TW
set_option Elab.async false
set_option linter.all false
set_option maxRecDepth 100000
namespace TW
open PySem PySem.Spec PyProof.Rows L2
abbrev withPin (X : Cx) (q : Addr × Obj) : Cx := { X with pn := q :: X.pn }
section
variable {X : Cx} {pins : List (Addr × Obj)} {σ : L2.St} {H : Hp} {s : Shared} {q : Addr × Obj}
theorem pin_in (I : Inv X (q :: pins) σ H s) : Inv (withPin X q) pins σ H s :=
  ⟨I.ok.toTry _ _, I.os, I.bare, I.base, I.loc, I.cell, I.free, I.freeC, fun p hp => I.pin p (by
    have hp' : p ∈ q :: (X.pn ++ pins) := hp
    rcases List.mem_cons.mp hp' with e | h
    · rw [e]; exact List.mem_append_right _ List.mem_cons_self
    · rcases List.mem_append.mp h with z | z
      · exact List.mem_append_left _ z
      · exact List.mem_append_right _ (List.mem_cons_of_mem _ z)), I.hok, I.len⟩
theorem pin_out (ok : X.Ok) (I : Inv (withPin X q) pins σ H s) : Inv X pins σ H s :=
  ⟨ok, I.os, I.bare, I.base, I.loc, I.cell, I.free, I.freeC, fun p hp => I.pin p (List.mem_cons_of_mem _ hp), I.hok, I.len⟩
theorem pin_suite {a : Addr} {oe : Obj} {pn' : List (Addr × Obj)} (I : Inv (X.suite a ((a, oe) :: (X.pn ++ pins))) pn' σ H s) (ok : X.Ok) : Inv X ((a, oe) :: pins) σ H s :=
  ⟨ok, I.os, I.bare, I.base, I.loc, I.cell, I.free, I.freeC, fun p hp => I.pin p (List.mem_append_left _ (by
    rcases List.mem_append.mp hp with z | z
    · exact List.mem_cons_of_mem _ (List.mem_append_left _ z)
    · rcases List.mem_cons.mp z with e | z
      · rw [e]; exact List.mem_cons_self
      · exact List.mem_cons_of_mem _ (List.mem_append_right _ z))), I.hok, I.len⟩
end
def wAsR (L : Nat) (K : PySem.W.Frag) (c : Value) (i : Nat) (ts v : Addr → Value → Option Addr → TS) (Wout : WX) (D : Ends) : WX := fun cls d σ H =>
  ∃ b, PySem.W.exmOne K cls c = some b ∧ (b = true → σ.length = L → ∀ a, H a = none → ts a cls d { nx := fun σ' H' => v a cls d D (σ'.set i none) H', rt := fun _ _ => False } (σ.set i (some (.ref a))) H) ∧
    (b = false → Wout cls d σ H)
section
variable {X : Cx} {x n : Str} {c : Value} {i : Nat} {body suite rest : List Stmt} {b₀ : Stmt} {np pos pos' : Pos} {tb : WX → TS} {ts v : Addr → Value → Option Addr → TS} {u : TS} {Wout : WX}
theorem pss_try_rest (hs : X.stack = X.env :: X.outer) (hf : X.env.frame = some X.env.locals) (hN : X.N.Nodup) (hi : X.N[i]? = some n) (hln : X.env.kindOf n = some .local) (hc : Names X x c) (tk : Takes X Wout)
    (hb : ∀ (W : WX) (pn : List (Addr × Obj)) (xe : Value → Shared → Prop), Takes (X.tr pn xe) W → PassesOwn (model X.prog X.w) X.A X.env xe → PSs (X.tr pn xe) body (tb W))
    (hsu : ∀ (a : Addr) (oe : Obj) (cls : Value) (d : Option Addr) (pn : List (Addr × Obj)), Zc cls d oe → (∃ vs, oe.data = .fields vs) → PSs (X.suite a ((a, oe) :: pn)) (b₀ :: suite) (ts a cls d))
    (ho : PSs X rest u) (he : ∀ (a : Addr) (oe : Obj) (cls : Value) (d : Option Addr), Zc cls d oe → (∃ vs, oe.data = .fields vs) → PSs (withPin X (a, oe)) rest (v a cls d)) :
    PSs X (.Try body [.ExceptHandler (some (.Name x np)) (some n) (b₀ :: suite) pos'] [] [] pos :: rest) (fun D σ H => tb (wAsR X.N.length X.K c i ts v Wout D) { D with nx := u D } σ H) := by
  refine ⟨fun pins s σ H D I h => ?_⟩
  have ok := I.ok
  have hfr : X.A.frames = some (X.env :: X.outer) := by rw [ok.frames, hs]
  have hloc : Loc X.env.scope n := .inl hln
  refine wpAny_execs_cons ?_
  refine wpAny_Try_except ?_
  let Post : Flow → Shared → Prop := fun f s1 => match f with
    | .next => wpAny (model X.prog X.w) X.A (execs rest X.env) (SP X pins D) X.xe s1
    | f => SP X pins D f s1
  refine wpAny_mono ((hb (wAsR X.N.length X.K c i ts v Wout D) (X.pn ++ pins) (fun e s₁ => wpAny (model X.prog X.w) X.A (noteFrame e X.env) (fun _ s₂ => wpAny (model X.prog X.w) X.A (setFlight e none) (fun _ s₃ =>
    wpAny (model X.prog X.w) X.A (handleBy e X.env [.ExceptHandler (some (.Name x np)) (some n) (b₀ :: suite) pos']) Post X.xe s₃) X.xe s₂) X.xe s₁) (fun u s' xx => ?_) PassesOwn.looking).run [] s σ H _ (I.toTry _) h) (fun f s1 hsp => ?_) (fun e s1 he => he)
  · obtain ⟨a, B, sI, pins', σ', H', cls, d, rfl, J', nb, up, sky, na, os, ag, b, hb1, hyes, hno⟩ := xx
    have J : Inv X pins σ' H' sI := J'.ofTry ok
    have sky' : Sky B (X.env :: X.outer) a (Zc cls d) X.env.locals s'.heap := by rw [← hs]; exact sky
    show wpAny (model X.prog X.w) X.A (noteFrame (.ref a) X.env) _ _ _
    refine Sky.land Zc.steady hfr hf sky' fun h3 fl3 up3 => ?_
    have J3 : Inv X pins σ' H' { s' with heap := h3 } := J.landed nb fl3.1 (up.trans up3) os ag
    obtain ⟨oe3, vs3, he3, hz3, hd3⟩ := fl3.there
    have notFr : ∀ {h : Heap} {o : Obj} {vs : Array Value}, h.FunFrames B (X.env :: X.outer) → h.get? a = some o → o.data = .fields vs → a ∉ frs (X.env :: X.outer) := fun {h o vs} ff e dd hm => by
      obtain ⟨_, o', e', hnf⟩ := ff.mem hm
      rw [e] at e'; cases e'
      exact hnf _ dd
    have nfr := notFr fl3.2.2.1 he3 hd3
    have nL : a ≠ X.env.locals := fun z => nfr (List.mem_filterMap.mpr ⟨X.env, List.mem_cons_self, by rw [hf, z]⟩)
    have nF : a ∉ X.fs := fun hm => by
      obtain ⟨e, he, q⟩ := List.mem_filterMap.mp hm
      exact nfr (List.mem_filterMap.mpr ⟨e, List.mem_cons_of_mem _ he, q⟩)
    have S3 := J3.suite he3 hd3 na nL nF
    refine wpAny_handleBy_cons (codeAny_handlers_test ?_) (by intro q; cases q)
    have LT : PySem.W.Looks (model X.prog X.w) h3 (typeOf (.ref a)) cls := fun A Q E s k q => wpAny_typeOf_ref (k _ _ he3) (by rw [hz3.1]; exact q)
    have LM := PySem.W.exm_one (M := model X.prog X.w) (J3.kIn) LT hb1
    have test : ∀ {Q : Value → Shared → Prop} {E : Value → Shared → Prop}, Q c { s' with heap := h3 } → wpAny (model X.prog X.w) (X.A.mark (some (.ref a))) (eval (.Name x np) X.env) Q E { s' with heap := h3 } := fun {Q E} q => by
      obtain ⟨hg, hdbg, hm | ⟨hm, hv, hnn⟩⟩ := hc
      · exact ld_glob (X := X.suite a ((a, oe3) :: (X.pn ++ pins))) S3 hg hm q hdbg
      · exact ld_blt (X := X.suite a ((a, oe3) :: (X.pn ++ pins))) S3 hg hm hv q hnn hdbg
    refine test (LM.here ?_)
    cases b with
    | true =>
      refine codeAny_handlers_suite_as ?_
      refine HandSPX.lands_againZ fl3 fun h4 fl4 up4 => ?_
      have J4 : Inv X pins σ' H' { s' with heap := h4 } := J.landed nb fl4.1 ((up.trans up3).trans up4) os ag
      obtain ⟨oe4, vs4, he4, hz4, hd4⟩ := fl4.there
      have S4 := J4.suite he4 hd4 na nL nF
      refine store_ok (X := X.suite a ((a, oe4) :: (X.pn ++ pins))) (v := .ref a) S4 hN hi hloc rfl (fun s5 S5 => ?_) (.inr hln)
      refine wpAny_mono ((hsu a oe4 cls d (X.pn ++ pins) hz4 ⟨_, hd4⟩).run [] s5 _ H' _ S5 (hyes rfl J.len a na)) (fun f s6 hsp => ?_) (fun _ _ z => False.elim z)
      cases f with
      | next =>
        obtain ⟨σ6, H6, S6, q6⟩ := hsp
        refine gone_ok (pin_suite S6 ok) hN hi hln fun s7 J7 => ?_
        show wpAny (model X.prog X.w) X.A (execs rest X.env) (SP X pins D) X.xe s7
        refine thn ((he a oe4 cls d hz4 ⟨_, hd4⟩).run pins s7 _ H6 D (pin_in J7) q6) fun f s8 q8 => ?_
        cases f with
        | next => obtain ⟨σ', H', J', q⟩ := q8; exact ⟨σ', H', pin_out ok J', q⟩
        | brk => obtain ⟨σ', H', J', q⟩ := q8; exact ⟨σ', H', pin_out ok J', q⟩
        | cont => obtain ⟨σ', H', J', q⟩ := q8; exact ⟨σ', H', pin_out ok J', q⟩
        | ret u => obtain ⟨v, σ', H', J', r, q⟩ := q8; exact ⟨v, σ', H', pin_out ok J', r, q⟩
      | brk => obtain ⟨_, _, _, q6⟩ := hsp; exact False.elim q6
      | cont => obtain ⟨_, _, _, q6⟩ := hsp; exact False.elim q6
      | ret u => obtain ⟨_, _, _, _, _, q6⟩ := hsp; exact False.elim q6
    | false =>
      show wpAny _ X.A (handleBy (.ref a) X.env []) _ _ _
      refine wpAny_handleBy_nil ?_
      obtain ⟨k1, k2, k3, oe, vs, T, oT, ts', he, hz, hd, h1, hr⟩ := id fl3
      unfold PySem.passOn
      refine wpAny_bind (wpAny_field he hd h1 ?_)
      rw [if_neg (show ¬ ((Value.ref T == Value.none) = true) from by simp)]
      have fin : wpAny (model X.prog X.w) X.A (setFlight (.ref a) X.env.frame) (fun _ s4 => wpAny (model X.prog X.w) X.A (throw (.ref a) : Sem Flow) Post X.xe s4) X.xe { s' with heap := h3 } := by
        rw [hf]
        refine HandSPX.setFlight_upZ fl3 fun h4 hh4 up4 => wpAny_throw (tk _ _ ?_)
        exact ⟨a, B, sI, pins, σ', H', cls, d, rfl, J, nb, (up.trans up3).trans up4, .inr (.inr (by rw [hs]; exact hh4)), na, os, ag, hno rfl⟩
      first
        | exact wpAny_bind (wpAny_pure (wpAny_bind fin))
        | exact wpAny_bind fin
  · cases f with
    | next =>
      obtain ⟨σ', H', J', q⟩ := hsp
      refine wpAny_execs_nil ?_
      exact ho.run pins s1 σ' H' D (J'.ofTry ok) q
    | brk => obtain ⟨σ', H', J', q⟩ := hsp; exact ⟨σ', H', J'.ofTry ok, q⟩
    | cont => obtain ⟨σ', H', J', q⟩ := hsp; exact ⟨σ', H', J'.ofTry ok, q⟩
    | ret u => obtain ⟨v, σ', H', J', r, q⟩ := hsp; exact ⟨v, σ', H', J'.ofTry ok, r, q⟩
end
end TW
set_option Elab.async false
set_option linter.all false
set_option maxRecDepth 100000
namespace TW
open PySem PySem.Spec PySem.Calls PyProof.Rows PySem.W
section
variable {prog : Program} {w : World} {A : Around} {E : Value → Shared → Prop} {s : Shared} {K : Frag} {x D : Addr} {ox : Obj} {od : Option Obj}
theorem find_class {C : Addr} {name : Str} {a g : Value} (hc : (clsIn K C).isSome = true) (ha : findIn K (.ref C) name = some (some a)) (hg : specialIn K a "__get__" = some (some g)) (ht : takesIn K a = some true) : findObj K C od name = some (.bind g a) := by
  obtain ⟨cd, hc⟩ := Option.isSome_iff_exists.mp hc
  unfold findObj
  rw [hc, Option.bind_some, ha, Option.bind_some]
  simp [hg, ht]
theorem get_class {Q : Option Value → Shared → Prop} (c : L2.ExcC K D) (X : K.In s.heap) (I : InstAt s.heap x ox D od) (h : Q (some (.ref D)) { s with toks := s.toks + 1 }) : wpAny (model prog w) A (getAttr? (.ref x) "__class__") Q E s := by
  have hf : findObj K D od "__class__" = some (.bind (.builtin "getset_descriptor.__get__") (.builtin "object.__class__")) := find_class (by obtain ⟨cd, hc, _⟩ := any_some c.hd; rw [hc]; rfl) c.ha c.hn c.ht
  obtain ⟨hp, g, d, t, os⟩ := s
  have L0 := I.type (M := model prog w)
  have L1 := looks_findIn (M := model prog w) X c.hg
  have L2' := looks_findIn (M := model prog w) X c.hk
  have L3 := looks_find (M := model prog w) X I hf
  have sub : Looks (model prog w) hp (isInstance (.ref x) (.type "BaseException")) true := L0.andThen (looks_subIn X c.hs)
  have hx0 : (false && onTheHeap (Value.builtin "BaseException.__getattribute__")) = false := rfl
  have hx2 : (Value.builtin "BaseException.__getattribute__" == Value.builtin "object.__getattribute__") = false := by decide +kernel
  have hx1 : (onTheHeap (Value.ref D) && Value.builtin "BaseException.__getattribute__" == Value.builtin "object.__getattribute__") = false := by rw [hx2]; rfl
  unfold getAttr? getAttrBy? getAttrBy
  refine wpAny_bind (wpAny_mkText (wpAny_bind (wpAny_attempt (wpAny_holding (wpAny_bind (L0.at (wpAny_bind (L1.at ?_))))))))
  show wpAny _ _ (if (onTheHeap (Value.ref D) && Value.builtin "BaseException.__getattribute__" == Value.builtin "object.__getattribute__") = true then _ else _) _ _ _
  rw [hx1, if_neg Bool.false_ne_true]
  unfold getAttrByItsOwn hookBefore
  refine wpAny_bind ?_
  rw [if_pos (show onTheHeap (Value.ref D) = true from rfl)]
  refine L2'.at ?_
  refine wpAny_bind (wpAny_attempt (wpAny_holding ?_))
  unfold callGetattribute
  rw [hx0, if_neg Bool.false_ne_true]
  unfold boundAndCalled
  rw [PySem.F.excAttr_ValueError.ga.bind (.ref x)]
  refine wpAny_bind (wpAny_pure ?_)
  show wpAny _ _ (call (.builtin "BaseException.__getattribute__") [.ref x, .str "__class__" t]) _ _ _
  refine wpAny_call (codeAny_call_builtin PySem.F.excAttr_ValueError.ga.plain PySem.F.entry_bexc_ga ?_)
  refine @check_slot (model prog w) _ _ ⟨hp, g, d, t + 1, os⟩ "BaseException.__getattribute__" "BaseException" "__getattribute__" (.ref x) [.str "__class__" t] [] _ (by decide +kernel) (by decide +kernel) sub (PySem.F.args_bexc_ga (.ref x) (.str "__class__" t)) ?_
  unfold Builtin.«object.__getattribute__»
  refine wpAny_bind (wpAny_of_eq (a := ((Value.ref x : Value), [Value.str "__class__" t])) (by first | rfl | (simp only [slotArgs]; rfl)) ?_)
  refine wpAny_bind (wpAny_pure (wpAny_bind (L0.at (wpAny_bind (L3.at ?_)))))
  show wpAny _ _ (holding [Value.builtin "object.__class__"] (call (.builtin "getset_descriptor.__get__") [.builtin "object.__class__", .ref x, .ref D]) >>= ret) _ _ _
  refine wpAny_bind (wpAny_holding (wpAny_call (class_get (s := ⟨hp, g, d, t + 1, os⟩) (ox := ox) (od := od) X I c.hm ?_)))
  refine wpAny_pure ?_
  show wpAny _ _ (handedOut (.ref D)) _ _ _
  rw [handedOut_of (v := .ref D) rfl]
  first
    | exact wpAny_pure (wpAny_pure h)
    | exact wpAny_pure h
    | exact wpAny_pure (wpAny_bind (wpAny_pure (wpAny_pure h)))
theorem kit_exc (c : L2.ExcC K D) : KitX K (.ref x) (.ref D) (fun h => InstAt h x ox D od) where
  ty := fun _ _ _ I => I.type
  it := fun _ _ X _ => by
    obtain ⟨cdD, hcD, _⟩ := any_some c.hd
    unfold clsIn at hcD
    split at hcD
    · rename_i c' d' cd' sl' ho
      intro A' Q' E' s' k q
      unfold isType loadHead
      exact wpAny_bind (wpAny_loadPart (k _ _ (X _ _ ho)) (wpAny_pure q))
    · cases hcD
  ne := fun h tp dd its n sl X htp => by
    obtain ⟨cdD, hcD, _⟩ := any_some c.hd
    refine Bool.eq_false_iff.mpr fun q => ?_
    have e : D = tp := Value.ref.inj (beq_iff_eq.mp q)
    subst e
    unfold clsIn at hcD
    split at hcD
    · rename_i c' d' cd' sl' ho
      have z := (X _ _ ho).symm.trans htp
      cases z
    · cases hcD
  ca := fun X I k => get_class c X I k
end
open L2
def rIsP (K : PySem.W.Frag) (D a : Addr) (d : Option Addr) : List V → Hp → VK → Prop := fun xs H Q => ∃ (c : V) (cv : Value) (b : Bool), xs = [.ref a, c] ∧ (∀ u, RelV c u → u = cv) ∧ (∀ dd, d = some dd → ∃ fs, H dd = some (.xd fs)) ∧ PySem.W.kitOne K (.ref D) cv = some b ∧ Q (.bl b) H
section
variable {X : Cx} {a D : Addr} {oe : Obj} {d : Option Addr}
theorem call_isP (C : ExcC X.K D) (hz : Zc (.ref D) d oe) (hf : ∃ vs, oe.data = .fields vs) : CallR (withPin X (a, oe)) (.builtin "isinstance") (rIsP X.K D a d) := by
  intro pins s σ H xs us Q I r h
  obtain ⟨c, cv, b, rfl, hcv, hd, e, q⟩ := h
  cases r with
  | cons rx rr =>
    cases rr with
    | cons rt rr =>
      cases rr
      cases rx
      have ec := hcv _ rt
      subst ec
      obtain ⟨hget, _⟩ := I.pin (a, oe) List.mem_cons_self
      obtain ⟨vs, hv⟩ := hf
      have J : ∃ od, PySem.W.InstAt s.heap a oe D od := by
        cases d with
        | none => exact ⟨none, hget, hz.1, by unfold PySem.W.notCls; rw [hv] <;> rfl, by rw [hz.2]; trivial⟩
        | some dd =>
          obtain ⟨fs, hfs⟩ := hd dd rfl
          obtain ⟨mA, hns, hr⟩ : ObjOk X.prog X.w H s.heap dd (.xd fs) := I.hok dd _ hfs
          obtain ⟨od, ho, hl⟩ := lookIn_ns hns
          exact ⟨some od, hget, hz.1, by unfold PySem.W.notCls; rw [hv] <;> rfl, by rw [hz.2]; exact ho⟩
      obtain ⟨od, J⟩ := J
      exact PySem.W.kia_one (kit_exc C) I.kIn J e (fun z => nomatch z) fun tk => ⟨.bl b, H, I.kept (t' := tk) fun _ _ z => z, rfl, q⟩
theorem pe_xp {C : Addr} {cls : Value} {e : Expr} {te : TE} {pos : Pos} {n : Str} (T : XfC X.K C) (hno : PySem.W.findIn X.K (.ref C) n = some none)
    (hz : Zc cls d oe) (hf : ∃ vs, oe.data = .fields vs) (he : PE (withPin X (a, oe)) e te) (hb : attributeBase e n X.env (eval e X.env) = eval e X.env := by rfl) :
    PE (withPin X (a, oe)) (.Attribute e n pos) (tXf a cls d C n te) := by
  refine ⟨fun pins s σ H Q I h => ?_⟩
  refine attr_of hb (thn (he.run pins s σ H _ I h) fun u s1 hh => ?_)
  obtain ⟨x, H1, I1, rx, ex, ec, dd, fs, v, ed, ea, l, q⟩ := hh
  subst ex
  obtain rfl : u = Value.ref a := rx
  subst ec
  subst ed
  obtain ⟨ha, _⟩ := I1.pin (a, oe) List.mem_cons_self
  obtain ⟨vs, hd⟩ := hf
  have hx : ObjOk X.prog X.w H1 s1.heap dd (.xd fs) := I1.hok dd _ ea
  obtain ⟨mA, hns, hr⟩ := hx
  obtain ⟨od, ho, hl⟩ := lookIn_ns hns
  obtain ⟨u, hu, ru⟩ := RelO.some_of (v := v) (o := mA n) (by rw [← l]; exact hr n)
  have J : PySem.W.InstAt s1.heap a oe C (some od) := ⟨ha, hz.1, by unfold PySem.W.notCls; rw [hd] <;> rfl, by rw [hz.2]; exact ho⟩
  exact HandSPX.exc_get I1.kIn J T.ga T.gg T.exC (PySem.W.findObj_own T.hdC hno rfl (by rw [hl, hu])) (handed_of ru) ⟨v, H1, I1.tok _, ru, q⟩
end
end TW
set_option Elab.async false
set_option linter.all false
set_option maxRecDepth 100000
namespace TW
open PySem PySem.Spec PyProof.Rows L2
structure Marks (K : PySem.W.Frag) (ct : Nat → Addr) (cw : Addr) : Prop where
  exc : ∀ n, n < 13 → ExcC K (ct n)
  one : ∀ n, n < 13 → ∀ m, m < 13 → PySem.W.kitOne K (.ref (ct n)) (.ref (ct m)) = some (n == m)
  non : ∀ m, m < 13 → PySem.W.kitOne K (.type "NoneType") (.ref (ct m)) = some false
  val : ∀ n, n < 13 → PySem.W.kitOne K (.ref (ct n)) (.type "ValueError") = some true
  nov : PySem.W.kitOne K (.type "NoneType") (.type "ValueError") = some false
  web : ∀ n, n < 13 → PySem.W.exmOne K (.ref (ct n)) (.ref cw) = some true
abbrev Known := Option (Nat × Addr × Option Addr)
def excIs (kn : Known) (k : Int) (x : D) : Option Nat := match kn, x with
  | some (n, a, none), .none => if k = a then some n else none
  | some (n, a, some dd), .tuple [.int k', _, _] => if k = a ∧ k' = dd then some n else none
  | _, _ => none
def gIsNo : D → R D
  | .none => .ok (.bool false)
  | _ => .bad
def gIsX (kn : Known) (m : Nat) : D → R D
  | .dict [(.int k, x)] => match excIs kn k x with
    | some n => .ok (.bool (n == m))
    | none => .bad
  | _ => .bad
def gIsVX (kn : Known) : D → R D
  | .dict [(.int k, x)] => match excIs kn k x with
    | some _ => .ok (.bool true)
    | none => .bad
  | _ => .bad
theorem rp_exc {K : PySem.W.Frag} {G : Hp} {v : V} {k : Int} {x : D} {n : Nat} {a : Addr} {d : Option Addr} (h : Rp K G v (.dict [(.int k, x)])) (e : excIs (some (n, a, d)) k x = some n) : v = .ref a ∧ ∀ dd, d = some dd → ∃ fs, G dd = some (.xd fs) := by
  cases h with
  | ex0 =>
    cases d with
    | none =>
      simp only [excIs] at e
      split at e
      · rename_i z
        exact ⟨by rw [show (_ : Addr) = a from Int.ofNat.inj z], fun dd q => (nomatch q)⟩
      · cases e
    | some dd => simp [excIs] at e
  | exF hg =>
    cases d with
    | none => simp [excIs] at e
    | some dd =>
      simp only [excIs] at e
      split at e
      · rename_i z
        refine ⟨by rw [show (_ : Addr) = a from Int.ofNat.inj z.1], fun d' q => ?_⟩
        cases q
        rw [← show (_ : Addr) = dd from Int.ofNat.inj z.2]
        exact ⟨_, hg⟩
      · cases e
section
variable {ct : Nat → Addr} {cw : Addr} {W : WX} {X : Cx} {e b : Expr} {me : M D} {p q pos : Pos}
theorem ve_isO0 {m : Nat} (M : Marks X.K ct cw) (hm13 : m < 13) (hg : Gl X "isinstance") (hm : X.mg "isinstance" = none) (ha : VE ct W X e me) (hb : PE X b (tC (.ref (ct m))))
    (hs : starEach [e, b] X.env = (false, eval e X.env) :: starEach [b] X.env := by rfl) (hs2 : starEach [b] X.env = (false, eval b X.env) :: starEach [] X.env := by rfl) (hpl : (backTo pos (starEach [b] X.env)).any (·.1) = false := by rfl) :
    VE ct W X (.Call (.Name "isinstance" p) [e, b] [] pos) (mOp1 gIsNo me) :=
  PE.conv (pe_callB call_isi hg hm PyProof.Rows.boot_isinstance (pa_cons ha (pa_cons hb pa_nil hs2) hs) (by decide) (by decide) hs hpl) fun σ H Q h => tG.step h fun d δ1 x G1 H1 r1 p1 h1 => by
    obtain ⟨z, ez, h3⟩ := Post.only h1
    cases d <;> first
      | (cases ez; done)
      | skip
    cases ez
    have ex := Rp.ofNon p1
    subst ex
    exact ⟨.non, .ref (ct m), _, _, false, rfl, .own _, .base .non, M.non m hm13, Post.done h3 r1 (Grow.refl r1) (.bl _)⟩
theorem ve_isV0 (M : Marks X.K ct cw) (hg : Gl X "isinstance") (hm : X.mg "isinstance" = none) (ha : VE ct W X e me) (hb : PE X b (tC (.ty "ValueError")))
    (hs : starEach [e, b] X.env = (false, eval e X.env) :: starEach [b] X.env := by rfl) (hs2 : starEach [b] X.env = (false, eval b X.env) :: starEach [] X.env := by rfl) (hpl : (backTo pos (starEach [b] X.env)).any (·.1) = false := by rfl) :
    VE ct W X (.Call (.Name "isinstance" p) [e, b] [] pos) (mOp1 gIsNo me) :=
  PE.conv (pe_callB call_isi hg hm PyProof.Rows.boot_isinstance (pa_cons ha (pa_cons hb pa_nil hs2) hs) (by decide) (by decide) hs hpl) fun σ H Q h => tG.step h fun d δ1 x G1 H1 r1 p1 h1 => by
    obtain ⟨z, ez, h3⟩ := Post.only h1
    cases d <;> first
      | (cases ez; done)
      | skip
    cases ez
    have ex := Rp.ofNon p1
    subst ex
    exact ⟨.non, .ty "ValueError", _, _, false, rfl, .ty _, .base .non, M.nov, Post.done h3 r1 (Grow.refl r1) (.bl _)⟩
theorem excIs_fst {n n' : Nat} {a : Addr} {d : Option Addr} {k : Int} {x : D} (h : excIs (some (n, a, d)) k x = some n') : n' = n := by
  cases d with
  | none =>
    cases x <;> simp [excIs] at h
    exact h.2.symm
  | some dd =>
    unfold excIs at h
    split at h
    · rename_i q; cases q
    · rename_i q
      cases q
      split at h
      · cases h; rfl
      · cases h
    · cases h
theorem ve_isO1 {m n : Nat} {a : Addr} {oe : Obj} {d : Option Addr} (M : Marks X.K ct cw) (hn13 : n < 13) (hm13 : m < 13) (hz : Zc (.ref (ct n)) d oe) (hf : ∃ vs, oe.data = .fields vs) (hg : Gl X "isinstance") (hm : X.mg "isinstance" = none)
    (ha : VE ct W (withPin X (a, oe)) e me) (hb : PE (withPin X (a, oe)) b (tC (.ref (ct m))))
    (hs : starEach [e, b] X.env = (false, eval e X.env) :: starEach [b] X.env := by rfl) (hs2 : starEach [b] X.env = (false, eval b X.env) :: starEach [] X.env := by rfl) (hpl : (backTo pos (starEach [b] X.env)).any (·.1) = false := by rfl) :
    VE ct W (withPin X (a, oe)) (.Call (.Name "isinstance" p) [e, b] [] pos) (mOp1 (gIsX (some (n, a, d)) m) me) :=
  PE.conv (pe_callB (X := withPin X (a, oe)) (call_isP (X := X) (d := d) (M.exc n hn13) hz hf) hg hm PyProof.Rows.boot_isinstance (pa_cons ha (pa_cons hb pa_nil hs2) hs) (by decide) (by decide) hs hpl) fun σ H Q h => tG.step h fun dt δ1 x G1 H1 r1 p1 h1 => by
    obtain ⟨z, ez, h3⟩ := Post.only h1
    unfold gIsX at ez
    split at ez
    · rename_i k y
      split at ez
      · rename_i n' en
        cases ez
        have := excIs_fst en
        subst this
        obtain ⟨ev, hd⟩ := rp_exc p1 en
        subst ev
        refine ⟨.ref (ct m), .ref (ct m), _, rfl, fun u hu => hu, fun dd q => ?_, M.one _ hn13 m hm13, Post.done h3 r1 (Grow.refl r1) (.bl _)⟩
        obtain ⟨fs, hfs⟩ := hd dd q
        exact ⟨fs, r1.same _ _ hfs⟩
      · cases ez
    · cases ez
theorem ve_isV1 {n : Nat} {a : Addr} {oe : Obj} {d : Option Addr} (M : Marks X.K ct cw) (hn13 : n < 13) (hz : Zc (.ref (ct n)) d oe) (hf : ∃ vs, oe.data = .fields vs) (hg : Gl X "isinstance") (hm : X.mg "isinstance" = none)
    (ha : VE ct W (withPin X (a, oe)) e me) (hb : PE (withPin X (a, oe)) b (tC (.ty "ValueError")))
    (hs : starEach [e, b] X.env = (false, eval e X.env) :: starEach [b] X.env := by rfl) (hs2 : starEach [b] X.env = (false, eval b X.env) :: starEach [] X.env := by rfl) (hpl : (backTo pos (starEach [b] X.env)).any (·.1) = false := by rfl) :
    VE ct W (withPin X (a, oe)) (.Call (.Name "isinstance" p) [e, b] [] pos) (mOp1 (gIsVX (some (n, a, d))) me) :=
  PE.conv (pe_callB (X := withPin X (a, oe)) (call_isP (X := X) (d := d) (M.exc n hn13) hz hf) hg hm PyProof.Rows.boot_isinstance (pa_cons ha (pa_cons hb pa_nil hs2) hs) (by decide) (by decide) hs hpl) fun σ H Q h => tG.step h fun dt δ1 x G1 H1 r1 p1 h1 => by
    obtain ⟨z, ez, h3⟩ := Post.only h1
    unfold gIsVX at ez
    split at ez
    · rename_i k y
      split at ez
      · rename_i n' en
        cases ez
        have := excIs_fst en
        subst this
        obtain ⟨ev, hd⟩ := rp_exc p1 en
        subst ev
        refine ⟨.ty "ValueError", .type "ValueError", _, rfl, fun u hu => hu, fun dd q => ?_, M.val _ hn13, Post.done h3 r1 (Grow.refl r1) (.bl _)⟩
        obtain ⟨fs, hfs⟩ := hd dd q
        exact ⟨fs, r1.same _ _ hfs⟩
      · cases ez
    · cases ez
def gFldX (kn : Known) (f : Str) : D → R D
  | .dict [(.int k, .tuple [.int dd, .int i, .int j])] => match excIs kn k (.tuple [.int dd, .int i, .int j]) with
    | some _ => if f = "many" then .ok (.int i) else if f = "most" then .ok (.int j) else .bad
    | none => .bad
  | _ => .bad
theorem ve_fld1 {n : Nat} {a : Addr} {oe : Obj} {d : Option Addr} {f : Str} (T : XfC X.K (ct n)) (hno : PySem.W.findIn X.K (.ref (ct n)) f = some none) (hz : Zc (.ref (ct n)) d oe) (hf : ∃ vs, oe.data = .fields vs) (ha : VE ct W (withPin X (a, oe)) e me)
    (hb : attributeBase e f X.env (eval e X.env) = eval e X.env := by rfl) :
    VE ct W (withPin X (a, oe)) (.Attribute e f pos) (mOp1 (gFldX (some (n, a, d)) f) me) :=
  PE.conv (pe_xp (X := X) (d := d) T hno hz hf ha hb) fun σ H Q h => tG.step h fun dt δ1 x G1 H1 r1 p1 h1 => by
    obtain ⟨z, ez, h3⟩ := Post.only h1
    unfold gFldX at ez
    split at ez
    · rename_i k dd i j
      split at ez
      · rename_i n' en
        have := excIs_fst en
        subst this
        obtain ⟨ev, hd⟩ := rp_exc p1 en
        subst ev
        have key : ∃ d0 : Addr, d = some d0 ∧ H1 d0 = some (.xd [("most", .int j), ("many", .int i)]) := by
          cases d with
          | none => simp [excIs] at en
          | some d0 =>
            simp only [excIs] at en
            split at en
            · rename_i z2
              refine ⟨d0, rfl, ?_⟩
              cases p1 with
              | exF hg =>
                rw [← show (_ : Addr) = d0 from Int.ofNat.inj z2.2]
                exact r1.same _ _ hg
            · cases en
        obtain ⟨d0, e0, h0⟩ := key
        split at ez
        · rename_i ef
          cases ez
          subst ef
          exact ⟨rfl, rfl, d0, _, .int i, e0, h0, rfl, Post.done h3 r1 (Grow.refl r1) (.int _)⟩
        · split at ez
          · rename_i ef
            cases ez
            subst ef
            exact ⟨rfl, rfl, d0, _, .int j, e0, h0, rfl, Post.done h3 r1 (Grow.refl r1) (.int _)⟩
          · cases ez
      · cases ez
    · cases ez
end
end TW
set_option Elab.async false
set_option linter.all false
set_option maxRecDepth 100000
namespace TW
open PySem PySem.Spec PyProof.Rows L2
def spI (K : PySem.W.Frag) (C : Addr) : Sp := fun vs H Q _ => ∃ (a : Addr) (i j : Int), vs = [.ref a, .int i, .int j] ∧ H a = some (exo a C none) ∧ ∀ dx, H dx = none → dx ≠ a →
  Q .non (upd (upd (upd H dx (exd dx [("many", .int i)])) a (exo a C (some dx))) dx (exd dx [("most", .int j), ("many", .int i)]))
structure Great (K : PySem.W.Frag) (mg : Str → Option Value) (C fI : Addr) : Prop where
  gC : mg "TooGreat" = some (.ref C)
  cls : OexC K C
  iC : PySem.W.findIn K (.ref C) "__init__" = some (some (.ref fI))
  tI : PySem.W.typeIn K (.ref fI) = some (.type "function")
  noM : PySem.W.findIn K (.ref C) "many" = some none
  noN : PySem.W.findIn K (.ref C) "most" = some none
section
variable {P : Program} {w : World} {K : PySem.W.Frag} {mg : Str → Option Value} {base : Heap} {st : Stmt} {f C : Addr} {fd : FuncData} {k : Nat}
theorem ok_init {p1 p2 p3 p4 q1 q2 q3 q4 : Pos} (F : Fun K "__init__" "TooGreat.__init__" st f fd) (S : FnScope ["self", "many", "most"] ["self", "many", "most"] (defScope st))
    (hb : defBody st = [.Assign [.Attribute (.Name "self" p1) "many" p2] (.Name "many" p3) p4, .Assign [.Attribute (.Name "self" q1) "most" q2] (.Name "most" q3) q4])
    (hv : ∀ x ∈ (["self", "many", "most"] : List Str), (defScope st).names.lookup x = some .local)
    (T : OexC K C) (noM : PySem.W.findIn K (.ref C) "many" = some none) (noN : PySem.W.findIn K (.ref C) "most" = some none) : FnOk P w K mg base (L2.CX P w) (k + 1) f fd ["self", "many", "most"] (spI K C) := by
  refine F.okX S (fun vs H Q E ⟨a, i, j, e, _⟩ => by rw [e]; rfl) fun cdv A outer s H vs Q E hr ⟨a, i, j, e, ha, q⟩ => ?_
  subst e
  rw [hb]
  have vis : ∀ x ∈ (["self", "many", "most"] : List Str), Vis (defScope st) x := fun x hx => .inl (hv x hx)
  refine ⟨_, pss_cons (ps_ost (pe_var (i := 0) rfl (vis _ (by simp)) (by decide) (by decide)) (pe_var (i := 1) rfl (vis _ (by simp)) (by decide) (by decide))) (pss_one (ps_ost (pe_var (i := 0) rfl (vis _ (by simp)) (by decide) (by decide)) (pe_var (i := 2) rfl (vis _ (by simp)) (by decide) (by decide)))), ?_⟩
  refine ⟨.int i, rfl, .ref a, rfl, a, C, rfl, T, noM, .inl ⟨ha, fun dx hx hne => ?_⟩⟩
  refine ⟨.int j, rfl, .ref a, rfl, a, C, rfl, T, noN, .inr ⟨dx, [("many", .int i)], upd_same, ?_, by simp, q dx hx hne⟩⟩
  rw [upd_ne hne, upd_same]
end
def mErr2 (n : Nat) (ms : M (List D)) : MS := M.bind ms fun ds => match ds with
  | [.int i, .int j] => fun _ => .err n [.int i, .int j]
  | _ => fun _ => .bad
theorem same_eext {K : PySem.W.Frag} {δ : List C} {σ : L2.St} {H H' : Hp} (s : Same H H') (t : LamX.Tabs (lamT K) H) : EExt K δ σ H H' := ⟨fun b o h _ _ => s b o h, Same.there s, tabs_keep s _ t⟩
section
variable {ct : Nat → Addr} {W : WX} {X : Cx} {p p3 pos : Pos} {e : Expr} {es : List Expr} {ms : M (List D)}
theorem vs_raise2 {n k : Nat} {fI : Addr} {fd : FuncData} (hc : X.calm = true) (tk : Takes X W) (T : Great X.K X.mg (ct n) fI) (F1 : FnOk X.prog X.w X.K X.mg X.base (L2.CX X.prog X.w) k fI fd ["self", "many", "most"] (spI X.K (ct n))) (hr : Room (k + 1) X.A)
    (hb : Binds X.K fd ["self", "many", "most"] []) (hg : Gl X "TooGreat") (ha : VA ct W X (e :: es) ms)
    (he : starEach (e :: es) X.env = (false, eval e X.env) :: starEach es X.env := by rfl) (hpl : (backTo p3 (starEach es X.env)).any (·.1) = false := by rfl) :
    VS ct W X (.Raise (some (.Call (.Name "TooGreat" p) (e :: es) [] p3)) none pos) (mErr2 n ms) := by
  have hx : Passes (L2.CX X.prog X.w) X (fun _ _ _ => False) := fun pins σ H s e s' I c => by
    obtain ⟨_, _, _, _, _, _, _, _, _, _, _, _, q⟩ := c
    exact q.elim
  refine PS.conv (ps_raise hc tk (pmk_oex T.cls T.iC T.tI F1 hr hb .nil hx hg T.gC ha (by decide) he hpl)) fun De σ H h => stepS (P := PAs X.K) h fun ds δ1 vs G1 H1 r1 ⟨_, _, _, p1⟩ h1 => ?_
  have p1 : RpAll X.K G1 vs ds := p1
  match ds, p1, h1 with
  | [.int i, .int j], p1, h1 =>
    have ev : vs = [.int i, .int j] := by
      cases p1 with
      | cons a b =>
        cases b with
        | cons c d =>
          cases d
          rw [a.ofInt, c.ofInt]
    subst ev
    refine ⟨by simp, fun a hn => ⟨a, i, j, rfl, upd_same, fun dx hd hne => ⟨rfl, dx, _, ?_, upd_same, ?_, ?_⟩⟩⟩
    · rw [upd_ne (Ne.symm hne), upd_same]
    · rw [upd_ne hne] at hd; exact hd
    · have hd1 : H1 dx = none := by rw [upd_ne hne] at hd; exact hd
      refine h1 (.ref (ct n)) (some dx) σ _ (same_eext (fun b o hb => ?_) r1.tabs) ⟨rfl, dx, rfl, upd_same⟩
      have n1 : b ≠ a := ne_of_none hb hn
      have n2 : b ≠ dx := ne_of_none hb hd1
      rw [upd_ne n2, del_ne n1, upd_ne n2, upd_ne n1, upd_ne n2, upd_ne n1]
      exact hb
end
end TW
set_option Elab.async false
set_option linter.all false
set_option maxRecDepth 100000
namespace TW
open PySem PySem.Spec PyProof.Rows L2
def maskC (c : C) : C := match c with
  | .own _ _ => .un
  | c => c
def mask (cs : List C) : List C := cs.map maskC
section
variable {K : PySem.W.Frag} {ct : Nat → Addr} {δ δ' : List C} {G G' H H1 H' : Hp} {σ : L2.St}
theorem mask_own {i : Nat} {t : Bool} {ds : List D} (h : (mask δ)[i]? = some (.own t ds)) : False := by
  unfold mask at h
  rw [List.getElem?_map] at h
  cases e : δ[i]? with
  | none => rw [e] at h; cases h
  | some c => rw [e] at h; cases c <;> simp [maskC] at h
theorem mask_dat {i : Nat} {d : D} (h : (mask δ)[i]? = some (.dat d)) : δ[i]? = some (.dat d) := by
  unfold mask at h
  rw [List.getElem?_map] at h
  cases e : δ[i]? with
  | none => rw [e] at h; cases h
  | some c => rw [e] at h; cases c <;> simp [maskC] at h; rw [h]
theorem mask_ow {t : Bool} {b : Addr} : ¬ Ow t (mask δ) σ b := fun ⟨_, _, h, _⟩ => mask_own h
theorem Rel.made (r : Rel K δ G σ H) (e : LamX.ExtN H H1) (ht : LamX.Tabs (lamT K) H1) : Rel K δ G σ H1 :=
  ⟨r.len, fun b o h => e b o (r.same b o h) (r.nt b o h), r.nt, r.dat, fun i t ds h => by
    obtain ⟨p, vs, h1, h2, h3⟩ := r.own i t ds h
    exact ⟨p, vs, h1, e p _ h2 (fun _ z => nomatch z), h3⟩, r.inj, ht⟩
theorem Rel.mask (r : Rel K δ G σ H) : Rel K (TW.mask δ) G σ H :=
  ⟨by unfold TW.mask; rw [List.length_map]; exact r.len, r.same, r.nt, fun i d h => r.dat i d (mask_dat h), fun i t ds h => (mask_own h).elim, fun i j p t u ds es h => (mask_own h).elim, r.tabs⟩
theorem made_ext (e : LamX.ExtN H H1) : Ext δ G H σ δ G H1 σ :=
  ⟨fun b o h n _ => e b o h n, fun b h o q n => h o (e b o q n) n, Same.refl _, fun _ _ h => .inl h, fun _ h => .inl h, fun _ h => h⟩
theorem Rel.back (r : Rel K δ G σ H) (x : Ext (TW.mask δ) G H σ δ' G' H' σ) (r' : Rel K δ' G' σ H') : Rel K δ G' σ H' := by
  refine ⟨r.len, r'.same, r'.nt, fun i d h => ?_, fun i t ds h => ?_, r.inj, r'.tabs⟩
  · obtain ⟨v, h1, h2⟩ := r.dat i d h
    exact ⟨v, h1, h2.mono x.same⟩
  · obtain ⟨p, vs, h1, h2, h3, h4, h5⟩ := r.own i t ds h
    refine ⟨p, vs, h1, x.keep _ _ h2 nt_lst fun ⟨t, z⟩ => mask_ow z, ?_, h4, h5.mono x.same⟩
    cases q : G' p with
    | none => rfl
    | some o =>
      rcases x.new p o q with z | z | z
      · rw [h3] at z; cases z
      · exact z.not h2 (r'.same _ _ q) (x.keep _ _ h2 nt_lst fun ⟨t, z⟩ => mask_ow z)
      · exact absurd z mask_ow
theorem ext_back (x : Ext (TW.mask δ) G H σ δ' G' H' σ) : Ext δ G H σ δ G' H' σ :=
  ⟨fun b o h n _ => x.keep b o h n fun ⟨t, z⟩ => mask_ow z, x.back, x.same, fun b o h => (x.new b o h).imp id fun z => z.elim .inl fun z => absurd z mask_ow, fun b z => .inl z, fun b z => z⟩
theorem Rel.caught (r : Rel K δ G σ H) (x : EExt K (TW.mask δ) σ H H') : Rel K δ G σ H' :=
  ⟨r.len, fun b o h => x.keep b o (r.same b o h) (r.nt b o h) fun ⟨t, z⟩ => mask_ow z, r.nt, r.dat, fun i t ds h => by
    obtain ⟨p, vs, h1, h2, h3⟩ := r.own i t ds h
    exact ⟨p, vs, h1, x.keep _ _ h2 nt_lst fun ⟨t, z⟩ => mask_ow z, h3⟩, r.inj, x.tabs⟩
theorem caught_ext (x : EExt K (TW.mask δ) σ H H') : Ext δ G H σ δ G H' σ :=
  ⟨fun b o h n _ => x.keep b o h n fun ⟨t, z⟩ => mask_ow z, x.back, Same.refl _, fun _ _ h => .inl h, fun _ h => .inl h, fun _ h => h⟩
end
def mRefused (m : M D) : M D := fun cs => match m (mask cs) with
  | .ok _ => .ok (.none, cs)
  | .err n [] => if n < 12 then .ok (.list [.int n], cs) else .bad
  | .err n [.int i, .int j] => if n = 12 then .ok (.list [.int 12, .int i, .int j], cs) else .bad
  | _ => .bad
end TW
set_option Elab.async false
set_option linter.all false
set_option maxRecDepth 100000
namespace TW
open PySem PySem.Spec PyProof.Rows L2
abbrev W00 : WX := fun _ _ _ _ => False
abbrev EndQ (Q : VK) : Ends := { nx := fun _ H' => Q .non H', rt := Q }
def TTref (K : PySem.W.Frag) (ct : Nat → Addr) (L : Nat) (m0 : MS) (m1 : Nat → Addr → Option Addr → MS) : (XK → Hp → VK → Prop) → Hp → VK → Prop := fun tl H Q =>
  tl (fun cls dx H' => ∃ n xs, n < 13 ∧ ErrR ct n xs cls dx H' ∧ ∀ a σ', H' a = none → σ'.length = L → σ'[1]? = some (some (.ref a)) → tS K ct W00 (m1 n a dx) (EndQ Q) σ' H') H
    fun _ H' => ∀ σ' : L2.St, σ'.length = L → σ'[1]? = some (some .non) → tS K ct W00 m0 (EndQ Q) σ' H'
def rest0 (L : Nat) (d : D) : List C := .un :: .dat d :: List.replicate (L - 2) .un
structure Tells (L : Nat) (m0 : MS) (m1 : Nat → Addr → Option Addr → MS) : Prop where
  two : 2 ≤ L
  non : ∃ cs', m0 (rest0 L .none) = .ok (.rt .none, cs')
  one : ∀ n, n < 12 → ∀ a : Addr, ∃ cs', m1 n a none (rest0 L (.dict [(.int a, .none)])) = .ok (.rt (.list [.int n]), cs')
  big : ∀ (a dd : Addr) (i j : Int), ∃ cs', m1 12 a (some dd) (rest0 L (.dict [(.int a, .tuple [.int dd, .int i, .int j])])) = .ok (.rt (.list [.int 12, .int i, .int j]), cs')
section
variable {K : PySem.W.Frag} {ct : Nat → Addr} {G H : Hp} {L : Nat} {σ' : L2.St} {d : D} {v : V}
theorem rest0_len (h : 2 ≤ L) : (rest0 L d).length = L := by
  unfold rest0
  rw [List.length_cons, List.length_cons, List.length_replicate]
  omega
theorem rest0_get {i : Nat} {c : C} (h : (rest0 L d)[i]? = some c) : c = .un ∨ i = 1 ∧ c = .dat d := by
  unfold rest0 at h
  match i, h with
  | 0, h => cases h; exact .inl rfl
  | 1, h => cases h; exact .inr ⟨rfl, rfl⟩
  | i + 2, h =>
    rw [List.getElem?_cons_succ, List.getElem?_cons_succ, List.getElem?_replicate] at h
    split at h
    · cases h; exact .inl rfl
    · cases h
theorem rest0_rel (h2 : 2 ≤ L) (s : Same G H) (n : ∀ b o, G b = some o → NT o) (t : LamX.Tabs (lamT K) H) (hl : σ'.length = L) (h1 : σ'[1]? = some (some v)) (hv : Rp K G v d) : Rel K (rest0 L d) G σ' H := by
  have no : ∀ {i : Nat} {t : Bool} {ds : List D}, (rest0 L d)[i]? = some (.own t ds) → False := fun h => by
    rcases rest0_get h with z | ⟨z, y⟩
    · cases z
    · cases y
  refine ⟨by rw [rest0_len h2, hl], s, n, fun i e h => ?_, fun i t ds h => (no h).elim, fun i j p t u ds es h => (no h).elim, t⟩
  rcases rest0_get h with z | ⟨z, y⟩
  · cases z
  · cases y; subst z; exact ⟨v, h1, hv⟩
theorem rest0_ow {t : Bool} {b : Addr} : ¬ Ow t (rest0 L d) σ' b := fun ⟨i, es, h, _⟩ => by
  rcases rest0_get h with z | ⟨z, y⟩
  · cases z
  · cases y
theorem rel_keep {δ : List C} {σ : L2.St} {G0 G2 H' H2 : Hp} (r : Rel K δ G σ H') (x : Ext [] G0 H' [] [] G2 H2 []) (t : LamX.Tabs (lamT K) H2) : Rel K δ G σ H2 := by
  have no : ∀ {b : Addr}, ¬ OwA ([] : List C) ([] : L2.St) b := fun ⟨_, _, _, z, _⟩ => by simp at z
  refine ⟨r.len, fun b o h => x.keep b o (r.same b o h) (r.nt b o h) no, r.nt, r.dat, fun i t ds h => ?_, r.inj, t⟩
  obtain ⟨p, vs, h1, h2, h3⟩ := r.own i t ds h
  exact ⟨p, vs, h1, x.keep _ _ h2 nt_lst no, h3⟩
end
end TW
set_option Elab.async false
set_option linter.all false
set_option maxRecDepth 100000
namespace TW
open PySem PySem.Spec PyProof.Rows L2
section
variable {K : PySem.W.Frag} {ct : Nat → Addr} {L : Nat} {m0 : MS} {m1 : Nat → Addr → Option Addr → MS}
theorem told_end {δ : List C} {G H H' : Hp} {σ σ' : L2.St} {d : D} {is : List Int} {cs' : List C} {Q : VK} {G0 : Hp} (rc : Rel K δ G σ H') (xc : Ext δ G H σ δ G H' σ) (sg : ∀ b xs, G0 b = some (.lst xs) → G b = some (.lst xs))
    (hQ : ∀ v G' H', Ext δ G H σ δ G' H' σ → Rel K δ G' σ H' → Rp K G' v (.list (is.map .int)) → Q v H') :
    PostS K ct W00 (.ok (.rt (.list (is.map .int)), cs')) (rest0 L d) G0 H' σ' (EndQ Q) := by
  intro v2 σ2 G2 H2 x2 r2 rp
  have xo : Ext [] G0 H' [] [] G2 H2 [] := ext_out (fun t b => rest0_ow) x2
  have rk := rel_keep rc xo r2.tabs
  obtain ⟨p, xs, ev, hp, hz, ha⟩ := Rp.ofLst rp
  subst ev
  have ex := row_rp ha
  subst ex
  have no : ∀ {b : Addr}, ¬ OwA ([] : List C) ([] : L2.St) b := fun ⟨_, _, _, z, _⟩ => by simp at z
  have fr : G p = some (.lst (is.map V.int)) ∨ G p = none ∧ Fre H' p := by
    cases e : G p with
    | some o =>
      have e2 := r2.same _ _ hp
      rw [rk.same _ _ e] at e2
      cases e2
      exact .inl rfl
    | none =>
      rcases xo.new p _ hp with z | z | ⟨_, _, z, _⟩
      · rw [sg _ _ z] at e; cases e
      · exact .inr ⟨rfl, z.elim id fun ⟨_, e⟩ => code_not_lst e⟩
      · simp at z
  have e1 : Ext δ G H' σ δ G H2 σ := ⟨fun b o h n _ => xo.keep b o h n no, xo.back, Same.refl _, fun _ _ h => .inl h, fun _ h => .inl h, fun _ h => h⟩
  have hz : (is.map PyData.int).length ≤ sizeLine := hz
  rcases fr with e | ⟨e, f⟩
  · exact hQ _ G H2 (xc.trans e1) rk (.lst e hz (ints_rp is))
  · obtain ⟨x3, r3, rp3⟩ := fresh_rel e1 rk f (r2.same _ _ hp) e (fresh_notF rc f) hz (ints_rp is)
    exact hQ _ _ H2 (xc.trans x3) r3 rp3
theorem refused_core {W : WX} {me : M D} (T : Tells L m0 m1) {σ : L2.St} {H : Hp} {Q : VK} (h : tG K ct W (PD K) (mRefused me) σ H Q) : LamX.tLam (lamT K) (TTref K ct L m0 m1) (fun E => tG K ct (WE' E) (PD K) me) σ H Q := by
  obtain ⟨δ, G, rel, h⟩ := h
  refine ⟨rel.tabs, fun H1 eN T1 => ?_⟩
  have r1 := rel.made eN T1
  refine ⟨mask δ, G, r1.mask, ?_⟩
  unfold mRefused at h
  cases e : me (mask δ) with
  | ok p =>
    obtain ⟨d, δ'⟩ := p
    rw [e] at h
    intro v G' H' x r' _ σ' hl h1
    obtain ⟨cs', ec⟩ := T.non
    refine ⟨rest0 L .none, G', rest0_rel T.two r'.same r'.nt r'.tabs hl h1 .non, ?_⟩
    rw [ec]
    intro v2 σ2 G2 H2 x2 r2 rp
    have xo : Ext [] G' H' [] [] G2 H2 [] := ext_out (fun t b => rest0_ow) x2
    exact h v2 G2 H2 (((made_ext eN).trans (ext_back x)).trans xo.in) (rel_in (r1.back x r') xo ⟨r2.same, r2.nt, r2.tabs⟩) rp
  | bad => rw [e] at h; exact h.elim
  | err n xs =>
    rw [e] at h
    intro cls dx σe H' x er
    have rc := r1.caught x
    have xc : Ext δ G H σ δ G H' σ := (made_ext eN).trans (caught_ext x)
    split at h
    · rename_i q; cases q
    · rename_i q
      cases q
      split at h
      · rename_i hn
        refine ⟨n, [], by omega, er, fun a σ' ha hl h1 => ?_⟩
        obtain ⟨_, rfl⟩ := er
        obtain ⟨cs', ec⟩ := T.one n hn a
        refine ⟨rest0 L (.dict [(.int a, .none)]), G, rest0_rel T.two rc.same rc.nt rc.tabs hl h1 .ex0, ?_⟩
        rw [ec]
        exact told_end (is := [(n : Int)]) rc xc (fun _ _ z => z) fun v G' H' x r rp => h v G' H' x r rp
      · exact h.elim
    · rename_i i j q
      cases q
      split at h
      · rename_i hn
        subst hn
        refine ⟨12, [.int i, .int j], by omega, er, fun a σ' ha hl h1 => ?_⟩
        obtain ⟨_, dd, rfl, hd⟩ := er
        obtain ⟨cs', ec⟩ := T.big a dd i j
        have up : ∀ b o, upd G dd (.xd [("most", .int j), ("many", .int i)]) b = some o → H' b = some o ∧ NT o ∧ (b = dd ∨ G b = some o) := fun b o z => by
          by_cases q : b = dd
          · subst q; rw [upd_same] at z; cases z; exact ⟨hd, (fun ps y => nomatch y), .inl rfl⟩
          · rw [upd_ne q] at z; exact ⟨rc.same _ _ z, rc.nt _ _ z, .inr z⟩
        refine ⟨rest0 L (.dict [(.int a, .tuple [.int dd, .int i, .int j])]), upd G dd (.xd [("most", .int j), ("many", .int i)]), rest0_rel T.two (fun b o z => (up b o z).1) (fun b o z => (up b o z).2.1) rc.tabs hl h1 (.exF upd_same), ?_⟩
        rw [ec]
        exact told_end (is := [(12 : Int), i, j]) rc xc (fun b xs z => by
          by_cases q : b = dd
          · subst q; rw [upd_same] at z; cases z
          · rw [upd_ne q] at z; exact z) fun v G' H' x r rp => h v G' H' x r rp
      · exact h.elim
    · exact h.elim
end
end TW
set_option Elab.async false
set_option linter.all false
set_option maxRecDepth 100000
namespace TW
open PySem PySem.Spec PyProof.Rows L2
section
variable {X : Cx} {ct : Nat → Addr} {cw : Addr} {N : List Str} {x a : Str} {sg : Scope} {g : Addr} {cdg : Value} {q : Str} {rest : List Stmt} {m0 : MS} {m1 : Nat → Addr → Option Addr → MS} {ie : Nat} {py pc p0 p1 p2 p3 p4 p5 p6 p7 p8 p9 : Pos} {j0 : Nat}
abbrev Zr (X : Cx) (N : List Str) (x : Str) (sg : Scope) (g : Addr) (cdg : Value) (s : Shared) (H : Hp) : Cx := (cxOf C8.CX0 X.prog X.w X.K X.mg X.base N x sg g cdg X.A X.stack s H C8.E0).nox
theorem ref_gives (hN : N.Nodup) (n0 : N[0]? = some a) (n1 : N[1]? = some ("_law_error" : Str)) (ne : N[ie]? = some ("e" : Str)) (hie : ie ≠ 0 ∧ ie ≠ 1) (hl1 : sg.names.lookup ("_law_error" : Str) = some .local) (hle : sg.names.lookup ("e" : Str) = some .local) (kind : sg.kind = .function)
    (hw : sg.names.lookup ("WebError" : Str) = some .globalImplicit) (mw : X.mg "WebError" = some (.ref cw)) (M : Marks X.K ct cw) (kd : ∀ s H, (Zr X N x sg g cdg s H).env.kindOf ("e" : Str) = some .local)
    (h0 : ∀ s H, VSs ct W00 (Zr X N x sg g cdg s H) rest m0)
    (h1 : ∀ s H n, n < 13 → ∀ (b : Addr) (oe : Obj) (d : Option Addr), Zc (.ref (ct n)) d oe → (∃ vs, oe.data = .fields vs) → VSs ct W00 (withPin (Zr X N x sg g cdg s H) (b, oe)) rest (m1 n b d)) :
    LamX.GivesTo X N x sg g cdg (.Assign [.Name "_law_error" py] (.Constant .none j0 pc) p0 :: .Try [.Expr (.Call (.Name a p1) [] [] p2) p3] [.ExceptHandler (some (.Name "WebError" p4)) (some "e") [.Assign [.Name "_law_error" p5] (.Name "e" p6) p7] p8] [] [] p9 :: rest) a q (TTref X.K ct N.length m0 m1) := by
  intro f c' s H Q tl act hc h
  have hgl : Gl (Zr X N x sg g cdg s H) "WebError" := hw
  have weak : ∀ {Y : Cx} {e : Expr} {tt : TE}, PE Y e tt → PE Y e (fun σ H Q => ∃ Qs : VK, (∀ v H', Qs v H' → Q v H') ∧ tt σ H Qs) := fun {Y e tt} hp => ⟨fun pins s σ H Q I ⟨Qs, hQ, ht⟩ => thn (hp.run pins s σ H Qs I ht) fun u s1 ⟨v, H1, I1, r1, q1⟩ => ⟨v, H1, I1, r1, hQ v H1 q1⟩⟩
  refine ⟨_, pss_cons (ps_set (X := Zr X N x sg g cdg s H) (i := 1) hN n1 (.inl hl1) pe_non (hf := .inr hl1)) (pss_try_rest (X := Zr X N x sg g cdg s H) (c := .ref cw) (i := ie) (Wout := W00)
      (tb := fun W D σ H => ∃ Ech : XK, (∀ cls d σ' H', Ech cls d H' → W cls d σ' H') ∧ ∃ Qs : VK, (∀ v H', Qs v H' → D.nx σ H') ∧ σ[0]? = some (some (.ref f)) ∧ H c' = some (LamX.CodeO c' q) ∧ tl Ech H Qs)
      (ts := fun _ _ _ => tAsg (tVar ie) (gName 1)) (v := fun b cls d D σ H => ∃ n, n < 13 ∧ cls = .ref (ct n) ∧ (σ.length = N.length → tS X.K ct W00 (m1 n b d) D σ H))
      rfl rfl hN ne (kd s H) ⟨hgl, by decide, .inl mw⟩ LamX.takes0 (fun W pn xe tk _ => ?hb) (fun b oe cls d pn _ _ => ?hs) (h0 s H) (fun b oe cls d hz hf => ?he)), ?_⟩
  case hb =>
    refine ⟨fun pins s' σ H' D I h' => ?_⟩
    obtain ⟨Ech, hW, Qs, hQ, a1, a2, a3⟩ := h'
    have hp := weak (act W pn xe Ech p1 p2 tk hW)
    exact (pss_one (ps_expr (pos := p3) hp)).run pins s' σ H' D I ⟨Qs, hQ, a1, a2, a3⟩
  case hs => exact pss_one (ps_set (i := 1) hN n1 (.inl hl1) (pe_var (i := ie) ne (.inl hle) (by decide) (by decide)) (hf := .inr hl1))
  case he =>
    refine ⟨fun pins s' σ H' D I h' => ?_⟩
    obtain ⟨n, hn, ec, ht⟩ := h'
    subst ec
    exact (h1 s H n hn b oe d hz hf).run pins s' σ H' D I (ht I.len)
  have big1 : 1 < N.length := (List.getElem?_eq_some_iff.mp n1).1
  have bige : ie < N.length := (List.getElem?_eq_some_iff.mp ne).1
  have l0 : (L2.start N [V.ref f]).length = N.length := start_len (by show 1 ≤ N.length; omega)
  have hs0 : (L2.start N [V.ref f])[0]? = some (some (.ref f)) := start_at rfl
  refine ⟨fun cls d H' => ∃ n xs, n < 13 ∧ ErrR ct n xs cls d H' ∧ ∀ (a : Addr) (σ' : L2.St), H' a = none → σ'.length = N.length → σ'[1]? = some (some (V.ref a)) → tS X.K ct W00 (m1 n a d) (EndQ Q) σ' H', ?_, (fun _ H' => ∀ σ' : L2.St, σ'.length = N.length → σ'[1]? = some (some V.non) → tS X.K ct W00 m0 (EndQ Q) σ' H'), ?_, ?_, hc, h⟩
  · rintro cls d σ' H' ⟨n, xs, hn, er, k⟩
    refine ⟨true, by rw [er.1]; exact M.web n hn, fun _ hlen b hb => ?_, fun z => nomatch z⟩
    have hlen : σ'.length = N.length := hlen
    refine ⟨.ref b, by rw [List.getElem?_set_self (by rw [hlen]; exact bige)], n, hn, er.1, fun _ => ?_⟩
    refine k b _ hb (by simp [hlen]) ?_
    rw [List.getElem?_set_ne hie.2, List.getElem?_set_self (by simp [hlen]; exact big1)]
  · exact fun v H' hv => hv _ (by rw [List.length_set]; exact l0) (List.getElem?_set_self (by rw [l0]; exact big1))
  · rw [List.getElem?_set_ne (by decide)]; exact hs0
end
end TW
set_option Elab.async false
set_option linter.all false
set_option maxRecDepth 100000
namespace TW
open PySem PySem.Spec PyProof.Rows L2
theorem boot_VE : bootBuiltins "ValueError" = some (.type "ValueError") := by decide +kernel
def errNames : List Str := ["NoWeb", "NoPlace", "NoPlaces", "NoMap", "NoSharing", "NoRoot", "NoNumber", "NotJoined", "NoTie", "NoText", "NoLine", "NoDeed", "TooGreat"]
def clsAt (K : PySem.W.Frag) (x : Str) : Addr := match PySem.W.nsIn K mainGlobals x with
  | some (some (.ref a)) => a
  | _ => 0
def ctK (K : PySem.W.Frag) (n : Nat) : Addr := clsAt K (errNames.getD n "")
abbrev veMro : List Value := [.type "ValueError", .type "Exception", .type "BaseException", .type "object"]
def hereB (K : PySem.W.Frag) (x : Str) : Bool := decide (PySem.W.nsIn K mainGlobals x = some (some (.ref (clsAt K x))))
def errB (K : PySem.W.Frag) (x : Str) : Bool := hereB K x && (PySem.W.excIn K (clsAt K x) veMro "ValueError.__new__" && (PySem.W.keepIn K (.ref (clsAt K x)) && (decide (PySem.W.subIn K (.ref (clsAt K x)) (.type "BaseException") = some true) && decide (PySem.W.typeIn K (.ref (clsAt K x)) = some (.type "type")))))
theorem here_of {K : PySem.W.Frag} {h : Heap} {mg : Str → Option Value} {x : Str} (X : K.In h) (G : h.Ns mainGlobals mg) (e : hereB K x = true) : mg x = some (.ref (clsAt K x)) := PySem.W.mg_of X G (of_decide_eq_true e)
theorem errC_of {K : PySem.W.Frag} {h : Heap} {mg : Str → Option Value} (X : K.In h) (G : h.Ns mainGlobals mg) (n : Nat) {x : Str} (hx : errNames.getD n "" = x) (e : errB K x = true) : ErrC K mg (ctK K) n x := by
  unfold errB at e
  simp only [Bool.and_eq_true, decide_eq_true_eq] at e
  obtain ⟨e1, e2, e3, e4, e5⟩ := e
  have hc : ctK K n = clsAt K x := by unfold ctK; rw [hx]
  refine ⟨?_, ⟨_, _, _, _, PySem.F.excBase_ValueError, ?_⟩, ?_, ?_, ?_⟩
  · rw [hc]; exact here_of X G e1
  · rw [hc]; exact e2
  · rw [hc]; exact e3
  · rw [hc]; exact e4
  · rw [hc]; exact e5
def excCB (K : PySem.W.Frag) (D : Addr) : Bool :=
  decide (PySem.W.findIn K (.ref D) "__getattribute__" = some (some (.builtin "BaseException.__getattribute__"))) && (decide (PySem.W.findIn K (.ref D) "__getattr__" = some none) && (decide (PySem.W.subIn K (.ref D) (.type "BaseException") = some true) && (PySem.W.hasDictIn K D &&
  (decide (PySem.W.findIn K (.ref D) "__class__" = some (some (.builtin "object.__class__"))) && (decide (PySem.W.specialIn K (.builtin "object.__class__") "__get__" = some (some (.builtin "getset_descriptor.__get__"))) && (decide (PySem.W.takesIn K (.builtin "object.__class__") = some true) && decide (PySem.W.mroIn K D (.type "object") = some true)))))))
theorem excCB_ok {K : PySem.W.Frag} {D : Addr} (e : excCB K D = true) : ExcC K D := by
  unfold excCB at e
  simp only [Bool.and_eq_true, decide_eq_true_eq] at e
  obtain ⟨e1, e2, e3, e4, e5, e6, e7, e8⟩ := e
  exact ⟨e1, e2, e3, e4, e5, e6, e7, e8⟩
def marksB (K : PySem.W.Frag) (cw : Addr) : Bool :=
  ((List.range 13).all fun n => hereB K (errNames.getD n "") && (excCB K (ctK K n) && (decide (PySem.W.kitOne K (.ref (ctK K n)) (.type "ValueError") = some true) && (decide (PySem.W.kitOne K (.type "NoneType") (.ref (ctK K n)) = some false) &&
    (decide (PySem.W.exmOne K (.ref (ctK K n)) (.ref cw) = some true) && (List.range 13).all fun m => decide (PySem.W.kitOne K (.ref (ctK K n)) (.ref (ctK K m)) = some (n == m))))))) &&
  decide (PySem.W.kitOne K (.type "NoneType") (.type "ValueError") = some false)
theorem marksB_ok {K : PySem.W.Frag} {cw : Addr} (e : marksB K cw = true) : Marks K (ctK K) cw ∧ ∀ n, n < 13 → hereB K (errNames.getD n "") = true := by
  unfold marksB at e
  rw [Bool.and_eq_true, List.all_eq_true] at e
  obtain ⟨e1, e2⟩ := e
  have k : ∀ n, n < 13 → _ := fun n hn => e1 n (List.mem_range.mpr hn)
  simp only [Bool.and_eq_true, decide_eq_true_eq, List.all_eq_true] at k
  exact ⟨⟨fun n hn => excCB_ok (k n hn).2.1, fun n hn m hm => (k n hn).2.2.2.2.2 m (List.mem_range.mpr hm), fun n hn => (k n hn).2.2.2.1, fun n hn => (k n hn).2.2.1, of_decide_eq_true e2, fun n hn => (k n hn).2.2.2.2.1⟩, fun n hn => (k n hn).1⟩
structure Errs (K : PySem.W.Frag) (mg : Str → Option Value) (ct : Nat → Addr) (cw : Addr) : Prop where
  M : Marks K ct cw
  web : mg "WebError" = some (.ref cw)
  gl : ∀ n, n < 13 → mg (errNames.getD n "") = some (.ref (ct n))
  T : ∀ n, n < 13 → XfC K (ct n)
  noM : ∀ n, n < 13 → PySem.W.findIn K (.ref (ct n)) "many" = some none
  noN : ∀ n, n < 13 → PySem.W.findIn K (.ref (ct n)) "most" = some none
  gg : PySem.W.exmOne K (.ref (ct 12)) (.ref (ct 12)) = some true
def errsB (K : PySem.W.Frag) : Bool := decide (PySem.W.exmOne K (.ref (ctK K 12)) (.ref (ctK K 12)) = some true) && (hereB K "WebError" && (marksB K (clsAt K "WebError") && (List.range 13).all fun n => xfB K (ctK K n) && (decide (PySem.W.findIn K (.ref (ctK K n)) "many" = some none) && decide (PySem.W.findIn K (.ref (ctK K n)) "most" = some none))))
theorem errs_of {K : PySem.W.Frag} {h : Heap} {mg : Str → Option Value} (X : K.In h) (G : h.Ns mainGlobals mg) (e : errsB K = true) : Errs K mg (ctK K) (clsAt K "WebError") := by
  unfold errsB at e
  rw [Bool.and_eq_true, Bool.and_eq_true, Bool.and_eq_true, List.all_eq_true] at e
  obtain ⟨e0, e1, e2, e3⟩ := e
  have k : ∀ n, n < 13 → _ := fun n hn => e3 n (List.mem_range.mpr hn)
  simp only [Bool.and_eq_true, decide_eq_true_eq] at k
  obtain ⟨m1, m2⟩ := marksB_ok e2
  exact ⟨m1, here_of X G e1, fun n hn => here_of X G (m2 n hn), fun n hn => xfB_ok (k n hn).1, fun n hn => (k n hn).2.1, fun n hn => (k n hn).2.2, of_decide_eq_true e0⟩
def oexB (K : PySem.W.Frag) (C : Addr) : Bool := (match K.lookup C with
  | some ⟨.type "type", _, .cls cd, sl⟩ => (match cd.mro, sl.toList with
    | .ref C' :: bm, [_, _, _, _, some (.builtin n), _] => C' == C && n == "ValueError.__new__" && !cd.hasDel && cd.hasDict && PySem.HandSPX.refsVE bm
    | _, _ => false)
  | _ => false) && (decide (PySem.W.findIn K (.ref C) "__setattr__" = some (some (.builtin "object.__setattr__"))) && (decide (PySem.W.subIn K (.ref C) (.type "BaseException") = some true) && (decide (PySem.W.typeIn K (.ref C) = some (.type "type")) && PySem.W.keepIn K (.ref C))))
theorem oexB_ok {K : PySem.W.Frag} {C : Addr} (e : oexB K C = true) : OexC K C := by
  unfold oexB at e
  rw [Bool.and_eq_true] at e
  obtain ⟨q, e⟩ := e
  simp only [Bool.and_eq_true, decide_eq_true_eq] at e
  obtain ⟨e2, e3, e4, e5⟩ := e
  refine ⟨?_, e2, e3, e4, e5⟩
  split at q
  · rename_i dd cd sl ho
    split at q
    · rename_i C' bm k0 k1 k2 k3 n k5 hm hs
      simp only [Bool.and_eq_true, beq_iff_eq, Bool.not_eq_true'] at q
      obtain ⟨⟨⟨⟨rfl, rfl⟩, hdel⟩, hdi⟩, ht⟩ := q
      obtain ⟨nm, bs, mro, ns, qn, hd, sn, sub, ab, col, del⟩ := cd
      dsimp only at hm hdel hdi
      subst hm hdel hdi
      have hsl : sl = #[k0, k1, k2, k3, some (.builtin "ValueError.__new__"), k5] := by
        obtain ⟨l⟩ := sl
        simp only at hs
        rw [hs]
      subst hsl
      exact ⟨nm, qn, ns, bs, bm, sn, sub, ab, col, dd, k0, k1, k2, k3, k5, ho, ht⟩
    · cases q
  · cases q
structure GreatOk (P : Program) (w : World) (K : PySem.W.Frag) (mg : Str → Option Value) (base : Heap) (C : Addr) : Prop where
  ex : ∃ fI fd, Great K mg C fI ∧ FnOk P w K mg base (L2.CX P w) 1 fI fd ["self", "many", "most"] (spI K C) ∧ Binds K fd ["self", "many", "most"] []
def greatB (K : PySem.W.Frag) (C : Addr) : Bool := oexB K C && (decide (PySem.W.findIn K (.ref C) "many" = some none) && decide (PySem.W.findIn K (.ref C) "most" = some none))
section
variable {P : Program} {w : World} {K : PySem.W.Frag} {h base : Heap} {mg : Str → Option Value} {st : Stmt} {fI C : Addr} {oc : Value} {od an : Option Addr} {osl : Array (Option Value)} {kV doc pm cdv cv : Value} {p1 p2 p3 p4 q1 q2 q3 q4 : Pos}
theorem great_of (X : K.In h) (G : h.Ns mainGlobals mg) (gC : PySem.W.nsIn K mainGlobals "TooGreat" = some (some (.ref C))) (b : greatB K C = true) (iC : PySem.W.findIn K (.ref C) "__init__" = some (some (.ref fI))) (tI : PySem.W.typeIn K (.ref fI) = some (.type "function"))
    (l : K.lookup fI = some ⟨oc, od, .func (PySem.W.fnOf "__init__" "TooGreat.__init__" (defArgs st) (defBody st) (defScope st) .none kV doc pm an cdv cv), osl⟩) (c : PySem.W.codeIn K cdv "TooGreat.__init__" = true) (k : PySem.W.keepIn K (.ref fI) = true)
    (S : FnScope ["self", "many", "most"] ["self", "many", "most"] (defScope st))
    (hb : defBody st = [.Assign [.Attribute (.Name "self" p1) "many" p2] (.Name "many" p3) p4, .Assign [.Attribute (.Name "self" q1) "most" q2] (.Name "most" q3) q4])
    (hv : ∀ x ∈ (["self", "many", "most"] : List Str), (defScope st).names.lookup x = some .local)
    (bi : ∀ (kV doc pm : Value) (an : Option Addr) (cdv ct : Value) (us : List Value), us.length = 3 → bindArgs (PySem.W.fnOf "__init__" "TooGreat.__init__" (defArgs st) (defBody st) (defScope st) .none kV doc pm an cdv ct) ⟨us, []⟩ = pure ((["self", "many", "most"] : List Str).zip us)) : GreatOk P w K mg base (ctK K 12) := by
  have e : ctK K 12 = C := by unfold ctK clsAt; rw [show errNames.getD 12 "" = ("TooGreat" : Str) from rfl, gC]
  rw [e]
  unfold greatB at b
  simp only [Bool.and_eq_true, decide_eq_true_eq] at b
  obtain ⟨b1, b2, b3⟩ := b
  have F := fun_mk l c k
  exact ⟨fI, _, ⟨PySem.W.mg_of X G gC, oexB_ok b1, iC, tI, b2, b3⟩, ok_init F S hb hv (oexB_ok b1) b2 b3, F.binds bi⟩
end
section
variable {ct : Nat → Addr} {W : WX} {X : Cx} {p p3 pos : Pos} {e : Expr} {es : List Expr} {ms : M (List D)}
theorem vs_raiseG {n j : Nat} (hc : X.calm = true) (tk : Takes X W) (T : GreatOk X.prog X.w X.K X.mg X.base (ct n)) (hr : Room j X.A) (hj : 2 ≤ j) (hg : Gl X "TooGreat") (ha : VA ct W X (e :: es) ms)
    (he : starEach (e :: es) X.env = (false, eval e X.env) :: starEach es X.env := by rfl) (hpl : (backTo p3 (starEach es X.env)).any (·.1) = false := by rfl) :
    VS ct W X (.Raise (some (.Call (.Name "TooGreat" p) (e :: es) [] p3)) none pos) (mErr2 n ms) := by
  obtain ⟨fI, fd, T, F1, hb⟩ := T.ex
  exact vs_raise2 hc tk T F1 (hr.mono hj) hb hg ha he hpl
end
structure Maker (X : Cx) : Prop where
  ex : ∃ c P, LamX.TabB X.base X.mg c P ∧ X.env.code = .ref c ∧ (P, X.env.qual ++ "<lambda>") ∈ lamT X.K ∧ ∀ p ∈ lamT X.K, p.1 = P → p.2 = X.env.qual ++ "<lambda>"
section
variable {ct : Nat → Addr} {W : WX} {X : Cx} {x a : Str} {st : Stmt} {Ng : List Str} {m0 : MS} {m1 : Nat → Addr → Option Addr → MS} {params : Arguments} {body : Expr} {scope : Scope} {me : M D} {p lpos pos : Pos} {k : Nat}
def Refuses (X : Cx) (ct : Nat → Addr) (x a : Str) (st : Stmt) (Ng : List Str) (m0 : MS) (m1 : Nat → Addr → Option Addr → MS) : Prop :=
  ∀ (g : Addr) (cdv : Value) (q : Str), LamX.GivesTo X Ng x (defScope st) g cdv (defBody st) a q (TTref X.K ct Ng.length m0 m1)
theorem ve_refused (mk : Maker X) (T : Tx X.K X.mg x st [a]) (Sg : FnScope Ng [a] (defScope st)) (h0 : Ng[0]? = some a) (hva : Vis (defScope st) a) (hG : Refuses X ct x a st Ng m0 m1) (tl : Tells Ng.length m0 m1) (hg : Gl X x) (hr : Room (k + 2) X.A)
    (L : LamX.LamS X.env.scope scope) (hbody : ∀ (A : Around) (outer : List Env) (s : Shared) (H : Hp) (E : XK) (f c' : Addr), Room k (LamX.lamCx X A outer s H E scope f c').A → Takes (LamX.lamCx X A outer s H E scope f c') (WE' E) → VE ct (WE' E) (LamX.lamCx X A outer s H E scope f c') body me)
    (hdef : defaultsOf params X.env = ([], []) := by rfl)
    (hbind : ∀ (q : Str) (cl : List (Str × Addr)) (pm cv ctv : Value), bindArgs (PySem.W.kla_fn "<lambda>" q params body scope cl pm cv ctv) ⟨[], []⟩ = pure [] := by intro _ _ _ _ _; rfl)
    (hdb : (x == ("__debug__" : Str)) = false := by decide) (hd : (a == ("__debug__" : Str)) = false := by decide) (hcd : (a == ("__classdict__" : Str)) = false := by decide) :
    VE ct W X (.Call (.Name x p) [.Lambda params body scope lpos] [] pos) (mRefused me) := by
  obtain ⟨c, P, TB, hcode, hm, hu⟩ := mk.ex
  obtain ⟨f, fd, F, hmg, hb⟩ := T.ex
  have hk := F.kp
  obtain ⟨oc, od, kV, doc, pm, an, cdv, cv, osl, rfl, lk, hcd'⟩ := F.ex
  exact PE.conv (LamX.pe_lamcall (T := lamT X.K) (TT := TTref X.K ct Ng.length m0 m1) (t := fun E => tG X.K ct (WE' E) (PD X.K) me) hg hmg hk lk hcd' hb Sg h0 hva (hG f cdv _) TB hcode hm hu hr L hdef hbind (fun A outer s H E f c' hr' => hbody A outer s H E f c' hr' (takes_of rfl rfl rfl rfl)) hdb hd hcd) fun σ H Q h => refused_core tl h
end
section
variable {P : Program} {w : World} {K : PySem.W.Frag} {mg : Str → Option Value} {base : Heap} {ct : Nat → Addr} {x qual : Str} {st : Stmt} {f : Addr} {fd : FuncData} {N ps : List Str} {k n : Nat} {body : MS} {oc kV doc pm cdv cv : Value} {od an : Option Addr} {osl : Array (Option Value)}
def BodyAt (P : Program) (w : World) (K : PySem.W.Frag) (mg : Str → Option Value) (base : Heap) (ct : Nat → Addr) (N : List Str) (x : Str) (st : Stmt) (cdv : Value) (k : Nat) (body : MS) : Prop :=
  ∀ (f : Addr) (A : Around) (outer : List Env) (s : Shared) (H : Hp) (E : XK), Room k (Bx P w K mg base N x st f cdv A outer s H E).A → Takes (Bx P w K mg base N x st f cdv A outer s H E) (WE' E) →
      PassesOwn (model P w) (Bx P w K mg base N x st f cdv A outer s H E).A (Bx P w K mg base N x st f cdv A outer s H E).env (Bx P w K mg base N x st f cdv A outer s H E).xe →
      VSs ct (WE' E) (Bx P w K mg base N x st f cdv A outer s H E) (defBody st) body
theorem fnD_okC (lk : K.lookup f = some ⟨oc, od, .func (PySem.W.fnOf x qual (defArgs st) (defBody st) (defScope st) .none kV doc pm an cdv cv), osl⟩) (hcd : PySem.W.codeIn K cdv qual = true) (S : FnScope N ps (defScope st)) (hps : ps.length = n) (hn : ps.length ≤ N.length)
    (hb : BodyAt P w K mg base ct N qual st cdv k body) : FnOk P w K mg base (L2.CX P w) (k + 1) f (PySem.W.fnOf x qual (defArgs st) (defBody st) (defScope st) .none kV doc pm an cdv cv) ps (spD K ct n (fnD N.length body)) := by
  refine fn_of lk hcd S (fun vs H Q E ⟨ds, G, hl, fz, ha, _⟩ => by rw [RpAll.length ha, hl, hps]) fun A outer s H vs Q E hr ⟨ds, G, hl, fz, ha, hq⟩ => ?_
  refine ⟨_, hb f A outer s H E hr (takes_of rfl rfl rfl rfl) (passes_of rfl), unfill N.length (ds.map .dat), G, rel_start fz ha (by rw [RpAll.length ha, hl, ← hps]; exact hn), ?_⟩
  have now : ∀ t b, ¬ Ow t (unfill N.length (ds.map .dat)) (L2.start N vs) b := fun t b => no_ow (N := N) (vs := vs)
  unfold fnD at hq
  cases eb : body (unfill N.length (ds.map .dat)) with
  | bad => rw [eb] at hq; exact hq.elim
  | err c xs =>
    rw [eb] at hq
    exact fun cls dx σ' H' x' e => hq cls dx H' (eext_out now x') e
  | ok pr =>
    obtain ⟨fl, c1⟩ := pr
    rw [eb] at hq
    cases fl with
    | nx => exact fun σ' G' H' x' r' => hq .non G' H' (ext_out now x') ⟨r'.same, r'.nt, r'.tabs⟩ .non
    | bk => exact hq.elim
    | ct => exact hq.elim
    | rt d => exact fun v σ' G' H' x' r' rp => hq v G' H' (ext_out now x') ⟨r'.same, r'.nt, r'.tabs⟩ rp
    | rn es =>
        intro p ws σ' G' H' x' r' h1 h2 h3 h4 h5 h6
        have hp : Fre H p := h5.elim (fun z => absurd z (now false p)) id
        have xo := ext_out now x'
        have sg : Same G' (upd G' p (.lst ws)) := same_upd h2
        refine hq (.ref p) (upd G' p (.lst ws)) H' ⟨xo.keep, xo.back, xo.same.trans sg, fun b o e => ?_, xo.own, xo.par⟩ ⟨fun b o e => ?_, fun b o e => ?_, r'.tabs⟩ (.lst upd_same h3 (h4.mono sg))
        · by_cases q : b = p
          · subst q; exact .inr (.inl (.inl hp))
          · rw [upd_ne q] at e; exact xo.new b o e
        · by_cases q : b = p
          · subst q; rw [upd_same] at e; cases e; exact h1
          · rw [upd_ne q] at e; exact r'.same b o e
        · by_cases q : b = p
          · subst q; rw [upd_same] at e; cases e; exact nt_lst
          · rw [upd_ne q] at e; exact r'.nt b o e
end
theorem walk_tw {l : PySem.W.OpenLaw} {n k : Nat} {q : Program} {loose : List Str} {XP : (Str → Option Value) → Heap → Prop} {YP : World → Heap → Prop} {d : DefRec} {K : Params → PySem.W.Frag} {CX : World → CXT} {x : Str}
    (hn : l.most = some n) (hn2 : n ≤ sizeLine) (hdf : d.params.defaults = []) (hr : Room k callerA) (hY : ∀ (w : World) (h : Heap), YP w h → (K w.params).In h)
    (F : ∀ (w : World) (mg : Str → Option Value) (fa : Addr) (h : Heap), YP w h → (K w.params).In h → h.Ns mainGlobals mg → mg d.name = some (.ref fa) →
      (∀ (y : Str) (c P : Addr), ((recsOf q).any fun e => e.name == y) = true → PySem.W.tabIn (K w.params) y = some (c, P) → PySem.W.CodeHd h c P ∧ h.get? P = some (PySem.W.tabObj #[])) → LamX.LawAtS l w (K w.params) (CX w) k n x mg fa h)
    (hCX : ∀ (w : World) (H : Hp) (s : Shared) (e : Value) (s' : Shared), CX w [] H s (fun _ _ _ => False) e s' → False) :
    PySem.W.WalkO q loose XP YP l.row.toRowW d [] (fun f vs => PySem.call f vs) := by
  refine Att.attach_callB hn hdf fun w s₀ s₁ mg mb fa o pm cd doc a vs ns G Y ho hd hcd hmg hobj hints hlen hbits hg => ?_
  have KX := hY w _ Y
  have hTb : ∀ (y : Str) (c P : Addr), ((recsOf q).any fun e => e.name == y) = true → PySem.W.tabIn (K w.params) y = some (c, P) → PySem.W.CodeHd s₁.heap c P ∧ s₁.heap.get? P = some (PySem.W.tabObj #[]) := fun y c P h1 h2 => by
    obtain ⟨dL, hm, hn1⟩ := List.any_eq_true.mp h1
    obtain ⟨e, he⟩ := Option.isSome_iff_exists.mp (List.find?_isSome (p := fun e : DefRec => e.name == y) |>.mpr ⟨dL, hm, hn1⟩)
    exact PySem.W.tab_of G.T KX he h2
  obtain ⟨fd, cs, sp, hT, nT, C, hb, hsp, hF⟩ := F w mg fa _ Y KX G.T.g hmg hTb
  exact LamX.law_callTs KX G.T.g G.T.b G.T.builtins G.T.nolimit hg hT nT C G.T.bmain hobj hints (Nat.le_trans hlen hn2) hr hF hb (fun H hH hS => hsp H a ns hlen hbits hH hS) fun H e s' => hCX w H s₁ e s'
section
variable {ct : Nat → Addr} {W : WX} {X : Cx} {e : Expr}
theorem ve_bad : VE ct W X e (fun _ => .bad) := ⟨fun pins s σ H Q I ⟨δ, G, r, h⟩ => h.elim⟩
end
end TW
set_option Elab.async false
set_option linter.all false
set_option maxRecDepth 100000
namespace TW
open PySem PySem.Spec PyProof.Rows L2
def Ev {α : Type} (r : R α) (Q : α → Prop) : Prop := ∃ a, r = .ok a ∧ Q a
theorem ex_two {α β : Type} {x : α} {y : β} {Q : α → β → Prop} : (∃ a c, (x = a ∧ y = c) ∧ Q a c) ↔ Q x y := ⟨fun ⟨_, _, ⟨e1, e2⟩, h⟩ => by subst e1 e2; exact h, fun h => ⟨x, y, ⟨rfl, rfl⟩, h⟩⟩
def Rn {α : Type} (m : M α) (cs : List C) (Q : α → List C → Prop) : Prop := ∃ a cs', m cs = .ok (a, cs') ∧ Q a cs'
section
variable {α β : Type}
@[simp] theorem ev_ok {a : α} {Q : α → Prop} : Ev (.ok a) Q ↔ Q a := ⟨fun ⟨_, e, h⟩ => by cases e; exact h, fun h => ⟨a, rfl, h⟩⟩
@[simp] theorem ev_bad {Q : α → Prop} : Ev (.bad : R α) Q ↔ False := ⟨fun ⟨_, e, _⟩ => (nomatch e), fun h => h.elim⟩
@[simp] theorem ev_err {n : Nat} {xs : List D} {Q : α → Prop} : Ev (.err n xs : R α) Q ↔ False := ⟨fun ⟨_, e, _⟩ => (nomatch e), fun h => h.elim⟩
theorem Ev.mono {r : R α} {Q Q' : α → Prop} (h : Ev r Q) (f : ∀ a, Q a → Q' a) : Ev r Q' := let ⟨a, e, q⟩ := h; ⟨a, e, f a q⟩
theorem Rn.mono {m : M α} {cs : List C} {Q Q' : α → List C → Prop} (h : Rn m cs Q) (f : ∀ a c, Q a c → Q' a c) : Rn m cs Q' := let ⟨a, c, e, q⟩ := h; ⟨a, c, e, f a c q⟩
theorem Ev.eq {r : R α} {a : α} (h : Ev r fun x => x = a) : r = .ok a := by obtain ⟨x, e, q⟩ := h; rw [e, q]
@[simp] theorem ev_ite {c : Prop} [Decidable c] {r s : R α} {Q : α → Prop} : Ev (if c then r else s) Q ↔ (if c then Ev r Q else Ev s Q) := by split <;> rfl
@[simp] theorem rn_bind {m : M α} {k : α → M β} {cs : List C} {Q : β → List C → Prop} : Rn (M.bind m k) cs Q ↔ Rn m cs fun a c => Rn (k a) c Q := by
  unfold Rn M.bind
  constructor
  · rintro ⟨b, c, e, q⟩
    cases em : m cs with
    | ok p => obtain ⟨a, c1⟩ := p; rw [em] at e; exact ⟨a, c1, rfl, b, c, e, q⟩
    | err n xs => rw [em] at e; cases e
    | bad => rw [em] at e; cases e
  · rintro ⟨a, c1, em, b, c, e, q⟩
    exact ⟨b, c, by rw [em]; exact e, q⟩
@[simp] theorem rn_pure {a : α} {cs : List C} {Q : α → List C → Prop} : Rn (M.pure a) cs Q ↔ Q a cs := ⟨fun ⟨_, _, e, h⟩ => by cases e; exact h, fun h => ⟨a, cs, rfl, h⟩⟩
@[simp] theorem rn_badM {cs : List C} {Q : α → List C → Prop} : Rn (fun _ => .bad) cs Q ↔ False := ⟨fun ⟨_, _, e, _⟩ => (nomatch e), fun h => h.elim⟩
@[simp] theorem rn_lift {r : R α} {cs : List C} {Q : α → List C → Prop} : Rn (M.lift r) cs Q ↔ Ev r fun a => Q a cs := by
  cases r with
  | ok a => exact ⟨fun ⟨_, _, e, h⟩ => by cases e; exact ⟨a, rfl, h⟩, fun ⟨_, e, h⟩ => by cases e; exact ⟨a, cs, rfl, h⟩⟩
  | err n xs => exact ⟨fun ⟨_, _, e, _⟩ => (nomatch e), fun ⟨_, e, _⟩ => (nomatch e)⟩
  | bad => exact ⟨fun ⟨_, _, e, _⟩ => (nomatch e), fun ⟨_, e, _⟩ => (nomatch e)⟩
@[simp] theorem rn_only {r : R α} {cs : List C} {Q : α → List C → Prop} : Rn (M.only r) cs Q ↔ Ev r fun a => Q a cs := by
  cases r with
  | ok a => exact ⟨fun ⟨_, _, e, h⟩ => by cases e; exact ⟨a, rfl, h⟩, fun ⟨_, e, h⟩ => by cases e; exact ⟨a, cs, rfl, h⟩⟩
  | err n xs => exact ⟨fun ⟨_, _, e, _⟩ => (nomatch e), fun ⟨_, e, _⟩ => (nomatch e)⟩
  | bad => exact ⟨fun ⟨_, _, e, _⟩ => (nomatch e), fun ⟨_, e, _⟩ => (nomatch e)⟩
@[simp] theorem rn_ite {c : Prop} [Decidable c] {m n : M α} {cs : List C} {Q : α → List C → Prop} : Rn (if c then m else n) cs Q ↔ (if c then Rn m cs Q else Rn n cs Q) := by split <;> rfl
end
section
variable {Q : D → List C → Prop} {QL : List D → List C → Prop} {QB : Bool → List C → Prop} {QF : Fl → List C → Prop} {cs : List C} {ma mb mc : M D} {ms : M (List D)} {i n : Nat}
@[simp] theorem rn_mC {d : D} : Rn (mC d) cs Q ↔ Q d cs := rn_pure
def onVar (o : Option C) (cs : List C) (i : Nat) (Q : D → List C → Prop) : Prop := match o with
  | some (.dat d) => Q d cs
  | some (.own false ds) => Q (.list ds) (cs.set i (.dat (.list ds)))
  | _ => False
@[simp] theorem onVar_dat {d : D} : onVar (some (.dat d)) cs i Q ↔ Q d cs := Iff.rfl
@[simp] theorem onVar_own {ds : List D} : onVar (some (.own false ds)) cs i Q ↔ Q (.list ds) (cs.set i (.dat (.list ds))) := Iff.rfl
def onLook (o : Option C) (cs : List C) (Q : D → List C → Prop) : Prop := match o with
  | some (.dat d) => Q d cs
  | some (.own _ ds) => Q (.list ds) cs
  | _ => False
@[simp] theorem onLook_dat {d : D} : onLook (some (.dat d)) cs Q ↔ Q d cs := Iff.rfl
@[simp] theorem onLook_own {t : Bool} {ds : List D} : onLook (some (.own t ds)) cs Q ↔ Q (.list ds) cs := Iff.rfl
def onOwn (o : Option C) (Q : Bool → List D → Prop) : Prop := match o with
  | some (.own t ss) => Q t ss
  | _ => False
@[simp] theorem onOwn_own {t : Bool} {ds : List D} {Q : Bool → List D → Prop} : onOwn (some (.own t ds)) Q ↔ Q t ds := Iff.rfl
def asInt (d : D) (Q : Int → Prop) : Prop := match d with
  | .int k => Q k
  | _ => False
@[simp] theorem asInt_int {k : Int} {Q : Int → Prop} : asInt (.int k) Q ↔ Q k := Iff.rfl
def asTwo (ds : List D) (Q : D → D → Prop) : Prop := match ds with
  | [d, e] => Q d e
  | _ => False
@[simp] theorem asTwo_two {d e : D} {Q : D → D → Prop} : asTwo [d, e] Q ↔ Q d e := Iff.rfl
def onFl (f : Fl) (P : Prop) (Q : Prop) : Prop := match f with
  | .nx => P
  | _ => Q
@[simp] theorem onFl_nx {P Q : Prop} : onFl .nx P Q ↔ P := Iff.rfl
@[simp] theorem onFl_rt {P Q : Prop} {d : D} : onFl (.rt d) P Q ↔ Q := Iff.rfl
@[simp] theorem onFl_rn {P Q : Prop} {d : List D} : onFl (.rn d) P Q ↔ Q := Iff.rfl
@[simp] theorem onFl_bk {P Q : Prop} : onFl .bk P Q ↔ Q := Iff.rfl
@[simp] theorem onFl_ct {P Q : Prop} : onFl .ct P Q ↔ Q := Iff.rfl
@[simp] theorem rn_mVar : Rn (mVar i) cs Q ↔ onVar cs[i]? cs i Q := by
  unfold Rn mVar onVar
  cases e : cs[i]? with
  | none => simp
  | some c =>
    cases c with
    | un => simp
    | dat d => simp [ex_two]
    | own t ds => cases t <;> simp [ex_two]
@[simp] theorem rn_vVar : Rn (vVar i) cs Q ↔ onLook cs[i]? cs Q := by
  unfold Rn vVar onLook
  cases e : cs[i]? with
  | none => simp
  | some c =>
    cases c with
    | un => simp
    | dat d => simp [ex_two]
    | own t ds => cases t <;> simp [ex_two]
@[simp] theorem rn_mOfN : Rn (mOfN ms) cs Q ↔ Rn ms cs fun ds c => Q (.list ds) c := by unfold mOfN; rw [rn_bind]; simp only [rn_pure]
@[simp] theorem rn_mNil : Rn mNil cs QL ↔ QL [] cs := rn_pure
@[simp] theorem rn_mCons : Rn (mCons ma ms) cs QL ↔ Rn ma cs fun d c => Rn ms c fun ds c => QL (d :: ds) c := by unfold mCons; simp only [rn_bind, rn_pure]
@[simp] theorem rn_mTup : Rn (mTup ms) cs Q ↔ Rn ms cs fun ds c => ds.length ≤ 16777216 ∧ Q (.tuple ds) c := by
  unfold mTup
  rw [rn_bind]
  refine iff_of_eq (congrArg _ (funext fun ds => funext fun c => propext ?_))
  by_cases h : ds.length ≤ 16777216 <;> simp [szOk, h]
@[simp] theorem rn_mLst : Rn (mLst ms) cs QL ↔ Rn ms cs fun ds c => ds.length ≤ 16777216 ∧ QL ds c := by
  unfold mLst
  rw [rn_bind]
  refine iff_of_eq (congrArg _ (funext fun ds => funext fun c => propext ?_))
  by_cases h : ds.length ≤ 16777216 <;> simp [szOk, h]
@[simp] theorem rn_mOp1 {g : D → R D} : Rn (mOp1 g ma) cs Q ↔ Rn ma cs fun d c => Ev (g d) fun z => Q z c := by unfold mOp1; simp only [rn_bind, rn_only]
@[simp] theorem rn_mOp2 {g : D → D → R D} : Rn (mOp2 g ma mb) cs Q ↔ Rn ma cs fun d c => Rn mb c fun e c => Ev (g d e) fun z => Q z c := by unfold mOp2; simp only [rn_bind, rn_only]
@[simp] theorem rn_mOp1N {g : D → R (List D)} : Rn (mOp1N g ma) cs QL ↔ Rn ma cs fun d c => Ev (g d) fun z => QL z c := by unfold mOp1N; simp only [rn_bind, rn_only]
@[simp] theorem rn_mOp2N {g : D → D → R (List D)} : Rn (mOp2N g ma mb) cs QL ↔ Rn ma cs fun d c => Rn mb c fun e c => Ev (g d e) fun z => QL z c := by unfold mOp2N; simp only [rn_bind, rn_only]
def AsB (d : D) (Q : Bool → Prop) : Prop := match d with
  | .bool b => Q b
  | _ => False
@[simp] theorem asB_bool {b : Bool} {Q : Bool → Prop} : AsB (.bool b) Q ↔ Q b := Iff.rfl
@[simp] theorem rn_mTest : Rn (mTest ma) cs QB ↔ Rn ma cs fun d c => AsB d fun b => QB b c := by
  unfold mTest
  rw [rn_bind]
  refine iff_of_eq (congrArg _ (funext fun d => funext fun c => propext ?_))
  cases d <;> simp [AsB]
@[simp] theorem rn_mChain {g g' : D → D → R D} : Rn (mChain g g' ma mb mc) cs Q ↔ Rn ma cs fun x c => Rn mb c fun y c => Ev (g x y) fun z => AsB z fun b => if b then Rn mc c fun w c => Ev (g' y w) fun z => Q z c else Q (.bool false) c := by
  unfold mChain
  simp only [rn_bind, rn_only]
  refine iff_of_eq (congrArg _ (funext fun d => funext fun c => congrArg _ (funext fun e => funext fun c => congrArg _ (funext fun z => propext ?_))))
  cases z <;> simp [AsB]
  rename_i b
  cases b <;> simp
@[simp] theorem rn_mChain3 {md : M D} {g g' g2 : D → D → R D} : Rn (mChain3 g g' g2 ma mb mc md) cs Q ↔ Rn ma cs fun x c => Rn mb c fun y c => Ev (g x y) fun z => AsB z fun b => if b then Rn mc c fun w c => Ev (g' y w) fun z => AsB z fun b => if b then Rn md c fun u c => Ev (g2 w u) fun z => Q z c else Q (.bool false) c else Q (.bool false) c := by
  unfold mChain3
  simp only [rn_bind, rn_only]
  refine iff_of_eq (congrArg _ (funext fun d => funext fun c => congrArg _ (funext fun e => funext fun c => congrArg _ (funext fun z => propext ?_))))
  cases z <;> simp [AsB]
  rename_i b
  cases b <;> simp
  refine iff_of_eq (congrArg _ (funext fun d => funext fun c => congrArg _ (funext fun z => propext ?_)))
  cases z <;> simp
  rename_i b
  cases b <;> simp
variable {ta tb : M Bool}
@[simp] theorem rn_mAnd : Rn (mAnd ta tb) cs QB ↔ Rn ta cs fun k c => if k then Rn tb c QB else QB false c := by unfold mAnd; simp only [rn_bind, rn_ite, rn_pure]
@[simp] theorem rn_mOr : Rn (mOr ta tb) cs QB ↔ Rn ta cs fun k c => if k then QB true c else Rn tb c QB := by unfold mOr; simp only [rn_bind, rn_ite, rn_pure]
@[simp] theorem rn_mNot : Rn (mNot ta) cs QB ↔ Rn ta cs fun k c => QB (!k) c := by unfold mNot; simp only [rn_bind, rn_pure]
@[simp] theorem rn_mIf : Rn (mIf ta ma mb) cs Q ↔ Rn ta cs fun k c => if k then Rn ma c Q else Rn mb c Q := by unfold mIf; simp only [rn_bind, rn_ite]
@[simp] theorem rn_mAndV : Rn (mAndV ma mb) cs Q ↔ Rn ma cs fun d c => AsB d fun b => if b then Rn mb c Q else Q (.bool false) c := by
  unfold mAndV
  rw [rn_bind]
  refine iff_of_eq (congrArg _ (funext fun d => funext fun c => propext ?_))
  cases d <;> simp [AsB]
  rename_i b
  cases b <;> simp
@[simp] theorem rn_mOrV : Rn (mOrV ma mb) cs Q ↔ Rn ma cs fun d c => AsB d fun b => if b then Q (.bool true) c else Rn mb c Q := by
  unfold mOrV
  rw [rn_bind]
  refine iff_of_eq (congrArg _ (funext fun d => funext fun c => propext ?_))
  cases d <;> simp [AsB]
  rename_i b
  cases b <;> simp
@[simp] theorem rn_mNotV : Rn (mNotV ma) cs Q ↔ Rn ma cs fun d c => AsB d fun b => Q (.bool (!b)) c := by
  unfold mNotV
  rw [rn_bind]
  refine iff_of_eq (congrArg _ (funext fun d => funext fun c => propext ?_))
  cases d <;> simp [AsB]
@[simp] theorem rn_mNoPart {QO : Option Int → List C → Prop} : Rn mNoPart cs QO ↔ QO none cs := rn_pure
@[simp] theorem rn_mPart {QO : Option Int → List C → Prop} : Rn (mPart ma) cs QO ↔ Rn ma cs fun d c => asInt d fun i => QO (some i) c := by
  unfold mPart
  rw [rn_bind]
  refine iff_of_eq (congrArg _ (funext fun d => funext fun c => propext ?_))
  cases d <;> simp [asInt]
@[simp] theorem rn_mSl {ml mh : MO} : Rn (mSl ma ml mh) cs Q ↔ Rn ma cs fun d c => Rn ml c fun lo c => Rn mh c fun hi c => Ev (gSl d lo hi) fun z => Q z c := by unfold mSl; simp only [rn_bind, rn_only]
@[simp] theorem rn_mRange : Rn (mRange ma mb) cs QL ↔ Rn ma cs fun d c => Rn mb c fun e c => Ev (gRg d e) fun z => QL z c := by unfold mRange; simp only [rn_bind, rn_only]
@[simp] theorem rn_mRange1 : Rn (mRange1 ma) cs QL ↔ Rn ma cs fun d c => Ev (gRg (.int 0) d) fun z => QL z c := by unfold mRange1; simp only [rn_bind, rn_only]
@[simp] theorem rn_mSeq1 : Rn (mSeq1 ma) cs QL ↔ Rn ma cs fun d c => Ev (gSeq d) fun z => QL z c := by unfold mSeq1; simp only [rn_bind, rn_only]
@[simp] theorem rn_mZip : Rn (mZip ma mb) cs QL ↔ Rn ma cs fun d c => Rn mb c fun e c => Ev (gZip d e) fun z => QL z c := by unfold mZip; simp only [rn_bind, rn_only]
@[simp] theorem rn_mYes : Rn mYes cs QB ↔ QB true cs := rn_pure
@[simp] theorem rn_mCall {F : List D → R D} : Rn (mCall n F ms) cs Q ↔ Rn ms cs fun ds c => ds.length = n ∧ Ev (F ds) fun z => Q z c := by
  unfold mCall
  rw [rn_bind]
  refine iff_of_eq (congrArg _ (funext fun ds => funext fun c => propext ?_))
  by_cases h : ds.length = n <;> simp [h]
@[simp] theorem rn_mCallN {F : List D → R (List D)} : Rn (mCallN n F ms) cs QL ↔ Rn ms cs fun ds c => ds.length = n ∧ Ev (F ds) fun z => QL z c := by
  unfold mCallN
  rw [rn_bind]
  refine iff_of_eq (congrArg _ (funext fun ds => funext fun c => propext ?_))
  by_cases h : ds.length = n <;> simp [h]
@[simp] theorem rn_stPut {F : List D → R (D × List D)} : Rn (stPut i F) cs Q ↔ onOwn cs[i]? fun t ss => Ev (F ss) fun p => Q p.1 (cs.set i (.own t p.2)) := by
  unfold Rn stPut onOwn
  cases e : cs[i]? with
  | none => simp
  | some c =>
    cases c with
    | un => simp
    | dat d => simp
    | own t ss => cases ef : F ss <;> simp [ef, ex_two]
@[simp] theorem rn_own {α : Type} {m : M α} {QA : α → List C → Prop} : Rn (fun cs => if isOwn cs i then m cs else .bad) cs QA ↔ isOwn cs i = true ∧ Rn m cs QA := by
  unfold Rn
  by_cases h : isOwn cs i = true
  · simp [h]
  · simp [h]
@[simp] theorem rn_mCallS {F : List D → List D → R (D × List D)} : Rn (mCallS n i F ms) cs Q ↔ isOwn cs i = true ∧ Rn ms cs fun ds c => ds.length = n ∧ Rn (stPut i fun ss => F ss ds) c Q := by
  unfold mCallS
  rw [rn_own, rn_bind]
  refine and_congr Iff.rfl (iff_of_eq (congrArg _ (funext fun ds => funext fun c => propext ?_)))
  by_cases h : ds.length = n <;> simp [h]
@[simp] theorem rn_popAt {d : D} : Rn (popAt i d) cs Q ↔ asInt d fun k => onOwn cs[i]? fun t ds => (-4611686018427387904 ≤ k ∧ k < 4611686018427387904) ∧ ∃ j z, seqIndex? k ds.length = some j ∧ ds[j]? = some z ∧ Q z (cs.set i (.own t (ds.eraseIdx j))) := by
  unfold Rn popAt onOwn asInt
  cases e : cs[i]? with
  | none => cases d <;> simp
  | some c =>
    cases c with
    | un => cases d <;> simp
    | dat d' => cases d <;> simp
    | own t ds =>
      cases d with
      | int k =>
        by_cases hk : -4611686018427387904 ≤ k ∧ k < 4611686018427387904
        · simp only [hk, and_self, decide_true, if_true, true_and]
          cases ej : seqIndex? k ds.length with
          | none => simp
          | some j => cases ez : ds[j]? <;> simp [ez, ex_two]
        · simp [hk]
      | _ => simp
@[simp] theorem rn_mPop : Rn (mPop i ma) cs Q ↔ isOwn cs i = true ∧ Rn ma cs fun d c => Rn (popAt i d) c Q := by unfold mPop; rw [rn_own, rn_bind]
variable {sa sb : MS}
@[simp] theorem rn_mSeq : Rn (mSeq sa sb) cs QF ↔ Rn sa cs fun f c => onFl f (Rn sb c QF) (QF f c) := by
  unfold mSeq
  rw [rn_bind]
  refine iff_of_eq (congrArg _ (funext fun f => funext fun c => propext ?_))
  cases f <;> simp
@[simp] theorem rn_mNx : Rn mNx cs QF ↔ QF .nx cs := rn_pure
@[simp] theorem rn_mPut {d : D} : Rn (mPut i d) cs QF ↔ QF .nx (cs.set i (.dat d)) := ⟨fun ⟨_, _, e, h⟩ => by cases e; exact h, fun h => ⟨_, _, rfl, h⟩⟩
@[simp] theorem rn_mPutN {d : List D} : Rn (mPutN i d) cs QF ↔ QF .nx (cs.set i (.own false d)) := ⟨fun ⟨_, _, e, h⟩ => by cases e; exact h, fun h => ⟨_, _, rfl, h⟩⟩
@[simp] theorem rn_mSet : Rn (mSet i ma) cs QF ↔ Rn ma cs fun d c => QF .nx (c.set i (.dat d)) := by unfold mSet; simp only [rn_bind, rn_mPut]
@[simp] theorem rn_mSetN : Rn (mSetN i ms) cs QF ↔ Rn ms cs fun d c => QF .nx (c.set i (.own false d)) := by unfold mSetN; simp only [rn_bind, rn_mPutN]
@[simp] theorem rn_mIfS : Rn (mIfS ta sa sb) cs QF ↔ Rn ta cs fun k c => if k then Rn sa c QF else Rn sb c QF := by unfold mIfS; simp only [rn_bind, rn_ite]
@[simp] theorem rn_mRet : Rn (mRet ma) cs QF ↔ Rn ma cs fun d c => QF (.rt d) c := by unfold mRet; simp only [rn_bind, rn_pure]
@[simp] theorem rn_mRetN : Rn (mRetN ms) cs QF ↔ Rn ms cs fun d c => QF (.rn d) c := by unfold mRetN; simp only [rn_bind, rn_pure]
@[simp] theorem rn_mRetO : Rn (mRetO i) cs QF ↔ onOwn cs[i]? fun t ds => t = false ∧ QF (.rn ds) (cs.set i .un) := by
  unfold Rn mRetO onOwn
  cases e : cs[i]? with
  | none => simp
  | some c =>
    cases c with
    | un => simp
    | dat d => simp
    | own t ss => cases t <;> simp [ex_two]
@[simp] theorem rn_mDrop : Rn (mDrop ma) cs QF ↔ Rn ma cs fun _ c => QF .nx c := by unfold mDrop; simp only [rn_bind, rn_mNx]
@[simp] theorem rn_ownPut {g : List D → R (List D)} {QU : Unit → List C → Prop} : Rn (ownPut i g) cs QU ↔ onOwn cs[i]? fun t ds => Ev (g ds) fun es => es.length ≤ 16777216 ∧ QU () (cs.set i (.own t es)) := by
  unfold Rn ownPut onOwn
  cases e : cs[i]? with
  | none => simp
  | some c =>
    cases c with
    | un => simp
    | dat d => simp
    | own t ds =>
      cases ef : g ds with
      | ok es =>
        by_cases h : es.length ≤ 16777216
        · simp [szOk, h, ef, ex_two]
          exact ⟨fun ⟨_, h⟩ => h, fun h => ⟨(), h⟩⟩
        · simp [szOk, h, ef]
      | err n xs => simp [ef]
      | bad => simp [ef]
@[simp] theorem rn_mOn {g : D → List D → R (List D)} : Rn (mOn i ma g) cs QF ↔ isOwn cs i = true ∧ Rn ma cs fun d c => Rn (ownPut i (g d)) c fun _ c => QF .nx c := by unfold mOn; rw [rn_own]; simp only [rn_bind, rn_mNx]
@[simp] theorem rn_mSetIx {mk : M D} : Rn (mSetIx i mk ma) cs QF ↔ Rn ma cs fun d c => isOwn c i = true ∧ Rn mk c fun k c => Rn (ownPut i (gPut k d)) c fun _ c => QF .nx c := by
  unfold mSetIx
  rw [rn_bind]
  refine iff_of_eq (congrArg _ (funext fun d => funext fun c => propext ?_))
  rw [rn_own]
  simp only [rn_bind, rn_mNx]
@[simp] theorem rn_mPar {j : Nat} : Rn (mPar i j ms) cs QF ↔ Rn ms cs fun ds c => asTwo ds fun d e => QF .nx ((c.set i (.dat d)).set j (.dat e)) := by
  unfold mPar
  rw [rn_bind]
  refine iff_of_eq (congrArg _ (funext fun ds => funext fun c => propext ?_))
  match ds with
  | [d, e] => exact ⟨fun ⟨_, _, e, h⟩ => by cases e; exact h, fun h => ⟨_, _, rfl, h⟩⟩
  | [] => simp [asTwo]
  | [_] => simp [asTwo]
  | _ :: _ :: _ :: _ => simp [asTwo]
@[simp] theorem rn_mUnp {is : List Nat} {f : D → R (List D)} : Rn (mUnp is f ma) cs QF ↔ Rn ma cs fun d c => Ev (f d) fun ds => QF .nx (setC c is ds) := by
  unfold mUnp
  rw [rn_bind]
  refine iff_of_eq (congrArg _ (funext fun d => funext fun c => propext ?_))
  unfold Rn
  cases f d with
  | ok ds => simp [ex_two]
  | err n xs => simp
  | bad => simp
variable {body : MS} {ds ss : List D}
def Ends1 (Q : D → Prop) (f : Fl) : Prop := match f with
  | .rt d => Q d
  | .rn es => Q (.list es)
  | .nx => Q .none
  | _ => False
@[simp] theorem ends_rt {Q : D → Prop} {d : D} : Ends1 Q (.rt d) ↔ Q d := Iff.rfl
@[simp] theorem ends_rn {Q : D → Prop} {d : List D} : Ends1 Q (.rn d) ↔ Q (.list d) := Iff.rfl
@[simp] theorem ends_nx {Q : D → Prop} : Ends1 Q .nx ↔ Q .none := Iff.rfl
theorem ev_fnD {Q : D → Prop} : Ev (fnD n body ds) Q ↔ Rn body (unfill n (ds.map .dat)) fun f _ => Ends1 Q f := by
  unfold fnD Rn
  cases body (unfill n (ds.map .dat)) with
  | ok p => obtain ⟨f, c⟩ := p; cases f <;> simp [Ends1]
  | err n xs => simp
  | bad => simp
theorem ev_fnN {Q : List D → Prop} : Ev (fnN n body ds) Q ↔ Rn body (unfill n (ds.map .dat)) fun f _ => match f with | .rn es => Q es | _ => False := by
  unfold fnN Rn
  cases body (unfill n (ds.map .dat)) with
  | ok p => obtain ⟨f, c⟩ := p; cases f <;> simp
  | err n xs => simp
  | bad => simp
def St1 (cs : List C) (Q : List D → Prop) : Prop := match (List.head? cs : Option C) with
  | some (C.own true ss') => Q ss'
  | _ => False
@[simp] theorem st1_own {cs : List C} {ss : List D} {Q : List D → Prop} : St1 (.own true ss :: cs) Q ↔ Q ss := Iff.rfl
theorem ev_fnS {Q : D × List D → Prop} : Ev (fnS n body ss ds) Q ↔ Rn body (unfill n (.own true ss :: ds.map .dat)) fun f c => match f with | .rt d => St1 c fun s => Q (d, s) | .rn es => St1 c fun s => Q (.list es, s) | _ => False := by
  unfold fnS Rn
  cases body (unfill n (.own true ss :: ds.map .dat)) with
  | ok p =>
    obtain ⟨f, c⟩ := p
    cases f
    · simp
    · simp only [ex_two, R.ok.injEq, Prod.mk.injEq, St1]
      cases e : c.head? with
      | none => simp
      | some z => cases z with
        | own t ss => cases t <;> simp
        | _ => simp
    · simp only [ex_two, R.ok.injEq, Prod.mk.injEq, St1]
      cases e : c.head? with
      | none => simp
      | some z => cases z with
        | own t ss => cases t <;> simp
        | _ => simp
    · simp
    · simp
  | err n xs => simp
  | bad => simp
end
section
variable {is vs : List Nat} {f : D → R (List D)} {body : MS} {mi : M (List D)} {mt : M Bool} {me : M D} {cs : List C}
theorem rn_mFor {QF : Fl → List C → Prop} : Rn (mFor is f mi body) cs QF ↔ Rn mi cs fun ds c => Rn (forGo is f body ds) c QF := by unfold mFor; rw [rn_bind]
theorem rn_mComp {QL : List D → List C → Prop} : Rn (mComp vs is f mi mt me) cs QL ↔ Rn mi cs fun ds c => Rn (compGo vs is f mt me ds) (wipeC c vs) QL := by
  unfold mComp
  rw [rn_bind]
  refine iff_of_eq (congrArg _ (funext fun ds => funext fun c => propext ?_))
  unfold Rn
  cases e : compGo vs is f mt me ds (wipeC c vs) <;> simp [e]
theorem rn_for_nil {QF : Fl → List C → Prop} : Rn (forGo is f body []) cs QF ↔ QF .nx cs := ⟨fun ⟨_, _, e, h⟩ => by cases e; exact h, fun h => ⟨_, _, rfl, h⟩⟩
theorem rn_for_cons {x : D} {xs : List D} {QF : Fl → List C → Prop} : Rn (forGo is f body (x :: xs)) cs QF ↔ Ev (f x) fun ds => Rn body (setC cs is ds) fun fl c => match fl with
    | .nx => Rn (forGo is f body xs) c QF
    | .ct => Rn (forGo is f body xs) c QF
    | .bk => QF .nx c
    | fl => QF fl c := by
  unfold Rn
  simp only [forGo]
  cases f x with
  | ok ds =>
    simp only [ev_ok]
    cases body (setC cs is ds) with
    | ok p => obtain ⟨fl, c⟩ := p; cases fl <;> simp [ex_two]
    | err n xs => simp
    | bad => simp
  | err n xs => simp
  | bad => simp
theorem for_rule {ds : List D} {QF : Fl → List C → Prop} (I : List D → List C → Prop) (h0 : I ds cs) (he : ∀ c, I [] c → QF .nx c)
    (step : ∀ x xs c, I (x :: xs) c → Ev (f x) fun ys => Rn body (setC c is ys) fun fl c' => match fl with
      | .nx => I xs c'
      | .ct => I xs c'
      | .bk => QF .nx c'
      | fl => QF fl c') : Rn (forGo is f body ds) cs QF := by
  induction ds generalizing cs with
  | nil => exact rn_for_nil.mpr (he cs h0)
  | cons x xs ih =>
    refine rn_for_cons.mpr ((step x xs cs h0).mono fun ys hy => hy.mono fun fl c hc => ?_)
    cases fl with
    | nx => exact ih hc
    | ct => exact ih hc
    | bk => exact hc
    | rt d => exact hc
    | rn d => exact hc
theorem rn_comp_nil {QL : List D → List C → Prop} : Rn (compGo vs is f mt me []) cs QL ↔ QL [] cs := ⟨fun ⟨_, _, e, h⟩ => by cases e; exact h, fun h => ⟨_, _, rfl, h⟩⟩
theorem rn_comp_cons {x : D} {xs : List D} {QL : List D → List C → Prop} : Rn (compGo vs is f mt me (x :: xs)) cs QL ↔ Ev (f x) fun ds => Rn mt (setC cs is ds) fun b c => if b then Rn me c fun d c => Rn (compGo vs is f mt me xs) (wipeC c vs) fun r c => QL (d :: r) c else Rn (compGo vs is f mt me xs) (wipeC c vs) QL := by
  unfold Rn
  simp only [compGo]
  cases f x with
  | ok ds =>
    simp only [ev_ok]
    cases mt (setC cs is ds) with
    | ok p =>
      obtain ⟨b, c⟩ := p
      cases b with
      | true =>
        simp only [if_true]
        cases e2 : me c with
        | ok p =>
          obtain ⟨d, c2⟩ := p
          cases e3 : compGo vs is f mt me xs (wipeC c2 vs) with
          | ok p => obtain ⟨r, c3⟩ := p; simp [e2, e3, ex_two]
          | err n xs => simp [e2, e3]
          | bad => simp [e2, e3]
        | err n xs => simp [e2]
        | bad => simp [e2]
      | false =>
        cases e3 : compGo vs is f mt me xs (wipeC c vs) <;> simp [e3]
    | err n xs => simp
    | bad => simp
  | err n xs => simp
  | bad => simp
theorem rn_while {fuel : Nat} {QF : Fl → List C → Prop} : Rn (whileGo mt body (fuel + 1)) cs QF ↔ Rn mt cs fun b c => if b then Rn body c fun fl c => match fl with
    | .nx => Rn (whileGo mt body fuel) c QF
    | .ct => Rn (whileGo mt body fuel) c QF
    | .bk => QF .nx c
    | fl => QF fl c
  else QF .nx c := by
  unfold Rn
  simp only [whileGo]
  cases mt cs with
  | ok p =>
    obtain ⟨b, c⟩ := p
    cases b with
    | true =>
      simp only [if_true]
      cases e : body c with
      | ok p => obtain ⟨fl, c⟩ := p; cases fl <;> simp [e, ex_two]
      | err n xs => simp [e]
      | bad => simp [e]
    | false => simp [ex_two]
  | err n xs => simp
  | bad => simp
theorem while_rule {fuel : Nat} {QF : Fl → List C → Prop} (I : Nat → List C → Prop) (n : Nat) (h0 : I n cs) (hn : n < fuel)
    (step : ∀ k c, I k c → Rn mt c fun b c => if b then 0 < k ∧ Rn body c fun fl c => match fl with
      | .nx => I (k - 1) c
      | .ct => I (k - 1) c
      | .bk => QF .nx c
      | fl => QF fl c
    else QF .nx c) : Rn (whileGo mt body fuel) cs QF := by
  induction fuel generalizing cs n with
  | zero => exact absurd hn (Nat.not_lt_zero _)
  | succ fuel ih =>
    refine rn_while.mpr ((step n cs h0).mono fun b c hc => ?_)
    cases b with
    | false => exact hc
    | true =>
      simp only [if_true] at hc ⊢
      obtain ⟨h1, h2⟩ := hc
      refine h2.mono fun fl c hc => ?_
      cases fl with
      | nx => exact ih (n - 1) hc (by omega)
      | ct => exact ih (n - 1) hc (by omega)
      | bk => exact hc
      | rt d => exact hc
      | rn d => exact hc
end
end TW
set_option Elab.async false
set_option linter.all false
set_option maxRecDepth 100000
namespace TW
open PySem PySem.Spec PyProof.Rows L2
section
variable {i j : Int} {a b : Bool} {d e : D} {ds es : List D}
theorem shaped_int : SeqAt.shaped (.int i) = true := by simp [SeqAt.shaped, PyData.canLay0, PyData.depth]
theorem shaped_bool : SeqAt.shaped (.bool a) = true := by simp [SeqAt.shaped, PyData.canLay0, PyData.depth]
@[simp] theorem gOrd_int {f : D → D → Bool} : gOrd f (.int i) (.int j) = .ok (.bool (f (.int i) (.int j))) := by simp [gOrd, shaped_int, PySem.W.alike, isNon, PyData.depth]
@[simp] theorem oLt_int : oLt (.int i) (.int j) = .ok (.bool (decide (i < j))) := by simp [oLt, PySem.W.dataLt_int]
@[simp] theorem oGt_int : oGt (.int i) (.int j) = .ok (.bool (decide (j < i))) := by simp [oGt, PySem.W.dataLt_int]
@[simp] theorem oLe_int : oLe (.int i) (.int j) = .ok (.bool (decide (i ≤ j))) := by simp [oLe, PySem.W.dataLt_int, ← Int.not_lt]
@[simp] theorem oGe_int : oGe (.int i) (.int j) = .ok (.bool (decide (j ≤ i))) := by simp [oGe, PySem.W.dataLt_int, ← Int.not_lt]
@[simp] theorem gAdd_int : gAdd (.int i) (.int j) = .ok (.int (i + j)) := by simp [gAdd, gOr, gI]
@[simp] theorem gSub_int : gSub (.int i) (.int j) = .ok (.int (i - j)) := by simp [gSub, gI]
theorem gMul_int (h : -18446744073709551616 < i ∧ i < 18446744073709551616 ∨ -18446744073709551616 < j ∧ j < 18446744073709551616) : gMul (.int i) (.int j) = .ok (.int (i * j)) := by
  have : cMul i j = true := by unfold cMul; rw [Bool.or_eq_true, decide_eq_true_eq, decide_eq_true_eq]; exact h
  simp [gMul, gOr, gIC, this]
theorem gDiv_int (h : 0 < j ∧ j < 1073741824) : gDiv (.int i) (.int j) = .ok (.int (i / j)) := by simp [gDiv, gIC, cDiv, h]
theorem gMod_int (h : 0 < j) : gMod (.int i) (.int j) = .ok (.int (i % j)) := by simp [gMod, gIC, cMod, h]
@[simp] theorem gEq_int : gEq (.int i) (.int j) = .ok (.bool (i == j)) := by simp [gEq, shaped_int, PyData.eqv]
@[simp] theorem gNe_int : gNe (.int i) (.int j) = .ok (.bool (i != j)) := by simp [gNe, shaped_int, PyData.eqv, bne]
@[simp] theorem gEq_bool : gEq (.bool a) (.bool b) = .ok (.bool (a == b)) := by simp [gEq, shaped_bool, PyData.eqv]
@[simp] theorem gNe_bool : gNe (.bool a) (.bool b) = .ok (.bool (a != b)) := by simp [gNe, shaped_bool, PyData.eqv, bne]
@[simp] theorem gNeg_int : gNeg (.int i) = .ok (.int (-i)) := rfl
@[simp] theorem gMax2_int : gMax2 (.int i) (.int j) = .ok (.int (max i j)) := by
  simp only [gMax2, R.ok.injEq, PyData.int.injEq]
  split <;> omega
@[simp] theorem gMin2_int : gMin2 (.int i) (.int j) = .ok (.int (min i j)) := by
  simp only [gMin2, R.ok.injEq, PyData.int.injEq]
  split <;> omega
@[simp] theorem gIsB_bool : gIsB (.bool a) (.bool b) = .ok (.bool (decide (a = b))) := rfl
@[simp] theorem gNotB_bool : gNotB (.bool a) (.bool b) = .ok (.bool (!decide (a = b))) := rfl
@[simp] theorem gLen_list : gLen (.list ds) = .ok (.int ds.length) := rfl
@[simp] theorem gLen_tuple : gLen (.tuple ds) = .ok (.int ds.length) := rfl
@[simp] theorem gSeq_list : gSeq (.list ds) = .ok ds := rfl
@[simp] theorem gSeq_tuple : gSeq (.tuple ds) = .ok ds := rfl
@[simp] theorem gTuple_list : gTuple (.list ds) = .ok (.tuple ds) := rfl
@[simp] theorem gTuple_tuple : gTuple (.tuple ds) = .ok (.tuple ds) := rfl
@[simp] theorem gList_list : gList (.list ds) = .ok ds := rfl
@[simp] theorem gList_tuple : gList (.tuple ds) = .ok ds := rfl
@[simp] theorem gRev_tuple : gRev (.tuple ds) = .ok (.tuple ds.reverse) := rfl
@[simp] theorem gApp_ok : gApp d ds = .ok (ds ++ [d]) := rfl
@[simp] theorem gExt_list : gExt (.list es) ds = .ok (ds ++ es) := rfl
@[simp] theorem gSl_tuple {lo hi : Option Int} : gSl (.tuple ds) lo hi = .ok (.tuple (cutD ds lo hi)) := rfl
@[simp] theorem gSl_list {lo hi : Option Int} : gSl (.list ds) lo hi = .ok (.list (cutD ds lo hi)) := rfl
@[simp] theorem gZip_list : gZip (.list ds) (.list es) = .ok ((ds.zip es).map fun p => zpD [p.1, p.2]) := rfl
@[simp] theorem gZip_tuple : gZip (.tuple ds) (.tuple es) = .ok ((ds.zip es).map fun p => zpD [p.1, p.2]) := rfl
@[simp] theorem fName_ok : fName d = .ok [d] := rfl
@[simp] theorem fTup_zp : fTup 2 (zpD [d, e]) = .ok [d, e] := rfl
@[simp] theorem fTup_two : fTup 2 (.tuple [d, e]) = .ok [d, e] := rfl
theorem gCat_tuple (h : ds.length + es.length ≤ 16777216) : gAdd (.tuple ds) (.tuple es) = .ok (.tuple (ds ++ es)) := by simp [gAdd, gOr, gI, gCatT, szOk, h]
theorem gCat_list (h : ds.length + es.length ≤ 16777216) : gAdd (.list ds) (.list es) = .ok (.list (ds ++ es)) := by simp [gAdd, gOr, gI, gCatT, gCatS, asD, gCatL, szOk, h]
theorem gIx_list {k : Nat} (hi : 0 ≤ i) (hk : i.toNat = k) (hb : i < 4611686018427387904) (h : ds[k]? = some d) : gIx (.list ds) (.int i) = .ok d := by
  have e : i = ((k : Nat) : Int) := by omega
  subst e
  simp only [gIx]
  rw [atI_nat h]
@[simp] theorem gIx_l0 {es : List D} : gIx (.list (d :: es)) (.int 0) = .ok d := by simp only [gIx]; rw [show (0 : Int) = ((0 : Nat) : Int) from rfl, atI_nat (j := 0) rfl]
@[simp] theorem gIx_l1 {es : List D} : gIx (.list (d :: e :: es)) (.int 1) = .ok e := by simp only [gIx]; rw [show (1 : Int) = ((1 : Nat) : Int) from rfl, atI_nat (j := 1) rfl]
@[simp] theorem gIx_t0 {es : List D} : gIx (.tuple (d :: es)) (.int 0) = .ok d := by simp only [gIx]; rw [show (0 : Int) = ((0 : Nat) : Int) from rfl, atI_nat (j := 0) rfl]
@[simp] theorem gIx_t1 {es : List D} : gIx (.tuple (d :: e :: es)) (.int 1) = .ok e := by simp only [gIx]; rw [show (1 : Int) = ((1 : Nat) : Int) from rfl, atI_nat (j := 1) rfl]
@[simp] theorem gLen_scr {ns : List Int} : gLen (scrD ns) = .ok (.int ns.length) := by simp [scrD, gLen]
@[simp] theorem ixN_0 {n : Nat} (h : 0 < n) : ixN n 0 = some 0 := by simp [ixN]; omega
theorem gRg_int (h : rgOk i j = true) : gRg (.int i) (.int j) = .ok (rgD i j) := by simp [gRg, h]
theorem rgOk_small (h1 : -1000000 ≤ i ∧ i ≤ 1000000) (h2 : -1000000 ≤ j ∧ j ≤ 1000000) : rgOk i j = true := by
  simp only [rgOk, decide_eq_true_eq]
  omega
end
end TW
set_option Elab.async false
set_option linter.all false
set_option maxRecDepth 100000
namespace TW
open PySem PySem.Spec PyProof.Rows L2
section
variable {vs is : List Nat} {f : D → R (List D)} {mt : M Bool} {me : M D}
theorem comp_map {ds : List D} {c0 : List C} {QL : List D → List C → Prop} (g : D → D) (step : ∀ x ∈ ds, Ev (f x) fun ys => Rn me (setC c0 is ys) fun d c => d = g x ∧ wipeC c vs = c0) (h : QL (ds.map g) c0) : Rn (compGo vs is f mYes me ds) c0 QL := by
  induction ds generalizing QL with
  | nil => exact rn_comp_nil.mpr h
  | cons x xs ih =>
    refine rn_comp_cons.mpr ((step x List.mem_cons_self).mono fun ys hy => ?_)
    simp only [rn_mYes, if_true]
    refine hy.mono fun d c ⟨e1, e2⟩ => ?_
    rw [e2]
    exact ih (fun y hy => step y (List.mem_cons_of_mem _ hy)) (by rw [e1]; exact h)
end
def rgI (a b : Int) : List Int := (List.range (b - a).toNat).map fun i => a + (i : Nat)
theorem rgD_eq (a b : Int) : rgD a b = (rgI a b).map .int := by unfold rgD rgI; rw [List.map_map]; rfl
theorem rgI_mem {a b x : Int} : x ∈ rgI a b ↔ a ≤ x ∧ x < b := by
  unfold rgI
  rw [List.mem_map]
  constructor
  · rintro ⟨i, hi, rfl⟩
    have := List.mem_range.mp hi
    omega
  · intro h
    exact ⟨(x - a).toNat, List.mem_range.mpr (by omega), by omega⟩
theorem rgI_pw (a b : Int) : (rgI a b).Pairwise (· < ·) := by
  unfold rgI
  rw [List.pairwise_map]
  exact List.pairwise_lt_range.imp fun h => by omega
theorem rgI_length (a b : Int) : (rgI a b).length = (b - a).toNat := by unfold rgI; rw [List.length_map, List.length_range]
def tieD (p : Int × Int) : D := .tuple [.int p.1, .int p.2]
def ltP (p q : Int × Int) : Prop := p.1 < q.1 ∨ p.1 = q.1 ∧ p.2 < q.2
theorem ltP_irrefl (p : Int × Int) : ¬ ltP p p := fun h => by unfold ltP at h; omega
theorem ltP_trans {p q r : Int × Int} (h : ltP p q) (h' : ltP q r) : ltP p r := by unfold ltP at *; omega
theorem ltP_total {p q : Int × Int} (h : p ≠ q) : ltP p q ∨ ltP q p := by
  unfold ltP
  have : ¬ (p.1 = q.1 ∧ p.2 = q.2) := fun z => h (Prod.ext z.1 z.2)
  omega
instance (p q : Int × Int) : Decidable (ltP p q) := by unfold ltP; infer_instance
def pairsL (n : Int) : List (Int × Int) := (rgI 0 n).flatMap fun a => (rgI (a + 1) n).map fun b => (a, b)
theorem pairsL_mem {n : Int} {p : Int × Int} : p ∈ pairsL n ↔ 0 ≤ p.1 ∧ p.1 < p.2 ∧ p.2 < n := by
  unfold pairsL
  rw [List.mem_flatMap]
  constructor
  · rintro ⟨a, ha, h⟩
    obtain ⟨b, hb, rfl⟩ := List.mem_map.mp h
    have := rgI_mem.mp ha
    have := rgI_mem.mp hb
    exact ⟨by omega, by omega, by omega⟩
  · intro h
    exact ⟨p.1, rgI_mem.mpr (by omega), List.mem_map.mpr ⟨p.2, rgI_mem.mpr (by omega), rfl⟩⟩
theorem pairsL_pw (n : Int) : (pairsL n).Pairwise ltP := by
  unfold pairsL
  rw [List.pairwise_flatMap]
  refine ⟨fun a _ => ?_, (rgI_pw 0 n).imp fun h x hx y hy => ?_⟩
  · rw [List.pairwise_map]
    exact (rgI_pw _ _).imp fun h => .inr ⟨rfl, h⟩
  · obtain ⟨b, _, rfl⟩ := List.mem_map.mp hx
    obtain ⟨c, _, rfl⟩ := List.mem_map.mp hy
    exact .inl h
theorem pw_nodup {ks : List (Int × Int)} (h : ks.Pairwise ltP) : ks.Nodup := h.imp fun {a b} q e => by subst e; exact ltP_irrefl a q
theorem nodup_le {ks ls : List (Int × Int)} (h : ks.Nodup) (s : ∀ x ∈ ks, x ∈ ls) : ks.length ≤ ls.length := by
  induction ks generalizing ls with
  | nil => exact Nat.zero_le _
  | cons x ks ih =>
    obtain ⟨h1, h2⟩ := List.nodup_cons.mp h
    obtain ⟨a, b, rfl⟩ := List.append_of_mem (s x List.mem_cons_self)
    have := ih (ls := a ++ b) h2 fun y hy => by
      rcases List.mem_append.mp (s y (List.mem_cons_of_mem _ hy)) with z | z
      · exact List.mem_append_left _ z
      · rcases List.mem_cons.mp z with z | z
        · subst z; exact absurd hy h1
        · exact List.mem_append_right _ z
    rw [List.length_append] at this
    rw [List.length_append, List.length_cons, List.length_cons]
    omega
theorem pairsL_len {n : Int} (h : n ≤ 14) : (pairsL n).length ≤ 91 := by
  have e : (pairsL 14).length = 91 := by decide +kernel
  rw [← e]
  exact nodup_le (pw_nodup (pairsL_pw n)) fun x hx => pairsL_mem.mpr (by have := pairsL_mem.mp hx; omega)
def webD (n : Int) (ks : List (Int × Int)) : D := .tuple [.int n, .tuple (ks.map tieD)]
structure Web (n : Int) (ks : List (Int × Int)) : Prop where
  many : 0 ≤ n ∧ n ≤ 14
  pw : ks.Pairwise ltP
  ties : ∀ p ∈ ks, 0 ≤ p.1 ∧ p.1 < p.2 ∧ p.2 < n
theorem Web.len {n : Int} {ks : List (Int × Int)} (w : Web n ks) : ks.length ≤ 91 :=
  Nat.le_trans (nodup_le (pw_nodup w.pw) fun x hx => pairsL_mem.mpr (w.ties x hx)) (pairsL_len w.many.2)
theorem pair_toks (p : Int × Int) : PySem.W.keyToks (tieD p) = [.inl 1, .inl p.1, .inl 1, .inl p.2, .inl 0] := by simp [tieD, PySem.W.keyToks, PySem.W.keyToksAll]
theorem lex_ints (x y : Int) (l m : List (Int ⊕ List Nat)) : PyProof.Rows.lexLt PyProof.Rows.itemOrd (.inl x :: l) (.inl y :: m) = (decide (x < y) || (decide (x = y) && PyProof.Rows.lexLt PyProof.Rows.itemOrd l m)) := by
  by_cases h : x = y
  · subst h
    rw [PyProof.Rows.lex_self]
    simp
  · rw [PySem.W.lex_atom (by simpa using h), PySem.W.lex_one]
    show decide (x < y) = _
    simp [h]
theorem dataLt_pair (p q : Int × Int) : PySem.W.dataLt (tieD p) (tieD q) = decide (ltP p q) := by
  unfold PySem.W.dataLt
  rw [pair_toks, pair_toks, lex_ints, lex_ints, lex_ints, lex_ints, lex_ints]
  have e : PyProof.Rows.lexLt PyProof.Rows.itemOrd [] [] = false := PyProof.Rows.lex_irrefl _
  rw [e]
  unfold ltP
  by_cases h1 : p.1 < q.1
  · simp [h1]
  · by_cases h2 : p.1 = q.1
    · simp [h2]
    · simp [h1, h2]
theorem dataLe_pair (p q : Int × Int) : PySem.W.dataLe false id (tieD p) (tieD q) = !decide (ltP q p) := by
  rw [← dataLt_pair]
  rfl
theorem sort_pairs {ks : List (Int × Int)} (h : ks.Nodup) : ∃ ls : List (Int × Int), sortD (ks.map tieD) = ls.map tieD ∧ ls.Perm ks ∧ ls.Pairwise ltP := by
  obtain ⟨ls, h1, h2⟩ := perm_map_pick (sortD_perm (ks.map tieD))
  refine ⟨ls, h2, h1, ?_⟩
  have pw := sortD_pw (ks.map tieD)
  rw [h2, List.pairwise_map] at pw
  have nd : ls.Nodup := h1.nodup_iff.mpr h
  refine (pw.and nd).imp fun {p q} ⟨a, b⟩ => ?_
  rw [dataLe_pair] at a
  have a : ¬ ltP q p := by simpa using a
  rcases ltP_total b with z | z
  · exact z
  · exact absurd z a
theorem sort_rising {ks : List (Int × Int)} (h : ks.Pairwise ltP) : sortD (ks.map tieD) = ks.map tieD := by
  obtain ⟨ls, h1, h2, h3⟩ := sort_pairs (pw_nodup h)
  rw [h1, List.Perm.eq_of_pairwise (fun a b _ _ q r => absurd (ltP_trans q r) (ltP_irrefl _)) h3 h h2]
end TW
set_option Elab.async false
set_option linter.all false
set_option maxRecDepth 100000
namespace TW
open PySem PySem.Spec PyProof.Rows L2
theorem seq_cut {a b : MS} {cs : List C} {QF : Fl → List C → Prop} (P : List C → Prop) (h : Rn a cs fun f c => f = .nx ∧ P c) (k : ∀ c, P c → Rn b c QF) : Rn (mSeq a b) cs QF := by
  rw [rn_mSeq]
  exact h.mono fun f c ⟨e, p⟩ => by subst e; exact k c p
theorem ix_ev {ds : List D} {r : Int} {Q : D → Prop} (h0 : 0 ≤ r) (h1 : r < ds.length) (h : ∀ d ∈ ds, Q d) : Ev (gIx (.list ds) (.int r)) Q := by
  have hk : r.toNat < ds.length := by omega
  simp only [gIx]
  have e : r = ((r.toNat : Nat) : Int) := by omega
  rw [e, atI_nat (List.getElem?_eq_getElem hk)]
  exact ev_ok.mpr (h _ (List.getElem_mem hk))
theorem canLay_ints : ∀ ks : List Int, PyData.canLayAll0 (ks.map .int) = true
  | [] => by simp [PyData.canLayAll0]
  | k :: ks => by simp [PyData.canLayAll0, PyData.canLay0, canLay_ints ks]
theorem canLay_rows : ∀ ks : List (List Int), PyData.canLayAll0 (ks.map tupD) = true
  | [] => by simp [PyData.canLayAll0]
  | k :: ks => by simp [PyData.canLayAll0, tupD, PyData.canLay0, canLay_ints, canLay_rows ks]
theorem depth_rows : ∀ ks : List (List Int), PyData.depthAll (ks.map tupD) ≤ 8
  | [] => by simp [PyData.depthAll]
  | k :: ks => by
    have h1 := depth_rows ks
    have h2 := depth_ints k
    simp only [List.map_cons, PyData.depthAll]
    omega
theorem shaped_row (k : List Int) : SeqAt.shaped (tupD k) = true := by
  have h2 := depth_ints k
  unfold SeqAt.shaped
  rw [Bool.and_eq_true, decide_eq_true_eq]
  exact ⟨by simp [tupD, PyData.canLay0, canLay_ints], by omega⟩
theorem shaped_rows (ks : List (List Int)) : SeqAt.shaped (.list (ks.map tupD)) = true := by
  have h2 := depth_rows ks
  unfold SeqAt.shaped
  rw [Bool.and_eq_true, decide_eq_true_eq]
  refine ⟨by simp [PyData.canLay0, canLay_rows], ?_⟩
  simp only [PyData.depth]
  omega
theorem shaped_rowsT (ks : List (List Int)) : SeqAt.shaped (.tuple (ks.map tupD)) = true := by
  have h2 := depth_rows ks
  unfold SeqAt.shaped
  rw [Bool.and_eq_true, decide_eq_true_eq]
  refine ⟨by simp [PyData.canLay0, canLay_rows], ?_⟩
  simp only [PyData.depth]
  omega
theorem tieD_eq (p : Int × Int) : tieD p = tupD [p.1, p.2] := rfl
theorem ties_rows (ks : List (Int × Int)) : ks.map tieD = (ks.map fun p => [p.1, p.2]).map tupD := by rw [List.map_map]; rfl
theorem sort_perm {ds : List D} (h : allAlike ds = true ∧ sortKind ds = true ∧ shallow ds = true) : gSorted (.list ds) = .ok (sortD ds) := by simp [gSorted, h]
theorem gSorted_rows {ks : List (List Int)} (h : ∀ k ∈ ks, k ≠ []) : gSorted (.list (ks.map tupD)) = .ok (sortD (ks.map tupD)) := by
  refine sort_perm ⟨?_, ?_, ?_⟩
  · simp only [allAlike, List.all_map, List.all_eq_true, Function.comp]
    intro a _ b _
    simp only [tupD, PySem.W.alike]
    exact alike_ints a b
  · unfold sortKind
    rw [Bool.or_eq_true]
    refine .inl ?_
    simp only [List.all_map, List.all_eq_true, Function.comp]
    intro a ha
    cases e : a with
    | nil => exact absurd e (h a ha)
    | cons x xs => simp [tupD]
  · simp only [shallow, List.all_map, List.all_eq_true, Function.comp, Bool.and_eq_true, decide_eq_true_eq]
    exact fun a _ => ⟨Nat.le_trans (depth_ints a) (by omega), shaped_row a⟩
theorem gSorted_ties (ks : List (Int × Int)) : gSorted (.list (ks.map tieD)) = .ok (sortD (ks.map tieD)) := by
  rw [ties_rows]
  exact gSorted_rows fun k hk => by
    obtain ⟨p, _, rfl⟩ := List.mem_map.mp hk
    exact List.cons_ne_nil _ _
theorem gSorted_ints (ks : List Int) : gSorted (.list (ks.map .int)) = .ok (sortD (ks.map .int)) := by
  refine sort_perm ⟨?_, ?_, ?_⟩
  · simp [allAlike, PySem.W.alike]
  · unfold sortKind
    rw [Bool.or_eq_true]
    refine .inr ?_
    simp
  · simp [shallow, PyData.depth, shaped_int]
theorem gIn_row {neg : Bool} {k : List Int} {ks : List (List Int)} : gInX neg (tupD k) (.list (ks.map tupD)) = .ok (.bool (neg != (ks.map tupD).any fun z => PyData.eqv z (tupD k))) := by
  unfold gInX gOr
  simp only [gIn, shaped_row, shaped_rows, Bool.and_self, if_true]
theorem eqv_ints : ∀ a b : List Int, PyData.eqvAll (a.map .int) (b.map .int) = decide (a = b)
  | [], [] => by simp [PyData.eqvAll]
  | [], _ :: _ => by simp [PyData.eqvAll]
  | _ :: _, [] => by simp [PyData.eqvAll]
  | x :: a, y :: b => by
    rw [List.map_cons, List.map_cons, PyData.eqvAll, eqv_ints a b]
    by_cases h : x = y <;> simp [PyData.eqv, h]
theorem eqv_rows : ∀ a b : List (List Int), PyData.eqvAll (a.map tupD) (b.map tupD) = decide (a = b)
  | [], [] => by simp [PyData.eqvAll]
  | [], _ :: _ => by simp [PyData.eqvAll]
  | _ :: _, [] => by simp [PyData.eqvAll]
  | x :: a, y :: b => by
    rw [List.map_cons, List.map_cons, PyData.eqvAll, eqv_rows a b]
    have e : PyData.eqv (tupD x) (tupD y) = decide (x = y) := by simp only [tupD, PyData.eqv]; exact eqv_ints x y
    rw [e]
    by_cases h : x = y <;> simp [h]
theorem Web.of {n : Int} {ks : List (Int × Int)} (h : 0 ≤ n ∧ n ≤ 14) (s : ks.Sublist (pairsL n)) : Web n ks := ⟨h, (pairsL_pw n).sublist s, fun p hp => pairsL_mem.mp (s.subset hp)⟩
end TW
set_option Elab.async false
set_option linter.all false
set_option maxRecDepth 100000
namespace TW
open PySem PySem.Spec PyProof.Rows L2
theorem keysD_rows : ∀ ks : List (List Int), (∀ k ∈ ks, k ≠ []) → keysD (ks.map tupD) = some ks
  | [], _ => rfl
  | k :: ks, h => by
    have hr : ∀ is : List Int, rowD (is.map .int) = some is := fun is => by
      induction is with
      | nil => rfl
      | cons i is ih => simp [rowD, ih]
    cases k with
    | nil => exact absurd rfl (h [] List.mem_cons_self)
    | cons i is => simp [tupD, keysD, hr, keysD_rows ks fun k hk => h k (List.mem_cons_of_mem _ hk)]
end TW
set_option Elab.async false
set_option linter.all false
set_option maxRecDepth 100000
namespace TW
open PySem PySem.Spec PyProof.Rows L2
theorem plain_of {d : D} (h : noDict d = true) : plainD d = true := by
  cases d <;> simp [plainD, noDict] at *
def isI : D → Bool
  | .int _ => true
  | _ => false
def placeB (n : Int) : D → Bool
  | .int i => decide (0 ≤ i) && decide (i < n)
  | _ => false
def tieB (n : Int) : D → Bool
  | .tuple [.int a, .int b] => decide (0 ≤ a ∧ a < b ∧ b < n)
  | _ => false
def unTie : D → Int × Int
  | .tuple [.int a, .int b] => (a, b)
  | _ => (0, 0)
@[simp] theorem unTie_tieD (p : Int × Int) : unTie (tieD p) = p := rfl
@[simp] theorem tieB_tieD (n : Int) (p : Int × Int) : tieB n (tieD p) = decide (0 ≤ p.1 ∧ p.1 < p.2 ∧ p.2 < n) := rfl
theorem tieB_inv {n : Int} {d : D} (h : tieB n d = true) : ∃ p, d = tieD p := by
  unfold tieB at h
  split at h
  · rename_i a b; exact ⟨(a, b), rfl⟩
  · cases h
theorem ties_inv {n : Int} : ∀ {ts : List D}, (ts.all (tieB n)) = true → ∃ ks : List (Int × Int), ts = ks.map tieD ∧ ∀ p ∈ ks, 0 ≤ p.1 ∧ p.1 < p.2 ∧ p.2 < n
  | [], _ => ⟨[], rfl, fun _ h => (nomatch h)⟩
  | t :: ts, h => by
    rw [List.all_cons, Bool.and_eq_true] at h
    obtain ⟨ks, e, hk⟩ := ties_inv h.2
    obtain ⟨p, rfl⟩ := tieB_inv h.1
    have := of_decide_eq_true ((tieB_tieD n p).symm.trans h.1)
    exact ⟨p :: ks, by rw [e]; rfl, fun q hq => by
      rcases List.mem_cons.mp hq with z | z
      · rw [z]; exact this
      · exact hk q z⟩
def risB : List (Int × Int) → Bool
  | p :: q :: r => decide (ltP p q) && risB (q :: r)
  | _ => true
theorem risB_iff : ∀ {ks : List (Int × Int)}, risB ks = true ↔ ks.Pairwise ltP
  | [] => by simp [risB]
  | [p] => by simp [risB]
  | p :: q :: r => by
    unfold risB
    rw [Bool.and_eq_true, decide_eq_true_eq, risB_iff (ks := q :: r)]
    constructor
    · rintro ⟨h1, h2⟩
      refine List.pairwise_cons.mpr ⟨fun x hx => ?_, h2⟩
      rcases List.mem_cons.mp hx with z | z
      · rw [z]; exact h1
      · exact ltP_trans h1 ((List.pairwise_cons.mp h2).1 x z)
    · intro h
      exact ⟨(List.pairwise_cons.mp h).1 q List.mem_cons_self, (List.pairwise_cons.mp h).2⟩
def webB : D → Bool
  | .tuple [.int n, .tuple ts] => decide (0 ≤ n) && decide (n ≤ 14) && (ts.all (tieB n) && risB (ts.map unTie))
  | _ => false
theorem oLt_tie (p q : Int × Int) : oLt (tieD p) (tieD q) = .ok (.bool (decide (ltP p q))) := by
  have e := dataLt_pair p q
  unfold oLt gOrd
  rw [tieD_eq, tieD_eq] at *
  have a : PySem.W.alike (tupD [p.1, p.2]) (tupD [q.1, q.2]) = true := by simp only [tupD, PySem.W.alike]; exact alike_ints _ _
  have b : isNon (tupD [p.1, p.2]) = false := rfl
  have c : (tupD [p.1, p.2]).depth ≤ 60 := Nat.le_trans (depth_ints _) (by omega)
  rw [shaped_row, shaped_row, a, b, e]
  simp [c]
theorem cut_one (ds : List D) : cutD ds (some 1) none = ds.drop 1 := by
  unfold cutD
  rw [HT.sIx_none, show HT.sIx ds.length 0 (some 1) = min 1 ds.length from HT.sIx_nat ds.length 0 1]
  cases ds with
  | nil => rfl
  | cons x r =>
    rw [show min 1 (x :: r).length = 1 by rw [List.length_cons]; omega]
    rw [List.length_cons, Nat.add_sub_cancel]
    exact List.take_of_length_le (by simp)
theorem boolsD_map {α : Type} (f : α → Bool) : ∀ l : List α, boolsD (l.map fun x => .bool (f x)) = some (l.map f)
  | [] => rfl
  | x :: l => by simp [boolsD, boolsD_map f l]
theorem gAll_map {α : Type} (f : α → Bool) (l : List α) : gAll (.list (l.map fun x => .bool (f x))) = .ok (.bool (l.all f)) := by
  simp [gAll, boolsD_map, List.all_map]
theorem gAny_map {α : Type} (f : α → Bool) (l : List α) : gAny (.list (l.map fun x => .bool (f x))) = .ok (.bool (l.any f)) := by
  simp [gAny, boolsD_map, List.any_map]
theorem ris_zip : ∀ ks : List (Int × Int), ((ks.zip (ks.drop 1)).all fun z => decide (ltP z.1 z.2)) = risB ks
  | [] => rfl
  | [p] => rfl
  | p :: q :: r => by
    have := ris_zip (q :: r)
    simp only [List.drop_succ_cons, List.drop_zero] at this ⊢
    unfold risB
    rw [← this]
    simp
end TW
set_option Elab.async false
set_option linter.all false
set_option maxRecDepth 100000
namespace TW
open PySem PySem.Spec PyProof.Rows L2
section
variable {α β : Type} {n k : Nat} {xs ds : List D} {cs : List C} {a b body : MS} {m : M D} {ms : M (List D)} {F : List D → R D} {Fn : List D → R (List D)}
theorem err_bind {m : M α} {f : α → M β} (h : m cs = .err n xs) : M.bind m f cs = .err n xs := by unfold M.bind; rw [h]
theorem err_bind2 {m : M α} {f : α → M β} (h : Rn m cs fun a c => f a c = .err n xs) : M.bind m f cs = .err n xs := by
  obtain ⟨a, c, e, q⟩ := h
  unfold M.bind
  rw [e]
  exact q
theorem err_seq (h : a cs = .err n xs) : mSeq a b cs = .err n xs := err_bind h
theorem err_seq2 (P : List C → Prop) (h : Rn a cs fun f c => f = .nx ∧ P c) (q : ∀ c, P c → b c = .err n xs) : mSeq a b cs = .err n xs := by
  refine err_bind2 (h.mono fun f c ⟨e, p⟩ => ?_)
  subst e
  exact q c p
theorem err_call (h : Rn ms cs fun ds _ => ds.length = k ∧ F ds = .err n xs) : mCall k F ms cs = .err n xs := by
  refine err_bind2 (h.mono fun ds c ⟨e, p⟩ => ?_)
  rw [if_pos e]
  unfold M.lift
  rw [p]
theorem err_ofN (h : ms cs = .err n xs) : mOfN ms cs = .err n xs := err_bind h
theorem err_set {i : Nat} (h : m cs = .err n xs) : mSet i m cs = .err n xs := err_bind h
theorem err_ifT {t : M Bool} (h : Rn t cs fun k c => k = true ∧ a c = .err n xs) : mIfS t a b cs = .err n xs := by
  refine err_bind2 (h.mono fun k c ⟨e, p⟩ => ?_)
  subst e
  exact p
theorem err_fnD (h : body (unfill k (ds.map .dat)) = .err n xs) : fnD k body ds = .err n xs := by unfold fnD; rw [h]
theorem rn_refused {me : M D} {Q : D → List C → Prop} (h : me (mask cs) = .err n []) (hn : n < 12) (q : Q (.list [.int n]) cs) : Rn (mRefused me) cs Q := by
  refine ⟨.list [.int n], cs, ?_, q⟩
  unfold mRefused
  rw [h]
  simp [hn]
end
section
variable {ms : M (List D)} {cs : List C} {i n : Nat} {QL : List D → List C → Prop} {Q : D → List C → Prop} {F : List D → R D}
@[simp] theorem rn_mLook : Rn (mLook i ms) cs QL ↔ hasC cs i = true ∧ Rn ms cs fun ds c => onLook c[i]? c fun d c => QL (d :: ds) c := by
  have e : ∀ ds c, Rn (lookAt i ds) c QL ↔ onLook c[i]? c fun d c => QL (d :: ds) c := fun ds c => by
    unfold Rn lookAt onLook
    cases e : c[i]? with
    | none => simp
    | some x => cases x <;> simp [ex_two]
  unfold mLook
  by_cases h : hasC cs i = true
  · simp only [Rn, h, if_true, true_and]
    have := rn_bind (m := ms) (k := fun ds => lookAt i ds) (cs := cs) (Q := QL)
    simp only [e] at this
    exact this
  · simp [Rn, h]
@[simp] theorem rn_mCallL : Rn (mCallL n F ms) cs Q ↔ Rn ms cs fun ds c => ds.length = n ∧ Ev (F ds) fun z => flatD z = true ∧ Q z c := by
  unfold mCallL
  rw [rn_bind]
  refine iff_of_eq (congrArg _ (funext fun ds => funext fun c => propext ?_))
  by_cases h : ds.length = n
  · simp only [h, if_true, true_and]
    unfold Rn liftFlat
    cases e : F ds with
    | ok d => by_cases hf : flatD d = true <;> simp [hf, ex_two]
    | err n xs => simp
    | bad => simp
  · simp [h]
end
end TW
set_option Elab.async false
set_option linter.all false
set_option maxRecDepth 100000
namespace TW
open PySem PySem.Spec PyProof.Rows L2
def thenPut (i : Nat) (mk : M D) (d : D) (rest : MS) : MS := M.bind mk fun k => M.bind (ownPut i (gPut k d)) fun _ => rest
def swapPut (i : Nat) (k1 k2 : M D) (d : D) : MS := match d with
  | .tuple [a, b] => fun cs => if isOwn cs i then thenPut i k1 a (thenPut i k2 b mNx) cs else .bad
  | _ => fun _ => .bad
def mSwap2 (i : Nat) (k1 k2 m : M D) : MS := M.bind m fun d => swapPut i k1 k2 d
section
variable {cs : List C} {i : Nat} {mb k1 k2 m : M D} {Q : D → List C → Prop} {QF : Fl → List C → Prop}
@[simp] theorem rn_mIxO : Rn (mIxO i mb) cs Q ↔ hasC cs i = true ∧ Rn mb cs fun e c => onLook c[i]? c fun d c => Ev (gIx d e) fun z => Q z c := by
  have e : ∀ d c, Rn (lookIx i d) c Q ↔ onLook c[i]? c fun x c => Ev (gIx x d) fun z => Q z c := fun d c => by
    unfold Rn lookIx onLook
    cases e : c[i]? with
    | none => simp
    | some x =>
      cases x with
      | un => simp
      | dat y => exact rn_only
      | own t ds => exact rn_only
  unfold mIxO
  by_cases h : hasC cs i = true
  · simp only [Rn, h, if_true, true_and]
    have := rn_bind (m := mb) (k := fun ds => lookIx i ds) (cs := cs) (Q := Q)
    simp only [e] at this
    exact this
  · simp [Rn, h]
@[simp] theorem rn_thenPut {d : D} {rest : MS} : Rn (thenPut i k1 d rest) cs QF ↔ Rn k1 cs fun k c => Rn (ownPut i (gPut k d)) c fun _ c => Rn rest c QF := by
  unfold thenPut
  simp only [rn_bind]
@[simp] theorem rn_mSwap2 : Rn (mSwap2 i k1 k2 m) cs QF ↔ Rn m cs fun d c => Rn (swapPut i k1 k2 d) c QF := by unfold mSwap2; rw [rn_bind]
@[simp] theorem rn_swapPut {a b : D} : Rn (swapPut i k1 k2 (.tuple [a, b])) cs QF ↔ isOwn cs i = true ∧ Rn (thenPut i k1 a (thenPut i k2 b mNx)) cs QF := by
  unfold swapPut
  exact rn_own
end
end TW
set_option Elab.async false
set_option linter.all false
set_option maxRecDepth 100000
namespace TW
open PySem PySem.Spec PyProof.Rows L2
def fLst (n : Nat) : D → R (List D)
  | .list ds => if ds.length = n then .ok ds else .bad
  | _ => .bad
@[simp] theorem fLst_two {d e : D} : fLst 2 (.list [d, e]) = .ok [d, e] := rfl
end TW
set_option Elab.async false
set_option linter.all false
set_option maxRecDepth 100000
namespace TW
open PySem PySem.Spec PyProof.Rows L2
def gIdx : D → D → R D
  | .tuple ds, d => if SeqAt.shaped (.tuple ds) && SeqAt.shaped d then
      match ds.findIdx? (fun z => PyData.eqv z d) with
      | some j => .ok (.int (j : Nat))
      | none => .bad
    else .bad
  | _, _ => .bad
def gInt : D → R D
  | .int i => .ok (.int i)
  | .bool b => .ok (.int (if b then 1 else 0))
  | _ => .bad
section
variable {ct : Nat → Addr} {W : WX} {X : Cx} {o a b e : Expr} {mo m ma mb : M D} {p pos apos cpos : Pos} {k : Nat}
def mIdx (mo m : M D) : M D := M.bind mo fun d => match d with
  | .tuple ds => M.bind m fun e => M.only (gIdx (.tuple ds) e)
  | _ => fun _ => .bad
theorem ve_intB (hg : Gl X "int") (hm : X.mg "int" = none) (ha : VV ct W X a ma) (hs : starEach [a] X.env = (false, eval a X.env) :: starEach [] X.env := by rfl) : VE ct W X (.Call (.Name "int" p) [a] [] pos) (mOp1 gInt ma) :=
  ve_callTy call_int1 (fun δ σ G H x d z Q r hx hz q => by
    unfold gInt at hz
    split at hz
    · cases hz
      exact .inl ⟨_, by rw [hx.int], q _ G H (Grow.refl r) (.int _)⟩
    · cases hz
      exact .inr ⟨_, by rw [hx.bl], q _ G H (Grow.refl r) (.int _)⟩
    · cases hz) hg hm (by decide +kernel) ha hs
end
end TW
set_option Elab.async false
set_option linter.all false
set_option maxRecDepth 100000
namespace TW
open PySem PySem.Spec PyProof.Rows L2 LamX
end TW
set_option Elab.async false
set_option linter.all false
set_option maxRecDepth 100000
namespace TW
open PySem PySem.Spec PyProof.Rows L2 LamX
end TW
set_option Elab.async false
set_option linter.all false
set_option maxRecDepth 100000
namespace TW
open PySem PySem.Spec PyProof.Rows L2 LamX
end TW
set_option Elab.async false
set_option linter.all false
set_option maxRecDepth 100000
namespace TW
open PySem PySem.Spec PyProof.Rows L2
end TW
set_option Elab.async false
set_option linter.all false
set_option maxRecDepth 100000
namespace TW
open PySem PySem.Spec PyProof.Rows L2
structure MakerAt (K : PySem.W.Frag) (mg : Str → Option Value) (base : Heap) (c : Addr) (q : Str) : Prop where
  ex : ∃ P, LamX.TabB base mg c P ∧ (P, q) ∈ lamT K ∧ ∀ p ∈ lamT K, p.1 = P → p.2 = q
theorem MakerAt.mk' {X : Cx} {c : Addr} {q : Str} (h : MakerAt X.K X.mg X.base c q) (hc : X.env.code = .ref c) (hq : X.env.qual ++ "<lambda>" = q) : Maker X := by
  obtain ⟨P, h1, h2, h3⟩ := h.ex
  exact ⟨c, P, h1, hc, by rw [hq]; exact h2, by rw [hq]; exact h3⟩
theorem nodup_fst {α β : Type} : ∀ {l : List (α × β)} {a : α} {b b' : β}, (l.map Prod.fst).Nodup → (a, b) ∈ l → (a, b') ∈ l → b = b'
  | [], _, _, _, _, h, _ => by cases h
  | x :: l, a, b, b', n, h, h' => by
    rw [List.map_cons, List.nodup_cons] at n
    rcases List.mem_cons.mp h with e | h
    · rcases List.mem_cons.mp h' with e' | h'
      · rw [← e] at e'; cases e'; rfl
      · rw [← e] at n; exact absurd (List.mem_map.mpr ⟨_, h', rfl⟩) n.1
    · rcases List.mem_cons.mp h' with e' | h'
      · rw [← e'] at n; exact absurd (List.mem_map.mpr ⟨_, h, rfl⟩) n.1
      · exact nodup_fst n.2 h h'
theorem makerAt_of {K : PySem.W.Frag} {mg : Str → Option Value} {base : Heap} {c P : Addr} {q : Str} {L : List (Addr × Str)} (lt : lamT K = L) (nd : (L.map Prod.fst).Nodup) (tb : LamX.TabB base mg c P) (hm : (P, q) ∈ L) : MakerAt K mg base c q :=
  ⟨P, tb, by rw [lt]; exact hm, by
    rw [lt]
    rintro ⟨P', q'⟩ hp e
    cases (show P' = P from e)
    exact nodup_fst nd hp hm⟩
end TW
set_option Elab.async false
set_option linter.all false
set_option maxRecDepth 100000
namespace Td
open PySem PySem.Spec PyProof.Rows L2 TW
def b_is_whole : MS := (mRet (mAndV (mOp1 (gIsi "int") (vVar 0)) (mNotV (mOp1 (gIsi "bool") (vVar 0)))))
def F_is_whole : List D → R D := fnD 1 b_is_whole
def b_is_place : MS := (mRet (mAndV (mCall 1 F_is_whole (mCons (mVar 1) mNil)) (mChain oLe oLt (mC (.int 0)) (mVar 1) (vVar 0))))
def F_is_place : List D → R D := fnD 2 b_is_place
def b_rises : MS := (mRet (mOp1 gAll (mOfN (mComp [1, 2] [1, 2] (fTup 2) (mZip (mVar 0) (mSl (mVar 0) (mPart (mC (.int 1))) mNoPart)) mYes (mOp2 oLt (mVar 1) (vVar 2))))))
def F_rises : List D → R D := fnD 3 b_rises
def b_is_tie : MS := (mSeq (mIfS (mOr (mNot (mTest (mOp1 (gIsi "tuple") (vVar 1)))) (mOr (mTest (mOp2 gNe (mOp1 gLen (vVar 1)) (mC (.int 2)))) (mNot (mTest (mOp1 gAll (mOfN (mComp [2] [2] fName (mSeq1 (mVar 1)) mYes (mCall 2 F_is_place (mCons (mVar 0) (mCons (mVar 2) mNil)))))))))) (mRet (mC (.bool false))) mNx) (mRet (mOp2 oLt (mOp2 gIx (mVar 1) (mC (.int 0))) (mOp2 gIx (mVar 1) (mC (.int 1))))))
def F_is_tie : List D → R D := fnD 3 b_is_tie
def b_is_web : MS := (mSeq (mIfS (mOr (mNot (mTest (mOp1 (gIsi "tuple") (vVar 0)))) (mOr (mTest (mOp2 gNe (mOp1 gLen (vVar 0)) (mC (.int 2)))) (mOr (mNot (mTest (mCall 1 F_is_whole (mCons (mOp2 gIx (mVar 0) (mC (.int 0))) mNil)))) (mNot (mTest (mChain oLe oLe (mC (.int 0)) (mOp2 gIx (mVar 0) (mC (.int 0))) (mC (.int 14)))))))) (mRet (mC (.bool false))) mNx) (mRet (mAndV (mOp1 (gIsi "tuple") (mOp2 gIx (mVar 0) (mC (.int 1)))) (mAndV (mOp1 gAll (mOfN (mComp [1] [1] fName (mSeq1 (mOp2 gIx (mVar 0) (mC (.int 1)))) mYes (mCall 2 F_is_tie (mCons (mOp2 gIx (mVar 0) (mC (.int 0))) (mCons (mVar 1) mNil)))))) (mCall 1 F_rises (mCons (mOp2 gIx (mVar 0) (mC (.int 1))) mNil))))))
def F_is_web : List D → R D := fnD 2 b_is_web
def b__law_take : MS := (mSeq (mIfS (mTest (mOp2 gIx (vVar 0) (mC (.int 1)))) (mSeq (mSet 3 (mOp2 gMod (mOp2 gIx (vVar 0) (mC (.int 0))) (vVar 1))) (mSeq (mSetIx 0 (mC (.int 0)) (mOp2 gDiv (mOp2 gIx (vVar 0) (mC (.int 0))) (vVar 1))) (mRet (mVar 3)))) mNx) (mSeq (mSetIx 0 (mC (.int 0)) (mOp2 gMod (mOp2 gAdd (mOp2 gMul (mOp2 gIx (vVar 0) (mC (.int 0))) (mC (.int 48271))) (mC (.int 29))) (mC (.int 2147483647)))) (mSeq (mSet 2 (mOp2 gMod (mOp2 gAdd (mOp2 gAdd (mOp2 gMul (mOp2 gIx (vVar 0) (mC (.int 0))) (mOp2 gIx (vVar 0) (mC (.int 0)))) (mOp2 gMul (mC (.int 39373)) (mOp2 gIx (vVar 0) (mC (.int 0))))) (mC (.int 7))) (mC (.int 2147483629)))) (mSeq (mSet 2 (mOp2 gMod (mOp2 gAdd (mOp2 gMul (mVar 2) (vVar 2)) (mOp2 gMul (mC (.int 16807)) (vVar 2))) (mC (.int 2147483587)))) (mRet (mOp2 gMod (mOp2 gDiv (mVar 2) (mC (.int 8))) (vVar 1)))))))
def F__law_take : List D → List D → R (D × List D) := fnS 4 b__law_take
def b__law_bad_web : MS := (mSeq (mSet 1 (mOfN (mLst (mCons (mC .none) (mCons (mC (.int 0)) (mCons (mTup mNil) (mCons (mTup (mCons (mC (.int 15)) (mCons (mTup mNil) mNil))) (mCons (mTup (mCons (mOp1 gNeg (mC (.int 1))) (mCons (mTup mNil) mNil))) (mCons (mTup (mCons (mC (.bool true)) (mCons (mTup mNil) mNil))) (mCons (mTup (mCons (mC (.int 2)) (mCons (mOfN (mLst mNil)) mNil))) (mCons (mOfN (mLst (mCons (mC (.int 2)) (mCons (mTup mNil) mNil)))) (mCons (mTup (mCons (mC (.int 2)) (mCons (mTup (mCons (mTup (mCons (mC (.int 1)) (mCons (mC (.int 0)) mNil))) mNil)) mNil))) (mCons (mTup (mCons (mC (.int 2)) (mCons (mTup (mCons (mTup (mCons (mC (.int 0)) (mCons (mC (.int 0)) mNil))) mNil)) mNil))) (mCons mDct (mCons (mC (.str "2:")) mNil))))))))))))))) (mSeq (mSet 1 (mOp2 gAdd (mVar 1) (mOfN (mLst (mCons (mTup (mCons (mC (.int 2)) (mCons (mTup (mCons (mTup (mCons (mC (.int 0)) (mCons (mC (.int 1)) mNil))) (mCons (mTup (mCons (mC (.int 0)) (mCons (mC (.int 1)) mNil))) mNil))) mNil))) (mCons (mTup (mCons (mC (.int 3)) (mCons (mTup (mCons (mTup (mCons (mC (.int 0)) (mCons (mC (.int 2)) mNil))) (mCons (mTup (mCons (mC (.int 0)) (mCons (mC (.int 1)) mNil))) mNil))) mNil))) (mCons (mTup (mCons (mC (.int 2)) (mCons (mTup (mCons (mTup (mCons (mC (.int 0)) (mCons (mC (.int 2)) mNil))) mNil)) mNil))) (mCons (mTup (mCons (mC (.int 2)) (mCons (mTup (mCons (mTup (mCons (mC (.int 0)) (mCons (mC (.bool true)) mNil))) mNil)) mNil))) (mCons (mTup (mCons (mC (.int 2)) (mCons (mTup (mCons (mTup (mCons (mC (.int 0)) (mCons (mC (.int 1)) (mCons (mC (.int 1)) mNil)))) mNil)) mNil))) mNil))))))))) (mSeq (mSet 1 (mOp2 gAdd (mVar 1) (mOfN (mLst (mCons (mTup (mCons (mC (.int 2)) (mCons (mTup (mCons (mC (.int 0)) (mCons (mC (.int 1)) mNil))) mNil))) (mCons (mTup (mCons (mC (.int 2)) (mCons (mC .none) mNil))) (mCons (mTup (mCons (mC (.int 2)) (mCons (mTup mNil) (mCons (mTup mNil) mNil)))) (mCons (mTup (mCons (mC (.int 2)) mNil)) (mCons (mTup (mCons (mC (.int 2)) (mCons (mTup (mCons (mOfN (mLst (mCons (mC (.int 0)) (mCons (mC (.int 1)) mNil)))) mNil)) mNil))) (mCons (mTup (mCons (mC (.int 2)) (mCons (mTup (mCons (mC .none) mNil)) mNil))) (mCons (mTup (mCons (mC (.str "2")) (mCons (mTup mNil) mNil))) (mCons (mTup (mCons (mC (.int 0)) (mCons (mTup (mCons (mTup (mCons (mC (.int 0)) (mCons (mC (.int 1)) mNil))) mNil)) mNil))) mNil)))))))))))) (mRet (mOp2 gIx (mVar 1) (mCallS 1 0 F__law_take (mCons (mC (.int 25)) mNil)))))))
def F__law_bad_web : List D → List D → R (D × List D) := fnS 2 b__law_bad_web
def b_need_web : MS := (mIfS (mNot (mTest (mCall 1 F_is_web (mCons (mVar 0) mNil)))) (mErr 0) mNx)
def F_need_web : List D → R D := fnD 1 b_need_web
def b_need_place : MS := (mIfS (mNot (mTest (mCall 2 F_is_place (mCons (mOp2 gIx (mVar 0) (mC (.int 0))) (mCons (mVar 1) mNil))))) (mErr 1) mNx)
def F_need_place : List D → R D := fnD 2 b_need_place
def b_are_tied : MS := (mRet (mOp2 (gInX false) (mTup (mCons (mOp2 gMin2 (mVar 1) (vVar 2)) (mCons (mOp2 gMax2 (mVar 1) (vVar 2)) mNil))) (mOp2 gIx (mVar 0) (mC (.int 1)))))
def F_are_tied : List D → R D := fnD 3 b_are_tied
def b_near_to : MS := (mRetN (mComp [2] [2] fName (mRange1 (mOp2 gIx (mVar 0) (mC (.int 0)))) (mTest (mCall 3 F_are_tied (mCons (mVar 0) (mCons (mVar 1) (mCons (mVar 2) mNil))))) (mVar 2)))
def F_near_to : List D → R (List D) := fnN 3 b_near_to
def b_counts_of : MS := (mRetN (mComp [1] [1] fName (mRange1 (mOp2 gIx (mVar 0) (mC (.int 0)))) mYes (mOp1 gLen (mOfN (mCallN 2 F_near_to (mCons (mVar 0) (mCons (mVar 1) mNil)))))))
def F_counts_of : List D → R (List D) := fnN 2 b_counts_of
def b_piece_of : MS := (mSeq (mSet 2 (mOfN (mLst (mCons (mVar 1) mNil)))) (mSeq (mFor [3] fName (mRange1 (mOp2 gIx (mVar 0) (mC (.int 0)))) (mSeq (mSet 4 (mOfN (mComp [5] [5] fName (mRange1 (mOp2 gIx (mVar 0) (mC (.int 0)))) (mTest (mOp1 gAny (mOfN (mComp [6] [6] fName (mSeq1 (mVar 2)) mYes (mCall 3 F_are_tied (mCons (mVar 0) (mCons (mVar 6) (mCons (mVar 5) mNil)))))))) (mVar 5)))) (mSet 2 (mOfN (mOp1N gSetSortI (mOp2 gAdd (mVar 2) (vVar 4))))))) (mRet (mOp1 gTuple (vVar 2)))))
def F_piece_of : List D → R D := fnD 7 b_piece_of
def b_all_pieces : MS := (mRetN (mOp1N gSetSort (mOfN (mComp [1] [1] fName (mRange1 (mOp2 gIx (mVar 0) (mC (.int 0)))) mYes (mCall 2 F_piece_of (mCons (mVar 0) (mCons (mVar 1) mNil)))))))
def F_all_pieces : List D → R (List D) := fnN 2 b_all_pieces
def b__law_tied : MS := (mRet (mOp2 (gInX false) (mTup (mCons (mOp2 gMin2 (mVar 1) (vVar 2)) (mCons (mOp2 gMax2 (mVar 1) (vVar 2)) mNil))) (mOp2 gIx (mVar 0) (mC (.int 1)))))
def F__law_tied : List D → R D := fnD 3 b__law_tied
def m0__law_refused : MS := (mSeq (mSetN 2 (mLst (mCons (mOp1 gIsNo (mVar 1)) (mCons (mOp1 gIsNo (mVar 1)) (mCons (mOp1 gIsNo (mVar 1)) mNil))))) (mSeq (mSetN 2 (mOp2N gCatL (mVar 2) (mOfN (mLst (mCons (mOp1 gIsNo (mVar 1)) (mCons (mOp1 gIsNo (mVar 1)) (mCons (mOp1 gIsNo (mVar 1)) mNil))))))) (mSeq (mSetN 2 (mOp2N gCatL (mVar 2) (mOfN (mLst (mCons (mOp1 gIsNo (mVar 1)) (mCons (mOp1 gIsNo (mVar 1)) (mCons (mOp1 gIsNo (mVar 1)) mNil))))))) (mSeq (mSetN 2 (mOp2N gCatL (mVar 2) (mOfN (mLst (mCons (mOp1 gIsNo (mVar 1)) (mCons (mOp1 gIsNo (mVar 1)) (mCons (mOp1 gIsNo (mVar 1)) mNil))))))) (mSeq (mOn 2 (mOp1 gIsNo (mVar 1)) gApp) (mSeq (mIfS (mNot (mTest (mOp1 gIsNo (mVar 1)))) (mRet (mC .none)) mNx) (mSeq (mSet 3 (mOfN (mComp [5] [5] fName (mRange1 (mC (.int 13))) (mTest (mOp2 gIx (vVar 2) (vVar 5))) (mVar 5)))) (mRet (mIf (mTest (mOp2 gEq (mVar 3) (mOfN (mLst (mCons (mC (.int 12)) mNil))))) (mOp2 gAdd (mVar 3) (mOfN (mLst (mCons (fun _ => .bad) (mCons (fun _ => .bad) mNil))))) (mVar 3))))))))))
def m1__law_refused (n : Nat) (a : Addr) (d : Option Addr) : MS := (mSeq (mSetN 2 (mLst (mCons (mOp1 (gIsX (some (n, a, d)) 0) (mVar 1)) (mCons (mOp1 (gIsX (some (n, a, d)) 1) (mVar 1)) (mCons (mOp1 (gIsX (some (n, a, d)) 2) (mVar 1)) mNil))))) (mSeq (mSetN 2 (mOp2N gCatL (mVar 2) (mOfN (mLst (mCons (mOp1 (gIsX (some (n, a, d)) 3) (mVar 1)) (mCons (mOp1 (gIsX (some (n, a, d)) 4) (mVar 1)) (mCons (mOp1 (gIsX (some (n, a, d)) 5) (mVar 1)) mNil))))))) (mSeq (mSetN 2 (mOp2N gCatL (mVar 2) (mOfN (mLst (mCons (mOp1 (gIsX (some (n, a, d)) 6) (mVar 1)) (mCons (mOp1 (gIsX (some (n, a, d)) 7) (mVar 1)) (mCons (mOp1 (gIsX (some (n, a, d)) 8) (mVar 1)) mNil))))))) (mSeq (mSetN 2 (mOp2N gCatL (mVar 2) (mOfN (mLst (mCons (mOp1 (gIsX (some (n, a, d)) 9) (mVar 1)) (mCons (mOp1 (gIsX (some (n, a, d)) 10) (mVar 1)) (mCons (mOp1 (gIsX (some (n, a, d)) 11) (mVar 1)) mNil))))))) (mSeq (mOn 2 (mOp1 (gIsX (some (n, a, d)) 12) (mVar 1)) gApp) (mSeq (mIfS (mNot (mTest (mOp1 (gIsVX (some (n, a, d))) (mVar 1)))) (mRet (mC .none)) mNx) (mSeq (mSet 3 (mOfN (mComp [5] [5] fName (mRange1 (mC (.int 13))) (mTest (mOp2 gIx (vVar 2) (vVar 5))) (mVar 5)))) (mRet (mIf (mTest (mOp2 gEq (mVar 3) (mOfN (mLst (mCons (mC (.int 12)) mNil))))) (mOp2 gAdd (mVar 3) (mOfN (mLst (mCons (mOp1 (gFldX (some (n, a, d)) "many") (mVar 1)) (mCons (mOp1 (gFldX (some (n, a, d)) "most") (mVar 1)) mNil))))) (mVar 3))))))))))
def b_need_small : MS := (mIfS (mTest (mOp2 oGt (mOp2 gIx (mVar 0) (mC (.int 0))) (mC (.int 7)))) (mErr2 12 (mCons (mOp2 gIx (mVar 0) (mC (.int 0))) (mCons (mC (.int 7)) mNil))) mNx)
def F_need_small : List D → R D := fnD 1 b_need_small
def b_meet : MS := (mRet (mOrV (mOp2 (gInX false) (mOp2 gIx (mVar 0) (mC (.int 0))) (vVar 1)) (mOp2 (gInX false) (mOp2 gIx (mVar 0) (mC (.int 1))) (vVar 1))))
def F_meet : List D → R D := fnD 2 b_meet
def b_made : MS := (mSeq (mSet 1 (mOp2 gIx (mVar 0) (mC (.int 1)))) (mSeq (mSetN 2 (mLst mNil)) (mSeq (mFor [3] fName (mRange1 (mOp1 gLen (vVar 1))) (mOn 2 (mOfN (mComp [4] [4] fName (mRange (mOp2 gAdd (mVar 3) (mC (.int 1))) (mOp1 gLen (vVar 1))) (mTest (mCall 2 F_meet (mCons (mOp2 gIx (mVar 1) (vVar 3)) (mCons (mOp2 gIx (mVar 1) (vVar 4)) mNil)))) (mTup (mCons (mVar 3) (mCons (mVar 4) mNil))))) gExt)) (mRet (mTup (mCons (mOp1 gLen (vVar 1)) (mCons (mOp1 gTuple (vVar 2)) mNil)))))))
def F_made : List D → R D := fnD 5 b_made
def b_need_few : MS := (mIfS (mTest (mOp2 oGt (mOp1 gLen (mOp2 gIx (mVar 0) (mC (.int 1)))) (mC (.int 7)))) (mErr2 12 (mCons (mOp1 gLen (mOp2 gIx (mVar 0) (mC (.int 1)))) (mCons (mC (.int 7)) mNil))) mNx)
def F_need_few : List D → R D := fnD 1 b_need_few
def b_tie_web : MS := (mSeq (mDrop (mCall 1 F_need_web (mCons (mVar 0) mNil))) (mSeq (mDrop (mCall 1 F_need_few (mCons (mVar 0) mNil))) (mRet (mCall 1 F_made (mCons (mVar 0) mNil)))))
def F_tie_web : List D → R D := fnD 1 b_tie_web
def b_pairs_of : MS := (mRet (mOp1 gSum (mOfN (mComp [1] [1] fName (mSeq1 (mVar 0)) mYes (mOp2 gDiv (mOp2 gMul (mVar 1) (mOp2 gSub (mVar 1) (mC (.int 1)))) (mC (.int 2)))))))
def F_pairs_of : List D → R D := fnD 2 b_pairs_of
def b_ties_in : MS := (mSeq (mSetN 1 (mLst mNil)) (mSeq (mFor [2, 3] (fTup 2) (mEnum (mVar 0)) (mOn 1 (mOfN (mComp [4] [4] fName (mSeq1 (mSl (mVar 0) (mPart (mOp2 gAdd (mVar 2) (mC (.int 1)))) mNoPart)) mYes (mTup (mCons (mVar 3) (mCons (mVar 4) mNil))))) gExt)) (mRetO 1)))
def F_ties_in : List D → R (List D) := fnN 5 b_ties_in
def b_crowds_in : MS := (mSeq (mSet 1 (mOfN (mComp [5] [5] fName (mRange1 (mOp2 gIx (mVar 0) (mC (.int 0)))) mYes (mTup (mCons (mVar 5) mNil))))) (mSeq (mSetN 2 (mLst mNil)) (mSeq (whileGo (mTest (mOp2 gNe (mVar 1) (mOfN (mLst mNil)))) (mSeq (mSetN 3 (mLst mNil)) (mSeq (mFor [4] fName (mSeq1 (mVar 1)) (mFor [6] fName (mRange (mOp2 gAdd (mOp2 gIx (mVar 4) (mOp1 gNeg (mC (.int 1)))) (mC (.int 1))) (mOp2 gIx (mVar 0) (mC (.int 0)))) (mIfS (mTest (mOp1 gAll (mOfN (mComp [7] [7] fName (mSeq1 (mVar 4)) mYes (mCall 3 F_are_tied (mCons (mVar 0) (mCons (mVar 6) (mCons (mVar 7) mNil)))))))) (mOn 3 (mOp2 gAdd (mVar 4) (mTup (mCons (mVar 6) mNil))) gApp) mNx))) (mSeq (mOn 2 (mVar 3) gExt) (mSet 1 (mVar 3))))) 100000) (mRetN (mOp1N gSorted (vVar 2))))))
def F_crowds_in : List D → R (List D) := fnN 8 b_crowds_in
def b__law_crowds : MS := (mSeq (mSet 1 (mOfN (mLst (mCons (mTup mNil) mNil)))) (mSeq (mFor [2] fName (mRange1 (mOp2 gIx (mVar 0) (mC (.int 0)))) (mSet 1 (mOp2 gAdd (mVar 1) (mOfN (mComp [3] [3] fName (mSeq1 (mVar 1)) (mTest (mOp2 gEq (mOfN (mComp [4] [4] fName (mSeq1 (mVar 3)) (mNot (mTest (mCall 3 F__law_tied (mCons (mVar 0) (mCons (mVar 4) (mCons (mVar 2) mNil)))))) (mVar 4))) (mOfN (mLst mNil)))) (mOp2 gAdd (mVar 3) (mTup (mCons (mVar 2) mNil)))))))) (mRetN (mOp1N gSorted (mOfN (mComp [3] [3] fName (mSeq1 (mVar 1)) (mTest (mOp2 oGt (mOp1 gLen (vVar 3)) (mC (.int 1)))) (mVar 3)))))))
def F__law_crowds : List D → R (List D) := fnN 5 b__law_crowds
def b_may_join : MS := (mSeq (mFor [3] fName (mSeq1 (mVar 1)) (mIfS (mTest (mOp2 oGt (mOp1 gLen (mOfN (mComp [4] [4] fName (mSeq1 (mVar 2)) (mTest (mOp2 (gInX false) (mVar 4) (vVar 3))) (mVar 4)))) (mC (.int 1)))) (mRet (mC (.bool false))) mNx)) (mRet (mOp1 gAll (mOfN (mComp [4] [4] fName (mSeq1 (mVar 2)) mYes (mOp2 oLt (mOp1 gLen (mOfN (mComp [3] [3] fName (mSeq1 (mVar 1)) (mTest (mOp2 (gInX false) (mVar 4) (vVar 3))) (mVar 3)))) (mC (.int 2))))))))
def F_may_join : List D → R D := fnD 5 b_may_join
def b_behind (n : List D → R D) : MS := (mSeq (mIfS (mTest (mOp2 gEq (mVar 3) (mOfN (mLst mNil)))) (mRet (mOfN (mLst (mCons (mOfN (mOp1N gSorted (vVar 2))) mNil)))) mNx) (mSeq (mSetN 4 (mLst mNil)) (mSeq (mFor [5] fName (mSeq1 (mVar 1)) (mSeq (mSet 6 (mOfN (mCallN 1 F_ties_in (mCons (mVar 5) mNil)))) (mIfS (mAnd (mTest (mOp2 (gInX false) (mOp2 gIx (mVar 3) (mC (.int 0))) (vVar 6))) (mTest (mCall 3 F_may_join (mCons (mVar 0) (mCons (mVar 2) (mCons (mVar 5) mNil)))))) (mOn 4 (mCall 4 n (mCons (mVar 0) (mCons (mVar 1) (mCons (mOp2 gAdd (mVar 2) (mOfN (mLst (mCons (mVar 5) mNil)))) (mCons (mOfN (mComp [7] [7] fName (mSeq1 (mVar 3)) (mTest (mOp2 (gInX true) (mVar 7) (vVar 6))) (mVar 7))) mNil))))) gExt) mNx))) (mRet (mVar 4)))))
def F_behind : Nat → List D → R D
  | 0 => fun _ => .bad
  | n + 1 => fnD 8 (b_behind (F_behind n))
def b_sharings_of : MS := (mRetN (mOp1N gSorted (mCall 4 (F_behind 40) (mCons (mVar 0) (mCons (mOfN (mCallN 1 F_crowds_in (mCons (mVar 0) mNil))) (mCons (mOfN (mLst mNil)) (mCons (mOfN (mOp1N gList (mOp2 gIx (mVar 0) (mC (.int 1))))) mNil)))))))
def F_sharings_of : List D → R (List D) := fnN 1 b_sharings_of
def b_all_sharings : MS := (mSeq (mDrop (mCall 1 F_need_web (mCons (mVar 0) mNil))) (mSeq (mDrop (mCall 1 F_need_small (mCons (mVar 0) mNil))) (mRetN (mCallN 1 F_sharings_of (mCons (mVar 0) mNil)))))
def F_all_sharings : List D → R (List D) := fnN 1 b_all_sharings
def b__law_may_join : MS := (mSeq (mFor [2] fName (mSeq1 (mVar 0)) (mIfS (mTest (mOp2 oGt (mOp1 gLen (mOfN (mComp [3] [3] fName (mSeq1 (mVar 1)) (mTest (mOp2 (gInX false) (mVar 3) (vVar 2))) (mVar 3)))) (mC (.int 1)))) (mRet (mC (.bool false))) mNx)) (mSeq (mFor [3] fName (mSeq1 (mVar 1)) (mIfS (mTest (mOp2 oGt (mOp1 gLen (mOfN (mComp [2] [2] fName (mSeq1 (mVar 0)) (mTest (mOp2 (gInX false) (mVar 3) (vVar 2))) (mVar 2)))) (mC (.int 1)))) (mRet (mC (.bool false))) mNx)) (mRet (mC (.bool true)))))
def F__law_may_join : List D → R D := fnD 4 b__law_may_join
def b__law_sharings : MS := (mSeq (mSet 1 (mOfN (mCallN 1 F__law_crowds (mCons (mVar 0) mNil)))) (mSeq (mSetN 2 (mLst mNil)) (mSeq (mSet 3 (mOfN (mLst (mCons (mOfN (mLst mNil)) mNil)))) (mSeq (whileGo (mTest (mOp2 gNe (mVar 3) (mOfN (mLst mNil)))) (mSeq (mSetN 4 (mLst mNil)) (mSeq (mFor [5] fName (mSeq1 (mVar 3)) (mSeq (mSetN 6 (mLst mNil)) (mSeq (mFor [7, 8] (fTup 2) (mSeq1 (mOp2 gIx (mVar 0) (mC (.int 1)))) (mIfS (mTest (mOp2 gEq (mOfN (mComp [9] [9] fName (mSeq1 (mVar 5)) (mAnd (mTest (mOp2 (gInX false) (mVar 7) (vVar 9))) (mTest (mOp2 (gInX false) (mVar 8) (vVar 9)))) (mVar 9))) (mOfN (mLst mNil)))) (mOn 6 (mTup (mCons (mVar 7) (mCons (mVar 8) mNil))) gApp) mNx)) (mSeq (mIfS (mTest (mOp2 gEq (vVar 6) (mOfN (mLst mNil)))) (mOn 2 (mOfN (mOp1N gSorted (vVar 5))) gApp) mNx) (mFor [9] fName (mSeq1 (mVar 1)) (mIfS (mAnd (mTest (mOp2 gNe (vVar 6) (mOfN (mLst mNil)))) (mAnd (mTest (mOp2 (gInX false) (mOp2 gIx (mOp2 gIx (vVar 6) (mC (.int 0))) (mC (.int 0))) (vVar 9))) (mTest (mOp2 (gInX false) (mOp2 gIx (mOp2 gIx (vVar 6) (mC (.int 0))) (mC (.int 1))) (vVar 9))))) (mIfS (mTest (mCall 2 F__law_may_join (mCons (mVar 5) (mCons (mVar 9) mNil)))) (mOn 4 (mOp2 gAdd (mVar 5) (mOfN (mLst (mCons (mVar 9) mNil)))) gApp) mNx) mNx)))))) (mSet 3 (mVar 4)))) 100000) (mRetN (mOp1N gSorted (vVar 2)))))))
def F__law_sharings : List D → R (List D) := fnN 10 b__law_sharings
def b_sizes_ahead : MS := (mSeq (mDrop (mCall 1 F_need_web (mCons (mVar 0) mNil))) (mSeq (mSet 1 (mOfN (mCallN 1 F_counts_of (mCons (mVar 0) mNil)))) (mSeq (mSet 2 (mOfN (mComp [3, 4] [3, 4] (fTup 2) (mSeq1 (mOp2 gIx (mVar 0) (mC (.int 1)))) mYes (mOp2 gSub (mOp2 gAdd (mOp2 gIx (mVar 1) (vVar 3)) (mOp2 gIx (mVar 1) (vVar 4))) (mC (.int 2)))))) (mRetN (mLst (mCons (mOp2 gIx (mVar 0) (mC (.int 0))) (mCons (mOp1 gLen (mOp2 gIx (mVar 0) (mC (.int 1)))) (mCons (mCall 1 F_pairs_of (mCons (mVar 1) mNil)) (mCons (mCall 1 F_pairs_of (mCons (mVar 2) mNil)) mNil)))))))))
def F_sizes_ahead : List D → R (List D) := fnN 5 b_sizes_ahead
def b_fate : MS := (mSeq (mDrop (mCall 1 F_need_web (mCons (mVar 0) mNil))) (mSeq (mIfS (mTest (mOp2 oGt (mOp1 gLen (mOfN (mCallN 1 F_all_pieces (mCons (mVar 0) mNil)))) (mC (.int 1)))) (mErr 7) mNx) (mSeq (mSet 1 (mOfN (mOp1N gSorted (mOfN (mCallN 1 F_counts_of (mCons (mVar 0) mNil)))))) (mSeq (mIfS (mOr (mTest (mOp2 gEq (mOp2 gIx (mVar 0) (mC (.int 0))) (mC (.int 0)))) (mAnd (mTest (mOp2 oLt (mOp2 gIx (mVar 1) (mOp1 gNeg (mC (.int 1)))) (mC (.int 3)))) (mTest (mOp2 gEq (mOp1 gLen (mOp2 gIx (mVar 0) (mC (.int 1)))) (mOp2 gSub (mOp2 gIx (mVar 0) (mC (.int 0))) (mC (.int 1))))))) (mRet (mTup (mCons (mC (.str "gone")) (mCons (mOp2 gIx (mVar 0) (mC (.int 0))) mNil)))) mNx) (mSeq (mIfS (mTest (mOp2 oLt (mOp2 gIx (mVar 1) (mOp1 gNeg (mC (.int 1)))) (mC (.int 3)))) (mRet (mTup (mCons (mC (.str "stays")) (mCons (mOp2 gIx (mVar 0) (mC (.int 0))) mNil)))) mNx) (mSeq (mIfS (mTest (mOp2 gEq (mVar 1) (mOfN (mLst (mCons (mC (.int 1)) (mCons (mC (.int 1)) (mCons (mC (.int 1)) (mCons (mC (.int 3)) mNil)))))))) (mRet (mTup (mCons (mC (.str "stays")) (mCons (mC (.int 3)) mNil)))) mNx) (mRet (mTup (mCons (mC (.str "grows")) mNil)))))))))
def F_fate : List D → R D := fnD 2 b_fate
def b__law_bad : MS := (mSeq (mSetN 1 (mLst (mCons (mC (.str "")) (mCons (mC (.str " ")) (mCons (mC (.str "places")) (mCons (mC (.str "places ")) (mCons (mC (.str "places 15")) (mCons (mC (.str "places 03")) (mCons (mC (.str "places -1")) (mCons (mC (.str "places x")) (mCons (mC (.str "places 3 3")) (mCons (mC (.str "places 100")) mNil)))))))))))) (mSeq (mSetN 1 (mOp2N gCatL (mVar 1) (mOfN (mLst (mCons (mC (.str "places  3")) (mCons (mC (.str " places 3")) (mCons (mC (.str "Places 3")) (mCons (mC (.str "place 3")) (mCons (mC (.str "tie")) (mCons (mC (.str "tie ")) (mCons (mC (.str "tie 0")) (mCons (mC (.str "tie 0 ")) (mCons (mC (.str "tie 0 1 2")) mNil))))))))))))) (mSeq (mSetN 1 (mOp2N gCatL (mVar 1) (mOfN (mLst (mCons (mC (.str "tie 0  1")) (mCons (mC (.str "tie x 1")) (mCons (mC (.str "tie 0 x")) (mCons (mC (.str "tie 00 1")) (mCons (mC (.str "tie 0 -1")) (mCons (mC (.str "tie 0-1")) (mCons (mC (.str "ties 0 1")) (mCons (mC (.str "tie 100 1")) mNil)))))))))))) (mSeq (mOn 1 (mC (.str "make ")) gApp) (mSeq (mSetN 1 (mOp2N gCatL (mVar 1) (mOfN (mLst (mCons (mC (.str "make 1")) (mCons (mC (.str "makes")) (mCons (mC (.str "Make")) (mCons (mC (.str "back ")) (mCons (mC (.str "back 1")) (mCons (mC (.str "web ")) (mCons (mC (.str "web 1")) (mCons (mC (.str "webs")) (mCons (mC (.str "root 0")) (mCons (mC (.str "roots")) mNil)))))))))))))) (mSeq (mSetN 1 (mOp2N gCatL (mVar 1) (mOfN (mLst (mCons (mC (.str "shared 0")) (mCons (mC (.str "share")) (mCons (mC (.str "ahead ")) (mCons (mC (.str "ahead 2")) (mCons (mC (.str "fate 0")) (mCons (mC (.str "fates")) (mCons (mC (.str "none")) (mCons (mC (.str "0")) (mCons (mC (.str "0:")) (mCons (mC (.str "undo")) mNil)))))))))))))) (mSeq (mSetN 1 (mOp2N gCatL (mVar 1) (mOfN (mLst (mCons (mC .none) (mCons (mC (.int 7)) (mCons (mC (.bool true)) (mCons (mTup (mCons (mC (.str "web")) mNil)) (mCons (mOfN (mLst (mCons (mC (.str "web")) mNil))) (mCons mDct (mCons (mC (.str "web\n")) (mCons (mTup (mCons (mC (.int 0)) (mCons (mTup mNil) mNil))) mNil)))))))))))) (mRet (mIxO 1 (mOp2 gMod (mVar 0) (mOp1 gLen (vVar 1))))))))))))
def F__law_bad : List D → R D := fnD 2 b__law_bad
end Td
set_option Elab.async false
set_option linter.all false
set_option maxRecDepth 100000
namespace Td
open PySem PySem.Spec PyProof.Rows L2 TW
theorem gIsX_one {n : Nat} {a : Addr} {m : Nat} : gIsX (some (n, a, none)) m (.dict [(.int a, .none)]) = .ok (.bool (n == m)) := by simp [gIsX, excIs]
theorem gIsVX_one {n : Nat} {a : Addr} : gIsVX (some (n, a, none)) (.dict [(.int a, .none)]) = .ok (.bool true) := by simp [gIsVX, excIs]
theorem gIsX_big {n : Nat} {a dd : Addr} {m : Nat} {i j : Int} : gIsX (some (n, a, some dd)) m (.dict [(.int a, .tuple [.int dd, .int i, .int j])]) = .ok (.bool (n == m)) := by simp [gIsX, excIs]
theorem gIsVX_big {n : Nat} {a dd : Addr} {i j : Int} : gIsVX (some (n, a, some dd)) (.dict [(.int a, .tuple [.int dd, .int i, .int j])]) = .ok (.bool true) := by simp [gIsVX, excIs]
theorem gFldX_many {n : Nat} {a dd : Addr} {i j : Int} : gFldX (some (n, a, some dd)) "many" (.dict [(.int a, .tuple [.int dd, .int i, .int j])]) = .ok (.int i) := by simp [gFldX, excIs]
theorem gFldX_most {n : Nat} {a dd : Addr} {i j : Int} : gFldX (some (n, a, some dd)) "most" (.dict [(.int a, .tuple [.int dd, .int i, .int j])]) = .ok (.int j) := by
  have e : (("most" : Str) = "many") = False := by decide
  simp [gFldX, excIs, e]
theorem gCat_ok {ds es : List D} (h : ds.length + es.length ≤ 16777216) : gCatL (.list ds) (.list es) = .ok (ds ++ es) := by simp [gCatL, szOk, h]
def marks (n : Nat) : List D := [.bool (n == 0), .bool (n == 1), .bool (n == 2), .bool (n == 3), .bool (n == 4), .bool (n == 5), .bool (n == 6), .bool (n == 7), .bool (n == 8), .bool (n == 9), .bool (n == 10), .bool (n == 11), .bool (n == 12)]
theorem tells_end {n : Nat} (hn : n < 12) (x : D) : Rn (mSet 3 (mOfN (mComp [5] [5] fName (mRange1 (mC (.int 13))) (mTest (mOp2 gIx (vVar 2) (vVar 5))) (mVar 5)))) [.un, .dat x, .own false (marks n), .un, .un, .un] fun f c => f = .nx ∧ c = [.un, .dat x, .own false (marks n), .dat (.list [.int n]), .un, .un] := by
  have : n = 0 ∨ n = 1 ∨ n = 2 ∨ n = 3 ∨ n = 4 ∨ n = 5 ∨ n = 6 ∨ n = 7 ∨ n = 8 ∨ n = 9 ∨ n = 10 ∨ n = 11 := by omega
  rcases this with e | e | e | e | e | e | e | e | e | e | e | e <;> subst e <;> exact ⟨.nx, _, by kernel_rfl, rfl, rfl⟩
theorem tells_end2 (x : D) : Rn (mSet 3 (mOfN (mComp [5] [5] fName (mRange1 (mC (.int 13))) (mTest (mOp2 gIx (vVar 2) (vVar 5))) (mVar 5)))) [.un, .dat x, .own false (marks 12), .un, .un, .un] fun f c => f = .nx ∧ c = [.un, .dat x, .own false (marks 12), .dat (.list [.int 12]), .un, .un] := ⟨.nx, _, by kernel_rfl, rfl, rfl⟩
theorem tells__law_refused : Tells 6 m0__law_refused m1__law_refused := by
  refine ⟨by decide, ⟨_, rfl⟩, fun n hn a => ?_, fun a dd i j => ?_⟩
  · suffices h : Rn (m1__law_refused n a none) [.un, .dat (.dict [(.int a, .none)]), .un, .un, .un, .un] fun f _ => f = .rt (.list [.int n]) by
      obtain ⟨f, c, e, rfl⟩ := h
      exact ⟨c, e⟩
    unfold m1__law_refused
    generalize hx : PyData.dict [(.int a, .none)] = x
    have q1 : ∀ m, gIsX (some (n, a, none)) m x = .ok (.bool (n == m)) := fun m => by rw [← hx]; exact gIsX_one
    have q2 : gIsVX (some (n, a, none)) x = .ok (.bool true) := by rw [← hx]; exact gIsVX_one
    refine seq_cut (fun c => c = [.un, .dat x, .own false [.bool (n == 0), .bool (n == 1), .bool (n == 2)], .un, .un, .un]) (by simp [q1]) ?_
    rintro c rfl
    refine seq_cut (fun c => c = [.un, .dat x, .own false [.bool (n == 0), .bool (n == 1), .bool (n == 2), .bool (n == 3), .bool (n == 4), .bool (n == 5)], .un, .un, .un]) (by simp [q1, gCat_ok]) ?_
    rintro c rfl
    refine seq_cut (fun c => c = [.un, .dat x, .own false [.bool (n == 0), .bool (n == 1), .bool (n == 2), .bool (n == 3), .bool (n == 4), .bool (n == 5), .bool (n == 6), .bool (n == 7), .bool (n == 8)], .un, .un, .un]) (by simp [q1, gCat_ok]) ?_
    rintro c rfl
    refine seq_cut (fun c => c = [.un, .dat x, .own false [.bool (n == 0), .bool (n == 1), .bool (n == 2), .bool (n == 3), .bool (n == 4), .bool (n == 5), .bool (n == 6), .bool (n == 7), .bool (n == 8), .bool (n == 9), .bool (n == 10), .bool (n == 11)], .un, .un, .un]) (by simp [q1, gCat_ok]) ?_
    rintro c rfl
    refine seq_cut (fun c => c = [.un, .dat x, .own false (marks n), .un, .un, .un]) (by simp [q1, isOwn, marks]) ?_
    rintro c rfl
    refine seq_cut (fun c => c = [.un, .dat x, .own false (marks n), .un, .un, .un]) (by simp [q2]) ?_
    rintro c rfl
    refine seq_cut _ (tells_end hn x) ?_
    rintro c rfl
    have e : gEq (.list [.int n]) (.list [.int 12]) = .ok (.bool false) := by
      have : ((n : Int) == 12) = false := by simp; omega
      simp [gEq, SeqAt.shaped, PyData.canLay0, PyData.canLayAll0, PyData.depth, PyData.depthAll, PyData.eqv, PyData.eqvAll, this]
    simp [e]
  · suffices h : Rn (m1__law_refused 12 a (some dd)) [.un, .dat (.dict [(.int a, .tuple [.int dd, .int i, .int j])]), .un, .un, .un, .un] fun f _ => f = .rt (.list [.int 12, .int i, .int j]) by
      obtain ⟨f, c, e, rfl⟩ := h
      exact ⟨c, e⟩
    unfold m1__law_refused
    generalize hx : PyData.dict [(.int a, .tuple [.int dd, .int i, .int j])] = x
    have q1 : ∀ m, gIsX (some (12, a, some dd)) m x = .ok (.bool (12 == m)) := fun m => by rw [← hx]; exact gIsX_big
    have q2 : gIsVX (some (12, a, some dd)) x = .ok (.bool true) := by rw [← hx]; exact gIsVX_big
    have q3 : gFldX (some (12, a, some dd)) "many" x = .ok (.int i) := by rw [← hx]; exact gFldX_many
    have q4 : gFldX (some (12, a, some dd)) "most" x = .ok (.int j) := by rw [← hx]; exact gFldX_most
    have f : ∀ m, ((12 : Nat) == m) = decide (12 = m) := fun m => rfl
    refine seq_cut (fun c => c = [.un, .dat x, .own false [.bool false, .bool false, .bool false], .un, .un, .un]) (by simp [q1]) ?_
    rintro c rfl
    refine seq_cut (fun c => c = [.un, .dat x, .own false [.bool false, .bool false, .bool false, .bool false, .bool false, .bool false], .un, .un, .un]) (by simp [q1, gCat_ok]) ?_
    rintro c rfl
    refine seq_cut (fun c => c = [.un, .dat x, .own false [.bool false, .bool false, .bool false, .bool false, .bool false, .bool false, .bool false, .bool false, .bool false], .un, .un, .un]) (by simp [q1, gCat_ok]) ?_
    rintro c rfl
    refine seq_cut (fun c => c = [.un, .dat x, .own false [.bool false, .bool false, .bool false, .bool false, .bool false, .bool false, .bool false, .bool false, .bool false, .bool false, .bool false, .bool false], .un, .un, .un]) (by simp [q1, gCat_ok]) ?_
    rintro c rfl
    refine seq_cut (fun c => c = [.un, .dat x, .own false (marks 12), .un, .un, .un]) (by simp [q1, isOwn, marks]) ?_
    rintro c rfl
    refine seq_cut (fun c => c = [.un, .dat x, .own false (marks 12), .un, .un, .un]) (by simp [q2]) ?_
    rintro c rfl
    refine seq_cut _ (tells_end2 x) ?_
    rintro c rfl
    have e : gEq (.list [.int 12]) (.list [.int 12]) = .ok (.bool true) := rfl
    simp [e, q3, q4]
    rw [gCat_list (by simp)]
    simp
end Td
set_option Elab.async false
set_option linter.all false
set_option maxRecDepth 100000
namespace Td
open PySem PySem.Spec PyProof.Rows L2 TW
def marksB (n : Nat) : List D := [.bool (n == 0), .bool (n == 1), .bool (n == 2), .bool (n == 4), .bool (n == 5), .bool (n == 6), .bool (n == 7), .bool (n == 8), .bool (n == 9), .bool (n == 10), .bool (n == 11), .bool (n == 12), .bool (n == 3)]
end Td
set_option Elab.async false
set_option linter.all false
set_option maxRecDepth 100000
namespace TW
open PySem PySem.Spec PyProof.Rows L2
def mParN (i j : Nat) (mx my : M (List D)) : MS := M.bind mx fun ds => M.bind my fun es => fun cs => .ok (.nx, (cs.set i (.own false ds)).set j (.own false es))
section
variable {ct : Nat → Addr} {W : WX} {X : Cx} {a b : Expr} {pos : Pos}
@[simp] theorem rn_mParN {i j : Nat} {mx my : M (List D)} {cs : List C} {QF : Fl → List C → Prop} : Rn (mParN i j mx my) cs QF ↔ Rn mx cs fun ds c => Rn my c fun es c => QF .nx ((c.set i (.own false ds)).set j (.own false es)) := by
  unfold mParN
  rw [rn_bind]
  simp only [rn_bind]
  refine iff_of_eq (congrArg _ (funext fun ds => funext fun c => congrArg _ (funext fun es => funext fun c => propext ?_)))
  exact ⟨fun ⟨_, _, e, h⟩ => by cases e; exact h, fun h => ⟨_, _, rfl, h⟩⟩
end
end TW
set_option Elab.async false
set_option linter.all false
set_option maxRecDepth 100000
namespace TW
open PySem PySem.Spec PyProof.Rows L2
def gCnt (ds : List D) (d : D) : R D := if PyData.canLayAll0 ds && SeqAt.shaped d then .ok (.int ((ds.countP fun y => PyData.eqv y d : Nat) : Int)) else .bad
def mCntT (mo m : M D) : M D := M.bind mo fun d => match d with
  | .tuple ds => M.bind m fun e => M.only (gCnt ds e)
  | _ => fun _ => .bad
def mCntL (mn : M (List D)) (m : M D) : M D := M.bind mn fun ds => M.bind m fun e => M.only (gCnt ds e)
section
variable {cs : List C} {mo m : M D} {mn : M (List D)} {Q : D → List C → Prop}
@[simp] theorem rn_mCntT : Rn (mCntT mo m) cs Q ↔ Rn mo cs fun d c => ∃ ds, d = .tuple ds ∧ Rn m c fun e c => Ev (gCnt ds e) fun z => Q z c := by
  unfold mCntT
  rw [rn_bind]
  constructor
  · refine fun h => h.mono fun d c h => ?_
    cases d with
    | tuple ds =>
      refine ⟨ds, rfl, ?_⟩
      simpa [rn_bind, rn_only] using h
    | _ =>
      obtain ⟨_, _, h, _⟩ := h
      cases h
  · refine fun h => h.mono fun d c h => ?_
    obtain ⟨ds, rfl, h⟩ := h
    simpa [rn_bind, rn_only] using h
@[simp] theorem rn_mCntL : Rn (mCntL mn m) cs Q ↔ Rn mn cs fun ds c => Rn m c fun e c => Ev (gCnt ds e) fun z => Q z c := by
  unfold mCntL
  simp only [rn_bind, rn_only]
end
end TW
namespace TW
open PySem PySem.Spec PyProof.Rows L2
end TW
namespace TW
open PySem PySem.Spec PyProof.Rows L2
end TW
set_option Elab.async false
set_option linter.all false
set_option maxRecDepth 100000
namespace Td
open PySem PySem.Spec PyProof.Rows L2 TW
end Td
set_option Elab.async false
set_option linter.all false
set_option maxRecDepth 100000
namespace TW
open PySem PySem.Spec PyProof.Rows L2
section
variable {α : Type} {vs is : List Nat} {f : D → R (List D)} {mt : M Bool} {me : M D} {body : MS} {cs c0 : List C}
theorem for_list {φ : α → D} {l : List α} {QF : Fl → List C → Prop} (P : List α → List C → Prop) (h0 : P [] cs) (he : ∀ c, P l c → QF .nx c)
    (step : ∀ d x r c, l = d ++ x :: r → P d c → Ev (f (φ x)) fun ys => Rn body (setC c is ys) fun fl c' => match fl with
      | .nx => P (d ++ [x]) c'
      | .ct => P (d ++ [x]) c'
      | .bk => QF .nx c'
      | fl => QF fl c') : Rn (forGo is f body (l.map φ)) cs QF := by
  refine for_rule (I := fun xs c => ∃ d r, l = d ++ r ∧ xs = r.map φ ∧ P d c) ⟨[], l, rfl, rfl, h0⟩ ?_ ?_
  · rintro c ⟨d, r, e1, e2, p⟩
    have : r = [] := by simpa using e2.symm
    subst this
    rw [List.append_nil] at e1
    subst e1
    exact he c p
  · rintro x xs c ⟨d, r, e1, e2, p⟩
    cases r with
    | nil => simp at e2
    | cons y r =>
      simp at e2
      obtain ⟨rfl, rfl⟩ := e2
      refine (step d y r c e1 p).mono fun ys hy => hy.mono fun fl c' h => ?_
      have e3 : l = (d ++ [y]) ++ r := by rw [e1, List.append_assoc]; rfl
      cases fl with
      | nx => exact ⟨_, r, e3, rfl, h⟩
      | ct => exact ⟨_, r, e3, rfl, h⟩
      | bk => exact h
      | rt d => exact h
      | rn d => exact h
theorem comp_mapM {φ : α → D} {l : List α} {QL : List D → List C → Prop} (g : α → D) (step : ∀ x ∈ l, Ev (f (φ x)) fun ys => Rn me (setC c0 is ys) fun d c => d = g x ∧ wipeC c vs = c0) (h : QL (l.map g) c0) : Rn (compGo vs is f mYes me (l.map φ)) c0 QL := by
  induction l generalizing QL with
  | nil => exact rn_comp_nil.mpr h
  | cons x xs ih =>
    refine rn_comp_cons.mpr ((step x List.mem_cons_self).mono fun ys hy => ?_)
    simp only [rn_mYes, if_true]
    refine hy.mono fun d c ⟨e1, e2⟩ => ?_
    rw [e2]
    exact ih (fun y hy => step y (List.mem_cons_of_mem _ hy)) (by rw [e1]; exact h)
theorem comp_filterM {φ : α → D} {l : List α} {QL : List D → List C → Prop} (t : α → Bool) (g : α → D)
    (step : ∀ x ∈ l, Ev (f (φ x)) fun ys => Rn mt (setC c0 is ys) fun b c => b = t x ∧ if b then Rn me c fun d c => d = g x ∧ wipeC c vs = c0 else wipeC c vs = c0) (h : QL ((l.filter t).map g) c0) : Rn (compGo vs is f mt me (l.map φ)) c0 QL := by
  induction l generalizing QL with
  | nil => exact rn_comp_nil.mpr h
  | cons x xs ih =>
    refine rn_comp_cons.mpr ((step x List.mem_cons_self).mono fun ys hy => hy.mono fun b c ⟨eb, hc⟩ => ?_)
    have ih := fun {Q} h => @ih Q (fun y hy => step y (List.mem_cons_of_mem _ hy)) h
    cases b with
    | true =>
      simp only [if_true] at hc ⊢
      rw [List.filter_cons_of_pos eb.symm] at h
      refine hc.mono fun d c ⟨e1, e2⟩ => ?_
      rw [e2]
      exact ih (by rw [e1]; exact h)
    | false =>
      simp only [Bool.false_eq_true, if_false] at hc ⊢
      rw [List.filter_cons_of_neg (by rw [← eb]; exact Bool.false_ne_true)] at h
      rw [hc]
      exact ih h
end
end TW
set_option Elab.async false
set_option linter.all false
set_option maxRecDepth 100000
namespace TW
open PySem PySem.Spec PyProof.Rows L2
end TW
set_option Elab.async false
set_option linter.all false
set_option maxRecDepth 100000
namespace Td
open PySem PySem.Spec PyProof.Rows L2 TW
end Td
set_option Elab.async false
set_option linter.all false
set_option maxRecDepth 100000
namespace TW
open PySem PySem.Spec PyProof.Rows L2
end TW
set_option Elab.async false
set_option linter.all false
set_option maxRecDepth 100000
namespace Td
open PySem PySem.Spec PyProof.Rows L2 TW
end Td
set_option Elab.async false
set_option linter.all false
set_option maxRecDepth 100000
namespace TW
open PySem PySem.Spec PyProof.Rows L2
section
variable {X : Cx} {pins : List (Addr × Obj)} {σ : L2.St} {G H : Hp} {s : Shared}
mutual
theorem key_is (I : Inv X pins σ H s) (sm : Same G H) : ∀ (k : NestedKey) {v : V} {u : Value}, Rp X.K G v k.data → RelV v u → NestedIs s.heap k u
  | .none, v, u, r, q => by
    have := Rp.ofNon r
    subst this
    obtain rfl : u = .none := q
    exact .none
  | .num i, v, u, r, q => by
    have := Rp.ofInt r
    subst this
    obtain ⟨t, rfl⟩ : ∃ t, u = .int i t := q
    exact .int i t
  | .text x, v, u, r, q => by
    have := Rp.ofStr r
    subst this
    obtain ⟨t, rfl⟩ : ∃ t, u = .str x t := q
    exact .text x t
  | .tup ks, v, u, r, q => by
    obtain ⟨a, xs, e, h, z, ra⟩ := Rp.ofTup (show Rp X.K G v (.tuple (NestedKey.datas ks)) from r)
    subst e
    obtain rfl : u = .ref a := q
    obtain ⟨its, rv, ⟨o, ho, hc, n, hd⟩, _⟩ := I.tuple (Same.sqt sm h)
    exact .tup ho hc hd (by simpa using keys_are I sm ks ra rv)
theorem keys_are (I : Inv X pins σ H s) (sm : Same G H) : ∀ (ks : List NestedKey) {vs : List V} {us : List Value}, RpAll X.K G vs (NestedKey.datas ks) → Vals vs us → NestedAll s.heap ks us
  | [], vs, us, r, q => by
    cases r
    cases q
    exact .nil
  | k :: ks, vs, us, r, q => by
    cases r with
    | cons r1 r2 =>
      cases q with
      | cons q1 q2 => exact .cons (key_is I sm k r1 q1) (keys_are I sm ks r2 q2)
end
end
theorem nt_dictO {P : Program} {w : World} {a : Addr} {xs : List (NestedKey × Addr × V)} : NT (dictO P w a xs) := fun _ e => nomatch e
def KeysIn (K : PySem.W.Frag) (G : Hp) (xs : List (NestedKey × Addr × V)) : Prop := ∀ x ∈ xs, Rp K G (.ref x.2.1) x.1.data ∧ x.1.depth ≤ 8
theorem KeysIn.mono {K : PySem.W.Frag} {G G' : Hp} {xs : List (NestedKey × Addr × V)} (sm : Same G G') (h : KeysIn K G xs) : KeysIn K G' xs := fun x hx => ⟨(h x hx).1.mono sm, (h x hx).2⟩
section
variable {X : Cx} {pins : List (Addr × Obj)} {σ : L2.St} {G H : Hp} {s : Shared} {a b : Addr} {k : NestedKey} {xs : List (NestedKey × Addr × V)} {ys : List (NestedKey × Addr × Value)}
theorem ent_keys : ∀ {xs : List (NestedKey × Addr × V)} {ys : List (NestedKey × Addr × Value)}, Paired EntR xs ys → xs.map (·.1) = ys.map (·.1)
  | _, _, .nil => rfl
  | _, _, .cons r t => by rw [List.map_cons, List.map_cons, r.1, ent_keys t]
theorem ent_mem : ∀ {xs : List (NestedKey × Addr × V)} {ys : List (NestedKey × Addr × Value)}, Paired EntR xs ys → ∀ y ∈ ys, ∃ x ∈ xs, EntR x y
  | _, _, .nil, y, h => by cases h
  | _, _, .cons r t, y, h => by
    rcases List.mem_cons.mp h with e | h
    · subst e; exact ⟨_, List.mem_cons_self, r⟩
    · obtain ⟨x, hx, q⟩ := ent_mem t y h
      exact ⟨x, List.mem_cons_of_mem _ hx, q⟩
def DO (H : Hp) (P : Program) (w : World) (a : Addr) (xs : List (NestedKey × Addr × V)) : Prop := H a = some (dictO P w a xs) ∨ ∃ o, DictIs P w a o xs ∧ H a = some (objX a o)
theorem do_of {P : Program} {w : World} (I : Inv X pins σ H s) (h : DO H P w a xs) : (a == sysModules) = false ∧ ∃ o es ep ys, s.heap.get? a = some o ∧ o.ExactDict ∧ o.data = .dict es ep ∧ Paired EntR xs ys ∧ es.toList = ys.map (entryOfKey (nestedKind P w)) := by
  rcases h with h | ⟨o, ⟨z, es, ep, ys, r⟩, h⟩
  · obtain ⟨r, _⟩ := rd_of I.hok (.inl h)
    exact r
  · obtain ⟨ho, _⟩ := rd_of I.hok (.inl h)
    exact ⟨z, o, es, ep, ys, ho, r⟩
theorem dict_now {P : Program} {w : World} (I : Inv X pins σ H s) (hH : DO H P w a xs) (hw : ∀ x ∈ xs, x.1.hash w = x.1.hash X.w) (sm : Same G H) (kk : KeysIn X.K G xs) (nd : (xs.map (·.1)).Nodup) : (a == sysModules) = false ∧ ∃ ys, Paired EntR xs ys ∧ s.heap.DictOfH (nestedKind X.prog X.w) a ys := by
  obtain ⟨z, o, es, ep, ys, ho, hx, hd, pr, he⟩ := do_of I hH
  have he : es.toList = ys.map (entryOfKey (nestedKind X.prog X.w)) := he.trans (List.map_congr_left fun y hy => by
    obtain ⟨x, hx, e1, _⟩ := ent_mem pr y hy
    show (⟨y.1.hash w, _, _⟩ : DictEntry) = ⟨y.1.hash X.w, _, _⟩
    rw [← e1, hw x hx])
  refine ⟨z, ys, pr, o, es, ep, ho, hx, hd, he, fun y hy => ?_, by rw [← ent_keys pr]; exact nd⟩
  obtain ⟨x, hx, e1, e2, _⟩ := ent_mem pr y hy
  obtain ⟨r, dp⟩ := kk x hx
  rw [← e1, ← e2]
  exact ⟨key_is I sm x.1 r rfl, dp⟩
end
section
variable {X : Cx} {o i value : Expr} {pos pos' : Pos} {td ty tv : TE}
structure DAt (X : Cx) (H : Hp) (a b : Addr) (k : NestedKey) (xs : List (NestedKey × Addr × V)) : Prop where
  at_ : ∃ P w, DO H P w a xs ∧ ∀ x ∈ xs, x.1.hash w = x.1.hash X.w
  nd : (xs.map (·.1)).Nodup
  data : ∃ G, Same G H ∧ KeysIn X.K G xs ∧ Rp X.K G (.ref b) k.data
  dep : k.depth ≤ 8
theorem DAt.now {pins : List (Addr × Obj)} {σ : L2.St} {H : Hp} {s : Shared} {a b : Addr} {k : NestedKey} {xs : List (NestedKey × Addr × V)} (d : DAt X H a b k xs) (I : Inv X pins σ H s) : (nestedKind X.prog X.w).is s.heap k b ∧ (a == sysModules) = false ∧ ∃ ys, Paired EntR xs ys ∧ s.heap.DictOfH (nestedKind X.prog X.w) a ys := by
  obtain ⟨G, sm, kk, r⟩ := d.data
  obtain ⟨P, w, h1, h2⟩ := d.at_
  exact ⟨⟨key_is I sm k r rfl, d.dep⟩, dict_now I h1 h2 sm kk d.nd⟩
end
end TW
set_option Elab.async false
set_option linter.all false
set_option maxRecDepth 100000
namespace TW
open PySem PySem.Spec PyProof.Rows L2
def opq (a : Addr) : D := .dict [(.int a, .none)]
abbrev DE := List (NestedKey × D)
structure DSt (P : Program) (w : World) (K : PySem.W.Frag) (a : Addr) (E : DE) (G H : Hp) : Prop where
  ex : ∃ xs, H a = some (dictO P w a xs) ∧ (xs.map (·.1)).Nodup ∧ KeysIn K G xs ∧ Paired (fun x (e : NestedKey × D) => x.1 = e.1 ∧ Rp K G x.2.2 e.2) xs E
  out : G a = none
abbrev MSd := DE → List C → R (Fl × DE × List C)
section
variable {P : Program} {w : World} {K : PySem.W.Frag} {ct : Nat → Addr} {W : WX} {a : Addr} {δ0 δ δ' : List C} {G0 G G' H0 H H' : Hp} {σ0 σ σ' : L2.St} {De : Ends} {E : DE}
theorem pair_mono {xs : List (NestedKey × Addr × V)} {E : DE} (sm : Same G G') (h : Paired (fun x (e : NestedKey × D) => x.1 = e.1 ∧ Rp K G x.2.2 e.2) xs E) : Paired (fun x (e : NestedKey × D) => x.1 = e.1 ∧ Rp K G' x.2.2 e.2) xs E := by
  induction h with
  | nil => exact .nil
  | cons r t ih => exact .cons ⟨r.1, r.2.mono sm⟩ ih
theorem not_own (r : Rel K δ G σ H) {o : HO} (h : H a = some o) (no : ∀ xs, o ≠ .lst xs) : ¬ OwA δ σ a := fun ⟨t, i, ds, h1, h2⟩ => by
  obtain ⟨p, vs, k1, k2, _⟩ := r.own i t ds h1
  rw [h2] at k1
  cases k1
  rw [h] at k2
  exact no _ (Option.some.inj k2)
theorem dictO_not_code {P : Program} {w : World} {a : Addr} {xs : List (NestedKey × Addr × V)} {q : Str} : dictO P w a xs ≠ LamX.CodeO a q := fun e => by
  unfold dictO LamX.CodeO at e
  injection e with e
  let oc : Obj := { cls := .type "code", data := .fields #[.none, .str q default] }
  let h : Heap := { objs := Array.replicate (a + 1) oc }
  have hg : h.get? a = some oc := by
    unfold Heap.get?
    simp [h, oc]
  have c := congrFun e h
  have : (a == sysModules) = false ∧ ∃ o es ep ys, h.get? a = some o ∧ o.ExactDict ∧ o.data = .dict es ep ∧ Paired EntR xs ys ∧ es.toList = ys.map (entryOfKey (nestedKind P w)) := c.mpr ⟨oc, _, default, hg, rfl, rfl⟩
  obtain ⟨_, o, es, ep, ys, ho, _, hd, _⟩ := this
  rw [hg] at ho
  cases ho
  cases hd
theorem DSt.keep (d : DSt P w K a E G H) (r : Rel K δ G σ H) (x : Ext δ G H σ δ' G' H' σ') (sm : Same G' H') : DSt P w K a E G' H' := by
  obtain ⟨xs, h1, h2, h3, h4⟩ := d.ex
  have no := not_own r h1 (fun xs z => by cases z)
  refine ⟨⟨xs, x.keep a _ h1 nt_dictO no, h2, h3.mono x.same, pair_mono x.same h4⟩, ?_⟩
  cases q : G' a with
  | none => rfl
  | some o =>
    rcases x.new a o q with z | z | z
    · rw [d.out] at z; cases z
    · rcases z with z | ⟨y, z⟩
      · exact (z _ h1 nt_dictO).elim
      · have e1 := sm _ _ q
        rw [x.keep a _ h1 nt_dictO no, z] at e1
        exact absurd (Option.some.inj e1) dictO_not_code
    · exact absurd ⟨false, z⟩ no
def PostB (P : Program) (w : World) (K : PySem.W.Frag) (ct : Nat → Addr) (W : WX) (a : Addr) (r : R (Fl × DE × List C)) (Gc : Hp) (δ0 : List C) (G0 H0 : Hp) (σ0 : L2.St) (De : Ends) : Prop := match r with
  | .ok (.nx, E', δ') => ∀ σ' G' H', Same Gc G' → Ext δ0 G0 H0 σ0 δ' G' H' σ' → Rel K δ' G' σ' H' → DSt P w K a E' G' H' → De.nx σ' H'
  | .ok (.rt d, _, δ') => ∀ v σ' G' H', Ext δ0 G0 H0 σ0 δ' G' H' σ' → Rel K δ' G' σ' H' → Rp K G' v d → De.rt v H'
  | .ok (.rn ds, _, δ') => ∀ p vs σ' G' H', Ext δ0 G0 H0 σ0 δ' G' H' σ' → Rel K δ' G' σ' H' → H' p = some (.lst vs) → G' p = none → ds.length ≤ sizeLine → RpAll K G' vs ds → (Ow false δ0 σ0 p ∨ Fre H0 p) → ¬ OwA δ' σ' p → De.rt (.ref p) H'
  | _ => False
theorem PostB.at {r : R (Fl × DE × List C)} {Gc Gd : Hp} (sm : Same Gc Gd) (h : PostB P w K ct W a r Gc δ0 G0 H0 σ0 De) : PostB P w K ct W a r Gd δ0 G0 H0 σ0 De := by
  cases r with
  | bad => exact h
  | err n xs => exact h
  | ok p =>
    obtain ⟨f, E1, c⟩ := p
    cases f with
    | nx => exact fun σ' G' H' s2 => h σ' G' H' (sm.trans s2)
    | bk => exact h
    | ct => exact h
    | rt v => exact h
    | rn ds => exact h
end
end TW
set_option Elab.async false
set_option linter.all false
set_option maxRecDepth 100000
namespace TW
open PySem PySem.Spec PyProof.Rows L2
def isOpq (a : Addr) : Option C → Bool
  | some (.dat (.dict [(.int b, .none)])) => decide (b = (a : Int))
  | _ => false
theorem isOpq_eq {a : Addr} {c : Option C} (h : isOpq a c = true) : c = some (.dat (opq a)) := by
  unfold isOpq at h
  split at h
  · rename_i b
    have := of_decide_eq_true h
    subst this
    rfl
  · cases h
theorem Rp.ofOpq {K : PySem.W.Frag} {G : Hp} {v : V} {a : Addr} (h : Rp K G v (opq a)) : v = .ref a := by
  have key : ∀ {d : D}, Rp K G v d → d = opq a → v = .ref a := by
    intro d h e
    unfold opq at e
    cases h with
    | ex0 =>
      injection e with e
      injection e with e _
      injection e with e _
      injection e with e
      have := Int.ofNat.inj e
      subst this
      rfl
    | lam _ =>
      injection e with e
      injection e with e _
      injection e with e _
      cases e
    | dik _ _ _ _ _ _ _ =>
      injection e with e
      injection e with e _
      injection e with e _
      cases e
    | ikd _ _ _ _ =>
      injection e with e
      injection e with e _
      injection e with e _
      cases e
    | dsk _ _ _ _ _ =>
      injection e with e
      injection e with e _
      injection e with e _
      cases e
    | exF _ =>
      injection e with e
      injection e with e _
      injection e with _ e
      cases e
    | non => cases e
    | bl _ => cases e
    | int _ => cases e
    | str _ => cases e
    | lst _ _ _ => cases e
    | scr _ _ _ =>
      injection e with e
      injection e with e _
      injection e with e _
      cases e
    | tup _ _ _ => cases e
    | zp _ _ =>
      injection e with e
      injection e with e _
      injection e with e _
      cases e
    | dct _ =>
      injection e with e
      cases e
  exact key h rfl
section
variable {P : Program} {w : World} {K : PySem.W.Frag} {ct : Nat → Addr} {W : WX} {a : Addr} {δ0 δ : List C} {G0 G H0 H : Hp} {σ0 σ : L2.St} {De : Ends} {E : DE}
theorem dict_not_code {xs : List (NestedKey × Addr × V)} {q : Str} : dictO P w a xs ≠ LamX.CodeO a q := fun e => by
  unfold dictO LamX.CodeO at e
  injection e with e
  let oc : Obj := { cls := .type "code", data := .fields #[.none, .str q default] }
  let h : Heap := { objs := Array.replicate (a + 1) oc }
  have hg : h.get? a = some oc := by
    unfold Heap.get?
    simp [h, oc]
  have c := congrFun e h
  have : (a == sysModules) = false ∧ ∃ o es ep ys, h.get? a = some o ∧ o.ExactDict ∧ o.data = .dict es ep ∧ Paired EntR xs ys ∧ es.toList = ys.map (entryOfKey (nestedKind P w)) := c.mpr ⟨oc, _, default, hg, rfl, rfl⟩
  obtain ⟨_, o, es, ep, ys, ho, _, hd, _⟩ := this
  rw [hg] at ho
  cases ho
  cases hd
theorem tabs_dict {xs : List (NestedKey × Addr × V)} {o : HO} (h : H a = some (dictO P w a xs)) : ∀ T, LamX.Tabs T H → LamX.Tabs T (upd H a o) := fun T ht q hq => by
  obtain ⟨ps, h1, h2, h3⟩ := ht q hq
  have n : q.1 ≠ a := fun e => by rw [e, h] at h1; cases h1
  refine ⟨ps, by rw [upd_ne n]; exact h1, h2, fun pos cv hc => ?_⟩
  obtain ⟨c, e1, e2⟩ := h3 pos cv hc
  have n2 : c ≠ a := fun e => by rw [e, h] at e2; exact dict_not_code (Option.some.inj e2)
  exact ⟨c, e1, by rw [upd_ne n2]; exact e2⟩
theorem Rel.dict {xs ys : List (NestedKey × Addr × V)} (r : Rel K δ G σ H) (h : H a = some (dictO P w a xs)) (out : G a = none) : Rel K δ G σ (upd H a (dictO P w a ys)) := by
  have no := not_own r h (fun xs z => by cases z)
  refine ⟨r.len, fun b o hb => ?_, r.nt, r.dat, fun i t ds hi => ?_, r.inj, tabs_dict h _ r.tabs⟩
  · have n : b ≠ a := fun e => by subst e; rw [out] at hb; cases hb
    rw [upd_ne n]; exact r.same b o hb
  · obtain ⟨q, ws, a1, a2, a3⟩ := r.own i t ds hi
    have n : q ≠ a := fun e => no ⟨t, i, ds, hi, e ▸ a1⟩
    exact ⟨q, ws, a1, by rw [upd_ne n]; exact a2, a3⟩
theorem Ext.dict {ys : List (NestedKey × Addr × V)} (x : Ext δ0 G0 H0 σ0 δ G H σ) (h0 : H0 a = none) : Ext δ0 G0 H0 σ0 δ G (upd H a (dictO P w a ys)) σ := by
  refine ⟨fun b o hb n no => ?_, fun b hb => ?_, x.same, x.new, x.own, x.par⟩
  · have q : b ≠ a := fun e => by subst e; rw [h0] at hb; cases hb
    rw [upd_ne q]; exact x.keep b o hb n no
  · by_cases q : b = a
    · subst q; exact fre_none h0
    · exact x.back b fun o e => hb o (by rw [upd_ne q]; exact e)
end
end TW
set_option Elab.async false
set_option linter.all false
set_option maxRecDepth 100000
namespace TW
open PySem PySem.Spec PyProof.Rows L2
end TW
set_option Elab.async false
set_option linter.all false
set_option maxRecDepth 100000
namespace TW
open PySem PySem.Spec PyProof.Rows L2
abbrev MSe := DE → List C → R (Fl × List C)
def forget (keep : List Nat) (cs : List C) : List C := cs.mapIdx fun j c => if j ∈ keep then c else .un
theorem forget_get {keep : List Nat} {cs : List C} {j : Nat} {c : C} (h : (forget keep cs)[j]? = some c) : cs[j]? = some c ∨ c = .un := by
  unfold forget at h
  rw [List.getElem?_mapIdx] at h
  cases e : cs[j]? with
  | none => rw [e] at h; cases h
  | some d =>
    rw [e] at h
    simp only [Option.map_some, Option.some.injEq] at h
    split at h
    · exact .inl (by rw [h])
    · exact .inr h.symm
theorem forget_ow {keep : List Nat} {cs : List C} {t : Bool} {σ : L2.St} {b : Addr} (h : Ow t (forget keep cs) σ b) : Ow t cs σ b := by
  obtain ⟨i, ds, h1, h2⟩ := h
  rcases forget_get h1 with z | z
  · exact ⟨i, ds, z, h2⟩
  · cases z
theorem forget_length {keep : List Nat} {cs : List C} : (forget keep cs).length = cs.length := by unfold forget; rw [List.length_mapIdx]
theorem Rel.forget {K : PySem.W.Frag} {δ : List C} {G H : Hp} {σ : L2.St} {keep : List Nat} (r : Rel K δ G σ H) : Rel K (forget keep δ) G σ H :=
  ⟨by rw [forget_length]; exact r.len, r.same, r.nt, fun i d h => (forget_get h).elim (r.dat i d) (fun z => nomatch z), fun i t ds h => (forget_get h).elim (r.own i t ds) (fun z => nomatch z),
    fun i j p t u ds es h1 h2 h3 h4 => (forget_get h1).elim (fun z1 => (forget_get h2).elim (fun z2 => r.inj i j p t u ds es z1 z2 h3 h4) (fun z => nomatch z)) (fun z => nomatch z), r.tabs⟩
theorem Ext.forget {δ δ' : List C} {G G' H H' : Hp} {σ σ' : L2.St} {keep : List Nat} (x : Ext δ G H σ δ' G' H' σ') : Ext δ G H σ (forget keep δ') G' H' σ' :=
  ⟨x.keep, x.back, x.same, x.new, fun b z => x.own b (forget_ow z), fun b z => x.par b (forget_ow z)⟩
theorem forget_post {K : PySem.W.Frag} {ct : Nat → Addr} {W : WX} {f : Fl} {c δ : List C} {G H : Hp} {σ : L2.St} {De : Ends} {keep : List Nat} (h : PostS K ct W (.ok (f, forget keep c)) δ G H σ De) : PostS K ct W (.ok (f, c)) δ G H σ De := by
  cases f with
  | nx => exact fun σ' G' H' x r => h σ' G' H' x.forget r.forget
  | bk => exact fun σ' G' H' x r => h σ' G' H' x.forget r.forget
  | ct => exact fun σ' G' H' x r => h σ' G' H' x.forget r.forget
  | rt d => exact fun v σ' G' H' x r q => h v σ' G' H' x.forget r.forget q
  | rn ds => exact fun p vs σ' G' H' x r h1 h2 h3 h4 h5 h6 => h p vs σ' G' H' x.forget r.forget h1 h2 h3 h4 h5 fun ⟨t, z⟩ => h6 ⟨t, forget_ow z⟩
section
variable {ct : Nat → Addr} {W : WX} {X : Cx} {rest : List Stmt} {i : Nat} {x : Str} {py pd pos : Pos} {m : Addr → MSe}
theorem Rel.fresh {K : PySem.W.Frag} {δ : List C} {G H : Hp} {σ : L2.St} {p : Addr} {o : HO} (r : Rel K δ G σ H) (hp : H p = none) : Rel K δ G σ (upd H p o) :=
  ⟨r.len, fun b u hb => by rw [upd_ne (ne_of_none (r.same b u hb) hp)]; exact r.same b u hb, r.nt, r.dat, fun j t ds h => by
    obtain ⟨q, ws, a1, a2, a3⟩ := r.own j t ds h
    exact ⟨q, ws, a1, by rw [upd_ne (ne_of_none a2 hp)]; exact a2, a3⟩, r.inj, tabs_keep (same_upd hp) _ r.tabs⟩
end
end TW
set_option Elab.async false
set_option linter.all false
set_option maxRecDepth 100000
namespace TW
open PySem PySem.Spec PyProof.Rows L2
end TW
set_option Elab.async false
set_option linter.all false
set_option maxRecDepth 100000
namespace TW
open PySem PySem.Spec PyProof.Rows L2
abbrev MDd := DE → List C → R (D × List C)
end TW
set_option Elab.async false
set_option linter.all false
set_option maxRecDepth 100000
namespace TW
open PySem PySem.Spec PyProof.Rows L2
def gKeys : D → R (List D)
  | .dict ((.bool false, .none) :: es) => .ok (es.map (·.1))
  | _ => .bad
def mSeqK (m : M D) : M (List D) := M.bind m fun d => M.only (gKeys d)
end TW
set_option Elab.async false
set_option linter.all false
set_option maxRecDepth 100000
namespace Td
open PySem PySem.Spec PyProof.Rows L2 TW
end Td
set_option Elab.async false
set_option linter.all false
set_option maxRecDepth 100000
namespace TW
open PySem PySem.Spec PyProof.Rows L2 LamX
end TW
set_option Elab.async false
set_option linter.all false
set_option maxRecDepth 100000
namespace TW
open PySem PySem.Spec PyProof.Rows L2 LamX
def LamObj (X : Cx) (params : Arguments) (body : Expr) (scope : Scope) (o : Obj) (c' : Addr) : Prop := ∃ pm ctv, o = PySem.W.kla_obj "<lambda>" (X.env.qual ++ "<lambda>") params body scope (cloFrom X.env.cells scope.names []) pm c' ctv
end TW
set_option Elab.async false
set_option linter.all false
set_option maxRecDepth 100000
namespace TW
open PySem PySem.Spec PyProof.Rows L2 LamX
structure LamIn (X : Cx) (ct : Nat → Addr) (k : Nat) (l : Addr × Addr × M D) : Prop where
  ex : ∃ params body scope ob, (l.1, ob) ∈ X.pn ∧ LamObj X params body scope ob l.2.1 ∧ l.1 ∉ frs X.stack ∧ LamS X.env.scope scope ∧
    (∀ (q : Str) (cl : List (Str × Addr)) (pm cv ctv : Value), bindArgs (PySem.W.kla_fn "<lambda>" q params body scope cl pm cv ctv) ⟨[], []⟩ = pure []) ∧
    ∀ (A : Around) (outer : List Env) (s : Shared) (H : Hp) (E : XK) (f c' : Addr), Room k (lamCx X A outer s H E scope f c').A → Takes (lamCx X A outer s H E scope f c') (WE' E) → VE ct (WE' E) (lamCx X A outer s H E scope f c') body l.2.2
theorem LamIn.pin {X : Cx} {ct : Nat → Addr} {k : Nat} {l : Addr × Addr × M D} {q : Addr × Obj} (h : LamIn X ct k l) : LamIn (withPin X q) ct k l := by
  obtain ⟨params, body, scope, ob, h1, h2, h3, h4, h5, h6⟩ := h.ex
  exact ⟨params, body, scope, ob, List.mem_cons_of_mem _ h1, h2, h3, h4, h5, h6⟩
theorem Maker.pin {X : Cx} {q : Addr × Obj} (h : Maker X) : Maker (withPin X q) := ⟨h.ex⟩
end TW
set_option Elab.async false
set_option linter.all false
set_option maxRecDepth 100000
namespace TW
open PySem PySem.Spec PyProof.Rows L2
def RnD (m : MSd) (E : DE) (cs : List C) (Q : Fl → DE → List C → Prop) : Prop := ∃ f E' c', m E cs = .ok (f, E', c') ∧ Q f E' c'
def RnV (m : MDd) (E : DE) (cs : List C) (Q : D → List C → Prop) : Prop := ∃ d c', m E cs = .ok (d, c') ∧ Q d c'
section
variable {α : Type} {E : DE} {cs : List C} {Q : Fl → DE → List C → Prop} {QV : D → List C → Prop} {m n : MSd} {is : List Nat} {f : D → R (List D)} {body : MSd} {mi : M (List D)} {a : Addr} {i : Nat} {mk mx mv : M D}
theorem RnD.mono {Q' : Fl → DE → List C → Prop} (h : RnD m E cs Q) (k : ∀ f E c, Q f E c → Q' f E c) : RnD m E cs Q' := let ⟨f, E1, c, e, q⟩ := h; ⟨f, E1, c, e, k _ _ _ q⟩
theorem RnV.mono {mv : MDd} {Q' : D → List C → Prop} (h : RnV mv E cs QV) (k : ∀ f c, QV f c → Q' f c) : RnV mv E cs Q' := let ⟨f, c, e, q⟩ := h; ⟨f, c, e, k _ _ q⟩
@[simp] theorem rn_mSeqK {QL : List D → List C → Prop} : Rn (mSeqK mk) cs QL ↔ Rn mk cs fun d c => Ev (gKeys d) fun z => QL z c := by unfold mSeqK; simp only [rn_bind, rn_only]
end
end TW
set_option Elab.async false
set_option linter.all false
set_option maxRecDepth 100000
namespace TW
open PySem PySem.Spec PyProof.Rows L2 LamX
def mK (d : D) : M D := fun cs => .ok (d, cs)
theorem _root_.L2.Takes.pin {X : Cx} {W : WX} {q : Addr × Obj} (tk : Takes X W) : Takes (withPin X q) W := fun u s' ⟨a, B, sI, pins, σ, H, cls, d, e, I, nb, up, sky, na, os, ag, w⟩ =>
  tk u s' ⟨a, B, sI, pins, σ, H, cls, d, e, pin_out (I.ok.toTry X.pn X.xe) I, nb, up, sky, na, os, ag, w⟩
section
variable {cs : List C} {Q : Fl → List C → Prop} {keep : List Nat} {k : Addr → Addr → MS} {j : Nat} {q : Str} {R : M D → M D} {Ls : List (Addr × Addr × M D)} {f c : Addr}
@[simp] theorem rn_mK {d : D} {QD : D → List C → Prop} : Rn (mK d) cs QD ↔ QD d cs := ⟨fun ⟨_, _, e, h⟩ => by cases e; exact h, fun h => ⟨d, cs, rfl, h⟩⟩
end
end TW
set_option Elab.async false
set_option linter.all false
set_option maxRecDepth 100000
namespace TW
open PySem PySem.Spec PyProof.Rows L2 LamX
end TW
set_option Elab.async false
set_option linter.all false
set_option maxRecDepth 100000
namespace Td
open PySem PySem.Spec PyProof.Rows L2 TW
end Td
set_option Elab.async false
set_option linter.all false
set_option maxRecDepth 100000
namespace TW
open PySem PySem.Spec PyProof.Rows L2
mutual
def noLst : D → Bool
  | .list _ => false
  | .dict _ => false
  | .tuple ds => noLsts ds
  | _ => true
def noLsts : List D → Bool
  | [] => true
  | d :: ds => noLst d && noLsts ds
end
structure MutR (is : List Nat) (L : Addr) (vs : List V) (K : PySem.W.Frag) (σ : L2.St) (H : Hp) (σ2 : L2.St) (H2 : Hp) : Prop where
  len : σ2.length = σ.length
  agree : ∀ k, k ∉ is → σ2[k]? = σ[k]?
  keep : ∀ b o, H b = some o → NT o → b ≠ L → V.ref b ∉ vs → H2 b = some o
  back : ∀ b, Fre H2 b → Fre H b
  tabs : LamX.Tabs (lamT K) H2
end TW
set_option Elab.async false
set_option linter.all false
set_option maxRecDepth 100000
namespace TW
open PySem PySem.Spec PyProof.Rows L2
def Mk (te : TE) : Prop := ∀ (σ : L2.St) (H : Hp) (Q : VK), (∀ v H', Same H H' → Q v H') → te σ H Q
section
variable {K : PySem.W.Frag} {i j n : Nat} {is : List Nat} {L p : Addr} {vs xs ys : List V} {σ0 σ σ1 : L2.St} {H0 H H1 : Hp} {v : V}
theorem MutR.refl (t : LamX.Tabs (lamT K) H) : MutR is L vs K σ H σ H := ⟨rfl, fun _ _ => rfl, fun _ _ h _ _ _ => h, fun _ h => h, t⟩
theorem MutR.upd (m : MutR is L vs K σ0 H0 σ H) (e : Same H H1) (hp : H1 p = some (.lst xs)) (hw : p = L ∨ V.ref p ∈ vs) : MutR is L vs K σ0 H0 σ (upd H1 p (.lst ys)) := by
  refine ⟨m.len, m.agree, fun b o h n h1 h2 => ?_, fun b h => m.back b fun o q => ?_, tabs_lst hp _ (tabs_keep e _ m.tabs)⟩
  · have : b ≠ p := fun z => by subst z; exact hw.elim h1 h2
    rw [upd_ne this]
    exact e _ _ (m.keep b o h n h1 h2)
  · by_cases z : b = p
    · subst z; exact h.not upd_same
    · exact h o (by rw [upd_ne z]; exact e _ _ q)
theorem MutR.slot (m : MutR is L vs K σ0 H0 σ H) (hj : j ∈ is) {x : Option V} : MutR is L vs K σ0 H0 (σ.set j x) H :=
  ⟨by rw [List.length_set]; exact m.len, fun k hk => by rw [List.getElem?_set_ne (show j ≠ k from fun z => by subst z; exact hk hj)]; exact m.agree k hk, m.keep, m.back, m.tabs⟩
end
end TW
namespace TW
open PySem PySem.Spec PyProof.Rows L2
end TW
set_option Elab.async false
set_option linter.all false
set_option maxRecDepth 100000
namespace TW
open PySem PySem.Spec PyProof.Rows L2
def strsD : List D → Option (List Str)
  | [] => some []
  | .str x :: ds => (strsD ds).map (x :: ·)
  | _ :: _ => none
theorem strsD_eq : ∀ {ds : List D} {ys : List Str}, strsD ds = some ys → ds = ys.map .str
  | [], _, h => by cases h; rfl
  | .str x :: ds, ys, h => by
    cases e : strsD ds with
    | none => rw [strsD, e] at h; cases h
    | some zs =>
      rw [strsD, e] at h
      cases h
      rw [strsD_eq e]; rfl
  | .none :: _, _, h => by simp [strsD] at h
  | .bool _ :: _, _, h => by simp [strsD] at h
  | .int _ :: _, _, h => by simp [strsD] at h
  | .list _ :: _, _, h => by simp [strsD] at h
  | .tuple _ :: _, _, h => by simp [strsD] at h
  | .dict _ :: _, _, h => by simp [strsD] at h
theorem strsD_map (ys : List Str) : strsD (ys.map .str) = some ys := by
  induction ys with
  | nil => rfl
  | cons y ys ih => rw [List.map_cons, strsD, ih]; rfl
theorem strs_rp {K : PySem.W.Frag} {G : Hp} : ∀ ys : List Str, RpAll K G (ys.map V.str) (ys.map .str)
  | [] => .nil
  | y :: ys => .cons (.str y) (strs_rp ys)
theorem rp_strs {K : PySem.W.Frag} {G : Hp} : ∀ {ys : List Str} {vs : List V}, RpAll K G vs (ys.map .str) → vs = ys.map V.str
  | [], _, .nil => rfl
  | y :: ys, _, .cons h t => by
    rw [rp_strs t]
    cases h
    rfl
def gJoin (a : Str) : D → R D
  | .list ds => match strsD ds with
    | some ys => if decide ((ys.map (·.length)).sum + ys.length * a.length ≤ 16777216) then .ok (.str (Txt.join a ys)) else .bad
    | none => .bad
  | _ => .bad
def mJoin (mo m : M D) : M D := M.bind mo fun d => match d with
  | .str a => M.bind m fun e => M.only (gJoin a e)
  | _ => fun _ => .bad
def gSplit (a : Str) : D → R (List D)
  | .str b => if !(b.length == 0) && szOk (a.length + 2) then .ok ((Txt.split a b).map .str) else .bad
  | _ => .bad
def mSplit (mo m : M D) : M (List D) := M.bind mo fun d => match d with
  | .str a => M.bind m fun e => M.only (gSplit a e)
  | _ => fun _ => .bad
def gStripC (a : Str) : D → R D
  | .str b => if szOk a.length then .ok (.str (Txt.stripChars a b)) else .bad
  | _ => .bad
def mStripC (mo m : M D) : M D := M.bind mo fun d => match d with
  | .str a => M.bind m fun e => M.only (gStripC a e)
  | _ => fun _ => .bad
def gIntS : D → R D
  | .str a => match PySem.intText? a with
    | some n => if decide (a.length ≤ 640) then .ok (.int n) else .bad
    | none => .bad
  | _ => .bad
def signsD (x : Str) : List D := x.cps.toList.map fun c => .str ⟨#[c]⟩
def gSigns : D → R (List D)
  | .str x => if szOk x.length then .ok (signsD x) else .bad
  | _ => .bad
def mSigns (m : M D) : M (List D) := M.bind m fun d => M.only (gSigns d)
section
variable {ct : Nat → Addr} {W : WX} {X : Cx} {o e a : Expr} {mo m ma : M D} {p pos apos : Pos} {x : Str}
theorem ve_join (ho : VE ct W X o mo) (he : VE ct W X e m) (hs : starEach [e] X.env = [(false, eval e X.env)] := by rfl) (hbase : attributeBase o "join" X.env (eval o X.env) = eval o X.env := by rfl) (hline : (apos.endLine == pos.line) = true := by rfl) :
    VE ct W X (.Call (.Attribute o "join" apos) [e] [] pos) (mJoin mo m) := PE.conv (pe_join ho he hs hbase hline) fun σ H Q h => tG.step h fun d δ1 v G1 H1 r1 p1 h1 => by
  cases d <;> first
    | exact h1.elim
    | skip
  rename_i a
  have p1 : Rp X.K G1 v (.str a) := p1
  cases Rp.ofStr p1
  refine ⟨⟨a, rfl⟩, δ1, G1, r1, TW.step r1 h1 fun f δ2 y G2 H2 _ x2 r2 p2 h2 => ?_⟩
  obtain ⟨z, ez, h3⟩ := Post.only h2
  cases f <;> first
    | cases ez
    | skip
  rename_i ds _
  have p2 : Rp X.K G2 y (.list ds) := p2
  unfold gJoin at ez
  simp only at ez
  · split at ez
    · split at ez
      · rename_i ys e1 hz
        cases ez
        rw [decide_eq_true_eq] at hz
        obtain ⟨b, xs, e2, k1, k2, k3⟩ := Rp.ofLst p2
        subst e2
        have := strsD_eq e1
        subst this
        exact ⟨a, b, ys, rfl, rfl, .inl (SqL.of (by rw [← rp_strs k3]; exact r2.same _ _ k1)), hz, Post.done h3 r2 (Grow.refl r2) (.str _)⟩
      · cases ez
    · cases ez
theorem vn_split (ho : VE ct W X o mo) (he : VE ct W X e m) (hs : starEach [e] X.env = [(false, eval e X.env)] := by rfl) (hbase : attributeBase o "split" X.env (eval o X.env) = eval o X.env := by rfl) (hline : (apos.endLine == pos.line) = true := by rfl) :
    VN ct W X (.Call (.Attribute o "split" apos) [e] [] pos) (mSplit mo m) := PE.conv (pe_split ho he hs hbase hline) fun σ H Q h => tG.step h fun d δ1 v G1 H1 r1 p1 h1 => by
  cases d <;> first
    | exact h1.elim
    | skip
  rename_i a
  have p1 : Rp X.K G1 v (.str a) := p1
  cases Rp.ofStr p1
  refine ⟨⟨a, rfl⟩, δ1, G1, r1, TW.step r1 h1 fun f δ2 y G2 H2 _ x2 r2 p2 h2 => ?_⟩
  obtain ⟨z, ez, h3⟩ := Post.only h2
  cases f <;> first
    | cases ez
    | skip
  rename_i b _
  have p2 : Rp X.K G2 y (.str b) := p2
  unfold gSplit at ez
  simp only at ez
  · split at ez
    · rename_i hz
      cases ez
      rw [Bool.and_eq_true, Bool.not_eq_true'] at hz
      cases Rp.ofStr p2
      have hl := szOk_le hz.2
      refine ⟨a, b, rfl, rfl, hz.1, hl, fun q hq => ?_⟩
      refine Post.done h3 r2 (Grow.alloc r2.same r2.nt hq) ⟨q, _, rfl, fre_none hq, upd_same, Same.free r2.same hq, ?_, ?_, strs_rp _⟩
      · rintro ⟨t, k, ds, z1, z2⟩
        obtain ⟨q', vs, b1, b2, _⟩ := r2.own k t ds z1
        rw [b1] at z2
        cases z2
        rw [hq] at b2
        cases b2
      · rw [List.length_map]
        exact Nat.le_trans (PyProof.Rows.split_le a b) hl
    · cases ez
theorem ve_intS (hg : Gl X "int") (hm : X.mg "int" = none) (ha : VV ct W X a ma) (hs : starEach [a] X.env = (false, eval a X.env) :: starEach [] X.env := by rfl) : VE ct W X (.Call (.Name "int" p) [a] [] pos) (mOp1 gIntS ma) :=
  ve_callTy call_int_str (fun δ σ G H x d z Q r hx hz q => by
    cases d <;> first
      | cases hz
      | skip
    rename_i a
    unfold gIntS at hz
    simp only at hz
    split at hz
    · split at hz
      · rename_i n e1 e2
        cases hz
        exact ⟨a, n, by rw [hx.str], e1, of_decide_eq_true e2, q _ G H (Grow.refl r) (.int _)⟩
      · cases hz
    · cases hz) hg hm (by decide +kernel) ha hs
theorem walks_s {K : PySem.W.Frag} {G : Hp} {x : Str} (z : x.length ≤ sizeLine) : Walks K G (Its x) (signsD x) := by
  have len : (signsD x).length = x.cps.size := by unfold signsD; rw [List.length_map, Array.length_toList]
  refine ⟨by rw [len]; exact z, fun i d G' H e s1 s2 n => ?_, fun i G' H e s1 s2 => by rw [len] at e; exact e⟩
  have hi : i < x.cps.size := by rw [← len]; exact (List.getElem?_eq_some_iff.mp e).1
  refine ⟨hi, fun v H' ⟨e1, c, e2, e3⟩ => ?_⟩
  subst e1 e3
  unfold signsD at e
  rw [List.getElem?_map, Array.getElem?_toList, e2] at e
  cases e
  exact ⟨G', grow_id s2 n, .str _⟩
theorem vi_str {tg : Expr} (h : VE ct W X e m) : VI ct W X tg e (mSigns m) := PI.conv (pi_str h) fun σ H R h => tG.step h fun d δ1 x G1 H1 r1 p1 h1 => by
  obtain ⟨z, ez, h3⟩ := Post.only h1
  unfold gSigns at ez
  split at ez
  · split at ez
    · rename_i y hz
      cases ez
      have p1 : Rp X.K G1 x (.str y) := p1
      exact ⟨y, Rp.ofStr p1, h3 _ _ _ Ext.refl r1 (walks_s (szOk_le hz))⟩
    · cases ez
  · cases ez
def GcS (mg : Str → Option Value) (x : Str) (z : Str) : Prop := ∃ t, mg x = some (.str z t)
theorem ve_gs {z : Str} (h : GcS X.mg x z) (hg : Gl X x) (hd : (x == ("__debug__" : Str)) = false := by decide) : VE ct W X (.Name x p) (mC (.str z)) := by
  obtain ⟨t, h⟩ := h
  exact ve_c (v := .str z) (pe_glob (v := .str z) hg h ⟨t, rfl⟩ hd) (.str z)
end
section
variable {mo m : M D} {cs : List C} {Q : D → List C → Prop} {QL : List D → List C → Prop}
def AsS (d : D) (Q : Str → Prop) : Prop := match d with
  | .str b => Q b
  | _ => False
@[simp] theorem asS_str {b : Str} {Q : Str → Prop} : AsS (.str b) Q ↔ Q b := Iff.rfl
@[simp] theorem rn_mJoin : Rn (mJoin mo m) cs Q ↔ Rn mo cs fun d c => AsS d fun a => Rn m c fun e c => Ev (gJoin a e) fun z => Q z c := by
  unfold mJoin
  rw [rn_bind]
  refine iff_of_eq (congrArg _ (funext fun d => funext fun c => propext ?_))
  cases d <;> simp [AsS]
@[simp] theorem rn_mSplit : Rn (mSplit mo m) cs QL ↔ Rn mo cs fun d c => AsS d fun a => Rn m c fun e c => Ev (gSplit a e) fun z => QL z c := by
  unfold mSplit
  rw [rn_bind]
  refine iff_of_eq (congrArg _ (funext fun d => funext fun c => propext ?_))
  cases d <;> simp [AsS]
@[simp] theorem rn_mStripC : Rn (mStripC mo m) cs Q ↔ Rn mo cs fun d c => AsS d fun a => Rn m c fun e c => Ev (gStripC a e) fun z => Q z c := by
  unfold mStripC
  rw [rn_bind]
  refine iff_of_eq (congrArg _ (funext fun d => funext fun c => propext ?_))
  cases d <;> simp [AsS]
@[simp] theorem rn_mSigns : Rn (mSigns m) cs QL ↔ Rn m cs fun d c => Ev (gSigns d) fun z => QL z c := by unfold mSigns; simp only [rn_bind, rn_only]
end
end TW
set_option Elab.async false
set_option linter.all false
set_option maxRecDepth 100000
namespace Td
open PySem PySem.Spec PyProof.Rows L2 TW
def b_shown : MS := (mRet (mJoin (mC (.str " ")) (mOp2 gAdd (mOfN (mLst (mCons (mOp2 gAdd (mOp1 gStr (mOp2 gIx (mVar 0) (mC (.int 0)))) (mC (.str ":"))) mNil))) (mOfN (mComp [1, 2] [1, 2] (fTup 2) (mSeq1 (mOp2 gIx (mVar 0) (mC (.int 1)))) mYes (mOp2 gAdd (mOp2 gAdd (mOp1 gStr (vVar 1)) (mC (.str "-"))) (mOp1 gStr (vVar 2))))))))
def F_shown : List D → R D := fnD 3 b_shown
def b_number_in : MS := (mSeq (mIfS (mOr (mNot (mTest (mChain oLe oLe (mC (.int 1)) (mOp1 gLen (vVar 0)) (mC (.int 2))))) (mNot (mTest (mOp1 gAll (mOfN (mComp [1] [1] fName (mSigns (mVar 0)) mYes (mOp2 (gInX false) (mVar 1) (mC (.str "0123456789"))))))))) (mRet (mC .none)) mNx) (mSeq (mIfS (mAnd (mTest (mOp2 gEq (mOp2 gIx (mVar 0) (mC (.int 0))) (mC (.str "0")))) (mTest (mOp2 oGt (mOp1 gLen (vVar 0)) (mC (.int 1))))) (mRet (mC .none)) mNx) (mRet (mOp1 gIntS (vVar 0)))))
def F_number_in : List D → R D := fnD 2 b_number_in
def b_told_number : MS := (mSeq (mSet 1 (mCall 1 F_number_in (mCons (mVar 0) mNil))) (mSeq (mIfS (mTest (mOp2 gIsN (mVar 1) (mC .none))) (mErr 10) mNx) (mRet (mVar 1))))
def F_told_number : List D → R D := fnD 2 b_told_number
end Td
set_option Elab.async false
set_option linter.all false
set_option maxRecDepth 100000
namespace TW
open PySem PySem.Spec PyProof.Rows L2
def mPop0 (i : Nat) : M D := fun cs => match cs[i]? with
  | some (.own t ds) => match ds[ds.length - 1]? with
    | some z => .ok (z, cs.set i (.own t ds.dropLast))
    | none => .bad
  | _ => .bad
@[simp] theorem rn_mPop0 {i : Nat} {cs : List C} {Q : D → List C → Prop} : Rn (mPop0 i) cs Q ↔ onOwn cs[i]? fun t ds => ∃ z, ds[ds.length - 1]? = some z ∧ Q z (cs.set i (.own t ds.dropLast)) := by
  unfold Rn mPop0 onOwn
  cases cs[i]? with
  | none => simp
  | some c =>
    cases c with
    | un => simp
    | dat d => simp
    | own t ds =>
      cases h : ds[ds.length - 1]? with
      | none => simp [h]
      | some z =>
        simp [h]
        exact ⟨fun ⟨a, c, ⟨e1, e2⟩, q⟩ => e1 ▸ e2 ▸ q, fun q => ⟨_, _, ⟨rfl, rfl⟩, q⟩⟩
end TW
set_option Elab.async false
set_option linter.all false
set_option maxRecDepth 100000
namespace Td
open PySem PySem.Spec PyProof.Rows L2 TW
end Td
set_option Elab.async false
set_option linter.all false
set_option maxRecDepth 100000
namespace TW
open PySem PySem.Spec PyProof.Rows L2
abbrev Store (ε : Type) := ε → List C → Hp → L2.St → Hp → Prop
structure Stb (K : PySem.W.Frag) {ε : Type} (S : Store ε) : Prop where
  keep : ∀ {E : ε} {δ δ' : List C} {G G' H H' : Hp} {σ σ' : L2.St}, S E δ G σ H → Rel K δ G σ H → Ext δ G H σ δ' G' H' σ' → Rel K δ' G' σ' H' → S E δ' G' σ' H'
abbrev MSg (ε : Type) := ε → List C → R (Fl × ε × List C)
section
variable {ε : Type} {S : Store ε} {K : PySem.W.Frag} {ct : Nat → Addr} {W : WX} {δ0 δ δ' : List C} {G0 G G' H0 H H' : Hp} {σ0 σ σ' : L2.St} {De : Ends} {E : ε}
def PostG (S : Store ε) (K : PySem.W.Frag) (r : R (Fl × ε × List C)) (Gc : Hp) (δ0 : List C) (G0 H0 : Hp) (σ0 : L2.St) (De : Ends) : Prop := match r with
  | .ok (.nx, E', δ') => ∀ σ' G' H', Same Gc G' → Ext δ0 G0 H0 σ0 δ' G' H' σ' → Rel K δ' G' σ' H' → S E' δ' G' σ' H' → De.nx σ' H'
  | .ok (.rt d, _, δ') => ∀ v σ' G' H', Ext δ0 G0 H0 σ0 δ' G' H' σ' → Rel K δ' G' σ' H' → Rp K G' v d → De.rt v H'
  | _ => False
def tSg (S : Store ε) (K : PySem.W.Frag) (δ0 : List C) (G0 H0 : Hp) (σ0 : L2.St) (m : MSg ε) : TS := fun De σ H => ∃ δ G E, Rel K δ G σ H ∧ Ext δ0 G0 H0 σ0 δ G H σ ∧ S E δ G σ H ∧ PostG S K (m E δ) G δ0 G0 H0 σ0 De
theorem PostG.at {r : R (Fl × ε × List C)} {Gc Gd : Hp} (sm : Same Gc Gd) (h : PostG S K r Gc δ0 G0 H0 σ0 De) : PostG S K r Gd δ0 G0 H0 σ0 De := by
  cases r with
  | bad => exact h
  | err n xs => exact h
  | ok p =>
    obtain ⟨f, E1, c⟩ := p
    cases f with
    | nx => exact fun σ' G' H' s2 => h σ' G' H' (sm.trans s2)
    | bk => exact h
    | ct => exact h
    | rt v => exact h
    | rn ds => exact h
def liftG (m : MS) : MSg ε := fun E cs => match m cs with
  | .ok (.nx, c) => .ok (.nx, E, c)
  | .ok (.rt d, c) => .ok (.rt d, E, c)
  | _ => .bad
theorem liftG_core (B : Stb K S) {m : MS} (h : tSg S K δ0 G0 H0 σ0 (liftG m) De σ H) : tS K ct W m De σ H := by
  obtain ⟨δ, G, E, r, x0, d, h⟩ := h
  refine ⟨δ, G, r, ?_⟩
  unfold liftG at h
  cases e : m δ with
  | bad => rw [e] at h; exact h.elim
  | err n xs => rw [e] at h; exact h.elim
  | ok p =>
    obtain ⟨f, c⟩ := p
    rw [e] at h
    cases f with
    | nx => exact fun σ' G' H' x r' => h σ' G' H' x.same (x0.trans x) r' (B.keep d r x r')
    | bk => exact h.elim
    | ct => exact h.elim
    | rt v => exact fun v σ' G' H' x r' q => h v σ' G' H' (x0.trans x) r' q
    | rn ds => exact h.elim
def mSeqG (m n : MSg ε) : MSg ε := fun E cs => match m E cs with
  | .ok (.nx, E1, c) => n E1 c
  | r => r
theorem seqG_core {m n : MSg ε} (h : tSg S K δ0 G0 H0 σ0 (mSeqG m n) De σ H) : tSg S K δ0 G0 H0 σ0 m { De with nx := tSg S K δ0 G0 H0 σ0 n De } σ H := by
  obtain ⟨δ, G, E, r, x0, d, h⟩ := h
  refine ⟨δ, G, E, r, x0, d, ?_⟩
  unfold mSeqG at h
  cases e : m E δ with
  | bad => rw [e] at h; exact h
  | err n xs => rw [e] at h; exact h
  | ok p =>
    obtain ⟨f, E1, c⟩ := p
    rw [e] at h
    cases f with
    | nx => exact fun σ' G' H' sm x r' d' => ⟨c, G', E1, r', x, d', h.at sm⟩
    | bk => exact h
    | ct => exact h
    | rt v => exact h
    | rn ds => exact h
def mIfG (mt : M Bool) (a b : MSg ε) : MSg ε := fun E cs => match mt cs with
  | .ok (k, c) => (if k then a else b) E c
  | _ => .bad
theorem ifG_core (B : Stb K S) {mt : M Bool} {a b : MSg ε} (h : tSg S K δ0 G0 H0 σ0 (mIfG mt a b) De σ H) : tG K ct W PB mt σ H fun k H' => if k then tSg S K δ0 G0 H0 σ0 a De σ H' else tSg S K δ0 G0 H0 σ0 b De σ H' := by
  obtain ⟨δ, G, E, r, x0, d, h⟩ := h
  refine ⟨δ, G, r, ?_⟩
  unfold mIfG at h
  cases e : mt δ with
  | bad => rw [e] at h; exact h.elim
  | err n xs => rw [e] at h; exact h.elim
  | ok p =>
    obtain ⟨k, c⟩ := p
    rw [e] at h
    intro v G' H' x r' q
    obtain rfl : v = k := q
    cases v with
    | true => exact ⟨c, G', E, r', x0.trans x, B.keep d r x r', h.at x.same⟩
    | false => exact ⟨c, G', E, r', x0.trans x, B.keep d r x r', h.at x.same⟩
end
section
variable {ε : Type} {S : Store ε} {ct : Nat → Addr} {W : WX} {X : Cx} {δ0 : List C} {G0 H0 : Hp} {σ0 : L2.St} {st : Stmt} {rest : List Stmt} {m n : MSg ε} {k : MS} {is : List Nat} {f : D → R (List D)} {mi : M (List D)} {mt : M Bool} {g : TG} {pos : Pos}
abbrev VSg (S : Store ε) (X : Cx) (δ0 : List C) (G0 H0 : Hp) (σ0 : L2.St) (st : Stmt) (m : MSg ε) : Prop := PS X st (tSg S X.K δ0 G0 H0 σ0 m)
abbrev VSsg (S : Store ε) (X : Cx) (δ0 : List C) (G0 H0 : Hp) (σ0 : L2.St) (st : List Stmt) (m : MSg ε) : Prop := PSs X st (tSg S X.K δ0 G0 H0 σ0 m)
theorem vssg_lift (B : Stb X.K S) {sts : List Stmt} (h : VSs ct W X sts k) : VSsg S X δ0 G0 H0 σ0 sts (liftG k) := PSs.conv h fun D σ H h => liftG_core B h
theorem vssg_cons (h1 : VSg S X δ0 G0 H0 σ0 st m) (h2 : VSsg S X δ0 G0 H0 σ0 rest n) : VSsg S X δ0 G0 H0 σ0 (st :: rest) (mSeqG m n) := PSs.conv (pss_cons h1 h2) fun D σ H h => seqG_core h
theorem vssg_one (h1 : VSg S X δ0 G0 H0 σ0 st m) : VSsg S X δ0 G0 H0 σ0 [st] m := pss_one h1
theorem vsg_if (B : Stb X.K S) {c : Expr} {sa sb : List Stmt} (hc : VT ct W X c mt) (ha : VSsg S X δ0 G0 H0 σ0 sa m) (hb : VSsg S X δ0 G0 H0 σ0 sb n) : VSg S X δ0 G0 H0 σ0 (.If c sa sb pos) (mIfG mt m n) := PS.conv (ps_if hc ha hb) fun D σ H h => ifG_core B h
end
end TW
set_option Elab.async false
set_option linter.all false
set_option maxRecDepth 100000
namespace TW
open PySem PySem.Spec PyProof.Rows L2
abbrev LE := List (Int × List D)
abbrev LT := List (Int × Addr × List V)
def kvT (T : LT) : List (Key × V) := T.map fun t => (.inl t.1, .ref t.2.1)
def TF (K : PySem.W.Frag) (a : Addr) (H0 : Hp) (T : LT) (E : LE) (δ : List C) (G : Hp) (σ : L2.St) (H : Hp) : Prop := H a = some (.dK (kvT T)) ∧ (T.map (·.1)).Nodup ∧ (T.map (·.2.1)).Nodup ∧ Paired (fun (t : Int × Addr × List V) (e : Int × List D) => t.1 = e.1 ∧ e.2.length ≤ sizeLine ∧ RpAll K G t.2.2 e.2) T E ∧
    ∀ t ∈ T, H t.2.1 = some (.lst t.2.2) ∧ G t.2.1 = none ∧ ¬ OwA δ σ t.2.1 ∧ Fre H0 t.2.1
section
variable {K : PySem.W.Frag} {ct : Nat → Addr} {W : WX} {a : Addr} {δ0 δ δ' : List C} {G0 G G' H0 H H' : Hp} {σ0 σ σ' : L2.St} {De : Ends} {E : LE} {T : LT}
theorem new_out {o : HO} {b : Addr} (x : Ext δ G H σ δ' G' H' σ') (sm : Same G' H') (h : H b = some o) (n : NT o) (nc : ∀ q, o ≠ LamX.CodeO b q) (no : ¬ OwA δ σ b) (out : G b = none) : G' b = none := by
  cases q : G' b with
  | none => rfl
  | some u =>
    rcases x.new b u q with z | z | z
    · rw [out] at z; cases z
    · rcases z with z | ⟨y, z⟩
      · exact (z _ h n).elim
      · have e1 := sm _ _ q
        rw [x.keep b _ h n no, z] at e1
        exact absurd (Option.some.inj e1) (nc y)
    · exact absurd ⟨false, z⟩ no
theorem pairT_mono {T : LT} {E : LE} (sm : Same G G') (h : Paired (fun (t : Int × Addr × List V) (e : Int × List D) => t.1 = e.1 ∧ e.2.length ≤ sizeLine ∧ RpAll K G t.2.2 e.2) T E) : Paired (fun (t : Int × Addr × List V) (e : Int × List D) => t.1 = e.1 ∧ e.2.length ≤ sizeLine ∧ RpAll K G' t.2.2 e.2) T E := by
  induction h with
  | nil => exact .nil
  | cons r t ih => exact .cons ⟨r.1, r.2.1, r.2.2.mono sm⟩ ih
theorem lst_code {xs : List V} {b : Addr} {q : Str} : (HO.lst xs) ≠ LamX.CodeO b q := fun e => code_not_lst e
theorem TF.keep (d : TF K a H0 T E δ G σ H) (r : Rel K δ G σ H) (x : Ext δ G H σ δ' G' H' σ') (r' : Rel K δ' G' σ' H') : TF K a H0 T E δ' G' σ' H' := by
  obtain ⟨h1, h2, h3, h4, h5⟩ := d
  have no := not_own r h1 (fun xs z => by cases z)
  refine ⟨x.keep a _ h1 nt_dK no, h2, h3, pairT_mono x.same h4, fun t ht => ?_⟩
  obtain ⟨k1, k2, k3, k4⟩ := h5 t ht
  refine ⟨x.keep _ _ k1 nt_lst k3, new_out x r'.same k1 nt_lst (fun _ => lst_code) k3 k2, fun z => ?_, k4⟩
  rcases x.owA z with z | z
  · exact k3 z
  · exact z.not k1
theorem tabs_lstR {xs : List V} {o : HO} (h : H a = some (.lst xs)) : ∀ T, LamX.Tabs T H → LamX.Tabs T (upd H a o) := fun T ht q hq => by
  obtain ⟨ps, h1, h2, h3⟩ := ht q hq
  have n : q.1 ≠ a := fun e => by rw [e, h] at h1; cases h1
  refine ⟨ps, by rw [upd_ne n]; exact h1, h2, fun pos cv hc => ?_⟩
  obtain ⟨c, e1, e2⟩ := h3 pos cv hc
  have n2 : c ≠ a := fun e => by rw [e, h] at e2; exact lst_code (Option.some.inj e2)
  exact ⟨c, e1, by rw [upd_ne n2]; exact e2⟩
end
end TW
set_option Elab.async false
set_option linter.all false
set_option maxRecDepth 100000
namespace TW
open PySem PySem.Spec PyProof.Rows L2
end TW
set_option Elab.async false
set_option linter.all false
set_option maxRecDepth 100000
namespace TW
open PySem PySem.Spec PyProof.Rows L2
section
variable {K : PySem.W.Frag} {ct : Nat → Addr} {W : WX} {a q : Addr} {δ0 δ δ' : List C} {G0 G G' H0 H H' : Hp} {σ0 σ σ' : L2.St} {De : Ends} {E : LE} {T : LT}
abbrev MSl := LE → List C → R (Fl × List C)
end
end TW
set_option Elab.async false
set_option linter.all false
set_option maxRecDepth 100000
namespace Td
open PySem PySem.Spec PyProof.Rows L2 TW
end Td
set_option Elab.async false
set_option linter.all false
set_option maxRecDepth 100000
namespace TW
open PySem PySem.Spec PyProof.Rows L2
def dskD (x : Addr) (w : D) (ps : List D) : D := .dict [(.bool false, .int x), (w, .list ps)]
theorem Rp.ofDsk {K : PySem.W.Frag} {G : Hp} {v : V} {x : Addr} {w : D} {ps : List D} (h : Rp K G v (dskD x w ps)) : ∃ dx p u vs, v = .ref x ∧ G x = some (.ins (deskC K) dx [("web", u), ("past", .ref p)]) ∧ G p = some (.lst vs) ∧ ps.length ≤ sizeLine ∧ Rp K G u w ∧ RpAll K G vs ps := by
  have key : ∀ {d : D}, Rp K G v d → d = dskD x w ps → ∃ dx p u vs, v = .ref x ∧ G x = some (.ins (deskC K) dx [("web", u), ("past", .ref p)]) ∧ G p = some (.lst vs) ∧ ps.length ≤ sizeLine ∧ Rp K G u w ∧ RpAll K G vs ps := by
    intro d h e
    unfold dskD at e
    cases h with
    | dsk h1 h2 h3 h4 h5 =>
      injection e with e
      injection e with e1 e2
      injection e1 with _ e1
      injection e1 with e1
      have := Int.ofNat.inj e1
      subst this
      injection e2 with e2 _
      injection e2 with e2 e3
      injection e3 with e3
      subst e2 e3
      exact ⟨_, _, _, _, rfl, h1, h2, h3, h4, h5⟩
    | _ => exfalso; simp at e
  exact key h rfl
def isDsk : D → Bool
  | .dict [(.bool false, .int y), (_, .list _)] => decide ((y.toNat : Int) = y)
  | _ => false
theorem isDsk_eq {d : D} (h : isDsk d = true) : ∃ x w ps, d = dskD x w ps := by
  unfold isDsk at h
  split at h
  · rename_i y w ps
    exact ⟨y.toNat, w, ps, by unfold dskD; rw [of_decide_eq_true h]⟩
  · cases h
def gWeb : D → R D
  | .dict [(.bool false, .int y), (w, .list _)] => if (y.toNat : Int) = y then .ok w else .bad
  | _ => .bad
def gPast : D → R D
  | .dict [(.bool false, .int y), (_, .list ps)] => if (y.toNat : Int) = y then .ok (.list ps) else .bad
  | _ => .bad
def mWeb (m : M D) : M D := M.bind m fun d => M.only (gWeb d)
def mPast (m : M D) : M D := M.bind m fun d => M.only (gPast d)
section
variable {ct : Nat → Addr} {W : WX} {X : Cx} {e : Expr} {m : M D} {pos : Pos}
theorem ve_web (hc : Cls X.K (deskC X.K)) (hn : NoAttr X.K (deskC X.K) "web") (he : VE ct W X e m) (hb : attributeBase e "web" X.env (eval e X.env) = eval e X.env := by rfl) : VE ct W X (.Attribute e "web" pos) (mWeb m) :=
  PE.conv (pe_fld he hb) fun σ H Q h => tG.step h fun d δ1 v G1 H1 r1 p1 h1 => by
    obtain ⟨z, ez, h3⟩ := Post.only h1
    unfold gWeb at ez
    split at ez
    · rename_i y w ps
      split at ez
      · rename_i hy
        cases ez
        have p1 : Rp X.K G1 v (dskD y.toNat z ps) := by unfold dskD; rw [hy]; exact p1
        obtain ⟨dx, p, u, vs, rfl, g1, g2, _, g4, _⟩ := Rp.ofDsk p1
        exact ⟨_, deskC X.K, dx, _, u, rfl, r1.same _ _ g1, hc, hn, rfl, h3 u G1 H1 Ext.refl r1 g4⟩
      · cases ez
    · cases ez
theorem ve_past (hc : Cls X.K (deskC X.K)) (hn : NoAttr X.K (deskC X.K) "past") (he : VE ct W X e m) (hb : attributeBase e "past" X.env (eval e X.env) = eval e X.env := by rfl) : VE ct W X (.Attribute e "past" pos) (mPast m) :=
  PE.conv (pe_fld he hb) fun σ H Q h => tG.step h fun d δ1 v G1 H1 r1 p1 h1 => by
    obtain ⟨z, ez, h3⟩ := Post.only h1
    unfold gPast at ez
    split at ez
    · rename_i y w ps
      split at ez
      · rename_i hy
        cases ez
        have p1 : Rp X.K G1 v (dskD y.toNat w ps) := by unfold dskD; rw [hy]; exact p1
        obtain ⟨dx, p, u, vs, rfl, g1, g2, g3, g4, g5⟩ := Rp.ofDsk p1
        exact ⟨_, deskC X.K, dx, _, .ref p, rfl, r1.same _ _ g1, hc, hn, rfl, h3 (.ref p) G1 H1 Ext.refl r1 (.lst g2 g3 g5)⟩
      · cases ez
    · cases ez
end
def mMeth (n : Nat) (F : List D → R D) (mo : M D) (ms : M (List D)) : M D := M.bind mo fun d => if isDsk d then M.bind ms fun ds => (if ds.length + 1 = n then M.lift (F (d :: ds)) else fun _ => .bad) else fun _ => .bad
structure CalM (P : Program) (w : World) (K : PySem.W.Frag) (mg : Str → Option Value) (base : Heap) (C : Addr) (m : Str) (ps : List Str) (k : Nat) (sp : Sp) : Prop where
  ex : ∃ f fd, FnOk P w K mg base (L2.CX P w) k f fd ps sp ∧ Meth K C m f ∧ Binds K fd ps []
section
variable {ct : Nat → Addr} {W : WX} {X : Cx} {o e : Expr} {es : List Expr} {mo : M D} {ms : M (List D)} {pos apos : Pos} {m : Str} {ps : List Str} {k j n : Nat} {Fd : List D → R D}
theorem meth_core {σ : L2.St} {H : Hp} {Q : VK} (hm : ("web" : Str) ≠ m ∧ ("past" : Str) ≠ m) (h : tG X.K ct W (PD X.K) (mMeth n Fd mo ms) σ H Q) : tMeth (deskC X.K) m (spD X.K ct n Fd) [] (anyW W) (tG X.K ct W (PD X.K) mo) (tG X.K ct W (PAs X.K) ms) σ H Q :=
  tG.step h fun d δ1 v G1 H1 r1 p1 h1 => by
    by_cases hd : isDsk d = true
    · rw [if_pos hd] at h1
      obtain ⟨x, w, qs, rfl⟩ := isDsk_eq hd
      have p1 : Rp X.K G1 v (dskD x w qs) := p1
      obtain ⟨dx, p, u, vs0, rfl, g1, _⟩ := Rp.ofDsk p1
      have lk : ([("web", u), ("past", .ref p)] : List (Str × V)).lookup m = none := by
        simp [List.lookup, beq_eq_false_iff_ne.mpr (Ne.symm hm.1), beq_eq_false_iff_ne.mpr (Ne.symm hm.2)]
      refine ⟨x, dx, _, rfl, r1.same _ _ g1, lk, δ1, G1, r1, TW.step r1 h1 fun ds δ2 vs G2 H2 e2 x2 r2 p2 h2 => ?_⟩
      have p2 : RpAll X.K G2 vs ds := p2
      by_cases hl : ds.length + 1 = n
      · simp only [hl, if_true] at h2
        rw [List.append_nil]
        refine ⟨dskD x w qs :: ds, G2, by simpa using hl, ⟨r2.same, r2.nt, r2.tabs⟩, .cons (p1.mono x2.same) p2, ?_⟩
        cases ef : Fd (dskD x w qs :: ds) with
        | ok d =>
          simp only [ef, M.lift] at h2
          exact fun v G' H' x fz rp => h2 v G' H' x.in (rel_in r2 x fz) rp
        | err c xs =>
          simp only [ef, M.lift] at h2
          exact fun cls dx H' x e σ' => h2 cls dx σ' H' x.in e
        | bad => simp only [ef, M.lift] at h2; exact h2.elim
      · simp only [hl, if_false] at h2
        exact h2.elim
    · rw [if_neg hd] at h1
      exact h1.elim
theorem ve_meth {pl : Sem Bool} (c : Cls X.K (deskC X.K)) (cm : CalM X.prog X.w X.K X.mg X.base (deskC X.K) m ps k (spD X.K ct n Fd)) (hr : Room j X.A) (hkj : k ≤ j) (tk : Takes X W) (ho : VE ct W X o mo) (ha : VA ct W X (e :: es) ms) (hm : ("web" : Str) ≠ m ∧ ("past" : Str) ≠ m)
    (hst : starEach (e :: es) X.env = (false, eval e X.env) :: starEach es X.env := by rfl) (hpl : (backTo pos (starEach es X.env)).any (·.1) = false := by rfl)
    (ht : eval (.Call (.Attribute o m apos) (e :: es) [] pos) X.env = (do
      let ov ← eval o X.env
      standAt apos.atName
      let (f, first) ← holding [ov] (getMethod ov m pl)
      callWith pos f first (backTo pos (starEach (e :: es) X.env)) (backToKw pos (keywordEach [] X.env))) := by rfl) :
    VE ct W X (.Call (.Attribute o m apos) (e :: es) [] pos) (mMeth n Fd mo ms) := by
  obtain ⟨f, fd, F, hmm, hb⟩ := cm.ex
  exact PE.conv (pe_meth (pl := pl) ho c hmm F (hr.mono hkj) hb .nil (passAny tk) ha hst hpl ht) fun _ _ _ h => meth_core hm h
end
@[simp] theorem gWeb_dsk {x : Addr} {w : D} {ps : List D} : gWeb (dskD x w ps) = .ok w := by simp [gWeb, dskD]
@[simp] theorem gPast_dsk {x : Addr} {w : D} {ps : List D} : gPast (dskD x w ps) = .ok (.list ps) := by simp [gPast, dskD]
@[simp] theorem isDsk_dsk {x : Addr} {w : D} {ps : List D} : isDsk (dskD x w ps) = true := by simp [isDsk, dskD]
end TW
set_option Elab.async false
set_option linter.all false
set_option maxRecDepth 100000
namespace TW
open PySem PySem.Spec PyProof.Rows L2
structure DkS (K : PySem.W.Frag) (x : Addr) (H0 : Hp) (E : D × List D) (δ : List C) (G : Hp) (σ : L2.St) (H : Hp) : Prop where
  ex : ∃ dx p u vs, H x = some (.ins (deskC K) dx [("web", u), ("past", .ref p)]) ∧ H p = some (.lst vs) ∧ Rp K G u E.1 ∧ RpAll K G vs E.2 ∧ E.2.length ≤ sizeLine ∧ G p = none ∧ ¬ OwA δ σ p ∧ Fre H0 p
  out : G x = none
  h0 : Fre H0 x
section
variable {K : PySem.W.Frag} {x : Addr} {δ δ' : List C} {G G' H0 H H' : Hp} {σ σ' : L2.St} {E : D × List D}
theorem nt_ins {C dx : Addr} {fs : List (Str × V)} : NT (.ins C dx fs) := fun _ e => nomatch e
theorem ins_code {C dx b : Addr} {fs : List (Str × V)} {q : Str} : (HO.ins C dx fs) ≠ LamX.CodeO b q := fun e => by unfold LamX.CodeO at e; cases e
theorem dks_stb : Stb K (DkS K x H0) := ⟨fun {E δ δ' G G' H H' σ σ'} d r e r' => by
  obtain ⟨dx, p, u, vs, h1, h2, h3, h4, h5, h6, h7, h8⟩ := d.ex
  have no := not_own r h1 (fun xs z => by cases z)
  refine ⟨⟨dx, p, u, vs, e.keep x _ h1 nt_ins no, e.keep p _ h2 nt_lst h7, h3.mono e.same, h4.mono e.same, h5, new_out e r'.same h2 nt_lst (fun _ => lst_code) h7 h6, fun z => ?_, h8⟩, new_out e r'.same h1 nt_ins (fun _ => ins_code) no d.out, d.h0⟩
  rcases e.owA z with z | z
  · exact h7 z
  · exact z.not h2⟩
def frzD (G : Hp) (x p : Addr) (o : HO) (vs : List V) : Hp := upd (upd G x o) p (.lst vs)
theorem DkS.frz (d : DkS K x H0 E δ G σ H) (r : Rel K δ G σ H) {i : Nat} (hi : δ[i]? = some (.dat (opq x))) : ∃ G1, Rel K (δ.set i (.dat (dskD x E.1 E.2))) G1 σ H ∧ Same G G1 ∧ ∀ b o, G1 b = some o → G b = some o ∨ Fre H0 b := by
  obtain ⟨dx, p, u, vs, h1, h2, h3, h4, h5, h6, h7, h8⟩ := d.ex
  obtain ⟨v, hs, hv⟩ := r.dat i _ hi
  have := Rp.ofOpq hv
  subst this
  have px : p ≠ x := fun z => by rw [z, h1] at h2; cases h2
  have s1 : Same G (upd G x (.ins (deskC K) dx [("web", u), ("past", .ref p)])) := same_upd d.out
  have s2 : Same (upd G x (.ins (deskC K) dx [("web", u), ("past", .ref p)])) (frzD G x p (.ins (deskC K) dx [("web", u), ("past", .ref p)]) vs) := same_upd (by rw [upd_ne px]; exact h6)
  have sm := s1.trans s2
  have cas : ∀ b o, frzD G x p (.ins (deskC K) dx [("web", u), ("past", .ref p)]) vs b = some o → (b = p ∧ o = .lst vs) ∨ (b = x ∧ o = .ins (deskC K) dx [("web", u), ("past", .ref p)]) ∨ G b = some o := fun b o h => by
    unfold frzD at h
    by_cases q : b = p
    · subst q; rw [upd_same] at h; exact .inl ⟨rfl, (Option.some.inj h).symm⟩
    · rw [upd_ne q] at h
      by_cases q2 : b = x
      · subst q2; rw [upd_same] at h; exact .inr (.inl ⟨rfl, (Option.some.inj h).symm⟩)
      · rw [upd_ne q2] at h; exact .inr (.inr h)
  have hself : σ.set i (some (.ref x)) = σ := by
    refine List.ext_getElem? fun j => ?_
    by_cases q : i = j
    · subst q
      rw [List.getElem?_set_self', hs]; rfl
    · rw [List.getElem?_set_ne q]
  have no := not_own r h1 (fun xs z => by cases z)
  have r1 : Rel K δ (frzD G x p (.ins (deskC K) dx [("web", u), ("past", .ref p)]) vs) σ H := by
    refine ⟨r.len, fun b o h => ?_, fun b o h => ?_, fun j d' h => ?_, fun j t ds h => ?_, r.inj, r.tabs⟩
    · rcases cas b o h with ⟨rfl, rfl⟩ | ⟨rfl, rfl⟩ | h
      · exact h2
      · exact h1
      · exact r.same _ _ h
    · rcases cas b o h with ⟨_, rfl⟩ | ⟨_, rfl⟩ | h
      · exact nt_lst
      · exact nt_ins
      · exact r.nt b o h
    · obtain ⟨v, a1, a2⟩ := r.dat j d' h
      exact ⟨v, a1, a2.mono sm⟩
    · obtain ⟨q, ws, a1, a2, a3, a4, a5⟩ := r.own j t ds h
      refine ⟨q, ws, a1, a2, ?_, a4, a5.mono sm⟩
      cases e : frzD G x p (.ins (deskC K) dx [("web", u), ("past", .ref p)]) vs q with
      | none => rfl
      | some o =>
        rcases cas q o e with ⟨e1, _⟩ | ⟨e1, _⟩ | e
        · exact absurd ⟨t, j, ds, h, by rw [a1, e1]⟩ h7
        · exact absurd ⟨t, j, ds, h, by rw [a1, e1]⟩ no
        · rw [a3] at e; cases e
  have rp : Rp K (frzD G x p (.ins (deskC K) dx [("web", u), ("past", .ref p)]) vs) (.ref x) (dskD x E.1 E.2) := by
    refine .dsk (dx := dx) (p := p) (v := u) (vs := vs) ?_ ?_ h5 (h3.mono sm) (h4.mono sm)
    · unfold frzD
      rw [upd_ne (Ne.symm px), upd_same]
    · unfold frzD
      rw [upd_same]
  refine ⟨_, ?_, sm, fun b o h => ?_⟩
  · have := r1.set (i := i) (v := .ref x) rp
    rwa [hself] at this
  · rcases cas b o h with ⟨rfl, _⟩ | ⟨rfl, _⟩ | h
    · exact .inr h8
    · exact .inr d.h0
    · exact .inl h
end
end TW
set_option Elab.async false
set_option linter.all false
set_option maxRecDepth 100000
namespace TW
open PySem PySem.Spec PyProof.Rows L2
def flV : D → Option V
  | .none => some .non
  | .bool b => some (.bl b)
  | .int i => some (.int i)
  | .str x => some (.str x)
  | _ => none
theorem flV_rp {K : PySem.W.Frag} {G : Hp} {v : V} {d : D} (h : flV d = some v) : Rp K G v d := by
  cases d with
  | none => cases h; exact .non
  | bool b => cases h; exact .bl b
  | int i => cases h; exact .int i
  | str x => cases h; exact .str x
  | list ds => cases h
  | tuple ds => cases h
  | dict es => cases h
theorem rp_flV {K : PySem.W.Frag} {G : Hp} {v : V} {d : D} (h : Rp K G v d) (f : (flV d).isSome = true) : flV d = some v := by
  cases d with
  | none => rw [h.ofNon]; rfl
  | bool b => rw [h.ofBl]; rfl
  | int i => rw [h.ofInt]; rfl
  | str x => rw [h.ofStr]; rfl
  | list ds => cases f
  | tuple ds => cases f
  | dict es => cases f
theorem EExt.ext {K : PySem.W.Frag} {δ : List C} {G H H' : Hp} {σ : L2.St} (e : EExt K [] [] H H') : Ext δ G H σ δ G H' σ :=
  ⟨fun b o h n _ => e.keep b o h n fun ⟨t, i, es, z, _⟩ => by simp at z, e.back, Same.refl _, fun _ _ h => .inl h, fun _ h => .inl h, fun _ h => h⟩
theorem EExt.rel {K : PySem.W.Frag} {δ : List C} {G H H' : Hp} {σ : L2.St} (e : EExt K [] [] H H') (r : Rel K δ G σ H) : Rel K δ G σ H' := by
  have k : ∀ b o, H b = some o → NT o → H' b = some o := fun b o h n => e.keep b o h n fun ⟨t, i, es, z, _⟩ => by simp at z
  refine ⟨r.len, fun b o h => k b o (r.same b o h) (r.nt b o h), r.nt, r.dat, fun i t ds h => ?_, r.inj, e.tabs⟩
  obtain ⟨p, vs, h1, h2, h3, h4, h5⟩ := r.own i t ds h
  exact ⟨p, vs, h1, k _ _ h2 nt_lst, h3, h4, h5⟩
abbrev FM := List D → R (D × Option (D × List D))
structure ExtM (K : PySem.W.Frag) (x p : Addr) (G H G' H' : Hp) : Prop where
  keep : ∀ b o, H b = some o → NT o → b ≠ x → b ≠ p → H' b = some o
  back : ∀ b, Fre H' b → Fre H b
  same : Same G G'
  sub : Same G' H'
  nt : ∀ b o, G' b = some o → NT o
  new : ∀ b o, G' b = some o → G b = some o ∨ NewAt H b o
  tabs : LamX.Tabs (lamT K) H'
  outx : G' x = none
  outp : G' p = none
def spM (K : PySem.W.Frag) (ct : Nat → Addr) (n : Nat) (F : FM) : Sp := fun vs H Q E => ∃ (x dx p : Addr) (u : V) (vs0 us : List V) (w : D) (qs ds : List D) (G : Hp), vs = .ref x :: us ∧ ds.length = n ∧ H x = some (.ins (deskC K) dx [("web", u), ("past", .ref p)]) ∧ H p = some (.lst vs0) ∧
  Fz K G H ∧ Rp K G u w ∧ RpAll K G vs0 qs ∧ qs.length ≤ sizeLine ∧ RpAll K G us ds ∧ match F (dskD x w qs :: ds) with
  | .ok (d, none) => ∀ v H', EExt K [] [] H H' → flV d = some v → Q v H'
  | .ok (d, some (w', qs')) => G x = none ∧ G p = none ∧ ∀ v u' vs' G' H', ExtM K x p G H G' H' → H' x = some (.ins (deskC K) dx [("web", u'), ("past", .ref p)]) → H' p = some (.lst vs') → Rp K G' u' w' → RpAll K G' vs' qs' → qs'.length ≤ sizeLine → flV d = some v → Q v H'
  | .err n xs => ErrOk K ct H n xs E
  | .bad => False
def mSayA (n : Nat) (F : FM) (mo : M D) (ms : M (List D)) : M D := M.bind mo fun d => if isDsk d then M.bind ms fun ds => (if ds.length = n then (fun cs => match F (d :: ds) with
  | .ok (a, none) => .ok (a, cs)
  | .err c xs => .err c xs
  | _ => .bad) else fun _ => .bad) else fun _ => .bad
def mSayS (i : Nat) (x : Addr) (n : Nat) (F : FM) (ms : M (List D)) : MSg (D × List D) := fun E cs => if isOpq x cs[i]? then (match ms cs with
  | .ok (ds, c1) => if ds.length = n then (match F (dskD x E.1 E.2 :: ds) with
    | .ok (_, none) => .ok (.nx, E, c1)
    | .ok (_, some E1) => .ok (.nx, E1, c1)
    | _ => .bad) else .bad
  | _ => .bad) else .bad
section
variable {K : PySem.W.Frag} {ct : Nat → Addr} {W : WX} {x p : Addr} {δ0 δ : List C} {G0 G G' H0 H H' : Hp} {σ0 σ : L2.St} {De : Ends}
theorem Rel.extM (r : Rel K δ G σ H) (e : ExtM K x p G H G' H') (nx : ¬ OwA δ σ x) (np : ¬ OwA δ σ p) : Rel K δ G' σ H' := by
  refine ⟨r.len, e.sub, e.nt, fun i d h => ?_, fun i t ds h => ?_, r.inj, e.tabs⟩
  · obtain ⟨v, a1, a2⟩ := r.dat i d h
    exact ⟨v, a1, a2.mono e.same⟩
  · obtain ⟨q, ws, a1, a2, a3, a4, a5⟩ := r.own i t ds h
    have qx : q ≠ x := fun z => nx ⟨t, i, ds, h, z ▸ a1⟩
    have qp : q ≠ p := fun z => np ⟨t, i, ds, h, z ▸ a1⟩
    have k := e.keep q _ a2 nt_lst qx qp
    refine ⟨q, ws, a1, k, ?_, a4, a5.mono e.same⟩
    cases z : G' q with
    | none => rfl
    | some o =>
      rcases e.new q o z with y | y
      · rw [a3] at y; cases y
      · exact y.not a2 (e.sub _ _ z) k
theorem Ext.extM (x0 : Ext δ0 G0 H0 σ0 δ G H σ) (e : ExtM K x p G H G' H') (hx : Fre H0 x) (hp : Fre H0 p) : Ext δ0 G0 H0 σ0 δ G' H' σ :=
  ⟨fun b o h n no => e.keep b o (x0.keep b o h n no) n (fun z => by subst z; exact hx _ h n) (fun z => by subst z; exact hp _ h n), fun b h => x0.back b (e.back b h), x0.same.trans e.same, fun b o h => by
    rcases e.new b o h with z | z
    · exact x0.new b o z
    · exact .inr (.inl (z.imp (fun y => x0.back b y) id)), x0.own, x0.par⟩
theorem say_core {i n : Nat} {F : FM} {ms : M (List D)} {m : Str} (hm : ("web" : Str) ≠ m ∧ ("past" : Str) ≠ m) (h : tSg (DkS K x H0) K δ0 G0 H0 σ0 (mSayS i x n F ms) De σ H) : tDrop (tMeth (deskC K) m (spM K ct n F) [] (anyW W) (tVar i) (tG K ct W (PAs K) ms)) De σ H := by
  obtain ⟨δ, G, E, r, x0, d, h⟩ := h
  unfold mSayS at h
  split at h
  case isFalse => exact h.elim
  rename_i ho
  obtain ⟨v', hs, hv⟩ := r.dat i _ (isOpq_eq ho)
  have := Rp.ofOpq hv
  subst this
  obtain ⟨dx, p, u, vs, h1, _⟩ := d.ex
  have lk : ([("web", u), ("past", .ref p)] : List (Str × V)).lookup m = none := by
    simp [List.lookup, beq_eq_false_iff_ne.mpr (Ne.symm hm.1), beq_eq_false_iff_ne.mpr (Ne.symm hm.2)]
  refine ⟨.ref x, hs, x, dx, _, rfl, h1, lk, δ, G, r, ?_⟩
  cases e1 : ms δ with
  | bad => rw [e1] at h; exact h.elim
  | err n xs => rw [e1] at h; exact h.elim
  | ok q =>
    obtain ⟨ds, c1⟩ := q
    rw [e1] at h
    simp only at h
    split at h
    case isFalse => exact h.elim
    rename_i hl
    intro us G1 H1 x1 r1 p1
    have d1 := dks_stb.keep d r x1 r1
    obtain ⟨dx1, p1', u1, vs1, k1, k2, k3, k4, k5, k6, k7, k8⟩ := d1.ex
    have p1 : RpAll K G1 us ds := p1
    refine ⟨x, dx1, p1', u1, vs1, us, E.1, E.2, ds, G1, by rw [List.append_nil], hl, k1, k2, ⟨r1.same, r1.nt, r1.tabs⟩, k3, k4, k5, p1, ?_⟩
    cases ef : F (dskD x E.1 E.2 :: ds) with
    | bad => rw [ef] at h; exact h.elim
    | err n xs => rw [ef] at h; exact h.elim
    | ok z =>
      obtain ⟨dv, z⟩ := z
      rw [ef] at h
      cases z with
      | none =>
        intro v H' em _
        have r2 := em.rel r1
        exact h σ G1 H' x1.same ((x0.trans x1).trans em.ext) r2 (dks_stb.keep d1 r1 em.ext r2)
      | some z =>
        obtain ⟨w', qs'⟩ := z
        refine ⟨d1.out, k6, ?_⟩
        intro v u' vs' G' H' em g1 g2 g3 g4 g5 _
        have nx := not_own r1 k1 (fun xs z => by cases z)
        have r2 := r1.extM em nx k7
        exact h σ G' H' (x1.same.trans em.same) ((x0.trans x1).extM em d1.h0 k8) r2 ⟨⟨dx1, p1', u', vs', g1, g2, g3, g4, g5, em.outp, k7, k8⟩, em.outx, d1.h0⟩
end
section
variable {ct : Nat → Addr} {W : WX} {X : Cx} {o e : Expr} {es : List Expr} {mo : M D} {ms : M (List D)} {pos apos : Pos} {m : Str} {ps : List Str} {k j n : Nat} {F : FM}
theorem sayA_core {σ : L2.St} {H : Hp} {Q : VK} (hm : ("web" : Str) ≠ m ∧ ("past" : Str) ≠ m) (h : tG X.K ct W (PD X.K) (mSayA n F mo ms) σ H Q) : tMeth (deskC X.K) m (spM X.K ct n F) [] (anyW W) (tG X.K ct W (PD X.K) mo) (tG X.K ct W (PAs X.K) ms) σ H Q :=
  tG.step h fun d δ1 v G1 H1 r1 p1 h1 => by
    by_cases hd : isDsk d = true
    · rw [if_pos hd] at h1
      obtain ⟨x, w, qs, rfl⟩ := isDsk_eq hd
      have p1 : Rp X.K G1 v (dskD x w qs) := p1
      obtain ⟨dx, p, u, vs0, rfl, g1, g2, g3, g4, g5⟩ := Rp.ofDsk p1
      have lk : ([("web", u), ("past", .ref p)] : List (Str × V)).lookup m = none := by
        simp [List.lookup, beq_eq_false_iff_ne.mpr (Ne.symm hm.1), beq_eq_false_iff_ne.mpr (Ne.symm hm.2)]
      refine ⟨x, dx, _, rfl, r1.same _ _ g1, lk, δ1, G1, r1, TW.step r1 h1 fun ds δ2 vs G2 H2 e2 x2 r2 p2 h2 => ?_⟩
      have p2 : RpAll X.K G2 vs ds := p2
      by_cases hl : ds.length = n
      · simp only [hl, if_true] at h2
        refine ⟨x, dx, p, u, vs0, vs, w, qs, ds, G2, by rw [List.append_nil], hl, r2.same _ _ (x2.same _ _ g1), r2.same _ _ (x2.same _ _ g2), ⟨r2.same, r2.nt, r2.tabs⟩, g4.mono x2.same, g5.mono x2.same, g3, p2, ?_⟩
        cases ef : F (dskD x w qs :: ds) with
        | ok z =>
          obtain ⟨a, z⟩ := z
          simp only [ef] at h2
          cases z with
          | none => exact fun v H' em fl => h2 v G2 H' em.ext (em.rel r2) (flV_rp fl)
          | some z => exact h2.elim
        | err c xs =>
          simp only [ef] at h2
          exact fun cls dx H' x e σ' => h2 cls dx σ' H' x.in e
        | bad => simp only [ef] at h2; exact h2.elim
      · simp only [hl, if_false] at h2
        exact h2.elim
    · rw [if_neg hd] at h1
      exact h1.elim
theorem ve_say {pl : Sem Bool} (c : Cls X.K (deskC X.K)) (cm : CalM X.prog X.w X.K X.mg X.base (deskC X.K) m ps k (spM X.K ct n F)) (hr : Room j X.A) (hkj : k ≤ j) (tk : Takes X W) (ho : VE ct W X o mo) (ha : VA ct W X (e :: es) ms) (hm : ("web" : Str) ≠ m ∧ ("past" : Str) ≠ m)
    (hst : starEach (e :: es) X.env = (false, eval e X.env) :: starEach es X.env := by rfl) (hpl : (backTo pos (starEach es X.env)).any (·.1) = false := by rfl)
    (ht : eval (.Call (.Attribute o m apos) (e :: es) [] pos) X.env = (do
      let ov ← eval o X.env
      standAt apos.atName
      let (f, first) ← holding [ov] (getMethod ov m pl)
      callWith pos f first (backTo pos (starEach (e :: es) X.env)) (backToKw pos (keywordEach [] X.env))) := by rfl) :
    VE ct W X (.Call (.Attribute o m apos) (e :: es) [] pos) (mSayA n F mo ms) := by
  obtain ⟨f, fd, Fo, hmm, hb⟩ := cm.ex
  exact PE.conv (pe_meth (pl := pl) ho c hmm Fo (hr.mono hkj) hb .nil (passAny tk) ha hst hpl ht) fun _ _ _ h => sayA_core hm h
end
end TW
set_option Elab.async false
set_option linter.all false
set_option maxRecDepth 100000
namespace TW
open PySem PySem.Spec PyProof.Rows L2
def fKeep : FM := fun ds => match ds with
  | [.dict [(.bool false, .int _), (w, .list qs)], d] => if qs.length < sizeLine then .ok (.str "ok", some (d, qs ++ [w])) else .bad
  | _ => .bad
theorem fKeep_at {x : Addr} {w d : D} {qs : List D} : fKeep [dskD x w qs, d] = if qs.length < sizeLine then .ok (.str "ok", some (d, qs ++ [w])) else .bad := rfl
section
variable {P : Program} {w : World} {K : PySem.W.Frag} {mg : Str → Option Value} {base : Heap} {ct : Nat → Addr} {st : Stmt} {f : Addr} {fd : FuncData} {k : Nat}
theorem tabs_ins {a C dx : Addr} {fs : List (Str × V)} {o : HO} {H : Hp} (h : H a = some (.ins C dx fs)) : ∀ T, LamX.Tabs T H → LamX.Tabs T (upd H a o) := fun T ht q hq => by
  obtain ⟨ps, h1, h2, h3⟩ := ht q hq
  have n : q.1 ≠ a := fun e => by rw [e, h] at h1; cases h1
  refine ⟨ps, by rw [upd_ne n]; exact h1, h2, fun pos cv hc => ?_⟩
  obtain ⟨c, e1, e2⟩ := h3 pos cv hc
  have n2 : c ≠ a := fun e => by rw [e, h] at e2; exact ins_code (Option.some.inj e2)
  exact ⟨c, e1, by rw [upd_ne n2]; exact e2⟩
theorem ok_keep {a1 a2 a3 a4 a5 a6 a7 b1 b2 b3 b4 c1 c2 : Pos} {j : Nat} (F : Fun K "keep" "Desk.keep" st f fd) (S : FnScope ["self", "web"] ["self", "web"] (defScope st))
    (hb : defBody st = [.Expr (.Call (.Attribute (.Attribute (.Name "self" a1) "past" a2) "append" a3) [.Attribute (.Name "self" a4) "web" a5] [] a6) a7, .Assign [.Attribute (.Name "self" b1) "web" b2] (.Name "web" b3) b4, .Return (some (.Constant (.str "ok") j c1)) c2])
    (hv : ∀ x ∈ (["self", "web"] : List Str), (defScope st).names.lookup x = some .local) (hln : (a3.endLine == a6.line) = true)
    (c : Cls K (deskC K)) (nw : NoAttr K (deskC K) "web") (np : NoAttr K (deskC K) "past") : FnOk P w K mg base (L2.CX P w) (k + 1) f fd ["self", "web"] (spM K ct 1 fKeep) := by
  refine F.okX S (fun vs H Q E ⟨x, dx, p, u, vs0, us, wD, qs, ds, G, e, hl, _, _, _, _, _, _, ha, _⟩ => by rw [e, List.length_cons, RpAll.length ha, hl]; rfl) fun cdv A outer s H vs Q E hr ⟨x, dx, p, u, vs0, us, wD, qs, ds, G, e, hl, h1, h2, ⟨h3, h4, h5⟩, h8, h9, h10, ha, hq⟩ => ?_
  subst e
  rw [hb]
  have vis : ∀ x ∈ (["self", "web"] : List Str), Vis (defScope st) x := fun x hx => .inl (hv x hx)
  refine ⟨_, pss_cons (ps_expr (pe_bm PySem.F.plainAttrs_list PySem.F.slot_list_append PySem.F.type_list_append mt_append (pe_fld (pe_var (i := 0) rfl (vis _ (by simp)) (by decide) (by decide)) rfl) (pa_cons (pe_fld (pe_var (i := 0) rfl (vis _ (by simp)) (by decide) (by decide)) rfl) pa_nil) rfl rfl hln) rfl)
    (pss_cons (ps_fld (pe_var (i := 0) rfl (vis _ (by simp)) (by decide) (by decide)) (pe_var (i := 1) rfl (vis _ (by simp)) (by decide) (by decide)) rfl) (pss_one (ps_ret pe_str))), ?_⟩
  match ds, hl, us, ha with
  | [d], _, [y], .cons ry _ =>
    rw [fKeep_at] at hq
    by_cases hz : qs.length < sizeLine
    rotate_left
    · rw [if_neg hz] at hq
      exact hq.elim
    rw [if_pos hz] at hq
    obtain ⟨h6, h7, hq⟩ := hq
    have px : p ≠ x := fun z => by rw [z, h1] at h2; cases h2
    have l1 : ([("web", u), ("past", .ref p)] : List (Str × V)).lookup ("past" : Str) = some (V.ref p) := rfl
    have pf : putF "web" y ([("web", u), ("past", .ref p)] : List (Str × V)) = ([("web", y), ("past", .ref p)] : List (Str × V)) := rfl
    refine ⟨.ref x, rfl, x, deskC K, dx, _, .ref p, rfl, h1, c, np, l1, .inl ⟨rfl, vs0, SqL.of h2⟩, ?_⟩
    refine ⟨.ref x, rfl, x, deskC K, dx, _, u, rfl, h1, c, nw, rfl, ?_⟩
    refine ⟨p, vs0, u, rfl, rfl, h2, by rw [RpAll.length h9]; exact hz, ?_⟩
    refine ⟨y, rfl, .ref x, rfl, x, deskC K, dx, _, rfl, by rw [upd_ne (Ne.symm px)]; exact h1, c, nw, by simp, ?_⟩
    rw [pf]
    have gx : ∀ b o, G b = some o → b ≠ x ∧ b ≠ p := fun b o e => ⟨(fun z => by rw [z, h6] at e; cases e), (fun z => by rw [z, h7] at e; cases e)⟩
    refine hq (.str "ok") y (vs0 ++ [u]) G _ ⟨fun b o e n q1 q2 => by rw [upd_ne q1, upd_ne q2]; exact e, fun b e => ?_, Same.refl _, fun b o e => by rw [upd_ne (gx b o e).1, upd_ne (gx b o e).2]; exact h3 _ _ e, h4, fun _ _ e => .inl e, ?_, h6, h7⟩ upd_same (by rw [upd_ne px, upd_same]) ry (h9.append (.cons h8 .nil)) (by rw [List.length_append, List.length_singleton]; omega) rfl
    · by_cases q1 : b = x
      · subst q1
        exact (e _ upd_same nt_ins).elim
      · by_cases q2 : b = p
        · subst q2
          exact (e (.lst (vs0 ++ [u])) (by rw [upd_ne px, upd_same]) nt_lst).elim
        · exact fun o z => e o (by rw [upd_ne q1, upd_ne q2]; exact z)
    · exact tabs_ins (C := deskC K) (dx := dx) (fs := [("web", u), ("past", .ref p)]) (by rw [upd_ne (Ne.symm px)]; exact h1) _ (tabs_lstR h2 _ h5)
end
end TW
set_option Elab.async false
set_option linter.all false
set_option maxRecDepth 100000
namespace TW
open PySem PySem.Spec PyProof.Rows L2
section
variable {ct : Nat → Addr} {W : WX} {X : Cx} {x : Addr} {δ0 : List C} {G0 H0 : Hp} {σ0 : L2.St} {o e : Expr} {es : List Expr} {ms : M (List D)} {pos apos spos : Pos} {m : Str} {ps : List Str} {i k j n : Nat} {F : FM}
theorem vsg_say {pl : Sem Bool} (c : Cls X.K (deskC X.K)) (cm : CalM X.prog X.w X.K X.mg X.base (deskC X.K) m ps k (spM X.K ct n F)) (hr : Room j X.A) (hkj : k ≤ j) (tk : Takes X W) (ho : PE X o (tVar i)) (ha : VA ct W X (e :: es) ms) (hm : ("web" : Str) ≠ m ∧ ("past" : Str) ≠ m)
    (hst : starEach (e :: es) X.env = (false, eval e X.env) :: starEach es X.env := by rfl) (hpl : (backTo pos (starEach es X.env)).any (·.1) = false := by rfl)
    (ht : eval (.Call (.Attribute o m apos) (e :: es) [] pos) X.env = (do
      let ov ← eval o X.env
      standAt apos.atName
      let (f, first) ← holding [ov] (getMethod ov m pl)
      callWith pos f first (backTo pos (starEach (e :: es) X.env)) (backToKw pos (keywordEach [] X.env))) := by rfl)
    (hsw : swapsWith (.Call (.Attribute o m apos) (e :: es) [] pos) none spos.line X.env = pure false := by rfl) :
    VSg (DkS X.K x H0) X δ0 G0 H0 σ0 (.Expr (.Call (.Attribute o m apos) (e :: es) [] pos) spos) (mSayS i x n F ms) := by
  obtain ⟨f, fd, Fo, hmm, hb⟩ := cm.ex
  exact PS.conv (ps_expr (pe_meth (pl := pl) ho c hmm Fo (hr.mono hkj) hb .nil (passAny tk) ha hst hpl ht) hsw) fun D σ H h => say_core hm h
end
end TW
set_option Elab.async false
set_option linter.all false
set_option maxRecDepth 100000
namespace TW
open PySem PySem.Spec PyProof.Rows L2
structure An where
  (x dx p : Addr) (u : V) (vs0 : List V) (w : D) (qs : List D) (δ0 : List C) (G0 H0 : Hp) (σ0 : L2.St)
def An.ob (A : An) (K : PySem.W.Frag) : HO := .ins (deskC K) A.dx [("web", A.u), ("past", .ref A.p)]
def An.G1 (A : An) (K : PySem.W.Frag) : Hp := frzD A.G0 A.x A.p (A.ob K) A.vs0
structure An.Ok (K : PySem.W.Frag) (A : An) : Prop where
  hx : A.H0 A.x = some (A.ob K)
  hp : A.H0 A.p = some (.lst A.vs0)
  fz : Fz K A.G0 A.H0
  ru : Rp K A.G0 A.u A.w
  rq : RpAll K A.G0 A.vs0 A.qs
  lq : A.qs.length ≤ sizeLine
  now : ∀ t b, ¬ Ow t A.δ0 A.σ0 b
abbrev FB := List C → R (Fl × Option (D × List D) × List C)
def PostM (K : PySem.W.Frag) (ct : Nat → Addr) (W : WX) (A : An) (r : R (Fl × Option (D × List D) × List C)) (Gc : Hp) (De : Ends) : Prop := match r with
  | .ok (.nx, none, δ') => ∀ σ' G' H', Same Gc G' → Ext A.δ0 (A.G1 K) A.H0 A.σ0 δ' G' H' σ' → Rel K δ' G' σ' H' → De.nx σ' H'
  | .ok (.rt d, none, _) => ∀ v H', EExt K [] [] A.H0 H' → flV d = some v → De.rt v H'
  | .ok (.rt d, some (w', qs'), _) => A.G0 A.x = none ∧ A.G0 A.p = none ∧ ∀ v u' vs' G' H', ExtM K A.x A.p A.G0 A.H0 G' H' → H' A.x = some (.ins (deskC K) A.dx [("web", u'), ("past", .ref A.p)]) → H' A.p = some (.lst vs') → Rp K G' u' w' → RpAll K G' vs' qs' → qs'.length ≤ sizeLine → flV d = some v → De.rt v H'
  | .err n xs => ∀ cls dx σ' H', EExt K [] [] A.H0 H' → ErrR ct n xs cls dx H' → W cls dx σ' H'
  | _ => False
def tSm (K : PySem.W.Frag) (ct : Nat → Addr) (W : WX) (A : An) (m : FB) : TS := fun De σ H => A.Ok K ∧ ∃ δ G, Rel K δ G σ H ∧ Ext A.δ0 (A.G1 K) A.H0 A.σ0 δ G H σ ∧ PostM K ct W A (m δ) G De
def cut2 (G : Hp) (x p : Addr) : Hp := fun b => if b = x ∨ b = p then none else G b
section
variable {K : PySem.W.Frag} {G : Hp} {x p : Addr}
theorem cut2_at {b : Addr} {o : HO} (h : cut2 G x p b = some o) : G b = some o ∧ b ≠ x ∧ b ≠ p := by
  unfold cut2 at h
  split at h
  · cases h
  · rename_i n
    exact ⟨h, fun e => n (.inl e), fun e => n (.inr e)⟩
theorem cut2_of {b : Addr} (h1 : b ≠ x) (h2 : b ≠ p) : cut2 G x p b = G b := by
  unfold cut2
  rw [if_neg (fun e => e.elim h1 h2)]
mutual
theorem Rp.cut2 {C dx : Addr} {fs : List (Str × V)} {vs0 : List V} (gx : G x = some (.ins C dx fs)) (gp : G p = some (.lst vs0)) : ∀ {v : V} {d : D}, noLst d = true → Rp K G v d → Rp K (cut2 G x p) v d
  | _, _, _, .non => .non
  | _, _, _, .bl b => .bl b
  | _, _, _, .int i => .int i
  | _, _, _, .str x => .str x
  | _, .tuple ds, n, .tup (a := a) h z r => .tup (let ⟨o, q, e⟩ := h; ⟨o, by rw [cut2_of (fun e => by rw [e, gx] at q; cases q) (fun e => by rw [e, gp] at q; cases q)]; exact q, e⟩) z (RpAll.cut2 gx gp (by simpa [noLst] using n) r)
  | _, .list ds, n, _ => by simp [noLst] at n
  | _, .dict ds, n, _ => by simp [noLst] at n
theorem RpAll.cut2 {C dx : Addr} {fs : List (Str × V)} {vs0 : List V} (gx : G x = some (.ins C dx fs)) (gp : G p = some (.lst vs0)) : ∀ {vs : List V} {ds : List D}, noLsts ds = true → RpAll K G vs ds → RpAll K (cut2 G x p) vs ds
  | _, _, _, .nil => .nil
  | _, d :: ds, n, .cons h t => by
    simp only [noLsts, Bool.and_eq_true] at n
    exact .cons (Rp.cut2 gx gp n.1 h) (RpAll.cut2 gx gp n.2 t)
end
theorem ExtM.trans {G0 H0 G1 H1 G2 H2 : Hp} (a : ExtM K x p G0 H0 G1 H1) (b : ExtM K x p G1 H1 G2 H2) : ExtM K x p G0 H0 G2 H2 :=
  ⟨fun c o h n q1 q2 => b.keep c o (a.keep c o h n q1 q2) n q1 q2, fun c h => a.back c (b.back c h), a.same.trans b.same, b.sub, b.nt, fun c o h => by
    rcases b.new c o h with z | z
    · exact a.new c o z
    · exact .inr (z.imp (a.back c) id), b.tabs, b.outx, b.outp⟩
end
section
variable {K : PySem.W.Frag} {ct : Nat → Addr} {W : WX} {A : An} {G H : Hp} {δ : List C} {σ : L2.St} {De : Ends}
theorem An.Ok.ne (k : A.Ok K) : A.p ≠ A.x := fun z => by have h1 := k.hx; have h2 := k.hp; rw [z] at h2; rw [h1] at h2; unfold An.ob at h2; cases h2
theorem An.Ok.g1x (k : A.Ok K) : A.G1 K A.x = some (A.ob K) := by unfold An.G1 frzD; rw [upd_ne (Ne.symm k.ne), upd_same]
theorem An.Ok.g1p (k : A.Ok K) : A.G1 K A.p = some (.lst A.vs0) := by unfold An.G1 frzD; rw [upd_same]
theorem An.g1o {b : Addr} (h1 : b ≠ A.x) (h2 : b ≠ A.p) : A.G1 K b = A.G0 b := by unfold An.G1 frzD; rw [upd_ne h2, upd_ne h1]
theorem An.Ok.extM (k : A.Ok K) (g : A.G0 A.x = none ∧ A.G0 A.p = none) (r : Rel K δ G σ H) (x0 : Ext A.δ0 (A.G1 K) A.H0 A.σ0 δ G H σ) : ExtM K A.x A.p A.G0 A.H0 (TW.cut2 G A.x A.p) H where
  keep b o h n _ _ := x0.keep b o h n fun ⟨t, z⟩ => k.now t b z
  back := x0.back
  same b o h := by
    have n1 : b ≠ A.x := fun e => by rw [e, g.1] at h; cases h
    have n2 : b ≠ A.p := fun e => by rw [e, g.2] at h; cases h
    rw [cut2_of n1 n2]
    exact x0.same b o (by rw [An.g1o n1 n2]; exact h)
  sub b o h := r.same b o (cut2_at h).1
  nt b o h := r.nt b o (cut2_at h).1
  new b o h := by
    obtain ⟨h1, n1, n2⟩ := cut2_at h
    rcases x0.new b o h1 with z | z | z
    · rw [An.g1o n1 n2] at z; exact .inl z
    · exact .inr z
    · exact absurd z (k.now false b)
  tabs := r.tabs
  outx := by unfold TW.cut2; rw [if_pos (.inl rfl)]
  outp := by unfold TW.cut2; rw [if_pos (.inr rfl)]
theorem An.Ok.eext (k : A.Ok K) {H' : Hp} (x0 : Ext A.δ0 (A.G1 K) A.H0 A.σ0 δ G H σ) (e : EExt K δ σ H H') : EExt K [] [] A.H0 H' := eext_out k.now (EExt.after x0 e)
theorem PostM.at {r : R (Fl × Option (D × List D) × List C)} {Gc Gd : Hp} (sm : Same Gc Gd) (h : PostM K ct W A r Gc De) : PostM K ct W A r Gd De := by
  cases r with
  | bad => exact h
  | err n xs => exact h
  | ok q =>
    obtain ⟨f, z, c⟩ := q
    cases f <;> cases z <;> first
      | exact h
      | skip
    exact fun σ' G' H' s2 => h σ' G' H' (sm.trans s2)
def liftM (m : MS) : FB := fun cs => match m cs with
  | .ok (.nx, c) => .ok (.nx, none, c)
  | .ok (.rt d, c) => if (flV d).isSome then .ok (.rt d, none, c) else .bad
  | .err n xs => .err n xs
  | _ => .bad
theorem liftM_core {m : MS} (h : tSm K ct W A (liftM m) De σ H) : tS K ct W m De σ H := by
  obtain ⟨k, δ, G, r, x0, h⟩ := h
  refine ⟨δ, G, r, ?_⟩
  unfold liftM at h
  cases e : m δ with
  | bad => rw [e] at h; exact h.elim
  | err n xs =>
    rw [e] at h
    exact fun cls dx σ' H' x er => h cls dx σ' H' (k.eext x0 x) er
  | ok q =>
    obtain ⟨f, c⟩ := q
    rw [e] at h
    cases f with
    | nx => exact fun σ' G' H' x r' => h σ' G' H' x.same (x0.trans x) r'
    | bk => exact h.elim
    | ct => exact h.elim
    | rn ds => exact h.elim
    | rt d =>
      simp only at h
      split at h
      · rename_i hf
        exact fun v σ' G' H' x r' q => h v H' (eext_out k.now ((x0.trans x).eext r'.tabs)) (rp_flV q hf)
      · exact h.elim
def mSeqM (m n : FB) : FB := fun cs => match m cs with
  | .ok (.nx, none, c) => n c
  | r => r
theorem seqM_core {m n : FB} (h : tSm K ct W A (mSeqM m n) De σ H) : tSm K ct W A m { De with nx := tSm K ct W A n De } σ H := by
  obtain ⟨k, δ, G, r, x0, h⟩ := h
  refine ⟨k, δ, G, r, x0, ?_⟩
  unfold mSeqM at h
  cases e : m δ with
  | bad => rw [e] at h; exact h
  | err n xs => rw [e] at h; exact h
  | ok q =>
    obtain ⟨f, z, c⟩ := q
    rw [e] at h
    cases f with
    | nx =>
      cases z with
      | none => exact fun σ' G' H' sm x r' => ⟨k, c, G', r', x, PostM.at sm h⟩
      | some z => exact h
    | bk => exact h
    | ct => exact h
    | rn ds => exact h
    | rt d => cases z <;> exact h
def mIfM (t : M Bool) (a b : FB) : FB := fun cs => match t cs with
  | .ok (k, c) => (if k then a else b) c
  | .err n xs => .err n xs
  | .bad => .bad
theorem ifM_core {t : M Bool} {a b : FB} (h : tSm K ct W A (mIfM t a b) De σ H) : tG K ct W PB t σ H fun k H' => if k then tSm K ct W A a De σ H' else tSm K ct W A b De σ H' := by
  obtain ⟨k, δ, G, r, x0, h⟩ := h
  refine ⟨δ, G, r, ?_⟩
  unfold mIfM at h
  cases e : t δ with
  | bad => rw [e] at h; exact h.elim
  | err n xs =>
    rw [e] at h
    exact fun cls dx σ' H' x er => h cls dx σ' H' (k.eext x0 x) er
  | ok q =>
    obtain ⟨f, c⟩ := q
    rw [e] at h
    intro v G' H' x r' q
    obtain rfl : v = f := q
    cases v with
    | true => exact ⟨k, c, G', r', x0.trans x, h.at x.same⟩
    | false => exact ⟨k, c, G', r', x0.trans x, h.at x.same⟩
def deskIn (x : Addr) (c : Option C) : Option (D × List D) := match c with
  | some (.dat (.dict [(.bool false, .int y), (w, .list qs)])) => if y = (x : Int) then some (w, qs) else none
  | _ => none
theorem deskIn_at {x : Addr} {c : Option C} {w : D} {qs : List D} (h : deskIn x c = some (w, qs)) : c = some (.dat (dskD x w qs)) := by
  unfold deskIn at h
  split at h
  · split at h
    · rename_i e
      cases h
      rw [e]; rfl
    · cases h
  · cases h
@[simp] theorem deskIn_dsk {x : Addr} {w : D} {qs : List D} : deskIn x (some (.dat (dskD x w qs))) = some (w, qs) := by simp [deskIn, dskD]
def mRetM (x : Addr) (n : Nat) (F : FM) (ms : M (List D)) : FB := fun cs => match deskIn x cs[0]? with
  | some (w, qs) => match ms cs with
    | .ok (ds, c) => if ds.length = n then match F (dskD x w qs :: ds) with
      | .ok (a, none) => .ok (.rt a, none, c)
      | .ok (a, some z) => if noLst w && noLsts qs && noLsts ds then .ok (.rt a, some z, c) else .bad
      | .err k xs => .err k xs
      | .bad => .bad
      else .bad
    | .err k xs => .err k xs
    | .bad => .bad
  | none => .bad
theorem retM_core {n : Nat} {F : FM} {ms : M (List D)} {m : Str} (hm : ("web" : Str) ≠ m ∧ ("past" : Str) ≠ m) (h : tSm K ct W A (mRetM A.x n F ms) De σ H) : tMeth (deskC K) m (spM K ct n F) [] (anyW W) (tVar 0) (tG K ct W (PAs K) ms) σ H De.rt := by
  obtain ⟨k, δ, G, r, x0, h⟩ := h
  unfold mRetM at h
  cases e0 : deskIn A.x δ[0]? with
  | none => rw [e0] at h; exact h.elim
  | some z =>
    obtain ⟨w, qs⟩ := z
    rw [e0] at h
    obtain ⟨v, hs, hv⟩ := r.dat 0 _ (deskIn_at e0)
    obtain ⟨dx, p, u, vs0, rfl, g1, g2, g3, g4, g5⟩ := Rp.ofDsk hv
    have gx := x0.same _ _ k.g1x
    rw [g1] at gx
    unfold An.ob at gx
    injection gx with gx
    injection gx with _ e1 e2
    injection e2 with e2 e3
    injection e2 with _ e2
    injection e3 with e3 _
    injection e3 with _ e3
    injection e3 with e3
    subst e1 e2 e3
    have lk : ([("web", A.u), ("past", .ref A.p)] : List (Str × V)).lookup m = none := by
      simp [List.lookup, beq_eq_false_iff_ne.mpr (Ne.symm hm.1), beq_eq_false_iff_ne.mpr (Ne.symm hm.2)]
    refine ⟨.ref A.x, hs, A.x, A.dx, _, rfl, r.same _ _ g1, lk, δ, G, r, ?_⟩
    cases e1 : ms δ with
    | bad => simp only [e1] at h; exact h.elim
    | err n xs =>
      simp only [e1] at h
      exact fun cls dx σ' H' x er => h cls dx σ' H' (k.eext x0 x) er
    | ok q =>
      obtain ⟨ds, c⟩ := q
      simp only [e1] at h
      split at h
      case isFalse => exact h.elim
      rename_i hl
      intro us G1 H1 x1 r1 p1
      have p1 : RpAll K G1 us ds := p1
      have x01 := x0.trans x1
      have a1 := x1.same _ _ g1
      have a2 := x1.same _ _ g2
      cases ef : F (dskD A.x w qs :: ds) with
      | bad => rw [ef] at h; exact h.elim
      | err n xs =>
        rw [ef] at h
        refine ⟨A.x, A.dx, A.p, A.u, vs0, us, w, qs, ds, G1, by rw [List.append_nil], hl, r1.same _ _ a1, r1.same _ _ a2, ⟨r1.same, r1.nt, r1.tabs⟩, g4.mono x1.same, g5.mono x1.same, g3, p1, ?_⟩
        rw [ef]
        exact fun cls dx' H' e er σ' => h cls dx' σ' H' (k.eext x01 e.in) er
      | ok z =>
        obtain ⟨a, z⟩ := z
        rw [ef] at h
        cases z with
        | none =>
          refine ⟨A.x, A.dx, A.p, A.u, vs0, us, w, qs, ds, G1, by rw [List.append_nil], hl, r1.same _ _ a1, r1.same _ _ a2, ⟨r1.same, r1.nt, r1.tabs⟩, g4.mono x1.same, g5.mono x1.same, g3, p1, ?_⟩
          rw [ef]
          exact fun v H' e fl => h v H' (k.eext x01 e.in) fl
        | some z =>
          obtain ⟨w', qs'⟩ := z
          simp only at h
          split at h
          case isFalse => exact h.elim
          rename_i hn
          rw [Bool.and_eq_true, Bool.and_eq_true] at hn
          obtain ⟨q1, q2, h⟩ := h
          have em := k.extM ⟨q1, q2⟩ r1 x01
          refine ⟨A.x, A.dx, A.p, A.u, vs0, us, w, qs, ds, TW.cut2 G1 A.x A.p, by rw [List.append_nil], hl, r1.same _ _ a1, r1.same _ _ a2, ⟨em.sub, em.nt, em.tabs⟩, (g4.mono x1.same).cut2 a1 a2 hn.1.1, (g5.mono x1.same).cut2 a1 a2 hn.1.2, g3, p1.cut2 a1 a2 hn.2, ?_⟩
          rw [ef]
          exact ⟨em.outx, em.outp, fun v u' vs' G' H' e' f1 f2 f3 f4 f5 fl => h v u' vs' G' H' (em.trans e') f1 f2 f3 f4 f5 fl⟩
end
section
variable {ct : Nat → Addr} {W : WX} {X : Cx} {A : An} {st : Stmt} {rest sts : List Stmt} {m n : FB} {k : MS} {mt : M Bool} {pos : Pos}
abbrev VSm (ct : Nat → Addr) (W : WX) (X : Cx) (A : An) (st : Stmt) (m : FB) : Prop := PS X st (tSm X.K ct W A m)
abbrev VSsm (ct : Nat → Addr) (W : WX) (X : Cx) (A : An) (st : List Stmt) (m : FB) : Prop := PSs X st (tSm X.K ct W A m)
theorem vsm_lift (h : VS ct W X st k) : VSm ct W X A st (liftM k) := PS.conv h fun D σ H h => liftM_core h
theorem vssm_lift (h : VSs ct W X sts k) : VSsm ct W X A sts (liftM k) := PSs.conv h fun D σ H h => liftM_core h
theorem vssm_cons (h1 : VSm ct W X A st m) (h2 : VSsm ct W X A rest n) : VSsm ct W X A (st :: rest) (mSeqM m n) := PSs.conv (pss_cons h1 h2) fun D σ H h => seqM_core h
theorem vssm_one (h1 : VSm ct W X A st m) : VSsm ct W X A [st] m := pss_one h1
theorem vsm_if {c : Expr} {sa sb : List Stmt} (hc : VT ct W X c mt) (ha : VSsm ct W X A sa m) (hb : VSsm ct W X A sb n) : VSm ct W X A (.If c sa sb pos) (mIfM mt m n) := PS.conv (ps_if hc ha hb) fun D σ H h => ifM_core h
theorem vsm_ret {o e : Expr} {es : List Expr} {ms : M (List D)} {apos spos : Pos} {m : Str} {ps : List Str} {k j n : Nat} {F : FM} {pl : Sem Bool} (c : Cls X.K (deskC X.K)) (cm : CalM X.prog X.w X.K X.mg X.base (deskC X.K) m ps k (spM X.K ct n F)) (hr : Room j X.A) (hkj : k ≤ j) (tk : Takes X W) (ho : PE X o (tVar 0)) (ha : VA ct W X (e :: es) ms) (hm : ("web" : Str) ≠ m ∧ ("past" : Str) ≠ m)
    (hst : starEach (e :: es) X.env = (false, eval e X.env) :: starEach es X.env := by rfl) (hpl : (backTo pos (starEach es X.env)).any (·.1) = false := by rfl)
    (ht : eval (.Call (.Attribute o m apos) (e :: es) [] pos) X.env = (do
      let ov ← eval o X.env
      standAt apos.atName
      let (f, first) ← holding [ov] (getMethod ov m pl)
      callWith pos f first (backTo pos (starEach (e :: es) X.env)) (backToKw pos (keywordEach [] X.env))) := by rfl) :
    VSm ct W X A (.Return (some (.Call (.Attribute o m apos) (e :: es) [] pos)) spos) (mRetM A.x n F ms) := by
  obtain ⟨f, fd, Fo, hmm, hb⟩ := cm.ex
  exact PS.conv (ps_ret (pe_meth (pl := pl) ho c hmm Fo (hr.mono hkj) hb .nil (passAny tk) ha hst hpl ht)) fun D σ H h => retM_core hm h
end
end TW
set_option Elab.async false
set_option linter.all false
set_option maxRecDepth 100000
namespace TW
open PySem PySem.Spec PyProof.Rows L2
section
variable {K : PySem.W.Frag} {G H : Hp} {x p dx : Addr}
theorem extM_put {C : Addr} {fs gs : List (Str × V)} {vs ws : List V} (h1 : H x = some (.ins C dx fs)) (h2 : H p = some (.lst vs)) (fz : Fz K G H) (gx : G x = none) (gp : G p = none) : ExtM K x p G H G (upd (upd H p (.lst ws)) x (.ins C dx gs)) := by
  have px : p ≠ x := fun z => by rw [z, h1] at h2; cases h2
  have gn : ∀ b o, G b = some o → b ≠ x ∧ b ≠ p := fun b o e => ⟨(fun z => by rw [z, gx] at e; cases e), (fun z => by rw [z, gp] at e; cases e)⟩
  refine ⟨fun b o e n q1 q2 => by rw [upd_ne q1, upd_ne q2]; exact e, fun b e => ?_, Same.refl _, fun b o e => by rw [upd_ne (gn b o e).1, upd_ne (gn b o e).2]; exact fz.same _ _ e, fz.nt, fun _ _ e => .inl e, ?_, gx, gp⟩
  · by_cases q1 : b = x
    · subst q1
      exact (e _ upd_same nt_ins).elim
    · by_cases q2 : b = p
      · subst q2
        exact (e (.lst ws) (by rw [upd_ne px, upd_same]) nt_lst).elim
      · exact fun o z => e o (by rw [upd_ne q1, upd_ne q2]; exact z)
  · exact tabs_ins (C := C) (dx := dx) (fs := fs) (by rw [upd_ne (Ne.symm px)]; exact h1) _ (tabs_lstR h2 _ fz.tabs)
end
def mPopM (x : Addr) : FB := fun cs => match deskIn x cs[0]? with
  | some (_, qs) => match qs[qs.length - 1]? with
    | some z => if noLsts qs then .ok (.rt (.str "ok"), some (z, qs.dropLast), cs) else .bad
    | none => .bad
  | none => .bad
section
variable {ct : Nat → Addr} {W : WX} {X : Cx} {A : An} {o1 o2 : Expr} {a2 a3 a4 b2 b4 c1 c2 : Pos} {j : Nat}
theorem popM_ext {K : PySem.W.Frag} {x p dx : Addr} {G H : Hp} {vs : List V} {ds : List D} (r : RpAll K G vs ds) : RpAll K G vs.dropLast ds.dropLast := by
  have e1 : vs.dropLast = vs.eraseIdx (vs.length - 1) := (PyProof.Rows.Copied.eraseIdx_last (l := vs)).symm
  have e2 : ds.dropLast = ds.eraseIdx (ds.length - 1) := (PyProof.Rows.Copied.eraseIdx_last (l := ds)).symm
  rw [e1, e2, RpAll.length r]
  exact RpAll.eraseIdx _ r
theorem vssm_pop (hc : Cls X.K (deskC X.K)) (nw : NoAttr X.K (deskC X.K) "web") (np : NoAttr X.K (deskC X.K) "past") (h1 : PE X o1 (tVar 0)) (h2 : PE X o2 (tVar 0))
    (hb1 : attributeBase o2 "past" X.env (eval o2 X.env) = eval o2 X.env := by rfl)
    (hbase : attributeBase (.Attribute o2 "past" a2) "pop" X.env (eval (.Attribute o2 "past" a2) X.env) = eval (.Attribute o2 "past" a2) X.env := by rfl)
    (hline : (a3.endLine == a4.line) = true := by rfl) (hb3 : attributeBase o1 "web" X.env (eval o1 X.env) = eval o1 X.env := by rfl) :
    VSsm ct W X A [.Assign [.Attribute o1 "web" b2] (.Call (.Attribute (.Attribute o2 "past" a2) "pop" a3) [] [] a4) b4, .Return (some (.Constant (.str "ok") j c1)) c2] (mPopM A.x) := by
  refine PSs.conv (pss_cons (ps_fld h1 (pe_bm0 PySem.F.plainAttrs_list PySem.F.slot_list_pop PySem.F.type_list_pop mt_pop (pe_fld h2 hb1) hbase hline) rfl) (pss_one (ps_ret pe_str))) fun De σ H h => ?_
  obtain ⟨k, δ, G, r, x0, h⟩ := h
  unfold mPopM at h
  cases e0 : deskIn A.x δ[0]? with
  | none => rw [e0] at h; exact h.elim
  | some z =>
    obtain ⟨w, qs⟩ := z
    simp only [e0] at h
    obtain ⟨v, hs, hv⟩ := r.dat 0 _ (deskIn_at e0)
    obtain ⟨dx, p, u, vs0, rfl, g1, g2, g3, g4, g5⟩ := Rp.ofDsk hv
    have gx := x0.same _ _ k.g1x
    rw [g1] at gx
    unfold An.ob at gx
    injection gx with gx
    injection gx with _ e1 e2
    injection e2 with e2 e3
    injection e2 with _ e2
    injection e3 with e3 _
    injection e3 with _ e3
    injection e3 with e3
    subst e1 e2 e3
    have k1 := r.same _ _ g1
    have k2 := r.same _ _ g2
    cases ez : qs[qs.length - 1]? with
    | none => simp only [ez] at h; exact h.elim
    | some z =>
      simp only [ez] at h
      split at h
      case isFalse => exact h.elim
      rename_i hn
      obtain ⟨q1, q2, h⟩ := h
      have em := k.extM ⟨q1, q2⟩ r x0
      have rq := RpAll.cut2 g1 g2 hn g5
      obtain ⟨y, hy, ry⟩ := RpAll.get rq ez
      have px : A.p ≠ A.x := k.ne
      have l1 : ([("web", A.u), ("past", .ref A.p)] : List (Str × V)).lookup ("past" : Str) = some (V.ref A.p) := rfl
      have pf : putF "web" y ([("web", A.u), ("past", .ref A.p)] : List (Str × V)) = ([("web", y), ("past", .ref A.p)] : List (Str × V)) := rfl
      refine ⟨.ref A.x, hs, A.x, deskC X.K, A.dx, _, .ref A.p, rfl, k1, hc, np, l1, .inl ⟨rfl, vs0, SqL.of k2⟩, A.p, vs0, y, rfl, rfl, k2, by rw [RpAll.length g5]; exact hy, ?_⟩
      refine ⟨.ref A.x, hs, A.x, deskC X.K, A.dx, _, rfl, by rw [upd_ne (Ne.symm px)]; exact k1, hc, nw, by simp, ?_⟩
      rw [pf]
      refine h (.str "ok") y vs0.dropLast (cut2 G A.x A.p) _ (em.trans (extM_put k1 k2 ⟨em.sub, em.nt, em.tabs⟩ em.outx em.outp)) upd_same (by rw [upd_ne px, upd_same]) ry (popM_ext (x := A.x) (p := A.p) (dx := A.dx) (H := H) rq) ?_ rfl
      rw [List.length_dropLast]; omega
end
def fnM (n : Nat) (body : Addr → FB) : FM := fun ds => match ds with
  | .dict [(.bool false, .int y), (_, .list _)] :: _ => match body y.toNat (unfill n (ds.map .dat)) with
    | .ok (.rt d, z, _) => .ok (d, z)
    | .err c xs => .err c xs
    | _ => .bad
  | _ => .bad
theorem fnM_at {n : Nat} {body : Addr → FB} {x : Addr} {w : D} {qs ds : List D} : fnM n body (dskD x w qs :: ds) = match body x (unfill n ((dskD x w qs :: ds).map .dat)) with
    | .ok (.rt d, z, _) => .ok (d, z)
    | .err c xs => .err c xs
    | _ => .bad := by
  unfold fnM dskD
  simp only [Int.toNat_natCast]
section
variable {P : Program} {w : World} {K : PySem.W.Frag} {mg : Str → Option Value} {base : Heap} {ct : Nat → Addr} {nm qual : Str} {st : Stmt} {N ps : List Str} {k n : Nat} {body : MS} {bodyM : Addr → FB}
def BodyM (P : Program) (w : World) (K : PySem.W.Frag) (mg : Str → Option Value) (base : Heap) (ct : Nat → Addr) (N : List Str) (qual : Str) (st : Stmt) (k : Nat) (body : Addr → FB) : Prop :=
  ∀ (f : Addr) (cdv : Value) (A : Around) (outer : List Env) (s : Shared) (H : Hp) (E : XK) (B : An), Room k (Bx P w K mg base N qual st f cdv A outer s H E).A → Takes (Bx P w K mg base N qual st f cdv A outer s H E) (WE' E) →
      PassesOwn (model P w) (Bx P w K mg base N qual st f cdv A outer s H E).A (Bx P w K mg base N qual st f cdv A outer s H E).env (Bx P w K mg base N qual st f cdv A outer s H E).xe →
      VSsm ct (WE' E) (Bx P w K mg base N qual st f cdv A outer s H E) B (defBody st) (body B.x)
theorem fnM_ok {f : Addr} {fd : FuncData} (F : Fun K nm qual st f fd) (S : FnScope N ps (defScope st)) (hps : ps.length = n + 1) (hn : ps.length ≤ N.length) (hb : BodyM P w K mg base ct N qual st k bodyM) : FnOk P w K mg base (L2.CX P w) (k + 1) f fd ps (spM K ct n (fnM N.length bodyM)) := by
  refine F.okX S (fun vs H Q E ⟨x, dx, p, u, vs0, us, wD, qs, ds, G, e, hl, _, _, _, _, _, _, ha, _⟩ => by rw [e, List.length_cons, RpAll.length ha, hl, hps]) fun cdv A outer s H vs Q E hr ⟨x, dx, p, u, vs0, us, wD, qs, ds, G, e, hl, h1, h2, fz, h8, h9, h10, ha, hq⟩ => ?_
  subst e
  have px : p ≠ x := fun z => by rw [z, h1] at h2; cases h2
  let B : An := ⟨x, dx, p, u, vs0, wD, qs, unfill N.length ((dskD x wD qs :: ds).map .dat), G, H, L2.start N (.ref x :: us)⟩
  have ok : B.Ok K := ⟨h1, h2, fz, h8, h9, h10, fun t b => no_ow (N := N) (vs := .ref x :: us)⟩
  have cas : ∀ b o, B.G1 K b = some o → (b = p ∧ o = .lst vs0) ∨ (b = x ∧ o = B.ob K) ∨ G b = some o := fun b o h => by
    unfold An.G1 frzD at h
    by_cases q : b = p
    · subst q; rw [upd_same] at h; exact .inl ⟨rfl, (Option.some.inj h).symm⟩
    · rw [upd_ne q] at h
      by_cases q2 : b = x
      · subst q2; rw [upd_same] at h; exact .inr (.inl ⟨rfl, (Option.some.inj h).symm⟩)
      · rw [upd_ne q2] at h; exact .inr (.inr h)
  have sg : Same G (B.G1 K) := fun b o e => by
    by_cases q : b = p
    · subst q
      have z := fz.same _ _ e
      rw [h2] at z
      cases z
      exact ok.g1p
    · by_cases q2 : b = x
      · subst q2
        have z := fz.same _ _ e
        rw [h1] at z
        cases z
        exact ok.g1x
      · rw [An.g1o (A := B) q2 q]; exact e
  have fz1 : Fz K (B.G1 K) H := ⟨fun b o h => by
    rcases cas b o h with ⟨rfl, rfl⟩ | ⟨rfl, rfl⟩ | h
    · exact h2
    · exact h1
    · exact fz.same _ _ h, fun b o h => by
    rcases cas b o h with ⟨_, rfl⟩ | ⟨_, rfl⟩ | h
    · exact nt_lst
    · exact nt_ins
    · exact fz.nt _ _ h, fz.tabs⟩
  have rp : Rp K (B.G1 K) (.ref x) (dskD x wD qs) := .dsk ok.g1x ok.g1p h10 (h8.mono sg) (h9.mono sg)
  have rel := rel_start (N := N) fz1 (.cons rp (ha.mono sg)) (by rw [List.length_cons, RpAll.length ha, hl, ← hps]; exact hn)
  refine ⟨_, hb f cdv A outer s H E B hr (takes_of rfl rfl rfl rfl) (passes_of rfl), ok, _, _, rel, Ext.refl, ?_⟩
  rw [fnM_at] at hq
  show PostM K ct (WE' E) B (bodyM x (unfill N.length ((dskD x wD qs :: ds).map .dat))) (B.G1 K) _
  cases eb : bodyM x (unfill N.length ((dskD x wD qs :: ds).map .dat)) with
  | bad => rw [eb] at hq; exact hq.elim
  | err c xs =>
    rw [eb] at hq
    exact fun cls dx σ' H' e er => hq cls dx H' e er
  | ok q =>
    obtain ⟨fl, z, c⟩ := q
    rw [eb] at hq
    cases fl with
    | nx => exact hq.elim
    | bk => exact hq.elim
    | ct => exact hq.elim
    | rn es => exact hq.elim
    | rt d =>
      cases z with
      | none => exact hq
      | some z => exact hq
structure TxM (K : PySem.W.Frag) (nm qual : Str) (st : Stmt) (ps : List Str) : Prop where
  ex : ∃ f fd, Fun K nm qual st f fd ∧ Meth K (deskC K) nm f ∧ Binds K fd ps []
theorem calMD (T : TxM K nm qual st ps) (S : FnScope N ps (defScope st)) (hps : ps.length = n) (hn : ps.length ≤ N.length) (hb : BodyOk P w K mg base ct N qual st k body) : CalM P w K mg base (deskC K) nm ps (k + 1) (spD K ct n (fnD N.length body)) := by
  obtain ⟨f, fd, F, hm, b⟩ := T.ex
  exact ⟨f, fd, fnD_ok F S hps hn (hb f), hm, b⟩
theorem calMM (T : TxM K nm qual st ps) (S : FnScope N ps (defScope st)) (hps : ps.length = n + 1) (hn : ps.length ≤ N.length) (hb : BodyM P w K mg base ct N qual st k bodyM) : CalM P w K mg base (deskC K) nm ps (k + 1) (spM K ct n (fnM N.length bodyM)) := by
  obtain ⟨f, fd, F, hm, b⟩ := T.ex
  exact ⟨f, fd, fnM_ok F S hps hn hb, hm, b⟩
end
end TW
set_option Elab.async false
set_option linter.all false
set_option maxRecDepth 100000
namespace TW
open PySem PySem.Spec PyProof.Rows L2
def mOrT (a b : M D) : M D := M.bind a fun d => match d with
  | .str y => if szOk y.length then (if (y.length : Int) != 0 then M.pure (.str y) else b) else fun _ => .bad
  | .list ds => if !ds.isEmpty then M.pure (.list ds) else b
  | _ => fun _ => .bad
def zpA (ds : List D) : D := .dict [(.bool true, .tuple ds)]
def gInZ (neg : Bool) : D → D → R D
  | d, .dict [(.bool true, .tuple es)] => gIn neg d (.tuple es)
  | _, _ => .bad
def GcT (K : PySem.W.Frag) (mg : Str → Option Value) (x : Str) (ss : List Str) : Prop := ∃ (a : Addr) (o : Obj) (its : Array Value) (n : Nat), mg x = some (.ref a) ∧ K.lookup a = some o ∧ o.cls = .type "tuple" ∧ o.data = .seq its n ∧ its.size ≤ sizeLine ∧ Vals (ss.map V.str) its.toList
def strV : Value → Option Str
  | .str x _ => some x
  | _ => none
theorem vals_str : ∀ {us : List Value} {ss : List Str}, us.map strV = ss.map some → Vals (ss.map V.str) us
  | [], [], _ => .nil
  | [], _ :: _, h => by simp at h
  | _ :: _, [], h => by simp at h
  | u :: us, s :: ss, h => by
    simp only [List.map_cons, List.cons.injEq] at h
    refine .cons ?_ (vals_str h.2)
    have h1 := h.1
    unfold strV at h1
    split at h1
    · cases h1; exact ⟨_, rfl⟩
    · cases h1
def tupB (K : PySem.W.Frag) (x : Str) (ss : List Str) : Bool := match PySem.W.nsIn K mainGlobals x with
  | some (some (.ref a)) => match K.lookup a with
    | some o => match o.data with
      | .seq its _ => decide (o.cls = .type "tuple") && (decide (its.toList.map strV = ss.map some) && decide (ss.length ≤ 1000))
      | _ => false
    | none => false
  | _ => false
theorem gcT_of {K : PySem.W.Frag} {h : Heap} {mg : Str → Option Value} {x : Str} {ss : List Str} (X : K.In h) (G : h.Ns mainGlobals mg) (e : tupB K x ss = true) : GcT K mg x ss := by
  unfold tupB at e
  split at e
  · rename_i a ea
    split at e
    · rename_i o eo
      split at e
      · rename_i its n ed
        simp only [Bool.and_eq_true, decide_eq_true_eq] at e
        refine ⟨a, o, its, n, PySem.W.mg_of X G ea, eo, e.1, ed, ?_, vals_str e.2.1⟩
        have := congrArg List.length e.2.1
        simp only [List.length_map, Array.length_toList] at this
        rw [this, sizeLine_eq]
        exact Nat.le_trans e.2.2 (by decide)
      · cases e
    · cases e
  · cases e
section
variable {ct : Nat → Addr} {W : WX} {X : Cx} {a b : Expr} {rest : List Expr} {ma mb : M D} {pos p : Pos} {k : Nat} {x : Str} {ss : List Str}
theorem ve_orT (ha : VE ct W X a ma) (hb : VE ct W X (.BoolOp .Or (b :: rest) pos) mb) : VE ct W X (.BoolOp .Or (a :: b :: rest) pos) (mOrT ma mb) := PE.conv (pe_orT ha hb) fun σ H Q h => tG.step h fun d δ1 v G1 H1 r1 p1 h1 => by
  cases d with
  | str y =>
    simp only at h1
    split at h1
    case isFalse => exact h1.elim
    rename_i hz
    have := Rp.ofStr p1
    subst this
    refine ⟨_, ⟨szOk_le hz, rfl⟩, ?_⟩
    split at h1
    · rename_i hc
      rw [if_pos hc]
      exact h1 _ G1 H1 Ext.refl r1 p1
    · rename_i hc
      rw [if_neg hc]
      exact ⟨δ1, G1, r1, h1⟩
  | list ds =>
    simp only at h1
    obtain ⟨q, xs, rfl, g1, g2, g3⟩ := Rp.ofLst p1
    have el : xs.isEmpty = ds.isEmpty := by
      have := RpAll.length g3
      cases xs <;> cases ds <;> first | rfl | cases this
    refine ⟨!ds.isEmpty, .inl ⟨xs, SqL.of (r1.same _ _ g1), by rw [el]⟩, ?_⟩
    split at h1
    · rename_i hc
      rw [if_pos hc]
      exact h1 _ G1 H1 Ext.refl r1 p1
    · rename_i hc
      rw [if_neg hc]
      exact ⟨δ1, G1, r1, h1⟩
  | _ => exact h1.elim
theorem ve_gtup (h : GcT X.K X.mg x ss) (hg : Gl X x) (hd : (x == ("__debug__" : Str)) = false := by decide) : VE ct W X (.Name x p) (mC (zpA (ss.map .str))) := by
  obtain ⟨a, o, its, n, h1, h2, h3, h4, h5, h6⟩ := h
  exact PE.conv (pe_glob (v := .ref a) hg h1 rfl hd) fun σ H Q ⟨δ, G, r, q⟩ => q (.ref a) G H Ext.refl r (.zp (.inr ⟨o, its, n, h2, h3, h4, h5, h6⟩) (strs_rp ss))
theorem Rp.ofZpA {K : PySem.W.Frag} {G : Hp} {v : V} {ds : List D} (h : Rp K G v (zpA ds)) : ∃ a xs, v = .ref a ∧ SqT K G a xs ∧ RpAll K G xs ds := Rp.ofZp h
theorem r2_InZ {K : PySem.W.Frag} {neg : Bool} : R2D K (rInA K neg) (gInZ neg) := fun δ σ G H x y d e z Q r hx hy hz q => by
  cases e with
  | dict zs =>
    match zs, hy, hz with
    | [(.bool true, .tuple es)], hy, hz =>
      have hz : gIn neg d (.tuple es) = .ok z := hz
      have e1 : gIn neg d (.tuple es) = if SeqAt.shaped d && SeqAt.shaped (.tuple es) then .ok (.bool (neg != es.any fun z => PyData.eqv z d)) else .bad := by
        cases d <;> rfl
      rw [e1] at hz
      split at hz
      · rename_i hk
        rw [Bool.and_eq_true] at hk
        cases hz
        have hy' : Rp K G y (zpA es) := by
          rcases hy with hy | ⟨p, vs, ds, _, e, _⟩
          · exact hy
          · cases e
        obtain ⟨a, xs, rfl, g1, g2⟩ := Rp.ofZpA hy'
        have nd := shaped_noDict hk.2
        have dp : Dp K H (.ref a) (.tuple es) := .tup (Same.sqt r.same g1) (RpAll.dp (by simpa [noDict] using nd) (g2.mono r.same))
        exact ⟨_, _, hx.dp r.same (shaped_noDict hk.1), .inr dp, hk.1, by simpa [PyData.canLay0] using SeqAt.canLay_of_shaped hk.2, q _ G H (Grow.refl r) (.bl _)⟩
      · cases hz
  | _ => unfold gInZ at hz; cases hz
theorem vt_inZ (hr : Room k X.A) (ha : VE ct W X a ma) (hb : VE ct W X b mb) (hm : behindInMarks .In b = false := by rfl) : VT ct W X (.Compare a [.In] [b] pos) (mTest (mOp2 (gInZ false) ma mb)) := vt_cmp (op_inA (u65 hr)) r2_InZ hm ha (vv_of hb)
end
@[simp] theorem gInZ_zp {neg : Bool} {d : D} {es : List D} : gInZ neg d (zpA es) = gIn neg d (.tuple es) := rfl
end TW
set_option Elab.async false
set_option linter.all false
set_option maxRecDepth 100000
namespace TW
open PySem PySem.Spec PyProof.Rows L2
def web0 : D := .tuple [.int 0, .tuple []]
def spIni (K : PySem.W.Frag) : Sp := fun vs H Q _ => ∃ (x dx : Addr) (G : Hp), vs = [.ref x] ∧ H x = some (.ins (deskC K) dx []) ∧ Fz K G H ∧ G x = none ∧
  ∀ p u G' H', ExtM K x p G H G' H' → Fre H p → H' x = some (.ins (deskC K) dx [("web", u), ("past", .ref p)]) → H' p = some (.lst []) → Rp K G' u web0 → Q .non H'
section
variable {P : Program} {w : World} {K : PySem.W.Frag} {mg : Str → Option Value} {base : Heap} {ct : Nat → Addr} {st : Stmt} {f : Addr} {fd : FuncData} {k : Nat}
theorem ok_ini {a1 a2 a3 a4 a5 a6 b1 b2 b3 b4 : Pos} {j t1 t2 : Nat} (F : Fun K "__init__" "Desk.__init__" st f fd) (S : FnScope ["self"] ["self"] (defScope st))
    (hb : defBody st = [.Assign [.Attribute (.Name "self" a1) "web" a2] (.Tuple [.Constant (.int 0) j a3, .Tuple [] t1 a4] t2 a5) a6, .Assign [.Attribute (.Name "self" b1) "past" b2] (.List [] b3) b4])
    (hv : ∀ x ∈ (["self"] : List Str), (defScope st).names.lookup x = some .local)
    (c : Cls K (deskC K)) (nw : NoAttr K (deskC K) "web") (np : NoAttr K (deskC K) "past") : FnOk P w K mg base (L2.CX P w) (k + 1) f fd ["self"] (spIni K) := by
  refine F.okX S (fun vs H Q E ⟨x, dx, G, e, _⟩ => by rw [e]; rfl) fun cdv A outer s H vs Q E hr ⟨x, dx, G, e, h1, fz, gx, hq⟩ => ?_
  subst e
  rw [hb]
  have vis : ∀ x ∈ (["self"] : List Str), Vis (defScope st) x := fun x hx => .inl (hv x hx)
  refine ⟨_, pss_cons (ps_fld (pe_var (i := 0) rfl (vis _ (by simp)) (by decide) (by decide)) (ve_tup (ct := fun _ => 0) (W := fun _ _ _ _ => True) (va_cons (ve_c pe_int (.int _)) (va_cons (ve_tup va_nil) va_nil))) rfl)
    (pss_one (ps_fld (pe_var (i := 0) rfl (vis _ (by simp)) (by decide) (by decide)) (pe_lst pa_nil) rfl)), ?_⟩
  refine ⟨[.un], G, ⟨rfl, fz.same, fz.nt, fun i d h => ?_, fun i t ds h => ?_, fun i j p t u ds es h => ?_, fz.tabs⟩, ?_⟩
  · cases i with
    | zero => cases h
    | succ i => cases h
  · cases i with
    | zero => cases h
    | succ i => cases h
  · cases i with
    | zero => cases h
    | succ i => cases h
  intro u G1 H1 x1 r1 p1
  have no : ¬ OwA [C.un] (L2.start ["self"] [V.ref x]) x := fun ⟨t, i, ds, h, _⟩ => by
    cases i with
    | zero => cases h
    | succ i => cases h
  have k1 := x1.keep x _ h1 nt_ins no
  have g1x : G1 x = none := by
    cases e : G1 x with
    | none => rfl
    | some o =>
      rcases x1.new x o e with z | z | ⟨i, ds, h, _⟩
      · rw [gx] at z; cases z
      · rcases z with z | ⟨q, z⟩
        · exact (z _ h1 nt_ins).elim
        · subst z
          have := r1.same _ _ e
          rw [k1] at this
          exact (ins_code (Option.some.inj this)).elim
      · cases i with
        | zero => cases h
        | succ i => cases h
  have p1 : Rp K G1 u web0 := p1
  refine ⟨.ref x, rfl, x, deskC K, dx, [], rfl, k1, c, nw, by simp, ?_⟩
  refine ⟨Nat.zero_le _, fun p hp => ?_⟩
  have px : p ≠ x := fun z => by rw [z, upd_same] at hp; cases hp
  rw [upd_ne px] at hp
  have e1 : putF "web" u ([] : List (Str × V)) = ([("web", u)] : List (Str × V)) := rfl
  have e2 : putF "past" (.ref p) ([("web", u)] : List (Str × V)) = ([("web", u), ("past", .ref p)] : List (Str × V)) := rfl
  refine ⟨.ref x, rfl, x, deskC K, dx, [("web", u)], rfl, by rw [upd_ne (Ne.symm px), upd_same, e1], c, np, by simp, ?_⟩
  rw [e1, e2]
  have gn : ∀ b o, G1 b = some o → b ≠ x ∧ b ≠ p := fun b o e => ⟨(fun z => by rw [z, g1x] at e; cases e), fun z => by rw [z] at e; have := r1.same _ _ e; rw [hp] at this; cases this⟩
  refine hq p u G1 _ ⟨fun b o e n q1 q2 => ?_, fun b e => ?_, x1.same, fun b o e => ?_, r1.nt, fun b o e => ?_, ?_, g1x, ?_⟩ (x1.back p (fre_none hp)) upd_same (by rw [upd_ne px, upd_same]) p1
  · rw [upd_ne q1, upd_ne q2, upd_ne q1]
    exact x1.keep b o e n fun ⟨t, i, ds, h, _⟩ => by
      cases i with
      | zero => cases h
      | succ i => cases h
  · by_cases q1 : b = x
    · subst q1
      exact (e _ upd_same nt_ins).elim
    · by_cases q2 : b = p
      · subst q2
        exact x1.back b (fre_none hp)
      · exact x1.back b fun o z => e o (by rw [upd_ne q1, upd_ne q2, upd_ne q1]; exact z)
  · rw [upd_ne (gn b o e).1, upd_ne (gn b o e).2, upd_ne (gn b o e).1]; exact r1.same _ _ e
  · rcases x1.new b o e with z | z | ⟨i, ds, h, _⟩
    · exact .inl z
    · exact .inr z
    · cases i with
      | zero => cases h
      | succ i => cases h
  · exact tabs_ins (C := deskC K) (dx := dx) (fs := [("web", u)]) (by rw [upd_ne (Ne.symm px), upd_same]) _ (tabs_keep (same_upd (by rw [upd_ne px]; exact hp)) _ (tabs_ins (C := deskC K) (dx := dx) (fs := []) k1 _ r1.tabs))
  · cases e : G1 p with
    | none => rfl
    | some o => exact absurd rfl (gn p o e).2
end
structure CalI (P : Program) (w : World) (K : PySem.W.Frag) (mg : Str → Option Value) (base : Heap) (k : Nat) : Prop where
  ex : ∃ f fd, FnOk P w K mg base (L2.CX P w) k f fd ["self"] (spIni K) ∧ L2.Mk K (deskC K) f ∧ Binds K fd ["self"] [] ∧ mg "Desk" = some (.ref (deskC K))
abbrev MSdk (ε : Type) := ε → List C → R (Fl × List C)
section
variable {ε : Type} {S : Store ε} {K : PySem.W.Frag} {ct : Nat → Addr} {W : WX} {δ0 δ : List C} {G0 G H0 H : Hp} {σ0 σ : L2.St} {De : Ends} {x : Addr}
def mSeqDk (m : MSg ε) (n : MSdk ε) : MSdk ε := fun E cs => match m E cs with
  | .ok (.nx, E1, c) => n E1 c
  | .ok (.rt d, _, c) => .ok (.rt d, c)
  | _ => .bad
def tSdk (S : Store ε) (K : PySem.W.Frag) (ct : Nat → Addr) (W : WX) (δ0 : List C) (G0 H0 : Hp) (σ0 : L2.St) (m : MSdk ε) : TS := fun De σ H => ∃ δ G E, Rel K δ G σ H ∧ Ext δ0 G0 H0 σ0 δ G H σ ∧ S E δ G σ H ∧ PostS K ct W (m E δ) δ0 G0 H0 σ0 De
theorem seqDk_core {m : MSg ε} {n : MSdk ε} (h : tSdk S K ct W δ0 G0 H0 σ0 (mSeqDk m n) De σ H) : tSg S K δ0 G0 H0 σ0 m { De with nx := tSdk S K ct W δ0 G0 H0 σ0 n De } σ H := by
  obtain ⟨δ, G, E, r, x0, d, h⟩ := h
  refine ⟨δ, G, E, r, x0, d, ?_⟩
  unfold mSeqDk at h
  cases e : m E δ with
  | bad => rw [e] at h; exact h
  | err n xs => rw [e] at h; exact h.elim
  | ok p =>
    obtain ⟨f, E1, c⟩ := p
    rw [e] at h
    cases f with
    | nx => exact fun σ' G' H' sm x r' d' => ⟨c, G', E1, r', x, d', h⟩
    | bk => exact h
    | ct => exact h
    | rt v => exact h
    | rn ds => exact h.elim
def mFrzDk (i : Nat) (x : Addr) (k : MS) : MSdk (D × List D) := fun E cs => if isOpq x cs[i]? then k (cs.set i (.dat (dskD x E.1 E.2))) else .bad
theorem frzDk_ext (d : DkS K x H0 E δ G σ H) (r : Rel K δ G σ H) (x0 : Ext δ0 G0 H0 σ0 δ G H σ) {i : Nat} (hi : δ[i]? = some (.dat (opq x))) : ∃ G1, Rel K (δ.set i (.dat (dskD x E.1 E.2))) G1 σ H ∧ Ext δ0 G0 H0 σ0 (δ.set i (.dat (dskD x E.1 E.2))) G1 H σ := by
  obtain ⟨G1, r1, sm, nw⟩ := d.frz r hi
  have so : ∀ {u : Bool} {b : Addr}, Ow u (δ.set i (.dat (dskD x E.1 E.2))) σ b → Ow u δ σ b := fun ⟨j, es, h1, h2⟩ => by
    obtain ⟨_, h1⟩ := set_keep (c := .dat (dskD x E.1 E.2)) (fun _ _ e => nomatch e) h1
    exact ⟨j, es, h1, h2⟩
  refine ⟨G1, r1, ⟨x0.keep, x0.back, x0.same.trans sm, fun b o e => ?_, fun b z => x0.own b (so z), fun b z => x0.par b (so z)⟩⟩
  rcases nw b o e with e | e
  · exact x0.new b o e
  · exact .inr (.inl (.inl e))
theorem frzDk_core {i : Nat} {k : MS} (h : tSdk (DkS K x H0) K ct W δ0 G0 H0 σ0 (mFrzDk i x k) De σ H) : tS K ct W k De σ H := by
  obtain ⟨δ, G, E, r, x0, d, h⟩ := h
  unfold mFrzDk at h
  split at h
  case isFalse => exact h.elim
  rename_i hh
  obtain ⟨G1, r1, x1⟩ := frzDk_ext d r x0 (isOpq_eq hh)
  exact ⟨_, _, r1, h.at x1⟩
open Classical in
noncomputable def mNewDk (i : Nat) (keep : List Nat) (m : Addr → MSdk (D × List D)) : MS := fun cs => if h : ∃ r : Fl × List C, ∀ a, ∃ c, m a (web0, []) (cs.set i (.dat (opq a))) = .ok (r.1, c) ∧ forget keep c = r.2 then .ok (Classical.choose h) else .bad
theorem made_desk {i : Nat} {p dx : Addr} {u : V} {G' H2 : Hp} (r : Rel K δ G σ H) (hx : H x = none) (hd : H dx = none) (em : ExtM K x p G (upd (upd H dx (.own x)) x (.ins (deskC K) dx [])) G' H2) (fp : Fre (upd (upd H dx (.own x)) x (.ins (deskC K) dx [])) p)
    (h1 : H2 x = some (.ins (deskC K) dx [("web", u), ("past", .ref p)])) (h2 : H2 p = some (.lst [])) (h3 : Rp K G' u web0) (ndx : dx ≠ x) :
    Rel K (δ.set i (.dat (opq x))) G' (σ.set i (some (.ref x))) H2 ∧ Ext δ G H σ (δ.set i (.dat (opq x))) G' H2 (σ.set i (some (.ref x))) ∧ DkS K x H (web0, []) (δ.set i (.dat (opq x))) G' (σ.set i (some (.ref x))) H2 := by
  have sA : Same H (upd (upd H dx (.own x)) x (.ins (deskC K) dx [])) := fun b o e => by rw [upd_ne (ne_of_none e hx), upd_ne (ne_of_none e hd)]; exact e
  have bk : ∀ b, Fre (upd (upd H dx (.own x)) x (.ins (deskC K) dx [])) b → Fre H b := Same.there sA
  have rA : Rel K δ G σ (upd (upd H dx (.own x)) x (.ins (deskC K) dx [])) := by
    refine ⟨r.len, r.same.trans sA, r.nt, r.dat, fun j t ds h => ?_, r.inj, tabs_keep sA _ r.tabs⟩
    obtain ⟨q, ws, a1, a2, a3, a4, a5⟩ := r.own j t ds h
    exact ⟨q, ws, a1, sA _ _ a2, a3, a4, a5⟩
  have nx : ¬ OwA δ σ x := fun z => by
    obtain ⟨t, j, ds, e1, e2⟩ := z
    obtain ⟨q, ws, a1, a2, _⟩ := r.own j t ds e1
    rw [e2] at a1; cases a1
    rw [hx] at a2; cases a2
  have npo : ¬ OwA δ σ p := fun z => by
    obtain ⟨t, j, ds, e1, e2⟩ := z
    obtain ⟨q, ws, a1, a2, _⟩ := rA.own j t ds e1
    rw [e2] at a1; cases a1
    exact fp _ a2 nt_lst
  have r2 := rA.extM em nx npo
  have r3 : Rel K (δ.set i (.dat (opq x))) G' (σ.set i (some (.ref x))) H2 := r2.set (v := .ref x) .ex0
  refine ⟨r3, ⟨fun b o e n _ => em.keep b o (sA b o e) n (ne_of_none e hx) (fun z => by subst z; exact fp _ (sA b o e) n), fun b e => bk b (em.back b e), em.same, fun b o e => ?_, fun b z => .inl (set_ow (c := .dat (opq x)) (fun _ _ e => nomatch e) z), fun b z => set_ow (c := .dat (opq x)) (fun _ _ e => nomatch e) z⟩, ⟨⟨dx, p, u, [], h1, h2, h3, .nil, Nat.zero_le _, em.outp, fun z => ?_, bk p fp⟩, em.outx, fre_none hx⟩⟩
  · rcases em.new b o e with z | z
    · exact .inl z
    · exact .inr (.inl (z.imp (bk b) id))
  · obtain ⟨t, z⟩ := z
    exact npo ⟨t, set_ow (c := .dat (opq x)) (fun _ _ e => nomatch e) z⟩
end
section
variable {ε : Type} {S : Store ε} {ct : Nat → Addr} {W : WX} {X : Cx} {rest : List Stmt} {i : Nat} {nm : Str} {py pn pd pos : Pos} {m : Addr → MSdk (D × List D)} {δ0 : List C} {G0 H0 : Hp} {σ0 : L2.St} {st : Stmt} {x : Addr}
theorem vsdk_cons {m : MSg ε} {n : MSdk ε} (h1 : VSg S X δ0 G0 H0 σ0 st m) (h2 : PSs X rest (tSdk S X.K ct W δ0 G0 H0 σ0 n)) : PSs X (st :: rest) (tSdk S X.K ct W δ0 G0 H0 σ0 (mSeqDk m n)) := PSs.conv (pss_cons h1 h2) fun D σ H h => seqDk_core h
theorem vsdk_frz {k : MS} (h : VSs ct W X rest k) : PSs X rest (tSdk (DkS X.K x H0) X.K ct W δ0 G0 H0 σ0 (mFrzDk i x k)) := PSs.conv h fun D σ H h => frzDk_core h
theorem newDk_core {keep : List Nat} {De : Ends} {σ : L2.St} {H : Hp} (h : tS X.K ct W (mNewDk i keep m) De σ H) : ∀ x dx, H x = none → H dx = none → dx ≠ x →
    spIni X.K [.ref x] (upd (upd H dx (.own x)) x (.ins (deskC X.K) dx [])) (fun v H2 => v = .non ∧ ∃ a δ0 G0 H0 σ0, tSdk (DkS X.K a H0) X.K ct W δ0 G0 H0 σ0 (m a) De (σ.set i (some (.ref x))) H2) (anyW W) := by
  obtain ⟨δ, G, r, h⟩ := h
  unfold mNewDk at h
  split at h
  case isFalse => exact h.elim
  rename_i hh
  intro x dx hx hd hne
  have sA : Same H (upd (upd H dx (.own x)) x (.ins (deskC X.K) dx [])) := fun b o e => by rw [upd_ne (ne_of_none e hx), upd_ne (ne_of_none e hd)]; exact e
  refine ⟨x, dx, G, rfl, upd_same, ⟨r.same.trans sA, r.nt, tabs_keep sA _ r.tabs⟩, Same.free r.same hx, fun p u G' H2 em fp h1 h2 h3 => ⟨rfl, ?_⟩⟩
  obtain ⟨r1, x1, d1⟩ := made_desk (i := i) r hx hd em fp h1 h2 h3 hne
  refine ⟨x, δ, G, H, σ, _, G', (web0, []), r1, x1, d1, ?_⟩
  obtain ⟨c, e1, e2⟩ := Classical.choose_spec hh x
  rw [e1]
  refine forget_post (keep := keep) ?_
  rw [e2]
  exact h
theorem vss_newDk {k j : Nat} {keep : List Nat} (ci : CalI X.prog X.w X.K X.mg X.base k) (hr : Room j X.A) (hkj : k + 1 ≤ j) (tk : Takes X W) (hg : Gl X "Desk") (hN : X.N.Nodup) (hi : X.N[i]? = some nm) (hx : Loc X.env.scope nm) (hrest : ∀ a δ0 G0 H0 σ0, PSs X rest (tSdk (DkS X.K a H0) X.K ct W δ0 G0 H0 σ0 (m a)))
    (hs : swapsWith (.Call (.Name "Desk" pn) [] [] pd) (some (.Name nm py)) pos.line X.env = pure false := by rfl) (hf : X.fn nm = true ∨ X.env.scope.names.lookup nm = some .local := by first | exact .inl rfl | exact .inr rfl | assumption) :
    VSs ct W X (.Assign [.Name nm py] (.Call (.Name "Desk" pn) [] [] pd) pos :: rest) (mNewDk i keep m) := by
  obtain ⟨f, fd, F, M, hb, hm⟩ := ci.ex
  exact PSs.conv (pss_cons (ps_set hN hi hx (pe_make0 M F (hr.mono hkj) hg hm hb .nil (passAny tk)) hs hf) (u := fun De σ H => ∃ a δ0 G0 H0 σ0, tSdk (DkS X.K a H0) X.K ct W δ0 G0 H0 σ0 (m a) De σ H) ⟨fun pins s σ H D I ⟨a, δ0, G0, H0, σ0, h⟩ => (hrest a δ0 G0 H0 σ0).run pins s σ H D I h⟩) fun D σ H h => newDk_core h
end
end TW
set_option Elab.async false
set_option linter.all false
set_option maxRecDepth 100000
namespace TW
open PySem PySem.Spec PyProof.Rows L2
theorem ve_gtp {ct : Nat → Addr} {W : WX} {X : Cx} {p : Pos} {x : Str} {ss : List Str} {es : List D} (hg : Gl X x) (h : GcT X.K X.mg x ss) (he : es = ss.map .str) (hd : (x == ("__debug__" : Str)) = false := by decide) : VE ct W X (.Name x p) (mC (zpA es)) := by
  subst he
  exact ve_gtup h hg hd
def gStrT : D → R D
  | .str x => .ok (.str x)
  | d => gStr d
section
variable {ct : Nat → Addr} {W : WX} {X : Cx} {a : Expr} {ma : M D} {p pos : Pos}
theorem call_strT : CallR X (.type "str") (fun xs H Q => (∃ i, xs = [V.int i] ∧ i.natAbs.log2 < 1920 ∧ Q (.str (toString i)) H) ∨ ∃ a, xs = [V.str a] ∧ Q (.str a) H) := fun pins s σ H xs us Q I r h => h.elim (call_str_int pins s σ H xs us Q I r) (SkE.call_str_str pins s σ H xs us Q I r)
theorem ve_strT (hg : Gl X "str") (hm : X.mg "str" = none) (ha : VV ct W X a ma) (hs : starEach [a] X.env = (false, eval a X.env) :: starEach [] X.env := by rfl) : VE ct W X (.Call (.Name "str" p) [a] [] pos) (mOp1 gStrT ma) :=
  ve_callTy call_strT (fun δ σ G H x d z Q r hx hz q => by
    unfold gStrT at hz
    split at hz
    · cases hz
      exact .inr ⟨_, by rw [hx.str], q _ G H (Grow.refl r) (.str _)⟩
    · unfold gStr at hz
      split at hz
      · split at hz
        · rename_i i _ hk
          cases hz
          have hb := of_decide_eq_true hk
          refine .inl ⟨i, by rw [hx.int], ?_, q _ G H (Grow.refl r) (.str _)⟩
          by_cases h0 : i.natAbs = 0
          · rw [h0]; decide
          · exact Nat.lt_trans ((Nat.log2_lt h0).mpr (by omega : i.natAbs < 2 ^ 20)) (by decide)
        · cases hz
      · cases hz) hg hm PyProof.Rows.boot_str ha hs
end
structure DeskOk (K : PySem.W.Frag) : Prop where
  c : Cls K (deskC K)
  nw : NoAttr K (deskC K) "web"
  np : NoAttr K (deskC K) "past"
def deskB (K : PySem.W.Frag) (C : Addr) : Bool := PySem.W.plainGet K C Str.empty && (PySem.W.hasDictIn K C && (PySem.W.plainOver K C && (decide (PySem.W.findIn K (.ref C) "__setattr__" = some (some (.builtin "object.__setattr__"))) &&
  (PySem.W.makesIn K C && (PySem.W.keepIn K (.ref C) && (decide (PySem.W.findIn K (.ref C) "web" = some none) && decide (PySem.W.findIn K (.ref C) "past" = some none)))))))
section
variable {P : Program} {w : World} {K : PySem.W.Frag} {h base : Heap} {mg : Str → Option Value} {st : Stmt} {f C : Addr} {oc : Value} {od an : Option Addr} {osl : Array (Option Value)} {kV doc pm cdv cv : Value} {nm qual : Str} {ps : List Str} {k : Nat}
theorem deskC_eq (gC : PySem.W.nsIn K mainGlobals "Desk" = some (some (.ref C))) : deskC K = C := by unfold deskC; rw [gC]
theorem desk_of (gC : PySem.W.nsIn K mainGlobals "Desk" = some (some (.ref C))) (b : deskB K C = true) : DeskOk K := by
  have e := deskC_eq gC
  unfold deskB at b
  simp only [Bool.and_eq_true, decide_eq_true_eq] at b
  obtain ⟨b1, b2, b3, b4, b5, b6, b7, b8⟩ := b
  exact ⟨by rw [e]; exact ⟨b1, b2, b3, b4⟩, by rw [e]; exact b7, by rw [e]; exact b8⟩
theorem txM_mk (gC : PySem.W.nsIn K mainGlobals "Desk" = some (some (.ref C))) (i : PySem.W.findIn K (.ref C) nm = some (some (.ref f))) (t : PySem.W.isFn K (.ref f) = true)
    (l : K.lookup f = some ⟨oc, od, .func (PySem.W.fnOf nm qual (defArgs st) (defBody st) (defScope st) .none kV doc pm an cdv cv), osl⟩) (c : PySem.W.codeIn K cdv qual = true) (k : PySem.W.keepIn K (.ref f) = true)
    (hb : ∀ (kV doc pm : Value) (an : Option Addr) (cdv ct : Value) (us : List Value), us.length = ps.length → bindArgs (PySem.W.fnOf nm qual (defArgs st) (defBody st) (defScope st) .none kV doc pm an cdv ct) ⟨us, []⟩ = pure (ps.zip us)) : TxM K nm qual st ps :=
  ⟨f, _, fun_mk l c k, by rw [deskC_eq gC]; exact ⟨i, t, k⟩, (fun_mk l c k).binds hb⟩
theorem calKeep {ct : Nat → Addr} {a1 a2 a3 a4 a5 a6 a7 b1 b2 b3 b4 c1 c2 : Pos} {j : Nat} (T : TxM K "keep" "Desk.keep" st ["self", "web"]) (dk : DeskOk K) (S : FnScope ["self", "web"] ["self", "web"] (defScope st))
    (hb : defBody st = [.Expr (.Call (.Attribute (.Attribute (.Name "self" a1) "past" a2) "append" a3) [.Attribute (.Name "self" a4) "web" a5] [] a6) a7, .Assign [.Attribute (.Name "self" b1) "web" b2] (.Name "web" b3) b4, .Return (some (.Constant (.str "ok") j c1)) c2])
    (hv : ∀ x ∈ (["self", "web"] : List Str), (defScope st).names.lookup x = some .local) (hln : (a3.endLine == a6.line) = true) : CalM P w K mg base (deskC K) "keep" ["self", "web"] 1 (spM K ct 1 fKeep) := by
  obtain ⟨f, fd, F, hm, b⟩ := T.ex
  exact ⟨f, fd, ok_keep F S hb hv hln dk.c dk.nw dk.np, hm, b⟩
theorem calIni {a1 a2 a3 a4 a5 a6 b1 b2 b3 b4 : Pos} {j t1 t2 : Nat} (X : K.In h) (G : h.Ns mainGlobals mg) (gC : PySem.W.nsIn K mainGlobals "Desk" = some (some (.ref C))) (b : deskB K C = true) (T : TxM K "__init__" "Desk.__init__" st ["self"]) (S : FnScope ["self"] ["self"] (defScope st))
    (hb : defBody st = [.Assign [.Attribute (.Name "self" a1) "web" a2] (.Tuple [.Constant (.int 0) j a3, .Tuple [] t1 a4] t2 a5) a6, .Assign [.Attribute (.Name "self" b1) "past" b2] (.List [] b3) b4])
    (hv : ∀ x ∈ (["self"] : List Str), (defScope st).names.lookup x = some .local) : CalI P w K mg base 1 := by
  have dk := desk_of gC b
  have e := deskC_eq gC
  unfold deskB at b
  simp only [Bool.and_eq_true, decide_eq_true_eq] at b
  obtain ⟨b1, b2, b3, b4, b5, b6, b7, b8⟩ := b
  obtain ⟨f, fd, F, hm, bi⟩ := T.ex
  exact ⟨f, fd, ok_ini F S hb hv dk.c dk.nw dk.np, ⟨by rw [e]; exact b5, hm.at_, hm.fn, by rw [e]; exact b6⟩, bi, by rw [e]; exact PySem.W.mg_of X G gC⟩
end
end TW
set_option Elab.async false
set_option linter.all false
set_option maxRecDepth 100000
namespace TW
open PySem PySem.Spec PyProof.Rows L2
end TW
set_option Elab.async false
set_option linter.all false
set_option maxRecDepth 100000
namespace TW
open PySem PySem.Spec PyProof.Rows L2
end TW
set_option Elab.async false
set_option linter.all false
set_option maxRecDepth 100000
namespace TW
open PySem PySem.Spec PyProof.Rows L2
theorem frames_sub {B B' h : Heap} (hb : ∀ b, B.get? b = none → B'.get? b = none) : ∀ {l : List Env}, h.FunFrames B l → h.FunFrames B' l
  | [], _ => trivial
  | _ :: _, ⟨hk, ⟨L, o, hf, hn, ho, hd⟩, hr⟩ => ⟨hk, ⟨L, o, hf, hb L hn, ho, hd⟩, frames_sub hb hr⟩
section
variable {X : Cx} {pins : List (Addr × Obj)} {σ : L2.St} {H : Hp} {s s' : Shared} {W : WX} {EX : XK} {ce : Env} {u : Value} {m : Str → Option Value}
theorem ground_of (I : Inv X pins σ H s) {a : Addr} {B : Heap} {H' : Hp} {cls : Value} {d : Option Addr} (fl : HandSPX.FlyingZ B X.stack a (Zc cls d) s'.heap) (hok : HOk X.prog X.w H' B) (ub : UB (frs X.stack) H H' s.heap B s'.heap) (os : s'.os = s.os) (ag : AllBare s'.gens) :
    ∃ sI : Shared, Inv X pins σ H' sI ∧ (∀ b o, sI.heap.get? b = some o → b ∉ frs X.stack → B.get? b = some o) ∧ sI.heap.UpToSlots s'.heap ∧ s'.os = sI.os := by
  obtain ⟨G, g1, g2⟩ := restrict s'.heap fun b => (B.get? b).isSome || decide (b ∈ frs X.stack)
  have st : B.StaysIn s'.heap := fl.1
  have gB : ∀ b o, B.get? b = some o → G.get? b = some o := fun b o e => by rw [g1 b (by simp [e])]; exact st b o e
  have og : ∀ b o, G.get? b = some o → s'.heap.get? b = some o ∧ ((B.get? b).isSome = true ∨ b ∈ frs X.stack) := fun b o e => by
    cases q : ((B.get? b).isSome || decide (b ∈ frs X.stack)) with
    | false => rw [g2 b q] at e; cases e
    | true => rw [g1 b q] at e; exact ⟨e, by simpa [Bool.or_eq_true] using q⟩
  have gF : ∀ b, b ∈ frs X.stack → G.get? b = s'.heap.get? b := fun b hb => g1 b (by simp [hb])
  refine ⟨{ s with heap := G, gens := s'.gens, drawn := s'.drawn, toks := s'.toks }, I.call (ch := []) ⟨fun b o e n hb _ => gB b o (ub.keep b o e n hb), fun b o e n hb _ => ?_, fun b o e n _ => ub.free b o e n, fun b o e _ => ?_, ub.tups, ub.frzs, ub.tbls⟩ (hok.kept gB) ag (fun _ z => nomatch z), fun b o e hb => ?_, Heap.UpToSlots.of_keeps fun b o e => (og b o e).1, os⟩
  · obtain ⟨sl, q⟩ := ub.slot b o e hb
    exact ⟨sl, by rw [gF b hb]; exact q⟩
  · by_cases hb : b ∈ frs X.stack
    · obtain ⟨sl, q⟩ := ub.slot b o e hb
      exact ⟨_, by rw [gF b hb]; exact q⟩
    · obtain ⟨o', q⟩ := ub.there b o e hb
      exact ⟨o', gB b o' q⟩
  · obtain ⟨e', h⟩ := og b o e
    rcases h with h | h
    · obtain ⟨o', q⟩ := Option.isSome_iff_exists.mp h
      have z := st b o' q
      rw [e'] at z; cases z
      exact q
    · exact absurd h hb
theorem fails_of (hs : X.stack = X.env :: X.outer) (hf : X.env.frame = some X.env.locals) (tk : Takes X W) (hW : ∀ cls d H', EX cls d H' → W cls d σ H')
    (I : Inv X pins σ H s) (hC : FpOk X pins H ce.locals) (hCs : ce.locals ∉ frs X.stack) (hn : s.heap.Ns ce.locals m) (hcf : ce.frame = X.env.frame) (c : L2.CX X.prog X.w X.stack H s EX u s') :
    notedBy (model X.prog X.w) X.A ce (CompFails (model X.prog X.w) X.A X.xe ce) u s' := by
  obtain ⟨a, B, H', cls, d, rfl, fl, hok, ub, na, os, ag, hE⟩ := c
  obtain ⟨sI, I', nb, up, os'⟩ := ground_of I fl hok ub os ag
  obtain ⟨c0, c1, c2, c3, c4, c5⟩ := hC
  obtain ⟨oC, es, ep, ho, hd, r⟩ := hn
  have hBC := ub.keep _ _ ho c0 hCs
  have hC' : H' ce.locals = none := ub.free _ _ ho c0
  have hfr : X.A.frames = some (X.env :: X.outer) := by rw [I.ok.frames, hs]
  have en : noteFrame (.ref a) ce = noteFrame (.ref a) X.env := by unfold noteFrame PySem.frameOf; rw [hcf]
  show wpAny _ _ (noteFrame (.ref a) ce) _ _ s'
  rw [en]
  rw [hs] at fl
  refine HandSPX.looks_onZ Zc.steady hfr hf fl fun h1 hh up1 => ?_
  have h1C : h1.get? ce.locals = some oC := hh.1 _ _ hBC
  refine ⟨m, ⟨oC, es, ep, h1C, hd, r⟩, fun h2 m2 hn2 hs2 => ?_⟩
  have hid : ∀ b o, (PySem.W.hideAll B [ce.locals]).get? b = some o → B.get? b = some o ∧ b ≠ ce.locals := fun b o e => ⟨PySem.W.of_hideAll _ e, fun z => by rw [z, PySem.W.hideAll_none _ (List.mem_singleton.mpr rfl)] at e; cases e⟩
  have hidn : ∀ b, B.get? b = none → (PySem.W.hideAll B [ce.locals]).get? b = none := fun b e => by
    cases q : (PySem.W.hideAll B [ce.locals]).get? b with
    | none => rfl
    | some o => rw [(hid b o q).1] at e; cases e
  obtain ⟨oe, vs, T, oT, ts, he, hz, hdv, hv1, hnT, hTe, hT, hdT, h3⟩ := hh.2.2.2
  have aC : a ≠ ce.locals := fun z => by rw [z, h1C] at he; cases he; rw [hd] at hdv; cases hdv
  have tC : T ≠ ce.locals := fun z => by rw [z, h1C] at hT; cases hT; rw [hd] at hdT; cases hdT
  have he2 : h2.get? a = some oe := (hs2.2 a aC).trans he
  have hT2 : h2.get? T = some oT := (hs2.2 T tC).trans hT
  have held : HandSPX.HeldZ (PySem.W.hideAll B [ce.locals]) (X.env :: X.outer) a (Zc cls d) X.env.locals h2 := by
    refine ⟨fun b o e => (hs2.2 b (hid b o e).2).trans (hh.1 b o (hid b o e).1), hidn a hh.2.1, frames_sub hidn (Heap.FunFrames.sameBut hs2 hn2 hh.2.2.1), oe, vs, T, oT, ts, he2, hz, hdv, hv1, hidn T hnT, hTe, hT2, hdT, h3⟩
  unfold PySem.passOn
  refine wpAny_bind (wpAny_field he2 hdv hv1 ?_)
  rw [if_neg (show ¬ ((Value.ref T == Value.none) = true) from by simp), hcf, hf]
  refine wpAny_bind (HandSPX.setFlight_onZ held fun h3 hh3 up3 => wpAny_throw ?_)
  refine tk _ _ ⟨a, PySem.W.hideAll B [ce.locals], { sI with heap := PySem.W.hideAll sI.heap [ce.locals], toks := sI.toks }, pins, σ, H', cls, d, rfl, I'.turned (it := ce.locals) (fun b o hb e => PySem.W.hideAll_get _ e (fun z => hb (List.mem_singleton.mp z))) hC' c1 c3 c4 c5, fun b o e hb => ?_, fun b o e hnf => ?_, ?_, na, os', ag, hW _ _ _ hE⟩
  · have e1 := PySem.W.of_hideAll _ e
    have n1 : b ≠ ce.locals := fun z => by
      have e' : (PySem.W.hideAll sI.heap [ce.locals]).get? b = some o := e
      rw [z, PySem.W.hideAll_none _ (List.mem_singleton.mpr rfl)] at e'; cases e'
    exact PySem.W.hideAll_get _ (nb b o e1 hb) (fun z => n1 (List.mem_singleton.mp z))
  · have e1 := PySem.W.of_hideAll _ e
    have n1 : b ≠ ce.locals := fun z => by
      have e' : (PySem.W.hideAll sI.heap [ce.locals]).get? b = some o := e
      rw [z, PySem.W.hideAll_none _ (List.mem_singleton.mpr rfl)] at e'; cases e'
    obtain ⟨s1, q1⟩ := up b o e1 hnf
    obtain ⟨s2, q2⟩ := up1 b _ q1 hnf
    obtain ⟨s3, q3⟩ := up3 b _ ((hs2.2 b n1).trans q2) hnf
    exact ⟨s3, q3⟩
  · rw [hs]
    exact .inr (.inr hh3)
end
end TW
set_option Elab.async false
set_option linter.all false
set_option maxRecDepth 100000
set_option maxHeartbeats 2000000
namespace TW
open PySem PySem.Spec PyProof.Rows L2
section
variable {X : Cx} {W : WX} {EX : XK}
theorem lcE_core {pins : List (Addr × Obj)} {s : Shared} {σ : L2.St} {H : Hp} {Q : VK} {elt tg iter : Expr} {scope : Scope} {own : List (Str × Nat)} {pos pos' : Pos} {wi : TI} {g : TG} {te : TE} {use : Option (Value → Sem Unit)} {Qf : Value → Shared → Prop}
    (hst : X.stack = X.env :: X.outer) (hfm : X.env.frame = some X.env.locals) (tk : Takes X W) (hW : ∀ cls d H', EX cls d H' → W cls d σ H')
    (hc : X.calm = true) (hN : X.N.Nodup) (I : Inv X pins σ H s) (hi : PI X tg iter wi) (ok : BlkOk X.N X.env.scope scope own)
    (hg : ∀ (s : Shared) (H : Hp) (C : Addr) (cl : List (Str × Addr)) (fp : List Addr), PG (X.blk s H scope (compEnvC scope cl C X.env) fp) tg g)
    (he : ∀ (s : Shared) (H : Hp) (C : Addr) (cl : List (Str × Addr)) (fp : List Addr) (xe : Value → Shared → Prop), Passes (L2.CX X.prog X.w) ((X.blk s H scope (compEnvC scope cl C X.env) fp).wish xe) EX → PE ((X.blk s H scope (compEnvC scope cl C X.env) fp).wish xe) elt te) (hs : ∀ x, foldedSetIterable iter X.env x = pure x)
    (h : tLc wi g tYes te (own.map (·.2)) σ H Q)
    (hRR : ∀ D (ce : Env) s' m H', Inv X pins σ H' s' → Q (.ref D) H' → s'.heap.Ns ce.locals m → FpOk X pins H' ce.locals → compEnds (model X.prog X.w) X.A X.xe use Qf (.ref D) ce (.ok .next) s') :
    wpAny (model X.prog X.w) X.A (comprehension (.ListComp elt [⟨tg, iter, [], 0⟩] scope pos) scope X.env pos' (newList []) false (eval iter X.env) use) Qf X.xe s := by
  have hfree : ∀ y ∈ scope.names, y.2 = .free → ∃ c, X.env.cells.lookup y.1 = some c := fun y hy e => (ok.free y hy e).elim (fun k => I.ok.has _ (.inl k)) fun k => I.ok.has _ (.inr k)
  refine comprehension_at (use := use) rfl hs (closure_ok hfree) ok.kind (fun y hy e => by rw [ok.uniq y hy, e]) (thn (hi.run pins s σ H _ I h) fun xv s1 hx => thn hx fun itv s2 h2 => ?_)
  obtain ⟨it, fp, tn, J, H2, e, I2, T, st2, f2, q⟩ := h2
  subst e
  refine wpAny_newObj_type (newEnv_comp ?_) (by show 0 ≤ sizeLine; decide)
  generalize hD : s2.heap.objs.size = D
  have hDn : H2 D = none := I2.hok.fresh (Nat.le_of_eq hD)
  obtain ⟨V, ⟨m0, w0⟩, turn⟩ := q D hDn
  generalize hs3 : ({ s2 with heap := s2.heap.push { cls := .type "list", data := .seq ([] : List Value).toArray } } : Shared) = s3
  have h3 : s3.heap = s2.heap.push { cls := .type "list", data := .seq ([] : List Value).toArray } := by rw [← hs3]
  have I3 : Inv X pins σ (upd H2 D (.lst [])) s3 := by
    rw [← hs3]
    refine I2.laid (t' := s2.toks) (fun b o e => Heap.get?_push_of_some _ e) (Nat.le_of_eq hD) ⟨Nat.zero_le _, [], 0, .nil, ?_⟩
    rw [← hD]
    exact Heap.get?_push_size _ rfl
  have f3 : ∀ b ∈ fp, FpOk X pins (upd H2 D (.lst [])) b ∧ b < s3.heap.objs.size := fun b hb => by
    obtain ⟨o, e, _⟩ := T.obj _ _ st2 b hb
    have hlt := Heap.lt_size e
    exact ⟨⟨by rw [upd_ne (by rw [← hD]; exact Nat.ne_of_lt hlt)]; exact (f2 b hb).1, (f2 b hb).2⟩, by rw [h3, Heap.size_push]; exact Nat.lt_succ_of_lt hlt⟩
  have I4 := block_start I3 ok hN f3
  have nfp : ∀ b ∈ fp, (upd H2 D (.lst [])) b = none := fun b hb => (f3 b hb).1.1
  have pg := hg s3 (upd H2 D (.lst [])) s3.heap.objs.size (cellsFrom (s3.heap.objs.size + 1) scope.names (cloFrom X.env.cells scope.names [])) fp
  have pe := he s3 (upd H2 D (.lst [])) s3.heap.objs.size (cellsFrom (s3.heap.objs.size + 1) scope.names (cloFrom X.env.cells scope.names [])) fp
  have cF : (compEnvC scope (cellsFrom (s3.heap.objs.size + 1) scope.names (cloFrom X.env.cells scope.names [])) s3.heap.objs.size X.env).frame = X.env.frame := rfl
  show codeAny _ _ (.compStart (.ListComp elt [⟨tg, iter, [], 0⟩] scope pos) 0 (.ref it) (.ref D) (compEnvC scope (cellsFrom (s3.heap.objs.size + 1) scope.names (cloFrom X.env.cells scope.names [])) s3.heap.objs.size X.env))
    (compEnds (model X.prog X.w) X.A X.xe use Qf (.ref D) (compEnvC scope (cellsFrom (s3.heap.objs.size + 1) scope.names (cloFrom X.env.cells scope.names [])) s3.heap.objs.size X.env)) { s3 with heap := pushCells (s3.heap.push { cls := .type "dict", data := .dict #[] }) scope.names }
  generalize hce : compEnvC scope (cellsFrom (s3.heap.objs.size + 1) scope.names (cloFrom X.env.cells scope.names [])) s3.heap.objs.size X.env = ce at I4 pg pe cF ⊢
  have cL : ce.locals = s3.heap.objs.size := by subst hce; rfl
  generalize hH3 : upd H2 D (.lst []) = H3 at I3 I4 pg pe w0 nfp f3
  have st4 : tn 0 (pushCells (s3.heap.push { cls := .type "dict", data := .dict #[] }) scope.names) := T.keep _ _ _ st2 fun b _ o e => pushCells_keeps _ _ _ _ (Heap.get?_push_of_some _ (by rw [h3]; exact Heap.get?_push_of_some _ e))
  generalize hs4 : ({ s3 with heap := pushCells (s3.heap.push { cls := .type "dict", data := .dict #[] }) scope.names } : Shared) = s4 at I4 ⊢
  have st4 : tn 0 s4.heap := by rw [← hs4]; exact st4
  have stat : ∀ {σ' : L2.St} {H' : Hp} {s' : Shared}, Inv (X.blk s3 H3 scope ce fp) [] σ' H' s' → (∀ b ∈ fp, H' b = none) → ∀ b ∈ fp, FpOk (X.blk s3 H3 scope ce fp) [] H' b := fun {σ' H' s'} I' hn b hb =>
    ⟨hn b hb, (I'.ok.exf b hb).1, I'.ok.exfs b hb, .inl hb, fun x c e => (I'.ok.exf b hb).2 x c e, fun p hp => absurd (show p ∈ ([] : List (Addr × Obj)) ++ [] from hp) (by simp)⟩
  -- a state of the block is one of the def's
  have home : ∀ {pl : List (Addr × Obj)} {σ' : L2.St} {H' : Hp} {s' : Shared}, Inv (X.blk s3 H3 scope ce fp) pl σ' H' s' → Inv X pins σ H' s' ∧ FpOk X pins H' ce.locals := fun {pl σ' H' s'} I' => by
    refine ⟨I3.call' (ch := fp) I'.os I'.base I'.hok I'.bare fun b hb => ⟨(f3 b hb).1.2.2.2.1, (f3 b hb).1.2.1, (f3 b hb).1.2.2.2.2.1, (f3 b hb).1.2.2.2.2.2⟩, ?_⟩
    have z : H' ce.locals = none := I'.free
    rw [cL] at z ⊢
    exact I3.fpOk (Nat.le_refl _) z
  have nst : ce.locals ∉ frs X.stack := fun hm => by
    obtain ⟨_, o, eo, _⟩ := I3.stack.mem hm
    have := Heap.lt_size eo
    rw [cL] at this
    exact Nat.lt_irrefl _ this
  have loop : codeAny (model X.prog X.w) X.A (.compLoop (.ListComp elt [⟨tg, iter, [], 0⟩] scope pos) 0 (.ref it) (.ref D) ce) (compEnds (model X.prog X.w) X.A X.xe use Qf (.ref D) ce) s4 := by
    refine compLoop_any (fun n s' => ∃ i H', Inv (X.blk s3 H3 scope ce fp) [] (wipe σ (own.map (·.2))) H' s' ∧ tn i s'.heap ∧ (∀ b ∈ fp, H' b = none) ∧ V i n H') ?_ m0 ⟨0, H3, I4, st4, nfp, w0⟩
    rintro n s5 ⟨i, H5, I5, st5, n5, w5⟩
    rcases turn i n H5 w5 with ⟨stop, qq⟩ | ⟨go, Nx, hNx, step⟩
    · refine thnF (T.done (X.blk s3 H3 scope ce fp) rfl rfl rfl hc i [] s5 _ H5 (fun _ _ => False) I5 (stat I5 n5) st5 stop) fun r s6 ⟨hr, I6⟩ => ?_
      subst hr
      obtain ⟨I7, fC⟩ := home I6
      obtain ⟨m, hn, _⟩ := I6.loc
      exact hRR D ce s6 m H5 I7 qq hn fC
    · refine thnF (T.item (X.blk s3 H3 scope ce fp) rfl rfl rfl hc i [] s5 _ H5 (fun _ _ => False) I5 (stat I5 n5) st5 go) fun r s6 ⟨u, hr, h6⟩ => ?_
      subst hr
      refine thnF h6 fun _ s7 ⟨x, H7, I7, r7, y7, st7, n7⟩ => ?_
      have I7' := I7.pinned (stat I7 n7) (T.obj _ _ st7)
      refine thnF (pg.run _ s7 _ H7 x u _ I7' r7 (step x H7 y7)) fun _ s8 ⟨σ8, H8, I8, hw8, q8⟩ => ?_
      refine wpAny_tests_nil ?_
      have q8 : te σ8 H8 fun y H4 => ∃ acc, H4 D = some (.lst acc) ∧ acc.length < sizeLine ∧ Nx (upd H4 D (.lst (acc ++ [y]))) := q8
      simp only [if_true]
      have fin : ∀ {s' : Shared} {H' : Hp}, Inv (X.blk s3 H3 scope ce fp) ([] ++ pinsAt fp s7.heap) σ8 H' s' → Nx H' → ∃ m, m < n ∧ ∃ i H', Inv (X.blk s3 H3 scope ce fp) [] (wipe σ (own.map (·.2))) H' s' ∧ tn i s'.heap ∧ (∀ b ∈ fp, H' b = none) ∧ V i m H' := fun {s' H'} I' nx => by
        obtain ⟨m', hm, w'⟩ := hNx H' nx
        have pin' : ∀ b ∈ fp, ∀ o, s7.heap.get? b = some o → s'.heap.get? b = some o ∧ H' b = none := fun b hb o e =>
          let z := I'.pin (b, o) (List.mem_append_right _ (List.mem_append_right _ (mem_pinsAt hb e)))
          ⟨z.1, z.2.1⟩
        have hl : (wipe σ (own.map (·.2))).length = σ8.length := by rw [← hw8, wipe_length]
        refine ⟨m', hm, i + 1, H', (I'.unpinned (pins := [])).weak hl (fun j v e => ?_), T.keep _ _ _ st7 fun b hb o e => (pin' b hb o e).1, fun b hb => ?_, w'⟩
        · rw [← hw8] at e
          exact (wipe_some e).1
        · obtain ⟨o, e, _⟩ := T.obj _ _ st7 b hb
          exact (pin' b hb o e).2
      refine wpAny_mono ((pe (fun u s' => ∃ pl σ' H' s0, Inv (X.blk s3 H3 scope ce fp) pl σ' H' s0 ∧ L2.CX X.prog X.w X.stack H' s0 EX u s') (fun pl σ' H' s0 u s' I' c => ⟨pl, σ', H', s0, I'.unwish, c⟩)).run _ s8 σ8 H8 _ (I8.wish _) q8) (fun z s10 hz => ?_) fun u s10 ⟨pl, σ', H', s0, I', c⟩ => ?_
      · obtain ⟨yv, H10, I10, r10, acc, hD10, hz10, nx⟩ := hz
        exact app_ok (X := X.blk s3 H3 scope ce fp) I10.unwish hD10 hz10 r10 fun s11 I11 => fin I11 nx
      · obtain ⟨J', fC⟩ := home I'
        obtain ⟨m, hn, _⟩ := I'.loc
        have := fails_of hst hfm tk hW J' fC nst hn cF c
        cases use <;> exact this
  exact codeAny_compStart_list loop (T.self X.A 0 _ _ _ st4 loop)
theorem ps_setLcE {i : Nat} {y : Str} {py : Pos} {elt tg iter : Expr} {scope : Scope} {own : List (Str × Nat)} {pos spos : Pos} {wi : TI} {g : TG} {te : TE} (hst : X.stack = X.env :: X.outer) (hfm : X.env.frame = some X.env.locals) (tk : Takes X W) (hW : ∀ σ cls d H', EX cls d H' → W cls d σ H')
    (hc : X.calm = true) (hN : X.N.Nodup) (hy : X.N[i]? = some y) (hyl : X.env.scope.names.lookup y = some .local)
    (hsw : swapsWith (.ListComp elt [⟨tg, iter, [], 0⟩] scope pos) (some (.Name y py)) spos.line X.env = pure true) (hi : PI X tg iter wi) (ok : BlkOk X.N X.env.scope scope own)
    (hg : ∀ (s : Shared) (H : Hp) (C : Addr) (cl : List (Str × Addr)) (fp : List Addr), PG (X.blk s H scope (compEnvC scope cl C X.env) fp) tg g)
    (he : ∀ (s : Shared) (H : Hp) (C : Addr) (cl : List (Str × Addr)) (fp : List Addr) (xe : Value → Shared → Prop), Passes (L2.CX X.prog X.w) ((X.blk s H scope (compEnvC scope cl C X.env) fp).wish xe) EX → PE ((X.blk s H scope (compEnvC scope cl C X.env) fp).wish xe) elt te) (hs : ∀ x, foldedSetIterable iter X.env x = pure x := by intro _; rfl) :
    PS X (.Assign [.Name y py] (.ListComp elt [⟨tg, iter, [], 0⟩] scope pos) spos) (tAsg (tLc wi g tYes te (own.map (·.2))) (gName i)) := by
  refine ⟨fun pins s σ H De I h => ?_⟩
  rw [exec_Assign_Name_used _ _ _ _ hsw]
  refine wpAny_bind (wpAny_standAt (wpAny_bind ?_))
  show wpAny _ X.A (do let _ ← comprehension (.ListComp elt [⟨tg, iter, [], 0⟩] scope pos) scope X.env (firstIterPos [⟨tg, iter, [], 0⟩] pos) (newList []) false (eval iter X.env) (some (assign (.Name y py) X.env))) _ _ s
  have h : tLc wi g tYes te (own.map (·.2)) σ H (fun x H1 => gName i x σ H1 De.nx) := h
  refine wpAny_bind (thn (lcE_core (Qf := fun _ s' => SP X pins De .next s') hst hfm tk (hW σ) hc hN I hi ok hg he hs h fun L ce s' m H' I' q hn f => ?_) fun _ s' hq => wpAny_pure (wpAny_pure hq))
  show wpAny _ _ (assign (.Name y py) X.env (.ref L)) _ _ _
  refine wpAny_assign_Name (store_ok2 (v := V.ref L) I' hN hy (.inl hyl) rfl (fun s2 I2 ⟨a, sb, ha⟩ => ?_) (.inr hyl))
  obtain ⟨f0, f1, f2, f3, f4, f5⟩ := f
  have haC : ce.locals ≠ a := by
    rcases ha with z | z
    · rw [z]; exact f1
    · exact fun e => f4 y a z e.symm
  exact ⟨m, hn.sameBut sb haC, fun h3 sb3 => ⟨_, H', I2.turned (t' := s2.toks) (fun b o hb e => (sb3.2 b hb).trans e) f0 f1 f3 f4 f5, q⟩⟩
end
end TW
set_option Elab.async false
set_option linter.all false
set_option maxRecDepth 100000
namespace TW
open PySem PySem.Spec PyProof.Rows L2
def compGoE (vs is : List Nat) (f : D → R (List D)) (me : M D) : List D → M (List D)
  | [], cs => .ok ([], cs)
  | x :: xs, cs => match f x with
    | .ok ds => match me (setC cs is ds) with
      | .ok (d, c2) => match compGoE vs is f me xs (wipeC c2 vs) with
        | .ok (r, c3) => .ok (d :: r, c3)
        | .err n xs => .err n xs
        | .bad => .bad
      | .err n xs => .err n xs
      | .bad => .bad
    | _ => .bad
def mCompE (vs is : List Nat) (f : D → R (List D)) (mi : M (List D)) (me : M D) : M (List D) := M.bind mi fun ds => fun cs => compGoE vs is f me ds (wipeC cs vs)
def appR (acc : List D) (r : R (List D × List C)) : R (List D × List C) := match r with
  | .ok (rest, c) => .ok (acc ++ rest, c)
  | r => r
structure CompAtE (K : PySem.W.Frag) (vs is : List Nat) (f : D → R (List D)) (me : M D) (ds : List D) (tot : R (List D × List C)) (δ0 : List C) (G0 H0 : Hp) (σ0 : L2.St) (Dd : Addr) (i m : Nat) (H : Hp) : Prop where
  ex : ∃ (δi : List C) (Gi : Hp) (acc : List D) (accV : List V), i + m = ds.length ∧ Rel K (wipeC δi vs) Gi (wipe σ0 vs) H ∧ Ext δ0 G0 H0 σ0 (wipeC δi vs) Gi H (wipe σ0 vs) ∧ H Dd = some (.lst accV) ∧ RpAll K Gi accV acc ∧ acc.length ≤ i ∧ Gi Dd = none ∧
    ¬ OwA (wipeC δi vs) (wipe σ0 vs) Dd ∧ tot = appR acc (compGoE vs is f me (ds.drop i) (wipeC δi vs))
section
variable {ct : Nat → Addr} {W : WX} {X : Cx} {tg iter : Expr} {scope : Scope} {own : List (Str × Nat)} {cpos pos : Pos} {mi : M (List D)} {g : TG} {is : List Nat} {f : D → R (List D)} {n : Nat} {F : List D → R D} {ms : M (List D)}
theorem comp_coreE (K : PySem.W.Frag) (tk : TgOk K g is f) (hsub : ∀ i ∈ is, i ∈ own.map (·.2)) {σ : L2.St} {H : Hp} {Q : VK} (h : tG K ct W (PN K) (mCompE (own.map (·.2)) is f mi (mCall n F ms)) σ H Q) :
    tLc (tG K ct W (PIt K) mi) g tYes (tCall (spD K ct n F) [] (anyW W) (tG K ct W (PAs K) ms)) (own.map (·.2)) σ H Q := by
  refine tG.step h fun ds δ1 J G1 H1 r1 wk h1 => ?_
  intro Dd hD
  have wk : Walks K G1 J ds := wk
  revert h1 hsub
  generalize own.map (·.2) = vs
  intro hsub h1
  have h1 : Post K ct W (PN K) (compGoE vs is f (mCall n F ms) ds (wipeC δ1 vs)) δ1 G1 H1 σ Q := h1
  generalize htot : compGoE vs is f (mCall n F ms) ds (wipeC δ1 vs) = tot at h1
  refine ⟨fun i m H => CompAtE K vs is f (mCall n F ms) ds tot δ1 G1 H1 σ Dd i m H, ⟨ds.length, ⟨δ1, G1, [], [], by omega, ?_, ?_, upd_same, .nil, Nat.le_refl _, Same.free r1.same hD, ?_, ?_⟩⟩, fun i m H ⟨δi, Gi, acc, accV, eim, ri, xi, hDd, hacc, hal, hGD, hOD, eto⟩ => ?_⟩
  · exact upd_lst_rel (r1.wipe vs) (Same.free r1.same hD) (fun ⟨t, z⟩ => fresh_not r1 hD ⟨t, wipe_ow z⟩) (tabs_keep (same_upd hD) _ r1.tabs)
  · exact ⟨fun b o h _ _ => by rw [upd_ne (ne_of_none h hD)]; exact h, fun b hb o q => hb o (by rw [upd_ne (ne_of_none q hD)]; exact q), Same.refl _, fun _ _ h => .inl h, fun b h => .inl (wipe_ow h), fun b h => wipe_ow h⟩
  · exact fun ⟨t, z⟩ => fresh_not r1 hD ⟨t, wipe_ow z⟩
  · rw [List.drop_zero, htot]
    cases tot with
    | ok p => rfl
    | err k xs => rfl
    | bad => rfl
  have ow_keep : ∀ {δ' : List C} {G' H' : Hp} {σ' : L2.St} {Hx : Hp} {δx : List C} {Gx : Hp} {σx : L2.St} {av : List V}, Ext δx Gx Hx σx δ' G' H' σ' → Same G' H' → Hx Dd = some (.lst av) → ¬ OwA δx σx Dd → Gx Dd = none → H' Dd = some (.lst av) ∧ ¬ OwA δ' σ' Dd ∧ G' Dd = none := fun {δ' G' H' σ' Hx δx Gx σx av} x sm h1 h2 h3 => by
    refine ⟨x.keep _ _ h1 nt_lst h2, fun z => ?_, new_out x sm h1 nt_lst (fun _ => lst_code) h2 h3⟩
    rcases x.owA z with z | z
    · exact h2 z
    · exact z.not h1
  by_cases hi : i < ds.length
  · refine .inr ?_
    have hd : ds[i]? = some ds[i] := List.getElem?_eq_getElem hi
    obtain ⟨hgo, hy⟩ := wk.go i ds[i] Gi H hd xi.same ri.same ri.nt
    refine ⟨hgo, fun H' => CompAtE K vs is f (mCall n F ms) ds tot δ1 G1 H1 σ Dd (i + 1) (m - 1) H', fun H' hN => ⟨m - 1, by omega, hN⟩, fun x H' y => ?_⟩
    obtain ⟨G2, gr, rx⟩ := hy x H' y
    have x2 := gr.ext (δ := wipeC δi vs) (σ := wipe σ vs)
    have r2 := gr.rel ri
    obtain ⟨k1, k2, k3⟩ := ow_keep x2 r2.same hDd hOD hGD
    rw [drop_at hi] at eto
    unfold compGoE at eto
    cases ef : f ds[i] with
    | err k xs => simp only [ef] at eto; rw [eto] at h1; exact h1.elim
    | bad => simp only [ef] at eto; rw [eto] at h1; exact h1.elim
    | ok es =>
      simp only [ef] at eto
      refine tk.run (wipeC δi vs) (wipe σ vs) G2 H' x ds[i] es _ r2 rx ef fun ws hws => ?_
      have r3 := r2.setA (is := is) hws
      have x3 : Ext (wipeC δi vs) G2 H' (wipe σ vs) (setC (wipeC δi vs) is es) G2 H' (setA (wipe σ vs) is ws) := Ext.sub fun t b z => setA_ow hws z
      obtain ⟨j1, j2, j3⟩ := ow_keep x3 r3.same k1 k2 k3
      have hw : wipe (setA (wipe σ vs) is ws) vs = wipe σ vs := by
        rw [wipe_setA hsub]
        exact wipe_wipe vs vs fun _ h => h
      refine ⟨hw, ?_⟩
      unfold tYes
      simp only [if_true]
      refine call_core (W := W) ⟨_, _, r3, ?_⟩
      cases ee : mCall n F ms (setC (wipeC δi vs) is es) with
      | bad => simp only [ee] at eto; rw [eto] at h1; exact h1.elim
      | err k xs =>
        simp only [ee] at eto
        rw [eto] at h1
        exact fun cls dx σ' H'' x er => h1 cls dx σ' H'' (EExt.after (xi.trans (x2.trans x3)) x) er
      | ok p =>
        obtain ⟨d, c2⟩ := p
        simp only [ee] at eto
        intro yv G5 H5 x5 r5 ry
        obtain ⟨n1, n2, n3⟩ := ow_keep x5 r5.same j1 j2 j3
        have sz : accV.length < sizeLine := by
          have a1 := RpAll.length hacc
          have a2 := wk.size
          omega
        refine ⟨accV, n1, sz, ⟨c2, G5, acc ++ [d], accV ++ [yv], by omega, ?_, ?_, upd_same, ?_, by rw [List.length_append]; show acc.length + 1 ≤ i + 1; omega, n3, ?_, ?_⟩⟩
        · have := r5.wipe vs
          rw [hw] at this
          exact upd_lst_rel this n3 (fun ⟨t, z⟩ => n2 ⟨t, wipe_ow (vs := vs) (by rw [hw]; exact z)⟩) (tabs_lst n1 _ this.tabs)
        · have xt := xi.trans (x2.trans (x3.trans x5))
          refine ⟨fun b o h n nb => ?_, fun b hb => ?_, xt.same, xt.new, fun b z => xt.own b (wipe_ow (vs := vs) (by rw [hw]; exact z)), fun b z => xt.par b (wipe_ow (vs := vs) (by rw [hw]; exact z))⟩
          · rw [upd_ne (ne_of_none h hD)]
            exact xt.keep b o h n nb
          · by_cases q : b = Dd
            · subst q; exact hb.not upd_same
            · exact xt.back b fun o e => hb o (by rw [upd_ne q]; exact e)
        · exact RpAll.append (RpAll.mono (x2.same.trans (x3.same.trans x5.same)) hacc) (.cons ry .nil)
        · exact fun ⟨t, z⟩ => n2 ⟨t, wipe_ow (vs := vs) (by rw [hw]; exact z)⟩
        · rw [eto]
          cases compGoE vs is f (mCall n F ms) (ds.drop (i + 1)) (wipeC c2 vs) with
          | ok p => simp [appR]
          | err k xs => rfl
          | bad => rfl
  · refine .inl ⟨wk.stop i Gi H (by omega) xi.same ri.same, ?_⟩
    have e1 : ds.drop i = [] := List.drop_eq_nil_of_le (by omega)
    rw [e1] at eto
    unfold compGoE appR at eto
    simp only [List.append_nil] at eto
    rw [eto] at h1
    refine h1 (.ref Dd) Gi H ?_ ri.unwipe ⟨Dd, accV, rfl, fre_none hD, hDd, hGD, fun ⟨t, z⟩ => hOD ⟨t, unwipe_ow z⟩, by have := wk.size; omega, hacc⟩
    exact ⟨xi.keep, xi.back, xi.same, xi.new, fun b z => xi.own b (unwipe_ow z), fun b z => xi.par b (unwipe_ow z)⟩
theorem PS_lcE {i k j : Nat} {x y : Str} {py p p1 : Pos} {e : Expr} {es : List Expr} {ps : List Str} (hst : X.stack = X.env :: X.outer) (hfm : X.env.frame = some X.env.locals) (tkX : Takes X W) (hc : X.calm = true) (hN : X.N.Nodup) (hy : X.N[i]? = some x) (hyl : X.env.scope.names.lookup x = some .local) (hsw : swapsWith (.ListComp (.Call (.Name y p) (e :: es) [] p1) [⟨tg, iter, [], 0⟩] scope cpos) (some (.Name x py)) pos.line X.env = pure true)
    (tk : TgOk X.K g is f) (hi : VI ct W X tg iter mi) (ok : BlkOk X.N X.env.scope scope own) (hsub : ∀ i ∈ is, i ∈ own.map (·.2))
    (hg : ∀ (s : Shared) (H : Hp) (C : Addr) (cl : List (Str × Addr)) (fp : List Addr), PG (X.blk s H scope (compEnvC scope cl C X.env) fp) tg g)
    (c : Cal X.prog X.w X.K X.mg X.base y ps k (spD X.K ct n F)) (hr : Room j X.A) (hkj : k ≤ j) (hgl : ∀ (s : Shared) (H : Hp) (C : Addr) (cl : List (Str × Addr)) (fp : List Addr) (xe : Value → Shared → Prop), Gl ((X.blk s H scope (compEnvC scope cl C X.env) fp).wish xe) y)
    (ha : ∀ (s : Shared) (H : Hp) (C : Addr) (cl : List (Str × Addr)) (fp : List Addr) (xe : Value → Shared → Prop), VA ct W ((X.blk s H scope (compEnvC scope cl C X.env) fp).wish xe) (e :: es) ms)
    (hdb : (y == ("__debug__" : Str)) = false := by decide) (hse : ∀ (s : Shared) (H : Hp) (C : Addr) (cl : List (Str × Addr)) (fp : List Addr) (xe : Value → Shared → Prop), starEach (e :: es) ((X.blk s H scope (compEnvC scope cl C X.env) fp).wish xe).env = (false, eval e ((X.blk s H scope (compEnvC scope cl C X.env) fp).wish xe).env) :: starEach es ((X.blk s H scope (compEnvC scope cl C X.env) fp).wish xe).env := by intros; rfl)
    (hpl : ∀ (s : Shared) (H : Hp) (C : Addr) (cl : List (Str × Addr)) (fp : List Addr) (xe : Value → Shared → Prop), (backTo p1 (starEach es ((X.blk s H scope (compEnvC scope cl C X.env) fp).wish xe).env)).any (·.1) = false := by intros; rfl) (hs : ∀ x, foldedSetIterable iter X.env x = pure x := by intro _; rfl) :
    PS X (.Assign [.Name x py] (.ListComp (.Call (.Name y p) (e :: es) [] p1) [⟨tg, iter, [], 0⟩] scope cpos) pos) (tAsg (tG X.K ct W (PN X.K) (mCompE (own.map (·.2)) is f mi (mCall n F ms))) (gName i)) := by
  obtain ⟨fa, fd, Fo, hm, hk, hb⟩ := c.ex
  exact PS.conv (ps_setLcE (EX := anyW W) hst hfm tkX (fun σ cls d H' h => h σ) hc hN hy hyl hsw hi ok hg (fun s H C cl fp xe pa => pe_call (X := (X.blk s H scope (compEnvC scope cl C X.env) fp).wish xe) Fo (hr.mono hkj) (hgl s H C cl fp xe) hm hk hb .nil pa (ha s H C cl fp xe) hdb (hse s H C cl fp xe) (hpl s H C cl fp xe)) hs) fun D σ H h => comp_coreE X.K tk hsub h
end
end TW
set_option Elab.async false
set_option linter.all false
set_option maxRecDepth 100000
namespace TW
open PySem PySem.Spec PyProof.Rows L2
def gSlX : D → Option Int → Option Int → R D
  | .dict [(.none, .list ds)], lo, hi => .ok (.list (cutD ds lo hi))
  | _, _, _ => .bad
def mSlX (ma : M D) (ml mh : MO) : M D := M.bind ma fun d => M.bind ml fun lo => M.bind mh fun hi => M.only (gSlX d lo hi)
section
variable {ct : Nat → Addr} {W : WX} {X : Cx} {a : Expr} {ma : M D} {pos : Pos}
theorem ve_slX {p2 : Pos} {lo hi : Option Expr} {ml mh : MO} (ha : VE ct W X a ma) (hl : VO ct W X lo ml) (hh : VO ct W X hi mh) : VE ct W X (.Subscript a (.Slice lo hi none p2) pos) (mSlX ma ml mh) :=
  PE.conv (pe_slice (sl_tupN.or (sl_list.or sl_str)) ha hl hh) fun σ H Q h => tG.step h fun d δ1 x G1 H1 r1 p1 h1 => ⟨δ1, G1, r1, TW.step r1 h1 fun l δ2 y G2 H2 _ x2 r2 p2 h2 => ⟨δ2, G2, r2, TW.step r2 h2 fun u δ3 z G3 H3 _ x3 r3 p3 h3 => by
    obtain rfl : y = l := p2
    obtain rfl : z = u := p3
    obtain ⟨w, ez, h4⟩ := Post.only h3
    unfold gSlX at ez
    have p1' := Rp.mono (x2.same.trans x3.same) p1
    split at ez
    · cases ez
      obtain ⟨b, xs, e1, k1, k2, k3⟩ := Rp.ofScr p1'
      subst e1
      exact .inr (.inl ⟨b, xs, rfl, Same.seq r3.same k1, fun q hq => Post.done h4 r3 (Grow.laid r3.same r3.nt hq nt_lst) (.lst upd_same (Nat.le_trans (cutD_length _ _ _) k2) (RpAll.mono (same_upd (Same.free r3.same hq)) (cut_rp k3)))⟩)
    · cases ez⟩⟩
end
@[simp] theorem rn_mSlX {ma : M D} {ml mh : MO} {cs : List C} {Q : D → List C → Prop} : Rn (mSlX ma ml mh) cs Q ↔ Rn ma cs fun d c => Rn ml c fun lo c => Rn mh c fun hi c => Ev (gSlX d lo hi) fun z => Q z c := by
  unfold mSlX
  simp only [rn_bind, rn_only]
end TW
set_option Elab.async false
set_option linter.all false
set_option maxRecDepth 100000
namespace Td
open PySem PySem.Spec PyProof.Rows L2 TW
def b_Desk_told : MS := (mSeq (mIfS (mTest (mOp2 gEq (mVar 1) (mC (.str "web")))) (mRet (mCall 1 F_shown (mCons (mWeb (mVar 0)) mNil))) mNx) (mSeq (mIfS (mTest (mOp2 gEq (mVar 1) (mC (.str "ahead")))) (mRet (mJoin (mC (.str " ")) (mOfN (mComp [3] [3] fName (mSeq1 (mOfN (mCallN 1 F_sizes_ahead (mCons (mWeb (mVar 0)) mNil)))) mYes (mOp1 gStr (vVar 3)))))) mNx) (mSeq (mIfS (mTest (mOp2 gEq (mVar 1) (mC (.str "fate")))) (mRet (mJoin (mC (.str " ")) (mOfN (mComp [4] [4] fName (mSeq1 (mCall 1 F_fate (mCons (mWeb (mVar 0)) mNil))) mYes (mOp1 gStrT (vVar 4)))))) mNx) (mSeq (mSet 2 (mOfN (mCallN 1 F_all_sharings (mCons (mWeb (mVar 0)) mNil)))) (mSeq (mIfS (mTest (mOp2 gEq (mVar 1) (mC (.str "root")))) (mRet (mOp2 gIx (mOfN (mLst (mCons (mC (.str "no")) (mCons (mC (.str "yes")) mNil)))) (mOp1 gInt (mOp2 gNe (mVar 2) (mOfN (mLst mNil)))))) mNx) (mSeq (mIfS (mTest (mOp2 gEq (mVar 2) (mOfN (mLst mNil)))) (mRet (mC (.str "no"))) mNx) (mRet (mOrT (mJoin (mC (.str " + ")) (mOfN (mComp [5] [5] fName (mSeq1 (mOp2 gIx (mVar 2) (mC (.int 0)))) mYes (mJoin (mC (.str " ")) (mOfN (mComp [6] [6] fName (mSeq1 (mVar 5)) mYes (mOp1 gStr (vVar 6)))))))) (mC (.str "none"))))))))))
def F_Desk_told : List D → R D := fnD 7 b_Desk_told
def b_Desk_alone (x : Addr) : FB := (mSeqM (mIfM (mTest (mOp2 gEq (mVar 1) (mC (.str "make")))) (mRetM x 1 fKeep (mCons (mCall 1 F_tie_web (mCons (mWeb (mVar 0)) mNil)) mNil)) (liftM mNx)) (mSeqM (mIfM (mTest (mOp2 gEq (mVar 1) (mC (.str "back")))) (mSeqM (liftM (mIfS (mTest (mOp2 gEq (mPast (mVar 0)) (mOfN (mLst mNil)))) (mErr 11) mNx)) (mPopM x)) (liftM mNx)) (liftM (mRet (mMeth 2 F_Desk_told (mVar 0) (mCons (mVar 1) mNil))))))
def F_Desk_alone : FM := fnM 2 b_Desk_alone
def b_Desk_turn (x : Addr) : FB := (mSeqM (liftM (mDrop (mCall 2 F_need_place (mCons (mWeb (mVar 0)) (mCons (mVar 1) mNil))))) (mSeqM (liftM (mDrop (mCall 2 F_need_place (mCons (mWeb (mVar 0)) (mCons (mVar 2) mNil))))) (mSeqM (liftM (mIfS (mTest (mOp2 gEq (mVar 1) (vVar 2))) (mErr 8) mNx)) (mSeqM (liftM (mSet 3 (mTup (mCons (mOp2 gMin2 (mVar 1) (vVar 2)) (mCons (mOp2 gMax2 (mVar 1) (vVar 2)) mNil))))) (mSeqM (liftM (mSetN 4 (mComp [5] [5] fName (mSeq1 (mOp2 gIx (mWeb (mVar 0)) (mC (.int 1)))) (mTest (mOp2 gNe (mVar 5) (vVar 3))) (mVar 5)))) (mSeqM (liftM (mIfS (mTest (mOp2 gEq (mOp1 gLen (vVar 4)) (mOp1 gLen (mOp2 gIx (mWeb (mVar 0)) (mC (.int 1)))))) (mOn 4 (mVar 3) gApp) mNx)) (mRetM x 1 fKeep (mCons (mTup (mCons (mOp2 gIx (mWeb (mVar 0)) (mC (.int 0))) (mCons (mOp1 gTuple (mOfN (mOp1N gSorted (vVar 4)))) mNil))) mNil))))))))
def F_Desk_turn : FM := fnM 6 b_Desk_turn
def b_Desk_say (x : Addr) : FB := (mSeqM (liftM (mIfS (mNot (mTest (mOp1 (gIsi "str") (vVar 1)))) (mErr 10) mNx)) (mSeqM (liftM (mSet 2 (mOfN (mSplit (mVar 1) (mC (.str " ")))))) (mSeqM (mIfM (mAnd (mTest (mOp2 gEq (mOp1 gLen (vVar 2)) (mC (.int 1)))) (mTest (mOp2 (gInZ false) (mOp2 gIx (mVar 2) (mC (.int 0))) (mC (zpA [(.str "make"), (.str "back"), (.str "web"), (.str "root"), (.str "shared"), (.str "ahead"), (.str "fate")]))))) (mRetM x 1 F_Desk_alone (mCons (mOp2 gIx (mVar 2) (mC (.int 0))) mNil)) (liftM mNx)) (mSeqM (liftM (mSet 3 (mOfN (mCompE [4] [4] fName (mSeq1 (mSl (mVar 2) (mPart (mC (.int 1))) mNoPart)) (mCall 1 F_told_number (mCons (mVar 4) mNil)))))) (mSeqM (mIfM (mAnd (mTest (mOp2 gEq (mOp2 gIx (mVar 2) (mC (.int 0))) (mC (.str "places")))) (mAnd (mTest (mOp2 gEq (mOp1 gLen (vVar 3)) (mC (.int 1)))) (mTest (mOp2 oLe (mOp2 gIx (mVar 3) (mC (.int 0))) (mC (.int 14)))))) (mRetM x 1 fKeep (mCons (mTup (mCons (mOp2 gIx (mVar 3) (mC (.int 0))) (mCons (mTup mNil) mNil))) mNil)) (liftM mNx)) (mSeqM (mIfM (mAnd (mTest (mOp2 gEq (mOp2 gIx (mVar 2) (mC (.int 0))) (mC (.str "tie")))) (mTest (mOp2 gEq (mOp1 gLen (vVar 3)) (mC (.int 2))))) (mRetM x 2 F_Desk_turn (mCons (mOp2 gIx (mVar 3) (mC (.int 0))) (mCons (mOp2 gIx (mVar 3) (mC (.int 1))) mNil))) (liftM mNx)) (liftM (mErr 10))))))))
def F_Desk_say : FM := fnM 5 b_Desk_say
end Td
set_option Elab.async false
set_option linter.all false
set_option maxRecDepth 100000
namespace K93
open PySem PySem.Spec PyProof.Rows L2 TW Td
def topS (i : Nat) : Stmt := PySem.Challenge.pw_tiewebs_k93_lines_that_are_none.main.body.getD i (.Pass ⟨0, 0, 0, 0⟩)
abbrev s_is_whole : Stmt := topS 18
abbrev N_is_whole : List Str := ["thing"]
abbrev P_is_whole : List Str := ["thing"]
theorem sc_is_whole : FnScope N_is_whole P_is_whole (defScope s_is_whole) := ⟨rfl, rfl, rfl, by decide +kernel, rfl, by decide +kernel, by decide +kernel⟩
abbrev s_is_place : Stmt := topS 19
abbrev N_is_place : List Str := ["many", "thing"]
abbrev P_is_place : List Str := ["many", "thing"]
theorem sc_is_place : FnScope N_is_place P_is_place (defScope s_is_place) := ⟨rfl, rfl, rfl, by decide +kernel, rfl, by decide +kernel, by decide +kernel⟩
abbrev s_rises : Stmt := topS 20
abbrev N_rises : List Str := ["some", "one", "other"]
abbrev P_rises : List Str := ["some"]
theorem sc_rises : FnScope N_rises P_rises (defScope s_rises) := ⟨rfl, rfl, rfl, by decide +kernel, rfl, by decide +kernel, by decide +kernel⟩
abbrev s_is_tie : Stmt := topS 21
abbrev N_is_tie : List Str := ["many", "thing", "one"]
abbrev P_is_tie : List Str := ["many", "thing"]
theorem sc_is_tie : FnScope N_is_tie P_is_tie (defScope s_is_tie) := ⟨rfl, rfl, rfl, by decide +kernel, rfl, by decide +kernel, by decide +kernel⟩
abbrev s_is_web : Stmt := topS 22
abbrev N_is_web : List Str := ["thing", "tie"]
abbrev P_is_web : List Str := ["thing"]
theorem sc_is_web : FnScope N_is_web P_is_web (defScope s_is_web) := ⟨rfl, rfl, rfl, by decide +kernel, rfl, by decide +kernel, by decide +kernel⟩
abbrev s_need_web : Stmt := topS 23
abbrev N_need_web : List Str := ["thing"]
abbrev P_need_web : List Str := ["thing"]
theorem sc_need_web : FnScope N_need_web P_need_web (defScope s_need_web) := ⟨rfl, rfl, rfl, by decide +kernel, rfl, by decide +kernel, by decide +kernel⟩
abbrev s_need_place : Stmt := topS 24
abbrev N_need_place : List Str := ["web", "place"]
abbrev P_need_place : List Str := ["web", "place"]
theorem sc_need_place : FnScope N_need_place P_need_place (defScope s_need_place) := ⟨rfl, rfl, rfl, by decide +kernel, rfl, by decide +kernel, by decide +kernel⟩
abbrev s_need_small : Stmt := topS 25
abbrev N_need_small : List Str := ["web"]
abbrev P_need_small : List Str := ["web"]
theorem sc_need_small : FnScope N_need_small P_need_small (defScope s_need_small) := ⟨rfl, rfl, rfl, by decide +kernel, rfl, by decide +kernel, by decide +kernel⟩
abbrev s_are_tied : Stmt := topS 26
abbrev N_are_tied : List Str := ["web", "one", "other"]
abbrev P_are_tied : List Str := ["web", "one", "other"]
theorem sc_are_tied : FnScope N_are_tied P_are_tied (defScope s_are_tied) := ⟨rfl, rfl, rfl, by decide +kernel, rfl, by decide +kernel, by decide +kernel⟩
abbrev s_near_to : Stmt := topS 27
abbrev N_near_to : List Str := ["web", "place", "other"]
abbrev P_near_to : List Str := ["web", "place"]
theorem sc_near_to : FnScope N_near_to P_near_to (defScope s_near_to) := ⟨rfl, rfl, rfl, by decide +kernel, rfl, by decide +kernel, by decide +kernel⟩
abbrev s_counts_of : Stmt := topS 28
abbrev N_counts_of : List Str := ["web", "place"]
abbrev P_counts_of : List Str := ["web"]
theorem sc_counts_of : FnScope N_counts_of P_counts_of (defScope s_counts_of) := ⟨rfl, rfl, rfl, by decide +kernel, rfl, by decide +kernel, by decide +kernel⟩
abbrev s_piece_of : Stmt := topS 29
abbrev N_piece_of : List Str := ["web", "place", "found", "turn", "more", "other", "one"]
abbrev P_piece_of : List Str := ["web", "place"]
theorem sc_piece_of : FnScope N_piece_of P_piece_of (defScope s_piece_of) := ⟨rfl, rfl, rfl, by decide +kernel, rfl, by decide +kernel, by decide +kernel⟩
abbrev s_all_pieces : Stmt := topS 30
abbrev N_all_pieces : List Str := ["web", "place"]
abbrev P_all_pieces : List Str := ["web"]
theorem sc_all_pieces : FnScope N_all_pieces P_all_pieces (defScope s_all_pieces) := ⟨rfl, rfl, rfl, by decide +kernel, rfl, by decide +kernel, by decide +kernel⟩
abbrev s_meet : Stmt := topS 32
abbrev N_meet : List Str := ["one", "other"]
abbrev P_meet : List Str := ["one", "other"]
theorem sc_meet : FnScope N_meet P_meet (defScope s_meet) := ⟨rfl, rfl, rfl, by decide +kernel, rfl, by decide +kernel, by decide +kernel⟩
abbrev s_made : Stmt := topS 33
abbrev N_made : List Str := ["web", "ties", "found", "a", "b"]
abbrev P_made : List Str := ["web"]
theorem sc_made : FnScope N_made P_made (defScope s_made) := ⟨rfl, rfl, rfl, by decide +kernel, rfl, by decide +kernel, by decide +kernel⟩
abbrev s_need_few : Stmt := topS 34
abbrev N_need_few : List Str := ["web"]
abbrev P_need_few : List Str := ["web"]
theorem sc_need_few : FnScope N_need_few P_need_few (defScope s_need_few) := ⟨rfl, rfl, rfl, by decide +kernel, rfl, by decide +kernel, by decide +kernel⟩
abbrev s_tie_web : Stmt := topS 35
abbrev N_tie_web : List Str := ["web"]
abbrev P_tie_web : List Str := ["web"]
theorem sc_tie_web : FnScope N_tie_web P_tie_web (defScope s_tie_web) := ⟨rfl, rfl, rfl, by decide +kernel, rfl, by decide +kernel, by decide +kernel⟩
abbrev s_pairs_of : Stmt := topS 36
abbrev N_pairs_of : List Str := ["counts", "many"]
abbrev P_pairs_of : List Str := ["counts"]
theorem sc_pairs_of : FnScope N_pairs_of P_pairs_of (defScope s_pairs_of) := ⟨rfl, rfl, rfl, by decide +kernel, rfl, by decide +kernel, by decide +kernel⟩
abbrev s_sizes_ahead : Stmt := topS 38
abbrev N_sizes_ahead : List Str := ["web", "counts", "later", "a", "b"]
abbrev P_sizes_ahead : List Str := ["web"]
theorem sc_sizes_ahead : FnScope N_sizes_ahead P_sizes_ahead (defScope s_sizes_ahead) := ⟨rfl, rfl, rfl, by decide +kernel, rfl, by decide +kernel, by decide +kernel⟩
abbrev s_fate : Stmt := topS 39
abbrev N_fate : List Str := ["web", "counts"]
abbrev P_fate : List Str := ["web"]
theorem sc_fate : FnScope N_fate P_fate (defScope s_fate) := ⟨rfl, rfl, rfl, by decide +kernel, rfl, by decide +kernel, by decide +kernel⟩
abbrev s_crowds_in : Stmt := topS 41
abbrev N_crowds_in : List Str := ["web", "found", "crowds", "longer", "some", "place", "one", "other"]
abbrev P_crowds_in : List Str := ["web"]
theorem sc_crowds_in : FnScope N_crowds_in P_crowds_in (defScope s_crowds_in) := ⟨rfl, rfl, rfl, by decide +kernel, rfl, by decide +kernel, by decide +kernel⟩
abbrev s_ties_in : Stmt := topS 43
abbrev N_ties_in : List Str := ["crowd", "found", "at", "one", "other"]
abbrev P_ties_in : List Str := ["crowd"]
theorem sc_ties_in : FnScope N_ties_in P_ties_in (defScope s_ties_in) := ⟨rfl, rfl, rfl, by decide +kernel, rfl, by decide +kernel, by decide +kernel⟩
abbrev s_may_join : Stmt := topS 44
abbrev N_may_join : List Str := ["web", "some", "crowd", "other", "place"]
abbrev P_may_join : List Str := ["web", "some", "crowd"]
theorem sc_may_join : FnScope N_may_join P_may_join (defScope s_may_join) := ⟨rfl, rfl, rfl, by decide +kernel, rfl, by decide +kernel, by decide +kernel⟩
abbrev s_behind : Stmt := topS 45
abbrev N_behind : List Str := ["web", "crowds", "some", "left", "found", "crowd", "own", "tie"]
abbrev P_behind : List Str := ["web", "crowds", "some", "left"]
theorem sc_behind : FnScope N_behind P_behind (defScope s_behind) := ⟨rfl, rfl, rfl, by decide +kernel, rfl, by decide +kernel, by decide +kernel⟩
abbrev s_sharings_of : Stmt := topS 46
abbrev N_sharings_of : List Str := ["web"]
abbrev P_sharings_of : List Str := ["web"]
theorem sc_sharings_of : FnScope N_sharings_of P_sharings_of (defScope s_sharings_of) := ⟨rfl, rfl, rfl, by decide +kernel, rfl, by decide +kernel, by decide +kernel⟩
abbrev s_all_sharings : Stmt := topS 47
abbrev N_all_sharings : List Str := ["web"]
abbrev P_all_sharings : List Str := ["web"]
theorem sc_all_sharings : FnScope N_all_sharings P_all_sharings (defScope s_all_sharings) := ⟨rfl, rfl, rfl, by decide +kernel, rfl, by decide +kernel, by decide +kernel⟩
abbrev s_shown : Stmt := topS 51
abbrev N_shown : List Str := ["web", "a", "b"]
abbrev P_shown : List Str := ["web"]
theorem sc_shown : FnScope N_shown P_shown (defScope s_shown) := ⟨rfl, rfl, rfl, by decide +kernel, rfl, by decide +kernel, by decide +kernel⟩
abbrev s_number_in : Stmt := topS 52
abbrev N_number_in : List Str := ["word", "sign"]
abbrev P_number_in : List Str := ["word"]
theorem sc_number_in : FnScope N_number_in P_number_in (defScope s_number_in) := ⟨rfl, rfl, rfl, by decide +kernel, rfl, by decide +kernel, by decide +kernel⟩
abbrev s_told_number : Stmt := topS 55
abbrev N_told_number : List Str := ["word", "found"]
abbrev P_told_number : List Str := ["word"]
theorem sc_told_number : FnScope N_told_number P_told_number (defScope s_told_number) := ⟨rfl, rfl, rfl, by decide +kernel, rfl, by decide +kernel, by decide +kernel⟩
abbrev s_Desk___init__ : Stmt := inClass (topS 56) 0
abbrev N_Desk___init__ : List Str := ["self"]
abbrev P_Desk___init__ : List Str := ["self"]
theorem sc_Desk___init__ : FnScope N_Desk___init__ P_Desk___init__ (defScope s_Desk___init__) := ⟨rfl, rfl, rfl, by decide +kernel, rfl, by decide +kernel, by decide +kernel⟩
abbrev s_Desk_say : Stmt := inClass (topS 56) 1
abbrev N_Desk_say : List Str := ["self", "line", "words", "numbers", "word"]
abbrev P_Desk_say : List Str := ["self", "line"]
theorem sc_Desk_say : FnScope N_Desk_say P_Desk_say (defScope s_Desk_say) := ⟨rfl, rfl, rfl, by decide +kernel, rfl, by decide +kernel, by decide +kernel⟩
abbrev s_Desk_turn : Stmt := inClass (topS 56) 2
abbrev N_Desk_turn : List Str := ["self", "one", "other", "tie", "ties", "old"]
abbrev P_Desk_turn : List Str := ["self", "one", "other"]
theorem sc_Desk_turn : FnScope N_Desk_turn P_Desk_turn (defScope s_Desk_turn) := ⟨rfl, rfl, rfl, by decide +kernel, rfl, by decide +kernel, by decide +kernel⟩
abbrev s_Desk_keep : Stmt := inClass (topS 56) 3
abbrev N_Desk_keep : List Str := ["self", "web"]
abbrev P_Desk_keep : List Str := ["self", "web"]
theorem sc_Desk_keep : FnScope N_Desk_keep P_Desk_keep (defScope s_Desk_keep) := ⟨rfl, rfl, rfl, by decide +kernel, rfl, by decide +kernel, by decide +kernel⟩
abbrev s_Desk_alone : Stmt := inClass (topS 56) 4
abbrev N_Desk_alone : List Str := ["self", "word"]
abbrev P_Desk_alone : List Str := ["self", "word"]
theorem sc_Desk_alone : FnScope N_Desk_alone P_Desk_alone (defScope s_Desk_alone) := ⟨rfl, rfl, rfl, by decide +kernel, rfl, by decide +kernel, by decide +kernel⟩
abbrev s_Desk_told : Stmt := inClass (topS 56) 5
abbrev N_Desk_told : List Str := ["self", "word", "found", "number", "part", "crowd", "place"]
abbrev P_Desk_told : List Str := ["self", "word"]
theorem sc_Desk_told : FnScope N_Desk_told P_Desk_told (defScope s_Desk_told) := ⟨rfl, rfl, rfl, by decide +kernel, rfl, by decide +kernel, by decide +kernel⟩
abbrev s__law_refused : Stmt := topS 58
abbrev N__law_refused : List Str := ["_law_call", "_law_error", "_law_marks", "_law_found", "e", "_law_k"]
abbrev P__law_refused : List Str := ["_law_call"]
theorem sc__law_refused : FnScope N__law_refused P__law_refused (defScope s__law_refused) := ⟨rfl, rfl, rfl, by decide +kernel, rfl, by decide +kernel, by decide +kernel⟩
abbrev s__law_bad : Stmt := topS 59
abbrev N__law_bad : List Str := ["_law_k", "_law_some"]
abbrev P__law_bad : List Str := ["_law_k"]
theorem sc__law_bad : FnScope N__law_bad P__law_bad (defScope s__law_bad) := ⟨rfl, rfl, rfl, by decide +kernel, rfl, by decide +kernel, by decide +kernel⟩
abbrev s_law : Stmt := topS 60
abbrev N_law : List Str := ["_law_script", "_law_desk", "_law_words", "_law_told", "_law_word", "_law_cell", "_law_line"]
abbrev P_law : List Str := ["_law_script"]
theorem sc_law : FnScope N_law P_law (defScope s_law) := ⟨rfl, rfl, rfl, by decide +kernel, rfl, by decide +kernel, by decide +kernel⟩
section
variable {P : Program} {w : World} {K : PySem.W.Frag} {mg : Str → Option Value} {base : Heap} {ct : Nat → Addr} {cw : Addr}
theorem k_is_whole (T : Tx K mg "is_whole" s_is_whole P_is_whole) (m_bool : mg "bool" = none) (m_int : mg "int" = none) (m_isinstance : mg "isinstance" = none) : Cal P w K mg base "is_whole" P_is_whole 1 (spD K ct 1 F_is_whole) := by
  show Cal P w K mg base "is_whole" P_is_whole 1 (spD K ct 1 (fnD 1 b_is_whole))
  refine calDm (P := P) (w := w) (base := base) (ct := ct) (body := b_is_whole) (k := 0) T sc_is_whole rfl rfl (by decide) fun f cdv A outer s H E hr tk hp => ?_
  unfold b_is_whole
  refine vss_one ?_
  exact vs_ret (ve_and (ve_isi ty_int (by rfl) m_isinstance (vv_var 0 (pv 0)) (pe_bltn (by rfl) m_int PyProof.Rows.boot_int rfl)) (ve_one (ve_not (ve_isi ty_bool (by rfl) m_isinstance (vv_var 0 (pv 0)) (pe_bltn (by rfl) m_bool PyProof.Rows.boot_bool rfl)))))
end
section
variable {P : Program} {w : World} {K : PySem.W.Frag} {mg : Str → Option Value} {base : Heap} {ct : Nat → Addr} {cw : Addr}
theorem k_is_place (T : Tx K mg "is_place" s_is_place P_is_place) (k_is_whole : Cal P w K mg base "is_whole" P_is_whole 1 (spD K ct 1 F_is_whole)) : Cal P w K mg base "is_place" P_is_place 2 (spD K ct 2 F_is_place) := by
  show Cal P w K mg base "is_place" P_is_place 2 (spD K ct 2 (fnD 2 b_is_place))
  refine calDm (P := P) (w := w) (base := base) (ct := ct) (body := b_is_place) (k := 1) T sc_is_place rfl rfl (by decide) fun f cdv A outer s H E hr tk hp => ?_
  unfold b_is_place
  refine vss_one ?_
  exact vs_ret (ve_and (ve_callC k_is_whole hr (by decide) tk (by rfl) (va_cons (ve_var 1 (pv 1)) va_nil)) (ve_one (ve_leLt hr (ve_c pe_int (.int _)) (ve_var 1 (pv 1)) (vv_var 0 (pv 0)))))
end
section
variable {P : Program} {w : World} {K : PySem.W.Frag} {mg : Str → Option Value} {base : Heap} {ct : Nat → Addr} {cw : Addr}
theorem k_rises (T : Tx K mg "rises" s_rises P_rises) (m_all : mg "all" = none) (m_zip : mg "zip" = none) : Cal P w K mg base "rises" P_rises 1 (spD K ct 1 F_rises) := by
  show Cal P w K mg base "rises" P_rises 1 (spD K ct 1 (fnD 3 b_rises))
  refine calDm (P := P) (w := w) (base := base) (ct := ct) (body := b_rises) (k := 0) T sc_rises rfl rfl (by decide) fun f cdv A outer s H E hr tk hp => ?_
  unfold b_rises
  refine vss_one ?_
  exact vs_ret (ve_all rfl (by rfl) m_all (vv_ofN (vn_lc (own := [("one", 1), ("other", 2)]) rfl sc_rises.nd tg_two (vi_zip (by rfl) m_zip (ve_var 0 (pv 0)) (ve_sl (ve_var 0 (pv 0)) (vo_some (ve_c pe_int (.int _))) vo_none)) (blkOk_by (N := N_rises) (sc := defScope s_rises) (by decide +kernel)) (by decide) (fun _ _ _ _ _ => (pg_tup rfl (pgs_cons (pg_name (i := 1) sc_rises.nd rfl (Or.inl rfl)) (pgs_cons (pg_name (i := 2) sc_rises.nd rfl (Or.inl rfl)) pgs_nil)))) (fun _ _ _ _ _ => vts_nil) (fun _ _ _ _ _ => (ve_lt hr (ve_var 1 (pv 1)) (vv_var 2 (pv 2)))))))
end
section
variable {P : Program} {w : World} {K : PySem.W.Frag} {mg : Str → Option Value} {base : Heap} {ct : Nat → Addr} {cw : Addr}
theorem k_is_tie (T : Tx K mg "is_tie" s_is_tie P_is_tie) (m_all : mg "all" = none) (m_isinstance : mg "isinstance" = none) (m_len : mg "len" = none) (m_tuple : mg "tuple" = none) (k_is_place : Cal P w K mg base "is_place" P_is_place 2 (spD K ct 2 F_is_place)) : Cal P w K mg base "is_tie" P_is_tie 3 (spD K ct 2 F_is_tie) := by
  show Cal P w K mg base "is_tie" P_is_tie 3 (spD K ct 2 (fnD 3 b_is_tie))
  refine calDm (P := P) (w := w) (base := base) (ct := ct) (body := b_is_tie) (k := 2) T sc_is_tie rfl rfl (by decide) fun f cdv A outer s H E hr tk hp => ?_
  unfold b_is_tie
  refine vss_cons ?_ ?_
  · refine vs_if ?_ ?_ ?_
    · exact (vt_w (vw_or (vt_not (vt_val (ve_isi ty_tuple (by rfl) m_isinstance (vv_var 1 (pv 1)) (pe_bltn (by rfl) m_tuple PyProof.Rows.boot_tuple rfl)))) (vw_or (vt_ne hr (ve_len (by rfl) m_len (vv_var 1 (pv 1))) (vv_of (ve_c pe_int (.int _)))) (vw_or1 (vt_not (vt_val (ve_all rfl (by rfl) m_all (vv_ofN (vn_lc (own := [("one", 2)]) rfl sc_is_tie.nd tg_name (vi_seq (ve_var 1 (pv 1))) (blkOk_by (N := N_is_tie) (sc := defScope s_is_tie) (by decide +kernel)) (by decide) (fun _ _ _ _ _ => (pg_name (i := 2) sc_is_tie.nd rfl (Or.inl rfl))) (fun _ _ _ _ _ => vts_nil) (fun _ _ _ _ _ => (ve_callC k_is_place hr (by decide) takesW0 (by rfl) (va_cons (ve_var 0 (pv 0)) (va_cons (ve_var 2 (pv 2)) va_nil)))))))))))))
    · refine vss_one ?_
      exact vs_ret (ve_c pe_bl (.bl _))
    · exact vss_nil
  · refine vss_one ?_
    exact vs_ret (ve_lt hr (ve_ix (ve_var 1 (pv 1)) (vv_of (ve_c pe_int (.int _))) (fun _ _ => rfl)) (vv_of (ve_ix (ve_var 1 (pv 1)) (vv_of (ve_c pe_int (.int _))) (fun _ _ => rfl))))
end
section
variable {P : Program} {w : World} {K : PySem.W.Frag} {mg : Str → Option Value} {base : Heap} {ct : Nat → Addr} {cw : Addr}
theorem k_is_web (T : Tx K mg "is_web" s_is_web P_is_web) (m_all : mg "all" = none) (m_isinstance : mg "isinstance" = none) (m_len : mg "len" = none) (m_tuple : mg "tuple" = none) (c_MOST_PLACES : GcI mg "MOST_PLACES" 14) (k_rises : Cal P w K mg base "rises" P_rises 1 (spD K ct 1 F_rises)) (k_is_tie : Cal P w K mg base "is_tie" P_is_tie 3 (spD K ct 2 F_is_tie)) (k_is_whole : Cal P w K mg base "is_whole" P_is_whole 1 (spD K ct 1 F_is_whole)) : Cal P w K mg base "is_web" P_is_web 4 (spD K ct 1 F_is_web) := by
  show Cal P w K mg base "is_web" P_is_web 4 (spD K ct 1 (fnD 2 b_is_web))
  refine calDm (P := P) (w := w) (base := base) (ct := ct) (body := b_is_web) (k := 3) T sc_is_web rfl rfl (by decide) fun f cdv A outer s H E hr tk hp => ?_
  unfold b_is_web
  refine vss_cons ?_ ?_
  · refine vs_if ?_ ?_ ?_
    · exact (vt_w (vw_or (vt_not (vt_val (ve_isi ty_tuple (by rfl) m_isinstance (vv_var 0 (pv 0)) (pe_bltn (by rfl) m_tuple PyProof.Rows.boot_tuple rfl)))) (vw_or (vt_ne hr (ve_len (by rfl) m_len (vv_var 0 (pv 0))) (vv_of (ve_c pe_int (.int _)))) (vw_or (vt_not (vt_val (ve_callC k_is_whole hr (by decide) tk (by rfl) (va_cons (ve_ix (ve_var 0 (pv 0)) (vv_of (ve_c pe_int (.int _))) (fun _ _ => rfl)) va_nil)))) (vw_or1 (vt_not (vt_leLe hr (ve_c pe_int (.int _)) (ve_ix (ve_var 0 (pv 0)) (vv_of (ve_c pe_int (.int _))) (fun _ _ => rfl)) (vv_of (ve_gi c_MOST_PLACES (by rfl))))))))))
    · refine vss_one ?_
      exact vs_ret (ve_c pe_bl (.bl _))
    · exact vss_nil
  · refine vss_one ?_
    exact vs_ret (ve_and (ve_isi ty_tuple (by rfl) m_isinstance (vv_of (ve_ix (ve_var 0 (pv 0)) (vv_of (ve_c pe_int (.int _))) (fun _ _ => rfl))) (pe_bltn (by rfl) m_tuple PyProof.Rows.boot_tuple rfl)) (ve_and (ve_all rfl (by rfl) m_all (vv_ofN (vn_lc (own := [("tie", 1)]) rfl sc_is_web.nd tg_name (vi_seq (ve_ix (ve_var 0 (pv 0)) (vv_of (ve_c pe_int (.int _))) (fun _ _ => rfl))) (blkOk_by (N := N_is_web) (sc := defScope s_is_web) (by decide +kernel)) (by decide) (fun _ _ _ _ _ => (pg_name (i := 1) sc_is_web.nd rfl (Or.inl rfl))) (fun _ _ _ _ _ => vts_nil) (fun _ _ _ _ _ => (ve_callC k_is_tie hr (by decide) takesW0 (by rfl) (va_cons (ve_ix (ve_var 0 (pv 0)) (vv_of (ve_c pe_int (.int _))) (fun _ _ => rfl)) (va_cons (ve_var 1 (pv 1)) va_nil))))))) (ve_one (ve_callC k_rises hr (by decide) tk (by rfl) (va_cons (ve_ix (ve_var 0 (pv 0)) (vv_of (ve_c pe_int (.int _))) (fun _ _ => rfl)) va_nil)))))
end
section
variable {P : Program} {w : World} {K : PySem.W.Frag} {mg : Str → Option Value} {base : Heap} {ct : Nat → Addr} {cw : Addr}
theorem k_need_web (T : Tx K mg "need_web" s_need_web P_need_web) (e_NoWeb : ErrC K mg ct 0 "NoWeb") (k_is_web : Cal P w K mg base "is_web" P_is_web 4 (spD K ct 1 F_is_web)) : Cal P w K mg base "need_web" P_need_web 5 (spD K ct 1 F_need_web) := by
  show Cal P w K mg base "need_web" P_need_web 5 (spD K ct 1 (fnD 1 b_need_web))
  refine calDm (P := P) (w := w) (base := base) (ct := ct) (body := b_need_web) (k := 4) T sc_need_web rfl rfl (by decide) fun f cdv A outer s H E hr tk hp => ?_
  unfold b_need_web
  refine vss_one ?_
  refine vs_if ?_ ?_ ?_
  · exact (vt_not (vt_val (ve_callC k_is_web hr (by decide) tk (by rfl) (va_cons (ve_var 0 (pv 0)) va_nil))))
  · refine vss_one ?_
    exact vs_raise rfl tk e_NoWeb (by rfl)
  · exact vss_nil
end
section
variable {P : Program} {w : World} {K : PySem.W.Frag} {mg : Str → Option Value} {base : Heap} {ct : Nat → Addr} {cw : Addr}
theorem k_need_place (T : Tx K mg "need_place" s_need_place P_need_place) (e_NoPlace : ErrC K mg ct 1 "NoPlace") (k_is_place : Cal P w K mg base "is_place" P_is_place 2 (spD K ct 2 F_is_place)) : Cal P w K mg base "need_place" P_need_place 3 (spD K ct 2 F_need_place) := by
  show Cal P w K mg base "need_place" P_need_place 3 (spD K ct 2 (fnD 2 b_need_place))
  refine calDm (P := P) (w := w) (base := base) (ct := ct) (body := b_need_place) (k := 2) T sc_need_place rfl rfl (by decide) fun f cdv A outer s H E hr tk hp => ?_
  unfold b_need_place
  refine vss_one ?_
  refine vs_if ?_ ?_ ?_
  · exact (vt_not (vt_val (ve_callC k_is_place hr (by decide) tk (by rfl) (va_cons (ve_ix (ve_var 0 (pv 0)) (vv_of (ve_c pe_int (.int _))) (fun _ _ => rfl)) (va_cons (ve_var 1 (pv 1)) va_nil)))))
  · refine vss_one ?_
    exact vs_raise rfl tk e_NoPlace (by rfl)
  · exact vss_nil
end
section
variable {P : Program} {w : World} {K : PySem.W.Frag} {mg : Str → Option Value} {base : Heap} {ct : Nat → Addr} {cw : Addr}
theorem k_need_small (T : Tx K mg "need_small" s_need_small P_need_small) (c_MOST_SMALL : GcI mg "MOST_SMALL" 7) (gr : GreatOk P w K mg base (ct 12)) : Cal P w K mg base "need_small" P_need_small 3 (spD K ct 1 F_need_small) := by
  show Cal P w K mg base "need_small" P_need_small 3 (spD K ct 1 (fnD 1 b_need_small))
  refine calDm (P := P) (w := w) (base := base) (ct := ct) (body := b_need_small) (k := 2) T sc_need_small rfl rfl (by decide) fun f cdv A outer s H E hr tk hp => ?_
  unfold b_need_small
  refine vss_one ?_
  refine vs_if ?_ ?_ ?_
  · exact (vt_gt hr (ve_ix (ve_var 0 (pv 0)) (vv_of (ve_c pe_int (.int _))) (fun _ _ => rfl)) (vv_of (ve_gi c_MOST_SMALL (by rfl))))
  · refine vss_one ?_
    exact vs_raiseG (n := 12) rfl tk gr hr (by decide) (by rfl) (va_cons (ve_ix (ve_var 0 (pv 0)) (vv_of (ve_c pe_int (.int _))) (fun _ _ => rfl)) (va_cons (ve_gi c_MOST_SMALL (by rfl)) va_nil))
  · exact vss_nil
end
section
variable {P : Program} {w : World} {K : PySem.W.Frag} {mg : Str → Option Value} {base : Heap} {ct : Nat → Addr} {cw : Addr}
theorem k_are_tied (T : Tx K mg "are_tied" s_are_tied P_are_tied) (m_max : mg "max" = none) (m_min : mg "min" = none) : Cal P w K mg base "are_tied" P_are_tied 1 (spD K ct 3 F_are_tied) := by
  show Cal P w K mg base "are_tied" P_are_tied 1 (spD K ct 3 (fnD 3 b_are_tied))
  refine calDm (P := P) (w := w) (base := base) (ct := ct) (body := b_are_tied) (k := 0) T sc_are_tied rfl rfl (by decide) fun f cdv A outer s H E hr tk hp => ?_
  unfold b_are_tied
  refine vss_one ?_
  exact vs_ret (ve_in hr (ve_tup (va_cons (ve_min2 rfl (by rfl) m_min (ve_var 1 (pv 1)) (vv_var 2 (pv 2))) (va_cons (ve_max2 rfl (by rfl) m_max (ve_var 1 (pv 1)) (vv_var 2 (pv 2))) va_nil))) (vv_of (ve_ix (ve_var 0 (pv 0)) (vv_of (ve_c pe_int (.int _))) (fun _ _ => rfl))))
end
section
variable {P : Program} {w : World} {K : PySem.W.Frag} {mg : Str → Option Value} {base : Heap} {ct : Nat → Addr} {cw : Addr}
theorem k_near_to (T : Tx K mg "near_to" s_near_to P_near_to) (m_range : mg "range" = none) (k_are_tied : Cal P w K mg base "are_tied" P_are_tied 1 (spD K ct 3 F_are_tied)) : Cal P w K mg base "near_to" P_near_to 2 (spN K ct 2 F_near_to) := by
  show Cal P w K mg base "near_to" P_near_to 2 (spN K ct 2 (fnN 3 b_near_to))
  refine calNm (P := P) (w := w) (base := base) (ct := ct) (body := b_near_to) (k := 1) T sc_near_to rfl rfl (by decide) fun f cdv A outer s H E hr tk hp => ?_
  unfold b_near_to
  refine vss_one ?_
  exact vs_retN (vn_lc (own := [("other", 2)]) rfl sc_near_to.nd tg_name (vi_range1 (by rfl) m_range (ve_ix (ve_var 0 (pv 0)) (vv_of (ve_c pe_int (.int _))) (fun _ _ => rfl))) (blkOk_by (N := N_near_to) (sc := defScope s_near_to) (by decide +kernel)) (by decide) (fun _ _ _ _ _ => (pg_name (i := 2) sc_near_to.nd rfl (Or.inl rfl))) (fun _ _ _ _ _ => (vts_one (vt_val (ve_callC k_are_tied hr (by decide) takesW0 (by rfl) (va_cons (ve_var 0 (pv 0)) (va_cons (ve_var 1 (pv 1)) (va_cons (ve_var 2 (pv 2)) va_nil))))))) (fun _ _ _ _ _ => (ve_var 2 (pv 2))))
end
section
variable {P : Program} {w : World} {K : PySem.W.Frag} {mg : Str → Option Value} {base : Heap} {ct : Nat → Addr} {cw : Addr}
theorem k_counts_of (T : Tx K mg "counts_of" s_counts_of P_counts_of) (m_len : mg "len" = none) (m_range : mg "range" = none) (k_near_to : Cal P w K mg base "near_to" P_near_to 2 (spN K ct 2 F_near_to)) : Cal P w K mg base "counts_of" P_counts_of 3 (spN K ct 1 F_counts_of) := by
  show Cal P w K mg base "counts_of" P_counts_of 3 (spN K ct 1 (fnN 2 b_counts_of))
  refine calNm (P := P) (w := w) (base := base) (ct := ct) (body := b_counts_of) (k := 2) T sc_counts_of rfl rfl (by decide) fun f cdv A outer s H E hr tk hp => ?_
  unfold b_counts_of
  refine vss_one ?_
  exact vs_retN (vn_lc (own := [("place", 1)]) rfl sc_counts_of.nd tg_name (vi_range1 (by rfl) m_range (ve_ix (ve_var 0 (pv 0)) (vv_of (ve_c pe_int (.int _))) (fun _ _ => rfl))) (blkOk_by (N := N_counts_of) (sc := defScope s_counts_of) (by decide +kernel)) (by decide) (fun _ _ _ _ _ => (pg_name (i := 1) sc_counts_of.nd rfl (Or.inl rfl))) (fun _ _ _ _ _ => vts_nil) (fun _ _ _ _ _ => (ve_len (by rfl) m_len (vv_ofN (vn_callC k_near_to hr (by decide) takesW0 (by rfl) (va_cons (ve_var 0 (pv 0)) (va_cons (ve_var 1 (pv 1)) va_nil)))))))
end
section
variable {P : Program} {w : World} {K : PySem.W.Frag} {mg : Str → Option Value} {base : Heap} {ct : Nat → Addr} {cw : Addr}
theorem k_piece_of (T : Tx K mg "piece_of" s_piece_of P_piece_of) (m_any : mg "any" = none) (m_range : mg "range" = none) (m_set : mg "set" = none) (m_sorted : mg "sorted" = none) (m_tuple : mg "tuple" = none) (k_are_tied : Cal P w K mg base "are_tied" P_are_tied 1 (spD K ct 3 F_are_tied)) : Cal P w K mg base "piece_of" P_piece_of 2 (spD K ct 2 F_piece_of) := by
  show Cal P w K mg base "piece_of" P_piece_of 2 (spD K ct 2 (fnD 7 b_piece_of))
  refine calDm (P := P) (w := w) (base := base) (ct := ct) (body := b_piece_of) (k := 1) T sc_piece_of rfl rfl (by decide) fun f cdv A outer s H E hr tk hp => ?_
  unfold b_piece_of
  refine vss_cons ?_ ?_
  · exact vs_set (i := 2) sc_piece_of.nd rfl (Or.inr rfl) (ve_ofN (vn_lst (va_cons (ve_var 1 (pv 1)) va_nil)))
  · refine vss_cons ?_ ?_
    · refine vs_for hp rfl tg_name (vi_range1 (by rfl) m_range (ve_ix (ve_var 0 (pv 0)) (vv_of (ve_c pe_int (.int _))) (fun _ _ => rfl))) (pg_name (i := 3) sc_piece_of.nd rfl (Or.inl rfl)) ?_
      refine vss_cons ?_ ?_
      · exact vs_setLc (i := 4) sc_piece_of.nd rfl (PS_lc (own := [("other", 5)]) rfl sc_piece_of.nd rfl rfl (sw_true rfl rfl rfl (by decide +kernel)) tg_name (vi_range1 (by rfl) m_range (ve_ix (ve_var 0 (pv 0)) (vv_of (ve_c pe_int (.int _))) (fun _ _ => rfl))) (blkOk_by (N := N_piece_of) (sc := defScope s_piece_of) (by decide +kernel)) (by decide) (fun _ _ _ _ _ => (pg_name (i := 5) sc_piece_of.nd rfl (Or.inr rfl))) (fun _ _ _ _ _ => (vts_one (vt_val (ve_any rfl (by rfl) m_any (vv_ofN (vn_lc (own := [("one", 6)]) rfl sc_piece_of.nd tg_name (vi_seq (ve_var 2 (pv 2))) (blkOk_by (by rfl)) (by decide) (fun _ _ _ _ _ => (pg_name (i := 6) sc_piece_of.nd rfl (Or.inl rfl))) (fun _ _ _ _ _ => vts_nil) (fun _ _ _ _ _ => (ve_callC k_are_tied hr (by decide) takesW0 (by rfl) (va_cons (ve_var 0 (pv 0)) (va_cons (ve_var 6 (pv 6)) (va_cons (ve_var 5 (pv 5)) va_nil))))))))))) (fun _ _ _ _ _ => (ve_var 5 (pv 5))))
      · refine vss_one ?_
        exact vs_set (i := 2) sc_piece_of.nd rfl (Or.inr rfl) (ve_ofN (vn_setsortI rfl (by rfl) m_sorted (by rfl) m_set (ve_add (ve_var 2 (pv 2)) (vv_var 4 (pv 4)))))
    · refine vss_one ?_
      exact vs_ret (ve_tuple (by rfl) m_tuple (vv_var 2 (pv 2)))
end
section
variable {P : Program} {w : World} {K : PySem.W.Frag} {mg : Str → Option Value} {base : Heap} {ct : Nat → Addr} {cw : Addr}
theorem k_all_pieces (T : Tx K mg "all_pieces" s_all_pieces P_all_pieces) (m_range : mg "range" = none) (m_set : mg "set" = none) (m_sorted : mg "sorted" = none) (k_piece_of : Cal P w K mg base "piece_of" P_piece_of 2 (spD K ct 2 F_piece_of)) : Cal P w K mg base "all_pieces" P_all_pieces 3 (spN K ct 1 F_all_pieces) := by
  show Cal P w K mg base "all_pieces" P_all_pieces 3 (spN K ct 1 (fnN 2 b_all_pieces))
  refine calNm (P := P) (w := w) (base := base) (ct := ct) (body := b_all_pieces) (k := 2) T sc_all_pieces rfl rfl (by decide) fun f cdv A outer s H E hr tk hp => ?_
  unfold b_all_pieces
  refine vss_one ?_
  exact vs_retN (vn_setsort rfl hr (by rfl) m_sorted (by rfl) m_set (vv_ofN (vn_lc (own := [("place", 1)]) rfl sc_all_pieces.nd tg_name (vi_range1 (by rfl) m_range (ve_ix (ve_var 0 (pv 0)) (vv_of (ve_c pe_int (.int _))) (fun _ _ => rfl))) (blkOk_by (N := N_all_pieces) (sc := defScope s_all_pieces) (by decide +kernel)) (by decide) (fun _ _ _ _ _ => (pg_name (i := 1) sc_all_pieces.nd rfl (Or.inl rfl))) (fun _ _ _ _ _ => vts_nil) (fun _ _ _ _ _ => (ve_callC k_piece_of hr (by decide) takesW0 (by rfl) (va_cons (ve_var 0 (pv 0)) (va_cons (ve_var 1 (pv 1)) va_nil)))))))
end
section
variable {P : Program} {w : World} {K : PySem.W.Frag} {mg : Str → Option Value} {base : Heap} {ct : Nat → Addr} {cw : Addr}
theorem k_meet (T : Tx K mg "meet" s_meet P_meet) : Cal P w K mg base "meet" P_meet 1 (spD K ct 2 F_meet) := by
  show Cal P w K mg base "meet" P_meet 1 (spD K ct 2 (fnD 2 b_meet))
  refine calDm (P := P) (w := w) (base := base) (ct := ct) (body := b_meet) (k := 0) T sc_meet rfl rfl (by decide) fun f cdv A outer s H E hr tk hp => ?_
  unfold b_meet
  refine vss_one ?_
  exact vs_ret (ve_or (ve_in hr (ve_ix (ve_var 0 (pv 0)) (vv_of (ve_c pe_int (.int _))) (fun _ _ => rfl)) (vv_var 1 (pv 1))) (ve_one (ve_in hr (ve_ix (ve_var 0 (pv 0)) (vv_of (ve_c pe_int (.int _))) (fun _ _ => rfl)) (vv_var 1 (pv 1)))))
end
section
variable {P : Program} {w : World} {K : PySem.W.Frag} {mg : Str → Option Value} {base : Heap} {ct : Nat → Addr} {cw : Addr}
theorem k_made (T : Tx K mg "made" s_made P_made) (m_len : mg "len" = none) (m_range : mg "range" = none) (m_tuple : mg "tuple" = none) (k_meet : Cal P w K mg base "meet" P_meet 1 (spD K ct 2 F_meet)) : Cal P w K mg base "made" P_made 2 (spD K ct 1 F_made) := by
  show Cal P w K mg base "made" P_made 2 (spD K ct 1 (fnD 5 b_made))
  refine calDm (P := P) (w := w) (base := base) (ct := ct) (body := b_made) (k := 1) T sc_made rfl rfl (by decide) fun f cdv A outer s H E hr tk hp => ?_
  unfold b_made
  refine vss_cons ?_ ?_
  · exact vs_set (i := 1) sc_made.nd rfl (Or.inr rfl) (ve_ix (ve_var 0 (pv 0)) (vv_of (ve_c pe_int (.int _))) (fun _ _ => rfl))
  · refine vss_cons ?_ ?_
    · exact vs_setN (i := 2) sc_made.nd rfl (Or.inl rfl) (vn_lst va_nil)
    · refine vss_cons ?_ ?_
      · refine vs_for hp rfl tg_name (vi_range1 (by rfl) m_range (ve_len (by rfl) m_len (vv_var 1 (pv 1)))) (pg_name (i := 3) sc_made.nd rfl (Or.inr rfl)) ?_
        refine vss_one ?_
        exact vs_extend (pv 2) (ve_ofN (vn_lc (own := [("b", 4)]) rfl sc_made.nd tg_name (vi_range2 (by rfl) m_range (ve_add (ve_var 3 (pv 3)) (vv_of (ve_c pe_int (.int _)))) (ve_len (by rfl) m_len (vv_var 1 (pv 1)))) (blkOk_by (N := N_made) (sc := defScope s_made) (by decide +kernel)) (by decide) (fun _ _ _ _ _ => (pg_name (i := 4) sc_made.nd rfl (Or.inl rfl))) (fun _ _ _ _ _ => (vts_one (vt_val (ve_callC k_meet hr (by decide) takesW0 (by rfl) (va_cons (ve_ix (ve_var 1 (pv 1)) (vv_var 3 (pv 3)) (fun _ _ => rfl)) (va_cons (ve_ix (ve_var 1 (pv 1)) (vv_var 4 (pv 4)) (fun _ _ => rfl)) va_nil)))))) (fun _ _ _ _ _ => (ve_tup (va_cons (ve_var 3 (pv 3)) (va_cons (ve_var 4 (pv 4)) va_nil))))))
      · refine vss_one ?_
        exact vs_ret (ve_tup (va_cons (ve_len (by rfl) m_len (vv_var 1 (pv 1))) (va_cons (ve_tuple (by rfl) m_tuple (vv_var 2 (pv 2))) va_nil)))
end
section
variable {P : Program} {w : World} {K : PySem.W.Frag} {mg : Str → Option Value} {base : Heap} {ct : Nat → Addr} {cw : Addr}
theorem k_need_few (T : Tx K mg "need_few" s_need_few P_need_few) (m_len : mg "len" = none) (c_MOST_SMALL : GcI mg "MOST_SMALL" 7) (gr : GreatOk P w K mg base (ct 12)) : Cal P w K mg base "need_few" P_need_few 3 (spD K ct 1 F_need_few) := by
  show Cal P w K mg base "need_few" P_need_few 3 (spD K ct 1 (fnD 1 b_need_few))
  refine calDm (P := P) (w := w) (base := base) (ct := ct) (body := b_need_few) (k := 2) T sc_need_few rfl rfl (by decide) fun f cdv A outer s H E hr tk hp => ?_
  unfold b_need_few
  refine vss_one ?_
  refine vs_if ?_ ?_ ?_
  · exact (vt_gt hr (ve_len (by rfl) m_len (vv_of (ve_ix (ve_var 0 (pv 0)) (vv_of (ve_c pe_int (.int _))) (fun _ _ => rfl)))) (vv_of (ve_gi c_MOST_SMALL (by rfl))))
  · refine vss_one ?_
    exact vs_raiseG (n := 12) rfl tk gr hr (by decide) (by rfl) (va_cons (ve_len (by rfl) m_len (vv_of (ve_ix (ve_var 0 (pv 0)) (vv_of (ve_c pe_int (.int _))) (fun _ _ => rfl)))) (va_cons (ve_gi c_MOST_SMALL (by rfl)) va_nil))
  · exact vss_nil
end
section
variable {P : Program} {w : World} {K : PySem.W.Frag} {mg : Str → Option Value} {base : Heap} {ct : Nat → Addr} {cw : Addr}
theorem k_tie_web (T : Tx K mg "tie_web" s_tie_web P_tie_web) (k_made : Cal P w K mg base "made" P_made 2 (spD K ct 1 F_made)) (k_need_few : Cal P w K mg base "need_few" P_need_few 3 (spD K ct 1 F_need_few)) (k_need_web : Cal P w K mg base "need_web" P_need_web 5 (spD K ct 1 F_need_web)) : Cal P w K mg base "tie_web" P_tie_web 6 (spD K ct 1 F_tie_web) := by
  show Cal P w K mg base "tie_web" P_tie_web 6 (spD K ct 1 (fnD 1 b_tie_web))
  refine calDm (P := P) (w := w) (base := base) (ct := ct) (body := b_tie_web) (k := 5) T sc_tie_web rfl rfl (by decide) fun f cdv A outer s H E hr tk hp => ?_
  unfold b_tie_web
  refine vss_cons ?_ ?_
  · exact vs_expr (ve_callC k_need_web hr (by decide) tk (by rfl) (va_cons (ve_var 0 (pv 0)) va_nil))
  · refine vss_cons ?_ ?_
    · exact vs_expr (ve_callC k_need_few hr (by decide) tk (by rfl) (va_cons (ve_var 0 (pv 0)) va_nil))
    · refine vss_one ?_
      exact vs_ret (ve_callC k_made hr (by decide) tk (by rfl) (va_cons (ve_var 0 (pv 0)) va_nil))
end
section
variable {P : Program} {w : World} {K : PySem.W.Frag} {mg : Str → Option Value} {base : Heap} {ct : Nat → Addr} {cw : Addr}
theorem k_pairs_of (T : Tx K mg "pairs_of" s_pairs_of P_pairs_of) (m_sum : mg "sum" = none) : Cal P w K mg base "pairs_of" P_pairs_of 1 (spD K ct 1 F_pairs_of) := by
  show Cal P w K mg base "pairs_of" P_pairs_of 1 (spD K ct 1 (fnD 2 b_pairs_of))
  refine calDm (P := P) (w := w) (base := base) (ct := ct) (body := b_pairs_of) (k := 0) T sc_pairs_of rfl rfl (by decide) fun f cdv A outer s H E hr tk hp => ?_
  unfold b_pairs_of
  refine vss_one ?_
  exact vs_ret (ve_sum rfl (by rfl) m_sum (vv_ofN (vn_lc (own := [("many", 1)]) rfl sc_pairs_of.nd tg_name (vi_seq (ve_var 0 (pv 0))) (blkOk_by (N := N_pairs_of) (sc := defScope s_pairs_of) (by decide +kernel)) (by decide) (fun _ _ _ _ _ => (pg_name (i := 1) sc_pairs_of.nd rfl (Or.inl rfl))) (fun _ _ _ _ _ => vts_nil) (fun _ _ _ _ _ => (ve_div (ve_mul (ve_var 1 (pv 1)) (vv_of (ve_sub (ve_var 1 (pv 1)) (vv_of (ve_c pe_int (.int _)))))) (vv_of (ve_c pe_int (.int _))))))))
end
section
variable {P : Program} {w : World} {K : PySem.W.Frag} {mg : Str → Option Value} {base : Heap} {ct : Nat → Addr} {cw : Addr}
theorem k_sizes_ahead (T : Tx K mg "sizes_ahead" s_sizes_ahead P_sizes_ahead) (m_len : mg "len" = none) (k_pairs_of : Cal P w K mg base "pairs_of" P_pairs_of 1 (spD K ct 1 F_pairs_of)) (k_counts_of : Cal P w K mg base "counts_of" P_counts_of 3 (spN K ct 1 F_counts_of)) (k_need_web : Cal P w K mg base "need_web" P_need_web 5 (spD K ct 1 F_need_web)) : Cal P w K mg base "sizes_ahead" P_sizes_ahead 6 (spN K ct 1 F_sizes_ahead) := by
  show Cal P w K mg base "sizes_ahead" P_sizes_ahead 6 (spN K ct 1 (fnN 5 b_sizes_ahead))
  refine calNm (P := P) (w := w) (base := base) (ct := ct) (body := b_sizes_ahead) (k := 5) T sc_sizes_ahead rfl rfl (by decide) fun f cdv A outer s H E hr tk hp => ?_
  unfold b_sizes_ahead
  refine vss_cons ?_ ?_
  · exact vs_expr (ve_callC k_need_web hr (by decide) tk (by rfl) (va_cons (ve_var 0 (pv 0)) va_nil))
  · refine vss_cons ?_ ?_
    · exact vs_set (i := 1) sc_sizes_ahead.nd rfl (Or.inr rfl) (ve_ofN (vn_callC k_counts_of hr (by decide) tk (by rfl) (va_cons (ve_var 0 (pv 0)) va_nil)))
    · refine vss_cons ?_ ?_
      · exact vs_setLc (i := 2) sc_sizes_ahead.nd rfl (PS_lc (own := [("a", 3), ("b", 4)]) rfl sc_sizes_ahead.nd rfl rfl (sw_true rfl rfl rfl (by decide +kernel)) tg_two (vi_seq (ve_ix (ve_var 0 (pv 0)) (vv_of (ve_c pe_int (.int _))) (fun _ _ => rfl))) (blkOk_by (N := N_sizes_ahead) (sc := defScope s_sizes_ahead) (by decide +kernel)) (by decide) (fun _ _ _ _ _ => (pg_tup rfl (pgs_cons (pg_name (i := 3) sc_sizes_ahead.nd rfl (Or.inl rfl)) (pgs_cons (pg_name (i := 4) sc_sizes_ahead.nd rfl (Or.inl rfl)) pgs_nil)))) (fun _ _ _ _ _ => vts_nil) (fun _ _ _ _ _ => (ve_sub (ve_add (ve_ix (ve_var 1 (pv 1)) (vv_var 3 (pv 3)) (fun _ _ => rfl)) (vv_of (ve_ix (ve_var 1 (pv 1)) (vv_var 4 (pv 4)) (fun _ _ => rfl)))) (vv_of (ve_c pe_int (.int _))))))
      · refine vss_one ?_
        exact vs_retN (vn_lst (va_cons (ve_ix (ve_var 0 (pv 0)) (vv_of (ve_c pe_int (.int _))) (fun _ _ => rfl)) (va_cons (ve_len (by rfl) m_len (vv_of (ve_ix (ve_var 0 (pv 0)) (vv_of (ve_c pe_int (.int _))) (fun _ _ => rfl)))) (va_cons (ve_callC k_pairs_of hr (by decide) tk (by rfl) (va_cons (ve_var 1 (pv 1)) va_nil)) (va_cons (ve_callC k_pairs_of hr (by decide) tk (by rfl) (va_cons (ve_var 2 (pv 2)) va_nil)) va_nil)))))
end
section
variable {P : Program} {w : World} {K : PySem.W.Frag} {mg : Str → Option Value} {base : Heap} {ct : Nat → Addr} {cw : Addr}
theorem k_fate (T : Tx K mg "fate" s_fate P_fate) (m_len : mg "len" = none) (m_sorted : mg "sorted" = none) (e_NotJoined : ErrC K mg ct 7 "NotJoined") (k_counts_of : Cal P w K mg base "counts_of" P_counts_of 3 (spN K ct 1 F_counts_of)) (k_all_pieces : Cal P w K mg base "all_pieces" P_all_pieces 3 (spN K ct 1 F_all_pieces)) (k_need_web : Cal P w K mg base "need_web" P_need_web 5 (spD K ct 1 F_need_web)) : Cal P w K mg base "fate" P_fate 6 (spD K ct 1 F_fate) := by
  show Cal P w K mg base "fate" P_fate 6 (spD K ct 1 (fnD 2 b_fate))
  refine calDm (P := P) (w := w) (base := base) (ct := ct) (body := b_fate) (k := 5) T sc_fate rfl rfl (by decide) fun f cdv A outer s H E hr tk hp => ?_
  unfold b_fate
  refine vss_cons ?_ ?_
  · exact vs_expr (ve_callC k_need_web hr (by decide) tk (by rfl) (va_cons (ve_var 0 (pv 0)) va_nil))
  · refine vss_cons ?_ ?_
    · refine vs_if ?_ ?_ ?_
      · exact (vt_gt hr (ve_len (by rfl) m_len (vv_ofN (vn_callC k_all_pieces hr (by decide) tk (by rfl) (va_cons (ve_var 0 (pv 0)) va_nil)))) (vv_of (ve_c pe_int (.int _))))
      · refine vss_one ?_
        exact vs_raise rfl tk e_NotJoined (by rfl)
      · exact vss_nil
    · refine vss_cons ?_ ?_
      · exact vs_set (i := 1) sc_fate.nd rfl (Or.inl rfl) (ve_ofN (vn_sorted hr (by rfl) m_sorted (vv_ofN (vn_callC k_counts_of hr (by decide) tk (by rfl) (va_cons (ve_var 0 (pv 0)) va_nil)))))
      · refine vss_cons ?_ ?_
        · refine vs_if ?_ ?_ ?_
          · exact (vt_w (vw_or (vt_eq hr (ve_ix (ve_var 0 (pv 0)) (vv_of (ve_c pe_int (.int _))) (fun _ _ => rfl)) (vv_of (ve_c pe_int (.int _)))) (vw_or1 (vt_w (vw_and (vt_lt hr (ve_ix (ve_var 1 (pv 1)) (vv_of (ve_neg (ve_c pe_int (.int _)))) (fun _ _ => rfl)) (vv_of (ve_c pe_int (.int _)))) (vw_and1 (vt_eq hr (ve_len (by rfl) m_len (vv_of (ve_ix (ve_var 0 (pv 0)) (vv_of (ve_c pe_int (.int _))) (fun _ _ => rfl)))) (vv_of (ve_sub (ve_ix (ve_var 0 (pv 0)) (vv_of (ve_c pe_int (.int _))) (fun _ _ => rfl)) (vv_of (ve_c pe_int (.int _))))))))))))
          · refine vss_one ?_
            exact vs_ret (ve_tup (va_cons (ve_c pe_str (.str _)) (va_cons (ve_ix (ve_var 0 (pv 0)) (vv_of (ve_c pe_int (.int _))) (fun _ _ => rfl)) va_nil)))
          · exact vss_nil
        · refine vss_cons ?_ ?_
          · refine vs_if ?_ ?_ ?_
            · exact (vt_lt hr (ve_ix (ve_var 1 (pv 1)) (vv_of (ve_neg (ve_c pe_int (.int _)))) (fun _ _ => rfl)) (vv_of (ve_c pe_int (.int _))))
            · refine vss_one ?_
              exact vs_ret (ve_tup (va_cons (ve_c pe_str (.str _)) (va_cons (ve_ix (ve_var 0 (pv 0)) (vv_of (ve_c pe_int (.int _))) (fun _ _ => rfl)) va_nil)))
            · exact vss_nil
          · refine vss_cons ?_ ?_
            · refine vs_if ?_ ?_ ?_
              · exact (vt_eq hr (ve_var 1 (pv 1)) (vv_ofN (vn_lst (va_cons (ve_c pe_int (.int _)) (va_cons (ve_c pe_int (.int _)) (va_cons (ve_c pe_int (.int _)) (va_cons (ve_c pe_int (.int _)) va_nil)))))))
              · refine vss_one ?_
                exact vs_ret (ve_tup (va_cons (ve_c pe_str (.str _)) (va_cons (ve_c pe_int (.int _)) va_nil)))
              · exact vss_nil
            · refine vss_one ?_
              exact vs_ret (ve_tup (va_cons (ve_c pe_str (.str _)) va_nil))
end
section
variable {P : Program} {w : World} {K : PySem.W.Frag} {mg : Str → Option Value} {base : Heap} {ct : Nat → Addr} {cw : Addr}
theorem k_crowds_in (T : Tx K mg "crowds_in" s_crowds_in P_crowds_in) (m_all : mg "all" = none) (m_range : mg "range" = none) (m_sorted : mg "sorted" = none) (k_are_tied : Cal P w K mg base "are_tied" P_are_tied 1 (spD K ct 3 F_are_tied)) : Cal P w K mg base "crowds_in" P_crowds_in 2 (spN K ct 1 F_crowds_in) := by
  show Cal P w K mg base "crowds_in" P_crowds_in 2 (spN K ct 1 (fnN 8 b_crowds_in))
  refine calNm (P := P) (w := w) (base := base) (ct := ct) (body := b_crowds_in) (k := 1) T sc_crowds_in rfl rfl (by decide) fun f cdv A outer s H E hr tk hp => ?_
  unfold b_crowds_in
  refine vss_cons ?_ ?_
  · exact vs_setLc (i := 1) sc_crowds_in.nd rfl (PS_lc (own := [("place", 5)]) rfl sc_crowds_in.nd rfl rfl (sw_true rfl rfl rfl (by decide +kernel)) tg_name (vi_range1 (by rfl) m_range (ve_ix (ve_var 0 (pv 0)) (vv_of (ve_c pe_int (.int _))) (fun _ _ => rfl))) (blkOk_by (N := N_crowds_in) (sc := defScope s_crowds_in) (by decide +kernel)) (by decide) (fun _ _ _ _ _ => (pg_name (i := 5) sc_crowds_in.nd rfl (Or.inl rfl))) (fun _ _ _ _ _ => vts_nil) (fun _ _ _ _ _ => (ve_tup (va_cons (ve_var 5 (pv 5)) va_nil))))
  · refine vss_cons ?_ ?_
    · exact vs_setN (i := 2) sc_crowds_in.nd rfl (Or.inl rfl) (vn_lst va_nil)
    · refine vss_cons ?_ ?_
      · refine vs_while 100000 hp ?_ ?_
        · exact (vt_ne hr (ve_var 1 (pv 1)) (vv_ofN (vn_lst va_nil)))
        · refine vss_cons ?_ ?_
          · exact vs_setN (i := 3) sc_crowds_in.nd rfl (Or.inl rfl) (vn_lst va_nil)
          · refine vss_cons ?_ ?_
            · refine vs_for hp rfl tg_name (vi_seq (ve_var 1 (pv 1))) (pg_name (i := 4) sc_crowds_in.nd rfl (Or.inl rfl)) ?_
              refine vss_one ?_
              refine vs_for hp rfl tg_name (vi_range2 (by rfl) m_range (ve_add (ve_ix (ve_var 4 (pv 4)) (vv_of (ve_neg (ve_c pe_int (.int _)))) (fun _ _ => rfl)) (vv_of (ve_c pe_int (.int _)))) (ve_ix (ve_var 0 (pv 0)) (vv_of (ve_c pe_int (.int _))) (fun _ _ => rfl))) (pg_name (i := 6) sc_crowds_in.nd rfl (Or.inr rfl)) ?_
              refine vss_one ?_
              refine vs_if ?_ ?_ ?_
              · exact (vt_val (ve_all rfl (by rfl) m_all (vv_ofN (vn_lc (own := [("other", 7)]) rfl sc_crowds_in.nd tg_name (vi_seq (ve_var 4 (pv 4))) (blkOk_by (N := N_crowds_in) (sc := defScope s_crowds_in) (by decide +kernel)) (by decide) (fun _ _ _ _ _ => (pg_name (i := 7) sc_crowds_in.nd rfl (Or.inl rfl))) (fun _ _ _ _ _ => vts_nil) (fun _ _ _ _ _ => (ve_callC k_are_tied hr (by decide) takesW0 (by rfl) (va_cons (ve_var 0 (pv 0)) (va_cons (ve_var 6 (pv 6)) (va_cons (ve_var 7 (pv 7)) va_nil)))))))))
              · refine vss_one ?_
                exact vs_append (pv 3) (ve_add (ve_var 4 (pv 4)) (vv_of (ve_tup (va_cons (ve_var 6 (pv 6)) va_nil))))
              · exact vss_nil
            · refine vss_cons ?_ ?_
              · exact vs_extend (pv 2) (ve_var 3 (pv 3))
              · refine vss_one ?_
                exact vs_set (i := 1) sc_crowds_in.nd rfl (Or.inl rfl) (ve_var 3 (pv 3))
      · refine vss_one ?_
        exact vs_retN (vn_sorted hr (by rfl) m_sorted (vv_var 2 (pv 2)))
end
section
variable {P : Program} {w : World} {K : PySem.W.Frag} {mg : Str → Option Value} {base : Heap} {ct : Nat → Addr} {cw : Addr}
theorem k_ties_in (T : Tx K mg "ties_in" s_ties_in P_ties_in) (m_enumerate : mg "enumerate" = none) : Cal P w K mg base "ties_in" P_ties_in 1 (spN K ct 1 F_ties_in) := by
  show Cal P w K mg base "ties_in" P_ties_in 1 (spN K ct 1 (fnN 5 b_ties_in))
  refine calNm (P := P) (w := w) (base := base) (ct := ct) (body := b_ties_in) (k := 0) T sc_ties_in rfl rfl (by decide) fun f cdv A outer s H E hr tk hp => ?_
  unfold b_ties_in
  refine vss_cons ?_ ?_
  · exact vs_setN (i := 1) sc_ties_in.nd rfl (Or.inl rfl) (vn_lst va_nil)
  · refine vss_cons ?_ ?_
    · refine vs_for hp rfl tg_two (vi_enum (by rfl) m_enumerate (ve_var 0 (pv 0))) (pg_tup rfl (pgs_cons (pg_name (i := 2) sc_ties_in.nd rfl (Or.inl rfl)) (pgs_cons (pg_name (i := 3) sc_ties_in.nd rfl (Or.inr rfl)) pgs_nil))) ?_
      refine vss_one ?_
      exact vs_extend (pv 1) (ve_ofN (vn_lc (own := [("other", 4)]) rfl sc_ties_in.nd tg_name (vi_seq (ve_sl (ve_var 0 (pv 0)) (vo_some (ve_add (ve_var 2 (pv 2)) (vv_of (ve_c pe_int (.int _))))) vo_none)) (blkOk_by (N := N_ties_in) (sc := defScope s_ties_in) (by decide +kernel)) (by decide) (fun _ _ _ _ _ => (pg_name (i := 4) sc_ties_in.nd rfl (Or.inl rfl))) (fun _ _ _ _ _ => vts_nil) (fun _ _ _ _ _ => (ve_tup (va_cons (ve_var 3 (pv 3)) (va_cons (ve_var 4 (pv 4)) va_nil))))))
    · refine vss_one ?_
      exact vs_retO (pv 1)
end
section
variable {P : Program} {w : World} {K : PySem.W.Frag} {mg : Str → Option Value} {base : Heap} {ct : Nat → Addr} {cw : Addr}
theorem k_may_join (T : Tx K mg "may_join" s_may_join P_may_join) (m_all : mg "all" = none) (m_len : mg "len" = none) : Cal P w K mg base "may_join" P_may_join 1 (spD K ct 3 F_may_join) := by
  show Cal P w K mg base "may_join" P_may_join 1 (spD K ct 3 (fnD 5 b_may_join))
  refine calDm (P := P) (w := w) (base := base) (ct := ct) (body := b_may_join) (k := 0) T sc_may_join rfl rfl (by decide) fun f cdv A outer s H E hr tk hp => ?_
  unfold b_may_join
  refine vss_cons ?_ ?_
  · refine vs_for hp rfl tg_name (vi_seq (ve_var 1 (pv 1))) (pg_name (i := 3) sc_may_join.nd rfl (Or.inr rfl)) ?_
    refine vss_one ?_
    refine vs_if ?_ ?_ ?_
    · exact (vt_gt hr (ve_len (by rfl) m_len (vv_ofN (vn_lc (own := [("place", 4)]) rfl sc_may_join.nd tg_name (vi_seq (ve_var 2 (pv 2))) (blkOk_by (N := N_may_join) (sc := defScope s_may_join) (by decide +kernel)) (by decide) (fun _ _ _ _ _ => (pg_name (i := 4) sc_may_join.nd rfl (Or.inl rfl))) (fun _ _ _ _ _ => (vts_one (vt_in hr (ve_var 4 (pv 4)) (vv_var 3 (pv 3))))) (fun _ _ _ _ _ => (ve_var 4 (pv 4)))))) (vv_of (ve_c pe_int (.int _))))
    · refine vss_one ?_
      exact vs_ret (ve_c pe_bl (.bl _))
    · exact vss_nil
  · refine vss_one ?_
    exact vs_ret (ve_all rfl (by rfl) m_all (vv_ofN (vn_lc (own := [("place", 4)]) rfl sc_may_join.nd tg_name (vi_seq (ve_var 2 (pv 2))) (blkOk_by (N := N_may_join) (sc := defScope s_may_join) (by decide +kernel)) (by decide) (fun _ _ _ _ _ => (pg_name (i := 4) sc_may_join.nd rfl (Or.inr rfl))) (fun _ _ _ _ _ => vts_nil) (fun _ _ _ _ _ => (ve_lt hr (ve_len (by rfl) m_len (vv_ofN (vn_lc (own := [("other", 3)]) rfl sc_may_join.nd tg_name (vi_seq (ve_var 1 (pv 1))) (blkOk_by (by rfl)) (by decide) (fun _ _ _ _ _ => (pg_name (i := 3) sc_may_join.nd rfl (Or.inl rfl))) (fun _ _ _ _ _ => (vts_one (vt_in hr (ve_var 4 (pv 4)) (vv_var 3 (pv 3))))) (fun _ _ _ _ _ => (ve_var 3 (pv 3)))))) (vv_of (ve_c pe_int (.int _))))))))
end
section
variable {P : Program} {w : World} {K : PySem.W.Frag} {mg : Str → Option Value} {base : Heap} {ct : Nat → Addr} {cw : Addr}
theorem k_behind (T : Tx K mg "behind" s_behind P_behind) (m_sorted : mg "sorted" = none) (k_may_join : Cal P w K mg base "may_join" P_may_join 1 (spD K ct 3 F_may_join)) (k_ties_in : Cal P w K mg base "ties_in" P_ties_in 1 (spN K ct 1 F_ties_in)) : ∀ n : Nat, Cal P w K mg base "behind" P_behind (n + 1) (spD K ct 4 (F_behind n))
  | 0 => cal_bad T spD_bad
  | n + 1 => by
    have k_behind := k_behind T m_sorted k_may_join k_ties_in n
    refine calDm (P := P) (w := w) (base := base) (ct := ct) (body := b_behind (F_behind n)) (k := n + 1) T sc_behind rfl rfl (by decide) fun f cdv A outer s H E hr tk hp => ?_
    unfold b_behind
    refine vss_cons ?_ ?_
    · refine vs_if ?_ ?_ ?_
      · exact (vt_eq hr (ve_var 3 (pv 3)) (vv_ofN (vn_lst va_nil)))
      · refine vss_one ?_
        exact vs_ret (ve_ofN (vn_lst (va_cons (ve_ofN (vn_sorted hr (by rfl) m_sorted (vv_var 2 (pv 2)))) va_nil)))
      · exact vss_nil
    · refine vss_cons ?_ ?_
      · exact vs_setN (i := 4) sc_behind.nd rfl (Or.inl rfl) (vn_lst va_nil)
      · refine vss_cons ?_ ?_
        · refine vs_for hp rfl tg_name (vi_seq (ve_var 1 (pv 1))) (pg_name (i := 5) sc_behind.nd rfl (Or.inl rfl)) ?_
          refine vss_cons ?_ ?_
          · exact vs_set (i := 6) sc_behind.nd rfl (Or.inr rfl) (ve_ofN (vn_callC k_ties_in hr (Nat.le_trans (by decide) (Nat.le_add_left _ _)) tk (by rfl) (va_cons (ve_var 5 (pv 5)) va_nil)))
          · refine vss_one ?_
            refine vs_if ?_ ?_ ?_
            · exact (vt_w (vw_and (vt_in hr (ve_ix (ve_var 3 (pv 3)) (vv_of (ve_c pe_int (.int _))) (fun _ _ => rfl)) (vv_var 6 (pv 6))) (vw_and1 (vt_val (ve_callC k_may_join hr (Nat.le_trans (by decide) (Nat.le_add_left _ _)) tk (by rfl) (va_cons (ve_var 0 (pv 0)) (va_cons (ve_var 2 (pv 2)) (va_cons (ve_var 5 (pv 5)) va_nil))))))))
            · refine vss_one ?_
              exact vs_extend (pv 4) (ve_callC k_behind hr (Nat.le_refl _) tk (by rfl) (va_cons (ve_var 0 (pv 0)) (va_cons (ve_var 1 (pv 1)) (va_cons (ve_add (ve_var 2 (pv 2)) (vv_ofN (vn_lst (va_cons (ve_var 5 (pv 5)) va_nil)))) (va_cons (ve_ofN (vn_lc (own := [("tie", 7)]) rfl sc_behind.nd tg_name (vi_seq (ve_var 3 (pv 3))) (blkOk_by (N := N_behind) (sc := defScope s_behind) (by decide +kernel)) (by decide) (fun _ _ _ _ _ => (pg_name (i := 7) sc_behind.nd rfl (Or.inl rfl))) (fun _ _ _ _ _ => (vts_one (vt_nin hr (ve_var 7 (pv 7)) (vv_var 6 (pv 6))))) (fun _ _ _ _ _ => (ve_var 7 (pv 7))))) va_nil)))))
            · exact vss_nil
        · refine vss_one ?_
          exact vs_ret (ve_var 4 (pv 4))
end
section
variable {P : Program} {w : World} {K : PySem.W.Frag} {mg : Str → Option Value} {base : Heap} {ct : Nat → Addr} {cw : Addr}
theorem k_sharings_of (T : Tx K mg "sharings_of" s_sharings_of P_sharings_of) (m_list : mg "list" = none) (m_sorted : mg "sorted" = none) (k_behind : Cal P w K mg base "behind" P_behind 41 (spD K ct 4 (F_behind 40))) (k_crowds_in : Cal P w K mg base "crowds_in" P_crowds_in 2 (spN K ct 1 F_crowds_in)) : Cal P w K mg base "sharings_of" P_sharings_of 43 (spN K ct 1 F_sharings_of) := by
  show Cal P w K mg base "sharings_of" P_sharings_of 43 (spN K ct 1 (fnN 1 b_sharings_of))
  refine calNm (P := P) (w := w) (base := base) (ct := ct) (body := b_sharings_of) (k := 42) T sc_sharings_of rfl rfl (by decide) fun f cdv A outer s H E hr tk hp => ?_
  unfold b_sharings_of
  refine vss_one ?_
  exact vs_retN (vn_sorted hr (by rfl) m_sorted (vv_of (ve_callC k_behind hr (by decide) tk (by rfl) (va_cons (ve_var 0 (pv 0)) (va_cons (ve_ofN (vn_callC k_crowds_in hr (by decide) tk (by rfl) (va_cons (ve_var 0 (pv 0)) va_nil))) (va_cons (ve_ofN (vn_lst va_nil)) (va_cons (ve_ofN (vn_list (by rfl) m_list (vv_of (ve_ix (ve_var 0 (pv 0)) (vv_of (ve_c pe_int (.int _))) (fun _ _ => rfl))))) va_nil)))))))
end
section
variable {P : Program} {w : World} {K : PySem.W.Frag} {mg : Str → Option Value} {base : Heap} {ct : Nat → Addr} {cw : Addr}
theorem k_all_sharings (T : Tx K mg "all_sharings" s_all_sharings P_all_sharings) (k_sharings_of : Cal P w K mg base "sharings_of" P_sharings_of 43 (spN K ct 1 F_sharings_of)) (k_need_small : Cal P w K mg base "need_small" P_need_small 3 (spD K ct 1 F_need_small)) (k_need_web : Cal P w K mg base "need_web" P_need_web 5 (spD K ct 1 F_need_web)) : Cal P w K mg base "all_sharings" P_all_sharings 44 (spN K ct 1 F_all_sharings) := by
  show Cal P w K mg base "all_sharings" P_all_sharings 44 (spN K ct 1 (fnN 1 b_all_sharings))
  refine calNm (P := P) (w := w) (base := base) (ct := ct) (body := b_all_sharings) (k := 43) T sc_all_sharings rfl rfl (by decide) fun f cdv A outer s H E hr tk hp => ?_
  unfold b_all_sharings
  refine vss_cons ?_ ?_
  · exact vs_expr (ve_callC k_need_web hr (by decide) tk (by rfl) (va_cons (ve_var 0 (pv 0)) va_nil))
  · refine vss_cons ?_ ?_
    · exact vs_expr (ve_callC k_need_small hr (by decide) tk (by rfl) (va_cons (ve_var 0 (pv 0)) va_nil))
    · refine vss_one ?_
      exact vs_retN (vn_callC k_sharings_of hr (by decide) tk (by rfl) (va_cons (ve_var 0 (pv 0)) va_nil))
end
section
variable {P : Program} {w : World} {K : PySem.W.Frag} {mg : Str → Option Value} {base : Heap} {ct : Nat → Addr} {cw : Addr}
theorem k_shown (T : Tx K mg "shown" s_shown P_shown) (m_str : mg "str" = none) : Cal P w K mg base "shown" P_shown 1 (spD K ct 1 F_shown) := by
  show Cal P w K mg base "shown" P_shown 1 (spD K ct 1 (fnD 3 b_shown))
  refine calDm (P := P) (w := w) (base := base) (ct := ct) (body := b_shown) (k := 0) T sc_shown rfl rfl (by decide) fun f cdv A outer s H E hr tk hp => ?_
  unfold b_shown
  refine vss_one ?_
  exact vs_ret (ve_join (ve_c pe_str (.str _)) (ve_add (ve_ofN (vn_lst (va_cons (ve_add (ve_str (by rfl) m_str (vv_of (ve_ix (ve_var 0 (pv 0)) (vv_of (ve_c pe_int (.int _))) (fun _ _ => rfl)))) (vv_of (ve_c pe_str (.str _)))) va_nil))) (vv_ofN (vn_lc (own := [("a", 1), ("b", 2)]) rfl sc_shown.nd tg_two (vi_seq (ve_ix (ve_var 0 (pv 0)) (vv_of (ve_c pe_int (.int _))) (fun _ _ => rfl))) (blkOk_by (N := N_shown) (sc := defScope s_shown) (by decide +kernel)) (by decide) (fun _ _ _ _ _ => (pg_tup rfl (pgs_cons (pg_name (i := 1) sc_shown.nd rfl (Or.inl rfl)) (pgs_cons (pg_name (i := 2) sc_shown.nd rfl (Or.inl rfl)) pgs_nil)))) (fun _ _ _ _ _ => vts_nil) (fun _ _ _ _ _ => (ve_add (ve_add (ve_str (by rfl) m_str (vv_var 1 (pv 1))) (vv_of (ve_c pe_str (.str _)))) (vv_of (ve_str (by rfl) m_str (vv_var 2 (pv 2))))))))))
end
section
variable {P : Program} {w : World} {K : PySem.W.Frag} {mg : Str → Option Value} {base : Heap} {ct : Nat → Addr} {cw : Addr}
theorem k_number_in (T : Tx K mg "number_in" s_number_in P_number_in) (m_all : mg "all" = none) (m_int : mg "int" = none) (m_len : mg "len" = none) (c_FIGURES : GcS mg "FIGURES" "0123456789") (c_MOST_FIGURES : GcI mg "MOST_FIGURES" 2) : Cal P w K mg base "number_in" P_number_in 1 (spD K ct 1 F_number_in) := by
  show Cal P w K mg base "number_in" P_number_in 1 (spD K ct 1 (fnD 2 b_number_in))
  refine calDm (P := P) (w := w) (base := base) (ct := ct) (body := b_number_in) (k := 0) T sc_number_in rfl rfl (by decide) fun f cdv A outer s H E hr tk hp => ?_
  unfold b_number_in
  refine vss_cons ?_ ?_
  · refine vs_if ?_ ?_ ?_
    · exact (vt_w (vw_or (vt_not (vt_leLe hr (ve_c pe_int (.int _)) (ve_len (by rfl) m_len (vv_var 0 (pv 0))) (vv_of (ve_gi c_MOST_FIGURES (by rfl))))) (vw_or1 (vt_not (vt_val (ve_all rfl (by rfl) m_all (vv_ofN (vn_lc (own := [("sign", 1)]) rfl sc_number_in.nd tg_name (vi_str (ve_var 0 (pv 0))) (blkOk_by (N := N_number_in) (sc := defScope s_number_in) (by decide +kernel)) (by decide) (fun _ _ _ _ _ => (pg_name (i := 1) sc_number_in.nd rfl (Or.inl rfl))) (fun _ _ _ _ _ => vts_nil) (fun _ _ _ _ _ => (ve_in hr (ve_var 1 (pv 1)) (vv_of (ve_gs c_FIGURES (by rfl)))))))))))))
    · refine vss_one ?_
      exact vs_ret (ve_c pe_non .non)
    · exact vss_nil
  · refine vss_cons ?_ ?_
    · refine vs_if ?_ ?_ ?_
      · exact (vt_w (vw_and (vt_eq hr (ve_ix (ve_var 0 (pv 0)) (vv_of (ve_c pe_int (.int _))) (fun _ _ => rfl)) (vv_of (ve_c pe_str (.str _)))) (vw_and1 (vt_gt hr (ve_len (by rfl) m_len (vv_var 0 (pv 0))) (vv_of (ve_c pe_int (.int _)))))))
      · refine vss_one ?_
        exact vs_ret (ve_c pe_non .non)
      · exact vss_nil
    · refine vss_one ?_
      exact vs_ret (ve_intS (by rfl) m_int (vv_var 0 (pv 0)))
end
section
variable {P : Program} {w : World} {K : PySem.W.Frag} {mg : Str → Option Value} {base : Heap} {ct : Nat → Addr} {cw : Addr}
theorem k_told_number (T : Tx K mg "told_number" s_told_number P_told_number) (e_NoLine : ErrC K mg ct 10 "NoLine") (k_number_in : Cal P w K mg base "number_in" P_number_in 1 (spD K ct 1 F_number_in)) : Cal P w K mg base "told_number" P_told_number 2 (spD K ct 1 F_told_number) := by
  show Cal P w K mg base "told_number" P_told_number 2 (spD K ct 1 (fnD 2 b_told_number))
  refine calDm (P := P) (w := w) (base := base) (ct := ct) (body := b_told_number) (k := 1) T sc_told_number rfl rfl (by decide) fun f cdv A outer s H E hr tk hp => ?_
  unfold b_told_number
  refine vss_cons ?_ ?_
  · exact vs_set (i := 1) sc_told_number.nd rfl (Or.inl rfl) (ve_callC k_number_in hr (by decide) tk (by rfl) (va_cons (ve_var 0 (pv 0)) va_nil))
  · refine vss_cons ?_ ?_
    · refine vs_if ?_ ?_ ?_
      · exact (vt_isN (ve_var 1 (pv 1)) (vv_of (ve_c pe_non .non)))
      · refine vss_one ?_
        exact vs_raise rfl tk e_NoLine (by rfl)
      · exact vss_nil
    · refine vss_one ?_
      exact vs_ret (ve_var 1 (pv 1))
end
section
variable {P : Program} {w : World} {K : PySem.W.Frag} {mg : Str → Option Value} {base : Heap} {ct : Nat → Addr} {cw : Addr}
theorem k_Desk_say (T : TxM K "say" "Desk.say" s_Desk_say P_Desk_say) (m_isinstance : mg "isinstance" = none) (m_len : mg "len" = none) (m_str : mg "str" = none) (c_MOST_PLACES : GcI mg "MOST_PLACES" 14) (e_NoLine : ErrC K mg ct 10 "NoLine") (cT_ALONE : GcT K mg "ALONE" ["make", "back", "web", "root", "shared", "ahead", "fate"]) (dk : DeskOk K) (k_Desk_alone : CalM P w K mg base (deskC K) "alone" P_Desk_alone 46 (spM K ct 1 F_Desk_alone)) (k_told_number : Cal P w K mg base "told_number" P_told_number 2 (spD K ct 1 F_told_number)) (k_Desk_keep : CalM P w K mg base (deskC K) "keep" P_Desk_keep 1 (spM K ct 1 fKeep)) (k_Desk_turn : CalM P w K mg base (deskC K) "turn" P_Desk_turn 4 (spM K ct 2 F_Desk_turn)) : CalM P w K mg base (deskC K) "say" P_Desk_say 47 (spM K ct 1 F_Desk_say) := by
  show CalM P w K mg base (deskC K) "say" P_Desk_say 47 (spM K ct 1 (fnM 5 b_Desk_say))
  refine calMM (P := P) (w := w) (base := base) (ct := ct) (bodyM := b_Desk_say) (k := 46) (N := N_Desk_say) (n := 1) T sc_Desk_say rfl (by decide) fun f cdv A outer s H E B hr tk hp => ?_
  unfold b_Desk_say
  refine vssm_cons ?_ ?_
  · refine vsm_lift ?_
    refine vs_if ?_ ?_ ?_
    · exact (vt_not (vt_val (ve_isi ty_str (by rfl) m_isinstance (vv_var 1 (pv 1)) (pe_bltn (by rfl) m_str PyProof.Rows.boot_str rfl))))
    · refine vss_one ?_
      exact vs_raise rfl tk e_NoLine (by rfl)
    · exact vss_nil
  · refine vssm_cons ?_ ?_
    · refine vsm_lift ?_
      exact vs_set (i := 2) sc_Desk_say.nd rfl (Or.inl rfl) (ve_ofN (vn_split (ve_var 1 (pv 1)) (ve_c pe_str (.str _))))
    · refine vssm_cons ?_ ?_
      · refine vsm_if ?_ ?_ ?_
        · exact (vt_w (vw_and (vt_eq hr (ve_len (by rfl) m_len (vv_var 2 (pv 2))) (vv_of (ve_c pe_int (.int _)))) (vw_and1 (vt_inZ hr (ve_ix (ve_var 2 (pv 2)) (vv_of (ve_c pe_int (.int _))) (fun _ _ => rfl)) (ve_gtp (by rfl) cT_ALONE rfl)))))
        · refine vssm_one ?_
          exact vsm_ret dk.c k_Desk_alone hr (by decide) tk (pv 0) (va_cons (ve_ix (ve_var 2 (pv 2)) (vv_of (ve_c pe_int (.int _))) (fun _ _ => rfl)) va_nil) ⟨by decide, by decide⟩
        · exact vssm_lift vss_nil
      · refine vssm_cons ?_ ?_
        · refine vsm_lift ?_
          exact vs_setLc (i := 3) sc_Desk_say.nd rfl (PS_lcE (own := [("word", 4)]) rfl rfl tk rfl sc_Desk_say.nd rfl rfl (sw_true rfl rfl rfl (by decide +kernel)) tg_name (vi_seq (ve_sl (ve_var 2 (pv 2)) (vo_some (ve_c pe_int (.int _))) vo_none)) (blkOk_by (N := N_Desk_say) (sc := defScope s_Desk_say) (by decide +kernel)) (by decide) (fun _ _ _ _ _ => (pg_name (i := 4) sc_Desk_say.nd rfl (Or.inl rfl))) k_told_number hr (by decide) (fun _ _ _ _ _ _ => by rfl) (fun _ _ _ _ _ _ => (va_cons (ve_var 4 (pv 4)) va_nil)))
        · refine vssm_cons ?_ ?_
          · refine vsm_if ?_ ?_ ?_
            · exact (vt_w (vw_and (vt_eq hr (ve_ix (ve_var 2 (pv 2)) (vv_of (ve_c pe_int (.int _))) (fun _ _ => rfl)) (vv_of (ve_c pe_str (.str _)))) (vw_and (vt_eq hr (ve_len (by rfl) m_len (vv_var 3 (pv 3))) (vv_of (ve_c pe_int (.int _)))) (vw_and1 (vt_le hr (ve_ix (ve_var 3 (pv 3)) (vv_of (ve_c pe_int (.int _))) (fun _ _ => rfl)) (vv_of (ve_gi c_MOST_PLACES (by rfl))))))))
            · refine vssm_one ?_
              exact vsm_ret dk.c k_Desk_keep hr (by decide) tk (pv 0) (va_cons (ve_tup (va_cons (ve_ix (ve_var 3 (pv 3)) (vv_of (ve_c pe_int (.int _))) (fun _ _ => rfl)) (va_cons (ve_tup va_nil) va_nil))) va_nil) ⟨by decide, by decide⟩
            · exact vssm_lift vss_nil
          · refine vssm_cons ?_ ?_
            · refine vsm_if ?_ ?_ ?_
              · exact (vt_w (vw_and (vt_eq hr (ve_ix (ve_var 2 (pv 2)) (vv_of (ve_c pe_int (.int _))) (fun _ _ => rfl)) (vv_of (ve_c pe_str (.str _)))) (vw_and1 (vt_eq hr (ve_len (by rfl) m_len (vv_var 3 (pv 3))) (vv_of (ve_c pe_int (.int _)))))))
              · refine vssm_one ?_
                exact vsm_ret dk.c k_Desk_turn hr (by decide) tk (pv 0) (va_cons (ve_ix (ve_var 3 (pv 3)) (vv_of (ve_c pe_int (.int _))) (fun _ _ => rfl)) (va_cons (ve_ix (ve_var 3 (pv 3)) (vv_of (ve_c pe_int (.int _))) (fun _ _ => rfl)) va_nil)) ⟨by decide, by decide⟩
              · exact vssm_lift vss_nil
            · refine vssm_one ?_
              refine vsm_lift ?_
              exact vs_raise rfl tk e_NoLine (by rfl)
end
section
variable {P : Program} {w : World} {K : PySem.W.Frag} {mg : Str → Option Value} {base : Heap} {ct : Nat → Addr} {cw : Addr}
theorem k_Desk_turn (T : TxM K "turn" "Desk.turn" s_Desk_turn P_Desk_turn) (m_len : mg "len" = none) (m_max : mg "max" = none) (m_min : mg "min" = none) (m_sorted : mg "sorted" = none) (m_tuple : mg "tuple" = none) (e_NoTie : ErrC K mg ct 8 "NoTie") (dk : DeskOk K) (k_need_place : Cal P w K mg base "need_place" P_need_place 3 (spD K ct 2 F_need_place)) (k_Desk_keep : CalM P w K mg base (deskC K) "keep" P_Desk_keep 1 (spM K ct 1 fKeep)) : CalM P w K mg base (deskC K) "turn" P_Desk_turn 4 (spM K ct 2 F_Desk_turn) := by
  show CalM P w K mg base (deskC K) "turn" P_Desk_turn 4 (spM K ct 2 (fnM 6 b_Desk_turn))
  refine calMM (P := P) (w := w) (base := base) (ct := ct) (bodyM := b_Desk_turn) (k := 3) (N := N_Desk_turn) (n := 2) T sc_Desk_turn rfl (by decide) fun f cdv A outer s H E B hr tk hp => ?_
  unfold b_Desk_turn
  refine vssm_cons ?_ ?_
  · refine vsm_lift ?_
    exact vs_expr (ve_callC k_need_place hr (by decide) tk (by rfl) (va_cons (ve_web dk.c dk.nw (ve_var 0 (pv 0))) (va_cons (ve_var 1 (pv 1)) va_nil)))
  · refine vssm_cons ?_ ?_
    · refine vsm_lift ?_
      exact vs_expr (ve_callC k_need_place hr (by decide) tk (by rfl) (va_cons (ve_web dk.c dk.nw (ve_var 0 (pv 0))) (va_cons (ve_var 2 (pv 2)) va_nil)))
    · refine vssm_cons ?_ ?_
      · refine vsm_lift ?_
        refine vs_if ?_ ?_ ?_
        · exact (vt_eq hr (ve_var 1 (pv 1)) (vv_var 2 (pv 2)))
        · refine vss_one ?_
          exact vs_raise rfl tk e_NoTie (by rfl)
        · exact vss_nil
      · refine vssm_cons ?_ ?_
        · refine vsm_lift ?_
          exact vs_set (i := 3) sc_Desk_turn.nd rfl (Or.inr rfl) (ve_tup (va_cons (ve_min2 rfl (by rfl) m_min (ve_var 1 (pv 1)) (vv_var 2 (pv 2))) (va_cons (ve_max2 rfl (by rfl) m_max (ve_var 1 (pv 1)) (vv_var 2 (pv 2))) va_nil)))
        · refine vssm_cons ?_ ?_
          · refine vsm_lift ?_
            exact vs_setLcN (i := 4) sc_Desk_turn.nd rfl (PS_lc (own := [("old", 5)]) rfl sc_Desk_turn.nd rfl rfl (sw_true rfl rfl rfl (by decide +kernel)) tg_name (vi_seq (ve_ix (ve_web dk.c dk.nw (ve_var 0 (pv 0))) (vv_of (ve_c pe_int (.int _))) (fun _ _ => rfl))) (blkOk_by (N := N_Desk_turn) (sc := defScope s_Desk_turn) (by decide +kernel)) (by decide) (fun _ _ _ _ _ => (pg_name (i := 5) sc_Desk_turn.nd rfl (Or.inl rfl))) (fun _ _ _ _ _ => (vts_one (vt_ne hr (ve_var 5 (pv 5)) (vv_var 3 (pv 3))))) (fun _ _ _ _ _ => (ve_var 5 (pv 5))))
          · refine vssm_cons ?_ ?_
            · refine vsm_lift ?_
              refine vs_if ?_ ?_ ?_
              · exact (vt_eq hr (ve_len (by rfl) m_len (vv_var 4 (pv 4))) (vv_of (ve_len (by rfl) m_len (vv_of (ve_ix (ve_web dk.c dk.nw (ve_var 0 (pv 0))) (vv_of (ve_c pe_int (.int _))) (fun _ _ => rfl))))))
              · refine vss_one ?_
                exact vs_append (pv 4) (ve_var 3 (pv 3))
              · exact vss_nil
            · refine vssm_one ?_
              exact vsm_ret dk.c k_Desk_keep hr (by decide) tk (pv 0) (va_cons (ve_tup (va_cons (ve_ix (ve_web dk.c dk.nw (ve_var 0 (pv 0))) (vv_of (ve_c pe_int (.int _))) (fun _ _ => rfl)) (va_cons (ve_tuple (by rfl) m_tuple (vv_ofN (vn_sorted hr (by rfl) m_sorted (vv_var 4 (pv 4))))) va_nil))) va_nil) ⟨by decide, by decide⟩
end
section
variable {P : Program} {w : World} {K : PySem.W.Frag} {mg : Str → Option Value} {base : Heap} {ct : Nat → Addr} {cw : Addr}
theorem k_Desk_alone (T : TxM K "alone" "Desk.alone" s_Desk_alone P_Desk_alone) (e_NoDeed : ErrC K mg ct 11 "NoDeed") (dk : DeskOk K) (k_Desk_keep : CalM P w K mg base (deskC K) "keep" P_Desk_keep 1 (spM K ct 1 fKeep)) (k_tie_web : Cal P w K mg base "tie_web" P_tie_web 6 (spD K ct 1 F_tie_web)) (k_Desk_told : CalM P w K mg base (deskC K) "told" P_Desk_told 45 (spD K ct 2 F_Desk_told)) : CalM P w K mg base (deskC K) "alone" P_Desk_alone 46 (spM K ct 1 F_Desk_alone) := by
  show CalM P w K mg base (deskC K) "alone" P_Desk_alone 46 (spM K ct 1 (fnM 2 b_Desk_alone))
  refine calMM (P := P) (w := w) (base := base) (ct := ct) (bodyM := b_Desk_alone) (k := 45) (N := N_Desk_alone) (n := 1) T sc_Desk_alone rfl (by decide) fun f cdv A outer s H E B hr tk hp => ?_
  unfold b_Desk_alone
  refine vssm_cons ?_ ?_
  · refine vsm_if ?_ ?_ ?_
    · exact (vt_eq hr (ve_var 1 (pv 1)) (vv_of (ve_c pe_str (.str _))))
    · refine vssm_one ?_
      exact vsm_ret dk.c k_Desk_keep hr (by decide) tk (pv 0) (va_cons (ve_callC k_tie_web hr (by decide) tk (by rfl) (va_cons (ve_web dk.c dk.nw (ve_var 0 (pv 0))) va_nil)) va_nil) ⟨by decide, by decide⟩
    · exact vssm_lift vss_nil
  · refine vssm_cons ?_ ?_
    · refine vsm_if ?_ ?_ ?_
      · exact (vt_eq hr (ve_var 1 (pv 1)) (vv_of (ve_c pe_str (.str _))))
      · refine vssm_cons ?_ ?_
        · refine vsm_lift ?_
          refine vs_if ?_ ?_ ?_
          · exact (vt_eq hr (ve_past dk.c dk.np (ve_var 0 (pv 0))) (vv_ofN (vn_lst va_nil)))
          · refine vss_one ?_
            exact vs_raise rfl tk e_NoDeed (by rfl)
          · exact vss_nil
        · exact vssm_pop dk.c dk.nw dk.np (pv 0) (pv 0)
      · exact vssm_lift vss_nil
    · refine vssm_one ?_
      refine vsm_lift ?_
      exact vs_ret (ve_meth dk.c k_Desk_told hr (by decide) tk (ve_var 0 (pv 0)) (va_cons (ve_var 1 (pv 1)) va_nil) ⟨by decide, by decide⟩)
end
section
variable {P : Program} {w : World} {K : PySem.W.Frag} {mg : Str → Option Value} {base : Heap} {ct : Nat → Addr} {cw : Addr}
theorem k_Desk_told (T : TxM K "told" "Desk.told" s_Desk_told P_Desk_told) (m_int : mg "int" = none) (m_str : mg "str" = none) (dk : DeskOk K) (k_all_sharings : Cal P w K mg base "all_sharings" P_all_sharings 44 (spN K ct 1 F_all_sharings)) (k_fate : Cal P w K mg base "fate" P_fate 6 (spD K ct 1 F_fate)) (k_sizes_ahead : Cal P w K mg base "sizes_ahead" P_sizes_ahead 6 (spN K ct 1 F_sizes_ahead)) (k_shown : Cal P w K mg base "shown" P_shown 1 (spD K ct 1 F_shown)) : CalM P w K mg base (deskC K) "told" P_Desk_told 45 (spD K ct 2 F_Desk_told) := by
  show CalM P w K mg base (deskC K) "told" P_Desk_told 45 (spD K ct 2 (fnD 7 b_Desk_told))
  refine calMD (P := P) (w := w) (base := base) (ct := ct) (body := b_Desk_told) (k := 44) (N := N_Desk_told) (n := 2) T sc_Desk_told rfl (by decide) fun f cdv A outer s H E hr tk hp => ?_
  unfold b_Desk_told
  refine vss_cons ?_ ?_
  · refine vs_if ?_ ?_ ?_
    · exact (vt_eq hr (ve_var 1 (pv 1)) (vv_of (ve_c pe_str (.str _))))
    · refine vss_one ?_
      exact vs_ret (ve_callC k_shown hr (by decide) tk (by rfl) (va_cons (ve_web dk.c dk.nw (ve_var 0 (pv 0))) va_nil))
    · exact vss_nil
  · refine vss_cons ?_ ?_
    · refine vs_if ?_ ?_ ?_
      · exact (vt_eq hr (ve_var 1 (pv 1)) (vv_of (ve_c pe_str (.str _))))
      · refine vss_one ?_
        exact vs_ret (ve_join (ve_c pe_str (.str _)) (ve_ofN (vn_lc (own := [("number", 3)]) rfl sc_Desk_told.nd tg_name (vi_seq (ve_ofN (vn_callC k_sizes_ahead hr (by decide) tk (by rfl) (va_cons (ve_web dk.c dk.nw (ve_var 0 (pv 0))) va_nil)))) (blkOk_by (N := N_Desk_told) (sc := defScope s_Desk_told) (by decide +kernel)) (by decide) (fun _ _ _ _ _ => (pg_name (i := 3) sc_Desk_told.nd rfl (Or.inl rfl))) (fun _ _ _ _ _ => vts_nil) (fun _ _ _ _ _ => (ve_str (by rfl) m_str (vv_var 3 (pv 3)))))))
      · exact vss_nil
    · refine vss_cons ?_ ?_
      · refine vs_if ?_ ?_ ?_
        · exact (vt_eq hr (ve_var 1 (pv 1)) (vv_of (ve_c pe_str (.str _))))
        · refine vss_one ?_
          exact vs_ret (ve_join (ve_c pe_str (.str _)) (ve_ofN (vn_lc (own := [("part", 4)]) rfl sc_Desk_told.nd tg_name (vi_seq (ve_callC k_fate hr (by decide) tk (by rfl) (va_cons (ve_web dk.c dk.nw (ve_var 0 (pv 0))) va_nil))) (blkOk_by (N := N_Desk_told) (sc := defScope s_Desk_told) (by decide +kernel)) (by decide) (fun _ _ _ _ _ => (pg_name (i := 4) sc_Desk_told.nd rfl (Or.inl rfl))) (fun _ _ _ _ _ => vts_nil) (fun _ _ _ _ _ => (ve_strT (by rfl) m_str (vv_var 4 (pv 4)))))))
        · exact vss_nil
      · refine vss_cons ?_ ?_
        · exact vs_set (i := 2) sc_Desk_told.nd rfl (Or.inl rfl) (ve_ofN (vn_callC k_all_sharings hr (by decide) tk (by rfl) (va_cons (ve_web dk.c dk.nw (ve_var 0 (pv 0))) va_nil)))
        · refine vss_cons ?_ ?_
          · refine vs_if ?_ ?_ ?_
            · exact (vt_eq hr (ve_var 1 (pv 1)) (vv_of (ve_c pe_str (.str _))))
            · refine vss_one ?_
              exact vs_ret (ve_ix (ve_ofN (vn_lst (va_cons (ve_c pe_str (.str _)) (va_cons (ve_c pe_str (.str _)) va_nil)))) (vv_of (ve_intB (by rfl) m_int (vv_of (ve_ne hr (ve_var 2 (pv 2)) (vv_ofN (vn_lst va_nil)))))) (fun _ _ => rfl))
            · exact vss_nil
          · refine vss_cons ?_ ?_
            · refine vs_if ?_ ?_ ?_
              · exact (vt_eq hr (ve_var 2 (pv 2)) (vv_ofN (vn_lst va_nil)))
              · refine vss_one ?_
                exact vs_ret (ve_c pe_str (.str _))
              · exact vss_nil
            · refine vss_one ?_
              exact vs_ret (ve_orT (ve_join (ve_c pe_str (.str _)) (ve_ofN (vn_lc (own := [("crowd", 5)]) rfl sc_Desk_told.nd tg_name (vi_seq (ve_ix (ve_var 2 (pv 2)) (vv_of (ve_c pe_int (.int _))) (fun _ _ => rfl))) (blkOk_by (N := N_Desk_told) (sc := defScope s_Desk_told) (by decide +kernel)) (by decide) (fun _ _ _ _ _ => (pg_name (i := 5) sc_Desk_told.nd rfl (Or.inl rfl))) (fun _ _ _ _ _ => vts_nil) (fun _ _ _ _ _ => (ve_join (ve_c pe_str (.str _)) (ve_ofN (vn_lc (own := [("place", 6)]) rfl sc_Desk_told.nd tg_name (vi_seq (ve_var 5 (pv 5))) (blkOk_by (by rfl)) (by decide) (fun _ _ _ _ _ => (pg_name (i := 6) sc_Desk_told.nd rfl (Or.inl rfl))) (fun _ _ _ _ _ => vts_nil) (fun _ _ _ _ _ => (ve_str (by rfl) m_str (vv_var 6 (pv 6))))))))))) (ve_one (ve_c pe_str (.str _))))
end
section
theorem rf__law_refused {X : Cx} {ct : Nat → Addr} {cw : Addr} (hr : Room 1 X.A) (er : Errs X.K X.mg ct cw) (m_ValueError : X.mg "ValueError" = none) (m_isinstance : X.mg "isinstance" = none) (m_range : X.mg "range" = none) : Refuses X ct "_law_refused" "_law_call" s__law_refused N__law_refused m0__law_refused m1__law_refused := fun g cdv q =>
  ref_gives (N := N__law_refused) (ie := 4) (by decide) rfl rfl rfl (by decide) rfl rfl rfl rfl er.web er.M (fun _ _ => rfl) (fun s H => by
    have hr : Room 0 (Zr X N__law_refused "_law_refused" (defScope s__law_refused) g cdv s H).A := hr.deeper _
    unfold m0__law_refused
    refine vss_cons ?_ ?_
    · exact vs_setN (i := 2) sc__law_refused.nd rfl (Or.inr rfl) (vn_lst (va_cons (ve_isO0 (m := 0) er.M (by decide) (by rfl) m_isinstance (ve_var 1 (pv 1)) (pe_glob (v := .ref (ct 0)) (by rfl) (er.gl 0 (by decide)) rfl)) (va_cons (ve_isO0 (m := 1) er.M (by decide) (by rfl) m_isinstance (ve_var 1 (pv 1)) (pe_glob (v := .ref (ct 1)) (by rfl) (er.gl 1 (by decide)) rfl)) (va_cons (ve_isO0 (m := 2) er.M (by decide) (by rfl) m_isinstance (ve_var 1 (pv 1)) (pe_glob (v := .ref (ct 2)) (by rfl) (er.gl 2 (by decide)) rfl)) va_nil))))
    · refine vss_cons ?_ ?_
      · exact vs_setN (i := 2) sc__law_refused.nd rfl (Or.inr rfl) (vn_add (ve_var 2 (pv 2)) (vv_ofN (vn_lst (va_cons (ve_isO0 (m := 3) er.M (by decide) (by rfl) m_isinstance (ve_var 1 (pv 1)) (pe_glob (v := .ref (ct 3)) (by rfl) (er.gl 3 (by decide)) rfl)) (va_cons (ve_isO0 (m := 4) er.M (by decide) (by rfl) m_isinstance (ve_var 1 (pv 1)) (pe_glob (v := .ref (ct 4)) (by rfl) (er.gl 4 (by decide)) rfl)) (va_cons (ve_isO0 (m := 5) er.M (by decide) (by rfl) m_isinstance (ve_var 1 (pv 1)) (pe_glob (v := .ref (ct 5)) (by rfl) (er.gl 5 (by decide)) rfl)) va_nil))))))
      · refine vss_cons ?_ ?_
        · exact vs_setN (i := 2) sc__law_refused.nd rfl (Or.inr rfl) (vn_add (ve_var 2 (pv 2)) (vv_ofN (vn_lst (va_cons (ve_isO0 (m := 6) er.M (by decide) (by rfl) m_isinstance (ve_var 1 (pv 1)) (pe_glob (v := .ref (ct 6)) (by rfl) (er.gl 6 (by decide)) rfl)) (va_cons (ve_isO0 (m := 7) er.M (by decide) (by rfl) m_isinstance (ve_var 1 (pv 1)) (pe_glob (v := .ref (ct 7)) (by rfl) (er.gl 7 (by decide)) rfl)) (va_cons (ve_isO0 (m := 8) er.M (by decide) (by rfl) m_isinstance (ve_var 1 (pv 1)) (pe_glob (v := .ref (ct 8)) (by rfl) (er.gl 8 (by decide)) rfl)) va_nil))))))
        · refine vss_cons ?_ ?_
          · exact vs_setN (i := 2) sc__law_refused.nd rfl (Or.inr rfl) (vn_add (ve_var 2 (pv 2)) (vv_ofN (vn_lst (va_cons (ve_isO0 (m := 9) er.M (by decide) (by rfl) m_isinstance (ve_var 1 (pv 1)) (pe_glob (v := .ref (ct 9)) (by rfl) (er.gl 9 (by decide)) rfl)) (va_cons (ve_isO0 (m := 10) er.M (by decide) (by rfl) m_isinstance (ve_var 1 (pv 1)) (pe_glob (v := .ref (ct 10)) (by rfl) (er.gl 10 (by decide)) rfl)) (va_cons (ve_isO0 (m := 11) er.M (by decide) (by rfl) m_isinstance (ve_var 1 (pv 1)) (pe_glob (v := .ref (ct 11)) (by rfl) (er.gl 11 (by decide)) rfl)) va_nil))))))
          · refine vss_cons ?_ ?_
            · exact vs_append (pv 2) (ve_isO0 (m := 12) er.M (by decide) (by rfl) m_isinstance (ve_var 1 (pv 1)) (pe_glob (v := .ref (ct 12)) (by rfl) (er.gl 12 (by decide)) rfl))
            · refine vss_cons ?_ ?_
              · refine vs_if ?_ ?_ ?_
                · exact (vt_not (vt_val (ve_isV0 er.M (by rfl) m_isinstance (ve_var 1 (pv 1)) (pe_bltn (by rfl) m_ValueError boot_VE rfl))))
                · refine vss_one ?_
                  exact vs_ret (ve_c pe_non .non)
                · exact vss_nil
              · refine vss_cons ?_ ?_
                · exact vs_setLc (i := 3) sc__law_refused.nd rfl (PS_lc (own := [("_law_k", 5)]) rfl sc__law_refused.nd rfl rfl (sw_true rfl rfl rfl (by decide +kernel)) tg_name (vi_range1 (by rfl) m_range (ve_c pe_int (.int _))) (blkOk_by (N := N__law_refused) (sc := defScope s__law_refused) (by decide +kernel)) (by decide) (fun _ _ _ _ _ => (pg_name (i := 5) sc__law_refused.nd rfl (Or.inl rfl))) (fun _ _ _ _ _ => (vts_one (vt_val (ve_ixV (vv_var 2 (pv 2)) pure_vVar (vv_var 5 (pv 5)) (fun _ _ => rfl))))) (fun _ _ _ _ _ => (ve_var 5 (pv 5))))
                · refine vss_one ?_
                  exact vs_ret (ve_if (vt_eq hr (ve_var 3 (pv 3)) (vv_ofN (vn_lst (va_cons (ve_c pe_int (.int _)) va_nil)))) (ve_add (ve_var 3 (pv 3)) (vv_ofN (vn_lst (va_cons ve_bad (va_cons ve_bad va_nil))))) (ve_var 3 (pv 3)))
  ) (fun s H n hn a oe d hz hf => by
    have hr : Room 0 (Zr X N__law_refused "_law_refused" (defScope s__law_refused) g cdv s H).A := hr.deeper _
    unfold m1__law_refused
    refine vss_cons ?_ ?_
    · exact vs_setN (i := 2) sc__law_refused.nd rfl (Or.inr rfl) (vn_lst (va_cons (ve_isO1 (m := 0) er.M hn (by decide) hz hf (by rfl) m_isinstance (ve_var 1 (pv 1)) (pe_glob (v := .ref (ct 0)) (by rfl) (er.gl 0 (by decide)) rfl)) (va_cons (ve_isO1 (m := 1) er.M hn (by decide) hz hf (by rfl) m_isinstance (ve_var 1 (pv 1)) (pe_glob (v := .ref (ct 1)) (by rfl) (er.gl 1 (by decide)) rfl)) (va_cons (ve_isO1 (m := 2) er.M hn (by decide) hz hf (by rfl) m_isinstance (ve_var 1 (pv 1)) (pe_glob (v := .ref (ct 2)) (by rfl) (er.gl 2 (by decide)) rfl)) va_nil))))
    · refine vss_cons ?_ ?_
      · exact vs_setN (i := 2) sc__law_refused.nd rfl (Or.inr rfl) (vn_add (ve_var 2 (pv 2)) (vv_ofN (vn_lst (va_cons (ve_isO1 (m := 3) er.M hn (by decide) hz hf (by rfl) m_isinstance (ve_var 1 (pv 1)) (pe_glob (v := .ref (ct 3)) (by rfl) (er.gl 3 (by decide)) rfl)) (va_cons (ve_isO1 (m := 4) er.M hn (by decide) hz hf (by rfl) m_isinstance (ve_var 1 (pv 1)) (pe_glob (v := .ref (ct 4)) (by rfl) (er.gl 4 (by decide)) rfl)) (va_cons (ve_isO1 (m := 5) er.M hn (by decide) hz hf (by rfl) m_isinstance (ve_var 1 (pv 1)) (pe_glob (v := .ref (ct 5)) (by rfl) (er.gl 5 (by decide)) rfl)) va_nil))))))
      · refine vss_cons ?_ ?_
        · exact vs_setN (i := 2) sc__law_refused.nd rfl (Or.inr rfl) (vn_add (ve_var 2 (pv 2)) (vv_ofN (vn_lst (va_cons (ve_isO1 (m := 6) er.M hn (by decide) hz hf (by rfl) m_isinstance (ve_var 1 (pv 1)) (pe_glob (v := .ref (ct 6)) (by rfl) (er.gl 6 (by decide)) rfl)) (va_cons (ve_isO1 (m := 7) er.M hn (by decide) hz hf (by rfl) m_isinstance (ve_var 1 (pv 1)) (pe_glob (v := .ref (ct 7)) (by rfl) (er.gl 7 (by decide)) rfl)) (va_cons (ve_isO1 (m := 8) er.M hn (by decide) hz hf (by rfl) m_isinstance (ve_var 1 (pv 1)) (pe_glob (v := .ref (ct 8)) (by rfl) (er.gl 8 (by decide)) rfl)) va_nil))))))
        · refine vss_cons ?_ ?_
          · exact vs_setN (i := 2) sc__law_refused.nd rfl (Or.inr rfl) (vn_add (ve_var 2 (pv 2)) (vv_ofN (vn_lst (va_cons (ve_isO1 (m := 9) er.M hn (by decide) hz hf (by rfl) m_isinstance (ve_var 1 (pv 1)) (pe_glob (v := .ref (ct 9)) (by rfl) (er.gl 9 (by decide)) rfl)) (va_cons (ve_isO1 (m := 10) er.M hn (by decide) hz hf (by rfl) m_isinstance (ve_var 1 (pv 1)) (pe_glob (v := .ref (ct 10)) (by rfl) (er.gl 10 (by decide)) rfl)) (va_cons (ve_isO1 (m := 11) er.M hn (by decide) hz hf (by rfl) m_isinstance (ve_var 1 (pv 1)) (pe_glob (v := .ref (ct 11)) (by rfl) (er.gl 11 (by decide)) rfl)) va_nil))))))
          · refine vss_cons ?_ ?_
            · exact vs_append (pv 2) (ve_isO1 (m := 12) er.M hn (by decide) hz hf (by rfl) m_isinstance (ve_var 1 (pv 1)) (pe_glob (v := .ref (ct 12)) (by rfl) (er.gl 12 (by decide)) rfl))
            · refine vss_cons ?_ ?_
              · refine vs_if ?_ ?_ ?_
                · exact (vt_not (vt_val (ve_isV1 er.M hn hz hf (by rfl) m_isinstance (ve_var 1 (pv 1)) (pe_bltn (by rfl) m_ValueError boot_VE rfl))))
                · refine vss_one ?_
                  exact vs_ret (ve_c pe_non .non)
                · exact vss_nil
              · refine vss_cons ?_ ?_
                · exact vs_setLc (i := 3) sc__law_refused.nd rfl (PS_lc (own := [("_law_k", 5)]) rfl sc__law_refused.nd rfl rfl (sw_true rfl rfl rfl (by decide +kernel)) tg_name (vi_range1 (by rfl) m_range (ve_c pe_int (.int _))) (blkOk_by (N := N__law_refused) (sc := defScope s__law_refused) (by decide +kernel)) (by decide) (fun _ _ _ _ _ => (pg_name (i := 5) sc__law_refused.nd rfl (Or.inl rfl))) (fun _ _ _ _ _ => (vts_one (vt_val (ve_ixV (vv_var 2 (pv 2)) pure_vVar (vv_var 5 (pv 5)) (fun _ _ => rfl))))) (fun _ _ _ _ _ => (ve_var 5 (pv 5))))
                · refine vss_one ?_
                  exact vs_ret (ve_if (vt_eq hr (ve_var 3 (pv 3)) (vv_ofN (vn_lst (va_cons (ve_c pe_int (.int _)) va_nil)))) (ve_add (ve_var 3 (pv 3)) (vv_ofN (vn_lst (va_cons (ve_fld1 (er.T _ hn) (er.noM _ hn) hz hf (ve_var 1 (pv 1))) (va_cons (ve_fld1 (er.T _ hn) (er.noN _ hn) hz hf (ve_var 1 (pv 1))) va_nil))))) (ve_var 3 (pv 3)))
  )
end
section
variable {P : Program} {w : World} {K : PySem.W.Frag} {mg : Str → Option Value} {base : Heap} {ct : Nat → Addr} {cw : Addr}
theorem k__law_bad (T : Tx K mg "_law_bad" s__law_bad P__law_bad) (m_len : mg "len" = none) : Cal P w K mg base "_law_bad" P__law_bad 1 (spD K ct 1 F__law_bad) := by
  show Cal P w K mg base "_law_bad" P__law_bad 1 (spD K ct 1 (fnD 2 b__law_bad))
  refine calDm (P := P) (w := w) (base := base) (ct := ct) (body := b__law_bad) (k := 0) T sc__law_bad rfl rfl (by decide) fun f cdv A outer s H E hr tk hp => ?_
  unfold b__law_bad
  refine vss_cons ?_ ?_
  · exact vs_setN (i := 1) sc__law_bad.nd rfl (Or.inl rfl) (vn_lst (va_cons (ve_c pe_str (.str _)) (va_cons (ve_c pe_str (.str _)) (va_cons (ve_c pe_str (.str _)) (va_cons (ve_c pe_str (.str _)) (va_cons (ve_c pe_str (.str _)) (va_cons (ve_c pe_str (.str _)) (va_cons (ve_c pe_str (.str _)) (va_cons (ve_c pe_str (.str _)) (va_cons (ve_c pe_str (.str _)) (va_cons (ve_c pe_str (.str _)) va_nil)))))))))))
  · refine vss_cons ?_ ?_
    · exact vs_setN (i := 1) sc__law_bad.nd rfl (Or.inl rfl) (vn_add (ve_var 1 (pv 1)) (vv_ofN (vn_lst (va_cons (ve_c pe_str (.str _)) (va_cons (ve_c pe_str (.str _)) (va_cons (ve_c pe_str (.str _)) (va_cons (ve_c pe_str (.str _)) (va_cons (ve_c pe_str (.str _)) (va_cons (ve_c pe_str (.str _)) (va_cons (ve_c pe_str (.str _)) (va_cons (ve_c pe_str (.str _)) (va_cons (ve_c pe_str (.str _)) va_nil))))))))))))
    · refine vss_cons ?_ ?_
      · exact vs_setN (i := 1) sc__law_bad.nd rfl (Or.inl rfl) (vn_add (ve_var 1 (pv 1)) (vv_ofN (vn_lst (va_cons (ve_c pe_str (.str _)) (va_cons (ve_c pe_str (.str _)) (va_cons (ve_c pe_str (.str _)) (va_cons (ve_c pe_str (.str _)) (va_cons (ve_c pe_str (.str _)) (va_cons (ve_c pe_str (.str _)) (va_cons (ve_c pe_str (.str _)) (va_cons (ve_c pe_str (.str _)) va_nil)))))))))))
      · refine vss_cons ?_ ?_
        · exact vs_append (pv 1) (ve_c pe_str (.str _))
        · refine vss_cons ?_ ?_
          · exact vs_setN (i := 1) sc__law_bad.nd rfl (Or.inl rfl) (vn_add (ve_var 1 (pv 1)) (vv_ofN (vn_lst (va_cons (ve_c pe_str (.str _)) (va_cons (ve_c pe_str (.str _)) (va_cons (ve_c pe_str (.str _)) (va_cons (ve_c pe_str (.str _)) (va_cons (ve_c pe_str (.str _)) (va_cons (ve_c pe_str (.str _)) (va_cons (ve_c pe_str (.str _)) (va_cons (ve_c pe_str (.str _)) (va_cons (ve_c pe_str (.str _)) (va_cons (ve_c pe_str (.str _)) va_nil)))))))))))))
          · refine vss_cons ?_ ?_
            · exact vs_setN (i := 1) sc__law_bad.nd rfl (Or.inl rfl) (vn_add (ve_var 1 (pv 1)) (vv_ofN (vn_lst (va_cons (ve_c pe_str (.str _)) (va_cons (ve_c pe_str (.str _)) (va_cons (ve_c pe_str (.str _)) (va_cons (ve_c pe_str (.str _)) (va_cons (ve_c pe_str (.str _)) (va_cons (ve_c pe_str (.str _)) (va_cons (ve_c pe_str (.str _)) (va_cons (ve_c pe_str (.str _)) (va_cons (ve_c pe_str (.str _)) (va_cons (ve_c pe_str (.str _)) va_nil)))))))))))))
            · refine vss_cons ?_ ?_
              · exact vs_setN (i := 1) sc__law_bad.nd rfl (Or.inl rfl) (vn_add (ve_var 1 (pv 1)) (vv_ofN (vn_lst (va_cons (ve_c pe_non .non) (va_cons (ve_c pe_int (.int _)) (va_cons (ve_c pe_bl (.bl _)) (va_cons (ve_tup (va_cons (ve_c pe_str (.str _)) va_nil)) (va_cons (ve_ofN (vn_lst (va_cons (ve_c pe_str (.str _)) va_nil))) (va_cons ve_dct (va_cons (ve_c pe_str (.str _)) (va_cons (ve_tup (va_cons (ve_c pe_int (.int _)) (va_cons (ve_tup va_nil) va_nil))) va_nil)))))))))))
              · refine vss_one ?_
                exact vs_ret (ve_ixO (pv 1) (ve_mod (ve_var 0 (pv 0)) (vv_of (ve_len (by rfl) m_len (vv_var 1 (pv 1))))) (fun _ _ => rfl))
end
section
variable {P : Program} {w : World} {K : PySem.W.Frag} {mg : Str → Option Value} {base : Heap} {ct : Nat → Addr} {cw : Addr}
noncomputable def b_law : MS := (mNewDk 1 [0] fun aD => (mSeqDk (mIfG (mTest (mOp2 gEq (mOp2 gMod (mOp2 gIx (mOp2 gAdd (mSlX (mVar 0) mNoPart (mPart (mC (.int 1)))) (mOfN (mLst (mCons (mC (.int 0)) mNil)))) (mC (.int 0))) (mC (.int 2))) (mC (.int 1)))) (mSeqG (mSayS 1 aD 1 F_Desk_say (mCons (mC (.str "places 4")) mNil)) (mSeqG (mSayS 1 aD 1 F_Desk_say (mCons (mC (.str "tie 0 2")) mNil)) (mSeqG (mSayS 1 aD 1 F_Desk_say (mCons (mC (.str "tie 2 3")) mNil)) (mSayS 1 aD 1 F_Desk_say (mCons (mC (.str "tie 3 1")) mNil))))) (liftG mNx)) (mFrzDk 1 aD (mSeq (mSet 2 (mOfN (mLst (mCons (mC (.str "web")) (mCons (mC (.str "root")) (mCons (mC (.str "shared")) (mCons (mC (.str "ahead")) (mCons (mC (.str "fate")) mNil)))))))) (mSeq (mSetN 3 (mLst mNil)) (mSeq (mFor [4] fName (mSeq1 (mVar 2)) (mOn 3 (mSayA 1 F_Desk_say (mVar 1) (mCons (mVar 4) mNil)) gApp)) (mSeq (mFor [5] fName (mSeq1 (mOp2 gAdd (mSlX (mVar 0) (mPart (mC (.int 1))) (mPart (mC (.int 31)))) (mOfN (mLst (mCons (mC (.int 5)) mNil))))) (mSeq (mSet 6 (mCall 1 F__law_bad (mCons (mOp2 gMod (mVar 5) (mC (.int 2147483647))) mNil))) (mSeq (mIfS (mTest (mOp2 gNe (mRefused (mSayA 1 F_Desk_say (mVar 1) (mCons (mVar 6) mNil))) (mOfN (mLst (mCons (mC (.int 10)) mNil))))) (mRet (mC (.bool false))) mNx) (mIfS (mTest (mOp2 gNe (mOfN (mComp [4] [4] fName (mSeq1 (mVar 2)) mYes (mSayA 1 F_Desk_say (mVar 1) (mCons (mVar 4) mNil)))) (vVar 3))) (mRet (mC (.bool false))) mNx)))) (mRet (mC (.bool true))))))))))
noncomputable def F_law : List D → R D := fnD 7 b_law
theorem kb_law {cL : Addr} (mkr : MakerAt K mg base cL "law.<locals>.<lambda>") (dk : DeskOk K) (k_Desk___init__ : CalI P w K mg base 1) (k_Desk_say : CalM P w K mg base (deskC K) "say" P_Desk_say 47 (spM K ct 1 F_Desk_say)) (k__law_bad : Cal P w K mg base "_law_bad" P__law_bad 1 (spD K ct 1 F__law_bad)) (er : Errs K mg ct cw) (t__law_refused : Tx K mg "_law_refused" s__law_refused P__law_refused) (m_ValueError : mg "ValueError" = none) (m_isinstance : mg "isinstance" = none) (m_range : mg "range" = none) : BodyAt P w K mg base ct N_law "law" s_law (.ref cL) 50 b_law := by
  intro f A outer s H E hr tk hp
  have mk : Maker (Bx P w K mg base N_law "law" s_law f (.ref cL) A outer s H E) := mkr.mk' rfl rfl
  refine vss_newDk (i := 1) k_Desk___init__ hr (by decide) tk rfl sc_law.nd rfl (Or.inr rfl) (fun aD δ0 G0 H0 σ0 => ?_)
  refine vsdk_cons ?_ ?_
  · refine vsg_if (ct := ct) (W := WE' E) dks_stb ?_ ?_ ?_
    · exact (vt_eq hr (ve_mod (ve_ix (ve_add (ve_slX (ve_var 0 (pv 0)) vo_none (vo_some (ve_c pe_int (.int _)))) (vv_ofN (vn_lst (va_cons (ve_c pe_int (.int _)) va_nil)))) (vv_of (ve_c pe_int (.int _))) (fun _ _ => rfl)) (vv_of (ve_c pe_int (.int _)))) (vv_of (ve_c pe_int (.int _))))
    · refine vssg_cons ?_ ?_
      · exact vsg_say (ct := ct) (W := WE' E) dk.c k_Desk_say hr (by decide) tk (pv 1) (va_cons (ve_c pe_str (.str _)) va_nil) ⟨by decide, by decide⟩
      · refine vssg_cons ?_ ?_
        · exact vsg_say (ct := ct) (W := WE' E) dk.c k_Desk_say hr (by decide) tk (pv 1) (va_cons (ve_c pe_str (.str _)) va_nil) ⟨by decide, by decide⟩
        · refine vssg_cons ?_ ?_
          · exact vsg_say (ct := ct) (W := WE' E) dk.c k_Desk_say hr (by decide) tk (pv 1) (va_cons (ve_c pe_str (.str _)) va_nil) ⟨by decide, by decide⟩
          · refine vssg_one ?_
            exact vsg_say (ct := ct) (W := WE' E) dk.c k_Desk_say hr (by decide) tk (pv 1) (va_cons (ve_c pe_str (.str _)) va_nil) ⟨by decide, by decide⟩
    · exact vssg_lift (ct := ct) (W := WE' E) dks_stb vss_nil
  · refine vsdk_frz ?_
    refine vss_cons ?_ ?_
    · exact vs_set (i := 2) sc_law.nd rfl (Or.inl rfl) (ve_ofN (vn_lst (va_cons (ve_c pe_str (.str _)) (va_cons (ve_c pe_str (.str _)) (va_cons (ve_c pe_str (.str _)) (va_cons (ve_c pe_str (.str _)) (va_cons (ve_c pe_str (.str _)) va_nil)))))))
    · refine vss_cons ?_ ?_
      · exact vs_setN (i := 3) sc_law.nd rfl (Or.inl rfl) (vn_lst va_nil)
      · refine vss_cons ?_ ?_
        · refine vs_for hp rfl tg_name (vi_seq (ve_var 2 (pv 2))) (pg_name (i := 4) sc_law.nd rfl (Or.inl rfl)) ?_
          refine vss_one ?_
          exact vs_append (pv 3) (ve_say dk.c k_Desk_say hr (by decide) tk (ve_var 1 (pv 1)) (va_cons (ve_var 4 (pv 4)) va_nil) ⟨by decide, by decide⟩)
        · refine vss_cons ?_ ?_
          · refine vs_for hp rfl tg_name (vi_seq (ve_add (ve_slX (ve_var 0 (pv 0)) (vo_some (ve_c pe_int (.int _))) (vo_some (ve_c pe_int (.int _)))) (vv_ofN (vn_lst (va_cons (ve_c pe_int (.int _)) va_nil))))) (pg_name (i := 5) sc_law.nd rfl (Or.inl rfl)) ?_
            refine vss_cons ?_ ?_
            · exact vs_set (i := 6) sc_law.nd rfl (Or.inr rfl) (ve_callC k__law_bad hr (by decide) tk (by rfl) (va_cons (ve_mod (ve_var 5 (pv 5)) (vv_of (ve_c pe_int (.int _)))) va_nil))
            · refine vss_cons ?_ ?_
              · refine vs_if ?_ ?_ ?_
                · exact (vt_ne hr (ve_refused (k := 48) mk t__law_refused sc__law_refused rfl (Or.inl rfl) (rf__law_refused (hr.mono (by decide)) er m_ValueError m_isinstance m_range) tells__law_refused (by rfl) hr (LamX.lamS_by (sc := defScope s_law) (by decide +kernel)) (fun _ _ _ _ _ _ _ hr tk => (ve_say dk.c k_Desk_say hr (by decide) tk (ve_var 1 (pv 1)) (va_cons (ve_var 6 (pv 6)) va_nil) ⟨by decide, by decide⟩))) (vv_ofN (vn_lst (va_cons (ve_c pe_int (.int _)) va_nil))))
                · refine vss_one ?_
                  exact vs_ret (ve_c pe_bl (.bl _))
                · exact vss_nil
              · refine vss_one ?_
                refine vs_if ?_ ?_ ?_
                · exact (vt_ne hr (ve_ofN (vn_lc (own := [("_law_word", 4)]) rfl sc_law.nd tg_name (vi_seq (ve_var 2 (pv 2))) (blkOk_by (N := N_law) (sc := defScope s_law) (by decide +kernel)) (by decide) (fun _ _ _ _ _ => (pg_name (i := 4) sc_law.nd rfl (Or.inl rfl))) (fun _ _ _ _ _ => vts_nil) (fun _ _ _ _ _ => (ve_say dk.c k_Desk_say hr (by decide) takesW0 (ve_var 1 (pv 1)) (va_cons (ve_var 4 (pv 4)) va_nil) ⟨by decide, by decide⟩)))) (vv_var 3 (pv 3)))
                · refine vss_one ?_
                  exact vs_ret (ve_c pe_bl (.bl _))
                · exact vss_nil
          · refine vss_one ?_
            exact vs_ret (ve_c pe_bl (.bl _))
end
abbrev s_init : Stmt := inClass (topS 14) 0
theorem sc_init : FnScope ["self", "many", "most"] ["self", "many", "most"] (defScope s_init) := ⟨rfl, rfl, rfl, by decide +kernel, rfl, by decide +kernel, by decide +kernel⟩
end K93
set_option Elab.async false
set_option linter.all false
set_option maxRecDepth 100000
namespace Td
open PySem PySem.Spec PyProof.Rows L2 TW
def St (ss : List D) : Prop := ∃ i b, ss = [.int i, .bool b] ∧ 0 ≤ i ∧ (b = false → i < 2147483647)
theorem take_ev {ss : List D} {m : Int} (hs : St ss) (h0 : 0 < m) (h1 : m < 1073741824) : Ev (F__law_take ss [.int m]) fun p => ∃ r, p.1 = .int r ∧ 0 ≤ r ∧ r < m ∧ St p.2 := by
  obtain ⟨i, b, rfl, hi, hb⟩ := hs
  unfold F__law_take
  rw [ev_fnS]
  simp only [b__law_take, unfill]
  cases b with
  | true =>
    simp [gMod_int h0, gDiv_int ⟨h0, h1⟩, isOwn, gPut]
    exact ⟨Int.emod_nonneg _ (by omega), Int.emod_lt_of_pos _ h0, _, true, rfl, Int.ediv_nonneg hi (by omega), by simp⟩
  | false =>
    have hb := hb rfl
    have q1 : (0 : Int) ≤ (i * 48271 + 29) % 2147483647 := Int.emod_nonneg _ (by omega)
    have q2 : (i * 48271 + 29) % 2147483647 < (2147483647 : Int) := Int.emod_lt_of_pos _ (by omega)
    generalize hj : (i * 48271 + 29) % 2147483647 = j at q1 q2
    simp [gMul_int, gMod_int, h0, gDiv_int, isOwn, gPut, hj, q1]
    rw [gMul_int (by omega)]
    simp only [ev_ok, gAdd_int]
    rw [gMod_int (by omega)]
    simp only [ev_ok]
    have p1 : (0 : Int) ≤ (j * j + 39373 * j + 7) % 2147483629 := Int.emod_nonneg _ (by omega)
    have p2 : (j * j + 39373 * j + 7) % 2147483629 < (2147483629 : Int) := Int.emod_lt_of_pos _ (by omega)
    generalize (j * j + 39373 * j + 7) % 2147483629 = k at p1 p2
    rw [gMul_int (by omega)]
    simp only [ev_ok]
    rw [gMul_int (by omega)]
    simp only [ev_ok, gAdd_int]
    rw [gMod_int (by omega)]
    simp only [ev_ok]
    rw [gDiv_int (by omega)]
    simp only [ev_ok]
    rw [gMod_int h0]
    simp only [ev_ok]
    exact ⟨_, rfl, Int.emod_nonneg _ (by omega), Int.emod_lt_of_pos _ h0, _, false, rfl, q1, fun _ => q2⟩
end Td
set_option Elab.async false
set_option linter.all false
set_option maxRecDepth 100000
namespace Td
open PySem PySem.Spec PyProof.Rows L2 TW
theorem shaped_ints : ∀ ks : List Int, SeqAt.shaped (.list (ks.map .int)) = true := fun ks => by
  have h1 : ∀ ks : List Int, PyData.canLayAll0 (ks.map .int) = true := fun ks => by
    induction ks with
    | nil => simp [PyData.canLayAll0]
    | cons k ks ih => simp [PyData.canLayAll0, PyData.canLay0, ih]
  have h2 := depth_ints ks
  simp [tupD, PyData.depth] at h2
  simp [SeqAt.shaped, PyData.canLay0, h1, PyData.depth]
  omega
end Td
set_option Elab.async false
set_option linter.all false
set_option maxRecDepth 100000
namespace Td
open PySem PySem.Spec PyProof.Rows L2 TW
end Td
set_option Elab.async false
set_option linter.all false
set_option maxRecDepth 100000
namespace Td
open PySem PySem.Spec PyProof.Rows L2 TW
end Td
set_option Elab.async false
set_option linter.all false
set_option maxRecDepth 100000
namespace Td
open PySem PySem.Spec PyProof.Rows L2 TW
theorem is_whole_eq {d : D} (h : plainD d = true) : F_is_whole [d] = .ok (.bool (isI d)) := by
  apply Ev.eq
  unfold F_is_whole
  rw [ev_fnD]
  cases d <;> simp [b_is_whole, unfill, gIsi, h, isiD, tyN, isI]
theorem is_place_eq {n : Int} {d : D} (h : plainD d = true) : F_is_place [.int n, d] = .ok (.bool (placeB n d)) := by
  apply Ev.eq
  unfold F_is_place
  rw [ev_fnD]
  cases d <;> simp [b_is_place, unfill, is_whole_eq, h, isI, placeB]
  rename_i i
  by_cases h0 : 0 ≤ i <;> simp [h0]
theorem is_tie_eq {n : Int} {d : D} (h : noDict d = true) : F_is_tie [.int n, d] = .ok (.bool (tieB n d)) := by
  apply Ev.eq
  unfold F_is_tie
  rw [ev_fnD]
  have hp := plain_of h
  cases d with
  | tuple xs =>
    simp only [b_is_tie, unfill]
    simp [gIsi, hp, isiD, tyN]
    have hl : ((xs.length : Int) != 2) = decide (xs.length ≠ 2) := by
      rw [Bool.eq_iff_iff]
      simp
      omega
    match xs, h, hp with
    | [a, b], h, hp =>
      simp [noDict, noDictAll] at h
      simp [rn_mComp, wipeC]
      refine comp_map (g := fun d => .bool (placeB n d)) (fun x hx => ?_) ?_
      · have hx : noDict x = true := by
          rcases List.mem_cons.mp hx with z | z
          · rw [z]; exact h.1
          · rw [List.mem_singleton.mp z]; exact h.2
        simp [setC, is_place_eq (plain_of hx), wipeC]
      · rw [gAll_map]
        simp
        cases a <;> cases b <;> simp [placeB, tieB]
        rename_i i j
        by_cases h1 : 0 ≤ i <;> by_cases h2 : i < n <;> by_cases h3 : 0 ≤ j <;> by_cases h4 : j < n <;> simp [h1, h2, h3, h4] <;> omega
    | [], _, _ => simp [tieB]
    | [a], _, _ => simp [tieB]
    | a :: b :: c :: r, _, _ =>
      have e : (2 : Int) ≠ (r.length : Int) + 1 + 1 + 1 := by omega
      simp [tieB]
      intro z
      omega
  | _ => simp [b_is_tie, unfill, gIsi, hp, isiD, tyN, tieB]
theorem rises_eq (ks : List (Int × Int)) : F_rises [.tuple (ks.map tieD)] = .ok (.bool (risB ks)) := by
  apply Ev.eq
  unfold F_rises
  rw [ev_fnD]
  simp only [b_rises, unfill]
  simp [rn_mComp, wipeC, cut_one]
  have e : List.map (fun p => zpD [p.fst, p.snd]) ((ks.map tieD).zip ((ks.map tieD).drop 1)) = (ks.zip (ks.drop 1)).map fun z => zpD [tieD z.1, tieD z.2] := by
    rw [← List.map_drop, List.zip_map, List.map_map]
    rfl
  simp only [List.drop_one, List.map_tail] at e ⊢
  rw [e]
  refine comp_map (g := fun d => match d with | .dict [(.bool true, .tuple [a, b])] => .bool (decide (ltP (unTie a) (unTie b))) | _ => .none) (fun x hx => ?_) ?_
  · obtain ⟨z, hz, rfl⟩ := List.mem_map.mp hx
    simp [setC, wipeC, oLt_tie]
    first | rfl | exact decide_eq_decide.mpr Iff.rfl
  · rw [List.map_map]
    have := ris_zip ks
    simp only [List.drop_one] at this
    rw [← this]
    show Ev (gAll (.list ((ks.zip ks.tail).map fun z => .bool (decide (ltP (unTie (tieD z.1)) (unTie (tieD z.2))))))) _
    rw [gAll_map (fun z : (Int × Int) × (Int × Int) => decide (ltP (unTie (tieD z.1)) (unTie (tieD z.2))))]
    exact ev_ok.mpr rfl
end Td
set_option Elab.async false
set_option linter.all false
set_option maxRecDepth 100000
namespace Td
open PySem PySem.Spec PyProof.Rows L2 TW
theorem noDictAll_mem : ∀ {ts : List D}, noDictAll ts = true → ∀ t ∈ ts, noDict t = true
  | [], _, _, h => (nomatch h)
  | x :: ts, e, t, h => by
    simp only [noDictAll, Bool.and_eq_true] at e
    rcases List.mem_cons.mp h with z | z
    · rw [z]; exact e.1
    · exact noDictAll_mem e.2 t z
theorem webB_not {x y : D} (h : isI x = false) : webB (.tuple [x, y]) = false := by
  cases x <;> simp [isI, webB] at *
theorem webB_far {n : Int} {y : D} (h : ¬ (0 ≤ n ∧ n ≤ 14)) : webB (.tuple [.int n, y]) = false := by
  cases y <;> simp [webB]
  intro a b
  exact absurd ⟨a, b⟩ h
theorem seq_rt {a b : MS} {cs : List C} {Q : Fl → List C → Prop} {d : D} (h : Rn a cs fun f c => f = .rt d ∧ Q (.rt d) c) : Rn (mSeq a b) cs Q := by
  rw [rn_mSeq]
  exact h.mono fun f c ⟨e, q⟩ => by subst e; exact q
theorem is_web_eq {d : D} (h : plainD d = true) (h2 : ∀ x y, d = .tuple [x, y] → noDict x = true ∧ noDict y = true) : F_is_web [d] = .ok (.bool (webB d)) := by
  apply Ev.eq
  unfold F_is_web
  rw [ev_fnD]
  cases d with
  | tuple xs =>
    simp only [b_is_web, unfill]
    match xs, h, h2 with
    | [], h, h2 => simp [gIsi, h, isiD, tyN, webB]
    | [a], h, h2 => simp [gIsi, h, isiD, tyN, webB]
    | a :: b :: c :: r, h, h2 =>
      simp [gIsi, h, isiD, tyN, webB]
      intro z
      omega
    | [x, y], h, h2 =>
      obtain ⟨hx, hy⟩ := h2 x y rfl
      simp [gIsi, h, isiD, tyN, is_whole_eq (plain_of hx)]
      by_cases hi : isI x = true
      rotate_left
      · simp [hi]
        exact webB_not (by simpa using hi)
      · obtain ⟨n, rfl⟩ : ∃ n, x = .int n := by cases x <;> simp [isI] at hi; exact ⟨_, rfl⟩
        simp [hi]
        by_cases h0 : 0 ≤ n
        rotate_left
        · simp [h0]
          exact webB_far (fun z => h0 z.1)
        simp [h0]
        by_cases h14 : n ≤ 14
        rotate_left
        · simp [h14]
          exact webB_far (fun z => h14 z.2)
        simp [h14, plain_of hy]
        cases y with
        | tuple ts =>
          simp [rn_mComp, wipeC]
          refine comp_map (g := fun d => .bool (tieB n d)) (fun x hx => ?_) ?_
          · have hx : noDict x = true := noDictAll_mem (by simpa [noDict] using hy) x hx
            simp [setC, is_tie_eq hx, wipeC]
          · rw [gAll_map]
            by_cases ha : ts.all (tieB n) = true
            · obtain ⟨ks, rfl, _⟩ := ties_inv ha
              have hv : webB (.tuple [.int n, .tuple (ks.map tieD)]) = risB ks := by
                have z : webB (.tuple [.int n, .tuple (ks.map tieD)]) = (decide (0 ≤ n) && decide (n ≤ 14) && ((ks.map tieD).all (tieB n) && risB ((ks.map tieD).map unTie))) := rfl
                rw [z, ha, List.map_map]
                simp [h0, h14, Function.comp_def]
              simp only [ev_ok, asB_bool, ha, if_true]
              simp [rises_eq, hv]
            · simp [ha, webB, h0, h14]
        | _ => simp [webB]
  | _ =>
    unfold b_is_web
    refine seq_rt (d := .bool false) ?_
    simp [unfill, gIsi, h, isiD, tyN, webB]
theorem noDictAll_of_mem : ∀ {ts : List D}, (∀ t ∈ ts, noDict t = true) → noDictAll ts = true
  | [], _ => by simp [noDictAll]
  | x :: ts, h => by
    simp only [noDictAll, Bool.and_eq_true]
    exact ⟨h x List.mem_cons_self, noDictAll_of_mem fun t ht => h t (List.mem_cons_of_mem _ ht)⟩
theorem ties_noDict (ks : List (Int × Int)) : noDictAll (ks.map tieD) = true := noDictAll_of_mem fun t ht => by
  obtain ⟨p, _, rfl⟩ := List.mem_map.mp ht
  simp [tieD, noDict, noDictAll]
theorem webB_web {n : Int} {ks : List (Int × Int)} (w : Web n ks) : webB (webD n ks) = true := by
  have z : webB (webD n ks) = (decide (0 ≤ n) && decide (n ≤ 14) && ((ks.map tieD).all (tieB n) && risB ((ks.map tieD).map unTie))) := rfl
  rw [z, List.map_map]
  have a : (ks.map tieD).all (tieB n) = true := by
    rw [List.all_map, List.all_eq_true]
    intro p hp
    simp only [Function.comp, tieB_tieD, decide_eq_true_eq]
    exact w.ties p hp
  rw [a]
  simp [w.many.1, w.many.2, Function.comp_def, risB_iff.mpr w.pw]
theorem is_web_web {n : Int} {ks : List (Int × Int)} (w : Web n ks) : F_is_web [webD n ks] = .ok (.bool true) := by
  rw [is_web_eq rfl (fun x y e => ?_), webB_web w]
  unfold webD at e
  injection e with e
  injection e with e1 e
  injection e with e2 _
  subst e1 e2
  exact ⟨rfl, by simp [noDict, ties_noDict]⟩
theorem need_ok {n : Int} {ks : List (Int × Int)} (w : Web n ks) : F_need_web [webD n ks] = .ok .none := by
  apply Ev.eq
  unfold F_need_web
  rw [ev_fnD]
  simp [b_need_web, unfill, is_web_web w]
def okB (d : D) : Bool := plainD d && match d with
  | .tuple [x, y] => noDict x && noDict y && match y with
    | .tuple ts => decide (ts.length < 64)
    | _ => true
  | _ => true
def badB (d : D) : Bool := okB d && !webB d
theorem bad_ev {ss : List D} (hs : St ss) : Ev (F__law_bad_web ss []) fun p => badB p.1 = true ∧ St p.2 := by
  unfold F__law_bad_web
  rw [ev_fnS]
  unfold b__law_bad_web
  show Rn _ [.own true ss, .un] _
  refine seq_cut (fun c => ∃ L : List D, c = [.own true ss, .dat (.list L)] ∧ L.all badB = true ∧ L.length = 12) ⟨_, _, rfl, rfl, _, rfl, rfl, rfl⟩ ?_
  rintro c ⟨L1, rfl, h1, l1⟩
  refine seq_cut (fun c => ∃ L : List D, c = [.own true ss, .dat (.list L)] ∧ L.all badB = true ∧ L.length = 17) ?_ ?_
  · rw [rn_mSet, rn_mOp2, rn_mVar]
    refine ⟨_, _, rfl, ?_⟩
    show Ev (gAdd (.list L1) (.list _)) _
    rw [gCat_list (by rw [l1]; decide)]
    refine ev_ok.mpr ⟨rfl, _, rfl, ?_, ?_⟩
    · rw [List.all_append, h1]; rfl
    · rw [List.length_append, l1]; rfl
  rintro c ⟨L2, rfl, h2, l2⟩
  refine seq_cut (fun c => ∃ L : List D, c = [.own true ss, .dat (.list L)] ∧ L.all badB = true ∧ L.length = 25) ?_ ?_
  · rw [rn_mSet, rn_mOp2, rn_mVar]
    refine ⟨_, _, rfl, ?_⟩
    show Ev (gAdd (.list L2) (.list _)) _
    rw [gCat_list (by rw [l2]; decide)]
    refine ev_ok.mpr ⟨rfl, _, rfl, ?_, ?_⟩
    · rw [List.all_append, h2]; rfl
    · rw [List.length_append, l2]; rfl
  rintro c ⟨L, rfl, h3, l3⟩
  simp [isOwn]
  refine (take_ev hs (by omega) (by omega)).mono ?_
  rintro ⟨d, ss'⟩ ⟨r, e, r1, r2, hs'⟩
  simp at e
  subst e
  refine ix_ev r1 (by rw [l3]; exact r2) fun d hd => ?_
  exact ⟨List.all_eq_true.mp h3 d hd, hs'⟩
end Td
set_option Elab.async false
set_option linter.all false
set_option maxRecDepth 100000
namespace Td
open PySem PySem.Spec PyProof.Rows L2 TW
end Td
set_option Elab.async false
set_option linter.all false
set_option maxRecDepth 100000
namespace Td
open PySem PySem.Spec PyProof.Rows L2 TW
def tiedB (ks : List (Int × Int)) (a b : Int) : Bool := decide ((min a b, max a b) ∈ ks)
theorem eqv_tie (p q : Int × Int) : PyData.eqv (tieD p) (tieD q) = decide (p = q) := by
  simp only [tieD, PyData.eqv, PyData.eqvAll]
  have : (p = q) ↔ (p.1 = q.1 ∧ p.2 = q.2) := ⟨fun e => by rw [e]; exact ⟨rfl, rfl⟩, fun ⟨a, b⟩ => Prod.ext a b⟩
  by_cases h1 : p.1 = q.1 <;> by_cases h2 : p.2 = q.2 <;> simp [h1, h2, this]
theorem any_tie (p : Int × Int) (ks : List (Int × Int)) : ((ks.map tieD).any fun z => PyData.eqv z (tieD p)) = decide (p ∈ ks) := by
  rw [List.any_map]
  rw [Bool.eq_iff_iff, List.any_eq_true, decide_eq_true_eq]
  constructor
  · rintro ⟨q, hq, e⟩
    simp only [Function.comp, eqv_tie, decide_eq_true_eq] at e
    rw [← e]; exact hq
  · intro h
    exact ⟨p, h, by simp [eqv_tie]⟩
theorem gIn_tieT (neg : Bool) (p : Int × Int) (ks : List (Int × Int)) : gInX neg (tieD p) (.tuple (ks.map tieD)) = .ok (.bool (neg != decide (p ∈ ks))) := by
  have h1 : SeqAt.shaped (tieD p) = true := shaped_row [p.1, p.2]
  have h2 : SeqAt.shaped (.tuple (ks.map tieD)) = true := by rw [ties_rows]; exact shaped_rowsT _
  unfold gInX gOr
  simp only [gIn, h1, h2, Bool.and_self, if_true, any_tie]
theorem gIn_tieL (neg : Bool) (p : Int × Int) (ks : List (Int × Int)) : gInX neg (tieD p) (.list (ks.map tieD)) = .ok (.bool (neg != decide (p ∈ ks))) := by
  have h1 : SeqAt.shaped (tieD p) = true := shaped_row [p.1, p.2]
  have h2 : SeqAt.shaped (.list (ks.map tieD)) = true := by rw [ties_rows]; exact shaped_rows _
  unfold gInX gOr
  simp only [gIn, h1, h2, Bool.and_self, if_true, any_tie]
theorem any_int (i : Int) (is : List Int) : ((is.map PyData.int).any fun z => PyData.eqv z (.int i)) = decide (i ∈ is) := by
  rw [List.any_map]
  rw [Bool.eq_iff_iff, List.any_eq_true, decide_eq_true_eq]
  constructor
  · rintro ⟨q, hq, e⟩
    simp only [Function.comp, PyData.eqv, beq_iff_eq] at e
    rw [← e]; exact hq
  · intro h
    exact ⟨i, h, by simp [PyData.eqv]⟩
theorem gIn_intT (neg : Bool) (i : Int) (is : List Int) : gInX neg (.int i) (.tuple (is.map .int)) = .ok (.bool (neg != decide (i ∈ is))) := by
  have h2 : SeqAt.shaped (.tuple (is.map .int)) = true := shaped_row is
  unfold gInX gOr
  simp only [gIn, shaped_int, h2, Bool.and_self, if_true, any_int]
@[simp] theorem gIx_web0 {n : Int} {ks : List (Int × Int)} : gIx (webD n ks) (.int 0) = .ok (.int n) := gIx_t0
@[simp] theorem gIx_web1 {n : Int} {ks : List (Int × Int)} : gIx (webD n ks) (.int 1) = .ok (.tuple (ks.map tieD)) := gIx_t1
theorem are_tied_eq (n : Int) (ks : List (Int × Int)) (a b : Int) : F_are_tied [webD n ks, .int a, .int b] = .ok (.bool (tiedB ks a b)) := by
  apply Ev.eq
  unfold F_are_tied
  rw [ev_fnD]
  simp [b_are_tied, unfill]
  show Ev (gInX false (tieD (min a b, max a b)) (.tuple (ks.map tieD))) _
  rw [gIn_tieT]
  simp [tiedB]
def nearL (n : Int) (ks : List (Int × Int)) (a : Int) : List Int := (rgI 0 n).filter (tiedB ks a)
theorem gRg_to {n : Int} (h : 0 ≤ n ∧ n ≤ 100000) : gRg (.int 0) (.int n) = .ok ((rgI 0 n).map .int) := by
  rw [gRg_int (rgOk_small (by omega) (by omega)), rgD_eq]
theorem gRg_from {a n : Int} (h : -1 ≤ a ∧ a ≤ 100001 ∧ 0 ≤ n ∧ n ≤ 100000) : gRg (.int a) (.int n) = .ok ((rgI a n).map .int) := by
  rw [gRg_int (rgOk_small (by omega) (by omega)), rgD_eq]
theorem near_to_eq {n : Int} (h : 0 ≤ n ∧ n ≤ 100000) (ks : List (Int × Int)) (a : Int) : F_near_to [webD n ks, .int a] = .ok ((nearL n ks a).map .int) := by
  apply Ev.eq
  unfold F_near_to
  rw [ev_fnN]
  unfold b_near_to
  show Rn _ [.dat (webD n ks), .dat (.int a), .un] _
  simp [rn_mComp, gRg_to h, wipeC]
  refine comp_filterM (t := tiedB ks a) (g := .int) (fun x _ => ?_) ?_
  · simp [setC, are_tied_eq, wipeC]
  · rfl
def countsL (n : Int) (ks : List (Int × Int)) : List Int := (rgI 0 n).map fun v => ((nearL n ks v).length : Int)
theorem counts_of_eq {n : Int} (h : 0 ≤ n ∧ n ≤ 100000) (ks : List (Int × Int)) : F_counts_of [webD n ks] = .ok ((countsL n ks).map .int) := by
  apply Ev.eq
  unfold F_counts_of
  rw [ev_fnN]
  unfold b_counts_of
  show Rn _ [.dat (webD n ks), .un] _
  simp [rn_mComp, gRg_to h, wipeC]
  refine comp_mapM (g := fun v => .int ((nearL n ks v).length : Int)) (fun x _ => ?_) ?_
  · simp [setC, near_to_eq h, wipeC]
  · simp [countsL]
def pairsOf (cs : List Int) : Int := (cs.map fun c => c * (c - 1) / 2).sum
theorem intsD_map : ∀ ns : List Int, intsD (ns.map .int) = some ns
  | [] => rfl
  | n :: ns => by simp [intsD, intsD_map ns]
theorem gSum_ints (ns : List Int) : gSum (.list (ns.map .int)) = .ok (.int ns.sum) := by simp [gSum, intsD_map]
theorem pairs_of_eq {cs : List Int} (h : ∀ c ∈ cs, -1000000 ≤ c ∧ c ≤ 1000000) : F_pairs_of [.list (cs.map .int)] = .ok (.int (pairsOf cs)) := by
  apply Ev.eq
  unfold F_pairs_of
  rw [ev_fnD]
  unfold b_pairs_of
  show Rn _ [.dat (.list (cs.map .int)), .un] _
  simp [rn_mComp, wipeC]
  refine comp_mapM (g := fun c => .int (c * (c - 1) / 2)) (fun x hx => ?_) ?_
  · have := h x hx
    simp [setC, wipeC]
    rw [gMul_int (by omega)]
    simp
    rw [gDiv_int (by omega)]
    simp
  · have := gSum_ints (cs.map fun c => c * (c - 1) / 2)
    rw [List.map_map] at this
    simp only [Function.comp_def] at this
    rw [this]
    simp [pairsOf]
def meetB (p q : Int × Int) : Bool := (decide (p.1 = q.1) || decide (p.1 = q.2)) || (decide (p.2 = q.1) || decide (p.2 = q.2))
@[simp] theorem gIx_tie0 {p : Int × Int} : gIx (tieD p) (.int 0) = .ok (.int p.1) := gIx_t0
@[simp] theorem gIx_tie1 {p : Int × Int} : gIx (tieD p) (.int 1) = .ok (.int p.2) := gIx_t1
def tieAt (ks : List (Int × Int)) (a : Int) : Int × Int := ks.getD a.toNat (0, 0)
def pairsIf (m : Int) (t : Int → Int → Bool) : List (Int × Int) := (rgI 0 m).flatMap fun a => ((rgI (a + 1) m).filter (t a)).map fun b => (a, b)
def madeL (ks : List (Int × Int)) : List (Int × Int) := pairsIf ks.length fun a b => meetB (tieAt ks a) (tieAt ks b)
theorem pairsIf_mem {m : Int} {t : Int → Int → Bool} {p : Int × Int} : p ∈ pairsIf m t ↔ (0 ≤ p.1 ∧ p.1 < p.2 ∧ p.2 < m) ∧ t p.1 p.2 = true := by
  unfold pairsIf
  rw [List.mem_flatMap]
  constructor
  · rintro ⟨a, ha, h⟩
    obtain ⟨b, hb, rfl⟩ := List.mem_map.mp h
    obtain ⟨hb, ht⟩ := List.mem_filter.mp hb
    have := rgI_mem.mp ha
    have := rgI_mem.mp hb
    exact ⟨⟨by omega, by omega, by omega⟩, ht⟩
  · rintro ⟨h, ht⟩
    exact ⟨p.1, rgI_mem.mpr (by omega), List.mem_map.mpr ⟨p.2, List.mem_filter.mpr ⟨rgI_mem.mpr (by omega), ht⟩, rfl⟩⟩
theorem pairsIf_pw (m : Int) (t : Int → Int → Bool) : (pairsIf m t).Pairwise ltP := by
  unfold pairsIf
  rw [List.pairwise_flatMap]
  refine ⟨fun a _ => ?_, (rgI_pw 0 m).imp fun h x hx y hy => ?_⟩
  · rw [List.pairwise_map]
    exact ((rgI_pw _ _).filter _).imp fun h => .inr ⟨rfl, h⟩
  · obtain ⟨b, _, rfl⟩ := List.mem_map.mp hx
    obtain ⟨c, _, rfl⟩ := List.mem_map.mp hy
    exact .inl h
theorem flat_le {α β : Type} {f : α → List β} {b : Nat} : ∀ (l : List α), (∀ x ∈ l, (f x).length ≤ b) → (l.flatMap f).length ≤ l.length * b
  | [], _ => by simp
  | x :: l, h => by
    have h1 := h x List.mem_cons_self
    have h2 := flat_le l fun y hy => h y (List.mem_cons_of_mem _ hy)
    rw [List.flatMap_cons, List.length_append, List.length_cons, Nat.add_mul]
    omega
end Td
set_option Elab.async false
set_option linter.all false
set_option maxRecDepth 100000
namespace Td
open PySem PySem.Spec PyProof.Rows L2 TW
theorem cong2 {α β γ : Type} {f : α → β → γ} {a a' : α} {b b' : β} (h : a = a') (k : b = b') : f a b = f a' b' := by rw [h, k]
theorem count_one {α : Type} [BEq α] [LawfulBEq α] {p : α} : ∀ {l : List α}, l.Nodup → p ∈ l → l.count p = 1
  | [], _, m => (nomatch m)
  | q :: l, nd, m => by
    have nd := List.nodup_cons.mp nd
    rw [List.count_cons]
    by_cases e : q = p
    · subst e
      rw [List.count_eq_zero_of_not_mem nd.1]
      simp
    · rw [count_one nd.2 ((List.mem_cons.mp m).resolve_left fun z => e z.symm)]
      have : (q == p) = false := by simpa using e
      simp [this]
theorem sum_zero {α : Type} (l : List α) : (l.map fun _ => (0 : Int)).sum = 0 := by
  induction l with
  | nil => rfl
  | cons a l ih => rw [List.map_cons, List.sum_cons, ih]; rfl
def has (v : Int) (p : Int × Int) : Bool := decide (v = p.1) || decide (v = p.2)
def cnt (v : Int) (ks : List (Int × Int)) : Nat := ks.countP (has v)
def meets : List (Int × Int) → Nat
  | [] => 0
  | p :: r => r.countP (meetB p) + meets r
theorem meetB_has {p q : Int × Int} : meetB p q = (has p.1 q || has p.2 q) := rfl
theorem meetB_comm (p q : Int × Int) : meetB p q = meetB q p := by
  unfold meetB
  rw [Bool.eq_iff_iff]
  simp
  omega
theorem rg_shift (a b : Int) : rgI (a + 1) (b + 1) = (rgI a b).map (· + 1) := by
  unfold rgI
  rw [List.map_map, show b + 1 - (a + 1) = b - a by omega]
  refine List.map_congr_left fun i _ => ?_
  simp only [Function.comp]
  omega
theorem rg_one (b : Int) : rgI 1 (b + 1) = (rgI 0 b).map (· + 1) := rg_shift 0 b
theorem rg_zero (m : Nat) : rgI 0 ((m : Int) + 1) = 0 :: rgI 1 ((m : Int) + 1) := by
  unfold rgI
  have e1 : ((m : Int) + 1 - 0).toNat = m + 1 := by omega
  have e2 : ((m : Int) + 1 - 1).toNat = m := by omega
  rw [e1, e2, List.range_succ_eq_map, List.map_cons, List.map_map]
  refine cong2 (f := List.cons) (by simp) (List.map_congr_left fun i _ => ?_)
  simp only [Function.comp]
  omega
theorem tieAt_succ {p : Int × Int} {r : List (Int × Int)} {b : Int} (h : 0 ≤ b) : tieAt (p :: r) (b + 1) = tieAt r b := by
  unfold tieAt
  rw [show (b + 1).toNat = b.toNat + 1 by omega]
  rfl
theorem map_tieAt : ∀ ks : List (Int × Int), (rgI 0 ks.length).map (tieAt ks) = ks
  | [] => by simp [rgI]
  | p :: r => by
    have e : ((p :: r).length : Int) = (r.length : Int) + 1 := by simp
    rw [e, rg_zero, List.map_cons, rg_one, List.map_map]
    refine cong2 (f := List.cons) rfl ?_
    conv => rhs; rw [← map_tieAt r]
    refine List.map_congr_left fun b hb => ?_
    exact tieAt_succ (rgI_mem.mp hb).1
theorem tieAt_mem {ks : List (Int × Int)} {a : Int} (h : 0 ≤ a ∧ a < ks.length) : tieAt ks a ∈ ks := by
  have := List.mem_map_of_mem (f := tieAt ks) (rgI_mem.mpr h)
  rwa [map_tieAt] at this
theorem len_pairsIf (m : Int) (t : Int → Int → Bool) : (pairsIf m t).length = ((rgI 0 m).map fun a => (rgI (a + 1) m).countP (t a)).sum := by
  unfold pairsIf
  rw [List.length_flatMap]
  refine congrArg _ (List.map_congr_left fun a _ => ?_)
  rw [List.length_map, List.countP_eq_length_filter]
theorem made_len : ∀ ks : List (Int × Int), (madeL ks).length = meets ks
  | [] => by simp [madeL, pairsIf, rgI, meets]
  | p :: r => by
    unfold madeL
    rw [len_pairsIf]
    have e : ((p :: r).length : Int) = (r.length : Int) + 1 := by simp
    rw [e, rg_zero, List.map_cons, List.sum_cons]
    have ih := made_len r
    unfold madeL at ih
    rw [len_pairsIf] at ih
    unfold meets
    rw [← ih]
    refine cong2 (f := fun a b : Nat => a + b) ?_ ?_
    · show (rgI (0 + 1) _).countP _ = _
      rw [rg_shift, List.countP_map]
      conv => rhs; rw [← map_tieAt r, List.countP_map]
      refine List.countP_congr fun b hb => ?_
      simp only [Function.comp]
      rw [tieAt_succ (rgI_mem.mp hb).1]
      exact Iff.rfl
    · rw [rg_one, List.map_map]
      refine congrArg _ (List.map_congr_left fun a ha => ?_)
      have ha := (rgI_mem.mp ha).1
      simp only [Function.comp]
      rw [rg_shift, List.countP_map]
      refine List.countP_congr fun b hb => ?_
      have hb := (rgI_mem.mp hb).1
      simp only [Function.comp]
      rw [tieAt_succ ha, tieAt_succ (by omega)]
def c2 (c : Int) : Int := c * (c - 1) / 2
theorem c2_succ (c : Int) : c2 (c + 1) = c2 c + c := by
  unfold c2
  have e : (c + 1) * (c + 1 - 1) = c * (c - 1) + c * 2 := by
    rw [Int.add_sub_cancel, Int.add_mul, Int.mul_sub, Int.one_mul, Int.mul_one]
    omega
  rw [e, Int.add_mul_ediv_right _ _ (by decide)]
theorem sum_add {α : Type} (l : List α) (f g : α → Int) : (l.map fun v => f v + g v).sum = (l.map f).sum + (l.map g).sum := by
  induction l with
  | nil => rfl
  | cons x l ih => simp only [List.map_cons, List.sum_cons, ih]; omega
theorem sum_one {x h : Int} : ∀ {l : List Int}, l.Nodup → x ∈ l → (l.map fun v => if v = x then h else 0).sum = h
  | [], _, m => (nomatch m)
  | y :: l, nd, m => by
    rw [List.map_cons, List.sum_cons]
    have nd := List.nodup_cons.mp nd
    by_cases e : y = x
    · subst e
      have z : (l.map fun v => if v = y then h else 0).sum = 0 := by
        rw [show (l.map fun v => if v = y then h else 0) = l.map fun _ => (0 : Int) from List.map_congr_left fun v hv => if_neg (by intro q; subst q; exact nd.1 hv)]
        exact sum_zero l
      rw [if_pos rfl, z]; omega
    · rw [if_neg e, sum_one nd.2 ((List.mem_cons.mp m).resolve_left fun z => e z.symm)]; omega
theorem rgI_nodup (a b : Int) : (rgI a b).Nodup := (rgI_pw a b).imp fun h => by omega
theorem meets_sum {n : Int} : ∀ {ks : List (Int × Int)}, ks.Nodup → (∀ p ∈ ks, 0 ≤ p.1 ∧ p.1 < p.2 ∧ p.2 < n) → ((rgI 0 n).map fun v => c2 (cnt v ks)).sum = meets ks
  | [], _, _ => by
    have : ((rgI 0 n).map fun v => c2 (cnt v [])) = (rgI 0 n).map fun _ => (0 : Int) := rfl
    rw [this, sum_zero]
    rfl
  | p :: r, nd, hp => by
    have nd' := List.nodup_cons.mp nd
    have ih := meets_sum nd'.2 fun q hq => hp q (List.mem_cons_of_mem _ hq)
    have h0 := hp p List.mem_cons_self
    have step : ∀ v : Int, c2 (cnt v (p :: r)) = c2 (cnt v r) + ((if v = p.1 then (cnt p.1 r : Int) else 0) + (if v = p.2 then (cnt p.2 r : Int) else 0)) := fun v => by
      unfold cnt
      rw [List.countP_cons]
      by_cases h1 : v = p.1
      · have h2 : v ≠ p.2 := by omega
        have hh : has v p = true := by unfold has; rw [h1]; simp
        rw [if_pos hh, if_pos h1, if_neg h2, ← h1, Int.natCast_add]
        rw [show ((1 : Nat) : Int) = 1 from rfl, c2_succ]
        omega
      · by_cases h2 : v = p.2
        · have hh : has v p = true := by unfold has; rw [h2]; simp
          rw [if_pos hh, if_neg h1, if_pos h2, ← h2, Int.natCast_add]
          rw [show ((1 : Nat) : Int) = 1 from rfl, c2_succ]
          omega
        · have hh : has v p = false := by unfold has; simp [h1, h2]
          rw [hh, if_neg h1, if_neg h2]
          simp
    rw [show ((rgI 0 n).map fun v => c2 (cnt v (p :: r))) = (rgI 0 n).map fun v => c2 (cnt v r) + ((if v = p.1 then (cnt p.1 r : Int) else 0) + (if v = p.2 then (cnt p.2 r : Int) else 0)) from List.map_congr_left fun v _ => step v]
    rw [sum_add, sum_add, ih, sum_one (rgI_nodup 0 n) (rgI_mem.mpr (by omega)), sum_one (rgI_nodup 0 n) (rgI_mem.mpr (by omega))]
    rw [show meets (p :: r) = r.countP (meetB p) + meets r from rfl]
    have e : r.countP (meetB p) = cnt p.1 r + cnt p.2 r := by
      have : ∀ l : List (Int × Int), (∀ q ∈ l, q ≠ p ∧ q.1 < q.2) → l.countP (meetB p) = cnt p.1 l + cnt p.2 l := by
        intro l
        induction l with
        | nil => intro _; rfl
        | cons q l ih =>
          intro h
          have ih := ih fun x hx => h x (List.mem_cons_of_mem _ hx)
          obtain ⟨hq, hlt⟩ := h q List.mem_cons_self
          unfold cnt at ih ⊢
          rw [List.countP_cons, List.countP_cons, List.countP_cons, ih, meetB_has]
          have no : ¬ (has p.1 q = true ∧ has p.2 q = true) := by
            rintro ⟨a, b⟩
            unfold has at a b
            simp at a b
            exact hq (Prod.ext (by omega) (by omega))
          cases e1 : has p.1 q <;> cases e2 : has p.2 q <;> simp [e1, e2] at no ⊢ <;> omega
      exact this r fun q hq => ⟨fun z => nd'.1 (z ▸ hq), (hp q (List.mem_cons_of_mem _ hq)).2.1⟩
    rw [e]
    simp only [Int.natCast_add]
    omega
def other (v : Int) (p : Int × Int) : Int := if v = p.1 then p.2 else p.1
theorem near_len {n : Int} {ks : List (Int × Int)} (hn : ks.Nodup) (hp : ∀ p ∈ ks, 0 ≤ p.1 ∧ p.1 < p.2 ∧ p.2 < n) (v : Int) : (nearL n ks v).length = cnt v ks := by
  unfold cnt
  rw [List.countP_eq_length_filter, ← List.length_map (f := other v)]
  have n1 : (nearL n ks v).Nodup := (rgI_nodup 0 n).filter _
  have n2 : ((ks.filter (has v)).map (other v)).Nodup := by
    rw [List.nodup_iff_pairwise_ne, List.pairwise_map]
    have : (ks.filter (has v)).Pairwise (· ≠ ·) := (List.nodup_iff_pairwise_ne.mp hn).filter _
    refine this.imp_of_mem fun {p q} hpm hqm ne e => ?_
    obtain ⟨p1, p2⟩ := List.mem_filter.mp hpm
    obtain ⟨q1, q2⟩ := List.mem_filter.mp hqm
    have a := hp p p1
    have b := hp q q1
    unfold has at p2 q2
    simp at p2 q2
    unfold other at e
    refine ne (Prod.ext ?_ ?_) <;> split at e <;> split at e <;> omega
  refine ((List.perm_ext_iff_of_nodup n1 n2).mpr fun w => ?_).length_eq
  unfold nearL
  rw [List.mem_filter, rgI_mem, List.mem_map]
  constructor
  · rintro ⟨_, h⟩
    have h : (min v w, max v w) ∈ ks := of_decide_eq_true h
    have a := hp _ h
    simp only at a
    refine ⟨_, List.mem_filter.mpr ⟨h, ?_⟩, ?_⟩
    · unfold has
      simp
      omega
    · unfold other
      simp only
      split <;> omega
  · rintro ⟨p, hpm, e⟩
    obtain ⟨p1, p2⟩ := List.mem_filter.mp hpm
    have a := hp p p1
    unfold has at p2
    simp at p2
    unfold other at e
    have key : (min v w, max v w) = p := by refine Prod.ext ?_ ?_ <;> simp only <;> split at e <;> omega
    refine ⟨by split at e <;> omega, ?_⟩
    unfold tiedB
    rw [key]
    exact decide_eq_true p1
theorem made_ties (ks : List (Int × Int)) : ∀ p ∈ madeL ks, 0 ≤ p.1 ∧ p.1 < p.2 ∧ p.2 < ks.length := fun p h => (pairsIf_mem.mp h).1
theorem made_pw (ks : List (Int × Int)) : (madeL ks).Pairwise ltP := pairsIf_pw _ _
theorem tieAt_inj {ks : List (Int × Int)} (hn : ks.Nodup) {i j : Int} (hi : 0 ≤ i ∧ i < ks.length) (hj : 0 ≤ j ∧ j < ks.length) (e : tieAt ks i = tieAt ks j) : i = j := by
  unfold tieAt at e
  have a : i.toNat < ks.length := by omega
  have b : j.toNat < ks.length := by omega
  rw [List.getD_eq_getElem?_getD, List.getD_eq_getElem?_getD, List.getElem?_eq_getElem a, List.getElem?_eq_getElem b] at e
  have e : ks[i.toNat] = ks[j.toNat] := e
  have pw := List.pairwise_iff_getElem.mp hn
  by_cases h1 : i.toNat < j.toNat
  · exact absurd e (pw _ _ a b h1)
  by_cases h2 : j.toNat < i.toNat
  · exact absurd e.symm (pw _ _ b a h2)
  omega
theorem made_cnt {ks : List (Int × Int)} (hn : ks.Nodup) (hlt : ∀ p ∈ ks, p.1 < p.2) {i : Int} (hi : 0 ≤ i ∧ i < ks.length) : cnt i (madeL ks) + 2 = cnt (tieAt ks i).1 ks + cnt (tieAt ks i).2 ks := by
  rw [← near_len (n := ks.length) (pw_nodup (made_pw ks)) (made_ties ks)]
  unfold nearL
  rw [← List.countP_eq_length_filter]
  have e1 : (rgI 0 ks.length).countP (tiedB (madeL ks) i) = ks.countP fun q => decide (q ≠ tieAt ks i) && meetB (tieAt ks i) q := by
    conv => rhs; rw [← map_tieAt ks]
    conv => rhs; rw [List.countP_map]
    refine List.countP_congr fun j hj => ?_
    have hj := rgI_mem.mp hj
    simp only [Function.comp]
    rw [map_tieAt]
    unfold tiedB
    rw [decide_eq_true_eq, Bool.and_eq_true, decide_eq_true_eq]
    unfold madeL
    rw [pairsIf_mem]
    simp only
    by_cases h : j = i
    · subst h
      constructor
      · rintro ⟨⟨_, a, _⟩, _⟩; omega
      · rintro ⟨a, _⟩; exact absurd rfl a
    · have ne : tieAt ks j ≠ tieAt ks i := fun e => h (tieAt_inj hn hj hi e)
      rcases Int.lt_or_gt_of_ne h with z | z
      · rw [show min i j = j by omega, show max i j = i by omega, meetB_comm]
        exact ⟨fun a => ⟨ne, a.2⟩, fun a => ⟨by omega, a.2⟩⟩
      · rw [show min i j = i by omega, show max i j = j by omega]
        exact ⟨fun a => ⟨ne, a.2⟩, fun a => ⟨by omega, a.2⟩⟩
  rw [e1]
  have hm := tieAt_mem hi
  generalize tieAt ks i = p at hm
  have hp := hlt p hm
  have key : ∀ l : List (Int × Int), (∀ q ∈ l, q.1 < q.2) → (l.countP fun q => decide (q ≠ p) && meetB p q) + 2 * l.count p = cnt p.1 l + cnt p.2 l := by
    intro l
    induction l with
    | nil => intro _; rfl
    | cons q l ih =>
      intro h
      have ih := ih fun x hx => h x (List.mem_cons_of_mem _ hx)
      have hq := h q List.mem_cons_self
      unfold cnt at ih ⊢
      rw [List.countP_cons, List.countP_cons, List.countP_cons, List.count_cons]
      by_cases e : q = p
      · subst e
        have a : has q.1 q = true := by unfold has; simp
        have b : has q.2 q = true := by unfold has; simp
        simp [a, b]
        simp at ih
        omega
      · have no : ¬ (has p.1 q = true ∧ has p.2 q = true) := by
          rintro ⟨a, b⟩
          unfold has at a b
          simp at a b
          exact e (Prod.ext (by omega) (by omega))
        have ec : (q == p) = false := by simpa using e
        rw [ec, meetB_has]
        cases e1 : has p.1 q <;> cases e2 : has p.2 q <;> simp [e1, e2, e] at no ih ⊢ <;> omega
  have := key ks hlt
  rw [count_one hn hm] at this
  omega
end Td
set_option Elab.async false
set_option linter.all false
set_option maxRecDepth 100000
namespace Td
open PySem PySem.Spec PyProof.Rows L2 TW
theorem web_nodup {n : Int} {ks : List (Int × Int)} (w : Web n ks) : ks.Nodup := pw_nodup w.pw
theorem counts_eq {n : Int} {ks : List (Int × Int)} (w : Web n ks) : countsL n ks = (rgI 0 n).map fun v => (cnt v ks : Int) := by
  unfold countsL
  exact List.map_congr_left fun v _ => by rw [near_len (web_nodup w) w.ties]
theorem pairs_counts {n : Int} {ks : List (Int × Int)} (w : Web n ks) : pairsOf (countsL n ks) = (madeL ks).length := by
  rw [made_len, ← meets_sum (web_nodup w) w.ties, counts_eq w]
  unfold pairsOf
  rw [List.map_map]
  rfl
def laterL (ks : List (Int × Int)) : List Int := ks.map fun p => (cnt p.1 ks : Int) + cnt p.2 ks - 2
theorem pairs_later {n : Int} {ks : List (Int × Int)} (w : Web n ks) : pairsOf (laterL ks) = (madeL (madeL ks)).length := by
  rw [made_len, ← meets_sum (n := ks.length) (pw_nodup (made_pw ks)) (made_ties ks)]
  unfold pairsOf laterL
  rw [List.map_map]
  have e : (ks.map fun p => c2 ((cnt p.1 ks : Int) + cnt p.2 ks - 2)) = ((rgI 0 ks.length).map (tieAt ks)).map fun p => c2 ((cnt p.1 ks : Int) + cnt p.2 ks - 2) := by rw [map_tieAt]
  refine congrArg _ (e.trans ?_)
  rw [List.map_map]
  refine List.map_congr_left fun i hi => ?_
  have := made_cnt (web_nodup w) (fun p hp => (w.ties p hp).2.1) (rgI_mem.mp hi)
  simp only [Function.comp]
  congr 1
  omega
theorem cnt_le (v : Int) (ks : List (Int × Int)) : cnt v ks ≤ ks.length := List.countP_le_length
theorem counts_at {n : Int} {ks : List (Int × Int)} (w : Web n ks) {v : Int} (h : 0 ≤ v ∧ v < n) : gIx (.list ((countsL n ks).map .int)) (.int v) = .ok (.int (cnt v ks)) := by
  have hn := w.many
  refine gIx_list h.1 rfl (by omega) ?_
  rw [counts_eq w, List.map_map, List.getElem?_map]
  unfold rgI
  rw [List.getElem?_map, List.getElem?_range (by omega)]
  simp only [Option.map_some, Function.comp]
  rw [show (0 : Int) + (v.toNat : Nat) = v by omega]
theorem sizes_ahead_eq {n : Int} {ks : List (Int × Int)} (w : Web n ks) : F_sizes_ahead [webD n ks] = .ok [.int n, .int ks.length, .int (madeL ks).length, .int (madeL (madeL ks)).length] := by
  have hl := w.len
  have hn := w.many
  apply Ev.eq
  unfold F_sizes_ahead
  rw [ev_fnN]
  unfold b_sizes_ahead
  show Rn _ [.dat (webD n ks), .un, .un, .un, .un] _
  refine seq_cut (fun c => c = [.dat (webD n ks), .un, .un, .un, .un]) (by simp [need_ok w]) ?_
  rintro c rfl
  refine seq_cut (fun c => c = [.dat (webD n ks), .dat (.list ((countsL n ks).map .int)), .un, .un, .un]) (by simp [counts_of_eq (n := n) (by omega) ks]) ?_
  rintro c rfl
  refine seq_cut (fun c => c = [.dat (webD n ks), .dat (.list ((countsL n ks).map .int)), .dat (.list ((laterL ks).map .int)), .un, .un]) ?_ ?_
  · simp [rn_mComp, wipeC]
    refine comp_mapM (φ := tieD) (g := fun p => .int ((cnt p.1 ks : Int) + cnt p.2 ks - 2)) (fun p hp => ?_) ?_
    · have := w.ties p hp
      unfold tieD
      simp [setC, wipeC, counts_at w (v := p.1) (by omega), counts_at w (v := p.2) (by omega)]
    · simp [laterL]
  rintro c rfl
  have b1 : ∀ c ∈ countsL n ks, -1000000 ≤ c ∧ c ≤ 1000000 := fun c hc => by
    rw [counts_eq w] at hc
    obtain ⟨v, _, rfl⟩ := List.mem_map.mp hc
    have := cnt_le v ks
    omega
  have b2 : ∀ c ∈ laterL ks, -1000000 ≤ c ∧ c ≤ 1000000 := fun c hc => by
    obtain ⟨p, _, rfl⟩ := List.mem_map.mp hc
    have := cnt_le p.1 ks
    have := cnt_le p.2 ks
    omega
  simp [pairs_of_eq b1, pairs_of_eq b2, pairs_counts w, pairs_later w]
theorem small_len {n : Int} {ks : List (Int × Int)} (w : Web n ks) (h : n ≤ 7) : ks.length ≤ 21 := by
  have e : (pairsL 7).length = 21 := by decide +kernel
  rw [← e]
  exact nodup_le (pw_nodup w.pw) fun x hx => pairsL_mem.mpr (by have := w.ties x hx; omega)
end Td
set_option Elab.async false
set_option linter.all false
set_option maxRecDepth 100000
namespace Td
open PySem PySem.Spec PyProof.Rows L2 TW
end Td
set_option Elab.async false
set_option linter.all false
set_option maxRecDepth 100000
namespace Td
open PySem PySem.Spec PyProof.Rows L2 TW
theorem need_small_ok {n : Int} {ks : List (Int × Int)} (h : n ≤ 7) : F_need_small [webD n ks] = .ok .none := by
  apply Ev.eq
  unfold F_need_small
  rw [ev_fnD]
  have : ¬ (7 < n) := by omega
  simp [b_need_small, unfill, this]
theorem enum_ints (r : List Int) : (r.map PyData.int).mapIdx (fun i d => zpD [.int (i : Nat), d]) = r.zipIdx.map fun x => zpD [.int (x.2 : Nat), .int x.1] := by
  apply List.ext_getElem?
  intro i
  rw [List.getElem?_mapIdx, List.getElem?_map, List.getElem?_map, List.getElem?_zipIdx]
  cases r[i]? with
  | none => rfl
  | some x => simp
@[simp] theorem rn_mEnum {ma : M D} {cs : List C} {QL : List D → List C → Prop} : Rn (mEnum ma) cs QL ↔ Rn ma cs fun d c => Ev (gEnum d) fun z => QL z c := by unfold mEnum; simp only [rn_bind, rn_only]
theorem gEnum_ints (r : List Int) : gEnum (.tuple (r.map .int)) = .ok (r.zipIdx.map fun x => zpD [.int (x.2 : Nat), .int x.1]) := by
  rw [show gEnum (.tuple (r.map .int)) = .ok ((r.map PyData.int).mapIdx (fun i d => zpD [.int (i : Nat), d])) from rfl, enum_ints]
theorem cat_rows {r : List Int} {p : Int} (h : r.length ≤ 1000) : gAdd (tupD r) (.tuple [.int p]) = .ok (tupD (r ++ [p])) := by
  unfold tupD
  rw [gCat_tuple (by simp; omega)]
  simp
theorem eqv_nil : ∀ rs : List (List Int), PyData.eqvAll (rs.map tupD) [] = decide (rs = []) := fun rs => eqv_rows rs []
theorem gEq_rowsNil (rs : List (List Int)) : gEq (.list (rs.map tupD)) (.list []) = .ok (.bool (decide (rs = []))) := by
  have h1 := shaped_rows rs
  have h2 := shaped_rows []
  simp only [List.map_nil] at h2
  simp only [gEq, h1, h2, Bool.and_self, if_true, PyData.eqv, eqv_nil]
end Td
set_option Elab.async false
set_option linter.all false
set_option maxRecDepth 100000
namespace Td
open PySem PySem.Spec PyProof.Rows L2 TW
theorem nodupLe {α : Type} {ks ls : List α} (h : ks.Nodup) (s : ∀ x ∈ ks, x ∈ ls) : ks.length ≤ ls.length := by
  induction ks generalizing ls with
  | nil => exact Nat.zero_le _
  | cons x ks ih =>
    obtain ⟨h1, h2⟩ := List.nodup_cons.mp h
    obtain ⟨a, b, rfl⟩ := List.append_of_mem (s x List.mem_cons_self)
    have := ih (ls := a ++ b) h2 fun y hy => by
      rcases List.mem_append.mp (s y (List.mem_cons_of_mem _ hy)) with z | z
      · exact List.mem_append_left _ z
      · rcases List.mem_cons.mp z with z | z
        · subst z; exact absurd hy h1
        · exact List.mem_append_right _ z
    rw [List.length_append] at this
    rw [List.length_append, List.length_cons, List.length_cons]
    omega
def atL (r : List Int) (a : Int) : Int := r.getD a.toNat 0
theorem atL_get {r : List Int} {a : Nat} (h : a < r.length) : atL r a = r[a] := by
  simp [atL, List.getD_eq_getElem?_getD, List.getElem?_eq_getElem h]
@[simp] theorem gLen_row {r : List Int} : gLen (tupD r) = .ok (.int r.length) := by simp [tupD]
@[simp] theorem gSeq_row {r : List Int} : gSeq (tupD r) = .ok (r.map .int) := rfl
@[simp] theorem gEnum_row {r : List Int} : gEnum (tupD r) = .ok (r.zipIdx.map fun x => zpD [.int (x.2 : Nat), .int x.1]) := gEnum_ints r
end Td
set_option Elab.async false
set_option linter.all false
set_option maxRecDepth 100000
namespace Td
open PySem PySem.Spec PyProof.Rows L2 TW
theorem for_all {α : Type} {is : List Nat} {f : D → R (List D)} {body : MS} {φ : α → D} {l : List α} {cs : List C} {QF : Fl → List C → Prop} (t : α → Bool) (P : List C → Prop) (h0 : P cs)
    (step : ∀ x ∈ l, ∀ c, P c → Ev (f (φ x)) fun ys => Rn body (setC c is ys) fun fl c' => if t x then fl = .nx ∧ P c' else fl = .rt (.bool false))
    (q1 : l.all t = true → ∀ c, P c → QF .nx c) (q2 : l.all t = false → ∀ c, QF (.rt (.bool false)) c) : Rn (forGo is f body (l.map φ)) cs QF := by
  induction l generalizing cs with
  | nil => exact rn_for_nil.mpr (q1 rfl cs h0)
  | cons x l ih =>
    refine rn_for_cons.mpr ((step x List.mem_cons_self cs h0).mono fun ys hy => hy.mono fun fl c hc => ?_)
    cases e : t x with
    | true =>
      rw [e, if_pos rfl] at hc
      obtain ⟨e1, hp⟩ := hc
      subst e1
      exact ih hp (fun y hy => step y (List.mem_cons_of_mem _ hy)) (fun h => q1 (by rw [List.all_cons, e, h]; rfl)) fun h => q2 (by rw [List.all_cons, e, h]; rfl)
    | false =>
      rw [e, if_neg Bool.false_ne_true] at hc
      subst hc
      exact q2 (by rw [List.all_cons, e]; rfl) c
theorem dataLe_i (a b : Int) : PySem.W.dataLe false id (.int a) (.int b) = decide (a ≤ b) := by
  show (!PySem.W.dataLt (.int b) (.int a)) = _
  rw [PySem.W.dataLt_int]
  by_cases h : a ≤ b
  · have : ¬ b < a := by omega
    simp [h, this]
  · have : b < a := by omega
    simp [h, this]
theorem sort_ints' (ks : List Int) : ∃ ls : List Int, sortD (ks.map .int) = ls.map .int ∧ ls.Perm ks ∧ ls.Pairwise (· ≤ ·) := by
  obtain ⟨ls, h1, h2⟩ := perm_map_pick (sortD_perm (ks.map PyData.int))
  refine ⟨ls, h2, h1, ?_⟩
  have := sortD_pw (ks.map PyData.int)
  rw [h2, List.pairwise_map] at this
  exact this.imp fun h => by rw [dataLe_i] at h; exact of_decide_eq_true h
structure Ren (n : Int) (r : List Int) : Prop where
  perm : r.Perm (rgI 0 n)
section
variable {n : Int} {r : List Int}
theorem Ren.len (h : Ren n r) (hn : 0 ≤ n) : (r.length : Int) = n := by rw [h.perm.length_eq, rgI_length]; omega
theorem Ren.nodup (h : Ren n r) : r.Nodup := h.perm.nodup_iff.mpr (rgI_nodup 0 n)
theorem Ren.at (h : Ren n r) {a : Int} (ha : 0 ≤ a ∧ a < n) : 0 ≤ atL r a ∧ atL r a < n := by
  have hl := h.len (by omega)
  obtain ⟨k, rfl⟩ : ∃ k : Nat, a = k := ⟨a.toNat, by omega⟩
  rw [atL_get (by omega)]
  exact rgI_mem.mp (h.perm.mem_iff.mp (List.getElem_mem (by omega)))
theorem Ren.inj (h : Ren n r) {a b : Int} (ha : 0 ≤ a ∧ a < n) (hb : 0 ≤ b ∧ b < n) (e : atL r a = atL r b) : a = b := by
  have hl := h.len (by omega)
  obtain ⟨k, rfl⟩ : ∃ k : Nat, a = k := ⟨a.toNat, by omega⟩
  obtain ⟨j, rfl⟩ : ∃ k : Nat, b = k := ⟨b.toNat, by omega⟩
  have hk : k < r.length := by omega
  have hj : j < r.length := by omega
  rw [atL_get hk, atL_get hj] at e
  have pw := List.pairwise_iff_getElem.mp h.nodup
  by_cases h1 : k < j
  · exact absurd e (pw _ _ hk hj h1)
  by_cases h2 : j < k
  · exact absurd e.symm (pw _ _ hj hk h2)
  omega
end
theorem tied_eq (n : Int) (ks : List (Int × Int)) (a b : Int) : F__law_tied [webD n ks, .int a, .int b] = .ok (.bool (tiedB ks a b)) := by
  apply Ev.eq
  unfold F__law_tied
  rw [ev_fnD]
  simp [b__law_tied, unfill]
  show Ev (gInX false (tieD (min a b, max a b)) (.tuple (ks.map tieD))) _
  rw [gIn_tieT]
  simp [tiedB]
theorem gEq_intsNil (r : List Int) : gEq (.list (r.map .int)) (.list []) = .ok (.bool (decide (r = []))) := by
  have h1 := shaped_ints r
  have h2 := shaped_ints []
  simp only [List.map_nil] at h2
  have e := eqv_ints r []
  simp only [List.map_nil] at e
  simp only [gEq, h1, h2, Bool.and_self, if_true, PyData.eqv, e]
theorem gNe_ints (r q : List Int) : gNe (.list (r.map .int)) (.list (q.map .int)) = .ok (.bool (!decide (r = q))) := by
  have h1 := shaped_ints r
  have h2 := shaped_ints q
  simp only [gNe, h1, h2, Bool.and_self, if_true, PyData.eqv, eqv_ints]
end Td
set_option Elab.async false
set_option linter.all false
set_option maxRecDepth 100000
namespace Td
open PySem PySem.Spec PyProof.Rows L2 TW
theorem tied_mem {n : Int} {ks : List (Int × Int)} (w : Web n ks) {p : Int × Int} : p ∈ ks ↔ (p.1 < p.2 ∧ tiedB ks p.1 p.2 = true) := by
  constructor
  · intro h
    have := w.ties p h
    refine ⟨this.2.1, ?_⟩
    unfold tiedB
    rw [show (min p.1 p.2, max p.1 p.2) = p from Prod.ext (by simp only; omega) (by simp only; omega)]
    exact decide_eq_true h
  · rintro ⟨h1, h2⟩
    unfold tiedB at h2
    rw [show (min p.1 p.2, max p.1 p.2) = p from Prod.ext (by simp only; omega) (by simp only; omega)] at h2
    exact of_decide_eq_true h2
theorem tiedB_comm (ks : List (Int × Int)) (a b : Int) : tiedB ks a b = tiedB ks b a := by
  unfold tiedB
  rw [Int.min_comm, Int.max_comm]
theorem canAll_iff : ∀ {ds : List D}, PyData.canLayAll0 ds = true ↔ ∀ x ∈ ds, x.canLay0 = true
  | [] => by simp [PyData.canLayAll0]
  | x :: ds => by
    rw [PyData.canLayAll0, Bool.and_eq_true, canAll_iff (ds := ds)]
    simp
theorem depthAll_iff {k : Nat} : ∀ {ds : List D}, PyData.depthAll ds ≤ k ↔ ∀ x ∈ ds, x.depth ≤ k
  | [] => by simp [PyData.depthAll]
  | x :: ds => by
    have ih := depthAll_iff (k := k) (ds := ds)
    simp only [PyData.depthAll, List.mem_cons, forall_eq_or_imp, ← ih]
    omega
theorem shaped_lst {ds : List D} : SeqAt.shaped (.list ds) = true ↔ ∀ x ∈ ds, x.canLay0 = true ∧ x.depth ≤ 63 := by
  unfold SeqAt.shaped
  rw [Bool.and_eq_true, decide_eq_true_eq]
  simp only [PyData.canLay0, PyData.depth]
  rw [canAll_iff]
  have := depthAll_iff (k := 63) (ds := ds)
  constructor
  · rintro ⟨a, b⟩ x hx
    exact ⟨a x hx, this.mp (by omega) x hx⟩
  · intro h
    exact ⟨fun x hx => (h x hx).1, by have := this.mpr fun x hx => (h x hx).2; omega⟩
end Td
set_option Elab.async false
set_option linter.all false
set_option maxRecDepth 100000
namespace Td
open PySem PySem.Spec PyProof.Rows L2 TW
theorem catl_ev {ds es : List D} {Q : D → Prop} (h : ds.length + es.length ≤ 16777216) (q : Q (.list (ds ++ es))) : Ev (gAdd (.list ds) (.list es)) Q := by rw [gCat_list h]; exact ev_ok.mpr q
end Td
set_option Elab.async false
set_option linter.all false
set_option maxRecDepth 100000
namespace Td
open PySem PySem.Spec PyProof.Rows L2 TW
@[simp] theorem rn_mDct {cs : List C} {Q : D → List C → Prop} : Rn mDct cs Q ↔ Q (.dict []) cs := rn_pure
end Td
set_option Elab.async false
set_option linter.all false
set_option maxRecDepth 100000
namespace Td
open PySem PySem.Spec PyProof.Rows L2 TW
structure Crow (n : Int) (ks : List (Int × Int)) (r : List Int) : Prop where
  up : r.Pairwise (· < ·)
  ran : ∀ x ∈ r, 0 ≤ x ∧ x < n
  tied : r.Pairwise fun a b => tiedB ks a b = true
theorem Crow.nil {n : Int} {ks : List (Int × Int)} : Crow n ks [] := ⟨.nil, by simp, .nil⟩
theorem crow_snoc {n : Int} {ks : List (Int × Int)} {r : List Int} {p : Int} : Crow n ks (r ++ [p]) ↔ Crow n ks r ∧ (0 ≤ p ∧ p < n) ∧ (∀ x ∈ r, x < p) ∧ ∀ x ∈ r, tiedB ks x p = true := by
  constructor
  · rintro ⟨a, b, c⟩
    obtain ⟨a1, _, a2⟩ := List.pairwise_append.mp a
    obtain ⟨c1, _, c2⟩ := List.pairwise_append.mp c
    exact ⟨⟨a1, fun x hx => b x (by simp [hx]), c1⟩, b p (by simp), fun x hx => a2 x hx p (by simp), fun x hx => c2 x hx p (by simp)⟩
  · rintro ⟨⟨a, b, c⟩, hp, h1, h2⟩
    refine ⟨List.pairwise_append.mpr ⟨a, by simp, fun x hx y hy => ?_⟩, fun x hx => ?_, List.pairwise_append.mpr ⟨c, by simp, fun x hx y hy => ?_⟩⟩
    · rw [List.mem_singleton.mp hy]; exact h1 x hx
    · rcases List.mem_append.mp hx with hx | hx
      · exact b x hx
      · rw [List.mem_singleton.mp hx]; exact hp
    · rw [List.mem_singleton.mp hy]; exact h2 x hx
theorem Crow.mono {n m : Int} {ks : List (Int × Int)} {r : List Int} (h : Crow n ks r) (k : n ≤ m) : Crow m ks r := ⟨h.up, fun x hx => by have := h.ran x hx; omega, h.tied⟩
theorem up_len {b : Int} : ∀ {r : List Int} {a : Int}, r.Pairwise (· < ·) → (∀ x ∈ r, a ≤ x ∧ x < b) → a ≤ b → a + r.length ≤ b
  | [], a, _, _, h => by simpa using h
  | x :: r, a, h, k, h0 => by
    have hx := k x (by simp)
    obtain ⟨h1, h2⟩ := List.pairwise_cons.mp h
    have := up_len (b := b) (r := r) (a := x + 1) h2 (fun y hy => by have := h1 y hy; have := k y (by simp [hy]); omega) (by omega)
    simp only [List.length_cons]
    omega
theorem Crow.len {n : Int} {ks : List (Int × Int)} {r : List Int} (h : Crow n ks r) (hn : 0 ≤ n) : (r.length : Int) ≤ n := by
  have := up_len h.up h.ran hn
  omega
def rowsL (ks : List (Int × Int)) : Nat → List (List Int)
  | 0 => [[]]
  | t + 1 => rowsL ks t ++ ((rowsL ks t).filter fun r => r.all fun x => tiedB ks x t).map (· ++ [(t : Int)])
theorem rowsL_mem {ks : List (Int × Int)} : ∀ {t : Nat} {r : List Int}, r ∈ rowsL ks t ↔ Crow t ks r
  | 0, r => by
    simp only [rowsL, List.mem_singleton]
    constructor
    · rintro rfl; exact Crow.nil
    · intro h
      have := h.len (Int.le_refl _)
      match r, this with
      | [], _ => rfl
      | x :: r, h => simp at h; omega
  | t + 1, r => by
    have ih := fun q => rowsL_mem (ks := ks) (t := t) (r := q)
    simp only [rowsL, List.mem_append, List.mem_map, List.mem_filter, ih, List.all_eq_true]
    constructor
    · rintro (h | ⟨q, ⟨h1, h2⟩, rfl⟩)
      · exact h.mono (by omega)
      · exact crow_snoc.mpr ⟨h1.mono (by omega), ⟨by omega, by omega⟩, fun x hx => (h1.ran x hx).2, h2⟩
    · intro h
      rcases List.eq_nil_or_concat r with e | ⟨q, p, e⟩
      · subst e; exact .inl Crow.nil
      · rw [List.concat_eq_append] at e
        subst e
        obtain ⟨h1, h2, h3, h4⟩ := crow_snoc.mp h
        by_cases hp : p = t
        · subst hp
          exact .inr ⟨q, ⟨⟨h1.up, fun x hx => ⟨(h1.ran x hx).1, h3 x hx⟩, h1.tied⟩, h4⟩, rfl⟩
        · have hp2 : p < (t : Int) := by omega
          exact .inl (crow_snoc.mpr ⟨⟨h1.up, fun x hx => ⟨(h1.ran x hx).1, by have := h3 x hx; omega⟩, h1.tied⟩, ⟨h2.1, hp2⟩, h3, h4⟩)
theorem nodup_map_inj {α β : Type} {f : α → β} (hf : ∀ a b, f a = f b → a = b) {l : List α} (h : l.Nodup) : (l.map f).Nodup := by
  unfold List.Nodup at *
  rw [List.pairwise_map]
  exact h.imp fun k e => k (hf _ _ e)
theorem rowsL_nodup (ks : List (Int × Int)) : ∀ t : Nat, (rowsL ks t).Nodup
  | 0 => by simp [rowsL]
  | t + 1 => by
    have ih := rowsL_nodup ks t
    unfold rowsL
    refine List.nodup_append.mpr ⟨ih, nodup_map_inj (fun a b e => List.append_cancel_right e) (ih.sublist List.filter_sublist), fun a ha b hb e => ?_⟩
    subst e
    obtain ⟨q, _, rfl⟩ := List.mem_map.mp hb
    have := (rowsL_mem.mp ha).ran t (by simp)
    omega
theorem rowsL_len (ks : List (Int × Int)) : ∀ t : Nat, (rowsL ks t).length ≤ 2 ^ t
  | 0 => by simp [rowsL]
  | t + 1 => by
    have ih := rowsL_len ks t
    have := List.length_filter_le (fun r : List Int => r.all fun x => tiedB ks x t) (rowsL ks t)
    simp only [rowsL, List.length_append, List.length_map]
    rw [Nat.pow_succ]
    omega
def nextR (n : Int) (ks : List (Int × Int)) (r : List Int) : List (List Int) := ((rgI (r.getLastD 0 + 1) n).filter fun p => r.all fun x => tiedB ks p x).map fun p => r ++ [p]
def nextL (n : Int) (ks : List (Int × Int)) (rs : List (List Int)) : List (List Int) := rs.flatMap (nextR n ks)
def crowL (n : Int) (ks : List (Int × Int)) : Nat → List (List Int)
  | 0 => (rgI 0 n).map fun p => [p]
  | t + 1 => nextL n ks (crowL n ks t)
theorem last_up {q : List Int} {p : Int} (h : (q ++ [p]).Pairwise (· < ·)) : ∀ x ∈ q ++ [p], x ≤ p := by
  intro x hx
  rcases List.mem_append.mp hx with hx | hx
  · have := (List.pairwise_append.mp h).2.2 x hx p (by simp); omega
  · rw [List.mem_singleton.mp hx]; exact Int.le_refl _
theorem crowL_mem {n : Int} {ks : List (Int × Int)} : ∀ {t : Nat} {r : List Int}, r ∈ crowL n ks t ↔ Crow n ks r ∧ r.length = t + 1
  | 0, r => by
    simp only [crowL, List.mem_map, rgI_mem]
    constructor
    · rintro ⟨p, hp, rfl⟩
      exact ⟨crow_snoc (r := []).mpr ⟨Crow.nil, hp, by simp, by simp⟩, rfl⟩
    · rintro ⟨h, hl⟩
      match r, hl with
      | [p], _ => exact ⟨p, h.ran p (by simp), rfl⟩
  | t + 1, r => by
    have ih := fun q => crowL_mem (n := n) (ks := ks) (t := t) (r := q)
    simp only [crowL, nextL, nextR, List.mem_flatMap, List.mem_map, List.mem_filter, ih, List.all_eq_true, rgI_mem]
    constructor
    · rintro ⟨q, ⟨h1, h2⟩, p, ⟨hp, h3⟩, rfl⟩
      refine ⟨crow_snoc.mpr ⟨h1, ?_, ?_, fun x hx => by rw [tiedB_comm]; exact h3 x hx⟩, by simp [h2]⟩
      all_goals
        rcases List.eq_nil_or_concat q with e | ⟨s, l, e⟩
        · subst e; simp at h2
        rw [List.concat_eq_append] at e
        subst e
        rw [List.getLastD_concat] at hp
      · have := h1.ran l (by simp); omega
      · intro x hx
        have := last_up h1.up x hx
        omega
    · rintro ⟨h, hl⟩
      rcases List.eq_nil_or_concat r with e | ⟨q, p, e⟩
      · subst e; simp at hl
      rw [List.concat_eq_append] at e
      subst e
      obtain ⟨h1, h2, h3, h4⟩ := crow_snoc.mp h
      have hq : q.length = t + 1 := by simpa using hl
      refine ⟨q, ⟨h1, hq⟩, p, ⟨⟨?_, h2.2⟩, fun x hx => by rw [tiedB_comm]; exact h4 x hx⟩, rfl⟩
      rcases List.eq_nil_or_concat q with e | ⟨s, l, e⟩
      · subst e; simp at hq
      rw [List.concat_eq_append] at e
      subst e
      rw [List.getLastD_concat]
      have := h3 l (by simp)
      omega
theorem nextR_nodup (n : Int) (ks : List (Int × Int)) (r : List Int) : (nextR n ks r).Nodup :=
  nodup_map_inj (fun a b e => by simpa using e) ((rgI_nodup _ _).sublist List.filter_sublist)
theorem flat_nodup {n : Int} {ks : List (Int × Int)} : ∀ {rs : List (List Int)}, rs.Nodup → (nextL n ks rs).Nodup
  | [], _ => by simp [nextL]
  | r :: rs, h => by
    obtain ⟨h1, h2⟩ := List.nodup_cons.mp h
    show (nextR n ks r ++ nextL n ks rs).Nodup
    refine List.nodup_append.mpr ⟨nextR_nodup n ks r, flat_nodup h2, fun a ha b hb e => ?_⟩
    subst e
    obtain ⟨p, _, rfl⟩ := List.mem_map.mp ha
    obtain ⟨q, hq, hb⟩ := List.mem_flatMap.mp hb
    obtain ⟨p', _, e⟩ := List.mem_map.mp hb
    have e2 := (List.append_inj' e rfl).1
    subst e2
    exact h1 hq
theorem crowL_nodup (n : Int) (ks : List (Int × Int)) : ∀ t : Nat, (crowL n ks t).Nodup
  | 0 => nodup_map_inj (fun a b e => by simpa using e) (rgI_nodup _ _)
  | t + 1 => flat_nodup (crowL_nodup n ks t)
theorem nextR_len {n : Int} (hn : 0 ≤ n ∧ n ≤ 7) (ks : List (Int × Int)) {r : List Int} (h : Crow n ks r) : (nextR n ks r).length ≤ 7 := by
  unfold nextR
  rw [List.length_map]
  refine Nat.le_trans (List.length_filter_le _ _) ?_
  rw [rgI_length]
  have : 0 ≤ r.getLastD 0 := by
    rcases List.eq_nil_or_concat r with e | ⟨s, l, e⟩
    · subst e; simp
    · rw [List.concat_eq_append] at e
      subst e
      rw [List.getLastD_concat]
      exact (h.ran l (by simp)).1
  omega
theorem crowL_len {n : Int} (hn : 0 ≤ n ∧ n ≤ 7) (ks : List (Int × Int)) : ∀ t : Nat, (crowL n ks t).length ≤ 7 ^ (t + 1)
  | 0 => by simp only [crowL, List.length_map, rgI_length]; omega
  | t + 1 => by
    have ih := crowL_len hn ks t
    have := flat_le (f := nextR n ks) (b := 7) (crowL n ks t) fun r hr => nextR_len hn ks (crowL_mem.mp hr).1
    rw [Nat.pow_succ]
    exact Nat.le_trans this (Nat.mul_le_mul_right _ ih)
theorem crowL_end {n : Int} (hn : 0 ≤ n) (ks : List (Int × Int)) : crowL n ks n.toNat = [] := by
  apply List.eq_nil_iff_forall_not_mem.mpr
  intro r hr
  obtain ⟨h1, h2⟩ := crowL_mem.mp hr
  have := h1.len hn
  omega
def allL (n : Int) (ks : List (Int × Int)) : Nat → List (List Int)
  | 0 => []
  | t + 1 => allL n ks t ++ crowL n ks (t + 1)
theorem allL_mem {n : Int} {ks : List (Int × Int)} : ∀ {t : Nat} {r : List Int}, r ∈ allL n ks t ↔ Crow n ks r ∧ 2 ≤ r.length ∧ r.length ≤ t + 1
  | 0, r => by
    simp only [allL, List.not_mem_nil, false_iff]
    rintro ⟨_, h, k⟩; omega
  | t + 1, r => by
    simp only [allL, List.mem_append, allL_mem (t := t), crowL_mem]
    constructor
    · rintro (⟨h, a, b⟩ | ⟨h, a⟩)
      · exact ⟨h, a, by omega⟩
      · exact ⟨h, by omega, by omega⟩
    · rintro ⟨h, a, b⟩
      by_cases e : r.length = t + 2
      · exact .inr ⟨h, e⟩
      · exact .inl ⟨h, a, by omega⟩
theorem allL_nodup (n : Int) (ks : List (Int × Int)) : ∀ t : Nat, (allL n ks t).Nodup
  | 0 => by simp [allL]
  | t + 1 => List.nodup_append.mpr ⟨allL_nodup n ks t, crowL_nodup n ks _, fun a ha b hb e => by
    subst e
    have h1 := (allL_mem.mp ha).2.2
    have h2 := (crowL_mem.mp hb).2
    omega⟩
theorem crowL_few {n : Int} (hn : 0 ≤ n ∧ n ≤ 7) (ks : List (Int × Int)) (t : Nat) : (crowL n ks t).length ≤ 823543 := by
  by_cases ht : t ≤ 6
  · have h1 := crowL_len hn ks t
    have h2 : 7 ^ (t + 1) ≤ 7 ^ 7 := Nat.pow_le_pow_right (by decide) (by omega)
    have h3 : (7 : Nat) ^ 7 = 823543 := by decide
    omega
  · have : crowL n ks t = [] := List.eq_nil_iff_forall_not_mem.mpr fun r hr => by
      obtain ⟨h1, h2⟩ := crowL_mem.mp hr
      have := h1.len hn.1
      omega
    rw [this]
    exact Nat.zero_le _
theorem allL_len {n : Int} (hn : 0 ≤ n ∧ n ≤ 7) (ks : List (Int × Int)) : ∀ t : Nat, (allL n ks t).length ≤ t * 823543
  | 0 => by simp [allL]
  | t + 1 => by
    have ih := allL_len hn ks t
    have h1 := crowL_few hn ks (t + 1)
    simp only [allL, List.length_append]
    rw [Nat.succ_mul]
    omega
theorem crow_short {n : Int} {ks : List (Int × Int)} {t : Nat} (h : crowL n ks t = []) : ∀ {r : List Int}, Crow n ks r → r.length ≤ t := by
  intro r hr
  by_cases hl : r.length ≤ t
  · exact hl
  exfalso
  have : r.take (t + 1) ∈ crowL n ks t := crowL_mem.mpr ⟨⟨hr.up.sublist (List.take_sublist _ _), fun x hx => hr.ran x (List.mem_of_mem_take hx), hr.tied.sublist (List.take_sublist _ _)⟩, by rw [List.length_take]; omega⟩
  rw [h] at this
  exact absurd this (List.not_mem_nil)
def crowds0 (n : Int) (ks : List (Int × Int)) : List (List Int) := (rowsL ks n.toNat).filter fun r => decide (1 < r.length)
theorem crowds0_mem {n : Int} (hn : 0 ≤ n) {ks : List (Int × Int)} {r : List Int} : r ∈ crowds0 n ks ↔ Crow n ks r ∧ 2 ≤ r.length := by
  unfold crowds0
  rw [List.mem_filter, rowsL_mem, show ((n.toNat : Nat) : Int) = n by omega, decide_eq_true_eq]
  rfl
theorem all_perm {n : Int} (hn : 0 ≤ n) {ks : List (Int × Int)} {t : Nat} (h : crowL n ks t = []) : (allL n ks t).Perm (crowds0 n ks) :=
  (List.perm_ext_iff_of_nodup (allL_nodup n ks t) ((rowsL_nodup ks _).sublist List.filter_sublist)).mpr fun r => by
    show _ ↔ r ∈ crowds0 n ks
    rw [allL_mem, crowds0_mem hn]
    constructor
    · rintro ⟨a, b, _⟩; exact ⟨a, b⟩
    · rintro ⟨a, b⟩; exact ⟨a, b, by have := crow_short h a; omega⟩
end Td
set_option Elab.async false
set_option linter.all false
set_option maxRecDepth 100000
namespace Td
open PySem PySem.Spec PyProof.Rows L2 TW
theorem gNe_rowsNil (rs : List (List Int)) : gNe (.list (rs.map tupD)) (.list []) = .ok (.bool (!decide (rs = []))) := by
  have h1 : SeqAt.shaped (.list (rs.map tupD)) = true := shaped_rows rs
  have h2 : SeqAt.shaped (.list []) = true := shaped_rows []
  cases rs with
  | nil => simp [gNe, h2, PyData.eqv, PyData.eqvAll]
  | cons r rs =>
    simp only [List.map_cons] at h1
    simp [gNe, h1, h2, PyData.eqv, PyData.eqvAll]
theorem gIx_last {q : List Int} {p : Int} (h : q.length ≤ 100000) : gIx (tupD (q ++ [p])) (.int (-1)) = .ok (.int p) := by
  simp only [tupD, gIx]
  have : atI ((q ++ [p]).map PyData.int) (-1) = some (.int p) := by
    have hj : ixN (q.length + 1) (-1) = some q.length := by
      unfold ixN
      simp
      try omega
    simp [atI, hj]
  rw [this]
theorem all_tied (n : Int) (ks : List (Int × Int)) (x : Int) (r : List Int) : (gAll (.list (r.map fun y => .bool (tiedB ks x y)))) = .ok (.bool (r.all fun y => tiedB ks x y)) := by
  rw [gAll_map]
def cS (n : Int) (ks : List (Int × Int)) (t : Nat) (acc : List (List Int)) (s4 s6 : C) : List C := [.dat (webD n ks), .dat (.list ((crowL n ks t).map tupD)), .own false ((allL n ks t).map tupD), .own false (acc.map tupD), s4, .un, s6, .un]
abbrev crowInner : MS := mFor [6] fName (mRange (mOp2 gAdd (mOp2 gIx (mVar 4) (mOp1 gNeg (mC (.int 1)))) (mC (.int 1))) (mOp2 gIx (mVar 0) (mC (.int 0)))) (mIfS (mTest (mOp1 gAll (mOfN (mComp [7] [7] fName (mSeq1 (mVar 4)) mYes (mCall 3 F_are_tied (mCons (mVar 0) (mCons (mVar 6) (mCons (mVar 7) mNil)))))))) (mOn 3 (mOp2 gAdd (mVar 4) (mTup (mCons (mVar 6) mNil))) gApp) mNx)
theorem crow_inner {n : Int} (hn : 0 ≤ n ∧ n ≤ 7) {ks : List (Int × Int)} {t : Nat} {acc : List (List Int)} {r : List Int} (hr : r ∈ crowL n ks t) (hacc : acc.length ≤ 10000000) (s6 : C) :
    Rn crowInner (cS n ks t acc (.dat (tupD r)) s6) fun f c => f = .nx ∧ ∃ s6, c = cS n ks t (acc ++ nextR n ks r) (.dat (tupD r)) s6 := by
  obtain ⟨h1, h2⟩ := crowL_mem.mp hr
  have h3 := h1.len hn.1
  obtain ⟨q, l, e⟩ : ∃ q l, r = q ++ [l] := by
    rcases List.eq_nil_or_concat r with e | ⟨q, l, e⟩
    · subst e; simp at h2
    · exact ⟨q, l, by rw [e, List.concat_eq_append]⟩
  have hl := h1.ran l (by rw [e]; simp)
  have hlast : r.getLastD 0 = l := by rw [e, List.getLastD_concat]
  have hix : gIx (tupD r) (.int (-1)) = .ok (.int l) := by rw [e]; exact gIx_last (by have := congrArg List.length e; simp at this; omega)
  rw [rn_mFor]
  unfold cS
  simp only [rn_mRange, rn_mOp2, rn_mOp1, rn_mVar, List.getElem?_cons_succ, List.getElem?_cons_zero, onVar_dat, rn_mC, gIx_web0, ev_ok, gNeg_int]
  rw [hix]
  simp only [ev_ok, gAdd_int]
  rw [gRg_from (by omega)]
  simp only [ev_ok]
  refine for_list (P := fun d c => ∃ s6, c = cS n ks t (acc ++ (d.filter fun p => r.all fun x => tiedB ks p x).map fun p => r ++ [p]) (.dat (tupD r)) s6) ⟨s6, by unfold cS; simp⟩ (fun c h => ⟨rfl, by unfold nextR; rw [hlast]; exact h⟩) ?_
  rintro d x rest c e' ⟨s6, rfl⟩
  rw [fName_ok, ev_ok]
  have hd : d.length ≤ 8 := by
    have := congrArg List.length e'
    rw [rgI_length, List.length_append] at this
    omega
  have hf := List.length_filter_le (fun p => r.all fun x => tiedB ks p x) d
  show Rn _ (cS n ks t _ (.dat (tupD r)) (.dat (.int x))) _
  rw [rn_mIfS]
  unfold cS
  simp [rn_mComp, wipeC, tupD]
  refine comp_mapM (g := fun y => .bool (tiedB ks x y)) (fun y _ => ?_) ?_
  · simp [setC, wipeC, are_tied_eq]
  rw [all_tied n]
  simp only [ev_ok, asB_bool]
  cases hx : r.all fun y => tiedB ks x y with
  | false => simp [List.filter_append, hx]
  | true =>
    have := cat_rows (r := r) (p := x) (by omega)
    simp only [tupD] at this
    simp [List.filter_append, hx, isOwn, this]
    exact ⟨by omega, by unfold tupD; simp⟩
abbrev crowBody : MS := mSeq (mSetN 3 (mLst mNil)) (mSeq (mFor [4] fName (mSeq1 (mVar 1)) crowInner) (mSeq (mOn 2 (mVar 3) gExt) (mSet 1 (mVar 3))))
theorem crow_turn {n : Int} (hn : 0 ≤ n ∧ n ≤ 7) {ks : List (Int × Int)} {t : Nat} (ht : t < 7) (s3 s4 s6 : C) :
    Rn crowBody [.dat (webD n ks), .dat (.list ((crowL n ks t).map tupD)), .own false ((allL n ks t).map tupD), s3, s4, .un, s6, .un] fun f c => f = .nx ∧ ∃ s3 s4 s6, c = [.dat (webD n ks), .dat (.list ((crowL n ks (t + 1)).map tupD)), .own false ((allL n ks (t + 1)).map tupD), s3, s4, .un, s6, .un] := by
  have hall := allL_len hn ks t
  have hlev := crowL_few hn ks (t + 1)
  refine seq_cut (fun c => c = cS n ks t [] s4 s6) (by unfold cS; simp) ?_
  rintro c rfl
  refine seq_cut (fun c => ∃ s4 s6, c = cS n ks t (crowL n ks (t + 1)) s4 s6) ?_ ?_
  · rw [rn_mFor]
    unfold cS
    simp only [rn_mSeq1, rn_mVar, List.getElem?_cons_succ, List.getElem?_cons_zero, onVar_dat, gSeq_list, ev_ok]
    refine for_list (P := fun d c => ∃ s4 s6, c = cS n ks t (nextL n ks d) s4 s6) ⟨s4, s6, rfl⟩ (fun c h => ⟨rfl, h⟩) ?_
    rintro d r rest c e ⟨s4, s6, rfl⟩
    rw [fName_ok, ev_ok]
    have hr : r ∈ crowL n ks t := by rw [e]; simp
    have hsl : (nextL n ks d).length ≤ 5764801 := by
      have h1 : (nextL n ks d).length ≤ (crowL n ks (t + 1)).length := by
        show _ ≤ (nextL n ks (crowL n ks t)).length
        unfold nextL
        rw [e, List.flatMap_append, List.length_append]
        exact Nat.le_add_right _ _
      omega
    show Rn _ (cS n ks t (nextL n ks d) (.dat (tupD r)) s6) _
    refine (crow_inner hn hr (by omega) s6).mono fun f c ⟨e1, s6, e2⟩ => ?_
    subst e1
    refine ⟨.dat (tupD r), s6, ?_⟩
    rw [e2]
    congr 1
    unfold nextL
    rw [List.flatMap_append]
    simp
  rintro c ⟨s4, s6, rfl⟩
  unfold cS
  simp [isOwn]
  refine ⟨by omega, ?_⟩
  show _ = (allL n ks t ++ crowL n ks (t + 1)).map tupD
  rw [List.map_append]
theorem sort_rows_perm {rs qs : List (List Int)} (h : rs.Perm qs) : sortD (rs.map tupD) = sortD (qs.map tupD) := tups_unique h
theorem crowds_in_eq {n : Int} (hn : 0 ≤ n ∧ n ≤ 7) (ks : List (Int × Int)) : F_crowds_in [webD n ks] = .ok (sortD ((crowds0 n ks).map tupD)) := by
  apply Ev.eq
  unfold F_crowds_in
  rw [ev_fnN]
  unfold b_crowds_in
  show Rn _ [.dat (webD n ks), .un, .un, .un, .un, .un, .un, .un] _
  refine seq_cut (fun c => c = [.dat (webD n ks), .dat (.list ((crowL n ks 0).map tupD)), .un, .un, .un, .un, .un, .un]) ?_ ?_
  · simp [rn_mComp, wipeC]
    rw [gRg_to (by omega)]
    simp only [ev_ok]
    refine comp_mapM (g := fun p => tupD [p]) (fun y _ => ?_) ?_
    · simp [setC, wipeC, tupD]
    · simp [crowL, tupD]
  rintro c rfl
  refine seq_cut (fun c => c = [.dat (webD n ks), .dat (.list ((crowL n ks 0).map tupD)), .own false ((allL n ks 0).map tupD), .un, .un, .un, .un, .un]) (by simp [allL]) ?_
  rintro c rfl
  refine seq_cut (fun c => ∃ t s3 s4 s6, crowL n ks t = [] ∧ c = [.dat (webD n ks), .dat (.list []), .own false ((allL n ks t).map tupD), s3, s4, .un, s6, .un]) ?_ ?_
  · refine while_rule (I := fun k c => ∃ t s3 s4 s6, t + k = n.toNat ∧ c = [.dat (webD n ks), .dat (.list ((crowL n ks t).map tupD)), .own false ((allL n ks t).map tupD), s3, s4, .un, s6, .un]) n.toNat ⟨0, .un, .un, .un, by omega, rfl⟩ (by omega) ?_
    rintro k c ⟨t, s3, s4, s6, hk, rfl⟩
    simp only [rn_mTest, rn_mOp2, rn_mVar, List.getElem?_cons_succ, List.getElem?_cons_zero, onVar_dat, rn_mOfN, rn_mLst, rn_mNil, List.length_nil, Nat.zero_le, true_and]
    rw [gNe_rowsNil]
    simp only [ev_ok, asB_bool]
    by_cases he : crowL n ks t = []
    · simp [he]
      exact ⟨t, he, rfl⟩
    · have hk0 : 0 < k := by
        rcases Nat.eq_zero_or_pos k with h | h
        · exfalso
          have : t = n.toNat := by omega
          rw [this] at he
          exact he (crowL_end hn.1 ks)
        · exact h
      simp only [he, decide_false, Bool.not_false, if_true]
      refine ⟨hk0, (crow_turn hn (by omega) s3 s4 s6).mono fun f c ⟨e1, s3, s4, s6, e2⟩ => ?_⟩
      subst e1
      exact ⟨t + 1, s3, s4, s6, by omega, e2⟩
  rintro c ⟨t, s3, s4, s6, he, rfl⟩
  simp
  have hne : ∀ r ∈ allL n ks t, r ≠ [] := fun r hr e => by
    have := (allL_mem.mp hr).2.1
    rw [e] at this
    simp at this
  rw [gSorted_rows hne]
  simp only [ev_ok]
  exact sort_rows_perm (all_perm hn.1 he)
theorem filter_un {α : Type} (t : α → Bool) (l : List α) : decide (l.filter (fun x => !t x) = []) = l.all t := by
  rw [Bool.eq_iff_iff, decide_eq_true_eq, List.filter_eq_nil_iff, List.all_eq_true]
  constructor
  · intro h x hx
    have := h x hx
    simpa using this
  · intro h x hx
    simp [h x hx]
theorem law_crowds_eq {n : Int} (hn : 0 ≤ n ∧ n ≤ 14) (ks : List (Int × Int)) : F__law_crowds [webD n ks] = .ok (sortD ((crowds0 n ks).map tupD)) := by
  apply Ev.eq
  unfold F__law_crowds
  rw [ev_fnN]
  unfold b__law_crowds
  show Rn _ [.dat (webD n ks), .un, .un, .un, .un] _
  refine seq_cut (fun c => c = [.dat (webD n ks), .dat (.list ((rowsL ks 0).map tupD)), .un, .un, .un]) (by simp [rowsL, tupD]) ?_
  rintro c rfl
  refine seq_cut (fun c => ∃ s2, c = [.dat (webD n ks), .dat (.list ((rowsL ks n.toNat).map tupD)), s2, .un, .un]) ?_ ?_
  · rw [rn_mFor]
    simp only [rn_mRange1, rn_mOp2, rn_mVar, List.getElem?_cons_succ, List.getElem?_cons_zero, onVar_dat, rn_mC, gIx_web0, ev_ok]
    rw [gRg_to (by omega)]
    simp only [ev_ok]
    refine for_list (P := fun d c => d.length ≤ n.toNat ∧ ∃ s2, c = [.dat (webD n ks), .dat (.list ((rowsL ks d.length).map tupD)), s2, .un, .un]) ⟨Nat.zero_le _, .un, rfl⟩ ?_ ?_
    · rintro c ⟨_, s2, rfl⟩
      rw [rgI_length, Int.sub_zero]
      exact ⟨rfl, s2, rfl⟩
    · rintro d x rest c e ⟨_, s2, rfl⟩
      rw [fName_ok, ev_ok]
      have hl : d.length < n.toNat := by
        have := congrArg List.length e
        rw [rgI_length, List.length_append, List.length_cons] at this
        omega
      have hx : x = d.length := by
        have g := congrArg (fun l : List Int => l[d.length]?) e
        simp only [List.getElem?_append_right (Nat.le_refl _), Nat.sub_self, List.getElem?_cons_zero] at g
        unfold rgI at g
        rw [List.getElem?_map, List.getElem?_range (by omega)] at g
        simp at g
        omega
      subst hx
      have hlen := rowsL_len ks d.length
      have h2 : 2 ^ d.length ≤ 2 ^ 14 := Nat.pow_le_pow_right (by decide) (by omega)
      have h3 : (2 : Nat) ^ 14 = 16384 := by decide
      simp [setC, rn_mComp, wipeC]
      refine comp_filterM (t := fun r : List Int => r.all fun x => tiedB ks x d.length) (g := fun r => tupD (r ++ [(d.length : Int)])) (fun r hr => ?_) ?_
      · have hrl := (rowsL_mem.mp hr).len (by omega)
        simp [setC, rn_mComp, wipeC, tupD]
        refine comp_filterM (t := fun x => !tiedB ks x d.length) (g := .int) (fun y _ => ?_) ?_
        · simp [setC, wipeC, tied_eq]
        rw [gEq_intsNil, filter_un]
        simp only [ev_ok, asB_bool]
        cases hx : r.all fun x => tiedB ks x d.length with
        | false => simp
        | true =>
          have := cat_rows (r := r) (p := (d.length : Int)) (by omega)
          simp only [tupD] at this
          simp [this]
      · have hf := List.length_filter_le (fun r : List Int => r.all fun x => tiedB ks x d.length) (rowsL ks d.length)
        rw [gCat_list (by simp only [List.length_map]; omega)]
        simp [rowsL, hl]
        try omega
  rintro c ⟨s2, rfl⟩
  simp [rn_mComp, wipeC]
  refine comp_filterM (t := fun r : List Int => decide (1 < r.length)) (g := tupD) (fun r hr => ?_) ?_
  · simp [setC, wipeC, tupD]
    try omega
  rw [gSorted_rows (fun r hr e => by
    have := (List.mem_filter.mp hr).2
    rw [e] at this
    simp at this)]
  simp only [ev_ok]
  rfl
end Td
set_option Elab.async false
set_option linter.all false
set_option maxRecDepth 100000
namespace Td
open PySem PySem.Spec PyProof.Rows L2 TW
theorem eqv_row : ∀ {r q : List Int}, PyData.eqvAll (r.map .int) (q.map .int) = decide (r = q)
  | [], [] => rfl
  | [], _ :: _ => rfl
  | _ :: _, [] => rfl
  | x :: r, y :: q => by
    simp only [List.map_cons, PyData.eqvAll, PyData.eqv, eqv_row (r := r) (q := q)]
    by_cases h : x = y <;> simp [h]
end Td
set_option Elab.async false
set_option linter.all false
set_option maxRecDepth 100000
namespace Td
open PySem PySem.Spec PyProof.Rows L2 TW
theorem gEq_tie (p q : Int × Int) : gEq (tieD p) (tieD q) = .ok (.bool (decide (p = q))) := by
  have h1 : SeqAt.shaped (tieD p) = true := shaped_row [p.1, p.2]
  have h2 : SeqAt.shaped (tieD q) = true := shaped_row [q.1, q.2]
  simp only [gEq, h1, h2, Bool.and_self, if_true, eqv_tie]
end Td
set_option Elab.async false
set_option linter.all false
set_option maxRecDepth 100000
namespace Td
open PySem PySem.Spec PyProof.Rows L2 TW
def Clo (ks : List (Int × Int)) (S : Int → Prop) : Prop := ∀ p ∈ ks, S p.1 ↔ S p.2
theorem Clo.tied {ks : List (Int × Int)} {S : Int → Prop} (h : Clo ks S) {x y : Int} (t : tiedB ks x y = true) : S x ↔ S y := by
  unfold tiedB at t
  have m := h _ (of_decide_eq_true t)
  by_cases q : x ≤ y
  · rw [show min x y = x by omega, show max x y = y by omega] at m; exact m
  · rw [show min x y = y by omega, show max x y = x by omega] at m; exact m.symm
theorem tied_of {n : Int} {ks : List (Int × Int)} (w : Web n ks) {p : Int × Int} (h : p ∈ ks) : tiedB ks p.1 p.2 = true := ((tied_mem w).mp h).2
def nextP (n : Int) (ks : List (Int × Int)) (f : List Int) : List Int := (rgI 0 n).filter fun o => decide (o ∈ f) || f.any fun x => tiedB ks x o
def pieceL (n : Int) (ks : List (Int × Int)) (v : Int) : Nat → List Int
  | 0 => [v]
  | t + 1 => nextP n ks (pieceL n ks v t)
theorem nextP_mem {n : Int} {ks : List (Int × Int)} {f : List Int} {o : Int} : o ∈ nextP n ks f ↔ (0 ≤ o ∧ o < n) ∧ (o ∈ f ∨ ∃ x ∈ f, tiedB ks x o = true) := by
  unfold nextP
  rw [List.mem_filter, rgI_mem, Bool.or_eq_true, decide_eq_true_eq, List.any_eq_true]
section
variable {n : Int} {ks : List (Int × Int)} {v : Int}
theorem piece_ran (hv : 0 ≤ v ∧ v < n) : ∀ t : Nat, ∀ x ∈ pieceL n ks v t, 0 ≤ x ∧ x < n
  | 0, x, h => by rw [show x = v from List.mem_singleton.mp h]; exact hv
  | t + 1, x, h => (nextP_mem.mp h).1
theorem piece_up : ∀ t : Nat, (pieceL n ks v t).Pairwise (· < ·)
  | 0 => List.pairwise_singleton _ _
  | t + 1 => (rgI_pw 0 n).sublist List.filter_sublist
theorem up_nodup {r : List Int} (h : r.Pairwise (· < ·)) : r.Nodup := h.imp fun h e => by omega
theorem piece_len (hv : 0 ≤ v ∧ v < n) (t : Nat) : ((pieceL n ks v t).length : Int) ≤ n := by
  have := up_len (piece_up (n := n) (ks := ks) (v := v) t) (piece_ran hv t) (by omega)
  omega
theorem piece_grow (hv : 0 ≤ v ∧ v < n) (t : Nat) {x : Int} (h : x ∈ pieceL n ks v t) : x ∈ pieceL n ks v (t + 1) := nextP_mem.mpr ⟨piece_ran hv t x h, .inl h⟩
theorem piece_self (hv : 0 ≤ v ∧ v < n) : ∀ t : Nat, v ∈ pieceL n ks v t
  | 0 => List.mem_singleton.mpr rfl
  | t + 1 => piece_grow hv t (piece_self hv t)
theorem piece_min {S : Int → Prop} (c : Clo ks S) (h : S v) : ∀ (t : Nat) (x : Int), x ∈ pieceL n ks v t → S x
  | 0, x, m => by rw [show x = v from List.mem_singleton.mp m]; exact h
  | t + 1, x, m => by
    rcases (nextP_mem.mp m).2 with m | ⟨y, m, e⟩
    · exact piece_min c h t x m
    · exact (c.tied e).mp (piece_min c h t y m)
theorem piece_clo (w : Web n ks) (hv : 0 ≤ v ∧ v < n) : ∀ t : Nat, Clo ks (· ∈ pieceL n ks v t) ∨ t + 1 ≤ (pieceL n ks v t).length
  | 0 => .inr (Nat.le_refl _)
  | t + 1 => by
    by_cases c : Clo ks (· ∈ pieceL n ks v t)
    · refine .inl fun p hp => ?_
      have key : ∀ x, x ∈ pieceL n ks v (t + 1) ↔ x ∈ pieceL n ks v t := fun x => ⟨fun h => by
        rcases (nextP_mem.mp h).2 with m | ⟨y, m, e⟩
        · exact m
        · exact (c.tied e).mp m, piece_grow hv t⟩
      simp only [key]
      exact c p hp
    · right
      rcases piece_clo w hv t with c' | hl
      · exact absurd c' c
      · obtain ⟨p, hp, hne⟩ : ∃ p ∈ ks, ¬ (p.1 ∈ pieceL n ks v t ↔ p.2 ∈ pieceL n ks v t) := by
          apply Classical.byContradiction
          intro h
          exact c fun p hp => Classical.byContradiction fun q => h ⟨p, hp, q⟩
        have tp := tied_of w hp
        have rp := w.ties p hp
        have more : ∃ y, y ∉ pieceL n ks v t ∧ y ∈ pieceL n ks v (t + 1) := by
          by_cases h1 : p.1 ∈ pieceL n ks v t
          · have h2 : p.2 ∉ pieceL n ks v t := fun h2 => hne ⟨fun _ => h2, fun _ => h1⟩
            exact ⟨p.2, h2, nextP_mem.mpr ⟨by omega, .inr ⟨p.1, h1, tp⟩⟩⟩
          · have h2 : p.2 ∈ pieceL n ks v t := Classical.byContradiction fun h2 => hne ⟨fun h => absurd h h1, fun h => absurd h h2⟩
            exact ⟨p.1, h1, nextP_mem.mpr ⟨by omega, .inr ⟨p.2, h2, by rw [tiedB_comm]; exact tp⟩⟩⟩
        obtain ⟨y, y1, y2⟩ := more
        have := nodupLe (ks := y :: pieceL n ks v t) (ls := pieceL n ks v (t + 1)) (List.nodup_cons.mpr ⟨y1, up_nodup (piece_up t)⟩) fun x hx => by
          rcases List.mem_cons.mp hx with z | z
          · rw [z]; exact y2
          · exact piece_grow hv t z
        rw [List.length_cons] at this
        omega
theorem piece_whole (w : Web n ks) (hv : 0 ≤ v ∧ v < n) : Clo ks (· ∈ pieceL n ks v n.toNat) := by
  rcases piece_clo w hv n.toNat with c | h
  · exact c
  · have := piece_len (ks := ks) hv n.toNat
    omega
end
def stepH (h : List Int) (p : Int × Int) : List Int := if p.1 ∈ h ∧ p.2 ∉ h then h ++ [p.2] else if p.2 ∈ h ∧ p.1 ∉ h then h ++ [p.1] else h
def turnH (ks : List (Int × Int)) (h : List Int) : List Int := ks.foldl stepH h
def hereL (ks : List (Int × Int)) : Nat → List Int
  | 0 => [0]
  | t + 1 => turnH ks (hereL ks t)
theorem stepH_sub {h : List Int} {p : Int × Int} {x : Int} (m : x ∈ h) : x ∈ stepH h p := by
  unfold stepH
  split
  · simp [m]
  · split <;> simp [m]
theorem turnH_sub : ∀ {ks : List (Int × Int)} {h : List Int} {x : Int}, x ∈ h → x ∈ turnH ks h
  | [], h, x, m => m
  | p :: ks, h, x, m => turnH_sub (ks := ks) (stepH_sub m)
theorem stepH_clo {h : List Int} {p : Int × Int} (m : p.1 ∈ h ∨ p.2 ∈ h) : p.1 ∈ stepH h p ∧ p.2 ∈ stepH h p := by
  unfold stepH
  by_cases h1 : p.1 ∈ h <;> by_cases h2 : p.2 ∈ h <;> simp [h1, h2] at m ⊢
theorem turnH_end : ∀ {ks : List (Int × Int)} {h : List Int} {p : Int × Int}, p ∈ ks → (p.1 ∈ h ∨ p.2 ∈ h) → p.1 ∈ turnH ks h ∧ p.2 ∈ turnH ks h
  | q :: ks, h, p, hp, m => by
    show p.1 ∈ turnH ks (stepH h q) ∧ p.2 ∈ turnH ks (stepH h q)
    rcases List.mem_cons.mp hp with e | hp
    · subst e
      have := stepH_clo m
      exact ⟨turnH_sub this.1, turnH_sub this.2⟩
    · exact turnH_end hp (m.imp stepH_sub stepH_sub)
theorem stepH_min {S : Int → Prop} {h : List Int} {p : Int × Int} (c : S p.1 ↔ S p.2) (hs : ∀ x ∈ h, S x) : ∀ x ∈ stepH h p, S x := by
  intro x hx
  unfold stepH at hx
  split at hx
  · rename_i q
    rcases List.mem_append.mp hx with z | z
    · exact hs x z
    · rw [List.mem_singleton.mp z]; exact c.mp (hs _ q.1)
  · split at hx
    · rename_i q
      rcases List.mem_append.mp hx with z | z
      · exact hs x z
      · rw [List.mem_singleton.mp z]; exact c.mpr (hs _ q.1)
    · exact hs x hx
theorem turnH_min {S : Int → Prop} : ∀ {ks : List (Int × Int)} {h : List Int}, Clo ks S → (∀ x ∈ h, S x) → ∀ x ∈ turnH ks h, S x
  | [], h, _, hs => hs
  | p :: ks, h, c, hs => turnH_min (ks := ks) (fun q hq => c q (List.mem_cons_of_mem _ hq)) (stepH_min (c p List.mem_cons_self) hs)
theorem hereL_min {ks : List (Int × Int)} {S : Int → Prop} (c : Clo ks S) (h : S 0) : ∀ t : Nat, ∀ x ∈ hereL ks t, S x
  | 0 => by intro x hx; rw [show x = 0 from List.mem_singleton.mp hx]; exact h
  | t + 1 => turnH_min c (hereL_min c h t)
theorem hereL_zero (ks : List (Int × Int)) : ∀ t : Nat, (0 : Int) ∈ hereL ks t
  | 0 => List.mem_singleton.mpr rfl
  | t + 1 => turnH_sub (hereL_zero ks t)
structure Here (n : Int) (ks : List (Int × Int)) (h : List Int) : Prop where
  nd : h.Nodup
  ran : ∀ x ∈ h, 0 ≤ x ∧ x < n
  many : h.length ≤ (ks.countP fun p => decide (p.1 ∈ h ∧ p.2 ∈ h)) + 1
  tied : h = [0] ∨ ∀ x ∈ h, ∃ p ∈ ks, x = p.1 ∨ x = p.2
theorem countP_more {α : Type} {f g : α → Bool} (hfg : ∀ x, f x = true → g x = true) : ∀ {l : List α} {p : α}, p ∈ l → f p = false → g p = true → l.countP f + 1 ≤ l.countP g
  | q :: l, p, hp, h1, h2 => by
    rcases List.mem_cons.mp hp with e | hp
    · subst e
      have := List.countP_mono_left (l := l) fun x _ => hfg x
      rw [List.countP_cons_of_neg (by simp [h1]), List.countP_cons_of_pos h2]
      omega
    · have ih := countP_more hfg hp h1 h2
      by_cases a : f q = true
      · rw [List.countP_cons_of_pos a, List.countP_cons_of_pos (hfg q a)]; omega
      · rw [List.countP_cons_of_neg a]
        by_cases b : g q = true
        · rw [List.countP_cons_of_pos b]; omega
        · rw [List.countP_cons_of_neg b]; exact ih
theorem Here.add {n : Int} {ks : List (Int × Int)} {h : List Int} (H : Here n ks h) {p : Int × Int} (hp : p ∈ ks) {x y : Int} (e : p = (x, y) ∨ p = (y, x)) (hx : x ∈ h) (hy : y ∉ h) (ry : 0 ≤ y ∧ y < n) : Here n ks (h ++ [y]) := by
  refine ⟨List.nodup_append.mpr ⟨H.nd, by simp, fun a ha b hb q => ?_⟩, fun z hz => ?_, ?_, .inr fun z hz => ?_⟩
  · rw [List.mem_singleton.mp hb] at q; subst q; exact hy ha
  · rcases List.mem_append.mp hz with z | z
    · exact H.ran _ z
    · rw [List.mem_singleton.mp z]; exact ry
  · have := countP_more (f := fun p : Int × Int => decide (p.1 ∈ h ∧ p.2 ∈ h)) (g := fun p : Int × Int => decide (p.1 ∈ h ++ [y] ∧ p.2 ∈ h ++ [y])) (fun q hq => by
      have := of_decide_eq_true hq
      simp [this.1, this.2]) hp (by rcases e with rfl | rfl <;> simp [hy]) (by rcases e with rfl | rfl <;> simp [hx])
    have hm := H.many
    rw [List.length_append, List.length_singleton]
    omega
  · have px : ∃ p ∈ ks, x = p.1 ∨ x = p.2 := ⟨p, hp, by rcases e with rfl | rfl <;> simp⟩
    have py : ∃ p ∈ ks, y = p.1 ∨ y = p.2 := ⟨p, hp, by rcases e with rfl | rfl <;> simp⟩
    rcases List.mem_append.mp hz with z' | z'
    · rcases H.tied with q | q
      · subst q
        rw [List.mem_singleton.mp z', ← List.mem_singleton.mp hx]
        exact px
      · exact q z z'
    · rw [List.mem_singleton.mp z']; exact py
theorem Here.step {n : Int} {ks : List (Int × Int)} {h : List Int} (H : Here n ks h) {p : Int × Int} (hp : p ∈ ks) (rp : 0 ≤ p.1 ∧ p.1 < p.2 ∧ p.2 < n) : Here n ks (stepH h p) := by
  unfold stepH
  split
  · rename_i q; exact H.add hp (.inl rfl) q.1 q.2 (by omega)
  · split
    · rename_i q; exact H.add hp (.inr rfl) q.1 q.2 (by omega)
    · exact H
theorem Here.turn {n : Int} {ks : List (Int × Int)} (ht : ∀ p ∈ ks, 0 ≤ p.1 ∧ p.1 < p.2 ∧ p.2 < n) : ∀ {l : List (Int × Int)} {h : List Int}, (∀ p ∈ l, p ∈ ks) → Here n ks h → Here n ks (turnH l h)
  | [], h, _, H => H
  | p :: l, h, s, H => Here.turn ht (l := l) (fun q hq => s q (List.mem_cons_of_mem _ hq)) (H.step (s p List.mem_cons_self) (ht p (s p List.mem_cons_self)))
theorem here_all {n : Int} {ks : List (Int × Int)} (w : Web n ks) (hn : 0 < n) : ∀ t : Nat, Here n ks (hereL ks t)
  | 0 => ⟨by simp [hereL], by intro x hx; rw [show x = 0 from List.mem_singleton.mp hx]; omega, by simp [hereL], .inl rfl⟩
  | t + 1 => Here.turn w.ties (fun p hp => hp) (here_all w hn t)
theorem here_len {n : Int} {ks : List (Int × Int)} {h : List Int} (H : Here n ks h) (hn : 0 ≤ n) : (h.length : Int) ≤ n := by
  have := nodupLe H.nd (ls := rgI 0 n) fun x hx => rgI_mem.mpr (H.ran x hx)
  rw [rgI_length] at this
  omega
theorem here_clo {n : Int} {ks : List (Int × Int)} (w : Web n ks) (hn : 0 < n) : ∀ t : Nat, Clo ks (· ∈ hereL ks t) ∨ t + 1 ≤ (hereL ks t).length
  | 0 => .inr (Nat.le_refl _)
  | t + 1 => by
    by_cases c : Clo ks (· ∈ hereL ks t)
    · refine .inl fun p hp => ?_
      have key : ∀ x, x ∈ hereL ks (t + 1) ↔ x ∈ hereL ks t := fun x => ⟨fun h => turnH_min (S := (· ∈ hereL ks t)) c (fun _ h => h) x h, turnH_sub⟩
      simp only [key]
      exact c p hp
    · right
      rcases here_clo w hn t with c' | hl
      · exact absurd c' c
      · obtain ⟨p, hp, hne⟩ : ∃ p ∈ ks, ¬ (p.1 ∈ hereL ks t ↔ p.2 ∈ hereL ks t) := by
          apply Classical.byContradiction
          intro h
          exact c fun p hp => Classical.byContradiction fun q => h ⟨p, hp, q⟩
        have more : ∃ y, y ∉ hereL ks t ∧ y ∈ hereL ks (t + 1) := by
          by_cases h1 : p.1 ∈ hereL ks t
          · exact ⟨p.2, fun h2 => hne ⟨fun _ => h2, fun _ => h1⟩, (turnH_end hp (.inl h1)).2⟩
          · have h2 : p.2 ∈ hereL ks t := Classical.byContradiction fun h2 => hne ⟨fun h => absurd h h1, fun h => absurd h h2⟩
            exact ⟨p.1, h1, (turnH_end hp (.inr h2)).1⟩
        obtain ⟨y, y1, y2⟩ := more
        have := nodupLe (ks := y :: hereL ks t) (ls := hereL ks (t + 1)) (List.nodup_cons.mpr ⟨y1, (here_all w hn t).nd⟩) fun x hx => by
          rcases List.mem_cons.mp hx with z | z
          · rw [z]; exact y2
          · exact turnH_sub z
        rw [List.length_cons] at this
        omega
theorem here_whole {n : Int} {ks : List (Int × Int)} (w : Web n ks) (hn : 0 < n) : Clo ks (· ∈ hereL ks n.toNat) := by
  rcases here_clo w hn n.toNat with c | h
  · exact c
  · have := here_len (here_all w hn n.toNat) (by omega)
    omega
def joinedB (n : Int) (ks : List (Int × Int)) : Bool := decide (n = 0) || decide (((hereL ks n.toNat).length : Int) = n)
theorem here_full {n : Int} {ks : List (Int × Int)} (w : Web n ks) (hn : 0 < n) : ((hereL ks n.toNat).length : Int) = n ↔ ∀ x, 0 ≤ x ∧ x < n → x ∈ hereL ks n.toNat := by
  have H := here_all w hn n.toNat
  constructor
  · intro h x hx
    apply Classical.byContradiction
    intro q
    have := nodupLe (ks := x :: hereL ks n.toNat) (ls := rgI 0 n) (List.nodup_cons.mpr ⟨q, H.nd⟩) fun y hy => rgI_mem.mpr (by
      rcases List.mem_cons.mp hy with z | z
      · rw [z]; exact hx
      · exact H.ran y z)
    rw [rgI_length, List.length_cons] at this
    omega
  · intro h
    have := nodupLe (rgI_nodup 0 n) (ls := hereL ks n.toNat) fun x hx => h x (rgI_mem.mp hx)
    rw [rgI_length] at this
    have := here_len H (by omega)
    omega
theorem joined_pieces {n : Int} {ks : List (Int × Int)} (w : Web n ks) (hn : 0 < n) (h : joinedB n ks = true) {v : Int} (hv : 0 ≤ v ∧ v < n) : pieceL n ks v n.toNat = rgI 0 n := by
  have full := (here_full w hn).mp (by
    unfold joinedB at h
    simp only [Bool.or_eq_true, decide_eq_true_eq] at h
    rcases h with h | h
    · omega
    · exact h)
  have P := piece_whole w hv
  have all : ∀ x, 0 ≤ x ∧ x < n → x ∈ pieceL n ks v n.toNat := by
    by_cases z : (0 : Int) ∈ pieceL n ks v n.toNat
    · intro x hx
      exact hereL_min P z n.toNat x (full x hx)
    · exfalso
      have C : Clo ks (fun x => x ∉ pieceL n ks v n.toNat) := fun p hp => not_congr (P p hp)
      exact hereL_min C z n.toNat v (full v hv) (piece_self hv n.toNat)
  refine List.Perm.eq_of_pairwise (le := (· < ·)) (fun a b _ _ q r => by omega) (piece_up _) (rgI_pw 0 n) ?_
  exact (List.perm_ext_iff_of_nodup (up_nodup (piece_up _)) (rgI_nodup 0 n)).mpr fun x => ⟨fun h => rgI_mem.mpr (piece_ran hv _ x h), fun h => all x (rgI_mem.mp h)⟩
theorem loose_pieces {n : Int} {ks : List (Int × Int)} (w : Web n ks) (hn : 0 < n) (h : joinedB n ks = false) : ∃ v, (0 ≤ v ∧ v < n) ∧ pieceL n ks v n.toNat ≠ pieceL n ks 0 n.toNat := by
  apply Classical.byContradiction
  intro q
  have same : ∀ v, 0 ≤ v ∧ v < n → pieceL n ks v n.toNat = pieceL n ks 0 n.toNat := fun v hv => Classical.byContradiction fun z => q ⟨v, hv, z⟩
  unfold joinedB at h
  simp only [Bool.or_eq_false_iff, decide_eq_false_iff_not] at h
  apply h.2
  refine (here_full w hn).mpr fun x hx => ?_
  have : x ∈ pieceL n ks 0 n.toNat := by
    rw [← same x hx]; exact piece_self hx _
  exact piece_min (here_whole w hn) (hereL_zero ks _) n.toNat x this
end Td
set_option Elab.async false
set_option linter.all false
set_option maxRecDepth 100000
namespace Td
open PySem PySem.Spec PyProof.Rows L2 TW
def goneD (n : Int) : D := .tuple [.str "gone", .int n]
def staysD (n : Int) : D := .tuple [.str "stays", .int n]
def growsD : D := .tuple [.str "grows"]
def fateV (n : Int) (e : Nat) (cs : List Int) : D :=
  if n = 0 ∨ (cs.getLastD 0 < 3 ∧ (e : Int) = n - 1) then goneD n else if cs.getLastD 0 < 3 then staysD n else if cs = [1, 1, 1, 3] then staysD 3 else growsD
end Td
set_option Elab.async false
set_option linter.all false
set_option maxRecDepth 100000
namespace Td
open PySem PySem.Spec PyProof.Rows L2 TW
theorem gSetSortI_ints {l ms : List Int} (hl : l.length < 64) (h : ms.Pairwise (· < ·)) (m : ∀ k, k ∈ ms ↔ k ∈ l) : gSetSortI (.list (l.map .int)) = .ok (ms.map .int) := by
  simp only [gSetSortI, intsD_map]
  rw [if_pos hl, sort_dist h m]
theorem piece_of_eq {n : Int} {ks : List (Int × Int)} (w : Web n ks) {v : Int} (hv : 0 ≤ v ∧ v < n) : F_piece_of [webD n ks, .int v] = .ok (tupD (pieceL n ks v n.toNat)) := by
  have hn := w.many
  apply Ev.eq
  unfold F_piece_of
  rw [ev_fnD]
  unfold b_piece_of
  show Rn _ [.dat (webD n ks), .dat (.int v), .un, .un, .un, .un, .un] _
  refine seq_cut (fun c => c = [.dat (webD n ks), .dat (.int v), .dat (.list ((pieceL n ks v 0).map .int)), .un, .un, .un, .un]) (by simp [pieceL]) ?_
  rintro c rfl
  refine seq_cut (fun c => ∃ s3 s4, c = [.dat (webD n ks), .dat (.int v), .dat (.list ((pieceL n ks v n.toNat).map .int)), s3, s4, .un, .un]) ?_ ?_
  · rw [rn_mFor]
    simp only [rn_mRange1, rn_mOp2, rn_mVar, List.getElem?_cons_succ, List.getElem?_cons_zero, onVar_dat, rn_mC, gIx_web0, ev_ok]
    rw [gRg_to (by omega)]
    simp only [ev_ok]
    refine for_list (P := fun d c => ∃ s3 s4, c = [.dat (webD n ks), .dat (.int v), .dat (.list ((pieceL n ks v d.length).map .int)), s3, s4, .un, .un]) ⟨.un, .un, rfl⟩ ?_ ?_
    · rintro c ⟨s3, s4, rfl⟩
      rw [rgI_length, Int.sub_zero]
      exact ⟨rfl, s3, s4, rfl⟩
    · rintro d x rest c e ⟨s3, s4, rfl⟩
      rw [fName_ok, ev_ok]
      let f := pieceL n ks v d.length
      let more := (rgI 0 n).filter fun o => f.any fun x => tiedB ks x o
      refine seq_cut (fun c => c = [.dat (webD n ks), .dat (.int v), .dat (.list (f.map .int)), .dat (.int x), .dat (.list (more.map .int)), .un, .un]) ?_ ?_
      · simp [setC, rn_mComp, wipeC]
        rw [gRg_to (by omega)]
        simp only [ev_ok]
        refine comp_filterM (t := fun o => f.any fun x => tiedB ks x o) (g := .int) (fun o _ => ?_) ?_
        · simp [setC, rn_mComp, wipeC]
          refine comp_mapM (g := fun y => .bool (tiedB ks y o)) (fun y _ => ?_) ?_
          · simp [setC, wipeC, are_tied_eq]
          rw [gAny_map]
          simp [f]
        · rfl
      rintro c rfl
      have l1 := piece_len (ks := ks) hv d.length
      have l2 : more.length ≤ 14 := by
        have h : more.length ≤ (rgI 0 n).length := List.length_filter_le _ _
        rw [rgI_length] at h
        omega
      have l3 : f.length ≤ 14 := by show (pieceL n ks v d.length).length ≤ 14; omega
      simp
      rw [gCat_list (by simp only [List.length_map]; omega)]
      simp only [ev_ok]
      rw [← List.map_append, gSetSortI_ints (ms := nextP n ks f) (by rw [List.length_append]; omega) ((rgI_pw 0 n).sublist List.filter_sublist) (fun k => by
        rw [nextP_mem, List.mem_append, List.mem_filter, rgI_mem, List.any_eq_true]
        constructor
        · rintro ⟨h1, h2 | h2⟩
          · exact .inl h2
          · exact .inr ⟨h1, h2⟩
        · rintro (h2 | ⟨h1, h2⟩)
          · exact ⟨piece_ran hv _ k h2, .inl h2⟩
          · exact ⟨h1, .inr h2⟩)]
      simp only [ev_ok]
      rfl
  rintro c ⟨s3, s4, rfl⟩
  simp [tupD]
def piecesL (n : Int) (ks : List (Int × Int)) : List (List Int) := (rgI 0 n).map fun v => pieceL n ks v n.toNat
theorem all_pieces_eq {n : Int} {ks : List (Int × Int)} (w : Web n ks) : ∃ rows : List (List Int), F_all_pieces [webD n ks] = .ok (rows.map tupD) ∧ rows.length = (uniqL (piecesL n ks)).length := by
  have hn := w.many
  obtain ⟨rows, h1, h2⟩ := perm_map_pick (sortD_perm ((uniqL (piecesL n ks)).map tupD))
  refine ⟨rows, ?_, h1.length_eq⟩
  apply Ev.eq
  unfold F_all_pieces
  rw [ev_fnN]
  unfold b_all_pieces
  show Rn _ [.dat (webD n ks), .un] _
  simp [rn_mComp, wipeC]
  rw [gRg_to (by omega)]
  simp only [ev_ok]
  refine comp_mapM (g := fun v => tupD (pieceL n ks v n.toNat)) (fun v hv => ?_) ?_
  · have hv := rgI_mem.mp hv
    simp [setC, wipeC, piece_of_eq w hv]
  · have e : (rgI 0 n).map (fun v => tupD (pieceL n ks v n.toNat)) = (piecesL n ks).map tupD := by
      unfold piecesL
      rw [List.map_map]
      rfl
    rw [e]
    have kd := keysD_rows (piecesL n ks) (fun r hr e => by
      obtain ⟨v, hv, rfl⟩ := List.mem_map.mp hr
      have := piece_self (n := n) (ks := ks) (rgI_mem.mp hv) n.toNat
      rw [e] at this
      cases this)
    have hl : (piecesL n ks).length < 64 := by unfold piecesL; rw [List.length_map, rgI_length]; omega
    simp only [gSetSort, seqOf, kd, if_pos hl, ev_ok, h2]
theorem pieces_one {n : Int} {ks : List (Int × Int)} (w : Web n ks) : decide (1 < (uniqL (piecesL n ks)).length) = !joinedB n ks := by
  have hn := w.many
  cases j : joinedB n ks with
  | true =>
    by_cases h0 : n = 0
    · subst h0
      rfl
    · have all : ∀ r ∈ uniqL (piecesL n ks), r ∈ [rgI 0 n] := fun r hr => by
        obtain ⟨v, hv, rfl⟩ := List.mem_map.mp (uniqL_mem.mp hr)
        rw [joined_pieces w (by omega) j (rgI_mem.mp hv)]
        simp
      have := nodupLe (uniqL_nodup (piecesL n ks)) all
      simp at this
      simp
      omega
  | false =>
    have h0 : 0 < n := by
      apply Classical.byContradiction
      intro z
      have : n = 0 := by omega
      subst this
      simp [joinedB] at j
    obtain ⟨v, hv, ne⟩ := loose_pieces w h0 j
    have := nodupLe (ks := [pieceL n ks v n.toNat, pieceL n ks 0 n.toNat]) (ls := uniqL (piecesL n ks)) (by simp [ne]) fun r hr => by
      simp at hr
      rcases hr with rfl | rfl
      · exact uniqL_mem.mpr (List.mem_map.mpr ⟨v, rgI_mem.mpr hv, rfl⟩)
      · exact uniqL_mem.mpr (List.mem_map.mpr ⟨0, rgI_mem.mpr (by omega), rfl⟩)
    simp at this
    simp
    omega
theorem gEq_ints (r q : List Int) : gEq (.list (r.map .int)) (.list (q.map .int)) = .ok (.bool (decide (r = q))) := by
  have h1 := shaped_ints r
  have h2 := shaped_ints q
  simp only [gEq, h1, h2, Bool.and_self, if_true, PyData.eqv, eqv_row]
theorem gIx_lastL {l : List Int} (h : l ≠ []) (hl : l.length ≤ 100000) : gIx (.list (l.map .int)) (.int (-1)) = .ok (.int (l.getLastD 0)) := by
  rcases List.eq_nil_or_concat l with e | ⟨q, p, e⟩
  · exact absurd e h
  · rw [List.concat_eq_append] at e
    subst e
    rw [List.getLastD_concat]
    have := gIx_last (q := q) (p := p) (by simp at hl; omega)
    simpa only [tupD, gIx] using this
theorem sorted_counts {n : Int} (ks : List (Int × Int)) : ∃ cs : List Int, sortD (((rgI 0 n).map fun v => (cnt v ks : Int)).map .int) = cs.map .int ∧ cs.Perm ((rgI 0 n).map fun v => (cnt v ks : Int)) ∧ cs.Pairwise (· ≤ ·) := sort_ints' _
theorem fate_eq {n : Int} {ks : List (Int × Int)} (w : Web n ks) (j : joinedB n ks = true) {cs : List Int} (hc : sortD (((rgI 0 n).map fun v => (cnt v ks : Int)).map .int) = cs.map .int) (hp : cs.Perm ((rgI 0 n).map fun v => (cnt v ks : Int))) : F_fate [webD n ks] = .ok (fateV n ks.length cs) := by
  have hn := w.many
  have len : (cs.length : Int) = n := by rw [hp.length_eq, List.length_map, rgI_length]; omega
  obtain ⟨rows, h1, h2⟩ := all_pieces_eq w
  have p1 := pieces_one w
  rw [← h2, j] at p1
  have p1 : ¬ 1 < rows.length := by simpa using p1
  have kl := w.len
  apply Ev.eq
  unfold F_fate
  rw [ev_fnD]
  unfold b_fate
  show Rn _ [.dat (webD n ks), .un] _
  refine seq_cut (fun c => c = [.dat (webD n ks), .un]) (by simp [need_ok w]) ?_
  rintro c rfl
  refine seq_cut (fun c => c = [.dat (webD n ks), .un]) ?_ ?_
  · have : ¬ (1 : Int) < rows.length := by omega
    simp [h1, this]
    try omega
  rintro c rfl
  refine seq_cut (fun c => c = [.dat (webD n ks), .dat (.list (cs.map .int))]) ?_ ?_
  · simp [counts_of_eq (n := n) (ks := ks) (by omega), counts_eq w]
    have := gSorted_ints ((rgI 0 n).map fun v => (cnt v ks : Int))
    rw [List.map_map] at this hc
    rw [show (PyData.int ∘ fun v => ((cnt v ks : Nat) : Int)) = fun v => PyData.int (cnt v ks) from rfl] at this hc
    first
      | (rw [this, hc]; simp)
      | (simp only [Function.comp_def] at *; rw [this, hc]; simp)
  rintro c rfl
  unfold fateV
  by_cases h0 : n = 0
  · subst h0
    refine seq_rt (d := goneD 0) ?_
    simp [goneD]
  have ne : cs ≠ [] := fun e => by rw [e] at len; simp at len; omega
  have hl := gIx_lastL ne (by omega)
  generalize cs.getLastD 0 = m at hl ⊢
  by_cases h3 : m < 3
  · by_cases he : (ks.length : Int) = n - 1
    · rw [if_pos (.inr ⟨h3, he⟩)]
      refine seq_rt (d := goneD n) ?_
      simp [h0, hl, h3, he, goneD]
    · rw [if_neg (by rintro (z | ⟨_, z⟩); exact h0 z; exact he z), if_pos h3]
      refine seq_cut (fun c => c = [.dat (webD n ks), .dat (.list (cs.map .int))]) (by simp [h0, hl, h3, he]) ?_
      rintro c rfl
      refine seq_rt (d := staysD n) ?_
      simp [hl, h3, staysD]
  · rw [if_neg (by rintro (z | ⟨z, _⟩); exact h0 z; exact h3 z), if_neg h3]
    refine seq_cut (fun c => c = [.dat (webD n ks), .dat (.list (cs.map .int))]) (by simp [h0, hl, h3]) ?_
    rintro c rfl
    refine seq_cut (fun c => c = [.dat (webD n ks), .dat (.list (cs.map .int))]) (by simp [hl, h3]) ?_
    rintro c rfl
    have ge := gEq_ints cs [1, 1, 1, 3]
    simp only [List.map_cons, List.map_nil] at ge
    by_cases e : cs = [1, 1, 1, 3]
    · rw [if_pos e]
      refine seq_rt (d := staysD 3) ?_
      rw [rn_mIfS]
      simp only [rn_mTest, rn_mOp2, rn_mVar, List.getElem?_cons_succ, List.getElem?_cons_zero, onVar_dat, rn_mOfN, rn_mLst, rn_mCons, rn_mNil, rn_mC, ev_ok]
      have ge2 : gEq (.list [.int 1, .int 1, .int 1, .int 3]) (.list [.int 1, .int 1, .int 1, .int 3]) = .ok (.bool true) := rfl
      simp [ge2, e, staysD]
    · rw [if_neg e]
      refine seq_cut (fun c => c = [.dat (webD n ks), .dat (.list (cs.map .int))]) (by simp [ge, e]) ?_
      rintro c rfl
      simp [growsD]
end Td
set_option Elab.async false
set_option linter.all false
set_option maxRecDepth 100000
namespace Td
open PySem PySem.Spec PyProof.Rows L2 TW
structure Ties (m : Int) (es : List (Int × Int)) : Prop where
  nd : es.Nodup
  ok : ∀ p ∈ es, 0 ≤ p.1 ∧ p.1 < p.2 ∧ p.2 < m
  few : es.length ≤ 20
theorem Ties.add {m : Int} {es : List (Int × Int)} (h : Ties m es) (hl : es.length ≤ 19) {p : Int × Int} (hp : p ∉ es) (ok : 0 ≤ p.1 ∧ p.1 < p.2 ∧ p.2 < m) : Ties m (es ++ [p]) :=
  ⟨List.nodup_append.mpr ⟨h.nd, by simp, fun a ha b hb e => by rw [List.mem_singleton.mp hb] at e; subst e; exact hp ha⟩, fun q hq => by
    rcases List.mem_append.mp hq with z | z
    · exact h.ok q z
    · rw [List.mem_singleton.mp z]; exact ok, by rw [List.length_append, List.length_singleton]; omega⟩
end Td
set_option Elab.async false
set_option linter.all false
set_option maxRecDepth 100000
namespace Td
open PySem PySem.Spec PyProof.Rows L2 TW
def inC (c : List Int) (p : Int × Int) : Bool := decide (p.1 ∈ c) && decide (p.2 ∈ c)
def leftL (ks : List (Int × Int)) (so : List (List Int)) : List (Int × Int) := ks.filter fun p => !(so.any fun c => inC c p)
def degS (so : List (List Int)) (x : Int) : Nat := so.countP fun o => decide (x ∈ o)
def mayB (so : List (List Int)) (c : List Int) : Bool := (so.all fun o => decide ((c.filter fun x => decide (x ∈ o)).length ≤ 1)) && (c.all fun x => decide (degS so x ≤ 1))
def nextsL (ks : List (Int × Int)) (cs : List (List Int)) (so : List (List Int)) : List (List (List Int)) := match leftL ks so with
  | [] => []
  | p :: _ => (cs.filter fun c => inC c p && mayB so c).map fun c => so ++ [c]
def dfsL (ks : List (Int × Int)) (cs : List (List Int)) : Nat → List (List Int) → List (List (List Int))
  | 0, _ => []
  | f + 1, so => if leftL ks so = [] then [so] else (nextsL ks cs so).flatMap (dfsL ks cs f)
def begunL (ks : List (Int × Int)) (cs : List (List Int)) : Nat → List (List (List Int))
  | 0 => [[]]
  | t + 1 => (begunL ks cs t).flatMap (nextsL ks cs)
def leafB (ks : List (Int × Int)) (so : List (List Int)) : Bool := decide (leftL ks so = [])
def foundL (ks : List (Int × Int)) (cs : List (List Int)) : Nat → List (List (List Int))
  | 0 => []
  | t + 1 => foundL ks cs t ++ (begunL ks cs t).filter (leafB ks)
section
variable {ks : List (Int × Int)} {cs : List (List Int)}
theorem next_leaf {so : List (List Int)} (h : leftL ks so = []) : nextsL ks cs so = [] := by unfold nextsL; rw [h]
theorem dfs_step (f : Nat) : ∀ l : List (List (List Int)), (l.flatMap (dfsL ks cs (f + 1))).Perm (l.filter (leafB ks) ++ (l.flatMap (nextsL ks cs)).flatMap (dfsL ks cs f))
  | [] => .nil
  | so :: l => by
    have ih := dfs_step f l
    by_cases h : leftL ks so = []
    · have e1 : dfsL ks cs (f + 1) so = [so] := by unfold dfsL; rw [if_pos h]
      rw [List.flatMap_cons, e1, List.flatMap_cons, next_leaf h, List.filter_cons_of_pos (by simp [leafB, h])]
      exact ih.cons so
    · have e1 : dfsL ks cs (f + 1) so = (nextsL ks cs so).flatMap (dfsL ks cs f) := by
        conv => lhs; unfold dfsL
        rw [if_neg h]
      rw [List.flatMap_cons, e1, List.flatMap_cons, List.filter_cons_of_neg (by simp [leafB, h]), List.flatMap_append]
      refine (List.Perm.append_left _ ih).trans ?_
      rw [← List.append_assoc, ← List.append_assoc]
      exact List.perm_append_comm.append_right _
theorem dfs_bfs : ∀ (t f : Nat), (dfsL ks cs (t + f) []).Perm (foundL ks cs t ++ (begunL ks cs t).flatMap (dfsL ks cs f))
  | 0, f => by
    rw [Nat.zero_add]
    show List.Perm _ ([] ++ (dfsL ks cs f [] ++ []))
    rw [List.nil_append, List.append_nil]
  | t + 1, f => by
    have ih := dfs_bfs t (f + 1)
    rw [show t + 1 + f = t + (f + 1) by omega]
    refine ih.trans ?_
    show List.Perm _ ((foundL ks cs t ++ (begunL ks cs t).filter (leafB ks)) ++ ((begunL ks cs t).flatMap (nextsL ks cs)).flatMap (dfsL ks cs f))
    rw [List.append_assoc]
    exact List.Perm.append_left _ (dfs_step f _)
theorem left_next {so : List (List Int)} {s : List (List Int)} (h : s ∈ nextsL ks cs so) : (leftL ks s).length + 1 ≤ (leftL ks so).length := by
  unfold nextsL at h
  cases e : leftL ks so with
  | nil => rw [e] at h; cases h
  | cons p r =>
    rw [e] at h
    obtain ⟨c, hc, rfl⟩ := List.mem_map.mp h
    have hc := (List.mem_filter.mp hc).2
    rw [Bool.and_eq_true] at hc
    rw [← e]
    have hp : p ∈ leftL ks so := by rw [e]; simp
    obtain ⟨hp1, hp2⟩ := List.mem_filter.mp hp
    unfold leftL
    rw [← List.countP_eq_length_filter, ← List.countP_eq_length_filter]
    refine countP_more (fun q hq => ?_) hp1 ?_ hp2
    · simp only [List.any_append, Bool.not_or, Bool.and_eq_true] at hq
      exact hq.1
    · simp [hc.1]
theorem begun_left : ∀ (t : Nat) {so : List (List Int)}, so ∈ begunL ks cs t → (leftL ks so).length + t ≤ ks.length
  | 0, so, h => List.length_filter_le _ _
  | t + 1, so, h => by
    obtain ⟨s, hs, h⟩ := List.mem_flatMap.mp h
    have a := begun_left t hs
    have b := left_next h
    omega
theorem begun_end {t : Nat} (h : ks.length < t) : begunL ks cs t = [] := List.eq_nil_iff_forall_not_mem.mpr fun s hs => by
  have := begun_left t hs
  omega
theorem dfs_found {t f : Nat} (h : begunL ks cs t = []) : (dfsL ks cs (t + f) []).Perm (foundL ks cs t) := by
  have := dfs_bfs (ks := ks) (cs := cs) t f
  rw [h] at this
  simpa using this
end
def needR (a b : Nat) (t : Nat) (r : List Int) : Bool := (decide (t ≤ a) || decide ((a : Int) ∈ r)) && (decide (t ≤ b) || decide ((b : Int) ∈ r))
def wR (t : Nat) (r : List Int) : Nat := 3 ^ (t - r.length)
def wS (a b t : Nat) (l : List (List Int)) : Nat := ((l.filter (needR a b t)).map (wR t)).sum
def wB (a b : Nat) : Nat → Nat
  | 0 => 1
  | t + 1 => if t = a ∨ t = b then wB a b t else 4 * wB a b t
theorem wB_few : ∀ n < 8, ∀ b < n, ∀ a < b, wB a b n ≤ 3 ^ n := by decide
theorem sum_le_map {α : Type} {f g : α → Nat} : ∀ {l : List α}, (∀ x ∈ l, f x ≤ g x) → (l.map f).sum ≤ (l.map g).sum
  | [], _ => Nat.le_refl _
  | x :: l, h => by
    simp only [List.map_cons, List.sum_cons]
    have := h x List.mem_cons_self
    have := sum_le_map fun y hy => h y (List.mem_cons_of_mem _ hy)
    omega
theorem sum_sub {α : Type} {f : α → Nat} {s t : α → Bool} (h : ∀ x, s x = true → t x = true) : ∀ l : List α, ((l.filter s).map f).sum ≤ ((l.filter t).map f).sum
  | [] => Nat.le_refl _
  | x :: l => by
    have ih := sum_sub (f := f) h l
    cases a : s x with
    | true => rw [List.filter_cons_of_pos a, List.filter_cons_of_pos (h x a)]; simp only [List.map_cons, List.sum_cons]; omega
    | false =>
      rw [List.filter_cons_of_neg (by simp [a])]
      cases b : t x with
      | true => rw [List.filter_cons_of_pos b]; simp only [List.map_cons, List.sum_cons]; omega
      | false => rw [List.filter_cons_of_neg (by simp [b])]; exact ih
theorem sum_mul {α : Type} {f : α → Nat} (k : Nat) : ∀ l : List α, (l.map fun x => k * f x).sum = k * (l.map f).sum
  | [] => rfl
  | x :: l => by simp only [List.map_cons, List.sum_cons, sum_mul k l, Nat.mul_add]
theorem wS_rows (ks : List (Int × Int)) (a b : Nat) : ∀ t : Nat, wS a b t (rowsL ks t) ≤ wB a b t
  | 0 => by
    unfold wS rowsL
    refine Nat.le_trans (sum_sub (t := fun _ => true) (fun _ _ => rfl) _) ?_
    simp [wR, wB]
  | t + 1 => by
    have ih := wS_rows ks a b t
    have len : ∀ r ∈ rowsL ks t, r.length ≤ t := fun r hr => by have := (rowsL_mem.mp hr).len (by omega); omega
    have lt : ∀ r ∈ rowsL ks t, (t : Int) ∉ r := fun r hr h => by have := (rowsL_mem.mp hr).ran _ h; omega
    have key : wS a b (t + 1) (rowsL ks (t + 1)) ≤ wS a b (t + 1) (rowsL ks t) + wS a b t (rowsL ks t) := by
      unfold wS
      simp only [rowsL, List.filter_append, List.map_append, List.sum_append]
      refine Nat.add_le_add_left ?_ _
      rw [List.filter_map, List.map_map, List.filter_filter]
      refine Nat.le_trans (sum_sub (t := needR a b t) (fun r hr => ?_) _) (sum_le_map fun r hr => ?_)
      · rw [Bool.and_eq_true] at hr
        have hr := hr.1
        simp only [Function.comp, needR, Bool.and_eq_true, Bool.or_eq_true, decide_eq_true_eq, List.mem_append, List.mem_singleton] at hr ⊢
        obtain ⟨h1, h2⟩ := hr
        exact ⟨by rcases h1 with h | h | h; exact .inl (by omega); exact .inr h; exact .inl (by omega), by rcases h2 with h | h | h; exact .inl (by omega); exact .inr h; exact .inl (by omega)⟩
      · simp only [Function.comp, wR, List.length_append, List.length_singleton]
        rw [show t + 1 - (r.length + 1) = t - r.length by omega]
        exact Nat.le_refl _
    show _ ≤ wB a b (t + 1)
    unfold wB
    by_cases h : t = a ∨ t = b
    · rw [if_pos h]
      have zero : wS a b (t + 1) (rowsL ks t) = 0 := by
        unfold wS
        rw [List.filter_eq_nil_iff.mpr]
        · rfl
        · intro r hr q
          have := lt r hr
          simp only [needR, Bool.and_eq_true, Bool.or_eq_true, decide_eq_true_eq] at q
          rcases h with e | e
          · subst e
            rcases q.1 with z | z
            · omega
            · exact this z
          · subst e
            rcases q.2 with z | z
            · omega
            · exact this z
      omega
    · rw [if_neg h]
      have three : wS a b (t + 1) (rowsL ks t) ≤ 3 * wS a b t (rowsL ks t) := by
        unfold wS
        rw [← sum_mul]
        refine Nat.le_trans (sum_sub (t := needR a b t) (fun r hr => ?_) _) (sum_le_map fun r hr => ?_)
        · simp only [needR, Bool.and_eq_true, Bool.or_eq_true, decide_eq_true_eq] at hr ⊢
          exact ⟨hr.1.imp (by omega) id, hr.2.imp (by omega) id⟩
        · have := len r (List.mem_filter.mp hr).1
          unfold wR
          rw [show t + 1 - r.length = (t - r.length) + 1 by omega, Nat.pow_succ, Nat.mul_comm]
          exact Nat.le_refl _
      omega
end Td
set_option Elab.async false
set_option linter.all false
set_option maxRecDepth 100000
namespace Td
open PySem PySem.Spec PyProof.Rows L2 TW
theorem perm_sumN {l m : List Nat} (h : l.Perm m) : l.sum = m.sum := by
  induction h with
  | nil => rfl
  | cons x _ ih => simp [ih]
  | swap x y l => simp only [List.sum_cons]; omega
  | trans _ _ a b => rw [a, b]
theorem sum_addN {α : Type} (f g : α → Nat) : ∀ l : List α, (l.map fun x => f x + g x).sum = (l.map f).sum + (l.map g).sum
  | [] => rfl
  | x :: l => by simp only [List.map_cons, List.sum_cons, sum_addN f g l]; omega
theorem sum_bound {α : Type} {f : α → Nat} {k : Nat} : ∀ {l : List α}, (∀ x ∈ l, f x ≤ k) → (l.map f).sum ≤ l.length * k
  | [], _ => by simp
  | x :: l, h => by
    have a := h x List.mem_cons_self
    have b := sum_bound (k := k) fun y hy => h y (List.mem_cons_of_mem x hy)
    simp only [List.map_cons, List.sum_cons, List.length_cons, Nat.succ_mul]
    omega
theorem sum_ind {α : Type} (t : α → Bool) : ∀ l : List α, (l.map fun x => if t x = true then 1 else 0).sum = (l.filter t).length
  | [] => rfl
  | x :: l => by
    have ih := sum_ind t l
    cases a : t x with
    | true => rw [List.filter_cons_of_pos a]; simp only [List.map_cons, List.sum_cons, a, if_true, ih, List.length_cons]; omega
    | false => rw [List.filter_cons_of_neg (by simp [a])]; simp only [List.map_cons, List.sum_cons, a, Bool.false_eq_true, if_false, ih]; omega
structure Part (n : Int) (ks : List (Int × Int)) (so : List (List Int)) : Prop where
  crow : ∀ c ∈ so, Crow n ks c ∧ 2 ≤ c.length
  two : ∀ x, degS so x ≤ 2
def usedS (n : Int) (so : List (List Int)) : Nat := ((rgI 0 n).map fun x => degS so x).sum
def capS (n : Int) (so : List (List Int)) : Nat := 2 * n.toNat - usedS n so
theorem deg_add (so : List (List Int)) (c : List Int) (x : Int) : degS (so ++ [c]) x = degS so x + if decide (x ∈ c) = true then 1 else 0 := by
  unfold degS
  rw [List.countP_append]
  congr 1
  by_cases h : x ∈ c <;> simp [h]
theorem Crow.nd {n : Int} {ks : List (Int × Int)} {c : List Int} (h : Crow n ks c) : c.Nodup := up_nodup h.up
theorem used_add {n : Int} {ks : List (Int × Int)} {so : List (List Int)} {c : List Int} (h : Crow n ks c) : usedS n (so ++ [c]) = usedS n so + c.length := by
  unfold usedS
  rw [show ((rgI 0 n).map fun x => degS (so ++ [c]) x) = (rgI 0 n).map fun x => degS so x + if decide (x ∈ c) = true then 1 else 0 from List.map_congr_left fun x _ => deg_add so c x]
  rw [sum_addN, sum_ind]
  congr 1
  refine List.Perm.length_eq ((List.perm_ext_iff_of_nodup ((rgI_nodup 0 n).sublist List.filter_sublist) h.nd).mpr fun x => ?_)
  rw [List.mem_filter, rgI_mem, decide_eq_true_eq]
  exact ⟨fun z => z.2, fun z => ⟨h.ran x z, z⟩⟩
theorem Part.used {n : Int} {ks : List (Int × Int)} {so : List (List Int)} (h : Part n ks so) : usedS n so ≤ 2 * n.toNat := by
  unfold usedS
  have := sum_bound (f := fun x => degS so x) (k := 2) (l := rgI 0 n) fun x _ => h.two x
  rw [rgI_length] at this
  omega
theorem Part.nil {n : Int} {ks : List (Int × Int)} : Part n ks [] := ⟨by simp, fun x => by simp [degS]⟩
theorem Part.add {n : Int} {ks : List (Int × Int)} {so : List (List Int)} (h : Part n ks so) {c : List Int} (hc : Crow n ks c) (h2 : 2 ≤ c.length) (hm : mayB so c = true) : Part n ks (so ++ [c]) := by
  unfold mayB at hm
  simp only [Bool.and_eq_true, List.all_eq_true, decide_eq_true_eq] at hm
  refine ⟨fun d hd => ?_, fun x => ?_⟩
  · rcases List.mem_append.mp hd with z | z
    · exact h.crow d z
    · rw [List.mem_singleton.mp z]; exact ⟨hc, h2⟩
  · rw [deg_add]
    by_cases hx : x ∈ c
    · have := hm.2 x hx
      simp only [hx, decide_true, if_true]
      omega
    · have := h.two x
      simp only [hx, decide_false, Bool.false_eq_true, if_false]
      omega
section
variable {n : Int} {ks : List (Int × Int)} {cs : List (List Int)}
theorem part_next (hcs : ∀ c ∈ cs, Crow n ks c ∧ 2 ≤ c.length) {so s : List (List Int)} (h : Part n ks so) (hs : s ∈ nextsL ks cs so) : Part n ks s := by
  unfold nextsL at hs
  split at hs
  · cases hs
  · obtain ⟨c, hc, rfl⟩ := List.mem_map.mp hs
    obtain ⟨c1, c2⟩ := List.mem_filter.mp hc
    rw [Bool.and_eq_true] at c2
    exact h.add (hcs c c1).1 (hcs c c1).2 c2.2
theorem part_begun (hcs : ∀ c ∈ cs, Crow n ks c ∧ 2 ≤ c.length) : ∀ (t : Nat), ∀ so ∈ begunL ks cs t, Part n ks so
  | 0, so, h => by rw [List.mem_singleton.mp h]; exact Part.nil
  | t + 1, so, h => by
    obtain ⟨s, hs, h⟩ := List.mem_flatMap.mp h
    exact part_next hcs (part_begun hcs t s hs) h
theorem kraft (w : Web n ks) (hn : n ≤ 7) (hp : cs.Perm (crowds0 n ks)) {so : List (List Int)} (h : Part n ks so) : ((nextsL ks cs so).map fun s => 3 ^ capS n s).sum ≤ 3 ^ capS n so := by
  have wn := w.many
  have hcs : ∀ c ∈ cs, Crow n ks c ∧ 2 ≤ c.length := fun c hc => (crowds0_mem wn.1).mp (hp.mem_iff.mp hc)
  unfold nextsL
  cases e : leftL ks so with
  | nil => simp
  | cons p r =>
    have pk : p ∈ ks := (List.mem_filter.mp (show p ∈ leftL ks so by rw [e]; simp)).1
    have rp := w.ties p pk
    simp only
    rw [List.map_map]
    let F := cs.filter fun c => inC c p && mayB so c
    have facts : ∀ c ∈ F, c.length ≤ n.toNat ∧ c.length ≤ capS n so ∧ capS n (so ++ [c]) = capS n so - c.length := fun c hc => by
      obtain ⟨c1, c2⟩ := List.mem_filter.mp hc
      rw [Bool.and_eq_true] at c2
      have h1 := (hcs c c1).1
      have h2 := h1.len wn.1
      have h3 := (h.add h1 (hcs c c1).2 c2.2).used
      rw [used_add h1] at h3
      unfold capS
      rw [used_add h1]
      omega
    have s1 : (F.map ((fun s => 3 ^ capS n s) ∘ fun c => so ++ [c])).sum * 3 ^ n.toNat = 3 ^ capS n so * (F.map (wR n.toNat)).sum := by
      rw [Nat.mul_comm, ← sum_mul, ← sum_mul]
      congr 1
      refine List.map_congr_left fun c hc => ?_
      obtain ⟨f1, f2, f3⟩ := facts c hc
      simp only [Function.comp, wR, f3]
      rw [← Nat.pow_add, ← Nat.pow_add]
      congr 1
      omega
    have s2 : (F.map (wR n.toNat)).sum ≤ 3 ^ n.toNat := by
      have a1 : (F.map (wR n.toNat)).sum ≤ ((cs.filter fun c => inC c p).map (wR n.toNat)).sum := sum_sub (fun c hc => by rw [Bool.and_eq_true] at hc; exact hc.1) cs
      have a2 : ((cs.filter fun c => inC c p).map (wR n.toNat)).sum = (((crowds0 n ks).filter fun c => inC c p).map (wR n.toNat)).sum := perm_sumN ((hp.filter _).map _)
      have a3 : (((crowds0 n ks).filter fun c => inC c p).map (wR n.toNat)).sum ≤ wS p.1.toNat p.2.toNat n.toNat (rowsL ks n.toNat) := by
        unfold crowds0 wS
        rw [List.filter_filter]
        refine sum_sub (fun c hc => ?_) _
        rw [Bool.and_eq_true] at hc
        have hc := hc.1
        unfold inC at hc
        simp only [Bool.and_eq_true, decide_eq_true_eq] at hc
        unfold needR
        rw [show ((p.1.toNat : Nat) : Int) = p.1 by omega, show ((p.2.toNat : Nat) : Int) = p.2 by omega]
        simp [hc.1, hc.2]
      have a4 := wS_rows ks p.1.toNat p.2.toNat n.toNat
      have a5 := wB_few n.toNat (by omega) p.2.toNat (by omega) p.1.toNat (by omega)
      omega
    have pos : 0 < 3 ^ n.toNat := Nat.pow_pos (by decide)
    refine Nat.le_of_mul_le_mul_right (c := 3 ^ n.toNat) ?_ pos
    show (F.map ((fun s => 3 ^ capS n s) ∘ fun c => so ++ [c])).sum * 3 ^ n.toNat ≤ _
    rw [s1]
    exact Nat.mul_le_mul_left _ s2
theorem cap_nil : capS n [] = 2 * n.toNat := by
  unfold capS usedS
  have : ((rgI 0 n).map fun x => degS [] x) = (rgI 0 n).map fun _ => 0 := rfl
  rw [this]
  have z : ∀ l : List Int, (l.map fun _ => 0).sum = 0 := fun l => by induction l with
    | nil => rfl
    | cons x l ih => simp [ih]
  rw [z]
  omega
theorem sum_flat {α β : Type} (f : β → Nat) (g : α → List β) : ∀ l : List α, ((l.flatMap g).map f).sum = (l.map fun x => ((g x).map f).sum).sum
  | [] => rfl
  | x :: l => by rw [List.flatMap_cons, List.map_append, List.sum_append, sum_flat f g l]; rfl
theorem level_few (w : Web n ks) (hn : n ≤ 7) (hp : cs.Perm (crowds0 n ks)) : ∀ t : Nat, ((begunL ks cs t).map fun s => 3 ^ capS n s).sum + (foundL ks cs t).length ≤ 3 ^ (2 * n.toNat)
  | 0 => by
    show (([[]] : List (List (List Int))).map fun s => 3 ^ capS n s).sum + 0 ≤ _
    simp [cap_nil]
  | t + 1 => by
    have wn := w.many
    have hcs : ∀ c ∈ cs, Crow n ks c ∧ 2 ≤ c.length := fun c hc => (crowds0_mem wn.1).mp (hp.mem_iff.mp hc)
    have ih := level_few w hn hp t
    have e1 : (foundL ks cs (t + 1)).length = (foundL ks cs t).length + ((begunL ks cs t).filter (leafB ks)).length := List.length_append
    have e2 : ((begunL ks cs (t + 1)).map fun s => 3 ^ capS n s).sum = ((begunL ks cs t).map fun so => ((nextsL ks cs so).map fun s => 3 ^ capS n s).sum).sum := sum_flat _ _ _
    have e3 : ((begunL ks cs t).map fun so => ((nextsL ks cs so).map fun s => 3 ^ capS n s).sum + if leafB ks so = true then 1 else 0).sum ≤ ((begunL ks cs t).map fun s => 3 ^ capS n s).sum := sum_le_map fun so hso => by
      have part := part_begun hcs t so hso
      by_cases hl : leafB ks so = true
      · rw [if_pos hl, next_leaf (of_decide_eq_true hl)]
        have : 0 < 3 ^ capS n so := Nat.pow_pos (by decide)
        simp
        omega
      · rw [if_neg hl]
        exact kraft w hn hp part
    rw [sum_addN, sum_ind] at e3
    omega
theorem pow14 {n : Int} (hn : n ≤ 7) : 3 ^ (2 * n.toNat) ≤ 4782969 := by
  have := Nat.pow_le_pow_right (n := 3) (by decide) (show 2 * n.toNat ≤ 14 by omega)
  have e : (3 : Nat) ^ 14 = 4782969 := by decide
  omega
theorem begun_few (w : Web n ks) (hn : n ≤ 7) (hp : cs.Perm (crowds0 n ks)) (t : Nat) : (begunL ks cs t).length + (foundL ks cs t).length ≤ 4782969 := by
  have h1 := level_few w hn hp t
  have h2 : (begunL ks cs t).length ≤ ((begunL ks cs t).map fun s => 3 ^ capS n s).sum := by
    have : ∀ l : List (List (List Int)), l.length ≤ (l.map fun s => 3 ^ capS n s).sum := fun l => by
      induction l with
      | nil => simp
      | cons x l ih =>
        have : 0 < 3 ^ capS n x := Nat.pow_pos (by decide)
        simp only [List.length_cons, List.map_cons, List.sum_cons]
        omega
    exact this _
  have h3 := pow14 hn
  omega
theorem dfs_few (w : Web n ks) (hn : n ≤ 7) (hp : cs.Perm (crowds0 n ks)) : ∀ (f : Nat) {so : List (List Int)}, Part n ks so → (dfsL ks cs f so).length ≤ 3 ^ capS n so
  | 0, so, _ => by simp [dfsL]
  | f + 1, so, h => by
    have wn := w.many
    have hcs : ∀ c ∈ cs, Crow n ks c ∧ 2 ≤ c.length := fun c hc => (crowds0_mem wn.1).mp (hp.mem_iff.mp hc)
    have pos : 0 < 3 ^ capS n so := Nat.pow_pos (by decide)
    unfold dfsL
    split
    · simp only [List.length_singleton]; omega
    · rw [List.length_flatMap]
      exact Nat.le_trans (sum_le_map fun s hs => dfs_few w hn hp f (part_next hcs h hs)) (kraft w hn hp h)
theorem cap_le (hn : n ≤ 7) (so : List (List Int)) : 3 ^ capS n so ≤ 4782969 := by
  have h1 : capS n so ≤ 2 * n.toNat := Nat.sub_le _ _
  exact Nat.le_trans (Nat.pow_le_pow_right (by decide) h1) (pow14 hn)
end
end Td
set_option Elab.async false
set_option linter.all false
set_option maxRecDepth 100000
namespace Td
open PySem PySem.Spec PyProof.Rows L2 TW
theorem comp_mapS {α : Type} {vs is : List Nat} {f : D → R (List D)} {me : M D} {φ : α → D} {c0 : List C} {l : List α} {QL : List D → List C → Prop} (P : List C → Prop) (g : α → D) (h0 : P c0)
    (step : ∀ x ∈ l, ∀ c, P c → Ev (f (φ x)) fun ys => Rn me (setC c is ys) fun d c' => d = g x ∧ P (wipeC c' vs)) (h : ∀ c, P c → QL (l.map g) c) : Rn (compGo vs is f mYes me (l.map φ)) c0 QL := by
  induction l generalizing c0 QL with
  | nil => exact rn_comp_nil.mpr (h c0 h0)
  | cons x xs ih =>
    refine rn_comp_cons.mpr ((step x List.mem_cons_self c0 h0).mono fun ys hy => ?_)
    simp only [rn_mYes, if_true]
    refine hy.mono fun d c ⟨e1, e2⟩ => ?_
    exact ih e2 (fun y hy => step y (List.mem_cons_of_mem _ hy)) fun c' hc' => by rw [e1]; exact h c' hc'
def tiesP (c : List Int) (d : List (Int × Nat)) : List (Int × Int) := d.flatMap fun z => (c.drop (z.2 + 1)).map fun y => (z.1, y)
def tiesL (c : List Int) : List (Int × Int) := tiesP c c.zipIdx
theorem tiesP_add (c : List Int) (d : List (Int × Nat)) (z : Int × Nat) : tiesP c (d ++ [z]) = tiesP c d ++ (c.drop (z.2 + 1)).map fun y => (z.1, y) := by
  unfold tiesP
  rw [List.flatMap_append]
  simp
theorem tiesL_mem {c : List Int} {p : Int × Int} : p ∈ tiesL c ↔ ∃ i j : Nat, i < j ∧ c[i]? = some p.1 ∧ c[j]? = some p.2 := by
  unfold tiesL tiesP
  rw [List.mem_flatMap]
  constructor
  · rintro ⟨⟨x, i⟩, hz, hp⟩
    obtain ⟨y, hy, rfl⟩ := List.mem_map.mp hp
    have h1 := List.mem_zipIdx_iff_getElem?.mp hz
    obtain ⟨k, hk⟩ := List.getElem?_of_mem hy
    rw [List.getElem?_drop] at hk
    exact ⟨i, i + 1 + k, by omega, h1, hk⟩
  · rintro ⟨i, j, hij, h1, h2⟩
    refine ⟨(p.1, i), List.mem_zipIdx_iff_getElem?.mpr h1, List.mem_map.mpr ⟨p.2, ?_, rfl⟩⟩
    refine List.mem_of_getElem? (i := j - (i + 1)) ?_
    rw [List.getElem?_drop, show i + 1 + (j - (i + 1)) = j by omega]
    exact h2
theorem tiesL_in {c : List Int} (h : c.Pairwise (· < ·)) {p : Int × Int} (hp : p.1 < p.2) : decide (p ∈ tiesL c) = inC c p := by
  unfold inC
  rw [Bool.eq_iff_iff, decide_eq_true_eq, Bool.and_eq_true, decide_eq_true_eq, decide_eq_true_eq, tiesL_mem]
  constructor
  · rintro ⟨i, j, _, h1, h2⟩
    exact ⟨List.mem_of_getElem? h1, List.mem_of_getElem? h2⟩
  · rintro ⟨h1, h2⟩
    obtain ⟨i, hi⟩ := List.getElem?_of_mem h1
    obtain ⟨j, hj⟩ := List.getElem?_of_mem h2
    obtain ⟨li, ei⟩ := List.getElem?_eq_some_iff.mp hi
    obtain ⟨lj, ej⟩ := List.getElem?_eq_some_iff.mp hj
    refine ⟨i, j, ?_, hi, hj⟩
    have pw := List.pairwise_iff_getElem.mp h
    apply Classical.byContradiction
    intro q
    by_cases e : i = j
    · subst e; rw [ei] at ej; omega
    · have := pw j i lj li (by omega)
      omega
theorem cut_from {ds : List D} {k : Int} (h : 0 ≤ k) : TW.cutD ds (some k) none = ds.drop k.toNat := by
  unfold TW.cutD
  rw [HT.sIx_none]
  by_cases hk : k.toNat ≤ ds.length
  · have e : HT.sIx ds.length 0 (some k) = k.toNat := by
      unfold HT.sIx
      simp
      rw [if_neg (by omega)]
      omega
    rw [e, List.take_of_length_le (by rw [List.length_drop]; omega)]
  · have e : HT.sIx ds.length 0 (some k) = ds.length := by
      unfold HT.sIx
      simp
      rw [if_neg (by omega)]
      omega
    rw [e]
    rw [List.drop_eq_nil_of_le (by omega), List.drop_eq_nil_of_le (by omega)]
    simp
theorem ties_in_eq {c : List Int} (hl : c.length ≤ 100) : F_ties_in [tupD c] = .ok ((tiesL c).map tieD) := by
  apply Ev.eq
  unfold F_ties_in
  rw [ev_fnN]
  unfold b_ties_in
  show Rn _ [.dat (tupD c), .un, .un, .un, .un] _
  refine seq_cut (fun cs => cs = [.dat (tupD c), .own false [], .un, .un, .un]) (by simp) ?_
  rintro cs rfl
  refine seq_cut (fun cs => ∃ s2 s3, cs = [.dat (tupD c), .own false ((tiesL c).map tieD), s2, s3, .un]) ?_ ?_
  · rw [rn_mFor]
    simp only [rn_mEnum, rn_mVar, List.getElem?_cons_succ, List.getElem?_cons_zero, onVar_dat]
    rw [show tupD c = .tuple (c.map .int) from rfl, gEnum_ints]
    simp only [ev_ok]
    refine for_list (P := fun d cs => d.length ≤ c.length ∧ ∃ s2 s3, cs = [.dat (tupD c), .own false ((tiesP c d).map tieD), s2, s3, .un]) ⟨Nat.zero_le _, .un, .un, rfl⟩ (fun cs h => ⟨rfl, h.2⟩) ?_
    rintro d z rest cs e ⟨_, s2, s3, rfl⟩
    have hd : d.length < c.length := by
      have := congrArg List.length e
      simp only [List.length_zipIdx, List.length_append, List.length_cons] at this
      omega
    have few : (tiesP c d).length ≤ d.length * 100 := by
      unfold tiesP
      refine flat_le (b := 100) d fun z _ => ?_
      rw [List.length_map, List.length_drop]
      omega
    rw [show fTup 2 (zpD [.int (z.2 : Nat), .int z.1]) = .ok [.int (z.2 : Nat), .int z.1] from rfl, ev_ok]
    simp [setC, rn_mComp, wipeC, isOwn, tupD]
    rw [cut_from (by omega), show ((z.2 : Int) + 1).toNat = z.2 + 1 by omega, ← List.map_drop]
    refine comp_mapM (g := fun y => tieD (z.1, y)) (fun y _ => ?_) ?_
    · simp [setC, wipeC, tieD]
    · rw [tiesP_add]
      simp only [List.length_map, List.length_drop, List.length_append, List.length_singleton]
      have lm : ((tiesP c d).map tieD).length = (tiesP c d).length := List.length_map _
      refine ⟨by omega, by omega, .dat (.int z.2), .dat (.int z.1), ?_⟩
      rw [List.map_append, List.map_map]
      rfl
  rintro cs ⟨s2, s3, rfl⟩
  simp
theorem gIn_row (neg : Bool) (x : Int) (c : List Int) : gInX neg (.int x) (tupD c) = .ok (.bool (neg != decide (x ∈ c))) := gIn_intT neg x c
theorem may_join_eq (wD : D) (so : List (List Int)) (c : List Int) (hso : so.length ≤ 1000) (hc : c.length ≤ 1000) : F_may_join [wD, .list (so.map tupD), tupD c] = .ok (.bool (mayB so c)) := by
  apply Ev.eq
  unfold F_may_join
  rw [ev_fnD]
  unfold b_may_join
  show Rn _ [.dat wD, .dat (.list (so.map tupD)), .dat (tupD c), .un, .un] _
  unfold mayB
  rw [rn_mSeq, rn_mFor]
  simp only [rn_mSeq1, rn_mVar, List.getElem?_cons_succ, List.getElem?_cons_zero, onVar_dat, gSeq_list, ev_ok]
  refine for_all (t := fun o => decide ((c.filter fun x => decide (x ∈ o)).length ≤ 1)) (P := fun cs => ∃ s3, cs = [.dat wD, .dat (.list (so.map tupD)), .dat (tupD c), s3, .un]) ⟨.un, rfl⟩ ?_ ?_ ?_
  · rintro o ho cs ⟨s3, rfl⟩
    rw [fName_ok, ev_ok]
    simp [setC, rn_mComp, wipeC, tupD]
    refine comp_filterM (t := fun x => decide (x ∈ o)) (g := .int) (fun x _ => ?_) ?_
    · have := gIn_row false x o
      simp only [tupD] at this
      simp [setC, wipeC, this]
    · by_cases h : (c.filter fun x => decide (x ∈ o)).length ≤ 1
      · have : ¬ (1 : Int) < ((c.filter fun x => decide (x ∈ o)).length : Nat) := by omega
        simp [h, this]
        try omega
      · have : (1 : Int) < ((c.filter fun x => decide (x ∈ o)).length : Nat) := by omega
        simp [h, this]
        try omega
  · rintro h1 cs ⟨s3, rfl⟩
    rw [h1, Bool.true_and]
    simp [rn_mComp, wipeC, tupD]
    refine comp_mapS (P := fun cs => ∃ s3, cs = [.dat wD, .dat (.list (so.map tupD)), .dat (.tuple (c.map .int)), s3, .un]) (g := fun x => .bool (decide (degS so x ≤ 1))) ⟨s3, rfl⟩ (fun x _ cs => ?_) ?_
    · rintro ⟨s3, rfl⟩
      simp [setC, rn_mComp, wipeC]
      refine comp_filterM (t := fun o => decide (x ∈ o)) (g := tupD) (fun o _ => ?_) ?_
      · have := gIn_row false x o
        simp [setC, wipeC, this]
      · have e : ((so.filter fun o => decide (x ∈ o)).map tupD).length = degS so x := by rw [List.length_map, ← List.countP_eq_length_filter]; rfl
        simp only [gLen_list, e, ev_ok, oLt_int]
        by_cases h : degS so x ≤ 1
        · have q : ((degS so x : Nat) : Int) < 2 := by omega
          simp [h, q]
        · have q : ¬ ((degS so x : Nat) : Int) < 2 := by omega
          simp [h, q]
    · rintro cs ⟨s3, rfl⟩
      rw [gAll_map]
      simp
  · rintro h1 cs
    rw [h1, Bool.false_and]
    simp
end Td
set_option Elab.async false
set_option linter.all false
set_option maxRecDepth 100000
namespace Td
open PySem PySem.Spec PyProof.Rows L2 TW
theorem comp_filterS {α : Type} {vs is : List Nat} {f : D → R (List D)} {mt : M Bool} {me : M D} {φ : α → D} {c0 : List C} {l : List α} {QL : List D → List C → Prop} (P : List C → Prop) (t : α → Bool) (g : α → D) (h0 : P c0)
    (step : ∀ x ∈ l, ∀ c, P c → Ev (f (φ x)) fun ys => Rn mt (setC c is ys) fun b c' => b = t x ∧ if b then Rn me c' fun d c2 => d = g x ∧ P (wipeC c2 vs) else P (wipeC c' vs)) (h : ∀ c, P c → QL ((l.filter t).map g) c) : Rn (compGo vs is f mt me (l.map φ)) c0 QL := by
  induction l generalizing c0 QL with
  | nil => exact rn_comp_nil.mpr (h c0 h0)
  | cons x xs ih =>
    refine rn_comp_cons.mpr ((step x List.mem_cons_self c0 h0).mono fun ys hy => hy.mono fun b c ⟨eb, hc⟩ => ?_)
    have ih := fun {c0 Q} h0 h => @ih c0 Q h0 (fun y hy => step y (List.mem_cons_of_mem _ hy)) h
    cases b with
    | true =>
      simp only [if_true] at hc ⊢
      rw [List.filter_cons_of_pos eb.symm] at h
      exact hc.mono fun d c ⟨e1, e2⟩ => ih e2 fun c' hc' => by rw [e1]; exact h c' hc'
    | false =>
      simp only [Bool.false_eq_true, if_false] at hc ⊢
      rw [List.filter_cons_of_neg (by rw [← eb]; exact Bool.false_ne_true)] at h
      exact ih hc h
theorem law_may_join_eq (so : List (List Int)) (c : List Int) (hso : so.length ≤ 1000) (hc : c.length ≤ 1000) : F__law_may_join [.list (so.map tupD), tupD c] = .ok (.bool (mayB so c)) := by
  apply Ev.eq
  unfold F__law_may_join
  rw [ev_fnD]
  unfold b__law_may_join
  show Rn _ [.dat (.list (so.map tupD)), .dat (tupD c), .un, .un] _
  unfold mayB
  rw [rn_mSeq, rn_mFor]
  simp only [rn_mSeq1, rn_mVar, List.getElem?_cons_succ, List.getElem?_cons_zero, onVar_dat, gSeq_list, ev_ok]
  refine for_all (t := fun o => decide ((c.filter fun x => decide (x ∈ o)).length ≤ 1)) (P := fun cs => ∃ s2, cs = [.dat (.list (so.map tupD)), .dat (tupD c), s2, .un]) ⟨.un, rfl⟩ ?_ ?_ ?_
  · rintro o ho cs ⟨s3, rfl⟩
    rw [fName_ok, ev_ok]
    simp [setC, rn_mComp, wipeC, tupD]
    refine comp_filterM (t := fun x => decide (x ∈ o)) (g := .int) (fun x _ => ?_) ?_
    · have := gIn_row false x o
      simp only [tupD] at this
      simp [setC, wipeC, this]
    · by_cases h : (c.filter fun x => decide (x ∈ o)).length ≤ 1
      · have : ¬ (1 : Int) < ((c.filter fun x => decide (x ∈ o)).length : Nat) := by omega
        simp [h, this]
        try omega
      · have : (1 : Int) < ((c.filter fun x => decide (x ∈ o)).length : Nat) := by omega
        simp [h, this]
        try omega
  · rintro h1 cs ⟨s2, rfl⟩
    rw [h1, Bool.true_and]
    show Rn _ _ _
    rw [rn_mSeq, rn_mFor]
    simp only [rn_mSeq1, rn_mVar, List.getElem?_cons_succ, List.getElem?_cons_zero, onVar_dat]
    rw [show tupD c = .tuple (c.map .int) from rfl]
    simp only [gSeq_tuple, ev_ok]
    refine for_all (t := fun x => decide (degS so x ≤ 1)) (P := fun cs => ∃ s2 s3, cs = [.dat (.list (so.map tupD)), .dat (.tuple (c.map .int)), s2, s3]) ⟨s2, .un, rfl⟩ ?_ ?_ ?_
    · rintro x hx cs ⟨s2, s3, rfl⟩
      rw [fName_ok, ev_ok]
      simp [setC, rn_mComp, wipeC]
      refine comp_filterS (P := fun cs => ∃ s2, cs = [.dat (.list (so.map tupD)), .dat (.tuple (c.map .int)), s2, .dat (.int x)]) (t := fun o => decide (x ∈ o)) (g := tupD) ⟨_, rfl⟩ (fun o _ cs => ?_) ?_
      · rintro ⟨s2, rfl⟩
        have := gIn_row false x o
        simp [setC, wipeC, this]
      · rintro cs ⟨s2, rfl⟩
        have e : ((so.filter fun o => decide (x ∈ o)).map tupD).length = degS so x := by rw [List.length_map, ← List.countP_eq_length_filter]; rfl
        simp only [gLen_list, e, ev_ok, oGt_int]
        by_cases h : degS so x ≤ 1
        · have q : ¬ (1 : Int) < ((degS so x : Nat) : Int) := by omega
          simp [h, q]
          try omega
        · have q : (1 : Int) < ((degS so x : Nat) : Int) := by omega
          simp [h, q]
          try omega
    · rintro h2 cs ⟨s2, s3, rfl⟩
      rw [h2]
      simp
    · rintro h2 cs
      rw [h2]
      simp
  · rintro h1 cs
    rw [h1, Bool.false_and]
    simp
def shD (so : List (List Int)) : D := .list (sortD (so.map tupD))
theorem gEq_tiesNil (ks : List (Int × Int)) : gEq (.list (ks.map tieD)) (.list []) = .ok (.bool (decide (ks = []))) := by
  have := gEq_rowsNil (ks.map fun p => [p.1, p.2])
  rw [ties_rows, this]
  congr 2
  cases ks <;> simp
theorem gNe_tiesNil (ks : List (Int × Int)) : gNe (.list (ks.map tieD)) (.list []) = .ok (.bool (!decide (ks = []))) := by
  have := gNe_rowsNil (ks.map fun p => [p.1, p.2])
  rw [ties_rows, this]
  congr 3
  cases ks <;> simp
theorem left_add (ks : List (Int × Int)) (so : List (List Int)) (c : List Int) : (leftL ks so).filter (fun p => !inC c p) = leftL ks (so ++ [c]) := by
  unfold leftL
  rw [List.filter_filter]
  congr 1
  funext p
  simp [List.any_append, Bool.and_comm]
section
variable {n : Int} {ks : List (Int × Int)} {cs : List (List Int)}
theorem dfs_one {so : List (List Int)} {p : Int × Int} {r : List (Int × Int)} (e : leftL ks so = p :: r) (f : Nat) : dfsL ks cs (f + 1) so = (cs.filter fun c => inC c p && mayB so c).flatMap fun c => dfsL ks cs f (so ++ [c]) := by
  conv => lhs; unfold dfsL
  rw [if_neg (by rw [e]; exact List.cons_ne_nil _ _)]
  unfold nextsL
  rw [e]
  simp only
  rw [List.flatMap_map]
theorem behind_eq (w : Web n ks) (hn : n ≤ 7) (hp : cs.Perm (crowds0 n ks)) : ∀ (f : Nat) {so : List (List Int)}, Part n ks so → so.length ≤ 100 → so.length + (leftL ks so).length ≤ 100 → (leftL ks so).length < f →
    F_behind f [webD n ks, .list (cs.map tupD), .list (so.map tupD), .list ((leftL ks so).map tieD)] = .ok (.list ((dfsL ks cs f so).map shD))
  | 0, so, _, _, _, h => by omega
  | f + 1, so, part, hl, hl2, hf => by
    have wn := w.many
    have hcs : ∀ c ∈ cs, Crow n ks c ∧ 2 ≤ c.length := fun c hc => (crowds0_mem wn.1).mp (hp.mem_iff.mp hc)
    apply Ev.eq
    show Ev (fnD 8 (b_behind (F_behind f)) _) _
    rw [ev_fnD]
    unfold b_behind
    show Rn _ [.dat (webD n ks), .dat (.list (cs.map tupD)), .dat (.list (so.map tupD)), .dat (.list ((leftL ks so).map tieD)), .un, .un, .un, .un] _
    have hne : ∀ r ∈ so, r ≠ [] := fun r hr e => by
      have := (part.crow r hr).2
      rw [e] at this
      simp at this
    have ge := gEq_tiesNil (leftL ks so)
    cases e : leftL ks so with
    | nil =>
      refine seq_rt (d := .list [shD so]) ?_
      have gs := gSorted_rows hne
      have ed : dfsL ks cs (f + 1) so = [so] := by unfold dfsL; rw [if_pos e]
      rw [e] at ge
      simp only [List.map_nil] at ge
      simp [ge, gs, shD, ed, Ends1]
    | cons p r =>
      rw [e] at ge
      have hpk : p ∈ ks := (List.mem_filter.mp (show p ∈ leftL ks so by rw [e]; simp)).1
      have rp := w.ties p hpk
      let st (own6 s5 : C) (acc : List D) : List C := [.dat (webD n ks), .dat (.list (cs.map tupD)), .dat (.list (so.map tupD)), .dat (.list ((p :: r).map tieD)), .own false acc, s5, own6, .un]
      refine seq_cut (fun c => c = [.dat (webD n ks), .dat (.list (cs.map tupD)), .dat (.list (so.map tupD)), .dat (.list ((p :: r).map tieD)), .un, .un, .un, .un]) ?_ ?_
      · rw [rn_mIfS]
        simp only [rn_mTest, rn_mOp2, rn_mVar, List.getElem?_cons_succ, List.getElem?_cons_zero, onVar_dat, rn_mOfN, rn_mLst, rn_mNil, List.length_nil, Nat.zero_le, true_and]
        rw [ge]
        simp
      rintro c rfl
      refine seq_cut (fun c => c = st .un .un []) (by simp [st]) ?_
      rintro c rfl
      have few := dfs_few w hn hp (f + 1) part
      have cap := cap_le (n := n) hn so
      refine seq_cut (fun c => ∃ s5 s6, c = st s6 s5 ((dfsL ks cs (f + 1) so).map shD)) ?_ ?_
      · show Rn _ [.dat (webD n ks), .dat (.list (cs.map tupD)), .dat (.list (so.map tupD)), .dat (.list ((p :: r).map tieD)), .own false [], .un, .un, .un] _
        rw [rn_mFor]
        simp only [rn_mSeq1, rn_mVar, List.getElem?_cons_succ, List.getElem?_cons_zero, onVar_dat, gSeq_list, ev_ok]
        refine for_list (P := fun d c => ∃ s5 s6, c = st s6 s5 (((d.filter fun c => inC c p && mayB so c).flatMap fun c => dfsL ks cs f (so ++ [c])).map shD)) ⟨.un, .un, rfl⟩ (fun c h => ⟨rfl, by rw [dfs_one e]; exact h⟩) ?_
        rintro d x rest c' e' ⟨s5, s6, rfl⟩
        rw [fName_ok, ev_ok]
        have hx := hcs x (by rw [e']; simp)
        have xl : x.length ≤ 100 := by have := hx.1.len wn.1; omega
        show Rn _ [.dat (webD n ks), .dat (.list (cs.map tupD)), .dat (.list (so.map tupD)), .dat (.list ((p :: r).map tieD)), .own false _, .dat (tupD x), s6, .un] _
        refine seq_cut (fun c => c = st (.dat (.list ((tiesL x).map tieD))) (.dat (tupD x)) (((d.filter fun c => inC c p && mayB so c).flatMap fun c => dfsL ks cs f (so ++ [c])).map shD)) (by simp [ties_in_eq xl, st]) ?_
        rintro c rfl
        have g1 := gIn_tieL false p (tiesL x)
        rw [tiesL_in hx.1.up rp.2.1] at g1
        have g2 := may_join_eq (webD n ks) so x (by omega) (by omega)
        have ef := congrArg (fun l : List (List Int) => l.filter fun c => inC c p && mayB so c) e'
        skip
        rw [show d ++ x :: rest = (d ++ [x]) ++ rest by simp, List.filter_append] at ef
        have lenx : (((d ++ [x]).filter fun c => inC c p && mayB so c).flatMap fun c => dfsL ks cs f (so ++ [c])).length ≤ 4782969 := by
          refine Nat.le_trans ?_ (Nat.le_trans few cap)
          rw [dfs_one e, ef, List.flatMap_append, List.length_append]
          exact Nat.le_add_right _ _
        have next : ((d ++ [x]).filter fun c => inC c p && mayB so c).flatMap (fun c => dfsL ks cs f (so ++ [c])) = ((d.filter fun c => inC c p && mayB so c).flatMap fun c => dfsL ks cs f (so ++ [c])) ++ if (inC x p && mayB so x) = true then dfsL ks cs f (so ++ [x]) else [] := by
          rw [List.filter_append, List.flatMap_append]
          congr 1
          by_cases z : (inC x p && mayB so x) = true <;> simp [List.filter_cons, z]
        rw [next] at lenx ⊢
        generalize (d.filter fun c => inC c p && mayB so c).flatMap (fun c => dfsL ks cs f (so ++ [c])) = acc at lenx ⊢
        show Rn _ [.dat (webD n ks), .dat (.list (cs.map tupD)), .dat (.list (so.map tupD)), .dat (.list ((p :: r).map tieD)), .own false (acc.map shD), .dat (tupD x), .dat (.list ((tiesL x).map tieD)), .un] _
        cases z1 : inC x p with
        | false =>
          rw [z1] at g1
          simp [g1, st]
        | true =>
          rw [z1] at g1
          cases z2 : mayB so x with
          | false =>
            rw [z2] at g2
            simp [g1, g2, st]
          | true =>
            rw [z2] at g2
            have px := part.add hx.1 hx.2 z2
            have ln : (leftL ks (so ++ [x])).length + 1 ≤ (leftL ks so).length := left_next (cs := [x]) (by unfold nextsL; rw [e]; simp [z1, z2])
            have ih := behind_eq w hn hp f px (by simp; omega) (by simp; omega) (by omega)
            rw [z1, z2] at lenx
            simp only [Bool.and_self, if_true, List.length_append] at lenx
            have la := left_add ks so x
            rw [e] at la
            simp [g1, g2, isOwn, rn_mComp, wipeC]
            rw [gCat_list (by simp; omega)]
            simp only [ev_ok]
            refine comp_filterM (l := p :: r) (φ := tieD) (t := fun q => !inC x q) (g := tieD) (fun q hq => ?_) ?_
            · have rq := w.ties q (List.mem_filter.mp (show q ∈ leftL ks so by rw [e]; exact hq)).1
              have g3 := gIn_tieL true q (tiesL x)
              rw [tiesL_in hx.1.up rq.2.1] at g3
              simp [setC, wipeC, g3]
            · simp only [List.map_append, List.map_cons, List.map_nil] at ih
              rw [la]
              simp [ih, st, isOwn]
              try omega
      rintro c ⟨s5, s6, rfl⟩
      simp [st]
end
end Td
set_option Elab.async false
set_option linter.all false
set_option maxRecDepth 100000
namespace Td
open PySem PySem.Spec PyProof.Rows L2 TW
theorem sh_rows (so : List (List Int)) : ∃ rows : List (List Int), shD so = .list (rows.map tupD) ∧ rows.Perm so := by
  obtain ⟨rows, h1, h2⟩ := perm_map_pick (sortD_perm (so.map tupD))
  exact ⟨rows, by unfold shD; rw [h2], h1⟩
theorem alike_rows : ∀ a b : List (List Int), PySem.W.alikeAll (a.map tupD) (b.map tupD) = true
  | [], _ => by simp [PySem.W.alikeAll]
  | _ :: _, [] => by simp [PySem.W.alikeAll]
  | x :: a, y :: b => by
    simp only [List.map_cons, PySem.W.alikeAll, alike_rows a b, Bool.and_true, tupD, PySem.W.alike]
    exact alike_ints x y
theorem toks_row : ∀ (a b : List Int) (s t : List (Int ⊕ List Nat)), PySem.W.keyToksAll (a.map .int) ++ s = PySem.W.keyToksAll (b.map .int) ++ t → a = b ∧ s = t
  | [], [], s, t, h => by
    simp [PySem.W.keyToksAll] at h
    exact ⟨rfl, h⟩
  | [], y :: b, s, t, h => by simp [PySem.W.keyToksAll] at h
  | x :: a, [], s, t, h => by simp [PySem.W.keyToksAll] at h
  | x :: a, y :: b, s, t, h => by
    simp only [List.map_cons, PySem.W.keyToksAll, PySem.W.keyToks, List.cons_append, List.nil_append, List.cons.injEq, true_and] at h
    obtain ⟨h1, h2⟩ := toks_row a b s t h.2
    have := Sum.inl.inj h.1
    exact ⟨by rw [this, h1], h2⟩
theorem toks_rows : ∀ (a b : List (List Int)), PySem.W.keyToksAll (a.map tupD) = PySem.W.keyToksAll (b.map tupD) → a = b
  | [], [], _ => rfl
  | [], y :: b, h => by simp [PySem.W.keyToksAll] at h
  | x :: a, [], h => by simp [PySem.W.keyToksAll] at h
  | x :: a, y :: b, h => by
    simp only [List.map_cons, PySem.W.keyToksAll, List.cons.injEq, true_and, tupD, PySem.W.keyToks] at h
    obtain ⟨h1, h2⟩ := toks_row x y _ _ h
    rw [h1, toks_rows a b h2]
theorem gSorted_sh (L : List (List (List Int))) : gSorted (.list (L.map shD)) = .ok (sortD (L.map shD)) := by
  refine sort_perm ⟨?_, ?_, ?_⟩
  · simp only [allAlike, List.all_map, List.all_eq_true, Function.comp]
    intro a _ b _
    obtain ⟨ra, ea, _⟩ := sh_rows a
    obtain ⟨rb, eb, _⟩ := sh_rows b
    rw [ea, eb]
    simp only [PySem.W.alike]
    exact alike_rows ra rb
  · unfold sortKind
    rw [Bool.or_eq_true]
    refine .inr ?_
    simp only [List.all_map, List.all_eq_true, Function.comp]
    intro a _
    rfl
  · simp only [shallow, List.all_map, List.all_eq_true, Function.comp, Bool.and_eq_true, decide_eq_true_eq]
    intro a _
    obtain ⟨ra, ea, _⟩ := sh_rows a
    rw [ea]
    refine ⟨?_, shaped_rows ra⟩
    have := depth_rows ra
    simp only [PyData.depth]
    omega
theorem sh_unique {L M : List (List (List Int))} (h : L.Perm M) : sortD (L.map shD) = sortD (M.map shD) := by
  refine sortD_unique (h.map _) fun x hx y hy e => ?_
  obtain ⟨a, _, rfl⟩ := List.mem_map.mp hx
  obtain ⟨b, _, rfl⟩ := List.mem_map.mp hy
  obtain ⟨ra, ea, _⟩ := sh_rows a
  obtain ⟨rb, eb, _⟩ := sh_rows b
  rw [ea, eb] at e ⊢
  simp only [PySem.W.keyToks] at e
  rw [toks_rows ra rb e]
theorem sharings_of_eq {n : Int} {ks : List (Int × Int)} (w : Web n ks) (hn : n ≤ 7) {cs : List (List Int)} (hp : cs.Perm (crowds0 n ks)) (hc : sortD ((crowds0 n ks).map tupD) = cs.map tupD) : F_sharings_of [webD n ks] = .ok (sortD ((dfsL ks cs 40 []).map shD)) := by
  have wn := w.many
  have kl := small_len w hn
  have e0 : leftL ks [] = ks := List.filter_eq_self.mpr fun p _ => by simp
  have b := behind_eq w hn hp 40 (so := []) Part.nil (by simp) (by rw [e0]; simp; omega) (by rw [e0]; omega)
  rw [e0] at b
  simp only [List.map_nil] at b
  have gs := gSorted_sh (dfsL ks cs 40 [])
  apply Ev.eq
  unfold F_sharings_of
  rw [ev_fnN]
  simp [b_sharings_of, unfill, crowds_in_eq (n := n) (ks := ks) (by omega), hc, gList, b, gs]
theorem all_sharings_eq {n : Int} {ks : List (Int × Int)} (w : Web n ks) (hn : n ≤ 7) {cs : List (List Int)} (hp : cs.Perm (crowds0 n ks)) (hc : sortD ((crowds0 n ks).map tupD) = cs.map tupD) : F_all_sharings [webD n ks] = .ok (sortD ((dfsL ks cs 40 []).map shD)) := by
  apply Ev.eq
  unfold F_all_sharings
  rw [ev_fnN]
  simp [b_all_sharings, unfill, need_ok w, need_small_ok hn, sharings_of_eq w hn hp hc]
end Td
set_option Elab.async false
set_option linter.all false
set_option maxRecDepth 100000
namespace Td
open PySem PySem.Spec PyProof.Rows L2 TW
def rD (so : List (List Int)) : D := .list (so.map tupD)
theorem gNe_rNil (L : List (List (List Int))) : gNe (.list (L.map rD)) (.list []) = .ok (.bool (!decide (L = []))) := by
  have h1 : SeqAt.shaped (.list (L.map rD)) = true := shaped_lst.mpr fun x hx => by
    obtain ⟨so, _, rfl⟩ := List.mem_map.mp hx
    have a := shaped_rows so
    have b := depth_rows so
    refine ⟨SeqAt.canLay_of_shaped a, ?_⟩
    simp only [rD, PyData.depth]
    omega
  have h2 : SeqAt.shaped (.list []) = true := shaped_rows []
  cases L with
  | nil => simp [gNe, h2, PyData.eqv, PyData.eqvAll]
  | cons r rs =>
    simp only [List.map_cons] at h1
    simp [gNe, h1, h2, PyData.eqv, PyData.eqvAll]
section
variable {n : Int} {ks : List (Int × Int)} {cs : List (List Int)}
def ls (n : Int) (ks : List (Int × Int)) (cs : List (List Int)) (fo : List (List (List Int))) (s3 : C) (la : List (List (List Int))) (s5 s6 s7 s8 s9 : C) : List C :=
  [.dat (webD n ks), .dat (.list (cs.map tupD)), .own false (fo.map shD), s3, .own false (la.map rD), s5, s6, s7, s8, s9]
def noC (so : List (List Int)) (p : Int × Int) : Bool := !(so.any fun c => inC c p)
theorem noC_eq (so : List (List Int)) (p : Int × Int) : decide (so.filter (fun c => inC c p) = []) = noC so p := by
  unfold noC
  rw [Bool.eq_iff_iff, decide_eq_true_eq, List.filter_eq_nil_iff, Bool.not_eq_true', List.any_eq_false]
abbrev leftFor : MS := mFor [7, 8] (fTup 2) (mSeq1 (mOp2 gIx (mVar 0) (mC (.int 1)))) (mIfS (mTest (mOp2 gEq (mOfN (mComp [9] [9] fName (mSeq1 (mVar 5)) (mAnd (mTest (mOp2 (gInX false) (mVar 7) (vVar 9))) (mTest (mOp2 (gInX false) (mVar 8) (vVar 9)))) (mVar 9))) (mOfN (mLst mNil)))) (mOn 6 (mTup (mCons (mVar 7) (mCons (mVar 8) mNil))) gApp) mNx)
theorem left_for (hk : ks.length ≤ 100) {so : List (List Int)} {fo la : List (List (List Int))} {s3 s7 s8 s9 : C} : Rn leftFor (ls n ks cs fo s3 la (.dat (rD so)) (.own false []) s7 s8 s9) fun f c => f = .nx ∧ ∃ s7 s8 s9, c = ls n ks cs fo s3 la (.dat (rD so)) (.own false ((leftL ks so).map tieD)) s7 s8 s9 := by
  rw [rn_mFor]
  unfold ls
  simp only [rn_mSeq1, rn_mOp2, rn_mVar, List.getElem?_cons_succ, List.getElem?_cons_zero, onVar_dat, rn_mC, gIx_web1, ev_ok, gSeq_tuple]
  refine for_list (P := fun d c => ∃ s7 s8 s9, c = ls n ks cs fo s3 la (.dat (rD so)) (.own false ((d.filter (noC so)).map tieD)) s7 s8 s9) ⟨s7, s8, s9, rfl⟩ (fun c h => ⟨rfl, h⟩) ?_
  rintro d p rest c e ⟨s7, s8, s9, rfl⟩
  have hd : d.length ≤ 100 := by
    have := congrArg List.length e
    rw [List.length_append] at this
    omega
  have hf := List.length_filter_le (noC so) d
  rw [show fTup 2 (tieD p) = .ok [.int p.1, .int p.2] from rfl, ev_ok]
  show Rn _ (ls n ks cs fo s3 la (.dat (rD so)) (.own false ((d.filter (noC so)).map tieD)) (.dat (.int p.1)) (.dat (.int p.2)) s9) _
  rw [rn_mIfS]
  unfold ls
  simp [rn_mComp, wipeC, rD]
  refine comp_filterS (P := fun c => ∃ s9, c = ls n ks cs fo s3 la (.dat (rD so)) (.own false ((d.filter (noC so)).map tieD)) (.dat (.int p.1)) (.dat (.int p.2)) s9) (t := fun c => inC c p) (g := tupD) ⟨_, rfl⟩ (fun o _ c => ?_) ?_
  · rintro ⟨s9, rfl⟩
    have g1 := gIn_row false p.1 o
    have g2 := gIn_row false p.2 o
    unfold ls
    by_cases h1 : p.1 ∈ o <;> by_cases h2 : p.2 ∈ o <;> simp [h1, h2] at g1 g2 <;> simp [setC, wipeC, g1, g2, inC, h1, h2, rD]
  · rintro c ⟨s9, rfl⟩
    rw [gEq_rowsNil, noC_eq]
    simp only [ev_ok, asB_bool]
    have lm : ((d.filter (noC so)).map tieD).length ≤ 100 := by rw [List.length_map]; omega
    cases z : noC so p with
    | false =>
      simp [List.filter_append, z, List.filter_cons]
      exact ⟨_, _, _, rfl⟩
    | true =>
      unfold ls
      simp [List.filter_append, z, List.filter_cons, isOwn]
      refine ⟨by omega, ?_⟩
      exact ⟨rfl, rfl⟩
abbrev leafIf : MS := mIfS (mTest (mOp2 gEq (vVar 6) (mOfN (mLst mNil)))) (mOn 2 (mOfN (mOp1N gSorted (vVar 5))) gApp) mNx
theorem leaf_if {so : List (List Int)} {fo la : List (List (List Int))} {s3 s7 s8 s9 : C} (hne : ∀ r ∈ so, r ≠ []) (hf : fo.length ≤ 5000000) : Rn leafIf (ls n ks cs fo s3 la (.dat (rD so)) (.own false ((leftL ks so).map tieD)) s7 s8 s9) fun f c => f = .nx ∧ c = ls n ks cs (fo ++ if leafB ks so = true then [so] else []) s3 la (.dat (rD so)) (.own false ((leftL ks so).map tieD)) s7 s8 s9 := by
  have g := gEq_tiesNil (leftL ks so)
  have gs := gSorted_rows hne
  rw [rn_mIfS]
  unfold ls
  simp only [rn_mTest, rn_mOp2, rn_vVar, List.getElem?_cons_succ, List.getElem?_cons_zero, onLook_own, rn_mOfN, rn_mLst, rn_mNil, List.length_nil, Nat.zero_le, true_and]
  unfold leafB
  by_cases h : leftL ks so = []
  · rw [decide_eq_true h] at g ⊢
    rw [g]
    simp [isOwn, rD, gs, shD]
    omega
  · rw [decide_eq_false h] at g ⊢
    rw [g]
    simp
abbrev nextFor : MS := mFor [9] fName (mSeq1 (mVar 1)) (mIfS (mAnd (mTest (mOp2 gNe (vVar 6) (mOfN (mLst mNil)))) (mAnd (mTest (mOp2 (gInX false) (mOp2 gIx (mOp2 gIx (vVar 6) (mC (.int 0))) (mC (.int 0))) (vVar 9))) (mTest (mOp2 (gInX false) (mOp2 gIx (mOp2 gIx (vVar 6) (mC (.int 0))) (mC (.int 1))) (vVar 9))))) (mIfS (mTest (mCall 2 F__law_may_join (mCons (mVar 5) (mCons (mVar 9) mNil)))) (mOn 4 (mOp2 gAdd (mVar 5) (mOfN (mLst (mCons (mVar 9) mNil)))) gApp) mNx) mNx)
theorem next_for (hcl : ∀ c ∈ cs, c.length ≤ 1000) {so : List (List Int)} (hs : so.length ≤ 1000) {fo la : List (List (List Int))} {s3 s7 s8 s9 : C} (few : la.length + (nextsL ks cs so).length ≤ 5000000) : Rn nextFor (ls n ks cs fo s3 la (.dat (rD so)) (.own false ((leftL ks so).map tieD)) s7 s8 s9) fun f c => f = .nx ∧ ∃ s9, c = ls n ks cs fo s3 (la ++ nextsL ks cs so) (.dat (rD so)) (.own false ((leftL ks so).map tieD)) s7 s8 s9 := by
  have gn := gNe_tiesNil (leftL ks so)
  rw [rn_mFor]
  unfold ls
  simp only [rn_mSeq1, rn_mVar, List.getElem?_cons_succ, List.getElem?_cons_zero, onVar_dat, gSeq_list, ev_ok]
  cases e : leftL ks so with
  | nil =>
    have e2 : nextsL ks cs so = [] := next_leaf e
    rw [e2, List.append_nil]
    rw [e] at gn
    simp only [List.map_nil, decide_true, Bool.not_true] at gn
    refine for_list (P := fun d c => ∃ s9, c = ls n ks cs fo s3 la (.dat (rD so)) (.own false []) s7 s8 s9) ⟨s9, rfl⟩ (fun c h => ⟨rfl, by obtain ⟨s9, h⟩ := h; exact ⟨s9, by rw [h]; rfl⟩⟩) ?_
    rintro d x rest c e' ⟨s9, rfl⟩
    rw [fName_ok, ev_ok]
    unfold ls
    simp [setC, gn]
  | cons p r =>
    rw [e] at gn
    simp only [List.map_cons, List.cons_ne_nil, decide_false, Bool.not_false] at gn
    have en : ∀ l : List (List Int), (match leftL ks so with | [] => [] | p :: _ => (l.filter fun c => inC c p && mayB so c).map fun c => so ++ [c]) = (l.filter fun c => inC c p && mayB so c).map fun c => so ++ [c] := fun l => by rw [e]
    have en2 : nextsL ks cs so = (cs.filter fun c => inC c p && mayB so c).map fun c => so ++ [c] := by unfold nextsL; exact en cs
    rw [en2] at few ⊢
    refine for_list (P := fun d c => ∃ s9, c = ls n ks cs fo s3 (la ++ (d.filter fun c => inC c p && mayB so c).map fun c => so ++ [c]) (.dat (rD so)) (.own false ((p :: r).map tieD)) s7 s8 s9) ⟨s9, by simp [ls]⟩ (fun c h => ⟨rfl, h⟩) ?_
    rintro d x rest c e' ⟨s9, rfl⟩
    rw [fName_ok, ev_ok]
    have hx := hcl x (by rw [e']; simp)
    have ef := congrArg (fun l : List (List Int) => (l.filter fun c => inC c p && mayB so c).length) e'
    simp only [List.filter_append, List.length_append] at ef
    rw [List.length_map] at few
    have g1 := gIn_row false p.1 x
    have g2 := gIn_row false p.2 x
    have g3 := law_may_join_eq so x hs hx
    show Rn _ (ls n ks cs fo s3 (la ++ (d.filter fun c => inC c p && mayB so c).map fun c => so ++ [c]) (.dat (rD so)) (.own false ((p :: r).map tieD)) s7 s8 (.dat (tupD x))) _
    have next : la ++ ((d ++ [x]).filter fun c => inC c p && mayB so c).map (fun c => so ++ [c]) = (la ++ (d.filter fun c => inC c p && mayB so c).map fun c => so ++ [c]) ++ if (inC x p && mayB so x) = true then [so ++ [x]] else [] := by
      rw [List.filter_append, List.map_append, List.append_assoc]
      congr 2
      by_cases z : (inC x p && mayB so x) = true <;> simp [List.filter_cons, z]
    rw [next]
    have ll : (la ++ (d.filter fun c => inC c p && mayB so c).map fun c => so ++ [c]).length ≤ 5000000 := by rw [List.length_append, List.length_map]; omega
    generalize (la ++ (d.filter fun c => inC c p && mayB so c).map fun c => so ++ [c]) = acc at ll ⊢
    unfold ls
    by_cases h1 : p.1 ∈ x <;> by_cases h2 : p.2 ∈ x <;> simp [h1, h2] at g1 g2
    · have zi : inC x p = true := by simp [inC, h1, h2]
      cases z2 : mayB so x with
      | false =>
        rw [z2] at g3
        simp [gn, g1, g2, g3, zi, rD]
      | true =>
        rw [z2] at g3
        simp [gn, g1, g2, g3, zi, rD, isOwn]
        rw [gCat_list (by simp; omega)]
        simp [rD]
        omega
    · have zi : inC x p = false := by simp [inC, h1, h2]
      simp [gn, g1, g2, zi]
    · have zi : inC x p = false := by simp [inC, h1, h2]
      simp [gn, g1, g2, zi]
    · have zi : inC x p = false := by simp [inC, h1, h2]
      simp [gn, g1, g2, zi]
theorem begun_len : ∀ (t : Nat) {so : List (List Int)}, so ∈ begunL ks cs t → so.length = t
  | 0, so, h => by rw [List.mem_singleton.mp h]; rfl
  | t + 1, so, h => by
    obtain ⟨s, hs, h⟩ := List.mem_flatMap.mp h
    have ih := begun_len t hs
    unfold nextsL at h
    split at h
    · cases h
    · obtain ⟨c, _, rfl⟩ := List.mem_map.mp h
      rw [List.length_append, ih]
      rfl
theorem found_stop {t : Nat} (h : begunL ks cs t = []) : ∀ m : Nat, begunL ks cs (t + m) = [] ∧ foundL ks cs (t + m) = foundL ks cs t
  | 0 => ⟨h, rfl⟩
  | m + 1 => by
    obtain ⟨h1, h2⟩ := found_stop h m
    refine ⟨?_, ?_⟩
    · show (begunL ks cs (t + m)).flatMap (nextsL ks cs) = []
      rw [h1]
      rfl
    · show foundL ks cs (t + m) ++ (begunL ks cs (t + m)).filter (leafB ks) = _
      rw [h1, h2]
      simp
abbrev shBody : MS := mSeq (mSetN 4 (mLst mNil)) (mSeq (mFor [5] fName (mSeq1 (mVar 3)) (mSeq (mSetN 6 (mLst mNil)) (mSeq leftFor (mSeq leafIf nextFor)))) (mSet 3 (mVar 4)))
def lw (n : Int) (ks : List (Int × Int)) (cs : List (List Int)) (t : Nat) (s4 s5 s6 s7 s8 s9 : C) : List C :=
  [.dat (webD n ks), .dat (.list (cs.map tupD)), .own false ((foundL ks cs t).map shD), .dat (.list ((begunL ks cs t).map rD)), s4, s5, s6, s7, s8, s9]
theorem sh_turn (w : Web n ks) (hn : n ≤ 7) (hp : cs.Perm (crowds0 n ks)) {t : Nat} (ht : t ≤ 100) (s4 s5 s6 s7 s8 s9 : C) : Rn shBody (lw n ks cs t s4 s5 s6 s7 s8 s9) fun f c => f = .nx ∧ ∃ s4 s5 s6 s7 s8 s9, c = lw n ks cs (t + 1) s4 s5 s6 s7 s8 s9 := by
  have wn := w.many
  have kl := small_len w hn
  have hcs : ∀ c ∈ cs, Crow n ks c ∧ 2 ≤ c.length := fun c hc => (crowds0_mem wn.1).mp (hp.mem_iff.mp hc)
  have hcl : ∀ c ∈ cs, c.length ≤ 1000 := fun c hc => by have := (hcs c hc).1.len wn.1; omega
  have few := begun_few w hn hp (t + 1)
  refine seq_cut (fun c => c = ls n ks cs (foundL ks cs t) (.dat (.list ((begunL ks cs t).map rD))) [] s5 s6 s7 s8 s9) (by unfold lw ls; simp) ?_
  rintro c rfl
  refine seq_cut (fun c => ∃ s5 s6 s7 s8 s9, c = ls n ks cs (foundL ks cs (t + 1)) (.dat (.list ((begunL ks cs t).map rD))) (begunL ks cs (t + 1)) s5 s6 s7 s8 s9) ?_ ?_
  · rw [rn_mFor]
    unfold ls
    simp only [rn_mSeq1, rn_mVar, List.getElem?_cons_succ, List.getElem?_cons_zero, onVar_dat, gSeq_list, ev_ok]
    refine for_list (P := fun d c => ∃ s5 s6 s7 s8 s9, c = ls n ks cs (foundL ks cs t ++ d.filter (leafB ks)) (.dat (.list ((begunL ks cs t).map rD))) (d.flatMap (nextsL ks cs)) s5 s6 s7 s8 s9) ⟨s5, s6, s7, s8, s9, by simp [ls]⟩ (fun c h => ⟨rfl, h⟩) ?_
    rintro d so rest c e ⟨s5, s6, s7, s8, s9, rfl⟩
    rw [fName_ok, ev_ok]
    have hso : so ∈ begunL ks cs t := by rw [e]; simp
    have part := part_begun hcs t so hso
    have hlen := begun_len t hso
    have hne : ∀ r ∈ so, r ≠ [] := fun r hr e => by
      have := (part.crow r hr).2
      rw [e] at this
      simp at this
    have e1 : (foundL ks cs (t + 1)).length = (foundL ks cs t).length + ((begunL ks cs t).filter (leafB ks)).length := List.length_append
    have e2 : begunL ks cs (t + 1) = (begunL ks cs t).flatMap (nextsL ks cs) := rfl
    rw [e2] at few
    rw [e1] at few
    have e3 : ((begunL ks cs t).filter (leafB ks)).length = (d.filter (leafB ks)).length + ((so :: rest).filter (leafB ks)).length := by rw [e, List.filter_append, List.length_append]
    have e4 : ((begunL ks cs t).flatMap (nextsL ks cs)).length = (d.flatMap (nextsL ks cs)).length + ((nextsL ks cs so).length + (rest.flatMap (nextsL ks cs)).length) := by rw [e, List.flatMap_append, List.length_append, List.flatMap_cons, List.length_append]
    rw [e3, e4] at few
    show Rn _ (ls n ks cs (foundL ks cs t ++ d.filter (leafB ks)) (.dat (.list ((begunL ks cs t).map rD))) (d.flatMap (nextsL ks cs)) (.dat (rD so)) s6 s7 s8 s9) _
    refine seq_cut (fun c => c = ls n ks cs (foundL ks cs t ++ d.filter (leafB ks)) (.dat (.list ((begunL ks cs t).map rD))) (d.flatMap (nextsL ks cs)) (.dat (rD so)) (.own false []) s7 s8 s9) (by unfold ls; simp) ?_
    rintro c rfl
    refine seq_cut (fun c => ∃ s7 s8 s9, c = ls n ks cs (foundL ks cs t ++ d.filter (leafB ks)) (.dat (.list ((begunL ks cs t).map rD))) (d.flatMap (nextsL ks cs)) (.dat (rD so)) (.own false ((leftL ks so).map tieD)) s7 s8 s9) (left_for (by omega)) ?_
    rintro c ⟨s7, s8, s9, rfl⟩
    refine seq_cut (fun c => c = ls n ks cs ((foundL ks cs t ++ d.filter (leafB ks)) ++ if leafB ks so = true then [so] else []) (.dat (.list ((begunL ks cs t).map rD))) (d.flatMap (nextsL ks cs)) (.dat (rD so)) (.own false ((leftL ks so).map tieD)) s7 s8 s9) (leaf_if hne (by rw [List.length_append]; omega)) ?_
    rintro c rfl
    refine (next_for hcl (by omega) (by omega)).mono fun f c ⟨q1, s9, q2⟩ => ?_
    subst q1
    refine ⟨.dat (rD so), .own false ((leftL ks so).map tieD), s7, s8, s9, ?_⟩
    rw [q2]
    congr 1
    · rw [List.filter_append, List.append_assoc]
      congr 2
      by_cases z : leafB ks so = true <;> simp [List.filter_cons, z]
    · rw [List.flatMap_append]
      simp
  rintro c ⟨s5, s6, s7, s8, s9, rfl⟩
  unfold ls
  simp
  exact ⟨_, _, _, _, _, _, rfl⟩
theorem law_sharings_eq (w : Web n ks) (hn : n ≤ 7) (hp : cs.Perm (crowds0 n ks)) (hc : sortD ((crowds0 n ks).map tupD) = cs.map tupD) : F__law_sharings [webD n ks] = .ok (sortD ((foundL ks cs (ks.length + 1)).map shD)) := by
  have wn := w.many
  have kl := small_len w hn
  apply Ev.eq
  unfold F__law_sharings
  rw [ev_fnN]
  unfold b__law_sharings
  show Rn _ [.dat (webD n ks), .un, .un, .un, .un, .un, .un, .un, .un, .un] _
  refine seq_cut (fun c => c = [.dat (webD n ks), .dat (.list (cs.map tupD)), .un, .un, .un, .un, .un, .un, .un, .un]) (by simp [law_crowds_eq (n := n) (ks := ks) (by omega), hc]) ?_
  rintro c rfl
  refine seq_cut (fun c => c = [.dat (webD n ks), .dat (.list (cs.map tupD)), .own false [], .un, .un, .un, .un, .un, .un, .un]) (by simp) ?_
  rintro c rfl
  refine seq_cut (fun c => c = lw n ks cs 0 .un .un .un .un .un .un) (by simp [lw, foundL, begunL, rD]) ?_
  rintro c rfl
  refine seq_cut (fun c => ∃ s3 s4 s5 s6 s7 s8 s9, c = [.dat (webD n ks), .dat (.list (cs.map tupD)), .own false ((foundL ks cs (ks.length + 1)).map shD), s3, s4, s5, s6, s7, s8, s9]) ?_ ?_
  · refine while_rule (I := fun k c => ∃ t s4 s5 s6 s7 s8 s9, t + k = ks.length + 1 ∧ c = lw n ks cs t s4 s5 s6 s7 s8 s9) (ks.length + 1) ⟨0, .un, .un, .un, .un, .un, .un, by omega, rfl⟩ (by omega) ?_
    rintro k c ⟨t, s4, s5, s6, s7, s8, s9, hk, rfl⟩
    have gn := gNe_rNil (begunL ks cs t)
    unfold lw
    simp only [rn_mTest, rn_mOp2, rn_mVar, List.getElem?_cons_succ, List.getElem?_cons_zero, onVar_dat, rn_mOfN, rn_mLst, rn_mNil, List.length_nil, Nat.zero_le, true_and]
    rw [gn]
    simp only [ev_ok, asB_bool]
    by_cases he : begunL ks cs t = []
    · have := (found_stop he (ks.length + 1 - t)).2
      rw [show t + (ks.length + 1 - t) = ks.length + 1 by omega] at this
      rw [this]
      simp only [he, decide_true, Bool.not_true, Bool.false_eq_true, if_false]
      exact ⟨_, _, _, _, _, _, _, rfl⟩
    · have hk0 : 0 < k := by
        rcases Nat.eq_zero_or_pos k with h | h
        · exact absurd (begun_end (ks := ks) (cs := cs) (t := t) (by omega)) he
        · exact h
      simp only [he, decide_false, Bool.not_false, if_true]
      refine ⟨hk0, (sh_turn w hn hp (by omega) s4 s5 s6 s7 s8 s9).mono fun f c ⟨e1, s4, s5, s6, s7, s8, s9, e2⟩ => ?_⟩
      subst e1
      exact ⟨t + 1, s4, s5, s6, s7, s8, s9, by omega, e2⟩
  rintro c ⟨s3, s4, s5, s6, s7, s8, s9, rfl⟩
  simp [gSorted_sh]
theorem sharings_same (w : Web n ks) (hn : n ≤ 7) : sortD ((dfsL ks cs 40 []).map shD) = sortD ((foundL ks cs (ks.length + 1)).map shD) := by
  have kl := small_len w hn
  have := dfs_found (ks := ks) (cs := cs) (t := ks.length + 1) (f := 40 - (ks.length + 1)) (begun_end (by omega))
  rw [show ks.length + 1 + (40 - (ks.length + 1)) = 40 by omega] at this
  exact sh_unique this
end
end Td
set_option Elab.async false
set_option linter.all false
set_option maxRecDepth 100000
namespace Td
open PySem PySem.Spec PyProof.Rows L2 TW
def oneC (o c : List Int) : Prop := ∀ x y, x ∈ o → x ∈ c → y ∈ o → y ∈ c → x = y
structure Shr (n : Int) (ks : List (Int × Int)) (so : List (List Int)) : Prop where
  crow : ∀ c ∈ so, Crow n ks c ∧ 2 ≤ c.length
  deg : ∀ x, degS so x ≤ 2
  one : so.Pairwise oneC
  all : ∀ p ∈ ks, ∃ c ∈ so, inC c p = true
theorem deg_perm {so so' : List (List Int)} (h : so.Perm so') (x : Int) : degS so x = degS so' x := h.countP_eq _
theorem Shr.perm {n : Int} {ks : List (Int × Int)} {so so' : List (List Int)} (s : Shr n ks so) (h : so.Perm so') : Shr n ks so' :=
  ⟨fun c hc => s.crow c (h.mem_iff.mpr hc), fun x => by rw [← deg_perm h]; exact s.deg x, (h.pairwise_iff fun q x y a b c d => q x y b a d c).mp s.one, fun p hp => by
    obtain ⟨c, hc, e⟩ := s.all p hp
    exact ⟨c, h.mem_iff.mp hc, e⟩⟩
theorem may_one {so : List (List Int)} {c : List Int} (hn : c.Nodup) (h : mayB so c = true) : ∀ o ∈ so, oneC o c := by
  intro o ho x y xo xc yo yc
  unfold mayB at h
  rw [Bool.and_eq_true] at h
  have := of_decide_eq_true (List.all_eq_true.mp h.1 o ho)
  apply Classical.byContradiction
  intro hxy
  have two := nodupLe (ks := [x, y]) (ls := c.filter fun x => decide (x ∈ o)) (by simp [hxy]) fun z hz => by
    simp at hz
    rcases hz with rfl | rfl <;> simp [*]
  rw [List.length_cons, List.length_cons, List.length_nil] at two
  omega
theorem pw_snoc {so : List (List Int)} {c : List Int} (h : so.Pairwise oneC) (k : ∀ o ∈ so, oneC o c) : (so ++ [c]).Pairwise oneC := by
  rw [List.pairwise_append]
  exact ⟨h, List.pairwise_singleton _ _, fun o ho d hd => by rw [List.mem_singleton.mp hd]; exact k o ho⟩
theorem dfs_shr {n : Int} {ks : List (Int × Int)} {cs : List (List Int)} (hcs : ∀ c ∈ cs, Crow n ks c ∧ 2 ≤ c.length) : ∀ (f : Nat) {so : List (List Int)}, Part n ks so → so.Pairwise oneC → ∀ s ∈ dfsL ks cs f so, Shr n ks s
  | 0, so, _, _, s, hs => by cases hs
  | f + 1, so, hp, hw, s, hs => by
    unfold dfsL at hs
    split at hs
    · rename_i e
      rw [List.mem_singleton.mp hs]
      refine ⟨hp.crow, hp.two, hw, fun p hp => ?_⟩
      have := List.filter_eq_nil_iff.mp e p hp
      simpa using this
    · obtain ⟨s', h1, h2⟩ := List.mem_flatMap.mp hs
      have hp' := part_next hcs hp h1
      refine dfs_shr hcs f hp' ?_ s h2
      unfold nextsL at h1
      split at h1
      · cases h1
      · obtain ⟨c, hc, rfl⟩ := List.mem_map.mp h1
        have hc := List.mem_filter.mp hc
        have := hc.2
        rw [Bool.and_eq_true] at this
        exact pw_snoc hw (may_one (hcs c hc.1).1.nd this.2)
def endsS (so : List (List Int)) (v : Int) : List Int := (so.zipIdx.filter fun z => decide (v ∈ z.1)).map fun z => ((z.2 : Nat) : Int)
theorem ends_len (so : List (List Int)) (v : Int) : (endsS so v).length = degS so v := by
  unfold endsS degS
  rw [List.length_map, ← List.countP_eq_length_filter]
  have : so.countP (fun o => decide (v ∈ o)) = (so.zipIdx.map Prod.fst).countP fun o => decide (v ∈ o) := by rw [List.zipIdx_map_fst]
  rw [this, List.countP_map]
  rfl
def cntR (t : Int → Bool) (v : Int) : Nat := (rgI 0 v).countP t
def fillN (f : Int → List Int) (sz : Nat) (base v : Int) : Int := base + (2 - (sz : Int)) * (cntR (fun u => decide ((f u).length = sz)) v : Nat)
def fillE (f : Int → List Int) (sz : Nat) (base v : Int) : List Int := if (f v).length = sz then f v ++ rgI (fillN f sz base v) (fillN f sz base v + 2 - sz) else f v
section
variable (n : Int) (so : List (List Int))
def e1S : Int → List Int := fillE (endsS so) 1 so.length
def m1S : Int := fillN (endsS so) 1 so.length n
def m0S : Int := fillN (e1S so) 0 (m1S n so) n
def ones (v : Int) : Nat := cntR (fun u => decide (degS so u = 1)) v
def nones (v : Int) : Nat := cntR (fun u => decide (degS so u = 0)) v
end
section
variable {n : Int} {so : List (List Int)}
theorem rg_single (a : Int) : rgI a (a + 1) = [a] := by unfold rgI; rw [show (a + 1 - a).toNat = 1 by omega]; simp
theorem e1_eq (v : Int) : e1S so v = if degS so v = 1 then endsS so v ++ [((so.length : Nat) : Int) + (ones so v : Nat)] else endsS so v := by
  unfold e1S fillE fillN ones
  simp only [ends_len]
  split
  · rw [show ∀ x : Int, x + 2 - ((1 : Nat) : Int) = x + 1 by intro x; omega, rg_single]
    congr 2
    omega
  · rfl
theorem e1_len (v : Int) : (e1S so v).length = if degS so v = 1 then 2 else degS so v := by
  rw [e1_eq]
  split
  · rename_i h
    rw [List.length_append, ends_len, h]; rfl
  · rw [ends_len]
theorem m1_eq : m1S n so = so.length + ones so n := by
  unfold m1S fillN ones
  simp only [ends_len]
  omega
theorem e1_zero (u : Int) : decide ((e1S so u).length = 0) = decide (degS so u = 0) := by
  rw [e1_len]
  split
  · rename_i h; rw [h]; rfl
  · rfl
theorem m0_eq : m0S n so = m1S n so + 2 * nones so n := by
  unfold m0S fillN nones
  simp only [e1_zero]
  omega
variable {ks : List (Int × Int)}
theorem deg_sum {l : List Int} (h : ∀ x, degS so x ≤ 2) : (l.map fun x => degS so x).sum + l.countP (fun u => decide (degS so u = 1)) + 2 * l.countP (fun u => decide (degS so u = 0)) = 2 * l.length := by
  induction l with
  | nil => rfl
  | cons x l ih =>
    have := h x
    simp only [List.map_cons, List.sum_cons, List.length_cons, List.countP_cons, decide_eq_true_eq]
    by_cases h0 : degS so x = 0
    · simp [h0]; omega
    · by_cases h1 : degS so x = 1
      · simp [h1]; omega
      · have : degS so x = 2 := by omega
        simp [this]; omega
theorem used_two : ∀ {so : List (List Int)}, (∀ c ∈ so, Crow n ks c ∧ 2 ≤ c.length) → 2 * so.length ≤ usedS n so
  | [], _ => Nat.zero_le _
  | c :: so, h => by
    have ih := used_two (so := so) fun d hd => h d (List.mem_cons_of_mem _ hd)
    have hc := h c List.mem_cons_self
    have e := used_add (so := so) hc.1
    have p : usedS n (so ++ [c]) = usedS n (c :: so) := by
      unfold usedS
      congr 1
      refine List.map_congr_left fun x _ => deg_perm ?_ x
      exact List.perm_append_comm (l₁ := so) (l₂ := [c])
    rw [List.length_cons]
    omega
theorem many_le (s : Shr n ks so) (hn : 0 ≤ n) : 0 ≤ m0S n so ∧ m0S n so + so.length ≤ 2 * n := by
  have q1 := m1_eq (n := n) (so := so)
  have q0 := m0_eq (n := n) (so := so)
  have d := deg_sum (l := rgI 0 n) s.deg
  have u := used_two s.crow
  rw [rgI_length] at d
  unfold ones nones cntR usedS at *
  omega
end
end Td
set_option Elab.async false
set_option linter.all false
set_option maxRecDepth 100000
namespace Td
open PySem PySem.Spec PyProof.Rows L2 TW
def lsD (l : List Int) : D := .list (l.map .int)
@[simp] theorem gLen_ls {l : List Int} : gLen (lsD l) = .ok (.int l.length) := by simp [lsD]
@[simp] theorem gSeq_ls {l : List Int} : gSeq (lsD l) = .ok (l.map .int) := rfl
@[simp] theorem gTuple_ls {l : List Int} : gTuple (lsD l) = .ok (tupD l) := rfl
end Td
set_option Elab.async false
set_option linter.all false
set_option maxRecDepth 100000
namespace Td
open PySem PySem.Spec PyProof.Rows L2 TW
end Td
set_option Elab.async false
set_option linter.all false
set_option maxRecDepth 100000
namespace Td
open PySem PySem.Spec PyProof.Rows L2 TW
def elts (d : D) : List D := match d with | .tuple xs => xs | _ => []
end Td
set_option Elab.async false
set_option linter.all false
set_option maxRecDepth 100000
namespace Td
open PySem PySem.Spec PyProof.Rows L2 TW
open TL (tl spl joinL numL)
open NumText (digitsVal AllDigits)
abbrev S := SX.S
def strD (l : List Nat) : D := .str (S l)
def plainS (l : List Nat) : Prop := ∀ c ∈ l, c < 128
theorem strOk_S {l : List Nat} (h : plainS l) : PyData.strOk (S l) = true := by
  unfold PyData.strOk
  rw [← Array.all_toList]
  exact List.all_eq_true.mpr fun c hc => by have := h c hc; simp; omega
theorem shaped_S {l : List Nat} (h : plainS l) : SeqAt.shaped (strD l) = true := by
  unfold SeqAt.shaped strD
  rw [Bool.and_eq_true, decide_eq_true_eq]
  exact ⟨strOk_S h, by simp [PyData.depth]⟩
theorem eqv_S (a b : List Nat) : PyData.eqv (strD a) (strD b) = decide (a = b) := by
  unfold strD
  simp only [PyData.eqv]
  exact SX.S_beq_eq
theorem gEq_S {a b : List Nat} (ha : plainS a) (hb : plainS b) : gEq (strD a) (strD b) = .ok (.bool (decide (a = b))) := by
  simp only [gEq, shaped_S ha, shaped_S hb, Bool.and_self, if_true, eqv_S]
theorem gLen_S {a : List Nat} (h : a.length ≤ 16777216) : gLen (strD a) = .ok (.int (a.length : Nat)) := by
  unfold gLen strD
  simp only [SX.S_len]
  rw [if_pos (by simp [szOk, h])]
theorem gAdd_S {a b : List Nat} (h : a.length + b.length ≤ 16777216) : gAdd (strD a) (strD b) = .ok (strD (a ++ b)) := by
  have hz : szOk ((S a).length + (S b).length) = true := by rw [SX.S_len, SX.S_len]; simp [szOk, h]
  have : gCatS (strD a) (strD b) = .ok (strD (a ++ b)) := by
    unfold strD
    show (if szOk ((S a).length + (S b).length) = true then R.ok (PyData.str (S a ++ S b)) else R.bad) = _
    rw [if_pos hz, SX.S_cat]
  unfold gAdd gOr
  have h1 : gI (· + ·) (strD a) (strD b) = .bad := rfl
  have h2 : gCatT (strD a) (strD b) = .bad := rfl
  simp only [h1, h2, this]
theorem gIx_S {a : List Nat} {i : Nat} {c : Nat} (h : a[i]? = some c) (hl : a.length ≤ 16777216) : gIx (strD a) (.int i) = .ok (strD [c]) := by
  unfold gIx strD
  simp only [SX.S_len]
  rw [if_pos (by simp [szOk, hl])]
  rw [atI_nat h]
theorem gSplit_S {a : List Nat} {s : Nat} (hs : s < 256) (hl : a.length + 2 ≤ 16777216) : gSplit (S a) (strD [s]) = .ok ((spl [s] 0 [] a).map strD) := by
  unfold gSplit strD
  simp only
  rw [if_pos (by rw [SX.S_len, SX.S_len]; simp [szOk]; omega), SX.split_S (by simp) (by simp [hs]), List.map_map]
  rfl
theorem strsD_S (ws : List (List Nat)) : strsD (ws.map strD) = some (ws.map S) := by
  have := strsD_map (ws.map S)
  rw [List.map_map] at this
  exact this
def joinLen (ws : List (List Nat)) : Nat := (ws.map (·.length)).sum + ws.length
theorem gJoin_S {s : Nat} {ws : List (List Nat)} (h : joinLen ws ≤ 16777216) : gJoin (S [s]) (.list (ws.map strD)) = .ok (strD (joinL [s] ws)) := by
  unfold gJoin
  simp only [strsD_S, SX.lens, SX.S_len, SX.join_S, List.length_map]
  rw [if_pos]
  · rfl
  · unfold joinLen at h
    simp
    simpa using h
def isDig (c : Nat) : Bool := decide (48 ≤ c) && decide (c ≤ 57)
theorem dig_iff {w : List Nat} : w.all isDig = true ↔ AllDigits w := by
  rw [List.all_eq_true]
  unfold AllDigits isDig
  simp
def digs : List Nat := [48, 49, 50, 51, 52, 53, 54, 55, 56, 57]
theorem dig_mem (c : Nat) : c ∈ digs ↔ isDig c = true := by
  unfold isDig digs
  simp
  omega
theorem digs_str : (.str "0123456789" : D) = strD digs := by
  unfold strD
  congr 1
theorem gIn_S (c : Nat) (a : List Nat) : gInX false (strD [c]) (strD a) = .ok (.bool (decide (c ∈ a))) := by
  have h1 : gIn false (strD [c]) (strD a) = .bad := rfl
  unfold gInX gOr
  simp only [h1]
  unfold gInS strD inS
  simp only [Bool.false_bne, SX.in_one]
end Td
set_option Elab.async false
set_option linter.all false
set_option maxRecDepth 100000
namespace Td
open PySem PySem.Spec PyProof.Rows L2 TW
open TL (tl spl joinL numL)
open NumText (digitsVal AllDigits)
def lead : List Nat → Bool
  | 48 :: _ :: _ => true
  | _ => false
def numQ (w : List Nat) : Option Nat := if (!w.isEmpty && w.all isDig) && !lead w then some (digitsVal w) else none
def numP (w : List Nat) : Option Nat := if w.length ≤ 2 then numQ w else none
def numD : Option Nat → D
  | some n => .int n
  | none => .none
theorem numL_head : ∀ n : Nat, 0 < n → (numL n).head? ≠ some 48 := fun n => by
  induction n using Nat.strongRecOn with
  | _ n ih =>
    intro h
    by_cases hn : n < 10
    · rw [TL.numL_lt hn]
      simp
      omega
    · rw [TL.numL_step (by omega)]
      have := ih (n / 10) (by omega) (by omega)
      cases e : numL (n / 10) with
      | nil => exact absurd e (TL.numL_ne _)
      | cons x l => rw [e] at this; exact this
theorem lead_num (n : Nat) : lead (numL n) = false := by
  by_cases h : n < 10
  · rw [TL.numL_lt h]
    unfold lead
    split
    · rename_i e; simp at e
    · rfl
  · have := numL_head n (by omega)
    unfold lead
    split
    · rename_i e; rw [e] at this; simp at this
    · rfl
theorem numQ_num (n : Nat) : numQ (numL n) = some n := by
  unfold numQ
  have h1 : (numL n).isEmpty = false := by
    cases e : numL n with
    | nil => exact absurd e (TL.numL_ne n)
    | cons => rfl
  rw [h1, dig_iff.mpr (TL.numL_digits n), lead_num, TL.numL_val]
  rfl
theorem numP_num {n : Nat} (h : n < 100) : numP (numL n) = some n := by
  unfold numP
  rw [if_pos (TL.numL_len (k := 2) (by decide) (by omega)), numQ_num]
theorem num_plain (n : Nat) : plainS (numL n) := fun c hc => by
  have := TL.numL_digits n c hc
  omega
@[simp] theorem asS_S {a : List Nat} {Q : Str → Prop} : AsS (strD a) Q ↔ Q (S a) := Iff.rfl
theorem plain_nil : plainS [] := fun c h => by cases h
theorem plain_one {c : Nat} (h : c < 128) : plainS [c] := fun x hx => by rw [List.mem_singleton.mp hx]; exact h
theorem str0 : (.str "0" : D) = strD [48] := rfl
theorem gInt_S {a : List Nat} (h : AllDigits a) (h1 : a ≠ []) (hl : a.length ≤ 640) : gIntS (strD a) = .ok (.int (digitsVal a : Nat)) := by
  unfold gIntS strD
  have e : intText? (S a) = some ((digitsVal a : Nat) : Int) := PySem.intText_digits h h1 (by rw [SX.S_len]; omega)
  simp only [e, SX.S_len]
  rw [if_pos (by simpa using hl)]
theorem number_in_eq {a : List Nat} (hp : plainS a) (hl : a.length ≤ 100000) : F_number_in [strD a] = .ok (numD (numP a)) := by
  apply Ev.eq
  unfold F_number_in
  rw [ev_fnD]
  unfold b_number_in
  show Rn _ [.dat (strD a), .un] _
  have gl := gLen_S (a := a) (by omega)
  have gs : gSigns (strD a) = .ok (a.map fun c => strD [c]) := by
    unfold gSigns strD
    simp only [SX.S_len]
    rw [if_pos (by simp [szOk]; omega)]
    rfl
  have comp : ∀ {QL : List D → List C → Prop}, QL (a.map fun c => .bool (isDig c)) [.dat (strD a), .un] → Rn (compGo [1] [1] fName mYes (mOp2 (gInX false) (mVar 1) (mC (.str "0123456789"))) (a.map fun c => strD [c])) [.dat (strD a), .un] QL := fun {QL} hq =>
    comp_mapM (φ := fun c => strD [c]) (g := fun c => .bool (isDig c)) (fun c hc => by
      have g := gIn_S c digs
      have : decide (c ∈ digs) = isDig c := by rw [Bool.eq_iff_iff, decide_eq_true_eq, dig_mem]
      rw [this] at g
      rw [show fName (strD [c]) = .ok [strD [c]] from rfl, ev_ok]
      simp [setC, wipeC, digs_str, g]) hq
  have ga := gAll_map isDig a
  by_cases h12 : 1 ≤ a.length ∧ a.length ≤ 2
  · cases hd : a.all isDig with
    | false =>
      have e : numP a = none := by unfold numP numQ; simp [hd]
      rw [e]
      refine seq_rt (d := .none) ?_
      rw [hd] at ga
      have h1 : (1 : Int) ≤ a.length := by omega
      have h2 : (a.length : Int) ≤ 2 := by omega
      simp [gl, h1, h2, gs, rn_mComp, wipeC]
      refine comp ?_
      simp [ga, numD]
    | true =>
      have hd' := dig_iff.mp hd
      rw [hd] at ga
      have h1 : (1 : Int) ≤ a.length := by omega
      have h2 : (a.length : Int) ≤ 2 := by omega
      refine seq_cut (fun c => c = [.dat (strD a), .un]) ?_ ?_
      · simp [gl, h1, h2, gs, rn_mComp, wipeC]
        refine comp ?_
        simp [ga]
      rintro c rfl
      obtain ⟨x, r, rfl⟩ : ∃ x r, a = x :: r := by
        cases a with
        | nil => simp at h12
        | cons x r => exact ⟨x, r, rfl⟩
      have g0 := gIx_S (a := x :: r) (i := 0) (c := x) rfl (by omega)
      have hx : x < 128 := hp x List.mem_cons_self
      have ge := gEq_S (a := [x]) (b := [48]) (plain_one hx) (plain_one (by omega))
      have g0' : gIx (strD (x :: r)) (.int 0) = .ok (strD [x]) := g0
      by_cases z : x = 48 ∧ r ≠ []
      · have e : numP (x :: r) = none := by
          have : lead (x :: r) = true := by
            obtain ⟨z1, z2⟩ := z
            subst z1
            cases r with
            | nil => exact absurd rfl z2
            | cons => rfl
          unfold numP numQ
          simp [this]
        rw [e]
        have hr : 0 < r.length := List.length_pos_iff.mpr z.2
        rw [z.1] at ge g0' gl ⊢
        refine seq_rt (d := .none) ?_
        have l1 : (1 : Int) < ((48 :: r).length : Nat) := by simp; omega
        simp at l1
        simp [g0', str0, ge, gl, numD]
        omega
      · have e : numP (x :: r) = some (digitsVal (x :: r)) := by
          have : lead (x :: r) = false := by
            unfold lead
            split
            · rename_i e
              obtain ⟨e1, e2⟩ := List.cons.inj e
              exact absurd ⟨e1, by rw [e2]; simp⟩ z
            · rfl
          unfold numP numQ
          rw [if_pos h12.2, hd, this]
          rfl
        rw [e]
        have gi := gInt_S hd' (by simp) (by omega)
        refine seq_cut (fun c => c = [.dat (strD (x :: r)), .un]) ?_ ?_
        · by_cases z1 : x = 48
          · have z2 : r = [] := Classical.byContradiction fun q => z ⟨z1, q⟩
            subst z1 z2
            simp [g0', str0, ge, gl]
          · simp [g0', str0, ge, z1]
        rintro c rfl
        simp [gi, numD]
  · have e : numP a = none := by
      unfold numP numQ
      by_cases h : a.length ≤ 2
      · have : a = [] := List.length_eq_zero_iff.mp (by omega)
        subst this
        rfl
      · rw [if_neg h]
    rw [e]
    refine seq_rt (d := .none) ?_
    by_cases h1 : (1 : Int) ≤ a.length
    · have h2 : ¬ ((a.length : Int) ≤ 2) := by omega
      simp [gl, h1, h2, numD]
    · simp [gl, h1, numD]
end Td
set_option Elab.async false
set_option linter.all false
set_option maxRecDepth 100000
namespace Td
open PySem PySem.Spec PyProof.Rows L2 TW
open TL (tl spl joinL numL)
open NumText (digitsVal AllDigits)
def tieTx (p : Int × Int) : List Nat := numL p.1.toNat ++ (45 :: numL p.2.toNat)
def textW (n : Int) (ks : List (Int × Int)) : List (List Nat) := (numL n.toNat ++ [58]) :: ks.map tieTx
def textL (n : Int) (ks : List (Int × Int)) : List Nat := joinL [32] (textW n ks)
theorem sum_le {b : Nat} : ∀ {ws : List (List Nat)}, (∀ w ∈ ws, w.length ≤ b) → (ws.map (·.length)).sum ≤ b * ws.length
  | [], _ => by simp
  | w :: ws, h => by
    have ih := sum_le (ws := ws) fun x hx => h x (List.mem_cons_of_mem _ hx)
    have := h w List.mem_cons_self
    rw [List.map_cons, List.sum_cons, List.length_cons, Nat.mul_succ]
    omega
theorem gStr_num {i : Int} (h : 0 ≤ i ∧ i < 1000000) : gStr (.int i) = .ok (strD (numL i.toNat)) := by
  unfold gStr
  simp only
  rw [if_pos (by simp; omega)]
  obtain ⟨k, rfl⟩ : ∃ k : Nat, i = (k : Int) := ⟨i.toNat, by omega⟩
  have := SX.num_S k
  unfold strD
  rw [Int.toNat_natCast]
  exact congrArg (fun z => R.ok (PyData.str z)) this
theorem num_short {i : Int} (h : 0 ≤ i ∧ i < 100) : (numL i.toNat).length ≤ 2 := TL.numL_len (k := 2) (by decide) (by omega)
theorem strC : (.str ":" : D) = strD [58] := rfl
theorem strM : (.str "-" : D) = strD [45] := rfl
theorem strB : (.str " " : D) = strD [32] := rfl
section
variable {n : Int} {ks : List (Int × Int)}
theorem tie_short (w : Web n ks) : ∀ x ∈ ks.map tieTx, x.length ≤ 5 := fun x hx => by
  obtain ⟨p, hp, rfl⟩ := List.mem_map.mp hx
  have t := w.ties p hp
  have := w.many
  have h1 := num_short (i := p.1) (by omega)
  have h2 := num_short (i := p.2) (by omega)
  unfold tieTx
  rw [List.length_append, List.length_cons]
  omega
theorem words_short (w : Web n ks) : ∀ x ∈ textW n ks, x.length ≤ 5 := fun x hx => by
  rcases List.mem_cons.mp hx with z | z
  · have := w.many
    have h1 := num_short (i := n) (by omega)
    rw [z, List.length_append]
    simp
    omega
  · exact tie_short w x z
theorem shown_eq (w : Web n ks) : F_shown [webD n ks] = .ok (strD (textL n ks)) := by
  have wn := w.many
  have wl := w.len
  apply Ev.eq
  unfold F_shown
  rw [ev_fnD]
  unfold b_shown
  show Rn _ [.dat (webD n ks), .un, .un] _
  have ln := num_short (i := n) (by omega)
  have g1 : gAdd (strD (numL n.toNat)) (strD [58]) = .ok (strD (numL n.toNat ++ [58])) := gAdd_S (by simp; omega)
  simp [gStr_num (i := n) (by omega), strC, g1, rn_mComp, wipeC]
  refine comp_mapM (φ := tieD) (g := fun p => strD (tieTx p)) (fun p hp => ?_) ?_
  · have t := w.ties p hp
    have l1 := num_short (i := p.1) (by omega)
    have l2 := num_short (i := p.2) (by omega)
    have a1 : gAdd (strD (numL p.1.toNat)) (strD [45]) = .ok (strD (numL p.1.toNat ++ [45])) := gAdd_S (by simp; omega)
    have a2 : gAdd (strD (numL p.1.toNat ++ [45])) (strD (numL p.2.toNat)) = .ok (strD (numL p.1.toNat ++ [45] ++ numL p.2.toNat)) := gAdd_S (by simp; omega)
    rw [show fTup 2 (tieD p) = .ok [.int p.1, .int p.2] from rfl, ev_ok]
    simp [setC, wipeC, gStr_num (i := p.1) (by omega), gStr_num (i := p.2) (by omega), strM, a1]
    simp at a2
    simp [a2, tieTx]
  · have e : strD (numL n.toNat ++ [58]) :: ks.map (fun p => strD (tieTx p)) = (textW n ks).map strD := by
      unfold textW
      rw [List.map_cons, List.map_map]
      rfl
    have lw : (textW n ks).length ≤ 1000 := by unfold textW; rw [List.length_cons, List.length_map]; omega
    have j := gJoin_S (s := 32) (ws := textW n ks) (by
      have := sum_le (words_short w)
      unfold joinLen
      omega)
    refine catl_ev (by simp; omega) ?_
    rw [List.singleton_append, e]
    have sB : Str.ofString " " = S [32] := rfl
    simp [sB, j, textL]
theorem num_noB {i : Nat} {s : Nat} (h : s < 48 ∨ 57 < s) : s ∉ numL i := TL.numL_free h
end
def wordsL (L : List Nat) : List (List Nat) := spl [32] 0 [] L
theorem spl_mem {s c : Nat} : ∀ (l : List Nat) (k : Nat) (acc : List Nat), ∀ p ∈ spl [s] k acc l, c ∈ p → c ∈ acc ∨ c ∈ l
  | [], k, acc, p, hp, hc => by
    rw [TL.spl_nil] at hp
    rw [List.mem_singleton.mp hp] at hc
    exact .inl hc
  | d :: r, 0, acc, p, hp, hc => by
    unfold spl at hp
    split at hp
    · rcases List.mem_cons.mp hp with z | z
      · rw [z] at hc; exact .inl hc
      · rcases spl_mem r _ [] p z hc with y | y
        · cases y
        · exact .inr (List.mem_cons_of_mem _ y)
    · rcases spl_mem r 0 _ p hp hc with y | y
      · rcases List.mem_append.mp y with y | y
        · exact .inl y
        · rw [List.mem_singleton.mp y]; exact .inr List.mem_cons_self
      · exact .inr (List.mem_cons_of_mem _ y)
  | d :: r, k + 1, acc, p, hp, hc => by
    rcases spl_mem r k acc p hp hc with y | y
    · exact .inl y
    · exact .inr (List.mem_cons_of_mem _ y)
theorem part_plain {s : Nat} {L p : List Nat} (h : plainS L) (hp : p ∈ spl [s] 0 [] L) : plainS p := fun c hc => by
  rcases spl_mem L 0 [] p hp hc with z | z
  · cases z
  · exact h c z
theorem spl_count {s : Nat} (f : Nat → Bool) : ∀ (l : List Nat) (k : Nat) (acc : List Nat), ∀ p ∈ spl [s] k acc l, p.countP f ≤ acc.countP f + l.countP f
  | [], k, acc, p, hp => by
    rw [TL.spl_nil] at hp
    rw [List.mem_singleton.mp hp]
    simp
  | d :: r, 0, acc, p, hp => by
    unfold spl at hp
    rw [List.countP_cons]
    split at hp
    · rcases List.mem_cons.mp hp with z | z
      · rw [z]; omega
      · have := spl_count f r _ [] p z
        simp at this
        omega
    · have := spl_count f r 0 _ p hp
      rw [List.countP_append, List.countP_singleton] at this
      omega
  | d :: r, k + 1, acc, p, hp => by
    have := spl_count f r k acc p hp
    rw [List.countP_cons]
    omega
theorem part_count {s : Nat} {L p : List Nat} (f : Nat → Bool) (hp : p ∈ spl [s] 0 [] L) : p.countP f ≤ L.countP f := by
  have := spl_count f L 0 [] p hp
  simpa using this
theorem part_len {s : Nat} {L p : List Nat} (hp : p ∈ spl [s] 0 [] L) : p.length ≤ L.length := by
  have := part_count (fun _ => true) hp
  simpa using this
theorem parts_many {s : Nat} : ∀ (l : List Nat) (k : Nat) (acc : List Nat), (spl [s] k acc l).length ≤ l.countP (· == s) + 1
  | [], k, acc => by rw [TL.spl_nil]; simp
  | d :: r, 0, acc => by
    unfold spl
    split
    · rename_i h
      have hd : d = s := by
        unfold TL.pre at h
        simpa using h
      have := parts_many (s := s) r ([s].length - 1) []
      rw [List.length_cons, List.countP_cons, hd]
      simp
      exact this
    · have := parts_many (s := s) r 0 (acc ++ [d])
      rw [List.countP_cons]
      omega
  | d :: r, k + 1, acc => by
    have := parts_many (s := s) r k acc
    rw [List.countP_cons]
    show (spl [s] k acc r).length ≤ _
    omega
end Td
set_option Elab.async false
set_option linter.all false
set_option maxRecDepth 100000
namespace Td
open PySem PySem.Spec PyProof.Rows L2 TW
open TL (tl spl joinL numL)
open NumText (digitsVal AllDigits)
section
variable {L : List Nat} (hp : plainS L) (hl : L.length ≤ 10000)
include hp hl
theorem words_fit : ∀ w ∈ wordsL L, plainS w ∧ w.length ≤ 10000 := fun w hw => ⟨part_plain hp hw, Nat.le_trans (part_len hw) hl⟩
end
end Td
set_option Elab.async false
set_option linter.all false
set_option maxRecDepth 100000
namespace Td
open PySem PySem.Spec PyProof.Rows L2 TW
open TL (tl spl joinL numL)
open NumText (digitsVal AllDigits)
theorem text_plain {n : Int} {ks : List (Int × Int)} : plainS (textL n ks) := by
  have : ∀ ws : List (List Nat), (∀ x ∈ ws, plainS x) → plainS (joinL [32] ws) := fun ws => by
    induction ws with
    | nil => intro _ c hc; cases hc
    | cons a ws ih =>
      intro hw c hc
      cases ws with
      | nil => exact hw a List.mem_cons_self c hc
      | cons b ws =>
        have hc : c ∈ a ++ ([32] ++ joinL [32] (b :: ws)) := hc
        rcases List.mem_append.mp hc with z | z
        · exact hw a List.mem_cons_self c z
        · rcases List.mem_append.mp z with z | z
          · rw [List.mem_singleton.mp z]; omega
          · exact ih (fun x hx => hw x (List.mem_cons_of_mem _ hx)) c z
  refine this _ fun x hx => ?_
  rcases List.mem_cons.mp hx with z | z
  · rw [z]
    intro c hc
    rcases List.mem_append.mp hc with z | z
    · exact num_plain _ c z
    · rw [List.mem_singleton.mp z]; omega
  · obtain ⟨p, _, rfl⟩ := List.mem_map.mp z
    intro c hc
    unfold tieTx at hc
    rcases List.mem_append.mp hc with z | z
    · exact num_plain _ c z
    · rcases List.mem_cons.mp z with z | z
      · rw [z]; omega
      · exact num_plain _ c z
end Td
set_option Elab.async false
set_option linter.all false
set_option maxRecDepth 100000
namespace TW
open PySem PySem.Spec PyProof.Rows L2
end TW
set_option Elab.async false
set_option linter.all false
set_option maxRecDepth 100000
namespace Td
open PySem PySem.Spec PyProof.Rows L2 TW
open TL (tl spl joinL numL)
section
variable {L : List Nat}
theorem appP {a b : List Nat} (h : plainS a) (k : plainS b) : plainS (a ++ b) := fun c hc => (List.mem_append.mp hc).elim (h c) (k c)
theorem joinP {ws : List (List Nat)} (h : ∀ w ∈ ws, plainS w) : plainS (joinL [32] ws) := by
  induction ws with
  | nil => intro c hc; cases hc
  | cons a ws ih =>
    intro c hc
    cases ws with
    | nil => exact h a List.mem_cons_self c hc
    | cons b ws =>
      have hc : c ∈ a ++ ([32] ++ joinL [32] (b :: ws)) := hc
      rcases List.mem_append.mp hc with z | z
      · exact h a List.mem_cons_self c z
      · rcases List.mem_append.mp z with z | z
        · rw [List.mem_singleton.mp z]; omega
        · exact ih (fun x hx => h x (List.mem_cons_of_mem _ hx)) c z
theorem words_len : (wordsL L).length ≤ L.length + 1 := Nat.le_trans (parts_many L 0 []) (by have := List.countP_le_length (p := (· == 32)) (l := L); omega)
end
def b7 (L : List Nat) (s2 s3 s4 s5 s6 s7 s8 s9 s10 s11 s12 : C) (c : List C) : Prop := ∃ ss, c = [.own true ss, .dat (strD L), s2, s3, s4, s5, s6, s7, s8, s9, s10, s11, s12] ∧ St ss
end Td
set_option Elab.async false
set_option linter.all false
set_option maxRecDepth 100000
namespace Td
open PySem PySem.Spec PyProof.Rows L2 TW
open TL (tl spl joinL numL)
open NumText (digitsVal AllDigits)
def outM (r : R (Fl × Option (D × List D) × List C)) : R (D × Option (D × List D)) := match r with
  | .ok (.rt d, z, _) => .ok (d, z)
  | .err c xs => .err c xs
  | _ => .bad
theorem fnM_out {n : Nat} {body : Addr → FB} {x : Addr} {w : D} {qs ds : List D} : fnM n body (dskD x w qs :: ds) = outM (body x (unfill n ((dskD x w qs :: ds).map .dat))) := fnM_at
def grd (w : D) (qs ds : List D) (r : R (D × Option (D × List D))) : R (D × Option (D × List D)) := match r with
  | .ok (a, some z) => if noLst w && noLsts qs && noLsts ds then .ok (a, some z) else .bad
  | r => r
section
variable {x : Addr} {w : D} {qs es : List D} {n k : FB} {m : MS} {cs c : List C} {F : FM} {ms : M (List D)} {q : Nat}
theorem out_seq (h : Rn m cs fun f c' => f = .nx ∧ c' = c) : outM (mSeqM (TW.liftM m) n cs) = outM (n c) := by
  obtain ⟨f, c', e, rfl, rfl⟩ := h
  unfold mSeqM TW.liftM
  rw [e]
theorem out_seq_err {i : Nat} {xs : List D} (h : m cs = .err i xs) : outM (mSeqM (TW.liftM m) n cs) = .err i xs := by
  unfold mSeqM TW.liftM
  rw [h]
  rfl
theorem out_err {i : Nat} {xs : List D} (h : m cs = .err i xs) : outM (TW.liftM m cs) = .err i xs := by
  unfold TW.liftM
  rw [h]
  rfl
theorem out_rt {d : D} (h : Rn m cs fun f _ => f = .rt d) (hf : (flV d).isSome = true) : outM (TW.liftM m cs) = .ok (d, none) := by
  obtain ⟨f, c', e, rfl⟩ := h
  unfold TW.liftM
  rw [e]
  simp only [hf, if_true]
  rfl
theorem out_if {t : M Bool} {a b : FB} {v : Bool} (h : Rn t cs fun b' c' => b' = v ∧ c' = c) : outM (mSeqM (mIfM t a b) n cs) = outM (mSeqM (if v then a else b) n c) := by
  obtain ⟨b', c', e, rfl, rfl⟩ := h
  unfold mSeqM mIfM
  rw [e]
theorem out_skip : outM (mSeqM (TW.liftM mNx) n cs) = outM (n cs) := out_seq (by simp)
theorem retM_rt {f : Fl} {z : Option (D × List D)} (h : mRetM x q F ms cs = .ok (f, z, c)) : ∃ d, f = .rt d := by
  unfold mRetM at h
  repeat' split at h
  all_goals (cases h <;> exact ⟨_, rfl⟩)
theorem out_seq_ret : outM (mSeqM (mRetM x q F ms) k cs) = outM (mRetM x q F ms cs) := by
  unfold mSeqM
  cases e : mRetM x q F ms cs with
  | bad => rfl
  | err i xs => rfl
  | ok p =>
    obtain ⟨f, z, c⟩ := p
    obtain ⟨d, rfl⟩ := retM_rt e
    rfl
theorem out_ret (e : deskIn x cs[0]? = some (w, qs)) (h : Rn ms cs fun ds _ => ds = es) (hl : es.length = q) : outM (mRetM x q F ms cs) = grd w qs es (F (dskD x w qs :: es)) := by
  obtain ⟨ds, c', em, rfl⟩ := h
  unfold mRetM
  rw [e]
  simp only [em, hl, if_true]
  cases ef : F (dskD x w qs :: ds) with
  | bad => rfl
  | err i xs => rfl
  | ok p =>
    obtain ⟨a, z⟩ := p
    cases z with
    | none => rfl
    | some z =>
      unfold grd
      simp only
      split <;> rfl
theorem grd_some {a : D} {z : D × List D} (h1 : noLst w = true) (h2 : noLsts qs = true) (h3 : noLsts es = true) : grd w qs es (.ok (a, some z)) = .ok (a, some z) := by
  unfold grd
  simp [h1, h2, h3]
end
def placesL : List Nat := [112, 108, 97, 99, 101, 115]
def tieL : List Nat := [116, 105, 101]
def makeL : List Nat := [109, 97, 107, 101]
def backL : List Nat := [98, 97, 99, 107]
def webL : List Nat := [119, 101, 98]
def rootL : List Nat := [114, 111, 111, 116]
def sharedL : List Nat := [115, 104, 97, 114, 101, 100]
def aheadL : List Nat := [97, 104, 101, 97, 100]
def fateL : List Nat := [102, 97, 116, 101]
def alone7 : List (List Nat) := [makeL, backL, webL, rootL, sharedL, aheadL, fateL]
theorem alone_str : ([(.str "make"), (.str "back"), (.str "web"), (.str "root"), (.str "shared"), (.str "ahead"), (.str "fate")] : List D) = alone7.map strD := rfl
theorem places_str : (.str "places" : D) = strD placesL := rfl
theorem tie_str : (.str "tie" : D) = strD tieL := rfl
theorem make_str : (.str "make" : D) = strD makeL := rfl
theorem back_str : (.str "back" : D) = strD backL := rfl
theorem web_str : (.str "web" : D) = strD webL := rfl
theorem root_str : (.str "root" : D) = strD rootL := rfl
theorem shared_str : (.str "shared" : D) = strD sharedL := rfl
theorem ahead_str : (.str "ahead" : D) = strD aheadL := rfl
theorem fate_str : (.str "fate" : D) = strD fateL := rfl
theorem alone_plain : ∀ h ∈ alone7, plainS h := by
  unfold plainS alone7 makeL backL webL rootL sharedL aheadL fateL
  decide
theorem gIn_alone {h : List Nat} (hp : plainS h) : gIn false (strD h) (.tuple (alone7.map strD)) = .ok (.bool (decide (h ∈ alone7))) := by
  have s1 := shaped_S hp
  have s2 : SeqAt.shaped (.tuple (alone7.map strD)) = true := by decide +kernel
  show (if SeqAt.shaped (strD h) && SeqAt.shaped (.tuple (alone7.map strD)) then R.ok (PyData.bool (false != (alone7.map strD).any fun z => PyData.eqv z (strD h))) else .bad) = _
  rw [s1, s2, Bool.and_self, if_pos rfl, Bool.false_bne, List.any_map]
  congr 2
  rw [Bool.eq_iff_iff, List.any_eq_true, decide_eq_true_eq]
  constructor
  · rintro ⟨z, hz, e⟩
    simp only [Function.comp_apply, eqv_S, decide_eq_true_eq] at e
    exact e ▸ hz
  · exact fun hz => ⟨h, hz, by simp only [Function.comp_apply, eqv_S, decide_true]⟩
theorem told_number_eq {a : List Nat} (hp : plainS a) (hl : a.length ≤ 100000) {n : Nat} (h : numP a = some n) : F_told_number [strD a] = .ok (.int n) := by
  have e := number_in_eq hp hl
  rw [h] at e
  apply Ev.eq
  unfold F_told_number
  rw [ev_fnD]
  have gN : gIsN (.int (n : Nat)) .none = .ok (.bool false) := rfl
  simp [b_told_number, unfill, e, numD, gN]
theorem told_number_err {a : List Nat} (hp : plainS a) (hl : a.length ≤ 100000) (h : numP a = none) : F_told_number [strD a] = .err 10 [] := by
  have e := number_in_eq hp hl
  rw [h] at e
  unfold F_told_number
  refine err_fnD ?_
  unfold b_told_number
  refine err_seq2 (fun c => c = [.dat (strD a), .dat .none]) (by simp [unfill, e, numD]) ?_
  rintro c rfl
  refine err_seq (err_ifT ?_)
  have gN : gIsN .none .none = .ok (.bool true) := rfl
  simp [mErr, gN]
theorem mapM_some {α β : Type} {f : α → Option β} : ∀ {l : List α} {r : List β}, l.mapM f = some r → l.length = r.length ∧ ∀ (g : β → β), True
  | [], r, h => by simp at h; subst h; exact ⟨rfl, fun _ => trivial⟩
  | a :: l, r, h => by
    rw [List.mapM_cons] at h
    cases e : f a with
    | none => rw [e] at h; cases h
    | some b =>
      cases e2 : l.mapM f with
      | none => rw [e, e2] at h; cases h
      | some r' =>
        rw [e, e2] at h
        cases h
        exact ⟨by rw [List.length_cons, List.length_cons, (mapM_some e2).1], fun _ => trivial⟩
def sayC (x : Addr) (w : D) (qs : List D) (L : List Nat) (s2 s3 : C) : List C := [.dat (dskD x w qs), .dat (strD L), s2, s3, .un]
theorem rn_mCompE {vs is : List Nat} {f : D → R (List D)} {mi : M (List D)} {me : M D} {cs : List C} {QL : List D → List C → Prop} : Rn (mCompE vs is f mi me) cs QL ↔ Rn mi cs fun ds c => Rn (compGoE vs is f me ds) (wipeC c vs) QL := by
  unfold mCompE
  rw [rn_bind]
  rfl
theorem rn_run {α : Type} {m : M α} {cs : List C} {a : α} {c : List C} (h : Rn m cs fun x y => x = a ∧ y = c) : m cs = .ok (a, c) := by
  obtain ⟨x, y, e, rfl, rfl⟩ := h
  exact e
theorem nums_run {c0 : List C} (h4 : c0[4]? = some .un) : ∀ {t : List (List Nat)}, (∀ p ∈ t, plainS p ∧ p.length ≤ 10000) →
    compGoE [4] [4] fName (mCall 1 F_told_number (mCons (mVar 4) mNil)) (t.map strD) c0 = match t.mapM numP with
      | some ns => .ok (ns.map (fun n => .int (n : Nat)), c0)
      | none => .err 10 [] := by
  intro t
  induction t with
  | nil => intro _; rfl
  | cons p t ih =>
    intro hp
    obtain ⟨pp, lp⟩ := hp p List.mem_cons_self
    have h4l : 4 < c0.length := (List.getElem?_eq_some_iff.mp h4).1
    have g4 : (c0.set 4 (.dat (strD p)))[4]? = some (.dat (strD p)) := by rw [List.getElem?_set_self h4l]
    have w4 : (c0.set 4 (.dat (strD p))).set 4 .un = c0 := by
      rw [List.set_set]
      refine List.ext_getElem? fun j => ?_
      by_cases q : 4 = j
      · subst q; rw [List.getElem?_set_self h4l, h4]
      · rw [List.getElem?_set_ne q]
    have ih := ih fun q hq => hp q (List.mem_cons_of_mem _ hq)
    rw [List.map_cons, List.mapM_cons]
    unfold compGoE
    rw [show fName (strD p) = .ok [strD p] from rfl]
    simp only [setC]
    cases e : numP p with
    | none =>
      have em : mCall 1 F_told_number (mCons (mVar 4) mNil) (c0.set 4 (.dat (strD p))) = .err 10 [] := by
        refine err_call ?_
        simp [g4]
        exact told_number_err pp (by omega) e
      rw [em]
      rfl
    | some b =>
      have te := told_number_eq pp (by omega) e
      have em : mCall 1 F_told_number (mCons (mVar 4) mNil) (c0.set 4 (.dat (strD p))) = .ok (.int b, c0.set 4 (.dat (strD p))) := rn_run (by simp [g4, te])
      rw [em]
      simp only [wipeC]
      rw [w4, ih]
      cases t.mapM numP <;> rfl
def sayR (x : Addr) (w : D) (qs : List D) (h : List Nat) (t : List (List Nat)) (ns : List Nat) : R (D × Option (D × List D)) :=
  if t = [] ∧ h ∈ alone7 then grd w qs [strD h] (F_Desk_alone [dskD x w qs, strD h])
  else if h = placesL ∧ ns.length = 1 ∧ ns.headD 0 ≤ 14 then grd w qs [.tuple [.int (ns.headD 0 : Nat), .tuple []]] (fKeep [dskD x w qs, .tuple [.int (ns.headD 0 : Nat), .tuple []]])
  else if h = tieL ∧ ns.length = 2 then grd w qs [.int (ns.headD 0 : Nat), .int (ns.getD 1 0 : Nat)] (F_Desk_turn [dskD x w qs, .int (ns.headD 0 : Nat), .int (ns.getD 1 0 : Nat)])
  else .err 10 []
theorem say_eq {x : Addr} {w : D} {qs : List D} {L h : List Nat} {t : List (List Nat)} {ns : List Nat} (hp : plainS L) (hl : L.length ≤ 10000) (hw : wordsL L = h :: t) (hn : t.mapM numP = some ns) :
    F_Desk_say [dskD x w qs, strD L] = sayR x w qs h t ns := by
  have fit : ∀ p ∈ h :: t, plainS p ∧ p.length ≤ 10000 := fun p hq => by rw [← hw] at hq; exact words_fit hp hl p hq
  have ph := (fit h List.mem_cons_self).1
  have lt := (mapM_some hn).1
  have lw : t.length ≤ 10000 := by
    have := words_len (L := L)
    rw [hw, List.length_cons] at this
    omega
  unfold F_Desk_say
  rw [fnM_out]
  unfold b_Desk_say
  show outM (mSeqM _ _ (sayC x w qs L .un .un)) = _
  have isi : gIsi "str" (strD L) = .ok (.bool true) := rfl
  rw [out_seq (c := sayC x w qs L .un .un) (by simp [sayC, isi])]
  have g1 := gSplit_S (a := L) (s := 32) (by omega) (by omega)
  have g1 : gSplit (S L) (strD [32]) = .ok ((h :: t).map strD) := by rw [g1, ← hw]; rfl
  rw [out_seq (c := sayC x w qs L (.dat (.list ((h :: t).map strD))) .un) (by
    have eS : (strD L) = .str (S L) := rfl
    unfold sayC
    rw [eS]
    simp [strB, g1])]
  have gal := gIn_alone ph
  have t1 : ∀ s3, Rn (mAnd (mTest (mOp2 gEq (mOp1 gLen (vVar 2)) (mC (.int 1)))) (mTest (mOp2 (gInZ false) (mOp2 gIx (mVar 2) (mC (.int 0))) (mC (zpA [(.str "make"), (.str "back"), (.str "web"), (.str "root"), (.str "shared"), (.str "ahead"), (.str "fate")])))))
      (sayC x w qs L (.dat (.list ((h :: t).map strD))) s3) fun b c => b = decide (t = [] ∧ h ∈ alone7) ∧ c = sayC x w qs L (.dat (.list ((h :: t).map strD))) s3 := fun s3 => by
    rw [alone_str]
    unfold sayC
    cases t with
    | nil => simp [gal]
    | cons p t' =>
      have : ((t'.length : Int) + 1 + 1 == 1) = false := by simp; omega
      simp [this]
  rw [out_if (t1 .un)]
  unfold sayR
  by_cases q1 : t = [] ∧ h ∈ alone7
  · rw [if_pos q1, decide_eq_true q1]
    simp only [if_true]
    rw [out_seq_ret]
    refine out_ret (es := [strD h]) (by simp [sayC]) ?_ rfl
    unfold sayC
    simp
  rw [if_neg q1, decide_eq_false q1]
  simp only [Bool.false_eq_true, if_false]
  rw [out_skip]
  have gn : Rn (mSet 3 (mOfN (mCompE [4] [4] fName (mSeq1 (mSl (mVar 2) (mPart (mC (.int 1))) mNoPart)) (mCall 1 F_told_number (mCons (mVar 4) mNil))))) (sayC x w qs L (.dat (.list ((h :: t).map strD))) .un)
      fun f c => f = .nx ∧ c = sayC x w qs L (.dat (.list ((h :: t).map strD))) (.dat (.list (ns.map fun n => .int (n : Nat)))) := by
    unfold sayC
    have nr := nums_run (t := t) (c0 := [.dat (dskD x w qs), .dat (strD L), .dat (.list (strD h :: t.map strD)), .un, .un]) rfl (fun p hq => fit p (List.mem_cons_of_mem _ hq))
    rw [hn] at nr
    simp [rn_mCompE, wipeC, cut_one]
    exact ⟨_, _, nr, rfl⟩
  rw [out_seq gn]
  have gpl : gEq (strD h) (strD placesL) = .ok (.bool (decide (h = placesL))) := gEq_S ph (by unfold plainS placesL; decide)
  have gti : gEq (strD h) (strD tieL) = .ok (.bool (decide (h = tieL))) := gEq_S ph (by unfold plainS tieL; decide)
  have t2 : Rn (mAnd (mTest (mOp2 gEq (mOp2 gIx (mVar 2) (mC (.int 0))) (mC (.str "places")))) (mAnd (mTest (mOp2 gEq (mOp1 gLen (vVar 3)) (mC (.int 1)))) (mTest (mOp2 oLe (mOp2 gIx (mVar 3) (mC (.int 0))) (mC (.int 14))))))
      (sayC x w qs L (.dat (.list ((h :: t).map strD))) (.dat (.list (ns.map fun n => .int (n : Nat))))) fun b c => b = decide (h = placesL ∧ ns.length = 1 ∧ ns.headD 0 ≤ 14) ∧ c = sayC x w qs L (.dat (.list ((h :: t).map strD))) (.dat (.list (ns.map fun n => .int (n : Nat)))) := by
    rw [places_str]
    unfold sayC
    match ns with
    | [] => simp [gpl]
    | [a] =>
      have e : decide ((a : Int) ≤ 14) = decide (a ≤ 14) := by rw [decide_eq_decide]; omega
      simp [gpl, e]
      by_cases q : h = placesL <;> simp [q]
    | a :: b :: r =>
      have : ((r.length : Int) + 1 + 1 == 1) = false := by simp; omega
      simp [gpl, this]
  rw [out_if t2]
  by_cases q2 : h = placesL ∧ ns.length = 1 ∧ ns.headD 0 ≤ 14
  · rw [if_pos q2, decide_eq_true q2]
    simp only [if_true]
    rw [out_seq_ret]
    refine out_ret (by simp [sayC]) ?_ rfl
    unfold sayC
    match ns, q2 with
    | [a], _ => simp
  rw [if_neg q2, decide_eq_false q2]
  simp only [Bool.false_eq_true, if_false]
  rw [out_skip]
  have t3 : Rn (mAnd (mTest (mOp2 gEq (mOp2 gIx (mVar 2) (mC (.int 0))) (mC (.str "tie")))) (mTest (mOp2 gEq (mOp1 gLen (vVar 3)) (mC (.int 2)))))
      (sayC x w qs L (.dat (.list ((h :: t).map strD))) (.dat (.list (ns.map fun n => .int (n : Nat))))) fun b c => b = decide (h = tieL ∧ ns.length = 2) ∧ c = sayC x w qs L (.dat (.list ((h :: t).map strD))) (.dat (.list (ns.map fun n => .int (n : Nat)))) := by
    rw [tie_str]
    unfold sayC
    have e : ((ns.length : Int) == 2) = decide (ns.length = 2) := by
      rw [Bool.eq_iff_iff]
      simp
      omega
    simp [gti, e]
    by_cases q : h = tieL <;> simp [q]
  rw [out_if t3]
  by_cases q3 : h = tieL ∧ ns.length = 2
  · rw [if_pos q3, decide_eq_true q3]
    simp only [if_true]
    rw [out_seq_ret]
    refine out_ret (by simp [sayC]) ?_ rfl
    unfold sayC
    match ns, q3 with
    | [a, b], _ => simp
  rw [if_neg q3, decide_eq_false q3]
  simp only [Bool.false_eq_true, if_false]
  rw [out_skip]
  exact out_err rfl
theorem say_none {x : Addr} {w : D} {qs : List D} {L h : List Nat} {t : List (List Nat)} (hp : plainS L) (hl : L.length ≤ 10000) (hw : wordsL L = h :: t) (hn : t.mapM numP = none) : F_Desk_say [dskD x w qs, strD L] = .err 10 [] := by
  have fit : ∀ p ∈ h :: t, plainS p ∧ p.length ≤ 10000 := fun p hq => by rw [← hw] at hq; exact words_fit hp hl p hq
  have lw : t.length ≤ 10000 := by
    have := words_len (L := L)
    rw [hw, List.length_cons] at this
    omega
  have ht : t ≠ [] := by rintro rfl; cases hn
  unfold F_Desk_say
  rw [fnM_out]
  unfold b_Desk_say
  show outM (mSeqM _ _ (sayC x w qs L .un .un)) = _
  have isi : gIsi "str" (strD L) = .ok (.bool true) := rfl
  rw [out_seq (c := sayC x w qs L .un .un) (by simp [sayC, isi])]
  have g1 := gSplit_S (a := L) (s := 32) (by omega) (by omega)
  have g1 : gSplit (S L) (strD [32]) = .ok ((h :: t).map strD) := by rw [g1, ← hw]; rfl
  rw [out_seq (c := sayC x w qs L (.dat (.list ((h :: t).map strD))) .un) (by
    have eS : (strD L) = .str (S L) := rfl
    unfold sayC
    rw [eS]
    simp [strB, g1])]
  rw [out_if (v := false) (c := sayC x w qs L (.dat (.list ((h :: t).map strD))) .un) (by
    unfold sayC
    cases t with
    | nil => exact absurd rfl ht
    | cons p t' =>
      have : ((t'.length : Int) + 1 + 1 == 1) = false := by simp; omega
      simp [this])]
  simp only [Bool.false_eq_true, if_false]
  rw [out_skip]
  refine out_seq_err (err_set (err_ofN ?_))
  have nr := nums_run (t := t) (c0 := [.dat (dskD x w qs), .dat (strD L), .dat (.list (strD h :: t.map strD)), .un, .un]) rfl (fun p hq => fit p (List.mem_cons_of_mem _ hq))
  rw [hn] at nr
  unfold mCompE
  refine err_bind2 ?_
  unfold sayC
  simp [wipeC, cut_one]
  exact nr
theorem say_noS {x : Addr} {w : D} {qs : List D} {d : D} (h : gIsi "str" d = .ok (.bool false)) : F_Desk_say [dskD x w qs, d] = .err 10 [] := by
  unfold F_Desk_say
  rw [fnM_out]
  unfold b_Desk_say
  show outM (mSeqM _ _ [.dat (dskD x w qs), .dat d, .un, .un, .un]) = _
  refine out_seq_err (err_ifT ?_)
  simp [h, mErr]
end Td
set_option Elab.async false
set_option linter.all false
set_option maxRecDepth 100000
namespace Td
open PySem PySem.Spec PyProof.Rows L2 TW
def rowsOf : List D → Option (List (List Int))
  | [] => some []
  | .tuple xs :: r => match intsD xs, rowsOf r with
    | some k, some ks => some (k :: ks)
    | _, _ => none
  | _ => none
end Td
set_option Elab.async false
set_option linter.all false
set_option maxRecDepth 100000
namespace Td
open PySem PySem.Spec PyProof.Rows L2 TW
theorem pick_map {α β γ : Type} {f : α → γ} {g : β → γ} {P : β → Prop} : ∀ {l : List α}, (∀ x ∈ l, ∃ y, f x = g y ∧ P y) → ∃ m : List β, l.map f = m.map g ∧ ∀ y ∈ m, P y
  | [], _ => ⟨[], rfl, fun _ h => (nomatch h)⟩
  | x :: l, h => by
    obtain ⟨y, e, p⟩ := h x List.mem_cons_self
    obtain ⟨m, e2, p2⟩ := pick_map (f := f) (g := g) (P := P) (l := l) fun z hz => h z (List.mem_cons_of_mem _ hz)
    exact ⟨y :: m, by rw [List.map_cons, List.map_cons, e, e2], fun z hz => by
      rcases List.mem_cons.mp hz with q | q
      · rw [q]; exact p
      · exact p2 z q⟩
theorem sharings_all {n : Int} {ks : List (Int × Int)} (w : Web n ks) (hn : n ≤ 7) : ∃ M : List (List (List Int)), F_sharings_of [webD n ks] = .ok (M.map rD) ∧ F_all_sharings [webD n ks] = .ok (M.map rD) ∧ F__law_sharings [webD n ks] = .ok (M.map rD) ∧ (∀ so ∈ M, Shr n ks so) ∧ M.length ≤ 4782969 := by
  have wn := w.many
  obtain ⟨cs, cp, ce⟩ := perm_map_pick (sortD_perm ((crowds0 n ks).map tupD))
  have h1 := sharings_of_eq w hn cp ce
  have h2 := all_sharings_eq w hn cp ce
  have h3 := law_sharings_eq w hn cp ce
  have hs := sharings_same (cs := cs) w hn
  obtain ⟨L, lp, le⟩ := perm_map_pick (sortD_perm ((dfsL ks cs 40 []).map shD))
  have hcs : ∀ c ∈ cs, Crow n ks c ∧ 2 ≤ c.length := fun c hc => (crowds0_mem wn.1).mp (cp.mem_iff.mp hc)
  obtain ⟨M, me, mp⟩ := pick_map (f := shD) (g := rD) (P := Shr n ks) (l := L) fun so hso => by
    obtain ⟨rows, e1, e2⟩ := sh_rows so
    exact ⟨rows, e1, (dfs_shr hcs 40 Part.nil .nil so (lp.mem_iff.mp hso)).perm e2.symm⟩
  rw [le, me] at h1 h2
  rw [← hs, le, me] at h3
  refine ⟨M, h1, h2, h3, mp, ?_⟩
  have ml := congrArg List.length me
  rw [List.length_map, List.length_map, lp.length_eq] at ml
  rw [← ml]
  exact Nat.le_trans (dfs_few w hn cp 40 Part.nil) (cap_le hn [])
theorem gEq_rNil (L : List (List (List Int))) : gEq (.list (L.map rD)) (.list []) = .ok (.bool (decide (L = []))) := by
  have := gNe_rNil L
  unfold gNe at this
  unfold gEq
  split at this
  · rename_i h
    rw [if_pos h]
    simp only [R.ok.injEq, PyData.bool.injEq] at this ⊢
    rw [← Bool.not_not (PyData.eqv _ _), this, Bool.not_not]
  · cases this
end Td
set_option Elab.async false
set_option maxRecDepth 100000
namespace Td
end Td
set_option Elab.async false
set_option linter.all false
set_option maxRecDepth 100000
namespace Td
def Odd3 (n : Nat) (E : Nat → Nat → Bool) (a b c : Nat) : Prop := ∃ p, p < n ∧ p ≠ a ∧ p ≠ b ∧ p ≠ c ∧ ((E p a ^^ E p b) ^^ E p c) = true
structure Claw (n : Nat) (E : Nat → Nat → Bool) (a b c d : Nat) : Prop where
  ran : a < n ∧ b < n ∧ c < n ∧ d < n
  ne : b ≠ c ∧ b ≠ d ∧ c ≠ d
  tie : E a b = true ∧ E a c = true ∧ E a d = true
  no : E b c = false ∧ E b d = false ∧ E c d = false
structure OddPair (n : Nat) (E : Nat → Nat → Bool) (a b c d : Nat) : Prop where
  ran : a < n ∧ b < n ∧ c < n ∧ d < n
  ne : c ≠ d
  tie : E a b = true ∧ E a c = true ∧ E b c = true ∧ E a d = true ∧ E b d = true
  no : E c d = false
  odd : Odd3 n E a b c ∧ Odd3 n E a b d
def Barred (n : Nat) (E : Nat → Nat → Bool) : Prop := (∃ a b c d, Claw n E a b c d) ∨ ∃ a b c d, OddPair n E a b c d
theorem Barred.up {n : Nat} {E : Nat → Nat → Bool} (h : Barred n E) : Barred (n + 1) E := by
  rcases h with ⟨a, b, c, d, h⟩ | ⟨a, b, c, d, h⟩
  · exact .inl ⟨a, b, c, d, by have := h.ran; omega, h.ne, h.tie, h.no⟩
  · obtain ⟨⟨p, p1, p2⟩, q, q1, q2⟩ := h.odd
    exact .inr ⟨a, b, c, d, by have := h.ran; omega, h.ne, h.tie, h.no, ⟨p, by omega, p2⟩, q, by omega, q2⟩
structure Iso (n : Nat) (E F : Nat → Nat → Bool) (r s : Nat → Nat) : Prop where
  rn : ∀ i, i < n → r i < n
  sn : ∀ i, i < n → s i < n
  sr : ∀ i, i < n → s (r i) = i
  rs : ∀ i, i < n → r (s i) = i
  same : ∀ i j, i < n → j < n → E i j = F (r i) (r j)
section
variable {n : Nat} {E F G : Nat → Nat → Bool} {r s r' s' : Nat → Nat}
theorem Iso.inj (h : Iso n E F r s) {i j : Nat} (hi : i < n) (hj : j < n) (e : r i = r j) : i = j := by
  have := h.sr i hi
  rw [e, h.sr j hj] at this
  exact this.symm
theorem Iso.symm (h : Iso n E F r s) : Iso n F E s r := ⟨h.sn, h.rn, h.rs, h.sr, fun i j hi hj => by rw [h.same _ _ (h.sn i hi) (h.sn j hj), h.rs i hi, h.rs j hj]⟩
theorem Iso.trans (h : Iso n E F r s) (k : Iso n F G r' s') : Iso n E G (fun i => r' (r i)) (fun i => s (s' i)) :=
  ⟨fun i hi => k.rn _ (h.rn i hi), fun i hi => h.sn _ (k.sn i hi), fun i hi => by rw [k.sr _ (h.rn i hi), h.sr i hi], fun i hi => by rw [h.rs _ (k.sn i hi), k.rs i hi],
    fun i j hi hj => by rw [h.same i j hi hj, k.same _ _ (h.rn i hi) (h.rn j hj)]⟩
theorem Iso.ne (h : Iso n E F r s) {i j : Nat} (hi : i < n) (hj : j < n) (e : i ≠ j) : r i ≠ r j := fun q => e (h.inj hi hj q)
theorem Iso.odd (h : Iso n E F r s) {a b c : Nat} (ha : a < n) (hb : b < n) (hc : c < n) (o : Odd3 n E a b c) : Odd3 n F (r a) (r b) (r c) := by
  obtain ⟨p, p1, p2, p3, p4, p5⟩ := o
  exact ⟨r p, h.rn p p1, h.ne p1 ha p2, h.ne p1 hb p3, h.ne p1 hc p4, by rw [← h.same p a p1 ha, ← h.same p b p1 hb, ← h.same p c p1 hc]; exact p5⟩
end
def tri : Nat → Nat
  | 0 => 0
  | k + 1 => tri k + k
def adjC (c i j : Nat) : Bool := if i < j then c.testBit (tri j + i) else if j < i then c.testBit (tri i + j) else false
def dig (v k : Nat) : Nat := (v / 8 ^ k) % 8
def clawC (n : Nat) (E : Nat → Nat → Bool) (a b c d : Nat) : Bool :=
  (decide (a < n) && decide (b < n) && decide (c < n) && decide (d < n)) && (decide (b ≠ c) && decide (b ≠ d) && decide (c ≠ d)) && (E a b && E a c && E a d) && (!E b c && !E b d && !E c d)
def oddC (n : Nat) (E : Nat → Nat → Bool) (a b c p : Nat) : Bool := decide (p < n) && decide (p ≠ a) && decide (p ≠ b) && decide (p ≠ c) && ((E p a ^^ E p b) ^^ E p c)
def pairC (n : Nat) (E : Nat → Nat → Bool) (a b c d p q : Nat) : Bool :=
  (decide (a < n) && decide (b < n) && decide (c < n) && decide (d < n)) && decide (c ≠ d) && (E a b && E a c && E b c && E a d && E b d) && !E c d && (oddC n E a b c p && oddC n E a b d q)
def back (n v x : Nat) : Nat := (List.range n).foldl (fun a i => if dig v i = x then i else a) 0
def isoC (n c c2 v : Nat) : Bool := (List.range n).all fun i => decide (dig v i < n) && decide (back n v i < n) && decide (back n v (dig v i) = i) && decide (dig v (back n v i) = i) && (List.range n).all fun j => adjC c i j == adjC c2 (dig v i) (dig v j)
def chk (n : Nat) (rs : List Nat) (c v : Nat) : Bool := if v % 4 = 0 then clawC n (adjC c) (dig (v / 4) 0) (dig (v / 4) 1) (dig (v / 4) 2) (dig (v / 4) 3)
  else if v % 4 = 1 then pairC n (adjC c) (dig (v / 4) 0) (dig (v / 4) 1) (dig (v / 4) 2) (dig (v / 4) 3) (dig (v / 4) 4) (dig (v / 4) 5)
  else match rs[v / 4 / 8 ^ n]? with
    | some c2 => isoC n c c2 (v / 4)
    | none => false
structure Gr (n : Nat) (E : Nat → Nat → Bool) : Prop where
  symm : ∀ i j, i < n → j < n → E i j = E j i
  irr : ∀ i, i < n → E i i = false
def Known (n : Nat) (rs : List Nat) : Prop := ∀ E, Gr n E → ¬ Barred n E → ∃ c ∈ rs, ∃ r s, Iso n E (adjC c) r s
end Td
set_option Elab.async false
set_option linter.all false
set_option maxRecDepth 100000
namespace Td
open PySem PySem.Spec PyProof.Rows L2 TW
def webE (ks : List (Int × Int)) (i j : Nat) : Bool := tiedB ks i j
end Td
set_option Elab.async false
set_option linter.all false
set_option maxRecDepth 100000
namespace Td
open PySem PySem.Spec PyProof.Rows L2 TW
theorem pw_any {α : Type} {R : α → α → Prop} (hs : ∀ a b, R a b → R b a) : ∀ {l : List α}, l.Pairwise R → ∀ {a b : α}, a ∈ l → b ∈ l → a ≠ b → R a b
  | [], _, _, _, h, _, _ => by cases h
  | x :: l, p, a, b, ha, hb, ne => by
    obtain ⟨p1, p2⟩ := List.pairwise_cons.mp p
    rcases List.mem_cons.mp ha with e1 | ha'
    · rcases List.mem_cons.mp hb with e2 | hb'
      · exact absurd (e1.trans e2.symm) ne
      · exact e1 ▸ p1 b hb'
    · rcases List.mem_cons.mp hb with e2 | hb'
      · exact hs _ _ (e2 ▸ p1 a ha')
      · exact pw_any hs p2 ha' hb' ne
theorem nodupLeA {α : Type} : ∀ {ks ls : List α}, ks.Nodup → (∀ x ∈ ks, x ∈ ls) → ks.length ≤ ls.length
  | [], _, _, _ => Nat.zero_le _
  | x :: ks, ls, n, h => by
    obtain ⟨n1, n2⟩ := List.nodup_cons.mp n
    obtain ⟨l1, l2, rfl⟩ := List.append_of_mem (h x List.mem_cons_self)
    have := nodupLeA (ks := ks) (ls := l1 ++ l2) n2 fun y hy => by
      have := h y (List.mem_cons_of_mem _ hy)
      rw [List.mem_append, List.mem_cons] at this
      rw [List.mem_append]
      rcases this with z | z | z
      · exact .inl z
      · exact absurd (z ▸ hy) n1
      · exact .inr z
    rw [List.length_append] at this
    rw [List.length_cons, List.length_append, List.length_cons]
    omega
section
variable {n : Int} {ks : List (Int × Int)} {so : List (List Int)}
theorem Shr.uniq (s : Shr n ks so) {c c' : List Int} {x y : Int} (hc : c ∈ so) (hc' : c' ∈ so) (hxy : x ≠ y) (h1 : x ∈ c) (h2 : y ∈ c) (h3 : x ∈ c') (h4 : y ∈ c') : c = c' := by
  apply Classical.byContradiction
  intro ne
  exact hxy (pw_any (fun a b q x y p1 p2 p3 p4 => q x y p2 p1 p4 p3) s.one hc hc' ne x y h1 h3 h2 h4)
theorem Shr.tied (s : Shr n ks so) {c : List Int} (hc : c ∈ so) {x y : Int} (hx : x ∈ c) (hy : y ∈ c) (hxy : x ≠ y) : tiedB ks x y = true := by
  have k := (s.crow c hc).1.tied
  exact pw_any (fun a b q => by rw [tiedB_comm]; exact q) k hx hy hxy
theorem Shr.crowd (s : Shr n ks so) (w : Web n ks) {x y : Int} (h : tiedB ks x y = true) : ∃ c ∈ so, x ∈ c ∧ y ∈ c := by
  unfold tiedB at h
  obtain ⟨c, hc, e⟩ := s.all _ (of_decide_eq_true h)
  unfold inC at e
  rw [Bool.and_eq_true, decide_eq_true_eq, decide_eq_true_eq] at e
  refine ⟨c, hc, ?_⟩
  rcases Int.le_total x y with q | q
  · rw [Int.min_eq_left q, Int.max_eq_right q] at e
    exact e
  · rw [Int.min_eq_right q, Int.max_eq_left q] at e
    exact ⟨e.2, e.1⟩
theorem Shr.three (s : Shr n ks so) {x : Int} {c d e : List Int} (hc : c ∈ so) (hd : d ∈ so) (he : e ∈ so) (xc : x ∈ c) (xd : x ∈ d) (xe : x ∈ e) (h1 : c ≠ d) (h2 : c ≠ e) (h3 : d ≠ e) : False := by
  have := s.deg x
  unfold degS at this
  rw [List.countP_eq_length_filter] at this
  have k := nodupLeA (ks := [c, d, e]) (ls := so.filter fun o => decide (x ∈ o)) (by simp [h1, h2, h3]) fun z hz => by
    simp at hz
    rw [List.mem_filter, decide_eq_true_eq]
    rcases hz with rfl | rfl | rfl
    · exact ⟨hc, xc⟩
    · exact ⟨hd, xd⟩
    · exact ⟨he, xe⟩
  simp at k
  omega
theorem tied_ne (w : Web n ks) {x y : Int} (h : tiedB ks x y = true) : x ≠ y := by
  intro e
  subst e
  unfold tiedB at h
  have := (w.ties _ (of_decide_eq_true h)).2.1
  simp at this
theorem Shr.odd (s : Shr n ks so) (w : Web n ks) {m : Nat} {a b c : Nat} (hab : webE ks a b = true) (hac : webE ks a c = true) (hbc : webE ks b c = true) (o : Odd3 m (webE ks) a b c) {C : List Int} (hC : C ∈ so) (aC : (a : Int) ∈ C) (bC : (b : Int) ∈ C) : (c : Int) ∈ C := by
  apply Classical.byContradiction
  intro cC
  have nab := tied_ne w hab
  have nac := tied_ne w hac
  have nbc := tied_ne w hbc
  obtain ⟨D, hD, aD, cD⟩ := s.crowd w hac
  obtain ⟨E, hE, bE, cE⟩ := s.crowd w hbc
  have CD : C ≠ D := fun e => cC (e ▸ cD)
  have CE : C ≠ E := fun e => cC (e ▸ cE)
  have DE : D ≠ E := fun e => CD (s.uniq hC hD nab aC bC aD (e ▸ bE))
  obtain ⟨p, _, pa, pb, pc, odd⟩ := o
  have pa' : (p : Int) ≠ a := by omega
  have pb' : (p : Int) ≠ b := by omega
  have pc' : (p : Int) ≠ c := by omega
  -- p tied to a lies in C or D, and so on
  have ta : webE ks p a = true ↔ ((p : Int) ∈ C ∨ (p : Int) ∈ D) := by
    constructor
    · intro h
      obtain ⟨F, hF, pF, aF⟩ := s.crowd w h
      by_cases q1 : F = C
      · exact .inl (q1 ▸ pF)
      · by_cases q2 : F = D
        · exact .inr (q2 ▸ pF)
        · exact (s.three hF hC hD aF aC aD q1 q2 CD).elim
    · rintro (h | h)
      · exact s.tied hC h aC pa'
      · exact s.tied hD h aD pa'
  have tb : webE ks p b = true ↔ ((p : Int) ∈ C ∨ (p : Int) ∈ E) := by
    constructor
    · intro h
      obtain ⟨F, hF, pF, bF⟩ := s.crowd w h
      by_cases q1 : F = C
      · exact .inl (q1 ▸ pF)
      · by_cases q2 : F = E
        · exact .inr (q2 ▸ pF)
        · exact (s.three hF hC hE bF bC bE q1 q2 CE).elim
    · rintro (h | h)
      · exact s.tied hC h bC pb'
      · exact s.tied hE h bE pb'
  have tc : webE ks p c = true ↔ ((p : Int) ∈ D ∨ (p : Int) ∈ E) := by
    constructor
    · intro h
      obtain ⟨F, hF, pF, cF⟩ := s.crowd w h
      by_cases q1 : F = D
      · exact .inl (q1 ▸ pF)
      · by_cases q2 : F = E
        · exact .inr (q2 ▸ pF)
        · exact (s.three hF hD hE cF cD cE q1 q2 DE).elim
    · rintro (h | h)
      · exact s.tied hD h cD pc'
      · exact s.tied hE h cE pc'
  have x1 : ¬((p : Int) ∈ C ∧ (p : Int) ∈ D) := fun h => CD (s.uniq hC hD pa' h.1 aC h.2 aD)
  have x2 : ¬((p : Int) ∈ C ∧ (p : Int) ∈ E) := fun h => CE (s.uniq hC hE pb' h.1 bC h.2 bE)
  have x3 : ¬((p : Int) ∈ D ∧ (p : Int) ∈ E) := fun h => DE (s.uniq hD hE pc' h.1 cD h.2 cE)
  by_cases y1 : (p : Int) ∈ C
  · have y2 : (p : Int) ∉ D := fun h => x1 ⟨y1, h⟩
    have y3 : (p : Int) ∉ E := fun h => x2 ⟨y1, h⟩
    rw [ta.mpr (.inl y1), tb.mpr (.inl y1), Bool.eq_false_iff.mpr fun h => (tc.mp h).elim y2 y3] at odd
    cases odd
  · by_cases y2 : (p : Int) ∈ D
    · have y3 : (p : Int) ∉ E := fun h => x3 ⟨y2, h⟩
      rw [ta.mpr (.inr y2), tc.mpr (.inl y2), Bool.eq_false_iff.mpr fun h => (tb.mp h).elim y1 y3] at odd
      cases odd
    · by_cases y3 : (p : Int) ∈ E
      · rw [tb.mpr (.inr y3), tc.mpr (.inr y3), Bool.eq_false_iff.mpr fun h => (ta.mp h).elim y1 y2] at odd
        cases odd
      · rw [Bool.eq_false_iff.mpr fun h => (ta.mp h).elim y1 y2, Bool.eq_false_iff.mpr fun h => (tb.mp h).elim y1 y3, Bool.eq_false_iff.mpr fun h => (tc.mp h).elim y2 y3] at odd
        cases odd
end
end Td
set_option Elab.async false
set_option linter.all false
set_option maxRecDepth 100000
namespace Td
open PySem PySem.Spec PyProof.Rows L2 TW
def nP (a b : Int) : Int × Int := (min a b, max a b)
structure Clq (n : Int) (left : List (Int × Int)) (c : List Int) : Prop where
  nd : c.Nodup
  ran : ∀ x ∈ c, 0 ≤ x ∧ x < n
  tie : ∀ x ∈ c, ∀ y ∈ c, x ≠ y → nP x y ∈ left
structure Prt (n : Int) (left : List (Int × Int)) (often : List Int) (so : List (List Int)) : Prop where
  clq : ∀ c ∈ so, Clq n left c
  deg : ∀ x, 0 ≤ x ∧ x < n → atL often x + degS so x ≤ 2
  one : so.Pairwise oneC
  all : ∀ p ∈ left, ∃ c ∈ so, p.1 ∈ c ∧ p.2 ∈ c
theorem oneC_symm (a b : List Int) (h : oneC a b) : oneC b a := fun x y p1 p2 p3 p4 => h x y p2 p1 p4 p3
theorem Prt.perm {n : Int} {left : List (Int × Int)} {often : List Int} {so so' : List (List Int)} (s : Prt n left often so) (h : so.Perm so') : Prt n left often so' :=
  ⟨fun c hc => s.clq c (h.mem_iff.mpr hc), fun x hx => by rw [← deg_perm h]; exact s.deg x hx, (h.pairwise_iff fun q => oneC_symm _ _ q).mp s.one, fun p hp => by
    obtain ⟨c, hc, e⟩ := s.all p hp
    exact ⟨c, h.mem_iff.mp hc, e⟩⟩
end Td
set_option Elab.async false
set_option linter.all false
set_option maxRecDepth 100000
namespace Td
open PySem PySem.Spec PyProof.Rows L2 TW
end Td
set_option Elab.async false
set_option linter.all false
set_option maxRecDepth 100000
namespace Td
open PySem PySem.Spec PyProof.Rows L2 TW
end Td
set_option Elab.async false
set_option linter.all false
set_option maxRecDepth 100000
namespace TW
open PySem PySem.Spec PyProof.Rows L2
end TW
set_option Elab.async false
set_option linter.all false
set_option maxRecDepth 100000
namespace Td
open PySem PySem.Spec PyProof.Rows L2 TW
end Td
set_option Elab.async false
set_option linter.all false
set_option maxRecDepth 100000
namespace Td
open PySem PySem.Spec PyProof.Rows L2 TW
end Td
set_option Elab.async false
set_option linter.all false
set_option maxRecDepth 100000
namespace Td
open PySem PySem.Spec PyProof.Rows L2 TW
end Td
set_option Elab.async false
set_option linter.all false
set_option maxRecDepth 100000
namespace Td
open PySem PySem.Spec PyProof.Rows L2 TW
@[simp] theorem rn_mIdx {mo m : M D} {cs : List C} {QL : D → List C → Prop} : Rn (mIdx mo m) cs QL ↔ Rn mo cs fun d c => ∃ ds, d = .tuple ds ∧ Rn m c fun e c => Ev (gIdx (.tuple ds) e) fun z => QL z c := by
  unfold mIdx
  rw [rn_bind]
  constructor
  · refine fun h => h.mono fun d c h => ?_
    cases d with
    | tuple ds =>
      refine ⟨ds, rfl, ?_⟩
      simpa [rn_bind, rn_only] using h
    | _ =>
      obtain ⟨_, _, h, _⟩ := h
      cases h
  · refine fun h => h.mono fun d c h => ?_
    obtain ⟨ds, rfl, h⟩ := h
    simpa [rn_bind, rn_only] using h
end Td
set_option Elab.async false
set_option linter.all false
set_option maxRecDepth 100000
namespace TW
open PySem PySem.Spec PyProof.Rows L2
end TW
set_option Elab.async false
set_option linter.all false
set_option maxRecDepth 100000
namespace Td
open PySem PySem.Spec PyProof.Rows L2 TW
end Td
set_option Elab.async false
set_option linter.all false
set_option maxRecDepth 100000
namespace Td
open PySem PySem.Spec PyProof.Rows L2 TW
end Td
set_option Elab.async false
set_option linter.all false
set_option maxRecDepth 100000
namespace Td
open PySem PySem.Spec PyProof.Rows L2 TW
end Td
set_option Elab.async false
set_option linter.all false
set_option maxRecDepth 100000
namespace Td
open PySem PySem.Spec PyProof.Rows L2 TW
end Td
set_option Elab.async false
set_option linter.all false
set_option maxRecDepth 100000
namespace Td
open PySem PySem.Spec PyProof.Rows L2 TW
end Td
set_option Elab.async false
set_option linter.all false
set_option maxRecDepth 100000
namespace Td
open PySem PySem.Spec PyProof.Rows L2 TW
end Td
set_option Elab.async false
set_option linter.all false
set_option maxRecDepth 100000
namespace Td
open PySem PySem.Spec PyProof.Rows L2 TW
end Td
set_option Elab.async false
set_option linter.all false
set_option maxRecDepth 100000
namespace Td
open PySem PySem.Spec PyProof.Rows L2 TW
def latL (ks : List (Int × Int)) (some : List Int) (b : Int) : List Int := some.filter fun c => decide (b < c) && !tiedB ks b c
def fD (ks : List (Int × Int)) (a b : Int) (lt : List Int) (c : Int) : Option (List Int) := (lt.find? fun d => decide (c < d) && !tiedB ks c d).map fun d => [a, b, c, d]
def fC (ks : List (Int × Int)) (a : Int) (some : List Int) (b : Int) : Option (List Int) := (latL ks some b).findSome? (fD ks a b (latL ks some b))
end Td
set_option Elab.async false
set_option linter.all false
set_option maxRecDepth 100000
namespace Td
open PySem PySem.Spec PyProof.Rows L2 TW
end Td
set_option Elab.async false
set_option linter.all false
set_option maxRecDepth 100000
namespace Td
open PySem PySem.Spec PyProof.Rows L2 TW
end Td
set_option Elab.async false
set_option linter.all false
set_option maxRecDepth 100000
namespace Td
open PySem PySem.Spec PyProof.Rows L2 TW
end Td
set_option Elab.async false
set_option linter.all false
set_option maxRecDepth 100000
namespace Td
open PySem PySem.Spec PyProof.Rows L2 TW
end Td
set_option Elab.async false
set_option linter.all false
set_option maxRecDepth 100000
namespace Td
open PySem PySem.Spec PyProof.Rows L2 TW
end Td
set_option Elab.async false
set_option linter.all false
set_option maxRecDepth 100000
namespace Td
open PySem PySem.Spec PyProof.Rows L2 TW
end Td
set_option Elab.async false
set_option linter.all false
set_option maxRecDepth 100000
namespace Td
open PySem PySem.Spec PyProof.Rows L2 TW
end Td
set_option Elab.async false
set_option linter.all false
set_option maxRecDepth 100000
namespace Td
open PySem PySem.Spec PyProof.Rows L2 TW
theorem need_place_ok {n : Int} {ks : List (Int × Int)} {v : Int} (h : 0 ≤ v ∧ v < n) : F_need_place [webD n ks, .int v] = .ok .none := by
  apply Ev.eq
  unfold F_need_place
  rw [ev_fnD]
  simp [b_need_place, unfill, is_place_eq (d := .int v) rfl, placeB, h.1, h.2]
end Td
set_option Elab.async false
set_option linter.all false
set_option maxRecDepth 100000
namespace Td
open PySem PySem.Spec PyProof.Rows L2 TW
end Td
set_option Elab.async false
set_option linter.all false
set_option maxRecDepth 100000
namespace Td
open PySem PySem.Spec PyProof.Rows L2 TW
end Td
set_option Elab.async false
set_option linter.all false
set_option maxRecDepth 100000
namespace Td
open PySem PySem.Spec PyProof.Rows L2 TW
end Td
set_option Elab.async false
set_option linter.all false
set_option maxRecDepth 100000
namespace Td
open PySem PySem.Spec PyProof.Rows L2 TW
open TL (tl spl joinL numL)
open NumText (digitsVal AllDigits)
theorem comp_txt {g : D → R D} {v : Nat} {c0 : List C} (hv : c0[v]? = some .un) {α : Type} {φ : α → D} {l : List α} (s : α → List Nat) (h : ∀ a ∈ l, g (φ a) = .ok (strD (s a))) :
    Rn (compGo [v] [v] fName mYes (mOp1 g (vVar v)) (l.map φ)) c0 fun ds c => ds = (l.map s).map strD ∧ c = c0 := by
  have hl : v < c0.length := (List.getElem?_eq_some_iff.mp hv).1
  refine comp_mapM (φ := φ) (g := fun a => strD (s a)) (fun a ha => ?_) ⟨by rw [List.map_map]; rfl, rfl⟩
  rw [show fName (φ a) = .ok [φ a] from rfl, ev_ok]
  have g4 : (c0.set v (.dat (φ a)))[v]? = some (.dat (φ a)) := by rw [List.getElem?_set_self hl]
  have w4 : (c0.set v (.dat (φ a))).set v .un = c0 := by
    rw [List.set_set]
    refine List.ext_getElem? fun j => ?_
    by_cases q : v = j
    · subst q; rw [List.getElem?_set_self hl, hv]
    · rw [List.getElem?_set_ne q]
  simp [setC, g4, h a ha, wipeC, w4]
def numsL (is : List Int) : List Nat := joinL [32] (is.map fun i => numL i.toNat)
theorem numL_len7 {i : Int} (h : 0 ≤ i ∧ i < 1000000) : (numL i.toNat).length ≤ 6 := TL.numL_len (k := 6) (by decide) (by omega)
theorem join_nums {is : List Int} (h : ∀ i ∈ is, 0 ≤ i ∧ i < 1000000) (hl : is.length ≤ 1000) : gJoin (S [32]) (.list ((is.map fun i => numL i.toNat).map strD)) = .ok (strD (numsL is)) := by
  refine gJoin_S ?_
  unfold joinLen
  have := sum_le (b := 6) (ws := is.map fun i => numL i.toNat) fun w hw => by
    obtain ⟨i, hi, rfl⟩ := List.mem_map.mp hw
    exact numL_len7 (h i hi)
  rw [List.length_map] at this ⊢
  omega
section
variable {n : Int} {ks : List (Int × Int)} {x : Addr} {qs : List D}
theorem cnt_few (w : Web n ks) (v : Int) : cnt v ks ≤ 14 := by
  have wn := w.many
  have h := near_len (pw_nodup w.pw) w.ties v
  rw [← h]
  have h1 : (nearL n ks v).length ≤ (rgI 0 n).length := List.length_filter_le _ _
  have h2 : (rgI 0 n).length = n.toNat := by simp [rgI]
  omega
theorem sum_bnd {α : Type} {f : α → Int} {b : Int} : ∀ {l : List α}, (∀ a ∈ l, f a ≤ b) → (l.map f).sum ≤ b * l.length
  | [], _ => by simp
  | a :: l, h => by
    have h1 := h a List.mem_cons_self
    have h2 := sum_bnd (l := l) fun x hx => h x (List.mem_cons_of_mem _ hx)
    rw [List.map_cons, List.sum_cons, List.length_cons]
    have : b * ((l.length + 1 : Nat) : Int) = b * (l.length : Int) + b := by rw [Int.natCast_add, Int.mul_add]; simp
    omega
theorem c2_le {c b : Nat} (h : c ≤ b) : c2 (c : Int) ≤ (b * b : Nat) := by
  unfold c2
  have h1 : (c : Int) * ((c : Int) - 1) ≤ (b : Int) * (b : Int) := by
    have a1 : (c : Int) ≤ b := by omega
    have a2 : (c : Int) * ((c : Int) - 1) ≤ (c : Int) * (c : Int) := by
      rw [Int.mul_sub]; omega
    have a3 : (c : Int) * (c : Int) ≤ (b : Int) * (b : Int) := Int.mul_le_mul a1 a1 (by omega) (by omega)
    omega
  have h2 : ((b * b : Nat) : Int) = (b : Int) * (b : Int) := by rw [Int.natCast_mul]
  have h3 : 0 ≤ (b : Int) * (b : Int) := Int.mul_nonneg (by omega) (by omega)
  omega
theorem made_few (w : Web n ks) : (madeL ks).length ≤ 3000 := by
  have wn := w.many
  have h1 := made_len ks
  have h2 := meets_sum (pw_nodup w.pw) w.ties
  have h3 := sum_bnd (f := fun v => c2 (cnt v ks)) (b := (14 * 14 : Nat)) (l := rgI 0 n) fun v _ => c2_le (cnt_few w v)
  rw [rgI_length] at h3
  have : ((n - 0).toNat : Int) ≤ 14 := by omega
  omega
theorem made_many (w : Web n ks) : (madeL (madeL ks)).length ≤ 100000 := by
  have wl := w.len
  have h1 := made_len (madeL ks)
  have h2 := meets_sum (n := (ks.length : Nat)) (pw_nodup (made_pw ks)) (made_ties ks)
  have h3 := sum_bnd (f := fun v => c2 (cnt v (madeL ks))) (b := (26 * 26 : Nat)) (l := rgI 0 (ks.length : Nat)) fun v hv => c2_le (by
    have hv' := rgI_mem.mp hv
    have e := made_cnt (pw_nodup w.pw) (fun p hp => (w.ties p hp).2.1) (i := v) ⟨hv'.1, hv'.2⟩
    have a1 := cnt_few w (tieAt ks v).1
    have a2 := cnt_few w (tieAt ks v).2
    omega)
  rw [rgI_length] at h3
  have : (((ks.length : Nat) : Int) - 0).toNat = ks.length := by omega
  rw [this] at h3
  omega
def sizesI (n : Int) (ks : List (Int × Int)) : List Int := [n, ks.length, (madeL ks).length, (madeL (madeL ks)).length]
theorem sizes_ok (w : Web n ks) : ∀ i ∈ sizesI n ks, 0 ≤ i ∧ i < 1000000 := fun i hi => by
  have wn := w.many
  have wl := w.len
  have h1 := made_few w
  have h2 := made_many w
  unfold sizesI at hi
  simp at hi
  omega
theorem plain_w {h : List Nat} (m : h ∈ alone7) : plainS h := alone_plain h m
theorem gEq_w {a b : List Nat} (ha : a ∈ alone7) (hb : b ∈ alone7) : gEq (strD a) (strD b) = .ok (.bool (decide (a = b))) := gEq_S (plain_w ha) (plain_w hb)
def toldC (x : Addr) (n : Int) (ks : List (Int × Int)) (qs : List D) (h : List Nat) (s2 : C) : List C := [.dat (dskD x (webD n ks) qs), .dat (strD h), s2, .un, .un, .un, .un]
theorem told_web (w : Web n ks) : F_Desk_told [dskD x (webD n ks) qs, strD webL] = .ok (strD (textL n ks)) := by
  apply Ev.eq
  unfold F_Desk_told
  rw [ev_fnD]
  unfold b_Desk_told
  show Rn _ (toldC x n ks qs webL .un) _
  have e1 := gEq_w (a := webL) (b := webL) (by decide) (by decide)
  unfold toldC
  simp [web_str, e1, shown_eq w, mWeb]
theorem told_ahead (w : Web n ks) : F_Desk_told [dskD x (webD n ks) qs, strD aheadL] = .ok (strD (numsL (sizesI n ks))) := by
  apply Ev.eq
  unfold F_Desk_told
  rw [ev_fnD]
  unfold b_Desk_told
  show Rn _ (toldC x n ks qs aheadL .un) _
  have e1 : gEq (strD aheadL) (strD webL) = .ok (.bool false) := gEq_w (a := aheadL) (b := webL) (by decide) (by decide)
  have e2 : gEq (strD aheadL) (strD aheadL) = .ok (.bool true) := gEq_w (a := aheadL) (b := aheadL) (by decide) (by decide)
  have sz := sizes_ahead_eq w
  have sz : F_sizes_ahead [webD n ks] = .ok ((sizesI n ks).map .int) := sz
  have j := join_nums (sizes_ok w) (by unfold sizesI; simp)
  have sB : Str.ofString " " = S [32] := rfl
  unfold toldC
  simp [web_str, ahead_str, e1, e2, mWeb, sz, rn_mComp, wipeC]
  refine (comp_txt (g := gStr) (v := 3) (φ := PyData.int) (l := sizesI n ks) rfl (fun i => numL i.toNat) fun i hi => gStr_num (sizes_ok w i hi)).mono ?_
  rintro ds c ⟨rfl, rfl⟩
  rw [sB, j, ev_ok]
end
end Td
set_option Elab.async false
set_option linter.all false
set_option maxRecDepth 100000
namespace Td
open PySem PySem.Spec PyProof.Rows L2 TW
open TL (tl spl joinL numL)
open NumText (digitsVal AllDigits)
def goneL : List Nat := [103, 111, 110, 101]
def staysL : List Nat := [115, 116, 97, 121, 115]
def growsL : List Nat := [103, 114, 111, 119, 115]
inductive FateR : D → List Nat → Prop
  | gone {n : Int} : 0 ≤ n ∧ n ≤ 14 → FateR (goneD n) (joinL [32] [goneL, numL n.toNat])
  | stays {n : Int} : 0 ≤ n ∧ n ≤ 14 → FateR (staysD n) (joinL [32] [staysL, numL n.toNat])
  | grows : FateR growsD (joinL [32] [growsL])
theorem fate_rel {n : Int} {ks : List (Int × Int)} (w : Web n ks) (j : joinedB n ks = true) : ∃ d t, F_fate [webD n ks] = .ok d ∧ FateR d t := by
  have wn := w.many
  obtain ⟨cs, hc, hp⟩ := sorted_counts (n := n) ks
  rw [fate_eq w j hc hp.1]
  unfold fateV
  split
  · exact ⟨_, _, rfl, .gone wn⟩
  · split
    · exact ⟨_, _, rfl, .stays wn⟩
    · split
      · exact ⟨_, _, rfl, .stays (by omega)⟩
      · exact ⟨_, _, rfl, .grows⟩
theorem gStrT_I {i : Int} (h : 0 ≤ i ∧ i < 1000000) : gStrT (.int i) = .ok (strD (numL i.toNat)) := gStr_num h
theorem join_fate {d : D} {t : List Nat} (h : FateR d t) {v : Nat} {c0 : List C} (hv : c0[v]? = some .un) : ∃ ds, gSeq d = .ok ds ∧ Rn (compGo [v] [v] fName mYes (mOp1 gStrT (vVar v)) ds) c0 fun es c => gJoin (S [32]) (.list es) = .ok (strD t) ∧ c = c0 := by
  have go : ∀ (l : List (D × List Nat)), (∀ p ∈ l, gStrT p.1 = .ok (strD p.2)) → joinLen (l.map (·.2)) ≤ 16777216 → Rn (compGo [v] [v] fName mYes (mOp1 gStrT (vVar v)) (l.map (·.1))) c0 fun es c => gJoin (S [32]) (.list es) = .ok (strD (joinL [32] (l.map (·.2)))) ∧ c = c0 := fun l hl hj =>
    (comp_txt (g := gStrT) (φ := fun p : D × List Nat => p.1) (l := l) hv (fun p => p.2) hl).mono fun es c ⟨e1, e2⟩ => by
      subst e1 e2
      exact ⟨gJoin_S hj, rfl⟩
  cases h with
  | gone hn =>
    rename_i n
    have l2 := num_short (i := n) (by omega)
    exact ⟨_, rfl, go [(strD goneL, goneL), (.int n, numL n.toNat)] (fun p hp => by
      simp at hp
      rcases hp with rfl | rfl
      · rfl
      · exact gStrT_I (by omega)) (by simp [joinLen, goneL]; omega)⟩
  | stays hn =>
    rename_i n
    have l2 := num_short (i := n) (by omega)
    exact ⟨_, rfl, go [(strD staysL, staysL), (.int n, numL n.toNat)] (fun p hp => by
      simp at hp
      rcases hp with rfl | rfl
      · rfl
      · exact gStrT_I (by omega)) (by simp [joinLen, staysL]; omega)⟩
  | grows =>
    exact ⟨_, rfl, go [(strD growsL, growsL)] (fun p hp => by
      simp at hp
      subst hp
      rfl) (by simp [joinLen, growsL])⟩
theorem TL_join_len (s : Nat) : ∀ ws : List (List Nat), (joinL [s] ws).length ≤ joinLen ws
  | [] => by simp [joinL]
  | [p] => by simp [joinL, joinLen]
  | p :: q :: r => by
    have ih := TL_join_len s (q :: r)
    show (p ++ ([s] ++ joinL [s] (q :: r))).length ≤ _
    unfold joinLen at ih ⊢
    simp at ih ⊢
    omega
theorem TL_join_len3 : ∀ ws : List (List Nat), (joinL [32, 43, 32] ws).length ≤ joinLen ws * 3
  | [] => by simp [joinL]
  | [p] => by simp [joinL, joinLen]; omega
  | p :: q :: r => by
    have ih := TL_join_len3 (q :: r)
    show (p ++ ([32, 43, 32] ++ joinL [32, 43, 32] (q :: r))).length ≤ _
    unfold joinLen at ih ⊢
    simp at ih ⊢
    omega
theorem numL_ne (i : Nat) : numL i ≠ [] := fun h => by
  have := numQ_num i
  rw [h] at this
  cases this
section
variable {n : Int} {ks : List (Int × Int)} {x : Addr} {qs : List D}
theorem told_fate (w : Web n ks) (j : joinedB n ks = true) {d : D} {t : List Nat} (hd : F_fate [webD n ks] = .ok d) (h : FateR d t) : F_Desk_told [dskD x (webD n ks) qs, strD fateL] = .ok (strD t) := by
  apply Ev.eq
  unfold F_Desk_told
  rw [ev_fnD]
  unfold b_Desk_told
  show Rn _ (toldC x n ks qs fateL .un) _
  have e1 : gEq (strD fateL) (strD webL) = .ok (.bool false) := gEq_w (a := fateL) (b := webL) (by decide) (by decide)
  have e2 : gEq (strD fateL) (strD aheadL) = .ok (.bool false) := gEq_w (a := fateL) (b := aheadL) (by decide) (by decide)
  have e3 : gEq (strD fateL) (strD fateL) = .ok (.bool true) := gEq_w (a := fateL) (b := fateL) (by decide) (by decide)
  have sB : Str.ofString " " = S [32] := rfl
  obtain ⟨ds, g1, g2⟩ := join_fate h (v := 4) (c0 := toldC x n ks qs fateL .un) rfl
  unfold toldC at g2 ⊢
  simp [web_str, ahead_str, fate_str, e1, e2, e3, mWeb, hd, rn_mComp, wipeC, g1]
  refine g2.mono ?_
  rintro es c ⟨e, rfl⟩
  rw [sB, e, ev_ok]
theorem told_root (w : Web n ks) {M : List (List (List Int))} (hM : F_all_sharings [webD n ks] = .ok (M.map rD)) : F_Desk_told [dskD x (webD n ks) qs, strD rootL] = .ok (.str (if M = [] then "no" else "yes")) := by
  apply Ev.eq
  unfold F_Desk_told
  rw [ev_fnD]
  unfold b_Desk_told
  show Rn _ (toldC x n ks qs rootL .un) _
  have e1 : gEq (strD rootL) (strD webL) = .ok (.bool false) := gEq_w (a := rootL) (b := webL) (by decide) (by decide)
  have e2 : gEq (strD rootL) (strD aheadL) = .ok (.bool false) := gEq_w (a := rootL) (b := aheadL) (by decide) (by decide)
  have e3 : gEq (strD rootL) (strD fateL) = .ok (.bool false) := gEq_w (a := rootL) (b := fateL) (by decide) (by decide)
  have e4 : gEq (strD rootL) (strD rootL) = .ok (.bool true) := gEq_w (a := rootL) (b := rootL) (by decide) (by decide)
  have gn := gNe_rNil M
  unfold toldC
  simp [web_str, ahead_str, fate_str, root_str, e1, e2, e3, e4, mWeb, hM, gn]
  by_cases q : M = []
  · subst q
    simp [gInt]
  · simp [q, gInt]
def crowdT (c : List Int) : List Nat := numsL c
def noneL : List Nat := [110, 111, 110, 101]
def sharedT (so : List (List Int)) : List Nat := if so = [] then noneL else joinL [32, 43, 32] (so.map crowdT)
theorem crowd_num (w : Web n ks) {so : List (List Int)} (s : Shr n ks so) : ∀ c ∈ so, (∀ i ∈ c, 0 ≤ i ∧ i < 1000000) ∧ c.length ≤ 14 ∧ 2 ≤ c.length := fun c hc => by
  have wn := w.many
  obtain ⟨h1, h2⟩ := s.crow c hc
  have h3 := h1.len wn.1
  exact ⟨fun i hi => by have := h1.ran i hi; omega, by omega, h2⟩
theorem shared_len (w : Web n ks) {so : List (List Int)} (s : Shr n ks so) : so.length ≤ 28 := by
  have wn := w.many
  have h := many_le s wn.1
  omega
theorem join3 {ws : List (List Nat)} (h : joinLen ws * 3 ≤ 16777216) : gJoin (S [32, 43, 32]) (.list (ws.map strD)) = .ok (strD (joinL [32, 43, 32] ws)) := by
  unfold gJoin
  simp only [strsD_S, SX.lens, SX.S_len, SX.join_S, List.length_map]
  rw [if_pos]
  · rfl
  · unfold joinLen at h
    rw [decide_eq_true_eq]
    show (ws.map fun x => x.length).sum + ws.length * 3 ≤ 16777216
    have h0 : (ws.map (·.length)).sum = (ws.map fun x => x.length).sum := rfl
    omega
theorem join_ne {s : List Nat} {w : List Nat} {ws : List (List Nat)} (h : w ≠ []) : joinL s (w :: ws) ≠ [] := by
  cases ws with
  | nil => exact h
  | cons v vs =>
    show w ++ (s ++ joinL s (v :: vs)) ≠ []
    simp [h]
theorem crowd_len (w : Web n ks) {so : List (List Int)} (s : Shr n ks so) : joinLen (so.map crowdT) * 3 ≤ 16777216 := by
  have h1 := shared_len w s
  have h2 := sum_le (b := 98) (ws := so.map crowdT) fun t ht => by
    obtain ⟨c, hc, rfl⟩ := List.mem_map.mp ht
    obtain ⟨a1, a2, a3⟩ := crowd_num w s c hc
    have b1 := TL_join_len 32 (c.map fun i => numL i.toNat)
    have b2 := sum_le (b := 6) (ws := c.map fun i => numL i.toNat) fun v hv => by
      obtain ⟨i, hi, rfl⟩ := List.mem_map.mp hv
      exact numL_len7 (a1 i hi)
    unfold joinLen at b1
    rw [List.length_map] at b1 b2
    show (joinL [32] (c.map fun i => numL i.toNat)).length ≤ 98
    omega
  unfold joinLen
  rw [List.length_map] at h2 ⊢
  omega
theorem crowds_ev (w : Web n ks) {so : List (List Int)} (s : Shr n ks so) {v u : Nat} {c0 : List C} (huv : u ≠ v) (hv : c0[v]? = some .un) (hu : c0[u]? = some .un) :
    Rn (compGo [v] [v] fName mYes (mJoin (mC (.str " ")) (mOfN (mComp [u] [u] fName (mSeq1 (mVar v)) mYes (mOp1 gStr (vVar u))))) (so.map tupD)) c0 fun ds c => ds = (so.map crowdT).map strD ∧ c = c0 := by
  have lv : v < c0.length := (List.getElem?_eq_some_iff.mp hv).1
  have lu : u < c0.length := (List.getElem?_eq_some_iff.mp hu).1
  have sB : Str.ofString " " = S [32] := rfl
  refine comp_mapM (φ := tupD) (g := fun c => strD (crowdT c)) (fun c hc => ?_) ⟨by rw [List.map_map]; rfl, rfl⟩
  obtain ⟨a1, a2, a3⟩ := crowd_num w s c hc
  rw [show fName (tupD c) = .ok [tupD c] from rfl, ev_ok]
  have g1 : (c0.set v (.dat (tupD c)))[v]? = some (.dat (tupD c)) := by rw [List.getElem?_set_self lv]
  have g2 : (c0.set v (.dat (tupD c)))[u]? = some .un := by rw [List.getElem?_set_ne (Ne.symm huv)]; exact hu
  have w1 : (c0.set v (.dat (tupD c))).set u .un = c0.set v (.dat (tupD c)) := by
    refine List.ext_getElem? fun j => ?_
    by_cases q : u = j
    · subst q; rw [List.getElem?_set_self (by rw [List.length_set]; exact lu), g2]
    · rw [List.getElem?_set_ne q]
  have w2 : (c0.set v (.dat (tupD c))).set v .un = c0 := by
    rw [List.set_set]
    refine List.ext_getElem? fun j => ?_
    by_cases q : v = j
    · subst q; rw [List.getElem?_set_self lv, hv]
    · rw [List.getElem?_set_ne q]
  have gs : gSeq (tupD c) = .ok (c.map PyData.int) := rfl
  have j := join_nums a1 (by omega)
  simp [setC, rn_mComp, g1, gs, wipeC, w1]
  refine (comp_txt (g := gStr) (φ := PyData.int) (l := c) g2 (fun i => numL i.toNat) fun i hi => gStr_num (a1 i hi)).mono ?_
  rintro ds c1 ⟨rfl, rfl⟩
  rw [sB, j, ev_ok]
  exact ⟨rfl, w2⟩
theorem told_shared (w : Web n ks) {so : List (List Int)} {M : List (List (List Int))} (hM : F_all_sharings [webD n ks] = .ok ((so :: M).map rD)) (s : Shr n ks so) : F_Desk_told [dskD x (webD n ks) qs, strD sharedL] = .ok (strD (sharedT so)) := by
  apply Ev.eq
  unfold F_Desk_told
  rw [ev_fnD]
  unfold b_Desk_told
  show Rn _ (toldC x n ks qs sharedL .un) _
  have e1 : gEq (strD sharedL) (strD webL) = .ok (.bool false) := gEq_w (a := sharedL) (b := webL) (by decide) (by decide)
  have e2 : gEq (strD sharedL) (strD aheadL) = .ok (.bool false) := gEq_w (a := sharedL) (b := aheadL) (by decide) (by decide)
  have e3 : gEq (strD sharedL) (strD fateL) = .ok (.bool false) := gEq_w (a := sharedL) (b := fateL) (by decide) (by decide)
  have e4 : gEq (strD sharedL) (strD rootL) = .ok (.bool false) := gEq_w (a := sharedL) (b := rootL) (by decide) (by decide)
  have ge := gEq_rNil (so :: M)
  have ge : gEq (.list (rD so :: M.map rD)) (.list []) = .ok (.bool false) := by rw [List.map_cons] at ge; rw [ge]; simp
  have gs : gSeq (rD so) = .ok (so.map tupD) := rfl
  have sP : Str.ofString " + " = S [32, 43, 32] := rfl
  have j := join3 (crowd_len w s)
  unfold toldC
  simp [web_str, ahead_str, fate_str, root_str, e1, e2, e3, e4, mWeb, hM, ge, mOrT, rn_mComp, gs, wipeC]
  refine (crowds_ev w s (v := 5) (u := 6) (by decide) rfl rfl).mono ?_
  rintro ds c ⟨rfl, rfl⟩
  rw [sP, j, ev_ok]
  cases so with
  | nil =>
    simp [strD, joinL, sharedT, szOk]
    refine ⟨by decide, ?_⟩
    rw [if_pos (show (S []).length = 0 from rfl)]
    rfl
  | cons c so =>
    obtain ⟨a1, a2, a3⟩ := crowd_num w s c List.mem_cons_self
    have ne : joinL [32, 43, 32] ((c :: so).map crowdT) ≠ [] := by
      rw [List.map_cons]
      refine join_ne ?_
      match c, a3 with
      | a :: b :: r, _ =>
        show joinL [32] (numL a.toNat :: (b :: r).map fun i => numL i.toNat) ≠ []
        exact join_ne (numL_ne _)
    have l1 := TL_join_len3 ((c :: so).map crowdT)
    have l2 := crowd_len w s
    generalize hg : joinL [32, 43, 32] ((c :: so).map crowdT) = T at ne l1
    have hT : sharedT (c :: so) = T := by unfold sharedT; rw [if_neg (by simp), hg]
    rw [hT]
    have hne : ((T.length : Nat) : Int) ≠ 0 := by
      cases T with
      | nil => exact absurd rfl ne
      | cons _ _ => simp; omega
    simp [strD, SX.S_len, szOk]
    exact ⟨by omega, fun e => absurd e ne⟩
end
end Td
set_option Elab.async false
set_option linter.all false
set_option maxRecDepth 100000
namespace TW
open PySem PySem.Spec PyProof.Rows L2
section
variable {n : Nat} {F : FM} {Fd : List D → R D} {mo : M D} {ms : M (List D)} {cs : List C} {Q : D → List C → Prop} {ma mb : M D}
def noChg (z : D × Option (D × List D)) (Q : D → Prop) : Prop := match z.2 with
  | none => Q z.1
  | some _ => False
@[simp] theorem noChg_none {a : D} {Q : D → Prop} : noChg (a, none) Q ↔ Q a := Iff.rfl
theorem rn_mSayA : Rn (mSayA n F mo ms) cs Q ↔ Rn mo cs fun d c => isDsk d = true ∧ Rn ms c fun ds c => ds.length = n ∧ Ev (F (d :: ds)) fun z => noChg z fun a => Q a c := by
  unfold mSayA
  rw [rn_bind]
  refine iff_of_eq (congrArg _ (funext fun d => funext fun c => propext ?_))
  by_cases h : isDsk d = true
  · simp only [h, if_true, true_and]
    rw [rn_bind]
    refine iff_of_eq (congrArg _ (funext fun ds => funext fun c => propext ?_))
    by_cases hl : ds.length = n
    · simp only [hl, if_true, true_and]
      unfold Rn noChg
      cases e : F (d :: ds) with
      | ok z =>
        obtain ⟨a, z⟩ := z
        cases z <;> simp [ex_two]
      | err k xs => simp
      | bad => simp
    · simp [hl]
  · simp [h]
theorem rn_mMeth : Rn (mMeth n Fd mo ms) cs Q ↔ Rn mo cs fun d c => isDsk d = true ∧ Rn ms c fun ds c => ds.length + 1 = n ∧ Ev (Fd (d :: ds)) fun a => Q a c := by
  unfold mMeth
  rw [rn_bind]
  refine iff_of_eq (congrArg _ (funext fun d => funext fun c => propext ?_))
  by_cases h : isDsk d = true
  · simp only [h, if_true, true_and]
    rw [rn_bind]
    refine iff_of_eq (congrArg _ (funext fun ds => funext fun c => propext ?_))
    by_cases hl : ds.length + 1 = n
    · simp only [hl, if_true, true_and, rn_lift]
    · simp [hl]
  · simp [h]
theorem err_mSayA {k : Nat} {xs : List D} (h : Rn mo cs fun d c => isDsk d = true ∧ Rn ms c fun ds _ => ds.length = n ∧ F (d :: ds) = .err k xs) : mSayA n F mo ms cs = .err k xs := by
  unfold mSayA
  refine err_bind2 (h.mono fun d c ⟨h1, h2⟩ => ?_)
  rw [if_pos h1]
  refine err_bind2 (h2.mono fun ds c ⟨h3, h4⟩ => ?_)
  rw [if_pos h3]
  simp only [h4]
end
end TW
namespace Td
open PySem PySem.Spec PyProof.Rows L2 TW
open TL (tl spl joinL numL)
open NumText (digitsVal AllDigits)
def told5 : List (List Nat) := [webL, rootL, sharedL, aheadL, fateL]
section
variable {x : Addr} {w : D} {qs : List D} {h : List Nat}
theorem alone_told (m : h ∈ told5) {d : D} (e : F_Desk_told [dskD x w qs, strD h] = .ok d) (f : (flV d).isSome = true) : F_Desk_alone [dskD x w qs, strD h] = .ok (d, none) := by
  have m7 : h ∈ alone7 := by
    unfold told5 at m
    simp at m
    rcases m with rfl | rfl | rfl | rfl | rfl <;> decide
  have e1 : gEq (strD h) (strD makeL) = .ok (.bool false) := by rw [gEq_w m7 (by decide)]; unfold told5 at m; simp at m; rcases m with rfl | rfl | rfl | rfl | rfl <;> rfl
  have e2 : gEq (strD h) (strD backL) = .ok (.bool false) := by rw [gEq_w m7 (by decide)]; unfold told5 at m; simp at m; rcases m with rfl | rfl | rfl | rfl | rfl <;> rfl
  unfold F_Desk_alone
  rw [fnM_out]
  unfold b_Desk_alone
  show outM (mSeqM _ _ [.dat (dskD x w qs), .dat (strD h)]) = _
  rw [out_if (v := false) (c := [.dat (dskD x w qs), .dat (strD h)]) (by simp [make_str, e1])]
  simp only [Bool.false_eq_true, if_false]
  rw [out_skip, out_if (v := false) (c := [.dat (dskD x w qs), .dat (strD h)]) (by simp [back_str, e2])]
  simp only [Bool.false_eq_true, if_false]
  rw [out_skip]
  refine out_rt (d := d) ?_ f
  simp [rn_mMeth, e]
end
theorem words_one {h : List Nat} (m : h ∈ alone7) : wordsL h = [h] := by
  unfold alone7 at m
  simp at m
  rcases m with rfl | rfl | rfl | rfl | rfl | rfl | rfl <;> decide
theorem short_w {h : List Nat} (m : h ∈ alone7) : h.length ≤ 10000 := by
  unfold alone7 at m
  simp at m
  rcases m with rfl | rfl | rfl | rfl | rfl | rfl | rfl <;> decide
theorem say_word {x : Addr} {w : D} {qs : List D} {h : List Nat} (m : h ∈ alone7) : F_Desk_say [dskD x w qs, strD h] = grd w qs [strD h] (F_Desk_alone [dskD x w qs, strD h]) := by
  rw [say_eq (plain_w m) (short_w m) (words_one m) (ns := []) rfl]
  unfold sayR
  rw [if_pos ⟨rfl, m⟩]
end Td
set_option Elab.async false
set_option linter.all false
set_option maxRecDepth 100000
namespace Td
open PySem PySem.Spec PyProof.Rows L2 TW
open TL (tl spl joinL numL)
open NumText (digitsVal AllDigits)
def togL (ks : List (Int × Int)) (t : Int × Int) : List (Int × Int) := ks.filter (fun p => !decide (p = t)) ++ (if t ∈ ks then [] else [t])
theorem gNe_tieK (p q : Int × Int) : gNe (tieD p) (tieD q) = .ok (.bool (!decide (p = q))) := by
  have := gEq_tie p q
  unfold gEq at this
  unfold gNe
  split at this
  · rename_i h
    rw [if_pos h]
    injection this with this
    injection this with this
    rw [this]
  · cases this
theorem filter_len {ks : List (Int × Int)} {t : Int × Int} : ((ks.filter (fun p => !decide (p = t))).length = ks.length) ↔ t ∉ ks := by
  rw [List.length_filter_eq_length_iff]
  constructor
  · intro h ht
    have := h t ht
    simp at this
  · intro h p hp
    simp
    rintro rfl
    exact h hp
theorem noLst_tie (p : Int × Int) : noLst (tieD p) = true := by simp [tieD, noLst, noLsts]
theorem noLsts_ties : ∀ ks : List (Int × Int), noLsts (ks.map tieD) = true
  | [] => by simp [noLsts]
  | p :: ks => by simp [noLsts, noLst_tie, noLsts_ties ks]
theorem noLst_web (n : Int) (ks : List (Int × Int)) : noLst (webD n ks) = true := by
  have := noLsts_ties ks
  simp [webD, noLst, noLsts, this]
section
variable {n : Int} {ks : List (Int × Int)} {x : Addr} {qs : List D} {a b : Int}
def turnC (x : Addr) (n : Int) (ks : List (Int × Int)) (qs : List D) (a b : Int) (s3 s4 : C) : List C := [.dat (dskD x (webD n ks) qs), .dat (.int a), .dat (.int b), s3, s4, .un]
theorem turn_ok (w : Web n ks) (ha : 0 ≤ a ∧ a < n) (hb : 0 ≤ b ∧ b < n) (hab : a ≠ b) {us : List (Int × Int)} (hu : sortD ((togL ks (min a b, max a b)).map tieD) = us.map tieD) (hq : noLsts qs = true) (hl : qs.length < 1000) :
    F_Desk_turn [dskD x (webD n ks) qs, .int a, .int b] = .ok (.str "ok", some (webD n us, qs ++ [webD n ks])) := by
  have wl := w.len
  unfold F_Desk_turn
  rw [fnM_out]
  unfold b_Desk_turn
  show outM (mSeqM _ _ (turnC x n ks qs a b .un .un)) = _
  have p1 := need_place_ok (ks := ks) ha
  have p2 := need_place_ok (ks := ks) hb
  have ix1 : gIx (webD n ks) (.int 1) = .ok (.tuple (ks.map tieD)) := rfl
  have ix0 : gIx (webD n ks) (.int 0) = .ok (.int n) := rfl
  rw [out_seq (c := turnC x n ks qs a b .un .un) (by unfold turnC; simp [mWeb, p1])]
  rw [out_seq (c := turnC x n ks qs a b .un .un) (by unfold turnC; simp [mWeb, p2])]
  rw [out_seq (c := turnC x n ks qs a b .un .un) (by unfold turnC; simp [hab])]
  generalize ht : ((min a b, max a b) : Int × Int) = t at hu
  have et : tieD t = .tuple [.int (min a b), .int (max a b)] := by rw [← ht]; rfl
  rw [out_seq (c := turnC x n ks qs a b (.dat (tieD t)) .un) (by unfold turnC; simp [et])]
  have fl : Rn (mSetN 4 (mComp [5] [5] fName (mSeq1 (mOp2 gIx (mWeb (mVar 0)) (mC (.int 1)))) (mTest (mOp2 gNe (mVar 5) (vVar 3))) (mVar 5))) (turnC x n ks qs a b (.dat (tieD t)) .un) fun f c => f = .nx ∧ c = turnC x n ks qs a b (.dat (tieD t)) (.own false ((ks.filter (fun p => !decide (p = t))).map tieD)) := by
    have gs : gSeq (.tuple (ks.map tieD)) = .ok (ks.map tieD) := rfl
    unfold turnC
    simp [mWeb, ix1, rn_mComp, wipeC, gs]
    refine comp_filterM (φ := tieD) (t := fun p => !decide (p = t)) (g := tieD) (fun p hp => ?_) rfl
    rw [show fName (tieD p) = .ok [tieD p] from rfl, ev_ok]
    simp [setC, wipeC, gNe_tieK]
  rw [out_seq fl]
  have l1 : gLen (.list ((ks.filter (fun p => !decide (p = t))).map tieD)) = .ok (.int ((ks.filter (fun p => !decide (p = t))).length : Nat)) := by rw [gLen_list, List.length_map]
  have l2 : gLen (.tuple (ks.map tieD)) = .ok (.int (ks.length : Nat)) := by
    have : gLen (.tuple (ks.map tieD)) = .ok (.int ((ks.map tieD).length : Nat)) := rfl
    rw [this, List.length_map]
  have l3 : (((ks.filter (fun p => !decide (p = t))).length : Int) == (ks.length : Int)) = decide (t ∉ ks) := by
    rw [Bool.eq_iff_iff, decide_eq_true_eq, ← filter_len (ks := ks) (t := t), beq_iff_eq]
    exact Int.ofNat_inj
  have fl2 : Rn (mIfS (mTest (mOp2 gEq (mOp1 gLen (vVar 4)) (mOp1 gLen (mOp2 gIx (mWeb (mVar 0)) (mC (.int 1)))))) (mOn 4 (mVar 3) gApp) mNx) (turnC x n ks qs a b (.dat (tieD t)) (.own false ((ks.filter (fun p => !decide (p = t))).map tieD))) fun f c => f = .nx ∧ c = turnC x n ks qs a b (.dat (tieD t)) (.own false ((togL ks t).map tieD)) := by
    have fl := List.length_filter_le (fun p => !decide (p = t)) ks
    unfold turnC
    simp [mWeb, ix1, l1, l2, l3]
    by_cases q : t ∈ ks
    · simp [q, togL]
    · simp [q, togL, isOwn]
      omega
  rw [out_seq fl2]
  have gs := gSorted_ties (togL ks t)
  have tl : (togL ks t).length ≤ 92 := by
    have fl := List.length_filter_le (fun p => !decide (p = t)) ks
    unfold togL
    rw [List.length_append]
    split <;> simp <;> omega
  rw [out_ret (q := 1) (w := webD n ks) (qs := qs) (es := [webD n us]) (by simp [turnC]) (by
    unfold turnC
    simp [mWeb, ix0, gs, hu, webD]) rfl, fKeep_at, if_pos (by rw [sizeLine_eq]; omega)]
  exact grd_some (noLst_web n ks) hq (by have := noLst_web n us; simp [noLsts, this])
end
end Td
set_option Elab.async false
set_option linter.all false
set_option maxRecDepth 100000
namespace Td
open PySem PySem.Spec PyProof.Rows L2 TW
open TL (tl spl joinL numL)
open NumText (digitsVal AllDigits)
def plL (m : Nat) : List Nat := placesL ++ (32 :: numL m)
def tiL (a b : Nat) : List Nat := tieL ++ (32 :: (numL a ++ (32 :: numL b)))
end Td
set_option Elab.async false
set_option linter.all false
set_option maxRecDepth 100000
namespace Td
open PySem PySem.Spec PyProof.Rows L2 TW
open TL (tl spl joinL numL)
open NumText (digitsVal AllDigits)
theorem blank_num (i : Nat) : (32 : Nat) ∉ numL i := num_noB (.inl (by omega))
theorem words_pl (m : Nat) : wordsL (plL m) = [placesL, numL m] := by
  have : plL m = joinL [32] [placesL, numL m] := rfl
  unfold wordsL
  rw [this]
  refine TL.spl_join (by simp) fun q hq => ?_
  simp at hq
  rcases hq with rfl | rfl
  · decide
  · exact blank_num _
theorem words_ti (a b : Nat) : wordsL (tiL a b) = [tieL, numL a, numL b] := by
  have : tiL a b = joinL [32] [tieL, numL a, numL b] := rfl
  unfold wordsL
  rw [this]
  refine TL.spl_join (by simp) fun q hq => ?_
  simp at hq
  rcases hq with rfl | rfl | rfl
  · decide
  · exact blank_num _
  · exact blank_num _
theorem plain_pl (m : Nat) : plainS (plL m) := fun c hc => by
  unfold plL placesL at hc
  simp at hc
  rcases hc with rfl | rfl | rfl | rfl | rfl | rfl | rfl | h
  all_goals first
    | omega
    | exact num_plain m c h
theorem plain_ti (a b : Nat) : plainS (tiL a b) := fun c hc => by
  unfold tiL tieL at hc
  simp at hc
  rcases hc with rfl | rfl | rfl | rfl | h | rfl | h
  all_goals first
    | omega
    | exact num_plain a c h
    | exact num_plain b c h
section
variable {n : Int} {ks : List (Int × Int)} {x : Addr} {qs : List D}
theorem nums_pl {m : Nat} (h : m < 100) : [numL m].mapM numP = some [m] := by
  simp [List.mapM_cons, numP_num h]
theorem nums_ti {a b : Nat} (h : a < 100) (k : b < 100) : [numL a, numL b].mapM numP = some [a, b] := by
  simp [List.mapM_cons, numP_num h, numP_num k]
theorem say_places {m : Nat} (hm : m ≤ 14) (hq : noLsts qs = true) (hl : qs.length < 1000) : F_Desk_say [dskD x (webD n ks) qs, strD (plL m)] = .ok (.str "ok", some (webD m [], qs ++ [webD n ks])) := by
  have lm : (numL m).length ≤ 2 := TL.numL_len (k := 2) (by decide) (by omega)
  rw [say_eq (plain_pl m) (by unfold plL placesL; simp; omega) (words_pl m) (nums_pl (by omega))]
  unfold sayR
  rw [if_neg (by simp), if_pos ⟨rfl, rfl, by simpa using hm⟩, fKeep_at, if_pos (by rw [sizeLine_eq]; omega)]
  have h1 := noLst_web n ks
  exact grd_some h1 hq (by simp [noLsts, noLst])
theorem say_tie {a b : Nat} (ha : a ≤ 14) (hb : b ≤ 14) : F_Desk_say [dskD x (webD n ks) qs, strD (tiL a b)] = grd (webD n ks) qs [.int a, .int b] (F_Desk_turn [dskD x (webD n ks) qs, .int a, .int b]) := by
  have la : (numL a).length ≤ 2 := TL.numL_len (k := 2) (by decide) (by omega)
  have lb : (numL b).length ≤ 2 := TL.numL_len (k := 2) (by decide) (by omega)
  rw [say_eq (plain_ti a b) (by unfold tiL tieL; simp; omega) (words_ti a b) (nums_ti (by omega) (by omega))]
  unfold sayR
  rw [if_neg (by simp), if_neg (by simp [tieL, placesL]), if_pos ⟨rfl, rfl⟩]
  rfl
end
end Td
set_option Elab.async false
set_option linter.all false
set_option maxRecDepth 100000
namespace Td
open PySem PySem.Spec PyProof.Rows L2 TW
open TL (tl spl joinL numL)
open NumText (digitsVal AllDigits)
theorem join3P : ∀ {ws : List (List Nat)}, (∀ w ∈ ws, plainS w) → plainS (joinL [32, 43, 32] ws)
  | [], _ => plain_nil
  | [p], h => h p List.mem_cons_self
  | p :: q :: r, h => by
    have ih := join3P (ws := q :: r) fun w hw => h w (List.mem_cons_of_mem _ hw)
    show plainS (p ++ ([32, 43, 32] ++ joinL [32, 43, 32] (q :: r)))
    exact appP (h p List.mem_cons_self) (appP (by unfold plainS; decide) ih)
theorem nums_plain (is : List Int) : plainS (numsL is) := joinP fun w hw => by
  obtain ⟨i, _, rfl⟩ := List.mem_map.mp hw
  exact num_plain _
theorem shared_plain (so : List (List Int)) : plainS (sharedT so) := by
  unfold sharedT
  split
  · unfold plainS noneL; decide
  · exact join3P fun w hw => by
      obtain ⟨c, _, rfl⟩ := List.mem_map.mp hw
      exact nums_plain c
theorem fate_plain {d : D} {t : List Nat} (h : FateR d t) : plainS t := by
  cases h with
  | gone hn =>
    refine joinP fun w hw => ?_
    simp at hw
    rcases hw with rfl | rfl
    · unfold plainS goneL; decide
    · exact num_plain _
  | stays hn =>
    refine joinP fun w hw => ?_
    simp at hw
    rcases hw with rfl | rfl
    · unfold plainS staysL; decide
    · exact num_plain _
  | grows => unfold plainS growsL joinL; decide
def noL : List Nat := [110, 111]
def yesL : List Nat := [121, 101, 115]
theorem flV_S {t : List Nat} : (flV (strD t)).isSome = true := rfl
section
variable {n : Int} {ks : List (Int × Int)} {x : Addr} {qs : List D}
theorem say_told {w : D} {h : List Nat} (m : h ∈ told5) {d : D} (e : F_Desk_told [dskD x w qs, strD h] = .ok d) (f : (flV d).isSome = true) : F_Desk_say [dskD x w qs, strD h] = .ok (d, none) := by
  rw [say_word (by unfold told5 at m; simp at m; rcases m with rfl | rfl | rfl | rfl | rfl <;> decide), alone_told m e f]
  rfl
theorem told_shared0 (w : Web n ks) (hM : F_all_sharings [webD n ks] = .ok []) : F_Desk_told [dskD x (webD n ks) qs, strD sharedL] = .ok (strD noL) := by
  apply Ev.eq
  unfold F_Desk_told
  rw [ev_fnD]
  unfold b_Desk_told
  show Rn _ (toldC x n ks qs sharedL .un) _
  have e1 : gEq (strD sharedL) (strD webL) = .ok (.bool false) := gEq_w (a := sharedL) (b := webL) (by decide) (by decide)
  have e2 : gEq (strD sharedL) (strD aheadL) = .ok (.bool false) := gEq_w (a := sharedL) (b := aheadL) (by decide) (by decide)
  have e3 : gEq (strD sharedL) (strD fateL) = .ok (.bool false) := gEq_w (a := sharedL) (b := fateL) (by decide) (by decide)
  have e4 : gEq (strD sharedL) (strD rootL) = .ok (.bool false) := gEq_w (a := sharedL) (b := rootL) (by decide) (by decide)
  have ge : gEq (.list []) (.list []) = .ok (.bool true) := gEq_rNil []
  unfold toldC
  simp [web_str, ahead_str, fate_str, root_str, e1, e2, e3, e4, mWeb, hM, ge]
  rfl
end
end Td
set_option Elab.async false
set_option linter.all false
set_option maxRecDepth 100000
namespace Td
open PySem PySem.Spec PyProof.Rows L2 TW
def RnG {ε : Type} (m : MSg ε) (E : ε) (cs : List C) (Q : ε → List C → Prop) : Prop := ∃ E' c, m E cs = .ok (.nx, E', c) ∧ Q E' c
section
variable {ε : Type} {m n a b : MSg ε} {k : MS} {E : ε} {cs : List C} {Q : ε → List C → Prop} {t : M Bool}
theorem RnG.mono {Q' : ε → List C → Prop} (h : RnG m E cs Q) (f : ∀ E c, Q E c → Q' E c) : RnG m E cs Q' := let ⟨E', c, e, q⟩ := h; ⟨E', c, e, f _ _ q⟩
theorem rng_lift (h : Rn k cs fun f c => f = .nx ∧ Q E c) : RnG (liftG k) E cs Q := by
  obtain ⟨f, c, e, rfl, q⟩ := h
  exact ⟨E, c, by unfold liftG; rw [e], q⟩
theorem rng_nx (h : Q E cs) : RnG (liftG mNx) E cs Q := rng_lift (by simpa using h)
theorem rng_seq (P : ε → List C → Prop) (h : RnG m E cs P) (q : ∀ E c, P E c → RnG n E c Q) : RnG (mSeqG m n) E cs Q := by
  obtain ⟨E', c, e, p⟩ := h
  obtain ⟨E2, c2, e2, q2⟩ := q E' c p
  exact ⟨E2, c2, by unfold mSeqG; simp only [e]; exact e2, q2⟩
theorem rng_ifb {P : Bool → List C → Prop} (h : Rn t cs P) (q : ∀ v c, P v c → RnG (if v then a else b) E c Q) : RnG (mIfG t a b) E cs Q := by
  obtain ⟨b', c', e, p⟩ := h
  obtain ⟨E2, c2, e2, q2⟩ := q _ _ p
  exact ⟨E2, c2, by unfold mIfG; simp only [e]; exact e2, q2⟩
theorem rn_newDk {cs : List C} {i : Nat} {keep : List Nat} {m : Addr → MSdk (D × List D)} {Q : Fl → List C → Prop} (f : Fl) (c1 : List C) (h : ∀ a : Addr, ∃ c, m a (web0, []) (cs.set i (.dat (opq a))) = .ok (f, c) ∧ forget keep c = c1) (q : Q f c1) : Rn (mNewDk i keep m) cs Q := by
  have hh : ∃ r : Fl × List C, ∀ a : Addr, ∃ c, m a (web0, []) (cs.set i (.dat (opq a))) = .ok (r.1, c) ∧ forget keep c = r.2 := ⟨(f, c1), h⟩
  unfold Rn mNewDk
  rw [dif_pos hh]
  obtain ⟨c, e1, e2⟩ := Classical.choose_spec hh 0
  obtain ⟨c', e3, e4⟩ := h 0
  rw [e3] at e1
  injection e1 with e1
  injection e1 with e1 e5
  refine ⟨(Classical.choose hh).1, (Classical.choose hh).2, rfl, ?_⟩
  rw [← e1, ← e2, ← e5, e4]
  exact q
theorem seqDk_at {m : MSg ε} {n : MSdk ε} {E : ε} {cs : List C} {P : ε → List C → Prop} {f : Fl} {Z : List C → Prop} (h : RnG m E cs P) (q : ∀ E c, P E c → ∃ c', n E c = .ok (f, c') ∧ Z c') : ∃ c', mSeqDk m n E cs = .ok (f, c') ∧ Z c' := by
  obtain ⟨E', c, e, p⟩ := h
  obtain ⟨c', e2, z⟩ := q E' c p
  exact ⟨c', by unfold mSeqDk; simp only [e]; exact e2, z⟩
end
theorem cut_head {ds : List D} : TW.cutD ds none (some 1) = ds.take 1 := by
  unfold TW.cutD
  have e2 : HT.sIx ds.length ds.length (some 1) = min 1 ds.length := HT.sIx_nat ds.length ds.length 1
  rw [HT.sIx_none, e2, List.drop_zero, Nat.sub_zero]
  cases ds with
  | nil => rfl
  | cons d ds => simp
end Td
set_option Elab.async false
set_option linter.all false
set_option maxRecDepth 100000
namespace K93
open PySem PySem.Spec PyProof.Rows L2 TW Td
open TL (tl spl joinL numL)
def B1 : List D := [.str "", .str " ", .str "places", .str "places ", .str "places 15", .str "places 03", .str "places -1", .str "places x", .str "places 3 3", .str "places 100"]
def B2 : List D := [.str "places  3", .str " places 3", .str "Places 3", .str "place 3", .str "tie", .str "tie ", .str "tie 0", .str "tie 0 ", .str "tie 0 1 2"]
def B3 : List D := [.str "tie 0  1", .str "tie x 1", .str "tie 0 x", .str "tie 00 1", .str "tie 0 -1", .str "tie 0-1", .str "ties 0 1", .str "tie 100 1"]
def B4 : List D := [.str "make "]
def B5 : List D := [.str "make 1", .str "makes", .str "Make", .str "back ", .str "back 1", .str "web ", .str "web 1", .str "webs", .str "root 0", .str "roots"]
def B6 : List D := [.str "shared 0", .str "share", .str "ahead ", .str "ahead 2", .str "fate 0", .str "fates", .str "none", .str "0", .str "0:", .str "undo"]
def B7 : List D := [.none, .int 7, .bool true, .tuple [.str "web"], .list [.str "web"], .dict [], .str "web\n", .tuple [.int 0, .tuple []]]
def bads : List D := B1 ++ B2 ++ B3 ++ B4 ++ B5 ++ B6 ++ B7
theorem bad_ev (k : Int) : Ev (F__law_bad [.int k]) fun d => d ∈ bads := by
  unfold F__law_bad
  rw [ev_fnD]
  unfold b__law_bad
  show Rn _ [.dat (.int k), .un] _
  refine seq_cut (fun c => c = [.dat (.int k), .own false B1]) ⟨.nx, _, rfl, rfl, rfl⟩ ?_
  rintro c rfl
  refine seq_cut (fun c => c = [.dat (.int k), .own false (B1 ++ B2)]) ⟨.nx, _, rfl, rfl, rfl⟩ ?_
  rintro c rfl
  refine seq_cut (fun c => c = [.dat (.int k), .own false (B1 ++ B2 ++ B3)]) ⟨.nx, _, rfl, rfl, rfl⟩ ?_
  rintro c rfl
  refine seq_cut (fun c => c = [.dat (.int k), .own false (B1 ++ B2 ++ B3 ++ B4)]) ⟨.nx, _, rfl, rfl, rfl⟩ ?_
  rintro c rfl
  refine seq_cut (fun c => c = [.dat (.int k), .own false (B1 ++ B2 ++ B3 ++ B4 ++ B5)]) ⟨.nx, _, rfl, rfl, rfl⟩ ?_
  rintro c rfl
  refine seq_cut (fun c => c = [.dat (.int k), .own false (B1 ++ B2 ++ B3 ++ B4 ++ B5 ++ B6)]) ⟨.nx, _, rfl, rfl, rfl⟩ ?_
  rintro c rfl
  refine seq_cut (fun c => c = [.dat (.int k), .own false bads]) ⟨.nx, _, rfl, rfl, rfl⟩ ?_
  rintro c rfl
  have hl : bads.length = 56 := by decide
  have hm : gMod (.int k) (.int (bads.length : Nat)) = .ok (.int (k % 56)) := by rw [hl]; exact gMod_int (by omega)
  simp [hasC, hm]
  exact ix_ev (Int.emod_nonneg k (by omega)) (by rw [hl]; exact Int.emod_lt_of_pos k (by omega)) fun d hd => hd
def lineB (L : List Nat) : Bool := L.all (· < 128) && (decide (L.length ≤ 100) && match wordsL L with
  | h :: t => (match t.mapM numP with
    | none => true
    | some ns => !decide (t = [] ∧ h ∈ alone7) && (!decide (h = placesL ∧ ns.length = 1 ∧ ns.headD 0 ≤ 14) && !decide (h = tieL ∧ ns.length = 2)))
  | [] => false)
def badD : D → Bool
  | .str s => lineB s.cps.toList
  | d => match gIsi "str" d with
    | .ok (.bool false) => true
    | _ => false
theorem nonstr {d : D} (h : badD d = true) (hs : ∀ s, d ≠ .str s) : gIsi "str" d = .ok (.bool false) := by
  have e : badD d = match gIsi "str" d with
    | .ok (.bool false) => true
    | _ => false := by
    cases d with
    | str s => exact absurd rfl (hs s)
    | _ => rfl
  rw [e] at h
  split at h
  · assumption
  · cases h
theorem bads_ok : bads.all badD = true := by decide +kernel
theorem say_bad {x : Addr} {w : D} {qs : List D} {d : D} (h : badD d = true) : F_Desk_say [dskD x w qs, d] = .err 10 [] := by
  cases d with
  | str s =>
    have es : (.str s : D) = strD s.cps.toList := by unfold strD; rfl
    rw [es]
    have h : lineB s.cps.toList = true := h
    generalize s.cps.toList = L at h
    unfold lineB at h
    rw [Bool.and_eq_true, Bool.and_eq_true, List.all_eq_true] at h
    obtain ⟨h1, h2, h3⟩ := h
    have hp : plainS L := fun c hc => of_decide_eq_true (h1 c hc)
    have hl := of_decide_eq_true h2
    cases e : wordsL L with
    | nil => rw [e] at h3; cases h3
    | cons a t =>
      rw [e] at h3
      simp only at h3
      cases e2 : t.mapM numP with
      | none => exact say_none hp (by omega) e e2
      | some ns =>
        rw [e2] at h3
        simp only [Bool.and_eq_true, Bool.not_eq_true', decide_eq_false_iff_not] at h3
        obtain ⟨n1, n2, n3⟩ := h3
        rw [say_eq hp (by omega) e e2]
        unfold sayR
        rw [if_neg n1, if_neg n2, if_neg n3]
  | none => exact say_noS (nonstr h fun s e => nomatch e)
  | bool b => exact say_noS (nonstr h fun s e => nomatch e)
  | int i => exact say_noS (nonstr h fun s e => nomatch e)
  | list ds => exact say_noS (nonstr h fun s e => nomatch e)
  | tuple ds => exact say_noS (nonstr h fun s e => nomatch e)
  | dict es => exact say_noS (nonstr h fun s e => nomatch e)
theorem answers {n : Int} {ks : List (Int × Int)} (w : Web n ks) (hn : n ≤ 7) (j : joinedB n ks = true) (x : Addr) (qs : List D) : ∃ ans : List Nat → List Nat, ∀ h ∈ told5, F_Desk_say [dskD x (webD n ks) qs, strD h] = .ok (strD (ans h), none) ∧ plainS (ans h) := by
  obtain ⟨M, _, hM, _, hs, _⟩ := sharings_all w hn
  obtain ⟨d, t, hd, hr⟩ := fate_rel w j
  have s1 := say_told (h := webL) (by decide) (told_web (x := x) (qs := qs) w) flV_S
  have s2 := say_told (h := aheadL) (by decide) (told_ahead (x := x) (qs := qs) w) flV_S
  have s3 := say_told (h := fateL) (by decide) (told_fate (x := x) (qs := qs) w j hd hr) flV_S
  obtain ⟨a2, r2, p2⟩ : ∃ a, F_Desk_say [dskD x (webD n ks) qs, strD rootL] = .ok (strD a, none) ∧ plainS a := by
    have s := say_told (h := rootL) (by decide) (told_root (x := x) (qs := qs) w hM) rfl
    by_cases q : M = []
    · rw [if_pos q] at s
      exact ⟨noL, s, by unfold plainS noL; decide⟩
    · rw [if_neg q] at s
      exact ⟨yesL, s, by unfold plainS yesL; decide⟩
  obtain ⟨a3, r3, p3⟩ : ∃ a, F_Desk_say [dskD x (webD n ks) qs, strD sharedL] = .ok (strD a, none) ∧ plainS a := by
    cases M with
    | nil => exact ⟨noL, say_told (h := sharedL) (by decide) (told_shared0 (x := x) (qs := qs) w hM) rfl, by unfold plainS noL; decide⟩
    | cons so Ms => exact ⟨sharedT so, say_told (h := sharedL) (by decide) (told_shared (x := x) (qs := qs) w hM (hs so List.mem_cons_self)) rfl, shared_plain so⟩
  refine ⟨fun h => if h = webL then textL n ks else if h = rootL then a2 else if h = sharedL then a3 else if h = aheadL then numsL (sizesI n ks) else t, fun h hh => ?_⟩
  unfold told5 at hh
  simp at hh
  rcases hh with rfl | rfl | rfl | rfl | rfl
  · exact ⟨s1, text_plain⟩
  · exact ⟨r2, p2⟩
  · exact ⟨r3, p3⟩
  · exact ⟨s2, nums_plain _⟩
  · exact ⟨s3, fate_plain hr⟩
theorem gNe_strs {ws : List (List Nat)} (h : ∀ w ∈ ws, plainS w) : gNe (.list (ws.map strD)) (.list (ws.map strD)) = .ok (.bool false) := by
  have h1 : SeqAt.shaped (.list (ws.map strD)) = true := shaped_lst.mpr fun x hx => by
    obtain ⟨w, hw, rfl⟩ := List.mem_map.mp hx
    have := shaped_S (h w hw)
    exact ⟨SeqAt.canLay_of_shaped this, by simp [strD, PyData.depth]⟩
  have h2 : ∀ ws : List (List Nat), PyData.eqvAll (ws.map strD) (ws.map strD) = true := fun ws => by
    induction ws with
    | nil => rfl
    | cons w ws ih => simp only [List.map_cons, PyData.eqvAll, eqv_S, decide_true, ih, Bool.and_self]
  simp [gNe, h1, PyData.eqv, h2]
theorem sayS_at {ε : Type} {i : Nat} {x : Addr} {q : Nat} {F : FM} {ms : M (List D)} {E : D × List D} {cs c : List C} {ds : List D} {a : D} {z : Option (D × List D)} {Q : D × List D → List C → Prop} (ho : isOpq x cs[i]? = true) (hm : Rn ms cs fun es c' => es = ds ∧ c' = c) (hl : ds.length = q) (hF : F (dskD x E.1 E.2 :: ds) = .ok (a, z)) (h : Q (z.getD E) c) :
    RnG (mSayS i x q F ms) E cs Q := by
  obtain ⟨es, c', e1, rfl, rfl⟩ := hm
  refine ⟨z.getD E, c', ?_, h⟩
  unfold mSayS
  rw [if_pos ho]
  simp only [e1, hl, if_true, hF]
  cases z <;> rfl
theorem pw_extK {ks ls : List (Int × Int)} (h : ks.Pairwise ltP) (k : ls.Pairwise ltP) (m : ∀ p, p ∈ ks ↔ p ∈ ls) : ks = ls :=
  List.Perm.eq_of_pairwise (fun a b _ _ q r => absurd (ltP_trans q r) (ltP_irrefl _)) h k ((List.perm_ext_iff_of_nodup (pw_nodup h) (pw_nodup k)).mpr m)
def k4 : List (Int × Int) := [(0, 2), (1, 3), (2, 3)]
theorem web4 : Web 4 k4 := ⟨by omega, by unfold k4; decide +kernel, by unfold k4; simp⟩
theorem j4 : joinedB 4 k4 = true := by decide +kernel
theorem j0 : joinedB 0 [] = true := by decide +kernel
theorem tog3 : sortD ((togL [(0, 2), (2, 3)] (min 3 1, max 3 1)).map tieD) = k4.map tieD := by
  have e : togL [(0, 2), (2, 3)] (min 3 1, max 3 1) = [(0, 2), (2, 3), (1, 3)] := by decide +kernel
  rw [e]
  obtain ⟨us, h1, h2, h3⟩ := sort_pairs (ks := [(0, 2), (2, 3), (1, 3)]) (by decide)
  have : us = k4 := pw_extK h3 web4.pw fun q => by
    rw [h2.mem_iff]
    unfold k4
    simp
    constructor
    · rintro (h | h | h)
      · exact .inl h
      · exact .inr (.inr h)
      · exact .inr (.inl h)
    · rintro (h | h | h)
      · exact .inl h
      · exact .inr (.inr h)
      · exact .inr (.inl h)
  rw [h1, this]
theorem tog1 : sortD ((togL [] (min 0 2, max 0 2)).map tieD) = [((0 : Int), (2 : Int))].map tieD := by
  have e : togL [] (min 0 2, max 0 2) = [(0, 2)] := by decide +kernel
  rw [e]
  exact sort_rising (by simp)
theorem tog2 : sortD ((togL [(0, 2)] (min 2 3, max 2 3)).map tieD) = [((0 : Int), (2 : Int)), (2, 3)].map tieD := by
  have e : togL [(0, 2)] (min 2 3, max 2 3) = [(0, 2), (2, 3)] := by decide +kernel
  rw [e]
  exact sort_rising (by decide +kernel)
section
variable {x : Addr}
theorem s1 : (.str "places 4" : D) = strD (plL 4) := by
  have e : plL 4 = [112, 108, 97, 99, 101, 115, 32, 52] := by decide +kernel
  rw [e]; rfl
theorem s2 : (.str "tie 0 2" : D) = strD (tiL 0 2) := by
  have e : tiL 0 2 = [116, 105, 101, 32, 48, 32, 50] := by decide +kernel
  rw [e]; rfl
theorem s3 : (.str "tie 2 3" : D) = strD (tiL 2 3) := by
  have e : tiL 2 3 = [116, 105, 101, 32, 50, 32, 51] := by decide +kernel
  rw [e]; rfl
theorem s4 : (.str "tie 3 1" : D) = strD (tiL 3 1) := by
  have e : tiL 3 1 = [116, 105, 101, 32, 51, 32, 49] := by decide +kernel
  rw [e]; rfl
theorem wk1 : Web 4 [] := ⟨by omega, .nil, by simp⟩
theorem wk2 : Web 4 [(0, 2)] := ⟨by omega, by simp, by simp⟩
theorem wk3 : Web 4 [(0, 2), (2, 3)] := ⟨by omega, by decide +kernel, by simp⟩
theorem nl (n : Int) (ks : List (Int × Int)) {qs : List D} (h : noLsts qs = true) : noLsts (qs ++ [webD n ks]) = true := by
  induction qs with
  | nil => have := noLst_web n ks; simp [noLsts, this]
  | cons q qs ih =>
    simp only [noLsts, Bool.and_eq_true] at h
    simp [noLsts, h.1, ih h.2]
theorem p1 : F_Desk_say [dskD x (webD 0 []) [], .str "places 4"] = .ok (.str "ok", some (webD 4 [], [] ++ [webD 0 []])) := by
  rw [s1]
  exact say_places (n := 0) (ks := []) (x := x) (m := 4) (by omega) (by simp [noLsts]) (by simp)
theorem p2 {qs : List D} (hq : noLsts qs = true) (hl : qs.length < 1000) : F_Desk_say [dskD x (webD 4 []) qs, .str "tie 0 2"] = .ok (.str "ok", some (webD 4 [(0, 2)], qs ++ [webD 4 []])) := by
  rw [s2, say_tie (by omega) (by omega)]
  have t := turn_ok (x := x) (qs := qs) (a := 0) (b := 2) wk1 (by omega) (by omega) (by omega) tog1 hq hl
  rw [show ((0 : Nat) : Int) = 0 from rfl, show ((2 : Nat) : Int) = 2 from rfl, t]
  exact grd_some (noLst_web 4 []) hq (by simp [noLsts, noLst])
theorem p3 {qs : List D} (hq : noLsts qs = true) (hl : qs.length < 1000) : F_Desk_say [dskD x (webD 4 [(0, 2)]) qs, .str "tie 2 3"] = .ok (.str "ok", some (webD 4 [(0, 2), (2, 3)], qs ++ [webD 4 [(0, 2)]])) := by
  rw [s3, say_tie (by omega) (by omega)]
  have t := turn_ok (x := x) (qs := qs) (a := 2) (b := 3) wk2 (by omega) (by omega) (by omega) tog2 hq hl
  rw [show ((3 : Nat) : Int) = 3 from rfl, show ((2 : Nat) : Int) = 2 from rfl, t]
  exact grd_some (noLst_web 4 _) hq (by simp [noLsts, noLst])
theorem p4 {qs : List D} (hq : noLsts qs = true) (hl : qs.length < 1000) : F_Desk_say [dskD x (webD 4 [(0, 2), (2, 3)]) qs, .str "tie 3 1"] = .ok (.str "ok", some (webD 4 k4, qs ++ [webD 4 [(0, 2), (2, 3)]])) := by
  rw [s4, say_tie (by omega) (by omega)]
  have t := turn_ok (x := x) (qs := qs) (a := 3) (b := 1) wk3 (by omega) (by omega) (by omega) tog3 hq hl
  rw [show ((3 : Nat) : Int) = 3 from rfl, show ((1 : Nat) : Int) = 1 from rfl, t]
  exact grd_some (noLst_web 4 _) hq (by simp [noLsts, noLst])
end
def restK : MS := (mSeq (mSet 2 (mOfN (mLst (mCons (mC (.str "web")) (mCons (mC (.str "root")) (mCons (mC (.str "shared")) (mCons (mC (.str "ahead")) (mCons (mC (.str "fate")) mNil)))))))) (mSeq (mSetN 3 (mLst mNil)) (mSeq (mFor [4] fName (mSeq1 (mVar 2)) (mOn 3 (mSayA 1 F_Desk_say (mVar 1) (mCons (mVar 4) mNil)) gApp)) (mSeq (mFor [5] fName (mSeq1 (mOp2 gAdd (mSlX (mVar 0) (mPart (mC (.int 1))) (mPart (mC (.int 31)))) (mOfN (mLst (mCons (mC (.int 5)) mNil))))) (mSeq (mSet 6 (mCall 1 F__law_bad (mCons (mOp2 gMod (mVar 5) (mC (.int 2147483647))) mNil))) (mSeq (mIfS (mTest (mOp2 gNe (mRefused (mSayA 1 F_Desk_say (mVar 1) (mCons (mVar 6) mNil))) (mOfN (mLst (mCons (mC (.int 10)) mNil))))) (mRet (mC (.bool false))) mNx) (mIfS (mTest (mOp2 gNe (mOfN (mComp [4] [4] fName (mSeq1 (mVar 2)) mYes (mSayA 1 F_Desk_say (mVar 1) (mCons (mVar 4) mNil)))) (vVar 3))) (mRet (mC (.bool false))) mNx)))) (mRet (mC (.bool true)))))))
theorem rest_ev (ns : List Int) (hn : ns.length ≤ 63) {n : Int} {ks : List (Int × Int)} (w : Web n ks) (h7 : n ≤ 7) (j : joinedB n ks = true) (x : Addr) (qs : List D) :
    Rn restK [.dat (scrD ns), .dat (dskD x (webD n ks) qs), .un, .un, .un, .un, .un] fun f c => f = .rt (.bool true) ∧ forget [0] c = [.dat (scrD ns), .un, .un, .un, .un, .un, .un] := by
  obtain ⟨ans, ha⟩ := answers w h7 j x qs
  generalize hdk : dskD x (webD n ks) qs = dk at ha ⊢
  have idk : isDsk dk = true := by rw [← hdk]; simp
  unfold restK
  refine seq_cut (fun c => c = [.dat (scrD ns), .dat dk, .dat (.list (told5.map strD)), .un, .un, .un, .un]) (by simp [told5, web_str, root_str, shared_str, ahead_str, fate_str]) ?_
  rintro c rfl
  refine seq_cut (fun c => c = [.dat (scrD ns), .dat dk, .dat (.list (told5.map strD)), .own false [], .un, .un, .un]) (by simp) ?_
  rintro c rfl
  refine seq_cut (fun c => ∃ s4, c = [.dat (scrD ns), .dat dk, .dat (.list (told5.map strD)), .own false ((told5.map ans).map strD), s4, .un, .un]) ?_ ?_
  · have gs : gSeq (.list (told5.map strD)) = .ok (told5.map strD) := rfl
    rw [rn_mFor]
    simp [gs, -List.map_map]
    refine for_list (φ := strD) (l := told5) (P := fun d c => ∃ s4, c = [.dat (scrD ns), .dat dk, .dat (.list (told5.map strD)), .own false ((d.map ans).map strD), s4, .un, .un]) ⟨.un, rfl⟩ (fun c h => ⟨rfl, h⟩) ?_
    rintro d h r c e ⟨s4, rfl⟩
    have hm : h ∈ told5 := by rw [e]; simp
    have hl : d.length < 5 := by
      have := congrArg List.length e
      simp [told5] at this
      omega
    rw [show fName (strD h) = .ok [strD h] from rfl, ev_ok]
    simp [setC, isOwn, rn_mSayA, idk, (ha h hm).1]
    omega
  rintro c ⟨s4, rfl⟩
  refine seq_cut (fun c => ∃ s4 s5 s6, c = [.dat (scrD ns), .dat dk, .dat (.list (told5.map strD)), .own false ((told5.map ans).map strD), s4, s5, s6]) ?_ ?_
  · obtain ⟨is, hi⟩ : ∃ is : List Int, Ev (gAdd (.list (TW.cutD (ns.map .int) (some 1) (some 31))) (.list [.int 5])) fun d => d = .list (is.map .int) := by
      obtain ⟨T, hT, lT⟩ : ∃ T : List Int, TW.cutD (ns.map .int) (some 1) (some 31) = T.map .int ∧ T.length ≤ 63 := by
        unfold TW.cutD
        rw [← List.map_drop, ← List.map_take]
        refine ⟨_, rfl, ?_⟩
        simp
        omega
      rw [hT]
      refine ⟨T ++ [5], catl_ev (by simp; omega) ?_⟩
      rw [List.map_append]; rfl
    have gx : gSlX (scrD ns) (some 1) (some 31) = .ok (.list (TW.cutD (ns.map .int) (some 1) (some 31))) := rfl
    obtain ⟨d, ed, rfl⟩ := hi
    have gs : gSeq (.list (is.map PyData.int)) = .ok (is.map .int) := rfl
    rw [rn_mFor]
    simp [gx, ed, gs, -List.map_map]
    refine for_list (φ := PyData.int) (l := is) (P := fun _ c => ∃ s4 s5 s6, c = [.dat (scrD ns), .dat dk, .dat (.list (told5.map strD)), .own false ((told5.map ans).map strD), s4, s5, s6]) ⟨s4, .un, .un, rfl⟩ (fun c h => ⟨rfl, h⟩) ?_
    rintro d k r c e ⟨s4, s5, s6, rfl⟩
    rw [fName_ok, ev_ok]
    simp only [setC, List.set_cons_succ, List.set_cons_zero]
    have key : Rn (mSeq (mSet 6 (mCall 1 F__law_bad (mCons (mOp2 gMod (mVar 5) (mC (.int 2147483647))) mNil))) (mSeq (mIfS (mTest (mOp2 gNe (mRefused (mSayA 1 F_Desk_say (mVar 1) (mCons (mVar 6) mNil))) (mOfN (mLst (mCons (mC (.int 10)) mNil))))) (mRet (mC (.bool false))) mNx) (mIfS (mTest (mOp2 gNe (mOfN (mComp [4] [4] fName (mSeq1 (mVar 2)) mYes (mSayA 1 F_Desk_say (mVar 1) (mCons (mVar 4) mNil)))) (vVar 3))) (mRet (mC (.bool false))) mNx))) [.dat (scrD ns), .dat dk, .dat (.list (told5.map strD)), .own false ((told5.map ans).map strD), s4, .dat (.int k), s6]
        fun f c => f = .nx ∧ ∃ s4 s5 s6, c = [.dat (scrD ns), .dat dk, .dat (.list (told5.map strD)), .own false ((told5.map ans).map strD), s4, s5, s6] := by
      refine seq_cut (fun c => ∃ d, d ∈ bads ∧ c = [.dat (scrD ns), .dat dk, .dat (.list (told5.map strD)), .own false ((told5.map ans).map strD), s4, .dat (.int k), .dat d]) ?_ ?_
      · simp [gMod_int (i := k) (j := 2147483647) (by omega), -List.map_map]
        exact (bad_ev (k % 2147483647)).mono fun d hd => hd
      rintro c ⟨d, hd, rfl⟩
      have bd := List.all_eq_true.mp bads_ok d hd
      refine seq_cut (fun c => c = [.dat (scrD ns), .dat dk, .dat (.list (told5.map strD)), .own false ((told5.map ans).map strD), s4, .dat (.int k), .dat d]) ?_ ?_
      · have ne : gNe (.list [.int 10]) (.list [.int 10]) = .ok (.bool false) := (gNe_ints [10] [10]).trans (by simp)
        rw [rn_mIfS, rn_mTest, rn_mOp2]
        refine rn_refused (n := 10) (err_mSayA (k := 10) (xs := []) ?_) (by decide) ?_
        · have sb := say_bad (x := x) (w := webD n ks) (qs := qs) bd
          rw [hdk] at sb
          simp [mask, maskC, idk, sb]
        simp [ne]
      rintro c rfl
      have gs : gSeq (.list (told5.map strD)) = .ok (told5.map strD) := rfl
      rw [rn_mIfS, rn_mTest, rn_mOp2]
      simp only [rn_mOfN, rn_mComp, rn_mSeq1, rn_mVar, List.getElem?_cons_succ, List.getElem?_cons_zero, onVar_dat, gs, ev_ok, wipeC, List.set_cons_succ, List.set_cons_zero]
      refine comp_mapM (φ := strD) (l := told5) (g := fun h => strD (ans h)) (fun h hm => ?_) ?_
      · rw [show fName (strD h) = .ok [strD h] from rfl, ev_ok]
        simp [setC, rn_mSayA, idk, (ha h hm).1, wipeC]
      · have ne := gNe_strs (ws := told5.map ans) fun t ht => by
          obtain ⟨h, hm, rfl⟩ := List.mem_map.mp ht
          exact (ha h hm).2
        have e2 : told5.map (fun h => strD (ans h)) = (told5.map ans).map strD := by rw [List.map_map]; rfl
        rw [e2]
        simp [ne, -List.map_map]
    refine key.mono fun f c ⟨e1, h⟩ => ?_
    subst e1
    exact h
  rintro c ⟨s4, s5, s6, rfl⟩
  simp
  rfl
set_option maxHeartbeats 0 in
theorem law_true (ns : List Int) (hn : ns.length ≤ 63) : F_law [scrD ns] = .ok (.bool true) := by
  apply Ev.eq
  unfold F_law
  rw [ev_fnD]
  unfold b_law
  show Rn _ [.dat (scrD ns), .un, .un, .un, .un, .un, .un] _
  refine rn_newDk (.rt (.bool true)) [.dat (scrD ns), .un, .un, .un, .un, .un, .un] (fun x => ?_) rfl
  simp only [List.set_cons_succ, List.set_cons_zero]
  have ho : isOpq x ([.dat (scrD ns), .dat (opq x), .un, .un, .un, .un, .un] : List C)[1]? = true := by simp [isOpq, opq]
  refine seqDk_at (P := fun E c => (∃ n ks qs, E = (webD n ks, qs) ∧ Web n ks ∧ n ≤ 7 ∧ joinedB n ks = true) ∧ c = [.dat (scrD ns), .dat (opq x), .un, .un, .un, .un, .un]) ?_ ?_
  · refine rng_ifb (P := fun v c => c = [.dat (scrD ns), .dat (opq x), .un, .un, .un, .un, .un]) ?_ ?_
    · have gx : gSlX (scrD ns) none (some 1) = .ok (.list ((ns.take 1).map .int)) := by
        show R.ok (PyData.list (TW.cutD _ none (some 1))) = _
        rw [cut_head, List.map_take]
      simp [gx, -List.map_take]
      cases ns with
      | nil =>
        refine catl_ev (by simp) ?_
        have gm : gMod (.int 0) (.int 2) = .ok (.int (0 % 2)) := gMod_int (by omega)
        simp [gm]
      | cons a r =>
        refine catl_ev (by simp) ?_
        have gm : gMod (.int a) (.int 2) = .ok (.int (a % 2)) := gMod_int (by omega)
        simp [gm]
    rintro v c rfl
    cases v with
    | false => exact rng_nx ⟨⟨0, [], [], rfl, ⟨by omega, .nil, by simp⟩, by omega, j0⟩, rfl⟩
    | true =>
      rw [if_pos rfl]
      refine rng_seq (fun E c => E = (webD 4 [], [] ++ [webD 0 []]) ∧ c = [.dat (scrD ns), .dat (opq x), .un, .un, .un, .un, .un]) (sayS_at (ε := Unit) ho (ds := [.str "places 4"]) (c := [.dat (scrD ns), .dat (opq x), .un, .un, .un, .un, .un]) (by simp) rfl p1 ⟨rfl, rfl⟩) ?_
      rintro E c ⟨rfl, rfl⟩
      have n1 : noLsts ([] ++ [webD 0 []]) = true := nl 0 [] (by simp [noLsts])
      refine rng_seq (fun E c => E = (webD 4 [(0, 2)], [] ++ [webD 0 []] ++ [webD 4 []]) ∧ c = [.dat (scrD ns), .dat (opq x), .un, .un, .un, .un, .un]) (sayS_at (ε := Unit) ho (ds := [.str "tie 0 2"]) (c := [.dat (scrD ns), .dat (opq x), .un, .un, .un, .un, .un]) (by simp) rfl (p2 n1 (by simp)) ⟨rfl, rfl⟩) ?_
      rintro E c ⟨rfl, rfl⟩
      have n2 := nl 4 [] n1
      refine rng_seq (fun E c => E = (webD 4 [(0, 2), (2, 3)], [] ++ [webD 0 []] ++ [webD 4 []] ++ [webD 4 [(0, 2)]]) ∧ c = [.dat (scrD ns), .dat (opq x), .un, .un, .un, .un, .un]) (sayS_at (ε := Unit) ho (ds := [.str "tie 2 3"]) (c := [.dat (scrD ns), .dat (opq x), .un, .un, .un, .un, .un]) (by simp) rfl (p3 n2 (by simp)) ⟨rfl, rfl⟩) ?_
      rintro E c ⟨rfl, rfl⟩
      have n3 := nl 4 [(0, 2)] n2
      refine sayS_at (ε := Unit) ho (ds := [.str "tie 3 1"]) (c := [.dat (scrD ns), .dat (opq x), .un, .un, .un, .un, .un]) (by simp) rfl (p4 n3 (by simp)) ⟨⟨4, k4, _, rfl, web4, by omega, j4⟩, rfl⟩
  rintro E c ⟨⟨n, ks, qs, rfl, w, h7, j⟩, rfl⟩
  obtain ⟨f, c, e, rfl, z⟩ := rest_ev ns hn w h7 j x qs
  refine ⟨c, ?_, z⟩
  unfold mFrzDk
  rw [if_pos ho]
  exact e
end K93
set_option Elab.async false
set_option linter.all false
set_option maxRecDepth 100000
namespace K93
open PySem PySem.Spec PyProof.Rows L2 TW Td
section
variable {l : PySem.W.OpenLaw} {w : World} {K : PySem.W.Frag} {h : Heap} {mg : Str → Option Value}
set_option maxHeartbeats 0 in
theorem all_mk {fa : Addr} (X : K.In h) (G : h.Ns mainGlobals mg) (hfa : mg "law" = some (.ref fa))
  {CD : Addr} (aD : PySem.W.nsIn K mainGlobals "Desk" = some (some (.ref CD))) (bD : deskB K CD = true)
  (zt_ALONE : tupB K "ALONE" ["make", "back", "web", "root", "shared", "ahead", "fate"] = true)
  {f0 : Addr} {od0 an0 : Option Addr} {sl0 : Array (Option Value)} {oc0 kV0 dc0 pm0 cd0 ct0 : Value} (a0 : PySem.W.nsIn K mainGlobals "is_whole" = some (some (.ref f0))) (l0 : K.lookup f0 = some ⟨oc0, od0, .func (PySem.W.fnOf "is_whole" "is_whole" (defArgs s_is_whole) (defBody s_is_whole) (defScope s_is_whole) .none kV0 dc0 pm0 an0 cd0 ct0), sl0⟩) (c0 : PySem.W.codeIn K cd0 "is_whole" = true) (k0 : PySem.W.keepIn K (.ref f0) = true)
  {f1 : Addr} {od1 an1 : Option Addr} {sl1 : Array (Option Value)} {oc1 kV1 dc1 pm1 cd1 ct1 : Value} (a1 : PySem.W.nsIn K mainGlobals "is_place" = some (some (.ref f1))) (l1 : K.lookup f1 = some ⟨oc1, od1, .func (PySem.W.fnOf "is_place" "is_place" (defArgs s_is_place) (defBody s_is_place) (defScope s_is_place) .none kV1 dc1 pm1 an1 cd1 ct1), sl1⟩) (c1 : PySem.W.codeIn K cd1 "is_place" = true) (k1 : PySem.W.keepIn K (.ref f1) = true)
  {f2 : Addr} {od2 an2 : Option Addr} {sl2 : Array (Option Value)} {oc2 kV2 dc2 pm2 cd2 ct2 : Value} (a2 : PySem.W.nsIn K mainGlobals "rises" = some (some (.ref f2))) (l2 : K.lookup f2 = some ⟨oc2, od2, .func (PySem.W.fnOf "rises" "rises" (defArgs s_rises) (defBody s_rises) (defScope s_rises) .none kV2 dc2 pm2 an2 cd2 ct2), sl2⟩) (c2 : PySem.W.codeIn K cd2 "rises" = true) (k2 : PySem.W.keepIn K (.ref f2) = true)
  {f3 : Addr} {od3 an3 : Option Addr} {sl3 : Array (Option Value)} {oc3 kV3 dc3 pm3 cd3 ct3 : Value} (a3 : PySem.W.nsIn K mainGlobals "is_tie" = some (some (.ref f3))) (l3 : K.lookup f3 = some ⟨oc3, od3, .func (PySem.W.fnOf "is_tie" "is_tie" (defArgs s_is_tie) (defBody s_is_tie) (defScope s_is_tie) .none kV3 dc3 pm3 an3 cd3 ct3), sl3⟩) (c3 : PySem.W.codeIn K cd3 "is_tie" = true) (k3 : PySem.W.keepIn K (.ref f3) = true)
  {f4 : Addr} {od4 an4 : Option Addr} {sl4 : Array (Option Value)} {oc4 kV4 dc4 pm4 cd4 ct4 : Value} (a4 : PySem.W.nsIn K mainGlobals "is_web" = some (some (.ref f4))) (l4 : K.lookup f4 = some ⟨oc4, od4, .func (PySem.W.fnOf "is_web" "is_web" (defArgs s_is_web) (defBody s_is_web) (defScope s_is_web) .none kV4 dc4 pm4 an4 cd4 ct4), sl4⟩) (c4 : PySem.W.codeIn K cd4 "is_web" = true) (k4 : PySem.W.keepIn K (.ref f4) = true)
  {f5 : Addr} {od5 an5 : Option Addr} {sl5 : Array (Option Value)} {oc5 kV5 dc5 pm5 cd5 ct5 : Value} (a5 : PySem.W.nsIn K mainGlobals "need_web" = some (some (.ref f5))) (l5 : K.lookup f5 = some ⟨oc5, od5, .func (PySem.W.fnOf "need_web" "need_web" (defArgs s_need_web) (defBody s_need_web) (defScope s_need_web) .none kV5 dc5 pm5 an5 cd5 ct5), sl5⟩) (c5 : PySem.W.codeIn K cd5 "need_web" = true) (k5 : PySem.W.keepIn K (.ref f5) = true)
  {f6 : Addr} {od6 an6 : Option Addr} {sl6 : Array (Option Value)} {oc6 kV6 dc6 pm6 cd6 ct6 : Value} (a6 : PySem.W.nsIn K mainGlobals "need_place" = some (some (.ref f6))) (l6 : K.lookup f6 = some ⟨oc6, od6, .func (PySem.W.fnOf "need_place" "need_place" (defArgs s_need_place) (defBody s_need_place) (defScope s_need_place) .none kV6 dc6 pm6 an6 cd6 ct6), sl6⟩) (c6 : PySem.W.codeIn K cd6 "need_place" = true) (k6 : PySem.W.keepIn K (.ref f6) = true)
  {f7 : Addr} {od7 an7 : Option Addr} {sl7 : Array (Option Value)} {oc7 kV7 dc7 pm7 cd7 ct7 : Value} (a7 : PySem.W.nsIn K mainGlobals "need_small" = some (some (.ref f7))) (l7 : K.lookup f7 = some ⟨oc7, od7, .func (PySem.W.fnOf "need_small" "need_small" (defArgs s_need_small) (defBody s_need_small) (defScope s_need_small) .none kV7 dc7 pm7 an7 cd7 ct7), sl7⟩) (c7 : PySem.W.codeIn K cd7 "need_small" = true) (k7 : PySem.W.keepIn K (.ref f7) = true)
  {f8 : Addr} {od8 an8 : Option Addr} {sl8 : Array (Option Value)} {oc8 kV8 dc8 pm8 cd8 ct8 : Value} (a8 : PySem.W.nsIn K mainGlobals "are_tied" = some (some (.ref f8))) (l8 : K.lookup f8 = some ⟨oc8, od8, .func (PySem.W.fnOf "are_tied" "are_tied" (defArgs s_are_tied) (defBody s_are_tied) (defScope s_are_tied) .none kV8 dc8 pm8 an8 cd8 ct8), sl8⟩) (c8 : PySem.W.codeIn K cd8 "are_tied" = true) (k8 : PySem.W.keepIn K (.ref f8) = true)
  {f9 : Addr} {od9 an9 : Option Addr} {sl9 : Array (Option Value)} {oc9 kV9 dc9 pm9 cd9 ct9 : Value} (a9 : PySem.W.nsIn K mainGlobals "near_to" = some (some (.ref f9))) (l9 : K.lookup f9 = some ⟨oc9, od9, .func (PySem.W.fnOf "near_to" "near_to" (defArgs s_near_to) (defBody s_near_to) (defScope s_near_to) .none kV9 dc9 pm9 an9 cd9 ct9), sl9⟩) (c9 : PySem.W.codeIn K cd9 "near_to" = true) (k9 : PySem.W.keepIn K (.ref f9) = true)
  {f10 : Addr} {od10 an10 : Option Addr} {sl10 : Array (Option Value)} {oc10 kV10 dc10 pm10 cd10 ct10 : Value} (a10 : PySem.W.nsIn K mainGlobals "counts_of" = some (some (.ref f10))) (l10 : K.lookup f10 = some ⟨oc10, od10, .func (PySem.W.fnOf "counts_of" "counts_of" (defArgs s_counts_of) (defBody s_counts_of) (defScope s_counts_of) .none kV10 dc10 pm10 an10 cd10 ct10), sl10⟩) (c10 : PySem.W.codeIn K cd10 "counts_of" = true) (k10 : PySem.W.keepIn K (.ref f10) = true)
  {f11 : Addr} {od11 an11 : Option Addr} {sl11 : Array (Option Value)} {oc11 kV11 dc11 pm11 cd11 ct11 : Value} (a11 : PySem.W.nsIn K mainGlobals "piece_of" = some (some (.ref f11))) (l11 : K.lookup f11 = some ⟨oc11, od11, .func (PySem.W.fnOf "piece_of" "piece_of" (defArgs s_piece_of) (defBody s_piece_of) (defScope s_piece_of) .none kV11 dc11 pm11 an11 cd11 ct11), sl11⟩) (c11 : PySem.W.codeIn K cd11 "piece_of" = true) (k11 : PySem.W.keepIn K (.ref f11) = true)
  {f12 : Addr} {od12 an12 : Option Addr} {sl12 : Array (Option Value)} {oc12 kV12 dc12 pm12 cd12 ct12 : Value} (a12 : PySem.W.nsIn K mainGlobals "all_pieces" = some (some (.ref f12))) (l12 : K.lookup f12 = some ⟨oc12, od12, .func (PySem.W.fnOf "all_pieces" "all_pieces" (defArgs s_all_pieces) (defBody s_all_pieces) (defScope s_all_pieces) .none kV12 dc12 pm12 an12 cd12 ct12), sl12⟩) (c12 : PySem.W.codeIn K cd12 "all_pieces" = true) (k12 : PySem.W.keepIn K (.ref f12) = true)
  {f13 : Addr} {od13 an13 : Option Addr} {sl13 : Array (Option Value)} {oc13 kV13 dc13 pm13 cd13 ct13 : Value} (a13 : PySem.W.nsIn K mainGlobals "meet" = some (some (.ref f13))) (l13 : K.lookup f13 = some ⟨oc13, od13, .func (PySem.W.fnOf "meet" "meet" (defArgs s_meet) (defBody s_meet) (defScope s_meet) .none kV13 dc13 pm13 an13 cd13 ct13), sl13⟩) (c13 : PySem.W.codeIn K cd13 "meet" = true) (k13 : PySem.W.keepIn K (.ref f13) = true)
  {f14 : Addr} {od14 an14 : Option Addr} {sl14 : Array (Option Value)} {oc14 kV14 dc14 pm14 cd14 ct14 : Value} (a14 : PySem.W.nsIn K mainGlobals "made" = some (some (.ref f14))) (l14 : K.lookup f14 = some ⟨oc14, od14, .func (PySem.W.fnOf "made" "made" (defArgs s_made) (defBody s_made) (defScope s_made) .none kV14 dc14 pm14 an14 cd14 ct14), sl14⟩) (c14 : PySem.W.codeIn K cd14 "made" = true) (k14 : PySem.W.keepIn K (.ref f14) = true)
  {f15 : Addr} {od15 an15 : Option Addr} {sl15 : Array (Option Value)} {oc15 kV15 dc15 pm15 cd15 ct15 : Value} (a15 : PySem.W.nsIn K mainGlobals "need_few" = some (some (.ref f15))) (l15 : K.lookup f15 = some ⟨oc15, od15, .func (PySem.W.fnOf "need_few" "need_few" (defArgs s_need_few) (defBody s_need_few) (defScope s_need_few) .none kV15 dc15 pm15 an15 cd15 ct15), sl15⟩) (c15 : PySem.W.codeIn K cd15 "need_few" = true) (k15 : PySem.W.keepIn K (.ref f15) = true)
  {f16 : Addr} {od16 an16 : Option Addr} {sl16 : Array (Option Value)} {oc16 kV16 dc16 pm16 cd16 ct16 : Value} (a16 : PySem.W.nsIn K mainGlobals "tie_web" = some (some (.ref f16))) (l16 : K.lookup f16 = some ⟨oc16, od16, .func (PySem.W.fnOf "tie_web" "tie_web" (defArgs s_tie_web) (defBody s_tie_web) (defScope s_tie_web) .none kV16 dc16 pm16 an16 cd16 ct16), sl16⟩) (c16 : PySem.W.codeIn K cd16 "tie_web" = true) (k16 : PySem.W.keepIn K (.ref f16) = true)
  {f17 : Addr} {od17 an17 : Option Addr} {sl17 : Array (Option Value)} {oc17 kV17 dc17 pm17 cd17 ct17 : Value} (a17 : PySem.W.nsIn K mainGlobals "pairs_of" = some (some (.ref f17))) (l17 : K.lookup f17 = some ⟨oc17, od17, .func (PySem.W.fnOf "pairs_of" "pairs_of" (defArgs s_pairs_of) (defBody s_pairs_of) (defScope s_pairs_of) .none kV17 dc17 pm17 an17 cd17 ct17), sl17⟩) (c17 : PySem.W.codeIn K cd17 "pairs_of" = true) (k17 : PySem.W.keepIn K (.ref f17) = true)
  {f18 : Addr} {od18 an18 : Option Addr} {sl18 : Array (Option Value)} {oc18 kV18 dc18 pm18 cd18 ct18 : Value} (a18 : PySem.W.nsIn K mainGlobals "sizes_ahead" = some (some (.ref f18))) (l18 : K.lookup f18 = some ⟨oc18, od18, .func (PySem.W.fnOf "sizes_ahead" "sizes_ahead" (defArgs s_sizes_ahead) (defBody s_sizes_ahead) (defScope s_sizes_ahead) .none kV18 dc18 pm18 an18 cd18 ct18), sl18⟩) (c18 : PySem.W.codeIn K cd18 "sizes_ahead" = true) (k18 : PySem.W.keepIn K (.ref f18) = true)
  {f19 : Addr} {od19 an19 : Option Addr} {sl19 : Array (Option Value)} {oc19 kV19 dc19 pm19 cd19 ct19 : Value} (a19 : PySem.W.nsIn K mainGlobals "fate" = some (some (.ref f19))) (l19 : K.lookup f19 = some ⟨oc19, od19, .func (PySem.W.fnOf "fate" "fate" (defArgs s_fate) (defBody s_fate) (defScope s_fate) .none kV19 dc19 pm19 an19 cd19 ct19), sl19⟩) (c19 : PySem.W.codeIn K cd19 "fate" = true) (k19 : PySem.W.keepIn K (.ref f19) = true)
  {f20 : Addr} {od20 an20 : Option Addr} {sl20 : Array (Option Value)} {oc20 kV20 dc20 pm20 cd20 ct20 : Value} (a20 : PySem.W.nsIn K mainGlobals "crowds_in" = some (some (.ref f20))) (l20 : K.lookup f20 = some ⟨oc20, od20, .func (PySem.W.fnOf "crowds_in" "crowds_in" (defArgs s_crowds_in) (defBody s_crowds_in) (defScope s_crowds_in) .none kV20 dc20 pm20 an20 cd20 ct20), sl20⟩) (c20 : PySem.W.codeIn K cd20 "crowds_in" = true) (k20 : PySem.W.keepIn K (.ref f20) = true)
  {f21 : Addr} {od21 an21 : Option Addr} {sl21 : Array (Option Value)} {oc21 kV21 dc21 pm21 cd21 ct21 : Value} (a21 : PySem.W.nsIn K mainGlobals "ties_in" = some (some (.ref f21))) (l21 : K.lookup f21 = some ⟨oc21, od21, .func (PySem.W.fnOf "ties_in" "ties_in" (defArgs s_ties_in) (defBody s_ties_in) (defScope s_ties_in) .none kV21 dc21 pm21 an21 cd21 ct21), sl21⟩) (c21 : PySem.W.codeIn K cd21 "ties_in" = true) (k21 : PySem.W.keepIn K (.ref f21) = true)
  {f22 : Addr} {od22 an22 : Option Addr} {sl22 : Array (Option Value)} {oc22 kV22 dc22 pm22 cd22 ct22 : Value} (a22 : PySem.W.nsIn K mainGlobals "may_join" = some (some (.ref f22))) (l22 : K.lookup f22 = some ⟨oc22, od22, .func (PySem.W.fnOf "may_join" "may_join" (defArgs s_may_join) (defBody s_may_join) (defScope s_may_join) .none kV22 dc22 pm22 an22 cd22 ct22), sl22⟩) (c22 : PySem.W.codeIn K cd22 "may_join" = true) (k22 : PySem.W.keepIn K (.ref f22) = true)
  {f23 : Addr} {od23 an23 : Option Addr} {sl23 : Array (Option Value)} {oc23 kV23 dc23 pm23 cd23 ct23 : Value} (a23 : PySem.W.nsIn K mainGlobals "behind" = some (some (.ref f23))) (l23 : K.lookup f23 = some ⟨oc23, od23, .func (PySem.W.fnOf "behind" "behind" (defArgs s_behind) (defBody s_behind) (defScope s_behind) .none kV23 dc23 pm23 an23 cd23 ct23), sl23⟩) (c23 : PySem.W.codeIn K cd23 "behind" = true) (k23 : PySem.W.keepIn K (.ref f23) = true)
  {f24 : Addr} {od24 an24 : Option Addr} {sl24 : Array (Option Value)} {oc24 kV24 dc24 pm24 cd24 ct24 : Value} (a24 : PySem.W.nsIn K mainGlobals "sharings_of" = some (some (.ref f24))) (l24 : K.lookup f24 = some ⟨oc24, od24, .func (PySem.W.fnOf "sharings_of" "sharings_of" (defArgs s_sharings_of) (defBody s_sharings_of) (defScope s_sharings_of) .none kV24 dc24 pm24 an24 cd24 ct24), sl24⟩) (c24 : PySem.W.codeIn K cd24 "sharings_of" = true) (k24 : PySem.W.keepIn K (.ref f24) = true)
  {f25 : Addr} {od25 an25 : Option Addr} {sl25 : Array (Option Value)} {oc25 kV25 dc25 pm25 cd25 ct25 : Value} (a25 : PySem.W.nsIn K mainGlobals "all_sharings" = some (some (.ref f25))) (l25 : K.lookup f25 = some ⟨oc25, od25, .func (PySem.W.fnOf "all_sharings" "all_sharings" (defArgs s_all_sharings) (defBody s_all_sharings) (defScope s_all_sharings) .none kV25 dc25 pm25 an25 cd25 ct25), sl25⟩) (c25 : PySem.W.codeIn K cd25 "all_sharings" = true) (k25 : PySem.W.keepIn K (.ref f25) = true)
  {f26 : Addr} {od26 an26 : Option Addr} {sl26 : Array (Option Value)} {oc26 kV26 dc26 pm26 cd26 ct26 : Value} (a26 : PySem.W.nsIn K mainGlobals "shown" = some (some (.ref f26))) (l26 : K.lookup f26 = some ⟨oc26, od26, .func (PySem.W.fnOf "shown" "shown" (defArgs s_shown) (defBody s_shown) (defScope s_shown) .none kV26 dc26 pm26 an26 cd26 ct26), sl26⟩) (c26 : PySem.W.codeIn K cd26 "shown" = true) (k26 : PySem.W.keepIn K (.ref f26) = true)
  {f27 : Addr} {od27 an27 : Option Addr} {sl27 : Array (Option Value)} {oc27 kV27 dc27 pm27 cd27 ct27 : Value} (a27 : PySem.W.nsIn K mainGlobals "number_in" = some (some (.ref f27))) (l27 : K.lookup f27 = some ⟨oc27, od27, .func (PySem.W.fnOf "number_in" "number_in" (defArgs s_number_in) (defBody s_number_in) (defScope s_number_in) .none kV27 dc27 pm27 an27 cd27 ct27), sl27⟩) (c27 : PySem.W.codeIn K cd27 "number_in" = true) (k27 : PySem.W.keepIn K (.ref f27) = true)
  {f28 : Addr} {od28 an28 : Option Addr} {sl28 : Array (Option Value)} {oc28 kV28 dc28 pm28 cd28 ct28 : Value} (a28 : PySem.W.nsIn K mainGlobals "told_number" = some (some (.ref f28))) (l28 : K.lookup f28 = some ⟨oc28, od28, .func (PySem.W.fnOf "told_number" "told_number" (defArgs s_told_number) (defBody s_told_number) (defScope s_told_number) .none kV28 dc28 pm28 an28 cd28 ct28), sl28⟩) (c28 : PySem.W.codeIn K cd28 "told_number" = true) (k28 : PySem.W.keepIn K (.ref f28) = true)
  {f29 : Addr} {od29 an29 : Option Addr} {sl29 : Array (Option Value)} {oc29 kV29 dc29 pm29 cd29 ct29 : Value} (a29 : PySem.W.findIn K (.ref CD) "__init__" = some (some (.ref f29))) (i29 : PySem.W.isFn K (.ref f29) = true) (l29 : K.lookup f29 = some ⟨oc29, od29, .func (PySem.W.fnOf "__init__" "Desk.__init__" (defArgs s_Desk___init__) (defBody s_Desk___init__) (defScope s_Desk___init__) .none kV29 dc29 pm29 an29 cd29 ct29), sl29⟩) (c29 : PySem.W.codeIn K cd29 "Desk.__init__" = true) (k29 : PySem.W.keepIn K (.ref f29) = true)
  {f30 : Addr} {od30 an30 : Option Addr} {sl30 : Array (Option Value)} {oc30 kV30 dc30 pm30 cd30 ct30 : Value} (a30 : PySem.W.findIn K (.ref CD) "say" = some (some (.ref f30))) (i30 : PySem.W.isFn K (.ref f30) = true) (l30 : K.lookup f30 = some ⟨oc30, od30, .func (PySem.W.fnOf "say" "Desk.say" (defArgs s_Desk_say) (defBody s_Desk_say) (defScope s_Desk_say) .none kV30 dc30 pm30 an30 cd30 ct30), sl30⟩) (c30 : PySem.W.codeIn K cd30 "Desk.say" = true) (k30 : PySem.W.keepIn K (.ref f30) = true)
  {f31 : Addr} {od31 an31 : Option Addr} {sl31 : Array (Option Value)} {oc31 kV31 dc31 pm31 cd31 ct31 : Value} (a31 : PySem.W.findIn K (.ref CD) "turn" = some (some (.ref f31))) (i31 : PySem.W.isFn K (.ref f31) = true) (l31 : K.lookup f31 = some ⟨oc31, od31, .func (PySem.W.fnOf "turn" "Desk.turn" (defArgs s_Desk_turn) (defBody s_Desk_turn) (defScope s_Desk_turn) .none kV31 dc31 pm31 an31 cd31 ct31), sl31⟩) (c31 : PySem.W.codeIn K cd31 "Desk.turn" = true) (k31 : PySem.W.keepIn K (.ref f31) = true)
  {f32 : Addr} {od32 an32 : Option Addr} {sl32 : Array (Option Value)} {oc32 kV32 dc32 pm32 cd32 ct32 : Value} (a32 : PySem.W.findIn K (.ref CD) "keep" = some (some (.ref f32))) (i32 : PySem.W.isFn K (.ref f32) = true) (l32 : K.lookup f32 = some ⟨oc32, od32, .func (PySem.W.fnOf "keep" "Desk.keep" (defArgs s_Desk_keep) (defBody s_Desk_keep) (defScope s_Desk_keep) .none kV32 dc32 pm32 an32 cd32 ct32), sl32⟩) (c32 : PySem.W.codeIn K cd32 "Desk.keep" = true) (k32 : PySem.W.keepIn K (.ref f32) = true)
  {f33 : Addr} {od33 an33 : Option Addr} {sl33 : Array (Option Value)} {oc33 kV33 dc33 pm33 cd33 ct33 : Value} (a33 : PySem.W.findIn K (.ref CD) "alone" = some (some (.ref f33))) (i33 : PySem.W.isFn K (.ref f33) = true) (l33 : K.lookup f33 = some ⟨oc33, od33, .func (PySem.W.fnOf "alone" "Desk.alone" (defArgs s_Desk_alone) (defBody s_Desk_alone) (defScope s_Desk_alone) .none kV33 dc33 pm33 an33 cd33 ct33), sl33⟩) (c33 : PySem.W.codeIn K cd33 "Desk.alone" = true) (k33 : PySem.W.keepIn K (.ref f33) = true)
  {f34 : Addr} {od34 an34 : Option Addr} {sl34 : Array (Option Value)} {oc34 kV34 dc34 pm34 cd34 ct34 : Value} (a34 : PySem.W.findIn K (.ref CD) "told" = some (some (.ref f34))) (i34 : PySem.W.isFn K (.ref f34) = true) (l34 : K.lookup f34 = some ⟨oc34, od34, .func (PySem.W.fnOf "told" "Desk.told" (defArgs s_Desk_told) (defBody s_Desk_told) (defScope s_Desk_told) .none kV34 dc34 pm34 an34 cd34 ct34), sl34⟩) (c34 : PySem.W.codeIn K cd34 "Desk.told" = true) (k34 : PySem.W.keepIn K (.ref f34) = true)
  {f35 : Addr} {od35 an35 : Option Addr} {sl35 : Array (Option Value)} {oc35 kV35 dc35 pm35 cd35 ct35 : Value} (a35 : PySem.W.nsIn K mainGlobals "_law_refused" = some (some (.ref f35))) (l35 : K.lookup f35 = some ⟨oc35, od35, .func (PySem.W.fnOf "_law_refused" "_law_refused" (defArgs s__law_refused) (defBody s__law_refused) (defScope s__law_refused) .none kV35 dc35 pm35 an35 cd35 ct35), sl35⟩) (c35 : PySem.W.codeIn K cd35 "_law_refused" = true) (k35 : PySem.W.keepIn K (.ref f35) = true)
  {f36 : Addr} {od36 an36 : Option Addr} {sl36 : Array (Option Value)} {oc36 kV36 dc36 pm36 cd36 ct36 : Value} (a36 : PySem.W.nsIn K mainGlobals "_law_bad" = some (some (.ref f36))) (l36 : K.lookup f36 = some ⟨oc36, od36, .func (PySem.W.fnOf "_law_bad" "_law_bad" (defArgs s__law_bad) (defBody s__law_bad) (defScope s__law_bad) .none kV36 dc36 pm36 an36 cd36 ct36), sl36⟩) (c36 : PySem.W.codeIn K cd36 "_law_bad" = true) (k36 : PySem.W.keepIn K (.ref f36) = true)
  {f37 : Addr} {od37 an37 : Option Addr} {sl37 : Array (Option Value)} {oc37 kV37 dc37 pm37  ct37 : Value} {cL37 : Addr} (a37 : PySem.W.nsIn K mainGlobals "law" = some (some (.ref f37))) (l37 : K.lookup f37 = some ⟨oc37, od37, .func (PySem.W.fnOf "law" "law" (defArgs s_law) (defBody s_law) (defScope s_law) .none kV37 dc37 pm37 an37 (.ref cL37) ct37), sl37⟩) (c37 : PySem.W.codeIn K (.ref cL37) "law" = true) (k37 : PySem.W.keepIn K (.ref f37) = true)
  (z_ValueError : PySem.W.nsIn K mainGlobals "ValueError" = some none)
  (z_all : PySem.W.nsIn K mainGlobals "all" = some none)
  (z_any : PySem.W.nsIn K mainGlobals "any" = some none)
  (z_bool : PySem.W.nsIn K mainGlobals "bool" = some none)
  (z_enumerate : PySem.W.nsIn K mainGlobals "enumerate" = some none)
  (z_int : PySem.W.nsIn K mainGlobals "int" = some none)
  (z_isinstance : PySem.W.nsIn K mainGlobals "isinstance" = some none)
  (z_len : PySem.W.nsIn K mainGlobals "len" = some none)
  (z_list : PySem.W.nsIn K mainGlobals "list" = some none)
  (z_max : PySem.W.nsIn K mainGlobals "max" = some none)
  (z_min : PySem.W.nsIn K mainGlobals "min" = some none)
  (z_range : PySem.W.nsIn K mainGlobals "range" = some none)
  (z_set : PySem.W.nsIn K mainGlobals "set" = some none)
  (z_sorted : PySem.W.nsIn K mainGlobals "sorted" = some none)
  (z_str : PySem.W.nsIn K mainGlobals "str" = some none)
  (z_sum : PySem.W.nsIn K mainGlobals "sum" = some none)
  (z_tuple : PySem.W.nsIn K mainGlobals "tuple" = some none)
  (z_zip : PySem.W.nsIn K mainGlobals "zip" = some none)
  {t_FIGURES : Tok} (z_FIGURES : PySem.W.nsIn K mainGlobals "FIGURES" = some (some (.str "0123456789" t_FIGURES)))
  {t_MOST_FIGURES : Tok} (z_MOST_FIGURES : PySem.W.nsIn K mainGlobals "MOST_FIGURES" = some (some (.int 2 t_MOST_FIGURES)))
  {t_MOST_PLACES : Tok} (z_MOST_PLACES : PySem.W.nsIn K mainGlobals "MOST_PLACES" = some (some (.int 14 t_MOST_PLACES)))
  {t_MOST_SMALL : Tok} (z_MOST_SMALL : PySem.W.nsIn K mainGlobals "MOST_SMALL" = some (some (.int 7 t_MOST_SMALL)))
  (zb_NoDeed : errB K "NoDeed" = true)
  (zb_NoLine : errB K "NoLine" = true)
  (zb_NoPlace : errB K "NoPlace" = true)
  (zb_NoTie : errB K "NoTie" = true)
  (zb_NoWeb : errB K "NoWeb" = true)
  (zb_NotJoined : errB K "NotJoined" = true)
  (zb_er : errsB K = true)
  {CG fG : Addr} {odG anG : Option Addr} {slG : Array (Option Value)} {ocG kVG dcG pmG cdG ctG : Value} (aG : PySem.W.nsIn K mainGlobals "TooGreat" = some (some (.ref CG))) (zb_G : greatB K CG = true) (iG : PySem.W.findIn K (.ref CG) "__init__" = some (some (.ref fG))) (tG : PySem.W.typeIn K (.ref fG) = some (.type "function"))
  (lG : K.lookup fG = some ⟨ocG, odG, .func (PySem.W.fnOf "__init__" "TooGreat.__init__" (defArgs s_init) (defBody s_init) (defScope s_init) .none kVG dcG pmG anG cdG ctG), slG⟩) (cG : PySem.W.codeIn K cdG "TooGreat.__init__" = true) (kG : PySem.W.keepIn K (.ref fG) = true)
  {PL37 : Addr} {ocC37 : Value} {odC37 : Option Addr} {vC37 : Array Value} {slC37 : Array (Option Value)} (lC37 : K.lookup cL37 = some ⟨ocC37, odC37, .fields vC37, slC37⟩) (pC37 : (vC37[11]? : Option Value) = some (.ref PL37)) (nT37 : K.lookup PL37 = none)
  (hT37 : PySem.W.tabIn K "law" = some (cL37, PL37) → PySem.W.CodeHd h cL37 PL37 ∧ h.get? PL37 = some (PySem.W.tabObj #[]))
  (lt : lamT K = [(PL37, ("law.<locals>.<lambda>" : Str))]) (nd : ([(PL37, ("law.<locals>.<lambda>" : Str))].map Prod.fst).Nodup)
  (ht : ∀ ns : List Int, ns.length ≤ 63 → F_law [scrD ns] = .ok (.bool true))
  : LamX.LawAtS l w K (L2.CX l.prog w) 51 63 "_law_script" mg fa h := by
  have e := hfa.symm.trans (PySem.W.mg_of X G a37)
  cases e
  have t_is_whole : Tx K mg "is_whole" s_is_whole P_is_whole := tx_mk X G a0 l0 c0 k0 fun _ _ _ _ _ _ us hl => match us, hl with | [_], _ => rfl
  have t_is_place : Tx K mg "is_place" s_is_place P_is_place := tx_mk X G a1 l1 c1 k1 fun _ _ _ _ _ _ us hl => match us, hl with | [_, _], _ => rfl
  have t_rises : Tx K mg "rises" s_rises P_rises := tx_mk X G a2 l2 c2 k2 fun _ _ _ _ _ _ us hl => match us, hl with | [_], _ => rfl
  have t_is_tie : Tx K mg "is_tie" s_is_tie P_is_tie := tx_mk X G a3 l3 c3 k3 fun _ _ _ _ _ _ us hl => match us, hl with | [_, _], _ => rfl
  have t_is_web : Tx K mg "is_web" s_is_web P_is_web := tx_mk X G a4 l4 c4 k4 fun _ _ _ _ _ _ us hl => match us, hl with | [_], _ => rfl
  have t_need_web : Tx K mg "need_web" s_need_web P_need_web := tx_mk X G a5 l5 c5 k5 fun _ _ _ _ _ _ us hl => match us, hl with | [_], _ => rfl
  have t_need_place : Tx K mg "need_place" s_need_place P_need_place := tx_mk X G a6 l6 c6 k6 fun _ _ _ _ _ _ us hl => match us, hl with | [_, _], _ => rfl
  have t_need_small : Tx K mg "need_small" s_need_small P_need_small := tx_mk X G a7 l7 c7 k7 fun _ _ _ _ _ _ us hl => match us, hl with | [_], _ => rfl
  have t_are_tied : Tx K mg "are_tied" s_are_tied P_are_tied := tx_mk X G a8 l8 c8 k8 fun _ _ _ _ _ _ us hl => match us, hl with | [_, _, _], _ => rfl
  have t_near_to : Tx K mg "near_to" s_near_to P_near_to := tx_mk X G a9 l9 c9 k9 fun _ _ _ _ _ _ us hl => match us, hl with | [_, _], _ => rfl
  have t_counts_of : Tx K mg "counts_of" s_counts_of P_counts_of := tx_mk X G a10 l10 c10 k10 fun _ _ _ _ _ _ us hl => match us, hl with | [_], _ => rfl
  have t_piece_of : Tx K mg "piece_of" s_piece_of P_piece_of := tx_mk X G a11 l11 c11 k11 fun _ _ _ _ _ _ us hl => match us, hl with | [_, _], _ => rfl
  have t_all_pieces : Tx K mg "all_pieces" s_all_pieces P_all_pieces := tx_mk X G a12 l12 c12 k12 fun _ _ _ _ _ _ us hl => match us, hl with | [_], _ => rfl
  have t_meet : Tx K mg "meet" s_meet P_meet := tx_mk X G a13 l13 c13 k13 fun _ _ _ _ _ _ us hl => match us, hl with | [_, _], _ => rfl
  have t_made : Tx K mg "made" s_made P_made := tx_mk X G a14 l14 c14 k14 fun _ _ _ _ _ _ us hl => match us, hl with | [_], _ => rfl
  have t_need_few : Tx K mg "need_few" s_need_few P_need_few := tx_mk X G a15 l15 c15 k15 fun _ _ _ _ _ _ us hl => match us, hl with | [_], _ => rfl
  have t_tie_web : Tx K mg "tie_web" s_tie_web P_tie_web := tx_mk X G a16 l16 c16 k16 fun _ _ _ _ _ _ us hl => match us, hl with | [_], _ => rfl
  have t_pairs_of : Tx K mg "pairs_of" s_pairs_of P_pairs_of := tx_mk X G a17 l17 c17 k17 fun _ _ _ _ _ _ us hl => match us, hl with | [_], _ => rfl
  have t_sizes_ahead : Tx K mg "sizes_ahead" s_sizes_ahead P_sizes_ahead := tx_mk X G a18 l18 c18 k18 fun _ _ _ _ _ _ us hl => match us, hl with | [_], _ => rfl
  have t_fate : Tx K mg "fate" s_fate P_fate := tx_mk X G a19 l19 c19 k19 fun _ _ _ _ _ _ us hl => match us, hl with | [_], _ => rfl
  have t_crowds_in : Tx K mg "crowds_in" s_crowds_in P_crowds_in := tx_mk X G a20 l20 c20 k20 fun _ _ _ _ _ _ us hl => match us, hl with | [_], _ => rfl
  have t_ties_in : Tx K mg "ties_in" s_ties_in P_ties_in := tx_mk X G a21 l21 c21 k21 fun _ _ _ _ _ _ us hl => match us, hl with | [_], _ => rfl
  have t_may_join : Tx K mg "may_join" s_may_join P_may_join := tx_mk X G a22 l22 c22 k22 fun _ _ _ _ _ _ us hl => match us, hl with | [_, _, _], _ => rfl
  have t_behind : Tx K mg "behind" s_behind P_behind := tx_mk X G a23 l23 c23 k23 fun _ _ _ _ _ _ us hl => match us, hl with | [_, _, _, _], _ => rfl
  have t_sharings_of : Tx K mg "sharings_of" s_sharings_of P_sharings_of := tx_mk X G a24 l24 c24 k24 fun _ _ _ _ _ _ us hl => match us, hl with | [_], _ => rfl
  have t_all_sharings : Tx K mg "all_sharings" s_all_sharings P_all_sharings := tx_mk X G a25 l25 c25 k25 fun _ _ _ _ _ _ us hl => match us, hl with | [_], _ => rfl
  have t_shown : Tx K mg "shown" s_shown P_shown := tx_mk X G a26 l26 c26 k26 fun _ _ _ _ _ _ us hl => match us, hl with | [_], _ => rfl
  have t_number_in : Tx K mg "number_in" s_number_in P_number_in := tx_mk X G a27 l27 c27 k27 fun _ _ _ _ _ _ us hl => match us, hl with | [_], _ => rfl
  have t_told_number : Tx K mg "told_number" s_told_number P_told_number := tx_mk X G a28 l28 c28 k28 fun _ _ _ _ _ _ us hl => match us, hl with | [_], _ => rfl
  have t_Desk___init__ : TxM K "__init__" "Desk.__init__" s_Desk___init__ P_Desk___init__ := txM_mk aD a29 i29 l29 c29 k29 fun _ _ _ _ _ _ us hl => match us, hl with | [_], _ => rfl
  have t_Desk_say : TxM K "say" "Desk.say" s_Desk_say P_Desk_say := txM_mk aD a30 i30 l30 c30 k30 fun _ _ _ _ _ _ us hl => match us, hl with | [_, _], _ => rfl
  have t_Desk_turn : TxM K "turn" "Desk.turn" s_Desk_turn P_Desk_turn := txM_mk aD a31 i31 l31 c31 k31 fun _ _ _ _ _ _ us hl => match us, hl with | [_, _, _], _ => rfl
  have t_Desk_keep : TxM K "keep" "Desk.keep" s_Desk_keep P_Desk_keep := txM_mk aD a32 i32 l32 c32 k32 fun _ _ _ _ _ _ us hl => match us, hl with | [_, _], _ => rfl
  have t_Desk_alone : TxM K "alone" "Desk.alone" s_Desk_alone P_Desk_alone := txM_mk aD a33 i33 l33 c33 k33 fun _ _ _ _ _ _ us hl => match us, hl with | [_, _], _ => rfl
  have t_Desk_told : TxM K "told" "Desk.told" s_Desk_told P_Desk_told := txM_mk aD a34 i34 l34 c34 k34 fun _ _ _ _ _ _ us hl => match us, hl with | [_, _], _ => rfl
  have t__law_refused : Tx K mg "_law_refused" s__law_refused P__law_refused := tx_mk X G a35 l35 c35 k35 fun _ _ _ _ _ _ us hl => match us, hl with | [_], _ => rfl
  have t__law_bad : Tx K mg "_law_bad" s__law_bad P__law_bad := tx_mk X G a36 l36 c36 k36 fun _ _ _ _ _ _ us hl => match us, hl with | [_], _ => rfl
  have m_ValueError := PySem.W.mg_none_of X G z_ValueError
  have m_all := PySem.W.mg_none_of X G z_all
  have m_any := PySem.W.mg_none_of X G z_any
  have m_bool := PySem.W.mg_none_of X G z_bool
  have m_enumerate := PySem.W.mg_none_of X G z_enumerate
  have m_int := PySem.W.mg_none_of X G z_int
  have m_isinstance := PySem.W.mg_none_of X G z_isinstance
  have m_len := PySem.W.mg_none_of X G z_len
  have m_list := PySem.W.mg_none_of X G z_list
  have m_max := PySem.W.mg_none_of X G z_max
  have m_min := PySem.W.mg_none_of X G z_min
  have m_range := PySem.W.mg_none_of X G z_range
  have m_set := PySem.W.mg_none_of X G z_set
  have m_sorted := PySem.W.mg_none_of X G z_sorted
  have m_str := PySem.W.mg_none_of X G z_str
  have m_sum := PySem.W.mg_none_of X G z_sum
  have m_tuple := PySem.W.mg_none_of X G z_tuple
  have m_zip := PySem.W.mg_none_of X G z_zip
  have c_FIGURES : GcS mg "FIGURES" "0123456789" := ⟨_, PySem.W.mg_of X G z_FIGURES⟩
  have c_MOST_FIGURES : GcI mg "MOST_FIGURES" 2 := ⟨_, PySem.W.mg_of X G z_MOST_FIGURES⟩
  have c_MOST_PLACES : GcI mg "MOST_PLACES" 14 := ⟨_, PySem.W.mg_of X G z_MOST_PLACES⟩
  have c_MOST_SMALL : GcI mg "MOST_SMALL" 7 := ⟨_, PySem.W.mg_of X G z_MOST_SMALL⟩
  have e_NoDeed : ErrC K mg (ctK K) 11 "NoDeed" := errC_of X G 11 rfl zb_NoDeed
  have e_NoLine : ErrC K mg (ctK K) 10 "NoLine" := errC_of X G 10 rfl zb_NoLine
  have e_NoPlace : ErrC K mg (ctK K) 1 "NoPlace" := errC_of X G 1 rfl zb_NoPlace
  have e_NoTie : ErrC K mg (ctK K) 8 "NoTie" := errC_of X G 8 rfl zb_NoTie
  have e_NoWeb : ErrC K mg (ctK K) 0 "NoWeb" := errC_of X G 0 rfl zb_NoWeb
  have e_NotJoined : ErrC K mg (ctK K) 7 "NotJoined" := errC_of X G 7 rfl zb_NotJoined
  have er := errs_of X G zb_er
  have dk : DeskOk K := desk_of aD bD
  have cT_ALONE : GcT K mg "ALONE" ["make", "back", "web", "root", "shared", "ahead", "fate"] := gcT_of X G zt_ALONE
  have tI37 : PySem.W.tabIn K "law" = some (cL37, PL37) := by
    unfold PySem.W.tabIn; rw [a37]; dsimp only; rw [l37]; dsimp only [PySem.W.fnOf]; rw [lC37]; dsimp only; rw [pC37]
  obtain ⟨hC37, hP37⟩ := hT37 tI37
  refine ⟨PySem.W.fnOf "law" "law" (defArgs s_law) (defBody s_law) (defScope s_law) .none kV37 dc37 pm37 an37 (.ref cL37) ct37, [(cL37, PL37)], spD K (ctK K) 1 F_law, ?_, ?_, ?_, fun s v => .of_eq rfl, fun H a ns hl _ hH hS => end_sp ?_ hS hl (ht ns hl), fun base _ _ hB => ?_⟩
  · exact fun p hp => by
      simp only [List.mem_cons, List.not_mem_nil, or_false] at hp
      rcases hp with rfl
      · exact hP37
  · exact fun p hp => by
      simp only [List.mem_cons, List.not_mem_nil, or_false] at hp
      rcases hp with rfl
      · exact nT37
  · exact fun p hp => by
      simp only [List.mem_cons, List.not_mem_nil, or_false] at hp
      rcases hp with rfl
      · exact hC37
  · rw [lt]
    exact fun p hp => by
      simp only [List.mem_cons, List.not_mem_nil, or_false] at hp
      rcases hp with rfl
      · exact LamX.TabS.nil (hH (cL37, PL37) List.mem_cons_self)
  have mk_law : MakerAt K mg base cL37 "law.<locals>.<lambda>" := makerAt_of lt nd (hB (cL37, PL37) List.mem_cons_self) List.mem_cons_self
  have gr : GreatOk l.prog w K mg base (ctK K 12) := great_of X G aG zb_G iG tG lG cG kG sc_init rfl (by decide +kernel) (fun _ _ _ _ _ _ us hl => match us, hl with | [_, _, _], _ => rfl)
  have k_is_whole := k_is_whole (P := l.prog) (w := w) (base := base) (ct := ctK K) t_is_whole m_bool m_int m_isinstance
  have k_is_place := k_is_place (P := l.prog) (w := w) (base := base) (ct := ctK K) t_is_place k_is_whole
  have k_rises := k_rises (P := l.prog) (w := w) (base := base) (ct := ctK K) t_rises m_all m_zip
  have k_is_tie := k_is_tie (P := l.prog) (w := w) (base := base) (ct := ctK K) t_is_tie m_all m_isinstance m_len m_tuple k_is_place
  have k_is_web := k_is_web (P := l.prog) (w := w) (base := base) (ct := ctK K) t_is_web m_all m_isinstance m_len m_tuple c_MOST_PLACES k_rises k_is_tie k_is_whole
  have k_need_web := k_need_web (P := l.prog) (w := w) (base := base) (ct := ctK K) t_need_web e_NoWeb k_is_web
  have k_need_place := k_need_place (P := l.prog) (w := w) (base := base) (ct := ctK K) t_need_place e_NoPlace k_is_place
  have k_need_small := k_need_small (P := l.prog) (w := w) (base := base) (ct := ctK K) t_need_small c_MOST_SMALL gr
  have k_are_tied := k_are_tied (P := l.prog) (w := w) (base := base) (ct := ctK K) t_are_tied m_max m_min
  have k_near_to := k_near_to (P := l.prog) (w := w) (base := base) (ct := ctK K) t_near_to m_range k_are_tied
  have k_counts_of := k_counts_of (P := l.prog) (w := w) (base := base) (ct := ctK K) t_counts_of m_len m_range k_near_to
  have k_piece_of := k_piece_of (P := l.prog) (w := w) (base := base) (ct := ctK K) t_piece_of m_any m_range m_set m_sorted m_tuple k_are_tied
  have k_all_pieces := k_all_pieces (P := l.prog) (w := w) (base := base) (ct := ctK K) t_all_pieces m_range m_set m_sorted k_piece_of
  have k_meet := k_meet (P := l.prog) (w := w) (base := base) (ct := ctK K) t_meet
  have k_made := k_made (P := l.prog) (w := w) (base := base) (ct := ctK K) t_made m_len m_range m_tuple k_meet
  have k_need_few := k_need_few (P := l.prog) (w := w) (base := base) (ct := ctK K) t_need_few m_len c_MOST_SMALL gr
  have k_tie_web := k_tie_web (P := l.prog) (w := w) (base := base) (ct := ctK K) t_tie_web k_made k_need_few k_need_web
  have k_pairs_of := k_pairs_of (P := l.prog) (w := w) (base := base) (ct := ctK K) t_pairs_of m_sum
  have k_sizes_ahead := k_sizes_ahead (P := l.prog) (w := w) (base := base) (ct := ctK K) t_sizes_ahead m_len k_pairs_of k_counts_of k_need_web
  have k_fate := k_fate (P := l.prog) (w := w) (base := base) (ct := ctK K) t_fate m_len m_sorted e_NotJoined k_counts_of k_all_pieces k_need_web
  have k_crowds_in := k_crowds_in (P := l.prog) (w := w) (base := base) (ct := ctK K) t_crowds_in m_all m_range m_sorted k_are_tied
  have k_ties_in := k_ties_in (P := l.prog) (w := w) (base := base) (ct := ctK K) t_ties_in m_enumerate
  have k_may_join := k_may_join (P := l.prog) (w := w) (base := base) (ct := ctK K) t_may_join m_all m_len
  have k_behind := k_behind (P := l.prog) (w := w) (base := base) (ct := ctK K) t_behind m_sorted k_may_join k_ties_in 40
  have k_sharings_of := k_sharings_of (P := l.prog) (w := w) (base := base) (ct := ctK K) t_sharings_of m_list m_sorted k_behind k_crowds_in
  have k_all_sharings := k_all_sharings (P := l.prog) (w := w) (base := base) (ct := ctK K) t_all_sharings k_sharings_of k_need_small k_need_web
  have k_shown := k_shown (P := l.prog) (w := w) (base := base) (ct := ctK K) t_shown m_str
  have k_number_in := k_number_in (P := l.prog) (w := w) (base := base) (ct := ctK K) t_number_in m_all m_int m_len c_FIGURES c_MOST_FIGURES
  have k_told_number := k_told_number (P := l.prog) (w := w) (base := base) (ct := ctK K) t_told_number e_NoLine k_number_in
  have k_Desk___init__ : CalI l.prog w K mg base 1 := calIni X G aD bD t_Desk___init__ sc_Desk___init__ rfl (by decide +kernel)
  have k_Desk_keep : CalM l.prog w K mg base (deskC K) "keep" P_Desk_keep 1 (spM K (ctK K) 1 fKeep) := calKeep t_Desk_keep dk sc_Desk_keep rfl (by decide +kernel) rfl
  have k_Desk_turn := k_Desk_turn (P := l.prog) (w := w) (base := base) (ct := ctK K) t_Desk_turn m_len m_max m_min m_sorted m_tuple e_NoTie dk k_need_place k_Desk_keep
  have k_Desk_told := k_Desk_told (P := l.prog) (w := w) (base := base) (ct := ctK K) t_Desk_told m_int m_str dk k_all_sharings k_fate k_sizes_ahead k_shown
  have k_Desk_alone := k_Desk_alone (P := l.prog) (w := w) (base := base) (ct := ctK K) t_Desk_alone e_NoDeed dk k_Desk_keep k_tie_web k_Desk_told
  have k_Desk_say := k_Desk_say (P := l.prog) (w := w) (base := base) (ct := ctK K) t_Desk_say m_isinstance m_len m_str c_MOST_PLACES e_NoLine cT_ALONE dk k_Desk_alone k_told_number k_Desk_keep k_Desk_turn
  have k__law_bad := k__law_bad (P := l.prog) (w := w) (base := base) (ct := ctK K) t__law_bad m_len
  exact fnD_okC l37 c37 sc_law rfl (by decide) (kb_law (ct := ctK K) mk_law dk k_Desk___init__ k_Desk_say k__law_bad er t__law_refused m_ValueError m_isinstance m_range)
end
end K93
open PySem PySem.W PyProof.Rows
set_option maxHeartbeats 0 in
theorem PySem.Challenge.cw_tiewebs_k93_lines_that_are_none_holds : PySem.Challenge.rw_tiewebs_k93_lines_that_are_none.Holds := by
  w_on; o_law; k_head; (case hw => w_witness2)
  k_fill
  refine TW.walk_tw (l := PySem.Challenge.rw_tiewebs_k93_lines_that_are_none) (n := 63) (k := 51) (x := "_law_script") (CX := fun w => L2.CX PySem.Challenge.rw_tiewebs_k93_lines_that_are_none.prog w) rfl (by decide) rfl ⟨rfl, by decide, by decide⟩ (fun w h Y => by first | exact PySem.W.kIn_of Y | exact PySem.W.km_in_of Y) ?F (fun _ _ _ _ _ h => TW.cx_end h)
  case F =>
    intro w mg fa h Y0 KX G hmg hTab
    refine' K93.all_mk KX G hmg ?aD ?bD ?zt_ALONE ?a0 ?l0 ?c0 ?k0 ?a1 ?l1 ?c1 ?k1 ?a2 ?l2 ?c2 ?k2 ?a3 ?l3 ?c3 ?k3 ?a4 ?l4 ?c4 ?k4 ?a5 ?l5 ?c5 ?k5 ?a6 ?l6 ?c6 ?k6 ?a7 ?l7 ?c7 ?k7 ?a8 ?l8 ?c8 ?k8 ?a9 ?l9 ?c9 ?k9 ?a10 ?l10 ?c10 ?k10 ?a11 ?l11 ?c11 ?k11 ?a12 ?l12 ?c12 ?k12 ?a13 ?l13 ?c13 ?k13 ?a14 ?l14 ?c14 ?k14 ?a15 ?l15 ?c15 ?k15 ?a16 ?l16 ?c16 ?k16 ?a17 ?l17 ?c17 ?k17 ?a18 ?l18 ?c18 ?k18 ?a19 ?l19 ?c19 ?k19 ?a20 ?l20 ?c20 ?k20 ?a21 ?l21 ?c21 ?k21 ?a22 ?l22 ?c22 ?k22 ?a23 ?l23 ?c23 ?k23 ?a24 ?l24 ?c24 ?k24 ?a25 ?l25 ?c25 ?k25 ?a26 ?l26 ?c26 ?k26 ?a27 ?l27 ?c27 ?k27 ?a28 ?l28 ?c28 ?k28 ?a29 ?i29 ?l29 ?c29 ?k29 ?a30 ?i30 ?l30 ?c30 ?k30 ?a31 ?i31 ?l31 ?c31 ?k31 ?a32 ?i32 ?l32 ?c32 ?k32 ?a33 ?i33 ?l33 ?c33 ?k33 ?a34 ?i34 ?l34 ?c34 ?k34 ?a35 ?l35 ?c35 ?k35 ?a36 ?l36 ?c36 ?k36 ?a37 ?l37 ?c37 ?k37 ?z_ValueError ?z_all ?z_any ?z_bool ?z_enumerate ?z_int ?z_isinstance ?z_len ?z_list ?z_max ?z_min ?z_range ?z_set ?z_sorted ?z_str ?z_sum ?z_tuple ?z_zip ?z_FIGURES ?z_MOST_FIGURES ?z_MOST_PLACES ?z_MOST_SMALL ?zb_NoDeed ?zb_NoLine ?zb_NoPlace ?zb_NoTie ?zb_NoWeb ?zb_NotJoined ?zb_er ?aG ?zb_G ?iG ?tG ?lG ?cG ?kG ?lC37 ?pC37 ?nT37 ?hT37 ?lt ?nd K93.law_true
    (case aD => k_is); (case a0 => k_is); (case l0 => k_is); (case c0 => k_is); (case k0 => k_is); (case a1 => k_is); (case l1 => k_is); (case c1 => k_is); (case k1 => k_is); (case a2 => k_is); (case l2 => k_is); (case c2 => k_is); (case k2 => k_is); (case a3 => k_is); (case l3 => k_is); (case c3 => k_is); (case k3 => k_is); (case a4 => k_is); (case l4 => k_is); (case c4 => k_is); (case k4 => k_is); (case a5 => k_is); (case l5 => k_is); (case c5 => k_is); (case k5 => k_is); (case a6 => k_is); (case l6 => k_is); (case c6 => k_is); (case k6 => k_is); (case a7 => k_is); (case l7 => k_is); (case c7 => k_is); (case k7 => k_is); (case a8 => k_is); (case l8 => k_is); (case c8 => k_is); (case k8 => k_is); (case a9 => k_is); (case l9 => k_is); (case c9 => k_is); (case k9 => k_is); (case a10 => k_is); (case l10 => k_is); (case c10 => k_is); (case k10 => k_is); (case a11 => k_is); (case l11 => k_is); (case c11 => k_is); (case k11 => k_is); (case a12 => k_is); (case l12 => k_is); (case c12 => k_is); (case k12 => k_is); (case a13 => k_is); (case l13 => k_is); (case c13 => k_is); (case k13 => k_is); (case a14 => k_is); (case l14 => k_is); (case c14 => k_is); (case k14 => k_is); (case a15 => k_is); (case l15 => k_is); (case c15 => k_is); (case k15 => k_is); (case a16 => k_is); (case l16 => k_is); (case c16 => k_is); (case k16 => k_is); (case a17 => k_is); (case l17 => k_is); (case c17 => k_is); (case k17 => k_is); (case a18 => k_is); (case l18 => k_is); (case c18 => k_is); (case k18 => k_is); (case a19 => k_is); (case l19 => k_is); (case c19 => k_is); (case k19 => k_is); (case a20 => k_is); (case l20 => k_is); (case c20 => k_is); (case k20 => k_is); (case a21 => k_is); (case l21 => k_is); (case c21 => k_is); (case k21 => k_is); (case a22 => k_is); (case l22 => k_is); (case c22 => k_is); (case k22 => k_is); (case a23 => k_is); (case l23 => k_is); (case c23 => k_is); (case k23 => k_is); (case a24 => k_is); (case l24 => k_is); (case c24 => k_is); (case k24 => k_is); (case a25 => k_is); (case l25 => k_is); (case c25 => k_is); (case k25 => k_is); (case a26 => k_is); (case l26 => k_is); (case c26 => k_is); (case k26 => k_is); (case a27 => k_is); (case l27 => k_is); (case c27 => k_is); (case k27 => k_is); (case a28 => k_is); (case l28 => k_is); (case c28 => k_is); (case k28 => k_is); (case a29 => k_is); (case i29 => k_is); (case l29 => k_is); (case c29 => k_is); (case k29 => k_is); (case a30 => k_is); (case i30 => k_is); (case l30 => k_is); (case c30 => k_is); (case k30 => k_is); (case a31 => k_is); (case i31 => k_is); (case l31 => k_is); (case c31 => k_is); (case k31 => k_is); (case a32 => k_is); (case i32 => k_is); (case l32 => k_is); (case c32 => k_is); (case k32 => k_is); (case a33 => k_is); (case i33 => k_is); (case l33 => k_is); (case c33 => k_is); (case k33 => k_is); (case a34 => k_is); (case i34 => k_is); (case l34 => k_is); (case c34 => k_is); (case k34 => k_is); (case a35 => k_is); (case l35 => k_is); (case c35 => k_is); (case k35 => k_is); (case a36 => k_is); (case l36 => k_is); (case c36 => k_is); (case k36 => k_is); (case a37 => k_is); (case l37 => k_is); (case c37 => k_is); (case k37 => k_is); (case z_ValueError => k_is); (case z_all => k_is); (case z_any => k_is); (case z_bool => k_is); (case z_enumerate => k_is); (case z_int => k_is); (case z_isinstance => k_is); (case z_len => k_is); (case z_list => k_is); (case z_max => k_is); (case z_min => k_is); (case z_range => k_is); (case z_set => k_is); (case z_sorted => k_is); (case z_str => k_is); (case z_sum => k_is); (case z_tuple => k_is); (case z_zip => k_is); (case z_FIGURES => k_is); (case z_MOST_FIGURES => k_is); (case z_MOST_PLACES => k_is); (case z_MOST_SMALL => k_is)
    (case bD => kernel_rfl)
    (case zt_ALONE => kernel_rfl)
    (case zb_NoDeed => kernel_rfl)
    (case zb_NoLine => kernel_rfl)
    (case zb_NoPlace => kernel_rfl)
    (case zb_NoTie => kernel_rfl)
    (case zb_NoWeb => kernel_rfl)
    (case zb_NotJoined => kernel_rfl)
    (case zb_er => kernel_rfl)
    (case aG => k_is)
    (case zb_G => kernel_rfl)
    (case iG => k_is)
    (case tG => k_is)
    (case lG => k_is)
    (case cG => k_is)
    (case kG => k_is)
    (case lC37 => k_is); (case pC37 => rfl); (case nT37 => kernel_rfl); (case hT37 => exact hTab "law" _ _ (by kernel_rfl))
    (case lt => kernel_rfl); (case nd => decide)
