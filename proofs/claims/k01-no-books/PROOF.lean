import PyProof.Rows.All
import Wide.All
import OpenK.AllK
import Wide.FinOn
import HandS.ForMost
import HandS.TupAny
import HandS.TupMul
import HandS.Flow
import HandS.IsInst
import HandS.Steps
import HandS.Zip
import KE.DataEq
import KE.DataCmp
import KE.GoesEnum
import HandS.ForExc
import KE.KDictPairs
import HandS.Style
import HandS.Strs
import HandS.Set
import PyProof.EnumMake
import PySem.Challenge.RW_movesup_k01_no_books
set_option Elab.async false
set_option linter.all false
set_option maxRecDepth 100000
set_option maxHeartbeats 4000000
namespace DL
open PySem L2

abbrev D := PyData
/-- what an expression hands on: data, or the cell that slot i holds; a loop's own tuple of some data -/
inductive R where
  | d (x : D)
  | own (i : Nat)
  | w (xs : List D)
/-- what a slot holds: data; a list of others, read alone; an own list; an own dict; the law's town; the law's script -/
inductive B where
  | d (x : D)
  | r (xs : List D)
  | l (xs : List D)
  | m (kvs : List (Str × D))
  | t (c : Int) (m : List (Int × Int))
  | s (ns : List Int)
abbrev Rho := List (Option B)

noncomputable def msk (O : Addr → Prop) (H : Hp) : Hp := fun a => @ite _ (O a) (Classical.propDecidable _) none (H a)
theorem msk_out {O : Addr → Prop} {H : Hp} {a : Addr} (h : ¬ O a) : msk O H a = H a := by
  unfold msk
  exact if_neg h
theorem msk_in {O : Addr → Prop} {H : Hp} {a : Addr} (h : O a) : msk O H a = none := by
  unfold msk
  exact if_pos h
theorem msk_some {O : Addr → Prop} {H : Hp} {a : Addr} {o : HO} (h : msk O H a = some o) : ¬ O a ∧ H a = some o := by
  by_cases e : O a
  · rw [msk_in e] at h
    cases h
  · rw [msk_out e] at h
    exact ⟨e, h⟩
theorem msk_of {O : Addr → Prop} {H : Hp} {a : Addr} {o : HO} (h : ¬ O a) (e : H a = some o) : msk O H a = some o := by
  rw [msk_out h]
  exact e

/-- every object of the one is in the other -/
def Le (H H' : Hp) : Prop := ∀ a o, H a = some o → H' a = some o
theorem Le.refl (H : Hp) : Le H H := fun _ _ h => h
theorem Le.trans {H H1 H2 : Hp} (a : Le H H1) (b : Le H1 H2) : Le H H2 := fun x o h => b x o (a x o h)
theorem Le.new {H : Hp} {p : Addr} {o : HO} (h : H p = none) : Le H (upd H p o) := fun a u e => by
  rw [upd_ne (ne_of_none e h)]
  exact e
theorem Le.sqt {K : PySem.W.Frag} {H H' : Hp} {a : Addr} {xs : List V} (k : Le H H') (h : SqT K H a xs) : SqT K H' a xs := by
  rcases h with (h | ⟨o, h⟩) | h
  · exact Or.inl (Or.inl (k _ _ h))
  · exact Or.inl (Or.inr ⟨o, k _ _ h⟩)
  · exact Or.inr h
theorem Le.sql {K : PySem.W.Frag} {H H' : Hp} {a : Addr} {xs : List V} (k : Le H H') (h : SqL K H a xs) : SqL K H' a xs := by
  rcases h with (h | ⟨o, h⟩) | h
  · exact Or.inl (Or.inl (k _ _ h))
  · exact Or.inl (Or.inr ⟨o, k _ _ h⟩)
  · exact Or.inr h
theorem msk_le (O : Addr → Prop) (H : Hp) : Le (msk O H) H := fun _ _ h => (msk_some h).2

/-- a tuple whose object is known to have no dict of its own -/
def TpS (H : Hp) (a : Addr) (xs : List V) : Prop := ∃ o, H a = some (.frz o (.tup xs)) ∧ o.dict = none
theorem TpS.sq {K : PySem.W.Frag} {H : Hp} {a : Addr} {xs : List V} (h : TpS H a xs) : SqT K H a xs := let ⟨o, h, _⟩ := h; Or.inl (Or.inr ⟨o, h⟩)
theorem Le.tps {H H' : Hp} {a : Addr} {xs : List V} (k : Le H H') (h : TpS H a xs) : TpS H' a xs := let ⟨o, h, n⟩ := h; ⟨o, k _ _ h, n⟩
/-- data whose lists are tracked ones -/
inductive Dn (K : PySem.W.Frag) (H : Hp) : V → D → Prop
  | non : Dn K H .non .none
  | bl (b : Bool) : Dn K H (.bl b) (.bool b)
  | int (i : Int) : Dn K H (.int i) (.int i)
  | str (x : Str) : Dn K H (.str x) (.str x)
  | lst {a : Addr} {xs : List V} {ds : List D} : H a = some (.lst xs) → xs.length = ds.length → (∀ (i : Nat) v d, xs[i]? = some v → ds[i]? = some d → Dn K H v d) → Dn K H (.ref a) (.list ds)
  | tup {a : Addr} {xs : List V} {ds : List D} : TpS H a xs → xs.length = ds.length → (∀ (i : Nat) v d, xs[i]? = some v → ds[i]? = some d → Dn K H v d) → Dn K H (.ref a) (.tuple ds)
/-- item by item -/
def DnL (K : PySem.W.Frag) (H : Hp) (xs : List V) (ds : List D) : Prop := xs.length = ds.length ∧ ∀ (i : Nat) v d, xs[i]? = some v → ds[i]? = some d → Dn K H v d
theorem Dn.mono {K : PySem.W.Frag} {H H' : Hp} (k : Le H H') {v : V} {d : D} (h : Dn K H v d) : Dn K H' v d := by
  induction h with
  | non => exact .non
  | bl b => exact .bl b
  | int i => exact .int i
  | str x => exact .str x
  | lst h1 h2 _ ih => exact .lst (k _ _ h1) h2 ih
  | tup h1 h2 _ ih => exact .tup (k.tps h1) h2 ih
theorem DnL.mono {K : PySem.W.Frag} {H H' : Hp} (k : Le H H') {vs : List V} {ds : List D} (h : DnL K H vs ds) : DnL K H' vs ds := ⟨h.1, fun i v d a b => (h.2 i v d a b).mono k⟩
theorem DnL.nil {K : PySem.W.Frag} {H : Hp} : DnL K H [] [] := ⟨rfl, fun i v d a => by simp at a⟩
theorem DnL.cons {K : PySem.W.Frag} {H : Hp} {v : V} {d : D} {vs : List V} {ds : List D} (h : Dn K H v d) (t : DnL K H vs ds) : DnL K H (v :: vs) (d :: ds) :=
  ⟨by simp [t.1], fun i w e a b => by
    cases i with
    | zero =>
      simp at a b
      subst a
      subst b
      exact h
    | succ i => exact t.2 i w e (by simpa using a) (by simpa using b)⟩
theorem DnL.head {K : PySem.W.Frag} {H : Hp} {v : V} {d : D} {vs : List V} {ds : List D} (t : DnL K H (v :: vs) (d :: ds)) : Dn K H v d ∧ DnL K H vs ds :=
  ⟨t.2 0 v d rfl rfl, by simpa using t.1, fun i w e a b => t.2 (i + 1) w e (by simpa using a) (by simpa using b)⟩
theorem DnL.append {K : PySem.W.Frag} {H : Hp} : ∀ {vs ws : List V} {ds es : List D}, DnL K H vs ds → DnL K H ws es → DnL K H (vs ++ ws) (ds ++ es)
  | [], _, [], _, _, t => t
  | [], _, _ :: _, _, h, _ => by simp [DnL] at h
  | _ :: _, _, [], _, h, _ => by simp [DnL] at h
  | _ :: _, _, _ :: _, _, h, t => .cons h.head.1 (DnL.append h.head.2 t)
theorem DnL.at {K : PySem.W.Frag} {H : Hp} {vs : List V} {ds : List D} (h : DnL K H vs ds) {i : Nat} {d : D} (e : ds[i]? = some d) : ∃ v, vs[i]? = some v ∧ Dn K H v d := by
  have hi : i < vs.length := by
    rw [h.1]
    exact (List.getElem?_eq_some_iff.mp e).1
  exact ⟨vs[i], by simp [hi], h.2 i _ d (by simp [hi]) e⟩
theorem DnL.take {K : PySem.W.Frag} {H : Hp} {vs : List V} {ds : List D} (h : DnL K H vs ds) (n : Nat) : DnL K H (vs.take n) (ds.take n) :=
  ⟨by simp [h.1], fun i v d a b => by
    rw [List.getElem?_take] at a b
    split at a
    · rename_i q
      rw [if_pos q] at b
      exact h.2 i v d a b
    · cases a⟩
theorem DnL.drop {K : PySem.W.Frag} {H : Hp} {vs : List V} {ds : List D} (h : DnL K H vs ds) (n : Nat) : DnL K H (vs.drop n) (ds.drop n) :=
  ⟨by simp [h.1], fun i v d a b => by
    rw [List.getElem?_drop] at a b
    exact h.2 _ v d a b⟩
theorem Dn.none_inv {K : PySem.W.Frag} {H : Hp} {v : V} (h : Dn K H v .none) : v = .non := by cases h; rfl
theorem Dn.str_inv {K : PySem.W.Frag} {H : Hp} {v : V} {x : Str} (h : Dn K H v (.str x)) : v = .str x := by cases h; rfl
theorem Dn.int_inv {K : PySem.W.Frag} {H : Hp} {v : V} {x : Int} (h : Dn K H v (.int x)) : v = .int x := by cases h; rfl
theorem Dn.bool_inv {K : PySem.W.Frag} {H : Hp} {v : V} {x : Bool} (h : Dn K H v (.bool x)) : v = .bl x := by cases h; rfl
theorem Dn.tup_inv {K : PySem.W.Frag} {H : Hp} {v : V} {ds : List D} (h : Dn K H v (.tuple ds)) : ∃ a xs, v = .ref a ∧ TpS H a xs ∧ DnL K H xs ds := by
  cases h with
  | tup h1 h2 h3 => exact ⟨_, _, rfl, h1, h2, h3⟩
theorem Dn.lst_inv {K : PySem.W.Frag} {H : Hp} {v : V} {ds : List D} (h : Dn K H v (.list ds)) : ∃ a xs, v = .ref a ∧ H a = some (.lst xs) ∧ DnL K H xs ds := by
  cases h with
  | lst h1 h2 h3 => exact ⟨_, _, rfl, h1, h2, h3⟩
theorem Dn.ntup {K : PySem.W.Frag} {H : Hp} {a : Addr} {xs : List V} {ds : List D} (h : TpS H a xs) (t : DnL K H xs ds) : Dn K H (.ref a) (.tuple ds) := .tup h t.1 t.2
theorem Dn.nlst {K : PySem.W.Frag} {H : Hp} {a : Addr} {xs : List V} {ds : List D} (h : H a = some (.lst xs)) (t : DnL K H xs ds) : Dn K H (.ref a) (.list ds) := .lst h t.1 t.2

mutual
def imm : D → Bool
  | .none => true
  | .bool _ => true
  | .int _ => true
  | .str _ => true
  | .tuple xs => immL xs
  | .list _ => false
  | .dict _ => false
def immL : List D → Bool
  | [] => true
  | x :: xs => imm x && immL xs
end
theorem immL_at : ∀ {xs : List D} {i : Nat} {d : D}, immL xs = true → xs[i]? = some d → imm d = true
  | [], i, d, _, e => by simp at e
  | x :: xs, 0, d, h, e => by
    simp at e
    subst e
    simp [immL] at h
    exact h.1
  | x :: xs, i + 1, d, h, e => by
    simp [immL] at h
    exact immL_at h.2 (i := i) (by simpa using e)
/-- what is no list is not hidden -/
theorem Dn.hide {K : PySem.W.Frag} {H : Hp} {O : Addr → Prop} (k : ∀ a xs, Rd H a (.tup xs) → ¬ O a) {v : V} {d : D} (h : Dn K H v d) (hi : imm d = true) : Dn K (msk O H) v d := by
  induction h with
  | non => exact .non
  | bl b => exact .bl b
  | int i => exact .int i
  | str x => exact .str x
  | lst h1 h2 _ ih => simp [imm] at hi
  | @tup a xs ds h1 h2 _ ih =>
    refine .tup ?_ h2 fun i v d a b => ih i v d a b (immL_at (by simpa [imm] using hi) b)
    obtain ⟨o, h1, n⟩ := h1
    exact ⟨o, msk_of (k _ _ (Or.inr ⟨o, h1⟩)) h1, n⟩

section
variable {X : Cx} {pins : List (Addr × Obj)} {σ : St} {H : Hp} {s : Shared}
theorem dp_of {K : PySem.W.Frag} {H : Hp} {v : V} {d : D} (h : Dn K H v d) : Dp K H v d := by
  induction h with
  | non => exact .non
  | bl b => exact .bl b
  | int i => exact .int i
  | str x => exact .str x
  | @lst a xs ds h1 h2 hx ih =>
    refine .lst (Or.inl (Or.inl h1)) ?_
    clear h1
    induction xs generalizing ds with
    | nil =>
      cases ds with
      | nil => exact .nil
      | cons => simp at h2
    | cons x xs jh =>
      cases ds with
      | nil => simp at h2
      | cons d ds => exact .cons (ih 0 x d rfl rfl) (jh (by simpa using h2) (fun i v e a b => hx (i + 1) v e (by simpa using a) (by simpa using b)) fun i v e a b => ih (i + 1) v e (by simpa using a) (by simpa using b))
  | @tup a xs ds h1 h2 hx ih =>
    refine .tup h1.sq ?_
    clear h1
    induction xs generalizing ds with
    | nil =>
      cases ds with
      | nil => exact .nil
      | cons => simp at h2
    | cons x xs jh =>
      cases ds with
      | nil => simp at h2
      | cons d ds => exact .cons (ih 0 x d rfl rfl) (jh (by simpa using h2) (fun i v e a b => hx (i + 1) v e (by simpa using a) (by simpa using b)) fun i v e a b => ih (i + 1) v e (by simpa using a) (by simpa using b))
end
end DL
namespace DL
open PySem L2
section
variable {X : Cx}
/-- a new tuple laid, its object known -/
theorem laidZ {pins : List (Addr × Obj)} {σ : L2.St} {H : Hp} {s : Shared} {us : List Value} {xs : List V} (I : L2.Inv X pins σ H s) (r : Vals xs us) (hz : xs.length ≤ sizeLine) {Q : VK}
    (q : ∀ p o, Obj.dict o = none → H p = none → Q (.ref p) (upd H p (.frz o (.tup xs)))) :
    EP X pins σ Q (.ref s.heap.objs.size) { s with heap := s.heap.push { cls := .type "tuple", data := .seq us.toArray } } := by
  refine ⟨.ref s.heap.objs.size, _, I.laid (t' := s.toks) (fun b o e => Heap.get?_push_of_some _ e) (Nat.le_refl _) ?_, rfl, q _ { cls := .type "tuple", data := .seq us.toArray } rfl (I.hok.fresh (Nat.le_refl _))⟩
  exact ⟨Heap.get?_push_size _ rfl, hz, us, r, PyProof.Rows.IsTup.new _ _⟩
def tTupZ (t : TA) : TE := fun σ H Q => t σ H fun xs H1 => xs.length ≤ sizeLine ∧ ∀ p o, Obj.dict o = none → H1 p = none → Q (.ref p) (upd H1 p (.frz o (.tup xs)))
theorem pe_tupZ {es : List Expr} {t : TA} {k : Nat} {pos : Pos} (h : PA X es t) : PE X (.Tuple es k pos) (tTupZ t) := by
  refine ⟨fun pins s σ H Q I hq => ?_⟩
  refine PySem.wpAny_Tuple_spliced (thn (h.run pos pins s σ H _ I hq) fun us s1 w => ?_)
  obtain ⟨xs, H1, I1, r, z, q⟩ := w
  refine ⟨?_, laidZ I1 r z q⟩
  rw [← r.length]
  exact z
/-- t + u -/
def rCatZ : R2 := fun x y H Q => ∃ a b xs ys, x = .ref a ∧ y = .ref b ∧ TpS H a xs ∧ TpS H b ys ∧ xs.length + ys.length ≤ sizeLine ∧
  (xs = [] → Q (.ref b) H) ∧ (xs ≠ [] → ys = [] → Q (.ref a) H) ∧ (xs ≠ [] → ys ≠ [] → ∀ p o, Obj.dict o = none → H p = none → Q (.ref p) (upd H p (.frz o (.tup (xs ++ ys)))))
theorem op_catZ : OpR X (binaryOp .Add) rCatZ := by
  intro pins s σ H x y v u Q I rx ry h
  obtain ⟨a, b, xs, ys, rfl, rfl, ha, hb, hz, q0, q1, q2⟩ := h
  cases rx
  cases ry
  obtain ⟨us, r1, p1, _⟩ := I.tuple (ha.sq (K := X.K))
  obtain ⟨ws, r2, p2, _⟩ := I.tuple (hb.sq (K := X.K))
  have l1 := r1.length
  have l2 := r2.length
  by_cases hx : xs = []
  · subst hx
    cases r1
    exact cat_tup0 p1 p2 ⟨.ref b, H, I, rfl, q0 rfl⟩
  · have hus : us ≠ [] := fun e => hx (List.length_eq_zero_iff.mp (by rw [l1, e]; rfl))
    refine HT.cat_tup p1 p2 hus (fun e => ?_) (fun e => ?_) (by omega)
    · have ey : ys = [] := List.length_eq_zero_iff.mp (by rw [l2, e]; rfl)
      exact ⟨.ref a, H, I, rfl, q1 hx ey⟩
    · have ey : ys ≠ [] := fun e' => e (List.length_eq_zero_iff.mp (by rw [← l2, e']; rfl))
      exact laidZ I (r1.append r2) (by rw [List.length_append]; omega) (q2 hx ey)
/-- t[lo:hi] -/
def rSlZ : V → Option Int → Option Int → Hp → VK → Prop := fun x lo hi H Q => ∃ a xs, x = .ref a ∧ TpS H a xs ∧
  (HT.sIx xs.length 0 lo = 0 ∧ HT.sIx xs.length xs.length hi = xs.length → Q (.ref a) H) ∧
  (¬ (HT.sIx xs.length 0 lo = 0 ∧ HT.sIx xs.length xs.length hi = xs.length) → ∀ p o, Obj.dict o = none → H p = none → Q (.ref p) (upd H p (.frz o (.tup (cutV xs lo hi)))))
theorem sl_tupZ : SlR X rSlZ := by
  intro pins s σ H x v vl vu lo hi sl Q I rx hs pl pu h
  obtain ⟨a, xs, rfl, hx, q1, q2⟩ := h
  cases rx
  obtain ⟨us, r, ht, hz⟩ := I.tuple (hx.sq (K := X.K))
  have hl : us.toArray.size = xs.length := by
    rw [List.size_toArray]
    exact r.length.symm
  refine ⟨"tuple", _, PyProof.Rows.slot_tuple_getitem.lookup, ht.typeIs, ?_⟩
  by_cases hw : HT.sIx xs.length 0 lo = 0 ∧ HT.sIx xs.length xs.length hi = xs.length
  · exact getItem_tuple_whole ht hs pl pu (by rw [hl]; exact hw) ⟨.ref a, H, I, rfl, q1 hw⟩
  · refine HT.getItem_tuple_cut ht hs pl pu (by rw [hl]; exact hw) ?_ (by rw [hl]; exact hz)
    rw [hl]
    have r' : Vals (cutV xs lo hi) ((us.drop (HT.sIx xs.length 0 lo)).take (HT.sIx xs.length xs.length hi - HT.sIx xs.length 0 lo)) := (r.drop _).take _
    exact laidZ I r' (Nat.le_trans (cutV_length xs lo hi) hz) (q2 hw)
/-- tuple(x) -/
theorem call_tupZ : CallR X (.type "tuple") (fun xs H Q => ∃ p ys, xs = [.ref p] ∧ ((SqL X.K H p ys ∧ ∀ l o, Obj.dict o = none → H l = none → Q (.ref l) (upd H l (.frz o (.tup ys)))) ∨ (SqT X.K H p ys ∧ Q (.ref p) H))) := by
  intro pins s σ H xs us Q I r h
  obtain ⟨p, ys, rfl, h⟩ := h
  obtain ⟨u, rfl, rx⟩ := vals1 r
  cases rx
  rcases h with ⟨hq, q⟩ | ⟨hq, q⟩
  · obtain ⟨ws, r', pl, hz⟩ := I.list hq
    have hl := r'.length
    refine call_tuple_list pl.isList (fun h' kp => ?_) (by rw [List.size_toArray]; omega)
    have I1 : L2.Inv X pins σ H { s with heap := h' } := I.kept (t' := s.toks) kp
    exact laidZ I1 r' hz q
  · obtain ⟨ws, r', pl, hz⟩ := I.tuple hq
    exact call_tuple_same pl ⟨.ref p, H, I, rfl, q⟩
end
end DL
namespace DL
open PySem L2

/-- an object that may change -/
def Mt : HO → Prop
  | .lst _ => True
  | .dK _ => True
  | .dT _ => True
  | .set _ _ => True
  | .ins _ _ _ => True
  | .ext _ => True
  | _ => False
theorem Mt.ntup {H : Hp} {a : Addr} {o : HO} (h : H a = some o) (m : Mt o) (xs : List V) : ¬ Rd H a (.tup xs) := by
  rintro (q | ⟨u, q⟩)
  · rw [h] at q
    cases q
    exact m
  · rw [h] at q
    cases q
    exact m
/-- the frame of a body: the written part, foreign cells, cells of others that may change, the heap at the entry -/
structure Fr where
  K : PySem.W.Frag
  F : Addr → Prop
  Vo : Addr → Prop
  H0 : Hp
  tw : Option (Addr × Addr) := none
def OO (F : Addr → Prop) (fp : Nat → List Addr) (an : List (Addr × HO)) : Addr → Prop := fun a => F a ∨ (∃ i, a ∈ fp i) ∨ ∃ o, (a, o) ∈ an
/-- a list that nobody changes -/
def SqF (K : PySem.W.Frag) (H : Hp) (a : Addr) (xs : List V) : Prop := (∃ o, H a = some (.frz o (.lst xs))) ∨ SqL K (fun _ => none) a xs
theorem SqF.sql {K : PySem.W.Frag} {H : Hp} {a : Addr} {xs : List V} (h : SqF K H a xs) : SqL K H a xs := by
  rcases h with ⟨o, h⟩ | h
  · exact Or.inl (Or.inr ⟨o, h⟩)
  · exact Le.sql (fun _ _ e => by cases e) h
theorem Le.sqf {K : PySem.W.Frag} {H H' : Hp} {a : Addr} {xs : List V} (k : Le H H') (h : SqF K H a xs) : SqF K H' a xs := by
  rcases h with ⟨o, h⟩ | h
  · exact Or.inl ⟨o, k _ _ h⟩
  · exact Or.inr h
/-- text keys, values data -/
def DnK (K : PySem.W.Frag) (H : Hp) (vs : List (Key × V)) (kvs : List (Str × D)) : Prop :=
  vs.map (·.1) = kvs.map (fun p => Sum.inr p.1) ∧ DnL K H (vs.map (·.2)) (kvs.map (·.2))
def BOk (C : Fr) (O : Addr → Prop) (H : Hp) (f : List Addr) (v : V) : B → Prop
  | .d x => f = [] ∧ Dn C.K (msk O H) v x
  | .r xs => f = [] ∧ ∃ a vs, v = .ref a ∧ ¬ C.Vo a ∧ C.H0 a = some (.lst vs) ∧ DnL C.K (msk O H) vs xs
  | .l xs => ∃ a vs, v = .ref a ∧ f = [a] ∧ C.H0 a = none ∧ H a = some (.lst vs) ∧ DnL C.K (msk O H) vs xs
  | .m kvs => ∃ a vs, v = .ref a ∧ f = [a] ∧ C.H0 a = none ∧ H a = some (.dK vs) ∧ DnK C.K (msk O H) vs kvs
  | .t c m => ∃ a b, v = .ref a ∧ f = [a, b] ∧ a ≠ b ∧ (∀ p, C.tw = some p → p = (a, b)) ∧ H a = some (.dK [(Sum.inr "count", .int c), (Sum.inr "rests", .ref b)]) ∧ H b = some (.dK (m.map fun p => (Sum.inl p.1, .int p.2)))
  | .s ns => f = [] ∧ ∃ a, v = .ref a ∧ SqF C.K (msk O H) a (ns.map V.int)
def TOk (C : Fr) (O : Addr → Prop) (H : Hp) (σ : L2.St) (p : V × R) : Prop :=
  match p.2 with
  | .d x => Dn C.K (msk O H) p.1 x
  | .own i => σ[i]? = some (some p.1)
  | .w xs => ∃ a vs, p.1 = .ref a ∧ SqT C.K (msk O H) a vs ∧ DnL C.K (msk O H) vs xs

structure SDf (C : Fr) (fp : Nat → List Addr) (σ : L2.St) (H : Hp) (ρ : Rho) (τ : List (V × R)) (an : List (Addr × HO)) : Prop where
  len : ρ.length = σ.length
  ext : ∀ a o, ¬ C.Vo a → C.H0 a = some o → H a = some o
  vol : ∀ a, C.Vo a → (∃ o, C.H0 a = some o) ∧ ∃ o, H a = some o ∧ Mt o
  inj : ∀ i j a, a ∈ fp i → a ∈ fp j → i = j
  ani : ∀ i a, a ∈ fp i → ∀ o, (a, o) ∉ an
  and : (an.map (·.1)).Nodup
  own : ∀ i a, a ∈ fp i → (C.Vo a ∨ C.H0 a = none) ∧ ∃ o, H a = some o ∧ Mt o
  ano : ∀ a o, (a, o) ∈ an → C.H0 a = none ∧ H a = some o ∧ Mt o
  frn : ∀ a, C.F a → (∃ o, C.H0 a = some o) ∧ ∃ o, H a = some o ∧ Mt o
  bnd : ∀ i b, ρ[i]? = some (some b) → ∃ v, σ[i]? = some (some v) ∧ BOk C (OO C.F fp an) H (fp i) v b
  emp : ∀ i, (∀ b, ρ[i]? ≠ some (some b)) → fp i = []
  tmp : ∀ p ∈ τ, TOk C (OO C.F fp an) H σ p
def SD (C : Fr) (σ : L2.St) (H : Hp) (ρ : Rho) (τ : List (V × R)) (an : List (Addr × HO)) : Prop := ∃ fp, SDf C fp σ H ρ τ an

section
variable {C : Fr} {fp fp' : Nat → List Addr} {σ σ' : L2.St} {H H' : Hp} {ρ ρ' : Rho} {τ τ' : List (V × R)} {an an' : List (Addr × HO)} {O O' : Addr → Prop}

theorem le_msk (h : ∀ a, O' a → O a ∨ H a = none) (k : ∀ a o, ¬ O a → H a = some o → H' a = some o) : Le (msk O H) (msk O' H') := fun a o e => by
  obtain ⟨n, e⟩ := msk_some e
  refine msk_of (fun z => ?_) (k a o n e)
  rcases h a z with q | q
  · exact n q
  · rw [q] at e
    cases e
theorem BOk.mono {f : List Addr} {v : V} {b : B} (h : BOk C O H f v b) (k : Le (msk O H) (msk O' H')) (kf : ∀ a ∈ f, ∀ o, H a = some o → H' a = some o) : BOk C O' H' f v b := by
  cases b with
  | d x => exact ⟨h.1, h.2.mono k⟩
  | r xs =>
    obtain ⟨e, a, vs, h1, h2, h3, h4⟩ := h
    exact ⟨e, a, vs, h1, h2, h3, h4.mono k⟩
  | l xs =>
    obtain ⟨a, vs, h1, h2, h3, h4, h5⟩ := h
    exact ⟨a, vs, h1, h2, h3, kf a (by simp [h2]) _ h4, h5.mono k⟩
  | m kvs =>
    obtain ⟨a, vs, h1, h2, h3, h4, h5, h6⟩ := h
    exact ⟨a, vs, h1, h2, h3, kf a (by simp [h2]) _ h4, h5, h6.mono k⟩
  | t c m =>
    obtain ⟨a, b, h1, h2, h3, h0, h4, h5⟩ := h
    exact ⟨a, b, h1, h2, h3, h0, kf a (by simp [h2]) _ h4, kf b (by simp [h2]) _ h5⟩
  | s ns =>
    obtain ⟨e, a, h1, h2⟩ := h
    exact ⟨e, a, h1, k.sqf h2⟩
theorem TOk.mono {p : V × R} (h : TOk C O H σ p) (k : Le (msk O H) (msk O' H')) : TOk C O' H' σ p := by
  obtain ⟨v, r⟩ := p
  cases r with
  | d x => exact Dn.mono k h
  | own i => exact h
  | w xs =>
    obtain ⟨a, vs, h1, h2, h3⟩ := h
    exact ⟨a, vs, h1, k.sqt h2, h3.mono k⟩

/-- the heap grows -/
theorem SDf.grow (S : SDf C fp σ H ρ τ an) (k : Le H H') : SDf C fp σ H' ρ τ an := by
  have m : Le (msk (OO C.F fp an) H) (msk (OO C.F fp an) H') := le_msk (fun a h => .inl h) fun a o _ e => k a o e
  refine ⟨S.len, fun a o n e => k a o (S.ext a o n e), fun a h => ?_, S.inj, S.ani, S.and, fun i a h => ?_, fun a o h => ?_, fun a h => ?_, fun i b e => ?_, S.emp, fun p hp => (S.tmp p hp).mono m⟩
  · obtain ⟨h1, o, h2, h3⟩ := S.vol a h
    exact ⟨h1, o, k a o h2, h3⟩
  · obtain ⟨h1, o, h2, h3⟩ := S.own i a h
    exact ⟨h1, o, k a o h2, h3⟩
  · obtain ⟨h1, h2, h3⟩ := S.ano a o h
    exact ⟨h1, k a o h2, h3⟩
  · obtain ⟨h1, o, h2, h3⟩ := S.frn a h
    exact ⟨h1, o, k a o h2, h3⟩
  · obtain ⟨v, h1, h2⟩ := S.bnd i b e
    exact ⟨v, h1, h2.mono m fun a _ o e => k a o e⟩
theorem SD.grow (S : SD C σ H ρ τ an) (k : Le H H') : SD C σ H' ρ τ an := let ⟨fp, s⟩ := S; ⟨fp, s.grow k⟩
/-- fewer temporaries -/
theorem SDf.sub (S : SDf C fp σ H ρ τ an) (h : ∀ p ∈ τ', p ∈ τ) : SDf C fp σ H ρ τ' an :=
  ⟨S.len, S.ext, S.vol, S.inj, S.ani, S.and, S.own, S.ano, S.frn, S.bnd, S.emp, fun p hp => S.tmp p (h p hp)⟩
theorem SD.sub (S : SD C σ H ρ τ an) (h : ∀ p ∈ τ', p ∈ τ) : SD C σ H ρ τ' an := let ⟨fp, s⟩ := S; ⟨fp, s.sub h⟩
theorem SD.pop {p : V × R} (S : SD C σ H ρ (p :: τ) an) : SD C σ H ρ τ an := S.sub fun _ h => List.mem_cons_of_mem _ h
theorem SD.pop2 {p q : V × R} (S : SD C σ H ρ (p :: q :: τ) an) : SD C σ H ρ τ an := S.pop.pop
/-- the same again -/
theorem SDf.tmps (S : SDf C fp σ H ρ τ an) (h : ∀ p ∈ τ', TOk C (OO C.F fp an) H σ p) : SDf C fp σ H ρ τ' an :=
  ⟨S.len, S.ext, S.vol, S.inj, S.ani, S.and, S.own, S.ano, S.frn, S.bnd, S.emp, h⟩
/-- a temporary more, a scalar or a part of another -/
theorem SD.push (S : SD C σ H ρ τ an) {v : V} {x : D} (h : ∀ K H, Dn K H v x) : SD C σ H ρ ((v, .d x) :: τ) an := by
  obtain ⟨fp, s⟩ := S
  refine ⟨fp, s.tmps fun p hp => ?_⟩
  rcases List.mem_cons.mp hp with rfl | hp
  · exact h _ _
  · exact s.tmp p hp
theorem SD.part (S : SD C σ H ρ τ an) {v w : V} {x y : D} (hm : (w, .d y) ∈ τ) (h : ∀ H, Dn C.K H w y → Dn C.K H v x) : SD C σ H ρ ((v, .d x) :: τ) an := by
  obtain ⟨fp, s⟩ := S
  refine ⟨fp, s.tmps fun p hp => ?_⟩
  rcases List.mem_cons.mp hp with rfl | hp
  · exact h _ (s.tmp _ hm)
  · exact s.tmp p hp
/-- what a temporary is in the whole heap -/
theorem SD.at (S : SD C σ H ρ τ an) {v : V} {x : D} (h : (v, .d x) ∈ τ) : Dn C.K H v x := by
  obtain ⟨fp, s⟩ := S
  exact Dn.mono (msk_le _ _) (s.tmp _ h)
theorem SD.here (S : SD C σ H ρ ((v, .d x) :: τ) an) : Dn C.K H v x := S.at List.mem_cons_self
theorem SDf.nots (S : SDf C fp σ H ρ τ an) {a : Addr} {o : HO} (h : OO C.F fp an a) (e : H a = some o) : Mt o := by
  rcases h with h | ⟨i, h⟩ | h
  · obtain ⟨_, u, h2, h3⟩ := S.frn a h
    rw [e] at h2
    cases h2
    exact h3
  · obtain ⟨_, u, h2, h3⟩ := S.own i a h
    rw [e] at h2
    cases h2
    exact h3
  · obtain ⟨w, h⟩ := h
    obtain ⟨_, h2, h3⟩ := S.ano a w h
    rw [e] at h2
    cases h2
    exact h3
theorem SDf.hide (S : SDf C fp σ H ρ τ an) : ∀ a xs, Rd H a (.tup xs) → ¬ OO C.F fp an a := fun a xs h z => by
  rcases id h with q | ⟨o, q⟩
  · exact S.nots z q
  · exact S.nots z q
/-- a new tuple of temporaries -/
theorem SD.ntup (S : SD C σ H ρ τ an) {vs : List V} {xs : List D} (h : vs.length = xs.length) (hm : ∀ (i : Nat) v x, vs[i]? = some v → xs[i]? = some x → (v, .d x) ∈ τ) {p : Addr} {o : Obj} (ho : o.dict = none) (hp : H p = none) :
    SD C σ (upd H p (.frz o (.tup vs))) ρ ((.ref p, .d (.tuple xs)) :: τ) an := by
  obtain ⟨fp, s⟩ := S.grow (Le.new (o := .frz o (.tup vs)) hp)
  refine ⟨fp, s.tmps fun q hq => ?_⟩
  rcases List.mem_cons.mp hq with rfl | hq
  · refine Dn.ntup (xs := vs) ⟨o, msk_of (fun z => ?_) upd_same, ho⟩ ⟨h, fun i v x a b => s.tmp _ (hm i v x a b)⟩
    exact s.nots z upd_same
  · exact s.tmp q hq
/-- a new cell of nobody's -/
theorem SD.fresh (S : SD C σ H ρ τ an) {p : Addr} {o : HO} (hp : H p = none) (ho : Mt o) : SD C σ (upd H p o) ρ τ ((p, o) :: an) := by
  obtain ⟨fp, s⟩ := S
  have k := Le.new (o := o) hp
  have m : Le (msk (OO C.F fp an) H) (msk (OO C.F fp ((p, o) :: an)) (upd H p o)) := le_msk (fun a h => by
    rcases h with h | h | ⟨w, h⟩
    · exact .inl (.inl h)
    · exact .inl (.inr (.inl h))
    · rcases List.mem_cons.mp h with e | h
      · cases e
        exact .inr hp
      · exact .inl (.inr (.inr ⟨w, h⟩))) fun a u _ e => k a u e
  have h0 : C.H0 p = none := by
    cases e : C.H0 p with
    | none => rfl
    | some u =>
      by_cases hv : C.Vo p
      · obtain ⟨_, w, h2, _⟩ := s.vol p hv
        rw [hp] at h2
        cases h2
      · have h2 := s.ext p u hv e
        rw [hp] at h2
        cases h2
  have s' := s.grow k
  refine ⟨fp, s'.len, s'.ext, s'.vol, s'.inj, fun i a h w z => ?_, ?_, s'.own, fun a w h => ?_, s'.frn, fun i b e => ?_, s'.emp, fun q hq => (s.tmp q hq).mono m⟩
  · rcases List.mem_cons.mp z with e | z
    · cases e
      obtain ⟨_, u, h2, _⟩ := s.own i p h
      rw [hp] at h2
      cases h2
    · exact s.ani i a h w z
  · refine List.nodup_cons.mpr ⟨fun z => ?_, s.and⟩
    obtain ⟨⟨a, w⟩, z1, z2⟩ := List.mem_map.mp z
    have e : a = p := z2
    subst e
    obtain ⟨_, h2, _⟩ := s.ano a w z1
    rw [hp] at h2
    cases h2
  · rcases List.mem_cons.mp h with e | h
    · cases e
      exact ⟨h0, upd_same, ho⟩
    · exact s'.ano a w h
  · obtain ⟨v, h1, h2⟩ := s.bnd i b e
    exact ⟨v, h1, h2.mono m fun a _ u e => k a u e⟩
theorem SDf.anap {o : HO} (s : SDf C fp σ H ρ τ ((p, o) :: an)) : ∀ w, (p, w) ∉ an := fun w h => by
  have nd := List.nodup_cons.mp s.and
  exact nd.1 (List.mem_map.mpr ⟨(p, w), h, rfl⟩)
/-- a cell of nobody's becomes data -/
theorem SD.lay {vs : List V} (S : SD C σ H ρ τ ((p, .lst vs) :: an)) {xs : List D} (h : vs.length = xs.length) (hm : ∀ (i : Nat) v x, vs[i]? = some v → xs[i]? = some x → (v, .d x) ∈ τ) :
    SD C σ H ρ ((.ref p, .d (.list xs)) :: τ) an := by
  obtain ⟨fp, s⟩ := S
  have m : Le (msk (OO C.F fp ((p, .lst vs) :: an)) H) (msk (OO C.F fp an) H) := le_msk (fun a h => by
    rcases h with h | h | ⟨w, h⟩
    · exact .inl (.inl h)
    · exact .inl (.inr (.inl h))
    · exact .inl (.inr (.inr ⟨w, List.mem_cons_of_mem _ h⟩))) fun a u _ e => e
  obtain ⟨a0, a1, a2⟩ := s.ano p _ List.mem_cons_self
  have np : ¬ OO C.F fp an p := by
    rintro (z | ⟨i, z⟩ | ⟨w, z⟩)
    · obtain ⟨⟨u, h1⟩, _⟩ := s.frn p z
      rw [a0] at h1
      cases h1
    · exact s.ani i p z _ List.mem_cons_self
    · exact s.anap w z
  refine ⟨fp, s.len, s.ext, s.vol, s.inj, fun i a h w z => s.ani i a h w (List.mem_cons_of_mem _ z), (List.nodup_cons.mp s.and).2, s.own, fun a w h => s.ano a w (List.mem_cons_of_mem _ h), s.frn, fun i b e => ?_, s.emp, fun q hq => ?_⟩
  · obtain ⟨v, h1, h2⟩ := s.bnd i b e
    exact ⟨v, h1, h2.mono m fun a _ u e => e⟩
  · rcases List.mem_cons.mp hq with rfl | hq
    · exact Dn.nlst (msk_of np a1) ⟨h, fun i v x a b => Dn.mono m (s.tmp _ (hm i v x a b))⟩
    · exact (s.tmp q hq).mono m
/-- a cell of nobody's changes -/
theorem SD.anset {o o' : HO} (S : SD C σ H ρ τ ((p, o) :: an)) (ho : Mt o') : SD C σ (upd H p o') ρ τ ((p, o') :: an) := by
  obtain ⟨fp, s⟩ := S
  have k : ∀ a u, a ≠ p → H a = some u → upd H p o' a = some u := fun a u h e => by
    rw [upd_ne h]
    exact e
  have m : Le (msk (OO C.F fp ((p, o) :: an)) H) (msk (OO C.F fp ((p, o') :: an)) (upd H p o')) := le_msk (fun a h => by
    rcases h with h | h | ⟨w, h⟩
    · exact .inl (.inl h)
    · exact .inl (.inr (.inl h))
    · rcases List.mem_cons.mp h with e | h
      · cases e
        exact .inl (.inr (.inr ⟨o, List.mem_cons_self⟩))
      · exact .inl (.inr (.inr ⟨w, List.mem_cons_of_mem _ h⟩))) fun a u n e => k a u (fun z => n (.inr (.inr ⟨o, by rw [z]; exact List.mem_cons_self⟩))) e
  have q : ∀ a, (∃ u, H a = some u ∧ Mt u) → ∃ u, upd H p o' a = some u ∧ Mt u := fun a ⟨u, h1, h2⟩ => by
    by_cases h : a = p
    · subst h
      exact ⟨o', upd_same, ho⟩
    · exact ⟨u, k a u h h1, h2⟩
  have h0 := (s.ano p o List.mem_cons_self).1
  refine ⟨fp, s.len, fun a u n e => k a u (fun z => ?_) (s.ext a u n e), fun a h => ⟨(s.vol a h).1, q a (s.vol a h).2⟩, s.inj, fun i a h w z => ?_, s.and, fun i a h => ⟨(s.own i a h).1, q a (s.own i a h).2⟩, fun a w h => ?_, fun a h => ⟨(s.frn a h).1, q a (s.frn a h).2⟩, fun i b e => ?_, s.emp, fun r hr => (s.tmp r hr).mono m⟩
  · rw [z, h0] at e
    cases e
  · rcases List.mem_cons.mp z with e | z
    · cases e
      exact s.ani i p h o List.mem_cons_self
    · exact s.ani i a h w (List.mem_cons_of_mem _ z)
  · rcases List.mem_cons.mp h with e | h
    · cases e
      exact ⟨h0, upd_same, ho⟩
    · obtain ⟨h1, h2, h3⟩ := s.ano a w (List.mem_cons_of_mem _ h)
      exact ⟨h1, k a w (fun z => s.anap w (z ▸ h)) h2, h3⟩
  · obtain ⟨v, h1, h2⟩ := s.bnd i b e
    exact ⟨v, h1, h2.mono m fun a h u e => k a u (fun z => s.ani i a h o (by rw [z]; exact List.mem_cons_self)) e⟩
/-- only data among the temporaries -/
def AllD (τ : List (V × R)) : Prop := ∀ p ∈ τ, ∀ i, p.2 ≠ .own i
theorem TOk.slots {p : V × R} (h : TOk C O H σ p) (d : ∀ i, p.2 ≠ .own i) : TOk C O H σ' p := by
  obtain ⟨v, r⟩ := p
  cases r with
  | d x => exact h
  | own i => exact absurd rfl (d i)
  | w xs => exact h

/-- a slot is stored: data -/
theorem SD.store (S : SD C σ H ρ ((v, .d x) :: τ) an) (ad : AllD τ) {i : Nat} (hr : i < ρ.length) : SD C (σ.set i (some v)) H (ρ.set i (some (.d x))) τ an := by
  obtain ⟨fp, s⟩ := S
  have hi : i < σ.length := by rw [← s.len]; exact hr
  let fp' : Nat → List Addr := fun j => if j = i then [] else fp j
  have e1 : fp' i = [] := if_pos rfl
  have e2 : ∀ {j}, j ≠ i → fp' j = fp j := fun h => if_neg h
  have sub : ∀ j a, a ∈ fp' j → a ∈ fp j := fun j a h => by
    by_cases e : j = i
    · subst e
      rw [e1] at h
      cases h
    · rw [e2 e] at h
      exact h
  have m : Le (msk (OO C.F fp an) H) (msk (OO C.F fp' an) H) := le_msk (fun a h => by
    rcases h with h | ⟨j, h⟩ | ⟨w, h⟩
    · exact .inl (.inl h)
    · exact .inl (.inr (.inl ⟨j, sub j a h⟩))
    · exact .inl (.inr (.inr ⟨w, h⟩))) fun a u _ e => e
  refine ⟨fp', by simp [s.len], s.ext, s.vol, fun j k a h1 h2 => s.inj j k a (sub j a h1) (sub k a h2), fun j a h => s.ani j a (sub j a h), s.and, fun j a h => s.own j a (sub j a h), s.ano, s.frn, fun j b e => ?_, fun j h => ?_, fun q hq => ?_⟩
  · by_cases hj : j = i
    · subst hj
      rw [List.getElem?_set_self hr] at e
      cases e
      refine ⟨v, List.getElem?_set_self hi, e1, ?_⟩
      exact Dn.mono m (s.tmp _ List.mem_cons_self)
    · rw [List.getElem?_set_ne (Ne.symm hj)] at e
      obtain ⟨w, h1, h2⟩ := s.bnd j b e
      refine ⟨w, by rw [List.getElem?_set_ne (Ne.symm hj)]; exact h1, ?_⟩
      rw [e2 hj]
      exact h2.mono m fun a _ u e => e
  · by_cases hj : j = i
    · subst hj
      exact e1
    · rw [e2 hj]
      exact s.emp j fun b e => h b (by rw [List.getElem?_set_ne (Ne.symm hj)]; exact e)
  · exact ((s.tmp q (List.mem_cons_of_mem _ hq)).mono m).slots (ad q hq)
/-- a slot is stored: a new list of one's own -/
theorem SD.storeL {vs : List V} (S : SD C σ H ρ τ ((p, .lst vs) :: an)) {xs : List D} (h : vs.length = xs.length) (hm : ∀ (i : Nat) v x, vs[i]? = some v → xs[i]? = some x → (v, .d x) ∈ τ) (ad : AllD τ)
    {i : Nat} (hr : i < ρ.length) : SD C (σ.set i (some (.ref p))) H (ρ.set i (some (.l xs))) τ an := by
  obtain ⟨fp, s⟩ := S
  have hi : i < σ.length := by rw [← s.len]; exact hr
  let fp' : Nat → List Addr := fun j => if j = i then [p] else fp j
  have e1 : fp' i = [p] := if_pos rfl
  have e2 : ∀ {j}, j ≠ i → fp' j = fp j := fun h => if_neg h
  have nd := List.nodup_cons.mp s.and
  have sub : ∀ j a, a ∈ fp' j → a ∈ fp j ∧ j ≠ i ∨ a = p ∧ j = i := fun j a h => by
    by_cases e : j = i
    · subst e
      rw [e1] at h
      exact .inr ⟨by simpa using h, rfl⟩
    · rw [e2 e] at h
      exact .inl ⟨h, e⟩
  have m : Le (msk (OO C.F fp ((p, .lst vs) :: an)) H) (msk (OO C.F fp' an) H) := le_msk (fun a h => by
    rcases h with h | ⟨j, h⟩ | ⟨w, h⟩
    · exact .inl (.inl h)
    · rcases sub j a h with ⟨h, _⟩ | ⟨rfl, _⟩
      · exact .inl (.inr (.inl ⟨j, h⟩))
      · exact .inl (.inr (.inr ⟨_, List.mem_cons_self⟩))
    · exact .inl (.inr (.inr ⟨w, List.mem_cons_of_mem _ h⟩))) fun a u _ e => e
  have pn : ∀ j, p ∉ fp j := fun j h => s.ani j p h _ List.mem_cons_self
  obtain ⟨a0, hp, a2⟩ := s.ano p _ List.mem_cons_self
  refine ⟨fp', by simp [s.len], s.ext, s.vol, fun j k a h1 h2 => ?_, fun j a h => ?_, nd.2, fun j a h => ?_, fun a w h => s.ano a w (List.mem_cons_of_mem _ h), s.frn, fun j b e => ?_, fun j h => ?_, fun q hq => ?_⟩
  · rcases sub j a h1 with ⟨q1, n1⟩ | ⟨q1, n1⟩
    · rcases sub k a h2 with ⟨q2, n2⟩ | ⟨q2, n2⟩
      · exact s.inj j k a q1 q2
      · subst q2
        exact absurd q1 (pn j)
    · rcases sub k a h2 with ⟨q2, n2⟩ | ⟨q2, n2⟩
      · subst q1
        exact absurd q2 (pn k)
      · rw [n1, n2]
  · rcases sub j a h with ⟨q1, n1⟩ | ⟨q1, n1⟩
    · exact fun w z => s.ani j a q1 w (List.mem_cons_of_mem _ z)
    · subst q1
      exact fun w z => s.anap w z
  · rcases sub j a h with ⟨q1, n1⟩ | ⟨q1, n1⟩
    · exact s.own j a q1
    · subst q1
      exact ⟨.inr a0, _, hp, a2⟩
  · by_cases hj : j = i
    · subst hj
      rw [List.getElem?_set_self hr] at e
      cases e
      refine ⟨.ref p, List.getElem?_set_self hi, p, vs, rfl, e1, a0, hp, h, fun k w y a b => ?_⟩
      exact Dn.mono m (s.tmp _ (hm k w y a b))
    · rw [List.getElem?_set_ne (Ne.symm hj)] at e
      obtain ⟨w, h1, h2⟩ := s.bnd j b e
      refine ⟨w, by rw [List.getElem?_set_ne (Ne.symm hj)]; exact h1, ?_⟩
      rw [e2 hj]
      exact h2.mono m fun a _ u e => e
  · by_cases hj : j = i
    · subst hj
      exact absurd (List.getElem?_set_self hr) (h _)
    · rw [e2 hj]
      exact s.emp j fun b e => h b (by rw [List.getElem?_set_ne (Ne.symm hj)]; exact e)
  · exact ((s.tmp q hq).mono m).slots (ad q hq)
/-- slot i's own cells change -/
theorem SDf.chg (s : SDf C fp σ H ρ τ an) {i : Nat} {b' : B} {v : V} (hv : σ[i]? = some (some v)) (k : ∀ a o, a ∉ fp i → H a = some o → H' a = some o) (km : ∀ a, a ∈ fp i → ∃ o, H' a = some o ∧ Mt o) (hb : ∃ b, ρ[i]? = some (some b))
    (new : Le (msk (OO C.F fp an) H) (msk (OO C.F fp an) H') → BOk C (OO C.F fp an) H' (fp i) v b') : SDf C fp σ H' (ρ.set i (some b')) τ an := by
  have m : Le (msk (OO C.F fp an) H) (msk (OO C.F fp an) H') := le_msk (fun a h => .inl h) fun a u n e => k a u (fun z => n (.inr (.inl ⟨i, z⟩))) e
  have q : ∀ a, (∃ u, H a = some u ∧ Mt u) → ∃ u, H' a = some u ∧ Mt u := fun a ⟨u, h1, h2⟩ => by
    by_cases h : a ∈ fp i
    · exact km a h
    · exact ⟨u, k a u h h1, h2⟩
  obtain ⟨b0, hb0⟩ := hb
  have hr : i < ρ.length := (List.getElem?_eq_some_iff.mp hb0).1
  refine ⟨by simp [s.len], fun a u n e => k a u (fun z => ?_) (s.ext a u n e), fun a h => ⟨(s.vol a h).1, q a (s.vol a h).2⟩, s.inj, s.ani, s.and, fun i a h => ⟨(s.own i a h).1, q a (s.own i a h).2⟩, fun a w h => ⟨(s.ano a w h).1, k a w (fun z => s.ani i a z w h) (s.ano a w h).2.1, (s.ano a w h).2.2⟩, fun a h => ⟨(s.frn a h).1, q a (s.frn a h).2⟩, fun j b e => ?_, fun j h => ?_, fun r hr => (s.tmp r hr).mono m⟩
  · rcases (s.own i a z).1 with w | w
    · exact n w
    · rw [w] at e
      cases e
  · by_cases hj : j = i
    · subst hj
      rw [List.getElem?_set_self hr] at e
      cases e
      exact ⟨v, hv, new m⟩
    · rw [List.getElem?_set_ne (Ne.symm hj)] at e
      obtain ⟨w, h1, h2⟩ := s.bnd j b e
      exact ⟨w, h1, h2.mono m fun a h u e => k a u (fun z => hj (s.inj j i a h z)) e⟩
  · by_cases hj : j = i
    · subst hj
      exact absurd (List.getElem?_set_self hr) (h _)
    · exact s.emp j fun b e => h b (by rw [List.getElem?_set_ne (Ne.symm hj)]; exact e)
/-- an own list let go: data from now on -/
def rel (i : Nat) (ρ : Rho) : Rho := match ρ[i]? with
  | some (some (.l xs)) => ρ.set i (some (.d (.list xs)))
  | _ => ρ
theorem SD.rel (S : SD C σ H ρ τ an) (i : Nat) : SD C σ H (rel i ρ) τ an := by
  unfold DL.rel
  split
  · rename_i xs e0
    obtain ⟨fp, s⟩ := S
    have hr : i < ρ.length := (List.getElem?_eq_some_iff.mp e0).1
    obtain ⟨v, hv, a, vs, rfl, hf, h0, ha, hd⟩ := s.bnd i _ e0
    let fp' : Nat → List Addr := fun j => if j = i then [] else fp j
    have e1 : fp' i = [] := if_pos rfl
    have e2 : ∀ {j}, j ≠ i → fp' j = fp j := fun h => if_neg h
    have sub : ∀ j a, a ∈ fp' j → a ∈ fp j ∧ j ≠ i := fun j a h => by
      by_cases e : j = i
      · subst e
        rw [e1] at h
        cases h
      · rw [e2 e] at h
        exact ⟨h, e⟩
    have m : Le (msk (OO C.F fp an) H) (msk (OO C.F fp' an) H) := le_msk (fun a h => by
      rcases h with h | ⟨j, h⟩ | ⟨w, h⟩
      · exact .inl (.inl h)
      · exact .inl (.inr (.inl ⟨j, (sub j a h).1⟩))
      · exact .inl (.inr (.inr ⟨w, h⟩))) fun a u _ e => e
    have ai : a ∈ fp i := by
      rw [hf]
      exact List.mem_singleton.mpr rfl
    have na : ¬ OO C.F fp' an a := by
      rintro (z | ⟨j, z⟩ | ⟨w, z⟩)
      · obtain ⟨⟨u, h1⟩, _⟩ := s.frn a z
        rw [h0] at h1
        cases h1
      · obtain ⟨z1, z2⟩ := sub j a z
        exact z2 (s.inj j i a z1 ai)
      · exact s.ani i a ai w z
    refine ⟨fp', by simp [s.len], s.ext, s.vol, fun j k a h1 h2 => s.inj j k a (sub j a h1).1 (sub k a h2).1, fun j a h => s.ani j a (sub j a h).1, s.and, fun j a h => s.own j a (sub j a h).1, s.ano, s.frn, fun j b e => ?_, fun j h => ?_, fun q hq => (s.tmp q hq).mono m⟩
    · by_cases hj : j = i
      · subst hj
        rw [List.getElem?_set_self hr] at e
        cases e
        exact ⟨.ref a, hv, e1, Dn.nlst (msk_of na ha) (hd.mono m)⟩
      · rw [List.getElem?_set_ne (Ne.symm hj)] at e
        obtain ⟨w, h1, h2⟩ := s.bnd j b e
        refine ⟨w, h1, ?_⟩
        rw [e2 hj]
        exact h2.mono m fun a _ u e => e
    · by_cases hj : j = i
      · subst hj
        exact e1
      · rw [e2 hj]
        exact s.emp j fun b e => h b (by rw [List.getElem?_set_ne (Ne.symm hj)]; exact e)
  · exact S
end
end DL
namespace DL
open PySem L2

abbrev FE := Rho → Option (R × Rho)
abbrev FT := Rho → Option (Bool × Rho)
abbrev FA := Rho → Option (List R × Rho)
def tE (C : Fr) (f : FE) : TE := fun σ H Q => ∃ ρ τ an r ρ', SD C σ H ρ τ an ∧ f ρ = some (r, ρ') ∧ ∀ v H', SD C σ H' ρ' ((v, r) :: τ) an → Q v H'
def tT (C : Fr) (f : FT) : TT := fun σ H Q => ∃ ρ τ an b ρ', SD C σ H ρ τ an ∧ f ρ = some (b, ρ') ∧ ∀ H', SD C σ H' ρ' τ an → Q b H'
def tA (C : Fr) (f : FA) : TA := fun σ H Q => ∃ ρ τ an rs ρ', SD C σ H ρ τ an ∧ f ρ = some (rs, ρ') ∧ ∀ vs H', vs.length = rs.length → SD C σ H' ρ' (vs.zip rs ++ τ) an → Q vs H'

theorem _root_.L2.PE.dl {X : Cx} {e : Expr} {t t' : TE} (h : PE X e t) (k : ∀ σ H Q, t' σ H Q → t σ H Q) : PE X e t' := ⟨fun pins s σ H Q I q => h.run pins s σ H Q I (k σ H Q q)⟩
theorem _root_.L2.PT.dl {X : Cx} {e : Expr} {t t' : TT} (h : PT X e t) (k : ∀ σ H Q, t' σ H Q → t σ H Q) : PT X e t' := ⟨fun pins s σ H Q I q => h.run pins s σ H Q I (k σ H Q q)⟩
theorem _root_.L2.PW.dl {X : Cx} {e : Expr} {t t' : TT} (h : PW X e t) (k : ∀ σ H Q, t' σ H Q → t σ H Q) : PW X e t' := ⟨fun wh pins s σ H Q I q => h.run wh pins s σ H Q I (k σ H Q q)⟩
theorem _root_.L2.PA.dl {X : Cx} {es : List Expr} {t t' : TA} (h : PA X es t) (k : ∀ σ H Q, t' σ H Q → t σ H Q) : PA X es t' := ⟨fun pos pins s σ H Q I q => h.run pos pins s σ H Q I (k σ H Q q)⟩

/-- the data that a result stands for -/
def rdo (ρ : Rho) : R → Option D
  | .d x => some x
  | .w _ => none
  | .own i => match ρ[i]? with
    | some (some (.l xs)) => some (.list xs)
    | some (some (.r xs)) => some (.list xs)
    | _ => none
/-- items as temporaries -/
abbrev tz (vs : List V) (xs : List D) : List (V × R) := vs.zip (xs.map R.d)
theorem mem_tz {vs : List V} {xs : List D} {i : Nat} {v : V} {x : D} (a : vs[i]? = some v) (b : xs[i]? = some x) : (v, R.d x) ∈ tz vs xs := by
  refine List.mem_of_getElem? (i := i) ?_
  rw [List.getElem?_zip_eq_some]
  exact ⟨a, by rw [List.getElem?_map, b]; rfl⟩
theorem of_tz {vs : List V} {xs : List D} {p : V × R} (h : p ∈ tz vs xs) : ∃ (i : Nat) (v : V) (x : D), vs[i]? = some v ∧ xs[i]? = some x ∧ p = (v, R.d x) := by
  obtain ⟨i, hi⟩ := List.getElem?_of_mem h
  rw [List.getElem?_zip_eq_some, List.getElem?_map] at hi
  obtain ⟨h1, h2⟩ := hi
  cases e : xs[i]? with
  | none =>
    rw [e] at h2
    cases h2
  | some x =>
    rw [e] at h2
    obtain ⟨v, r⟩ := p
    have : R.d x = r := Option.some.inj h2
    subst this
    exact ⟨i, v, x, h1, e, rfl⟩

section
variable {C : Fr} {σ σ' : L2.St} {H H' : Hp} {ρ ρ' : Rho} {τ τ' : List (V × R)} {an an' : List (Addr × HO)} {v w : V} {r : R} {x y z : D}

theorem SD.withL (S : SD C σ H ρ τ an) {vs : List V} {xs : List D} (h : ∀ fp, SDf C fp σ H ρ τ an → DnL C.K (msk (OO C.F fp an) H) vs xs) : SD C σ H ρ (tz vs xs ++ τ) an := by
  obtain ⟨fp, s⟩ := S
  refine ⟨fp, s.tmps fun p hp => ?_⟩
  rcases List.mem_append.mp hp with hp | hp
  · obtain ⟨i, v, x, a, b, rfl⟩ := of_tz hp
    exact (h fp s).2 i v x a b
  · exact s.tmp p hp
theorem SD.res (S : SD C σ H ρ τ an) (hm : (v, r) ∈ τ) (h : rdo ρ r = some x) : Dn C.K H v x := by
  obtain ⟨fp, s⟩ := S
  have t := s.tmp _ hm
  cases r with
  | d y =>
    have e : y = x := Option.some.inj h
    subst e
    exact Dn.mono (msk_le _ _) t
  | w ys => cases h
  | own i =>
    have hv : σ[i]? = some (some v) := t
    unfold rdo at h
    simp only at h
    split at h
    · rename_i xs e
      cases h
      obtain ⟨v', h1, a, vs, h2, h3, h4, h5, h6⟩ := s.bnd i _ e
      rw [hv] at h1
      cases h1
      subst h2
      exact Dn.nlst h5 (h6.mono (msk_le _ _))
    · rename_i xs e
      cases h
      obtain ⟨v', h1, h2, a, vs, h3, h4, h5, h6⟩ := s.bnd i _ e
      rw [hv] at h1
      cases h1
      subst h3
      exact Dn.nlst (s.ext a _ h4 h5) (h6.mono (msk_le _ _))
    · cases h
theorem SD.items (S : SD C σ H ρ τ an) (hm : (v, r) ∈ τ) {xs : List D} (h : rdo ρ r = some (.list xs)) : ∃ a vs, v = .ref a ∧ H a = some (.lst vs) ∧ vs.length = xs.length ∧ SD C σ H ρ (tz vs xs ++ τ) an := by
  have S0 := S
  obtain ⟨fp, s⟩ := S
  have t := s.tmp _ hm
  cases r with
  | d y =>
    have e : y = .list xs := Option.some.inj h
    subst e
    obtain ⟨a, vs, rfl, h1, h2⟩ := Dn.lst_inv (show Dn C.K _ v (.list xs) from t)
    refine ⟨a, vs, rfl, (msk_some h1).2, h2.1, ⟨fp, s.tmps fun p hp => ?_⟩⟩
    rcases List.mem_append.mp hp with hp | hp
    · obtain ⟨i, w, y, a, b, rfl⟩ := of_tz hp
      exact h2.2 i w y a b
    · exact s.tmp p hp
  | w ys => cases h
  | own i =>
    have hv : σ[i]? = some (some v) := t
    unfold rdo at h
    simp only at h
    split at h
    · rename_i ys e
      cases h
      obtain ⟨v', h1, a, vs, h2, h3, h4, h5, h6⟩ := s.bnd i _ e
      rw [hv] at h1
      cases h1
      subst h2
      refine ⟨a, vs, rfl, h5, h6.1, ⟨fp, s.tmps fun p hp => ?_⟩⟩
      rcases List.mem_append.mp hp with hp | hp
      · obtain ⟨i, w, y, a, b, rfl⟩ := of_tz hp
        exact h6.2 i w y a b
      · exact s.tmp p hp
    · rename_i ys e
      cases h
      obtain ⟨v', h1, h2, a, vs, h3, h4, h5, h6⟩ := s.bnd i _ e
      rw [hv] at h1
      cases h1
      subst h3
      refine ⟨a, vs, rfl, s.ext a _ h4 h5, h6.1, ⟨fp, s.tmps fun p hp => ?_⟩⟩
      rcases List.mem_append.mp hp with hp | hp
      · obtain ⟨i, w, y, a, b, rfl⟩ := of_tz hp
        exact h6.2 i w y a b
      · exact s.tmp p hp
    · cases h
theorem rdo_tup {xs : List D} (h : rdo ρ r = some (.tuple xs)) : r = .d (.tuple xs) := by
  cases r with
  | d y => exact congrArg R.d (Option.some.inj h)
  | w ys => cases h
  | own i =>
    unfold rdo at h
    simp only at h
    split at h <;> cases h
theorem SD.itemsT (S : SD C σ H ρ τ an) (hm : (v, r) ∈ τ) {xs : List D} (h : rdo ρ r = some (.tuple xs)) : ∃ a vs, v = .ref a ∧ TpS H a vs ∧ vs.length = xs.length ∧ SD C σ H ρ (tz vs xs ++ τ) an := by
  rw [rdo_tup h] at hm
  obtain ⟨fp, s⟩ := S
  have t := s.tmp _ hm
  obtain ⟨a, vs, rfl, h1, h2⟩ := Dn.tup_inv (show Dn C.K _ v (.tuple xs) from t)
  refine ⟨a, vs, rfl, (msk_le _ _).tps h1, h2.1, ⟨fp, s.tmps fun p hp => ?_⟩⟩
  rcases List.mem_append.mp hp with hp | hp
  · obtain ⟨i, w, y, a, b, rfl⟩ := of_tz hp
    exact h2.2 i w y a b
  · exact s.tmp p hp
theorem SD.nlst (S : SD C σ H ρ τ an) {vs : List V} {xs : List D} (h : vs.length = xs.length) (hm : ∀ (i : Nat) v x, vs[i]? = some v → xs[i]? = some x → (v, .d x) ∈ τ) {p : Addr} (hp : H p = none) :
    SD C σ (upd H p (.lst vs)) ρ ((.ref p, .d (.list xs)) :: τ) an := (S.fresh (o := .lst vs) hp trivial).lay h hm
/-- keep the first, drop some behind it -/
theorem SD.keep1 (S : SD C σ H ρ ((v, r) :: (τ' ++ τ)) an) : SD C σ H ρ ((v, r) :: τ) an := S.sub fun p hp => by
  rcases List.mem_cons.mp hp with rfl | hp
  · exact List.mem_cons_self
  · exact List.mem_cons_of_mem _ (List.mem_append_right _ hp)
theorem SD.keepN (S : SD C σ H ρ ((v, r) :: τ') an) (h : ∀ p ∈ τ, p ∈ τ') : SD C σ H ρ ((v, r) :: τ) an := S.sub fun p hp => by
  rcases List.mem_cons.mp hp with rfl | hp
  · exact List.mem_cons_self
  · exact List.mem_cons_of_mem _ (h p hp)

/-! ### plain data -/
theorem plainAll_of : ∀ {xs : List D}, (∀ (i : Nat) d, xs[i]? = some d → d.plain = true) → PyData.plainAll xs = true
  | [], _ => rfl
  | x :: xs, h => by
    rw [PyData.plainAll, h 0 x rfl, plainAll_of fun i d e => h (i + 1) d (by simpa using e)]
    rfl
theorem Dn.plain {K : PySem.W.Frag} {H : Hp} {v : V} {d : D} (h : Dn K H v d) : d.plain = true := by
  induction h with
  | non => rfl
  | bl b => rfl
  | int i => rfl
  | str x => rfl
  | @lst a xs ds h1 h2 _ ih =>
    rw [PyData.plain]
    refine plainAll_of fun i d e => ?_
    have hi : i < xs.length := by
      rw [h2]
      exact (List.getElem?_eq_some_iff.mp e).1
    exact ih i xs[i] d (by simp [hi]) e
  | @tup a xs ds h1 h2 _ ih =>
    rw [PyData.plain]
    refine plainAll_of fun i d e => ?_
    have hi : i < xs.length := by
      rw [h2]
      exact (List.getElem?_eq_some_iff.mp e).1
    exact ih i xs[i] d (by simp [hi]) e
theorem Dn.reads {X : Cx} {pins : List (Addr × Obj)} {s : Shared} (I : Inv X pins σ H s) {v : V} {d : D} {u : Value} (h : Dn X.K H v d) (r : RelV v u) : ∃ as, Reads s.heap u d as := Dp.reads I d v u (dp_of h) r

/-! ### two-place operations -/
def op2 (g : D → D → Option D) (a b : R) (ρ : Rho) : Option R := (rdo ρ a).bind fun x => (rdo ρ b).bind fun y => (g x y).map R.d
theorem op2_inv {g : D → D → Option D} {a b z : R} (h : op2 g a b ρ = some z) : ∃ x y w, rdo ρ a = some x ∧ rdo ρ b = some y ∧ g x y = some w ∧ z = .d w := by
  unfold op2 at h
  cases e1 : rdo ρ a with
  | none => simp [e1] at h
  | some x =>
    cases e2 : rdo ρ b with
    | none => simp [e1, e2] at h
    | some y =>
      cases e3 : g x y with
      | none => simp [e1, e2, e3] at h
      | some w => exact ⟨x, y, w, rfl, rfl, e3, by simpa [e1, e2, e3] using h.symm⟩
def rG (C : Fr) (g : R → R → Rho → Option R) : R2 := fun x y H Q => ∃ σ ρ τ an a b z, SD C σ H ρ ((y, b) :: (x, a) :: τ) an ∧ g a b ρ = some z ∧ ∀ v H', SD C σ H' ρ ((v, z) :: τ) an → Q v H'
def e2 (g : R → R → Rho → Option R) (fa fb : FE) : FE := fun ρ => (fa ρ).bind fun p => (fb p.2).bind fun q => (g p.1 q.1 q.2).map fun z => (z, q.2)
theorem e2_inv {g : R → R → Rho → Option R} {fa fb : FE} {r : R} (h : e2 g fa fb ρ = some (r, ρ')) : ∃ a ρ1 b, fa ρ = some (a, ρ1) ∧ fb ρ1 = some (b, ρ') ∧ g a b ρ' = some r := by
  unfold e2 at h
  cases e1 : fa ρ with
  | none => simp [e1] at h
  | some p =>
    obtain ⟨a, ρ1⟩ := p
    cases e2 : fb ρ1 with
    | none => simp [e1, e2] at h
    | some q =>
      obtain ⟨b, ρ2⟩ := q
      cases e3 : g a b ρ2 with
      | none => simp [e1, e2, e3] at h
      | some z =>
        simp [e1, e2, e3] at h
        obtain ⟨rfl, rfl⟩ := h
        exact ⟨a, ρ1, b, rfl, e2, e3⟩
theorem imp_op {g : R → R → Rho → Option R} {fa fb : FE} {Q : VK} (h : tE C (e2 g fa fb) σ H Q) : tOp (rG C g) (tE C fa) (tE C fb) σ H Q := by
  obtain ⟨ρ, τ, an, r, ρ', S, e, q⟩ := h
  obtain ⟨a, ρ1, b, h1, h2, h3⟩ := e2_inv e
  refine ⟨ρ, τ, an, a, ρ1, S, h1, fun x H1 S1 => ?_⟩
  refine ⟨ρ1, _, an, b, ρ', S1, h2, fun y H2 S2 => ?_⟩
  exact ⟨σ, ρ', τ, an, a, b, r, S2, h3, q⟩
section
variable {X : Cx} {a b : Expr} {fa fb : FE} {pos : Pos} {g : R → R → Rho → Option R}
theorem de_op {op : Operator} (ho : OpR X (binaryOp op) (rG C g)) (ha : PE X a (tE C fa)) (hb : PE X b (tE C fb)) : PE X (.BinOp a op b pos) (tE C (e2 g fa fb)) := (pe_op ho ha hb).dl fun _ _ _ h => imp_op h
theorem de_cmp {op : CmpOp} (ho : OpR X (compareOp op) (rG C g)) (ha : PE X a (tE C fa)) (hb : PE X b (tE C fb)) (hm : behindInMarks op b = false) : PE X (.Compare a [op] [b] pos) (tE C (e2 g fa fb)) := (pe_cmpR ho ha hb hm).dl fun _ _ _ h => imp_op h
/-- a value that is a truth, as a test -/
def toT (f : FE) : FT := fun ρ => match f ρ with
  | some (.d (.bool b), ρ') => some (b, ρ')
  | _ => none
theorem toT_inv {f : FE} {b : Bool} (h : toT f ρ = some (b, ρ')) : f ρ = some (.d (.bool b), ρ') := by
  unfold toT at h
  split at h
  · rename_i c ρ1 e
    cases h
    exact e
  · cases h
theorem imp_test {f : FE} {Q : Bool → Hp → Prop} (h : tT C (toT f) σ H Q) : tE C f σ H fun x H' => ∃ k, x = .bl k ∧ Q k H' := by
  obtain ⟨ρ, τ, an, b, ρ', S, e, q⟩ := h
  refine ⟨ρ, τ, an, _, ρ', S, toT_inv e, fun v H' S' => ⟨b, S'.here.bool_inv, q H' S'.pop⟩⟩
theorem dt_cmp {op : CmpOp} (ho : OpR X (compareOp op) (rG C g)) (ha : PE X a (tE C fa)) (hb : PE X b (tE C fb)) (hm : behindInMarks op b = false) : PT X (.Compare a [op] [b] pos) (tT C (toT (e2 g fa fb))) :=
  (pt_cmpR ho ha hb hm).dl fun σ H Q h => by
    have z := imp_test h
    exact imp_op z
end

/-! ### names, constants -/
def eVar (i : Nat) : FE := fun ρ => match ρ[i]? with
  | some (some (.d x)) => some (.d x, ρ)
  | some (some _) => some (.own i, ρ)
  | _ => none
theorem imp_var {i : Nat} {Q : VK} (h : tE C (eVar i) σ H Q) : tVar i σ H Q := by
  obtain ⟨ρ, τ, an, r, ρ', S, e, q⟩ := h
  unfold eVar at e
  split at e
  · rename_i x e0
    cases e
    obtain ⟨fp, s⟩ := S
    obtain ⟨v, h1, h2, h3⟩ := s.bnd i _ e0
    refine ⟨v, h1, q v H ⟨fp, s.tmps fun p hp => ?_⟩⟩
    rcases List.mem_cons.mp hp with rfl | hp
    · exact h3
    · exact s.tmp p hp
  · rename_i b n e0
    cases e
    obtain ⟨fp, s⟩ := S
    obtain ⟨v, h1, h2⟩ := s.bnd i _ e0
    refine ⟨v, h1, q v H ⟨fp, s.tmps fun p hp => ?_⟩⟩
    rcases List.mem_cons.mp hp with rfl | hp
    · exact h1
    · exact s.tmp p hp
  · cases e
def eC (x : D) : FE := fun ρ => some (.d x, ρ)
theorem imp_c {v : V} {x : D} (k : ∀ K H, Dn K H v x) {Q : VK} (h : tE C (eC x) σ H Q) : tC v σ H Q := by
  obtain ⟨ρ, τ, an, r, ρ', S, e, q⟩ := h
  cases e
  exact q v H (S.push k)
section
variable {X : Cx} {pos : Pos}
theorem dv (i : Nat) {x : Str} (hN : X.N[i]? = some x := by rfl) (hv : Vis X.env.scope x := by first | exact Or.inl rfl | exact Or.inr (Or.inl rfl) | exact Or.inr (Or.inr rfl)) (hd : (x == ("__debug__" : Str)) = false := by decide)
    (hcd : (x == ("__classdict__" : Str)) = false := by decide) : PE X (.Name x pos) (tE C (eVar i)) := (pe_var hN hv hd hcd).dl fun _ _ _ h => imp_var h
theorem dc_int {i : Int} {j : Nat} : PE X (.Constant (.int i) j pos) (tE C (eC (.int i))) := pe_int.dl fun _ _ _ h => imp_c (fun _ _ => .int i) h
theorem dc_str {x : Str} {j : Nat} : PE X (.Constant (.str x) j pos) (tE C (eC (.str x))) := pe_str.dl fun _ _ _ h => imp_c (fun _ _ => .str x) h
theorem dc_bool {b : Bool} {j : Nat} : PE X (.Constant (.bool b) j pos) (tE C (eC (.bool b))) := pe_bl.dl fun _ _ _ h => imp_c (fun _ _ => .bl b) h
theorem dc_none {j : Nat} : PE X (.Constant .none j pos) (tE C (eC .none)) := pe_non.dl fun _ _ _ h => imp_c (fun _ _ => .non) h
/-- a module's constant -/
theorem dg_int {x : Str} {i : Int} {t : Tok} (hg : Gl X x) (hm : X.mg x = some (.int i t)) (hd : (x == ("__debug__" : Str)) = false := by decide) : PE X (.Name x pos) (tE C (eC (.int i))) := (pe_glob (v := .int i) hg hm ⟨t, rfl⟩ hd).dl fun _ _ _ h => imp_c (fun _ _ => .int i) h
theorem dg_str {x y : Str} {t : Tok} (hg : Gl X x) (hm : X.mg x = some (.str y t)) (hd : (x == ("__debug__" : Str)) = false := by decide) : PE X (.Name x pos) (tE C (eC (.str y))) := (pe_glob (v := .str y) hg hm ⟨t, rfl⟩ hd).dl fun _ _ _ h => imp_c (fun _ _ => .str y) h
end
end
end DL
namespace DL
open PySem L2

section
variable {C : Fr} {X : Cx} {σ : L2.St} {H : Hp} {ρ ρ' : Rho} {τ : List (V × R)} {an : List (Addr × HO)} {v : V} {r : R} {x y z : D}

/-! ### ==, !=, <, in -/
def eqD (x y : D) : Option D := if x.depth ≤ 60 then some (.bool (PyData.eqv x y)) else none
def neD (x y : D) : Option D := if x.depth ≤ 60 then some (.bool (!PyData.eqv x y)) else none
theorem op_eqG (hK : C.K = X.K) (hu : X.A.units + 64 < cLine) : OpR X (compareOp .Eq) (rG C (op2 eqD)) := by
  intro pins s σ H x y v u Q I rx ry h
  obtain ⟨σ', ρ, τ, an, a, b, z, S, g, q⟩ := h
  obtain ⟨dx, dy, dz, h1, h2, h3, rfl⟩ := op2_inv g
  have n1 := S.res (List.mem_cons_of_mem _ List.mem_cons_self) h1
  have n2 := S.res List.mem_cons_self h2
  rw [hK] at n1 n2
  unfold eqD at h3
  split at h3
  · rename_i hd
    cases h3
    obtain ⟨as, r1⟩ := n1.reads I rx
    obtain ⟨bs, r2⟩ := n2.reads I ry
    refine SeqAt.eq_plain r1 r2 n1.plain n2.plain (by omega) ⟨.bl _, H, I, rfl, q _ H (S.pop2.push fun _ _ => .bl _)⟩
  · cases h3
theorem op_neG (hK : C.K = X.K) (hu : X.A.units + 64 < cLine) : OpR X (compareOp .NotEq) (rG C (op2 neD)) := by
  intro pins s σ H x y v u Q I rx ry h
  obtain ⟨σ', ρ, τ, an, a, b, z, S, g, q⟩ := h
  obtain ⟨dx, dy, dz, h1, h2, h3, rfl⟩ := op2_inv g
  have n1 := S.res (List.mem_cons_of_mem _ List.mem_cons_self) h1
  have n2 := S.res List.mem_cons_self h2
  rw [hK] at n1 n2
  unfold neD at h3
  split at h3
  · rename_i hd
    cases h3
    obtain ⟨as, r1⟩ := n1.reads I rx
    obtain ⟨bs, r2⟩ := n2.reads I ry
    refine SeqAt.ne_plain r1 r2 n1.plain n2.plain (by omega) ⟨.bl _, H, I, rfl, q _ H (S.pop2.push fun _ _ => .bl _)⟩
  · cases h3
def ltD : D → D → Option D
  | .int i, .int j => some (.bool (decide (i < j)))
  | .str i, .str j => some (.bool (decide (i.cps.toList < j.cps.toList)))
  | .none, _ => none
  | x, y => if PySem.W.alike x y = true ∧ x.depth ≤ 60 then some (.bool (PySem.W.dataLt x y)) else none
theorem op_ltG (hK : C.K = X.K) (hu : X.A.units + 64 < cLine) : OpR X (compareOp .Lt) (rG C (op2 ltD)) := by
  intro pins s σ H x y v u Q I rx ry h
  obtain ⟨σ', ρ, τ, an, a, b, z, S, g, q⟩ := h
  obtain ⟨dx, dy, dz, h1, h2, h3, rfl⟩ := op2_inv g
  have n1 := S.res (List.mem_cons_of_mem _ List.mem_cons_self) h1
  have n2 := S.res List.mem_cons_self h2
  rw [hK] at n1 n2
  unfold ltD at h3
  split at h3
  · cases h3
    exact op_lt pins s σ H x y v u Q I rx ry ⟨_, _, n1.int_inv, n2.int_inv, q _ H (S.pop2.push fun _ _ => .bl _)⟩
  · cases h3
    exact op_lt_str pins s σ H x y v u Q I rx ry ⟨_, _, n1.str_inv, n2.str_inv, q _ H (S.pop2.push fun _ _ => .bl _)⟩
  · cases h3
  · rename_i w0 w1 w2
    split at h3
    · rename_i hd
      cases h3
      obtain ⟨k1, k3⟩ := hd
      obtain ⟨as, r1⟩ := n1.reads I rx
      obtain ⟨bs, r2⟩ := n2.reads I ry
      exact PySem.W.lt_data r1 r2 k1 (fun e => by first | exact w0 e | exact w1 e | exact w2 e) (by omega) ⟨.bl _, H, I, rfl, q _ H (S.pop2.push fun _ _ => .bl _)⟩
    · cases h3
def icmp (p : Int → Int → Bool) : D → D → Option D
  | .int i, .int j => some (.bool (p i j))
  | _, _ => none
theorem icmp_inv {p : Int → Int → Bool} (h : icmp p x y = some z) : ∃ i j, x = .int i ∧ y = .int j ∧ z = .bool (p i j) := by
  unfold icmp at h
  split at h
  · cases h
    exact ⟨_, _, rfl, rfl, rfl⟩
  · cases h
theorem op_icmp {op : CmpOp} {p : Int → Int → Bool} (hr : OpR X (compareOp op) (rI0 fun i j => .bl (p i j))) (hK : C.K = X.K) : OpR X (compareOp op) (rG C (op2 (icmp p))) := by
  intro pins s σ H x y v u Q I rx ry h
  obtain ⟨σ', ρ, τ, an, a, b, z, S, g, q⟩ := h
  obtain ⟨dx, dy, dz, h1, h2, h3, rfl⟩ := op2_inv g
  have n1 := S.res (List.mem_cons_of_mem _ List.mem_cons_self) h1
  have n2 := S.res List.mem_cons_self h2
  obtain ⟨i, j, rfl, rfl, rfl⟩ := icmp_inv h3
  exact hr pins s σ H x y v u Q I rx ry ⟨i, j, n1.int_inv, n2.int_inv, q _ H (S.pop2.push fun _ _ => .bl _)⟩
abbrev leD := icmp fun i j => decide (i ≤ j)
abbrev gtD := icmp fun i j => decide (j < i)
abbrev geD := icmp fun i j => decide (j ≤ i)
theorem op_leG (hK : C.K = X.K) : OpR X (compareOp .LtE) (rG C (op2 leD)) := op_icmp op_le hK
theorem op_gtG (hK : C.K = X.K) : OpR X (compareOp .Gt) (rG C (op2 gtD)) := op_icmp op_gt hK
theorem op_geG (hK : C.K = X.K) : OpR X (compareOp .GtE) (rG C (op2 geD)) := op_icmp op_ge hK
/-- a sign within a text -/
def signIn (s z : Str) : Option Bool := match s.cps.toList with
  | [c] => some (decide (c ∈ z.cps.toList))
  | _ => none
def inB (x : D) : D → Option Bool
  | .list xs => if PyData.depthAll xs ≤ 60 then some (xs.any fun y => PyData.eqv y x) else none
  | .tuple xs => if PyData.depthAll xs ≤ 60 then some (xs.any fun y => PyData.eqv y x) else none
  | .str z => match x with
    | .str s => signIn s z
    | _ => none
  | _ => none
def inD (x y : D) : Option D := (inB x y).map PyData.bool
def ninD (x y : D) : Option D := (inB x y).map fun b => PyData.bool (!b)
theorem sign_of {s z : Str} {k : Bool} (h : signIn s z = some k) : ∃ c, s = ⟨#[c]⟩ ∧ k = decide (c ∈ z.cps.toList) := by
  unfold signIn at h
  split at h
  · rename_i c e
    cases h
    refine ⟨c, ?_, rfl⟩
    obtain ⟨⟨l⟩⟩ := s
    simp at e
    subst e
    rfl
  · cases h
theorem op_inG (hK : C.K = X.K) (hu : X.A.units + 64 < cLine) : OpR X (compareOp .In) (rG C (op2 inD)) := by
  intro pins s σ H x y v u Q I rx ry h
  obtain ⟨σ', ρ, τ, an, a, b, z, S, g, q⟩ := h
  obtain ⟨dx, dy, dz, h1, h2, h3, rfl⟩ := op2_inv g
  have n1 := S.res (List.mem_cons_of_mem _ List.mem_cons_self) h1
  have n2 := S.res List.mem_cons_self h2
  rw [hK] at n1 n2
  unfold inD inB at h3
  split at h3
  · rename_i xs
    split at h3
    · rename_i hd
      cases h3
      obtain ⟨as, r1⟩ := n1.reads I rx
      obtain ⟨bs, r2⟩ := n2.reads I ry
      exact SeqAt.in_list_data r2 r1 (by have := n2.plain; rw [PyData.plain] at this; exact this) n1.plain (by omega) ⟨.bl _, H, I, rfl, q _ H (S.pop2.push fun _ _ => .bl _)⟩
    · cases h3
  · rename_i xs
    split at h3
    · rename_i hd
      cases h3
      obtain ⟨as, r1⟩ := n1.reads I rx
      obtain ⟨bs, r2⟩ := n2.reads I ry
      exact SeqAt.in_tuple_data r2 r1 (by have := n2.plain; rw [PyData.plain] at this; exact this) n1.plain (by omega) ⟨.bl _, H, I, rfl, q _ H (S.pop2.push fun _ _ => .bl _)⟩
    · cases h3
  · split at h3
    · rename_i zz _ ss
      cases e : signIn ss zz with
      | none =>
        rw [e] at h3
        cases h3
      | some k =>
        rw [e] at h3
        cases h3
        obtain ⟨c, rfl, rfl⟩ := sign_of e
        exact op_in_sign pins s σ H x y v u Q I rx ry ⟨c, zz, n1.str_inv, n2.str_inv, q _ H (S.pop2.push fun _ _ => .bl _)⟩
    · cases h3
  · cases h3
theorem op_ninG (hK : C.K = X.K) (hu : X.A.units + 64 < cLine) : OpR X (compareOp .NotIn) (rG C (op2 ninD)) := by
  intro pins s σ H x y v u Q I rx ry h
  obtain ⟨σ', ρ, τ, an, a, b, z, S, g, q⟩ := h
  obtain ⟨dx, dy, dz, h1, h2, h3, rfl⟩ := op2_inv g
  have n1 := S.res (List.mem_cons_of_mem _ List.mem_cons_self) h1
  have n2 := S.res List.mem_cons_self h2
  rw [hK] at n1 n2
  unfold ninD inB at h3
  split at h3
  · rename_i xs
    split at h3
    · rename_i hd
      cases h3
      obtain ⟨as, r1⟩ := n1.reads I rx
      obtain ⟨bs, r2⟩ := n2.reads I ry
      exact SeqAt.notIn_list_data r2 r1 (by have := n2.plain; rw [PyData.plain] at this; exact this) n1.plain (by omega) ⟨.bl _, H, I, rfl, q _ H (S.pop2.push fun _ _ => .bl _)⟩
    · cases h3
  · rename_i xs
    split at h3
    · rename_i hd
      cases h3
      obtain ⟨as, r1⟩ := n1.reads I rx
      obtain ⟨bs, r2⟩ := n2.reads I ry
      exact SeqAt.notIn_tuple_data r2 r1 (by have := n2.plain; rw [PyData.plain] at this; exact this) n1.plain (by omega) ⟨.bl _, H, I, rfl, q _ H (S.pop2.push fun _ _ => .bl _)⟩
    · cases h3
  · split at h3
    · rename_i zz _ ss
      cases e : signIn ss zz with
      | none =>
        rw [e] at h3
        cases h3
      | some k =>
        rw [e] at h3
        cases h3
        obtain ⟨c, rfl, rfl⟩ := sign_of e
        exact op_notIn_sign pins s σ H x y v u Q I rx ry ⟨c, zz, n1.str_inv, n2.str_inv, q _ H (S.pop2.push fun _ _ => .bl _)⟩
    · cases h3
  · cases h3

/-! ### +, -, % -/
def addD : D → D → Option D
  | .int i, .int j => some (.int (i + j))
  | .str i, .str j => if i.length + j.length ≤ sizeLine then some (.str (i ++ j)) else none
  | .tuple xs, .tuple ys => if xs.length + ys.length ≤ sizeLine then some (.tuple (xs ++ ys)) else none
  | .list xs, .list ys => if xs.length + ys.length ≤ sizeLine then some (.list (xs ++ ys)) else none
  | _, _ => none
theorem app_at {vs ws : List V} {xs ys : List D} (hl : vs.length = xs.length) {i : Nat} {v : V} {x : D} (a : (vs ++ ws)[i]? = some v) (b : (xs ++ ys)[i]? = some x) : (v, R.d x) ∈ tz vs xs ∨ (v, R.d x) ∈ tz ws ys := by
  by_cases h : i < vs.length
  · rw [List.getElem?_append_left h] at a
    rw [List.getElem?_append_left (by omega)] at b
    exact .inl (mem_tz a b)
  · rw [List.getElem?_append_right (by omega)] at a
    rw [List.getElem?_append_right (by omega), ← hl] at b
    exact .inr (mem_tz a b)
theorem op_addG (hK : C.K = X.K) : OpR X (binaryOp .Add) (rG C (op2 addD)) := by
  intro pins s σ H x y v u Q I rx ry h
  obtain ⟨σ', ρ, τ, an, a, b, z, S, g, q⟩ := h
  obtain ⟨dx, dy, dz, h1, h2, h3, rfl⟩ := op2_inv g
  have n1 := S.res (List.mem_cons_of_mem _ List.mem_cons_self) h1
  have n2 := S.res List.mem_cons_self h2
  unfold addD at h3
  split at h3
  · cases h3
    exact op_add pins s σ H x y v u Q I rx ry ⟨_, _, n1.int_inv, n2.int_inv, q _ H (S.pop2.push fun _ _ => .int _)⟩
  · split at h3
    · rename_i hz
      cases h3
      exact op_add_str pins s σ H x y v u Q I rx ry ⟨_, _, n1.str_inv, n2.str_inv, hz, q _ H (S.pop2.push fun _ _ => .str _)⟩
    · cases h3
  · rename_i xs ys
    split at h3
    · rename_i hz
      cases h3
      obtain ⟨a1, vs, rfl, t1, l1, S1⟩ := S.itemsT (List.mem_cons_of_mem _ List.mem_cons_self) h1
      obtain ⟨b1, ws, rfl, t2, l2, S2⟩ := S1.itemsT (List.mem_append_right _ List.mem_cons_self) h2
      refine op_catZ pins s σ H _ _ v u Q I rx ry ⟨a1, b1, vs, ws, rfl, rfl, t1, t2, by omega, fun e => ?_, fun e1 e2 => ?_, fun _ _ p o ho hp => ?_⟩
      · subst e
        have e' : xs = [] := List.length_eq_zero_iff.mp l1.symm
        subst e'
        rw [rdo_tup h2] at S
        exact q _ H (S.keepN fun p hp => List.mem_cons_of_mem _ hp)
      · subst e2
        have e' : ys = [] := List.length_eq_zero_iff.mp l2.symm
        subst e'
        rw [rdo_tup h1] at S
        rw [List.append_nil] at q
        exact q _ H (S.pop.keepN fun p hp => hp)
      · refine q _ _ ((S2.ntup (vs := vs ++ ws) (xs := xs ++ ys) (by simp [l1, l2]) (fun i w d a b => ?_) ho hp).keepN fun p hp => ?_)
        · rcases app_at l1 a b with h | h
          · exact List.mem_append_right _ (List.mem_append_left _ h)
          · exact List.mem_append_left _ h
        · exact List.mem_append_right _ (List.mem_append_right _ (List.mem_cons_of_mem _ (List.mem_cons_of_mem _ hp)))
    · cases h3
  · rename_i xs ys
    split at h3
    · rename_i hz
      cases h3
      obtain ⟨a1, vs, rfl, t1, l1, S1⟩ := S.items (List.mem_cons_of_mem _ List.mem_cons_self) h1
      obtain ⟨b1, ws, rfl, t2, l2, S2⟩ := S1.items (List.mem_append_right _ List.mem_cons_self) h2
      refine op_cat pins s σ H _ _ v u Q I rx ry ⟨a1, b1, vs, ws, rfl, rfl, t1, t2, by omega, fun p hp => ?_⟩
      refine q _ _ ((S2.nlst (vs := vs ++ ws) (xs := xs ++ ys) (by simp [l1, l2]) (fun i w d a b => ?_) hp).keepN fun p hp => ?_)
      · rcases app_at l1 a b with h | h
        · exact List.mem_append_right _ (List.mem_append_left _ h)
        · exact List.mem_append_left _ h
      · exact List.mem_append_right _ (List.mem_append_right _ (List.mem_cons_of_mem _ (List.mem_cons_of_mem _ hp)))
    · cases h3
  · cases h3
def subD : D → D → Option D
  | .int i, .int j => some (.int (i - j))
  | _, _ => none
theorem op_subG (hK : C.K = X.K) : OpR X (binaryOp .Sub) (rG C (op2 subD)) := by
  intro pins s σ H x y v u Q I rx ry h
  obtain ⟨σ', ρ, τ, an, a, b, z, S, g, q⟩ := h
  obtain ⟨dx, dy, dz, h1, h2, h3, rfl⟩ := op2_inv g
  have n1 := S.res (List.mem_cons_of_mem _ List.mem_cons_self) h1
  have n2 := S.res List.mem_cons_self h2
  unfold subD at h3
  split at h3
  · cases h3
    exact op_sub pins s σ H x y v u Q I rx ry ⟨_, _, n1.int_inv, n2.int_inv, q _ H (S.pop2.push fun _ _ => .int _)⟩
  · cases h3

/-! ### items -/
def idxD : D → D → Option D
  | .tuple xs, .int i => atI xs i
  | .list xs, .int i => atI xs i
  | _, _ => none
theorem atI_both {vs : List V} {xs : List D} (hl : vs.length = xs.length) {i : Int} {x : D} (h : atI xs i = some x) : ∃ (j : Nat) (v : V), atI vs i = some v ∧ vs[j]? = some v ∧ xs[j]? = some x := by
  unfold atI at h ⊢
  rw [hl]
  cases e : ixN xs.length i with
  | none =>
    rw [e] at h
    cases h
  | some j =>
    rw [e] at h
    have hx : xs[j]? = some x := h
    have hj : j < vs.length := by
      rw [hl]
      exact (List.getElem?_eq_some_iff.mp hx).1
    exact ⟨j, vs[j], by simp [hj], by simp [hj], hx⟩
theorem ix_G (hK : C.K = X.K) : IxR X (rG C (op2 idxD)) := by
  intro va sl pins s σ H x y v u Q I rx ry h hs
  obtain ⟨σ', ρ, τ, an, a, c, z, S, g, q⟩ := h
  obtain ⟨dx, dy, dz, h1, h2, h3, rfl⟩ := op2_inv g
  have n2 := S.res List.mem_cons_self h2
  unfold idxD at h3
  split at h3
  · rename_i xs i
    obtain ⟨a1, vs, rfl, t1, l1, S1⟩ := S.itemsT (List.mem_cons_of_mem _ List.mem_cons_self) h1
    obtain ⟨j, w, e1, e2, e3⟩ := atI_both l1 h3
    have e := n2.int_inv
    subst e
    refine ix_tup va sl pins s σ H _ _ v u Q I rx ry ⟨a1, vs, i, w, rfl, rfl, t1.sq, e1, q _ H ?_⟩ hs
    exact (S1.part (v := w) (x := dz) (List.mem_append_left _ (mem_tz e2 e3)) fun _ h => h).keepN fun p hp => List.mem_append_right _ (List.mem_cons_of_mem _ (List.mem_cons_of_mem _ hp))
  · rename_i xs i
    obtain ⟨a1, vs, rfl, t1, l1, S1⟩ := S.items (List.mem_cons_of_mem _ List.mem_cons_self) h1
    obtain ⟨j, w, e1, e2, e3⟩ := atI_both l1 h3
    have e := n2.int_inv
    subst e
    refine ix_list va sl pins s σ H _ _ v u Q I rx ry ⟨a1, vs, i, w, rfl, rfl, Or.inl (Or.inl t1), e1, q _ H ?_⟩ hs
    exact (S1.part (v := w) (x := dz) (List.mem_append_left _ (mem_tz e2 e3)) fun _ h => h).keepN fun p hp => List.mem_append_right _ (List.mem_cons_of_mem _ (List.mem_cons_of_mem _ hp))
  · cases h3
theorem de_ix {a b : Expr} {fa fb : FE} {pos : Pos} (hK : C.K = X.K) (ha : PE X a (tE C fa)) (hb : PE X b (tE C fb)) (hs : PlainIx b) : PE X (.Subscript a b pos) (tE C (e2 (op2 idxD) fa fb)) := (pe_ix (ix_G hK) ha hb hs).dl fun _ _ _ h => imp_op h
end
end DL
namespace DL
open PySem L2

section
variable {C : Fr} {X : Cx} {σ : L2.St} {H : Hp} {ρ ρ' : Rho} {τ : List (V × R)} {an : List (Addr × HO)} {v : V} {r : R} {x y z : D}

/-! ### arguments -/
def aNil : FA := fun ρ => some ([], ρ)
def aCons (f : FE) (g : FA) : FA := fun ρ => (f ρ).bind fun p => (g p.2).map fun q => (p.1 :: q.1, q.2)
theorem aCons_inv {f : FE} {g : FA} {rs : List R} (h : aCons f g ρ = some (rs, ρ')) : ∃ a ρ1 bs, f ρ = some (a, ρ1) ∧ g ρ1 = some (bs, ρ') ∧ rs = a :: bs := by
  unfold aCons at h
  cases e1 : f ρ with
  | none => simp [e1] at h
  | some p =>
    obtain ⟨a, ρ1⟩ := p
    cases e2 : g ρ1 with
    | none => simp [e1, e2] at h
    | some q =>
      obtain ⟨bs, ρ2⟩ := q
      simp [e1, e2] at h
      obtain ⟨rfl, rfl⟩ := h
      exact ⟨a, ρ1, bs, rfl, e2, rfl⟩
theorem imp_nil {Q : List V → Hp → Prop} (h : tA C aNil σ H Q) : tNil σ H Q := by
  obtain ⟨ρ, τ, an, rs, ρ', S, e, q⟩ := h
  cases e
  exact q [] H rfl S
theorem imp_cons {f : FE} {g : FA} {Q : List V → Hp → Prop} (h : tA C (aCons f g) σ H Q) : tCons (tE C f) (tA C g) σ H Q := by
  obtain ⟨ρ, τ, an, rs, ρ', S, e, q⟩ := h
  obtain ⟨a, ρ1, bs, h1, h2, rfl⟩ := aCons_inv e
  refine ⟨ρ, τ, an, a, ρ1, S, h1, fun x H1 S1 => ?_⟩
  refine ⟨ρ1, _, an, bs, ρ', S1, h2, fun vs H2 hl S2 => q (x :: vs) H2 (by simp [hl]) (S2.sub fun p hp => ?_)⟩
  rcases List.mem_append.mp hp with hp | hp
  · rcases List.mem_cons.mp hp with rfl | hp
    · exact List.mem_append_right _ List.mem_cons_self
    · exact List.mem_append_left _ hp
  · exact List.mem_append_right _ (List.mem_cons_of_mem _ hp)
theorem da_nil : PA X [] (tA C aNil) := pa_nil.dl fun _ _ _ h => imp_nil h
theorem da_cons {e : Expr} {es : List Expr} {f : FE} {g : FA} (ha : PE X e (tE C f)) (hr : PA X es (tA C g)) (hs : starEach (e :: es) X.env = (false, eval e X.env) :: starEach es X.env := by rfl) : PA X (e :: es) (tA C (aCons f g)) :=
  (pa_cons ha hr hs).dl fun _ _ _ h => imp_cons h

/-! ### displays -/
def rdos (ρ : Rho) : List R → Option (List D)
  | [] => some []
  | r :: rs => (rdo ρ r).bind fun x => (rdos ρ rs).map fun xs => x :: xs
/-- data alone -/
def pls : List R → Option (List D)
  | [] => some []
  | .d x :: rs => (pls rs).map fun xs => x :: xs
  | .own _ :: _ => none
  | .w _ :: _ => none
theorem pls_inv : ∀ {rs : List R} {xs : List D}, pls rs = some xs → rs = xs.map R.d
  | [], xs, h => by
    cases h
    rfl
  | .d x :: rs, xs, h => by
    unfold pls at h
    cases e : pls rs with
    | none => simp [e] at h
    | some ys =>
      simp [e] at h
      subst h
      rw [pls_inv e]
      rfl
  | .own _ :: _, _, h => by
    unfold pls at h
    cases h
  | .w _ :: _, _, h => by
    unfold pls at h
    cases h
def eTup (f : FA) : FE := fun ρ => (f ρ).bind fun p => (pls p.1).bind fun xs => if xs.length ≤ sizeLine then some (.d (.tuple xs), p.2) else none
theorem imp_tup {f : FA} {Q : VK} (h : tE C (eTup f) σ H Q) : tTupZ (tA C f) σ H Q := by
  obtain ⟨ρ, τ, an, r, ρ', S, e, q⟩ := h
  unfold eTup at e
  cases e1 : f ρ with
  | none => simp [e1] at e
  | some p =>
    obtain ⟨rs, ρ1⟩ := p
    cases e2 : pls rs with
    | none => simp [e1, e2] at e
    | some xs =>
      simp [e1, e2] at e
      obtain ⟨hz, rfl, rfl⟩ := e
      have er := pls_inv e2
      subst er
      refine ⟨ρ, τ, an, _, _, S, e1, fun vs H1 hl S1 => ?_⟩
      rw [List.length_map] at hl
      refine ⟨by omega, fun p o ho hp => q _ _ ((S1.ntup hl (fun i v x a b => List.mem_append_left _ (mem_tz a b)) ho hp).keepN fun q hq => List.mem_append_right _ hq)⟩
theorem de_tup {es : List Expr} {k : Nat} {f : FA} {pos : Pos} (h : PA X es (tA C f)) : PE X (.Tuple es k pos) (tE C (eTup f)) := (pe_tupZ h).dl fun _ _ _ h => imp_tup h

/-! ### new lists -/
abbrev FF := Rho → Option (List D × Rho)
/-- a new list, nobody else's -/
def tF (C : Fr) (f : FF) : TE := fun σ H Q => ∃ ρ τ an xs ρ', SD C σ H ρ τ an ∧ f ρ = some (xs, ρ') ∧ ∀ p vs H', vs.length = xs.length → SD C σ H' ρ' (tz vs xs ++ τ) ((p, .lst vs) :: an) → Q (.ref p) H'
def ofF (f : FF) : FE := fun ρ => (f ρ).map fun p => (.d (.list p.1), p.2)
theorem imp_ofF {f : FF} {Q : VK} (h : tE C (ofF f) σ H Q) : tF C f σ H Q := by
  obtain ⟨ρ, τ, an, r, ρ', S, e, q⟩ := h
  unfold ofF at e
  cases e1 : f ρ with
  | none => simp [e1] at e
  | some p =>
    obtain ⟨xs, ρ1⟩ := p
    simp [e1] at e
    obtain ⟨rfl, rfl⟩ := e
    refine ⟨ρ, τ, an, xs, _, S, e1, fun p vs H' hl S' => q _ _ ((S'.lay hl fun i v x a b => List.mem_append_left _ (mem_tz a b)).keepN fun q hq => List.mem_append_right _ hq)⟩
theorem de_F {e : Expr} {f : FF} (h : PE X e (tF C f)) : PE X e (tE C (ofF f)) := h.dl fun _ _ _ h => imp_ofF h
def fLst (f : FA) : FF := fun ρ => (f ρ).bind fun p => (pls p.1).bind fun xs => if xs.length ≤ sizeLine then some (xs, p.2) else none
theorem imp_lst {f : FA} {Q : VK} (h : tF C (fLst f) σ H Q) : tLst (tA C f) σ H Q := by
  obtain ⟨ρ, τ, an, r, ρ', S, e, q⟩ := h
  unfold fLst at e
  cases e1 : f ρ with
  | none => simp [e1] at e
  | some p =>
    obtain ⟨rs, ρ1⟩ := p
    cases e2 : pls rs with
    | none => simp [e1, e2] at e
    | some xs =>
      simp [e1, e2] at e
      obtain ⟨hz, rfl, rfl⟩ := e
      have er := pls_inv e2
      subst er
      refine ⟨ρ, τ, an, _, _, S, e1, fun vs H1 hl S1 => ?_⟩
      rw [List.length_map] at hl
      refine ⟨by omega, fun p hp => q p vs _ hl (S1.fresh hp trivial)⟩
theorem df_lst {es : List Expr} {f : FA} {pos : Pos} (h : PA X es (tA C f)) : PE X (.List es pos) (tF C (fLst f)) := (pe_lst h).dl fun _ _ _ h => imp_lst h
theorem de_lst {es : List Expr} {f : FA} {pos : Pos} (h : PA X es (tA C f)) : PE X (.List es pos) (tE C (ofF (fLst f))) := de_F (df_lst h)

/-! ### built-ins -/
def rB (C : Fr) (g : List R → Rho → Option R) : List V → Hp → VK → Prop := fun xs H Q => ∃ σ ρ τ an rs z, xs.length = rs.length ∧ SD C σ H ρ (xs.zip rs ++ τ) an ∧ g rs ρ = some z ∧ ∀ v H', SD C σ H' ρ ((v, z) :: τ) an → Q v H'
def eB (g : List R → Rho → Option R) (f : FA) : FE := fun ρ => (f ρ).bind fun p => (g p.1 p.2).map fun z => (z, p.2)
theorem imp_B {g : List R → Rho → Option R} {f : FA} {Q : VK} (h : tE C (eB g f) σ H Q) : tCB (rB C g) (tA C f) σ H Q := by
  obtain ⟨ρ, τ, an, r, ρ', S, e, q⟩ := h
  unfold eB at e
  cases e1 : f ρ with
  | none => simp [e1] at e
  | some p =>
    obtain ⟨rs, ρ1⟩ := p
    cases e2 : g rs ρ1 with
    | none => simp [e1, e2] at e
    | some z =>
      simp [e1, e2] at e
      obtain ⟨rfl, rfl⟩ := e
      exact ⟨ρ, τ, an, rs, _, S, e1, fun vs H1 hl S1 => ⟨σ, _, τ, an, rs, _, hl, S1, e2, q⟩⟩
section
variable {f : Str} {p pos : Pos} {e : Expr} {es : List Expr} {fa : FA} {id T : String} {g : List R → Rho → Option R}
theorem de_callB (hc : CallR X (.builtin id) (rB C g)) (hg : Gl X f) (hm : X.mg f = none) (hv : bootBuiltins f = some (.builtin id)) (ha : PA X (e :: es) (tA C fa)) (hn : f ≠ "__name__" := by decide) (hdb : (f == ("__debug__" : Str)) = false := by decide)
    (he : starEach (e :: es) X.env = (false, eval e X.env) :: starEach es X.env := by rfl) (hpl : (backTo pos (starEach es X.env)).any (·.1) = false := by rfl) : PE X (.Call (.Name f p) (e :: es) [] pos) (tE C (eB g fa)) :=
  (pe_callB hc hg hm hv ha hn hdb he hpl).dl fun _ _ _ h => imp_B h
theorem de_callTy (hc : CallR X (.type T) (rB C g)) (hg : Gl X f) (hm : X.mg f = none) (hv : bootBuiltins f = some (.type T)) (ha : PA X (e :: es) (tA C fa)) (hn : f ≠ "__name__" := by decide) (hdb : (f == ("__debug__" : Str)) = false := by decide)
    (he : starEach (e :: es) X.env = (false, eval e X.env) :: starEach es X.env := by rfl) (hpl : (backTo pos (starEach es X.env)).any (·.1) = false := by rfl) : PE X (.Call (.Name f p) (e :: es) [] pos) (tE C (eB g fa)) :=
  (pe_callTy hc hg hm hv ha hn hdb he hpl).dl fun _ _ _ h => imp_B h
end
def b1 (g : D → Option D) : List R → Rho → Option R
  | [a], ρ => (rdo ρ a).bind fun x => (g x).map R.d
  | _, _ => none
theorem b1_inv {g : D → Option D} {rs : List R} {z : R} (h : b1 g rs ρ = some z) : ∃ a x w, rs = [a] ∧ rdo ρ a = some x ∧ g x = some w ∧ z = .d w := by
  unfold b1 at h
  split at h
  · rename_i a
    cases e1 : rdo ρ a with
    | none => simp [e1] at h
    | some x =>
      cases e2 : g x with
      | none => simp [e1, e2] at h
      | some w => exact ⟨a, x, w, rfl, e1, e2, by simpa [e1, e2] using h.symm⟩
  · cases h
theorem one_of {xs : List V} {a : R} (h : xs.length = [a].length) : ∃ x, xs = [x] := by
  match xs, h with
  | [x], _ => exact ⟨x, rfl⟩
def lenD : D → Option D
  | .str s => if s.length ≤ sizeLine then some (.int s.length) else none
  | .tuple xs => some (.int xs.length)
  | .list xs => some (.int xs.length)
  | _ => none
theorem cr_len (hK : C.K = X.K) : CallR X (.builtin "len") (rB C (b1 lenD)) := by
  intro pins s σ H xs us Q I r h
  obtain ⟨σ', ρ, τ, an, rs, z, hl, S, g, q⟩ := h
  obtain ⟨a, dx, w, rfl, h1, h2, rfl⟩ := b1_inv g
  obtain ⟨x, rfl⟩ := one_of hl
  have n1 := S.res (List.mem_append_left _ List.mem_cons_self) h1
  have S0 : SD C σ' H ρ τ an := S.sub fun p hp => List.mem_append_right _ hp
  unfold lenD at h2
  split at h2
  · split at h2
    · rename_i hz
      cases h2
      have e := n1.str_inv
      subst e
      exact call_len pins s σ H _ us Q I r ⟨_, _, rfl, ⟨hz, rfl⟩, q _ H (S0.push fun _ _ => .int _)⟩
    · cases h2
  · cases h2
    obtain ⟨a1, vs, rfl, t1, t2⟩ := n1.tup_inv
    refine call_len pins s σ H _ us Q I r ⟨_, _, rfl, Or.inr ⟨vs, t1.sq, rfl⟩, q _ H (S0.push fun _ _ => ?_)⟩
    rw [t2.1]
    exact .int _
  · cases h2
    obtain ⟨a1, vs, rfl, t1, t2⟩ := n1.lst_inv
    refine call_len pins s σ H _ us Q I r ⟨_, _, rfl, Or.inl ⟨vs, Or.inl (Or.inl t1), rfl⟩, q _ H (S0.push fun _ _ => ?_)⟩
    rw [t2.1]
    exact .int _
  · cases h2
/-- truths -/
def boolsOf : List D → Option (List Bool)
  | [] => some []
  | .bool b :: xs => (boolsOf xs).map fun bs => b :: bs
  | _ :: _ => none
theorem boolsOf_inv : ∀ {xs : List D} {bs : List Bool}, boolsOf xs = some bs → xs = bs.map PyData.bool
  | [], bs, h => by
    cases h
    rfl
  | .bool b :: xs, bs, h => by
    unfold boolsOf at h
    cases e : boolsOf xs with
    | none => simp [e] at h
    | some ys =>
      simp [e] at h
      subst h
      rw [boolsOf_inv e]
      rfl
  | .none :: _, _, h => by unfold boolsOf at h; cases h
  | .int _ :: _, _, h => by unfold boolsOf at h; cases h
  | .str _ :: _, _, h => by unfold boolsOf at h; cases h
  | .list _ :: _, _, h => by unfold boolsOf at h; cases h
  | .tuple _ :: _, _, h => by unfold boolsOf at h; cases h
  | .dict _ :: _, _, h => by unfold boolsOf at h; cases h
theorem boolsOf_map (bs : List Bool) : boolsOf (bs.map PyData.bool) = some bs := by
  induction bs with
  | nil => rfl
  | cons b bs ih => simp [boolsOf, ih]
theorem dnl_bools {K : PySem.W.Frag} {vs : List V} : ∀ {bs : List Bool}, DnL K H vs (bs.map PyData.bool) → vs = bs.map V.bl := by
  induction vs with
  | nil =>
    intro bs h
    cases bs with
    | nil => rfl
    | cons => simp [DnL] at h
  | cons v vs ih =>
    intro bs h
    cases bs with
    | nil => simp [DnL] at h
    | cons b bs =>
      obtain ⟨h1, h2⟩ := DnL.head h
      rw [h1.bool_inv, ih h2]
      rfl
def allD : D → Option D
  | .list xs => (boolsOf xs).map fun bs => .bool (bs.all id)
  | _ => none
def anyD : D → Option D
  | .list xs => (boolsOf xs).map fun bs => .bool (bs.any id)
  | _ => none
theorem cr_allG (hK : C.K = X.K) (hc : X.calm = true) : CallR X (.builtin "all") (rB C (b1 allD)) := by
  intro pins s σ H xs us Q I r h
  obtain ⟨σ', ρ, τ, an, rs, z, hl, S, g, q⟩ := h
  obtain ⟨a, dx, w, rfl, h1, h2, rfl⟩ := b1_inv g
  obtain ⟨x, rfl⟩ := one_of hl
  have n1 := S.res (List.mem_append_left _ List.mem_cons_self) h1
  have S0 : SD C σ' H ρ τ an := S.sub fun p hp => List.mem_append_right _ hp
  unfold allD at h2
  split at h2
  · rename_i ds
    cases e : boolsOf ds with
    | none => simp [e] at h2
    | some bs =>
      simp [e] at h2
      subst h2
      have ed := boolsOf_inv e
      subst ed
      obtain ⟨a1, vs, rfl, t1, t2⟩ := n1.lst_inv
      have ev := dnl_bools t2
      subst ev
      exact L2.cr_all hc pins s σ H _ us Q I r ⟨a1, bs, rfl, Or.inl (Or.inl t1), q _ H (S0.push fun _ _ => .bl _)⟩
  · cases h2
theorem cr_anyG (hK : C.K = X.K) (hc : X.calm = true) : CallR X (.builtin "any") (rB C (b1 anyD)) := by
  intro pins s σ H xs us Q I r h
  obtain ⟨σ', ρ, τ, an, rs, z, hl, S, g, q⟩ := h
  obtain ⟨a, dx, w, rfl, h1, h2, rfl⟩ := b1_inv g
  obtain ⟨x, rfl⟩ := one_of hl
  have n1 := S.res (List.mem_append_left _ List.mem_cons_self) h1
  have S0 : SD C σ' H ρ τ an := S.sub fun p hp => List.mem_append_right _ hp
  unfold anyD at h2
  split at h2
  · rename_i ds
    cases e : boolsOf ds with
    | none => simp [e] at h2
    | some bs =>
      simp [e] at h2
      subst h2
      have ed := boolsOf_inv e
      subst ed
      obtain ⟨a1, vs, rfl, t1, t2⟩ := n1.lst_inv
      have ev := dnl_bools t2
      subst ev
      exact L2.cr_any hc pins s σ H _ us Q I r ⟨a1, bs, rfl, Or.inl (Or.inl t1), q _ H (S0.push fun _ _ => .bl _)⟩
  · cases h2
def tupD : D → Option D
  | .list xs => some (.tuple xs)
  | .tuple xs => some (.tuple xs)
  | _ => none
theorem cr_tupG (hK : C.K = X.K) : CallR X (.type "tuple") (rB C (b1 tupD)) := by
  intro pins s σ H xs us Q I r h
  obtain ⟨σ', ρ, τ, an, rs, z, hl, S, g, q⟩ := h
  obtain ⟨a, dx, w, rfl, h1, h2, rfl⟩ := b1_inv g
  obtain ⟨x, rfl⟩ := one_of hl
  unfold tupD at h2
  split at h2
  · cases h2
    obtain ⟨a1, vs, rfl, t1, l1, S1⟩ := S.items (List.mem_append_left _ List.mem_cons_self) h1
    refine call_tupZ pins s σ H _ us Q I r ⟨a1, vs, rfl, Or.inl ⟨Or.inl (Or.inl t1), fun p o ho hp => q _ _ ?_⟩⟩
    exact (S1.ntup l1 (fun i v x a b => List.mem_append_left _ (mem_tz a b)) ho hp).keepN fun p hp => List.mem_append_right _ (List.mem_append_right _ hp)
  · cases h2
    obtain ⟨a1, vs, rfl, t1, l1, S1⟩ := S.itemsT (List.mem_append_left _ List.mem_cons_self) h1
    refine call_tupZ pins s σ H _ us Q I r ⟨a1, vs, rfl, Or.inr ⟨t1.sq, q _ _ ?_⟩⟩
    rw [rdo_tup h1] at S
    exact (show SD C σ' H ρ ((V.ref a1, R.d _) :: τ) an from S)
  · cases h2
/-- list(x), new -/
def rF1 (C : Fr) (g : D → Option (List D)) : List V → Hp → VK → Prop := fun xs H Q => ∃ σ ρ τ an x a y zs, xs = [x] ∧ SD C σ H ρ ((x, a) :: τ) an ∧ rdo ρ a = some y ∧ g y = some zs ∧
  ∀ p vs H', vs.length = zs.length → SD C σ H' ρ (tz vs zs ++ τ) ((p, .lst vs) :: an) → Q (.ref p) H'
def fB (g : D → Option (List D)) (f : FE) : FF := fun ρ => (f ρ).bind fun p => (rdo p.2 p.1).bind fun y => (g y).map fun zs => (zs, p.2)
theorem imp_F1 {g : D → Option (List D)} {f : FE} {Q : VK} (h : tF C (fB g f) σ H Q) : tCB (rF1 C g) (tA C (aCons f aNil)) σ H Q := by
  obtain ⟨ρ, τ, an, zs, ρ', S, e, q⟩ := h
  unfold fB at e
  cases e1 : f ρ with
  | none => simp [e1] at e
  | some p =>
    obtain ⟨a, ρ1⟩ := p
    cases e2 : rdo ρ1 a with
    | none => simp [e1, e2] at e
    | some y =>
      cases e3 : g y with
      | none => simp [e1, e2, e3] at e
      | some ws =>
        simp [e1, e2, e3] at e
        obtain ⟨rfl, rfl⟩ := e
        refine ⟨ρ, τ, an, [a], ρ1, S, by simp [aCons, aNil, e1], fun vs H1 hl S1 => ?_⟩
        obtain ⟨x, rfl⟩ := one_of hl
        exact ⟨σ, _, τ, an, x, a, y, ws, rfl, S1, e2, e3, q⟩
def listD : D → Option (List D)
  | .list xs => some xs
  | .tuple xs => some xs
  | _ => none
theorem cr_listG (hK : C.K = X.K) : CallR X (.type "list") (rF1 C listD) := by
  intro pins s σ H xs us Q I r h
  obtain ⟨σ', ρ, τ, an, x, a, y, zs, rfl, S, h1, h2, q⟩ := h
  unfold listD at h2
  split at h2
  · cases h2
    obtain ⟨a1, vs, rfl, t1, l1, S1⟩ := S.items List.mem_cons_self h1
    refine call_list_of pins s σ H _ us Q I r ⟨a1, vs, rfl, Or.inl (Or.inl (Or.inl t1)), fun p hp => q p vs _ l1 ?_⟩
    exact (S1.fresh (o := .lst vs) hp trivial).sub fun p hp => by
      rcases List.mem_append.mp hp with hp | hp
      · exact List.mem_append_left _ hp
      · exact List.mem_append_right _ (List.mem_cons_of_mem _ hp)
  · cases h2
    obtain ⟨a1, vs, rfl, t1, l1, S1⟩ := S.itemsT List.mem_cons_self h1
    refine call_list_of pins s σ H _ us Q I r ⟨a1, vs, rfl, Or.inr t1.sq, fun p hp => q p vs _ l1 ?_⟩
    exact (S1.fresh (o := .lst vs) hp trivial).sub fun p hp => by
      rcases List.mem_append.mp hp with hp | hp
      · exact List.mem_append_left _ hp
      · exact List.mem_append_right _ (List.mem_cons_of_mem _ hp)
  · cases h2
theorem df_callTy {f : Str} {p pos : Pos} {e : Expr} {T : String} {fe : FE} {g : D → Option (List D)} (hc : CallR X (.type T) (rF1 C g)) (hg : Gl X f) (hm : X.mg f = none) (hv : bootBuiltins f = some (.type T)) (ha : PE X e (tE C fe)) (hn : f ≠ "__name__" := by decide) (hdb : (f == ("__debug__" : Str)) = false := by decide)
    (he : starEach [e] X.env = (false, eval e X.env) :: starEach [] X.env := by rfl) (hpl : (backTo pos (starEach [] X.env)).any (·.1) = false := by rfl) : PE X (.Call (.Name f p) [e] [] pos) (tF C (fB g fe)) :=
  (pe_callTy hc hg hm hv (da_cons ha da_nil he) hn hdb he hpl).dl fun _ _ _ h => imp_F1 h

/-! ### isinstance -/
def tyN : D → String
  | .none => "NoneType"
  | .bool _ => "bool"
  | .int _ => "int"
  | .str _ => "str"
  | .tuple _ => "tuple"
  | .list _ => "list"
  | .dict _ => "dict"
theorem tyx_of {K : PySem.W.Frag} {v : V} {d : D} (h : Dn K H v d) : TyX K H v (.type (tyN d)) := by
  cases h with
  | non => exact .base .non
  | bl b => exact .base (.bl b)
  | int i => exact .base (.int i)
  | str x => exact .base (.str x)
  | lst h1 h2 h3 => exact .base (.lst h1)
  | tup h1 h2 h3 =>
    obtain ⟨o, h1, _⟩ := h1
    exact .fTuple h1
/-- isinstance(e, T), T a built-in class -/
def isD (T : String) (x : D) : Option D := (kitB (tyN x) T).map PyData.bool
def eIsi (T : String) (f : FE) : FE := fun ρ => (f ρ).bind fun p => (rdo p.2 p.1).bind fun x => (isD T x).map fun z => (.d z, p.2)
theorem imp_isi {T : String} {f : FE} {Q : VK} (hK : C.K = X.K) (h : tE C (eIsi T f) σ H Q) : tCB (rIsi X.K) (tCons (tE C f) (tCons (tC (.ty T)) tNil)) σ H Q := by
  obtain ⟨ρ, τ, an, r, ρ', S, e, q⟩ := h
  unfold eIsi at e
  cases e1 : f ρ with
  | none => simp [e1] at e
  | some p =>
    obtain ⟨a, ρ1⟩ := p
    cases e2 : rdo ρ1 a with
    | none => simp [e1, e2] at e
    | some y =>
      cases e3 : kitB (tyN y) T with
      | none => simp [e1, e2, e3, isD] at e
      | some b =>
        simp [e1, e2, e3, isD] at e
        obtain ⟨rfl, rfl⟩ := e
        refine ⟨ρ, τ, an, a, _, S, e1, fun x H1 S1 => ?_⟩
        have n := S1.res List.mem_cons_self e2
        rw [hK] at n
        exact ⟨x, .ty T, _, .type T, b, rfl, .ty T, tyx_of n, kit_ty e3, q _ H1 (S1.pop.push fun _ _ => .bl b)⟩
theorem de_isi {f : Str} {T : String} {p p2 pos : Pos} {e : Expr} {fe : FE} (hK : C.K = X.K) (ha : PE X e (tE C fe)) (hg : Gl X "isinstance") (hm : X.mg "isinstance" = none) (hg2 : Gl X f) (hm2 : X.mg f = none) (hv2 : bootBuiltins f = some (.type T)) (hn2 : f ≠ "__name__" := by decide) (hd2 : (f == ("__debug__" : Str)) = false := by decide)
    (he : starEach [e, .Name f p2] X.env = (false, eval e X.env) :: starEach [.Name f p2] X.env := by rfl) (hpl : (backTo pos (starEach [.Name f p2] X.env)).any (·.1) = false := by rfl) : PE X (.Call (.Name "isinstance" p) [e, .Name f p2] [] pos) (tE C (eIsi T fe)) :=
  (pe_callB call_isi hg hm (by decide +kernel) (pa_cons ha (pa_cons (pe_bltn (v := .ty T) hg2 hm2 hv2 rfl hn2 hd2) pa_nil) he) (by decide) (by decide) he hpl).dl fun _ _ _ h => imp_isi hK h
end
end DL
namespace DL
open PySem L2

section
variable {C : Fr} {X : Cx} {σ : L2.St} {H : Hp} {ρ ρ' : Rho} {τ : List (V × R)} {an : List (Addr × HO)} {v : V} {r : R} {x y z : D}

/-! ### slices -/
abbrev FO := Rho → Option (Option Int × Rho)
def tO (C : Fr) (f : FO) : TO := fun σ H Q => ∃ ρ τ an o ρ', SD C σ H ρ τ an ∧ f ρ = some (o, ρ') ∧ ∀ H', SD C σ H' ρ' τ an → Q o H'
theorem _root_.L2.PO.dl {e : Option Expr} {t t' : TO} (h : PO X e t) (k : ∀ σ H Q, t' σ H Q → t σ H Q) : PO X e t' := by
  obtain ⟨h⟩ := h
  exact ⟨fun pins s σ H Q I q => h pins s σ H Q I (k σ H Q q)⟩
def oNone : FO := fun ρ => some (none, ρ)
def oSome (f : FE) : FO := fun ρ => match f ρ with
  | some (.d (.int i), ρ') => some (some i, ρ')
  | _ => none
theorem do_none : PO X none (tO C oNone) := po_none.dl fun σ H Q h => by
  obtain ⟨ρ, τ, an, o, ρ', S, e, q⟩ := h
  cases e
  exact q H S
theorem do_some {e : Expr} {f : FE} (h : PE X e (tE C f)) : PO X (some e) (tO C (oSome f)) := (po_some h).dl fun σ H Q h => by
  obtain ⟨ρ, τ, an, o, ρ', S, e, q⟩ := h
  unfold oSome at e
  split at e
  · rename_i i ρ1 e1
    cases e
    exact ⟨ρ, τ, an, _, _, S, e1, fun v H' S' => ⟨i, S'.here.int_inv, q H' S'.pop⟩⟩
  · cases e
def cutL {α : Type} (xs : List α) (lo hi : Option Int) : List α := (xs.drop (HT.sIx xs.length 0 lo)).take (HT.sIx xs.length xs.length hi - HT.sIx xs.length 0 lo)
def cutD (lo hi : Option Int) : D → Option D
  | .tuple xs => some (.tuple (cutL xs lo hi))
  | .list xs => some (.list (cutL xs lo hi))
  | .str z => if z.length ≤ sizeLine then some (.str (cutS z lo hi)) else none
  | _ => none
def rS (C : Fr) : V → Option Int → Option Int → Hp → VK → Prop := fun x lo hi H Q => ∃ σ ρ τ an a y z, SD C σ H ρ ((x, a) :: τ) an ∧ rdo ρ a = some y ∧ cutD lo hi y = some z ∧ ∀ v H', SD C σ H' ρ ((v, .d z) :: τ) an → Q v H'
theorem cut_at {vs : List V} {xs : List D} (hl : vs.length = xs.length) (lo hi : Option Int) {i : Nat} {v : V} {x : D} (a : (cutV vs lo hi)[i]? = some v) (b : (cutL xs lo hi)[i]? = some x) : (v, R.d x) ∈ tz vs xs := by
  unfold cutV at a
  unfold cutL at b
  rw [hl] at a
  rw [List.getElem?_take] at a b
  split at a
  · rename_i q
    rw [if_pos q] at b
    rw [List.getElem?_drop] at a b
    exact mem_tz a b
  · cases a
theorem cut_len {vs : List V} {xs : List D} (hl : vs.length = xs.length) (lo hi : Option Int) : (cutV vs lo hi).length = (cutL xs lo hi).length := by
  unfold cutV cutL
  rw [hl]
  simp [hl]
theorem cut_all {xs : List D} {lo hi : Option Int} (h : HT.sIx xs.length 0 lo = 0 ∧ HT.sIx xs.length xs.length hi = xs.length) : cutL xs lo hi = xs := by
  unfold cutL
  rw [h.1, h.2]
  simp
theorem sl_G (hK : C.K = X.K) : SlR X (rS C) := by
  intro pins s σ H x v vl vu lo hi sl Q I rx hs pl pu h
  obtain ⟨σ', ρ, τ, an, a, y, z, S, h1, h2, q⟩ := h
  unfold cutD at h2
  split at h2
  · rename_i xs
    cases h2
    obtain ⟨a1, vs, rfl, t1, l1, S1⟩ := S.itemsT List.mem_cons_self h1
    refine sl_tupZ pins s σ H _ v vl vu lo hi sl Q I rx hs pl pu ⟨a1, vs, rfl, t1, fun e => ?_, fun _ p o ho hp => ?_⟩
    · rw [l1] at e
      rw [cut_all e] at q
      rw [rdo_tup h1] at S
      exact q _ H S
    · exact q _ _ ((S1.ntup (cut_len l1 lo hi) (fun i v x a b => List.mem_append_left _ (cut_at l1 lo hi a b)) ho hp).keepN fun p hp => List.mem_append_right _ (List.mem_cons_of_mem _ hp))
  · rename_i xs
    cases h2
    obtain ⟨a1, vs, rfl, t1, l1, S1⟩ := S.items List.mem_cons_self h1
    refine sl_list pins s σ H _ v vl vu lo hi sl Q I rx hs pl pu ⟨a1, vs, rfl, Or.inl (Or.inl t1), fun p hp => ?_⟩
    exact q _ _ ((S1.nlst (cut_len l1 lo hi) (fun i v x a b => List.mem_append_left _ (cut_at l1 lo hi a b)) hp).keepN fun p hp => List.mem_append_right _ (List.mem_cons_of_mem _ hp))
  · rename_i zz
    split at h2
    · rename_i hz
      cases h2
      have e := (S.res List.mem_cons_self h1).str_inv
      subst e
      exact sl_str pins s σ H _ v vl vu lo hi sl Q I rx hs pl pu ⟨zz, rfl, hz, q _ H (S.pop.push fun _ _ => .str _)⟩
    · cases h2
  · cases h2
def eSl (f : FE) (lo hi : FO) : FE := fun ρ => (f ρ).bind fun p => (lo p.2).bind fun a => (hi a.2).bind fun b => (rdo b.2 p.1).bind fun y => (cutD a.1 b.1 y).map fun z => (.d z, b.2)
theorem imp_sl {f : FE} {lo hi : FO} {Q : VK} (h : tE C (eSl f lo hi) σ H Q) : tSl (rS C) (tE C f) (tO C lo) (tO C hi) σ H Q := by
  obtain ⟨ρ, τ, an, r, ρ', S, e, q⟩ := h
  unfold eSl at e
  cases e1 : f ρ with
  | none => simp [e1] at e
  | some p =>
    obtain ⟨a, ρ1⟩ := p
    cases e2 : lo ρ1 with
    | none => simp [e1, e2] at e
    | some p =>
      obtain ⟨l, ρ2⟩ := p
      cases e3 : hi ρ2 with
      | none => simp [e1, e2, e3] at e
      | some p =>
        obtain ⟨u, ρ3⟩ := p
        cases e4 : rdo ρ3 a with
        | none => simp [e1, e2, e3, e4] at e
        | some y =>
          cases e5 : cutD l u y with
          | none => simp [e1, e2, e3, e4, e5] at e
          | some w =>
            simp [e1, e2, e3, e4, e5] at e
            obtain ⟨rfl, rfl⟩ := e
            refine ⟨ρ, τ, an, a, ρ1, S, e1, fun x H1 S1 => ⟨ρ1, _, an, l, ρ2, S1, e2, fun H2 S2 => ⟨ρ2, _, an, u, ρ3, S2, e3, fun H3 S3 => ⟨σ, ρ3, τ, an, a, y, w, S3, e4, e5, q⟩⟩⟩⟩
theorem de_sl {e : Expr} {lo hi : Option Expr} {f : FE} {fl fh : FO} {p2 pos : Pos} (hK : C.K = X.K) (he : PE X e (tE C f)) (hl : PO X lo (tO C fl)) (hh : PO X hi (tO C fh)) : PE X (.Subscript e (.Slice lo hi none p2) pos) (tE C (eSl f fl fh)) :=
  (pe_slice (sl_G hK) he hl hh).dl fun _ _ _ h => imp_sl h

/-! ### truth; and, or, not -/
def truD : D → Option Bool
  | .none => some false
  | .bool b => some b
  | .int i => some (i != 0)
  | .str s => if s.length ≤ sizeLine then some ((s.length : Int) != 0) else none
  | .tuple xs => some (!xs.isEmpty)
  | .list xs => some (!xs.isEmpty)
  | _ => none
theorem tru_of {K : PySem.W.Frag} {v : V} {d : D} {k : Bool} (h : Dn K H v d) (e : truD d = some k) : TruV K v H k := by
  cases h with
  | non =>
    cases e
    rfl
  | bl b =>
    cases e
    rfl
  | int i =>
    cases e
    rfl
  | str x =>
    unfold truD at e
    simp only at e
    split at e
    · rename_i hz
      cases e
      exact ⟨hz, rfl⟩
    · cases e
  | lst h1 h2 h3 =>
    cases e
    refine Or.inl ⟨_, Or.inl (Or.inl h1), ?_⟩
    rename_i a xs ds
    cases xs <;> cases ds <;> first | rfl | simp at h2
  | tup h1 h2 h3 =>
    cases e
    refine Or.inr (Or.inl ⟨_, h1.sq, ?_⟩)
    rename_i a xs ds
    cases xs <;> cases ds <;> first | rfl | simp at h2
def truR (f : FE) : FT := fun ρ => (f ρ).bind fun p => (rdo p.2 p.1).bind fun x => (truD x).map fun k => (k, p.2)
theorem truR_inv {f : FE} {k : Bool} (h : truR f ρ = some (k, ρ')) : ∃ r x, f ρ = some (r, ρ') ∧ rdo ρ' r = some x ∧ truD x = some k := by
  unfold truR at h
  cases e1 : f ρ with
  | none => simp [e1] at h
  | some p =>
    obtain ⟨a, ρ1⟩ := p
    cases e2 : rdo ρ1 a with
    | none => simp [e1, e2] at h
    | some y =>
      cases e3 : truD y with
      | none => simp [e1, e2, e3] at h
      | some c =>
        simp [e1, e2, e3] at h
        obtain ⟨rfl, rfl⟩ := h
        exact ⟨a, y, rfl, e2, e3⟩
theorem dt_tru {e : Expr} {f : FE} (hK : C.K = X.K) (ha : PE X e (tE C f)) (he : ∀ whole, isTrue e X.env whole = (do let v ← whole; standAt e.pos; holding [v] (truthy v)) := by intro _; rfl) : PT X e (tT C (truR f)) :=
  (pt_truth ha he).dl fun σ H Q h => by
    obtain ⟨ρ, τ, an, k, ρ', S, e, q⟩ := h
    obtain ⟨r, x, h1, h2, h3⟩ := truR_inv e
    refine ⟨ρ, τ, an, r, ρ', S, h1, fun v H' S' => ⟨k, ?_, q H' S'.pop⟩⟩
    have n := S'.res List.mem_cons_self h2
    rw [hK] at n
    exact tru_of n h3
def andT (f g : FT) : FT := fun ρ => (f ρ).bind fun p => if p.1 = true then g p.2 else some (false, p.2)
def orT (f g : FT) : FT := fun ρ => (f ρ).bind fun p => if p.1 = true then some (true, p.2) else g p.2
def notT (f : FT) : FT := fun ρ => (f ρ).map fun p => (!p.1, p.2)
theorem imp_and {f g : FT} {Q : Bool → Hp → Prop} (h : tT C (andT f g) σ H Q) : tAnd (tT C f) (tT C g) σ H Q := by
  obtain ⟨ρ, τ, an, k, ρ', S, e, q⟩ := h
  unfold andT at e
  cases e1 : f ρ with
  | none => simp [e1] at e
  | some p =>
    obtain ⟨b, ρ1⟩ := p
    simp only [e1, Option.bind_some] at e
    refine ⟨ρ, τ, an, b, ρ1, S, e1, fun H1 S1 => ?_⟩
    cases b with
    | true =>
      rw [if_pos rfl] at e
      show tT C g σ H1 Q
      exact ⟨ρ1, τ, an, k, ρ', S1, e, q⟩
    | false =>
      rw [if_neg Bool.false_ne_true] at e
      cases e
      show Q false H1
      exact q H1 S1
theorem imp_or {f g : FT} {Q : Bool → Hp → Prop} (h : tT C (orT f g) σ H Q) : tOr (tT C f) (tT C g) σ H Q := by
  obtain ⟨ρ, τ, an, k, ρ', S, e, q⟩ := h
  unfold orT at e
  cases e1 : f ρ with
  | none => simp [e1] at e
  | some p =>
    obtain ⟨b, ρ1⟩ := p
    simp only [e1, Option.bind_some] at e
    refine ⟨ρ, τ, an, b, ρ1, S, e1, fun H1 S1 => ?_⟩
    cases b with
    | true =>
      rw [if_pos rfl] at e
      cases e
      show Q true H1
      exact q H1 S1
    | false =>
      rw [if_neg Bool.false_ne_true] at e
      show tT C g σ H1 Q
      exact ⟨ρ1, τ, an, k, ρ', S1, e, q⟩
theorem imp_not {f : FT} {Q : Bool → Hp → Prop} (h : tT C (notT f) σ H Q) : tNot (tT C f) σ H Q := by
  obtain ⟨ρ, τ, an, k, ρ', S, e, q⟩ := h
  unfold notT at e
  cases e1 : f ρ with
  | none => simp [e1] at e
  | some p =>
    obtain ⟨b, ρ1⟩ := p
    simp [e1] at e
    obtain ⟨rfl, rfl⟩ := e
    exact ⟨ρ, τ, an, _, _, S, e1, fun H' S' => by simpa using q H' S'⟩
section
variable {a b c : Expr} {rest : List Expr} {pos : Pos} {f g : FT} {fe ge he : FE}
theorem dw_and1 (ha : PT X a (tT C f)) : PW X (.BoolOp .And [a] pos) (tT C f) := pw_and1 ha
theorem dw_or1 (ha : PT X a (tT C f)) : PW X (.BoolOp .Or [a] pos) (tT C f) := pw_or1 ha
theorem dw_and (ha : PT X a (tT C f)) (hb : PW X (.BoolOp .And (b :: rest) pos) (tT C g)) : PW X (.BoolOp .And (a :: b :: rest) pos) (tT C (andT f g)) := (pw_and ha hb).dl fun _ _ _ h => imp_and h
theorem dw_or (ha : PT X a (tT C f)) (hb : PW X (.BoolOp .Or (b :: rest) pos) (tT C g)) : PW X (.BoolOp .Or (a :: b :: rest) pos) (tT C (orT f g)) := (pw_or ha hb).dl fun _ _ _ h => imp_or h
theorem dt_not (ha : PT X a (tT C f)) : PT X (.UnaryOp .Not a pos) (tT C (notT f)) := (pt_not ha).dl fun _ _ _ h => imp_not h
/-- as values -/
def andE (f g : FE) : FE := fun ρ => (f ρ).bind fun p => (rdo p.2 p.1).bind fun x => (truD x).bind fun k => if k = true then g p.2 else some p
def orE (f g : FE) : FE := fun ρ => (f ρ).bind fun p => (rdo p.2 p.1).bind fun x => (truD x).bind fun k => if k = true then some p else g p.2
def notE (f : FE) : FE := fun ρ => (truR f ρ).map fun p => (.d (.bool (!p.1)), p.2)
def ifE (t : FT) (f g : FE) : FE := fun ρ => (t ρ).bind fun p => if p.1 = true then f p.2 else g p.2
theorem de_one {op : BoolOp} (ha : PE X a (tE C fe)) : PE X (.BoolOp op [a] pos) (tE C fe) := pe_one ha
theorem de_and (hK : C.K = X.K) (ha : PE X a (tE C fe)) (hb : PE X (.BoolOp .And (b :: rest) pos) (tE C ge)) : PE X (.BoolOp .And (a :: b :: rest) pos) (tE C (andE fe ge)) :=
  (pe_andT ha hb).dl fun σ H Q h => by
    obtain ⟨ρ, τ, an, r, ρ', S, e, q⟩ := h
    unfold andE at e
    cases e1 : fe ρ with
    | none => simp [e1] at e
    | some p =>
      obtain ⟨a1, ρ1⟩ := p
      cases e2 : rdo ρ1 a1 with
      | none => simp [e1, e2] at e
      | some y =>
        cases e3 : truD y with
        | none => simp [e1, e2, e3] at e
        | some k =>
          simp only [e1, e2, e3, Option.bind_some] at e
          refine ⟨ρ, τ, an, a1, ρ1, S, e1, fun v H1 S1 => ⟨k, ?_, ?_⟩⟩
          · have n := S1.res List.mem_cons_self e2
            rw [hK] at n
            exact tru_of n e3
          · cases k with
            | true =>
              rw [if_pos rfl] at e
              show tE C ge σ H1 Q
              exact ⟨ρ1, τ, an, r, ρ', S1.pop, e, q⟩
            | false =>
              rw [if_neg Bool.false_ne_true] at e
              cases e
              show Q v H1
              exact q v H1 S1
theorem de_or (hK : C.K = X.K) (ha : PE X a (tE C fe)) (hb : PE X (.BoolOp .Or (b :: rest) pos) (tE C ge)) : PE X (.BoolOp .Or (a :: b :: rest) pos) (tE C (orE fe ge)) :=
  (pe_orT ha hb).dl fun σ H Q h => by
    obtain ⟨ρ, τ, an, r, ρ', S, e, q⟩ := h
    unfold orE at e
    cases e1 : fe ρ with
    | none => simp [e1] at e
    | some p =>
      obtain ⟨a1, ρ1⟩ := p
      cases e2 : rdo ρ1 a1 with
      | none => simp [e1, e2] at e
      | some y =>
        cases e3 : truD y with
        | none => simp [e1, e2, e3] at e
        | some k =>
          simp only [e1, e2, e3, Option.bind_some] at e
          refine ⟨ρ, τ, an, a1, ρ1, S, e1, fun v H1 S1 => ⟨k, ?_, ?_⟩⟩
          · have n := S1.res List.mem_cons_self e2
            rw [hK] at n
            exact tru_of n e3
          · cases k with
            | true =>
              rw [if_pos rfl] at e
              cases e
              show Q v H1
              exact q v H1 S1
            | false =>
              rw [if_neg Bool.false_ne_true] at e
              show tE C ge σ H1 Q
              exact ⟨ρ1, τ, an, r, ρ', S1.pop, e, q⟩
theorem de_not (hK : C.K = X.K) (ha : PE X a (tE C fe)) : PE X (.UnaryOp .Not a pos) (tE C (notE fe)) :=
  (pe_notT ha).dl fun σ H Q h => by
    obtain ⟨ρ, τ, an, r, ρ', S, e, q⟩ := h
    unfold notE at e
    cases e1 : truR fe ρ with
    | none => simp [e1] at e
    | some p =>
      obtain ⟨k, ρ1⟩ := p
      simp [e1] at e
      obtain ⟨rfl, rfl⟩ := e
      obtain ⟨r, x, h1, h2, h3⟩ := truR_inv e1
      refine ⟨ρ, τ, an, r, _, S, h1, fun v H' S' => ⟨k, ?_, q _ H' (S'.pop.push fun _ _ => .bl _)⟩⟩
      have n := S'.res List.mem_cons_self h2
      rw [hK] at n
      exact tru_of n h3
theorem de_if (hc : PT X c (tT C f)) (ha : PE X a (tE C fe)) (hb : PE X b (tE C ge)) : PE X (.IfExp c a b pos) (tE C (ifE f fe ge)) :=
  (pe_ifExp hc ha hb).dl fun σ H Q h => by
    obtain ⟨ρ, τ, an, r, ρ', S, e, q⟩ := h
    unfold ifE at e
    cases e1 : f ρ with
    | none => simp [e1] at e
    | some p =>
      obtain ⟨k, ρ1⟩ := p
      simp only [e1, Option.bind_some] at e
      refine ⟨ρ, τ, an, k, ρ1, S, e1, fun H1 S1 => ?_⟩
      cases k with
      | true =>
        rw [if_pos rfl] at e
        show tE C fe σ H1 Q
        exact ⟨ρ1, τ, an, r, ρ', S1, e, q⟩
      | false =>
        rw [if_neg Bool.false_ne_true] at e
        show tE C ge σ H1 Q
        exact ⟨ρ1, τ, an, r, ρ', S1, e, q⟩

/-! ### is None -/
def isNone : D → Bool
  | .none => true
  | _ => false
theorem non_iff {K : PySem.W.Frag} {v : V} {d : D} (h : Dn K H v d) : decide (v = .non) = isNone d := by
  cases h <;> simp [isNone]
theorem own_ref {i : Nat} {fp : Nat → List Addr} (s : SDf C fp σ H ρ τ an) (e : ∃ b, ρ[i]? = some (some b) ∧ ∀ x, b ≠ .d x) (hv : σ[i]? = some (some v)) : v ≠ .non := by
  obtain ⟨b, e, n⟩ := e
  obtain ⟨w, h1, h2⟩ := s.bnd i b e
  rw [hv] at h1
  cases h1
  cases b with
  | d x => exact absurd rfl (n x)
  | r xs =>
    obtain ⟨_, a, vs, rfl, _⟩ := h2
    exact fun z => by cases z
  | l xs =>
    obtain ⟨a, vs, rfl, _⟩ := h2
    exact fun z => by cases z
  | m xs =>
    obtain ⟨a, vs, rfl, _⟩ := h2
    exact fun z => by cases z
  | t c m =>
    obtain ⟨a, vs, rfl, _⟩ := h2
    exact fun z => by cases z
  | s ns =>
    obtain ⟨_, a, rfl, _⟩ := h2
    exact fun z => by cases z
/-- e is None, e data -/
def isNd (f : FE) : FE := fun ρ => match f ρ with
  | some (.d x, ρ') => some (.d (.bool (isNone x)), ρ')
  | _ => none
def isnNd (f : FE) : FE := fun ρ => match f ρ with
  | some (.d x, ρ') => some (.d (.bool (!isNone x)), ρ')
  | _ => none
theorem imp_isN {f : FE} {Q : VK} (h : tE C (isNd f) σ H Q) : tIsN (tE C f) σ H Q := by
  obtain ⟨ρ, τ, an, r, ρ', S, e, q⟩ := h
  unfold isNd at e
  split at e
  · rename_i x ρ1 e1
    cases e
    refine ⟨ρ, τ, an, _, _, S, e1, fun v H' S' => ?_⟩
    dsimp only
    rw [non_iff S'.here]
    exact q _ H' (S'.pop.push fun _ _ => .bl _)
  · cases e
theorem imp_isnN {f : FE} {Q : VK} (h : tE C (isnNd f) σ H Q) : tNotN (tE C f) σ H Q := by
  obtain ⟨ρ, τ, an, r, ρ', S, e, q⟩ := h
  unfold isnNd at e
  split at e
  · rename_i x ρ1 e1
    cases e
    refine ⟨ρ, τ, an, _, _, S, e1, fun v H' S' => ?_⟩
    dsimp only
    rw [non_iff S'.here]
    exact q _ H' (S'.pop.push fun _ _ => .bl _)
  · cases e
theorem de_isN {j : Nat} {p : Pos} (ha : PE X a (tE C fe)) : PE X (.Compare a [.Is] [.Constant .none j p] pos) (tE C (isNd fe)) := (pe_cmp (pc_isN ha)).dl fun _ _ _ h => imp_isN h
theorem de_isnN {j : Nat} {p : Pos} (ha : PE X a (tE C fe)) : PE X (.Compare a [.IsNot] [.Constant .none j p] pos) (tE C (isnNd fe)) := (pe_cmp (pc_notN ha)).dl fun _ _ _ h => imp_isnN h
theorem dt_isN {j : Nat} {p : Pos} (ha : PE X a (tE C fe)) : PT X (.Compare a [.Is] [.Constant .none j p] pos) (tT C (toT (isNd fe))) := (pt_cmp (pc_isN ha)).dl fun _ _ _ h => imp_isN (imp_test h)
theorem dt_isnN {j : Nat} {p : Pos} (ha : PE X a (tE C fe)) : PT X (.Compare a [.IsNot] [.Constant .none j p] pos) (tT C (toT (isnNd fe))) := (pt_cmp (pc_notN ha)).dl fun _ _ _ h => imp_isnN (imp_test h)

/-! ### a op b op c -/
def chE (g g' : R → R → Rho → Option R) (f1 f2 f3 : FE) : FE := fun ρ => (f1 ρ).bind fun p => (f2 p.2).bind fun q => (g p.1 q.1 q.2).bind fun z => match z with
  | .d (.bool true) => (f3 q.2).bind fun w => (g' q.1 w.1 w.2).map fun u => (u, w.2)
  | .d (.bool false) => some (.d (.bool false), q.2)
  | _ => none
theorem imp_ch {g g' : R → R → Rho → Option R} {f1 f2 f3 : FE} {Q : VK} (h : tE C (chE g g' f1 f2 f3) σ H Q) : tChain (rG C g) (rG C g') (tE C f1) (tE C f2) (tE C f3) σ H Q := by
  obtain ⟨ρ, τ, an, r, ρ', S, e, q⟩ := h
  unfold chE at e
  cases e1 : f1 ρ with
  | none => simp [e1] at e
  | some p =>
    obtain ⟨a1, ρ1⟩ := p
    cases e2 : f2 ρ1 with
    | none => simp [e1, e2] at e
    | some p =>
      obtain ⟨a2, ρ2⟩ := p
      cases e3 : g a1 a2 ρ2 with
      | none => simp [e1, e2, e3] at e
      | some z0 =>
        simp only [e1, e2, e3, Option.bind_some] at e
        refine ⟨ρ, τ, an, a1, ρ1, S, e1, fun x H1 S1 => ⟨ρ1, _, an, a2, ρ2, S1, e2, fun y H2 S2 => ?_⟩⟩
        refine ⟨σ, ρ2, (y, a2) :: τ, an, a1, a2, z0, S2.sub fun p hp => ?_, e3, fun w H3 S3 => ?_⟩
        · rcases List.mem_cons.mp hp with rfl | hp
          · exact List.mem_cons_self
          · rcases List.mem_cons.mp hp with rfl | hp
            · exact List.mem_cons_of_mem _ List.mem_cons_self
            · rcases List.mem_cons.mp hp with rfl | hp
              · exact List.mem_cons_self
              · exact List.mem_cons_of_mem _ (List.mem_cons_of_mem _ hp)
        · split at e
          · refine ⟨true, S3.here.bool_inv, ?_⟩
            cases e4 : f3 ρ2 with
            | none => simp [e4] at e
            | some p =>
              obtain ⟨a3, ρ3⟩ := p
              cases e5 : g' a2 a3 ρ3 with
              | none => simp [e4, e5] at e
              | some u =>
                simp [e4, e5] at e
                obtain ⟨rfl, rfl⟩ := e
                show tE C f3 σ H3 fun w' H4 => rG C g' y w' H4 Q
                refine ⟨ρ2, _, an, a3, _, S3.pop, e4, fun w' H4 S4 => ?_⟩
                exact ⟨σ, _, τ, an, a2, a3, _, S4, e5, q⟩
          · refine ⟨false, S3.here.bool_inv, ?_⟩
            cases e
            show Q (.bl false) H3
            exact q _ H3 (S3.pop2.push fun _ _ => .bl false)
          · cases e
theorem de_ch {op op' : CmpOp} {g g' : R → R → Rho → Option R} (ho : OpR X (compareOp op) (rG C g)) (ho' : OpR X (compareOp op') (rG C g')) (ha : PE X a (tE C fe)) (hb : PE X b (tE C ge)) (hc : PE X c (tE C he))
    (hm : lastMarks [op, op'] [b, c] = false := by with_unfolding_all rfl) : PE X (.Compare a [op, op'] [b, c] pos) (tE C (chE g g' fe ge he)) := (pe_chain ho ho' ha hb hc hm).dl fun _ _ _ h => imp_ch h
theorem dt_ch {op op' : CmpOp} {g g' : R → R → Rho → Option R} (ho : OpR X (compareOp op) (rG C g)) (ho' : OpR X (compareOp op') (rG C g')) (ha : PE X a (tE C fe)) (hb : PE X b (tE C ge)) (hc : PE X c (tE C he))
    (hm : lastMarks [op, op'] [b, c] = false := by with_unfolding_all rfl) : PT X (.Compare a [op, op'] [b, c] pos) (tT C (toT (chE g g' fe ge he))) := (pt_chain ho ho' ha hb hc hm).dl fun _ _ _ h => imp_ch (imp_test h)
end
end
end DL
namespace DL
open PySem L2

inductive Out where
  | next (ρ : Rho)
  | ret (d : D) (ρ : Rho)
  | brk (ρ : Rho)
  | cont (ρ : Rho)
abbrev FS := Rho → Option Out
def OutOk (C : Fr) (τ : List (V × R)) (an : List (Addr × HO)) (G : Ends) : Out → Prop
  | .next ρ => ∀ σ H, SD C σ H ρ τ an → G.nx σ H
  | .ret d ρ => ∀ v σ H, SD C σ H ρ ((v, .d d) :: τ) an → G.rt v H
  | .brk ρ => ∀ σ H, SD C σ H ρ τ an → G.bk σ H
  | .cont ρ => ∀ σ H, SD C σ H ρ τ an → G.ct σ H
def tS (C : Fr) (f : FS) : TS := fun G σ H => ∃ ρ τ an o, AllD τ ∧ SD C σ H ρ τ an ∧ f ρ = some o ∧ OutOk C τ an G o
theorem _root_.L2.PS.dl {X : Cx} {st : Stmt} {t t' : TS} (h : PS X st t) (k : ∀ G σ H, t' G σ H → t G σ H) : PS X st t' := ⟨fun pins s σ H G I q => h.run pins s σ H G I (k G σ H q)⟩
theorem _root_.L2.PSs.dl {X : Cx} {st : List Stmt} {t t' : TS} (h : PSs X st t) (k : ∀ G σ H, t' G σ H → t G σ H) : PSs X st t' := ⟨fun pins s σ H G I q => h.run pins s σ H G I (k G σ H q)⟩
theorem AllD.cons {τ : List (V × R)} {v : V} {x : D} (h : AllD τ) : AllD ((v, .d x) :: τ) := fun p hp => by
  rcases List.mem_cons.mp hp with rfl | hp
  · exact fun i z => nomatch z
  · exact h p hp
theorem AllD.tz {vs : List V} {xs : List D} : AllD (tz vs xs) := fun p hp => by
  obtain ⟨i, v, x, _, _, rfl⟩ := of_tz hp
  exact fun i z => nomatch z
theorem AllD.app {τ τ' : List (V × R)} (h : AllD τ) (h' : AllD τ') : AllD (τ ++ τ') := fun p hp => (List.mem_append.mp hp).elim (h p) (h' p)
theorem AllD.nil : AllD [] := fun p hp => by cases hp

section
variable {C : Fr} {X : Cx} {σ : L2.St} {H : Hp} {ρ ρ' : Rho} {τ : List (V × R)} {an : List (Addr × HO)} {v : V} {r : R} {x y z : D} {G : Ends}

/-! ### blocks -/
def sNil : FS := fun ρ => some (.next ρ)
def sSeq (f g : FS) : FS := fun ρ => (f ρ).bind fun o => match o with
  | .next ρ' => g ρ'
  | o => some o
theorem dss_nil : PSs X [] (tS C sNil) := pss_nil.dl fun G σ H h => by
  obtain ⟨ρ, τ, an, o, ad, S, e, k⟩ := h
  cases e
  exact k σ H S
theorem dss_cons {st : Stmt} {rest : List Stmt} {f g : FS} (h1 : PS X st (tS C f)) (h2 : PSs X rest (tS C g)) : PSs X (st :: rest) (tS C (sSeq f g)) := (pss_cons h1 h2).dl fun G σ H h => by
  obtain ⟨ρ, τ, an, o, ad, S, e, k⟩ := h
  unfold sSeq at e
  cases e1 : f ρ with
  | none => simp [e1] at e
  | some o1 =>
    simp only [e1, Option.bind_some] at e
    refine ⟨ρ, τ, an, o1, ad, S, e1, ?_⟩
    cases o1 with
    | next ρ1 => exact fun σ' H' S' => ⟨ρ1, τ, an, o, ad, S', e, k⟩
    | ret d ρ1 =>
      cases e
      exact k
    | brk ρ1 =>
      cases e
      exact k
    | cont ρ1 =>
      cases e
      exact k
theorem dss_one {st : Stmt} {f : FS} (h1 : PS X st (tS C f)) : PSs X [st] (tS C f) := pss_one h1
def sDead : FS := fun _ => none
theorem ds_dead {st : Stmt} : PS X st (tS C sDead) := ps_never.dl fun G σ H h => by
  obtain ⟨ρ, τ, an, o, ad, S, e, k⟩ := h
  cases e
def sBrk : FS := fun ρ => some (.brk ρ)
def sCont : FS := fun ρ => some (.cont ρ)
theorem ds_break {pos : Pos} : PS X (.Break pos) (tS C sBrk) := ps_break.dl fun G σ H h => by
  obtain ⟨ρ, τ, an, o, ad, S, e, k⟩ := h
  cases e
  exact k σ H S
theorem ds_cont {pos : Pos} : PS X (.Continue pos) (tS C sCont) := ps_continue.dl fun G σ H h => by
  obtain ⟨ρ, τ, an, o, ad, S, e, k⟩ := h
  cases e
  exact k σ H S
theorem ds_pass {pos : Pos} : PS X (.Pass pos) (tS C sNil) := ps_pass.dl fun G σ H h => by
  obtain ⟨ρ, τ, an, o, ad, S, e, k⟩ := h
  cases e
  exact k σ H S

/-! ### return, if, an expression -/
/-- the data of a result, an own list let go -/
def out1 (r : R) (ρ : Rho) : Option (D × Rho) := match r with
  | .d x => some (x, ρ)
  | .w _ => none
  | .own i => match ρ[i]? with
    | some (some (.l xs)) => some (.list xs, rel i ρ)
    | _ => none
theorem out1_ok (S : SD C σ H ρ ((v, r) :: τ) an) (e : out1 r ρ = some (x, ρ')) : SD C σ H ρ' ((v, .d x) :: τ) an := by
  unfold out1 at e
  split at e
  · cases e
    exact S
  · cases e
  · rename_i i
    split at e
    · rename_i xs e0
      cases e
      have S1 := S.rel i
      have e1 : (rel i ρ)[i]? = some (some (.d (.list xs))) := by
        unfold rel
        rw [e0]
        simp only
        rw [List.getElem?_set_self (List.getElem?_eq_some_iff.mp e0).1]
      obtain ⟨fp, s⟩ := S1
      have hv : σ[i]? = some (some v) := s.tmp _ List.mem_cons_self
      obtain ⟨w, h1, h2, h3⟩ := s.bnd i _ e1
      rw [hv] at h1
      cases h1
      refine ⟨fp, s.tmps fun p hp => ?_⟩
      rcases List.mem_cons.mp hp with rfl | hp
      · exact h3
      · exact s.tmp p (List.mem_cons_of_mem _ hp)
    · cases e
def sRet (f : FE) : FS := fun ρ => (f ρ).bind fun p => (out1 p.1 p.2).map fun q => .ret q.1 q.2
theorem ds_ret {e : Expr} {f : FE} {pos : Pos} (he : PE X e (tE C f)) : PS X (.Return (some e) pos) (tS C (sRet f)) := (ps_ret he).dl fun G σ H h => by
  obtain ⟨ρ, τ, an, o, ad, S, e, k⟩ := h
  unfold sRet at e
  cases e1 : f ρ with
  | none => simp [e1] at e
  | some p =>
    obtain ⟨r, ρ1⟩ := p
    cases e2 : out1 r ρ1 with
    | none => simp [e1, e2] at e
    | some q =>
      simp [e1, e2] at e
      subst e
      exact ⟨ρ, τ, an, r, ρ1, S, e1, fun v H' S' => k v σ H' (out1_ok S' e2)⟩
def sRetN : FS := fun ρ => some (.ret .none ρ)
theorem ds_retN {pos : Pos} : PS X (.Return none pos) (tS C sRetN) := ps_retN.dl fun G σ H h => by
  obtain ⟨ρ, τ, an, o, ad, S, e, k⟩ := h
  cases e
  exact k .non σ H (S.push fun _ _ => .non)
def sIf (c : FT) (f g : FS) : FS := fun ρ => (c ρ).bind fun p => if p.1 = true then f p.2 else g p.2
theorem ds_if {c : Expr} {a b : List Stmt} {fc : FT} {f g : FS} {pos : Pos} (hc : PT X c (tT C fc)) (ha : PSs X a (tS C f)) (hb : PSs X b (tS C g)) : PS X (.If c a b pos) (tS C (sIf fc f g)) := (ps_if hc ha hb).dl fun G σ H h => by
  obtain ⟨ρ, τ, an, o, ad, S, e, k⟩ := h
  unfold sIf at e
  cases e1 : fc ρ with
  | none => simp [e1] at e
  | some p =>
    obtain ⟨b, ρ1⟩ := p
    simp only [e1, Option.bind_some] at e
    refine ⟨ρ, τ, an, b, ρ1, S, e1, fun H1 S1 => ?_⟩
    cases b with
    | true =>
      rw [if_pos rfl] at e
      show tS C f G σ H1
      exact ⟨ρ1, τ, an, o, ad, S1, e, k⟩
    | false =>
      rw [if_neg Bool.false_ne_true] at e
      show tS C g G σ H1
      exact ⟨ρ1, τ, an, o, ad, S1, e, k⟩
def sDrop (f : FE) : FS := fun ρ => (f ρ).map fun p => .next p.2
theorem ds_expr {e : Expr} {f : FE} {pos : Pos} (he : PE X e (tE C f)) (hs : swapsWith e none pos.line X.env = pure false := by rfl) : PS X (.Expr e pos) (tS C (sDrop f)) := (ps_expr he hs).dl fun G σ H h => by
  obtain ⟨ρ, τ, an, o, ad, S, e, k⟩ := h
  unfold sDrop at e
  cases e1 : f ρ with
  | none => simp [e1] at e
  | some p =>
    obtain ⟨r, ρ1⟩ := p
    simp [e1] at e
    subst e
    exact ⟨ρ, τ, an, r, ρ1, S, e1, fun v H' S' => k σ H' S'.pop⟩

/-! ### targets -/
abbrev FG := R → Rho → Option Rho
/-- a target, told which slots it writes -/
def tG (C : Fr) (ws : List Nat) (g : FG) : TG := fun v σ H Q => ∃ ρ τ an x ρ', AllD τ ∧ SD C σ H ρ ((v, x) :: τ) an ∧ g x ρ = some ρ' ∧ ∀ σ' H', σ'.length = σ.length → (∀ j, j ∉ ws → σ'[j]? = σ[j]?) → SD C σ' H' ρ' τ an → Q σ' H'
def tGs (C : Fr) (ws : List Nat) (g : List D → Rho → Option Rho) : TGs := fun vs σ H Q => ∃ ρ τ an xs ρ', AllD τ ∧ vs.length = xs.length ∧ SD C σ H ρ (tz vs xs ++ τ) an ∧ g xs ρ = some ρ' ∧ ∀ σ' H', σ'.length = σ.length → (∀ j, j ∉ ws → σ'[j]? = σ[j]?) → SD C σ' H' ρ' τ an → Q σ' H'
theorem _root_.L2.PG.dl {X : Cx} {e : Expr} {t t' : TG} (h : PG X e t) (k : ∀ v σ H Q, t' v σ H Q → t v σ H Q) : PG X e t' := ⟨fun pins s σ H v u Q I r q => h.run pins s σ H v u Q I r (k v σ H Q q)⟩
theorem _root_.L2.PGs.dl {X : Cx} {e : List Expr} {t t' : TGs} (h : PGs X e t) (k : ∀ v σ H Q, t' v σ H Q → t v σ H Q) : PGs X e t' := ⟨fun pins s σ H v u Q I r q => h.run pins s σ H v u Q I r (k v σ H Q q)⟩
def put (i : Nat) (r : R) (ρ : Rho) : Option Rho := match r with
  | .d x => if i < ρ.length then some (ρ.set i (some (.d x))) else none
  | _ => none
theorem dg_name {i : Nat} {n : Str} {pos : Pos} (hN : X.N.Nodup) (hi : X.N[i]? = some n) (hx : Loc X.env.scope n) (hf : X.fn n = true ∨ X.env.scope.names.lookup n = some .local := by first | exact .inl rfl | exact .inr rfl | assumption) : PG X (.Name n pos) (tG C [i] (put i)) :=
  (pg_name hN hi hx hf).dl fun v σ H Q h => by
    obtain ⟨ρ, τ, an, x, ρ', ad, S, e, q⟩ := h
    unfold put at e
    split at e
    · split at e
      · rename_i hr
        cases e
        exact q _ H (by simp) (fun j hj => by rw [List.getElem?_set_ne (fun z => hj (by simp [z]))]) (S.store ad hr)
      · cases e
    · cases e
def gN : List D → Rho → Option Rho
  | [], ρ => some ρ
  | _, _ => none
def gC (g : FG) (gs : List D → Rho → Option Rho) : List D → Rho → Option Rho
  | x :: xs, ρ => (g (.d x) ρ).bind fun ρ1 => gs xs ρ1
  | [], _ => none
theorem dgs_nil : PGs X [] (tGs C [] gN) := pgs_nil.dl fun vs σ H Q h => by
  obtain ⟨ρ, τ, an, xs, ρ', ad, hl, S, e, q⟩ := h
  unfold gN at e
  split at e
  · cases e
    have ev : vs = [] := List.length_eq_zero_iff.mp hl
    subst ev
    exact ⟨rfl, q σ H rfl (fun _ _ => rfl) S⟩
  · cases e
theorem dgs_cons {e : Expr} {es : List Expr} {w1 w2 : List Nat} {g : FG} {gs : List D → Rho → Option Rho} (h1 : PG X e (tG C w1 g)) (h2 : PGs X es (tGs C w2 gs))
    (hs : (assignEach (e :: es) X.env).map (·.2) = assign e X.env :: (assignEach es X.env).map (·.2) := by rfl) : PGs X (e :: es) (tGs C (w1 ++ w2) (gC g gs)) := (pgs_cons h1 h2 hs).dl fun vs σ H Q h => by
  obtain ⟨ρ, τ, an, xs, ρ', ad, hl, S, e, q⟩ := h
  cases xs with
  | nil => cases e
  | cons x xs =>
    cases vs with
    | nil => simp at hl
    | cons v vs =>
      unfold gC at e
      cases e1 : g (.d x) ρ with
      | none => simp [e1] at e
      | some ρ1 =>
        simp only [e1, Option.bind_some] at e
        refine ⟨v, vs, rfl, ρ, tz vs xs ++ τ, an, .d x, ρ1, AllD.tz.app ad, S, e1, fun σ1 H1 l1 k1 S1 => ?_⟩
        refine ⟨ρ1, τ, an, xs, ρ', ad, by simpa using hl, S1, e, fun σ2 H2 l2 k2 S2 => q σ2 H2 (l2.trans l1) (fun j hj => ?_) S2⟩
        rw [k2 j fun z => hj (List.mem_append_right _ z), k1 j fun z => hj (List.mem_append_left _ z)]
def gT (n : Nat) (gs : List D → Rho → Option Rho) : FG := fun x ρ => match x with
  | .d (.tuple xs) => if xs.length = n then gs xs ρ else none
  | .w xs => if xs.length = n then gs xs ρ else none
  | _ => none
theorem dg_tup {es : List Expr} {k n : Nat} {w : List Nat} {gs : List D → Rho → Option Rho} {pos : Pos} (hK : C.K = X.K) (hc : X.calm = true) (h : PGs X es (tGs C w gs))
    (hn : (assignEach es X.env).length = n := by rfl) (hst : (assignEach es X.env).findIdx? (·.1) = none := by rfl) : PG X (.Tuple es k pos) (tG C w (gT n gs)) := (pg_tup hc h hn hst).dl fun v σ H Q h => by
  obtain ⟨ρ, τ, an, x, ρ', ad, S, e, q⟩ := h
  unfold gT at e
  split at e
  · rename_i xs
    split at e
    · rename_i hl
      obtain ⟨a, vs, rfl, t1, l1, S1⟩ := S.itemsT List.mem_cons_self (xs := xs) rfl
      refine ⟨a, vs, rfl, t1.sq, by omega, ρ, τ, an, xs, ρ', ad, l1, S1.sub fun p hp => ?_, e, q⟩
      rcases List.mem_append.mp hp with hp | hp
      · exact List.mem_append_left _ hp
      · exact List.mem_append_right _ (List.mem_cons_of_mem _ hp)
    · cases e
  · rename_i xs
    split at e
    · rename_i hl
      obtain ⟨fp, s⟩ := S
      obtain ⟨a, vs, h1, h2, h3⟩ := s.tmp _ List.mem_cons_self
      have h1 : v = .ref a := h1
      subst h1
      have t1 := (msk_le _ _).sqt h2
      rw [hK] at t1
      refine ⟨a, vs, rfl, t1, by rw [h3.1]; exact hl, ρ, τ, an, xs, ρ', ad, h3.1, ⟨fp, s.tmps fun p hp => ?_⟩, e, q⟩
      rcases List.mem_append.mp hp with hp | hp
      · obtain ⟨i, w, y, a, b, rfl⟩ := of_tz hp
        exact h3.2 i w y a b
      · exact s.tmp p (List.mem_cons_of_mem _ hp)
    · cases e
  · cases e

/-! ### assignments -/
def sAsg (f : FE) (g : FG) : FS := fun ρ => (f ρ).bind fun p => (out1 p.1 p.2).bind fun q => (g (.d q.1) q.2).map Out.next
theorem imp_asg {f : FE} {g : FG} {ws : List Nat} (h : tS C (sAsg f g) G σ H) : tAsg (tE C f) (tG C ws g) G σ H := by
  obtain ⟨ρ, τ, an, o, ad, S, e, k⟩ := h
  unfold sAsg at e
  cases e1 : f ρ with
  | none => simp [e1] at e
  | some p =>
    obtain ⟨r, ρ1⟩ := p
    cases e2 : out1 r ρ1 with
    | none => simp [e1, e2] at e
    | some q =>
      obtain ⟨x, ρ2⟩ := q
      cases e3 : g (.d x) ρ2 with
      | none => simp [e1, e2, e3] at e
      | some ρ3 =>
        simp [e1, e2, e3] at e
        subst e
        exact ⟨ρ, τ, an, r, ρ1, S, e1, fun v H' S' => ⟨ρ2, τ, an, .d x, ρ3, ad, out1_ok S' e2, e3, fun σ' H2 _ _ S2 => k σ' H2 S2⟩⟩
theorem ds_asg {tg e : Expr} {f : FE} {ws : List Nat} {g : FG} {pos : Pos} (he : PE X e (tE C f)) (hg : PG X tg (tG C ws g)) (hs : swapsWithSole [tg] e pos.line X.env = pure false := by rfl) (hw : swappedStores [tg] e X.env = pure none := by rfl)
    (h1 : (assignEach [tg] X.env).map (·.2) = [assign tg X.env] := by rfl) : PS X (.Assign [tg] e pos) (tS C (sAsg f g)) := (ps_asg he hg hs hw h1).dl fun _ _ _ h => imp_asg h
/-- name = e -/
theorem ds_set {i : Nat} {n : Str} {e : Expr} {f : FE} {pos pos' : Pos} (hN : X.N.Nodup) (hi : X.N[i]? = some n) (hx : Loc X.env.scope n) (he : PE X e (tE C f)) (hs : swapsWith e (some (.Name n pos')) pos.line X.env = pure false := by rfl) (hf : X.fn n = true ∨ X.env.scope.names.lookup n = some .local := by first | exact .inl rfl | exact .inr rfl | assumption) :
    PS X (.Assign [.Name n pos'] e pos) (tS C (sAsg f (put i))) := (ps_set hN hi hx he hs hf).dl fun G σ H h => by
  obtain ⟨ρ, τ, an, o, ad, S, e, k⟩ := h
  unfold sAsg at e
  cases e1 : f ρ with
  | none => simp [e1] at e
  | some p =>
    obtain ⟨r, ρ1⟩ := p
    cases e2 : out1 r ρ1 with
    | none => simp [e1, e2] at e
    | some q =>
      obtain ⟨x, ρ2⟩ := q
      cases e3 : put i (.d x) ρ2 with
      | none => simp [e1, e2, e3] at e
      | some ρ3 =>
        simp [e1, e2, e3] at e
        subst e
        refine ⟨ρ, τ, an, r, ρ1, S, e1, fun v H' S' => ?_⟩
        unfold put at e3
        simp only at e3
        split at e3
        · rename_i hr
          cases e3
          exact k _ H' ((out1_ok S' e2).store ad hr)
        · cases e3
/-- name = a new list of one's own -/
def sOwn (i : Nat) (f : FF) : FS := fun ρ => (f ρ).bind fun p => if i < p.2.length then some (.next (p.2.set i (some (.l p.1)))) else none
theorem imp_own {i : Nat} {f : FF} (h : tS C (sOwn i f) G σ H) : tF C f σ H fun v H' => G.nx (σ.set i (some v)) H' := by
  obtain ⟨ρ, τ, an, o, ad, S, e, k⟩ := h
  unfold sOwn at e
  cases e1 : f ρ with
  | none => simp [e1] at e
  | some p =>
    obtain ⟨xs, ρ1⟩ := p
    simp only [e1, Option.bind_some] at e
    split at e
    · rename_i hr
      cases e
      refine ⟨ρ, τ, an, xs, ρ1, S, e1, fun p vs H' hl S' => k _ H' ?_⟩
      have S2 := S'.storeL hl (fun i v x a b => List.mem_append_left _ (mem_tz a b)) (AllD.tz.app ad) hr
      exact S2.sub fun p hp => List.mem_append_right _ hp
    · cases e
theorem ds_own {i : Nat} {n : Str} {e : Expr} {f : FF} {pos pos' : Pos} (hN : X.N.Nodup) (hi : X.N[i]? = some n) (hx : Loc X.env.scope n) (he : PE X e (tF C f)) (hs : swapsWith e (some (.Name n pos')) pos.line X.env = pure false := by rfl) (hf : X.fn n = true ∨ X.env.scope.names.lookup n = some .local := by first | exact .inl rfl | exact .inr rfl | assumption) :
    PS X (.Assign [.Name n pos'] e pos) (tS C (sOwn i f)) := (ps_set hN hi hx he hs hf).dl fun G σ H h => imp_own h

/-! ### an own list grows -/
def ownAt (i : Nat) (ρ : Rho) : Option (List D) := match ρ[i]? with
  | some (some (.l xs)) => some xs
  | _ => none
theorem ownAt_inv {i : Nat} {xs : List D} (h : ownAt i ρ = some xs) : ρ[i]? = some (some (.l xs)) := by
  unfold ownAt at h
  split at h
  · rename_i ys e
    cases h
    exact e
  · cases h
/-- slot i's list is made another -/
theorem SD.relist (S : SD C σ H ρ τ an) {i : Nat} {xs ys : List D} {vs ws : List V} {a : Addr} (e : ρ[i]? = some (some (.l xs))) (hv : σ[i]? = some (some (.ref a))) (hl : ws.length = ys.length) (hm : ∀ (j : Nat) v x, ws[j]? = some v → ys[j]? = some x → (v, .d x) ∈ τ) :
    SD C σ (upd H a (.lst ws)) (ρ.set i (some (.l ys))) τ an := by
  obtain ⟨fp, s⟩ := S
  obtain ⟨v, h1, a', us, h2, h3, h4, h5, h6⟩ := s.bnd i _ e
  rw [hv] at h1
  cases h1
  cases h2
  refine ⟨fp, s.chg hv (fun b o hb q => ?_) (fun b hb => ?_) ⟨_, e⟩ fun m => ⟨a, ws, rfl, h3, h4, upd_same, hl, fun j w y p q => Dn.mono m (s.tmp _ (hm j w y p q))⟩⟩
  · rw [upd_ne (fun z => hb (by rw [h3, z]; exact List.mem_singleton.mpr rfl))]
    exact q
  · rw [h3] at hb
    have := List.mem_singleton.mp hb
    subst this
    exact ⟨_, upd_same, trivial⟩
theorem SD.ownList (S : SD C σ H ρ τ an) {i : Nat} {xs : List D} (e : ρ[i]? = some (some (.l xs))) (hv : σ[i]? = some (some v)) : ∃ a vs, v = .ref a ∧ H a = some (.lst vs) ∧ vs.length = xs.length ∧ SD C σ H ρ (tz vs xs ++ τ) an := by
  obtain ⟨fp, s⟩ := S
  obtain ⟨v', h1, a, vs, h2, h3, h4, h5, h6⟩ := s.bnd i _ e
  rw [hv] at h1
  cases h1
  subst h2
  refine ⟨a, vs, rfl, h5, h6.1, ⟨fp, s.tmps fun p hp => ?_⟩⟩
  rcases List.mem_append.mp hp with hp | hp
  · obtain ⟨i, w, y, a, b, rfl⟩ := of_tz hp
    exact h6.2 i w y a b
  · exact s.tmp p hp
/-- x.append(e) -/
def sApp (i : Nat) (f : FE) : FS := fun ρ => (ownAt i ρ).bind fun _ => (f ρ).bind fun p => (out1 p.1 p.2).bind fun q => (ownAt i q.2).bind fun xs => if xs.length < sizeLine then some (.next (q.2.set i (some (.l (xs ++ [q.1]))))) else none
theorem imp_app {K : PySem.W.Frag} {i : Nat} {f : FE} (h : tS C (sApp i f) G σ H) : tDrop (tBM K "list" rAppend (tVar i) (tCons (tE C f) tNil)) G σ H := by
  obtain ⟨ρ, τ, an, o, ad, S, e, k⟩ := h
  unfold sApp at e
  cases e0 : ownAt i ρ with
  | none => simp [e0] at e
  | some ys =>
    cases e1 : f ρ with
    | none => simp [e0, e1] at e
    | some p =>
      obtain ⟨r, ρ1⟩ := p
      cases e2 : out1 r ρ1 with
      | none => simp [e0, e1, e2] at e
      | some q =>
        obtain ⟨x, ρ2⟩ := q
        cases e3 : ownAt i ρ2 with
        | none => simp [e0, e1, e2, e3] at e
        | some xs =>
          simp only [e0, e1, e2, e3, Option.bind_some] at e
          split at e
          · rename_i hz
            cases e
            obtain ⟨fp, s⟩ := id S
            obtain ⟨v, hv, _⟩ := s.bnd i _ (ownAt_inv e0)
            obtain ⟨a, us, rfl, h1, h2, _⟩ := S.ownList (ownAt_inv e0) hv
            refine ⟨_, hv, Or.inl ⟨rfl, us, Or.inl (Or.inl h1)⟩, ρ, τ, an, r, ρ1, S, e1, fun w H1 S1 => ?_⟩
            have S2 := out1_ok S1 e2
            obtain ⟨a', vs, ea, h3, h4, S3⟩ := S2.ownList (ownAt_inv e3) hv
            cases ea
            refine ⟨a, vs, w, rfl, rfl, h3, by omega, k σ _ ?_⟩
            have S4 := S3.relist (ws := vs ++ [w]) (ys := xs ++ [x]) (vs := vs) (ownAt_inv e3) hv (by simp [h4]) fun j v y a b => ?_
            · exact S4.sub fun p hp => List.mem_append_right _ (List.mem_cons_of_mem _ hp)
            · by_cases hj : j < vs.length
              · rw [List.getElem?_append_left hj] at a
                rw [List.getElem?_append_left (by omega)] at b
                exact List.mem_append_left _ (mem_tz a b)
              · rw [List.getElem?_append_right (by omega)] at a
                rw [List.getElem?_append_right (by omega), ← h4] at b
                have hj2 : j - vs.length = 0 := by
                  have := (List.getElem?_eq_some_iff.mp a).1
                  simp at this
                  omega
                rw [hj2] at a b
                simp at a b
                subst a
                subst b
                exact List.mem_append_right _ List.mem_cons_self
          · cases e
theorem ds_app {i : Nat} {n : Str} {e : Expr} {f : FE} {p apos cpos pos : Pos} (hn : PE X (.Name n p) (tVar i)) (he : PE X e (tE C f)) (hsw : swapsWith (.Call (.Attribute (.Name n p) "append" apos) [e] [] cpos) none pos.line X.env = pure false := by rfl)
    (hbase : attributeBase (.Name n p) "append" X.env (eval (.Name n p) X.env) = eval (.Name n p) X.env := by rfl)
    (hfew : ((backTo cpos (starEach [e] X.env)).all (fun x => !x.1) && (backToKw cpos (keywordEach [] X.env)).all (fun x => x.1.isSome) && decide (([e] : List Expr).length + ([] : List Keyword).length + (if ([] : List Keyword).isEmpty then 0 else 1) < 30)) = true := by rfl)
    (hline : (apos.endLine == cpos.line) = true := by rfl) (hs : starEach [e] X.env = (false, eval e X.env) :: starEach [] X.env := by rfl) (hplain : (backTo cpos (starEach [] X.env)).any (·.1) = false := by rfl) :
    PS X (.Expr (.Call (.Attribute (.Name n p) "append" apos) [e] [] cpos) pos) (tS C (sApp i f)) :=
  (ps_expr (pe_bm PySem.F.plainAttrs_list PySem.F.slot_list_append PySem.F.type_list_append mt_append hn (pa_cons he pa_nil hs) hbase hfew hline hs hplain) hsw).dl fun _ _ _ h => imp_app h
/-- x.extend(e) -/
def sExt (i : Nat) (f : FE) : FS := fun ρ => (ownAt i ρ).bind fun _ => (f ρ).bind fun p => match p.1 with
  | .d (.list zs) => (ownAt i p.2).bind fun xs => if xs.length + zs.length ≤ sizeLine then some (.next (p.2.set i (some (.l (xs ++ zs))))) else none
  | _ => none
theorem imp_ext {K : PySem.W.Frag} {i : Nat} {f : FE} (h : tS C (sExt i f) G σ H) : tDrop (tBM K "list" rExtend (tVar i) (tCons (tE C f) tNil)) G σ H := by
  obtain ⟨ρ, τ, an, o, ad, S, e, k⟩ := h
  unfold sExt at e
  cases e0 : ownAt i ρ with
  | none => simp [e0] at e
  | some ys =>
    cases e1 : f ρ with
    | none => simp [e0, e1] at e
    | some p =>
      obtain ⟨r, ρ1⟩ := p
      simp only [e0, e1, Option.bind_some] at e
      split at e
      · rename_i zs
        cases e3 : ownAt i ρ1 with
        | none => simp [e3] at e
        | some xs =>
          simp only [e3, Option.bind_some] at e
          split at e
          · rename_i hz
            cases e
            obtain ⟨fp, s⟩ := id S
            obtain ⟨v, hv, _⟩ := s.bnd i _ (ownAt_inv e0)
            obtain ⟨a, us, rfl, h1, h2, _⟩ := S.ownList (ownAt_inv e0) hv
            refine ⟨_, hv, Or.inl ⟨rfl, us, Or.inl (Or.inl h1)⟩, ρ, τ, an, _, ρ1, S, e1, fun w H1 S1 => ?_⟩
            obtain ⟨b, ws, rfl, g1, g2, S2⟩ := S1.items List.mem_cons_self (xs := zs) rfl
            obtain ⟨a', vs, ea, h3, h4, S3⟩ := S2.ownList (ownAt_inv e3) hv
            cases ea
            refine ⟨a, b, vs, ws, rfl, rfl, h3, g1, by omega, k σ _ ?_⟩
            have S4 := S3.relist (ws := vs ++ ws) (ys := xs ++ zs) (vs := vs) (ownAt_inv e3) hv (by simp [h4, g2]) fun j v y a b => ?_
            · exact S4.sub fun p hp => List.mem_append_right _ (List.mem_append_right _ (List.mem_cons_of_mem _ hp))
            · rcases app_at h4 a b with h | h
              · exact List.mem_append_left _ h
              · exact List.mem_append_right _ (List.mem_append_left _ h)
          · cases e
      · cases e
theorem ds_ext {i : Nat} {n : Str} {e : Expr} {f : FE} {p apos cpos pos : Pos} (hn : PE X (.Name n p) (tVar i)) (he : PE X e (tE C f)) (hsw : swapsWith (.Call (.Attribute (.Name n p) "extend" apos) [e] [] cpos) none pos.line X.env = pure false := by rfl)
    (hbase : attributeBase (.Name n p) "extend" X.env (eval (.Name n p) X.env) = eval (.Name n p) X.env := by rfl)
    (hfew : ((backTo cpos (starEach [e] X.env)).all (fun x => !x.1) && (backToKw cpos (keywordEach [] X.env)).all (fun x => x.1.isSome) && decide (([e] : List Expr).length + ([] : List Keyword).length + (if ([] : List Keyword).isEmpty then 0 else 1) < 30)) = true := by rfl)
    (hline : (apos.endLine == cpos.line) = true := by rfl) (hs : starEach [e] X.env = (false, eval e X.env) :: starEach [] X.env := by rfl) (hplain : (backTo cpos (starEach [] X.env)).any (·.1) = false := by rfl) :
    PS X (.Expr (.Call (.Attribute (.Name n p) "extend" apos) [e] [] cpos) pos) (tS C (sExt i f)) :=
  (ps_expr (pe_bm PySem.F.plainAttrs_list PySem.F.slot_list_extend PySem.F.type_list_extend mt_extend hn (pa_cons he pa_nil hs) hbase hfew hline hs hplain) hsw).dl fun _ _ _ h => imp_ext h
/-- x.pop(e) -/
def ePop (i : Nat) (f : FE) : FE := fun ρ => (ownAt i ρ).bind fun _ => (f ρ).bind fun p => match p.1 with
  | .d (.int k) => (ownAt i p.2).bind fun xs => if 0 ≤ k ∧ k < xs.length ∧ k < 1000000 then (xs[k.toNat]?).map fun x => (.d x, p.2.set i (some (.l (xs.eraseIdx k.toNat)))) else none
  | _ => none
theorem erase_at {vs : List V} {xs : List D} (n : Nat) {j : Nat} {v : V} {x : D} (a : (vs.eraseIdx n)[j]? = some v) (b : (xs.eraseIdx n)[j]? = some x) : (v, R.d x) ∈ tz vs xs := by
  rw [List.getElem?_eraseIdx] at a b
  split at a
  · rename_i h
    rw [if_pos h] at b
    exact mem_tz a b
  · rename_i h
    rw [if_neg h] at b
    exact mem_tz a b
theorem imp_pop {K : PySem.W.Frag} {i : Nat} {f : FE} {Q : VK} (h : tE C (ePop i f) σ H Q) : tBM K "list" rPopAt (tVar i) (tCons (tE C f) tNil) σ H Q := by
  obtain ⟨ρ, τ, an, r0, ρ0, S, e, k⟩ := h
  unfold ePop at e
  cases e0 : ownAt i ρ with
  | none => simp [e0] at e
  | some ys =>
    cases e1 : f ρ with
    | none => simp [e0, e1] at e
    | some p =>
      obtain ⟨r, ρ1⟩ := p
      simp only [e0, e1, Option.bind_some] at e
      split at e
      · rename_i n
        cases e3 : ownAt i ρ1 with
        | none => simp [e3] at e
        | some xs =>
          simp only [e3, Option.bind_some] at e
          split at e
          · rename_i hz
            cases e4 : xs[n.toNat]? with
            | none => simp [e4] at e
            | some x =>
              simp [e4] at e
              obtain ⟨rfl, rfl⟩ := e
              obtain ⟨fp, s⟩ := id S
              obtain ⟨v, hv, _⟩ := s.bnd i _ (ownAt_inv e0)
              obtain ⟨a, us, rfl, h1, h2, _⟩ := S.ownList (ownAt_inv e0) hv
              refine ⟨_, hv, Or.inl ⟨rfl, us, Or.inl (Or.inl h1)⟩, ρ, τ, an, _, ρ1, S, e1, fun w H1 S1 => ?_⟩
              have ew := S1.here.int_inv
              subst ew
              obtain ⟨a', vs, ea, h3, h4, S3⟩ := S1.ownList (ownAt_inv e3) hv
              cases ea
              have hj : n.toNat < vs.length := by omega
              refine ⟨a, vs, n, n.toNat, vs[n.toNat], rfl, rfl, h3, by omega, by omega, ?_, by simp [hj], k _ _ ?_⟩
              · exact PySem.StrLaws.seqIndex_nonneg hz.1 (by omega)
              · have S4 := S3.relist (ws := vs.eraseIdx n.toNat) (ys := xs.eraseIdx n.toNat) (vs := vs) (ownAt_inv e3) hv (by rw [List.length_eraseIdx, List.length_eraseIdx, h4]) fun j v y a b => List.mem_append_left _ (erase_at _ a b)
                exact (S4.part (v := vs[n.toNat]) (x := x) (List.mem_append_left _ (mem_tz (i := n.toNat) (by simp [hj]) e4)) fun _ h => h).keepN fun p hp => List.mem_append_right _ (List.mem_cons_of_mem _ hp)
          · cases e
      · cases e
theorem de_pop {i : Nat} {n : Str} {e : Expr} {f : FE} {p apos cpos : Pos} (hn : PE X (.Name n p) (tVar i)) (he : PE X e (tE C f))
    (hbase : attributeBase (.Name n p) "pop" X.env (eval (.Name n p) X.env) = eval (.Name n p) X.env := by rfl)
    (hfew : ((backTo cpos (starEach [e] X.env)).all (fun x => !x.1) && (backToKw cpos (keywordEach [] X.env)).all (fun x => x.1.isSome) && decide (([e] : List Expr).length + ([] : List Keyword).length + (if ([] : List Keyword).isEmpty then 0 else 1) < 30)) = true := by rfl)
    (hline : (apos.endLine == cpos.line) = true := by rfl) (hs : starEach [e] X.env = (false, eval e X.env) :: starEach [] X.env := by rfl) (hplain : (backTo cpos (starEach [] X.env)).any (·.1) = false := by rfl) :
    PE X (.Call (.Attribute (.Name n p) "pop" apos) [e] [] cpos) (tE C (ePop i f)) :=
  (pe_bm PySem.F.plainAttrs_list PySem.F.slot_list_pop PySem.F.type_list_pop mt_popAt hn (pa_cons he pa_nil hs) hbase hfew hline hs hplain).dl fun _ _ _ h => imp_pop h
end
end DL
namespace DL
open PySem L2

/-- an iterator that yields these, while the temporaries τi stand -/
def ItD (C : Fr) (J : It) (rs : List R) (τi : List (V × R)) : Prop := ∀ σ H ρ τ an, SD C σ H ρ τ an → (∀ p ∈ τi, p ∈ τ) → ∀ i,
  (∀ r, rs[i]? = some r → J.go i H ∧ ∀ x H', J.yld i H x H' → SD C σ H' ρ ((x, r) :: τ) an) ∧ (i = rs.length → J.stop i H)
abbrev FI := Rho → Option (List R × Rho)
def tI (C : Fr) (f : FI) : TI := fun σ H Rr => ∃ ρ τ an rs ρ', SD C σ H ρ τ an ∧ f ρ = some (rs, ρ') ∧ ∀ J H' τi, AllD τi → SD C σ H' ρ' (τi ++ τ) an → ItD C J rs τi → Rr J H'
theorem _root_.L2.PI.dl {X : Cx} {tg e : Expr} {t t' : TI} (h : PI X tg e t) (k : ∀ σ H Q, t' σ H Q → t σ H Q) : PI X tg e t' := ⟨fun pins s σ H Q I q => h.run pins s σ H Q I (k σ H Q q)⟩

section
variable {C : Fr} {X : Cx} {σ : L2.St} {H : Hp} {ρ ρ' : Rho} {τ : List (V × R)} {an : List (Addr × HO)} {v : V} {r : R} {x y z : D} {G : Ends}

/-! ### for -/
def forD (g : FG) (f : FS) : List R → Rho → Option Out
  | [], ρ => some (.next ρ)
  | r :: rs, ρ => (g r ρ).bind fun ρ1 => (f ρ1).bind fun o => match o with
    | .next ρ2 => forD g f rs ρ2
    | .cont ρ2 => forD g f rs ρ2
    | .brk ρ2 => some (.next ρ2)
    | .ret d ρ2 => some (.ret d ρ2)
def sFor (fi : FI) (g : FG) (f : FS) : FS := fun ρ => (fi ρ).bind fun p => forD g f p.1 p.2
theorem imp_for {fi : FI} {g : FG} {f : FS} {ws : List Nat} (h : tS C (sFor fi g f) G σ H) : tFor (tI C fi) (tG C ws g) (tS C f) G σ H := by
  obtain ⟨ρ, τ, an, o, ad, S, e, k⟩ := h
  unfold sFor at e
  cases e1 : fi ρ with
  | none => simp [e1] at e
  | some p =>
    obtain ⟨rs, ρ1⟩ := p
    simp only [e1, Option.bind_some] at e
    refine ⟨ρ, τ, an, rs, ρ1, S, e1, fun J H1 τi adi S1 it => ?_⟩
    refine ⟨fun i m σ H => m = rs.length - i ∧ i ≤ rs.length ∧ ∃ ρ', forD g f (rs.drop i) ρ' = some o ∧ SD C σ H ρ' (τi ++ τ) an, ⟨_, rfl, Nat.zero_le _, ρ1, e, S1⟩, ?_⟩
    rintro i m σ2 H2 ⟨rfl, hi, ρ2, e2, S2⟩
    have It2 := it σ2 H2 ρ2 _ an S2 (fun p hp => List.mem_append_left _ hp) i
    by_cases hlt : i < rs.length
    · refine Or.inr ?_
      obtain ⟨go, yld⟩ := It2.1 rs[i] (by simp [hlt])
      rw [List.drop_eq_getElem_cons hlt] at e2
      unfold forD at e2
      cases e3 : g rs[i] ρ2 with
      | none => simp [e3] at e2
      | some ρ3 =>
        cases e4 : f ρ3 with
        | none => simp [e3, e4] at e2
        | some o1 =>
          simp only [e3, e4, Option.bind_some] at e2
          refine ⟨go, fun σ' H' => ∃ ρ', forD g f (rs.drop (i + 1)) ρ' = some o ∧ SD C σ' H' ρ' (τi ++ τ) an, fun σ' H' q => ⟨rs.length - (i + 1), by omega, rfl, hlt, q⟩, fun x H' hy => ?_⟩
          refine ⟨ρ2, τi ++ τ, an, rs[i], ρ3, adi.app ad, yld x H' hy, e3, fun σ' H'' _ _ S3 => ⟨ρ3, τi ++ τ, an, o1, adi.app ad, S3, e4, ?_⟩⟩
          cases o1 with
          | next ρ4 => exact fun σ' H' S' => ⟨ρ4, e2, S'⟩
          | cont ρ4 => exact fun σ' H' S' => ⟨ρ4, e2, S'⟩
          | brk ρ4 =>
            cases e2
            exact fun σ' H' S' => k σ' H' (S'.sub fun p hp => List.mem_append_right _ hp)
          | ret d ρ4 =>
            cases e2
            exact fun v σ' H' S' => k v σ' H' (S'.keepN fun p hp => List.mem_append_right _ hp)
    · refine Or.inl ?_
      have ei : i = rs.length := by omega
      subst ei
      rw [List.drop_length] at e2
      cases e2
      exact ⟨It2.2 rfl, k σ2 H2 (S2.sub fun p hp => List.mem_append_right _ hp)⟩
theorem ds_for {tg iter : Expr} {body : List Stmt} {fi : FI} {g : FG} {ws : List Nat} {f : FS} {pos : Pos} (hp : PassesOwn (model X.prog X.w) X.A X.env X.xe) (hc : X.calm = true) (hi : PI X tg iter (tI C fi)) (hg : PG X tg (tG C ws g)) (hb : PSs X body (tS C f))
    (hs : ∀ x, foldedSetIterable iter X.env x = pure x := by intro _; rfl) : PS X (.For tg iter body [] pos) (tS C (sFor fi g f)) := (ps_for hp hc hi hg hb hs).dl fun _ _ _ h => imp_for h

/-! ### while -/
def whileD (c : FT) (f : FS) : Nat → Rho → Option Out
  | 0, _ => none
  | n + 1, ρ => (c ρ).bind fun p => if p.1 = true then (f p.2).bind fun o => match o with
    | .next ρ2 => whileD c f n ρ2
    | .cont ρ2 => whileD c f n ρ2
    | .brk ρ2 => some (.next ρ2)
    | .ret d ρ2 => some (.ret d ρ2) else some (.next p.2)
theorem imp_while {c : FT} {f : FS} {n : Nat} (h : tS C (whileD c f n) G σ H) : tWhile (tT C c) (tS C f) G σ H := by
  obtain ⟨ρ, τ, an, o, ad, S, e, k⟩ := h
  refine ⟨fun m σ H => ∃ ρ', whileD c f m ρ' = some o ∧ SD C σ H ρ' τ an, ⟨n, ρ, e, S⟩, ?_⟩
  rintro m σ2 H2 ⟨ρ2, e2, S2⟩
  cases m with
  | zero => cases e2
  | succ m =>
    unfold whileD at e2
    cases e3 : c ρ2 with
    | none => simp [e3] at e2
    | some p =>
      obtain ⟨b, ρ3⟩ := p
      simp only [e3, Option.bind_some] at e2
      refine ⟨ρ2, τ, an, b, ρ3, S2, e3, fun H3 S3 => ?_⟩
      cases b with
      | false =>
        rw [if_neg Bool.false_ne_true] at e2
        cases e2
        show G.nx σ2 H3
        exact k σ2 H3 S3
      | true =>
        rw [if_pos rfl] at e2
        cases e4 : f ρ3 with
        | none => simp [e4] at e2
        | some o1 =>
          simp only [e4, Option.bind_some] at e2
          show ∃ N : L2.St → Hp → Prop, _ ∧ _
          refine ⟨fun σ' H' => ∃ ρ', whileD c f m ρ' = some o ∧ SD C σ' H' ρ' τ an, fun σ' H' q => ⟨m, Nat.lt_succ_self _, q⟩, ρ3, τ, an, o1, ad, S3, e4, ?_⟩
          cases o1 with
          | next ρ4 => exact fun σ' H' S' => ⟨ρ4, e2, S'⟩
          | cont ρ4 => exact fun σ' H' S' => ⟨ρ4, e2, S'⟩
          | brk ρ4 =>
            cases e2
            exact fun σ' H' S' => k σ' H' S'
          | ret d ρ4 =>
            cases e2
            exact fun v σ' H' S' => k v σ' H' S'
theorem ds_while (n : Nat) {c : Expr} {body : List Stmt} {fc : FT} {f : FS} {pos : Pos} (hp : PassesOwn (model X.prog X.w) X.A X.env X.xe) (hc : PT X c (tT C fc)) (hb : PSs X body (tS C f)) : PS X (.While c body [] pos) (tS C (whileD fc f n)) :=
  (ps_while hp hc hb).dl fun _ _ _ h => imp_while h

/-! ### a comprehension's names are forgotten, and back -/
def wpR (ρ : Rho) : List Nat → Rho
  | [] => ρ
  | v :: vs => (wpR ρ vs).set v none
def okW (ρ : Rho) (vs : List Nat) : Bool := vs.all fun v => match ρ[v]? with
  | some (some (.d _)) => true
  | some (some _) => false
  | _ => true
def rstR (ρ0 ρ : Rho) : List Nat → Rho
  | [] => ρ
  | v :: vs => (rstR ρ0 ρ vs).set v ((ρ0[v]?).getD none)
theorem wpR_len (ρ : Rho) : ∀ vs, (wpR ρ vs).length = ρ.length
  | [] => rfl
  | v :: vs => by unfold wpR; rw [List.length_set, wpR_len ρ vs]
theorem rstR_len (ρ0 ρ : Rho) : ∀ vs, (rstR ρ0 ρ vs).length = ρ.length
  | [] => rfl
  | v :: vs => by unfold rstR; rw [List.length_set, rstR_len ρ0 ρ vs]
theorem wpR_get (ρ : Rho) (j : Nat) : ∀ vs : List Nat, (j ∉ vs → (wpR ρ vs)[j]? = ρ[j]?) ∧ (j ∈ vs → j < ρ.length → (wpR ρ vs)[j]? = some none)
  | [] => ⟨fun _ => rfl, fun h => by cases h⟩
  | v :: vs => by
    obtain ⟨h1, h2⟩ := wpR_get ρ j vs
    refine ⟨fun h => ?_, fun h hl => ?_⟩
    · unfold wpR
      rw [List.getElem?_set_ne (fun e => h (by simp [e]))]
      exact h1 fun z => h (List.mem_cons_of_mem _ z)
    · unfold wpR
      by_cases e : v = j
      · subst e
        rw [List.getElem?_set_self (by rw [wpR_len]; exact hl)]
      · rw [List.getElem?_set_ne e]
        rcases List.mem_cons.mp h with z | z
        · exact absurd z.symm e
        · exact h2 z hl
theorem wipe_get (σ : L2.St) (j : Nat) : ∀ vs : List Nat, (j ∉ vs → (wipe σ vs)[j]? = σ[j]?) ∧ (j ∈ vs → j < σ.length → (wipe σ vs)[j]? = some none)
  | [] => ⟨fun _ => rfl, fun h => by cases h⟩
  | v :: vs => by
    obtain ⟨h1, h2⟩ := wipe_get σ j vs
    refine ⟨fun h => ?_, fun h hl => ?_⟩
    · unfold wipe
      rw [List.getElem?_set_ne (fun e => h (by simp [e]))]
      exact h1 fun z => h (List.mem_cons_of_mem _ z)
    · unfold wipe
      by_cases e : v = j
      · subst e
        rw [List.getElem?_set_self (by rw [wipe_length]; exact hl)]
      · rw [List.getElem?_set_ne e]
        rcases List.mem_cons.mp h with z | z
        · exact absurd z.symm e
        · exact h2 z hl
theorem rstR_get (ρ0 ρ : Rho) (j : Nat) : ∀ vs : List Nat, (j ∉ vs → (rstR ρ0 ρ vs)[j]? = ρ[j]?) ∧ (j ∈ vs → j < ρ.length → (rstR ρ0 ρ vs)[j]? = some ((ρ0[j]?).getD none))
  | [] => ⟨fun _ => rfl, fun h => by cases h⟩
  | v :: vs => by
    obtain ⟨h1, h2⟩ := rstR_get ρ0 ρ j vs
    refine ⟨fun h => ?_, fun h hl => ?_⟩
    · unfold rstR
      rw [List.getElem?_set_ne (fun e => h (by simp [e]))]
      exact h1 fun z => h (List.mem_cons_of_mem _ z)
    · unfold rstR
      by_cases e : v = j
      · subst e
        rw [List.getElem?_set_self (by rw [rstR_len]; exact hl)]
      · rw [List.getElem?_set_ne e]
        rcases List.mem_cons.mp h with z | z
        · exact absurd z.symm e
        · exact h2 z hl
theorem wipe_eq {σ σ' : L2.St} {vs : List Nat} (hl : σ'.length = σ.length) (h : ∀ j, j ∉ vs → σ'[j]? = σ[j]?) : wipe σ' vs = wipe σ vs := by
  refine List.ext_getElem? fun j => ?_
  by_cases hj : j ∈ vs
  · by_cases hlt : j < σ.length
    · rw [(wipe_get σ' j vs).2 hj (by omega), (wipe_get σ j vs).2 hj hlt]
    · rw [List.getElem?_eq_none (by rw [wipe_length]; omega), List.getElem?_eq_none (by rw [wipe_length]; omega)]
  · rw [(wipe_get σ' j vs).1 hj, (wipe_get σ j vs).1 hj]
    exact h j hj
theorem okW_at {vs : List Nat} (h : okW ρ vs = true) {j : Nat} (hj : j ∈ vs) {b : B} (e : ρ[j]? = some (some b)) : ∃ x, b = .d x := by
  have q := List.all_eq_true.mp h j hj
  rw [e] at q
  cases b with
  | d x => exact ⟨x, rfl⟩
  | r _ => cases q
  | l _ => cases q
  | m _ => cases q
  | t _ _ => cases q
  | s _ => cases q
theorem SDf.fp0 {fp : Nat → List Addr} (s : SDf C fp σ H ρ τ an) {vs : List Nat} (h : okW ρ vs = true) {j : Nat} (hj : j ∈ vs) : fp j = [] := by
  by_cases q : ∃ b, ρ[j]? = some (some b)
  · obtain ⟨b, e⟩ := q
    obtain ⟨x, rfl⟩ := okW_at h hj e
    obtain ⟨v, _, h1, _⟩ := s.bnd j _ e
    exact h1
  · exact s.emp j fun b e => q ⟨b, e⟩
theorem SDf.wiped {fp : Nat → List Addr} (s : SDf C fp σ H ρ τ an) (ad : AllD τ) {vs : List Nat} (h : okW ρ vs = true) : SDf C fp (wipe σ vs) H (wpR ρ vs) τ an := by
  refine ⟨by rw [wpR_len, wipe_length]; exact s.len, s.ext, s.vol, s.inj, s.ani, s.and, s.own, s.ano, s.frn, fun j b e => ?_, fun j e => ?_, fun p hp => (s.tmp p hp).slots (ad p hp)⟩
  · by_cases hj : j ∈ vs
    · have hl : j < ρ.length := by
        have := (List.getElem?_eq_some_iff.mp e).1
        rw [wpR_len] at this
        exact this
      rw [(wpR_get ρ j vs).2 hj hl] at e
      cases e
    · rw [(wpR_get ρ j vs).1 hj] at e
      rw [(wipe_get σ j vs).1 hj]
      exact s.bnd j b e
  · by_cases hj : j ∈ vs
    · exact s.fp0 h hj
    · rw [(wpR_get ρ j vs).1 hj] at e
      exact s.emp j e
theorem SD.wiped (S : SD C σ H ρ τ an) (ad : AllD τ) {vs : List Nat} (h : okW ρ vs = true) : SD C (wipe σ vs) H (wpR ρ vs) τ an := let ⟨fp, s⟩ := S; ⟨fp, s.wiped ad h⟩
/-- data among temporaries -/
def isDt (p : V × R) : Bool := match p.2 with
  | .own _ => false
  | _ => true
theorem isDt_all (τ : List (V × R)) : AllD (τ.filter isDt) := fun p hp i e => by
  have q := (List.mem_filter.mp hp).2
  unfold isDt at q
  rw [e] at q
  cases q
/-- what is shadowed, as temporaries -/
def shad (σ : L2.St) (ρ : Rho) : List Nat → List (V × R)
  | [] => []
  | v :: vs => match σ[v]?, ρ[v]? with
    | some (some w), some (some (.d x)) => (w, .d x) :: shad σ ρ vs
    | _, _ => shad σ ρ vs
theorem shad_all (σ : L2.St) (ρ : Rho) : ∀ vs, AllD (shad σ ρ vs)
  | [] => AllD.nil
  | v :: vs => by
    unfold shad
    split
    · exact AllD.cons (shad_all σ ρ vs)
    · exact shad_all σ ρ vs
theorem shad_mem {σ : L2.St} {ρ : Rho} {j : Nat} {w : V} {x : D} (h1 : σ[j]? = some (some w)) (h2 : ρ[j]? = some (some (.d x))) : ∀ {vs : List Nat}, j ∈ vs → (w, R.d x) ∈ shad σ ρ vs
  | [], h => by cases h
  | v :: vs, h => by
    unfold shad
    rcases List.mem_cons.mp h with rfl | h
    · rw [h1, h2]
      exact List.mem_cons_self
    · split
      · exact List.mem_cons_of_mem _ (shad_mem h1 h2 h)
      · exact shad_mem h1 h2 h
theorem shad_ok {fp : Nat → List Addr} (s : SDf C fp σ H ρ τ an) : ∀ (vs : List Nat), ∀ p ∈ shad σ ρ vs, TOk C (OO C.F fp an) H σ p
  | [], p, hp => by cases hp
  | v :: vs, p, hp => by
    unfold shad at hp
    split at hp
    · rename_i w x e1 e2
      rcases List.mem_cons.mp hp with rfl | hp
      · obtain ⟨w', h1, h2, h3⟩ := s.bnd v _ e2
        rw [e1] at h1
        cases h1
        exact h3
      · exact shad_ok s vs p hp
    · exact shad_ok s vs p hp
theorem SD.shade (S : SD C σ H ρ τ an) (vs : List Nat) : SD C σ H ρ (shad σ ρ vs ++ τ) an := by
  obtain ⟨fp, s⟩ := S
  refine ⟨fp, s.tmps fun p hp => ?_⟩
  rcases List.mem_append.mp hp with hp | hp
  · exact shad_ok s vs p hp
  · exact s.tmp p hp
/-- back from the block -/
theorem SD.back {σ : L2.St} {ρ0 ρ2 : Rho} {H2 : Hp} {τ2 : List (V × R)} {an2 : List (Addr × HO)} {vs : List Nat} (S0 : SD C σ H ρ0 τ an) (S2 : SD C (wipe σ vs) H2 ρ2 τ2 an2) (hw : ∀ j ∈ vs, ∀ b, ρ2[j]? ≠ some (some b)) (ad : AllD τ2) (ok : okW ρ0 vs = true)
    (hs : ∀ p ∈ shad σ ρ0 vs, p ∈ τ2) : SD C σ H2 (rstR ρ0 ρ2 vs) (τ2 ++ τ.filter fun p => !isDt p) an2 := by
  obtain ⟨fp0, s0⟩ := S0
  obtain ⟨fp, s⟩ := S2
  have hl : ρ2.length = σ.length := by
    rw [s.len, wipe_length]
  have f0 : ∀ j ∈ vs, fp j = [] := fun j hj => s.emp j fun b e => hw j hj b e
  refine ⟨fp, by rw [rstR_len]; exact hl, s.ext, s.vol, s.inj, s.ani, s.and, s.own, s.ano, s.frn, fun j b e => ?_, fun j e => ?_, fun p hp => ?_⟩
  · by_cases hj : j ∈ vs
    · have hlt : j < ρ2.length := by
        have := (List.getElem?_eq_some_iff.mp e).1
        rw [rstR_len] at this
        exact this
      rw [(rstR_get ρ0 ρ2 j vs).2 hj hlt] at e
      have e' : ρ0[j]? = some (some b) := by
        cases q : ρ0[j]? with
        | none =>
          rw [q] at e
          simp at e
        | some o =>
          rw [q] at e
          simpa using e
      obtain ⟨x, rfl⟩ := okW_at ok hj e'
      obtain ⟨w, h1, _⟩ := s0.bnd j _ e'
      exact ⟨w, h1, f0 j hj, s.tmp _ (hs _ (shad_mem h1 e' hj))⟩
    · rw [(rstR_get ρ0 ρ2 j vs).1 hj] at e
      rw [← (wipe_get σ j vs).1 hj]
      exact s.bnd j b e
  · by_cases hj : j ∈ vs
    · exact f0 j hj
    · rw [(rstR_get ρ0 ρ2 j vs).1 hj] at e
      exact s.emp j e
  · rcases List.mem_append.mp hp with hp | hp
    · exact (s.tmp p hp).slots (ad p hp)
    · obtain ⟨h1, h2⟩ := List.mem_filter.mp hp
      obtain ⟨v, r⟩ := p
      cases r with
      | own i => exact s0.tmp _ h1
      | d x => cases h2
      | w xs => cases h2

/-! ### comprehensions -/
def lcD (g : FG) (ft : FT) (fe : FE) (vs : List Nat) : List R → Rho → Option (List D × Rho)
  | [], ρ => some ([], ρ)
  | r :: rs, ρ => (g r ρ).bind fun ρ1 => (ft ρ1).bind fun p => if p.1 = true then
      (fe p.2).bind fun q => (out1 q.1 q.2).bind fun u => if okW u.2 vs = true then (lcD g ft fe vs rs (wpR u.2 vs)).map fun w => (u.1 :: w.1, w.2) else none
    else if okW p.2 vs = true then lcD g ft fe vs rs (wpR p.2 vs) else none
def fLc (fi : FI) (g : FG) (ft : FT) (fe : FE) (vs : List Nat) : FF := fun ρ => (fi ρ).bind fun p => if okW p.2 vs = true ∧ p.1.length ≤ sizeLine then (lcD g ft fe vs p.1 (wpR p.2 vs)).map fun q => (q.1, rstR p.2 q.2 vs) else none
theorem imp_lc {fi : FI} {g : FG} {ft : FT} {fe : FE} {ws vs : List Nat} (hws : ∀ j ∈ ws, j ∈ vs) {Q : VK} (h : tF C (fLc fi g ft fe vs) σ H Q) : tLc (tI C fi) (tG C ws g) (tT C ft) (tE C fe) vs σ H Q := by
  obtain ⟨ρ, τ, an, ys, ρ9, S, e, k⟩ := h
  unfold fLc at e
  cases e1 : fi ρ with
  | none => simp [e1] at e
  | some p =>
    obtain ⟨rs, ρ1⟩ := p
    simp only [e1, Option.bind_some] at e
    split at e
    · rename_i hok
      obtain ⟨ok, hz⟩ := hok
      cases e2 : lcD g ft fe vs rs (wpR ρ1 vs) with
      | none => simp [e2] at e
      | some q =>
        obtain ⟨ys', ρ8⟩ := q
        simp [e2] at e
        obtain ⟨rfl, rfl⟩ := e
        refine ⟨ρ, τ, an, rs, ρ1, S, e1, fun J H1 τi adi S1 it D hD => ?_⟩
        -- the block's temporaries
        let τb : List (V × R) := shad σ ρ1 vs ++ (τi ++ τ.filter isDt)
        have adb : AllD τb := (shad_all σ ρ1 vs).app (adi.app (isDt_all τ))
        have Sb : SD C (wipe σ vs) H1 (wpR ρ1 vs) τb an := by
          have S2 : SD C σ H1 ρ1 τb an := (S1.shade vs).sub fun p hp => by
            rcases List.mem_append.mp hp with hp | hp
            · exact List.mem_append_left _ hp
            · rcases List.mem_append.mp hp with hp | hp
              · exact List.mem_append_right _ (List.mem_append_left _ hp)
              · exact List.mem_append_right _ (List.mem_append_right _ (List.mem_filter.mp hp).1)
          exact S2.wiped adb ok
        refine ⟨fun i m H => m = rs.length - i ∧ i ≤ rs.length ∧ ∃ ρ' us xs zs, us.length = xs.length ∧ xs.length ≤ i ∧ SD C (wipe σ vs) H ρ' (tz us xs ++ τb) ((D, .lst us) :: an) ∧ (∀ j ∈ vs, ∀ b, ρ'[j]? ≠ some (some b)) ∧
          lcD g ft fe vs (rs.drop i) ρ' = some (zs, ρ8) ∧ xs ++ zs = ys', ?_, ?_⟩
        · refine ⟨_, rfl, Nat.zero_le _, wpR ρ1 vs, [], [], ys', rfl, Nat.le_refl _, ?_, fun j hj b eb => ?_, e2, rfl⟩
          · exact Sb.fresh (o := .lst []) hD trivial
          · have hl : j < ρ1.length := by
              have := (List.getElem?_eq_some_iff.mp eb).1
              rw [wpR_len] at this
              exact this
            rw [(wpR_get ρ1 j vs).2 hj hl] at eb
            cases eb
        · rintro i m H2 ⟨rfl, hi, ρ2, us, xs, zs, hul, hxi, S2, hw2, e3, e4⟩
          have It2 := it _ H2 ρ2 _ _ S2 (fun p hp => List.mem_append_right _ (List.mem_append_right _ (List.mem_append_left _ hp))) i
          by_cases hlt : i < rs.length
          · refine Or.inr ?_
            obtain ⟨go, yld⟩ := It2.1 rs[i] (by simp [hlt])
            rw [List.drop_eq_getElem_cons hlt] at e3
            unfold lcD at e3
            cases e5 : g rs[i] ρ2 with
            | none => simp [e5] at e3
            | some ρ3 =>
              cases e6 : ft ρ3 with
              | none => simp [e5, e6] at e3
              | some p6 =>
                obtain ⟨b, ρ4⟩ := p6
                simp only [e5, e6, Option.bind_some] at e3
                have adA : AllD (tz us xs ++ τb) := AllD.tz.app adb
                refine ⟨go, fun H' => ∃ ρ' us xs zs, us.length = xs.length ∧ xs.length ≤ i + 1 ∧ SD C (wipe σ vs) H' ρ' (tz us xs ++ τb) ((D, .lst us) :: an) ∧ (∀ j ∈ vs, ∀ b, ρ'[j]? ≠ some (some b)) ∧
                  lcD g ft fe vs (rs.drop (i + 1)) ρ' = some (zs, ρ8) ∧ xs ++ zs = ys', fun H' q => ⟨rs.length - (i + 1), by omega, rfl, hlt, q⟩, fun x H' hy => ?_⟩
                refine ⟨ρ2, tz us xs ++ τb, (D, .lst us) :: an, rs[i], ρ3, adA, yld x H' hy, e5, fun σ2 H3 l3 k3 S3 => ?_⟩
                have ew : wipe σ2 vs = wipe σ vs := by
                  have q : wipe σ2 vs = wipe (wipe σ vs) vs := wipe_eq l3 fun j hj => k3 j fun z => hj (hws j z)
                  rw [q]
                  exact wipe_eq (wipe_length σ vs) fun j hj => (wipe_get σ j vs).1 hj
                have wout : ∀ ρ', ∀ j ∈ vs, ∀ b, (wpR ρ' vs)[j]? ≠ some (some b) := fun ρ' j hj b eb => by
                  have hl : j < ρ'.length := by
                    have := (List.getElem?_eq_some_iff.mp eb).1
                    rw [wpR_len] at this
                    exact this
                  rw [(wpR_get ρ' j vs).2 hj hl] at eb
                  cases eb
                refine ⟨ew, ρ3, tz us xs ++ τb, (D, .lst us) :: an, b, ρ4, S3, e6, fun H4 S4 => ?_⟩
                cases b with
                | true =>
                  rw [if_pos rfl] at e3
                  cases e7 : fe ρ4 with
                  | none => simp [e7] at e3
                  | some q7 =>
                    obtain ⟨r7, ρ5⟩ := q7
                    cases e8 : out1 r7 ρ5 with
                    | none => simp [e7, e8] at e3
                    | some u8 =>
                      obtain ⟨y, ρ6⟩ := u8
                      simp only [e7, e8, Option.bind_some] at e3
                      split at e3
                      · rename_i ok6
                        cases e9 : lcD g ft fe vs (rs.drop (i + 1)) (wpR ρ6 vs) with
                        | none => simp [e9] at e3
                        | some w9 =>
                          obtain ⟨zs', ρ7⟩ := w9
                          simp [e9] at e3
                          obtain ⟨rfl, rfl⟩ := e3
                          show tE C fe σ2 H4 _
                          refine ⟨ρ4, tz us xs ++ τb, (D, .lst us) :: an, r7, ρ5, S4, e7, fun yv H5 S5 => ?_⟩
                          have S6 := out1_ok S5 e8
                          have hD5 : H5 D = some (.lst us) := by
                            obtain ⟨fp, s⟩ := id S6
                            exact (s.ano D _ List.mem_cons_self).2.1
                          refine ⟨us, hD5, by omega, wpR ρ6 vs, us ++ [yv], xs ++ [y], zs', by simp [hul], by simp; omega, ?_, wout ρ6, e9, by simpa using e4⟩
                          rw [← ew]
                          have S7 := (S6.anset (o' := .lst (us ++ [yv])) trivial).wiped (AllD.cons adA) ok6
                          refine S7.sub fun p hp => ?_
                          rcases List.mem_append.mp hp with hp | hp
                          · obtain ⟨j, v, d, ha, hb, rfl⟩ := of_tz hp
                            rcases app_at hul ha hb with z | z
                            · exact List.mem_cons_of_mem _ (List.mem_append_left _ z)
                            · obtain ⟨j', v', d', ha', hb', e'⟩ := of_tz z
                              have h0 : j' = 0 := by
                                have := (List.getElem?_eq_some_iff.mp ha').1
                                simpa using this
                              subst h0
                              simp at ha' hb'
                              subst ha'
                              subst hb'
                              rw [e']
                              exact List.mem_cons_self
                          · exact List.mem_cons_of_mem _ (List.mem_append_right _ hp)
                      · cases e3
                | false =>
                  rw [if_neg Bool.false_ne_true] at e3
                  split at e3
                  · rename_i ok4
                    show ∃ ρ' us xs zs, _
                    refine ⟨wpR ρ4 vs, us, xs, zs, hul, by omega, ?_, wout ρ4, e3, e4⟩
                    rw [← ew]
                    exact S4.wiped adA ok4
                  · cases e3
          · refine Or.inl ?_
            have ei : i = rs.length := by omega
            subst ei
            rw [List.drop_length] at e3
            cases e3
            rw [List.append_nil] at e4
            subst e4
            refine ⟨It2.2 rfl, k D us H2 hul ?_⟩
            have S9 := S1.back (vs := vs) S2 hw2 (AllD.tz.app adb) ok fun p hp => List.mem_append_right _ (List.mem_append_left _ hp)
            refine S9.sub fun p hp => ?_
            rcases List.mem_append.mp hp with hp | hp
            · exact List.mem_append_left _ (List.mem_append_left _ hp)
            · cases q : isDt p with
              | true => exact List.mem_append_left _ (List.mem_append_right _ (List.mem_append_right _ (List.mem_append_right _ (List.mem_filter.mpr ⟨hp, q⟩))))
              | false => exact List.mem_append_right _ (List.mem_filter.mpr ⟨List.mem_append_right _ hp, by rw [q]; rfl⟩)
    · cases e
theorem df_lc {elt tg iter : Expr} {ifs : List Expr} {scope : Scope} (own : List (Str × Nat)) {pos : Pos} {fi : FI} {g : FG} {ft : FT} {fe : FE} {ws : List Nat} (hc : X.calm = true) (hN : X.N.Nodup) (hi : PI X tg iter (tI C fi)) (ok : blkC X.N X.env.scope scope own = true)
    (hg : ∀ (s : Shared) (H : Hp) (Ca : Addr) (cl : List (Str × Addr)) (fp : List Addr), PG (X.blk s H scope (compEnvC scope cl Ca X.env) fp) tg (tG C ws g)) (ht : ∀ (s : Shared) (H : Hp) (Ca : Addr) (cl : List (Str × Addr)) (fp : List Addr), PTs (X.blk s H scope (compEnvC scope cl Ca X.env) fp) ifs (tT C ft))
    (he : ∀ (s : Shared) (H : Hp) (Ca : Addr) (cl : List (Str × Addr)) (fp : List Addr), PE (X.blk s H scope (compEnvC scope cl Ca X.env) fp) elt (tE C fe)) (hw : ∀ j ∈ ws, j ∈ own.map (·.2)) (hs : ∀ x, foldedSetIterable iter X.env x = pure x := by intro _; rfl) :
    PE X (.ListComp elt [⟨tg, iter, ifs, 0⟩] scope pos) (tF C (fLc fi g ft fe (own.map (·.2)))) := (pe_lc hc hN hi (blkOk_by ok) hg ht he hs).dl fun _ _ _ h => imp_lc hw h
def tYesT : FT := fun ρ => some (true, ρ)
theorem dts_nil : PTs X [] (tT C tYesT) := ⟨fun pins s σ H Q I h => pts_nil.run pins s σ H Q I (by
  obtain ⟨ρ, τ, an, b, ρ', S, e, q⟩ := h
  cases e
  exact q H S)⟩
theorem dts_one {c : Expr} {f : FT} (h : PT X c (tT C f)) : PTs X [c] (tT C f) := pts_one h
/-- name = [..] on one line, data or an own list -/
theorem ds_setLc {i : Nat} {n : Str} {py pos spos : Pos} {elt tg iter : Expr} {ifs : List Expr} {scope : Scope} (own : List (Str × Nat)) {fi : FI} {g : FG} {ft : FT} {fe : FE} {ws : List Nat} (hc : X.calm = true) (hN : X.N.Nodup) (hy : X.N[i]? = some n) (hyl : X.env.scope.names.lookup n = some .local)
    (hsw : swapsWith (.ListComp elt [⟨tg, iter, ifs, 0⟩] scope pos) (some (.Name n py)) spos.line X.env = pure true)
    (hi : PI X tg iter (tI C fi)) (ok : blkC X.N X.env.scope scope own = true)
    (hg : ∀ (s : Shared) (H : Hp) (Ca : Addr) (cl : List (Str × Addr)) (fp : List Addr), PG (X.blk s H scope (compEnvC scope cl Ca X.env) fp) tg (tG C ws g)) (ht : ∀ (s : Shared) (H : Hp) (Ca : Addr) (cl : List (Str × Addr)) (fp : List Addr), PTs (X.blk s H scope (compEnvC scope cl Ca X.env) fp) ifs (tT C ft))
    (he : ∀ (s : Shared) (H : Hp) (Ca : Addr) (cl : List (Str × Addr)) (fp : List Addr), PE (X.blk s H scope (compEnvC scope cl Ca X.env) fp) elt (tE C fe)) (hw : ∀ j ∈ ws, j ∈ own.map (·.2)) (hs : ∀ x, foldedSetIterable iter X.env x = pure x := by intro _; rfl) :
    PS X (.Assign [.Name n py] (.ListComp elt [⟨tg, iter, ifs, 0⟩] scope pos) spos) (tS C (sOwn i (fLc fi g ft fe (own.map (·.2))))) := by
  refine (ps_setLc hc hN hy hyl hsw hi (blkOk_by ok) hg ht he hs).dl fun G σ H h => ?_
  exact imp_lc hw (imp_own h)
end
end DL
namespace DL
open PySem L2

/-! ### what is walked: a list or a tuple -/
inductive Src where
  | lst (a : Addr)
  | tup (a : Addr)
def Src.at : Src → Addr
  | .lst a => a
  | .tup a => a
def Src.iter : Src → Addr → Nat → Heap → Prop
  | .lst a, it, i, h => h.IsListIter it a i
  | .tup a, it, i, h => h.IsTupleIter it a i
def Src.cont : Src → Array Value → Heap → Prop
  | .lst a, its, h => h.IsList a its
  | .tup a, its, h => h.IsTuple a its
def Src.obj : Src → Obj
  | .lst a => { cls := .type "list_iterator", data := .fields #[.ref a, .int 0 0] }
  | .tup a => { cls := .type "tuple_iterator", data := .fields #[.ref a, .int 0 0] }
def Src.sq (K : PySem.W.Frag) (H : Hp) : Src → List V → Prop
  | .lst a, xs => SqL K H a xs
  | .tup a, xs => SqT K H a xs
theorem Src.draws {prog : Program} {w : World} {A : Around} (hh : A.handled = none) (q : Src) (it : Addr) (hne : q.at ≠ it) (its : Array Value) : Draws prog w A it [it, q.at] its.size (fun i v => its[i]? = some v) (fun i h => q.iter it i h ∧ q.cont its h) := by
  cases q with
  | lst a => exact Draws.list hh it a hne its
  | tup a => exact Draws.tuple hh it a hne its
theorem Src.begins (q : Src) (its : Array Value) : Begins (.ref q.at) q.obj (fun h => q.cont its h) := by
  cases q with
  | lst a => exact begins_list a its
  | tup a => exact begins_tuple a its
theorem Src.start {q : Src} {it : Addr} {h : Heap} (e : h.get? it = some q.obj) : q.iter it 0 h := by
  cases q with
  | lst a => exact ⟨_, e, rfl, rfl⟩
  | tup a => exact ⟨_, e, rfl, rfl⟩
theorem Src.iobj {q : Src} {it : Addr} {i : Nat} {h : Heap} (st : q.iter it i h) : ∃ o, h.get? it = some o ∧ ∀ v, o.data ≠ .cell v := by
  cases q with
  | lst a =>
    obtain ⟨o, e, _, d⟩ := st
    exact ⟨o, e, fun v z => by rw [d] at z; cases z⟩
  | tup a =>
    obtain ⟨o, e, _, d⟩ := st
    exact ⟨o, e, fun v z => by rw [d] at z; cases z⟩
theorem Src.imove {q : Src} {it : Addr} {i : Nat} {h h' : Heap} (st : q.iter it i h) (k : ∀ o, h.get? it = some o → h'.get? it = some o) : q.iter it i h' := by
  cases q with
  | lst a => exact Heap.IsListIter.at st k
  | tup a => exact Heap.IsTupleIter.at st k
section
variable {X : Cx} {pins : List (Addr × Obj)} {σ : L2.St} {H : Hp} {s : Shared}
theorem Src.see (I : L2.Inv X pins σ H s) {q : Src} {xs : List V} (h : q.sq X.K H xs) : ∃ its : List Value, Vals xs its ∧ q.cont its.toArray s.heap ∧ q.at < s.heap.objs.size := by
  cases q with
  | lst a =>
    obtain ⟨its, r, p, _⟩ := I.list h
    exact ⟨its, r, p.isList, p.lt⟩
  | tup a =>
    obtain ⟨its, r, p, _⟩ := I.tuple h
    exact ⟨its, r, p, p.lt⟩
theorem Src.one (I : L2.Inv X pins σ H s) {q : Src} {xs ys : List V} (h : q.sq X.K H xs) (h' : q.sq X.K H ys) : xs = ys := by
  cases q with
  | lst a => exact I.list_inj h h'
  | tup a => exact I.tuple_inj h h'
end
/-- pairs of two -/
def Itq (K : PySem.W.Frag) (p q : Src) : It :=
  ⟨fun i H => ∃ (xs ys : List V) (x y : V), p.sq K H xs ∧ q.sq K H ys ∧ xs[i]? = some x ∧ ys[i]? = some y,
    fun i H v H' => ∃ T x y, v = .ref T ∧ H T = none ∧ H' = upd H T (.tup [x, y]) ∧ (∀ xs, p.sq K H xs → xs[i]? = some x) ∧ ∀ ys, q.sq K H ys → ys[i]? = some y,
    fun i H => ∃ xs ys : List V, p.sq K H xs ∧ q.sq K H ys ∧ i ≤ xs.length ∧ i ≤ ys.length ∧ (i = xs.length ∨ i = ys.length)⟩
theorem turn_q {P : Program} {w : World} {K : PySem.W.Frag} {elts : List Expr} {kk : Nat} {tpos : Pos} {p q : Src} {z TI TO i1 i2 : Addr} (D : ZipSep2 z TI TO i1 i2 [i1, p.at] [i2, q.at]) (n1 : p.at ≠ i1) (n2 : q.at ≠ i2) :
    Turn P w K (.Tuple elts kk tpos) (Itq K p q) [z, TI, TO, i1, i2] z (fun i h => IsZip h z TI TO .none ∧ IsTupOf2 h TI (.ref i1) (.ref i2) ∧ (∃ x y, IsTupOf2 h TO x y) ∧ p.iter i1 i h ∧ q.iter i2 i h) where
  mem := by simp
  obj := fun i h st c hc => by
    obtain ⟨hz, hTI, ⟨x, y, hTO⟩, h1, h2⟩ := st
    have ec : c = z ∨ c = TI ∨ c = TO ∨ c = i1 ∨ c = i2 := by simpa using hc
    rcases ec with e | e | e | e | e
    · subst e
      exact ⟨_, hz, fun v q => nomatch q⟩
    · subst e
      exact ⟨_, hTI, fun v q => nomatch q⟩
    · subst e
      exact ⟨_, hTO, fun v q => nomatch q⟩
    · subst e
      exact Src.iobj h1
    · subst e
      exact Src.iobj h2
  keep := fun i h h' st k => by
    obtain ⟨hz, hTI, ⟨x, y, hTO⟩, h1, h2⟩ := st
    exact ⟨k z (by simp) _ hz, k TI (by simp) _ hTI, ⟨x, y, k TO (by simp) _ hTO⟩, Src.imove h1 fun o e => k i1 (by simp) o e, Src.imove h2 fun o e => k i2 (by simp) o e⟩
  item := by
    intro X hP hw hK hc i pins s σ H E I hf st hg
    subst hP hw hK
    obtain ⟨hz, hTI, ⟨x0, y0, hTO⟩, h1, h2⟩ := st
    obtain ⟨xs, ys, x, y, hqx, hqy, hx, hy⟩ := hg
    obtain ⟨us, r1, c1, _⟩ := Src.see I hqx
    obtain ⟨ws, r2, c2, _⟩ := Src.see I hqy
    obtain ⟨u1, hu1, ru1⟩ := r1.get hx
    obtain ⟨u2, hu2, ru2⟩ := r2.get hy
    have hzl : z < s.heap.objs.size := Heap.lt_size hz
    have hh : X.A.in1.handled = none := I.ok.hd hc
    refine wpAny_pyNext_zipD2_item D (p.draws hh i1 n1 us.toArray) (q.draws hh i2 n2 ws.toArray) hz hTI hTO ⟨h1, c1⟩ ⟨h2, c2⟩ ?_ ?_ fun x1 x2 h' tk e1 e2 z' TO' st1 st2 hT hsz hk => ?_
    · have := (List.getElem?_eq_some_iff.mp hu1).1
      simpa using this
    · have := (List.getElem?_eq_some_iff.mp hu2).1
      simpa using this
    have ex1 : x1 = u1 := by
      have : us[i]? = some x1 := by simpa using e1
      rw [hu1] at this
      exact (Option.some.inj this).symm
    have ex2 : x2 = u2 := by
      have : ws[i]? = some x2 := by simpa using e2
      rw [hu2] at this
      exact (Option.some.inj this).symm
    subst ex1
    subst ex2
    refine ⟨_, rfl, wpAny_letOwnedTupleGo_zip (s := { s with heap := h', toks := tk }) z' fun h'' z'' sb => ?_⟩
    have hT2 : h''.get? s.heap.objs.size = some { cls := .type "tuple", data := .seq #[x1, x2] } := (sb.2 _ (Nat.ne_of_gt hzl)).trans hT
    have new : ObjOk X.prog X.w (upd H s.heap.objs.size (.tup [x, y])) h'' s.heap.objs.size (.tup [x, y]) :=
      ⟨by show 2 ≤ sizeLine; decide, [x1, x2], .cons ru1 (.cons ru2 .nil), ⟨_, hT2, rfl, _, rfl⟩⟩
    have kk : ∀ c o, c ∉ [z, TI, TO, i1, i2] → s.heap.get? c = some o → h''.get? c = some o := fun c o hb e => by
      have m1 : c ≠ z := fun e' => hb (by simp [e'])
      have m2 : c ≠ TO := fun e' => hb (by simp [e'])
      have m3 : c ≠ i1 := fun e' => hb (by simp [e'])
      have m4 : c ≠ i2 := fun e' => hb (by simp [e'])
      exact (sb.2 c m1).trans (hk c o m1 m2 m3 m4 e)
    have I1 : L2.Inv X pins σ (upd H s.heap.objs.size (.tup [x, y])) { s with heap := h'', toks := tk } := I.turnedNew (ch := [z, TI, TO, i1, i2]) kk hf (Nat.le_refl _) new
    refine ⟨.ref s.heap.objs.size, _, I1, rfl, ⟨_, x, y, rfl, I.hok.fresh (Nat.le_refl _), rfl, fun l hl => by rw [Src.one I hl hqx]; exact hx, fun l hl => by rw [Src.one I hl hqy]; exact hy⟩, ⟨z'', ?_, ⟨x1, x2, ?_⟩, ?_, ?_⟩, fun c hcm => ?_⟩
    · exact (sb.2 _ D.TIz).trans (hk _ _ D.TIz D.TITO D.TIi1 D.TIi2 hTI)
    · exact (sb.2 _ D.TOz).trans TO'
    · exact Src.imove st1.1 fun o e => (sb.2 _ (Ne.symm D.zi1)).trans e
    · exact Src.imove st2.1 fun o e => (sb.2 _ (Ne.symm D.zi2)).trans e
    · have hlt : c < s.heap.objs.size := by
        have ec : c = z ∨ c = TI ∨ c = TO ∨ c = i1 ∨ c = i2 := by simpa using hcm
        rcases ec with e | e | e | e | e
        · subst e
          exact hzl
        · subst e
          exact Heap.lt_size hTI
        · subst e
          exact Heap.lt_size hTO
        · subst e
          obtain ⟨o, e1, _⟩ := Src.iobj h1
          exact Heap.lt_size e1
        · subst e
          obtain ⟨o, e1, _⟩ := Src.iobj h2
          exact Heap.lt_size e1
      rw [upd_ne (Nat.ne_of_lt hlt)]
      exact (hf c hcm).1
  done := by
    intro X hP hw hK hc i pins s σ H E I hf st hg
    subst hP hw hK
    obtain ⟨hz, hTI, ⟨x0, y0, hTO⟩, h1, h2⟩ := st
    obtain ⟨xs, ys, hqx, hqy, le1, le2, hend⟩ := hg
    obtain ⟨us, r1, c1, _⟩ := Src.see I hqx
    obtain ⟨ws, r2, c2, _⟩ := Src.see I hqy
    have l1 := r1.length
    have l2 := r2.length
    have hh : X.A.in1.handled = none := I.ok.hd hc
    refine wpAny_pyNext_zipD2_end D (p.draws hh i1 n1 us.toArray) (q.draws hh i2 n2 ws.toArray) hz hTI hTO ⟨h1, c1⟩ ⟨h2, c2⟩ ?_ ?_ ?_ fun h' tk hk => ⟨rfl, I.turnedL (ch := [z, TI, TO, i1, i2]) (fun c o hb e => ?_) hf⟩
    · rw [List.size_toArray]
      omega
    · rw [List.size_toArray]
      omega
    · rw [List.size_toArray, List.size_toArray]
      omega
    · exact hk c o (fun e' => hb (by simp [e'])) (fun e' => hb (by simp [e'])) (fun e' => hb (by simp [e'])) (fun e' => hb (by simp [e'])) e
  self := fun A i s Q E st h => wpAny_pyIter_zip st.1 h

section
variable {C : Fr} {X : Cx} {tg : Expr}
/-- the items of a list or tuple, of data -/
def seqD : D → Option (List D)
  | .list xs => some xs
  | .tuple xs => some xs
  | _ => none
/-- where data is walked -/
theorem src_of {K : PySem.W.Frag} {H : Hp} {v : V} {d : D} {xs : List D} (h : Dn K H v d) (e : seqD d = some xs) : ∃ q : Src, v = .ref q.at ∧ ∃ vs, q.sq K H vs ∧ vs.length = xs.length := by
  unfold seqD at e
  split at e
  · cases e
    obtain ⟨a, vs, rfl, h1, h2⟩ := h.lst_inv
    exact ⟨.lst a, rfl, vs, Or.inl (Or.inl h1), h2.1⟩
  · cases e
    obtain ⟨a, vs, rfl, h1, h2⟩ := h.tup_inv
    exact ⟨.tup a, rfl, vs, h1.sq, h2.1⟩
  · cases e
/-- a temporary of such data, at each time -/
structure SrcOk (C : Fr) (q : Src) (d : D) (xs : List D) : Prop where
  see : ∀ {σ : L2.St} {H : Hp} {ρ : Rho} {τ : List (V × R)} {an : List (Addr × HO)}, SD C σ H ρ τ an → (V.ref q.at, R.d d) ∈ τ → ∃ vs, q.sq C.K H vs ∧ vs.length = xs.length ∧ SD C σ H ρ (tz vs xs ++ τ) an
theorem srcOk_of {d : D} {xs : List D} (e : seqD d = some xs) {σ : L2.St} {H : Hp} {ρ : Rho} {τ : List (V × R)} {an : List (Addr × HO)} {v : V} (S : SD C σ H ρ ((v, .d d) :: τ) an) : ∃ q : Src, v = .ref q.at ∧ SrcOk C q d xs := by
  unfold seqD at e
  split at e
  · cases e
    obtain ⟨a, vs, rfl, h1, h2⟩ := S.here.lst_inv
    refine ⟨.lst a, rfl, ⟨fun {σ H ρ τ an} S' hm => ?_⟩⟩
    obtain ⟨a', ws, ea, g1, g2, g3⟩ := S'.items hm (xs := xs) rfl
    cases ea
    exact ⟨ws, Or.inl (Or.inl g1), g2, g3⟩
  · cases e
    obtain ⟨a, vs, rfl, h1, h2⟩ := S.here.tup_inv
    refine ⟨.tup a, rfl, ⟨fun {σ H ρ τ an} S' hm => ?_⟩⟩
    obtain ⟨a', ws, ea, g1, g2, g3⟩ := S'.itemsT hm (xs := xs) rfl
    cases ea
    exact ⟨ws, g1.sq, g2, g3⟩
  · cases e
/-- for x in e: a list, a tuple -/
def iSeq (f : FE) : FI := fun ρ => (f ρ).bind fun p => (out1 p.1 p.2).bind fun q => (seqD q.1).map fun xs => (xs.map R.d, q.2)
theorem itd_lst {a : Addr} {d : D} {xs : List D} (ok : SrcOk C (.lst a) d xs) (hK : C.K = X.K) : ItD C (Itl X.K a) (xs.map R.d) [(.ref a, .d d)] := fun σ H ρ τ an S hi i => by
  obtain ⟨vs, h1, h2, S1⟩ := ok.see S (hi _ List.mem_cons_self)
  rw [hK] at h1
  refine ⟨fun r hr => ?_, fun e => ?_⟩
  · rw [List.getElem?_map] at hr
    cases q : xs[i]? with
    | none =>
      rw [q] at hr
      cases hr
    | some x =>
      rw [q] at hr
      cases hr
      have hlt : i < vs.length := by
        rw [h2]
        exact (List.getElem?_eq_some_iff.mp q).1
      refine ⟨⟨vs, vs[i], h1, by simp [hlt]⟩, fun v H' y => ?_⟩
      obtain ⟨e, y⟩ := y
      subst e
      have hv := y vs h1
      exact (S1.part (v := v) (x := x) (List.mem_append_left _ (mem_tz hv q)) fun _ h => h).keepN fun p hp => List.mem_append_right _ hp
  · refine ⟨vs, h1, ?_⟩
    rw [List.length_map] at e
    omega
theorem itd_tup {a : Addr} {d : D} {xs : List D} (ok : SrcOk C (.tup a) d xs) (hK : C.K = X.K) : ItD C (Itt X.K a) (xs.map R.d) [(.ref a, .d d)] := fun σ H ρ τ an S hi i => by
  obtain ⟨vs, h1, h2, S1⟩ := ok.see S (hi _ List.mem_cons_self)
  rw [hK] at h1
  refine ⟨fun r hr => ?_, fun e => ?_⟩
  · rw [List.getElem?_map] at hr
    cases q : xs[i]? with
    | none =>
      rw [q] at hr
      cases hr
    | some x =>
      rw [q] at hr
      cases hr
      have hlt : i < vs.length := by
        rw [h2]
        exact (List.getElem?_eq_some_iff.mp q).1
      refine ⟨⟨vs, vs[i], h1, by simp [hlt]⟩, fun v H' y => ?_⟩
      obtain ⟨e, y⟩ := y
      subst e
      have hv := y vs h1
      exact (S1.part (v := v) (x := x) (List.mem_append_left _ (mem_tz hv q)) fun _ h => h).keepN fun p hp => List.mem_append_right _ hp
  · refine ⟨vs, h1, ?_⟩
    rw [List.length_map] at e
    omega
theorem di_seq {e : Expr} {f : FE} (hK : C.K = X.K) (he : PE X e (tE C f)) : PI X tg e (tI C (iSeq f)) := by
  refine ⟨fun pins s σ H Rr I h => ?_⟩
  obtain ⟨ρ, τ, an, rs, ρ', S, e0, k⟩ := h
  unfold iSeq at e0
  cases e1 : f ρ with
  | none => simp [e1] at e0
  | some p =>
    obtain ⟨r, ρ1⟩ := p
    cases e2 : out1 r ρ1 with
    | none => simp [e1, e2] at e0
    | some q =>
      obtain ⟨d, ρ2⟩ := q
      cases e3 : seqD d with
      | none => simp [e1, e2, e3] at e0
      | some xs =>
        simp [e1, e2, e3] at e0
        obtain ⟨rfl, rfl⟩ := e0
        refine thn (he.run pins s σ H (fun v H1 => SD C σ H1 ρ2 ((v, .d d) :: τ) an) I ⟨ρ, τ, an, r, ρ1, S, e1, fun v H1 S1 => out1_ok S1 e2⟩) fun u s1 w => ?_
        obtain ⟨v, H1, I1, rv, S1⟩ := w
        obtain ⟨q, rfl, ok⟩ := srcOk_of e3 S1
        cases rv
        obtain ⟨vs, h1, h2, _⟩ := ok.see S1 List.mem_cons_self
        rw [hK] at h1
        cases q with
        | lst a =>
          obtain ⟨its, r1, c1, _⟩ := I1.list h1
          refine wpAny_pyIter_list c1.isList ?_
          exact pi_one (tk := s1.toks) I1 _ (turn_list a _) ⟨_, Heap.get?_push_size _ rfl, rfl, rfl⟩ (k _ H1 [(.ref a, .d d)] (AllD.cons AllD.nil) S1 (itd_lst ok hK))
        | tup a =>
          obtain ⟨its, r1, c1, _⟩ := I1.tuple h1
          refine wpAny_pyIter_tuple (show s1.heap.IsTuple a its.toArray from c1) ?_
          exact pi_one (tk := s1.toks) I1 _ (turn_tuple a _) ⟨_, Heap.get?_push_size _ rfl, rfl, rfl⟩ (k _ H1 [(.ref a, .d d)] (AllD.cons AllD.nil) S1 (itd_tup ok hK))
/-- for x in a text -/
def iStrD (f : FE) : FI := fun ρ => match f ρ with
  | some (.d (.str s), ρ') => some (s.cps.toList.map fun c => R.d (.str ⟨#[c]⟩), ρ')
  | _ => none
theorem di_str {e : Expr} {f : FE} (he : PE X e (tE C f)) : PI X tg e (tI C (iStrD f)) := (pi_str he).dl fun σ H Q h => by
  obtain ⟨ρ, τ, an, rs, ρ', S, e0, k⟩ := h
  unfold iStrD at e0
  split at e0
  · rename_i x ρ1 e1
    cases e0
    refine ⟨ρ, τ, an, _, _, S, e1, fun v H1 S1 => ⟨x, S1.here.str_inv, k _ H1 [] AllD.nil S1.pop fun σ' H' ρ2 τ' an' S' _ i => ⟨fun r hr => ?_, fun ei => ?_⟩⟩⟩
    · rw [List.getElem?_map] at hr
      cases q : x.cps.toList[i]? with
      | none =>
        rw [q] at hr
        cases hr
      | some c =>
        rw [q] at hr
        cases hr
        have hlt := (List.getElem?_eq_some_iff.mp q).1
        refine ⟨(show i < x.cps.size by simpa using hlt), fun w H'' y => ?_⟩
        obtain ⟨rfl, c', hc, rfl⟩ := y
        have : c' = c := by
          have q2 : x.cps[i]? = some c := by simpa using q
          rw [q2] at hc
          exact (Option.some.inj hc).symm
        subst this
        exact S'.push fun _ _ => .str _
    · show x.cps.size ≤ i
      rw [List.length_map] at ei
      simp at ei
      omega
  · cases e0
/-- for x in range(n) -/
def iRg (f : FE) : FI := fun ρ => match f ρ with
  | some (.d (.int n), ρ') => if -1000000 ≤ n ∧ n ≤ 1000000 then some ((List.range n.toNat).map fun i => R.d (.int (i : Nat)), ρ') else none
  | _ => none
theorem di_range {e : Expr} {f : FE} {p pos : Pos} (hg : Gl X "range") (hm : X.mg "range" = none) (he : PE X e (tE C f)) (hs : starEach [e] X.env = [(false, eval e X.env)] := by rfl) : PI X tg (.Call (.Name "range" p) [e] [] pos) (tI C (iRg f)) :=
  (pi_range1 hg hm (pa_cons he pa_nil (by rw [hs]; rfl)) hs).dl fun σ H Q h => by
    obtain ⟨ρ, τ, an, rs, ρ', S, e0, k⟩ := h
    unfold iRg at e0
    split at e0
    · rename_i n ρ1 e1
      split at e0
      · rename_i hn
        cases e0
        refine ⟨ρ, τ, an, _, _, S, e1, fun v H1 S1 => ?_⟩
        have ev := S1.here.int_inv
        subst ev
        refine ⟨n, rfl, by omega, by omega, k _ H1 [] AllD.nil S1.pop fun σ' H' ρ2 τ' an' S' _ i => ⟨fun r hr => ?_, fun ei => ?_⟩⟩
        · rw [List.getElem?_map] at hr
          cases q : (List.range n.toNat)[i]? with
          | none =>
            rw [q] at hr
            cases hr
          | some c =>
            rw [q] at hr
            cases hr
            obtain ⟨hlt, hc⟩ := List.getElem?_eq_some_iff.mp q
            simp at hlt hc
            subst hc
            refine ⟨(show i < n.toNat by omega), fun w H'' y => ?_⟩
            obtain ⟨rfl, rfl⟩ := y
            rw [Int.zero_add]
            exact S'.push fun _ _ => .int _
        · show n.toNat ≤ i
          simp at ei
          omega
      · cases e0
    · cases e0
/-- for a, b in zip(x, y) -/
def iZp (f g : FE) : FI := fun ρ => (f ρ).bind fun p => (out1 p.1 p.2).bind fun a => (g a.2).bind fun q => (out1 q.1 q.2).bind fun b => (seqD a.1).bind fun xs => (seqD b.1).map fun ys => ((xs.zip ys).map fun z => R.w [z.1, z.2], b.2)
theorem itd_zp {p q : Src} {d1 d2 : D} {xs ys : List D} (o1 : SrcOk C p d1 xs) (o2 : SrcOk C q d2 ys) (hK : C.K = X.K) : ItD C (Itq X.K p q) ((xs.zip ys).map fun z => R.w [z.1, z.2]) [(.ref p.at, .d d1), (.ref q.at, .d d2)] := fun σ H ρ τ an S hi i => by
  obtain ⟨vs, h1, h2, S1⟩ := o1.see S (hi _ List.mem_cons_self)
  obtain ⟨ws, g1, g2, S2⟩ := o2.see S1 (List.mem_append_right _ (hi _ (List.mem_cons_of_mem _ List.mem_cons_self)))
  rw [hK] at h1 g1
  refine ⟨fun r hr => ?_, fun e => ?_⟩
  · rw [List.getElem?_map] at hr
    cases z : (xs.zip ys)[i]? with
    | none =>
      rw [z] at hr
      cases hr
    | some xy =>
      rw [z] at hr
      cases hr
      obtain ⟨x, y⟩ := xy
      rw [List.getElem?_zip_eq_some] at z
      obtain ⟨zx, zy⟩ := z
      have l1 : i < vs.length := by
        rw [h2]
        exact (List.getElem?_eq_some_iff.mp zx).1
      have l2 : i < ws.length := by
        rw [g2]
        exact (List.getElem?_eq_some_iff.mp zy).1
      refine ⟨⟨vs, ws, vs[i], ws[i], h1, g1, by simp [l1], by simp [l2]⟩, fun v H' y' => ?_⟩
      obtain ⟨T, v1, v2, rfl, hT, rfl, k1, k2⟩ := y'
      have e1 := k1 vs h1
      have e2 := k2 ws g1
      obtain ⟨fp, s⟩ := S2.grow (Le.new (o := .tup [v1, v2]) hT)
      refine ⟨fp, s.tmps fun t ht => ?_⟩
      rcases List.mem_cons.mp ht with rfl | ht
      · refine ⟨T, [v1, v2], rfl, Or.inl (Or.inl (msk_of (fun z => s.nots z upd_same) upd_same)), DnL.cons ?_ (DnL.cons ?_ DnL.nil)⟩
        · exact s.tmp _ (List.mem_append_right _ (List.mem_append_left _ (mem_tz e1 zx)))
        · exact s.tmp _ (List.mem_append_left _ (mem_tz e2 zy))
      · exact s.tmp t (List.mem_append_right _ (List.mem_append_right _ ht))
  · rw [List.length_map, List.length_zip] at e
    refine ⟨vs, ws, h1, g1, by omega, by omega, by omega⟩
theorem di_zip {e1 e2 : Expr} {f g : FE} {p pos tpos : Pos} {elts : List Expr} {kk : Nat} (hK : C.K = X.K) (hg : Gl X "zip") (hm : X.mg "zip" = none) (h1 : PE X e1 (tE C f)) (h2 : PE X e2 (tE C g))
    (hs : starEach [e1, e2] X.env = (false, eval e1 X.env) :: starEach [e2] X.env := by rfl) (hs2 : starEach [e2] X.env = (false, eval e2 X.env) :: starEach [] X.env := by rfl) (hpl : (backTo pos (starEach [e2] X.env)).any (·.1) = false := by rfl) :
    PI X (.Tuple elts kk tpos) (.Call (.Name "zip" p) [e1, e2] [] pos) (tI C (iZp f g)) := by
  refine ⟨fun pins s σ H Rr I h => ?_⟩
  obtain ⟨ρ, τ, an, rs, ρ', S, e0, k⟩ := h
  unfold iZp at e0
  cases z1 : f ρ with
  | none => simp [z1] at e0
  | some p1 =>
    obtain ⟨r1, ρ1⟩ := p1
    cases z2 : out1 r1 ρ1 with
    | none => simp [z1, z2] at e0
    | some q1 =>
      obtain ⟨d1, ρ2⟩ := q1
      cases z3 : g ρ2 with
      | none => simp [z1, z2, z3] at e0
      | some p3 =>
        obtain ⟨r3, ρ3⟩ := p3
        cases z4 : out1 r3 ρ3 with
        | none => simp [z1, z2, z3, z4] at e0
        | some q4 =>
          obtain ⟨d2, ρ4⟩ := q4
          cases z5 : seqD d1 with
          | none => simp [z1, z2, z3, z4, z5] at e0
          | some xs =>
            cases z6 : seqD d2 with
            | none => simp [z1, z2, z3, z4, z5, z6] at e0
            | some ys =>
              simp [z1, z2, z3, z4, z5, z6] at e0
              obtain ⟨rfl, rfl⟩ := e0
              have ha : PA X [e1, e2] (tCons (tE C f) (tCons (tE C g) tNil)) := pa_cons h1 (pa_cons h2 pa_nil hs2) hs
              have start : tCons (tE C f) (tCons (tE C g) tNil) σ H (fun us H1 => ∃ v1 v2, us = [v1, v2] ∧ SD C σ H1 ρ4 ((v2, .d d2) :: (v1, .d d1) :: τ) an) := by
                refine ⟨ρ, τ, an, r1, ρ1, S, z1, fun v1 H1 S1 => ?_⟩
                refine ⟨ρ2, _, an, r3, ρ3, out1_ok S1 z2, z3, fun v2 H2 S2 => ⟨v1, v2, rfl, out1_ok S2 z4⟩⟩
              refine PyProof.Rows.Call_ (ld_blt I hg hm PyProof.Rows.boot_zip (PyProof.Rows.callWith_type1 (thn (ha.run pos pins s σ H _ I start) fun us s1 w => ?_) hs hpl))
              obtain ⟨vs, H1, I1, rv, v1, v2, rfl, S1⟩ := w
              obtain ⟨q, rfl, ok2⟩ := srcOk_of z6 S1
              obtain ⟨p', rfl, ok1⟩ := srcOk_of z5 S1.pop
              obtain ⟨u1, u2, rfl, rv1, rv2⟩ := Vals.two rv
              cases rv1
              cases rv2
              obtain ⟨as, m1, l1, _⟩ := ok1.see S1 (List.mem_cons_of_mem _ List.mem_cons_self)
              obtain ⟨bs, m2, l2, _⟩ := ok2.see S1 List.mem_cons_self
              rw [hK] at m1 m2
              obtain ⟨us1, t1, c1, lt1⟩ := Src.see I1 m1
              obtain ⟨us2, t2, c2, lt2⟩ := Src.see I1 m2
              refine zip_begins2 (p'.begins us1.toArray) (q.begins us2.toArray) c1 c2 fun h' hz hTI hTO g1 g2 hsz hk => wpAny_pyIter_zip hz ?_
              have I2 : L2.Inv X pins σ H1 { s1 with heap := h' } := I1.kept (t' := s1.toks) hk
              have sep := zip_sep2 (N := s1.heap.objs.size) (fp1 := [p'.at]) (fp2 := [q.at]) (fun b hb => by rw [List.mem_singleton.mp hb]; exact lt1) (fun b hb => by rw [List.mem_singleton.mp hb]; exact lt2)
              have lt2' : q.at < s1.heap.objs.size + 1 := Nat.lt_succ_of_lt lt2
              refine ⟨s1.heap.objs.size + 4, [s1.heap.objs.size + 4, s1.heap.objs.size + 2, s1.heap.objs.size + 3, s1.heap.objs.size, s1.heap.objs.size + 1], _, _, H1, rfl, I2, turn_q sep (Nat.ne_of_lt lt1) (Nat.ne_of_lt lt2'),
                ⟨hz, hTI, ⟨_, _, hTO⟩, Src.start g1, Src.start g2⟩, fun c hcm => ?_, k _ H1 [(.ref p'.at, .d d1), (.ref q.at, .d d2)] (AllD.cons (AllD.cons AllD.nil)) (S1.sub fun t ht => ?_) (itd_zp ok1 ok2 hK)⟩
              · have hle : s1.heap.objs.size ≤ c := by
                  have ec : c = s1.heap.objs.size + 4 ∨ c = s1.heap.objs.size + 2 ∨ c = s1.heap.objs.size + 3 ∨ c = s1.heap.objs.size ∨ c = s1.heap.objs.size + 1 := by simpa using hcm
                  rcases ec with e | e | e | e | e
                  all_goals
                    rw [e]
                    first | exact Nat.le_add_right _ _ | exact Nat.le_refl _
                exact I1.fpOk hle (I1.hok.fresh hle)
              · rcases List.mem_append.mp ht with ht | ht
                · rcases List.mem_cons.mp ht with rfl | ht
                  · exact List.mem_cons_of_mem _ List.mem_cons_self
                  · rw [List.mem_singleton.mp ht]
                    exact List.mem_cons_self
                · exact List.mem_cons_of_mem _ (List.mem_cons_of_mem _ ht)
end
end DL
namespace DL
open PySem L2

def mutIn (H : Hp) : Addr → Prop := fun a => ∃ o, H a = some o ∧ Mt o
/-- what a def of data promises -/
def spF (K : PySem.W.Frag) (n : Nat) (m : List D → Option D) : Sp := fun vs H Q _ => vs.length = n ∧ ∃ ds d, DnL K H vs ds ∧ m ds = some d ∧ ∀ v H', Le H H' → Dn K (msk (mutIn H) H') v d → Q v H'

section
variable {C : Fr} {X : Cx} {σ : L2.St} {H H' : Hp} {ρ ρ' : Rho} {τ : List (V × R)} {an : List (Addr × HO)} {v : V} {r : R} {x y z : D} {G : Ends}
theorem SDf.oo {fp : Nat → List Addr} (s : SDf C fp σ H ρ τ an) {a : Addr} (h : OO C.F fp an a) : mutIn H a := by
  rcases h with h | ⟨i, h⟩ | ⟨w, h⟩
  · exact (s.frn a h).2
  · exact (s.own i a h).2
  · obtain ⟨_, h1, h2⟩ := s.ano a w h
    exact ⟨w, h1, h2⟩
/-- behind a call -/
theorem SD.result (S : SD C σ H ρ τ an) (k : Le H H') {d : D} (h : Dn C.K (msk (mutIn H) H') v d) : SD C σ H' ρ ((v, .d d) :: τ) an := by
  obtain ⟨fp, s⟩ := S
  have s' := s.grow k
  refine ⟨fp, s'.tmps fun p hp => ?_⟩
  rcases List.mem_cons.mp hp with rfl | hp
  · exact Dn.mono (le_msk (fun a z => .inl (s.oo z)) fun a o _ e => e) h
  · exact s'.tmp p hp
theorem rdos_ok (S : SD C σ H ρ τ an) : ∀ {vs : List V} {rs : List R} {ds : List D}, vs.length = rs.length → (∀ p ∈ vs.zip rs, p ∈ τ) → rdos ρ rs = some ds → DnL C.K H vs ds
  | [], [], ds, _, _, h => by
    cases h
    exact DnL.nil
  | [], _ :: _, _, h, _, _ => by simp at h
  | _ :: _, [], _, h, _, _ => by simp at h
  | v :: vs, r :: rs, ds, hl, hm, h => by
    unfold rdos at h
    cases e1 : rdo ρ r with
    | none => simp [e1] at h
    | some x =>
      cases e2 : rdos ρ rs with
      | none => simp [e1, e2] at h
      | some xs =>
        simp [e1, e2] at h
        subst h
        exact DnL.cons (S.res (hm _ List.mem_cons_self) e1) (rdos_ok S (by simpa using hl) (fun p hp => hm p (List.mem_cons_of_mem _ hp)) e2)
def eCall (n : Nat) (m : List D → Option D) (f : FA) : FE := fun ρ => (f ρ).bind fun p => if p.1.length = n then (rdos p.2 p.1).bind fun ds => (m ds).map fun d => (.d d, p.2) else none
theorem imp_call {n : Nat} {m : List D → Option D} {f : FA} {E : XK} {Q : VK} (h : tE C (eCall n m f) σ H Q) : tCall (spF C.K n m) [] E (tA C f) σ H Q := by
  obtain ⟨ρ, τ, an, r, ρ', S, e, q⟩ := h
  unfold eCall at e
  cases e1 : f ρ with
  | none => simp [e1] at e
  | some p =>
    obtain ⟨rs, ρ1⟩ := p
    simp only [e1, Option.bind_some] at e
    split at e
    · rename_i hn
      cases e2 : rdos ρ1 rs with
      | none => simp [e2] at e
      | some ds =>
        cases e3 : m ds with
        | none => simp [e2, e3] at e
        | some d =>
          simp [e2, e3] at e
          obtain ⟨rfl, rfl⟩ := e
          refine ⟨ρ, τ, an, rs, _, S, e1, fun vs H1 hl S1 => ?_⟩
          refine ⟨by rw [List.append_nil, hl]; exact hn, ds, d, ?_, e3, fun v H' k hd => q v H' ?_⟩
          · rw [List.append_nil]
            exact rdos_ok S1 hl (fun p hp => List.mem_append_left _ hp) e2
          · exact (S1.result k hd).keepN fun p hp => List.mem_append_right _ hp
    · cases e
section
variable {k n : Nat} {f : Addr} {fd : FuncData} {ps : List Str} {m : List D → Option D} {g : Str} {p pos : Pos} {e : Expr} {es : List Expr} {fa : FA} {CX : CXT}
theorem de_call (hK : C.K = X.K) (F : FnOk X.prog X.w X.K X.mg X.base (L2.CX X.prog X.w) k f fd ps (spF X.K n m)) (hr : Room k X.A) (hg : Gl X g) (hm : X.mg g = some (.ref f)) (hk : PySem.W.keepIn X.K (.ref f) = true) (hb : Binds X.K fd ps [])
    (ha : PA X (e :: es) (tA C fa)) (hdb : (g == ("__debug__" : Str)) = false := by decide) (he : starEach (e :: es) X.env = (false, eval e X.env) :: starEach es X.env := by rfl) (hpl : (backTo pos (starEach es X.env)).any (·.1) = false := by rfl) :
    PE X (.Call (.Name g p) (e :: es) [] pos) (tE C (eCall n m fa)) := by
  rw [← hK] at F
  exact (pe_call (dvs := []) (by rw [hK] at F; exact F) hr hg hm hk hb .nil passL ha hdb he hpl).dl fun _ _ _ h => by
    have z := imp_call (E := E0) h
    rw [hK] at z
    exact z
theorem de_call0 (hK : C.K = X.K) (F : FnOk X.prog X.w X.K X.mg X.base (L2.CX X.prog X.w) k f fd ps (spF X.K n m)) (hr : Room k X.A) (hg : Gl X g) (hm : X.mg g = some (.ref f)) (hk : PySem.W.keepIn X.K (.ref f) = true) (hb : Binds X.K fd ps [])
    (hdb : (g == ("__debug__" : Str)) = false := by decide) : PE X (.Call (.Name g p) [] [] pos) (tE C (eCall n m aNil)) :=
  (pe_call0 (dvs := []) F hr hg hm hk hb .nil passL hdb).dl fun σ H Q h => by
    have z := imp_call (E := E0) h
    rw [hK] at z
    obtain ⟨ρ, τ, an, rs, ρ', S, e, q⟩ := z
    cases e
    exact q [] H rfl S
/-- keywords behind positional arguments, in the parameters' order -/
def gpos (α : Type) (j : Nat) (us ws : List α) : List α := if us.length = j then us ++ ws else []
theorem gpos_rel {j : Nat} {vs : List V} {us : List Value} {zs : List V} {ws : List Value} (a : Vals vs us) (b : Vals zs ws) : Vals (gpos V j vs zs) (gpos Value j us ws) := by
  unfold gpos
  rw [a.length]
  split
  · exact a.append b
  · exact .nil
def aApp (f g : FA) : FA := fun ρ => (f ρ).bind fun p => (g p.2).map fun q => (p.1 ++ q.1, q.2)
theorem aApp_inv {f g : FA} {rs : List R} (h : aApp f g ρ = some (rs, ρ')) : ∃ as ρ1 bs, f ρ = some (as, ρ1) ∧ g ρ1 = some (bs, ρ') ∧ rs = as ++ bs := by
  unfold aApp at h
  cases e1 : f ρ with
  | none => simp [e1] at h
  | some p =>
    obtain ⟨a, ρ1⟩ := p
    cases e2 : g ρ1 with
    | none => simp [e1, e2] at h
    | some q =>
      obtain ⟨bs, ρ2⟩ := q
      simp [e1, e2] at h
      obtain ⟨rfl, rfl⟩ := h
      exact ⟨a, ρ1, bs, rfl, e2, rfl⟩
theorem _root_.L2.PK.dl {kws : List Keyword} {t t' : TA} (h : PK X kws t) (k : ∀ σ H Q, t' σ H Q → t σ H Q) : PK X kws t' := ⟨fun pos pins s σ H Q I q => h.run pos pins s σ H Q I (k σ H Q q)⟩
theorem dk_nil : PK X [] (tA C aNil) := pk_nil.dl fun _ _ _ h => imp_nil h
theorem dk_cons {nm : Option Str} {kpos : Pos} {kws : List Keyword} {fe : FE} {fk : FA} (ha : PE X e (tE C fe)) (hr : PK X kws (tA C fk)) : PK X (⟨nm, e, kpos⟩ :: kws) (tA C (aCons fe fk)) := (pk_cons ha hr).dl fun _ _ _ h => imp_cons h
theorem imp_callK {j : Nat} {fk : FA} {E : XK} {Q : VK} (hj : ∀ ρ rs ρ', fa ρ = some (rs, ρ') → rs.length = j) (h : tE C (eCall n m (aApp fa fk)) σ H Q) : tCallK (spF C.K n m) (gpos V j) E (tA C fa) (tA C fk) σ H Q := by
  obtain ⟨ρ, τ, an, r, ρ', S, e, q⟩ := h
  unfold eCall at e
  cases e1 : aApp fa fk ρ with
  | none => simp [e1] at e
  | some p =>
    obtain ⟨rs, ρ1⟩ := p
    obtain ⟨as, ρ2, bs, h1, h2, rfl⟩ := aApp_inv e1
    simp only [e1, Option.bind_some] at e
    split at e
    · rename_i hn
      cases e2 : rdos ρ1 (as ++ bs) with
      | none => simp [e2] at e
      | some ds =>
        cases e3 : m ds with
        | none => simp [e2, e3] at e
        | some d =>
          simp [e2, e3] at e
          obtain ⟨rfl, rfl⟩ := e
          refine ⟨ρ, τ, an, as, ρ2, S, h1, fun vs H1 hl S1 => ⟨ρ2, _, an, bs, _, S1, h2, fun zs H2 hl2 S2 => ?_⟩⟩
          have ej : gpos V j vs zs = vs ++ zs := if_pos (by rw [hl]; exact hj _ _ _ h1)
          have hz : (vs ++ zs).zip (as ++ bs) = vs.zip as ++ zs.zip bs := List.zip_append hl
          refine ⟨by rw [ej, List.length_append, hl, hl2, ← List.length_append]; exact hn, ds, d, ?_, e3, fun v H' k hd => q v H' ?_⟩
          · rw [ej]
            refine rdos_ok S2 (by rw [List.length_append, List.length_append, hl, hl2]) (fun p hp => ?_) e2
            rw [hz] at hp
            rcases List.mem_append.mp hp with hp | hp
            · exact List.mem_append_right _ (List.mem_append_left _ hp)
            · exact List.mem_append_left _ hp
          · exact (S2.result k hd).keepN fun p hp => List.mem_append_right _ (List.mem_append_right _ hp)
    · cases e
theorem de_callK {j : Nat} {kws : List Keyword} {fk : FA} {ks : List Str} (hK : C.K = X.K) (F : FnOk X.prog X.w X.K X.mg X.base (L2.CX X.prog X.w) k f fd ps (spF X.K n m)) (hr : Room k X.A) (hg : Gl X g) (hm : X.mg g = some (.ref f)) (hk : PySem.W.keepIn X.K (.ref f) = true) (hb : KBinds X.K fd ps ks (gpos Value j) (gpos V j))
    (ha : PA X (e :: es) (tA C fa)) (hkw : PK X kws (tA C fk)) (hj : ∀ ρ rs ρ', fa ρ = some (rs, ρ') → rs.length = j) (hall : (backToKw pos (keywordEach kws X.env)).all (·.1.isSome) = true := by rfl) (hks : (backToKw pos (keywordEach kws X.env)).filterMap (·.1) = ks := by rfl)
    (hdb : (g == ("__debug__" : Str)) = false := by decide) (he : starEach (e :: es) X.env = (false, eval e X.env) :: starEach es X.env := by rfl)
    (hpl : ((backTo pos (starEach (e :: es) X.env)).any (·.1) || (backToKw pos (keywordEach kws X.env)).any (·.1.isNone)) = false := by rfl) :
    PE X (.Call (.Name g p) (e :: es) kws pos) (tE C (eCall n m (aApp fa fk))) :=
  (pe_callK F hr hg hm hk hb passL ha hkw hall hks hdb he hpl).dl fun σ H Q h => by
    have z := imp_callK (E := E0) hj h
    rw [hK] at z
    exact z
/-- keywords alone -/
theorem de_callK0 {kws : List Keyword} {fk : FA} {ks : List Str} (hK : C.K = X.K) (F : FnOk X.prog X.w X.K X.mg X.base (L2.CX X.prog X.w) k f fd ps (spF X.K n m)) (hr : Room k X.A) (hg : Gl X g) (hm : X.mg g = some (.ref f)) (hk : PySem.W.keepIn X.K (.ref f) = true) (hb : KBinds X.K fd ps ks (gpos Value 0) (gpos V 0))
    (hkw : PK X kws (tA C fk)) (hall : (backToKw pos (keywordEach kws X.env)).all (·.1.isSome) = true := by rfl) (hks : (backToKw pos (keywordEach kws X.env)).filterMap (·.1) = ks := by rfl)
    (hdb : (g == ("__debug__" : Str)) = false := by decide) (hpl : (backToKw pos (keywordEach kws X.env)).any (·.1.isNone) = false := by rfl) :
    PE X (.Call (.Name g p) [] kws pos) (tE C (eCall n m (aApp aNil fk))) := by
  refine ⟨fun pins s σ H Q I h => ?_⟩
  have z := imp_callK (E := E0) (j := 0) (fa := aNil) (fun ρ rs ρ' e => by cases e; rfl) h
  rw [hK] at z
  obtain ⟨ρ, τ, an, rs, ρ', S, e, q⟩ := z
  cases e
  have z := q [] H rfl S
  refine wpAny_Call_Name_kw (ld_glob I hg hm ?_ hdb)
  refine PySem.W.callWith_KW0 (h₀ := X.base) I.ok.mod.kin hk hall (thn (hkw.run pos pins s σ H _ I z) fun ws s2 w => ?_) hpl
  obtain ⟨zs, H2, I2, rz, q2⟩ := w
  refine ⟨I2.kIn, ?_⟩
  rw [hks]
  exact run_fnk (us := []) (vs := []) F hr hb passL I2 .nil rz q2
end

/-! ### a def of data, by its body -/
def pad (n : Nat) (bs : List B) : Rho := bs.map some ++ List.replicate (n - bs.length) none
def endD : Out → Option D
  | .ret d _ => some d
  | .next _ => some .none
  | _ => none
def runA (n : Nat) (F : FS) (ds : List D) : Option D := ((F (pad n (ds.map B.d))).bind endD).bind fun d => if imm d = true then some d else none
def bindArg (x : D) : Option B := if imm x = true then some (.d x) else match x with
  | .list xs => if immL xs = true then some (.r xs) else none
  | _ => none
def bindArgs : List D → Option (List B)
  | [] => some []
  | x :: xs => (bindArg x).bind fun b => (bindArgs xs).map fun bs => b :: bs
def runB (n : Nat) (F : FS) (ds : List D) : Option D := (bindArgs ds).bind fun bs => (F (pad n bs)).bind endD
theorem bindArgs_len : ∀ {ds : List D} {bs : List B}, bindArgs ds = some bs → bs.length = ds.length
  | [], bs, h => by
    cases h
    rfl
  | x :: xs, bs, h => by
    unfold bindArgs at h
    cases e1 : bindArg x with
    | none => simp [e1] at h
    | some b =>
      cases e2 : bindArgs xs with
      | none => simp [e1, e2] at h
      | some cs =>
        simp [e1, e2] at h
        subst h
        simp [bindArgs_len e2]
theorem bindArgs_at : ∀ {ds : List D} {bs : List B} {i : Nat} {b : B}, bindArgs ds = some bs → bs[i]? = some b → ∃ x, ds[i]? = some x ∧ bindArg x = some b
  | [], bs, i, b, h, e => by
    cases h
    simp at e
  | x :: xs, bs, i, b, h, e => by
    unfold bindArgs at h
    cases e1 : bindArg x with
    | none => simp [e1] at h
    | some c =>
      cases e2 : bindArgs xs with
      | none => simp [e1, e2] at h
      | some cs =>
        simp [e1, e2] at h
        subst h
        cases i with
        | zero =>
          simp at e
          subst e
          exact ⟨x, rfl, e1⟩
        | succ i => exact bindArgs_at e2 (i := i) (by simpa using e)
theorem pad_at {n : Nat} {bs : List B} {i : Nat} {b : B} (h : (pad n bs)[i]? = some (some b)) : bs[i]? = some b := by
  unfold pad at h
  by_cases hi : i < bs.length
  · rw [List.getElem?_append_left (by simpa using hi), List.getElem?_map] at h
    cases e : bs[i]? with
    | none =>
      rw [e] at h
      cases h
    | some c =>
      rw [e] at h
      cases h
      rfl
  · rw [List.getElem?_append_right (by simpa using hi), List.getElem?_replicate] at h
    split at h <;> cases h
theorem start_at {N : List Str} {vs : List V} {i : Nat} {v : V} (h : vs[i]? = some v) : (start N vs)[i]? = some (some v) := by
  have hi := (List.getElem?_eq_some_iff.mp h).1
  unfold L2.start
  rw [List.getElem?_append_left (by simpa using hi), List.getElem?_map, h]
  rfl
theorem pad_len {N : List Str} {vs : List V} {bs : List B} (h : vs.length = bs.length) : (pad N.length bs).length = (start N vs).length := by
  unfold pad L2.start
  simp [h]
theorem mt_hide {H H' : Hp} (k : Le H H') : ∀ a xs, Rd H' a (.tup xs) → ¬ mutIn H a := fun a xs h z => by
  obtain ⟨o, h1, h2⟩ := z
  exact Mt.ntup (k a o h1) h2 xs h
/-- the entry, all arguments as data -/
theorem sd_startA {K : PySem.W.Frag} {N : List Str} {vs : List V} {ds : List D} (h : DnL K H vs ds) : SD ⟨K, fun _ => False, fun _ => False, H, none⟩ (start N vs) H (pad N.length (ds.map B.d)) [] [] := by
  have all : Le H (msk (OO (fun _ => False) (fun _ => []) []) H) := fun a o e => msk_of (fun z => by
    rcases z with z | ⟨i, z⟩ | ⟨w, z⟩
    · exact z
    · cases z
    · cases z) e
  refine ⟨fun _ => [], pad_len (by simp [h.1]), fun a o _ e => e, fun a z => z.elim, fun i j a z => (by cases z), fun i a z => (by cases z), List.nodup_nil, fun i a z => (by cases z), fun a o z => (by cases z), fun a z => z.elim, fun i b e => ?_, fun _ _ => rfl, fun p z => (by cases z)⟩
  have e1 := pad_at e
  rw [List.getElem?_map] at e1
  cases e2 : ds[i]? with
  | none =>
    rw [e2] at e1
    cases e1
  | some d =>
    rw [e2] at e1
    cases e1
    obtain ⟨v, h1, h2⟩ := h.at e2
    exact ⟨v, start_at h1, rfl, h2.mono all⟩
/-- the entry, no list of others among data -/
theorem sd_startB {K : PySem.W.Frag} {N : List Str} {vs : List V} {ds : List D} {bs : List B} (h : DnL K H vs ds) (hb : bindArgs ds = some bs) : SD ⟨K, mutIn H, fun _ => False, H, none⟩ (start N vs) H (pad N.length bs) [] [] := by
  have hid : ∀ a xs, Rd H a (.tup xs) → ¬ OO (mutIn H) (fun _ => []) [] a := fun a xs h z => by
    rcases z with z | ⟨i, z⟩ | ⟨w, z⟩
    · exact mt_hide (Le.refl H) a xs h z
    · cases z
    · cases z
  refine ⟨fun _ => [], pad_len (by rw [h.1, bindArgs_len hb]), fun a o _ e => e, fun a z => z.elim, fun i j a z => (by cases z), fun i a z => (by cases z), List.nodup_nil, fun i a z => (by cases z), fun a o z => (by cases z), fun a z => ?_, fun i b e => ?_, fun _ _ => rfl, fun p z => (by cases z)⟩
  · obtain ⟨o, z1, z2⟩ := z
    exact ⟨⟨o, z1⟩, o, z1, z2⟩
  · have e1 := pad_at e
    obtain ⟨x, hx, hbx⟩ := bindArgs_at hb e1
    obtain ⟨v, h1, h2⟩ := h.at hx
    refine ⟨v, start_at h1, ?_⟩
    unfold bindArg at hbx
    split at hbx
    · rename_i hi
      cases hbx
      exact ⟨rfl, h2.hide hid hi⟩
    · split at hbx
      · split at hbx
        · rename_i xs hi
          cases hbx
          obtain ⟨a, us, rfl, g1, g2⟩ := h2.lst_inv
          exact ⟨rfl, a, us, rfl, fun z => z, g1, g2.1, fun j w y p q => (g2.2 j w y p q).hide hid (immL_at hi q)⟩
        · cases hbx
      · cases hbx
section
variable {P : Program} {w : World} {K : PySem.W.Frag} {mg : Str → Option Value} {base : Heap} {n qual : Str} {st : Stmt} {f : Addr} {fd : FuncData} {N ps : List Str} {k : Nat}
/-- a def whose body is walked over data -/
abbrev BodyOk (P : Program) (w : World) (K : PySem.W.Frag) (mg : Str → Option Value) (base : Heap) (N : List Str) (qual : Str) (st : Stmt) (f : Addr) (k : Nat) (F : FS) : Prop :=
  ∀ (C : Fr) (cdv : Value) (A : Around) (outer : List Env) (s : Shared) (H : Hp) (E : XK), C.K = K → Room k (A.deeper (PyProof.Rows.envOfC qual (defScope st) s.heap.objs.size f cdv)) →
    PSs (cxOf (L2.CX P w) P w K mg base N qual (defScope st) f cdv A outer s H E).nox (defBody st) (tS C F)
theorem fnA {F : FS} (Fn : Fun K n qual st f fd) (S : FnScope N ps (defScope st)) (hb : BodyOk P w K mg base N qual st f k F) : FnOk P w K mg base (L2.CX P w) (k + 1) f fd ps (spF K ps.length (runA N.length F)) := by
  refine Fn.okX S (fun vs H Q E h => h.1) fun cdv A outer s H vs Q E hr h => ?_
  obtain ⟨hl, ds, d, hd, hm, q⟩ := h
  let C : Fr := ⟨K, fun _ => False, fun _ => False, H, none⟩
  refine ⟨_, (hb C cdv A outer s H E rfl hr).nox, ?_⟩
  unfold runA at hm
  cases e1 : F (pad N.length (ds.map B.d)) with
  | none => simp [e1] at hm
  | some o =>
    cases e2 : endD o with
    | none => simp [e1, e2] at hm
    | some d' =>
      simp [e1, e2] at hm
      obtain ⟨hi, rfl⟩ := hm
      refine ⟨_, [], [], o, AllD.nil, sd_startA hd, e1, ?_⟩
      have le : ∀ {σ : L2.St} {H' : Hp} {ρ' : Rho} {τ : List (V × R)}, SD C σ H' ρ' τ [] → Le H H' := fun S' => by
        obtain ⟨fp, s'⟩ := S'
        exact fun a o e => s'.ext a o (fun z => z) e
      cases o with
      | next ρ' =>
        cases e2
        exact fun σ' H' S' => q .non H' (le S') .non
      | ret d2 ρ' =>
        cases e2
        exact fun v σ' H' S' => q v H' (le S') (S'.here.hide (mt_hide (le S')) hi)
      | brk ρ' => cases e2
      | cont ρ' => cases e2
theorem fnB {F : FS} (Fn : Fun K n qual st f fd) (S : FnScope N ps (defScope st)) (hb : BodyOk P w K mg base N qual st f k F) : FnOk P w K mg base (L2.CX P w) (k + 1) f fd ps (spF K ps.length (runB N.length F)) := by
  refine Fn.okX S (fun vs H Q E h => h.1) fun cdv A outer s H vs Q E hr h => ?_
  obtain ⟨hl, ds, d, hd, hm, q⟩ := h
  let C : Fr := ⟨K, mutIn H, fun _ => False, H, none⟩
  refine ⟨_, (hb C cdv A outer s H E rfl hr).nox, ?_⟩
  unfold runB at hm
  cases e0 : bindArgs ds with
  | none => simp [e0] at hm
  | some bs =>
    cases e1 : F (pad N.length bs) with
    | none => simp [e0, e1] at hm
    | some o =>
      simp only [e0, e1, Option.bind_some] at hm
      refine ⟨_, [], [], o, AllD.nil, sd_startB hd e0, e1, ?_⟩
      have le : ∀ {σ : L2.St} {H' : Hp} {ρ' : Rho} {τ : List (V × R)}, SD C σ H' ρ' τ [] → Le H H' := fun S' => by
        obtain ⟨fp, s'⟩ := S'
        exact fun a o e => s'.ext a o (fun z => z) e
      cases o with
      | next ρ' =>
        cases hm
        exact fun σ' H' S' => q .non H' (le S') .non
      | ret d2 ρ' =>
        cases hm
        refine fun v σ' H' S' => q v H' (le S') ?_
        obtain ⟨fp, s'⟩ := S'
        exact Dn.mono (le_msk (fun a z => .inl (.inl z)) fun a o _ e => e) (s'.tmp _ List.mem_cons_self)
      | brk ρ' => cases hm
      | cont ρ' => cases hm
end
end
end DL
namespace DL
open PySem L2

section
variable {C : Fr} {X : Cx} {fp : Nat → List Addr} {σ : L2.St} {H H' : Hp} {ρ ρ' : Rho} {τ : List (V × R)} {an an' : List (Addr × HO)} {v : V} {r : R} {x y z : D} {G : Ends} {p : Addr} {o : HO}

theorem SD.anp (S : SD C σ H ρ τ an) (h : an.Perm an') : SD C σ H ρ τ an' := by
  obtain ⟨fp, s⟩ := S
  have e : OO C.F fp an = OO C.F fp an' := by
    funext a
    unfold OO
    simp only [h.mem_iff]
  refine ⟨fp, s.len, s.ext, s.vol, s.inj, fun i a q w z => s.ani i a q w (h.mem_iff.mpr z), (h.map _).nodup_iff.mp s.and, s.own, fun a w q => s.ano a w (h.mem_iff.mpr q), s.frn, fun i b q => ?_, s.emp, fun q hq => ?_⟩
  · rw [← e]
    exact s.bnd i b q
  · rw [← e]
    exact s.tmp q hq
/-- a cell of nobody's is forgotten -/
theorem SD.forget (S : SD C σ H ρ τ ((p, o) :: an)) : SD C σ H ρ τ an := by
  obtain ⟨fp, s⟩ := S
  have m : Le (msk (OO C.F fp ((p, o) :: an)) H) (msk (OO C.F fp an) H) := le_msk (fun a h => by
    rcases h with h | h | ⟨w, h⟩
    · exact .inl (.inl h)
    · exact .inl (.inr (.inl h))
    · exact .inl (.inr (.inr ⟨w, List.mem_cons_of_mem _ h⟩))) fun a u _ e => e
  refine ⟨fp, s.len, s.ext, s.vol, s.inj, fun i a h w z => s.ani i a h w (List.mem_cons_of_mem _ z), (List.nodup_cons.mp s.and).2, s.own, fun a w h => s.ano a w (List.mem_cons_of_mem _ h), s.frn, fun i b e => ?_, s.emp, fun q hq => (s.tmp q hq).mono m⟩
  obtain ⟨v, h1, h2⟩ := s.bnd i b e
  exact ⟨v, h1, h2.mono m fun a _ u e => e⟩
theorem SD.cell (S : SD C σ H ρ τ an) (h : (p, o) ∈ an) : H p = some o := let ⟨_, s⟩ := S; (s.ano p o h).2.1

/-! ### dicts with text keys -/
abbrev FM := Rho → Option (List (Str × D) × Rho)
abbrev keysT (kvs : List (Str × D)) : List Key := kvs.map fun p => Sum.inr p.1
abbrev tzm (vs : List (Key × V)) (kvs : List (Str × D)) : List (V × R) := tz (vs.map (·.2)) (kvs.map (·.2))
/-- a new dict, nobody else's -/
def tM (C : Fr) (f : FM) : TE := fun σ H Q => ∃ ρ τ an kvs ρ', SD C σ H ρ τ an ∧ f ρ = some (kvs, ρ') ∧ ∀ p vs H', vs.map (·.1) = keysT kvs → SD C σ H' ρ' (tzm vs kvs ++ τ) ((p, .dK vs) :: an) → Q (.ref p) H'
/-- pairs of a text and data -/
def pairsD : List D → Option (List (Str × D))
  | [] => some []
  | .tuple [.str k, x] :: xs => (pairsD xs).map fun kvs => (k, x) :: kvs
  | _ :: _ => none
theorem pairsD_inv : ∀ {xs : List D} {kvs : List (Str × D)}, pairsD xs = some kvs → xs = kvs.map fun p => PyData.tuple [.str p.1, p.2]
  | [], kvs, h => by
    cases h
    rfl
  | x :: xs, kvs, h => by
    unfold pairsD at h
    split at h
    · rename_i e
      cases e
    · rename_i k y ys e
      injection e with e1 e2
      subst e2
      cases e3 : pairsD xs with
      | none => simp [e3] at h
      | some ws =>
        simp [e3] at h
        subst h
        rw [e1, pairsD_inv e3]
        rfl
    · cases h
def dictD : D → Option (List (Str × D))
  | .list xs => pairsD xs
  | .tuple xs => pairsD xs
  | _ => none
def mDict (f : FE) : FM := fun ρ => (f ρ).bind fun p => (rdo p.2 p.1).bind fun x => (dictD x).bind fun kvs => if (kvs.map (·.1)).Nodup ∧ kvs.length ≤ sizeLine then some (kvs, p.2) else none
def rDict (C : Fr) : List V → Hp → VK → Prop := fun xs H Q => ∃ σ ρ τ an x a y kvs, xs = [x] ∧ SD C σ H ρ ((x, a) :: τ) an ∧ rdo ρ a = some y ∧ dictD y = some kvs ∧ (kvs.map (·.1)).Nodup ∧ kvs.length ≤ sizeLine ∧
  ∀ p vs H', vs.map (·.1) = keysT kvs → SD C σ H' ρ (tzm vs kvs ++ τ) ((p, .dK vs) :: an) → Q (.ref p) H'
theorem imp_dict {f : FE} {Q : VK} (h : tM C (mDict f) σ H Q) : tCB (rDict C) (tA C (aCons f aNil)) σ H Q := by
  obtain ⟨ρ, τ, an, zs, ρ', S, e, q⟩ := h
  unfold mDict at e
  cases e1 : f ρ with
  | none => simp [e1] at e
  | some p =>
    obtain ⟨a, ρ1⟩ := p
    cases e2 : rdo ρ1 a with
    | none => simp [e1, e2] at e
    | some y =>
      cases e3 : dictD y with
      | none => simp [e1, e2, e3] at e
      | some ws =>
        simp only [e1, e2, e3, Option.bind_some] at e
        split at e
        · rename_i hn
          cases e
          refine ⟨ρ, τ, an, [a], ρ', S, by simp [aCons, aNil, e1], fun vs H1 hl S1 => ?_⟩
          obtain ⟨x, rfl⟩ := one_of hl
          exact ⟨σ, _, τ, an, x, a, y, _, rfl, S1, e2, e3, hn.1, hn.2, q⟩
        · cases e
/-- the pairs' parts -/
theorem pairs_parts {K : PySem.W.Frag} : ∀ {kvs : List (Str × D)} {vs : List V}, DnL K H vs (kvs.map fun p => PyData.tuple [.str p.1, p.2]) → ∃ (ps : List Addr) (ws : List V), vs = ps.map V.ref ∧ ps.length = kvs.length ∧ ws.length = kvs.length ∧ DnL K H ws (kvs.map (·.2)) ∧
    ∀ (j : Nat) b w, ps[j]? = some b → ws[j]? = some w → ∀ k d, kvs[j]? = some (k, d) → TpS H b [.str k, w]
  | [], [], _ => ⟨[], [], rfl, rfl, rfl, DnL.nil, fun j b w e => by simp at e⟩
  | [], _ :: _, h => by simp [DnL] at h
  | _ :: _, [], h => by simp [DnL] at h
  | kv :: kvs, v :: vs, h => by
    obtain ⟨h1, h2⟩ := DnL.head h
    obtain ⟨ps, ws, rfl, l1, l2, d2, t2⟩ := pairs_parts h2
    obtain ⟨a, xs, rfl, t1, t3⟩ := h1.tup_inv
    match xs, t3 with
    | [u, w], t3 =>
      obtain ⟨g1, g2⟩ := DnL.head t3
      obtain ⟨g3, g4⟩ := DnL.head g2
      have e := g1.str_inv
      subst e
      refine ⟨a :: ps, w :: ws, rfl, by simp [l1], by simp [l2], .cons g3 d2, fun j b w' e1 e2 k d e3 => ?_⟩
      cases j with
      | zero =>
        simp at e1 e2 e3
        subst e1
        subst e2
        rw [e3] at t1
        exact t1
      | succ j => exact t2 j b w' (by simpa using e1) (by simpa using e2) k d (by simpa using e3)
    | [], t3 => simp [DnL] at t3
    | [_], t3 => simp [DnL] at t3
    | _ :: _ :: _ :: _, t3 => simp [DnL] at t3
theorem merged_nodup {κ : Type} [DecidableEq κ] : ∀ (more acc : List (κ × Value)), ((acc ++ more).map (·.1)).Nodup → merged acc more = acc ++ more
  | [], acc, _ => by simp [merged]
  | q :: more, acc, h => by
    have e : stored acc q.1 q.2 = acc ++ [q] := by
      unfold stored
      rw [if_neg]
      rw [List.map_append, List.nodup_append] at h
      intro z
      obtain ⟨u, hu, hz⟩ := List.any_eq_true.mp z
      exact h.2.2 u.1 (List.mem_map.mpr ⟨u, hu, rfl⟩) q.1 (List.mem_map.mpr ⟨q, List.mem_cons_self, rfl⟩) (by simpa using hz)
    show merged (stored acc q.1 q.2) more = _
    rw [e, merged_nodup more (acc ++ [q]) (by simpa using h)]
    simp
theorem kv_zip : ∀ {ks : List Str} {ws : List V} {us : List Value}, ks.length = ws.length → Vals ws us → KV ((ks.map Sum.inr).zip ws) ((ks.map (Sum.inr : Str → Key)).zip us)
  | [], [], _, _, .nil => .nil
  | [], _ :: _, _, h, _ => by simp at h
  | _ :: _, [], _, h, _ => by simp at h
  | k :: ks, w :: ws, _, h, .cons r t => .cons ⟨rfl, r⟩ (kv_zip (by simpa using h) t)
theorem vals_at : ∀ {ws : List V} {us : List Value} {j : Nat} {u : Value}, Vals ws us → us[j]? = some u → ∃ w, ws[j]? = some w ∧ RelV w u
  | _, _, j, u, .nil, e => by simp at e
  | _, _, 0, u, .cons r t, e => by
    simp at e
    subst e
    exact ⟨_, rfl, r⟩
  | _, _, j + 1, u, .cons r t, e => by
    obtain ⟨w, h1, h2⟩ := vals_at t (j := j) (by simpa using e)
    exact ⟨w, by simpa using h1, h2⟩
/-- values for items -/
theorem vals_ex {pins : List (Addr × Obj)} {s : Shared} (I : L2.Inv X pins σ H s) : ∀ {ps : List Addr} {ks : List Str} {ws : List V}, ps.length = ks.length → ws.length = ks.length → (∀ (j : Nat) b w k, ps[j]? = some b → ws[j]? = some w → ks[j]? = some k → TpS H b [.str k, w]) →
    ∃ us ts : List Value, Vals ws us ∧ ts.length = us.length ∧ ∀ (j : Nat) b k u, ps[j]? = some b → ks[j]? = some k → us[j]? = some u → ∃ t, ts[j]? = some t ∧ PyProof.Rows.IsTup s.heap b #[t, u] ∧ (mixKind X.prog X.w).is (Sum.inr k) t = true
  | [], [], [], _, _, _ => ⟨[], [], .nil, rfl, fun j b k u e => by simp at e⟩
  | [], [], _ :: _, _, h, _ => by simp at h
  | [], _ :: _, _, h, _, _ => by simp at h
  | _ :: _, [], _, h, _, _ => by simp at h
  | _ :: _, _ :: _, [], _, h, _ => by simp at h
  | b :: ps, k :: ks, w :: ws, h1, h2, h3 => by
    obtain ⟨us, ts, r, l, q⟩ := vals_ex I (ps := ps) (ks := ks) (ws := ws) (by simpa using h1) (by simpa using h2) fun j b w k e1 e2 e3 => h3 (j + 1) b w k (by simpa using e1) (by simpa using e2) (by simpa using e3)
    obtain ⟨its, rv, ht, _⟩ := I.tuple ((h3 0 b w k rfl rfl rfl).sq (K := X.K))
    obtain ⟨t, u, ei, ru, ry⟩ := vals2 rv
    subst ei
    refine ⟨u :: us, t :: ts, .cons ry r, by simp [l], fun j b' k' u' e1 e2 e3 => ?_⟩
    cases j with
    | zero =>
      simp at e1 e2 e3
      subst e1
      subst e2
      subst e3
      exact ⟨t, rfl, ht, kV_is (P := X.prog) (w := X.w) (k := Sum.inr k) ru⟩
    | succ j =>
      obtain ⟨t', g1, g2, g3⟩ := q j b' k' u' (by simpa using e1) (by simpa using e2) (by simpa using e3)
      exact ⟨t', by simpa using g1, g2, g3⟩
theorem cr_dictG (hK : C.K = X.K) (hc : X.calm = true) : CallR X (.type "dict") (rDict C) := by
  intro pins s σ H xs us Q I r h
  obtain ⟨σ', ρ, τ, an, x, a, y, kvs, rfl, S, h1, h2, hn, hz, q⟩ := h
  obtain ⟨u, rfl, rx⟩ := vals1 r
  have n1 := S.res List.mem_cons_self h1
  have key : ∀ (T : String) (a1 : Addr) (vs : List V), x = .ref a1 → vs.length = kvs.length → DnL C.K H vs (kvs.map fun p => PyData.tuple [.str p.1, p.2]) → SD C σ' H ρ (tz vs (kvs.map fun p => PyData.tuple [.str p.1, p.2]) ++ (x, a) :: τ) an →
      (∀ (items : Array Value) Ts ps, ∃ fp wr OK, PairArg X.prog X.w T a1 fp wr (List.length ps) (PairRel ps) OK ∧ wr = [] ∧ ∀ h, PlainSeq T h a1 items → PairItems h items Ts ps → OK h) →
      (∃ its : List Value, Vals vs its ∧ PlainSeq T s.heap a1 its.toArray) → wpAny (model X.prog X.w) X.A (call (.type "dict") [u]) (EP X pins σ Q) X.xe s := by
    intro T a1 vs ex hl hd S1 hP ⟨its, rv, hp⟩
    subst ex
    cases rx
    obtain ⟨ps, ws, ev, l1, l2, d2, t2⟩ := pairs_parts hd
    subst ev
    have ei := refs_at rv
    subst ei
    obtain ⟨us, ts, rw_, lt, tq⟩ := vals_ex I (ps := ps) (ks := kvs.map (·.1)) (ws := ws) (by simp [l1]) (by simp [l2]) fun j b w k e1 e2 e3 => by
      rw [List.getElem?_map] at e3
      cases e4 : kvs[j]? with
      | none => simp [e4] at e3
      | some q =>
        obtain ⟨k', d⟩ := q
        simp [e4] at e3
        subst e3
        exact t2 j b w e1 e2 k' d e4
    have lu := rw_.length
    obtain ⟨fp, wr, OK, PA, rfl, ok⟩ := hP (ps.map Value.ref).toArray (fun j => ps.getD j 0) (ts.zip us)
    have PI : PairItems s.heap (ps.map Value.ref).toArray (fun j => ps.getD j 0) (ts.zip us) := by
      refine ⟨by simp [lt]; omega, fun j k v e => ?_⟩
      rw [List.getElem?_zip_eq_some] at e
      have hj : j < ps.length := by
        have := (List.getElem?_eq_some_iff.mp e.2).1
        omega
      have hk : j < kvs.length := by omega
      obtain ⟨t, g1, g2, g3⟩ := tq j ps[j] (kvs[j]).1 v (by simp [hj]) (by simp [hk]) e.2
      rw [e.1] at g1
      cases g1
      have ed : ps.getD j 0 = ps[j] := by simp [List.getD, hj]
      show _ = some (Value.ref (ps.getD j 0)) ∧ PairAt s.heap (ps.getD j 0) k v
      rw [ed]
      exact ⟨by simp [hj], Or.inl g2⟩
    have hcl : (ts.zip us).length = kvs.length := by simp [lt]; omega
    have PH : PairsHave (mixKind X.prog X.w) (ts.zip us).length (PairRel (ts.zip us)) ((kvs.map fun p => (Sum.inr p.1 : Key)).zip us) := by
      refine ⟨by simp [lt]; omega, fun i key v e => ?_⟩
      have e : (ts.zip us)[i]? = some (key, v) := e
      rw [List.getElem?_zip_eq_some] at e
      have hj : i < ps.length := by
        have := (List.getElem?_eq_some_iff.mp e.2).1
        omega
      have hk : i < kvs.length := by omega
      obtain ⟨t, g1, g2, g3⟩ := tq i ps[i] (kvs[i]).1 v (by simp [hj]) (by simp [hk]) e.2
      rw [e.1] at g1
      cases g1
      refine ⟨Sum.inr (kvs[i]).1, ?_, g3⟩
      rw [List.getElem?_zip_eq_some]
      exact ⟨by simp [hk], e.2⟩
    have nd : (((kvs.map fun p => (Sum.inr p.1 : Key)).zip us).map (·.1)).Nodup := by
      rw [List.map_fst_zip (by simp; omega)]
      have e : (kvs.map fun p => (Sum.inr p.1 : Key)) = (kvs.map (·.1)).map Sum.inr := by simp
      rw [e]
      exact List.Pairwise.map _ (fun a b h z => h (by injection z)) hn
    refine PySem.call_dict_pairs PA (I.ok.hd hc) (ok _ hp PI) PH (by rw [hcl]; exact hz) fun h' tk hd' k => ?_
    have em := merged_nodup ((kvs.map fun p => (Sum.inr p.1 : Key)).zip us) [] (by simpa using nd)
    rw [List.nil_append] at em
    rw [em] at hd'
    have k' : ∀ b o, s.heap.get? b = some o → h'.get? b = some o := fun b o e => k b o (by simp) e
    have hm : (s.heap.objs.size == sysModules) = false := beq_eq_false_iff_ne.mpr (Nat.ne_of_gt I.big)
    let vs' : List (Key × V) := (kvs.map fun p => (Sum.inr p.1 : Key)).zip ws
    have hkv : KV vs' ((kvs.map fun p => (Sum.inr p.1 : Key)).zip us) := by
      have e : (kvs.map fun p => (Sum.inr p.1 : Key)) = (kvs.map (·.1)).map Sum.inr := by simp
      show KV ((kvs.map fun p => (Sum.inr p.1 : Key)).zip ws) _
      rw [e]
      exact kv_zip (by simp [l2]) rw_
    have e1 : vs'.map (·.1) = keysT kvs := List.map_fst_zip (by simp [l2])
    have e2 : vs'.map (·.2) = ws := List.map_snd_zip (by simp [l2])
    have lv : vs'.length = kvs.length := by simp [vs', l2]
    refine ⟨.ref s.heap.objs.size, upd H s.heap.objs.size (.dK vs'), I.laid (t' := tk) k' (Nat.le_refl _) (show ObjOk X.prog X.w _ _ _ (.dK vs') from ⟨by rw [lv]; exact hz, hm, _, hkv, hd'⟩), rfl, q _ vs' _ e1 ?_⟩
    have S2 : SD C σ' H ρ (tzm vs' kvs ++ (V.ref a1, a) :: τ) an := by
      unfold tzm
      rw [e2]
      obtain ⟨fp', s'⟩ := S1
      refine ⟨fp', s'.tmps fun p hp => ?_⟩
      rcases List.mem_append.mp hp with hp | hp
      · obtain ⟨i, w, d, h1, h2, rfl⟩ := of_tz hp
        have hi : i < kvs.length := by
          have := (List.getElem?_eq_some_iff.mp h1).1
          omega
        have hb : i < ps.length := by omega
        have tt := s'.tmp (.ref ps[i], R.d (.tuple [.str (kvs[i]).1, (kvs[i]).2])) (List.mem_append_left _ (mem_tz (i := i) (by simp [hb]) (by simp [hi])))
        obtain ⟨a', xs, e3, t3, t4⟩ := Dn.tup_inv (show Dn C.K _ (.ref ps[i]) (.tuple [.str (kvs[i]).1, (kvs[i]).2]) from tt)
        cases e3
        have t5 := t2 i ps[i] w (by simp [hb]) h1 (kvs[i]).1 (kvs[i]).2 (by simp [hi])
        obtain ⟨o1, g1, _⟩ := (msk_le _ _).tps t3
        obtain ⟨o2, g2, _⟩ := t5
        rw [g1] at g2
        cases g2
        rw [List.getElem?_map] at h2
        have ed : (kvs[i]).2 = d := by simpa [hi] using h2
        subst ed
        exact (t4.head.2).head.1
      · exact s'.tmp p (List.mem_append_right _ hp)
    refine (S2.fresh (o := .dK vs') (I.hok.fresh (Nat.le_refl _)) trivial).sub fun p hp => ?_
    rcases List.mem_append.mp hp with hp | hp
    · exact List.mem_append_left _ hp
    · exact List.mem_append_right _ (List.mem_cons_of_mem _ hp)
  unfold dictD at h2
  split at h2
  · rename_i ds
    have ed := pairsD_inv h2
    subst ed
    obtain ⟨a1, vs, rfl, t1, l1, S1⟩ := S.items List.mem_cons_self h1
    obtain ⟨a2, vs2, e2, t2, d2⟩ := n1.lst_inv
    cases e2
    rw [t1] at t2
    cases t2
    refine key "list" a1 vs rfl (by simpa using l1) d2 S1 (fun items Ts ps => ⟨_, _, _, PairArg.list a1 items Ts ps, rfl, fun h g1 g2 => ⟨g1, g2⟩⟩) ?_
    obtain ⟨its, rv, pl, _⟩ := I.list (Or.inl (Or.inl t1))
    exact ⟨its, rv, pl⟩
  · rename_i ds
    have ed := pairsD_inv h2
    subst ed
    obtain ⟨a1, vs, rfl, t1, l1, S1⟩ := S.itemsT List.mem_cons_self h1
    obtain ⟨a2, vs2, e2, t2, d2⟩ := n1.tup_inv
    cases e2
    obtain ⟨o1, g1, g3⟩ := t1
    obtain ⟨o2, g2, _⟩ := t2
    rw [g1] at g2
    cases g2
    refine key "tuple" a1 vs rfl (by simpa using l1) d2 S1 (fun items Ts ps => ⟨_, _, _, PairArg.tuple a1 items Ts ps, rfl, fun h g1 g2 => ⟨g1, g2⟩⟩) ?_
    obtain ⟨ho, z, its, rv, ob, he, hcl, n, hdat⟩ := I.hok a1 _ g1
    rw [ho] at he
    cases he
    exact ⟨its, rv, _, n, ho, hcl, g3, hdat⟩
  · cases h2
end
end DL
namespace DL
open PySem L2

section
variable {C : Fr} {X : Cx} {fp : Nat → List Addr} {σ : L2.St} {H H' : Hp} {ρ ρ' : Rho} {τ : List (V × R)} {an an' : List (Addr × HO)} {v : V} {r : R} {x y z : D} {G : Ends} {p : Addr} {o : HO}

/-- a slot takes cells of nobody's for its own -/
theorem SD.storeN {ps : List (Addr × HO)} {b : B} (S : SD C σ H ρ τ (ps ++ an)) (ad : AllD τ) {i : Nat} (hr : i < ρ.length)
    (hb : ∀ O', (∀ w d, (w, R.d d) ∈ τ → Dn C.K (msk O' H) w d) → BOk C O' H (ps.map (·.1)) v b) : SD C (σ.set i (some v)) H (ρ.set i (some b)) τ an := by
  obtain ⟨fp, s⟩ := S
  have hi : i < σ.length := by rw [← s.len]; exact hr
  let fp' : Nat → List Addr := fun j => if j = i then ps.map (·.1) else fp j
  have e1 : fp' i = ps.map (·.1) := if_pos rfl
  have e2 : ∀ {j}, j ≠ i → fp' j = fp j := fun h => if_neg h
  have nd := s.and
  rw [List.map_append, List.nodup_append] at nd
  have pin : ∀ a, a ∈ ps.map (·.1) → ∃ o, (a, o) ∈ ps := fun a h => by
    obtain ⟨⟨a', o⟩, h1, h2⟩ := List.mem_map.mp h
    have h2 : a' = a := h2
    subst h2
    exact ⟨o, h1⟩
  have sub : ∀ j a, a ∈ fp' j → a ∈ fp j ∧ j ≠ i ∨ a ∈ ps.map (·.1) ∧ j = i := fun j a h => by
    by_cases e : j = i
    · subst e
      rw [e1] at h
      exact .inr ⟨h, rfl⟩
    · rw [e2 e] at h
      exact .inl ⟨h, e⟩
  have m : Le (msk (OO C.F fp (ps ++ an)) H) (msk (OO C.F fp' an) H) := le_msk (fun a h => by
    rcases h with h | ⟨j, h⟩ | ⟨w, h⟩
    · exact .inl (.inl h)
    · rcases sub j a h with ⟨h, _⟩ | ⟨h, _⟩
      · exact .inl (.inr (.inl ⟨j, h⟩))
      · obtain ⟨o, h⟩ := pin a h
        exact .inl (.inr (.inr ⟨o, List.mem_append_left _ h⟩))
    · exact .inl (.inr (.inr ⟨w, List.mem_append_right _ h⟩))) fun a u _ e => e
  have pn : ∀ j a, a ∈ ps.map (·.1) → a ∉ fp j := fun j a ha h => by
    obtain ⟨o, ho⟩ := pin a ha
    exact s.ani j a h o (List.mem_append_left _ ho)
  refine ⟨fp', by simp [s.len], s.ext, s.vol, fun j k a h1 h2 => ?_, fun j a h => ?_, nd.2.1, fun j a h => ?_, fun a w h => s.ano a w (List.mem_append_right _ h), s.frn, fun j c e => ?_, fun j h => ?_, fun q hq => ?_⟩
  · rcases sub j a h1 with ⟨q1, n1⟩ | ⟨q1, n1⟩
    · rcases sub k a h2 with ⟨q2, n2⟩ | ⟨q2, n2⟩
      · exact s.inj j k a q1 q2
      · exact absurd q1 (pn j a q2)
    · rcases sub k a h2 with ⟨q2, n2⟩ | ⟨q2, n2⟩
      · exact absurd q2 (pn k a q1)
      · rw [n1, n2]
  · rcases sub j a h with ⟨q1, n1⟩ | ⟨q1, n1⟩
    · exact fun w z => s.ani j a q1 w (List.mem_append_right _ z)
    · exact fun w z => nd.2.2 a q1 a (List.mem_map.mpr ⟨(a, w), z, rfl⟩) rfl
  · rcases sub j a h with ⟨q1, n1⟩ | ⟨q1, n1⟩
    · exact s.own j a q1
    · obtain ⟨o, ho⟩ := pin a q1
      obtain ⟨z0, z1, z2⟩ := s.ano a o (List.mem_append_left _ ho)
      exact ⟨.inr z0, o, z1, z2⟩
  · by_cases hj : j = i
    · subst hj
      rw [List.getElem?_set_self hr] at e
      cases e
      refine ⟨v, List.getElem?_set_self hi, ?_⟩
      rw [e1]
      exact hb _ fun w d hw => Dn.mono m (s.tmp _ hw)
    · rw [List.getElem?_set_ne (Ne.symm hj)] at e
      obtain ⟨w, h1, h2⟩ := s.bnd j c e
      refine ⟨w, by rw [List.getElem?_set_ne (Ne.symm hj)]; exact h1, ?_⟩
      rw [e2 hj]
      exact h2.mono m fun a _ u e => e
  · by_cases hj : j = i
    · subst hj
      exact absurd (List.getElem?_set_self hr) (h _)
    · rw [e2 hj]
      exact s.emp j fun b e => h b (by rw [List.getElem?_set_ne (Ne.symm hj)]; exact e)
  · exact ((s.tmp q hq).mono m).slots (ad q hq)

/-! ### reading a dict with text keys -/
def lkp : List (Str × D) → Str → Option D
  | [], _ => none
  | (k, d) :: kvs, j => if k = j then some d else lkp kvs j
theorem mget : ∀ {vs : List (Key × V)} {kvs : List (Str × D)} {k : Str} {d : D}, vs.map (·.1) = keysT kvs → lkp kvs k = some d → ∃ w, valV vs (Sum.inr k) = some w ∧ (w, R.d d) ∈ tzm vs kvs
  | [], [], _, _, _, h => by cases h
  | [], _ :: _, _, _, h, _ => by simp at h
  | _ :: _, [], _, _, h, _ => by simp at h
  | (k1, w) :: vs, (k2, d2) :: kvs, k, d, h, e => by
    have h1 : k1 = Sum.inr k2 ∧ vs.map (·.1) = keysT kvs := by simpa using h
    obtain ⟨rfl, h2⟩ := h1
    unfold lkp at e
    by_cases hk : k2 = k
    · subst hk
      rw [if_pos rfl] at e
      cases e
      exact ⟨w, valV_pos rfl, List.mem_cons_self⟩
    · rw [if_neg hk] at e
      obtain ⟨w', g1, g2⟩ := mget h2 e
      exact ⟨w', by rw [valV_neg (fun z => hk (by injection z))]; exact g1, List.mem_cons_of_mem _ g2⟩
theorem mget0 : ∀ {vs : List (Key × V)} {kvs : List (Str × D)} {k : Str}, vs.map (·.1) = keysT kvs → lkp kvs k = none → valV vs (Sum.inr k) = none
  | [], _, _, _, _ => rfl
  | _ :: _, [], _, h, _ => by simp at h
  | (k1, w) :: vs, (k2, d2) :: kvs, k, h, e => by
    have h1 : k1 = Sum.inr k2 ∧ vs.map (·.1) = keysT kvs := by simpa using h
    obtain ⟨rfl, h2⟩ := h1
    unfold lkp at e
    by_cases hk : k2 = k
    · rw [if_pos hk] at e
      cases e
    · rw [if_neg hk] at e
      rw [valV_neg (fun z => hk (by injection z))]
      exact mget0 h2 e
/-- dict(e)[k] -/
def eDGet (fm : FM) (fk : FE) : FE := fun ρ => (fm ρ).bind fun p => match fk p.2 with
  | some (.d (.str k), ρ') => (lkp p.1 k).map fun d => (.d d, ρ')
  | _ => none
theorem imp_eDGet {fm : FM} {fk : FE} {Q : VK} (h : tE C (eDGet fm fk) σ H Q) : tDGet (tM C fm) (tE C fk) σ H Q := by
  obtain ⟨ρ, τ, an, r, ρ', S, e, q⟩ := h
  unfold eDGet at e
  cases e1 : fm ρ with
  | none => simp [e1] at e
  | some p =>
    obtain ⟨kvs, ρ1⟩ := p
    simp only [e1, Option.bind_some] at e
    split at e
    · rename_i k ρ2 e2
      cases e3 : lkp kvs k with
      | none => simp [e3] at e
      | some d =>
        simp [e3] at e
        obtain ⟨rfl, rfl⟩ := e
        refine ⟨ρ, τ, an, kvs, ρ1, S, e1, fun p vs H1 hk S1 => ⟨ρ1, _, _, _, ρ2, S1, e2, fun v H2 S2 => ?_⟩⟩
        have ev := S2.here.str_inv
        subst ev
        obtain ⟨w, g1, g2⟩ := mget hk e3
        refine ⟨p, w, rfl, ?_, q w H2 ?_⟩
        · rw [← g1]
          exact DGet.k (k := Sum.inr k) (S2.cell List.mem_cons_self)
        · exact (S2.forget.part (v := w) (x := d) (List.mem_cons_of_mem _ (List.mem_append_left _ g2)) fun _ h => h).keepN fun p hp => List.mem_cons_of_mem _ (List.mem_append_right _ hp)
    · cases e
theorem de_dget {a b : Expr} {fm : FM} {fk : FE} {pos : Pos} (hu : X.A.units + 1 < cLine) (ha : PE X a (tM C fm)) (hb : PE X b (tE C fk)) (hs : NoSl b) : PE X (.Subscript a b pos) (tE C (eDGet fm fk)) := (pe_dget hu ha hb hs).dl fun _ _ _ h => imp_eDGet h
theorem dm_dict {f : Str} {p pos : Pos} {e : Expr} {fe : FE} (hc : CallR X (.type "dict") (rDict C)) (hg : Gl X f) (hm : X.mg f = none) (hv : bootBuiltins f = some (.type "dict")) (ha : PE X e (tE C fe)) (hn : f ≠ "__name__" := by decide) (hdb : (f == ("__debug__" : Str)) = false := by decide)
    (he : starEach [e] X.env = (false, eval e X.env) :: starEach [] X.env := by rfl) (hpl : (backTo pos (starEach [] X.env)).any (·.1) = false := by rfl) : PE X (.Call (.Name f p) [e] [] pos) (tM C (mDict fe)) :=
  (pe_callTy hc hg hm hv (da_cons ha da_nil he) hn hdb he hpl).dl fun _ _ _ h => imp_dict h
/-- x[k], x a dict of one's own -/
def mAt (i : Nat) (ρ : Rho) : Option (List (Str × D)) := match ρ[i]? with
  | some (some (.m kvs)) => some kvs
  | _ => none
theorem mAt_inv {i : Nat} {kvs : List (Str × D)} (h : mAt i ρ = some kvs) : ρ[i]? = some (some (.m kvs)) := by
  unfold mAt at h
  split at h
  · rename_i ys e
    cases h
    exact e
  · cases h
theorem SD.ownDict (S : SD C σ H ρ τ an) {i : Nat} {kvs : List (Str × D)} (e : ρ[i]? = some (some (.m kvs))) (hv : σ[i]? = some (some v)) : ∃ a vs, v = .ref a ∧ H a = some (.dK vs) ∧ vs.map (·.1) = keysT kvs ∧ SD C σ H ρ (tzm vs kvs ++ τ) an := by
  obtain ⟨fp, s⟩ := S
  obtain ⟨v', h1, a, vs, h2, h3, h4, h5, h6, h7⟩ := s.bnd i _ e
  rw [hv] at h1
  cases h1
  subst h2
  refine ⟨a, vs, rfl, h5, h6, ⟨fp, s.tmps fun p hp => ?_⟩⟩
  rcases List.mem_append.mp hp with hp | hp
  · obtain ⟨i, w, y, a, b, rfl⟩ := of_tz hp
    exact h7.2 i w y a b
  · exact s.tmp p hp
def eMGet (i : Nat) (fk : FE) : FE := fun ρ => match fk ρ with
  | some (.d (.str k), ρ') => (mAt i ρ').bind fun kvs => (lkp kvs k).map fun d => (.d d, ρ')
  | _ => none
theorem slotB (S : SD C σ H ρ τ an) {i : Nat} {b : B} (e : ρ[i]? = some (some b)) : ∃ v, σ[i]? = some (some v) := by
  obtain ⟨fp, s⟩ := S
  obtain ⟨v, h, _⟩ := s.bnd i b e
  exact ⟨v, h⟩
def eMGet' (i : Nat) (fk : FE) : FE := fun ρ => (mAt i ρ).bind fun _ => eMGet i fk ρ
theorem imp_eMGet {i : Nat} {fk : FE} {Q : VK} (h : tE C (eMGet' i fk) σ H Q) : tDGet (tVar i) (tE C fk) σ H Q := by
  obtain ⟨ρ, τ, an, r, ρ', S, e, q⟩ := h
  unfold eMGet' at e
  cases e0 : mAt i ρ with
  | none => simp [e0] at e
  | some kv0 =>
    simp only [e0, Option.bind_some] at e
    unfold eMGet at e
    split at e
    · rename_i k ρ2 e2
      cases e1 : mAt i ρ2 with
      | none => simp [e1] at e
      | some kvs =>
        cases e3 : lkp kvs k with
        | none => simp [e1, e3] at e
        | some d =>
          simp [e1, e3] at e
          obtain ⟨rfl, rfl⟩ := e
          obtain ⟨w0, hw0⟩ := slotB S (mAt_inv e0)
          refine ⟨w0, hw0, ρ, τ, an, _, ρ2, S, e2, fun v H2 S2 => ?_⟩
          have ev := S2.here.str_inv
          subst ev
          obtain ⟨a, vs, rfl, g0, hk, S3⟩ := S2.ownDict (mAt_inv e1) hw0
          obtain ⟨w, g1, g2⟩ := mget hk e3
          refine ⟨a, w, rfl, ?_, q w H2 ?_⟩
          · rw [← g1]
            exact DGet.k (k := Sum.inr k) g0
          · exact (S3.part (v := w) (x := d) (List.mem_append_left _ g2) fun _ h => h).keepN fun p hp => List.mem_append_right _ (List.mem_cons_of_mem _ hp)
    · cases e
theorem de_mget {i : Nat} {n : Str} {b : Expr} {fk : FE} {pos p : Pos} (hu : X.A.units + 1 < cLine) (ha : PE X (.Name n p) (tVar i)) (hb : PE X b (tE C fk)) (hs : NoSl b) : PE X (.Subscript (.Name n p) b pos) (tE C (eMGet' i fk)) := (pe_dget hu ha hb hs).dl fun _ _ _ h => imp_eMGet h

/-! ### a mix of data, new lists, new dicts -/
inductive RX where
  | d (x : D)
  | l (xs : List D)
  | m (kvs : List (Str × D))
abbrev FX := Rho → Option (List RX × Rho)
inductive XOk : List V → List RX → List (V × R) → List (Addr × HO) → Prop
  | nil : XOk [] [] [] []
  | d {v : V} {x : D} {vs : List V} {rs : List RX} {τ : List (V × R)} {an : List (Addr × HO)} : XOk vs rs τ an → XOk (v :: vs) (.d x :: rs) ((v, .d x) :: τ) an
  | l {p : Addr} {us : List V} {xs : List D} {vs : List V} {rs : List RX} {τ : List (V × R)} {an : List (Addr × HO)} : us.length = xs.length → XOk vs rs τ an → XOk (.ref p :: vs) (.l xs :: rs) (tz us xs ++ τ) ((p, .lst us) :: an)
  | m {p : Addr} {us : List (Key × V)} {kvs : List (Str × D)} {vs : List V} {rs : List RX} {τ : List (V × R)} {an : List (Addr × HO)} : us.map (·.1) = keysT kvs → XOk vs rs τ an → XOk (.ref p :: vs) (.m kvs :: rs) (tzm us kvs ++ τ) ((p, .dK us) :: an)
def tX (C : Fr) (f : FX) : TA := fun σ H Q => ∃ ρ τ an rs ρ', SD C σ H ρ τ an ∧ f ρ = some (rs, ρ') ∧ ∀ vs H' τ' an', XOk vs rs τ' an' → SD C σ H' ρ' (τ' ++ τ) (an' ++ an) → Q vs H'
def xNil : FX := fun ρ => some ([], ρ)
def xE (f : FE) (g : FX) : FX := fun ρ => (f ρ).bind fun p => match p.1 with
  | .d x => (g p.2).map fun q => (.d x :: q.1, q.2)
  | _ => none
def xF (f : FF) (g : FX) : FX := fun ρ => (f ρ).bind fun p => (g p.2).map fun q => (.l p.1 :: q.1, q.2)
def xM (f : FM) (g : FX) : FX := fun ρ => (f ρ).bind fun p => (g p.2).map fun q => (.m p.1 :: q.1, q.2)
theorem dx_nil : PA X [] (tX C xNil) := pa_nil.dl fun σ H Q h => by
  obtain ⟨ρ, τ, an, rs, ρ', S, e, q⟩ := h
  cases e
  exact q [] H [] [] .nil S
theorem dx_e {e : Expr} {es : List Expr} {f : FE} {g : FX} (ha : PE X e (tE C f)) (hr : PA X es (tX C g)) (hs : starEach (e :: es) X.env = (false, eval e X.env) :: starEach es X.env := by rfl) : PA X (e :: es) (tX C (xE f g)) :=
  (pa_cons ha hr hs).dl fun σ H Q h => by
    obtain ⟨ρ, τ, an, rs, ρ', S, e, q⟩ := h
    unfold xE at e
    cases e1 : f ρ with
    | none => simp [e1] at e
    | some p =>
      obtain ⟨a, ρ1⟩ := p
      simp only [e1, Option.bind_some] at e
      split at e
      · rename_i x
        cases e2 : g ρ1 with
        | none => simp [e2] at e
        | some p2 =>
          obtain ⟨bs, ρ2⟩ := p2
          simp [e2] at e
          obtain ⟨rfl, rfl⟩ := e
          refine ⟨ρ, τ, an, _, ρ1, S, e1, fun v H1 S1 => ⟨ρ1, _, an, bs, _, S1, e2, fun vs H2 τ' an' ok S2 => ?_⟩⟩
          refine q (v :: vs) H2 _ an' (.d ok) (S2.sub fun p hp => ?_)
          rcases List.mem_append.mp hp with hp | hp
          · rcases List.mem_cons.mp hp with rfl | hp
            · exact List.mem_append_right _ List.mem_cons_self
            · exact List.mem_append_left _ hp
          · exact List.mem_append_right _ (List.mem_cons_of_mem _ hp)
      · cases e
theorem dx_f {e : Expr} {es : List Expr} {f : FF} {g : FX} (ha : PE X e (tF C f)) (hr : PA X es (tX C g)) (hs : starEach (e :: es) X.env = (false, eval e X.env) :: starEach es X.env := by rfl) : PA X (e :: es) (tX C (xF f g)) :=
  (pa_cons ha hr hs).dl fun σ H Q h => by
    obtain ⟨ρ, τ, an, rs, ρ', S, e, q⟩ := h
    unfold xF at e
    cases e1 : f ρ with
    | none => simp [e1] at e
    | some p =>
      obtain ⟨a, ρ1⟩ := p
      cases e2 : g ρ1 with
      | none => simp [e1, e2] at e
      | some p2 =>
        obtain ⟨bs, ρ2⟩ := p2
        simp [e1, e2] at e
        obtain ⟨rfl, rfl⟩ := e
        refine ⟨ρ, τ, an, _, ρ1, S, e1, fun p us H1 hl S1 => ⟨ρ1, _, _, bs, _, S1, e2, fun vs H2 τ' an' ok S2 => ?_⟩⟩
        have S3 := S2.anp (an' := (p, .lst us) :: an' ++ an) List.perm_middle
        refine q _ H2 _ _ (.l hl ok) (S3.sub fun p hp => ?_)
        simp only [List.mem_append] at hp ⊢
        rcases hp with (h | h) | h
        · exact .inr (.inl h)
        · exact .inl h
        · exact .inr (.inr h)
theorem dx_m {e : Expr} {es : List Expr} {f : FM} {g : FX} (ha : PE X e (tM C f)) (hr : PA X es (tX C g)) (hs : starEach (e :: es) X.env = (false, eval e X.env) :: starEach es X.env := by rfl) : PA X (e :: es) (tX C (xM f g)) :=
  (pa_cons ha hr hs).dl fun σ H Q h => by
    obtain ⟨ρ, τ, an, rs, ρ', S, e, q⟩ := h
    unfold xM at e
    cases e1 : f ρ with
    | none => simp [e1] at e
    | some p =>
      obtain ⟨a, ρ1⟩ := p
      cases e2 : g ρ1 with
      | none => simp [e1, e2] at e
      | some p2 =>
        obtain ⟨bs, ρ2⟩ := p2
        simp [e1, e2] at e
        obtain ⟨rfl, rfl⟩ := e
        refine ⟨ρ, τ, an, _, ρ1, S, e1, fun p us H1 hl S1 => ⟨ρ1, _, _, bs, _, S1, e2, fun vs H2 τ' an' ok S2 => ?_⟩⟩
        have S3 := S2.anp (an' := (p, .dK us) :: an' ++ an) List.perm_middle
        refine q _ H2 _ _ (.m hl ok) (S3.sub fun p hp => ?_)
        simp only [List.mem_append] at hp ⊢
        rcases hp with (h | h) | h
        · exact .inr (.inl h)
        · exact .inl h
        · exact .inr (.inr h)
/-- stored one behind the other -/
def putX (is : List Nat) (rs : List RX) (ρ : Rho) : Option Rho := match is, rs with
  | [], [] => some ρ
  | i :: is, r :: rs => if i < ρ.length then putX is rs (ρ.set i (some (match r with | .d x => B.d x | .l xs => B.l xs | .m kvs => B.m kvs))) else none
  | _, _ => none
def setX (σ : L2.St) : List Nat → List V → L2.St
  | i :: is, v :: vs => setX (σ.set i (some v)) is vs
  | _, _ => σ
theorem AllD.xok {vs : List V} {rs : List RX} (h : XOk vs rs τ an) : AllD τ := by
  induction h with
  | nil => exact AllD.nil
  | d _ ih => exact AllD.cons ih
  | l _ _ ih => exact AllD.tz.app ih
  | m _ _ ih => exact AllD.tz.app ih
theorem xok_put {vs : List V} {rs : List RX} {τ' : List (V × R)} (ad : AllD τ) (ok : XOk vs rs τ' an') : ∀ {is : List Nat} {σ : L2.St} {ρ ρ' : Rho}, SD C σ H ρ (τ' ++ τ) (an' ++ an) → putX is rs ρ = some ρ' → SD C (setX σ is vs) H ρ' τ an := by
  induction ok with
  | nil =>
    intro is σ ρ ρ' S e
    cases is with
    | nil =>
      cases e
      exact S
    | cons => cases e
  | @d v x vs rs τ' an' ok ih =>
    intro is σ ρ ρ' S e
    cases is with
    | nil => cases e
    | cons i is =>
      unfold putX at e
      split at e
      · rename_i hr
        exact ih (S.store ((AllD.xok ok).app ad) hr) e
      · cases e
  | @l p us xs vs rs τ' an' hl ok ih =>
    intro is σ ρ ρ' S e
    cases is with
    | nil => cases e
    | cons i is =>
      unfold putX at e
      split at e
      · rename_i hr
        have S2 := SD.storeN (ps := [(p, .lst us)]) (b := .l xs) (v := .ref p) (an := an' ++ an) S ((AllD.tz.app (AllD.xok ok)).app ad) hr fun O' k => ?_
        · exact ih (S2.sub fun q hq => by
            rw [List.append_assoc]
            exact List.mem_append_right _ hq) e
        · obtain ⟨fp, s⟩ := S
          obtain ⟨z0, z1, z2⟩ := s.ano p (.lst us) List.mem_cons_self
          exact ⟨p, us, rfl, rfl, z0, z1, hl, fun j w d e1 e2 => k w d (List.mem_append_left _ (List.mem_append_left _ (mem_tz e1 e2)))⟩
      · cases e
  | @m p us kvs vs rs τ' an' hl ok ih =>
    intro is σ ρ ρ' S e
    cases is with
    | nil => cases e
    | cons i is =>
      unfold putX at e
      split at e
      · rename_i hr
        have S2 := SD.storeN (ps := [(p, .dK us)]) (b := .m kvs) (v := .ref p) (an := an' ++ an) S ((AllD.tz.app (AllD.xok ok)).app ad) hr fun O' k => ?_
        · exact ih (S2.sub fun q hq => by
            rw [List.append_assoc]
            exact List.mem_append_right _ hq) e
        · obtain ⟨fp, s⟩ := S
          obtain ⟨z0, z1, z2⟩ := s.ano p (.dK us) List.mem_cons_self
          refine ⟨p, us, rfl, rfl, z0, z1, hl, ?_, fun j w d e1 e2 => k w d (List.mem_append_left _ (List.mem_append_left _ (mem_tz e1 e2)))⟩
          have := congrArg List.length hl
          simpa using this
      · cases e
theorem xok_len {vs : List V} {rs : List RX} (h : XOk vs rs τ an) : vs.length = rs.length := by
  induction h with
  | nil => rfl
  | d _ ih => simp [ih]
  | l _ _ ih => simp [ih]
  | m _ _ ih => simp [ih]
theorem putX_len : ∀ {is : List Nat} {rs : List RX} {ρ ρ' : Rho}, putX is rs ρ = some ρ' → rs.length = is.length
  | [], [], _, _, _ => rfl
  | [], _ :: _, _, _, h => by cases h
  | _ :: _, [], _, _, h => by cases h
  | i :: is, r :: rs, ρ, ρ', h => by
    unfold putX at h
    split at h
    · simp [putX_len h]
    · cases h
def sPar (is : List Nat) (f : FX) : FS := fun ρ => (f ρ).bind fun p => (putX is p.1 p.2).map Out.next
theorem imp_par {is : List Nat} {f : FX} (h : tS C (sPar is f) G σ H) : tX C f σ H fun vs H1 => vs.length = is.length ∧ G.nx (setX σ is vs) H1 := by
  obtain ⟨ρ, τ, an, o, ad, S, e, k⟩ := h
  unfold sPar at e
  cases e1 : f ρ with
  | none => simp [e1] at e
  | some p =>
    obtain ⟨rs, ρ1⟩ := p
    cases e2 : putX is rs ρ1 with
    | none => simp [e1, e2] at e
    | some ρ2 =>
      simp [e1, e2] at e
      subst e
      refine ⟨ρ, τ, an, rs, ρ1, S, e1, fun vs H1 τ' an' ok S1 => ⟨?_, k _ H1 (xok_put ad ok S1 e2)⟩⟩
      rw [xok_len ok, putX_len e2]
theorem ds_par {i j : Nat} {x y : Str} {a b : Expr} {f : FX} {px py pt pos : Pos} {kt k2 pt2} (hc : X.calm = true) (hN : X.N.Nodup) (hi : X.N[i]? = some x) (hj : X.N[j]? = some y) (hij : i ≠ j)
    (hx : X.env.scope.names.lookup x = some .local) (hy : X.env.scope.names.lookup y = some .local) (ha : PA X [a, b] (tX C f))
    (hw : swappedStores [.Tuple [.Name x px, .Name y py] kt pt] (.Tuple [a, b] k2 pt2) X.env = pure (some [x, y]) := by rfl)
    (hs : swapsWithSole [.Tuple [.Name x px, .Name y py] kt pt] (.Tuple [a, b] k2 pt2) pos.line X.env = pure false := by rfl) :
    PS X (.Assign [.Tuple [.Name x px, .Name y py] kt pt] (.Tuple [a, b] k2 pt2) pos) (tS C (sPar [i, j] f)) := (ps_par hc hN hi hj hij hx hy ha hw hs).dl fun G σ H h => by
  obtain ⟨ρ, τ, an, rs, ρ', S, e, q⟩ := imp_par h
  refine ⟨ρ, τ, an, rs, ρ', S, e, fun vs H' τ' an' ok S' => ?_⟩
  obtain ⟨hl, g⟩ := q vs H' τ' an' ok S'
  match vs, hl with
  | [v, w], _ => exact ⟨v, w, rfl, g⟩
theorem ds_par3 {i j l : Nat} {x y z : Str} {a b c : Expr} {f : FX} {px py pz pt pos : Pos} {kt k2 pt2} (hc : X.calm = true) (hN : X.N.Nodup) (hi : X.N[i]? = some x) (hj : X.N[j]? = some y) (hl : X.N[l]? = some z) (hij : i ≠ j) (hil : i ≠ l) (hjl : j ≠ l)
    (hx : X.env.scope.names.lookup x = some .local) (hy : X.env.scope.names.lookup y = some .local) (hz : X.env.scope.names.lookup z = some .local) (ha : PA X [a, b, c] (tX C f))
    (hw : swappedStores [.Tuple [.Name x px, .Name y py, .Name z pz] kt pt] (.Tuple [a, b, c] k2 pt2) X.env = pure (some [x, y, z]) := by rfl)
    (hs : swapsWithSole [.Tuple [.Name x px, .Name y py, .Name z pz] kt pt] (.Tuple [a, b, c] k2 pt2) pos.line X.env = pure false := by rfl) :
    PS X (.Assign [.Tuple [.Name x px, .Name y py, .Name z pz] kt pt] (.Tuple [a, b, c] k2 pt2) pos) (tS C (sPar [i, j, l] f)) := (ps_par3 hc hN hi hj hl hij hil hjl hx hy hz ha hw hs).dl fun G σ H h => by
  obtain ⟨ρ, τ, an, rs, ρ', S, e, q⟩ := imp_par h
  refine ⟨ρ, τ, an, rs, ρ', S, e, fun vs H' τ' an' ok S' => ?_⟩
  obtain ⟨hl, g⟩ := q vs H' τ' an' ok S'
  match vs, hl with
  | [u, v, w], _ => exact ⟨u, v, w, rfl, g⟩
/-- name = a new dict -/
def sOwnM (i : Nat) (f : FM) : FS := sPar [i] (xM f xNil)
theorem ds_ownM {i : Nat} {n : Str} {e : Expr} {f : FM} {pos pos' : Pos} (hN : X.N.Nodup) (hi : X.N[i]? = some n) (hx : Loc X.env.scope n) (he : PE X e (tM C f)) (hs : swapsWith e (some (.Name n pos')) pos.line X.env = pure false := by rfl) (hf : X.fn n = true ∨ X.env.scope.names.lookup n = some .local := by first | exact .inl rfl | exact .inr rfl | assumption) :
    PS X (.Assign [.Name n pos'] e pos) (tS C (sOwnM i f)) := (ps_set hN hi hx he hs hf).dl fun G σ H h => by
  obtain ⟨ρ, τ, an, o, ad, S, e, k⟩ := h
  unfold sOwnM sPar xM xNil at e
  cases e1 : f ρ with
  | none => simp [e1] at e
  | some p =>
    obtain ⟨kvs, ρ1⟩ := p
    simp only [e1, Option.bind_some, Option.map_some] at e
    cases e2 : putX [i] [.m kvs] ρ1 with
    | none => simp [e2] at e
    | some ρ2 =>
      simp [e2] at e
      subst e
      refine ⟨ρ, τ, an, kvs, ρ1, S, e1, fun p vs H' hl S' => k _ H' ?_⟩
      exact xok_put (an' := [(p, .dK vs)]) (τ' := tzm vs kvs ++ []) (vs := [.ref p]) (is := [i]) ad (.m hl .nil) (by simpa using S') e2
end
end DL
namespace DL
open PySem L2

/-! ### set(x) of texts -/
def hasK (l : List Key) (k : Key) : Bool := l.any fun j => decide (j = k)
def ddl (l : List Key) : List Key := l.foldl (fun acc k => if hasK acc k = true then acc else acc ++ [k]) []
theorem ddl_snoc (l : List Key) (k : Key) : ddl (l ++ [k]) = if hasK (ddl l) k = true then ddl l else ddl l ++ [k] := by
  unfold ddl
  rw [List.foldl_append]
  rfl
theorem ddl_le (l : List Key) : ∀ n, (ddl (l.take n)).length ≤ n
  | 0 => by simp [ddl]
  | n + 1 => by
    have ih := ddl_le l n
    by_cases h : n < l.length
    · rw [List.take_succ_eq_append_getElem h, ddl_snoc]
      split
      · omega
      · simp
        omega
    · rw [List.take_of_length_le (by omega)]
      rw [List.take_of_length_le (by omega)] at ih
      omega
theorem setSame {prog : Program} {w : World} {h : Heap} {a : Addr} {S S' : Key → Bool} {n n' : Nat} (x : h.SetOf (mixKind prog w) a S n) (e : ∀ k, S k = S' k) (en : n = n') : h.SetOf (mixKind prog w) a S' n' := by
  rw [← show S = S' from funext e, ← en]
  exact x
abbrev emS (led : Bool) : Obj := { cls := .type "set", dict := none, data := .set #[] 0 (.fresh 0 0 led) }
abbrev KeyAt (prog : Program) (w : World) (ks : List Key) (i : Nat) (v : Value) : Prop := ∃ k, ks[i]? = some k ∧ (mixKind prog w).is k v = true ∧ v.scannable = true
section
variable {prog : Program} {w : World} {A : Around} {R : Result → Shared → Prop} {it : Addr} {fp wr : List Addr} {G : Array GenState → Array GenState → Prop} {n : Nat} {P : Nat → Value → Prop} {St : Nat → Shared → Prop}
theorem loopK (W : WalksS prog w A.in1 it fp wr G n P St) (a : Addr) (off : a ∉ fp) (ks : List Key) (hs : ks.length = n) (hb : n + 1 < scanBound) (hv : ∀ i v, P i v → KeyAt prog w ks i v) :
    ∀ (m i : Nat) (s : Shared), n - i = m → i ≤ n → St i s → s.heap.SetOf (mixKind prog w) a (hasK (ddl (ks.take i))) (ddl (ks.take i)).length →
      (∀ s', Moved (a :: wr) G s s' → s'.heap.SetOf (mixKind prog w) a (hasK (ddl ks)) (ddl ks).length → R (.ok (.ret .none)) s') →
      codeAny (model prog w) A (.builtin "set.update.loop" ⟨[.ref a, .ref it], []⟩) R s := by
  have offw : a ∉ wr := fun z => off (W.sub _ z)
  have up : ∀ b ∈ wr, b ∈ a :: wr := fun b z => List.mem_cons_of_mem _ z
  have stay : ∀ {s s' : Shared} {S : Key → Bool} {c : Nat}, Moved wr G s s' → s.heap.SetOf (mixKind prog w) a S c → s'.heap.SetOf (mixKind prog w) a S c := fun mv x => by
    obtain ⟨o, es, ep, t, ho, more⟩ := x
    exact ⟨o, es, ep, t, mv.heap a _ offw ho, more⟩
  intro m
  induction m with
  | zero =>
    intro i s h1 h2 st fs fin
    have ei : i = n := by omega
    subst ei
    apply codeAny_builtin PyProof.Rows.F.entry_set_update_loop
    rw [Around.under_plainId PyProof.Rows.F.plain_set_update_loop _]
    show wpAny _ A.in1 (pyNext (.ref it) >>= _) _ _ s
    refine wpAny_bind (W.done s _ _ st fun s1 mv => ?_)
    show wpAny _ A.in1 (ret Value.none) _ _ s1
    have e : ks.take i = ks := List.take_of_length_le (by omega)
    rw [e] at fs
    exact wpAny_pure (fin s1 (mv.mono up) (stay mv fs))
  | succ m ih =>
    intro i s h1 h2 st fs fin
    have lt : i < n := by omega
    apply codeAny_builtin PyProof.Rows.F.entry_set_update_loop
    rw [Around.under_plainId PyProof.Rows.F.plain_set_update_loop _]
    show wpAny _ A.in1 (pyNext (.ref it) >>= _) _ _ s
    refine wpAny_bind (W.item i s _ _ lt st fun v s1 hp st1 mv => ?_)
    obtain ⟨k, g1, g2, g3⟩ := hv i v hp
    have fs1 := stay mv fs
    show wpAny _ A.in1 (holding [v] (setAdd a v) >>= _) _ _ s1
    refine wpAny_bind (wpAny_holding ?_)
    unfold setAdd
    refine wpAny_holding (wpAny_bind ((mixKind prog w).pyHash g2 ?_))
    have room : (ddl (ks.take i)).length + 1 < scanBound := by
      have := ddl_le ks i
      omega
    refine wpAny_setAddHashed_of (knd := mixKind prog w) (s := { s1 with toks := s1.toks + 1 }) g2 g3 fs1 room fun h2 sb fs2 => ?_
    have et : ks.take (i + 1) = ks.take i ++ [k] := by
      rw [List.take_succ, g1]
      rfl
    have fs3 : h2.SetOf (mixKind prog w) a (hasK (ddl (ks.take (i + 1)))) (ddl (ks.take (i + 1))).length := by
      refine setSame fs2 (fun j => ?_) ?_
      · rw [et, ddl_snoc]
        by_cases hk : hasK (ddl (ks.take i)) k = true
        · rw [if_pos hk]
          by_cases hj : j = k
          · subst hj
            simp [hk]
          · simp [hj]
        · rw [if_neg hk]
          unfold hasK
          rw [List.any_append]
          have e : (decide (j = k)) = [k].any fun i => decide (i = j) := by simp [eq_comm]
          rw [e]
      · rw [et, ddl_snoc]
        by_cases hk : hasK (ddl (ks.take i)) k = true
        · simp [hk]
        · simp [hk]
    refine wpAny_pure ⟨plainId_quiet PyProof.Rows.F.plain_set_update_loop _, ih (i + 1) _ (by omega) lt (W.frame _ s1 _ _ st1 (Nat.le_succ _) fun b hb o e => ?_) fs3 fun s2 mv2 fs4 => ?_⟩
    · rw [sb.2 b fun z : b = a => off (z ▸ hb)]
      exact e
    · refine fin s2 (Moved.trans W.gtrans ((mv.mono up).then_heap (Nat.le_succ _) fun b o hb e => ?_) mv2) fs4
      rw [sb.2 b fun z : b = a => hb (z ▸ List.mem_cons_self)]
      exact e
end
section
variable {prog : Program} {w : World} {A : Around} {E : Value → Shared → Prop} {s : Shared}
set_option maxHeartbeats 8000000 in
theorem set_list {l : Addr} {its : Array Value} {ks : List Key} {Q : Value → Shared → Prop} (hh : A.handled = none) (hl : s.heap.IsList l its) (hs : ks.length = its.size) (hb : its.size + 1 < scanBound) (hv : ∀ (i : Nat) (v : Value), its[i]? = some v → KeyAt prog w ks i v)
    (fin : ∀ (h' : Heap) (tk : Nat) (S : Key → Bool), h'.SetOf (mixKind prog w) s.heap.objs.size S (ddl ks).length → (∀ b o, s.heap.get? b = some o → h'.get? b = some o) → Q (.ref s.heap.objs.size) { s with heap := h', toks := tk }) :
    wpAny (model prog w) A (call (.type "set") [.ref l]) Q E s := by
  obtain ⟨mc, mt, hmro⟩ := PySem.F.called_set.mro
  have q1 := PySem.F.called_set.made
  have q2 := PySem.F.called_set.sub
  apply wpAny_call
  apply codeAny_of_tree
  show wpAny _ _ (callAny (.type "set") _) _ _ s
  refine wpAny_pure ⟨Code.quiet_builtin _ (by decide +kernel), ?_⟩
  apply codeAny_builtin PySem.F.entry_type_call
  rw [Around.under_plain (weight_type_call_type "set" [.ref l] []) rfl]
  have q3 := PySem.F.called_set.notType
  have q4 := PySem.F.called_set.canCreate
  have q5 := PySem.F.typeCall_set_1 (.ref l)
  repeat any_goals first | assumption | wp_step
  refine codeAny_mono (code_set_new_1 (.ref l) (E := E) (Q₁ := fun ob s1 => ∃ led : Bool, ob = .ref s.heap.objs.size ∧ s1 = { s with heap := s.heap.push (emS led) }) fun led => ⟨led, rfl, rfl⟩) fun res s1 hr => ?_
  cases res with
  | error e => exact hr
  | ok fl =>
    cases fl with
    | ret ob =>
      obtain ⟨led, rfl, rfl⟩ := hr
      have g0 : (s.heap.push (emS led)).get? s.heap.objs.size = some (emS led) := Heap.get?_push_size _ rfl
      have ty : Shared.TypeIs { s with heap := s.heap.push (emS led) } (.ref s.heap.objs.size) "set" := ⟨_, g0, rfl⟩
      have q6 := PySem.F.called_set.init.lookup
      have q7 := PySem.F.called_set.init.bind (.ref s.heap.objs.size)
      repeat any_goals first | assumption | wp_step
      refine codeAny_mono (codeAny_call_builtin (R := wants (fun r s2 => r = .none ∧ ∃ h' tk S, s2 = { s with heap := h', toks := tk } ∧ h'.SetOf (mixKind prog w) s.heap.objs.size S (ddl ks).length ∧
        ∀ b o, s.heap.get? b = some o → h'.get? b = some o) E) PySem.F.called_set.init.plain PySem.F.entry_set_init (check_set_init_1 ty ?_)) fun res2 s2 hr2 => ?_
      · obtain ⟨ol, hol, hcl, nl, hdl⟩ := hl
        obtain ⟨oc, od, oda, osl⟩ := ol
        simp only at hcl hdl
        subst hcl
        subst hdl
        have hol2 : (s.heap.push (emS led)).get? l = some { cls := .type "list", dict := od, data := .seq its nl, slots := osl } := Heap.get?_push_of_some _ hol
        have q8 := PySem.F.sub_list_set
        have q9 := PySem.F.sub_list_frozenset
        have q10 : (Value.type "list" == Value.type "dict") = false := by decide
        have hl2 : (s.heap.push (emS led)).IsList l its := ⟨_, hol2, rfl, nl, rfl⟩
        unfold Builtin.«set.__init__» noKeywords Builtin.Frozenset.updateFrom
        generalize hpi : pyIter = PI
        wp_walk
        subst hpi
        apply wpAny_pyIter_list hl2
        apply wpAny_bind
        apply wpAny_runValue
        have lt1 : l < s.heap.objs.size := Heap.lt_size hol
        have hh3 : A.in1.in1.in1.handled = none := by simp [hh]
        have ne1 : l ≠ (s.heap.push (emS led)).objs.size := by
          rw [Heap.size_push]
          exact Nat.ne_of_lt (Nat.lt_succ_of_lt lt1)
        have off : s.heap.objs.size ∉ [(s.heap.push (emS led)).objs.size, l] := by
          rw [Heap.size_push]
          intro z
          rcases List.mem_cons.mp z with z | z
          · exact Nat.ne_of_lt (Nat.lt_succ_self _) z
          · exact Nat.ne_of_gt lt1 (List.mem_singleton.mp z)
        refine loopK (Walks.list hh3 _ l ne1 its).toS s.heap.objs.size off ks hs hb hv its.size 0 _ (by omega) (Nat.zero_le _) ⟨⟨_, Heap.get?_push_size _ rfl, rfl, rfl⟩, hl2.push _⟩ ?_ ?_
        · have g1 : ((s.heap.push (emS led)).push { cls := .type "list_iterator", data := .fields #[.ref l, .int 0 0] }).get? s.heap.objs.size = some (emS led) := Heap.get?_push_of_some _ g0
          exact ⟨_, #[], 0, _, g1, ⟨rfl, rfl, rfl⟩, rfl, fun e he => by simp at he, fun k => by simp [ddl, hasK], by decide, by rfl, rfl⟩
        · intro s3 mv fs
          obtain ⟨h3, g3, d3, tk3, os3⟩ := s3
          have eg : g3 = s.gens := mv.gens
          have ed : d3 = s.drawn := mv.drawn
          have eo : os3 = s.os := mv.os
          subst eg
          subst ed
          subst eo
          refine wpAny_pure ?_
          show wpAny _ _ (ret Value.none) _ _ _
          refine wpAny_pure ⟨rfl, h3, tk3, _, rfl, fs, fun b o e => ?_⟩
          have lb := Heap.lt_size e
          refine mv.heap b o (fun z => ?_) (Heap.get?_push_of_some _ (Heap.get?_push_of_some _ e))
          rcases List.mem_cons.mp z with z | z
          · exact Nat.ne_of_lt lb z
          · have z := List.mem_singleton.mp z
            rw [Heap.size_push] at z
            exact Nat.ne_of_lt (Nat.lt_succ_of_lt lb) z
      · cases res2 with
        | error e => exact hr2
        | ok fl2 =>
          cases fl2 with
          | ret r =>
            obtain ⟨rfl, h3, tk, S, rfl, fs, kp⟩ := hr2
            repeat any_goals first | assumption | wp_step
            exact fin _ _ _ fs kp
          | _ => exact hr2.elim
    | _ => exact hr.elim

set_option maxHeartbeats 8000000 in
theorem set_tuple {l : Addr} {its : Array Value} {ks : List Key} {Q : Value → Shared → Prop} (hh : A.handled = none) (hl : s.heap.IsTuple l its) (hs : ks.length = its.size) (hb : its.size + 1 < scanBound) (hv : ∀ (i : Nat) (v : Value), its[i]? = some v → KeyAt prog w ks i v)
    (fin : ∀ (h' : Heap) (tk : Nat) (S : Key → Bool), h'.SetOf (mixKind prog w) s.heap.objs.size S (ddl ks).length → (∀ b o, s.heap.get? b = some o → h'.get? b = some o) → Q (.ref s.heap.objs.size) { s with heap := h', toks := tk }) :
    wpAny (model prog w) A (call (.type "set") [.ref l]) Q E s := by
  obtain ⟨mc, mt, hmro⟩ := PySem.F.called_set.mro
  have q1 := PySem.F.called_set.made
  have q2 := PySem.F.called_set.sub
  apply wpAny_call
  apply codeAny_of_tree
  show wpAny _ _ (callAny (.type "set") _) _ _ s
  refine wpAny_pure ⟨Code.quiet_builtin _ (by decide +kernel), ?_⟩
  apply codeAny_builtin PySem.F.entry_type_call
  rw [Around.under_plain (weight_type_call_type "set" [.ref l] []) rfl]
  have q3 := PySem.F.called_set.notType
  have q4 := PySem.F.called_set.canCreate
  have q5 := PySem.F.typeCall_set_1 (.ref l)
  repeat any_goals first | assumption | wp_step
  refine codeAny_mono (code_set_new_1 (.ref l) (E := E) (Q₁ := fun ob s1 => ∃ led : Bool, ob = .ref s.heap.objs.size ∧ s1 = { s with heap := s.heap.push (emS led) }) fun led => ⟨led, rfl, rfl⟩) fun res s1 hr => ?_
  cases res with
  | error e => exact hr
  | ok fl =>
    cases fl with
    | ret ob =>
      obtain ⟨led, rfl, rfl⟩ := hr
      have g0 : (s.heap.push (emS led)).get? s.heap.objs.size = some (emS led) := Heap.get?_push_size _ rfl
      have ty : Shared.TypeIs { s with heap := s.heap.push (emS led) } (.ref s.heap.objs.size) "set" := ⟨_, g0, rfl⟩
      have q6 := PySem.F.called_set.init.lookup
      have q7 := PySem.F.called_set.init.bind (.ref s.heap.objs.size)
      repeat any_goals first | assumption | wp_step
      refine codeAny_mono (codeAny_call_builtin (R := wants (fun r s2 => r = .none ∧ ∃ h' tk S, s2 = { s with heap := h', toks := tk } ∧ h'.SetOf (mixKind prog w) s.heap.objs.size S (ddl ks).length ∧
        ∀ b o, s.heap.get? b = some o → h'.get? b = some o) E) PySem.F.called_set.init.plain PySem.F.entry_set_init (check_set_init_1 ty ?_)) fun res2 s2 hr2 => ?_
      · obtain ⟨ol, hol, hcl, nl, hdl⟩ := hl
        obtain ⟨oc, od, oda, osl⟩ := ol
        simp only at hcl hdl
        subst hcl
        subst hdl
        have hol2 : (s.heap.push (emS led)).get? l = some { cls := .type "tuple", dict := od, data := .seq its nl, slots := osl } := Heap.get?_push_of_some _ hol
        have q8 := PySem.F.sub_tuple_set
        have q9 := PySem.F.sub_tuple_frozenset
        have q10 : (Value.type "tuple" == Value.type "dict") = false := by decide
        have hl2 : (s.heap.push (emS led)).IsTuple l its := ⟨_, hol2, rfl, nl, rfl⟩
        unfold Builtin.«set.__init__» noKeywords Builtin.Frozenset.updateFrom
        generalize hpi : pyIter = PI
        wp_walk
        subst hpi
        apply wpAny_pyIter_tuple hl2
        apply wpAny_bind
        apply wpAny_runValue
        have lt1 : l < s.heap.objs.size := Heap.lt_size hol
        have hh3 : A.in1.in1.in1.handled = none := by simp [hh]
        have ne1 : l ≠ (s.heap.push (emS led)).objs.size := by
          rw [Heap.size_push]
          exact Nat.ne_of_lt (Nat.lt_succ_of_lt lt1)
        have off : s.heap.objs.size ∉ [(s.heap.push (emS led)).objs.size, l] := by
          rw [Heap.size_push]
          intro z
          rcases List.mem_cons.mp z with z | z
          · exact Nat.ne_of_lt (Nat.lt_succ_self _) z
          · exact Nat.ne_of_gt lt1 (List.mem_singleton.mp z)
        refine loopK (Walks.tuple hh3 _ l ne1 its).toS s.heap.objs.size off ks hs hb hv its.size 0 _ (by omega) (Nat.zero_le _) ⟨⟨_, Heap.get?_push_size _ rfl, rfl, rfl⟩, hl2.push _⟩ ?_ ?_
        · have g1 : ((s.heap.push (emS led)).push { cls := .type "tuple_iterator", data := .fields #[.ref l, .int 0 0] }).get? s.heap.objs.size = some (emS led) := Heap.get?_push_of_some _ g0
          exact ⟨_, #[], 0, _, g1, ⟨rfl, rfl, rfl⟩, rfl, fun e he => by simp at he, fun k => by simp [ddl, hasK], by decide, by rfl, rfl⟩
        · intro s3 mv fs
          obtain ⟨h3, g3, d3, tk3, os3⟩ := s3
          have eg : g3 = s.gens := mv.gens
          have ed : d3 = s.drawn := mv.drawn
          have eo : os3 = s.os := mv.os
          subst eg
          subst ed
          subst eo
          refine wpAny_pure ?_
          show wpAny _ _ (ret Value.none) _ _ _
          refine wpAny_pure ⟨rfl, h3, tk3, _, rfl, fs, fun b o e => ?_⟩
          have lb := Heap.lt_size e
          refine mv.heap b o (fun z => ?_) (Heap.get?_push_of_some _ (Heap.get?_push_of_some _ e))
          rcases List.mem_cons.mp z with z | z
          · exact Nat.ne_of_lt lb z
          · have z := List.mem_singleton.mp z
            rw [Heap.size_push] at z
            exact Nat.ne_of_lt (Nat.lt_succ_of_lt lb) z
      · cases res2 with
        | error e => exact hr2
        | ok fl2 =>
          cases fl2 with
          | ret r =>
            obtain ⟨rfl, h3, tk, S, rfl, fs, kp⟩ := hr2
            repeat any_goals first | assumption | wp_step
            exact fin _ _ _ fs kp
          | _ => exact hr2.elim
    | _ => exact hr.elim
end
end DL
namespace DL
open PySem L2

section
variable {C : Fr} {X : Cx} {fp : Nat → List Addr} {σ : L2.St} {H H' : Hp} {ρ ρ' : Rho} {τ : List (V × R)} {an an' : List (Addr × HO)} {v : V} {r : R} {x y z : D} {G : Ends} {p : Addr} {o : HO}

/-! ### len(set(x)) of texts -/
def textsOf : List D → Option (List Str)
  | [] => some []
  | .str s :: xs => (textsOf xs).map fun ys => s :: ys
  | _ :: _ => none
theorem textsOf_inv : ∀ {xs : List D} {ys : List Str}, textsOf xs = some ys → xs = ys.map PyData.str
  | [], ys, h => by
    cases h
    rfl
  | x :: xs, ys, h => by
    unfold textsOf at h
    split at h
    · rename_i e
      cases e
    · rename_i s zs e
      injection e with e1 e2
      subst e2
      cases e3 : textsOf xs with
      | none => simp [e3] at h
      | some ws =>
        simp [e3] at h
        subst h
        rw [e1, textsOf_inv e3]
        rfl
    · cases h
theorem textsOf_map (ys : List Str) : textsOf (ys.map PyData.str) = some ys := by
  induction ys with
  | nil => rfl
  | cons y ys ih => simp [textsOf, ih]
abbrev setO (P : Program) (w : World) (p : Addr) (n : Nat) : HO := .ext fun h => ∃ S, h.SetOf (mixKind P w) p S n
def setD : D → Option Nat
  | .list xs => (textsOf xs).bind fun ys => if ys.length + 1 < 4096 then some (ddl (ys.map Sum.inr)).length else none
  | .tuple xs => (textsOf xs).bind fun ys => if ys.length + 1 < 4096 then some (ddl (ys.map Sum.inr)).length else none
  | _ => none
abbrev FZ := Rho → Option (Nat × Rho)
def tZ (C : Fr) (P : Program) (w : World) (f : FZ) : TE := fun σ H Q => ∃ ρ τ an n ρ', SD C σ H ρ τ an ∧ f ρ = some (n, ρ') ∧ ∀ p H', SD C σ H' ρ' τ ((p, setO P w p n) :: an) → Q (.ref p) H'
def zSet (f : FE) : FZ := fun ρ => (f ρ).bind fun p => (rdo p.2 p.1).bind fun x => (setD x).map fun n => (n, p.2)
def rSet (C : Fr) (P : Program) (w : World) : List V → Hp → VK → Prop := fun xs H Q => ∃ σ ρ τ an x a y n, xs = [x] ∧ SD C σ H ρ ((x, a) :: τ) an ∧ rdo ρ a = some y ∧ setD y = some n ∧ ∀ p H', SD C σ H' ρ τ ((p, setO P w p n) :: an) → Q (.ref p) H'
theorem imp_set {P : Program} {w : World} {f : FE} {Q : VK} (h : tZ C P w (zSet f) σ H Q) : tCB (rSet C P w) (tA C (aCons f aNil)) σ H Q := by
  obtain ⟨ρ, τ, an, n, ρ', S, e, q⟩ := h
  unfold zSet at e
  cases e1 : f ρ with
  | none => simp [e1] at e
  | some p =>
    obtain ⟨a, ρ1⟩ := p
    cases e2 : rdo ρ1 a with
    | none => simp [e1, e2] at e
    | some y =>
      cases e3 : setD y with
      | none => simp [e1, e2, e3] at e
      | some m =>
        simp [e1, e2, e3] at e
        obtain ⟨rfl, rfl⟩ := e
        refine ⟨ρ, τ, an, [a], ρ1, S, by simp [aCons, aNil, e1], fun vs H1 hl S1 => ?_⟩
        obtain ⟨x, rfl⟩ := one_of hl
        exact ⟨σ, _, τ, an, x, a, y, _, rfl, S1, e2, e3, q⟩
theorem strs_vals {K : PySem.W.Frag} : ∀ {ys : List Str} {vs : List V} {us : List Value}, DnL K H vs (ys.map PyData.str) → Vals vs us → ∀ (i : Nat) (u : Value), us[i]? = some u → ∃ s t, ys[i]? = some s ∧ u = .str s t
  | [], [], _, _, .nil, i, u, e => by simp at e
  | [], _ :: _, _, h, _, _, _, _ => by simp [DnL] at h
  | _ :: _, [], _, h, _, _, _, _ => by simp [DnL] at h
  | y :: ys, v :: vs, _, h, .cons (b := u0) rv t, i, u, e => by
    obtain ⟨h1, h2⟩ := DnL.head h
    have ev := h1.str_inv
    subst ev
    obtain ⟨tt, rfl⟩ := rv
    cases i with
    | zero =>
      simp at e
      exact ⟨y, tt, rfl, e.symm⟩
    | succ i =>
      obtain ⟨s, t', g1, g2⟩ := strs_vals h2 t i u (by simpa using e)
      exact ⟨s, t', by simpa using g1, g2⟩
theorem cr_setG (hK : C.K = X.K) (hc : X.calm = true) : CallR X (.type "set") (rSet C X.prog X.w) := by
  intro pins s σ H xs us Q I r h
  obtain ⟨σ', ρ, τ, an, x, a, y, n, rfl, S, h1, h2, q⟩ := h
  obtain ⟨u, rfl, rx⟩ := vals1 r
  have n1 := S.res List.mem_cons_self h1
  have hd := I.ok.hd hc
  have last : ∀ (ys : List Str) (h' : Heap) (tk : Nat) (M : Key → Bool), n = (ddl (ys.map Sum.inr)).length → h'.SetOf (mixKind X.prog X.w) s.heap.objs.size M (ddl (ys.map Sum.inr)).length → (∀ b o, s.heap.get? b = some o → h'.get? b = some o) → EP X pins σ Q (.ref s.heap.objs.size) { s with heap := h', toks := tk } := by
    intro ys h' tk M en hs kp
    subst en
    refine ⟨.ref s.heap.objs.size, upd H s.heap.objs.size (setO X.prog X.w s.heap.objs.size (ddl (ys.map Sum.inr)).length), I.laid (t' := tk) kp (Nat.le_refl _) ?_, rfl, q _ _ ((S.pop).fresh (I.hok.fresh (Nat.le_refl _)) trivial)⟩
    obtain ⟨o, es, ep, t, ho, more⟩ := id hs
    refine ⟨⟨M, hs⟩, ⟨o, ho⟩, fun ha hb ⟨M', hm⟩ kb => ?_⟩
    obtain ⟨o, es, ep, t, ho, more⟩ := hm
    exact ⟨M', o, es, ep, t, kb o ho, more⟩
  unfold setD at h2
  split at h2
  · rename_i ds
    cases e : textsOf ds with
    | none => simp [e] at h2
    | some ys =>
      simp [e] at h2
      obtain ⟨hz, rfl⟩ := h2
      have ed := textsOf_inv e
      subst ed
      obtain ⟨a1, vs, rfl, t1, t2⟩ := n1.lst_inv
      cases rx
      obtain ⟨its, rv, ⟨ob, nn, g1, g2, g3, g4⟩, _⟩ := I.list (Or.inl (Or.inl t1))
      have l1 := rv.length
      have l2 := t2.1
      rw [List.length_map] at l2
      refine set_list (ks := ys.map Sum.inr) hd ⟨ob, g1, g2, nn, g4⟩ (by simp; omega) (by simp [scanBound]; omega) (fun i v ev => ?_) fun h' tk M hs kp => last ys h' tk M rfl hs kp
      obtain ⟨s', t', b1, rfl⟩ := strs_vals t2 rv i v (by simpa using ev)
      exact ⟨Sum.inr s', by simp [b1], kV_is (P := X.prog) (w := X.w) (k := Sum.inr s') ⟨t', rfl⟩, rfl⟩
  · rename_i ds
    cases e : textsOf ds with
    | none => simp [e] at h2
    | some ys =>
      simp [e] at h2
      obtain ⟨hz, rfl⟩ := h2
      have ed := textsOf_inv e
      subst ed
      obtain ⟨a1, vs, rfl, t1, t2⟩ := n1.tup_inv
      cases rx
      obtain ⟨its, rv, g1, _⟩ := I.tuple (t1.sq (K := X.K))
      have l1 := rv.length
      have l2 := t2.1
      rw [List.length_map] at l2
      refine set_tuple (ks := ys.map Sum.inr) hd g1 (by simp; omega) (by simp [scanBound]; omega) (fun i v ev => ?_) fun h' tk M hs kp => last ys h' tk M rfl hs kp
      obtain ⟨s', t', b1, rfl⟩ := strs_vals t2 rv i v (by simpa using ev)
      exact ⟨Sum.inr s', by simp [b1], kV_is (P := X.prog) (w := X.w) (k := Sum.inr s') ⟨t', rfl⟩, rfl⟩
  · cases h2
def eLenZ (f : FZ) : FE := fun ρ => (f ρ).map fun p => (.d (.int p.1), p.2)
def rLenZ (C : Fr) (P : Program) (w : World) : List V → Hp → VK → Prop := fun xs H Q => ∃ σ ρ τ an p n, xs = [.ref p] ∧ SD C σ H ρ τ ((p, setO P w p n) :: an) ∧ ∀ v H', SD C σ H' ρ ((v, .d (.int n)) :: τ) an → Q v H'
theorem cr_lenZ : CallR X (.builtin "len") (rLenZ C X.prog X.w) := by
  intro pins s σ H xs us Q I r h
  obtain ⟨σ', ρ, τ, an, p, n, rfl, S, q⟩ := h
  obtain ⟨u, rfl, rx⟩ := vals1 r
  cases rx
  obtain ⟨⟨M, o, es, ep, t, ho, hx, hd, h1, h2, hb, hf, hn⟩, _⟩ := I.hok p _ (S.cell List.mem_cons_self)
  have hb' : es.size < 4096 := hb
  refine call_len_set ho hx hd hf (by omega) ⟨.int n, H, I.tok _, ?_, q _ H (S.forget.push fun _ _ => .int _)⟩
  rw [hn]
  exact ⟨_, rfl⟩
theorem de_lenSet {p1 p2 pos pos2 : Pos} {e : Expr} {fe : FE} (hK : C.K = X.K) (hc : X.calm = true) (ha : PE X e (tE C fe)) (hg1 : Gl X "len") (hm1 : X.mg "len" = none) (hg : Gl X "set") (hm : X.mg "set" = none)
    (he : starEach [e] X.env = (false, eval e X.env) :: starEach [] X.env := by rfl) (hpl : (backTo pos (starEach [] X.env)).any (·.1) = false := by rfl)
    (he2 : starEach [.Call (.Name "set" p2) [e] [] pos] X.env = (false, eval (.Call (.Name "set" p2) [e] [] pos) X.env) :: starEach [] X.env := by rfl) (hpl2 : (backTo pos2 (starEach [] X.env)).any (·.1) = false := by rfl) :
    PE X (.Call (.Name "len" p1) [.Call (.Name "set" p2) [e] [] pos] [] pos2) (tE C (eLenZ (zSet fe))) := by
  have h1 : PE X (.Call (.Name "set" p2) [e] [] pos) (tZ C X.prog X.w (zSet fe)) := (pe_callTy (cr_setG hK hc) hg hm (by decide +kernel) (da_cons ha da_nil he) (by decide) (by decide) he hpl).dl fun _ _ _ h => imp_set h
  refine (pe_callB (cr_lenZ (C := C)) hg1 hm1 (by decide +kernel) (pa_cons h1 pa_nil he2) (by decide) (by decide) he2 hpl2).dl fun σ H Q h => ?_
  obtain ⟨ρ, τ, an, r, ρ', S, e, q⟩ := h
  unfold eLenZ at e
  cases e1 : zSet fe ρ with
  | none => simp [e1] at e
  | some p =>
    obtain ⟨n, ρ1⟩ := p
    simp [e1] at e
    obtain ⟨rfl, rfl⟩ := e
    exact ⟨ρ, τ, an, n, _, S, e1, fun p H1 S1 => ⟨σ, _, τ, an, p, n, rfl, S1, q⟩⟩
end
end DL
namespace DL
open PySem L2

/-! ### a tuple of one item, k times -/
theorem tup_mul1 (l : Addr) (a : Value) (n : Nat) (dd : Option Addr) (sl : Array (Option Value)) (u : Tok) :
    Meets (Builtin.«tuple.__mul__» ⟨[.ref l, .int 1 u], []⟩) (fun _ R s => s.heap.get? l = some { cls := .type "tuple", dict := dd, data := .seq #[a] n, slots := sl } ∧ R (.ok (.ret (Value.ref l))) s) :=
  .of_wp fun prog w A R s h => by
    obtain ⟨hp, g, d, tk, os⟩ := s
    obtain ⟨ht, h⟩ := h
    have hT : (⟨hp, g, d, tk, os⟩ : Shared).TypeIs (.ref l) "tuple" := ⟨_, ht, rfl⟩
    have q1 := AutoSeq1.idx_int
    wp_walk using wpAny_loadPart' ht
    exact ⟨_, rfl, h⟩
theorem tup_mul0 (l : Addr) (a : Value) (n : Nat) (dd : Option Addr) (sl : Array (Option Value)) (u : Tok) :
    Meets (Builtin.«tuple.__mul__» ⟨[.ref l, .int 0 u], []⟩) (fun _ R s => s.heap.get? l = some { cls := .type "tuple", dict := dd, data := .seq #[a] n, slots := sl } ∧
      R (.ok (.ret (Value.ref s.heap.objs.size))) { s with heap := s.heap.push { cls := Value.type "tuple", data := Data.seq #[] } }) :=
  .of_wp fun prog w A R s h => by
    obtain ⟨hp, g, d, tk, os⟩ := s
    obtain ⟨ht, h⟩ := h
    have hT : (⟨hp, g, d, tk, os⟩ : Shared).TypeIs (.ref l) "tuple" := ⟨_, ht, rfl⟩
    have q1 := AutoSeq1.idx_int
    wp_walk using wpAny_loadPart' ht
    exact ⟨_, rfl, h⟩
section
variable {C : Fr} {X : Cx}
def rMulZ : R2 := fun x y H Q => ∃ l k a, x = .ref l ∧ y = .int k ∧ TpS H l [a] ∧ 0 ≤ k ∧ k ≤ 1000 ∧ (k = 1 → Q (.ref l) H) ∧ ∀ p o, Obj.dict o = none → H p = none → Q (.ref p) (upd H p (.frz o (.tup (List.replicate k.toNat a))))
theorem op_mulZ : OpR X (binaryOp .Mult) rMulZ := by
  intro pins s σ H x y v u Q I rx ry h
  obtain ⟨l, k, a, rfl, rfl, hT, h0, h1, q1, q⟩ := h
  cases rx
  obtain ⟨t, rfl⟩ := ry
  obtain ⟨its, r, ⟨⟨cls, dd, data, sl⟩, ho, hc, n, hd⟩, hs⟩ := I.tuple (hT.sq (K := X.K))
  simp only at hc hd
  subst hc hd
  obtain ⟨av, rfl, ra⟩ := vals1 r
  have base : ∀ {Q' : Value → Shared → Prop}, wpAny (model X.prog X.w) X.A (call (.builtin "tuple.__mul__") [.ref l, .int k t]) Q' X.xe s → wpAny (model X.prog X.w) X.A (binaryOp .Mult (.ref l) (.int k t)) Q' X.xe s := fun hw =>
    wpAny_binaryOp_repeat_ref (T := "tuple") (U := "int") (by decide) ⟨_, ho, rfl⟩ (fun s' => typeIs_int s' k t) noFill_tuple_mul F.fills_int_mul F.slot_int_rmul repeat_tuple F.slot_int_index.lookup
      (call_meets F.slot_int_rmul (typeIs_int s k t) F.entry_int_rmul (F.args_int_rmul_2 _ _) (int_rmul_tuple k t l _ n dd sl) ⟨ho, rfl, ⟨_, ho, rfl⟩, hw⟩)
  by_cases k0 : k = 0
  · subst k0
    refine base (call_meets F.slot_tuple_mul ⟨_, ho, rfl⟩ F.entry_tuple_mul (F.args_tuple_mul_2 _ _) (tup_mul0 l av n dd sl t) ⟨ho, ?_⟩)
    exact laidZ I .nil (by simp) q
  · by_cases k1 : k = 1
    · subst k1
      exact base (call_meets F.slot_tuple_mul ⟨_, ho, rfl⟩ F.entry_tuple_mul (F.args_tuple_mul_2 _ _) (tup_mul1 l av n dd sl t) ⟨ho, .ref l, H, I, rfl, q1 rfl⟩)
    · have c0 : (decide (k < -(2 ^ 63)) || decide (k ≥ 2 ^ 63)) = false := by
        rw [decide_eq_false (by omega), decide_eq_false (by omega)]
        rfl
      have c1 : (([av] : List Value).toArray.isEmpty || k == 1) = false := by simp [k1]
      have c2 : (decide (k ≤ 0) || ([av] : List Value).toArray.isEmpty) = false := by
        rw [decide_eq_false (by omega)]
        rfl
      have c3 : ¬ ((([av] : List Value).toArray.size : Nat) : Int) * k > (2 ^ 63 - 1) / 8 := by simp; omega
      have c4 : Builtin.Tuple.tupleTooMany (((([av] : List Value).toArray.size : Nat) : Int) * k) = false := by
        unfold Builtin.Tuple.tupleTooMany
        rw [sizeLine_eq]
        exact decide_eq_false (by simp; omega)
      have er : ∀ {α : Type} (b : α) (m : Nat), (List.replicate m [b]).flatten = List.replicate m b := fun b m => by
        induction m with
        | zero => rfl
        | succ m ih => simp [List.replicate_succ, ih]
      have fl : (List.replicate k.toNat av).length ≤ sizeLine := by
        rw [List.length_replicate, sizeLine_eq]
        omega
      refine base (call_meets F.slot_tuple_mul ⟨_, ho, rfl⟩ F.entry_tuple_mul (F.args_tuple_mul_2 _ _) (tuple_mulW l _ n dd sl k t c0 c1 c2 c3 c4 (by rw [size_rep, List.size_toArray, er]; exact fl)) ⟨ho, ?_⟩)
      rw [size_rep, er]
      have rr : Vals (List.replicate k.toNat a) (List.replicate k.toNat av) := by
        have := r.rep k.toNat
        rw [er, er] at this
        exact this
      exact laidZ I rr (by rw [List.length_replicate, sizeLine_eq]; omega) q
def mulD : D → D → Option D
  | .tuple [x], .int k => if 0 ≤ k ∧ k ≤ 1000 then some (.tuple (List.replicate k.toNat x)) else none
  | _, _ => none
theorem op_mulG (hK : C.K = X.K) : OpR X (binaryOp .Mult) (rG C (op2 mulD)) := by
  intro pins s σ H x y v u Q I rx ry h
  obtain ⟨σ', ρ, τ, an, a, b, z, S, g, q⟩ := h
  obtain ⟨dx, dy, dz, h1, h2, h3, rfl⟩ := op2_inv g
  have n1 := S.res (List.mem_cons_of_mem _ List.mem_cons_self) h1
  have n2 := S.res List.mem_cons_self h2
  unfold mulD at h3
  split at h3
  · rename_i d k
    split at h3
    · rename_i hk
      cases h3
      obtain ⟨a1, vs, rfl, t1, l1, S1⟩ := S.itemsT (List.mem_cons_of_mem _ List.mem_cons_self) h1
      obtain ⟨w, rfl⟩ : ∃ w, vs = [w] := by
        match vs, l1 with
        | [w], _ => exact ⟨w, rfl⟩
      refine op_mulZ pins s σ H _ _ v u Q I rx ry ⟨a1, k, w, rfl, n2.int_inv, t1, hk.1, hk.2, fun e => ?_, fun p o ho hp => ?_⟩
      · subst e
        rw [rdo_tup h1] at S
        exact q _ H (S.pop.keepN fun p hp => hp)
      · refine q _ _ ((S1.ntup (vs := List.replicate k.toNat w) (xs := List.replicate k.toNat d) (by simp) (fun i v' x' a b => ?_) ho hp).keepN fun p hp => ?_)
        · have e1 := List.eq_of_mem_replicate (List.mem_of_getElem? a)
          have e2 := List.eq_of_mem_replicate (List.mem_of_getElem? b)
          subst e1
          subst e2
          exact List.mem_append_left _ List.mem_cons_self
        · exact List.mem_append_right _ (List.mem_cons_of_mem _ (List.mem_cons_of_mem _ hp))
    · cases h3
  · cases h3
end
end DL
namespace DL
open PySem L2

/-! ### enumerate(x), x a list or tuple -/
set_option maxHeartbeats 8000000 in
theorem enum_new1 {v : Value} {o : Obj} {Hh : Heap → Prop} (B : Begins v o Hh) :
    Meets (Builtin.«enumerate.__new__» ⟨[.type "enumerate", v], []⟩) (fun _ R s => Hh s.heap ∧
      R (.ok (.ret (.ref (s.heap.push o).objs.size))) { s with heap := (s.heap.push o).push { cls := .type "enumerate", data := .fields #[.none, .bool false, .ref s.heap.objs.size, rawInt 0, .none, .none] } }) :=
  .of_wp fun prog w A R s h => by
    obtain ⟨hp, g, d, tk, os⟩ := s
    obtain ⟨h1, h⟩ := h
    have su := sub_enumerate
    have go : ∀ {A' : Around} {E : Value → Shared → Prop} {Q : Value → Shared → Prop}, Q (.ref hp.objs.size) ⟨hp.push o, g, d, tk, os⟩ → wpAny (model prog w) A' (pyIter v) Q E ⟨hp, g, d, tk, os⟩ :=
      fun q => B.iter prog w _ _ ⟨hp, g, d, tk, os⟩ _ h1 q
    wp_walk using go
    refine wpAny_stack_any fun st => wpAny_pure ?_
    split
    · rename_i c _ _ _ _ _
      cases (c == Value.type "enumerate") <;> (wp_walk using go; exact ⟨_, rfl, h⟩)
    · wp_walk using go
      exact ⟨_, rfl, h⟩
section
variable {prog : Program} {w : World} {A : Around} {E : Value → Shared → Prop} {s : Shared}
theorem enum_starts {v : Value} {o : Obj} {Hh : Heap → Prop} {Q : Value → Shared → Prop} (B : Begins v o Hh) (h1 : Hh s.heap)
    (h : ∀ h', IsEnum h' (s.heap.objs.size + 1) s.heap.objs.size 0 .none → h'.get? s.heap.objs.size = some o → (∀ b o, s.heap.get? b = some o → h'.get? b = some o) → Q (.ref (s.heap.objs.size + 1)) { s with heap := h' }) :
    wpAny (model prog w) A (call (.type "enumerate") [v]) Q E s := by
  refine callType_new PySem.F.called_enumerate (by decide) (PySem.F.typeCall_enumerate_1 _) (PySem.F.newCall_enumerate_1 _) (fun ob => PySem.F.args_object_init_2 ob _) PySem.F.entry_enumerate_new (enum_new1 B) ⟨h1, ?_⟩
  have z1 : (s.heap.push o).objs.size = s.heap.objs.size + 1 := Heap.size_push ..
  show _ ∧ _
  rw [z1]
  have g := Heap.get?_push_size (s.heap.push o) (o := { cls := .type "enumerate", data := .fields #[.none, .bool false, .ref s.heap.objs.size, rawInt 0, .none, .none] }) rfl
  rw [z1] at g
  exact ⟨⟨_, g, rfl⟩, h _ g (Heap.get?_push_of_some _ (Heap.get?_push_size _ B.free)) fun b o e => Heap.get?_push_of_some _ (Heap.get?_push_of_some _ e)⟩
end
/-- pairs of a place and an item -/
def Itn (K : PySem.W.Frag) (q : Src) : It :=
  ⟨fun i H => ∃ (xs : List V) (x : V), q.sq K H xs ∧ xs[i]? = some x,
    fun i H v H' => ∃ T x, v = .ref T ∧ H T = none ∧ H' = upd H T (.tup [.int (i : Nat), x]) ∧ ∀ xs, q.sq K H xs → xs[i]? = some x,
    fun i H => ∃ xs : List V, q.sq K H xs ∧ i = xs.length⟩
theorem turn_n {P : Program} {w : World} {K : PySem.W.Frag} {elts : List Expr} {kk : Nat} {tpos : Pos} {q : Src} {e it : Addr} (n1 : q.at ≠ it) (n2 : q.at ≠ e) (n3 : e ≠ it) :
    Turn P w K (.Tuple elts kk tpos) (Itn K q) [e, it] e (fun i h => (∃ old, IsEnum h e it ((i : Nat) : Int) old) ∧ q.iter it i h) where
  mem := by simp
  obj := fun i h st c hc => by
    obtain ⟨⟨old, he⟩, h1⟩ := st
    have ec : c = e ∨ c = it := by simpa using hc
    rcases ec with z | z
    · subst z
      exact ⟨_, he, fun v q => nomatch q⟩
    · subst z
      exact Src.iobj h1
  keep := fun i h h' st k => by
    obtain ⟨⟨old, he⟩, h1⟩ := st
    exact ⟨⟨old, k e (by simp) _ he⟩, Src.imove h1 fun o z => k it (by simp) o z⟩
  item := by
    intro X hP hw hK hc i pins s σ H E I hf st hg
    subst hP hw hK
    obtain ⟨⟨old, he⟩, h1⟩ := st
    obtain ⟨xs, x, hq, hx⟩ := hg
    obtain ⟨us, r1, c1, _⟩ := Src.see I hq
    obtain ⟨u, hu, ru⟩ := r1.get hx
    have lt1 : e < s.heap.objs.size := Heap.lt_size he
    have lt2 : it < s.heap.objs.size := by
      obtain ⟨o, z, _⟩ := Src.iobj h1
      exact Heap.lt_size z
    have hh : X.A.in1.handled = none := I.ok.hd hc
    have off : e ∉ [it, q.at] := fun z => by
      rcases List.mem_cons.mp z with z | z
      · exact n3 z
      · exact n2 (List.mem_singleton.mp z).symm
    refine wpAny_pyNext_enum_itemD (q.draws hh it n1 us.toArray) he ⟨h1, c1⟩ ?_ n3 off fun y h' tk e1 ho st1 hT hsz hk => ?_
    · have := (List.getElem?_eq_some_iff.mp hu).1
      simpa using this
    have ey : y = u := by
      have : us[i]? = some y := by simpa using e1
      rw [hu] at this
      exact (Option.some.inj this).symm
    subst ey
    refine ⟨_, rfl, wpAny_letOwnedTupleGo_enum (s := { s with heap := h', toks := tk + 1 }) ho fun h2 he2 sb => ?_⟩
    have hT2 : h2.get? s.heap.objs.size = some { cls := .type "tuple", data := .seq #[.int i tk, y] } := (sb.2 _ (Nat.ne_of_gt lt1)).trans hT
    have new : ObjOk X.prog X.w (upd H s.heap.objs.size (.tup [.int (i : Nat), x])) h2 s.heap.objs.size (.tup [.int (i : Nat), x]) :=
      ⟨by show 2 ≤ sizeLine; decide, [.int i tk, y], .cons ⟨_, rfl⟩ (.cons ru .nil), ⟨_, hT2, rfl, _, rfl⟩⟩
    have I1 : L2.Inv X pins σ (upd H s.heap.objs.size (.tup [.int (i : Nat), x])) { s with heap := h2, toks := tk + 1 } :=
      I.turnedNew (ch := [e, it]) (fun b ob hb z => (sb.2 b (fun m => hb (by simp [m]))).trans (hk b ob (fun m => hb (by simp [m])) (fun m => hb (by simp [m])) z)) hf (Nat.le_refl _) new
    refine ⟨.ref s.heap.objs.size, _, I1, rfl, ⟨_, x, rfl, I.hok.fresh (Nat.le_refl _), rfl, fun l hl => by rw [Src.one I hl hq]; exact hx⟩, ⟨⟨y, ?_⟩, Src.imove st1.1 fun o z => (sb.2 _ (Ne.symm n3)).trans z⟩, fun c hcm => ?_⟩
    · have e1 : ((i + 1 : Nat) : Int) = (i : Int) + 1 := by omega
      rw [e1]
      exact he2
    · have hlt : c < s.heap.objs.size := by
        have ec : c = e ∨ c = it := by simpa using hcm
        rcases ec with z | z
        · subst z
          exact lt1
        · subst z
          exact lt2
      rw [upd_ne (Nat.ne_of_lt hlt)]
      exact (hf c hcm).1
  done := by
    intro X hP hw hK hc i pins s σ H E I hf st hg
    subst hP hw hK
    obtain ⟨⟨old, he⟩, h1⟩ := st
    obtain ⟨xs, hq, hi⟩ := hg
    subst hi
    obtain ⟨us, r1, c1, _⟩ := Src.see I hq
    have l1 := r1.length
    have hh : X.A.in1.handled = none := I.ok.hd hc
    refine wpAny_pyNext_enum_endD (q.draws hh it n1 us.toArray) he ⟨?_, c1⟩ fun h' hk => ⟨rfl, I.turnedL (ch := [e, it]) (t' := s.toks) (fun c o hb z => hk c o (fun m => hb (by simp [m])) z) hf⟩
    rw [List.size_toArray, ← l1]
    exact h1
  self := fun A i s Q E st h => let ⟨⟨_, he⟩, _⟩ := st; wpAny_pyIter_enum he h

section
variable {C : Fr} {X : Cx} {tg : Expr}
def enumD : Nat → List D → List R
  | _, [] => []
  | n, x :: xs => R.w [.int (n : Nat), x] :: enumD (n + 1) xs
theorem enumD_at : ∀ {xs : List D} {n i : Nat} {r : R}, (enumD n xs)[i]? = some r → ∃ x, xs[i]? = some x ∧ r = R.w [.int ((n + i : Nat) : Int), x]
  | [], n, i, r, h => by simp [enumD] at h
  | x :: xs, n, 0, r, h => by
    simp [enumD] at h
    exact ⟨x, rfl, by rw [← h]; rfl⟩
  | x :: xs, n, i + 1, r, h => by
    obtain ⟨y, h1, h2⟩ := enumD_at (xs := xs) (n := n + 1) (i := i) (r := r) (by simpa [enumD] using h)
    refine ⟨y, by simpa using h1, ?_⟩
    rw [h2, show n + 1 + i = n + (i + 1) by omega]
theorem enumD_len : ∀ (xs : List D) (n : Nat), (enumD n xs).length = xs.length
  | [], _ => rfl
  | x :: xs, n => by simp [enumD, enumD_len xs (n + 1)]
/-- for i, x in enumerate(e) -/
def iEn (f : FE) : FI := fun ρ => (f ρ).bind fun p => (out1 p.1 p.2).bind fun a => (seqD a.1).map fun xs => (enumD 0 xs, a.2)
theorem itd_n {q : Src} {d : D} {xs : List D} (o1 : SrcOk C q d xs) (hK : C.K = X.K) : ItD C (Itn X.K q) (enumD 0 xs) [(.ref q.at, .d d)] := fun σ H ρ τ an S hi i => by
  obtain ⟨vs, h1, h2, S1⟩ := o1.see S (hi _ List.mem_cons_self)
  rw [hK] at h1
  refine ⟨fun r hr => ?_, fun e => ?_⟩
  · obtain ⟨x, hx, rfl⟩ := enumD_at hr
    have l1 : i < vs.length := by
      rw [h2]
      exact (List.getElem?_eq_some_iff.mp hx).1
    refine ⟨⟨vs, vs[i], h1, by simp [l1]⟩, fun v H' y' => ?_⟩
    obtain ⟨T, v1, rfl, hT, rfl, k1⟩ := y'
    have e1 := k1 vs h1
    obtain ⟨fp, s⟩ := S1.grow (Le.new (o := .tup [.int (i : Nat), v1]) hT)
    refine ⟨fp, s.tmps fun t ht => ?_⟩
    rcases List.mem_cons.mp ht with rfl | ht
    · refine ⟨T, [.int (i : Nat), v1], rfl, Or.inl (Or.inl (msk_of (fun z => s.nots z upd_same) upd_same)), DnL.cons ?_ (DnL.cons ?_ DnL.nil)⟩
      · rw [Nat.zero_add]
        exact .int _
      · exact s.tmp _ (List.mem_append_left _ (mem_tz e1 hx))
    · exact s.tmp t (List.mem_append_right _ ht)
  · rw [enumD_len] at e
    exact ⟨vs, h1, by omega⟩
theorem di_enum {e1 : Expr} {f : FE} {p pos tpos : Pos} {elts : List Expr} {kk : Nat} (hK : C.K = X.K) (hg : Gl X "enumerate") (hm : X.mg "enumerate" = none) (h1 : PE X e1 (tE C f))
    (hs : starEach [e1] X.env = (false, eval e1 X.env) :: starEach [] X.env := by rfl) (hpl : (backTo pos (starEach [] X.env)).any (·.1) = false := by rfl) :
    PI X (.Tuple elts kk tpos) (.Call (.Name "enumerate" p) [e1] [] pos) (tI C (iEn f)) := by
  refine ⟨fun pins s σ H Rr I h => ?_⟩
  obtain ⟨ρ, τ, an, rs, ρ', S, e0, k⟩ := h
  unfold iEn at e0
  cases z1 : f ρ with
  | none => simp [z1] at e0
  | some p1 =>
    obtain ⟨r1, ρ1⟩ := p1
    cases z2 : out1 r1 ρ1 with
    | none => simp [z1, z2] at e0
    | some q1 =>
      obtain ⟨d1, ρ2⟩ := q1
      cases z5 : seqD d1 with
      | none => simp [z1, z2, z5] at e0
      | some xs =>
        simp [z1, z2, z5] at e0
        obtain ⟨rfl, rfl⟩ := e0
        have ha : PA X [e1] (tCons (tE C f) tNil) := pa_cons h1 pa_nil hs
        have start : tCons (tE C f) tNil σ H (fun us H1 => ∃ v1, us = [v1] ∧ SD C σ H1 ρ2 ((v1, .d d1) :: τ) an) := ⟨ρ, τ, an, r1, ρ1, S, z1, fun v1 H1 S1 => ⟨v1, rfl, out1_ok S1 z2⟩⟩
        refine PyProof.Rows.Call_ (ld_blt I hg hm PyProof.Rows.boot_enumerate (PyProof.Rows.callWith_type1 (thn (ha.run pos pins s σ H _ I start) fun us s1 w => ?_) hs hpl))
        obtain ⟨vs, H1, I1, rv, v1, rfl, S1⟩ := w
        obtain ⟨q, rfl, ok1⟩ := srcOk_of z5 S1
        obtain ⟨u1, rfl, rv1⟩ := vals1 rv
        cases rv1
        obtain ⟨as, m1, l1, _⟩ := ok1.see S1 List.mem_cons_self
        rw [hK] at m1
        obtain ⟨us1, t1, c1, lt1⟩ := Src.see I1 m1
        refine enum_starts (q.begins us1.toArray) c1 fun h' he g1 hk => wpAny_pyIter_enum he ?_
        have I2 : L2.Inv X pins σ H1 { s1 with heap := h' } := I1.kept (t' := s1.toks) hk
        refine ⟨s1.heap.objs.size + 1, [s1.heap.objs.size + 1, s1.heap.objs.size], _, _, H1, rfl, I2, turn_n (Nat.ne_of_lt lt1) (Nat.ne_of_lt (Nat.lt_succ_of_lt lt1)) (Nat.succ_ne_self _),
          ⟨⟨.none, he⟩, Src.start g1⟩, fun c hcm => ?_, k _ H1 [(.ref q.at, .d d1)] (AllD.cons AllD.nil) S1 (itd_n ok1 hK)⟩
        have hle : s1.heap.objs.size ≤ c := by
          have ec : c = s1.heap.objs.size + 1 ∨ c = s1.heap.objs.size := by simpa using hcm
          rcases ec with e | e
          all_goals
            rw [e]
            first | exact Nat.le_add_right _ _ | exact Nat.le_refl _
        exact I1.fpOk hle (I1.hok.fresh hle)
end
end DL
namespace DL
open PySem L2

section
variable {C : Fr} {X : Cx} {fp : Nat → List Addr} {σ : L2.St} {H H' : Hp} {ρ ρ' : Rho} {τ : List (V × R)} {an an' : List (Addr × HO)} {v : V} {r : R} {x y z : D} {G : Ends} {p : Addr} {o : HO}

/-! ### numbers -/
def modD : D → D → Option D
  | .int i, .int j => if 0 < j then some (.int (i % j)) else none
  | _, _ => none
theorem op_modG (hK : C.K = X.K) : OpR X (binaryOp .Mod) (rG C (op2 modD)) := by
  intro pins s σ H x y v u Q I rx ry h
  obtain ⟨σ', ρ, τ, an, a, b, z, S, g, q⟩ := h
  obtain ⟨dx, dy, dz, h1, h2, h3, rfl⟩ := op2_inv g
  have n1 := S.res (List.mem_cons_of_mem _ List.mem_cons_self) h1
  have n2 := S.res List.mem_cons_self h2
  unfold modD at h3
  split at h3
  · split at h3
    · rename_i hj
      cases h3
      exact op_mod pins s σ H x y v u Q I rx ry ⟨_, _, n1.int_inv, n2.int_inv, hj, q _ H (S.pop2.push fun _ _ => .int _)⟩
    · cases h3
  · cases h3
def divD : D → D → Option D
  | .int i, .int j => if 0 < j ∧ j < 1073741824 then some (.int (i / j)) else none
  | _, _ => none
theorem op_divG (hK : C.K = X.K) : OpR X (binaryOp .FloorDiv) (rG C (op2 divD)) := by
  intro pins s σ H x y v u Q I rx ry h
  obtain ⟨σ', ρ, τ, an, a, b, z, S, g, q⟩ := h
  obtain ⟨dx, dy, dz, h1, h2, h3, rfl⟩ := op2_inv g
  have n1 := S.res (List.mem_cons_of_mem _ List.mem_cons_self) h1
  have n2 := S.res List.mem_cons_self h2
  unfold divD at h3
  split at h3
  · split at h3
    · rename_i hj
      cases h3
      exact op_fdiv pins s σ H x y v u Q I rx ry ⟨_, _, n1.int_inv, n2.int_inv, hj, q _ H (S.pop2.push fun _ _ => .int _)⟩
    · cases h3
  · cases h3
/-- * of numbers, one of them small -/
def mulI : D → D → Option D
  | .int i, .int j => if (-(2 ^ 64) < i ∧ i < 2 ^ 64) ∨ (-(2 ^ 64) < j ∧ j < 2 ^ 64) then some (.int (i * j)) else none
  | _, _ => none
theorem op_mulI (hK : C.K = X.K) : OpR X (binaryOp .Mult) (rG C (op2 mulI)) := by
  intro pins s σ H x y v u Q I rx ry h
  obtain ⟨σ', ρ, τ, an, a, b, z, S, g, q⟩ := h
  obtain ⟨dx, dy, dz, h1, h2, h3, rfl⟩ := op2_inv g
  have n1 := S.res (List.mem_cons_of_mem _ List.mem_cons_self) h1
  have n2 := S.res List.mem_cons_self h2
  unfold mulI at h3
  split at h3
  · split at h3
    · rename_i hj
      cases h3
      exact op_mul pins s σ H x y v u Q I rx ry ⟨_, _, n1.int_inv, n2.int_inv, hj, q _ H (S.pop2.push fun _ _ => .int _)⟩
    · cases h3
  · cases h3
def powD : D → D → Option D
  | .int i, .int j => if 0 ≤ j ∧ j ≤ 1000000 ∧ i.natAbs < 2 ^ 64 then some (.int (i ^ j.toNat)) else none
  | _, _ => none
theorem op_powG (hK : C.K = X.K) : OpR X (binaryOp .Pow) (rG C (op2 powD)) := by
  intro pins s σ H x y v u Q I rx ry h
  obtain ⟨σ', ρ, τ, an, a, b, z, S, g, q⟩ := h
  obtain ⟨dx, dy, dz, h1, h2, h3, rfl⟩ := op2_inv g
  have n1 := S.res (List.mem_cons_of_mem _ List.mem_cons_self) h1
  have n2 := S.res List.mem_cons_self h2
  unfold powD at h3
  split at h3
  · split at h3
    · rename_i hj
      cases h3
      exact op_pow pins s σ H x y v u Q I rx ry ⟨_, _, n1.int_inv, n2.int_inv, hj, q _ H (S.pop2.push fun _ _ => .int _)⟩
    · cases h3
  · cases h3

/-! ### the script -/
def sAt (i : Nat) (ρ : Rho) : Option (List Int) := match ρ[i]? with
  | some (some (.s ns)) => some ns
  | _ => none
theorem sAt_inv {i : Nat} {ns : List Int} (h : sAt i ρ = some ns) : ρ[i]? = some (some (.s ns)) := by
  unfold sAt at h
  split at h
  · rename_i ys e
    cases h
    exact e
  · cases h
theorem SD.script (S : SD C σ H ρ τ an) {i : Nat} {ns : List Int} (e : sAt i ρ = some ns) : ∃ a, σ[i]? = some (some (.ref a)) ∧ SqL C.K H a (ns.map V.int) := by
  obtain ⟨fp, s⟩ := S
  obtain ⟨v, h1, h2, a, rfl, h3⟩ := s.bnd i _ (sAt_inv e)
  exact ⟨a, h1, (msk_le _ _).sql h3.sql⟩
def eLenS (i : Nat) : FE := fun ρ => (sAt i ρ).map fun ns => (.d (.int ns.length), ρ)
theorem de_lenS {i : Nat} {n : Str} {p1 p pos : Pos} (hK : C.K = X.K) (hg : Gl X "len") (hm : X.mg "len" = none) (hn : PE X (.Name n p) (tVar i)) (he : starEach [.Name n p] X.env = (false, eval (.Name n p) X.env) :: starEach [] X.env := by rfl) (hpl : (backTo pos (starEach [] X.env)).any (·.1) = false := by rfl) :
    PE X (.Call (.Name "len" p1) [.Name n p] [] pos) (tE C (eLenS i)) :=
  (pe_callB call_len hg hm (by decide +kernel) (pa_cons hn pa_nil he) (by decide) (by decide) he hpl).dl fun σ H Q h => by
    obtain ⟨ρ, τ, an, r, ρ', S, e, q⟩ := h
    unfold eLenS at e
    cases e1 : sAt i ρ with
    | none => simp [e1] at e
    | some ns =>
      simp [e1] at e
      obtain ⟨rfl, rfl⟩ := e
      obtain ⟨a, h1, h2⟩ := S.script e1
      rw [hK] at h2
      refine ⟨.ref a, h1, .ref a, ns.length, rfl, Or.inl ⟨_, h2, by simp⟩, q _ H (S.push fun _ _ => .int _)⟩
def tTruS (i : Nat) : FT := fun ρ => (sAt i ρ).map fun ns => (!ns.isEmpty, ρ)
theorem dt_truS {i : Nat} {n : Str} {p : Pos} (hK : C.K = X.K) (hn : PE X (.Name n p) (tVar i)) (he : ∀ whole, isTrue (.Name n p) X.env whole = (do let v ← whole; standAt (Expr.Name n p).pos; holding [v] (truthy v)) := by intro _; rfl) : PT X (.Name n p) (tT C (tTruS i)) :=
  (pt_truth hn he).dl fun σ H Q h => by
    obtain ⟨ρ, τ, an, k, ρ', S, e, q⟩ := h
    unfold tTruS at e
    cases e1 : sAt i ρ with
    | none => simp [e1] at e
    | some ns =>
      simp only [e1, Option.map_some, Option.some.injEq, Prod.mk.injEq] at e
      obtain ⟨rfl, rfl⟩ := e
      obtain ⟨a, h1, h2⟩ := S.script e1
      rw [hK] at h2
      refine ⟨.ref a, h1, !ns.isEmpty, Or.inl ⟨_, h2, by cases ns <;> rfl⟩, q H S⟩
def eIxS (i : Nat) (f : FE) : FE := fun ρ => (sAt i ρ).bind fun _ => match f ρ with
  | some (.d (.int k), ρ') => (sAt i ρ').bind fun ns => (atI ns k).map fun n => (.d (.int n), ρ')
  | _ => none
theorem de_ixS {i : Nat} {n : Str} {b : Expr} {f : FE} {p pos : Pos} (hK : C.K = X.K) (hn : PE X (.Name n p) (tVar i)) (hb : PE X b (tE C f)) (hs : PlainIx b) : PE X (.Subscript (.Name n p) b pos) (tE C (eIxS i f)) := (pe_ix ix_list hn hb hs).dl fun σ H Q h => by
  obtain ⟨ρ, τ, an, r, ρ', S, e, q⟩ := h
  unfold eIxS at e
  cases e1 : sAt i ρ with
  | none => simp [e1] at e
  | some ns0 =>
    simp only [e1, Option.bind_some] at e
    split at e
    · rename_i k ρ1 e2
      cases e0 : sAt i ρ1 with
      | none => simp [e0] at e
      | some ns =>
        cases e3 : atI ns k with
        | none => simp [e0, e3] at e
        | some m =>
          simp [e0, e3] at e
          obtain ⟨rfl, rfl⟩ := e
          obtain ⟨a, h1, h2⟩ := S.script e1
          refine ⟨.ref a, h1, ρ, τ, an, _, _, S, e2, fun w H1 S1 => ?_⟩
          have ew := S1.here.int_inv
          subst ew
          obtain ⟨a', g1, g2⟩ := S1.script e0
          rw [h1] at g1
          cases g1
          rw [hK] at g2
          refine ⟨a, _, k, .int m, rfl, rfl, g2, ?_, q _ H1 (S1.pop.push fun _ _ => .int _)⟩
          unfold atI at e3 ⊢
          rw [List.length_map]
          cases e4 : ixN ns.length k with
          | none =>
            rw [e4] at e3
            cases e3
          | some j =>
            rw [e4] at e3
            have e5 : ns[j]? = some m := e3
            show (ns.map V.int)[j]? = some (.int m)
            rw [List.getElem?_map, e5]
            rfl
    · cases e

/-! ### the town -/
def tAt (j : Nat) (ρ : Rho) : Option (Int × List (Int × Int)) := match ρ[j]? with
  | some (some (.t c m)) => some (c, m)
  | _ => none
theorem tAt_inv {j : Nat} {c : Int} {m : List (Int × Int)} (h : tAt j ρ = some (c, m)) : ρ[j]? = some (some (.t c m)) := by
  unfold tAt at h
  split at h
  · rename_i c m e
    cases h
    exact e
  · cases h
abbrev cntO (c : Int) (b : Addr) : HO := .dK [(Sum.inr "count", .int c), (Sum.inr "rests", .ref b)]
abbrev rstO (m : List (Int × Int)) : HO := .dK (m.map fun p => (Sum.inl p.1, .int p.2))
theorem SD.town (S : SD C σ H ρ τ an) {j : Nat} {c : Int} {m : List (Int × Int)} (e : tAt j ρ = some (c, m)) : ∃ a b, σ[j]? = some (some (.ref a)) ∧ a ≠ b ∧ H a = some (cntO c b) ∧ H b = some (rstO m) := by
  obtain ⟨fp, s⟩ := S
  obtain ⟨v, h1, a, b, rfl, h2, h3, h4, h5, h6⟩ := s.bnd j _ (tAt_inv e)
  exact ⟨a, b, h1, h3, h5, h6⟩
/-- the town's cells change -/
theorem SD.retown (S : SD C σ H ρ τ an) {j : Nat} {c c' : Int} {m m' : List (Int × Int)} (e : tAt j ρ = some (c, m)) {a b : Addr} (hv : σ[j]? = some (some (.ref a))) (hb : H a = some (cntO c b)) (k : ∀ x o, x ≠ a → x ≠ b → H x = some o → H' x = some o)
    (ha' : H' a = some (cntO c' b)) (hb' : H' b = some (rstO m')) : SD C σ H' (ρ.set j (some (.t c' m'))) τ an := by
  obtain ⟨fp, s⟩ := S
  obtain ⟨v, h1, a1, b1, h0, h2, h3, h4, h5, h6⟩ := s.bnd j _ (tAt_inv e)
  rw [hv] at h1
  cases h1
  cases h0
  rw [hb] at h5
  have eb : b = b1 := by
    injection h5 with h5
    injection h5 with h5
    injection h5 with _ h5
    injection h5 with h5 _
    injection h5 with _ h5
    injection h5
  subst eb
  refine ⟨fp, s.chg hv (fun x o hx ho => k x o (fun z => hx (by rw [h2, z]; simp)) (fun z => hx (by rw [h2, z]; simp)) ho) (fun x hx => ?_) ⟨_, tAt_inv e⟩ fun _ => ⟨a, b, rfl, h2, h3, h4, ha', hb'⟩⟩
  rw [h2] at hx
  rcases List.mem_cons.mp hx with z | z
  · subst z
    exact ⟨_, ha', trivial⟩
  · have z := List.mem_singleton.mp z
    subst z
    exact ⟨_, hb', trivial⟩
theorem neCR : ¬ (Sum.inr ("count" : Str) : Key) = Sum.inr ("rests" : Str) := by decide
theorem val_count (c : Int) (b : Addr) : valV [((Sum.inr "count" : Key), V.int c), (Sum.inr "rests", V.ref b)] (Sum.inr "count") = some (.int c) := valV_pos rfl
theorem val_rests (c : Int) (b : Addr) : valV [((Sum.inr "count" : Key), V.int c), (Sum.inr "rests", V.ref b)] (Sum.inr "rests") = some (.ref b) := by
  rw [valV_neg neCR]
  exact valV_pos rfl
theorem put_count (c c' : Int) (b : Addr) : putK [((Sum.inr "count" : Key), V.int c), (Sum.inr "rests", V.ref b)] (Sum.inr "count") (.int c') = [((Sum.inr "count" : Key), V.int c'), (Sum.inr "rests", V.ref b)] := by
  unfold putK
  rw [if_pos (by simp)]
  simp only [List.map_cons, List.map_nil, if_pos, if_neg (Ne.symm neCR)]
/-- town['count'] -/
def eCnt (j : Nat) : FE := fun ρ => (tAt j ρ).map fun t => (.d (.int t.1), ρ)
theorem de_cnt {j : Nat} {n : Str} {p pos p2 : Pos} {k : Nat} (hu : X.A.units + 1 < cLine) (hn : PE X (.Name n p) (tVar j)) : PE X (.Subscript (.Name n p) (.Constant (.str "count") k p2) pos) (tE C (eCnt j)) :=
  (pe_dget hu hn (pe_str (x := "count")) (fun _ _ => rfl)).dl fun σ H Q h => by
    obtain ⟨ρ, τ, an, r, ρ', S, e, q⟩ := h
    unfold eCnt at e
    cases e1 : tAt j ρ with
    | none => simp [e1] at e
    | some t =>
      obtain ⟨c, m⟩ := t
      simp [e1] at e
      obtain ⟨rfl, rfl⟩ := e
      obtain ⟨a, b, h1, h2, h3, h4⟩ := S.town e1
      refine ⟨.ref a, h1, a, .int c, rfl, ?_, q _ H (S.push fun _ _ => .int _)⟩
      rw [← val_count c b]
      exact DGet.k (k := Sum.inr "count") h3
/-- town['count'] = e -/
def sCnt (j : Nat) (f : FE) : FS := fun ρ => match f ρ with
  | some (.d (.int c), ρ') => (tAt j ρ').map fun t => .next (ρ'.set j (some (.t c t.2)))
  | _ => none
theorem ds_cnt {j : Nat} {n : Str} {e : Expr} {f : FE} {p pos p2 pos' : Pos} {k : Nat} (hu : X.A.units + 1 < cLine) (hn : PE X (.Name n p) (tVar j)) (he : PE X e (tE C f)) (hs : swapsWith e (some (.Subscript (.Name n p) (.Constant (.str "count") k p2) pos')) pos.line X.env = pure false := by rfl) :
    PS X (.Assign [.Subscript (.Name n p) (.Constant (.str "count") k p2) pos'] e pos) (tS C (sCnt j f)) :=
  (ps_dput hu hn (pe_str (x := "count")) he hs).dl fun G σ H h => by
    obtain ⟨ρ, τ, an, o, ad, S, e, kk⟩ := h
    unfold sCnt at e
    split at e
    · rename_i c ρ1 e1
      cases e2 : tAt j ρ1 with
      | none => simp [e2] at e
      | some t =>
        obtain ⟨c0, m⟩ := t
        simp [e2] at e
        subst e
        refine ⟨ρ, τ, an, _, ρ1, S, e1, fun w H1 S1 => ?_⟩
        have ew := S1.here.int_inv
        subst ew
        obtain ⟨a, b, h1, h2, h3, h4⟩ := S1.town e2
        refine ⟨.ref a, h1, a, _, rfl, DPut.k (k := Sum.inr "count") h3 (by show 2 < sizeLine; decide), kk _ _ ?_⟩
        rw [put_count]
        exact S1.pop.retown e2 h1 h3 (fun x o n1 n2 ho => by rw [upd_ne n1]; exact ho) upd_same (by rw [upd_ne (Ne.symm h2)]; exact h4)
    · cases e
def getI (m : List (Int × Int)) (k : Int) : Option Int := (m.find? fun p => decide (p.1 = k)).map (·.2)
def putI (m : List (Int × Int)) (k v : Int) : List (Int × Int) := if (m.any fun p => decide (p.1 = k)) = true then m.map (fun p => if p.1 = k then (p.1, v) else p) else m ++ [(k, v)]
theorem valI : ∀ (m : List (Int × Int)) (k : Int), valV (m.map fun p => ((Sum.inl p.1 : Key), V.int p.2)) (Sum.inl k) = (getI m k).map V.int
  | [], k => rfl
  | (i, n) :: m, k => by
    rw [List.map_cons]
    by_cases h : i = k
    · subst h
      rw [valV_pos rfl]
      simp [getI]
    · rw [valV_neg (fun z => h (by injection z)), valI m k]
      simp [getI, h]
theorem putKI (m : List (Int × Int)) (k v : Int) : putK (m.map fun p => ((Sum.inl p.1 : Key), V.int p.2)) (Sum.inl k) (.int v) = (putI m k v).map fun p => (Sum.inl p.1, .int p.2) := by
  unfold putK putI
  have e : ((m.map fun p => ((Sum.inl p.1 : Key), V.int p.2)).any fun kv => decide (kv.1 = Sum.inl k)) = m.any fun p => decide (p.1 = k) := by
    rw [List.any_map]
    congr 1
    funext p
    simp
  rw [e]
  split
  · rw [List.map_map, List.map_map]
    refine List.map_congr_left fun p _ => ?_
    by_cases h : p.1 = k
    · simp [h]
    · simp [h]
  · simp
/-- town['rests'].get(e, d) -/
def eRst (j : Nat) (f g : FE) : FE := fun ρ => (tAt j ρ).bind fun _ => match f ρ with
  | some (.d (.int k), ρ1) => match g ρ1 with
    | some (.d (.int d), ρ2) => (tAt j ρ2).map fun t => (.d (.int ((getI t.2 k).getD d)), ρ2)
    | _ => none
  | _ => none
theorem tw_b {S : SD C σ H ρ τ an} {a b b' : Addr} {c c' : Int} (h : H a = some (cntO c b)) (h' : H a = some (cntO c' b')) : b = b' := by
  rw [h] at h'
  injection h' with h5
  injection h5 with h5
  injection h5 with _ h5
  injection h5 with h5 _
  injection h5 with _ h5
  injection h5
end
end DL
namespace DL
open PySem L2

section
variable {C : Fr} {X : Cx} {fp : Nat → List Addr} {σ : L2.St} {H H' : Hp} {ρ ρ' : Rho} {τ : List (V × R)} {an an' : List (Addr × HO)} {v : V} {r : R} {x y z : D} {G : Ends} {p : Addr} {o : HO}

/-- town['rests'], as a value -/
theorem pe_rests {j : Nat} {n : Str} {p pos p2 : Pos} {k : Nat} (hu : X.A.units + 1 < cLine) (hn : PE X (.Name n p) (tVar j)) : PE X (.Subscript (.Name n p) (.Constant (.str "rests") k p2) pos) (tDGet (tVar j) (tC (.str "rests"))) := pe_dget hu hn (pe_str (x := "rests")) (fun _ _ => rfl)
/-- the town's cells, by the frame -/
theorem SD.townC (S : SD C σ H ρ τ an) {j : Nat} {c : Int} {m : List (Int × Int)} (e : tAt j ρ = some (c, m)) {a b : Addr} (ht : C.tw = some (a, b)) : σ[j]? = some (some (.ref a)) ∧ a ≠ b ∧ H a = some (cntO c b) ∧ H b = some (rstO m) := by
  obtain ⟨fp, s⟩ := S
  obtain ⟨v, h1, a', b', rfl, h2, h3, h4, h5, h6⟩ := s.bnd j _ (tAt_inv e)
  have e' := h4 _ ht
  cases e'
  exact ⟨h1, h3, h5, h6⟩
theorem de_rst {j : Nat} {n : Str} {a d : Expr} {f g : FE} {p pos p2 apos cpos : Pos} {k : Nat} (ht : C.tw.isSome = true) (hu : X.A.units + 1 < cLine) (hn : PE X (.Name n p) (tVar j)) (ha : PE X a (tE C f)) (hd : PE X d (tE C g)) (m : M2 X (.Subscript (.Name n p) (.Constant (.str "rests") k p2) pos) "get" apos a d cpos) :
    PE X (.Call (.Attribute (.Subscript (.Name n p) (.Constant (.str "rests") k p2) pos) "get" apos) [a, d] [] cpos) (tE C (eRst j f g)) :=
  (pe_dget2 hu (pe_rests hu hn) ha hd m).dl fun σ H Q h => by
    obtain ⟨⟨ta, tb⟩, hc⟩ := Option.isSome_iff_exists.mp ht
    obtain ⟨ρ, τ, an, r, ρ', S, e, q⟩ := h
    unfold eRst at e
    cases e0 : tAt j ρ with
    | none => simp [e0] at e
    | some t0 =>
      obtain ⟨c0, m0⟩ := t0
      simp only [e0, Option.bind_some] at e
      split at e
      · rename_i k1 ρ1 e1
        split at e
        · rename_i d1 ρ2 e2
          cases e3 : tAt j ρ2 with
          | none => simp [e3] at e
          | some t3 =>
            obtain ⟨c3, m3⟩ := t3
            simp [e3] at e
            obtain ⟨rfl, rfl⟩ := e
            obtain ⟨h1, h2, h3, h4⟩ := S.townC e0 hc
            refine ⟨.ref ta, h1, ta, .ref tb, rfl, ?_, tb, rfl, Or.inl ⟨_, Or.inl h4⟩, ρ, τ, an, _, ρ1, S, e1, fun v1 H1 S1 => ⟨ρ1, _, an, _, ρ2, S1, e2, fun v2 H2 S2 => ?_⟩⟩
            · rw [← val_rests c0 tb]
              exact DGet.k (k := Sum.inr "rests") h3
            · have ev1 := (S2.at (List.mem_cons_of_mem _ List.mem_cons_self)).int_inv
              have ev2 := S2.here.int_inv
              subst ev1
              subst ev2
              obtain ⟨g1, g2, g3, g4⟩ := S2.townC e3 hc
              refine ⟨(getI m3 k1).map V.int, ?_, ?_⟩
              · rw [← valI]
                exact DGet.k (k := Sum.inl k1) g4
              · have e4 : ((getI m3 k1).map V.int).getD (.int d1) = .int ((getI m3 k1).getD d1) := by cases getI m3 k1 <;> rfl
                rw [e4]
                exact q _ H2 (S2.pop2.push fun _ _ => .int _)
        · cases e
      · cases e
/-- town['rests'][k] = e -/
def sRst (j : Nat) (f g : FE) : FS := fun ρ => match f ρ with
  | some (.d (.int v), ρ1) => (tAt j ρ1).bind fun _ => match g ρ1 with
    | some (.d (.int k), ρ2) => (tAt j ρ2).bind fun t => if t.2.length < 1000000 then some (.next (ρ2.set j (some (.t t.1 (putI t.2 k v))))) else none
    | _ => none
  | _ => none
theorem ds_rst {j : Nat} {n : Str} {i e : Expr} {f g : FE} {p pos p1 p2 pos' : Pos} {k : Nat} (ht : C.tw.isSome = true) (hu : X.A.units + 1 < cLine) (hn : PE X (.Name n p) (tVar j)) (hi : PE X i (tE C g)) (he : PE X e (tE C f))
    (hs : swapsWith e (some (.Subscript (.Subscript (.Name n p) (.Constant (.str "rests") k p2) p1) i pos')) pos.line X.env = pure false := by rfl) :
    PS X (.Assign [.Subscript (.Subscript (.Name n p) (.Constant (.str "rests") k p2) p1) i pos'] e pos) (tS C (sRst j f g)) :=
  (ps_dput hu (pe_rests hu hn) hi he hs).dl fun G σ H h => by
    obtain ⟨⟨ta, tb⟩, hc⟩ := Option.isSome_iff_exists.mp ht
    obtain ⟨ρ, τ, an, o, ad, S, e, kk⟩ := h
    unfold sRst at e
    split at e
    · rename_i v1 ρ1 e1
      cases e0 : tAt j ρ1 with
      | none => simp [e0] at e
      | some t0 =>
        obtain ⟨c0, m0⟩ := t0
        simp only [e0, Option.bind_some] at e
        split at e
        · rename_i k2 ρ2 e2
          cases e3 : tAt j ρ2 with
          | none => simp [e3] at e
          | some t3 =>
            obtain ⟨c3, m3⟩ := t3
            simp only [e3, Option.bind_some] at e
            split at e
            · rename_i hz
              cases e
              refine ⟨ρ, τ, an, _, ρ1, S, e1, fun w H1 S1 => ?_⟩
              have ew := S1.here.int_inv
              subst ew
              obtain ⟨h1, h2, h3, h4⟩ := S1.townC e0 hc
              refine ⟨.ref ta, h1, ta, .ref tb, rfl, ?_, ρ1, _, an, _, ρ2, S1, e2, fun w2 H2 S2 => ?_⟩
              · rw [← val_rests c0 tb]
                exact DGet.k (k := Sum.inr "rests") h3
              · have ew := S2.here.int_inv
                subst ew
                obtain ⟨g1, g2, g3, g4⟩ := S2.townC e3 hc
                refine ⟨tb, _, rfl, DPut.k (k := Sum.inl k2) g4 (by rw [List.length_map, sizeLine_eq]; omega), kk _ _ ?_⟩
                rw [putKI]
                exact S2.pop2.retown e3 g1 g3 (fun x o n1 n2 ho => by rw [upd_ne n2]; exact ho) (by rw [upd_ne g2]; exact g3) upd_same
            · cases e
        · cases e
    · cases e

/-! ### cells that came with a call -/
theorem SD.adopt {ps : List (Addr × HO)} (S : SD C σ H ρ τ an) (k : Le H H') (hp : ∀ q ∈ ps, H q.1 = none ∧ H' q.1 = some q.2 ∧ Mt q.2) (nd : (ps.map (·.1)).Nodup) : SD C σ H' ρ τ (ps ++ an) := by
  obtain ⟨fp, s⟩ := S
  have m : Le (msk (OO C.F fp an) H) (msk (OO C.F fp (ps ++ an)) H') := le_msk (fun a h => by
    rcases h with h | h | ⟨w, h⟩
    · exact .inl (.inl h)
    · exact .inl (.inr (.inl h))
    · rcases List.mem_append.mp h with h | h
      · exact .inr (hp _ h).1
      · exact .inl (.inr (.inr ⟨w, h⟩))) fun a u _ e => k a u e
  have h0 : ∀ q ∈ ps, C.H0 q.1 = none := fun q hq => by
    cases e : C.H0 q.1 with
    | none => rfl
    | some u =>
      by_cases hv : C.Vo q.1
      · obtain ⟨_, w, h2, _⟩ := s.vol q.1 hv
        rw [(hp q hq).1] at h2
        cases h2
      · have h2 := s.ext q.1 u hv e
        rw [(hp q hq).1] at h2
        cases h2
  have s' := s.grow k
  refine ⟨fp, s'.len, s'.ext, s'.vol, s'.inj, fun i a h w z => ?_, ?_, s'.own, fun a w h => ?_, s'.frn, fun i b e => ?_, s'.emp, fun q hq => (s.tmp q hq).mono m⟩
  · rcases List.mem_append.mp z with z | z
    · obtain ⟨_, u, h2, _⟩ := s.own i a h
      rw [(hp _ z).1] at h2
      cases h2
    · exact s.ani i a h w z
  · rw [List.map_append, List.nodup_append]
    refine ⟨nd, s.and, fun a ha b hb e => ?_⟩
    subst e
    obtain ⟨⟨a1, w1⟩, z1, z2⟩ := List.mem_map.mp ha
    obtain ⟨⟨a2, w2⟩, z3, z4⟩ := List.mem_map.mp hb
    have e1 : a1 = a := z2
    have e2 : a2 = a := z4
    subst e1
    subst e2
    obtain ⟨_, h2, _⟩ := s.ano _ w2 z3
    rw [(hp _ z1).1] at h2
    cases h2
  · rcases List.mem_append.mp h with h | h
    · exact ⟨h0 _ h, (hp _ h).2.1, (hp _ h).2.2⟩
    · exact s'.ano a w h
  · obtain ⟨v, h1, h2⟩ := s.bnd i b e
    exact ⟨v, h1, h2.mono m fun a _ u e => k a u e⟩

/-! ### _law_begun -/
def spBg (_ : PySem.W.Frag) : Sp := fun vs H Q _ => vs.length = 0 ∧ ∀ a b H', Le H H' → H a = none → H b = none → a ≠ b → H' a = some (cntO 0 b) → H' b = some (rstO []) → Q (.ref a) H'
theorem begun_pe {k1 k2 k3 : Nat} {p1 p2 p3 p4 pos : Pos} : PE X (.Dict [some (.Constant (.str "count") k1 p1), some (.Constant (.str "rests") k2 p2)] [.Constant (.int 0) k3 p3, .Dict [] [] p4] pos)
    (fun _ H Q => ∀ a b H', Le H H' → H a = none → H b = none → a ≠ b → H' a = some (cntO 0 b) → H' b = some (rstO []) → Q (.ref a) H') := by
  refine (pe_disp (pps_cons (pe_str (x := "count")) (pe_int (i := 0)) (pps_cons (pe_str (x := "rests")) pe_dnewK pps_nil)) rfl rfl (by simp) (by simp)).dl fun σ H Q h => ?_
  intro a ha
  show ∀ b, upd H a (.dK []) b = none → _
  intro b hb
  have hab : a ≠ b := fun z => by
    subst z
    rw [upd_same] at hb
    cases hb
  have hb2 : H b = none := by
    rw [upd_ne (Ne.symm hab)] at hb
    exact hb
  refine ⟨by rw [upd_ne hab]; exact upd_same, [(Sum.inr "count", .int 0), (Sum.inr "rests", .ref b)], rfl, by simp, ?_⟩
  have em : mergeK [] [((Sum.inr "count" : Key), V.int 0), (Sum.inr "rests", V.ref b)] = [((Sum.inr "count" : Key), V.int 0), (Sum.inr "rests", V.ref b)] := by
    show putK (putK [] (Sum.inr ("count" : Str) : Key) (V.int 0)) (Sum.inr ("rests" : Str)) (V.ref b) = _
    rw [putK_new _ valV_nil, List.nil_append, putK_new _ (by rw [valV_neg neCR, valV_nil])]
    rfl
  rw [em]
  refine h a b _ (fun c o e => ?_) ha hb2 hab upd_same ?_
  · have n1 : c ≠ a := fun z => by rw [z, ha] at e; cases e
    have n2 : c ≠ b := fun z => by rw [z, hb2] at e; cases e
    rw [upd_ne n1, upd_ne n2, upd_ne n1]
    exact e
  · rw [upd_ne (Ne.symm hab), upd_same]
    rfl
/-- name = _law_begun() -/
def sBg (i : Nat) : FS := fun ρ => if i < ρ.length then some (.next (ρ.set i (some (.t 0 [])))) else none
theorem ds_bg {i k : Nat} {n g : Str} {f : Addr} {fd : FuncData} {p pos pos' pos2 : Pos} (hK : C.K = X.K) (htw : C.tw = none) (hN : X.N.Nodup) (hi : X.N[i]? = some n) (hx : Loc X.env.scope n) (F : FnOk X.prog X.w X.K X.mg X.base (L2.CX X.prog X.w) k f fd [] (spBg X.K)) (hr : Room k X.A) (hg : Gl X g) (hm : X.mg g = some (.ref f)) (hk : PySem.W.keepIn X.K (.ref f) = true) (hb : Binds X.K fd [] [])
    (hdb : (g == ("__debug__" : Str)) = false := by decide) (hs : swapsWith (.Call (.Name g p) [] [] pos2) (some (.Name n pos')) pos.line X.env = pure false := by rfl) (hf : X.fn n = true ∨ X.env.scope.names.lookup n = some .local := by first | exact .inl rfl | exact .inr rfl | assumption) :
    PS X (.Assign [.Name n pos'] (.Call (.Name g p) [] [] pos2) pos) (tS C (sBg i)) :=
  (ps_set hN hi hx (pe_call0 (dvs := []) F hr hg hm hk hb .nil passL hdb) hs hf).dl fun G σ H h => by
    obtain ⟨ρ, τ, an, o, ad, S, e, kk⟩ := h
    unfold sBg at e
    split at e
    · rename_i hr
      cases e
      refine ⟨rfl, fun a b H' le ha hb hab ha' hb' => kk _ H' ?_⟩
      have S1 := S.adopt (ps := [(a, cntO 0 b), (b, rstO [])]) le (fun q hq => ?_) (by simp [hab])
      · refine SD.storeN (ps := [(a, cntO 0 b), (b, rstO [])]) S1 ad hr fun O' _ => ⟨a, b, rfl, rfl, hab, fun p hp => ?_, ha', hb'⟩
        rw [htw] at hp
        cases hp
      · rcases List.mem_cons.mp hq with z | z
        · subst z
          exact ⟨ha, ha', trivial⟩
        · rw [List.mem_singleton.mp z]
          exact ⟨hb, hb', trivial⟩
    · cases e
end
end DL
namespace DL
open PySem L2

abbrev TM := List Int → Int → List (Int × Int) → List D → Option (D × Int × List (Int × Int))
/-- what a def over script, town and data promises -/
def spT (K : PySem.W.Frag) (n : Nat) (m : TM) : Sp := fun vs H Q _ => vs.length = n + 2 ∧ ∃ as a b us ns c mm ds d c' mm', vs = .ref as :: .ref a :: us ∧ SqF K H as (ns.map V.int) ∧ a ≠ b ∧ H a = some (cntO c b) ∧ H b = some (rstO mm) ∧ DnL K H us ds ∧ m ns c mm ds = some (d, c', mm') ∧
  ∀ v H', (∀ x o, x ≠ a → x ≠ b → H x = some o → H' x = some o) → H' a = some (cntO c' b) → H' b = some (rstO mm') → Dn K (msk (mutIn H) H') v d → Q v H'
/-- what the law's def promises -/
def spL (K : PySem.W.Frag) (m : List Int → Option D) : Sp := fun vs H Q _ => vs.length = 1 ∧ ∃ a ns d, vs = [.ref a] ∧ SqF K H a (ns.map V.int) ∧ m ns = some d ∧ ∀ v H', Dn K H' v d → Q v H'

section
variable {C : Fr} {X : Cx} {fp : Nat → List Addr} {σ : L2.St} {H H' : Hp} {ρ ρ' : Rho} {τ : List (V × R)} {an an' : List (Addr × HO)} {v : V} {r : R} {x y z : D} {G : Ends} {p : Addr} {o : HO}
theorem SD.resultT (S : SD C σ H ρ τ an) {j : Nat} {c c' : Int} {m m' : List (Int × Int)} (e : tAt j ρ = some (c, m)) {a b : Addr} (hv : σ[j]? = some (some (.ref a))) (hb : H a = some (cntO c b)) (k : ∀ x o, x ≠ a → x ≠ b → H x = some o → H' x = some o)
    (ha' : H' a = some (cntO c' b)) (hb' : H' b = some (rstO m')) {d : D} (h : Dn C.K (msk (mutIn H) H') v d) : SD C σ H' (ρ.set j (some (.t c' m'))) ((v, .d d) :: τ) an := by
  obtain ⟨fp, s⟩ := S
  obtain ⟨v0, h1, a1, b1, h0, h2, h3, h4, h5, h6⟩ := s.bnd j _ (tAt_inv e)
  rw [hv] at h1
  cases h1
  cases h0
  have eb : b = b1 := tw_b (S := ⟨fp, s⟩) hb h5
  subst eb
  have s' : SDf C fp σ H' (ρ.set j (some (.t c' m'))) τ an := s.chg hv (fun x o hx ho => k x o (fun z => hx (by rw [h2, z]; simp)) (fun z => hx (by rw [h2, z]; simp)) ho) (fun x hx => by
    rw [h2] at hx
    rcases List.mem_cons.mp hx with z | z
    · subst z
      exact ⟨_, ha', trivial⟩
    · have z := List.mem_singleton.mp z
      subst z
      exact ⟨_, hb', trivial⟩) ⟨_, tAt_inv e⟩ fun _ => ⟨a, b, rfl, h2, h3, h4, ha', hb'⟩
  refine ⟨fp, s'.tmps fun q hq => ?_⟩
  rcases List.mem_cons.mp hq with rfl | hq
  · exact Dn.mono (le_msk (fun a z => .inl (s.oo z)) fun a o _ e => e) h
  · exact s'.tmp q hq
theorem SD.scriptF (S : SD C σ H ρ τ an) {i : Nat} {ns : List Int} (e : sAt i ρ = some ns) : ∃ a, σ[i]? = some (some (.ref a)) ∧ SqF C.K H a (ns.map V.int) := by
  obtain ⟨fp, s⟩ := S
  obtain ⟨v, h1, h2, a, rfl, h3⟩ := s.bnd i _ (sAt_inv e)
  exact ⟨a, h1, (msk_le _ _).sqf h3⟩
/-- f(script, town, ..) -/
def eCallT (n : Nat) (m : TM) (f : FA) : FE := fun ρ => (f ρ).bind fun p => match p.1 with
  | .own i :: .own j :: rs => if rs.length = n then (sAt i p.2).bind fun ns => (tAt j p.2).bind fun t => (rdos p.2 rs).bind fun ds => (m ns t.1 t.2 ds).map fun u => (.d u.1, p.2.set j (some (.t u.2.1 u.2.2))) else none
  | _ => none
theorem imp_callT {n : Nat} {m : TM} {f : FA} {E : XK} {Q : VK} (h : tE C (eCallT n m f) σ H Q) : tCall (spT C.K n m) [] E (tA C f) σ H Q := by
  obtain ⟨ρ, τ, an, r, ρ', S, e, q⟩ := h
  unfold eCallT at e
  cases e1 : f ρ with
  | none => simp [e1] at e
  | some p =>
    obtain ⟨rs0, ρ1⟩ := p
    simp only [e1, Option.bind_some] at e
    split at e
    · rename_i i j rs
      split at e
      · rename_i hn
        cases e2 : sAt i ρ1 with
        | none => simp [e2] at e
        | some ns =>
          cases e3 : tAt j ρ1 with
          | none => simp [e2, e3] at e
          | some t =>
            obtain ⟨c, mm⟩ := t
            cases e4 : rdos ρ1 rs with
            | none => simp [e2, e3, e4] at e
            | some ds =>
              cases e5 : m ns c mm ds with
              | none => simp [e2, e3, e4, e5] at e
              | some u =>
                obtain ⟨d, c', mm'⟩ := u
                simp [e2, e3, e4, e5] at e
                obtain ⟨rfl, rfl⟩ := e
                refine ⟨ρ, τ, an, _, _, S, e1, fun vs H1 hl S1 => ?_⟩
                match vs, hl with
                | v1 :: v2 :: us, hl =>
                  have hl' : us.length = rs.length := by simpa using hl
                  obtain ⟨a0, g1, g2⟩ := S1.scriptF e2
                  obtain ⟨a, b, g3, g4, g5, g6⟩ := S1.town e3
                  have hv1 : v1 = .ref a0 := by
                    obtain ⟨fp, s⟩ := id S1
                    have := s.tmp (v1, .own i) (List.mem_append_left _ List.mem_cons_self)
                    have this : σ[i]? = some (some v1) := this
                    rw [g1] at this
                    cases this
                    rfl
                  have hv2 : v2 = .ref a := by
                    obtain ⟨fp, s⟩ := id S1
                    have := s.tmp (v2, .own j) (List.mem_append_left _ (List.mem_cons_of_mem _ List.mem_cons_self))
                    have this : σ[j]? = some (some v2) := this
                    rw [g3] at this
                    cases this
                    rfl
                  subst hv1
                  subst hv2
                  refine ⟨by simp [hl', hn], a0, a, b, us, ns, c, mm, ds, d, c', mm', by simp, g2, g4, g5, g6, ?_, e5, fun v H' k ha hb hd => q v H' ?_⟩
                  · exact rdos_ok S1 hl' (fun p hp => List.mem_append_left _ (List.mem_cons_of_mem _ (List.mem_cons_of_mem _ hp))) e4
                  · exact (S1.resultT e3 g3 g5 k ha hb hd).keepN fun p hp => List.mem_append_right _ hp
      · cases e
    · cases e
theorem de_callT {k : Nat} {f : Addr} {fd : FuncData} {ps : List Str} {n : Nat} {m : TM} {g : Str} {p pos : Pos} {e : Expr} {es : List Expr} {fa : FA} (hK : C.K = X.K) (F : FnOk X.prog X.w X.K X.mg X.base (L2.CX X.prog X.w) k f fd ps (spT X.K n m)) (hr : Room k X.A) (hg : Gl X g) (hm : X.mg g = some (.ref f)) (hk : PySem.W.keepIn X.K (.ref f) = true) (hb : Binds X.K fd ps [])
    (ha : PA X (e :: es) (tA C fa)) (hdb : (g == ("__debug__" : Str)) = false := by decide) (he : starEach (e :: es) X.env = (false, eval e X.env) :: starEach es X.env := by rfl) (hpl : (backTo pos (starEach es X.env)).any (·.1) = false := by rfl) :
    PE X (.Call (.Name g p) (e :: es) [] pos) (tE C (eCallT n m fa)) :=
  (pe_call (dvs := []) F hr hg hm hk hb .nil passL ha hdb he hpl).dl fun _ _ _ h => by
    have z := imp_callT (E := E0) h
    rw [hK] at z
    exact z

/-! ### the defs themselves -/
def outD : Out → Option (D × Rho)
  | .ret d ρ => some (d, ρ)
  | .next ρ => some (.none, ρ)
  | _ => none
def runT (n : Nat) (F : FS) : TM := fun ns c mm ds => (bindArgs ds).bind fun bs => ((F (pad n (.s ns :: .t c mm :: bs))).bind outD).bind fun q => (tAt 1 q.2).map fun t => (q.1, t.1, t.2)
def runL (n : Nat) (F : FS) (ns : List Int) : Option D := ((F (pad n [.s ns])).bind outD).map (·.1)
theorem sd_startT {K : PySem.W.Frag} {N : List Str} {vs : List V} {ds : List D} {bs : List B} {as a b : Addr} {ns : List Int} {c : Int} {mm : List (Int × Int)} (hs : SqF K H as (ns.map V.int)) (hab : a ≠ b) (ha : H a = some (cntO c b)) (hb : H b = some (rstO mm)) (h : DnL K H vs ds) (he : bindArgs ds = some bs) :
    SD ⟨K, mutIn H, fun x => x = a ∨ x = b, H, some (a, b)⟩ (start N (.ref as :: .ref a :: vs)) H (pad N.length (.s ns :: .t c mm :: bs)) [] [] := by
  let fp : Nat → List Addr := fun i => if i = 1 then [a, b] else []
  have f1 : fp 1 = [a, b] := rfl
  have f0 : ∀ i, i ≠ 1 → fp i = [] := fun i h => if_neg h
  have mA : mutIn H a := ⟨_, ha, trivial⟩
  have mB : mutIn H b := ⟨_, hb, trivial⟩
  have inF : ∀ i x, x ∈ fp i → i = 1 ∧ (x = a ∨ x = b) := fun i x z => by
    by_cases e : i = 1
    · subst e
      rw [f1] at z
      exact ⟨rfl, by simpa using z⟩
    · rw [f0 i e] at z
      cases z
  have hid : ∀ x xs, Rd H x (.tup xs) → ¬ OO (mutIn H) fp [] x := fun x xs h z => by
    rcases z with z | ⟨i, z⟩ | ⟨w, z⟩
    · exact mt_hide (Le.refl H) x xs h z
    · rcases (inF i x z).2 with e | e
      · subst e
        exact mt_hide (Le.refl H) x xs h mA
      · subst e
        exact mt_hide (Le.refl H) x xs h mB
    · cases z
  have mv : ∀ x, x = a ∨ x = b → (∃ o, H x = some o) ∧ ∃ o, H x = some o ∧ Mt o := fun x z => by
    rcases z with e | e
    · subst e
      exact ⟨⟨_, ha⟩, _, ha, trivial⟩
    · subst e
      exact ⟨⟨_, hb⟩, _, hb, trivial⟩
  refine ⟨fp, pad_len (by simp [h.1, bindArgs_len he]), fun x o _ e => e, fun x z => mv x z, fun i j x z1 z2 => (inF i x z1).1.trans (inF j x z2).1.symm, fun i x z o w => (by cases w), List.nodup_nil, fun i x z => ⟨.inl (inF i x z).2, (mv x (inF i x z).2).2⟩, fun x o z => (by cases z), fun x z => ?_, fun i bb e => ?_, fun i e => ?_, fun p z => (by cases z)⟩
  · obtain ⟨o, z1, z2⟩ := z
    exact ⟨⟨o, z1⟩, o, z1, z2⟩
  · have e1 := pad_at e
    match i, e1 with
    | 0, e1 =>
      cases e1
      refine ⟨.ref as, start_at rfl, f0 0 (by decide), as, rfl, ?_⟩
      rcases hs with ⟨o, hs⟩ | hs
      · exact Or.inl ⟨o, msk_of (fun z => by
          rcases z with ⟨w, z1, z2⟩ | ⟨i, z⟩ | ⟨w, z⟩
          · rw [hs] at z1
            cases z1
            exact z2
          · rcases (inF i as z).2 with e | e
            · subst e
              rw [hs] at ha
              cases ha
            · subst e
              rw [hs] at hb
              cases hb
          · cases z) hs⟩
      · exact Or.inr hs
    | 1, e1 =>
      cases e1
      exact ⟨.ref a, start_at rfl, a, b, rfl, f1, hab, fun p hp => (by cases hp; rfl), ha, hb⟩
    | i + 2, e1 =>
      have e1 : bs[i]? = some bb := by simpa using e1
      obtain ⟨x, hx, hbx⟩ := bindArgs_at he e1
      obtain ⟨v, h1, h2⟩ := h.at hx
      refine ⟨v, start_at (by simpa using h1), ?_⟩
      rw [f0 (i + 2) (by omega)]
      unfold bindArg at hbx
      split at hbx
      · rename_i hi
        cases hbx
        exact ⟨rfl, h2.hide hid hi⟩
      · split at hbx
        · split at hbx
          · rename_i xs hi
            cases hbx
            obtain ⟨l, us, rfl, g1, g2⟩ := h2.lst_inv
            refine ⟨rfl, l, us, rfl, fun z => ?_, g1, g2.1, fun j w y p q => (g2.2 j w y p q).hide hid (immL_at hi q)⟩
            have z : l = a ∨ l = b := z
            rcases z with z | z
            · subst z
              rw [ha] at g1
              cases g1
            · subst z
              rw [hb] at g1
              cases g1
          · cases hbx
        · cases hbx
  · by_cases q : i = 1
    · subst q
      exact absurd rfl (e (.t c mm))
    · exact f0 i q
end
section
variable {P : Program} {w : World} {K : PySem.W.Frag} {mg : Str → Option Value} {base : Heap} {n qual : Str} {st : Stmt} {f : Addr} {fd : FuncData} {N ps : List Str} {k : Nat}
abbrev BodyOkT (P : Program) (w : World) (K : PySem.W.Frag) (mg : Str → Option Value) (base : Heap) (N : List Str) (qual : Str) (st : Stmt) (f : Addr) (k : Nat) (F : FS) : Prop :=
  ∀ (C : Fr) (cdv : Value) (A : Around) (outer : List Env) (s : Shared) (H : Hp) (E : XK), C.K = K → C.tw.isSome = true → Room k (A.deeper (PyProof.Rows.envOfC qual (defScope st) s.heap.objs.size f cdv)) →
    PSs (cxOf (L2.CX P w) P w K mg base N qual (defScope st) f cdv A outer s H E).nox (defBody st) (tS C F)
abbrev BodyOkL (P : Program) (w : World) (K : PySem.W.Frag) (mg : Str → Option Value) (base : Heap) (N : List Str) (qual : Str) (st : Stmt) (f : Addr) (k : Nat) (F : FS) : Prop :=
  ∀ (C : Fr) (cdv : Value) (A : Around) (outer : List Env) (s : Shared) (H : Hp) (E : XK), C.K = K → C.tw = none → Room k (A.deeper (PyProof.Rows.envOfC qual (defScope st) s.heap.objs.size f cdv)) →
    PSs (cxOf (L2.CX P w) P w K mg base N qual (defScope st) f cdv A outer s H E).nox (defBody st) (tS C F)
theorem fnT {F : FS} {m : Nat} (hm : ps.length = m + 2) (Fn : Fun K n qual st f fd) (S : FnScope N ps (defScope st)) (hb : BodyOkT P w K mg base N qual st f k F) : FnOk P w K mg base (L2.CX P w) (k + 1) f fd ps (spT K m (runT N.length F)) := by
  refine Fn.okX S (fun vs H Q E h => h.1.trans hm.symm) fun cdv A outer s H vs Q E hr h => ?_
  obtain ⟨hl, as, a, b, us, ns, c, mm, ds, d, c', mm', rfl, hs, hab, ha, hbb, hd, hmd, q⟩ := h
  let C : Fr := ⟨K, mutIn H, fun x => x = a ∨ x = b, H, some (a, b)⟩
  refine ⟨_, (hb C cdv A outer s H E rfl rfl hr).nox, ?_⟩
  unfold runT at hmd
  cases e0 : bindArgs ds with
  | none => simp [e0] at hmd
  | some bs =>
    cases e1 : F (pad N.length (.s ns :: .t c mm :: bs)) with
    | none => simp [e0, e1] at hmd
    | some o =>
      cases e2 : outD o with
      | none => simp [e0, e1, e2] at hmd
      | some q2 =>
        obtain ⟨d2, ρ2⟩ := q2
        cases e3 : tAt 1 ρ2 with
        | none => simp [e0, e1, e2, e3] at hmd
        | some t =>
          obtain ⟨c2, m2⟩ := t
          simp [e0, e1, e2, e3] at hmd
          obtain ⟨rfl, rfl, rfl⟩ := hmd
          refine ⟨_, [], [], o, AllD.nil, sd_startT hs hab ha hbb hd e0, e1, ?_⟩
          have fin : ∀ {σ : L2.St} {H' : Hp} {τ : List (V × R)} {v : V}, SD C σ H' ρ2 τ [] → Dn K (msk (mutIn H) H') v d2 → Q v H' := fun {σ H' τ v} S' hv => by
            obtain ⟨g1, g2, g3, g4⟩ := S'.townC e3 (a := a) (b := b) rfl
            obtain ⟨fp, s'⟩ := S'
            exact q v H' (fun x o n1 n2 e => s'.ext x o (fun z => by
              rcases z with z | z
              · exact n1 z
              · exact n2 z) e) g3 g4 hv
          cases o with
          | next ρ' =>
            cases e2
            exact fun σ' H' S' => fin S' .non
          | ret d3 ρ' =>
            cases e2
            refine fun v σ' H' S' => fin S' ?_
            obtain ⟨fp, s'⟩ := S'
            exact Dn.mono (le_msk (fun a z => .inl (.inl z)) fun a o _ e => e) (s'.tmp _ List.mem_cons_self)
          | brk ρ' => cases e2
          | cont ρ' => cases e2
theorem fnL {F : FS} {x : Str} (Fn : Fun K n qual st f fd) (S : FnScope N [x] (defScope st)) (hb : BodyOkL P w K mg base N qual st f k F) : FnOk P w K mg base (L2.CX P w) (k + 1) f fd [x] (spL K (runL N.length F)) := by
  refine Fn.okX S (fun vs H Q E h => h.1) fun cdv A outer s H vs Q E hr h => ?_
  obtain ⟨hl, a, ns, d, rfl, hs, hmd, q⟩ := h
  let C : Fr := ⟨K, fun _ => False, fun _ => False, H, none⟩
  refine ⟨_, (hb C cdv A outer s H E rfl rfl hr).nox, ?_⟩
  unfold runL at hmd
  cases e1 : F (pad N.length [.s ns]) with
  | none => simp [e1] at hmd
  | some o =>
    cases e2 : outD o with
    | none => simp [e1, e2] at hmd
    | some q2 =>
      obtain ⟨d2, ρ2⟩ := q2
      simp [e1, e2] at hmd
      subst hmd
      have all : Le H (msk (OO (fun _ => False) (fun _ => []) []) H) := fun a o e => msk_of (fun z => by
        rcases z with z | ⟨i, z⟩ | ⟨w, z⟩
        · exact z
        · cases z
        · cases z) e
      refine ⟨_, [], [], o, AllD.nil, ⟨fun _ => [], pad_len rfl, fun a o _ e => e, fun a z => z.elim, fun i j a z => (by cases z), fun i a z => (by cases z), List.nodup_nil, fun i a z => (by cases z), fun a o z => (by cases z), fun a z => z.elim, fun i b e => ?_, fun _ _ => rfl, fun p z => (by cases z)⟩, e1, ?_⟩
      · have e1 := pad_at e
        match i, e1 with
        | 0, e1 =>
          cases e1
          exact ⟨.ref a, start_at rfl, rfl, a, rfl, all.sqf hs⟩
        | i + 1, e1 => simp at e1
      · cases o with
        | next ρ' =>
          cases e2
          exact fun σ' H' S' => q .non H' .non
        | ret d3 ρ' =>
          cases e2
          exact fun v σ' H' S' => q v H' S'.here
        | brk ρ' => cases e2
        | cont ρ' => cases e2
theorem fnBg {k1 k2 k3 : Nat} {p1 p2 p3 p4 pos pos2 : Pos} (Fn : Fun K n qual st f fd) (S : FnScope N [] (defScope st)) (hst : defBody st = [.Return (some (.Dict [some (.Constant (.str "count") k1 p1), some (.Constant (.str "rests") k2 p2)] [.Constant (.int 0) k3 p3, .Dict [] [] p4] pos)) pos2]) :
    FnOk P w K mg base (L2.CX P w) (k + 1) f fd [] (spBg K) := by
  refine Fn.okX S (fun vs H Q E h => h.1) fun cdv A outer s H vs Q E hr h => ?_
  rw [hst]
  exact ⟨_, pss_one (ps_ret begun_pe), h.2⟩
end
end DL
namespace DL
open PySem L2

/-- a def that stands under the name g, and what it promises -/
structure Def (P : Program) (w : World) (K : PySem.W.Frag) (mg : Str → Option Value) (base : Heap) (k : Nat) (g x : Str) (st : Stmt) (ps : List Str) (sp : Sp) : Prop where
  ex : ∃ f fd, FnOk P w K mg base (L2.CX P w) k f fd ps sp ∧ mg g = some (.ref f) ∧ Fun K x x st f fd
  bi : ∀ (kV doc pm : Value) (an : Option Addr) (cdv ct : Value) (us : List Value), us.length = ps.length → PySem.bindArgs (PySem.W.fnOf x x (defArgs st) (defBody st) (defScope st) .none kV doc pm an cdv ct) ⟨us, []⟩ = pure (ps.zip us)
/-- a call with keywords binds so -/
def KwOk (x : Str) (st : Stmt) (ps ks : List Str) (j : Nat) : Prop := ps.length = j + ks.length ∧ ps ≠ [] ∧ ∀ (kV doc pm : Value) (an : Option Addr) (cdv ct : Value) (us ws : List Value), us.length = j → ws.length = ks.length →
  PySem.bindArgs (PySem.W.fnOf x x (defArgs st) (defBody st) (defScope st) .none kV doc pm an cdv ct) ⟨us, ks.zip ws⟩ = pure (ps.zip (us ++ ws))
theorem kb_of {K : PySem.W.Frag} {x : Str} {st : Stmt} {f : Addr} {fd : FuncData} {ps ks : List Str} {j : Nat} (Fn : Fun K x x st f fd) (h : KwOk x st ps ks j) : KBinds K fd ps ks (gpos Value j) (gpos V j) := by
  obtain ⟨oc, od, kV, doc, pm, an, cdv, ct, osl, rfl, lk, hcd⟩ := Fn.ex
  refine ⟨fun s us ws _ hl => ?_, fun a b => gpos_rel a b⟩
  unfold gpos at hl ⊢
  split at hl
  · rename_i hj
    rw [if_pos hj]
    refine .of_eq (h.2.2 kV doc pm an cdv ct us ws hj ?_)
    rw [List.length_append, h.1] at hl
    omega
  · exact absurd (List.length_eq_zero_iff.mp hl.symm) h.2.1
section
variable {C : Fr} {X : Cx} {k : Nat} {g x : Str} {st : Stmt} {ps : List Str} {n : Nat} {p pos : Pos} {e : Expr} {es : List Expr} {fa : FA}
theorem de_callD {m : List D → Option D} (hK : C.K = X.K) (F : Def X.prog X.w X.K X.mg X.base k g x st ps (spF X.K n m)) (hr : Room k X.A) (hg : Gl X g)
    (ha : PA X (e :: es) (tA C fa)) (hdb : (g == ("__debug__" : Str)) = false := by decide) (he : starEach (e :: es) X.env = (false, eval e X.env) :: starEach es X.env := by rfl) (hpl : (backTo pos (starEach es X.env)).any (·.1) = false := by rfl) :
    PE X (.Call (.Name g p) (e :: es) [] pos) (tE C (eCall n m fa)) := by
  obtain ⟨f, fd, h1, h2, h3⟩ := F.ex
  exact de_call hK h1 hr hg h2 h3.kp (h3.binds F.bi) ha hdb he hpl
theorem de_callD0 {m : List D → Option D} (hK : C.K = X.K) (F : Def X.prog X.w X.K X.mg X.base k g x st ps (spF X.K n m)) (hr : Room k X.A) (hg : Gl X g) (hdb : (g == ("__debug__" : Str)) = false := by decide) : PE X (.Call (.Name g p) [] [] pos) (tE C (eCall n m aNil)) := by
  obtain ⟨f, fd, h1, h2, h3⟩ := F.ex
  exact de_call0 hK h1 hr hg h2 h3.kp (h3.binds F.bi) hdb
theorem de_callTD {m : TM} (hK : C.K = X.K) (F : Def X.prog X.w X.K X.mg X.base k g x st ps (spT X.K n m)) (hr : Room k X.A) (hg : Gl X g)
    (ha : PA X (e :: es) (tA C fa)) (hdb : (g == ("__debug__" : Str)) = false := by decide) (he : starEach (e :: es) X.env = (false, eval e X.env) :: starEach es X.env := by rfl) (hpl : (backTo pos (starEach es X.env)).any (·.1) = false := by rfl) :
    PE X (.Call (.Name g p) (e :: es) [] pos) (tE C (eCallT n m fa)) := by
  obtain ⟨f, fd, h1, h2, h3⟩ := F.ex
  exact de_callT hK h1 hr hg h2 h3.kp (h3.binds F.bi) ha hdb he hpl
theorem de_callKD {m : List D → Option D} {j : Nat} {kws : List Keyword} {fk : FA} {ks : List Str} (hK : C.K = X.K) (F : Def X.prog X.w X.K X.mg X.base k g x st ps (spF X.K n m)) (hr : Room k X.A) (hg : Gl X g) (hb : KwOk x st ps ks j)
    (ha : PA X (e :: es) (tA C fa)) (hkw : PK X kws (tA C fk)) (hj : ∀ ρ rs ρ', fa ρ = some (rs, ρ') → rs.length = j) (hall : (backToKw pos (keywordEach kws X.env)).all (·.1.isSome) = true := by rfl) (hks : (backToKw pos (keywordEach kws X.env)).filterMap (·.1) = ks := by rfl)
    (hdb : (g == ("__debug__" : Str)) = false := by decide) (he : starEach (e :: es) X.env = (false, eval e X.env) :: starEach es X.env := by rfl)
    (hpl : ((backTo pos (starEach (e :: es) X.env)).any (·.1) || (backToKw pos (keywordEach kws X.env)).any (·.1.isNone)) = false := by rfl) :
    PE X (.Call (.Name g p) (e :: es) kws pos) (tE C (eCall n m (aApp fa fk))) := by
  obtain ⟨f, fd, h1, h2, h3⟩ := F.ex
  exact de_callK hK h1 hr hg h2 h3.kp (kb_of h3 hb) ha hkw hj hall hks hdb he hpl
theorem de_callKD0 {m : List D → Option D} {kws : List Keyword} {fk : FA} {ks : List Str} (hK : C.K = X.K) (F : Def X.prog X.w X.K X.mg X.base k g x st ps (spF X.K n m)) (hr : Room k X.A) (hg : Gl X g) (hb : KwOk x st ps ks 0)
    (hkw : PK X kws (tA C fk)) (hall : (backToKw pos (keywordEach kws X.env)).all (·.1.isSome) = true := by rfl) (hks : (backToKw pos (keywordEach kws X.env)).filterMap (·.1) = ks := by rfl)
    (hdb : (g == ("__debug__" : Str)) = false := by decide) (hpl : (backToKw pos (keywordEach kws X.env)).any (·.1.isNone) = false := by rfl) :
    PE X (.Call (.Name g p) [] kws pos) (tE C (eCall n m (aApp aNil fk))) := by
  obtain ⟨f, fd, h1, h2, h3⟩ := F.ex
  exact de_callK0 hK h1 hr hg h2 h3.kp (kb_of h3 hb) hkw hall hks hdb hpl
theorem ds_bgD {i : Nat} {v : Str} {pos' pos2 : Pos} (hK : C.K = X.K) (htw : C.tw = none) (hN : X.N.Nodup) (hi : X.N[i]? = some v) (hx : Loc X.env.scope v) (F : Def X.prog X.w X.K X.mg X.base k g x st [] (spBg X.K)) (hr : Room k X.A) (hg : Gl X g)
    (hdb : (g == ("__debug__" : Str)) = false := by decide) (hs : swapsWith (.Call (.Name g p) [] [] pos2) (some (.Name v pos')) pos.line X.env = pure false := by rfl) (hf : X.fn v = true ∨ X.env.scope.names.lookup v = some .local := by first | exact .inl rfl | exact .inr rfl | assumption) :
    PS X (.Assign [.Name v pos'] (.Call (.Name g p) [] [] pos2) pos) (tS C (sBg i)) := by
  obtain ⟨f, fd, h1, h2, h3⟩ := F.ex
  exact ds_bg hK htw hN hi hx h1 hr hg h2 h3.kp (h3.binds F.bi) hdb hs hf
/-- how many arguments there are -/
theorem aNil_n {ρ ρ' : Rho} {rs : List R} (h : aNil ρ = some (rs, ρ')) : rs.length = 0 := by
  cases h
  rfl
theorem aCons_n {f : FE} {g : FA} {j : Nat} (hg : ∀ ρ rs ρ', g ρ = some (rs, ρ') → rs.length = j) : ∀ ρ rs ρ', aCons f g ρ = some (rs, ρ') → rs.length = j + 1 := fun ρ rs ρ' h => by
  obtain ⟨a, ρ1, bs, h1, h2, rfl⟩ := aCons_inv h
  simp [hg _ _ _ h2]
end
/-- nothing promised -/
theorem fn_none {P : Program} {w : World} {K : PySem.W.Frag} {mg : Str → Option Value} {base : Heap} {k n : Nat} {f : Addr} {fd : FuncData} {ps : List Str} (hn : ps.length = n) : FnOk P w K mg base (L2.CX P w) k f fd ps (spF K n fun _ => none) :=
  ⟨fun vs H Q E h => h.1.trans hn.symm, fun A outer s H args us vs Q E hr he hb hv h => by
    obtain ⟨_, ds, d, _, hm, _⟩ := h
    cases hm⟩
end DL
namespace DL
open PySem L2

section
variable {C : Fr} {X : Cx} {fp : Nat → List Addr} {σ : L2.St} {H H' : Hp} {ρ ρ' : Rho} {τ : List (V × R)} {an an' : List (Addr × HO)} {v : V} {r : R} {x y z : D} {G : Ends} {p : Addr} {o : HO}
/-- a, b = x, y, by way of the tuple -/
def gNames : List Nat → TGs
  | [] => gNil
  | i :: is => gCons (gName i) (gNames is)
theorem gNames_of : ∀ {is : List Nat} {vs : List V} {σ : L2.St} {H : Hp} {Q : L2.St → Hp → Prop}, vs.length = is.length → Q (setX σ is vs) H → gNames is vs σ H Q
  | [], [], _, _, _, _, h => ⟨rfl, h⟩
  | [], _ :: _, _, _, _, e, _ => by simp at e
  | _ :: _, [], _, _, _, e, _ => by simp at e
  | i :: is, v :: vs, σ, H, Q, e, h => ⟨v, vs, rfl, gNames_of (by simpa using e) h⟩
theorem ds_parT {is : List Nat} {ts es : List Expr} {f : FX} {k k2 : Nat} {pt pt2 pos : Pos} (hc : X.calm = true) (hz : is.length ≤ 10) (ha : PA X es (tX C f)) (hg : PGs X ts (gNames is)) (hn : (assignEach ts X.env).length = is.length := by rfl) (hst : (assignEach ts X.env).findIdx? (·.1) = none := by rfl)
    (hs : swapsWithSole [.Tuple ts k pt] (.Tuple es k2 pt2) pos.line X.env = pure false := by rfl) (hw : swappedStores [.Tuple ts k pt] (.Tuple es k2 pt2) X.env = pure none := by rfl) (h1 : (assignEach [.Tuple ts k pt] X.env).map (·.2) = [assign (.Tuple ts k pt) X.env] := by rfl) :
    PS X (.Assign [.Tuple ts k pt] (.Tuple es k2 pt2) pos) (tS C (sPar is f)) := (ps_asg (pe_tupZ ha) (pg_tup hc hg hn hst) hs hw h1).dl fun G σ H h => by
  obtain ⟨ρ, τ, an, o, ad, S, e, kk⟩ := h
  unfold sPar at e
  cases e1 : f ρ with
  | none => simp [e1] at e
  | some q =>
    obtain ⟨rs, ρ1⟩ := q
    cases e2 : putX is rs ρ1 with
    | none => simp [e1, e2] at e
    | some ρ2 =>
      simp [e1, e2] at e
      subst e
      refine ⟨ρ, τ, an, rs, ρ1, S, e1, fun vs H1 τ' an' ok S1 => ?_⟩
      have hl : vs.length = is.length := by rw [xok_len ok, putX_len e2]
      refine ⟨by rw [sizeLine_eq]; omega, fun p o ho hp => ⟨p, vs, rfl, Or.inl (Or.inr ⟨o, upd_same⟩), hl, gNames_of hl (kk _ _ ?_)⟩⟩
      exact xok_put ad ok (S1.grow (Le.new hp)) e2
end
end DL
namespace W
open PySem L2 DL
def topS (i : Nat) : Stmt := PySem.Challenge.pw_movesup_k01_no_books.main.body.getD i (.Pass ⟨0, 0, 0, 0⟩)
structure BI (mg : Str → Option Value) : Prop where
  len : mg "len" = none
  all : mg "all" = none
  tuple : mg "tuple" = none
  list : mg "list" = none
  dict : mg "dict" = none
  set : mg "set" = none
  isinstance : mg "isinstance" = none
  zip : mg "zip" = none
  enumerate : mg "enumerate" = none
  str : mg "str" = none
  bool : mg "bool" = none
structure CN (mg : Str → Option Value) : Prop where
  LETTERS : ∃ t, mg "LETTERS" = some (.str "abcdefghijklmnopqrstuvwxyz" t)
  MOST : ∃ t, mg "MOST" = some (.int 5 t)
section
variable {P : Program} {w : World} {K : PySem.W.Frag} {mg : Str → Option Value} {base : Heap}
abbrev d_is_name : Stmt := topS 3
abbrev N_is_name : List Str := ["thing", "sign"]
theorem sc_is_name : FnScope N_is_name ["thing"] (defScope d_is_name) := ⟨rfl, rfl, rfl, by decide +kernel, rfl, by decide +kernel, by decide +kernel⟩
def F_is_name : FS := sRet (andE (eIsi "str" (eVar 0)) (andE (chE (op2 leD) (op2 leD) (eC (.int 1)) (eB (b1 lenD) (aCons (eVar 0) (aNil))) (eC (.int 8))) (eB (b1 allD) (aCons (ofF (fLc (iStrD (eVar 0)) (put 1) (tYesT) (e2 (op2 inD) (eVar 1) (eC (.str "abcdefghijklmnopqrstuvwxyz"))) [1])) (aNil)))))
def m_is_name : List D → Option D := runA 2 F_is_name
theorem b_is_name {f : Addr} (B : BI mg) (Cn : CN mg) : BodyOk P w K mg base N_is_name "is_name" d_is_name f 0 F_is_name := fun C cdv A outer s H E hK hr => by
  have hu := hr.units
  have hu1 := hu_of hr
  exact dss_one (ds_ret (de_and hK (de_isi hK (dv 0) rfl B.isinstance rfl B.str (by decide +kernel)) (de_and hK (de_ch (op_leG hK) (op_leG hK) (dc_int) (de_callB (cr_len hK) rfl B.len (by decide +kernel) (da_cons (dv 0) (da_nil))) (dc_int)) (de_one (de_callB (cr_allG hK rfl) rfl B.all (by decide +kernel) (da_cons (de_F (df_lc [("sign", 1)] rfl sc_is_name.nd (di_str (dv 0)) (show blkC N_is_name (defScope d_is_name) _ _ = true by decide +kernel) (fun _ _ _ _ _ => dg_name sc_is_name.nd rfl (by first | exact Or.inl rfl | exact Or.inr rfl)) (fun _ _ _ _ _ => dts_nil) (fun _ _ _ _ _ => de_cmp (op_inG hK hu) (dv 1) (dg_str rfl Cn.LETTERS.choose_spec) rfl) (by decide))) (da_nil)))))))
abbrev D_is_name (P : Program) (w : World) (K : PySem.W.Frag) (mg : Str → Option Value) (base : Heap) : Prop := Def P w K mg base 1 "is_name" "is_name" d_is_name ["thing"] (spF K 1 m_is_name)
theorem mk_is_name {f : Addr} {fd : FuncData} (B : BI mg) (Cn : CN mg) (Fn : Fun K "is_name" "is_name" d_is_name f fd) (hm : mg "is_name" = some (.ref f)) : D_is_name P w K mg base :=
  ⟨⟨f, fd, fnA Fn sc_is_name (b_is_name B Cn), hm, Fn⟩, fun _ _ _ _ _ _ us hl => match us, hl with | [_], _ => rfl⟩
abbrev d_is_rising : Stmt := topS 4
abbrev N_is_rising : List Str := ["thing", "one", "other"]
theorem sc_is_rising : FnScope N_is_rising ["thing"] (defScope d_is_rising) := ⟨rfl, rfl, rfl, by decide +kernel, rfl, by decide +kernel, by decide +kernel⟩
def F_is_rising : FS := sRet (eB (b1 allD) (aCons (ofF (fLc (iZp (eVar 0) (eSl (eVar 0) (oSome (eC (.int 1))) (oNone))) (gT 2 (gC (put 1) (gC (put 2) (gN)))) (tYesT) (e2 (op2 ltD) (eVar 1) (eVar 2)) [1, 2])) (aNil)))
def m_is_rising : List D → Option D := runA 3 F_is_rising
theorem b_is_rising {f : Addr} (B : BI mg) (Cn : CN mg) : BodyOk P w K mg base N_is_rising "is_rising" d_is_rising f 0 F_is_rising := fun C cdv A outer s H E hK hr => by
  have hu := hr.units
  have hu1 := hu_of hr
  exact dss_one (ds_ret (de_callB (cr_allG hK rfl) rfl B.all (by decide +kernel) (da_cons (de_F (df_lc [("one", 1), ("other", 2)] rfl sc_is_rising.nd (di_zip hK rfl B.zip (dv 0) (de_sl hK (dv 0) (do_some (dc_int)) (do_none))) (show blkC N_is_rising (defScope d_is_rising) _ _ = true by decide +kernel) (fun _ _ _ _ _ => dg_tup hK rfl (dgs_cons (dg_name sc_is_rising.nd rfl (by first | exact Or.inl rfl | exact Or.inr rfl)) (dgs_cons (dg_name sc_is_rising.nd rfl (by first | exact Or.inl rfl | exact Or.inr rfl)) (dgs_nil)))) (fun _ _ _ _ _ => dts_nil) (fun _ _ _ _ _ => de_cmp (op_ltG hK hu) (dv 1) (dv 2) rfl) (by decide))) (da_nil))))
abbrev D_is_rising (P : Program) (w : World) (K : PySem.W.Frag) (mg : Str → Option Value) (base : Heap) : Prop := Def P w K mg base 1 "is_rising" "is_rising" d_is_rising ["thing"] (spF K 1 m_is_rising)
theorem mk_is_rising {f : Addr} {fd : FuncData} (B : BI mg) (Cn : CN mg) (Fn : Fun K "is_rising" "is_rising" d_is_rising f fd) (hm : mg "is_rising" = some (.ref f)) : D_is_rising P w K mg base :=
  ⟨⟨f, fd, fnA Fn sc_is_rising (b_is_rising B Cn), hm, Fn⟩, fun _ _ _ _ _ _ us hl => match us, hl with | [_], _ => rfl⟩
abbrev d_are_some : Stmt := topS 5
abbrev N_are_some : List Str := ["names", "thing", "one"]
theorem sc_are_some : FnScope N_are_some ["names", "thing"] (defScope d_are_some) := ⟨rfl, rfl, rfl, by decide +kernel, rfl, by decide +kernel, by decide +kernel⟩
def F_are_some : FS := sSeq (sIf (orT (notT (truR (eIsi "tuple" (eVar 1)))) (notT (truR (eB (b1 allD) (aCons (ofF (fLc (iSeq (eVar 1)) (put 2) (tYesT) (andE (eIsi "str" (eVar 2)) (e2 (op2 inD) (eVar 2) (eVar 0))) [2])) (aNil)))))) (sRet (eC (.bool false))) (sNil)) (sRet (e2 (op2 eqD) (eLenZ (zSet (eVar 1))) (eB (b1 lenD) (aCons (eVar 1) (aNil)))))
def m_are_some : List D → Option D := runA 3 F_are_some
theorem b_are_some {f : Addr} (B : BI mg) (Cn : CN mg) : BodyOk P w K mg base N_are_some "are_some" d_are_some f 0 F_are_some := fun C cdv A outer s H E hK hr => by
  have hu := hr.units
  have hu1 := hu_of hr
  exact dss_cons (ds_if (PW.pt (dw_or (dt_not (dt_tru hK (de_isi hK (dv 1) rfl B.isinstance rfl B.tuple (by decide +kernel)))) (dw_or1 (dt_not (dt_tru hK (de_callB (cr_allG hK rfl) rfl B.all (by decide +kernel) (da_cons (de_F (df_lc [("one", 2)] rfl sc_are_some.nd (di_seq hK (dv 1)) (show blkC N_are_some (defScope d_are_some) _ _ = true by decide +kernel) (fun _ _ _ _ _ => dg_name sc_are_some.nd rfl (by first | exact Or.inl rfl | exact Or.inr rfl)) (fun _ _ _ _ _ => dts_nil) (fun _ _ _ _ _ => de_and hK (de_isi hK (dv 2) rfl B.isinstance rfl B.str (by decide +kernel)) (de_one (de_cmp (op_inG hK hu) (dv 2) (dv 0) rfl))) (by decide))) (da_nil)))))))) (dss_one (ds_ret (dc_bool))) (dss_nil)) (dss_one (ds_ret (de_cmp (op_eqG hK hu) (de_lenSet hK rfl (dv 1) rfl B.len rfl B.set) (de_callB (cr_len hK) rfl B.len (by decide +kernel) (da_cons (dv 1) (da_nil))) rfl)))
abbrev D_are_some (P : Program) (w : World) (K : PySem.W.Frag) (mg : Str → Option Value) (base : Heap) : Prop := Def P w K mg base 1 "are_some" "are_some" d_are_some ["names", "thing"] (spF K 2 m_are_some)
theorem mk_are_some {f : Addr} {fd : FuncData} (B : BI mg) (Cn : CN mg) (Fn : Fun K "are_some" "are_some" d_are_some f fd) (hm : mg "are_some" = some (.ref f)) : D_are_some P w K mg base :=
  ⟨⟨f, fd, fnA Fn sc_are_some (b_are_some B Cn), hm, Fn⟩, fun _ _ _ _ _ _ us hl => match us, hl with | [_, _], _ => rfl⟩
abbrev d_are_named : Stmt := topS 6
abbrev N_are_named : List Str := ["thing", "one"]
theorem sc_are_named : FnScope N_are_named ["thing"] (defScope d_are_named) := ⟨rfl, rfl, rfl, by decide +kernel, rfl, by decide +kernel, by decide +kernel⟩
def F_are_named : FS := sSeq (sIf (orT (notT (truR (eIsi "tuple" (eVar 0)))) (toT (e2 (op2 gtD) (eB (b1 lenD) (aCons (eVar 0) (aNil))) (eC (.int 5))))) (sRet (eC (.bool false))) (sNil)) (sSeq (sIf (notT (truR (eB (b1 allD) (aCons (ofF (fLc (iSeq (eVar 0)) (put 1) (tYesT) (andE (eIsi "tuple" (eVar 1)) (andE (e2 (op2 eqD) (eB (b1 lenD) (aCons (eVar 1) (aNil))) (eC (.int 2))) (eCall 1 m_is_name (aCons (e2 (op2 idxD) (eVar 1) (eC (.int 0))) (aNil))))) [1])) (aNil))))) (sRet (eC (.bool false))) (sNil)) (sRet (eCall 1 m_is_rising (aCons (ofF (fLc (iSeq (eVar 0)) (put 1) (tYesT) (e2 (op2 idxD) (eVar 1) (eC (.int 0))) [1])) (aNil)))))
def m_are_named : List D → Option D := runA 2 F_are_named
theorem b_are_named {f : Addr} (B : BI mg) (Cn : CN mg) (H_is_name : D_is_name P w K mg base) (H_is_rising : D_is_rising P w K mg base) : BodyOk P w K mg base N_are_named "are_named" d_are_named f 1 F_are_named := fun C cdv A outer s H E hK hr => by
  have hu := hr.units
  have hu1 := hu_of hr
  exact dss_cons (ds_if (PW.pt (dw_or (dt_not (dt_tru hK (de_isi hK (dv 0) rfl B.isinstance rfl B.tuple (by decide +kernel)))) (dw_or1 (dt_cmp (op_gtG hK) (de_callB (cr_len hK) rfl B.len (by decide +kernel) (da_cons (dv 0) (da_nil))) (dg_int rfl Cn.MOST.choose_spec) rfl)))) (dss_one (ds_ret (dc_bool))) (dss_nil)) (dss_cons (ds_if (dt_not (dt_tru hK (de_callB (cr_allG hK rfl) rfl B.all (by decide +kernel) (da_cons (de_F (df_lc [("one", 1)] rfl sc_are_named.nd (di_seq hK (dv 0)) (show blkC N_are_named (defScope d_are_named) _ _ = true by decide +kernel) (fun _ _ _ _ _ => dg_name sc_are_named.nd rfl (by first | exact Or.inl rfl | exact Or.inr rfl)) (fun _ _ _ _ _ => dts_nil) (fun _ _ _ _ _ => de_and hK (de_isi hK (dv 1) rfl B.isinstance rfl B.tuple (by decide +kernel)) (de_and hK (de_cmp (op_eqG hK hu) (de_callB (cr_len hK) rfl B.len (by decide +kernel) (da_cons (dv 1) (da_nil))) (dc_int) rfl) (de_one (de_callD hK H_is_name (hr.mono (by omega)) rfl (da_cons (de_ix hK (dv 1) (dc_int) (fun _ _ => rfl)) (da_nil)))))) (by decide))) (da_nil))))) (dss_one (ds_ret (dc_bool))) (dss_nil)) (dss_one (ds_ret (de_callD hK H_is_rising (hr.mono (by omega)) rfl (da_cons (de_F (df_lc [("one", 1)] rfl sc_are_named.nd (di_seq hK (dv 0)) (show blkC N_are_named (defScope d_are_named) _ _ = true by decide +kernel) (fun _ _ _ _ _ => dg_name sc_are_named.nd rfl (by first | exact Or.inl rfl | exact Or.inr rfl)) (fun _ _ _ _ _ => dts_nil) (fun _ _ _ _ _ => de_ix hK (dv 1) (dc_int) (fun _ _ => rfl)) (by decide))) (da_nil))))))
abbrev D_are_named (P : Program) (w : World) (K : PySem.W.Frag) (mg : Str → Option Value) (base : Heap) : Prop := Def P w K mg base 2 "are_named" "are_named" d_are_named ["thing"] (spF K 1 m_are_named)
theorem mk_are_named {f : Addr} {fd : FuncData} (B : BI mg) (Cn : CN mg) (H_is_name : D_is_name P w K mg base) (H_is_rising : D_is_rising P w K mg base) (Fn : Fun K "are_named" "are_named" d_are_named f fd) (hm : mg "are_named" = some (.ref f)) : D_are_named P w K mg base :=
  ⟨⟨f, fd, fnA Fn sc_are_named (b_are_named B Cn H_is_name H_is_rising), hm, Fn⟩, fun _ _ _ _ _ _ us hl => match us, hl with | [_], _ => rfl⟩
abbrev d_is_book : Stmt := topS 7
abbrev N_is_book : List Str := ["thing", "houses", "people", "one"]
theorem sc_is_book : FnScope N_is_book ["thing"] (defScope d_is_book) := ⟨rfl, rfl, rfl, by decide +kernel, rfl, by decide +kernel, by decide +kernel⟩
def F_is_book : FS := sSeq (sIf (orT (notT (truR (eIsi "tuple" (eVar 0)))) (orT (toT (e2 (op2 neD) (eB (b1 lenD) (aCons (eVar 0) (aNil))) (eC (.int 2)))) (orT (notT (truR (eCall 1 m_are_named (aCons (e2 (op2 idxD) (eVar 0) (eC (.int 0))) (aNil))))) (notT (truR (eCall 1 m_are_named (aCons (e2 (op2 idxD) (eVar 0) (eC (.int 1))) (aNil)))))))) (sRet (eC (.bool false))) (sNil)) (sSeq (sAsg (eTup (aCons (ofF (fLc (iSeq (e2 (op2 idxD) (eVar 0) (eC (.int 0)))) (put 3) (tYesT) (e2 (op2 idxD) (eVar 3) (eC (.int 0))) [3])) (aCons (ofF (fLc (iSeq (e2 (op2 idxD) (eVar 0) (eC (.int 1)))) (put 3) (tYesT) (e2 (op2 idxD) (eVar 3) (eC (.int 0))) [3])) (aNil)))) (gT 2 (gC (put 1) (gC (put 2) (gN))))) (sRet (andE (eB (b1 allD) (aCons (ofF (fLc (iSeq (e2 (op2 idxD) (eVar 0) (eC (.int 0)))) (put 3) (tYesT) (eCall 2 m_are_some (aCons (eVar 2) (aCons (e2 (op2 idxD) (eVar 3) (eC (.int 1))) (aNil)))) [3])) (aNil))) (eB (b1 allD) (aCons (ofF (fLc (iSeq (e2 (op2 idxD) (eVar 0) (eC (.int 1)))) (put 3) (tYesT) (eCall 2 m_are_some (aCons (eVar 1) (aCons (e2 (op2 idxD) (eVar 3) (eC (.int 1))) (aNil)))) [3])) (aNil))))))
def m_is_book : List D → Option D := runA 4 F_is_book
theorem b_is_book {f : Addr} (B : BI mg) (Cn : CN mg) (H_are_named : D_are_named P w K mg base) (H_are_some : D_are_some P w K mg base) : BodyOk P w K mg base N_is_book "is_book" d_is_book f 2 F_is_book := fun C cdv A outer s H E hK hr => by
  have hu := hr.units
  have hu1 := hu_of hr
  exact dss_cons (ds_if (PW.pt (dw_or (dt_not (dt_tru hK (de_isi hK (dv 0) rfl B.isinstance rfl B.tuple (by decide +kernel)))) (dw_or (dt_cmp (op_neG hK hu) (de_callB (cr_len hK) rfl B.len (by decide +kernel) (da_cons (dv 0) (da_nil))) (dc_int) rfl) (dw_or (dt_not (dt_tru hK (de_callD hK H_are_named (hr.mono (by omega)) rfl (da_cons (de_ix hK (dv 0) (dc_int) (fun _ _ => rfl)) (da_nil))))) (dw_or1 (dt_not (dt_tru hK (de_callD hK H_are_named (hr.mono (by omega)) rfl (da_cons (de_ix hK (dv 0) (dc_int) (fun _ _ => rfl)) (da_nil)))))))))) (dss_one (ds_ret (dc_bool))) (dss_nil)) (dss_cons (ds_asg (de_tup (da_cons (de_F (df_lc [("one", 3)] rfl sc_is_book.nd (di_seq hK (de_ix hK (dv 0) (dc_int) (fun _ _ => rfl))) (show blkC N_is_book (defScope d_is_book) _ _ = true by decide +kernel) (fun _ _ _ _ _ => dg_name sc_is_book.nd rfl (by first | exact Or.inl rfl | exact Or.inr rfl)) (fun _ _ _ _ _ => dts_nil) (fun _ _ _ _ _ => de_ix hK (dv 3) (dc_int) (fun _ _ => rfl)) (by decide))) (da_cons (de_F (df_lc [("one", 3)] rfl sc_is_book.nd (di_seq hK (de_ix hK (dv 0) (dc_int) (fun _ _ => rfl))) (show blkC N_is_book (defScope d_is_book) _ _ = true by decide +kernel) (fun _ _ _ _ _ => dg_name sc_is_book.nd rfl (by first | exact Or.inl rfl | exact Or.inr rfl)) (fun _ _ _ _ _ => dts_nil) (fun _ _ _ _ _ => de_ix hK (dv 3) (dc_int) (fun _ _ => rfl)) (by decide))) (da_nil)))) (dg_tup hK rfl (dgs_cons (dg_name sc_is_book.nd rfl (by first | exact Or.inl rfl | exact Or.inr rfl)) (dgs_cons (dg_name sc_is_book.nd rfl (by first | exact Or.inl rfl | exact Or.inr rfl)) (dgs_nil))))) (dss_one (ds_ret (de_and hK (de_callB (cr_allG hK rfl) rfl B.all (by decide +kernel) (da_cons (de_F (df_lc [("one", 3)] rfl sc_is_book.nd (di_seq hK (de_ix hK (dv 0) (dc_int) (fun _ _ => rfl))) (show blkC N_is_book (defScope d_is_book) _ _ = true by decide +kernel) (fun _ _ _ _ _ => dg_name sc_is_book.nd rfl (by first | exact Or.inl rfl | exact Or.inr rfl)) (fun _ _ _ _ _ => dts_nil) (fun _ _ _ _ _ => de_callD hK H_are_some (hr.mono (by omega)) rfl (da_cons (dv 2) (da_cons (de_ix hK (dv 3) (dc_int) (fun _ _ => rfl)) (da_nil)))) (by decide))) (da_nil))) (de_one (de_callB (cr_allG hK rfl) rfl B.all (by decide +kernel) (da_cons (de_F (df_lc [("one", 3)] rfl sc_is_book.nd (di_seq hK (de_ix hK (dv 0) (dc_int) (fun _ _ => rfl))) (show blkC N_is_book (defScope d_is_book) _ _ = true by decide +kernel) (fun _ _ _ _ _ => dg_name sc_is_book.nd rfl (by first | exact Or.inl rfl | exact Or.inr rfl)) (fun _ _ _ _ _ => dts_nil) (fun _ _ _ _ _ => de_callD hK H_are_some (hr.mono (by omega)) rfl (da_cons (dv 1) (da_cons (de_ix hK (dv 3) (dc_int) (fun _ _ => rfl)) (da_nil)))) (by decide))) (da_nil))))))))
abbrev D_is_book (P : Program) (w : World) (K : PySem.W.Frag) (mg : Str → Option Value) (base : Heap) : Prop := Def P w K mg base 3 "is_book" "is_book" d_is_book ["thing"] (spF K 1 m_is_book)
theorem mk_is_book {f : Addr} {fd : FuncData} (B : BI mg) (Cn : CN mg) (H_are_named : D_are_named P w K mg base) (H_are_some : D_are_some P w K mg base) (Fn : Fun K "is_book" "is_book" d_is_book f fd) (hm : mg "is_book" = some (.ref f)) : D_is_book P w K mg base :=
  ⟨⟨f, fd, fnA Fn sc_is_book (b_is_book B Cn H_are_named H_are_some), hm, Fn⟩, fun _ _ _ _ _ _ us hl => match us, hl with | [_], _ => rfl⟩
abbrev d_people_of : Stmt := topS 8
abbrev N_people_of : List Str := ["book", "one"]
theorem sc_people_of : FnScope N_people_of ["book"] (defScope d_people_of) := ⟨rfl, rfl, rfl, by decide +kernel, rfl, by decide +kernel, by decide +kernel⟩
def F_people_of : FS := sRet (ofF (fLc (iSeq (e2 (op2 idxD) (eVar 0) (eC (.int 1)))) (put 1) (tYesT) (e2 (op2 idxD) (eVar 1) (eC (.int 0))) [1]))
def m_people_of : List D → Option D := runB 2 F_people_of
theorem b_people_of {f : Addr} (B : BI mg) (Cn : CN mg) : BodyOk P w K mg base N_people_of "people_of" d_people_of f 0 F_people_of := fun C cdv A outer s H E hK hr => by
  have hu := hr.units
  have hu1 := hu_of hr
  exact dss_one (ds_ret (de_F (df_lc [("one", 1)] rfl sc_people_of.nd (di_seq hK (de_ix hK (dv 0) (dc_int) (fun _ _ => rfl))) (show blkC N_people_of (defScope d_people_of) _ _ = true by decide +kernel) (fun _ _ _ _ _ => dg_name sc_people_of.nd rfl (by first | exact Or.inl rfl | exact Or.inr rfl)) (fun _ _ _ _ _ => dts_nil) (fun _ _ _ _ _ => de_ix hK (dv 1) (dc_int) (fun _ _ => rfl)) (by decide))))
abbrev D_people_of (P : Program) (w : World) (K : PySem.W.Frag) (mg : Str → Option Value) (base : Heap) : Prop := Def P w K mg base 1 "people_of" "people_of" d_people_of ["book"] (spF K 1 m_people_of)
theorem mk_people_of {f : Addr} {fd : FuncData} (B : BI mg) (Cn : CN mg) (Fn : Fun K "people_of" "people_of" d_people_of f fd) (hm : mg "people_of" = some (.ref f)) : D_people_of P w K mg base :=
  ⟨⟨f, fd, fnB Fn sc_people_of (b_people_of B Cn), hm, Fn⟩, fun _ _ _ _ _ _ us hl => match us, hl with | [_], _ => rfl⟩
abbrev d_homes_of : Stmt := topS 9
abbrev N_homes_of : List Str := ["book", "person", "rows", "house"]
theorem sc_homes_of : FnScope N_homes_of ["book", "person"] (defScope d_homes_of) := ⟨rfl, rfl, rfl, by decide +kernel, rfl, by decide +kernel, by decide +kernel⟩
def F_homes_of : FS := sSeq (sOwnM 2 (mDict (e2 (op2 idxD) (eVar 0) (eC (.int 0))))) (sRet (ofF (fLc (iSeq (eDGet (mDict (e2 (op2 idxD) (eVar 0) (eC (.int 1)))) (eVar 1))) (put 3) (toT (e2 (op2 inD) (eVar 1) (eMGet' 2 (eVar 3)))) (eVar 3) [3])))
def m_homes_of : List D → Option D := runB 4 F_homes_of
theorem b_homes_of {f : Addr} (B : BI mg) (Cn : CN mg) : BodyOk P w K mg base N_homes_of "homes_of" d_homes_of f 0 F_homes_of := fun C cdv A outer s H E hK hr => by
  have hu := hr.units
  have hu1 := hu_of hr
  exact dss_cons (ds_ownM sc_homes_of.nd rfl (by first | exact Or.inl rfl | exact Or.inr rfl) (dm_dict (cr_dictG hK rfl) rfl B.dict (by decide +kernel) (de_ix hK (dv 0) (dc_int) (fun _ _ => rfl)))) (dss_one (ds_ret (de_F (df_lc [("house", 3)] rfl sc_homes_of.nd (di_seq hK (de_dget hu1 (dm_dict (cr_dictG hK rfl) rfl B.dict (by decide +kernel) (de_ix hK (dv 0) (dc_int) (fun _ _ => rfl))) (dv 1) (fun _ _ => rfl))) (show blkC N_homes_of (defScope d_homes_of) _ _ = true by decide +kernel) (fun _ _ _ _ _ => dg_name sc_homes_of.nd rfl (by first | exact Or.inl rfl | exact Or.inr rfl)) (fun _ _ _ _ _ => dts_one (dt_cmp (op_inG hK hu) (dv 1) (de_mget hu1 (pe_var rfl (by first | exact Or.inl rfl | exact Or.inr (Or.inl rfl) | exact Or.inr (Or.inr rfl))) (dv 3) (fun _ _ => rfl)) rfl)) (fun _ _ _ _ _ => dv 3) (by decide)))))
abbrev D_homes_of (P : Program) (w : World) (K : PySem.W.Frag) (mg : Str → Option Value) (base : Heap) : Prop := Def P w K mg base 1 "homes_of" "homes_of" d_homes_of ["book", "person"] (spF K 2 m_homes_of)
theorem mk_homes_of {f : Addr} {fd : FuncData} (B : BI mg) (Cn : CN mg) (Fn : Fun K "homes_of" "homes_of" d_homes_of f fd) (hm : mg "homes_of" = some (.ref f)) : D_homes_of P w K mg base :=
  ⟨⟨f, fd, fnB Fn sc_homes_of (b_homes_of B Cn), hm, Fn⟩, fun _ _ _ _ _ _ us hl => match us, hl with | [_, _], _ => rfl⟩
abbrev d_is_standing : Stmt := topS 10
abbrev N_is_standing : List Str := ["book", "thing", "lived", "one", "person"]
theorem sc_is_standing : FnScope N_is_standing ["book", "thing"] (defScope d_is_standing) := ⟨rfl, rfl, rfl, by decide +kernel, rfl, by decide +kernel, by decide +kernel⟩
def F_is_standing : FS := sSeq (sIf (orT (notT (truR (eIsi "tuple" (eVar 1)))) (toT (e2 (op2 neD) (eB (b1 lenD) (aCons (eVar 1) (aNil))) (eB (b1 lenD) (aCons (e2 (op2 idxD) (eVar 0) (eC (.int 1))) (aNil)))))) (sRet (eC (.bool false))) (sNil)) (sSeq (sIf (notT (truR (eB (b1 allD) (aCons (ofF (fLc (iSeq (eVar 1)) (put 3) (tYesT) (orE (isNd (eVar 3)) (eIsi "str" (eVar 3))) [3])) (aNil))))) (sRet (eC (.bool false))) (sNil)) (sSeq (sOwn 2 (fLc (iSeq (eVar 1)) (put 3) (toT (isnNd (eVar 3))) (eVar 3) [3])) (sSeq (sIf (toT (e2 (op2 ltD) (eLenZ (zSet (eVar 2))) (eB (b1 lenD) (aCons (eVar 2) (aNil))))) (sRet (eC (.bool false))) (sNil)) (sRet (eB (b1 allD) (aCons (ofF (fLc (iZp (eCall 1 m_people_of (aCons (eVar 0) (aNil))) (eVar 1)) (gT 2 (gC (put 4) (gC (put 3) (gN)))) (tYesT) (orE (isNd (eVar 3)) (e2 (op2 inD) (eVar 3) (eCall 2 m_homes_of (aCons (eVar 0) (aCons (eVar 4) (aNil)))))) [4, 3])) (aNil)))))))
def m_is_standing : List D → Option D := runA 5 F_is_standing
theorem b_is_standing {f : Addr} (B : BI mg) (Cn : CN mg) (H_people_of : D_people_of P w K mg base) (H_homes_of : D_homes_of P w K mg base) : BodyOk P w K mg base N_is_standing "is_standing" d_is_standing f 1 F_is_standing := fun C cdv A outer s H E hK hr => by
  have hu := hr.units
  have hu1 := hu_of hr
  exact dss_cons (ds_if (PW.pt (dw_or (dt_not (dt_tru hK (de_isi hK (dv 1) rfl B.isinstance rfl B.tuple (by decide +kernel)))) (dw_or1 (dt_cmp (op_neG hK hu) (de_callB (cr_len hK) rfl B.len (by decide +kernel) (da_cons (dv 1) (da_nil))) (de_callB (cr_len hK) rfl B.len (by decide +kernel) (da_cons (de_ix hK (dv 0) (dc_int) (fun _ _ => rfl)) (da_nil))) rfl)))) (dss_one (ds_ret (dc_bool))) (dss_nil)) (dss_cons (ds_if (dt_not (dt_tru hK (de_callB (cr_allG hK rfl) rfl B.all (by decide +kernel) (da_cons (de_F (df_lc [("one", 3)] rfl sc_is_standing.nd (di_seq hK (dv 1)) (show blkC N_is_standing (defScope d_is_standing) _ _ = true by decide +kernel) (fun _ _ _ _ _ => dg_name sc_is_standing.nd rfl (by first | exact Or.inl rfl | exact Or.inr rfl)) (fun _ _ _ _ _ => dts_nil) (fun _ _ _ _ _ => de_or hK (de_isN (dv 3)) (de_one (de_isi hK (dv 3) rfl B.isinstance rfl B.str (by decide +kernel)))) (by decide))) (da_nil))))) (dss_one (ds_ret (dc_bool))) (dss_nil)) (dss_cons (ds_setLc [("one", 3)] rfl sc_is_standing.nd rfl rfl rfl (di_seq hK (dv 1)) (show blkC N_is_standing (defScope d_is_standing) _ _ = true by decide +kernel) (fun _ _ _ _ _ => dg_name sc_is_standing.nd rfl (by first | exact Or.inl rfl | exact Or.inr rfl)) (fun _ _ _ _ _ => dts_one (dt_isnN (dv 3))) (fun _ _ _ _ _ => dv 3) (by decide)) (dss_cons (ds_if (dt_cmp (op_ltG hK hu) (de_lenSet hK rfl (dv 2) rfl B.len rfl B.set) (de_callB (cr_len hK) rfl B.len (by decide +kernel) (da_cons (dv 2) (da_nil))) rfl) (dss_one (ds_ret (dc_bool))) (dss_nil)) (dss_one (ds_ret (de_callB (cr_allG hK rfl) rfl B.all (by decide +kernel) (da_cons (de_F (df_lc [("person", 4), ("one", 3)] rfl sc_is_standing.nd (di_zip hK rfl B.zip (de_callD hK H_people_of (hr.mono (by omega)) rfl (da_cons (dv 0) (da_nil))) (dv 1)) (show blkC N_is_standing (defScope d_is_standing) _ _ = true by decide +kernel) (fun _ _ _ _ _ => dg_tup hK rfl (dgs_cons (dg_name sc_is_standing.nd rfl (by first | exact Or.inl rfl | exact Or.inr rfl)) (dgs_cons (dg_name sc_is_standing.nd rfl (by first | exact Or.inl rfl | exact Or.inr rfl)) (dgs_nil)))) (fun _ _ _ _ _ => dts_nil) (fun _ _ _ _ _ => de_or hK (de_isN (dv 3)) (de_one (de_cmp (op_inG hK hu) (dv 3) (de_callD hK H_homes_of (hr.mono (by omega)) rfl (da_cons (dv 0) (da_cons (dv 4) (da_nil)))) rfl))) (by decide))) (da_nil))))))))
abbrev D_is_standing (P : Program) (w : World) (K : PySem.W.Frag) (mg : Str → Option Value) (base : Heap) : Prop := Def P w K mg base 2 "is_standing" "is_standing" d_is_standing ["book", "thing"] (spF K 2 m_is_standing)
theorem mk_is_standing {f : Addr} {fd : FuncData} (B : BI mg) (Cn : CN mg) (H_people_of : D_people_of P w K mg base) (H_homes_of : D_homes_of P w K mg base) (Fn : Fun K "is_standing" "is_standing" d_is_standing f fd) (hm : mg "is_standing" = some (.ref f)) : D_is_standing P w K mg base :=
  ⟨⟨f, fd, fnA Fn sc_is_standing (b_is_standing B Cn H_people_of H_homes_of), hm, Fn⟩, fun _ _ _ _ _ _ us hl => match us, hl with | [_, _], _ => rfl⟩
abbrev d_nowhere : Stmt := topS 11
abbrev N_nowhere : List Str := ["book"]
theorem sc_nowhere : FnScope N_nowhere ["book"] (defScope d_nowhere) := ⟨rfl, rfl, rfl, by decide +kernel, rfl, by decide +kernel, by decide +kernel⟩
def F_nowhere : FS := sRet (e2 (op2 mulD) (eTup (aCons (eC .none) (aNil))) (eB (b1 lenD) (aCons (e2 (op2 idxD) (eVar 0) (eC (.int 1))) (aNil))))
def m_nowhere : List D → Option D := runA 1 F_nowhere
theorem b_nowhere {f : Addr} (B : BI mg) (Cn : CN mg) : BodyOk P w K mg base N_nowhere "nowhere" d_nowhere f 0 F_nowhere := fun C cdv A outer s H E hK hr => by
  have hu := hr.units
  have hu1 := hu_of hr
  exact dss_one (ds_ret (de_op (op_mulG hK) (de_tup (da_cons (dc_none) (da_nil))) (de_callB (cr_len hK) rfl B.len (by decide +kernel) (da_cons (de_ix hK (dv 0) (dc_int) (fun _ _ => rfl)) (da_nil)))))
abbrev D_nowhere (P : Program) (w : World) (K : PySem.W.Frag) (mg : Str → Option Value) (base : Heap) : Prop := Def P w K mg base 1 "nowhere" "nowhere" d_nowhere ["book"] (spF K 1 m_nowhere)
theorem mk_nowhere {f : Addr} {fd : FuncData} (B : BI mg) (Cn : CN mg) (Fn : Fun K "nowhere" "nowhere" d_nowhere f fd) (hm : mg "nowhere" = some (.ref f)) : D_nowhere P w K mg base :=
  ⟨⟨f, fd, fnA Fn sc_nowhere (b_nowhere B Cn), hm, Fn⟩, fun _ _ _ _ _ _ us hl => match us, hl with | [_], _ => rfl⟩
abbrev d__law_is : Stmt := topS 13
abbrev N__law_is : List Str := ["found", "due"]
theorem sc__law_is : FnScope N__law_is ["found", "due"] (defScope d__law_is) := ⟨rfl, rfl, rfl, by decide +kernel, rfl, by decide +kernel, by decide +kernel⟩
def F__law_is : FS := sRet (andE (eIsi "bool" (eVar 0)) (e2 (op2 eqD) (eVar 0) (eVar 1)))
def m__law_is : List D → Option D := runA 2 F__law_is
theorem b__law_is {f : Addr} (B : BI mg) (Cn : CN mg) : BodyOk P w K mg base N__law_is "_law_is" d__law_is f 0 F__law_is := fun C cdv A outer s H E hK hr => by
  have hu := hr.units
  have hu1 := hu_of hr
  exact dss_one (ds_ret (de_and hK (de_isi hK (dv 0) rfl B.isinstance rfl B.bool (by decide +kernel)) (de_one (de_cmp (op_eqG hK hu) (dv 0) (dv 1) rfl))))
abbrev D__law_is (P : Program) (w : World) (K : PySem.W.Frag) (mg : Str → Option Value) (base : Heap) : Prop := Def P w K mg base 1 "_law_is" "_law_is" d__law_is ["found", "due"] (spF K 2 m__law_is)
theorem mk__law_is {f : Addr} {fd : FuncData} (B : BI mg) (Cn : CN mg) (Fn : Fun K "_law_is" "_law_is" d__law_is f fd) (hm : mg "_law_is" = some (.ref f)) : D__law_is P w K mg base :=
  ⟨⟨f, fd, fnA Fn sc__law_is (b__law_is B Cn), hm, Fn⟩, fun _ _ _ _ _ _ us hl => match us, hl with | [_, _], _ => rfl⟩
abbrev d__law_draw : Stmt := topS 14
abbrev N__law_draw : List Str := ["script", "town", "many", "at", "rest", "number"]
theorem sc__law_draw : FnScope N__law_draw ["script", "town", "many"] (defScope d__law_draw) := ⟨rfl, rfl, rfl, by decide +kernel, rfl, by decide +kernel, by decide +kernel⟩
def F__law_draw : FS := sSeq (sCnt 1 (e2 (op2 addD) (eCnt 1) (eC (.int 1)))) (sSeq (sAsg (ifE (tTruS 0) (e2 (op2 modD) (eCnt 1) (eLenS 0)) (eC (.int 0))) (put 3)) (sSeq (sAsg (eRst 1 (eVar 3) (ifE (tTruS 0) (eIxS 0 (eVar 3)) (eC (.int 0)))) (put 4)) (sSeq (sIf (toT (e2 (op2 geD) (eVar 4) (e2 (op2 powD) (eC (.int 10)) (eC (.int 18))))) (sSeq (sRst 1 (e2 (op2 divD) (eVar 4) (eVar 2)) (eVar 3)) (sRet (e2 (op2 modD) (eVar 4) (eVar 2)))) (sNil)) (sSeq (sAsg (e2 (op2 modD) (e2 (op2 addD) (eVar 4) (e2 (op2 mulI) (eC (.int 104729)) (eCnt 1))) (eC (.int 4294967291))) (put 5)) (sSeq (sAsg (e2 (op2 modD) (e2 (op2 powD) (eVar 5) (eC (.int 5))) (eC (.int 4294967279))) (put 5)) (sRet (e2 (op2 modD) (e2 (op2 divD) (e2 (op2 modD) (e2 (op2 addD) (e2 (op2 mulI) (e2 (op2 divD) (eVar 5) (eC (.int 64))) (eC (.int 69621))) (eVar 5)) (eC (.int 4294967231))) (eC (.int 8))) (eVar 2))))))))
def m__law_draw : TM := runT 6 F__law_draw
theorem b__law_draw {f : Addr} (B : BI mg) (Cn : CN mg) : BodyOkT P w K mg base N__law_draw "_law_draw" d__law_draw f 0 F__law_draw := fun C cdv A outer s H E hK ht hr => by
  have hu := hr.units
  have hu1 := hu_of hr
  have V0 := (Or.inl rfl : Vis (defScope d__law_draw) "script")
  have V1 := (Or.inl rfl : Vis (defScope d__law_draw) "town")
  exact dss_cons (ds_cnt hu1 (pe_var rfl V1) (de_op (op_addG hK) (de_cnt hu1 (pe_var rfl V1)) (dc_int))) (dss_cons (ds_set sc__law_draw.nd rfl (by first | exact Or.inl rfl | exact Or.inr rfl) (de_if (dt_truS hK (pe_var rfl V0)) (de_op (op_modG hK) (de_cnt hu1 (pe_var rfl V1)) (de_lenS hK rfl B.len (pe_var rfl V0))) (dc_int))) (dss_cons (ds_set sc__law_draw.nd rfl (by first | exact Or.inl rfl | exact Or.inr rfl) (de_rst ht hu1 (pe_var rfl V1) (dv 3) (de_if (dt_truS hK (pe_var rfl V0)) (de_ixS hK (pe_var rfl V0) (dv 3) (fun _ _ => rfl)) (dc_int)) ⟨rfl, rfl, rfl, rfl⟩)) (dss_cons (ds_if (dt_cmp (op_geG hK) (dv 4) (de_op (op_powG hK) (dc_int) (dc_int)) rfl) (dss_cons (ds_rst ht hu1 (pe_var rfl V1) (dv 3) (de_op (op_divG hK) (dv 4) (dv 2))) (dss_one (ds_ret (de_op (op_modG hK) (dv 4) (dv 2))))) (dss_nil)) (dss_cons (ds_set sc__law_draw.nd rfl (by first | exact Or.inl rfl | exact Or.inr rfl) (de_op (op_modG hK) (de_op (op_addG hK) (dv 4) (de_op (op_mulI hK) (dc_int) (de_cnt hu1 (pe_var rfl V1)))) (dc_int))) (dss_cons (ds_set sc__law_draw.nd rfl (by first | exact Or.inl rfl | exact Or.inr rfl) (de_op (op_modG hK) (de_op (op_powG hK) (dv 5) (dc_int)) (dc_int))) (dss_one (ds_ret (de_op (op_modG hK) (de_op (op_divG hK) (de_op (op_modG hK) (de_op (op_addG hK) (de_op (op_mulI hK) (de_op (op_divG hK) (dv 5) (dc_int)) (dc_int)) (dv 5)) (dc_int)) (dc_int)) (dv 2)))))))))
abbrev D__law_draw (P : Program) (w : World) (K : PySem.W.Frag) (mg : Str → Option Value) (base : Heap) : Prop := Def P w K mg base 1 "_law_draw" "_law_draw" d__law_draw ["script", "town", "many"] (spT K 1 m__law_draw)
theorem mk__law_draw {f : Addr} {fd : FuncData} (B : BI mg) (Cn : CN mg) (Fn : Fun K "_law_draw" "_law_draw" d__law_draw f fd) (hm : mg "_law_draw" = some (.ref f)) : D__law_draw P w K mg base :=
  ⟨⟨f, fd, fnT rfl Fn sc__law_draw (b__law_draw B Cn), hm, Fn⟩, fun _ _ _ _ _ _ us hl => match us, hl with | [_, _, _], _ => rfl⟩
abbrev d__law_begun : Stmt := topS 15
theorem sc__law_begun : FnScope [] [] (defScope d__law_begun) := ⟨rfl, rfl, rfl, by decide +kernel, rfl, by decide +kernel, by decide +kernel⟩
abbrev D__law_begun (P : Program) (w : World) (K : PySem.W.Frag) (mg : Str → Option Value) (base : Heap) : Prop := Def P w K mg base 1 "_law_begun" "_law_begun" d__law_begun [] (spBg K)
theorem mk__law_begun {f : Addr} {fd : FuncData} (Fn : Fun K "_law_begun" "_law_begun" d__law_begun f fd) (hm : mg "_law_begun" = some (.ref f)) : D__law_begun P w K mg base :=
  ⟨⟨f, fd, fnBg Fn sc__law_begun rfl, hm, Fn⟩, fun _ _ _ _ _ _ us hl => match us, hl with | [], _ => rfl⟩
abbrev d__law_mixed : Stmt := topS 16
abbrev N__law_mixed : List Str := ["script", "town", "names", "least", "rest", "found"]
theorem sc__law_mixed : FnScope N__law_mixed ["script", "town", "names", "least"] (defScope d__law_mixed) := ⟨rfl, rfl, rfl, by decide +kernel, rfl, by decide +kernel, by decide +kernel⟩
def F__law_mixed : FS := sSeq (sPar [4, 5] (xF (fB listD (eVar 2)) (xF (fLst (aNil)) (xNil)))) (sSeq (whileD (andT (toT (e2 (op2 neD) (eVar 4) (ofF (fLst (aNil))))) (orT (toT (e2 (op2 ltD) (eB (b1 lenD) (aCons (eVar 5) (aNil))) (eVar 3))) (toT (e2 (op2 gtD) (eCallT 1 m__law_draw (aCons (eVar 0) (aCons (eVar 1) (aCons (eC (.int 5)) (aNil))))) (eC (.int 0)))))) (sApp 5 (ePop 4 (eCallT 1 m__law_draw (aCons (eVar 0) (aCons (eVar 1) (aCons (eB (b1 lenD) (aCons (eVar 4) (aNil))) (aNil))))))) 200) (sRet (eB (b1 tupD) (aCons (eVar 5) (aNil)))))
def m__law_mixed : TM := runT 6 F__law_mixed
theorem b__law_mixed {f : Addr} (B : BI mg) (Cn : CN mg) (H__law_draw : D__law_draw P w K mg base) : BodyOkT P w K mg base N__law_mixed "_law_mixed" d__law_mixed f 1 F__law_mixed := fun C cdv A outer s H E hK ht hr => by
  have hu := hr.units
  have hu1 := hu_of hr
  exact dss_cons (ds_par rfl sc__law_mixed.nd rfl rfl (by decide) rfl rfl (dx_f (df_callTy (cr_listG hK) rfl B.list (by decide +kernel) (dv 2)) (dx_f (df_lst (da_nil)) (dx_nil)))) (dss_cons (ds_while 200 PassesOwn.never (PW.pt (dw_and (dt_cmp (op_neG hK hu) (dv 4) (de_lst (da_nil)) rfl) (dw_and1 (PW.pt (dw_or (dt_cmp (op_ltG hK hu) (de_callB (cr_len hK) rfl B.len (by decide +kernel) (da_cons (dv 5) (da_nil))) (dv 3) rfl) (dw_or1 (dt_cmp (op_gtG hK) (de_callTD hK H__law_draw (hr.mono (by omega)) rfl (da_cons (dv 0) (da_cons (dv 1) (da_cons (dc_int) (da_nil))))) (dc_int) rfl))))))) (dss_one (ds_app (pe_var rfl (by first | exact Or.inl rfl | exact Or.inr (Or.inl rfl) | exact Or.inr (Or.inr rfl))) (de_pop (pe_var rfl (by first | exact Or.inl rfl | exact Or.inr (Or.inl rfl) | exact Or.inr (Or.inr rfl))) (de_callTD hK H__law_draw (hr.mono (by omega)) rfl (da_cons (dv 0) (da_cons (dv 1) (da_cons (de_callB (cr_len hK) rfl B.len (by decide +kernel) (da_cons (dv 4) (da_nil))) (da_nil))))))))) (dss_one (ds_ret (de_callTy (cr_tupG hK) rfl B.tuple (by decide +kernel) (da_cons (dv 5) (da_nil))))))
abbrev D__law_mixed (P : Program) (w : World) (K : PySem.W.Frag) (mg : Str → Option Value) (base : Heap) : Prop := Def P w K mg base 2 "_law_mixed" "_law_mixed" d__law_mixed ["script", "town", "names", "least"] (spT K 2 m__law_mixed)
theorem mk__law_mixed {f : Addr} {fd : FuncData} (B : BI mg) (Cn : CN mg) (H__law_draw : D__law_draw P w K mg base) (Fn : Fun K "_law_mixed" "_law_mixed" d__law_mixed f fd) (hm : mg "_law_mixed" = some (.ref f)) : D__law_mixed P w K mg base :=
  ⟨⟨f, fd, fnT rfl Fn sc__law_mixed (b__law_mixed B Cn H__law_draw), hm, Fn⟩, fun _ _ _ _ _ _ us hl => match us, hl with | [_, _, _, _], _ => rfl⟩
abbrev d__law_a_book : Stmt := topS 17
abbrev N__law_a_book : List Str := ["script", "town", "houses_most", "people_most", "houses", "people", "rows", "house", "person"]
theorem sc__law_a_book : FnScope N__law_a_book ["script", "town", "houses_most", "people_most"] (defScope d__law_a_book) := ⟨rfl, rfl, rfl, by decide +kernel, rfl, by decide +kernel, by decide +kernel⟩
def F__law_a_book : FS := sSeq (sAsg (eSl (eTup (aCons (eC (.str "barn")) (aCons (eC (.str "cot")) (aCons (eC (.str "den")) (aCons (eC (.str "hut")) (aCons (eC (.str "inn")) (aNil))))))) (oNone) (oSome (e2 (op2 addD) (eC (.int 1)) (eCallT 1 m__law_draw (aCons (eVar 0) (aCons (eVar 1) (aCons (eVar 2) (aNil)))))))) (put 4)) (sSeq (sAsg (eSl (eTup (aCons (eC (.str "ann")) (aCons (eC (.str "bob")) (aCons (eC (.str "cat")) (aCons (eC (.str "dan")) (aCons (eC (.str "eve")) (aNil))))))) (oNone) (oSome (e2 (op2 addD) (eC (.int 1)) (eCallT 1 m__law_draw (aCons (eVar 0) (aCons (eVar 1) (aCons (eVar 3) (aNil)))))))) (put 5)) (sSeq (sAsg (eB (b1 tupD) (aCons (ofF (fLc (iSeq (eVar 4)) (put 7) (tYesT) (eTup (aCons (eVar 7) (aCons (eCallT 2 m__law_mixed (aCons (eVar 0) (aCons (eVar 1) (aCons (eVar 5) (aCons (eC (.int 1)) (aNil)))))) (aNil)))) [7])) (aNil))) (put 6)) (sRet (eTup (aCons (eVar 6) (aCons (eB (b1 tupD) (aCons (ofF (fLc (iSeq (eVar 5)) (put 8) (tYesT) (eTup (aCons (eVar 8) (aCons (eCallT 2 m__law_mixed (aCons (eVar 0) (aCons (eVar 1) (aCons (eVar 4) (aCons (eC (.int 1)) (aNil)))))) (aNil)))) [8])) (aNil))) (aNil)))))))
def m__law_a_book : TM := runT 9 F__law_a_book
theorem b__law_a_book {f : Addr} (B : BI mg) (Cn : CN mg) (H__law_draw : D__law_draw P w K mg base) (H__law_mixed : D__law_mixed P w K mg base) : BodyOkT P w K mg base N__law_a_book "_law_a_book" d__law_a_book f 2 F__law_a_book := fun C cdv A outer s H E hK ht hr => by
  have hu := hr.units
  have hu1 := hu_of hr
  exact dss_cons (ds_set sc__law_a_book.nd rfl (by first | exact Or.inl rfl | exact Or.inr rfl) (de_sl hK (de_tup (da_cons (dc_str) (da_cons (dc_str) (da_cons (dc_str) (da_cons (dc_str) (da_cons (dc_str) (da_nil))))))) (do_none) (do_some (de_op (op_addG hK) (dc_int) (de_callTD hK H__law_draw (hr.mono (by omega)) rfl (da_cons (dv 0) (da_cons (dv 1) (da_cons (dv 2) (da_nil))))))))) (dss_cons (ds_set sc__law_a_book.nd rfl (by first | exact Or.inl rfl | exact Or.inr rfl) (de_sl hK (de_tup (da_cons (dc_str) (da_cons (dc_str) (da_cons (dc_str) (da_cons (dc_str) (da_cons (dc_str) (da_nil))))))) (do_none) (do_some (de_op (op_addG hK) (dc_int) (de_callTD hK H__law_draw (hr.mono (by omega)) rfl (da_cons (dv 0) (da_cons (dv 1) (da_cons (dv 3) (da_nil))))))))) (dss_cons (ds_set sc__law_a_book.nd rfl (by first | exact Or.inl rfl | exact Or.inr rfl) (de_callTy (cr_tupG hK) rfl B.tuple (by decide +kernel) (da_cons (de_F (df_lc [("house", 7)] rfl sc__law_a_book.nd (di_seq hK (dv 4)) (show blkC N__law_a_book (defScope d__law_a_book) _ _ = true by decide +kernel) (fun _ _ _ _ _ => dg_name sc__law_a_book.nd rfl (by first | exact Or.inl rfl | exact Or.inr rfl)) (fun _ _ _ _ _ => dts_nil) (fun _ _ _ _ _ => de_tup (da_cons (dv 7) (da_cons (de_callTD hK H__law_mixed (hr.mono (by omega)) rfl (da_cons (dv 0) (da_cons (dv 1) (da_cons (dv 5) (da_cons (dc_int) (da_nil)))))) (da_nil)))) (by decide))) (da_nil)))) (dss_one (ds_ret (de_tup (da_cons (dv 6) (da_cons (de_callTy (cr_tupG hK) rfl B.tuple (by decide +kernel) (da_cons (de_F (df_lc [("person", 8)] rfl sc__law_a_book.nd (di_seq hK (dv 5)) (show blkC N__law_a_book (defScope d__law_a_book) _ _ = true by decide +kernel) (fun _ _ _ _ _ => dg_name sc__law_a_book.nd rfl (by first | exact Or.inl rfl | exact Or.inr rfl)) (fun _ _ _ _ _ => dts_nil) (fun _ _ _ _ _ => de_tup (da_cons (dv 8) (da_cons (de_callTD hK H__law_mixed (hr.mono (by omega)) rfl (da_cons (dv 0) (da_cons (dv 1) (da_cons (dv 4) (da_cons (dc_int) (da_nil)))))) (da_nil)))) (by decide))) (da_nil))) (da_nil))))))))
abbrev D__law_a_book (P : Program) (w : World) (K : PySem.W.Frag) (mg : Str → Option Value) (base : Heap) : Prop := Def P w K mg base 3 "_law_a_book" "_law_a_book" d__law_a_book ["script", "town", "houses_most", "people_most"] (spT K 2 m__law_a_book)
theorem mk__law_a_book {f : Addr} {fd : FuncData} (B : BI mg) (Cn : CN mg) (H__law_draw : D__law_draw P w K mg base) (H__law_mixed : D__law_mixed P w K mg base) (Fn : Fun K "_law_a_book" "_law_a_book" d__law_a_book f fd) (hm : mg "_law_a_book" = some (.ref f)) : D__law_a_book P w K mg base :=
  ⟨⟨f, fd, fnT rfl Fn sc__law_a_book (b__law_a_book B Cn H__law_draw H__law_mixed), hm, Fn⟩, fun _ _ _ _ _ _ us hl => match us, hl with | [_, _, _, _], _ => rfl⟩
abbrev d__law_homes : Stmt := topS 18
abbrev N__law_homes : List Str := ["book_here", "person", "rows", "likes", "house"]
theorem sc__law_homes : FnScope N__law_homes ["book_here", "person"] (defScope d__law_homes) := ⟨rfl, rfl, rfl, by decide +kernel, rfl, by decide +kernel, by decide +kernel⟩
def F__law_homes : FS := sSeq (sPar [2, 3] (xM (mDict (e2 (op2 idxD) (eVar 0) (eC (.int 0)))) (xM (mDict (e2 (op2 idxD) (eVar 0) (eC (.int 1)))) (xNil)))) (sRet (ofF (fLc (iSeq (eMGet' 3 (eVar 1))) (put 4) (toT (e2 (op2 inD) (eVar 1) (eMGet' 2 (eVar 4)))) (eVar 4) [4])))
def m__law_homes : List D → Option D := runB 5 F__law_homes
theorem b__law_homes {f : Addr} (B : BI mg) (Cn : CN mg) : BodyOk P w K mg base N__law_homes "_law_homes" d__law_homes f 0 F__law_homes := fun C cdv A outer s H E hK hr => by
  have hu := hr.units
  have hu1 := hu_of hr
  exact dss_cons (ds_parT (is := [2, 3]) rfl (by decide) (dx_m (dm_dict (cr_dictG hK rfl) rfl B.dict (by decide +kernel) (de_ix hK (dv 0) (dc_int) (fun _ _ => rfl))) (dx_m (dm_dict (cr_dictG hK rfl) rfl B.dict (by decide +kernel) (de_ix hK (dv 0) (dc_int) (fun _ _ => rfl))) (dx_nil))) (pgs_cons (pg_name sc__law_homes.nd rfl (by first | exact Or.inl rfl | exact Or.inr rfl)) (pgs_cons (pg_name sc__law_homes.nd rfl (by first | exact Or.inl rfl | exact Or.inr rfl)) (pgs_nil)))) (dss_one (ds_ret (de_F (df_lc [("house", 4)] rfl sc__law_homes.nd (di_seq hK (de_mget hu1 (pe_var rfl (by first | exact Or.inl rfl | exact Or.inr (Or.inl rfl) | exact Or.inr (Or.inr rfl))) (dv 1) (fun _ _ => rfl))) (show blkC N__law_homes (defScope d__law_homes) _ _ = true by decide +kernel) (fun _ _ _ _ _ => dg_name sc__law_homes.nd rfl (by first | exact Or.inl rfl | exact Or.inr rfl)) (fun _ _ _ _ _ => dts_one (dt_cmp (op_inG hK hu) (dv 1) (de_mget hu1 (pe_var rfl (by first | exact Or.inl rfl | exact Or.inr (Or.inl rfl) | exact Or.inr (Or.inr rfl))) (dv 4) (fun _ _ => rfl)) rfl)) (fun _ _ _ _ _ => dv 4) (by decide)))))
abbrev D__law_homes (P : Program) (w : World) (K : PySem.W.Frag) (mg : Str → Option Value) (base : Heap) : Prop := Def P w K mg base 1 "_law_homes" "_law_homes" d__law_homes ["book_here", "person"] (spF K 2 m__law_homes)
theorem mk__law_homes {f : Addr} {fd : FuncData} (B : BI mg) (Cn : CN mg) (Fn : Fun K "_law_homes" "_law_homes" d__law_homes f fd) (hm : mg "_law_homes" = some (.ref f)) : D__law_homes P w K mg base :=
  ⟨⟨f, fd, fnB Fn sc__law_homes (b__law_homes B Cn), hm, Fn⟩, fun _ _ _ _ _ _ us hl => match us, hl with | [_, _], _ => rfl⟩
abbrev d__law_a_standing : Stmt := topS 19
abbrev N__law_a_standing : List Str := ["script", "town", "book_here", "found", "person", "likes", "free", "lives", "house"]
theorem sc__law_a_standing : FnScope N__law_a_standing ["script", "town", "book_here"] (defScope d__law_a_standing) := ⟨rfl, rfl, rfl, by decide +kernel, rfl, by decide +kernel, by decide +kernel⟩
def F__law_a_standing : FS := sSeq (sOwn 3 (fLst (aNil))) (sSeq (sFor (iSeq (e2 (op2 idxD) (eVar 2) (eC (.int 1)))) (gT 2 (gC (put 4) (gC (put 5) (gN)))) (sSeq (sOwn 6 (fLc (iSeq (eCall 2 m__law_homes (aCons (eVar 2) (aCons (eVar 4) (aNil))))) (put 8) (toT (e2 (op2 ninD) (eVar 8) (eVar 3))) (eVar 8) [8])) (sSeq (sAsg (andE (e2 (op2 neD) (eVar 6) (ofF (fLst (aNil)))) (e2 (op2 gtD) (eCallT 1 m__law_draw (aCons (eVar 0) (aCons (eVar 1) (aCons (eC (.int 3)) (aNil))))) (eC (.int 0)))) (put 7)) (sApp 3 (ifE (truR (eVar 7)) (e2 (op2 idxD) (eVar 6) (eCallT 1 m__law_draw (aCons (eVar 0) (aCons (eVar 1) (aCons (eB (b1 lenD) (aCons (eVar 6) (aNil))) (aNil)))))) (eC .none)))))) (sRet (eB (b1 tupD) (aCons (eVar 3) (aNil)))))
def m__law_a_standing : TM := runT 9 F__law_a_standing
theorem b__law_a_standing {f : Addr} (B : BI mg) (Cn : CN mg) (H__law_homes : D__law_homes P w K mg base) (H__law_draw : D__law_draw P w K mg base) : BodyOkT P w K mg base N__law_a_standing "_law_a_standing" d__law_a_standing f 1 F__law_a_standing := fun C cdv A outer s H E hK ht hr => by
  have hu := hr.units
  have hu1 := hu_of hr
  exact dss_cons (ds_own sc__law_a_standing.nd rfl (by first | exact Or.inl rfl | exact Or.inr rfl) (df_lst (da_nil))) (dss_cons (ds_for PassesOwn.never rfl (di_seq hK (de_ix hK (dv 2) (dc_int) (fun _ _ => rfl))) (dg_tup hK rfl (dgs_cons (dg_name sc__law_a_standing.nd rfl (by first | exact Or.inl rfl | exact Or.inr rfl)) (dgs_cons (dg_name sc__law_a_standing.nd rfl (by first | exact Or.inl rfl | exact Or.inr rfl)) (dgs_nil)))) (dss_cons (ds_setLc [("house", 8)] rfl sc__law_a_standing.nd rfl rfl rfl (di_seq hK (de_callD hK H__law_homes (hr.mono (by omega)) rfl (da_cons (dv 2) (da_cons (dv 4) (da_nil))))) (show blkC N__law_a_standing (defScope d__law_a_standing) _ _ = true by decide +kernel) (fun _ _ _ _ _ => dg_name sc__law_a_standing.nd rfl (by first | exact Or.inl rfl | exact Or.inr rfl)) (fun _ _ _ _ _ => dts_one (dt_cmp (op_ninG hK hu) (dv 8) (dv 3) rfl)) (fun _ _ _ _ _ => dv 8) (by decide)) (dss_cons (ds_set sc__law_a_standing.nd rfl (by first | exact Or.inl rfl | exact Or.inr rfl) (de_and hK (de_cmp (op_neG hK hu) (dv 6) (de_lst (da_nil)) rfl) (de_one (de_cmp (op_gtG hK) (de_callTD hK H__law_draw (hr.mono (by omega)) rfl (da_cons (dv 0) (da_cons (dv 1) (da_cons (dc_int) (da_nil))))) (dc_int) rfl)))) (dss_one (ds_app (pe_var rfl (by first | exact Or.inl rfl | exact Or.inr (Or.inl rfl) | exact Or.inr (Or.inr rfl))) (de_if (dt_tru hK (dv 7)) (de_ix hK (dv 6) (de_callTD hK H__law_draw (hr.mono (by omega)) rfl (da_cons (dv 0) (da_cons (dv 1) (da_cons (de_callB (cr_len hK) rfl B.len (by decide +kernel) (da_cons (dv 6) (da_nil))) (da_nil))))) (fun _ _ => rfl)) (dc_none))))))) (dss_one (ds_ret (de_callTy (cr_tupG hK) rfl B.tuple (by decide +kernel) (da_cons (dv 3) (da_nil))))))
abbrev D__law_a_standing (P : Program) (w : World) (K : PySem.W.Frag) (mg : Str → Option Value) (base : Heap) : Prop := Def P w K mg base 2 "_law_a_standing" "_law_a_standing" d__law_a_standing ["script", "town", "book_here"] (spT K 1 m__law_a_standing)
theorem mk__law_a_standing {f : Addr} {fd : FuncData} (B : BI mg) (Cn : CN mg) (H__law_homes : D__law_homes P w K mg base) (H__law_draw : D__law_draw P w K mg base) (Fn : Fun K "_law_a_standing" "_law_a_standing" d__law_a_standing f fd) (hm : mg "_law_a_standing" = some (.ref f)) : D__law_a_standing P w K mg base :=
  ⟨⟨f, fd, fnT rfl Fn sc__law_a_standing (b__law_a_standing B Cn H__law_homes H__law_draw), hm, Fn⟩, fun _ _ _ _ _ _ us hl => match us, hl with | [_, _, _], _ => rfl⟩
abbrev d__law_spoilt : Stmt := topS 20
abbrev N__law_spoilt : List Str := ["thing_here", "found", "place", "one", "odd"]
theorem sc__law_spoilt : FnScope N__law_spoilt ["thing_here"] (defScope d__law_spoilt) := ⟨rfl, rfl, rfl, by decide +kernel, rfl, by decide +kernel, by decide +kernel⟩
def F__law_spoilt (rec : List D → Option D) : FS := sSeq (sOwn 1 (fLst (aNil))) (sSeq (sIf (notT (truR (eIsi "tuple" (eVar 0)))) (sRet (eVar 1)) (sNil)) (sSeq (sFor (iEn (eVar 0)) (gT 2 (gC (put 2) (gC (put 3) (gN)))) (sFor (iSeq (e2 (op2 addD) (ofF (fLst (aCons (eC (.str "!")) (aCons (eC (.int 3)) (aCons (eTup (aCons (eC (.str "ann")) (aCons (eC (.int 3)) (aNil)))) (aCons (ofF (fLst (aNil))) (aNil))))))) (eCall 1 rec (aCons (eVar 3) (aNil))))) (put 4) (sApp 1 (e2 (op2 addD) (e2 (op2 addD) (eSl (eVar 0) (oNone) (oSome (eVar 2))) (eTup (aCons (eVar 4) (aNil)))) (eSl (eVar 0) (oSome (e2 (op2 addD) (eVar 2) (eC (.int 1)))) (oNone)))))) (sRet (e2 (op2 addD) (eVar 1) (ofF (fLst (aCons (ofF (fB listD (eVar 0))) (aCons (e2 (op2 addD) (eVar 0) (eTup (aCons (eC (.str "!")) (aNil)))) (aCons (e2 (op2 addD) (eVar 0) (eTup (aCons (eC (.int 3)) (aNil)))) (aNil))))))))))
def r__law_spoilt : Nat → List D → Option D
  | 0 => fun _ => none
  | n + 1 => runB 5 (F__law_spoilt (r__law_spoilt n))
theorem b__law_spoilt {f : Addr} (B : BI mg) (Cn : CN mg) {n : Nat} {rec : List D → Option D} (H__law_spoilt : Def P w K mg base (1 + n) "_law_spoilt" "_law_spoilt" d__law_spoilt ["thing_here"] (spF K 1 rec)) : BodyOk P w K mg base N__law_spoilt "_law_spoilt" d__law_spoilt f (1 + n) (F__law_spoilt rec) := fun C cdv A outer s H E hK hr => by
  have hu := hr.units
  have hu1 := hu_of hr
  exact dss_cons (ds_own sc__law_spoilt.nd rfl (by first | exact Or.inl rfl | exact Or.inr rfl) (df_lst (da_nil))) (dss_cons (ds_if (dt_not (dt_tru hK (de_isi hK (dv 0) rfl B.isinstance rfl B.tuple (by decide +kernel)))) (dss_one (ds_ret (dv 1))) (dss_nil)) (dss_cons (ds_for PassesOwn.never rfl (di_enum hK rfl B.enumerate (dv 0)) (dg_tup hK rfl (dgs_cons (dg_name sc__law_spoilt.nd rfl (by first | exact Or.inl rfl | exact Or.inr rfl)) (dgs_cons (dg_name sc__law_spoilt.nd rfl (by first | exact Or.inl rfl | exact Or.inr rfl)) (dgs_nil)))) (dss_one (ds_for PassesOwn.never rfl (di_seq hK (de_op (op_addG hK) (de_lst (da_cons (dc_str) (da_cons (dc_int) (da_cons (de_tup (da_cons (dc_str) (da_cons (dc_int) (da_nil)))) (da_cons (de_lst (da_nil)) (da_nil)))))) (de_callD hK H__law_spoilt (hr.mono (by omega)) rfl (da_cons (dv 3) (da_nil))))) (dg_name sc__law_spoilt.nd rfl (by first | exact Or.inl rfl | exact Or.inr rfl)) (dss_one (ds_app (pe_var rfl (by first | exact Or.inl rfl | exact Or.inr (Or.inl rfl) | exact Or.inr (Or.inr rfl))) (de_op (op_addG hK) (de_op (op_addG hK) (de_sl hK (dv 0) (do_none) (do_some (dv 2))) (de_tup (da_cons (dv 4) (da_nil)))) (de_sl hK (dv 0) (do_some (de_op (op_addG hK) (dv 2) (dc_int))) (do_none)))))))) (dss_one (ds_ret (de_op (op_addG hK) (dv 1) (de_lst (da_cons (de_F (df_callTy (cr_listG hK) rfl B.list (by decide +kernel) (dv 0))) (da_cons (de_op (op_addG hK) (dv 0) (de_tup (da_cons (dc_str) (da_nil)))) (da_cons (de_op (op_addG hK) (dv 0) (de_tup (da_cons (dc_int) (da_nil)))) (da_nil))))))))))
def m__law_spoilt : List D → Option D := r__law_spoilt 6
abbrev D__law_spoilt (P : Program) (w : World) (K : PySem.W.Frag) (mg : Str → Option Value) (base : Heap) : Prop := Def P w K mg base 7 "_law_spoilt" "_law_spoilt" d__law_spoilt ["thing_here"] (spF K 1 m__law_spoilt)
theorem mr__law_spoilt {f : Addr} {fd : FuncData} (B : BI mg) (Cn : CN mg) (Fn : Fun K "_law_spoilt" "_law_spoilt" d__law_spoilt f fd) (hm : mg "_law_spoilt" = some (.ref f)) : ∀ n, Def P w K mg base (1 + n) "_law_spoilt" "_law_spoilt" d__law_spoilt ["thing_here"] (spF K 1 (r__law_spoilt n))
  | 0 => ⟨⟨f, fd, fn_none rfl, hm, Fn⟩, fun _ _ _ _ _ _ us hl => match us, hl with | [_], _ => rfl⟩
  | n + 1 => ⟨⟨f, fd, fnB Fn sc__law_spoilt (b__law_spoilt B Cn (mr__law_spoilt B Cn Fn hm n)), hm, Fn⟩, fun _ _ _ _ _ _ us hl => match us, hl with | [_], _ => rfl⟩
theorem mk__law_spoilt {f : Addr} {fd : FuncData} (B : BI mg) (Cn : CN mg) (Fn : Fun K "_law_spoilt" "_law_spoilt" d__law_spoilt f fd) (hm : mg "_law_spoilt" = some (.ref f)) : D__law_spoilt P w K mg base := mr__law_spoilt B Cn Fn hm 6
abbrev d__law_ends : Stmt := topS 21
abbrev N__law_ends : List Str := ["five", "six", "good", "bad", "book_here", "name"]
theorem sc__law_ends : FnScope N__law_ends [] (defScope d__law_ends) := ⟨rfl, rfl, rfl, by decide +kernel, rfl, by decide +kernel, by decide +kernel⟩
def F__law_ends : FS := sSeq (sAsg (eTup (aCons (eTup (aCons (eC (.str "a")) (aCons (eC (.str "b")) (aCons (eC (.str "c")) (aCons (eC (.str "d")) (aCons (eC (.str "e")) (aNil))))))) (aCons (eTup (aCons (eC (.str "a")) (aCons (eC (.str "b")) (aCons (eC (.str "c")) (aCons (eC (.str "d")) (aCons (eC (.str "e")) (aCons (eC (.str "f")) (aNil)))))))) (aNil)))) (gT 2 (gC (put 0) (gC (put 1) (gN))))) (sSeq (sAsg (ofF (fLst (aCons (eTup (aCons (eTup (aNil)) (aCons (eTup (aNil)) (aNil)))) (aCons (eTup (aCons (eB (b1 tupD) (aCons (ofF (fLc (iSeq (eVar 0)) (put 5) (tYesT) (eTup (aCons (eVar 5) (aCons (eVar 0) (aNil)))) [5])) (aNil))) (aCons (eB (b1 tupD) (aCons (ofF (fLc (iSeq (eVar 0)) (put 5) (tYesT) (eTup (aCons (eVar 5) (aCons (eVar 0) (aNil)))) [5])) (aNil))) (aNil)))) (aNil))))) (put 2)) (sSeq (sAsg (e2 (op2 addD) (eVar 2) (ofF (fLst (aCons (eTup (aCons (eTup (aCons (eTup (aCons (eC (.str "abcdefgh")) (aCons (eTup (aNil)) (aNil)))) (aNil))) (aCons (eTup (aNil)) (aNil)))) (aCons (eTup (aCons (eTup (aCons (eTup (aCons (eC (.str "a")) (aCons (eTup (aCons (eC (.str "z")) (aNil))) (aNil)))) (aNil))) (aCons (eTup (aCons (eTup (aCons (eC (.str "z")) (aCons (eTup (aCons (eC (.str "a")) (aNil))) (aNil)))) (aNil))) (aNil)))) (aCons (eTup (aCons (eTup (aCons (eTup (aCons (eC (.str "a")) (aCons (eTup (aNil)) (aNil)))) (aNil))) (aCons (eTup (aCons (eTup (aCons (eC (.str "a")) (aCons (eTup (aCons (eC (.str "a")) (aNil))) (aNil)))) (aNil))) (aNil)))) (aNil))))))) (put 2)) (sSeq (sIf (toT (e2 (op2 neD) (ofF (fLc (iSeq (eVar 2)) (put 4) (notT (truR (eCall 2 m__law_is (aCons (eCall 1 m_is_book (aCons (eVar 4) (aNil))) (aCons (eC (.bool true)) (aNil)))))) (eVar 4) [4])) (ofF (fLst (aNil))))) (sRet (eC (.bool false))) (sNil)) (sSeq (sAsg (ofF (fLst (aCons (eTup (aCons (eB (b1 tupD) (aCons (ofF (fLc (iSeq (eVar 1)) (put 5) (tYesT) (eTup (aCons (eVar 5) (aCons (eTup (aNil)) (aNil)))) [5])) (aNil))) (aCons (eTup (aNil)) (aNil)))) (aCons (eTup (aCons (eTup (aNil)) (aCons (eB (b1 tupD) (aCons (ofF (fLc (iSeq (eVar 1)) (put 5) (tYesT) (eTup (aCons (eVar 5) (aCons (eTup (aNil)) (aNil)))) [5])) (aNil))) (aNil)))) (aCons (eTup (aCons (eTup (aCons (eTup (aCons (eC (.str "a")) (aCons (eTup (aCons (eC (.str "z")) (aNil))) (aNil)))) (aNil))) (aCons (eTup (aNil)) (aNil)))) (aNil)))))) (put 3)) (sSeq (sAsg (e2 (op2 addD) (eVar 3) (ofF (fLst (aCons (eTup (aCons (eTup (aCons (eTup (aCons (eC (.str "b")) (aCons (eTup (aNil)) (aNil)))) (aCons (eTup (aCons (eC (.str "a")) (aCons (eTup (aNil)) (aNil)))) (aNil)))) (aCons (eTup (aNil)) (aNil)))) (aCons (eTup (aCons (eTup (aCons (eTup (aCons (eC (.str "a")) (aCons (eTup (aNil)) (aNil)))) (aCons (eTup (aCons (eC (.str "a")) (aCons (eTup (aNil)) (aNil)))) (aNil)))) (aCons (eTup (aNil)) (aNil)))) (aCons (eTup (aCons (eTup (aNil)) (aCons (eTup (aCons (eTup (aCons (eC (.str "z")) (aCons (eTup (aCons (eC (.str "a")) (aNil))) (aNil)))) (aNil))) (aNil)))) (aCons (eTup (aCons (eTup (aCons (eTup (aCons (eC (.str "")) (aCons (eTup (aNil)) (aNil)))) (aNil))) (aCons (eTup (aNil)) (aNil)))) (aNil)))))))) (put 3)) (sSeq (sAsg (e2 (op2 addD) (eVar 3) (ofF (fLst (aCons (eTup (aCons (eTup (aCons (eTup (aCons (eC (.str "abcdefghi")) (aCons (eTup (aNil)) (aNil)))) (aNil))) (aCons (eTup (aNil)) (aNil)))) (aCons (eTup (aCons (eTup (aCons (eTup (aCons (eC (.str "A")) (aCons (eTup (aNil)) (aNil)))) (aNil))) (aCons (eTup (aNil)) (aNil)))) (aCons (eTup (aCons (eTup (aCons (eTup (aCons (eC (.str "a")) (aCons (eTup (aCons (eC (.str "z")) (aCons (eC (.str "z")) (aNil)))) (aNil)))) (aNil))) (aCons (eTup (aCons (eTup (aCons (eC (.str "z")) (aCons (eTup (aNil)) (aNil)))) (aNil))) (aNil)))) (aCons (eTup (aCons (eTup (aNil)) (aNil))) (aCons (eC .none) (aCons (eTup (aNil)) (aNil)))))))))) (put 3)) (sSeq (sAsg (e2 (op2 addD) (eVar 3) (ofF (fLst (aCons (eTup (aCons (eTup (aCons (eTup (aCons (eC (.str "a")) (aNil))) (aNil))) (aCons (eTup (aNil)) (aNil)))) (aCons (eTup (aCons (eTup (aCons (eTup (aCons (eC (.str "a")) (aCons (eTup (aCons (eC (.str "z")) (aNil))) (aNil)))) (aNil))) (aCons (eTup (aCons (eTup (aCons (eC (.str "z")) (aCons (eTup (aCons (eC (.str "a")) (aCons (eC (.str "a")) (aNil)))) (aNil)))) (aNil))) (aNil)))) (aCons (eTup (aCons (eTup (aNil)) (aCons (eTup (aNil)) (aCons (eTup (aNil)) (aNil))))) (aCons (eTup (aCons (eTup (aCons (eTup (aCons (eC (.str "a")) (aCons (eC .none) (aNil)))) (aNil))) (aCons (eTup (aNil)) (aNil)))) (aNil)))))))) (put 3)) (sRet (e2 (op2 eqD) (ofF (fLc (iSeq (eVar 3)) (put 4) (notT (truR (eCall 2 m__law_is (aCons (eCall 1 m_is_book (aCons (eVar 4) (aNil))) (aCons (eC (.bool false)) (aNil)))))) (eVar 4) [4])) (ofF (fLst (aNil))))))))))))
def m__law_ends : List D → Option D := runA 6 F__law_ends
theorem b__law_ends {f : Addr} (B : BI mg) (Cn : CN mg) (H__law_is : D__law_is P w K mg base) (H_is_book : D_is_book P w K mg base) : BodyOk P w K mg base N__law_ends "_law_ends" d__law_ends f 3 F__law_ends := fun C cdv A outer s H E hK hr => by
  have hu := hr.units
  have hu1 := hu_of hr
  exact dss_cons (ds_asg (de_tup (da_cons (de_tup (da_cons (dc_str) (da_cons (dc_str) (da_cons (dc_str) (da_cons (dc_str) (da_cons (dc_str) (da_nil))))))) (da_cons (de_tup (da_cons (dc_str) (da_cons (dc_str) (da_cons (dc_str) (da_cons (dc_str) (da_cons (dc_str) (da_cons (dc_str) (da_nil)))))))) (da_nil)))) (dg_tup hK rfl (dgs_cons (dg_name sc__law_ends.nd rfl (by first | exact Or.inl rfl | exact Or.inr rfl)) (dgs_cons (dg_name sc__law_ends.nd rfl (by first | exact Or.inl rfl | exact Or.inr rfl)) (dgs_nil))))) (dss_cons (ds_set sc__law_ends.nd rfl (by first | exact Or.inl rfl | exact Or.inr rfl) (de_lst (da_cons (de_tup (da_cons (de_tup (da_nil)) (da_cons (de_tup (da_nil)) (da_nil)))) (da_cons (de_tup (da_cons (de_callTy (cr_tupG hK) rfl B.tuple (by decide +kernel) (da_cons (de_F (df_lc [("name", 5)] rfl sc__law_ends.nd (di_seq hK (dv 0)) (show blkC N__law_ends (defScope d__law_ends) _ _ = true by decide +kernel) (fun _ _ _ _ _ => dg_name sc__law_ends.nd rfl (by first | exact Or.inl rfl | exact Or.inr rfl)) (fun _ _ _ _ _ => dts_nil) (fun _ _ _ _ _ => de_tup (da_cons (dv 5) (da_cons (dv 0) (da_nil)))) (by decide))) (da_nil))) (da_cons (de_callTy (cr_tupG hK) rfl B.tuple (by decide +kernel) (da_cons (de_F (df_lc [("name", 5)] rfl sc__law_ends.nd (di_seq hK (dv 0)) (show blkC N__law_ends (defScope d__law_ends) _ _ = true by decide +kernel) (fun _ _ _ _ _ => dg_name sc__law_ends.nd rfl (by first | exact Or.inl rfl | exact Or.inr rfl)) (fun _ _ _ _ _ => dts_nil) (fun _ _ _ _ _ => de_tup (da_cons (dv 5) (da_cons (dv 0) (da_nil)))) (by decide))) (da_nil))) (da_nil)))) (da_nil))))) (dss_cons (ds_set sc__law_ends.nd rfl (by first | exact Or.inl rfl | exact Or.inr rfl) (de_op (op_addG hK) (dv 2) (de_lst (da_cons (de_tup (da_cons (de_tup (da_cons (de_tup (da_cons (dc_str) (da_cons (de_tup (da_nil)) (da_nil)))) (da_nil))) (da_cons (de_tup (da_nil)) (da_nil)))) (da_cons (de_tup (da_cons (de_tup (da_cons (de_tup (da_cons (dc_str) (da_cons (de_tup (da_cons (dc_str) (da_nil))) (da_nil)))) (da_nil))) (da_cons (de_tup (da_cons (de_tup (da_cons (dc_str) (da_cons (de_tup (da_cons (dc_str) (da_nil))) (da_nil)))) (da_nil))) (da_nil)))) (da_cons (de_tup (da_cons (de_tup (da_cons (de_tup (da_cons (dc_str) (da_cons (de_tup (da_nil)) (da_nil)))) (da_nil))) (da_cons (de_tup (da_cons (de_tup (da_cons (dc_str) (da_cons (de_tup (da_cons (dc_str) (da_nil))) (da_nil)))) (da_nil))) (da_nil)))) (da_nil))))))) (dss_cons (ds_if (dt_cmp (op_neG hK hu) (de_F (df_lc [("book_here", 4)] rfl sc__law_ends.nd (di_seq hK (dv 2)) (show blkC N__law_ends (defScope d__law_ends) _ _ = true by decide +kernel) (fun _ _ _ _ _ => dg_name sc__law_ends.nd rfl (by first | exact Or.inl rfl | exact Or.inr rfl)) (fun _ _ _ _ _ => dts_one (dt_not (dt_tru hK (de_callD hK H__law_is (hr.mono (by omega)) rfl (da_cons (de_callD hK H_is_book (hr.mono (by omega)) rfl (da_cons (dv 4) (da_nil))) (da_cons (dc_bool) (da_nil))))))) (fun _ _ _ _ _ => dv 4) (by decide))) (de_lst (da_nil)) rfl) (dss_one (ds_ret (dc_bool))) (dss_nil)) (dss_cons (ds_set sc__law_ends.nd rfl (by first | exact Or.inl rfl | exact Or.inr rfl) (de_lst (da_cons (de_tup (da_cons (de_callTy (cr_tupG hK) rfl B.tuple (by decide +kernel) (da_cons (de_F (df_lc [("name", 5)] rfl sc__law_ends.nd (di_seq hK (dv 1)) (show blkC N__law_ends (defScope d__law_ends) _ _ = true by decide +kernel) (fun _ _ _ _ _ => dg_name sc__law_ends.nd rfl (by first | exact Or.inl rfl | exact Or.inr rfl)) (fun _ _ _ _ _ => dts_nil) (fun _ _ _ _ _ => de_tup (da_cons (dv 5) (da_cons (de_tup (da_nil)) (da_nil)))) (by decide))) (da_nil))) (da_cons (de_tup (da_nil)) (da_nil)))) (da_cons (de_tup (da_cons (de_tup (da_nil)) (da_cons (de_callTy (cr_tupG hK) rfl B.tuple (by decide +kernel) (da_cons (de_F (df_lc [("name", 5)] rfl sc__law_ends.nd (di_seq hK (dv 1)) (show blkC N__law_ends (defScope d__law_ends) _ _ = true by decide +kernel) (fun _ _ _ _ _ => dg_name sc__law_ends.nd rfl (by first | exact Or.inl rfl | exact Or.inr rfl)) (fun _ _ _ _ _ => dts_nil) (fun _ _ _ _ _ => de_tup (da_cons (dv 5) (da_cons (de_tup (da_nil)) (da_nil)))) (by decide))) (da_nil))) (da_nil)))) (da_cons (de_tup (da_cons (de_tup (da_cons (de_tup (da_cons (dc_str) (da_cons (de_tup (da_cons (dc_str) (da_nil))) (da_nil)))) (da_nil))) (da_cons (de_tup (da_nil)) (da_nil)))) (da_nil)))))) (dss_cons (ds_set sc__law_ends.nd rfl (by first | exact Or.inl rfl | exact Or.inr rfl) (de_op (op_addG hK) (dv 3) (de_lst (da_cons (de_tup (da_cons (de_tup (da_cons (de_tup (da_cons (dc_str) (da_cons (de_tup (da_nil)) (da_nil)))) (da_cons (de_tup (da_cons (dc_str) (da_cons (de_tup (da_nil)) (da_nil)))) (da_nil)))) (da_cons (de_tup (da_nil)) (da_nil)))) (da_cons (de_tup (da_cons (de_tup (da_cons (de_tup (da_cons (dc_str) (da_cons (de_tup (da_nil)) (da_nil)))) (da_cons (de_tup (da_cons (dc_str) (da_cons (de_tup (da_nil)) (da_nil)))) (da_nil)))) (da_cons (de_tup (da_nil)) (da_nil)))) (da_cons (de_tup (da_cons (de_tup (da_nil)) (da_cons (de_tup (da_cons (de_tup (da_cons (dc_str) (da_cons (de_tup (da_cons (dc_str) (da_nil))) (da_nil)))) (da_nil))) (da_nil)))) (da_cons (de_tup (da_cons (de_tup (da_cons (de_tup (da_cons (dc_str) (da_cons (de_tup (da_nil)) (da_nil)))) (da_nil))) (da_cons (de_tup (da_nil)) (da_nil)))) (da_nil)))))))) (dss_cons (ds_set sc__law_ends.nd rfl (by first | exact Or.inl rfl | exact Or.inr rfl) (de_op (op_addG hK) (dv 3) (de_lst (da_cons (de_tup (da_cons (de_tup (da_cons (de_tup (da_cons (dc_str) (da_cons (de_tup (da_nil)) (da_nil)))) (da_nil))) (da_cons (de_tup (da_nil)) (da_nil)))) (da_cons (de_tup (da_cons (de_tup (da_cons (de_tup (da_cons (dc_str) (da_cons (de_tup (da_nil)) (da_nil)))) (da_nil))) (da_cons (de_tup (da_nil)) (da_nil)))) (da_cons (de_tup (da_cons (de_tup (da_cons (de_tup (da_cons (dc_str) (da_cons (de_tup (da_cons (dc_str) (da_cons (dc_str) (da_nil)))) (da_nil)))) (da_nil))) (da_cons (de_tup (da_cons (de_tup (da_cons (dc_str) (da_cons (de_tup (da_nil)) (da_nil)))) (da_nil))) (da_nil)))) (da_cons (de_tup (da_cons (de_tup (da_nil)) (da_nil))) (da_cons (dc_none) (da_cons (de_tup (da_nil)) (da_nil)))))))))) (dss_cons (ds_set sc__law_ends.nd rfl (by first | exact Or.inl rfl | exact Or.inr rfl) (de_op (op_addG hK) (dv 3) (de_lst (da_cons (de_tup (da_cons (de_tup (da_cons (de_tup (da_cons (dc_str) (da_nil))) (da_nil))) (da_cons (de_tup (da_nil)) (da_nil)))) (da_cons (de_tup (da_cons (de_tup (da_cons (de_tup (da_cons (dc_str) (da_cons (de_tup (da_cons (dc_str) (da_nil))) (da_nil)))) (da_nil))) (da_cons (de_tup (da_cons (de_tup (da_cons (dc_str) (da_cons (de_tup (da_cons (dc_str) (da_cons (dc_str) (da_nil)))) (da_nil)))) (da_nil))) (da_nil)))) (da_cons (de_tup (da_cons (de_tup (da_nil)) (da_cons (de_tup (da_nil)) (da_cons (de_tup (da_nil)) (da_nil))))) (da_cons (de_tup (da_cons (de_tup (da_cons (de_tup (da_cons (dc_str) (da_cons (dc_none) (da_nil)))) (da_nil))) (da_cons (de_tup (da_nil)) (da_nil)))) (da_nil)))))))) (dss_one (ds_ret (de_cmp (op_eqG hK hu) (de_F (df_lc [("book_here", 4)] rfl sc__law_ends.nd (di_seq hK (dv 3)) (show blkC N__law_ends (defScope d__law_ends) _ _ = true by decide +kernel) (fun _ _ _ _ _ => dg_name sc__law_ends.nd rfl (by first | exact Or.inl rfl | exact Or.inr rfl)) (fun _ _ _ _ _ => dts_one (dt_not (dt_tru hK (de_callD hK H__law_is (hr.mono (by omega)) rfl (da_cons (de_callD hK H_is_book (hr.mono (by omega)) rfl (da_cons (dv 4) (da_nil))) (da_cons (dc_bool) (da_nil))))))) (fun _ _ _ _ _ => dv 4) (by decide))) (de_lst (da_nil)) rfl))))))))))
abbrev D__law_ends (P : Program) (w : World) (K : PySem.W.Frag) (mg : Str → Option Value) (base : Heap) : Prop := Def P w K mg base 4 "_law_ends" "_law_ends" d__law_ends [] (spF K 0 m__law_ends)
theorem mk__law_ends {f : Addr} {fd : FuncData} (B : BI mg) (Cn : CN mg) (H__law_is : D__law_is P w K mg base) (H_is_book : D_is_book P w K mg base) (Fn : Fun K "_law_ends" "_law_ends" d__law_ends f fd) (hm : mg "_law_ends" = some (.ref f)) : D__law_ends P w K mg base :=
  ⟨⟨f, fd, fnA Fn sc__law_ends (b__law_ends B Cn H__law_is H_is_book), hm, Fn⟩, fun _ _ _ _ _ _ us hl => match us, hl with | [], _ => rfl⟩
abbrev d_law : Stmt := topS 22
abbrev N_law : List Str := ["script", "town", "book_here", "standing", "odd", "at", "person", "likes", "house", "row", "other", "due", "thing_here"]
theorem sc_law : FnScope N_law ["script"] (defScope d_law) := ⟨rfl, rfl, rfl, by decide +kernel, rfl, by decide +kernel, by decide +kernel⟩
def F_law : FS := sSeq (sBg 1) (sSeq (sAsg (eCallT 2 m__law_a_book (aCons (eVar 0) (aCons (eVar 1) (aCons (eC (.int 4)) (aCons (eC (.int 4)) (aNil)))))) (put 2)) (sSeq (sAsg (eCallT 1 m__law_a_standing (aCons (eVar 0) (aCons (eVar 1) (aCons (eVar 2) (aNil))))) (put 3)) (sSeq (sIf (orT (notT (truR (eCall 2 m__law_is (aCons (eCall 1 m_is_book (aApp aNil (aCons (eVar 2) (aNil)))) (aCons (eC (.bool true)) (aNil)))))) (notT (truR (eCall 2 m__law_is (aCons (eCall 2 m_is_standing (aApp (aCons (eVar 2) (aNil)) (aCons (eVar 3) (aNil)))) (aCons (eC (.bool true)) (aNil))))))) (sRet (eC (.bool false))) (sNil)) (sSeq (sIf (toT (e2 (op2 neD) (ofF (fLc (iSeq (eCall 1 m__law_spoilt (aCons (eVar 2) (aNil)))) (put 12) (notT (truR (eCall 2 m__law_is (aCons (eCall 1 m_is_book (aCons (eVar 12) (aNil))) (aCons (eC (.bool false)) (aNil)))))) (eVar 12) [12])) (ofF (fLst (aNil))))) (sRet (eC (.bool false))) (sNil)) (sSeq (sFor (iSeq (eCall 1 m__law_spoilt (aCons (eVar 3) (aNil)))) (put 4) (sIf (notT (truR (eCall 2 m__law_is (aCons (eCall 2 m_is_standing (aCons (eVar 2) (aCons (eVar 4) (aNil)))) (aCons (eC (.bool false)) (aNil)))))) (sRet (eC (.bool false))) (sNil))) (sSeq (sIf (orT (toT (e2 (op2 neD) (eCall 1 m_nowhere (aApp aNil (aCons (eVar 2) (aNil)))) (e2 (op2 mulD) (eTup (aCons (eC .none) (aNil))) (eB (b1 lenD) (aCons (e2 (op2 idxD) (eVar 2) (eC (.int 1))) (aNil)))))) (notT (truR (eCall 2 m_is_standing (aCons (eVar 2) (aCons (eCall 1 m_nowhere (aCons (eVar 2) (aNil))) (aNil))))))) (sRet (eC (.bool false))) (sNil)) (sSeq (sFor (iEn (e2 (op2 idxD) (eVar 2) (eC (.int 1)))) (gT 2 (gC (put 5) (gC (gT 2 (gC (put 6) (gC (put 7) (gN)))) (gN)))) (sFor (iSeq (e2 (op2 idxD) (eVar 2) (eC (.int 0)))) (gT 2 (gC (put 8) (gC (put 9) (gN)))) (sSeq (sAsg (e2 (op2 addD) (e2 (op2 addD) (eSl (eVar 3) (oNone) (oSome (eVar 5))) (eTup (aCons (eVar 8) (aNil)))) (eSl (eVar 3) (oSome (e2 (op2 addD) (eVar 5) (eC (.int 1)))) (oNone))) (put 10)) (sSeq (sAsg (andE (e2 (op2 inD) (eVar 8) (eVar 7)) (andE (e2 (op2 inD) (eVar 6) (eVar 9)) (e2 (op2 ninD) (eVar 8) (e2 (op2 addD) (eSl (eVar 3) (oNone) (oSome (eVar 5))) (eSl (eVar 3) (oSome (e2 (op2 addD) (eVar 5) (eC (.int 1)))) (oNone)))))) (put 11)) (sIf (notT (truR (eCall 2 m__law_is (aCons (eCall 2 m_is_standing (aCons (eVar 2) (aCons (eVar 10) (aNil)))) (aCons (eVar 11) (aNil)))))) (sRet (eC (.bool false))) (sNil)))))) (sSeq (sFor (iSeq (eTup (aCons (eC .none) (aCons (eTup (aNil)) (aCons (e2 (op2 addD) (eVar 3) (eTup (aCons (eC .none) (aNil)))) (aCons (eSl (eVar 3) (oSome (eC (.int 1))) (oNone)) (aCons (e2 (op2 mulD) (eTup (aCons (eC (.str "zz")) (aNil))) (eB (b1 lenD) (aCons (eVar 3) (aNil)))) (aNil)))))))) (put 4) (sIf (notT (truR (eCall 2 m__law_is (aCons (eCall 2 m_is_standing (aCons (eVar 2) (aCons (eVar 4) (aNil)))) (aCons (e2 (op2 eqD) (eVar 4) (eVar 3)) (aNil)))))) (sRet (eC (.bool false))) (sNil))) (sRet (eCall 0 m__law_ends aNil))))))))))
def m_law : List Int → Option D := runL 13 F_law
theorem b_law {f : Addr} (B : BI mg) (Cn : CN mg) (H__law_begun : D__law_begun P w K mg base) (H__law_a_book : D__law_a_book P w K mg base) (H__law_a_standing : D__law_a_standing P w K mg base) (H__law_is : D__law_is P w K mg base) (H_is_book : D_is_book P w K mg base) (H_is_standing : D_is_standing P w K mg base) (H__law_spoilt : D__law_spoilt P w K mg base) (H_nowhere : D_nowhere P w K mg base) (H__law_ends : D__law_ends P w K mg base) : BodyOkL P w K mg base N_law "law" d_law f 7 F_law := fun C cdv A outer s H E hK ht hr => by
  have hu := hr.units
  have hu1 := hu_of hr
  exact dss_cons (ds_bgD hK ht sc_law.nd rfl (by first | exact Or.inl rfl | exact Or.inr rfl) H__law_begun (hr.mono (by omega)) rfl) (dss_cons (ds_set sc_law.nd rfl (by first | exact Or.inl rfl | exact Or.inr rfl) (de_callTD hK H__law_a_book (hr.mono (by omega)) rfl (da_cons (dv 0) (da_cons (dv 1) (da_cons (dc_int) (da_cons (dc_int) (da_nil))))))) (dss_cons (ds_set sc_law.nd rfl (by first | exact Or.inl rfl | exact Or.inr rfl) (de_callTD hK H__law_a_standing (hr.mono (by omega)) rfl (da_cons (dv 0) (da_cons (dv 1) (da_cons (dv 2) (da_nil)))))) (dss_cons (ds_if (PW.pt (dw_or (dt_not (dt_tru hK (de_callD hK H__law_is (hr.mono (by omega)) rfl (da_cons (de_callKD0 hK H_is_book (hr.mono (by omega)) rfl (show KwOk "is_book" d_is_book ["thing"] ["thing"] 0 from ⟨rfl, by simp, fun _ _ _ _ _ _ us ws h1 h2 => match us, ws, h1, h2 with | [], [_], _, _ => rfl⟩) (dk_cons (dv 2) (dk_nil))) (da_cons (dc_bool) (da_nil)))))) (dw_or1 (dt_not (dt_tru hK (de_callD hK H__law_is (hr.mono (by omega)) rfl (da_cons (de_callKD hK H_is_standing (hr.mono (by omega)) rfl (show KwOk "is_standing" d_is_standing ["book", "thing"] ["thing"] 1 from ⟨rfl, by simp, fun _ _ _ _ _ _ us ws h1 h2 => match us, ws, h1, h2 with | [_], [_], _, _ => rfl⟩) (da_cons (dv 2) (da_nil)) (dk_cons (dv 3) (dk_nil)) (aCons_n (fun _ _ _ h => aNil_n h))) (da_cons (dc_bool) (da_nil))))))))) (dss_one (ds_ret (dc_bool))) (dss_nil)) (dss_cons (ds_if (dt_cmp (op_neG hK hu) (de_F (df_lc [("thing_here", 12)] rfl sc_law.nd (di_seq hK (de_callD hK H__law_spoilt (hr.mono (by omega)) rfl (da_cons (dv 2) (da_nil)))) (show blkC N_law (defScope d_law) _ _ = true by decide +kernel) (fun _ _ _ _ _ => dg_name sc_law.nd rfl (by first | exact Or.inl rfl | exact Or.inr rfl)) (fun _ _ _ _ _ => dts_one (dt_not (dt_tru hK (de_callD hK H__law_is (hr.mono (by omega)) rfl (da_cons (de_callD hK H_is_book (hr.mono (by omega)) rfl (da_cons (dv 12) (da_nil))) (da_cons (dc_bool) (da_nil))))))) (fun _ _ _ _ _ => dv 12) (by decide))) (de_lst (da_nil)) rfl) (dss_one (ds_ret (dc_bool))) (dss_nil)) (dss_cons (ds_for PassesOwn.never rfl (di_seq hK (de_callD hK H__law_spoilt (hr.mono (by omega)) rfl (da_cons (dv 3) (da_nil)))) (dg_name sc_law.nd rfl (by first | exact Or.inl rfl | exact Or.inr rfl)) (dss_one (ds_if (dt_not (dt_tru hK (de_callD hK H__law_is (hr.mono (by omega)) rfl (da_cons (de_callD hK H_is_standing (hr.mono (by omega)) rfl (da_cons (dv 2) (da_cons (dv 4) (da_nil)))) (da_cons (dc_bool) (da_nil)))))) (dss_one (ds_ret (dc_bool))) (dss_nil)))) (dss_cons (ds_if (PW.pt (dw_or (dt_cmp (op_neG hK hu) (de_callKD0 hK H_nowhere (hr.mono (by omega)) rfl (show KwOk "nowhere" d_nowhere ["book"] ["book"] 0 from ⟨rfl, by simp, fun _ _ _ _ _ _ us ws h1 h2 => match us, ws, h1, h2 with | [], [_], _, _ => rfl⟩) (dk_cons (dv 2) (dk_nil))) (de_op (op_mulG hK) (de_tup (da_cons (dc_none) (da_nil))) (de_callB (cr_len hK) rfl B.len (by decide +kernel) (da_cons (de_ix hK (dv 2) (dc_int) (fun _ _ => rfl)) (da_nil)))) rfl) (dw_or1 (dt_not (dt_tru hK (de_callD hK H_is_standing (hr.mono (by omega)) rfl (da_cons (dv 2) (da_cons (de_callD hK H_nowhere (hr.mono (by omega)) rfl (da_cons (dv 2) (da_nil))) (da_nil))))))))) (dss_one (ds_ret (dc_bool))) (dss_nil)) (dss_cons (ds_for PassesOwn.never rfl (di_enum hK rfl B.enumerate (de_ix hK (dv 2) (dc_int) (fun _ _ => rfl))) (dg_tup hK rfl (dgs_cons (dg_name sc_law.nd rfl (by first | exact Or.inl rfl | exact Or.inr rfl)) (dgs_cons (dg_tup hK rfl (dgs_cons (dg_name sc_law.nd rfl (by first | exact Or.inl rfl | exact Or.inr rfl)) (dgs_cons (dg_name sc_law.nd rfl (by first | exact Or.inl rfl | exact Or.inr rfl)) (dgs_nil)))) (dgs_nil)))) (dss_one (ds_for PassesOwn.never rfl (di_seq hK (de_ix hK (dv 2) (dc_int) (fun _ _ => rfl))) (dg_tup hK rfl (dgs_cons (dg_name sc_law.nd rfl (by first | exact Or.inl rfl | exact Or.inr rfl)) (dgs_cons (dg_name sc_law.nd rfl (by first | exact Or.inl rfl | exact Or.inr rfl)) (dgs_nil)))) (dss_cons (ds_set sc_law.nd rfl (by first | exact Or.inl rfl | exact Or.inr rfl) (de_op (op_addG hK) (de_op (op_addG hK) (de_sl hK (dv 3) (do_none) (do_some (dv 5))) (de_tup (da_cons (dv 8) (da_nil)))) (de_sl hK (dv 3) (do_some (de_op (op_addG hK) (dv 5) (dc_int))) (do_none)))) (dss_cons (ds_set sc_law.nd rfl (by first | exact Or.inl rfl | exact Or.inr rfl) (de_and hK (de_cmp (op_inG hK hu) (dv 8) (dv 7) rfl) (de_and hK (de_cmp (op_inG hK hu) (dv 6) (dv 9) rfl) (de_one (de_cmp (op_ninG hK hu) (dv 8) (de_op (op_addG hK) (de_sl hK (dv 3) (do_none) (do_some (dv 5))) (de_sl hK (dv 3) (do_some (de_op (op_addG hK) (dv 5) (dc_int))) (do_none))) rfl))))) (dss_one (ds_if (dt_not (dt_tru hK (de_callD hK H__law_is (hr.mono (by omega)) rfl (da_cons (de_callD hK H_is_standing (hr.mono (by omega)) rfl (da_cons (dv 2) (da_cons (dv 10) (da_nil)))) (da_cons (dv 11) (da_nil)))))) (dss_one (ds_ret (dc_bool))) (dss_nil)))))))) (dss_cons (ds_for PassesOwn.never rfl (di_seq hK (de_tup (da_cons (dc_none) (da_cons (de_tup (da_nil)) (da_cons (de_op (op_addG hK) (dv 3) (de_tup (da_cons (dc_none) (da_nil)))) (da_cons (de_sl hK (dv 3) (do_some (dc_int)) (do_none)) (da_cons (de_op (op_mulG hK) (de_tup (da_cons (dc_str) (da_nil))) (de_callB (cr_len hK) rfl B.len (by decide +kernel) (da_cons (dv 3) (da_nil)))) (da_nil)))))))) (dg_name sc_law.nd rfl (by first | exact Or.inl rfl | exact Or.inr rfl)) (dss_one (ds_if (dt_not (dt_tru hK (de_callD hK H__law_is (hr.mono (by omega)) rfl (da_cons (de_callD hK H_is_standing (hr.mono (by omega)) rfl (da_cons (dv 2) (da_cons (dv 4) (da_nil)))) (da_cons (de_cmp (op_eqG hK hu) (dv 4) (dv 3) rfl) (da_nil)))))) (dss_one (ds_ret (dc_bool))) (dss_nil)))) (dss_one (ds_ret (de_callD0 hK H__law_ends (hr.mono (by omega)) rfl)))))))))))
abbrev D_law (P : Program) (w : World) (K : PySem.W.Frag) (mg : Str → Option Value) (base : Heap) : Prop := Def P w K mg base 8 "law" "law" d_law ["script"] (spL K m_law)
theorem mk_law {f : Addr} {fd : FuncData} (B : BI mg) (Cn : CN mg) (H__law_begun : D__law_begun P w K mg base) (H__law_a_book : D__law_a_book P w K mg base) (H__law_a_standing : D__law_a_standing P w K mg base) (H__law_is : D__law_is P w K mg base) (H_is_book : D_is_book P w K mg base) (H_is_standing : D_is_standing P w K mg base) (H__law_spoilt : D__law_spoilt P w K mg base) (H_nowhere : D_nowhere P w K mg base) (H__law_ends : D__law_ends P w K mg base) (Fn : Fun K "law" "law" d_law f fd) (hm : mg "law" = some (.ref f)) : D_law P w K mg base :=
  ⟨⟨f, fd, fnL Fn sc_law (b_law B Cn H__law_begun H__law_a_book H__law_a_standing H__law_is H_is_book H_is_standing H__law_spoilt H_nowhere H__law_ends), hm, Fn⟩, fun _ _ _ _ _ _ us hl => match us, hl with | [_], _ => rfl⟩
end
end W
namespace DL
open PySem L2

/-! ### how the mirrors reckon: f at ρ gives v, and ρ stays -/
def Ev (f : FE) (ρ : Rho) (v : D) : Prop := f ρ = some (.d v, ρ)
def Et (f : FT) (ρ : Rho) (b : Bool) : Prop := f ρ = some (b, ρ)
def Ea (f : FA) (ρ : Rho) (vs : List D) : Prop := f ρ = some (vs.map R.d, ρ)
def Ef (f : FF) (ρ : Rho) (vs : List D) : Prop := f ρ = some (vs, ρ)
def Ei (f : FI) (ρ : Rho) (rs : List R) : Prop := f ρ = some (rs, ρ)
/-- f at ρ gives what stands for v -/
def Ex (f : FE) (ρ : Rho) (v : D) : Prop := ∃ r, f ρ = some (r, ρ) ∧ rdo ρ r = some v
def Eax (f : FA) (ρ : Rho) (vs : List D) : Prop := ∃ rs, f ρ = some (rs, ρ) ∧ rdos ρ rs = some vs ∧ rs.length = vs.length
section
variable {ρ : Rho} {f g h : FE} {t u : FT} {x y z v : D} {a b c : Bool}
theorem Ev.ex (h : Ev f ρ v) : Ex f ρ v := ⟨_, h, rfl⟩
theorem ex_own {i : Nat} {xs : List D} (h : ρ[i]? = some (some (.l xs))) : Ex (eVar i) ρ (.list xs) := by
  refine ⟨.own i, ?_, ?_⟩
  · unfold eVar
    rw [h]
  · simp [rdo, h]
theorem ex_r {i : Nat} {xs : List D} (h : ρ[i]? = some (some (.r xs))) : Ex (eVar i) ρ (.list xs) := by
  refine ⟨.own i, ?_, ?_⟩
  · unfold eVar
    rw [h]
  · simp [rdo, h]
theorem ev_var {i : Nat} (h : ρ[i]? = some (some (.d v))) : Ev (eVar i) ρ v := by
  unfold Ev eVar
  rw [h]
theorem ev_c : Ev (eC v) ρ v := rfl
theorem ex_op {k : D → D → Option D} (hf : Ex f ρ x) (hg : Ex g ρ y) (hk : k x y = some z) : Ev (e2 (op2 k) f g) ρ z := by
  obtain ⟨r, h1, h2⟩ := hf
  obtain ⟨q, h3, h4⟩ := hg
  unfold Ev e2 op2
  simp [h1, h2, h3, h4, hk]
theorem ev_op {k : D → D → Option D} (hf : Ev f ρ x) (hg : Ev g ρ y) (hk : k x y = some z) : Ev (e2 (op2 k) f g) ρ z := ex_op hf.ex hg.ex hk
theorem ev_if (ht : Et t ρ b) (hf : b = true → Ev f ρ v) (hg : b = false → Ev g ρ v) : Ev (ifE t f g) ρ v := by
  unfold Ev ifE Et at *
  rw [ht]
  cases b with
  | true => exact hf rfl
  | false => exact hg rfl
theorem ev_and (hf : Ev f ρ (.bool a)) (hg : a = true → Ev g ρ (.bool b)) : Ev (andE f g) ρ (.bool (a && b)) := by
  unfold Ev andE at *
  rw [hf]
  cases a with
  | true => simpa [rdo, truD] using hg rfl
  | false => simp [rdo, truD]
theorem ev_or (hf : Ev f ρ (.bool a)) (hg : a = false → Ev g ρ (.bool b)) : Ev (orE f g) ρ (.bool (a || b)) := by
  unfold Ev orE at *
  rw [hf]
  cases a with
  | true => simp [rdo, truD]
  | false => simpa [rdo, truD] using hg rfl
theorem et_trux (hf : Ex f ρ x) (hx : truD x = some b) : Et (truR f) ρ b := by
  obtain ⟨r, h1, h2⟩ := hf
  unfold Et truR
  simp [h1, h2, hx]
theorem et_tru (hf : Ev f ρ x) (hx : truD x = some b) : Et (truR f) ρ b := et_trux hf.ex hx
theorem et_bool (hf : Ev f ρ (.bool b)) : Et (truR f) ρ b := et_tru hf rfl
theorem et_toT (hf : Ev f ρ (.bool b)) : Et (toT f) ρ b := by
  unfold Et toT Ev at *
  rw [hf]
theorem et_not (ht : Et t ρ b) : Et (notT t) ρ (!b) := by
  unfold Et notT at *
  rw [ht]
  rfl
theorem et_and (ht : Et t ρ a) (hu : a = true → Et u ρ b) : Et (andT t u) ρ (a && b) := by
  unfold Et andT at *
  rw [ht]
  cases a with
  | true => simpa using hu rfl
  | false => rfl
theorem et_or (ht : Et t ρ a) (hu : a = false → Et u ρ b) : Et (orT t u) ρ (a || b) := by
  unfold Et orT at *
  rw [ht]
  cases a with
  | true => rfl
  | false => simpa using hu rfl
theorem ev_not (hf : Ev f ρ x) (hx : truD x = some b) : Ev (notE f) ρ (.bool (!b)) := by
  unfold Ev notE
  rw [show truR f ρ = some (b, ρ) from et_tru hf hx]
  rfl
theorem ev_isi {T : String} (hf : Ev f ρ x) (hx : isD T x = some y) : Ev (eIsi T f) ρ y := by
  unfold Ev eIsi at *
  simp [hf, rdo, hx]
theorem ev_isN (hf : Ev f ρ x) : Ev (isNd f) ρ (.bool (isNone x)) := by
  unfold Ev isNd at *
  rw [hf]
theorem ev_isnN (hf : Ev f ρ x) : Ev (isnNd f) ρ (.bool (!isNone x)) := by
  unfold Ev isnNd at *
  rw [hf]
theorem ea_nil : Ea aNil ρ [] := rfl
theorem ea_cons {k : FA} {vs : List D} (hf : Ev f ρ x) (hk : Ea k ρ vs) : Ea (aCons f k) ρ (x :: vs) := by
  unfold Ea aCons Ev at *
  simp [hf, hk]
theorem ea_app {k l : FA} {vs ws : List D} (hk : Ea k ρ vs) (hl : Ea l ρ ws) : Ea (aApp k l) ρ (vs ++ ws) := by
  unfold Ea aApp at *
  simp [hk, hl]
theorem pls_map (vs : List D) : pls (vs.map R.d) = some vs := by
  induction vs with
  | nil => rfl
  | cons v vs ih => simp [pls, ih]
theorem rdos_map (vs : List D) : rdos ρ (vs.map R.d) = some vs := by
  induction vs with
  | nil => rfl
  | cons v vs ih => simp [rdos, rdo, ih]
theorem ev_tup {k : FA} {vs : List D} (hk : Ea k ρ vs) (hz : vs.length ≤ sizeLine) : Ev (eTup k) ρ (.tuple vs) := by
  unfold Ev eTup Ea at *
  simp [hk, pls_map, hz]
theorem ef_lst {k : FA} {vs : List D} (hk : Ea k ρ vs) (hz : vs.length ≤ sizeLine) : Ef (fLst k) ρ vs := by
  unfold Ef fLst Ea at *
  simp [hk, pls_map, hz]
theorem ev_F {k : FF} {vs : List D} (hk : Ef k ρ vs) : Ev (ofF k) ρ (.list vs) := by
  unfold Ev ofF Ef at *
  simp [hk]
theorem ex_b1 {k : D → Option D} (hf : Ex f ρ x) (hx : k x = some y) : Ev (eB (b1 k) (aCons f aNil)) ρ y := by
  obtain ⟨r, h1, h2⟩ := hf
  unfold Ev eB aCons aNil b1
  simp [h1, h2, hx]
theorem ev_b1 {k : D → Option D} (hf : Ev f ρ x) (hx : k x = some y) : Ev (eB (b1 k) (aCons f aNil)) ρ y := ex_b1 hf.ex hx
theorem eax_nil : Eax aNil ρ [] := ⟨[], rfl, rfl, rfl⟩
theorem eax_cons {k : FA} {vs : List D} (hf : Ex f ρ x) (hk : Eax k ρ vs) : Eax (aCons f k) ρ (x :: vs) := by
  obtain ⟨r, h1, h2⟩ := hf
  obtain ⟨rs, h3, h4, h5⟩ := hk
  refine ⟨r :: rs, ?_, ?_, by simp [h5]⟩
  · unfold aCons
    simp [h1, h3]
  · simp [rdos, h2, h4]
theorem ex_call {n : Nat} {m : List D → Option D} {k : FA} {vs : List D} (hk : Eax k ρ vs) (hn : vs.length = n) (hm : m vs = some v) : Ev (eCall n m k) ρ v := by
  obtain ⟨rs, h1, h2, h3⟩ := hk
  unfold Ev eCall
  simp [h1, h2, h3, hn, hm]
theorem ev_call {n : Nat} {m : List D → Option D} {k : FA} {vs : List D} (hk : Ea k ρ vs) (hn : vs.length = n) (hm : m vs = some v) : Ev (eCall n m k) ρ v := by
  unfold Ev eCall Ea at *
  simp [hk, hn, rdos_map, hm]
theorem ev_ch {k l : D → D → Option D} (hf : Ev f ρ x) (hg : Ev g ρ y) (hh : Ev h ρ z) (hk : k x y = some (.bool a)) (hl : l y z = some (.bool b)) : Ev (chE (op2 k) (op2 l) f g h) ρ (.bool (a && b)) := by
  unfold Ev chE op2 at *
  cases a with
  | true => simp [hf, hg, hh, rdo, hk, hl]
  | false => simp [hf, hg, rdo, hk]
theorem ex_lenZ {n : Nat} (hf : Ex f ρ x) (hx : setD x = some n) : Ev (eLenZ (zSet f)) ρ (.int n) := by
  obtain ⟨r, h1, h2⟩ := hf
  unfold Ev eLenZ zSet
  simp [h1, h2, hx]
theorem ev_lenZ {n : Nat} (hf : Ev f ρ x) (hx : setD x = some n) : Ev (eLenZ (zSet f)) ρ (.int n) := ex_lenZ hf.ex hx
theorem ev_sl {lo hi : FO} {l u : Option Int} (hf : Ev f ρ x) (hl : lo ρ = some (l, ρ)) (hu : hi ρ = some (u, ρ)) (hc : cutD l u x = some y) : Ev (eSl f lo hi) ρ y := by
  unfold Ev eSl at *
  simp [hf, hl, hu, rdo, hc]
theorem o_none : oNone ρ = some (none, ρ) := rfl
theorem o_some {i : Int} (hf : Ev f ρ (.int i)) : oSome f ρ = some (some i, ρ) := by
  unfold oSome
  rw [show f ρ = some (.d (.int i), ρ) from hf]
theorem ev_dget {k : FE} {kvs : List (Str × D)} {s : Str} (hf : Ev f ρ x) (hd : dictD x = some kvs) (hn : (kvs.map (·.1)).Nodup) (hz : kvs.length ≤ sizeLine) (hk : Ev k ρ (.str s)) (hl : lkp kvs s = some v) : Ev (eDGet (mDict f) k) ρ v := by
  unfold Ev eDGet mDict at *
  simp [hf, rdo, hd, hn, hz, hk, hl]
theorem ev_mget {i : Nat} {kvs : List (Str × D)} {s : Str} (hi : ρ[i]? = some (some (.m kvs))) (hf : Ev f ρ (.str s)) (hl : lkp kvs s = some v) : Ev (eMGet' i f) ρ v := by
  unfold Ev eMGet' eMGet at *
  have hm : mAt i ρ = some kvs := by
    unfold mAt
    rw [hi]
  simp [hm, hf, hl]
/-! iterators -/
theorem ei_seq {xs : List D} (hf : Ev f ρ x) (hx : seqD x = some xs) : Ei (iSeq f) ρ (xs.map R.d) := by
  unfold Ei iSeq Ev at *
  simp [hf, out1, hx]
theorem ei_str {s : Str} (hf : Ev f ρ (.str s)) : Ei (iStrD f) ρ (s.cps.toList.map fun c => R.d (.str ⟨#[c]⟩)) := by
  unfold Ei iStrD Ev at *
  rw [hf]
theorem ei_zip {xs ys : List D} (hf : Ev f ρ x) (hg : Ev g ρ y) (hx : seqD x = some xs) (hy : seqD y = some ys) : Ei (iZp f g) ρ ((xs.zip ys).map fun z => R.w [z.1, z.2]) := by
  unfold Ei iZp Ev at *
  simp [hf, hg, out1, hx, hy]
theorem ei_enum {xs : List D} (hf : Ev f ρ x) (hx : seqD x = some xs) : Ei (iEn f) ρ (enumD 0 xs) := by
  unfold Ei iEn Ev at *
  simp [hf, out1, hx]
theorem ei_own {i : Nat} {xs : List D} (h : ρ[i]? = some (some (.d (.list xs)))) : Ei (iSeq (eVar i)) ρ (xs.map R.d) := ei_seq (ev_var h) rfl
/-! comprehensions -/
theorem lcD_eq {g : FG} {ft : FT} {fe : FE} {vs : List Nat} {r : R} {rs : List R} : lcD g ft fe vs (r :: rs) ρ = (g r ρ).bind fun ρ1 => (ft ρ1).bind fun p => if p.1 = true then
      (fe p.2).bind fun q => (out1 q.1 q.2).bind fun u => if okW u.2 vs = true then (lcD g ft fe vs rs (wpR u.2 vs)).map fun w => (u.1 :: w.1, w.2) else none
    else if okW p.2 vs = true then lcD g ft fe vs rs (wpR p.2 vs) else none := by rw [lcD]
theorem lcD_all {g : FG} {vs : List Nat} {α : Type} (k : α → R) (st : α → Rho) (p : α → Bool) (o : α → D) (hg : ∀ a, g (k a) ρ = some (st a)) (hw : ∀ a, wpR (st a) vs = ρ) (ok : ∀ a, okW (st a) vs = true) :
    ∀ {l : List α}, (∀ a ∈ l, Et t (st a) (p a)) → (∀ a ∈ l, p a = true → Ev f (st a) (o a)) → lcD g t f vs (l.map k) ρ = some ((l.filter p).map o, ρ)
  | [], _, _ => rfl
  | a :: l, h1, h2 => by
    have ih := lcD_all k st p o hg hw ok (l := l) (fun b hb => h1 b (List.mem_cons_of_mem _ hb)) (fun b hb => h2 b (List.mem_cons_of_mem _ hb))
    rw [List.map_cons, lcD_eq, hg a]
    have e1 : t (st a) = some (p a, st a) := h1 a List.mem_cons_self
    simp only [Option.bind_some, e1]
    cases hp : p a with
    | true =>
      have e2 : f (st a) = some (.d (o a), st a) := h2 a List.mem_cons_self hp
      simp [e2, out1, ok a, hw a, ih, hp]
    | false => simp [ok a, hw a, ih, hp]
theorem rst_wp {vs : List Nat} (h : ∀ v ∈ vs, v < ρ.length) : rstR ρ (wpR ρ vs) vs = ρ := by
  refine List.ext_getElem? fun j => ?_
  by_cases hj : j ∈ vs
  · have hl := h j hj
    rw [(rstR_get ρ _ j vs).2 hj (by rw [wpR_len]; exact hl), List.getElem?_eq_getElem hl]
    simp
  · rw [(rstR_get ρ _ j vs).1 hj, (wpR_get ρ j vs).1 hj]
theorem ef_lc {fi : FI} {g : FG} {vs : List Nat} {α : Type} {l : List α} (k : α → R) (st : α → Rho) (p : α → Bool) (o : α → D) (hi : Ei fi ρ (l.map k)) (hv : ∀ v ∈ vs, v < ρ.length) (hok : okW ρ vs = true) (hz : l.length ≤ sizeLine)
    (hg : ∀ a, g (k a) (wpR ρ vs) = some (st a)) (hw : ∀ a, wpR (st a) vs = wpR ρ vs) (ok : ∀ a, okW (st a) vs = true) (h1 : ∀ a ∈ l, Et t (st a) (p a)) (h2 : ∀ a ∈ l, p a = true → Ev f (st a) (o a)) :
    Ef (fLc fi g t f vs) ρ ((l.filter p).map o) := by
  unfold Ef fLc
  rw [show fi ρ = some (l.map k, ρ) from hi]
  simp only [Option.bind_some]
  rw [if_pos ⟨hok, by simpa using hz⟩, lcD_all k st p o hg hw ok h1 h2]
  simp [rst_wp hv]
/-- one name -/
theorem ef_lc1 {fi : FI} {i : Nat} {xs : List D} (p : D → Bool) (o : D → D) (hi : Ei fi ρ (xs.map R.d)) (hl : i < ρ.length) (hok : okW ρ [i] = true) (hz : xs.length ≤ sizeLine)
    (h1 : ∀ a ∈ xs, Et t (ρ.set i (some (.d a))) (p a)) (h2 : ∀ a ∈ xs, p a = true → Ev f (ρ.set i (some (.d a))) (o a)) : Ef (fLc fi (put i) t f [i]) ρ ((xs.filter p).map o) := by
  have e : ∀ a : D, (wpR ρ [i]).set i (some (.d a)) = ρ.set i (some (.d a)) := fun a => by simp [wpR, List.set_set]
  refine ef_lc R.d (fun a => ρ.set i (some (.d a))) p o hi (fun v hv => by rw [List.mem_singleton.mp hv]; exact hl) hok hz (fun a => ?_) (fun a => ?_) (fun a => ?_) h1 h2
  · unfold put
    rw [wpR_len]
    simp [hl, e]
  · simp [wpR, List.set_set]
  · simp [okW, hl]
theorem filter_yes {α : Type} (l : List α) : l.filter (fun _ => true) = l := by simp
/-- one name, no test -/
theorem ef_lcm {fi : FI} {i : Nat} {xs : List D} (o : D → D) (hi : Ei fi ρ (xs.map R.d)) (hl : i < ρ.length) (hok : okW ρ [i] = true) (hz : xs.length ≤ sizeLine) (h2 : ∀ a ∈ xs, Ev f (ρ.set i (some (.d a))) (o a)) :
    Ef (fLc fi (put i) tYesT f [i]) ρ (xs.map o) := by
  have := ef_lc1 (t := tYesT) (fun _ => true) o hi hl hok hz (fun _ _ => rfl) fun a ha _ => h2 a ha
  rwa [filter_yes] at this
/-- two names of a pair -/
theorem ef_lc2 {fi : FI} {i j : Nat} {ps : List (D × D)} (k : D × D → R) (hk : (∀ q, k q = R.w [q.1, q.2]) ∨ (∀ q, k q = R.d (.tuple [q.1, q.2]))) (p : D × D → Bool) (o : D × D → D) (hi : Ei fi ρ (ps.map k)) (hij : i ≠ j) (hl : i < ρ.length) (hl2 : j < ρ.length) (hok : okW ρ [i, j] = true) (hz : ps.length ≤ sizeLine)
    (h1 : ∀ a ∈ ps, Et t ((ρ.set i (some (.d a.1))).set j (some (.d a.2))) (p a)) (h2 : ∀ a ∈ ps, p a = true → Ev f ((ρ.set i (some (.d a.1))).set j (some (.d a.2))) (o a)) : Ef (fLc fi (gT 2 (gC (put i) (gC (put j) gN))) t f [i, j]) ρ ((ps.filter p).map o) := by
  have e : ∀ a : D × D, ((wpR ρ [i, j]).set i (some (.d a.1))).set j (some (.d a.2)) = (ρ.set i (some (.d a.1))).set j (some (.d a.2)) := fun a => by
    refine List.ext_getElem? fun m => ?_
    simp only [wpR, List.getElem?_set, List.length_set]
    by_cases a1 : j = m <;> by_cases a2 : i = m <;> simp [a1, a2]
  refine ef_lc k (fun a => (ρ.set i (some (.d a.1))).set j (some (.d a.2))) p o hi (fun v hv => ?_) hok hz (fun a => ?_) (fun a => ?_) (fun a => ?_) h1 h2
  · rcases List.mem_cons.mp hv with h | h
    · rw [h]; exact hl
    · rw [List.mem_singleton.mp h]; exact hl2
  · have l1 : (wpR ρ [i, j]).length = ρ.length := wpR_len _ _
    rcases hk with hk | hk
    · rw [hk]
      simp [gT, gC, gN, put, l1, hl, hl2, e]
    · rw [hk]
      simp [gT, gC, gN, put, l1, hl, hl2, e]
  · refine List.ext_getElem? fun m => ?_
    simp only [wpR, List.getElem?_set, List.length_set]
    by_cases a1 : j = m <;> by_cases a2 : i = m <;> simp [a1, a2]
  · simp [okW, hl, hl2, hij, Ne.symm hij, List.getElem?_set]
/-! statements -/
theorem es_seq {k l : FS} {ρ1 : Rho} {o : Out} (h1 : k ρ = some (.next ρ1)) (h2 : l ρ1 = some o) : sSeq k l ρ = some o := by
  unfold sSeq
  rw [h1]
  exact h2
theorem es_stop {k l : FS} {d : D} {ρ1 : Rho} (h1 : k ρ = some (.ret d ρ1)) : sSeq k l ρ = some (.ret d ρ1) := by
  unfold sSeq
  rw [h1]
  rfl
theorem es_if {k l : FS} {o : Option Out} (ht : Et t ρ b) (hk : b = true → k ρ = o) (hl : b = false → l ρ = o) : sIf t k l ρ = o := by
  unfold sIf
  rw [show t ρ = some (b, ρ) from ht]
  cases b with
  | true => exact hk rfl
  | false => exact hl rfl
theorem es_ret (hf : Ev f ρ v) : sRet f ρ = some (.ret v ρ) := by
  unfold sRet
  rw [show f ρ = some (.d v, ρ) from hf]
  rfl
theorem es_nil : sNil ρ = some (.next ρ) := rfl
theorem es_set {i : Nat} (hf : Ev f ρ v) (hi : i < ρ.length) : sAsg f (put i) ρ = some (.next (ρ.set i (some (.d v)))) := by
  unfold sAsg
  rw [show f ρ = some (.d v, ρ) from hf]
  simp [out1, put, hi]
theorem es_own {i : Nat} {k : FF} {vs : List D} (hf : Ef k ρ vs) (hi : i < ρ.length) : sOwn i k ρ = some (.next (ρ.set i (some (.l vs)))) := by
  unfold sOwn
  rw [show k ρ = some (vs, ρ) from hf]
  simp [hi]
/-- if the test holds the def tells false; else it goes on -/
theorem es_guard {l : FS} {w : Bool} {ρ1 : Rho} {o : Option Out} (ht : Et t ρ b) (h0 : b = true → o = some (.ret (.bool w) ρ)) (h1 : b = false → l ρ = o) : sSeq (sIf t (sRet (eC (.bool w))) sNil) l ρ = o := by
  cases b with
  | true =>
    rw [h0 rfl]
    refine es_stop ?_
    unfold sIf
    rw [show t ρ = some (true, ρ) from ht]
    rfl
  | false =>
    unfold sSeq sIf
    rw [show t ρ = some (false, ρ) from ht]
    exact h1 rfl
theorem runA_of {n : Nat} {F : FS} {ds : List D} {ρ1 : Rho} (h : F (pad n (ds.map B.d)) = some (.ret v ρ1)) (hi : imm v = true) : runA n F ds = some v := by
  unfold runA
  rw [h]
  simp [endD, hi]
theorem runB_of {n : Nat} {F : FS} {ds : List D} {bs : List B} {ρ1 : Rho} (hb : bindArgs ds = some bs) (h : F (pad n bs) = some (.ret v ρ1)) : runB n F ds = some v := by
  unfold runB
  rw [hb]
  simp [h, endD]
/-! loops -/
theorem forD_eq {g : FG} {k : FS} {r : R} {rs : List R} : forD g k (r :: rs) ρ = (g r ρ).bind fun ρ1 => (k ρ1).bind fun o => match o with
    | .next ρ2 => forD g k rs ρ2
    | .cont ρ2 => forD g k rs ρ2
    | .brk ρ2 => some (.next ρ2)
    | .ret d ρ2 => some (.ret d ρ2) := by
  rw [forD] <;> rfl
theorem whileD_eq {k : FS} {n : Nat} : whileD t k (n + 1) ρ = (t ρ).bind fun p => if p.1 = true then (k p.2).bind fun o => match o with
    | .next ρ2 => whileD t k n ρ2
    | .cont ρ2 => whileD t k n ρ2
    | .brk ρ2 => some (.next ρ2)
    | .ret d ρ2 => some (.ret d ρ2) else some (.next p.2) := by
  rw [whileD] <;> rfl
end
end DL
namespace DL
open PySem L2
theorem es_asg2 {ρ : Rho} {f : FE} {x y : D} {i j : Nat} (hf : Ev f ρ (.tuple [x, y])) (hi : i < ρ.length) (hj : j < ρ.length) : sAsg f (gT 2 (gC (put i) (gC (put j) gN))) ρ = some (.next ((ρ.set i (some (.d x))).set j (some (.d y)))) := by
  unfold sAsg
  rw [show f ρ = some (.d (.tuple [x, y]), ρ) from hf]
  simp [out1, gT, gC, gN, put, hi, hj]
end DL
namespace DL
open PySem L2
theorem es_app {ρ : Rho} {f : FE} {v : D} {i : Nat} {xs : List D} (hi : ρ[i]? = some (some (.l xs))) (hf : Ev f ρ v) (hz : xs.length < sizeLine) : sApp i f ρ = some (.next (ρ.set i (some (.l (xs ++ [v]))))) := by
  have hm : ownAt i ρ = some xs := by
    unfold ownAt
    rw [hi]
  unfold sApp
  rw [hm, show f ρ = some (.d v, ρ) from hf]
  simp [out1, hm, hz]
theorem es_for {ρ : Rho} {fi : FI} {g : FG} {k : FS} {rs : List R} (h : Ei fi ρ rs) : sFor fi g k ρ = forD g k rs ρ := by
  unfold sFor
  rw [show fi ρ = some (rs, ρ) from h]
  rfl
theorem for_next {ρ ρ1 ρ2 : Rho} {g : FG} {k : FS} {r : R} {rs : List R} (hg : g r ρ = some ρ1) (hk : k ρ1 = some (.next ρ2)) : forD g k (r :: rs) ρ = forD g k rs ρ2 := by
  rw [forD_eq, hg]
  simp [hk]
end DL
namespace DL
open PySem L2
theorem es_ownM {ρ : Rho} {f : FE} {x : D} {i : Nat} {kvs : List (Str × D)} (hf : Ev f ρ x) (hd : dictD x = some kvs) (hn : (kvs.map (·.1)).Nodup) (hz : kvs.length ≤ sizeLine) (hi : i < ρ.length) : sOwnM i (mDict f) ρ = some (.next (ρ.set i (some (.m kvs)))) := by
  unfold sOwnM sPar xM xNil mDict
  rw [show f ρ = some (.d x, ρ) from hf]
  simp [rdo, hd, hn, hz, putX, hi]
end DL
namespace W
open PySem L2 DL
def isTup : D → Bool
  | .tuple _ => true
  | _ => false
def isStr : D → Bool
  | .str _ => true
  | _ => false
def isBool : D → Bool
  | .bool _ => true
  | _ => false
theorem kit1 : kitB "NoneType" "tuple" = some false ∧ kitB "bool" "tuple" = some false ∧ kitB "int" "tuple" = some false ∧ kitB "str" "tuple" = some false ∧ kitB "tuple" "tuple" = some true ∧ kitB "list" "tuple" = some false ∧ kitB "dict" "tuple" = some false := by decide +kernel
theorem kit2 : kitB "NoneType" "str" = some false ∧ kitB "bool" "str" = some false ∧ kitB "int" "str" = some false ∧ kitB "str" "str" = some true ∧ kitB "tuple" "str" = some false ∧ kitB "list" "str" = some false ∧ kitB "dict" "str" = some false := by decide +kernel
theorem kit3 : kitB "NoneType" "bool" = some false ∧ kitB "bool" "bool" = some true ∧ kitB "int" "bool" = some false ∧ kitB "str" "bool" = some false ∧ kitB "tuple" "bool" = some false ∧ kitB "list" "bool" = some false ∧ kitB "dict" "bool" = some false := by decide +kernel
theorem isD_tup (d : D) : isD "tuple" d = some (.bool (isTup d)) := by
  obtain ⟨h1, h2, h3, h4, h5, h6, h7⟩ := kit1
  cases d <;> simp [isD, tyN, isTup, h1, h2, h3, h4, h5, h6, h7]
theorem isD_str (d : D) : isD "str" d = some (.bool (isStr d)) := by
  obtain ⟨h1, h2, h3, h4, h5, h6, h7⟩ := kit2
  cases d <;> simp [isD, tyN, isStr, h1, h2, h3, h4, h5, h6, h7]
theorem isD_bool (d : D) : isD "bool" d = some (.bool (isBool d)) := by
  obtain ⟨h1, h2, h3, h4, h5, h6, h7⟩ := kit3
  cases d <;> simp [isD, tyN, isBool, h1, h2, h3, h4, h5, h6, h7]
theorem sizeL : sizeLine = 16777216 := sizeLine_eq
theorem allD_bools (bs : List Bool) : allD (.list (bs.map PyData.bool)) = some (.bool (bs.all id)) := by simp [allD, boolsOf_map]
theorem allD_map {α : Type} (f : α → Bool) (l : List α) : allD (.list (l.map fun a => PyData.bool (f a))) = some (.bool (l.all f)) := by
  have := allD_bools (l.map f)
  rw [List.map_map] at this
  rw [show (l.map fun a => PyData.bool (f a)) = l.map (PyData.bool ∘ f) from rfl, this]
  simp [List.all_map]
theorem anyD_map {α : Type} (f : α → Bool) (l : List α) : anyD (.list (l.map fun a => PyData.bool (f a))) = some (.bool (l.any f)) := by
  have e := boolsOf_map (l.map f)
  rw [List.map_map] at e
  show (boolsOf (l.map (PyData.bool ∘ f))).map _ = _
  rw [e]
  simp [List.any_map]

/-! ### nice data -/
def nice : Nat → D → Bool
  | 0, _ => false
  | _ + 1, .str s => decide (s.length ≤ 1000)
  | n + 1, .tuple xs => decide (xs.length ≤ 1000) && xs.all (nice n)
  | n + 1, .list xs => decide (xs.length ≤ 1000) && xs.all (nice n)
  | _ + 1, .dict _ => false
  | _ + 1, .none => true
  | _ + 1, .bool _ => true
  | _ + 1, .int _ => true

/-! ### is_name -/
def letters : List Nat := (("abcdefghijklmnopqrstuvwxyz" : Str)).cps.toList
def nameS (s : Str) : Bool := decide ((1 : Int) ≤ s.length) && decide ((s.length : Int) ≤ 8) && s.cps.toList.all fun c => decide (c ∈ letters)
def nameB : D → Bool
  | .str s => nameS s
  | _ => false
theorem name_str (s : Str) (hs : s.length ≤ 1000) : m_is_name [.str s] = some (.bool (nameS s)) := by
  have hz : s.length ≤ sizeLine := by rw [sizeL]; omega
  have hl : Ef (fLc (iStrD (eVar 0)) (put 1) tYesT (e2 (op2 inD) (eVar 1) (eC (.str "abcdefghijklmnopqrstuvwxyz"))) [1]) [some (.d (.str s)), none] ((s.cps.toList.map fun c => PyData.str ⟨#[c]⟩).map fun d => .bool (match d with | .str ⟨⟨[c]⟩⟩ => decide (c ∈ letters) | _ => false)) := by
    refine ef_lcm _ ?_ (by simp) rfl (by rw [List.length_map]; exact hz) fun d hd => ?_
    · have := ei_str (f := eVar 0) (ρ := [some (.d (.str s)), none]) (s := s) (ev_var rfl)
      rw [show (s.cps.toList.map fun c => R.d (.str ⟨#[c]⟩)) = (s.cps.toList.map fun c => PyData.str ⟨#[c]⟩).map R.d by rw [List.map_map]; rfl] at this
      exact this
    · obtain ⟨c, _, rfl⟩ := List.mem_map.mp hd
      exact ev_op (ev_var rfl) ev_c (by simp [inD, inB, signIn, letters])
  refine runA_of (ρ1 := [some (.d (.str s)), none]) (es_ret (v := .bool (nameS s)) ?_) rfl
  have e : nameS s = (true && ((decide ((1 : Int) ≤ s.length) && decide ((s.length : Int) ≤ 8)) && s.cps.toList.all fun c => decide (c ∈ letters))) := by simp [nameS]
  rw [e]
  refine ev_and (ev_isi (ev_var rfl) (isD_str _)) fun _ => ev_and (ev_ch ev_c (ev_b1 (y := .int s.length) (ev_var rfl) (by simp [lenD, hz])) ev_c rfl rfl) fun _ => ev_b1 (ev_F hl) ?_
  rw [List.map_map]
  exact allD_map _ _
theorem name_eq (d : D) (hd : nice 1 d = true ∨ isStr d = false) : m_is_name [d] = some (.bool (nameB d)) := by
  cases d with
  | str s => exact name_str s (by simpa [nice, isStr] using hd)
  | _ =>
    refine runA_of (ρ1 := [some (.d _), none]) (es_ret (v := .bool false) ?_) rfl
    exact ev_and (a := false) (b := false) (ev_isi (ev_var rfl) (isD_str _)) fun h => by cases h

/-! ### is_rising -/
def ltS (a b : Str) : Bool := decide (a.cps.toList < b.cps.toList)
def risingS (ss : List Str) : Bool := (ss.zip (ss.drop 1)).all fun p => ltS p.1 p.2
theorem cut_from {α : Type} (xs : List α) (k : Nat) : cutL xs (some (k : Int)) none = xs.drop k := by
  unfold cutL
  rw [HT.sIx_nat, HT.sIx_none]
  by_cases h : k ≤ xs.length
  · rw [Nat.min_eq_left h]
    exact List.take_of_length_le (by rw [List.length_drop]; omega)
  · rw [Nat.min_eq_right (by omega), List.drop_of_length_le (Nat.le_refl _), List.drop_of_length_le (by omega)]
    simp
theorem cut_to {α : Type} (xs : List α) (k : Nat) : cutL xs none (some (k : Int)) = xs.take k := by
  unfold cutL
  rw [HT.sIx_nat, HT.sIx_none]
  simp
theorem zip_strs (ss ts : List Str) : (ss.map PyData.str).zip (ts.map PyData.str) = (ss.zip ts).map fun p => (PyData.str p.1, PyData.str p.2) := by
  rw [List.zip_map]
  rfl
theorem rising_eq (ss : List Str) (hz : ss.length ≤ 1000) : m_is_rising [.list (ss.map .str)] = some (.bool (risingS ss)) := by
  refine runA_of (ρ1 := [some (.d (.list (ss.map .str))), none, none]) (es_ret (v := .bool (risingS ss)) ?_) rfl
  have hi : Ei (iZp (eVar 0) (eSl (eVar 0) (oSome (eC (.int 1))) oNone)) [some (.d (.list (ss.map .str))), none, none] (((ss.zip (ss.drop 1)).map fun p => (PyData.str p.1, PyData.str p.2)).map fun q => R.w [q.1, q.2]) := by
    have := ei_zip (f := eVar 0) (g := eSl (eVar 0) (oSome (eC (.int 1))) oNone) (ρ := [some (.d (.list (ss.map .str))), none, none]) (y := .list ((ss.map .str).drop 1)) (xs := ss.map .str) (ys := (ss.map .str).drop 1) (ev_var rfl) (ev_sl (ev_var rfl) (o_some ev_c) o_none (congrArg (fun l => some (PyData.list l)) (cut_from (ss.map PyData.str) 1))) rfl rfl
    rw [← List.map_drop, zip_strs] at this
    exact this
  have hl := ef_lc2 (t := tYesT) (f := e2 (op2 ltD) (eVar 1) (eVar 2)) (i := 1) (j := 2) (fun q => R.w [q.1, q.2]) (Or.inl fun _ => rfl) (fun _ => true) (fun q => .bool (match q with | (.str a, .str b) => ltS a b | _ => false)) hi (by decide) (by simp) (by simp) rfl (by simp [sizeL]; omega) (fun _ _ => rfl) fun a ha _ => by
    obtain ⟨p, _, rfl⟩ := List.mem_map.mp ha
    exact ev_op (ev_var rfl) (ev_var rfl) rfl
  refine ev_b1 (ev_F hl) ?_
  rw [filter_yes, List.map_map]
  exact allD_map _ _

/-! ### are_some -/
def strIn (ss : List Str) : D → Bool
  | .str s => decide (s ∈ ss)
  | _ => false
def txt : D → Str
  | .str s => s
  | _ => Str.empty
def distS (ss : List Str) : Bool := decide ((ddl (ss.map Sum.inr)).length = ss.length)
def someB (ss : List Str) : D → Bool
  | .tuple xs => xs.all (strIn ss) && distS (xs.map txt)
  | _ => false
theorem eqv_str (a b : Str) : PyData.eqv (.str a) (.str b) = decide (a = b) := by
  unfold PyData.eqv
  by_cases h : a = b <;> simp [h]
theorem any_str (ss : List Str) (s : Str) : ((ss.map PyData.str).any fun y => PyData.eqv y (.str s)) = decide (s ∈ ss) := by
  rw [List.any_map]
  induction ss with
  | nil => simp
  | cons t ts ih =>
    rw [List.any_cons, ih]
    show (PyData.eqv (.str t) (.str s) || _) = _
    rw [eqv_str]
    by_cases h : t = s
    · simp [h]
    · simp [h, Ne.symm h]
theorem depth_strs (ss : List Str) : PyData.depthAll (ss.map PyData.str) = 0 := by
  induction ss with
  | nil => rfl
  | cons s ss ih => simp [PyData.depthAll, PyData.depth, ih]
theorem in_strs (ss : List Str) (s : Str) : inD (.str s) (.list (ss.map .str)) = some (.bool (decide (s ∈ ss))) := by
  simp only [inD, inB]
  rw [if_pos (by rw [depth_strs]; decide), any_str]
  rfl
theorem in_strsT (ss : List Str) (s : Str) : inD (.str s) (.tuple (ss.map .str)) = some (.bool (decide (s ∈ ss))) := by
  simp only [inD, inB]
  rw [if_pos (by rw [depth_strs]; decide), any_str]
  rfl
theorem all_txt {ss : List Str} : ∀ {xs : List D}, xs.all (strIn ss) = true → xs = (xs.map txt).map PyData.str
  | [], _ => rfl
  | x :: xs, h => by
    rw [List.all_cons, Bool.and_eq_true] at h
    have ih := all_txt h.2
    cases x <;> simp [strIn] at h
    simp only [List.map_cons, txt]
    rw [← ih]
theorem eq_int (a b : Int) : eqD (.int a) (.int b) = some (.bool (decide (a = b))) := by
  unfold eqD
  rw [if_pos (show (PyData.int a).depth ≤ 60 by simp [PyData.depth])]
  unfold PyData.eqv
  by_cases h : a = b <;> simp [h]
theorem ne_int (a b : Int) : neD (.int a) (.int b) = some (.bool (!decide (a = b))) := by
  unfold neD
  rw [if_pos (show (PyData.int a).depth ≤ 60 by simp [PyData.depth])]
  unfold PyData.eqv
  by_cases h : a = b <;> simp [h]
theorem some_eq {n : Nat} (ss : List Str) (d : D) (hd : nice (n + 1) d = true) : m_are_some [.list (ss.map .str), d] = some (.bool (someB ss d)) := by
  refine runA_of (ρ1 := [some (.d (.list (ss.map .str))), some (.d d), none]) (v := .bool (someB ss d)) ?_ rfl
  show F_are_some [some (.d (.list (ss.map .str))), some (.d d), none] = _
  unfold F_are_some
  have hT : Et (truR (eIsi "tuple" (eVar 1))) [some (.d (.list (ss.map .str))), some (.d d), none] (isTup d) := et_bool (ev_isi (ev_var rfl) (isD_tup d))
  by_cases ht : isTup d = true
  · obtain ⟨xs, rfl⟩ : ∃ xs, d = .tuple xs := by
      cases d <;> simp [isTup] at ht
      exact ⟨_, rfl⟩
    have hz : xs.length ≤ 1000 := by
      simp [nice] at hd
      exact hd.1
    have hl : Ef (fLc (iSeq (eVar 1)) (put 2) tYesT (andE (eIsi "str" (eVar 2)) (e2 (op2 inD) (eVar 2) (eVar 0))) [2]) [some (.d (.list (ss.map .str))), some (.d (.tuple xs)), none] (xs.map fun x => .bool (strIn ss x)) := by
      refine ef_lcm _ (ei_seq (ev_var rfl) rfl) (by simp) rfl (by rw [sizeL]; omega) fun x _ => ?_
      cases x with
      | str s => exact ev_and (a := true) (ev_isi (ev_var rfl) (isD_str _)) fun _ => ev_op (ev_var rfl) (ev_var rfl) (in_strs ss s)
      | _ => exact ev_and (a := false) (b := false) (ev_isi (ev_var rfl) (isD_str _)) fun h => by cases h
    refine es_guard (ρ1 := []) (et_or (et_not hT) fun _ => et_not (et_bool (ev_b1 (ev_F hl) (allD_map _ _)))) (fun h => ?_) fun h => ?_
    · have : xs.all (strIn ss) = false := by simpa [isTup] using h
      simp [someB, this]
    · have ha : xs.all (strIn ss) = true := by simpa [isTup] using h
      refine es_ret ?_
      have hx := all_txt ha
      have hs : setD (.tuple xs) = some (ddl ((xs.map txt).map Sum.inr)).length := by
        rw [hx]
        simp only [setD, textsOf_map, Option.bind_some]
        rw [if_pos (by simp; omega)]
        simp [List.map_map, Function.comp_def, txt]
      have e : someB ss (.tuple xs) = decide (((ddl ((xs.map txt).map Sum.inr)).length : Int) = (xs.length : Int)) := by
        simp only [someB, ha, Bool.true_and, distS, List.length_map]
        exact decide_eq_decide.mpr (by omega)
      rw [e]
      exact ev_op (ev_lenZ (ev_var rfl) hs) (ev_b1 (y := .int xs.length) (ev_var rfl) rfl) (eq_int _ _)
  · have hf : isTup d = false := by simpa using ht
    refine es_guard (ρ1 := []) (b := true) ?_ (fun _ => ?_) fun h => by cases h
    · have := et_or (u := notT (truR (eB (b1 allD) (aCons (ofF (fLc (iSeq (eVar 1)) (put 2) tYesT (andE (eIsi "str" (eVar 2)) (e2 (op2 inD) (eVar 2) (eVar 0))) [2])) aNil)))) (b := true) (et_not hT) fun h => by rw [hf] at h; cases h
      rw [hf] at this
      exact this
    · cases d <;> simp [someB, isTup] at *
end W
namespace W
open PySem L2 DL

/-! ### are_named -/
def pairB : D → Bool
  | .tuple [a, _] => nameB a
  | _ => false
def fst0 : D → Str
  | .tuple (.str s :: _) => s
  | _ => Str.empty
def namedB : D → Bool
  | .tuple xs => decide (xs.length ≤ 5) && xs.all pairB && risingS (xs.map fst0)
  | _ => false
theorem pairB_inv {x : D} (h : pairB x = true) : ∃ s b, x = .tuple [.str s, b] ∧ nameS s = true := by
  unfold pairB at h
  split at h
  · rename_i a b
    cases a <;> simp [nameB] at h
    exact ⟨_, _, rfl, h⟩
  · cases h
theorem isTup_inv {d : D} (h : isTup d = true) : ∃ xs, d = .tuple xs := by
  cases d <;> simp [isTup] at h
  exact ⟨_, rfl⟩
theorem nice_tup {n : Nat} {xs : List D} (h : nice (n + 1) (.tuple xs) = true) : xs.length ≤ 1000 ∧ ∀ x ∈ xs, nice n x = true := by
  simp [nice] at h
  exact h
theorem nice_up : ∀ {n : Nat} {d : D}, nice n d = true → nice (n + 1) d = true
  | 0, d, h => by simp [nice] at h
  | n + 1, d, h => by
    cases d with
    | tuple xs =>
      simp [nice] at h ⊢
      exact ⟨h.1, fun x hx => by have := nice_up (h.2 x hx); simpa [nice] using this⟩
    | list xs =>
      simp [nice] at h ⊢
      exact ⟨h.1, fun x hx => by have := nice_up (h.2 x hx); simpa [nice] using this⟩
    | str s => simpa [nice] using h
    | none => rfl
    | bool b => rfl
    | int i => rfl
    | dict k => simp [nice] at h
theorem nice_name {n : Nat} {d : D} (h : nice (n + 1) d = true) : nice 1 d = true ∨ isStr d = false := by
  cases d with
  | str s => exact .inl (by simpa [nice] using h)
  | _ => exact .inr rfl
theorem gt_int (a b : Int) : gtD (.int a) (.int b) = some (.bool (decide (b < a))) := rfl
theorem idx0 (a : D) (xs : List D) : idxD (.tuple (a :: xs)) (.int 0) = some a := by
  simp [idxD, atI, ixN]
theorem idx1 (a b : D) (xs : List D) : idxD (.tuple (a :: b :: xs)) (.int 1) = some b := by
  simp [idxD, atI, ixN]
  rw [if_pos (by omega)]
  rfl
theorem named_eq {n : Nat} (d : D) (hd : nice (n + 3) d = true) : m_are_named [d] = some (.bool (namedB d)) := by
  refine runA_of (ρ1 := [some (.d d), none]) (v := .bool (namedB d)) ?_ rfl
  show F_are_named [some (.d d), none] = _
  unfold F_are_named
  have hT : Et (truR (eIsi "tuple" (eVar 0))) [some (.d d), none] (isTup d) := et_bool (ev_isi (ev_var rfl) (isD_tup d))
  by_cases ht : isTup d = true
  · obtain ⟨xs, rfl⟩ := isTup_inv ht
    obtain ⟨hz, hx⟩ := nice_tup hd
    refine es_guard (ρ1 := []) (b := (!true || decide ((5 : Int) < (xs.length : Int)))) (et_or (et_not hT) fun _ => et_toT (ev_op (ev_b1 (y := .int xs.length) (ev_var rfl) rfl) ev_c (gt_int _ _))) (fun h => ?_) fun h => ?_
    · have : ¬ xs.length ≤ 5 := by
        simp at h
        omega
      simp [namedB, this]
    · have h5 : xs.length ≤ 5 := by
        simp at h
        omega
      have hl : Ef (fLc (iSeq (eVar 0)) (put 1) tYesT (andE (eIsi "tuple" (eVar 1)) (andE (e2 (op2 eqD) (eB (b1 lenD) (aCons (eVar 1) aNil)) (eC (.int 2))) (eCall 1 m_is_name (aCons (e2 (op2 idxD) (eVar 1) (eC (.int 0))) aNil)))) [1]) [some (.d (.tuple xs)), none] (xs.map fun x => .bool (pairB x)) := by
        refine ef_lcm _ (ei_seq (ev_var rfl) rfl) (by simp) rfl (by rw [sizeL]; omega) fun x hxm => ?_
        by_cases hxt : isTup x = true
        · obtain ⟨ys, rfl⟩ := isTup_inv hxt
          have e : pairB (.tuple ys) = (true && (decide ((ys.length : Int) = 2) && pairB (.tuple ys))) := by
            match ys with
            | [] => rfl
            | [_] => rfl
            | [_, _] => simp
            | _ :: _ :: _ :: _ => simp [pairB]
          rw [e]
          refine ev_and (ev_isi (ev_var rfl) (isD_tup _)) fun _ => ev_and (ev_op (ev_b1 (y := .int ys.length) (ev_var rfl) rfl) ev_c (eq_int _ _)) fun h2 => ?_
          match ys, h2, hx _ hxm with
          | [a, b], _, hn =>
            refine ev_call (ea_cons (ev_op (ev_var rfl) ev_c (idx0 a [b])) ea_nil) rfl ?_
            exact name_eq a (nice_name ((nice_tup hn).2 a List.mem_cons_self))
          | [], h2, _ => simp at h2
          | [_], h2, _ => simp at h2
          | _ :: _ :: _ :: _, h2, _ => simp at h2; omega
        · have e : pairB x = (false && false) := by
            cases x <;> simp [isTup, pairB] at *
          rw [e]
          refine ev_and (ev_isi (ev_var rfl) ?_) fun h => by cases h
          rw [isD_tup]
          simpa using hxt
      refine es_guard (ρ1 := []) (et_not (et_bool (ev_b1 (ev_F hl) (allD_map _ _)))) (fun h => ?_) fun h => ?_
      · have : xs.all pairB = false := by simpa using h
        simp [namedB, this]
      · have ha : xs.all pairB = true := by simpa using h
        refine es_ret ?_
        have e : namedB (.tuple xs) = risingS (xs.map fst0) := by simp [namedB, h5, ha]
        rw [e]
        have hl2 : Ef (fLc (iSeq (eVar 0)) (put 1) tYesT (e2 (op2 idxD) (eVar 1) (eC (.int 0))) [1]) [some (.d (.tuple xs)), none] (xs.map fun x => .str (fst0 x)) := by
          refine ef_lcm _ (ei_seq (ev_var rfl) rfl) (by simp) rfl (by rw [sizeL]; omega) fun x hxm => ?_
          obtain ⟨s, b, rfl, _⟩ := pairB_inv (List.all_eq_true.mp ha x hxm)
          exact ev_op (ev_var rfl) ev_c (idx0 _ _)
        refine ev_call (ea_cons (ev_F hl2) ea_nil) rfl ?_
        have := rising_eq (xs.map fst0) (by simp; omega)
        rw [List.map_map] at this
        exact this
  · have hf : isTup d = false := by simpa using ht
    refine es_guard (ρ1 := []) (b := true) ?_ (fun _ => ?_) fun h => by cases h
    · have := et_or (u := toT (e2 (op2 gtD) (eB (b1 lenD) (aCons (eVar 0) aNil)) (eC (.int 5)))) (b := true) (et_not hT) fun h => by rw [hf] at h; cases h
      rw [hf] at this
      exact this
    · cases d <;> simp [namedB, isTup] at *
end W
namespace W
open PySem L2 DL

/-! ### is_book -/
def items : D → List D
  | .tuple xs => xs
  | _ => []
def snd1 : D → D
  | .tuple (_ :: b :: _) => b
  | _ => .none
def namesOf (d : D) : List Str := (items d).map fst0
def allSome (ss : List Str) (d : D) : Bool := (items d).all fun x => someB ss (snd1 x)
def bookB : D → Bool
  | .tuple [a, b] => namedB a && namedB b && (allSome (namesOf b) a && allSome (namesOf a) b)
  | _ => false
theorem namedB_inv {a : D} (h : namedB a = true) : ∃ xs, a = .tuple xs ∧ xs.length ≤ 5 ∧ (∀ x ∈ xs, pairB x = true) ∧ risingS (xs.map fst0) = true := by
  unfold namedB at h
  split at h
  · rename_i xs
    simp at h
    exact ⟨xs, rfl, h.1.1, h.1.2, h.2⟩
  · cases h
theorem lc_fst {ρ : Rho} {i : Nat} {f : FE} {xs : List D} (hf : Ev f ρ (.tuple xs)) (hi : i < ρ.length) (hok : okW ρ [i] = true) (hz : xs.length ≤ 5) (hx : ∀ x ∈ xs, pairB x = true) :
    Ef (fLc (iSeq f) (put i) tYesT (e2 (op2 idxD) (eVar i) (eC (.int 0))) [i]) ρ (xs.map fun x => .str (fst0 x)) := by
  refine ef_lcm _ (ei_seq hf rfl) hi hok (by rw [sizeL]; omega) fun x hxm => ?_
  obtain ⟨s, b, rfl, _⟩ := pairB_inv (hx x hxm)
  exact ev_op (ev_var (v := .tuple [.str s, b]) (by simp [hi])) ev_c (idx0 (.str s) [b])
theorem lc_some {ρ : Rho} {i j : Nat} {f : FE} {xs : List D} {ss : List Str} {n : Nat} (hf : Ev f ρ (.tuple xs)) (hi : i < ρ.length) (hij : i ≠ j) (hok : okW ρ [i] = true) (hj : ρ[j]? = some (some (.d (.list (ss.map .str))))) (hz : xs.length ≤ 5) (hx : ∀ x ∈ xs, pairB x = true) (hn : ∀ x ∈ xs, nice (n + 2) x = true) :
    Ef (fLc (iSeq f) (put i) tYesT (eCall 2 m_are_some (aCons (eVar j) (aCons (e2 (op2 idxD) (eVar i) (eC (.int 1))) aNil))) [i]) ρ (xs.map fun x => .bool (someB ss (snd1 x))) := by
  refine ef_lcm _ (ei_seq hf rfl) hi hok (by rw [sizeL]; omega) fun x hxm => ?_
  obtain ⟨s, b, rfl, _⟩ := pairB_inv (hx x hxm)
  refine ev_call (ea_cons (ev_var (by rw [List.getElem?_set_ne hij]; exact hj)) (ea_cons (ev_op (ev_var (v := .tuple [.str s, b]) (by simp [hi])) ev_c (idx1 (.str s) b [])) ea_nil)) rfl ?_
  exact some_eq ss b ((nice_tup (hn _ hxm)).2 b (by simp))
theorem book_eq {n : Nat} (d : D) (hd : nice (n + 5) d = true) : m_is_book [d] = some (.bool (bookB d)) := by
  have goal : ∃ ρ1, F_is_book [some (.d d), none, none, none] = some (.ret (.bool (bookB d)) ρ1) := by
    unfold F_is_book
    have hT : Et (truR (eIsi "tuple" (eVar 0))) [some (.d d), none, none, none] (isTup d) := et_bool (ev_isi (ev_var rfl) (isD_tup d))
    by_cases ht : isTup d = true
    · obtain ⟨ys, rfl⟩ := isTup_inv ht
      obtain ⟨hz, hy⟩ := nice_tup hd
      have hL : Et (toT (e2 (op2 neD) (eB (b1 lenD) (aCons (eVar 0) aNil)) (eC (.int 2)))) [some (.d (.tuple ys)), none, none, none] (!decide ((ys.length : Int) = 2)) := et_toT (ev_op (ev_b1 (y := .int ys.length) (ev_var rfl) rfl) ev_c (ne_int _ _))
      by_cases h2 : ys.length = 2
      · match ys, h2 with
        | [a, b], _ =>
          have na := hy a (by simp)
          have nb := hy b (by simp)
          have e0 : ∀ ρ' : Rho, ρ'[0]? = some (some (.d (.tuple [a, b]))) → Ev (e2 (op2 idxD) (eVar 0) (eC (.int 0))) ρ' a := fun ρ' h => ev_op (ev_var h) ev_c (idx0 _ _)
          have e1 : ∀ ρ' : Rho, ρ'[0]? = some (some (.d (.tuple [a, b]))) → Ev (e2 (op2 idxD) (eVar 0) (eC (.int 1))) ρ' b := fun ρ' h => ev_op (ev_var h) ev_c (idx1 _ _ _)
          have hA : Et (notT (truR (eCall 1 m_are_named (aCons (e2 (op2 idxD) (eVar 0) (eC (.int 0))) aNil)))) [some (.d (.tuple [a, b])), none, none, none] (!namedB a) := et_not (et_bool (ev_call (ea_cons (e0 _ rfl) ea_nil) rfl (named_eq a na)))
          have hB : Et (notT (truR (eCall 1 m_are_named (aCons (e2 (op2 idxD) (eVar 0) (eC (.int 1))) aNil)))) [some (.d (.tuple [a, b])), none, none, none] (!namedB b) := et_not (et_bool (ev_call (ea_cons (e1 _ rfl) ea_nil) rfl (named_eq b nb)))
          have hG := et_or (et_not hT) fun _ => et_or hL fun _ => et_or hA fun _ => hB
          by_cases hn : namedB a = true ∧ namedB b = true
          · obtain ⟨ha, hb⟩ := hn
            obtain ⟨xs, rfl, lx, px, rx⟩ := namedB_inv ha
            obtain ⟨zs, rfl, lz, pz, rz⟩ := namedB_inv hb
            refine ⟨[some (.d (.tuple [.tuple xs, .tuple zs])), some (.d (.list (xs.map fun x => .str (fst0 x)))), some (.d (.list (zs.map fun x => .str (fst0 x)))), none], ?_⟩
            refine es_guard (ρ1 := []) hG (fun h => by simp [isTup, ha, hb] at h) fun _ => ?_
            refine es_seq (es_asg2 (ev_tup (ea_cons (ev_F (lc_fst (e0 _ rfl) (by simp) rfl lx px)) (ea_cons (ev_F (lc_fst (e1 _ rfl) (by simp) rfl lz pz)) ea_nil)) (by simp [sizeL])) (by simp) (by simp)) (es_ret ?_)
            have e : bookB (.tuple [.tuple xs, .tuple zs]) = ((xs.all fun x => someB (namesOf (.tuple zs)) (snd1 x)) && (zs.all fun x => someB (namesOf (.tuple xs)) (snd1 x))) := by simp [bookB, ha, hb, allSome, items]
            rw [e]
            have ex : (xs.map fun x => PyData.str (fst0 x)) = (namesOf (.tuple xs)).map .str := by simp [namesOf, items, List.map_map, Function.comp_def]
            have ez : (zs.map fun x => PyData.str (fst0 x)) = (namesOf (.tuple zs)).map .str := by simp [namesOf, items, List.map_map, Function.comp_def]
            refine ev_and (ev_b1 (ev_F (lc_some (ss := namesOf (.tuple zs)) (n := n + 1) (e0 _ rfl) (by simp) (by decide) rfl (by simp [ez]) lx px (nice_tup na).2)) (allD_map _ _)) fun _ => ev_b1 (ev_F (lc_some (ss := namesOf (.tuple xs)) (n := n + 1) (e1 _ rfl) (by simp) (by decide) rfl (by simp [ex]) lz pz (nice_tup nb).2)) (allD_map _ _)
          · refine ⟨[some (.d (.tuple [a, b])), none, none, none], es_guard (ρ1 := []) hG (fun _ => ?_) fun h => ?_⟩
            · have : bookB (.tuple [a, b]) = false := by
                simp only [bookB]
                by_cases q : namedB a = true
                · have : namedB b = false := by
                    cases z : namedB b with
                    | true => exact absurd ⟨q, z⟩ hn
                    | false => rfl
                  simp [this]
                · simp [q]
              rw [this]
            · exfalso
              simp [isTup] at h
              exact hn h
      · refine ⟨[some (.d (.tuple ys)), none, none, none], es_guard (ρ1 := []) (b := true) ?_ (fun _ => ?_) fun h => by cases h⟩
        · have hne : (!decide ((ys.length : Int) = 2)) = true := by simp; omega
          rw [hne] at hL
          exact et_or (a := false) (b := true) (et_not hT) fun _ => et_or (a := true) (b := true) hL fun h => by cases h
        · have : bookB (.tuple ys) = false := by
            match ys with
            | [] => rfl
            | [_] => rfl
            | [_, _] => exact absurd rfl h2
            | _ :: _ :: _ :: _ => rfl
          rw [this]
    · have hf : isTup d = false := by simpa using ht
      rw [hf] at hT
      refine ⟨[some (.d d), none, none, none], es_guard (ρ1 := []) (b := true) (et_or (a := true) (b := true) (et_not hT) fun h => by cases h) (fun _ => ?_) fun h => by cases h⟩
      cases d <;> simp [bookB, isTup] at *
  obtain ⟨ρ1, h⟩ := goal
  exact runA_of h rfl
end W
namespace W
open PySem L2 DL

/-! ### _law_spoilt -/
def odds : List D := [.str "!", .int 3, .tuple [.str "ann", .int 3], .list []]
def spoilAt (xs : List D) (i : Nat) (os : List D) : List D := os.map fun o => .tuple (xs.take i ++ [o] ++ xs.drop (i + 1))
mutual
def spoil : Nat → D → List D
  | 0, _ => []
  | n + 1, .tuple xs => spoils n xs 0 xs ++ [.list xs, .tuple (xs ++ [.str "!"]), .tuple (xs ++ [.int 3])]
  | _ + 1, _ => []
termination_by n _ => (n, 0)
def spoils : Nat → List D → Nat → List D → List D
  | _, _, _, [] => []
  | n, xs, i, x :: rest => spoilAt xs i (odds ++ spoil n x) ++ spoils n xs (i + 1) rest
termination_by n _ _ l => (n, l.length + 1)
end
theorem spoils_le {n : Nat} {xs : List D} {x : D} : ∀ {i : Nat} {l : List D}, x ∈ l → (spoil n x).length ≤ (spoils n xs i l).length
  | i, [], h => by cases h
  | i, y :: l, h => by
    rw [spoils]
    rw [List.length_append, spoilAt, List.length_map, List.length_append]
    rcases List.mem_cons.mp h with rfl | h
    · omega
    · have := spoils_le (n := n) (xs := xs) (i := i + 1) h
      omega
theorem add_tup (xs ys : List D) (h : xs.length + ys.length ≤ 1000000) : addD (.tuple xs) (.tuple ys) = some (.tuple (xs ++ ys)) := by
  simp only [addD]
  rw [if_pos (by rw [sizeL]; omega)]
theorem add_list (xs ys : List D) (h : xs.length + ys.length ≤ 10000000) : addD (.list xs) (.list ys) = some (.list (xs ++ ys)) := by
  simp only [addD]
  rw [if_pos (by rw [sizeL]; omega)]
theorem cutD_to (xs : List D) (k : Nat) : cutD none (some (k : Int)) (.tuple xs) = some (.tuple (xs.take k)) := congrArg (fun l => some (PyData.tuple l)) (cut_to xs k)
theorem cutD_from (xs : List D) (k : Nat) : cutD (some (k : Int)) none (.tuple xs) = some (.tuple (xs.drop k)) := congrArg (fun l => some (PyData.tuple l)) (cut_from xs k)
theorem inner (xs : List D) (hx : xs.length ≤ 1000) (i : Nat) (x : D) : ∀ (os acc : List D) (q : Option B), acc.length + os.length ≤ 1000000 →
    ∃ q', forD (put 4) (sApp 1 (e2 (op2 addD) (e2 (op2 addD) (eSl (eVar 0) oNone (oSome (eVar 2))) (eTup (aCons (eVar 4) aNil))) (eSl (eVar 0) (oSome (e2 (op2 addD) (eVar 2) (eC (.int 1)))) oNone))) (os.map R.d) [some (.d (.tuple xs)), some (.l acc), some (.d (.int (i : Nat))), some (.d x), q] =
      some (.next [some (.d (.tuple xs)), some (.l (acc ++ spoilAt xs i os)), some (.d (.int (i : Nat))), some (.d x), q'])
  | [], acc, q, _ => ⟨q, by simp [forD, spoilAt]⟩
  | o :: os, acc, q, h => by
    rw [List.length_cons] at h
    obtain ⟨q', ih⟩ := inner xs hx i x os (acc ++ [.tuple (xs.take i ++ [o] ++ xs.drop (i + 1))]) (some (.d o)) (by simp; omega)
    refine ⟨q', ?_⟩
    rw [List.map_cons, for_next (ρ1 := [some (.d (.tuple xs)), some (.l acc), some (.d (.int (i : Nat))), some (.d x), some (.d o)]) rfl (es_app (xs := acc) (v := .tuple (xs.take i ++ [o] ++ xs.drop (i + 1))) rfl ?_ (by rw [sizeL]; omega))]
    · have e : acc ++ spoilAt xs i (o :: os) = acc ++ [.tuple (xs.take i ++ [o] ++ xs.drop (i + 1))] ++ spoilAt xs i os := by simp [spoilAt]
      rw [e]
      exact ih
    · have l1 : (xs.take i).length ≤ xs.length := by simp [List.length_take]; omega
      have l2 : (xs.drop (i + 1)).length ≤ xs.length := by simp [List.length_drop]
      refine ev_op (ev_op (ev_sl (ev_var rfl) o_none (o_some (ev_var rfl)) (cutD_to xs i)) (ev_tup (ea_cons (ev_var rfl) ea_nil) (by simp [sizeL])) (add_tup _ _ (by simp [List.length_take]; omega))) (ev_sl (ev_var rfl) (o_some (i := ((i + 1 : Nat) : Int)) (ev_op (ev_var rfl) ev_c (by simp [addD]))) o_none (cutD_from xs (i + 1))) (add_tup _ _ ?_)
      simp only [List.length_append, List.length_cons, List.length_nil]
      omega
theorem outer (n : Nat) (rec : List D → Option D) (xs : List D) (hx : xs.length ≤ 1000) : ∀ (l : List D) (i : Nat) (acc : List D) (p o q : Option B), (∀ x ∈ l, rec [x] = some (.list (spoil n x))) → acc.length + (spoils n xs i l).length ≤ 1000000 →
    ∃ p' o' q', forD (gT 2 (gC (put 2) (gC (put 3) gN))) (sFor (iSeq (e2 (op2 addD) (ofF (fLst (aCons (eC (.str "!")) (aCons (eC (.int 3)) (aCons (eTup (aCons (eC (.str "ann")) (aCons (eC (.int 3)) aNil))) (aCons (ofF (fLst aNil)) aNil)))))) (eCall 1 rec (aCons (eVar 3) aNil)))) (put 4)
        (sApp 1 (e2 (op2 addD) (e2 (op2 addD) (eSl (eVar 0) oNone (oSome (eVar 2))) (eTup (aCons (eVar 4) aNil))) (eSl (eVar 0) (oSome (e2 (op2 addD) (eVar 2) (eC (.int 1)))) oNone)))) (enumD i l) [some (.d (.tuple xs)), some (.l acc), p, o, q] =
      some (.next [some (.d (.tuple xs)), some (.l (acc ++ spoils n xs i l)), p', o', q'])
  | [], i, acc, p, o, q, _, _ => ⟨p, o, q, by simp [enumD, forD, spoils]⟩
  | x :: l, i, acc, p, o, q, h, hz => by
    rw [spoils, List.length_append] at hz
    have hl : (spoilAt xs i (odds ++ spoil n x)).length = (odds ++ spoil n x).length := by simp [spoilAt]
    obtain ⟨q1, hin⟩ := inner xs hx i x (odds ++ spoil n x) acc q (by omega)
    obtain ⟨p', o', q', ih⟩ := outer n rec xs hx l (i + 1) (acc ++ spoilAt xs i (odds ++ spoil n x)) (some (.d (.int (i : Nat)))) (some (.d x)) q1 (fun y hy => h y (List.mem_cons_of_mem _ hy)) (by rw [List.length_append]; omega)
    refine ⟨p', o', q', ?_⟩
    rw [enumD, for_next (ρ1 := [some (.d (.tuple xs)), some (.l acc), some (.d (.int (i : Nat))), some (.d x), q]) (ρ2 := [some (.d (.tuple xs)), some (.l (acc ++ spoilAt xs i (odds ++ spoil n x))), some (.d (.int (i : Nat))), some (.d x), q1]) rfl ?_]
    · rw [spoils, ← List.append_assoc]
      exact ih
    · have lz : (spoil n x).length ≤ 1000000 := by
        rw [hl, List.length_append] at hz
        omega
      refine (es_for (rs := (odds ++ spoil n x).map R.d) ?_).trans hin
      refine ei_seq (x := .list (odds ++ spoil n x)) (ev_op (x := .list odds) (y := .list (spoil n x)) (ev_F (ef_lst (vs := odds) ?_ (by simp [sizeL, odds]))) (ev_call (ea_cons (ev_var rfl) ea_nil) rfl (h x List.mem_cons_self)) (add_list _ _ (by simp [odds]; omega))) rfl
      exact ea_cons ev_c (ea_cons ev_c (ea_cons (ev_tup (ea_cons ev_c (ea_cons ev_c ea_nil)) (by simp [sizeL])) (ea_cons (ev_F (ef_lst ea_nil (by simp))) ea_nil)))
theorem imm_tup {xs : List D} (h : imm (.tuple xs) = true) : ∀ x ∈ xs, imm x = true := fun x hx => by
  obtain ⟨i, hi⟩ := List.getElem?_of_mem hx
  exact immL_at (by simpa [imm] using h) hi
theorem ret_own {ρ : Rho} {i : Nat} {xs : List D} (h : ρ[i]? = some (some (.l xs))) : ∃ ρ1, sRet (eVar i) ρ = some (.ret (.list xs) ρ1) := by
  refine ⟨rel i ρ, ?_⟩
  unfold sRet eVar
  rw [h]
  simp [out1, h]
theorem spoil_eq : ∀ (n : Nat) (d : D), imm d = true → nice n d = true → (spoil n d).length ≤ 1000000 → r__law_spoilt n [d] = some (.list (spoil n d))
  | 0, d, _, h, _ => by simp [nice] at h
  | n + 1, d, hi, hn, hz => by
    have hb : DL.bindArgs [d] = some [.d d] := by simp [DL.bindArgs, bindArg, hi]
    show runB 5 (F__law_spoilt (r__law_spoilt n)) [d] = _
    have goal : ∃ ρ1, F__law_spoilt (r__law_spoilt n) [some (.d d), none, none, none, none] = some (.ret (.list (spoil (n + 1) d)) ρ1) := by
      unfold F__law_spoilt
      have hT : Et (notT (truR (eIsi "tuple" (eVar 0)))) [some (.d d), some (.l []), none, none, none] (!isTup d) := et_not (et_bool (ev_isi (ev_var rfl) (isD_tup d)))
      have h0 : sOwn 1 (fLst aNil) [some (.d d), none, none, none, none] = some (.next [some (.d d), some (.l []), none, none, none]) := es_own (ef_lst ea_nil (by simp)) (by simp)
      by_cases ht : isTup d = true
      · obtain ⟨xs, rfl⟩ := isTup_inv ht
        obtain ⟨hx, hxs⟩ := nice_tup hn
        rw [spoil, List.length_append] at hz
        obtain ⟨p', o', q', ho⟩ := outer n (r__law_spoilt n) xs hx xs 0 [] none none none (fun x hxm => spoil_eq n x (imm_tup hi x hxm) (hxs x hxm) (by have := spoils_le (n := n) (xs := xs) (i := 0) hxm; omega)) (by simp; omega)
        refine ⟨[some (.d (.tuple xs)), some (.l (spoils n xs 0 xs)), p', o', q'], es_seq h0 (es_seq (es_if hT (fun h => by simp [isTup] at h) fun _ => es_nil) (es_seq ?_ (es_ret ?_)))⟩
        · rw [es_for (ei_enum (ev_var rfl) rfl)]
          exact ho
        · rw [spoil]
          refine ex_op (ex_own rfl) (ev_F (ef_lst (ea_cons (ev_F ?_) (ea_cons (ev_op (ev_var rfl) (ev_tup (ea_cons ev_c ea_nil) (by simp [sizeL])) (add_tup _ _ (by simp; omega))) (ea_cons (ev_op (ev_var rfl) (ev_tup (ea_cons ev_c ea_nil) (by simp [sizeL])) (add_tup _ _ (by simp; omega))) ea_nil))) (by simp [sizeL]))).ex (add_list _ _ (by simp; omega))
          show fB listD (eVar 0) _ = _
          simp [fB, eVar, rdo, listD]
      · obtain ⟨ρ1, hr⟩ := ret_own (ρ := [some (.d d), some (.l []), none, none, none]) (i := 1) (xs := []) rfl
        have hf : isTup d = false := by simpa using ht
        refine ⟨ρ1, es_seq h0 (es_stop (es_if hT (fun _ => ?_) fun h => by simp [hf] at h))⟩
        have e : spoil (n + 1) d = [] := by
          cases d <;> simp [spoil, isTup] at *
        rw [e]
        exact hr
    obtain ⟨ρ1, h⟩ := goal
    exact runB_of hb h
end W
namespace W
open PySem L2 DL

/-! ### what is spoilt is no book -/
theorem mem_spoilAt {xs : List D} {i : Nat} {os : List D} {q : D} (h : q ∈ spoilAt xs i os) : ∃ o ∈ os, q = .tuple (xs.take i ++ [o] ++ xs.drop (i + 1)) := by
  obtain ⟨o, h1, h2⟩ := List.mem_map.mp h
  exact ⟨o, h1, h2.symm⟩
theorem mem_spoils {n : Nat} {xs : List D} {q : D} : ∀ {l : List D} {i : Nat}, q ∈ spoils n xs i l → ∃ (j : Nat) (x o : D), l[j]? = some x ∧ o ∈ odds ++ spoil n x ∧ q = .tuple (xs.take (i + j) ++ [o] ++ xs.drop (i + j + 1))
  | [], i, h => by simp [spoils] at h
  | x :: l, i, h => by
    rw [spoils] at h
    rcases List.mem_append.mp h with h | h
    · obtain ⟨o, h1, h2⟩ := mem_spoilAt h
      exact ⟨0, x, o, rfl, h1, h2⟩
    · obtain ⟨j, y, o, h1, h2, h3⟩ := mem_spoils h
      refine ⟨j + 1, y, o, by simpa using h1, h2, ?_⟩
      rw [h3, show i + 1 + j = i + (j + 1) by omega]
theorem mem_spoil {n : Nat} {xs : List D} {q : D} (h : q ∈ spoil (n + 1) (.tuple xs)) :
    (∃ (j : Nat) (x o : D), xs[j]? = some x ∧ o ∈ odds ++ spoil n x ∧ q = .tuple (xs.take j ++ [o] ++ xs.drop (j + 1))) ∨ q = .list xs ∨ q = .tuple (xs ++ [.str "!"]) ∨ q = .tuple (xs ++ [.int 3]) := by
  rw [spoil] at h
  rcases List.mem_append.mp h with h | h
  · obtain ⟨j, x, o, h1, h2, h3⟩ := mem_spoils h
    rw [Nat.zero_add] at h3
    exact .inl ⟨j, x, o, h1, h2, h3⟩
  · simp at h
    exact .inr h
theorem all_put {p : D → Bool} {xs : List D} {j : Nat} {o : D} (h : p o = false) : (xs.take j ++ [o] ++ xs.drop (j + 1)).all p = false := by simp [h]
theorem spoil_str (n : Nat) (s : Str) : spoil n (.str s) = [] := by
  cases n <;> simp [spoil]
theorem spoil_none (n : Nat) : spoil n .none = [] := by
  cases n <;> simp [spoil]
theorem odds_cases {o : D} (h : o ∈ odds) : o = .str "!" ∨ o = .int 3 ∨ o = .tuple [.str "ann", .int 3] ∨ o = .list [] := by simpa [odds] using h
theorem bang : nameS "!" = false := by decide +kernel
theorem spoil3 {ss : List Str} (hb : ("!" : Str) ∉ ss) {d : D} (h : someB ss d = true) {n : Nat} {q : D} (hq : q ∈ spoil (n + 1) d) : someB ss q = false := by
  unfold someB at h
  split at h
  · rename_i xs
    rw [Bool.and_eq_true] at h
    rcases mem_spoil hq with ⟨j, x, o, h1, h2, rfl⟩ | rfl | rfl | rfl
    · have hx := List.all_eq_true.mp h.1 x (List.mem_of_getElem? h1)
      have ho : strIn ss o = false := by
        rcases List.mem_append.mp h2 with h2 | h2
        · rcases odds_cases h2 with rfl | rfl | rfl | rfl <;> simp [strIn, hb]
        · cases x <;> simp [strIn] at hx
          rw [spoil_str] at h2
          cases h2
      simp only [someB]
      rw [all_put ho]
      rfl
    · rfl
    · simp [someB, strIn, hb]
    · simp [someB, strIn]
  · cases h
theorem spoil2 {ss : List Str} (hb : ("!" : Str) ∉ ss) {p : D} (hp : pairB p = true) (hs : someB ss (snd1 p) = true) {n : Nat} {q : D} (hq : q ∈ spoil (n + 2) p) : pairB q = false ∨ someB ss (snd1 q) = false := by
  obtain ⟨s, b, rfl, hn⟩ := pairB_inv hp
  rcases mem_spoil hq with ⟨j, x, o, h1, h2, rfl⟩ | rfl | rfl | rfl
  · match j, h1 with
    | 0, h1 =>
      simp at h1
      subst h1
      rw [spoil_str, List.append_nil] at h2
      left
      rcases odds_cases h2 with rfl | rfl | rfl | rfl <;> simp [pairB, nameB, bang]
    | 1, h1 =>
      simp at h1
      subst h1
      right
      show someB ss o = false
      rcases List.mem_append.mp h2 with h2 | h2
      · rcases odds_cases h2 with rfl | rfl | rfl | rfl <;> simp [someB, strIn]
      · exact spoil3 hb hs h2
    | j + 2, h1 => simp at h1
  · exact .inl rfl
  · exact .inl rfl
  · exact .inl rfl
theorem spoil1 {ss : List Str} (hb : ("!" : Str) ∉ ss) {a : D} (ha : namedB a = true) (hs : allSome ss a = true) {n : Nat} {q : D} (hq : q ∈ spoil (n + 3) a) : namedB q = false ∨ allSome ss q = false := by
  obtain ⟨xs, rfl, lx, px, rx⟩ := namedB_inv ha
  rcases mem_spoil hq with ⟨j, x, o, h1, h2, rfl⟩ | rfl | rfl | rfl
  · have hxm := List.mem_of_getElem? h1
    have ho : pairB o = false ∨ someB ss (snd1 o) = false := by
      rcases List.mem_append.mp h2 with h2 | h2
      · rcases odds_cases h2 with rfl | rfl | rfl | rfl
        · exact .inl rfl
        · exact .inl rfl
        · exact .inr rfl
        · exact .inl rfl
      · exact spoil2 hb (px x hxm) (List.all_eq_true.mp hs x hxm) h2
    rcases ho with ho | ho
    · left
      simp only [namedB]
      rw [all_put ho]
      simp
    · right
      simp only [allSome, items]
      exact all_put (p := fun x => someB ss (snd1 x)) ho
  · exact .inl rfl
  · left
    simp [namedB, pairB]
  · left
    simp [namedB, pairB]
theorem bang_out {a : D} (ha : namedB a = true) : ("!" : Str) ∉ namesOf a := by
  obtain ⟨xs, rfl, lx, px, rx⟩ := namedB_inv ha
  intro h
  obtain ⟨x, hx, e⟩ := List.mem_map.mp h
  obtain ⟨s, b, rfl, hn⟩ := pairB_inv (px x hx)
  have e : s = "!" := e
  rw [e, bang] at hn
  cases hn
theorem spoil0 {d : D} (hd : bookB d = true) {n : Nat} {q : D} (hq : q ∈ spoil (n + 4) d) : bookB q = false := by
  unfold bookB at hd
  split at hd
  · rename_i a b
    simp at hd
    obtain ⟨⟨ha, hb⟩, sa, sb⟩ := hd
    have odd0 : ∀ {o : D}, o ∈ odds → namedB o = false := fun h => by
      rcases odds_cases h with rfl | rfl | rfl | rfl <;> simp [namedB, pairB]
    rcases mem_spoil hq with ⟨j, x, o, h1, h2, rfl⟩ | rfl | rfl | rfl
    · match j, h1 with
      | 0, h1 =>
        simp at h1
        subst h1
        show (namedB o && namedB b && (allSome (namesOf b) o && allSome (namesOf o) b)) = false
        rcases List.mem_append.mp h2 with h2 | h2
        · simp [odd0 h2]
        · rcases spoil1 (bang_out hb) ha sa h2 with h | h <;> simp [h]
      | 1, h1 =>
        simp at h1
        subst h1
        show (namedB a && namedB o && (allSome (namesOf o) a && allSome (namesOf a) o)) = false
        rcases List.mem_append.mp h2 with h2 | h2
        · simp [odd0 h2]
        · rcases spoil1 (bang_out ha) hb sb h2 with h | h <;> simp [h]
      | j + 2, h1 => simp at h1
    · rfl
    · rfl
    · rfl
  · cases hd
/-- nice with room -/
def small : Nat → D → Bool
  | 0, _ => false
  | _ + 1, .str s => decide (s.length ≤ 500)
  | n + 1, .tuple xs => decide (xs.length ≤ 500) && xs.all (small n)
  | _ + 1, .list _ => false
  | _ + 1, .dict _ => false
  | _ + 1, .none => true
  | _ + 1, .bool _ => true
  | _ + 1, .int _ => true
theorem small_nice : ∀ {n : Nat} {d : D}, small n d = true → nice n d = true
  | 0, d, h => by simp [small] at h
  | n + 1, d, h => by
    cases d with
    | tuple xs =>
      simp [small] at h
      simp only [nice, Bool.and_eq_true, decide_eq_true_eq, List.all_eq_true]
      exact ⟨by omega, fun x hx => small_nice (h.2 x hx)⟩
    | str s =>
      simp [small] at h
      simp [nice]
      omega
    | list xs => simp [small] at h
    | dict k => simp [small] at h
    | none => rfl
    | bool b => rfl
    | int i => rfl
theorem nice_odd {n : Nat} {o : D} (h : o ∈ odds) : nice (n + 2) o = true := by
  rcases odds_cases h with rfl | rfl | rfl | rfl
  · simp [nice]
    decide
  · rfl
  · simp [nice]
    decide
  · rfl
theorem nice_spoil : ∀ {m n : Nat} {d q : D}, small n d = true → q ∈ spoil m d → nice (n + 1) q = true
  | 0, n, d, q, _, h => by simp [spoil] at h
  | m + 1, 0, d, q, h, _ => by simp [small] at h
  | m + 1, n + 1, d, q, hs, hq => by
    cases d with
    | tuple xs =>
      simp [small] at hs
      have old : ∀ x ∈ xs, nice (n + 1) x = true := fun x hx => nice_up (small_nice (hs.2 x hx))
      rcases mem_spoil hq with ⟨j, x, o, h1, h2, rfl⟩ | rfl | rfl | rfl
      · have ho : nice (n + 1) o = true := by
          have hx := hs.2 x (List.mem_of_getElem? h1)
          rcases List.mem_append.mp h2 with h2 | h2
          · cases n with
            | zero => simp [small] at hx
            | succ n => exact nice_odd h2
          · exact nice_spoil hx h2
        have hj := (List.getElem?_eq_some_iff.mp h1).1
        simp only [nice, Bool.and_eq_true, decide_eq_true_eq, List.all_eq_true]
        refine ⟨by simp [List.length_take, List.length_drop]; omega, fun y hy => ?_⟩
        simp only [List.mem_append, List.mem_singleton] at hy
        rcases hy with (hy | hy) | hy
        · exact old y (List.mem_of_mem_take hy)
        · rw [hy]
          exact ho
        · exact old y (List.mem_of_mem_drop hy)
      · simp only [nice, Bool.and_eq_true, decide_eq_true_eq, List.all_eq_true]
        exact ⟨by omega, old⟩
      · simp only [nice, Bool.and_eq_true, decide_eq_true_eq, List.all_eq_true]
        refine ⟨by simp; omega, fun y hy => ?_⟩
        rcases List.mem_append.mp hy with hy | hy
        · exact old y hy
        · rw [List.mem_singleton.mp hy]
          simp [nice]
          decide
      · simp only [nice, Bool.and_eq_true, decide_eq_true_eq, List.all_eq_true]
        refine ⟨by simp; omega, fun y hy => ?_⟩
        rcases List.mem_append.mp hy with hy | hy
        · exact old y hy
        · rw [List.mem_singleton.mp hy]
          rfl
    | _ => simp [spoil] at hq
end W
namespace W
open PySem L2 DL

/-! ### a book, with types -/
abbrev Tab := List (Str × List Str)
def encT (t : Tab) : D := .tuple (t.map fun p => .tuple [.str p.1, .tuple (p.2.map .str)])
structure Bk where
  rows : Tab
  likes : Tab
def Bk.enc (b : Bk) : D := .tuple [encT b.rows, encT b.likes]
def lkT : Tab → Str → List Str
  | [], _ => []
  | (k, l) :: t, s => if k = s then l else lkT t s
def Bk.houses (b : Bk) : List Str := b.rows.map (·.1)
def Bk.people (b : Bk) : List Str := b.likes.map (·.1)
structure Bk.Ok (b : Bk) : Prop where
  lr : b.rows.length ≤ 5
  ll : b.likes.length ≤ 5
  nr : b.houses.Nodup
  nl : b.people.Nodup
  ir : ∀ p ∈ b.rows, p.2.length ≤ 5 ∧ p.2.Nodup ∧ ∀ s ∈ p.2, s ∈ b.people
  il : ∀ p ∈ b.likes, p.2.length ≤ 5 ∧ p.2.Nodup ∧ ∀ s ∈ p.2, s ∈ b.houses
def Bk.homes (b : Bk) (p : Str) : List Str := (lkT b.likes p).filter fun h => decide (p ∈ lkT b.rows h)
def kvT (t : Tab) : List (Str × D) := t.map fun p => (p.1, .tuple (p.2.map .str))
theorem dict_encT (t : Tab) : dictD (encT t) = some (kvT t) := by
  show pairsD _ = _
  induction t with
  | nil => rfl
  | cons p t ih =>
    simp only [List.map_cons, pairsD, kvT]
    rw [ih]
    rfl
theorem kvT_keys (t : Tab) : (kvT t).map (·.1) = t.map (·.1) := by simp [kvT, List.map_map, Function.comp_def]
theorem lkp_kvT : ∀ {t : Tab} {s : Str}, s ∈ t.map (·.1) → lkp (kvT t) s = some (.tuple ((lkT t s).map .str))
  | [], s, h => by simp at h
  | (k, l) :: t, s, h => by
    simp only [kvT, List.map_cons, lkp, lkT]
    by_cases e : k = s
    · simp [e]
    · rw [if_neg e, if_neg e]
      refine lkp_kvT ?_
      simp at h
      rcases h with h | h
      · exact absurd h.symm e
      · simpa using h
theorem lkT_mem {t : Tab} {s : Str} (h : s ∈ t.map (·.1)) : (s, lkT t s) ∈ t := by
  induction t with
  | nil => simp at h
  | cons p t ih =>
    obtain ⟨k, l⟩ := p
    unfold lkT
    by_cases e : k = s
    · rw [if_pos e, e]
      exact List.mem_cons_self
    · rw [if_neg e]
      refine List.mem_cons_of_mem _ (ih ?_)
      simp at h
      rcases h with h | h
      · exact absurd h.symm e
      · simpa using h
theorem immL_map {α : Type} {f : α → D} (hf : ∀ a, imm (f a) = true) (l : List α) : immL (l.map f) = true := by
  induction l with
  | nil => rfl
  | cons a l ih => simp [immL, hf a, ih]
theorem imm_encT (t : Tab) : imm (encT t) = true := by
  simp only [encT, imm]
  exact immL_map (fun p => by simp [imm, immL]; exact immL_map (fun _ => rfl) _) t
theorem imm_enc (b : Bk) : imm b.enc = true := by simp [Bk.enc, imm, immL, imm_encT]
theorem seq_encT (t : Tab) : seqD (encT t) = some (t.map fun p => .tuple [.str p.1, .tuple (p.2.map .str)]) := rfl
theorem people_eq (b : Bk) (hz : b.likes.length ≤ 5) : m_people_of [b.enc] = some (.list (b.people.map .str)) := by
  refine runB_of (bs := [.d b.enc]) (ρ1 := [some (.d b.enc), none]) (by simp [DL.bindArgs, bindArg, imm_enc]) (es_ret ?_)
  have hl := ef_lcm (ρ := [some (.d b.enc), none]) (i := 1) (f := e2 (op2 idxD) (eVar 1) (eC (.int 0))) (fi := iSeq (e2 (op2 idxD) (eVar 0) (eC (.int 1)))) (xs := b.likes.map fun p => .tuple [.str p.1, .tuple (p.2.map .str)]) (fun d => .str (fst0 d)) (ei_seq (ev_op (ev_var rfl) ev_c (idx1 _ _ _)) (seq_encT _)) (by simp) rfl (by simp [sizeL]; omega) fun d hd => by
    obtain ⟨p, _, rfl⟩ := List.mem_map.mp hd
    exact ev_op (ev_var rfl) ev_c (idx0 _ _)
  have := ev_F hl
  rw [List.map_map] at this
  have e : (b.likes.map ((fun d => PyData.str (fst0 d)) ∘ fun p => .tuple [.str p.1, .tuple (p.2.map .str)])) = b.people.map .str := by simp [Bk.people, List.map_map, Function.comp_def, fst0]
  rw [e] at this
  exact this
theorem homes_eq (b : Bk) (ok : b.Ok) (p : Str) (hp : p ∈ b.people) : m_homes_of [b.enc, .str p] = some (.list ((b.homes p).map .str)) := by
  have goal : F_homes_of [some (.d b.enc), some (.d (.str p)), none, none] = some (.ret (.list ((b.homes p).map .str)) [some (.d b.enc), some (.d (.str p)), some (.m (kvT b.rows)), none]) := by
    unfold F_homes_of
    refine es_seq (es_ownM (ev_op (ev_var rfl) ev_c (idx0 _ _)) (dict_encT b.rows) (by rw [kvT_keys]; exact ok.nr) (by simp [kvT, sizeL]; have := ok.lr; omega) (by simp)) (es_ret ?_)
    have hm := lkT_mem (t := b.likes) hp
    obtain ⟨z1, z2, z3⟩ := ok.il _ hm
    have z1 : (lkT b.likes p).length ≤ 5 := z1
    have hl := ef_lc1 (ρ := [some (.d b.enc), some (.d (.str p)), some (.m (kvT b.rows)), none]) (i := 3) (t := toT (e2 (op2 inD) (eVar 1) (eMGet' 2 (eVar 3)))) (f := eVar 3) (fi := iSeq (eDGet (mDict (e2 (op2 idxD) (eVar 0) (eC (.int 1)))) (eVar 1))) (xs := (lkT b.likes p).map .str)
      (fun d => decide (p ∈ lkT b.rows (txt d))) (fun d => d) (ei_seq (ev_dget (ev_op (ev_var rfl) ev_c (idx1 _ _ _)) (dict_encT b.likes) (by rw [kvT_keys]; exact ok.nl) (by simp [kvT, sizeL]; have := ok.ll; omega) (ev_var rfl) (lkp_kvT hp)) rfl) (by simp) rfl (by simp [sizeL]; omega) (fun d hd => ?_) (fun d hd _ => ev_var rfl)
    · have := ev_F hl
      have e : (((lkT b.likes p).map PyData.str).filter fun d => decide (p ∈ lkT b.rows (txt d))).map (fun d => d) = (b.homes p).map .str := by
        rw [List.map_id', List.filter_map]
        rfl
      rw [e] at this
      exact this
    · obtain ⟨h, hh, rfl⟩ := List.mem_map.mp hd
      exact et_toT (ev_op (ev_var rfl) (ev_mget rfl (ev_var rfl) (lkp_kvT (z3 h hh))) (in_strsT _ _))
  exact runB_of (bs := [.d b.enc, .d (.str p)]) (by simp [DL.bindArgs, bindArg, imm_enc, imm]) goal

/-! ### is_standing -/
def noS (d : D) : Bool := isNone d || isStr d
def homeB (b : Bk) (q : Str × D) : Bool := isNone q.2 || strIn (b.homes q.1) q.2
def standB (b : Bk) : D → Bool
  | .tuple xs => decide (xs.length = b.likes.length) && (xs.all noS && (distS ((xs.filter fun x => !isNone x).map txt) && (b.people.zip xs).all (homeB b)))
  | _ => false
theorem lt_int (a b : Int) : ltD (.int a) (.int b) = some (.bool (decide (a < b))) := rfl
theorem ddl_len (l : List Key) : (ddl l).length ≤ l.length := by
  have := ddl_le l l.length
  rwa [List.take_of_length_le (Nat.le_refl _)] at this
theorem live_txt {xs : List D} (h : xs.all noS = true) : (xs.filter fun x => !isNone x) = ((xs.filter fun x => !isNone x).map txt).map PyData.str := by
  induction xs with
  | nil => rfl
  | cons x xs ih =>
    rw [List.all_cons, Bool.and_eq_true] at h
    have ih := ih h.2
    cases x <;> simp [noS, isNone, isStr] at h
    · simpa [List.filter_cons, isNone] using ih
    · rename_i s0
      have e : ((.str s0 :: xs).filter fun x => !isNone x) = .str s0 :: xs.filter fun x => !isNone x := by simp [List.filter_cons, isNone]
      rw [e, List.map_cons, List.map_cons, ← ih]
      rfl
theorem stand_eq {n : Nat} (b : Bk) (ok : b.Ok) (d : D) (hd : nice (n + 1) d = true) : m_is_standing [b.enc, d] = some (.bool (standB b d)) := by
  have goal : ∃ ρ1, F_is_standing [some (.d b.enc), some (.d d), none, none, none] = some (.ret (.bool (standB b d)) ρ1) := by
    unfold F_is_standing
    have hT : Et (truR (eIsi "tuple" (eVar 1))) [some (.d b.enc), some (.d d), none, none, none] (isTup d) := et_bool (ev_isi (ev_var rfl) (isD_tup d))
    by_cases ht : isTup d = true
    · obtain ⟨xs, rfl⟩ := isTup_inv ht
      obtain ⟨hz, _⟩ := nice_tup hd
      have hL : Et (toT (e2 (op2 neD) (eB (b1 lenD) (aCons (eVar 1) aNil)) (eB (b1 lenD) (aCons (e2 (op2 idxD) (eVar 0) (eC (.int 1))) aNil)))) [some (.d b.enc), some (.d (.tuple xs)), none, none, none] (!decide ((xs.length : Int) = (b.likes.length : Int))) :=
        et_toT (ev_op (ev_b1 (y := .int xs.length) (ev_var rfl) rfl) (ev_b1 (y := .int b.likes.length) (ev_op (ev_var rfl) ev_c (idx1 _ _ _)) (by simp [encT, lenD])) (ne_int _ _))
      have hG := et_or (et_not hT) fun _ => hL
      by_cases hl : xs.length = b.likes.length
      · have hA : Ef (fLc (iSeq (eVar 1)) (put 3) tYesT (orE (isNd (eVar 3)) (eIsi "str" (eVar 3))) [3]) [some (.d b.enc), some (.d (.tuple xs)), none, none, none] (xs.map fun x => .bool (noS x)) :=
          ef_lcm _ (ei_seq (ev_var rfl) rfl) (by simp) rfl (by rw [sizeL]; omega) fun x _ => ev_or (ev_isN (ev_var rfl)) fun _ => ev_isi (ev_var rfl) (isD_str _)
        have hG2 := et_not (et_bool (ev_b1 (ev_F hA) (allD_map _ _)))
        by_cases ha : xs.all noS = true
        · have hB : Ef (fLc (iSeq (eVar 1)) (put 3) (toT (isnNd (eVar 3))) (eVar 3) [3]) [some (.d b.enc), some (.d (.tuple xs)), none, none, none] ((xs.filter fun x => !isNone x).map fun x => x) :=
            ef_lc1 _ _ (ei_seq (ev_var rfl) rfl) (by simp) rfl (by rw [sizeL]; omega) (fun x _ => et_toT (ev_isnN (ev_var rfl))) fun x _ _ => ev_var rfl
          rw [List.map_id'] at hB
          have hx := live_txt ha
          have lf : (xs.filter fun x => !isNone x).length ≤ xs.length := List.length_filter_le _ _
          generalize hls : (xs.filter fun x => !isNone x) = ls at *
          have hs : setD (.list ls) = some (ddl ((ls.map txt).map Sum.inr)).length := by
            rw [hx]
            simp only [setD, textsOf_map, Option.bind_some]
            rw [if_pos (by simp; omega)]
            simp [List.map_map, Function.comp_def, txt]
          have hC : Et (toT (e2 (op2 ltD) (eLenZ (zSet (eVar 2))) (eB (b1 lenD) (aCons (eVar 2) aNil)))) [some (.d b.enc), some (.d (.tuple xs)), some (.l ls), none, none] (decide (((ddl ((ls.map txt).map Sum.inr)).length : Int) < (ls.length : Int))) :=
            et_toT (ev_op (ex_lenZ (ex_own rfl) hs) (ex_b1 (y := .int ls.length) (ex_own rfl) rfl) (lt_int _ _))
          have dl := ddl_len ((ls.map txt).map (Sum.inr : Str → Key))
          simp only [List.length_map] at dl
          have ed : distS (ls.map txt) = !decide (((ddl ((ls.map txt).map Sum.inr)).length : Int) < (ls.length : Int)) := by
            unfold distS
            rw [List.length_map, ← decide_not]
            exact decide_eq_decide.mpr (by omega)
          refine ⟨[some (.d b.enc), some (.d (.tuple xs)), some (.l ls), none, none], ?_⟩
          refine es_guard (ρ1 := []) hG (fun h => by simp [isTup, hl] at h) fun _ => es_guard (ρ1 := []) hG2 (fun h => by simp [ha] at h) fun _ => es_seq (es_own hB (by simp)) ?_
          refine es_guard (ρ1 := []) hC (fun h => ?_) fun h => ?_
          · have : standB b (.tuple xs) = false := by
              simp only [standB, hls, ed, h]
              simp
            rw [this]
            rfl
          · have e : standB b (.tuple xs) = (b.people.zip xs).all (homeB b) := by
              simp only [standB, hls, ed, h, hl, ha]
              simp
            rw [e]
            refine es_ret ?_
            have hi : Ei (iZp (eCall 1 m_people_of (aCons (eVar 0) aNil)) (eVar 1)) [some (.d b.enc), some (.d (.tuple xs)), some (.l ls), none, none] (((b.people.zip xs).map fun q => (PyData.str q.1, q.2)).map fun q => R.w [q.1, q.2]) := by
              have := ei_zip (f := eCall 1 m_people_of (aCons (eVar 0) aNil)) (g := eVar 1) (ρ := [some (.d b.enc), some (.d (.tuple xs)), some (.l ls), none, none]) (xs := b.people.map .str) (ys := xs) (ev_call (ea_cons (ev_var rfl) ea_nil) rfl (people_eq b ok.ll)) (ev_var rfl) rfl rfl
              rw [List.zip_map_left] at this
              exact this
            have hl2 := ef_lc2 (t := tYesT) (f := orE (isNd (eVar 3)) (e2 (op2 inD) (eVar 3) (eCall 2 m_homes_of (aCons (eVar 0) (aCons (eVar 4) aNil))))) (i := 4) (j := 3) (fun q => R.w [q.1, q.2]) (Or.inl fun _ => rfl) (fun _ => true) (fun q => .bool (homeB b (txt q.1, q.2))) hi (by decide) (by simp) (by simp) rfl (by simp [sizeL, Bk.people]; omega) (fun _ _ => rfl) fun q hq _ => by
              obtain ⟨⟨p, x⟩, hm, rfl⟩ := List.mem_map.mp hq
              have hp : p ∈ b.people := (List.of_mem_zip hm).1
              have hxm : x ∈ xs := (List.of_mem_zip hm).2
              have hno := List.all_eq_true.mp ha x hxm
              refine ev_or (ev_isN (ev_var rfl)) fun hn => ?_
              cases x <;> simp [noS, isNone, isStr] at hno hn
              exact ev_op (ev_var rfl) (ev_call (ea_cons (ev_var rfl) (ea_cons (ev_var rfl) ea_nil)) rfl (homes_eq b ok p hp)) (in_strs _ _)
            refine ev_b1 (ev_F hl2) ?_
            rw [filter_yes, List.map_map]
            exact allD_map _ _
        · have hf : xs.all noS = false := by simpa using ha
          refine ⟨[some (.d b.enc), some (.d (.tuple xs)), none, none, none], es_guard (ρ1 := []) hG (fun h => by simp [isTup, hl] at h) fun _ => es_guard (ρ1 := []) hG2 (fun _ => ?_) fun h => by simp [hf] at h⟩
          have : standB b (.tuple xs) = false := by simp [standB, hf]
          rw [this]
      · refine ⟨[some (.d b.enc), some (.d (.tuple xs)), none, none, none], es_guard (ρ1 := []) hG (fun _ => ?_) fun h => ?_⟩
        · have : standB b (.tuple xs) = false := by simp [standB, hl]
          rw [this]
        · exfalso
          simp [isTup] at h
          omega
    · have hf : isTup d = false := by simpa using ht
      rw [hf] at hT
      refine ⟨[some (.d b.enc), some (.d d), none, none, none], es_guard (ρ1 := []) (b := true) (et_or (a := true) (b := true) (et_not hT) fun h => by cases h) (fun _ => ?_) fun h => by cases h⟩
      cases d <;> simp [standB, isTup] at *
  obtain ⟨ρ1, h⟩ := goal
  exact runA_of h rfl
end W
namespace W
open PySem L2 DL

/-! ### the draw -/
theorem pigeon : ∀ (n : Nat) (l : List Int), l.Nodup → (∀ x ∈ l, 0 ≤ x ∧ x < n) → l.length ≤ n
  | 0, l, _, h => by
    cases l with
    | nil => simp
    | cons x l => have := h x List.mem_cons_self; omega
  | n + 1, l, nd, h => by
    by_cases hm : (n : Int) ∈ l
    · have := pigeon n (l.erase (n : Int)) (nd.erase _) fun x hx => by
        have h1 := h x (List.mem_of_mem_erase hx)
        have h2 : x ≠ (n : Int) := ((List.Nodup.mem_erase_iff nd).mp hx).1
        omega
      rw [List.length_erase_of_mem hm] at this
      omega
    · have := pigeon n l nd fun x hx => by
        have h1 := h x hx
        have h2 : x ≠ (n : Int) := fun e => hm (e ▸ hx)
        omega
      omega
structure TownOk (ns : List Int) (mm : List (Int × Int)) : Prop where
  ln : ns.length ≤ 63
  nd : (mm.map (·.1)).Nodup
  rg : ∀ k ∈ mm.map (·.1), 0 ≤ k ∧ k < 64
theorem TownOk.len {ns : List Int} {mm : List (Int × Int)} (h : TownOk ns mm) : mm.length ≤ 64 := by
  have := pigeon 64 _ h.nd h.rg
  simpa using this
theorem putI_keys (m : List (Int × Int)) (k v : Int) : (putI m k v).map (·.1) = if k ∈ m.map (·.1) then m.map (·.1) else m.map (·.1) ++ [k] := by
  unfold putI
  by_cases h : k ∈ m.map (·.1)
  · have e : (m.any fun p => decide (p.1 = k)) = true := by
      obtain ⟨p, h1, h2⟩ := List.mem_map.mp h
      exact List.any_eq_true.mpr ⟨p, h1, by simpa using h2⟩
    rw [if_pos e, if_pos h, List.map_map]
    refine List.map_congr_left fun p _ => ?_
    by_cases q : p.1 = k <;> simp [q]
  · have e : ¬ (m.any fun p => decide (p.1 = k)) = true := fun z => by
      obtain ⟨p, h1, h2⟩ := List.any_eq_true.mp z
      exact h (List.mem_map.mpr ⟨p, h1, by simpa using h2⟩)
    rw [if_neg e, if_neg h]
    simp
theorem TownOk.put {ns : List Int} {mm : List (Int × Int)} (h : TownOk ns mm) {k v : Int} (h0 : 0 ≤ k) (h1 : k < 64) : TownOk ns (putI mm k v) := by
  refine ⟨h.ln, ?_, ?_⟩
  · rw [putI_keys]
    split
    · exact h.nd
    · rename_i hk
      rw [List.nodup_append]
      refine ⟨h.nd, by simp, fun a ha b hb e => ?_⟩
      rw [List.mem_singleton.mp hb] at e
      exact hk (e ▸ ha)
  · rw [putI_keys]
    split
    · exact h.rg
    · intro x hx
      rcases List.mem_append.mp hx with hx | hx
      · exact h.rg x hx
      · rw [List.mem_singleton.mp hx]
        exact ⟨h0, h1⟩
theorem TownOk.nil {ns : List Int} (h : ns.length ≤ 63) : TownOk ns [] := ⟨h, List.nodup_nil, fun k hk => by simp at hk⟩
theorem mod_int (a b : Int) (h : 0 < b) : modD (.int a) (.int b) = some (.int (a % b)) := by simp [modD, h]
theorem draw_rest (ns : List Int) (c : Int) (mm : List (Int × Int)) (many : Int) (hT : TownOk ns mm) (h0 : 0 < many) (h1 : many < 1073741824) (at' rest : Int) (ha : 0 ≤ at' ∧ at' < 64) :
    ∃ v mm' ρ1, sSeq (sIf (toT (e2 (op2 geD) (eVar 4) (e2 (op2 powD) (eC (.int 10)) (eC (.int 18))))) (sSeq (sRst 1 (e2 (op2 divD) (eVar 4) (eVar 2)) (eVar 3)) (sRet (e2 (op2 modD) (eVar 4) (eVar 2)))) sNil) (sSeq (sAsg (e2 (op2 modD) (e2 (op2 addD) (eVar 4) (e2 (op2 mulI) (eC (.int 104729)) (eCnt 1))) (eC (.int 4294967291))) (put 5)) (sSeq (sAsg (e2 (op2 modD) (e2 (op2 powD) (eVar 5) (eC (.int 5))) (eC (.int 4294967279))) (put 5)) (sRet (e2 (op2 modD) (e2 (op2 divD) (e2 (op2 modD) (e2 (op2 addD) (e2 (op2 mulI) (e2 (op2 divD) (eVar 5) (eC (.int 64))) (eC (.int 69621))) (eVar 5)) (eC (.int 4294967231))) (eC (.int 8))) (eVar 2)))))
      [some (.s ns), some (.t c mm), some (.d (.int many)), some (.d (.int at')), some (.d (.int rest)), none] = some (.ret (.int v) ρ1) ∧ tAt 1 ρ1 = some (c, mm') ∧ 0 ≤ v ∧ v < many ∧ TownOk ns mm' := by
  have hge : Et (toT (e2 (op2 geD) (eVar 4) (e2 (op2 powD) (eC (.int 10)) (eC (.int 18))))) [some (.s ns), some (.t c mm), some (.d (.int many)), some (.d (.int at')), some (.d (.int rest)), none] (decide ((1000000000000000000 : Int) ≤ rest)) :=
    et_toT (ev_op (ev_var rfl) (ev_op ev_c ev_c (show powD (.int 10) (.int 18) = some (.int 1000000000000000000) by simp [powD])) rfl)
  by_cases hr : (1000000000000000000 : Int) ≤ rest
  · refine ⟨rest % many, putI mm at' (rest / many), [some (.s ns), some (.t c (putI mm at' (rest / many))), some (.d (.int many)), some (.d (.int at')), some (.d (.int rest)), none], ?_, rfl, Int.emod_nonneg _ (by omega), Int.emod_lt_of_pos _ h0, hT.put ha.1 ha.2⟩
    refine es_stop (es_if hge (fun _ => es_seq ?_ (es_ret (ev_op (ev_var rfl) (ev_var rfl) (mod_int _ _ h0)))) fun h => by simp at h; omega)
    have l := hT.len
    have e1 : e2 (op2 divD) (eVar 4) (eVar 2) [some (.s ns), some (.t c mm), some (.d (.int many)), some (.d (.int at')), some (.d (.int rest)), none] = some (.d (.int (rest / many)), [some (.s ns), some (.t c mm), some (.d (.int many)), some (.d (.int at')), some (.d (.int rest)), none]) := ev_op (ev_var rfl) (ev_var rfl) (by simp [divD, h0, h1])
    have e2' : eVar 3 [some (.s ns), some (.t c mm), some (.d (.int many)), some (.d (.int at')), some (.d (.int rest)), none] = some (.d (.int at'), [some (.s ns), some (.t c mm), some (.d (.int many)), some (.d (.int at')), some (.d (.int rest)), none]) := rfl
    unfold sRst
    rw [e1]
    simp only [e2', tAt, List.getElem?_cons_succ, List.getElem?_cons_zero, Option.bind_some]
    rw [if_pos (by omega)]
    rfl
  · generalize hn1 : (rest + 104729 * c) % 4294967291 = n1
    have b1 : 0 ≤ n1 ∧ n1 < 4294967291 := by
      rw [← hn1]
      exact ⟨Int.emod_nonneg _ (by omega), Int.emod_lt_of_pos _ (by omega)⟩
    generalize hn2 : n1 ^ 5 % 4294967279 = n2
    have b2 : 0 ≤ n2 ∧ n2 < 4294967279 := by
      rw [← hn2]
      exact ⟨Int.emod_nonneg _ (by omega), Int.emod_lt_of_pos _ (by omega)⟩
    refine ⟨(n2 / 64 * 69621 + n2) % 4294967231 / 8 % many, mm, [some (.s ns), some (.t c mm), some (.d (.int many)), some (.d (.int at')), some (.d (.int rest)), some (.d (.int n2))], ?_, rfl, Int.emod_nonneg _ (by omega), Int.emod_lt_of_pos _ h0, hT⟩
    have ec : ∀ x : Option B, Ev (eCnt 1) [some (.s ns), some (.t c mm), some (.d (.int many)), some (.d (.int at')), some (.d (.int rest)), x] (.int c) := fun _ => rfl
    refine es_seq (es_if hge (fun h => by simp at h; omega) fun _ => es_nil) (es_seq (es_set (v := .int n1) (ev_op (ev_op (ev_var rfl) (ev_op ev_c (ec _) (show mulI (.int 104729) (.int c) = some (.int (104729 * c)) by simp [mulI])) rfl) ev_c (by rw [mod_int _ _ (by omega), hn1])) (by simp)) (es_seq (es_set (v := .int n2) (ev_op (ev_op (ev_var rfl) ev_c (show powD (.int n1) (.int 5) = some (.int (n1 ^ 5)) by simp [powD]; omega)) ev_c (by rw [mod_int _ _ (by omega), hn2])) (by simp)) (es_ret ?_)))
    refine ev_op (ev_op (ev_op (ev_op (ev_op (ev_op (ev_var rfl) ev_c (show divD (.int n2) (.int 64) = some (.int (n2 / 64)) by simp [divD])) ev_c (show mulI (.int (n2 / 64)) (.int 69621) = some (.int (n2 / 64 * 69621)) by simp [mulI])) (ev_var rfl) rfl) ev_c (mod_int _ _ (by omega))) ev_c (show divD (.int ((n2 / 64 * 69621 + n2) % 4294967231)) (.int 8) = some (.int ((n2 / 64 * 69621 + n2) % 4294967231 / 8)) by simp [divD])) (ev_var rfl) (mod_int _ _ h0)
theorem draw_ok (ns : List Int) (c : Int) (mm : List (Int × Int)) (many : Int) (hT : TownOk ns mm) (h0 : 0 < many) (h1 : many < 1073741824) : ∃ v mm', m__law_draw ns c mm [.int many] = some (.int v, c + 1, mm') ∧ 0 ≤ v ∧ v < many ∧ TownOk ns mm' := by
  have key : ∀ at' rest : Int, 0 ≤ at' → at' < 64 → F__law_draw [some (.s ns), some (.t c mm), some (.d (.int many)), none, none, none] = sSeq (sIf (toT (e2 (op2 geD) (eVar 4) (e2 (op2 powD) (eC (.int 10)) (eC (.int 18))))) (sSeq (sRst 1 (e2 (op2 divD) (eVar 4) (eVar 2)) (eVar 3)) (sRet (e2 (op2 modD) (eVar 4) (eVar 2)))) sNil) (sSeq (sAsg (e2 (op2 modD) (e2 (op2 addD) (eVar 4) (e2 (op2 mulI) (eC (.int 104729)) (eCnt 1))) (eC (.int 4294967291))) (put 5)) (sSeq (sAsg (e2 (op2 modD) (e2 (op2 powD) (eVar 5) (eC (.int 5))) (eC (.int 4294967279))) (put 5)) (sRet (e2 (op2 modD) (e2 (op2 divD) (e2 (op2 modD) (e2 (op2 addD) (e2 (op2 mulI) (e2 (op2 divD) (eVar 5) (eC (.int 64))) (eC (.int 69621))) (eVar 5)) (eC (.int 4294967231))) (eC (.int 8))) (eVar 2)))))
      [some (.s ns), some (.t (c + 1) mm), some (.d (.int many)), some (.d (.int at')), some (.d (.int rest)), none] → ∃ v mm', m__law_draw ns c mm [.int many] = some (.int v, c + 1, mm') ∧ 0 ≤ v ∧ v < many ∧ TownOk ns mm' := fun at' rest g0 g1 e => by
    obtain ⟨v, mm', ρ1, r1, r2, r3⟩ := draw_rest ns (c + 1) mm many hT h0 h1 at' rest ⟨g0, g1⟩
    refine ⟨v, mm', ?_, r3⟩
    show runT 6 F__law_draw ns c mm [.int many] = _
    unfold runT
    have hb : DL.bindArgs [.int many] = some [.d (.int many)] := by simp [DL.bindArgs, bindArg, imm]
    rw [hb]
    simp only [Option.bind_some]
    rw [show pad 6 [.s ns, .t c mm, .d (.int many)] = [some (.s ns), some (.t c mm), some (.d (.int many)), none, none, none] from rfl, e, r1]
    simp [outD, r2]
  have l63 := hT.ln
  have s1 : sCnt 1 (e2 (op2 addD) (eCnt 1) (eC (.int 1))) [some (.s ns), some (.t c mm), some (.d (.int many)), none, none, none] = some (.next [some (.s ns), some (.t (c + 1) mm), some (.d (.int many)), none, none, none]) := rfl
  have tr : ∀ x y z : Option B, Et (tTruS 0) [some (.s ns), some (.t (c + 1) mm), some (.d (.int many)), x, y, z] (!ns.isEmpty) := fun _ _ _ => rfl
  cases hns : ns with
  | nil =>
    subst hns
    refine key 0 ((getI mm 0).getD 0) (by omega) (by omega) ?_
    unfold F__law_draw
    have s2 : sAsg (ifE (tTruS 0) (e2 (op2 modD) (eCnt 1) (eLenS 0)) (eC (.int 0))) (put 3) [some (.s []), some (.t (c + 1) mm), some (.d (.int many)), none, none, none] = some (.next [some (.s []), some (.t (c + 1) mm), some (.d (.int many)), some (.d (.int 0)), none, none]) := rfl
    have s3 : sAsg (eRst 1 (eVar 3) (ifE (tTruS 0) (eIxS 0 (eVar 3)) (eC (.int 0)))) (put 4) [some (.s []), some (.t (c + 1) mm), some (.d (.int many)), some (.d (.int 0)), none, none] = some (.next [some (.s []), some (.t (c + 1) mm), some (.d (.int many)), some (.d (.int 0)), some (.d (.int ((getI mm 0).getD 0))), none]) := rfl
    simp only [sSeq, s1, s2, s3, Option.bind_some]
  | cons n0 nr =>
    rw [← hns]
    have hl : 0 < ns.length := by rw [hns]; simp
    have g0 : 0 ≤ (c + 1) % (ns.length : Int) := Int.emod_nonneg _ (by omega)
    have g1 : (c + 1) % (ns.length : Int) < ns.length := Int.emod_lt_of_pos _ (by omega)
    generalize ha : (c + 1) % (ns.length : Int) = at' at *
    obtain ⟨n, hn⟩ : ∃ n, atI ns at' = some n := by
      unfold atI ixN
      rw [if_pos g0, if_pos g1]
      exact ⟨ns[at'.toNat]'(by omega), by simp⟩
    refine key at' ((getI mm at').getD n) g0 (by omega) ?_
    unfold F__law_draw
    have he : ns.isEmpty = false := by rw [hns]; rfl
    have s2 : sAsg (ifE (tTruS 0) (e2 (op2 modD) (eCnt 1) (eLenS 0)) (eC (.int 0))) (put 3) [some (.s ns), some (.t (c + 1) mm), some (.d (.int many)), none, none, none] = some (.next [some (.s ns), some (.t (c + 1) mm), some (.d (.int many)), some (.d (.int at')), none, none]) := by
      refine es_set (v := .int at') (ev_if (tr _ _ _) (fun _ => ev_op (x := .int (c + 1)) (y := .int ns.length) rfl rfl ?_) fun h => by simp [he] at h) (by simp)
      rw [mod_int _ _ (by omega), ha]
    have s3 : sAsg (eRst 1 (eVar 3) (ifE (tTruS 0) (eIxS 0 (eVar 3)) (eC (.int 0)))) (put 4) [some (.s ns), some (.t (c + 1) mm), some (.d (.int many)), some (.d (.int at')), none, none] = some (.next [some (.s ns), some (.t (c + 1) mm), some (.d (.int many)), some (.d (.int at')), some (.d (.int ((getI mm at').getD n))), none]) := by
      have ei : ifE (tTruS 0) (eIxS 0 (eVar 3)) (eC (.int 0)) [some (.s ns), some (.t (c + 1) mm), some (.d (.int many)), some (.d (.int at')), none, none] = some (.d (.int n), [some (.s ns), some (.t (c + 1) mm), some (.d (.int many)), some (.d (.int at')), none, none]) := by
        refine ev_if (tr _ _ _) (fun _ => ?_) fun h => by simp [he] at h
        show eIxS 0 (eVar 3) _ = _
        simp [eIxS, sAt, eVar, hn]
      refine es_set (v := .int ((getI mm at').getD n)) ?_ (by simp)
      show eRst 1 _ _ _ = _
      have ev3 : eVar 3 [some (.s ns), some (.t (c + 1) mm), some (.d (.int many)), some (.d (.int at')), none, none] = some (.d (.int at'), [some (.s ns), some (.t (c + 1) mm), some (.d (.int many)), some (.d (.int at')), none, none]) := rfl
      simp [eRst, tAt, ev3, ei]
    simp only [sSeq, s1, s2, s3, Option.bind_some]
end W
namespace W
open PySem L2 DL

/-! ### a draw within an expression -/
abbrev drawE (f : FE) : FE := eCallT 1 m__law_draw (aCons (eVar 0) (aCons (eVar 1) (aCons f aNil)))
theorem drawE_ok {ρ : Rho} {ns : List Int} {c : Int} {mm : List (Int × Int)} {f : FE} {many : Int} (hT : TownOk ns mm) (h0 : ρ[0]? = some (some (.s ns))) (h1 : ρ[1]? = some (some (.t c mm))) (hf : Ev f ρ (.int many)) (g0 : 0 < many) (g1 : many < 1073741824) :
    ∃ v mm', drawE f ρ = some (.d (.int v), ρ.set 1 (some (.t (c + 1) mm'))) ∧ 0 ≤ v ∧ v < many ∧ TownOk ns mm' := by
  obtain ⟨v, mm', e, r⟩ := draw_ok ns c mm many hT g0 g1
  refine ⟨v, mm', ?_, r⟩
  have a0 : eVar 0 ρ = some (.own 0, ρ) := by simp [eVar, h0]
  have a1 : eVar 1 ρ = some (.own 1, ρ) := by simp [eVar, h1]
  have a2 : f ρ = some (.d (.int many), ρ) := hf
  have s0 : sAt 0 ρ = some ns := by simp [sAt, h0]
  have t1 : tAt 1 ρ = some (c, mm) := by simp [tAt, h1]
  simp [drawE, eCallT, aCons, aNil, a0, a1, a2, s0, t1, rdos, rdo, e]

/-! ### _law_mixed -/
theorem ne_nil (ss : List Str) : neD (.list (ss.map .str)) (.list []) = some (.bool (!ss.isEmpty)) := by
  unfold neD
  rw [if_pos (by simp [PyData.depth, depth_strs])]
  cases ss with
  | nil => simp [PyData.eqv, PyData.eqvAll]
  | cons s ss => simp [PyData.eqv, PyData.eqvAll]
theorem erase_map : ∀ (l : List Str) (k : Nat), (l.map PyData.str).eraseIdx k = (l.eraseIdx k).map .str
  | [], _ => rfl
  | s :: l, 0 => rfl
  | s :: l, k + 1 => by simp [erase_map l k]
theorem erase_perm : ∀ (l : List Str) (k : Nat) (h : k < l.length), (l[k] :: l.eraseIdx k).Perm l
  | s :: l, 0, _ => List.Perm.refl _
  | s :: l, k + 1, h => by
    have ih := erase_perm l k (by simpa using h)
    simp only [List.getElem_cons_succ, List.eraseIdx_cons_succ]
    exact (List.Perm.swap s _ _).trans (List.Perm.cons s ih)
theorem mixed_loop (ns : List Int) (names : D) (least : Int) : ∀ (k : Nat) (rest found : List Str) (c : Int) (mm : List (Int × Int)) (fuel : Nat), rest.length ≤ k → k < fuel → rest.length + found.length ≤ 1000 → TownOk ns mm →
    ∃ (rest' found' : List Str) (c' : Int) (mm' : List (Int × Int)), whileD (andT (toT (e2 (op2 neD) (eVar 4) (ofF (fLst aNil)))) (orT (toT (e2 (op2 ltD) (eB (b1 lenD) (aCons (eVar 5) aNil)) (eVar 3))) (toT (e2 (op2 gtD) (drawE (eC (.int 5))) (eC (.int 0)))))) (sApp 5 (ePop 4 (drawE (eB (b1 lenD) (aCons (eVar 4) aNil))))) fuel
        [some (.s ns), some (.t c mm), some (.d names), some (.d (.int least)), some (.l (rest.map .str)), some (.l (found.map .str))] =
      some (.next [some (.s ns), some (.t c' mm'), some (.d names), some (.d (.int least)), some (.l (rest'.map .str)), some (.l (found'.map .str))]) ∧ TownOk ns mm' ∧ (found' ++ rest').Perm (found ++ rest) ∧ (rest' = [] ∨ least ≤ found'.length)
  | k, rest, found, c, mm, 0, _, h, _, _ => by omega
  | k, rest, found, c, mm, fuel + 1, h1, h2, h3, hT => by
    rw [whileD_eq]
    have hN : Et (toT (e2 (op2 neD) (eVar 4) (ofF (fLst aNil)))) [some (.s ns), some (.t c mm), some (.d names), some (.d (.int least)), some (.l (rest.map .str)), some (.l (found.map .str))] (!rest.isEmpty) := et_toT (ex_op (ex_own rfl) (ev_F (ef_lst ea_nil (by simp))).ex (ne_nil rest))
    have hL : Et (toT (e2 (op2 ltD) (eB (b1 lenD) (aCons (eVar 5) aNil)) (eVar 3))) [some (.s ns), some (.t c mm), some (.d names), some (.d (.int least)), some (.l (rest.map .str)), some (.l (found.map .str))] (decide ((found.length : Int) < least)) := et_toT (ev_op (ex_b1 (y := .int found.length) (ex_own rfl) (by simp [lenD])) (ev_var rfl) (lt_int _ _))
    -- the body, once
    have body : ∀ (c1 : Int) (mm1 : List (Int × Int)), TownOk ns mm1 → rest ≠ [] → ∃ (rest2 found2 : List Str) (c2 : Int) (mm2 : List (Int × Int)), sApp 5 (ePop 4 (drawE (eB (b1 lenD) (aCons (eVar 4) aNil)))) [some (.s ns), some (.t c1 mm1), some (.d names), some (.d (.int least)), some (.l (rest.map .str)), some (.l (found.map .str))] =
        some (.next [some (.s ns), some (.t c2 mm2), some (.d names), some (.d (.int least)), some (.l (rest2.map .str)), some (.l (found2.map .str))]) ∧ TownOk ns mm2 ∧ (found2 ++ rest2).Perm (found ++ rest) ∧ rest2.length + 1 = rest.length := by
      intro c1 mm1 hT1 hne
      have hpos : 0 < rest.length := List.length_pos_iff.mpr hne
      obtain ⟨v, mm2, e, v0, v1, hT2⟩ := drawE_ok (ρ := [some (.s ns), some (.t c1 mm1), some (.d names), some (.d (.int least)), some (.l (rest.map .str)), some (.l (found.map .str))]) (f := eB (b1 lenD) (aCons (eVar 4) aNil)) (many := rest.length) hT1 rfl rfl (ex_b1 (y := .int rest.length) (ex_own rfl) (by simp [lenD])) (by omega) (by omega)
      have hv : v.toNat < rest.length := by omega
      refine ⟨rest.eraseIdx v.toNat, found ++ [rest[v.toNat]], c1 + 1, mm2, ?_, hT2, ?_, ?_⟩
      · have ep : ePop 4 (drawE (eB (b1 lenD) (aCons (eVar 4) aNil))) [some (.s ns), some (.t c1 mm1), some (.d names), some (.d (.int least)), some (.l (rest.map .str)), some (.l (found.map .str))] = some (.d (.str rest[v.toNat]), [some (.s ns), some (.t (c1 + 1) mm2), some (.d names), some (.d (.int least)), some (.l ((rest.eraseIdx v.toNat).map .str)), some (.l (found.map .str))]) := by
          unfold ePop
          rw [e]
          simp only [ownAt, List.getElem?_cons_succ, List.getElem?_cons_zero, Option.bind_some, List.set_cons_succ, List.set_cons_zero]
          rw [if_pos ⟨v0, by simpa using v1, by omega⟩]
          simp [hv, erase_map]
        unfold sApp
        rw [ep]
        simp only [ownAt, List.getElem?_cons_succ, List.getElem?_cons_zero, Option.bind_some, out1, List.set_cons_succ, List.set_cons_zero]
        rw [if_pos (by rw [sizeL]; simp; omega)]
        simp
      · have hp : (rest[v.toNat] :: rest.eraseIdx v.toNat).Perm rest := erase_perm rest v.toNat hv
        rw [List.append_assoc]
        exact List.Perm.append_left found hp
      · rw [List.length_eraseIdx]
        simp [hv]
        omega
    by_cases hr : rest = []
    · subst hr
      refine ⟨[], found, c, mm, ?_, hT, List.Perm.refl _, .inl rfl⟩
      have := et_and (u := orT (toT (e2 (op2 ltD) (eB (b1 lenD) (aCons (eVar 5) aNil)) (eVar 3))) (toT (e2 (op2 gtD) (drawE (eC (.int 5))) (eC (.int 0))))) (b := true) hN fun h => by simp at h
      rw [show andT _ _ _ = some (_, _) from this]
      rfl
    · have hr1 : rest.isEmpty = false := by
        cases rest with
        | nil => exact absurd rfl hr
        | cons => rfl
      have go : ∀ (c1 : Int) (mm1 : List (Int × Int)), TownOk ns mm1 → andT (toT (e2 (op2 neD) (eVar 4) (ofF (fLst aNil)))) (orT (toT (e2 (op2 ltD) (eB (b1 lenD) (aCons (eVar 5) aNil)) (eVar 3))) (toT (e2 (op2 gtD) (drawE (eC (.int 5))) (eC (.int 0))))) [some (.s ns), some (.t c mm), some (.d names), some (.d (.int least)), some (.l (rest.map .str)), some (.l (found.map .str))] = some (true, [some (.s ns), some (.t c1 mm1), some (.d names), some (.d (.int least)), some (.l (rest.map .str)), some (.l (found.map .str))]) →
          ∃ (rest' found' : List Str) (c' : Int) (mm' : List (Int × Int)), ((andT (toT (e2 (op2 neD) (eVar 4) (ofF (fLst aNil)))) (orT (toT (e2 (op2 ltD) (eB (b1 lenD) (aCons (eVar 5) aNil)) (eVar 3))) (toT (e2 (op2 gtD) (drawE (eC (.int 5))) (eC (.int 0)))))) [some (.s ns), some (.t c mm), some (.d names), some (.d (.int least)), some (.l (rest.map .str)), some (.l (found.map .str))]).bind (fun p => if p.1 = true then (sApp 5 (ePop 4 (drawE (eB (b1 lenD) (aCons (eVar 4) aNil)))) p.2).bind fun o => match o with
            | .next ρ2 => whileD (andT (toT (e2 (op2 neD) (eVar 4) (ofF (fLst aNil)))) (orT (toT (e2 (op2 ltD) (eB (b1 lenD) (aCons (eVar 5) aNil)) (eVar 3))) (toT (e2 (op2 gtD) (drawE (eC (.int 5))) (eC (.int 0)))))) (sApp 5 (ePop 4 (drawE (eB (b1 lenD) (aCons (eVar 4) aNil))))) fuel ρ2
            | .cont ρ2 => whileD (andT (toT (e2 (op2 neD) (eVar 4) (ofF (fLst aNil)))) (orT (toT (e2 (op2 ltD) (eB (b1 lenD) (aCons (eVar 5) aNil)) (eVar 3))) (toT (e2 (op2 gtD) (drawE (eC (.int 5))) (eC (.int 0)))))) (sApp 5 (ePop 4 (drawE (eB (b1 lenD) (aCons (eVar 4) aNil))))) fuel ρ2
            | .brk ρ2 => some (.next ρ2)
            | .ret d ρ2 => some (.ret d ρ2) else some (.next p.2)) =
          some (.next [some (.s ns), some (.t c' mm'), some (.d names), some (.d (.int least)), some (.l (rest'.map .str)), some (.l (found'.map .str))]) ∧ TownOk ns mm' ∧ (found' ++ rest').Perm (found ++ rest) ∧ (rest' = [] ∨ least ≤ found'.length) := by
        intro c1 mm1 hT1 hc
        obtain ⟨rest2, found2, c2, mm2, e2, hT2, p2, l2⟩ := body c1 mm1 hT1 hr
        have pl := p2.length_eq
        simp only [List.length_append] at pl
        obtain ⟨rest', found', c', mm', e3, hT3, p3, q3⟩ := mixed_loop ns names least (k - 1) rest2 found2 c2 mm2 fuel (by omega) (by omega) (by omega) hT2
        refine ⟨rest', found', c', mm', ?_, hT3, p3.trans p2, q3⟩
        rw [hc]
        simp only [Option.bind_some, if_true, e2]
        exact e3
      by_cases hl : (found.length : Int) < least
      · refine go c mm hT ?_
        have := et_and hN fun _ => et_or (u := toT (e2 (op2 gtD) (drawE (eC (.int 5))) (eC (.int 0)))) (b := true) hL fun h => by simp [hl] at h
        simpa [Et, hr1, hl] using this
      · obtain ⟨v, mm2, e, v0, v1, hT2⟩ := drawE_ok (ρ := [some (.s ns), some (.t c mm), some (.d names), some (.d (.int least)), some (.l (rest.map .str)), some (.l (found.map .str))]) (f := eC (.int 5)) (many := 5) hT rfl rfl ev_c (by omega) (by omega)
        have hN' : toT (e2 (op2 neD) (eVar 4) (ofF (fLst aNil))) [some (.s ns), some (.t c mm), some (.d names), some (.d (.int least)), some (.l (rest.map .str)), some (.l (found.map .str))] = some (true, [some (.s ns), some (.t c mm), some (.d names), some (.d (.int least)), some (.l (rest.map .str)), some (.l (found.map .str))]) := by
          have := hN
          rw [hr1] at this
          exact this
        have hL' : toT (e2 (op2 ltD) (eB (b1 lenD) (aCons (eVar 5) aNil)) (eVar 3)) [some (.s ns), some (.t c mm), some (.d names), some (.d (.int least)), some (.l (rest.map .str)), some (.l (found.map .str))] = some (false, [some (.s ns), some (.t c mm), some (.d names), some (.d (.int least)), some (.l (rest.map .str)), some (.l (found.map .str))]) := by
          have := hL
          rw [decide_eq_false hl] at this
          exact this
        have hD : toT (e2 (op2 gtD) (drawE (eC (.int 5))) (eC (.int 0))) [some (.s ns), some (.t c mm), some (.d names), some (.d (.int least)), some (.l (rest.map .str)), some (.l (found.map .str))] = some (decide (0 < v), [some (.s ns), some (.t (c + 1) mm2), some (.d names), some (.d (.int least)), some (.l (rest.map .str)), some (.l (found.map .str))]) := by
          unfold toT e2
          rw [e]
          rfl
        have hc : andT (toT (e2 (op2 neD) (eVar 4) (ofF (fLst aNil)))) (orT (toT (e2 (op2 ltD) (eB (b1 lenD) (aCons (eVar 5) aNil)) (eVar 3))) (toT (e2 (op2 gtD) (drawE (eC (.int 5))) (eC (.int 0))))) [some (.s ns), some (.t c mm), some (.d names), some (.d (.int least)), some (.l (rest.map .str)), some (.l (found.map .str))] = some (decide (0 < v), [some (.s ns), some (.t (c + 1) mm2), some (.d names), some (.d (.int least)), some (.l (rest.map .str)), some (.l (found.map .str))]) := by
          unfold andT
          rw [hN']
          simp only [Option.bind_some, if_true]
          unfold orT
          rw [hL']
          simp only [Option.bind_some, Bool.false_eq_true, if_false]
          exact hD
        by_cases hv : 0 < v
        · rw [decide_eq_true hv] at hc
          exact go (c + 1) mm2 hT2 hc
        · refine ⟨rest, found, c + 1, mm2, ?_, hT2, List.Perm.refl _, .inr (by omega)⟩
          rw [hc, decide_eq_false hv]
          rfl
theorem mixed_ok (ns : List Int) (c : Int) (mm : List (Int × Int)) (names : List Str) (least : Int) (hT : TownOk ns mm) (hz : names.length ≤ 100) :
    ∃ (r : List Str) (c' : Int) (mm' : List (Int × Int)), m__law_mixed ns c mm [.tuple (names.map .str), .int least] = some (.tuple (r.map .str), c', mm') ∧ TownOk ns mm' ∧ (∃ q, (r ++ q).Perm names) ∧ (names ≠ [] → 1 ≤ least → r ≠ []) := by
  obtain ⟨rest', found', c', mm', e, hT', hp, hq⟩ := mixed_loop ns (.tuple (names.map .str)) least names.length names [] c mm 200 (Nat.le_refl _) (by omega) (by simp; omega) hT
  refine ⟨found', c', mm', ?_, hT', ⟨rest', by simpa using hp⟩, fun h1 h2 h3 => ?_⟩
  · show runT 6 F__law_mixed ns c mm _ = _
    unfold runT
    have hb : DL.bindArgs [.tuple (names.map .str), .int least] = some [.d (.tuple (names.map .str)), .d (.int least)] := by
      have h1 : immL (names.map .str) = true := immL_map (fun _ => rfl) names
      simp [DL.bindArgs, bindArg, imm, h1]
    rw [hb]
    simp only [Option.bind_some]
    have s1 : sPar [4, 5] (xF (fB listD (eVar 2)) (xF (fLst aNil) xNil)) [some (.s ns), some (.t c mm), some (.d (.tuple (names.map .str))), some (.d (.int least)), none, none] = some (.next [some (.s ns), some (.t c mm), some (.d (.tuple (names.map .str))), some (.d (.int least)), some (.l (names.map .str)), some (.l [])]) := rfl
    have s3 : sRet (eB (b1 tupD) (aCons (eVar 5) aNil)) [some (.s ns), some (.t c' mm'), some (.d (.tuple (names.map .str))), some (.d (.int least)), some (.l (rest'.map .str)), some (.l (found'.map .str))] = some (.ret (.tuple (found'.map .str)) [some (.s ns), some (.t c' mm'), some (.d (.tuple (names.map .str))), some (.d (.int least)), some (.l (rest'.map .str)), some (.l (found'.map .str))]) := es_ret (ex_b1 (ex_own rfl) rfl)
    have : F__law_mixed (pad 6 [.s ns, .t c mm, .d (.tuple (names.map .str)), .d (.int least)]) = some (.ret (.tuple (found'.map .str)) [some (.s ns), some (.t c' mm'), some (.d (.tuple (names.map .str))), some (.d (.int least)), some (.l (rest'.map .str)), some (.l (found'.map .str))]) := by
      show F__law_mixed [some (.s ns), some (.t c mm), some (.d (.tuple (names.map .str))), some (.d (.int least)), none, none] = _
      unfold F__law_mixed
      exact es_seq s1 (es_seq e s3)
    rw [this]
    simp [outD, tAt]
  · subst h3
    rcases hq with hq | hq
    · subst hq
      have := hp.length_eq
      simp at this
      exact h1 (List.length_eq_zero_iff.mp this.symm)
    · simp at hq
      omega
end W
namespace W
open PySem L2 DL

/-! ### _law_a_book -/
abbrev pairE (p : Str × List Str) : D := .tuple [.str p.1, .tuple (p.2.map .str)]
abbrev mixE (i j : Nat) : FE := eTup (aCons (eVar i) (aCons (eCallT 2 m__law_mixed (aCons (eVar 0) (aCons (eVar 1) (aCons (eVar j) (aCons (eC (.int 1)) aNil))))) aNil))
def Drawn (names : List Str) (t : Tab) : Prop := ∀ p ∈ t, (∃ q, (p.2 ++ q).Perm names) ∧ (names ≠ [] → p.2 ≠ [])
theorem mixE_ok {ρ : Rho} {ns : List Int} {c : Int} {mm : List (Int × Int)} {i j : Nat} {h : Str} {names : List Str} (h0 : ρ[0]? = some (some (.s ns))) (h1 : ρ[1]? = some (some (.t c mm))) (hi : ρ[i]? = some (some (.d (.str h)))) (hj : ρ[j]? = some (some (.d (.tuple (names.map .str))))) (hT : TownOk ns mm) (hz : names.length ≤ 100) :
    ∃ r c' mm', mixE i j ρ = some (.d (pairE (h, r)), ρ.set 1 (some (.t c' mm'))) ∧ TownOk ns mm' ∧ (∃ q, (r ++ q).Perm names) ∧ (names ≠ [] → r ≠ []) := by
  obtain ⟨r, c', mm', e, hT', hp, hn⟩ := mixed_ok ns c mm names 1 hT hz
  refine ⟨r, c', mm', ?_, hT', hp, fun z => hn z (by omega)⟩
  have a0 : eVar 0 ρ = some (.own 0, ρ) := by simp [eVar, h0]
  have a1 : eVar 1 ρ = some (.own 1, ρ) := by simp [eVar, h1]
  have aj : eVar j ρ = some (.d (.tuple (names.map .str)), ρ) := by simp [eVar, hj]
  have ai : eVar i ρ = some (.d (.str h), ρ) := by simp [eVar, hi]
  have s0 : sAt 0 ρ = some ns := by simp [sAt, h0]
  have t1 : tAt 1 ρ = some (c, mm) := by simp [tAt, h1]
  have ec : eCallT 2 m__law_mixed (aCons (eVar 0) (aCons (eVar 1) (aCons (eVar j) (aCons (eC (.int 1)) aNil)))) ρ = some (.d (.tuple (r.map .str)), ρ.set 1 (some (.t c' mm'))) := by
    simp [eCallT, aCons, aNil, eC, a0, a1, aj, s0, t1, rdos, rdo, e]
  simp [mixE, eTup, aCons, aNil, ai, ec, pls, sizeL]
theorem book_lc {ns : List Int} {i j : Nat} {names : List Str} (hi0 : i ≠ 0) (hi1 : i ≠ 1) (hij : i ≠ j) (hj1 : j ≠ 1) (hz : names.length ≤ 100) : ∀ (hs : List Str) (ρ : Rho) (c : Int) (mm : List (Int × Int)), ρ[0]? = some (some (.s ns)) → ρ[1]? = some (some (.t c mm)) → ρ[j]? = some (some (.d (.tuple (names.map .str)))) → ρ[i]? = some none → TownOk ns mm →
    ∃ (t : Tab) (c' : Int) (mm' : List (Int × Int)), lcD (put i) tYesT (mixE i j) [i] (hs.map fun h => R.d (.str h)) ρ = some (t.map pairE, ρ.set 1 (some (.t c' mm'))) ∧ t.map (·.1) = hs ∧ Drawn names t ∧ TownOk ns mm'
  | [], ρ, c, mm, h0, h1, hj, hi, hT => ⟨[], c, mm, by
      have e : ρ.set 1 (some (.t c mm)) = ρ := by
        refine List.ext_getElem? fun m => ?_
        rw [List.getElem?_set]
        split
        · rename_i z
          subst z
          split
          · exact h1.symm
          · rename_i q
            rw [List.getElem?_eq_none (by omega)] at h1
            cases h1
        · rfl
      simp [lcD, e], rfl, (fun p hp => by cases hp), hT⟩
  | h :: hs, ρ, c, mm, h0, h1, hj, hi, hT => by
    have li : i < ρ.length := (List.getElem?_eq_some_iff.mp hi).1
    have l1 : 1 < ρ.length := (List.getElem?_eq_some_iff.mp h1).1
    obtain ⟨r, c1, mm1, e, hT1, hp, hn⟩ := mixE_ok (ρ := ρ.set i (some (.d (.str h)))) (i := i) (j := j) (h := h) (names := names) (by rw [List.getElem?_set_ne hi0]; exact h0) (by rw [List.getElem?_set_ne hi1]; exact h1) (by rw [List.getElem?_set_self li]) (by rw [List.getElem?_set_ne hij]; exact hj) hT hz
    have ew : wpR ((ρ.set i (some (.d (.str h)))).set 1 (some (.t c1 mm1))) [i] = ρ.set 1 (some (.t c1 mm1)) := by
      refine List.ext_getElem? fun m => ?_
      simp only [wpR, List.getElem?_set, List.length_set]
      by_cases a1 : i = m
      · subst a1
        have n1 : ¬ 1 = i := fun z => hi1 z.symm
        rw [if_pos rfl, if_pos li, if_neg n1, hi]
      · by_cases a2 : 1 = m <;> simp [a1, a2]
    have eo : okW ((ρ.set i (some (.d (.str h)))).set 1 (some (.t c1 mm1))) [i] = true := by
      simp [okW, List.getElem?_set, li, Ne.symm hi1]
    obtain ⟨t, c2, mm2, e2, k1, k2, k3⟩ := book_lc hi0 hi1 hij hj1 hz hs (ρ.set 1 (some (.t c1 mm1))) c1 mm1 (by rw [List.getElem?_set_ne (by decide)]; exact h0) (by rw [List.getElem?_set_self l1]) (by rw [List.getElem?_set_ne (Ne.symm hj1)]; exact hj) (by rw [List.getElem?_set_ne (Ne.symm hi1)]; exact hi) hT1
    refine ⟨(h, r) :: t, c2, mm2, ?_, by simp [k1], fun p hp' => ?_, k3⟩
    · rw [List.map_cons, lcD_eq]
      have ep : put i (.d (.str h)) ρ = some (ρ.set i (some (.d (.str h)))) := by simp [put, li]
      rw [ep]
      simp only [Option.bind_some, tYesT, if_true]
      rw [e]
      simp only [Option.bind_some, out1, eo, if_true]
      rw [ew, e2]
      simp [List.set_set]
    · rcases List.mem_cons.mp hp' with rfl | hp'
      · exact ⟨hp, hn⟩
      · exact k2 p hp'
end W
namespace W
open PySem L2 DL
def hNames : List Str := ["barn", "cot", "den", "hut", "inn"]
def pNames : List Str := ["ann", "bob", "cat", "dan", "eve"]
theorem some_draw {ρ : Rho} {ns : List Int} {c : Int} {mm : List (Int × Int)} {f : FE} {many : Int} (hT : TownOk ns mm) (h0 : ρ[0]? = some (some (.s ns))) (h1 : ρ[1]? = some (some (.t c mm))) (hf : Ev f ρ (.int many)) (g0 : 0 < many) (g1 : many < 1073741824) :
    ∃ (k : Nat) (mm' : List (Int × Int)), oSome (e2 (op2 addD) (eC (.int 1)) (drawE f)) ρ = some (some ((k : Nat) : Int), ρ.set 1 (some (.t (c + 1) mm'))) ∧ 1 ≤ k ∧ (k : Int) ≤ many ∧ TownOk ns mm' := by
  obtain ⟨v, mm', e, v0, v1, hT'⟩ := drawE_ok hT h0 h1 hf g0 g1
  refine ⟨(1 + v).toNat, mm', ?_, by omega, by omega, hT'⟩
  have e' : ((1 + v).toNat : Int) = 1 + v := by omega
  unfold oSome e2
  rw [show eC (.int 1) ρ = some (.d (.int 1), ρ) from rfl]
  simp only [Option.bind_some]
  rw [e, e']
  rfl
theorem ret_pair {ρ ρ' : Rho} {x : D} {l : List D} {i : Nat} {k : FF} (e6 : eVar i ρ = some (.d x, ρ)) (hl : k ρ = some (l, ρ')) : sRet (eTup (aCons (eVar i) (aCons (eB (b1 tupD) (aCons (ofF k) aNil)) aNil))) ρ = some (.ret (.tuple [x, .tuple l]) ρ') := by
  simp [sRet, eTup, aCons, aNil, eB, b1, ofF, e6, hl, rdo, tupD, pls, sizeL, out1]
theorem a_book_ok (ns : List Int) (c : Int) (mm : List (Int × Int)) (hm pm : Int) (hT : TownOk ns mm) (h1 : 0 < hm) (h2 : hm ≤ 5) (p1 : 0 < pm) (p2 : pm ≤ 5) :
    ∃ (b : Bk) (k1 k2 : Nat) (c' : Int) (mm' : List (Int × Int)), m__law_a_book ns c mm [.int hm, .int pm] = some (b.enc, c', mm') ∧ TownOk ns mm' ∧ 1 ≤ k1 ∧ (k1 : Int) ≤ hm ∧ 1 ≤ k2 ∧ (k2 : Int) ≤ pm ∧ b.houses = hNames.take k1 ∧ b.people = pNames.take k2 ∧ Drawn b.people b.rows ∧ Drawn b.houses b.likes := by
  obtain ⟨k1, mm1, q1, a1, a2, hT1⟩ := some_draw (ρ := [some (.s ns), some (.t c mm), some (.d (.int hm)), some (.d (.int pm)), none, none, none, none, none]) (f := eVar 2) (many := hm) hT rfl rfl (ev_var rfl) h1 (by omega)
  obtain ⟨k2, mm2, q2, w1, w2, hT2⟩ := some_draw (ρ := [some (.s ns), some (.t (c + 1) mm1), some (.d (.int hm)), some (.d (.int pm)), some (.d (.tuple ((hNames.take k1).map .str))), none, none, none, none]) (f := eVar 3) (many := pm) hT1 rfl rfl (ev_var rfl) p1 (by omega)
  have lh : (hNames.take k1).length ≤ 5 := by simp [hNames, List.length_take]; omega
  have lp : (pNames.take k2).length ≤ 5 := by simp [pNames, List.length_take]; omega
  obtain ⟨t1, c3, mm3, q3, n3, d3, hT3⟩ := book_lc (ns := ns) (i := 7) (j := 5) (names := pNames.take k2) (by decide) (by decide) (by decide) (by decide) (by omega) (hNames.take k1) [some (.s ns), some (.t (c + 1 + 1) mm2), some (.d (.int hm)), some (.d (.int pm)), some (.d (.tuple ((hNames.take k1).map .str))), some (.d (.tuple ((pNames.take k2).map .str))), none, none, none] _ mm2 rfl rfl rfl rfl hT2
  obtain ⟨t2, c4, mm4, q4, n4, d4, hT4⟩ := book_lc (ns := ns) (i := 8) (j := 4) (names := hNames.take k1) (by decide) (by decide) (by decide) (by decide) (by omega) (pNames.take k2) [some (.s ns), some (.t c3 mm3), some (.d (.int hm)), some (.d (.int pm)), some (.d (.tuple ((hNames.take k1).map .str))), some (.d (.tuple ((pNames.take k2).map .str))), some (.d (encT t1)), none, none] _ mm3 rfl rfl rfl rfl hT3
  have r1 : t1.length ≤ 5 := by
    have := congrArg List.length n3
    rw [List.length_map] at this
    omega
  have r2 : t2.length ≤ 5 := by
    have := congrArg List.length n4
    rw [List.length_map] at this
    omega
  refine ⟨⟨t1, t2⟩, k1, k2, c4, mm4, ?_, hT4, a1, a2, w1, w2, n3, n4, ?_, ?_⟩
  · show runT 9 F__law_a_book ns c mm _ = _
    unfold runT
    have hb : DL.bindArgs [.int hm, .int pm] = some [.d (.int hm), .d (.int pm)] := by simp [DL.bindArgs, bindArg, imm]
    rw [hb]
    simp only [Option.bind_some]
    have eH : ∀ ρ : Rho, eTup (aCons (eC (.str "barn")) (aCons (eC (.str "cot")) (aCons (eC (.str "den")) (aCons (eC (.str "hut")) (aCons (eC (.str "inn")) aNil))))) ρ = some (.d (.tuple (hNames.map .str)), ρ) := fun ρ => ev_tup (vs := hNames.map .str) (ea_cons ev_c (ea_cons ev_c (ea_cons ev_c (ea_cons ev_c (ea_cons ev_c ea_nil))))) (by simp [sizeL, hNames, pNames])
    have eP : ∀ ρ : Rho, eTup (aCons (eC (.str "ann")) (aCons (eC (.str "bob")) (aCons (eC (.str "cat")) (aCons (eC (.str "dan")) (aCons (eC (.str "eve")) aNil))))) ρ = some (.d (.tuple (pNames.map .str)), ρ) := fun ρ => ev_tup (vs := pNames.map .str) (ea_cons ev_c (ea_cons ev_c (ea_cons ev_c (ea_cons ev_c (ea_cons ev_c ea_nil))))) (by simp [sizeL, hNames, pNames])
    have s1 : sAsg (eSl (eTup (aCons (eC (.str "barn")) (aCons (eC (.str "cot")) (aCons (eC (.str "den")) (aCons (eC (.str "hut")) (aCons (eC (.str "inn")) aNil)))))) oNone (oSome (e2 (op2 addD) (eC (.int 1)) (drawE (eVar 2))))) (put 4) [some (.s ns), some (.t c mm), some (.d (.int hm)), some (.d (.int pm)), none, none, none, none, none] = some (.next [some (.s ns), some (.t (c + 1) mm1), some (.d (.int hm)), some (.d (.int pm)), some (.d (.tuple ((hNames.take k1).map .str))), none, none, none, none]) := by
      unfold sAsg eSl
      rw [eH]
      simp only [Option.bind_some, oNone]
      rw [q1]
      simp [rdo, cutD_to, out1, put, List.map_take]
    have s2 : sAsg (eSl (eTup (aCons (eC (.str "ann")) (aCons (eC (.str "bob")) (aCons (eC (.str "cat")) (aCons (eC (.str "dan")) (aCons (eC (.str "eve")) aNil)))))) oNone (oSome (e2 (op2 addD) (eC (.int 1)) (drawE (eVar 3))))) (put 5) [some (.s ns), some (.t (c + 1) mm1), some (.d (.int hm)), some (.d (.int pm)), some (.d (.tuple ((hNames.take k1).map .str))), none, none, none, none] = some (.next [some (.s ns), some (.t (c + 1 + 1) mm2), some (.d (.int hm)), some (.d (.int pm)), some (.d (.tuple ((hNames.take k1).map .str))), some (.d (.tuple ((pNames.take k2).map .str))), none, none, none]) := by
      unfold sAsg eSl
      rw [eP]
      simp only [Option.bind_some, oNone]
      rw [q2]
      simp [rdo, cutD_to, out1, put, List.map_take]
    have s3 : sAsg (eB (b1 tupD) (aCons (ofF (fLc (iSeq (eVar 4)) (put 7) tYesT (mixE 7 5) [7])) aNil)) (put 6) [some (.s ns), some (.t (c + 1 + 1) mm2), some (.d (.int hm)), some (.d (.int pm)), some (.d (.tuple ((hNames.take k1).map .str))), some (.d (.tuple ((pNames.take k2).map .str))), none, none, none] = some (.next [some (.s ns), some (.t c3 mm3), some (.d (.int hm)), some (.d (.int pm)), some (.d (.tuple ((hNames.take k1).map .str))), some (.d (.tuple ((pNames.take k2).map .str))), some (.d (encT t1)), none, none]) := by
      have hi : iSeq (eVar 4) [some (.s ns), some (.t (c + 1 + 1) mm2), some (.d (.int hm)), some (.d (.int pm)), some (.d (.tuple ((hNames.take k1).map .str))), some (.d (.tuple ((pNames.take k2).map .str))), none, none, none] = some ((hNames.take k1).map fun h => R.d (.str h), [some (.s ns), some (.t (c + 1 + 1) mm2), some (.d (.int hm)), some (.d (.int pm)), some (.d (.tuple ((hNames.take k1).map .str))), some (.d (.tuple ((pNames.take k2).map .str))), none, none, none]) := by
        simp [iSeq, eVar, out1, seqD, List.map_map, Function.comp_def]
      unfold sAsg eB aCons ofF fLc
      rw [hi]
      simp only [Option.bind_some]
      rw [if_pos ⟨rfl, by rw [List.length_map, sizeL]; omega⟩]
      rw [show wpR [some (.s ns), some (.t (c + 1 + 1) mm2), some (.d (.int hm)), some (.d (.int pm)), some (.d (.tuple ((hNames.take k1).map .str))), some (.d (.tuple ((pNames.take k2).map .str))), none, none, none] [7] = [some (.s ns), some (.t (c + 1 + 1) mm2), some (.d (.int hm)), some (.d (.int pm)), some (.d (.tuple ((hNames.take k1).map .str))), some (.d (.tuple ((pNames.take k2).map .str))), none, none, none] from rfl, q3]
      rfl
    have s4 : sRet (eTup (aCons (eVar 6) (aCons (eB (b1 tupD) (aCons (ofF (fLc (iSeq (eVar 5)) (put 8) tYesT (mixE 8 4) [8])) aNil)) aNil))) [some (.s ns), some (.t c3 mm3), some (.d (.int hm)), some (.d (.int pm)), some (.d (.tuple ((hNames.take k1).map .str))), some (.d (.tuple ((pNames.take k2).map .str))), some (.d (encT t1)), none, none] = some (.ret (Bk.enc ⟨t1, t2⟩) [some (.s ns), some (.t c4 mm4), some (.d (.int hm)), some (.d (.int pm)), some (.d (.tuple ((hNames.take k1).map .str))), some (.d (.tuple ((pNames.take k2).map .str))), some (.d (encT t1)), none, none]) := by
      have hi : iSeq (eVar 5) [some (.s ns), some (.t c3 mm3), some (.d (.int hm)), some (.d (.int pm)), some (.d (.tuple ((hNames.take k1).map .str))), some (.d (.tuple ((pNames.take k2).map .str))), some (.d (encT t1)), none, none] = some ((pNames.take k2).map fun h => R.d (.str h), [some (.s ns), some (.t c3 mm3), some (.d (.int hm)), some (.d (.int pm)), some (.d (.tuple ((hNames.take k1).map .str))), some (.d (.tuple ((pNames.take k2).map .str))), some (.d (encT t1)), none, none]) := by
        simp [iSeq, eVar, out1, seqD, List.map_map, Function.comp_def]
      have hl : fLc (iSeq (eVar 5)) (put 8) tYesT (mixE 8 4) [8] [some (.s ns), some (.t c3 mm3), some (.d (.int hm)), some (.d (.int pm)), some (.d (.tuple ((hNames.take k1).map .str))), some (.d (.tuple ((pNames.take k2).map .str))), some (.d (encT t1)), none, none] = some (t2.map pairE, [some (.s ns), some (.t c4 mm4), some (.d (.int hm)), some (.d (.int pm)), some (.d (.tuple ((hNames.take k1).map .str))), some (.d (.tuple ((pNames.take k2).map .str))), some (.d (encT t1)), none, none]) := by
        unfold fLc
        rw [hi]
        simp only [Option.bind_some]
        rw [if_pos ⟨rfl, by rw [List.length_map, sizeL]; omega⟩]
        rw [show wpR [some (.s ns), some (.t c3 mm3), some (.d (.int hm)), some (.d (.int pm)), some (.d (.tuple ((hNames.take k1).map .str))), some (.d (.tuple ((pNames.take k2).map .str))), some (.d (encT t1)), none, none] [8] = [some (.s ns), some (.t c3 mm3), some (.d (.int hm)), some (.d (.int pm)), some (.d (.tuple ((hNames.take k1).map .str))), some (.d (.tuple ((pNames.take k2).map .str))), some (.d (encT t1)), none, none] from rfl, q4]
        rfl
      have e6 : eVar 6 [some (.s ns), some (.t c3 mm3), some (.d (.int hm)), some (.d (.int pm)), some (.d (.tuple ((hNames.take k1).map .str))), some (.d (.tuple ((pNames.take k2).map .str))), some (.d (encT t1)), none, none] = some (.d (encT t1), [some (.s ns), some (.t c3 mm3), some (.d (.int hm)), some (.d (.int pm)), some (.d (.tuple ((hNames.take k1).map .str))), some (.d (.tuple ((pNames.take k2).map .str))), some (.d (encT t1)), none, none]) := rfl
      exact ret_pair e6 hl
    have : F__law_a_book (pad 9 [.s ns, .t c mm, .d (.int hm), .d (.int pm)]) = some (.ret (Bk.enc ⟨t1, t2⟩) [some (.s ns), some (.t c4 mm4), some (.d (.int hm)), some (.d (.int pm)), some (.d (.tuple ((hNames.take k1).map .str))), some (.d (.tuple ((pNames.take k2).map .str))), some (.d (encT t1)), none, none]) := by
      show F__law_a_book [some (.s ns), some (.t c mm), some (.d (.int hm)), some (.d (.int pm)), none, none, none, none, none] = _
      unfold F__law_a_book
      exact es_seq s1 (es_seq s2 (es_seq s3 s4))
    rw [this]
    simp [outD, tAt]
  · show Drawn (t2.map (·.1)) t1
    rw [n4]
    exact d3
  · show Drawn (t1.map (·.1)) t2
    rw [n3]
    exact d4
end W
namespace W
open PySem L2 DL
/-! ### the drawn book is a book -/
theorem names_h : ∀ k, k ≤ 5 → (hNames.take k).all nameS = true ∧ risingS (hNames.take k) = true := by decide +kernel
theorem names_p : ∀ k, k ≤ 5 → (pNames.take k).all nameS = true ∧ risingS (pNames.take k) = true := by decide +kernel
theorem nd_h : hNames.Nodup := by decide +kernel
theorem nd_p : pNames.Nodup := by decide +kernel
theorem ddl_id : ∀ (l acc : List Key), (acc ++ l).Nodup → l.foldl (fun acc k => if hasK acc k = true then acc else acc ++ [k]) acc = acc ++ l
  | [], acc, _ => by simp
  | k :: l, acc, h => by
    have hk : ¬ hasK acc k = true := fun z => by
      obtain ⟨j, h1, h2⟩ := List.any_eq_true.mp z
      have e : j = k := by simpa using h2
      subst e
      rw [List.nodup_append] at h
      exact h.2.2 j h1 j List.mem_cons_self rfl
    rw [List.foldl_cons, if_neg hk, ddl_id l (acc ++ [k]) (by simpa using h)]
    simp
theorem dist_nodup {ss : List Str} (h : ss.Nodup) : distS ss = true := by
  unfold distS
  have nd : (ss.map (Sum.inr : Str → Key)).Nodup := List.Pairwise.map _ (fun a b h z => h (by injection z)) h
  have := ddl_id (ss.map Sum.inr) [] (by simpa using nd)
  unfold ddl
  rw [this]
  simp
theorem map_txt (ss : List Str) : (ss.map PyData.str).map txt = ss := by simp [List.map_map, Function.comp_def, txt]
theorem someB_strs {ss r : List Str} (nd : r.Nodup) (h : ∀ s ∈ r, s ∈ ss) : someB ss (.tuple (r.map .str)) = true := by
  simp only [someB, map_txt, dist_nodup nd, Bool.and_true, List.all_map]
  rw [List.all_eq_true]
  intro s hs
  simpa [strIn] using h s hs
theorem drawn_row {names r : List Str} (hn : names.Nodup) (h : ∃ q, (r ++ q).Perm names) : r.Nodup ∧ (∀ s ∈ r, s ∈ names) ∧ r.length ≤ names.length := by
  obtain ⟨q, hp⟩ := h
  have nd := hp.nodup_iff.mpr hn
  rw [List.nodup_append] at nd
  refine ⟨nd.1, fun s hs => hp.mem_iff.mp (List.mem_append_left _ hs), ?_⟩
  have := hp.length_eq
  rw [List.length_append] at this
  omega
structure Bk.Good (b : Bk) : Prop where
  ok : b.Ok
  nh : b.houses.all nameS = true ∧ risingS b.houses = true
  np : b.people.all nameS = true ∧ risingS b.people = true
  p0 : b.people ≠ []
theorem good_of {b : Bk} {k1 k2 : Nat} (a1 : k1 ≤ 5) (b0 : 1 ≤ k2) (b1 : k2 ≤ 5) (eh : b.houses = hNames.take k1) (ep : b.people = pNames.take k2) (dr : Drawn b.people b.rows) (dl : Drawn b.houses b.likes) : b.Good := by
  have lh : b.rows.length ≤ 5 := by
    have := congrArg List.length eh
    rw [Bk.houses, List.length_map, List.length_take] at this
    simp [hNames] at this
    omega
  have lp : b.likes.length ≤ 5 := by
    have := congrArg List.length ep
    rw [Bk.people, List.length_map, List.length_take] at this
    simp [pNames] at this
    omega
  have nh : b.houses.Nodup := by
    rw [eh]
    exact nd_h.sublist (List.take_sublist _ _)
  have np : b.people.Nodup := by
    rw [ep]
    exact nd_p.sublist (List.take_sublist _ _)
  have lh' : b.houses.length ≤ 5 := by rw [Bk.houses, List.length_map]; exact lh
  have lp' : b.people.length ≤ 5 := by rw [Bk.people, List.length_map]; exact lp
  refine ⟨⟨lh, lp, nh, np, fun p hp => ?_, fun p hp => ?_⟩, by rw [eh]; exact names_h k1 a1, by rw [ep]; exact names_p k2 b1, fun z => ?_⟩
  · obtain ⟨z1, z2, z3⟩ := drawn_row np (dr p hp).1
    exact ⟨by omega, z1, z2⟩
  · obtain ⟨z1, z2, z3⟩ := drawn_row nh (dl p hp).1
    exact ⟨by omega, z1, z2⟩
  · rw [ep] at z
    have := congrArg List.length z
    rw [List.length_take] at this
    simp [pNames] at this
    omega
theorem fst0_enc (t : Tab) : (t.map pairE).map fst0 = t.map (·.1) := by simp [List.map_map, Function.comp_def, fst0]
theorem named_enc {t : Tab} (hl : t.length ≤ 5) (h1 : (t.map (·.1)).all nameS = true) (h2 : risingS (t.map (·.1)) = true) : namedB (encT t) = true := by
  show (decide ((t.map pairE).length ≤ 5) && (t.map pairE).all pairB && risingS ((t.map pairE).map fst0)) = true
  rw [fst0_enc, h2, List.length_map, decide_eq_true hl]
  simp only [Bool.true_and, Bool.and_true, List.all_map]
  rw [List.all_map] at h1
  exact h1
theorem book_good {b : Bk} (g : b.Good) : bookB b.enc = true := by
  have e1 : namesOf (encT b.rows) = b.houses := fst0_enc b.rows
  have e2 : namesOf (encT b.likes) = b.people := fst0_enc b.likes
  have s1 : allSome b.people (encT b.rows) = true := by
    show (b.rows.map pairE).all _ = true
    rw [List.all_map, List.all_eq_true]
    intro p hp
    obtain ⟨_, z2, z3⟩ := g.ok.ir p hp
    exact someB_strs z2 z3
  have s2 : allSome b.houses (encT b.likes) = true := by
    show (b.likes.map pairE).all _ = true
    rw [List.all_map, List.all_eq_true]
    intro p hp
    obtain ⟨_, z2, z3⟩ := g.ok.il p hp
    exact someB_strs z2 z3
  show (namedB (encT b.rows) && namedB (encT b.likes) && (allSome (namesOf (encT b.likes)) (encT b.rows) && allSome (namesOf (encT b.rows)) (encT b.likes))) = true
  rw [e1, e2, s1, s2, named_enc g.ok.lr g.nh.1 g.nh.2, named_enc g.ok.ll g.np.1 g.np.2]
  rfl
end W
namespace W
open PySem L2 DL
/-! ### how large -/
def tiny : Nat → D → Bool
  | 0, _ => false
  | _ + 1, .str s => decide (s.length ≤ 500)
  | n + 1, .tuple xs => decide (xs.length ≤ 5) && xs.all (tiny n)
  | _ + 1, .list _ => false
  | _ + 1, .dict _ => false
  | _ + 1, .none => true
  | _ + 1, .bool _ => true
  | _ + 1, .int _ => true
theorem tiny_small : ∀ {n : Nat} {d : D}, tiny n d = true → small n d = true
  | 0, d, h => by simp [tiny] at h
  | n + 1, d, h => by
    cases d with
    | tuple xs =>
      simp [tiny] at h
      simp only [small, Bool.and_eq_true, decide_eq_true_eq, List.all_eq_true]
      exact ⟨by omega, fun x hx => tiny_small (h.2 x hx)⟩
    | str s => simpa [tiny, small] using h
    | list xs => simp [tiny] at h
    | dict k => simp [tiny] at h
    | none => rfl
    | bool b => rfl
    | int i => rfl
def most : Nat → Nat
  | 0 => 0
  | n + 1 => 5 * (4 + most n) + 3
theorem spoils_len {n M : Nat} {xs : List D} : ∀ {l : List D} {i : Nat}, (∀ x ∈ l, (spoil n x).length ≤ M) → (spoils n xs i l).length ≤ l.length * (4 + M)
  | [], i, _ => by simp [spoils]
  | x :: l, i, h => by
    have ih := spoils_len (xs := xs) (l := l) (i := i + 1) fun y hy => h y (List.mem_cons_of_mem _ hy)
    have h1 := h x List.mem_cons_self
    rw [spoils, List.length_append, spoilAt, List.length_map, List.length_append, List.length_cons, Nat.succ_mul]
    have : odds.length = 4 := rfl
    omega
theorem spoil_len : ∀ {m n : Nat} {d : D}, tiny n d = true → (spoil m d).length ≤ most m
  | 0, n, d, _ => by simp [spoil]
  | m + 1, 0, d, h => by simp [tiny] at h
  | m + 1, n + 1, d, h => by
    cases d with
    | tuple xs =>
      simp [tiny] at h
      have := spoils_len (n := m) (M := most m) (xs := xs) (l := xs) (i := 0) fun x hx => spoil_len (h.2 x hx)
      rw [spoil, List.length_append, most]
      have h5 : xs.length * (4 + most m) ≤ 5 * (4 + most m) := Nat.mul_le_mul_right _ h.1
      simp
      omega
    | _ => simp [spoil]
end W
namespace W
open PySem L2 DL
theorem name_len {s : Str} (h : nameS s = true) : s.length ≤ 8 := by
  simp [nameS] at h
  omega
theorem tiny_encT {t : Tab} (hl : t.length ≤ 5) (h1 : ∀ p ∈ t, p.1.length ≤ 500 ∧ p.2.length ≤ 5 ∧ ∀ s ∈ p.2, s.length ≤ 500) : tiny 4 (encT t) = true := by
  show (decide ((t.map pairE).length ≤ 5) && (t.map pairE).all (tiny 3)) = true
  rw [List.length_map, decide_eq_true hl, Bool.true_and, List.all_map, List.all_eq_true]
  intro p hp
  obtain ⟨z1, z2, z3⟩ := h1 p hp
  simp [tiny, z1, z2]
  exact z3
theorem tiny_enc {b : Bk} (g : b.Good) : tiny 5 b.enc = true := by
  have n1 : ∀ s ∈ b.houses, s.length ≤ 500 := fun s hs => Nat.le_trans (name_len (List.all_eq_true.mp g.nh.1 s hs)) (by decide)
  have n2 : ∀ s ∈ b.people, s.length ≤ 500 := fun s hs => Nat.le_trans (name_len (List.all_eq_true.mp g.np.1 s hs)) (by decide)
  have t1 := tiny_encT g.ok.lr fun p hp => ⟨n1 p.1 (List.mem_map.mpr ⟨p, hp, rfl⟩), (g.ok.ir p hp).1, fun s hs => n2 s ((g.ok.ir p hp).2.2 s hs)⟩
  have t2 := tiny_encT g.ok.ll fun p hp => ⟨n2 p.1 (List.mem_map.mpr ⟨p, hp, rfl⟩), (g.ok.il p hp).1, fun s hs => n1 s ((g.ok.il p hp).2.2 s hs)⟩
  simp only [Bk.enc, tiny, List.all_cons, List.all_nil, t1, t2]
  rfl
end W
namespace W
open PySem L2 DL
theorem lhomes_eq (b : Bk) (ok : b.Ok) (p : Str) (hp : p ∈ b.people) : m__law_homes [b.enc, .str p] = some (.list ((b.homes p).map .str)) := by
  have goal : F__law_homes [some (.d b.enc), some (.d (.str p)), none, none, none] = some (.ret (.list ((b.homes p).map .str)) [some (.d b.enc), some (.d (.str p)), some (.m (kvT b.rows)), some (.m (kvT b.likes)), none]) := by
    unfold F__law_homes
    have lr := ok.lr
    have ll := ok.ll
    have nr : ((kvT b.rows).map (·.1)).Nodup := by rw [kvT_keys]; exact ok.nr
    have nl : ((kvT b.likes).map (·.1)).Nodup := by rw [kvT_keys]; exact ok.nl
    have s1 : sPar [2, 3] (xM (mDict (e2 (op2 idxD) (eVar 0) (eC (.int 0)))) (xM (mDict (e2 (op2 idxD) (eVar 0) (eC (.int 1)))) xNil)) [some (.d b.enc), some (.d (.str p)), none, none, none] = some (.next [some (.d b.enc), some (.d (.str p)), some (.m (kvT b.rows)), some (.m (kvT b.likes)), none]) := by
      have m1 : mDict (e2 (op2 idxD) (eVar 0) (eC (.int 0))) [some (.d b.enc), some (.d (.str p)), none, none, none] = some (kvT b.rows, [some (.d b.enc), some (.d (.str p)), none, none, none]) := by
        unfold mDict
        rw [show e2 (op2 idxD) (eVar 0) (eC (.int 0)) [some (.d b.enc), some (.d (.str p)), none, none, none] = some (.d (encT b.rows), _) from ev_op (ev_var rfl) ev_c (idx0 _ _)]
        simp only [Option.bind_some, rdo, dict_encT]
        rw [if_pos ⟨nr, by simp [kvT, sizeL]; omega⟩]
      have m2 : mDict (e2 (op2 idxD) (eVar 0) (eC (.int 1))) [some (.d b.enc), some (.d (.str p)), none, none, none] = some (kvT b.likes, [some (.d b.enc), some (.d (.str p)), none, none, none]) := by
        unfold mDict
        rw [show e2 (op2 idxD) (eVar 0) (eC (.int 1)) [some (.d b.enc), some (.d (.str p)), none, none, none] = some (.d (encT b.likes), _) from ev_op (ev_var rfl) ev_c (idx1 _ _ _)]
        simp only [Option.bind_some, rdo, dict_encT]
        rw [if_pos ⟨nl, by simp [kvT, sizeL]; omega⟩]
      unfold sPar xM xNil
      rw [m1]
      simp only [Option.bind_some]
      rw [m2]
      rfl
    refine es_seq s1 (es_ret ?_)
    have hm := lkT_mem (t := b.likes) hp
    obtain ⟨z1, z2, z3⟩ := ok.il _ hm
    have z1 : (lkT b.likes p).length ≤ 5 := z1
    have hl := ef_lc1 (ρ := [some (.d b.enc), some (.d (.str p)), some (.m (kvT b.rows)), some (.m (kvT b.likes)), none]) (i := 4) (t := toT (e2 (op2 inD) (eVar 1) (eMGet' 2 (eVar 4)))) (f := eVar 4) (fi := iSeq (eMGet' 3 (eVar 1))) (xs := (lkT b.likes p).map .str)
      (fun d => decide (p ∈ lkT b.rows (txt d))) (fun d => d) (ei_seq (ev_mget rfl (ev_var rfl) (lkp_kvT hp)) rfl) (by simp) rfl (by simp [sizeL]; omega) (fun d hd => ?_) (fun d hd _ => ev_var rfl)
    · have := ev_F hl
      have e : (((lkT b.likes p).map PyData.str).filter fun d => decide (p ∈ lkT b.rows (txt d))).map (fun d => d) = (b.homes p).map .str := by
        rw [List.map_id', List.filter_map]
        rfl
      rw [e] at this
      exact this
    · obtain ⟨h, hh, rfl⟩ := List.mem_map.mp hd
      exact et_toT (ev_op (ev_var rfl) (ev_mget rfl (ev_var rfl) (lkp_kvT (z3 h hh))) (in_strsT _ _))
  exact runB_of (bs := [.d b.enc, .d (.str p)]) (by simp [DL.bindArgs, bindArg, imm_enc, imm]) goal
end W
namespace W
open PySem L2 DL
/-! ### _law_a_standing -/
def encO : Option Str → D
  | some s => .str s
  | none => .none
def encS (fs : List (Option Str)) : D := .tuple (fs.map encO)
theorem depth_opts (fs : List (Option Str)) : PyData.depthAll (fs.map encO) = 0 := by
  induction fs with
  | nil => rfl
  | cons o fs ih => cases o <;> simp [PyData.depthAll, PyData.depth, encO, ih]
theorem any_opt (fs : List (Option Str)) (h : Str) : ((fs.map encO).any fun y => PyData.eqv y (.str h)) = decide (some h ∈ fs) := by
  induction fs with
  | nil => simp
  | cons o fs ih =>
    rw [List.map_cons, List.any_cons, ih]
    cases o with
    | none => simp [encO, PyData.eqv]
    | some s =>
      show (PyData.eqv (.str s) (.str h) || _) = _
      rw [eqv_str]
      by_cases e : s = h
      · simp [e]
      · simp [e, Ne.symm e]
theorem nin_opts (fs : List (Option Str)) (h : Str) : ninD (.str h) (.list (fs.map encO)) = some (.bool (!decide (some h ∈ fs))) := by
  simp only [ninD, inB]
  rw [if_pos (by rw [depth_opts]; decide), any_opt]
  rfl
theorem in_opts (fs : List (Option Str)) (h : Str) : inD (.str h) (.tuple (fs.map encO)) = some (.bool (decide (some h ∈ fs))) := by
  simp only [inD, inB]
  rw [if_pos (by rw [depth_opts]; decide), any_opt]
  rfl
theorem nin_optsT (fs : List (Option Str)) (h : Str) : ninD (.str h) (.tuple (fs.map encO)) = some (.bool (!decide (some h ∈ fs))) := by
  simp only [ninD, inB]
  rw [if_pos (by rw [depth_opts]; decide), any_opt]
  rfl
abbrev standBody : FS := sSeq (sOwn 6 (fLc (iSeq (eCall 2 m__law_homes (aCons (eVar 2) (aCons (eVar 4) aNil)))) (put 8) (toT (e2 (op2 ninD) (eVar 8) (eVar 3))) (eVar 8) [8])) (sSeq (sAsg (andE (e2 (op2 neD) (eVar 6) (ofF (fLst aNil))) (e2 (op2 gtD) (drawE (eC (.int 3))) (eC (.int 0)))) (put 7)) (sApp 3 (ifE (truR (eVar 7)) (e2 (op2 idxD) (eVar 6) (drawE (eB (b1 lenD) (aCons (eVar 6) aNil)))) (eC .none))))
theorem homes_len {b : Bk} (ok : b.Ok) {p : Str} (hp : p ∈ b.people) : (b.homes p).length ≤ 5 := by
  have := (ok.il _ (lkT_mem (t := b.likes) hp)).1
  exact Nat.le_trans (List.length_filter_le _ _) this
theorem app_of {ρ : Rho} {x : Option B} {a1 a2 a4 a5 a6 a7 a8 : Option B} {xs : List D} {f : FE} {d : D} {a1' : Option B} (hf : f [x, a1, a2, some (.l xs), a4, a5, a6, a7, a8] = some (.d d, [x, a1', a2, some (.l xs), a4, a5, a6, a7, a8])) (hz : xs.length ≤ 1000) :
    sApp 3 f [x, a1, a2, some (.l xs), a4, a5, a6, a7, a8] = some (.next [x, a1', a2, some (.l (xs ++ [d])), a4, a5, a6, a7, a8]) := by
  unfold sApp
  rw [hf]
  simp only [ownAt, List.getElem?_cons_succ, List.getElem?_cons_zero, Option.bind_some, out1, List.set_cons_succ, List.set_cons_zero]
  rw [if_pos (by rw [sizeL]; omega)]
theorem stand_step {ns : List Int} (b : Bk) (ok : b.Ok) (p : Str) (hp : p ∈ b.people) (fs : List (Option Str)) (hz : fs.length ≤ 100) (L : D) (x6 x7 : Option B) (c : Int) (mm : List (Int × Int)) (hT : TownOk ns mm) :
    ∃ (o : Option Str) (c' : Int) (mm' : List (Int × Int)) (y6 y7 : Option B), standBody [some (.s ns), some (.t c mm), some (.d b.enc), some (.l (fs.map encO)), some (.d (.str p)), some (.d L), x6, x7, none] =
      some (.next [some (.s ns), some (.t c' mm'), some (.d b.enc), some (.l ((fs ++ [o]).map encO)), some (.d (.str p)), some (.d L), y6, y7, none]) ∧ (∀ h, o = some h → h ∈ b.homes p ∧ some h ∉ fs) ∧ TownOk ns mm' := by
  have hl := ef_lc1 (ρ := [some (.s ns), some (.t c mm), some (.d b.enc), some (.l (fs.map encO)), some (.d (.str p)), some (.d L), x6, x7, none]) (i := 8) (t := toT (e2 (op2 ninD) (eVar 8) (eVar 3))) (f := eVar 8) (fi := iSeq (eCall 2 m__law_homes (aCons (eVar 2) (aCons (eVar 4) aNil)))) (xs := (b.homes p).map .str)
    (fun d => !decide (some (txt d) ∈ fs)) (fun d => d) (ei_seq (ev_call (ea_cons (ev_var rfl) (ea_cons (ev_var rfl) ea_nil)) rfl (lhomes_eq b ok p hp)) rfl) (by simp) rfl (by have := homes_len ok hp; simp [sizeL]; omega) (fun d hd => by
      obtain ⟨h, hh, rfl⟩ := List.mem_map.mp hd
      exact et_toT (ex_op (ev_var rfl).ex (ex_own rfl) (nin_opts fs h))) (fun d hd _ => ev_var rfl)
  generalize hfree : (b.homes p).filter (fun h => !decide (some h ∈ fs)) = free
  have ef : (((b.homes p).map PyData.str).filter fun d => !decide (some (txt d) ∈ fs)).map (fun d => d) = free.map .str := by
    rw [List.map_id', List.filter_map, ← hfree]
    rfl
  rw [ef] at hl
  have s1 := es_own (i := 6) hl (by simp)
  have s1 : sOwn 6 _ _ = some (.next [some (.s ns), some (.t c mm), some (.d b.enc), some (.l (fs.map encO)), some (.d (.str p)), some (.d L), some (.l (free.map .str)), x7, none]) := s1
  have lf : free.length ≤ 5 := by
    rw [← hfree]
    exact Nat.le_trans (List.length_filter_le _ _) (homes_len ok hp)
  have hmem : ∀ h ∈ free, h ∈ b.homes p ∧ some h ∉ fs := fun h hh => by
    rw [← hfree] at hh
    simpa using hh
  have hN : Ev (e2 (op2 neD) (eVar 6) (ofF (fLst aNil))) [some (.s ns), some (.t c mm), some (.d b.enc), some (.l (fs.map encO)), some (.d (.str p)), some (.d L), some (.l (free.map .str)), x7, none] (.bool (!free.isEmpty)) := ex_op (ex_own rfl) (ev_F (ef_lst ea_nil (by simp))).ex (ne_nil free)
  have none_case : ∀ (c1 : Int) (mm1 : List (Int × Int)), TownOk ns mm1 → sAsg (andE (e2 (op2 neD) (eVar 6) (ofF (fLst aNil))) (e2 (op2 gtD) (drawE (eC (.int 3))) (eC (.int 0)))) (put 7) [some (.s ns), some (.t c mm), some (.d b.enc), some (.l (fs.map encO)), some (.d (.str p)), some (.d L), some (.l (free.map .str)), x7, none] = some (.next [some (.s ns), some (.t c1 mm1), some (.d b.enc), some (.l (fs.map encO)), some (.d (.str p)), some (.d L), some (.l (free.map .str)), some (.d (.bool false)), none]) →
      ∃ (o : Option Str) (c' : Int) (mm' : List (Int × Int)) (y6 y7 : Option B), standBody [some (.s ns), some (.t c mm), some (.d b.enc), some (.l (fs.map encO)), some (.d (.str p)), some (.d L), x6, x7, none] =
      some (.next [some (.s ns), some (.t c' mm'), some (.d b.enc), some (.l ((fs ++ [o]).map encO)), some (.d (.str p)), some (.d L), y6, y7, none]) ∧ (∀ h, o = some h → h ∈ b.homes p ∧ some h ∉ fs) ∧ TownOk ns mm' := by
    intro c1 mm1 hT1 s2
    refine ⟨none, c1, mm1, some (.l (free.map .str)), some (.d (.bool false)), es_seq s1 (es_seq s2 ?_), (fun h e => by cases e), hT1⟩
    rw [List.map_append]
    exact app_of (ρ := []) (ev_if (et_bool (ev_var rfl)) (fun h => by cases h) fun _ => ev_c) (by simp; omega)
  cases hfr : free with
  | nil =>
    subst hfr
    refine none_case c mm hT ?_
    exact es_set (ev_and (a := false) (b := false) hN fun h => by cases h) (by simp)
  | cons f0 fr =>
    have hne : free.isEmpty = false := by rw [hfr]; rfl
    rw [hne] at hN
    obtain ⟨v, mm2, e, v0, v1, hT2⟩ := drawE_ok (ρ := [some (.s ns), some (.t c mm), some (.d b.enc), some (.l (fs.map encO)), some (.d (.str p)), some (.d L), some (.l (free.map .str)), x7, none]) (f := eC (.int 3)) (many := 3) hT rfl rfl ev_c (by omega) (by omega)
    have s2 : sAsg (andE (e2 (op2 neD) (eVar 6) (ofF (fLst aNil))) (e2 (op2 gtD) (drawE (eC (.int 3))) (eC (.int 0)))) (put 7) [some (.s ns), some (.t c mm), some (.d b.enc), some (.l (fs.map encO)), some (.d (.str p)), some (.d L), some (.l (free.map .str)), x7, none] = some (.next [some (.s ns), some (.t (c + 1) mm2), some (.d b.enc), some (.l (fs.map encO)), some (.d (.str p)), some (.d L), some (.l (free.map .str)), some (.d (.bool (decide (0 < v)))), none]) := by
      have hg : e2 (op2 gtD) (drawE (eC (.int 3))) (eC (.int 0)) [some (.s ns), some (.t c mm), some (.d b.enc), some (.l (fs.map encO)), some (.d (.str p)), some (.d L), some (.l (free.map .str)), x7, none] = some (.d (.bool (decide (0 < v))), [some (.s ns), some (.t (c + 1) mm2), some (.d b.enc), some (.l (fs.map encO)), some (.d (.str p)), some (.d L), some (.l (free.map .str)), x7, none]) := by
        unfold e2
        rw [e]
        rfl
      unfold sAsg andE
      rw [show e2 (op2 neD) (eVar 6) (ofF (fLst aNil)) [some (.s ns), some (.t c mm), some (.d b.enc), some (.l (fs.map encO)), some (.d (.str p)), some (.d L), some (.l (free.map .str)), x7, none] = some (.d (.bool true), _) from hN]
      simp only [Option.bind_some, rdo, truD, if_true]
      rw [hg]
      rfl
    by_cases hv : 0 < v
    · rw [decide_eq_true hv] at s2
      have hpos : 0 < free.length := by rw [hfr]; simp
      obtain ⟨u, mm3, e3, u0, u1, hT3⟩ := drawE_ok (ρ := [some (.s ns), some (.t (c + 1) mm2), some (.d b.enc), some (.l (fs.map encO)), some (.d (.str p)), some (.d L), some (.l (free.map .str)), some (.d (.bool true)), none]) (f := eB (b1 lenD) (aCons (eVar 6) aNil)) (many := free.length) hT2 rfl rfl (ex_b1 (y := .int free.length) (ex_own rfl) (by simp [lenD])) (by omega) (by omega)
      have hu : u.toNat < free.length := by omega
      refine ⟨some free[u.toNat], c + 1 + 1, mm3, some (.l (free.map .str)), some (.d (.bool true)), es_seq s1 (es_seq s2 ?_), fun h eh => ?_, hT3⟩
      · rw [List.map_append]
        refine app_of (ρ := []) (d := .str free[u.toNat]) (a1' := some (.t (c + 1 + 1) mm3)) ?_ (by simp; omega)
        unfold ifE
        rw [show truR (eVar 7) [some (.s ns), some (.t (c + 1) mm2), some (.d b.enc), some (.l (fs.map encO)), some (.d (.str p)), some (.d L), some (.l (free.map .str)), some (.d (.bool true)), none] = some (true, _) from et_bool (ev_var rfl)]
        simp only [Option.bind_some, if_true]
        unfold e2
        rw [show eVar 6 [some (.s ns), some (.t (c + 1) mm2), some (.d b.enc), some (.l (fs.map encO)), some (.d (.str p)), some (.d L), some (.l (free.map .str)), some (.d (.bool true)), none] = some (.own 6, _) from rfl]
        simp only [Option.bind_some]
        rw [e3]
        have hx : idxD (.list (free.map .str)) (.int u) = some (.str free[u.toNat]) := by
          simp only [idxD, atI, ixN, List.length_map]
          rw [if_pos u0, if_pos u1]
          simp [hu]
        simp [op2, rdo, hx]
      · cases eh
        exact hmem _ (List.getElem_mem hu)
    · rw [decide_eq_false hv] at s2
      exact none_case (c + 1) mm2 hT2 s2
end W
namespace W
open PySem L2 DL
/-! ### standings in plain words -/
theorem ddl_grow : ∀ (l acc : List Key), (l.foldl (fun acc k => if hasK acc k = true then acc else acc ++ [k]) acc).length ≤ acc.length + l.length
  | [], acc => by simp
  | k :: l, acc => by
    rw [List.foldl_cons]
    have := ddl_grow l (if hasK acc k = true then acc else acc ++ [k])
    split at this
    · rename_i h
      rw [if_pos h]
      simp only [List.length_cons]
      omega
    · rename_i h
      rw [if_neg h]
      simp only [List.length_cons, List.length_append, List.length_nil] at *
      omega
theorem ddl_full : ∀ (l acc : List Key), (l.foldl (fun acc k => if hasK acc k = true then acc else acc ++ [k]) acc).length = acc.length + l.length → l.Nodup ∧ ∀ k ∈ l, k ∉ acc
  | [], acc, _ => by simp
  | k :: l, acc, h => by
    rw [List.foldl_cons] at h
    by_cases hk : hasK acc k = true
    · rw [if_pos hk] at h
      have := ddl_grow l acc
      simp only [List.length_cons] at h
      omega
    · rw [if_neg hk] at h
      obtain ⟨h1, h2⟩ := ddl_full l (acc ++ [k]) (by simp only [List.length_cons, List.length_append, List.length_nil] at *; omega)
      have hka : k ∉ acc := fun z => hk (List.any_eq_true.mpr ⟨k, z, by simp⟩)
      refine ⟨List.nodup_cons.mpr ⟨fun z => h2 k z (by simp), h1⟩, fun j hj => ?_⟩
      rcases List.mem_cons.mp hj with rfl | hj
      · exact hka
      · exact fun z => h2 j hj (List.mem_append_left _ z)
theorem dist_iff (ss : List Str) : distS ss = decide ss.Nodup := by
  by_cases h : ss.Nodup
  · rw [dist_nodup h, decide_eq_true h]
  · rw [decide_eq_false h]
    unfold distS ddl
    rw [decide_eq_false]
    intro z
    refine h ?_
    have := (ddl_full (ss.map Sum.inr) [] (by simpa using z)).1
    exact List.Pairwise.of_map _ (fun a b h e => h (by rw [e])) this
def homeS (b : Bk) (q : Str × Option Str) : Bool := match q.2 with
  | none => true
  | some h => decide (h ∈ b.homes q.1)
def standS (b : Bk) (fs : List (Option Str)) : Bool := decide (fs.length = b.people.length) && (decide (fs.filterMap id).Nodup && (b.people.zip fs).all (homeS b))
theorem noS_enc (fs : List (Option Str)) : (fs.map encO).all noS = true := by
  rw [List.all_map, List.all_eq_true]
  intro o _
  cases o <;> rfl
theorem live_enc (fs : List (Option Str)) : (((fs.map encO).filter fun x => !isNone x).map txt) = fs.filterMap id := by
  induction fs with
  | nil => rfl
  | cons o fs ih =>
    cases o with
    | none => simpa [List.filter_cons, encO, isNone] using ih
    | some h => simpa [List.filter_cons, encO, isNone, txt] using ih
theorem home_enc (b : Bk) : ∀ (ps : List Str) (fs : List (Option Str)), (ps.zip (fs.map encO)).all (homeB b) = (ps.zip fs).all (homeS b)
  | [], _ => rfl
  | _ :: _, [] => rfl
  | p :: ps, o :: fs => by
    simp only [List.map_cons, List.zip_cons_cons, List.all_cons, home_enc b ps fs]
    cases o with
    | none => rfl
    | some h => simp [homeB, homeS, encO, isNone, strIn]
theorem standB_enc (b : Bk) (fs : List (Option Str)) : standB b (encS fs) = standS b fs := by
  show (decide ((fs.map encO).length = b.likes.length) && ((fs.map encO).all noS && (distS (((fs.map encO).filter fun x => !isNone x).map txt) && (b.people.zip (fs.map encO)).all (homeB b)))) = _
  rw [noS_enc, live_enc, home_enc, dist_iff, List.length_map]
  simp [standS, Bk.people]
/-! ### the drawn standing -/
theorem stand_loop {ns : List Int} (b : Bk) (ok : b.Ok) : ∀ (t : Tab) (fs : List (Option Str)) (c : Int) (mm : List (Int × Int)) (x4 x5 x6 x7 : Option B), (∀ p ∈ t, p.1 ∈ b.people) → fs.length + t.length ≤ 100 → TownOk ns mm → (fs.filterMap id).Nodup →
    ∃ (gs : List (Option Str)) (c' : Int) (mm' : List (Int × Int)) (y4 y5 y6 y7 : Option B), forD (gT 2 (gC (put 4) (gC (put 5) gN))) standBody (t.map fun p => R.d (pairE p)) [some (.s ns), some (.t c mm), some (.d b.enc), some (.l (fs.map encO)), x4, x5, x6, x7, none] =
      some (.next [some (.s ns), some (.t c' mm'), some (.d b.enc), some (.l ((fs ++ gs).map encO)), y4, y5, y6, y7, none]) ∧ gs.length = t.length ∧ ((t.map (·.1)).zip gs).all (homeS b) = true ∧ ((fs ++ gs).filterMap id).Nodup ∧ TownOk ns mm'
  | [], fs, c, mm, x4, x5, x6, x7, _, _, hT, nd => ⟨[], c, mm, x4, x5, x6, x7, by simp [forD], rfl, rfl, by simpa using nd, hT⟩
  | p :: t, fs, c, mm, x4, x5, x6, x7, hp, hz, hT, nd => by
    simp only [List.length_cons] at hz
    obtain ⟨o, c1, mm1, y6, y7, e1, ho, hT1⟩ := stand_step (ns := ns) b ok p.1 (hp p List.mem_cons_self) fs (by omega) (.tuple (p.2.map .str)) x6 x7 c mm hT
    have nd1 : ((fs ++ [o]).filterMap id).Nodup := by
      rw [List.filterMap_append]
      cases o with
      | none => simpa using nd
      | some h =>
        rw [List.nodup_append]
        refine ⟨nd, by simp, fun a ha b' hb e => ?_⟩
        simp at hb
        subst hb
        subst e
        obtain ⟨z, hz1, hz2⟩ := List.mem_filterMap.mp ha
        simp at hz2
        subst hz2
        exact (ho a rfl).2 hz1
    obtain ⟨gs, c2, mm2, z4, z5, z6, z7, e2, h1, h2, h3, h4⟩ := stand_loop b ok t (fs ++ [o]) c1 mm1 (some (.d (.str p.1))) (some (.d (.tuple (p.2.map .str)))) y6 y7 (fun q hq => hp q (List.mem_cons_of_mem _ hq)) (by simp; omega) hT1 nd1
    refine ⟨o :: gs, c2, mm2, z4, z5, z6, z7, ?_, by simp [h1], ?_, by simpa using h3, h4⟩
    · rw [List.map_cons, for_next (ρ1 := [some (.s ns), some (.t c mm), some (.d b.enc), some (.l (fs.map encO)), some (.d (.str p.1)), some (.d (.tuple (p.2.map .str))), x6, x7, none]) rfl e1, e2]
      simp
    · simp only [List.map_cons, List.zip_cons_cons, List.all_cons, h2, Bool.and_true]
      cases o with
      | none => rfl
      | some h => simpa [homeS] using (ho h rfl).1
theorem a_standing_ok (ns : List Int) (c : Int) (mm : List (Int × Int)) (b : Bk) (ok : b.Ok) (hT : TownOk ns mm) :
    ∃ (fs : List (Option Str)) (c' : Int) (mm' : List (Int × Int)), m__law_a_standing ns c mm [b.enc] = some (encS fs, c', mm') ∧ standS b fs = true ∧ TownOk ns mm' := by
  have ll := ok.ll
  obtain ⟨gs, c2, mm2, z4, z5, z6, z7, eL, h1, h2, h3, h4⟩ := stand_loop (ns := ns) b ok b.likes [] c mm none none none none (fun p hp => List.mem_map.mpr ⟨p, hp, rfl⟩) (by simp; omega) hT (by simp)
  refine ⟨gs, c2, mm2, ?_, ?_, h4⟩
  · show runT 9 F__law_a_standing ns c mm _ = _
    unfold runT
    have hb : DL.bindArgs [b.enc] = some [.d b.enc] := by simp [DL.bindArgs, bindArg, imm_enc]
    rw [hb]
    simp only [Option.bind_some]
    have hF : F__law_a_standing (pad 9 [.s ns, .t c mm, .d b.enc]) = some (.ret (encS gs) [some (.s ns), some (.t c2 mm2), some (.d b.enc), some (.l (gs.map encO)), z4, z5, z6, z7, none]) := by
      show F__law_a_standing [some (.s ns), some (.t c mm), some (.d b.enc), none, none, none, none, none, none] = _
      unfold F__law_a_standing
      refine es_seq (ρ1 := [some (.s ns), some (.t c mm), some (.d b.enc), some (.l []), none, none, none, none, none]) (es_own (ef_lst ea_nil (by simp)) (by simp)) (es_seq (ρ1 := [some (.s ns), some (.t c2 mm2), some (.d b.enc), some (.l (gs.map encO)), z4, z5, z6, z7, none]) ?_ (es_ret (ex_b1 (ex_own rfl) rfl)))
      rw [es_for (rs := b.likes.map fun p => R.d (pairE p)) ?_]
      · exact eL
      · have := ei_seq (f := e2 (op2 idxD) (eVar 2) (eC (.int 1))) (ρ := [some (.s ns), some (.t c mm), some (.d b.enc), some (.l []), none, none, none, none, none]) (ev_op (ev_var rfl) ev_c (idx1 _ _ _)) (seq_encT b.likes)
        rw [List.map_map] at this
        exact this
    rw [hF]
    simp [outD, tAt]
  · unfold standS
    simp only [List.nil_append] at h3
    rw [decide_eq_true h3, show b.people.zip gs = (b.likes.map (·.1)).zip gs from rfl, h2]
    simp [Bk.people, h1]
end W
namespace W
open PySem L2 DL
/-! ### spoilt standings are none -/
theorem standS_inv {b : Bk} {fs : List (Option Str)} (h : standS b fs = true) : fs.length = b.people.length ∧ (fs.filterMap id).Nodup ∧ (b.people.zip fs).all (homeS b) = true := by
  simp [standS] at h
  obtain ⟨h1, h2, h3⟩ := h
  exact ⟨h1, h2, by simpa using h3⟩
theorem homes_house {b : Bk} (ok : b.Ok) {p h : Str} (hp : p ∈ b.people) (hh : h ∈ b.homes p) : h ∈ b.houses :=
  (ok.il _ (lkT_mem (t := b.likes) hp)).2.2 h (List.mem_filter.mp hh).1
theorem homeB_odd {b : Bk} (ok : b.Ok) (hb : ("!" : Str) ∉ b.houses) {p : Str} (hp : p ∈ b.people) : homeB b (p, .str "!") = false := by
  simp only [homeB, isNone, Bool.false_or, strIn, decide_eq_false_iff_not]
  exact fun z => hb (homes_house ok hp z)
theorem all_zip_at {α β : Type} {p : α × β → Bool} {l : List α} {m : List β} {i : Nat} {a : α} {c : β} (h1 : l[i]? = some a) (h2 : m[i]? = some c) (h : p (a, c) = false) : (l.zip m).all p = false := by
  rw [List.all_eq_false]
  refine ⟨(a, c), ?_, by simp [h]⟩
  refine List.mem_of_getElem? (i := i) ?_
  rw [List.getElem?_zip_eq_some]
  exact ⟨h1, h2⟩
theorem stand_spoilt {b : Bk} (ok : b.Ok) (hb : ("!" : Str) ∉ b.houses) {fs : List (Option Str)} (hl : fs.length = b.people.length) {n : Nat} {q : D} (hq : q ∈ spoil (n + 1) (encS fs)) : standB b q = false := by
  rcases mem_spoil hq with ⟨j, x, o, h1, h2, rfl⟩ | rfl | rfl | rfl
  · obtain ⟨f, hf, rfl⟩ := List.mem_map.mp (List.mem_of_getElem? h1)
    have e : spoil n (encO f) = [] := by
      cases f with
      | none => exact spoil_none n
      | some s => exact spoil_str n s
    rw [e, List.append_nil] at h2
    have hj : j < (fs.map encO).length := (List.getElem?_eq_some_iff.mp h1).1
    rcases odds_cases h2 with rfl | rfl | rfl | rfl
    · have hj' : j < b.people.length := by rw [List.length_map] at hj; omega
      simp only [standB]
      rw [all_zip_at (i := j) (a := b.people[j]) (c := .str "!") (by simp [hj']) ?_ (homeB_odd ok hb (List.getElem_mem hj'))]
      · simp
      · rw [List.append_assoc, List.getElem?_append_right (by simp; omega)]
        simp only [List.length_take]
        rw [show j - min j (fs.map encO).length = 0 by omega]
        rfl
    · simp only [standB]
      rw [all_put (p := noS) rfl]
      simp
    · simp only [standB]
      rw [all_put (p := noS) rfl]
      simp
    · simp only [standB]
      rw [all_put (p := noS) rfl]
      simp
  · rfl
  · have : ¬ fs.length + 1 = b.likes.length := by rw [Bk.people, List.length_map] at hl; omega
    simp [standB, this]
  · have : ¬ fs.length + 1 = b.likes.length := by rw [Bk.people, List.length_map] at hl; omega
    simp [standB, this]
/-! ### one more lives in a house -/
theorem lkT_at : ∀ {t : Tab} {i : Nat} {p : Str × List Str}, (t.map (·.1)).Nodup → t[i]? = some p → lkT t p.1 = p.2
  | [], i, p, _, h => by simp at h
  | (k, l) :: t, 0, p, _, h => by
    simp at h
    subst h
    simp [lkT]
  | (k, l) :: t, i + 1, p, nd, h => by
    simp at h
    rw [List.map_cons, List.nodup_cons] at nd
    have hm : p.1 ∈ t.map (·.1) := List.mem_map.mpr ⟨p, List.mem_of_getElem? h, rfl⟩
    have : ¬ k = p.1 := fun z => nd.1 (z ▸ hm)
    rw [lkT, if_neg this]
    exact lkT_at nd.2 h
theorem lkT_of {t : Tab} {p : Str × List Str} (nd : (t.map (·.1)).Nodup) (h : p ∈ t) : lkT t p.1 = p.2 := by
  obtain ⟨i, hi⟩ := List.getElem?_of_mem h
  exact lkT_at nd hi
theorem split3 {α : Type} {l : List α} {i : Nat} {a : α} (h : l[i]? = some a) : l = l.take i ++ a :: l.drop (i + 1) := by
  obtain ⟨h1, h2⟩ := List.getElem?_eq_some_iff.mp h
  rw [← h2]
  simp
theorem mem_live {fs : List (Option Str)} {h : Str} : h ∈ fs.filterMap id ↔ some h ∈ fs := by simp [List.mem_filterMap]
theorem stand_put {b : Bk} (ok : b.Ok) {fs : List (Option Str)} (hs : standS b fs = true) {i : Nat} {p : Str × List Str} (hi : b.likes[i]? = some p) {h : Str} :
    standS b (fs.take i ++ some h :: fs.drop (i + 1)) = (decide (h ∈ p.2) && (decide (p.1 ∈ lkT b.rows h) && !decide (some h ∈ fs.take i ++ fs.drop (i + 1)))) := by
  obtain ⟨hl, nd, ha⟩ := standS_inv hs
  have hp : b.people[i]? = some p.1 := by simp [Bk.people, hi]
  have hil : i < b.people.length := (List.getElem?_eq_some_iff.mp hp).1
  obtain ⟨o, ho⟩ : ∃ o, fs[i]? = some o := ⟨fs[i]'(by omega), by simp⟩
  have e1 := split3 hp
  have e2 := split3 ho
  generalize hA : fs.take i = A at *
  generalize hC : fs.drop (i + 1) = C at *
  generalize hPA : b.people.take i = PA at *
  generalize hPC : b.people.drop (i + 1) = PC at *
  have lA : PA.length = A.length := by
    rw [← hA, ← hPA]
    simp
    omega
  have hh : (h ∈ b.homes p.1) ↔ (h ∈ p.2 ∧ p.1 ∈ lkT b.rows h) := by
    have e : lkT b.likes p.1 = p.2 := lkT_at ok.nl hi
    simp [Bk.homes, e]
  have z1 : (b.people.zip (A ++ some h :: C)).all (homeS b) = decide (h ∈ b.homes p.1) := by
    rw [e2, e1, List.zip_append lA, List.all_append, List.zip_cons_cons, List.all_cons] at ha
    simp only [Bool.and_eq_true] at ha
    rw [e1, List.zip_append lA, List.all_append, List.zip_cons_cons, List.all_cons, ha.1, ha.2.2]
    simp [homeS]
  have z2 : ((A ++ some h :: C).filterMap id).Nodup ↔ some h ∉ A ++ C := by
    rw [e2] at nd
    have nd' : (A.filterMap id ++ C.filterMap id).Nodup := by
      refine nd.sublist ?_
      rw [List.filterMap_append]
      refine List.Sublist.append_left ?_ _
      cases o with
      | none => simp
      | some k => simp
    have em : ∀ x : Str, (x ∈ A.filterMap id ++ C.filterMap id) ↔ some x ∈ A ++ C := fun x => by
      rw [← List.filterMap_append]
      exact mem_live
    rw [← em h]
    have e : (A ++ some h :: C).filterMap id = A.filterMap id ++ h :: C.filterMap id := by simp
    rw [e, List.perm_middle.nodup_iff, List.nodup_cons]
    exact ⟨fun z => z.1, fun z => ⟨z, nd'⟩⟩
  have z3 : (A ++ some h :: C).length = b.people.length := by
    rw [← hl]
    conv => rhs; rw [e2]
    simp
  unfold standS
  rw [z1, decide_eq_true z3, Bool.true_and]
  rw [show decide ((A ++ some h :: C).filterMap id).Nodup = decide (some h ∉ A ++ C) from decide_eq_decide.mpr z2, show decide (h ∈ b.homes p.1) = decide (h ∈ p.2 ∧ p.1 ∈ lkT b.rows h) from decide_eq_decide.mpr hh]
  rw [Bool.decide_and, decide_not]
  cases decide (h ∈ p.2) <;> cases decide (p.1 ∈ lkT b.rows h) <;> simp
end W
namespace W
open PySem L2 DL
/-! ### the law -/
theorem for_keep {g : FG} {k : FS} {I : Rho → Prop} : ∀ (rs : List R), (∀ r ∈ rs, ∀ ρ, I ρ → ∃ ρ1 ρ2, g r ρ = some ρ1 ∧ k ρ1 = some (.next ρ2) ∧ I ρ2) → ∀ ρ, I ρ → ∃ ρ', forD g k rs ρ = some (.next ρ') ∧ I ρ'
  | [], _, ρ, h => ⟨ρ, rfl, h⟩
  | r :: rs, H, ρ, h => by
    obtain ⟨ρ1, ρ2, h1, h2, h3⟩ := H r List.mem_cons_self ρ h
    obtain ⟨ρ', h4, h5⟩ := for_keep rs (fun q hq => H q (List.mem_cons_of_mem _ hq)) ρ2 h3
    exact ⟨ρ', (for_next h1 h2).trans h4, h5⟩
theorem for_loop {fi : FI} {g : FG} {k : FS} {I : Rho → Prop} {ρ : Rho} {rs : List R} (h : Ei fi ρ rs) (hs : ∀ r ∈ rs, ∀ ρ, I ρ → ∃ ρ1 ρ2, g r ρ = some ρ1 ∧ k ρ1 = some (.next ρ2) ∧ I ρ2) (h0 : I ρ) : ∃ ρ', sFor fi g k ρ = some (.next ρ') ∧ I ρ' := by
  rw [es_for h]
  exact for_keep rs hs ρ h0
theorem es_pass {t : FT} {k : FS} {ρ : Rho} {b : Bool} (h : Et t ρ b) (hb : b = false) : sIf t k sNil ρ = some (.next ρ) := by
  subst hb
  exact es_if h (fun z => by cases z) fun _ => rfl
theorem law_is (a c : Bool) : m__law_is [.bool a, .bool c] = some (.bool (a == c)) := by
  refine runA_of (ρ1 := [some (.d (.bool a)), some (.d (.bool c))]) (es_ret (v := .bool (a == c)) ?_) rfl
  have e : (a == c) = (true && (a == c)) := by simp
  rw [e]
  refine ev_and (ev_isi (ev_var rfl) (isD_bool _)) fun _ => ev_op (ev_var rfl) (ev_var rfl) ?_
  cases a <;> cases c <;> simp [eqD, PyData.depth, PyData.eqv]
/-- not _law_is(f, g) where both are the same -/
theorem et_isnt {f g : FE} {ρ : Rho} {a : Bool} (hf : Ev f ρ (.bool a)) (hg : Ev g ρ (.bool a)) : Et (notT (truR (eCall 2 m__law_is (aCons f (aCons g aNil))))) ρ false := by
  have := et_not (et_bool (ev_call (ea_cons hf (ea_cons hg ea_nil)) rfl (law_is a a)))
  simpa using this
theorem len_encT (t : Tab) : lenD (encT t) = some (.int t.length) := by simp [encT, lenD]
theorem mul_ok (x : D) (n : Nat) (h : n ≤ 1000) : mulD (.tuple [x]) (.int n) = some (.tuple (List.replicate n x)) := by
  simp only [mulD]
  rw [if_pos ⟨by omega, by omega⟩]
  simp
theorem rep_none (n : Nat) : PyData.tuple (List.replicate n .none) = encS (List.replicate n none) := by simp [encS, encO]
theorem nowhere_eq (b : Bk) (ok : b.Ok) : m_nowhere [b.enc] = some (encS (List.replicate b.likes.length none)) := by
  have ll := ok.ll
  refine runA_of (ρ1 := [some (.d b.enc)]) (es_ret (v := encS (List.replicate b.likes.length none)) ?_) ?_
  · rw [← rep_none]
    exact ev_op (ev_tup (ea_cons ev_c ea_nil) (by simp [sizeL])) (ev_b1 (ev_op (ev_var rfl) ev_c (idx1 _ _ _)) (len_encT _)) (mul_ok _ _ (by omega))
  · simp only [encS, imm]
    exact immL_map (fun o => by cases o <;> rfl) _
theorem stand_nowhere (b : Bk) : standS b (List.replicate b.likes.length none) = true := by
  have e1 : (List.replicate b.likes.length (none : Option Str)).filterMap id = [] := by
    generalize b.likes.length = n
    induction n with
    | zero => rfl
    | succ n ih => simpa [List.replicate_succ] using ih
  unfold standS
  rw [e1]
  have e2 : (b.people.zip (List.replicate b.likes.length (none : Option Str))).all (homeS b) = true := by
    rw [List.all_eq_true]
    intro q hq
    have := (List.of_mem_zip (a := q.1) (b := q.2) hq).2
    rw [List.mem_replicate] at this
    simp [homeS, this.2]
  rw [e2]
  simp [Bk.people]
theorem eqv_opts : ∀ (fs gs : List (Option Str)), PyData.eqvAll (fs.map encO) (gs.map encO) = decide (fs = gs)
  | [], [] => by simp [PyData.eqvAll]
  | [], _ :: _ => by simp [PyData.eqvAll]
  | _ :: _, [] => by simp [PyData.eqvAll]
  | f :: fs, g :: gs => by
    have ih := eqv_opts fs gs
    simp only [List.map_cons, PyData.eqvAll, ih]
    cases f with
    | none => cases g <;> simp [encO, PyData.eqv]
    | some a =>
      cases g with
      | none => simp [encO, PyData.eqv]
      | some c => simp [encO, eqv_str]
theorem eq_stand (fs gs : List (Option Str)) : eqD (encS fs) (encS gs) = some (.bool (decide (fs = gs))) := by
  unfold eqD
  rw [if_pos (by simp [encS, PyData.depth, depth_opts])]
  simp [encS, PyData.eqv, eqv_opts]
theorem ne_stand (fs gs : List (Option Str)) : neD (encS fs) (encS gs) = some (.bool (!decide (fs = gs))) := by
  unfold neD
  rw [if_pos (by simp [encS, PyData.depth, depth_opts])]
  simp [encS, PyData.eqv, eqv_opts]
theorem imm_encS (fs : List (Option Str)) : imm (encS fs) = true := by
  simp only [encS, imm]
  exact immL_map (fun o => by cases o <;> rfl) _
theorem tiny_encS {fs : List (Option Str)} {n : Nat} (hl : fs.length ≤ 5) (h : ∀ s, some s ∈ fs → s.length ≤ 500) : tiny (n + 2) (encS fs) = true := by
  simp only [encS, tiny, List.length_map, decide_eq_true hl, Bool.true_and, List.all_map, List.all_eq_true]
  intro o ho
  cases o with
  | none => rfl
  | some s => simpa [encO, tiny] using h s ho
theorem nice_encS {fs : List (Option Str)} {n : Nat} (hl : fs.length ≤ 1000) (h : ∀ s, some s ∈ fs → s.length ≤ 500) : nice (n + 2) (encS fs) = true := by
  simp only [encS, nice, List.length_map, decide_eq_true hl, Bool.true_and, List.all_map, List.all_eq_true]
  intro o ho
  cases o with
  | none => rfl
  | some s =>
    have := h s ho
    simp [encO, nice]
    omega
theorem stand_mem {b : Bk} (ok : b.Ok) {fs : List (Option Str)} (hs : standS b fs = true) {h : Str} (hm : some h ∈ fs) : h ∈ b.houses := by
  obtain ⟨hl, _, ha⟩ := standS_inv hs
  obtain ⟨i, hi⟩ := List.getElem?_of_mem hm
  have hil : i < b.people.length := by rw [← hl]; exact (List.getElem?_eq_some_iff.mp hi).1
  have := List.all_eq_true.mp ha (b.people[i], some h) (List.mem_of_getElem? (i := i) (by rw [List.getElem?_zip_eq_some]; exact ⟨by simp [hil], hi⟩))
  exact homes_house ok (List.getElem_mem hil) (by simpa [homeS] using this)
end W
namespace W
open PySem L2 DL
abbrev lawR (ns : List Int) (c : Int) (mm : List (Int × Int)) (b : Bk) (fs : List (Option Str)) (x4 x5 x6 x7 x8 x9 x10 x11 : Option B) : Rho := [some (.s ns), some (.t c mm), some (.d b.enc), some (.d (encS fs)), x4, x5, x6, x7, x8, x9, x10, x11, none]
theorem ends_true : m__law_ends [] = some (.bool true) := by
  have h : (match m__law_ends [] with | some (.bool true) => true | _ => false) = true := by decide +kernel
  split at h
  · rename_i e
    exact e
  · cases h
theorem lst_nil {ρ : Rho} : Ev (ofF (fLst aNil)) ρ (.list []) := ev_F (ef_lst ea_nil (by simp))
theorem law_true (ns : List Int) (hl : ns.length ≤ 63) : m_law ns = some (.bool true) := by
  obtain ⟨b, k1, k2, c1, mm1, eb, hT1, a1, a2, w1, w2, eh, ep, dr, dl⟩ := a_book_ok ns 0 [] 4 4 (TownOk.nil hl) (by omega) (by omega) (by omega) (by omega)
  have g := good_of (by omega) w1 (by omega) eh ep dr dl
  have ok := g.ok
  obtain ⟨fs, c2, mm2, es, hs, hT2⟩ := a_standing_ok ns c1 mm1 b ok hT1
  obtain ⟨lf, ndf, haf⟩ := standS_inv hs
  have lpl : b.people.length = b.likes.length := by simp [Bk.people]
  have ll := ok.ll
  have hb0 : ("!" : Str) ∉ b.houses := fun z => by
    have := List.all_eq_true.mp g.nh.1 _ z
    rw [bang] at this
    cases this
  have hz0 : ("zz" : Str) ∉ b.houses := fun z => by
    rw [eh] at z
    have := List.mem_of_mem_take z
    revert this
    decide +kernel
  have nm : ∀ s ∈ b.houses, s.length ≤ 500 := fun s hs => Nat.le_trans (name_len (List.all_eq_true.mp g.nh.1 s hs)) (by decide)
  have nmf : ∀ s, some s ∈ fs → s.length ≤ 500 := fun s h => nm s (stand_mem ok hs h)
  have tb := tiny_enc g
  have tf : tiny 2 (encS fs) = true := tiny_encS (by omega) nmf
  have p0 : 0 < b.likes.length := by
    rw [← lpl]
    exact List.length_pos_iff.mpr g.p0
  -- what is_standing tells
  have hst : ∀ (d : D), (∃ n, nice (n + 1) d = true) → ∀ (ρ : Rho) (f : FE), ρ[2]? = some (some (.d b.enc)) → Ev f ρ d → Ev (eCall 2 m_is_standing (aCons (eVar 2) (aCons f aNil))) ρ (.bool (standB b d)) := fun d ⟨n, hn⟩ ρ f h2 hf => ev_call (ea_cons (ev_var h2) (ea_cons hf ea_nil)) rfl (stand_eq b ok d hn)
  have sb : (spoil 6 b.enc).length ≤ 1000000 := Nat.le_trans (spoil_len tb) (by decide)
  have sf : (spoil 6 (encS fs)).length ≤ 1000000 := Nat.le_trans (spoil_len tf) (by decide)
  have nb : nice 6 b.enc = true := nice_up (small_nice (tiny_small tb))
  have nf : ∀ n, nice (n + 2) (encS fs) = true := fun n => nice_encS (by omega) nmf
  have eqb : m__law_spoilt [b.enc] = some (.list (spoil 6 b.enc)) := spoil_eq 6 b.enc (imm_enc b) nb sb
  have eqf : m__law_spoilt [encS fs] = some (.list (spoil 6 (encS fs))) := spoil_eq 6 (encS fs) (imm_encS fs) (nf 4) sf
  let ρ0 : Rho := lawR ns c2 mm2 b fs none none none none none none none none
  let I : Rho → Prop := fun ρ => ∃ x4 x5 x6 x7 x8 x9 x10 x11, ρ = lawR ns c2 mm2 b fs x4 x5 x6 x7 x8 x9 x10 x11
  have i0 : I ρ0 := ⟨_, _, _, _, _, _, _, _, rfl⟩
  have s1 : sBg 1 (pad 13 [.s ns]) = some (.next [some (.s ns), some (.t 0 []), none, none, none, none, none, none, none, none, none, none, none]) := rfl
  have s2 : sAsg (eCallT 2 m__law_a_book (aCons (eVar 0) (aCons (eVar 1) (aCons (eC (.int 4)) (aCons (eC (.int 4)) aNil))))) (put 2) [some (.s ns), some (.t 0 []), none, none, none, none, none, none, none, none, none, none, none] = some (.next [some (.s ns), some (.t c1 mm1), some (.d b.enc), none, none, none, none, none, none, none, none, none, none]) := by
    simp [sAsg, eCallT, aCons, aNil, eVar, eC, sAt, tAt, rdos, rdo, eb, out1, put]
  have s3 : sAsg (eCallT 1 m__law_a_standing (aCons (eVar 0) (aCons (eVar 1) (aCons (eVar 2) aNil)))) (put 3) [some (.s ns), some (.t c1 mm1), some (.d b.enc), none, none, none, none, none, none, none, none, none, none] = some (.next ρ0) := by
    simp [sAsg, eCallT, aCons, aNil, eVar, sAt, tAt, rdos, rdo, es, out1, put, ρ0]
  -- a book, a standing
  have g1 : Et (orT (notT (truR (eCall 2 m__law_is (aCons (eCall 1 m_is_book (aApp aNil (aCons (eVar 2) aNil))) (aCons (eC (.bool true)) aNil))))) (notT (truR (eCall 2 m__law_is (aCons (eCall 2 m_is_standing (aApp (aCons (eVar 2) aNil) (aCons (eVar 3) aNil))) (aCons (eC (.bool true)) aNil)))))) ρ0 false := by
    refine et_or (a := false) (b := false) (et_isnt (ev_call (ea_app ea_nil (ea_cons (ev_var rfl) ea_nil)) rfl ?_) ev_c) fun _ => et_isnt (ev_call (ea_app (ea_cons (ev_var rfl) ea_nil) (ea_cons (ev_var rfl) ea_nil)) rfl ?_) ev_c
    · have := book_eq (n := 1) b.enc nb
      rw [book_good g] at this
      exact this
    · have := stand_eq (n := 1) b ok (encS fs) (nf 0)
      rw [standB_enc, hs] at this
      exact this
  have g2 : Et (toT (e2 (op2 neD) (ofF (fLc (iSeq (eCall 1 m__law_spoilt (aCons (eVar 2) aNil))) (put 12) (notT (truR (eCall 2 m__law_is (aCons (eCall 1 m_is_book (aCons (eVar 12) aNil)) (aCons (eC (.bool false)) aNil))))) (eVar 12) [12])) (ofF (fLst aNil)))) ρ0 false := by
    have hlc := ef_lc1 (ρ := ρ0) (i := 12) (t := notT (truR (eCall 2 m__law_is (aCons (eCall 1 m_is_book (aCons (eVar 12) aNil)) (aCons (eC (.bool false)) aNil))))) (f := eVar 12) (fi := iSeq (eCall 1 m__law_spoilt (aCons (eVar 2) aNil))) (xs := spoil 6 b.enc) (fun _ => false) (fun d => d) (ei_seq (ev_call (ea_cons (ev_var rfl) ea_nil) rfl eqb) rfl) (by simp [ρ0]) rfl (by rw [sizeL]; omega) (fun q hq => ?_) (fun q _ h => by cases h)
    · refine et_toT (ev_op (ev_F hlc) lst_nil ?_)
      have e : ((spoil 6 b.enc).filter fun _ => false).map (fun d => d) = ([] : List Str).map .str := by simp
      rw [e]
      exact ne_nil []
    · refine et_isnt (ev_call (ea_cons (ev_var rfl) ea_nil) rfl ?_) ev_c
      have := book_eq (n := 1) q (nice_spoil (tiny_small tb) hq)
      rw [spoil0 (n := 2) (book_good g) hq] at this
      exact this
  have l1 : ∃ ρ1, sFor (iSeq (eCall 1 m__law_spoilt (aCons (eVar 3) aNil))) (put 4) (sIf (notT (truR (eCall 2 m__law_is (aCons (eCall 2 m_is_standing (aCons (eVar 2) (aCons (eVar 4) aNil))) (aCons (eC (.bool false)) aNil))))) (sRet (eC (.bool false))) sNil) ρ0 = some (.next ρ1) ∧ I ρ1 := by
    refine for_loop (ei_seq (ev_call (ea_cons (ev_var rfl) ea_nil) rfl eqf) rfl) (fun r hr ρ hI => ?_) i0
    obtain ⟨q, hq, rfl⟩ := List.mem_map.mp hr
    obtain ⟨x4, x5, x6, x7, x8, x9, x10, x11, rfl⟩ := hI
    refine ⟨lawR ns c2 mm2 b fs (some (.d q)) x5 x6 x7 x8 x9 x10 x11, lawR ns c2 mm2 b fs (some (.d q)) x5 x6 x7 x8 x9 x10 x11, rfl, es_pass (et_isnt ?_ ev_c) rfl, ⟨_, _, _, _, _, _, _, _, rfl⟩⟩
    have := hst q ⟨_, nice_spoil (tiny_small tf) hq⟩ (lawR ns c2 mm2 b fs (some (.d q)) x5 x6 x7 x8 x9 x10 x11) (eVar 4) rfl (ev_var rfl)
    rw [stand_spoilt (n := 5) ok hb0 lf hq] at this
    exact this
  obtain ⟨ρ1, l1, y4, y5, y6, y7, y8, y9, y10, y11, rfl⟩ := l1
  have g3 : Et (orT (toT (e2 (op2 neD) (eCall 1 m_nowhere (aApp aNil (aCons (eVar 2) aNil))) (e2 (op2 mulD) (eTup (aCons (eC .none) aNil)) (eB (b1 lenD) (aCons (e2 (op2 idxD) (eVar 2) (eC (.int 1))) aNil))))) (notT (truR (eCall 2 m_is_standing (aCons (eVar 2) (aCons (eCall 1 m_nowhere (aCons (eVar 2) aNil)) aNil)))))) (lawR ns c2 mm2 b fs y4 y5 y6 y7 y8 y9 y10 y11) false := by
    refine et_or (a := false) (b := false) (et_toT (ev_op (ev_call (ea_app ea_nil (ea_cons (ev_var rfl) ea_nil)) rfl (nowhere_eq b ok)) (ev_op (ev_tup (ea_cons ev_c ea_nil) (by simp [sizeL])) (ev_b1 (ev_op (ev_var rfl) ev_c (idx1 _ _ _)) (len_encT _)) (mul_ok _ _ (by omega))) ?_)) fun _ => ?_
    · rw [rep_none, ne_stand]
      simp
    · have h0 := hst (encS (List.replicate b.likes.length none)) ⟨1, nice_encS (by simp; omega) (fun s h => by rw [List.mem_replicate] at h; cases h.2)⟩ (lawR ns c2 mm2 b fs y4 y5 y6 y7 y8 y9 y10 y11) (eCall 1 m_nowhere (aCons (eVar 2) aNil)) rfl (ev_call (ea_cons (ev_var rfl) ea_nil) rfl (nowhere_eq b ok))
      rw [standB_enc, stand_nowhere] at h0
      exact et_not (et_bool h0)
  have l2 : ∃ ρ1, sFor (iEn (e2 (op2 idxD) (eVar 2) (eC (.int 1)))) (gT 2 (gC (put 5) (gC (gT 2 (gC (put 6) (gC (put 7) (gN)))) (gN)))) (sFor (iSeq (e2 (op2 idxD) (eVar 2) (eC (.int 0)))) (gT 2 (gC (put 8) (gC (put 9) (gN)))) (sSeq (sAsg (e2 (op2 addD) (e2 (op2 addD) (eSl (eVar 3) (oNone) (oSome (eVar 5))) (eTup (aCons (eVar 8) (aNil)))) (eSl (eVar 3) (oSome (e2 (op2 addD) (eVar 5) (eC (.int 1)))) (oNone))) (put 10)) (sSeq (sAsg (andE (e2 (op2 inD) (eVar 8) (eVar 7)) (andE (e2 (op2 inD) (eVar 6) (eVar 9)) (e2 (op2 ninD) (eVar 8) (e2 (op2 addD) (eSl (eVar 3) (oNone) (oSome (eVar 5))) (eSl (eVar 3) (oSome (e2 (op2 addD) (eVar 5) (eC (.int 1)))) (oNone)))))) (put 11)) (sIf (notT (truR (eCall 2 m__law_is (aCons (eCall 2 m_is_standing (aCons (eVar 2) (aCons (eVar 10) (aNil)))) (aCons (eVar 11) (aNil)))))) (sRet (eC (.bool false))) (sNil))))) (lawR ns c2 mm2 b fs y4 y5 y6 y7 y8 y9 y10 y11) = some (.next ρ1) ∧ I ρ1 := by
    refine for_loop (ei_enum (ev_op (ev_var rfl) ev_c (idx1 _ _ _)) (seq_encT _)) (fun r hr ρ hI => ?_) ⟨_, _, _, _, _, _, _, _, rfl⟩
    obtain ⟨i, hi⟩ := List.getElem?_of_mem hr
    obtain ⟨x, hx, rfl⟩ := enumD_at hi
    rw [Nat.zero_add]
    obtain ⟨p, hp, rfl⟩ : ∃ p, b.likes[i]? = some p ∧ pairE p = x := by simpa using hx
    obtain ⟨x4, x5, x6, x7, x8, x9, x10, x11, rfl⟩ := hI
    suffices hh : ∃ ρ2, sFor (iSeq (e2 (op2 idxD) (eVar 2) (eC (.int 0)))) (gT 2 (gC (put 8) (gC (put 9) (gN)))) (sSeq (sAsg (e2 (op2 addD) (e2 (op2 addD) (eSl (eVar 3) (oNone) (oSome (eVar 5))) (eTup (aCons (eVar 8) (aNil)))) (eSl (eVar 3) (oSome (e2 (op2 addD) (eVar 5) (eC (.int 1)))) (oNone))) (put 10)) (sSeq (sAsg (andE (e2 (op2 inD) (eVar 8) (eVar 7)) (andE (e2 (op2 inD) (eVar 6) (eVar 9)) (e2 (op2 ninD) (eVar 8) (e2 (op2 addD) (eSl (eVar 3) (oNone) (oSome (eVar 5))) (eSl (eVar 3) (oSome (e2 (op2 addD) (eVar 5) (eC (.int 1)))) (oNone)))))) (put 11)) (sIf (notT (truR (eCall 2 m__law_is (aCons (eCall 2 m_is_standing (aCons (eVar 2) (aCons (eVar 10) (aNil)))) (aCons (eVar 11) (aNil)))))) (sRet (eC (.bool false))) (sNil)))) (lawR ns c2 mm2 b fs x4 (some (.d (.int (i : Nat)))) (some (.d (.str p.1))) (some (.d (.tuple (p.2.map .str)))) x8 x9 x10 x11) = some (.next ρ2) ∧ ∃ z8 z9 z10 z11, ρ2 = lawR ns c2 mm2 b fs x4 (some (.d (.int (i : Nat)))) (some (.d (.str p.1))) (some (.d (.tuple (p.2.map .str)))) z8 z9 z10 z11 by
      obtain ⟨ρ2, h2, z8, z9, z10, z11, rfl⟩ := hh
      exact ⟨_, _, rfl, h2, ⟨_, _, _, _, _, _, _, _, rfl⟩⟩
    refine for_loop (ei_seq (ev_op (ev_var rfl) ev_c (idx0 _ _)) (seq_encT _)) (fun r hr ρ hI => ?_) ⟨_, _, _, _, rfl⟩
    obtain ⟨x, hx, rfl⟩ := List.mem_map.mp hr
    obtain ⟨⟨h, row⟩, hq, rfl⟩ := List.mem_map.mp hx
    obtain ⟨x8, x9, x10, x11, rfl⟩ := hI
    have er : lkT b.rows h = row := lkT_of ok.nr hq
    have hput := stand_put ok hs hp (h := h)
    rw [er] at hput
    have il : i < fs.length := by
      have := (List.getElem?_eq_some_iff.mp hp).1
      omega
    have e10 : PyData.tuple ((fs.map encO).take i ++ [.str h] ++ (fs.map encO).drop (i + 1)) = encS (fs.take i ++ some h :: fs.drop (i + 1)) := by
      simp [encS, encO, List.map_take, List.map_drop]
    have e11 : PyData.tuple ((fs.map encO).take i ++ (fs.map encO).drop (i + 1)) = .tuple ((fs.take i ++ fs.drop (i + 1)).map encO) := by
      simp [List.map_take, List.map_drop]
    have lt : ((fs.map encO).take i).length ≤ 5 := by simp [List.length_take]; omega
    have ld : ((fs.map encO).drop (i + 1)).length ≤ 5 := by simp [List.length_drop]; omega
    refine ⟨lawR ns c2 mm2 b fs x4 (some (.d (.int (i : Nat)))) (some (.d (.str p.1))) (some (.d (.tuple (p.2.map .str)))) (some (.d (.str h))) (some (.d (.tuple (row.map .str)))) x10 x11, _, rfl, es_seq (es_set (v := encS (fs.take i ++ some h :: fs.drop (i + 1))) ?_ (by simp)) (es_seq (es_set (v := .bool (decide (h ∈ p.2) && (decide (p.1 ∈ row) && !decide (some h ∈ fs.take i ++ fs.drop (i + 1))))) ?_ (by simp)) (es_pass (et_isnt (a := decide (h ∈ p.2) && (decide (p.1 ∈ row) && !decide (some h ∈ fs.take i ++ fs.drop (i + 1)))) ?_ (ev_var rfl)) rfl)), ⟨_, _, _, _, rfl⟩⟩
    · rw [← e10]
      refine ev_op (ev_op (ev_sl (ev_var rfl) o_none (o_some (ev_var rfl)) (cutD_to _ i)) (ev_tup (ea_cons (ev_var rfl) ea_nil) (by simp [sizeL])) (add_tup _ _ (by simp only [List.length_cons, List.length_nil]; omega))) (ev_sl (ev_var rfl) (o_some (i := ((i + 1 : Nat) : Int)) (ev_op (ev_var rfl) ev_c (by simp [addD]))) o_none (cutD_from _ (i + 1))) (add_tup _ _ ?_)
      simp only [List.length_append, List.length_cons, List.length_nil]
      omega
    · refine ev_and (ev_op (ev_var rfl) (ev_var rfl) (in_strsT _ _)) fun _ => ev_and (ev_op (ev_var rfl) (ev_var rfl) (in_strsT _ _)) fun _ => ev_op (y := .tuple ((fs.take i ++ fs.drop (i + 1)).map encO)) (ev_var rfl) ?_ (nin_optsT _ _)
      rw [← e11]
      exact ev_op (ev_sl (ev_var rfl) o_none (o_some (ev_var rfl)) (cutD_to _ i)) (ev_sl (ev_var rfl) (o_some (i := ((i + 1 : Nat) : Int)) (ev_op (ev_var rfl) ev_c (by simp [addD]))) o_none (cutD_from _ (i + 1))) (add_tup _ _ (by omega))
    · rw [← hput, ← standB_enc]
      refine hst _ ⟨1, nice_encS ?_ fun s hm => ?_⟩ _ _ rfl (ev_var rfl)
      · simp [List.length_take, List.length_drop]
        omega
      · simp only [List.mem_append, List.mem_cons] at hm
        rcases hm with hm | hm | hm
        · exact nmf s (List.mem_of_mem_take hm)
        · cases hm
          exact nm _ (List.mem_map.mpr ⟨_, hq, rfl⟩)
        · exact nmf s (List.mem_of_mem_drop hm)
  obtain ⟨ρ2, l2, v4, v5, v6, v7, v8, v9, v10, v11, rfl⟩ := l2
  have hn0 : ∀ d : D, isTup d = false → standB b d = false := fun d h => by
    cases d <;> simp [isTup] at h <;> rfl
  have l3 : ∃ ρ1, sFor (iSeq (eTup (aCons (eC .none) (aCons (eTup (aNil)) (aCons (e2 (op2 addD) (eVar 3) (eTup (aCons (eC .none) (aNil)))) (aCons (eSl (eVar 3) (oSome (eC (.int 1))) (oNone)) (aCons (e2 (op2 mulD) (eTup (aCons (eC (.str "zz")) (aNil))) (eB (b1 lenD) (aCons (eVar 3) (aNil)))) (aNil)))))))) (put 4) (sIf (notT (truR (eCall 2 m__law_is (aCons (eCall 2 m_is_standing (aCons (eVar 2) (aCons (eVar 4) (aNil)))) (aCons (e2 (op2 eqD) (eVar 4) (eVar 3)) (aNil)))))) (sRet (eC (.bool false))) (sNil)) (lawR ns c2 mm2 b fs v4 v5 v6 v7 v8 v9 v10 v11) = some (.next ρ1) ∧ I ρ1 := by
    have el : Ev (eTup (aCons (eC .none) (aCons (eTup (aNil)) (aCons (e2 (op2 addD) (eVar 3) (eTup (aCons (eC .none) (aNil)))) (aCons (eSl (eVar 3) (oSome (eC (.int 1))) (oNone)) (aCons (e2 (op2 mulD) (eTup (aCons (eC (.str "zz")) (aNil))) (eB (b1 lenD) (aCons (eVar 3) (aNil)))) (aNil))))))) (lawR ns c2 mm2 b fs v4 v5 v6 v7 v8 v9 v10 v11) (.tuple [.none, encS [], encS (fs ++ [none]), encS (fs.drop 1), encS (List.replicate fs.length (some "zz"))]) := by
      refine ev_tup (ea_cons ev_c (ea_cons (ev_tup ea_nil (by simp)) (ea_cons ?_ (ea_cons ?_ (ea_cons ?_ ea_nil))))) (by simp [sizeL])
      · have e : encS (fs ++ [none]) = .tuple (fs.map encO ++ [.none]) := by simp [encS, encO]
        rw [e]
        exact ev_op (ev_var rfl) (ev_tup (ea_cons ev_c ea_nil) (by simp [sizeL])) (add_tup _ _ (by simp; omega))
      · have e : encS (fs.drop 1) = .tuple ((fs.map encO).drop 1) := by simp [encS, List.map_drop]
        rw [e]
        exact ev_sl (ev_var rfl) (o_some ev_c) o_none (cutD_from _ 1)
      · have e : encS (List.replicate fs.length (some "zz")) = .tuple (List.replicate fs.length (.str "zz")) := by simp [encS, encO]
        rw [e]
        exact ev_op (ev_tup (ea_cons ev_c ea_nil) (by simp [sizeL])) (ev_b1 (y := .int fs.length) (ev_var rfl) (by simp [encS, lenD])) (mul_ok _ _ (by omega))
    refine for_loop (ei_seq el rfl) (fun r hr ρ hI => ?_) ⟨_, _, _, _, _, _, _, _, rfl⟩
    obtain ⟨q, hq, rfl⟩ := List.mem_map.mp hr
    obtain ⟨x4, x5, x6, x7, x8, x9, x10, x11, rfl⟩ := hI
    have hq2 : (∃ n, nice (n + 1) q = true) ∧ standB b q = false ∧ eqD q (encS fs) = some (.bool false) := by
      simp only [List.mem_cons, List.not_mem_nil, or_false] at hq
      have other : ∀ gs : List (Option Str), gs.length ≤ 1000 → (∀ s, some s ∈ gs → s.length ≤ 500) → standS b gs = false → (∃ n, nice (n + 1) (encS gs) = true) ∧ standB b (encS gs) = false ∧ eqD (encS gs) (encS fs) = some (.bool false) := fun gs h1 h2 h3 => by
        refine ⟨⟨1, nice_encS h1 h2⟩, by rw [standB_enc]; exact h3, ?_⟩
        have : ¬ gs = fs := fun z => by
          rw [z, hs] at h3
          cases h3
        rw [eq_stand, decide_eq_false this]
      have len : ∀ gs : List (Option Str), gs.length ≠ fs.length → standS b gs = false := fun gs h => by
        have : ¬ gs.length = b.people.length := by omega
        simp [standS, this]
      rcases hq with rfl | rfl | rfl | rfl | rfl
      · refine ⟨⟨0, rfl⟩, rfl, ?_⟩
        simp [eqD, PyData.depth, encS, PyData.eqv]
      · exact other [] (by simp) (fun s h => by cases h) (len _ (by simp; omega))
      · refine other _ (by simp; omega) (fun s h => ?_) (len _ (by simp))
        simp at h
        exact nmf s h
      · exact other _ (by simp; omega) (fun s h => nmf s (List.mem_of_mem_drop h)) (len _ (by simp; omega))
      · refine other _ (by simp; omega) (fun s h => ?_) ?_
        · rw [List.mem_replicate] at h
          cases h.2
          decide
        · cases hx : standS b (List.replicate fs.length (some "zz")) with
          | false => rfl
          | true =>
            have := stand_mem ok hx (h := "zz") (by rw [List.mem_replicate]; exact ⟨by omega, rfl⟩)
            exact absurd this hz0
    obtain ⟨q1, q2, q3⟩ := hq2
    refine ⟨lawR ns c2 mm2 b fs (some (.d q)) x5 x6 x7 x8 x9 x10 x11, lawR ns c2 mm2 b fs (some (.d q)) x5 x6 x7 x8 x9 x10 x11, rfl, es_pass (et_isnt (a := false) ?_ (ev_op (ev_var rfl) (ev_var rfl) q3)) rfl, ⟨_, _, _, _, _, _, _, _, rfl⟩⟩
    have := hst q q1 (lawR ns c2 mm2 b fs (some (.d q)) x5 x6 x7 x8 x9 x10 x11) (eVar 4) rfl (ev_var rfl)
    rw [q2] at this
    exact this
  obtain ⟨ρ3, l3, u4, u5, u6, u7, u8, u9, u10, u11, rfl⟩ := l3
  have fin : F_law (pad 13 [.s ns]) = some (.ret (.bool true) (lawR ns c2 mm2 b fs u4 u5 u6 u7 u8 u9 u10 u11)) := by
    unfold F_law
    exact es_seq s1 (es_seq s2 (es_seq s3 (es_seq (es_pass g1 rfl) (es_seq (es_pass g2 rfl) (es_seq l1 (es_seq (es_pass g3 rfl) (es_seq l2 (es_seq l3 (es_ret (ev_call ea_nil rfl ends_true))))))))))
  show runL 13 F_law ns = _
  unfold runL
  rw [fin]
  rfl
end W
namespace W
open PySem L2 DL
theorem all_mk {l : PySem.W.OpenLaw} {w : World} {K : PySem.W.Frag} {h : Heap} {mg : Str → Option Value} {fa f_is_name f_is_rising f_are_some f_are_named f_is_book f_people_of f_homes_of f_is_standing f_nowhere f__law_is f__law_draw f__law_begun f__law_mixed f__law_a_book f__law_homes f__law_a_standing f__law_spoilt f__law_ends f_law : Addr} {od_is_name an_is_name : Option Addr} {sl_is_name : Array (Option Value)} {oc_is_name kV_is_name dc_is_name pm_is_name cd_is_name ct_is_name : Value} {od_is_rising an_is_rising : Option Addr} {sl_is_rising : Array (Option Value)} {oc_is_rising kV_is_rising dc_is_rising pm_is_rising cd_is_rising ct_is_rising : Value} {od_are_some an_are_some : Option Addr} {sl_are_some : Array (Option Value)} {oc_are_some kV_are_some dc_are_some pm_are_some cd_are_some ct_are_some : Value} {od_are_named an_are_named : Option Addr} {sl_are_named : Array (Option Value)} {oc_are_named kV_are_named dc_are_named pm_are_named cd_are_named ct_are_named : Value} {od_is_book an_is_book : Option Addr} {sl_is_book : Array (Option Value)} {oc_is_book kV_is_book dc_is_book pm_is_book cd_is_book ct_is_book : Value} {od_people_of an_people_of : Option Addr} {sl_people_of : Array (Option Value)} {oc_people_of kV_people_of dc_people_of pm_people_of cd_people_of ct_people_of : Value} {od_homes_of an_homes_of : Option Addr} {sl_homes_of : Array (Option Value)} {oc_homes_of kV_homes_of dc_homes_of pm_homes_of cd_homes_of ct_homes_of : Value} {od_is_standing an_is_standing : Option Addr} {sl_is_standing : Array (Option Value)} {oc_is_standing kV_is_standing dc_is_standing pm_is_standing cd_is_standing ct_is_standing : Value} {od_nowhere an_nowhere : Option Addr} {sl_nowhere : Array (Option Value)} {oc_nowhere kV_nowhere dc_nowhere pm_nowhere cd_nowhere ct_nowhere : Value} {od__law_is an__law_is : Option Addr} {sl__law_is : Array (Option Value)} {oc__law_is kV__law_is dc__law_is pm__law_is cd__law_is ct__law_is : Value} {od__law_draw an__law_draw : Option Addr} {sl__law_draw : Array (Option Value)} {oc__law_draw kV__law_draw dc__law_draw pm__law_draw cd__law_draw ct__law_draw : Value} {od__law_begun an__law_begun : Option Addr} {sl__law_begun : Array (Option Value)} {oc__law_begun kV__law_begun dc__law_begun pm__law_begun cd__law_begun ct__law_begun : Value} {od__law_mixed an__law_mixed : Option Addr} {sl__law_mixed : Array (Option Value)} {oc__law_mixed kV__law_mixed dc__law_mixed pm__law_mixed cd__law_mixed ct__law_mixed : Value} {od__law_a_book an__law_a_book : Option Addr} {sl__law_a_book : Array (Option Value)} {oc__law_a_book kV__law_a_book dc__law_a_book pm__law_a_book cd__law_a_book ct__law_a_book : Value} {od__law_homes an__law_homes : Option Addr} {sl__law_homes : Array (Option Value)} {oc__law_homes kV__law_homes dc__law_homes pm__law_homes cd__law_homes ct__law_homes : Value} {od__law_a_standing an__law_a_standing : Option Addr} {sl__law_a_standing : Array (Option Value)} {oc__law_a_standing kV__law_a_standing dc__law_a_standing pm__law_a_standing cd__law_a_standing ct__law_a_standing : Value} {od__law_spoilt an__law_spoilt : Option Addr} {sl__law_spoilt : Array (Option Value)} {oc__law_spoilt kV__law_spoilt dc__law_spoilt pm__law_spoilt cd__law_spoilt ct__law_spoilt : Value} {od__law_ends an__law_ends : Option Addr} {sl__law_ends : Array (Option Value)} {oc__law_ends kV__law_ends dc__law_ends pm__law_ends cd__law_ends ct__law_ends : Value} {od_law an_law : Option Addr} {sl_law : Array (Option Value)} {oc_law kV_law dc_law pm_law cd_law ct_law : Value} (X : K.In h) (G : h.Ns mainGlobals mg) (hfa : mg "law" = some (.ref fa))
    (a_is_name : PySem.W.nsIn K mainGlobals "is_name" = some (some (.ref f_is_name))) (l_is_name : K.lookup f_is_name = some ⟨oc_is_name, od_is_name, .func (PySem.W.fnOf "is_name" "is_name" (defArgs d_is_name) (defBody d_is_name) (defScope d_is_name) .none kV_is_name dc_is_name pm_is_name an_is_name cd_is_name ct_is_name), sl_is_name⟩) (c_is_name : PySem.W.codeIn K cd_is_name "is_name" = true) (k_is_name : PySem.W.keepIn K (.ref f_is_name) = true)
    (a_is_rising : PySem.W.nsIn K mainGlobals "is_rising" = some (some (.ref f_is_rising))) (l_is_rising : K.lookup f_is_rising = some ⟨oc_is_rising, od_is_rising, .func (PySem.W.fnOf "is_rising" "is_rising" (defArgs d_is_rising) (defBody d_is_rising) (defScope d_is_rising) .none kV_is_rising dc_is_rising pm_is_rising an_is_rising cd_is_rising ct_is_rising), sl_is_rising⟩) (c_is_rising : PySem.W.codeIn K cd_is_rising "is_rising" = true) (k_is_rising : PySem.W.keepIn K (.ref f_is_rising) = true)
    (a_are_some : PySem.W.nsIn K mainGlobals "are_some" = some (some (.ref f_are_some))) (l_are_some : K.lookup f_are_some = some ⟨oc_are_some, od_are_some, .func (PySem.W.fnOf "are_some" "are_some" (defArgs d_are_some) (defBody d_are_some) (defScope d_are_some) .none kV_are_some dc_are_some pm_are_some an_are_some cd_are_some ct_are_some), sl_are_some⟩) (c_are_some : PySem.W.codeIn K cd_are_some "are_some" = true) (k_are_some : PySem.W.keepIn K (.ref f_are_some) = true)
    (a_are_named : PySem.W.nsIn K mainGlobals "are_named" = some (some (.ref f_are_named))) (l_are_named : K.lookup f_are_named = some ⟨oc_are_named, od_are_named, .func (PySem.W.fnOf "are_named" "are_named" (defArgs d_are_named) (defBody d_are_named) (defScope d_are_named) .none kV_are_named dc_are_named pm_are_named an_are_named cd_are_named ct_are_named), sl_are_named⟩) (c_are_named : PySem.W.codeIn K cd_are_named "are_named" = true) (k_are_named : PySem.W.keepIn K (.ref f_are_named) = true)
    (a_is_book : PySem.W.nsIn K mainGlobals "is_book" = some (some (.ref f_is_book))) (l_is_book : K.lookup f_is_book = some ⟨oc_is_book, od_is_book, .func (PySem.W.fnOf "is_book" "is_book" (defArgs d_is_book) (defBody d_is_book) (defScope d_is_book) .none kV_is_book dc_is_book pm_is_book an_is_book cd_is_book ct_is_book), sl_is_book⟩) (c_is_book : PySem.W.codeIn K cd_is_book "is_book" = true) (k_is_book : PySem.W.keepIn K (.ref f_is_book) = true)
    (a_people_of : PySem.W.nsIn K mainGlobals "people_of" = some (some (.ref f_people_of))) (l_people_of : K.lookup f_people_of = some ⟨oc_people_of, od_people_of, .func (PySem.W.fnOf "people_of" "people_of" (defArgs d_people_of) (defBody d_people_of) (defScope d_people_of) .none kV_people_of dc_people_of pm_people_of an_people_of cd_people_of ct_people_of), sl_people_of⟩) (c_people_of : PySem.W.codeIn K cd_people_of "people_of" = true) (k_people_of : PySem.W.keepIn K (.ref f_people_of) = true)
    (a_homes_of : PySem.W.nsIn K mainGlobals "homes_of" = some (some (.ref f_homes_of))) (l_homes_of : K.lookup f_homes_of = some ⟨oc_homes_of, od_homes_of, .func (PySem.W.fnOf "homes_of" "homes_of" (defArgs d_homes_of) (defBody d_homes_of) (defScope d_homes_of) .none kV_homes_of dc_homes_of pm_homes_of an_homes_of cd_homes_of ct_homes_of), sl_homes_of⟩) (c_homes_of : PySem.W.codeIn K cd_homes_of "homes_of" = true) (k_homes_of : PySem.W.keepIn K (.ref f_homes_of) = true)
    (a_is_standing : PySem.W.nsIn K mainGlobals "is_standing" = some (some (.ref f_is_standing))) (l_is_standing : K.lookup f_is_standing = some ⟨oc_is_standing, od_is_standing, .func (PySem.W.fnOf "is_standing" "is_standing" (defArgs d_is_standing) (defBody d_is_standing) (defScope d_is_standing) .none kV_is_standing dc_is_standing pm_is_standing an_is_standing cd_is_standing ct_is_standing), sl_is_standing⟩) (c_is_standing : PySem.W.codeIn K cd_is_standing "is_standing" = true) (k_is_standing : PySem.W.keepIn K (.ref f_is_standing) = true)
    (a_nowhere : PySem.W.nsIn K mainGlobals "nowhere" = some (some (.ref f_nowhere))) (l_nowhere : K.lookup f_nowhere = some ⟨oc_nowhere, od_nowhere, .func (PySem.W.fnOf "nowhere" "nowhere" (defArgs d_nowhere) (defBody d_nowhere) (defScope d_nowhere) .none kV_nowhere dc_nowhere pm_nowhere an_nowhere cd_nowhere ct_nowhere), sl_nowhere⟩) (c_nowhere : PySem.W.codeIn K cd_nowhere "nowhere" = true) (k_nowhere : PySem.W.keepIn K (.ref f_nowhere) = true)
    (a__law_is : PySem.W.nsIn K mainGlobals "_law_is" = some (some (.ref f__law_is))) (l__law_is : K.lookup f__law_is = some ⟨oc__law_is, od__law_is, .func (PySem.W.fnOf "_law_is" "_law_is" (defArgs d__law_is) (defBody d__law_is) (defScope d__law_is) .none kV__law_is dc__law_is pm__law_is an__law_is cd__law_is ct__law_is), sl__law_is⟩) (c__law_is : PySem.W.codeIn K cd__law_is "_law_is" = true) (k__law_is : PySem.W.keepIn K (.ref f__law_is) = true)
    (a__law_draw : PySem.W.nsIn K mainGlobals "_law_draw" = some (some (.ref f__law_draw))) (l__law_draw : K.lookup f__law_draw = some ⟨oc__law_draw, od__law_draw, .func (PySem.W.fnOf "_law_draw" "_law_draw" (defArgs d__law_draw) (defBody d__law_draw) (defScope d__law_draw) .none kV__law_draw dc__law_draw pm__law_draw an__law_draw cd__law_draw ct__law_draw), sl__law_draw⟩) (c__law_draw : PySem.W.codeIn K cd__law_draw "_law_draw" = true) (k__law_draw : PySem.W.keepIn K (.ref f__law_draw) = true)
    (a__law_begun : PySem.W.nsIn K mainGlobals "_law_begun" = some (some (.ref f__law_begun))) (l__law_begun : K.lookup f__law_begun = some ⟨oc__law_begun, od__law_begun, .func (PySem.W.fnOf "_law_begun" "_law_begun" (defArgs d__law_begun) (defBody d__law_begun) (defScope d__law_begun) .none kV__law_begun dc__law_begun pm__law_begun an__law_begun cd__law_begun ct__law_begun), sl__law_begun⟩) (c__law_begun : PySem.W.codeIn K cd__law_begun "_law_begun" = true) (k__law_begun : PySem.W.keepIn K (.ref f__law_begun) = true)
    (a__law_mixed : PySem.W.nsIn K mainGlobals "_law_mixed" = some (some (.ref f__law_mixed))) (l__law_mixed : K.lookup f__law_mixed = some ⟨oc__law_mixed, od__law_mixed, .func (PySem.W.fnOf "_law_mixed" "_law_mixed" (defArgs d__law_mixed) (defBody d__law_mixed) (defScope d__law_mixed) .none kV__law_mixed dc__law_mixed pm__law_mixed an__law_mixed cd__law_mixed ct__law_mixed), sl__law_mixed⟩) (c__law_mixed : PySem.W.codeIn K cd__law_mixed "_law_mixed" = true) (k__law_mixed : PySem.W.keepIn K (.ref f__law_mixed) = true)
    (a__law_a_book : PySem.W.nsIn K mainGlobals "_law_a_book" = some (some (.ref f__law_a_book))) (l__law_a_book : K.lookup f__law_a_book = some ⟨oc__law_a_book, od__law_a_book, .func (PySem.W.fnOf "_law_a_book" "_law_a_book" (defArgs d__law_a_book) (defBody d__law_a_book) (defScope d__law_a_book) .none kV__law_a_book dc__law_a_book pm__law_a_book an__law_a_book cd__law_a_book ct__law_a_book), sl__law_a_book⟩) (c__law_a_book : PySem.W.codeIn K cd__law_a_book "_law_a_book" = true) (k__law_a_book : PySem.W.keepIn K (.ref f__law_a_book) = true)
    (a__law_homes : PySem.W.nsIn K mainGlobals "_law_homes" = some (some (.ref f__law_homes))) (l__law_homes : K.lookup f__law_homes = some ⟨oc__law_homes, od__law_homes, .func (PySem.W.fnOf "_law_homes" "_law_homes" (defArgs d__law_homes) (defBody d__law_homes) (defScope d__law_homes) .none kV__law_homes dc__law_homes pm__law_homes an__law_homes cd__law_homes ct__law_homes), sl__law_homes⟩) (c__law_homes : PySem.W.codeIn K cd__law_homes "_law_homes" = true) (k__law_homes : PySem.W.keepIn K (.ref f__law_homes) = true)
    (a__law_a_standing : PySem.W.nsIn K mainGlobals "_law_a_standing" = some (some (.ref f__law_a_standing))) (l__law_a_standing : K.lookup f__law_a_standing = some ⟨oc__law_a_standing, od__law_a_standing, .func (PySem.W.fnOf "_law_a_standing" "_law_a_standing" (defArgs d__law_a_standing) (defBody d__law_a_standing) (defScope d__law_a_standing) .none kV__law_a_standing dc__law_a_standing pm__law_a_standing an__law_a_standing cd__law_a_standing ct__law_a_standing), sl__law_a_standing⟩) (c__law_a_standing : PySem.W.codeIn K cd__law_a_standing "_law_a_standing" = true) (k__law_a_standing : PySem.W.keepIn K (.ref f__law_a_standing) = true)
    (a__law_spoilt : PySem.W.nsIn K mainGlobals "_law_spoilt" = some (some (.ref f__law_spoilt))) (l__law_spoilt : K.lookup f__law_spoilt = some ⟨oc__law_spoilt, od__law_spoilt, .func (PySem.W.fnOf "_law_spoilt" "_law_spoilt" (defArgs d__law_spoilt) (defBody d__law_spoilt) (defScope d__law_spoilt) .none kV__law_spoilt dc__law_spoilt pm__law_spoilt an__law_spoilt cd__law_spoilt ct__law_spoilt), sl__law_spoilt⟩) (c__law_spoilt : PySem.W.codeIn K cd__law_spoilt "_law_spoilt" = true) (k__law_spoilt : PySem.W.keepIn K (.ref f__law_spoilt) = true)
    (a__law_ends : PySem.W.nsIn K mainGlobals "_law_ends" = some (some (.ref f__law_ends))) (l__law_ends : K.lookup f__law_ends = some ⟨oc__law_ends, od__law_ends, .func (PySem.W.fnOf "_law_ends" "_law_ends" (defArgs d__law_ends) (defBody d__law_ends) (defScope d__law_ends) .none kV__law_ends dc__law_ends pm__law_ends an__law_ends cd__law_ends ct__law_ends), sl__law_ends⟩) (c__law_ends : PySem.W.codeIn K cd__law_ends "_law_ends" = true) (k__law_ends : PySem.W.keepIn K (.ref f__law_ends) = true)
    (a_law : PySem.W.nsIn K mainGlobals "law" = some (some (.ref f_law))) (l_law : K.lookup f_law = some ⟨oc_law, od_law, .func (PySem.W.fnOf "law" "law" (defArgs d_law) (defBody d_law) (defScope d_law) .none kV_law dc_law pm_law an_law cd_law ct_law), sl_law⟩) (c_law : PySem.W.codeIn K cd_law "law" = true) (k_law : PySem.W.keepIn K (.ref f_law) = true)
    (z_len : PySem.W.nsIn K mainGlobals "len" = some none)
    (z_all : PySem.W.nsIn K mainGlobals "all" = some none)
    (z_tuple : PySem.W.nsIn K mainGlobals "tuple" = some none)
    (z_list : PySem.W.nsIn K mainGlobals "list" = some none)
    (z_dict : PySem.W.nsIn K mainGlobals "dict" = some none)
    (z_set : PySem.W.nsIn K mainGlobals "set" = some none)
    (z_isinstance : PySem.W.nsIn K mainGlobals "isinstance" = some none)
    (z_zip : PySem.W.nsIn K mainGlobals "zip" = some none)
    (z_enumerate : PySem.W.nsIn K mainGlobals "enumerate" = some none)
    (z_str : PySem.W.nsIn K mainGlobals "str" = some none)
    (z_bool : PySem.W.nsIn K mainGlobals "bool" = some none)
    {t_LETTERS : Tok} (y_LETTERS : PySem.W.nsIn K mainGlobals "LETTERS" = some (some (.str "abcdefghijklmnopqrstuvwxyz" t_LETTERS)))
    {t_MOST : Tok} (y_MOST : PySem.W.nsIn K mainGlobals "MOST" = some (some (.int 5 t_MOST))) :
    ∃ fd : FuncData, (∀ (s : Shared) (v : Value), BindsTo s fd ⟨[v], []⟩ [("script", v)]) ∧ ∀ base : Heap, K.In base → base.Ns mainGlobals mg → FnOk l.prog w K mg base (L2.CX l.prog w) 8 fa fd ["script"] (spL K m_law) := by
  have e := hfa.symm.trans (PySem.W.mg_of X G a_law)
  cases e
  have B : BI mg := ⟨PySem.W.mg_none_of X G z_len, PySem.W.mg_none_of X G z_all, PySem.W.mg_none_of X G z_tuple, PySem.W.mg_none_of X G z_list, PySem.W.mg_none_of X G z_dict, PySem.W.mg_none_of X G z_set, PySem.W.mg_none_of X G z_isinstance, PySem.W.mg_none_of X G z_zip, PySem.W.mg_none_of X G z_enumerate, PySem.W.mg_none_of X G z_str, PySem.W.mg_none_of X G z_bool⟩
  have Cn : CN mg := ⟨⟨t_LETTERS, PySem.W.mg_of X G y_LETTERS⟩, ⟨t_MOST, PySem.W.mg_of X G y_MOST⟩⟩
  have F_is_name' := fun_mk (st := d_is_name) l_is_name c_is_name k_is_name
  have F_is_rising' := fun_mk (st := d_is_rising) l_is_rising c_is_rising k_is_rising
  have F_are_some' := fun_mk (st := d_are_some) l_are_some c_are_some k_are_some
  have F_are_named' := fun_mk (st := d_are_named) l_are_named c_are_named k_are_named
  have F_is_book' := fun_mk (st := d_is_book) l_is_book c_is_book k_is_book
  have F_people_of' := fun_mk (st := d_people_of) l_people_of c_people_of k_people_of
  have F_homes_of' := fun_mk (st := d_homes_of) l_homes_of c_homes_of k_homes_of
  have F_is_standing' := fun_mk (st := d_is_standing) l_is_standing c_is_standing k_is_standing
  have F_nowhere' := fun_mk (st := d_nowhere) l_nowhere c_nowhere k_nowhere
  have F__law_is' := fun_mk (st := d__law_is) l__law_is c__law_is k__law_is
  have F__law_draw' := fun_mk (st := d__law_draw) l__law_draw c__law_draw k__law_draw
  have F__law_begun' := fun_mk (st := d__law_begun) l__law_begun c__law_begun k__law_begun
  have F__law_mixed' := fun_mk (st := d__law_mixed) l__law_mixed c__law_mixed k__law_mixed
  have F__law_a_book' := fun_mk (st := d__law_a_book) l__law_a_book c__law_a_book k__law_a_book
  have F__law_homes' := fun_mk (st := d__law_homes) l__law_homes c__law_homes k__law_homes
  have F__law_a_standing' := fun_mk (st := d__law_a_standing) l__law_a_standing c__law_a_standing k__law_a_standing
  have F__law_spoilt' := fun_mk (st := d__law_spoilt) l__law_spoilt c__law_spoilt k__law_spoilt
  have F__law_ends' := fun_mk (st := d__law_ends) l__law_ends c__law_ends k__law_ends
  have F_law' := fun_mk (st := d_law) l_law c_law k_law
  refine ⟨PySem.W.fnOf "law" "law" (defArgs d_law) (defBody d_law) (defScope d_law) .none kV_law dc_law pm_law an_law cd_law ct_law, fun s v => .of_eq rfl, fun base _ _ => ?_⟩
  have H_is_name := mk_is_name (P := l.prog) (w := w) (base := base) B Cn F_is_name' (PySem.W.mg_of X G a_is_name)
  have H_is_rising := mk_is_rising (P := l.prog) (w := w) (base := base) B Cn F_is_rising' (PySem.W.mg_of X G a_is_rising)
  have H_are_some := mk_are_some (P := l.prog) (w := w) (base := base) B Cn F_are_some' (PySem.W.mg_of X G a_are_some)
  have H_are_named := mk_are_named (P := l.prog) (w := w) (base := base) B Cn H_is_name H_is_rising F_are_named' (PySem.W.mg_of X G a_are_named)
  have H_is_book := mk_is_book (P := l.prog) (w := w) (base := base) B Cn H_are_named H_are_some F_is_book' (PySem.W.mg_of X G a_is_book)
  have H_people_of := mk_people_of (P := l.prog) (w := w) (base := base) B Cn F_people_of' (PySem.W.mg_of X G a_people_of)
  have H_homes_of := mk_homes_of (P := l.prog) (w := w) (base := base) B Cn F_homes_of' (PySem.W.mg_of X G a_homes_of)
  have H_is_standing := mk_is_standing (P := l.prog) (w := w) (base := base) B Cn H_people_of H_homes_of F_is_standing' (PySem.W.mg_of X G a_is_standing)
  have H_nowhere := mk_nowhere (P := l.prog) (w := w) (base := base) B Cn F_nowhere' (PySem.W.mg_of X G a_nowhere)
  have H__law_is := mk__law_is (P := l.prog) (w := w) (base := base) B Cn F__law_is' (PySem.W.mg_of X G a__law_is)
  have H__law_draw := mk__law_draw (P := l.prog) (w := w) (base := base) B Cn F__law_draw' (PySem.W.mg_of X G a__law_draw)
  have H__law_begun := mk__law_begun (P := l.prog) (w := w) (base := base) F__law_begun' (PySem.W.mg_of X G a__law_begun)
  have H__law_mixed := mk__law_mixed (P := l.prog) (w := w) (base := base) B Cn H__law_draw F__law_mixed' (PySem.W.mg_of X G a__law_mixed)
  have H__law_a_book := mk__law_a_book (P := l.prog) (w := w) (base := base) B Cn H__law_draw H__law_mixed F__law_a_book' (PySem.W.mg_of X G a__law_a_book)
  have H__law_homes := mk__law_homes (P := l.prog) (w := w) (base := base) B Cn F__law_homes' (PySem.W.mg_of X G a__law_homes)
  have H__law_a_standing := mk__law_a_standing (P := l.prog) (w := w) (base := base) B Cn H__law_homes H__law_draw F__law_a_standing' (PySem.W.mg_of X G a__law_a_standing)
  have H__law_spoilt := mk__law_spoilt (P := l.prog) (w := w) (base := base) B Cn F__law_spoilt' (PySem.W.mg_of X G a__law_spoilt)
  have H__law_ends := mk__law_ends (P := l.prog) (w := w) (base := base) B Cn H__law_is H_is_book F__law_ends' (PySem.W.mg_of X G a__law_ends)
  exact fnL F_law' sc_law (b_law B Cn H__law_begun H__law_a_book H__law_a_standing H__law_is H_is_book H_is_standing H__law_spoilt H_nowhere H__law_ends)
theorem sqf_of {K : PySem.W.Frag} {H : Hp} {a : Addr} {xs : List V} (ho : Only H) (h : SqL K H a xs) : SqF K H a xs := by
  rcases h with (h | h) | h
  · rcases ho a with z | ⟨o, ys, z⟩
    · rw [z] at h
      cases h
    · rw [z] at h
      cases h
  · exact Or.inl h
  · exact Or.inr (Or.inr h)
theorem walk {l : PySem.W.OpenLaw} {qq : Program} {loose : List Str} {XP : (Str → Option Value) → Heap → Prop} {YP : World → Heap → Prop} {d : DefRec} {K : Params → PySem.W.Frag} (hn : l.most = some 63) (hdf : d.params.defaults = [])
    (hY : ∀ (w : World) (h : Heap), YP w h → (K w.params).In h)
    (F : ∀ (w : World) (mg : Str → Option Value) (fa : Addr) (h : Heap), (K w.params).In h → h.Ns mainGlobals mg → mg d.name = some (.ref fa) →
      ∃ fd : FuncData, (∀ (s : Shared) (u : Value), BindsTo s fd ⟨[u], []⟩ [("script", u)]) ∧ ∀ base : Heap, (K w.params).In base → base.Ns mainGlobals mg → FnOk l.prog w (K w.params) mg base (L2.CX l.prog w) 8 fa fd ["script"] (spL (K w.params) m_law)) :
    PySem.W.WalkO qq loose XP YP l.row.toRowW d [] (fun f vs => PySem.call f vs) :=
  L2.walk_of (n := 63) (k := 8) (x := "script") (CX := fun w => L2.CX l.prog w) (sp := fun w => spL (K w.params) m_law) hn (by decide) hdf ⟨rfl, by decide, by decide⟩ hY F
    (fun _ _ a ns hl ho hS => ⟨rfl, a, ns, _, rfl, sqf_of ho hS, law_true ns hl, fun v H' hv => hv.bool_inv⟩) fun _ _ _ _ _ z => by
      obtain ⟨_, _, _, _, _, _, _, _, _, _, _, _, z⟩ := z
      exact z
end W
open PySem PySem.W PyProof.Rows
set_option maxRecDepth 100000 in
set_option maxHeartbeats 0 in
theorem PySem.Challenge.cw_movesup_k01_no_books_holds : PySem.Challenge.rw_movesup_k01_no_books.Holds := by
  w_on; o_law; k_head; (case hw => w_witness2)
  k_fill
  refine W.walk (l := PySem.Challenge.rw_movesup_k01_no_books) rfl rfl (fun w h Y => PySem.W.kIn_of Y) ?F
  case F =>
    intro w mg fa h KX G hmg
    refine' W.all_mk KX G hmg ?a_is_name ?l_is_name ?c_is_name ?k_is_name ?a_is_rising ?l_is_rising ?c_is_rising ?k_is_rising ?a_are_some ?l_are_some ?c_are_some ?k_are_some ?a_are_named ?l_are_named ?c_are_named ?k_are_named ?a_is_book ?l_is_book ?c_is_book ?k_is_book ?a_people_of ?l_people_of ?c_people_of ?k_people_of ?a_homes_of ?l_homes_of ?c_homes_of ?k_homes_of ?a_is_standing ?l_is_standing ?c_is_standing ?k_is_standing ?a_nowhere ?l_nowhere ?c_nowhere ?k_nowhere ?a__law_is ?l__law_is ?c__law_is ?k__law_is ?a__law_draw ?l__law_draw ?c__law_draw ?k__law_draw ?a__law_begun ?l__law_begun ?c__law_begun ?k__law_begun ?a__law_mixed ?l__law_mixed ?c__law_mixed ?k__law_mixed ?a__law_a_book ?l__law_a_book ?c__law_a_book ?k__law_a_book ?a__law_homes ?l__law_homes ?c__law_homes ?k__law_homes ?a__law_a_standing ?l__law_a_standing ?c__law_a_standing ?k__law_a_standing ?a__law_spoilt ?l__law_spoilt ?c__law_spoilt ?k__law_spoilt ?a__law_ends ?l__law_ends ?c__law_ends ?k__law_ends ?a_law ?l_law ?c_law ?k_law ?z_len ?z_all ?z_tuple ?z_list ?z_dict ?z_set ?z_isinstance ?z_zip ?z_enumerate ?z_str ?z_bool ?y_LETTERS ?y_MOST
    (case a_is_name => k_is)
    (case l_is_name => k_is)
    (case c_is_name => k_is)
    (case k_is_name => k_is)
    (case a_is_rising => k_is)
    (case l_is_rising => k_is)
    (case c_is_rising => k_is)
    (case k_is_rising => k_is)
    (case a_are_some => k_is)
    (case l_are_some => k_is)
    (case c_are_some => k_is)
    (case k_are_some => k_is)
    (case a_are_named => k_is)
    (case l_are_named => k_is)
    (case c_are_named => k_is)
    (case k_are_named => k_is)
    (case a_is_book => k_is)
    (case l_is_book => k_is)
    (case c_is_book => k_is)
    (case k_is_book => k_is)
    (case a_people_of => k_is)
    (case l_people_of => k_is)
    (case c_people_of => k_is)
    (case k_people_of => k_is)
    (case a_homes_of => k_is)
    (case l_homes_of => k_is)
    (case c_homes_of => k_is)
    (case k_homes_of => k_is)
    (case a_is_standing => k_is)
    (case l_is_standing => k_is)
    (case c_is_standing => k_is)
    (case k_is_standing => k_is)
    (case a_nowhere => k_is)
    (case l_nowhere => k_is)
    (case c_nowhere => k_is)
    (case k_nowhere => k_is)
    (case a__law_is => k_is)
    (case l__law_is => k_is)
    (case c__law_is => k_is)
    (case k__law_is => k_is)
    (case a__law_draw => k_is)
    (case l__law_draw => k_is)
    (case c__law_draw => k_is)
    (case k__law_draw => k_is)
    (case a__law_begun => k_is)
    (case l__law_begun => k_is)
    (case c__law_begun => k_is)
    (case k__law_begun => k_is)
    (case a__law_mixed => k_is)
    (case l__law_mixed => k_is)
    (case c__law_mixed => k_is)
    (case k__law_mixed => k_is)
    (case a__law_a_book => k_is)
    (case l__law_a_book => k_is)
    (case c__law_a_book => k_is)
    (case k__law_a_book => k_is)
    (case a__law_homes => k_is)
    (case l__law_homes => k_is)
    (case c__law_homes => k_is)
    (case k__law_homes => k_is)
    (case a__law_a_standing => k_is)
    (case l__law_a_standing => k_is)
    (case c__law_a_standing => k_is)
    (case k__law_a_standing => k_is)
    (case a__law_spoilt => k_is)
    (case l__law_spoilt => k_is)
    (case c__law_spoilt => k_is)
    (case k__law_spoilt => k_is)
    (case a__law_ends => k_is)
    (case l__law_ends => k_is)
    (case c__law_ends => k_is)
    (case k__law_ends => k_is)
    (case a_law => k_is)
    (case l_law => k_is)
    (case c_law => k_is)
    (case k_law => k_is)
    (case z_len => k_is)
    (case z_all => k_is)
    (case z_tuple => k_is)
    (case z_list => k_is)
    (case z_dict => k_is)
    (case z_set => k_is)
    (case z_isinstance => k_is)
    (case z_zip => k_is)
    (case z_enumerate => k_is)
    (case z_str => k_is)
    (case z_bool => k_is)
    (case y_LETTERS => k_is)
    (case y_MOST => k_is)
