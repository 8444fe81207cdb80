import PyProof.Rows.All
import Wide.All
import OpenK.AllK
import Wide.FinOn
import HandS.ForMost
import HandS.Lambda
import HandS.Strs
import HandS.Set
import HandS.TupAny
import HandS.TupMul
import HandS.Flow
import HandS.IsInst
import HandS.Steps
import HandS.Zip
import KE.DataEq
import KE.DataCmp
import KE.GoesEnum
import HandS.ForExc
import KE.KDictPairs
import HandS.Style
import PyProof.EnumMake
import KE.DataFind
import HandS.ExcInit
import HandS.ExcIs
import HandS.ExcField
import HandS.ExcValue
import PyProof.DictUpdate
import HandS.EndTab
import KE.KNest
import HandS.DictComp
import KE.SortData
import KE.KDictZip
import KE.GoesZip
import HandS.DictTup
import KE.SortKeyHeap
import HandS.SortKw
import PySem.Challenge.RW_movesup_k02_standings
set_option Elab.async false
set_option linter.all false
set_option maxRecDepth 100000
set_option maxHeartbeats 4000000
namespace DL
open PySem L2

abbrev D := PyData
/-- what an expression hands on: data, or the cell that slot i holds; a loop's own tuple of some data -/
inductive R where
  | d (x : D)
  | own (i : Nat)
  | w (xs : List D)
/-- what a slot holds: data; a list of others, read alone; an own list; an own dict; the law's town; the law's script -/
inductive B where
  | d (x : D)
  | r (xs : List D)
  | l (xs : List D)
  | m (kvs : List (Str × D))
  | t (c : Int) (m : List (Int × Int))
  | s (ns : List Int)
abbrev Rho := List (Option B)

noncomputable def msk (O : Addr → Prop) (H : Hp) : Hp := fun a => @ite _ (O a) (Classical.propDecidable _) none (H a)
theorem msk_out {O : Addr → Prop} {H : Hp} {a : Addr} (h : ¬ O a) : msk O H a = H a := by
  unfold msk
  exact if_neg h
theorem msk_in {O : Addr → Prop} {H : Hp} {a : Addr} (h : O a) : msk O H a = none := by
  unfold msk
  exact if_pos h
theorem msk_some {O : Addr → Prop} {H : Hp} {a : Addr} {o : HO} (h : msk O H a = some o) : ¬ O a ∧ H a = some o := by
  by_cases e : O a
  · rw [msk_in e] at h
    cases h
  · rw [msk_out e] at h
    exact ⟨e, h⟩
theorem msk_of {O : Addr → Prop} {H : Hp} {a : Addr} {o : HO} (h : ¬ O a) (e : H a = some o) : msk O H a = some o := by
  rw [msk_out h]
  exact e

/-- every object of the one is in the other -/
def Le (H H' : Hp) : Prop := ∀ a o, H a = some o → H' a = some o
theorem Le.refl (H : Hp) : Le H H := fun _ _ h => h
theorem Le.trans {H H1 H2 : Hp} (a : Le H H1) (b : Le H1 H2) : Le H H2 := fun x o h => b x o (a x o h)
theorem Le.new {H : Hp} {p : Addr} {o : HO} (h : H p = none) : Le H (upd H p o) := fun a u e => by
  rw [upd_ne (ne_of_none e h)]
  exact e
theorem Le.sqt {K : PySem.W.Frag} {H H' : Hp} {a : Addr} {xs : List V} (k : Le H H') (h : SqT K H a xs) : SqT K H' a xs := by
  rcases h with (h | ⟨o, h⟩) | h
  · exact Or.inl (Or.inl (k _ _ h))
  · exact Or.inl (Or.inr ⟨o, k _ _ h⟩)
  · exact Or.inr h
theorem Le.sql {K : PySem.W.Frag} {H H' : Hp} {a : Addr} {xs : List V} (k : Le H H') (h : SqL K H a xs) : SqL K H' a xs := by
  rcases h with (h | ⟨o, h⟩) | h
  · exact Or.inl (Or.inl (k _ _ h))
  · exact Or.inl (Or.inr ⟨o, k _ _ h⟩)
  · exact Or.inr h
theorem msk_le (O : Addr → Prop) (H : Hp) : Le (msk O H) H := fun _ _ h => (msk_some h).2

/-- a tuple whose object is known to have no dict of its own -/
def TpS (H : Hp) (a : Addr) (xs : List V) : Prop := ∃ o, H a = some (.frz o (.tup xs)) ∧ o.dict = none
theorem TpS.sq {K : PySem.W.Frag} {H : Hp} {a : Addr} {xs : List V} (h : TpS H a xs) : SqT K H a xs := let ⟨o, h, _⟩ := h; Or.inl (Or.inr ⟨o, h⟩)
theorem Le.tps {H H' : Hp} {a : Addr} {xs : List V} (k : Le H H') (h : TpS H a xs) : TpS H' a xs := let ⟨o, h, n⟩ := h; ⟨o, k _ _ h, n⟩
/-- data whose lists are tracked ones -/
inductive Dn (K : PySem.W.Frag) (H : Hp) : V → D → Prop
  | non : Dn K H .non .none
  | bl (b : Bool) : Dn K H (.bl b) (.bool b)
  | int (i : Int) : Dn K H (.int i) (.int i)
  | str (x : Str) : Dn K H (.str x) (.str x)
  | lst {a : Addr} {xs : List V} {ds : List D} : H a = some (.lst xs) → xs.length = ds.length → (∀ (i : Nat) v d, xs[i]? = some v → ds[i]? = some d → Dn K H v d) → Dn K H (.ref a) (.list ds)
  | tup {a : Addr} {xs : List V} {ds : List D} : TpS H a xs → xs.length = ds.length → (∀ (i : Nat) v d, xs[i]? = some v → ds[i]? = some d → Dn K H v d) → Dn K H (.ref a) (.tuple ds)
/-- item by item -/
def DnL (K : PySem.W.Frag) (H : Hp) (xs : List V) (ds : List D) : Prop := xs.length = ds.length ∧ ∀ (i : Nat) v d, xs[i]? = some v → ds[i]? = some d → Dn K H v d
theorem Dn.mono {K : PySem.W.Frag} {H H' : Hp} (k : Le H H') {v : V} {d : D} (h : Dn K H v d) : Dn K H' v d := by
  induction h with
  | non => exact .non
  | bl b => exact .bl b
  | int i => exact .int i
  | str x => exact .str x
  | lst h1 h2 _ ih => exact .lst (k _ _ h1) h2 ih
  | tup h1 h2 _ ih => exact .tup (k.tps h1) h2 ih
theorem DnL.mono {K : PySem.W.Frag} {H H' : Hp} (k : Le H H') {vs : List V} {ds : List D} (h : DnL K H vs ds) : DnL K H' vs ds := ⟨h.1, fun i v d a b => (h.2 i v d a b).mono k⟩
theorem DnL.nil {K : PySem.W.Frag} {H : Hp} : DnL K H [] [] := ⟨rfl, fun i v d a => by simp at a⟩
theorem DnL.cons {K : PySem.W.Frag} {H : Hp} {v : V} {d : D} {vs : List V} {ds : List D} (h : Dn K H v d) (t : DnL K H vs ds) : DnL K H (v :: vs) (d :: ds) :=
  ⟨by simp [t.1], fun i w e a b => by
    cases i with
    | zero =>
      simp at a b
      subst a
      subst b
      exact h
    | succ i => exact t.2 i w e (by simpa using a) (by simpa using b)⟩
theorem DnL.head {K : PySem.W.Frag} {H : Hp} {v : V} {d : D} {vs : List V} {ds : List D} (t : DnL K H (v :: vs) (d :: ds)) : Dn K H v d ∧ DnL K H vs ds :=
  ⟨t.2 0 v d rfl rfl, by simpa using t.1, fun i w e a b => t.2 (i + 1) w e (by simpa using a) (by simpa using b)⟩
theorem DnL.append {K : PySem.W.Frag} {H : Hp} : ∀ {vs ws : List V} {ds es : List D}, DnL K H vs ds → DnL K H ws es → DnL K H (vs ++ ws) (ds ++ es)
  | [], _, [], _, _, t => t
  | [], _, _ :: _, _, h, _ => by simp [DnL] at h
  | _ :: _, _, [], _, h, _ => by simp [DnL] at h
  | _ :: _, _, _ :: _, _, h, t => .cons h.head.1 (DnL.append h.head.2 t)
theorem DnL.at {K : PySem.W.Frag} {H : Hp} {vs : List V} {ds : List D} (h : DnL K H vs ds) {i : Nat} {d : D} (e : ds[i]? = some d) : ∃ v, vs[i]? = some v ∧ Dn K H v d := by
  have hi : i < vs.length := by
    rw [h.1]
    exact (List.getElem?_eq_some_iff.mp e).1
  exact ⟨vs[i], by simp [hi], h.2 i _ d (by simp [hi]) e⟩
theorem DnL.take {K : PySem.W.Frag} {H : Hp} {vs : List V} {ds : List D} (h : DnL K H vs ds) (n : Nat) : DnL K H (vs.take n) (ds.take n) :=
  ⟨by simp [h.1], fun i v d a b => by
    rw [List.getElem?_take] at a b
    split at a
    · rename_i q
      rw [if_pos q] at b
      exact h.2 i v d a b
    · cases a⟩
theorem DnL.drop {K : PySem.W.Frag} {H : Hp} {vs : List V} {ds : List D} (h : DnL K H vs ds) (n : Nat) : DnL K H (vs.drop n) (ds.drop n) :=
  ⟨by simp [h.1], fun i v d a b => by
    rw [List.getElem?_drop] at a b
    exact h.2 _ v d a b⟩
theorem Dn.none_inv {K : PySem.W.Frag} {H : Hp} {v : V} (h : Dn K H v .none) : v = .non := by cases h; rfl
theorem Dn.str_inv {K : PySem.W.Frag} {H : Hp} {v : V} {x : Str} (h : Dn K H v (.str x)) : v = .str x := by cases h; rfl
theorem Dn.int_inv {K : PySem.W.Frag} {H : Hp} {v : V} {x : Int} (h : Dn K H v (.int x)) : v = .int x := by cases h; rfl
theorem Dn.bool_inv {K : PySem.W.Frag} {H : Hp} {v : V} {x : Bool} (h : Dn K H v (.bool x)) : v = .bl x := by cases h; rfl
theorem Dn.tup_inv {K : PySem.W.Frag} {H : Hp} {v : V} {ds : List D} (h : Dn K H v (.tuple ds)) : ∃ a xs, v = .ref a ∧ TpS H a xs ∧ DnL K H xs ds := by
  cases h with
  | tup h1 h2 h3 => exact ⟨_, _, rfl, h1, h2, h3⟩
theorem Dn.lst_inv {K : PySem.W.Frag} {H : Hp} {v : V} {ds : List D} (h : Dn K H v (.list ds)) : ∃ a xs, v = .ref a ∧ H a = some (.lst xs) ∧ DnL K H xs ds := by
  cases h with
  | lst h1 h2 h3 => exact ⟨_, _, rfl, h1, h2, h3⟩
theorem Dn.ntup {K : PySem.W.Frag} {H : Hp} {a : Addr} {xs : List V} {ds : List D} (h : TpS H a xs) (t : DnL K H xs ds) : Dn K H (.ref a) (.tuple ds) := .tup h t.1 t.2
theorem Dn.nlst {K : PySem.W.Frag} {H : Hp} {a : Addr} {xs : List V} {ds : List D} (h : H a = some (.lst xs)) (t : DnL K H xs ds) : Dn K H (.ref a) (.list ds) := .lst h t.1 t.2

mutual
def imm : D → Bool
  | .none => true
  | .bool _ => true
  | .int _ => true
  | .str _ => true
  | .tuple xs => immL xs
  | .list _ => false
  | .dict _ => false
def immL : List D → Bool
  | [] => true
  | x :: xs => imm x && immL xs
end
theorem immL_at : ∀ {xs : List D} {i : Nat} {d : D}, immL xs = true → xs[i]? = some d → imm d = true
  | [], i, d, _, e => by simp at e
  | x :: xs, 0, d, h, e => by
    simp at e
    subst e
    simp [immL] at h
    exact h.1
  | x :: xs, i + 1, d, h, e => by
    simp [immL] at h
    exact immL_at h.2 (i := i) (by simpa using e)
/-- what is no list is not hidden -/
theorem Dn.hide {K : PySem.W.Frag} {H : Hp} {O : Addr → Prop} (k : ∀ a xs, Rd H a (.tup xs) → ¬ O a) {v : V} {d : D} (h : Dn K H v d) (hi : imm d = true) : Dn K (msk O H) v d := by
  induction h with
  | non => exact .non
  | bl b => exact .bl b
  | int i => exact .int i
  | str x => exact .str x
  | lst h1 h2 _ ih => simp [imm] at hi
  | @tup a xs ds h1 h2 _ ih =>
    refine .tup ?_ h2 fun i v d a b => ih i v d a b (immL_at (by simpa [imm] using hi) b)
    obtain ⟨o, h1, n⟩ := h1
    exact ⟨o, msk_of (k _ _ (Or.inr ⟨o, h1⟩)) h1, n⟩

section
variable {X : Cx} {pins : List (Addr × Obj)} {σ : St} {H : Hp} {s : Shared}
theorem dp_of {K : PySem.W.Frag} {H : Hp} {v : V} {d : D} (h : Dn K H v d) : Dp K H v d := by
  induction h with
  | non => exact .non
  | bl b => exact .bl b
  | int i => exact .int i
  | str x => exact .str x
  | @lst a xs ds h1 h2 hx ih =>
    refine .lst (Or.inl (Or.inl h1)) ?_
    clear h1
    induction xs generalizing ds with
    | nil =>
      cases ds with
      | nil => exact .nil
      | cons => simp at h2
    | cons x xs jh =>
      cases ds with
      | nil => simp at h2
      | cons d ds => exact .cons (ih 0 x d rfl rfl) (jh (by simpa using h2) (fun i v e a b => hx (i + 1) v e (by simpa using a) (by simpa using b)) fun i v e a b => ih (i + 1) v e (by simpa using a) (by simpa using b))
  | @tup a xs ds h1 h2 hx ih =>
    refine .tup h1.sq ?_
    clear h1
    induction xs generalizing ds with
    | nil =>
      cases ds with
      | nil => exact .nil
      | cons => simp at h2
    | cons x xs jh =>
      cases ds with
      | nil => simp at h2
      | cons d ds => exact .cons (ih 0 x d rfl rfl) (jh (by simpa using h2) (fun i v e a b => hx (i + 1) v e (by simpa using a) (by simpa using b)) fun i v e a b => ih (i + 1) v e (by simpa using a) (by simpa using b))
end
end DL
namespace DL
open PySem L2

/-! ### set(x) of texts -/
def hasK (l : List Key) (k : Key) : Bool := l.any fun j => decide (j = k)
def ddl (l : List Key) : List Key := l.foldl (fun acc k => if hasK acc k = true then acc else acc ++ [k]) []
theorem ddl_snoc (l : List Key) (k : Key) : ddl (l ++ [k]) = if hasK (ddl l) k = true then ddl l else ddl l ++ [k] := by
  unfold ddl
  rw [List.foldl_append]
  rfl
theorem ddl_le (l : List Key) : ∀ n, (ddl (l.take n)).length ≤ n
  | 0 => by simp [ddl]
  | n + 1 => by
    have ih := ddl_le l n
    by_cases h : n < l.length
    · rw [List.take_succ_eq_append_getElem h, ddl_snoc]
      split
      · omega
      · simp
        omega
    · rw [List.take_of_length_le (by omega)]
      rw [List.take_of_length_le (by omega)] at ih
      omega
theorem setSame {prog : Program} {w : World} {h : Heap} {a : Addr} {S S' : Key → Bool} {n n' : Nat} (x : h.SetOf (mixKind prog w) a S n) (e : ∀ k, S k = S' k) (en : n = n') : h.SetOf (mixKind prog w) a S' n' := by
  rw [← show S = S' from funext e, ← en]
  exact x
abbrev emS (led : Bool) : Obj := { cls := .type "set", dict := none, data := .set #[] 0 (.fresh 0 0 led) }
abbrev KeyAt (prog : Program) (w : World) (ks : List Key) (i : Nat) (v : Value) : Prop := ∃ k, ks[i]? = some k ∧ (mixKind prog w).is k v = true ∧ v.scannable = true
section
variable {prog : Program} {w : World} {A : Around} {R : Result → Shared → Prop} {it : Addr} {fp wr : List Addr} {G : Array GenState → Array GenState → Prop} {n : Nat} {P : Nat → Value → Prop} {St : Nat → Shared → Prop}
theorem loopK (W : WalksS prog w A.in1 it fp wr G n P St) (a : Addr) (off : a ∉ fp) (ks : List Key) (hs : ks.length = n) (hb : n + 1 < scanBound) (hv : ∀ i v, P i v → KeyAt prog w ks i v) :
    ∀ (m i : Nat) (s : Shared), n - i = m → i ≤ n → St i s → s.heap.SetOf (mixKind prog w) a (hasK (ddl (ks.take i))) (ddl (ks.take i)).length →
      (∀ s', Moved (a :: wr) G s s' → s'.heap.SetOf (mixKind prog w) a (hasK (ddl ks)) (ddl ks).length → R (.ok (.ret .none)) s') →
      codeAny (model prog w) A (.builtin "set.update.loop" ⟨[.ref a, .ref it], []⟩) R s := by
  have offw : a ∉ wr := fun z => off (W.sub _ z)
  have up : ∀ b ∈ wr, b ∈ a :: wr := fun b z => List.mem_cons_of_mem _ z
  have stay : ∀ {s s' : Shared} {S : Key → Bool} {c : Nat}, Moved wr G s s' → s.heap.SetOf (mixKind prog w) a S c → s'.heap.SetOf (mixKind prog w) a S c := fun mv x => by
    obtain ⟨o, es, ep, t, ho, more⟩ := x
    exact ⟨o, es, ep, t, mv.heap a _ offw ho, more⟩
  intro m
  induction m with
  | zero =>
    intro i s h1 h2 st fs fin
    have ei : i = n := by omega
    subst ei
    apply codeAny_builtin PyProof.Rows.F.entry_set_update_loop
    rw [Around.under_plainId PyProof.Rows.F.plain_set_update_loop _]
    show wpAny _ A.in1 (pyNext (.ref it) >>= _) _ _ s
    refine wpAny_bind (W.done s _ _ st fun s1 mv => ?_)
    show wpAny _ A.in1 (ret Value.none) _ _ s1
    have e : ks.take i = ks := List.take_of_length_le (by omega)
    rw [e] at fs
    exact wpAny_pure (fin s1 (mv.mono up) (stay mv fs))
  | succ m ih =>
    intro i s h1 h2 st fs fin
    have lt : i < n := by omega
    apply codeAny_builtin PyProof.Rows.F.entry_set_update_loop
    rw [Around.under_plainId PyProof.Rows.F.plain_set_update_loop _]
    show wpAny _ A.in1 (pyNext (.ref it) >>= _) _ _ s
    refine wpAny_bind (W.item i s _ _ lt st fun v s1 hp st1 mv => ?_)
    obtain ⟨k, g1, g2, g3⟩ := hv i v hp
    have fs1 := stay mv fs
    show wpAny _ A.in1 (holding [v] (setAdd a v) >>= _) _ _ s1
    refine wpAny_bind (wpAny_holding ?_)
    unfold setAdd
    refine wpAny_holding (wpAny_bind ((mixKind prog w).pyHash g2 ?_))
    have room : (ddl (ks.take i)).length + 1 < scanBound := by
      have := ddl_le ks i
      omega
    refine wpAny_setAddHashed_of (knd := mixKind prog w) (s := { s1 with toks := s1.toks + 1 }) g2 g3 fs1 room fun h2 sb fs2 => ?_
    have et : ks.take (i + 1) = ks.take i ++ [k] := by
      rw [List.take_succ, g1]
      rfl
    have fs3 : h2.SetOf (mixKind prog w) a (hasK (ddl (ks.take (i + 1)))) (ddl (ks.take (i + 1))).length := by
      refine setSame fs2 (fun j => ?_) ?_
      · rw [et, ddl_snoc]
        by_cases hk : hasK (ddl (ks.take i)) k = true
        · rw [if_pos hk]
          by_cases hj : j = k
          · subst hj
            simp [hk]
          · simp [hj]
        · rw [if_neg hk]
          unfold hasK
          rw [List.any_append]
          have e : (decide (j = k)) = [k].any fun i => decide (i = j) := by simp [eq_comm]
          rw [e]
      · rw [et, ddl_snoc]
        by_cases hk : hasK (ddl (ks.take i)) k = true
        · simp [hk]
        · simp [hk]
    refine wpAny_pure ⟨plainId_quiet PyProof.Rows.F.plain_set_update_loop _, ih (i + 1) _ (by omega) lt (W.frame _ s1 _ _ st1 (Nat.le_succ _) fun b hb o e => ?_) fs3 fun s2 mv2 fs4 => ?_⟩
    · rw [sb.2 b fun z : b = a => off (z ▸ hb)]
      exact e
    · refine fin s2 (Moved.trans W.gtrans ((mv.mono up).then_heap (Nat.le_succ _) fun b o hb e => ?_) mv2) fs4
      rw [sb.2 b fun z : b = a => hb (z ▸ List.mem_cons_self)]
      exact e
end
section
variable {prog : Program} {w : World} {A : Around} {E : Value → Shared → Prop} {s : Shared}
set_option maxHeartbeats 8000000 in
theorem set_list {l : Addr} {its : Array Value} {ks : List Key} {Q : Value → Shared → Prop} (hh : A.handled = none) (hl : s.heap.IsList l its) (hs : ks.length = its.size) (hb : its.size + 1 < scanBound) (hv : ∀ (i : Nat) (v : Value), its[i]? = some v → KeyAt prog w ks i v)
    (fin : ∀ (h' : Heap) (tk : Nat) (S : Key → Bool), h'.SetOf (mixKind prog w) s.heap.objs.size S (ddl ks).length → (∀ b o, s.heap.get? b = some o → h'.get? b = some o) → Q (.ref s.heap.objs.size) { s with heap := h', toks := tk }) :
    wpAny (model prog w) A (call (.type "set") [.ref l]) Q E s := by
  obtain ⟨mc, mt, hmro⟩ := PySem.F.called_set.mro
  have q1 := PySem.F.called_set.made
  have q2 := PySem.F.called_set.sub
  apply wpAny_call
  apply codeAny_of_tree
  show wpAny _ _ (callAny (.type "set") _) _ _ s
  refine wpAny_pure ⟨Code.quiet_builtin _ (by decide +kernel), ?_⟩
  apply codeAny_builtin PySem.F.entry_type_call
  rw [Around.under_plain (weight_type_call_type "set" [.ref l] []) rfl]
  have q3 := PySem.F.called_set.notType
  have q4 := PySem.F.called_set.canCreate
  have q5 := PySem.F.typeCall_set_1 (.ref l)
  repeat any_goals first | assumption | wp_step
  refine codeAny_mono (code_set_new_1 (.ref l) (E := E) (Q₁ := fun ob s1 => ∃ led : Bool, ob = .ref s.heap.objs.size ∧ s1 = { s with heap := s.heap.push (emS led) }) fun led => ⟨led, rfl, rfl⟩) fun res s1 hr => ?_
  cases res with
  | error e => exact hr
  | ok fl =>
    cases fl with
    | ret ob =>
      obtain ⟨led, rfl, rfl⟩ := hr
      have g0 : (s.heap.push (emS led)).get? s.heap.objs.size = some (emS led) := Heap.get?_push_size _ rfl
      have ty : Shared.TypeIs { s with heap := s.heap.push (emS led) } (.ref s.heap.objs.size) "set" := ⟨_, g0, rfl⟩
      have q6 := PySem.F.called_set.init.lookup
      have q7 := PySem.F.called_set.init.bind (.ref s.heap.objs.size)
      repeat any_goals first | assumption | wp_step
      refine codeAny_mono (codeAny_call_builtin (R := wants (fun r s2 => r = .none ∧ ∃ h' tk S, s2 = { s with heap := h', toks := tk } ∧ h'.SetOf (mixKind prog w) s.heap.objs.size S (ddl ks).length ∧
        ∀ b o, s.heap.get? b = some o → h'.get? b = some o) E) PySem.F.called_set.init.plain PySem.F.entry_set_init (check_set_init_1 ty ?_)) fun res2 s2 hr2 => ?_
      · obtain ⟨ol, hol, hcl, nl, hdl⟩ := hl
        obtain ⟨oc, od, oda, osl⟩ := ol
        simp only at hcl hdl
        subst hcl
        subst hdl
        have hol2 : (s.heap.push (emS led)).get? l = some { cls := .type "list", dict := od, data := .seq its nl, slots := osl } := Heap.get?_push_of_some _ hol
        have q8 := PySem.F.sub_list_set
        have q9 := PySem.F.sub_list_frozenset
        have q10 : (Value.type "list" == Value.type "dict") = false := by decide
        have hl2 : (s.heap.push (emS led)).IsList l its := ⟨_, hol2, rfl, nl, rfl⟩
        unfold Builtin.«set.__init__» noKeywords Builtin.Frozenset.updateFrom
        generalize hpi : pyIter = PI
        wp_walk
        subst hpi
        apply wpAny_pyIter_list hl2
        apply wpAny_bind
        apply wpAny_runValue
        have lt1 : l < s.heap.objs.size := Heap.lt_size hol
        have hh3 : A.in1.in1.in1.handled = none := by simp [hh]
        have ne1 : l ≠ (s.heap.push (emS led)).objs.size := by
          rw [Heap.size_push]
          exact Nat.ne_of_lt (Nat.lt_succ_of_lt lt1)
        have off : s.heap.objs.size ∉ [(s.heap.push (emS led)).objs.size, l] := by
          rw [Heap.size_push]
          intro z
          rcases List.mem_cons.mp z with z | z
          · exact Nat.ne_of_lt (Nat.lt_succ_self _) z
          · exact Nat.ne_of_gt lt1 (List.mem_singleton.mp z)
        refine loopK (Walks.list hh3 _ l ne1 its).toS s.heap.objs.size off ks hs hb hv its.size 0 _ (by omega) (Nat.zero_le _) ⟨⟨_, Heap.get?_push_size _ rfl, rfl, rfl⟩, hl2.push _⟩ ?_ ?_
        · have g1 : ((s.heap.push (emS led)).push { cls := .type "list_iterator", data := .fields #[.ref l, .int 0 0] }).get? s.heap.objs.size = some (emS led) := Heap.get?_push_of_some _ g0
          exact ⟨_, #[], 0, _, g1, ⟨rfl, rfl, rfl⟩, rfl, fun e he => by simp at he, fun k => by simp [ddl, hasK], by decide, by rfl, rfl⟩
        · intro s3 mv fs
          obtain ⟨h3, g3, d3, tk3, os3⟩ := s3
          have eg : g3 = s.gens := mv.gens
          have ed : d3 = s.drawn := mv.drawn
          have eo : os3 = s.os := mv.os
          subst eg
          subst ed
          subst eo
          refine wpAny_pure ?_
          show wpAny _ _ (ret Value.none) _ _ _
          refine wpAny_pure ⟨rfl, h3, tk3, _, rfl, fs, fun b o e => ?_⟩
          have lb := Heap.lt_size e
          refine mv.heap b o (fun z => ?_) (Heap.get?_push_of_some _ (Heap.get?_push_of_some _ e))
          rcases List.mem_cons.mp z with z | z
          · exact Nat.ne_of_lt lb z
          · have z := List.mem_singleton.mp z
            rw [Heap.size_push] at z
            exact Nat.ne_of_lt (Nat.lt_succ_of_lt lb) z
      · cases res2 with
        | error e => exact hr2
        | ok fl2 =>
          cases fl2 with
          | ret r =>
            obtain ⟨rfl, h3, tk, S, rfl, fs, kp⟩ := hr2
            repeat any_goals first | assumption | wp_step
            exact fin _ _ _ fs kp
          | _ => exact hr2.elim
    | _ => exact hr.elim

set_option maxHeartbeats 8000000 in
theorem set_tuple {l : Addr} {its : Array Value} {ks : List Key} {Q : Value → Shared → Prop} (hh : A.handled = none) (hl : s.heap.IsTuple l its) (hs : ks.length = its.size) (hb : its.size + 1 < scanBound) (hv : ∀ (i : Nat) (v : Value), its[i]? = some v → KeyAt prog w ks i v)
    (fin : ∀ (h' : Heap) (tk : Nat) (S : Key → Bool), h'.SetOf (mixKind prog w) s.heap.objs.size S (ddl ks).length → (∀ b o, s.heap.get? b = some o → h'.get? b = some o) → Q (.ref s.heap.objs.size) { s with heap := h', toks := tk }) :
    wpAny (model prog w) A (call (.type "set") [.ref l]) Q E s := by
  obtain ⟨mc, mt, hmro⟩ := PySem.F.called_set.mro
  have q1 := PySem.F.called_set.made
  have q2 := PySem.F.called_set.sub
  apply wpAny_call
  apply codeAny_of_tree
  show wpAny _ _ (callAny (.type "set") _) _ _ s
  refine wpAny_pure ⟨Code.quiet_builtin _ (by decide +kernel), ?_⟩
  apply codeAny_builtin PySem.F.entry_type_call
  rw [Around.under_plain (weight_type_call_type "set" [.ref l] []) rfl]
  have q3 := PySem.F.called_set.notType
  have q4 := PySem.F.called_set.canCreate
  have q5 := PySem.F.typeCall_set_1 (.ref l)
  repeat any_goals first | assumption | wp_step
  refine codeAny_mono (code_set_new_1 (.ref l) (E := E) (Q₁ := fun ob s1 => ∃ led : Bool, ob = .ref s.heap.objs.size ∧ s1 = { s with heap := s.heap.push (emS led) }) fun led => ⟨led, rfl, rfl⟩) fun res s1 hr => ?_
  cases res with
  | error e => exact hr
  | ok fl =>
    cases fl with
    | ret ob =>
      obtain ⟨led, rfl, rfl⟩ := hr
      have g0 : (s.heap.push (emS led)).get? s.heap.objs.size = some (emS led) := Heap.get?_push_size _ rfl
      have ty : Shared.TypeIs { s with heap := s.heap.push (emS led) } (.ref s.heap.objs.size) "set" := ⟨_, g0, rfl⟩
      have q6 := PySem.F.called_set.init.lookup
      have q7 := PySem.F.called_set.init.bind (.ref s.heap.objs.size)
      repeat any_goals first | assumption | wp_step
      refine codeAny_mono (codeAny_call_builtin (R := wants (fun r s2 => r = .none ∧ ∃ h' tk S, s2 = { s with heap := h', toks := tk } ∧ h'.SetOf (mixKind prog w) s.heap.objs.size S (ddl ks).length ∧
        ∀ b o, s.heap.get? b = some o → h'.get? b = some o) E) PySem.F.called_set.init.plain PySem.F.entry_set_init (check_set_init_1 ty ?_)) fun res2 s2 hr2 => ?_
      · obtain ⟨ol, hol, hcl, nl, hdl⟩ := hl
        obtain ⟨oc, od, oda, osl⟩ := ol
        simp only at hcl hdl
        subst hcl
        subst hdl
        have hol2 : (s.heap.push (emS led)).get? l = some { cls := .type "tuple", dict := od, data := .seq its nl, slots := osl } := Heap.get?_push_of_some _ hol
        have q8 := PySem.F.sub_tuple_set
        have q9 := PySem.F.sub_tuple_frozenset
        have q10 : (Value.type "tuple" == Value.type "dict") = false := by decide
        have hl2 : (s.heap.push (emS led)).IsTuple l its := ⟨_, hol2, rfl, nl, rfl⟩
        unfold Builtin.«set.__init__» noKeywords Builtin.Frozenset.updateFrom
        generalize hpi : pyIter = PI
        wp_walk
        subst hpi
        apply wpAny_pyIter_tuple hl2
        apply wpAny_bind
        apply wpAny_runValue
        have lt1 : l < s.heap.objs.size := Heap.lt_size hol
        have hh3 : A.in1.in1.in1.handled = none := by simp [hh]
        have ne1 : l ≠ (s.heap.push (emS led)).objs.size := by
          rw [Heap.size_push]
          exact Nat.ne_of_lt (Nat.lt_succ_of_lt lt1)
        have off : s.heap.objs.size ∉ [(s.heap.push (emS led)).objs.size, l] := by
          rw [Heap.size_push]
          intro z
          rcases List.mem_cons.mp z with z | z
          · exact Nat.ne_of_lt (Nat.lt_succ_self _) z
          · exact Nat.ne_of_gt lt1 (List.mem_singleton.mp z)
        refine loopK (Walks.tuple hh3 _ l ne1 its).toS s.heap.objs.size off ks hs hb hv its.size 0 _ (by omega) (Nat.zero_le _) ⟨⟨_, Heap.get?_push_size _ rfl, rfl, rfl⟩, hl2.push _⟩ ?_ ?_
        · have g1 : ((s.heap.push (emS led)).push { cls := .type "tuple_iterator", data := .fields #[.ref l, .int 0 0] }).get? s.heap.objs.size = some (emS led) := Heap.get?_push_of_some _ g0
          exact ⟨_, #[], 0, _, g1, ⟨rfl, rfl, rfl⟩, rfl, fun e he => by simp at he, fun k => by simp [ddl, hasK], by decide, by rfl, rfl⟩
        · intro s3 mv fs
          obtain ⟨h3, g3, d3, tk3, os3⟩ := s3
          have eg : g3 = s.gens := mv.gens
          have ed : d3 = s.drawn := mv.drawn
          have eo : os3 = s.os := mv.os
          subst eg
          subst ed
          subst eo
          refine wpAny_pure ?_
          show wpAny _ _ (ret Value.none) _ _ _
          refine wpAny_pure ⟨rfl, h3, tk3, _, rfl, fs, fun b o e => ?_⟩
          have lb := Heap.lt_size e
          refine mv.heap b o (fun z => ?_) (Heap.get?_push_of_some _ (Heap.get?_push_of_some _ e))
          rcases List.mem_cons.mp z with z | z
          · exact Nat.ne_of_lt lb z
          · have z := List.mem_singleton.mp z
            rw [Heap.size_push] at z
            exact Nat.ne_of_lt (Nat.lt_succ_of_lt lb) z
      · cases res2 with
        | error e => exact hr2
        | ok fl2 =>
          cases fl2 with
          | ret r =>
            obtain ⟨rfl, h3, tk, S, rfl, fs, kp⟩ := hr2
            repeat any_goals first | assumption | wp_step
            exact fin _ _ _ fs kp
          | _ => exact hr2.elim
    | _ => exact hr.elim
end
end DL
namespace DL
open PySem L2

/-- an object that may change -/
def Mt : HO → Prop
  | .lst _ => True
  | .dK _ => True
  | .dT _ => True
  | .set _ _ => True
  | .ins _ _ _ => True
  | .ext φ => ∀ c q, HO.ext φ ≠ LamX.CodeO c q
  | _ => False
/-- .. or a table -/
def Mv (o : HO) : Prop := Mt o ∨ ∃ ps, o = .tbl ps
theorem Mv.ntup {xs : List V} (h : Mv (.tup xs)) : False := by
  rcases h with h | ⟨ps, h⟩
  · exact h
  · cases h
theorem Mv.nfrz {o : Obj} {u : HO} (h : Mv (.frz o u)) : False := by
  rcases h with h | ⟨ps, h⟩
  · exact h
  · cases h
theorem Mt.ntup {H : Hp} {a : Addr} {o : HO} (h : H a = some o) (m : Mt o) (xs : List V) : ¬ Rd H a (.tup xs) := by
  rintro (q | ⟨u, q⟩)
  · rw [h] at q
    cases q
    exact m
  · rw [h] at q
    cases q
    exact m
/-- a thing that holds no code object -/
theorem mt_ext {φ : Heap → Prop} (h : ∀ hp, φ hp → ∃ a o, hp.get? a = some o ∧ ∀ vs, o.data ≠ .fields vs) : Mt (.ext φ) := fun c q e => by
  unfold LamX.CodeO at e
  injection e with e1
  let oc : Obj := { cls := .none, data := .fields #[.none, .str q default] }
  let hp : Heap := { objs := Array.replicate (c + 1) oc }
  have g : ∀ a o, hp.get? a = some o → o = oc := fun a o z => by
    unfold Heap.get? at z
    simp only [hp, Array.getElem?_replicate] at z
    by_cases hc : a < c + 1
    · rw [if_pos hc] at z
      exact (Option.some.inj z).symm
    · rw [if_neg hc] at z
      cases z
  have hφ : φ hp := by
    rw [e1]
    refine ⟨oc, #[.none, .str q default], default, ?_, rfl, rfl⟩
    unfold Heap.get?
    simp only [hp, Array.getElem?_replicate]
    rw [if_pos (Nat.lt_succ_self c)]
  obtain ⟨a, o, h1, h2⟩ := h hp hφ
  rw [g a o h1] at h2
  exact h2 _ rfl
/-- the frame of a body: the written part, foreign cells, cells of others that may change, the heap at the entry -/
structure Fr where
  K : PySem.W.Frag
  F : Addr → Prop
  Vo : Addr → Prop
  H0 : Hp
  tw : Option (Addr × Addr) := none
  T : List (Addr × Str) := []
  xe : XK := fun _ _ _ => False
  cl : Str → Option Addr := fun _ => none
def OO (F : Addr → Prop) (fp : Nat → List Addr) (an : List (Addr × HO)) : Addr → Prop := fun a => F a ∨ (∃ i, a ∈ fp i) ∨ ∃ o, (a, o) ∈ an
/-- a list that nobody changes -/
def SqF (K : PySem.W.Frag) (H : Hp) (a : Addr) (xs : List V) : Prop := (∃ o, H a = some (.frz o (.lst xs))) ∨ SqL K (fun _ => none) a xs
theorem SqF.sql {K : PySem.W.Frag} {H : Hp} {a : Addr} {xs : List V} (h : SqF K H a xs) : SqL K H a xs := by
  rcases h with ⟨o, h⟩ | h
  · exact Or.inl (Or.inr ⟨o, h⟩)
  · exact Le.sql (fun _ _ e => by cases e) h
theorem Le.sqf {K : PySem.W.Frag} {H H' : Hp} {a : Addr} {xs : List V} (k : Le H H') (h : SqF K H a xs) : SqF K H' a xs := by
  rcases h with ⟨o, h⟩ | h
  · exact Or.inl ⟨o, k _ _ h⟩
  · exact Or.inr h
/-- text keys, values data -/
def DnK (K : PySem.W.Frag) (H : Hp) (vs : List (Key × V)) (kvs : List (Str × D)) : Prop :=
  vs.map (·.1) = kvs.map (fun p => Sum.inr p.1) ∧ DnL K H (vs.map (·.2)) (kvs.map (·.2))
def BOk (C : Fr) (O : Addr → Prop) (H : Hp) (f : List Addr) (v : V) : B → Prop
  | .d x => f = [] ∧ Dn C.K (msk O H) v x
  | .r xs => f = [] ∧ ∃ a vs, v = .ref a ∧ ¬ C.Vo a ∧ C.H0 a = some (.lst vs) ∧ DnL C.K (msk O H) vs xs
  | .l xs => ∃ a vs, v = .ref a ∧ f = [a] ∧ C.H0 a = none ∧ H a = some (.lst vs) ∧ DnL C.K (msk O H) vs xs
  | .m kvs => ∃ a vs, v = .ref a ∧ f = [a] ∧ C.H0 a = none ∧ H a = some (.dK vs) ∧ DnK C.K (msk O H) vs kvs
  | .t c m => ∃ a b, v = .ref a ∧ f = [a, b] ∧ a ≠ b ∧ (∀ p, C.tw = some p → p = (a, b)) ∧ H a = some (.dK [(Sum.inr "count", .int c), (Sum.inr "rests", .ref b)]) ∧ H b = some (.dK (m.map fun p => (Sum.inl p.1, .int p.2)))
  | .s ns => f = [] ∧ ∃ a, v = .ref a ∧ SqF C.K (msk O H) a (ns.map V.int)
def TOk (C : Fr) (O : Addr → Prop) (H : Hp) (σ : L2.St) (p : V × R) : Prop :=
  match p.2 with
  | .d x => Dn C.K (msk O H) p.1 x
  | .own i => σ[i]? = some (some p.1)
  | .w xs => ∃ a vs, p.1 = .ref a ∧ SqT C.K (msk O H) a vs ∧ DnL C.K (msk O H) vs xs

/-- the tables of code objects stand, and are nobody's -/
def TabF (C : Fr) (fp : Nat → List Addr) (an : List (Addr × HO)) (H : Hp) : Prop := ∀ p ∈ C.T, (∀ i, p.1 ∉ fp i) ∧ (∀ o, (p.1, o) ∉ an) ∧ LamX.TabS H p.1 p.2
structure SDf (C : Fr) (fp : Nat → List Addr) (σ : L2.St) (H : Hp) (ρ : Rho) (τ : List (V × R)) (an : List (Addr × HO)) : Prop where
  tab : TabF C fp an H
  len : ρ.length = σ.length
  ext : ∀ a o, ¬ C.Vo a → C.H0 a = some o → H a = some o
  vol : ∀ a, C.Vo a → (∃ o, C.H0 a = some o) ∧ ∃ o, H a = some o ∧ Mv o
  inj : ∀ i j a, a ∈ fp i → a ∈ fp j → i = j
  ani : ∀ i a, a ∈ fp i → ∀ o, (a, o) ∉ an
  and : (an.map (·.1)).Nodup
  own : ∀ i a, a ∈ fp i → (C.Vo a ∨ C.H0 a = none) ∧ ∃ o, H a = some o ∧ Mt o
  ano : ∀ a o, (a, o) ∈ an → C.H0 a = none ∧ H a = some o ∧ Mt o
  frn : ∀ a, C.F a → (∃ o, C.H0 a = some o) ∧ ∃ o, H a = some o ∧ Mv o
  bnd : ∀ i b, ρ[i]? = some (some b) → ∃ v, σ[i]? = some (some v) ∧ BOk C (OO C.F fp an) H (fp i) v b
  emp : ∀ i, (∀ b, ρ[i]? ≠ some (some b)) → fp i = []
  tmp : ∀ p ∈ τ, TOk C (OO C.F fp an) H σ p
def SD (C : Fr) (σ : L2.St) (H : Hp) (ρ : Rho) (τ : List (V × R)) (an : List (Addr × HO)) : Prop := ∃ fp, SDf C fp σ H ρ τ an

section
variable {C : Fr} {fp fp' : Nat → List Addr} {σ σ' : L2.St} {H H' : Hp} {ρ ρ' : Rho} {τ τ' : List (V × R)} {an an' : List (Addr × HO)} {O O' : Addr → Prop}

theorem le_msk (h : ∀ a, O' a → O a ∨ H a = none) (k : ∀ a o, ¬ O a → H a = some o → H' a = some o) : Le (msk O H) (msk O' H') := fun a o e => by
  obtain ⟨n, e⟩ := msk_some e
  refine msk_of (fun z => ?_) (k a o n e)
  rcases h a z with q | q
  · exact n q
  · rw [q] at e
    cases e
theorem BOk.mono {f : List Addr} {v : V} {b : B} (h : BOk C O H f v b) (k : Le (msk O H) (msk O' H')) (kf : ∀ a ∈ f, ∀ o, H a = some o → H' a = some o) : BOk C O' H' f v b := by
  cases b with
  | d x => exact ⟨h.1, h.2.mono k⟩
  | r xs =>
    obtain ⟨e, a, vs, h1, h2, h3, h4⟩ := h
    exact ⟨e, a, vs, h1, h2, h3, h4.mono k⟩
  | l xs =>
    obtain ⟨a, vs, h1, h2, h3, h4, h5⟩ := h
    exact ⟨a, vs, h1, h2, h3, kf a (by simp [h2]) _ h4, h5.mono k⟩
  | m kvs =>
    obtain ⟨a, vs, h1, h2, h3, h4, h5, h6⟩ := h
    exact ⟨a, vs, h1, h2, h3, kf a (by simp [h2]) _ h4, h5, h6.mono k⟩
  | t c m =>
    obtain ⟨a, b, h1, h2, h3, h0, h4, h5⟩ := h
    exact ⟨a, b, h1, h2, h3, h0, kf a (by simp [h2]) _ h4, kf b (by simp [h2]) _ h5⟩
  | s ns =>
    obtain ⟨e, a, h1, h2⟩ := h
    exact ⟨e, a, h1, k.sqf h2⟩
theorem TOk.mono {p : V × R} (h : TOk C O H σ p) (k : Le (msk O H) (msk O' H')) : TOk C O' H' σ p := by
  obtain ⟨v, r⟩ := p
  cases r with
  | d x => exact Dn.mono k h
  | own i => exact h
  | w xs =>
    obtain ⟨a, vs, h1, h2, h3⟩ := h
    exact ⟨a, vs, h1, k.sqt h2, h3.mono k⟩

theorem not_code {c : Addr} {q : Str} : ¬ Mt (LamX.CodeO c q) := fun h => h c q rfl
theorem SDf.tabk (S : SDf C fp σ H ρ τ an) (kH : ∀ a o, H a = some o → (∀ i, a ∉ fp i) → (∀ w, (a, w) ∉ an) → H' a = some o) (kf : ∀ i a, a ∈ fp' i → (∃ j, a ∈ fp j) ∨ (∃ w, (a, w) ∈ an) ∨ H a = none)
    (ka : ∀ a w, (a, w) ∈ an' → (∃ j, a ∈ fp j) ∨ (∃ u, (a, u) ∈ an) ∨ H a = none) : TabF C fp' an' H' := fun p hp => by
  obtain ⟨h1, h2, ps, h3, h4, h5⟩ := S.tab p hp
  refine ⟨fun i z => ?_, fun w z => ?_, ps, kH _ _ h3 h1 h2, h4, fun pos cv hc => ?_⟩
  · rcases kf i _ z with ⟨j, z⟩ | ⟨w, z⟩ | z
    · exact h1 j z
    · exact h2 w z
    · rw [h3] at z
      cases z
  · rcases ka _ w z with ⟨j, z⟩ | ⟨u, z⟩ | z
    · exact h1 j z
    · exact h2 u z
    · rw [h3] at z
      cases z
  · obtain ⟨c, e1, e2⟩ := h5 pos cv hc
    refine ⟨c, e1, kH c _ e2 (fun i z => ?_) fun w z => ?_⟩
    · obtain ⟨_, o, q1, q2⟩ := S.own i c z
      rw [e2] at q1
      cases q1
      exact not_code q2
    · obtain ⟨_, q1, q2⟩ := S.ano c w z
      rw [e2] at q1
      cases q1
      exact not_code q2
/-- the heap grows -/
theorem SDf.grow (S : SDf C fp σ H ρ τ an) (k : Le H H') : SDf C fp σ H' ρ τ an := by
  have m : Le (msk (OO C.F fp an) H) (msk (OO C.F fp an) H') := le_msk (fun a h => .inl h) fun a o _ e => k a o e
  refine ⟨S.tabk (fun a o e _ _ => k a o e) (fun i a h => .inl ⟨i, h⟩) (fun a w h => .inr (.inl ⟨w, h⟩)), S.len, fun a o n e => k a o (S.ext a o n e), fun a h => ?_, S.inj, S.ani, S.and, fun i a h => ?_, fun a o h => ?_, fun a h => ?_, fun i b e => ?_, S.emp, fun p hp => (S.tmp p hp).mono m⟩
  · obtain ⟨h1, o, h2, h3⟩ := S.vol a h
    exact ⟨h1, o, k a o h2, h3⟩
  · obtain ⟨h1, o, h2, h3⟩ := S.own i a h
    exact ⟨h1, o, k a o h2, h3⟩
  · obtain ⟨h1, h2, h3⟩ := S.ano a o h
    exact ⟨h1, k a o h2, h3⟩
  · obtain ⟨h1, o, h2, h3⟩ := S.frn a h
    exact ⟨h1, o, k a o h2, h3⟩
  · obtain ⟨v, h1, h2⟩ := S.bnd i b e
    exact ⟨v, h1, h2.mono m fun a _ o e => k a o e⟩
theorem SD.grow (S : SD C σ H ρ τ an) (k : Le H H') : SD C σ H' ρ τ an := let ⟨fp, s⟩ := S; ⟨fp, s.grow k⟩
/-- fewer temporaries -/
theorem SDf.sub (S : SDf C fp σ H ρ τ an) (h : ∀ p ∈ τ', p ∈ τ) : SDf C fp σ H ρ τ' an :=
  ⟨S.tab, S.len, S.ext, S.vol, S.inj, S.ani, S.and, S.own, S.ano, S.frn, S.bnd, S.emp, fun p hp => S.tmp p (h p hp)⟩
theorem SD.sub (S : SD C σ H ρ τ an) (h : ∀ p ∈ τ', p ∈ τ) : SD C σ H ρ τ' an := let ⟨fp, s⟩ := S; ⟨fp, s.sub h⟩
theorem SD.pop {p : V × R} (S : SD C σ H ρ (p :: τ) an) : SD C σ H ρ τ an := S.sub fun _ h => List.mem_cons_of_mem _ h
theorem SD.pop2 {p q : V × R} (S : SD C σ H ρ (p :: q :: τ) an) : SD C σ H ρ τ an := S.pop.pop
/-- the same again -/
theorem SDf.tmps (S : SDf C fp σ H ρ τ an) (h : ∀ p ∈ τ', TOk C (OO C.F fp an) H σ p) : SDf C fp σ H ρ τ' an :=
  ⟨S.tab, S.len, S.ext, S.vol, S.inj, S.ani, S.and, S.own, S.ano, S.frn, S.bnd, S.emp, h⟩
/-- a temporary more, a scalar or a part of another -/
theorem SD.push (S : SD C σ H ρ τ an) {v : V} {x : D} (h : ∀ K H, Dn K H v x) : SD C σ H ρ ((v, .d x) :: τ) an := by
  obtain ⟨fp, s⟩ := S
  refine ⟨fp, s.tmps fun p hp => ?_⟩
  rcases List.mem_cons.mp hp with rfl | hp
  · exact h _ _
  · exact s.tmp p hp
theorem SD.part (S : SD C σ H ρ τ an) {v w : V} {x y : D} (hm : (w, .d y) ∈ τ) (h : ∀ H, Dn C.K H w y → Dn C.K H v x) : SD C σ H ρ ((v, .d x) :: τ) an := by
  obtain ⟨fp, s⟩ := S
  refine ⟨fp, s.tmps fun p hp => ?_⟩
  rcases List.mem_cons.mp hp with rfl | hp
  · exact h _ (s.tmp _ hm)
  · exact s.tmp p hp
/-- what a temporary is in the whole heap -/
theorem SD.at (S : SD C σ H ρ τ an) {v : V} {x : D} (h : (v, .d x) ∈ τ) : Dn C.K H v x := by
  obtain ⟨fp, s⟩ := S
  exact Dn.mono (msk_le _ _) (s.tmp _ h)
theorem SD.here (S : SD C σ H ρ ((v, .d x) :: τ) an) : Dn C.K H v x := S.at List.mem_cons_self
theorem SDf.nots (S : SDf C fp σ H ρ τ an) {a : Addr} {o : HO} (h : OO C.F fp an a) (e : H a = some o) : Mv o := by
  rcases h with h | ⟨i, h⟩ | h
  · obtain ⟨_, u, h2, h3⟩ := S.frn a h
    rw [e] at h2
    cases h2
    exact h3
  · obtain ⟨_, u, h2, h3⟩ := S.own i a h
    rw [e] at h2
    cases h2
    exact .inl h3
  · obtain ⟨w, h⟩ := h
    obtain ⟨_, h2, h3⟩ := S.ano a w h
    rw [e] at h2
    cases h2
    exact .inl h3
theorem SDf.hide (S : SDf C fp σ H ρ τ an) : ∀ a xs, Rd H a (.tup xs) → ¬ OO C.F fp an a := fun a xs h z => by
  rcases id h with q | ⟨o, q⟩
  · exact (S.nots z q).ntup
  · exact (S.nots z q).nfrz
/-- a new tuple of temporaries -/
theorem SD.ntup (S : SD C σ H ρ τ an) {vs : List V} {xs : List D} (h : vs.length = xs.length) (hm : ∀ (i : Nat) v x, vs[i]? = some v → xs[i]? = some x → (v, .d x) ∈ τ) {p : Addr} {o : Obj} (ho : o.dict = none) (hp : H p = none) :
    SD C σ (upd H p (.frz o (.tup vs))) ρ ((.ref p, .d (.tuple xs)) :: τ) an := by
  obtain ⟨fp, s⟩ := S.grow (Le.new (o := .frz o (.tup vs)) hp)
  refine ⟨fp, s.tmps fun q hq => ?_⟩
  rcases List.mem_cons.mp hq with rfl | hq
  · refine Dn.ntup (xs := vs) ⟨o, msk_of (fun z => ?_) upd_same, ho⟩ ⟨h, fun i v x a b => s.tmp _ (hm i v x a b)⟩
    exact (s.nots z upd_same).nfrz
  · exact s.tmp q hq
/-- a new cell of nobody's -/
theorem SD.fresh (S : SD C σ H ρ τ an) {p : Addr} {o : HO} (hp : H p = none) (ho : Mt o) : SD C σ (upd H p o) ρ τ ((p, o) :: an) := by
  obtain ⟨fp, s⟩ := S
  have k := Le.new (o := o) hp
  have m : Le (msk (OO C.F fp an) H) (msk (OO C.F fp ((p, o) :: an)) (upd H p o)) := le_msk (fun a h => by
    rcases h with h | h | ⟨w, h⟩
    · exact .inl (.inl h)
    · exact .inl (.inr (.inl h))
    · rcases List.mem_cons.mp h with e | h
      · cases e
        exact .inr hp
      · exact .inl (.inr (.inr ⟨w, h⟩))) fun a u _ e => k a u e
  have h0 : C.H0 p = none := by
    cases e : C.H0 p with
    | none => rfl
    | some u =>
      by_cases hv : C.Vo p
      · obtain ⟨_, w, h2, _⟩ := s.vol p hv
        rw [hp] at h2
        cases h2
      · have h2 := s.ext p u hv e
        rw [hp] at h2
        cases h2
  have s' := s.grow k
  refine ⟨fp, s.tabk (fun a u e _ _ => k a u e) (fun i a h => .inl ⟨i, h⟩) (fun a w h => (List.mem_cons.mp h).elim (fun e => by cases e; exact .inr (.inr hp)) fun h => .inr (.inl ⟨w, h⟩)), s'.len, s'.ext, s'.vol, s'.inj, fun i a h w z => ?_, ?_, s'.own, fun a w h => ?_, s'.frn, fun i b e => ?_, s'.emp, fun q hq => (s.tmp q hq).mono m⟩
  · rcases List.mem_cons.mp z with e | z
    · cases e
      obtain ⟨_, u, h2, _⟩ := s.own i p h
      rw [hp] at h2
      cases h2
    · exact s.ani i a h w z
  · refine List.nodup_cons.mpr ⟨fun z => ?_, s.and⟩
    obtain ⟨⟨a, w⟩, z1, z2⟩ := List.mem_map.mp z
    have e : a = p := z2
    subst e
    obtain ⟨_, h2, _⟩ := s.ano a w z1
    rw [hp] at h2
    cases h2
  · rcases List.mem_cons.mp h with e | h
    · cases e
      exact ⟨h0, upd_same, ho⟩
    · exact s'.ano a w h
  · obtain ⟨v, h1, h2⟩ := s.bnd i b e
    exact ⟨v, h1, h2.mono m fun a _ u e => k a u e⟩
theorem SDf.anap {o : HO} (s : SDf C fp σ H ρ τ ((p, o) :: an)) : ∀ w, (p, w) ∉ an := fun w h => by
  have nd := List.nodup_cons.mp s.and
  exact nd.1 (List.mem_map.mpr ⟨(p, w), h, rfl⟩)
/-- a cell of nobody's becomes data -/
theorem SD.lay {vs : List V} (S : SD C σ H ρ τ ((p, .lst vs) :: an)) {xs : List D} (h : vs.length = xs.length) (hm : ∀ (i : Nat) v x, vs[i]? = some v → xs[i]? = some x → (v, .d x) ∈ τ) :
    SD C σ H ρ ((.ref p, .d (.list xs)) :: τ) an := by
  obtain ⟨fp, s⟩ := S
  have m : Le (msk (OO C.F fp ((p, .lst vs) :: an)) H) (msk (OO C.F fp an) H) := le_msk (fun a h => by
    rcases h with h | h | ⟨w, h⟩
    · exact .inl (.inl h)
    · exact .inl (.inr (.inl h))
    · exact .inl (.inr (.inr ⟨w, List.mem_cons_of_mem _ h⟩))) fun a u _ e => e
  obtain ⟨a0, a1, a2⟩ := s.ano p _ List.mem_cons_self
  have np : ¬ OO C.F fp an p := by
    rintro (z | ⟨i, z⟩ | ⟨w, z⟩)
    · obtain ⟨⟨u, h1⟩, _⟩ := s.frn p z
      rw [a0] at h1
      cases h1
    · exact s.ani i p z _ List.mem_cons_self
    · exact s.anap w z
  refine ⟨fp, s.tabk (fun a u e _ _ => e) (fun i a h => .inl ⟨i, h⟩) (fun a w h => .inr (.inl ⟨w, List.mem_cons_of_mem _ h⟩)), s.len, s.ext, s.vol, s.inj, fun i a h w z => s.ani i a h w (List.mem_cons_of_mem _ z), (List.nodup_cons.mp s.and).2, s.own, fun a w h => s.ano a w (List.mem_cons_of_mem _ h), s.frn, fun i b e => ?_, s.emp, fun q hq => ?_⟩
  · obtain ⟨v, h1, h2⟩ := s.bnd i b e
    exact ⟨v, h1, h2.mono m fun a _ u e => e⟩
  · rcases List.mem_cons.mp hq with rfl | hq
    · exact Dn.nlst (msk_of np a1) ⟨h, fun i v x a b => Dn.mono m (s.tmp _ (hm i v x a b))⟩
    · exact (s.tmp q hq).mono m
/-- a cell of nobody's changes -/
theorem SD.anset {o o' : HO} (S : SD C σ H ρ τ ((p, o) :: an)) (ho : Mt o') : SD C σ (upd H p o') ρ τ ((p, o') :: an) := by
  obtain ⟨fp, s⟩ := S
  have k : ∀ a u, a ≠ p → H a = some u → upd H p o' a = some u := fun a u h e => by
    rw [upd_ne h]
    exact e
  have m : Le (msk (OO C.F fp ((p, o) :: an)) H) (msk (OO C.F fp ((p, o') :: an)) (upd H p o')) := le_msk (fun a h => by
    rcases h with h | h | ⟨w, h⟩
    · exact .inl (.inl h)
    · exact .inl (.inr (.inl h))
    · rcases List.mem_cons.mp h with e | h
      · cases e
        exact .inl (.inr (.inr ⟨o, List.mem_cons_self⟩))
      · exact .inl (.inr (.inr ⟨w, List.mem_cons_of_mem _ h⟩))) fun a u n e => k a u (fun z => n (.inr (.inr ⟨o, by rw [z]; exact List.mem_cons_self⟩))) e
  have q : ∀ a, (∃ u, H a = some u ∧ Mt u) → ∃ u, upd H p o' a = some u ∧ Mt u := fun a ⟨u, h1, h2⟩ => by
    by_cases h : a = p
    · subst h
      exact ⟨o', upd_same, ho⟩
    · exact ⟨u, k a u h h1, h2⟩
  have qv : ∀ a, (∃ u, H a = some u ∧ Mv u) → ∃ u, upd H p o' a = some u ∧ Mv u := fun a ⟨u, h1, h2⟩ => by
    by_cases h : a = p
    · subst h
      exact ⟨o', upd_same, .inl ho⟩
    · exact ⟨u, k a u h h1, h2⟩
  have h0 := (s.ano p o List.mem_cons_self).1
  refine ⟨fp, s.tabk (fun a u e _ n => k a u (fun z => n o (by rw [z]; exact List.mem_cons_self)) e) (fun i a h => .inl ⟨i, h⟩) (fun a w h => (List.mem_cons.mp h).elim (fun e => by cases e; exact .inr (.inl ⟨o, List.mem_cons_self⟩)) fun h => .inr (.inl ⟨w, List.mem_cons_of_mem _ h⟩)), s.len, fun a u n e => k a u (fun z => ?_) (s.ext a u n e), fun a h => ⟨(s.vol a h).1, qv a (s.vol a h).2⟩, s.inj, fun i a h w z => ?_, s.and, fun i a h => ⟨(s.own i a h).1, q a (s.own i a h).2⟩, fun a w h => ?_, fun a h => ⟨(s.frn a h).1, qv a (s.frn a h).2⟩, fun i b e => ?_, s.emp, fun r hr => (s.tmp r hr).mono m⟩
  · rw [z, h0] at e
    cases e
  · rcases List.mem_cons.mp z with e | z
    · cases e
      exact s.ani i p h o List.mem_cons_self
    · exact s.ani i a h w (List.mem_cons_of_mem _ z)
  · rcases List.mem_cons.mp h with e | h
    · cases e
      exact ⟨h0, upd_same, ho⟩
    · obtain ⟨h1, h2, h3⟩ := s.ano a w (List.mem_cons_of_mem _ h)
      exact ⟨h1, k a w (fun z => s.anap w (z ▸ h)) h2, h3⟩
  · obtain ⟨v, h1, h2⟩ := s.bnd i b e
    exact ⟨v, h1, h2.mono m fun a h u e => k a u (fun z => s.ani i a h o (by rw [z]; exact List.mem_cons_self)) e⟩
/-- only data among the temporaries -/
def AllD (τ : List (V × R)) : Prop := ∀ p ∈ τ, ∀ i, p.2 ≠ .own i
theorem TOk.slots {p : V × R} (h : TOk C O H σ p) (d : ∀ i, p.2 ≠ .own i) : TOk C O H σ' p := by
  obtain ⟨v, r⟩ := p
  cases r with
  | d x => exact h
  | own i => exact absurd rfl (d i)
  | w xs => exact h

/-- a slot is stored: data -/
theorem SD.store (S : SD C σ H ρ ((v, .d x) :: τ) an) (ad : AllD τ) {i : Nat} (hr : i < ρ.length) : SD C (σ.set i (some v)) H (ρ.set i (some (.d x))) τ an := by
  obtain ⟨fp, s⟩ := S
  have hi : i < σ.length := by rw [← s.len]; exact hr
  let fp' : Nat → List Addr := fun j => if j = i then [] else fp j
  have e1 : fp' i = [] := if_pos rfl
  have e2 : ∀ {j}, j ≠ i → fp' j = fp j := fun h => if_neg h
  have sub : ∀ j a, a ∈ fp' j → a ∈ fp j := fun j a h => by
    by_cases e : j = i
    · subst e
      rw [e1] at h
      cases h
    · rw [e2 e] at h
      exact h
  have m : Le (msk (OO C.F fp an) H) (msk (OO C.F fp' an) H) := le_msk (fun a h => by
    rcases h with h | ⟨j, h⟩ | ⟨w, h⟩
    · exact .inl (.inl h)
    · exact .inl (.inr (.inl ⟨j, sub j a h⟩))
    · exact .inl (.inr (.inr ⟨w, h⟩))) fun a u _ e => e
  refine ⟨fp', s.tabk (fun a u e _ _ => e) (fun i a h => .inl ⟨i, sub i a h⟩) (fun a w h => .inr (.inl ⟨w, h⟩)), by simp [s.len], s.ext, s.vol, fun j k a h1 h2 => s.inj j k a (sub j a h1) (sub k a h2), fun j a h => s.ani j a (sub j a h), s.and, fun j a h => s.own j a (sub j a h), s.ano, s.frn, fun j b e => ?_, fun j h => ?_, fun q hq => ?_⟩
  · by_cases hj : j = i
    · subst hj
      rw [List.getElem?_set_self hr] at e
      cases e
      refine ⟨v, List.getElem?_set_self hi, e1, ?_⟩
      exact Dn.mono m (s.tmp _ List.mem_cons_self)
    · rw [List.getElem?_set_ne (Ne.symm hj)] at e
      obtain ⟨w, h1, h2⟩ := s.bnd j b e
      refine ⟨w, by rw [List.getElem?_set_ne (Ne.symm hj)]; exact h1, ?_⟩
      rw [e2 hj]
      exact h2.mono m fun a _ u e => e
  · by_cases hj : j = i
    · subst hj
      exact e1
    · rw [e2 hj]
      exact s.emp j fun b e => h b (by rw [List.getElem?_set_ne (Ne.symm hj)]; exact e)
  · exact ((s.tmp q (List.mem_cons_of_mem _ hq)).mono m).slots (ad q hq)
/-- a slot is stored: a new list of one's own -/
theorem SD.storeL {vs : List V} (S : SD C σ H ρ τ ((p, .lst vs) :: an)) {xs : List D} (h : vs.length = xs.length) (hm : ∀ (i : Nat) v x, vs[i]? = some v → xs[i]? = some x → (v, .d x) ∈ τ) (ad : AllD τ)
    {i : Nat} (hr : i < ρ.length) : SD C (σ.set i (some (.ref p))) H (ρ.set i (some (.l xs))) τ an := by
  obtain ⟨fp, s⟩ := S
  have hi : i < σ.length := by rw [← s.len]; exact hr
  let fp' : Nat → List Addr := fun j => if j = i then [p] else fp j
  have e1 : fp' i = [p] := if_pos rfl
  have e2 : ∀ {j}, j ≠ i → fp' j = fp j := fun h => if_neg h
  have nd := List.nodup_cons.mp s.and
  have sub : ∀ j a, a ∈ fp' j → a ∈ fp j ∧ j ≠ i ∨ a = p ∧ j = i := fun j a h => by
    by_cases e : j = i
    · subst e
      rw [e1] at h
      exact .inr ⟨by simpa using h, rfl⟩
    · rw [e2 e] at h
      exact .inl ⟨h, e⟩
  have m : Le (msk (OO C.F fp ((p, .lst vs) :: an)) H) (msk (OO C.F fp' an) H) := le_msk (fun a h => by
    rcases h with h | ⟨j, h⟩ | ⟨w, h⟩
    · exact .inl (.inl h)
    · rcases sub j a h with ⟨h, _⟩ | ⟨rfl, _⟩
      · exact .inl (.inr (.inl ⟨j, h⟩))
      · exact .inl (.inr (.inr ⟨_, List.mem_cons_self⟩))
    · exact .inl (.inr (.inr ⟨w, List.mem_cons_of_mem _ h⟩))) fun a u _ e => e
  have pn : ∀ j, p ∉ fp j := fun j h => s.ani j p h _ List.mem_cons_self
  obtain ⟨a0, hp, a2⟩ := s.ano p _ List.mem_cons_self
  refine ⟨fp', s.tabk (fun a u e _ _ => e) (fun i a h => (sub i a h).elim (fun h => .inl ⟨i, h.1⟩) fun h => .inr (.inl ⟨.lst vs, by rw [h.1]; exact List.mem_cons_self⟩)) (fun a w h => .inr (.inl ⟨w, List.mem_cons_of_mem _ h⟩)), by simp [s.len], s.ext, s.vol, fun j k a h1 h2 => ?_, fun j a h => ?_, nd.2, fun j a h => ?_, fun a w h => s.ano a w (List.mem_cons_of_mem _ h), s.frn, fun j b e => ?_, fun j h => ?_, fun q hq => ?_⟩
  · rcases sub j a h1 with ⟨q1, n1⟩ | ⟨q1, n1⟩
    · rcases sub k a h2 with ⟨q2, n2⟩ | ⟨q2, n2⟩
      · exact s.inj j k a q1 q2
      · subst q2
        exact absurd q1 (pn j)
    · rcases sub k a h2 with ⟨q2, n2⟩ | ⟨q2, n2⟩
      · subst q1
        exact absurd q2 (pn k)
      · rw [n1, n2]
  · rcases sub j a h with ⟨q1, n1⟩ | ⟨q1, n1⟩
    · exact fun w z => s.ani j a q1 w (List.mem_cons_of_mem _ z)
    · subst q1
      exact fun w z => s.anap w z
  · rcases sub j a h with ⟨q1, n1⟩ | ⟨q1, n1⟩
    · exact s.own j a q1
    · subst q1
      exact ⟨.inr a0, _, hp, a2⟩
  · by_cases hj : j = i
    · subst hj
      rw [List.getElem?_set_self hr] at e
      cases e
      refine ⟨.ref p, List.getElem?_set_self hi, p, vs, rfl, e1, a0, hp, h, fun k w y a b => ?_⟩
      exact Dn.mono m (s.tmp _ (hm k w y a b))
    · rw [List.getElem?_set_ne (Ne.symm hj)] at e
      obtain ⟨w, h1, h2⟩ := s.bnd j b e
      refine ⟨w, by rw [List.getElem?_set_ne (Ne.symm hj)]; exact h1, ?_⟩
      rw [e2 hj]
      exact h2.mono m fun a _ u e => e
  · by_cases hj : j = i
    · subst hj
      exact absurd (List.getElem?_set_self hr) (h _)
    · rw [e2 hj]
      exact s.emp j fun b e => h b (by rw [List.getElem?_set_ne (Ne.symm hj)]; exact e)
  · exact ((s.tmp q hq).mono m).slots (ad q hq)
/-- slot i's own cells change -/
theorem SDf.chg (s : SDf C fp σ H ρ τ an) {i : Nat} {b' : B} {v : V} (hv : σ[i]? = some (some v)) (k : ∀ a o, a ∉ fp i → H a = some o → H' a = some o) (km : ∀ a, a ∈ fp i → ∃ o, H' a = some o ∧ Mt o) (hb : ∃ b, ρ[i]? = some (some b))
    (new : Le (msk (OO C.F fp an) H) (msk (OO C.F fp an) H') → BOk C (OO C.F fp an) H' (fp i) v b') : SDf C fp σ H' (ρ.set i (some b')) τ an := by
  have m : Le (msk (OO C.F fp an) H) (msk (OO C.F fp an) H') := le_msk (fun a h => .inl h) fun a u n e => k a u (fun z => n (.inr (.inl ⟨i, z⟩))) e
  have q : ∀ a, (∃ u, H a = some u ∧ Mt u) → ∃ u, H' a = some u ∧ Mt u := fun a ⟨u, h1, h2⟩ => by
    by_cases h : a ∈ fp i
    · exact km a h
    · exact ⟨u, k a u h h1, h2⟩
  have qv : ∀ a, (∃ u, H a = some u ∧ Mv u) → ∃ u, H' a = some u ∧ Mv u := fun a ⟨u, h1, h2⟩ => by
    by_cases h : a ∈ fp i
    · obtain ⟨o, z1, z2⟩ := km a h
      exact ⟨o, z1, .inl z2⟩
    · exact ⟨u, k a u h h1, h2⟩
  obtain ⟨b0, hb0⟩ := hb
  have hr : i < ρ.length := (List.getElem?_eq_some_iff.mp hb0).1
  refine ⟨s.tabk (fun a u e n _ => k a u (n i) e) (fun i a h => .inl ⟨i, h⟩) (fun a w h => .inr (.inl ⟨w, h⟩)), by simp [s.len], fun a u n e => k a u (fun z => ?_) (s.ext a u n e), fun a h => ⟨(s.vol a h).1, qv a (s.vol a h).2⟩, s.inj, s.ani, s.and, fun i a h => ⟨(s.own i a h).1, q a (s.own i a h).2⟩, fun a w h => ⟨(s.ano a w h).1, k a w (fun z => s.ani i a z w h) (s.ano a w h).2.1, (s.ano a w h).2.2⟩, fun a h => ⟨(s.frn a h).1, qv a (s.frn a h).2⟩, fun j b e => ?_, fun j h => ?_, fun r hr => (s.tmp r hr).mono m⟩
  · rcases (s.own i a z).1 with w | w
    · exact n w
    · rw [w] at e
      cases e
  · by_cases hj : j = i
    · subst hj
      rw [List.getElem?_set_self hr] at e
      cases e
      exact ⟨v, hv, new m⟩
    · rw [List.getElem?_set_ne (Ne.symm hj)] at e
      obtain ⟨w, h1, h2⟩ := s.bnd j b e
      exact ⟨w, h1, h2.mono m fun a h u e => k a u (fun z => hj (s.inj j i a h z)) e⟩
  · by_cases hj : j = i
    · subst hj
      exact absurd (List.getElem?_set_self hr) (h _)
    · exact s.emp j fun b e => h b (by rw [List.getElem?_set_ne (Ne.symm hj)]; exact e)
/-- an own list let go: data from now on -/
def rel (i : Nat) (ρ : Rho) : Rho := match ρ[i]? with
  | some (some (.l xs)) => ρ.set i (some (.d (.list xs)))
  | _ => ρ
theorem SD.rel (S : SD C σ H ρ τ an) (i : Nat) : SD C σ H (rel i ρ) τ an := by
  unfold DL.rel
  split
  · rename_i xs e0
    obtain ⟨fp, s⟩ := S
    have hr : i < ρ.length := (List.getElem?_eq_some_iff.mp e0).1
    obtain ⟨v, hv, a, vs, rfl, hf, h0, ha, hd⟩ := s.bnd i _ e0
    let fp' : Nat → List Addr := fun j => if j = i then [] else fp j
    have e1 : fp' i = [] := if_pos rfl
    have e2 : ∀ {j}, j ≠ i → fp' j = fp j := fun h => if_neg h
    have sub : ∀ j a, a ∈ fp' j → a ∈ fp j ∧ j ≠ i := fun j a h => by
      by_cases e : j = i
      · subst e
        rw [e1] at h
        cases h
      · rw [e2 e] at h
        exact ⟨h, e⟩
    have m : Le (msk (OO C.F fp an) H) (msk (OO C.F fp' an) H) := le_msk (fun a h => by
      rcases h with h | ⟨j, h⟩ | ⟨w, h⟩
      · exact .inl (.inl h)
      · exact .inl (.inr (.inl ⟨j, (sub j a h).1⟩))
      · exact .inl (.inr (.inr ⟨w, h⟩))) fun a u _ e => e
    have ai : a ∈ fp i := by
      rw [hf]
      exact List.mem_singleton.mpr rfl
    have na : ¬ OO C.F fp' an a := by
      rintro (z | ⟨j, z⟩ | ⟨w, z⟩)
      · obtain ⟨⟨u, h1⟩, _⟩ := s.frn a z
        rw [h0] at h1
        cases h1
      · obtain ⟨z1, z2⟩ := sub j a z
        exact z2 (s.inj j i a z1 ai)
      · exact s.ani i a ai w z
    refine ⟨fp', s.tabk (fun a u e _ _ => e) (fun i a h => .inl ⟨i, (sub i a h).1⟩) (fun a w h => .inr (.inl ⟨w, h⟩)), by simp [s.len], s.ext, s.vol, fun j k a h1 h2 => s.inj j k a (sub j a h1).1 (sub k a h2).1, fun j a h => s.ani j a (sub j a h).1, s.and, fun j a h => s.own j a (sub j a h).1, s.ano, s.frn, fun j b e => ?_, fun j h => ?_, fun q hq => (s.tmp q hq).mono m⟩
    · by_cases hj : j = i
      · subst hj
        rw [List.getElem?_set_self hr] at e
        cases e
        exact ⟨.ref a, hv, e1, Dn.nlst (msk_of na ha) (hd.mono m)⟩
      · rw [List.getElem?_set_ne (Ne.symm hj)] at e
        obtain ⟨w, h1, h2⟩ := s.bnd j b e
        refine ⟨w, h1, ?_⟩
        rw [e2 hj]
        exact h2.mono m fun a _ u e => e
    · by_cases hj : j = i
      · subst hj
        exact e1
      · rw [e2 hj]
        exact s.emp j fun b e => h b (by rw [List.getElem?_set_ne (Ne.symm hj)]; exact e)
  · exact S
end
end DL
namespace DL
open PySem L2

abbrev FE := Rho → Option (R × Rho)
abbrev FT := Rho → Option (Bool × Rho)
abbrev FA := Rho → Option (List R × Rho)
def tE (C : Fr) (f : FE) : TE := fun σ H Q => ∃ ρ τ an r ρ', SD C σ H ρ τ an ∧ f ρ = some (r, ρ') ∧ ∀ v H', SD C σ H' ρ' ((v, r) :: τ) an → Q v H'
def tT (C : Fr) (f : FT) : TT := fun σ H Q => ∃ ρ τ an b ρ', SD C σ H ρ τ an ∧ f ρ = some (b, ρ') ∧ ∀ H', SD C σ H' ρ' τ an → Q b H'
def tA (C : Fr) (f : FA) : TA := fun σ H Q => ∃ ρ τ an rs ρ', SD C σ H ρ τ an ∧ f ρ = some (rs, ρ') ∧ ∀ vs H', vs.length = rs.length → SD C σ H' ρ' (vs.zip rs ++ τ) an → Q vs H'

theorem _root_.L2.PE.dl {X : Cx} {e : Expr} {t t' : TE} (h : PE X e t) (k : ∀ σ H Q, t' σ H Q → t σ H Q) : PE X e t' := ⟨fun pins s σ H Q I q => h.run pins s σ H Q I (k σ H Q q)⟩
theorem _root_.L2.PT.dl {X : Cx} {e : Expr} {t t' : TT} (h : PT X e t) (k : ∀ σ H Q, t' σ H Q → t σ H Q) : PT X e t' := ⟨fun pins s σ H Q I q => h.run pins s σ H Q I (k σ H Q q)⟩
theorem _root_.L2.PW.dl {X : Cx} {e : Expr} {t t' : TT} (h : PW X e t) (k : ∀ σ H Q, t' σ H Q → t σ H Q) : PW X e t' := ⟨fun wh pins s σ H Q I q => h.run wh pins s σ H Q I (k σ H Q q)⟩
theorem _root_.L2.PA.dl {X : Cx} {es : List Expr} {t t' : TA} (h : PA X es t) (k : ∀ σ H Q, t' σ H Q → t σ H Q) : PA X es t' := ⟨fun pos pins s σ H Q I q => h.run pos pins s σ H Q I (k σ H Q q)⟩

/-- the data that a result stands for -/
def rdo (ρ : Rho) : R → Option D
  | .d x => some x
  | .w _ => none
  | .own i => match ρ[i]? with
    | some (some (.l xs)) => some (.list xs)
    | some (some (.r xs)) => some (.list xs)
    | _ => none
/-- items as temporaries -/
abbrev tz (vs : List V) (xs : List D) : List (V × R) := vs.zip (xs.map R.d)
theorem mem_tz {vs : List V} {xs : List D} {i : Nat} {v : V} {x : D} (a : vs[i]? = some v) (b : xs[i]? = some x) : (v, R.d x) ∈ tz vs xs := by
  refine List.mem_of_getElem? (i := i) ?_
  rw [List.getElem?_zip_eq_some]
  exact ⟨a, by rw [List.getElem?_map, b]; rfl⟩
theorem of_tz {vs : List V} {xs : List D} {p : V × R} (h : p ∈ tz vs xs) : ∃ (i : Nat) (v : V) (x : D), vs[i]? = some v ∧ xs[i]? = some x ∧ p = (v, R.d x) := by
  obtain ⟨i, hi⟩ := List.getElem?_of_mem h
  rw [List.getElem?_zip_eq_some, List.getElem?_map] at hi
  obtain ⟨h1, h2⟩ := hi
  cases e : xs[i]? with
  | none =>
    rw [e] at h2
    cases h2
  | some x =>
    rw [e] at h2
    obtain ⟨v, r⟩ := p
    have : R.d x = r := Option.some.inj h2
    subst this
    exact ⟨i, v, x, h1, e, rfl⟩

section
variable {C : Fr} {σ σ' : L2.St} {H H' : Hp} {ρ ρ' : Rho} {τ τ' : List (V × R)} {an an' : List (Addr × HO)} {v w : V} {r : R} {x y z : D}

theorem SD.withL (S : SD C σ H ρ τ an) {vs : List V} {xs : List D} (h : ∀ fp, SDf C fp σ H ρ τ an → DnL C.K (msk (OO C.F fp an) H) vs xs) : SD C σ H ρ (tz vs xs ++ τ) an := by
  obtain ⟨fp, s⟩ := S
  refine ⟨fp, s.tmps fun p hp => ?_⟩
  rcases List.mem_append.mp hp with hp | hp
  · obtain ⟨i, v, x, a, b, rfl⟩ := of_tz hp
    exact (h fp s).2 i v x a b
  · exact s.tmp p hp
theorem SD.res (S : SD C σ H ρ τ an) (hm : (v, r) ∈ τ) (h : rdo ρ r = some x) : Dn C.K H v x := by
  obtain ⟨fp, s⟩ := S
  have t := s.tmp _ hm
  cases r with
  | d y =>
    have e : y = x := Option.some.inj h
    subst e
    exact Dn.mono (msk_le _ _) t
  | w ys => cases h
  | own i =>
    have hv : σ[i]? = some (some v) := t
    unfold rdo at h
    simp only at h
    split at h
    · rename_i xs e
      cases h
      obtain ⟨v', h1, a, vs, h2, h3, h4, h5, h6⟩ := s.bnd i _ e
      rw [hv] at h1
      cases h1
      subst h2
      exact Dn.nlst h5 (h6.mono (msk_le _ _))
    · rename_i xs e
      cases h
      obtain ⟨v', h1, h2, a, vs, h3, h4, h5, h6⟩ := s.bnd i _ e
      rw [hv] at h1
      cases h1
      subst h3
      exact Dn.nlst (s.ext a _ h4 h5) (h6.mono (msk_le _ _))
    · cases h
theorem SD.items (S : SD C σ H ρ τ an) (hm : (v, r) ∈ τ) {xs : List D} (h : rdo ρ r = some (.list xs)) : ∃ a vs, v = .ref a ∧ H a = some (.lst vs) ∧ vs.length = xs.length ∧ SD C σ H ρ (tz vs xs ++ τ) an := by
  have S0 := S
  obtain ⟨fp, s⟩ := S
  have t := s.tmp _ hm
  cases r with
  | d y =>
    have e : y = .list xs := Option.some.inj h
    subst e
    obtain ⟨a, vs, rfl, h1, h2⟩ := Dn.lst_inv (show Dn C.K _ v (.list xs) from t)
    refine ⟨a, vs, rfl, (msk_some h1).2, h2.1, ⟨fp, s.tmps fun p hp => ?_⟩⟩
    rcases List.mem_append.mp hp with hp | hp
    · obtain ⟨i, w, y, a, b, rfl⟩ := of_tz hp
      exact h2.2 i w y a b
    · exact s.tmp p hp
  | w ys => cases h
  | own i =>
    have hv : σ[i]? = some (some v) := t
    unfold rdo at h
    simp only at h
    split at h
    · rename_i ys e
      cases h
      obtain ⟨v', h1, a, vs, h2, h3, h4, h5, h6⟩ := s.bnd i _ e
      rw [hv] at h1
      cases h1
      subst h2
      refine ⟨a, vs, rfl, h5, h6.1, ⟨fp, s.tmps fun p hp => ?_⟩⟩
      rcases List.mem_append.mp hp with hp | hp
      · obtain ⟨i, w, y, a, b, rfl⟩ := of_tz hp
        exact h6.2 i w y a b
      · exact s.tmp p hp
    · rename_i ys e
      cases h
      obtain ⟨v', h1, h2, a, vs, h3, h4, h5, h6⟩ := s.bnd i _ e
      rw [hv] at h1
      cases h1
      subst h3
      refine ⟨a, vs, rfl, s.ext a _ h4 h5, h6.1, ⟨fp, s.tmps fun p hp => ?_⟩⟩
      rcases List.mem_append.mp hp with hp | hp
      · obtain ⟨i, w, y, a, b, rfl⟩ := of_tz hp
        exact h6.2 i w y a b
      · exact s.tmp p hp
    · cases h
theorem rdo_tup {xs : List D} (h : rdo ρ r = some (.tuple xs)) : r = .d (.tuple xs) := by
  cases r with
  | d y => exact congrArg R.d (Option.some.inj h)
  | w ys => cases h
  | own i =>
    unfold rdo at h
    simp only at h
    split at h <;> cases h
theorem SD.itemsT (S : SD C σ H ρ τ an) (hm : (v, r) ∈ τ) {xs : List D} (h : rdo ρ r = some (.tuple xs)) : ∃ a vs, v = .ref a ∧ TpS H a vs ∧ vs.length = xs.length ∧ SD C σ H ρ (tz vs xs ++ τ) an := by
  rw [rdo_tup h] at hm
  obtain ⟨fp, s⟩ := S
  have t := s.tmp _ hm
  obtain ⟨a, vs, rfl, h1, h2⟩ := Dn.tup_inv (show Dn C.K _ v (.tuple xs) from t)
  refine ⟨a, vs, rfl, (msk_le _ _).tps h1, h2.1, ⟨fp, s.tmps fun p hp => ?_⟩⟩
  rcases List.mem_append.mp hp with hp | hp
  · obtain ⟨i, w, y, a, b, rfl⟩ := of_tz hp
    exact h2.2 i w y a b
  · exact s.tmp p hp
theorem SD.nlst (S : SD C σ H ρ τ an) {vs : List V} {xs : List D} (h : vs.length = xs.length) (hm : ∀ (i : Nat) v x, vs[i]? = some v → xs[i]? = some x → (v, .d x) ∈ τ) {p : Addr} (hp : H p = none) :
    SD C σ (upd H p (.lst vs)) ρ ((.ref p, .d (.list xs)) :: τ) an := (S.fresh (o := .lst vs) hp trivial).lay h hm
/-- keep the first, drop some behind it -/
theorem SD.keep1 (S : SD C σ H ρ ((v, r) :: (τ' ++ τ)) an) : SD C σ H ρ ((v, r) :: τ) an := S.sub fun p hp => by
  rcases List.mem_cons.mp hp with rfl | hp
  · exact List.mem_cons_self
  · exact List.mem_cons_of_mem _ (List.mem_append_right _ hp)
theorem SD.keepN (S : SD C σ H ρ ((v, r) :: τ') an) (h : ∀ p ∈ τ, p ∈ τ') : SD C σ H ρ ((v, r) :: τ) an := S.sub fun p hp => by
  rcases List.mem_cons.mp hp with rfl | hp
  · exact List.mem_cons_self
  · exact List.mem_cons_of_mem _ (h p hp)

/-! ### plain data -/
theorem plainAll_of : ∀ {xs : List D}, (∀ (i : Nat) d, xs[i]? = some d → d.plain = true) → PyData.plainAll xs = true
  | [], _ => rfl
  | x :: xs, h => by
    rw [PyData.plainAll, h 0 x rfl, plainAll_of fun i d e => h (i + 1) d (by simpa using e)]
    rfl
theorem Dn.plain {K : PySem.W.Frag} {H : Hp} {v : V} {d : D} (h : Dn K H v d) : d.plain = true := by
  induction h with
  | non => rfl
  | bl b => rfl
  | int i => rfl
  | str x => rfl
  | @lst a xs ds h1 h2 _ ih =>
    rw [PyData.plain]
    refine plainAll_of fun i d e => ?_
    have hi : i < xs.length := by
      rw [h2]
      exact (List.getElem?_eq_some_iff.mp e).1
    exact ih i xs[i] d (by simp [hi]) e
  | @tup a xs ds h1 h2 _ ih =>
    rw [PyData.plain]
    refine plainAll_of fun i d e => ?_
    have hi : i < xs.length := by
      rw [h2]
      exact (List.getElem?_eq_some_iff.mp e).1
    exact ih i xs[i] d (by simp [hi]) e
theorem Dn.reads {X : Cx} {pins : List (Addr × Obj)} {s : Shared} (I : Inv X pins σ H s) {v : V} {d : D} {u : Value} (h : Dn X.K H v d) (r : RelV v u) : ∃ as, Reads s.heap u d as := Dp.reads I d v u (dp_of h) r

/-! ### two-place operations -/
def op2 (g : D → D → Option D) (a b : R) (ρ : Rho) : Option R := (rdo ρ a).bind fun x => (rdo ρ b).bind fun y => (g x y).map R.d
theorem op2_inv {g : D → D → Option D} {a b z : R} (h : op2 g a b ρ = some z) : ∃ x y w, rdo ρ a = some x ∧ rdo ρ b = some y ∧ g x y = some w ∧ z = .d w := by
  unfold op2 at h
  cases e1 : rdo ρ a with
  | none => simp [e1] at h
  | some x =>
    cases e2 : rdo ρ b with
    | none => simp [e1, e2] at h
    | some y =>
      cases e3 : g x y with
      | none => simp [e1, e2, e3] at h
      | some w => exact ⟨x, y, w, rfl, rfl, e3, by simpa [e1, e2, e3] using h.symm⟩
def rG (C : Fr) (g : R → R → Rho → Option R) : R2 := fun x y H Q => ∃ σ ρ τ an a b z, SD C σ H ρ ((y, b) :: (x, a) :: τ) an ∧ g a b ρ = some z ∧ ∀ v H', SD C σ H' ρ ((v, z) :: τ) an → Q v H'
def e2 (g : R → R → Rho → Option R) (fa fb : FE) : FE := fun ρ => (fa ρ).bind fun p => (fb p.2).bind fun q => (g p.1 q.1 q.2).map fun z => (z, q.2)
theorem e2_inv {g : R → R → Rho → Option R} {fa fb : FE} {r : R} (h : e2 g fa fb ρ = some (r, ρ')) : ∃ a ρ1 b, fa ρ = some (a, ρ1) ∧ fb ρ1 = some (b, ρ') ∧ g a b ρ' = some r := by
  unfold e2 at h
  cases e1 : fa ρ with
  | none => simp [e1] at h
  | some p =>
    obtain ⟨a, ρ1⟩ := p
    cases e2 : fb ρ1 with
    | none => simp [e1, e2] at h
    | some q =>
      obtain ⟨b, ρ2⟩ := q
      cases e3 : g a b ρ2 with
      | none => simp [e1, e2, e3] at h
      | some z =>
        simp [e1, e2, e3] at h
        obtain ⟨rfl, rfl⟩ := h
        exact ⟨a, ρ1, b, rfl, e2, e3⟩
theorem imp_op {g : R → R → Rho → Option R} {fa fb : FE} {Q : VK} (h : tE C (e2 g fa fb) σ H Q) : tOp (rG C g) (tE C fa) (tE C fb) σ H Q := by
  obtain ⟨ρ, τ, an, r, ρ', S, e, q⟩ := h
  obtain ⟨a, ρ1, b, h1, h2, h3⟩ := e2_inv e
  refine ⟨ρ, τ, an, a, ρ1, S, h1, fun x H1 S1 => ?_⟩
  refine ⟨ρ1, _, an, b, ρ', S1, h2, fun y H2 S2 => ?_⟩
  exact ⟨σ, ρ', τ, an, a, b, r, S2, h3, q⟩
section
variable {X : Cx} {a b : Expr} {fa fb : FE} {pos : Pos} {g : R → R → Rho → Option R}
theorem de_op {op : Operator} (ho : OpR X (binaryOp op) (rG C g)) (ha : PE X a (tE C fa)) (hb : PE X b (tE C fb)) : PE X (.BinOp a op b pos) (tE C (e2 g fa fb)) := (pe_op ho ha hb).dl fun _ _ _ h => imp_op h
theorem de_cmp {op : CmpOp} (ho : OpR X (compareOp op) (rG C g)) (ha : PE X a (tE C fa)) (hb : PE X b (tE C fb)) (hm : behindInMarks op b = false) : PE X (.Compare a [op] [b] pos) (tE C (e2 g fa fb)) := (pe_cmpR ho ha hb hm).dl fun _ _ _ h => imp_op h
/-- a value that is a truth, as a test -/
def toT (f : FE) : FT := fun ρ => match f ρ with
  | some (.d (.bool b), ρ') => some (b, ρ')
  | _ => none
theorem toT_inv {f : FE} {b : Bool} (h : toT f ρ = some (b, ρ')) : f ρ = some (.d (.bool b), ρ') := by
  unfold toT at h
  split at h
  · rename_i c ρ1 e
    cases h
    exact e
  · cases h
theorem imp_test {f : FE} {Q : Bool → Hp → Prop} (h : tT C (toT f) σ H Q) : tE C f σ H fun x H' => ∃ k, x = .bl k ∧ Q k H' := by
  obtain ⟨ρ, τ, an, b, ρ', S, e, q⟩ := h
  refine ⟨ρ, τ, an, _, ρ', S, toT_inv e, fun v H' S' => ⟨b, S'.here.bool_inv, q H' S'.pop⟩⟩
theorem dt_cmp {op : CmpOp} (ho : OpR X (compareOp op) (rG C g)) (ha : PE X a (tE C fa)) (hb : PE X b (tE C fb)) (hm : behindInMarks op b = false) : PT X (.Compare a [op] [b] pos) (tT C (toT (e2 g fa fb))) :=
  (pt_cmpR ho ha hb hm).dl fun σ H Q h => by
    have z := imp_test h
    exact imp_op z
end

/-! ### names, constants -/
def eVar (i : Nat) : FE := fun ρ => match ρ[i]? with
  | some (some (.d x)) => some (.d x, ρ)
  | some (some _) => some (.own i, ρ)
  | _ => none
theorem imp_var {i : Nat} {Q : VK} (h : tE C (eVar i) σ H Q) : tVar i σ H Q := by
  obtain ⟨ρ, τ, an, r, ρ', S, e, q⟩ := h
  unfold eVar at e
  split at e
  · rename_i x e0
    cases e
    obtain ⟨fp, s⟩ := S
    obtain ⟨v, h1, h2, h3⟩ := s.bnd i _ e0
    refine ⟨v, h1, q v H ⟨fp, s.tmps fun p hp => ?_⟩⟩
    rcases List.mem_cons.mp hp with rfl | hp
    · exact h3
    · exact s.tmp p hp
  · rename_i b n e0
    cases e
    obtain ⟨fp, s⟩ := S
    obtain ⟨v, h1, h2⟩ := s.bnd i _ e0
    refine ⟨v, h1, q v H ⟨fp, s.tmps fun p hp => ?_⟩⟩
    rcases List.mem_cons.mp hp with rfl | hp
    · exact h1
    · exact s.tmp p hp
  · cases e
def eC (x : D) : FE := fun ρ => some (.d x, ρ)
theorem imp_c {v : V} {x : D} (k : ∀ K H, Dn K H v x) {Q : VK} (h : tE C (eC x) σ H Q) : tC v σ H Q := by
  obtain ⟨ρ, τ, an, r, ρ', S, e, q⟩ := h
  cases e
  exact q v H (S.push k)
section
variable {X : Cx} {pos : Pos}
theorem dv (i : Nat) {x : Str} (hN : X.N[i]? = some x := by rfl) (hv : Vis X.env.scope x := by first | exact Or.inl rfl | exact Or.inr (Or.inl rfl) | exact Or.inr (Or.inr rfl)) (hd : (x == ("__debug__" : Str)) = false := by decide)
    (hcd : (x == ("__classdict__" : Str)) = false := by decide) : PE X (.Name x pos) (tE C (eVar i)) := (pe_var hN hv hd hcd).dl fun _ _ _ h => imp_var h
theorem dc_int {i : Int} {j : Nat} : PE X (.Constant (.int i) j pos) (tE C (eC (.int i))) := pe_int.dl fun _ _ _ h => imp_c (fun _ _ => .int i) h
theorem dc_str {x : Str} {j : Nat} : PE X (.Constant (.str x) j pos) (tE C (eC (.str x))) := pe_str.dl fun _ _ _ h => imp_c (fun _ _ => .str x) h
theorem dc_bool {b : Bool} {j : Nat} : PE X (.Constant (.bool b) j pos) (tE C (eC (.bool b))) := pe_bl.dl fun _ _ _ h => imp_c (fun _ _ => .bl b) h
theorem dc_none {j : Nat} : PE X (.Constant .none j pos) (tE C (eC .none)) := pe_non.dl fun _ _ _ h => imp_c (fun _ _ => .non) h
/-- a module's constant -/
theorem dg_int {x : Str} {i : Int} {t : Tok} (hg : Gl X x) (hm : X.mg x = some (.int i t)) (hd : (x == ("__debug__" : Str)) = false := by decide) : PE X (.Name x pos) (tE C (eC (.int i))) := (pe_glob (v := .int i) hg hm ⟨t, rfl⟩ hd).dl fun _ _ _ h => imp_c (fun _ _ => .int i) h
theorem dg_str {x y : Str} {t : Tok} (hg : Gl X x) (hm : X.mg x = some (.str y t)) (hd : (x == ("__debug__" : Str)) = false := by decide) : PE X (.Name x pos) (tE C (eC (.str y))) := (pe_glob (v := .str y) hg hm ⟨t, rfl⟩ hd).dl fun _ _ _ h => imp_c (fun _ _ => .str y) h
end
end
end DL
namespace DL
open PySem L2
section
variable {X : Cx}
/-- a new tuple laid, its object known -/
theorem laidZ {pins : List (Addr × Obj)} {σ : L2.St} {H : Hp} {s : Shared} {us : List Value} {xs : List V} (I : L2.Inv X pins σ H s) (r : Vals xs us) (hz : xs.length ≤ sizeLine) {Q : VK}
    (q : ∀ p o, Obj.dict o = none → H p = none → Q (.ref p) (upd H p (.frz o (.tup xs)))) :
    EP X pins σ Q (.ref s.heap.objs.size) { s with heap := s.heap.push { cls := .type "tuple", data := .seq us.toArray } } := by
  refine ⟨.ref s.heap.objs.size, _, I.laid (t' := s.toks) (fun b o e => Heap.get?_push_of_some _ e) (Nat.le_refl _) ?_, rfl, q _ { cls := .type "tuple", data := .seq us.toArray } rfl (I.hok.fresh (Nat.le_refl _))⟩
  exact ⟨Heap.get?_push_size _ rfl, hz, us, r, PyProof.Rows.IsTup.new _ _⟩
def tTupZ (t : TA) : TE := fun σ H Q => t σ H fun xs H1 => xs.length ≤ sizeLine ∧ ∀ p o, Obj.dict o = none → H1 p = none → Q (.ref p) (upd H1 p (.frz o (.tup xs)))
theorem pe_tupZ {es : List Expr} {t : TA} {k : Nat} {pos : Pos} (h : PA X es t) : PE X (.Tuple es k pos) (tTupZ t) := by
  refine ⟨fun pins s σ H Q I hq => ?_⟩
  refine PySem.wpAny_Tuple_spliced (thn (h.run pos pins s σ H _ I hq) fun us s1 w => ?_)
  obtain ⟨xs, H1, I1, r, z, q⟩ := w
  refine ⟨?_, laidZ I1 r z q⟩
  rw [← r.length]
  exact z
/-- t + u -/
def rCatZ : R2 := fun x y H Q => ∃ a b xs ys, x = .ref a ∧ y = .ref b ∧ TpS H a xs ∧ TpS H b ys ∧ xs.length + ys.length ≤ sizeLine ∧
  (xs = [] → Q (.ref b) H) ∧ (xs ≠ [] → ys = [] → Q (.ref a) H) ∧ (xs ≠ [] → ys ≠ [] → ∀ p o, Obj.dict o = none → H p = none → Q (.ref p) (upd H p (.frz o (.tup (xs ++ ys)))))
theorem op_catZ : OpR X (binaryOp .Add) rCatZ := by
  intro pins s σ H x y v u Q I rx ry h
  obtain ⟨a, b, xs, ys, rfl, rfl, ha, hb, hz, q0, q1, q2⟩ := h
  cases rx
  cases ry
  obtain ⟨us, r1, p1, _⟩ := I.tuple (ha.sq (K := X.K))
  obtain ⟨ws, r2, p2, _⟩ := I.tuple (hb.sq (K := X.K))
  have l1 := r1.length
  have l2 := r2.length
  by_cases hx : xs = []
  · subst hx
    cases r1
    exact cat_tup0 p1 p2 ⟨.ref b, H, I, rfl, q0 rfl⟩
  · have hus : us ≠ [] := fun e => hx (List.length_eq_zero_iff.mp (by rw [l1, e]; rfl))
    refine HT.cat_tup p1 p2 hus (fun e => ?_) (fun e => ?_) (by omega)
    · have ey : ys = [] := List.length_eq_zero_iff.mp (by rw [l2, e]; rfl)
      exact ⟨.ref a, H, I, rfl, q1 hx ey⟩
    · have ey : ys ≠ [] := fun e' => e (List.length_eq_zero_iff.mp (by rw [← l2, e']; rfl))
      exact laidZ I (r1.append r2) (by rw [List.length_append]; omega) (q2 hx ey)
/-- t[lo:hi] -/
def rSlZ : V → Option Int → Option Int → Hp → VK → Prop := fun x lo hi H Q => ∃ a xs, x = .ref a ∧ TpS H a xs ∧
  (HT.sIx xs.length 0 lo = 0 ∧ HT.sIx xs.length xs.length hi = xs.length → Q (.ref a) H) ∧
  (¬ (HT.sIx xs.length 0 lo = 0 ∧ HT.sIx xs.length xs.length hi = xs.length) → ∀ p o, Obj.dict o = none → H p = none → Q (.ref p) (upd H p (.frz o (.tup (cutV xs lo hi)))))
theorem sl_tupZ : SlR X rSlZ := by
  intro pins s σ H x v vl vu lo hi sl Q I rx hs pl pu h
  obtain ⟨a, xs, rfl, hx, q1, q2⟩ := h
  cases rx
  obtain ⟨us, r, ht, hz⟩ := I.tuple (hx.sq (K := X.K))
  have hl : us.toArray.size = xs.length := by
    rw [List.size_toArray]
    exact r.length.symm
  refine ⟨"tuple", _, PyProof.Rows.slot_tuple_getitem.lookup, ht.typeIs, ?_⟩
  by_cases hw : HT.sIx xs.length 0 lo = 0 ∧ HT.sIx xs.length xs.length hi = xs.length
  · exact getItem_tuple_whole ht hs pl pu (by rw [hl]; exact hw) ⟨.ref a, H, I, rfl, q1 hw⟩
  · refine HT.getItem_tuple_cut ht hs pl pu (by rw [hl]; exact hw) ?_ (by rw [hl]; exact hz)
    rw [hl]
    have r' : Vals (cutV xs lo hi) ((us.drop (HT.sIx xs.length 0 lo)).take (HT.sIx xs.length xs.length hi - HT.sIx xs.length 0 lo)) := (r.drop _).take _
    exact laidZ I r' (Nat.le_trans (cutV_length xs lo hi) hz) (q2 hw)
/-- tuple(x) -/
theorem call_tupZ : CallR X (.type "tuple") (fun xs H Q => ∃ p ys, xs = [.ref p] ∧ ((SqL X.K H p ys ∧ ∀ l o, Obj.dict o = none → H l = none → Q (.ref l) (upd H l (.frz o (.tup ys)))) ∨ (SqT X.K H p ys ∧ Q (.ref p) H))) := by
  intro pins s σ H xs us Q I r h
  obtain ⟨p, ys, rfl, h⟩ := h
  obtain ⟨u, rfl, rx⟩ := vals1 r
  cases rx
  rcases h with ⟨hq, q⟩ | ⟨hq, q⟩
  · obtain ⟨ws, r', pl, hz⟩ := I.list hq
    have hl := r'.length
    refine call_tuple_list pl.isList (fun h' kp => ?_) (by rw [List.size_toArray]; omega)
    have I1 : L2.Inv X pins σ H { s with heap := h' } := I.kept (t' := s.toks) kp
    exact laidZ I1 r' hz q
  · obtain ⟨ws, r', pl, hz⟩ := I.tuple hq
    exact call_tuple_same pl ⟨.ref p, H, I, rfl, q⟩
end
end DL
namespace DL
open PySem L2

section
variable {C : Fr} {X : Cx} {σ : L2.St} {H : Hp} {ρ ρ' : Rho} {τ : List (V × R)} {an : List (Addr × HO)} {v : V} {r : R} {x y z : D}

/-! ### ==, !=, <, in -/
def eqD (x y : D) : Option D := if x.depth ≤ 60 then some (.bool (PyData.eqv x y)) else none
def neD (x y : D) : Option D := if x.depth ≤ 60 then some (.bool (!PyData.eqv x y)) else none
theorem op_eqG (hK : C.K = X.K) (hu : X.A.units + 64 < cLine) : OpR X (compareOp .Eq) (rG C (op2 eqD)) := by
  intro pins s σ H x y v u Q I rx ry h
  obtain ⟨σ', ρ, τ, an, a, b, z, S, g, q⟩ := h
  obtain ⟨dx, dy, dz, h1, h2, h3, rfl⟩ := op2_inv g
  have n1 := S.res (List.mem_cons_of_mem _ List.mem_cons_self) h1
  have n2 := S.res List.mem_cons_self h2
  rw [hK] at n1 n2
  unfold eqD at h3
  split at h3
  · rename_i hd
    cases h3
    obtain ⟨as, r1⟩ := n1.reads I rx
    obtain ⟨bs, r2⟩ := n2.reads I ry
    refine SeqAt.eq_plain r1 r2 n1.plain n2.plain (by omega) ⟨.bl _, H, I, rfl, q _ H (S.pop2.push fun _ _ => .bl _)⟩
  · cases h3
theorem op_neG (hK : C.K = X.K) (hu : X.A.units + 64 < cLine) : OpR X (compareOp .NotEq) (rG C (op2 neD)) := by
  intro pins s σ H x y v u Q I rx ry h
  obtain ⟨σ', ρ, τ, an, a, b, z, S, g, q⟩ := h
  obtain ⟨dx, dy, dz, h1, h2, h3, rfl⟩ := op2_inv g
  have n1 := S.res (List.mem_cons_of_mem _ List.mem_cons_self) h1
  have n2 := S.res List.mem_cons_self h2
  rw [hK] at n1 n2
  unfold neD at h3
  split at h3
  · rename_i hd
    cases h3
    obtain ⟨as, r1⟩ := n1.reads I rx
    obtain ⟨bs, r2⟩ := n2.reads I ry
    refine SeqAt.ne_plain r1 r2 n1.plain n2.plain (by omega) ⟨.bl _, H, I, rfl, q _ H (S.pop2.push fun _ _ => .bl _)⟩
  · cases h3
def ltD : D → D → Option D
  | .int i, .int j => some (.bool (decide (i < j)))
  | .str i, .str j => some (.bool (decide (i.cps.toList < j.cps.toList)))
  | .none, _ => none
  | x, y => if PySem.W.alike x y = true ∧ x.depth ≤ 60 then some (.bool (PySem.W.dataLt x y)) else none
theorem op_ltG (hK : C.K = X.K) (hu : X.A.units + 64 < cLine) : OpR X (compareOp .Lt) (rG C (op2 ltD)) := by
  intro pins s σ H x y v u Q I rx ry h
  obtain ⟨σ', ρ, τ, an, a, b, z, S, g, q⟩ := h
  obtain ⟨dx, dy, dz, h1, h2, h3, rfl⟩ := op2_inv g
  have n1 := S.res (List.mem_cons_of_mem _ List.mem_cons_self) h1
  have n2 := S.res List.mem_cons_self h2
  rw [hK] at n1 n2
  unfold ltD at h3
  split at h3
  · cases h3
    exact op_lt pins s σ H x y v u Q I rx ry ⟨_, _, n1.int_inv, n2.int_inv, q _ H (S.pop2.push fun _ _ => .bl _)⟩
  · cases h3
    exact op_lt_str pins s σ H x y v u Q I rx ry ⟨_, _, n1.str_inv, n2.str_inv, q _ H (S.pop2.push fun _ _ => .bl _)⟩
  · cases h3
  · rename_i w0 w1 w2
    split at h3
    · rename_i hd
      cases h3
      obtain ⟨k1, k3⟩ := hd
      obtain ⟨as, r1⟩ := n1.reads I rx
      obtain ⟨bs, r2⟩ := n2.reads I ry
      exact PySem.W.lt_data r1 r2 k1 (fun e => by first | exact w0 e | exact w1 e | exact w2 e) (by omega) ⟨.bl _, H, I, rfl, q _ H (S.pop2.push fun _ _ => .bl _)⟩
    · cases h3
def icmp (p : Int → Int → Bool) : D → D → Option D
  | .int i, .int j => some (.bool (p i j))
  | _, _ => none
theorem icmp_inv {p : Int → Int → Bool} (h : icmp p x y = some z) : ∃ i j, x = .int i ∧ y = .int j ∧ z = .bool (p i j) := by
  unfold icmp at h
  split at h
  · cases h
    exact ⟨_, _, rfl, rfl, rfl⟩
  · cases h
theorem op_icmp {op : CmpOp} {p : Int → Int → Bool} (hr : OpR X (compareOp op) (rI0 fun i j => .bl (p i j))) (hK : C.K = X.K) : OpR X (compareOp op) (rG C (op2 (icmp p))) := by
  intro pins s σ H x y v u Q I rx ry h
  obtain ⟨σ', ρ, τ, an, a, b, z, S, g, q⟩ := h
  obtain ⟨dx, dy, dz, h1, h2, h3, rfl⟩ := op2_inv g
  have n1 := S.res (List.mem_cons_of_mem _ List.mem_cons_self) h1
  have n2 := S.res List.mem_cons_self h2
  obtain ⟨i, j, rfl, rfl, rfl⟩ := icmp_inv h3
  exact hr pins s σ H x y v u Q I rx ry ⟨i, j, n1.int_inv, n2.int_inv, q _ H (S.pop2.push fun _ _ => .bl _)⟩
abbrev leD := icmp fun i j => decide (i ≤ j)
abbrev gtD := icmp fun i j => decide (j < i)
abbrev geD := icmp fun i j => decide (j ≤ i)
theorem op_leG (hK : C.K = X.K) : OpR X (compareOp .LtE) (rG C (op2 leD)) := op_icmp op_le hK
theorem op_gtG (hK : C.K = X.K) : OpR X (compareOp .Gt) (rG C (op2 gtD)) := op_icmp op_gt hK
theorem op_geG (hK : C.K = X.K) : OpR X (compareOp .GtE) (rG C (op2 geD)) := op_icmp op_ge hK
/-- a sign within a text -/
def signIn (s z : Str) : Option Bool := match s.cps.toList with
  | [c] => some (decide (c ∈ z.cps.toList))
  | _ => none
def inB (x : D) : D → Option Bool
  | .list xs => if PyData.depthAll xs ≤ 60 then some (xs.any fun y => PyData.eqv y x) else none
  | .tuple xs => if PyData.depthAll xs ≤ 60 then some (xs.any fun y => PyData.eqv y x) else none
  | .str z => match x with
    | .str s => signIn s z
    | _ => none
  | _ => none
def inD (x y : D) : Option D := (inB x y).map PyData.bool
def ninD (x y : D) : Option D := (inB x y).map fun b => PyData.bool (!b)
theorem sign_of {s z : Str} {k : Bool} (h : signIn s z = some k) : ∃ c, s = ⟨#[c]⟩ ∧ k = decide (c ∈ z.cps.toList) := by
  unfold signIn at h
  split at h
  · rename_i c e
    cases h
    refine ⟨c, ?_, rfl⟩
    obtain ⟨⟨l⟩⟩ := s
    simp at e
    subst e
    rfl
  · cases h
theorem op_inG (hK : C.K = X.K) (hu : X.A.units + 64 < cLine) : OpR X (compareOp .In) (rG C (op2 inD)) := by
  intro pins s σ H x y v u Q I rx ry h
  obtain ⟨σ', ρ, τ, an, a, b, z, S, g, q⟩ := h
  obtain ⟨dx, dy, dz, h1, h2, h3, rfl⟩ := op2_inv g
  have n1 := S.res (List.mem_cons_of_mem _ List.mem_cons_self) h1
  have n2 := S.res List.mem_cons_self h2
  rw [hK] at n1 n2
  unfold inD inB at h3
  split at h3
  · rename_i xs
    split at h3
    · rename_i hd
      cases h3
      obtain ⟨as, r1⟩ := n1.reads I rx
      obtain ⟨bs, r2⟩ := n2.reads I ry
      exact SeqAt.in_list_data r2 r1 (by have := n2.plain; rw [PyData.plain] at this; exact this) n1.plain (by omega) ⟨.bl _, H, I, rfl, q _ H (S.pop2.push fun _ _ => .bl _)⟩
    · cases h3
  · rename_i xs
    split at h3
    · rename_i hd
      cases h3
      obtain ⟨as, r1⟩ := n1.reads I rx
      obtain ⟨bs, r2⟩ := n2.reads I ry
      exact SeqAt.in_tuple_data r2 r1 (by have := n2.plain; rw [PyData.plain] at this; exact this) n1.plain (by omega) ⟨.bl _, H, I, rfl, q _ H (S.pop2.push fun _ _ => .bl _)⟩
    · cases h3
  · split at h3
    · rename_i zz _ ss
      cases e : signIn ss zz with
      | none =>
        rw [e] at h3
        cases h3
      | some k =>
        rw [e] at h3
        cases h3
        obtain ⟨c, rfl, rfl⟩ := sign_of e
        exact op_in_sign pins s σ H x y v u Q I rx ry ⟨c, zz, n1.str_inv, n2.str_inv, q _ H (S.pop2.push fun _ _ => .bl _)⟩
    · cases h3
  · cases h3
theorem op_ninG (hK : C.K = X.K) (hu : X.A.units + 64 < cLine) : OpR X (compareOp .NotIn) (rG C (op2 ninD)) := by
  intro pins s σ H x y v u Q I rx ry h
  obtain ⟨σ', ρ, τ, an, a, b, z, S, g, q⟩ := h
  obtain ⟨dx, dy, dz, h1, h2, h3, rfl⟩ := op2_inv g
  have n1 := S.res (List.mem_cons_of_mem _ List.mem_cons_self) h1
  have n2 := S.res List.mem_cons_self h2
  rw [hK] at n1 n2
  unfold ninD inB at h3
  split at h3
  · rename_i xs
    split at h3
    · rename_i hd
      cases h3
      obtain ⟨as, r1⟩ := n1.reads I rx
      obtain ⟨bs, r2⟩ := n2.reads I ry
      exact SeqAt.notIn_list_data r2 r1 (by have := n2.plain; rw [PyData.plain] at this; exact this) n1.plain (by omega) ⟨.bl _, H, I, rfl, q _ H (S.pop2.push fun _ _ => .bl _)⟩
    · cases h3
  · rename_i xs
    split at h3
    · rename_i hd
      cases h3
      obtain ⟨as, r1⟩ := n1.reads I rx
      obtain ⟨bs, r2⟩ := n2.reads I ry
      exact SeqAt.notIn_tuple_data r2 r1 (by have := n2.plain; rw [PyData.plain] at this; exact this) n1.plain (by omega) ⟨.bl _, H, I, rfl, q _ H (S.pop2.push fun _ _ => .bl _)⟩
    · cases h3
  · split at h3
    · rename_i zz _ ss
      cases e : signIn ss zz with
      | none =>
        rw [e] at h3
        cases h3
      | some k =>
        rw [e] at h3
        cases h3
        obtain ⟨c, rfl, rfl⟩ := sign_of e
        exact op_notIn_sign pins s σ H x y v u Q I rx ry ⟨c, zz, n1.str_inv, n2.str_inv, q _ H (S.pop2.push fun _ _ => .bl _)⟩
    · cases h3
  · cases h3

/-! ### +, -, % -/
def addD : D → D → Option D
  | .int i, .int j => some (.int (i + j))
  | .str i, .str j => if i.length + j.length ≤ sizeLine then some (.str (i ++ j)) else none
  | .tuple xs, .tuple ys => if xs.length + ys.length ≤ sizeLine then some (.tuple (xs ++ ys)) else none
  | .list xs, .list ys => if xs.length + ys.length ≤ sizeLine then some (.list (xs ++ ys)) else none
  | _, _ => none
theorem app_at {vs ws : List V} {xs ys : List D} (hl : vs.length = xs.length) {i : Nat} {v : V} {x : D} (a : (vs ++ ws)[i]? = some v) (b : (xs ++ ys)[i]? = some x) : (v, R.d x) ∈ tz vs xs ∨ (v, R.d x) ∈ tz ws ys := by
  by_cases h : i < vs.length
  · rw [List.getElem?_append_left h] at a
    rw [List.getElem?_append_left (by omega)] at b
    exact .inl (mem_tz a b)
  · rw [List.getElem?_append_right (by omega)] at a
    rw [List.getElem?_append_right (by omega), ← hl] at b
    exact .inr (mem_tz a b)
theorem op_addG (hK : C.K = X.K) : OpR X (binaryOp .Add) (rG C (op2 addD)) := by
  intro pins s σ H x y v u Q I rx ry h
  obtain ⟨σ', ρ, τ, an, a, b, z, S, g, q⟩ := h
  obtain ⟨dx, dy, dz, h1, h2, h3, rfl⟩ := op2_inv g
  have n1 := S.res (List.mem_cons_of_mem _ List.mem_cons_self) h1
  have n2 := S.res List.mem_cons_self h2
  unfold addD at h3
  split at h3
  · cases h3
    exact op_add pins s σ H x y v u Q I rx ry ⟨_, _, n1.int_inv, n2.int_inv, q _ H (S.pop2.push fun _ _ => .int _)⟩
  · split at h3
    · rename_i hz
      cases h3
      exact op_add_str pins s σ H x y v u Q I rx ry ⟨_, _, n1.str_inv, n2.str_inv, hz, q _ H (S.pop2.push fun _ _ => .str _)⟩
    · cases h3
  · rename_i xs ys
    split at h3
    · rename_i hz
      cases h3
      obtain ⟨a1, vs, rfl, t1, l1, S1⟩ := S.itemsT (List.mem_cons_of_mem _ List.mem_cons_self) h1
      obtain ⟨b1, ws, rfl, t2, l2, S2⟩ := S1.itemsT (List.mem_append_right _ List.mem_cons_self) h2
      refine op_catZ pins s σ H _ _ v u Q I rx ry ⟨a1, b1, vs, ws, rfl, rfl, t1, t2, by omega, fun e => ?_, fun e1 e2 => ?_, fun _ _ p o ho hp => ?_⟩
      · subst e
        have e' : xs = [] := List.length_eq_zero_iff.mp l1.symm
        subst e'
        rw [rdo_tup h2] at S
        exact q _ H (S.keepN fun p hp => List.mem_cons_of_mem _ hp)
      · subst e2
        have e' : ys = [] := List.length_eq_zero_iff.mp l2.symm
        subst e'
        rw [rdo_tup h1] at S
        rw [List.append_nil] at q
        exact q _ H (S.pop.keepN fun p hp => hp)
      · refine q _ _ ((S2.ntup (vs := vs ++ ws) (xs := xs ++ ys) (by simp [l1, l2]) (fun i w d a b => ?_) ho hp).keepN fun p hp => ?_)
        · rcases app_at l1 a b with h | h
          · exact List.mem_append_right _ (List.mem_append_left _ h)
          · exact List.mem_append_left _ h
        · exact List.mem_append_right _ (List.mem_append_right _ (List.mem_cons_of_mem _ (List.mem_cons_of_mem _ hp)))
    · cases h3
  · rename_i xs ys
    split at h3
    · rename_i hz
      cases h3
      obtain ⟨a1, vs, rfl, t1, l1, S1⟩ := S.items (List.mem_cons_of_mem _ List.mem_cons_self) h1
      obtain ⟨b1, ws, rfl, t2, l2, S2⟩ := S1.items (List.mem_append_right _ List.mem_cons_self) h2
      refine op_cat pins s σ H _ _ v u Q I rx ry ⟨a1, b1, vs, ws, rfl, rfl, t1, t2, by omega, fun p hp => ?_⟩
      refine q _ _ ((S2.nlst (vs := vs ++ ws) (xs := xs ++ ys) (by simp [l1, l2]) (fun i w d a b => ?_) hp).keepN fun p hp => ?_)
      · rcases app_at l1 a b with h | h
        · exact List.mem_append_right _ (List.mem_append_left _ h)
        · exact List.mem_append_left _ h
      · exact List.mem_append_right _ (List.mem_append_right _ (List.mem_cons_of_mem _ (List.mem_cons_of_mem _ hp)))
    · cases h3
  · cases h3
def subD : D → D → Option D
  | .int i, .int j => some (.int (i - j))
  | _, _ => none
theorem op_subG (hK : C.K = X.K) : OpR X (binaryOp .Sub) (rG C (op2 subD)) := by
  intro pins s σ H x y v u Q I rx ry h
  obtain ⟨σ', ρ, τ, an, a, b, z, S, g, q⟩ := h
  obtain ⟨dx, dy, dz, h1, h2, h3, rfl⟩ := op2_inv g
  have n1 := S.res (List.mem_cons_of_mem _ List.mem_cons_self) h1
  have n2 := S.res List.mem_cons_self h2
  unfold subD at h3
  split at h3
  · cases h3
    exact op_sub pins s σ H x y v u Q I rx ry ⟨_, _, n1.int_inv, n2.int_inv, q _ H (S.pop2.push fun _ _ => .int _)⟩
  · cases h3

/-! ### items -/
def idxD : D → D → Option D
  | .tuple xs, .int i => atI xs i
  | .list xs, .int i => atI xs i
  | _, _ => none
theorem atI_both {vs : List V} {xs : List D} (hl : vs.length = xs.length) {i : Int} {x : D} (h : atI xs i = some x) : ∃ (j : Nat) (v : V), atI vs i = some v ∧ vs[j]? = some v ∧ xs[j]? = some x := by
  unfold atI at h ⊢
  rw [hl]
  cases e : ixN xs.length i with
  | none =>
    rw [e] at h
    cases h
  | some j =>
    rw [e] at h
    have hx : xs[j]? = some x := h
    have hj : j < vs.length := by
      rw [hl]
      exact (List.getElem?_eq_some_iff.mp hx).1
    exact ⟨j, vs[j], by simp [hj], by simp [hj], hx⟩
theorem ix_G (hK : C.K = X.K) : IxR X (rG C (op2 idxD)) := by
  intro va sl pins s σ H x y v u Q I rx ry h hs
  obtain ⟨σ', ρ, τ, an, a, c, z, S, g, q⟩ := h
  obtain ⟨dx, dy, dz, h1, h2, h3, rfl⟩ := op2_inv g
  have n2 := S.res List.mem_cons_self h2
  unfold idxD at h3
  split at h3
  · rename_i xs i
    obtain ⟨a1, vs, rfl, t1, l1, S1⟩ := S.itemsT (List.mem_cons_of_mem _ List.mem_cons_self) h1
    obtain ⟨j, w, e1, e2, e3⟩ := atI_both l1 h3
    have e := n2.int_inv
    subst e
    refine ix_tup va sl pins s σ H _ _ v u Q I rx ry ⟨a1, vs, i, w, rfl, rfl, t1.sq, e1, q _ H ?_⟩ hs
    exact (S1.part (v := w) (x := dz) (List.mem_append_left _ (mem_tz e2 e3)) fun _ h => h).keepN fun p hp => List.mem_append_right _ (List.mem_cons_of_mem _ (List.mem_cons_of_mem _ hp))
  · rename_i xs i
    obtain ⟨a1, vs, rfl, t1, l1, S1⟩ := S.items (List.mem_cons_of_mem _ List.mem_cons_self) h1
    obtain ⟨j, w, e1, e2, e3⟩ := atI_both l1 h3
    have e := n2.int_inv
    subst e
    refine ix_list va sl pins s σ H _ _ v u Q I rx ry ⟨a1, vs, i, w, rfl, rfl, Or.inl (Or.inl t1), e1, q _ H ?_⟩ hs
    exact (S1.part (v := w) (x := dz) (List.mem_append_left _ (mem_tz e2 e3)) fun _ h => h).keepN fun p hp => List.mem_append_right _ (List.mem_cons_of_mem _ (List.mem_cons_of_mem _ hp))
  · cases h3
theorem de_ix {a b : Expr} {fa fb : FE} {pos : Pos} (hK : C.K = X.K) (ha : PE X a (tE C fa)) (hb : PE X b (tE C fb)) (hs : PlainIx b) : PE X (.Subscript a b pos) (tE C (e2 (op2 idxD) fa fb)) := (pe_ix (ix_G hK) ha hb hs).dl fun _ _ _ h => imp_op h
end
end DL
namespace DL
open PySem L2

section
variable {C : Fr} {X : Cx} {σ : L2.St} {H : Hp} {ρ ρ' : Rho} {τ : List (V × R)} {an : List (Addr × HO)} {v : V} {r : R} {x y z : D}

/-! ### arguments -/
def aNil : FA := fun ρ => some ([], ρ)
def aCons (f : FE) (g : FA) : FA := fun ρ => (f ρ).bind fun p => (g p.2).map fun q => (p.1 :: q.1, q.2)
theorem aCons_inv {f : FE} {g : FA} {rs : List R} (h : aCons f g ρ = some (rs, ρ')) : ∃ a ρ1 bs, f ρ = some (a, ρ1) ∧ g ρ1 = some (bs, ρ') ∧ rs = a :: bs := by
  unfold aCons at h
  cases e1 : f ρ with
  | none => simp [e1] at h
  | some p =>
    obtain ⟨a, ρ1⟩ := p
    cases e2 : g ρ1 with
    | none => simp [e1, e2] at h
    | some q =>
      obtain ⟨bs, ρ2⟩ := q
      simp [e1, e2] at h
      obtain ⟨rfl, rfl⟩ := h
      exact ⟨a, ρ1, bs, rfl, e2, rfl⟩
theorem imp_nil {Q : List V → Hp → Prop} (h : tA C aNil σ H Q) : tNil σ H Q := by
  obtain ⟨ρ, τ, an, rs, ρ', S, e, q⟩ := h
  cases e
  exact q [] H rfl S
theorem imp_cons {f : FE} {g : FA} {Q : List V → Hp → Prop} (h : tA C (aCons f g) σ H Q) : tCons (tE C f) (tA C g) σ H Q := by
  obtain ⟨ρ, τ, an, rs, ρ', S, e, q⟩ := h
  obtain ⟨a, ρ1, bs, h1, h2, rfl⟩ := aCons_inv e
  refine ⟨ρ, τ, an, a, ρ1, S, h1, fun x H1 S1 => ?_⟩
  refine ⟨ρ1, _, an, bs, ρ', S1, h2, fun vs H2 hl S2 => q (x :: vs) H2 (by simp [hl]) (S2.sub fun p hp => ?_)⟩
  rcases List.mem_append.mp hp with hp | hp
  · rcases List.mem_cons.mp hp with rfl | hp
    · exact List.mem_append_right _ List.mem_cons_self
    · exact List.mem_append_left _ hp
  · exact List.mem_append_right _ (List.mem_cons_of_mem _ hp)
theorem da_nil : PA X [] (tA C aNil) := pa_nil.dl fun _ _ _ h => imp_nil h
theorem da_cons {e : Expr} {es : List Expr} {f : FE} {g : FA} (ha : PE X e (tE C f)) (hr : PA X es (tA C g)) (hs : starEach (e :: es) X.env = (false, eval e X.env) :: starEach es X.env := by rfl) : PA X (e :: es) (tA C (aCons f g)) :=
  (pa_cons ha hr hs).dl fun _ _ _ h => imp_cons h

/-! ### displays -/
def rdos (ρ : Rho) : List R → Option (List D)
  | [] => some []
  | r :: rs => (rdo ρ r).bind fun x => (rdos ρ rs).map fun xs => x :: xs
/-- data alone -/
def pls : List R → Option (List D)
  | [] => some []
  | .d x :: rs => (pls rs).map fun xs => x :: xs
  | .own _ :: _ => none
  | .w _ :: _ => none
theorem pls_inv : ∀ {rs : List R} {xs : List D}, pls rs = some xs → rs = xs.map R.d
  | [], xs, h => by
    cases h
    rfl
  | .d x :: rs, xs, h => by
    unfold pls at h
    cases e : pls rs with
    | none => simp [e] at h
    | some ys =>
      simp [e] at h
      subst h
      rw [pls_inv e]
      rfl
  | .own _ :: _, _, h => by
    unfold pls at h
    cases h
  | .w _ :: _, _, h => by
    unfold pls at h
    cases h
def eTup (f : FA) : FE := fun ρ => (f ρ).bind fun p => (pls p.1).bind fun xs => if xs.length ≤ sizeLine then some (.d (.tuple xs), p.2) else none
theorem imp_tup {f : FA} {Q : VK} (h : tE C (eTup f) σ H Q) : tTupZ (tA C f) σ H Q := by
  obtain ⟨ρ, τ, an, r, ρ', S, e, q⟩ := h
  unfold eTup at e
  cases e1 : f ρ with
  | none => simp [e1] at e
  | some p =>
    obtain ⟨rs, ρ1⟩ := p
    cases e2 : pls rs with
    | none => simp [e1, e2] at e
    | some xs =>
      simp [e1, e2] at e
      obtain ⟨hz, rfl, rfl⟩ := e
      have er := pls_inv e2
      subst er
      refine ⟨ρ, τ, an, _, _, S, e1, fun vs H1 hl S1 => ?_⟩
      rw [List.length_map] at hl
      refine ⟨by omega, fun p o ho hp => q _ _ ((S1.ntup hl (fun i v x a b => List.mem_append_left _ (mem_tz a b)) ho hp).keepN fun q hq => List.mem_append_right _ hq)⟩
theorem de_tup {es : List Expr} {k : Nat} {f : FA} {pos : Pos} (h : PA X es (tA C f)) : PE X (.Tuple es k pos) (tE C (eTup f)) := (pe_tupZ h).dl fun _ _ _ h => imp_tup h

/-! ### new lists -/
abbrev FF := Rho → Option (List D × Rho)
/-- a new list, nobody else's -/
def tF (C : Fr) (f : FF) : TE := fun σ H Q => ∃ ρ τ an xs ρ', SD C σ H ρ τ an ∧ f ρ = some (xs, ρ') ∧ ∀ p vs H', vs.length = xs.length → SD C σ H' ρ' (tz vs xs ++ τ) ((p, .lst vs) :: an) → Q (.ref p) H'
def ofF (f : FF) : FE := fun ρ => (f ρ).map fun p => (.d (.list p.1), p.2)
theorem imp_ofF {f : FF} {Q : VK} (h : tE C (ofF f) σ H Q) : tF C f σ H Q := by
  obtain ⟨ρ, τ, an, r, ρ', S, e, q⟩ := h
  unfold ofF at e
  cases e1 : f ρ with
  | none => simp [e1] at e
  | some p =>
    obtain ⟨xs, ρ1⟩ := p
    simp [e1] at e
    obtain ⟨rfl, rfl⟩ := e
    refine ⟨ρ, τ, an, xs, _, S, e1, fun p vs H' hl S' => q _ _ ((S'.lay hl fun i v x a b => List.mem_append_left _ (mem_tz a b)).keepN fun q hq => List.mem_append_right _ hq)⟩
theorem de_F {e : Expr} {f : FF} (h : PE X e (tF C f)) : PE X e (tE C (ofF f)) := h.dl fun _ _ _ h => imp_ofF h
def fLst (f : FA) : FF := fun ρ => (f ρ).bind fun p => (pls p.1).bind fun xs => if xs.length ≤ sizeLine then some (xs, p.2) else none
theorem imp_lst {f : FA} {Q : VK} (h : tF C (fLst f) σ H Q) : tLst (tA C f) σ H Q := by
  obtain ⟨ρ, τ, an, r, ρ', S, e, q⟩ := h
  unfold fLst at e
  cases e1 : f ρ with
  | none => simp [e1] at e
  | some p =>
    obtain ⟨rs, ρ1⟩ := p
    cases e2 : pls rs with
    | none => simp [e1, e2] at e
    | some xs =>
      simp [e1, e2] at e
      obtain ⟨hz, rfl, rfl⟩ := e
      have er := pls_inv e2
      subst er
      refine ⟨ρ, τ, an, _, _, S, e1, fun vs H1 hl S1 => ?_⟩
      rw [List.length_map] at hl
      refine ⟨by omega, fun p hp => q p vs _ hl (S1.fresh hp trivial)⟩
theorem df_lst {es : List Expr} {f : FA} {pos : Pos} (h : PA X es (tA C f)) : PE X (.List es pos) (tF C (fLst f)) := (pe_lst h).dl fun _ _ _ h => imp_lst h
theorem de_lst {es : List Expr} {f : FA} {pos : Pos} (h : PA X es (tA C f)) : PE X (.List es pos) (tE C (ofF (fLst f))) := de_F (df_lst h)

/-! ### built-ins -/
def rB (C : Fr) (g : List R → Rho → Option R) : List V → Hp → VK → Prop := fun xs H Q => ∃ σ ρ τ an rs z, xs.length = rs.length ∧ SD C σ H ρ (xs.zip rs ++ τ) an ∧ g rs ρ = some z ∧ ∀ v H', SD C σ H' ρ ((v, z) :: τ) an → Q v H'
def eB (g : List R → Rho → Option R) (f : FA) : FE := fun ρ => (f ρ).bind fun p => (g p.1 p.2).map fun z => (z, p.2)
theorem imp_B {g : List R → Rho → Option R} {f : FA} {Q : VK} (h : tE C (eB g f) σ H Q) : tCB (rB C g) (tA C f) σ H Q := by
  obtain ⟨ρ, τ, an, r, ρ', S, e, q⟩ := h
  unfold eB at e
  cases e1 : f ρ with
  | none => simp [e1] at e
  | some p =>
    obtain ⟨rs, ρ1⟩ := p
    cases e2 : g rs ρ1 with
    | none => simp [e1, e2] at e
    | some z =>
      simp [e1, e2] at e
      obtain ⟨rfl, rfl⟩ := e
      exact ⟨ρ, τ, an, rs, _, S, e1, fun vs H1 hl S1 => ⟨σ, _, τ, an, rs, _, hl, S1, e2, q⟩⟩
section
variable {f : Str} {p pos : Pos} {e : Expr} {es : List Expr} {fa : FA} {id T : String} {g : List R → Rho → Option R}
theorem de_callB (hc : CallR X (.builtin id) (rB C g)) (hg : Gl X f) (hm : X.mg f = none) (hv : bootBuiltins f = some (.builtin id)) (ha : PA X (e :: es) (tA C fa)) (hn : f ≠ "__name__" := by decide) (hdb : (f == ("__debug__" : Str)) = false := by decide)
    (he : starEach (e :: es) X.env = (false, eval e X.env) :: starEach es X.env := by rfl) (hpl : (backTo pos (starEach es X.env)).any (·.1) = false := by rfl) : PE X (.Call (.Name f p) (e :: es) [] pos) (tE C (eB g fa)) :=
  (pe_callB hc hg hm hv ha hn hdb he hpl).dl fun _ _ _ h => imp_B h
theorem de_callTy (hc : CallR X (.type T) (rB C g)) (hg : Gl X f) (hm : X.mg f = none) (hv : bootBuiltins f = some (.type T)) (ha : PA X (e :: es) (tA C fa)) (hn : f ≠ "__name__" := by decide) (hdb : (f == ("__debug__" : Str)) = false := by decide)
    (he : starEach (e :: es) X.env = (false, eval e X.env) :: starEach es X.env := by rfl) (hpl : (backTo pos (starEach es X.env)).any (·.1) = false := by rfl) : PE X (.Call (.Name f p) (e :: es) [] pos) (tE C (eB g fa)) :=
  (pe_callTy hc hg hm hv ha hn hdb he hpl).dl fun _ _ _ h => imp_B h
end
def b1 (g : D → Option D) : List R → Rho → Option R
  | [a], ρ => (rdo ρ a).bind fun x => (g x).map R.d
  | _, _ => none
theorem b1_inv {g : D → Option D} {rs : List R} {z : R} (h : b1 g rs ρ = some z) : ∃ a x w, rs = [a] ∧ rdo ρ a = some x ∧ g x = some w ∧ z = .d w := by
  unfold b1 at h
  split at h
  · rename_i a
    cases e1 : rdo ρ a with
    | none => simp [e1] at h
    | some x =>
      cases e2 : g x with
      | none => simp [e1, e2] at h
      | some w => exact ⟨a, x, w, rfl, e1, e2, by simpa [e1, e2] using h.symm⟩
  · cases h
theorem one_of {xs : List V} {a : R} (h : xs.length = [a].length) : ∃ x, xs = [x] := by
  match xs, h with
  | [x], _ => exact ⟨x, rfl⟩
def lenD : D → Option D
  | .str s => if s.length ≤ sizeLine then some (.int s.length) else none
  | .tuple xs => some (.int xs.length)
  | .list xs => some (.int xs.length)
  | _ => none
theorem cr_len (hK : C.K = X.K) : CallR X (.builtin "len") (rB C (b1 lenD)) := by
  intro pins s σ H xs us Q I r h
  obtain ⟨σ', ρ, τ, an, rs, z, hl, S, g, q⟩ := h
  obtain ⟨a, dx, w, rfl, h1, h2, rfl⟩ := b1_inv g
  obtain ⟨x, rfl⟩ := one_of hl
  have n1 := S.res (List.mem_append_left _ List.mem_cons_self) h1
  have S0 : SD C σ' H ρ τ an := S.sub fun p hp => List.mem_append_right _ hp
  unfold lenD at h2
  split at h2
  · split at h2
    · rename_i hz
      cases h2
      have e := n1.str_inv
      subst e
      exact call_len pins s σ H _ us Q I r ⟨_, _, rfl, ⟨hz, rfl⟩, q _ H (S0.push fun _ _ => .int _)⟩
    · cases h2
  · cases h2
    obtain ⟨a1, vs, rfl, t1, t2⟩ := n1.tup_inv
    refine call_len pins s σ H _ us Q I r ⟨_, _, rfl, Or.inr ⟨vs, t1.sq, rfl⟩, q _ H (S0.push fun _ _ => ?_)⟩
    rw [t2.1]
    exact .int _
  · cases h2
    obtain ⟨a1, vs, rfl, t1, t2⟩ := n1.lst_inv
    refine call_len pins s σ H _ us Q I r ⟨_, _, rfl, Or.inl ⟨vs, Or.inl (Or.inl t1), rfl⟩, q _ H (S0.push fun _ _ => ?_)⟩
    rw [t2.1]
    exact .int _
  · cases h2
/-- truths -/
def boolsOf : List D → Option (List Bool)
  | [] => some []
  | .bool b :: xs => (boolsOf xs).map fun bs => b :: bs
  | _ :: _ => none
theorem boolsOf_inv : ∀ {xs : List D} {bs : List Bool}, boolsOf xs = some bs → xs = bs.map PyData.bool
  | [], bs, h => by
    cases h
    rfl
  | .bool b :: xs, bs, h => by
    unfold boolsOf at h
    cases e : boolsOf xs with
    | none => simp [e] at h
    | some ys =>
      simp [e] at h
      subst h
      rw [boolsOf_inv e]
      rfl
  | .none :: _, _, h => by unfold boolsOf at h; cases h
  | .int _ :: _, _, h => by unfold boolsOf at h; cases h
  | .str _ :: _, _, h => by unfold boolsOf at h; cases h
  | .list _ :: _, _, h => by unfold boolsOf at h; cases h
  | .tuple _ :: _, _, h => by unfold boolsOf at h; cases h
  | .dict _ :: _, _, h => by unfold boolsOf at h; cases h
theorem boolsOf_map (bs : List Bool) : boolsOf (bs.map PyData.bool) = some bs := by
  induction bs with
  | nil => rfl
  | cons b bs ih => simp [boolsOf, ih]
theorem dnl_bools {K : PySem.W.Frag} {vs : List V} : ∀ {bs : List Bool}, DnL K H vs (bs.map PyData.bool) → vs = bs.map V.bl := by
  induction vs with
  | nil =>
    intro bs h
    cases bs with
    | nil => rfl
    | cons => simp [DnL] at h
  | cons v vs ih =>
    intro bs h
    cases bs with
    | nil => simp [DnL] at h
    | cons b bs =>
      obtain ⟨h1, h2⟩ := DnL.head h
      rw [h1.bool_inv, ih h2]
      rfl
def allD : D → Option D
  | .list xs => (boolsOf xs).map fun bs => .bool (bs.all id)
  | _ => none
def anyD : D → Option D
  | .list xs => (boolsOf xs).map fun bs => .bool (bs.any id)
  | _ => none
theorem cr_allG (hK : C.K = X.K) (hc : X.calm = true) : CallR X (.builtin "all") (rB C (b1 allD)) := by
  intro pins s σ H xs us Q I r h
  obtain ⟨σ', ρ, τ, an, rs, z, hl, S, g, q⟩ := h
  obtain ⟨a, dx, w, rfl, h1, h2, rfl⟩ := b1_inv g
  obtain ⟨x, rfl⟩ := one_of hl
  have n1 := S.res (List.mem_append_left _ List.mem_cons_self) h1
  have S0 : SD C σ' H ρ τ an := S.sub fun p hp => List.mem_append_right _ hp
  unfold allD at h2
  split at h2
  · rename_i ds
    cases e : boolsOf ds with
    | none => simp [e] at h2
    | some bs =>
      simp [e] at h2
      subst h2
      have ed := boolsOf_inv e
      subst ed
      obtain ⟨a1, vs, rfl, t1, t2⟩ := n1.lst_inv
      have ev := dnl_bools t2
      subst ev
      exact L2.cr_all hc pins s σ H _ us Q I r ⟨a1, bs, rfl, Or.inl (Or.inl t1), q _ H (S0.push fun _ _ => .bl _)⟩
  · cases h2
theorem cr_anyG (hK : C.K = X.K) (hc : X.calm = true) : CallR X (.builtin "any") (rB C (b1 anyD)) := by
  intro pins s σ H xs us Q I r h
  obtain ⟨σ', ρ, τ, an, rs, z, hl, S, g, q⟩ := h
  obtain ⟨a, dx, w, rfl, h1, h2, rfl⟩ := b1_inv g
  obtain ⟨x, rfl⟩ := one_of hl
  have n1 := S.res (List.mem_append_left _ List.mem_cons_self) h1
  have S0 : SD C σ' H ρ τ an := S.sub fun p hp => List.mem_append_right _ hp
  unfold anyD at h2
  split at h2
  · rename_i ds
    cases e : boolsOf ds with
    | none => simp [e] at h2
    | some bs =>
      simp [e] at h2
      subst h2
      have ed := boolsOf_inv e
      subst ed
      obtain ⟨a1, vs, rfl, t1, t2⟩ := n1.lst_inv
      have ev := dnl_bools t2
      subst ev
      exact L2.cr_any hc pins s σ H _ us Q I r ⟨a1, bs, rfl, Or.inl (Or.inl t1), q _ H (S0.push fun _ _ => .bl _)⟩
  · cases h2
def tupD : D → Option D
  | .list xs => some (.tuple xs)
  | .tuple xs => some (.tuple xs)
  | _ => none
theorem cr_tupG (hK : C.K = X.K) : CallR X (.type "tuple") (rB C (b1 tupD)) := by
  intro pins s σ H xs us Q I r h
  obtain ⟨σ', ρ, τ, an, rs, z, hl, S, g, q⟩ := h
  obtain ⟨a, dx, w, rfl, h1, h2, rfl⟩ := b1_inv g
  obtain ⟨x, rfl⟩ := one_of hl
  unfold tupD at h2
  split at h2
  · cases h2
    obtain ⟨a1, vs, rfl, t1, l1, S1⟩ := S.items (List.mem_append_left _ List.mem_cons_self) h1
    refine call_tupZ pins s σ H _ us Q I r ⟨a1, vs, rfl, Or.inl ⟨Or.inl (Or.inl t1), fun p o ho hp => q _ _ ?_⟩⟩
    exact (S1.ntup l1 (fun i v x a b => List.mem_append_left _ (mem_tz a b)) ho hp).keepN fun p hp => List.mem_append_right _ (List.mem_append_right _ hp)
  · cases h2
    obtain ⟨a1, vs, rfl, t1, l1, S1⟩ := S.itemsT (List.mem_append_left _ List.mem_cons_self) h1
    refine call_tupZ pins s σ H _ us Q I r ⟨a1, vs, rfl, Or.inr ⟨t1.sq, q _ _ ?_⟩⟩
    rw [rdo_tup h1] at S
    exact (show SD C σ' H ρ ((V.ref a1, R.d _) :: τ) an from S)
  · cases h2
/-- list(x), new -/
def rF1 (C : Fr) (g : D → Option (List D)) : List V → Hp → VK → Prop := fun xs H Q => ∃ σ ρ τ an x a y zs, xs = [x] ∧ SD C σ H ρ ((x, a) :: τ) an ∧ rdo ρ a = some y ∧ g y = some zs ∧
  ∀ p vs H', vs.length = zs.length → SD C σ H' ρ (tz vs zs ++ τ) ((p, .lst vs) :: an) → Q (.ref p) H'
def fB (g : D → Option (List D)) (f : FE) : FF := fun ρ => (f ρ).bind fun p => (rdo p.2 p.1).bind fun y => (g y).map fun zs => (zs, p.2)
theorem imp_F1 {g : D → Option (List D)} {f : FE} {Q : VK} (h : tF C (fB g f) σ H Q) : tCB (rF1 C g) (tA C (aCons f aNil)) σ H Q := by
  obtain ⟨ρ, τ, an, zs, ρ', S, e, q⟩ := h
  unfold fB at e
  cases e1 : f ρ with
  | none => simp [e1] at e
  | some p =>
    obtain ⟨a, ρ1⟩ := p
    cases e2 : rdo ρ1 a with
    | none => simp [e1, e2] at e
    | some y =>
      cases e3 : g y with
      | none => simp [e1, e2, e3] at e
      | some ws =>
        simp [e1, e2, e3] at e
        obtain ⟨rfl, rfl⟩ := e
        refine ⟨ρ, τ, an, [a], ρ1, S, by simp [aCons, aNil, e1], fun vs H1 hl S1 => ?_⟩
        obtain ⟨x, rfl⟩ := one_of hl
        exact ⟨σ, _, τ, an, x, a, y, ws, rfl, S1, e2, e3, q⟩
def listD : D → Option (List D)
  | .list xs => some xs
  | .tuple xs => some xs
  | _ => none
theorem cr_listG (hK : C.K = X.K) : CallR X (.type "list") (rF1 C listD) := by
  intro pins s σ H xs us Q I r h
  obtain ⟨σ', ρ, τ, an, x, a, y, zs, rfl, S, h1, h2, q⟩ := h
  unfold listD at h2
  split at h2
  · cases h2
    obtain ⟨a1, vs, rfl, t1, l1, S1⟩ := S.items List.mem_cons_self h1
    refine call_list_of pins s σ H _ us Q I r ⟨a1, vs, rfl, Or.inl (Or.inl (Or.inl t1)), fun p hp => q p vs _ l1 ?_⟩
    exact (S1.fresh (o := .lst vs) hp trivial).sub fun p hp => by
      rcases List.mem_append.mp hp with hp | hp
      · exact List.mem_append_left _ hp
      · exact List.mem_append_right _ (List.mem_cons_of_mem _ hp)
  · cases h2
    obtain ⟨a1, vs, rfl, t1, l1, S1⟩ := S.itemsT List.mem_cons_self h1
    refine call_list_of pins s σ H _ us Q I r ⟨a1, vs, rfl, Or.inr t1.sq, fun p hp => q p vs _ l1 ?_⟩
    exact (S1.fresh (o := .lst vs) hp trivial).sub fun p hp => by
      rcases List.mem_append.mp hp with hp | hp
      · exact List.mem_append_left _ hp
      · exact List.mem_append_right _ (List.mem_cons_of_mem _ hp)
  · cases h2
theorem df_callTy {f : Str} {p pos : Pos} {e : Expr} {T : String} {fe : FE} {g : D → Option (List D)} (hc : CallR X (.type T) (rF1 C g)) (hg : Gl X f) (hm : X.mg f = none) (hv : bootBuiltins f = some (.type T)) (ha : PE X e (tE C fe)) (hn : f ≠ "__name__" := by decide) (hdb : (f == ("__debug__" : Str)) = false := by decide)
    (he : starEach [e] X.env = (false, eval e X.env) :: starEach [] X.env := by rfl) (hpl : (backTo pos (starEach [] X.env)).any (·.1) = false := by rfl) : PE X (.Call (.Name f p) [e] [] pos) (tF C (fB g fe)) :=
  (pe_callTy hc hg hm hv (da_cons ha da_nil he) hn hdb he hpl).dl fun _ _ _ h => imp_F1 h

/-! ### isinstance -/
def tyN : D → String
  | .none => "NoneType"
  | .bool _ => "bool"
  | .int _ => "int"
  | .str _ => "str"
  | .tuple _ => "tuple"
  | .list _ => "list"
  | .dict _ => "dict"
theorem tyx_of {K : PySem.W.Frag} {v : V} {d : D} (h : Dn K H v d) : TyX K H v (.type (tyN d)) := by
  cases h with
  | non => exact .base .non
  | bl b => exact .base (.bl b)
  | int i => exact .base (.int i)
  | str x => exact .base (.str x)
  | lst h1 h2 h3 => exact .base (.lst h1)
  | tup h1 h2 h3 =>
    obtain ⟨o, h1, _⟩ := h1
    exact .fTuple h1
/-- isinstance(e, T), T a built-in class -/
def isD (T : String) (x : D) : Option D := (kitB (tyN x) T).map PyData.bool
def eIsi (T : String) (f : FE) : FE := fun ρ => (f ρ).bind fun p => (rdo p.2 p.1).bind fun x => (isD T x).map fun z => (.d z, p.2)
theorem imp_isi {T : String} {f : FE} {Q : VK} (hK : C.K = X.K) (h : tE C (eIsi T f) σ H Q) : tCB (rIsi X.K) (tCons (tE C f) (tCons (tC (.ty T)) tNil)) σ H Q := by
  obtain ⟨ρ, τ, an, r, ρ', S, e, q⟩ := h
  unfold eIsi at e
  cases e1 : f ρ with
  | none => simp [e1] at e
  | some p =>
    obtain ⟨a, ρ1⟩ := p
    cases e2 : rdo ρ1 a with
    | none => simp [e1, e2] at e
    | some y =>
      cases e3 : kitB (tyN y) T with
      | none => simp [e1, e2, e3, isD] at e
      | some b =>
        simp [e1, e2, e3, isD] at e
        obtain ⟨rfl, rfl⟩ := e
        refine ⟨ρ, τ, an, a, _, S, e1, fun x H1 S1 => ?_⟩
        have n := S1.res List.mem_cons_self e2
        rw [hK] at n
        exact ⟨x, .ty T, _, .type T, b, rfl, .ty T, tyx_of n, kit_ty e3, q _ H1 (S1.pop.push fun _ _ => .bl b)⟩
theorem de_isi {f : Str} {T : String} {p p2 pos : Pos} {e : Expr} {fe : FE} (hK : C.K = X.K) (ha : PE X e (tE C fe)) (hg : Gl X "isinstance") (hm : X.mg "isinstance" = none) (hg2 : Gl X f) (hm2 : X.mg f = none) (hv2 : bootBuiltins f = some (.type T)) (hn2 : f ≠ "__name__" := by decide) (hd2 : (f == ("__debug__" : Str)) = false := by decide)
    (he : starEach [e, .Name f p2] X.env = (false, eval e X.env) :: starEach [.Name f p2] X.env := by rfl) (hpl : (backTo pos (starEach [.Name f p2] X.env)).any (·.1) = false := by rfl) : PE X (.Call (.Name "isinstance" p) [e, .Name f p2] [] pos) (tE C (eIsi T fe)) :=
  (pe_callB call_isi hg hm (by decide +kernel) (pa_cons ha (pa_cons (pe_bltn (v := .ty T) hg2 hm2 hv2 rfl hn2 hd2) pa_nil) he) (by decide) (by decide) he hpl).dl fun _ _ _ h => imp_isi hK h
end
end DL
namespace DL
open PySem L2

section
variable {C : Fr} {X : Cx} {σ : L2.St} {H : Hp} {ρ ρ' : Rho} {τ : List (V × R)} {an : List (Addr × HO)} {v : V} {r : R} {x y z : D}

/-! ### slices -/
abbrev FO := Rho → Option (Option Int × Rho)
def tO (C : Fr) (f : FO) : TO := fun σ H Q => ∃ ρ τ an o ρ', SD C σ H ρ τ an ∧ f ρ = some (o, ρ') ∧ ∀ H', SD C σ H' ρ' τ an → Q o H'
theorem _root_.L2.PO.dl {e : Option Expr} {t t' : TO} (h : PO X e t) (k : ∀ σ H Q, t' σ H Q → t σ H Q) : PO X e t' := by
  obtain ⟨h⟩ := h
  exact ⟨fun pins s σ H Q I q => h pins s σ H Q I (k σ H Q q)⟩
def oNone : FO := fun ρ => some (none, ρ)
def oSome (f : FE) : FO := fun ρ => match f ρ with
  | some (.d (.int i), ρ') => some (some i, ρ')
  | _ => none
theorem do_none : PO X none (tO C oNone) := po_none.dl fun σ H Q h => by
  obtain ⟨ρ, τ, an, o, ρ', S, e, q⟩ := h
  cases e
  exact q H S
theorem do_some {e : Expr} {f : FE} (h : PE X e (tE C f)) : PO X (some e) (tO C (oSome f)) := (po_some h).dl fun σ H Q h => by
  obtain ⟨ρ, τ, an, o, ρ', S, e, q⟩ := h
  unfold oSome at e
  split at e
  · rename_i i ρ1 e1
    cases e
    exact ⟨ρ, τ, an, _, _, S, e1, fun v H' S' => ⟨i, S'.here.int_inv, q H' S'.pop⟩⟩
  · cases e
def cutL {α : Type} (xs : List α) (lo hi : Option Int) : List α := (xs.drop (HT.sIx xs.length 0 lo)).take (HT.sIx xs.length xs.length hi - HT.sIx xs.length 0 lo)
def cutD (lo hi : Option Int) : D → Option D
  | .tuple xs => some (.tuple (cutL xs lo hi))
  | .list xs => some (.list (cutL xs lo hi))
  | .str z => if z.length ≤ sizeLine then some (.str (cutS z lo hi)) else none
  | _ => none
def rS (C : Fr) : V → Option Int → Option Int → Hp → VK → Prop := fun x lo hi H Q => ∃ σ ρ τ an a y z, SD C σ H ρ ((x, a) :: τ) an ∧ rdo ρ a = some y ∧ cutD lo hi y = some z ∧ ∀ v H', SD C σ H' ρ ((v, .d z) :: τ) an → Q v H'
theorem cut_at {vs : List V} {xs : List D} (hl : vs.length = xs.length) (lo hi : Option Int) {i : Nat} {v : V} {x : D} (a : (cutV vs lo hi)[i]? = some v) (b : (cutL xs lo hi)[i]? = some x) : (v, R.d x) ∈ tz vs xs := by
  unfold cutV at a
  unfold cutL at b
  rw [hl] at a
  rw [List.getElem?_take] at a b
  split at a
  · rename_i q
    rw [if_pos q] at b
    rw [List.getElem?_drop] at a b
    exact mem_tz a b
  · cases a
theorem cut_len {vs : List V} {xs : List D} (hl : vs.length = xs.length) (lo hi : Option Int) : (cutV vs lo hi).length = (cutL xs lo hi).length := by
  unfold cutV cutL
  rw [hl]
  simp [hl]
theorem cut_all {xs : List D} {lo hi : Option Int} (h : HT.sIx xs.length 0 lo = 0 ∧ HT.sIx xs.length xs.length hi = xs.length) : cutL xs lo hi = xs := by
  unfold cutL
  rw [h.1, h.2]
  simp
theorem sl_G (hK : C.K = X.K) : SlR X (rS C) := by
  intro pins s σ H x v vl vu lo hi sl Q I rx hs pl pu h
  obtain ⟨σ', ρ, τ, an, a, y, z, S, h1, h2, q⟩ := h
  unfold cutD at h2
  split at h2
  · rename_i xs
    cases h2
    obtain ⟨a1, vs, rfl, t1, l1, S1⟩ := S.itemsT List.mem_cons_self h1
    refine sl_tupZ pins s σ H _ v vl vu lo hi sl Q I rx hs pl pu ⟨a1, vs, rfl, t1, fun e => ?_, fun _ p o ho hp => ?_⟩
    · rw [l1] at e
      rw [cut_all e] at q
      rw [rdo_tup h1] at S
      exact q _ H S
    · exact q _ _ ((S1.ntup (cut_len l1 lo hi) (fun i v x a b => List.mem_append_left _ (cut_at l1 lo hi a b)) ho hp).keepN fun p hp => List.mem_append_right _ (List.mem_cons_of_mem _ hp))
  · rename_i xs
    cases h2
    obtain ⟨a1, vs, rfl, t1, l1, S1⟩ := S.items List.mem_cons_self h1
    refine sl_list pins s σ H _ v vl vu lo hi sl Q I rx hs pl pu ⟨a1, vs, rfl, Or.inl (Or.inl t1), fun p hp => ?_⟩
    exact q _ _ ((S1.nlst (cut_len l1 lo hi) (fun i v x a b => List.mem_append_left _ (cut_at l1 lo hi a b)) hp).keepN fun p hp => List.mem_append_right _ (List.mem_cons_of_mem _ hp))
  · rename_i zz
    split at h2
    · rename_i hz
      cases h2
      have e := (S.res List.mem_cons_self h1).str_inv
      subst e
      exact sl_str pins s σ H _ v vl vu lo hi sl Q I rx hs pl pu ⟨zz, rfl, hz, q _ H (S.pop.push fun _ _ => .str _)⟩
    · cases h2
  · cases h2
def eSl (f : FE) (lo hi : FO) : FE := fun ρ => (f ρ).bind fun p => (lo p.2).bind fun a => (hi a.2).bind fun b => (rdo b.2 p.1).bind fun y => (cutD a.1 b.1 y).map fun z => (.d z, b.2)
theorem imp_sl {f : FE} {lo hi : FO} {Q : VK} (h : tE C (eSl f lo hi) σ H Q) : tSl (rS C) (tE C f) (tO C lo) (tO C hi) σ H Q := by
  obtain ⟨ρ, τ, an, r, ρ', S, e, q⟩ := h
  unfold eSl at e
  cases e1 : f ρ with
  | none => simp [e1] at e
  | some p =>
    obtain ⟨a, ρ1⟩ := p
    cases e2 : lo ρ1 with
    | none => simp [e1, e2] at e
    | some p =>
      obtain ⟨l, ρ2⟩ := p
      cases e3 : hi ρ2 with
      | none => simp [e1, e2, e3] at e
      | some p =>
        obtain ⟨u, ρ3⟩ := p
        cases e4 : rdo ρ3 a with
        | none => simp [e1, e2, e3, e4] at e
        | some y =>
          cases e5 : cutD l u y with
          | none => simp [e1, e2, e3, e4, e5] at e
          | some w =>
            simp [e1, e2, e3, e4, e5] at e
            obtain ⟨rfl, rfl⟩ := e
            refine ⟨ρ, τ, an, a, ρ1, S, e1, fun x H1 S1 => ⟨ρ1, _, an, l, ρ2, S1, e2, fun H2 S2 => ⟨ρ2, _, an, u, ρ3, S2, e3, fun H3 S3 => ⟨σ, ρ3, τ, an, a, y, w, S3, e4, e5, q⟩⟩⟩⟩
theorem de_sl {e : Expr} {lo hi : Option Expr} {f : FE} {fl fh : FO} {p2 pos : Pos} (hK : C.K = X.K) (he : PE X e (tE C f)) (hl : PO X lo (tO C fl)) (hh : PO X hi (tO C fh)) : PE X (.Subscript e (.Slice lo hi none p2) pos) (tE C (eSl f fl fh)) :=
  (pe_slice (sl_G hK) he hl hh).dl fun _ _ _ h => imp_sl h

/-! ### truth; and, or, not -/
def truD : D → Option Bool
  | .none => some false
  | .bool b => some b
  | .int i => some (i != 0)
  | .str s => if s.length ≤ sizeLine then some ((s.length : Int) != 0) else none
  | .tuple xs => some (!xs.isEmpty)
  | .list xs => some (!xs.isEmpty)
  | _ => none
theorem tru_of {K : PySem.W.Frag} {v : V} {d : D} {k : Bool} (h : Dn K H v d) (e : truD d = some k) : TruV K v H k := by
  cases h with
  | non =>
    cases e
    rfl
  | bl b =>
    cases e
    rfl
  | int i =>
    cases e
    rfl
  | str x =>
    unfold truD at e
    simp only at e
    split at e
    · rename_i hz
      cases e
      exact ⟨hz, rfl⟩
    · cases e
  | lst h1 h2 h3 =>
    cases e
    refine Or.inl ⟨_, Or.inl (Or.inl h1), ?_⟩
    rename_i a xs ds
    cases xs <;> cases ds <;> first | rfl | simp at h2
  | tup h1 h2 h3 =>
    cases e
    refine Or.inr (Or.inl ⟨_, h1.sq, ?_⟩)
    rename_i a xs ds
    cases xs <;> cases ds <;> first | rfl | simp at h2
def truR (f : FE) : FT := fun ρ => (f ρ).bind fun p => (rdo p.2 p.1).bind fun x => (truD x).map fun k => (k, p.2)
theorem truR_inv {f : FE} {k : Bool} (h : truR f ρ = some (k, ρ')) : ∃ r x, f ρ = some (r, ρ') ∧ rdo ρ' r = some x ∧ truD x = some k := by
  unfold truR at h
  cases e1 : f ρ with
  | none => simp [e1] at h
  | some p =>
    obtain ⟨a, ρ1⟩ := p
    cases e2 : rdo ρ1 a with
    | none => simp [e1, e2] at h
    | some y =>
      cases e3 : truD y with
      | none => simp [e1, e2, e3] at h
      | some c =>
        simp [e1, e2, e3] at h
        obtain ⟨rfl, rfl⟩ := h
        exact ⟨a, y, rfl, e2, e3⟩
theorem dt_tru {e : Expr} {f : FE} (hK : C.K = X.K) (ha : PE X e (tE C f)) (he : ∀ whole, isTrue e X.env whole = (do let v ← whole; standAt e.pos; holding [v] (truthy v)) := by intro _; rfl) : PT X e (tT C (truR f)) :=
  (pt_truth ha he).dl fun σ H Q h => by
    obtain ⟨ρ, τ, an, k, ρ', S, e, q⟩ := h
    obtain ⟨r, x, h1, h2, h3⟩ := truR_inv e
    refine ⟨ρ, τ, an, r, ρ', S, h1, fun v H' S' => ⟨k, ?_, q H' S'.pop⟩⟩
    have n := S'.res List.mem_cons_self h2
    rw [hK] at n
    exact tru_of n h3
def andT (f g : FT) : FT := fun ρ => (f ρ).bind fun p => if p.1 = true then g p.2 else some (false, p.2)
def orT (f g : FT) : FT := fun ρ => (f ρ).bind fun p => if p.1 = true then some (true, p.2) else g p.2
def notT (f : FT) : FT := fun ρ => (f ρ).map fun p => (!p.1, p.2)
theorem imp_and {f g : FT} {Q : Bool → Hp → Prop} (h : tT C (andT f g) σ H Q) : tAnd (tT C f) (tT C g) σ H Q := by
  obtain ⟨ρ, τ, an, k, ρ', S, e, q⟩ := h
  unfold andT at e
  cases e1 : f ρ with
  | none => simp [e1] at e
  | some p =>
    obtain ⟨b, ρ1⟩ := p
    simp only [e1, Option.bind_some] at e
    refine ⟨ρ, τ, an, b, ρ1, S, e1, fun H1 S1 => ?_⟩
    cases b with
    | true =>
      rw [if_pos rfl] at e
      show tT C g σ H1 Q
      exact ⟨ρ1, τ, an, k, ρ', S1, e, q⟩
    | false =>
      rw [if_neg Bool.false_ne_true] at e
      cases e
      show Q false H1
      exact q H1 S1
theorem imp_or {f g : FT} {Q : Bool → Hp → Prop} (h : tT C (orT f g) σ H Q) : tOr (tT C f) (tT C g) σ H Q := by
  obtain ⟨ρ, τ, an, k, ρ', S, e, q⟩ := h
  unfold orT at e
  cases e1 : f ρ with
  | none => simp [e1] at e
  | some p =>
    obtain ⟨b, ρ1⟩ := p
    simp only [e1, Option.bind_some] at e
    refine ⟨ρ, τ, an, b, ρ1, S, e1, fun H1 S1 => ?_⟩
    cases b with
    | true =>
      rw [if_pos rfl] at e
      cases e
      show Q true H1
      exact q H1 S1
    | false =>
      rw [if_neg Bool.false_ne_true] at e
      show tT C g σ H1 Q
      exact ⟨ρ1, τ, an, k, ρ', S1, e, q⟩
theorem imp_not {f : FT} {Q : Bool → Hp → Prop} (h : tT C (notT f) σ H Q) : tNot (tT C f) σ H Q := by
  obtain ⟨ρ, τ, an, k, ρ', S, e, q⟩ := h
  unfold notT at e
  cases e1 : f ρ with
  | none => simp [e1] at e
  | some p =>
    obtain ⟨b, ρ1⟩ := p
    simp [e1] at e
    obtain ⟨rfl, rfl⟩ := e
    exact ⟨ρ, τ, an, _, _, S, e1, fun H' S' => by simpa using q H' S'⟩
section
variable {a b c : Expr} {rest : List Expr} {pos : Pos} {f g : FT} {fe ge he : FE}
theorem dw_and1 (ha : PT X a (tT C f)) : PW X (.BoolOp .And [a] pos) (tT C f) := pw_and1 ha
theorem dw_or1 (ha : PT X a (tT C f)) : PW X (.BoolOp .Or [a] pos) (tT C f) := pw_or1 ha
theorem dw_and (ha : PT X a (tT C f)) (hb : PW X (.BoolOp .And (b :: rest) pos) (tT C g)) : PW X (.BoolOp .And (a :: b :: rest) pos) (tT C (andT f g)) := (pw_and ha hb).dl fun _ _ _ h => imp_and h
theorem dw_or (ha : PT X a (tT C f)) (hb : PW X (.BoolOp .Or (b :: rest) pos) (tT C g)) : PW X (.BoolOp .Or (a :: b :: rest) pos) (tT C (orT f g)) := (pw_or ha hb).dl fun _ _ _ h => imp_or h
theorem dt_not (ha : PT X a (tT C f)) : PT X (.UnaryOp .Not a pos) (tT C (notT f)) := (pt_not ha).dl fun _ _ _ h => imp_not h
/-- as values -/
def andE (f g : FE) : FE := fun ρ => (f ρ).bind fun p => (rdo p.2 p.1).bind fun x => (truD x).bind fun k => if k = true then g p.2 else some p
def orE (f g : FE) : FE := fun ρ => (f ρ).bind fun p => (rdo p.2 p.1).bind fun x => (truD x).bind fun k => if k = true then some p else g p.2
def notE (f : FE) : FE := fun ρ => (truR f ρ).map fun p => (.d (.bool (!p.1)), p.2)
def ifE (t : FT) (f g : FE) : FE := fun ρ => (t ρ).bind fun p => if p.1 = true then f p.2 else g p.2
theorem de_one {op : BoolOp} (ha : PE X a (tE C fe)) : PE X (.BoolOp op [a] pos) (tE C fe) := pe_one ha
theorem de_and (hK : C.K = X.K) (ha : PE X a (tE C fe)) (hb : PE X (.BoolOp .And (b :: rest) pos) (tE C ge)) : PE X (.BoolOp .And (a :: b :: rest) pos) (tE C (andE fe ge)) :=
  (pe_andT ha hb).dl fun σ H Q h => by
    obtain ⟨ρ, τ, an, r, ρ', S, e, q⟩ := h
    unfold andE at e
    cases e1 : fe ρ with
    | none => simp [e1] at e
    | some p =>
      obtain ⟨a1, ρ1⟩ := p
      cases e2 : rdo ρ1 a1 with
      | none => simp [e1, e2] at e
      | some y =>
        cases e3 : truD y with
        | none => simp [e1, e2, e3] at e
        | some k =>
          simp only [e1, e2, e3, Option.bind_some] at e
          refine ⟨ρ, τ, an, a1, ρ1, S, e1, fun v H1 S1 => ⟨k, ?_, ?_⟩⟩
          · have n := S1.res List.mem_cons_self e2
            rw [hK] at n
            exact tru_of n e3
          · cases k with
            | true =>
              rw [if_pos rfl] at e
              show tE C ge σ H1 Q
              exact ⟨ρ1, τ, an, r, ρ', S1.pop, e, q⟩
            | false =>
              rw [if_neg Bool.false_ne_true] at e
              cases e
              show Q v H1
              exact q v H1 S1
theorem de_or (hK : C.K = X.K) (ha : PE X a (tE C fe)) (hb : PE X (.BoolOp .Or (b :: rest) pos) (tE C ge)) : PE X (.BoolOp .Or (a :: b :: rest) pos) (tE C (orE fe ge)) :=
  (pe_orT ha hb).dl fun σ H Q h => by
    obtain ⟨ρ, τ, an, r, ρ', S, e, q⟩ := h
    unfold orE at e
    cases e1 : fe ρ with
    | none => simp [e1] at e
    | some p =>
      obtain ⟨a1, ρ1⟩ := p
      cases e2 : rdo ρ1 a1 with
      | none => simp [e1, e2] at e
      | some y =>
        cases e3 : truD y with
        | none => simp [e1, e2, e3] at e
        | some k =>
          simp only [e1, e2, e3, Option.bind_some] at e
          refine ⟨ρ, τ, an, a1, ρ1, S, e1, fun v H1 S1 => ⟨k, ?_, ?_⟩⟩
          · have n := S1.res List.mem_cons_self e2
            rw [hK] at n
            exact tru_of n e3
          · cases k with
            | true =>
              rw [if_pos rfl] at e
              cases e
              show Q v H1
              exact q v H1 S1
            | false =>
              rw [if_neg Bool.false_ne_true] at e
              show tE C ge σ H1 Q
              exact ⟨ρ1, τ, an, r, ρ', S1.pop, e, q⟩
theorem de_not (hK : C.K = X.K) (ha : PE X a (tE C fe)) : PE X (.UnaryOp .Not a pos) (tE C (notE fe)) :=
  (pe_notT ha).dl fun σ H Q h => by
    obtain ⟨ρ, τ, an, r, ρ', S, e, q⟩ := h
    unfold notE at e
    cases e1 : truR fe ρ with
    | none => simp [e1] at e
    | some p =>
      obtain ⟨k, ρ1⟩ := p
      simp [e1] at e
      obtain ⟨rfl, rfl⟩ := e
      obtain ⟨r, x, h1, h2, h3⟩ := truR_inv e1
      refine ⟨ρ, τ, an, r, _, S, h1, fun v H' S' => ⟨k, ?_, q _ H' (S'.pop.push fun _ _ => .bl _)⟩⟩
      have n := S'.res List.mem_cons_self h2
      rw [hK] at n
      exact tru_of n h3
theorem de_if (hc : PT X c (tT C f)) (ha : PE X a (tE C fe)) (hb : PE X b (tE C ge)) : PE X (.IfExp c a b pos) (tE C (ifE f fe ge)) :=
  (pe_ifExp hc ha hb).dl fun σ H Q h => by
    obtain ⟨ρ, τ, an, r, ρ', S, e, q⟩ := h
    unfold ifE at e
    cases e1 : f ρ with
    | none => simp [e1] at e
    | some p =>
      obtain ⟨k, ρ1⟩ := p
      simp only [e1, Option.bind_some] at e
      refine ⟨ρ, τ, an, k, ρ1, S, e1, fun H1 S1 => ?_⟩
      cases k with
      | true =>
        rw [if_pos rfl] at e
        show tE C fe σ H1 Q
        exact ⟨ρ1, τ, an, r, ρ', S1, e, q⟩
      | false =>
        rw [if_neg Bool.false_ne_true] at e
        show tE C ge σ H1 Q
        exact ⟨ρ1, τ, an, r, ρ', S1, e, q⟩

/-! ### is None -/
def isNone : D → Bool
  | .none => true
  | _ => false
theorem non_iff {K : PySem.W.Frag} {v : V} {d : D} (h : Dn K H v d) : decide (v = .non) = isNone d := by
  cases h <;> simp [isNone]
theorem own_ref {i : Nat} {fp : Nat → List Addr} (s : SDf C fp σ H ρ τ an) (e : ∃ b, ρ[i]? = some (some b) ∧ ∀ x, b ≠ .d x) (hv : σ[i]? = some (some v)) : v ≠ .non := by
  obtain ⟨b, e, n⟩ := e
  obtain ⟨w, h1, h2⟩ := s.bnd i b e
  rw [hv] at h1
  cases h1
  cases b with
  | d x => exact absurd rfl (n x)
  | r xs =>
    obtain ⟨_, a, vs, rfl, _⟩ := h2
    exact fun z => by cases z
  | l xs =>
    obtain ⟨a, vs, rfl, _⟩ := h2
    exact fun z => by cases z
  | m xs =>
    obtain ⟨a, vs, rfl, _⟩ := h2
    exact fun z => by cases z
  | t c m =>
    obtain ⟨a, vs, rfl, _⟩ := h2
    exact fun z => by cases z
  | s ns =>
    obtain ⟨_, a, rfl, _⟩ := h2
    exact fun z => by cases z
/-- e is None, e data -/
def isNd (f : FE) : FE := fun ρ => match f ρ with
  | some (.d x, ρ') => some (.d (.bool (isNone x)), ρ')
  | _ => none
def isnNd (f : FE) : FE := fun ρ => match f ρ with
  | some (.d x, ρ') => some (.d (.bool (!isNone x)), ρ')
  | _ => none
theorem imp_isN {f : FE} {Q : VK} (h : tE C (isNd f) σ H Q) : tIsN (tE C f) σ H Q := by
  obtain ⟨ρ, τ, an, r, ρ', S, e, q⟩ := h
  unfold isNd at e
  split at e
  · rename_i x ρ1 e1
    cases e
    refine ⟨ρ, τ, an, _, _, S, e1, fun v H' S' => ?_⟩
    dsimp only
    rw [non_iff S'.here]
    exact q _ H' (S'.pop.push fun _ _ => .bl _)
  · cases e
theorem imp_isnN {f : FE} {Q : VK} (h : tE C (isnNd f) σ H Q) : tNotN (tE C f) σ H Q := by
  obtain ⟨ρ, τ, an, r, ρ', S, e, q⟩ := h
  unfold isnNd at e
  split at e
  · rename_i x ρ1 e1
    cases e
    refine ⟨ρ, τ, an, _, _, S, e1, fun v H' S' => ?_⟩
    dsimp only
    rw [non_iff S'.here]
    exact q _ H' (S'.pop.push fun _ _ => .bl _)
  · cases e
theorem de_isN {j : Nat} {p : Pos} (ha : PE X a (tE C fe)) : PE X (.Compare a [.Is] [.Constant .none j p] pos) (tE C (isNd fe)) := (pe_cmp (pc_isN ha)).dl fun _ _ _ h => imp_isN h
theorem de_isnN {j : Nat} {p : Pos} (ha : PE X a (tE C fe)) : PE X (.Compare a [.IsNot] [.Constant .none j p] pos) (tE C (isnNd fe)) := (pe_cmp (pc_notN ha)).dl fun _ _ _ h => imp_isnN h
theorem dt_isN {j : Nat} {p : Pos} (ha : PE X a (tE C fe)) : PT X (.Compare a [.Is] [.Constant .none j p] pos) (tT C (toT (isNd fe))) := (pt_cmp (pc_isN ha)).dl fun _ _ _ h => imp_isN (imp_test h)
theorem dt_isnN {j : Nat} {p : Pos} (ha : PE X a (tE C fe)) : PT X (.Compare a [.IsNot] [.Constant .none j p] pos) (tT C (toT (isnNd fe))) := (pt_cmp (pc_notN ha)).dl fun _ _ _ h => imp_isnN (imp_test h)

/-! ### a op b op c -/
def chE (g g' : R → R → Rho → Option R) (f1 f2 f3 : FE) : FE := fun ρ => (f1 ρ).bind fun p => (f2 p.2).bind fun q => (g p.1 q.1 q.2).bind fun z => match z with
  | .d (.bool true) => (f3 q.2).bind fun w => (g' q.1 w.1 w.2).map fun u => (u, w.2)
  | .d (.bool false) => some (.d (.bool false), q.2)
  | _ => none
theorem imp_ch {g g' : R → R → Rho → Option R} {f1 f2 f3 : FE} {Q : VK} (h : tE C (chE g g' f1 f2 f3) σ H Q) : tChain (rG C g) (rG C g') (tE C f1) (tE C f2) (tE C f3) σ H Q := by
  obtain ⟨ρ, τ, an, r, ρ', S, e, q⟩ := h
  unfold chE at e
  cases e1 : f1 ρ with
  | none => simp [e1] at e
  | some p =>
    obtain ⟨a1, ρ1⟩ := p
    cases e2 : f2 ρ1 with
    | none => simp [e1, e2] at e
    | some p =>
      obtain ⟨a2, ρ2⟩ := p
      cases e3 : g a1 a2 ρ2 with
      | none => simp [e1, e2, e3] at e
      | some z0 =>
        simp only [e1, e2, e3, Option.bind_some] at e
        refine ⟨ρ, τ, an, a1, ρ1, S, e1, fun x H1 S1 => ⟨ρ1, _, an, a2, ρ2, S1, e2, fun y H2 S2 => ?_⟩⟩
        refine ⟨σ, ρ2, (y, a2) :: τ, an, a1, a2, z0, S2.sub fun p hp => ?_, e3, fun w H3 S3 => ?_⟩
        · rcases List.mem_cons.mp hp with rfl | hp
          · exact List.mem_cons_self
          · rcases List.mem_cons.mp hp with rfl | hp
            · exact List.mem_cons_of_mem _ List.mem_cons_self
            · rcases List.mem_cons.mp hp with rfl | hp
              · exact List.mem_cons_self
              · exact List.mem_cons_of_mem _ (List.mem_cons_of_mem _ hp)
        · split at e
          · refine ⟨true, S3.here.bool_inv, ?_⟩
            cases e4 : f3 ρ2 with
            | none => simp [e4] at e
            | some p =>
              obtain ⟨a3, ρ3⟩ := p
              cases e5 : g' a2 a3 ρ3 with
              | none => simp [e4, e5] at e
              | some u =>
                simp [e4, e5] at e
                obtain ⟨rfl, rfl⟩ := e
                show tE C f3 σ H3 fun w' H4 => rG C g' y w' H4 Q
                refine ⟨ρ2, _, an, a3, _, S3.pop, e4, fun w' H4 S4 => ?_⟩
                exact ⟨σ, _, τ, an, a2, a3, _, S4, e5, q⟩
          · refine ⟨false, S3.here.bool_inv, ?_⟩
            cases e
            show Q (.bl false) H3
            exact q _ H3 (S3.pop2.push fun _ _ => .bl false)
          · cases e
theorem de_ch {op op' : CmpOp} {g g' : R → R → Rho → Option R} (ho : OpR X (compareOp op) (rG C g)) (ho' : OpR X (compareOp op') (rG C g')) (ha : PE X a (tE C fe)) (hb : PE X b (tE C ge)) (hc : PE X c (tE C he))
    (hm : lastMarks [op, op'] [b, c] = false := by with_unfolding_all rfl) : PE X (.Compare a [op, op'] [b, c] pos) (tE C (chE g g' fe ge he)) := (pe_chain ho ho' ha hb hc hm).dl fun _ _ _ h => imp_ch h
theorem dt_ch {op op' : CmpOp} {g g' : R → R → Rho → Option R} (ho : OpR X (compareOp op) (rG C g)) (ho' : OpR X (compareOp op') (rG C g')) (ha : PE X a (tE C fe)) (hb : PE X b (tE C ge)) (hc : PE X c (tE C he))
    (hm : lastMarks [op, op'] [b, c] = false := by with_unfolding_all rfl) : PT X (.Compare a [op, op'] [b, c] pos) (tT C (toT (chE g g' fe ge he))) := (pt_chain ho ho' ha hb hc hm).dl fun _ _ _ h => imp_ch (imp_test h)
end
end
end DL
namespace DL
open PySem L2

inductive Out where
  | next (ρ : Rho)
  | ret (d : D) (ρ : Rho)
  | brk (ρ : Rho)
  | cont (ρ : Rho)
  | exc (x : Str × Option Str)
/-- the exception of the class told, with the person told -/
def ExcIs (cl : Str → Option Addr) (x : Str × Option Str) (cls : Value) (d : Option Addr) (H : Hp) : Prop :=
  (∃ c, cls = .ref c ∧ cl x.1 = some c) ∧ (x.2 = none → d = none) ∧ ∀ p, x.2 = some p → ∃ dx, d = some dx ∧ H dx = some (.xd [("person", .str p)])
abbrev FS := Rho → Option Out
def OutOk (C : Fr) (τ : List (V × R)) (an : List (Addr × HO)) (G : Ends) : Out → Prop
  | .next ρ => ∀ σ H, SD C σ H ρ τ an → G.nx σ H
  | .ret d ρ => ∀ v σ H, SD C σ H ρ ((v, .d d) :: τ) an → G.rt v H
  | .brk ρ => ∀ σ H, SD C σ H ρ τ an → G.bk σ H
  | .cont ρ => ∀ σ H, SD C σ H ρ τ an → G.ct σ H
  | .exc x => ∀ σ H ρ τ an cls d, SD C σ H ρ τ an → ExcIs C.cl x cls d H → C.xe cls d H
def tS (C : Fr) (f : FS) : TS := fun G σ H => ∃ ρ τ an o, AllD τ ∧ SD C σ H ρ τ an ∧ f ρ = some o ∧ OutOk C τ an G o
theorem _root_.L2.PS.dl {X : Cx} {st : Stmt} {t t' : TS} (h : PS X st t) (k : ∀ G σ H, t' G σ H → t G σ H) : PS X st t' := ⟨fun pins s σ H G I q => h.run pins s σ H G I (k G σ H q)⟩
theorem _root_.L2.PSs.dl {X : Cx} {st : List Stmt} {t t' : TS} (h : PSs X st t) (k : ∀ G σ H, t' G σ H → t G σ H) : PSs X st t' := ⟨fun pins s σ H G I q => h.run pins s σ H G I (k G σ H q)⟩
theorem AllD.cons {τ : List (V × R)} {v : V} {x : D} (h : AllD τ) : AllD ((v, .d x) :: τ) := fun p hp => by
  rcases List.mem_cons.mp hp with rfl | hp
  · exact fun i z => nomatch z
  · exact h p hp
theorem AllD.tz {vs : List V} {xs : List D} : AllD (tz vs xs) := fun p hp => by
  obtain ⟨i, v, x, _, _, rfl⟩ := of_tz hp
  exact fun i z => nomatch z
theorem AllD.app {τ τ' : List (V × R)} (h : AllD τ) (h' : AllD τ') : AllD (τ ++ τ') := fun p hp => (List.mem_append.mp hp).elim (h p) (h' p)
theorem AllD.nil : AllD [] := fun p hp => by cases hp

section
variable {C : Fr} {X : Cx} {σ : L2.St} {H : Hp} {ρ ρ' : Rho} {τ : List (V × R)} {an : List (Addr × HO)} {v : V} {r : R} {x y z : D} {G : Ends}

/-! ### blocks -/
def sNil : FS := fun ρ => some (.next ρ)
def sSeq (f g : FS) : FS := fun ρ => (f ρ).bind fun o => match o with
  | .next ρ' => g ρ'
  | o => some o
theorem dss_nil : PSs X [] (tS C sNil) := pss_nil.dl fun G σ H h => by
  obtain ⟨ρ, τ, an, o, ad, S, e, k⟩ := h
  cases e
  exact k σ H S
theorem dss_cons {st : Stmt} {rest : List Stmt} {f g : FS} (h1 : PS X st (tS C f)) (h2 : PSs X rest (tS C g)) : PSs X (st :: rest) (tS C (sSeq f g)) := (pss_cons h1 h2).dl fun G σ H h => by
  obtain ⟨ρ, τ, an, o, ad, S, e, k⟩ := h
  unfold sSeq at e
  cases e1 : f ρ with
  | none => simp [e1] at e
  | some o1 =>
    simp only [e1, Option.bind_some] at e
    refine ⟨ρ, τ, an, o1, ad, S, e1, ?_⟩
    cases o1 with
    | next ρ1 => exact fun σ' H' S' => ⟨ρ1, τ, an, o, ad, S', e, k⟩
    | ret d ρ1 =>
      cases e
      exact k
    | brk ρ1 =>
      cases e
      exact k
    | cont ρ1 =>
      cases e
      exact k
    | exc x =>
      cases e
      exact k
theorem dss_one {st : Stmt} {f : FS} (h1 : PS X st (tS C f)) : PSs X [st] (tS C f) := pss_one h1
def sDead : FS := fun _ => none
theorem ds_dead {st : Stmt} : PS X st (tS C sDead) := ps_never.dl fun G σ H h => by
  obtain ⟨ρ, τ, an, o, ad, S, e, k⟩ := h
  cases e
def sBrk : FS := fun ρ => some (.brk ρ)
def sCont : FS := fun ρ => some (.cont ρ)
theorem ds_break {pos : Pos} : PS X (.Break pos) (tS C sBrk) := ps_break.dl fun G σ H h => by
  obtain ⟨ρ, τ, an, o, ad, S, e, k⟩ := h
  cases e
  exact k σ H S
theorem ds_cont {pos : Pos} : PS X (.Continue pos) (tS C sCont) := ps_continue.dl fun G σ H h => by
  obtain ⟨ρ, τ, an, o, ad, S, e, k⟩ := h
  cases e
  exact k σ H S
theorem ds_pass {pos : Pos} : PS X (.Pass pos) (tS C sNil) := ps_pass.dl fun G σ H h => by
  obtain ⟨ρ, τ, an, o, ad, S, e, k⟩ := h
  cases e
  exact k σ H S

/-! ### return, if, an expression -/
/-- the data of a result, an own list let go -/
def out1 (r : R) (ρ : Rho) : Option (D × Rho) := match r with
  | .d x => some (x, ρ)
  | .w _ => none
  | .own i => match ρ[i]? with
    | some (some (.l xs)) => some (.list xs, rel i ρ)
    | _ => none
theorem out1_ok (S : SD C σ H ρ ((v, r) :: τ) an) (e : out1 r ρ = some (x, ρ')) : SD C σ H ρ' ((v, .d x) :: τ) an := by
  unfold out1 at e
  split at e
  · cases e
    exact S
  · cases e
  · rename_i i
    split at e
    · rename_i xs e0
      cases e
      have S1 := S.rel i
      have e1 : (rel i ρ)[i]? = some (some (.d (.list xs))) := by
        unfold rel
        rw [e0]
        simp only
        rw [List.getElem?_set_self (List.getElem?_eq_some_iff.mp e0).1]
      obtain ⟨fp, s⟩ := S1
      have hv : σ[i]? = some (some v) := s.tmp _ List.mem_cons_self
      obtain ⟨w, h1, h2, h3⟩ := s.bnd i _ e1
      rw [hv] at h1
      cases h1
      refine ⟨fp, s.tmps fun p hp => ?_⟩
      rcases List.mem_cons.mp hp with rfl | hp
      · exact h3
      · exact s.tmp p (List.mem_cons_of_mem _ hp)
    · cases e
def sRet (f : FE) : FS := fun ρ => (f ρ).bind fun p => (out1 p.1 p.2).map fun q => .ret q.1 q.2
theorem ds_ret {e : Expr} {f : FE} {pos : Pos} (he : PE X e (tE C f)) : PS X (.Return (some e) pos) (tS C (sRet f)) := (ps_ret he).dl fun G σ H h => by
  obtain ⟨ρ, τ, an, o, ad, S, e, k⟩ := h
  unfold sRet at e
  cases e1 : f ρ with
  | none => simp [e1] at e
  | some p =>
    obtain ⟨r, ρ1⟩ := p
    cases e2 : out1 r ρ1 with
    | none => simp [e1, e2] at e
    | some q =>
      simp [e1, e2] at e
      subst e
      exact ⟨ρ, τ, an, r, ρ1, S, e1, fun v H' S' => k v σ H' (out1_ok S' e2)⟩
def sRetN : FS := fun ρ => some (.ret .none ρ)
theorem ds_retN {pos : Pos} : PS X (.Return none pos) (tS C sRetN) := ps_retN.dl fun G σ H h => by
  obtain ⟨ρ, τ, an, o, ad, S, e, k⟩ := h
  cases e
  exact k .non σ H (S.push fun _ _ => .non)
def sIf (c : FT) (f g : FS) : FS := fun ρ => (c ρ).bind fun p => if p.1 = true then f p.2 else g p.2
theorem ds_if {c : Expr} {a b : List Stmt} {fc : FT} {f g : FS} {pos : Pos} (hc : PT X c (tT C fc)) (ha : PSs X a (tS C f)) (hb : PSs X b (tS C g)) : PS X (.If c a b pos) (tS C (sIf fc f g)) := (ps_if hc ha hb).dl fun G σ H h => by
  obtain ⟨ρ, τ, an, o, ad, S, e, k⟩ := h
  unfold sIf at e
  cases e1 : fc ρ with
  | none => simp [e1] at e
  | some p =>
    obtain ⟨b, ρ1⟩ := p
    simp only [e1, Option.bind_some] at e
    refine ⟨ρ, τ, an, b, ρ1, S, e1, fun H1 S1 => ?_⟩
    cases b with
    | true =>
      rw [if_pos rfl] at e
      show tS C f G σ H1
      exact ⟨ρ1, τ, an, o, ad, S1, e, k⟩
    | false =>
      rw [if_neg Bool.false_ne_true] at e
      show tS C g G σ H1
      exact ⟨ρ1, τ, an, o, ad, S1, e, k⟩
def sDrop (f : FE) : FS := fun ρ => (f ρ).map fun p => .next p.2
theorem ds_expr {e : Expr} {f : FE} {pos : Pos} (he : PE X e (tE C f)) (hs : swapsWith e none pos.line X.env = pure false := by rfl) : PS X (.Expr e pos) (tS C (sDrop f)) := (ps_expr he hs).dl fun G σ H h => by
  obtain ⟨ρ, τ, an, o, ad, S, e, k⟩ := h
  unfold sDrop at e
  cases e1 : f ρ with
  | none => simp [e1] at e
  | some p =>
    obtain ⟨r, ρ1⟩ := p
    simp [e1] at e
    subst e
    exact ⟨ρ, τ, an, r, ρ1, S, e1, fun v H' S' => k σ H' S'.pop⟩

/-! ### targets -/
abbrev FG := R → Rho → Option Rho
/-- a target, told which slots it writes -/
def tG (C : Fr) (ws : List Nat) (g : FG) : TG := fun v σ H Q => ∃ ρ τ an x ρ', AllD τ ∧ SD C σ H ρ ((v, x) :: τ) an ∧ g x ρ = some ρ' ∧ ∀ σ' H', σ'.length = σ.length → (∀ j, j ∉ ws → σ'[j]? = σ[j]?) → SD C σ' H' ρ' τ an → Q σ' H'
def tGs (C : Fr) (ws : List Nat) (g : List D → Rho → Option Rho) : TGs := fun vs σ H Q => ∃ ρ τ an xs ρ', AllD τ ∧ vs.length = xs.length ∧ SD C σ H ρ (tz vs xs ++ τ) an ∧ g xs ρ = some ρ' ∧ ∀ σ' H', σ'.length = σ.length → (∀ j, j ∉ ws → σ'[j]? = σ[j]?) → SD C σ' H' ρ' τ an → Q σ' H'
theorem _root_.L2.PG.dl {X : Cx} {e : Expr} {t t' : TG} (h : PG X e t) (k : ∀ v σ H Q, t' v σ H Q → t v σ H Q) : PG X e t' := ⟨fun pins s σ H v u Q I r q => h.run pins s σ H v u Q I r (k v σ H Q q)⟩
theorem _root_.L2.PGs.dl {X : Cx} {e : List Expr} {t t' : TGs} (h : PGs X e t) (k : ∀ v σ H Q, t' v σ H Q → t v σ H Q) : PGs X e t' := ⟨fun pins s σ H v u Q I r q => h.run pins s σ H v u Q I r (k v σ H Q q)⟩
def put (i : Nat) (r : R) (ρ : Rho) : Option Rho := match r with
  | .d x => if i < ρ.length then some (ρ.set i (some (.d x))) else none
  | _ => none
theorem dg_name {i : Nat} {n : Str} {pos : Pos} (hN : X.N.Nodup) (hi : X.N[i]? = some n) (hx : Loc X.env.scope n) (hf : X.fn n = true ∨ X.env.scope.names.lookup n = some .local := by first | exact .inl rfl | exact .inr rfl | assumption) : PG X (.Name n pos) (tG C [i] (put i)) :=
  (pg_name hN hi hx hf).dl fun v σ H Q h => by
    obtain ⟨ρ, τ, an, x, ρ', ad, S, e, q⟩ := h
    unfold put at e
    split at e
    · split at e
      · rename_i hr
        cases e
        exact q _ H (by simp) (fun j hj => by rw [List.getElem?_set_ne (fun z => hj (by simp [z]))]) (S.store ad hr)
      · cases e
    · cases e
def gN : List D → Rho → Option Rho
  | [], ρ => some ρ
  | _, _ => none
def gC (g : FG) (gs : List D → Rho → Option Rho) : List D → Rho → Option Rho
  | x :: xs, ρ => (g (.d x) ρ).bind fun ρ1 => gs xs ρ1
  | [], _ => none
theorem dgs_nil : PGs X [] (tGs C [] gN) := pgs_nil.dl fun vs σ H Q h => by
  obtain ⟨ρ, τ, an, xs, ρ', ad, hl, S, e, q⟩ := h
  unfold gN at e
  split at e
  · cases e
    have ev : vs = [] := List.length_eq_zero_iff.mp hl
    subst ev
    exact ⟨rfl, q σ H rfl (fun _ _ => rfl) S⟩
  · cases e
theorem dgs_cons {e : Expr} {es : List Expr} {w1 w2 : List Nat} {g : FG} {gs : List D → Rho → Option Rho} (h1 : PG X e (tG C w1 g)) (h2 : PGs X es (tGs C w2 gs))
    (hs : (assignEach (e :: es) X.env).map (·.2) = assign e X.env :: (assignEach es X.env).map (·.2) := by rfl) : PGs X (e :: es) (tGs C (w1 ++ w2) (gC g gs)) := (pgs_cons h1 h2 hs).dl fun vs σ H Q h => by
  obtain ⟨ρ, τ, an, xs, ρ', ad, hl, S, e, q⟩ := h
  cases xs with
  | nil => cases e
  | cons x xs =>
    cases vs with
    | nil => simp at hl
    | cons v vs =>
      unfold gC at e
      cases e1 : g (.d x) ρ with
      | none => simp [e1] at e
      | some ρ1 =>
        simp only [e1, Option.bind_some] at e
        refine ⟨v, vs, rfl, ρ, tz vs xs ++ τ, an, .d x, ρ1, AllD.tz.app ad, S, e1, fun σ1 H1 l1 k1 S1 => ?_⟩
        refine ⟨ρ1, τ, an, xs, ρ', ad, by simpa using hl, S1, e, fun σ2 H2 l2 k2 S2 => q σ2 H2 (l2.trans l1) (fun j hj => ?_) S2⟩
        rw [k2 j fun z => hj (List.mem_append_right _ z), k1 j fun z => hj (List.mem_append_left _ z)]
def gT (n : Nat) (gs : List D → Rho → Option Rho) : FG := fun x ρ => match x with
  | .d (.tuple xs) => if xs.length = n then gs xs ρ else none
  | .w xs => if xs.length = n then gs xs ρ else none
  | _ => none
theorem dg_tup {es : List Expr} {k n : Nat} {w : List Nat} {gs : List D → Rho → Option Rho} {pos : Pos} (hK : C.K = X.K) (hc : X.calm = true) (h : PGs X es (tGs C w gs))
    (hn : (assignEach es X.env).length = n := by rfl) (hst : (assignEach es X.env).findIdx? (·.1) = none := by rfl) : PG X (.Tuple es k pos) (tG C w (gT n gs)) := (pg_tup hc h hn hst).dl fun v σ H Q h => by
  obtain ⟨ρ, τ, an, x, ρ', ad, S, e, q⟩ := h
  unfold gT at e
  split at e
  · rename_i xs
    split at e
    · rename_i hl
      obtain ⟨a, vs, rfl, t1, l1, S1⟩ := S.itemsT List.mem_cons_self (xs := xs) rfl
      refine ⟨a, vs, rfl, t1.sq, by omega, ρ, τ, an, xs, ρ', ad, l1, S1.sub fun p hp => ?_, e, q⟩
      rcases List.mem_append.mp hp with hp | hp
      · exact List.mem_append_left _ hp
      · exact List.mem_append_right _ (List.mem_cons_of_mem _ hp)
    · cases e
  · rename_i xs
    split at e
    · rename_i hl
      obtain ⟨fp, s⟩ := S
      obtain ⟨a, vs, h1, h2, h3⟩ := s.tmp _ List.mem_cons_self
      have h1 : v = .ref a := h1
      subst h1
      have t1 := (msk_le _ _).sqt h2
      rw [hK] at t1
      refine ⟨a, vs, rfl, t1, by rw [h3.1]; exact hl, ρ, τ, an, xs, ρ', ad, h3.1, ⟨fp, s.tmps fun p hp => ?_⟩, e, q⟩
      rcases List.mem_append.mp hp with hp | hp
      · obtain ⟨i, w, y, a, b, rfl⟩ := of_tz hp
        exact h3.2 i w y a b
      · exact s.tmp p (List.mem_cons_of_mem _ hp)
    · cases e
  · cases e

/-! ### assignments -/
def sAsg (f : FE) (g : FG) : FS := fun ρ => (f ρ).bind fun p => (out1 p.1 p.2).bind fun q => (g (.d q.1) q.2).map Out.next
theorem imp_asg {f : FE} {g : FG} {ws : List Nat} (h : tS C (sAsg f g) G σ H) : tAsg (tE C f) (tG C ws g) G σ H := by
  obtain ⟨ρ, τ, an, o, ad, S, e, k⟩ := h
  unfold sAsg at e
  cases e1 : f ρ with
  | none => simp [e1] at e
  | some p =>
    obtain ⟨r, ρ1⟩ := p
    cases e2 : out1 r ρ1 with
    | none => simp [e1, e2] at e
    | some q =>
      obtain ⟨x, ρ2⟩ := q
      cases e3 : g (.d x) ρ2 with
      | none => simp [e1, e2, e3] at e
      | some ρ3 =>
        simp [e1, e2, e3] at e
        subst e
        exact ⟨ρ, τ, an, r, ρ1, S, e1, fun v H' S' => ⟨ρ2, τ, an, .d x, ρ3, ad, out1_ok S' e2, e3, fun σ' H2 _ _ S2 => k σ' H2 S2⟩⟩
theorem ds_asg {tg e : Expr} {f : FE} {ws : List Nat} {g : FG} {pos : Pos} (he : PE X e (tE C f)) (hg : PG X tg (tG C ws g)) (hs : swapsWithSole [tg] e pos.line X.env = pure false := by rfl) (hw : swappedStores [tg] e X.env = pure none := by rfl)
    (h1 : (assignEach [tg] X.env).map (·.2) = [assign tg X.env] := by rfl) : PS X (.Assign [tg] e pos) (tS C (sAsg f g)) := (ps_asg he hg hs hw h1).dl fun _ _ _ h => imp_asg h
/-- name = e -/
theorem ds_set {i : Nat} {n : Str} {e : Expr} {f : FE} {pos pos' : Pos} (hN : X.N.Nodup) (hi : X.N[i]? = some n) (hx : Loc X.env.scope n) (he : PE X e (tE C f)) (hs : swapsWith e (some (.Name n pos')) pos.line X.env = pure false := by rfl) (hf : X.fn n = true ∨ X.env.scope.names.lookup n = some .local := by first | exact .inl rfl | exact .inr rfl | assumption) :
    PS X (.Assign [.Name n pos'] e pos) (tS C (sAsg f (put i))) := (ps_set hN hi hx he hs hf).dl fun G σ H h => by
  obtain ⟨ρ, τ, an, o, ad, S, e, k⟩ := h
  unfold sAsg at e
  cases e1 : f ρ with
  | none => simp [e1] at e
  | some p =>
    obtain ⟨r, ρ1⟩ := p
    cases e2 : out1 r ρ1 with
    | none => simp [e1, e2] at e
    | some q =>
      obtain ⟨x, ρ2⟩ := q
      cases e3 : put i (.d x) ρ2 with
      | none => simp [e1, e2, e3] at e
      | some ρ3 =>
        simp [e1, e2, e3] at e
        subst e
        refine ⟨ρ, τ, an, r, ρ1, S, e1, fun v H' S' => ?_⟩
        unfold put at e3
        simp only at e3
        split at e3
        · rename_i hr
          cases e3
          exact k _ H' ((out1_ok S' e2).store ad hr)
        · cases e3
/-- name = a new list of one's own -/
def sOwn (i : Nat) (f : FF) : FS := fun ρ => (f ρ).bind fun p => if i < p.2.length then some (.next (p.2.set i (some (.l p.1)))) else none
theorem imp_own {i : Nat} {f : FF} (h : tS C (sOwn i f) G σ H) : tF C f σ H fun v H' => G.nx (σ.set i (some v)) H' := by
  obtain ⟨ρ, τ, an, o, ad, S, e, k⟩ := h
  unfold sOwn at e
  cases e1 : f ρ with
  | none => simp [e1] at e
  | some p =>
    obtain ⟨xs, ρ1⟩ := p
    simp only [e1, Option.bind_some] at e
    split at e
    · rename_i hr
      cases e
      refine ⟨ρ, τ, an, xs, ρ1, S, e1, fun p vs H' hl S' => k _ H' ?_⟩
      have S2 := S'.storeL hl (fun i v x a b => List.mem_append_left _ (mem_tz a b)) (AllD.tz.app ad) hr
      exact S2.sub fun p hp => List.mem_append_right _ hp
    · cases e
theorem ds_own {i : Nat} {n : Str} {e : Expr} {f : FF} {pos pos' : Pos} (hN : X.N.Nodup) (hi : X.N[i]? = some n) (hx : Loc X.env.scope n) (he : PE X e (tF C f)) (hs : swapsWith e (some (.Name n pos')) pos.line X.env = pure false := by rfl) (hf : X.fn n = true ∨ X.env.scope.names.lookup n = some .local := by first | exact .inl rfl | exact .inr rfl | assumption) :
    PS X (.Assign [.Name n pos'] e pos) (tS C (sOwn i f)) := (ps_set hN hi hx he hs hf).dl fun G σ H h => imp_own h

/-! ### an own list grows -/
def ownAt (i : Nat) (ρ : Rho) : Option (List D) := match ρ[i]? with
  | some (some (.l xs)) => some xs
  | _ => none
theorem ownAt_inv {i : Nat} {xs : List D} (h : ownAt i ρ = some xs) : ρ[i]? = some (some (.l xs)) := by
  unfold ownAt at h
  split at h
  · rename_i ys e
    cases h
    exact e
  · cases h
/-- slot i's list is made another -/
theorem SD.relist (S : SD C σ H ρ τ an) {i : Nat} {xs ys : List D} {vs ws : List V} {a : Addr} (e : ρ[i]? = some (some (.l xs))) (hv : σ[i]? = some (some (.ref a))) (hl : ws.length = ys.length) (hm : ∀ (j : Nat) v x, ws[j]? = some v → ys[j]? = some x → (v, .d x) ∈ τ) :
    SD C σ (upd H a (.lst ws)) (ρ.set i (some (.l ys))) τ an := by
  obtain ⟨fp, s⟩ := S
  obtain ⟨v, h1, a', us, h2, h3, h4, h5, h6⟩ := s.bnd i _ e
  rw [hv] at h1
  cases h1
  cases h2
  refine ⟨fp, s.chg hv (fun b o hb q => ?_) (fun b hb => ?_) ⟨_, e⟩ fun m => ⟨a, ws, rfl, h3, h4, upd_same, hl, fun j w y p q => Dn.mono m (s.tmp _ (hm j w y p q))⟩⟩
  · rw [upd_ne (fun z => hb (by rw [h3, z]; exact List.mem_singleton.mpr rfl))]
    exact q
  · rw [h3] at hb
    have := List.mem_singleton.mp hb
    subst this
    exact ⟨_, upd_same, trivial⟩
theorem SD.ownList (S : SD C σ H ρ τ an) {i : Nat} {xs : List D} (e : ρ[i]? = some (some (.l xs))) (hv : σ[i]? = some (some v)) : ∃ a vs, v = .ref a ∧ H a = some (.lst vs) ∧ vs.length = xs.length ∧ SD C σ H ρ (tz vs xs ++ τ) an := by
  obtain ⟨fp, s⟩ := S
  obtain ⟨v', h1, a, vs, h2, h3, h4, h5, h6⟩ := s.bnd i _ e
  rw [hv] at h1
  cases h1
  subst h2
  refine ⟨a, vs, rfl, h5, h6.1, ⟨fp, s.tmps fun p hp => ?_⟩⟩
  rcases List.mem_append.mp hp with hp | hp
  · obtain ⟨i, w, y, a, b, rfl⟩ := of_tz hp
    exact h6.2 i w y a b
  · exact s.tmp p hp
/-- x.append(e) -/
def sApp (i : Nat) (f : FE) : FS := fun ρ => (ownAt i ρ).bind fun _ => (f ρ).bind fun p => (out1 p.1 p.2).bind fun q => (ownAt i q.2).bind fun xs => if xs.length < sizeLine then some (.next (q.2.set i (some (.l (xs ++ [q.1]))))) else none
theorem imp_app {K : PySem.W.Frag} {i : Nat} {f : FE} (h : tS C (sApp i f) G σ H) : tDrop (tBM K "list" rAppend (tVar i) (tCons (tE C f) tNil)) G σ H := by
  obtain ⟨ρ, τ, an, o, ad, S, e, k⟩ := h
  unfold sApp at e
  cases e0 : ownAt i ρ with
  | none => simp [e0] at e
  | some ys =>
    cases e1 : f ρ with
    | none => simp [e0, e1] at e
    | some p =>
      obtain ⟨r, ρ1⟩ := p
      cases e2 : out1 r ρ1 with
      | none => simp [e0, e1, e2] at e
      | some q =>
        obtain ⟨x, ρ2⟩ := q
        cases e3 : ownAt i ρ2 with
        | none => simp [e0, e1, e2, e3] at e
        | some xs =>
          simp only [e0, e1, e2, e3, Option.bind_some] at e
          split at e
          · rename_i hz
            cases e
            obtain ⟨fp, s⟩ := id S
            obtain ⟨v, hv, _⟩ := s.bnd i _ (ownAt_inv e0)
            obtain ⟨a, us, rfl, h1, h2, _⟩ := S.ownList (ownAt_inv e0) hv
            refine ⟨_, hv, Or.inl ⟨rfl, us, Or.inl (Or.inl h1)⟩, ρ, τ, an, r, ρ1, S, e1, fun w H1 S1 => ?_⟩
            have S2 := out1_ok S1 e2
            obtain ⟨a', vs, ea, h3, h4, S3⟩ := S2.ownList (ownAt_inv e3) hv
            cases ea
            refine ⟨a, vs, w, rfl, rfl, h3, by omega, k σ _ ?_⟩
            have S4 := S3.relist (ws := vs ++ [w]) (ys := xs ++ [x]) (vs := vs) (ownAt_inv e3) hv (by simp [h4]) fun j v y a b => ?_
            · exact S4.sub fun p hp => List.mem_append_right _ (List.mem_cons_of_mem _ hp)
            · by_cases hj : j < vs.length
              · rw [List.getElem?_append_left hj] at a
                rw [List.getElem?_append_left (by omega)] at b
                exact List.mem_append_left _ (mem_tz a b)
              · rw [List.getElem?_append_right (by omega)] at a
                rw [List.getElem?_append_right (by omega), ← h4] at b
                have hj2 : j - vs.length = 0 := by
                  have := (List.getElem?_eq_some_iff.mp a).1
                  simp at this
                  omega
                rw [hj2] at a b
                simp at a b
                subst a
                subst b
                exact List.mem_append_right _ List.mem_cons_self
          · cases e
theorem ds_app {i : Nat} {n : Str} {e : Expr} {f : FE} {p apos cpos pos : Pos} (hn : PE X (.Name n p) (tVar i)) (he : PE X e (tE C f)) (hsw : swapsWith (.Call (.Attribute (.Name n p) "append" apos) [e] [] cpos) none pos.line X.env = pure false := by rfl)
    (hbase : attributeBase (.Name n p) "append" X.env (eval (.Name n p) X.env) = eval (.Name n p) X.env := by rfl)
    (hfew : ((backTo cpos (starEach [e] X.env)).all (fun x => !x.1) && (backToKw cpos (keywordEach [] X.env)).all (fun x => x.1.isSome) && decide (([e] : List Expr).length + ([] : List Keyword).length + (if ([] : List Keyword).isEmpty then 0 else 1) < 30)) = true := by rfl)
    (hline : (apos.endLine == cpos.line) = true := by rfl) (hs : starEach [e] X.env = (false, eval e X.env) :: starEach [] X.env := by rfl) (hplain : (backTo cpos (starEach [] X.env)).any (·.1) = false := by rfl) :
    PS X (.Expr (.Call (.Attribute (.Name n p) "append" apos) [e] [] cpos) pos) (tS C (sApp i f)) :=
  (ps_expr (pe_bm PySem.F.plainAttrs_list PySem.F.slot_list_append PySem.F.type_list_append mt_append hn (pa_cons he pa_nil hs) hbase hfew hline hs hplain) hsw).dl fun _ _ _ h => imp_app h
/-- x.extend(e) -/
def sExt (i : Nat) (f : FE) : FS := fun ρ => (ownAt i ρ).bind fun _ => (f ρ).bind fun p => match p.1 with
  | .d (.list zs) => (ownAt i p.2).bind fun xs => if xs.length + zs.length ≤ sizeLine then some (.next (p.2.set i (some (.l (xs ++ zs))))) else none
  | _ => none
theorem imp_ext {K : PySem.W.Frag} {i : Nat} {f : FE} (h : tS C (sExt i f) G σ H) : tDrop (tBM K "list" rExtend (tVar i) (tCons (tE C f) tNil)) G σ H := by
  obtain ⟨ρ, τ, an, o, ad, S, e, k⟩ := h
  unfold sExt at e
  cases e0 : ownAt i ρ with
  | none => simp [e0] at e
  | some ys =>
    cases e1 : f ρ with
    | none => simp [e0, e1] at e
    | some p =>
      obtain ⟨r, ρ1⟩ := p
      simp only [e0, e1, Option.bind_some] at e
      split at e
      · rename_i zs
        cases e3 : ownAt i ρ1 with
        | none => simp [e3] at e
        | some xs =>
          simp only [e3, Option.bind_some] at e
          split at e
          · rename_i hz
            cases e
            obtain ⟨fp, s⟩ := id S
            obtain ⟨v, hv, _⟩ := s.bnd i _ (ownAt_inv e0)
            obtain ⟨a, us, rfl, h1, h2, _⟩ := S.ownList (ownAt_inv e0) hv
            refine ⟨_, hv, Or.inl ⟨rfl, us, Or.inl (Or.inl h1)⟩, ρ, τ, an, _, ρ1, S, e1, fun w H1 S1 => ?_⟩
            obtain ⟨b, ws, rfl, g1, g2, S2⟩ := S1.items List.mem_cons_self (xs := zs) rfl
            obtain ⟨a', vs, ea, h3, h4, S3⟩ := S2.ownList (ownAt_inv e3) hv
            cases ea
            refine ⟨a, b, vs, ws, rfl, rfl, h3, g1, by omega, k σ _ ?_⟩
            have S4 := S3.relist (ws := vs ++ ws) (ys := xs ++ zs) (vs := vs) (ownAt_inv e3) hv (by simp [h4, g2]) fun j v y a b => ?_
            · exact S4.sub fun p hp => List.mem_append_right _ (List.mem_append_right _ (List.mem_cons_of_mem _ hp))
            · rcases app_at h4 a b with h | h
              · exact List.mem_append_left _ h
              · exact List.mem_append_right _ (List.mem_append_left _ h)
          · cases e
      · cases e
theorem ds_ext {i : Nat} {n : Str} {e : Expr} {f : FE} {p apos cpos pos : Pos} (hn : PE X (.Name n p) (tVar i)) (he : PE X e (tE C f)) (hsw : swapsWith (.Call (.Attribute (.Name n p) "extend" apos) [e] [] cpos) none pos.line X.env = pure false := by rfl)
    (hbase : attributeBase (.Name n p) "extend" X.env (eval (.Name n p) X.env) = eval (.Name n p) X.env := by rfl)
    (hfew : ((backTo cpos (starEach [e] X.env)).all (fun x => !x.1) && (backToKw cpos (keywordEach [] X.env)).all (fun x => x.1.isSome) && decide (([e] : List Expr).length + ([] : List Keyword).length + (if ([] : List Keyword).isEmpty then 0 else 1) < 30)) = true := by rfl)
    (hline : (apos.endLine == cpos.line) = true := by rfl) (hs : starEach [e] X.env = (false, eval e X.env) :: starEach [] X.env := by rfl) (hplain : (backTo cpos (starEach [] X.env)).any (·.1) = false := by rfl) :
    PS X (.Expr (.Call (.Attribute (.Name n p) "extend" apos) [e] [] cpos) pos) (tS C (sExt i f)) :=
  (ps_expr (pe_bm PySem.F.plainAttrs_list PySem.F.slot_list_extend PySem.F.type_list_extend mt_extend hn (pa_cons he pa_nil hs) hbase hfew hline hs hplain) hsw).dl fun _ _ _ h => imp_ext h
/-- x.pop(e) -/
def ePop (i : Nat) (f : FE) : FE := fun ρ => (ownAt i ρ).bind fun _ => (f ρ).bind fun p => match p.1 with
  | .d (.int k) => (ownAt i p.2).bind fun xs => if 0 ≤ k ∧ k < xs.length ∧ k < 1000000 then (xs[k.toNat]?).map fun x => (.d x, p.2.set i (some (.l (xs.eraseIdx k.toNat)))) else none
  | _ => none
theorem erase_at {vs : List V} {xs : List D} (n : Nat) {j : Nat} {v : V} {x : D} (a : (vs.eraseIdx n)[j]? = some v) (b : (xs.eraseIdx n)[j]? = some x) : (v, R.d x) ∈ tz vs xs := by
  rw [List.getElem?_eraseIdx] at a b
  split at a
  · rename_i h
    rw [if_pos h] at b
    exact mem_tz a b
  · rename_i h
    rw [if_neg h] at b
    exact mem_tz a b
theorem imp_pop {K : PySem.W.Frag} {i : Nat} {f : FE} {Q : VK} (h : tE C (ePop i f) σ H Q) : tBM K "list" rPopAt (tVar i) (tCons (tE C f) tNil) σ H Q := by
  obtain ⟨ρ, τ, an, r0, ρ0, S, e, k⟩ := h
  unfold ePop at e
  cases e0 : ownAt i ρ with
  | none => simp [e0] at e
  | some ys =>
    cases e1 : f ρ with
    | none => simp [e0, e1] at e
    | some p =>
      obtain ⟨r, ρ1⟩ := p
      simp only [e0, e1, Option.bind_some] at e
      split at e
      · rename_i n
        cases e3 : ownAt i ρ1 with
        | none => simp [e3] at e
        | some xs =>
          simp only [e3, Option.bind_some] at e
          split at e
          · rename_i hz
            cases e4 : xs[n.toNat]? with
            | none => simp [e4] at e
            | some x =>
              simp [e4] at e
              obtain ⟨rfl, rfl⟩ := e
              obtain ⟨fp, s⟩ := id S
              obtain ⟨v, hv, _⟩ := s.bnd i _ (ownAt_inv e0)
              obtain ⟨a, us, rfl, h1, h2, _⟩ := S.ownList (ownAt_inv e0) hv
              refine ⟨_, hv, Or.inl ⟨rfl, us, Or.inl (Or.inl h1)⟩, ρ, τ, an, _, ρ1, S, e1, fun w H1 S1 => ?_⟩
              have ew := S1.here.int_inv
              subst ew
              obtain ⟨a', vs, ea, h3, h4, S3⟩ := S1.ownList (ownAt_inv e3) hv
              cases ea
              have hj : n.toNat < vs.length := by omega
              refine ⟨a, vs, n, n.toNat, vs[n.toNat], rfl, rfl, h3, by omega, by omega, ?_, by simp [hj], k _ _ ?_⟩
              · exact PySem.StrLaws.seqIndex_nonneg hz.1 (by omega)
              · have S4 := S3.relist (ws := vs.eraseIdx n.toNat) (ys := xs.eraseIdx n.toNat) (vs := vs) (ownAt_inv e3) hv (by rw [List.length_eraseIdx, List.length_eraseIdx, h4]) fun j v y a b => List.mem_append_left _ (erase_at _ a b)
                exact (S4.part (v := vs[n.toNat]) (x := x) (List.mem_append_left _ (mem_tz (i := n.toNat) (by simp [hj]) e4)) fun _ h => h).keepN fun p hp => List.mem_append_right _ (List.mem_cons_of_mem _ hp)
          · cases e
      · cases e
theorem de_pop {i : Nat} {n : Str} {e : Expr} {f : FE} {p apos cpos : Pos} (hn : PE X (.Name n p) (tVar i)) (he : PE X e (tE C f))
    (hbase : attributeBase (.Name n p) "pop" X.env (eval (.Name n p) X.env) = eval (.Name n p) X.env := by rfl)
    (hfew : ((backTo cpos (starEach [e] X.env)).all (fun x => !x.1) && (backToKw cpos (keywordEach [] X.env)).all (fun x => x.1.isSome) && decide (([e] : List Expr).length + ([] : List Keyword).length + (if ([] : List Keyword).isEmpty then 0 else 1) < 30)) = true := by rfl)
    (hline : (apos.endLine == cpos.line) = true := by rfl) (hs : starEach [e] X.env = (false, eval e X.env) :: starEach [] X.env := by rfl) (hplain : (backTo cpos (starEach [] X.env)).any (·.1) = false := by rfl) :
    PE X (.Call (.Attribute (.Name n p) "pop" apos) [e] [] cpos) (tE C (ePop i f)) :=
  (pe_bm PySem.F.plainAttrs_list PySem.F.slot_list_pop PySem.F.type_list_pop mt_popAt hn (pa_cons he pa_nil hs) hbase hfew hline hs hplain).dl fun _ _ _ h => imp_pop h
end
end DL
namespace DL
open PySem L2

/-- an iterator that yields these, while the temporaries τi stand -/
def ItD (C : Fr) (J : It) (rs : List R) (τi : List (V × R)) : Prop := ∀ σ H ρ τ an, SD C σ H ρ τ an → (∀ p ∈ τi, p ∈ τ) → ∀ i,
  (∀ r, rs[i]? = some r → J.go i H ∧ ∀ x H', J.yld i H x H' → SD C σ H' ρ ((x, r) :: τ) an) ∧ (i = rs.length → J.stop i H)
abbrev FI := Rho → Option (List R × Rho)
def tI (C : Fr) (f : FI) : TI := fun σ H Rr => ∃ ρ τ an rs ρ', SD C σ H ρ τ an ∧ f ρ = some (rs, ρ') ∧ ∀ J H' τi, AllD τi → SD C σ H' ρ' (τi ++ τ) an → ItD C J rs τi → Rr J H'
theorem _root_.L2.PI.dl {X : Cx} {tg e : Expr} {t t' : TI} (h : PI X tg e t) (k : ∀ σ H Q, t' σ H Q → t σ H Q) : PI X tg e t' := ⟨fun pins s σ H Q I q => h.run pins s σ H Q I (k σ H Q q)⟩

section
variable {C : Fr} {X : Cx} {σ : L2.St} {H : Hp} {ρ ρ' : Rho} {τ : List (V × R)} {an : List (Addr × HO)} {v : V} {r : R} {x y z : D} {G : Ends}

/-! ### for -/
def forD (g : FG) (f : FS) : List R → Rho → Option Out
  | [], ρ => some (.next ρ)
  | r :: rs, ρ => (g r ρ).bind fun ρ1 => (f ρ1).bind fun o => match o with
    | .next ρ2 => forD g f rs ρ2
    | .cont ρ2 => forD g f rs ρ2
    | .brk ρ2 => some (.next ρ2)
    | .ret d ρ2 => some (.ret d ρ2)
    | .exc x => some (.exc x)
def sFor (fi : FI) (g : FG) (f : FS) : FS := fun ρ => (fi ρ).bind fun p => forD g f p.1 p.2
theorem imp_for {fi : FI} {g : FG} {f : FS} {ws : List Nat} (h : tS C (sFor fi g f) G σ H) : tFor (tI C fi) (tG C ws g) (tS C f) G σ H := by
  obtain ⟨ρ, τ, an, o, ad, S, e, k⟩ := h
  unfold sFor at e
  cases e1 : fi ρ with
  | none => simp [e1] at e
  | some p =>
    obtain ⟨rs, ρ1⟩ := p
    simp only [e1, Option.bind_some] at e
    refine ⟨ρ, τ, an, rs, ρ1, S, e1, fun J H1 τi adi S1 it => ?_⟩
    refine ⟨fun i m σ H => m = rs.length - i ∧ i ≤ rs.length ∧ ∃ ρ', forD g f (rs.drop i) ρ' = some o ∧ SD C σ H ρ' (τi ++ τ) an, ⟨_, rfl, Nat.zero_le _, ρ1, e, S1⟩, ?_⟩
    rintro i m σ2 H2 ⟨rfl, hi, ρ2, e2, S2⟩
    have It2 := it σ2 H2 ρ2 _ an S2 (fun p hp => List.mem_append_left _ hp) i
    by_cases hlt : i < rs.length
    · refine Or.inr ?_
      obtain ⟨go, yld⟩ := It2.1 rs[i] (by simp [hlt])
      rw [List.drop_eq_getElem_cons hlt] at e2
      unfold forD at e2
      cases e3 : g rs[i] ρ2 with
      | none => simp [e3] at e2
      | some ρ3 =>
        cases e4 : f ρ3 with
        | none => simp [e3, e4] at e2
        | some o1 =>
          simp only [e3, e4, Option.bind_some] at e2
          refine ⟨go, fun σ' H' => ∃ ρ', forD g f (rs.drop (i + 1)) ρ' = some o ∧ SD C σ' H' ρ' (τi ++ τ) an, fun σ' H' q => ⟨rs.length - (i + 1), by omega, rfl, hlt, q⟩, fun x H' hy => ?_⟩
          refine ⟨ρ2, τi ++ τ, an, rs[i], ρ3, adi.app ad, yld x H' hy, e3, fun σ' H'' _ _ S3 => ⟨ρ3, τi ++ τ, an, o1, adi.app ad, S3, e4, ?_⟩⟩
          cases o1 with
          | next ρ4 => exact fun σ' H' S' => ⟨ρ4, e2, S'⟩
          | cont ρ4 => exact fun σ' H' S' => ⟨ρ4, e2, S'⟩
          | brk ρ4 =>
            cases e2
            exact fun σ' H' S' => k σ' H' (S'.sub fun p hp => List.mem_append_right _ hp)
          | ret d ρ4 =>
            cases e2
            exact fun v σ' H' S' => k v σ' H' (S'.keepN fun p hp => List.mem_append_right _ hp)
          | exc x =>
            cases e2
            exact k
    · refine Or.inl ?_
      have ei : i = rs.length := by omega
      subst ei
      rw [List.drop_length] at e2
      cases e2
      exact ⟨It2.2 rfl, k σ2 H2 (S2.sub fun p hp => List.mem_append_right _ hp)⟩
theorem ds_for {tg iter : Expr} {body : List Stmt} {fi : FI} {g : FG} {ws : List Nat} {f : FS} {pos : Pos} (hp : PassesOwn (model X.prog X.w) X.A X.env X.xe) (hc : X.calm = true) (hi : PI X tg iter (tI C fi)) (hg : PG X tg (tG C ws g)) (hb : PSs X body (tS C f))
    (hs : ∀ x, foldedSetIterable iter X.env x = pure x := by intro _; rfl) : PS X (.For tg iter body [] pos) (tS C (sFor fi g f)) := (ps_for hp hc hi hg hb hs).dl fun _ _ _ h => imp_for h

/-! ### while -/
def whileD (c : FT) (f : FS) : Nat → Rho → Option Out
  | 0, _ => none
  | n + 1, ρ => (c ρ).bind fun p => if p.1 = true then (f p.2).bind fun o => match o with
    | .next ρ2 => whileD c f n ρ2
    | .cont ρ2 => whileD c f n ρ2
    | .brk ρ2 => some (.next ρ2)
    | .ret d ρ2 => some (.ret d ρ2)
    | .exc x => some (.exc x) else some (.next p.2)
theorem imp_while {c : FT} {f : FS} {n : Nat} (h : tS C (whileD c f n) G σ H) : tWhile (tT C c) (tS C f) G σ H := by
  obtain ⟨ρ, τ, an, o, ad, S, e, k⟩ := h
  refine ⟨fun m σ H => ∃ ρ', whileD c f m ρ' = some o ∧ SD C σ H ρ' τ an, ⟨n, ρ, e, S⟩, ?_⟩
  rintro m σ2 H2 ⟨ρ2, e2, S2⟩
  cases m with
  | zero => cases e2
  | succ m =>
    unfold whileD at e2
    cases e3 : c ρ2 with
    | none => simp [e3] at e2
    | some p =>
      obtain ⟨b, ρ3⟩ := p
      simp only [e3, Option.bind_some] at e2
      refine ⟨ρ2, τ, an, b, ρ3, S2, e3, fun H3 S3 => ?_⟩
      cases b with
      | false =>
        rw [if_neg Bool.false_ne_true] at e2
        cases e2
        show G.nx σ2 H3
        exact k σ2 H3 S3
      | true =>
        rw [if_pos rfl] at e2
        cases e4 : f ρ3 with
        | none => simp [e4] at e2
        | some o1 =>
          simp only [e4, Option.bind_some] at e2
          show ∃ N : L2.St → Hp → Prop, _ ∧ _
          refine ⟨fun σ' H' => ∃ ρ', whileD c f m ρ' = some o ∧ SD C σ' H' ρ' τ an, fun σ' H' q => ⟨m, Nat.lt_succ_self _, q⟩, ρ3, τ, an, o1, ad, S3, e4, ?_⟩
          cases o1 with
          | next ρ4 => exact fun σ' H' S' => ⟨ρ4, e2, S'⟩
          | cont ρ4 => exact fun σ' H' S' => ⟨ρ4, e2, S'⟩
          | brk ρ4 =>
            cases e2
            exact fun σ' H' S' => k σ' H' S'
          | ret d ρ4 =>
            cases e2
            exact fun v σ' H' S' => k v σ' H' S'
          | exc x =>
            cases e2
            exact k
theorem ds_while (n : Nat) {c : Expr} {body : List Stmt} {fc : FT} {f : FS} {pos : Pos} (hp : PassesOwn (model X.prog X.w) X.A X.env X.xe) (hc : PT X c (tT C fc)) (hb : PSs X body (tS C f)) : PS X (.While c body [] pos) (tS C (whileD fc f n)) :=
  (ps_while hp hc hb).dl fun _ _ _ h => imp_while h

/-! ### a comprehension's names are forgotten, and back -/
def wpR (ρ : Rho) : List Nat → Rho
  | [] => ρ
  | v :: vs => (wpR ρ vs).set v none
def okW (ρ : Rho) (vs : List Nat) : Bool := vs.all fun v => match ρ[v]? with
  | some (some (.d _)) => true
  | some (some _) => false
  | _ => true
def rstR (ρ0 ρ : Rho) : List Nat → Rho
  | [] => ρ
  | v :: vs => (rstR ρ0 ρ vs).set v ((ρ0[v]?).getD none)
theorem wpR_len (ρ : Rho) : ∀ vs, (wpR ρ vs).length = ρ.length
  | [] => rfl
  | v :: vs => by unfold wpR; rw [List.length_set, wpR_len ρ vs]
theorem rstR_len (ρ0 ρ : Rho) : ∀ vs, (rstR ρ0 ρ vs).length = ρ.length
  | [] => rfl
  | v :: vs => by unfold rstR; rw [List.length_set, rstR_len ρ0 ρ vs]
theorem wpR_get (ρ : Rho) (j : Nat) : ∀ vs : List Nat, (j ∉ vs → (wpR ρ vs)[j]? = ρ[j]?) ∧ (j ∈ vs → j < ρ.length → (wpR ρ vs)[j]? = some none)
  | [] => ⟨fun _ => rfl, fun h => by cases h⟩
  | v :: vs => by
    obtain ⟨h1, h2⟩ := wpR_get ρ j vs
    refine ⟨fun h => ?_, fun h hl => ?_⟩
    · unfold wpR
      rw [List.getElem?_set_ne (fun e => h (by simp [e]))]
      exact h1 fun z => h (List.mem_cons_of_mem _ z)
    · unfold wpR
      by_cases e : v = j
      · subst e
        rw [List.getElem?_set_self (by rw [wpR_len]; exact hl)]
      · rw [List.getElem?_set_ne e]
        rcases List.mem_cons.mp h with z | z
        · exact absurd z.symm e
        · exact h2 z hl
theorem wipe_get (σ : L2.St) (j : Nat) : ∀ vs : List Nat, (j ∉ vs → (wipe σ vs)[j]? = σ[j]?) ∧ (j ∈ vs → j < σ.length → (wipe σ vs)[j]? = some none)
  | [] => ⟨fun _ => rfl, fun h => by cases h⟩
  | v :: vs => by
    obtain ⟨h1, h2⟩ := wipe_get σ j vs
    refine ⟨fun h => ?_, fun h hl => ?_⟩
    · unfold wipe
      rw [List.getElem?_set_ne (fun e => h (by simp [e]))]
      exact h1 fun z => h (List.mem_cons_of_mem _ z)
    · unfold wipe
      by_cases e : v = j
      · subst e
        rw [List.getElem?_set_self (by rw [wipe_length]; exact hl)]
      · rw [List.getElem?_set_ne e]
        rcases List.mem_cons.mp h with z | z
        · exact absurd z.symm e
        · exact h2 z hl
theorem rstR_get (ρ0 ρ : Rho) (j : Nat) : ∀ vs : List Nat, (j ∉ vs → (rstR ρ0 ρ vs)[j]? = ρ[j]?) ∧ (j ∈ vs → j < ρ.length → (rstR ρ0 ρ vs)[j]? = some ((ρ0[j]?).getD none))
  | [] => ⟨fun _ => rfl, fun h => by cases h⟩
  | v :: vs => by
    obtain ⟨h1, h2⟩ := rstR_get ρ0 ρ j vs
    refine ⟨fun h => ?_, fun h hl => ?_⟩
    · unfold rstR
      rw [List.getElem?_set_ne (fun e => h (by simp [e]))]
      exact h1 fun z => h (List.mem_cons_of_mem _ z)
    · unfold rstR
      by_cases e : v = j
      · subst e
        rw [List.getElem?_set_self (by rw [rstR_len]; exact hl)]
      · rw [List.getElem?_set_ne e]
        rcases List.mem_cons.mp h with z | z
        · exact absurd z.symm e
        · exact h2 z hl
theorem wipe_eq {σ σ' : L2.St} {vs : List Nat} (hl : σ'.length = σ.length) (h : ∀ j, j ∉ vs → σ'[j]? = σ[j]?) : wipe σ' vs = wipe σ vs := by
  refine List.ext_getElem? fun j => ?_
  by_cases hj : j ∈ vs
  · by_cases hlt : j < σ.length
    · rw [(wipe_get σ' j vs).2 hj (by omega), (wipe_get σ j vs).2 hj hlt]
    · rw [List.getElem?_eq_none (by rw [wipe_length]; omega), List.getElem?_eq_none (by rw [wipe_length]; omega)]
  · rw [(wipe_get σ' j vs).1 hj, (wipe_get σ j vs).1 hj]
    exact h j hj
theorem okW_at {vs : List Nat} (h : okW ρ vs = true) {j : Nat} (hj : j ∈ vs) {b : B} (e : ρ[j]? = some (some b)) : ∃ x, b = .d x := by
  have q := List.all_eq_true.mp h j hj
  rw [e] at q
  cases b with
  | d x => exact ⟨x, rfl⟩
  | r _ => cases q
  | l _ => cases q
  | m _ => cases q
  | t _ _ => cases q
  | s _ => cases q
theorem SDf.fp0 {fp : Nat → List Addr} (s : SDf C fp σ H ρ τ an) {vs : List Nat} (h : okW ρ vs = true) {j : Nat} (hj : j ∈ vs) : fp j = [] := by
  by_cases q : ∃ b, ρ[j]? = some (some b)
  · obtain ⟨b, e⟩ := q
    obtain ⟨x, rfl⟩ := okW_at h hj e
    obtain ⟨v, _, h1, _⟩ := s.bnd j _ e
    exact h1
  · exact s.emp j fun b e => q ⟨b, e⟩
theorem SDf.wiped {fp : Nat → List Addr} (s : SDf C fp σ H ρ τ an) (ad : AllD τ) {vs : List Nat} (h : okW ρ vs = true) : SDf C fp (wipe σ vs) H (wpR ρ vs) τ an := by
  refine ⟨s.tab, by rw [wpR_len, wipe_length]; exact s.len, s.ext, s.vol, s.inj, s.ani, s.and, s.own, s.ano, s.frn, fun j b e => ?_, fun j e => ?_, fun p hp => (s.tmp p hp).slots (ad p hp)⟩
  · by_cases hj : j ∈ vs
    · have hl : j < ρ.length := by
        have := (List.getElem?_eq_some_iff.mp e).1
        rw [wpR_len] at this
        exact this
      rw [(wpR_get ρ j vs).2 hj hl] at e
      cases e
    · rw [(wpR_get ρ j vs).1 hj] at e
      rw [(wipe_get σ j vs).1 hj]
      exact s.bnd j b e
  · by_cases hj : j ∈ vs
    · exact s.fp0 h hj
    · rw [(wpR_get ρ j vs).1 hj] at e
      exact s.emp j e
theorem SD.wiped (S : SD C σ H ρ τ an) (ad : AllD τ) {vs : List Nat} (h : okW ρ vs = true) : SD C (wipe σ vs) H (wpR ρ vs) τ an := let ⟨fp, s⟩ := S; ⟨fp, s.wiped ad h⟩
/-- data among temporaries -/
def isDt (p : V × R) : Bool := match p.2 with
  | .own _ => false
  | _ => true
theorem isDt_all (τ : List (V × R)) : AllD (τ.filter isDt) := fun p hp i e => by
  have q := (List.mem_filter.mp hp).2
  unfold isDt at q
  rw [e] at q
  cases q
/-- what is shadowed, as temporaries -/
def shad (σ : L2.St) (ρ : Rho) : List Nat → List (V × R)
  | [] => []
  | v :: vs => match σ[v]?, ρ[v]? with
    | some (some w), some (some (.d x)) => (w, .d x) :: shad σ ρ vs
    | _, _ => shad σ ρ vs
theorem shad_all (σ : L2.St) (ρ : Rho) : ∀ vs, AllD (shad σ ρ vs)
  | [] => AllD.nil
  | v :: vs => by
    unfold shad
    split
    · exact AllD.cons (shad_all σ ρ vs)
    · exact shad_all σ ρ vs
theorem shad_mem {σ : L2.St} {ρ : Rho} {j : Nat} {w : V} {x : D} (h1 : σ[j]? = some (some w)) (h2 : ρ[j]? = some (some (.d x))) : ∀ {vs : List Nat}, j ∈ vs → (w, R.d x) ∈ shad σ ρ vs
  | [], h => by cases h
  | v :: vs, h => by
    unfold shad
    rcases List.mem_cons.mp h with rfl | h
    · rw [h1, h2]
      exact List.mem_cons_self
    · split
      · exact List.mem_cons_of_mem _ (shad_mem h1 h2 h)
      · exact shad_mem h1 h2 h
theorem shad_ok {fp : Nat → List Addr} (s : SDf C fp σ H ρ τ an) : ∀ (vs : List Nat), ∀ p ∈ shad σ ρ vs, TOk C (OO C.F fp an) H σ p
  | [], p, hp => by cases hp
  | v :: vs, p, hp => by
    unfold shad at hp
    split at hp
    · rename_i w x e1 e2
      rcases List.mem_cons.mp hp with rfl | hp
      · obtain ⟨w', h1, h2, h3⟩ := s.bnd v _ e2
        rw [e1] at h1
        cases h1
        exact h3
      · exact shad_ok s vs p hp
    · exact shad_ok s vs p hp
theorem SD.shade (S : SD C σ H ρ τ an) (vs : List Nat) : SD C σ H ρ (shad σ ρ vs ++ τ) an := by
  obtain ⟨fp, s⟩ := S
  refine ⟨fp, s.tmps fun p hp => ?_⟩
  rcases List.mem_append.mp hp with hp | hp
  · exact shad_ok s vs p hp
  · exact s.tmp p hp
/-- back from the block -/
theorem SD.back {σ : L2.St} {ρ0 ρ2 : Rho} {H2 : Hp} {τ2 : List (V × R)} {an2 : List (Addr × HO)} {vs : List Nat} (S0 : SD C σ H ρ0 τ an) (S2 : SD C (wipe σ vs) H2 ρ2 τ2 an2) (hw : ∀ j ∈ vs, ∀ b, ρ2[j]? ≠ some (some b)) (ad : AllD τ2) (ok : okW ρ0 vs = true)
    (hs : ∀ p ∈ shad σ ρ0 vs, p ∈ τ2) : SD C σ H2 (rstR ρ0 ρ2 vs) (τ2 ++ τ.filter fun p => !isDt p) an2 := by
  obtain ⟨fp0, s0⟩ := S0
  obtain ⟨fp, s⟩ := S2
  have hl : ρ2.length = σ.length := by
    rw [s.len, wipe_length]
  have f0 : ∀ j ∈ vs, fp j = [] := fun j hj => s.emp j fun b e => hw j hj b e
  refine ⟨fp, s.tab, by rw [rstR_len]; exact hl, s.ext, s.vol, s.inj, s.ani, s.and, s.own, s.ano, s.frn, fun j b e => ?_, fun j e => ?_, fun p hp => ?_⟩
  · by_cases hj : j ∈ vs
    · have hlt : j < ρ2.length := by
        have := (List.getElem?_eq_some_iff.mp e).1
        rw [rstR_len] at this
        exact this
      rw [(rstR_get ρ0 ρ2 j vs).2 hj hlt] at e
      have e' : ρ0[j]? = some (some b) := by
        cases q : ρ0[j]? with
        | none =>
          rw [q] at e
          simp at e
        | some o =>
          rw [q] at e
          simpa using e
      obtain ⟨x, rfl⟩ := okW_at ok hj e'
      obtain ⟨w, h1, _⟩ := s0.bnd j _ e'
      exact ⟨w, h1, f0 j hj, s.tmp _ (hs _ (shad_mem h1 e' hj))⟩
    · rw [(rstR_get ρ0 ρ2 j vs).1 hj] at e
      rw [← (wipe_get σ j vs).1 hj]
      exact s.bnd j b e
  · by_cases hj : j ∈ vs
    · exact f0 j hj
    · rw [(rstR_get ρ0 ρ2 j vs).1 hj] at e
      exact s.emp j e
  · rcases List.mem_append.mp hp with hp | hp
    · exact (s.tmp p hp).slots (ad p hp)
    · obtain ⟨h1, h2⟩ := List.mem_filter.mp hp
      obtain ⟨v, r⟩ := p
      cases r with
      | own i => exact s0.tmp _ h1
      | d x => cases h2
      | w xs => cases h2

/-! ### comprehensions -/
def lcD (g : FG) (ft : FT) (fe : FE) (vs : List Nat) : List R → Rho → Option (List D × Rho)
  | [], ρ => some ([], ρ)
  | r :: rs, ρ => (g r ρ).bind fun ρ1 => (ft ρ1).bind fun p => if p.1 = true then
      (fe p.2).bind fun q => (out1 q.1 q.2).bind fun u => if okW u.2 vs = true then (lcD g ft fe vs rs (wpR u.2 vs)).map fun w => (u.1 :: w.1, w.2) else none
    else if okW p.2 vs = true then lcD g ft fe vs rs (wpR p.2 vs) else none
def fLc (fi : FI) (g : FG) (ft : FT) (fe : FE) (vs : List Nat) : FF := fun ρ => (fi ρ).bind fun p => if okW p.2 vs = true ∧ p.1.length ≤ sizeLine then (lcD g ft fe vs p.1 (wpR p.2 vs)).map fun q => (q.1, rstR p.2 q.2 vs) else none
theorem imp_lc {fi : FI} {g : FG} {ft : FT} {fe : FE} {ws vs : List Nat} (hws : ∀ j ∈ ws, j ∈ vs) {Q : VK} (h : tF C (fLc fi g ft fe vs) σ H Q) : tLc (tI C fi) (tG C ws g) (tT C ft) (tE C fe) vs σ H Q := by
  obtain ⟨ρ, τ, an, ys, ρ9, S, e, k⟩ := h
  unfold fLc at e
  cases e1 : fi ρ with
  | none => simp [e1] at e
  | some p =>
    obtain ⟨rs, ρ1⟩ := p
    simp only [e1, Option.bind_some] at e
    split at e
    · rename_i hok
      obtain ⟨ok, hz⟩ := hok
      cases e2 : lcD g ft fe vs rs (wpR ρ1 vs) with
      | none => simp [e2] at e
      | some q =>
        obtain ⟨ys', ρ8⟩ := q
        simp [e2] at e
        obtain ⟨rfl, rfl⟩ := e
        refine ⟨ρ, τ, an, rs, ρ1, S, e1, fun J H1 τi adi S1 it D hD => ?_⟩
        -- the block's temporaries
        let τb : List (V × R) := shad σ ρ1 vs ++ (τi ++ τ.filter isDt)
        have adb : AllD τb := (shad_all σ ρ1 vs).app (adi.app (isDt_all τ))
        have Sb : SD C (wipe σ vs) H1 (wpR ρ1 vs) τb an := by
          have S2 : SD C σ H1 ρ1 τb an := (S1.shade vs).sub fun p hp => by
            rcases List.mem_append.mp hp with hp | hp
            · exact List.mem_append_left _ hp
            · rcases List.mem_append.mp hp with hp | hp
              · exact List.mem_append_right _ (List.mem_append_left _ hp)
              · exact List.mem_append_right _ (List.mem_append_right _ (List.mem_filter.mp hp).1)
          exact S2.wiped adb ok
        refine ⟨fun i m H => m = rs.length - i ∧ i ≤ rs.length ∧ ∃ ρ' us xs zs, us.length = xs.length ∧ xs.length ≤ i ∧ SD C (wipe σ vs) H ρ' (tz us xs ++ τb) ((D, .lst us) :: an) ∧ (∀ j ∈ vs, ∀ b, ρ'[j]? ≠ some (some b)) ∧
          lcD g ft fe vs (rs.drop i) ρ' = some (zs, ρ8) ∧ xs ++ zs = ys', ?_, ?_⟩
        · refine ⟨_, rfl, Nat.zero_le _, wpR ρ1 vs, [], [], ys', rfl, Nat.le_refl _, ?_, fun j hj b eb => ?_, e2, rfl⟩
          · exact Sb.fresh (o := .lst []) hD trivial
          · have hl : j < ρ1.length := by
              have := (List.getElem?_eq_some_iff.mp eb).1
              rw [wpR_len] at this
              exact this
            rw [(wpR_get ρ1 j vs).2 hj hl] at eb
            cases eb
        · rintro i m H2 ⟨rfl, hi, ρ2, us, xs, zs, hul, hxi, S2, hw2, e3, e4⟩
          have It2 := it _ H2 ρ2 _ _ S2 (fun p hp => List.mem_append_right _ (List.mem_append_right _ (List.mem_append_left _ hp))) i
          by_cases hlt : i < rs.length
          · refine Or.inr ?_
            obtain ⟨go, yld⟩ := It2.1 rs[i] (by simp [hlt])
            rw [List.drop_eq_getElem_cons hlt] at e3
            unfold lcD at e3
            cases e5 : g rs[i] ρ2 with
            | none => simp [e5] at e3
            | some ρ3 =>
              cases e6 : ft ρ3 with
              | none => simp [e5, e6] at e3
              | some p6 =>
                obtain ⟨b, ρ4⟩ := p6
                simp only [e5, e6, Option.bind_some] at e3
                have adA : AllD (tz us xs ++ τb) := AllD.tz.app adb
                refine ⟨go, fun H' => ∃ ρ' us xs zs, us.length = xs.length ∧ xs.length ≤ i + 1 ∧ SD C (wipe σ vs) H' ρ' (tz us xs ++ τb) ((D, .lst us) :: an) ∧ (∀ j ∈ vs, ∀ b, ρ'[j]? ≠ some (some b)) ∧
                  lcD g ft fe vs (rs.drop (i + 1)) ρ' = some (zs, ρ8) ∧ xs ++ zs = ys', fun H' q => ⟨rs.length - (i + 1), by omega, rfl, hlt, q⟩, fun x H' hy => ?_⟩
                refine ⟨ρ2, tz us xs ++ τb, (D, .lst us) :: an, rs[i], ρ3, adA, yld x H' hy, e5, fun σ2 H3 l3 k3 S3 => ?_⟩
                have ew : wipe σ2 vs = wipe σ vs := by
                  have q : wipe σ2 vs = wipe (wipe σ vs) vs := wipe_eq l3 fun j hj => k3 j fun z => hj (hws j z)
                  rw [q]
                  exact wipe_eq (wipe_length σ vs) fun j hj => (wipe_get σ j vs).1 hj
                have wout : ∀ ρ', ∀ j ∈ vs, ∀ b, (wpR ρ' vs)[j]? ≠ some (some b) := fun ρ' j hj b eb => by
                  have hl : j < ρ'.length := by
                    have := (List.getElem?_eq_some_iff.mp eb).1
                    rw [wpR_len] at this
                    exact this
                  rw [(wpR_get ρ' j vs).2 hj hl] at eb
                  cases eb
                refine ⟨ew, ρ3, tz us xs ++ τb, (D, .lst us) :: an, b, ρ4, S3, e6, fun H4 S4 => ?_⟩
                cases b with
                | true =>
                  rw [if_pos rfl] at e3
                  cases e7 : fe ρ4 with
                  | none => simp [e7] at e3
                  | some q7 =>
                    obtain ⟨r7, ρ5⟩ := q7
                    cases e8 : out1 r7 ρ5 with
                    | none => simp [e7, e8] at e3
                    | some u8 =>
                      obtain ⟨y, ρ6⟩ := u8
                      simp only [e7, e8, Option.bind_some] at e3
                      split at e3
                      · rename_i ok6
                        cases e9 : lcD g ft fe vs (rs.drop (i + 1)) (wpR ρ6 vs) with
                        | none => simp [e9] at e3
                        | some w9 =>
                          obtain ⟨zs', ρ7⟩ := w9
                          simp [e9] at e3
                          obtain ⟨rfl, rfl⟩ := e3
                          show tE C fe σ2 H4 _
                          refine ⟨ρ4, tz us xs ++ τb, (D, .lst us) :: an, r7, ρ5, S4, e7, fun yv H5 S5 => ?_⟩
                          have S6 := out1_ok S5 e8
                          have hD5 : H5 D = some (.lst us) := by
                            obtain ⟨fp, s⟩ := id S6
                            exact (s.ano D _ List.mem_cons_self).2.1
                          refine ⟨us, hD5, by omega, wpR ρ6 vs, us ++ [yv], xs ++ [y], zs', by simp [hul], by simp; omega, ?_, wout ρ6, e9, by simpa using e4⟩
                          rw [← ew]
                          have S7 := (S6.anset (o' := .lst (us ++ [yv])) trivial).wiped (AllD.cons adA) ok6
                          refine S7.sub fun p hp => ?_
                          rcases List.mem_append.mp hp with hp | hp
                          · obtain ⟨j, v, d, ha, hb, rfl⟩ := of_tz hp
                            rcases app_at hul ha hb with z | z
                            · exact List.mem_cons_of_mem _ (List.mem_append_left _ z)
                            · obtain ⟨j', v', d', ha', hb', e'⟩ := of_tz z
                              have h0 : j' = 0 := by
                                have := (List.getElem?_eq_some_iff.mp ha').1
                                simpa using this
                              subst h0
                              simp at ha' hb'
                              subst ha'
                              subst hb'
                              rw [e']
                              exact List.mem_cons_self
                          · exact List.mem_cons_of_mem _ (List.mem_append_right _ hp)
                      · cases e3
                | false =>
                  rw [if_neg Bool.false_ne_true] at e3
                  split at e3
                  · rename_i ok4
                    show ∃ ρ' us xs zs, _
                    refine ⟨wpR ρ4 vs, us, xs, zs, hul, by omega, ?_, wout ρ4, e3, e4⟩
                    rw [← ew]
                    exact S4.wiped adA ok4
                  · cases e3
          · refine Or.inl ?_
            have ei : i = rs.length := by omega
            subst ei
            rw [List.drop_length] at e3
            cases e3
            rw [List.append_nil] at e4
            subst e4
            refine ⟨It2.2 rfl, k D us H2 hul ?_⟩
            have S9 := S1.back (vs := vs) S2 hw2 (AllD.tz.app adb) ok fun p hp => List.mem_append_right _ (List.mem_append_left _ hp)
            refine S9.sub fun p hp => ?_
            rcases List.mem_append.mp hp with hp | hp
            · exact List.mem_append_left _ (List.mem_append_left _ hp)
            · cases q : isDt p with
              | true => exact List.mem_append_left _ (List.mem_append_right _ (List.mem_append_right _ (List.mem_append_right _ (List.mem_filter.mpr ⟨hp, q⟩))))
              | false => exact List.mem_append_right _ (List.mem_filter.mpr ⟨List.mem_append_right _ hp, by rw [q]; rfl⟩)
    · cases e
theorem df_lc {elt tg iter : Expr} {ifs : List Expr} {scope : Scope} (own : List (Str × Nat)) {pos : Pos} {fi : FI} {g : FG} {ft : FT} {fe : FE} {ws : List Nat} (hc : X.calm = true) (hN : X.N.Nodup) (hi : PI X tg iter (tI C fi)) (ok : blkC X.N X.env.scope scope own = true)
    (hg : ∀ (s : Shared) (H : Hp) (Ca : Addr) (cl : List (Str × Addr)) (fp : List Addr), PG (X.blk s H scope (compEnvC scope cl Ca X.env) fp) tg (tG C ws g)) (ht : ∀ (s : Shared) (H : Hp) (Ca : Addr) (cl : List (Str × Addr)) (fp : List Addr), PTs (X.blk s H scope (compEnvC scope cl Ca X.env) fp) ifs (tT C ft))
    (he : ∀ (s : Shared) (H : Hp) (Ca : Addr) (cl : List (Str × Addr)) (fp : List Addr), PE (X.blk s H scope (compEnvC scope cl Ca X.env) fp) elt (tE C fe)) (hw : ∀ j ∈ ws, j ∈ own.map (·.2)) (hs : ∀ x, foldedSetIterable iter X.env x = pure x := by intro _; rfl) :
    PE X (.ListComp elt [⟨tg, iter, ifs, 0⟩] scope pos) (tF C (fLc fi g ft fe (own.map (·.2)))) := (pe_lc hc hN hi (blkOk_by ok) hg ht he hs).dl fun _ _ _ h => imp_lc hw h
def tYesT : FT := fun ρ => some (true, ρ)
theorem dts_nil : PTs X [] (tT C tYesT) := ⟨fun pins s σ H Q I h => pts_nil.run pins s σ H Q I (by
  obtain ⟨ρ, τ, an, b, ρ', S, e, q⟩ := h
  cases e
  exact q H S)⟩
theorem dts_one {c : Expr} {f : FT} (h : PT X c (tT C f)) : PTs X [c] (tT C f) := pts_one h
/-- name = [..] on one line, data or an own list -/
theorem ds_setLc {i : Nat} {n : Str} {py pos spos : Pos} {elt tg iter : Expr} {ifs : List Expr} {scope : Scope} (own : List (Str × Nat)) {fi : FI} {g : FG} {ft : FT} {fe : FE} {ws : List Nat} (hc : X.calm = true) (hN : X.N.Nodup) (hy : X.N[i]? = some n) (hyl : X.env.scope.names.lookup n = some .local)
    (hsw : swapsWith (.ListComp elt [⟨tg, iter, ifs, 0⟩] scope pos) (some (.Name n py)) spos.line X.env = pure true)
    (hi : PI X tg iter (tI C fi)) (ok : blkC X.N X.env.scope scope own = true)
    (hg : ∀ (s : Shared) (H : Hp) (Ca : Addr) (cl : List (Str × Addr)) (fp : List Addr), PG (X.blk s H scope (compEnvC scope cl Ca X.env) fp) tg (tG C ws g)) (ht : ∀ (s : Shared) (H : Hp) (Ca : Addr) (cl : List (Str × Addr)) (fp : List Addr), PTs (X.blk s H scope (compEnvC scope cl Ca X.env) fp) ifs (tT C ft))
    (he : ∀ (s : Shared) (H : Hp) (Ca : Addr) (cl : List (Str × Addr)) (fp : List Addr), PE (X.blk s H scope (compEnvC scope cl Ca X.env) fp) elt (tE C fe)) (hw : ∀ j ∈ ws, j ∈ own.map (·.2)) (hs : ∀ x, foldedSetIterable iter X.env x = pure x := by intro _; rfl) :
    PS X (.Assign [.Name n py] (.ListComp elt [⟨tg, iter, ifs, 0⟩] scope pos) spos) (tS C (sOwn i (fLc fi g ft fe (own.map (·.2))))) := by
  refine (ps_setLc hc hN hy hyl hsw hi (blkOk_by ok) hg ht he hs).dl fun G σ H h => ?_
  exact imp_lc hw (imp_own h)
end
end DL
namespace DL
open PySem L2

/-! ### what is walked: a list or a tuple -/
inductive Src where
  | lst (a : Addr)
  | tup (a : Addr)
def Src.at : Src → Addr
  | .lst a => a
  | .tup a => a
def Src.iter : Src → Addr → Nat → Heap → Prop
  | .lst a, it, i, h => h.IsListIter it a i
  | .tup a, it, i, h => h.IsTupleIter it a i
def Src.cont : Src → Array Value → Heap → Prop
  | .lst a, its, h => h.IsList a its
  | .tup a, its, h => h.IsTuple a its
def Src.obj : Src → Obj
  | .lst a => { cls := .type "list_iterator", data := .fields #[.ref a, .int 0 0] }
  | .tup a => { cls := .type "tuple_iterator", data := .fields #[.ref a, .int 0 0] }
def Src.sq (K : PySem.W.Frag) (H : Hp) : Src → List V → Prop
  | .lst a, xs => SqL K H a xs
  | .tup a, xs => SqT K H a xs
theorem Src.draws {prog : Program} {w : World} {A : Around} (hh : A.handled = none) (q : Src) (it : Addr) (hne : q.at ≠ it) (its : Array Value) : Draws prog w A it [it, q.at] its.size (fun i v => its[i]? = some v) (fun i h => q.iter it i h ∧ q.cont its h) := by
  cases q with
  | lst a => exact Draws.list hh it a hne its
  | tup a => exact Draws.tuple hh it a hne its
theorem Src.begins (q : Src) (its : Array Value) : Begins (.ref q.at) q.obj (fun h => q.cont its h) := by
  cases q with
  | lst a => exact begins_list a its
  | tup a => exact begins_tuple a its
theorem Src.start {q : Src} {it : Addr} {h : Heap} (e : h.get? it = some q.obj) : q.iter it 0 h := by
  cases q with
  | lst a => exact ⟨_, e, rfl, rfl⟩
  | tup a => exact ⟨_, e, rfl, rfl⟩
theorem Src.iobj {q : Src} {it : Addr} {i : Nat} {h : Heap} (st : q.iter it i h) : ∃ o, h.get? it = some o ∧ ∀ v, o.data ≠ .cell v := by
  cases q with
  | lst a =>
    obtain ⟨o, e, _, d⟩ := st
    exact ⟨o, e, fun v z => by rw [d] at z; cases z⟩
  | tup a =>
    obtain ⟨o, e, _, d⟩ := st
    exact ⟨o, e, fun v z => by rw [d] at z; cases z⟩
theorem Src.imove {q : Src} {it : Addr} {i : Nat} {h h' : Heap} (st : q.iter it i h) (k : ∀ o, h.get? it = some o → h'.get? it = some o) : q.iter it i h' := by
  cases q with
  | lst a => exact Heap.IsListIter.at st k
  | tup a => exact Heap.IsTupleIter.at st k
section
variable {X : Cx} {pins : List (Addr × Obj)} {σ : L2.St} {H : Hp} {s : Shared}
theorem Src.see (I : L2.Inv X pins σ H s) {q : Src} {xs : List V} (h : q.sq X.K H xs) : ∃ its : List Value, Vals xs its ∧ q.cont its.toArray s.heap ∧ q.at < s.heap.objs.size := by
  cases q with
  | lst a =>
    obtain ⟨its, r, p, _⟩ := I.list h
    exact ⟨its, r, p.isList, p.lt⟩
  | tup a =>
    obtain ⟨its, r, p, _⟩ := I.tuple h
    exact ⟨its, r, p, p.lt⟩
theorem Src.one (I : L2.Inv X pins σ H s) {q : Src} {xs ys : List V} (h : q.sq X.K H xs) (h' : q.sq X.K H ys) : xs = ys := by
  cases q with
  | lst a => exact I.list_inj h h'
  | tup a => exact I.tuple_inj h h'
end
/-- pairs of two -/
def Itq (K : PySem.W.Frag) (p q : Src) : It :=
  ⟨fun i H => ∃ (xs ys : List V) (x y : V), p.sq K H xs ∧ q.sq K H ys ∧ xs[i]? = some x ∧ ys[i]? = some y,
    fun i H v H' => ∃ T x y, v = .ref T ∧ H T = none ∧ H' = upd H T (.tup [x, y]) ∧ (∀ xs, p.sq K H xs → xs[i]? = some x) ∧ ∀ ys, q.sq K H ys → ys[i]? = some y,
    fun i H => ∃ xs ys : List V, p.sq K H xs ∧ q.sq K H ys ∧ i ≤ xs.length ∧ i ≤ ys.length ∧ (i = xs.length ∨ i = ys.length)⟩
theorem turn_q {P : Program} {w : World} {K : PySem.W.Frag} {elts : List Expr} {kk : Nat} {tpos : Pos} {p q : Src} {z TI TO i1 i2 : Addr} (D : ZipSep2 z TI TO i1 i2 [i1, p.at] [i2, q.at]) (n1 : p.at ≠ i1) (n2 : q.at ≠ i2) :
    Turn P w K (.Tuple elts kk tpos) (Itq K p q) [z, TI, TO, i1, i2] z (fun i h => IsZip h z TI TO .none ∧ IsTupOf2 h TI (.ref i1) (.ref i2) ∧ (∃ x y, IsTupOf2 h TO x y) ∧ p.iter i1 i h ∧ q.iter i2 i h) where
  mem := by simp
  obj := fun i h st c hc => by
    obtain ⟨hz, hTI, ⟨x, y, hTO⟩, h1, h2⟩ := st
    have ec : c = z ∨ c = TI ∨ c = TO ∨ c = i1 ∨ c = i2 := by simpa using hc
    rcases ec with e | e | e | e | e
    · subst e
      exact ⟨_, hz, fun v q => nomatch q⟩
    · subst e
      exact ⟨_, hTI, fun v q => nomatch q⟩
    · subst e
      exact ⟨_, hTO, fun v q => nomatch q⟩
    · subst e
      exact Src.iobj h1
    · subst e
      exact Src.iobj h2
  keep := fun i h h' st k => by
    obtain ⟨hz, hTI, ⟨x, y, hTO⟩, h1, h2⟩ := st
    exact ⟨k z (by simp) _ hz, k TI (by simp) _ hTI, ⟨x, y, k TO (by simp) _ hTO⟩, Src.imove h1 fun o e => k i1 (by simp) o e, Src.imove h2 fun o e => k i2 (by simp) o e⟩
  item := by
    intro X hP hw hK hc i pins s σ H E I hf st hg
    subst hP hw hK
    obtain ⟨hz, hTI, ⟨x0, y0, hTO⟩, h1, h2⟩ := st
    obtain ⟨xs, ys, x, y, hqx, hqy, hx, hy⟩ := hg
    obtain ⟨us, r1, c1, _⟩ := Src.see I hqx
    obtain ⟨ws, r2, c2, _⟩ := Src.see I hqy
    obtain ⟨u1, hu1, ru1⟩ := r1.get hx
    obtain ⟨u2, hu2, ru2⟩ := r2.get hy
    have hzl : z < s.heap.objs.size := Heap.lt_size hz
    have hh : X.A.in1.handled = none := I.ok.hd hc
    refine wpAny_pyNext_zipD2_item D (p.draws hh i1 n1 us.toArray) (q.draws hh i2 n2 ws.toArray) hz hTI hTO ⟨h1, c1⟩ ⟨h2, c2⟩ ?_ ?_ fun x1 x2 h' tk e1 e2 z' TO' st1 st2 hT hsz hk => ?_
    · have := (List.getElem?_eq_some_iff.mp hu1).1
      simpa using this
    · have := (List.getElem?_eq_some_iff.mp hu2).1
      simpa using this
    have ex1 : x1 = u1 := by
      have : us[i]? = some x1 := by simpa using e1
      rw [hu1] at this
      exact (Option.some.inj this).symm
    have ex2 : x2 = u2 := by
      have : ws[i]? = some x2 := by simpa using e2
      rw [hu2] at this
      exact (Option.some.inj this).symm
    subst ex1
    subst ex2
    refine ⟨_, rfl, wpAny_letOwnedTupleGo_zip (s := { s with heap := h', toks := tk }) z' fun h'' z'' sb => ?_⟩
    have hT2 : h''.get? s.heap.objs.size = some { cls := .type "tuple", data := .seq #[x1, x2] } := (sb.2 _ (Nat.ne_of_gt hzl)).trans hT
    have new : ObjOk X.prog X.w (upd H s.heap.objs.size (.tup [x, y])) h'' s.heap.objs.size (.tup [x, y]) :=
      ⟨by show 2 ≤ sizeLine; decide, [x1, x2], .cons ru1 (.cons ru2 .nil), ⟨_, hT2, rfl, _, rfl⟩⟩
    have kk : ∀ c o, c ∉ [z, TI, TO, i1, i2] → s.heap.get? c = some o → h''.get? c = some o := fun c o hb e => by
      have m1 : c ≠ z := fun e' => hb (by simp [e'])
      have m2 : c ≠ TO := fun e' => hb (by simp [e'])
      have m3 : c ≠ i1 := fun e' => hb (by simp [e'])
      have m4 : c ≠ i2 := fun e' => hb (by simp [e'])
      exact (sb.2 c m1).trans (hk c o m1 m2 m3 m4 e)
    have I1 : L2.Inv X pins σ (upd H s.heap.objs.size (.tup [x, y])) { s with heap := h'', toks := tk } := I.turnedNew (ch := [z, TI, TO, i1, i2]) kk hf (Nat.le_refl _) new
    refine ⟨.ref s.heap.objs.size, _, I1, rfl, ⟨_, x, y, rfl, I.hok.fresh (Nat.le_refl _), rfl, fun l hl => by rw [Src.one I hl hqx]; exact hx, fun l hl => by rw [Src.one I hl hqy]; exact hy⟩, ⟨z'', ?_, ⟨x1, x2, ?_⟩, ?_, ?_⟩, fun c hcm => ?_⟩
    · exact (sb.2 _ D.TIz).trans (hk _ _ D.TIz D.TITO D.TIi1 D.TIi2 hTI)
    · exact (sb.2 _ D.TOz).trans TO'
    · exact Src.imove st1.1 fun o e => (sb.2 _ (Ne.symm D.zi1)).trans e
    · exact Src.imove st2.1 fun o e => (sb.2 _ (Ne.symm D.zi2)).trans e
    · have hlt : c < s.heap.objs.size := by
        have ec : c = z ∨ c = TI ∨ c = TO ∨ c = i1 ∨ c = i2 := by simpa using hcm
        rcases ec with e | e | e | e | e
        · subst e
          exact hzl
        · subst e
          exact Heap.lt_size hTI
        · subst e
          exact Heap.lt_size hTO
        · subst e
          obtain ⟨o, e1, _⟩ := Src.iobj h1
          exact Heap.lt_size e1
        · subst e
          obtain ⟨o, e1, _⟩ := Src.iobj h2
          exact Heap.lt_size e1
      rw [upd_ne (Nat.ne_of_lt hlt)]
      exact (hf c hcm).1
  done := by
    intro X hP hw hK hc i pins s σ H E I hf st hg
    subst hP hw hK
    obtain ⟨hz, hTI, ⟨x0, y0, hTO⟩, h1, h2⟩ := st
    obtain ⟨xs, ys, hqx, hqy, le1, le2, hend⟩ := hg
    obtain ⟨us, r1, c1, _⟩ := Src.see I hqx
    obtain ⟨ws, r2, c2, _⟩ := Src.see I hqy
    have l1 := r1.length
    have l2 := r2.length
    have hh : X.A.in1.handled = none := I.ok.hd hc
    refine wpAny_pyNext_zipD2_end D (p.draws hh i1 n1 us.toArray) (q.draws hh i2 n2 ws.toArray) hz hTI hTO ⟨h1, c1⟩ ⟨h2, c2⟩ ?_ ?_ ?_ fun h' tk hk => ⟨rfl, I.turnedL (ch := [z, TI, TO, i1, i2]) (fun c o hb e => ?_) hf⟩
    · rw [List.size_toArray]
      omega
    · rw [List.size_toArray]
      omega
    · rw [List.size_toArray, List.size_toArray]
      omega
    · exact hk c o (fun e' => hb (by simp [e'])) (fun e' => hb (by simp [e'])) (fun e' => hb (by simp [e'])) (fun e' => hb (by simp [e'])) e
  self := fun A i s Q E st h => wpAny_pyIter_zip st.1 h

section
variable {C : Fr} {X : Cx} {tg : Expr}
/-- the items of a list or tuple, of data -/
def seqD : D → Option (List D)
  | .list xs => some xs
  | .tuple xs => some xs
  | _ => none
/-- where data is walked -/
theorem src_of {K : PySem.W.Frag} {H : Hp} {v : V} {d : D} {xs : List D} (h : Dn K H v d) (e : seqD d = some xs) : ∃ q : Src, v = .ref q.at ∧ ∃ vs, q.sq K H vs ∧ vs.length = xs.length := by
  unfold seqD at e
  split at e
  · cases e
    obtain ⟨a, vs, rfl, h1, h2⟩ := h.lst_inv
    exact ⟨.lst a, rfl, vs, Or.inl (Or.inl h1), h2.1⟩
  · cases e
    obtain ⟨a, vs, rfl, h1, h2⟩ := h.tup_inv
    exact ⟨.tup a, rfl, vs, h1.sq, h2.1⟩
  · cases e
/-- a temporary of such data, at each time -/
structure SrcOk (C : Fr) (q : Src) (d : D) (xs : List D) : Prop where
  see : ∀ {σ : L2.St} {H : Hp} {ρ : Rho} {τ : List (V × R)} {an : List (Addr × HO)}, SD C σ H ρ τ an → (V.ref q.at, R.d d) ∈ τ → ∃ vs, q.sq C.K H vs ∧ vs.length = xs.length ∧ SD C σ H ρ (tz vs xs ++ τ) an
theorem srcOk_of {d : D} {xs : List D} (e : seqD d = some xs) {σ : L2.St} {H : Hp} {ρ : Rho} {τ : List (V × R)} {an : List (Addr × HO)} {v : V} (S : SD C σ H ρ ((v, .d d) :: τ) an) : ∃ q : Src, v = .ref q.at ∧ SrcOk C q d xs := by
  unfold seqD at e
  split at e
  · cases e
    obtain ⟨a, vs, rfl, h1, h2⟩ := S.here.lst_inv
    refine ⟨.lst a, rfl, ⟨fun {σ H ρ τ an} S' hm => ?_⟩⟩
    obtain ⟨a', ws, ea, g1, g2, g3⟩ := S'.items hm (xs := xs) rfl
    cases ea
    exact ⟨ws, Or.inl (Or.inl g1), g2, g3⟩
  · cases e
    obtain ⟨a, vs, rfl, h1, h2⟩ := S.here.tup_inv
    refine ⟨.tup a, rfl, ⟨fun {σ H ρ τ an} S' hm => ?_⟩⟩
    obtain ⟨a', ws, ea, g1, g2, g3⟩ := S'.itemsT hm (xs := xs) rfl
    cases ea
    exact ⟨ws, g1.sq, g2, g3⟩
  · cases e
/-- for x in e: a list, a tuple -/
def iSeq (f : FE) : FI := fun ρ => (f ρ).bind fun p => (out1 p.1 p.2).bind fun q => (seqD q.1).map fun xs => (xs.map R.d, q.2)
theorem itd_lst {a : Addr} {d : D} {xs : List D} (ok : SrcOk C (.lst a) d xs) (hK : C.K = X.K) : ItD C (Itl X.K a) (xs.map R.d) [(.ref a, .d d)] := fun σ H ρ τ an S hi i => by
  obtain ⟨vs, h1, h2, S1⟩ := ok.see S (hi _ List.mem_cons_self)
  rw [hK] at h1
  refine ⟨fun r hr => ?_, fun e => ?_⟩
  · rw [List.getElem?_map] at hr
    cases q : xs[i]? with
    | none =>
      rw [q] at hr
      cases hr
    | some x =>
      rw [q] at hr
      cases hr
      have hlt : i < vs.length := by
        rw [h2]
        exact (List.getElem?_eq_some_iff.mp q).1
      refine ⟨⟨vs, vs[i], h1, by simp [hlt]⟩, fun v H' y => ?_⟩
      obtain ⟨e, y⟩ := y
      subst e
      have hv := y vs h1
      exact (S1.part (v := v) (x := x) (List.mem_append_left _ (mem_tz hv q)) fun _ h => h).keepN fun p hp => List.mem_append_right _ hp
  · refine ⟨vs, h1, ?_⟩
    rw [List.length_map] at e
    omega
theorem itd_tup {a : Addr} {d : D} {xs : List D} (ok : SrcOk C (.tup a) d xs) (hK : C.K = X.K) : ItD C (Itt X.K a) (xs.map R.d) [(.ref a, .d d)] := fun σ H ρ τ an S hi i => by
  obtain ⟨vs, h1, h2, S1⟩ := ok.see S (hi _ List.mem_cons_self)
  rw [hK] at h1
  refine ⟨fun r hr => ?_, fun e => ?_⟩
  · rw [List.getElem?_map] at hr
    cases q : xs[i]? with
    | none =>
      rw [q] at hr
      cases hr
    | some x =>
      rw [q] at hr
      cases hr
      have hlt : i < vs.length := by
        rw [h2]
        exact (List.getElem?_eq_some_iff.mp q).1
      refine ⟨⟨vs, vs[i], h1, by simp [hlt]⟩, fun v H' y => ?_⟩
      obtain ⟨e, y⟩ := y
      subst e
      have hv := y vs h1
      exact (S1.part (v := v) (x := x) (List.mem_append_left _ (mem_tz hv q)) fun _ h => h).keepN fun p hp => List.mem_append_right _ hp
  · refine ⟨vs, h1, ?_⟩
    rw [List.length_map] at e
    omega
theorem di_seq {e : Expr} {f : FE} (hK : C.K = X.K) (he : PE X e (tE C f)) : PI X tg e (tI C (iSeq f)) := by
  refine ⟨fun pins s σ H Rr I h => ?_⟩
  obtain ⟨ρ, τ, an, rs, ρ', S, e0, k⟩ := h
  unfold iSeq at e0
  cases e1 : f ρ with
  | none => simp [e1] at e0
  | some p =>
    obtain ⟨r, ρ1⟩ := p
    cases e2 : out1 r ρ1 with
    | none => simp [e1, e2] at e0
    | some q =>
      obtain ⟨d, ρ2⟩ := q
      cases e3 : seqD d with
      | none => simp [e1, e2, e3] at e0
      | some xs =>
        simp [e1, e2, e3] at e0
        obtain ⟨rfl, rfl⟩ := e0
        refine thn (he.run pins s σ H (fun v H1 => SD C σ H1 ρ2 ((v, .d d) :: τ) an) I ⟨ρ, τ, an, r, ρ1, S, e1, fun v H1 S1 => out1_ok S1 e2⟩) fun u s1 w => ?_
        obtain ⟨v, H1, I1, rv, S1⟩ := w
        obtain ⟨q, rfl, ok⟩ := srcOk_of e3 S1
        cases rv
        obtain ⟨vs, h1, h2, _⟩ := ok.see S1 List.mem_cons_self
        rw [hK] at h1
        cases q with
        | lst a =>
          obtain ⟨its, r1, c1, _⟩ := I1.list h1
          refine wpAny_pyIter_list c1.isList ?_
          exact pi_one (tk := s1.toks) I1 _ (turn_list a _) ⟨_, Heap.get?_push_size _ rfl, rfl, rfl⟩ (k _ H1 [(.ref a, .d d)] (AllD.cons AllD.nil) S1 (itd_lst ok hK))
        | tup a =>
          obtain ⟨its, r1, c1, _⟩ := I1.tuple h1
          refine wpAny_pyIter_tuple (show s1.heap.IsTuple a its.toArray from c1) ?_
          exact pi_one (tk := s1.toks) I1 _ (turn_tuple a _) ⟨_, Heap.get?_push_size _ rfl, rfl, rfl⟩ (k _ H1 [(.ref a, .d d)] (AllD.cons AllD.nil) S1 (itd_tup ok hK))
/-- for x in a text -/
def iStrD (f : FE) : FI := fun ρ => match f ρ with
  | some (.d (.str s), ρ') => some (s.cps.toList.map fun c => R.d (.str ⟨#[c]⟩), ρ')
  | _ => none
theorem di_str {e : Expr} {f : FE} (he : PE X e (tE C f)) : PI X tg e (tI C (iStrD f)) := (pi_str he).dl fun σ H Q h => by
  obtain ⟨ρ, τ, an, rs, ρ', S, e0, k⟩ := h
  unfold iStrD at e0
  split at e0
  · rename_i x ρ1 e1
    cases e0
    refine ⟨ρ, τ, an, _, _, S, e1, fun v H1 S1 => ⟨x, S1.here.str_inv, k _ H1 [] AllD.nil S1.pop fun σ' H' ρ2 τ' an' S' _ i => ⟨fun r hr => ?_, fun ei => ?_⟩⟩⟩
    · rw [List.getElem?_map] at hr
      cases q : x.cps.toList[i]? with
      | none =>
        rw [q] at hr
        cases hr
      | some c =>
        rw [q] at hr
        cases hr
        have hlt := (List.getElem?_eq_some_iff.mp q).1
        refine ⟨(show i < x.cps.size by simpa using hlt), fun w H'' y => ?_⟩
        obtain ⟨rfl, c', hc, rfl⟩ := y
        have : c' = c := by
          have q2 : x.cps[i]? = some c := by simpa using q
          rw [q2] at hc
          exact (Option.some.inj hc).symm
        subst this
        exact S'.push fun _ _ => .str _
    · show x.cps.size ≤ i
      rw [List.length_map] at ei
      simp at ei
      omega
  · cases e0
/-- for x in range(n) -/
def iRg (f : FE) : FI := fun ρ => match f ρ with
  | some (.d (.int n), ρ') => if -1000000 ≤ n ∧ n ≤ 1000000 then some ((List.range n.toNat).map fun i => R.d (.int (i : Nat)), ρ') else none
  | _ => none
theorem di_range {e : Expr} {f : FE} {p pos : Pos} (hg : Gl X "range") (hm : X.mg "range" = none) (he : PE X e (tE C f)) (hs : starEach [e] X.env = [(false, eval e X.env)] := by rfl) : PI X tg (.Call (.Name "range" p) [e] [] pos) (tI C (iRg f)) :=
  (pi_range1 hg hm (pa_cons he pa_nil (by rw [hs]; rfl)) hs).dl fun σ H Q h => by
    obtain ⟨ρ, τ, an, rs, ρ', S, e0, k⟩ := h
    unfold iRg at e0
    split at e0
    · rename_i n ρ1 e1
      split at e0
      · rename_i hn
        cases e0
        refine ⟨ρ, τ, an, _, _, S, e1, fun v H1 S1 => ?_⟩
        have ev := S1.here.int_inv
        subst ev
        refine ⟨n, rfl, by omega, by omega, k _ H1 [] AllD.nil S1.pop fun σ' H' ρ2 τ' an' S' _ i => ⟨fun r hr => ?_, fun ei => ?_⟩⟩
        · rw [List.getElem?_map] at hr
          cases q : (List.range n.toNat)[i]? with
          | none =>
            rw [q] at hr
            cases hr
          | some c =>
            rw [q] at hr
            cases hr
            obtain ⟨hlt, hc⟩ := List.getElem?_eq_some_iff.mp q
            simp at hlt hc
            subst hc
            refine ⟨(show i < n.toNat by omega), fun w H'' y => ?_⟩
            obtain ⟨rfl, rfl⟩ := y
            rw [Int.zero_add]
            exact S'.push fun _ _ => .int _
        · show n.toNat ≤ i
          simp at ei
          omega
      · cases e0
    · cases e0
/-- for a, b in zip(x, y) -/
def iZp (f g : FE) : FI := fun ρ => (f ρ).bind fun p => (out1 p.1 p.2).bind fun a => (g a.2).bind fun q => (out1 q.1 q.2).bind fun b => (seqD a.1).bind fun xs => (seqD b.1).map fun ys => ((xs.zip ys).map fun z => R.w [z.1, z.2], b.2)
theorem itd_zp {p q : Src} {d1 d2 : D} {xs ys : List D} (o1 : SrcOk C p d1 xs) (o2 : SrcOk C q d2 ys) (hK : C.K = X.K) : ItD C (Itq X.K p q) ((xs.zip ys).map fun z => R.w [z.1, z.2]) [(.ref p.at, .d d1), (.ref q.at, .d d2)] := fun σ H ρ τ an S hi i => by
  obtain ⟨vs, h1, h2, S1⟩ := o1.see S (hi _ List.mem_cons_self)
  obtain ⟨ws, g1, g2, S2⟩ := o2.see S1 (List.mem_append_right _ (hi _ (List.mem_cons_of_mem _ List.mem_cons_self)))
  rw [hK] at h1 g1
  refine ⟨fun r hr => ?_, fun e => ?_⟩
  · rw [List.getElem?_map] at hr
    cases z : (xs.zip ys)[i]? with
    | none =>
      rw [z] at hr
      cases hr
    | some xy =>
      rw [z] at hr
      cases hr
      obtain ⟨x, y⟩ := xy
      rw [List.getElem?_zip_eq_some] at z
      obtain ⟨zx, zy⟩ := z
      have l1 : i < vs.length := by
        rw [h2]
        exact (List.getElem?_eq_some_iff.mp zx).1
      have l2 : i < ws.length := by
        rw [g2]
        exact (List.getElem?_eq_some_iff.mp zy).1
      refine ⟨⟨vs, ws, vs[i], ws[i], h1, g1, by simp [l1], by simp [l2]⟩, fun v H' y' => ?_⟩
      obtain ⟨T, v1, v2, rfl, hT, rfl, k1, k2⟩ := y'
      have e1 := k1 vs h1
      have e2 := k2 ws g1
      obtain ⟨fp, s⟩ := S2.grow (Le.new (o := .tup [v1, v2]) hT)
      refine ⟨fp, s.tmps fun t ht => ?_⟩
      rcases List.mem_cons.mp ht with rfl | ht
      · refine ⟨T, [v1, v2], rfl, Or.inl (Or.inl (msk_of (fun z => (s.nots z upd_same).ntup) upd_same)), DnL.cons ?_ (DnL.cons ?_ DnL.nil)⟩
        · exact s.tmp _ (List.mem_append_right _ (List.mem_append_left _ (mem_tz e1 zx)))
        · exact s.tmp _ (List.mem_append_left _ (mem_tz e2 zy))
      · exact s.tmp t (List.mem_append_right _ (List.mem_append_right _ ht))
  · rw [List.length_map, List.length_zip] at e
    refine ⟨vs, ws, h1, g1, by omega, by omega, by omega⟩
theorem di_zip {e1 e2 : Expr} {f g : FE} {p pos tpos : Pos} {elts : List Expr} {kk : Nat} (hK : C.K = X.K) (hg : Gl X "zip") (hm : X.mg "zip" = none) (h1 : PE X e1 (tE C f)) (h2 : PE X e2 (tE C g))
    (hs : starEach [e1, e2] X.env = (false, eval e1 X.env) :: starEach [e2] X.env := by rfl) (hs2 : starEach [e2] X.env = (false, eval e2 X.env) :: starEach [] X.env := by rfl) (hpl : (backTo pos (starEach [e2] X.env)).any (·.1) = false := by rfl) :
    PI X (.Tuple elts kk tpos) (.Call (.Name "zip" p) [e1, e2] [] pos) (tI C (iZp f g)) := by
  refine ⟨fun pins s σ H Rr I h => ?_⟩
  obtain ⟨ρ, τ, an, rs, ρ', S, e0, k⟩ := h
  unfold iZp at e0
  cases z1 : f ρ with
  | none => simp [z1] at e0
  | some p1 =>
    obtain ⟨r1, ρ1⟩ := p1
    cases z2 : out1 r1 ρ1 with
    | none => simp [z1, z2] at e0
    | some q1 =>
      obtain ⟨d1, ρ2⟩ := q1
      cases z3 : g ρ2 with
      | none => simp [z1, z2, z3] at e0
      | some p3 =>
        obtain ⟨r3, ρ3⟩ := p3
        cases z4 : out1 r3 ρ3 with
        | none => simp [z1, z2, z3, z4] at e0
        | some q4 =>
          obtain ⟨d2, ρ4⟩ := q4
          cases z5 : seqD d1 with
          | none => simp [z1, z2, z3, z4, z5] at e0
          | some xs =>
            cases z6 : seqD d2 with
            | none => simp [z1, z2, z3, z4, z5, z6] at e0
            | some ys =>
              simp [z1, z2, z3, z4, z5, z6] at e0
              obtain ⟨rfl, rfl⟩ := e0
              have ha : PA X [e1, e2] (tCons (tE C f) (tCons (tE C g) tNil)) := pa_cons h1 (pa_cons h2 pa_nil hs2) hs
              have start : tCons (tE C f) (tCons (tE C g) tNil) σ H (fun us H1 => ∃ v1 v2, us = [v1, v2] ∧ SD C σ H1 ρ4 ((v2, .d d2) :: (v1, .d d1) :: τ) an) := by
                refine ⟨ρ, τ, an, r1, ρ1, S, z1, fun v1 H1 S1 => ?_⟩
                refine ⟨ρ2, _, an, r3, ρ3, out1_ok S1 z2, z3, fun v2 H2 S2 => ⟨v1, v2, rfl, out1_ok S2 z4⟩⟩
              refine PyProof.Rows.Call_ (ld_blt I hg hm PyProof.Rows.boot_zip (PyProof.Rows.callWith_type1 (thn (ha.run pos pins s σ H _ I start) fun us s1 w => ?_) hs hpl))
              obtain ⟨vs, H1, I1, rv, v1, v2, rfl, S1⟩ := w
              obtain ⟨q, rfl, ok2⟩ := srcOk_of z6 S1
              obtain ⟨p', rfl, ok1⟩ := srcOk_of z5 S1.pop
              obtain ⟨u1, u2, rfl, rv1, rv2⟩ := Vals.two rv
              cases rv1
              cases rv2
              obtain ⟨as, m1, l1, _⟩ := ok1.see S1 (List.mem_cons_of_mem _ List.mem_cons_self)
              obtain ⟨bs, m2, l2, _⟩ := ok2.see S1 List.mem_cons_self
              rw [hK] at m1 m2
              obtain ⟨us1, t1, c1, lt1⟩ := Src.see I1 m1
              obtain ⟨us2, t2, c2, lt2⟩ := Src.see I1 m2
              refine zip_begins2 (p'.begins us1.toArray) (q.begins us2.toArray) c1 c2 fun h' hz hTI hTO g1 g2 hsz hk => wpAny_pyIter_zip hz ?_
              have I2 : L2.Inv X pins σ H1 { s1 with heap := h' } := I1.kept (t' := s1.toks) hk
              have sep := zip_sep2 (N := s1.heap.objs.size) (fp1 := [p'.at]) (fp2 := [q.at]) (fun b hb => by rw [List.mem_singleton.mp hb]; exact lt1) (fun b hb => by rw [List.mem_singleton.mp hb]; exact lt2)
              have lt2' : q.at < s1.heap.objs.size + 1 := Nat.lt_succ_of_lt lt2
              refine ⟨s1.heap.objs.size + 4, [s1.heap.objs.size + 4, s1.heap.objs.size + 2, s1.heap.objs.size + 3, s1.heap.objs.size, s1.heap.objs.size + 1], _, _, H1, rfl, I2, turn_q sep (Nat.ne_of_lt lt1) (Nat.ne_of_lt lt2'),
                ⟨hz, hTI, ⟨_, _, hTO⟩, Src.start g1, Src.start g2⟩, fun c hcm => ?_, k _ H1 [(.ref p'.at, .d d1), (.ref q.at, .d d2)] (AllD.cons (AllD.cons AllD.nil)) (S1.sub fun t ht => ?_) (itd_zp ok1 ok2 hK)⟩
              · have hle : s1.heap.objs.size ≤ c := by
                  have ec : c = s1.heap.objs.size + 4 ∨ c = s1.heap.objs.size + 2 ∨ c = s1.heap.objs.size + 3 ∨ c = s1.heap.objs.size ∨ c = s1.heap.objs.size + 1 := by simpa using hcm
                  rcases ec with e | e | e | e | e
                  all_goals
                    rw [e]
                    first | exact Nat.le_add_right _ _ | exact Nat.le_refl _
                exact I1.fpOk hle (I1.hok.fresh hle)
              · rcases List.mem_append.mp ht with ht | ht
                · rcases List.mem_cons.mp ht with rfl | ht
                  · exact List.mem_cons_of_mem _ List.mem_cons_self
                  · rw [List.mem_singleton.mp ht]
                    exact List.mem_cons_self
                · exact List.mem_cons_of_mem _ (List.mem_cons_of_mem _ ht)
end
end DL
namespace DL
open PySem L2

def mutIn (H : Hp) : Addr → Prop := fun a => ∃ o, H a = some o ∧ Mv o
/-- what a def of data promises -/
def spF (K : PySem.W.Frag) (n : Nat) (m : List D → Option D) : Sp := fun vs H Q _ => vs.length = n ∧ ∃ ds d, DnL K H vs ds ∧ m ds = some d ∧ ∀ v H', Le H H' → Dn K (msk (mutIn H) H') v d → Q v H'

section
variable {C : Fr} {X : Cx} {σ : L2.St} {H H' : Hp} {ρ ρ' : Rho} {τ : List (V × R)} {an : List (Addr × HO)} {v : V} {r : R} {x y z : D} {G : Ends}
theorem SDf.oo {fp : Nat → List Addr} (s : SDf C fp σ H ρ τ an) {a : Addr} (h : OO C.F fp an a) : mutIn H a := by
  rcases h with h | ⟨i, h⟩ | ⟨w, h⟩
  · exact (s.frn a h).2
  · obtain ⟨_, o, h1, h2⟩ := s.own i a h
    exact ⟨o, h1, .inl h2⟩
  · obtain ⟨_, h1, h2⟩ := s.ano a w h
    exact ⟨w, h1, .inl h2⟩
/-- behind a call -/
theorem SD.result (S : SD C σ H ρ τ an) (k : Le H H') {d : D} (h : Dn C.K (msk (mutIn H) H') v d) : SD C σ H' ρ ((v, .d d) :: τ) an := by
  obtain ⟨fp, s⟩ := S
  have s' := s.grow k
  refine ⟨fp, s'.tmps fun p hp => ?_⟩
  rcases List.mem_cons.mp hp with rfl | hp
  · exact Dn.mono (le_msk (fun a z => .inl (s.oo z)) fun a o _ e => e) h
  · exact s'.tmp p hp
theorem rdos_ok (S : SD C σ H ρ τ an) : ∀ {vs : List V} {rs : List R} {ds : List D}, vs.length = rs.length → (∀ p ∈ vs.zip rs, p ∈ τ) → rdos ρ rs = some ds → DnL C.K H vs ds
  | [], [], ds, _, _, h => by
    cases h
    exact DnL.nil
  | [], _ :: _, _, h, _, _ => by simp at h
  | _ :: _, [], _, h, _, _ => by simp at h
  | v :: vs, r :: rs, ds, hl, hm, h => by
    unfold rdos at h
    cases e1 : rdo ρ r with
    | none => simp [e1] at h
    | some x =>
      cases e2 : rdos ρ rs with
      | none => simp [e1, e2] at h
      | some xs =>
        simp [e1, e2] at h
        subst h
        exact DnL.cons (S.res (hm _ List.mem_cons_self) e1) (rdos_ok S (by simpa using hl) (fun p hp => hm p (List.mem_cons_of_mem _ hp)) e2)
def eCall (n : Nat) (m : List D → Option D) (f : FA) : FE := fun ρ => (f ρ).bind fun p => if p.1.length = n then (rdos p.2 p.1).bind fun ds => (m ds).map fun d => (.d d, p.2) else none
theorem imp_call {n : Nat} {m : List D → Option D} {f : FA} {E : XK} {Q : VK} (h : tE C (eCall n m f) σ H Q) : tCall (spF C.K n m) [] E (tA C f) σ H Q := by
  obtain ⟨ρ, τ, an, r, ρ', S, e, q⟩ := h
  unfold eCall at e
  cases e1 : f ρ with
  | none => simp [e1] at e
  | some p =>
    obtain ⟨rs, ρ1⟩ := p
    simp only [e1, Option.bind_some] at e
    split at e
    · rename_i hn
      cases e2 : rdos ρ1 rs with
      | none => simp [e2] at e
      | some ds =>
        cases e3 : m ds with
        | none => simp [e2, e3] at e
        | some d =>
          simp [e2, e3] at e
          obtain ⟨rfl, rfl⟩ := e
          refine ⟨ρ, τ, an, rs, _, S, e1, fun vs H1 hl S1 => ?_⟩
          refine ⟨by rw [List.append_nil, hl]; exact hn, ds, d, ?_, e3, fun v H' k hd => q v H' ?_⟩
          · rw [List.append_nil]
            exact rdos_ok S1 hl (fun p hp => List.mem_append_left _ hp) e2
          · exact (S1.result k hd).keepN fun p hp => List.mem_append_right _ hp
    · cases e
section
variable {k n : Nat} {f : Addr} {fd : FuncData} {ps : List Str} {m : List D → Option D} {g : Str} {p pos : Pos} {e : Expr} {es : List Expr} {fa : FA} {CX : CXT}
theorem de_call (hK : C.K = X.K) (F : FnOk X.prog X.w X.K X.mg X.base (L2.CX X.prog X.w) k f fd ps (spF X.K n m)) (hr : Room k X.A) (hg : Gl X g) (hm : X.mg g = some (.ref f)) (hk : PySem.W.keepIn X.K (.ref f) = true) (hb : Binds X.K fd ps [])
    (ha : PA X (e :: es) (tA C fa)) (hdb : (g == ("__debug__" : Str)) = false := by decide) (he : starEach (e :: es) X.env = (false, eval e X.env) :: starEach es X.env := by rfl) (hpl : (backTo pos (starEach es X.env)).any (·.1) = false := by rfl) :
    PE X (.Call (.Name g p) (e :: es) [] pos) (tE C (eCall n m fa)) := by
  rw [← hK] at F
  exact (pe_call (dvs := []) (by rw [hK] at F; exact F) hr hg hm hk hb .nil passL ha hdb he hpl).dl fun _ _ _ h => by
    have z := imp_call (E := E0) h
    rw [hK] at z
    exact z
theorem de_call0 (hK : C.K = X.K) (F : FnOk X.prog X.w X.K X.mg X.base (L2.CX X.prog X.w) k f fd ps (spF X.K n m)) (hr : Room k X.A) (hg : Gl X g) (hm : X.mg g = some (.ref f)) (hk : PySem.W.keepIn X.K (.ref f) = true) (hb : Binds X.K fd ps [])
    (hdb : (g == ("__debug__" : Str)) = false := by decide) : PE X (.Call (.Name g p) [] [] pos) (tE C (eCall n m aNil)) :=
  (pe_call0 (dvs := []) F hr hg hm hk hb .nil passL hdb).dl fun σ H Q h => by
    have z := imp_call (E := E0) h
    rw [hK] at z
    obtain ⟨ρ, τ, an, rs, ρ', S, e, q⟩ := z
    cases e
    exact q [] H rfl S
/-- keywords behind positional arguments, in the parameters' order -/
def gpos (α : Type) (j : Nat) (us ws : List α) : List α := if us.length = j then us ++ ws else []
theorem gpos_rel {j : Nat} {vs : List V} {us : List Value} {zs : List V} {ws : List Value} (a : Vals vs us) (b : Vals zs ws) : Vals (gpos V j vs zs) (gpos Value j us ws) := by
  unfold gpos
  rw [a.length]
  split
  · exact a.append b
  · exact .nil
def aApp (f g : FA) : FA := fun ρ => (f ρ).bind fun p => (g p.2).map fun q => (p.1 ++ q.1, q.2)
theorem aApp_inv {f g : FA} {rs : List R} (h : aApp f g ρ = some (rs, ρ')) : ∃ as ρ1 bs, f ρ = some (as, ρ1) ∧ g ρ1 = some (bs, ρ') ∧ rs = as ++ bs := by
  unfold aApp at h
  cases e1 : f ρ with
  | none => simp [e1] at h
  | some p =>
    obtain ⟨a, ρ1⟩ := p
    cases e2 : g ρ1 with
    | none => simp [e1, e2] at h
    | some q =>
      obtain ⟨bs, ρ2⟩ := q
      simp [e1, e2] at h
      obtain ⟨rfl, rfl⟩ := h
      exact ⟨a, ρ1, bs, rfl, e2, rfl⟩
theorem _root_.L2.PK.dl {kws : List Keyword} {t t' : TA} (h : PK X kws t) (k : ∀ σ H Q, t' σ H Q → t σ H Q) : PK X kws t' := ⟨fun pos pins s σ H Q I q => h.run pos pins s σ H Q I (k σ H Q q)⟩
theorem dk_nil : PK X [] (tA C aNil) := pk_nil.dl fun _ _ _ h => imp_nil h
theorem dk_cons {nm : Option Str} {kpos : Pos} {kws : List Keyword} {fe : FE} {fk : FA} (ha : PE X e (tE C fe)) (hr : PK X kws (tA C fk)) : PK X (⟨nm, e, kpos⟩ :: kws) (tA C (aCons fe fk)) := (pk_cons ha hr).dl fun _ _ _ h => imp_cons h
theorem imp_callK {j : Nat} {fk : FA} {E : XK} {Q : VK} (hj : ∀ ρ rs ρ', fa ρ = some (rs, ρ') → rs.length = j) (h : tE C (eCall n m (aApp fa fk)) σ H Q) : tCallK (spF C.K n m) (gpos V j) E (tA C fa) (tA C fk) σ H Q := by
  obtain ⟨ρ, τ, an, r, ρ', S, e, q⟩ := h
  unfold eCall at e
  cases e1 : aApp fa fk ρ with
  | none => simp [e1] at e
  | some p =>
    obtain ⟨rs, ρ1⟩ := p
    obtain ⟨as, ρ2, bs, h1, h2, rfl⟩ := aApp_inv e1
    simp only [e1, Option.bind_some] at e
    split at e
    · rename_i hn
      cases e2 : rdos ρ1 (as ++ bs) with
      | none => simp [e2] at e
      | some ds =>
        cases e3 : m ds with
        | none => simp [e2, e3] at e
        | some d =>
          simp [e2, e3] at e
          obtain ⟨rfl, rfl⟩ := e
          refine ⟨ρ, τ, an, as, ρ2, S, h1, fun vs H1 hl S1 => ⟨ρ2, _, an, bs, _, S1, h2, fun zs H2 hl2 S2 => ?_⟩⟩
          have ej : gpos V j vs zs = vs ++ zs := if_pos (by rw [hl]; exact hj _ _ _ h1)
          have hz : (vs ++ zs).zip (as ++ bs) = vs.zip as ++ zs.zip bs := List.zip_append hl
          refine ⟨by rw [ej, List.length_append, hl, hl2, ← List.length_append]; exact hn, ds, d, ?_, e3, fun v H' k hd => q v H' ?_⟩
          · rw [ej]
            refine rdos_ok S2 (by rw [List.length_append, List.length_append, hl, hl2]) (fun p hp => ?_) e2
            rw [hz] at hp
            rcases List.mem_append.mp hp with hp | hp
            · exact List.mem_append_right _ (List.mem_append_left _ hp)
            · exact List.mem_append_left _ hp
          · exact (S2.result k hd).keepN fun p hp => List.mem_append_right _ (List.mem_append_right _ hp)
    · cases e
theorem de_callK {j : Nat} {kws : List Keyword} {fk : FA} {ks : List Str} (hK : C.K = X.K) (F : FnOk X.prog X.w X.K X.mg X.base (L2.CX X.prog X.w) k f fd ps (spF X.K n m)) (hr : Room k X.A) (hg : Gl X g) (hm : X.mg g = some (.ref f)) (hk : PySem.W.keepIn X.K (.ref f) = true) (hb : KBinds X.K fd ps ks (gpos Value j) (gpos V j))
    (ha : PA X (e :: es) (tA C fa)) (hkw : PK X kws (tA C fk)) (hj : ∀ ρ rs ρ', fa ρ = some (rs, ρ') → rs.length = j) (hall : (backToKw pos (keywordEach kws X.env)).all (·.1.isSome) = true := by rfl) (hks : (backToKw pos (keywordEach kws X.env)).filterMap (·.1) = ks := by rfl)
    (hdb : (g == ("__debug__" : Str)) = false := by decide) (he : starEach (e :: es) X.env = (false, eval e X.env) :: starEach es X.env := by rfl)
    (hpl : ((backTo pos (starEach (e :: es) X.env)).any (·.1) || (backToKw pos (keywordEach kws X.env)).any (·.1.isNone)) = false := by rfl) :
    PE X (.Call (.Name g p) (e :: es) kws pos) (tE C (eCall n m (aApp fa fk))) :=
  (pe_callK F hr hg hm hk hb passL ha hkw hall hks hdb he hpl).dl fun σ H Q h => by
    have z := imp_callK (E := E0) hj h
    rw [hK] at z
    exact z
/-- keywords alone -/
theorem de_callK0 {kws : List Keyword} {fk : FA} {ks : List Str} (hK : C.K = X.K) (F : FnOk X.prog X.w X.K X.mg X.base (L2.CX X.prog X.w) k f fd ps (spF X.K n m)) (hr : Room k X.A) (hg : Gl X g) (hm : X.mg g = some (.ref f)) (hk : PySem.W.keepIn X.K (.ref f) = true) (hb : KBinds X.K fd ps ks (gpos Value 0) (gpos V 0))
    (hkw : PK X kws (tA C fk)) (hall : (backToKw pos (keywordEach kws X.env)).all (·.1.isSome) = true := by rfl) (hks : (backToKw pos (keywordEach kws X.env)).filterMap (·.1) = ks := by rfl)
    (hdb : (g == ("__debug__" : Str)) = false := by decide) (hpl : (backToKw pos (keywordEach kws X.env)).any (·.1.isNone) = false := by rfl) :
    PE X (.Call (.Name g p) [] kws pos) (tE C (eCall n m (aApp aNil fk))) := by
  refine ⟨fun pins s σ H Q I h => ?_⟩
  have z := imp_callK (E := E0) (j := 0) (fa := aNil) (fun ρ rs ρ' e => by cases e; rfl) h
  rw [hK] at z
  obtain ⟨ρ, τ, an, rs, ρ', S, e, q⟩ := z
  cases e
  have z := q [] H rfl S
  refine wpAny_Call_Name_kw (ld_glob I hg hm ?_ hdb)
  refine PySem.W.callWith_KW0 (h₀ := X.base) I.ok.mod.kin hk hall (thn (hkw.run pos pins s σ H _ I z) fun ws s2 w => ?_) hpl
  obtain ⟨zs, H2, I2, rz, q2⟩ := w
  refine ⟨I2.kIn, ?_⟩
  rw [hks]
  exact run_fnk (us := []) (vs := []) F hr hb passL I2 .nil rz q2
end

/-! ### a def of data, by its body -/
def pad (n : Nat) (bs : List B) : Rho := bs.map some ++ List.replicate (n - bs.length) none
def endD : Out → Option D
  | .ret d _ => some d
  | .next _ => some .none
  | _ => none
def runA (n : Nat) (F : FS) (ds : List D) : Option D := ((F (pad n (ds.map B.d))).bind endD).bind fun d => if imm d = true then some d else none
def bindArg (x : D) : Option B := if imm x = true then some (.d x) else match x with
  | .list xs => if immL xs = true then some (.r xs) else none
  | _ => none
def bindArgs : List D → Option (List B)
  | [] => some []
  | x :: xs => (bindArg x).bind fun b => (bindArgs xs).map fun bs => b :: bs
def runB (n : Nat) (F : FS) (ds : List D) : Option D := (bindArgs ds).bind fun bs => (F (pad n bs)).bind endD
theorem bindArgs_len : ∀ {ds : List D} {bs : List B}, bindArgs ds = some bs → bs.length = ds.length
  | [], bs, h => by
    cases h
    rfl
  | x :: xs, bs, h => by
    unfold bindArgs at h
    cases e1 : bindArg x with
    | none => simp [e1] at h
    | some b =>
      cases e2 : bindArgs xs with
      | none => simp [e1, e2] at h
      | some cs =>
        simp [e1, e2] at h
        subst h
        simp [bindArgs_len e2]
theorem bindArgs_at : ∀ {ds : List D} {bs : List B} {i : Nat} {b : B}, bindArgs ds = some bs → bs[i]? = some b → ∃ x, ds[i]? = some x ∧ bindArg x = some b
  | [], bs, i, b, h, e => by
    cases h
    simp at e
  | x :: xs, bs, i, b, h, e => by
    unfold bindArgs at h
    cases e1 : bindArg x with
    | none => simp [e1] at h
    | some c =>
      cases e2 : bindArgs xs with
      | none => simp [e1, e2] at h
      | some cs =>
        simp [e1, e2] at h
        subst h
        cases i with
        | zero =>
          simp at e
          subst e
          exact ⟨x, rfl, e1⟩
        | succ i => exact bindArgs_at e2 (i := i) (by simpa using e)
theorem pad_at {n : Nat} {bs : List B} {i : Nat} {b : B} (h : (pad n bs)[i]? = some (some b)) : bs[i]? = some b := by
  unfold pad at h
  by_cases hi : i < bs.length
  · rw [List.getElem?_append_left (by simpa using hi), List.getElem?_map] at h
    cases e : bs[i]? with
    | none =>
      rw [e] at h
      cases h
    | some c =>
      rw [e] at h
      cases h
      rfl
  · rw [List.getElem?_append_right (by simpa using hi), List.getElem?_replicate] at h
    split at h <;> cases h
theorem start_at {N : List Str} {vs : List V} {i : Nat} {v : V} (h : vs[i]? = some v) : (start N vs)[i]? = some (some v) := by
  have hi := (List.getElem?_eq_some_iff.mp h).1
  unfold L2.start
  rw [List.getElem?_append_left (by simpa using hi), List.getElem?_map, h]
  rfl
theorem pad_len {N : List Str} {vs : List V} {bs : List B} (h : vs.length = bs.length) : (pad N.length bs).length = (start N vs).length := by
  unfold pad L2.start
  simp [h]
theorem mt_hide {H H' : Hp} (k : Le H H') : ∀ a xs, Rd H' a (.tup xs) → ¬ mutIn H a := fun a xs h z => by
  obtain ⟨o, h1, h2⟩ := z
  rcases h with q | ⟨u, q⟩
  · rw [k a o h1] at q
    cases q
    exact h2.ntup
  · rw [k a o h1] at q
    cases q
    exact h2.nfrz
/-- the entry, all arguments as data -/
theorem sd_startA {K : PySem.W.Frag} {N : List Str} {vs : List V} {ds : List D} (h : DnL K H vs ds) : SD ⟨K, fun _ => False, fun _ => False, H, none, [], fun _ _ _ => False, fun _ => none⟩ (start N vs) H (pad N.length (ds.map B.d)) [] [] := by
  have all : Le H (msk (OO (fun _ => False) (fun _ => []) []) H) := fun a o e => msk_of (fun z => by
    rcases z with z | ⟨i, z⟩ | ⟨w, z⟩
    · exact z
    · cases z
    · cases z) e
  refine ⟨fun _ => [], fun p hp => (by cases hp), pad_len (by simp [h.1]), fun a o _ e => e, fun a z => z.elim, fun i j a z => (by cases z), fun i a z => (by cases z), List.nodup_nil, fun i a z => (by cases z), fun a o z => (by cases z), fun a z => z.elim, fun i b e => ?_, fun _ _ => rfl, fun p z => (by cases z)⟩
  have e1 := pad_at e
  rw [List.getElem?_map] at e1
  cases e2 : ds[i]? with
  | none =>
    rw [e2] at e1
    cases e1
  | some d =>
    rw [e2] at e1
    cases e1
    obtain ⟨v, h1, h2⟩ := h.at e2
    exact ⟨v, start_at h1, rfl, h2.mono all⟩
/-- the entry, no list of others among data -/
theorem sd_startB {K : PySem.W.Frag} {N : List Str} {vs : List V} {ds : List D} {bs : List B} (h : DnL K H vs ds) (hb : bindArgs ds = some bs) : SD ⟨K, mutIn H, fun _ => False, H, none, [], fun _ _ _ => False, fun _ => none⟩ (start N vs) H (pad N.length bs) [] [] := by
  have hid : ∀ a xs, Rd H a (.tup xs) → ¬ OO (mutIn H) (fun _ => []) [] a := fun a xs h z => by
    rcases z with z | ⟨i, z⟩ | ⟨w, z⟩
    · exact mt_hide (Le.refl H) a xs h z
    · cases z
    · cases z
  refine ⟨fun _ => [], fun p hp => (by cases hp), pad_len (by rw [h.1, bindArgs_len hb]), fun a o _ e => e, fun a z => z.elim, fun i j a z => (by cases z), fun i a z => (by cases z), List.nodup_nil, fun i a z => (by cases z), fun a o z => (by cases z), fun a z => ?_, fun i b e => ?_, fun _ _ => rfl, fun p z => (by cases z)⟩
  · obtain ⟨o, z1, z2⟩ := z
    exact ⟨⟨o, z1⟩, o, z1, z2⟩
  · have e1 := pad_at e
    obtain ⟨x, hx, hbx⟩ := bindArgs_at hb e1
    obtain ⟨v, h1, h2⟩ := h.at hx
    refine ⟨v, start_at h1, ?_⟩
    unfold bindArg at hbx
    split at hbx
    · rename_i hi
      cases hbx
      exact ⟨rfl, h2.hide hid hi⟩
    · split at hbx
      · split at hbx
        · rename_i xs hi
          cases hbx
          obtain ⟨a, us, rfl, g1, g2⟩ := h2.lst_inv
          exact ⟨rfl, a, us, rfl, fun z => z, g1, g2.1, fun j w y p q => (g2.2 j w y p q).hide hid (immL_at hi q)⟩
        · cases hbx
      · cases hbx
section
variable {P : Program} {w : World} {K : PySem.W.Frag} {mg : Str → Option Value} {base : Heap} {n qual : Str} {st : Stmt} {f : Addr} {fd : FuncData} {N ps : List Str} {k : Nat}
/-- a def whose body is walked over data -/
abbrev BodyOk (P : Program) (w : World) (K : PySem.W.Frag) (mg : Str → Option Value) (base : Heap) (N : List Str) (qual : Str) (st : Stmt) (f : Addr) (k : Nat) (F : FS) : Prop :=
  ∀ (C : Fr) (cdv : Value) (A : Around) (outer : List Env) (s : Shared) (H : Hp) (E : XK), C.K = K → Room k (A.deeper (PyProof.Rows.envOfC qual (defScope st) s.heap.objs.size f cdv)) →
    PSs (cxOf (L2.CX P w) P w K mg base N qual (defScope st) f cdv A outer s H E).nox (defBody st) (tS C F)
theorem fnA {F : FS} (Fn : Fun K n qual st f fd) (S : FnScope N ps (defScope st)) (hb : BodyOk P w K mg base N qual st f k F) : FnOk P w K mg base (L2.CX P w) (k + 1) f fd ps (spF K ps.length (runA N.length F)) := by
  refine Fn.okX S (fun vs H Q E h => h.1) fun cdv A outer s H vs Q E hr h => ?_
  obtain ⟨hl, ds, d, hd, hm, q⟩ := h
  let C : Fr := ⟨K, fun _ => False, fun _ => False, H, none, [], fun _ _ _ => False, fun _ => none⟩
  refine ⟨_, (hb C cdv A outer s H E rfl hr).nox, ?_⟩
  unfold runA at hm
  cases e1 : F (pad N.length (ds.map B.d)) with
  | none => simp [e1] at hm
  | some o =>
    cases e2 : endD o with
    | none => simp [e1, e2] at hm
    | some d' =>
      simp [e1, e2] at hm
      obtain ⟨hi, rfl⟩ := hm
      refine ⟨_, [], [], o, AllD.nil, sd_startA hd, e1, ?_⟩
      have le : ∀ {σ : L2.St} {H' : Hp} {ρ' : Rho} {τ : List (V × R)}, SD C σ H' ρ' τ [] → Le H H' := fun S' => by
        obtain ⟨fp, s'⟩ := S'
        exact fun a o e => s'.ext a o (fun z => z) e
      cases o with
      | next ρ' =>
        cases e2
        exact fun σ' H' S' => q .non H' (le S') .non
      | ret d2 ρ' =>
        cases e2
        exact fun v σ' H' S' => q v H' (le S') (S'.here.hide (mt_hide (le S')) hi)
      | brk ρ' => cases e2
      | cont ρ' => cases e2
      | exc x => cases e2
theorem fnB {F : FS} (Fn : Fun K n qual st f fd) (S : FnScope N ps (defScope st)) (hb : BodyOk P w K mg base N qual st f k F) : FnOk P w K mg base (L2.CX P w) (k + 1) f fd ps (spF K ps.length (runB N.length F)) := by
  refine Fn.okX S (fun vs H Q E h => h.1) fun cdv A outer s H vs Q E hr h => ?_
  obtain ⟨hl, ds, d, hd, hm, q⟩ := h
  let C : Fr := ⟨K, mutIn H, fun _ => False, H, none, [], fun _ _ _ => False, fun _ => none⟩
  refine ⟨_, (hb C cdv A outer s H E rfl hr).nox, ?_⟩
  unfold runB at hm
  cases e0 : bindArgs ds with
  | none => simp [e0] at hm
  | some bs =>
    cases e1 : F (pad N.length bs) with
    | none => simp [e0, e1] at hm
    | some o =>
      simp only [e0, e1, Option.bind_some] at hm
      refine ⟨_, [], [], o, AllD.nil, sd_startB hd e0, e1, ?_⟩
      have le : ∀ {σ : L2.St} {H' : Hp} {ρ' : Rho} {τ : List (V × R)}, SD C σ H' ρ' τ [] → Le H H' := fun S' => by
        obtain ⟨fp, s'⟩ := S'
        exact fun a o e => s'.ext a o (fun z => z) e
      cases o with
      | next ρ' =>
        cases hm
        exact fun σ' H' S' => q .non H' (le S') .non
      | ret d2 ρ' =>
        cases hm
        refine fun v σ' H' S' => q v H' (le S') ?_
        obtain ⟨fp, s'⟩ := S'
        exact Dn.mono (le_msk (fun a z => .inl (.inl z)) fun a o _ e => e) (s'.tmp _ List.mem_cons_self)
      | brk ρ' => cases hm
      | cont ρ' => cases hm
      | exc x => cases hm
end
end
end DL
namespace DL
open PySem L2

section
variable {C : Fr} {X : Cx} {fp : Nat → List Addr} {σ : L2.St} {H H' : Hp} {ρ ρ' : Rho} {τ : List (V × R)} {an an' : List (Addr × HO)} {v : V} {r : R} {x y z : D} {G : Ends} {p : Addr} {o : HO}

theorem SD.anp (S : SD C σ H ρ τ an) (h : an.Perm an') : SD C σ H ρ τ an' := by
  obtain ⟨fp, s⟩ := S
  have e : OO C.F fp an = OO C.F fp an' := by
    funext a
    unfold OO
    simp only [h.mem_iff]
  refine ⟨fp, s.tabk (fun a u e _ _ => e) (fun i a h => .inl ⟨i, h⟩) (fun a w z => .inr (.inl ⟨w, h.mem_iff.mpr z⟩)), s.len, s.ext, s.vol, s.inj, fun i a q w z => s.ani i a q w (h.mem_iff.mpr z), (h.map _).nodup_iff.mp s.and, s.own, fun a w q => s.ano a w (h.mem_iff.mpr q), s.frn, fun i b q => ?_, s.emp, fun q hq => ?_⟩
  · rw [← e]
    exact s.bnd i b q
  · rw [← e]
    exact s.tmp q hq
/-- a cell of nobody's is forgotten -/
theorem SD.forget (S : SD C σ H ρ τ ((p, o) :: an)) : SD C σ H ρ τ an := by
  obtain ⟨fp, s⟩ := S
  have m : Le (msk (OO C.F fp ((p, o) :: an)) H) (msk (OO C.F fp an) H) := le_msk (fun a h => by
    rcases h with h | h | ⟨w, h⟩
    · exact .inl (.inl h)
    · exact .inl (.inr (.inl h))
    · exact .inl (.inr (.inr ⟨w, List.mem_cons_of_mem _ h⟩))) fun a u _ e => e
  refine ⟨fp, s.tabk (fun a u e _ _ => e) (fun i a h => .inl ⟨i, h⟩) (fun a w z => .inr (.inl ⟨w, List.mem_cons_of_mem _ z⟩)), s.len, s.ext, s.vol, s.inj, fun i a h w z => s.ani i a h w (List.mem_cons_of_mem _ z), (List.nodup_cons.mp s.and).2, s.own, fun a w h => s.ano a w (List.mem_cons_of_mem _ h), s.frn, fun i b e => ?_, s.emp, fun q hq => (s.tmp q hq).mono m⟩
  obtain ⟨v, h1, h2⟩ := s.bnd i b e
  exact ⟨v, h1, h2.mono m fun a _ u e => e⟩
theorem SD.cell (S : SD C σ H ρ τ an) (h : (p, o) ∈ an) : H p = some o := let ⟨_, s⟩ := S; (s.ano p o h).2.1

/-! ### dicts with text keys -/
abbrev FM := Rho → Option (List (Str × D) × Rho)
abbrev keysT (kvs : List (Str × D)) : List Key := kvs.map fun p => Sum.inr p.1
abbrev tzm (vs : List (Key × V)) (kvs : List (Str × D)) : List (V × R) := tz (vs.map (·.2)) (kvs.map (·.2))
/-- a new dict, nobody else's -/
def tM (C : Fr) (f : FM) : TE := fun σ H Q => ∃ ρ τ an kvs ρ', SD C σ H ρ τ an ∧ f ρ = some (kvs, ρ') ∧ ∀ p vs H', vs.map (·.1) = keysT kvs → SD C σ H' ρ' (tzm vs kvs ++ τ) ((p, .dK vs) :: an) → Q (.ref p) H'
/-- pairs of a text and data -/
def pairsD : List D → Option (List (Str × D))
  | [] => some []
  | .tuple [.str k, x] :: xs => (pairsD xs).map fun kvs => (k, x) :: kvs
  | _ :: _ => none
theorem pairsD_inv : ∀ {xs : List D} {kvs : List (Str × D)}, pairsD xs = some kvs → xs = kvs.map fun p => PyData.tuple [.str p.1, p.2]
  | [], kvs, h => by
    cases h
    rfl
  | x :: xs, kvs, h => by
    unfold pairsD at h
    split at h
    · rename_i e
      cases e
    · rename_i k y ys e
      injection e with e1 e2
      subst e2
      cases e3 : pairsD xs with
      | none => simp [e3] at h
      | some ws =>
        simp [e3] at h
        subst h
        rw [e1, pairsD_inv e3]
        rfl
    · cases h
def dictD : D → Option (List (Str × D))
  | .list xs => pairsD xs
  | .tuple xs => pairsD xs
  | _ => none
def mDict (f : FE) : FM := fun ρ => (f ρ).bind fun p => (rdo p.2 p.1).bind fun x => (dictD x).bind fun kvs => if (kvs.map (·.1)).Nodup ∧ kvs.length ≤ sizeLine then some (kvs, p.2) else none
def rDict (C : Fr) : List V → Hp → VK → Prop := fun xs H Q => ∃ σ ρ τ an x a y kvs, xs = [x] ∧ SD C σ H ρ ((x, a) :: τ) an ∧ rdo ρ a = some y ∧ dictD y = some kvs ∧ (kvs.map (·.1)).Nodup ∧ kvs.length ≤ sizeLine ∧
  ∀ p vs H', vs.map (·.1) = keysT kvs → SD C σ H' ρ (tzm vs kvs ++ τ) ((p, .dK vs) :: an) → Q (.ref p) H'
theorem imp_dict {f : FE} {Q : VK} (h : tM C (mDict f) σ H Q) : tCB (rDict C) (tA C (aCons f aNil)) σ H Q := by
  obtain ⟨ρ, τ, an, zs, ρ', S, e, q⟩ := h
  unfold mDict at e
  cases e1 : f ρ with
  | none => simp [e1] at e
  | some p =>
    obtain ⟨a, ρ1⟩ := p
    cases e2 : rdo ρ1 a with
    | none => simp [e1, e2] at e
    | some y =>
      cases e3 : dictD y with
      | none => simp [e1, e2, e3] at e
      | some ws =>
        simp only [e1, e2, e3, Option.bind_some] at e
        split at e
        · rename_i hn
          cases e
          refine ⟨ρ, τ, an, [a], ρ', S, by simp [aCons, aNil, e1], fun vs H1 hl S1 => ?_⟩
          obtain ⟨x, rfl⟩ := one_of hl
          exact ⟨σ, _, τ, an, x, a, y, _, rfl, S1, e2, e3, hn.1, hn.2, q⟩
        · cases e
/-- the pairs' parts -/
theorem pairs_parts {K : PySem.W.Frag} : ∀ {kvs : List (Str × D)} {vs : List V}, DnL K H vs (kvs.map fun p => PyData.tuple [.str p.1, p.2]) → ∃ (ps : List Addr) (ws : List V), vs = ps.map V.ref ∧ ps.length = kvs.length ∧ ws.length = kvs.length ∧ DnL K H ws (kvs.map (·.2)) ∧
    ∀ (j : Nat) b w, ps[j]? = some b → ws[j]? = some w → ∀ k d, kvs[j]? = some (k, d) → TpS H b [.str k, w]
  | [], [], _ => ⟨[], [], rfl, rfl, rfl, DnL.nil, fun j b w e => by simp at e⟩
  | [], _ :: _, h => by simp [DnL] at h
  | _ :: _, [], h => by simp [DnL] at h
  | kv :: kvs, v :: vs, h => by
    obtain ⟨h1, h2⟩ := DnL.head h
    obtain ⟨ps, ws, rfl, l1, l2, d2, t2⟩ := pairs_parts h2
    obtain ⟨a, xs, rfl, t1, t3⟩ := h1.tup_inv
    match xs, t3 with
    | [u, w], t3 =>
      obtain ⟨g1, g2⟩ := DnL.head t3
      obtain ⟨g3, g4⟩ := DnL.head g2
      have e := g1.str_inv
      subst e
      refine ⟨a :: ps, w :: ws, rfl, by simp [l1], by simp [l2], .cons g3 d2, fun j b w' e1 e2 k d e3 => ?_⟩
      cases j with
      | zero =>
        simp at e1 e2 e3
        subst e1
        subst e2
        rw [e3] at t1
        exact t1
      | succ j => exact t2 j b w' (by simpa using e1) (by simpa using e2) k d (by simpa using e3)
    | [], t3 => simp [DnL] at t3
    | [_], t3 => simp [DnL] at t3
    | _ :: _ :: _ :: _, t3 => simp [DnL] at t3
theorem merged_nodup {κ : Type} [DecidableEq κ] : ∀ (more acc : List (κ × Value)), ((acc ++ more).map (·.1)).Nodup → merged acc more = acc ++ more
  | [], acc, _ => by simp [merged]
  | q :: more, acc, h => by
    have e : stored acc q.1 q.2 = acc ++ [q] := by
      unfold stored
      rw [if_neg]
      rw [List.map_append, List.nodup_append] at h
      intro z
      obtain ⟨u, hu, hz⟩ := List.any_eq_true.mp z
      exact h.2.2 u.1 (List.mem_map.mpr ⟨u, hu, rfl⟩) q.1 (List.mem_map.mpr ⟨q, List.mem_cons_self, rfl⟩) (by simpa using hz)
    show merged (stored acc q.1 q.2) more = _
    rw [e, merged_nodup more (acc ++ [q]) (by simpa using h)]
    simp
theorem kv_zip : ∀ {ks : List Str} {ws : List V} {us : List Value}, ks.length = ws.length → Vals ws us → KV ((ks.map Sum.inr).zip ws) ((ks.map (Sum.inr : Str → Key)).zip us)
  | [], [], _, _, .nil => .nil
  | [], _ :: _, _, h, _ => by simp at h
  | _ :: _, [], _, h, _ => by simp at h
  | k :: ks, w :: ws, _, h, .cons r t => .cons ⟨rfl, r⟩ (kv_zip (by simpa using h) t)
theorem vals_at : ∀ {ws : List V} {us : List Value} {j : Nat} {u : Value}, Vals ws us → us[j]? = some u → ∃ w, ws[j]? = some w ∧ RelV w u
  | _, _, j, u, .nil, e => by simp at e
  | _, _, 0, u, .cons r t, e => by
    simp at e
    subst e
    exact ⟨_, rfl, r⟩
  | _, _, j + 1, u, .cons r t, e => by
    obtain ⟨w, h1, h2⟩ := vals_at t (j := j) (by simpa using e)
    exact ⟨w, by simpa using h1, h2⟩
/-- values for items -/
theorem vals_ex {pins : List (Addr × Obj)} {s : Shared} (I : L2.Inv X pins σ H s) : ∀ {ps : List Addr} {ks : List Str} {ws : List V}, ps.length = ks.length → ws.length = ks.length → (∀ (j : Nat) b w k, ps[j]? = some b → ws[j]? = some w → ks[j]? = some k → TpS H b [.str k, w]) →
    ∃ us ts : List Value, Vals ws us ∧ ts.length = us.length ∧ ∀ (j : Nat) b k u, ps[j]? = some b → ks[j]? = some k → us[j]? = some u → ∃ t, ts[j]? = some t ∧ PyProof.Rows.IsTup s.heap b #[t, u] ∧ (mixKind X.prog X.w).is (Sum.inr k) t = true
  | [], [], [], _, _, _ => ⟨[], [], .nil, rfl, fun j b k u e => by simp at e⟩
  | [], [], _ :: _, _, h, _ => by simp at h
  | [], _ :: _, _, h, _, _ => by simp at h
  | _ :: _, [], _, h, _, _ => by simp at h
  | _ :: _, _ :: _, [], _, h, _ => by simp at h
  | b :: ps, k :: ks, w :: ws, h1, h2, h3 => by
    obtain ⟨us, ts, r, l, q⟩ := vals_ex I (ps := ps) (ks := ks) (ws := ws) (by simpa using h1) (by simpa using h2) fun j b w k e1 e2 e3 => h3 (j + 1) b w k (by simpa using e1) (by simpa using e2) (by simpa using e3)
    obtain ⟨its, rv, ht, _⟩ := I.tuple ((h3 0 b w k rfl rfl rfl).sq (K := X.K))
    obtain ⟨t, u, ei, ru, ry⟩ := vals2 rv
    subst ei
    refine ⟨u :: us, t :: ts, .cons ry r, by simp [l], fun j b' k' u' e1 e2 e3 => ?_⟩
    cases j with
    | zero =>
      simp at e1 e2 e3
      subst e1
      subst e2
      subst e3
      exact ⟨t, rfl, ht, kV_is (P := X.prog) (w := X.w) (k := Sum.inr k) ru⟩
    | succ j =>
      obtain ⟨t', g1, g2, g3⟩ := q j b' k' u' (by simpa using e1) (by simpa using e2) (by simpa using e3)
      exact ⟨t', by simpa using g1, g2, g3⟩
theorem cr_dictG (hK : C.K = X.K) (hc : X.calm = true) : CallR X (.type "dict") (rDict C) := by
  intro pins s σ H xs us Q I r h
  obtain ⟨σ', ρ, τ, an, x, a, y, kvs, rfl, S, h1, h2, hn, hz, q⟩ := h
  obtain ⟨u, rfl, rx⟩ := vals1 r
  have n1 := S.res List.mem_cons_self h1
  have key : ∀ (T : String) (a1 : Addr) (vs : List V), x = .ref a1 → vs.length = kvs.length → DnL C.K H vs (kvs.map fun p => PyData.tuple [.str p.1, p.2]) → SD C σ' H ρ (tz vs (kvs.map fun p => PyData.tuple [.str p.1, p.2]) ++ (x, a) :: τ) an →
      (∀ (items : Array Value) Ts ps, ∃ fp wr OK, PairArg X.prog X.w T a1 fp wr (List.length ps) (PairRel ps) OK ∧ wr = [] ∧ ∀ h, PlainSeq T h a1 items → PairItems h items Ts ps → OK h) →
      (∃ its : List Value, Vals vs its ∧ PlainSeq T s.heap a1 its.toArray) → wpAny (model X.prog X.w) X.A (call (.type "dict") [u]) (EP X pins σ Q) X.xe s := by
    intro T a1 vs ex hl hd S1 hP ⟨its, rv, hp⟩
    subst ex
    cases rx
    obtain ⟨ps, ws, ev, l1, l2, d2, t2⟩ := pairs_parts hd
    subst ev
    have ei := refs_at rv
    subst ei
    obtain ⟨us, ts, rw_, lt, tq⟩ := vals_ex I (ps := ps) (ks := kvs.map (·.1)) (ws := ws) (by simp [l1]) (by simp [l2]) fun j b w k e1 e2 e3 => by
      rw [List.getElem?_map] at e3
      cases e4 : kvs[j]? with
      | none => simp [e4] at e3
      | some q =>
        obtain ⟨k', d⟩ := q
        simp [e4] at e3
        subst e3
        exact t2 j b w e1 e2 k' d e4
    have lu := rw_.length
    obtain ⟨fp, wr, OK, PA, rfl, ok⟩ := hP (ps.map Value.ref).toArray (fun j => ps.getD j 0) (ts.zip us)
    have PI : PairItems s.heap (ps.map Value.ref).toArray (fun j => ps.getD j 0) (ts.zip us) := by
      refine ⟨by simp [lt]; omega, fun j k v e => ?_⟩
      rw [List.getElem?_zip_eq_some] at e
      have hj : j < ps.length := by
        have := (List.getElem?_eq_some_iff.mp e.2).1
        omega
      have hk : j < kvs.length := by omega
      obtain ⟨t, g1, g2, g3⟩ := tq j ps[j] (kvs[j]).1 v (by simp [hj]) (by simp [hk]) e.2
      rw [e.1] at g1
      cases g1
      have ed : ps.getD j 0 = ps[j] := by simp [List.getD, hj]
      show _ = some (Value.ref (ps.getD j 0)) ∧ PairAt s.heap (ps.getD j 0) k v
      rw [ed]
      exact ⟨by simp [hj], Or.inl g2⟩
    have hcl : (ts.zip us).length = kvs.length := by simp [lt]; omega
    have PH : PairsHave (mixKind X.prog X.w) (ts.zip us).length (PairRel (ts.zip us)) ((kvs.map fun p => (Sum.inr p.1 : Key)).zip us) := by
      refine ⟨by simp [lt]; omega, fun i key v e => ?_⟩
      have e : (ts.zip us)[i]? = some (key, v) := e
      rw [List.getElem?_zip_eq_some] at e
      have hj : i < ps.length := by
        have := (List.getElem?_eq_some_iff.mp e.2).1
        omega
      have hk : i < kvs.length := by omega
      obtain ⟨t, g1, g2, g3⟩ := tq i ps[i] (kvs[i]).1 v (by simp [hj]) (by simp [hk]) e.2
      rw [e.1] at g1
      cases g1
      refine ⟨Sum.inr (kvs[i]).1, ?_, g3⟩
      rw [List.getElem?_zip_eq_some]
      exact ⟨by simp [hk], e.2⟩
    have nd : (((kvs.map fun p => (Sum.inr p.1 : Key)).zip us).map (·.1)).Nodup := by
      rw [List.map_fst_zip (by simp; omega)]
      have e : (kvs.map fun p => (Sum.inr p.1 : Key)) = (kvs.map (·.1)).map Sum.inr := by simp
      rw [e]
      exact List.Pairwise.map _ (fun a b h z => h (by injection z)) hn
    refine PySem.call_dict_pairs PA (I.ok.hd hc) (ok _ hp PI) PH (by rw [hcl]; exact hz) fun h' tk hd' k => ?_
    have em := merged_nodup ((kvs.map fun p => (Sum.inr p.1 : Key)).zip us) [] (by simpa using nd)
    rw [List.nil_append] at em
    rw [em] at hd'
    have k' : ∀ b o, s.heap.get? b = some o → h'.get? b = some o := fun b o e => k b o (by simp) e
    have hm : (s.heap.objs.size == sysModules) = false := beq_eq_false_iff_ne.mpr (Nat.ne_of_gt I.big)
    let vs' : List (Key × V) := (kvs.map fun p => (Sum.inr p.1 : Key)).zip ws
    have hkv : KV vs' ((kvs.map fun p => (Sum.inr p.1 : Key)).zip us) := by
      have e : (kvs.map fun p => (Sum.inr p.1 : Key)) = (kvs.map (·.1)).map Sum.inr := by simp
      show KV ((kvs.map fun p => (Sum.inr p.1 : Key)).zip ws) _
      rw [e]
      exact kv_zip (by simp [l2]) rw_
    have e1 : vs'.map (·.1) = keysT kvs := List.map_fst_zip (by simp [l2])
    have e2 : vs'.map (·.2) = ws := List.map_snd_zip (by simp [l2])
    have lv : vs'.length = kvs.length := by simp [vs', l2]
    refine ⟨.ref s.heap.objs.size, upd H s.heap.objs.size (.dK vs'), I.laid (t' := tk) k' (Nat.le_refl _) (show ObjOk X.prog X.w _ _ _ (.dK vs') from ⟨by rw [lv]; exact hz, hm, _, hkv, hd'⟩), rfl, q _ vs' _ e1 ?_⟩
    have S2 : SD C σ' H ρ (tzm vs' kvs ++ (V.ref a1, a) :: τ) an := by
      unfold tzm
      rw [e2]
      obtain ⟨fp', s'⟩ := S1
      refine ⟨fp', s'.tmps fun p hp => ?_⟩
      rcases List.mem_append.mp hp with hp | hp
      · obtain ⟨i, w, d, h1, h2, rfl⟩ := of_tz hp
        have hi : i < kvs.length := by
          have := (List.getElem?_eq_some_iff.mp h1).1
          omega
        have hb : i < ps.length := by omega
        have tt := s'.tmp (.ref ps[i], R.d (.tuple [.str (kvs[i]).1, (kvs[i]).2])) (List.mem_append_left _ (mem_tz (i := i) (by simp [hb]) (by simp [hi])))
        obtain ⟨a', xs, e3, t3, t4⟩ := Dn.tup_inv (show Dn C.K _ (.ref ps[i]) (.tuple [.str (kvs[i]).1, (kvs[i]).2]) from tt)
        cases e3
        have t5 := t2 i ps[i] w (by simp [hb]) h1 (kvs[i]).1 (kvs[i]).2 (by simp [hi])
        obtain ⟨o1, g1, _⟩ := (msk_le _ _).tps t3
        obtain ⟨o2, g2, _⟩ := t5
        rw [g1] at g2
        cases g2
        rw [List.getElem?_map] at h2
        have ed : (kvs[i]).2 = d := by simpa [hi] using h2
        subst ed
        exact (t4.head.2).head.1
      · exact s'.tmp p (List.mem_append_right _ hp)
    refine (S2.fresh (o := .dK vs') (I.hok.fresh (Nat.le_refl _)) trivial).sub fun p hp => ?_
    rcases List.mem_append.mp hp with hp | hp
    · exact List.mem_append_left _ hp
    · exact List.mem_append_right _ (List.mem_cons_of_mem _ hp)
  unfold dictD at h2
  split at h2
  · rename_i ds
    have ed := pairsD_inv h2
    subst ed
    obtain ⟨a1, vs, rfl, t1, l1, S1⟩ := S.items List.mem_cons_self h1
    obtain ⟨a2, vs2, e2, t2, d2⟩ := n1.lst_inv
    cases e2
    rw [t1] at t2
    cases t2
    refine key "list" a1 vs rfl (by simpa using l1) d2 S1 (fun items Ts ps => ⟨_, _, _, PairArg.list a1 items Ts ps, rfl, fun h g1 g2 => ⟨g1, g2⟩⟩) ?_
    obtain ⟨its, rv, pl, _⟩ := I.list (Or.inl (Or.inl t1))
    exact ⟨its, rv, pl⟩
  · rename_i ds
    have ed := pairsD_inv h2
    subst ed
    obtain ⟨a1, vs, rfl, t1, l1, S1⟩ := S.itemsT List.mem_cons_self h1
    obtain ⟨a2, vs2, e2, t2, d2⟩ := n1.tup_inv
    cases e2
    obtain ⟨o1, g1, g3⟩ := t1
    obtain ⟨o2, g2, _⟩ := t2
    rw [g1] at g2
    cases g2
    refine key "tuple" a1 vs rfl (by simpa using l1) d2 S1 (fun items Ts ps => ⟨_, _, _, PairArg.tuple a1 items Ts ps, rfl, fun h g1 g2 => ⟨g1, g2⟩⟩) ?_
    obtain ⟨ho, z, its, rv, ob, he, hcl, n, hdat⟩ := I.hok a1 _ g1
    rw [ho] at he
    cases he
    exact ⟨its, rv, _, n, ho, hcl, g3, hdat⟩
  · cases h2
end
end DL
namespace DL
open PySem L2

section
variable {C : Fr} {X : Cx} {fp : Nat → List Addr} {σ : L2.St} {H H' : Hp} {ρ ρ' : Rho} {τ : List (V × R)} {an an' : List (Addr × HO)} {v : V} {r : R} {x y z : D} {G : Ends} {p : Addr} {o : HO}

/-- a slot takes cells of nobody's for its own -/
theorem SD.storeN {ps : List (Addr × HO)} {b : B} (S : SD C σ H ρ τ (ps ++ an)) (ad : AllD τ) {i : Nat} (hr : i < ρ.length)
    (hb : ∀ O', (∀ w d, (w, R.d d) ∈ τ → Dn C.K (msk O' H) w d) → BOk C O' H (ps.map (·.1)) v b) : SD C (σ.set i (some v)) H (ρ.set i (some b)) τ an := by
  obtain ⟨fp, s⟩ := S
  have hi : i < σ.length := by rw [← s.len]; exact hr
  let fp' : Nat → List Addr := fun j => if j = i then ps.map (·.1) else fp j
  have e1 : fp' i = ps.map (·.1) := if_pos rfl
  have e2 : ∀ {j}, j ≠ i → fp' j = fp j := fun h => if_neg h
  have nd := s.and
  rw [List.map_append, List.nodup_append] at nd
  have pin : ∀ a, a ∈ ps.map (·.1) → ∃ o, (a, o) ∈ ps := fun a h => by
    obtain ⟨⟨a', o⟩, h1, h2⟩ := List.mem_map.mp h
    have h2 : a' = a := h2
    subst h2
    exact ⟨o, h1⟩
  have sub : ∀ j a, a ∈ fp' j → a ∈ fp j ∧ j ≠ i ∨ a ∈ ps.map (·.1) ∧ j = i := fun j a h => by
    by_cases e : j = i
    · subst e
      rw [e1] at h
      exact .inr ⟨h, rfl⟩
    · rw [e2 e] at h
      exact .inl ⟨h, e⟩
  have m : Le (msk (OO C.F fp (ps ++ an)) H) (msk (OO C.F fp' an) H) := le_msk (fun a h => by
    rcases h with h | ⟨j, h⟩ | ⟨w, h⟩
    · exact .inl (.inl h)
    · rcases sub j a h with ⟨h, _⟩ | ⟨h, _⟩
      · exact .inl (.inr (.inl ⟨j, h⟩))
      · obtain ⟨o, h⟩ := pin a h
        exact .inl (.inr (.inr ⟨o, List.mem_append_left _ h⟩))
    · exact .inl (.inr (.inr ⟨w, List.mem_append_right _ h⟩))) fun a u _ e => e
  have pn : ∀ j a, a ∈ ps.map (·.1) → a ∉ fp j := fun j a ha h => by
    obtain ⟨o, ho⟩ := pin a ha
    exact s.ani j a h o (List.mem_append_left _ ho)
  refine ⟨fp', s.tabk (fun a u e _ _ => e) (fun i a h => (sub i a h).elim (fun h => .inl ⟨i, h.1⟩) fun h => let ⟨o, ho⟩ := pin a h.1; .inr (.inl ⟨o, List.mem_append_left _ ho⟩)) (fun a w h => .inr (.inl ⟨w, List.mem_append_right _ h⟩)), by simp [s.len], s.ext, s.vol, fun j k a h1 h2 => ?_, fun j a h => ?_, nd.2.1, fun j a h => ?_, fun a w h => s.ano a w (List.mem_append_right _ h), s.frn, fun j c e => ?_, fun j h => ?_, fun q hq => ?_⟩
  · rcases sub j a h1 with ⟨q1, n1⟩ | ⟨q1, n1⟩
    · rcases sub k a h2 with ⟨q2, n2⟩ | ⟨q2, n2⟩
      · exact s.inj j k a q1 q2
      · exact absurd q1 (pn j a q2)
    · rcases sub k a h2 with ⟨q2, n2⟩ | ⟨q2, n2⟩
      · exact absurd q2 (pn k a q1)
      · rw [n1, n2]
  · rcases sub j a h with ⟨q1, n1⟩ | ⟨q1, n1⟩
    · exact fun w z => s.ani j a q1 w (List.mem_append_right _ z)
    · exact fun w z => nd.2.2 a q1 a (List.mem_map.mpr ⟨(a, w), z, rfl⟩) rfl
  · rcases sub j a h with ⟨q1, n1⟩ | ⟨q1, n1⟩
    · exact s.own j a q1
    · obtain ⟨o, ho⟩ := pin a q1
      obtain ⟨z0, z1, z2⟩ := s.ano a o (List.mem_append_left _ ho)
      exact ⟨.inr z0, o, z1, z2⟩
  · by_cases hj : j = i
    · subst hj
      rw [List.getElem?_set_self hr] at e
      cases e
      refine ⟨v, List.getElem?_set_self hi, ?_⟩
      rw [e1]
      exact hb _ fun w d hw => Dn.mono m (s.tmp _ hw)
    · rw [List.getElem?_set_ne (Ne.symm hj)] at e
      obtain ⟨w, h1, h2⟩ := s.bnd j c e
      refine ⟨w, by rw [List.getElem?_set_ne (Ne.symm hj)]; exact h1, ?_⟩
      rw [e2 hj]
      exact h2.mono m fun a _ u e => e
  · by_cases hj : j = i
    · subst hj
      exact absurd (List.getElem?_set_self hr) (h _)
    · rw [e2 hj]
      exact s.emp j fun b e => h b (by rw [List.getElem?_set_ne (Ne.symm hj)]; exact e)
  · exact ((s.tmp q hq).mono m).slots (ad q hq)

/-! ### reading a dict with text keys -/
def lkp : List (Str × D) → Str → Option D
  | [], _ => none
  | (k, d) :: kvs, j => if k = j then some d else lkp kvs j
theorem mget : ∀ {vs : List (Key × V)} {kvs : List (Str × D)} {k : Str} {d : D}, vs.map (·.1) = keysT kvs → lkp kvs k = some d → ∃ w, valV vs (Sum.inr k) = some w ∧ (w, R.d d) ∈ tzm vs kvs
  | [], [], _, _, _, h => by cases h
  | [], _ :: _, _, _, h, _ => by simp at h
  | _ :: _, [], _, _, h, _ => by simp at h
  | (k1, w) :: vs, (k2, d2) :: kvs, k, d, h, e => by
    have h1 : k1 = Sum.inr k2 ∧ vs.map (·.1) = keysT kvs := by simpa using h
    obtain ⟨rfl, h2⟩ := h1
    unfold lkp at e
    by_cases hk : k2 = k
    · subst hk
      rw [if_pos rfl] at e
      cases e
      exact ⟨w, valV_pos rfl, List.mem_cons_self⟩
    · rw [if_neg hk] at e
      obtain ⟨w', g1, g2⟩ := mget h2 e
      exact ⟨w', by rw [valV_neg (fun z => hk (by injection z))]; exact g1, List.mem_cons_of_mem _ g2⟩
theorem mget0 : ∀ {vs : List (Key × V)} {kvs : List (Str × D)} {k : Str}, vs.map (·.1) = keysT kvs → lkp kvs k = none → valV vs (Sum.inr k) = none
  | [], _, _, _, _ => rfl
  | _ :: _, [], _, h, _ => by simp at h
  | (k1, w) :: vs, (k2, d2) :: kvs, k, h, e => by
    have h1 : k1 = Sum.inr k2 ∧ vs.map (·.1) = keysT kvs := by simpa using h
    obtain ⟨rfl, h2⟩ := h1
    unfold lkp at e
    by_cases hk : k2 = k
    · rw [if_pos hk] at e
      cases e
    · rw [if_neg hk] at e
      rw [valV_neg (fun z => hk (by injection z))]
      exact mget0 h2 e
/-- dict(e)[k] -/
def eDGet (fm : FM) (fk : FE) : FE := fun ρ => (fm ρ).bind fun p => match fk p.2 with
  | some (.d (.str k), ρ') => (lkp p.1 k).map fun d => (.d d, ρ')
  | _ => none
theorem imp_eDGet {fm : FM} {fk : FE} {Q : VK} (h : tE C (eDGet fm fk) σ H Q) : tDGet (tM C fm) (tE C fk) σ H Q := by
  obtain ⟨ρ, τ, an, r, ρ', S, e, q⟩ := h
  unfold eDGet at e
  cases e1 : fm ρ with
  | none => simp [e1] at e
  | some p =>
    obtain ⟨kvs, ρ1⟩ := p
    simp only [e1, Option.bind_some] at e
    split at e
    · rename_i k ρ2 e2
      cases e3 : lkp kvs k with
      | none => simp [e3] at e
      | some d =>
        simp [e3] at e
        obtain ⟨rfl, rfl⟩ := e
        refine ⟨ρ, τ, an, kvs, ρ1, S, e1, fun p vs H1 hk S1 => ⟨ρ1, _, _, _, ρ2, S1, e2, fun v H2 S2 => ?_⟩⟩
        have ev := S2.here.str_inv
        subst ev
        obtain ⟨w, g1, g2⟩ := mget hk e3
        refine ⟨p, w, rfl, ?_, q w H2 ?_⟩
        · rw [← g1]
          exact DGet.k (k := Sum.inr k) (S2.cell List.mem_cons_self)
        · exact (S2.forget.part (v := w) (x := d) (List.mem_cons_of_mem _ (List.mem_append_left _ g2)) fun _ h => h).keepN fun p hp => List.mem_cons_of_mem _ (List.mem_append_right _ hp)
    · cases e
theorem de_dget {a b : Expr} {fm : FM} {fk : FE} {pos : Pos} (hu : X.A.units + 1 < cLine) (ha : PE X a (tM C fm)) (hb : PE X b (tE C fk)) (hs : NoSl b) : PE X (.Subscript a b pos) (tE C (eDGet fm fk)) := (pe_dget hu ha hb hs).dl fun _ _ _ h => imp_eDGet h
theorem dm_dict {f : Str} {p pos : Pos} {e : Expr} {fe : FE} (hc : CallR X (.type "dict") (rDict C)) (hg : Gl X f) (hm : X.mg f = none) (hv : bootBuiltins f = some (.type "dict")) (ha : PE X e (tE C fe)) (hn : f ≠ "__name__" := by decide) (hdb : (f == ("__debug__" : Str)) = false := by decide)
    (he : starEach [e] X.env = (false, eval e X.env) :: starEach [] X.env := by rfl) (hpl : (backTo pos (starEach [] X.env)).any (·.1) = false := by rfl) : PE X (.Call (.Name f p) [e] [] pos) (tM C (mDict fe)) :=
  (pe_callTy hc hg hm hv (da_cons ha da_nil he) hn hdb he hpl).dl fun _ _ _ h => imp_dict h
/-- x[k], x a dict of one's own -/
def mAt (i : Nat) (ρ : Rho) : Option (List (Str × D)) := match ρ[i]? with
  | some (some (.m kvs)) => some kvs
  | _ => none
theorem mAt_inv {i : Nat} {kvs : List (Str × D)} (h : mAt i ρ = some kvs) : ρ[i]? = some (some (.m kvs)) := by
  unfold mAt at h
  split at h
  · rename_i ys e
    cases h
    exact e
  · cases h
theorem SD.ownDict (S : SD C σ H ρ τ an) {i : Nat} {kvs : List (Str × D)} (e : ρ[i]? = some (some (.m kvs))) (hv : σ[i]? = some (some v)) : ∃ a vs, v = .ref a ∧ H a = some (.dK vs) ∧ vs.map (·.1) = keysT kvs ∧ SD C σ H ρ (tzm vs kvs ++ τ) an := by
  obtain ⟨fp, s⟩ := S
  obtain ⟨v', h1, a, vs, h2, h3, h4, h5, h6, h7⟩ := s.bnd i _ e
  rw [hv] at h1
  cases h1
  subst h2
  refine ⟨a, vs, rfl, h5, h6, ⟨fp, s.tmps fun p hp => ?_⟩⟩
  rcases List.mem_append.mp hp with hp | hp
  · obtain ⟨i, w, y, a, b, rfl⟩ := of_tz hp
    exact h7.2 i w y a b
  · exact s.tmp p hp
def eMGet (i : Nat) (fk : FE) : FE := fun ρ => match fk ρ with
  | some (.d (.str k), ρ') => (mAt i ρ').bind fun kvs => (lkp kvs k).map fun d => (.d d, ρ')
  | _ => none
theorem slotB (S : SD C σ H ρ τ an) {i : Nat} {b : B} (e : ρ[i]? = some (some b)) : ∃ v, σ[i]? = some (some v) := by
  obtain ⟨fp, s⟩ := S
  obtain ⟨v, h, _⟩ := s.bnd i b e
  exact ⟨v, h⟩
def eMGet' (i : Nat) (fk : FE) : FE := fun ρ => (mAt i ρ).bind fun _ => eMGet i fk ρ
theorem imp_eMGet {i : Nat} {fk : FE} {Q : VK} (h : tE C (eMGet' i fk) σ H Q) : tDGet (tVar i) (tE C fk) σ H Q := by
  obtain ⟨ρ, τ, an, r, ρ', S, e, q⟩ := h
  unfold eMGet' at e
  cases e0 : mAt i ρ with
  | none => simp [e0] at e
  | some kv0 =>
    simp only [e0, Option.bind_some] at e
    unfold eMGet at e
    split at e
    · rename_i k ρ2 e2
      cases e1 : mAt i ρ2 with
      | none => simp [e1] at e
      | some kvs =>
        cases e3 : lkp kvs k with
        | none => simp [e1, e3] at e
        | some d =>
          simp [e1, e3] at e
          obtain ⟨rfl, rfl⟩ := e
          obtain ⟨w0, hw0⟩ := slotB S (mAt_inv e0)
          refine ⟨w0, hw0, ρ, τ, an, _, ρ2, S, e2, fun v H2 S2 => ?_⟩
          have ev := S2.here.str_inv
          subst ev
          obtain ⟨a, vs, rfl, g0, hk, S3⟩ := S2.ownDict (mAt_inv e1) hw0
          obtain ⟨w, g1, g2⟩ := mget hk e3
          refine ⟨a, w, rfl, ?_, q w H2 ?_⟩
          · rw [← g1]
            exact DGet.k (k := Sum.inr k) g0
          · exact (S3.part (v := w) (x := d) (List.mem_append_left _ g2) fun _ h => h).keepN fun p hp => List.mem_append_right _ (List.mem_cons_of_mem _ hp)
    · cases e
theorem de_mget {i : Nat} {n : Str} {b : Expr} {fk : FE} {pos p : Pos} (hu : X.A.units + 1 < cLine) (ha : PE X (.Name n p) (tVar i)) (hb : PE X b (tE C fk)) (hs : NoSl b) : PE X (.Subscript (.Name n p) b pos) (tE C (eMGet' i fk)) := (pe_dget hu ha hb hs).dl fun _ _ _ h => imp_eMGet h

/-! ### a mix of data, new lists, new dicts -/
inductive RX where
  | d (x : D)
  | l (xs : List D)
  | m (kvs : List (Str × D))
abbrev FX := Rho → Option (List RX × Rho)
inductive XOk : List V → List RX → List (V × R) → List (Addr × HO) → Prop
  | nil : XOk [] [] [] []
  | d {v : V} {x : D} {vs : List V} {rs : List RX} {τ : List (V × R)} {an : List (Addr × HO)} : XOk vs rs τ an → XOk (v :: vs) (.d x :: rs) ((v, .d x) :: τ) an
  | l {p : Addr} {us : List V} {xs : List D} {vs : List V} {rs : List RX} {τ : List (V × R)} {an : List (Addr × HO)} : us.length = xs.length → XOk vs rs τ an → XOk (.ref p :: vs) (.l xs :: rs) (tz us xs ++ τ) ((p, .lst us) :: an)
  | m {p : Addr} {us : List (Key × V)} {kvs : List (Str × D)} {vs : List V} {rs : List RX} {τ : List (V × R)} {an : List (Addr × HO)} : us.map (·.1) = keysT kvs → XOk vs rs τ an → XOk (.ref p :: vs) (.m kvs :: rs) (tzm us kvs ++ τ) ((p, .dK us) :: an)
def tX (C : Fr) (f : FX) : TA := fun σ H Q => ∃ ρ τ an rs ρ', SD C σ H ρ τ an ∧ f ρ = some (rs, ρ') ∧ ∀ vs H' τ' an', XOk vs rs τ' an' → SD C σ H' ρ' (τ' ++ τ) (an' ++ an) → Q vs H'
def xNil : FX := fun ρ => some ([], ρ)
def xE (f : FE) (g : FX) : FX := fun ρ => (f ρ).bind fun p => match p.1 with
  | .d x => (g p.2).map fun q => (.d x :: q.1, q.2)
  | _ => none
def xF (f : FF) (g : FX) : FX := fun ρ => (f ρ).bind fun p => (g p.2).map fun q => (.l p.1 :: q.1, q.2)
def xM (f : FM) (g : FX) : FX := fun ρ => (f ρ).bind fun p => (g p.2).map fun q => (.m p.1 :: q.1, q.2)
theorem dx_nil : PA X [] (tX C xNil) := pa_nil.dl fun σ H Q h => by
  obtain ⟨ρ, τ, an, rs, ρ', S, e, q⟩ := h
  cases e
  exact q [] H [] [] .nil S
theorem dx_e {e : Expr} {es : List Expr} {f : FE} {g : FX} (ha : PE X e (tE C f)) (hr : PA X es (tX C g)) (hs : starEach (e :: es) X.env = (false, eval e X.env) :: starEach es X.env := by rfl) : PA X (e :: es) (tX C (xE f g)) :=
  (pa_cons ha hr hs).dl fun σ H Q h => by
    obtain ⟨ρ, τ, an, rs, ρ', S, e, q⟩ := h
    unfold xE at e
    cases e1 : f ρ with
    | none => simp [e1] at e
    | some p =>
      obtain ⟨a, ρ1⟩ := p
      simp only [e1, Option.bind_some] at e
      split at e
      · rename_i x
        cases e2 : g ρ1 with
        | none => simp [e2] at e
        | some p2 =>
          obtain ⟨bs, ρ2⟩ := p2
          simp [e2] at e
          obtain ⟨rfl, rfl⟩ := e
          refine ⟨ρ, τ, an, _, ρ1, S, e1, fun v H1 S1 => ⟨ρ1, _, an, bs, _, S1, e2, fun vs H2 τ' an' ok S2 => ?_⟩⟩
          refine q (v :: vs) H2 _ an' (.d ok) (S2.sub fun p hp => ?_)
          rcases List.mem_append.mp hp with hp | hp
          · rcases List.mem_cons.mp hp with rfl | hp
            · exact List.mem_append_right _ List.mem_cons_self
            · exact List.mem_append_left _ hp
          · exact List.mem_append_right _ (List.mem_cons_of_mem _ hp)
      · cases e
theorem dx_f {e : Expr} {es : List Expr} {f : FF} {g : FX} (ha : PE X e (tF C f)) (hr : PA X es (tX C g)) (hs : starEach (e :: es) X.env = (false, eval e X.env) :: starEach es X.env := by rfl) : PA X (e :: es) (tX C (xF f g)) :=
  (pa_cons ha hr hs).dl fun σ H Q h => by
    obtain ⟨ρ, τ, an, rs, ρ', S, e, q⟩ := h
    unfold xF at e
    cases e1 : f ρ with
    | none => simp [e1] at e
    | some p =>
      obtain ⟨a, ρ1⟩ := p
      cases e2 : g ρ1 with
      | none => simp [e1, e2] at e
      | some p2 =>
        obtain ⟨bs, ρ2⟩ := p2
        simp [e1, e2] at e
        obtain ⟨rfl, rfl⟩ := e
        refine ⟨ρ, τ, an, _, ρ1, S, e1, fun p us H1 hl S1 => ⟨ρ1, _, _, bs, _, S1, e2, fun vs H2 τ' an' ok S2 => ?_⟩⟩
        have S3 := S2.anp (an' := (p, .lst us) :: an' ++ an) List.perm_middle
        refine q _ H2 _ _ (.l hl ok) (S3.sub fun p hp => ?_)
        simp only [List.mem_append] at hp ⊢
        rcases hp with (h | h) | h
        · exact .inr (.inl h)
        · exact .inl h
        · exact .inr (.inr h)
theorem dx_m {e : Expr} {es : List Expr} {f : FM} {g : FX} (ha : PE X e (tM C f)) (hr : PA X es (tX C g)) (hs : starEach (e :: es) X.env = (false, eval e X.env) :: starEach es X.env := by rfl) : PA X (e :: es) (tX C (xM f g)) :=
  (pa_cons ha hr hs).dl fun σ H Q h => by
    obtain ⟨ρ, τ, an, rs, ρ', S, e, q⟩ := h
    unfold xM at e
    cases e1 : f ρ with
    | none => simp [e1] at e
    | some p =>
      obtain ⟨a, ρ1⟩ := p
      cases e2 : g ρ1 with
      | none => simp [e1, e2] at e
      | some p2 =>
        obtain ⟨bs, ρ2⟩ := p2
        simp [e1, e2] at e
        obtain ⟨rfl, rfl⟩ := e
        refine ⟨ρ, τ, an, _, ρ1, S, e1, fun p us H1 hl S1 => ⟨ρ1, _, _, bs, _, S1, e2, fun vs H2 τ' an' ok S2 => ?_⟩⟩
        have S3 := S2.anp (an' := (p, .dK us) :: an' ++ an) List.perm_middle
        refine q _ H2 _ _ (.m hl ok) (S3.sub fun p hp => ?_)
        simp only [List.mem_append] at hp ⊢
        rcases hp with (h | h) | h
        · exact .inr (.inl h)
        · exact .inl h
        · exact .inr (.inr h)
/-- stored one behind the other -/
def putX (is : List Nat) (rs : List RX) (ρ : Rho) : Option Rho := match is, rs with
  | [], [] => some ρ
  | i :: is, r :: rs => if i < ρ.length then putX is rs (ρ.set i (some (match r with | .d x => B.d x | .l xs => B.l xs | .m kvs => B.m kvs))) else none
  | _, _ => none
def setX (σ : L2.St) : List Nat → List V → L2.St
  | i :: is, v :: vs => setX (σ.set i (some v)) is vs
  | _, _ => σ
theorem AllD.xok {vs : List V} {rs : List RX} (h : XOk vs rs τ an) : AllD τ := by
  induction h with
  | nil => exact AllD.nil
  | d _ ih => exact AllD.cons ih
  | l _ _ ih => exact AllD.tz.app ih
  | m _ _ ih => exact AllD.tz.app ih
theorem xok_put {vs : List V} {rs : List RX} {τ' : List (V × R)} (ad : AllD τ) (ok : XOk vs rs τ' an') : ∀ {is : List Nat} {σ : L2.St} {ρ ρ' : Rho}, SD C σ H ρ (τ' ++ τ) (an' ++ an) → putX is rs ρ = some ρ' → SD C (setX σ is vs) H ρ' τ an := by
  induction ok with
  | nil =>
    intro is σ ρ ρ' S e
    cases is with
    | nil =>
      cases e
      exact S
    | cons => cases e
  | @d v x vs rs τ' an' ok ih =>
    intro is σ ρ ρ' S e
    cases is with
    | nil => cases e
    | cons i is =>
      unfold putX at e
      split at e
      · rename_i hr
        exact ih (S.store ((AllD.xok ok).app ad) hr) e
      · cases e
  | @l p us xs vs rs τ' an' hl ok ih =>
    intro is σ ρ ρ' S e
    cases is with
    | nil => cases e
    | cons i is =>
      unfold putX at e
      split at e
      · rename_i hr
        have S2 := SD.storeN (ps := [(p, .lst us)]) (b := .l xs) (v := .ref p) (an := an' ++ an) S ((AllD.tz.app (AllD.xok ok)).app ad) hr fun O' k => ?_
        · exact ih (S2.sub fun q hq => by
            rw [List.append_assoc]
            exact List.mem_append_right _ hq) e
        · obtain ⟨fp, s⟩ := S
          obtain ⟨z0, z1, z2⟩ := s.ano p (.lst us) List.mem_cons_self
          exact ⟨p, us, rfl, rfl, z0, z1, hl, fun j w d e1 e2 => k w d (List.mem_append_left _ (List.mem_append_left _ (mem_tz e1 e2)))⟩
      · cases e
  | @m p us kvs vs rs τ' an' hl ok ih =>
    intro is σ ρ ρ' S e
    cases is with
    | nil => cases e
    | cons i is =>
      unfold putX at e
      split at e
      · rename_i hr
        have S2 := SD.storeN (ps := [(p, .dK us)]) (b := .m kvs) (v := .ref p) (an := an' ++ an) S ((AllD.tz.app (AllD.xok ok)).app ad) hr fun O' k => ?_
        · exact ih (S2.sub fun q hq => by
            rw [List.append_assoc]
            exact List.mem_append_right _ hq) e
        · obtain ⟨fp, s⟩ := S
          obtain ⟨z0, z1, z2⟩ := s.ano p (.dK us) List.mem_cons_self
          refine ⟨p, us, rfl, rfl, z0, z1, hl, ?_, fun j w d e1 e2 => k w d (List.mem_append_left _ (List.mem_append_left _ (mem_tz e1 e2)))⟩
          have := congrArg List.length hl
          simpa using this
      · cases e
theorem xok_len {vs : List V} {rs : List RX} (h : XOk vs rs τ an) : vs.length = rs.length := by
  induction h with
  | nil => rfl
  | d _ ih => simp [ih]
  | l _ _ ih => simp [ih]
  | m _ _ ih => simp [ih]
theorem putX_len : ∀ {is : List Nat} {rs : List RX} {ρ ρ' : Rho}, putX is rs ρ = some ρ' → rs.length = is.length
  | [], [], _, _, _ => rfl
  | [], _ :: _, _, _, h => by cases h
  | _ :: _, [], _, _, h => by cases h
  | i :: is, r :: rs, ρ, ρ', h => by
    unfold putX at h
    split at h
    · simp [putX_len h]
    · cases h
def sPar (is : List Nat) (f : FX) : FS := fun ρ => (f ρ).bind fun p => (putX is p.1 p.2).map Out.next
theorem imp_par {is : List Nat} {f : FX} (h : tS C (sPar is f) G σ H) : tX C f σ H fun vs H1 => vs.length = is.length ∧ G.nx (setX σ is vs) H1 := by
  obtain ⟨ρ, τ, an, o, ad, S, e, k⟩ := h
  unfold sPar at e
  cases e1 : f ρ with
  | none => simp [e1] at e
  | some p =>
    obtain ⟨rs, ρ1⟩ := p
    cases e2 : putX is rs ρ1 with
    | none => simp [e1, e2] at e
    | some ρ2 =>
      simp [e1, e2] at e
      subst e
      refine ⟨ρ, τ, an, rs, ρ1, S, e1, fun vs H1 τ' an' ok S1 => ⟨?_, k _ H1 (xok_put ad ok S1 e2)⟩⟩
      rw [xok_len ok, putX_len e2]
theorem ds_par {i j : Nat} {x y : Str} {a b : Expr} {f : FX} {px py pt pos : Pos} {kt k2 pt2} (hc : X.calm = true) (hN : X.N.Nodup) (hi : X.N[i]? = some x) (hj : X.N[j]? = some y) (hij : i ≠ j)
    (hx : X.env.scope.names.lookup x = some .local) (hy : X.env.scope.names.lookup y = some .local) (ha : PA X [a, b] (tX C f))
    (hw : swappedStores [.Tuple [.Name x px, .Name y py] kt pt] (.Tuple [a, b] k2 pt2) X.env = pure (some [x, y]) := by rfl)
    (hs : swapsWithSole [.Tuple [.Name x px, .Name y py] kt pt] (.Tuple [a, b] k2 pt2) pos.line X.env = pure false := by rfl) :
    PS X (.Assign [.Tuple [.Name x px, .Name y py] kt pt] (.Tuple [a, b] k2 pt2) pos) (tS C (sPar [i, j] f)) := (ps_par hc hN hi hj hij hx hy ha hw hs).dl fun G σ H h => by
  obtain ⟨ρ, τ, an, rs, ρ', S, e, q⟩ := imp_par h
  refine ⟨ρ, τ, an, rs, ρ', S, e, fun vs H' τ' an' ok S' => ?_⟩
  obtain ⟨hl, g⟩ := q vs H' τ' an' ok S'
  match vs, hl with
  | [v, w], _ => exact ⟨v, w, rfl, g⟩
theorem ds_par3 {i j l : Nat} {x y z : Str} {a b c : Expr} {f : FX} {px py pz pt pos : Pos} {kt k2 pt2} (hc : X.calm = true) (hN : X.N.Nodup) (hi : X.N[i]? = some x) (hj : X.N[j]? = some y) (hl : X.N[l]? = some z) (hij : i ≠ j) (hil : i ≠ l) (hjl : j ≠ l)
    (hx : X.env.scope.names.lookup x = some .local) (hy : X.env.scope.names.lookup y = some .local) (hz : X.env.scope.names.lookup z = some .local) (ha : PA X [a, b, c] (tX C f))
    (hw : swappedStores [.Tuple [.Name x px, .Name y py, .Name z pz] kt pt] (.Tuple [a, b, c] k2 pt2) X.env = pure (some [x, y, z]) := by rfl)
    (hs : swapsWithSole [.Tuple [.Name x px, .Name y py, .Name z pz] kt pt] (.Tuple [a, b, c] k2 pt2) pos.line X.env = pure false := by rfl) :
    PS X (.Assign [.Tuple [.Name x px, .Name y py, .Name z pz] kt pt] (.Tuple [a, b, c] k2 pt2) pos) (tS C (sPar [i, j, l] f)) := (ps_par3 hc hN hi hj hl hij hil hjl hx hy hz ha hw hs).dl fun G σ H h => by
  obtain ⟨ρ, τ, an, rs, ρ', S, e, q⟩ := imp_par h
  refine ⟨ρ, τ, an, rs, ρ', S, e, fun vs H' τ' an' ok S' => ?_⟩
  obtain ⟨hl, g⟩ := q vs H' τ' an' ok S'
  match vs, hl with
  | [u, v, w], _ => exact ⟨u, v, w, rfl, g⟩
/-- name = a new dict -/
def sOwnM (i : Nat) (f : FM) : FS := sPar [i] (xM f xNil)
theorem ds_ownM {i : Nat} {n : Str} {e : Expr} {f : FM} {pos pos' : Pos} (hN : X.N.Nodup) (hi : X.N[i]? = some n) (hx : Loc X.env.scope n) (he : PE X e (tM C f)) (hs : swapsWith e (some (.Name n pos')) pos.line X.env = pure false := by rfl) (hf : X.fn n = true ∨ X.env.scope.names.lookup n = some .local := by first | exact .inl rfl | exact .inr rfl | assumption) :
    PS X (.Assign [.Name n pos'] e pos) (tS C (sOwnM i f)) := (ps_set hN hi hx he hs hf).dl fun G σ H h => by
  obtain ⟨ρ, τ, an, o, ad, S, e, k⟩ := h
  unfold sOwnM sPar xM xNil at e
  cases e1 : f ρ with
  | none => simp [e1] at e
  | some p =>
    obtain ⟨kvs, ρ1⟩ := p
    simp only [e1, Option.bind_some, Option.map_some] at e
    cases e2 : putX [i] [.m kvs] ρ1 with
    | none => simp [e2] at e
    | some ρ2 =>
      simp [e2] at e
      subst e
      refine ⟨ρ, τ, an, kvs, ρ1, S, e1, fun p vs H' hl S' => k _ H' ?_⟩
      exact xok_put (an' := [(p, .dK vs)]) (τ' := tzm vs kvs ++ []) (vs := [.ref p]) (is := [i]) ad (.m hl .nil) (by simpa using S') e2
end
end DL
namespace DL
open PySem L2

section
variable {C : Fr} {X : Cx} {fp : Nat → List Addr} {σ : L2.St} {H H' : Hp} {ρ ρ' : Rho} {τ : List (V × R)} {an an' : List (Addr × HO)} {v : V} {r : R} {x y z : D} {G : Ends} {p : Addr} {o : HO}

/-! ### len(set(x)) of texts -/
def textsOf : List D → Option (List Str)
  | [] => some []
  | .str s :: xs => (textsOf xs).map fun ys => s :: ys
  | _ :: _ => none
theorem textsOf_inv : ∀ {xs : List D} {ys : List Str}, textsOf xs = some ys → xs = ys.map PyData.str
  | [], ys, h => by
    cases h
    rfl
  | x :: xs, ys, h => by
    unfold textsOf at h
    split at h
    · rename_i e
      cases e
    · rename_i s zs e
      injection e with e1 e2
      subst e2
      cases e3 : textsOf xs with
      | none => simp [e3] at h
      | some ws =>
        simp [e3] at h
        subst h
        rw [e1, textsOf_inv e3]
        rfl
    · cases h
theorem textsOf_map (ys : List Str) : textsOf (ys.map PyData.str) = some ys := by
  induction ys with
  | nil => rfl
  | cons y ys ih => simp [textsOf, ih]
abbrev setO (P : Program) (w : World) (p : Addr) (n : Nat) : HO := .ext fun h => ∃ S, h.SetOf (mixKind P w) p S n
def setD : D → Option Nat
  | .list xs => (textsOf xs).bind fun ys => if ys.length + 1 < 4096 then some (ddl (ys.map Sum.inr)).length else none
  | .tuple xs => (textsOf xs).bind fun ys => if ys.length + 1 < 4096 then some (ddl (ys.map Sum.inr)).length else none
  | _ => none
abbrev FZ := Rho → Option (Nat × Rho)
def tZ (C : Fr) (P : Program) (w : World) (f : FZ) : TE := fun σ H Q => ∃ ρ τ an n ρ', SD C σ H ρ τ an ∧ f ρ = some (n, ρ') ∧ ∀ p H', SD C σ H' ρ' τ ((p, setO P w p n) :: an) → Q (.ref p) H'
def zSet (f : FE) : FZ := fun ρ => (f ρ).bind fun p => (rdo p.2 p.1).bind fun x => (setD x).map fun n => (n, p.2)
def rSet (C : Fr) (P : Program) (w : World) : List V → Hp → VK → Prop := fun xs H Q => ∃ σ ρ τ an x a y n, xs = [x] ∧ SD C σ H ρ ((x, a) :: τ) an ∧ rdo ρ a = some y ∧ setD y = some n ∧ ∀ p H', SD C σ H' ρ τ ((p, setO P w p n) :: an) → Q (.ref p) H'
theorem imp_set {P : Program} {w : World} {f : FE} {Q : VK} (h : tZ C P w (zSet f) σ H Q) : tCB (rSet C P w) (tA C (aCons f aNil)) σ H Q := by
  obtain ⟨ρ, τ, an, n, ρ', S, e, q⟩ := h
  unfold zSet at e
  cases e1 : f ρ with
  | none => simp [e1] at e
  | some p =>
    obtain ⟨a, ρ1⟩ := p
    cases e2 : rdo ρ1 a with
    | none => simp [e1, e2] at e
    | some y =>
      cases e3 : setD y with
      | none => simp [e1, e2, e3] at e
      | some m =>
        simp [e1, e2, e3] at e
        obtain ⟨rfl, rfl⟩ := e
        refine ⟨ρ, τ, an, [a], ρ1, S, by simp [aCons, aNil, e1], fun vs H1 hl S1 => ?_⟩
        obtain ⟨x, rfl⟩ := one_of hl
        exact ⟨σ, _, τ, an, x, a, y, _, rfl, S1, e2, e3, q⟩
theorem strs_vals {K : PySem.W.Frag} : ∀ {ys : List Str} {vs : List V} {us : List Value}, DnL K H vs (ys.map PyData.str) → Vals vs us → ∀ (i : Nat) (u : Value), us[i]? = some u → ∃ s t, ys[i]? = some s ∧ u = .str s t
  | [], [], _, _, .nil, i, u, e => by simp at e
  | [], _ :: _, _, h, _, _, _, _ => by simp [DnL] at h
  | _ :: _, [], _, h, _, _, _, _ => by simp [DnL] at h
  | y :: ys, v :: vs, _, h, .cons (b := u0) rv t, i, u, e => by
    obtain ⟨h1, h2⟩ := DnL.head h
    have ev := h1.str_inv
    subst ev
    obtain ⟨tt, rfl⟩ := rv
    cases i with
    | zero =>
      simp at e
      exact ⟨y, tt, rfl, e.symm⟩
    | succ i =>
      obtain ⟨s, t', g1, g2⟩ := strs_vals h2 t i u (by simpa using e)
      exact ⟨s, t', by simpa using g1, g2⟩
theorem cr_setG (hK : C.K = X.K) (hc : X.calm = true) : CallR X (.type "set") (rSet C X.prog X.w) := by
  intro pins s σ H xs us Q I r h
  obtain ⟨σ', ρ, τ, an, x, a, y, n, rfl, S, h1, h2, q⟩ := h
  obtain ⟨u, rfl, rx⟩ := vals1 r
  have n1 := S.res List.mem_cons_self h1
  have hd := I.ok.hd hc
  have last : ∀ (ys : List Str) (h' : Heap) (tk : Nat) (M : Key → Bool), n = (ddl (ys.map Sum.inr)).length → h'.SetOf (mixKind X.prog X.w) s.heap.objs.size M (ddl (ys.map Sum.inr)).length → (∀ b o, s.heap.get? b = some o → h'.get? b = some o) → EP X pins σ Q (.ref s.heap.objs.size) { s with heap := h', toks := tk } := by
    intro ys h' tk M en hs kp
    subst en
    refine ⟨.ref s.heap.objs.size, upd H s.heap.objs.size (setO X.prog X.w s.heap.objs.size (ddl (ys.map Sum.inr)).length), I.laid (t' := tk) kp (Nat.le_refl _) ?_, rfl, q _ _ ((S.pop).fresh (I.hok.fresh (Nat.le_refl _)) (mt_ext fun hp ⟨S, o, es, ep, t, ho, hx⟩ => ⟨_, o, ho, fun vs z => by rw [hx.2.1] at z; cases z⟩))⟩
    obtain ⟨o, es, ep, t, ho, more⟩ := id hs
    refine ⟨⟨M, hs⟩, ⟨o, ho⟩, fun ha hb ⟨M', hm⟩ kb => ?_⟩
    obtain ⟨o, es, ep, t, ho, more⟩ := hm
    exact ⟨M', o, es, ep, t, kb o ho, more⟩
  unfold setD at h2
  split at h2
  · rename_i ds
    cases e : textsOf ds with
    | none => simp [e] at h2
    | some ys =>
      simp [e] at h2
      obtain ⟨hz, rfl⟩ := h2
      have ed := textsOf_inv e
      subst ed
      obtain ⟨a1, vs, rfl, t1, t2⟩ := n1.lst_inv
      cases rx
      obtain ⟨its, rv, ⟨ob, nn, g1, g2, g3, g4⟩, _⟩ := I.list (Or.inl (Or.inl t1))
      have l1 := rv.length
      have l2 := t2.1
      rw [List.length_map] at l2
      refine set_list (ks := ys.map Sum.inr) hd ⟨ob, g1, g2, nn, g4⟩ (by simp; omega) (by simp [scanBound]; omega) (fun i v ev => ?_) fun h' tk M hs kp => last ys h' tk M rfl hs kp
      obtain ⟨s', t', b1, rfl⟩ := strs_vals t2 rv i v (by simpa using ev)
      exact ⟨Sum.inr s', by simp [b1], kV_is (P := X.prog) (w := X.w) (k := Sum.inr s') ⟨t', rfl⟩, rfl⟩
  · rename_i ds
    cases e : textsOf ds with
    | none => simp [e] at h2
    | some ys =>
      simp [e] at h2
      obtain ⟨hz, rfl⟩ := h2
      have ed := textsOf_inv e
      subst ed
      obtain ⟨a1, vs, rfl, t1, t2⟩ := n1.tup_inv
      cases rx
      obtain ⟨its, rv, g1, _⟩ := I.tuple (t1.sq (K := X.K))
      have l1 := rv.length
      have l2 := t2.1
      rw [List.length_map] at l2
      refine set_tuple (ks := ys.map Sum.inr) hd g1 (by simp; omega) (by simp [scanBound]; omega) (fun i v ev => ?_) fun h' tk M hs kp => last ys h' tk M rfl hs kp
      obtain ⟨s', t', b1, rfl⟩ := strs_vals t2 rv i v (by simpa using ev)
      exact ⟨Sum.inr s', by simp [b1], kV_is (P := X.prog) (w := X.w) (k := Sum.inr s') ⟨t', rfl⟩, rfl⟩
  · cases h2
def eLenZ (f : FZ) : FE := fun ρ => (f ρ).map fun p => (.d (.int p.1), p.2)
def rLenZ (C : Fr) (P : Program) (w : World) : List V → Hp → VK → Prop := fun xs H Q => ∃ σ ρ τ an p n, xs = [.ref p] ∧ SD C σ H ρ τ ((p, setO P w p n) :: an) ∧ ∀ v H', SD C σ H' ρ ((v, .d (.int n)) :: τ) an → Q v H'
theorem cr_lenZ : CallR X (.builtin "len") (rLenZ C X.prog X.w) := by
  intro pins s σ H xs us Q I r h
  obtain ⟨σ', ρ, τ, an, p, n, rfl, S, q⟩ := h
  obtain ⟨u, rfl, rx⟩ := vals1 r
  cases rx
  obtain ⟨⟨M, o, es, ep, t, ho, hx, hd, h1, h2, hb, hf, hn⟩, _⟩ := I.hok p _ (S.cell List.mem_cons_self)
  have hb' : es.size < 4096 := hb
  refine call_len_set ho hx hd hf (by omega) ⟨.int n, H, I.tok _, ?_, q _ H (S.forget.push fun _ _ => .int _)⟩
  rw [hn]
  exact ⟨_, rfl⟩
theorem de_lenSet {p1 p2 pos pos2 : Pos} {e : Expr} {fe : FE} (hK : C.K = X.K) (hc : X.calm = true) (ha : PE X e (tE C fe)) (hg1 : Gl X "len") (hm1 : X.mg "len" = none) (hg : Gl X "set") (hm : X.mg "set" = none)
    (he : starEach [e] X.env = (false, eval e X.env) :: starEach [] X.env := by rfl) (hpl : (backTo pos (starEach [] X.env)).any (·.1) = false := by rfl)
    (he2 : starEach [.Call (.Name "set" p2) [e] [] pos] X.env = (false, eval (.Call (.Name "set" p2) [e] [] pos) X.env) :: starEach [] X.env := by rfl) (hpl2 : (backTo pos2 (starEach [] X.env)).any (·.1) = false := by rfl) :
    PE X (.Call (.Name "len" p1) [.Call (.Name "set" p2) [e] [] pos] [] pos2) (tE C (eLenZ (zSet fe))) := by
  have h1 : PE X (.Call (.Name "set" p2) [e] [] pos) (tZ C X.prog X.w (zSet fe)) := (pe_callTy (cr_setG hK hc) hg hm (by decide +kernel) (da_cons ha da_nil he) (by decide) (by decide) he hpl).dl fun _ _ _ h => imp_set h
  refine (pe_callB (cr_lenZ (C := C)) hg1 hm1 (by decide +kernel) (pa_cons h1 pa_nil he2) (by decide) (by decide) he2 hpl2).dl fun σ H Q h => ?_
  obtain ⟨ρ, τ, an, r, ρ', S, e, q⟩ := h
  unfold eLenZ at e
  cases e1 : zSet fe ρ with
  | none => simp [e1] at e
  | some p =>
    obtain ⟨n, ρ1⟩ := p
    simp [e1] at e
    obtain ⟨rfl, rfl⟩ := e
    exact ⟨ρ, τ, an, n, _, S, e1, fun p H1 S1 => ⟨σ, _, τ, an, p, n, rfl, S1, q⟩⟩
end
end DL
namespace DL
open PySem L2

/-! ### a tuple of one item, k times -/
theorem tup_mul1 (l : Addr) (a : Value) (n : Nat) (dd : Option Addr) (sl : Array (Option Value)) (u : Tok) :
    Meets (Builtin.«tuple.__mul__» ⟨[.ref l, .int 1 u], []⟩) (fun _ R s => s.heap.get? l = some { cls := .type "tuple", dict := dd, data := .seq #[a] n, slots := sl } ∧ R (.ok (.ret (Value.ref l))) s) :=
  .of_wp fun prog w A R s h => by
    obtain ⟨hp, g, d, tk, os⟩ := s
    obtain ⟨ht, h⟩ := h
    have hT : (⟨hp, g, d, tk, os⟩ : Shared).TypeIs (.ref l) "tuple" := ⟨_, ht, rfl⟩
    have q1 := AutoSeq1.idx_int
    wp_walk using wpAny_loadPart' ht
    exact ⟨_, rfl, h⟩
theorem tup_mul0 (l : Addr) (a : Value) (n : Nat) (dd : Option Addr) (sl : Array (Option Value)) (u : Tok) :
    Meets (Builtin.«tuple.__mul__» ⟨[.ref l, .int 0 u], []⟩) (fun _ R s => s.heap.get? l = some { cls := .type "tuple", dict := dd, data := .seq #[a] n, slots := sl } ∧
      R (.ok (.ret (Value.ref s.heap.objs.size))) { s with heap := s.heap.push { cls := Value.type "tuple", data := Data.seq #[] } }) :=
  .of_wp fun prog w A R s h => by
    obtain ⟨hp, g, d, tk, os⟩ := s
    obtain ⟨ht, h⟩ := h
    have hT : (⟨hp, g, d, tk, os⟩ : Shared).TypeIs (.ref l) "tuple" := ⟨_, ht, rfl⟩
    have q1 := AutoSeq1.idx_int
    wp_walk using wpAny_loadPart' ht
    exact ⟨_, rfl, h⟩
section
variable {C : Fr} {X : Cx}
def rMulZ : R2 := fun x y H Q => ∃ l k a, x = .ref l ∧ y = .int k ∧ TpS H l [a] ∧ 0 ≤ k ∧ k ≤ 1000 ∧ (k = 1 → Q (.ref l) H) ∧ ∀ p o, Obj.dict o = none → H p = none → Q (.ref p) (upd H p (.frz o (.tup (List.replicate k.toNat a))))
theorem op_mulZ : OpR X (binaryOp .Mult) rMulZ := by
  intro pins s σ H x y v u Q I rx ry h
  obtain ⟨l, k, a, rfl, rfl, hT, h0, h1, q1, q⟩ := h
  cases rx
  obtain ⟨t, rfl⟩ := ry
  obtain ⟨its, r, ⟨⟨cls, dd, data, sl⟩, ho, hc, n, hd⟩, hs⟩ := I.tuple (hT.sq (K := X.K))
  simp only at hc hd
  subst hc hd
  obtain ⟨av, rfl, ra⟩ := vals1 r
  have base : ∀ {Q' : Value → Shared → Prop}, wpAny (model X.prog X.w) X.A (call (.builtin "tuple.__mul__") [.ref l, .int k t]) Q' X.xe s → wpAny (model X.prog X.w) X.A (binaryOp .Mult (.ref l) (.int k t)) Q' X.xe s := fun hw =>
    wpAny_binaryOp_repeat_ref (T := "tuple") (U := "int") (by decide) ⟨_, ho, rfl⟩ (fun s' => typeIs_int s' k t) noFill_tuple_mul F.fills_int_mul F.slot_int_rmul repeat_tuple F.slot_int_index.lookup
      (call_meets F.slot_int_rmul (typeIs_int s k t) F.entry_int_rmul (F.args_int_rmul_2 _ _) (int_rmul_tuple k t l _ n dd sl) ⟨ho, rfl, ⟨_, ho, rfl⟩, hw⟩)
  by_cases k0 : k = 0
  · subst k0
    refine base (call_meets F.slot_tuple_mul ⟨_, ho, rfl⟩ F.entry_tuple_mul (F.args_tuple_mul_2 _ _) (tup_mul0 l av n dd sl t) ⟨ho, ?_⟩)
    exact laidZ I .nil (by simp) q
  · by_cases k1 : k = 1
    · subst k1
      exact base (call_meets F.slot_tuple_mul ⟨_, ho, rfl⟩ F.entry_tuple_mul (F.args_tuple_mul_2 _ _) (tup_mul1 l av n dd sl t) ⟨ho, .ref l, H, I, rfl, q1 rfl⟩)
    · have c0 : (decide (k < -(2 ^ 63)) || decide (k ≥ 2 ^ 63)) = false := by
        rw [decide_eq_false (by omega), decide_eq_false (by omega)]
        rfl
      have c1 : (([av] : List Value).toArray.isEmpty || k == 1) = false := by simp [k1]
      have c2 : (decide (k ≤ 0) || ([av] : List Value).toArray.isEmpty) = false := by
        rw [decide_eq_false (by omega)]
        rfl
      have c3 : ¬ ((([av] : List Value).toArray.size : Nat) : Int) * k > (2 ^ 63 - 1) / 8 := by simp; omega
      have c4 : Builtin.Tuple.tupleTooMany (((([av] : List Value).toArray.size : Nat) : Int) * k) = false := by
        unfold Builtin.Tuple.tupleTooMany
        rw [sizeLine_eq]
        exact decide_eq_false (by simp; omega)
      have er : ∀ {α : Type} (b : α) (m : Nat), (List.replicate m [b]).flatten = List.replicate m b := fun b m => by
        induction m with
        | zero => rfl
        | succ m ih => simp [List.replicate_succ, ih]
      have fl : (List.replicate k.toNat av).length ≤ sizeLine := by
        rw [List.length_replicate, sizeLine_eq]
        omega
      refine base (call_meets F.slot_tuple_mul ⟨_, ho, rfl⟩ F.entry_tuple_mul (F.args_tuple_mul_2 _ _) (tuple_mulW l _ n dd sl k t c0 c1 c2 c3 c4 (by rw [size_rep, List.size_toArray, er]; exact fl)) ⟨ho, ?_⟩)
      rw [size_rep, er]
      have rr : Vals (List.replicate k.toNat a) (List.replicate k.toNat av) := by
        have := r.rep k.toNat
        rw [er, er] at this
        exact this
      exact laidZ I rr (by rw [List.length_replicate, sizeLine_eq]; omega) q
def mulD : D → D → Option D
  | .tuple [x], .int k => if 0 ≤ k ∧ k ≤ 1000 then some (.tuple (List.replicate k.toNat x)) else none
  | _, _ => none
theorem op_mulG (hK : C.K = X.K) : OpR X (binaryOp .Mult) (rG C (op2 mulD)) := by
  intro pins s σ H x y v u Q I rx ry h
  obtain ⟨σ', ρ, τ, an, a, b, z, S, g, q⟩ := h
  obtain ⟨dx, dy, dz, h1, h2, h3, rfl⟩ := op2_inv g
  have n1 := S.res (List.mem_cons_of_mem _ List.mem_cons_self) h1
  have n2 := S.res List.mem_cons_self h2
  unfold mulD at h3
  split at h3
  · rename_i d k
    split at h3
    · rename_i hk
      cases h3
      obtain ⟨a1, vs, rfl, t1, l1, S1⟩ := S.itemsT (List.mem_cons_of_mem _ List.mem_cons_self) h1
      obtain ⟨w, rfl⟩ : ∃ w, vs = [w] := by
        match vs, l1 with
        | [w], _ => exact ⟨w, rfl⟩
      refine op_mulZ pins s σ H _ _ v u Q I rx ry ⟨a1, k, w, rfl, n2.int_inv, t1, hk.1, hk.2, fun e => ?_, fun p o ho hp => ?_⟩
      · subst e
        rw [rdo_tup h1] at S
        exact q _ H (S.pop.keepN fun p hp => hp)
      · refine q _ _ ((S1.ntup (vs := List.replicate k.toNat w) (xs := List.replicate k.toNat d) (by simp) (fun i v' x' a b => ?_) ho hp).keepN fun p hp => ?_)
        · have e1 := List.eq_of_mem_replicate (List.mem_of_getElem? a)
          have e2 := List.eq_of_mem_replicate (List.mem_of_getElem? b)
          subst e1
          subst e2
          exact List.mem_append_left _ List.mem_cons_self
        · exact List.mem_append_right _ (List.mem_cons_of_mem _ (List.mem_cons_of_mem _ hp))
    · cases h3
  · cases h3
end
end DL
namespace DL
open PySem L2

/-! ### enumerate(x), x a list or tuple -/
set_option maxHeartbeats 8000000 in
theorem enum_new1 {v : Value} {o : Obj} {Hh : Heap → Prop} (B : Begins v o Hh) :
    Meets (Builtin.«enumerate.__new__» ⟨[.type "enumerate", v], []⟩) (fun _ R s => Hh s.heap ∧
      R (.ok (.ret (.ref (s.heap.push o).objs.size))) { s with heap := (s.heap.push o).push { cls := .type "enumerate", data := .fields #[.none, .bool false, .ref s.heap.objs.size, rawInt 0, .none, .none] } }) :=
  .of_wp fun prog w A R s h => by
    obtain ⟨hp, g, d, tk, os⟩ := s
    obtain ⟨h1, h⟩ := h
    have su := sub_enumerate
    have go : ∀ {A' : Around} {E : Value → Shared → Prop} {Q : Value → Shared → Prop}, Q (.ref hp.objs.size) ⟨hp.push o, g, d, tk, os⟩ → wpAny (model prog w) A' (pyIter v) Q E ⟨hp, g, d, tk, os⟩ :=
      fun q => B.iter prog w _ _ ⟨hp, g, d, tk, os⟩ _ h1 q
    wp_walk using go
    refine wpAny_stack_any fun st => wpAny_pure ?_
    split
    · rename_i c _ _ _ _ _
      cases (c == Value.type "enumerate") <;> (wp_walk using go; exact ⟨_, rfl, h⟩)
    · wp_walk using go
      exact ⟨_, rfl, h⟩
section
variable {prog : Program} {w : World} {A : Around} {E : Value → Shared → Prop} {s : Shared}
theorem enum_starts {v : Value} {o : Obj} {Hh : Heap → Prop} {Q : Value → Shared → Prop} (B : Begins v o Hh) (h1 : Hh s.heap)
    (h : ∀ h', IsEnum h' (s.heap.objs.size + 1) s.heap.objs.size 0 .none → h'.get? s.heap.objs.size = some o → (∀ b o, s.heap.get? b = some o → h'.get? b = some o) → Q (.ref (s.heap.objs.size + 1)) { s with heap := h' }) :
    wpAny (model prog w) A (call (.type "enumerate") [v]) Q E s := by
  refine callType_new PySem.F.called_enumerate (by decide) (PySem.F.typeCall_enumerate_1 _) (PySem.F.newCall_enumerate_1 _) (fun ob => PySem.F.args_object_init_2 ob _) PySem.F.entry_enumerate_new (enum_new1 B) ⟨h1, ?_⟩
  have z1 : (s.heap.push o).objs.size = s.heap.objs.size + 1 := Heap.size_push ..
  show _ ∧ _
  rw [z1]
  have g := Heap.get?_push_size (s.heap.push o) (o := { cls := .type "enumerate", data := .fields #[.none, .bool false, .ref s.heap.objs.size, rawInt 0, .none, .none] }) rfl
  rw [z1] at g
  exact ⟨⟨_, g, rfl⟩, h _ g (Heap.get?_push_of_some _ (Heap.get?_push_size _ B.free)) fun b o e => Heap.get?_push_of_some _ (Heap.get?_push_of_some _ e)⟩
end
/-- pairs of a place and an item -/
def Itn (K : PySem.W.Frag) (q : Src) : It :=
  ⟨fun i H => ∃ (xs : List V) (x : V), q.sq K H xs ∧ xs[i]? = some x,
    fun i H v H' => ∃ T x, v = .ref T ∧ H T = none ∧ H' = upd H T (.tup [.int (i : Nat), x]) ∧ ∀ xs, q.sq K H xs → xs[i]? = some x,
    fun i H => ∃ xs : List V, q.sq K H xs ∧ i = xs.length⟩
theorem turn_n {P : Program} {w : World} {K : PySem.W.Frag} {elts : List Expr} {kk : Nat} {tpos : Pos} {q : Src} {e it : Addr} (n1 : q.at ≠ it) (n2 : q.at ≠ e) (n3 : e ≠ it) :
    Turn P w K (.Tuple elts kk tpos) (Itn K q) [e, it] e (fun i h => (∃ old, IsEnum h e it ((i : Nat) : Int) old) ∧ q.iter it i h) where
  mem := by simp
  obj := fun i h st c hc => by
    obtain ⟨⟨old, he⟩, h1⟩ := st
    have ec : c = e ∨ c = it := by simpa using hc
    rcases ec with z | z
    · subst z
      exact ⟨_, he, fun v q => nomatch q⟩
    · subst z
      exact Src.iobj h1
  keep := fun i h h' st k => by
    obtain ⟨⟨old, he⟩, h1⟩ := st
    exact ⟨⟨old, k e (by simp) _ he⟩, Src.imove h1 fun o z => k it (by simp) o z⟩
  item := by
    intro X hP hw hK hc i pins s σ H E I hf st hg
    subst hP hw hK
    obtain ⟨⟨old, he⟩, h1⟩ := st
    obtain ⟨xs, x, hq, hx⟩ := hg
    obtain ⟨us, r1, c1, _⟩ := Src.see I hq
    obtain ⟨u, hu, ru⟩ := r1.get hx
    have lt1 : e < s.heap.objs.size := Heap.lt_size he
    have lt2 : it < s.heap.objs.size := by
      obtain ⟨o, z, _⟩ := Src.iobj h1
      exact Heap.lt_size z
    have hh : X.A.in1.handled = none := I.ok.hd hc
    have off : e ∉ [it, q.at] := fun z => by
      rcases List.mem_cons.mp z with z | z
      · exact n3 z
      · exact n2 (List.mem_singleton.mp z).symm
    refine wpAny_pyNext_enum_itemD (q.draws hh it n1 us.toArray) he ⟨h1, c1⟩ ?_ n3 off fun y h' tk e1 ho st1 hT hsz hk => ?_
    · have := (List.getElem?_eq_some_iff.mp hu).1
      simpa using this
    have ey : y = u := by
      have : us[i]? = some y := by simpa using e1
      rw [hu] at this
      exact (Option.some.inj this).symm
    subst ey
    refine ⟨_, rfl, wpAny_letOwnedTupleGo_enum (s := { s with heap := h', toks := tk + 1 }) ho fun h2 he2 sb => ?_⟩
    have hT2 : h2.get? s.heap.objs.size = some { cls := .type "tuple", data := .seq #[.int i tk, y] } := (sb.2 _ (Nat.ne_of_gt lt1)).trans hT
    have new : ObjOk X.prog X.w (upd H s.heap.objs.size (.tup [.int (i : Nat), x])) h2 s.heap.objs.size (.tup [.int (i : Nat), x]) :=
      ⟨by show 2 ≤ sizeLine; decide, [.int i tk, y], .cons ⟨_, rfl⟩ (.cons ru .nil), ⟨_, hT2, rfl, _, rfl⟩⟩
    have I1 : L2.Inv X pins σ (upd H s.heap.objs.size (.tup [.int (i : Nat), x])) { s with heap := h2, toks := tk + 1 } :=
      I.turnedNew (ch := [e, it]) (fun b ob hb z => (sb.2 b (fun m => hb (by simp [m]))).trans (hk b ob (fun m => hb (by simp [m])) (fun m => hb (by simp [m])) z)) hf (Nat.le_refl _) new
    refine ⟨.ref s.heap.objs.size, _, I1, rfl, ⟨_, x, rfl, I.hok.fresh (Nat.le_refl _), rfl, fun l hl => by rw [Src.one I hl hq]; exact hx⟩, ⟨⟨y, ?_⟩, Src.imove st1.1 fun o z => (sb.2 _ (Ne.symm n3)).trans z⟩, fun c hcm => ?_⟩
    · have e1 : ((i + 1 : Nat) : Int) = (i : Int) + 1 := by omega
      rw [e1]
      exact he2
    · have hlt : c < s.heap.objs.size := by
        have ec : c = e ∨ c = it := by simpa using hcm
        rcases ec with z | z
        · subst z
          exact lt1
        · subst z
          exact lt2
      rw [upd_ne (Nat.ne_of_lt hlt)]
      exact (hf c hcm).1
  done := by
    intro X hP hw hK hc i pins s σ H E I hf st hg
    subst hP hw hK
    obtain ⟨⟨old, he⟩, h1⟩ := st
    obtain ⟨xs, hq, hi⟩ := hg
    subst hi
    obtain ⟨us, r1, c1, _⟩ := Src.see I hq
    have l1 := r1.length
    have hh : X.A.in1.handled = none := I.ok.hd hc
    refine wpAny_pyNext_enum_endD (q.draws hh it n1 us.toArray) he ⟨?_, c1⟩ fun h' hk => ⟨rfl, I.turnedL (ch := [e, it]) (t' := s.toks) (fun c o hb z => hk c o (fun m => hb (by simp [m])) z) hf⟩
    rw [List.size_toArray, ← l1]
    exact h1
  self := fun A i s Q E st h => let ⟨⟨_, he⟩, _⟩ := st; wpAny_pyIter_enum he h

section
variable {C : Fr} {X : Cx} {tg : Expr}
def enumD : Nat → List D → List R
  | _, [] => []
  | n, x :: xs => R.w [.int (n : Nat), x] :: enumD (n + 1) xs
theorem enumD_at : ∀ {xs : List D} {n i : Nat} {r : R}, (enumD n xs)[i]? = some r → ∃ x, xs[i]? = some x ∧ r = R.w [.int ((n + i : Nat) : Int), x]
  | [], n, i, r, h => by simp [enumD] at h
  | x :: xs, n, 0, r, h => by
    simp [enumD] at h
    exact ⟨x, rfl, by rw [← h]; rfl⟩
  | x :: xs, n, i + 1, r, h => by
    obtain ⟨y, h1, h2⟩ := enumD_at (xs := xs) (n := n + 1) (i := i) (r := r) (by simpa [enumD] using h)
    refine ⟨y, by simpa using h1, ?_⟩
    rw [h2, show n + 1 + i = n + (i + 1) by omega]
theorem enumD_len : ∀ (xs : List D) (n : Nat), (enumD n xs).length = xs.length
  | [], _ => rfl
  | x :: xs, n => by simp [enumD, enumD_len xs (n + 1)]
/-- for i, x in enumerate(e) -/
def iEn (f : FE) : FI := fun ρ => (f ρ).bind fun p => (out1 p.1 p.2).bind fun a => (seqD a.1).map fun xs => (enumD 0 xs, a.2)
theorem itd_n {q : Src} {d : D} {xs : List D} (o1 : SrcOk C q d xs) (hK : C.K = X.K) : ItD C (Itn X.K q) (enumD 0 xs) [(.ref q.at, .d d)] := fun σ H ρ τ an S hi i => by
  obtain ⟨vs, h1, h2, S1⟩ := o1.see S (hi _ List.mem_cons_self)
  rw [hK] at h1
  refine ⟨fun r hr => ?_, fun e => ?_⟩
  · obtain ⟨x, hx, rfl⟩ := enumD_at hr
    have l1 : i < vs.length := by
      rw [h2]
      exact (List.getElem?_eq_some_iff.mp hx).1
    refine ⟨⟨vs, vs[i], h1, by simp [l1]⟩, fun v H' y' => ?_⟩
    obtain ⟨T, v1, rfl, hT, rfl, k1⟩ := y'
    have e1 := k1 vs h1
    obtain ⟨fp, s⟩ := S1.grow (Le.new (o := .tup [.int (i : Nat), v1]) hT)
    refine ⟨fp, s.tmps fun t ht => ?_⟩
    rcases List.mem_cons.mp ht with rfl | ht
    · refine ⟨T, [.int (i : Nat), v1], rfl, Or.inl (Or.inl (msk_of (fun z => (s.nots z upd_same).ntup) upd_same)), DnL.cons ?_ (DnL.cons ?_ DnL.nil)⟩
      · rw [Nat.zero_add]
        exact .int _
      · exact s.tmp _ (List.mem_append_left _ (mem_tz e1 hx))
    · exact s.tmp t (List.mem_append_right _ ht)
  · rw [enumD_len] at e
    exact ⟨vs, h1, by omega⟩
theorem di_enum {e1 : Expr} {f : FE} {p pos tpos : Pos} {elts : List Expr} {kk : Nat} (hK : C.K = X.K) (hg : Gl X "enumerate") (hm : X.mg "enumerate" = none) (h1 : PE X e1 (tE C f))
    (hs : starEach [e1] X.env = (false, eval e1 X.env) :: starEach [] X.env := by rfl) (hpl : (backTo pos (starEach [] X.env)).any (·.1) = false := by rfl) :
    PI X (.Tuple elts kk tpos) (.Call (.Name "enumerate" p) [e1] [] pos) (tI C (iEn f)) := by
  refine ⟨fun pins s σ H Rr I h => ?_⟩
  obtain ⟨ρ, τ, an, rs, ρ', S, e0, k⟩ := h
  unfold iEn at e0
  cases z1 : f ρ with
  | none => simp [z1] at e0
  | some p1 =>
    obtain ⟨r1, ρ1⟩ := p1
    cases z2 : out1 r1 ρ1 with
    | none => simp [z1, z2] at e0
    | some q1 =>
      obtain ⟨d1, ρ2⟩ := q1
      cases z5 : seqD d1 with
      | none => simp [z1, z2, z5] at e0
      | some xs =>
        simp [z1, z2, z5] at e0
        obtain ⟨rfl, rfl⟩ := e0
        have ha : PA X [e1] (tCons (tE C f) tNil) := pa_cons h1 pa_nil hs
        have start : tCons (tE C f) tNil σ H (fun us H1 => ∃ v1, us = [v1] ∧ SD C σ H1 ρ2 ((v1, .d d1) :: τ) an) := ⟨ρ, τ, an, r1, ρ1, S, z1, fun v1 H1 S1 => ⟨v1, rfl, out1_ok S1 z2⟩⟩
        refine PyProof.Rows.Call_ (ld_blt I hg hm PyProof.Rows.boot_enumerate (PyProof.Rows.callWith_type1 (thn (ha.run pos pins s σ H _ I start) fun us s1 w => ?_) hs hpl))
        obtain ⟨vs, H1, I1, rv, v1, rfl, S1⟩ := w
        obtain ⟨q, rfl, ok1⟩ := srcOk_of z5 S1
        obtain ⟨u1, rfl, rv1⟩ := vals1 rv
        cases rv1
        obtain ⟨as, m1, l1, _⟩ := ok1.see S1 List.mem_cons_self
        rw [hK] at m1
        obtain ⟨us1, t1, c1, lt1⟩ := Src.see I1 m1
        refine enum_starts (q.begins us1.toArray) c1 fun h' he g1 hk => wpAny_pyIter_enum he ?_
        have I2 : L2.Inv X pins σ H1 { s1 with heap := h' } := I1.kept (t' := s1.toks) hk
        refine ⟨s1.heap.objs.size + 1, [s1.heap.objs.size + 1, s1.heap.objs.size], _, _, H1, rfl, I2, turn_n (Nat.ne_of_lt lt1) (Nat.ne_of_lt (Nat.lt_succ_of_lt lt1)) (Nat.succ_ne_self _),
          ⟨⟨.none, he⟩, Src.start g1⟩, fun c hcm => ?_, k _ H1 [(.ref q.at, .d d1)] (AllD.cons AllD.nil) S1 (itd_n ok1 hK)⟩
        have hle : s1.heap.objs.size ≤ c := by
          have ec : c = s1.heap.objs.size + 1 ∨ c = s1.heap.objs.size := by simpa using hcm
          rcases ec with e | e
          all_goals
            rw [e]
            first | exact Nat.le_add_right _ _ | exact Nat.le_refl _
        exact I1.fpOk hle (I1.hok.fresh hle)
end
end DL
namespace DL
open PySem L2

section
variable {C : Fr} {X : Cx} {fp : Nat → List Addr} {σ : L2.St} {H H' : Hp} {ρ ρ' : Rho} {τ : List (V × R)} {an an' : List (Addr × HO)} {v : V} {r : R} {x y z : D} {G : Ends} {p : Addr} {o : HO}

/-! ### numbers -/
def modD : D → D → Option D
  | .int i, .int j => if 0 < j then some (.int (i % j)) else none
  | _, _ => none
theorem op_modG (hK : C.K = X.K) : OpR X (binaryOp .Mod) (rG C (op2 modD)) := by
  intro pins s σ H x y v u Q I rx ry h
  obtain ⟨σ', ρ, τ, an, a, b, z, S, g, q⟩ := h
  obtain ⟨dx, dy, dz, h1, h2, h3, rfl⟩ := op2_inv g
  have n1 := S.res (List.mem_cons_of_mem _ List.mem_cons_self) h1
  have n2 := S.res List.mem_cons_self h2
  unfold modD at h3
  split at h3
  · split at h3
    · rename_i hj
      cases h3
      exact op_mod pins s σ H x y v u Q I rx ry ⟨_, _, n1.int_inv, n2.int_inv, hj, q _ H (S.pop2.push fun _ _ => .int _)⟩
    · cases h3
  · cases h3
def divD : D → D → Option D
  | .int i, .int j => if 0 < j ∧ j < 1073741824 then some (.int (i / j)) else none
  | _, _ => none
theorem op_divG (hK : C.K = X.K) : OpR X (binaryOp .FloorDiv) (rG C (op2 divD)) := by
  intro pins s σ H x y v u Q I rx ry h
  obtain ⟨σ', ρ, τ, an, a, b, z, S, g, q⟩ := h
  obtain ⟨dx, dy, dz, h1, h2, h3, rfl⟩ := op2_inv g
  have n1 := S.res (List.mem_cons_of_mem _ List.mem_cons_self) h1
  have n2 := S.res List.mem_cons_self h2
  unfold divD at h3
  split at h3
  · split at h3
    · rename_i hj
      cases h3
      exact op_fdiv pins s σ H x y v u Q I rx ry ⟨_, _, n1.int_inv, n2.int_inv, hj, q _ H (S.pop2.push fun _ _ => .int _)⟩
    · cases h3
  · cases h3
/-- * of numbers, one of them small -/
def mulI : D → D → Option D
  | .int i, .int j => if (-(2 ^ 64) < i ∧ i < 2 ^ 64) ∨ (-(2 ^ 64) < j ∧ j < 2 ^ 64) then some (.int (i * j)) else none
  | _, _ => none
theorem op_mulI (hK : C.K = X.K) : OpR X (binaryOp .Mult) (rG C (op2 mulI)) := by
  intro pins s σ H x y v u Q I rx ry h
  obtain ⟨σ', ρ, τ, an, a, b, z, S, g, q⟩ := h
  obtain ⟨dx, dy, dz, h1, h2, h3, rfl⟩ := op2_inv g
  have n1 := S.res (List.mem_cons_of_mem _ List.mem_cons_self) h1
  have n2 := S.res List.mem_cons_self h2
  unfold mulI at h3
  split at h3
  · split at h3
    · rename_i hj
      cases h3
      exact op_mul pins s σ H x y v u Q I rx ry ⟨_, _, n1.int_inv, n2.int_inv, hj, q _ H (S.pop2.push fun _ _ => .int _)⟩
    · cases h3
  · cases h3
def powD : D → D → Option D
  | .int i, .int j => if 0 ≤ j ∧ j ≤ 1000000 ∧ i.natAbs < 2 ^ 64 then some (.int (i ^ j.toNat)) else none
  | _, _ => none
theorem op_powG (hK : C.K = X.K) : OpR X (binaryOp .Pow) (rG C (op2 powD)) := by
  intro pins s σ H x y v u Q I rx ry h
  obtain ⟨σ', ρ, τ, an, a, b, z, S, g, q⟩ := h
  obtain ⟨dx, dy, dz, h1, h2, h3, rfl⟩ := op2_inv g
  have n1 := S.res (List.mem_cons_of_mem _ List.mem_cons_self) h1
  have n2 := S.res List.mem_cons_self h2
  unfold powD at h3
  split at h3
  · split at h3
    · rename_i hj
      cases h3
      exact op_pow pins s σ H x y v u Q I rx ry ⟨_, _, n1.int_inv, n2.int_inv, hj, q _ H (S.pop2.push fun _ _ => .int _)⟩
    · cases h3
  · cases h3

/-! ### the script -/
def sAt (i : Nat) (ρ : Rho) : Option (List Int) := match ρ[i]? with
  | some (some (.s ns)) => some ns
  | _ => none
theorem sAt_inv {i : Nat} {ns : List Int} (h : sAt i ρ = some ns) : ρ[i]? = some (some (.s ns)) := by
  unfold sAt at h
  split at h
  · rename_i ys e
    cases h
    exact e
  · cases h
theorem SD.script (S : SD C σ H ρ τ an) {i : Nat} {ns : List Int} (e : sAt i ρ = some ns) : ∃ a, σ[i]? = some (some (.ref a)) ∧ SqL C.K H a (ns.map V.int) := by
  obtain ⟨fp, s⟩ := S
  obtain ⟨v, h1, h2, a, rfl, h3⟩ := s.bnd i _ (sAt_inv e)
  exact ⟨a, h1, (msk_le _ _).sql h3.sql⟩
def eLenS (i : Nat) : FE := fun ρ => (sAt i ρ).map fun ns => (.d (.int ns.length), ρ)
theorem de_lenS {i : Nat} {n : Str} {p1 p pos : Pos} (hK : C.K = X.K) (hg : Gl X "len") (hm : X.mg "len" = none) (hn : PE X (.Name n p) (tVar i)) (he : starEach [.Name n p] X.env = (false, eval (.Name n p) X.env) :: starEach [] X.env := by rfl) (hpl : (backTo pos (starEach [] X.env)).any (·.1) = false := by rfl) :
    PE X (.Call (.Name "len" p1) [.Name n p] [] pos) (tE C (eLenS i)) :=
  (pe_callB call_len hg hm (by decide +kernel) (pa_cons hn pa_nil he) (by decide) (by decide) he hpl).dl fun σ H Q h => by
    obtain ⟨ρ, τ, an, r, ρ', S, e, q⟩ := h
    unfold eLenS at e
    cases e1 : sAt i ρ with
    | none => simp [e1] at e
    | some ns =>
      simp [e1] at e
      obtain ⟨rfl, rfl⟩ := e
      obtain ⟨a, h1, h2⟩ := S.script e1
      rw [hK] at h2
      refine ⟨.ref a, h1, .ref a, ns.length, rfl, Or.inl ⟨_, h2, by simp⟩, q _ H (S.push fun _ _ => .int _)⟩
def tTruS (i : Nat) : FT := fun ρ => (sAt i ρ).map fun ns => (!ns.isEmpty, ρ)
theorem dt_truS {i : Nat} {n : Str} {p : Pos} (hK : C.K = X.K) (hn : PE X (.Name n p) (tVar i)) (he : ∀ whole, isTrue (.Name n p) X.env whole = (do let v ← whole; standAt (Expr.Name n p).pos; holding [v] (truthy v)) := by intro _; rfl) : PT X (.Name n p) (tT C (tTruS i)) :=
  (pt_truth hn he).dl fun σ H Q h => by
    obtain ⟨ρ, τ, an, k, ρ', S, e, q⟩ := h
    unfold tTruS at e
    cases e1 : sAt i ρ with
    | none => simp [e1] at e
    | some ns =>
      simp only [e1, Option.map_some, Option.some.injEq, Prod.mk.injEq] at e
      obtain ⟨rfl, rfl⟩ := e
      obtain ⟨a, h1, h2⟩ := S.script e1
      rw [hK] at h2
      refine ⟨.ref a, h1, !ns.isEmpty, Or.inl ⟨_, h2, by cases ns <;> rfl⟩, q H S⟩
def eIxS (i : Nat) (f : FE) : FE := fun ρ => (sAt i ρ).bind fun _ => match f ρ with
  | some (.d (.int k), ρ') => (sAt i ρ').bind fun ns => (atI ns k).map fun n => (.d (.int n), ρ')
  | _ => none
theorem de_ixS {i : Nat} {n : Str} {b : Expr} {f : FE} {p pos : Pos} (hK : C.K = X.K) (hn : PE X (.Name n p) (tVar i)) (hb : PE X b (tE C f)) (hs : PlainIx b) : PE X (.Subscript (.Name n p) b pos) (tE C (eIxS i f)) := (pe_ix ix_list hn hb hs).dl fun σ H Q h => by
  obtain ⟨ρ, τ, an, r, ρ', S, e, q⟩ := h
  unfold eIxS at e
  cases e1 : sAt i ρ with
  | none => simp [e1] at e
  | some ns0 =>
    simp only [e1, Option.bind_some] at e
    split at e
    · rename_i k ρ1 e2
      cases e0 : sAt i ρ1 with
      | none => simp [e0] at e
      | some ns =>
        cases e3 : atI ns k with
        | none => simp [e0, e3] at e
        | some m =>
          simp [e0, e3] at e
          obtain ⟨rfl, rfl⟩ := e
          obtain ⟨a, h1, h2⟩ := S.script e1
          refine ⟨.ref a, h1, ρ, τ, an, _, _, S, e2, fun w H1 S1 => ?_⟩
          have ew := S1.here.int_inv
          subst ew
          obtain ⟨a', g1, g2⟩ := S1.script e0
          rw [h1] at g1
          cases g1
          rw [hK] at g2
          refine ⟨a, _, k, .int m, rfl, rfl, g2, ?_, q _ H1 (S1.pop.push fun _ _ => .int _)⟩
          unfold atI at e3 ⊢
          rw [List.length_map]
          cases e4 : ixN ns.length k with
          | none =>
            rw [e4] at e3
            cases e3
          | some j =>
            rw [e4] at e3
            have e5 : ns[j]? = some m := e3
            show (ns.map V.int)[j]? = some (.int m)
            rw [List.getElem?_map, e5]
            rfl
    · cases e

/-! ### the town -/
def tAt (j : Nat) (ρ : Rho) : Option (Int × List (Int × Int)) := match ρ[j]? with
  | some (some (.t c m)) => some (c, m)
  | _ => none
theorem tAt_inv {j : Nat} {c : Int} {m : List (Int × Int)} (h : tAt j ρ = some (c, m)) : ρ[j]? = some (some (.t c m)) := by
  unfold tAt at h
  split at h
  · rename_i c m e
    cases h
    exact e
  · cases h
abbrev cntO (c : Int) (b : Addr) : HO := .dK [(Sum.inr "count", .int c), (Sum.inr "rests", .ref b)]
abbrev rstO (m : List (Int × Int)) : HO := .dK (m.map fun p => (Sum.inl p.1, .int p.2))
theorem SD.town (S : SD C σ H ρ τ an) {j : Nat} {c : Int} {m : List (Int × Int)} (e : tAt j ρ = some (c, m)) : ∃ a b, σ[j]? = some (some (.ref a)) ∧ a ≠ b ∧ H a = some (cntO c b) ∧ H b = some (rstO m) := by
  obtain ⟨fp, s⟩ := S
  obtain ⟨v, h1, a, b, rfl, h2, h3, h4, h5, h6⟩ := s.bnd j _ (tAt_inv e)
  exact ⟨a, b, h1, h3, h5, h6⟩
/-- the town's cells change -/
theorem SD.retown (S : SD C σ H ρ τ an) {j : Nat} {c c' : Int} {m m' : List (Int × Int)} (e : tAt j ρ = some (c, m)) {a b : Addr} (hv : σ[j]? = some (some (.ref a))) (hb : H a = some (cntO c b)) (k : ∀ x o, x ≠ a → x ≠ b → H x = some o → H' x = some o)
    (ha' : H' a = some (cntO c' b)) (hb' : H' b = some (rstO m')) : SD C σ H' (ρ.set j (some (.t c' m'))) τ an := by
  obtain ⟨fp, s⟩ := S
  obtain ⟨v, h1, a1, b1, h0, h2, h3, h4, h5, h6⟩ := s.bnd j _ (tAt_inv e)
  rw [hv] at h1
  cases h1
  cases h0
  rw [hb] at h5
  have eb : b = b1 := by
    injection h5 with h5
    injection h5 with h5
    injection h5 with _ h5
    injection h5 with h5 _
    injection h5 with _ h5
    injection h5
  subst eb
  refine ⟨fp, s.chg hv (fun x o hx ho => k x o (fun z => hx (by rw [h2, z]; simp)) (fun z => hx (by rw [h2, z]; simp)) ho) (fun x hx => ?_) ⟨_, tAt_inv e⟩ fun _ => ⟨a, b, rfl, h2, h3, h4, ha', hb'⟩⟩
  rw [h2] at hx
  rcases List.mem_cons.mp hx with z | z
  · subst z
    exact ⟨_, ha', trivial⟩
  · have z := List.mem_singleton.mp z
    subst z
    exact ⟨_, hb', trivial⟩
theorem neCR : ¬ (Sum.inr ("count" : Str) : Key) = Sum.inr ("rests" : Str) := by decide
theorem val_count (c : Int) (b : Addr) : valV [((Sum.inr "count" : Key), V.int c), (Sum.inr "rests", V.ref b)] (Sum.inr "count") = some (.int c) := valV_pos rfl
theorem val_rests (c : Int) (b : Addr) : valV [((Sum.inr "count" : Key), V.int c), (Sum.inr "rests", V.ref b)] (Sum.inr "rests") = some (.ref b) := by
  rw [valV_neg neCR]
  exact valV_pos rfl
theorem put_count (c c' : Int) (b : Addr) : putK [((Sum.inr "count" : Key), V.int c), (Sum.inr "rests", V.ref b)] (Sum.inr "count") (.int c') = [((Sum.inr "count" : Key), V.int c'), (Sum.inr "rests", V.ref b)] := by
  unfold putK
  rw [if_pos (by simp)]
  simp only [List.map_cons, List.map_nil, if_pos, if_neg (Ne.symm neCR)]
/-- town['count'] -/
def eCnt (j : Nat) : FE := fun ρ => (tAt j ρ).map fun t => (.d (.int t.1), ρ)
theorem de_cnt {j : Nat} {n : Str} {p pos p2 : Pos} {k : Nat} (hu : X.A.units + 1 < cLine) (hn : PE X (.Name n p) (tVar j)) : PE X (.Subscript (.Name n p) (.Constant (.str "count") k p2) pos) (tE C (eCnt j)) :=
  (pe_dget hu hn (pe_str (x := "count")) (fun _ _ => rfl)).dl fun σ H Q h => by
    obtain ⟨ρ, τ, an, r, ρ', S, e, q⟩ := h
    unfold eCnt at e
    cases e1 : tAt j ρ with
    | none => simp [e1] at e
    | some t =>
      obtain ⟨c, m⟩ := t
      simp [e1] at e
      obtain ⟨rfl, rfl⟩ := e
      obtain ⟨a, b, h1, h2, h3, h4⟩ := S.town e1
      refine ⟨.ref a, h1, a, .int c, rfl, ?_, q _ H (S.push fun _ _ => .int _)⟩
      rw [← val_count c b]
      exact DGet.k (k := Sum.inr "count") h3
/-- town['count'] = e -/
def sCnt (j : Nat) (f : FE) : FS := fun ρ => match f ρ with
  | some (.d (.int c), ρ') => (tAt j ρ').map fun t => .next (ρ'.set j (some (.t c t.2)))
  | _ => none
theorem ds_cnt {j : Nat} {n : Str} {e : Expr} {f : FE} {p pos p2 pos' : Pos} {k : Nat} (hu : X.A.units + 1 < cLine) (hn : PE X (.Name n p) (tVar j)) (he : PE X e (tE C f)) (hs : swapsWith e (some (.Subscript (.Name n p) (.Constant (.str "count") k p2) pos')) pos.line X.env = pure false := by rfl) :
    PS X (.Assign [.Subscript (.Name n p) (.Constant (.str "count") k p2) pos'] e pos) (tS C (sCnt j f)) :=
  (ps_dput hu hn (pe_str (x := "count")) he hs).dl fun G σ H h => by
    obtain ⟨ρ, τ, an, o, ad, S, e, kk⟩ := h
    unfold sCnt at e
    split at e
    · rename_i c ρ1 e1
      cases e2 : tAt j ρ1 with
      | none => simp [e2] at e
      | some t =>
        obtain ⟨c0, m⟩ := t
        simp [e2] at e
        subst e
        refine ⟨ρ, τ, an, _, ρ1, S, e1, fun w H1 S1 => ?_⟩
        have ew := S1.here.int_inv
        subst ew
        obtain ⟨a, b, h1, h2, h3, h4⟩ := S1.town e2
        refine ⟨.ref a, h1, a, _, rfl, DPut.k (k := Sum.inr "count") h3 (by show 2 < sizeLine; decide), kk _ _ ?_⟩
        rw [put_count]
        exact S1.pop.retown e2 h1 h3 (fun x o n1 n2 ho => by rw [upd_ne n1]; exact ho) upd_same (by rw [upd_ne (Ne.symm h2)]; exact h4)
    · cases e
def getI (m : List (Int × Int)) (k : Int) : Option Int := (m.find? fun p => decide (p.1 = k)).map (·.2)
def putI (m : List (Int × Int)) (k v : Int) : List (Int × Int) := if (m.any fun p => decide (p.1 = k)) = true then m.map (fun p => if p.1 = k then (p.1, v) else p) else m ++ [(k, v)]
theorem valI : ∀ (m : List (Int × Int)) (k : Int), valV (m.map fun p => ((Sum.inl p.1 : Key), V.int p.2)) (Sum.inl k) = (getI m k).map V.int
  | [], k => rfl
  | (i, n) :: m, k => by
    rw [List.map_cons]
    by_cases h : i = k
    · subst h
      rw [valV_pos rfl]
      simp [getI]
    · rw [valV_neg (fun z => h (by injection z)), valI m k]
      simp [getI, h]
theorem putKI (m : List (Int × Int)) (k v : Int) : putK (m.map fun p => ((Sum.inl p.1 : Key), V.int p.2)) (Sum.inl k) (.int v) = (putI m k v).map fun p => (Sum.inl p.1, .int p.2) := by
  unfold putK putI
  have e : ((m.map fun p => ((Sum.inl p.1 : Key), V.int p.2)).any fun kv => decide (kv.1 = Sum.inl k)) = m.any fun p => decide (p.1 = k) := by
    rw [List.any_map]
    congr 1
    funext p
    simp
  rw [e]
  split
  · rw [List.map_map, List.map_map]
    refine List.map_congr_left fun p _ => ?_
    by_cases h : p.1 = k
    · simp [h]
    · simp [h]
  · simp
/-- town['rests'].get(e, d) -/
def eRst (j : Nat) (f g : FE) : FE := fun ρ => (tAt j ρ).bind fun _ => match f ρ with
  | some (.d (.int k), ρ1) => match g ρ1 with
    | some (.d (.int d), ρ2) => (tAt j ρ2).map fun t => (.d (.int ((getI t.2 k).getD d)), ρ2)
    | _ => none
  | _ => none
theorem tw_b {S : SD C σ H ρ τ an} {a b b' : Addr} {c c' : Int} (h : H a = some (cntO c b)) (h' : H a = some (cntO c' b')) : b = b' := by
  rw [h] at h'
  injection h' with h5
  injection h5 with h5
  injection h5 with _ h5
  injection h5 with h5 _
  injection h5 with _ h5
  injection h5
end
end DL
namespace DL
open PySem L2

section
variable {C : Fr} {X : Cx} {fp : Nat → List Addr} {σ : L2.St} {H H' : Hp} {ρ ρ' : Rho} {τ : List (V × R)} {an an' : List (Addr × HO)} {v : V} {r : R} {x y z : D} {G : Ends} {p : Addr} {o : HO}

/-- town['rests'], as a value -/
theorem pe_rests {j : Nat} {n : Str} {p pos p2 : Pos} {k : Nat} (hu : X.A.units + 1 < cLine) (hn : PE X (.Name n p) (tVar j)) : PE X (.Subscript (.Name n p) (.Constant (.str "rests") k p2) pos) (tDGet (tVar j) (tC (.str "rests"))) := pe_dget hu hn (pe_str (x := "rests")) (fun _ _ => rfl)
/-- the town's cells, by the frame -/
theorem SD.townC (S : SD C σ H ρ τ an) {j : Nat} {c : Int} {m : List (Int × Int)} (e : tAt j ρ = some (c, m)) {a b : Addr} (ht : C.tw = some (a, b)) : σ[j]? = some (some (.ref a)) ∧ a ≠ b ∧ H a = some (cntO c b) ∧ H b = some (rstO m) := by
  obtain ⟨fp, s⟩ := S
  obtain ⟨v, h1, a', b', rfl, h2, h3, h4, h5, h6⟩ := s.bnd j _ (tAt_inv e)
  have e' := h4 _ ht
  cases e'
  exact ⟨h1, h3, h5, h6⟩
theorem de_rst {j : Nat} {n : Str} {a d : Expr} {f g : FE} {p pos p2 apos cpos : Pos} {k : Nat} (ht : C.tw.isSome = true) (hu : X.A.units + 1 < cLine) (hn : PE X (.Name n p) (tVar j)) (ha : PE X a (tE C f)) (hd : PE X d (tE C g)) (m : M2 X (.Subscript (.Name n p) (.Constant (.str "rests") k p2) pos) "get" apos a d cpos) :
    PE X (.Call (.Attribute (.Subscript (.Name n p) (.Constant (.str "rests") k p2) pos) "get" apos) [a, d] [] cpos) (tE C (eRst j f g)) :=
  (pe_dget2 hu (pe_rests hu hn) ha hd m).dl fun σ H Q h => by
    obtain ⟨⟨ta, tb⟩, hc⟩ := Option.isSome_iff_exists.mp ht
    obtain ⟨ρ, τ, an, r, ρ', S, e, q⟩ := h
    unfold eRst at e
    cases e0 : tAt j ρ with
    | none => simp [e0] at e
    | some t0 =>
      obtain ⟨c0, m0⟩ := t0
      simp only [e0, Option.bind_some] at e
      split at e
      · rename_i k1 ρ1 e1
        split at e
        · rename_i d1 ρ2 e2
          cases e3 : tAt j ρ2 with
          | none => simp [e3] at e
          | some t3 =>
            obtain ⟨c3, m3⟩ := t3
            simp [e3] at e
            obtain ⟨rfl, rfl⟩ := e
            obtain ⟨h1, h2, h3, h4⟩ := S.townC e0 hc
            refine ⟨.ref ta, h1, ta, .ref tb, rfl, ?_, tb, rfl, Or.inl ⟨_, Or.inl h4⟩, ρ, τ, an, _, ρ1, S, e1, fun v1 H1 S1 => ⟨ρ1, _, an, _, ρ2, S1, e2, fun v2 H2 S2 => ?_⟩⟩
            · rw [← val_rests c0 tb]
              exact DGet.k (k := Sum.inr "rests") h3
            · have ev1 := (S2.at (List.mem_cons_of_mem _ List.mem_cons_self)).int_inv
              have ev2 := S2.here.int_inv
              subst ev1
              subst ev2
              obtain ⟨g1, g2, g3, g4⟩ := S2.townC e3 hc
              refine ⟨(getI m3 k1).map V.int, ?_, ?_⟩
              · rw [← valI]
                exact DGet.k (k := Sum.inl k1) g4
              · have e4 : ((getI m3 k1).map V.int).getD (.int d1) = .int ((getI m3 k1).getD d1) := by cases getI m3 k1 <;> rfl
                rw [e4]
                exact q _ H2 (S2.pop2.push fun _ _ => .int _)
        · cases e
      · cases e
/-- town['rests'][k] = e -/
def sRst (j : Nat) (f g : FE) : FS := fun ρ => match f ρ with
  | some (.d (.int v), ρ1) => (tAt j ρ1).bind fun _ => match g ρ1 with
    | some (.d (.int k), ρ2) => (tAt j ρ2).bind fun t => if t.2.length < 1000000 then some (.next (ρ2.set j (some (.t t.1 (putI t.2 k v))))) else none
    | _ => none
  | _ => none
theorem ds_rst {j : Nat} {n : Str} {i e : Expr} {f g : FE} {p pos p1 p2 pos' : Pos} {k : Nat} (ht : C.tw.isSome = true) (hu : X.A.units + 1 < cLine) (hn : PE X (.Name n p) (tVar j)) (hi : PE X i (tE C g)) (he : PE X e (tE C f))
    (hs : swapsWith e (some (.Subscript (.Subscript (.Name n p) (.Constant (.str "rests") k p2) p1) i pos')) pos.line X.env = pure false := by rfl) :
    PS X (.Assign [.Subscript (.Subscript (.Name n p) (.Constant (.str "rests") k p2) p1) i pos'] e pos) (tS C (sRst j f g)) :=
  (ps_dput hu (pe_rests hu hn) hi he hs).dl fun G σ H h => by
    obtain ⟨⟨ta, tb⟩, hc⟩ := Option.isSome_iff_exists.mp ht
    obtain ⟨ρ, τ, an, o, ad, S, e, kk⟩ := h
    unfold sRst at e
    split at e
    · rename_i v1 ρ1 e1
      cases e0 : tAt j ρ1 with
      | none => simp [e0] at e
      | some t0 =>
        obtain ⟨c0, m0⟩ := t0
        simp only [e0, Option.bind_some] at e
        split at e
        · rename_i k2 ρ2 e2
          cases e3 : tAt j ρ2 with
          | none => simp [e3] at e
          | some t3 =>
            obtain ⟨c3, m3⟩ := t3
            simp only [e3, Option.bind_some] at e
            split at e
            · rename_i hz
              cases e
              refine ⟨ρ, τ, an, _, ρ1, S, e1, fun w H1 S1 => ?_⟩
              have ew := S1.here.int_inv
              subst ew
              obtain ⟨h1, h2, h3, h4⟩ := S1.townC e0 hc
              refine ⟨.ref ta, h1, ta, .ref tb, rfl, ?_, ρ1, _, an, _, ρ2, S1, e2, fun w2 H2 S2 => ?_⟩
              · rw [← val_rests c0 tb]
                exact DGet.k (k := Sum.inr "rests") h3
              · have ew := S2.here.int_inv
                subst ew
                obtain ⟨g1, g2, g3, g4⟩ := S2.townC e3 hc
                refine ⟨tb, _, rfl, DPut.k (k := Sum.inl k2) g4 (by rw [List.length_map, sizeLine_eq]; omega), kk _ _ ?_⟩
                rw [putKI]
                exact S2.pop2.retown e3 g1 g3 (fun x o n1 n2 ho => by rw [upd_ne n2]; exact ho) (by rw [upd_ne g2]; exact g3) upd_same
            · cases e
        · cases e
    · cases e

/-! ### cells that came with a call -/
theorem SD.adopt {ps : List (Addr × HO)} (S : SD C σ H ρ τ an) (k : Le H H') (hp : ∀ q ∈ ps, H q.1 = none ∧ H' q.1 = some q.2 ∧ Mt q.2) (nd : (ps.map (·.1)).Nodup) : SD C σ H' ρ τ (ps ++ an) := by
  obtain ⟨fp, s⟩ := S
  have m : Le (msk (OO C.F fp an) H) (msk (OO C.F fp (ps ++ an)) H') := le_msk (fun a h => by
    rcases h with h | h | ⟨w, h⟩
    · exact .inl (.inl h)
    · exact .inl (.inr (.inl h))
    · rcases List.mem_append.mp h with h | h
      · exact .inr (hp _ h).1
      · exact .inl (.inr (.inr ⟨w, h⟩))) fun a u _ e => k a u e
  have h0 : ∀ q ∈ ps, C.H0 q.1 = none := fun q hq => by
    cases e : C.H0 q.1 with
    | none => rfl
    | some u =>
      by_cases hv : C.Vo q.1
      · obtain ⟨_, w, h2, _⟩ := s.vol q.1 hv
        rw [(hp q hq).1] at h2
        cases h2
      · have h2 := s.ext q.1 u hv e
        rw [(hp q hq).1] at h2
        cases h2
  have s' := s.grow k
  refine ⟨fp, s.tabk (fun a u e _ _ => k a u e) (fun i a h => .inl ⟨i, h⟩) (fun a w h => (List.mem_append.mp h).elim (fun h => .inr (.inr (hp _ h).1)) fun h => .inr (.inl ⟨w, h⟩)), s'.len, s'.ext, s'.vol, s'.inj, fun i a h w z => ?_, ?_, s'.own, fun a w h => ?_, s'.frn, fun i b e => ?_, s'.emp, fun q hq => (s.tmp q hq).mono m⟩
  · rcases List.mem_append.mp z with z | z
    · obtain ⟨_, u, h2, _⟩ := s.own i a h
      rw [(hp _ z).1] at h2
      cases h2
    · exact s.ani i a h w z
  · rw [List.map_append, List.nodup_append]
    refine ⟨nd, s.and, fun a ha b hb e => ?_⟩
    subst e
    obtain ⟨⟨a1, w1⟩, z1, z2⟩ := List.mem_map.mp ha
    obtain ⟨⟨a2, w2⟩, z3, z4⟩ := List.mem_map.mp hb
    have e1 : a1 = a := z2
    have e2 : a2 = a := z4
    subst e1
    subst e2
    obtain ⟨_, h2, _⟩ := s.ano _ w2 z3
    rw [(hp _ z1).1] at h2
    cases h2
  · rcases List.mem_append.mp h with h | h
    · exact ⟨h0 _ h, (hp _ h).2.1, (hp _ h).2.2⟩
    · exact s'.ano a w h
  · obtain ⟨v, h1, h2⟩ := s.bnd i b e
    exact ⟨v, h1, h2.mono m fun a _ u e => k a u e⟩

/-! ### _law_begun -/
def spBg (_ : PySem.W.Frag) : Sp := fun vs H Q _ => vs.length = 0 ∧ ∀ a b H', Le H H' → H a = none → H b = none → a ≠ b → H' a = some (cntO 0 b) → H' b = some (rstO []) → Q (.ref a) H'
theorem begun_pe {k1 k2 k3 : Nat} {p1 p2 p3 p4 pos : Pos} : PE X (.Dict [some (.Constant (.str "count") k1 p1), some (.Constant (.str "rests") k2 p2)] [.Constant (.int 0) k3 p3, .Dict [] [] p4] pos)
    (fun _ H Q => ∀ a b H', Le H H' → H a = none → H b = none → a ≠ b → H' a = some (cntO 0 b) → H' b = some (rstO []) → Q (.ref a) H') := by
  refine (pe_disp (pps_cons (pe_str (x := "count")) (pe_int (i := 0)) (pps_cons (pe_str (x := "rests")) pe_dnewK pps_nil)) rfl rfl (by simp) (by simp)).dl fun σ H Q h => ?_
  intro a ha
  show ∀ b, upd H a (.dK []) b = none → _
  intro b hb
  have hab : a ≠ b := fun z => by
    subst z
    rw [upd_same] at hb
    cases hb
  have hb2 : H b = none := by
    rw [upd_ne (Ne.symm hab)] at hb
    exact hb
  refine ⟨by rw [upd_ne hab]; exact upd_same, [(Sum.inr "count", .int 0), (Sum.inr "rests", .ref b)], rfl, by simp, ?_⟩
  have em : mergeK [] [((Sum.inr "count" : Key), V.int 0), (Sum.inr "rests", V.ref b)] = [((Sum.inr "count" : Key), V.int 0), (Sum.inr "rests", V.ref b)] := by
    show putK (putK [] (Sum.inr ("count" : Str) : Key) (V.int 0)) (Sum.inr ("rests" : Str)) (V.ref b) = _
    rw [putK_new _ valV_nil, List.nil_append, putK_new _ (by rw [valV_neg neCR, valV_nil])]
    rfl
  rw [em]
  refine h a b _ (fun c o e => ?_) ha hb2 hab upd_same ?_
  · have n1 : c ≠ a := fun z => by rw [z, ha] at e; cases e
    have n2 : c ≠ b := fun z => by rw [z, hb2] at e; cases e
    rw [upd_ne n1, upd_ne n2, upd_ne n1]
    exact e
  · rw [upd_ne (Ne.symm hab), upd_same]
    rfl
/-- name = _law_begun() -/
def sBg (i : Nat) : FS := fun ρ => if i < ρ.length then some (.next (ρ.set i (some (.t 0 [])))) else none
theorem ds_bg {i k : Nat} {n g : Str} {f : Addr} {fd : FuncData} {p pos pos' pos2 : Pos} (hK : C.K = X.K) (htw : C.tw = none) (hN : X.N.Nodup) (hi : X.N[i]? = some n) (hx : Loc X.env.scope n) (F : FnOk X.prog X.w X.K X.mg X.base (L2.CX X.prog X.w) k f fd [] (spBg X.K)) (hr : Room k X.A) (hg : Gl X g) (hm : X.mg g = some (.ref f)) (hk : PySem.W.keepIn X.K (.ref f) = true) (hb : Binds X.K fd [] [])
    (hdb : (g == ("__debug__" : Str)) = false := by decide) (hs : swapsWith (.Call (.Name g p) [] [] pos2) (some (.Name n pos')) pos.line X.env = pure false := by rfl) (hf : X.fn n = true ∨ X.env.scope.names.lookup n = some .local := by first | exact .inl rfl | exact .inr rfl | assumption) :
    PS X (.Assign [.Name n pos'] (.Call (.Name g p) [] [] pos2) pos) (tS C (sBg i)) :=
  (ps_set hN hi hx (pe_call0 (dvs := []) F hr hg hm hk hb .nil passL hdb) hs hf).dl fun G σ H h => by
    obtain ⟨ρ, τ, an, o, ad, S, e, kk⟩ := h
    unfold sBg at e
    split at e
    · rename_i hr
      cases e
      refine ⟨rfl, fun a b H' le ha hb hab ha' hb' => kk _ H' ?_⟩
      have S1 := S.adopt (ps := [(a, cntO 0 b), (b, rstO [])]) le (fun q hq => ?_) (by simp [hab])
      · refine SD.storeN (ps := [(a, cntO 0 b), (b, rstO [])]) S1 ad hr fun O' _ => ⟨a, b, rfl, rfl, hab, fun p hp => ?_, ha', hb'⟩
        rw [htw] at hp
        cases hp
      · rcases List.mem_cons.mp hq with z | z
        · subst z
          exact ⟨ha, ha', trivial⟩
        · rw [List.mem_singleton.mp z]
          exact ⟨hb, hb', trivial⟩
    · cases e
end
end DL
namespace DL
open PySem L2

abbrev TM := List Int → Int → List (Int × Int) → List D → Option (D × Int × List (Int × Int))
/-- what a def over script, town and data promises -/
def spT (K : PySem.W.Frag) (n : Nat) (m : TM) : Sp := fun vs H Q _ => vs.length = n + 2 ∧ ∃ as a b us ns c mm ds d c' mm', vs = .ref as :: .ref a :: us ∧ SqF K H as (ns.map V.int) ∧ a ≠ b ∧ H a = some (cntO c b) ∧ H b = some (rstO mm) ∧ DnL K H us ds ∧ m ns c mm ds = some (d, c', mm') ∧
  ∀ v H', (∀ x o, x ≠ a → x ≠ b → H x = some o → H' x = some o) → H' a = some (cntO c' b) → H' b = some (rstO mm') → Dn K (msk (mutIn H) H') v d → Q v H'
/-- what the law's def promises -/
def spL (K : PySem.W.Frag) (m : List Int → Option D) : Sp := fun vs H Q _ => vs.length = 1 ∧ ∃ a ns d, vs = [.ref a] ∧ SqF K H a (ns.map V.int) ∧ m ns = some d ∧ ∀ v H', Dn K H' v d → Q v H'

section
variable {C : Fr} {X : Cx} {fp : Nat → List Addr} {σ : L2.St} {H H' : Hp} {ρ ρ' : Rho} {τ : List (V × R)} {an an' : List (Addr × HO)} {v : V} {r : R} {x y z : D} {G : Ends} {p : Addr} {o : HO}
theorem SD.resultT (S : SD C σ H ρ τ an) {j : Nat} {c c' : Int} {m m' : List (Int × Int)} (e : tAt j ρ = some (c, m)) {a b : Addr} (hv : σ[j]? = some (some (.ref a))) (hb : H a = some (cntO c b)) (k : ∀ x o, x ≠ a → x ≠ b → H x = some o → H' x = some o)
    (ha' : H' a = some (cntO c' b)) (hb' : H' b = some (rstO m')) {d : D} (h : Dn C.K (msk (mutIn H) H') v d) : SD C σ H' (ρ.set j (some (.t c' m'))) ((v, .d d) :: τ) an := by
  obtain ⟨fp, s⟩ := S
  obtain ⟨v0, h1, a1, b1, h0, h2, h3, h4, h5, h6⟩ := s.bnd j _ (tAt_inv e)
  rw [hv] at h1
  cases h1
  cases h0
  have eb : b = b1 := tw_b (S := ⟨fp, s⟩) hb h5
  subst eb
  have s' : SDf C fp σ H' (ρ.set j (some (.t c' m'))) τ an := s.chg hv (fun x o hx ho => k x o (fun z => hx (by rw [h2, z]; simp)) (fun z => hx (by rw [h2, z]; simp)) ho) (fun x hx => by
    rw [h2] at hx
    rcases List.mem_cons.mp hx with z | z
    · subst z
      exact ⟨_, ha', trivial⟩
    · have z := List.mem_singleton.mp z
      subst z
      exact ⟨_, hb', trivial⟩) ⟨_, tAt_inv e⟩ fun _ => ⟨a, b, rfl, h2, h3, h4, ha', hb'⟩
  refine ⟨fp, s'.tmps fun q hq => ?_⟩
  rcases List.mem_cons.mp hq with rfl | hq
  · exact Dn.mono (le_msk (fun a z => .inl (s.oo z)) fun a o _ e => e) h
  · exact s'.tmp q hq
theorem SD.scriptF (S : SD C σ H ρ τ an) {i : Nat} {ns : List Int} (e : sAt i ρ = some ns) : ∃ a, σ[i]? = some (some (.ref a)) ∧ SqF C.K H a (ns.map V.int) := by
  obtain ⟨fp, s⟩ := S
  obtain ⟨v, h1, h2, a, rfl, h3⟩ := s.bnd i _ (sAt_inv e)
  exact ⟨a, h1, (msk_le _ _).sqf h3⟩
/-- f(script, town, ..) -/
def eCallT (n : Nat) (m : TM) (f : FA) : FE := fun ρ => (f ρ).bind fun p => match p.1 with
  | .own i :: .own j :: rs => if rs.length = n then (sAt i p.2).bind fun ns => (tAt j p.2).bind fun t => (rdos p.2 rs).bind fun ds => (m ns t.1 t.2 ds).map fun u => (.d u.1, p.2.set j (some (.t u.2.1 u.2.2))) else none
  | _ => none
theorem imp_callT {n : Nat} {m : TM} {f : FA} {E : XK} {Q : VK} (h : tE C (eCallT n m f) σ H Q) : tCall (spT C.K n m) [] E (tA C f) σ H Q := by
  obtain ⟨ρ, τ, an, r, ρ', S, e, q⟩ := h
  unfold eCallT at e
  cases e1 : f ρ with
  | none => simp [e1] at e
  | some p =>
    obtain ⟨rs0, ρ1⟩ := p
    simp only [e1, Option.bind_some] at e
    split at e
    · rename_i i j rs
      split at e
      · rename_i hn
        cases e2 : sAt i ρ1 with
        | none => simp [e2] at e
        | some ns =>
          cases e3 : tAt j ρ1 with
          | none => simp [e2, e3] at e
          | some t =>
            obtain ⟨c, mm⟩ := t
            cases e4 : rdos ρ1 rs with
            | none => simp [e2, e3, e4] at e
            | some ds =>
              cases e5 : m ns c mm ds with
              | none => simp [e2, e3, e4, e5] at e
              | some u =>
                obtain ⟨d, c', mm'⟩ := u
                simp [e2, e3, e4, e5] at e
                obtain ⟨rfl, rfl⟩ := e
                refine ⟨ρ, τ, an, _, _, S, e1, fun vs H1 hl S1 => ?_⟩
                match vs, hl with
                | v1 :: v2 :: us, hl =>
                  have hl' : us.length = rs.length := by simpa using hl
                  obtain ⟨a0, g1, g2⟩ := S1.scriptF e2
                  obtain ⟨a, b, g3, g4, g5, g6⟩ := S1.town e3
                  have hv1 : v1 = .ref a0 := by
                    obtain ⟨fp, s⟩ := id S1
                    have := s.tmp (v1, .own i) (List.mem_append_left _ List.mem_cons_self)
                    have this : σ[i]? = some (some v1) := this
                    rw [g1] at this
                    cases this
                    rfl
                  have hv2 : v2 = .ref a := by
                    obtain ⟨fp, s⟩ := id S1
                    have := s.tmp (v2, .own j) (List.mem_append_left _ (List.mem_cons_of_mem _ List.mem_cons_self))
                    have this : σ[j]? = some (some v2) := this
                    rw [g3] at this
                    cases this
                    rfl
                  subst hv1
                  subst hv2
                  refine ⟨by simp [hl', hn], a0, a, b, us, ns, c, mm, ds, d, c', mm', by simp, g2, g4, g5, g6, ?_, e5, fun v H' k ha hb hd => q v H' ?_⟩
                  · exact rdos_ok S1 hl' (fun p hp => List.mem_append_left _ (List.mem_cons_of_mem _ (List.mem_cons_of_mem _ hp))) e4
                  · exact (S1.resultT e3 g3 g5 k ha hb hd).keepN fun p hp => List.mem_append_right _ hp
      · cases e
    · cases e
theorem de_callT {k : Nat} {f : Addr} {fd : FuncData} {ps : List Str} {n : Nat} {m : TM} {g : Str} {p pos : Pos} {e : Expr} {es : List Expr} {fa : FA} (hK : C.K = X.K) (F : FnOk X.prog X.w X.K X.mg X.base (L2.CX X.prog X.w) k f fd ps (spT X.K n m)) (hr : Room k X.A) (hg : Gl X g) (hm : X.mg g = some (.ref f)) (hk : PySem.W.keepIn X.K (.ref f) = true) (hb : Binds X.K fd ps [])
    (ha : PA X (e :: es) (tA C fa)) (hdb : (g == ("__debug__" : Str)) = false := by decide) (he : starEach (e :: es) X.env = (false, eval e X.env) :: starEach es X.env := by rfl) (hpl : (backTo pos (starEach es X.env)).any (·.1) = false := by rfl) :
    PE X (.Call (.Name g p) (e :: es) [] pos) (tE C (eCallT n m fa)) :=
  (pe_call (dvs := []) F hr hg hm hk hb .nil passL ha hdb he hpl).dl fun _ _ _ h => by
    have z := imp_callT (E := E0) h
    rw [hK] at z
    exact z

/-! ### the defs themselves -/
def outD : Out → Option (D × Rho)
  | .ret d ρ => some (d, ρ)
  | .next ρ => some (.none, ρ)
  | _ => none
def runT (n : Nat) (F : FS) : TM := fun ns c mm ds => (bindArgs ds).bind fun bs => ((F (pad n (.s ns :: .t c mm :: bs))).bind outD).bind fun q => (tAt 1 q.2).map fun t => (q.1, t.1, t.2)
def runL (n : Nat) (F : FS) (ns : List Int) : Option D := ((F (pad n [.s ns])).bind outD).map (·.1)
theorem sd_startT {K : PySem.W.Frag} {N : List Str} {vs : List V} {ds : List D} {bs : List B} {as a b : Addr} {ns : List Int} {c : Int} {mm : List (Int × Int)} (hs : SqF K H as (ns.map V.int)) (hab : a ≠ b) (ha : H a = some (cntO c b)) (hb : H b = some (rstO mm)) (h : DnL K H vs ds) (he : bindArgs ds = some bs) :
    SD ⟨K, mutIn H, fun x => x = a ∨ x = b, H, some (a, b), [], fun _ _ _ => False, fun _ => none⟩ (start N (.ref as :: .ref a :: vs)) H (pad N.length (.s ns :: .t c mm :: bs)) [] [] := by
  let fp : Nat → List Addr := fun i => if i = 1 then [a, b] else []
  have f1 : fp 1 = [a, b] := rfl
  have f0 : ∀ i, i ≠ 1 → fp i = [] := fun i h => if_neg h
  have mA : mutIn H a := ⟨_, ha, .inl trivial⟩
  have mB : mutIn H b := ⟨_, hb, .inl trivial⟩
  have inF : ∀ i x, x ∈ fp i → i = 1 ∧ (x = a ∨ x = b) := fun i x z => by
    by_cases e : i = 1
    · subst e
      rw [f1] at z
      exact ⟨rfl, by simpa using z⟩
    · rw [f0 i e] at z
      cases z
  have hid : ∀ x xs, Rd H x (.tup xs) → ¬ OO (mutIn H) fp [] x := fun x xs h z => by
    rcases z with z | ⟨i, z⟩ | ⟨w, z⟩
    · exact mt_hide (Le.refl H) x xs h z
    · rcases (inF i x z).2 with e | e
      · subst e
        exact mt_hide (Le.refl H) x xs h mA
      · subst e
        exact mt_hide (Le.refl H) x xs h mB
    · cases z
  have mv : ∀ x, x = a ∨ x = b → (∃ o, H x = some o) ∧ ∃ o, H x = some o ∧ Mt o := fun x z => by
    rcases z with e | e
    · subst e
      exact ⟨⟨_, ha⟩, _, ha, trivial⟩
    · subst e
      exact ⟨⟨_, hb⟩, _, hb, trivial⟩
  refine ⟨fp, fun p hp => (by cases hp), pad_len (by simp [h.1, bindArgs_len he]), fun x o _ e => e, fun x z => let ⟨g1, o, g2, g3⟩ := mv x z; ⟨g1, o, g2, .inl g3⟩, fun i j x z1 z2 => (inF i x z1).1.trans (inF j x z2).1.symm, fun i x z o w => (by cases w), List.nodup_nil, fun i x z => ⟨.inl (inF i x z).2, (mv x (inF i x z).2).2⟩, fun x o z => (by cases z), fun x z => ?_, fun i bb e => ?_, fun i e => ?_, fun p z => (by cases z)⟩
  · obtain ⟨o, z1, z2⟩ := z
    exact ⟨⟨o, z1⟩, o, z1, z2⟩
  · have e1 := pad_at e
    match i, e1 with
    | 0, e1 =>
      cases e1
      refine ⟨.ref as, start_at rfl, f0 0 (by decide), as, rfl, ?_⟩
      rcases hs with ⟨o, hs⟩ | hs
      · exact Or.inl ⟨o, msk_of (fun z => by
          rcases z with ⟨w, z1, z2⟩ | ⟨i, z⟩ | ⟨w, z⟩
          · rw [hs] at z1
            cases z1
            exact z2.nfrz
          · rcases (inF i as z).2 with e | e
            · subst e
              rw [hs] at ha
              cases ha
            · subst e
              rw [hs] at hb
              cases hb
          · cases z) hs⟩
      · exact Or.inr hs
    | 1, e1 =>
      cases e1
      exact ⟨.ref a, start_at rfl, a, b, rfl, f1, hab, fun p hp => (by cases hp; rfl), ha, hb⟩
    | i + 2, e1 =>
      have e1 : bs[i]? = some bb := by simpa using e1
      obtain ⟨x, hx, hbx⟩ := bindArgs_at he e1
      obtain ⟨v, h1, h2⟩ := h.at hx
      refine ⟨v, start_at (by simpa using h1), ?_⟩
      rw [f0 (i + 2) (by omega)]
      unfold bindArg at hbx
      split at hbx
      · rename_i hi
        cases hbx
        exact ⟨rfl, h2.hide hid hi⟩
      · split at hbx
        · split at hbx
          · rename_i xs hi
            cases hbx
            obtain ⟨l, us, rfl, g1, g2⟩ := h2.lst_inv
            refine ⟨rfl, l, us, rfl, fun z => ?_, g1, g2.1, fun j w y p q => (g2.2 j w y p q).hide hid (immL_at hi q)⟩
            have z : l = a ∨ l = b := z
            rcases z with z | z
            · subst z
              rw [ha] at g1
              cases g1
            · subst z
              rw [hb] at g1
              cases g1
          · cases hbx
        · cases hbx
  · by_cases q : i = 1
    · subst q
      exact absurd rfl (e (.t c mm))
    · exact f0 i q
end
section
variable {P : Program} {w : World} {K : PySem.W.Frag} {mg : Str → Option Value} {base : Heap} {n qual : Str} {st : Stmt} {f : Addr} {fd : FuncData} {N ps : List Str} {k : Nat}
abbrev BodyOkT (P : Program) (w : World) (K : PySem.W.Frag) (mg : Str → Option Value) (base : Heap) (N : List Str) (qual : Str) (st : Stmt) (f : Addr) (k : Nat) (F : FS) : Prop :=
  ∀ (C : Fr) (cdv : Value) (A : Around) (outer : List Env) (s : Shared) (H : Hp) (E : XK), C.K = K → C.tw.isSome = true → Room k (A.deeper (PyProof.Rows.envOfC qual (defScope st) s.heap.objs.size f cdv)) →
    PSs (cxOf (L2.CX P w) P w K mg base N qual (defScope st) f cdv A outer s H E).nox (defBody st) (tS C F)
abbrev BodyOkL (P : Program) (w : World) (K : PySem.W.Frag) (mg : Str → Option Value) (base : Heap) (N : List Str) (qual : Str) (st : Stmt) (f : Addr) (k : Nat) (F : FS) : Prop :=
  ∀ (C : Fr) (cdv : Value) (A : Around) (outer : List Env) (s : Shared) (H : Hp) (E : XK), C.K = K → C.tw = none → Room k (A.deeper (PyProof.Rows.envOfC qual (defScope st) s.heap.objs.size f cdv)) →
    PSs (cxOf (L2.CX P w) P w K mg base N qual (defScope st) f cdv A outer s H E).nox (defBody st) (tS C F)
theorem fnT {F : FS} {m : Nat} (hm : ps.length = m + 2) (Fn : Fun K n qual st f fd) (S : FnScope N ps (defScope st)) (hb : BodyOkT P w K mg base N qual st f k F) : FnOk P w K mg base (L2.CX P w) (k + 1) f fd ps (spT K m (runT N.length F)) := by
  refine Fn.okX S (fun vs H Q E h => h.1.trans hm.symm) fun cdv A outer s H vs Q E hr h => ?_
  obtain ⟨hl, as, a, b, us, ns, c, mm, ds, d, c', mm', rfl, hs, hab, ha, hbb, hd, hmd, q⟩ := h
  let C : Fr := ⟨K, mutIn H, fun x => x = a ∨ x = b, H, some (a, b), [], fun _ _ _ => False, fun _ => none⟩
  refine ⟨_, (hb C cdv A outer s H E rfl rfl hr).nox, ?_⟩
  unfold runT at hmd
  cases e0 : bindArgs ds with
  | none => simp [e0] at hmd
  | some bs =>
    cases e1 : F (pad N.length (.s ns :: .t c mm :: bs)) with
    | none => simp [e0, e1] at hmd
    | some o =>
      cases e2 : outD o with
      | none => simp [e0, e1, e2] at hmd
      | some q2 =>
        obtain ⟨d2, ρ2⟩ := q2
        cases e3 : tAt 1 ρ2 with
        | none => simp [e0, e1, e2, e3] at hmd
        | some t =>
          obtain ⟨c2, m2⟩ := t
          simp [e0, e1, e2, e3] at hmd
          obtain ⟨rfl, rfl, rfl⟩ := hmd
          refine ⟨_, [], [], o, AllD.nil, sd_startT hs hab ha hbb hd e0, e1, ?_⟩
          have fin : ∀ {σ : L2.St} {H' : Hp} {τ : List (V × R)} {v : V}, SD C σ H' ρ2 τ [] → Dn K (msk (mutIn H) H') v d2 → Q v H' := fun {σ H' τ v} S' hv => by
            obtain ⟨g1, g2, g3, g4⟩ := S'.townC e3 (a := a) (b := b) rfl
            obtain ⟨fp, s'⟩ := S'
            exact q v H' (fun x o n1 n2 e => s'.ext x o (fun z => by
              rcases z with z | z
              · exact n1 z
              · exact n2 z) e) g3 g4 hv
          cases o with
          | next ρ' =>
            cases e2
            exact fun σ' H' S' => fin S' .non
          | ret d3 ρ' =>
            cases e2
            refine fun v σ' H' S' => fin S' ?_
            obtain ⟨fp, s'⟩ := S'
            exact Dn.mono (le_msk (fun a z => .inl (.inl z)) fun a o _ e => e) (s'.tmp _ List.mem_cons_self)
          | brk ρ' => cases e2
          | cont ρ' => cases e2
          | exc x => cases e2
theorem fnL {F : FS} {x : Str} (Fn : Fun K n qual st f fd) (S : FnScope N [x] (defScope st)) (hb : BodyOkL P w K mg base N qual st f k F) : FnOk P w K mg base (L2.CX P w) (k + 1) f fd [x] (spL K (runL N.length F)) := by
  refine Fn.okX S (fun vs H Q E h => h.1) fun cdv A outer s H vs Q E hr h => ?_
  obtain ⟨hl, a, ns, d, rfl, hs, hmd, q⟩ := h
  let C : Fr := ⟨K, fun _ => False, fun _ => False, H, none, [], fun _ _ _ => False, fun _ => none⟩
  refine ⟨_, (hb C cdv A outer s H E rfl rfl hr).nox, ?_⟩
  unfold runL at hmd
  cases e1 : F (pad N.length [.s ns]) with
  | none => simp [e1] at hmd
  | some o =>
    cases e2 : outD o with
    | none => simp [e1, e2] at hmd
    | some q2 =>
      obtain ⟨d2, ρ2⟩ := q2
      simp [e1, e2] at hmd
      subst hmd
      have all : Le H (msk (OO (fun _ => False) (fun _ => []) []) H) := fun a o e => msk_of (fun z => by
        rcases z with z | ⟨i, z⟩ | ⟨w, z⟩
        · exact z
        · cases z
        · cases z) e
      refine ⟨_, [], [], o, AllD.nil, ⟨fun _ => [], fun p hp => (by cases hp), pad_len rfl, fun a o _ e => e, fun a z => z.elim, fun i j a z => (by cases z), fun i a z => (by cases z), List.nodup_nil, fun i a z => (by cases z), fun a o z => (by cases z), fun a z => z.elim, fun i b e => ?_, fun _ _ => rfl, fun p z => (by cases z)⟩, e1, ?_⟩
      · have e1 := pad_at e
        match i, e1 with
        | 0, e1 =>
          cases e1
          exact ⟨.ref a, start_at rfl, rfl, a, rfl, all.sqf hs⟩
        | i + 1, e1 => simp at e1
      · cases o with
        | next ρ' =>
          cases e2
          exact fun σ' H' S' => q .non H' .non
        | ret d3 ρ' =>
          cases e2
          exact fun v σ' H' S' => q v H' S'.here
        | brk ρ' => cases e2
        | cont ρ' => cases e2
        | exc x => cases e2
theorem fnBg {k1 k2 k3 : Nat} {p1 p2 p3 p4 pos pos2 : Pos} (Fn : Fun K n qual st f fd) (S : FnScope N [] (defScope st)) (hst : defBody st = [.Return (some (.Dict [some (.Constant (.str "count") k1 p1), some (.Constant (.str "rests") k2 p2)] [.Constant (.int 0) k3 p3, .Dict [] [] p4] pos)) pos2]) :
    FnOk P w K mg base (L2.CX P w) (k + 1) f fd [] (spBg K) := by
  refine Fn.okX S (fun vs H Q E h => h.1) fun cdv A outer s H vs Q E hr h => ?_
  rw [hst]
  exact ⟨_, pss_one (ps_ret begun_pe), h.2⟩
end
end DL
namespace DL
open PySem L2

/-- a def that stands under the name g, and what it promises -/
structure Def (P : Program) (w : World) (K : PySem.W.Frag) (mg : Str → Option Value) (base : Heap) (k : Nat) (g x : Str) (st : Stmt) (ps : List Str) (sp : Sp) : Prop where
  ex : ∃ f fd, FnOk P w K mg base (L2.CX P w) k f fd ps sp ∧ mg g = some (.ref f) ∧ Fun K x x st f fd
  bi : ∀ (kV doc pm : Value) (an : Option Addr) (cdv ct : Value) (us : List Value), us.length = ps.length → PySem.bindArgs (PySem.W.fnOf x x (defArgs st) (defBody st) (defScope st) .none kV doc pm an cdv ct) ⟨us, []⟩ = pure (ps.zip us)
/-- a call with keywords binds so -/
def KwOk (x : Str) (st : Stmt) (ps ks : List Str) (j : Nat) : Prop := ps.length = j + ks.length ∧ ps ≠ [] ∧ ∀ (kV doc pm : Value) (an : Option Addr) (cdv ct : Value) (us ws : List Value), us.length = j → ws.length = ks.length →
  PySem.bindArgs (PySem.W.fnOf x x (defArgs st) (defBody st) (defScope st) .none kV doc pm an cdv ct) ⟨us, ks.zip ws⟩ = pure (ps.zip (us ++ ws))
theorem kb_of {K : PySem.W.Frag} {x : Str} {st : Stmt} {f : Addr} {fd : FuncData} {ps ks : List Str} {j : Nat} (Fn : Fun K x x st f fd) (h : KwOk x st ps ks j) : KBinds K fd ps ks (gpos Value j) (gpos V j) := by
  obtain ⟨oc, od, kV, doc, pm, an, cdv, ct, osl, rfl, lk, hcd⟩ := Fn.ex
  refine ⟨fun s us ws _ hl => ?_, fun a b => gpos_rel a b⟩
  unfold gpos at hl ⊢
  split at hl
  · rename_i hj
    rw [if_pos hj]
    refine .of_eq (h.2.2 kV doc pm an cdv ct us ws hj ?_)
    rw [List.length_append, h.1] at hl
    omega
  · exact absurd (List.length_eq_zero_iff.mp hl.symm) h.2.1
section
variable {C : Fr} {X : Cx} {k : Nat} {g x : Str} {st : Stmt} {ps : List Str} {n : Nat} {p pos : Pos} {e : Expr} {es : List Expr} {fa : FA}
theorem de_callD {m : List D → Option D} (hK : C.K = X.K) (F : Def X.prog X.w X.K X.mg X.base k g x st ps (spF X.K n m)) (hr : Room k X.A) (hg : Gl X g)
    (ha : PA X (e :: es) (tA C fa)) (hdb : (g == ("__debug__" : Str)) = false := by decide) (he : starEach (e :: es) X.env = (false, eval e X.env) :: starEach es X.env := by rfl) (hpl : (backTo pos (starEach es X.env)).any (·.1) = false := by rfl) :
    PE X (.Call (.Name g p) (e :: es) [] pos) (tE C (eCall n m fa)) := by
  obtain ⟨f, fd, h1, h2, h3⟩ := F.ex
  exact de_call hK h1 hr hg h2 h3.kp (h3.binds F.bi) ha hdb he hpl
theorem de_callD0 {m : List D → Option D} (hK : C.K = X.K) (F : Def X.prog X.w X.K X.mg X.base k g x st ps (spF X.K n m)) (hr : Room k X.A) (hg : Gl X g) (hdb : (g == ("__debug__" : Str)) = false := by decide) : PE X (.Call (.Name g p) [] [] pos) (tE C (eCall n m aNil)) := by
  obtain ⟨f, fd, h1, h2, h3⟩ := F.ex
  exact de_call0 hK h1 hr hg h2 h3.kp (h3.binds F.bi) hdb
theorem de_callTD {m : TM} (hK : C.K = X.K) (F : Def X.prog X.w X.K X.mg X.base k g x st ps (spT X.K n m)) (hr : Room k X.A) (hg : Gl X g)
    (ha : PA X (e :: es) (tA C fa)) (hdb : (g == ("__debug__" : Str)) = false := by decide) (he : starEach (e :: es) X.env = (false, eval e X.env) :: starEach es X.env := by rfl) (hpl : (backTo pos (starEach es X.env)).any (·.1) = false := by rfl) :
    PE X (.Call (.Name g p) (e :: es) [] pos) (tE C (eCallT n m fa)) := by
  obtain ⟨f, fd, h1, h2, h3⟩ := F.ex
  exact de_callT hK h1 hr hg h2 h3.kp (h3.binds F.bi) ha hdb he hpl
theorem de_callKD {m : List D → Option D} {j : Nat} {kws : List Keyword} {fk : FA} {ks : List Str} (hK : C.K = X.K) (F : Def X.prog X.w X.K X.mg X.base k g x st ps (spF X.K n m)) (hr : Room k X.A) (hg : Gl X g) (hb : KwOk x st ps ks j)
    (ha : PA X (e :: es) (tA C fa)) (hkw : PK X kws (tA C fk)) (hj : ∀ ρ rs ρ', fa ρ = some (rs, ρ') → rs.length = j) (hall : (backToKw pos (keywordEach kws X.env)).all (·.1.isSome) = true := by rfl) (hks : (backToKw pos (keywordEach kws X.env)).filterMap (·.1) = ks := by rfl)
    (hdb : (g == ("__debug__" : Str)) = false := by decide) (he : starEach (e :: es) X.env = (false, eval e X.env) :: starEach es X.env := by rfl)
    (hpl : ((backTo pos (starEach (e :: es) X.env)).any (·.1) || (backToKw pos (keywordEach kws X.env)).any (·.1.isNone)) = false := by rfl) :
    PE X (.Call (.Name g p) (e :: es) kws pos) (tE C (eCall n m (aApp fa fk))) := by
  obtain ⟨f, fd, h1, h2, h3⟩ := F.ex
  exact de_callK hK h1 hr hg h2 h3.kp (kb_of h3 hb) ha hkw hj hall hks hdb he hpl
theorem de_callKD0 {m : List D → Option D} {kws : List Keyword} {fk : FA} {ks : List Str} (hK : C.K = X.K) (F : Def X.prog X.w X.K X.mg X.base k g x st ps (spF X.K n m)) (hr : Room k X.A) (hg : Gl X g) (hb : KwOk x st ps ks 0)
    (hkw : PK X kws (tA C fk)) (hall : (backToKw pos (keywordEach kws X.env)).all (·.1.isSome) = true := by rfl) (hks : (backToKw pos (keywordEach kws X.env)).filterMap (·.1) = ks := by rfl)
    (hdb : (g == ("__debug__" : Str)) = false := by decide) (hpl : (backToKw pos (keywordEach kws X.env)).any (·.1.isNone) = false := by rfl) :
    PE X (.Call (.Name g p) [] kws pos) (tE C (eCall n m (aApp aNil fk))) := by
  obtain ⟨f, fd, h1, h2, h3⟩ := F.ex
  exact de_callK0 hK h1 hr hg h2 h3.kp (kb_of h3 hb) hkw hall hks hdb hpl
theorem ds_bgD {i : Nat} {v : Str} {pos' pos2 : Pos} (hK : C.K = X.K) (htw : C.tw = none) (hN : X.N.Nodup) (hi : X.N[i]? = some v) (hx : Loc X.env.scope v) (F : Def X.prog X.w X.K X.mg X.base k g x st [] (spBg X.K)) (hr : Room k X.A) (hg : Gl X g)
    (hdb : (g == ("__debug__" : Str)) = false := by decide) (hs : swapsWith (.Call (.Name g p) [] [] pos2) (some (.Name v pos')) pos.line X.env = pure false := by rfl) (hf : X.fn v = true ∨ X.env.scope.names.lookup v = some .local := by first | exact .inl rfl | exact .inr rfl | assumption) :
    PS X (.Assign [.Name v pos'] (.Call (.Name g p) [] [] pos2) pos) (tS C (sBg i)) := by
  obtain ⟨f, fd, h1, h2, h3⟩ := F.ex
  exact ds_bg hK htw hN hi hx h1 hr hg h2 h3.kp (h3.binds F.bi) hdb hs hf
/-- how many arguments there are -/
theorem aNil_n {ρ ρ' : Rho} {rs : List R} (h : aNil ρ = some (rs, ρ')) : rs.length = 0 := by
  cases h
  rfl
theorem aCons_n {f : FE} {g : FA} {j : Nat} (hg : ∀ ρ rs ρ', g ρ = some (rs, ρ') → rs.length = j) : ∀ ρ rs ρ', aCons f g ρ = some (rs, ρ') → rs.length = j + 1 := fun ρ rs ρ' h => by
  obtain ⟨a, ρ1, bs, h1, h2, rfl⟩ := aCons_inv h
  simp [hg _ _ _ h2]
end
/-- nothing promised -/
theorem fn_none {P : Program} {w : World} {K : PySem.W.Frag} {mg : Str → Option Value} {base : Heap} {k n : Nat} {f : Addr} {fd : FuncData} {ps : List Str} (hn : ps.length = n) : FnOk P w K mg base (L2.CX P w) k f fd ps (spF K n fun _ => none) :=
  ⟨fun vs H Q E h => h.1.trans hn.symm, fun A outer s H args us vs Q E hr he hb hv h => by
    obtain ⟨_, ds, d, _, hm, _⟩ := h
    cases hm⟩
end DL
namespace DL
open PySem L2

section
variable {C : Fr} {X : Cx} {fp : Nat → List Addr} {σ : L2.St} {H H' : Hp} {ρ ρ' : Rho} {τ : List (V × R)} {an an' : List (Addr × HO)} {v : V} {r : R} {x y z : D} {G : Ends} {p : Addr} {o : HO}
/-- a, b = x, y, by way of the tuple -/
def gNames : List Nat → TGs
  | [] => gNil
  | i :: is => gCons (gName i) (gNames is)
theorem gNames_of : ∀ {is : List Nat} {vs : List V} {σ : L2.St} {H : Hp} {Q : L2.St → Hp → Prop}, vs.length = is.length → Q (setX σ is vs) H → gNames is vs σ H Q
  | [], [], _, _, _, _, h => ⟨rfl, h⟩
  | [], _ :: _, _, _, _, e, _ => by simp at e
  | _ :: _, [], _, _, _, e, _ => by simp at e
  | i :: is, v :: vs, σ, H, Q, e, h => ⟨v, vs, rfl, gNames_of (by simpa using e) h⟩
theorem ds_parT {is : List Nat} {ts es : List Expr} {f : FX} {k k2 : Nat} {pt pt2 pos : Pos} (hc : X.calm = true) (hz : is.length ≤ 10) (ha : PA X es (tX C f)) (hg : PGs X ts (gNames is)) (hn : (assignEach ts X.env).length = is.length := by rfl) (hst : (assignEach ts X.env).findIdx? (·.1) = none := by rfl)
    (hs : swapsWithSole [.Tuple ts k pt] (.Tuple es k2 pt2) pos.line X.env = pure false := by rfl) (hw : swappedStores [.Tuple ts k pt] (.Tuple es k2 pt2) X.env = pure none := by rfl) (h1 : (assignEach [.Tuple ts k pt] X.env).map (·.2) = [assign (.Tuple ts k pt) X.env] := by rfl) :
    PS X (.Assign [.Tuple ts k pt] (.Tuple es k2 pt2) pos) (tS C (sPar is f)) := (ps_asg (pe_tupZ ha) (pg_tup hc hg hn hst) hs hw h1).dl fun G σ H h => by
  obtain ⟨ρ, τ, an, o, ad, S, e, kk⟩ := h
  unfold sPar at e
  cases e1 : f ρ with
  | none => simp [e1] at e
  | some q =>
    obtain ⟨rs, ρ1⟩ := q
    cases e2 : putX is rs ρ1 with
    | none => simp [e1, e2] at e
    | some ρ2 =>
      simp [e1, e2] at e
      subst e
      refine ⟨ρ, τ, an, rs, ρ1, S, e1, fun vs H1 τ' an' ok S1 => ?_⟩
      have hl : vs.length = is.length := by rw [xok_len ok, putX_len e2]
      refine ⟨by rw [sizeLine_eq]; omega, fun p o ho hp => ⟨p, vs, rfl, Or.inl (Or.inr ⟨o, upd_same⟩), hl, gNames_of hl (kk _ _ ?_)⟩⟩
      exact xok_put ad ok (S1.grow (Le.new hp)) e2
end
end DL
namespace DL
open PySem PySem.Spec PyProof.Rows L2
/-! ### methods of tuples and lists with one argument: t.index(x) -/
def tyZ (K : PySem.W.Frag) (T : String) (x : V) (H : Hp) : Prop := tyV K T x H ∨ (T = "tuple" ∧ ∃ p xs, x = .ref p ∧ TpS H p xs)
section
variable {X : Cx} {C : Fr} {σ : L2.St} {H : Hp} {ρ ρ' : Rho} {τ : List (V × R)} {an : List (Addr × HO)}
theorem tyZ_is {pins : List (Addr × Obj)} {s : Shared} {T : String} {x : V} {v : Value} (I : Inv X pins σ H s) (r : RelV x v) (ty : tyZ X.K T x H) : s.TypeIs v T ∧ ∀ a, v = .ref a → ∃ ob, s.heap.get? a = some ob ∧ ob.dict = none := by
  rcases ty with ty | ⟨rfl, p, xs, rfl, o, h, hd⟩
  · exact tyV_is I r ty
  · cases r
    obtain ⟨e, _, its, _, ob, e2, hc, _⟩ := I.hok p _ h
    rw [e] at e2
    cases e2
    exact ⟨⟨_, e, hc⟩, fun a z => by cases z; exact ⟨_, e, hd⟩⟩
def tBMZ (K : PySem.W.Frag) (T : String) (r : V → List V → Hp → VK → Prop) (to : TE) (t : TA) : TE := fun σ H Q => to σ H fun x H1 => tyZ K T x H1 ∧ t σ H1 fun xs H2 => r x xs H2 Q
theorem pe_bmZ {o e : Expr} {es : List Expr} {to : TE} {t : TA} {name : Str} {apos cpos : Pos} {T id : String} {r : V → List V → Hp → VK → Prop} (pa : PlainAttrs T) (slot : Slot T name id) (hty : typeOf (.builtin id) = pure (.type "method_descriptor")) (hm : MtR X id r) (ho : PE X o to) (ha : PA X (e :: es) t)
    (hbase : attributeBase o name X.env (eval o X.env) = eval o X.env := by rfl)
    (hfew : ((backTo cpos (starEach (e :: es) X.env)).all (fun x => !x.1) && (backToKw cpos (keywordEach [] X.env)).all (fun x => x.1.isSome) && decide ((e :: es).length + ([] : List Keyword).length + (if ([] : List Keyword).isEmpty then 0 else 1) < 30)) = true := by rfl)
    (hline : (apos.endLine == cpos.line) = true := by rfl) (hs : starEach (e :: es) X.env = (false, eval e X.env) :: starEach es X.env := by rfl) (hplain : (backTo cpos (starEach es X.env)).any (·.1) = false := by rfl) :
    PE X (.Call (.Attribute o name apos) (e :: es) [] cpos) (tBMZ X.K T r to t) := by
  refine ⟨fun pins s σ H Q I h => ?_⟩
  refine wpAny_Call_method_late hbase hfew hline rfl (thn (ho.run pins s σ H _ I h) fun v s1 ⟨x, H1, I1, r1, ty, q1⟩ => ?_)
  obtain ⟨h1, h2⟩ := tyZ_is I1 r1 ty
  refine ⟨T, id, pa, slot, hty, h1, h2, ?_⟩
  have hA := ha.run cpos pins s1 σ H1 _ I1 q1
  rw [hs] at hA ⊢
  refine Calls.callWith_builtin (by show (false || (backTo cpos (starEach es X.env)).any (·.1)) = false; rw [hplain] <;> rfl) (Calls.evalArgs_plain ?_)
  exact thn hA fun us s2 ⟨vs, H2, I2, r2, q2⟩ => hm pins s2 σ H2 x vs v us Q I2 r1 r2 q2
/-- o.m(e) -/
def rM (C : Fr) (g : D → D → Option D) : V → List V → Hp → VK → Prop := fun x xs H Q => ∃ y, xs = [y] ∧ rG C (op2 g) x y H Q
def eM (T : String) (g : D → D → Option D) (f h : FE) : FE := fun ρ => (f ρ).bind fun p => (rdo p.2 p.1).bind fun x => if tyN x = T then (h p.2).bind fun q => (op2 g p.1 q.1 q.2).map fun z => (z, q.2) else none
theorem tyN_list {x : D} (h : tyN x = "list") : ∃ xs, x = .list xs := by
  cases x <;> simp [tyN] at h
  exact ⟨_, rfl⟩
theorem tyN_tuple {x : D} (h : tyN x = "tuple") : ∃ xs, x = .tuple xs := by
  cases x <;> simp [tyN] at h
  exact ⟨_, rfl⟩
theorem imp_M {T : String} {g : D → D → Option D} {f h : FE} {Q : VK} (hK : C.K = X.K) (hT : T = "list" ∨ T = "tuple") (hh : tE C (eM T g f h) σ H Q) : tBMZ X.K T (rM C g) (tE C f) (tCons (tE C h) tNil) σ H Q := by
  obtain ⟨ρ, τ, an, r, ρ', S, e, q⟩ := hh
  unfold eM at e
  cases e1 : f ρ with
  | none => simp [e1] at e
  | some p =>
    obtain ⟨a, ρ1⟩ := p
    cases e2 : rdo ρ1 a with
    | none => simp [e1, e2] at e
    | some x =>
      simp only [e1, e2, Option.bind_some] at e
      split at e
      · rename_i ht
        cases e3 : h ρ1 with
        | none => simp [e3] at e
        | some w =>
          obtain ⟨b, ρ2⟩ := w
          cases e4 : op2 g a b ρ2 with
          | none => simp [e3, e4] at e
          | some z =>
            simp [e3, e4] at e
            obtain ⟨rfl, rfl⟩ := e
            refine ⟨ρ, τ, an, a, ρ1, S, e1, fun v H1 S1 => ⟨?_, ρ1, _, an, b, ρ2, S1, e3, fun y H2 S2 => ?_⟩⟩
            · rcases hT with rfl | rfl
              · obtain ⟨xs, rfl⟩ := tyN_list ht
                obtain ⟨c, vs, rfl, h1, _⟩ := S1.items List.mem_cons_self e2
                exact Or.inl (Or.inl ⟨rfl, vs, Or.inl (Or.inl h1)⟩)
              · obtain ⟨xs, rfl⟩ := tyN_tuple ht
                obtain ⟨c, vs, rfl, h1, _⟩ := S1.itemsT List.mem_cons_self e2
                exact Or.inr ⟨rfl, c, vs, rfl, h1⟩
            · exact ⟨y, rfl, σ, ρ2, τ, an, a, b, z, S2, e4, q⟩
      · cases e
theorem de_M {T id : String} {name : Str} {g : D → D → Option D} {f h : FE} {o e : Expr} {apos cpos : Pos} (hK : C.K = X.K) (hT : T = "list" ∨ T = "tuple") (pa : PlainAttrs T) (slot : Slot T name id) (hty : typeOf (.builtin id) = pure (.type "method_descriptor")) (hm : MtR X id (rM C g)) (ho : PE X o (tE C f)) (he : PE X e (tE C h))
    (hbase : attributeBase o name X.env (eval o X.env) = eval o X.env := by rfl)
    (hfew : ((backTo cpos (starEach [e] X.env)).all (fun x => !x.1) && (backToKw cpos (keywordEach [] X.env)).all (fun x => x.1.isSome) && decide (([e] : List Expr).length + ([] : List Keyword).length + (if ([] : List Keyword).isEmpty then 0 else 1) < 30)) = true := by rfl)
    (hline : (apos.endLine == cpos.line) = true := by rfl) (hs : starEach [e] X.env = (false, eval e X.env) :: starEach [] X.env := by rfl) (hplain : (backTo cpos (starEach [] X.env)).any (·.1) = false := by rfl) :
    PE X (.Call (.Attribute o name apos) [e] [] cpos) (tE C (eM T g f h)) :=
  (pe_bmZ pa slot hty hm ho (pa_cons he pa_nil hs) hbase hfew hline hs hplain).dl fun _ _ _ h => imp_M hK hT h
/-- the first place of an equal one -/
def placeD (xs : List D) (y : D) : Option D := if PyData.depthAll xs ≤ 60 then (SeqAt.dataPlace xs y).map fun j => .int (j : Nat) else none
def ixL : D → D → Option D
  | .list xs, y => placeD xs y
  | _, _ => none
def ixT : D → D → Option D
  | .tuple xs, y => placeD xs y
  | _, _ => none
theorem placeD_inv {xs : List D} {y z : D} (h : placeD xs y = some z) : PyData.depthAll xs ≤ 60 ∧ ∃ j, SeqAt.dataPlace xs y = some j ∧ z = .int (j : Nat) := by
  unfold placeD at h
  split at h
  · rename_i hd
    cases e : SeqAt.dataPlace xs y with
    | none => simp [e] at h
    | some j => exact ⟨hd, j, rfl, by simpa [e] using h.symm⟩
  · cases h
theorem mt_ixL (hK : C.K = X.K) (hu : X.A.units + 64 < cLine) : MtR X "list.index" (rM C ixL) := by
  intro pins s σ H x xs v us Q I rx rxs h
  obtain ⟨y, rfl, σ', ρ, τ, an, a, b, z, S, g, q⟩ := h
  obtain ⟨dx, dy, dz, h1, h2, h3, rfl⟩ := op2_inv g
  have n1 := S.res (List.mem_cons_of_mem _ List.mem_cons_self) h1
  have n2 := S.res List.mem_cons_self h2
  rw [hK] at n1 n2
  unfold ixL at h3
  split at h3
  · rename_i ds
    obtain ⟨hd, j, hj, rfl⟩ := placeD_inv h3
    obtain ⟨l, vs, rfl, h4, h5⟩ := n1.lst_inv
    cases rx
    cases rxs with
    | cons ry rt =>
      rename_i uy ut
      cases rt
      obtain ⟨bs, r1⟩ := n2.reads I ry
      obtain ⟨as, r2⟩ := n1.reads I (show RelV (.ref l) (.ref l) from rfl)
      obtain ⟨its, rv, ⟨⟨cls, dd, data, sls⟩, n, ho, hc, hdn, hdt⟩, hlen⟩ := I.list (Or.inl (Or.inl h4))
      simp only at hc hdt
      subst hc hdt
      have hp : PyData.plainAll ds = true := by have := n1.plain; rw [PyData.plain] at this; exact this
      obtain ⟨as2, h6⟩ : ∃ as2, ReadsAll s.heap its ds as2 := by
        cases r2 with
        | list e1 e2 e3 e4 =>
          rw [ho] at e1
          cases e1
          simp only at e3
          cases e3
          exact ⟨_, e4⟩
      have rs : ReadsAll s.heap its.toArray.toList ds as2 := by simpa using h6
      obtain ⟨hj1, hj2, hj3⟩ := SeqAt.hit_at rs hp hj
      have hsl := sizeLine_eq
      have hvl := rv.length
      have hj0 : j < its.length := by simpa using hj1
      exact call_meets PySem.F.slot_list_index ⟨_, ho, rfl⟩ PySem.F.entry_list_index (PySem.F.args_list_index_2 _ _)
        (SeqAt.list_indexAt l its.toArray n dd sls uy (fun u => PyData.eqv (SeqAt.readOf s.heap u) dy) j hj1 (by omega) hj2 hj3) ⟨ho, SeqAt.items_plain rs r1 hp n2.plain (by show X.A.units + 1 + _ < _; omega), ⟨.int (j : Nat), H, I.tok _, ⟨_, rfl⟩, q _ H (S.pop2.push fun _ _ => .int _)⟩⟩
  · cases h3
theorem mt_ixT (hK : C.K = X.K) (hu : X.A.units + 64 < cLine) : MtR X "tuple.index" (rM C ixT) := by
  intro pins s σ H x xs v us Q I rx rxs h
  obtain ⟨y, rfl, σ', ρ, τ, an, a, b, z, S, g, q⟩ := h
  obtain ⟨dx, dy, dz, h1, h2, h3, rfl⟩ := op2_inv g
  have n1 := S.res (List.mem_cons_of_mem _ List.mem_cons_self) h1
  have n2 := S.res List.mem_cons_self h2
  rw [hK] at n1 n2
  unfold ixT at h3
  split at h3
  · rename_i ds
    obtain ⟨hd, j, hj, rfl⟩ := placeD_inv h3
    obtain ⟨l, vs, rfl, h4, h5⟩ := n1.tup_inv
    cases rx
    cases rxs with
    | cons ry rt =>
      rename_i uy ut
      cases rt
      obtain ⟨bs, r1⟩ := n2.reads I ry
      obtain ⟨as, r2⟩ := n1.reads I (show RelV (.ref l) (.ref l) from rfl)
      obtain ⟨its, rv, pl, hlen⟩ := I.tuple h4.sq
      obtain ⟨⟨cls, dd, data, sls⟩, ho, hc, n, hdt⟩ := pl
      simp only at hc hdt
      subst hc hdt
      have hp : PyData.plainAll ds = true := by have := n1.plain; rw [PyData.plain] at this; exact this
      obtain ⟨as2, h6⟩ : ∃ as2, ReadsAll s.heap its ds as2 := by
        cases r2 with
        | tuple e1 e2 e3 e4 =>
          rw [ho] at e1
          cases e1
          simp only at e3
          cases e3
          exact ⟨_, e4⟩
      have rs : ReadsAll s.heap its.toArray.toList ds as2 := by simpa using h6
      obtain ⟨hj1, hj2, hj3⟩ := SeqAt.hit_at rs hp hj
      exact call_meets PySem.F.slot_tuple_index ⟨_, ho, rfl⟩ PySem.F.entry_tuple_index (PySem.F.args_tuple_index_2 _ _)
        (TI.tuple_indexAt l its.toArray n dd sls uy (fun u => PyData.eqv (SeqAt.readOf s.heap u) dy) j hj1 hj2 hj3) ⟨ho, SeqAt.items_plain rs r1 hp n2.plain (by show X.A.units + 1 + _ < _; omega), ⟨.int (j : Nat), H, I.tok _, ⟨_, rfl⟩, q _ H (S.pop2.push fun _ _ => .int _)⟩⟩
  · cases h3
end
end DL
namespace DL
open PySem PySem.Spec PyProof.Rows L2
/-! ### defs that may raise -/
/-- a value, or an exception -/
abbrev RD := D ⊕ (Str × Option Str)
def clsOf (mg : Str → Option Value) : Str → Option Addr := fun x => match mg x with
  | some (.ref c) => some c
  | _ => none
theorem clsOf_at {mg : Str → Option Value} {x : Str} {c : Addr} (h : mg x = some (.ref c)) : clsOf mg x = some c := by
  unfold clsOf
  rw [h]
def spX (K : PySem.W.Frag) (cl : Str → Option Addr) (n : Nat) (m : List D → Option RD) : Sp := fun vs H Q E => vs.length = n ∧ ∃ ds r, DnL K H vs ds ∧ m ds = some r ∧ (∀ d, r = .inl d → ∀ v H', Le H H' → Dn K (msk (mutIn H) H') v d → Q v H') ∧
  ∀ x, r = .inr x → ∀ cls d H', Le H H' → ExcIs cl x cls d H' → E cls d H'
/-- where nothing is raised -/
def okM (m : List D → Option RD) : List D → Option D := fun ds => match m ds with
  | some (.inl d) => some d
  | _ => none
theorem okM_inv {m : List D → Option RD} {ds : List D} {d : D} (h : okM m ds = some d) : m ds = some (.inl d) := by
  unfold okM at h
  split at h
  · rename_i d' e
    cases h
    exact e
  · cases h
theorem spX_of {K : PySem.W.Frag} {cl : Str → Option Addr} {n : Nat} {m : List D → Option RD} {vs : List V} {H : Hp} {Q : VK} {E : XK} (h : spF K n (okM m) vs H Q E) : spX K cl n m vs H Q E := by
  obtain ⟨h1, ds, d, h2, h3, h4⟩ := h
  exact ⟨h1, ds, .inl d, h2, okM_inv h3, fun d' e => (by cases e; exact h4), fun x e => nomatch e⟩
theorem Def.ok {P : Program} {w : World} {K : PySem.W.Frag} {mg : Str → Option Value} {base : Heap} {k n : Nat} {g x : Str} {st : Stmt} {ps : List Str} {cl : Str → Option Addr} {m : List D → Option RD} (h : Def P w K mg base k g x st ps (spX K cl n m)) :
    Def P w K mg base k g x st ps (spF K n (okM m)) := by
  obtain ⟨⟨f, fd, h1, h2, h3⟩, bi⟩ := h
  exact ⟨⟨f, fd, h1.imp fun _ _ _ _ z => spX_of z, h2, h3⟩, bi⟩
def resD : Out → Option RD
  | .ret d _ => some (.inl d)
  | .next _ => some (.inl .none)
  | .exc x => some (.inr x)
  | _ => none
def runX (n : Nat) (F : FS) (ds : List D) : Option RD := (bindArgs ds).bind fun bs => (F (pad n bs)).bind resD
section
variable {P : Program} {w : World} {K : PySem.W.Frag} {mg : Str → Option Value} {base : Heap} {n qual : Str} {st : Stmt} {f : Addr} {fd : FuncData} {N ps : List Str} {k : Nat}
abbrev BodyOkX (P : Program) (w : World) (K : PySem.W.Frag) (mg : Str → Option Value) (base : Heap) (N : List Str) (qual : Str) (st : Stmt) (f : Addr) (k : Nat) (F : FS) : Prop :=
  ∀ (C : Fr) (cdv : Value) (A : Around) (outer : List Env) (s : Shared) (H : Hp) (E : XK), C.K = K → C.xe = E → C.cl = clsOf mg → Room k (A.deeper (PyProof.Rows.envOfC qual (defScope st) s.heap.objs.size f cdv)) →
    PSs (cxOf (L2.CX P w) P w K mg base N qual (defScope st) f cdv A outer s H E) (defBody st) (tS C F)
theorem fnX {F : FS} (Fn : Fun K n qual st f fd) (S : FnScope N ps (defScope st)) (hb : BodyOkX P w K mg base N qual st f k F) : FnOk P w K mg base (L2.CX P w) (k + 1) f fd ps (spX K (clsOf mg) ps.length (runX N.length F)) := by
  refine Fn.okX S (fun vs H Q E h => h.1) fun cdv A outer s H vs Q E hr h => ?_
  obtain ⟨hl, ds, r, hd, hm, q, qx⟩ := h
  let C : Fr := ⟨K, mutIn H, fun _ => False, H, none, [], E, clsOf mg⟩
  refine ⟨_, hb C cdv A outer s H E rfl rfl rfl hr, ?_⟩
  unfold runX at hm
  cases e0 : DL.bindArgs ds with
  | none => simp [e0] at hm
  | some bs =>
    cases e1 : F (pad N.length bs) with
    | none => simp [e0, e1] at hm
    | some o =>
      simp only [e0, e1, Option.bind_some] at hm
      obtain ⟨fp0, s0⟩ := sd_startB (N := N) hd e0
      refine ⟨_, [], [], o, AllD.nil, ⟨fp0, s0.tab, s0.len, s0.ext, s0.vol, s0.inj, s0.ani, s0.and, s0.own, s0.ano, s0.frn, s0.bnd, s0.emp, s0.tmp⟩, e1, ?_⟩
      have le : ∀ {σ : L2.St} {H' : Hp} {ρ' : Rho} {τ : List (V × R)} {an : List (Addr × HO)}, SD C σ H' ρ' τ an → Le H H' := fun S' => by
        obtain ⟨fp, s'⟩ := S'
        exact fun a o e => s'.ext a o (fun z => z) e
      cases o with
      | next ρ' =>
        cases hm
        exact fun σ' H' S' => q _ rfl .non H' (le S') .non
      | ret d2 ρ' =>
        cases hm
        refine fun v σ' H' S' => q _ rfl v H' (le S') ?_
        obtain ⟨fp, s'⟩ := S'
        exact Dn.mono (le_msk (fun a z => .inl (.inl z)) fun a o _ e => e) (s'.tmp _ List.mem_cons_self)
      | brk ρ' => cases hm
      | cont ρ' => cases hm
      | exc x =>
        cases hm
        exact fun σ' H' ρ' τ' an' cls d S' hx => qx _ rfl cls d H' (le S') hx
end
/-! ### calls that may raise -/
abbrev FR := Rho → Option (RD × Rho)
def tEX (C : Fr) (g : FR) : TE := fun σ H Q => ∃ ρ τ an r ρ', SD C σ H ρ τ an ∧ g ρ = some (r, ρ') ∧ (∀ d, r = .inl d → ∀ v H', SD C σ H' ρ' ((v, .d d) :: τ) an → Q v H') ∧
  ∀ x, r = .inr x → ∀ cls d H', SD C σ H' ρ' τ an → ExcIs C.cl x cls d H' → C.xe cls d H'
def cX (n : Nat) (m : List D → Option RD) (f : FA) : FR := fun ρ => (f ρ).bind fun p => if p.1.length = n then (rdos p.2 p.1).bind fun ds => (m ds).map fun r => (r, p.2) else none
section
variable {C : Fr} {X : Cx} {σ : L2.St} {H H' : Hp} {ρ ρ' : Rho} {τ : List (V × R)} {an : List (Addr × HO)} {v : V} {r : R} {x y z : D} {G : Ends}
theorem imp_cX {cl : Str → Option Addr} {n : Nat} {m : List D → Option RD} {f : FA} {Q : VK} (hcl : C.cl = cl) (h : tEX C (cX n m f) σ H Q) : tCall (spX C.K cl n m) [] C.xe (tA C f) σ H Q := by
  obtain ⟨ρ, τ, an, r, ρ', S, e, q, qx⟩ := h
  unfold cX at e
  cases e1 : f ρ with
  | none => simp [e1] at e
  | some p =>
    obtain ⟨rs, ρ1⟩ := p
    simp only [e1, Option.bind_some] at e
    split at e
    · rename_i hn
      cases e2 : rdos ρ1 rs with
      | none => simp [e2] at e
      | some ds =>
        cases e3 : m ds with
        | none => simp [e2, e3] at e
        | some d =>
          simp [e2, e3] at e
          obtain ⟨rfl, rfl⟩ := e
          refine ⟨ρ, τ, an, rs, _, S, e1, fun vs H1 hl S1 => ?_⟩
          refine ⟨by rw [List.append_nil, hl]; exact hn, ds, d, ?_, e3, fun d' e v H' k hd => q d' e v H' ?_, fun x e cls dd H' k hx => qx x e cls dd H' ?_ (hcl ▸ hx)⟩
          · rw [List.append_nil]
            exact rdos_ok S1 hl (fun p hp => List.mem_append_left _ hp) e2
          · exact (S1.result k hd).keepN fun p hp => List.mem_append_right _ hp
          · exact (S1.grow k).sub fun p hp => List.mem_append_right _ hp
    · cases e
section
variable {k n : Nat} {g x : Str} {st : Stmt} {ps : List Str} {m : List D → Option RD} {p pos : Pos} {e : Expr} {es : List Expr} {fa : FA}
theorem dx_callD {cl : Str → Option Addr} (hK : C.K = X.K) (hcl : C.cl = cl) (tk : Takes X (fun cls d _ H => C.xe cls d H)) (F : Def X.prog X.w X.K X.mg X.base k g x st ps (spX X.K cl n m)) (hr : Room k X.A) (hg : Gl X g)
    (ha : PA X (e :: es) (tA C fa)) (hdb : (g == ("__debug__" : Str)) = false := by decide) (he : starEach (e :: es) X.env = (false, eval e X.env) :: starEach es X.env := by rfl) (hpl : (backTo pos (starEach es X.env)).any (·.1) = false := by rfl) :
    PE X (.Call (.Name g p) (e :: es) [] pos) (tEX C (cX n m fa)) := by
  obtain ⟨f, fd, h1, h2, h3⟩ := F.ex
  exact (pe_call (dvs := []) h1 hr hg h2 h3.kp (h3.binds F.bi) .nil (passes_call tk fun _ _ _ _ h => h) ha hdb he hpl).dl fun _ _ _ h => by
    have z := imp_cX hcl h
    rw [hK] at z
    exact z
end
/-- f(..) as a statement -/
def sExX (g : FR) : FS := fun ρ => (g ρ).map fun p => match p.1 with
  | .inl _ => .next p.2
  | .inr x => .exc x
theorem ds_exprX {e : Expr} {g : FR} {pos : Pos} (he : PE X e (tEX C g)) (hs : swapsWith e none pos.line X.env = pure false := by rfl) : PS X (.Expr e pos) (tS C (sExX g)) := (ps_expr he hs).dl fun G σ H h => by
  obtain ⟨ρ, τ, an, o, ad, S, e, k⟩ := h
  unfold sExX at e
  cases e1 : g ρ with
  | none => simp [e1] at e
  | some p =>
    obtain ⟨r, ρ1⟩ := p
    rw [e1] at e
    refine ⟨ρ, τ, an, r, ρ1, S, e1, fun d hd v H' S' => ?_, fun x hx cls d H' S' hX => ?_⟩
    · subst hd
      cases e
      exact k σ H' S'.pop
    · subst hx
      cases e
      exact k σ H' ρ1 τ an cls d S' hX
/-- n = f(..) -/
def sSetX (i : Nat) (g : FR) : FS := fun ρ => (g ρ).bind fun p => match p.1 with
  | .inl d => if i < p.2.length then some (.next (p.2.set i (some (.d d)))) else none
  | .inr x => some (.exc x)
theorem ds_setX {i : Nat} {n : Str} {e : Expr} {g : FR} {pos pos' : Pos} (hN : X.N.Nodup) (hi : X.N[i]? = some n) (hx : Loc X.env.scope n) (he : PE X e (tEX C g)) (hs : swapsWith e (some (.Name n pos')) pos.line X.env = pure false := by rfl) (hf : X.fn n = true ∨ X.env.scope.names.lookup n = some .local := by first | exact .inl rfl | exact .inr rfl | assumption) :
    PS X (.Assign [.Name n pos'] e pos) (tS C (sSetX i g)) := (ps_set hN hi hx he hs hf).dl fun G σ H h => by
  obtain ⟨ρ, τ, an, o, ad, S, e, k⟩ := h
  unfold sSetX at e
  cases e1 : g ρ with
  | none => simp [e1] at e
  | some p =>
    obtain ⟨r, ρ1⟩ := p
    simp only [e1, Option.bind_some] at e
    refine ⟨ρ, τ, an, r, ρ1, S, e1, fun d hd v H' S' => ?_, fun x hx cls d H' S' hX => ?_⟩
    · subst hd
      simp only at e
      split at e
      · rename_i hl
        cases e
        exact k _ H' (S'.store ad hl)
      · cases e
    · subst hx
      cases e
      exact k σ H' ρ1 τ an cls d S' hX
/-- return f(..) -/
def sRetX (g : FR) : FS := fun ρ => (g ρ).map fun p => match p.1 with
  | .inl d => .ret d p.2
  | .inr x => .exc x
theorem ds_retX {e : Expr} {g : FR} {pos : Pos} (he : PE X e (tEX C g)) : PS X (.Return (some e) pos) (tS C (sRetX g)) := (ps_ret he).dl fun G σ H h => by
  obtain ⟨ρ, τ, an, o, ad, S, e, k⟩ := h
  unfold sRetX at e
  cases e1 : g ρ with
  | none => simp [e1] at e
  | some p =>
    obtain ⟨r, ρ1⟩ := p
    rw [e1] at e
    refine ⟨ρ, τ, an, r, ρ1, S, e1, fun d hd v H' S' => ?_, fun x hx cls d H' S' hX => ?_⟩
    · subst hd
      cases e
      exact k v σ H' S'
    · subst hx
      cases e
      exact k σ H' ρ1 τ an cls d S' hX
/-! ### raise -/
/-- a class of the program over ValueError without an __init__ of its own -/
structure ClsO (K : PySem.W.Frag) (mg : Str → Option Value) (x : Str) (c : Addr) : Prop where
  m : mg x = some (.ref c)
  k : PySem.W.keepIn K (.ref c) = true
  ex : ∃ bm, PySem.HandSPX.refsVE bm = true ∧ PySem.W.excIn K c [.type "ValueError", .type "Exception", .type "BaseException", .type "object"] "ValueError.__new__" = true
  sb : PySem.W.subIn K (.ref c) (.type "BaseException") = some true
  ty : PySem.W.typeIn K (.ref c) = some (.type "type")
def sRaise (x : Str) : FS := fun _ => some (.exc (x, none))
theorem ds_raise {x m : Str} {c : Addr} {j : Nat} {p p2 pos pos2 : Pos} (hc : X.calm = true) (tk : Takes X (fun cls d _ H => C.xe cls d H)) (hcl : C.cl = clsOf X.mg) (O : ClsO X.K X.mg x c) (hg : Gl X x) (hdb : (x == ("__debug__" : Str)) = false := by decide) :
    PS X (.Raise (some (.Call (.Name x p) [.Constant (.str m) j p2] [] pos)) none pos2) (tS C (sRaise x)) := by
  obtain ⟨bm, h1, h2⟩ := O.ex
  refine (ps_raise hc tk (pmk_own (x := x) (m := m) PySem.F.excBase_ValueError h2 O.m O.k (raises_own O.sb O.ty) hg hdb)).dl fun G σ H h => ?_
  obtain ⟨ρ, τ, an, o, ad, S, e, k⟩ := h
  cases e
  exact k σ H ρ τ an _ _ S ⟨⟨c, rfl, by rw [hcl]; exact clsOf_at O.m⟩, fun _ => rfl, fun p z => nomatch z⟩
end
end DL
namespace DL
open PySem PySem.Spec PyProof.Rows L2
/-! ### an exception that tells a person: its class has an __init__ of its own -/
def clsB (s : Stmt) : List Stmt := match s with
  | .ClassDef _ _ _ b _ _ _ _ _ _ _ => b
  | _ => []
def spInit (K : PySem.W.Frag) : Sp := fun vs H Q _ => vs.length = 2 ∧ ∃ (a c : Addr) (y : V), vs = [.ref a, y] ∧ OexC K c ∧ PySem.W.findIn K (.ref c) "person" = some none ∧ H a = some (exo a c none) ∧
  ∀ dx, H dx = none → dx ≠ a → Q .non (upd (upd H dx (exd dx [("person", y)])) a (exo a c (some dx)))
section
variable {P : Program} {w : World} {K : PySem.W.Frag} {mg : Str → Option Value} {base : Heap} {n qual : Str} {st : Stmt} {f : Addr} {fd : FuncData} {k : Nat}
theorem fnInit {p1 p2 p3 p4 : Pos} (Fn : Fun K n qual st f fd) (S : FnScope ["self", "person"] ["self", "person"] (defScope st)) (hst : defBody st = [.Assign [.Attribute (.Name "self" p1) "person" p2] (.Name "person" p3) p4])
    (v1 : Vis (defScope st) "self") (v2 : Vis (defScope st) "person") : FnOk P w K mg base (L2.CX P w) (k + 1) f fd ["self", "person"] (spInit K) := by
  refine Fn.okX S (fun vs H Q E h => h.1) fun cdv A outer s H vs Q E hr h => ?_
  rw [hst]
  obtain ⟨hl, a, c, y, rfl, T, hf, ha, q⟩ := h
  refine ⟨_, pss_one (ps_ost (to := tVar 0) (te := tVar 1) (pe_var (i := 0) rfl v1) (pe_var (i := 1) rfl v2)), ?_⟩
  exact ⟨y, rfl, .ref a, rfl, a, c, rfl, T, hf, .inl ⟨ha, fun dx h1 h2 => q dx h1 h2⟩⟩
end
/-- a class of the program over ValueError with such an __init__ -/
structure ClsP (P : Program) (w : World) (K : PySem.W.Frag) (mg : Str → Option Value) (base : Heap) (x : Str) (c : Addr) : Prop where
  m : mg x = some (.ref c)
  T : OexC K c
  np : PySem.W.findIn K (.ref c) "person" = some none
  fn : ∃ fI fd, PySem.W.findIn K (.ref c) "__init__" = some (some (.ref fI)) ∧ PySem.W.typeIn K (.ref fI) = some (.type "function") ∧ FnOk P w K mg base (L2.CX P w) 1 fI fd ["self", "person"] (spInit K) ∧ Binds K fd ["self", "person"] []
def sRaiseP (x : Str) (f : FE) : FS := fun ρ => match f ρ with
  | some (.d (.str s), _) => some (.exc (x, some s))
  | _ => none
section
variable {C : Fr} {X : Cx} {σ : L2.St} {H : Hp}
theorem ds_raiseP {x : Str} {c : Addr} {e : Expr} {f : FE} {p pos pos2 : Pos} (hc : X.calm = true) (tk : Takes X (fun cls d _ H => C.xe cls d H)) (hcl : C.cl = clsOf X.mg) (O : ClsP X.prog X.w X.K X.mg X.base x c) (hr : Room 2 X.A) (hg : Gl X x) (he : PE X e (tE C f))
    (hdb : (x == ("__debug__" : Str)) = false := by decide) (hs : starEach [e] X.env = (false, eval e X.env) :: starEach [] X.env := by rfl) (hpl : (backTo pos (starEach [] X.env)).any (·.1) = false := by rfl) :
    PS X (.Raise (some (.Call (.Name x p) [e] [] pos)) none pos2) (tS C (sRaiseP x f)) := by
  obtain ⟨fI, fd, h1, h2, h3, h4⟩ := O.fn
  refine (ps_raise hc tk (pmk_oex (dvs := []) (ds := []) O.T h1 h2 h3 hr h4 .nil passL hg O.m (da_cons he da_nil hs) hdb hs hpl)).dl fun G σ H h => ?_
  obtain ⟨ρ, τ, an, o, ad, S, e, k⟩ := h
  unfold sRaiseP at e
  split at e
  · rename_i s ρ1 e1
    cases e
    refine ⟨ρ, τ, an, [.d (.str s)], ρ1, S, by simp [aCons, aNil, e1], fun vs H1 hl S1 => ?_⟩
    obtain ⟨v, rfl⟩ := one_of hl
    have ev : v = .str s := (S1.at (List.mem_append_left _ List.mem_cons_self)).str_inv
    subst ev
    refine ⟨by simp, fun a ha => ⟨rfl, a, c, .str s, rfl, O.T, O.np, upd_same, fun dx hd ne => ⟨rfl, dx, [("person", .str s)], upd_same, ?_, ?_, ?_⟩⟩⟩
    · rw [upd_ne ne, upd_same]
    · rw [upd_ne ne] at hd
      exact hd
    · rw [upd_ne ne] at hd
      have eH : upd (del (upd (upd (upd H1 a (exo a c none)) dx (exd dx [("person", .str s)])) a (exo a c (some dx))) a) dx (.xd [("person", .str s)]) = upd H1 dx (.xd [("person", .str s)]) := by
        funext b
        by_cases hb : b = dx
        · rw [hb, upd_same, upd_same]
        · rw [upd_ne hb, upd_ne hb]
          by_cases hb2 : b = a
          · rw [hb2, del_same]
            exact ha.symm
          · rw [del_ne hb2, upd_ne hb2, upd_ne hb, upd_ne hb2]
      rw [eH]
      exact k σ _ ρ1 _ an _ _ (S1.grow (Le.new hd)) ⟨⟨c, rfl, by rw [hcl]; exact clsOf_at O.m⟩, (fun z => by cases z), fun p z => (by cases z; exact ⟨dx, rfl, upd_same⟩)⟩
  · cases e
end
end DL
namespace DL
open PySem PySem.Spec PyProof.Rows L2
/-! ### an exception that is kept behind its except clause -/
def exK (a : Addr) (cls : Value) (d : Option Addr) : HO := .ext fun h => ∃ (oe : Obj) (vs : Array Value), h.get? a = some oe ∧ Zc cls d oe ∧ oe.data = .fields vs
section
variable {X : Cx} {pins : List (Addr × Obj)} {σ : L2.St} {H : Hp} {s : Shared}
theorem exK_ok {P : Program} {w : World} {h : Heap} {a : Addr} {cls : Value} {d : Option Addr} {oe : Obj} {vs : Array Value} (e : h.get? a = some oe) (z : Zc cls d oe) (hd : oe.data = .fields vs) : ObjOk P w H h a (exK a cls d) :=
  ⟨⟨oe, vs, e, z, hd⟩, ⟨oe, e⟩, fun _ _ ⟨o1, v1, h1, h2, h3⟩ st => ⟨o1, v1, st _ h1, h2, h3⟩⟩
theorem inv_track {a : Addr} {oe : Obj} {vs : Array Value} {cls : Value} {d : Option Addr} (I : L2.Inv X pins σ H s) (ha : s.heap.get? a = some oe) (z : Zc cls d oe) (hd : oe.data = .fields vs) (na : H a = none) (nL : a ≠ X.env.locals)
    (np : ∀ p ∈ X.pn ++ pins, p.1 ≠ a) (n0 : X.s_0.heap.get? a = none) : L2.Inv X pins σ (upd H a (exK a cls d)) s := by
  have ne : ∀ {b : Addr} {o : HO}, H b = some o → b ≠ a := fun e => ne_of_none e na
  refine ⟨I.ok, I.os, I.bare, ⟨I.base.keep, I.base.slot, fun b o e n x => ?_, I.base.there, fun b xs e => ?_, fun b o u e => ?_, fun b ps e => ?_⟩, I.loc, I.cell, ?_, fun x c e => ?_, fun p hp => ?_, I.hok.laidN (fun _ _ e => e) na (exK_ok ha z hd), I.len⟩
  · rw [upd_ne (fun q => by rw [q, n0] at e; cases e)]
    exact I.base.free b o e n x
  · rw [upd_ne (ne (I.base.tups b xs e))]
    exact I.base.tups b xs e
  · rw [upd_ne (ne (I.base.frzs b o u e))]
    exact I.base.frzs b o u e
  · obtain ⟨more, q⟩ := I.base.tbls b ps e
    exact ⟨more, by rw [upd_ne (ne q)]; exact q⟩
  · rw [upd_ne (Ne.symm nL)]
    exact I.free
  · rw [upd_ne (fun q => ?_)]
    · exact I.freeC x c e
    · obtain ⟨v, o, ho, hc⟩ := I.cell x c e
      rw [q, ha] at ho
      cases ho
      rw [hd] at hc
      cases hc
  · obtain ⟨h1, h2, h3⟩ := I.pin p hp
    exact ⟨h1, by rw [upd_ne (np p hp)]; exact h2, h3⟩
end
/-- what is wished of what the body raises: the clause's suite runs, and behind it the exception is known -/
def wKp (K : PySem.W.Frag) (c : Value) (i : Nat) (ts : Addr → Value → Option Addr → TS) (G : Ends) : WX := fun cls d σ H => PySem.W.exmOne K cls c = some true ∧
  ∀ a, H a = none → ts a cls d { nx := fun σ' H' => G.nx (σ'.set i none) (upd H' a (exK a cls d)), rt := fun _ _ => False } (σ.set i (some (.ref a))) H
section
variable {X : Cx} {x n : Str} {c : Value} {i : Nat} {body suite : List Stmt} {b0 : Stmt} {np pos pos' : Pos} {tb : WX → TS} {ts : Addr → Value → Option Addr → TS}
theorem ps_try_keep (hs : X.stack = X.env :: X.outer) (hf : X.env.frame = some X.env.locals) (hex : X.ex = []) (hN : X.N.Nodup) (hi : X.N[i]? = some n) (hln : X.env.kindOf n = some .local) (hc : Names X x c)
    (hb : ∀ (W : WX) (pn : List (Addr × Obj)) (xe : Value → Shared → Prop), Takes (X.tr pn xe) W → PassesOwn (model X.prog X.w) X.A X.env xe → PSs (X.tr pn xe) body (tb W))
    (hsu : ∀ (a : Addr) (oe : Obj) (cls : Value) (d : Option Addr) (pn : List (Addr × Obj)), Zc cls d oe → (∃ vs, oe.data = .fields vs) → PSs (X.suite a ((a, oe) :: pn)) (b0 :: suite) (ts a cls d)) :
    PS X (.Try body [.ExceptHandler (some (.Name x np)) (some n) (b0 :: suite) pos'] [] [] pos) (fun G σ H => tb (wKp X.K c i ts G) G σ H) := by
  refine ⟨fun pins s σ H G I h => ?_⟩
  have ok := I.ok
  have hfr : X.A.frames = some (X.env :: X.outer) := ok.frames.trans (by rw [hs])
  have body_ := hb (wKp X.K c i ts G) (X.pn ++ pins) (fun e s1 => wpAny (model X.prog X.w) X.A (noteFrame e X.env)
      (fun _ s2 => wpAny (model X.prog X.w) X.A (setFlight e none) (fun _ s3 =>
        wpAny (model X.prog X.w) X.A (handleBy e X.env [.ExceptHandler (some (.Name x np)) (some n) (b0 :: suite) pos'])
          (SP X pins G) X.xe s3) X.xe s2) X.xe s1) ?takes PassesOwn.looking
  case takes =>
    rintro u s' ⟨a, B, sI, pins', σ', H', cls, d, rfl, J0, nb, up, sky, na, os, ag, hb1, hyes⟩
    have J := J0.ofTry ok
    rw [show (X.tr (X.pn ++ pins) _).stack = X.env :: X.outer from hs] at sky
    refine Sky.land Zc.steady hfr hf sky fun h3 fl3 up3 => ?_
    have J3 : L2.Inv X pins σ' H' { s' with heap := h3 } :=
      J.landed nb fl3.1 (up.trans up3) os ag
    obtain ⟨oe3, vs3, he3, hz3, hd3⟩ := fl3.there
    have hno : a ∉ frs (X.env :: X.outer) := fun hm => by
      obtain ⟨_, o2, e2, hnf⟩ := fl3.2.2.1.mem hm
      rw [he3] at e2
      cases e2
      exact hnf _ hd3
    have nL : a ≠ X.env.locals := fun z => hno (List.mem_filterMap.mpr ⟨X.env, List.mem_cons_self, hf.trans (by rw [z])⟩)
    have nF : a ∉ X.fs := fun hm => by
      obtain ⟨e, he, q⟩ := List.mem_filterMap.mp hm
      exact hno (List.mem_filterMap.mpr ⟨e, List.mem_cons_of_mem _ he, q⟩)
    -- it is new
    have nI : sI.heap.get? a = none := by
      cases q : sI.heap.get? a with
      | none => rfl
      | some o =>
        have z := nb a o q (by rw [show (X.tr (X.pn ++ pins) _).stack = X.env :: X.outer from hs]; exact hno)
        rw [fl3.2.1] at z
        cases z
    have n0 : X.s_0.heap.get? a = none := by
      cases q : X.s_0.heap.get? a with
      | none => rfl
      | some o =>
        obtain ⟨o', z⟩ := J.base.there a o q (by rw [hex]; simp)
        rw [nI] at z
        cases z
    have npin : ∀ p ∈ X.pn ++ pins, p.1 ≠ a := fun p hp z => by
      have q := (J.pin p hp).1
      rw [z, nI] at q
      cases q
    have S3 := J3.suite he3 hd3 na nL nF
    have LT : PySem.W.Looks (model X.prog X.w) h3 (typeOf (.ref a)) cls := fun A Q E s k q => wpAny_typeOf_ref (k _ _ he3) (hz3.1.symm ▸ q)
    have LM := PySem.W.exm_one (M := model X.prog X.w) J3.kIn LT hb1
    refine wpAny_handleBy_cons (codeAny_handlers_test ?_) (fun q => nomatch q)
    have named : ∀ {Q : Value → Shared → Prop} {E : Value → Shared → Prop}, Q c { s' with heap := h3 } →
        wpAny (model X.prog X.w) (X.A.mark (some (.ref a))) (eval (.Name x np) X.env) Q E { s' with heap := h3 } := fun {Q E} q => by
      obtain ⟨g1, g2, g3 | ⟨g3, g4, g5⟩⟩ := hc
      · exact ld_glob (X := X.suite a ((a, oe3) :: (X.pn ++ pins))) S3 g1 g3 q g2
      · exact ld_blt (X := X.suite a ((a, oe3) :: (X.pn ++ pins))) S3 g1 g3 g4 q g5 g2
    refine named (LM.here (codeAny_handlers_suite_as (HandSPX.lands_againZ fl3 fun h4 fl4 up4 => ?_)))
    have J4 : L2.Inv X pins σ' H' { s' with heap := h4 } :=
      J.landed nb fl4.1 ((up.trans up3).trans up4) os ag
    obtain ⟨oe4, vs4, he4, hz4, hd4⟩ := fl4.there
    have S4 := J4.suite he4 hd4 na nL nF
    refine store_ok (X := X.suite a ((a, oe4) :: (X.pn ++ pins))) (v := .ref a) S4 hN hi (.inl hln) rfl (fun s5 S5 => ?_) (.inr hln)
    refine wpAny_mono ((hsu a oe4 cls d (X.pn ++ pins) hz4 ⟨_, hd4⟩).run [] s5 _ H' _ S5 (hyes a na)) (fun f s6 hsp => ?_) fun _ _ z => False.elim z
    cases f with
    | next =>
      obtain ⟨σ6, H6, S6, q6⟩ := hsp
      obtain ⟨p1, p2, _⟩ := S6.pin (a, oe4) (List.mem_append_left _ List.mem_cons_self)
      have T6 := inv_track (S6.unsuite ok) p1 hz4 hd4 p2 nL npin n0
      exact gone_ok T6 hN hi hln fun s7 J7 => ⟨_, _, J7, q6⟩
    | brk =>
      obtain ⟨_, _, _, z⟩ := hsp
      exact False.elim z
    | cont =>
      obtain ⟨_, _, _, z⟩ := hsp
      exact False.elim z
    | ret u =>
      obtain ⟨_, _, _, _, _, z⟩ := hsp
      exact False.elim z
  refine wpAny_Try_except (wpAny_mono (body_.run [] s σ H G (I.toTry _) h) (fun f s1 hsp => ?_) fun _ _ he => he)
  cases f with
  | next =>
    obtain ⟨σ', H', J', q⟩ := hsp
    exact wpAny_execs_nil ⟨σ', H', J'.ofTry ok, q⟩
  | brk =>
    obtain ⟨σ', H', J', q⟩ := hsp
    exact ⟨σ', H', J'.ofTry ok, q⟩
  | cont =>
    obtain ⟨σ', H', J', q⟩ := hsp
    exact ⟨σ', H', J'.ofTry ok, q⟩
  | ret u =>
    obtain ⟨v, σ', H', J', r, q⟩ := hsp
    exact ⟨v, σ', H', J'.ofTry ok, r, q⟩
end
end DL
namespace DL
open PySem PySem.Spec PySem.Calls PySem.W PyProof.Rows
section
variable {prog : Program} {w : World} {A : Around} {E : Value → Shared → Prop} {s : Shared} {K : Frag} {x c : Addr} {ox : Obj} {od : Option Obj}
/-- what the class of an exception must say -/
theorem exc_class {Q : Option Value → Shared → Prop} (T : L2.ExcC K c) (X : K.In s.heap) (I : InstAt s.heap x ox c od) (h : Q (some (.ref c)) { s with toks := s.toks + 1 }) :
    wpAny (model prog w) A (getAttr? (.ref x) "__class__") Q E s := by
  have some_ : (clsIn K c).isSome = true := by
    obtain ⟨cd, q, _⟩ := any_some T.hd
    rw [q]
    rfl
  have hf : findObj K c od "__class__" = some (.bind (.builtin "getset_descriptor.__get__") (.builtin "object.__class__")) := by
    cases od with
    | none => exact findObj_dataN some_ T.ha T.hn T.ht
    | some o => exact findObj_data some_ T.ha T.hn T.ht
  obtain ⟨m, g, dd, t, os⟩ := s
  have l0 := I.type (M := model prog w)
  have l1 := looks_findIn (M := model prog w) X T.hg
  have l2 := looks_findIn (M := model prog w) X T.hk
  have l3 := looks_find (M := model prog w) X I hf
  have lb : Looks (model prog w) m (isInstance (.ref x) (.type "BaseException")) true := l0.andThen (looks_subIn X T.hs)
  have z0 : (false && onTheHeap (Value.builtin "BaseException.__getattribute__")) = false := rfl
  have z1 : (onTheHeap (Value.ref c) && Value.builtin "BaseException.__getattribute__" == Value.builtin "object.__getattribute__") = false := by
    rw [show (Value.builtin "BaseException.__getattribute__" == Value.builtin "object.__getattribute__") = false by decide +kernel]
    rfl
  unfold getAttr? getAttrBy? getAttrBy
  refine wpAny_bind (wpAny_mkText (wpAny_bind (wpAny_attempt (wpAny_holding (wpAny_bind (l0.at (wpAny_bind (l1.at ?_))))))))
  show wpAny _ _ (if (onTheHeap (Value.ref c) && Value.builtin "BaseException.__getattribute__" == Value.builtin "object.__getattribute__") = true then _ else _) _ _ _
  rw [z1, if_neg Bool.false_ne_true]
  unfold getAttrByItsOwn hookBefore
  refine wpAny_bind ?_
  rw [if_pos (show onTheHeap (Value.ref c) = true from rfl)]
  refine l2.at (wpAny_bind (wpAny_attempt (wpAny_holding ?_)))
  unfold callGetattribute
  rw [z0, if_neg Bool.false_ne_true]
  unfold boundAndCalled
  rw [PySem.F.excAttr_ValueError.ga.bind (.ref x)]
  refine wpAny_bind (wpAny_pure ?_)
  refine wpAny_call (codeAny_call_builtin (by exact PySem.F.excAttr_ValueError.ga.plain) PySem.F.entry_bexc_ga ?_)
  refine @check_slot (model prog w) _ _ ⟨m, g, dd, t + 1, os⟩ "BaseException.__getattribute__" "BaseException" "__getattribute__" (.ref x) [.str "__class__" t] [] _ (by decide +kernel) (by decide +kernel) lb (PySem.F.args_bexc_ga _ _) ?_
  unfold Builtin.«object.__getattribute__»
  refine wpAny_bind (wpAny_of_eq (a := ((Value.ref x : Value), [Value.str "__class__" t])) (by first | rfl | (simp only [slotArgs]; rfl)) ?_)
  refine wpAny_bind (wpAny_pure (wpAny_bind (l0.at (wpAny_bind (l3.at ?_)))))
  refine wpAny_bind (wpAny_holding (wpAny_call (class_get (s := ⟨m, g, dd, t + 1, os⟩) (ox := ox) (od := od) X I T.hm (wpAny_pure ?_))))
  show wpAny _ _ (handedOut (.ref c)) _ _ _
  rw [handedOut_of (v := .ref c) rfl]
  first
    | exact wpAny_pure (wpAny_pure h)
    | exact wpAny_pure h
    | exact wpAny_pure (wpAny_bind (wpAny_pure (wpAny_pure h)))
theorem exc_kit (T : L2.ExcC K c) : KitX K (.ref x) (.ref c) (fun h => ∃ ox od, InstAt h x ox c od) where
  ty := fun _ _ _ ⟨_, _, I⟩ => I.type
  it := fun _ _ X _ => by
    obtain ⟨cd, q, _⟩ := any_some T.hd
    unfold clsIn at q
    split at q
    · rename_i a1 a2 a3 a4 ho
      intro A1 Q1 E1 s1 k q
      unfold isType loadHead
      exact wpAny_bind (wpAny_loadPart (k _ _ (X _ _ ho)) (wpAny_pure q))
    · cases q
  ne := fun h tp dd its n sl X htp => by
    obtain ⟨cd, q, _⟩ := any_some T.hd
    refine Bool.eq_false_iff.mpr fun z => ?_
    have e : c = tp := Value.ref.inj (beq_iff_eq.mp z)
    subst e
    unfold clsIn at q
    split at q
    · rename_i a1 a2 a3 a4 ho
      have y := (X _ _ ho).symm.trans htp
      cases y
    · cases q
  ca := fun X ⟨_, _, I⟩ k => exc_class T X I k
end
end DL
namespace DL
open PySem PySem.Spec PyProof.Rows L2
/-- the exception at a of the class c is known, its dict too -/
def ExcH (H : Hp) (a c : Addr) (fs : List (Str × V)) : Prop := (H a = some (exK a (.ref c) none) ∧ fs = []) ∨ ∃ dx, H a = some (exK a (.ref c) (some dx)) ∧ H dx = some (.xd fs)
section
variable {X : Cx} {pins : List (Addr × Obj)} {σ : L2.St} {H : Hp} {s : Shared}
theorem ExcH.inst {a c : Addr} {fs : List (Str × V)} (h : ExcH H a c fs) (I : L2.Inv X pins σ H s) : ∃ ox od, PySem.W.InstAt s.heap a ox c od := by
  rcases h with ⟨h, _⟩ | ⟨dx, h, hx⟩
  · obtain ⟨⟨oe, vs, e, ⟨z1, z2⟩, hd⟩, _⟩ := I.hok a _ h
    exact ⟨oe, none, e, z1, by unfold PySem.W.notCls; rw [hd] <;> rfl, by rw [z2]; trivial⟩
  · obtain ⟨⟨oe, vs, e, ⟨z1, z2⟩, hd⟩, _⟩ := I.hok a _ h
    obtain ⟨mA, hns, _⟩ := I.hok dx _ hx
    obtain ⟨o, ho, _⟩ := lookIn_ns hns
    exact ⟨oe, some o, e, z1, by unfold PySem.W.notCls; rw [hd] <;> rfl, by rw [z2]; exact ho⟩
def rIsT (K : PySem.W.Frag) : List V → Hp → VK → Prop := fun xs H Q => ∃ (a c : Addr) (fs : List (Str × V)) (y : V) (cv : Value) (b : Bool), xs = [.ref a, y] ∧ ExcH H a c fs ∧ ExcC K c ∧ (∀ u, RelV y u → u = cv) ∧ PySem.W.kitOne K (.ref c) cv = some b ∧ Q (.bl b) H
theorem call_isT : CallR X (.builtin "isinstance") (rIsT X.K) := by
  intro pins s σ H xs us Q I r h
  obtain ⟨a, c, fs, y, cv, b, rfl, hx, T, hcv, e, q⟩ := h
  cases r with
  | cons rx rr =>
    cases rr with
    | cons rt rr =>
      cases rr
      cases rx
      have ec := hcv _ rt
      subst ec
      exact PySem.W.kia_one (exc_kit T) I.kIn (hx.inst I) e (fun z => nomatch z) fun tk => ⟨.bl b, H, I.kept (t' := tk) fun _ _ z => z, rfl, q⟩
/-- e.f, e a known exception -/
def tXfT (K : PySem.W.Frag) (f : Str) (te : TE) : TE := fun σ H Q => te σ H fun x H1 => ∃ (a c : Addr) (fs : List (Str × V)) (v : V), x = .ref a ∧ ExcH H1 a c fs ∧ XfC K c ∧ PySem.W.findIn K (.ref c) f = some none ∧ fs.lookup f = some v ∧ Q v H1
theorem pe_xfT {e : Expr} {te : TE} {pos : Pos} {n : Str} (he : PE X e te) (hb : attributeBase e n X.env (eval e X.env) = eval e X.env := by rfl) : PE X (.Attribute e n pos) (tXfT X.K n te) := by
  refine ⟨fun pins s σ H Q I h => attr_of hb (thn (he.run pins s σ H _ I h) fun u s1 hh => ?_)⟩
  obtain ⟨x, H1, I1, rx, a, c, fs, v, rfl, hx, T, hno, l, q⟩ := hh
  obtain rfl : u = Value.ref a := rx
  rcases hx with ⟨_, rfl⟩ | ⟨dx, h1, h2⟩
  · simp at l
  · obtain ⟨⟨oe, vs, e1, ⟨z1, z2⟩, hd⟩, _⟩ := I1.hok a _ h1
    obtain ⟨mA, hns, hr⟩ := I1.hok dx _ h2
    obtain ⟨od, ho, hl⟩ := lookIn_ns hns
    obtain ⟨u, hu, ru⟩ := RelO.some_of (v := v) (o := mA n) (l ▸ hr n)
    have J : PySem.W.InstAt s1.heap a oe c (some od) := ⟨e1, z1, by unfold PySem.W.notCls; rw [hd] <;> rfl, by rw [z2]; exact ho⟩
    exact HandSPX.exc_get I1.kIn J T.ga T.gg T.exC (PySem.W.findObj_own T.hdC hno rfl (by rw [hl, hu])) (handed_of ru) ⟨v, H1, I1.tok _, ru, q⟩
end
end DL
namespace DL
open PySem PySem.Spec PyProof.Rows L2
section
variable {X : Cx}
/-- d.update(o), both dicts of ints and texts -/
def rUpdK : V → List V → Hp → VK → Prop := fun x xs H Q => ∃ (d o : Addr) (kvs more : List (Key × V)), x = .ref d ∧ xs = [.ref o] ∧ d ≠ o ∧ H d = some (.dK kvs) ∧ H o = some (.dK more) ∧ kvs.length + more.length ≤ sizeLine ∧ Q .non (upd H d (.dK (mergeK kvs more)))
theorem mt_updK : MtR X "dict.update" rUpdK := by
  intro pins s σ H x xs v us Q I rx rxs h
  obtain ⟨d, o, kvs, more, rfl, rfl, ne, h1, h2, hz, q⟩ := h
  cases rx
  cases rxs with
  | cons ry rt =>
    cases rt
    cases ry
    obtain ⟨z1, s1, vs, r1, d1⟩ := dk_of I.hok h1
    obtain ⟨z2, s2, ws, r2, d2⟩ := dk_of I.hok h2
    have l1 := Paired.length r1
    have l2 := Paired.length r2
    refine call_meetsIn PySem.F.slot_dict_update d1.typeIs PySem.F.entry_dict_update (PySem.F.args_dict_update_2 _ _) (meets_dict_update (mixKind X.prog X.w) d o ne s2) ⟨vs, ws, d1, d2, by omega, fun h' e1 e2 sb => ⟨.non, _, ?_, rfl, q⟩⟩
    have hm : (mergeK kvs more).length ≤ sizeLine := Nat.le_trans (length_mergeK more kvs) hz
    have he : ∃ u, h'.get? d = some u := let ⟨u, _, _, hu, _⟩ := e1; ⟨u, hu⟩
    exact d_write I (by rw [h1]; trivial) sb he (dk_new hm s1 (r2.merge r1) e1)
end
end DL
namespace DL
open PySem PySem.Spec PyProof.Rows L2
/-! ### what _law_heard makes of an exception -/
def hearTab : List (Str × Str) := [("NoPerson", "no person"), ("NoHouse", "no house"), ("NoStanding", "no standing"), ("NoMove", "no move"), ("NoNames", "no names"), ("Unsettled", "unsettled"), ("Unfair", "unfair"), ("NoNumber", "no number"), ("Unlike", "unlike"), ("BadBook", "bad book"), ("NoBack", "no back"), ("NoText", "no text")]
def heardX : Str × Option Str → Option D
  | (x, none) => (hearTab.find? fun p => decide (p.1 = x)).map fun p => .tuple [.str p.2]
  | (x, some p) => if x = "Lived" then some (.tuple [.str "lived", .str p]) else if x = "Muddled" then some (.tuple [.str "muddled", .str p]) else none
def heardR : RD → Option D
  | .inl d => some (.tuple [.str "told", d])
  | .inr x => heardX x
def hearCls : List Str := "Lived" :: "Muddled" :: hearTab.map (·.1)
/-- what the classes say -/
structure HK (K : PySem.W.Frag) (cl : Str → Addr) : Prop where
  me : ∀ x ∈ hearCls, PySem.W.exmOne K (.ref (cl x)) (.ref (cl "MoveError")) = some true
  ec : ∀ x ∈ hearCls, ExcC K (cl x)
  xf : ∀ x ∈ hearCls, XfC K (cl x) ∧ PySem.W.findIn K (.ref (cl x)) "person" = some none
  ki : ∀ x ∈ hearCls, ∀ y ∈ hearCls, PySem.W.kitOne K (.ref (cl x)) (.ref (cl y)) = some (decide (x = y))
  ve : ∀ x ∈ hearCls, PySem.W.kitOne K (.ref (cl x)) (.type "ValueError") = some true
abbrev tIsR (K : PySem.W.Frag) (c : Addr) : TE := tCB (rIsT K) (tCons (tVar 1) (tCons (tC (.ref c)) tNil))
abbrev tWord (K : PySem.W.Frag) (c1 c2 : Addr) (w1 w2 : Str) : TE := tDisp [(tC (.str w1), tIsR K c1), (tC (.str w2), tIsR K c2)]
abbrev tUpdW (K : PySem.W.Frag) (c1 c2 : Addr) (w1 w2 : Str) : TS := tDrop (tBM K "dict" rUpdK (tVar 4) (tCons (tWord K c1 c2 w1 w2) tNil))
theorem ExcH.mono {H H' : Hp} {a c : Addr} {fs : List (Str × V)} (h : ExcH H a c fs) (k : Le H H') : ExcH H' a c fs := by
  rcases h with ⟨h, e⟩ | ⟨dx, h1, h2⟩
  · exact .inl ⟨k _ _ h, e⟩
  · exact .inr ⟨dx, k _ _ h1, k _ _ h2⟩
section
variable {K : PySem.W.Frag} {cl : Str → Addr} {σ : L2.St} {H : Hp} {a : Addr} {x : Str} {fs : List (Str × V)}
theorem isr_at (hk : HK K cl) (hx : x ∈ hearCls) (hs : σ[1]? = some (some (.ref a))) (he : ExcH H a (cl x) fs) {y : Str} (hy : y ∈ hearCls) {Q : VK} (q : Q (.bl (decide (x = y))) H) : tIsR K (cl y) σ H Q :=
  ⟨.ref a, hs, a, cl x, fs, .ref (cl y), .ref (cl y), decide (x = y), rfl, he, hk.ec x hx, fun u r => r, hk.ki x hx y hy, q⟩
theorem valV_none {kvs : List (Key × V)} {k : Key} (h : k ∉ kvs.map (·.1)) : valV kvs k = none := by
  induction kvs with
  | nil => exact valV_nil
  | cons p kvs ih =>
    simp only [List.map_cons, List.mem_cons, not_or] at h
    rw [valV_neg (fun z => h.1 z.symm)]
    exact ih h.2
theorem mergeK_app : ∀ (more kvs : List (Key × V)), ((kvs ++ more).map (·.1)).Nodup → mergeK kvs more = kvs ++ more
  | [], kvs, _ => (List.append_nil kvs).symm
  | p :: more, kvs, h => by
    have e : putK kvs p.1 p.2 = kvs ++ [p] := putK_new p.2 (valV_none fun z => by
      rw [List.map_append, List.nodup_append] at h
      exact h.2.2 _ z p.1 (by simp) rfl)
    show mergeK (putK kvs p.1 p.2) more = _
    rw [e, mergeK_app more (kvs ++ [p]) (by simpa using h)]
    simp
abbrev kb (x y w : Str) : Key × V := (Sum.inr w, .bl (decide (x = y)))
theorem word_at (hk : HK K cl) (hx : x ∈ hearCls) (hs : σ[1]? = some (some (.ref a))) (he : ExcH H a (cl x) fs) {y1 y2 w1 w2 : Str} (h1 : y1 ∈ hearCls) (h2 : y2 ∈ hearCls) (ne : w1 ≠ w2) {Q : VK}
    (q : ∀ p H', H p = none → Le H H' → H' p = some (.dK [kb x y1 w1, kb x y2 w2]) → (∀ b, b ≠ p → H' b = H b) → Q (.ref p) H') : tWord K (cl y1) (cl y2) w1 w2 σ H Q := by
  intro p hp
  have k1 : Le H (upd H p (.dK [])) := Le.new hp
  refine isr_at hk hx hs (he.mono k1) h1 (isr_at hk hx hs (he.mono k1) h2 ⟨upd_same, [kb x y1 w1, kb x y2 w2], rfl, by simp, ?_⟩)
  have em : mergeK [] [kb x y1 w1, kb x y2 w2] = [kb x y1 w1, kb x y2 w2] := mergeK_app _ [] (by simp [ne])
  rw [em, upd_upd]
  exact q p _ hp (Le.new hp) upd_same fun b hb => upd_ne hb
theorem upd_at (hk : HK K cl) (hx : x ∈ hearCls) (hs : σ[1]? = some (some (.ref a))) (he : ExcH H a (cl x) fs) {d : Addr} {kvs : List (Key × V)} (hd : σ[4]? = some (some (.ref d))) (hh : H d = some (.dK kvs)) (hl : kvs.length ≤ 100) {y1 y2 w1 w2 : Str} (h1 : y1 ∈ hearCls) (h2 : y2 ∈ hearCls) (ne : w1 ≠ w2) (nd : ((kvs ++ [kb x y1 w1, kb x y2 w2]).map (·.1)).Nodup) {D : Ends}
    (q : ∀ H', (∀ b o, b ≠ d → H b = some o → H' b = some o) → H' d = some (.dK (kvs ++ [kb x y1 w1, kb x y2 w2])) → D.nx σ H') : tUpdW K (cl y1) (cl y2) w1 w2 D σ H := by
  refine ⟨.ref d, hd, .inr (.inr (.inl ⟨rfl, .inl ⟨kvs, hh⟩⟩)), ?_⟩
  refine word_at (Q := fun z H1 => rUpdK (.ref d) [z] H1 fun _ H2 => D.nx σ H2) hk hx hs he h1 h2 ne fun p H' hp k hp' ho => ?_
  have np : d ≠ p := ne_of_none hh hp
  refine ⟨d, p, kvs, _, rfl, rfl, np, k _ _ hh, hp', by simp [sizeLine_eq]; omega, ?_⟩
  rw [mergeK_app _ _ nd]
  exact q _ (fun b o hb e => by rw [upd_ne hb]; exact k _ _ e) upd_same
theorem valV_word : ∀ {ws : List (Str × Bool)} {i : Nat} {p : Str × Bool}, (ws.map (·.1)).Nodup → ws[i]? = some p → valV (ws.map fun p => ((Sum.inr p.1 : Key), V.bl p.2)) (Sum.inr p.1) = some (.bl p.2)
  | [], i, p, _, h => by simp at h
  | z :: ws, 0, p, _, h => by
    simp at h
    subst h
    exact valV_pos rfl
  | z :: ws, i + 1, p, nd, h => by
    simp at h
    rw [List.map_cons, List.nodup_cons] at nd
    rw [List.map_cons, valV_neg (fun e => nd.1 ?_)]
    · exact valV_word nd.2 h
    · have e : z.1 = p.1 := by
        have e' : (Sum.inr z.1 : Key) = Sum.inr p.1 := e
        exact Sum.inr.inj e'
      rw [e]
      exact List.mem_map.mpr ⟨p, List.mem_of_getElem? h, rfl⟩
/-- [word for word in some if some[word]] -/
abbrev tWords (K : PySem.W.Frag) : TS := tLock (tAsg (tLc (iKeys (tVar 4)) (gName 6) (fun σ H Q => tDGet (tVar 4) (tVar 6) σ H fun x H' => ∃ k, TruV K x H' k ∧ Q k H') (tVar 6) [6]) (gName 5))
theorem words_at {d : Addr} {ws : List (Str × Bool)} (hl : σ.length = 7) (hd : σ[4]? = some (some (.ref d))) (hh : H d = some (.dK (ws.map fun p => (Sum.inr p.1, .bl p.2)))) (hz : ws.length ≤ 100) (nd : (ws.map (·.1)).Nodup) {D : Ends}
    (q : ∀ p H', H p = none → (∀ b o, H b = some o → H' b = some o) → H' p = some (.lst ((ws.filter (·.2)).map fun p => .str p.1)) → D.nx (σ.set 5 (some (.ref p))) H') : tWords K D σ H := by
  refine ⟨d, _, hh, trivial, fun od => ⟨.ref d, hd, d, od, rfl, .inl ⟨_, upd_same, fun L hL => ?_⟩⟩⟩
  have hL0 : L ≠ d := fun z => by
    rw [z, upd_same] at hL
    cases hL
  have hL1 : H L = none := by
    rw [upd_ne hL0] at hL
    exact hL
  let kv : List (Key × V) := ws.map fun p => (Sum.inr p.1, .bl p.2)
  let H0 : Hp := upd H d (.frz od (.dK kv))
  let acc : Nat → List V := fun i => ((ws.take i).filter (·.2)).map fun p => .str p.1
  refine ⟨fun i m H' => m = ws.length - i ∧ i ≤ ws.length ∧ H' = upd H0 L (.lst (acc i)), ⟨_, rfl, Nat.zero_le _, rfl⟩, ?_⟩
  rintro i m H' ⟨rfl, hi, rfl⟩
  have hd' : upd H0 L (.lst (acc i)) d = some (.frz od (.dK kv)) := by
    rw [upd_ne (Ne.symm hL0)]
    exact upd_same
  by_cases hlt : i < ws.length
  · refine .inr ⟨⟨hd', by simpa [kv] using hlt⟩, fun H' => H' = upd H0 L (.lst (acc (i + 1))), fun H' e => ⟨ws.length - (i + 1), by omega, rfl, hlt, e⟩, ?_⟩
    rintro x H' ⟨rfl, k, v, hk, rfl⟩
    have ew : ws[i]? = some ws[i] := by simp [hlt]
    have ek : k = Sum.inr ws[i].1 ∧ v = .bl ws[i].2 := by
      have : kv[i]? = some (Sum.inr ws[i].1, V.bl ws[i].2) := by simp [kv, hlt]
      rw [this] at hk
      cases hk
      exact ⟨rfl, rfl⟩
    obtain ⟨rfl, rfl⟩ := ek
    have hl7 : (wipe σ [6]).length = 7 := by rw [wipe_length, hl]
    have eacc : acc (i + 1) = acc i ++ (if ws[i].2 = true then [V.str ws[i].1] else []) := by
      simp only [acc]
      rw [List.take_add_one, ew, List.filter_append, List.map_append]
      congr 1
      by_cases hb : ws[i].2 = true <;> simp [hb]
    have hget : DGet (upd H0 L (.lst (acc i))) d (.str ws[i].1) (some (.bl ws[i].2)) := by
      exact .inl ⟨kv, Sum.inr ws[i].1, .inr ⟨od, hd'⟩, rfl, (valV_word nd ew).symm⟩
    have w4 : ((wipe σ [6]).set 6 (some (kV (Sum.inr ws[i].1))))[4]? = some (some (.ref d)) := by
      rw [List.getElem?_set_ne (by decide)]
      simp [wipe, hd]
    have w6 : ((wipe σ [6]).set 6 (some (kV (Sum.inr ws[i].1))))[6]? = some (some (.str ws[i].1)) := by
      rw [List.getElem?_set_self (by omega)]
      rfl
    refine ⟨?_, .ref d, w4, .str ws[i].1, w6, d, .bl ws[i].2, rfl, hget, ws[i].2, rfl, ?_⟩
    · simp [wipe, List.set_set]
    · show if ws[i].2 = true then _ else _
      by_cases hb : ws[i].2 = true
      · rw [if_pos hb]
        refine ⟨.str ws[i].1, w6, acc i, upd_same, ?_, ?_⟩
        · have h1 : (acc i).length ≤ ws.length := by
            simp only [acc, List.length_map]
            exact Nat.le_trans (List.length_filter_le _ _) (by rw [List.length_take]; omega)
          rw [sizeLine_eq]
          omega
        · show upd _ L _ = _
          rw [upd_upd, eacc, if_pos hb]
      · rw [if_neg hb]
        show upd H0 L _ = _
        rw [eacc, if_neg hb, List.append_nil]
  · refine .inl ⟨⟨hd', by simp [kv]; omega⟩, ?_⟩
    have ei : i = ws.length := by omega
    subst ei
    refine ⟨hd', ?_⟩
    have e2 : upd (upd H0 L (.lst (acc ws.length))) d (.dK kv) = upd H L (.lst (acc ws.length)) := by
      funext b
      by_cases hb : b = d
      · rw [hb, upd_same, upd_ne (Ne.symm hL0)]
        exact hh.symm
      · rw [upd_ne hb]
        by_cases hb2 : b = L
        · rw [hb2, upd_same, upd_same]
        · rw [upd_ne hb2, upd_ne hb2]
          exact upd_ne hb
    rw [e2]
    refine q L _ hL1 (fun b o e => Le.new hL1 _ _ e) ?_
    rw [upd_same]
    simp [acc]
end
end DL
namespace DL
open PySem PySem.Spec PyProof.Rows L2
abbrev tAsk (K : PySem.W.Frag) (t : TE) : TT := fun σ H Q => t σ H fun x H' => ∃ k, TruV K x H' k ∧ Q k H'
abbrev tTell (K : PySem.W.Frag) (w : Str) : TS := tRet (tTupZ (tCons (tC (.str w)) (tCons (tXfT K "person" (tVar 1)) tNil)))
abbrev tEndW (K : PySem.W.Frag) : TS := tRet (tIf (tAnd (tTest (tOp rEq (tCB (fun xs H Q => ∃ x n, xs = [x] ∧ LenV K x H n ∧ Q (.int n) H) (tCons (tVar 5) tNil)) (tC (.int 1)))) (tAsk K (tCB (rIsT K) (tCons (tVar 1) (tCons (tC (.ty "ValueError")) tNil)))))
  (tTupZ (tCons (tOp (rIxL K) (tVar 5) (tC (.int 0))) tNil)) (tTupZ (tCons (tC (.str "is wrong")) tNil)))
/-- what stands behind the try -/
abbrev tTail (K : PySem.W.Frag) (cl : Str → Addr) : TS :=
  tSeq (tIfS (tTest (tIsN (tVar 1))) (tRet (tTupZ (tCons (tC (.str "told")) (tCons (tVar 2) tNil)))) tNext)
  (tSeq (tIfS (tAsk K (tIsR K (cl "Lived"))) (tTell K "lived") tNext)
  (tSeq (tIfS (tAsk K (tIsR K (cl "Muddled"))) (tTell K "muddled") tNext)
  (tSeq (tAsg (tWord K (cl "NoPerson") (cl "NoHouse") "no person" "no house") (gName 4))
  (tSeq (tUpdW K (cl "NoStanding") (cl "NoMove") "no standing" "no move")
  (tSeq (tUpdW K (cl "NoNames") (cl "Unsettled") "no names" "unsettled")
  (tSeq (tUpdW K (cl "Unfair") (cl "NoNumber") "unfair" "no number")
  (tSeq (tUpdW K (cl "Unlike") (cl "BadBook") "unlike" "bad book")
  (tSeq (tUpdW K (cl "NoBack") (cl "NoText") "no back" "no text")
  (tSeq (tWords K) (tEndW K))))))))))
section
variable {K : PySem.W.Frag} {cl : Str → Addr} {σ : L2.St} {H Hb : Hp} {a : Addr} {x : Str} {fs : List (Str × V)} {D : Ends}
theorem told_ok {v : V} (h1 : σ[1]? = some (some .non)) (h2 : σ[2]? = some (some v)) (q : ∀ p o, Obj.dict o = none → H p = none → D.rt (.ref p) (upd H p (.frz o (.tup [.str "told", v])))) : tTail K cl D σ H := by
  refine ⟨.non, h1, true, rfl, ?_⟩
  show if true = true then _ else _
  rw [if_pos rfl]
  exact ⟨v, h2, by simp [sizeLine_eq], q⟩
/-- not None: on -/
theorem on_some (h1 : σ[1]? = some (some (.ref a))) {t u : TS} (q : u D σ H) : tSeq (tIfS (tTest (tIsN (tVar 1))) t tNext) u D σ H := by
  refine ⟨.ref a, h1, false, rfl, ?_⟩
  show if false = true then _ else _
  rw [if_neg Bool.false_ne_true]
  exact q
theorem on_not (hk : HK K cl) (hx : x ∈ hearCls) (hs : σ[1]? = some (some (.ref a))) (he : ExcH H a (cl x) fs) {y : Str} (hy : y ∈ hearCls) (ne : x ≠ y) {t u : TS} (q : u D σ H) : tSeq (tIfS (tAsk K (tIsR K (cl y))) t tNext) u D σ H := by
  refine isr_at hk hx hs he hy ⟨false, (decide_eq_false ne).symm, ?_⟩
  show if false = true then _ else _
  rw [if_neg Bool.false_ne_true]
  exact q
theorem on_yes (hk : HK K cl) (hx : x ∈ hearCls) (hs : σ[1]? = some (some (.ref a))) {p : Str} (he : ExcH H a (cl x) [("person", .str p)]) {w : Str} {u : TS}
    (q : ∀ t o, Obj.dict o = none → H t = none → D.rt (.ref t) (upd H t (.frz o (.tup [.str w, .str p])))) : tSeq (tIfS (tAsk K (tIsR K (cl x))) (tTell K w) tNext) u D σ H := by
  refine isr_at hk hx hs he hx ⟨true, by simp [TruV], ?_⟩
  show if true = true then _ else _
  rw [if_pos rfl]
  obtain ⟨f1, f2⟩ := hk.xf x hx
  exact ⟨.ref a, hs, a, cl x, _, .str p, rfl, he, f1, f2, by rfl, by simp [sizeLine_eq], q⟩
theorem kb_bools (y w : Str) : kb x y w = ((fun p : Str × Bool => ((Sum.inr p.1 : Key), V.bl p.2)) (w, decide (x = y))) := rfl
/-- the words of the table -/
def wordsOf (x : Str) : List (Str × Bool) := hearTab.map fun p => (p.2, decide (x = p.1))
theorem words_nodup : (hearTab.map (·.2)).Nodup := by decide +kernel
theorem tab_nodup : (hearTab.map (·.1)).Nodup := by decide +kernel
theorem find_words : ∀ {l : List (Str × Str)} {w : Str}, (l.map (·.1)).Nodup → (l.find? fun p => decide (p.1 = x)) = some (x, w) → (((l.map fun p => (p.2, decide (x = p.1))).filter (·.2)).map fun p => V.str p.1) = [.str w]
  | [], w, _, h => by simp at h
  | p :: l, w, nd, h => by
    rw [List.map_cons, List.nodup_cons] at nd
    by_cases e : p.1 = x
    · rw [List.find?_cons_of_pos (by simp [e])] at h
      cases h
      have none_ : ((l.map fun p => (p.2, decide (x = p.1))).filter (·.2)) = [] := by
        rw [List.filter_eq_nil_iff]
        intro q hq
        obtain ⟨z, hz, rfl⟩ := List.mem_map.mp hq
        simp only [decide_eq_true_eq]
        intro ez
        exact nd.1 (List.mem_map.mpr ⟨z, hz, ez.symm⟩)
      simp [none_]
    · rw [List.find?_cons_of_neg (by simp [e])] at h
      have e' : ¬ x = p.1 := fun z => e z.symm
      rw [List.map_cons, List.filter_cons, if_neg (by simp [e'])]
      exact find_words nd.2 h
theorem seq_word (hk : HK K cl) (hx : x ∈ hearCls) (hs : σ[1]? = some (some (.ref a))) (he : ExcH H a (cl x) fs) {y1 y2 w1 w2 : Str} (h1 : y1 ∈ hearCls) (h2 : y2 ∈ hearCls) (ne : w1 ≠ w2) {u : TS}
    (q : ∀ p H', H p = none → Le H H' → H' p = some (.dK [kb x y1 w1, kb x y2 w2]) → u D (σ.set 4 (some (.ref p))) H') : tSeq (tAsg (tWord K (cl y1) (cl y2) w1 w2) (gName 4)) u D σ H :=
  word_at (Q := fun v H1 => u D (σ.set 4 (some v)) H1) hk hx hs he h1 h2 ne fun p H' a1 a2 a3 _ => q p H' a1 a2 a3
theorem seq_upd (hk : HK K cl) (hx : x ∈ hearCls) (hs : σ[1]? = some (some (.ref a))) (he : ExcH H a (cl x) fs) {d : Addr} {kvs : List (Key × V)} (hd : σ[4]? = some (some (.ref d))) (hh : H d = some (.dK kvs)) (hl : kvs.length ≤ 100) {y1 y2 w1 w2 : Str} (h1 : y1 ∈ hearCls) (h2 : y2 ∈ hearCls) (ne : w1 ≠ w2) (nd : ((kvs ++ [kb x y1 w1, kb x y2 w2]).map (·.1)).Nodup) {u : TS}
    (q : ∀ H', (∀ b o, b ≠ d → H b = some o → H' b = some o) → H' d = some (.dK (kvs ++ [kb x y1 w1, kb x y2 w2])) → u D σ H') : tSeq (tUpdW K (cl y1) (cl y2) w1 w2) u D σ H :=
  upd_at (D := { D with nx := u D }) hk hx hs he hd hh hl h1 h2 ne nd q
theorem seq_words {d : Addr} {ws : List (Str × Bool)} (hl : σ.length = 7) (hd : σ[4]? = some (some (.ref d))) (hh : H d = some (.dK (ws.map fun p => (Sum.inr p.1, .bl p.2)))) (hz : ws.length ≤ 100) (nd : (ws.map (·.1)).Nodup) {u : TS}
    (q : ∀ p H', H p = none → (∀ b o, H b = some o → H' b = some o) → H' p = some (.lst ((ws.filter (·.2)).map fun p => .str p.1)) → u D (σ.set 5 (some (.ref p))) H') : tSeq (tWords K) u D σ H :=
  words_at (D := { D with nx := u D }) hl hd hh hz nd q
theorem simple_ok (hk : HK K cl) {w : Str} (hf : (hearTab.find? fun p => decide (p.1 = x)) = some (x, w)) (hl : σ.length = 7) (hs : σ[1]? = some (some (.ref a))) (he : ExcH H a (cl x) fs) (kb0 : Le Hb H) (ha : Hb a = none)
    (q : ∀ v H', Le Hb H' → Dn K (msk (mutIn Hb) H') v (.tuple [.str w]) → D.rt v H') : tTail K cl D σ H := by
  have hxt : x ∈ hearTab.map (·.1) := List.mem_map.mpr ⟨_, List.mem_of_find?_eq_some hf, rfl⟩
  have hx : x ∈ hearCls := List.mem_cons_of_mem _ (List.mem_cons_of_mem _ hxt)
  have inC : ∀ y ∈ hearTab.map (·.1), y ∈ hearCls := fun y hy => List.mem_cons_of_mem _ (List.mem_cons_of_mem _ hy)
  have nL : x ≠ "Lived" := fun z => by
    rw [z] at hxt
    revert hxt
    decide +kernel
  have nM : x ≠ "Muddled" := fun z => by
    rw [z] at hxt
    revert hxt
    decide +kernel
  refine on_some hs (on_not hk hx hs he (by decide +kernel) nL (on_not hk hx hs he (by decide +kernel) nM ?_))
  refine seq_word (y1 := "NoPerson") (y2 := "NoHouse") (w1 := "no person") (w2 := "no house") hk hx hs he (inC _ (by decide +kernel)) (inC _ (by decide +kernel)) (by decide +kernel) fun d H1 hd k1 e1 => ?_
  have s1 : (σ.set 4 (some (.ref d)))[1]? = some (some (.ref a)) := by rw [List.getElem?_set_ne (by decide)]; exact hs
  have s4 : (σ.set 4 (some (.ref d)))[4]? = some (some (.ref d)) := by rw [List.getElem?_set_self (by omega)]
  have hbd : Hb d = none := by
    cases z : Hb d with
    | none => rfl
    | some o =>
      have := kb0 _ _ z
      rw [hd] at this
      cases this
  -- one dict, ever larger
  have stay : ∀ {Ha Hc : Hp} {kvs : List (Key × V)}, Le Hb Ha → ExcH Ha a (cl x) fs → Ha d = some (.dK kvs) → (∀ b o, b ≠ d → Ha b = some o → Hc b = some o) → Le Hb Hc ∧ ExcH Hc a (cl x) fs := fun {Ha Hc kvs} l e ed k => by
    refine ⟨fun b o z => k b o (fun q => by rw [q, hbd] at z; cases z) (l b o z), ?_⟩
    rcases e with ⟨e, ef⟩ | ⟨dx, e, ex⟩
    · refine .inl ⟨k _ _ (fun q => ?_) e, ef⟩
      rw [q, ed] at e
      unfold exK at e
      cases e
    · refine .inr ⟨dx, k _ _ (fun q => ?_) e, k _ _ (fun q => ?_) ex⟩
      · rw [q, ed] at e
        unfold exK at e
        cases e
      · rw [q, ed] at ex
        cases ex
  have l1 : Le Hb H1 := kb0.trans k1
  have x1 : ExcH H1 a (cl x) fs := he.mono k1
  refine seq_upd (y1 := "NoStanding") (y2 := "NoMove") (w1 := "no standing") (w2 := "no move") hk hx s1 x1 s4 e1 (by simp) (inC _ (by decide +kernel)) (inC _ (by decide +kernel)) (by decide +kernel) (by simp only [List.map_append, List.map_cons, List.map_nil]; decide +kernel) fun H2 k2 e2 => ?_
  obtain ⟨l2, x2⟩ := stay l1 x1 e1 k2
  refine seq_upd (y1 := "NoNames") (y2 := "Unsettled") (w1 := "no names") (w2 := "unsettled") hk hx s1 x2 s4 e2 (by simp) (inC _ (by decide +kernel)) (inC _ (by decide +kernel)) (by decide +kernel) (by simp only [List.map_append, List.map_cons, List.map_nil]; decide +kernel) fun H3 k3 e3 => ?_
  obtain ⟨l3, x3⟩ := stay l2 x2 e2 k3
  refine seq_upd (y1 := "Unfair") (y2 := "NoNumber") (w1 := "unfair") (w2 := "no number") hk hx s1 x3 s4 e3 (by simp) (inC _ (by decide +kernel)) (inC _ (by decide +kernel)) (by decide +kernel) (by simp only [List.map_append, List.map_cons, List.map_nil]; decide +kernel) fun H4 k4 e4 => ?_
  obtain ⟨l4, x4⟩ := stay l3 x3 e3 k4
  refine seq_upd (y1 := "Unlike") (y2 := "BadBook") (w1 := "unlike") (w2 := "bad book") hk hx s1 x4 s4 e4 (by simp) (inC _ (by decide +kernel)) (inC _ (by decide +kernel)) (by decide +kernel) (by simp only [List.map_append, List.map_cons, List.map_nil]; decide +kernel) fun H5 k5 e5 => ?_
  obtain ⟨l5, x5⟩ := stay l4 x4 e4 k5
  refine seq_upd (y1 := "NoBack") (y2 := "NoText") (w1 := "no back") (w2 := "no text") hk hx s1 x5 s4 e5 (by simp) (inC _ (by decide +kernel)) (inC _ (by decide +kernel)) (by decide +kernel) (by simp only [List.map_append, List.map_cons, List.map_nil]; decide +kernel) fun H6 k6 e6 => ?_
  obtain ⟨l6, x6⟩ := stay l5 x5 e5 k6
  refine seq_words (ws := wordsOf x) (by simp [hl]) s4 e6 (by simp [wordsOf, hearTab]) (by simp only [wordsOf, List.map_map]; exact words_nodup) fun L H7 hL k7 e7 => ?_
  rw [show (((wordsOf x).filter (·.2)).map fun p => V.str p.1) = [.str w] from find_words tab_nodup hf] at e7
  have l7 : Le Hb H7 := l6.trans k7
  have x7 : ExcH H7 a (cl x) fs := x6.mono k7
  have s5 : ((σ.set 4 (some (.ref d))).set 5 (some (.ref L)))[5]? = some (some (.ref L)) := by rw [List.getElem?_set_self (by simp [hl])]
  have s1' : ((σ.set 4 (some (.ref d))).set 5 (some (.ref L)))[1]? = some (some (.ref a)) := by rw [List.getElem?_set_ne (by decide)]; exact s1
  have sq : SqL K H7 L [.str w] := Or.inl (Or.inl e7)
  refine ⟨.ref L, s5, .ref L, 1, rfl, .inl ⟨_, sq, rfl⟩, rfl, true, by rfl, ?_⟩
  show if true = true then _ else _
  rw [if_pos rfl]
  refine ⟨.ref a, s1', a, cl x, fs, .ty "ValueError", .type "ValueError", true, rfl, x7, hk.ec x hx, fun u r => r, hk.ve x hx, true, rfl, ?_⟩
  show if true = true then _ else _
  rw [if_pos rfl]
  refine ⟨.ref L, s5, L, [.str w], 0, .str w, rfl, rfl, sq, rfl, by simp [sizeLine_eq], fun t o ho ht => ?_⟩
  have hbt : ¬ mutIn Hb t := fun ⟨u, z, _⟩ => by
    have := l7 _ _ z
    rw [ht] at this
    cases this
  refine q _ _ (l7.trans (Le.new ht)) (Dn.ntup ⟨o, msk_of hbt upd_same, ho⟩ (DnL.cons (.str w) DnL.nil))
theorem person_ok (hk : HK K cl) {p w : Str} (hw : x = "Lived" ∧ w = "lived" ∨ x = "Muddled" ∧ w = "muddled") (hs : σ[1]? = some (some (.ref a))) (he : ExcH H a (cl x) [("person", .str p)]) (kb0 : Le Hb H)
    (q : ∀ v H', Le Hb H' → Dn K (msk (mutIn Hb) H') v (.tuple [.str w, .str p]) → D.rt v H') : tTail K cl D σ H := by
  have fin : ∀ t o, Obj.dict o = none → H t = none → D.rt (.ref t) (upd H t (.frz o (.tup [.str w, .str p]))) := fun t o ho ht => by
    have hbt : ¬ mutIn Hb t := fun ⟨u, z, _⟩ => by
      have := kb0 _ _ z
      rw [ht] at this
      cases this
    exact q _ _ (kb0.trans (Le.new ht)) (Dn.ntup ⟨o, msk_of hbt upd_same, ho⟩ (DnL.cons (.str w) (DnL.cons (.str p) DnL.nil)))
  rcases hw with ⟨rfl, rfl⟩ | ⟨rfl, rfl⟩
  · exact on_some hs (on_yes hk (by decide +kernel) hs he fin)
  · exact on_some hs (on_not hk (by decide +kernel) hs he (by decide +kernel) (by decide +kernel) (on_yes hk (by decide +kernel) hs he fin))
/-- what _law_heard makes of what it is handed -/
def TTh (K : PySem.W.Frag) (clm : Str → Option Addr) : (XK → Hp → VK → Prop) → Hp → VK → Prop := fun tl H Q => ∀ H1, Le H H1 →
  tl (fun cls d H' => ∃ x r, ExcIs clm x cls d H' ∧ heardX x = some r ∧ ∀ v H'', Le H' H'' → Dn K (msk (mutIn H') H'') v r → Q v H'') H1
    (fun v H' => ∀ p o, Obj.dict o = none → H' p = none → Q (.ref p) (upd H' p (.frz o (.tup [.str "told", v]))))
theorem heardX_cls {x : Str × Option Str} {r : PyData} (h : heardX x = some r) : x.1 ∈ hearCls := by
  obtain ⟨n, p⟩ := x
  cases p with
  | none =>
    cases e : hearTab.find? fun p => decide (p.1 = n) with
    | none => simp [heardX, e] at h
    | some z =>
      have h1 := List.find?_some e
      have h2 := List.mem_of_find?_eq_some e
      have : z.1 = n := by simpa using h1
      exact List.mem_cons_of_mem _ (List.mem_cons_of_mem _ (List.mem_map.mpr ⟨z, h2, this⟩))
  | some p =>
    simp only [heardX] at h
    split at h
    · rename_i e
      exact e ▸ List.mem_cons_self
    · split at h
      · rename_i e
        exact e ▸ List.mem_cons_of_mem _ List.mem_cons_self
      · cases h
/-- behind the clause -/
theorem caught_ok (hk : HK K cl) {clm : Str → Option Addr} (hc : ∀ y ∈ hearCls, clm y = some (cl y)) {e : Str × Option Str} {r : PyData} {cls : Value} {d : Option Addr} {Q : VK} (hx : ExcIs clm e cls d Hb) (hr : heardX e = some r)
    (q : ∀ v H'', Le Hb H'' → Dn K (msk (mutIn Hb) H'') v r → Q v H'') (ha : Hb a = none) (hl : σ.length = 7) (hs : σ[1]? = some (some (.ref a))) (hq : D.rt = Q) : tTail K cl D σ (upd Hb a (exK a cls d)) := by
  have hm := heardX_cls hr
  obtain ⟨⟨c, rfl, ec⟩, d0, dp⟩ := hx
  rw [hc _ hm] at ec
  cases ec
  subst hq
  have kn : Le Hb (upd Hb a (exK a (.ref (cl e.1)) d)) := Le.new ha
  obtain ⟨n, p⟩ := e
  cases p with
  | none =>
    have ed := d0 rfl
    subst ed
    cases ef : hearTab.find? fun p => decide (p.1 = n) with
    | none => simp [heardX, ef] at hr
    | some z =>
      have h1 := List.find?_some ef
      have ez : z.1 = n := by simpa using h1
      obtain ⟨z1, w⟩ := z
      have ez : z1 = n := ez
      subst ez
      simp only [heardX, ef, Option.map_some, Option.some.injEq] at hr
      subst hr
      exact simple_ok (fs := []) hk ef hl hs (.inl ⟨upd_same, rfl⟩) kn ha q
  | some p =>
    obtain ⟨dx, ed, hdx⟩ := dp p rfl
    subst ed
    have he : ExcH (upd Hb a (exK a (.ref (cl n)) (some dx))) a (cl n) [("person", .str p)] := .inr ⟨dx, upd_same, kn _ _ hdx⟩
    simp only [heardX] at hr
    split at hr
    · rename_i e1
      cases hr
      exact person_ok hk (.inl ⟨e1, rfl⟩) hs he kn q
    · split at hr
      · rename_i e1
        cases hr
        exact person_ok hk (.inr ⟨e1, rfl⟩) hs he kn q
      · cases hr
end
end DL
namespace DL
open PySem PySem.Spec PyProof.Rows L2
/-! ### all but the tables stay -/
section
variable {K : PySem.W.Frag} {H H' : Hp} {O : Addr → Prop}
theorem ext_msk (e : LamX.ExtN H H') : LamX.ExtN (msk O H) (msk O H') := fun a o h n => by
  obtain ⟨h1, h2⟩ := msk_some h
  exact msk_of h1 (e a o h2 n)
theorem ext_tps (e : LamX.ExtN H H') {a : Addr} {xs : List V} (h : TpS H a xs) : TpS H' a xs := let ⟨o, h, n⟩ := h; ⟨o, e _ _ h (fun _ z => nomatch z), n⟩
theorem Dn.ext (e : LamX.ExtN H H') {v : V} {d : D} (h : Dn K H v d) : Dn K H' v d := by
  induction h with
  | non => exact .non
  | bl b => exact .bl b
  | int i => exact .int i
  | str x => exact .str x
  | lst h1 h2 _ ih => exact .lst (e _ _ h1 (fun _ z => nomatch z)) h2 ih
  | tup h1 h2 _ ih => exact .tup (ext_tps e h1) h2 ih
theorem DnL.ext (e : LamX.ExtN H H') {vs : List V} {ds : List D} (h : DnL K H vs ds) : DnL K H' vs ds := ⟨h.1, fun i v d a b => (h.2 i v d a b).ext e⟩
theorem SqF.ext (e : LamX.ExtN H H') {a : Addr} {xs : List V} (h : SqF K H a xs) : SqF K H' a xs := by
  rcases h with ⟨o, h⟩ | h
  · exact .inl ⟨o, e _ _ h (fun _ z => nomatch z)⟩
  · exact .inr h
theorem ext_sqt (e : LamX.ExtN H H') {a : Addr} {xs : List V} (h : SqT K H a xs) : SqT K H' a xs := by
  rcases h with (h | ⟨o, h⟩) | h
  · exact .inl (.inl (e _ _ h (fun _ z => nomatch z)))
  · exact .inl (.inr ⟨o, e _ _ h (fun _ z => nomatch z)⟩)
  · exact .inr h
theorem mt_ntbl {o : HO} (h : Mt o) : ∀ ps, o ≠ .tbl ps := fun ps z => by
  subst z
  exact h
end
/-- the frame of a law that makes lambdas -/
structure LawFr (C : Fr) : Prop where
  vo : ∀ a, C.Vo a → ∃ q, (a, q) ∈ C.T
  fv : ∀ a, C.F a → C.Vo a
  h0 : ∀ a ps, C.H0 a = some (.tbl ps) → C.Vo a
section
variable {C : Fr} {X : Cx} {σ : L2.St} {H H' : Hp} {ρ ρ' : Rho} {τ : List (V × R)} {an : List (Addr × HO)}
theorem SD.tabs (S : SD C σ H ρ τ an) : LamX.Tabs C.T H := by
  obtain ⟨fp, s⟩ := S
  exact fun p hp => (s.tab p hp).2.2
theorem SD.lam (S : SD C σ H ρ τ an) (L : LawFr C) (e : LamX.ExtN H H') (t : LamX.Tabs C.T H') : SD C σ H' ρ τ an := by
  obtain ⟨fp, s⟩ := S
  have em : LamX.ExtN (msk (OO C.F fp an) H) (msk (OO C.F fp an) H') := ext_msk e
  have tb : ∀ a, C.Vo a → ∃ o, H' a = some o ∧ Mv o := fun a h => by
    obtain ⟨q, hq⟩ := L.vo a h
    obtain ⟨ps, h1, _⟩ := t _ hq
    exact ⟨_, h1, .inr ⟨ps, rfl⟩⟩
  refine ⟨fp, fun p hp => ⟨(s.tab p hp).1, (s.tab p hp).2.1, t p hp⟩, s.len, fun a o n h => e a o (s.ext a o n h) (fun ps z => ?_), fun a h => ⟨(s.vol a h).1, tb a h⟩, s.inj, s.ani, s.and, fun i a h => ?_, fun a o h => ?_, fun a h => ⟨(s.frn a h).1, tb a (L.fv a h)⟩, fun i b h => ?_, s.emp, fun p hp => ?_⟩
  · rw [z] at h
    exact n (L.h0 a ps h)
  · obtain ⟨h1, o, h2, h3⟩ := s.own i a h
    exact ⟨h1, o, e a o h2 (mt_ntbl h3), h3⟩
  · obtain ⟨h1, h2, h3⟩ := s.ano a o h
    exact ⟨h1, e a o h2 (mt_ntbl h3), h3⟩
  · obtain ⟨v, h1, h2⟩ := s.bnd i b h
    refine ⟨v, h1, ?_⟩
    cases b with
    | d x => exact ⟨h2.1, h2.2.ext em⟩
    | r xs =>
      obtain ⟨e0, a, vs, g1, g2, g3, g4⟩ := h2
      exact ⟨e0, a, vs, g1, g2, g3, g4.ext em⟩
    | l xs =>
      obtain ⟨a, vs, g1, g2, g3, g4, g5⟩ := h2
      exact ⟨a, vs, g1, g2, g3, e _ _ g4 (fun _ z => nomatch z), g5.ext em⟩
    | m kvs =>
      obtain ⟨a, vs, g1, g2, g3, g4, g5, g6⟩ := h2
      exact ⟨a, vs, g1, g2, g3, e _ _ g4 (fun _ z => nomatch z), g5, g6.ext em⟩
    | t c m =>
      obtain ⟨a, b, g1, g2, g3, g0, g4, g5⟩ := h2
      exact ⟨a, b, g1, g2, g3, g0, e _ _ g4 (fun _ z => nomatch z), e _ _ g5 (fun _ z => nomatch z)⟩
    | s ns =>
      obtain ⟨e0, a, g1, g2⟩ := h2
      exact ⟨e0, a, g1, g2.ext em⟩
  · have h := s.tmp p hp
    obtain ⟨v, r⟩ := p
    cases r with
    | d x => exact Dn.ext em h
    | own i => exact h
    | w xs =>
      obtain ⟨a, vs, g1, g2, g3⟩ := h
      exact ⟨a, vs, g1, ext_sqt em g2, g3.ext em⟩
/-- the same with another wish -/
theorem SD.wish (S : SD C σ H ρ τ an) (E : XK) (cl : Str → Option Addr) : SD { C with xe := E, cl := cl } σ H ρ τ an := by
  obtain ⟨fp, s⟩ := S
  exact ⟨fp, s.tab, s.len, s.ext, s.vol, s.inj, s.ani, s.and, s.own, s.ano, s.frn, s.bnd, s.emp, s.tmp⟩
theorem SD.unwish {E : XK} {cl : Str → Option Addr} (S : SD { C with xe := E, cl := cl } σ H ρ τ an) : SD C σ H ρ τ an := by
  obtain ⟨fp, s⟩ := S
  exact ⟨fp, s.tab, s.len, s.ext, s.vol, s.inj, s.ani, s.and, s.own, s.ano, s.frn, s.bnd, s.emp, s.tmp⟩
/-! ### _law_heard(lambda: f(..)) -/
def eHeard (g : FR) : FE := fun ρ => (g ρ).bind fun p => (heardR p.1).map fun d => (.d d, p.2)
abbrev Fr.wx (C : Fr) (E : XK) (cl : Str → Option Addr) : Fr := { C with xe := E, cl := cl }
theorem imp_heard {g : FR} {clm : Str → Option Addr} {Q : VK} (L : LawFr C) (h : tE C (eHeard g) σ H Q) : LamX.tLam C.T (TTh C.K clm) (fun E => tEX (C.wx E clm) g) σ H Q := by
  obtain ⟨ρ, τ, an, r, ρ', S, e, q⟩ := h
  unfold eHeard at e
  cases e1 : g ρ with
  | none => simp [e1] at e
  | some p =>
    obtain ⟨r0, ρ1⟩ := p
    cases e2 : heardR r0 with
    | none => simp [e1, e2] at e
    | some d =>
      simp [e1, e2] at e
      obtain ⟨rfl, rfl⟩ := e
      refine ⟨S.tabs, fun H1 x1 t1 H2 k2 => ?_⟩
      have S2 : SD C σ H2 ρ τ an := (S.lam L x1 t1).grow k2
      refine ⟨ρ, τ, an, r0, ρ1, S2.wish _ _, e1, fun d' hd v H' S' p o ho hp => ?_, fun x hx cls dd H' S' hX => ?_⟩
      · subst hd
        cases e2
        have S'' : SD C σ H' ρ1 ((v, .d d') :: τ) an := S'.unwish
        have S3 : SD C σ H' ρ1 ((.str "told", .d (.str "told")) :: (v, .d d') :: τ) an := S''.push fun _ _ => .str _
        refine q _ _ ((S3.ntup (vs := [.str "told", v]) (xs := [.str "told", d']) rfl (fun i w y a b => ?_) ho hp).keepN fun z hz => List.mem_cons_of_mem _ (List.mem_cons_of_mem _ hz))
        match i, a, b with
        | 0, a, b =>
          cases a
          cases b
          exact List.mem_cons_self
        | 1, a, b =>
          cases a
          cases b
          exact List.mem_cons_of_mem _ List.mem_cons_self
        | i + 2, a, b => simp at a
      · subst hx
        exact ⟨x, d, hX, e2, fun v H'' k hd => q v H'' (S'.unwish.result k hd)⟩
end
end DL
namespace DL
open PySem PySem.Spec PyProof.Rows L2
/-! ### a law whose lambdas' code objects stand in a table -/
def spLT (K : PySem.W.Frag) (Pt : Addr) (m : List Int → Option D) : Sp := fun vs H Q _ => vs.length = 1 ∧ ∃ a ns d, vs = [.ref a] ∧ SqF K H a (ns.map V.int) ∧ H Pt = some (.tbl #[]) ∧ (∀ b ps, H b = some (.tbl ps) → b = Pt) ∧ m ns = some d ∧ ∀ v H', Dn K H' v d → Q v H'
/-- .. whatever else is tracked; the value is all that is wished for -/
def spLA (K : PySem.W.Frag) (Pt : Addr) (m : List Int → Option D) : Sp := fun vs H Q _ => vs.length = 1 ∧ ∃ a ns d, vs = [.ref a] ∧ SqL K H a (ns.map V.int) ∧ H Pt = some (.tbl #[]) ∧ m ns = some d ∧ ∀ v H' H'', Dn K H' v d → Q v H''
section
variable {P : Program} {w : World} {K : PySem.W.Frag} {mg : Str → Option Value} {base : Heap} {k : Nat} {f : Addr} {fd : FuncData} {x : Str} {Pt : Addr} {m : List Int → Option D}
/-- the objects of the one but for those of S, the other at S -/
theorem fn_min (F : FnOk P w K mg base (L2.CX P w) k f fd [x] (spLT K Pt m)) : FnOk P w K mg base (L2.CX P w) k f fd [x] (spLA K Pt m) := by
  classical
  refine ⟨fun vs H Q E h => h.1, fun A outer s H args us vs Q E hr e0 hb r h => ?_⟩
  obtain ⟨hl, a, ns, d, rfl, hs, hP, hm, q⟩ := h
  -- what is tracked of the script
  obtain ⟨ho, hso, hsf, hsc⟩ : ∃ ho : Option HO, (∀ u, ho = some u → ∃ ob, u = .frz ob (.lst (ns.map V.int)) ∧ ObjOk P w (fun _ => none) s.heap a u ∧ ∃ u', H a = some u' ∧ (∀ s' : Heap, s'.get? a = some ob → ∀ H', ObjOk P w H' s' a u')) ∧
      (∀ Hm : Hp, (∀ u, ho = some u → Hm a = some u) → SqF K Hm a (ns.map V.int)) ∧ (ho = none ∨ a ≠ Pt) := by
    rcases hs with (h | ⟨ob, h⟩) | h
    · obtain ⟨z, its, n, rv, e⟩ := e0.hok a _ h
      refine ⟨some (.frz { cls := .type "list", data := .seq its.toArray n } (.lst (ns.map V.int))), fun u hu => ?_, fun Hm e1 => .inl ⟨_, e1 _ rfl⟩, .inr fun z => ?_⟩
      · cases hu
        exact ⟨_, rfl, ⟨e, z, its, n, rv, e⟩, _, h, fun s' e' H' => ⟨z, its, n, rv, e'⟩⟩
      · rw [z, hP] at h
        cases h
    · obtain ⟨e, z, its, n, rv, e2⟩ := e0.hok a _ h
      refine ⟨some (.frz ob (.lst (ns.map V.int))), fun u hu => ?_, fun Hm e1 => .inl ⟨_, e1 _ rfl⟩, .inr fun z => ?_⟩
      · cases hu
        exact ⟨_, rfl, ⟨e, z, its, n, rv, e2⟩, _, h, fun s' e' H' => ⟨e', z, its, n, rv, by rw [e'] at *; rw [e] at e2; exact e2⟩⟩
      · rw [z, hP] at h
        cases h
    · exact ⟨none, (fun u hu => by cases hu), (fun Hm _ => Or.inr (Or.inr h)), Or.inl rfl⟩
  let Hm : Hp := fun b => if b = Pt then some (.tbl #[]) else if b = a then ho else none
  have mP : Hm Pt = some (.tbl #[]) := if_pos rfl
  have mA : a ≠ Pt → Hm a = ho := fun n => (if_neg n).trans (if_pos rfl)
  have mO : ∀ b, b ≠ Pt → b ≠ a → Hm b = none := fun b n1 n2 => (if_neg n1).trans (if_neg n2)
  have mN : ∀ b, H b = none → Hm b = none := fun b hb => by
    by_cases h1 : b = Pt
    · rw [h1, hP] at hb
      cases hb
    · by_cases h2 : b = a
      · rw [h2, mA (fun z => h1 (h2.trans z))]
        cases e : ho with
        | none => rfl
        | some u =>
          obtain ⟨_, _, _, u', z, _⟩ := hso u e
          rw [h2, z] at hb
          cases hb
      · exact mO b h1 h2
  have hoP : ∀ u, ho = some u → a ≠ Pt := fun u e => by
    rcases hsc with z | z
    · rw [z] at e
      cases e
    · exact z
  have mS : SqF K Hm a (ns.map V.int) := hsf Hm fun u e => (mA (hoP u e)).trans e
  have mT : ∀ b ps, Hm b = some (.tbl ps) → b = Pt := fun b ps e => by
    by_cases h1 : b = Pt
    · exact h1
    · by_cases h2 : b = a
      · rw [h2, mA (fun z => h1 (h2.trans z))] at e
        obtain ⟨ob, z, _⟩ := hso _ e
        cases z
      · rw [mO b h1 h2] at e
        cases e
  -- where the smaller one tracks, the larger one does
  have mB : ∀ b u, Hm b = some u → ∃ u', H b = some u' := fun b u e => by
    cases z : H b with
    | none =>
      rw [mN b z] at e
      cases e
    | some u' => exact ⟨u', rfl⟩
  have okm : HOk P w Hm s.heap := fun b u e => by
    by_cases h1 : b = Pt
    · rw [h1, mP] at e
      cases e
      rw [h1]
      exact e0.hok Pt _ hP
    · by_cases h2 : b = a
      · rw [h2, mA (fun z => h1 (h2.trans z))] at e
        obtain ⟨ob, rfl, z, _⟩ := hso _ e
        rw [h2]
        exact z
      · rw [mO b h1 h2] at e
        cases e
  have em : Env0 P w K mg base A outer s Hm := ⟨e0.frames, e0.mod, fun b o e => ⟨(e0.bs b o e).1, mN b (e0.bs b o e).2⟩, e0.bsz, e0.funs, fun b hb => mN b (e0.frf b hb), okm, e0.bare⟩
  have run := F.run A outer s Hm args us [.ref a] (fun v _ => ∀ H'', Q v H'') (fun _ _ _ => False) hr em hb r ⟨rfl, a, ns, d, rfl, mS, mP, mT, hm, fun v H' hv H'' => q v H' H'' hv⟩
  refine codeAny_mono run fun res s' hres => ?_
  cases res with
  | error e =>
    obtain ⟨_, _, _, _, _, _, _, _, _, _, _, _, z⟩ := hres
    exact z.elim
  | ok fl =>
    cases fl with
    | next => exact hres
    | brk => exact hres
    | cont => exact hres
    | ret u =>
      obtain ⟨v, H', os, bare, un, hok, rv, hq⟩ := hres
      -- what was tracked and is not in the smaller one is as before
      let Hn : Hp := fun b => if b ≠ Pt ∧ (∃ o, H b = some o) then H b else H' b
      have nOld : ∀ b o, b ≠ Pt → H b = some o → Hn b = some o := fun b o n e => (if_pos ⟨n, o, e⟩).trans e
      have nPt : Hn Pt = H' Pt := if_neg fun z => z.1 rfl
      have nNew : ∀ b, H b = none → Hn b = H' b := fun b e => if_neg fun z => by
        obtain ⟨_, o, z⟩ := z
        rw [e] at z
        cases z
      have gone : ∀ b, b ≠ Pt → b ≠ a → (∃ o, H b = some o) → H' b = none := fun b n1 n2 ⟨o, e⟩ => by
        obtain ⟨ob, hob⟩ := objOk_get (e0.hok b o e)
        exact un.free b ob hob (mO b n1 n2) (by simp)
      have kept : ∀ b ob, b ≠ Pt → (∃ o, H b = some o) → s.heap.get? b = some ob → s'.heap.get? b = some ob := fun b ob n1 ⟨o, e⟩ hob => by
        by_cases h2 : b = a
        · cases eh : ho with
          | none =>
            refine un.keep b ob hob ?_ (fun z => ?_) (by simp)
            · rw [h2, mA (h2 ▸ n1), eh]
            · rw [e0.frf b z] at e
              cases e
          | some u =>
            obtain ⟨ob2, rfl, ⟨z1, _⟩, _⟩ := hso u eh
            have z3 := un.frzs a ob2 _ ((mA (h2 ▸ n1)).trans eh)
            obtain ⟨z4, _⟩ := hok a _ z3
            rw [h2] at hob ⊢
            rw [z1] at hob
            cases hob
            exact z4
        · exact un.keep b ob hob (mO b n1 h2) (fun z => by rw [e0.frf b z] at e; cases e) (by simp)
      refine ⟨v, Hn, os, bare, ⟨fun b o e n f x => un.keep b o e (mN b n) f x, fun b o e n f x => un.slot b o e (mN b n) f x, fun b o e n x => ?_, un.there, fun b xs e => ?_, fun b o u e => ?_, fun b ps e => ?_⟩, fun b u e => ?_, rv, hq _⟩
      · rw [nNew b n]
        exact un.free b o e (mN b n) x
      · exact nOld b _ (fun z => by rw [z, hP] at e; cases e) e
      · exact nOld b _ (fun z => by rw [z, hP] at e; cases e) e
      · by_cases h1 : b = Pt
        · rw [h1, hP] at e
          cases e
          rw [h1, nPt]
          exact un.tbls Pt _ mP
        · exact ⟨#[], by rw [nOld b _ h1 e]; simp⟩
      · by_cases h1 : b ≠ Pt ∧ ∃ o, H b = some o
        · have e1 : H b = some u := (if_pos h1).symm.trans e
          refine (e0.hok b u e1).stay (fun c ob hc hob => ?_) (fun c hc => ?_) fun c xs hc => ?_
          · refine kept c ob (fun z => ?_) ?_ hob
            · rcases hc with hc | hc
              · exact h1.1 (hc.symm.trans z)
              · rw [z, hP] at hc
                cases hc
            · rcases hc with hc | hc
              · rw [hc]
                exact h1.2
              · exact ⟨_, hc⟩
          · exact nOld c _ (fun z => by rw [z, hP] at hc; cases hc) hc
          · exact nOld c _ (fun z => by rw [z, hP] at hc; cases hc) hc
        · have e1 : H' b = some u := (if_neg h1).symm.trans e
          have same : ∀ c o, H' c = some o → (∀ ps, o ≠ .tbl ps) → (∀ ob y, o ≠ .frz ob y) → Hn c = some o := fun c o hc n1 n2 => by
            by_cases hcP : c = Pt
            · rw [hcP, nPt, ← hcP]
              exact hc
            · by_cases hH : ∃ o, H c = some o
              · exfalso
                by_cases hca : c = a
                · cases eh : ho with
                  | none =>
                    obtain ⟨o2, hH⟩ := hH
                    obtain ⟨ob, hob⟩ := objOk_get (e0.hok c o2 hH)
                    have z := un.free c ob hob (by rw [hca, mA (hca ▸ hcP), eh]) (by simp)
                    rw [z] at hc
                    cases hc
                  | some y =>
                    obtain ⟨ob2, rfl, _⟩ := hso y eh
                    have z := un.frzs a ob2 _ ((mA (hca ▸ hcP)).trans eh)
                    rw [hca, z] at hc
                    cases hc
                    exact n2 _ _ rfl
                · rw [gone c hcP hca hH] at hc
                  cases hc
              · rw [nNew c (by
                  cases z : H c with
                  | none => rfl
                  | some o => exact absurd ⟨o, z⟩ hH)]
                exact hc
          refine (hok b u e1).stay (fun c ob _ hob => hob) (fun c hc => same c _ hc (fun _ z => nomatch z) fun _ _ z => nomatch z) fun c xs hc => same c _ hc (fun _ z => nomatch z) fun _ _ z => nomatch z
end
end DL
namespace DL
open PySem PySem.Spec PyProof.Rows L2
section
variable {P : Program} {w : World} {K : PySem.W.Frag} {mg : Str → Option Value} {base : Heap} {n qual q : Str} {st : Stmt} {f Pt : Addr} {N : List Str} {k : Nat} {x : Str} {cdv : Value}
/-- the body of a law whose lambdas' code objects stand in the table at Pt -/
abbrev BodyOkLT (P : Program) (w : World) (K : PySem.W.Frag) (mg : Str → Option Value) (base : Heap) (N : List Str) (qual : Str) (st : Stmt) (f : Addr) (cdv : Value) (Pt : Addr) (q : Str) (k : Nat) (F : FS) : Prop :=
  ∀ (C : Fr) (A : Around) (outer : List Env) (s : Shared) (H : Hp) (E : XK), C.K = K → C.tw = none → C.T = [(Pt, q)] → LawFr C → Room k (A.deeper (PyProof.Rows.envOfC qual (defScope st) s.heap.objs.size f cdv)) →
    PSs (cxOf (L2.CX P w) P w K mg base N qual (defScope st) f cdv A outer s H E).nox (defBody st) (tS C F)
theorem fnLT {F : FS} {oc kV doc pm ct : Value} {od an : Option Addr} {osl : Array (Option Value)} (lk : K.lookup f = some ⟨oc, od, .func (PySem.W.fnOf n qual (defArgs st) (defBody st) (defScope st) .none kV doc pm an cdv ct), osl⟩) (hcd : PySem.W.codeIn K cdv qual = true) (S : FnScope N [x] (defScope st))
    (hb : BodyOkLT P w K mg base N qual st f cdv Pt q k F) : FnOk P w K mg base (L2.CX P w) (k + 1) f (PySem.W.fnOf n qual (defArgs st) (defBody st) (defScope st) .none kV doc pm an cdv ct) [x] (spLT K Pt (runL N.length F)) := by
  refine fn_of lk hcd S (fun vs H Q E h => h.1) fun A outer s H vs Q E hr h => ?_
  obtain ⟨hl, a, ns, d, rfl, hs, hP, hT, hm, hq⟩ := h
  let C : Fr := ⟨K, fun b => b = Pt, fun b => b = Pt, H, none, [(Pt, q)], fun _ _ _ => False, clsOf mg⟩
  have L : LawFr C := ⟨fun b e => ⟨q, by rw [show b = Pt from e]; exact List.mem_singleton.mpr rfl⟩, fun b e => e, fun b ps e => hT b ps e⟩
  refine ⟨_, (hb C A outer s H E rfl rfl rfl L hr).nox, ?_⟩
  unfold runL at hm
  cases e1 : F (pad N.length [.s ns]) with
  | none => simp [e1] at hm
  | some o =>
    cases e2 : outD o with
    | none => simp [e1, e2] at hm
    | some q2 =>
      obtain ⟨d2, ρ2⟩ := q2
      simp [e1, e2] at hm
      subst hm
      have tbl : ∀ b, b = Pt → (∃ o, H b = some o) ∧ ∃ o, H b = some o ∧ Mv o := fun b e => by
        rw [e]
        exact ⟨⟨_, hP⟩, _, hP, .inr ⟨_, rfl⟩⟩
      refine ⟨_, [], [], o, AllD.nil, ⟨fun _ => [], fun p hp => ⟨fun i z => (by cases z), fun o z => (by cases z), ?_⟩, pad_len rfl, fun b o _ e => e, tbl, fun i j b z => (by cases z), fun i b z => (by cases z), List.nodup_nil, fun i b z => (by cases z), fun b o z => (by cases z), tbl, fun i b e => ?_, fun _ _ => rfl, fun p z => (by cases z)⟩, e1, ?_⟩
      · rw [List.mem_singleton.mp hp]
        exact LamX.TabS.nil hP
      · have e1 := pad_at e
        match i, e1 with
        | 0, e1 =>
          cases e1
          refine ⟨.ref a, start_at rfl, rfl, a, rfl, ?_⟩
          rcases hs with ⟨u, hs⟩ | hs
          · refine .inl ⟨u, msk_of (fun z => ?_) hs⟩
            rcases z with z | ⟨i, z⟩ | ⟨w, z⟩
            · rw [show a = Pt from z, hP] at hs
              cases hs
            · cases z
            · cases z
          · exact .inr hs
        | i + 1, e1 => simp at e1
      · cases o with
        | next ρ' =>
          cases e2
          exact fun σ' H' S' => hq .non H' .non
        | ret d3 ρ' =>
          cases e2
          exact fun v σ' H' S' => hq v H' S'.here
        | brk ρ' => cases e2
        | cont ρ' => cases e2
        | exc x => cases e2
end
/-- the end of a law with lambdas -/
theorem walk_tab {l : PySem.W.OpenLaw} {n k : Nat} {qq : Program} {loose : List Str} {XP : (Str → Option Value) → Heap → Prop} {YP : World → Heap → Prop} {d : DefRec} {K : Params → PySem.W.Frag} {m : List Int → Option D} {x : Str}
    (hn : l.most = some n) (hn2 : n ≤ sizeLine) (hdf : d.params.defaults = []) (hr : Room k callerA) (hY : ∀ (w : World) (h : Heap), YP w h → (K w.params).In h) (hfind : (recsOf qq).find? (fun e => e.name == d.name) = some d)
    (F : ∀ (w : World) (mg : Str → Option Value) (fa : Addr) (h : Heap), (K w.params).In h → h.Ns mainGlobals mg → mg d.name = some (.ref fa) →
      ∃ (fd : FuncData) (c Pt : Addr), (∀ (s : Shared) (u : Value), BindsTo s fd ⟨[u], []⟩ [(x, u)]) ∧ PySem.W.tabIn (K w.params) d.name = some (c, Pt) ∧ (K w.params).lookup Pt = none ∧
        ∀ base : Heap, (K w.params).In base → base.Ns mainGlobals mg → LamX.TabB base mg c Pt → FnOk l.prog w (K w.params) mg base (L2.CX l.prog w) k fa fd [x] (spLA (K w.params) Pt m))
    (hm : ∀ ns : List Int, ns.length ≤ n → m ns = some (.bool true)) :
    PySem.W.WalkO qq loose XP YP l.row.toRowW d [] (fun f vs => PySem.call f vs) := by
  refine Att.attach_callB hn hdf fun w s0 s1 mg mb fa o pm cd doc a vs ns G Y ho hd hcd hmg hobj hints hlen hbits hg => ?_
  have KX := hY w _ Y
  obtain ⟨fd, c, Pt, hb, ht, hk, hF⟩ := F w mg fa _ KX G.T.g hmg
  obtain ⟨h1, h2⟩ := PySem.W.tab_of G.T KX hfind ht
  refine LamX.law_callTs (cs := [(c, Pt)]) (sp := spLA (K w.params) Pt m) KX G.T.g G.T.b G.T.builtins G.T.nolimit hg (fun p hp => ?_) (fun p hp => ?_) (fun p hp => ?_) G.T.bmain hobj hints (Nat.le_trans hlen hn2) hr (fun base b1 b2 b3 => hF base b1 b2 (b3 _ List.mem_cons_self)) hb (fun H hH hS => ?_) fun H e s' z => ?_
  · rw [List.mem_singleton.mp hp]
    exact h2
  · rw [List.mem_singleton.mp hp]
    exact hk
  · rw [List.mem_singleton.mp hp]
    exact h1
  · exact ⟨rfl, a, ns, .bool true, rfl, hS, hH _ List.mem_cons_self, hm ns hlen, fun v H' H'' hv => hv.bool_inv⟩
  · obtain ⟨_, _, _, _, _, _, _, _, _, _, _, _, z⟩ := z
    exact z
end DL
namespace DL
open PySem PySem.Spec PyProof.Rows L2
/-- the law's own _law_heard, and what it gives -/
structure Hear (K : PySem.W.Frag) (mg : Str → Option Value) (st : Stmt) (Ng : List Str) : Prop where
  ex : ∃ g fd, mg "_law_heard" = some (.ref g) ∧ Fun K "_law_heard" "_law_heard" st g fd ∧ Binds K fd ["deed"] []
  sc : FnScope Ng ["deed"] (defScope st)
  n0 : Ng[0]? = some ("deed" : Str)
  v0 : Vis (defScope st) "deed"
  gi : ∀ (X : Cx) (g : Addr) (cdv : Value) (q : Str), X.K = K → X.mg = mg → Room 1 X.A → LamX.GivesTo X Ng "_law_heard" (defScope st) g cdv (defBody st) "deed" q (TTh K (clsOf mg))
section
variable {X : Cx} {C : Fr}
/-- the table of the def that makes lambdas -/
structure TabX (X : Cx) (C : Fr) : Prop where
  L : LawFr C
  ex : ∃ c Pt, LamX.TabB X.base X.mg c Pt ∧ X.env.code = .ref c ∧ C.T = [(Pt, X.env.qual ++ "<lambda>")]
/-- _law_heard(lambda: f(..)) -/
theorem de_heard {st : Stmt} {Ng : List Str} {params : Arguments} {body : Expr} {scope : Scope} {g : FR} {k : Nat} {p lpos pos : Pos} (hK : C.K = X.K) (hT : TabX X C) (Hd : Hear X.K X.mg st Ng) (hr : Room (k + 2) X.A) (hg : Gl X "_law_heard") (Ls : LamX.LamS X.env.scope scope) (hdef : defaultsOf params X.env = ([], []))
    (hbind : ∀ (q : Str) (cl : List (Str × Addr)) (pm cv ctv : Value), PySem.bindArgs (PySem.W.kla_fn "<lambda>" q params body scope cl pm cv ctv) ⟨[], []⟩ = pure [])
    (hbody : ∀ (A : Around) (outer : List Env) (s : Shared) (H : Hp) (E : XK) (f c' : Addr), Room k (A.deeper (LamX.lamEnv X scope s.heap.objs.size f c')) → PE (LamX.lamCx X A outer s H E scope f c') body (tEX (C.wx E (clsOf X.mg)) g)) :
    PE X (.Call (.Name "_law_heard" p) [.Lambda params body scope lpos] [] pos) (tE C (eHeard g)) := by
  obtain ⟨c, Pt, TB, hcode, eT⟩ := hT.ex
  obtain ⟨ga, fd, hm, Fn, hb⟩ := Hd.ex
  obtain ⟨oc, od, kV, doc, pm, an, cdv, ct, osl, rfl, lk, hcd⟩ := Fn.ex
  have z := LamX.pe_lamcall (T := C.T) (TT := TTh X.K (clsOf X.mg)) (t := fun E => tEX (C.wx E (clsOf X.mg)) g) (p := p) (lpos := lpos) (pos := pos) hg hm Fn.kp lk hcd hb Hd.sc Hd.n0 Hd.v0 (Hd.gi X ga cdv _ rfl rfl (hr.mono (by omega))) TB hcode (by rw [eT]; exact List.mem_singleton.mpr rfl)
    (fun q hq _ => by rw [eT] at hq; rw [List.mem_singleton.mp hq]) hr Ls hdef hbind hbody
  exact z.dl fun σ H Q h => by
    have y := imp_heard (clm := clsOf X.mg) hT.L h
    rw [hK] at y
    exact y
end
end DL
namespace DL
open PySem PySem.Spec PyProof.Rows L2
section
variable {C : Fr} {X : Cx} {σ : L2.St} {H H' : Hp} {ρ ρ' : Rho} {τ : List (V × R)} {an : List (Addr × HO)}
/-! ### a call with keywords that may raise -/
theorem imp_cXK {cl : Str → Option Addr} {n j : Nat} {m : List D → Option RD} {fa fk : FA} {Q : VK} (hcl : C.cl = cl) (hj : ∀ ρ rs ρ', fa ρ = some (rs, ρ') → rs.length = j) (h : tEX C (cX n m (aApp fa fk)) σ H Q) : tCallK (spX C.K cl n m) (gpos V j) C.xe (tA C fa) (tA C fk) σ H Q := by
  obtain ⟨ρ, τ, an, r, ρ', S, e, q, qx⟩ := h
  unfold cX at e
  cases e1 : aApp fa fk ρ with
  | none => simp [e1] at e
  | some p =>
    obtain ⟨rs, ρ1⟩ := p
    obtain ⟨as, ρ2, bs, h1, h2, rfl⟩ := aApp_inv e1
    simp only [e1, Option.bind_some] at e
    split at e
    · rename_i hn
      cases e2 : rdos ρ1 (as ++ bs) with
      | none => simp [e2] at e
      | some ds =>
        cases e3 : m ds with
        | none => simp [e2, e3] at e
        | some d =>
          simp [e2, e3] at e
          obtain ⟨rfl, rfl⟩ := e
          refine ⟨ρ, τ, an, as, ρ2, S, h1, fun vs H1 hl S1 => ⟨ρ2, _, an, bs, _, S1, h2, fun zs H2 hl2 S2 => ?_⟩⟩
          have ej : gpos V j vs zs = vs ++ zs := if_pos (by rw [hl]; exact hj _ _ _ h1)
          have hz : (vs ++ zs).zip (as ++ bs) = vs.zip as ++ zs.zip bs := List.zip_append hl
          refine ⟨by rw [ej, List.length_append, hl, hl2, ← List.length_append]; exact hn, ds, d, ?_, e3, fun d' e v H' k hd => q d' e v H' ?_, fun x e cls dd H' k hx => qx x e cls dd H' ?_ (hcl ▸ hx)⟩
          · rw [ej]
            refine rdos_ok S2 (by rw [List.length_append, List.length_append, hl, hl2]) (fun p hp => ?_) e2
            rw [hz] at hp
            rcases List.mem_append.mp hp with hp | hp
            · exact List.mem_append_right _ (List.mem_append_left _ hp)
            · exact List.mem_append_left _ hp
          · exact (S2.result k hd).keepN fun p hp => List.mem_append_right _ (List.mem_append_right _ hp)
          · exact (S2.grow k).sub fun p hp => List.mem_append_right _ (List.mem_append_right _ hp)
    · cases e
theorem dx_callKD {cl : Str → Option Addr} {k n j : Nat} {g x : Str} {st : Stmt} {ps ks : List Str} {m : List D → Option RD} {p pos : Pos} {e : Expr} {es : List Expr} {fa fk : FA} {kws : List Keyword} (hK : C.K = X.K) (hcl : C.cl = cl) (tk : Takes X (fun cls d _ H => C.xe cls d H))
    (F : Def X.prog X.w X.K X.mg X.base k g x st ps (spX X.K cl n m)) (hr : Room k X.A) (hg : Gl X g) (hb : KwOk x st ps ks j)
    (ha : PA X (e :: es) (tA C fa)) (hkw : PK X kws (tA C fk)) (hj : ∀ ρ rs ρ', fa ρ = some (rs, ρ') → rs.length = j) (hall : (backToKw pos (keywordEach kws X.env)).all (·.1.isSome) = true := by rfl) (hks : (backToKw pos (keywordEach kws X.env)).filterMap (·.1) = ks := by rfl)
    (hdb : (g == ("__debug__" : Str)) = false := by decide) (he : starEach (e :: es) X.env = (false, eval e X.env) :: starEach es X.env := by rfl)
    (hpl : ((backTo pos (starEach (e :: es) X.env)).any (·.1) || (backToKw pos (keywordEach kws X.env)).any (·.1.isNone)) = false := by rfl) :
    PE X (.Call (.Name g p) (e :: es) kws pos) (tEX C (cX n m (aApp fa fk))) := by
  obtain ⟨f, fd, h1, h2, h3⟩ := F.ex
  exact (pe_callK h1 hr hg h2 h3.kp (kb_of h3 hb) (passes_call tk fun _ _ _ _ h => h) ha hkw hall hks hdb he hpl).dl fun σ H Q h => by
    have z := imp_cXK hcl hj h
    rw [hK] at z
    exact z
/-! ### a list of one times an int -/
def mulL : D → D → Option D
  | .list [x], .int k => if 0 ≤ k ∧ k ≤ 1000 then some (.list (List.replicate k.toNat x)) else none
  | _, _ => none
theorem flat_rep {α : Type} (w : α) : ∀ n : Nat, (List.replicate n [w]).flatten = List.replicate n w
  | 0 => rfl
  | n + 1 => by simp [List.replicate_succ, flat_rep w n]
theorem op_mulLG (hK : C.K = X.K) : OpR X (binaryOp .Mult) (rG C (op2 mulL)) := by
  intro pins s σ H x y v u Q I rx ry h
  obtain ⟨σ', ρ, τ, an, a, b, z, S, g, q⟩ := h
  obtain ⟨dx, dy, dz, h1, h2, h3, rfl⟩ := op2_inv g
  have n2 := S.res List.mem_cons_self h2
  unfold mulL at h3
  split at h3
  · rename_i d k
    split at h3
    · rename_i hk
      cases h3
      obtain ⟨a1, vs, rfl, t1, l1, S1⟩ := S.items (List.mem_cons_of_mem _ List.mem_cons_self) h1
      obtain ⟨w, rfl⟩ : ∃ w, vs = [w] := by
        match vs, l1 with
        | [w], _ => exact ⟨w, rfl⟩
      refine op_rep pins s σ H _ _ v u Q I rx ry ⟨a1, k, [w], rfl, n2.int_inv, t1, by omega, by omega, by rw [sizeLine_eq]; simp; omega, fun p hp => ?_⟩
      rw [flat_rep]
      refine q _ _ ((S1.nlst (vs := List.replicate k.toNat w) (xs := List.replicate k.toNat d) (by simp) (fun i v' x' a b => ?_) hp).keepN fun p hp => ?_)
      · have e1 := List.eq_of_mem_replicate (List.mem_of_getElem? a)
        have e2 := List.eq_of_mem_replicate (List.mem_of_getElem? b)
        subst e1
        subst e2
        exact List.mem_append_left _ List.mem_cons_self
      · exact List.mem_append_right _ (List.mem_cons_of_mem _ (List.mem_cons_of_mem _ hp))
    · cases h3
  · cases h3
/-! ### own dicts: d.get(k) -/
def eMGt (i : Nat) (fk : FE) : FE := fun ρ => (mAt i ρ).bind fun _ => match fk ρ with
  | some (.d (.str k), ρ2) => (mAt i ρ2).map fun kvs => (.d ((lkp kvs k).getD .none), ρ2)
  | _ => none
theorem mnone : ∀ {vs : List (Key × V)} {kvs : List (Str × D)} {k : Str}, vs.map (·.1) = keysT kvs → lkp kvs k = none → valV vs (Sum.inr k) = none
  | [], [], _, _, _ => valV_nil
  | [], _ :: _, _, h, _ => by simp at h
  | _ :: _, [], _, h, _ => by simp at h
  | (k1, w) :: vs, (k2, d2) :: kvs, k, h, e => by
    have h1 : k1 = Sum.inr k2 ∧ vs.map (·.1) = keysT kvs := by simpa using h
    obtain ⟨rfl, h2⟩ := h1
    unfold lkp at e
    by_cases hk : k2 = k
    · rw [if_pos hk] at e
      cases e
    · rw [if_neg hk] at e
      rw [valV_neg (fun z => hk (Sum.inr.inj z))]
      exact mnone h2 e
theorem imp_eMGt {i : Nat} {fk : FE} {Q : VK} (h : tE C (eMGt i fk) σ H Q) : tDGet1 (tVar i) (tE C fk) σ H Q := by
  obtain ⟨ρ, τ, an, r, ρ', S, e, q⟩ := h
  unfold eMGt at e
  cases e0 : mAt i ρ with
  | none => simp [e0] at e
  | some kv0 =>
    simp only [e0, Option.bind_some] at e
    split at e
    · rename_i k ρ2 e2
      cases e1 : mAt i ρ2 with
      | none => simp [e1] at e
      | some kvs =>
        simp [e1] at e
        obtain ⟨rfl, rfl⟩ := e
        obtain ⟨w0, hw0⟩ := slotB S (mAt_inv e0)
        obtain ⟨a0, vs0, rfl, g00, _⟩ := S.ownDict (mAt_inv e0) hw0
        refine ⟨.ref a0, hw0, a0, rfl, .inl ⟨vs0, .inl g00⟩, ρ, τ, an, _, ρ2, S, e2, fun v H2 S2 => ?_⟩
        have ev := S2.here.str_inv
        subst ev
        obtain ⟨a, vs, ea, g0, hk, S3⟩ := S2.ownDict (mAt_inv e1) hw0
        cases ea
        cases e3 : lkp kvs k with
        | none =>
          refine ⟨none, .inl ⟨vs, Sum.inr k, .inl g0, rfl, (mnone hk e3).symm⟩, ?_⟩
          rw [e3] at q
          exact q .non H2 ((S2.pop).push fun _ _ => .non)
        | some d =>
          obtain ⟨w, g1, g2⟩ := mget hk e3
          refine ⟨some w, .inl ⟨vs, Sum.inr k, .inl g0, rfl, g1.symm⟩, ?_⟩
          rw [e3] at q
          exact q w H2 ((S3.part (v := w) (x := d) (List.mem_append_left _ g2) fun _ h => h).keepN fun p hp => List.mem_append_right _ (List.mem_cons_of_mem _ hp))
    · cases e
theorem de_mgt {i : Nat} {n : Str} {b : Expr} {fk : FE} {p apos cpos : Pos} (hu : X.A.units + 1 < cLine) (ha : PE X (.Name n p) (tVar i)) (hb : PE X b (tE C fk)) (m : M1 X (.Name n p) "get" apos b cpos := by exact ⟨rfl, rfl, rfl, rfl⟩) : PE X (.Call (.Attribute (.Name n p) "get" apos) [b] [] cpos) (tE C (eMGt i fk)) :=
  (pe_dget1 hu ha hb m).dl fun _ _ _ h => imp_eMGt h
end
end DL
namespace DL
open PySem PySem.Spec PyProof.Rows L2
section
variable {C : Fr} {X : Cx} {σ : L2.St} {H H' : Hp} {ρ ρ' : Rho} {τ : List (V × R)} {an : List (Addr × HO)}
/-! ### own dicts: d == {} -/
def rEmp : R2 := fun x y H Q => ∃ (a b : Addr) (ks : List (Key × V)), x = .ref a ∧ y = .ref b ∧ H a = some (.dK ks) ∧ H b = some (.dK []) ∧ Q (.bl ks.isEmpty) H
theorem op_emp (hu : X.A.units < cLine) : OpR X (compareOp .Eq) rEmp := by
  intro pins s σ H x y v u Q I rx ry h
  obtain ⟨a, b, ks, rfl, rfl, ea, eb, q⟩ := h
  cases ks with
  | nil => exact op_eq_dictA hu pins s σ H _ _ v u Q I rx ry ⟨a, b, [], [], rfl, rfl, ea, eb, rfl, fun p hp => (by cases hp), q⟩
  | cons k ks =>
    obtain rfl : v = Value.ref a := rx
    obtain rfl : u = Value.ref b := ry
    obtain ⟨_, ya, va, ra, da⟩ := (show ObjOk X.prog X.w H s.heap a (.dK (k :: ks)) from I.hok a _ ea)
    obtain ⟨_, yb, vb, rb, db⟩ := (show ObjOk X.prog X.w H s.heap b (.dK []) from I.hok b _ eb)
    have l1 := Paired.length ra
    have l2 := Paired.length rb
    have hl : ¬ va.length = vb.length := by
      rw [← l1, ← l2]
      simp
    exact PySem.W.keq_eq (knd := mixKind X.prog X.w) (r := true) ya yb da db hu (fun z => absurd z hl) (fin_bl I q (by simp [hl]))
def eMEmp (i : Nat) : FE := fun ρ => (mAt i ρ).map fun kvs => (.d (.bool kvs.isEmpty), ρ)
theorem imp_emp {i : Nat} {Q : VK} (h : tE C (eMEmp i) σ H Q) : tOp rEmp (tVar i) tDNewK σ H Q := by
  obtain ⟨ρ, τ, an, r, ρ', S, e, q⟩ := h
  unfold eMEmp at e
  cases e0 : mAt i ρ with
  | none => simp [e0] at e
  | some kvs =>
    simp [e0] at e
    obtain ⟨rfl, rfl⟩ := e
    obtain ⟨w0, hw0⟩ := slotB S (mAt_inv e0)
    obtain ⟨a, vs, rfl, g0, hk, S3⟩ := S.ownDict (mAt_inv e0) hw0
    refine ⟨.ref a, hw0, fun p hp => ⟨a, p, vs, rfl, rfl, ?_, upd_same, ?_⟩⟩
    · rw [upd_ne (ne_of_none g0 hp)]
      exact g0
    · have el : vs.isEmpty = kvs.isEmpty := by
        have := congrArg List.length hk
        simp at this
        cases vs <;> cases kvs <;> simp at this ⊢
      rw [el]
      exact q _ _ ((S.grow (Le.new hp)).push fun _ _ => .bl _)
theorem de_memp {i : Nat} {n : Str} {p dp pos : Pos} (hu : X.A.units < cLine) (ha : PE X (.Name n p) (tVar i)) : PE X (.Compare (.Name n p) [.Eq] [.Dict [] [] dp] pos) (tE C (eMEmp i)) := (pe_cmpR (op_emp hu) ha pe_dnewK rfl).dl fun _ _ _ h => imp_emp h
/-! ### k in d -/
def eMIn (i : Nat) (fk : FE) : FE := fun ρ => match fk ρ with
  | some (.d (.str k), ρ2) => (mAt i ρ2).map fun kvs => (.d (.bool (lkp kvs k).isSome), ρ2)
  | _ => none
theorem imp_eMIn {i : Nat} {fk : FE} {Q : VK} (h : tE C (eMIn i fk) σ H Q) : tDIn (tE C fk) (tVar i) σ H Q := by
  obtain ⟨ρ, τ, an, r, ρ', S, e, q⟩ := h
  unfold eMIn at e
  split at e
  · rename_i k ρ2 e2
    cases e1 : mAt i ρ2 with
    | none => simp [e1] at e
    | some kvs =>
      simp [e1] at e
      obtain ⟨rfl, rfl⟩ := e
      refine ⟨ρ, τ, an, _, ρ2, S, e2, fun v H2 S2 => ?_⟩
      have ev := S2.here.str_inv
      subst ev
      obtain ⟨w0, hw0⟩ := slotB S2 (mAt_inv e1)
      obtain ⟨a, vs, rfl, g0, hk, S3⟩ := S2.ownDict (mAt_inv e1) hw0
      refine ⟨.ref a, hw0, a, valV vs (Sum.inr k), rfl, .inl ⟨vs, Sum.inr k, .inl g0, rfl, rfl⟩, ?_⟩
      have ei : (valV vs (Sum.inr k)).isSome = (lkp kvs k).isSome := by
        cases e3 : lkp kvs k with
        | none => rw [mnone hk e3]; rfl
        | some d =>
          obtain ⟨w, g1, _⟩ := mget hk e3
          rw [g1]
          rfl
      rw [ei]
      exact q _ H2 (S2.pop.push fun _ _ => .bl _)
  · cases e
theorem de_min {i : Nat} {n : Str} {b : Expr} {fk : FE} {p pos : Pos} (hu : X.A.units + 1 < cLine) (ha : PE X (.Name n p) (tVar i)) (hb : PE X b (tE C fk)) : PE X (.Compare b [.In] [.Name n p] pos) (tE C (eMIn i fk)) := (pe_cmp (pc_din hu hb ha)).dl fun _ _ _ h => imp_eMIn h
theorem dt_min {i : Nat} {n : Str} {b : Expr} {fk : FE} {p pos : Pos} (hu : X.A.units + 1 < cLine) (ha : PE X (.Name n p) (tVar i)) (hb : PE X b (tE C fk)) : PT X (.Compare b [.In] [.Name n p] pos) (tT C (toT (eMIn i fk))) := (pt_cmp (pc_din hu hb ha)).dl fun _ _ _ h => imp_eMIn (imp_test h)
end
end DL
namespace DL
open PySem PySem.Spec PyProof.Rows L2
/-! ### sorted(a list of data) -/
def headB : D → Bool
  | .tuple (_ :: _) => true
  | _ => false
def plainB : D → Bool
  | .none => false
  | .tuple _ => false
  | _ => true
def sortOk (xs : List D) : Bool := (xs.all fun d => xs.all fun e => PySem.W.alike d e) && ((xs.all headB) || (xs.all plainB)) && decide (PyData.depthAll xs ≤ 60) && decide (xs.length ≤ sizeLine)
def sorts (xs : List D) : List D := xs.mergeSort (PySem.W.dataLe false id)
def sortD : D → Option (List D)
  | .list xs => if sortOk xs = true then some (sorts xs) else none
  | _ => none
theorem sortOk_inv {xs : List D} (h : sortOk xs = true) : PySem.W.AllAlike (xs.map id) ∧ PySem.W.Sortable (xs.map id) ∧ PyData.depthAll xs ≤ 60 ∧ xs.length ≤ sizeLine := by
  unfold sortOk at h
  simp only [Bool.and_eq_true, Bool.or_eq_true, List.all_eq_true, decide_eq_true_eq] at h
  obtain ⟨⟨⟨h1, h2⟩, h3⟩, h4⟩ := h
  rw [List.map_id]
  refine ⟨fun d hd e he => h1 d hd e he, ?_, h3, h4⟩
  rcases h2 with h2 | h2
  · refine .inl fun d hd => ?_
    have := h2 d hd
    unfold headB at this
    split at this
    · exact ⟨_, _, rfl⟩
    · cases this
  · refine .inr fun d hd => ?_
    have := h2 d hd
    unfold plainB at this
    split at this
    · cases this
    · cases this
    · rename_i a b
      exact ⟨a, b⟩
theorem each_vals {vs : List V} {xs : List D} : ∀ {us : List Value} {ws : List V} {zs : List D}, Vals ws us → ws.length = zs.length → (∀ p ∈ tz ws zs, p ∈ tz vs xs) → PySem.W.EachIs (fun u d => ∃ w, RelV w u ∧ (w, R.d d) ∈ tz vs xs) us zs
  | _, _, [], .nil, _, _ => .nil
  | _, _, _ :: _, .nil, h, _ => by simp at h
  | _, _, [], .cons _ _, h, _ => by simp at h
  | _, _, z :: zs, .cons r t, h, k => .cons ⟨_, r, k _ (by simp [tz])⟩ (each_vals t (by simpa using h) fun p hp => k p (by simp only [tz, List.map_cons, List.zip_cons_cons]; exact List.mem_cons_of_mem _ hp))
theorem vals_each {vs : List V} {xs : List D} : ∀ {us : List Value} {zs : List D}, PySem.W.EachIs (fun u d => ∃ w, RelV w u ∧ (w, R.d d) ∈ tz vs xs) us zs → ∃ ws, Vals ws us ∧ ws.length = zs.length ∧ ∀ p ∈ tz ws zs, p ∈ tz vs xs
  | _, _, .nil => ⟨[], .nil, rfl, fun p hp => (by simp at hp)⟩
  | _, _, .cons ⟨w, r, k⟩ t => by
    obtain ⟨ws, h1, h2, h3⟩ := vals_each t
    refine ⟨w :: ws, .cons r h1, by simp [h2], fun p hp => ?_⟩
    simp only [tz, List.map_cons, List.zip_cons_cons] at hp
    rcases List.mem_cons.mp hp with e | hp
    · rw [e]
      exact k
    · exact h3 p hp
theorem each_reads {h : Heap} : ∀ {us : List Value} {zs : List D} {as : List Addr}, ReadsAll h us zs as → PySem.W.EachIs (fun v b => ∃ as, Reads h v (id b) as) us zs
  | _, _, _, .nil => .nil
  | _, _, _, .cons r t => .cons ⟨_, r⟩ (each_reads t)
theorem depth_mem : ∀ {xs : List D} {d : D}, d ∈ xs → d.depth ≤ PyData.depthAll xs
  | x :: xs, d, h => by
    simp only [PyData.depthAll]
    rcases List.mem_cons.mp h with rfl | h
    · omega
    · have := depth_mem h
      omega
section
variable {C : Fr} {X : Cx}
theorem cr_sortG (hK : C.K = X.K) (hu : X.A.units + 64 < cLine) : CallR X (.builtin "sorted") (rF1 C sortD) := by
  intro pins s σ H xs us Q I r h
  obtain ⟨σ', ρ, τ, an, x, a, y, zs, rfl, S, h1, h2, q⟩ := h
  unfold sortD at h2
  split at h2
  · rename_i ds
    split at h2
    · rename_i hok
      cases h2
      obtain ⟨o1, o2, o3, o4⟩ := sortOk_inv hok
      have n1 := S.res List.mem_cons_self h1
      rw [hK] at n1
      obtain ⟨a1, vs, rfl, t1, l1, S1⟩ := S.items List.mem_cons_self h1
      cases r with
      | cons rx rt =>
        cases rt
        cases rx
        obtain ⟨as, r2⟩ := n1.reads I (show RelV (.ref a1) (.ref a1) from rfl)
        obtain ⟨its, rv, ⟨ob, n, g1, g2, g3, g4⟩, hlen⟩ := I.list (Or.inl (Or.inl t1))
        obtain ⟨as2, h6⟩ : ∃ as2, ReadsAll s.heap its ds as2 := by
          cases r2 with
          | list e1 e2 e3 e4 =>
            rw [g1] at e1
            cases e1
            rw [g4] at e3
            cases e3
            exact ⟨_, e4⟩
        refine PySem.W.sorted_data (enc := id) (bs := ds) (vs := its) (R := fun u d => ∃ w, RelV w u ∧ (w, R.d d) ∈ tz vs ds) ⟨ob, g1, g2, n, g4⟩ (each_vals rv l1 fun p hp => hp) (each_reads h6) o1 o2 o4 (fun d hd => by have := depth_mem hd; show X.A.units + 2 + d.depth < cLine; omega) fun out lo eo => ?_
        obtain ⟨ws, w1, w2, w3⟩ := vals_each eo
        obtain ⟨ep, he'⟩ := PyProof.Rows.sortedAll_at s.heap its out.toArray
        have hn : H (s.heap.objs.size + 1) = none := I.hok.fresh (Nat.le_succ _)
        refine ⟨.ref _, upd H (s.heap.objs.size + 1) (.lst ws), I.laid (t' := s.toks) (fun _ _ => PyProof.Rows.sortedAll_old) (Nat.le_succ _) ⟨?_, out, ep, w1, he'⟩, rfl, q _ ws _ ?_ ?_⟩
        · rw [w2, List.length_mergeSort]
          exact o4
        · exact w2
        · refine (S1.fresh (o := .lst ws) hn trivial).sub fun p hp => ?_
          rcases List.mem_append.mp hp with hp | hp
          · exact List.mem_append_left _ (w3 p hp)
          · exact List.mem_append_right _ (List.mem_cons_of_mem _ hp)
    · cases h2
  · cases h2
theorem df_callB {f : Str} {p pos : Pos} {e : Expr} {T : String} {fe : FE} {g : D → Option (List D)} (hc : CallR X (.builtin T) (rF1 C g)) (hg : Gl X f) (hm : X.mg f = none) (hv : bootBuiltins f = some (.builtin T)) (ha : PE X e (tE C fe)) (hn : f ≠ "__name__" := by decide) (hdb : (f == ("__debug__" : Str)) = false := by decide)
    (he : starEach [e] X.env = (false, eval e X.env) :: starEach [] X.env := by rfl) (hpl : (backTo pos (starEach [] X.env)).any (·.1) = false := by rfl) : PE X (.Call (.Name f p) [e] [] pos) (tF C (fB g fe)) :=
  (pe_callB hc hg hm hv (da_cons ha da_nil he) hn hdb he hpl).dl fun _ _ _ h => imp_F1 h
end
end DL
namespace DL
open PySem L2

/-! ### dict(zip(a, b)), over lists and tuples -/
section
variable {prog : Program} {w : World} {A : Around} {E : Value → Shared → Prop} {s : Shared} {z TI TO i1 i2 T : Addr} {f : Bool} {oT : Obj} {fp1 fp2 : List Addr} {n1 n2 i : Nat} {P1 P2 : Nat → Value → Prop} {St1 St2 : Nat → Heap → Prop}
theorem zh_item {Q : Value → Shared → Prop} (S : ZipSep2 z TI TO i1 i2 fp1 fp2) (D1 : Draws prog w A i1 fp1 n1 P1 St1) (D2 : Draws prog w A i2 fp2 n2 P2 St2) (hz : IsZipHeld s.heap z TI TO T f) (hT : s.heap.get? T = some oT) (hTI : IsTupOf2 s.heap TI (.ref i1) (.ref i2)) (st1 : St1 i s.heap) (st2 : St2 i s.heap) (l1 : i < n1) (l2 : i < n2)
    (hQ : ∀ x1 x2 h' tk, P1 i x1 → P2 i x2 → IsZipHeld h' z TI TO T true → St1 (i + 1) h' → St2 (i + 1) h' → IsTupOf2 h' s.heap.objs.size x1 x2 → h'.objs.size = s.heap.objs.size + 1 → (∀ c o, c ≠ z → c ≠ i1 → c ≠ i2 → s.heap.get? c = some o → h'.get? c = some o) → Q (.ref s.heap.objs.size) { s with heap := h', toks := tk }) :
    wpAny (model prog w) A (Builtin.«zip.__next__» ⟨[.ref z], []⟩) (fun fin s' => ∃ v, fin = .done (.ret v) ∧ Q v s') E s := by
  obtain ⟨hp, g, d, tk0, os⟩ := s
  show wpAny (model prog w) A (field (.ref z) 2 >>= _) _ E _
  refine wpAny_bind (wpAny_field hz rfl (x := .bool false) rfl ?_)
  show wpAny (model prog w) A (field (.ref z) 3 >>= _) _ E _
  refine wpAny_bind (wpAny_field hz rfl (x := .ref TI) rfl (wpAny_bind (wpAny_seqItems hTI rfl ?_)))
  show wpAny (model prog w) A (Builtin.SmallTypes.ownedTupleIsFree (.ref z) >>= _) _ E _
  refine wpAny_bind (wpAny_tupleHeld_zip hz hT fun g0 z0 k0 => ?_)
  replace k0 : Heap.SameBut z hp g0 := k0
  simp only [Bool.false_eq_true, if_false]
  refine wpAny_bind ?_
  rw [← Array.forIn_toList]
  simp only [List.forIn_cons, List.forIn_nil]
  refine wpAny_bind (wpAny_bind (wpAny_holding ?_))
  show wpAny (model prog w) A (Builtin.SmallTypes.nextOf (.ref i1) >>= _) _ E ⟨g0, g, d, tk0, os⟩
  refine wpAny_bind (D1.item i _ _ _ l1 (D1.over st1 k0 S.zf1) fun x1 g1 tk1 hx1 sn1 k1 => wpAny_pure (wpAny_pure ?_))
  replace k1 : Heap.SameBut i1 g0 g1 := k1
  refine wpAny_bind (wpAny_bind (wpAny_holding ?_))
  show wpAny (model prog w) A (Builtin.SmallTypes.nextOf (.ref i2) >>= _) _ E ⟨g1, g, d, tk1, os⟩
  refine wpAny_bind (D2.item i _ _ _ l2 (D2.over (D2.over st2 k0 S.zf2) k1 S.sep1_2) fun x2 g2 tk2 hx2 sn2 k2 => wpAny_pure (wpAny_pure (wpAny_pure ?_)))
  replace k2 : Heap.SameBut i2 g1 g2 := k2
  show wpAny (model prog w) A (newTuple [x1, x2] >>= _) _ E ⟨g2, g, d, tk2, os⟩
  refine wpAny_bind (wpAny_newTuple (wpAny_pure ⟨_, rfl, ?_⟩))
  have hsz : g2.objs.size = hp.objs.size := by rw [k2.1, k1.1, k0.1]
  have z2 : IsZipHeld g2 z TI TO T true := k2.extBut _ _ S.zi2 (k1.extBut _ _ S.zi1 z0)
  have kk : ∀ c o, c ≠ z → c ≠ i1 → c ≠ i2 → hp.get? c = some o → g2.get? c = some o := fun c o c1 c2 c3 e => k2.extBut _ _ c3 (k1.extBut _ _ c2 (k0.extBut _ _ c1 e))
  have s2 : St1 (i + 1) g2 := D1.over sn1 k2 S.sep2_1
  show Q (.ref g2.objs.size) _
  have ht : IsTupOf2 (g2.push { cls := .type "tuple", data := .seq #[x1, x2] }) g2.objs.size x1 x2 := Heap.get?_push_size _ rfl
  have hs : (g2.push { cls := .type "tuple", data := .seq #[x1, x2] }).objs.size = g2.objs.size + 1 := Heap.size_push ..
  rw [hsz] at ht hs ⊢
  exact hQ x1 x2 _ tk2 hx1 hx2 (Heap.get?_push_of_some _ z2) (D1.frame _ _ _ s2 fun b _ o e => Heap.get?_push_of_some _ e) (D2.frame _ _ _ sn2 fun b _ o e => Heap.get?_push_of_some _ e) ht hs fun c o c1 c2 c3 e => Heap.get?_push_of_some _ (kk c o c1 c2 c3 e)
theorem zh_end {Q : Fin → Shared → Prop} (S : ZipSep2 z TI TO i1 i2 fp1 fp2) (D1 : Draws prog w A i1 fp1 n1 P1 St1) (D2 : Draws prog w A i2 fp2 n2 P2 St2) (hz : IsZipHeld s.heap z TI TO T f) (hT : s.heap.get? T = some oT) (hTI : IsTupOf2 s.heap TI (.ref i1) (.ref i2)) (st1 : St1 i s.heap) (st2 : St2 i s.heap) (l1 : i ≤ n1) (l2 : i ≤ n2) (hend : i = n1 ∨ i = n2)
    (hE : ∀ h' tk e, (∀ c o, c ≠ z → c ≠ i1 → c ≠ i2 → s.heap.get? c = some o → h'.get? c = some o) → (∃ o, h'.get? e = some o ∧ o.cls = .type "StopIteration") → E (.ref e) { s with heap := h', toks := tk }) :
    wpAny (model prog w) A (Builtin.«zip.__next__» ⟨[.ref z], []⟩) Q E s := by
  obtain ⟨hp, g, d, tk0, os⟩ := s
  show wpAny (model prog w) A (field (.ref z) 2 >>= _) _ E _
  refine wpAny_bind (wpAny_field hz rfl (x := .bool false) rfl ?_)
  show wpAny (model prog w) A (field (.ref z) 3 >>= _) _ E _
  refine wpAny_bind (wpAny_field hz rfl (x := .ref TI) rfl (wpAny_bind (wpAny_seqItems hTI rfl ?_)))
  show wpAny (model prog w) A (Builtin.SmallTypes.ownedTupleIsFree (.ref z) >>= _) _ E _
  refine wpAny_bind (wpAny_tupleHeld_zip hz hT fun g0 z0 k0 => ?_)
  replace k0 : Heap.SameBut z hp g0 := k0
  simp only [Bool.false_eq_true, if_false]
  refine wpAny_bind ?_
  rw [← Array.forIn_toList]
  simp only [List.forIn_cons, List.forIn_nil]
  refine wpAny_bind (wpAny_bind (wpAny_holding ?_))
  show wpAny (model prog w) A (Builtin.SmallTypes.nextOf (.ref i1) >>= _) _ E ⟨g0, g, d, tk0, os⟩
  by_cases q1 : i < n1
  · have q2 : i = n2 := by omega
    refine wpAny_bind (D1.item i _ _ _ q1 (D1.over st1 k0 S.zf1) fun x1 g1 tk1 hx1 sn1 k1 => wpAny_pure (wpAny_pure ?_))
    replace k1 : Heap.SameBut i1 g0 g1 := k1
    refine wpAny_bind (wpAny_bind (wpAny_holding ?_))
    show wpAny (model prog w) A (Builtin.SmallTypes.nextOf (.ref i2) >>= _) _ E ⟨g1, g, d, tk1, os⟩
    refine wpAny_bind (D2.done _ _ _ (q2 ▸ D2.over (D2.over st2 k0 S.zf2) k1 S.sep1_2) fun g2 e k2 he => ?_)
    exact hE g2 tk1 e (fun c o c1 c2 c3 x => k2 _ _ c3 (k1.extBut _ _ c2 (k0.extBut _ _ c1 x))) he
  · have q2 : i = n1 := by omega
    refine wpAny_bind (D1.done ⟨g0, g, d, tk0, os⟩ _ _ (by rw [← q2]; exact D1.over st1 k0 S.zf1) fun g1 e k1 he => ?_)
    exact hE g1 tk0 e (fun c o c1 c2 c3 x => k1 _ _ c2 (k0.extBut _ _ c1 x)) he
theorem zn_item {Q : Option Value → Shared → Prop} (S : ZipSep2 z TI TO i1 i2 fp1 fp2) (D1 : Draws prog w A.in1 i1 fp1 n1 P1 St1) (D2 : Draws prog w A.in1 i2 fp2 n2 P2 St2) (hz : IsZipHeld s.heap z TI TO T f) (hT : s.heap.get? T = some oT) (hTI : IsTupOf2 s.heap TI (.ref i1) (.ref i2)) (st1 : St1 i s.heap) (st2 : St2 i s.heap) (l1 : i < n1) (l2 : i < n2)
    (hQ : ∀ x1 x2 h' tk, P1 i x1 → P2 i x2 → IsZipHeld h' z TI TO T true → St1 (i + 1) h' → St2 (i + 1) h' → IsTupOf2 h' s.heap.objs.size x1 x2 → (∀ c o, c ≠ z → c ≠ i1 → c ≠ i2 → s.heap.get? c = some o → h'.get? c = some o) → Q (some (.ref s.heap.objs.size)) { s with heap := h', toks := tk }) :
    wpAny (model prog w) A (pyNext (.ref z)) Q E s := by
  have ty : s.TypeIs (.ref z) "zip" := ⟨_, hz, rfl⟩
  unfold pyNext
  exact wpAny_bind (wpAny_attempt (wpAny_callSpecial?_slot (name := Str.ofString "__next__") ty F.slot_zip_next (wpAny_call_entry F.slot_zip_next ty F.entry_zip_next
      (zh_item S D1 D2 hz hT hTI st1 st2 l1 l2 fun x1 x2 h' tk y1 y2 b1 d1 d2 b5 _ b7 => wpAny_pure (hQ x1 x2 h' tk y1 y2 b1 d1 d2 b5 b7)) (F.args_zip_next_1 _))))
theorem zn_end {Q : Option Value → Shared → Prop} (S : ZipSep2 z TI TO i1 i2 fp1 fp2) (D1 : Draws prog w A.in1 i1 fp1 n1 P1 St1) (D2 : Draws prog w A.in1 i2 fp2 n2 P2 St2) (hz : IsZipHeld s.heap z TI TO T f) (hT : s.heap.get? T = some oT) (hTI : IsTupOf2 s.heap TI (.ref i1) (.ref i2)) (st1 : St1 i s.heap) (st2 : St2 i s.heap) (l1 : i ≤ n1) (l2 : i ≤ n2) (hend : i = n1 ∨ i = n2)
    (hQ : ∀ h' tk, (∀ c o, c ≠ z → c ≠ i1 → c ≠ i2 → s.heap.get? c = some o → h'.get? c = some o) → Q none { s with heap := h', toks := tk }) : wpAny (model prog w) A (pyNext (.ref z)) Q E s := by
  have ty : s.TypeIs (.ref z) "zip" := ⟨_, hz, rfl⟩
  unfold pyNext
  refine wpAny_bind (wpAny_attempt (wpAny_callSpecial?_slot (name := Str.ofString "__next__") ty F.slot_zip_next (wpAny_call_entry F.slot_zip_next ty F.entry_zip_next (zh_end S D1 D2 hz hT hTI st1 st2 l1 l2 hend fun h' tk e hk he => ?_) (F.args_zip_next_1 _))))
  obtain ⟨o, ho, hc⟩ := he
  exact wpAny_bind (wpAny_isInstance (T := "StopIteration") (b := true) ⟨o, ho, hc⟩ isSubtype_stop (wpAny_pure (hQ _ _ hk)))
end
theorem Src.cmove {q : Src} {its : Array Value} {h h' : Heap} (c : q.cont its h) (k : ∀ o, h.get? q.at = some o → h'.get? q.at = some o) : q.cont its h' := by
  cases q with
  | lst a => exact Heap.IsList.at c k
  | tup a => exact Heap.IsTuple.at c k
theorem Src.cobj {q : Src} {its : Array Value} {h : Heap} (c : q.cont its h) : ∃ o, h.get? q.at = some o := by
  cases q with
  | lst a => exact let ⟨o, e, _⟩ := c; ⟨o, e⟩
  | tup a => exact let ⟨o, e, _⟩ := c; ⟨o, e⟩
/-- a zip of two sources, not yet begun -/
theorem Src.pairs {prog : Program} {w : World} (p q : Src) (z TI TO i1 i2 : Addr) (S : ZipSep2 z TI TO i1 i2 [i1, p.at] [i2, q.at]) (n1 : p.at ≠ i1) (n2 : q.at ≠ i2) (xs ys : Array Value) :
    PairArg prog w "zip" z [z, TI, TO, i1, i2, p.at, q.at] [z, TO, i1, i2] (min xs.size ys.size) (fun i k v => xs[i]? = some k ∧ ys[i]? = some v)
      (fun h => IsZip h z TI TO .none ∧ IsTupOf2 h TI (.ref i1) (.ref i2) ∧ (∃ a b, IsTupOf2 h TO a b) ∧ (p.iter i1 0 h ∧ p.cont xs h) ∧ (q.iter i2 0 h ∧ q.cont ys h)) where
  type := fun s ok => ⟨_, ok.1, rfl⟩
  notDict := by decide
  keep := fun h h' ⟨hz, hTI, ⟨a, b, hTO⟩, ⟨s1, c1⟩, s2, c2⟩ hk =>
    ⟨hk _ _ hz, hk _ _ hTI, ⟨a, b, hk _ _ hTO⟩, ⟨Src.imove s1 fun o e => hk _ _ e, Src.cmove c1 fun o e => hk _ _ e⟩, Src.imove s2 fun o e => hk _ _ e, Src.cmove c2 fun o e => hk _ _ e⟩
  there := fun h ⟨hz, hTI, ⟨a, c, hTO⟩, ⟨s1, c1⟩, s2, c2⟩ b hb => by
    obtain ⟨o1, j1, _⟩ := (Src.iobj s1)
    obtain ⟨o2, j2, _⟩ := (Src.iobj s2)
    simp only [List.mem_cons, List.not_mem_nil, or_false] at hb
    rcases hb with rfl | rfl | rfl | rfl | rfl | rfl | rfl
    all_goals first | exact ⟨_, hz⟩ | exact ⟨_, hTI⟩ | exact ⟨_, hTO⟩ | exact ⟨_, j1⟩ | exact ⟨_, j2⟩ | exact Src.cobj c1 | exact Src.cobj c2
  sub := fun b hb => by
    simp only [List.mem_cons, List.not_mem_nil, or_false] at hb ⊢
    rcases hb with h | h | h | h <;> simp [h]
  noKeys := fun A s Q E hA ok h => getAttrOr_miss_zip ok.1 rfl rfl rfl zip_no_keys (by decide +kernel) hA h
  iter := fun A s d Q E hA ok hd hdf h => by
    obtain ⟨hz, hTI, ⟨a, b, hTO⟩, s1, s2⟩ := ok
    simp only [List.mem_cons, List.not_mem_nil, or_false, not_or] at hdf
    obtain ⟨dz, dTI, dTO, di1, di2, dl1, dl2⟩ := hdf
    have hA' : A.in1.handled = none := hA
    have D1 := p.draws (prog := prog) (w := w) hA' i1 n1 xs
    have D2 := q.draws (prog := prog) (w := w) hA' i2 n2 ys
    refine wpAny_pyIter_zip hz (h z [z, TO, i1, i2] (fun i h => IsTupOf2 h TI (.ref i1) (.ref i2) ∧ (p.iter i1 i h ∧ p.cont xs h) ∧ (q.iter i2 i h ∧ q.cont ys h) ∧
      ((IsZip h z TI TO .none ∧ ∃ a b, IsTupOf2 h TO a b) ∨ ∃ T f oT, IsZipHeld h z TI TO T f ∧ h.get? T = some oT ∧ T ≠ z ∧ T ≠ i1 ∧ T ≠ i2 ∧ T ≠ d)) s.heap s.toks ?_
      ⟨hTI, s1, s2, .inl ⟨hz, a, b, hTO⟩⟩ (fun _ _ e => e) fun b hb => .inl hb)
    have TIp : TI ≠ i1 ∧ TI ≠ i2 := ⟨S.TIi1, S.TIi2⟩
    exact {
      off := fun hm => by
        simp only [List.mem_cons, List.not_mem_nil, or_false] at hm
        rcases hm with e | e | e | e
        all_goals first | exact dz e | exact dTO e | exact di1 e | exact di2 e
      frame := fun i h₁ h₂ ⟨hTI, ⟨a1, c1⟩, ⟨a2, c2⟩, hz⟩ hk => by
        refine ⟨hk _ _ (Ne.symm dTI) hTI, ⟨Src.imove a1 fun o e => hk _ o (Ne.symm di1) e, Src.cmove c1 fun o e => hk _ o (Ne.symm dl1) e⟩, ⟨Src.imove a2 fun o e => hk _ o (Ne.symm di2) e, Src.cmove c2 fun o e => hk _ o (Ne.symm dl2) e⟩, ?_⟩
        rcases hz with ⟨hz, a, b, hTO⟩ | ⟨T, f, oT, hz, hT, r1, r2, r3, r4⟩
        · exact .inl ⟨hk z _ (Ne.symm dz) hz, a, b, hk TO _ (Ne.symm dTO) hTO⟩
        · exact .inr ⟨T, f, oT, hk z _ (Ne.symm dz) hz, hk T _ r4 hT, r1, r2, r3, r4⟩
      item := fun i s₁ Q₁ E₁ hi ⟨hTI, a1, a2, hz⟩ hds hQ => by
        have ix : i < xs.size := by omega
        have iy : i < ys.size := by omega
        have lt : ∀ {c o}, s₁.heap.get? c = some o → s₁.heap.objs.size ≠ c := fun e => Nat.ne_of_gt (Heap.lt_size e)
        have m1 : s₁.heap.objs.size ≠ i1 := let ⟨_, e, _⟩ := (Src.iobj a1.1); lt e
        have m2 : s₁.heap.objs.size ≠ i2 := let ⟨_, e, _⟩ := (Src.iobj a2.1); lt e
        rcases hz with ⟨hz, a, b, hTO⟩ | ⟨T, f, oT, hz, hT, r1, r2, r3, r4⟩
        · refine wpAny_pyNext_zipD2_item S D1 D2 hz hTI hTO a1 a2 ix iy fun x1 x2 h' tk e1 e2 b1 b2 b3 b4 b5 _ hk => ?_
          exact hQ s₁.heap.objs.size _ _ h' tk ⟨e1, e2⟩ (.inl ⟨_, b5, rfl, _, rfl⟩) ⟨hk _ _ S.TIz S.TITO S.TIi1 S.TIi2 hTI, b3, b4, .inr ⟨s₁.heap.objs.size, false, _, b1, b5, lt hz, m1, m2, Nat.ne_of_gt hds⟩⟩
            fun c o hc e => hk c o (fun x => hc (by simp [x])) (fun x => hc (by simp [x])) (fun x => hc (by simp [x])) (fun x => hc (by simp [x])) e
        · refine zn_item S D1 D2 hz hT hTI a1 a2 ix iy fun x1 x2 h' tk e1 e2 b1 b3 b4 b5 hk => ?_
          exact hQ s₁.heap.objs.size _ _ h' tk ⟨e1, e2⟩ (.inl ⟨_, b5, rfl, _, rfl⟩) ⟨hk _ _ S.TIz S.TIi1 S.TIi2 hTI, b3, b4, .inr ⟨T, true, oT, b1, hk _ _ r1 r2 r3 hT, r1, r2, r3, r4⟩⟩
            fun c o hc e => hk c o (fun x => hc (by simp [x])) (fun x => hc (by simp [x])) (fun x => hc (by simp [x])) e
      done := fun s₁ Q₁ E₁ ⟨hTI, a1, a2, hz⟩ hQ => by
        have hend : min xs.size ys.size = xs.size ∨ min xs.size ys.size = ys.size := by omega
        rcases hz with ⟨hz, a, b, hTO⟩ | ⟨T, f, oT, hz, hT, r1, r2, r3, r4⟩
        · exact wpAny_pyNext_zipD2_end S D1 D2 hz hTI hTO a1 a2 (Nat.min_le_left ..) (Nat.min_le_right ..) hend fun h' tk hk => hQ h' tk fun c o hc e => hk c o (fun x => hc (by simp [x])) (fun x => hc (by simp [x])) (fun x => hc (by simp [x])) (fun x => hc (by simp [x])) e
        · exact zn_end S D1 D2 hz hT hTI a1 a2 (Nat.min_le_left ..) (Nat.min_le_right ..) hend fun h' tk hk => hQ h' tk fun c o hc e => hk c o (fun x => hc (by simp [x])) (fun x => hc (by simp [x])) (fun x => hc (by simp [x])) e }
end DL
namespace DL
open PySem L2
section
variable {C : Fr} {X : Cx} {σ : L2.St} {H : Hp} {ρ ρ' : Rho} {τ : List (V × R)} {an : List (Addr × HO)}
def strsD : List D → Option (List Str)
  | [] => some []
  | .str k :: xs => (strsD xs).map fun ks => k :: ks
  | _ :: _ => none
theorem strsD_inv : ∀ {xs : List D} {ks : List Str}, strsD xs = some ks → xs = ks.map PyData.str
  | [], ks, h => by
    cases h
    rfl
  | x :: xs, ks, h => by
    unfold strsD at h
    split at h
    · rename_i e
      cases e
    · rename_i k ys e
      injection e with e1 e2
      subst e2
      cases e3 : strsD xs with
      | none => simp [e3] at h
      | some ws =>
        simp [e3] at h
        subst h
        rw [e1, strsD_inv e3]
        rfl
    · cases h
/-- dict(zip(a, b)): texts, as many others at least -/
def mDZ (f g : FE) : FM := fun ρ => (f ρ).bind fun p => (out1 p.1 p.2).bind fun a => (g a.2).bind fun q => (out1 q.1 q.2).bind fun b => (seqD a.1).bind fun xs => (seqD b.1).bind fun ys => (strsD xs).bind fun ks => if ks.Nodup ∧ ks.length ≤ sizeLine ∧ ks.length ≤ ys.length then some (ks.zip ys, b.2) else none
theorem kv_zipT : ∀ {ks : List Str} {ws : List V} {us : List Value}, Vals ws us → KV ((ks.map Sum.inr).zip ws) ((ks.map (Sum.inr : Str → Key)).zip us)
  | [], _, _, _ => .nil
  | _ :: _, [], _, .nil => .nil
  | k :: ks, w :: ws, _, .cons r t => .cons ⟨rfl, r⟩ (kv_zipT t)
theorem strs_are : ∀ {as : List V} {ks : List Str}, as.length = ks.length → (∀ (i : Nat) v k, as[i]? = some v → ks[i]? = some k → v = V.str k) → as = ks.map V.str
  | [], [], _, _ => rfl
  | [], _ :: _, h, _ => by simp at h
  | _ :: _, [], h, _ => by simp at h
  | a :: as, k :: ks, h, q => by
    have t : as = ks.map V.str := strs_are (by simpa using h) fun i v k e1 e2 => q (i + 1) v k (by simpa using e1) (by simpa using e2)
    rw [q 0 a k rfl rfl, t]
    rfl
theorem dm_dzip {e1 e2 : Expr} {f g : FE} {p p2 pos pos2 : Pos} (hK : C.K = X.K) (hc : X.calm = true) (hgd : Gl X "dict") (hmd : X.mg "dict" = none) (hg : Gl X "zip") (hm : X.mg "zip" = none) (h1 : PE X e1 (tE C f)) (h2 : PE X e2 (tE C g))
    (hs : starEach [e1, e2] X.env = (false, eval e1 X.env) :: starEach [e2] X.env := by rfl) (hs2 : starEach [e2] X.env = (false, eval e2 X.env) :: starEach [] X.env := by rfl) (hpl : (backTo pos2 (starEach [e2] X.env)).any (·.1) = false := by rfl)
    (hs3 : starEach [.Call (.Name "zip" p2) [e1, e2] [] pos2] X.env = (false, eval (.Call (.Name "zip" p2) [e1, e2] [] pos2) X.env) :: starEach [] X.env := by rfl) (hpl3 : (backTo pos (starEach [] X.env)).any (·.1) = false := by rfl) :
    PE X (.Call (.Name "dict" p) [.Call (.Name "zip" p2) [e1, e2] [] pos2] [] pos) (tM C (mDZ f g)) := by
  refine ⟨fun pins s σ H Q I h => ?_⟩
  obtain ⟨ρ, τ, an, kvs, ρ', S, e0, k⟩ := h
  unfold mDZ at e0
  cases z1 : f ρ with
  | none => simp [z1] at e0
  | some p1 =>
  obtain ⟨r1, ρ1⟩ := p1
  cases z2 : out1 r1 ρ1 with
  | none => simp [z1, z2] at e0
  | some q1 =>
  obtain ⟨d1, ρ2⟩ := q1
  cases z3 : g ρ2 with
  | none => simp [z1, z2, z3] at e0
  | some p3 =>
  obtain ⟨r3, ρ3⟩ := p3
  cases z4 : out1 r3 ρ3 with
  | none => simp [z1, z2, z3, z4] at e0
  | some q4 =>
  obtain ⟨d2, ρ4⟩ := q4
  cases z5 : seqD d1 with
  | none => simp [z1, z2, z3, z4, z5] at e0
  | some xs =>
  cases z6 : seqD d2 with
  | none => simp [z1, z2, z3, z4, z5, z6] at e0
  | some ys =>
  cases z7 : strsD xs with
  | none => simp [z1, z2, z3, z4, z5, z6, z7] at e0
  | some ks =>
  simp only [z1, z2, z3, z4, z5, z6, z7, Option.bind_some] at e0
  split at e0
  case isFalse => cases e0
  case isTrue hn =>
  obtain ⟨hn, hz, hl⟩ := hn
  cases e0
  have ex := strsD_inv z7
  subst ex
  have ha : PA X [e1, e2] (tCons (tE C f) (tCons (tE C g) tNil)) := pa_cons h1 (pa_cons h2 pa_nil hs2) hs
  have start : tCons (tE C f) (tCons (tE C g) tNil) σ H (fun us H1 => ∃ v1 v2, us = [v1, v2] ∧ SD C σ H1 ρ' ((v2, .d d2) :: (v1, .d d1) :: τ) an) :=
    ⟨ρ, τ, an, r1, ρ1, S, z1, fun v1 H1 S1 => ⟨ρ2, _, an, r3, ρ3, out1_ok S1 z2, z3, fun v2 H2 S2 => ⟨v1, v2, rfl, out1_ok S2 z4⟩⟩⟩
  refine PyProof.Rows.Call_ (ld_blt I hgd hmd PyProof.Rows.boot_dict (PyProof.Rows.callWith_type1 ?_ hs3 hpl3))
  rw [hs3]
  refine Calls.spliced_cons (PyProof.Rows.Call_ (ld_blt I hg hm PyProof.Rows.boot_zip (PyProof.Rows.callWith_type1 (thn (ha.run pos2 pins s σ H _ I start) fun us s1 w => ?_) hs hpl)))
  obtain ⟨vs, H1, I1, rv, v1, v2, rfl, S1⟩ := w
  obtain ⟨q, rfl, ok2⟩ := srcOk_of z6 S1
  obtain ⟨p', rfl, ok1⟩ := srcOk_of z5 S1.pop
  obtain ⟨u1, u2, rfl, rv1, rv2⟩ := Vals.two rv
  cases rv1
  cases rv2
  obtain ⟨as, m1, l1, T1⟩ := ok1.see S1 (List.mem_cons_of_mem _ List.mem_cons_self)
  obtain ⟨bs, m2, l2, T2⟩ := ok2.see S1 List.mem_cons_self
  rw [hK] at m1 m2
  obtain ⟨us1, t1, c1, lt1⟩ := Src.see I1 m1
  obtain ⟨us2, t2, c2, lt2⟩ := Src.see I1 m2
  have ea : as = ks.map V.str := strs_are (by simpa using l1) fun i v k e1 e2 => by
    obtain ⟨fp, s'⟩ := T1
    exact (show Dn C.K _ v (.str k) from s'.tmp (v, R.d (.str k)) (List.mem_append_left _ (mem_tz (i := i) e1 (by simp [e2])))).str_inv
  subst ea
  refine zip_begins2 (p'.begins us1.toArray) (q.begins us2.toArray) c1 c2 fun h' hz' hTI hTO g1 g2 hsz hk => ?_
  have I2 : L2.Inv X pins σ H1 { s1 with heap := h' } := I1.kept (t' := s1.toks) hk
  have sep := zip_sep2 (N := s1.heap.objs.size) (fp1 := [p'.at]) (fp2 := [q.at]) (fun b hb => by rw [List.mem_singleton.mp hb]; exact lt1) (fun b hb => by rw [List.mem_singleton.mp hb]; exact lt2)
  have lt2' : q.at < s1.heap.objs.size + 1 := Nat.lt_succ_of_lt lt2
  refine Calls.spliced_nil ?_
  have lu1 : us1.length = ks.length := by
    have := t1.length
    simp at this
    omega
  have lu2 : us2.length = ys.length := by
    have := t2.length
    omega
  have PA := Src.pairs (prog := X.prog) (w := X.w) p' q _ _ _ _ _ sep (Nat.ne_of_lt lt1) (Nat.ne_of_lt lt2') us1.toArray us2.toArray
  have hmin : min us1.toArray.size us2.toArray.size = ks.length := by simp; omega
  rw [hmin] at PA
  have PH : PairsHave (mixKind X.prog X.w) ks.length (fun i k v => us1.toArray[i]? = some k ∧ us2.toArray[i]? = some v) ((ks.map (Sum.inr : Str → Key)).zip us2) := by
    refine ⟨by simp; omega, fun i key v ⟨e1, e2⟩ => ?_⟩
    have e1' : us1[i]? = some key := by simpa using e1
    have e2' : us2[i]? = some v := by simpa using e2
    obtain ⟨w, h1, h2⟩ := vals_at t1 e1'
    rw [List.getElem?_map] at h1
    cases h3 : ks[i]? with
    | none => simp [h3] at h1
    | some k0 =>
      simp [h3] at h1
      subst h1
      refine ⟨Sum.inr k0, ?_, kV_is (P := X.prog) (w := X.w) (k := Sum.inr k0) h2⟩
      rw [List.getElem?_zip_eq_some]
      exact ⟨by simp [h3], e2'⟩
  refine PySem.call_dict_pairs PA (I2.ok.hd hc) ⟨hz', hTI, ⟨_, _, hTO⟩, ⟨Src.start g1, ?_⟩, Src.start g2, ?_⟩ PH hz fun h2 tk hd' kk => ?_
  · exact Src.cmove c1 fun o e => hk _ _ e
  · exact Src.cmove c2 fun o e => hk _ _ e
  have nd : (((ks.map (Sum.inr : Str → Key)).zip us2).map (·.1)).Nodup := by
    rw [List.map_fst_zip (by simp; omega)]
    exact List.Pairwise.map _ (fun a b h z => h (by injection z)) hn
  have em := merged_nodup ((ks.map (Sum.inr : Str → Key)).zip us2) [] (by simpa using nd)
  rw [List.nil_append] at em
  rw [em] at hd'
  let vs' : List (Key × V) := (ks.map (Sum.inr : Str → Key)).zip bs
  have lb : bs.length = ys.length := l2
  have e1 : vs'.map (·.1) = keysT (ks.zip ys) := by
    show ((ks.map (Sum.inr : Str → Key)).zip bs).map (·.1) = (ks.zip ys).map fun p => Sum.inr p.1
    have z : (ks.zip ys).map (fun p => (Sum.inr p.1 : Key)) = ((ks.zip ys).map (·.1)).map Sum.inr := by rw [List.map_map]; rfl
    rw [List.map_fst_zip (by simp; omega), z, List.map_fst_zip (by omega)]
  have lv : vs'.length = ks.length := by simp [vs']; omega
  have big : s1.heap.objs.size ≤ h'.objs.size := by omega
  have hm' : (h'.objs.size == sysModules) = false := beq_eq_false_iff_ne.mpr (Nat.ne_of_gt I2.big)
  have k' : ∀ b o, s1.heap.get? b = some o → h2.get? b = some o := fun b o e => kk b o (by
    have lt : b < s1.heap.objs.size := Heap.lt_size e
    simp only [List.mem_cons, List.not_mem_nil, or_false, not_or]
    refine ⟨?_, ?_, ?_, ?_⟩ <;> first | exact Nat.ne_of_lt lt | exact Nat.ne_of_lt (Nat.lt_of_lt_of_le lt (Nat.le_add_right _ _))) (hk _ _ e)
  refine ⟨.ref h'.objs.size, upd H1 h'.objs.size (.dK vs'), I1.laid (t' := tk) k' big (show ObjOk X.prog X.w _ _ _ (.dK vs') from ⟨by rw [lv]; exact hz, hm', _, kv_zipT t2, hd'⟩), rfl, k _ vs' _ e1 ?_⟩
  have S2 : SD C σ H1 ρ' (tzm vs' (ks.zip ys) ++ τ) an := by
    refine T2.sub fun t ht => ?_
    rcases List.mem_append.mp ht with ht | ht
    · obtain ⟨i, w, d, h1, h2, rfl⟩ := of_tz ht
      rw [List.getElem?_map] at h1 h2
      refine List.mem_append_left _ (mem_tz (i := i) ?_ ?_)
      · cases h3 : vs'[i]? with
        | none => simp [h3] at h1
        | some x =>
          have h4 := (List.getElem?_zip_eq_some.mp h3).2
          simp [h3] at h1
          rw [h4, h1]
      · cases h3 : (ks.zip ys)[i]? with
        | none => simp [h3] at h2
        | some x =>
          have h4 := (List.getElem?_zip_eq_some.mp h3).2
          simp [h3] at h2
          rw [h4, h2]
    · exact List.mem_append_right _ (List.mem_cons_of_mem _ (List.mem_cons_of_mem _ ht))
  exact S2.fresh (o := .dK vs') (I1.hok.fresh big) trivial
end
end DL
namespace DL
open PySem PySem.Spec PyProof.Rows L2 L2.DX
/-! ### sorted(d.items()), d a dict of one's own -/
section
variable {C : Fr} {X : Cx} {σ : L2.St} {H : Hp} {ρ ρ' : Rho} {τ : List (V × R)} {an : List (Addr × HO)}
def rItK : V → List V → Hp → VK → Prop := fun x xs H Q => ∃ (a : Addr) (vs : List (Key × V)), x = .ref a ∧ xs = [] ∧ H a = some (.dK vs) ∧ ∀ p, H p = none → Q (.ref p) (upd H p (itemsO p a))
theorem mt_itK : MtR X "dict.items" rItK := by
  intro pins s σ H x xs v us Q I rx rxs h
  obtain ⟨a, vs, rfl, rfl, ha, q⟩ := h
  cases rx
  cases rxs
  obtain ⟨z, hd, ws, rel, o, es, ep, ho, hc, hdat, _⟩ := (show ObjOk X.prog X.w H s.heap a (.dK vs) from I.hok a _ ha)
  refine DT.callItems (es := es) (ep := ep) hd ⟨o, ho, hc, hdat⟩ ⟨.ref s.heap.objs.size, upd H s.heap.objs.size (itemsO s.heap.objs.size a), I.laid (t' := s.toks) (fun b u e => Heap.get?_push_of_some _ e) (Nat.le_refl _) (itemsO_ok (Heap.get?_push_size _ rfl)), rfl, q _ (I.hok.fresh (Nat.le_refl _))⟩
abbrev pairT (p : Str × D) : D := .tuple [.str p.1, p.2]
/-- pairs that were made are taken -/
theorem take_pairs {pins : List (Addr × Obj)} {σ σ' : L2.St} {H0 : Hp} {s : Shared} {h' : Heap} {tk : Nat} (I0 : L2.Inv X pins σ H0 s) : ∀ (as : List Addr) (ws : List V) (kvs : List (Str × D)) (H1 : Hp) (τ : List (V × R)), L2.Inv X pins σ H1 { s with heap := h', toks := tk } → SD C σ' H1 ρ τ an → as.Nodup → as.length = kvs.length → ws.length = kvs.length →
    (∀ a ∈ as, s.heap.objs.size ≤ a ∧ H1 a = none) → (∀ (j : Nat) a k w, as[j]? = some a → (kvs[j]?).map (·.1) = some k → ws[j]? = some w → ∃ x y, RelV (.str k) x ∧ RelV w y ∧ h'.get? a = some { cls := .type "tuple", data := .seq #[x, y] }) →
    (∀ (j : Nat) w d, ws[j]? = some w → (kvs[j]?).map (·.2) = some d → (w, R.d d) ∈ τ) →
    ∃ H2, L2.Inv X pins σ H2 { s with heap := h', toks := tk } ∧ SD C σ' H2 ρ (tz (as.map V.ref) (kvs.map pairT) ++ τ) an ∧ Le H1 H2 ∧ ∀ b, b ∉ as → H1 b = none → H2 b = none
  | [], _, [], H1, τ, I1, S, _, _, _, _, _, _ => ⟨H1, I1, S, fun _ _ e => e, fun _ _ e => e⟩
  | [], _, _ :: _, _, _, _, _, _, h, _, _, _, _ => by simp at h
  | _ :: _, _, [], _, _, _, _, _, h, _, _, _, _ => by simp at h
  | _ :: _, [], _ :: _, _, _, _, _, _, _, h, _, _, _ => by simp at h
  | a :: as, w :: ws, (k, d) :: kvs, H1, τ, I1, S, hn, l1, l2, hb, hp, ht => by
    obtain ⟨b1, b2⟩ := hb a List.mem_cons_self
    obtain ⟨x, y, rx, ry, g⟩ := hp 0 a k w rfl rfl rfl
    rw [List.nodup_cons] at hn
    have I2 : L2.Inv X pins σ (upd H1 a (.frz { cls := .type "tuple", data := .seq #[x, y] } (.tup [.str k, w]))) { s with heap := h', toks := tk } :=
      I1.take (h' := h') (t' := tk) (fun b ob _ e => e) (I0.fpOk b1 b2) ⟨g, (by rw [sizeLine_eq]; simp), [x, y], .cons rx (.cons ry .nil), _, g, rfl, _, rfl⟩
    have S1 : SD C σ' H1 ρ ((.str k, .d (.str k)) :: τ) an := by
      obtain ⟨fp, s0⟩ := S
      refine ⟨fp, s0.tmps fun q hq => ?_⟩
      rcases List.mem_cons.mp hq with rfl | hq
      · exact Dn.str k
      · exact s0.tmp q hq
    have S2 : SD C σ' (upd H1 a (.frz { cls := .type "tuple", data := .seq #[x, y] } (.tup [.str k, w]))) ρ ((.ref a, .d (.tuple [.str k, d])) :: τ) an := by
      refine (S1.ntup (vs := [.str k, w]) (xs := [.str k, d]) (o := { cls := .type "tuple", data := .seq #[x, y] }) rfl (fun i v x e1 e2 => ?_) rfl b2).sub fun t ht => ?_
      · match i with
        | 0 =>
          simp at e1 e2
          rw [← e1, ← e2]
          exact List.mem_cons_self
        | 1 =>
          simp at e1 e2
          rw [← e1, ← e2]
          exact List.mem_cons_of_mem _ (ht 0 w d rfl rfl)
        | i + 2 => simp at e1
      · rcases List.mem_cons.mp ht with h | h
        · rw [h]
          exact List.mem_cons_self
        · exact List.mem_cons_of_mem _ (List.mem_cons_of_mem _ h)
    obtain ⟨H2, I3, S3, k3, n3⟩ := take_pairs I0 as ws kvs _ _ I2 S2 hn.2 (by simpa using l1) (by simpa using l2) (fun c hc => ⟨(hb c (List.mem_cons_of_mem _ hc)).1, by rw [upd_ne (show c ≠ a from fun z => hn.1 (by rw [← z]; exact hc))]; exact (hb c (List.mem_cons_of_mem _ hc)).2⟩)
      (fun j a k w e1 e2 e3 => hp (j + 1) a k w (by simpa using e1) (by simpa using e2) (by simpa using e3)) (fun j w d e1 e2 => List.mem_cons_of_mem _ (ht (j + 1) w d (by simpa using e1) (by simpa using e2)))
    refine ⟨H2, I3, S3.sub fun t h => ?_, fun b o e => k3 _ _ (by rw [upd_ne (ne_of_none e b2)]; exact e), fun b hb' e => n3 b (fun z => hb' (List.mem_cons_of_mem _ z)) (by rw [upd_ne (show b ≠ a from fun z => hb' (by rw [z]; exact List.mem_cons_self))]; exact e)⟩
    rcases List.mem_append.mp h with h | h
    · simp only [tz, List.map_cons, List.zip_cons_cons] at h
      rcases List.mem_cons.mp h with h | h
      · rw [h]
        exact List.mem_append_right _ List.mem_cons_self
      · exact List.mem_append_left _ h
    · exact List.mem_append_right _ (List.mem_cons_of_mem _ h)
end
end DL
namespace DL
open PySem PySem.Spec PySem.W PyProof.Rows L2 L2.DX
section
variable {C : Fr} {X : Cx} {σ : L2.St} {H : Hp} {ρ ρ' : Rho} {τ : List (V × R)} {an : List (Addr × HO)}
def rSI (C : Fr) : List V → Hp → VK → Prop := fun xs H Q => ∃ (σ : L2.St) (ρ : Rho) (τ : List (V × R)) (an : List (Addr × HO)) (p a : Addr) (vs : List (Key × V)) (kvs : List (Str × D)), xs = [.ref p] ∧ H p = some (itemsO p a) ∧ H a = some (.dK vs) ∧ vs.map (·.1) = keysT kvs ∧ SD C σ H ρ (tzm vs kvs ++ τ) an ∧ sortOk (kvs.map pairT) = true ∧
  ∀ l ws H', ws.length = (sorts (kvs.map pairT)).length → SD C σ H' ρ (tz ws (sorts (kvs.map pairT)) ++ τ) ((l, .lst ws) :: an) → Q (.ref l) H'
theorem pairs_at {P : Program} {w : World} : ∀ {es : List DictEntry} {ks : List (Key × Value)}, Pairs (mixKind P w) es ks → es.length = ks.length ∧ ∀ (j : Nat) e, es[j]? = some e → ∃ k, ks[j]? = some (k, e.val) ∧ (mixKind P w).is k e.key = true
  | _, _, .nil => ⟨rfl, fun j e h => by simp at h⟩
  | _, _, .cons (kv := kv) h1 h2 t => by
    obtain ⟨l, q⟩ := pairs_at t
    refine ⟨by simp [l], fun j e h => ?_⟩
    cases j with
    | zero =>
      simp at h
      subst h
      exact ⟨kv.1, by rw [h2]; rfl, h1⟩
    | succ j =>
      obtain ⟨k, q1, q2⟩ := q j e (by simpa using h)
      exact ⟨k, by simpa using q1, q2⟩
theorem kvl_at : ∀ {vs : List (Key × V)} {ws : List (Key × Value)}, KV vs ws → vs.length = ws.length ∧ ∀ (j : Nat) k x, ws[j]? = some (k, x) → ∃ w, vs[j]? = some (k, w) ∧ RelV w x
  | _, _, .nil => ⟨rfl, fun j k x h => by simp at h⟩
  | _, _, .cons (a := p) (b := q) h1 t => by
    obtain ⟨l, g⟩ := kvl_at t
    refine ⟨by simp [l], fun j k x h => ?_⟩
    cases j with
    | zero =>
      simp at h
      refine ⟨p.2, ?_, ?_⟩
      · have := h1.1
        simp [h] at this
        simp [← this]
      · have := h1.2
        simpa [h] using this
    | succ j =>
      obtain ⟨w, g1, g2⟩ := g j k x (by simpa using h)
      exact ⟨w, by simpa using g1, g2⟩
theorem vals_refs : ∀ as : List Addr, Vals (as.map V.ref) (as.map Value.ref)
  | [] => .nil
  | _ :: as => .cons rfl (vals_refs as)
theorem each_of {P : Value → D → Prop} : ∀ {vs : List Value} {ds : List D}, vs.length = ds.length → (∀ (j : Nat) v d, vs[j]? = some v → ds[j]? = some d → P v d) → EachIs P vs ds
  | [], [], _, _ => .nil
  | [], _ :: _, h, _ => by simp at h
  | _ :: _, [], h, _ => by simp at h
  | v :: vs, d :: ds, h, q => .cons (q 0 v d rfl rfl) (each_of (by simpa using h) fun j v d e1 e2 => q (j + 1) v d (by simpa using e1) (by simpa using e2))
theorem cr_SI (hK : C.K = X.K) (hc : X.calm = true) (hu : X.A.units + 64 < cLine) : CallR X (.builtin "sorted") (rSI C) := by
  intro pins s σ H xs us Q I r h
  obtain ⟨σ', ρ, τ, an, p, a, vs, kvs, rfl, hp, ha, hk, S, hok, q⟩ := h
  obtain rfl := Vals.ref1 r
  obtain ⟨o1, o2, o3, o4⟩ := sortOk_inv hok
  rw [List.length_map] at o4
  have view : s.heap.IsItemsView p a := (show ObjOk X.prog X.w H s.heap p (itemsO p a) from I.hok p _ hp).1
  obtain ⟨z, hd, ws', rel, o, es, ep, ho, hx, hdat, hks, hps, hn⟩ := (show ObjOk X.prog X.w H s.heap a (.dK vs) from I.hok a _ ha)
  have lv : vs.length = kvs.length := by
    have := congrArg List.length hk
    simpa using this
  have pa := pairs_at hps
  have kv := kvl_at rel
  have le : es.size = kvs.length := by
    have := pa.1
    have := kv.1
    simp at *
    omega
  refine DT.sortedI (es := es) (ep := ep) (I.ok.hd hc) view ⟨o, ho, hx, hdat⟩ (by rw [le]; exact o4) fun h' tk as hk' hlt hl hG => ?_
  have I1 : L2.Inv X pins σ H { s with heap := h', toks := tk } := I.kept (t' := tk) hk'
  have nd : as.Nodup := List.Pairwise.imp (fun h => Nat.ne_of_lt h) hG.rise
  obtain ⟨H2, I2, S2, k2, n2⟩ := take_pairs I as (vs.map (·.2)) kvs H _ I1 S nd (by omega) (by simp [lv]) (fun b hb => ⟨Nat.le_of_lt (hG.above b hb), I.hok.fresh (Nat.le_of_lt (hG.above b hb))⟩) (fun j b k w e1 e2 e3 => by
      obtain ⟨en, he, hg⟩ := hG.pairs j b e1
      obtain ⟨k', q1, q2⟩ := pa.2 j en (by simpa using he)
      obtain ⟨w', q3, q4⟩ := kv.2 j k' en.val q1
      have e5 : (vs.map (·.1))[j]? = some k' := by simp [q3]
      rw [hk, List.getElem?_map] at e5
      cases e6 : kvs[j]? with
      | none => simp [e6] at e2
      | some x =>
        simp [e6] at e2 e5
        subst e5
        simp [q3] at e3
        subst e3
        refine ⟨en.key, en.val, ?_, q4, hg⟩
        rcases keyIs_shape (show keyIs (Sum.inr x.1) en.key = true from q2) with ⟨i, t, z, _⟩ | ⟨y, t, z, z'⟩
        · cases z
        · cases z
          rw [z', ← e2]
          exact ⟨t, rfl⟩) (fun j w d e1 e2 => List.mem_append_left _ (mem_tz (i := j) e1 (by rw [List.getElem?_map]; exact e2)))
  have ne0 : ∀ b o, h'.get? b = some o → b ≠ h'.objs.size := fun b o e => Nat.ne_of_lt (Heap.lt_size e)
  have hob : (h'.push { cls := .type "list", data := .seq (as.map Value.ref).toArray }).get? h'.objs.size = some (seqObj "list" (as.map Value.ref).toArray 0) := Heap.get?_push_size _ rfl
  have lt2 : ∀ b o, h'.get? b = some o → (h'.push { cls := .type "list", data := .seq (as.map Value.ref).toArray }).get? b = some o := fun b o e => Heap.get?_push_of_some _ e
  have hrl : Vals (as.map V.ref) (as.map Value.ref) := vals_refs as
  have er : EachIs (fun v b => ∃ as, Reads h' v (id b) as) (as.map Value.ref) (kvs.map pairT) := each_of (by simp; omega) fun j v d e1 e2 => by
    rw [List.getElem?_map] at e1
    cases e3 : as[j]? with
    | none => simp [e3] at e1
    | some b =>
      simp [e3] at e1
      subst e1
      have dn : Dn C.K H2 (.ref b) d := S2.res (r := R.d d) (ρ := ρ) (List.mem_append_left _ (mem_tz (i := j) (by simp [e3]) e2)) rfl
      rw [hK] at dn
      exact dn.reads I2 (show RelV (.ref b) (.ref b) from rfl)
  generalize hh2 : h'.push { cls := .type "list", data := .seq (as.map Value.ref).toArray } = h2 at hob lt2 ⊢
  have er' : EachIs (fun v b => ∃ bs, Reads (sortingHeap h2 h'.objs.size (as.map Value.ref)) v (id b) bs) (as.map Value.ref) (kvs.map pairT) := er.mono fun _ _ ⟨as, r⟩ => ⟨as, PyProof.Rows.Reads.keeps (fun b o e => sortingHeap_old (ne0 _ _ e) (lt2 _ _ e)) r⟩
  have e0 : EachIs (fun u d => ∃ w, RelV w u ∧ (w, R.d d) ∈ tz (as.map V.ref) (kvs.map pairT)) (as.map Value.ref) (kvs.map pairT) := each_vals hrl (by simp; omega) fun p hp => hp
  have hL : (as.map Value.ref).length ≤ sizeLine := by simp; omega
  refine wpAny_call_entry PyProof.Rows.slot_list_sort ⟨_, hob, rfl⟩ PyProof.Rows.entry_list_sort (list_sort_vals (s := { s with heap := h2, toks := tk }) (κ := dataKind (sortingHeap h2 h'.objs.size (as.map Value.ref)) ((kvs.map pairT).map id)) hob (SortsAt.data (s := { s with heap := sortingHeap h2 h'.objs.size (as.map Value.ref), toks := tk }) (each_map (R := fun v d => ∃ bs, Reads (sortingHeap h2 h'.objs.size (as.map Value.ref)) v d bs) id er') o1 o2 (bound_map fun d hd => ?_)) hL ⟨.none, rfl, ?_⟩) (PyProof.Rows.args_list_sort _)
  · have := depth_mem hd
    show X.A.units + 2 + d.depth < cLine
    omega
  · have eo := sortVals_data false e0 er' o1
    obtain ⟨ws, w1, w2, w3⟩ := vals_each eo
    obtain ⟨ep', he'⟩ := PyProof.Rows.sortedHeap_at (out := (sortVals (dataKind (sortingHeap h2 h'.objs.size (as.map Value.ref)) ((kvs.map pairT).map id)) false (as.map Value.ref) (as.map Value.ref)).toArray) hob
    have hn0 : H2 h'.objs.size = none := I2.hok.fresh (Nat.le_refl _)
    refine ⟨.ref h'.objs.size, upd H2 h'.objs.size (.lst ws), I2.laid (t' := tk) (fun b u e => ?_) (Nat.le_refl _) ⟨?_, _, ep', w1, he'⟩, rfl, q _ ws _ w2 ?_⟩
    · exact (PyProof.Rows.sortedHeap_old (ne0 _ _ e) (Heap.lt_size (lt2 _ _ e))).trans (lt2 _ _ e)
    · rw [w2, List.length_mergeSort, List.length_map]
      exact o4
    · refine (S2.fresh (o := .lst ws) hn0 trivial).sub fun t ht => ?_
      rcases List.mem_append.mp ht with ht | ht
      · exact List.mem_append_left _ (w3 t ht)
      · exact List.mem_append_right _ (List.mem_append_right _ ht)
end
end DL
namespace DL
open PySem PySem.Spec PySem.W PyProof.Rows L2 L2.DX
section
variable {C : Fr} {X : Cx} {σ : L2.St} {H : Hp} {ρ ρ' : Rho} {τ : List (V × R)} {an : List (Addr × HO)}
/-- sorted(d.items()), d a dict of one's own -/
def fSI (i : Nat) : FF := fun ρ => (mAt i ρ).bind fun kvs => if sortOk (kvs.map pairT) = true then some (sorts (kvs.map pairT), ρ) else none
theorem imp_fSI {i : Nat} {Q : VK} (h : tF C (fSI i) σ H Q) : tCB (rSI C) (tCons (tBM0 X.K "dict" rItK (tVar i)) tNil) σ H Q := by
  obtain ⟨ρ, τ, an, r, ρ', S, e, q⟩ := h
  unfold fSI at e
  cases e0 : mAt i ρ with
  | none => simp [e0] at e
  | some kvs =>
    simp only [e0, Option.bind_some] at e
    split at e
    · rename_i hok
      cases e
      obtain ⟨w0, hw0⟩ := slotB S (mAt_inv e0)
      obtain ⟨a, vs, rfl, g0, hk, S1⟩ := S.ownDict (mAt_inv e0) hw0
      refine ⟨.ref a, hw0, ?_, a, vs, rfl, rfl, g0, fun p hp => ?_⟩
      · exact .inr (.inr (.inl ⟨rfl, .inl ⟨vs, g0⟩⟩))
      · exact ⟨σ, _, τ, an, p, a, vs, kvs, rfl, upd_same, by rw [upd_ne (ne_of_none g0 hp)]; exact g0, hk, S1.grow (Le.new hp), hok, fun l ws H' hl S2 => q l ws H' hl S2⟩
    · cases e
theorem df_sItems {i : Nat} {n : Str} {p p2 apos cpos pos : Pos} (hK : C.K = X.K) (hc : X.calm = true) (hu : X.A.units + 64 < cLine) (hg : Gl X "sorted") (hm : X.mg "sorted" = none) (ha : PE X (.Name n p) (tVar i))
    (hbase : attributeBase (.Name n p) "items" X.env (eval (.Name n p) X.env) = eval (.Name n p) X.env := by rfl) (hline : (apos.endLine == cpos.line) = true := by rfl)
    (he : starEach [.Call (.Attribute (.Name n p) "items" apos) [] [] cpos] X.env = (false, eval (.Call (.Attribute (.Name n p) "items" apos) [] [] cpos) X.env) :: starEach [] X.env := by rfl) (hpl : (backTo pos (starEach [] X.env)).any (·.1) = false := by rfl) :
    PE X (.Call (.Name "sorted" p2) [.Call (.Attribute (.Name n p) "items" apos) [] [] cpos] [] pos) (tF C (fSI i)) :=
  (pe_callB (cr_SI hK hc hu) hg hm PyProof.Rows.boot_sorted (pa_cons (pe_bm0 PySem.F.plainAttrs_dict PySem.F.slot_dict_items PySem.F.type_dict_items mt_itK ha hbase hline) pa_nil he) (by decide) (by decide) he hpl).dl fun _ _ _ h => imp_fSI h
end
end DL
namespace DL
open PySem PySem.Spec PyProof.Rows L2
/-! ### sorted(xs, key=f), f a def of ours whose keys may hold lists -/
/-- the heap without one object -/
theorem heap_hide (h : Heap) (k : Addr) : ∃ h1 : Heap, h1.get? k = none ∧ ∀ b, b ≠ k → h1.get? b = h.get? b := by
  refine ⟨⟨h.objs.setIfInBounds k ⟨.none, none, .freed, #[]⟩, h.life⟩, ?_, fun b hb => ?_⟩
  · unfold Heap.get?
    by_cases hk : k < h.objs.size
    · simp [hk]
    · simp [hk]
  · unfold Heap.get?
    rw [Array.getElem?_setIfInBounds_ne (Ne.symm hb)]
def keysM (m : List D → Option D) : List D → Option (List D)
  | [] => some []
  | x :: xs => (m [x]).bind fun k => (keysM m xs).map fun ks => k :: ks
theorem keysM_len {m : List D → Option D} : ∀ {xs ks : List D}, keysM m xs = some ks → ks.length = xs.length
  | [], ks, h => by
    cases h
    rfl
  | x :: xs, ks, h => by
    unfold keysM at h
    cases e1 : m [x] with
    | none => simp [e1] at h
    | some k =>
      cases e2 : keysM m xs with
      | none => simp [e1, e2] at h
      | some ls =>
        simp [e1, e2] at h
        rw [← h]
        simp [keysM_len e2]
theorem keysM_at {m : List D → Option D} : ∀ {xs ks : List D}, keysM m xs = some ks → ∀ (i : Nat) x, xs[i]? = some x → ∃ k, ks[i]? = some k ∧ m [x] = some k
  | [], ks, h, i, x, e => by simp at e
  | y :: xs, ks, h, i, x, e => by
    unfold keysM at h
    cases e1 : m [y] with
    | none => simp [e1] at h
    | some k =>
      cases e2 : keysM m xs with
      | none => simp [e1, e2] at h
      | some ls =>
        simp [e1, e2] at h
        subst h
        cases i with
        | zero =>
          simp at e
          subst e
          exact ⟨k, rfl, e1⟩
        | succ i =>
          obtain ⟨k2, a, b⟩ := keysM_at e2 i x (by simpa using e)
          exact ⟨k2, by simpa using a, b⟩
def sortBy (xs ks : List D) : List D := ((xs.zip ks).mergeSort (PySem.W.dataLe false fun p : D × D => p.2)).map (·.1)
def sortKD (m : List D → Option D) : D → Option (List D)
  | .list xs => (keysM m xs).bind fun ks => if sortOk ks = true then some (sortBy xs ks) else none
  | _ => none
section
variable {C : Fr} {X : Cx}
theorem each_zip {R1 : Value → D → Prop} : ∀ {us : List Value} {xs ks : List D}, PySem.W.EachIs R1 us xs → ks.length = xs.length → PySem.W.EachIs (fun u (p : D × D) => R1 u p.1) us (xs.zip ks)
  | _, _, [], .nil, _ => .nil
  | _, _, [], .cons _ _, h => by simp at h
  | _, _, _ :: _, .nil, h => by simp at h
  | _, _, k :: ks, .cons r t, h => .cons r (each_zip t (by simpa using h))
theorem each_fst {R1 : Value → D → Prop} : ∀ {us : List Value} {ps : List (D × D)}, PySem.W.EachIs (fun u (p : D × D) => R1 u p.1) us ps → PySem.W.EachIs R1 us (ps.map (·.1))
  | _, _, .nil => .nil
  | _, _, .cons r t => .cons r (each_fst t)
theorem reads_keys {pins : List (Addr × Obj)} {σ : L2.St} {H : Hp} {s : Shared} (I : Inv X pins σ H s) : ∀ {kvs : List V} {us : List Value} {ks : List D}, Vals kvs us → DnL X.K H kvs ks → PySem.W.EachIs (fun v k => ∃ as, Reads s.heap v k as) us ks
  | _, _, [], .nil, _ => .nil
  | _, _, _ :: _, .nil, h => by simp [DnL] at h
  | _, _, [], .cons _ _, h => by simp [DnL] at h
  | _, _, k :: ks, .cons r t, h => .cons (h.head.1.reads I r) (reads_keys I t h.head.2)
/-- the keys that were told so far stand in the store at kS; the list at a is empty -/
structure Told (X : Cx) (pins : List (Addr × Obj)) (σ : L2.St) (H0 : Hp) (kS a : Addr) (e1 : Nat) (ks : List D) (s : Shared) : Prop where
  ex : ∃ (H : Hp) (kA : Array Value) (e : Nat) (kvs : List V), Inv X pins σ H s ∧ Le H0 H ∧ FpOk X pins H kS ∧ FpOk X pins H a ∧ s.heap.get? kS = some (seqObj "list" kA e) ∧ s.heap.get? a = some (seqObj "list" #[] e1) ∧ Vals kvs kA.toList ∧ DnL X.K H kvs ks
theorem fp_again {pins pl : List (Addr × Obj)} {σ : L2.St} {H H' : Hp} {s : Shared} {b : Addr} (f : FpOk X pins H b) (hn : H' b = none) : FpOk X pins H' b := ⟨hn, f.2⟩
theorem told_step {pins : List (Addr × Obj)} {σ : L2.St} {H0 : Hp} {kS a f : Addr} {e1 k : Nat} {fd : FuncData} {ps : List Str} {m : List D → Option D} {ks : List D} {s : Shared} {v : Value} {x : V} {d kd : D} {E : Value → Shared → Prop}
    (F : FnOk X.prog X.w X.K X.mg X.base (L2.CX X.prog X.w) k f fd ps (spF X.K 1 m)) (hb : Binds X.K fd ps []) (hr : Room (k + 2) X.A) (hka : kS ≠ a) (T : Told X pins σ H0 kS a e1 ks s) (rv : RelV x v) (hx : Dn X.K H0 x d) (hm : m [d] = some kd) (hz : ks.length < sizeLine) :
    wpAny (model X.prog X.w) X.A.in1.in1 (call (.ref f) [v]) (fun u s1 => wpAny (model X.prog X.w) X.A.in1.in1 (Builtin.List.listUpdate (.ref kS) (·.push u)) (fun _ s2 => Told X pins σ H0 kS a e1 (ks ++ [kd]) s2) E s1) (fun _ _ => False) s := by
  obtain ⟨H, kA, e, kvs, I, le, f1, f2, g1, g2, va, dk⟩ := T.ex
  have P : Inv X (pins ++ pinsAt [kS, a] s.heap) σ H s := I.pinned (fun b hb => by
      rcases List.mem_cons.mp hb with rfl | hb
      · exact f1
      · rw [List.mem_singleton.mp hb]
        exact f2) fun b hb => by
      rcases List.mem_cons.mp hb with rfl | hb
      · exact ⟨_, g1, fun v z => by cases z⟩
      · rw [List.mem_singleton.mp hb]
        exact ⟨_, g2, fun v z => by cases z⟩
  have hs : spF X.K 1 m [x] H (fun w H' => Le H H' ∧ Dn X.K (msk (mutIn H) H') w kd) (fun _ _ _ => False) := ⟨rfl, [d], kd, .cons (hx.mono le) .nil, hm, fun w H' l q => ⟨l, q⟩⟩
  have hl : [v].length = ps.length := F.len _ _ _ _ hs
  have env := P.env0.in1.in1
  refine wpAny_call (codeAny_mono (F.run X.A.in1.in1 X.stack s H ⟨[v], []⟩ [v] [x] _ (fun _ _ _ => False) hr.in1.in1 env (by have := hb s [v] I.kIn (by simpa using hl); simpa using this) (.cons rv .nil) hs) fun r s1 hq => ?_)
  cases r with
  | error e =>
    obtain ⟨_, _, _, _, _, _, _, _, _, _, _, _, z⟩ := hq
    exact z
  | ok fl =>
    cases fl with
    | next => exact False.elim hq
    | brk => exact False.elim hq
    | cont => exact False.elim hq
    | ret u =>
      obtain ⟨w, H1, I1, r1, l1, d1⟩ := P.after hq
      have p1 := I1.pin (kS, seqObj "list" kA e) (List.mem_append_right _ (List.mem_append_right _ (by simp [pinsAt, g1])))
      have p2 := I1.pin (a, seqObj "list" #[] e1) (List.mem_append_right _ (List.mem_append_right _ (by simp [pinsAt, g1, g2])))
      have J := I1.unpinned
      have s1u := Heap.SameBut.update s1.heap kS (Obj.mapSeq (·.push u))
      have nk : (s1.heap.update kS (Obj.mapSeq (·.push u))).get? kS = some (seqObj "list" (kA.push u) (_ : Nat)) := get?_update_seq p1.1 (·.push u)
      have lk : kA.size = ks.length := by
        have h1 := va.length
        have h2 := dk.1
        simp at h1
        omega
      refine listUpdate_at p1.1 rfl ?_ (by omega) (by rw [Array.size_push]; omega)
      refine ⟨H1, kA.push u, _, kvs ++ [w], J.turnedL (ch := [kS]) (t' := s1.toks) (fun b o hb e => (s1u.2 b fun z => hb (by simp [z])).trans e) (fun b hb => ?_), le.trans l1, ⟨p1.2.1, f1.2⟩, ⟨p2.2.1, f2.2⟩, nk, (s1u.2 a hka.symm).trans p2.1, ?_, ?_⟩
      · rw [List.mem_singleton.mp hb]
        exact ⟨p1.2.1, f1.2⟩
      · rw [Array.toList_push]
        exact va.append (.cons r1 .nil)
      · exact (dk.mono l1).append (.cons (d1.mono (msk_le _ _)) .nil)

theorem rel_at : ∀ {vs : List V} {us : List Value} {i : Nat} {x : V} {u : Value}, Vals vs us → vs[i]? = some x → us[i]? = some u → RelV x u
  | _, _, i, _, _, .nil, h, _ => by simp at h
  | _, _, 0, _, _, .cons r t, h1, h2 => by
    simp at h1 h2
    rw [← h1, ← h2]
    exact r
  | _, _, i + 1, _, _, .cons r t, h1, h2 => rel_at t (by simpa using h1) (by simpa using h2)
theorem told_all {pins : List (Addr × Obj)} {σ : L2.St} {H0 : Hp} {kS a f : Addr} {e1 k : Nat} {fd : FuncData} {ps : List Str} {m : List D → Option D} {s : Shared} {its : List Value} {vs : List V} {ds ks : List D} {E : Value → Shared → Prop} {Q : PySem.Fin → Shared → Prop}
    (F : FnOk X.prog X.w X.K X.mg X.base (L2.CX X.prog X.w) k f fd ps (spF X.K 1 m)) (hb : Binds X.K fd ps []) (hr : Room (k + 2) X.A) (hka : kS ≠ a) (T : Told X pins σ H0 kS a e1 [] s) (rv : Vals vs its) (hd : DnL X.K H0 vs ds) (hk : keysM m ds = some ks) (hz : its.length ≤ sizeLine)
    (so : sortOk ks = true) (hu : X.A.units + 64 < cLine)
    (fin : ∀ (H : Hp) (h' : Heap) (tk c : Nat) (out : List Value) (s1 : Shared), Inv X pins σ H s1 → Le H0 H → FpOk X pins H kS → FpOk X pins H a → (∀ b o, b ∉ [kS, a] → s1.heap.get? b = some o → h'.get? b = some o) → h'.get? a = some (seqObj "list" out.toArray c) → PySem.W.KeyedOut false ks its out → Q (.done (.ret .none)) { s1 with heap := h', toks := tk }) :
    wpAny (model X.prog X.w) X.A.in1.in1 (ksk_rest a (.ref f) false its.toArray e1 (.ref kS)) Q E s := by
  obtain ⟨o1, o2, o3, o4⟩ := sortOk_inv so
  rw [List.map_id] at o1 o2
  have lk := keysM_len hk
  have li : its.length = ds.length := by rw [← rv.length]; exact hd.1
  unfold ksk_rest
  refine wpAny_bind (wpAny_rule ?_)
  rw [List.forIn_toArray]
  refine wpAny_bind (ksk_fold (fun i s' => Told X pins σ H0 kS a e1 (ks.take i) s') its 0 s (by simpa using T) (fun j u s' hj T' => ?_) fun s' T' => ?_)
  · rw [Nat.zero_add] at T' ⊢
    have jl : j < its.length := (List.getElem?_eq_some_iff.mp hj).1
    obtain ⟨d, hdj⟩ : ∃ d, ds[j]? = some d := ⟨_, List.getElem?_eq_getElem (by omega)⟩
    obtain ⟨x, hxj, hx⟩ := hd.at hdj
    obtain ⟨kd, hkj, hm⟩ := keysM_at hk j d hdj
    have rx : RelV x u := rel_at rv hxj hj
    have ek : ks.take (j + 1) = ks.take j ++ [kd] := by rw [List.take_add_one, hkj]; rfl
    refine wpAny_bind (wpAny_attempt (wpAny_mono (told_step (E := E) F hb hr hka T' rx hx hm (by rw [List.length_take]; omega)) (fun w s1 q => ?_) fun _ _ z => z.elim))
    refine wpAny_bind (wpAny_mono q (fun _ s2 q2 => wpAny_pure ⟨rfl, ?_⟩) fun _ _ z => z)
    rw [ek]
    exact q2
  · rw [Nat.zero_add] at T'
    rw [show ks.take its.length = ks from List.take_of_length_le (by omega)] at T'
    obtain ⟨H, kA, e, kvs, I, le, f1, f2, g1, g2, va, dk⟩ := T'.ex
    obtain ⟨h1, n1, s1⟩ := heap_hide s'.heap kS
    have rk := reads_keys I va dk
    have sz : kA.size = its.length := by
      have z1 := va.length
      have z2 := dk.1
      simp at z1
      omega
    refine wpAny_bind (listItems_at g1 rfl ?_)
    refine PySem.W.keyH_end (h₁ := h1) (κ := PySem.W.dataKind s'.heap ks) (fun b o hb e => ?_) n1 g1 g2 hka (PySem.W.SortsAt.data rk o1 o2 fun d hd => ?_) sz hz fun h' tk c kp na => ?_
    · by_cases hbk : b = kS
      · rw [hbk, n1] at e
        cases e
      · rw [← s1 b hbk]
        exact e
    · have := depth_mem hd
      show X.A.units + 1 + 1 + d.depth < cLine
      omega
    · refine fin H h' tk c _ s' I le f1 f2 (fun b o hb e => kp b o (fun z => hb (by simp [z])) ?_) na ⟨s'.heap, kA.toList, o1, rfl, rk⟩
      rw [s1 b fun z => hb (by simp [z])]
      exact e
theorem cr_sortKey {k : Nat} {f : Addr} {fd : FuncData} {ps : List Str} {m : List D → Option D} (hK : C.K = X.K) (F : FnOk X.prog X.w X.K X.mg X.base (L2.CX X.prog X.w) k f fd ps (spF X.K 1 m)) (hb : Binds X.K fd ps []) (hr : Room (k + 2) X.A) (hu : X.A.units + 64 < cLine) :
    CallRK X (.builtin "sorted") [Str.ofString "key"] (fun vs zs H Q => zs = [.ref f] ∧ rF1 C (sortKD m) vs H Q) := by
  intro pins s σ H xs zs us ws Q I r rz h
  obtain ⟨rfl, σ', ρ, τ, an, x, a, y, zs, rfl, S, h1, h2, q⟩ := h
  obtain rfl := Vals.ref1 rz
  unfold sortKD at h2
  split at h2
  · rename_i ds
    cases hk : keysM m ds with
    | none => simp [hk] at h2
    | some ks =>
    simp only [hk, Option.bind_some] at h2
    split at h2
    · rename_i hok
      cases h2
      obtain ⟨o1, o2, o3, o4⟩ := sortOk_inv hok
      have n1 := S.res List.mem_cons_self h1
      rw [hK] at n1
      obtain ⟨a1, vs, rfl, t1, l1, S1⟩ := S.items List.mem_cons_self h1
      obtain ⟨b1, vs1, e1, t2, dn⟩ := n1.lst_inv
      cases e1
      rw [t1] at t2
      cases t2
      obtain rfl := Vals.ref1 r
      obtain ⟨its, rv, ⟨ob, n, g1, g2, g3, g4⟩, hlen⟩ := I.list (Or.inl (Or.inl t1))
      have li : its.length = vs.length := rv.length.symm
      have lk := keysM_len hk
      have ez : PySem.W.EachIs (fun u d => ∃ w, RelV w u ∧ (w, R.d d) ∈ tz vs ds) its ds := each_vals rv l1 fun p hp => hp
      refine PySem.W.sorted_of_sort (vs := its) ⟨ob, g1, g2, n, g4⟩ (by omega) (PyProof.Rows.ksk_s1 _ _) (fun _ => PyProof.Rows.ksk_l1 _ _) fun E' => ?_
      show wpAny _ _ (ksk_tree (s.heap.objs.size + 1) (.ref f) false) _ _ _
      have ho := PySem.W.copyHeap_at s.heap its
      obtain ⟨e1, ho1⟩ : ∃ e1, ((PySem.W.copyHeap s.heap its).update (s.heap.objs.size + 1) (Obj.mapSeq fun _ => (#[] : Array Value))).get? (s.heap.objs.size + 1) = some (seqObj "list" #[] e1) := ⟨_, get?_update_seq ho fun _ => #[]⟩
      have sb := Heap.SameBut.update (PySem.W.copyHeap s.heap its) (s.heap.objs.size + 1) (Obj.mapSeq fun _ => (#[] : Array Value))
      generalize hg : (PySem.W.copyHeap s.heap its).update (s.heap.objs.size + 1) (Obj.mapSeq fun _ => (#[] : Array Value)) = g at ho1 sb
      unfold ksk_tree
      refine wpAny_bind (listItems_at ho rfl ?_)
      refine wpAny_bind (listUpdate_at ho rfl ?_ (by rw [List.size_toArray]; omega) (Nat.zero_le _))
      rw [hg]
      refine wpAny_bind (seqEpoch_at ho1 rfl ?_)
      refine wpAny_bind (wpAny_newTuple ?_ (by show its.length ≤ _; omega))
      refine wpAny_bind (wpAny_newList ?_ (Nat.zero_le _))
      refine wpAny_holding ?_
      have k0 : ∀ b o, b ≠ s.heap.objs.size + 1 → s.heap.get? b = some o → g.get? b = some o := fun b o hb e => (sb.2 b hb).trans (PySem.W.copyHeap_old e)
      have la : s.heap.objs.size + 1 < g.objs.size := Heap.lt_size ho1
      have sp : (g.push (seqObj "tuple" its.toArray 0)).objs.size = g.objs.size + 1 := size_push' ..
      have up : ∀ b o, g.get? b = some o → ((g.push (seqObj "tuple" its.toArray 0)).push (seqObj "list" #[] 0)).get? b = some o := fun b o e => Heap.get?_push_of_some _ (Heap.get?_push_of_some _ e)
      have I0 : Inv X pins σ H { s with heap := (g.push (seqObj "tuple" its.toArray 0)).push (seqObj "list" #[] 0) } := I.kept (t' := s.toks) fun b o e => up b o (k0 b o (Nat.ne_of_lt (Nat.lt_succ_of_lt (Heap.lt_size e))) e)
      have na : H (s.heap.objs.size + 1) = none := I.hok.fresh (Nat.le_succ _)
      have nk : H (g.push (seqObj "tuple" its.toArray 0)).objs.size = none := I.hok.fresh (by omega)
      refine told_all (kS := (g.push (seqObj "tuple" its.toArray 0)).objs.size) (a := s.heap.objs.size + 1) (H0 := H) (vs := vs) (ds := ds) (ks := ks) F hb hr (Nat.ne_of_gt (by omega)) ⟨H, #[], 0, [], I0, Le.refl H, I.fpOk (by omega) nk, I.fpOk (Nat.le_succ _) na, Heap.get?_push_size _ rfl, up _ _ ho1, .nil, .nil⟩ rv dn hk (by omega) hok hu fun H1 h' tk c out s1 I1 le f1 f2 kp ha ko => ⟨rfl, ?_⟩
      have lo : out.length = its.length := ko.length (by omega)
      have eo := PySem.W.keyedOut_each (bs := ds.zip ks) (R := fun u (p : D × D) => ∃ w, RelV w u ∧ (w, R.d p.1) ∈ tz vs ds) (fun p : D × D => p.2) (by rw [List.map_snd_zip (by omega)]; exact ko) (each_zip ez lk)
      obtain ⟨ws, w1, w2, w3⟩ := vals_each (each_fst (R1 := fun u d => ∃ w, RelV w u ∧ (w, R.d d) ∈ tz vs ds) eo)
      have I2 := I1.turnedL (t' := tk) (ch := [(g.push (seqObj "tuple" its.toArray 0)).objs.size, s.heap.objs.size + 1]) kp fun b hb => by
        rcases List.mem_cons.mp hb with rfl | hb
        · exact f1
        · rw [List.mem_singleton.mp hb]
          exact f2
      have lw : ws.length ≤ sizeLine := by
        have := w1.length
        omega
      refine ⟨.ref _, upd H1 (s.heap.objs.size + 1) (.lst ws), I2.take (t' := tk) (h' := h') (fun b o _ e => e) f2 ⟨lw, out, c, w1, ha⟩, rfl, q _ ws _ w2 ?_⟩
      refine ((S1.grow le).fresh (o := .lst ws) f2.1 trivial).sub fun p hp => ?_
      rcases List.mem_append.mp hp with hp | hp
      · exact List.mem_append_left _ (w3 p hp)
      · exact List.mem_append_right _ (List.mem_cons_of_mem _ hp)
    · cases h2
  · cases h2
/-- sorted(e, key=f) -/
theorem df_sortKey {k : Nat} {g x : Str} {st : Stmt} {ps : List Str} {m : List D → Option D} {e : Expr} {fe : FE} {p p2 kpos pos : Pos} (hK : C.K = X.K) (F : Def X.prog X.w X.K X.mg X.base k g x st ps (spF X.K 1 m)) (hr : Room (k + 2) X.A) (hu : X.A.units + 64 < cLine) (hg : Gl X "sorted") (hm : X.mg "sorted" = none) (hgk : Gl X g) (ha : PE X e (tE C fe))
    (hdb : (g == ("__debug__" : Str)) = false := by decide) (hs : starEach [e] X.env = (false, eval e X.env) :: starEach [] X.env := by rfl)
    (he : backTo pos (starEach [e] X.env) = (false, eval e X.env) :: backTo pos (starEach [] X.env) := by rfl) (hpl : (backTo pos (starEach [e] X.env)).any (·.1) = false := by rfl)
    (hall : (backToKw pos (keywordEach [⟨some (Str.ofString "key"), .Name g p2, kpos⟩] X.env)).all (·.1.isSome) = true := by rfl) (hnone : (backToKw pos (keywordEach [⟨some (Str.ofString "key"), .Name g p2, kpos⟩] X.env)).any (·.1.isNone) = false := by rfl) (hks : (backToKw pos (keywordEach [⟨some (Str.ofString "key"), .Name g p2, kpos⟩] X.env)).filterMap (·.1) = [Str.ofString "key"] := by rfl) :
    PE X (.Call (.Name "sorted" p) [e] [⟨some (Str.ofString "key"), .Name g p2, kpos⟩] pos) (tF C (fB (sortKD m) fe)) := by
  obtain ⟨f, fd, h1, h2, h3⟩ := F.ex
  exact (pe_callBK (cr_sortKey hK h1 (h3.binds F.bi) hr hu) hg hm (by decide +kernel) (da_cons ha da_nil hs) (pk_cons (pe_glob (v := V.ref f) hgk h2 rfl hdb) pk_nil) (by decide) (by decide) he hpl hall hnone hks).dl fun σ H Q h => by
    have z := imp_F1 h
    obtain ⟨ρ, τ, an, rs, ρ', S, e0, q⟩ := z
    exact ⟨ρ, τ, an, rs, ρ', S, e0, fun vs H' hl S' => ⟨rfl, q vs H' hl S'⟩⟩
end
end DL
namespace W
open PySem L2 DL
def F_houses_of : FS := sRet (ofF (fLc (iSeq (e2 (op2 idxD) (eVar 0) (eC (.int 0)))) (put 1) (tYesT) (e2 (op2 idxD) (eVar 1) (eC (.int 0))) [1]))
def m_houses_of : List D → Option D := runB 2 F_houses_of
def F_people_of : FS := sRet (ofF (fLc (iSeq (e2 (op2 idxD) (eVar 0) (eC (.int 1)))) (put 1) (tYesT) (e2 (op2 idxD) (eVar 1) (eC (.int 0))) [1]))
def m_people_of : List D → Option D := runB 2 F_people_of
def F_homes_of : FS := sSeq (sOwnM 2 (mDict (e2 (op2 idxD) (eVar 0) (eC (.int 0))))) (sRet (ofF (fLc (iSeq (eDGet (mDict (e2 (op2 idxD) (eVar 0) (eC (.int 1)))) (eVar 1))) (put 3) (toT (e2 (op2 inD) (eVar 1) (eMGet' 2 (eVar 3)))) (eVar 3) [3])))
def m_homes_of : List D → Option D := runB 4 F_homes_of
def F_look_person : FS := sIf (orT (notT (truR (eIsi "str" (eVar 1)))) (toT (e2 (op2 ninD) (eVar 1) (eCall 1 m_people_of (aCons (eVar 0) (aNil)))))) (sRaise "NoPerson") (sNil)
def x_look_person : List D → Option RD := runX 2 F_look_person
def m_look_person : List D → Option D := okM x_look_person
def F_look_house : FS := sIf (orT (notT (truR (eIsi "str" (eVar 1)))) (toT (e2 (op2 ninD) (eVar 1) (eCall 1 m_houses_of (aCons (eVar 0) (aNil)))))) (sRaise "NoHouse") (sNil)
def x_look_house : List D → Option RD := runX 2 F_look_house
def m_look_house : List D → Option D := okM x_look_house
def F_key_of : FS := sRet (ofF (fLc (iSeq (eVar 0)) (put 1) (tYesT) (orE (eVar 1) (eC (.str ""))) [1]))
def m_key_of : List D → Option D := runB 2 F_key_of
def F_standings : FS := sSeq (sAsg (ofF (fLst (aCons (eTup (aNil)) (aNil)))) (put 1)) (sSeq (sFor (iSeq (eCall 1 m_people_of (aCons (eVar 0) (aNil)))) (put 2) (sSeq (sOwn 3 (fLst (aNil))) (sSeq (sFor (iSeq (eVar 1)) (put 4) (sSeq (sOwn 5 (fLc (iSeq (eCall 2 m_homes_of (aCons (eVar 0) (aCons (eVar 2) (aNil))))) (put 6) (toT (e2 (op2 ninD) (eVar 6) (eVar 4))) (eVar 6) [6])) (sExt 3 (ofF (fLc (iSeq (e2 (op2 addD) (ofF (fLst (aCons (eC .none) (aNil)))) (eVar 5))) (put 6) (tYesT) (e2 (op2 addD) (eVar 4) (eTup (aCons (eVar 6) (aNil)))) [6]))))) (sAsg (eVar 3) (put 1))))) (sRet (eB (b1 tupD) (aCons (ofF (fB (sortKD m_key_of) (eVar 1))) (aNil)))))
def m_standings : List D → Option D := runA 7 F_standings
def F_is_better : FS := sSeq (sAsg (eDGet (mDict (e2 (op2 idxD) (eVar 0) (eC (.int 1)))) (eVar 1)) (put 4)) (sSeq (sIf (toT (e2 (op2 ninD) (eVar 2) (eVar 4))) (sRet (eC (.bool false))) (sNil)) (sRet (orE (e2 (op2 ninD) (eVar 3) (eVar 4)) (e2 (op2 ltD) (eM "tuple" ixT (eVar 4) (eVar 2)) (eM "tuple" ixT (eVar 4) (eVar 3))))))
def m_is_better : List D → Option D := runA 5 F_is_better
def F_likes_better : FS := sSeq (sExX (cX 2 x_look_person (aCons (eVar 0) (aCons (eVar 1) (aNil))))) (sSeq (sExX (cX 2 x_look_house (aCons (eVar 0) (aCons (eVar 2) (aNil))))) (sSeq (sIf (toT (isnNd (eVar 3))) (sExX (cX 2 x_look_house (aCons (eVar 0) (aCons (eVar 3) (aNil))))) (sNil)) (sRet (eCall 4 m_is_better (aCons (eVar 0) (aCons (eVar 1) (aCons (eVar 2) (aCons (eVar 3) (aNil)))))))))
def x_likes_better : List D → Option RD := runX 4 F_likes_better
def m_likes_better : List D → Option D := okM x_likes_better
def F__law_is : FS := sRet (andE (eIsi "bool" (eVar 0)) (e2 (op2 eqD) (eVar 0) (eVar 1)))
def m__law_is : List D → Option D := runA 2 F__law_is
def F__law_draw : FS := sSeq (sCnt 1 (e2 (op2 addD) (eCnt 1) (eC (.int 1)))) (sSeq (sAsg (ifE (tTruS 0) (e2 (op2 modD) (eCnt 1) (eLenS 0)) (eC (.int 0))) (put 3)) (sSeq (sAsg (eRst 1 (eVar 3) (ifE (tTruS 0) (eIxS 0 (eVar 3)) (eC (.int 0)))) (put 4)) (sSeq (sIf (toT (e2 (op2 geD) (eVar 4) (e2 (op2 powD) (eC (.int 10)) (eC (.int 18))))) (sSeq (sRst 1 (e2 (op2 divD) (eVar 4) (eVar 2)) (eVar 3)) (sRet (e2 (op2 modD) (eVar 4) (eVar 2)))) (sNil)) (sSeq (sAsg (e2 (op2 modD) (e2 (op2 addD) (eVar 4) (e2 (op2 mulI) (eC (.int 104729)) (eCnt 1))) (eC (.int 4294967291))) (put 5)) (sSeq (sAsg (e2 (op2 modD) (e2 (op2 powD) (eVar 5) (eC (.int 5))) (eC (.int 4294967279))) (put 5)) (sRet (e2 (op2 modD) (e2 (op2 divD) (e2 (op2 modD) (e2 (op2 addD) (e2 (op2 mulI) (e2 (op2 divD) (eVar 5) (eC (.int 64))) (eC (.int 69621))) (eVar 5)) (eC (.int 4294967231))) (eC (.int 8))) (eVar 2))))))))
def m__law_draw : TM := runT 6 F__law_draw
def F__law_mixed : FS := sSeq (sPar [4, 5] (xF (fB listD (eVar 2)) (xF (fLst (aNil)) (xNil)))) (sSeq (whileD (andT (toT (e2 (op2 neD) (eVar 4) (ofF (fLst (aNil))))) (orT (toT (e2 (op2 ltD) (eB (b1 lenD) (aCons (eVar 5) (aNil))) (eVar 3))) (toT (e2 (op2 gtD) (eCallT 1 m__law_draw (aCons (eVar 0) (aCons (eVar 1) (aCons (eC (.int 5)) (aNil))))) (eC (.int 0)))))) (sApp 5 (ePop 4 (eCallT 1 m__law_draw (aCons (eVar 0) (aCons (eVar 1) (aCons (eB (b1 lenD) (aCons (eVar 4) (aNil))) (aNil))))))) 200) (sRet (eB (b1 tupD) (aCons (eVar 5) (aNil)))))
def m__law_mixed : TM := runT 6 F__law_mixed
def F__law_a_book : FS := sSeq (sAsg (eSl (eTup (aCons (eC (.str "barn")) (aCons (eC (.str "cot")) (aCons (eC (.str "den")) (aCons (eC (.str "hut")) (aCons (eC (.str "inn")) (aNil))))))) (oNone) (oSome (e2 (op2 addD) (eC (.int 1)) (eCallT 1 m__law_draw (aCons (eVar 0) (aCons (eVar 1) (aCons (eVar 2) (aNil)))))))) (put 4)) (sSeq (sAsg (eSl (eTup (aCons (eC (.str "ann")) (aCons (eC (.str "bob")) (aCons (eC (.str "cat")) (aCons (eC (.str "dan")) (aCons (eC (.str "eve")) (aNil))))))) (oNone) (oSome (e2 (op2 addD) (eC (.int 1)) (eCallT 1 m__law_draw (aCons (eVar 0) (aCons (eVar 1) (aCons (eVar 3) (aNil)))))))) (put 5)) (sSeq (sAsg (eB (b1 tupD) (aCons (ofF (fLc (iSeq (eVar 4)) (put 7) (tYesT) (eTup (aCons (eVar 7) (aCons (eCallT 2 m__law_mixed (aCons (eVar 0) (aCons (eVar 1) (aCons (eVar 5) (aCons (eC (.int 1)) (aNil)))))) (aNil)))) [7])) (aNil))) (put 6)) (sRet (eTup (aCons (eVar 6) (aCons (eB (b1 tupD) (aCons (ofF (fLc (iSeq (eVar 5)) (put 8) (tYesT) (eTup (aCons (eVar 8) (aCons (eCallT 2 m__law_mixed (aCons (eVar 0) (aCons (eVar 1) (aCons (eVar 4) (aCons (eC (.int 1)) (aNil)))))) (aNil)))) [8])) (aNil))) (aNil)))))))
def m__law_a_book : TM := runT 9 F__law_a_book
def F__law_homes : FS := sSeq (sPar [2, 3] (xM (mDict (e2 (op2 idxD) (eVar 0) (eC (.int 0)))) (xM (mDict (e2 (op2 idxD) (eVar 0) (eC (.int 1)))) (xNil)))) (sRet (ofF (fLc (iSeq (eMGet' 3 (eVar 1))) (put 4) (toT (e2 (op2 inD) (eVar 1) (eMGet' 2 (eVar 4)))) (eVar 4) [4])))
def m__law_homes : List D → Option D := runB 5 F__law_homes
def F__law_better : FS := sRet (andE (e2 (op2 inD) (eVar 1) (eVar 0)) (orE (e2 (op2 ninD) (eVar 2) (eVar 0)) (e2 (op2 ltD) (eM "tuple" ixT (eVar 0) (eVar 1)) (eM "tuple" ixT (eVar 0) (eVar 2)))))
def m__law_better : List D → Option D := runA 3 F__law_better
def F__law_all : FS := sSeq (sAsg (ofF (fLst (aCons (eTup (aNil)) (aNil)))) (put 1)) (sSeq (sFor (iSeq (e2 (op2 idxD) (eVar 0) (eC (.int 1)))) (gT 2 (gC (put 2) (gC (put 3) (gN)))) (sSeq (sOwn 4 (fLst (aNil))) (sSeq (sFor (iSeq (eVar 1)) (put 5) (sSeq (sOwn 6 (fLc (iSeq (ofF (fB sortD (eCall 2 m__law_homes (aCons (eVar 0) (aCons (eVar 2) (aNil))))))) (put 7) (toT (e2 (op2 ninD) (eVar 7) (eVar 5))) (eVar 7) [7])) (sExt 4 (ofF (fLc (iSeq (e2 (op2 addD) (ofF (fLst (aCons (eC .none) (aNil)))) (eVar 6))) (put 7) (tYesT) (e2 (op2 addD) (eVar 5) (eTup (aCons (eVar 7) (aNil)))) [7]))))) (sAsg (eVar 4) (put 1))))) (sRet (eVar 1)))
def m__law_all : List D → Option D := runB 8 F__law_all
def F_law : FS := sSeq (sBg 1) (sSeq (sFor (iRg (eC (.int 5))) (put 2) (sSeq (sAsg (eCallT 2 m__law_a_book (aCons (eVar 0) (aCons (eVar 1) (aCons (eC (.int 4)) (aCons (eC (.int 4)) (aNil)))))) (put 9)) (sSeq (sIf (toT (e2 (op2 neD) (eCall 1 m_standings (aApp aNil (aCons (eVar 9) (aNil)))) (eB (b1 tupD) (aCons (eCall 1 m__law_all (aCons (eVar 9) (aNil))) (aNil))))) (sRet (eC (.bool false))) (sNil)) (sSeq (sAsg (ofF (fLc (iSeq (e2 (op2 idxD) (eVar 9) (eC (.int 0)))) (put 3) (tYesT) (e2 (op2 idxD) (eVar 3) (eC (.int 0))) [3])) (put 10)) (sSeq (sFor (iSeq (e2 (op2 idxD) (eVar 9) (eC (.int 1)))) (gT 2 (gC (put 4) (gC (put 5) (gN)))) (sFor (iSeq (eVar 10)) (put 3) (sFor (iSeq (e2 (op2 addD) (ofF (fLst (aCons (eC .none) (aNil)))) (eVar 10))) (put 6) (sSeq (sAsg (eCall 3 m__law_better (aCons (eVar 5) (aCons (eVar 3) (aCons (eVar 6) (aNil))))) (put 7)) (sIf (notT (truR (eCall 2 m__law_is (aCons (eCall 4 m_likes_better (aApp (aCons (eVar 9) (aCons (eVar 4) (aCons (eVar 3) (aNil)))) (aCons (eVar 6) (aNil)))) (aCons (eVar 7) (aNil)))))) (sRet (eC (.bool false))) (sNil)))))) (sSeq (sOwn 8 (fLst (aCons (eHeard (cX 4 x_likes_better (aCons (eVar 9) (aCons (eC (.str "zz")) (aCons (eC (.str "zz")) (aCons (eC .none) (aNil))))))) (aNil)))) (sSeq (sApp 8 (eHeard (cX 4 x_likes_better (aCons (eVar 9) (aCons (eC .none) (aCons (e2 (op2 idxD) (eVar 10) (eC (.int 0))) (aCons (eC .none) (aNil)))))))) (sSeq (sApp 8 (eHeard (cX 4 x_likes_better (aCons (eVar 9) (aCons (eC (.str "ann")) (aCons (eC .none) (aCons (eC .none) (aNil)))))))) (sSeq (sApp 8 (eHeard (cX 4 x_likes_better (aCons (eVar 9) (aCons (eC (.str "ann")) (aCons (eC (.str "zz")) (aCons (e2 (op2 idxD) (eVar 10) (eC (.int 0))) (aNil)))))))) (sSeq (sApp 8 (eHeard (cX 4 x_likes_better (aCons (eVar 9) (aCons (eC (.str "ann")) (aCons (e2 (op2 idxD) (eVar 10) (eC (.int 0))) (aCons (eC (.str "zz")) (aNil)))))))) (sIf (toT (e2 (op2 neD) (eVar 8) (e2 (op2 addD) (e2 (op2 mulL) (ofF (fLst (aCons (eTup (aCons (eC (.str "no person")) (aNil))) (aNil)))) (eC (.int 2))) (e2 (op2 mulL) (ofF (fLst (aCons (eTup (aCons (eC (.str "no house")) (aNil))) (aNil)))) (eC (.int 3)))))) (sRet (eC (.bool false))) (sNil)))))))))))) (sRet (eC (.bool true))))
def m_law : List Int → Option D := runL 11 F_law
end W
namespace DL
open PySem L2

/-! ### how the mirrors reckon: f at ρ gives v, and ρ stays -/
def Ev (f : FE) (ρ : Rho) (v : D) : Prop := f ρ = some (.d v, ρ)
def Et (f : FT) (ρ : Rho) (b : Bool) : Prop := f ρ = some (b, ρ)
def Ea (f : FA) (ρ : Rho) (vs : List D) : Prop := f ρ = some (vs.map R.d, ρ)
def Ef (f : FF) (ρ : Rho) (vs : List D) : Prop := f ρ = some (vs, ρ)
def Ei (f : FI) (ρ : Rho) (rs : List R) : Prop := f ρ = some (rs, ρ)
/-- f at ρ gives what stands for v -/
def Ex (f : FE) (ρ : Rho) (v : D) : Prop := ∃ r, f ρ = some (r, ρ) ∧ rdo ρ r = some v
def Eax (f : FA) (ρ : Rho) (vs : List D) : Prop := ∃ rs, f ρ = some (rs, ρ) ∧ rdos ρ rs = some vs ∧ rs.length = vs.length
section
variable {ρ : Rho} {f g h : FE} {t u : FT} {x y z v : D} {a b c : Bool}
theorem Ev.ex (h : Ev f ρ v) : Ex f ρ v := ⟨_, h, rfl⟩
theorem ex_own {i : Nat} {xs : List D} (h : ρ[i]? = some (some (.l xs))) : Ex (eVar i) ρ (.list xs) := by
  refine ⟨.own i, ?_, ?_⟩
  · unfold eVar
    rw [h]
  · simp [rdo, h]
theorem ex_r {i : Nat} {xs : List D} (h : ρ[i]? = some (some (.r xs))) : Ex (eVar i) ρ (.list xs) := by
  refine ⟨.own i, ?_, ?_⟩
  · unfold eVar
    rw [h]
  · simp [rdo, h]
theorem ev_var {i : Nat} (h : ρ[i]? = some (some (.d v))) : Ev (eVar i) ρ v := by
  unfold Ev eVar
  rw [h]
theorem ev_c : Ev (eC v) ρ v := rfl
theorem ex_op {k : D → D → Option D} (hf : Ex f ρ x) (hg : Ex g ρ y) (hk : k x y = some z) : Ev (e2 (op2 k) f g) ρ z := by
  obtain ⟨r, h1, h2⟩ := hf
  obtain ⟨q, h3, h4⟩ := hg
  unfold Ev e2 op2
  simp [h1, h2, h3, h4, hk]
theorem ev_op {k : D → D → Option D} (hf : Ev f ρ x) (hg : Ev g ρ y) (hk : k x y = some z) : Ev (e2 (op2 k) f g) ρ z := ex_op hf.ex hg.ex hk
theorem ev_if (ht : Et t ρ b) (hf : b = true → Ev f ρ v) (hg : b = false → Ev g ρ v) : Ev (ifE t f g) ρ v := by
  unfold Ev ifE Et at *
  rw [ht]
  cases b with
  | true => exact hf rfl
  | false => exact hg rfl
theorem ev_and (hf : Ev f ρ (.bool a)) (hg : a = true → Ev g ρ (.bool b)) : Ev (andE f g) ρ (.bool (a && b)) := by
  unfold Ev andE at *
  rw [hf]
  cases a with
  | true => simpa [rdo, truD] using hg rfl
  | false => simp [rdo, truD]
theorem ev_or (hf : Ev f ρ (.bool a)) (hg : a = false → Ev g ρ (.bool b)) : Ev (orE f g) ρ (.bool (a || b)) := by
  unfold Ev orE at *
  rw [hf]
  cases a with
  | true => simp [rdo, truD]
  | false => simpa [rdo, truD] using hg rfl
theorem et_trux (hf : Ex f ρ x) (hx : truD x = some b) : Et (truR f) ρ b := by
  obtain ⟨r, h1, h2⟩ := hf
  unfold Et truR
  simp [h1, h2, hx]
theorem et_tru (hf : Ev f ρ x) (hx : truD x = some b) : Et (truR f) ρ b := et_trux hf.ex hx
theorem et_bool (hf : Ev f ρ (.bool b)) : Et (truR f) ρ b := et_tru hf rfl
theorem et_toT (hf : Ev f ρ (.bool b)) : Et (toT f) ρ b := by
  unfold Et toT Ev at *
  rw [hf]
theorem et_not (ht : Et t ρ b) : Et (notT t) ρ (!b) := by
  unfold Et notT at *
  rw [ht]
  rfl
theorem et_and (ht : Et t ρ a) (hu : a = true → Et u ρ b) : Et (andT t u) ρ (a && b) := by
  unfold Et andT at *
  rw [ht]
  cases a with
  | true => simpa using hu rfl
  | false => rfl
theorem et_or (ht : Et t ρ a) (hu : a = false → Et u ρ b) : Et (orT t u) ρ (a || b) := by
  unfold Et orT at *
  rw [ht]
  cases a with
  | true => rfl
  | false => simpa using hu rfl
theorem ev_not (hf : Ev f ρ x) (hx : truD x = some b) : Ev (notE f) ρ (.bool (!b)) := by
  unfold Ev notE
  rw [show truR f ρ = some (b, ρ) from et_tru hf hx]
  rfl
theorem ev_isi {T : String} (hf : Ev f ρ x) (hx : isD T x = some y) : Ev (eIsi T f) ρ y := by
  unfold Ev eIsi at *
  simp [hf, rdo, hx]
theorem ev_isN (hf : Ev f ρ x) : Ev (isNd f) ρ (.bool (isNone x)) := by
  unfold Ev isNd at *
  rw [hf]
theorem ev_isnN (hf : Ev f ρ x) : Ev (isnNd f) ρ (.bool (!isNone x)) := by
  unfold Ev isnNd at *
  rw [hf]
theorem ea_nil : Ea aNil ρ [] := rfl
theorem ea_cons {k : FA} {vs : List D} (hf : Ev f ρ x) (hk : Ea k ρ vs) : Ea (aCons f k) ρ (x :: vs) := by
  unfold Ea aCons Ev at *
  simp [hf, hk]
theorem ea_app {k l : FA} {vs ws : List D} (hk : Ea k ρ vs) (hl : Ea l ρ ws) : Ea (aApp k l) ρ (vs ++ ws) := by
  unfold Ea aApp at *
  simp [hk, hl]
theorem pls_map (vs : List D) : pls (vs.map R.d) = some vs := by
  induction vs with
  | nil => rfl
  | cons v vs ih => simp [pls, ih]
theorem rdos_map (vs : List D) : rdos ρ (vs.map R.d) = some vs := by
  induction vs with
  | nil => rfl
  | cons v vs ih => simp [rdos, rdo, ih]
theorem ev_tup {k : FA} {vs : List D} (hk : Ea k ρ vs) (hz : vs.length ≤ sizeLine) : Ev (eTup k) ρ (.tuple vs) := by
  unfold Ev eTup Ea at *
  simp [hk, pls_map, hz]
theorem ef_lst {k : FA} {vs : List D} (hk : Ea k ρ vs) (hz : vs.length ≤ sizeLine) : Ef (fLst k) ρ vs := by
  unfold Ef fLst Ea at *
  simp [hk, pls_map, hz]
theorem ev_F {k : FF} {vs : List D} (hk : Ef k ρ vs) : Ev (ofF k) ρ (.list vs) := by
  unfold Ev ofF Ef at *
  simp [hk]
theorem ex_b1 {k : D → Option D} (hf : Ex f ρ x) (hx : k x = some y) : Ev (eB (b1 k) (aCons f aNil)) ρ y := by
  obtain ⟨r, h1, h2⟩ := hf
  unfold Ev eB aCons aNil b1
  simp [h1, h2, hx]
theorem ev_b1 {k : D → Option D} (hf : Ev f ρ x) (hx : k x = some y) : Ev (eB (b1 k) (aCons f aNil)) ρ y := ex_b1 hf.ex hx
theorem eax_nil : Eax aNil ρ [] := ⟨[], rfl, rfl, rfl⟩
theorem eax_cons {k : FA} {vs : List D} (hf : Ex f ρ x) (hk : Eax k ρ vs) : Eax (aCons f k) ρ (x :: vs) := by
  obtain ⟨r, h1, h2⟩ := hf
  obtain ⟨rs, h3, h4, h5⟩ := hk
  refine ⟨r :: rs, ?_, ?_, by simp [h5]⟩
  · unfold aCons
    simp [h1, h3]
  · simp [rdos, h2, h4]
theorem ex_call {n : Nat} {m : List D → Option D} {k : FA} {vs : List D} (hk : Eax k ρ vs) (hn : vs.length = n) (hm : m vs = some v) : Ev (eCall n m k) ρ v := by
  obtain ⟨rs, h1, h2, h3⟩ := hk
  unfold Ev eCall
  simp [h1, h2, h3, hn, hm]
theorem ev_call {n : Nat} {m : List D → Option D} {k : FA} {vs : List D} (hk : Ea k ρ vs) (hn : vs.length = n) (hm : m vs = some v) : Ev (eCall n m k) ρ v := by
  unfold Ev eCall Ea at *
  simp [hk, hn, rdos_map, hm]
theorem ev_ch {k l : D → D → Option D} (hf : Ev f ρ x) (hg : Ev g ρ y) (hh : Ev h ρ z) (hk : k x y = some (.bool a)) (hl : l y z = some (.bool b)) : Ev (chE (op2 k) (op2 l) f g h) ρ (.bool (a && b)) := by
  unfold Ev chE op2 at *
  cases a with
  | true => simp [hf, hg, hh, rdo, hk, hl]
  | false => simp [hf, hg, rdo, hk]
theorem ex_lenZ {n : Nat} (hf : Ex f ρ x) (hx : setD x = some n) : Ev (eLenZ (zSet f)) ρ (.int n) := by
  obtain ⟨r, h1, h2⟩ := hf
  unfold Ev eLenZ zSet
  simp [h1, h2, hx]
theorem ev_lenZ {n : Nat} (hf : Ev f ρ x) (hx : setD x = some n) : Ev (eLenZ (zSet f)) ρ (.int n) := ex_lenZ hf.ex hx
theorem ev_sl {lo hi : FO} {l u : Option Int} (hf : Ev f ρ x) (hl : lo ρ = some (l, ρ)) (hu : hi ρ = some (u, ρ)) (hc : cutD l u x = some y) : Ev (eSl f lo hi) ρ y := by
  unfold Ev eSl at *
  simp [hf, hl, hu, rdo, hc]
theorem o_none : oNone ρ = some (none, ρ) := rfl
theorem o_some {i : Int} (hf : Ev f ρ (.int i)) : oSome f ρ = some (some i, ρ) := by
  unfold oSome
  rw [show f ρ = some (.d (.int i), ρ) from hf]
theorem ev_dget {k : FE} {kvs : List (Str × D)} {s : Str} (hf : Ev f ρ x) (hd : dictD x = some kvs) (hn : (kvs.map (·.1)).Nodup) (hz : kvs.length ≤ sizeLine) (hk : Ev k ρ (.str s)) (hl : lkp kvs s = some v) : Ev (eDGet (mDict f) k) ρ v := by
  unfold Ev eDGet mDict at *
  simp [hf, rdo, hd, hn, hz, hk, hl]
theorem ev_mget {i : Nat} {kvs : List (Str × D)} {s : Str} (hi : ρ[i]? = some (some (.m kvs))) (hf : Ev f ρ (.str s)) (hl : lkp kvs s = some v) : Ev (eMGet' i f) ρ v := by
  unfold Ev eMGet' eMGet at *
  have hm : mAt i ρ = some kvs := by
    unfold mAt
    rw [hi]
  simp [hm, hf, hl]
/-! iterators -/
theorem ei_seq {xs : List D} (hf : Ev f ρ x) (hx : seqD x = some xs) : Ei (iSeq f) ρ (xs.map R.d) := by
  unfold Ei iSeq Ev at *
  simp [hf, out1, hx]
theorem ei_str {s : Str} (hf : Ev f ρ (.str s)) : Ei (iStrD f) ρ (s.cps.toList.map fun c => R.d (.str ⟨#[c]⟩)) := by
  unfold Ei iStrD Ev at *
  rw [hf]
theorem ei_zip {xs ys : List D} (hf : Ev f ρ x) (hg : Ev g ρ y) (hx : seqD x = some xs) (hy : seqD y = some ys) : Ei (iZp f g) ρ ((xs.zip ys).map fun z => R.w [z.1, z.2]) := by
  unfold Ei iZp Ev at *
  simp [hf, hg, out1, hx, hy]
theorem ei_enum {xs : List D} (hf : Ev f ρ x) (hx : seqD x = some xs) : Ei (iEn f) ρ (enumD 0 xs) := by
  unfold Ei iEn Ev at *
  simp [hf, out1, hx]
theorem ei_own {i : Nat} {xs : List D} (h : ρ[i]? = some (some (.d (.list xs)))) : Ei (iSeq (eVar i)) ρ (xs.map R.d) := ei_seq (ev_var h) rfl
/-! comprehensions -/
theorem lcD_eq {g : FG} {ft : FT} {fe : FE} {vs : List Nat} {r : R} {rs : List R} : lcD g ft fe vs (r :: rs) ρ = (g r ρ).bind fun ρ1 => (ft ρ1).bind fun p => if p.1 = true then
      (fe p.2).bind fun q => (out1 q.1 q.2).bind fun u => if okW u.2 vs = true then (lcD g ft fe vs rs (wpR u.2 vs)).map fun w => (u.1 :: w.1, w.2) else none
    else if okW p.2 vs = true then lcD g ft fe vs rs (wpR p.2 vs) else none := by rw [lcD]
theorem lcD_all {g : FG} {vs : List Nat} {α : Type} (k : α → R) (st : α → Rho) (p : α → Bool) (o : α → D) (hg : ∀ a, g (k a) ρ = some (st a)) (hw : ∀ a, wpR (st a) vs = ρ) (ok : ∀ a, okW (st a) vs = true) :
    ∀ {l : List α}, (∀ a ∈ l, Et t (st a) (p a)) → (∀ a ∈ l, p a = true → Ev f (st a) (o a)) → lcD g t f vs (l.map k) ρ = some ((l.filter p).map o, ρ)
  | [], _, _ => rfl
  | a :: l, h1, h2 => by
    have ih := lcD_all k st p o hg hw ok (l := l) (fun b hb => h1 b (List.mem_cons_of_mem _ hb)) (fun b hb => h2 b (List.mem_cons_of_mem _ hb))
    rw [List.map_cons, lcD_eq, hg a]
    have e1 : t (st a) = some (p a, st a) := h1 a List.mem_cons_self
    simp only [Option.bind_some, e1]
    cases hp : p a with
    | true =>
      have e2 : f (st a) = some (.d (o a), st a) := h2 a List.mem_cons_self hp
      simp [e2, out1, ok a, hw a, ih, hp]
    | false => simp [ok a, hw a, ih, hp]
theorem rst_wp {vs : List Nat} (h : ∀ v ∈ vs, v < ρ.length) : rstR ρ (wpR ρ vs) vs = ρ := by
  refine List.ext_getElem? fun j => ?_
  by_cases hj : j ∈ vs
  · have hl := h j hj
    rw [(rstR_get ρ _ j vs).2 hj (by rw [wpR_len]; exact hl), List.getElem?_eq_getElem hl]
    simp
  · rw [(rstR_get ρ _ j vs).1 hj, (wpR_get ρ j vs).1 hj]
theorem ef_lc {fi : FI} {g : FG} {vs : List Nat} {α : Type} {l : List α} (k : α → R) (st : α → Rho) (p : α → Bool) (o : α → D) (hi : Ei fi ρ (l.map k)) (hv : ∀ v ∈ vs, v < ρ.length) (hok : okW ρ vs = true) (hz : l.length ≤ sizeLine)
    (hg : ∀ a, g (k a) (wpR ρ vs) = some (st a)) (hw : ∀ a, wpR (st a) vs = wpR ρ vs) (ok : ∀ a, okW (st a) vs = true) (h1 : ∀ a ∈ l, Et t (st a) (p a)) (h2 : ∀ a ∈ l, p a = true → Ev f (st a) (o a)) :
    Ef (fLc fi g t f vs) ρ ((l.filter p).map o) := by
  unfold Ef fLc
  rw [show fi ρ = some (l.map k, ρ) from hi]
  simp only [Option.bind_some]
  rw [if_pos ⟨hok, by simpa using hz⟩, lcD_all k st p o hg hw ok h1 h2]
  simp [rst_wp hv]
/-- one name -/
theorem ef_lc1 {fi : FI} {i : Nat} {xs : List D} (p : D → Bool) (o : D → D) (hi : Ei fi ρ (xs.map R.d)) (hl : i < ρ.length) (hok : okW ρ [i] = true) (hz : xs.length ≤ sizeLine)
    (h1 : ∀ a ∈ xs, Et t (ρ.set i (some (.d a))) (p a)) (h2 : ∀ a ∈ xs, p a = true → Ev f (ρ.set i (some (.d a))) (o a)) : Ef (fLc fi (put i) t f [i]) ρ ((xs.filter p).map o) := by
  have e : ∀ a : D, (wpR ρ [i]).set i (some (.d a)) = ρ.set i (some (.d a)) := fun a => by simp [wpR, List.set_set]
  refine ef_lc R.d (fun a => ρ.set i (some (.d a))) p o hi (fun v hv => by rw [List.mem_singleton.mp hv]; exact hl) hok hz (fun a => ?_) (fun a => ?_) (fun a => ?_) h1 h2
  · unfold put
    rw [wpR_len]
    simp [hl, e]
  · simp [wpR, List.set_set]
  · simp [okW, hl]
theorem filter_yes {α : Type} (l : List α) : l.filter (fun _ => true) = l := by simp
/-- one name, no test -/
theorem ef_lcm {fi : FI} {i : Nat} {xs : List D} (o : D → D) (hi : Ei fi ρ (xs.map R.d)) (hl : i < ρ.length) (hok : okW ρ [i] = true) (hz : xs.length ≤ sizeLine) (h2 : ∀ a ∈ xs, Ev f (ρ.set i (some (.d a))) (o a)) :
    Ef (fLc fi (put i) tYesT f [i]) ρ (xs.map o) := by
  have := ef_lc1 (t := tYesT) (fun _ => true) o hi hl hok hz (fun _ _ => rfl) fun a ha _ => h2 a ha
  rwa [filter_yes] at this
/-- two names of a pair -/
theorem ef_lc2 {fi : FI} {i j : Nat} {ps : List (D × D)} (k : D × D → R) (hk : (∀ q, k q = R.w [q.1, q.2]) ∨ (∀ q, k q = R.d (.tuple [q.1, q.2]))) (p : D × D → Bool) (o : D × D → D) (hi : Ei fi ρ (ps.map k)) (hij : i ≠ j) (hl : i < ρ.length) (hl2 : j < ρ.length) (hok : okW ρ [i, j] = true) (hz : ps.length ≤ sizeLine)
    (h1 : ∀ a ∈ ps, Et t ((ρ.set i (some (.d a.1))).set j (some (.d a.2))) (p a)) (h2 : ∀ a ∈ ps, p a = true → Ev f ((ρ.set i (some (.d a.1))).set j (some (.d a.2))) (o a)) : Ef (fLc fi (gT 2 (gC (put i) (gC (put j) gN))) t f [i, j]) ρ ((ps.filter p).map o) := by
  have e : ∀ a : D × D, ((wpR ρ [i, j]).set i (some (.d a.1))).set j (some (.d a.2)) = (ρ.set i (some (.d a.1))).set j (some (.d a.2)) := fun a => by
    refine List.ext_getElem? fun m => ?_
    simp only [wpR, List.getElem?_set, List.length_set]
    by_cases a1 : j = m <;> by_cases a2 : i = m <;> simp [a1, a2]
  refine ef_lc k (fun a => (ρ.set i (some (.d a.1))).set j (some (.d a.2))) p o hi (fun v hv => ?_) hok hz (fun a => ?_) (fun a => ?_) (fun a => ?_) h1 h2
  · rcases List.mem_cons.mp hv with h | h
    · rw [h]; exact hl
    · rw [List.mem_singleton.mp h]; exact hl2
  · have l1 : (wpR ρ [i, j]).length = ρ.length := wpR_len _ _
    rcases hk with hk | hk
    · rw [hk]
      simp [gT, gC, gN, put, l1, hl, hl2, e]
    · rw [hk]
      simp [gT, gC, gN, put, l1, hl, hl2, e]
  · refine List.ext_getElem? fun m => ?_
    simp only [wpR, List.getElem?_set, List.length_set]
    by_cases a1 : j = m <;> by_cases a2 : i = m <;> simp [a1, a2]
  · simp [okW, hl, hl2, hij, Ne.symm hij, List.getElem?_set]
/-! statements -/
theorem es_seq {k l : FS} {ρ1 : Rho} {o : Out} (h1 : k ρ = some (.next ρ1)) (h2 : l ρ1 = some o) : sSeq k l ρ = some o := by
  unfold sSeq
  rw [h1]
  exact h2
theorem es_stop {k l : FS} {d : D} {ρ1 : Rho} (h1 : k ρ = some (.ret d ρ1)) : sSeq k l ρ = some (.ret d ρ1) := by
  unfold sSeq
  rw [h1]
  rfl
theorem es_if {k l : FS} {o : Option Out} (ht : Et t ρ b) (hk : b = true → k ρ = o) (hl : b = false → l ρ = o) : sIf t k l ρ = o := by
  unfold sIf
  rw [show t ρ = some (b, ρ) from ht]
  cases b with
  | true => exact hk rfl
  | false => exact hl rfl
theorem es_ret (hf : Ev f ρ v) : sRet f ρ = some (.ret v ρ) := by
  unfold sRet
  rw [show f ρ = some (.d v, ρ) from hf]
  rfl
theorem es_nil : sNil ρ = some (.next ρ) := rfl
theorem es_set {i : Nat} (hf : Ev f ρ v) (hi : i < ρ.length) : sAsg f (put i) ρ = some (.next (ρ.set i (some (.d v)))) := by
  unfold sAsg
  rw [show f ρ = some (.d v, ρ) from hf]
  simp [out1, put, hi]
theorem es_own {i : Nat} {k : FF} {vs : List D} (hf : Ef k ρ vs) (hi : i < ρ.length) : sOwn i k ρ = some (.next (ρ.set i (some (.l vs)))) := by
  unfold sOwn
  rw [show k ρ = some (vs, ρ) from hf]
  simp [hi]
/-- if the test holds the def tells false; else it goes on -/
theorem es_guard {l : FS} {w : Bool} {ρ1 : Rho} {o : Option Out} (ht : Et t ρ b) (h0 : b = true → o = some (.ret (.bool w) ρ)) (h1 : b = false → l ρ = o) : sSeq (sIf t (sRet (eC (.bool w))) sNil) l ρ = o := by
  cases b with
  | true =>
    rw [h0 rfl]
    refine es_stop ?_
    unfold sIf
    rw [show t ρ = some (true, ρ) from ht]
    rfl
  | false =>
    unfold sSeq sIf
    rw [show t ρ = some (false, ρ) from ht]
    exact h1 rfl
theorem runA_of {n : Nat} {F : FS} {ds : List D} {ρ1 : Rho} (h : F (pad n (ds.map B.d)) = some (.ret v ρ1)) (hi : imm v = true) : runA n F ds = some v := by
  unfold runA
  rw [h]
  simp [endD, hi]
theorem runB_of {n : Nat} {F : FS} {ds : List D} {bs : List B} {ρ1 : Rho} (hb : bindArgs ds = some bs) (h : F (pad n bs) = some (.ret v ρ1)) : runB n F ds = some v := by
  unfold runB
  rw [hb]
  simp [h, endD]
/-! loops -/
theorem forD_eq {g : FG} {k : FS} {r : R} {rs : List R} : forD g k (r :: rs) ρ = (g r ρ).bind fun ρ1 => (k ρ1).bind fun o => match o with
    | .next ρ2 => forD g k rs ρ2
    | .cont ρ2 => forD g k rs ρ2
    | .brk ρ2 => some (.next ρ2)
    | .ret d ρ2 => some (.ret d ρ2)
    | .exc x => some (.exc x) := by
  rw [forD] <;> rfl
theorem whileD_eq {k : FS} {n : Nat} : whileD t k (n + 1) ρ = (t ρ).bind fun p => if p.1 = true then (k p.2).bind fun o => match o with
    | .next ρ2 => whileD t k n ρ2
    | .cont ρ2 => whileD t k n ρ2
    | .brk ρ2 => some (.next ρ2)
    | .ret d ρ2 => some (.ret d ρ2)
    | .exc x => some (.exc x) else some (.next p.2) := by
  rw [whileD] <;> rfl
end
end DL
namespace DL
open PySem L2
theorem es_asg2 {ρ : Rho} {f : FE} {x y : D} {i j : Nat} (hf : Ev f ρ (.tuple [x, y])) (hi : i < ρ.length) (hj : j < ρ.length) : sAsg f (gT 2 (gC (put i) (gC (put j) gN))) ρ = some (.next ((ρ.set i (some (.d x))).set j (some (.d y)))) := by
  unfold sAsg
  rw [show f ρ = some (.d (.tuple [x, y]), ρ) from hf]
  simp [out1, gT, gC, gN, put, hi, hj]
end DL
namespace DL
open PySem L2
theorem es_app {ρ : Rho} {f : FE} {v : D} {i : Nat} {xs : List D} (hi : ρ[i]? = some (some (.l xs))) (hf : Ev f ρ v) (hz : xs.length < sizeLine) : sApp i f ρ = some (.next (ρ.set i (some (.l (xs ++ [v]))))) := by
  have hm : ownAt i ρ = some xs := by
    unfold ownAt
    rw [hi]
  unfold sApp
  rw [hm, show f ρ = some (.d v, ρ) from hf]
  simp [out1, hm, hz]
theorem es_for {ρ : Rho} {fi : FI} {g : FG} {k : FS} {rs : List R} (h : Ei fi ρ rs) : sFor fi g k ρ = forD g k rs ρ := by
  unfold sFor
  rw [show fi ρ = some (rs, ρ) from h]
  rfl
theorem for_next {ρ ρ1 ρ2 : Rho} {g : FG} {k : FS} {r : R} {rs : List R} (hg : g r ρ = some ρ1) (hk : k ρ1 = some (.next ρ2)) : forD g k (r :: rs) ρ = forD g k rs ρ2 := by
  rw [forD_eq, hg]
  simp [hk]
end DL
namespace DL
open PySem L2
theorem es_ownM {ρ : Rho} {f : FE} {x : D} {i : Nat} {kvs : List (Str × D)} (hf : Ev f ρ x) (hd : dictD x = some kvs) (hn : (kvs.map (·.1)).Nodup) (hz : kvs.length ≤ sizeLine) (hi : i < ρ.length) : sOwnM i (mDict f) ρ = some (.next (ρ.set i (some (.m kvs)))) := by
  unfold sOwnM sPar xM xNil mDict
  rw [show f ρ = some (.d x, ρ) from hf]
  simp [rdo, hd, hn, hz, putX, hi]
end DL

namespace W
open PySem L2 DL
def isTup : D → Bool
  | .tuple _ => true
  | _ => false
def isStr : D → Bool
  | .str _ => true
  | _ => false
def isBool : D → Bool
  | .bool _ => true
  | _ => false
theorem kit1 : kitB "NoneType" "tuple" = some false ∧ kitB "bool" "tuple" = some false ∧ kitB "int" "tuple" = some false ∧ kitB "str" "tuple" = some false ∧ kitB "tuple" "tuple" = some true ∧ kitB "list" "tuple" = some false ∧ kitB "dict" "tuple" = some false := by decide +kernel
theorem kit2 : kitB "NoneType" "str" = some false ∧ kitB "bool" "str" = some false ∧ kitB "int" "str" = some false ∧ kitB "str" "str" = some true ∧ kitB "tuple" "str" = some false ∧ kitB "list" "str" = some false ∧ kitB "dict" "str" = some false := by decide +kernel
theorem kit3 : kitB "NoneType" "bool" = some false ∧ kitB "bool" "bool" = some true ∧ kitB "int" "bool" = some false ∧ kitB "str" "bool" = some false ∧ kitB "tuple" "bool" = some false ∧ kitB "list" "bool" = some false ∧ kitB "dict" "bool" = some false := by decide +kernel
theorem isD_tup (d : D) : isD "tuple" d = some (.bool (isTup d)) := by
  obtain ⟨h1, h2, h3, h4, h5, h6, h7⟩ := kit1
  cases d <;> simp [isD, tyN, isTup, h1, h2, h3, h4, h5, h6, h7]
theorem isD_str (d : D) : isD "str" d = some (.bool (isStr d)) := by
  obtain ⟨h1, h2, h3, h4, h5, h6, h7⟩ := kit2
  cases d <;> simp [isD, tyN, isStr, h1, h2, h3, h4, h5, h6, h7]
theorem isD_bool (d : D) : isD "bool" d = some (.bool (isBool d)) := by
  obtain ⟨h1, h2, h3, h4, h5, h6, h7⟩ := kit3
  cases d <;> simp [isD, tyN, isBool, h1, h2, h3, h4, h5, h6, h7]
theorem sizeL : sizeLine = 16777216 := sizeLine_eq
theorem allD_bools (bs : List Bool) : allD (.list (bs.map PyData.bool)) = some (.bool (bs.all id)) := by simp [allD, boolsOf_map]
theorem allD_map {α : Type} (f : α → Bool) (l : List α) : allD (.list (l.map fun a => PyData.bool (f a))) = some (.bool (l.all f)) := by
  have := allD_bools (l.map f)
  rw [List.map_map] at this
  rw [show (l.map fun a => PyData.bool (f a)) = l.map (PyData.bool ∘ f) from rfl, this]
  simp [List.all_map]
theorem anyD_map {α : Type} (f : α → Bool) (l : List α) : anyD (.list (l.map fun a => PyData.bool (f a))) = some (.bool (l.any f)) := by
  have e := boolsOf_map (l.map f)
  rw [List.map_map] at e
  show (boolsOf (l.map (PyData.bool ∘ f))).map _ = _
  rw [e]
  simp [List.any_map]

/-! ### nice data -/
def nice : Nat → D → Bool
  | 0, _ => false
  | _ + 1, .str s => decide (s.length ≤ 1000)
  | n + 1, .tuple xs => decide (xs.length ≤ 1000) && xs.all (nice n)
  | n + 1, .list xs => decide (xs.length ≤ 1000) && xs.all (nice n)
  | _ + 1, .dict _ => false
  | _ + 1, .none => true
  | _ + 1, .bool _ => true
  | _ + 1, .int _ => true

/-! ### is_name -/
def letters : List Nat := (("abcdefghijklmnopqrstuvwxyz" : Str)).cps.toList
def nameS (s : Str) : Bool := decide ((1 : Int) ≤ s.length) && decide ((s.length : Int) ≤ 8) && s.cps.toList.all fun c => decide (c ∈ letters)
def nameB : D → Bool
  | .str s => nameS s
  | _ => false
/-! ### is_rising -/
def ltS (a b : Str) : Bool := decide (a.cps.toList < b.cps.toList)
def risingS (ss : List Str) : Bool := (ss.zip (ss.drop 1)).all fun p => ltS p.1 p.2
theorem cut_from {α : Type} (xs : List α) (k : Nat) : cutL xs (some (k : Int)) none = xs.drop k := by
  unfold cutL
  rw [HT.sIx_nat, HT.sIx_none]
  by_cases h : k ≤ xs.length
  · rw [Nat.min_eq_left h]
    exact List.take_of_length_le (by rw [List.length_drop]; omega)
  · rw [Nat.min_eq_right (by omega), List.drop_of_length_le (Nat.le_refl _), List.drop_of_length_le (by omega)]
    simp
theorem cut_to {α : Type} (xs : List α) (k : Nat) : cutL xs none (some (k : Int)) = xs.take k := by
  unfold cutL
  rw [HT.sIx_nat, HT.sIx_none]
  simp
theorem zip_strs (ss ts : List Str) : (ss.map PyData.str).zip (ts.map PyData.str) = (ss.zip ts).map fun p => (PyData.str p.1, PyData.str p.2) := by
  rw [List.zip_map]
  rfl
/-! ### are_some -/
def strIn (ss : List Str) : D → Bool
  | .str s => decide (s ∈ ss)
  | _ => false
def txt : D → Str
  | .str s => s
  | _ => Str.empty
def distS (ss : List Str) : Bool := decide ((ddl (ss.map Sum.inr)).length = ss.length)
def someB (ss : List Str) : D → Bool
  | .tuple xs => xs.all (strIn ss) && distS (xs.map txt)
  | _ => false
theorem eqv_str (a b : Str) : PyData.eqv (.str a) (.str b) = decide (a = b) := by
  unfold PyData.eqv
  by_cases h : a = b <;> simp [h]
theorem any_str (ss : List Str) (s : Str) : ((ss.map PyData.str).any fun y => PyData.eqv y (.str s)) = decide (s ∈ ss) := by
  rw [List.any_map]
  induction ss with
  | nil => simp
  | cons t ts ih =>
    rw [List.any_cons, ih]
    show (PyData.eqv (.str t) (.str s) || _) = _
    rw [eqv_str]
    by_cases h : t = s
    · simp [h]
    · simp [h, Ne.symm h]
theorem depth_strs (ss : List Str) : PyData.depthAll (ss.map PyData.str) = 0 := by
  induction ss with
  | nil => rfl
  | cons s ss ih => simp [PyData.depthAll, PyData.depth, ih]
theorem in_strs (ss : List Str) (s : Str) : inD (.str s) (.list (ss.map .str)) = some (.bool (decide (s ∈ ss))) := by
  simp only [inD, inB]
  rw [if_pos (by rw [depth_strs]; decide), any_str]
  rfl
theorem in_strsT (ss : List Str) (s : Str) : inD (.str s) (.tuple (ss.map .str)) = some (.bool (decide (s ∈ ss))) := by
  simp only [inD, inB]
  rw [if_pos (by rw [depth_strs]; decide), any_str]
  rfl
theorem all_txt {ss : List Str} : ∀ {xs : List D}, xs.all (strIn ss) = true → xs = (xs.map txt).map PyData.str
  | [], _ => rfl
  | x :: xs, h => by
    rw [List.all_cons, Bool.and_eq_true] at h
    have ih := all_txt h.2
    cases x <;> simp [strIn] at h
    simp only [List.map_cons, txt]
    rw [← ih]
theorem eq_int (a b : Int) : eqD (.int a) (.int b) = some (.bool (decide (a = b))) := by
  unfold eqD
  rw [if_pos (show (PyData.int a).depth ≤ 60 by simp [PyData.depth])]
  unfold PyData.eqv
  by_cases h : a = b <;> simp [h]
theorem ne_int (a b : Int) : neD (.int a) (.int b) = some (.bool (!decide (a = b))) := by
  unfold neD
  rw [if_pos (show (PyData.int a).depth ≤ 60 by simp [PyData.depth])]
  unfold PyData.eqv
  by_cases h : a = b <;> simp [h]
end W

namespace W
open PySem L2 DL

/-! ### are_named -/
def pairB : D → Bool
  | .tuple [a, _] => nameB a
  | _ => false
def fst0 : D → Str
  | .tuple (.str s :: _) => s
  | _ => Str.empty
def namedB : D → Bool
  | .tuple xs => decide (xs.length ≤ 5) && xs.all pairB && risingS (xs.map fst0)
  | _ => false
theorem pairB_inv {x : D} (h : pairB x = true) : ∃ s b, x = .tuple [.str s, b] ∧ nameS s = true := by
  unfold pairB at h
  split at h
  · rename_i a b
    cases a <;> simp [nameB] at h
    exact ⟨_, _, rfl, h⟩
  · cases h
theorem isTup_inv {d : D} (h : isTup d = true) : ∃ xs, d = .tuple xs := by
  cases d <;> simp [isTup] at h
  exact ⟨_, rfl⟩
theorem nice_tup {n : Nat} {xs : List D} (h : nice (n + 1) (.tuple xs) = true) : xs.length ≤ 1000 ∧ ∀ x ∈ xs, nice n x = true := by
  simp [nice] at h
  exact h
theorem nice_up : ∀ {n : Nat} {d : D}, nice n d = true → nice (n + 1) d = true
  | 0, d, h => by simp [nice] at h
  | n + 1, d, h => by
    cases d with
    | tuple xs =>
      simp [nice] at h ⊢
      exact ⟨h.1, fun x hx => by have := nice_up (h.2 x hx); simpa [nice] using this⟩
    | list xs =>
      simp [nice] at h ⊢
      exact ⟨h.1, fun x hx => by have := nice_up (h.2 x hx); simpa [nice] using this⟩
    | str s => simpa [nice] using h
    | none => rfl
    | bool b => rfl
    | int i => rfl
    | dict k => simp [nice] at h
theorem nice_name {n : Nat} {d : D} (h : nice (n + 1) d = true) : nice 1 d = true ∨ isStr d = false := by
  cases d with
  | str s => exact .inl (by simpa [nice] using h)
  | _ => exact .inr rfl
theorem gt_int (a b : Int) : gtD (.int a) (.int b) = some (.bool (decide (b < a))) := rfl
theorem idx0 (a : D) (xs : List D) : idxD (.tuple (a :: xs)) (.int 0) = some a := by
  simp [idxD, atI, ixN]
theorem idx1 (a b : D) (xs : List D) : idxD (.tuple (a :: b :: xs)) (.int 1) = some b := by
  simp [idxD, atI, ixN]
  rw [if_pos (by omega)]
  rfl
end W

namespace W
open PySem L2 DL

/-! ### is_book -/
def items : D → List D
  | .tuple xs => xs
  | _ => []
def snd1 : D → D
  | .tuple (_ :: b :: _) => b
  | _ => .none
def namesOf (d : D) : List Str := (items d).map fst0
def allSome (ss : List Str) (d : D) : Bool := (items d).all fun x => someB ss (snd1 x)
def bookB : D → Bool
  | .tuple [a, b] => namedB a && namedB b && (allSome (namesOf b) a && allSome (namesOf a) b)
  | _ => false
theorem namedB_inv {a : D} (h : namedB a = true) : ∃ xs, a = .tuple xs ∧ xs.length ≤ 5 ∧ (∀ x ∈ xs, pairB x = true) ∧ risingS (xs.map fst0) = true := by
  unfold namedB at h
  split at h
  · rename_i xs
    simp at h
    exact ⟨xs, rfl, h.1.1, h.1.2, h.2⟩
  · cases h
theorem lc_fst {ρ : Rho} {i : Nat} {f : FE} {xs : List D} (hf : Ev f ρ (.tuple xs)) (hi : i < ρ.length) (hok : okW ρ [i] = true) (hz : xs.length ≤ 5) (hx : ∀ x ∈ xs, pairB x = true) :
    Ef (fLc (iSeq f) (put i) tYesT (e2 (op2 idxD) (eVar i) (eC (.int 0))) [i]) ρ (xs.map fun x => .str (fst0 x)) := by
  refine ef_lcm _ (ei_seq hf rfl) hi hok (by rw [sizeL]; omega) fun x hxm => ?_
  obtain ⟨s, b, rfl, _⟩ := pairB_inv (hx x hxm)
  exact ev_op (ev_var (v := .tuple [.str s, b]) (by simp [hi])) ev_c (idx0 (.str s) [b])
end W

namespace W
open PySem L2 DL

/-! ### _law_spoilt -/
def odds : List D := [.str "!", .int 3, .tuple [.str "ann", .int 3], .list []]
def spoilAt (xs : List D) (i : Nat) (os : List D) : List D := os.map fun o => .tuple (xs.take i ++ [o] ++ xs.drop (i + 1))
mutual
def spoil : Nat → D → List D
  | 0, _ => []
  | n + 1, .tuple xs => spoils n xs 0 xs ++ [.list xs, .tuple (xs ++ [.str "!"]), .tuple (xs ++ [.int 3])]
  | _ + 1, _ => []
termination_by n _ => (n, 0)
def spoils : Nat → List D → Nat → List D → List D
  | _, _, _, [] => []
  | n, xs, i, x :: rest => spoilAt xs i (odds ++ spoil n x) ++ spoils n xs (i + 1) rest
termination_by n _ _ l => (n, l.length + 1)
end
theorem spoils_le {n : Nat} {xs : List D} {x : D} : ∀ {i : Nat} {l : List D}, x ∈ l → (spoil n x).length ≤ (spoils n xs i l).length
  | i, [], h => by cases h
  | i, y :: l, h => by
    rw [spoils]
    rw [List.length_append, spoilAt, List.length_map, List.length_append]
    rcases List.mem_cons.mp h with rfl | h
    · omega
    · have := spoils_le (n := n) (xs := xs) (i := i + 1) h
      omega
theorem add_tup (xs ys : List D) (h : xs.length + ys.length ≤ 1000000) : addD (.tuple xs) (.tuple ys) = some (.tuple (xs ++ ys)) := by
  simp only [addD]
  rw [if_pos (by rw [sizeL]; omega)]
theorem add_list (xs ys : List D) (h : xs.length + ys.length ≤ 10000000) : addD (.list xs) (.list ys) = some (.list (xs ++ ys)) := by
  simp only [addD]
  rw [if_pos (by rw [sizeL]; omega)]
theorem cutD_to (xs : List D) (k : Nat) : cutD none (some (k : Int)) (.tuple xs) = some (.tuple (xs.take k)) := congrArg (fun l => some (PyData.tuple l)) (cut_to xs k)
theorem cutD_from (xs : List D) (k : Nat) : cutD (some (k : Int)) none (.tuple xs) = some (.tuple (xs.drop k)) := congrArg (fun l => some (PyData.tuple l)) (cut_from xs k)
theorem inner (xs : List D) (hx : xs.length ≤ 1000) (i : Nat) (x : D) : ∀ (os acc : List D) (q : Option B), acc.length + os.length ≤ 1000000 →
    ∃ q', forD (put 4) (sApp 1 (e2 (op2 addD) (e2 (op2 addD) (eSl (eVar 0) oNone (oSome (eVar 2))) (eTup (aCons (eVar 4) aNil))) (eSl (eVar 0) (oSome (e2 (op2 addD) (eVar 2) (eC (.int 1)))) oNone))) (os.map R.d) [some (.d (.tuple xs)), some (.l acc), some (.d (.int (i : Nat))), some (.d x), q] =
      some (.next [some (.d (.tuple xs)), some (.l (acc ++ spoilAt xs i os)), some (.d (.int (i : Nat))), some (.d x), q'])
  | [], acc, q, _ => ⟨q, by simp [forD, spoilAt]⟩
  | o :: os, acc, q, h => by
    rw [List.length_cons] at h
    obtain ⟨q', ih⟩ := inner xs hx i x os (acc ++ [.tuple (xs.take i ++ [o] ++ xs.drop (i + 1))]) (some (.d o)) (by simp; omega)
    refine ⟨q', ?_⟩
    rw [List.map_cons, for_next (ρ1 := [some (.d (.tuple xs)), some (.l acc), some (.d (.int (i : Nat))), some (.d x), some (.d o)]) rfl (es_app (xs := acc) (v := .tuple (xs.take i ++ [o] ++ xs.drop (i + 1))) rfl ?_ (by rw [sizeL]; omega))]
    · have e : acc ++ spoilAt xs i (o :: os) = acc ++ [.tuple (xs.take i ++ [o] ++ xs.drop (i + 1))] ++ spoilAt xs i os := by simp [spoilAt]
      rw [e]
      exact ih
    · have l1 : (xs.take i).length ≤ xs.length := by simp [List.length_take]; omega
      have l2 : (xs.drop (i + 1)).length ≤ xs.length := by simp [List.length_drop]
      refine ev_op (ev_op (ev_sl (ev_var rfl) o_none (o_some (ev_var rfl)) (cutD_to xs i)) (ev_tup (ea_cons (ev_var rfl) ea_nil) (by simp [sizeL])) (add_tup _ _ (by simp [List.length_take]; omega))) (ev_sl (ev_var rfl) (o_some (i := ((i + 1 : Nat) : Int)) (ev_op (ev_var rfl) ev_c (by simp [addD]))) o_none (cutD_from xs (i + 1))) (add_tup _ _ ?_)
      simp only [List.length_append, List.length_cons, List.length_nil]
      omega
theorem outer (n : Nat) (rec : List D → Option D) (xs : List D) (hx : xs.length ≤ 1000) : ∀ (l : List D) (i : Nat) (acc : List D) (p o q : Option B), (∀ x ∈ l, rec [x] = some (.list (spoil n x))) → acc.length + (spoils n xs i l).length ≤ 1000000 →
    ∃ p' o' q', forD (gT 2 (gC (put 2) (gC (put 3) gN))) (sFor (iSeq (e2 (op2 addD) (ofF (fLst (aCons (eC (.str "!")) (aCons (eC (.int 3)) (aCons (eTup (aCons (eC (.str "ann")) (aCons (eC (.int 3)) aNil))) (aCons (ofF (fLst aNil)) aNil)))))) (eCall 1 rec (aCons (eVar 3) aNil)))) (put 4)
        (sApp 1 (e2 (op2 addD) (e2 (op2 addD) (eSl (eVar 0) oNone (oSome (eVar 2))) (eTup (aCons (eVar 4) aNil))) (eSl (eVar 0) (oSome (e2 (op2 addD) (eVar 2) (eC (.int 1)))) oNone)))) (enumD i l) [some (.d (.tuple xs)), some (.l acc), p, o, q] =
      some (.next [some (.d (.tuple xs)), some (.l (acc ++ spoils n xs i l)), p', o', q'])
  | [], i, acc, p, o, q, _, _ => ⟨p, o, q, by simp [enumD, forD, spoils]⟩
  | x :: l, i, acc, p, o, q, h, hz => by
    rw [spoils, List.length_append] at hz
    have hl : (spoilAt xs i (odds ++ spoil n x)).length = (odds ++ spoil n x).length := by simp [spoilAt]
    obtain ⟨q1, hin⟩ := inner xs hx i x (odds ++ spoil n x) acc q (by omega)
    obtain ⟨p', o', q', ih⟩ := outer n rec xs hx l (i + 1) (acc ++ spoilAt xs i (odds ++ spoil n x)) (some (.d (.int (i : Nat)))) (some (.d x)) q1 (fun y hy => h y (List.mem_cons_of_mem _ hy)) (by rw [List.length_append]; omega)
    refine ⟨p', o', q', ?_⟩
    rw [enumD, for_next (ρ1 := [some (.d (.tuple xs)), some (.l acc), some (.d (.int (i : Nat))), some (.d x), q]) (ρ2 := [some (.d (.tuple xs)), some (.l (acc ++ spoilAt xs i (odds ++ spoil n x))), some (.d (.int (i : Nat))), some (.d x), q1]) rfl ?_]
    · rw [spoils, ← List.append_assoc]
      exact ih
    · have lz : (spoil n x).length ≤ 1000000 := by
        rw [hl, List.length_append] at hz
        omega
      refine (es_for (rs := (odds ++ spoil n x).map R.d) ?_).trans hin
      refine ei_seq (x := .list (odds ++ spoil n x)) (ev_op (x := .list odds) (y := .list (spoil n x)) (ev_F (ef_lst (vs := odds) ?_ (by simp [sizeL, odds]))) (ev_call (ea_cons (ev_var rfl) ea_nil) rfl (h x List.mem_cons_self)) (add_list _ _ (by simp [odds]; omega))) rfl
      exact ea_cons ev_c (ea_cons ev_c (ea_cons (ev_tup (ea_cons ev_c (ea_cons ev_c ea_nil)) (by simp [sizeL])) (ea_cons (ev_F (ef_lst ea_nil (by simp))) ea_nil)))
theorem imm_tup {xs : List D} (h : imm (.tuple xs) = true) : ∀ x ∈ xs, imm x = true := fun x hx => by
  obtain ⟨i, hi⟩ := List.getElem?_of_mem hx
  exact immL_at (by simpa [imm] using h) hi
theorem ret_own {ρ : Rho} {i : Nat} {xs : List D} (h : ρ[i]? = some (some (.l xs))) : ∃ ρ1, sRet (eVar i) ρ = some (.ret (.list xs) ρ1) := by
  refine ⟨rel i ρ, ?_⟩
  unfold sRet eVar
  rw [h]
  simp [out1, h]
end W

namespace W
open PySem L2 DL

/-! ### what is spoilt is no book -/
theorem mem_spoilAt {xs : List D} {i : Nat} {os : List D} {q : D} (h : q ∈ spoilAt xs i os) : ∃ o ∈ os, q = .tuple (xs.take i ++ [o] ++ xs.drop (i + 1)) := by
  obtain ⟨o, h1, h2⟩ := List.mem_map.mp h
  exact ⟨o, h1, h2.symm⟩
theorem mem_spoils {n : Nat} {xs : List D} {q : D} : ∀ {l : List D} {i : Nat}, q ∈ spoils n xs i l → ∃ (j : Nat) (x o : D), l[j]? = some x ∧ o ∈ odds ++ spoil n x ∧ q = .tuple (xs.take (i + j) ++ [o] ++ xs.drop (i + j + 1))
  | [], i, h => by simp [spoils] at h
  | x :: l, i, h => by
    rw [spoils] at h
    rcases List.mem_append.mp h with h | h
    · obtain ⟨o, h1, h2⟩ := mem_spoilAt h
      exact ⟨0, x, o, rfl, h1, h2⟩
    · obtain ⟨j, y, o, h1, h2, h3⟩ := mem_spoils h
      refine ⟨j + 1, y, o, by simpa using h1, h2, ?_⟩
      rw [h3, show i + 1 + j = i + (j + 1) by omega]
theorem mem_spoil {n : Nat} {xs : List D} {q : D} (h : q ∈ spoil (n + 1) (.tuple xs)) :
    (∃ (j : Nat) (x o : D), xs[j]? = some x ∧ o ∈ odds ++ spoil n x ∧ q = .tuple (xs.take j ++ [o] ++ xs.drop (j + 1))) ∨ q = .list xs ∨ q = .tuple (xs ++ [.str "!"]) ∨ q = .tuple (xs ++ [.int 3]) := by
  rw [spoil] at h
  rcases List.mem_append.mp h with h | h
  · obtain ⟨j, x, o, h1, h2, h3⟩ := mem_spoils h
    rw [Nat.zero_add] at h3
    exact .inl ⟨j, x, o, h1, h2, h3⟩
  · simp at h
    exact .inr h
theorem all_put {p : D → Bool} {xs : List D} {j : Nat} {o : D} (h : p o = false) : (xs.take j ++ [o] ++ xs.drop (j + 1)).all p = false := by simp [h]
theorem spoil_str (n : Nat) (s : Str) : spoil n (.str s) = [] := by
  cases n <;> simp [spoil]
theorem spoil_none (n : Nat) : spoil n .none = [] := by
  cases n <;> simp [spoil]
theorem odds_cases {o : D} (h : o ∈ odds) : o = .str "!" ∨ o = .int 3 ∨ o = .tuple [.str "ann", .int 3] ∨ o = .list [] := by simpa [odds] using h
theorem bang : nameS "!" = false := by decide +kernel
theorem spoil3 {ss : List Str} (hb : ("!" : Str) ∉ ss) {d : D} (h : someB ss d = true) {n : Nat} {q : D} (hq : q ∈ spoil (n + 1) d) : someB ss q = false := by
  unfold someB at h
  split at h
  · rename_i xs
    rw [Bool.and_eq_true] at h
    rcases mem_spoil hq with ⟨j, x, o, h1, h2, rfl⟩ | rfl | rfl | rfl
    · have hx := List.all_eq_true.mp h.1 x (List.mem_of_getElem? h1)
      have ho : strIn ss o = false := by
        rcases List.mem_append.mp h2 with h2 | h2
        · rcases odds_cases h2 with rfl | rfl | rfl | rfl <;> simp [strIn, hb]
        · cases x <;> simp [strIn] at hx
          rw [spoil_str] at h2
          cases h2
      simp only [someB]
      rw [all_put ho]
      rfl
    · rfl
    · simp [someB, strIn, hb]
    · simp [someB, strIn]
  · cases h
theorem spoil2 {ss : List Str} (hb : ("!" : Str) ∉ ss) {p : D} (hp : pairB p = true) (hs : someB ss (snd1 p) = true) {n : Nat} {q : D} (hq : q ∈ spoil (n + 2) p) : pairB q = false ∨ someB ss (snd1 q) = false := by
  obtain ⟨s, b, rfl, hn⟩ := pairB_inv hp
  rcases mem_spoil hq with ⟨j, x, o, h1, h2, rfl⟩ | rfl | rfl | rfl
  · match j, h1 with
    | 0, h1 =>
      simp at h1
      subst h1
      rw [spoil_str, List.append_nil] at h2
      left
      rcases odds_cases h2 with rfl | rfl | rfl | rfl <;> simp [pairB, nameB, bang]
    | 1, h1 =>
      simp at h1
      subst h1
      right
      show someB ss o = false
      rcases List.mem_append.mp h2 with h2 | h2
      · rcases odds_cases h2 with rfl | rfl | rfl | rfl <;> simp [someB, strIn]
      · exact spoil3 hb hs h2
    | j + 2, h1 => simp at h1
  · exact .inl rfl
  · exact .inl rfl
  · exact .inl rfl
theorem spoil1 {ss : List Str} (hb : ("!" : Str) ∉ ss) {a : D} (ha : namedB a = true) (hs : allSome ss a = true) {n : Nat} {q : D} (hq : q ∈ spoil (n + 3) a) : namedB q = false ∨ allSome ss q = false := by
  obtain ⟨xs, rfl, lx, px, rx⟩ := namedB_inv ha
  rcases mem_spoil hq with ⟨j, x, o, h1, h2, rfl⟩ | rfl | rfl | rfl
  · have hxm := List.mem_of_getElem? h1
    have ho : pairB o = false ∨ someB ss (snd1 o) = false := by
      rcases List.mem_append.mp h2 with h2 | h2
      · rcases odds_cases h2 with rfl | rfl | rfl | rfl
        · exact .inl rfl
        · exact .inl rfl
        · exact .inr rfl
        · exact .inl rfl
      · exact spoil2 hb (px x hxm) (List.all_eq_true.mp hs x hxm) h2
    rcases ho with ho | ho
    · left
      simp only [namedB]
      rw [all_put ho]
      simp
    · right
      simp only [allSome, items]
      exact all_put (p := fun x => someB ss (snd1 x)) ho
  · exact .inl rfl
  · left
    simp [namedB, pairB]
  · left
    simp [namedB, pairB]
theorem bang_out {a : D} (ha : namedB a = true) : ("!" : Str) ∉ namesOf a := by
  obtain ⟨xs, rfl, lx, px, rx⟩ := namedB_inv ha
  intro h
  obtain ⟨x, hx, e⟩ := List.mem_map.mp h
  obtain ⟨s, b, rfl, hn⟩ := pairB_inv (px x hx)
  have e : s = "!" := e
  rw [e, bang] at hn
  cases hn
theorem spoil0 {d : D} (hd : bookB d = true) {n : Nat} {q : D} (hq : q ∈ spoil (n + 4) d) : bookB q = false := by
  unfold bookB at hd
  split at hd
  · rename_i a b
    simp at hd
    obtain ⟨⟨ha, hb⟩, sa, sb⟩ := hd
    have odd0 : ∀ {o : D}, o ∈ odds → namedB o = false := fun h => by
      rcases odds_cases h with rfl | rfl | rfl | rfl <;> simp [namedB, pairB]
    rcases mem_spoil hq with ⟨j, x, o, h1, h2, rfl⟩ | rfl | rfl | rfl
    · match j, h1 with
      | 0, h1 =>
        simp at h1
        subst h1
        show (namedB o && namedB b && (allSome (namesOf b) o && allSome (namesOf o) b)) = false
        rcases List.mem_append.mp h2 with h2 | h2
        · simp [odd0 h2]
        · rcases spoil1 (bang_out hb) ha sa h2 with h | h <;> simp [h]
      | 1, h1 =>
        simp at h1
        subst h1
        show (namedB a && namedB o && (allSome (namesOf o) a && allSome (namesOf a) o)) = false
        rcases List.mem_append.mp h2 with h2 | h2
        · simp [odd0 h2]
        · rcases spoil1 (bang_out ha) hb sb h2 with h | h <;> simp [h]
      | j + 2, h1 => simp at h1
    · rfl
    · rfl
    · rfl
  · cases hd
/-- nice with room -/
def small : Nat → D → Bool
  | 0, _ => false
  | _ + 1, .str s => decide (s.length ≤ 500)
  | n + 1, .tuple xs => decide (xs.length ≤ 500) && xs.all (small n)
  | _ + 1, .list _ => false
  | _ + 1, .dict _ => false
  | _ + 1, .none => true
  | _ + 1, .bool _ => true
  | _ + 1, .int _ => true
theorem small_nice : ∀ {n : Nat} {d : D}, small n d = true → nice n d = true
  | 0, d, h => by simp [small] at h
  | n + 1, d, h => by
    cases d with
    | tuple xs =>
      simp [small] at h
      simp only [nice, Bool.and_eq_true, decide_eq_true_eq, List.all_eq_true]
      exact ⟨by omega, fun x hx => small_nice (h.2 x hx)⟩
    | str s =>
      simp [small] at h
      simp [nice]
      omega
    | list xs => simp [small] at h
    | dict k => simp [small] at h
    | none => rfl
    | bool b => rfl
    | int i => rfl
theorem nice_odd {n : Nat} {o : D} (h : o ∈ odds) : nice (n + 2) o = true := by
  rcases odds_cases h with rfl | rfl | rfl | rfl
  · simp [nice]
    decide
  · rfl
  · simp [nice]
    decide
  · rfl
theorem nice_spoil : ∀ {m n : Nat} {d q : D}, small n d = true → q ∈ spoil m d → nice (n + 1) q = true
  | 0, n, d, q, _, h => by simp [spoil] at h
  | m + 1, 0, d, q, h, _ => by simp [small] at h
  | m + 1, n + 1, d, q, hs, hq => by
    cases d with
    | tuple xs =>
      simp [small] at hs
      have old : ∀ x ∈ xs, nice (n + 1) x = true := fun x hx => nice_up (small_nice (hs.2 x hx))
      rcases mem_spoil hq with ⟨j, x, o, h1, h2, rfl⟩ | rfl | rfl | rfl
      · have ho : nice (n + 1) o = true := by
          have hx := hs.2 x (List.mem_of_getElem? h1)
          rcases List.mem_append.mp h2 with h2 | h2
          · cases n with
            | zero => simp [small] at hx
            | succ n => exact nice_odd h2
          · exact nice_spoil hx h2
        have hj := (List.getElem?_eq_some_iff.mp h1).1
        simp only [nice, Bool.and_eq_true, decide_eq_true_eq, List.all_eq_true]
        refine ⟨by simp [List.length_take, List.length_drop]; omega, fun y hy => ?_⟩
        simp only [List.mem_append, List.mem_singleton] at hy
        rcases hy with (hy | hy) | hy
        · exact old y (List.mem_of_mem_take hy)
        · rw [hy]
          exact ho
        · exact old y (List.mem_of_mem_drop hy)
      · simp only [nice, Bool.and_eq_true, decide_eq_true_eq, List.all_eq_true]
        exact ⟨by omega, old⟩
      · simp only [nice, Bool.and_eq_true, decide_eq_true_eq, List.all_eq_true]
        refine ⟨by simp; omega, fun y hy => ?_⟩
        rcases List.mem_append.mp hy with hy | hy
        · exact old y hy
        · rw [List.mem_singleton.mp hy]
          simp [nice]
          decide
      · simp only [nice, Bool.and_eq_true, decide_eq_true_eq, List.all_eq_true]
        refine ⟨by simp; omega, fun y hy => ?_⟩
        rcases List.mem_append.mp hy with hy | hy
        · exact old y hy
        · rw [List.mem_singleton.mp hy]
          rfl
    | _ => simp [spoil] at hq
end W

namespace W
open PySem L2 DL

/-! ### a book, with types -/
abbrev Tab := List (Str × List Str)
def encT (t : Tab) : D := .tuple (t.map fun p => .tuple [.str p.1, .tuple (p.2.map .str)])
structure Bk where
  rows : Tab
  likes : Tab
def Bk.enc (b : Bk) : D := .tuple [encT b.rows, encT b.likes]
def lkT : Tab → Str → List Str
  | [], _ => []
  | (k, l) :: t, s => if k = s then l else lkT t s
def Bk.houses (b : Bk) : List Str := b.rows.map (·.1)
def Bk.people (b : Bk) : List Str := b.likes.map (·.1)
structure Bk.Ok (b : Bk) : Prop where
  lr : b.rows.length ≤ 5
  ll : b.likes.length ≤ 5
  nr : b.houses.Nodup
  nl : b.people.Nodup
  ir : ∀ p ∈ b.rows, p.2.length ≤ 5 ∧ p.2.Nodup ∧ ∀ s ∈ p.2, s ∈ b.people
  il : ∀ p ∈ b.likes, p.2.length ≤ 5 ∧ p.2.Nodup ∧ ∀ s ∈ p.2, s ∈ b.houses
def Bk.homes (b : Bk) (p : Str) : List Str := (lkT b.likes p).filter fun h => decide (p ∈ lkT b.rows h)
def kvT (t : Tab) : List (Str × D) := t.map fun p => (p.1, .tuple (p.2.map .str))
theorem dict_encT (t : Tab) : dictD (encT t) = some (kvT t) := by
  show pairsD _ = _
  induction t with
  | nil => rfl
  | cons p t ih =>
    simp only [List.map_cons, pairsD, kvT]
    rw [ih]
    rfl
theorem kvT_keys (t : Tab) : (kvT t).map (·.1) = t.map (·.1) := by simp [kvT, List.map_map, Function.comp_def]
theorem lkp_kvT : ∀ {t : Tab} {s : Str}, s ∈ t.map (·.1) → lkp (kvT t) s = some (.tuple ((lkT t s).map .str))
  | [], s, h => by simp at h
  | (k, l) :: t, s, h => by
    simp only [kvT, List.map_cons, lkp, lkT]
    by_cases e : k = s
    · simp [e]
    · rw [if_neg e, if_neg e]
      refine lkp_kvT ?_
      simp at h
      rcases h with h | h
      · exact absurd h.symm e
      · simpa using h
theorem lkT_mem {t : Tab} {s : Str} (h : s ∈ t.map (·.1)) : (s, lkT t s) ∈ t := by
  induction t with
  | nil => simp at h
  | cons p t ih =>
    obtain ⟨k, l⟩ := p
    unfold lkT
    by_cases e : k = s
    · rw [if_pos e, e]
      exact List.mem_cons_self
    · rw [if_neg e]
      refine List.mem_cons_of_mem _ (ih ?_)
      simp at h
      rcases h with h | h
      · exact absurd h.symm e
      · simpa using h
theorem immL_map {α : Type} {f : α → D} (hf : ∀ a, imm (f a) = true) (l : List α) : immL (l.map f) = true := by
  induction l with
  | nil => rfl
  | cons a l ih => simp [immL, hf a, ih]
theorem imm_encT (t : Tab) : imm (encT t) = true := by
  simp only [encT, imm]
  exact immL_map (fun p => by simp [imm, immL]; exact immL_map (fun _ => rfl) _) t
theorem imm_enc (b : Bk) : imm b.enc = true := by simp [Bk.enc, imm, immL, imm_encT]
theorem seq_encT (t : Tab) : seqD (encT t) = some (t.map fun p => .tuple [.str p.1, .tuple (p.2.map .str)]) := rfl
theorem people_eq (b : Bk) (hz : b.likes.length ≤ 5) : m_people_of [b.enc] = some (.list (b.people.map .str)) := by
  refine runB_of (bs := [.d b.enc]) (ρ1 := [some (.d b.enc), none]) (by simp [DL.bindArgs, bindArg, imm_enc]) (es_ret ?_)
  have hl := ef_lcm (ρ := [some (.d b.enc), none]) (i := 1) (f := e2 (op2 idxD) (eVar 1) (eC (.int 0))) (fi := iSeq (e2 (op2 idxD) (eVar 0) (eC (.int 1)))) (xs := b.likes.map fun p => .tuple [.str p.1, .tuple (p.2.map .str)]) (fun d => .str (fst0 d)) (ei_seq (ev_op (ev_var rfl) ev_c (idx1 _ _ _)) (seq_encT _)) (by simp) rfl (by simp [sizeL]; omega) fun d hd => by
    obtain ⟨p, _, rfl⟩ := List.mem_map.mp hd
    exact ev_op (ev_var rfl) ev_c (idx0 _ _)
  have := ev_F hl
  rw [List.map_map] at this
  have e : (b.likes.map ((fun d => PyData.str (fst0 d)) ∘ fun p => .tuple [.str p.1, .tuple (p.2.map .str)])) = b.people.map .str := by simp [Bk.people, List.map_map, Function.comp_def, fst0]
  rw [e] at this
  exact this
theorem homes_eq (b : Bk) (ok : b.Ok) (p : Str) (hp : p ∈ b.people) : m_homes_of [b.enc, .str p] = some (.list ((b.homes p).map .str)) := by
  have goal : F_homes_of [some (.d b.enc), some (.d (.str p)), none, none] = some (.ret (.list ((b.homes p).map .str)) [some (.d b.enc), some (.d (.str p)), some (.m (kvT b.rows)), none]) := by
    unfold F_homes_of
    refine es_seq (es_ownM (ev_op (ev_var rfl) ev_c (idx0 _ _)) (dict_encT b.rows) (by rw [kvT_keys]; exact ok.nr) (by simp [kvT, sizeL]; have := ok.lr; omega) (by simp)) (es_ret ?_)
    have hm := lkT_mem (t := b.likes) hp
    obtain ⟨z1, z2, z3⟩ := ok.il _ hm
    have z1 : (lkT b.likes p).length ≤ 5 := z1
    have hl := ef_lc1 (ρ := [some (.d b.enc), some (.d (.str p)), some (.m (kvT b.rows)), none]) (i := 3) (t := toT (e2 (op2 inD) (eVar 1) (eMGet' 2 (eVar 3)))) (f := eVar 3) (fi := iSeq (eDGet (mDict (e2 (op2 idxD) (eVar 0) (eC (.int 1)))) (eVar 1))) (xs := (lkT b.likes p).map .str)
      (fun d => decide (p ∈ lkT b.rows (txt d))) (fun d => d) (ei_seq (ev_dget (ev_op (ev_var rfl) ev_c (idx1 _ _ _)) (dict_encT b.likes) (by rw [kvT_keys]; exact ok.nl) (by simp [kvT, sizeL]; have := ok.ll; omega) (ev_var rfl) (lkp_kvT hp)) rfl) (by simp) rfl (by simp [sizeL]; omega) (fun d hd => ?_) (fun d hd _ => ev_var rfl)
    · have := ev_F hl
      have e : (((lkT b.likes p).map PyData.str).filter fun d => decide (p ∈ lkT b.rows (txt d))).map (fun d => d) = (b.homes p).map .str := by
        rw [List.map_id', List.filter_map]
        rfl
      rw [e] at this
      exact this
    · obtain ⟨h, hh, rfl⟩ := List.mem_map.mp hd
      exact et_toT (ev_op (ev_var rfl) (ev_mget rfl (ev_var rfl) (lkp_kvT (z3 h hh))) (in_strsT _ _))
  exact runB_of (bs := [.d b.enc, .d (.str p)]) (by simp [DL.bindArgs, bindArg, imm_enc, imm]) goal

/-! ### is_standing -/
def noS (d : D) : Bool := isNone d || isStr d
def homeB (b : Bk) (q : Str × D) : Bool := isNone q.2 || strIn (b.homes q.1) q.2
def standB (b : Bk) : D → Bool
  | .tuple xs => decide (xs.length = b.likes.length) && (xs.all noS && (distS ((xs.filter fun x => !isNone x).map txt) && (b.people.zip xs).all (homeB b)))
  | _ => false
theorem lt_int (a b : Int) : ltD (.int a) (.int b) = some (.bool (decide (a < b))) := rfl
theorem ddl_len (l : List Key) : (ddl l).length ≤ l.length := by
  have := ddl_le l l.length
  rwa [List.take_of_length_le (Nat.le_refl _)] at this
theorem live_txt {xs : List D} (h : xs.all noS = true) : (xs.filter fun x => !isNone x) = ((xs.filter fun x => !isNone x).map txt).map PyData.str := by
  induction xs with
  | nil => rfl
  | cons x xs ih =>
    rw [List.all_cons, Bool.and_eq_true] at h
    have ih := ih h.2
    cases x <;> simp [noS, isNone, isStr] at h
    · simpa [List.filter_cons, isNone] using ih
    · rename_i s0
      have e : ((.str s0 :: xs).filter fun x => !isNone x) = .str s0 :: xs.filter fun x => !isNone x := by simp [List.filter_cons, isNone]
      rw [e, List.map_cons, List.map_cons, ← ih]
      rfl
end W

namespace W
open PySem L2 DL

/-! ### the draw -/
theorem pigeon : ∀ (n : Nat) (l : List Int), l.Nodup → (∀ x ∈ l, 0 ≤ x ∧ x < n) → l.length ≤ n
  | 0, l, _, h => by
    cases l with
    | nil => simp
    | cons x l => have := h x List.mem_cons_self; omega
  | n + 1, l, nd, h => by
    by_cases hm : (n : Int) ∈ l
    · have := pigeon n (l.erase (n : Int)) (nd.erase _) fun x hx => by
        have h1 := h x (List.mem_of_mem_erase hx)
        have h2 : x ≠ (n : Int) := ((List.Nodup.mem_erase_iff nd).mp hx).1
        omega
      rw [List.length_erase_of_mem hm] at this
      omega
    · have := pigeon n l nd fun x hx => by
        have h1 := h x hx
        have h2 : x ≠ (n : Int) := fun e => hm (e ▸ hx)
        omega
      omega
structure TownOk (ns : List Int) (mm : List (Int × Int)) : Prop where
  ln : ns.length ≤ 63
  nd : (mm.map (·.1)).Nodup
  rg : ∀ k ∈ mm.map (·.1), 0 ≤ k ∧ k < 64
theorem TownOk.len {ns : List Int} {mm : List (Int × Int)} (h : TownOk ns mm) : mm.length ≤ 64 := by
  have := pigeon 64 _ h.nd h.rg
  simpa using this
theorem putI_keys (m : List (Int × Int)) (k v : Int) : (putI m k v).map (·.1) = if k ∈ m.map (·.1) then m.map (·.1) else m.map (·.1) ++ [k] := by
  unfold putI
  by_cases h : k ∈ m.map (·.1)
  · have e : (m.any fun p => decide (p.1 = k)) = true := by
      obtain ⟨p, h1, h2⟩ := List.mem_map.mp h
      exact List.any_eq_true.mpr ⟨p, h1, by simpa using h2⟩
    rw [if_pos e, if_pos h, List.map_map]
    refine List.map_congr_left fun p _ => ?_
    by_cases q : p.1 = k <;> simp [q]
  · have e : ¬ (m.any fun p => decide (p.1 = k)) = true := fun z => by
      obtain ⟨p, h1, h2⟩ := List.any_eq_true.mp z
      exact h (List.mem_map.mpr ⟨p, h1, by simpa using h2⟩)
    rw [if_neg e, if_neg h]
    simp
theorem TownOk.put {ns : List Int} {mm : List (Int × Int)} (h : TownOk ns mm) {k v : Int} (h0 : 0 ≤ k) (h1 : k < 64) : TownOk ns (putI mm k v) := by
  refine ⟨h.ln, ?_, ?_⟩
  · rw [putI_keys]
    split
    · exact h.nd
    · rename_i hk
      rw [List.nodup_append]
      refine ⟨h.nd, by simp, fun a ha b hb e => ?_⟩
      rw [List.mem_singleton.mp hb] at e
      exact hk (e ▸ ha)
  · rw [putI_keys]
    split
    · exact h.rg
    · intro x hx
      rcases List.mem_append.mp hx with hx | hx
      · exact h.rg x hx
      · rw [List.mem_singleton.mp hx]
        exact ⟨h0, h1⟩
theorem TownOk.nil {ns : List Int} (h : ns.length ≤ 63) : TownOk ns [] := ⟨h, List.nodup_nil, fun k hk => by simp at hk⟩
theorem mod_int (a b : Int) (h : 0 < b) : modD (.int a) (.int b) = some (.int (a % b)) := by simp [modD, h]
theorem draw_rest (ns : List Int) (c : Int) (mm : List (Int × Int)) (many : Int) (hT : TownOk ns mm) (h0 : 0 < many) (h1 : many < 1073741824) (at' rest : Int) (ha : 0 ≤ at' ∧ at' < 64) :
    ∃ v mm' ρ1, sSeq (sIf (toT (e2 (op2 geD) (eVar 4) (e2 (op2 powD) (eC (.int 10)) (eC (.int 18))))) (sSeq (sRst 1 (e2 (op2 divD) (eVar 4) (eVar 2)) (eVar 3)) (sRet (e2 (op2 modD) (eVar 4) (eVar 2)))) sNil) (sSeq (sAsg (e2 (op2 modD) (e2 (op2 addD) (eVar 4) (e2 (op2 mulI) (eC (.int 104729)) (eCnt 1))) (eC (.int 4294967291))) (put 5)) (sSeq (sAsg (e2 (op2 modD) (e2 (op2 powD) (eVar 5) (eC (.int 5))) (eC (.int 4294967279))) (put 5)) (sRet (e2 (op2 modD) (e2 (op2 divD) (e2 (op2 modD) (e2 (op2 addD) (e2 (op2 mulI) (e2 (op2 divD) (eVar 5) (eC (.int 64))) (eC (.int 69621))) (eVar 5)) (eC (.int 4294967231))) (eC (.int 8))) (eVar 2)))))
      [some (.s ns), some (.t c mm), some (.d (.int many)), some (.d (.int at')), some (.d (.int rest)), none] = some (.ret (.int v) ρ1) ∧ tAt 1 ρ1 = some (c, mm') ∧ 0 ≤ v ∧ v < many ∧ TownOk ns mm' := by
  have hge : Et (toT (e2 (op2 geD) (eVar 4) (e2 (op2 powD) (eC (.int 10)) (eC (.int 18))))) [some (.s ns), some (.t c mm), some (.d (.int many)), some (.d (.int at')), some (.d (.int rest)), none] (decide ((1000000000000000000 : Int) ≤ rest)) :=
    et_toT (ev_op (ev_var rfl) (ev_op ev_c ev_c (show powD (.int 10) (.int 18) = some (.int 1000000000000000000) by simp [powD])) rfl)
  by_cases hr : (1000000000000000000 : Int) ≤ rest
  · refine ⟨rest % many, putI mm at' (rest / many), [some (.s ns), some (.t c (putI mm at' (rest / many))), some (.d (.int many)), some (.d (.int at')), some (.d (.int rest)), none], ?_, rfl, Int.emod_nonneg _ (by omega), Int.emod_lt_of_pos _ h0, hT.put ha.1 ha.2⟩
    refine es_stop (es_if hge (fun _ => es_seq ?_ (es_ret (ev_op (ev_var rfl) (ev_var rfl) (mod_int _ _ h0)))) fun h => by simp at h; omega)
    have l := hT.len
    have e1 : e2 (op2 divD) (eVar 4) (eVar 2) [some (.s ns), some (.t c mm), some (.d (.int many)), some (.d (.int at')), some (.d (.int rest)), none] = some (.d (.int (rest / many)), [some (.s ns), some (.t c mm), some (.d (.int many)), some (.d (.int at')), some (.d (.int rest)), none]) := ev_op (ev_var rfl) (ev_var rfl) (by simp [divD, h0, h1])
    have e2' : eVar 3 [some (.s ns), some (.t c mm), some (.d (.int many)), some (.d (.int at')), some (.d (.int rest)), none] = some (.d (.int at'), [some (.s ns), some (.t c mm), some (.d (.int many)), some (.d (.int at')), some (.d (.int rest)), none]) := rfl
    unfold sRst
    rw [e1]
    simp only [e2', tAt, List.getElem?_cons_succ, List.getElem?_cons_zero, Option.bind_some]
    rw [if_pos (by omega)]
    rfl
  · generalize hn1 : (rest + 104729 * c) % 4294967291 = n1
    have b1 : 0 ≤ n1 ∧ n1 < 4294967291 := by
      rw [← hn1]
      exact ⟨Int.emod_nonneg _ (by omega), Int.emod_lt_of_pos _ (by omega)⟩
    generalize hn2 : n1 ^ 5 % 4294967279 = n2
    have b2 : 0 ≤ n2 ∧ n2 < 4294967279 := by
      rw [← hn2]
      exact ⟨Int.emod_nonneg _ (by omega), Int.emod_lt_of_pos _ (by omega)⟩
    refine ⟨(n2 / 64 * 69621 + n2) % 4294967231 / 8 % many, mm, [some (.s ns), some (.t c mm), some (.d (.int many)), some (.d (.int at')), some (.d (.int rest)), some (.d (.int n2))], ?_, rfl, Int.emod_nonneg _ (by omega), Int.emod_lt_of_pos _ h0, hT⟩
    have ec : ∀ x : Option B, Ev (eCnt 1) [some (.s ns), some (.t c mm), some (.d (.int many)), some (.d (.int at')), some (.d (.int rest)), x] (.int c) := fun _ => rfl
    refine es_seq (es_if hge (fun h => by simp at h; omega) fun _ => es_nil) (es_seq (es_set (v := .int n1) (ev_op (ev_op (ev_var rfl) (ev_op ev_c (ec _) (show mulI (.int 104729) (.int c) = some (.int (104729 * c)) by simp [mulI])) rfl) ev_c (by rw [mod_int _ _ (by omega), hn1])) (by simp)) (es_seq (es_set (v := .int n2) (ev_op (ev_op (ev_var rfl) ev_c (show powD (.int n1) (.int 5) = some (.int (n1 ^ 5)) by simp [powD]; omega)) ev_c (by rw [mod_int _ _ (by omega), hn2])) (by simp)) (es_ret ?_)))
    refine ev_op (ev_op (ev_op (ev_op (ev_op (ev_op (ev_var rfl) ev_c (show divD (.int n2) (.int 64) = some (.int (n2 / 64)) by simp [divD])) ev_c (show mulI (.int (n2 / 64)) (.int 69621) = some (.int (n2 / 64 * 69621)) by simp [mulI])) (ev_var rfl) rfl) ev_c (mod_int _ _ (by omega))) ev_c (show divD (.int ((n2 / 64 * 69621 + n2) % 4294967231)) (.int 8) = some (.int ((n2 / 64 * 69621 + n2) % 4294967231 / 8)) by simp [divD])) (ev_var rfl) (mod_int _ _ h0)
theorem draw_ok (ns : List Int) (c : Int) (mm : List (Int × Int)) (many : Int) (hT : TownOk ns mm) (h0 : 0 < many) (h1 : many < 1073741824) : ∃ v mm', m__law_draw ns c mm [.int many] = some (.int v, c + 1, mm') ∧ 0 ≤ v ∧ v < many ∧ TownOk ns mm' := by
  have key : ∀ at' rest : Int, 0 ≤ at' → at' < 64 → F__law_draw [some (.s ns), some (.t c mm), some (.d (.int many)), none, none, none] = sSeq (sIf (toT (e2 (op2 geD) (eVar 4) (e2 (op2 powD) (eC (.int 10)) (eC (.int 18))))) (sSeq (sRst 1 (e2 (op2 divD) (eVar 4) (eVar 2)) (eVar 3)) (sRet (e2 (op2 modD) (eVar 4) (eVar 2)))) sNil) (sSeq (sAsg (e2 (op2 modD) (e2 (op2 addD) (eVar 4) (e2 (op2 mulI) (eC (.int 104729)) (eCnt 1))) (eC (.int 4294967291))) (put 5)) (sSeq (sAsg (e2 (op2 modD) (e2 (op2 powD) (eVar 5) (eC (.int 5))) (eC (.int 4294967279))) (put 5)) (sRet (e2 (op2 modD) (e2 (op2 divD) (e2 (op2 modD) (e2 (op2 addD) (e2 (op2 mulI) (e2 (op2 divD) (eVar 5) (eC (.int 64))) (eC (.int 69621))) (eVar 5)) (eC (.int 4294967231))) (eC (.int 8))) (eVar 2)))))
      [some (.s ns), some (.t (c + 1) mm), some (.d (.int many)), some (.d (.int at')), some (.d (.int rest)), none] → ∃ v mm', m__law_draw ns c mm [.int many] = some (.int v, c + 1, mm') ∧ 0 ≤ v ∧ v < many ∧ TownOk ns mm' := fun at' rest g0 g1 e => by
    obtain ⟨v, mm', ρ1, r1, r2, r3⟩ := draw_rest ns (c + 1) mm many hT h0 h1 at' rest ⟨g0, g1⟩
    refine ⟨v, mm', ?_, r3⟩
    show runT 6 F__law_draw ns c mm [.int many] = _
    unfold runT
    have hb : DL.bindArgs [.int many] = some [.d (.int many)] := by simp [DL.bindArgs, bindArg, imm]
    rw [hb]
    simp only [Option.bind_some]
    rw [show pad 6 [.s ns, .t c mm, .d (.int many)] = [some (.s ns), some (.t c mm), some (.d (.int many)), none, none, none] from rfl, e, r1]
    simp [outD, r2]
  have l63 := hT.ln
  have s1 : sCnt 1 (e2 (op2 addD) (eCnt 1) (eC (.int 1))) [some (.s ns), some (.t c mm), some (.d (.int many)), none, none, none] = some (.next [some (.s ns), some (.t (c + 1) mm), some (.d (.int many)), none, none, none]) := rfl
  have tr : ∀ x y z : Option B, Et (tTruS 0) [some (.s ns), some (.t (c + 1) mm), some (.d (.int many)), x, y, z] (!ns.isEmpty) := fun _ _ _ => rfl
  cases hns : ns with
  | nil =>
    subst hns
    refine key 0 ((getI mm 0).getD 0) (by omega) (by omega) ?_
    unfold F__law_draw
    have s2 : sAsg (ifE (tTruS 0) (e2 (op2 modD) (eCnt 1) (eLenS 0)) (eC (.int 0))) (put 3) [some (.s []), some (.t (c + 1) mm), some (.d (.int many)), none, none, none] = some (.next [some (.s []), some (.t (c + 1) mm), some (.d (.int many)), some (.d (.int 0)), none, none]) := rfl
    have s3 : sAsg (eRst 1 (eVar 3) (ifE (tTruS 0) (eIxS 0 (eVar 3)) (eC (.int 0)))) (put 4) [some (.s []), some (.t (c + 1) mm), some (.d (.int many)), some (.d (.int 0)), none, none] = some (.next [some (.s []), some (.t (c + 1) mm), some (.d (.int many)), some (.d (.int 0)), some (.d (.int ((getI mm 0).getD 0))), none]) := rfl
    simp only [sSeq, s1, s2, s3, Option.bind_some]
  | cons n0 nr =>
    rw [← hns]
    have hl : 0 < ns.length := by rw [hns]; simp
    have g0 : 0 ≤ (c + 1) % (ns.length : Int) := Int.emod_nonneg _ (by omega)
    have g1 : (c + 1) % (ns.length : Int) < ns.length := Int.emod_lt_of_pos _ (by omega)
    generalize ha : (c + 1) % (ns.length : Int) = at' at *
    obtain ⟨n, hn⟩ : ∃ n, atI ns at' = some n := by
      unfold atI ixN
      rw [if_pos g0, if_pos g1]
      exact ⟨ns[at'.toNat]'(by omega), by simp⟩
    refine key at' ((getI mm at').getD n) g0 (by omega) ?_
    unfold F__law_draw
    have he : ns.isEmpty = false := by rw [hns]; rfl
    have s2 : sAsg (ifE (tTruS 0) (e2 (op2 modD) (eCnt 1) (eLenS 0)) (eC (.int 0))) (put 3) [some (.s ns), some (.t (c + 1) mm), some (.d (.int many)), none, none, none] = some (.next [some (.s ns), some (.t (c + 1) mm), some (.d (.int many)), some (.d (.int at')), none, none]) := by
      refine es_set (v := .int at') (ev_if (tr _ _ _) (fun _ => ev_op (x := .int (c + 1)) (y := .int ns.length) rfl rfl ?_) fun h => by simp [he] at h) (by simp)
      rw [mod_int _ _ (by omega), ha]
    have s3 : sAsg (eRst 1 (eVar 3) (ifE (tTruS 0) (eIxS 0 (eVar 3)) (eC (.int 0)))) (put 4) [some (.s ns), some (.t (c + 1) mm), some (.d (.int many)), some (.d (.int at')), none, none] = some (.next [some (.s ns), some (.t (c + 1) mm), some (.d (.int many)), some (.d (.int at')), some (.d (.int ((getI mm at').getD n))), none]) := by
      have ei : ifE (tTruS 0) (eIxS 0 (eVar 3)) (eC (.int 0)) [some (.s ns), some (.t (c + 1) mm), some (.d (.int many)), some (.d (.int at')), none, none] = some (.d (.int n), [some (.s ns), some (.t (c + 1) mm), some (.d (.int many)), some (.d (.int at')), none, none]) := by
        refine ev_if (tr _ _ _) (fun _ => ?_) fun h => by simp [he] at h
        show eIxS 0 (eVar 3) _ = _
        simp [eIxS, sAt, eVar, hn]
      refine es_set (v := .int ((getI mm at').getD n)) ?_ (by simp)
      show eRst 1 _ _ _ = _
      have ev3 : eVar 3 [some (.s ns), some (.t (c + 1) mm), some (.d (.int many)), some (.d (.int at')), none, none] = some (.d (.int at'), [some (.s ns), some (.t (c + 1) mm), some (.d (.int many)), some (.d (.int at')), none, none]) := rfl
      simp [eRst, tAt, ev3, ei]
    simp only [sSeq, s1, s2, s3, Option.bind_some]
end W

namespace W
open PySem L2 DL

/-! ### a draw within an expression -/
abbrev drawE (f : FE) : FE := eCallT 1 m__law_draw (aCons (eVar 0) (aCons (eVar 1) (aCons f aNil)))
theorem drawE_ok {ρ : Rho} {ns : List Int} {c : Int} {mm : List (Int × Int)} {f : FE} {many : Int} (hT : TownOk ns mm) (h0 : ρ[0]? = some (some (.s ns))) (h1 : ρ[1]? = some (some (.t c mm))) (hf : Ev f ρ (.int many)) (g0 : 0 < many) (g1 : many < 1073741824) :
    ∃ v mm', drawE f ρ = some (.d (.int v), ρ.set 1 (some (.t (c + 1) mm'))) ∧ 0 ≤ v ∧ v < many ∧ TownOk ns mm' := by
  obtain ⟨v, mm', e, r⟩ := draw_ok ns c mm many hT g0 g1
  refine ⟨v, mm', ?_, r⟩
  have a0 : eVar 0 ρ = some (.own 0, ρ) := by simp [eVar, h0]
  have a1 : eVar 1 ρ = some (.own 1, ρ) := by simp [eVar, h1]
  have a2 : f ρ = some (.d (.int many), ρ) := hf
  have s0 : sAt 0 ρ = some ns := by simp [sAt, h0]
  have t1 : tAt 1 ρ = some (c, mm) := by simp [tAt, h1]
  simp [drawE, eCallT, aCons, aNil, a0, a1, a2, s0, t1, rdos, rdo, e]

/-! ### _law_mixed -/
theorem ne_nil (ss : List Str) : neD (.list (ss.map .str)) (.list []) = some (.bool (!ss.isEmpty)) := by
  unfold neD
  rw [if_pos (by simp [PyData.depth, depth_strs])]
  cases ss with
  | nil => simp [PyData.eqv, PyData.eqvAll]
  | cons s ss => simp [PyData.eqv, PyData.eqvAll]
theorem erase_map : ∀ (l : List Str) (k : Nat), (l.map PyData.str).eraseIdx k = (l.eraseIdx k).map .str
  | [], _ => rfl
  | s :: l, 0 => rfl
  | s :: l, k + 1 => by simp [erase_map l k]
theorem erase_perm : ∀ (l : List Str) (k : Nat) (h : k < l.length), (l[k] :: l.eraseIdx k).Perm l
  | s :: l, 0, _ => List.Perm.refl _
  | s :: l, k + 1, h => by
    have ih := erase_perm l k (by simpa using h)
    simp only [List.getElem_cons_succ, List.eraseIdx_cons_succ]
    exact (List.Perm.swap s _ _).trans (List.Perm.cons s ih)
theorem mixed_loop (ns : List Int) (names : D) (least : Int) : ∀ (k : Nat) (rest found : List Str) (c : Int) (mm : List (Int × Int)) (fuel : Nat), rest.length ≤ k → k < fuel → rest.length + found.length ≤ 1000 → TownOk ns mm →
    ∃ (rest' found' : List Str) (c' : Int) (mm' : List (Int × Int)), whileD (andT (toT (e2 (op2 neD) (eVar 4) (ofF (fLst aNil)))) (orT (toT (e2 (op2 ltD) (eB (b1 lenD) (aCons (eVar 5) aNil)) (eVar 3))) (toT (e2 (op2 gtD) (drawE (eC (.int 5))) (eC (.int 0)))))) (sApp 5 (ePop 4 (drawE (eB (b1 lenD) (aCons (eVar 4) aNil))))) fuel
        [some (.s ns), some (.t c mm), some (.d names), some (.d (.int least)), some (.l (rest.map .str)), some (.l (found.map .str))] =
      some (.next [some (.s ns), some (.t c' mm'), some (.d names), some (.d (.int least)), some (.l (rest'.map .str)), some (.l (found'.map .str))]) ∧ TownOk ns mm' ∧ (found' ++ rest').Perm (found ++ rest) ∧ (rest' = [] ∨ least ≤ found'.length)
  | k, rest, found, c, mm, 0, _, h, _, _ => by omega
  | k, rest, found, c, mm, fuel + 1, h1, h2, h3, hT => by
    rw [whileD_eq]
    have hN : Et (toT (e2 (op2 neD) (eVar 4) (ofF (fLst aNil)))) [some (.s ns), some (.t c mm), some (.d names), some (.d (.int least)), some (.l (rest.map .str)), some (.l (found.map .str))] (!rest.isEmpty) := et_toT (ex_op (ex_own rfl) (ev_F (ef_lst ea_nil (by simp))).ex (ne_nil rest))
    have hL : Et (toT (e2 (op2 ltD) (eB (b1 lenD) (aCons (eVar 5) aNil)) (eVar 3))) [some (.s ns), some (.t c mm), some (.d names), some (.d (.int least)), some (.l (rest.map .str)), some (.l (found.map .str))] (decide ((found.length : Int) < least)) := et_toT (ev_op (ex_b1 (y := .int found.length) (ex_own rfl) (by simp [lenD])) (ev_var rfl) (lt_int _ _))
    -- the body, once
    have body : ∀ (c1 : Int) (mm1 : List (Int × Int)), TownOk ns mm1 → rest ≠ [] → ∃ (rest2 found2 : List Str) (c2 : Int) (mm2 : List (Int × Int)), sApp 5 (ePop 4 (drawE (eB (b1 lenD) (aCons (eVar 4) aNil)))) [some (.s ns), some (.t c1 mm1), some (.d names), some (.d (.int least)), some (.l (rest.map .str)), some (.l (found.map .str))] =
        some (.next [some (.s ns), some (.t c2 mm2), some (.d names), some (.d (.int least)), some (.l (rest2.map .str)), some (.l (found2.map .str))]) ∧ TownOk ns mm2 ∧ (found2 ++ rest2).Perm (found ++ rest) ∧ rest2.length + 1 = rest.length := by
      intro c1 mm1 hT1 hne
      have hpos : 0 < rest.length := List.length_pos_iff.mpr hne
      obtain ⟨v, mm2, e, v0, v1, hT2⟩ := drawE_ok (ρ := [some (.s ns), some (.t c1 mm1), some (.d names), some (.d (.int least)), some (.l (rest.map .str)), some (.l (found.map .str))]) (f := eB (b1 lenD) (aCons (eVar 4) aNil)) (many := rest.length) hT1 rfl rfl (ex_b1 (y := .int rest.length) (ex_own rfl) (by simp [lenD])) (by omega) (by omega)
      have hv : v.toNat < rest.length := by omega
      refine ⟨rest.eraseIdx v.toNat, found ++ [rest[v.toNat]], c1 + 1, mm2, ?_, hT2, ?_, ?_⟩
      · have ep : ePop 4 (drawE (eB (b1 lenD) (aCons (eVar 4) aNil))) [some (.s ns), some (.t c1 mm1), some (.d names), some (.d (.int least)), some (.l (rest.map .str)), some (.l (found.map .str))] = some (.d (.str rest[v.toNat]), [some (.s ns), some (.t (c1 + 1) mm2), some (.d names), some (.d (.int least)), some (.l ((rest.eraseIdx v.toNat).map .str)), some (.l (found.map .str))]) := by
          unfold ePop
          rw [e]
          simp only [ownAt, List.getElem?_cons_succ, List.getElem?_cons_zero, Option.bind_some, List.set_cons_succ, List.set_cons_zero]
          rw [if_pos ⟨v0, by simpa using v1, by omega⟩]
          simp [hv, erase_map]
        unfold sApp
        rw [ep]
        simp only [ownAt, List.getElem?_cons_succ, List.getElem?_cons_zero, Option.bind_some, out1, List.set_cons_succ, List.set_cons_zero]
        rw [if_pos (by rw [sizeL]; simp; omega)]
        simp
      · have hp : (rest[v.toNat] :: rest.eraseIdx v.toNat).Perm rest := erase_perm rest v.toNat hv
        rw [List.append_assoc]
        exact List.Perm.append_left found hp
      · rw [List.length_eraseIdx]
        simp [hv]
        omega
    by_cases hr : rest = []
    · subst hr
      refine ⟨[], found, c, mm, ?_, hT, List.Perm.refl _, .inl rfl⟩
      have := et_and (u := orT (toT (e2 (op2 ltD) (eB (b1 lenD) (aCons (eVar 5) aNil)) (eVar 3))) (toT (e2 (op2 gtD) (drawE (eC (.int 5))) (eC (.int 0))))) (b := true) hN fun h => by simp at h
      rw [show andT _ _ _ = some (_, _) from this]
      rfl
    · have hr1 : rest.isEmpty = false := by
        cases rest with
        | nil => exact absurd rfl hr
        | cons => rfl
      have go : ∀ (c1 : Int) (mm1 : List (Int × Int)), TownOk ns mm1 → andT (toT (e2 (op2 neD) (eVar 4) (ofF (fLst aNil)))) (orT (toT (e2 (op2 ltD) (eB (b1 lenD) (aCons (eVar 5) aNil)) (eVar 3))) (toT (e2 (op2 gtD) (drawE (eC (.int 5))) (eC (.int 0))))) [some (.s ns), some (.t c mm), some (.d names), some (.d (.int least)), some (.l (rest.map .str)), some (.l (found.map .str))] = some (true, [some (.s ns), some (.t c1 mm1), some (.d names), some (.d (.int least)), some (.l (rest.map .str)), some (.l (found.map .str))]) →
          ∃ (rest' found' : List Str) (c' : Int) (mm' : List (Int × Int)), ((andT (toT (e2 (op2 neD) (eVar 4) (ofF (fLst aNil)))) (orT (toT (e2 (op2 ltD) (eB (b1 lenD) (aCons (eVar 5) aNil)) (eVar 3))) (toT (e2 (op2 gtD) (drawE (eC (.int 5))) (eC (.int 0)))))) [some (.s ns), some (.t c mm), some (.d names), some (.d (.int least)), some (.l (rest.map .str)), some (.l (found.map .str))]).bind (fun p => if p.1 = true then (sApp 5 (ePop 4 (drawE (eB (b1 lenD) (aCons (eVar 4) aNil)))) p.2).bind fun o => match o with
            | .next ρ2 => whileD (andT (toT (e2 (op2 neD) (eVar 4) (ofF (fLst aNil)))) (orT (toT (e2 (op2 ltD) (eB (b1 lenD) (aCons (eVar 5) aNil)) (eVar 3))) (toT (e2 (op2 gtD) (drawE (eC (.int 5))) (eC (.int 0)))))) (sApp 5 (ePop 4 (drawE (eB (b1 lenD) (aCons (eVar 4) aNil))))) fuel ρ2
            | .cont ρ2 => whileD (andT (toT (e2 (op2 neD) (eVar 4) (ofF (fLst aNil)))) (orT (toT (e2 (op2 ltD) (eB (b1 lenD) (aCons (eVar 5) aNil)) (eVar 3))) (toT (e2 (op2 gtD) (drawE (eC (.int 5))) (eC (.int 0)))))) (sApp 5 (ePop 4 (drawE (eB (b1 lenD) (aCons (eVar 4) aNil))))) fuel ρ2
            | .brk ρ2 => some (.next ρ2)
            | .ret d ρ2 => some (.ret d ρ2) | .exc x => some (.exc x) else some (.next p.2)) =
          some (.next [some (.s ns), some (.t c' mm'), some (.d names), some (.d (.int least)), some (.l (rest'.map .str)), some (.l (found'.map .str))]) ∧ TownOk ns mm' ∧ (found' ++ rest').Perm (found ++ rest) ∧ (rest' = [] ∨ least ≤ found'.length) := by
        intro c1 mm1 hT1 hc
        obtain ⟨rest2, found2, c2, mm2, e2, hT2, p2, l2⟩ := body c1 mm1 hT1 hr
        have pl := p2.length_eq
        simp only [List.length_append] at pl
        obtain ⟨rest', found', c', mm', e3, hT3, p3, q3⟩ := mixed_loop ns names least (k - 1) rest2 found2 c2 mm2 fuel (by omega) (by omega) (by omega) hT2
        refine ⟨rest', found', c', mm', ?_, hT3, p3.trans p2, q3⟩
        rw [hc]
        simp only [Option.bind_some, if_true, e2]
        exact e3
      by_cases hl : (found.length : Int) < least
      · refine go c mm hT ?_
        have := et_and hN fun _ => et_or (u := toT (e2 (op2 gtD) (drawE (eC (.int 5))) (eC (.int 0)))) (b := true) hL fun h => by simp [hl] at h
        simpa [Et, hr1, hl] using this
      · obtain ⟨v, mm2, e, v0, v1, hT2⟩ := drawE_ok (ρ := [some (.s ns), some (.t c mm), some (.d names), some (.d (.int least)), some (.l (rest.map .str)), some (.l (found.map .str))]) (f := eC (.int 5)) (many := 5) hT rfl rfl ev_c (by omega) (by omega)
        have hN' : toT (e2 (op2 neD) (eVar 4) (ofF (fLst aNil))) [some (.s ns), some (.t c mm), some (.d names), some (.d (.int least)), some (.l (rest.map .str)), some (.l (found.map .str))] = some (true, [some (.s ns), some (.t c mm), some (.d names), some (.d (.int least)), some (.l (rest.map .str)), some (.l (found.map .str))]) := by
          have := hN
          rw [hr1] at this
          exact this
        have hL' : toT (e2 (op2 ltD) (eB (b1 lenD) (aCons (eVar 5) aNil)) (eVar 3)) [some (.s ns), some (.t c mm), some (.d names), some (.d (.int least)), some (.l (rest.map .str)), some (.l (found.map .str))] = some (false, [some (.s ns), some (.t c mm), some (.d names), some (.d (.int least)), some (.l (rest.map .str)), some (.l (found.map .str))]) := by
          have := hL
          rw [decide_eq_false hl] at this
          exact this
        have hD : toT (e2 (op2 gtD) (drawE (eC (.int 5))) (eC (.int 0))) [some (.s ns), some (.t c mm), some (.d names), some (.d (.int least)), some (.l (rest.map .str)), some (.l (found.map .str))] = some (decide (0 < v), [some (.s ns), some (.t (c + 1) mm2), some (.d names), some (.d (.int least)), some (.l (rest.map .str)), some (.l (found.map .str))]) := by
          unfold toT e2
          rw [e]
          rfl
        have hc : andT (toT (e2 (op2 neD) (eVar 4) (ofF (fLst aNil)))) (orT (toT (e2 (op2 ltD) (eB (b1 lenD) (aCons (eVar 5) aNil)) (eVar 3))) (toT (e2 (op2 gtD) (drawE (eC (.int 5))) (eC (.int 0))))) [some (.s ns), some (.t c mm), some (.d names), some (.d (.int least)), some (.l (rest.map .str)), some (.l (found.map .str))] = some (decide (0 < v), [some (.s ns), some (.t (c + 1) mm2), some (.d names), some (.d (.int least)), some (.l (rest.map .str)), some (.l (found.map .str))]) := by
          unfold andT
          rw [hN']
          simp only [Option.bind_some, if_true]
          unfold orT
          rw [hL']
          simp only [Option.bind_some, Bool.false_eq_true, if_false]
          exact hD
        by_cases hv : 0 < v
        · rw [decide_eq_true hv] at hc
          exact go (c + 1) mm2 hT2 hc
        · refine ⟨rest, found, c + 1, mm2, ?_, hT2, List.Perm.refl _, .inr (by omega)⟩
          rw [hc, decide_eq_false hv]
          rfl
theorem mixed_ok (ns : List Int) (c : Int) (mm : List (Int × Int)) (names : List Str) (least : Int) (hT : TownOk ns mm) (hz : names.length ≤ 100) :
    ∃ (r : List Str) (c' : Int) (mm' : List (Int × Int)), m__law_mixed ns c mm [.tuple (names.map .str), .int least] = some (.tuple (r.map .str), c', mm') ∧ TownOk ns mm' ∧ (∃ q, (r ++ q).Perm names) ∧ (names ≠ [] → 1 ≤ least → r ≠ []) := by
  obtain ⟨rest', found', c', mm', e, hT', hp, hq⟩ := mixed_loop ns (.tuple (names.map .str)) least names.length names [] c mm 200 (Nat.le_refl _) (by omega) (by simp; omega) hT
  refine ⟨found', c', mm', ?_, hT', ⟨rest', by simpa using hp⟩, fun h1 h2 h3 => ?_⟩
  · show runT 6 F__law_mixed ns c mm _ = _
    unfold runT
    have hb : DL.bindArgs [.tuple (names.map .str), .int least] = some [.d (.tuple (names.map .str)), .d (.int least)] := by
      have h1 : immL (names.map .str) = true := immL_map (fun _ => rfl) names
      simp [DL.bindArgs, bindArg, imm, h1]
    rw [hb]
    simp only [Option.bind_some]
    have s1 : sPar [4, 5] (xF (fB listD (eVar 2)) (xF (fLst aNil) xNil)) [some (.s ns), some (.t c mm), some (.d (.tuple (names.map .str))), some (.d (.int least)), none, none] = some (.next [some (.s ns), some (.t c mm), some (.d (.tuple (names.map .str))), some (.d (.int least)), some (.l (names.map .str)), some (.l [])]) := rfl
    have s3 : sRet (eB (b1 tupD) (aCons (eVar 5) aNil)) [some (.s ns), some (.t c' mm'), some (.d (.tuple (names.map .str))), some (.d (.int least)), some (.l (rest'.map .str)), some (.l (found'.map .str))] = some (.ret (.tuple (found'.map .str)) [some (.s ns), some (.t c' mm'), some (.d (.tuple (names.map .str))), some (.d (.int least)), some (.l (rest'.map .str)), some (.l (found'.map .str))]) := es_ret (ex_b1 (ex_own rfl) rfl)
    have : F__law_mixed (pad 6 [.s ns, .t c mm, .d (.tuple (names.map .str)), .d (.int least)]) = some (.ret (.tuple (found'.map .str)) [some (.s ns), some (.t c' mm'), some (.d (.tuple (names.map .str))), some (.d (.int least)), some (.l (rest'.map .str)), some (.l (found'.map .str))]) := by
      show F__law_mixed [some (.s ns), some (.t c mm), some (.d (.tuple (names.map .str))), some (.d (.int least)), none, none] = _
      unfold F__law_mixed
      exact es_seq s1 (es_seq e s3)
    rw [this]
    simp [outD, tAt]
  · subst h3
    rcases hq with hq | hq
    · subst hq
      have := hp.length_eq
      simp at this
      exact h1 (List.length_eq_zero_iff.mp this.symm)
    · simp at hq
      omega
end W

namespace W
open PySem L2 DL

/-! ### _law_a_book -/
abbrev pairE (p : Str × List Str) : D := .tuple [.str p.1, .tuple (p.2.map .str)]
abbrev mixE (i j : Nat) : FE := eTup (aCons (eVar i) (aCons (eCallT 2 m__law_mixed (aCons (eVar 0) (aCons (eVar 1) (aCons (eVar j) (aCons (eC (.int 1)) aNil))))) aNil))
def Drawn (names : List Str) (t : Tab) : Prop := ∀ p ∈ t, (∃ q, (p.2 ++ q).Perm names) ∧ (names ≠ [] → p.2 ≠ [])
theorem mixE_ok {ρ : Rho} {ns : List Int} {c : Int} {mm : List (Int × Int)} {i j : Nat} {h : Str} {names : List Str} (h0 : ρ[0]? = some (some (.s ns))) (h1 : ρ[1]? = some (some (.t c mm))) (hi : ρ[i]? = some (some (.d (.str h)))) (hj : ρ[j]? = some (some (.d (.tuple (names.map .str))))) (hT : TownOk ns mm) (hz : names.length ≤ 100) :
    ∃ r c' mm', mixE i j ρ = some (.d (pairE (h, r)), ρ.set 1 (some (.t c' mm'))) ∧ TownOk ns mm' ∧ (∃ q, (r ++ q).Perm names) ∧ (names ≠ [] → r ≠ []) := by
  obtain ⟨r, c', mm', e, hT', hp, hn⟩ := mixed_ok ns c mm names 1 hT hz
  refine ⟨r, c', mm', ?_, hT', hp, fun z => hn z (by omega)⟩
  have a0 : eVar 0 ρ = some (.own 0, ρ) := by simp [eVar, h0]
  have a1 : eVar 1 ρ = some (.own 1, ρ) := by simp [eVar, h1]
  have aj : eVar j ρ = some (.d (.tuple (names.map .str)), ρ) := by simp [eVar, hj]
  have ai : eVar i ρ = some (.d (.str h), ρ) := by simp [eVar, hi]
  have s0 : sAt 0 ρ = some ns := by simp [sAt, h0]
  have t1 : tAt 1 ρ = some (c, mm) := by simp [tAt, h1]
  have ec : eCallT 2 m__law_mixed (aCons (eVar 0) (aCons (eVar 1) (aCons (eVar j) (aCons (eC (.int 1)) aNil)))) ρ = some (.d (.tuple (r.map .str)), ρ.set 1 (some (.t c' mm'))) := by
    simp [eCallT, aCons, aNil, eC, a0, a1, aj, s0, t1, rdos, rdo, e]
  simp [mixE, eTup, aCons, aNil, ai, ec, pls, sizeL]
theorem book_lc {ns : List Int} {i j : Nat} {names : List Str} (hi0 : i ≠ 0) (hi1 : i ≠ 1) (hij : i ≠ j) (hj1 : j ≠ 1) (hz : names.length ≤ 100) : ∀ (hs : List Str) (ρ : Rho) (c : Int) (mm : List (Int × Int)), ρ[0]? = some (some (.s ns)) → ρ[1]? = some (some (.t c mm)) → ρ[j]? = some (some (.d (.tuple (names.map .str)))) → ρ[i]? = some none → TownOk ns mm →
    ∃ (t : Tab) (c' : Int) (mm' : List (Int × Int)), lcD (put i) tYesT (mixE i j) [i] (hs.map fun h => R.d (.str h)) ρ = some (t.map pairE, ρ.set 1 (some (.t c' mm'))) ∧ t.map (·.1) = hs ∧ Drawn names t ∧ TownOk ns mm'
  | [], ρ, c, mm, h0, h1, hj, hi, hT => ⟨[], c, mm, by
      have e : ρ.set 1 (some (.t c mm)) = ρ := by
        refine List.ext_getElem? fun m => ?_
        rw [List.getElem?_set]
        split
        · rename_i z
          subst z
          split
          · exact h1.symm
          · rename_i q
            rw [List.getElem?_eq_none (by omega)] at h1
            cases h1
        · rfl
      simp [lcD, e], rfl, (fun p hp => by cases hp), hT⟩
  | h :: hs, ρ, c, mm, h0, h1, hj, hi, hT => by
    have li : i < ρ.length := (List.getElem?_eq_some_iff.mp hi).1
    have l1 : 1 < ρ.length := (List.getElem?_eq_some_iff.mp h1).1
    obtain ⟨r, c1, mm1, e, hT1, hp, hn⟩ := mixE_ok (ρ := ρ.set i (some (.d (.str h)))) (i := i) (j := j) (h := h) (names := names) (by rw [List.getElem?_set_ne hi0]; exact h0) (by rw [List.getElem?_set_ne hi1]; exact h1) (by rw [List.getElem?_set_self li]) (by rw [List.getElem?_set_ne hij]; exact hj) hT hz
    have ew : wpR ((ρ.set i (some (.d (.str h)))).set 1 (some (.t c1 mm1))) [i] = ρ.set 1 (some (.t c1 mm1)) := by
      refine List.ext_getElem? fun m => ?_
      simp only [wpR, List.getElem?_set, List.length_set]
      by_cases a1 : i = m
      · subst a1
        have n1 : ¬ 1 = i := fun z => hi1 z.symm
        rw [if_pos rfl, if_pos li, if_neg n1, hi]
      · by_cases a2 : 1 = m <;> simp [a1, a2]
    have eo : okW ((ρ.set i (some (.d (.str h)))).set 1 (some (.t c1 mm1))) [i] = true := by
      simp [okW, List.getElem?_set, li, Ne.symm hi1]
    obtain ⟨t, c2, mm2, e2, k1, k2, k3⟩ := book_lc hi0 hi1 hij hj1 hz hs (ρ.set 1 (some (.t c1 mm1))) c1 mm1 (by rw [List.getElem?_set_ne (by decide)]; exact h0) (by rw [List.getElem?_set_self l1]) (by rw [List.getElem?_set_ne (Ne.symm hj1)]; exact hj) (by rw [List.getElem?_set_ne (Ne.symm hi1)]; exact hi) hT1
    refine ⟨(h, r) :: t, c2, mm2, ?_, by simp [k1], fun p hp' => ?_, k3⟩
    · rw [List.map_cons, lcD_eq]
      have ep : put i (.d (.str h)) ρ = some (ρ.set i (some (.d (.str h)))) := by simp [put, li]
      rw [ep]
      simp only [Option.bind_some, tYesT, if_true]
      rw [e]
      simp only [Option.bind_some, out1, eo, if_true]
      rw [ew, e2]
      simp [List.set_set]
    · rcases List.mem_cons.mp hp' with rfl | hp'
      · exact ⟨hp, hn⟩
      · exact k2 p hp'
end W

namespace W
open PySem L2 DL
def hNames : List Str := ["barn", "cot", "den", "hut", "inn"]
def pNames : List Str := ["ann", "bob", "cat", "dan", "eve"]
theorem some_draw {ρ : Rho} {ns : List Int} {c : Int} {mm : List (Int × Int)} {f : FE} {many : Int} (hT : TownOk ns mm) (h0 : ρ[0]? = some (some (.s ns))) (h1 : ρ[1]? = some (some (.t c mm))) (hf : Ev f ρ (.int many)) (g0 : 0 < many) (g1 : many < 1073741824) :
    ∃ (k : Nat) (mm' : List (Int × Int)), oSome (e2 (op2 addD) (eC (.int 1)) (drawE f)) ρ = some (some ((k : Nat) : Int), ρ.set 1 (some (.t (c + 1) mm'))) ∧ 1 ≤ k ∧ (k : Int) ≤ many ∧ TownOk ns mm' := by
  obtain ⟨v, mm', e, v0, v1, hT'⟩ := drawE_ok hT h0 h1 hf g0 g1
  refine ⟨(1 + v).toNat, mm', ?_, by omega, by omega, hT'⟩
  have e' : ((1 + v).toNat : Int) = 1 + v := by omega
  unfold oSome e2
  rw [show eC (.int 1) ρ = some (.d (.int 1), ρ) from rfl]
  simp only [Option.bind_some]
  rw [e, e']
  rfl
theorem ret_pair {ρ ρ' : Rho} {x : D} {l : List D} {i : Nat} {k : FF} (e6 : eVar i ρ = some (.d x, ρ)) (hl : k ρ = some (l, ρ')) : sRet (eTup (aCons (eVar i) (aCons (eB (b1 tupD) (aCons (ofF k) aNil)) aNil))) ρ = some (.ret (.tuple [x, .tuple l]) ρ') := by
  simp [sRet, eTup, aCons, aNil, eB, b1, ofF, e6, hl, rdo, tupD, pls, sizeL, out1]
theorem a_book_ok (ns : List Int) (c : Int) (mm : List (Int × Int)) (hm pm : Int) (hT : TownOk ns mm) (h1 : 0 < hm) (h2 : hm ≤ 5) (p1 : 0 < pm) (p2 : pm ≤ 5) :
    ∃ (b : Bk) (k1 k2 : Nat) (c' : Int) (mm' : List (Int × Int)), m__law_a_book ns c mm [.int hm, .int pm] = some (b.enc, c', mm') ∧ TownOk ns mm' ∧ 1 ≤ k1 ∧ (k1 : Int) ≤ hm ∧ 1 ≤ k2 ∧ (k2 : Int) ≤ pm ∧ b.houses = hNames.take k1 ∧ b.people = pNames.take k2 ∧ Drawn b.people b.rows ∧ Drawn b.houses b.likes := by
  obtain ⟨k1, mm1, q1, a1, a2, hT1⟩ := some_draw (ρ := [some (.s ns), some (.t c mm), some (.d (.int hm)), some (.d (.int pm)), none, none, none, none, none]) (f := eVar 2) (many := hm) hT rfl rfl (ev_var rfl) h1 (by omega)
  obtain ⟨k2, mm2, q2, w1, w2, hT2⟩ := some_draw (ρ := [some (.s ns), some (.t (c + 1) mm1), some (.d (.int hm)), some (.d (.int pm)), some (.d (.tuple ((hNames.take k1).map .str))), none, none, none, none]) (f := eVar 3) (many := pm) hT1 rfl rfl (ev_var rfl) p1 (by omega)
  have lh : (hNames.take k1).length ≤ 5 := by simp [hNames, List.length_take]; omega
  have lp : (pNames.take k2).length ≤ 5 := by simp [pNames, List.length_take]; omega
  obtain ⟨t1, c3, mm3, q3, n3, d3, hT3⟩ := book_lc (ns := ns) (i := 7) (j := 5) (names := pNames.take k2) (by decide) (by decide) (by decide) (by decide) (by omega) (hNames.take k1) [some (.s ns), some (.t (c + 1 + 1) mm2), some (.d (.int hm)), some (.d (.int pm)), some (.d (.tuple ((hNames.take k1).map .str))), some (.d (.tuple ((pNames.take k2).map .str))), none, none, none] _ mm2 rfl rfl rfl rfl hT2
  obtain ⟨t2, c4, mm4, q4, n4, d4, hT4⟩ := book_lc (ns := ns) (i := 8) (j := 4) (names := hNames.take k1) (by decide) (by decide) (by decide) (by decide) (by omega) (pNames.take k2) [some (.s ns), some (.t c3 mm3), some (.d (.int hm)), some (.d (.int pm)), some (.d (.tuple ((hNames.take k1).map .str))), some (.d (.tuple ((pNames.take k2).map .str))), some (.d (encT t1)), none, none] _ mm3 rfl rfl rfl rfl hT3
  have r1 : t1.length ≤ 5 := by
    have := congrArg List.length n3
    rw [List.length_map] at this
    omega
  have r2 : t2.length ≤ 5 := by
    have := congrArg List.length n4
    rw [List.length_map] at this
    omega
  refine ⟨⟨t1, t2⟩, k1, k2, c4, mm4, ?_, hT4, a1, a2, w1, w2, n3, n4, ?_, ?_⟩
  · show runT 9 F__law_a_book ns c mm _ = _
    unfold runT
    have hb : DL.bindArgs [.int hm, .int pm] = some [.d (.int hm), .d (.int pm)] := by simp [DL.bindArgs, bindArg, imm]
    rw [hb]
    simp only [Option.bind_some]
    have eH : ∀ ρ : Rho, eTup (aCons (eC (.str "barn")) (aCons (eC (.str "cot")) (aCons (eC (.str "den")) (aCons (eC (.str "hut")) (aCons (eC (.str "inn")) aNil))))) ρ = some (.d (.tuple (hNames.map .str)), ρ) := fun ρ => ev_tup (vs := hNames.map .str) (ea_cons ev_c (ea_cons ev_c (ea_cons ev_c (ea_cons ev_c (ea_cons ev_c ea_nil))))) (by simp [sizeL, hNames, pNames])
    have eP : ∀ ρ : Rho, eTup (aCons (eC (.str "ann")) (aCons (eC (.str "bob")) (aCons (eC (.str "cat")) (aCons (eC (.str "dan")) (aCons (eC (.str "eve")) aNil))))) ρ = some (.d (.tuple (pNames.map .str)), ρ) := fun ρ => ev_tup (vs := pNames.map .str) (ea_cons ev_c (ea_cons ev_c (ea_cons ev_c (ea_cons ev_c (ea_cons ev_c ea_nil))))) (by simp [sizeL, hNames, pNames])
    have s1 : sAsg (eSl (eTup (aCons (eC (.str "barn")) (aCons (eC (.str "cot")) (aCons (eC (.str "den")) (aCons (eC (.str "hut")) (aCons (eC (.str "inn")) aNil)))))) oNone (oSome (e2 (op2 addD) (eC (.int 1)) (drawE (eVar 2))))) (put 4) [some (.s ns), some (.t c mm), some (.d (.int hm)), some (.d (.int pm)), none, none, none, none, none] = some (.next [some (.s ns), some (.t (c + 1) mm1), some (.d (.int hm)), some (.d (.int pm)), some (.d (.tuple ((hNames.take k1).map .str))), none, none, none, none]) := by
      unfold sAsg eSl
      rw [eH]
      simp only [Option.bind_some, oNone]
      rw [q1]
      simp [rdo, cutD_to, out1, put, List.map_take]
    have s2 : sAsg (eSl (eTup (aCons (eC (.str "ann")) (aCons (eC (.str "bob")) (aCons (eC (.str "cat")) (aCons (eC (.str "dan")) (aCons (eC (.str "eve")) aNil)))))) oNone (oSome (e2 (op2 addD) (eC (.int 1)) (drawE (eVar 3))))) (put 5) [some (.s ns), some (.t (c + 1) mm1), some (.d (.int hm)), some (.d (.int pm)), some (.d (.tuple ((hNames.take k1).map .str))), none, none, none, none] = some (.next [some (.s ns), some (.t (c + 1 + 1) mm2), some (.d (.int hm)), some (.d (.int pm)), some (.d (.tuple ((hNames.take k1).map .str))), some (.d (.tuple ((pNames.take k2).map .str))), none, none, none]) := by
      unfold sAsg eSl
      rw [eP]
      simp only [Option.bind_some, oNone]
      rw [q2]
      simp [rdo, cutD_to, out1, put, List.map_take]
    have s3 : sAsg (eB (b1 tupD) (aCons (ofF (fLc (iSeq (eVar 4)) (put 7) tYesT (mixE 7 5) [7])) aNil)) (put 6) [some (.s ns), some (.t (c + 1 + 1) mm2), some (.d (.int hm)), some (.d (.int pm)), some (.d (.tuple ((hNames.take k1).map .str))), some (.d (.tuple ((pNames.take k2).map .str))), none, none, none] = some (.next [some (.s ns), some (.t c3 mm3), some (.d (.int hm)), some (.d (.int pm)), some (.d (.tuple ((hNames.take k1).map .str))), some (.d (.tuple ((pNames.take k2).map .str))), some (.d (encT t1)), none, none]) := by
      have hi : iSeq (eVar 4) [some (.s ns), some (.t (c + 1 + 1) mm2), some (.d (.int hm)), some (.d (.int pm)), some (.d (.tuple ((hNames.take k1).map .str))), some (.d (.tuple ((pNames.take k2).map .str))), none, none, none] = some ((hNames.take k1).map fun h => R.d (.str h), [some (.s ns), some (.t (c + 1 + 1) mm2), some (.d (.int hm)), some (.d (.int pm)), some (.d (.tuple ((hNames.take k1).map .str))), some (.d (.tuple ((pNames.take k2).map .str))), none, none, none]) := by
        simp [iSeq, eVar, out1, seqD, List.map_map, Function.comp_def]
      unfold sAsg eB aCons ofF fLc
      rw [hi]
      simp only [Option.bind_some]
      rw [if_pos ⟨rfl, by rw [List.length_map, sizeL]; omega⟩]
      rw [show wpR [some (.s ns), some (.t (c + 1 + 1) mm2), some (.d (.int hm)), some (.d (.int pm)), some (.d (.tuple ((hNames.take k1).map .str))), some (.d (.tuple ((pNames.take k2).map .str))), none, none, none] [7] = [some (.s ns), some (.t (c + 1 + 1) mm2), some (.d (.int hm)), some (.d (.int pm)), some (.d (.tuple ((hNames.take k1).map .str))), some (.d (.tuple ((pNames.take k2).map .str))), none, none, none] from rfl, q3]
      rfl
    have s4 : sRet (eTup (aCons (eVar 6) (aCons (eB (b1 tupD) (aCons (ofF (fLc (iSeq (eVar 5)) (put 8) tYesT (mixE 8 4) [8])) aNil)) aNil))) [some (.s ns), some (.t c3 mm3), some (.d (.int hm)), some (.d (.int pm)), some (.d (.tuple ((hNames.take k1).map .str))), some (.d (.tuple ((pNames.take k2).map .str))), some (.d (encT t1)), none, none] = some (.ret (Bk.enc ⟨t1, t2⟩) [some (.s ns), some (.t c4 mm4), some (.d (.int hm)), some (.d (.int pm)), some (.d (.tuple ((hNames.take k1).map .str))), some (.d (.tuple ((pNames.take k2).map .str))), some (.d (encT t1)), none, none]) := by
      have hi : iSeq (eVar 5) [some (.s ns), some (.t c3 mm3), some (.d (.int hm)), some (.d (.int pm)), some (.d (.tuple ((hNames.take k1).map .str))), some (.d (.tuple ((pNames.take k2).map .str))), some (.d (encT t1)), none, none] = some ((pNames.take k2).map fun h => R.d (.str h), [some (.s ns), some (.t c3 mm3), some (.d (.int hm)), some (.d (.int pm)), some (.d (.tuple ((hNames.take k1).map .str))), some (.d (.tuple ((pNames.take k2).map .str))), some (.d (encT t1)), none, none]) := by
        simp [iSeq, eVar, out1, seqD, List.map_map, Function.comp_def]
      have hl : fLc (iSeq (eVar 5)) (put 8) tYesT (mixE 8 4) [8] [some (.s ns), some (.t c3 mm3), some (.d (.int hm)), some (.d (.int pm)), some (.d (.tuple ((hNames.take k1).map .str))), some (.d (.tuple ((pNames.take k2).map .str))), some (.d (encT t1)), none, none] = some (t2.map pairE, [some (.s ns), some (.t c4 mm4), some (.d (.int hm)), some (.d (.int pm)), some (.d (.tuple ((hNames.take k1).map .str))), some (.d (.tuple ((pNames.take k2).map .str))), some (.d (encT t1)), none, none]) := by
        unfold fLc
        rw [hi]
        simp only [Option.bind_some]
        rw [if_pos ⟨rfl, by rw [List.length_map, sizeL]; omega⟩]
        rw [show wpR [some (.s ns), some (.t c3 mm3), some (.d (.int hm)), some (.d (.int pm)), some (.d (.tuple ((hNames.take k1).map .str))), some (.d (.tuple ((pNames.take k2).map .str))), some (.d (encT t1)), none, none] [8] = [some (.s ns), some (.t c3 mm3), some (.d (.int hm)), some (.d (.int pm)), some (.d (.tuple ((hNames.take k1).map .str))), some (.d (.tuple ((pNames.take k2).map .str))), some (.d (encT t1)), none, none] from rfl, q4]
        rfl
      have e6 : eVar 6 [some (.s ns), some (.t c3 mm3), some (.d (.int hm)), some (.d (.int pm)), some (.d (.tuple ((hNames.take k1).map .str))), some (.d (.tuple ((pNames.take k2).map .str))), some (.d (encT t1)), none, none] = some (.d (encT t1), [some (.s ns), some (.t c3 mm3), some (.d (.int hm)), some (.d (.int pm)), some (.d (.tuple ((hNames.take k1).map .str))), some (.d (.tuple ((pNames.take k2).map .str))), some (.d (encT t1)), none, none]) := rfl
      exact ret_pair e6 hl
    have : F__law_a_book (pad 9 [.s ns, .t c mm, .d (.int hm), .d (.int pm)]) = some (.ret (Bk.enc ⟨t1, t2⟩) [some (.s ns), some (.t c4 mm4), some (.d (.int hm)), some (.d (.int pm)), some (.d (.tuple ((hNames.take k1).map .str))), some (.d (.tuple ((pNames.take k2).map .str))), some (.d (encT t1)), none, none]) := by
      show F__law_a_book [some (.s ns), some (.t c mm), some (.d (.int hm)), some (.d (.int pm)), none, none, none, none, none] = _
      unfold F__law_a_book
      exact es_seq s1 (es_seq s2 (es_seq s3 s4))
    rw [this]
    simp [outD, tAt]
  · show Drawn (t2.map (·.1)) t1
    rw [n4]
    exact d3
  · show Drawn (t1.map (·.1)) t2
    rw [n3]
    exact d4
end W

namespace W
open PySem L2 DL
/-! ### the drawn book is a book -/
theorem names_h : ∀ k, k ≤ 5 → (hNames.take k).all nameS = true ∧ risingS (hNames.take k) = true := by decide +kernel
theorem names_p : ∀ k, k ≤ 5 → (pNames.take k).all nameS = true ∧ risingS (pNames.take k) = true := by decide +kernel
theorem nd_h : hNames.Nodup := by decide +kernel
theorem nd_p : pNames.Nodup := by decide +kernel
theorem ddl_id : ∀ (l acc : List Key), (acc ++ l).Nodup → l.foldl (fun acc k => if hasK acc k = true then acc else acc ++ [k]) acc = acc ++ l
  | [], acc, _ => by simp
  | k :: l, acc, h => by
    have hk : ¬ hasK acc k = true := fun z => by
      obtain ⟨j, h1, h2⟩ := List.any_eq_true.mp z
      have e : j = k := by simpa using h2
      subst e
      rw [List.nodup_append] at h
      exact h.2.2 j h1 j List.mem_cons_self rfl
    rw [List.foldl_cons, if_neg hk, ddl_id l (acc ++ [k]) (by simpa using h)]
    simp
theorem dist_nodup {ss : List Str} (h : ss.Nodup) : distS ss = true := by
  unfold distS
  have nd : (ss.map (Sum.inr : Str → Key)).Nodup := List.Pairwise.map _ (fun a b h z => h (by injection z)) h
  have := ddl_id (ss.map Sum.inr) [] (by simpa using nd)
  unfold ddl
  rw [this]
  simp
theorem map_txt (ss : List Str) : (ss.map PyData.str).map txt = ss := by simp [List.map_map, Function.comp_def, txt]
theorem someB_strs {ss r : List Str} (nd : r.Nodup) (h : ∀ s ∈ r, s ∈ ss) : someB ss (.tuple (r.map .str)) = true := by
  simp only [someB, map_txt, dist_nodup nd, Bool.and_true, List.all_map]
  rw [List.all_eq_true]
  intro s hs
  simpa [strIn] using h s hs
theorem drawn_row {names r : List Str} (hn : names.Nodup) (h : ∃ q, (r ++ q).Perm names) : r.Nodup ∧ (∀ s ∈ r, s ∈ names) ∧ r.length ≤ names.length := by
  obtain ⟨q, hp⟩ := h
  have nd := hp.nodup_iff.mpr hn
  rw [List.nodup_append] at nd
  refine ⟨nd.1, fun s hs => hp.mem_iff.mp (List.mem_append_left _ hs), ?_⟩
  have := hp.length_eq
  rw [List.length_append] at this
  omega
structure Bk.Good (b : Bk) : Prop where
  ok : b.Ok
  nh : b.houses.all nameS = true ∧ risingS b.houses = true
  np : b.people.all nameS = true ∧ risingS b.people = true
  p0 : b.people ≠ []
theorem good_of {b : Bk} {k1 k2 : Nat} (a1 : k1 ≤ 5) (b0 : 1 ≤ k2) (b1 : k2 ≤ 5) (eh : b.houses = hNames.take k1) (ep : b.people = pNames.take k2) (dr : Drawn b.people b.rows) (dl : Drawn b.houses b.likes) : b.Good := by
  have lh : b.rows.length ≤ 5 := by
    have := congrArg List.length eh
    rw [Bk.houses, List.length_map, List.length_take] at this
    simp [hNames] at this
    omega
  have lp : b.likes.length ≤ 5 := by
    have := congrArg List.length ep
    rw [Bk.people, List.length_map, List.length_take] at this
    simp [pNames] at this
    omega
  have nh : b.houses.Nodup := by
    rw [eh]
    exact nd_h.sublist (List.take_sublist _ _)
  have np : b.people.Nodup := by
    rw [ep]
    exact nd_p.sublist (List.take_sublist _ _)
  have lh' : b.houses.length ≤ 5 := by rw [Bk.houses, List.length_map]; exact lh
  have lp' : b.people.length ≤ 5 := by rw [Bk.people, List.length_map]; exact lp
  refine ⟨⟨lh, lp, nh, np, fun p hp => ?_, fun p hp => ?_⟩, by rw [eh]; exact names_h k1 a1, by rw [ep]; exact names_p k2 b1, fun z => ?_⟩
  · obtain ⟨z1, z2, z3⟩ := drawn_row np (dr p hp).1
    exact ⟨by omega, z1, z2⟩
  · obtain ⟨z1, z2, z3⟩ := drawn_row nh (dl p hp).1
    exact ⟨by omega, z1, z2⟩
  · rw [ep] at z
    have := congrArg List.length z
    rw [List.length_take] at this
    simp [pNames] at this
    omega
theorem fst0_enc (t : Tab) : (t.map pairE).map fst0 = t.map (·.1) := by simp [List.map_map, Function.comp_def, fst0]
theorem named_enc {t : Tab} (hl : t.length ≤ 5) (h1 : (t.map (·.1)).all nameS = true) (h2 : risingS (t.map (·.1)) = true) : namedB (encT t) = true := by
  show (decide ((t.map pairE).length ≤ 5) && (t.map pairE).all pairB && risingS ((t.map pairE).map fst0)) = true
  rw [fst0_enc, h2, List.length_map, decide_eq_true hl]
  simp only [Bool.true_and, Bool.and_true, List.all_map]
  rw [List.all_map] at h1
  exact h1
theorem book_good {b : Bk} (g : b.Good) : bookB b.enc = true := by
  have e1 : namesOf (encT b.rows) = b.houses := fst0_enc b.rows
  have e2 : namesOf (encT b.likes) = b.people := fst0_enc b.likes
  have s1 : allSome b.people (encT b.rows) = true := by
    show (b.rows.map pairE).all _ = true
    rw [List.all_map, List.all_eq_true]
    intro p hp
    obtain ⟨_, z2, z3⟩ := g.ok.ir p hp
    exact someB_strs z2 z3
  have s2 : allSome b.houses (encT b.likes) = true := by
    show (b.likes.map pairE).all _ = true
    rw [List.all_map, List.all_eq_true]
    intro p hp
    obtain ⟨_, z2, z3⟩ := g.ok.il p hp
    exact someB_strs z2 z3
  show (namedB (encT b.rows) && namedB (encT b.likes) && (allSome (namesOf (encT b.likes)) (encT b.rows) && allSome (namesOf (encT b.rows)) (encT b.likes))) = true
  rw [e1, e2, s1, s2, named_enc g.ok.lr g.nh.1 g.nh.2, named_enc g.ok.ll g.np.1 g.np.2]
  rfl
end W

namespace W
open PySem L2 DL
/-! ### how large -/
def tiny : Nat → D → Bool
  | 0, _ => false
  | _ + 1, .str s => decide (s.length ≤ 500)
  | n + 1, .tuple xs => decide (xs.length ≤ 5) && xs.all (tiny n)
  | _ + 1, .list _ => false
  | _ + 1, .dict _ => false
  | _ + 1, .none => true
  | _ + 1, .bool _ => true
  | _ + 1, .int _ => true
theorem tiny_small : ∀ {n : Nat} {d : D}, tiny n d = true → small n d = true
  | 0, d, h => by simp [tiny] at h
  | n + 1, d, h => by
    cases d with
    | tuple xs =>
      simp [tiny] at h
      simp only [small, Bool.and_eq_true, decide_eq_true_eq, List.all_eq_true]
      exact ⟨by omega, fun x hx => tiny_small (h.2 x hx)⟩
    | str s => simpa [tiny, small] using h
    | list xs => simp [tiny] at h
    | dict k => simp [tiny] at h
    | none => rfl
    | bool b => rfl
    | int i => rfl
def most : Nat → Nat
  | 0 => 0
  | n + 1 => 5 * (4 + most n) + 3
theorem spoils_len {n M : Nat} {xs : List D} : ∀ {l : List D} {i : Nat}, (∀ x ∈ l, (spoil n x).length ≤ M) → (spoils n xs i l).length ≤ l.length * (4 + M)
  | [], i, _ => by simp [spoils]
  | x :: l, i, h => by
    have ih := spoils_len (xs := xs) (l := l) (i := i + 1) fun y hy => h y (List.mem_cons_of_mem _ hy)
    have h1 := h x List.mem_cons_self
    rw [spoils, List.length_append, spoilAt, List.length_map, List.length_append, List.length_cons, Nat.succ_mul]
    have : odds.length = 4 := rfl
    omega
theorem spoil_len : ∀ {m n : Nat} {d : D}, tiny n d = true → (spoil m d).length ≤ most m
  | 0, n, d, _ => by simp [spoil]
  | m + 1, 0, d, h => by simp [tiny] at h
  | m + 1, n + 1, d, h => by
    cases d with
    | tuple xs =>
      simp [tiny] at h
      have := spoils_len (n := m) (M := most m) (xs := xs) (l := xs) (i := 0) fun x hx => spoil_len (h.2 x hx)
      rw [spoil, List.length_append, most]
      have h5 : xs.length * (4 + most m) ≤ 5 * (4 + most m) := Nat.mul_le_mul_right _ h.1
      simp
      omega
    | _ => simp [spoil]
end W

namespace W
open PySem L2 DL
theorem name_len {s : Str} (h : nameS s = true) : s.length ≤ 8 := by
  simp [nameS] at h
  omega
theorem tiny_encT {t : Tab} (hl : t.length ≤ 5) (h1 : ∀ p ∈ t, p.1.length ≤ 500 ∧ p.2.length ≤ 5 ∧ ∀ s ∈ p.2, s.length ≤ 500) : tiny 4 (encT t) = true := by
  show (decide ((t.map pairE).length ≤ 5) && (t.map pairE).all (tiny 3)) = true
  rw [List.length_map, decide_eq_true hl, Bool.true_and, List.all_map, List.all_eq_true]
  intro p hp
  obtain ⟨z1, z2, z3⟩ := h1 p hp
  simp [tiny, z1, z2]
  exact z3
theorem tiny_enc {b : Bk} (g : b.Good) : tiny 5 b.enc = true := by
  have n1 : ∀ s ∈ b.houses, s.length ≤ 500 := fun s hs => Nat.le_trans (name_len (List.all_eq_true.mp g.nh.1 s hs)) (by decide)
  have n2 : ∀ s ∈ b.people, s.length ≤ 500 := fun s hs => Nat.le_trans (name_len (List.all_eq_true.mp g.np.1 s hs)) (by decide)
  have t1 := tiny_encT g.ok.lr fun p hp => ⟨n1 p.1 (List.mem_map.mpr ⟨p, hp, rfl⟩), (g.ok.ir p hp).1, fun s hs => n2 s ((g.ok.ir p hp).2.2 s hs)⟩
  have t2 := tiny_encT g.ok.ll fun p hp => ⟨n2 p.1 (List.mem_map.mpr ⟨p, hp, rfl⟩), (g.ok.il p hp).1, fun s hs => n1 s ((g.ok.il p hp).2.2 s hs)⟩
  simp only [Bk.enc, tiny, List.all_cons, List.all_nil, t1, t2]
  rfl
end W

namespace W
open PySem L2 DL
theorem lhomes_eq (b : Bk) (ok : b.Ok) (p : Str) (hp : p ∈ b.people) : m__law_homes [b.enc, .str p] = some (.list ((b.homes p).map .str)) := by
  have goal : F__law_homes [some (.d b.enc), some (.d (.str p)), none, none, none] = some (.ret (.list ((b.homes p).map .str)) [some (.d b.enc), some (.d (.str p)), some (.m (kvT b.rows)), some (.m (kvT b.likes)), none]) := by
    unfold F__law_homes
    have lr := ok.lr
    have ll := ok.ll
    have nr : ((kvT b.rows).map (·.1)).Nodup := by rw [kvT_keys]; exact ok.nr
    have nl : ((kvT b.likes).map (·.1)).Nodup := by rw [kvT_keys]; exact ok.nl
    have s1 : sPar [2, 3] (xM (mDict (e2 (op2 idxD) (eVar 0) (eC (.int 0)))) (xM (mDict (e2 (op2 idxD) (eVar 0) (eC (.int 1)))) xNil)) [some (.d b.enc), some (.d (.str p)), none, none, none] = some (.next [some (.d b.enc), some (.d (.str p)), some (.m (kvT b.rows)), some (.m (kvT b.likes)), none]) := by
      have m1 : mDict (e2 (op2 idxD) (eVar 0) (eC (.int 0))) [some (.d b.enc), some (.d (.str p)), none, none, none] = some (kvT b.rows, [some (.d b.enc), some (.d (.str p)), none, none, none]) := by
        unfold mDict
        rw [show e2 (op2 idxD) (eVar 0) (eC (.int 0)) [some (.d b.enc), some (.d (.str p)), none, none, none] = some (.d (encT b.rows), _) from ev_op (ev_var rfl) ev_c (idx0 _ _)]
        simp only [Option.bind_some, rdo, dict_encT]
        rw [if_pos ⟨nr, by simp [kvT, sizeL]; omega⟩]
      have m2 : mDict (e2 (op2 idxD) (eVar 0) (eC (.int 1))) [some (.d b.enc), some (.d (.str p)), none, none, none] = some (kvT b.likes, [some (.d b.enc), some (.d (.str p)), none, none, none]) := by
        unfold mDict
        rw [show e2 (op2 idxD) (eVar 0) (eC (.int 1)) [some (.d b.enc), some (.d (.str p)), none, none, none] = some (.d (encT b.likes), _) from ev_op (ev_var rfl) ev_c (idx1 _ _ _)]
        simp only [Option.bind_some, rdo, dict_encT]
        rw [if_pos ⟨nl, by simp [kvT, sizeL]; omega⟩]
      unfold sPar xM xNil
      rw [m1]
      simp only [Option.bind_some]
      rw [m2]
      rfl
    refine es_seq s1 (es_ret ?_)
    have hm := lkT_mem (t := b.likes) hp
    obtain ⟨z1, z2, z3⟩ := ok.il _ hm
    have z1 : (lkT b.likes p).length ≤ 5 := z1
    have hl := ef_lc1 (ρ := [some (.d b.enc), some (.d (.str p)), some (.m (kvT b.rows)), some (.m (kvT b.likes)), none]) (i := 4) (t := toT (e2 (op2 inD) (eVar 1) (eMGet' 2 (eVar 4)))) (f := eVar 4) (fi := iSeq (eMGet' 3 (eVar 1))) (xs := (lkT b.likes p).map .str)
      (fun d => decide (p ∈ lkT b.rows (txt d))) (fun d => d) (ei_seq (ev_mget rfl (ev_var rfl) (lkp_kvT hp)) rfl) (by simp) rfl (by simp [sizeL]; omega) (fun d hd => ?_) (fun d hd _ => ev_var rfl)
    · have := ev_F hl
      have e : (((lkT b.likes p).map PyData.str).filter fun d => decide (p ∈ lkT b.rows (txt d))).map (fun d => d) = (b.homes p).map .str := by
        rw [List.map_id', List.filter_map]
        rfl
      rw [e] at this
      exact this
    · obtain ⟨h, hh, rfl⟩ := List.mem_map.mp hd
      exact et_toT (ev_op (ev_var rfl) (ev_mget rfl (ev_var rfl) (lkp_kvT (z3 h hh))) (in_strsT _ _))
  exact runB_of (bs := [.d b.enc, .d (.str p)]) (by simp [DL.bindArgs, bindArg, imm_enc, imm]) goal
end W

namespace W
open PySem L2 DL
/-! ### _law_a_standing -/
def encO : Option Str → D
  | some s => .str s
  | none => .none
def encS (fs : List (Option Str)) : D := .tuple (fs.map encO)
theorem depth_opts (fs : List (Option Str)) : PyData.depthAll (fs.map encO) = 0 := by
  induction fs with
  | nil => rfl
  | cons o fs ih => cases o <;> simp [PyData.depthAll, PyData.depth, encO, ih]
theorem any_opt (fs : List (Option Str)) (h : Str) : ((fs.map encO).any fun y => PyData.eqv y (.str h)) = decide (some h ∈ fs) := by
  induction fs with
  | nil => simp
  | cons o fs ih =>
    rw [List.map_cons, List.any_cons, ih]
    cases o with
    | none => simp [encO, PyData.eqv]
    | some s =>
      show (PyData.eqv (.str s) (.str h) || _) = _
      rw [eqv_str]
      by_cases e : s = h
      · simp [e]
      · simp [e, Ne.symm e]
theorem nin_opts (fs : List (Option Str)) (h : Str) : ninD (.str h) (.list (fs.map encO)) = some (.bool (!decide (some h ∈ fs))) := by
  simp only [ninD, inB]
  rw [if_pos (by rw [depth_opts]; decide), any_opt]
  rfl
theorem in_opts (fs : List (Option Str)) (h : Str) : inD (.str h) (.tuple (fs.map encO)) = some (.bool (decide (some h ∈ fs))) := by
  simp only [inD, inB]
  rw [if_pos (by rw [depth_opts]; decide), any_opt]
  rfl
theorem nin_optsT (fs : List (Option Str)) (h : Str) : ninD (.str h) (.tuple (fs.map encO)) = some (.bool (!decide (some h ∈ fs))) := by
  simp only [ninD, inB]
  rw [if_pos (by rw [depth_opts]; decide), any_opt]
  rfl
abbrev standBody : FS := sSeq (sOwn 6 (fLc (iSeq (eCall 2 m__law_homes (aCons (eVar 2) (aCons (eVar 4) aNil)))) (put 8) (toT (e2 (op2 ninD) (eVar 8) (eVar 3))) (eVar 8) [8])) (sSeq (sAsg (andE (e2 (op2 neD) (eVar 6) (ofF (fLst aNil))) (e2 (op2 gtD) (drawE (eC (.int 3))) (eC (.int 0)))) (put 7)) (sApp 3 (ifE (truR (eVar 7)) (e2 (op2 idxD) (eVar 6) (drawE (eB (b1 lenD) (aCons (eVar 6) aNil)))) (eC .none))))
theorem homes_len {b : Bk} (ok : b.Ok) {p : Str} (hp : p ∈ b.people) : (b.homes p).length ≤ 5 := by
  have := (ok.il _ (lkT_mem (t := b.likes) hp)).1
  exact Nat.le_trans (List.length_filter_le _ _) this
theorem app_of {ρ : Rho} {x : Option B} {a1 a2 a4 a5 a6 a7 a8 : Option B} {xs : List D} {f : FE} {d : D} {a1' : Option B} (hf : f [x, a1, a2, some (.l xs), a4, a5, a6, a7, a8] = some (.d d, [x, a1', a2, some (.l xs), a4, a5, a6, a7, a8])) (hz : xs.length ≤ 1000) :
    sApp 3 f [x, a1, a2, some (.l xs), a4, a5, a6, a7, a8] = some (.next [x, a1', a2, some (.l (xs ++ [d])), a4, a5, a6, a7, a8]) := by
  unfold sApp
  rw [hf]
  simp only [ownAt, List.getElem?_cons_succ, List.getElem?_cons_zero, Option.bind_some, out1, List.set_cons_succ, List.set_cons_zero]
  rw [if_pos (by rw [sizeL]; omega)]
theorem stand_step {ns : List Int} (b : Bk) (ok : b.Ok) (p : Str) (hp : p ∈ b.people) (fs : List (Option Str)) (hz : fs.length ≤ 100) (L : D) (x6 x7 : Option B) (c : Int) (mm : List (Int × Int)) (hT : TownOk ns mm) :
    ∃ (o : Option Str) (c' : Int) (mm' : List (Int × Int)) (y6 y7 : Option B), standBody [some (.s ns), some (.t c mm), some (.d b.enc), some (.l (fs.map encO)), some (.d (.str p)), some (.d L), x6, x7, none] =
      some (.next [some (.s ns), some (.t c' mm'), some (.d b.enc), some (.l ((fs ++ [o]).map encO)), some (.d (.str p)), some (.d L), y6, y7, none]) ∧ (∀ h, o = some h → h ∈ b.homes p ∧ some h ∉ fs) ∧ TownOk ns mm' := by
  have hl := ef_lc1 (ρ := [some (.s ns), some (.t c mm), some (.d b.enc), some (.l (fs.map encO)), some (.d (.str p)), some (.d L), x6, x7, none]) (i := 8) (t := toT (e2 (op2 ninD) (eVar 8) (eVar 3))) (f := eVar 8) (fi := iSeq (eCall 2 m__law_homes (aCons (eVar 2) (aCons (eVar 4) aNil)))) (xs := (b.homes p).map .str)
    (fun d => !decide (some (txt d) ∈ fs)) (fun d => d) (ei_seq (ev_call (ea_cons (ev_var rfl) (ea_cons (ev_var rfl) ea_nil)) rfl (lhomes_eq b ok p hp)) rfl) (by simp) rfl (by have := homes_len ok hp; simp [sizeL]; omega) (fun d hd => by
      obtain ⟨h, hh, rfl⟩ := List.mem_map.mp hd
      exact et_toT (ex_op (ev_var rfl).ex (ex_own rfl) (nin_opts fs h))) (fun d hd _ => ev_var rfl)
  generalize hfree : (b.homes p).filter (fun h => !decide (some h ∈ fs)) = free
  have ef : (((b.homes p).map PyData.str).filter fun d => !decide (some (txt d) ∈ fs)).map (fun d => d) = free.map .str := by
    rw [List.map_id', List.filter_map, ← hfree]
    rfl
  rw [ef] at hl
  have s1 := es_own (i := 6) hl (by simp)
  have s1 : sOwn 6 _ _ = some (.next [some (.s ns), some (.t c mm), some (.d b.enc), some (.l (fs.map encO)), some (.d (.str p)), some (.d L), some (.l (free.map .str)), x7, none]) := s1
  have lf : free.length ≤ 5 := by
    rw [← hfree]
    exact Nat.le_trans (List.length_filter_le _ _) (homes_len ok hp)
  have hmem : ∀ h ∈ free, h ∈ b.homes p ∧ some h ∉ fs := fun h hh => by
    rw [← hfree] at hh
    simpa using hh
  have hN : Ev (e2 (op2 neD) (eVar 6) (ofF (fLst aNil))) [some (.s ns), some (.t c mm), some (.d b.enc), some (.l (fs.map encO)), some (.d (.str p)), some (.d L), some (.l (free.map .str)), x7, none] (.bool (!free.isEmpty)) := ex_op (ex_own rfl) (ev_F (ef_lst ea_nil (by simp))).ex (ne_nil free)
  have none_case : ∀ (c1 : Int) (mm1 : List (Int × Int)), TownOk ns mm1 → sAsg (andE (e2 (op2 neD) (eVar 6) (ofF (fLst aNil))) (e2 (op2 gtD) (drawE (eC (.int 3))) (eC (.int 0)))) (put 7) [some (.s ns), some (.t c mm), some (.d b.enc), some (.l (fs.map encO)), some (.d (.str p)), some (.d L), some (.l (free.map .str)), x7, none] = some (.next [some (.s ns), some (.t c1 mm1), some (.d b.enc), some (.l (fs.map encO)), some (.d (.str p)), some (.d L), some (.l (free.map .str)), some (.d (.bool false)), none]) →
      ∃ (o : Option Str) (c' : Int) (mm' : List (Int × Int)) (y6 y7 : Option B), standBody [some (.s ns), some (.t c mm), some (.d b.enc), some (.l (fs.map encO)), some (.d (.str p)), some (.d L), x6, x7, none] =
      some (.next [some (.s ns), some (.t c' mm'), some (.d b.enc), some (.l ((fs ++ [o]).map encO)), some (.d (.str p)), some (.d L), y6, y7, none]) ∧ (∀ h, o = some h → h ∈ b.homes p ∧ some h ∉ fs) ∧ TownOk ns mm' := by
    intro c1 mm1 hT1 s2
    refine ⟨none, c1, mm1, some (.l (free.map .str)), some (.d (.bool false)), es_seq s1 (es_seq s2 ?_), (fun h e => by cases e), hT1⟩
    rw [List.map_append]
    exact app_of (ρ := []) (ev_if (et_bool (ev_var rfl)) (fun h => by cases h) fun _ => ev_c) (by simp; omega)
  cases hfr : free with
  | nil =>
    subst hfr
    refine none_case c mm hT ?_
    exact es_set (ev_and (a := false) (b := false) hN fun h => by cases h) (by simp)
  | cons f0 fr =>
    have hne : free.isEmpty = false := by rw [hfr]; rfl
    rw [hne] at hN
    obtain ⟨v, mm2, e, v0, v1, hT2⟩ := drawE_ok (ρ := [some (.s ns), some (.t c mm), some (.d b.enc), some (.l (fs.map encO)), some (.d (.str p)), some (.d L), some (.l (free.map .str)), x7, none]) (f := eC (.int 3)) (many := 3) hT rfl rfl ev_c (by omega) (by omega)
    have s2 : sAsg (andE (e2 (op2 neD) (eVar 6) (ofF (fLst aNil))) (e2 (op2 gtD) (drawE (eC (.int 3))) (eC (.int 0)))) (put 7) [some (.s ns), some (.t c mm), some (.d b.enc), some (.l (fs.map encO)), some (.d (.str p)), some (.d L), some (.l (free.map .str)), x7, none] = some (.next [some (.s ns), some (.t (c + 1) mm2), some (.d b.enc), some (.l (fs.map encO)), some (.d (.str p)), some (.d L), some (.l (free.map .str)), some (.d (.bool (decide (0 < v)))), none]) := by
      have hg : e2 (op2 gtD) (drawE (eC (.int 3))) (eC (.int 0)) [some (.s ns), some (.t c mm), some (.d b.enc), some (.l (fs.map encO)), some (.d (.str p)), some (.d L), some (.l (free.map .str)), x7, none] = some (.d (.bool (decide (0 < v))), [some (.s ns), some (.t (c + 1) mm2), some (.d b.enc), some (.l (fs.map encO)), some (.d (.str p)), some (.d L), some (.l (free.map .str)), x7, none]) := by
        unfold e2
        rw [e]
        rfl
      unfold sAsg andE
      rw [show e2 (op2 neD) (eVar 6) (ofF (fLst aNil)) [some (.s ns), some (.t c mm), some (.d b.enc), some (.l (fs.map encO)), some (.d (.str p)), some (.d L), some (.l (free.map .str)), x7, none] = some (.d (.bool true), _) from hN]
      simp only [Option.bind_some, rdo, truD, if_true]
      rw [hg]
      rfl
    by_cases hv : 0 < v
    · rw [decide_eq_true hv] at s2
      have hpos : 0 < free.length := by rw [hfr]; simp
      obtain ⟨u, mm3, e3, u0, u1, hT3⟩ := drawE_ok (ρ := [some (.s ns), some (.t (c + 1) mm2), some (.d b.enc), some (.l (fs.map encO)), some (.d (.str p)), some (.d L), some (.l (free.map .str)), some (.d (.bool true)), none]) (f := eB (b1 lenD) (aCons (eVar 6) aNil)) (many := free.length) hT2 rfl rfl (ex_b1 (y := .int free.length) (ex_own rfl) (by simp [lenD])) (by omega) (by omega)
      have hu : u.toNat < free.length := by omega
      refine ⟨some free[u.toNat], c + 1 + 1, mm3, some (.l (free.map .str)), some (.d (.bool true)), es_seq s1 (es_seq s2 ?_), fun h eh => ?_, hT3⟩
      · rw [List.map_append]
        refine app_of (ρ := []) (d := .str free[u.toNat]) (a1' := some (.t (c + 1 + 1) mm3)) ?_ (by simp; omega)
        unfold ifE
        rw [show truR (eVar 7) [some (.s ns), some (.t (c + 1) mm2), some (.d b.enc), some (.l (fs.map encO)), some (.d (.str p)), some (.d L), some (.l (free.map .str)), some (.d (.bool true)), none] = some (true, _) from et_bool (ev_var rfl)]
        simp only [Option.bind_some, if_true]
        unfold e2
        rw [show eVar 6 [some (.s ns), some (.t (c + 1) mm2), some (.d b.enc), some (.l (fs.map encO)), some (.d (.str p)), some (.d L), some (.l (free.map .str)), some (.d (.bool true)), none] = some (.own 6, _) from rfl]
        simp only [Option.bind_some]
        rw [e3]
        have hx : idxD (.list (free.map .str)) (.int u) = some (.str free[u.toNat]) := by
          simp only [idxD, atI, ixN, List.length_map]
          rw [if_pos u0, if_pos u1]
          simp [hu]
        simp [op2, rdo, hx]
      · cases eh
        exact hmem _ (List.getElem_mem hu)
    · rw [decide_eq_false hv] at s2
      exact none_case (c + 1) mm2 hT2 s2
end W

namespace W
open PySem L2 DL
/-! ### standings in plain words -/
theorem ddl_grow : ∀ (l acc : List Key), (l.foldl (fun acc k => if hasK acc k = true then acc else acc ++ [k]) acc).length ≤ acc.length + l.length
  | [], acc => by simp
  | k :: l, acc => by
    rw [List.foldl_cons]
    have := ddl_grow l (if hasK acc k = true then acc else acc ++ [k])
    split at this
    · rename_i h
      rw [if_pos h]
      simp only [List.length_cons]
      omega
    · rename_i h
      rw [if_neg h]
      simp only [List.length_cons, List.length_append, List.length_nil] at *
      omega
theorem ddl_full : ∀ (l acc : List Key), (l.foldl (fun acc k => if hasK acc k = true then acc else acc ++ [k]) acc).length = acc.length + l.length → l.Nodup ∧ ∀ k ∈ l, k ∉ acc
  | [], acc, _ => by simp
  | k :: l, acc, h => by
    rw [List.foldl_cons] at h
    by_cases hk : hasK acc k = true
    · rw [if_pos hk] at h
      have := ddl_grow l acc
      simp only [List.length_cons] at h
      omega
    · rw [if_neg hk] at h
      obtain ⟨h1, h2⟩ := ddl_full l (acc ++ [k]) (by simp only [List.length_cons, List.length_append, List.length_nil] at *; omega)
      have hka : k ∉ acc := fun z => hk (List.any_eq_true.mpr ⟨k, z, by simp⟩)
      refine ⟨List.nodup_cons.mpr ⟨fun z => h2 k z (by simp), h1⟩, fun j hj => ?_⟩
      rcases List.mem_cons.mp hj with rfl | hj
      · exact hka
      · exact fun z => h2 j hj (List.mem_append_left _ z)
theorem dist_iff (ss : List Str) : distS ss = decide ss.Nodup := by
  by_cases h : ss.Nodup
  · rw [dist_nodup h, decide_eq_true h]
  · rw [decide_eq_false h]
    unfold distS ddl
    rw [decide_eq_false]
    intro z
    refine h ?_
    have := (ddl_full (ss.map Sum.inr) [] (by simpa using z)).1
    exact List.Pairwise.of_map _ (fun a b h e => h (by rw [e])) this
def homeS (b : Bk) (q : Str × Option Str) : Bool := match q.2 with
  | none => true
  | some h => decide (h ∈ b.homes q.1)
def standS (b : Bk) (fs : List (Option Str)) : Bool := decide (fs.length = b.people.length) && (decide (fs.filterMap id).Nodup && (b.people.zip fs).all (homeS b))
theorem noS_enc (fs : List (Option Str)) : (fs.map encO).all noS = true := by
  rw [List.all_map, List.all_eq_true]
  intro o _
  cases o <;> rfl
theorem live_enc (fs : List (Option Str)) : (((fs.map encO).filter fun x => !isNone x).map txt) = fs.filterMap id := by
  induction fs with
  | nil => rfl
  | cons o fs ih =>
    cases o with
    | none => simpa [List.filter_cons, encO, isNone] using ih
    | some h => simpa [List.filter_cons, encO, isNone, txt] using ih
theorem home_enc (b : Bk) : ∀ (ps : List Str) (fs : List (Option Str)), (ps.zip (fs.map encO)).all (homeB b) = (ps.zip fs).all (homeS b)
  | [], _ => rfl
  | _ :: _, [] => rfl
  | p :: ps, o :: fs => by
    simp only [List.map_cons, List.zip_cons_cons, List.all_cons, home_enc b ps fs]
    cases o with
    | none => rfl
    | some h => simp [homeB, homeS, encO, isNone, strIn]
theorem standB_enc (b : Bk) (fs : List (Option Str)) : standB b (encS fs) = standS b fs := by
  show (decide ((fs.map encO).length = b.likes.length) && ((fs.map encO).all noS && (distS (((fs.map encO).filter fun x => !isNone x).map txt) && (b.people.zip (fs.map encO)).all (homeB b)))) = _
  rw [noS_enc, live_enc, home_enc, dist_iff, List.length_map]
  simp [standS, Bk.people]
/-! ### the drawn standing -/
theorem stand_loop {ns : List Int} (b : Bk) (ok : b.Ok) : ∀ (t : Tab) (fs : List (Option Str)) (c : Int) (mm : List (Int × Int)) (x4 x5 x6 x7 : Option B), (∀ p ∈ t, p.1 ∈ b.people) → fs.length + t.length ≤ 100 → TownOk ns mm → (fs.filterMap id).Nodup →
    ∃ (gs : List (Option Str)) (c' : Int) (mm' : List (Int × Int)) (y4 y5 y6 y7 : Option B), forD (gT 2 (gC (put 4) (gC (put 5) gN))) standBody (t.map fun p => R.d (pairE p)) [some (.s ns), some (.t c mm), some (.d b.enc), some (.l (fs.map encO)), x4, x5, x6, x7, none] =
      some (.next [some (.s ns), some (.t c' mm'), some (.d b.enc), some (.l ((fs ++ gs).map encO)), y4, y5, y6, y7, none]) ∧ gs.length = t.length ∧ ((t.map (·.1)).zip gs).all (homeS b) = true ∧ ((fs ++ gs).filterMap id).Nodup ∧ TownOk ns mm'
  | [], fs, c, mm, x4, x5, x6, x7, _, _, hT, nd => ⟨[], c, mm, x4, x5, x6, x7, by simp [forD], rfl, rfl, by simpa using nd, hT⟩
  | p :: t, fs, c, mm, x4, x5, x6, x7, hp, hz, hT, nd => by
    simp only [List.length_cons] at hz
    obtain ⟨o, c1, mm1, y6, y7, e1, ho, hT1⟩ := stand_step (ns := ns) b ok p.1 (hp p List.mem_cons_self) fs (by omega) (.tuple (p.2.map .str)) x6 x7 c mm hT
    have nd1 : ((fs ++ [o]).filterMap id).Nodup := by
      rw [List.filterMap_append]
      cases o with
      | none => simpa using nd
      | some h =>
        rw [List.nodup_append]
        refine ⟨nd, by simp, fun a ha b' hb e => ?_⟩
        simp at hb
        subst hb
        subst e
        obtain ⟨z, hz1, hz2⟩ := List.mem_filterMap.mp ha
        simp at hz2
        subst hz2
        exact (ho a rfl).2 hz1
    obtain ⟨gs, c2, mm2, z4, z5, z6, z7, e2, h1, h2, h3, h4⟩ := stand_loop b ok t (fs ++ [o]) c1 mm1 (some (.d (.str p.1))) (some (.d (.tuple (p.2.map .str)))) y6 y7 (fun q hq => hp q (List.mem_cons_of_mem _ hq)) (by simp; omega) hT1 nd1
    refine ⟨o :: gs, c2, mm2, z4, z5, z6, z7, ?_, by simp [h1], ?_, by simpa using h3, h4⟩
    · rw [List.map_cons, for_next (ρ1 := [some (.s ns), some (.t c mm), some (.d b.enc), some (.l (fs.map encO)), some (.d (.str p.1)), some (.d (.tuple (p.2.map .str))), x6, x7, none]) rfl e1, e2]
      simp
    · simp only [List.map_cons, List.zip_cons_cons, List.all_cons, h2, Bool.and_true]
      cases o with
      | none => rfl
      | some h => simpa [homeS] using (ho h rfl).1
end W

namespace W
open PySem L2 DL
/-! ### spoilt standings are none -/
theorem standS_inv {b : Bk} {fs : List (Option Str)} (h : standS b fs = true) : fs.length = b.people.length ∧ (fs.filterMap id).Nodup ∧ (b.people.zip fs).all (homeS b) = true := by
  simp [standS] at h
  obtain ⟨h1, h2, h3⟩ := h
  exact ⟨h1, h2, by simpa using h3⟩
theorem homes_house {b : Bk} (ok : b.Ok) {p h : Str} (hp : p ∈ b.people) (hh : h ∈ b.homes p) : h ∈ b.houses :=
  (ok.il _ (lkT_mem (t := b.likes) hp)).2.2 h (List.mem_filter.mp hh).1
theorem homeB_odd {b : Bk} (ok : b.Ok) (hb : ("!" : Str) ∉ b.houses) {p : Str} (hp : p ∈ b.people) : homeB b (p, .str "!") = false := by
  simp only [homeB, isNone, Bool.false_or, strIn, decide_eq_false_iff_not]
  exact fun z => hb (homes_house ok hp z)
theorem all_zip_at {α β : Type} {p : α × β → Bool} {l : List α} {m : List β} {i : Nat} {a : α} {c : β} (h1 : l[i]? = some a) (h2 : m[i]? = some c) (h : p (a, c) = false) : (l.zip m).all p = false := by
  rw [List.all_eq_false]
  refine ⟨(a, c), ?_, by simp [h]⟩
  refine List.mem_of_getElem? (i := i) ?_
  rw [List.getElem?_zip_eq_some]
  exact ⟨h1, h2⟩
theorem stand_spoilt {b : Bk} (ok : b.Ok) (hb : ("!" : Str) ∉ b.houses) {fs : List (Option Str)} (hl : fs.length = b.people.length) {n : Nat} {q : D} (hq : q ∈ spoil (n + 1) (encS fs)) : standB b q = false := by
  rcases mem_spoil hq with ⟨j, x, o, h1, h2, rfl⟩ | rfl | rfl | rfl
  · obtain ⟨f, hf, rfl⟩ := List.mem_map.mp (List.mem_of_getElem? h1)
    have e : spoil n (encO f) = [] := by
      cases f with
      | none => exact spoil_none n
      | some s => exact spoil_str n s
    rw [e, List.append_nil] at h2
    have hj : j < (fs.map encO).length := (List.getElem?_eq_some_iff.mp h1).1
    rcases odds_cases h2 with rfl | rfl | rfl | rfl
    · have hj' : j < b.people.length := by rw [List.length_map] at hj; omega
      simp only [standB]
      rw [all_zip_at (i := j) (a := b.people[j]) (c := .str "!") (by simp [hj']) ?_ (homeB_odd ok hb (List.getElem_mem hj'))]
      · simp
      · rw [List.append_assoc, List.getElem?_append_right (by simp; omega)]
        simp only [List.length_take]
        rw [show j - min j (fs.map encO).length = 0 by omega]
        rfl
    · simp only [standB]
      rw [all_put (p := noS) rfl]
      simp
    · simp only [standB]
      rw [all_put (p := noS) rfl]
      simp
    · simp only [standB]
      rw [all_put (p := noS) rfl]
      simp
  · rfl
  · have : ¬ fs.length + 1 = b.likes.length := by rw [Bk.people, List.length_map] at hl; omega
    simp [standB, this]
  · have : ¬ fs.length + 1 = b.likes.length := by rw [Bk.people, List.length_map] at hl; omega
    simp [standB, this]
/-! ### one more lives in a house -/
theorem lkT_at : ∀ {t : Tab} {i : Nat} {p : Str × List Str}, (t.map (·.1)).Nodup → t[i]? = some p → lkT t p.1 = p.2
  | [], i, p, _, h => by simp at h
  | (k, l) :: t, 0, p, _, h => by
    simp at h
    subst h
    simp [lkT]
  | (k, l) :: t, i + 1, p, nd, h => by
    simp at h
    rw [List.map_cons, List.nodup_cons] at nd
    have hm : p.1 ∈ t.map (·.1) := List.mem_map.mpr ⟨p, List.mem_of_getElem? h, rfl⟩
    have : ¬ k = p.1 := fun z => nd.1 (z ▸ hm)
    rw [lkT, if_neg this]
    exact lkT_at nd.2 h
theorem lkT_of {t : Tab} {p : Str × List Str} (nd : (t.map (·.1)).Nodup) (h : p ∈ t) : lkT t p.1 = p.2 := by
  obtain ⟨i, hi⟩ := List.getElem?_of_mem h
  exact lkT_at nd hi
theorem split3 {α : Type} {l : List α} {i : Nat} {a : α} (h : l[i]? = some a) : l = l.take i ++ a :: l.drop (i + 1) := by
  obtain ⟨h1, h2⟩ := List.getElem?_eq_some_iff.mp h
  rw [← h2]
  simp
theorem mem_live {fs : List (Option Str)} {h : Str} : h ∈ fs.filterMap id ↔ some h ∈ fs := by simp [List.mem_filterMap]
theorem stand_put {b : Bk} (ok : b.Ok) {fs : List (Option Str)} (hs : standS b fs = true) {i : Nat} {p : Str × List Str} (hi : b.likes[i]? = some p) {h : Str} :
    standS b (fs.take i ++ some h :: fs.drop (i + 1)) = (decide (h ∈ p.2) && (decide (p.1 ∈ lkT b.rows h) && !decide (some h ∈ fs.take i ++ fs.drop (i + 1)))) := by
  obtain ⟨hl, nd, ha⟩ := standS_inv hs
  have hp : b.people[i]? = some p.1 := by simp [Bk.people, hi]
  have hil : i < b.people.length := (List.getElem?_eq_some_iff.mp hp).1
  obtain ⟨o, ho⟩ : ∃ o, fs[i]? = some o := ⟨fs[i]'(by omega), by simp⟩
  have e1 := split3 hp
  have e2 := split3 ho
  generalize hA : fs.take i = A at *
  generalize hC : fs.drop (i + 1) = C at *
  generalize hPA : b.people.take i = PA at *
  generalize hPC : b.people.drop (i + 1) = PC at *
  have lA : PA.length = A.length := by
    rw [← hA, ← hPA]
    simp
    omega
  have hh : (h ∈ b.homes p.1) ↔ (h ∈ p.2 ∧ p.1 ∈ lkT b.rows h) := by
    have e : lkT b.likes p.1 = p.2 := lkT_at ok.nl hi
    simp [Bk.homes, e]
  have z1 : (b.people.zip (A ++ some h :: C)).all (homeS b) = decide (h ∈ b.homes p.1) := by
    rw [e2, e1, List.zip_append lA, List.all_append, List.zip_cons_cons, List.all_cons] at ha
    simp only [Bool.and_eq_true] at ha
    rw [e1, List.zip_append lA, List.all_append, List.zip_cons_cons, List.all_cons, ha.1, ha.2.2]
    simp [homeS]
  have z2 : ((A ++ some h :: C).filterMap id).Nodup ↔ some h ∉ A ++ C := by
    rw [e2] at nd
    have nd' : (A.filterMap id ++ C.filterMap id).Nodup := by
      refine nd.sublist ?_
      rw [List.filterMap_append]
      refine List.Sublist.append_left ?_ _
      cases o with
      | none => simp
      | some k => simp
    have em : ∀ x : Str, (x ∈ A.filterMap id ++ C.filterMap id) ↔ some x ∈ A ++ C := fun x => by
      rw [← List.filterMap_append]
      exact mem_live
    rw [← em h]
    have e : (A ++ some h :: C).filterMap id = A.filterMap id ++ h :: C.filterMap id := by simp
    rw [e, List.perm_middle.nodup_iff, List.nodup_cons]
    exact ⟨fun z => z.1, fun z => ⟨z, nd'⟩⟩
  have z3 : (A ++ some h :: C).length = b.people.length := by
    rw [← hl]
    conv => rhs; rw [e2]
    simp
  unfold standS
  rw [z1, decide_eq_true z3, Bool.true_and]
  rw [show decide ((A ++ some h :: C).filterMap id).Nodup = decide (some h ∉ A ++ C) from decide_eq_decide.mpr z2, show decide (h ∈ b.homes p.1) = decide (h ∈ p.2 ∧ p.1 ∈ lkT b.rows h) from decide_eq_decide.mpr hh]
  rw [Bool.decide_and, decide_not]
  cases decide (h ∈ p.2) <;> cases decide (p.1 ∈ lkT b.rows h) <;> simp
end W

namespace W
open PySem L2 DL
/-! ### the law -/
theorem for_keep {g : FG} {k : FS} {I : Rho → Prop} : ∀ (rs : List R), (∀ r ∈ rs, ∀ ρ, I ρ → ∃ ρ1 ρ2, g r ρ = some ρ1 ∧ k ρ1 = some (.next ρ2) ∧ I ρ2) → ∀ ρ, I ρ → ∃ ρ', forD g k rs ρ = some (.next ρ') ∧ I ρ'
  | [], _, ρ, h => ⟨ρ, rfl, h⟩
  | r :: rs, H, ρ, h => by
    obtain ⟨ρ1, ρ2, h1, h2, h3⟩ := H r List.mem_cons_self ρ h
    obtain ⟨ρ', h4, h5⟩ := for_keep rs (fun q hq => H q (List.mem_cons_of_mem _ hq)) ρ2 h3
    exact ⟨ρ', (for_next h1 h2).trans h4, h5⟩
theorem for_loop {fi : FI} {g : FG} {k : FS} {I : Rho → Prop} {ρ : Rho} {rs : List R} (h : Ei fi ρ rs) (hs : ∀ r ∈ rs, ∀ ρ, I ρ → ∃ ρ1 ρ2, g r ρ = some ρ1 ∧ k ρ1 = some (.next ρ2) ∧ I ρ2) (h0 : I ρ) : ∃ ρ', sFor fi g k ρ = some (.next ρ') ∧ I ρ' := by
  rw [es_for h]
  exact for_keep rs hs ρ h0
theorem es_pass {t : FT} {k : FS} {ρ : Rho} {b : Bool} (h : Et t ρ b) (hb : b = false) : sIf t k sNil ρ = some (.next ρ) := by
  subst hb
  exact es_if h (fun z => by cases z) fun _ => rfl
theorem law_is (a c : Bool) : m__law_is [.bool a, .bool c] = some (.bool (a == c)) := by
  refine runA_of (ρ1 := [some (.d (.bool a)), some (.d (.bool c))]) (es_ret (v := .bool (a == c)) ?_) rfl
  have e : (a == c) = (true && (a == c)) := by simp
  rw [e]
  refine ev_and (ev_isi (ev_var rfl) (isD_bool _)) fun _ => ev_op (ev_var rfl) (ev_var rfl) ?_
  cases a <;> cases c <;> simp [eqD, PyData.depth, PyData.eqv]
/-- not _law_is(f, g) where both are the same -/
theorem et_isnt {f g : FE} {ρ : Rho} {a : Bool} (hf : Ev f ρ (.bool a)) (hg : Ev g ρ (.bool a)) : Et (notT (truR (eCall 2 m__law_is (aCons f (aCons g aNil))))) ρ false := by
  have := et_not (et_bool (ev_call (ea_cons hf (ea_cons hg ea_nil)) rfl (law_is a a)))
  simpa using this
theorem len_encT (t : Tab) : lenD (encT t) = some (.int t.length) := by simp [encT, lenD]
theorem mul_ok (x : D) (n : Nat) (h : n ≤ 1000) : mulD (.tuple [x]) (.int n) = some (.tuple (List.replicate n x)) := by
  simp only [mulD]
  rw [if_pos ⟨by omega, by omega⟩]
  simp
theorem rep_none (n : Nat) : PyData.tuple (List.replicate n .none) = encS (List.replicate n none) := by simp [encS, encO]
theorem stand_nowhere (b : Bk) : standS b (List.replicate b.likes.length none) = true := by
  have e1 : (List.replicate b.likes.length (none : Option Str)).filterMap id = [] := by
    generalize b.likes.length = n
    induction n with
    | zero => rfl
    | succ n ih => simpa [List.replicate_succ] using ih
  unfold standS
  rw [e1]
  have e2 : (b.people.zip (List.replicate b.likes.length (none : Option Str))).all (homeS b) = true := by
    rw [List.all_eq_true]
    intro q hq
    have := (List.of_mem_zip (a := q.1) (b := q.2) hq).2
    rw [List.mem_replicate] at this
    simp [homeS, this.2]
  rw [e2]
  simp [Bk.people]
theorem eqv_opts : ∀ (fs gs : List (Option Str)), PyData.eqvAll (fs.map encO) (gs.map encO) = decide (fs = gs)
  | [], [] => by simp [PyData.eqvAll]
  | [], _ :: _ => by simp [PyData.eqvAll]
  | _ :: _, [] => by simp [PyData.eqvAll]
  | f :: fs, g :: gs => by
    have ih := eqv_opts fs gs
    simp only [List.map_cons, PyData.eqvAll, ih]
    cases f with
    | none => cases g <;> simp [encO, PyData.eqv]
    | some a =>
      cases g with
      | none => simp [encO, PyData.eqv]
      | some c => simp [encO, eqv_str]
theorem eq_stand (fs gs : List (Option Str)) : eqD (encS fs) (encS gs) = some (.bool (decide (fs = gs))) := by
  unfold eqD
  rw [if_pos (by simp [encS, PyData.depth, depth_opts])]
  simp [encS, PyData.eqv, eqv_opts]
theorem ne_stand (fs gs : List (Option Str)) : neD (encS fs) (encS gs) = some (.bool (!decide (fs = gs))) := by
  unfold neD
  rw [if_pos (by simp [encS, PyData.depth, depth_opts])]
  simp [encS, PyData.eqv, eqv_opts]
theorem imm_encS (fs : List (Option Str)) : imm (encS fs) = true := by
  simp only [encS, imm]
  exact immL_map (fun o => by cases o <;> rfl) _
theorem tiny_encS {fs : List (Option Str)} {n : Nat} (hl : fs.length ≤ 5) (h : ∀ s, some s ∈ fs → s.length ≤ 500) : tiny (n + 2) (encS fs) = true := by
  simp only [encS, tiny, List.length_map, decide_eq_true hl, Bool.true_and, List.all_map, List.all_eq_true]
  intro o ho
  cases o with
  | none => rfl
  | some s => simpa [encO, tiny] using h s ho
theorem nice_encS {fs : List (Option Str)} {n : Nat} (hl : fs.length ≤ 1000) (h : ∀ s, some s ∈ fs → s.length ≤ 500) : nice (n + 2) (encS fs) = true := by
  simp only [encS, nice, List.length_map, decide_eq_true hl, Bool.true_and, List.all_map, List.all_eq_true]
  intro o ho
  cases o with
  | none => rfl
  | some s =>
    have := h s ho
    simp [encO, nice]
    omega
theorem stand_mem {b : Bk} (ok : b.Ok) {fs : List (Option Str)} (hs : standS b fs = true) {h : Str} (hm : some h ∈ fs) : h ∈ b.houses := by
  obtain ⟨hl, _, ha⟩ := standS_inv hs
  obtain ⟨i, hi⟩ := List.getElem?_of_mem hm
  have hil : i < b.people.length := by rw [← hl]; exact (List.getElem?_eq_some_iff.mp hi).1
  have := List.all_eq_true.mp ha (b.people[i], some h) (List.mem_of_getElem? (i := i) (by rw [List.getElem?_zip_eq_some]; exact ⟨by simp [hil], hi⟩))
  exact homes_house ok (List.getElem_mem hil) (by simpa [homeS] using this)
end W

namespace W
open PySem L2 DL
/-! ### places -/
theorem find_str (ss : List Str) (s : Str) (h : s ∈ ss) : SeqAt.dataPlace (ss.map PyData.str) (.str s) = some (ss.idxOf s) := by
  unfold SeqAt.dataPlace
  induction ss with
  | nil => cases h
  | cons t ts ih =>
    rw [List.map_cons, List.findIdx?_cons, eqv_str, List.idxOf_cons]
    by_cases e : t = s
    · simp [e]
    · rcases List.mem_cons.mp h with z | z
      · exact absurd z.symm e
      · rw [ih z]
        have e2 : (t == s) = false := by simpa using e
        simp [e, e2]
theorem place_str (ss : List Str) (s : Str) (h : s ∈ ss) : placeD (ss.map PyData.str) (.str s) = some (.int (ss.idxOf s : Nat)) := by
  unfold placeD
  rw [if_pos (by rw [depth_strs]; decide), find_str ss s h]
  rfl
theorem find_opt (fs : List (Option Str)) (s : Str) (h : some s ∈ fs) : SeqAt.dataPlace (fs.map encO) (.str s) = some (fs.idxOf (some s)) := by
  unfold SeqAt.dataPlace
  induction fs with
  | nil => cases h
  | cons t ts ih =>
    rw [List.map_cons, List.findIdx?_cons, List.idxOf_cons]
    cases t with
    | none =>
      rcases List.mem_cons.mp h with z | z
      · cases z
      · rw [ih z]
        simp [encO, PyData.eqv]
    | some t =>
      show (if PyData.eqv (.str t) (.str s) = true then _ else _) = _
      rw [eqv_str]
      by_cases e : t = s
      · simp [e]
      · rcases List.mem_cons.mp h with z | z
        · exact absurd (Option.some.inj z).symm e
        · rw [ih z]
          have e2 : (some t == some s) = false := by simpa using e
          simp [e, e2]
theorem place_opt (fs : List (Option Str)) (s : Str) (h : some s ∈ fs) : placeD (fs.map encO) (.str s) = some (.int (fs.idxOf (some s) : Nat)) := by
  unfold placeD
  rw [if_pos (by rw [depth_opts]; decide), find_opt fs s h]
  rfl
theorem ev_M {ρ : Rho} {f g : FE} {T : String} {k : D → D → Option D} {x y z : D} (hf : Ex f ρ x) (ht : tyN x = T) (hg : Ex g ρ y) (hk : k x y = some z) : Ev (eM T k f g) ρ z := by
  obtain ⟨r, h1, h2⟩ := hf
  obtain ⟨q, h3, h4⟩ := hg
  unfold Ev eM op2
  simp [h1, h2, ht, h3, h4, hk]
/-! ### is_better -/
def better (l : List Str) (h : Str) (o : Option Str) : Bool := decide (h ∈ l) && (match o with | none => true | some g => !decide (g ∈ l) || decide (l.idxOf h < l.idxOf g))
theorem any_none (ss : List Str) : ((ss.map PyData.str).any fun y => PyData.eqv y .none) = false := by
  induction ss with
  | nil => rfl
  | cons s ss ih => rw [List.map_cons, List.any_cons, ih]; simp [PyData.eqv]
def notIn (l : List Str) : Option Str → Bool
  | none => true
  | some g => !decide (g ∈ l)
def lower (l : List Str) (h : Str) : Option Str → Bool
  | none => false
  | some g => decide (l.idxOf h < l.idxOf g)
theorem nin_optT (ss : List Str) (o : Option Str) : ninD (encO o) (.tuple (ss.map .str)) = some (.bool (notIn ss o)) := by
  cases o with
  | none =>
    simp only [ninD, inB, encO]
    rw [if_pos (by rw [depth_strs]; decide), any_none]
    rfl
  | some g =>
    simp only [ninD, inB, encO]
    rw [if_pos (by rw [depth_strs]; decide), any_str]
    rfl
theorem better_eq (b : Bk) (ok : b.Ok) (p : Str) (hp : p ∈ b.people) (h : Str) (o : Option Str) : m_is_better [b.enc, .str p, .str h, encO o] = some (.bool (better (lkT b.likes p) h o)) := by
  have ll := ok.ll
  have s1 : sAsg (eDGet (mDict (e2 (op2 idxD) (eVar 0) (eC (.int 1)))) (eVar 1)) (put 4) [some (.d b.enc), some (.d (.str p)), some (.d (.str h)), some (.d (encO o)), none] = some (.next [some (.d b.enc), some (.d (.str p)), some (.d (.str h)), some (.d (encO o)), some (.d (.tuple ((lkT b.likes p).map .str)))]) :=
    es_set (ev_dget (ev_op (ev_var rfl) ev_c (idx1 _ _ _)) (dict_encT b.likes) (by rw [kvT_keys]; exact ok.nl) (by simp [kvT, sizeL]; omega) (ev_var rfl) (lkp_kvT hp)) (by simp)
  generalize hl : lkT b.likes p = l at *
  have hin : Et (toT (e2 (op2 ninD) (eVar 2) (eVar 4))) [some (.d b.enc), some (.d (.str p)), some (.d (.str h)), some (.d (encO o)), some (.d (.tuple (l.map .str)))] (notIn l (some h)) := et_toT (ev_op (ev_var rfl) (ev_var rfl) (nin_optT l (some h)))
  refine runA_of (ρ1 := [some (.d b.enc), some (.d (.str p)), some (.d (.str h)), some (.d (encO o)), some (.d (.tuple (l.map .str)))]) (v := .bool (better l h o)) ?_ rfl
  refine es_seq s1 (es_guard (ρ1 := []) hin (fun z => ?_) fun z => es_ret ?_)
  · have : decide (h ∈ l) = false := by simpa [notIn] using z
    simp [better, this]
  · have hm : h ∈ l := by simpa [notIn] using z
    have e : better l h o = (notIn l o || lower l h o) := by
      cases o <;> simp [better, hm, notIn, lower]
    rw [e]
    refine ev_or (ev_op (ev_var rfl) (ev_var rfl) (nin_optT l o)) fun z2 => ?_
    cases o with
    | none => cases z2
    | some g =>
      have hg : g ∈ l := by simpa [notIn] using z2
      refine ev_op (ev_M (ev_var rfl).ex rfl (ev_var rfl).ex (show ixT (.tuple (l.map .str)) (.str h) = _ from place_str l h hm)) (ev_M (ev_var rfl).ex rfl (ev_var rfl).ex (show ixT (.tuple (l.map .str)) (.str g) = _ from place_str l g hg)) ?_
      rw [lt_int]
      congr 2
      exact decide_eq_decide.mpr (by omega)
/-! ### home_in, taker_of -/
def Bk.home (b : Bk) (fs : List (Option Str)) (p : Str) : Option Str := (fs[b.people.idxOf p]?).getD none
def Bk.taker (b : Bk) (fs : List (Option Str)) (h : Str) : Option Str := (lkT b.rows h).find? fun p => better (lkT b.likes p) h (b.home fs p)
end W
namespace DL
open PySem L2
section
variable {ρ : Rho} {f g h : FE} {t u : FT} {x y z v w : D} {a b c : Bool}
theorem ex_M {T : String} {k : D → D → Option D} (hf : Ex f ρ x) (ht : tyN x = T) (hg : Ex g ρ y) (hk : k x y = some z) : Ev (eM T k f g) ρ z := by
  obtain ⟨r, h1, h2⟩ := hf
  obtain ⟨q, h3, h4⟩ := hg
  unfold Ev eM op2
  simp [h1, h2, ht, h3, h4, hk]
theorem ev_ite (ht : Et t ρ b) (hf : b = true → Ev f ρ v) (hg : b = false → Ev g ρ w) : Ev (ifE t f g) ρ (bif b then v else w) := by
  unfold Ev ifE Et at *
  rw [ht]
  cases b with
  | true => exact hf rfl
  | false => exact hg rfl
theorem ex_sl {lo hi : FO} {l u : Option Int} (hf : Ex f ρ x) (hl : lo ρ = some (l, ρ)) (hu : hi ρ = some (u, ρ)) (hc : cutD l u x = some y) : Ev (eSl f lo hi) ρ y := by
  obtain ⟨r, h1, h2⟩ := hf
  unfold Ev eSl
  simp [h1, hl, hu, h2, hc]
theorem ex_isi {T : String} (hf : Ex f ρ x) (hx : isD T x = some y) : Ev (eIsi T f) ρ y := by
  obtain ⟨r, h1, h2⟩ := hf
  unfold Ev eIsi
  simp [h1, h2, hx]
theorem ex_dget {k : FE} {kvs : List (Str × D)} {s : Str} (hf : Ex f ρ x) (hd : dictD x = some kvs) (hn : (kvs.map (·.1)).Nodup) (hz : kvs.length ≤ sizeLine) (hk : Ev k ρ (.str s)) (hl : lkp kvs s = some v) : Ev (eDGet (mDict f) k) ρ v := by
  obtain ⟨r, h1, h2⟩ := hf
  unfold Ev eDGet mDict at *
  simp [h1, h2, hd, hn, hz, hk, hl]
theorem ev_mgt {i : Nat} {kvs : List (Str × D)} {s : Str} (hi : ρ[i]? = some (some (.m kvs))) (hf : Ev f ρ (.str s)) : Ev (eMGt i f) ρ ((lkp kvs s).getD .none) := by
  unfold Ev eMGt at *
  have hm : mAt i ρ = some kvs := by
    unfold mAt
    rw [hi]
  simp [hm, hf]
theorem ev_min {i : Nat} {kvs : List (Str × D)} {s : Str} (hi : ρ[i]? = some (some (.m kvs))) (hf : Ev f ρ (.str s)) : Ev (eMIn i f) ρ (.bool (lkp kvs s).isSome) := by
  unfold Ev eMIn at *
  have hm : mAt i ρ = some kvs := by
    unfold mAt
    rw [hi]
  simp [hm, hf]
theorem ev_memp {i : Nat} {kvs : List (Str × D)} (hi : ρ[i]? = some (some (.m kvs))) : Ev (eMEmp i) ρ (.bool kvs.isEmpty) := by
  unfold Ev eMEmp
  have hm : mAt i ρ = some kvs := by
    unfold mAt
    rw [hi]
  simp [hm]
theorem eax_app {k l : FA} {vs ws : List D} (hk : Eax k ρ vs) (hl : Eax l ρ ws) : Eax (aApp k l) ρ (vs ++ ws) := by
  obtain ⟨rs, h1, h2, h3⟩ := hk
  obtain ⟨qs, h4, h5, h6⟩ := hl
  refine ⟨rs ++ qs, ?_, ?_, by simp [h3, h6]⟩
  · unfold aApp
    simp [h1, h4]
  · clear h1 h3
    induction rs generalizing vs with
    | nil =>
      cases h2
      exact h5
    | cons r rs ih =>
      simp only [List.cons_append, rdos] at h2 ⊢
      cases e1 : rdo ρ r with
      | none => simp [e1] at h2
      | some x =>
        cases e2 : rdos ρ rs with
        | none => simp [e1, e2] at h2
        | some xs =>
          simp [e1, e2] at h2
          rw [ih e2, ← h2]
          rfl
theorem Eax.of {k : FA} {vs : List D} (hk : Ea k ρ vs) : Eax k ρ vs := ⟨_, hk, rdos_map vs, by simp⟩
theorem ex_fB {k : D → Option (List D)} {vs : List D} (hf : Ex f ρ x) (hk : k x = some vs) : Ef (fB k f) ρ vs := by
  obtain ⟨r, h1, h2⟩ := hf
  unfold Ef fB
  simp [h1, h2, hk]
/-! calls that may raise -/
def Er (g : FR) (ρ : Rho) (r : RD) : Prop := g ρ = some (r, ρ)
theorem er_call {n : Nat} {m : List D → Option RD} {k : FA} {vs : List D} {r : RD} (hk : Eax k ρ vs) (hn : vs.length = n) (hm : m vs = some r) : Er (cX n m k) ρ r := by
  obtain ⟨rs, h1, h2, h3⟩ := hk
  unfold Er cX
  simp [h1, h2, h3, hn, hm]
theorem ev_heard {g : FR} {r : RD} (hg : Er g ρ r) (hr : heardR r = some v) : Ev (eHeard g) ρ v := by
  unfold Ev eHeard
  rw [show g ρ = some (r, ρ) from hg]
  simp [hr]
theorem es_exX {g : FR} {d : D} (hg : Er g ρ (.inl d)) : sExX g ρ = some (.next ρ) := by
  unfold sExX
  rw [show g ρ = some (.inl d, ρ) from hg]
  rfl
theorem es_exXx {g : FR} {e : Str × Option Str} {l : FS} (hg : Er g ρ (.inr e)) : sSeq (sExX g) l ρ = some (.exc e) := by
  unfold sSeq sExX
  rw [show g ρ = some (.inr e, ρ) from hg]
  rfl
theorem es_setX {i : Nat} {g : FR} {d : D} (hg : Er g ρ (.inl d)) (hi : i < ρ.length) : sSetX i g ρ = some (.next (ρ.set i (some (.d d)))) := by
  unfold sSetX
  rw [show g ρ = some (.inl d, ρ) from hg]
  simp [hi]
theorem es_setXx {i : Nat} {g : FR} {e : Str × Option Str} {l : FS} (hg : Er g ρ (.inr e)) : sSeq (sSetX i g) l ρ = some (.exc e) := by
  unfold sSeq sSetX
  rw [show g ρ = some (.inr e, ρ) from hg]
  rfl
theorem es_retX {g : FR} {d : D} (hg : Er g ρ (.inl d)) : sRetX g ρ = some (.ret d ρ) := by
  unfold sRetX
  rw [show g ρ = some (.inl d, ρ) from hg]
  rfl
theorem es_retXx {g : FR} {e : Str × Option Str} (hg : Er g ρ (.inr e)) : sRetX g ρ = some (.exc e) := by
  unfold sRetX
  rw [show g ρ = some (.inr e, ρ) from hg]
  rfl
theorem es_raiseP {x s : Str} (hf : Ev f ρ (.str s)) : sRaiseP x f ρ = some (.exc (x, some s)) := by
  unfold sRaiseP
  rw [show f ρ = some (.d (.str s), ρ) from hf]
theorem runX_of {n : Nat} {F : FS} {ds : List D} {bs : List B} {o : Out} {r : RD} (hb : bindArgs ds = some bs) (h : F (pad n bs) = some o) (hr : resD o = some r) : runX n F ds = some r := by
  unfold runX
  rw [hb]
  simp [h, hr]
theorem okM_of {m : List D → Option RD} {ds : List D} {d : D} (h : m ds = some (.inl d)) : okM m ds = some d := by
  unfold okM
  rw [h]
/-! iterators, comprehensions over typed lists -/
theorem ei_seqT {α : Type} {l : List α} {e : α → D} (hf : Ev f ρ x) (hx : seqD x = some (l.map e)) : Ei (iSeq f) ρ (l.map fun a => R.d (e a)) := by
  have := ei_seq hf hx
  rw [List.map_map] at this
  exact this
theorem ei_zipT {α β : Type} {l : List α} {m : List β} {e : α → D} {e' : β → D} (hf : Ev f ρ x) (hg : Ev g ρ y) (hx : seqD x = some (l.map e)) (hy : seqD y = some (m.map e')) : Ei (iZp f g) ρ ((l.zip m).map fun z => R.w [e z.1, e' z.2]) := by
  have := ei_zip hf hg hx hy
  rw [List.zip_map, List.map_map] at this
  exact this
theorem ef_lcT {α : Type} {fi : FI} {i : Nat} {l : List α} {e : α → D} {p : α → Bool} {o : α → D} (hi : Ei fi ρ (l.map fun a => R.d (e a))) (hl : i < ρ.length) (hok : okW ρ [i] = true) (hz : l.length ≤ sizeLine)
    (h1 : ∀ a ∈ l, Et t (ρ.set i (some (.d (e a)))) (p a)) (h2 : ∀ a ∈ l, p a = true → Ev f (ρ.set i (some (.d (e a)))) (o a)) : Ef (fLc fi (put i) t f [i]) ρ ((l.filter p).map o) := by
  have e0 : ∀ a : D, (wpR ρ [i]).set i (some (.d a)) = ρ.set i (some (.d a)) := fun a => by simp [wpR, List.set_set]
  refine ef_lc (fun a => R.d (e a)) (fun a => ρ.set i (some (.d (e a)))) p o hi (fun v hv => by rw [List.mem_singleton.mp hv]; exact hl) hok hz (fun a => ?_) (fun a => ?_) (fun a => ?_) h1 h2
  · unfold put
    rw [wpR_len]
    simp [hl, e0]
  · simp [wpR, List.set_set]
  · simp [okW, hl]
theorem ef_lcmT {α : Type} {fi : FI} {i : Nat} {l : List α} {e : α → D} {o : α → D} (hi : Ei fi ρ (l.map fun a => R.d (e a))) (hl : i < ρ.length) (hok : okW ρ [i] = true) (hz : l.length ≤ sizeLine) (h2 : ∀ a ∈ l, Ev f (ρ.set i (some (.d (e a)))) (o a)) :
    Ef (fLc fi (put i) tYesT f [i]) ρ (l.map o) := by
  have := ef_lcT (t := tYesT) (p := fun _ => true) (o := o) hi hl hok hz (fun _ _ => rfl) fun a ha _ => h2 a ha
  rwa [filter_yes] at this
theorem ef_lc2T {α : Type} {fi : FI} {i j : Nat} {l : List α} {e1 e2 : α → D} {k : α → R} {p : α → Bool} {o : α → D} (hi : Ei fi ρ (l.map k)) (hk : (∀ q, k q = R.w [e1 q, e2 q]) ∨ (∀ q, k q = R.d (.tuple [e1 q, e2 q]))) (hij : i ≠ j) (hl : i < ρ.length) (hl2 : j < ρ.length) (hok : okW ρ [i, j] = true) (hz : l.length ≤ sizeLine)
    (h1 : ∀ a ∈ l, Et t ((ρ.set i (some (.d (e1 a)))).set j (some (.d (e2 a)))) (p a)) (h2 : ∀ a ∈ l, p a = true → Ev f ((ρ.set i (some (.d (e1 a)))).set j (some (.d (e2 a)))) (o a)) : Ef (fLc fi (gT 2 (gC (put i) (gC (put j) gN))) t f [i, j]) ρ ((l.filter p).map o) := by
  have e : ∀ a : α, ((wpR ρ [i, j]).set i (some (.d (e1 a)))).set j (some (.d (e2 a))) = (ρ.set i (some (.d (e1 a)))).set j (some (.d (e2 a))) := fun a => by
    refine List.ext_getElem? fun m => ?_
    simp only [wpR, List.getElem?_set, List.length_set]
    by_cases a1 : j = m <;> by_cases a2 : i = m <;> simp [a1, a2]
  refine ef_lc k (fun a => (ρ.set i (some (.d (e1 a)))).set j (some (.d (e2 a)))) p o hi (fun v hv => ?_) hok hz (fun a => ?_) (fun a => ?_) (fun a => ?_) h1 h2
  · rcases List.mem_cons.mp hv with h | h
    · rw [h]; exact hl
    · rw [List.mem_singleton.mp h]; exact hl2
  · have l1 : (wpR ρ [i, j]).length = ρ.length := wpR_len _ _
    rcases hk with hk | hk
    · rw [hk]
      simp [gT, gC, gN, put, l1, hl, hl2, e]
    · rw [hk]
      simp [gT, gC, gN, put, l1, hl, hl2, e]
  · refine List.ext_getElem? fun m => ?_
    simp only [wpR, List.getElem?_set, List.length_set]
    by_cases a1 : j = m <;> by_cases a2 : i = m <;> simp [a1, a2]
  · simp [okW, hl, hl2, hij, Ne.symm hij, List.getElem?_set]
theorem ef_lc2mT {α : Type} {fi : FI} {i j : Nat} {l : List α} {e1 e2 : α → D} {k : α → R} {o : α → D} (hi : Ei fi ρ (l.map k)) (hk : (∀ q, k q = R.w [e1 q, e2 q]) ∨ (∀ q, k q = R.d (.tuple [e1 q, e2 q]))) (hij : i ≠ j) (hl : i < ρ.length) (hl2 : j < ρ.length) (hok : okW ρ [i, j] = true) (hz : l.length ≤ sizeLine)
    (h2 : ∀ a ∈ l, Ev f ((ρ.set i (some (.d (e1 a)))).set j (some (.d (e2 a)))) (o a)) : Ef (fLc fi (gT 2 (gC (put i) (gC (put j) gN))) tYesT f [i, j]) ρ (l.map o) := by
  have := ef_lc2T (t := tYesT) (p := fun _ => true) (o := o) hi hk hij hl hl2 hok hz (fun _ _ => rfl) fun a ha _ => h2 a ha
  rwa [filter_yes] at this
/-! side by side -/
def Exx (k : FX) (ρ : Rho) (rs : List RX) : Prop := k ρ = some (rs, ρ)
theorem exx_nil : Exx xNil ρ [] := rfl
theorem exx_E {k : FX} {rs : List RX} (hf : Ev f ρ x) (hk : Exx k ρ rs) : Exx (xE f k) ρ (.d x :: rs) := by
  unfold Exx xE
  rw [show f ρ = some (.d x, ρ) from hf]
  simp [show k ρ = some (rs, ρ) from hk]
theorem exx_F {k : FX} {l : FF} {vs : List D} {rs : List RX} (hf : Ef l ρ vs) (hk : Exx k ρ rs) : Exx (xF l k) ρ (.l vs :: rs) := by
  unfold Exx xF
  rw [show l ρ = some (vs, ρ) from hf]
  simp [show k ρ = some (rs, ρ) from hk]
theorem exx_M {k : FX} {l : FM} {vs : List (Str × D)} {rs : List RX} (hf : l ρ = some (vs, ρ)) (hk : Exx k ρ rs) : Exx (xM l k) ρ (.m vs :: rs) := by
  unfold Exx xM
  rw [hf]
  simp [show k ρ = some (rs, ρ) from hk]
theorem es_par {k : FX} {rs : List RX} {is : List Nat} {ρ1 : Rho} (hk : Exx k ρ rs) (hp : putX is rs ρ = some ρ1) : sPar is k ρ = some (.next ρ1) := by
  unfold sPar
  rw [show k ρ = some (rs, ρ) from hk]
  simp [hp]
theorem em_dict {kvs : List (Str × D)} (hf : Ex f ρ x) (hd : dictD x = some kvs) (hn : (kvs.map (·.1)).Nodup) (hz : kvs.length ≤ sizeLine) : mDict f ρ = some (kvs, ρ) := by
  obtain ⟨r, h1, h2⟩ := hf
  unfold mDict
  simp [h1, h2, hd, hn, hz]
theorem strsD_map (ks : List Str) : strsD (ks.map PyData.str) = some ks := by
  induction ks with
  | nil => rfl
  | cons k ks ih => simp [strsD, ih]
theorem em_dz {ks : List Str} {ys : List D} (hf : Ev f ρ x) (hx : seqD x = some (ks.map PyData.str)) (hg : Ev g ρ y) (hy : seqD y = some ys) (hn : ks.Nodup) (hz : ks.length ≤ sizeLine) (hl : ks.length ≤ ys.length) : mDZ f g ρ = some (ks.zip ys, ρ) := by
  unfold mDZ
  rw [show f ρ = some (.d x, ρ) from hf]
  simp [out1, show g ρ = some (.d y, ρ) from hg, hx, hy, strsD_map, hn, hz, hl]
theorem es_ownM' {i : Nat} {l : FM} {kvs : List (Str × D)} (hf : l ρ = some (kvs, ρ)) (hi : i < ρ.length) : sOwnM i l ρ = some (.next (ρ.set i (some (.m kvs)))) := by
  unfold sOwnM sPar xM xNil
  rw [hf]
  simp [putX, hi]
theorem ret_own' {i : Nat} {xs : List D} (h : ρ[i]? = some (some (.l xs))) (hi : i < ρ.length) : sRet (eVar i) ρ = some (.ret (.list xs) (rel i ρ)) := by
  obtain ⟨ρ1, e⟩ := W.ret_own h
  rw [e]
  unfold sRet eVar out1 at e
  simp [h] at e
  simp [e]
end
theorem iSeq_rel {ρ : Rho} {i : Nat} {xs : List D} (h : ρ[i]? = some (some (.l xs))) : iSeq (eVar i) ρ = some (xs.map R.d, ρ.set i (some (.d (.list xs)))) := by
  unfold iSeq eVar
  simp only [h, Option.bind_some, out1, rel, seqD, Option.map_some]
theorem iSeq_d {ρ : Rho} {i : Nat} {xs : List D} (h : ρ[i]? = some (some (.l xs))) : iSeq (eVar i) (ρ.set i (some (.d (.list xs)))) = some (xs.map R.d, ρ.set i (some (.d (.list xs)))) :=
  ei_seq (ev_var (by rw [List.getElem?_set_self (List.getElem?_eq_some_iff.mp h).1])) rfl
theorem fLc_rel {ρ : Rho} {i : Nat} {xs : List D} {g : FG} {t : FT} {f : FE} {vs : List Nat} (h : ρ[i]? = some (some (.l xs))) : fLc (iSeq (eVar i)) g t f vs ρ = fLc (iSeq (eVar i)) g t f vs (ρ.set i (some (.d (.list xs)))) := by
  unfold fLc
  rw [iSeq_rel h, iSeq_d h]
theorem es_ret' {ρ ρ' : Rho} {f : FE} {v : D} (hf : f ρ = some (.d v, ρ')) : sRet f ρ = some (.ret v ρ') := by
  unfold sRet
  rw [hf]
  rfl
theorem ofF_of {ρ ρ' : Rho} {k : FF} {vs : List D} (h : k ρ = some (vs, ρ')) : ofF k ρ = some (.d (.list vs), ρ') := by
  unfold ofF
  rw [h]
  rfl
end DL
namespace W
open PySem L2 DL
theorem k_idx0 {x a : D} {xs : List D} (h : x = .tuple (a :: xs)) : idxD x (.int 0) = some a := by subst h; exact idx0 _ _
theorem k_idx1 {x a b : D} {xs : List D} (h : x = .tuple (a :: b :: xs)) : idxD x (.int 1) = some b := by subst h; exact idx1 _ _ _
theorem k_inT {y : D} {s : Str} {ss : List Str} (h : y = .tuple (ss.map .str)) : inD (.str s) y = some (.bool (decide (s ∈ ss))) := by subst h; exact in_strsT _ _
theorem k_inL {y : D} {s : Str} {ss : List Str} (h : y = .list (ss.map .str)) : inD (.str s) y = some (.bool (decide (s ∈ ss))) := by subst h; exact in_strs _ _
theorem k_inO {y : D} {s : Str} {fs : List (Option Str)} (h : y = .tuple (fs.map encO)) : inD (.str s) y = some (.bool (decide (some s ∈ fs))) := by subst h; exact in_opts _ _
theorem k_ninT {y : D} {s : Str} {ss : List Str} (h : y = .tuple (ss.map .str)) : ninD (.str s) y = some (.bool (!decide (s ∈ ss))) := by
  subst h
  have := in_strsT ss s
  unfold inD at this
  unfold ninD
  cases e : inB (.str s) (.tuple (ss.map .str)) with
  | none => simp [e] at this
  | some b => simp [e] at this; simp [this]
theorem k_ninL {y : D} {s : Str} {ss : List Str} (h : y = .list (ss.map .str)) : ninD (.str s) y = some (.bool (!decide (s ∈ ss))) := by
  subst h
  have := in_strs ss s
  unfold inD at this
  unfold ninD
  cases e : inB (.str s) (.list (ss.map .str)) with
  | none => simp [e] at this
  | some b => simp [e] at this; simp [this]
theorem k_ninO {y : D} {s : Str} {fs : List (Option Str)} (h : y = .tuple (fs.map encO)) : ninD (.str s) y = some (.bool (!decide (some s ∈ fs))) := by subst h; exact nin_optsT _ _
theorem k_eqS (a b : Str) : eqD (.str a) (.str b) = some (.bool (decide (a = b))) := by
  unfold eqD
  rw [if_pos (by simp [PyData.depth]), eqv_str]
theorem k_neS (a b : Str) : neD (.str a) (.str b) = some (.bool (!decide (a = b))) := by
  unfold neD
  rw [if_pos (by simp [PyData.depth]), eqv_str]
theorem len_encS (fs : List (Option Str)) : lenD (encS fs) = some (.int fs.length) := by simp [encS, lenD]
theorem k_len {x : D} {xs : List D} {n : Int} (h : x = .list xs ∨ x = .tuple xs) (hn : n = xs.length) : lenD x = some (.int n) := by
  subst hn
  rcases h with rfl | rfl <;> rfl
theorem k_lenL {x : D} {xs : List D} (h : x = .list xs) : lenD x = some (.int xs.length) := by subst h; rfl
theorem k_lenT {x : D} {xs : List D} (h : x = .tuple xs) : lenD x = some (.int xs.length) := by subst h; rfl
theorem k_nd {t : Tab} (h : (t.map (·.1)).Nodup) : ((kvT t).map (·.1)).Nodup := by rw [kvT_keys]; exact h
theorem k_kvz {t : Tab} (h : t.length ≤ 5) : (kvT t).length ≤ sizeLine := by simp [kvT, sizeL]; omega
theorem k_tup {x : D} {xs : List D} (h : x = .list xs) : tupD x = some (.tuple xs) := by subst h; rfl
theorem k_tru {x : D} {b : Bool} (h : x = .bool b) : truD x = some b := by subst h; rfl
theorem k_seqT {x : D} {xs : List D} (h : x = .tuple xs) : seqD x = some xs := by subst h; rfl
theorem k_seqL {x : D} {xs : List D} (h : x = .list xs) : seqD x = some xs := by subst h; rfl
end W
namespace DL
open PySem L2
theorem runA_ex {n : Nat} {F : FS} {ds : List D} {v : D} (h : ∃ ρ1, F (pad n (ds.map B.d)) = some (.ret v ρ1)) (hi : imm v = true) : runA n F ds = some v := by
  obtain ⟨ρ1, h⟩ := h
  exact runA_of h hi
theorem runB_ex {n : Nat} {F : FS} {ds : List D} {bs : List B} {v : D} (hb : bindArgs ds = some bs) (h : ∃ ρ1, F (pad n bs) = some (.ret v ρ1)) : runB n F ds = some v := by
  obtain ⟨ρ1, h⟩ := h
  exact runB_of hb h
theorem runX_ret {n : Nat} {F : FS} {ds : List D} {bs : List B} {v : D} (hb : bindArgs ds = some bs) (h : ∃ ρ1, F (pad n bs) = some (.ret v ρ1)) : runX n F ds = some (.inl v) := by
  obtain ⟨ρ1, h⟩ := h
  exact runX_of hb h rfl
theorem runX_next {n : Nat} {F : FS} {ds : List D} {bs : List B} (hb : bindArgs ds = some bs) (h : ∃ ρ1, F (pad n bs) = some (.next ρ1)) : runX n F ds = some (.inl .none) := by
  obtain ⟨ρ1, h⟩ := h
  exact runX_of hb h rfl
theorem runX_exc {n : Nat} {F : FS} {ds : List D} {bs : List B} {e : Str × Option Str} (hb : bindArgs ds = some bs) (h : F (pad n bs) = some (.exc e)) : runX n F ds = some (.inr e) := runX_of hb h rfl
theorem ba_nil : bindArgs [] = some [] := rfl
theorem ba_cons {x : D} {xs : List D} {bs : List B} (h : imm x = true) (t : bindArgs xs = some bs) : bindArgs (x :: xs) = some (.d x :: bs) := by simp [bindArgs, bindArg, h, t]
theorem ba_list {xs ys : List D} {bs : List B} (h : immL xs = true) (t : bindArgs ys = some bs) : bindArgs (.list xs :: ys) = some (.r xs :: bs) := by simp [bindArgs, bindArg, imm, h, t]
end DL
namespace W
open PySem L2 DL
theorem imm_encO (o : Option Str) : imm (encO o) = true := by cases o <;> rfl
theorem imm_strs (ss : List Str) : imm (.tuple (ss.map .str)) = true := by
  simp only [imm]
  exact immL_map (fun _ => rfl) ss
theorem immL_strs (ss : List Str) : immL (ss.map .str) = true := immL_map (fun _ => rfl) ss
end W

namespace DL
open PySem L2
theorem es_retLcOwn {ρ : Rho} {i : Nat} {xs ys : List D} {g : FG} {t : FT} {f : FE} {vs : List Nat} (h : ρ[i]? = some (some (.l xs))) (hk : Ef (fLc (iSeq (eVar i)) g t f vs) (ρ.set i (some (.d (.list xs)))) ys) : sRet (ofF (fLc (iSeq (eVar i)) g t f vs)) ρ = some (.ret (.list ys) (ρ.set i (some (.d (.list xs))))) :=
  es_ret' (ofF_of ((fLc_rel h).trans hk))
end DL

namespace DL
open PySem L2
/-! ### what a statement does, forwards -/
def Wp (k : FS) (ρ : Rho) (Q : Out → Prop) : Prop := ∃ o, k ρ = some o ∧ Q o
def thenW (l : FS) (Q : Out → Prop) : Out → Prop
  | .next ρ => Wp l ρ Q
  | o => Q o
section
variable {ρ ρ' : Rho} {f g : FE} {t : FT} {x y z v w : D} {b : Bool} {k l : FS} {Q : Out → Prop} {i j : Nat}
theorem wp_seq (h : Wp k ρ (thenW l Q)) : Wp (sSeq k l) ρ Q := by
  obtain ⟨o, e, q⟩ := h
  unfold Wp sSeq
  rw [e]
  cases o with
  | next ρ1 => exact q
  | ret d ρ1 => exact ⟨_, rfl, q⟩
  | brk ρ1 => exact ⟨_, rfl, q⟩
  | cont ρ1 => exact ⟨_, rfl, q⟩
  | exc e => exact ⟨_, rfl, q⟩
theorem wp_of {o : Out} (e : k ρ = some o) (q : Q o) : Wp k ρ Q := ⟨o, e, q⟩
theorem wp_set (hf : Ev f ρ v) (hi : i < ρ.length) (q : Q (.next (ρ.set i (some (.d v))))) : Wp (sAsg f (put i)) ρ Q := ⟨_, es_set hf hi, q⟩
theorem wp_setS (hf : f ρ = some (.d v, ρ')) (hi : i < ρ'.length) (q : Q (.next (ρ'.set i (some (.d v))))) : Wp (sAsg f (put i)) ρ Q := by
  refine ⟨_, ?_, q⟩
  unfold sAsg
  rw [hf]
  simp [out1, put, hi]
theorem wp_asg2 (hf : Ev f ρ (.tuple [x, y])) (hi : i < ρ.length) (hj : j < ρ.length) (q : Q (.next ((ρ.set i (some (.d x))).set j (some (.d y))))) : Wp (sAsg f (gT 2 (gC (put i) (gC (put j) gN)))) ρ Q := ⟨_, es_asg2 hf hi hj, q⟩
theorem wp_own {m : FF} {vs : List D} (hf : Ef m ρ vs) (hi : i < ρ.length) (q : Q (.next (ρ.set i (some (.l vs))))) : Wp (sOwn i m) ρ Q := ⟨_, es_own hf hi, q⟩
theorem wp_ownM {m : FM} {kvs : List (Str × D)} (hf : m ρ = some (kvs, ρ)) (hi : i < ρ.length) (q : Q (.next (ρ.set i (some (.m kvs))))) : Wp (sOwnM i m) ρ Q := ⟨_, es_ownM' hf hi, q⟩
theorem wp_par {m : FX} {rs : List RX} {is : List Nat} {ρ1 : Rho} (hk : Exx m ρ rs) (hp : putX is rs ρ = some ρ1) (q : Q (.next ρ1)) : Wp (sPar is m) ρ Q := ⟨_, es_par hk hp, q⟩
theorem wp_app {xs : List D} (hi : ρ[i]? = some (some (.l xs))) (hf : Ev f ρ v) (hz : xs.length < sizeLine) (q : Q (.next (ρ.set i (some (.l (xs ++ [v])))))) : Wp (sApp i f) ρ Q := ⟨_, es_app hi hf hz, q⟩
theorem wp_nil (q : Q (.next ρ)) : Wp sNil ρ Q := ⟨_, rfl, q⟩
theorem wp_ret (hf : Ev f ρ v) (q : Q (.ret v ρ)) : Wp (sRet f) ρ Q := ⟨_, es_ret hf, q⟩
theorem wp_if (ht : Et t ρ b) (h1 : b = true → Wp k ρ Q) (h2 : b = false → Wp l ρ Q) : Wp (sIf t k l) ρ Q := by
  unfold Wp sIf
  rw [show t ρ = some (b, ρ) from ht]
  cases b with
  | true => exact h1 rfl
  | false => exact h2 rfl
/-- a test that fails, by its value -/
theorem wp_pass (ht : Et t ρ b) (hb : b = false) (q : Q (.next ρ)) : Wp (sIf t k sNil) ρ Q := wp_if ht (fun z => by rw [hb] at z; cases z) fun _ => wp_nil q
theorem wp_for {fi : FI} {g : FG} {rs : List R} (I : Rho → Prop) (h : Ei fi ρ rs) (h0 : I ρ) (hs : ∀ r ∈ rs, ∀ ρ, I ρ → ∃ ρ1, g r ρ = some ρ1 ∧ Wp k ρ1 fun o => ∃ ρ2, o = .next ρ2 ∧ I ρ2) (q : ∀ ρ', I ρ' → Q (.next ρ')) : Wp (sFor fi g k) ρ Q := by
  obtain ⟨ρ', e, hI⟩ := W.for_loop (I := I) h (fun r hr ρ hI => by
    obtain ⟨ρ1, e1, o, e2, ρ2, rfl, h2⟩ := hs r hr ρ hI
    exact ⟨ρ1, ρ2, e1, e2, h2⟩) h0
  exact ⟨_, e, q ρ' hI⟩
theorem ei_rg {n : Int} (hf : Ev f ρ (.int n)) (h0 : -1000000 ≤ n ∧ n ≤ 1000000) : Ei (iRg f) ρ ((List.range n.toNat).map fun i => R.d (.int (i : Nat))) := by
  unfold Ei iRg
  rw [show f ρ = some (.d (.int n), ρ) from hf]
  simp [h0]
theorem wp_exX {m : FR} {d : D} (hg : Er m ρ (.inl d)) (q : Q (.next ρ)) : Wp (sExX m) ρ Q := ⟨_, es_exX hg, q⟩
end
theorem ne_same {x : D} (h1 : x.depth ≤ 60) (h2 : PySem.W.alike x x = true) : neD x x = some (.bool false) := by
  unfold neD
  rw [if_pos h1, PySem.W.eqv_refl_alike x h2]
  rfl
theorem eq_same {x : D} (h1 : x.depth ≤ 60) (h2 : PySem.W.alike x x = true) : eqD x x = some (.bool true) := by
  unfold eqD
  rw [if_pos h1, PySem.W.eqv_refl_alike x h2]
end DL
namespace W
open PySem L2 DL
theorem hr_lived (p : Str) : heardR (.inr ("Lived", some p)) = some (.tuple [.str "lived", .str p]) := by simp [heardR, heardX]
theorem hr_told (d : D) : heardR (.inl d) = some (.tuple [.str "told", d]) := rfl
theorem hr_np : heardR (.inr ("NoPerson", none)) = some (.tuple [.str "no person"]) := rfl
theorem hr_nh : heardR (.inr ("NoHouse", none)) = some (.tuple [.str "no house"]) := rfl
theorem hr_ns : heardR (.inr ("NoStanding", none)) = some (.tuple [.str "no standing"]) := rfl
theorem hr_nm : heardR (.inr ("NoMove", none)) = some (.tuple [.str "no move"]) := rfl
/-- sorted of what rises by its first texts -/
theorem sort_id {α : Type} (ms : List α) (e : α → D) (k : α → Str) (y : α → D) (he : ∀ a, e a = .tuple [.str (k a), y a]) (ha : ∀ a ∈ ms, ∀ c ∈ ms, PySem.W.alike (y a) (y c) = true) (h : (ms.map k).Pairwise fun a c => ltS a c = true) : sorts (ms.map e) = ms.map e := by
  unfold sorts
  refine List.mergeSort_of_pairwise ?_
  rw [List.pairwise_map] at h ⊢
  refine h.imp_of_mem fun {a c} ma mc hl => ?_
  show PySem.W.dataLe false id (e a) (e c) = true
  rw [PySem.W.dataLe_eq]
  simp only [cond_false, id, he]
  rw [PySem.W.dataLt_pair (by simp [PySem.W.alike]) (ha c mc a ma)]
  have hl : (k a).cps.toList < (k c).cps.toList := by simpa [ltS] using hl
  have n1 : ¬ (k c).cps.toList < (k a).cps.toList := fun z => List.lt_asymm hl z
  rw [eqv_str, PySem.W.dataLt_str]
  by_cases e1 : k c = k a
  · rw [e1] at n1 hl
    exact absurd hl n1
  · simp [e1, n1]
end W
namespace W
open PySem L2 DL
local macro_rules | `(tactic| decreasing_trivial) => `(tactic| first
  | ((with_reducible apply ex_own); (· (exact rfl)))
  | ((with_reducible apply ex_r); (· (exact rfl)))
  | ((with_reducible apply Ev.ex); (· (decreasing_trivial)))
  | ((with_reducible apply ev_var); (· (exact rfl)))
  | with_reducible exact ev_c
  | ((with_reducible apply ex_op); (· (decreasing_trivial)); (· (decreasing_trivial)); (· (get_elem_tactic_extensible)))
  | ((with_reducible apply ex_call); (· (decreasing_trivial)); (· (exact rfl)); (· (get_elem_tactic_extensible)))
  | ((with_reducible apply ev_tup); (· (decreasing_trivial)); (· (get_elem_tactic_extensible)))
  | ((with_reducible apply ev_F); (· (decreasing_trivial)))
  | ((with_reducible apply ex_b1); (· (decreasing_trivial)); (· (get_elem_tactic_extensible)))
  | ((with_reducible apply ex_isi); (· (decreasing_trivial)); (· (get_elem_tactic_extensible)))
  | ((with_reducible apply ev_isN); (· (decreasing_trivial)))
  | ((with_reducible apply ev_isnN); (· (decreasing_trivial)))
  | ((with_reducible apply ev_and); (· (decreasing_trivial)); (· (intro _; decreasing_trivial)))
  | ((with_reducible apply ev_or); (· (decreasing_trivial)); (· (intro _; decreasing_trivial)))
  | ((with_reducible apply ev_not); (· (decreasing_trivial)); (· (get_elem_tactic_extensible)))
  | ((with_reducible apply ev_ite); (· (decreasing_trivial)); (· (intro _; decreasing_trivial)); (· (intro _; decreasing_trivial)))
  | ((with_reducible apply ex_M); (· (decreasing_trivial)); (· (exact rfl)); (· (decreasing_trivial)); (· (get_elem_tactic_extensible)))
  | ((with_reducible apply ex_dget); (· (decreasing_trivial)); (· (get_elem_tactic_extensible)); (· (get_elem_tactic_extensible)); (· (get_elem_tactic_extensible)); (· (decreasing_trivial)); (· (get_elem_tactic_extensible)))
  | ((with_reducible apply ev_mget); (· (exact rfl)); (· (decreasing_trivial)); (· (get_elem_tactic_extensible)))
  | ((with_reducible apply ev_mgt); (· (exact rfl)); (· (decreasing_trivial)))
  | ((with_reducible apply ev_min); (· (exact rfl)); (· (decreasing_trivial)))
  | ((with_reducible apply ev_memp); (· (exact rfl)))
  | ((with_reducible apply ex_lenZ); (· (decreasing_trivial)); (· (get_elem_tactic_extensible)))
  | ((with_reducible apply ex_sl); (· (decreasing_trivial)); (· (decreasing_trivial)); (· (decreasing_trivial)); (· (get_elem_tactic_extensible)))
  | ((with_reducible apply ev_ch); (· (decreasing_trivial)); (· (decreasing_trivial)); (· (decreasing_trivial)); (· (get_elem_tactic_extensible)); (· (get_elem_tactic_extensible)))
  | ((with_reducible apply ev_heard); (· (decreasing_trivial)); (· (get_elem_tactic_extensible)))
  | ((with_reducible apply er_call); (· (decreasing_trivial)); (· (exact rfl)); (· (get_elem_tactic_extensible)))
  | ((with_reducible apply et_toT); (· (decreasing_trivial)))
  | ((with_reducible apply et_trux); (· (decreasing_trivial)); (· (get_elem_tactic_extensible)))
  | ((with_reducible apply et_not); (· (decreasing_trivial)))
  | ((with_reducible apply et_and); (· (decreasing_trivial)); (· (intro _; decreasing_trivial)))
  | ((with_reducible apply et_or); (· (decreasing_trivial)); (· (intro _; decreasing_trivial)))
  | with_reducible exact ea_nil
  | ((with_reducible apply ea_cons); (· (decreasing_trivial)); (· (decreasing_trivial)))
  | with_reducible exact eax_nil
  | ((with_reducible apply eax_cons); (· (decreasing_trivial)); (· (decreasing_trivial)))
  | ((with_reducible apply eax_app); (· (decreasing_trivial)); (· (decreasing_trivial)))
  | ((with_reducible apply ea_app); (· (decreasing_trivial)); (· (decreasing_trivial)))
  | ((with_reducible apply ef_lst); (· (decreasing_trivial)); (· (get_elem_tactic_extensible)))
  | ((with_reducible apply ef_lcmT); (· (decreasing_trivial)); (· (get_elem_tactic_extensible)); (· (exact rfl)); (· (get_elem_tactic_extensible)); (· (intro _ _; decreasing_trivial)))
  | ((with_reducible apply ef_lcT); (· (decreasing_trivial)); (· (get_elem_tactic_extensible)); (· (exact rfl)); (· (get_elem_tactic_extensible)); (· (intro _ _; decreasing_trivial)); (· (intro _ _ _; decreasing_trivial)))
  | ((with_reducible apply ef_lc2mT); (· (decreasing_trivial)); (· (first | exact Or.inl fun _ => rfl | exact Or.inr fun _ => rfl)); (· (decide)); (· (get_elem_tactic_extensible)); (· (get_elem_tactic_extensible)); (· (exact rfl)); (· (get_elem_tactic_extensible)); (· (intro _ _; decreasing_trivial)))
  | ((with_reducible apply ef_lc2T); (· (decreasing_trivial)); (· (first | exact Or.inl fun _ => rfl | exact Or.inr fun _ => rfl)); (· (decide)); (· (get_elem_tactic_extensible)); (· (get_elem_tactic_extensible)); (· (exact rfl)); (· (get_elem_tactic_extensible)); (· (intro _ _; decreasing_trivial)); (· (intro _ _ _; decreasing_trivial)))
  | ((with_reducible apply ex_fB); (· (decreasing_trivial)); (· (get_elem_tactic_extensible)))
  | ((with_reducible apply ei_seqT); (· (decreasing_trivial)); (· (get_elem_tactic_extensible)))
  | ((with_reducible apply ei_zipT); (· (decreasing_trivial)); (· (decreasing_trivial)); (· (get_elem_tactic_extensible)); (· (get_elem_tactic_extensible)))
  | ((with_reducible apply ei_enum); (· (decreasing_trivial)); (· (get_elem_tactic_extensible)))
  | with_reducible exact o_none
  | ((with_reducible apply o_some); (· (decreasing_trivial)))
  | ((with_reducible apply exx_E); (· (decreasing_trivial)); (· (decreasing_trivial)))
  | ((with_reducible apply exx_F); (· (decreasing_trivial)); (· (decreasing_trivial)))
  | ((with_reducible apply exx_M); (· (decreasing_trivial)); (· (decreasing_trivial)))
  | with_reducible exact exx_nil
  | ((with_reducible apply em_dict); (· (decreasing_trivial)); (· (get_elem_tactic_extensible)); (· (get_elem_tactic_extensible)); (· (get_elem_tactic_extensible))))
local macro_rules | `(tactic| get_elem_tactic_extensible) => `(tactic| first
  | assumption
  | ((with_reducible apply k_idx0); (· (exact rfl)))
  | ((with_reducible apply k_idx1); (· (exact rfl)))
  | ((with_reducible apply k_inT); (· (exact rfl)))
  | ((with_reducible apply k_inL); (· (exact rfl)))
  | ((with_reducible apply k_inO); (· (exact rfl)))
  | ((with_reducible apply k_ninT); (· (exact rfl)))
  | ((with_reducible apply k_ninL); (· (exact rfl)))
  | ((with_reducible apply k_ninO); (· (exact rfl)))
  | with_reducible exact eq_int _ _
  | with_reducible exact ne_int _ _
  | with_reducible exact lt_int _ _
  | with_reducible exact gt_int _ _
  | with_reducible exact k_eqS _ _
  | with_reducible exact k_neS _ _
  | with_reducible exact eq_stand _ _
  | with_reducible exact ne_stand _ _
  | with_reducible exact len_encT _
  | with_reducible exact len_encS _
  | ((with_reducible apply k_lenL); (· (exact rfl)))
  | ((with_reducible apply k_lenT); (· (exact rfl)))
  | with_reducible exact allD_map _ _
  | with_reducible exact anyD_map _ _
  | with_reducible exact isD_tup _
  | with_reducible exact isD_str _
  | with_reducible exact isD_bool _
  | with_reducible exact dict_encT _
  | ((with_reducible apply lkp_kvT); (· (assumption)))
  | ((with_reducible apply k_nd); (· (first | exact Bk.Ok.nr (by assumption) | exact Bk.Ok.nl (by assumption))))
  | ((with_reducible apply k_kvz); (· (first | exact Bk.Ok.lr (by assumption) | exact Bk.Ok.ll (by assumption))))
  | ((with_reducible apply k_tup); (· (exact rfl)))
  | ((with_reducible apply k_tru); (· (exact rfl)))
  | ((with_reducible apply k_seqT); (· (exact rfl)))
  | ((with_reducible apply k_seqL); (· (exact rfl)))
  | (show _ < List.length _; exact Nat.le_of_ble_eq_true rfl)
  | (show _ ≤ sizeLine; simp [sizeL]; done)
  | (show _ ≤ sizeLine; rw [sizeL]; (try simp only [List.length_map, List.length_cons, List.length_nil]); omega)
  | ((with_reducible apply ba_cons); (· (get_elem_tactic_extensible)); (· (get_elem_tactic_extensible)))
  | ((with_reducible apply ba_list); (· (get_elem_tactic_extensible)); (· (get_elem_tactic_extensible)))
  | with_reducible exact ba_nil
  | with_reducible exact imm_enc _
  | with_reducible exact imm_encS _
  | with_reducible exact imm_encO _
  | with_reducible exact imm_strs _
  | with_reducible exact immL_strs _
  | (show imm _ = true; rfl))

theorem houses_eq (b : Bk) (ok : b.Ok) : m_houses_of [b.enc] = some (.list (b.houses.map .str)) := by
  have lr := ok.lr
  have e : b.houses.map PyData.str = b.rows.map (fun p => PyData.str p.1) := by simp [Bk.houses]
  rw [e]
  exact runB_ex (by get_elem_tactic_extensible) ⟨_, es_ret (by decreasing_trivial)⟩
local macro_rules | `(tactic| get_elem_tactic_extensible) => `(tactic| with_reducible first | exact houses_eq _ (by assumption) | exact people_eq _ (Bk.Ok.ll (by assumption)))
theorem look_h (b : Bk) (ok : b.Ok) (h : Str) (hh : h ∈ b.houses) : x_look_house [b.enc, .str h] = some (.inl .none) := by
  refine runX_next (by get_elem_tactic_extensible) ⟨_, es_if (b := (!true || !decide (h ∈ b.houses))) (by decreasing_trivial) (fun z => ?_) fun _ => rfl⟩
  simp [hh] at z
theorem look_hn (b : Bk) (ok : b.Ok) (h : Str) (hh : h ∉ b.houses) : x_look_house [b.enc, .str h] = some (.inr ("NoHouse", none)) := by
  refine runX_exc (by get_elem_tactic_extensible) (es_if (b := (!true || !decide (h ∈ b.houses))) (by decreasing_trivial) (fun _ => rfl) fun z => ?_)
  simp [hh] at z
theorem look_ho (b : Bk) (ok : b.Ok) (d : D) (hi : imm d = true) (hd : isStr d = false) : x_look_house [b.enc, d] = some (.inr ("NoHouse", none)) := by
  have h0 : isD "str" d = some (.bool false) := by rw [isD_str, hd]
  refine runX_exc (by get_elem_tactic_extensible) (es_if (b := (!false || false)) (et_or (by decreasing_trivial) fun z => by cases z) (fun _ => rfl) fun z => by cases z)
/-! a standing -/
structure Sd (b : Bk) (fs : List (Option Str)) : Prop where
  ok : b.Ok
  st : standS b fs = true
  nm : ∀ s, some s ∈ fs → s.length ≤ 500
theorem Sd.len {b : Bk} {fs : List (Option Str)} (h : Sd b fs) : fs.length = b.people.length := (standS_inv h.st).1
theorem Sd.le {b : Bk} {fs : List (Option Str)} (h : Sd b fs) : fs.length ≤ 5 := by
  have := h.len
  have := h.ok.ll
  simp [Bk.people] at *
  omega
local macro_rules | `(tactic| get_elem_tactic_extensible) => `(tactic| with_reducible first | exact look_s (by assumption) | exact look_sn (by assumption) | exact look_h _ (by assumption) _ (by assumption) | exact look_hn _ (by assumption) _ (by assumption) | exact Od.im (by assumption))
/-! who lives there -/
def Bk.dwell (b : Bk) (fs : List (Option Str)) (h : Str) : Str := (b.people[fs.idxOf (some h)]?).getD ""
theorem dwell_at {b : Bk} {fs : List (Option Str)} (S : Sd b fs) {h : Str} (hm : some h ∈ fs) : idxD (.list (b.people.map .str)) (.int (fs.idxOf (some h) : Nat)) = some (.str (b.dwell fs h)) := by
  have hi : fs.idxOf (some h) < b.people.length := by rw [← S.len]; exact List.idxOf_lt_length_iff.mpr hm
  simp only [idxD, atI, ixN, List.length_map]
  rw [if_pos (by omega), if_pos (by omega)]
  simp [Bk.dwell, hi]
theorem k_ixO {x : D} {h : Str} {fs : List (Option Str)} (e : x = .tuple (fs.map encO)) (hm : some h ∈ fs) : ixT x (.str h) = some (.int (fs.idxOf (some h) : Nat)) := by
  subst e
  exact place_opt fs h hm
end W

namespace W
open PySem L2 DL
local macro_rules | `(tactic| decreasing_trivial) => `(tactic| first
  | ((with_reducible apply ex_own); (· (exact rfl)))
  | ((with_reducible apply ex_r); (· (exact rfl)))
  | ((with_reducible apply Ev.ex); (· (decreasing_trivial)))
  | ((with_reducible apply ev_var); (· (exact rfl)))
  | with_reducible exact ev_c
  | ((with_reducible apply ex_op); (· (decreasing_trivial)); (· (decreasing_trivial)); (· (get_elem_tactic_extensible)))
  | ((with_reducible apply ex_call); (· (decreasing_trivial)); (· (exact rfl)); (· (get_elem_tactic_extensible)))
  | ((with_reducible apply ev_tup); (· (decreasing_trivial)); (· (get_elem_tactic_extensible)))
  | ((with_reducible apply ev_F); (· (decreasing_trivial)))
  | ((with_reducible apply ex_b1); (· (decreasing_trivial)); (· (get_elem_tactic_extensible)))
  | ((with_reducible apply ex_isi); (· (decreasing_trivial)); (· (get_elem_tactic_extensible)))
  | ((with_reducible apply ev_isN); (· (decreasing_trivial)))
  | ((with_reducible apply ev_isnN); (· (decreasing_trivial)))
  | ((with_reducible apply ev_and); (· (decreasing_trivial)); (· (intro _; decreasing_trivial)))
  | ((with_reducible apply ev_or); (· (decreasing_trivial)); (· (intro _; decreasing_trivial)))
  | ((with_reducible apply ev_not); (· (decreasing_trivial)); (· (get_elem_tactic_extensible)))
  | ((with_reducible apply ev_ite); (· (decreasing_trivial)); (· (intro _; decreasing_trivial)); (· (intro _; decreasing_trivial)))
  | ((with_reducible apply ex_M); (· (decreasing_trivial)); (· (exact rfl)); (· (decreasing_trivial)); (· (get_elem_tactic_extensible)))
  | ((with_reducible apply ex_dget); (· (decreasing_trivial)); (· (get_elem_tactic_extensible)); (· (get_elem_tactic_extensible)); (· (get_elem_tactic_extensible)); (· (decreasing_trivial)); (· (get_elem_tactic_extensible)))
  | ((with_reducible apply ev_mget); (· (exact rfl)); (· (decreasing_trivial)); (· (get_elem_tactic_extensible)))
  | ((with_reducible apply ev_mgt); (· (exact rfl)); (· (decreasing_trivial)))
  | ((with_reducible apply ev_min); (· (exact rfl)); (· (decreasing_trivial)))
  | ((with_reducible apply ev_memp); (· (exact rfl)))
  | ((with_reducible apply ex_lenZ); (· (decreasing_trivial)); (· (get_elem_tactic_extensible)))
  | ((with_reducible apply ex_sl); (· (decreasing_trivial)); (· (decreasing_trivial)); (· (decreasing_trivial)); (· (get_elem_tactic_extensible)))
  | ((with_reducible apply ev_ch); (· (decreasing_trivial)); (· (decreasing_trivial)); (· (decreasing_trivial)); (· (get_elem_tactic_extensible)); (· (get_elem_tactic_extensible)))
  | ((with_reducible apply ev_heard); (· (decreasing_trivial)); (· (get_elem_tactic_extensible)))
  | ((with_reducible apply er_call); (· (decreasing_trivial)); (· (exact rfl)); (· (get_elem_tactic_extensible)))
  | ((with_reducible apply et_toT); (· (decreasing_trivial)))
  | ((with_reducible apply et_trux); (· (decreasing_trivial)); (· (get_elem_tactic_extensible)))
  | ((with_reducible apply et_not); (· (decreasing_trivial)))
  | ((with_reducible apply et_and); (· (decreasing_trivial)); (· (intro _; decreasing_trivial)))
  | ((with_reducible apply et_or); (· (decreasing_trivial)); (· (intro _; decreasing_trivial)))
  | with_reducible exact ea_nil
  | ((with_reducible apply ea_cons); (· (decreasing_trivial)); (· (decreasing_trivial)))
  | with_reducible exact eax_nil
  | ((with_reducible apply eax_cons); (· (decreasing_trivial)); (· (decreasing_trivial)))
  | ((with_reducible apply eax_app); (· (decreasing_trivial)); (· (decreasing_trivial)))
  | ((with_reducible apply ea_app); (· (decreasing_trivial)); (· (decreasing_trivial)))
  | ((with_reducible apply ef_lst); (· (decreasing_trivial)); (· (get_elem_tactic_extensible)))
  | ((with_reducible apply ef_lcmT); (· (decreasing_trivial)); (· (get_elem_tactic_extensible)); (· (exact rfl)); (· (get_elem_tactic_extensible)); (· (intro _ _; decreasing_trivial)))
  | ((with_reducible apply ef_lcT); (· (decreasing_trivial)); (· (get_elem_tactic_extensible)); (· (exact rfl)); (· (get_elem_tactic_extensible)); (· (intro _ _; decreasing_trivial)); (· (intro _ _ _; decreasing_trivial)))
  | ((with_reducible apply ef_lc2mT); (· (decreasing_trivial)); (· (first | exact Or.inl fun _ => rfl | exact Or.inr fun _ => rfl)); (· (decide)); (· (get_elem_tactic_extensible)); (· (get_elem_tactic_extensible)); (· (exact rfl)); (· (get_elem_tactic_extensible)); (· (intro _ _; decreasing_trivial)))
  | ((with_reducible apply ef_lc2T); (· (decreasing_trivial)); (· (first | exact Or.inl fun _ => rfl | exact Or.inr fun _ => rfl)); (· (decide)); (· (get_elem_tactic_extensible)); (· (get_elem_tactic_extensible)); (· (exact rfl)); (· (get_elem_tactic_extensible)); (· (intro _ _; decreasing_trivial)); (· (intro _ _ _; decreasing_trivial)))
  | ((with_reducible apply ex_fB); (· (decreasing_trivial)); (· (get_elem_tactic_extensible)))
  | ((with_reducible apply ei_seqT); (· (decreasing_trivial)); (· (get_elem_tactic_extensible)))
  | ((with_reducible apply ei_zipT); (· (decreasing_trivial)); (· (decreasing_trivial)); (· (get_elem_tactic_extensible)); (· (get_elem_tactic_extensible)))
  | ((with_reducible apply ei_enum); (· (decreasing_trivial)); (· (get_elem_tactic_extensible)))
  | with_reducible exact o_none
  | ((with_reducible apply o_some); (· (decreasing_trivial)))
  | ((with_reducible apply exx_E); (· (decreasing_trivial)); (· (decreasing_trivial)))
  | ((with_reducible apply exx_F); (· (decreasing_trivial)); (· (decreasing_trivial)))
  | ((with_reducible apply exx_M); (· (decreasing_trivial)); (· (decreasing_trivial)))
  | with_reducible exact exx_nil
  | ((with_reducible apply em_dict); (· (decreasing_trivial)); (· (get_elem_tactic_extensible)); (· (get_elem_tactic_extensible)); (· (get_elem_tactic_extensible))))
local macro_rules | `(tactic| get_elem_tactic_extensible) => `(tactic| first
  | assumption
  | ((with_reducible apply k_idx0); (· (exact rfl)))
  | ((with_reducible apply k_idx1); (· (exact rfl)))
  | ((with_reducible apply k_inT); (· (exact rfl)))
  | ((with_reducible apply k_inL); (· (exact rfl)))
  | ((with_reducible apply k_inO); (· (exact rfl)))
  | ((with_reducible apply k_ninT); (· (exact rfl)))
  | ((with_reducible apply k_ninL); (· (exact rfl)))
  | ((with_reducible apply k_ninO); (· (exact rfl)))
  | with_reducible exact eq_int _ _
  | with_reducible exact ne_int _ _
  | with_reducible exact lt_int _ _
  | with_reducible exact gt_int _ _
  | with_reducible exact k_eqS _ _
  | with_reducible exact k_neS _ _
  | with_reducible exact eq_stand _ _
  | with_reducible exact ne_stand _ _
  | with_reducible exact len_encT _
  | with_reducible exact len_encS _
  | ((with_reducible apply k_lenL); (· (exact rfl)))
  | ((with_reducible apply k_lenT); (· (exact rfl)))
  | with_reducible exact allD_map _ _
  | with_reducible exact anyD_map _ _
  | with_reducible exact isD_tup _
  | with_reducible exact isD_str _
  | with_reducible exact isD_bool _
  | with_reducible exact dict_encT _
  | ((with_reducible apply lkp_kvT); (· (assumption)))
  | ((with_reducible apply k_nd); (· (first | exact Bk.Ok.nr (by assumption) | exact Bk.Ok.nl (by assumption))))
  | ((with_reducible apply k_kvz); (· (first | exact Bk.Ok.lr (by assumption) | exact Bk.Ok.ll (by assumption))))
  | ((with_reducible apply k_tup); (· (exact rfl)))
  | ((with_reducible apply k_tru); (· (exact rfl)))
  | ((with_reducible apply k_seqT); (· (exact rfl)))
  | ((with_reducible apply k_seqL); (· (exact rfl)))
  | (show _ < List.length _; exact Nat.le_of_ble_eq_true rfl)
  | (show _ ≤ sizeLine; simp [sizeL]; done)
  | (show _ ≤ sizeLine; rw [sizeL]; (try simp only [List.length_map, List.length_cons, List.length_nil]); omega)
  | ((with_reducible apply ba_cons); (· (get_elem_tactic_extensible)); (· (get_elem_tactic_extensible)))
  | ((with_reducible apply ba_list); (· (get_elem_tactic_extensible)); (· (get_elem_tactic_extensible)))
  | with_reducible exact ba_nil
  | with_reducible exact imm_enc _
  | with_reducible exact imm_encS _
  | with_reducible exact imm_encO _
  | with_reducible exact imm_strs _
  | with_reducible exact immL_strs _
  | (show imm _ = true; rfl))

local macro_rules | `(tactic| get_elem_tactic_extensible) => `(tactic| with_reducible first | exact houses_eq _ (by assumption) | exact people_eq _ (Bk.Ok.ll (by assumption)) | exact look_s (by assumption) | exact look_sn (by assumption) | exact look_h _ (by assumption) _ (by assumption) | exact look_hn _ (by assumption) _ (by assumption) | exact Od.im (by assumption))
/-! the standing behind a move -/
def Bk.put (b : Bk) (fs : List (Option Str)) (p h : Str) : List (Option Str) := fs.set (b.people.idxOf p) (some h)
theorem encS_take (fs : List (Option Str)) (i : Nat) : (fs.map encO).take i = (fs.take i).map encO := by rw [List.map_take]
theorem encS_drop (fs : List (Option Str)) (i : Nat) : (fs.map encO).drop i = (fs.drop i).map encO := by rw [List.map_drop]
theorem k_cutTo {x : D} {xs : List D} {i : Nat} (h : x = .tuple xs) : cutD none (some (i : Int)) x = some (.tuple (xs.take i)) := by subst h; exact cutD_to xs i
theorem k_cutFrom {x : D} {xs : List D} {i : Nat} (h : x = .tuple xs) : cutD (some ((i : Nat) : Int)) none x = some (.tuple (xs.drop i)) := by subst h; exact cutD_from xs i
theorem set_split {α : Type} {l : List α} {i : Nat} {a : α} (h : i < l.length) : l.set i a = l.take i ++ a :: l.drop (i + 1) := by
  rw [List.set_eq_take_append_cons_drop, if_pos h]
theorem take_people {b : Bk} {fs : List (Option Str)} (ok : b.Ok) {h p : Str} (hh : h ∈ b.houses) (ht : b.taker fs h = some p) : p ∈ b.people := by
  obtain ⟨z1, z2, z3⟩ := ok.ir _ (lkT_mem (t := b.rows) hh)
  exact z3 p (List.mem_of_find?_eq_some ht)
/-! all moves -/
def encM (m : Str × Str) : D := .tuple [.str m.1, .str m.2]
def Bk.moves (b : Bk) (fs : List (Option Str)) : List (Str × Str) := (b.houses.filter fun h => !decide (some h ∈ fs)).filterMap fun h => (b.taker fs h).map fun p => (h, p)
def encR (m : Str × Option Str) : D := .tuple [.str m.1, encO m.2]
theorem depth_moves (ms : List (Str × Str)) : PyData.depthAll (ms.map encM) ≤ 1 := by
  induction ms with
  | nil => simp [PyData.depthAll]
  | cons m ms ih => simp [PyData.depthAll, encM, PyData.depth]; omega
theorem eq_nilM (ms : List (Str × Str)) : eqD (.list (ms.map encM)) (.list []) = some (.bool ms.isEmpty) := by
  unfold eqD
  rw [if_pos (by have := depth_moves ms; simp [PyData.depth]; omega)]
  cases ms <;> simp [PyData.eqv, PyData.eqvAll]
end W
namespace W
open PySem L2 DL
local macro_rules | `(tactic| decreasing_trivial) => `(tactic| first
  | ((with_reducible apply ex_own); (· (exact rfl)))
  | ((with_reducible apply ex_r); (· (exact rfl)))
  | ((with_reducible apply Ev.ex); (· (decreasing_trivial)))
  | ((with_reducible apply ev_var); (· (exact rfl)))
  | with_reducible exact ev_c
  | ((with_reducible apply ex_op); (· (decreasing_trivial)); (· (decreasing_trivial)); (· (get_elem_tactic_extensible)))
  | ((with_reducible apply ex_call); (· (decreasing_trivial)); (· (exact rfl)); (· (get_elem_tactic_extensible)))
  | ((with_reducible apply ev_tup); (· (decreasing_trivial)); (· (get_elem_tactic_extensible)))
  | ((with_reducible apply ev_F); (· (decreasing_trivial)))
  | ((with_reducible apply ex_b1); (· (decreasing_trivial)); (· (get_elem_tactic_extensible)))
  | ((with_reducible apply ex_isi); (· (decreasing_trivial)); (· (get_elem_tactic_extensible)))
  | ((with_reducible apply ev_isN); (· (decreasing_trivial)))
  | ((with_reducible apply ev_isnN); (· (decreasing_trivial)))
  | ((with_reducible apply ev_and); (· (decreasing_trivial)); (· (intro _; decreasing_trivial)))
  | ((with_reducible apply ev_or); (· (decreasing_trivial)); (· (intro _; decreasing_trivial)))
  | ((with_reducible apply ev_not); (· (decreasing_trivial)); (· (get_elem_tactic_extensible)))
  | ((with_reducible apply ev_ite); (· (decreasing_trivial)); (· (intro _; decreasing_trivial)); (· (intro _; decreasing_trivial)))
  | ((with_reducible apply ex_M); (· (decreasing_trivial)); (· (exact rfl)); (· (decreasing_trivial)); (· (get_elem_tactic_extensible)))
  | ((with_reducible apply ex_dget); (· (decreasing_trivial)); (· (get_elem_tactic_extensible)); (· (get_elem_tactic_extensible)); (· (get_elem_tactic_extensible)); (· (decreasing_trivial)); (· (get_elem_tactic_extensible)))
  | ((with_reducible apply ev_mget); (· (exact rfl)); (· (decreasing_trivial)); (· (get_elem_tactic_extensible)))
  | ((with_reducible apply ev_mgt); (· (exact rfl)); (· (decreasing_trivial)))
  | ((with_reducible apply ev_min); (· (exact rfl)); (· (decreasing_trivial)))
  | ((with_reducible apply ev_memp); (· (exact rfl)))
  | ((with_reducible apply ex_lenZ); (· (decreasing_trivial)); (· (get_elem_tactic_extensible)))
  | ((with_reducible apply ex_sl); (· (decreasing_trivial)); (· (decreasing_trivial)); (· (decreasing_trivial)); (· (get_elem_tactic_extensible)))
  | ((with_reducible apply ev_ch); (· (decreasing_trivial)); (· (decreasing_trivial)); (· (decreasing_trivial)); (· (get_elem_tactic_extensible)); (· (get_elem_tactic_extensible)))
  | ((with_reducible apply ev_heard); (· (decreasing_trivial)); (· (get_elem_tactic_extensible)))
  | ((with_reducible apply er_call); (· (decreasing_trivial)); (· (exact rfl)); (· (get_elem_tactic_extensible)))
  | ((with_reducible apply et_toT); (· (decreasing_trivial)))
  | ((with_reducible apply et_trux); (· (decreasing_trivial)); (· (get_elem_tactic_extensible)))
  | ((with_reducible apply et_not); (· (decreasing_trivial)))
  | ((with_reducible apply et_and); (· (decreasing_trivial)); (· (intro _; decreasing_trivial)))
  | ((with_reducible apply et_or); (· (decreasing_trivial)); (· (intro _; decreasing_trivial)))
  | with_reducible exact ea_nil
  | ((with_reducible apply ea_cons); (· (decreasing_trivial)); (· (decreasing_trivial)))
  | with_reducible exact eax_nil
  | ((with_reducible apply eax_cons); (· (decreasing_trivial)); (· (decreasing_trivial)))
  | ((with_reducible apply eax_app); (· (decreasing_trivial)); (· (decreasing_trivial)))
  | ((with_reducible apply ea_app); (· (decreasing_trivial)); (· (decreasing_trivial)))
  | ((with_reducible apply ef_lst); (· (decreasing_trivial)); (· (get_elem_tactic_extensible)))
  | ((with_reducible apply ef_lcmT); (· (decreasing_trivial)); (· (get_elem_tactic_extensible)); (· (exact rfl)); (· (get_elem_tactic_extensible)); (· (intro _ _; decreasing_trivial)))
  | ((with_reducible apply ef_lcT); (· (decreasing_trivial)); (· (get_elem_tactic_extensible)); (· (exact rfl)); (· (get_elem_tactic_extensible)); (· (intro _ _; decreasing_trivial)); (· (intro _ _ _; decreasing_trivial)))
  | ((with_reducible apply ef_lc2mT); (· (decreasing_trivial)); (· (first | exact Or.inl fun _ => rfl | exact Or.inr fun _ => rfl)); (· (decide)); (· (get_elem_tactic_extensible)); (· (get_elem_tactic_extensible)); (· (exact rfl)); (· (get_elem_tactic_extensible)); (· (intro _ _; decreasing_trivial)))
  | ((with_reducible apply ef_lc2T); (· (decreasing_trivial)); (· (first | exact Or.inl fun _ => rfl | exact Or.inr fun _ => rfl)); (· (decide)); (· (get_elem_tactic_extensible)); (· (get_elem_tactic_extensible)); (· (exact rfl)); (· (get_elem_tactic_extensible)); (· (intro _ _; decreasing_trivial)); (· (intro _ _ _; decreasing_trivial)))
  | ((with_reducible apply ex_fB); (· (decreasing_trivial)); (· (get_elem_tactic_extensible)))
  | ((with_reducible apply ei_seqT); (· (decreasing_trivial)); (· (get_elem_tactic_extensible)))
  | ((with_reducible apply ei_zipT); (· (decreasing_trivial)); (· (decreasing_trivial)); (· (get_elem_tactic_extensible)); (· (get_elem_tactic_extensible)))
  | ((with_reducible apply ei_enum); (· (decreasing_trivial)); (· (get_elem_tactic_extensible)))
  | with_reducible exact o_none
  | ((with_reducible apply o_some); (· (decreasing_trivial)))
  | ((with_reducible apply exx_E); (· (decreasing_trivial)); (· (decreasing_trivial)))
  | ((with_reducible apply exx_F); (· (decreasing_trivial)); (· (decreasing_trivial)))
  | ((with_reducible apply exx_M); (· (decreasing_trivial)); (· (decreasing_trivial)))
  | with_reducible exact exx_nil
  | ((with_reducible apply em_dict); (· (decreasing_trivial)); (· (get_elem_tactic_extensible)); (· (get_elem_tactic_extensible)); (· (get_elem_tactic_extensible))))
local macro_rules | `(tactic| get_elem_tactic_extensible) => `(tactic| first
  | assumption
  | ((with_reducible apply k_idx0); (· (exact rfl)))
  | ((with_reducible apply k_idx1); (· (exact rfl)))
  | ((with_reducible apply k_inT); (· (exact rfl)))
  | ((with_reducible apply k_inL); (· (exact rfl)))
  | ((with_reducible apply k_inO); (· (exact rfl)))
  | ((with_reducible apply k_ninT); (· (exact rfl)))
  | ((with_reducible apply k_ninL); (· (exact rfl)))
  | ((with_reducible apply k_ninO); (· (exact rfl)))
  | with_reducible exact eq_int _ _
  | with_reducible exact ne_int _ _
  | with_reducible exact lt_int _ _
  | with_reducible exact gt_int _ _
  | with_reducible exact k_eqS _ _
  | with_reducible exact k_neS _ _
  | with_reducible exact eq_stand _ _
  | with_reducible exact ne_stand _ _
  | with_reducible exact len_encT _
  | with_reducible exact len_encS _
  | ((with_reducible apply k_lenL); (· (exact rfl)))
  | ((with_reducible apply k_lenT); (· (exact rfl)))
  | with_reducible exact allD_map _ _
  | with_reducible exact anyD_map _ _
  | with_reducible exact isD_tup _
  | with_reducible exact isD_str _
  | with_reducible exact isD_bool _
  | with_reducible exact dict_encT _
  | ((with_reducible apply lkp_kvT); (· (assumption)))
  | ((with_reducible apply k_nd); (· (first | exact Bk.Ok.nr (by assumption) | exact Bk.Ok.nl (by assumption))))
  | ((with_reducible apply k_kvz); (· (first | exact Bk.Ok.lr (by assumption) | exact Bk.Ok.ll (by assumption))))
  | ((with_reducible apply k_tup); (· (exact rfl)))
  | ((with_reducible apply k_tru); (· (exact rfl)))
  | ((with_reducible apply k_seqT); (· (exact rfl)))
  | ((with_reducible apply k_seqL); (· (exact rfl)))
  | (show _ < List.length _; exact Nat.le_of_ble_eq_true rfl)
  | (show _ ≤ sizeLine; simp [sizeL]; done)
  | (show _ ≤ sizeLine; rw [sizeL]; (try simp only [List.length_map, List.length_cons, List.length_nil]); omega)
  | ((with_reducible apply ba_cons); (· (get_elem_tactic_extensible)); (· (get_elem_tactic_extensible)))
  | ((with_reducible apply ba_list); (· (get_elem_tactic_extensible)); (· (get_elem_tactic_extensible)))
  | with_reducible exact ba_nil
  | with_reducible exact imm_enc _
  | with_reducible exact imm_encS _
  | with_reducible exact imm_encO _
  | with_reducible exact imm_strs _
  | with_reducible exact immL_strs _
  | (show imm _ = true; rfl))

theorem k_ixT {x : D} {h : Str} {ss : List Str} (e : x = .tuple (ss.map .str)) (hm : h ∈ ss) : ixT x (.str h) = some (.int (ss.idxOf h : Nat)) := by
  subst e
  exact place_str ss h hm
theorem k_ninE {y : D} {o : Option Str} {ss : List Str} (h : y = .tuple (ss.map .str)) : ninD (encO o) y = some (.bool (notIn ss o)) := by subst h; exact nin_optT ss o
theorem lbetter_eq (l : List Str) (h : Str) (o : Option Str) : m__law_better [.tuple (l.map .str), .str h, encO o] = some (.bool (better l h o)) := by
  have e : better l h o = (decide (h ∈ l) && (notIn l o || lower l h o)) := by
    cases o <;> simp [better, notIn, lower]
  rw [e]
  refine runA_ex ⟨_, es_ret (ev_and (by decreasing_trivial) fun z => ev_or (ev_op (ev_var rfl) (ev_var rfl) (k_ninE rfl)) fun z2 => ?_)⟩ rfl
  have hm : h ∈ l := by simpa using z
  cases o with
  | none => cases z2
  | some g =>
    have hg : g ∈ l := by simpa [notIn] using z2
    refine ev_op (ev_M (ev_var rfl).ex rfl (ev_var rfl).ex (k_ixT rfl hm)) (ev_M (ev_var rfl).ex rfl (ev_var rfl).ex (k_ixT rfl hg)) ?_
    rw [lt_int]
    congr 2
    exact decide_eq_decide.mpr (by omega)
theorem lkp_zip : ∀ (ps : List Str) (fs : List (Option Str)) (p : Str), ps.length ≤ fs.length → p ∈ ps → lkp (ps.zip (fs.map encO)) p = some (encO ((fs[ps.idxOf p]?).getD none))
  | [], _, _, _, h => by cases h
  | q :: ps, [], _, h, _ => by simp at h
  | q :: ps, f :: fs, p, hl, h => by
    simp only [List.map_cons, List.zip_cons_cons, lkp]
    by_cases e : q = p
    · rw [if_pos e]
      simp [e]
    · rw [if_neg e]
      rcases List.mem_cons.mp h with z | z
      · exact absurd z.symm e
      · rw [lkp_zip ps fs p (by simpa using hl) z]
        have : (q == p) = false := by simpa using e
        simp [List.idxOf_cons, this]
theorem filter_find {α : Type} (p : α → Bool) : ∀ l : List α, (l.filter p).head? = l.find? p
  | [] => rfl
  | a :: l => by
    by_cases h : p a = true
    · simp [h]
    · simp [h, filter_find p l]
abbrev lmR (b : Bk) (fs : List (Option Str)) (acc : List (Str × Str)) (x5 x6 x7 x8 : Option B) : Rho := [some (.d b.enc), some (.d (encS fs)), some (.m (kvT b.likes)), some (.d (.list (b.people.map .str))), some (.l (acc.map encM)), x5, x6, x7, x8, none, none]
def lmF (b : Bk) (fs : List (Option Str)) (q : Str × List Str) : Option (Str × Str) := if some q.1 ∈ fs then none else (q.2.find? fun p => better (lkT b.likes p) q.1 (b.home fs p)).map fun p => (q.1, p)
abbrev lmB : FS := sSeq (sOwnM 7 (mDZ (eVar 3) (eVar 1))) (sSeq (sOwn 8 (fLc (iSeq (eVar 6)) (put 10) (truR (eCall 3 m__law_better (aCons (eMGet' 2 (eVar 10)) (aCons (eVar 5) (aCons (eMGet' 7 (eVar 10)) aNil))))) (eVar 10) [10])) (sIf (andT (toT (e2 (op2 ninD) (eVar 5) (eVar 1))) (toT (e2 (op2 neD) (eVar 8) (ofF (fLst aNil))))) (sApp 4 (eTup (aCons (eVar 5) (aCons (e2 (op2 idxD) (eVar 8) (eC (.int 0))) aNil)))) sNil))
theorem k_neNil {x : D} {ss : List Str} (h : x = .list (ss.map .str)) : neD x (.list []) = some (.bool (!ss.isEmpty)) := by subst h; exact ne_nil ss
theorem lm_step {b : Bk} {fs : List (Option Str)} (S : Sd b fs) (q : Str × List Str) (hr : ∀ p ∈ q.2, p ∈ b.people) (hz : q.2.length ≤ 5) (acc : List (Str × Str)) (ha : acc.length ≤ 100) (x7 x8 : Option B) :
    ∃ y7 y8, lmB (lmR b fs acc (some (.d (.str q.1))) (some (.d (.tuple (q.2.map .str)))) x7 x8) = some (.next (lmR b fs (acc ++ (lmF b fs q).toList) (some (.d (.str q.1))) (some (.d (.tuple (q.2.map .str)))) y7 y8)) := by
  have ok := S.ok
  have lp : b.people.length = fs.length := S.len.symm
  have le := S.le
  have e1 : mDZ (eVar 3) (eVar 1) (lmR b fs acc (some (.d (.str q.1))) (some (.d (.tuple (q.2.map .str)))) x7 x8) = some (b.people.zip (fs.map encO), _) := em_dz (ev_var rfl) rfl (ev_var rfl) rfl ok.nl (by rw [sizeL]; omega) (by simp [lp])
  have hb : ∀ p ∈ b.people, lkp (kvT b.likes) p = some (.tuple ((lkT b.likes p).map .str)) := fun p hp => lkp_kvT hp
  have hh : ∀ p ∈ b.people, lkp (b.people.zip (fs.map encO)) p = some (encO (b.home fs p)) := fun p hp => lkp_zip _ _ p (by omega) hp
  have e2 : Ef (fLc (iSeq (eVar 6)) (put 10) (truR (eCall 3 m__law_better (aCons (eMGet' 2 (eVar 10)) (aCons (eVar 5) (aCons (eMGet' 7 (eVar 10)) aNil))))) (eVar 10) [10]) (lmR b fs acc (some (.d (.str q.1))) (some (.d (.tuple (q.2.map .str)))) (some (.m (b.people.zip (fs.map encO)))) x8) ((q.2.filter fun p => better (lkT b.likes p) q.1 (b.home fs p)).map .str) := by
    refine ef_lcT (e := PyData.str) (by decreasing_trivial) (by get_elem_tactic_extensible) rfl (by get_elem_tactic_extensible) (fun p hp => ?_) (fun _ _ _ => by decreasing_trivial)
    have h1 := hb p (hr p hp)
    have h2 := hh p (hr p hp)
    have h3 := lbetter_eq (lkT b.likes p) q.1 (b.home fs p)
    decreasing_trivial
  have ff := filter_find (fun p => better (lkT b.likes p) q.1 (b.home fs p)) q.2
  have lz : (q.2.filter fun p => better (lkT b.likes p) q.1 (b.home fs p)).length ≤ q.2.length := List.length_filter_le _ _
  generalize (q.2.filter fun p => better (lkT b.likes p) q.1 (b.home fs p)) = ss at *
  refine ⟨some (.m (b.people.zip (fs.map encO))), some (.l (ss.map .str)), es_seq (es_ownM' e1 (by get_elem_tactic_extensible)) (es_seq (es_own e2 (by get_elem_tactic_extensible)) ?_)⟩
  refine es_if (b := !decide (some q.1 ∈ fs) && !ss.isEmpty) (et_and (by decreasing_trivial) fun _ => et_toT (ex_op (ex_own rfl) (by decreasing_trivial) (k_neNil rfl))) (fun z => ?_) (fun z => ?_)
  · have z1 : some q.1 ∉ fs := by
      intro h
      simp [h] at z
    cases ss with
    | nil => simp at z
    | cons p ss =>
      have e3 : lmF b fs q = some (q.1, p) := by
        unfold lmF
        rw [if_neg z1, ← ff]
        rfl
      rw [e3]
      have e4 : idxD (.list ((p :: ss).map .str)) (.int 0) = some (.str p) := by simp [idxD, atI, ixN]
      have e5 : (acc ++ (some (q.1, p)).toList).map encM = acc.map encM ++ [.tuple [.str q.1, .str p]] := by simp [encM]
      show _ = some (Out.next [some (.d b.enc), some (.d (encS fs)), some (.m (kvT b.likes)), some (.d (.list (b.people.map .str))), some (.l ((acc ++ (some (q.1, p)).toList).map encM)), some (.d (.str q.1)), some (.d (.tuple (q.2.map .str))), some (.m (b.people.zip (fs.map encO))), some (.l ((p :: ss).map .str)), none, none])
      rw [e5]
      exact es_app (i := 4) rfl (by decreasing_trivial) (by simp [sizeL]; omega)
  · have e3 : lmF b fs q = none := by
      unfold lmF
      by_cases h : some q.1 ∈ fs
      · rw [if_pos h]
      · rw [if_neg h, ← ff]
        cases ss with
        | nil => rfl
        | cons p ss => simp [h] at z
    rw [e3]
    simp [sNil, lmR]
theorem lm_loop {b : Bk} {fs : List (Option Str)} (S : Sd b fs) : ∀ (t : Tab) (acc : List (Str × Str)) (x5 x6 x7 x8 : Option B), (∀ q ∈ t, (∀ p ∈ q.2, p ∈ b.people) ∧ q.2.length ≤ 5) → acc.length + t.length ≤ 100 →
    ∃ y5 y6 y7 y8, forD (gT 2 (gC (put 5) (gC (put 6) gN))) lmB (t.map fun q => R.d (pairE q)) (lmR b fs acc x5 x6 x7 x8) = some (.next (lmR b fs (acc ++ t.filterMap (lmF b fs)) y5 y6 y7 y8))
  | [], acc, x5, x6, x7, x8, _, _ => ⟨x5, x6, x7, x8, by simp [forD]⟩
  | q :: t, acc, x5, x6, x7, x8, ht, hl => by
    obtain ⟨h1, h2⟩ := ht q List.mem_cons_self
    simp only [List.length_cons] at hl
    obtain ⟨y7, y8, e⟩ := lm_step S q h1 h2 acc (by omega) x7 x8
    have lo : (lmF b fs q).toList.length ≤ 1 := by cases lmF b fs q <;> simp
    obtain ⟨z5, z6, z7, z8, ih⟩ := lm_loop S t (acc ++ (lmF b fs q).toList) (some (.d (.str q.1))) (some (.d (.tuple (q.2.map .str)))) y7 y8 (fun r hr => ht r (List.mem_cons_of_mem _ hr)) (by simp; omega)
    refine ⟨z5, z6, z7, z8, ?_⟩
    rw [List.map_cons]
    refine (for_next rfl e).trans (ih.trans ?_)
    cases e3 : lmF b fs q <;> simp [e3]
end W

namespace W
open PySem L2 DL
local macro_rules | `(tactic| decreasing_trivial) => `(tactic| first
  | ((with_reducible apply ex_own); (· (exact rfl)))
  | ((with_reducible apply ex_r); (· (exact rfl)))
  | ((with_reducible apply Ev.ex); (· (decreasing_trivial)))
  | ((with_reducible apply ev_var); (· (exact rfl)))
  | with_reducible exact ev_c
  | ((with_reducible apply ex_op); (· (decreasing_trivial)); (· (decreasing_trivial)); (· (get_elem_tactic_extensible)))
  | ((with_reducible apply ex_call); (· (decreasing_trivial)); (· (exact rfl)); (· (get_elem_tactic_extensible)))
  | ((with_reducible apply ev_tup); (· (decreasing_trivial)); (· (get_elem_tactic_extensible)))
  | ((with_reducible apply ev_F); (· (decreasing_trivial)))
  | ((with_reducible apply ex_b1); (· (decreasing_trivial)); (· (get_elem_tactic_extensible)))
  | ((with_reducible apply ex_isi); (· (decreasing_trivial)); (· (get_elem_tactic_extensible)))
  | ((with_reducible apply ev_isN); (· (decreasing_trivial)))
  | ((with_reducible apply ev_isnN); (· (decreasing_trivial)))
  | ((with_reducible apply ev_and); (· (decreasing_trivial)); (· (intro _; decreasing_trivial)))
  | ((with_reducible apply ev_or); (· (decreasing_trivial)); (· (intro _; decreasing_trivial)))
  | ((with_reducible apply ev_not); (· (decreasing_trivial)); (· (get_elem_tactic_extensible)))
  | ((with_reducible apply ev_ite); (· (decreasing_trivial)); (· (intro _; decreasing_trivial)); (· (intro _; decreasing_trivial)))
  | ((with_reducible apply ex_M); (· (decreasing_trivial)); (· (exact rfl)); (· (decreasing_trivial)); (· (get_elem_tactic_extensible)))
  | ((with_reducible apply ex_dget); (· (decreasing_trivial)); (· (get_elem_tactic_extensible)); (· (get_elem_tactic_extensible)); (· (get_elem_tactic_extensible)); (· (decreasing_trivial)); (· (get_elem_tactic_extensible)))
  | ((with_reducible apply ev_mget); (· (exact rfl)); (· (decreasing_trivial)); (· (get_elem_tactic_extensible)))
  | ((with_reducible apply ev_mgt); (· (exact rfl)); (· (decreasing_trivial)))
  | ((with_reducible apply ev_min); (· (exact rfl)); (· (decreasing_trivial)))
  | ((with_reducible apply ev_memp); (· (exact rfl)))
  | ((with_reducible apply ex_lenZ); (· (decreasing_trivial)); (· (get_elem_tactic_extensible)))
  | ((with_reducible apply ex_sl); (· (decreasing_trivial)); (· (decreasing_trivial)); (· (decreasing_trivial)); (· (get_elem_tactic_extensible)))
  | ((with_reducible apply ev_ch); (· (decreasing_trivial)); (· (decreasing_trivial)); (· (decreasing_trivial)); (· (get_elem_tactic_extensible)); (· (get_elem_tactic_extensible)))
  | ((with_reducible apply ev_heard); (· (decreasing_trivial)); (· (get_elem_tactic_extensible)))
  | ((with_reducible apply er_call); (· (decreasing_trivial)); (· (exact rfl)); (· (get_elem_tactic_extensible)))
  | ((with_reducible apply et_toT); (· (decreasing_trivial)))
  | ((with_reducible apply et_trux); (· (decreasing_trivial)); (· (get_elem_tactic_extensible)))
  | ((with_reducible apply et_not); (· (decreasing_trivial)))
  | ((with_reducible apply et_and); (· (decreasing_trivial)); (· (intro _; decreasing_trivial)))
  | ((with_reducible apply et_or); (· (decreasing_trivial)); (· (intro _; decreasing_trivial)))
  | with_reducible exact ea_nil
  | ((with_reducible apply ea_cons); (· (decreasing_trivial)); (· (decreasing_trivial)))
  | with_reducible exact eax_nil
  | ((with_reducible apply eax_cons); (· (decreasing_trivial)); (· (decreasing_trivial)))
  | ((with_reducible apply eax_app); (· (decreasing_trivial)); (· (decreasing_trivial)))
  | ((with_reducible apply ea_app); (· (decreasing_trivial)); (· (decreasing_trivial)))
  | ((with_reducible apply ef_lst); (· (decreasing_trivial)); (· (get_elem_tactic_extensible)))
  | ((with_reducible apply ef_lcmT); (· (decreasing_trivial)); (· (get_elem_tactic_extensible)); (· (exact rfl)); (· (get_elem_tactic_extensible)); (· (intro _ _; decreasing_trivial)))
  | ((with_reducible apply ef_lcT); (· (decreasing_trivial)); (· (get_elem_tactic_extensible)); (· (exact rfl)); (· (get_elem_tactic_extensible)); (· (intro _ _; decreasing_trivial)); (· (intro _ _ _; decreasing_trivial)))
  | ((with_reducible apply ef_lc2mT); (· (decreasing_trivial)); (· (first | exact Or.inl fun _ => rfl | exact Or.inr fun _ => rfl)); (· (decide)); (· (get_elem_tactic_extensible)); (· (get_elem_tactic_extensible)); (· (exact rfl)); (· (get_elem_tactic_extensible)); (· (intro _ _; decreasing_trivial)))
  | ((with_reducible apply ef_lc2T); (· (decreasing_trivial)); (· (first | exact Or.inl fun _ => rfl | exact Or.inr fun _ => rfl)); (· (decide)); (· (get_elem_tactic_extensible)); (· (get_elem_tactic_extensible)); (· (exact rfl)); (· (get_elem_tactic_extensible)); (· (intro _ _; decreasing_trivial)); (· (intro _ _ _; decreasing_trivial)))
  | ((with_reducible apply ex_fB); (· (decreasing_trivial)); (· (get_elem_tactic_extensible)))
  | ((with_reducible apply ei_seqT); (· (decreasing_trivial)); (· (get_elem_tactic_extensible)))
  | ((with_reducible apply ei_zipT); (· (decreasing_trivial)); (· (decreasing_trivial)); (· (get_elem_tactic_extensible)); (· (get_elem_tactic_extensible)))
  | ((with_reducible apply ei_enum); (· (decreasing_trivial)); (· (get_elem_tactic_extensible)))
  | with_reducible exact o_none
  | ((with_reducible apply o_some); (· (decreasing_trivial)))
  | ((with_reducible apply exx_E); (· (decreasing_trivial)); (· (decreasing_trivial)))
  | ((with_reducible apply exx_F); (· (decreasing_trivial)); (· (decreasing_trivial)))
  | ((with_reducible apply exx_M); (· (decreasing_trivial)); (· (decreasing_trivial)))
  | with_reducible exact exx_nil
  | ((with_reducible apply em_dict); (· (decreasing_trivial)); (· (get_elem_tactic_extensible)); (· (get_elem_tactic_extensible)); (· (get_elem_tactic_extensible))))
local macro_rules | `(tactic| get_elem_tactic_extensible) => `(tactic| first
  | assumption
  | ((with_reducible apply k_idx0); (· (exact rfl)))
  | ((with_reducible apply k_idx1); (· (exact rfl)))
  | ((with_reducible apply k_inT); (· (exact rfl)))
  | ((with_reducible apply k_inL); (· (exact rfl)))
  | ((with_reducible apply k_inO); (· (exact rfl)))
  | ((with_reducible apply k_ninT); (· (exact rfl)))
  | ((with_reducible apply k_ninL); (· (exact rfl)))
  | ((with_reducible apply k_ninO); (· (exact rfl)))
  | with_reducible exact eq_int _ _
  | with_reducible exact ne_int _ _
  | with_reducible exact lt_int _ _
  | with_reducible exact gt_int _ _
  | with_reducible exact k_eqS _ _
  | with_reducible exact k_neS _ _
  | with_reducible exact eq_stand _ _
  | with_reducible exact ne_stand _ _
  | with_reducible exact len_encT _
  | with_reducible exact len_encS _
  | ((with_reducible apply k_lenL); (· (exact rfl)))
  | ((with_reducible apply k_lenT); (· (exact rfl)))
  | with_reducible exact allD_map _ _
  | with_reducible exact anyD_map _ _
  | with_reducible exact isD_tup _
  | with_reducible exact isD_str _
  | with_reducible exact isD_bool _
  | with_reducible exact dict_encT _
  | ((with_reducible apply lkp_kvT); (· (assumption)))
  | ((with_reducible apply k_nd); (· (first | exact Bk.Ok.nr (by assumption) | exact Bk.Ok.nl (by assumption))))
  | ((with_reducible apply k_kvz); (· (first | exact Bk.Ok.lr (by assumption) | exact Bk.Ok.ll (by assumption))))
  | ((with_reducible apply k_tup); (· (exact rfl)))
  | ((with_reducible apply k_tru); (· (exact rfl)))
  | ((with_reducible apply k_seqT); (· (exact rfl)))
  | ((with_reducible apply k_seqL); (· (exact rfl)))
  | (show _ < List.length _; exact Nat.le_of_ble_eq_true rfl)
  | (show _ ≤ sizeLine; simp [sizeL]; done)
  | (show _ ≤ sizeLine; rw [sizeL]; (try simp only [List.length_map, List.length_cons, List.length_nil]); omega)
  | ((with_reducible apply ba_cons); (· (get_elem_tactic_extensible)); (· (get_elem_tactic_extensible)))
  | ((with_reducible apply ba_list); (· (get_elem_tactic_extensible)); (· (get_elem_tactic_extensible)))
  | with_reducible exact ba_nil
  | with_reducible exact imm_enc _
  | with_reducible exact imm_encS _
  | with_reducible exact imm_encO _
  | with_reducible exact imm_strs _
  | with_reducible exact immL_strs _
  | (show imm _ = true; rfl))

local macro_rules | `(tactic| get_elem_tactic_extensible) => `(tactic| with_reducible first | exact houses_eq _ (by assumption) | exact people_eq _ (Bk.Ok.ll (by assumption)) | exact look_s (by assumption) | exact look_sn (by assumption) | exact hr_lived _ | exact hr_told _ | exact hr_np | exact hr_nh | exact hr_ns | exact hr_nm)
theorem done_list (p h : Str) : ∀ (t : Tab) (fs : List (Option Str)), (t.map (·.1)).Nodup → ((t.zip fs).map fun z => bif decide (z.1.1 = p) then PyData.str h else encO z.2) = ((fs.take t.length).set ((t.map (·.1)).idxOf p) (some h)).map encO
  | [], fs, _ => by simp
  | q :: t, [], _ => by simp
  | q :: t, f :: fs, nd => by
    simp only [List.map_cons, List.nodup_cons] at nd
    have ih := done_list p h t fs nd.2
    simp only [List.zip_cons_cons, List.map_cons, List.length_cons, List.take_succ_cons, List.idxOf_cons]
    by_cases e : q.1 = p
    · have ne : ∀ z ∈ t.zip fs, ¬ z.1.1 = p := fun z hz e2 => by
        have := (List.of_mem_zip (a := z.1) (b := z.2) hz).1
        exact nd.1 (by rw [e, ← e2]; exact List.mem_map.mpr ⟨z.1, this, rfl⟩)
      have i0 : (t.map (·.1)).idxOf p = (t.map (·.1)).length := List.idxOf_eq_length (by rw [← e]; exact nd.1)
      simp only [e, beq_self_eq_true, cond_true, List.set_cons_zero, List.map_cons, decide_true]
      rw [ih, i0, List.set_eq_of_length_le (by simp [List.length_take]; omega)]
      rfl
    · have e2 : (q.1 == p) = false := by simpa using e
      simp only [e, e2, cond_false, List.set_cons_succ, List.map_cons, decide_false]
      rw [ih]
/-! what is due, as a dict -/
def kvM (ms : List (Str × Str)) : List (Str × D) := ms.map fun m => (m.1, PyData.str m.2)
theorem dict_moves (ms : List (Str × Str)) : dictD (.list (ms.map encM)) = some (kvM ms) := by
  show pairsD _ = _
  induction ms with
  | nil => rfl
  | cons m ms ih =>
    simp only [List.map_cons, pairsD, kvM, encM]
    rw [ih]
    rfl
theorem moves_keys (b : Bk) (fs : List (Option Str)) : ((b.moves fs).map (·.1)).Sublist b.houses := by
  unfold Bk.moves
  have : ∀ L : List Str, ((L.filterMap fun h => (b.taker fs h).map fun p => (h, p)).map (·.1)).Sublist L := fun L => by
    induction L with
    | nil => exact .slnil
    | cons h L ih =>
      cases e : b.taker fs h with
      | none => simpa [e] using ih.cons h
      | some p => simpa [e] using ih.cons₂ h
  exact (this _).trans List.filter_sublist
theorem kvM_keys (ms : List (Str × Str)) : (kvM ms).map (·.1) = ms.map (·.1) := by simp [kvM]
theorem lkp_moves (b : Bk) (fs : List (Option Str)) (h : Str) (hh : h ∈ b.houses) (hm : some h ∉ fs) : lkp (kvM (b.moves fs)) h = (b.taker fs h).map PyData.str := by
  unfold Bk.moves
  have : ∀ L : List Str, lkp (kvM (L.filterMap fun h => (b.taker fs h).map fun p => (h, p))) h = if h ∈ L then (b.taker fs h).map PyData.str else none := fun L => by
    induction L with
    | nil => rfl
    | cons g L ih =>
      by_cases eg : g = h
      · subst eg
        cases e : b.taker fs g with
        | none =>
          simp only [List.filterMap_cons, e, Option.map_none] at ih ⊢
          rw [ih]
          simp
        | some p => simp [e, kvM, lkp]
      · have eg2 : ¬ h = g := fun z => eg z.symm
        cases e : b.taker fs g with
        | none =>
          simp only [List.filterMap_cons, e, Option.map_none]
          rw [ih]
          simp [eg2]
        | some p =>
          simp only [List.filterMap_cons, e, Option.map_some, kvM, List.map_cons, lkp, if_neg eg]
          refine Eq.trans ih ?_
          simp [eg2]
  rw [this, if_pos]
  simp [hh, hm]
theorem len_moves {b : Bk} (ok : b.Ok) (fs : List (Option Str)) : (b.moves fs).length ≤ 5 := by
  have := (moves_keys b fs).length_le
  have := ok.lr
  simp [Bk.houses] at *
  omega
theorem alike_strs : ∀ (ss ts : List Str), PySem.W.alikeAll (ss.map .str) (ts.map .str) = true
  | [], _ => by simp [PySem.W.alikeAll]
  | _ :: _, [] => by simp [PySem.W.alikeAll]
  | s :: ss, t :: ts => by simp [PySem.W.alikeAll, PySem.W.alike, alike_strs ss ts]
theorem alike_encM (m n : Str × Str) : PySem.W.alike (encM m) (encM n) = true := by simp [encM, PySem.W.alike, PySem.W.alikeAll]
theorem rise_h : hNames.Pairwise fun a c => ltS a c = true := by decide +kernel
theorem sortM_ok {b : Bk} (ok : b.Ok) (fs : List (Option Str)) : sortOk ((kvM (b.moves fs)).map pairT) = true := by
  have e : (kvM (b.moves fs)).map pairT = (b.moves fs).map encM := by simp [kvM, encM]
  have d := depth_moves (b.moves fs)
  have l := len_moves ok fs
  rw [e]
  unfold sortOk
  simp only [Bool.and_eq_true, Bool.or_eq_true, List.all_eq_true, decide_eq_true_eq, List.length_map]
  refine ⟨⟨⟨fun x hx y hy => ?_, .inl fun x hx => ?_⟩, by omega⟩, by rw [sizeL]; omega⟩
  · obtain ⟨m, _, rfl⟩ := List.mem_map.mp hx
    obtain ⟨n, _, rfl⟩ := List.mem_map.mp hy
    exact alike_encM m n
  · obtain ⟨m, _, rfl⟩ := List.mem_map.mp hx
    rfl
theorem sortM_id {b : Bk} {k1 : Nat} (eh : b.houses = hNames.take k1) (fs : List (Option Str)) : sorts ((kvM (b.moves fs)).map pairT) = (b.moves fs).map encM := by
  have e : (kvM (b.moves fs)).map pairT = (b.moves fs).map encM := by simp [kvM, encM]
  rw [e]
  refine sort_id (b.moves fs) encM (·.1) (fun m => .str m.2) (fun _ => rfl) (fun _ _ _ _ => by simp [PySem.W.alike]) ?_
  refine rise_h.sublist ((moves_keys b fs).trans ?_)
  rw [eh]
  exact List.take_sublist _ _
theorem ef_SI {ρ : Rho} {i : Nat} {kvs : List (Str × D)} (h : ρ[i]? = some (some (.m kvs))) (hs : sortOk (kvs.map pairT) = true) : Ef (fSI i) ρ (sorts (kvs.map pairT)) := by
  unfold Ef fSI
  have hm : mAt i ρ = some kvs := by
    unfold mAt
    rw [h]
  simp [hm, hs]
end W
namespace W
open PySem L2 DL
/-! ### rows of homes, and all standings -/
abbrev Row := List (Option Str)
def nexts (hs : List Str) (row : Row) : List (Option Str) := none :: (hs.filter fun h => !decide (some h ∈ row)).map some
def growR (hs : List Str) (row : Row) : List Row := (nexts hs row).map fun o => row ++ [o]
def grow (hs : List Str) (fd : List Row) : List Row := fd.flatMap (growR hs)
def standAll (hm : Str → List Str) (ps : List Str) (fd : List Row) : List Row := ps.foldl (fun fd p => grow (hm p) fd) fd
def keyO (o : Option Str) : Str := o.getD ""
def cpsO (o : Option Str) : List Nat := (keyO o).cps.toList
def keyN (row : Row) : List (List Nat) := row.map cpsO
def rowLe (r r' : Row) : Bool := !decide (keyN r' < keyN r)
def leS (a c : Str) : Bool := !ltS c a
theorem nexts_len (hs : List Str) (row : Row) : (nexts hs row).length ≤ hs.length + 1 := by
  have := List.length_filter_le (fun h => !decide (some h ∈ row)) hs
  simp only [nexts, List.length_cons, List.length_map]
  omega
theorem grow_len (hs : List Str) (k : Nat) (hk : hs.length ≤ k) : ∀ fd : List Row, (grow hs fd).length ≤ (k + 1) * fd.length
  | [] => by simp [grow]
  | row :: fd => by
    have ih := grow_len hs k hk fd
    have := nexts_len hs row
    simp only [grow, List.flatMap_cons, List.length_append, growR, List.length_map, List.length_cons, Nat.mul_succ] at ih ⊢
    omega
theorem grow_perm {hs hs' : List Str} {fd fd' : List Row} (h : hs.Perm hs') (p : fd.Perm fd') : (grow hs fd).Perm (grow hs' fd') := by
  have a : ∀ fd : List Row, (grow hs fd).Perm (grow hs' fd) := fun fd => by
    induction fd with
    | nil => exact .nil
    | cons row fd ih =>
      simp only [grow, List.flatMap_cons] at ih ⊢
      exact ((((h.filter _).map some).cons none).map _).append ih
  exact (List.Perm.flatMap_right _ p).trans (a fd')
theorem standAll_perm {hm hm' : Str → List Str} : ∀ (ps : List Str) (fd fd' : List Row), (∀ p ∈ ps, (hm p).Perm (hm' p)) → fd.Perm fd' → (standAll hm ps fd).Perm (standAll hm' ps fd')
  | [], _, _, _, p => p
  | q :: ps, fd, fd', h, p => by
    simp only [standAll, List.foldl_cons]
    exact standAll_perm ps _ _ (fun r hr => h r (List.mem_cons_of_mem _ hr)) (grow_perm (h q List.mem_cons_self) p)
theorem lt_append : ∀ (xs ys u v : List (List Nat)), xs.length = ys.length → xs < ys → xs ++ u < ys ++ v
  | [], [], _, _, _, h => absurd h (List.not_lt_nil _)
  | [], _ :: _, _, _, l, _ => by simp at l
  | _ :: _, [], _, _, l, _ => by simp at l
  | x :: xs, y :: ys, u, v, l, h => by
    rw [List.cons_lt_cons_iff] at h
    simp only [List.cons_append]
    rw [List.cons_lt_cons_iff]
    rcases h with h | ⟨e, h⟩
    · exact .inl h
    · exact .inr ⟨e, lt_append xs ys u v (by simpa using l) h⟩
theorem lt_tail : ∀ (xs : List (List Nat)) (a c : List Nat), a < c → xs ++ [a] < xs ++ [c]
  | [], a, c, h => by
    show [a] < [c]
    rw [List.cons_lt_cons_iff]
    exact .inl h
  | x :: xs, a, c, h => by
    simp only [List.cons_append]
    rw [List.cons_lt_cons_iff]
    exact .inr ⟨rfl, lt_tail xs a c h⟩
/-- all rows have so many places, and rise -/
structure Rise (n : Nat) (fd : List Row) : Prop where
  len : ∀ r ∈ fd, r.length = n
  up : fd.Pairwise fun r r' => keyN r < keyN r'
theorem cps_pos {h : Str} (hn : h ≠ "") : ([] : List Nat) < h.cps.toList := by
  cases e : h.cps.toList with
  | nil => exact absurd (PySem.W.str_of_cps (x := h) (y := "") (by rw [e]; rfl)) hn
  | cons a l => exact List.nil_lt_cons a l
theorem nexts_rise {hs : List Str} (hr : hs.Pairwise fun a c => ltS a c = true) (hn : ∀ h ∈ hs, h ≠ "") (row : Row) : (nexts hs row).Pairwise fun o o' => cpsO o < cpsO o' := by
  unfold nexts
  rw [List.pairwise_cons]
  refine ⟨fun o ho => ?_, ?_⟩
  · obtain ⟨h, hh, rfl⟩ := List.mem_map.mp ho
    exact cps_pos (hn h (List.mem_filter.mp hh).1)
  · rw [List.pairwise_map]
    exact (hr.filter _).imp fun {a c} h => by simpa [ltS, cpsO, keyO] using h
theorem grow_rise {n : Nat} {hs : List Str} {fd : List Row} (hr : hs.Pairwise fun a c => ltS a c = true) (hn : ∀ h ∈ hs, h ≠ "") (R : Rise n fd) : Rise (n + 1) (grow hs fd) := by
  refine ⟨fun r hr => ?_, ?_⟩
  · obtain ⟨row, h1, h2⟩ := List.mem_flatMap.mp hr
    obtain ⟨o, _, rfl⟩ := List.mem_map.mp h2
    simp [R.len row h1]
  · unfold grow
    rw [List.pairwise_flatMap]
    refine ⟨fun row _ => ?_, ?_⟩
    · unfold growR
      rw [List.pairwise_map]
      refine (nexts_rise hr hn row).imp fun {o o'} h => ?_
      simp only [keyN, List.map_append, List.map_cons, List.map_nil]
      exact lt_tail _ _ _ h
    · refine R.up.imp_of_mem fun {r r'} m m' h x hx y hy => ?_
      obtain ⟨o, _, rfl⟩ := List.mem_map.mp hx
      obtain ⟨o', _, rfl⟩ := List.mem_map.mp hy
      simp only [keyN, List.map_append]
      exact lt_append _ _ _ _ (by simp [R.len r m, R.len r' m']) h
theorem standAll_rise {hm : Str → List Str} : ∀ (ps : List Str) {n : Nat} {fd : List Row}, (∀ p ∈ ps, ((hm p).Pairwise fun a c => ltS a c = true) ∧ ∀ h ∈ hm p, h ≠ "") → Rise n fd → Rise (n + ps.length) (standAll hm ps fd)
  | [], n, fd, _, R => R
  | p :: ps, n, fd, h, R => by
    have := standAll_rise ps (fun q hq => h q (List.mem_cons_of_mem _ hq)) (grow_rise (h p List.mem_cons_self).1 (h p List.mem_cons_self).2 R)
    simp only [standAll, List.foldl_cons, List.length_cons] at this ⊢
    rw [show n + (ps.length + 1) = n + 1 + ps.length by omega]
    exact this
theorem grow_mem {hs : List Str} {fd : List Row} {P : Str → Prop} (h : ∀ x ∈ hs, P x) (hf : ∀ r ∈ fd, ∀ s, some s ∈ r → P s) : ∀ r ∈ grow hs fd, ∀ s, some s ∈ r → P s := fun r hr s hs => by
  obtain ⟨row, h1, h2⟩ := List.mem_flatMap.mp hr
  obtain ⟨o, ho, rfl⟩ := List.mem_map.mp h2
  rcases List.mem_append.mp hs with z | z
  · exact hf row h1 s z
  · rw [List.mem_singleton] at z
    subst z
    unfold nexts at ho
    rcases List.mem_cons.mp ho with z | z
    · cases z
    · obtain ⟨g, hg, e⟩ := List.mem_map.mp z
      cases e
      exact h _ (List.mem_filter.mp hg).1
theorem standAll_mem {hm : Str → List Str} {P : Str → Prop} : ∀ (ps : List Str) (fd : List Row), (∀ p ∈ ps, ∀ h ∈ hm p, P h) → (∀ r ∈ fd, ∀ s, some s ∈ r → P s) → ∀ r ∈ standAll hm ps fd, ∀ s, some s ∈ r → P s
  | [], _, _, hf => hf
  | p :: ps, fd, h, hf => by
    simp only [standAll, List.foldl_cons]
    exact standAll_mem ps _ (fun q hq => h q (List.mem_cons_of_mem _ hq)) (grow_mem (h p List.mem_cons_self) hf)
theorem standAll_len {hm : Str → List Str} (k : Nat) : ∀ (ps : List Str) (fd : List Row), (∀ p ∈ ps, (hm p).length ≤ k) → (standAll hm ps fd).length ≤ (k + 1) ^ ps.length * fd.length
  | [], fd, _ => by simp [standAll]
  | p :: ps, fd, h => by
    have ih := standAll_len k ps (grow (hm p) fd) fun q hq => h q (List.mem_cons_of_mem _ hq)
    have g := grow_len (hm p) k (h p List.mem_cons_self) fd
    simp only [standAll, List.foldl_cons, List.length_cons] at ih ⊢
    refine Nat.le_trans ih (Nat.le_trans (Nat.mul_le_mul_left _ g) ?_)
    rw [Nat.pow_succ, Nat.mul_assoc]
    exact Nat.le_refl _
theorem keyN_inj {r r' : Row} (h : ∀ s, some s ∈ r → s ≠ "") (h' : ∀ s, some s ∈ r' → s ≠ "") (e : keyN r = keyN r') : r = r' := by
  induction r generalizing r' with
  | nil =>
    cases r' with
    | nil => rfl
    | cons => simp [keyN] at e
  | cons o r ih =>
    cases r' with
    | nil => simp [keyN] at e
    | cons o' r' =>
      simp only [keyN, List.map_cons, List.cons.injEq] at e
      have t := ih (fun s hs => h s (List.mem_cons_of_mem _ hs)) (fun s hs => h' s (List.mem_cons_of_mem _ hs)) e.2
      have k := PySem.W.str_of_cps e.1
      have oo : o = o' := by
        cases o with
        | none =>
          cases o' with
          | none => rfl
          | some s => exact absurd k.symm (h' s List.mem_cons_self)
        | some s =>
          cases o' with
          | none => exact absurd k (h s List.mem_cons_self)
          | some s' => exact congrArg some k
      rw [oo, t]
theorem rowLe_trans (a b c : Row) (h : rowLe a b = true) (h' : rowLe b c = true) : rowLe a c = true := by
  simp only [rowLe, Bool.not_eq_true', decide_eq_false_iff_not] at h h' ⊢
  exact List.le_trans (List.not_lt.mp h) (List.not_lt.mp h')
theorem rowLe_total (a b : Row) : (rowLe a b || rowLe b a) = true := by
  simp only [rowLe, Bool.or_eq_true, Bool.not_eq_true', decide_eq_false_iff_not]
  exact (List.le_total (keyN a) (keyN b)).imp id id
theorem rowLe_anti {r r' : Row} (h : ∀ s, some s ∈ r → s ≠ "") (h' : ∀ s, some s ∈ r' → s ≠ "") (a : rowLe r r' = true) (b : rowLe r' r = true) : r = r' := by
  simp only [rowLe, Bool.not_eq_true', decide_eq_false_iff_not] at a b
  exact keyN_inj h h' (List.le_antisymm (List.not_lt.mp a) (List.not_lt.mp b))
/-- sorting what is found in any order of homes gives what is found in the rising order -/
theorem stands_eq {hm hm' : Str → List Str} (ps : List Str) (hp : ∀ p ∈ ps, (hm p).Perm (hm' p)) (hr : ∀ p ∈ ps, ((hm' p).Pairwise fun a c => ltS a c = true) ∧ ∀ h ∈ hm' p, h ≠ "") : (standAll hm ps [[]]).mergeSort rowLe = standAll hm' ps [[]] := by
  have R := standAll_rise (hm := hm') ps (n := 0) (fd := [[]]) hr ⟨by simp, by simp⟩
  have nz : ∀ r ∈ standAll hm' ps [[]], ∀ s, some s ∈ r → s ≠ "" := standAll_mem ps _ (fun p hp => (hr p hp).2) (by simp)
  have pm := standAll_perm ps [[]] [[]] hp (.refl _)
  refine List.Perm.eq_of_pairwise (le := fun a c => rowLe a c = true) (fun r r' m m' a b => rowLe_anti (nz r (pm.subset (List.mem_mergeSort.mp m))) (nz r' m') a b) (List.pairwise_mergeSort rowLe_trans rowLe_total _) (R.up.imp fun {a c} h => ?_) ((List.mergeSort_perm _ _).trans pm)
  simp only [rowLe, Bool.not_eq_true', decide_eq_false_iff_not]
  exact fun z => List.lt_irrefl _ (List.lt_trans h z)
/-! texts -/
theorem leS_trans (a b c : Str) (h : leS a b = true) (h' : leS b c = true) : leS a c = true := by
  simp only [leS, ltS, Bool.not_eq_true', decide_eq_false_iff_not] at h h' ⊢
  exact List.le_trans (List.not_lt.mp h) (List.not_lt.mp h')
theorem leS_total (a b : Str) : (leS a b || leS b a) = true := by
  simp only [leS, ltS, Bool.or_eq_true, Bool.not_eq_true', decide_eq_false_iff_not]
  exact (List.le_total a.cps.toList b.cps.toList).imp id id
theorem sortS_rise {hs : List Str} (nd : hs.Nodup) : (hs.mergeSort leS).Pairwise fun a c => ltS a c = true := by
  have p := List.pairwise_mergeSort leS_trans leS_total hs
  have nd2 : (hs.mergeSort leS).Nodup := (List.mergeSort_perm hs leS).symm.nodup nd
  refine (p.and nd2).imp fun {a c} h => ?_
  obtain ⟨h1, h2⟩ := h
  simp only [leS, ltS, Bool.not_eq_true', decide_eq_false_iff_not] at h1 ⊢
  simp only [decide_eq_true_eq]
  by_cases z : a.cps.toList < c.cps.toList
  · exact z
  · exact absurd (PySem.W.str_of_cps (List.le_antisymm (List.not_lt.mp h1) (List.not_lt.mp z))) h2
end W
namespace W
open PySem L2 DL
local macro_rules | `(tactic| decreasing_trivial) => `(tactic| first
  | ((with_reducible apply ex_own); (· (exact rfl)))
  | ((with_reducible apply ex_r); (· (exact rfl)))
  | ((with_reducible apply Ev.ex); (· (decreasing_trivial)))
  | ((with_reducible apply ev_var); (· (exact rfl)))
  | with_reducible exact ev_c
  | ((with_reducible apply ex_op); (· (decreasing_trivial)); (· (decreasing_trivial)); (· (get_elem_tactic_extensible)))
  | ((with_reducible apply ex_call); (· (decreasing_trivial)); (· (exact rfl)); (· (get_elem_tactic_extensible)))
  | ((with_reducible apply ev_tup); (· (decreasing_trivial)); (· (get_elem_tactic_extensible)))
  | ((with_reducible apply ev_F); (· (decreasing_trivial)))
  | ((with_reducible apply ex_b1); (· (decreasing_trivial)); (· (get_elem_tactic_extensible)))
  | ((with_reducible apply ex_isi); (· (decreasing_trivial)); (· (get_elem_tactic_extensible)))
  | ((with_reducible apply ev_isN); (· (decreasing_trivial)))
  | ((with_reducible apply ev_isnN); (· (decreasing_trivial)))
  | ((with_reducible apply ev_and); (· (decreasing_trivial)); (· (intro _; decreasing_trivial)))
  | ((with_reducible apply ev_or); (· (decreasing_trivial)); (· (intro _; decreasing_trivial)))
  | ((with_reducible apply ev_not); (· (decreasing_trivial)); (· (get_elem_tactic_extensible)))
  | ((with_reducible apply ev_ite); (· (decreasing_trivial)); (· (intro _; decreasing_trivial)); (· (intro _; decreasing_trivial)))
  | ((with_reducible apply ex_M); (· (decreasing_trivial)); (· (exact rfl)); (· (decreasing_trivial)); (· (get_elem_tactic_extensible)))
  | ((with_reducible apply ex_dget); (· (decreasing_trivial)); (· (get_elem_tactic_extensible)); (· (get_elem_tactic_extensible)); (· (get_elem_tactic_extensible)); (· (decreasing_trivial)); (· (get_elem_tactic_extensible)))
  | ((with_reducible apply ev_mget); (· (exact rfl)); (· (decreasing_trivial)); (· (get_elem_tactic_extensible)))
  | ((with_reducible apply ev_mgt); (· (exact rfl)); (· (decreasing_trivial)))
  | ((with_reducible apply ev_min); (· (exact rfl)); (· (decreasing_trivial)))
  | ((with_reducible apply ev_memp); (· (exact rfl)))
  | ((with_reducible apply ex_lenZ); (· (decreasing_trivial)); (· (get_elem_tactic_extensible)))
  | ((with_reducible apply ex_sl); (· (decreasing_trivial)); (· (decreasing_trivial)); (· (decreasing_trivial)); (· (get_elem_tactic_extensible)))
  | ((with_reducible apply ev_ch); (· (decreasing_trivial)); (· (decreasing_trivial)); (· (decreasing_trivial)); (· (get_elem_tactic_extensible)); (· (get_elem_tactic_extensible)))
  | ((with_reducible apply ev_heard); (· (decreasing_trivial)); (· (get_elem_tactic_extensible)))
  | ((with_reducible apply er_call); (· (decreasing_trivial)); (· (exact rfl)); (· (get_elem_tactic_extensible)))
  | ((with_reducible apply et_toT); (· (decreasing_trivial)))
  | ((with_reducible apply et_trux); (· (decreasing_trivial)); (· (get_elem_tactic_extensible)))
  | ((with_reducible apply et_not); (· (decreasing_trivial)))
  | ((with_reducible apply et_and); (· (decreasing_trivial)); (· (intro _; decreasing_trivial)))
  | ((with_reducible apply et_or); (· (decreasing_trivial)); (· (intro _; decreasing_trivial)))
  | with_reducible exact ea_nil
  | ((with_reducible apply ea_cons); (· (decreasing_trivial)); (· (decreasing_trivial)))
  | with_reducible exact eax_nil
  | ((with_reducible apply eax_cons); (· (decreasing_trivial)); (· (decreasing_trivial)))
  | ((with_reducible apply eax_app); (· (decreasing_trivial)); (· (decreasing_trivial)))
  | ((with_reducible apply ea_app); (· (decreasing_trivial)); (· (decreasing_trivial)))
  | ((with_reducible apply ef_lst); (· (decreasing_trivial)); (· (get_elem_tactic_extensible)))
  | ((with_reducible apply ef_lcmT); (· (decreasing_trivial)); (· (get_elem_tactic_extensible)); (· (exact rfl)); (· (get_elem_tactic_extensible)); (· (intro _ _; decreasing_trivial)))
  | ((with_reducible apply ef_lcT); (· (decreasing_trivial)); (· (get_elem_tactic_extensible)); (· (exact rfl)); (· (get_elem_tactic_extensible)); (· (intro _ _; decreasing_trivial)); (· (intro _ _ _; decreasing_trivial)))
  | ((with_reducible apply ef_lc2mT); (· (decreasing_trivial)); (· (first | exact Or.inl fun _ => rfl | exact Or.inr fun _ => rfl)); (· (decide)); (· (get_elem_tactic_extensible)); (· (get_elem_tactic_extensible)); (· (exact rfl)); (· (get_elem_tactic_extensible)); (· (intro _ _; decreasing_trivial)))
  | ((with_reducible apply ef_lc2T); (· (decreasing_trivial)); (· (first | exact Or.inl fun _ => rfl | exact Or.inr fun _ => rfl)); (· (decide)); (· (get_elem_tactic_extensible)); (· (get_elem_tactic_extensible)); (· (exact rfl)); (· (get_elem_tactic_extensible)); (· (intro _ _; decreasing_trivial)); (· (intro _ _ _; decreasing_trivial)))
  | ((with_reducible apply ex_fB); (· (decreasing_trivial)); (· (get_elem_tactic_extensible)))
  | ((with_reducible apply ei_seqT); (· (decreasing_trivial)); (· (get_elem_tactic_extensible)))
  | ((with_reducible apply ei_zipT); (· (decreasing_trivial)); (· (decreasing_trivial)); (· (get_elem_tactic_extensible)); (· (get_elem_tactic_extensible)))
  | ((with_reducible apply ei_enum); (· (decreasing_trivial)); (· (get_elem_tactic_extensible)))
  | with_reducible exact o_none
  | ((with_reducible apply o_some); (· (decreasing_trivial)))
  | ((with_reducible apply exx_E); (· (decreasing_trivial)); (· (decreasing_trivial)))
  | ((with_reducible apply exx_F); (· (decreasing_trivial)); (· (decreasing_trivial)))
  | ((with_reducible apply exx_M); (· (decreasing_trivial)); (· (decreasing_trivial)))
  | with_reducible exact exx_nil
  | ((with_reducible apply em_dict); (· (decreasing_trivial)); (· (get_elem_tactic_extensible)); (· (get_elem_tactic_extensible)); (· (get_elem_tactic_extensible))))
local macro_rules | `(tactic| get_elem_tactic_extensible) => `(tactic| first
  | assumption
  | ((with_reducible apply k_idx0); (· (exact rfl)))
  | ((with_reducible apply k_idx1); (· (exact rfl)))
  | ((with_reducible apply k_inT); (· (exact rfl)))
  | ((with_reducible apply k_inL); (· (exact rfl)))
  | ((with_reducible apply k_inO); (· (exact rfl)))
  | ((with_reducible apply k_ninT); (· (exact rfl)))
  | ((with_reducible apply k_ninL); (· (exact rfl)))
  | ((with_reducible apply k_ninO); (· (exact rfl)))
  | with_reducible exact eq_int _ _
  | with_reducible exact ne_int _ _
  | with_reducible exact lt_int _ _
  | with_reducible exact gt_int _ _
  | with_reducible exact k_eqS _ _
  | with_reducible exact k_neS _ _
  | with_reducible exact eq_stand _ _
  | with_reducible exact ne_stand _ _
  | with_reducible exact len_encT _
  | with_reducible exact len_encS _
  | ((with_reducible apply k_lenL); (· (exact rfl)))
  | ((with_reducible apply k_lenT); (· (exact rfl)))
  | with_reducible exact allD_map _ _
  | with_reducible exact anyD_map _ _
  | with_reducible exact isD_tup _
  | with_reducible exact isD_str _
  | with_reducible exact isD_bool _
  | with_reducible exact dict_encT _
  | ((with_reducible apply lkp_kvT); (· (assumption)))
  | ((with_reducible apply k_nd); (· (first | exact Bk.Ok.nr (by assumption) | exact Bk.Ok.nl (by assumption))))
  | ((with_reducible apply k_kvz); (· (first | exact Bk.Ok.lr (by assumption) | exact Bk.Ok.ll (by assumption))))
  | ((with_reducible apply k_tup); (· (exact rfl)))
  | ((with_reducible apply k_tru); (· (exact rfl)))
  | ((with_reducible apply k_seqT); (· (exact rfl)))
  | ((with_reducible apply k_seqL); (· (exact rfl)))
  | (show _ < List.length _; exact Nat.le_of_ble_eq_true rfl)
  | (show _ ≤ sizeLine; simp [sizeL]; done)
  | (show _ ≤ sizeLine; rw [sizeL]; (try simp only [List.length_map, List.length_cons, List.length_nil]); omega)
  | ((with_reducible apply ba_cons); (· (get_elem_tactic_extensible)); (· (get_elem_tactic_extensible)))
  | ((with_reducible apply ba_list); (· (get_elem_tactic_extensible)); (· (get_elem_tactic_extensible)))
  | with_reducible exact ba_nil
  | with_reducible exact imm_enc _
  | with_reducible exact imm_encS _
  | with_reducible exact imm_encO _
  | with_reducible exact imm_strs _
  | with_reducible exact immL_strs _
  | (show imm _ = true; rfl))

/-! ### keys -/
theorem ev_orO {ρ : Rho} {f : FE} {o : Option Str} (hf : Ev f ρ (encO o)) (hz : ∀ s, o = some s → s.length ≤ 1000) : Ev (orE f (eC (.str ""))) ρ (.str (keyO o)) := by
  unfold Ev orE
  rw [show f ρ = some (.d (encO o), ρ) from hf]
  cases o with
  | none => rfl
  | some s =>
    have := hz s rfl
    simp only [Option.bind_some, rdo, encO, truD]
    rw [if_pos (by rw [sizeL]; omega)]
    by_cases e : (s.length : Int) = 0
    · have e2 : s = "" := PySem.W.str_of_cps (by
        have : s.cps.toList.length = 0 := by
          have : s.length = s.cps.toList.length := by simp [Str.length]
          omega
        rw [List.eq_nil_of_length_eq_zero this]
        rfl)
      simp [e, keyO, eC, e2]
    · have : ((s.length : Int) != 0) = true := by simpa using e
      simp [this, keyO]
theorem key_eq (row : Row) (hl : row.length ≤ 1000) (hz : ∀ s, some s ∈ row → s.length ≤ 1000) : m_key_of [encS row] = some (.list (row.map fun o => .str (keyO o))) := by
  refine runB_ex (by get_elem_tactic_extensible) ⟨_, es_ret (ev_F (ef_lcmT (e := encO) (by decreasing_trivial) (by get_elem_tactic_extensible) rfl (by get_elem_tactic_extensible) fun o ho => ev_orO (by decreasing_trivial) fun s e => hz s (by rw [← e]; exact ho)))⟩
/-! ### all standings -/
theorem es_ext {ρ : Rho} {f : FE} {i : Nat} {xs zs : List D} (hi : ρ[i]? = some (some (.l xs))) (hf : Ev f ρ (.list zs)) (hz : xs.length + zs.length ≤ sizeLine) : sExt i f ρ = some (.next (ρ.set i (some (.l (xs ++ zs))))) := by
  have hm : ownAt i ρ = some xs := by
    unfold ownAt
    rw [hi]
  unfold sExt
  rw [hm, show f ρ = some (.d (.list zs), ρ) from hf]
  simp [hm, hz]
theorem es_move {ρ : Rho} {i j : Nat} {xs : List D} (hi : ρ[i]? = some (some (.l xs))) (hj : j < ρ.length) : sAsg (eVar i) (put j) ρ = some (.next ((ρ.set i (some (.d (.list xs)))).set j (some (.d (.list xs))))) := by
  unfold sAsg eVar
  simp only [hi, Option.bind_some, out1, rel]
  simp [put, hj]
theorem add_none (ss : List Str) (h : ss.length ≤ 1000) : addD (.list [.none]) (.list (ss.map .str)) = some (.list ((none :: ss.map some).map encO)) := by
  have := add_list [.none] (ss.map .str) (by simp; omega)
  rw [this]
  simp [encO]
theorem add_row (row : Row) (o : Option Str) (h : row.length ≤ 1000) : addD (encS row) (.tuple [encO o]) = some (encS (row ++ [o])) := by
  have := add_tup (row.map encO) [encO o] (by simp; omega)
  unfold encS
  rw [this]
  simp
/-- one row of what is found, made longer: the house's slot k, the row's slot r, what is free in slot f, the new ones in slot m -/
theorem row_lc {ρ : Rho} {k r f : Nat} {row : Row} {free : List Str} (hf : ρ[f]? = some (some (.l (free.map .str)))) (hr : ρ[r]? = some (some (.d (encS row)))) (hk : k < ρ.length) (hkr : k ≠ r) (hok : okW ρ [k] = true) (hl : row.length ≤ 1000) (hz : free.length ≤ 1000) :
    Ef (fLc (iSeq (e2 (op2 addD) (ofF (fLst (aCons (eC .none) aNil))) (eVar f))) (put k) tYesT (e2 (op2 addD) (eVar r) (eTup (aCons (eVar k) aNil))) [k]) ρ ((none :: free.map some).map fun o => encS (row ++ [o])) := by
  refine ef_lcmT (e := encO) (ei_seqT (ex_op (Ev.ex (ev_F (ef_lst (ea_cons ev_c ea_nil) (by simp [sizeL])))) (ex_own hf) (add_none free hz)) rfl) hk hok (by simp [sizeL]; omega) fun o _ => ?_
  exact ev_op (ev_var (by rw [List.getElem?_set_ne hkr]; exact hr)) (ev_tup (ea_cons (ev_var (by rw [List.getElem?_set_self hk])) ea_nil) (by simp [sizeL])) (add_row row o hl)
abbrev stR (b : Bk) (fd : List Row) (p : Str) (acc : List Row) (x4 x5 : Option B) : Rho := [some (.d b.enc), some (.d (.list (fd.map encS))), some (.d (.str p)), some (.l (acc.map encS)), x4, x5, none]
abbrev stB : FS := sSeq (sOwn 5 (fLc (iSeq (eCall 2 m_homes_of (aCons (eVar 0) (aCons (eVar 2) aNil)))) (put 6) (toT (e2 (op2 ninD) (eVar 6) (eVar 4))) (eVar 6) [6])) (sExt 3 (ofF (fLc (iSeq (e2 (op2 addD) (ofF (fLst (aCons (eC .none) aNil))) (eVar 5))) (put 6) tYesT (e2 (op2 addD) (eVar 4) (eTup (aCons (eVar 6) aNil))) [6])))
theorem st_loop (b : Bk) (ok : b.Ok) (fd : List Row) (p : Str) (hp : p ∈ b.people) : ∀ (l acc : List Row) (x4 x5 : Option B), (∀ r ∈ l, r.length ≤ 1000) → acc.length + (grow (b.homes p) l).length ≤ 100000 →
    ∃ y4 y5, forD (put 4) stB (l.map fun r => R.d (encS r)) (stR b fd p acc x4 x5) = some (.next (stR b fd p (acc ++ grow (b.homes p) l) y4 y5))
  | [], acc, x4, x5, _, _ => ⟨x4, x5, by simp [forD, grow]⟩
  | row :: l, acc, x4, x5, hl, hz => by
    have h1 := homes_eq b ok p hp
    have h2 := homes_len ok hp
    have lf : ((b.homes p).filter fun h => !decide (some h ∈ row)).length ≤ (b.homes p).length := List.length_filter_le _ _
    have e1 : Ef (fLc (iSeq (eCall 2 m_homes_of (aCons (eVar 0) (aCons (eVar 2) aNil)))) (put 6) (toT (e2 (op2 ninD) (eVar 6) (eVar 4))) (eVar 6) [6]) (stR b fd p acc (some (.d (encS row))) x5) (((b.homes p).filter fun h => !decide (some h ∈ row)).map .str) := by decreasing_trivial
    have gz : (grow (b.homes p) (row :: l)).length = (growR (b.homes p) row).length + (grow (b.homes p) l).length := by simp [grow]
    have ge : acc ++ grow (b.homes p) (row :: l) = acc ++ growR (b.homes p) row ++ grow (b.homes p) l := by simp [grow]
    obtain ⟨y4, y5, ih⟩ := st_loop b ok fd p hp l (acc ++ growR (b.homes p) row) (some (.d (encS row))) (some (.l (((b.homes p).filter fun h => !decide (some h ∈ row)).map .str))) (fun r hr => hl r (List.mem_cons_of_mem _ hr)) (by simp; omega)
    refine ⟨y4, y5, ?_⟩
    rw [List.map_cons, ge]
    refine (for_next (ρ1 := stR b fd p acc (some (.d (encS row))) x5) rfl (es_seq (es_own e1 (by get_elem_tactic_extensible)) (es_ext rfl (ev_F (row_lc rfl rfl (by get_elem_tactic_extensible) (by decide) rfl (hl row List.mem_cons_self) (by omega))) ?_))).trans ?_
    · simp only [List.length_map, List.length_cons]
      have := nexts_len (b.homes p) row
      have : (growR (b.homes p) row).length = (nexts (b.homes p) row).length := by simp [growR]
      simp only [nexts, List.length_cons, List.length_map] at this
      rw [sizeL]
      omega
    · have em : (acc.map encS) ++ ((none :: (((b.homes p).filter fun h => !decide (some h ∈ row)).map some)).map fun o => encS (row ++ [o])) = (acc ++ growR (b.homes p) row).map encS := by simp [growR, nexts]
      rw [em]
      exact ih
theorem st_outer (b : Bk) (ok : b.Ok) : ∀ (ps : List Str) (fd : List Row) (x2 x3 x4 x5 : Option B), (∀ p ∈ ps, p ∈ b.people) → (∀ r ∈ fd, r.length + ps.length ≤ 1000) → 6 ^ ps.length * fd.length ≤ 100000 →
    ∃ y2 y3 y4 y5, forD (put 2) (sSeq (sOwn 3 (fLst aNil)) (sSeq (sFor (iSeq (eVar 1)) (put 4) stB) (sAsg (eVar 3) (put 1)))) (ps.map fun p => R.d (.str p)) [some (.d b.enc), some (.d (.list (fd.map encS))), x2, x3, x4, x5, none] = some (.next [some (.d b.enc), some (.d (.list ((standAll b.homes ps fd).map encS))), y2, y3, y4, y5, none])
  | [], fd, x2, x3, x4, x5, _, _, _ => ⟨x2, x3, x4, x5, rfl⟩
  | p :: ps, fd, x2, x3, x4, x5, hp, hl, hz => by
    have pm := hp p List.mem_cons_self
    have gl := grow_len (b.homes p) 5 (homes_len ok pm) fd
    have pz : 6 ^ ps.length * (grow (b.homes p) fd).length ≤ 100000 := by
      refine Nat.le_trans (Nat.mul_le_mul_left _ gl) ?_
      rw [← Nat.mul_assoc, ← Nat.pow_succ]
      exact hz
    have p1 : (grow (b.homes p) fd).length ≤ 100000 := by
      have : 1 ≤ 6 ^ ps.length := Nat.one_le_pow _ _ (by decide)
      exact Nat.le_trans (Nat.le_mul_of_pos_left _ this) pz
    obtain ⟨z4, z5, lo⟩ := st_loop b ok fd p pm fd [] x4 x5 (fun r hr => by have := hl r hr; omega) (by simpa using p1)
    rw [List.nil_append] at lo
    obtain ⟨y2, y3, y4, y5, ih⟩ := st_outer b ok ps (grow (b.homes p) fd) (some (.d (.str p))) (some (.d (.list ((grow (b.homes p) fd).map encS)))) z4 z5 (fun q hq => hp q (List.mem_cons_of_mem _ hq)) (fun r hr => by
      obtain ⟨row, h1, h2⟩ := List.mem_flatMap.mp hr
      obtain ⟨o, _, rfl⟩ := List.mem_map.mp h2
      have := hl row h1
      simp at this ⊢
      omega) pz
    refine ⟨y2, y3, y4, y5, ?_⟩
    rw [List.map_cons]
    have mv : sAsg (eVar 3) (put 1) (stR b fd p (grow (b.homes p) fd) z4 z5) = some (.next [some (.d b.enc), some (.d (.list ((grow (b.homes p) fd).map encS))), some (.d (.str p)), some (.d (.list ((grow (b.homes p) fd).map encS))), z4, z5, none]) := es_move rfl (by get_elem_tactic_extensible)
    have lf : sFor (iSeq (eVar 1)) (put 4) stB (stR b fd p [] x4 x5) = some (.next (stR b fd p (grow (b.homes p) fd) z4 z5)) := (es_for (ei_seqT (ev_var rfl) rfl)).trans lo
    exact (for_next (ρ1 := [some (.d b.enc), some (.d (.list (fd.map encS))), some (.d (.str p)), x3, x4, x5, none]) rfl (es_seq (ρ1 := stR b fd p [] x4 x5) (es_own (ef_lst ea_nil (by simp)) (by get_elem_tactic_extensible)) (es_seq lf mv))).trans ih
/-! sorted by keys -/
theorem lt_strs : ∀ (xs ys : List Str), PySem.W.rowLt (xs.map .str) (ys.map .str) = decide (xs.map (fun s => s.cps.toList) < ys.map fun s => s.cps.toList)
  | [], [] => by
    have e : PySem.W.rowLt [] [] = false := PyProof.Rows.lex_irrefl _
    simp [e]
  | [], y :: ys => by
    have e : PySem.W.rowLt [] (PyData.str y :: ys.map .str) = true := by
      unfold PySem.W.rowLt
      rw [PySem.W.toks_all_cons]
      simp only [PySem.W.keyToksAll]
      rw [PyProof.Rows.lex_diff (O := PyProof.Rows.itemOrd) (by simp)]
      rfl
    simpa using e
  | x :: xs, [] => by
    have e : PySem.W.rowLt (PyData.str x :: xs.map .str) [] = false := by
      unfold PySem.W.rowLt
      rw [PySem.W.toks_all_cons]
      simp only [PySem.W.keyToksAll]
      rw [PyProof.Rows.lex_diff (O := PyProof.Rows.itemOrd) (by simp)]
      rfl
    simpa using e
  | x :: xs, y :: ys => by
    have e : PySem.W.rowLt (PyData.str x :: xs.map .str) (PyData.str y :: ys.map .str) = if x = y then PySem.W.rowLt (xs.map .str) (ys.map .str) else ltS x y := by
      unfold PySem.W.rowLt
      rw [PySem.W.dataLt_cons (by simp [PySem.W.alike]), PySem.W.dataLt_str, eqv_str]
      simp [ltS]
    show PySem.W.rowLt (PyData.str x :: xs.map .str) (PyData.str y :: ys.map .str) = _
    rw [e]
    by_cases h : x = y
    · rw [if_pos h, lt_strs xs ys]
      subst h
      simp [List.cons_lt_cons_iff, List.lt_irrefl]
    · have h2 : ¬ x.cps.toList = y.cps.toList := fun z => h (PySem.W.str_of_cps z)
      rw [if_neg h]
      simp [List.cons_lt_cons_iff, h2, ltS]
theorem keysM_map {α : Type} {m : List D → Option D} {e k : α → D} : ∀ (l : List α), (∀ a ∈ l, m [e a] = some (k a)) → keysM m (l.map e) = some (l.map k)
  | [], _ => rfl
  | a :: l, h => by
    simp only [List.map_cons, keysM, h a List.mem_cons_self, Option.bind_some, keysM_map l fun c hc => h c (List.mem_cons_of_mem _ hc), Option.map_some]
theorem sort_rows (L : List Row) (hl : L.length ≤ 100000) (hr : ∀ r ∈ L, r.length ≤ 1000 ∧ ∀ s, some s ∈ r → s.length ≤ 1000) : sortKD m_key_of (.list (L.map encS)) = some ((L.mergeSort rowLe).map encS) := by
  simp only [sortKD]
  rw [keysM_map (k := fun r => .list (r.map fun o => .str (keyO o))) L fun r h => key_eq r (hr r h).1 (hr r h).2]
  have em : ∀ r : Row, (r.map fun o => PyData.str (keyO o)) = (r.map keyO).map .str := fun r => by simp
  have dz : ∀ l : List Row, PyData.depthAll (l.map fun r => PyData.list (r.map fun o => .str (keyO o))) ≤ 1 := fun l => by
    induction l with
    | nil => simp [PyData.depthAll]
    | cons r l ih =>
      have e0 : PyData.depthAll (r.map fun o => PyData.str (keyO o)) = 0 := by
        rw [em]
        exact depth_strs _
      simp only [List.map_cons, PyData.depthAll, PyData.depth, e0]
      omega
  have so : sortOk (L.map fun r => PyData.list (r.map fun o => .str (keyO o))) = true := by
    unfold sortOk
    simp only [Bool.and_eq_true, Bool.or_eq_true, List.all_eq_true, decide_eq_true_eq, List.length_map]
    refine ⟨⟨⟨fun x hx y hy => ?_, .inr fun x hx => ?_⟩, by have := dz L; omega⟩, by rw [sizeL]; omega⟩
    · obtain ⟨r, _, rfl⟩ := List.mem_map.mp hx
      obtain ⟨r', _, rfl⟩ := List.mem_map.mp hy
      simp only [PySem.W.alike, em]
      exact alike_strs _ _
    · obtain ⟨r, _, rfl⟩ := List.mem_map.mp hx
      rfl
  simp only [Option.bind_some]
  rw [if_pos so]
  congr 1
  unfold sortBy
  have ez : ((L.map encS).zip (L.map fun r => PyData.list (r.map fun o => .str (keyO o)))) = L.map fun r => (encS r, PyData.list (r.map fun o => .str (keyO o))) := by
    clear hl hr so dz
    induction L with
    | nil => rfl
    | cons r L ih => simp [ih]
  rw [ez, ← List.map_mergeSort (r := rowLe) (fun r _ r' _ => ?_), List.map_map]
  · rfl
  · rw [PySem.W.dataLe_eq]
    simp only [cond_false]
    show _ = !PySem.W.dataLt (PyData.list (r'.map fun o => .str (keyO o))) (PyData.list (r.map fun o => .str (keyO o)))
    rw [PySem.W.dataLt_list, em, em]
    show _ = !PySem.W.rowLt _ _
    rw [lt_strs]
    simp [rowLe, keyN, cpsO, List.map_map, Function.comp_def]
    rfl
def Bk.stands (b : Bk) : List Row := (standAll b.homes b.people [[]]).mergeSort rowLe
theorem stands_len {b : Bk} (ok : b.Ok) : (standAll b.homes b.people [[]]).length ≤ 7776 := by
  have this : (standAll b.homes b.people [[]]).length ≤ 6 ^ b.people.length * 1 := standAll_len (hm := b.homes) 5 b.people [[]] fun p hp => homes_len ok hp
  have lp : b.people.length ≤ 5 := by simpa [Bk.people] using ok.ll
  have q := Nat.pow_le_pow_right (n := 6) (by decide) lp
  omega
theorem standAll_places {hm : Str → List Str} : ∀ (ps : List Str) {n : Nat} {fd : List Row}, (∀ r ∈ fd, r.length = n) → ∀ r ∈ standAll hm ps fd, r.length = n + ps.length
  | [], n, fd, h => h
  | p :: ps, n, fd, h => by
    have := standAll_places (hm := hm) ps (n := n + 1) (fd := grow (hm p) fd) fun r hr => by
      obtain ⟨row, h1, h2⟩ := List.mem_flatMap.mp hr
      obtain ⟨o, _, rfl⟩ := List.mem_map.mp h2
      simp [h row h1]
    simp only [standAll, List.foldl_cons, List.length_cons] at this ⊢
    rw [show n + (ps.length + 1) = n + 1 + ps.length by omega]
    exact this
theorem standings_eq {b : Bk} (ok : b.Ok) (nm : ∀ s ∈ b.houses, s.length ≤ 500) : m_standings [b.enc] = some (.tuple (b.stands.map encS)) := by
  have lp : b.people.length ≤ 5 := by simpa [Bk.people] using ok.ll
  obtain ⟨y2, y3, y4, y5, lo⟩ := st_outer b ok b.people [[]] none none none none (fun p hp => hp) (by simp; omega) (by
    have q := Nat.pow_le_pow_right (n := 6) (by decide) lp
    simp only [List.length_cons, List.length_nil]
    omega)
  have sl := stands_len ok
  have pl := standAll_places (hm := b.homes) b.people (n := 0) (fd := [[]]) (by simp)
  have ns := standAll_mem (hm := b.homes) (P := fun s => s.length ≤ 1000) b.people [[]] (fun p hp h hh => Nat.le_trans (nm h (homes_house ok hp hh)) (by decide)) (by simp)
  have sr := sort_rows (standAll b.homes b.people [[]]) (by omega) fun r hr => ⟨by have := pl r hr; omega, ns r hr⟩
  have h1 := people_eq b ok.ll
  have im : imm (.tuple (b.stands.map encS)) = true := by
    simp only [imm]
    exact immL_map (fun r => imm_encS r) _
  refine runA_ex ⟨_, es_seq (es_set (v := .list [encS []]) (ev_F (ef_lst (ea_cons (ev_tup ea_nil (by simp)) ea_nil) (by simp [sizeL]))) (by get_elem_tactic_extensible)) (es_seq ((es_for (rs := b.people.map fun p => R.d (.str p)) (ei_seqT (by decreasing_trivial) rfl)).trans lo) (es_ret (ex_b1 (Ev.ex (ev_F (ex_fB (Ev.ex (ev_var rfl)) sr))) rfl)))⟩ im
end W
namespace W
open PySem L2 DL
local macro_rules | `(tactic| decreasing_trivial) => `(tactic| first
  | ((with_reducible apply ex_own); (· (exact rfl)))
  | ((with_reducible apply ex_r); (· (exact rfl)))
  | ((with_reducible apply Ev.ex); (· (decreasing_trivial)))
  | ((with_reducible apply ev_var); (· (exact rfl)))
  | with_reducible exact ev_c
  | ((with_reducible apply ex_op); (· (decreasing_trivial)); (· (decreasing_trivial)); (· (get_elem_tactic_extensible)))
  | ((with_reducible apply ex_call); (· (decreasing_trivial)); (· (exact rfl)); (· (get_elem_tactic_extensible)))
  | ((with_reducible apply ev_tup); (· (decreasing_trivial)); (· (get_elem_tactic_extensible)))
  | ((with_reducible apply ev_F); (· (decreasing_trivial)))
  | ((with_reducible apply ex_b1); (· (decreasing_trivial)); (· (get_elem_tactic_extensible)))
  | ((with_reducible apply ex_isi); (· (decreasing_trivial)); (· (get_elem_tactic_extensible)))
  | ((with_reducible apply ev_isN); (· (decreasing_trivial)))
  | ((with_reducible apply ev_isnN); (· (decreasing_trivial)))
  | ((with_reducible apply ev_and); (· (decreasing_trivial)); (· (intro _; decreasing_trivial)))
  | ((with_reducible apply ev_or); (· (decreasing_trivial)); (· (intro _; decreasing_trivial)))
  | ((with_reducible apply ev_not); (· (decreasing_trivial)); (· (get_elem_tactic_extensible)))
  | ((with_reducible apply ev_ite); (· (decreasing_trivial)); (· (intro _; decreasing_trivial)); (· (intro _; decreasing_trivial)))
  | ((with_reducible apply ex_M); (· (decreasing_trivial)); (· (exact rfl)); (· (decreasing_trivial)); (· (get_elem_tactic_extensible)))
  | ((with_reducible apply ex_dget); (· (decreasing_trivial)); (· (get_elem_tactic_extensible)); (· (get_elem_tactic_extensible)); (· (get_elem_tactic_extensible)); (· (decreasing_trivial)); (· (get_elem_tactic_extensible)))
  | ((with_reducible apply ev_mget); (· (exact rfl)); (· (decreasing_trivial)); (· (get_elem_tactic_extensible)))
  | ((with_reducible apply ev_mgt); (· (exact rfl)); (· (decreasing_trivial)))
  | ((with_reducible apply ev_min); (· (exact rfl)); (· (decreasing_trivial)))
  | ((with_reducible apply ev_memp); (· (exact rfl)))
  | ((with_reducible apply ex_lenZ); (· (decreasing_trivial)); (· (get_elem_tactic_extensible)))
  | ((with_reducible apply ex_sl); (· (decreasing_trivial)); (· (decreasing_trivial)); (· (decreasing_trivial)); (· (get_elem_tactic_extensible)))
  | ((with_reducible apply ev_ch); (· (decreasing_trivial)); (· (decreasing_trivial)); (· (decreasing_trivial)); (· (get_elem_tactic_extensible)); (· (get_elem_tactic_extensible)))
  | ((with_reducible apply ev_heard); (· (decreasing_trivial)); (· (get_elem_tactic_extensible)))
  | ((with_reducible apply er_call); (· (decreasing_trivial)); (· (exact rfl)); (· (get_elem_tactic_extensible)))
  | ((with_reducible apply et_toT); (· (decreasing_trivial)))
  | ((with_reducible apply et_trux); (· (decreasing_trivial)); (· (get_elem_tactic_extensible)))
  | ((with_reducible apply et_not); (· (decreasing_trivial)))
  | ((with_reducible apply et_and); (· (decreasing_trivial)); (· (intro _; decreasing_trivial)))
  | ((with_reducible apply et_or); (· (decreasing_trivial)); (· (intro _; decreasing_trivial)))
  | with_reducible exact ea_nil
  | ((with_reducible apply ea_cons); (· (decreasing_trivial)); (· (decreasing_trivial)))
  | with_reducible exact eax_nil
  | ((with_reducible apply eax_cons); (· (decreasing_trivial)); (· (decreasing_trivial)))
  | ((with_reducible apply eax_app); (· (decreasing_trivial)); (· (decreasing_trivial)))
  | ((with_reducible apply ea_app); (· (decreasing_trivial)); (· (decreasing_trivial)))
  | ((with_reducible apply ef_lst); (· (decreasing_trivial)); (· (get_elem_tactic_extensible)))
  | ((with_reducible apply ef_lcmT); (· (decreasing_trivial)); (· (get_elem_tactic_extensible)); (· (exact rfl)); (· (get_elem_tactic_extensible)); (· (intro _ _; decreasing_trivial)))
  | ((with_reducible apply ef_lcT); (· (decreasing_trivial)); (· (get_elem_tactic_extensible)); (· (exact rfl)); (· (get_elem_tactic_extensible)); (· (intro _ _; decreasing_trivial)); (· (intro _ _ _; decreasing_trivial)))
  | ((with_reducible apply ef_lc2mT); (· (decreasing_trivial)); (· (first | exact Or.inl fun _ => rfl | exact Or.inr fun _ => rfl)); (· (decide)); (· (get_elem_tactic_extensible)); (· (get_elem_tactic_extensible)); (· (exact rfl)); (· (get_elem_tactic_extensible)); (· (intro _ _; decreasing_trivial)))
  | ((with_reducible apply ef_lc2T); (· (decreasing_trivial)); (· (first | exact Or.inl fun _ => rfl | exact Or.inr fun _ => rfl)); (· (decide)); (· (get_elem_tactic_extensible)); (· (get_elem_tactic_extensible)); (· (exact rfl)); (· (get_elem_tactic_extensible)); (· (intro _ _; decreasing_trivial)); (· (intro _ _ _; decreasing_trivial)))
  | ((with_reducible apply ex_fB); (· (decreasing_trivial)); (· (get_elem_tactic_extensible)))
  | ((with_reducible apply ei_seqT); (· (decreasing_trivial)); (· (get_elem_tactic_extensible)))
  | ((with_reducible apply ei_zipT); (· (decreasing_trivial)); (· (decreasing_trivial)); (· (get_elem_tactic_extensible)); (· (get_elem_tactic_extensible)))
  | ((with_reducible apply ei_enum); (· (decreasing_trivial)); (· (get_elem_tactic_extensible)))
  | with_reducible exact o_none
  | ((with_reducible apply o_some); (· (decreasing_trivial)))
  | ((with_reducible apply exx_E); (· (decreasing_trivial)); (· (decreasing_trivial)))
  | ((with_reducible apply exx_F); (· (decreasing_trivial)); (· (decreasing_trivial)))
  | ((with_reducible apply exx_M); (· (decreasing_trivial)); (· (decreasing_trivial)))
  | with_reducible exact exx_nil
  | ((with_reducible apply em_dict); (· (decreasing_trivial)); (· (get_elem_tactic_extensible)); (· (get_elem_tactic_extensible)); (· (get_elem_tactic_extensible))))
local macro_rules | `(tactic| get_elem_tactic_extensible) => `(tactic| first
  | assumption
  | ((with_reducible apply k_idx0); (· (exact rfl)))
  | ((with_reducible apply k_idx1); (· (exact rfl)))
  | ((with_reducible apply k_inT); (· (exact rfl)))
  | ((with_reducible apply k_inL); (· (exact rfl)))
  | ((with_reducible apply k_inO); (· (exact rfl)))
  | ((with_reducible apply k_ninT); (· (exact rfl)))
  | ((with_reducible apply k_ninL); (· (exact rfl)))
  | ((with_reducible apply k_ninO); (· (exact rfl)))
  | with_reducible exact eq_int _ _
  | with_reducible exact ne_int _ _
  | with_reducible exact lt_int _ _
  | with_reducible exact gt_int _ _
  | with_reducible exact k_eqS _ _
  | with_reducible exact k_neS _ _
  | with_reducible exact eq_stand _ _
  | with_reducible exact ne_stand _ _
  | with_reducible exact len_encT _
  | with_reducible exact len_encS _
  | ((with_reducible apply k_lenL); (· (exact rfl)))
  | ((with_reducible apply k_lenT); (· (exact rfl)))
  | with_reducible exact allD_map _ _
  | with_reducible exact anyD_map _ _
  | with_reducible exact isD_tup _
  | with_reducible exact isD_str _
  | with_reducible exact isD_bool _
  | with_reducible exact dict_encT _
  | ((with_reducible apply lkp_kvT); (· (assumption)))
  | ((with_reducible apply k_nd); (· (first | exact Bk.Ok.nr (by assumption) | exact Bk.Ok.nl (by assumption))))
  | ((with_reducible apply k_kvz); (· (first | exact Bk.Ok.lr (by assumption) | exact Bk.Ok.ll (by assumption))))
  | ((with_reducible apply k_tup); (· (exact rfl)))
  | ((with_reducible apply k_tru); (· (exact rfl)))
  | ((with_reducible apply k_seqT); (· (exact rfl)))
  | ((with_reducible apply k_seqL); (· (exact rfl)))
  | (show _ < List.length _; exact Nat.le_of_ble_eq_true rfl)
  | (show _ ≤ sizeLine; simp [sizeL]; done)
  | (show _ ≤ sizeLine; rw [sizeL]; (try simp only [List.length_map, List.length_cons, List.length_nil]); omega)
  | ((with_reducible apply ba_cons); (· (get_elem_tactic_extensible)); (· (get_elem_tactic_extensible)))
  | ((with_reducible apply ba_list); (· (get_elem_tactic_extensible)); (· (get_elem_tactic_extensible)))
  | with_reducible exact ba_nil
  | with_reducible exact imm_enc _
  | with_reducible exact imm_encS _
  | with_reducible exact imm_encO _
  | with_reducible exact imm_strs _
  | with_reducible exact immL_strs _
  | (show imm _ = true; rfl))

local macro_rules | `(tactic| get_elem_tactic_extensible) => `(tactic| with_reducible first | exact houses_eq _ (by assumption) | exact people_eq _ (Bk.Ok.ll (by assumption)) | exact look_h _ (by assumption) _ (by assumption) | exact look_hn _ (by assumption) _ (by assumption))
/-! ### likes_better -/
theorem look_p (b : Bk) (ok : b.Ok) (p : Str) (hp : p ∈ b.people) : x_look_person [b.enc, .str p] = some (.inl .none) := by
  refine runX_next (by get_elem_tactic_extensible) ⟨_, es_if (b := (!true || !decide (p ∈ b.people))) (by decreasing_trivial) (fun z => ?_) fun _ => rfl⟩
  simp [hp] at z
theorem look_pn (b : Bk) (ok : b.Ok) (p : Str) (hp : p ∉ b.people) : x_look_person [b.enc, .str p] = some (.inr ("NoPerson", none)) := by
  refine runX_exc (by get_elem_tactic_extensible) (es_if (b := (!true || !decide (p ∈ b.people))) (by decreasing_trivial) (fun _ => rfl) fun z => ?_)
  simp [hp] at z
theorem look_po (b : Bk) (ok : b.Ok) (d : D) (hi : imm d = true) (hd : isStr d = false) : x_look_person [b.enc, d] = some (.inr ("NoPerson", none)) := by
  have h0 : isD "str" d = some (.bool false) := by rw [isD_str, hd]
  refine runX_exc (by get_elem_tactic_extensible) (es_if (b := (!false || false)) (et_or (by decreasing_trivial) fun z => by cases z) (fun _ => rfl) fun z => by cases z)
theorem likesX {b : Bk} (ok : b.Ok) {p h : Str} {o : Option Str} (hp : p ∈ b.people) (hh : h ∈ b.houses) (ho : ∀ g, o = some g → g ∈ b.houses) : x_likes_better [b.enc, .str p, .str h, encO o] = some (.inl (.bool (better (lkT b.likes p) h o))) := by
  have h1 := look_p b ok p hp
  have h2 := look_h b ok h hh
  have h3 := better_eq b ok p hp h o
  cases o with
  | none => exact runX_ret (by get_elem_tactic_extensible) ⟨_, es_seq (es_exX (by decreasing_trivial)) (es_seq (es_exX (by decreasing_trivial)) (es_seq (es_if (b := false) (et_toT (ev_isnN (x := .none) (ev_var rfl))) (fun z => by cases z) fun _ => rfl) (es_ret (by decreasing_trivial))))⟩
  | some g =>
    have h4 := look_h b ok g (ho g rfl)
    exact runX_ret (by get_elem_tactic_extensible) ⟨_, es_seq (es_exX (by decreasing_trivial)) (es_seq (es_exX (by decreasing_trivial)) (es_seq (es_if (b := true) (et_toT (ev_isnN (x := .str g) (ev_var rfl))) (fun _ => es_exX (by
      show Er _ [some (.d b.enc), some (.d (.str p)), some (.d (.str h)), some (.d (.str g))] _
      decreasing_trivial)) fun z => by cases z) (es_ret (by decreasing_trivial))))⟩
theorem likesX_p {b : Bk} {x y z : D} {e : Str × Option Str} (h : x_look_person [b.enc, x] = some (.inr e)) (i1 : imm x = true) (i2 : imm y = true) (i3 : imm z = true) : x_likes_better [b.enc, x, y, z] = some (.inr e) := runX_exc (by get_elem_tactic_extensible) (es_exXx (by decreasing_trivial))
theorem likesX_h {b : Bk} {x y z : D} {e : Str × Option Str} (h0 : x_look_person [b.enc, x] = some (.inl .none)) (h : x_look_house [b.enc, y] = some (.inr e)) (i1 : imm x = true) (i2 : imm y = true) (i3 : imm z = true) : x_likes_better [b.enc, x, y, z] = some (.inr e) := runX_exc (by get_elem_tactic_extensible) (es_seq (es_exX (by decreasing_trivial)) (es_exXx (by decreasing_trivial)))
theorem likesX_o {b : Bk} {x y : D} {g : Str} {e : Str × Option Str} (h0 : x_look_person [b.enc, x] = some (.inl .none)) (h1 : x_look_house [b.enc, y] = some (.inl .none)) (h : x_look_house [b.enc, .str g] = some (.inr e)) (i1 : imm x = true) (i2 : imm y = true) : x_likes_better [b.enc, x, y, .str g] = some (.inr e) := by
  refine runX_exc (by get_elem_tactic_extensible) (es_seq (es_exX (by decreasing_trivial)) (es_seq (es_exX (by decreasing_trivial)) ?_))
  unfold sSeq
  rw [es_if (b := true) (o := some (.exc e)) (et_toT (ev_isnN (x := .str g) (ev_var rfl))) (fun _ => ?_) fun z => by cases z]
  · rfl
  · have : Er (cX 2 x_look_house (aCons (eVar 0) (aCons (eVar 3) aNil))) [some (.d b.enc), some (.d x), some (.d y), some (.d (.str g))] (.inr e) := by decreasing_trivial
    show sExX _ [some (.d b.enc), some (.d x), some (.d y), some (.d (.str g))] = _
    unfold sExX
    rw [show cX 2 x_look_house (aCons (eVar 0) (aCons (eVar 3) aNil)) [some (.d b.enc), some (.d x), some (.d y), some (.d (.str g))] = _ from this]
    rfl
/-! ### all standings, by hand -/
theorem sort_strs (hs : List Str) (hl : hs.length ≤ 1000) : sortD (.list (hs.map .str)) = some ((hs.mergeSort leS).map .str) := by
  have so : sortOk (hs.map PyData.str) = true := by
    unfold sortOk
    simp only [Bool.and_eq_true, Bool.or_eq_true, List.all_eq_true, decide_eq_true_eq, List.length_map]
    refine ⟨⟨⟨fun x hx y hy => ?_, .inr fun x hx => ?_⟩, by rw [depth_strs]; decide⟩, by rw [sizeL]; omega⟩
    · obtain ⟨r, _, rfl⟩ := List.mem_map.mp hx
      obtain ⟨r', _, rfl⟩ := List.mem_map.mp hy
      rfl
    · obtain ⟨r, _, rfl⟩ := List.mem_map.mp hx
      rfl
  simp only [sortD]
  rw [if_pos so]
  congr 1
  unfold sorts
  rw [← List.map_mergeSort (r := leS) fun a _ c _ => ?_]
  rw [PySem.W.dataLe_eq]
  simp only [cond_false, id]
  rw [PySem.W.dataLt_str]
  rfl
def Bk.sorted (b : Bk) (p : Str) : List Str := (b.homes p).mergeSort leS
abbrev laR (b : Bk) (fd : List Row) (p : Str) (x3 : Option B) (acc : List Row) (x5 x6 : Option B) : Rho := [some (.d b.enc), some (.d (.list (fd.map encS))), some (.d (.str p)), x3, some (.l (acc.map encS)), x5, x6, none]
abbrev laB : FS := sSeq (sOwn 6 (fLc (iSeq (ofF (fB sortD (eCall 2 m__law_homes (aCons (eVar 0) (aCons (eVar 2) aNil)))))) (put 7) (toT (e2 (op2 ninD) (eVar 7) (eVar 5))) (eVar 7) [7])) (sExt 4 (ofF (fLc (iSeq (e2 (op2 addD) (ofF (fLst (aCons (eC .none) aNil))) (eVar 6))) (put 7) tYesT (e2 (op2 addD) (eVar 5) (eTup (aCons (eVar 7) aNil))) [7])))
theorem sorted_len {b : Bk} (ok : b.Ok) {p : Str} (hp : p ∈ b.people) : (b.sorted p).length ≤ 5 := by
  unfold Bk.sorted
  rw [List.length_mergeSort]
  exact homes_len ok hp
theorem la_loop (b : Bk) (ok : b.Ok) (fd : List Row) (p : Str) (hp : p ∈ b.people) (x3 : Option B) : ∀ (l acc : List Row) (x5 x6 : Option B), (∀ r ∈ l, r.length ≤ 1000) → acc.length + (grow (b.sorted p) l).length ≤ 100000 →
    ∃ y5 y6, forD (put 5) laB (l.map fun r => R.d (encS r)) (laR b fd p x3 acc x5 x6) = some (.next (laR b fd p x3 (acc ++ grow (b.sorted p) l) y5 y6))
  | [], acc, x5, x6, _, _ => ⟨x5, x6, by simp [forD, grow]⟩
  | row :: l, acc, x5, x6, hl, hz => by
    have h1 := lhomes_eq b ok p hp
    have h2 := homes_len ok hp
    have h4 := sorted_len ok hp
    have h3 := sort_strs (b.homes p) (by omega)
    have lf : ((b.sorted p).filter fun h => !decide (some h ∈ row)).length ≤ (b.sorted p).length := List.length_filter_le _ _
    have e1 : Ef (fLc (iSeq (ofF (fB sortD (eCall 2 m__law_homes (aCons (eVar 0) (aCons (eVar 2) aNil)))))) (put 7) (toT (e2 (op2 ninD) (eVar 7) (eVar 5))) (eVar 7) [7]) (laR b fd p x3 acc (some (.d (encS row))) x6) (((b.sorted p).filter fun h => !decide (some h ∈ row)).map .str) :=
      ef_lcT (e := PyData.str) (ei_seqT (ev_F (ex_fB (by decreasing_trivial) h3)) rfl) (by get_elem_tactic_extensible) rfl (by rw [sizeL]; show (b.sorted p).length ≤ _; omega) (fun _ _ => by decreasing_trivial) fun _ _ _ => by decreasing_trivial
    have gz : (grow (b.sorted p) (row :: l)).length = (growR (b.sorted p) row).length + (grow (b.sorted p) l).length := by simp [grow]
    have ge : acc ++ grow (b.sorted p) (row :: l) = acc ++ growR (b.sorted p) row ++ grow (b.sorted p) l := by simp [grow]
    obtain ⟨y5, y6, ih⟩ := la_loop b ok fd p hp x3 l (acc ++ growR (b.sorted p) row) (some (.d (encS row))) (some (.l (((b.sorted p).filter fun h => !decide (some h ∈ row)).map .str))) (fun r hr => hl r (List.mem_cons_of_mem _ hr)) (by simp; omega)
    refine ⟨y5, y6, ?_⟩
    rw [List.map_cons, ge]
    refine (for_next (ρ1 := laR b fd p x3 acc (some (.d (encS row))) x6) rfl (es_seq (es_own e1 (by get_elem_tactic_extensible)) (es_ext rfl (ev_F (row_lc rfl rfl (by get_elem_tactic_extensible) (by decide) rfl (hl row List.mem_cons_self) (by omega))) ?_))).trans ?_
    · simp only [List.length_map, List.length_cons]
      have := nexts_len (b.sorted p) row
      have : (growR (b.sorted p) row).length = (nexts (b.sorted p) row).length := by simp [growR]
      simp only [nexts, List.length_cons, List.length_map] at this
      rw [sizeL]
      omega
    · have em : (acc.map encS) ++ ((none :: (((b.sorted p).filter fun h => !decide (some h ∈ row)).map some)).map fun o => encS (row ++ [o])) = (acc ++ growR (b.sorted p) row).map encS := by simp [growR, nexts]
      rw [em]
      exact ih
theorem la_outer (b : Bk) (ok : b.Ok) : ∀ (t : Tab) (fd : List Row) (x2 x3 x4 x5 x6 : Option B), (∀ q ∈ t, q.1 ∈ b.people) → (∀ r ∈ fd, r.length + t.length ≤ 1000) → 6 ^ t.length * fd.length ≤ 100000 →
    ∃ y2 y3 y4 y5 y6, forD (gT 2 (gC (put 2) (gC (put 3) gN))) (sSeq (sOwn 4 (fLst aNil)) (sSeq (sFor (iSeq (eVar 1)) (put 5) laB) (sAsg (eVar 4) (put 1)))) (t.map fun q => R.d (pairE q)) [some (.d b.enc), some (.d (.list (fd.map encS))), x2, x3, x4, x5, x6, none] = some (.next [some (.d b.enc), some (.d (.list ((standAll b.sorted (t.map (·.1)) fd).map encS))), y2, y3, y4, y5, y6, none])
  | [], fd, x2, x3, x4, x5, x6, _, _, _ => ⟨x2, x3, x4, x5, x6, rfl⟩
  | q :: t, fd, x2, x3, x4, x5, x6, hp, hl, hz => by
    have pm := hp q List.mem_cons_self
    have gl := grow_len (b.sorted q.1) 5 (sorted_len ok pm) fd
    have pz : 6 ^ t.length * (grow (b.sorted q.1) fd).length ≤ 100000 := by
      refine Nat.le_trans (Nat.mul_le_mul_left _ gl) ?_
      rw [← Nat.mul_assoc, ← Nat.pow_succ]
      exact hz
    have p1 : (grow (b.sorted q.1) fd).length ≤ 100000 := by
      have : 1 ≤ 6 ^ t.length := Nat.one_le_pow _ _ (by decide)
      exact Nat.le_trans (Nat.le_mul_of_pos_left _ this) pz
    obtain ⟨z5, z6, lo⟩ := la_loop b ok fd q.1 pm (some (.d (.tuple (q.2.map .str)))) fd [] x5 x6 (fun r hr => by have := hl r hr; omega) (by simpa using p1)
    rw [List.nil_append] at lo
    obtain ⟨y2, y3, y4, y5, y6, ih⟩ := la_outer b ok t (grow (b.sorted q.1) fd) (some (.d (.str q.1))) (some (.d (.tuple (q.2.map .str)))) (some (.d (.list ((grow (b.sorted q.1) fd).map encS)))) z5 z6 (fun r hr => hp r (List.mem_cons_of_mem _ hr)) (fun r hr => by
      obtain ⟨row, h1, h2⟩ := List.mem_flatMap.mp hr
      obtain ⟨o, _, rfl⟩ := List.mem_map.mp h2
      have := hl row h1
      simp at this ⊢
      omega) pz
    refine ⟨y2, y3, y4, y5, y6, ?_⟩
    rw [List.map_cons]
    have mv : sAsg (eVar 4) (put 1) (laR b fd q.1 (some (.d (.tuple (q.2.map .str)))) (grow (b.sorted q.1) fd) z5 z6) = some (.next [some (.d b.enc), some (.d (.list ((grow (b.sorted q.1) fd).map encS))), some (.d (.str q.1)), some (.d (.tuple (q.2.map .str))), some (.d (.list ((grow (b.sorted q.1) fd).map encS))), z5, z6, none]) := es_move rfl (by get_elem_tactic_extensible)
    have lf : sFor (iSeq (eVar 1)) (put 5) laB (laR b fd q.1 (some (.d (.tuple (q.2.map .str)))) [] x5 x6) = some (.next (laR b fd q.1 (some (.d (.tuple (q.2.map .str)))) (grow (b.sorted q.1) fd) z5 z6)) := (es_for (ei_seqT (ev_var rfl) rfl)).trans lo
    exact (for_next (ρ1 := [some (.d b.enc), some (.d (.list (fd.map encS))), some (.d (.str q.1)), some (.d (.tuple (q.2.map .str))), x4, x5, x6, none]) rfl (es_seq (ρ1 := laR b fd q.1 (some (.d (.tuple (q.2.map .str)))) [] x5 x6) (es_own (ef_lst ea_nil (by simp)) (by get_elem_tactic_extensible)) (es_seq lf mv))).trans ih
theorem stands_sorted {b : Bk} (ok : b.Ok) (nz : ∀ s ∈ b.houses, s ≠ "") : b.stands = standAll b.sorted b.people [[]] := by
  unfold Bk.stands
  refine stands_eq b.people (fun p _ => (List.mergeSort_perm _ _).symm) fun p hp => ⟨sortS_rise ?_, fun h hh => nz h (homes_house ok hp (List.mem_mergeSort.mp hh))⟩
  have hm := lkT_mem (t := b.likes) hp
  obtain ⟨z1, z2, z3⟩ := ok.il _ hm
  exact z2.filter _
theorem lall_eq {b : Bk} (ok : b.Ok) (nz : ∀ s ∈ b.houses, s ≠ "") : m__law_all [b.enc] = some (.list (b.stands.map encS)) := by
  rw [stands_sorted ok nz]
  have ll := ok.ll
  have lp : b.people.length ≤ 5 := by simpa [Bk.people] using ok.ll
  have q := Nat.pow_le_pow_right (n := 6) (by decide) ll
  obtain ⟨y2, y3, y4, y5, y6, lo⟩ := la_outer b ok b.likes [[]] none none none none none (fun p hp => List.mem_map.mpr ⟨p, hp, rfl⟩) (by simp; omega) (by
    simp only [List.length_cons, List.length_nil]
    omega)
  refine runB_ex (bs := [.d b.enc]) (by get_elem_tactic_extensible) ⟨_, es_seq (es_set (v := .list [encS []]) (ev_F (ef_lst (ea_cons (ev_tup ea_nil (by simp)) ea_nil) (by simp [sizeL]))) (by get_elem_tactic_extensible)) (es_seq ((es_for (rs := b.likes.map fun q => R.d (pairE q)) (ei_seqT (by decreasing_trivial) rfl)).trans lo) (es_ret (ev_var rfl)))⟩
end W
namespace W
open PySem L2 DL
local macro_rules | `(tactic| decreasing_trivial) => `(tactic| first
  | ((with_reducible apply ex_own); (· (exact rfl)))
  | ((with_reducible apply ex_r); (· (exact rfl)))
  | ((with_reducible apply Ev.ex); (· (decreasing_trivial)))
  | ((with_reducible apply ev_var); (· (exact rfl)))
  | with_reducible exact ev_c
  | ((with_reducible apply ex_op); (· (decreasing_trivial)); (· (decreasing_trivial)); (· (get_elem_tactic_extensible)))
  | ((with_reducible apply ex_call); (· (decreasing_trivial)); (· (exact rfl)); (· (get_elem_tactic_extensible)))
  | ((with_reducible apply ev_tup); (· (decreasing_trivial)); (· (get_elem_tactic_extensible)))
  | ((with_reducible apply ev_F); (· (decreasing_trivial)))
  | ((with_reducible apply ex_b1); (· (decreasing_trivial)); (· (get_elem_tactic_extensible)))
  | ((with_reducible apply ex_isi); (· (decreasing_trivial)); (· (get_elem_tactic_extensible)))
  | ((with_reducible apply ev_isN); (· (decreasing_trivial)))
  | ((with_reducible apply ev_isnN); (· (decreasing_trivial)))
  | ((with_reducible apply ev_and); (· (decreasing_trivial)); (· (intro _; decreasing_trivial)))
  | ((with_reducible apply ev_or); (· (decreasing_trivial)); (· (intro _; decreasing_trivial)))
  | ((with_reducible apply ev_not); (· (decreasing_trivial)); (· (get_elem_tactic_extensible)))
  | ((with_reducible apply ev_ite); (· (decreasing_trivial)); (· (intro _; decreasing_trivial)); (· (intro _; decreasing_trivial)))
  | ((with_reducible apply ex_M); (· (decreasing_trivial)); (· (exact rfl)); (· (decreasing_trivial)); (· (get_elem_tactic_extensible)))
  | ((with_reducible apply ex_dget); (· (decreasing_trivial)); (· (get_elem_tactic_extensible)); (· (get_elem_tactic_extensible)); (· (get_elem_tactic_extensible)); (· (decreasing_trivial)); (· (get_elem_tactic_extensible)))
  | ((with_reducible apply ev_mget); (· (exact rfl)); (· (decreasing_trivial)); (· (get_elem_tactic_extensible)))
  | ((with_reducible apply ev_mgt); (· (exact rfl)); (· (decreasing_trivial)))
  | ((with_reducible apply ev_min); (· (exact rfl)); (· (decreasing_trivial)))
  | ((with_reducible apply ev_memp); (· (exact rfl)))
  | ((with_reducible apply ex_lenZ); (· (decreasing_trivial)); (· (get_elem_tactic_extensible)))
  | ((with_reducible apply ex_sl); (· (decreasing_trivial)); (· (decreasing_trivial)); (· (decreasing_trivial)); (· (get_elem_tactic_extensible)))
  | ((with_reducible apply ev_ch); (· (decreasing_trivial)); (· (decreasing_trivial)); (· (decreasing_trivial)); (· (get_elem_tactic_extensible)); (· (get_elem_tactic_extensible)))
  | ((with_reducible apply ev_heard); (· (decreasing_trivial)); (· (get_elem_tactic_extensible)))
  | ((with_reducible apply er_call); (· (decreasing_trivial)); (· (exact rfl)); (· (get_elem_tactic_extensible)))
  | ((with_reducible apply et_toT); (· (decreasing_trivial)))
  | ((with_reducible apply et_trux); (· (decreasing_trivial)); (· (get_elem_tactic_extensible)))
  | ((with_reducible apply et_not); (· (decreasing_trivial)))
  | ((with_reducible apply et_and); (· (decreasing_trivial)); (· (intro _; decreasing_trivial)))
  | ((with_reducible apply et_or); (· (decreasing_trivial)); (· (intro _; decreasing_trivial)))
  | with_reducible exact ea_nil
  | ((with_reducible apply ea_cons); (· (decreasing_trivial)); (· (decreasing_trivial)))
  | with_reducible exact eax_nil
  | ((with_reducible apply eax_cons); (· (decreasing_trivial)); (· (decreasing_trivial)))
  | ((with_reducible apply eax_app); (· (decreasing_trivial)); (· (decreasing_trivial)))
  | ((with_reducible apply ea_app); (· (decreasing_trivial)); (· (decreasing_trivial)))
  | ((with_reducible apply ef_lst); (· (decreasing_trivial)); (· (get_elem_tactic_extensible)))
  | ((with_reducible apply ef_lcmT); (· (decreasing_trivial)); (· (get_elem_tactic_extensible)); (· (exact rfl)); (· (get_elem_tactic_extensible)); (· (intro _ _; decreasing_trivial)))
  | ((with_reducible apply ef_lcT); (· (decreasing_trivial)); (· (get_elem_tactic_extensible)); (· (exact rfl)); (· (get_elem_tactic_extensible)); (· (intro _ _; decreasing_trivial)); (· (intro _ _ _; decreasing_trivial)))
  | ((with_reducible apply ef_lc2mT); (· (decreasing_trivial)); (· (first | exact Or.inl fun _ => rfl | exact Or.inr fun _ => rfl)); (· (decide)); (· (get_elem_tactic_extensible)); (· (get_elem_tactic_extensible)); (· (exact rfl)); (· (get_elem_tactic_extensible)); (· (intro _ _; decreasing_trivial)))
  | ((with_reducible apply ef_lc2T); (· (decreasing_trivial)); (· (first | exact Or.inl fun _ => rfl | exact Or.inr fun _ => rfl)); (· (decide)); (· (get_elem_tactic_extensible)); (· (get_elem_tactic_extensible)); (· (exact rfl)); (· (get_elem_tactic_extensible)); (· (intro _ _; decreasing_trivial)); (· (intro _ _ _; decreasing_trivial)))
  | ((with_reducible apply ex_fB); (· (decreasing_trivial)); (· (get_elem_tactic_extensible)))
  | ((with_reducible apply ei_seqT); (· (decreasing_trivial)); (· (get_elem_tactic_extensible)))
  | ((with_reducible apply ei_zipT); (· (decreasing_trivial)); (· (decreasing_trivial)); (· (get_elem_tactic_extensible)); (· (get_elem_tactic_extensible)))
  | ((with_reducible apply ei_enum); (· (decreasing_trivial)); (· (get_elem_tactic_extensible)))
  | with_reducible exact o_none
  | ((with_reducible apply o_some); (· (decreasing_trivial)))
  | ((with_reducible apply exx_E); (· (decreasing_trivial)); (· (decreasing_trivial)))
  | ((with_reducible apply exx_F); (· (decreasing_trivial)); (· (decreasing_trivial)))
  | ((with_reducible apply exx_M); (· (decreasing_trivial)); (· (decreasing_trivial)))
  | with_reducible exact exx_nil
  | ((with_reducible apply em_dict); (· (decreasing_trivial)); (· (get_elem_tactic_extensible)); (· (get_elem_tactic_extensible)); (· (get_elem_tactic_extensible))))
local macro_rules | `(tactic| get_elem_tactic_extensible) => `(tactic| first
  | assumption
  | ((with_reducible apply k_idx0); (· (exact rfl)))
  | ((with_reducible apply k_idx1); (· (exact rfl)))
  | ((with_reducible apply k_inT); (· (exact rfl)))
  | ((with_reducible apply k_inL); (· (exact rfl)))
  | ((with_reducible apply k_inO); (· (exact rfl)))
  | ((with_reducible apply k_ninT); (· (exact rfl)))
  | ((with_reducible apply k_ninL); (· (exact rfl)))
  | ((with_reducible apply k_ninO); (· (exact rfl)))
  | with_reducible exact eq_int _ _
  | with_reducible exact ne_int _ _
  | with_reducible exact lt_int _ _
  | with_reducible exact gt_int _ _
  | with_reducible exact k_eqS _ _
  | with_reducible exact k_neS _ _
  | with_reducible exact eq_stand _ _
  | with_reducible exact ne_stand _ _
  | with_reducible exact len_encT _
  | with_reducible exact len_encS _
  | ((with_reducible apply k_lenL); (· (exact rfl)))
  | ((with_reducible apply k_lenT); (· (exact rfl)))
  | with_reducible exact allD_map _ _
  | with_reducible exact anyD_map _ _
  | with_reducible exact isD_tup _
  | with_reducible exact isD_str _
  | with_reducible exact isD_bool _
  | with_reducible exact dict_encT _
  | ((with_reducible apply lkp_kvT); (· (assumption)))
  | ((with_reducible apply k_nd); (· (first | exact Bk.Ok.nr (by assumption) | exact Bk.Ok.nl (by assumption))))
  | ((with_reducible apply k_kvz); (· (first | exact Bk.Ok.lr (by assumption) | exact Bk.Ok.ll (by assumption))))
  | ((with_reducible apply k_tup); (· (exact rfl)))
  | ((with_reducible apply k_tru); (· (exact rfl)))
  | ((with_reducible apply k_seqT); (· (exact rfl)))
  | ((with_reducible apply k_seqL); (· (exact rfl)))
  | (show _ < List.length _; exact Nat.le_of_ble_eq_true rfl)
  | (show _ ≤ sizeLine; simp [sizeL]; done)
  | (show _ ≤ sizeLine; rw [sizeL]; (try simp only [List.length_map, List.length_cons, List.length_nil]); omega)
  | ((with_reducible apply ba_cons); (· (get_elem_tactic_extensible)); (· (get_elem_tactic_extensible)))
  | ((with_reducible apply ba_list); (· (get_elem_tactic_extensible)); (· (get_elem_tactic_extensible)))
  | with_reducible exact ba_nil
  | with_reducible exact imm_enc _
  | with_reducible exact imm_encS _
  | with_reducible exact imm_encO _
  | with_reducible exact imm_strs _
  | with_reducible exact immL_strs _
  | (show imm _ = true; rfl))

local macro_rules | `(tactic| get_elem_tactic_extensible) => `(tactic| with_reducible first | exact houses_eq _ (by assumption) | exact people_eq _ (Bk.Ok.ll (by assumption)) | exact hr_lived _ | exact hr_told _ | exact hr_np | exact hr_nh | exact hr_ns | exact hr_nm)
abbrev lwR (ns : List Int) (c : Int) (mm : List (Int × Int)) (x2 : Option B) (x3 : Option D) (x4 x5 x6 x7 x8 x9 x10 : Option B) : Rho := [some (.s ns), some (.t c mm), x2, x3.map B.d, x4, x5, x6, x7, x8, x9, x10]
theorem ne_rows (L : List Row) : neD (.tuple (L.map encS)) (.tuple (L.map encS)) = some (.bool false) := by
  refine ne_same ?_ ?_
  · have : PyData.depthAll (L.map encS) ≤ 1 := by
      induction L with
      | nil => simp [PyData.depthAll]
      | cons r L ih => simp only [List.map_cons, PyData.depthAll, encS, PyData.depth, depth_opts] at ih ⊢; omega
    simp [PyData.depth]
    omega
  · simp only [PySem.W.alike]
    induction L with
    | nil => simp [PySem.W.alikeAll]
    | cons r L ih =>
      have : PySem.W.alike (encS r) (encS r) = true := by
        simp only [encS, PySem.W.alike]
        induction r with
        | nil => simp [PySem.W.alikeAll]
        | cons o r ih2 => cases o <;> simp [encO, PySem.W.alike, PySem.W.alikeAll, ih2]
      simp [PySem.W.alikeAll, this, ih]
theorem law_true (ns : List Int) (hl : ns.length ≤ 63) : m_law ns = some (.bool true) := by
  suffices h : Wp F_law (pad 11 [.s ns]) fun o => ∃ ρ, o = .ret (.bool true) ρ by
    obtain ⟨o, e, ρ, rfl⟩ := h
    show runL 11 F_law ns = _
    unfold runL
    rw [e]
    rfl
  unfold F_law
  refine wp_seq (wp_of (o := .next (lwR ns 0 [] none none none none none none none none none)) rfl ?_)
  refine wp_seq (wp_for (fun ρ => ∃ c mm x2 x3 x4 x5 x6 x7 x8 x9 x10, TownOk ns mm ∧ ρ = lwR ns c mm x2 x3 x4 x5 x6 x7 x8 x9 x10) (ei_rg ev_c (by decide)) ⟨0, [], _, none, _, _, _, _, _, _, _, TownOk.nil hl, rfl⟩ (fun r hr ρ hI => ?_) (fun ρ hI => wp_ret ev_c ⟨_, rfl⟩))
  obtain ⟨i, _, rfl⟩ := List.mem_map.mp hr
  obtain ⟨c, mm, x2, x3, x4, x5, x6, x7, x8, x9, x10, hT, rfl⟩ := hI
  refine ⟨lwR ns c mm (some (.d (.int (i : Nat)))) x3 x4 x5 x6 x7 x8 x9 x10, rfl, ?_⟩
  generalize (some (B.d (.int (i : Nat)))) = y2
  obtain ⟨b, k1, k2, c1, mm1, eb, hT1, a1, a2, w1, w2, eh, ep, dr, dl⟩ := a_book_ok ns c mm 4 4 hT (by omega) (by omega) (by omega) (by omega)
  have g := good_of (by omega) w1 (by omega) eh ep dr dl
  have ok := g.ok
  have lr := ok.lr
  have ll := ok.ll
  have nm : ∀ s ∈ b.houses, s.length ≤ 500 := fun s hs => Nat.le_trans (name_len (List.all_eq_true.mp g.nh.1 s hs)) (by decide)
  have nz : ∀ s ∈ b.houses, s ≠ "" := fun s hs e => by
    have := List.all_eq_true.mp g.nh.1 s hs
    rw [e] at this
    revert this
    decide +kernel
  have hz0 : ("zz" : Str) ∉ b.houses := fun z => by
    rw [eh] at z
    have := List.mem_of_mem_take z
    revert this
    decide +kernel
  have pz0 : ("zz" : Str) ∉ b.people := fun z => by
    rw [ep] at z
    have := List.mem_of_mem_take z
    revert this
    decide +kernel
  have pa : ("ann" : Str) ∈ b.people := by
    rw [ep]
    obtain ⟨k, rfl⟩ : ∃ k, k2 = k + 1 := ⟨k2 - 1, by omega⟩
    simp [pNames]
  have hb : ("barn" : Str) ∈ b.houses := by
    rw [eh]
    obtain ⟨k, rfl⟩ : ∃ k, k1 = k + 1 := ⟨k1 - 1, by omega⟩
    simp [hNames]
  have hh0 : idxD (.list (b.houses.map .str)) (.int 0) = some (.str "barn") := by
    rw [eh]
    obtain ⟨k, rfl⟩ : ∃ k, k1 = k + 1 := ⟨k1 - 1, by omega⟩
    simp [hNames, idxD, atI, ixN]
  have lh : b.houses.length ≤ 5 := by simpa [Bk.houses] using lr
  refine wp_seq (wp_setS (v := b.enc) (ρ' := lwR ns c1 mm1 y2 x3 x4 x5 x6 x7 x8 x9 x10) (by simp [eCallT, aCons, aNil, eVar, eC, sAt, tAt, rdos, rdo, eb]) (by get_elem_tactic_extensible) ?_)
  show Wp _ (lwR ns c1 mm1 y2 x3 x4 x5 x6 x7 x8 (some (.d b.enc)) x10) _
  -- all standings
  have h1 := standings_eq ok nm
  have h2 := lall_eq ok nz
  have h3 := ne_rows b.stands
  refine wp_seq (wp_pass (b := false) (by decreasing_trivial) rfl ?_)
  show Wp _ (lwR ns c1 mm1 y2 x3 x4 x5 x6 x7 x8 (some (.d b.enc)) x10) _
  have ep2 : b.houses.map PyData.str = b.rows.map fun p => PyData.str p.1 := by simp [Bk.houses]
  refine wp_seq (wp_set (v := .list (b.houses.map .str)) ?_ (by get_elem_tactic_extensible) ?_)
  · rw [ep2]
    cases x3 <;> decreasing_trivial
  show Wp _ (lwR ns c1 mm1 y2 x3 x4 x5 x6 x7 x8 (some (.d b.enc)) (some (.d (.list (b.houses.map .str))))) _
  let I : Rho → Prop := fun ρ => ∃ x3 x4 x5 x6 x7, ρ = lwR ns c1 mm1 y2 x3 x4 x5 x6 x7 x8 (some (.d b.enc)) (some (.d (.list (b.houses.map .str))))
  refine wp_seq (wp_for I (rs := b.likes.map fun q => R.d (pairE q)) (by decreasing_trivial) ⟨_, _, _, _, _, rfl⟩ (fun r hr ρ hI => ?_) (fun ρ hI => ?_))
  · obtain ⟨q, hq, rfl⟩ := List.mem_map.mp hr
    obtain ⟨x3, x4, x5, x6, x7, rfl⟩ := hI
    have hp : q.1 ∈ b.people := List.mem_map.mpr ⟨q, hq, rfl⟩
    have lq : lkT b.likes q.1 = q.2 := lkT_of ok.nl hq
    refine ⟨lwR ns c1 mm1 y2 x3 (some (.d (.str q.1))) (some (.d (.tuple (q.2.map .str)))) x6 x7 x8 (some (.d b.enc)) (some (.d (.list (b.houses.map .str)))), rfl, ?_⟩
    refine wp_for (fun ρ => ∃ x3 x6 x7, ρ = lwR ns c1 mm1 y2 x3 (some (.d (.str q.1))) (some (.d (.tuple (q.2.map .str)))) x6 x7 x8 (some (.d b.enc)) (some (.d (.list (b.houses.map .str))))) (rs := b.houses.map fun h => R.d (.str h)) (by decreasing_trivial) ⟨_, _, _, rfl⟩ (fun r hr ρ hI => ?_) (fun ρ hI => ?_)
    · obtain ⟨h, hh, rfl⟩ := List.mem_map.mp hr
      obtain ⟨x3, x6, x7, rfl⟩ := hI
      refine ⟨lwR ns c1 mm1 y2 (some (.str h)) (some (.d (.str q.1))) (some (.d (.tuple (q.2.map .str)))) x6 x7 x8 (some (.d b.enc)) (some (.d (.list (b.houses.map .str)))), rfl, ?_⟩
      have an := add_none b.houses (by omega)
      refine wp_for (fun ρ => ∃ x6 x7, ρ = lwR ns c1 mm1 y2 (some (.str h)) (some (.d (.str q.1))) (some (.d (.tuple (q.2.map .str)))) x6 x7 x8 (some (.d b.enc)) (some (.d (.list (b.houses.map .str))))) (rs := (none :: b.houses.map some).map fun o => R.d (encO o)) (by decreasing_trivial) ⟨_, _, rfl⟩ (fun r hr ρ hI => ?_) (fun ρ hI => ?_)
      · obtain ⟨o, ho, rfl⟩ := List.mem_map.mp hr
        obtain ⟨x6, x7, rfl⟩ := hI
        have ho2 : ∀ g, o = some g → g ∈ b.houses := fun g e => by
          subst e
          rcases List.mem_cons.mp ho with z | z
          · cases z
          · obtain ⟨g2, h2, e⟩ := List.mem_map.mp z
            cases e
            exact h2
        have t1 := lbetter_eq q.2 h o
        have t2 : m_likes_better [b.enc, .str q.1, .str h, encO o] = some (.bool (better q.2 h o)) := by
          rw [← lq]
          exact okM_of (likesX ok hp hh ho2)
        have t3 := law_is (better q.2 h o) (better q.2 h o)
        refine ⟨lwR ns c1 mm1 y2 (some (.str h)) (some (.d (.str q.1))) (some (.d (.tuple (q.2.map .str)))) (some (.d (encO o))) x7 x8 (some (.d b.enc)) (some (.d (.list (b.houses.map .str)))), rfl, ?_⟩
        refine wp_seq (wp_set (v := .bool (better q.2 h o)) (by decreasing_trivial) (by get_elem_tactic_extensible) ?_)
        refine wp_pass (b := !(better q.2 h o == better q.2 h o)) (by decreasing_trivial) (by simp) ?_
        exact ⟨_, rfl, ⟨_, _, rfl⟩⟩
      · obtain ⟨x6, x7, rfl⟩ := hI
        exact ⟨_, rfl, ⟨_, _, _, rfl⟩⟩
    · obtain ⟨x3, x6, x7, rfl⟩ := hI
      exact ⟨_, rfl, ⟨_, _, _, _, _, rfl⟩⟩
  obtain ⟨z3, z4, z5, z6, z7, rfl⟩ := hI
  have v1 := likesX_p (y := .str "zz") (z := .none) (look_pn b ok "zz" pz0) rfl rfl rfl
  have v2 := likesX_p (y := .str "barn") (z := .none) (look_po b ok .none rfl rfl) rfl rfl rfl
  have v3 := likesX_h (z := .none) (look_p b ok "ann" pa) (look_ho b ok .none rfl rfl) rfl rfl rfl
  have v4 := likesX_h (z := .str "barn") (look_p b ok "ann" pa) (look_hn b ok "zz" hz0) rfl rfl rfl
  have v5 := likesX_o (look_p b ok "ann" pa) (look_h b ok "barn" hb) (look_hn b ok "zz" hz0) rfl rfl
  refine wp_seq (wp_own (by decreasing_trivial) (by get_elem_tactic_extensible) ?_)
  refine wp_seq (wp_app rfl (by decreasing_trivial) (by simp [sizeL]) ?_)
  refine wp_seq (wp_app rfl (by decreasing_trivial) (by simp [sizeL]) ?_)
  refine wp_seq (wp_app rfl (by decreasing_trivial) (by simp [sizeL]) ?_)
  refine wp_seq (wp_app rfl (by decreasing_trivial) (by simp [sizeL]) ?_)
  have m2 : mulL (.list [.tuple [.str "no person"]]) (.int 2) = some (.list [.tuple [.str "no person"], .tuple [.str "no person"]]) := by simp [mulL, List.replicate]
  have m3 : mulL (.list [.tuple [.str "no house"]]) (.int 3) = some (.list [.tuple [.str "no house"], .tuple [.str "no house"], .tuple [.str "no house"]]) := by simp [mulL, List.replicate]
  have m5 : addD (.list [.tuple [.str "no person"], .tuple [.str "no person"]]) (.list [.tuple [.str "no house"], .tuple [.str "no house"], .tuple [.str "no house"]]) = some (.list [.tuple [.str "no person"], .tuple [.str "no person"], .tuple [.str "no house"], .tuple [.str "no house"], .tuple [.str "no house"]]) := add_list _ _ (by simp)
  have n5 : neD (.list [.tuple [.str "no person"], .tuple [.str "no person"], .tuple [.str "no house"], .tuple [.str "no house"], .tuple [.str "no house"]]) (.list [.tuple [.str "no person"], .tuple [.str "no person"], .tuple [.str "no house"], .tuple [.str "no house"], .tuple [.str "no house"]]) = some (.bool false) :=
    ne_same (by simp [PyData.depth, PyData.depthAll]) (by simp [PySem.W.alike, PySem.W.alikeAll])
  refine wp_pass (b := false) (et_toT (ex_op (ex_own rfl) (by decreasing_trivial) n5)) rfl ?_
  exact ⟨_, rfl, c1, mm1, _, _, _, _, _, _, _, _, _, hT1, rfl⟩
end W
namespace DL
open PySem PySem.Spec PyProof.Rows L2
/-! ### what the written part says of the classes, as one truth each -/
def clA (K : PySem.W.Frag) (x : Str) : Addr := match PySem.W.nsIn K mainGlobals x with
  | some (some (.ref a)) => a
  | _ => 0
def ptA (K : PySem.W.Frag) (x : Str) : Addr := match PySem.W.tabIn K x with
  | some (_, p) => p
  | _ => 0
def atB (K : PySem.W.Frag) (x : Str) : Bool := decide (PySem.W.nsIn K mainGlobals x = some (some (.ref (clA K x))))
def excB (K : PySem.W.Frag) (c : Addr) : Bool := decide (PySem.W.findIn K (.ref c) "__getattribute__" = some (some (.builtin "BaseException.__getattribute__"))) && (decide (PySem.W.findIn K (.ref c) "__getattr__" = some none) && (decide (PySem.W.subIn K (.ref c) (.type "BaseException") = some true) && (PySem.W.hasDictIn K c && (decide (PySem.W.findIn K (.ref c) "__class__" = some (some (.builtin "object.__class__"))) && (decide (PySem.W.specialIn K (.builtin "object.__class__") "__get__" = some (some (.builtin "getset_descriptor.__get__"))) && (decide (PySem.W.takesIn K (.builtin "object.__class__") = some true) && decide (PySem.W.mroIn K c (.type "object") = some true)))))))
theorem excB_ok {K : PySem.W.Frag} {c : Addr} (h : excB K c = true) : ExcC K c ∧ XfC K c := by
  unfold excB at h
  simp only [Bool.and_eq_true, decide_eq_true_eq] at h
  obtain ⟨h1, h2, h3, h4, h5, h6, h7, h8⟩ := h
  exact ⟨⟨h1, h2, h3, h4, h5, h6, h7, h8⟩, ⟨h1, h2, h3, h4⟩⟩
def hk1 (K : PySem.W.Frag) (x : Str) : Bool := decide (PySem.W.exmOne K (.ref (clA K x)) (.ref (clA K "MoveError")) = some true) && (excB K (clA K x) && (decide (PySem.W.findIn K (.ref (clA K x)) "person" = some none) && (decide (PySem.W.kitOne K (.ref (clA K x)) (.type "ValueError") = some true) && hearCls.all fun y => decide (PySem.W.kitOne K (.ref (clA K x)) (.ref (clA K y)) = some (decide (x = y))))))
def hkB (K : PySem.W.Frag) : Bool := hearCls.all (hk1 K)
theorem hkB_ok {K : PySem.W.Frag} (h : hkB K = true) : HK K (clA K) := by
  have z : ∀ x ∈ hearCls, hk1 K x = true := List.all_eq_true.mp h
  have y : ∀ x ∈ hearCls, _ := fun x hx => by
    have := z x hx
    unfold hk1 at this
    simp only [Bool.and_eq_true, decide_eq_true_eq, List.all_eq_true] at this
    exact this
  exact ⟨fun x hx => (y x hx).1, fun x hx => (excB_ok (y x hx).2.1).1, fun x hx => ⟨(excB_ok (y x hx).2.1).2, (y x hx).2.2.1⟩, fun x hx u hu => (y x hx).2.2.2.2 u hu, fun x hx => (y x hx).2.2.2.1⟩
def clsOB (K : PySem.W.Frag) (x : Str) : Bool := atB K x && (PySem.W.keepIn K (.ref (clA K x)) && (PySem.W.excIn K (clA K x) [.type "ValueError", .type "Exception", .type "BaseException", .type "object"] "ValueError.__new__" && (decide (PySem.W.subIn K (.ref (clA K x)) (.type "BaseException") = some true) && decide (PySem.W.typeIn K (.ref (clA K x)) = some (.type "type")))))
theorem clsOB_ok {K : PySem.W.Frag} {h : Heap} {mg : Str → Option Value} {x : Str} (X : K.In h) (G : h.Ns mainGlobals mg) (e : clsOB K x = true) : ∃ c, ClsO K mg x c := by
  unfold clsOB atB at e
  simp only [Bool.and_eq_true, decide_eq_true_eq] at e
  obtain ⟨h1, h2, h3, h4, h5⟩ := e
  exact ⟨clA K x, PySem.W.mg_of X G h1, h2, ⟨[.type "ValueError", .type "Exception", .type "BaseException", .type "object"], by decide +kernel, h3⟩, h4, h5⟩
end DL
namespace W
open PySem L2 DL
def topS (i : Nat) : Stmt := PySem.Challenge.pw_movesup_k02_standings.main.body.getD i (.Pass ⟨0, 0, 0, 0⟩)
structure BI (mg : Str → Option Value) : Prop where
  len : mg "len" = none
  tuple : mg "tuple" = none
  list : mg "list" = none
  dict : mg "dict" = none
  isinstance : mg "isinstance" = none
  range : mg "range" = none
  sorted : mg "sorted" = none
  str : mg "str" = none
  bool : mg "bool" = none
structure CN (mg : Str → Option Value) : Prop where
structure CK (P : Program) (w : World) (K : PySem.W.Frag) (mg : Str → Option Value) (base : Heap) : Prop where
  NoHouse : ∃ c, ClsO K mg "NoHouse" c
  NoPerson : ∃ c, ClsO K mg "NoPerson" c
section
variable {P : Program} {w : World} {K : PySem.W.Frag} {mg : Str → Option Value} {base : Heap}
abbrev d_houses_of : Stmt := topS 17
abbrev N_houses_of : List Str := ["book", "one"]
theorem sc_houses_of : FnScope N_houses_of ["book"] (defScope d_houses_of) := ⟨rfl, rfl, rfl, by decide +kernel, rfl, by decide +kernel, by decide +kernel⟩
theorem b_houses_of {f : Addr} (B : BI mg) (Cn : CN mg) : BodyOk P w K mg base N_houses_of "houses_of" d_houses_of f 0 F_houses_of := fun C cdv A outer s H E hK hr => by
  have hu := hr.units
  have hu1 := hu_of hr
  exact dss_one (ds_ret (de_F (df_lc [("one", 1)] rfl sc_houses_of.nd (di_seq hK (de_ix hK (dv 0) (dc_int) (fun _ _ => rfl))) (show blkC N_houses_of (defScope d_houses_of) _ _ = true by decide +kernel) (fun _ _ _ _ _ => dg_name sc_houses_of.nd rfl (by first | exact Or.inl rfl | exact Or.inr rfl)) (fun _ _ _ _ _ => dts_nil) (fun _ _ _ _ _ => de_ix hK (dv 1) (dc_int) (fun _ _ => rfl)) (by decide))))
abbrev D_houses_of (P : Program) (w : World) (K : PySem.W.Frag) (mg : Str → Option Value) (base : Heap) : Prop := Def P w K mg base 1 "houses_of" "houses_of" d_houses_of ["book"] (spF K 1 m_houses_of)
theorem mk_houses_of {f : Addr} {fd : FuncData} (B : BI mg) (Cn : CN mg) (Fn : Fun K "houses_of" "houses_of" d_houses_of f fd) (hm : mg "houses_of" = some (.ref f)) : D_houses_of P w K mg base :=
  ⟨⟨f, fd, fnB Fn sc_houses_of (b_houses_of B Cn), hm, Fn⟩, fun _ _ _ _ _ _ us hl => match us, hl with | [_], _ => rfl⟩
abbrev d_people_of : Stmt := topS 18
abbrev N_people_of : List Str := ["book", "one"]
theorem sc_people_of : FnScope N_people_of ["book"] (defScope d_people_of) := ⟨rfl, rfl, rfl, by decide +kernel, rfl, by decide +kernel, by decide +kernel⟩
theorem b_people_of {f : Addr} (B : BI mg) (Cn : CN mg) : BodyOk P w K mg base N_people_of "people_of" d_people_of f 0 F_people_of := fun C cdv A outer s H E hK hr => by
  have hu := hr.units
  have hu1 := hu_of hr
  exact dss_one (ds_ret (de_F (df_lc [("one", 1)] rfl sc_people_of.nd (di_seq hK (de_ix hK (dv 0) (dc_int) (fun _ _ => rfl))) (show blkC N_people_of (defScope d_people_of) _ _ = true by decide +kernel) (fun _ _ _ _ _ => dg_name sc_people_of.nd rfl (by first | exact Or.inl rfl | exact Or.inr rfl)) (fun _ _ _ _ _ => dts_nil) (fun _ _ _ _ _ => de_ix hK (dv 1) (dc_int) (fun _ _ => rfl)) (by decide))))
abbrev D_people_of (P : Program) (w : World) (K : PySem.W.Frag) (mg : Str → Option Value) (base : Heap) : Prop := Def P w K mg base 1 "people_of" "people_of" d_people_of ["book"] (spF K 1 m_people_of)
theorem mk_people_of {f : Addr} {fd : FuncData} (B : BI mg) (Cn : CN mg) (Fn : Fun K "people_of" "people_of" d_people_of f fd) (hm : mg "people_of" = some (.ref f)) : D_people_of P w K mg base :=
  ⟨⟨f, fd, fnB Fn sc_people_of (b_people_of B Cn), hm, Fn⟩, fun _ _ _ _ _ _ us hl => match us, hl with | [_], _ => rfl⟩
abbrev d_homes_of : Stmt := topS 19
abbrev N_homes_of : List Str := ["book", "person", "rows", "house"]
theorem sc_homes_of : FnScope N_homes_of ["book", "person"] (defScope d_homes_of) := ⟨rfl, rfl, rfl, by decide +kernel, rfl, by decide +kernel, by decide +kernel⟩
theorem b_homes_of {f : Addr} (B : BI mg) (Cn : CN mg) : BodyOk P w K mg base N_homes_of "homes_of" d_homes_of f 0 F_homes_of := fun C cdv A outer s H E hK hr => by
  have hu := hr.units
  have hu1 := hu_of hr
  exact dss_cons (ds_ownM sc_homes_of.nd rfl (by first | exact Or.inl rfl | exact Or.inr rfl) (dm_dict (cr_dictG hK rfl) rfl B.dict (by decide +kernel) (de_ix hK (dv 0) (dc_int) (fun _ _ => rfl)))) (dss_one (ds_ret (de_F (df_lc [("house", 3)] rfl sc_homes_of.nd (di_seq hK (de_dget hu1 (dm_dict (cr_dictG hK rfl) rfl B.dict (by decide +kernel) (de_ix hK (dv 0) (dc_int) (fun _ _ => rfl))) (dv 1) (fun _ _ => rfl))) (show blkC N_homes_of (defScope d_homes_of) _ _ = true by decide +kernel) (fun _ _ _ _ _ => dg_name sc_homes_of.nd rfl (by first | exact Or.inl rfl | exact Or.inr rfl)) (fun _ _ _ _ _ => dts_one (dt_cmp (op_inG hK hu) (dv 1) (de_mget hu1 (pe_var rfl (by first | exact Or.inl rfl | exact Or.inr (Or.inl rfl) | exact Or.inr (Or.inr rfl))) (dv 3) (fun _ _ => rfl)) rfl)) (fun _ _ _ _ _ => dv 3) (by decide)))))
abbrev D_homes_of (P : Program) (w : World) (K : PySem.W.Frag) (mg : Str → Option Value) (base : Heap) : Prop := Def P w K mg base 1 "homes_of" "homes_of" d_homes_of ["book", "person"] (spF K 2 m_homes_of)
theorem mk_homes_of {f : Addr} {fd : FuncData} (B : BI mg) (Cn : CN mg) (Fn : Fun K "homes_of" "homes_of" d_homes_of f fd) (hm : mg "homes_of" = some (.ref f)) : D_homes_of P w K mg base :=
  ⟨⟨f, fd, fnB Fn sc_homes_of (b_homes_of B Cn), hm, Fn⟩, fun _ _ _ _ _ _ us hl => match us, hl with | [_, _], _ => rfl⟩
abbrev d_look_person : Stmt := topS 20
abbrev N_look_person : List Str := ["book", "person"]
theorem sc_look_person : FnScope N_look_person ["book", "person"] (defScope d_look_person) := ⟨rfl, rfl, rfl, by decide +kernel, rfl, by decide +kernel, by decide +kernel⟩
theorem b_look_person {f : Addr} (B : BI mg) (Cn : CN mg) (Ck : CK P w K mg base) (H_people_of : D_people_of P w K mg base) : BodyOkX P w K mg base N_look_person "look_person" d_look_person f 1 F_look_person := fun C cdv A outer s H E hK hxe hcl hr => by
  have hu := hr.units
  have hu1 := hu_of hr
  have tk : Takes (cxOf (L2.CX P w) P w K mg base N_look_person "look_person" (defScope d_look_person) f cdv A outer s H E) (fun cls d _ H => C.xe cls d H) := by
    rw [hxe]
    exact takes_of rfl rfl rfl rfl
  exact dss_one (ds_if (PW.pt (dw_or (dt_not (dt_tru hK (de_isi hK (dv 1) rfl B.isinstance rfl B.str (by decide +kernel)))) (dw_or1 (dt_cmp (op_ninG hK hu) (dv 1) (de_callD hK H_people_of (hr.mono (by omega)) rfl (da_cons (dv 0) (da_nil))) rfl)))) (dss_one (ds_raise rfl tk hcl Ck.NoPerson.choose_spec rfl)) (dss_nil))
abbrev D_look_person (P : Program) (w : World) (K : PySem.W.Frag) (mg : Str → Option Value) (base : Heap) : Prop := Def P w K mg base 2 "look_person" "look_person" d_look_person ["book", "person"] (spX K (clsOf mg) 2 x_look_person)
theorem mk_look_person {f : Addr} {fd : FuncData} (B : BI mg) (Cn : CN mg) (Ck : CK P w K mg base) (H_people_of : D_people_of P w K mg base) (Fn : Fun K "look_person" "look_person" d_look_person f fd) (hm : mg "look_person" = some (.ref f)) : D_look_person P w K mg base :=
  ⟨⟨f, fd, fnX Fn sc_look_person (b_look_person B Cn Ck H_people_of), hm, Fn⟩, fun _ _ _ _ _ _ us hl => match us, hl with | [_, _], _ => rfl⟩
abbrev d_look_house : Stmt := topS 21
abbrev N_look_house : List Str := ["book", "house"]
theorem sc_look_house : FnScope N_look_house ["book", "house"] (defScope d_look_house) := ⟨rfl, rfl, rfl, by decide +kernel, rfl, by decide +kernel, by decide +kernel⟩
theorem b_look_house {f : Addr} (B : BI mg) (Cn : CN mg) (Ck : CK P w K mg base) (H_houses_of : D_houses_of P w K mg base) : BodyOkX P w K mg base N_look_house "look_house" d_look_house f 1 F_look_house := fun C cdv A outer s H E hK hxe hcl hr => by
  have hu := hr.units
  have hu1 := hu_of hr
  have tk : Takes (cxOf (L2.CX P w) P w K mg base N_look_house "look_house" (defScope d_look_house) f cdv A outer s H E) (fun cls d _ H => C.xe cls d H) := by
    rw [hxe]
    exact takes_of rfl rfl rfl rfl
  exact dss_one (ds_if (PW.pt (dw_or (dt_not (dt_tru hK (de_isi hK (dv 1) rfl B.isinstance rfl B.str (by decide +kernel)))) (dw_or1 (dt_cmp (op_ninG hK hu) (dv 1) (de_callD hK H_houses_of (hr.mono (by omega)) rfl (da_cons (dv 0) (da_nil))) rfl)))) (dss_one (ds_raise rfl tk hcl Ck.NoHouse.choose_spec rfl)) (dss_nil))
abbrev D_look_house (P : Program) (w : World) (K : PySem.W.Frag) (mg : Str → Option Value) (base : Heap) : Prop := Def P w K mg base 2 "look_house" "look_house" d_look_house ["book", "house"] (spX K (clsOf mg) 2 x_look_house)
theorem mk_look_house {f : Addr} {fd : FuncData} (B : BI mg) (Cn : CN mg) (Ck : CK P w K mg base) (H_houses_of : D_houses_of P w K mg base) (Fn : Fun K "look_house" "look_house" d_look_house f fd) (hm : mg "look_house" = some (.ref f)) : D_look_house P w K mg base :=
  ⟨⟨f, fd, fnX Fn sc_look_house (b_look_house B Cn Ck H_houses_of), hm, Fn⟩, fun _ _ _ _ _ _ us hl => match us, hl with | [_, _], _ => rfl⟩
abbrev d_key_of : Stmt := topS 22
abbrev N_key_of : List Str := ["standing", "house"]
theorem sc_key_of : FnScope N_key_of ["standing"] (defScope d_key_of) := ⟨rfl, rfl, rfl, by decide +kernel, rfl, by decide +kernel, by decide +kernel⟩
theorem b_key_of {f : Addr} (B : BI mg) (Cn : CN mg) : BodyOk P w K mg base N_key_of "key_of" d_key_of f 0 F_key_of := fun C cdv A outer s H E hK hr => by
  have hu := hr.units
  have hu1 := hu_of hr
  exact dss_one (ds_ret (de_F (df_lc [("house", 1)] rfl sc_key_of.nd (di_seq hK (dv 0)) (show blkC N_key_of (defScope d_key_of) _ _ = true by decide +kernel) (fun _ _ _ _ _ => dg_name sc_key_of.nd rfl (by first | exact Or.inl rfl | exact Or.inr rfl)) (fun _ _ _ _ _ => dts_nil) (fun _ _ _ _ _ => de_or hK (dv 1) (de_one (dc_str))) (by decide))))
abbrev D_key_of (P : Program) (w : World) (K : PySem.W.Frag) (mg : Str → Option Value) (base : Heap) : Prop := Def P w K mg base 1 "key_of" "key_of" d_key_of ["standing"] (spF K 1 m_key_of)
theorem mk_key_of {f : Addr} {fd : FuncData} (B : BI mg) (Cn : CN mg) (Fn : Fun K "key_of" "key_of" d_key_of f fd) (hm : mg "key_of" = some (.ref f)) : D_key_of P w K mg base :=
  ⟨⟨f, fd, fnB Fn sc_key_of (b_key_of B Cn), hm, Fn⟩, fun _ _ _ _ _ _ us hl => match us, hl with | [_], _ => rfl⟩
abbrev d_standings : Stmt := topS 23
abbrev N_standings : List Str := ["book", "found", "person", "more", "row", "free", "house"]
theorem sc_standings : FnScope N_standings ["book"] (defScope d_standings) := ⟨rfl, rfl, rfl, by decide +kernel, rfl, by decide +kernel, by decide +kernel⟩
theorem b_standings {f : Addr} (B : BI mg) (Cn : CN mg) (H_people_of : D_people_of P w K mg base) (H_homes_of : D_homes_of P w K mg base) (H_key_of : D_key_of P w K mg base) : BodyOk P w K mg base N_standings "standings" d_standings f 3 F_standings := fun C cdv A outer s H E hK hr => by
  have hu := hr.units
  have hu1 := hu_of hr
  exact dss_cons (ds_set sc_standings.nd rfl (by first | exact Or.inl rfl | exact Or.inr rfl) (de_lst (da_cons (de_tup (da_nil)) (da_nil)))) (dss_cons (ds_for PassesOwn.never rfl (di_seq hK (de_callD hK H_people_of (hr.mono (by omega)) rfl (da_cons (dv 0) (da_nil)))) (dg_name sc_standings.nd rfl (by first | exact Or.inl rfl | exact Or.inr rfl)) (dss_cons (ds_own sc_standings.nd rfl (by first | exact Or.inl rfl | exact Or.inr rfl) (df_lst (da_nil))) (dss_cons (ds_for PassesOwn.never rfl (di_seq hK (dv 1)) (dg_name sc_standings.nd rfl (by first | exact Or.inl rfl | exact Or.inr rfl)) (dss_cons (ds_setLc [("house", 6)] rfl sc_standings.nd rfl rfl rfl (di_seq hK (de_callD hK H_homes_of (hr.mono (by omega)) rfl (da_cons (dv 0) (da_cons (dv 2) (da_nil))))) (show blkC N_standings (defScope d_standings) _ _ = true by decide +kernel) (fun _ _ _ _ _ => dg_name sc_standings.nd rfl (by first | exact Or.inl rfl | exact Or.inr rfl)) (fun _ _ _ _ _ => dts_one (dt_cmp (op_ninG hK hu) (dv 6) (dv 4) rfl)) (fun _ _ _ _ _ => dv 6) (by decide)) (dss_one (ds_ext (pe_var rfl (by first | exact Or.inl rfl | exact Or.inr (Or.inl rfl) | exact Or.inr (Or.inr rfl))) (de_F (df_lc [("house", 6)] rfl sc_standings.nd (di_seq hK (de_op (op_addG hK) (de_lst (da_cons (dc_none) (da_nil))) (dv 5))) (show blkC N_standings (defScope d_standings) _ _ = true by decide +kernel) (fun _ _ _ _ _ => dg_name sc_standings.nd rfl (by first | exact Or.inl rfl | exact Or.inr rfl)) (fun _ _ _ _ _ => dts_nil) (fun _ _ _ _ _ => de_op (op_addG hK) (dv 4) (de_tup (da_cons (dv 6) (da_nil)))) (by decide))))))) (dss_one (ds_set sc_standings.nd rfl (by first | exact Or.inl rfl | exact Or.inr rfl) (dv 3)))))) (dss_one (ds_ret (de_callTy (cr_tupG hK) rfl B.tuple (by decide +kernel) (da_cons (de_F (df_sortKey hK H_key_of (hr.mono (by omega)) hu rfl B.sorted rfl (dv 1))) (da_nil))))))
abbrev D_standings (P : Program) (w : World) (K : PySem.W.Frag) (mg : Str → Option Value) (base : Heap) : Prop := Def P w K mg base 4 "standings" "standings" d_standings ["book"] (spF K 1 m_standings)
theorem mk_standings {f : Addr} {fd : FuncData} (B : BI mg) (Cn : CN mg) (H_people_of : D_people_of P w K mg base) (H_homes_of : D_homes_of P w K mg base) (H_key_of : D_key_of P w K mg base) (Fn : Fun K "standings" "standings" d_standings f fd) (hm : mg "standings" = some (.ref f)) : D_standings P w K mg base :=
  ⟨⟨f, fd, fnA Fn sc_standings (b_standings B Cn H_people_of H_homes_of H_key_of), hm, Fn⟩, fun _ _ _ _ _ _ us hl => match us, hl with | [_], _ => rfl⟩
abbrev d_is_better : Stmt := topS 24
abbrev N_is_better : List Str := ["book", "person", "one", "other", "likes"]
theorem sc_is_better : FnScope N_is_better ["book", "person", "one", "other"] (defScope d_is_better) := ⟨rfl, rfl, rfl, by decide +kernel, rfl, by decide +kernel, by decide +kernel⟩
theorem b_is_better {f : Addr} (B : BI mg) (Cn : CN mg) : BodyOk P w K mg base N_is_better "is_better" d_is_better f 0 F_is_better := fun C cdv A outer s H E hK hr => by
  have hu := hr.units
  have hu1 := hu_of hr
  exact dss_cons (ds_set sc_is_better.nd rfl (by first | exact Or.inl rfl | exact Or.inr rfl) (de_dget hu1 (dm_dict (cr_dictG hK rfl) rfl B.dict (by decide +kernel) (de_ix hK (dv 0) (dc_int) (fun _ _ => rfl))) (dv 1) (fun _ _ => rfl))) (dss_cons (ds_if (dt_cmp (op_ninG hK hu) (dv 2) (dv 4) rfl) (dss_one (ds_ret (dc_bool))) (dss_nil)) (dss_one (ds_ret (de_or hK (de_cmp (op_ninG hK hu) (dv 3) (dv 4) rfl) (de_one (de_cmp (op_ltG hK hu) (de_M hK (by first | exact Or.inl rfl | exact Or.inr rfl) PySem.F.plainAttrs_tuple PySem.F.slot_tuple_index PySem.F.type_tuple_index (mt_ixT hK hu) (dv 4) (dv 2)) (de_M hK (by first | exact Or.inl rfl | exact Or.inr rfl) PySem.F.plainAttrs_tuple PySem.F.slot_tuple_index PySem.F.type_tuple_index (mt_ixT hK hu) (dv 4) (dv 3)) rfl))))))
abbrev D_is_better (P : Program) (w : World) (K : PySem.W.Frag) (mg : Str → Option Value) (base : Heap) : Prop := Def P w K mg base 1 "is_better" "is_better" d_is_better ["book", "person", "one", "other"] (spF K 4 m_is_better)
theorem mk_is_better {f : Addr} {fd : FuncData} (B : BI mg) (Cn : CN mg) (Fn : Fun K "is_better" "is_better" d_is_better f fd) (hm : mg "is_better" = some (.ref f)) : D_is_better P w K mg base :=
  ⟨⟨f, fd, fnA Fn sc_is_better (b_is_better B Cn), hm, Fn⟩, fun _ _ _ _ _ _ us hl => match us, hl with | [_, _, _, _], _ => rfl⟩
abbrev d_likes_better : Stmt := topS 25
abbrev N_likes_better : List Str := ["book", "person", "one", "other"]
theorem sc_likes_better : FnScope N_likes_better ["book", "person", "one", "other"] (defScope d_likes_better) := ⟨rfl, rfl, rfl, by decide +kernel, rfl, by decide +kernel, by decide +kernel⟩
theorem b_likes_better {f : Addr} (B : BI mg) (Cn : CN mg) (Ck : CK P w K mg base) (H_look_person : D_look_person P w K mg base) (H_look_house : D_look_house P w K mg base) (H_is_better : D_is_better P w K mg base) : BodyOkX P w K mg base N_likes_better "likes_better" d_likes_better f 2 F_likes_better := fun C cdv A outer s H E hK hxe hcl hr => by
  have hu := hr.units
  have hu1 := hu_of hr
  have tk : Takes (cxOf (L2.CX P w) P w K mg base N_likes_better "likes_better" (defScope d_likes_better) f cdv A outer s H E) (fun cls d _ H => C.xe cls d H) := by
    rw [hxe]
    exact takes_of rfl rfl rfl rfl
  exact dss_cons (ds_exprX (dx_callD hK hcl tk H_look_person (hr.mono (by omega)) rfl (da_cons (dv 0) (da_cons (dv 1) (da_nil))))) (dss_cons (ds_exprX (dx_callD hK hcl tk H_look_house (hr.mono (by omega)) rfl (da_cons (dv 0) (da_cons (dv 2) (da_nil))))) (dss_cons (ds_if (dt_isnN (dv 3)) (dss_one (ds_exprX (dx_callD hK hcl tk H_look_house (hr.mono (by omega)) rfl (da_cons (dv 0) (da_cons (dv 3) (da_nil)))))) (dss_nil)) (dss_one (ds_ret (de_callD hK H_is_better (hr.mono (by omega)) rfl (da_cons (dv 0) (da_cons (dv 1) (da_cons (dv 2) (da_cons (dv 3) (da_nil))))))))))
abbrev D_likes_better (P : Program) (w : World) (K : PySem.W.Frag) (mg : Str → Option Value) (base : Heap) : Prop := Def P w K mg base 3 "likes_better" "likes_better" d_likes_better ["book", "person", "one", "other"] (spX K (clsOf mg) 4 x_likes_better)
theorem mk_likes_better {f : Addr} {fd : FuncData} (B : BI mg) (Cn : CN mg) (Ck : CK P w K mg base) (H_look_person : D_look_person P w K mg base) (H_look_house : D_look_house P w K mg base) (H_is_better : D_is_better P w K mg base) (Fn : Fun K "likes_better" "likes_better" d_likes_better f fd) (hm : mg "likes_better" = some (.ref f)) : D_likes_better P w K mg base :=
  ⟨⟨f, fd, fnX Fn sc_likes_better (b_likes_better B Cn Ck H_look_person H_look_house H_is_better), hm, Fn⟩, fun _ _ _ _ _ _ us hl => match us, hl with | [_, _, _, _], _ => rfl⟩
abbrev d__law_heard : Stmt := topS 27
abbrev N__law_heard : List Str := ["deed", "refused", "found", "e", "some", "names", "word"]
theorem sc__law_heard : FnScope N__law_heard ["deed"] (defScope d__law_heard) := ⟨rfl, rfl, rfl, by decide +kernel, rfl, by decide +kernel, by decide +kernel⟩
abbrev d__law_is : Stmt := topS 28
abbrev N__law_is : List Str := ["found", "due"]
theorem sc__law_is : FnScope N__law_is ["found", "due"] (defScope d__law_is) := ⟨rfl, rfl, rfl, by decide +kernel, rfl, by decide +kernel, by decide +kernel⟩
theorem b__law_is {f : Addr} (B : BI mg) (Cn : CN mg) : BodyOk P w K mg base N__law_is "_law_is" d__law_is f 0 F__law_is := fun C cdv A outer s H E hK hr => by
  have hu := hr.units
  have hu1 := hu_of hr
  exact dss_one (ds_ret (de_and hK (de_isi hK (dv 0) rfl B.isinstance rfl B.bool (by decide +kernel)) (de_one (de_cmp (op_eqG hK hu) (dv 0) (dv 1) rfl))))
abbrev D__law_is (P : Program) (w : World) (K : PySem.W.Frag) (mg : Str → Option Value) (base : Heap) : Prop := Def P w K mg base 1 "_law_is" "_law_is" d__law_is ["found", "due"] (spF K 2 m__law_is)
theorem mk__law_is {f : Addr} {fd : FuncData} (B : BI mg) (Cn : CN mg) (Fn : Fun K "_law_is" "_law_is" d__law_is f fd) (hm : mg "_law_is" = some (.ref f)) : D__law_is P w K mg base :=
  ⟨⟨f, fd, fnA Fn sc__law_is (b__law_is B Cn), hm, Fn⟩, fun _ _ _ _ _ _ us hl => match us, hl with | [_, _], _ => rfl⟩
abbrev d__law_draw : Stmt := topS 29
abbrev N__law_draw : List Str := ["script", "town", "many", "at", "rest", "number"]
theorem sc__law_draw : FnScope N__law_draw ["script", "town", "many"] (defScope d__law_draw) := ⟨rfl, rfl, rfl, by decide +kernel, rfl, by decide +kernel, by decide +kernel⟩
theorem b__law_draw {f : Addr} (B : BI mg) (Cn : CN mg) : BodyOkT P w K mg base N__law_draw "_law_draw" d__law_draw f 0 F__law_draw := fun C cdv A outer s H E hK ht hr => by
  have hu := hr.units
  have hu1 := hu_of hr
  have V0 := (Or.inl rfl : Vis (defScope d__law_draw) "script")
  have V1 := (Or.inl rfl : Vis (defScope d__law_draw) "town")
  exact dss_cons (ds_cnt hu1 (pe_var rfl V1) (de_op (op_addG hK) (de_cnt hu1 (pe_var rfl V1)) (dc_int))) (dss_cons (ds_set sc__law_draw.nd rfl (by first | exact Or.inl rfl | exact Or.inr rfl) (de_if (dt_truS hK (pe_var rfl V0)) (de_op (op_modG hK) (de_cnt hu1 (pe_var rfl V1)) (de_lenS hK rfl B.len (pe_var rfl V0))) (dc_int))) (dss_cons (ds_set sc__law_draw.nd rfl (by first | exact Or.inl rfl | exact Or.inr rfl) (de_rst ht hu1 (pe_var rfl V1) (dv 3) (de_if (dt_truS hK (pe_var rfl V0)) (de_ixS hK (pe_var rfl V0) (dv 3) (fun _ _ => rfl)) (dc_int)) ⟨rfl, rfl, rfl, rfl⟩)) (dss_cons (ds_if (dt_cmp (op_geG hK) (dv 4) (de_op (op_powG hK) (dc_int) (dc_int)) rfl) (dss_cons (ds_rst ht hu1 (pe_var rfl V1) (dv 3) (de_op (op_divG hK) (dv 4) (dv 2))) (dss_one (ds_ret (de_op (op_modG hK) (dv 4) (dv 2))))) (dss_nil)) (dss_cons (ds_set sc__law_draw.nd rfl (by first | exact Or.inl rfl | exact Or.inr rfl) (de_op (op_modG hK) (de_op (op_addG hK) (dv 4) (de_op (op_mulI hK) (dc_int) (de_cnt hu1 (pe_var rfl V1)))) (dc_int))) (dss_cons (ds_set sc__law_draw.nd rfl (by first | exact Or.inl rfl | exact Or.inr rfl) (de_op (op_modG hK) (de_op (op_powG hK) (dv 5) (dc_int)) (dc_int))) (dss_one (ds_ret (de_op (op_modG hK) (de_op (op_divG hK) (de_op (op_modG hK) (de_op (op_addG hK) (de_op (op_mulI hK) (de_op (op_divG hK) (dv 5) (dc_int)) (dc_int)) (dv 5)) (dc_int)) (dc_int)) (dv 2)))))))))
abbrev D__law_draw (P : Program) (w : World) (K : PySem.W.Frag) (mg : Str → Option Value) (base : Heap) : Prop := Def P w K mg base 1 "_law_draw" "_law_draw" d__law_draw ["script", "town", "many"] (spT K 1 m__law_draw)
theorem mk__law_draw {f : Addr} {fd : FuncData} (B : BI mg) (Cn : CN mg) (Fn : Fun K "_law_draw" "_law_draw" d__law_draw f fd) (hm : mg "_law_draw" = some (.ref f)) : D__law_draw P w K mg base :=
  ⟨⟨f, fd, fnT rfl Fn sc__law_draw (b__law_draw B Cn), hm, Fn⟩, fun _ _ _ _ _ _ us hl => match us, hl with | [_, _, _], _ => rfl⟩
abbrev d__law_begun : Stmt := topS 30
theorem sc__law_begun : FnScope [] [] (defScope d__law_begun) := ⟨rfl, rfl, rfl, by decide +kernel, rfl, by decide +kernel, by decide +kernel⟩
abbrev D__law_begun (P : Program) (w : World) (K : PySem.W.Frag) (mg : Str → Option Value) (base : Heap) : Prop := Def P w K mg base 1 "_law_begun" "_law_begun" d__law_begun [] (spBg K)
theorem mk__law_begun {f : Addr} {fd : FuncData} (Fn : Fun K "_law_begun" "_law_begun" d__law_begun f fd) (hm : mg "_law_begun" = some (.ref f)) : D__law_begun P w K mg base :=
  ⟨⟨f, fd, fnBg Fn sc__law_begun rfl, hm, Fn⟩, fun _ _ _ _ _ _ us hl => match us, hl with | [], _ => rfl⟩
abbrev d__law_mixed : Stmt := topS 31
abbrev N__law_mixed : List Str := ["script", "town", "names", "least", "rest", "found"]
theorem sc__law_mixed : FnScope N__law_mixed ["script", "town", "names", "least"] (defScope d__law_mixed) := ⟨rfl, rfl, rfl, by decide +kernel, rfl, by decide +kernel, by decide +kernel⟩
theorem b__law_mixed {f : Addr} (B : BI mg) (Cn : CN mg) (H__law_draw : D__law_draw P w K mg base) : BodyOkT P w K mg base N__law_mixed "_law_mixed" d__law_mixed f 1 F__law_mixed := fun C cdv A outer s H E hK ht hr => by
  have hu := hr.units
  have hu1 := hu_of hr
  exact dss_cons (ds_par rfl sc__law_mixed.nd rfl rfl (by decide) rfl rfl (dx_f (df_callTy (cr_listG hK) rfl B.list (by decide +kernel) (dv 2)) (dx_f (df_lst (da_nil)) (dx_nil)))) (dss_cons (ds_while 200 PassesOwn.never (PW.pt (dw_and (dt_cmp (op_neG hK hu) (dv 4) (de_lst (da_nil)) rfl) (dw_and1 (PW.pt (dw_or (dt_cmp (op_ltG hK hu) (de_callB (cr_len hK) rfl B.len (by decide +kernel) (da_cons (dv 5) (da_nil))) (dv 3) rfl) (dw_or1 (dt_cmp (op_gtG hK) (de_callTD hK H__law_draw (hr.mono (by omega)) rfl (da_cons (dv 0) (da_cons (dv 1) (da_cons (dc_int) (da_nil))))) (dc_int) rfl))))))) (dss_one (ds_app (pe_var rfl (by first | exact Or.inl rfl | exact Or.inr (Or.inl rfl) | exact Or.inr (Or.inr rfl))) (de_pop (pe_var rfl (by first | exact Or.inl rfl | exact Or.inr (Or.inl rfl) | exact Or.inr (Or.inr rfl))) (de_callTD hK H__law_draw (hr.mono (by omega)) rfl (da_cons (dv 0) (da_cons (dv 1) (da_cons (de_callB (cr_len hK) rfl B.len (by decide +kernel) (da_cons (dv 4) (da_nil))) (da_nil))))))))) (dss_one (ds_ret (de_callTy (cr_tupG hK) rfl B.tuple (by decide +kernel) (da_cons (dv 5) (da_nil))))))
abbrev D__law_mixed (P : Program) (w : World) (K : PySem.W.Frag) (mg : Str → Option Value) (base : Heap) : Prop := Def P w K mg base 2 "_law_mixed" "_law_mixed" d__law_mixed ["script", "town", "names", "least"] (spT K 2 m__law_mixed)
theorem mk__law_mixed {f : Addr} {fd : FuncData} (B : BI mg) (Cn : CN mg) (H__law_draw : D__law_draw P w K mg base) (Fn : Fun K "_law_mixed" "_law_mixed" d__law_mixed f fd) (hm : mg "_law_mixed" = some (.ref f)) : D__law_mixed P w K mg base :=
  ⟨⟨f, fd, fnT rfl Fn sc__law_mixed (b__law_mixed B Cn H__law_draw), hm, Fn⟩, fun _ _ _ _ _ _ us hl => match us, hl with | [_, _, _, _], _ => rfl⟩
abbrev d__law_a_book : Stmt := topS 32
abbrev N__law_a_book : List Str := ["script", "town", "houses_most", "people_most", "houses", "people", "rows", "house", "person"]
theorem sc__law_a_book : FnScope N__law_a_book ["script", "town", "houses_most", "people_most"] (defScope d__law_a_book) := ⟨rfl, rfl, rfl, by decide +kernel, rfl, by decide +kernel, by decide +kernel⟩
theorem b__law_a_book {f : Addr} (B : BI mg) (Cn : CN mg) (H__law_draw : D__law_draw P w K mg base) (H__law_mixed : D__law_mixed P w K mg base) : BodyOkT P w K mg base N__law_a_book "_law_a_book" d__law_a_book f 2 F__law_a_book := fun C cdv A outer s H E hK ht hr => by
  have hu := hr.units
  have hu1 := hu_of hr
  exact dss_cons (ds_set sc__law_a_book.nd rfl (by first | exact Or.inl rfl | exact Or.inr rfl) (de_sl hK (de_tup (da_cons (dc_str) (da_cons (dc_str) (da_cons (dc_str) (da_cons (dc_str) (da_cons (dc_str) (da_nil))))))) (do_none) (do_some (de_op (op_addG hK) (dc_int) (de_callTD hK H__law_draw (hr.mono (by omega)) rfl (da_cons (dv 0) (da_cons (dv 1) (da_cons (dv 2) (da_nil))))))))) (dss_cons (ds_set sc__law_a_book.nd rfl (by first | exact Or.inl rfl | exact Or.inr rfl) (de_sl hK (de_tup (da_cons (dc_str) (da_cons (dc_str) (da_cons (dc_str) (da_cons (dc_str) (da_cons (dc_str) (da_nil))))))) (do_none) (do_some (de_op (op_addG hK) (dc_int) (de_callTD hK H__law_draw (hr.mono (by omega)) rfl (da_cons (dv 0) (da_cons (dv 1) (da_cons (dv 3) (da_nil))))))))) (dss_cons (ds_set sc__law_a_book.nd rfl (by first | exact Or.inl rfl | exact Or.inr rfl) (de_callTy (cr_tupG hK) rfl B.tuple (by decide +kernel) (da_cons (de_F (df_lc [("house", 7)] rfl sc__law_a_book.nd (di_seq hK (dv 4)) (show blkC N__law_a_book (defScope d__law_a_book) _ _ = true by decide +kernel) (fun _ _ _ _ _ => dg_name sc__law_a_book.nd rfl (by first | exact Or.inl rfl | exact Or.inr rfl)) (fun _ _ _ _ _ => dts_nil) (fun _ _ _ _ _ => de_tup (da_cons (dv 7) (da_cons (de_callTD hK H__law_mixed (hr.mono (by omega)) rfl (da_cons (dv 0) (da_cons (dv 1) (da_cons (dv 5) (da_cons (dc_int) (da_nil)))))) (da_nil)))) (by decide))) (da_nil)))) (dss_one (ds_ret (de_tup (da_cons (dv 6) (da_cons (de_callTy (cr_tupG hK) rfl B.tuple (by decide +kernel) (da_cons (de_F (df_lc [("person", 8)] rfl sc__law_a_book.nd (di_seq hK (dv 5)) (show blkC N__law_a_book (defScope d__law_a_book) _ _ = true by decide +kernel) (fun _ _ _ _ _ => dg_name sc__law_a_book.nd rfl (by first | exact Or.inl rfl | exact Or.inr rfl)) (fun _ _ _ _ _ => dts_nil) (fun _ _ _ _ _ => de_tup (da_cons (dv 8) (da_cons (de_callTD hK H__law_mixed (hr.mono (by omega)) rfl (da_cons (dv 0) (da_cons (dv 1) (da_cons (dv 4) (da_cons (dc_int) (da_nil)))))) (da_nil)))) (by decide))) (da_nil))) (da_nil))))))))
abbrev D__law_a_book (P : Program) (w : World) (K : PySem.W.Frag) (mg : Str → Option Value) (base : Heap) : Prop := Def P w K mg base 3 "_law_a_book" "_law_a_book" d__law_a_book ["script", "town", "houses_most", "people_most"] (spT K 2 m__law_a_book)
theorem mk__law_a_book {f : Addr} {fd : FuncData} (B : BI mg) (Cn : CN mg) (H__law_draw : D__law_draw P w K mg base) (H__law_mixed : D__law_mixed P w K mg base) (Fn : Fun K "_law_a_book" "_law_a_book" d__law_a_book f fd) (hm : mg "_law_a_book" = some (.ref f)) : D__law_a_book P w K mg base :=
  ⟨⟨f, fd, fnT rfl Fn sc__law_a_book (b__law_a_book B Cn H__law_draw H__law_mixed), hm, Fn⟩, fun _ _ _ _ _ _ us hl => match us, hl with | [_, _, _, _], _ => rfl⟩
abbrev d__law_homes : Stmt := topS 33
abbrev N__law_homes : List Str := ["book_here", "person", "rows", "likes", "house"]
theorem sc__law_homes : FnScope N__law_homes ["book_here", "person"] (defScope d__law_homes) := ⟨rfl, rfl, rfl, by decide +kernel, rfl, by decide +kernel, by decide +kernel⟩
theorem b__law_homes {f : Addr} (B : BI mg) (Cn : CN mg) : BodyOk P w K mg base N__law_homes "_law_homes" d__law_homes f 0 F__law_homes := fun C cdv A outer s H E hK hr => by
  have hu := hr.units
  have hu1 := hu_of hr
  exact dss_cons (ds_parT (is := [2, 3]) rfl (by decide) (dx_m (dm_dict (cr_dictG hK rfl) rfl B.dict (by decide +kernel) (de_ix hK (dv 0) (dc_int) (fun _ _ => rfl))) (dx_m (dm_dict (cr_dictG hK rfl) rfl B.dict (by decide +kernel) (de_ix hK (dv 0) (dc_int) (fun _ _ => rfl))) (dx_nil))) (pgs_cons (pg_name sc__law_homes.nd rfl (by first | exact Or.inl rfl | exact Or.inr rfl)) (pgs_cons (pg_name sc__law_homes.nd rfl (by first | exact Or.inl rfl | exact Or.inr rfl)) (pgs_nil)))) (dss_one (ds_ret (de_F (df_lc [("house", 4)] rfl sc__law_homes.nd (di_seq hK (de_mget hu1 (pe_var rfl (by first | exact Or.inl rfl | exact Or.inr (Or.inl rfl) | exact Or.inr (Or.inr rfl))) (dv 1) (fun _ _ => rfl))) (show blkC N__law_homes (defScope d__law_homes) _ _ = true by decide +kernel) (fun _ _ _ _ _ => dg_name sc__law_homes.nd rfl (by first | exact Or.inl rfl | exact Or.inr rfl)) (fun _ _ _ _ _ => dts_one (dt_cmp (op_inG hK hu) (dv 1) (de_mget hu1 (pe_var rfl (by first | exact Or.inl rfl | exact Or.inr (Or.inl rfl) | exact Or.inr (Or.inr rfl))) (dv 4) (fun _ _ => rfl)) rfl)) (fun _ _ _ _ _ => dv 4) (by decide)))))
abbrev D__law_homes (P : Program) (w : World) (K : PySem.W.Frag) (mg : Str → Option Value) (base : Heap) : Prop := Def P w K mg base 1 "_law_homes" "_law_homes" d__law_homes ["book_here", "person"] (spF K 2 m__law_homes)
theorem mk__law_homes {f : Addr} {fd : FuncData} (B : BI mg) (Cn : CN mg) (Fn : Fun K "_law_homes" "_law_homes" d__law_homes f fd) (hm : mg "_law_homes" = some (.ref f)) : D__law_homes P w K mg base :=
  ⟨⟨f, fd, fnB Fn sc__law_homes (b__law_homes B Cn), hm, Fn⟩, fun _ _ _ _ _ _ us hl => match us, hl with | [_, _], _ => rfl⟩
abbrev d__law_better : Stmt := topS 34
abbrev N__law_better : List Str := ["likes", "one", "other_here"]
theorem sc__law_better : FnScope N__law_better ["likes", "one", "other_here"] (defScope d__law_better) := ⟨rfl, rfl, rfl, by decide +kernel, rfl, by decide +kernel, by decide +kernel⟩
theorem b__law_better {f : Addr} (B : BI mg) (Cn : CN mg) : BodyOk P w K mg base N__law_better "_law_better" d__law_better f 0 F__law_better := fun C cdv A outer s H E hK hr => by
  have hu := hr.units
  have hu1 := hu_of hr
  exact dss_one (ds_ret (de_and hK (de_cmp (op_inG hK hu) (dv 1) (dv 0) rfl) (de_one (de_or hK (de_cmp (op_ninG hK hu) (dv 2) (dv 0) rfl) (de_one (de_cmp (op_ltG hK hu) (de_M hK (by first | exact Or.inl rfl | exact Or.inr rfl) PySem.F.plainAttrs_tuple PySem.F.slot_tuple_index PySem.F.type_tuple_index (mt_ixT hK hu) (dv 0) (dv 1)) (de_M hK (by first | exact Or.inl rfl | exact Or.inr rfl) PySem.F.plainAttrs_tuple PySem.F.slot_tuple_index PySem.F.type_tuple_index (mt_ixT hK hu) (dv 0) (dv 2)) rfl))))))
abbrev D__law_better (P : Program) (w : World) (K : PySem.W.Frag) (mg : Str → Option Value) (base : Heap) : Prop := Def P w K mg base 1 "_law_better" "_law_better" d__law_better ["likes", "one", "other_here"] (spF K 3 m__law_better)
theorem mk__law_better {f : Addr} {fd : FuncData} (B : BI mg) (Cn : CN mg) (Fn : Fun K "_law_better" "_law_better" d__law_better f fd) (hm : mg "_law_better" = some (.ref f)) : D__law_better P w K mg base :=
  ⟨⟨f, fd, fnA Fn sc__law_better (b__law_better B Cn), hm, Fn⟩, fun _ _ _ _ _ _ us hl => match us, hl with | [_, _, _], _ => rfl⟩
abbrev d__law_all : Stmt := topS 35
abbrev N__law_all : List Str := ["book_here", "found", "person", "likes", "more", "row", "free", "house"]
theorem sc__law_all : FnScope N__law_all ["book_here"] (defScope d__law_all) := ⟨rfl, rfl, rfl, by decide +kernel, rfl, by decide +kernel, by decide +kernel⟩
theorem b__law_all {f : Addr} (B : BI mg) (Cn : CN mg) (H__law_homes : D__law_homes P w K mg base) : BodyOk P w K mg base N__law_all "_law_all" d__law_all f 1 F__law_all := fun C cdv A outer s H E hK hr => by
  have hu := hr.units
  have hu1 := hu_of hr
  exact dss_cons (ds_set sc__law_all.nd rfl (by first | exact Or.inl rfl | exact Or.inr rfl) (de_lst (da_cons (de_tup (da_nil)) (da_nil)))) (dss_cons (ds_for PassesOwn.never rfl (di_seq hK (de_ix hK (dv 0) (dc_int) (fun _ _ => rfl))) (dg_tup hK rfl (dgs_cons (dg_name sc__law_all.nd rfl (by first | exact Or.inl rfl | exact Or.inr rfl)) (dgs_cons (dg_name sc__law_all.nd rfl (by first | exact Or.inl rfl | exact Or.inr rfl)) (dgs_nil)))) (dss_cons (ds_own sc__law_all.nd rfl (by first | exact Or.inl rfl | exact Or.inr rfl) (df_lst (da_nil))) (dss_cons (ds_for PassesOwn.never rfl (di_seq hK (dv 1)) (dg_name sc__law_all.nd rfl (by first | exact Or.inl rfl | exact Or.inr rfl)) (dss_cons (ds_setLc [("house", 7)] rfl sc__law_all.nd rfl rfl rfl (di_seq hK (de_F (df_callB (cr_sortG hK hu) rfl B.sorted (by decide +kernel) (de_callD hK H__law_homes (hr.mono (by omega)) rfl (da_cons (dv 0) (da_cons (dv 2) (da_nil))))))) (show blkC N__law_all (defScope d__law_all) _ _ = true by decide +kernel) (fun _ _ _ _ _ => dg_name sc__law_all.nd rfl (by first | exact Or.inl rfl | exact Or.inr rfl)) (fun _ _ _ _ _ => dts_one (dt_cmp (op_ninG hK hu) (dv 7) (dv 5) rfl)) (fun _ _ _ _ _ => dv 7) (by decide)) (dss_one (ds_ext (pe_var rfl (by first | exact Or.inl rfl | exact Or.inr (Or.inl rfl) | exact Or.inr (Or.inr rfl))) (de_F (df_lc [("house", 7)] rfl sc__law_all.nd (di_seq hK (de_op (op_addG hK) (de_lst (da_cons (dc_none) (da_nil))) (dv 6))) (show blkC N__law_all (defScope d__law_all) _ _ = true by decide +kernel) (fun _ _ _ _ _ => dg_name sc__law_all.nd rfl (by first | exact Or.inl rfl | exact Or.inr rfl)) (fun _ _ _ _ _ => dts_nil) (fun _ _ _ _ _ => de_op (op_addG hK) (dv 5) (de_tup (da_cons (dv 7) (da_nil)))) (by decide))))))) (dss_one (ds_set sc__law_all.nd rfl (by first | exact Or.inl rfl | exact Or.inr rfl) (dv 4)))))) (dss_one (ds_ret (dv 1))))
abbrev D__law_all (P : Program) (w : World) (K : PySem.W.Frag) (mg : Str → Option Value) (base : Heap) : Prop := Def P w K mg base 2 "_law_all" "_law_all" d__law_all ["book_here"] (spF K 1 m__law_all)
theorem mk__law_all {f : Addr} {fd : FuncData} (B : BI mg) (Cn : CN mg) (H__law_homes : D__law_homes P w K mg base) (Fn : Fun K "_law_all" "_law_all" d__law_all f fd) (hm : mg "_law_all" = some (.ref f)) : D__law_all P w K mg base :=
  ⟨⟨f, fd, fnB Fn sc__law_all (b__law_all B Cn H__law_homes), hm, Fn⟩, fun _ _ _ _ _ _ us hl => match us, hl with | [_], _ => rfl⟩
abbrev d_law : Stmt := topS 36
abbrev N_law : List Str := ["script", "town", "k", "one", "person", "likes", "other_here", "due", "odd", "book_here", "houses"]
theorem sc_law : FnScope N_law ["script"] (defScope d_law) := ⟨rfl, rfl, rfl, by decide +kernel, rfl, by decide +kernel, by decide +kernel⟩
theorem b_law {f c0 Pt : Addr} (TB : LamX.TabB base mg c0 Pt) (B : BI mg) (Cn : CN mg) (Hh : Hear K mg d__law_heard N__law_heard) (H__law_begun : D__law_begun P w K mg base) (H__law_a_book : D__law_a_book P w K mg base) (H_standings : D_standings P w K mg base) (H__law_all : D__law_all P w K mg base) (H__law_better : D__law_better P w K mg base) (H__law_is : D__law_is P w K mg base) (H_likes_better : D_likes_better P w K mg base) : BodyOkLT P w K mg base N_law "law" d_law f (.ref c0) Pt ((PyProof.Rows.envOfC "law" (defScope d_law) 0 f (.ref c0)).qual ++ "<lambda>") 6 F_law := fun C A outer s H E hK ht hTt hL hr => by
  have hu := hr.units
  have hu1 := hu_of hr
  have hT : TabX (cxOf (L2.CX P w) P w K mg base N_law "law" (defScope d_law) f (.ref c0) A outer s H E).nox C := ⟨hL, c0, Pt, TB, rfl, hTt⟩
  exact dss_cons (ds_bgD hK ht sc_law.nd rfl (by first | exact Or.inl rfl | exact Or.inr rfl) H__law_begun (hr.mono (by omega)) rfl) (dss_cons (ds_for PassesOwn.never rfl (di_range rfl B.range (dc_int)) (dg_name sc_law.nd rfl (by first | exact Or.inl rfl | exact Or.inr rfl)) (dss_cons (ds_set sc_law.nd rfl (by first | exact Or.inl rfl | exact Or.inr rfl) (de_callTD hK H__law_a_book (hr.mono (by omega)) rfl (da_cons (dv 0) (da_cons (dv 1) (da_cons (dc_int) (da_cons (dc_int) (da_nil))))))) (dss_cons (ds_if (dt_cmp (op_neG hK hu) (de_callKD0 hK H_standings (hr.mono (by omega)) rfl (show KwOk "standings" d_standings ["book"] ["book"] 0 from ⟨rfl, by simp, fun _ _ _ _ _ _ us ws h1 h2 => match us, ws, h1, h2 with | [], [_], _, _ => rfl⟩) (dk_cons (dv 9) (dk_nil))) (de_callTy (cr_tupG hK) rfl B.tuple (by decide +kernel) (da_cons (de_callD hK H__law_all (hr.mono (by omega)) rfl (da_cons (dv 9) (da_nil))) (da_nil))) rfl) (dss_one (ds_ret (dc_bool))) (dss_nil)) (dss_cons (ds_set sc_law.nd rfl (by first | exact Or.inl rfl | exact Or.inr rfl) (de_F (df_lc [("one", 3)] rfl sc_law.nd (di_seq hK (de_ix hK (dv 9) (dc_int) (fun _ _ => rfl))) (show blkC N_law (defScope d_law) _ _ = true by decide +kernel) (fun _ _ _ _ _ => dg_name sc_law.nd rfl (by first | exact Or.inl rfl | exact Or.inr rfl)) (fun _ _ _ _ _ => dts_nil) (fun _ _ _ _ _ => de_ix hK (dv 3) (dc_int) (fun _ _ => rfl)) (by decide)))) (dss_cons (ds_for PassesOwn.never rfl (di_seq hK (de_ix hK (dv 9) (dc_int) (fun _ _ => rfl))) (dg_tup hK rfl (dgs_cons (dg_name sc_law.nd rfl (by first | exact Or.inl rfl | exact Or.inr rfl)) (dgs_cons (dg_name sc_law.nd rfl (by first | exact Or.inl rfl | exact Or.inr rfl)) (dgs_nil)))) (dss_one (ds_for PassesOwn.never rfl (di_seq hK (dv 10)) (dg_name sc_law.nd rfl (by first | exact Or.inl rfl | exact Or.inr rfl)) (dss_one (ds_for PassesOwn.never rfl (di_seq hK (de_op (op_addG hK) (de_lst (da_cons (dc_none) (da_nil))) (dv 10))) (dg_name sc_law.nd rfl (by first | exact Or.inl rfl | exact Or.inr rfl)) (dss_cons (ds_set sc_law.nd rfl (by first | exact Or.inl rfl | exact Or.inr rfl) (de_callD hK H__law_better (hr.mono (by omega)) rfl (da_cons (dv 5) (da_cons (dv 3) (da_cons (dv 6) (da_nil)))))) (dss_one (ds_if (dt_not (dt_tru hK (de_callD hK H__law_is (hr.mono (by omega)) rfl (da_cons (de_callKD hK H_likes_better.ok (hr.mono (by omega)) rfl (show KwOk "likes_better" d_likes_better ["book", "person", "one", "other"] ["other"] 3 from ⟨rfl, by simp, fun _ _ _ _ _ _ us ws h1 h2 => match us, ws, h1, h2 with | [_, _, _], [_], _, _ => rfl⟩) (da_cons (dv 9) (da_cons (dv 4) (da_cons (dv 3) (da_nil)))) (dk_cons (dv 6) (dk_nil)) (aCons_n (aCons_n (aCons_n (fun _ _ _ h => aNil_n h))))) (da_cons (dv 7) (da_nil)))))) (dss_one (ds_ret (dc_bool))) (dss_nil))))))))) (dss_cons (ds_own sc_law.nd rfl (by first | exact Or.inl rfl | exact Or.inr rfl) (df_lst (da_cons (de_heard (k := 4) hK hT Hh (hr.mono (by omega)) rfl (show LamX.LamS (defScope d_law) _ from LamX.lamS_by (by decide +kernel)) rfl (fun _ _ _ _ _ => rfl) (fun A2 outer2 s2 H2 E2 f2 c2 hr2 => dx_callD hK rfl (takes_of rfl rfl rfl rfl) H_likes_better (hr2.mono (by omega)) rfl (da_cons (dv 9) (da_cons (dc_str) (da_cons (dc_str) (da_cons (dc_none) (da_nil))))))) (da_nil)))) (dss_cons (ds_app (pe_var rfl (by first | exact Or.inl rfl | exact Or.inr (Or.inl rfl) | exact Or.inr (Or.inr rfl))) (de_heard (k := 4) hK hT Hh (hr.mono (by omega)) rfl (show LamX.LamS (defScope d_law) _ from LamX.lamS_by (by decide +kernel)) rfl (fun _ _ _ _ _ => rfl) (fun A2 outer2 s2 H2 E2 f2 c2 hr2 => dx_callD hK rfl (takes_of rfl rfl rfl rfl) H_likes_better (hr2.mono (by omega)) rfl (da_cons (dv 9) (da_cons (dc_none) (da_cons (de_ix hK (dv 10) (dc_int) (fun _ _ => rfl)) (da_cons (dc_none) (da_nil)))))))) (dss_cons (ds_app (pe_var rfl (by first | exact Or.inl rfl | exact Or.inr (Or.inl rfl) | exact Or.inr (Or.inr rfl))) (de_heard (k := 4) hK hT Hh (hr.mono (by omega)) rfl (show LamX.LamS (defScope d_law) _ from LamX.lamS_by (by decide +kernel)) rfl (fun _ _ _ _ _ => rfl) (fun A2 outer2 s2 H2 E2 f2 c2 hr2 => dx_callD hK rfl (takes_of rfl rfl rfl rfl) H_likes_better (hr2.mono (by omega)) rfl (da_cons (dv 9) (da_cons (dc_str) (da_cons (dc_none) (da_cons (dc_none) (da_nil)))))))) (dss_cons (ds_app (pe_var rfl (by first | exact Or.inl rfl | exact Or.inr (Or.inl rfl) | exact Or.inr (Or.inr rfl))) (de_heard (k := 4) hK hT Hh (hr.mono (by omega)) rfl (show LamX.LamS (defScope d_law) _ from LamX.lamS_by (by decide +kernel)) rfl (fun _ _ _ _ _ => rfl) (fun A2 outer2 s2 H2 E2 f2 c2 hr2 => dx_callD hK rfl (takes_of rfl rfl rfl rfl) H_likes_better (hr2.mono (by omega)) rfl (da_cons (dv 9) (da_cons (dc_str) (da_cons (dc_str) (da_cons (de_ix hK (dv 10) (dc_int) (fun _ _ => rfl)) (da_nil)))))))) (dss_cons (ds_app (pe_var rfl (by first | exact Or.inl rfl | exact Or.inr (Or.inl rfl) | exact Or.inr (Or.inr rfl))) (de_heard (k := 4) hK hT Hh (hr.mono (by omega)) rfl (show LamX.LamS (defScope d_law) _ from LamX.lamS_by (by decide +kernel)) rfl (fun _ _ _ _ _ => rfl) (fun A2 outer2 s2 H2 E2 f2 c2 hr2 => dx_callD hK rfl (takes_of rfl rfl rfl rfl) H_likes_better (hr2.mono (by omega)) rfl (da_cons (dv 9) (da_cons (dc_str) (da_cons (de_ix hK (dv 10) (dc_int) (fun _ _ => rfl)) (da_cons (dc_str) (da_nil)))))))) (dss_one (ds_if (dt_cmp (op_neG hK hu) (dv 8) (de_op (op_addG hK) (de_op (op_mulLG hK) (de_lst (da_cons (de_tup (da_cons (dc_str) (da_nil))) (da_nil))) (dc_int)) (de_op (op_mulLG hK) (de_lst (da_cons (de_tup (da_cons (dc_str) (da_nil))) (da_nil))) (dc_int))) rfl) (dss_one (ds_ret (dc_bool))) (dss_nil))))))))))))) (dss_one (ds_ret (dc_bool))))
end
end W
namespace W
open PySem PySem.Spec PyProof.Rows L2 DL
def simpleNames : List Str := ["NoPerson", "NoHouse", "NoStanding", "NoMove", "NoNames", "Unsettled", "Unfair", "NoNumber", "Unlike", "BadBook", "NoBack", "NoText"]
def heardNames : List Str := "MoveError" :: "Lived" :: "Muddled" :: simpleNames
/-- where the classes stand -/
structure HC (mg : Str → Option Value) (cl : Str → Addr) : Prop where
  at_ : ∀ x ∈ heardNames, mg x = some (.ref (cl x))
  li : mg "isinstance" = none
  ll : mg "len" = none
  lv : mg "ValueError" = none
section
variable {Y : Cx} {cl : Str → Addr}
theorem isr {x : Str} {p p1 p2 pos : Pos} (h : HC Y.mg cl) (hN : Y.N[1]? = some ("refused" : Str)) (hv : Vis Y.env.scope "refused") (hg : Gl Y "isinstance") (hx : Gl Y x) (hm : x ∈ heardNames) (hd : (x == ("__debug__" : Str)) = false := by decide)
    (he : starEach [.Name "refused" p1, .Name x p2] Y.env = (false, eval (.Name "refused" p1) Y.env) :: starEach [.Name x p2] Y.env := by rfl) (hpl : (backTo pos (starEach [.Name x p2] Y.env)).any (·.1) = false := by rfl) :
    PE Y (.Call (.Name "isinstance" p) [.Name "refused" p1, .Name x p2] [] pos) (tIsR Y.K (cl x)) :=
  pe_callB call_isT hg h.li (by decide +kernel) (pa_cons (pe_var hN hv) (pa_cons (pe_glob hx (h.at_ x hm) rfl hd) pa_nil) he) (by decide) (by decide) he hpl
theorem takes_len {X : Cx} {W : WX} (tk : Takes X W) : Takes X (fun cls d σ H => σ.length = X.N.length → W cls d σ H) := fun u s' ⟨a, B, sI, pins, σ, H, cls, d, e, I, nb, up, sky, na, os, ag, w⟩ =>
  tk u s' ⟨a, B, sI, pins, σ, H, cls, d, e, I, nb, up, sky, na, os, ag, w I.len⟩
theorem pe_weak {X : Cx} {e : Expr} {te : TE} (h : PE X e te) : PE X e (fun σ H Q => ∃ Qm : VK, (∀ v H', Qm v H' → Q v H') ∧ te σ H Qm) :=
  ⟨fun pins s σ H Q I ⟨Qm, k, q⟩ => thn (h.run pins s σ H Qm I q) fun u s1 ⟨v, H1, I1, r, q1⟩ => ⟨v, H1, I1, r, k v H1 q1⟩⟩
theorem heard_gives {X : Cx} {g : Addr} {cdg : Value} {q : Str} (h : HC X.mg cl) (hk : HK X.K cl) (hr : Room 1 X.A) :
    LamX.GivesTo X N__law_heard "_law_heard" (defScope d__law_heard) g cdg (defBody d__law_heard) "deed" q (TTh X.K (clsOf X.mg)) := by
  intro f c' s H Q tl act hc hT
  have hi : ∀ x ∈ heardNames, X.mg x = some (.ref (cl x)) := h.at_
  have nd : (N__law_heard).Nodup := sc__law_heard.nd
  refine ⟨_, pss_cons (ps_asg (pe_tupZ (pa_cons pe_non (pa_cons pe_non pa_nil))) (pg_tup rfl (pgs_cons (pg_name (i := 1) nd rfl (.inl rfl)) (pgs_cons (pg_name (i := 2) nd rfl (.inl rfl)) pgs_nil))))
    (pss_cons (ps_try_keep (i := 3) (c := .ref (cl "MoveError")) (tb := fun W G σ H => ∃ (E : XK) (Qm : VK), (∀ cls d σ' H', E cls d H' → σ'.length = 7 → W cls d σ' H') ∧ (∀ v H', Qm v H' → G.nx (σ.set 2 (some v)) H') ∧ σ[0]? = some (some (.ref f)) ∧ H c' = some (LamX.CodeO c' q) ∧ tl E H Qm)
        (ts := fun a cls d => tAsg (tVar 3) (gName 1)) rfl rfl rfl nd rfl rfl ⟨rfl, by decide, .inl (hi "MoveError" (by decide +kernel))⟩ ?body (fun a oe cls d pn _ _ => pss_one (ps_set (i := 1) nd rfl (.inl rfl) (pe_var (i := 3) rfl (.inl rfl)))))
    (pss_cons (ps_if (pt_cmp (pc_isN (pe_var (i := 1) rfl (.inl rfl)))) (pss_one (ps_ret (pe_tupZ (pa_cons pe_str (pa_cons (pe_var (i := 2) rfl (.inl rfl)) pa_nil))))) pss_nil)
    (pss_cons (ps_if (pt_truth (isr (x := "Lived") h rfl (.inl rfl) rfl rfl (by decide +kernel)) (by intro _; rfl)) (pss_one (ps_ret (pe_tupZ (pa_cons pe_str (pa_cons (pe_xfT (pe_var (i := 1) rfl (.inl rfl))) pa_nil))))) pss_nil)
    (pss_cons (ps_if (pt_truth (isr (x := "Muddled") h rfl (.inl rfl) rfl rfl (by decide +kernel)) (by intro _; rfl)) (pss_one (ps_ret (pe_tupZ (pa_cons pe_str (pa_cons (pe_xfT (pe_var (i := 1) rfl (.inl rfl))) pa_nil))))) pss_nil)
    (pss_cons (ps_set (i := 4) nd rfl (.inr rfl) (pe_disp (pps_cons pe_str (isr (x := "NoPerson") h rfl (.inl rfl) rfl rfl (by decide +kernel)) (pps_cons pe_str (isr (x := "NoHouse") h rfl (.inl rfl) rfl rfl (by decide +kernel)) pps_nil)) rfl rfl (by simp) (by decide)))
    (pss_cons (ps_expr (pe_bm PySem.F.plainAttrs_dict PySem.F.slot_dict_update PySem.F.type_dict_update mt_updK (pe_var (i := 4) rfl (.inr (.inl rfl))) (pa_cons (pe_disp (pps_cons pe_str (isr (x := "NoStanding") h rfl (.inl rfl) rfl rfl (by decide +kernel)) (pps_cons pe_str (isr (x := "NoMove") h rfl (.inl rfl) rfl rfl (by decide +kernel)) pps_nil)) rfl rfl (by simp) (by decide)) pa_nil)))
    (pss_cons (ps_expr (pe_bm PySem.F.plainAttrs_dict PySem.F.slot_dict_update PySem.F.type_dict_update mt_updK (pe_var (i := 4) rfl (.inr (.inl rfl))) (pa_cons (pe_disp (pps_cons pe_str (isr (x := "NoNames") h rfl (.inl rfl) rfl rfl (by decide +kernel)) (pps_cons pe_str (isr (x := "Unsettled") h rfl (.inl rfl) rfl rfl (by decide +kernel)) pps_nil)) rfl rfl (by simp) (by decide)) pa_nil)))
    (pss_cons (ps_expr (pe_bm PySem.F.plainAttrs_dict PySem.F.slot_dict_update PySem.F.type_dict_update mt_updK (pe_var (i := 4) rfl (.inr (.inl rfl))) (pa_cons (pe_disp (pps_cons pe_str (isr (x := "Unfair") h rfl (.inl rfl) rfl rfl (by decide +kernel)) (pps_cons pe_str (isr (x := "NoNumber") h rfl (.inl rfl) rfl rfl (by decide +kernel)) pps_nil)) rfl rfl (by simp) (by decide)) pa_nil)))
    (pss_cons (ps_expr (pe_bm PySem.F.plainAttrs_dict PySem.F.slot_dict_update PySem.F.type_dict_update mt_updK (pe_var (i := 4) rfl (.inr (.inl rfl))) (pa_cons (pe_disp (pps_cons pe_str (isr (x := "Unlike") h rfl (.inl rfl) rfl rfl (by decide +kernel)) (pps_cons pe_str (isr (x := "BadBook") h rfl (.inl rfl) rfl rfl (by decide +kernel)) pps_nil)) rfl rfl (by simp) (by decide)) pa_nil)))
    (pss_cons (ps_expr (pe_bm PySem.F.plainAttrs_dict PySem.F.slot_dict_update PySem.F.type_dict_update mt_updK (pe_var (i := 4) rfl (.inr (.inl rfl))) (pa_cons (pe_disp (pps_cons pe_str (isr (x := "NoBack") h rfl (.inl rfl) rfl rfl (by decide +kernel)) (pps_cons pe_str (isr (x := "NoText") h rfl (.inl rfl) rfl rfl (by decide +kernel)) pps_nil)) rfl rfl (by simp) (by decide)) pa_nil)))
    (pss_cons (ps_lock (ps_setLc (i := 5) (own := [("word", 6)]) rfl nd rfl rfl rfl (pi_keys (pe_var (i := 4) rfl (.inr (.inl rfl)))) (blkOk_by (show blkC N__law_heard (defScope d__law_heard) _ _ = true by decide +kernel))
        (fun _ _ _ _ _ => pg_name (i := 6) nd rfl (.inl rfl)) (tt := fun σ H Q => tDGet (tVar 4) (tVar 6) σ H fun x H' => ∃ k, TruV X.K x H' k ∧ Q k H') ?tst (fun _ _ _ _ _ => pe_var (i := 6) rfl (.inl rfl))))
    (pss_one (ps_ret (pe_ifExp (PW.pt (pw_and (pt_cmpR op_eq (pe_callB call_len rfl h.ll (by decide +kernel) (pa_cons (pe_var (i := 5) rfl (.inl rfl)) pa_nil) (by decide) (by decide)) pe_int rfl) (pw_and1 (pt_truth (pe_callB call_isT rfl h.li (by decide +kernel) (pa_cons (pe_var (i := 1) rfl (.inl rfl)) (pa_cons (pe_bltn (v := .ty "ValueError") rfl h.lv (by decide +kernel) rfl) pa_nil)) (by decide) (by decide)) (by intro _; rfl)))))
      (pe_tupZ (pa_cons (pe_ix ix_list (pe_var (i := 5) rfl (.inl rfl)) pe_int (fun _ _ => rfl)) pa_nil)) (pe_tupZ (pa_cons pe_str pa_nil)))))))))))))))), ?_⟩
  case body =>
    intro W pn xe tk _
    refine ⟨fun pins s' σ H' D I h' => ?_⟩
    obtain ⟨E, Qm, hW, hQ, h1, h2, h3⟩ := h'
    exact (pss_one (ps_set (i := 2) nd rfl (.inl rfl) (pe_weak (act _ pn xe E _ _ (takes_len tk) fun cls d σ' H' z => hW cls d σ' H' z)))).run pins s' σ H' D I ⟨Qm, hQ, h1, h2, h3⟩
  case tst =>
    intro s1 H1 C1 cl1 fp1
    refine pts_one (pt_truth (pe_dget ?_ (pe_var (i := 4) rfl (by first | exact Or.inl rfl | exact Or.inr (Or.inl rfl) | exact Or.inr (Or.inr rfl))) (pe_var (i := 6) rfl (.inl rfl)) (fun _ _ => rfl)) (by intro _; rfl))
    have := (hr.deeper (PyProof.Rows.envOfC "_law_heard" (defScope d__law_heard) s.heap.objs.size g cdg)).units
    show (X.A.deeper (PyProof.Rows.envOfC "_law_heard" (defScope d__law_heard) s.heap.objs.size g cdg)).units + 1 < cLine
    omega
  have hcl : ∀ y ∈ hearCls, clsOf X.mg y = some (cl y) := fun y hy => clsOf_at (h.at_ y (List.mem_cons_of_mem _ (by revert hy; simp only [hearCls, simpleNames, hearTab, List.map_cons, List.map_nil]; exact id)))
  refine ⟨by simp [sizeLine_eq], fun p0 o0 ho0 hp0 => ⟨p0, _, rfl, Or.inl (Or.inr ⟨o0, upd_same⟩), rfl, .non, [.non], rfl, .non, [], rfl, rfl, ?_⟩⟩
  have k0 : Le H (upd H p0 (.frz o0 (.tup [.non, .non]))) := Le.new hp0
  refine ⟨_, _, ?_, fun v H' z => told_ok (K := X.K) (cl := cl) rfl rfl z, rfl, k0 _ _ hc, hT _ k0⟩
  rintro cls d σ' H' ⟨x, r, hx, hr', qx⟩ hl
  have hm := heardX_cls hr'
  obtain ⟨c, ec, e2⟩ := hx.1
  rw [hcl _ hm] at e2
  cases e2
  refine ⟨by rw [ec]; exact hk.me _ hm, fun a ha => ⟨.ref a, by rw [List.getElem?_set_self (by omega)], ?_⟩⟩
  exact caught_ok (K := X.K) (cl := cl) hk hcl hx hr' qx ha (by simp [hl]) (by rw [List.getElem?_set_ne (by decide), List.getElem?_set_self (by simp [hl])]) rfl
end
end W
namespace W
open PySem L2 DL
theorem all_mk {l : PySem.W.OpenLaw} {w : World} {K : PySem.W.Frag} {h : Heap} {mg : Str → Option Value} {fa cA f_houses_of f_people_of f_homes_of f_look_person f_look_house f_key_of f_standings f_is_better f_likes_better f__law_heard f__law_is f__law_draw f__law_begun f__law_mixed f__law_a_book f__law_homes f__law_better f__law_all f_law : Addr} {od_houses_of an_houses_of : Option Addr} {sl_houses_of : Array (Option Value)} {oc_houses_of kV_houses_of dc_houses_of pm_houses_of cd_houses_of ct_houses_of : Value} {od_people_of an_people_of : Option Addr} {sl_people_of : Array (Option Value)} {oc_people_of kV_people_of dc_people_of pm_people_of cd_people_of ct_people_of : Value} {od_homes_of an_homes_of : Option Addr} {sl_homes_of : Array (Option Value)} {oc_homes_of kV_homes_of dc_homes_of pm_homes_of cd_homes_of ct_homes_of : Value} {od_look_person an_look_person : Option Addr} {sl_look_person : Array (Option Value)} {oc_look_person kV_look_person dc_look_person pm_look_person cd_look_person ct_look_person : Value} {od_look_house an_look_house : Option Addr} {sl_look_house : Array (Option Value)} {oc_look_house kV_look_house dc_look_house pm_look_house cd_look_house ct_look_house : Value} {od_key_of an_key_of : Option Addr} {sl_key_of : Array (Option Value)} {oc_key_of kV_key_of dc_key_of pm_key_of cd_key_of ct_key_of : Value} {od_standings an_standings : Option Addr} {sl_standings : Array (Option Value)} {oc_standings kV_standings dc_standings pm_standings cd_standings ct_standings : Value} {od_is_better an_is_better : Option Addr} {sl_is_better : Array (Option Value)} {oc_is_better kV_is_better dc_is_better pm_is_better cd_is_better ct_is_better : Value} {od_likes_better an_likes_better : Option Addr} {sl_likes_better : Array (Option Value)} {oc_likes_better kV_likes_better dc_likes_better pm_likes_better cd_likes_better ct_likes_better : Value} {od__law_heard an__law_heard : Option Addr} {sl__law_heard : Array (Option Value)} {oc__law_heard kV__law_heard dc__law_heard pm__law_heard cd__law_heard ct__law_heard : Value} {od__law_is an__law_is : Option Addr} {sl__law_is : Array (Option Value)} {oc__law_is kV__law_is dc__law_is pm__law_is cd__law_is ct__law_is : Value} {od__law_draw an__law_draw : Option Addr} {sl__law_draw : Array (Option Value)} {oc__law_draw kV__law_draw dc__law_draw pm__law_draw cd__law_draw ct__law_draw : Value} {od__law_begun an__law_begun : Option Addr} {sl__law_begun : Array (Option Value)} {oc__law_begun kV__law_begun dc__law_begun pm__law_begun cd__law_begun ct__law_begun : Value} {od__law_mixed an__law_mixed : Option Addr} {sl__law_mixed : Array (Option Value)} {oc__law_mixed kV__law_mixed dc__law_mixed pm__law_mixed cd__law_mixed ct__law_mixed : Value} {od__law_a_book an__law_a_book : Option Addr} {sl__law_a_book : Array (Option Value)} {oc__law_a_book kV__law_a_book dc__law_a_book pm__law_a_book cd__law_a_book ct__law_a_book : Value} {od__law_homes an__law_homes : Option Addr} {sl__law_homes : Array (Option Value)} {oc__law_homes kV__law_homes dc__law_homes pm__law_homes cd__law_homes ct__law_homes : Value} {od__law_better an__law_better : Option Addr} {sl__law_better : Array (Option Value)} {oc__law_better kV__law_better dc__law_better pm__law_better cd__law_better ct__law_better : Value} {od__law_all an__law_all : Option Addr} {sl__law_all : Array (Option Value)} {oc__law_all kV__law_all dc__law_all pm__law_all cd__law_all ct__law_all : Value} {od_law an_law : Option Addr} {sl_law : Array (Option Value)} {oc_law kV_law dc_law pm_law ct_law : Value} (X : K.In h) (G : h.Ns mainGlobals mg) (hfa : mg "law" = some (.ref fa))
    (a_houses_of : PySem.W.nsIn K mainGlobals "houses_of" = some (some (.ref f_houses_of))) (l_houses_of : K.lookup f_houses_of = some ⟨oc_houses_of, od_houses_of, .func (PySem.W.fnOf "houses_of" "houses_of" (defArgs d_houses_of) (defBody d_houses_of) (defScope d_houses_of) .none kV_houses_of dc_houses_of pm_houses_of an_houses_of cd_houses_of ct_houses_of), sl_houses_of⟩) (c_houses_of : PySem.W.codeIn K cd_houses_of "houses_of" = true) (k_houses_of : PySem.W.keepIn K (.ref f_houses_of) = true)
    (a_people_of : PySem.W.nsIn K mainGlobals "people_of" = some (some (.ref f_people_of))) (l_people_of : K.lookup f_people_of = some ⟨oc_people_of, od_people_of, .func (PySem.W.fnOf "people_of" "people_of" (defArgs d_people_of) (defBody d_people_of) (defScope d_people_of) .none kV_people_of dc_people_of pm_people_of an_people_of cd_people_of ct_people_of), sl_people_of⟩) (c_people_of : PySem.W.codeIn K cd_people_of "people_of" = true) (k_people_of : PySem.W.keepIn K (.ref f_people_of) = true)
    (a_homes_of : PySem.W.nsIn K mainGlobals "homes_of" = some (some (.ref f_homes_of))) (l_homes_of : K.lookup f_homes_of = some ⟨oc_homes_of, od_homes_of, .func (PySem.W.fnOf "homes_of" "homes_of" (defArgs d_homes_of) (defBody d_homes_of) (defScope d_homes_of) .none kV_homes_of dc_homes_of pm_homes_of an_homes_of cd_homes_of ct_homes_of), sl_homes_of⟩) (c_homes_of : PySem.W.codeIn K cd_homes_of "homes_of" = true) (k_homes_of : PySem.W.keepIn K (.ref f_homes_of) = true)
    (a_look_person : PySem.W.nsIn K mainGlobals "look_person" = some (some (.ref f_look_person))) (l_look_person : K.lookup f_look_person = some ⟨oc_look_person, od_look_person, .func (PySem.W.fnOf "look_person" "look_person" (defArgs d_look_person) (defBody d_look_person) (defScope d_look_person) .none kV_look_person dc_look_person pm_look_person an_look_person cd_look_person ct_look_person), sl_look_person⟩) (c_look_person : PySem.W.codeIn K cd_look_person "look_person" = true) (k_look_person : PySem.W.keepIn K (.ref f_look_person) = true)
    (a_look_house : PySem.W.nsIn K mainGlobals "look_house" = some (some (.ref f_look_house))) (l_look_house : K.lookup f_look_house = some ⟨oc_look_house, od_look_house, .func (PySem.W.fnOf "look_house" "look_house" (defArgs d_look_house) (defBody d_look_house) (defScope d_look_house) .none kV_look_house dc_look_house pm_look_house an_look_house cd_look_house ct_look_house), sl_look_house⟩) (c_look_house : PySem.W.codeIn K cd_look_house "look_house" = true) (k_look_house : PySem.W.keepIn K (.ref f_look_house) = true)
    (a_key_of : PySem.W.nsIn K mainGlobals "key_of" = some (some (.ref f_key_of))) (l_key_of : K.lookup f_key_of = some ⟨oc_key_of, od_key_of, .func (PySem.W.fnOf "key_of" "key_of" (defArgs d_key_of) (defBody d_key_of) (defScope d_key_of) .none kV_key_of dc_key_of pm_key_of an_key_of cd_key_of ct_key_of), sl_key_of⟩) (c_key_of : PySem.W.codeIn K cd_key_of "key_of" = true) (k_key_of : PySem.W.keepIn K (.ref f_key_of) = true)
    (a_standings : PySem.W.nsIn K mainGlobals "standings" = some (some (.ref f_standings))) (l_standings : K.lookup f_standings = some ⟨oc_standings, od_standings, .func (PySem.W.fnOf "standings" "standings" (defArgs d_standings) (defBody d_standings) (defScope d_standings) .none kV_standings dc_standings pm_standings an_standings cd_standings ct_standings), sl_standings⟩) (c_standings : PySem.W.codeIn K cd_standings "standings" = true) (k_standings : PySem.W.keepIn K (.ref f_standings) = true)
    (a_is_better : PySem.W.nsIn K mainGlobals "is_better" = some (some (.ref f_is_better))) (l_is_better : K.lookup f_is_better = some ⟨oc_is_better, od_is_better, .func (PySem.W.fnOf "is_better" "is_better" (defArgs d_is_better) (defBody d_is_better) (defScope d_is_better) .none kV_is_better dc_is_better pm_is_better an_is_better cd_is_better ct_is_better), sl_is_better⟩) (c_is_better : PySem.W.codeIn K cd_is_better "is_better" = true) (k_is_better : PySem.W.keepIn K (.ref f_is_better) = true)
    (a_likes_better : PySem.W.nsIn K mainGlobals "likes_better" = some (some (.ref f_likes_better))) (l_likes_better : K.lookup f_likes_better = some ⟨oc_likes_better, od_likes_better, .func (PySem.W.fnOf "likes_better" "likes_better" (defArgs d_likes_better) (defBody d_likes_better) (defScope d_likes_better) .none kV_likes_better dc_likes_better pm_likes_better an_likes_better cd_likes_better ct_likes_better), sl_likes_better⟩) (c_likes_better : PySem.W.codeIn K cd_likes_better "likes_better" = true) (k_likes_better : PySem.W.keepIn K (.ref f_likes_better) = true)
    (a__law_heard : PySem.W.nsIn K mainGlobals "_law_heard" = some (some (.ref f__law_heard))) (l__law_heard : K.lookup f__law_heard = some ⟨oc__law_heard, od__law_heard, .func (PySem.W.fnOf "_law_heard" "_law_heard" (defArgs d__law_heard) (defBody d__law_heard) (defScope d__law_heard) .none kV__law_heard dc__law_heard pm__law_heard an__law_heard cd__law_heard ct__law_heard), sl__law_heard⟩) (c__law_heard : PySem.W.codeIn K cd__law_heard "_law_heard" = true) (k__law_heard : PySem.W.keepIn K (.ref f__law_heard) = true)
    (a__law_is : PySem.W.nsIn K mainGlobals "_law_is" = some (some (.ref f__law_is))) (l__law_is : K.lookup f__law_is = some ⟨oc__law_is, od__law_is, .func (PySem.W.fnOf "_law_is" "_law_is" (defArgs d__law_is) (defBody d__law_is) (defScope d__law_is) .none kV__law_is dc__law_is pm__law_is an__law_is cd__law_is ct__law_is), sl__law_is⟩) (c__law_is : PySem.W.codeIn K cd__law_is "_law_is" = true) (k__law_is : PySem.W.keepIn K (.ref f__law_is) = true)
    (a__law_draw : PySem.W.nsIn K mainGlobals "_law_draw" = some (some (.ref f__law_draw))) (l__law_draw : K.lookup f__law_draw = some ⟨oc__law_draw, od__law_draw, .func (PySem.W.fnOf "_law_draw" "_law_draw" (defArgs d__law_draw) (defBody d__law_draw) (defScope d__law_draw) .none kV__law_draw dc__law_draw pm__law_draw an__law_draw cd__law_draw ct__law_draw), sl__law_draw⟩) (c__law_draw : PySem.W.codeIn K cd__law_draw "_law_draw" = true) (k__law_draw : PySem.W.keepIn K (.ref f__law_draw) = true)
    (a__law_begun : PySem.W.nsIn K mainGlobals "_law_begun" = some (some (.ref f__law_begun))) (l__law_begun : K.lookup f__law_begun = some ⟨oc__law_begun, od__law_begun, .func (PySem.W.fnOf "_law_begun" "_law_begun" (defArgs d__law_begun) (defBody d__law_begun) (defScope d__law_begun) .none kV__law_begun dc__law_begun pm__law_begun an__law_begun cd__law_begun ct__law_begun), sl__law_begun⟩) (c__law_begun : PySem.W.codeIn K cd__law_begun "_law_begun" = true) (k__law_begun : PySem.W.keepIn K (.ref f__law_begun) = true)
    (a__law_mixed : PySem.W.nsIn K mainGlobals "_law_mixed" = some (some (.ref f__law_mixed))) (l__law_mixed : K.lookup f__law_mixed = some ⟨oc__law_mixed, od__law_mixed, .func (PySem.W.fnOf "_law_mixed" "_law_mixed" (defArgs d__law_mixed) (defBody d__law_mixed) (defScope d__law_mixed) .none kV__law_mixed dc__law_mixed pm__law_mixed an__law_mixed cd__law_mixed ct__law_mixed), sl__law_mixed⟩) (c__law_mixed : PySem.W.codeIn K cd__law_mixed "_law_mixed" = true) (k__law_mixed : PySem.W.keepIn K (.ref f__law_mixed) = true)
    (a__law_a_book : PySem.W.nsIn K mainGlobals "_law_a_book" = some (some (.ref f__law_a_book))) (l__law_a_book : K.lookup f__law_a_book = some ⟨oc__law_a_book, od__law_a_book, .func (PySem.W.fnOf "_law_a_book" "_law_a_book" (defArgs d__law_a_book) (defBody d__law_a_book) (defScope d__law_a_book) .none kV__law_a_book dc__law_a_book pm__law_a_book an__law_a_book cd__law_a_book ct__law_a_book), sl__law_a_book⟩) (c__law_a_book : PySem.W.codeIn K cd__law_a_book "_law_a_book" = true) (k__law_a_book : PySem.W.keepIn K (.ref f__law_a_book) = true)
    (a__law_homes : PySem.W.nsIn K mainGlobals "_law_homes" = some (some (.ref f__law_homes))) (l__law_homes : K.lookup f__law_homes = some ⟨oc__law_homes, od__law_homes, .func (PySem.W.fnOf "_law_homes" "_law_homes" (defArgs d__law_homes) (defBody d__law_homes) (defScope d__law_homes) .none kV__law_homes dc__law_homes pm__law_homes an__law_homes cd__law_homes ct__law_homes), sl__law_homes⟩) (c__law_homes : PySem.W.codeIn K cd__law_homes "_law_homes" = true) (k__law_homes : PySem.W.keepIn K (.ref f__law_homes) = true)
    (a__law_better : PySem.W.nsIn K mainGlobals "_law_better" = some (some (.ref f__law_better))) (l__law_better : K.lookup f__law_better = some ⟨oc__law_better, od__law_better, .func (PySem.W.fnOf "_law_better" "_law_better" (defArgs d__law_better) (defBody d__law_better) (defScope d__law_better) .none kV__law_better dc__law_better pm__law_better an__law_better cd__law_better ct__law_better), sl__law_better⟩) (c__law_better : PySem.W.codeIn K cd__law_better "_law_better" = true) (k__law_better : PySem.W.keepIn K (.ref f__law_better) = true)
    (a__law_all : PySem.W.nsIn K mainGlobals "_law_all" = some (some (.ref f__law_all))) (l__law_all : K.lookup f__law_all = some ⟨oc__law_all, od__law_all, .func (PySem.W.fnOf "_law_all" "_law_all" (defArgs d__law_all) (defBody d__law_all) (defScope d__law_all) .none kV__law_all dc__law_all pm__law_all an__law_all cd__law_all ct__law_all), sl__law_all⟩) (c__law_all : PySem.W.codeIn K cd__law_all "_law_all" = true) (k__law_all : PySem.W.keepIn K (.ref f__law_all) = true)
    (a_law : PySem.W.nsIn K mainGlobals "law" = some (some (.ref f_law))) (l_law : K.lookup f_law = some ⟨oc_law, od_law, .func (PySem.W.fnOf "law" "law" (defArgs d_law) (defBody d_law) (defScope d_law) .none kV_law dc_law pm_law an_law (.ref cA) ct_law), sl_law⟩) (c_law : PySem.W.codeIn K (.ref cA) "law" = true) (k_law : PySem.W.keepIn K (.ref f_law) = true)
    (z_len : PySem.W.nsIn K mainGlobals "len" = some none)
    (z_tuple : PySem.W.nsIn K mainGlobals "tuple" = some none)
    (z_list : PySem.W.nsIn K mainGlobals "list" = some none)
    (z_dict : PySem.W.nsIn K mainGlobals "dict" = some none)
    (z_isinstance : PySem.W.nsIn K mainGlobals "isinstance" = some none)
    (z_range : PySem.W.nsIn K mainGlobals "range" = some none)
    (z_sorted : PySem.W.nsIn K mainGlobals "sorted" = some none)
    (z_str : PySem.W.nsIn K mainGlobals "str" = some none)
    (z_bool : PySem.W.nsIn K mainGlobals "bool" = some none)
    (z_ValueError : PySem.W.nsIn K mainGlobals "ValueError" = some none)
    (hkb : hkB K = true) (hcb : (heardNames.all (atB K)) = true)
    (o_NoHouse : clsOB K "NoHouse" = true)
    (o_NoPerson : clsOB K "NoPerson" = true)
    (tb : PySem.W.tabIn K "law" = some (cA, ptA K "law")) (tp : K.lookup (ptA K "law") = none) :
    ∃ (fd : FuncData) (c Pt : Addr), (∀ (s : Shared) (v : Value), BindsTo s fd ⟨[v], []⟩ [("script", v)]) ∧ PySem.W.tabIn K "law" = some (c, Pt) ∧ K.lookup Pt = none ∧ ∀ base : Heap, K.In base → base.Ns mainGlobals mg → LamX.TabB base mg c Pt → FnOk l.prog w K mg base (L2.CX l.prog w) 7 fa fd ["script"] (spLA K Pt m_law) := by
  have e := hfa.symm.trans (PySem.W.mg_of X G a_law)
  cases e
  have B : BI mg := ⟨PySem.W.mg_none_of X G z_len, PySem.W.mg_none_of X G z_tuple, PySem.W.mg_none_of X G z_list, PySem.W.mg_none_of X G z_dict, PySem.W.mg_none_of X G z_isinstance, PySem.W.mg_none_of X G z_range, PySem.W.mg_none_of X G z_sorted, PySem.W.mg_none_of X G z_str, PySem.W.mg_none_of X G z_bool⟩
  have Cn : CN mg := ⟨⟩
  have F_houses_of' := fun_mk (st := d_houses_of) l_houses_of c_houses_of k_houses_of
  have F_people_of' := fun_mk (st := d_people_of) l_people_of c_people_of k_people_of
  have F_homes_of' := fun_mk (st := d_homes_of) l_homes_of c_homes_of k_homes_of
  have F_look_person' := fun_mk (st := d_look_person) l_look_person c_look_person k_look_person
  have F_look_house' := fun_mk (st := d_look_house) l_look_house c_look_house k_look_house
  have F_key_of' := fun_mk (st := d_key_of) l_key_of c_key_of k_key_of
  have F_standings' := fun_mk (st := d_standings) l_standings c_standings k_standings
  have F_is_better' := fun_mk (st := d_is_better) l_is_better c_is_better k_is_better
  have F_likes_better' := fun_mk (st := d_likes_better) l_likes_better c_likes_better k_likes_better
  have F__law_heard' := fun_mk (st := d__law_heard) l__law_heard c__law_heard k__law_heard
  have F__law_is' := fun_mk (st := d__law_is) l__law_is c__law_is k__law_is
  have F__law_draw' := fun_mk (st := d__law_draw) l__law_draw c__law_draw k__law_draw
  have F__law_begun' := fun_mk (st := d__law_begun) l__law_begun c__law_begun k__law_begun
  have F__law_mixed' := fun_mk (st := d__law_mixed) l__law_mixed c__law_mixed k__law_mixed
  have F__law_a_book' := fun_mk (st := d__law_a_book) l__law_a_book c__law_a_book k__law_a_book
  have F__law_homes' := fun_mk (st := d__law_homes) l__law_homes c__law_homes k__law_homes
  have F__law_better' := fun_mk (st := d__law_better) l__law_better c__law_better k__law_better
  have F__law_all' := fun_mk (st := d__law_all) l__law_all c__law_all k__law_all
  have F_law' := fun_mk (st := d_law) l_law c_law k_law
  have hk := hkB_ok hkb
  have hc : HC mg (clA K) := ⟨fun x hx => PySem.W.mg_of X G (of_decide_eq_true (List.all_eq_true.mp hcb x hx)), PySem.W.mg_none_of X G z_isinstance, PySem.W.mg_none_of X G z_len, PySem.W.mg_none_of X G z_ValueError⟩
  have Hh : Hear K mg d__law_heard N__law_heard := ⟨⟨_, _, PySem.W.mg_of X G a__law_heard, F__law_heard', F__law_heard'.binds fun _ _ _ _ _ _ us hl => match us, hl with | [_], _ => rfl⟩, sc__law_heard, rfl, .inl rfl, fun X2 g cdv q hK hm hr => by
    have z := heard_gives (X := X2) (g := g) (cdg := cdv) (q := q) (cl := clA K) (by rw [hm]; exact hc) (by rw [hK]; exact hk) hr
    rw [hK, hm] at z
    exact z⟩
  refine ⟨PySem.W.fnOf "law" "law" (defArgs d_law) (defBody d_law) (defScope d_law) .none kV_law dc_law pm_law an_law (.ref cA) ct_law, cA, ptA K "law", fun s v => .of_eq rfl, tb, tp, fun base _ _ TB => ?_⟩
  have Ck : CK l.prog w K mg base := ⟨clsOB_ok X G o_NoHouse, clsOB_ok X G o_NoPerson⟩
  have H_houses_of := mk_houses_of (P := l.prog) (w := w) (base := base) B Cn F_houses_of' (PySem.W.mg_of X G a_houses_of)
  have H_people_of := mk_people_of (P := l.prog) (w := w) (base := base) B Cn F_people_of' (PySem.W.mg_of X G a_people_of)
  have H_homes_of := mk_homes_of (P := l.prog) (w := w) (base := base) B Cn F_homes_of' (PySem.W.mg_of X G a_homes_of)
  have H_look_person := mk_look_person (P := l.prog) (w := w) (base := base) B Cn Ck H_people_of F_look_person' (PySem.W.mg_of X G a_look_person)
  have H_look_house := mk_look_house (P := l.prog) (w := w) (base := base) B Cn Ck H_houses_of F_look_house' (PySem.W.mg_of X G a_look_house)
  have H_key_of := mk_key_of (P := l.prog) (w := w) (base := base) B Cn F_key_of' (PySem.W.mg_of X G a_key_of)
  have H_standings := mk_standings (P := l.prog) (w := w) (base := base) B Cn H_people_of H_homes_of H_key_of F_standings' (PySem.W.mg_of X G a_standings)
  have H_is_better := mk_is_better (P := l.prog) (w := w) (base := base) B Cn F_is_better' (PySem.W.mg_of X G a_is_better)
  have H_likes_better := mk_likes_better (P := l.prog) (w := w) (base := base) B Cn Ck H_look_person H_look_house H_is_better F_likes_better' (PySem.W.mg_of X G a_likes_better)
  have H__law_is := mk__law_is (P := l.prog) (w := w) (base := base) B Cn F__law_is' (PySem.W.mg_of X G a__law_is)
  have H__law_draw := mk__law_draw (P := l.prog) (w := w) (base := base) B Cn F__law_draw' (PySem.W.mg_of X G a__law_draw)
  have H__law_begun := mk__law_begun (P := l.prog) (w := w) (base := base) F__law_begun' (PySem.W.mg_of X G a__law_begun)
  have H__law_mixed := mk__law_mixed (P := l.prog) (w := w) (base := base) B Cn H__law_draw F__law_mixed' (PySem.W.mg_of X G a__law_mixed)
  have H__law_a_book := mk__law_a_book (P := l.prog) (w := w) (base := base) B Cn H__law_draw H__law_mixed F__law_a_book' (PySem.W.mg_of X G a__law_a_book)
  have H__law_homes := mk__law_homes (P := l.prog) (w := w) (base := base) B Cn F__law_homes' (PySem.W.mg_of X G a__law_homes)
  have H__law_better := mk__law_better (P := l.prog) (w := w) (base := base) B Cn F__law_better' (PySem.W.mg_of X G a__law_better)
  have H__law_all := mk__law_all (P := l.prog) (w := w) (base := base) B Cn H__law_homes F__law_all' (PySem.W.mg_of X G a__law_all)
  exact fn_min (fnLT l_law c_law sc_law (b_law TB B Cn Hh H__law_begun H__law_a_book H_standings H__law_all H__law_better H__law_is H_likes_better))
end W
open PySem PySem.W PyProof.Rows
set_option maxRecDepth 100000 in
set_option maxHeartbeats 0 in
theorem PySem.Challenge.cw_movesup_k02_standings_holds : PySem.Challenge.rw_movesup_k02_standings.Holds := by
  w_on; o_law; k_head; (case hw => w_witness2)
  k_fill
  refine DL.walk_tab (l := PySem.Challenge.rw_movesup_k02_standings) (n := 63) (k := 7) (x := "script") (m := W.m_law) rfl (by decide) rfl ⟨rfl, by decide, by decide⟩ (fun w h Y => PySem.W.km_in_of Y) ?hfind ?F W.law_true
  case hfind => first | rfl | kernel_rfl! | decide +kernel
  case F =>
    intro w mg fa h KX G hmg
    refine' W.all_mk KX G hmg ?a_houses_of ?l_houses_of ?c_houses_of ?k_houses_of ?a_people_of ?l_people_of ?c_people_of ?k_people_of ?a_homes_of ?l_homes_of ?c_homes_of ?k_homes_of ?a_look_person ?l_look_person ?c_look_person ?k_look_person ?a_look_house ?l_look_house ?c_look_house ?k_look_house ?a_key_of ?l_key_of ?c_key_of ?k_key_of ?a_standings ?l_standings ?c_standings ?k_standings ?a_is_better ?l_is_better ?c_is_better ?k_is_better ?a_likes_better ?l_likes_better ?c_likes_better ?k_likes_better ?a__law_heard ?l__law_heard ?c__law_heard ?k__law_heard ?a__law_is ?l__law_is ?c__law_is ?k__law_is ?a__law_draw ?l__law_draw ?c__law_draw ?k__law_draw ?a__law_begun ?l__law_begun ?c__law_begun ?k__law_begun ?a__law_mixed ?l__law_mixed ?c__law_mixed ?k__law_mixed ?a__law_a_book ?l__law_a_book ?c__law_a_book ?k__law_a_book ?a__law_homes ?l__law_homes ?c__law_homes ?k__law_homes ?a__law_better ?l__law_better ?c__law_better ?k__law_better ?a__law_all ?l__law_all ?c__law_all ?k__law_all ?a_law ?l_law ?c_law ?k_law ?z_len ?z_tuple ?z_list ?z_dict ?z_isinstance ?z_range ?z_sorted ?z_str ?z_bool ?z_ValueError ?hkb ?hcb ?o_NoHouse ?o_NoPerson ?tb ?tp
    (case a_houses_of => k_is)
    (case l_houses_of => k_is)
    (case c_houses_of => k_is)
    (case k_houses_of => k_is)
    (case a_people_of => k_is)
    (case l_people_of => k_is)
    (case c_people_of => k_is)
    (case k_people_of => k_is)
    (case a_homes_of => k_is)
    (case l_homes_of => k_is)
    (case c_homes_of => k_is)
    (case k_homes_of => k_is)
    (case a_look_person => k_is)
    (case l_look_person => k_is)
    (case c_look_person => k_is)
    (case k_look_person => k_is)
    (case a_look_house => k_is)
    (case l_look_house => k_is)
    (case c_look_house => k_is)
    (case k_look_house => k_is)
    (case a_key_of => k_is)
    (case l_key_of => k_is)
    (case c_key_of => k_is)
    (case k_key_of => k_is)
    (case a_standings => k_is)
    (case l_standings => k_is)
    (case c_standings => k_is)
    (case k_standings => k_is)
    (case a_is_better => k_is)
    (case l_is_better => k_is)
    (case c_is_better => k_is)
    (case k_is_better => k_is)
    (case a_likes_better => k_is)
    (case l_likes_better => k_is)
    (case c_likes_better => k_is)
    (case k_likes_better => k_is)
    (case a__law_heard => k_is)
    (case l__law_heard => k_is)
    (case c__law_heard => k_is)
    (case k__law_heard => k_is)
    (case a__law_is => k_is)
    (case l__law_is => k_is)
    (case c__law_is => k_is)
    (case k__law_is => k_is)
    (case a__law_draw => k_is)
    (case l__law_draw => k_is)
    (case c__law_draw => k_is)
    (case k__law_draw => k_is)
    (case a__law_begun => k_is)
    (case l__law_begun => k_is)
    (case c__law_begun => k_is)
    (case k__law_begun => k_is)
    (case a__law_mixed => k_is)
    (case l__law_mixed => k_is)
    (case c__law_mixed => k_is)
    (case k__law_mixed => k_is)
    (case a__law_a_book => k_is)
    (case l__law_a_book => k_is)
    (case c__law_a_book => k_is)
    (case k__law_a_book => k_is)
    (case a__law_homes => k_is)
    (case l__law_homes => k_is)
    (case c__law_homes => k_is)
    (case k__law_homes => k_is)
    (case a__law_better => k_is)
    (case l__law_better => k_is)
    (case c__law_better => k_is)
    (case k__law_better => k_is)
    (case a__law_all => k_is)
    (case l__law_all => k_is)
    (case c__law_all => k_is)
    (case k__law_all => k_is)
    (case a_law => k_is)
    (case l_law => k_is)
    (case c_law => k_is)
    (case k_law => k_is)
    (case z_len => k_is)
    (case z_tuple => k_is)
    (case z_list => k_is)
    (case z_dict => k_is)
    (case z_isinstance => k_is)
    (case z_range => k_is)
    (case z_sorted => k_is)
    (case z_str => k_is)
    (case z_bool => k_is)
    (case z_ValueError => k_is)
    (case hkb => first | kernel_rfl! | rfl)
    (case hcb => first | kernel_rfl! | rfl)
    (case o_NoHouse => first | kernel_rfl! | rfl)
    (case o_NoPerson => first | kernel_rfl! | rfl)
    (case tb => first | kernel_rfl! | rfl)
    (case tp => first | kernel_rfl! | rfl)
