import PyProof.Rows.All
import Wide.All
import OpenK.AllK
import Wide.FinOn
import KE.KStateDown
import HandS.Defaults
import HandS.ForMost
import HandS.Deep
import HandS.TupAny
import HandS.Conv
import HandS.Zip
import HandS.IsInst
import HandS.Style
import KE.SortData
import KE.DataEq
import KE.DataFind
import KE.DataIsa
import KE.DataAny
import KE.GoesEnum
import HandS.TupSets
import HandS.Strs
import HandS.SetFor
import KE.KeyNested
import KE.KDictKeyed
import HandS.More
import HandS.Head0
import HandS.Head1
import HandS.Head2
import HandS.HeadEnd
import HandS.HeadHook1
import HandS.HeadHook2
import PySem.Challenge.RW_meldtable_k14_whole_how_many_melds
set_option Elab.async false
set_option linter.all false
set_option maxRecDepth 100000
set_option maxHeartbeats 4000000
/-! Data over the abstract heap: what is masked (own lists), what is read, what is new. -/
namespace Mt
open PySem PySem.Spec PyProof.Rows L2
abbrev D := PyData
/-- the heap without the lists that are owned -/
def msk (H : Hp) (O : List Addr) : Hp := fun a => if a ∈ O then none else H a
theorem msk_in {H : Hp} {O : List Addr} {a : Addr} (h : a ∈ O) : msk H O a = none := if_pos h
theorem msk_out {H : Hp} {O : List Addr} {a : Addr} (h : a ∉ O) : msk H O a = H a := if_neg h
theorem msk_some {H : Hp} {O : List Addr} {a : Addr} {u : HO} (h : msk H O a = some u) : a ∉ O ∧ H a = some u := by
  by_cases m : a ∈ O
  · rw [msk_in m] at h; cases h
  · rw [msk_out m] at h; exact ⟨m, h⟩
theorem msk_le (H : Hp) (O : List Addr) : Same (msk H O) H := fun _ _ h => (msk_some h).2
theorem msk_same {H H' : Hp} {O : List Addr} (s : Same H H') : Same (msk H O) (msk H' O) := fun a u h => by
  obtain ⟨m, e⟩ := msk_some h
  rw [msk_out m]; exact s a u e
theorem msk_new {H H' : Hp} {O : List Addr} {p : Addr} (s : Same H H') (n : H p = none) : Same (msk H O) (msk H' (p :: O)) := fun a u h => by
  obtain ⟨m, e⟩ := msk_some h
  have : a ∉ p :: O := by
    intro z
    rcases List.mem_cons.mp z with z | z
    · rw [z, n] at e; cases e
    · exact m z
  rw [msk_out this]; exact s a u e
theorem msk_upd {H : Hp} {O : List Addr} {p : Addr} {u : HO} (m : p ∈ O) : msk (upd H p u) O = msk H O := by
  funext a
  by_cases h : a ∈ O
  · rw [msk_in h, msk_in h]
  · rw [msk_out h, msk_out h, upd_ne (fun e => h (by rw [e]; exact m))]
theorem msk_sub {H : Hp} {O O' : List Addr} (h : ∀ a, a ∈ O' → a ∈ O) : Same (msk H O) (msk H O') := fun a u e => by
  obtain ⟨m, e⟩ := msk_some e
  rw [msk_out (fun z => m (h a z))]; exact e
theorem same_upd {H : Hp} {p : Addr} {o : HO} (h : H p = none) : Same H (upd H p o) := fun b x e => by
  rw [upd_ne (ne_of_none e h)]; exact e
theorem Rd.same {H H' : Hp} {a : Addr} {u : HO} (s : Same H H') (h : Rd H a u) : Rd H' a u := by
  rcases h with h | ⟨o, h⟩
  · exact .inl (s _ _ h)
  · exact .inr ⟨o, s _ _ h⟩
theorem sqT_same {K : PySem.W.Frag} {H H' : Hp} {a : Addr} {xs : List V} (s : Same H H') (h : SqT K H a xs) : SqT K H' a xs := by
  rcases h with h | h
  · exact .inl (Rd.same s h)
  · exact .inr h
theorem sqL_same {K : PySem.W.Frag} {H H' : Hp} {a : Addr} {xs : List V} (s : Same H H') (h : SqL K H a xs) : SqL K H' a xs := s.seq h
/-! ### data: tuples stand as they were made, without a dict -/
def SqN (H : Hp) (a : Addr) (xs : List V) : Prop := ∃ o, H a = some (.frz o (.tup xs)) ∧ o.dict = none
theorem SqN.sq {K : PySem.W.Frag} {H : Hp} {a : Addr} {xs : List V} (h : SqN H a xs) : SqT K H a xs := let ⟨o, e, _⟩ := h; .inl (.inr ⟨o, e⟩)
theorem SqN.same {H H' : Hp} {a : Addr} {xs : List V} (s : Same H H') (h : SqN H a xs) : SqN H' a xs := let ⟨o, e, d⟩ := h; ⟨o, s _ _ e, d⟩
mutual
inductive Dp (K : PySem.W.Frag) (H : Hp) : V → PyData → Prop
  | non : Dp K H .non .none
  | bl (b : Bool) : Dp K H (.bl b) (.bool b)
  | int (i : Int) : Dp K H (.int i) (.int i)
  | str (x : Str) : Dp K H (.str x) (.str x)
  | lst {a : Addr} {xs : List V} {ds : List PyData} : SqL K H a xs → DpAll K H xs ds → Dp K H (.ref a) (.list ds)
  | tup {a : Addr} {xs : List V} {ds : List PyData} : SqN H a xs → DpAll K H xs ds → Dp K H (.ref a) (.tuple ds)
inductive DpAll (K : PySem.W.Frag) (H : Hp) : List V → List PyData → Prop
  | nil : DpAll K H [] []
  | cons {v : V} {vs : List V} {d : PyData} {ds : List PyData} : Dp K H v d → DpAll K H vs ds → DpAll K H (v :: vs) (d :: ds)
end
section
variable {K : PySem.W.Frag} {H : Hp}
mutual
theorem Dp.kit : ∀ {d : D} {v : V}, Dp K H v d → L2.Dp K H v d
  | .none, _, h => by cases h; exact .non
  | .bool b, _, h => by cases h; exact .bl b
  | .int i, _, h => by cases h; exact .int i
  | .str x, _, h => by cases h; exact .str x
  | .list ds, _, h => by
    cases h with
    | lst q a => exact .lst q (DpAll.kit a)
  | .tuple ds, _, h => by
    cases h with
    | tup q a => exact .tup q.sq (DpAll.kit a)
  | .dict _, _, h => by cases h
theorem DpAll.kit : ∀ {ds : List D} {vs : List V}, DpAll K H vs ds → L2.DpAll K H vs ds
  | [], _, h => by cases h; exact .nil
  | d :: ds, _, h => by
    cases h with
    | cons a b => exact .cons (Dp.kit a) (DpAll.kit b)
end
end
theorem Dp.reads {X : Cx} {pins : List (Addr × Obj)} {σ : L2.St} {H : Hp} {s : Shared} (I : Inv X pins σ H s) (d : PyData) (v : V) (u : Value) (h : Dp X.K H v d) (r : RelV v u) : ∃ as, Reads s.heap u d as := L2.Dp.reads I d v u h.kit r
theorem DpAll.reads {X : Cx} {pins : List (Addr × Obj)} {σ : L2.St} {H : Hp} {s : Shared} (I : Inv X pins σ H s) (d : List PyData) (v : List V) (u : List Value) (h : DpAll X.K H v d) (r : Vals v u) : ∃ as, ReadsAll s.heap u d as := L2.Dp.readsAll I d v u h.kit r
section
variable {K : PySem.W.Frag} {H H' : Hp} (s : Same H H')
mutual
theorem Dp.mono (s : Same H H') : ∀ {d : D} {v : V}, Dp K H v d → Dp K H' v d
  | .none, _, h => by cases h; exact .non
  | .bool b, _, h => by cases h; exact .bl b
  | .int i, _, h => by cases h; exact .int i
  | .str x, _, h => by cases h; exact .str x
  | .list ds, _, h => by
    cases h with
    | lst q a => exact .lst (sqL_same s q) (DpAll.mono s a)
  | .tuple ds, _, h => by
    cases h with
    | tup q a => exact .tup (q.same s) (DpAll.mono s a)
  | .dict _, _, h => by cases h
theorem DpAll.mono (s : Same H H') : ∀ {ds : List D} {vs : List V}, DpAll K H vs ds → DpAll K H' vs ds
  | [], _, h => by cases h; exact .nil
  | d :: ds, _, h => by
    cases h with
    | cons a b => exact .cons (Dp.mono s a) (DpAll.mono s b)
end
end
section
variable {K : PySem.W.Frag} {H : Hp}
theorem DpAll.length : ∀ {vs : List V} {ds : List D}, DpAll K H vs ds → vs.length = ds.length
  | _, _, .nil => rfl
  | _, _, .cons _ t => by rw [List.length_cons, List.length_cons, DpAll.length t]
theorem DpAll.append : ∀ {vs ws : List V} {ds es : List D}, DpAll K H vs ds → DpAll K H ws es → DpAll K H (vs ++ ws) (ds ++ es)
  | _, _, _, _, .nil, s => s
  | _, _, _, _, .cons r t, s => .cons r (DpAll.append t s)
theorem DpAll.get : ∀ {vs : List V} {ds : List D} {i : Nat} {d : D}, DpAll K H vs ds → ds[i]? = some d → ∃ v, vs[i]? = some v ∧ Dp K H v d
  | _, _, _, _, .nil, e => by simp at e
  | _, _, 0, _, .cons r _, e => by simp at e; subst e; exact ⟨_, rfl, r⟩
  | _, _, i + 1, d, .cons _ t, e => by
    obtain ⟨v, h1, h2⟩ := DpAll.get (i := i) (d := d) t (by simpa using e)
    exact ⟨v, by simpa using h1, h2⟩
theorem DpAll.get' : ∀ {vs : List V} {ds : List D} {i : Nat} {v : V}, DpAll K H vs ds → vs[i]? = some v → ∃ d, ds[i]? = some d ∧ Dp K H v d
  | _, _, _, _, .nil, e => by simp at e
  | _, _, 0, _, .cons r _, e => by simp at e; subst e; exact ⟨_, rfl, r⟩
  | _, _, i + 1, d, .cons _ t, e => by
    obtain ⟨v, h1, h2⟩ := DpAll.get' (i := i) (v := d) t (by simpa using e)
    exact ⟨v, by simpa using h1, h2⟩
theorem DpAll.take : ∀ {vs : List V} {ds : List D} (n : Nat), DpAll K H vs ds → DpAll K H (vs.take n) (ds.take n)
  | _, _, 0, _ => by simp only [List.take_zero]; exact .nil
  | _, _, _ + 1, .nil => by simp only [List.take_nil]; exact .nil
  | _, _, n + 1, .cons r t => by simp only [List.take_succ_cons]; exact .cons r (DpAll.take n t)
theorem DpAll.drop : ∀ {vs : List V} {ds : List D} (n : Nat), DpAll K H vs ds → DpAll K H (vs.drop n) (ds.drop n)
  | _, _, 0, r => r
  | _, _, _ + 1, .nil => .nil
  | _, _, n + 1, .cons _ t => DpAll.drop n t
theorem DpAll.set : ∀ {vs : List V} {ds : List D} (n : Nat) {v : V} {d : D}, DpAll K H vs ds → Dp K H v d → DpAll K H (vs.set n v) (ds.set n d)
  | _, _, _, _, _, .nil, _ => .nil
  | _, _, 0, _, _, .cons _ t, h => .cons h t
  | _, _, n + 1, _, _, .cons r t, h => .cons r (DpAll.set n t h)
theorem DpAll.eraseIdx : ∀ {vs : List V} {ds : List D} (n : Nat), DpAll K H vs ds → DpAll K H (vs.eraseIdx n) (ds.eraseIdx n)
  | _, _, _, .nil => .nil
  | _, _, 0, .cons _ t => t
  | _, _, n + 1, .cons r t => .cons r (DpAll.eraseIdx n t)
theorem DpAll.reverse {vs : List V} {ds : List D} (h : DpAll K H vs ds) : DpAll K H vs.reverse ds.reverse := by
  induction ds generalizing vs with
  | nil => cases h; exact .nil
  | cons d ds ih =>
    cases h with
    | cons a b => rw [List.reverse_cons, List.reverse_cons]; exact DpAll.append (ih b) (.cons a .nil)
theorem DpAll.snoc {vs : List V} {ds : List D} {v : V} {d : D} (h : DpAll K H vs ds) (q : Dp K H v d) : DpAll K H (vs ++ [v]) (ds ++ [d]) := DpAll.append h (.cons q .nil)
end
/-! ### data without lists -/
mutual
def flat : D → Bool
  | .list _ => false
  | .tuple xs => flatAll xs
  | .dict _ => false
  | _ => true
def flatAll : List D → Bool
  | [] => true
  | x :: xs => flat x && flatAll xs
end
/-- no list but, it may be, at the top -/
def flatTop : D → Bool
  | .list xs => flatAll xs
  | d => flat d
theorem flatAll_iff : ∀ {xs : List D}, flatAll xs = true ↔ ∀ x ∈ xs, flat x = true
  | [] => by simp [flatAll]
  | x :: xs => by
    rw [flatAll, Bool.and_eq_true, flatAll_iff (xs := xs)]; simp
/-- the owned addresses hold lists -/
def OL (H : Hp) (O : List Addr) : Prop := ∀ a, a ∈ O → ∃ xs, H a = some (.lst xs)
theorem OL.same {H H' : Hp} {O : List Addr} (s : Same H H') (h : OL H O) : OL H' O := fun a m => let ⟨xs, e⟩ := h a m; ⟨xs, s _ _ e⟩
theorem sqT_msk {K : PySem.W.Frag} {H : Hp} {O : List Addr} {a : Addr} {xs : List V} (o : OL H O) (h : SqT K H a xs) : SqT K (msk H O) a xs := by
  rcases h with h | h
  · have m : a ∉ O := fun m => by
      obtain ⟨ys, e⟩ := o a m
      rcases h with h | ⟨_, h⟩ <;> rw [e] at h <;> cases h
    refine .inl ?_
    rcases h with h | ⟨w, h⟩
    · exact .inl (by rw [msk_out m]; exact h)
    · exact .inr ⟨w, by rw [msk_out m]; exact h⟩
  · exact .inr h
theorem SqN.msk {H : Hp} {O : List Addr} {a : Addr} {xs : List V} (o : OL H O) (h : SqN H a xs) : SqN (Mt.msk H O) a xs := by
  obtain ⟨w, e, d⟩ := h
  have m : a ∉ O := fun m => by
    obtain ⟨ys, e'⟩ := o a m
    rw [e'] at e; cases e
  exact ⟨w, by rw [msk_out m]; exact e, d⟩
section
variable {K : PySem.W.Frag} {H : Hp} {O : List Addr}
mutual
theorem Dp.flatMsk (o : OL H O) : ∀ {d : D} {v : V}, flat d = true → Dp K H v d → Dp K (msk H O) v d
  | .none, _, _, h => by cases h; exact .non
  | .bool b, _, _, h => by cases h; exact .bl b
  | .int i, _, _, h => by cases h; exact .int i
  | .str x, _, _, h => by cases h; exact .str x
  | .list ds, _, f, h => by simp [flat] at f
  | .tuple ds, _, f, h => by
    cases h with
    | tup q a => exact .tup (q.msk o) (DpAll.flatMsk o (by simpa [flat] using f) a)
  | .dict _, _, _, h => by cases h
theorem DpAll.flatMsk (o : OL H O) : ∀ {ds : List D} {vs : List V}, flatAll ds = true → DpAll K H vs ds → DpAll K (msk H O) vs ds
  | [], _, _, h => by cases h; exact .nil
  | d :: ds, _, f, h => by
    have f' : flat d = true ∧ flatAll ds = true := by simpa [flatAll] using f
    cases h with
    | cons a b => exact .cons (Dp.flatMsk o f'.1 a) (DpAll.flatMsk o f'.2 b)
end
end
/-! ### what may be read: masked data, or an owned list itself -/
inductive Dr (K : PySem.W.Frag) (O : List Addr) (H : Hp) : V → D → Prop
  | im {v : V} {d : D} : Dp K (msk H O) v d → Dr K O H v d
  | ow {a : Addr} {xs : List V} {ds : List D} : H a = some (.lst xs) → DpAll K (msk H O) xs ds → Dr K O H (.ref a) (.list ds)
inductive DrAll (K : PySem.W.Frag) (O : List Addr) (H : Hp) : List V → List D → Prop
  | nil : DrAll K O H [] []
  | cons {v : V} {vs : List V} {d : D} {ds : List D} : Dr K O H v d → DrAll K O H vs ds → DrAll K O H (v :: vs) (d :: ds)
section
variable {K : PySem.W.Frag} {O : List Addr} {H H' : Hp} {v : V} {d : D}
theorem Dr.same (s : Same H H') (h : Dr K O H v d) : Dr K O H' v d := by
  cases h with
  | im h => exact .im (Dp.mono (msk_same s) h)
  | ow e a => exact .ow (s _ _ e) (DpAll.mono (msk_same s) a)
theorem DrAll.same (s : Same H H') : ∀ {vs : List V} {ds : List D}, DrAll K O H vs ds → DrAll K O H' vs ds
  | _, _, .nil => .nil
  | _, _, .cons a b => .cons (a.same s) (DrAll.same s b)
theorem Dr.dp (h : Dr K O H v d) : Dp K H v d := by
  cases h with
  | im h => exact Dp.mono (msk_le H O) h
  | ow e a => exact .lst (.of e) (DpAll.mono (msk_le H O) a)
theorem DrAll.dp : ∀ {vs : List V} {ds : List D}, DrAll K O H vs ds → DpAll K H vs ds
  | _, _, .nil => .nil
  | _, _, .cons a b => .cons a.dp (DrAll.dp b)
theorem DrAll.length : ∀ {vs : List V} {ds : List D}, DrAll K O H vs ds → vs.length = ds.length
  | _, _, .nil => rfl
  | _, _, .cons _ t => by rw [List.length_cons, List.length_cons, DrAll.length t]
/-- a list that may be read -/
theorem Dr.list {ds : List D} (h : Dr K O H v (.list ds)) : ∃ a xs, v = .ref a ∧ SqL K H a xs ∧ DpAll K (msk H O) xs ds := by
  cases h with
  | im h =>
    cases h with
    | lst q a => exact ⟨_, _, rfl, sqL_same (msk_le H O) q, a⟩
  | ow e a => exact ⟨_, _, rfl, .of e, a⟩
theorem Dr.tuple {ds : List D} (h : Dr K O H v (.tuple ds)) : ∃ a xs, v = .ref a ∧ SqT K H a xs ∧ DpAll K (msk H O) xs ds ∧ Dp K (msk H O) v (.tuple ds) := by
  cases h with
  | im h =>
    cases h with
    | tup q a => exact ⟨_, _, rfl, sqT_same (msk_le H O) q.sq, a, .tup q a⟩
theorem Dr.tupleN {ds : List D} (h : Dr K O H v (.tuple ds)) : ∃ a xs, v = .ref a ∧ SqN H a xs := by
  cases h with
  | im h =>
    cases h with
    | tup q a => exact ⟨_, _, rfl, q.same (msk_le H O)⟩
theorem Dr.int {i : Int} (h : Dr K O H v (.int i)) : v = .int i := by cases h with | im h => cases h; rfl
theorem Dr.bool {b : Bool} (h : Dr K O H v (.bool b)) : v = .bl b := by cases h with | im h => cases h; rfl
theorem Dr.str {x : Str} (h : Dr K O H v (.str x)) : v = .str x := by cases h with | im h => cases h; rfl
theorem Dr.none (h : Dr K O H v .none) : v = .non := by cases h with | im h => cases h; rfl
end
/-! ### what is new -/
/-- a result: masked data; a list is a new one -/
structure New (K : PySem.W.Frag) (O : List Addr) (H H' : Hp) (v : V) (d : D) : Prop where
  im : Dp K (msk H' O) v d
  nw : ∀ ds, d = .list ds → ∃ a xs, v = .ref a ∧ H a = none ∧ H' a = some (.lst xs) ∧ DpAll K (msk H' (a :: O)) xs ds
section
variable {K : PySem.W.Frag} {O : List Addr} {H H1 H' : Hp} {v : V} {d : D}
theorem New.old (s : Same H H1) (h : New K O H1 H' v d) : New K O H H' v d :=
  ⟨h.im, fun ds e => let ⟨a, xs, e1, e2, r⟩ := h.nw ds e; ⟨a, xs, e1, s.free e2, r⟩⟩
theorem New.imm (h : Dp K (msk H' O) v d) (n : ∀ ds, d ≠ .list ds) : New K O H H' v d := ⟨h, fun ds e => absurd e (n ds)⟩
theorem New.int {i : Int} : New K O H H' (.int i) (.int i) := .imm (.int i) (fun _ e => nomatch e)
theorem New.bool {i : Bool} : New K O H H' (.bl i) (.bool i) := .imm (.bl i) (fun _ e => nomatch e)
theorem New.str {i : Str} : New K O H H' (.str i) (.str i) := .imm (.str i) (fun _ e => nomatch e)
theorem New.non : New K O H H' .non .none := .imm .non (fun _ e => nomatch e)
/-- a new list -/
theorem New.lst {p : Addr} {xs : List V} {ds : List D} (n : H p = none) (o : OL H O) (h : DpAll K (msk H O) xs ds) : New K O H (upd H p (.lst xs)) (.ref p) (.list ds) := by
  have hp : p ∉ O := fun m => by obtain ⟨_, e⟩ := o p m; rw [n] at e; cases e
  have s : Same H (upd H p (.lst xs)) := same_upd n
  refine ⟨.lst (.of (by rw [msk_out hp, upd_same])) (DpAll.mono (msk_same s) h), fun ds' e => ?_⟩
  cases e
  exact ⟨p, xs, rfl, n, upd_same, DpAll.mono (msk_new s n) h⟩
theorem New.tup {p : Addr} {xs : List V} {ds : List D} {w : Obj} (hw : w.dict = none) (n : H p = none) (o : OL H O) (h : DpAll K (msk H O) xs ds) : New K O H (upd H p (.frz w (.tup xs))) (.ref p) (.tuple ds) := by
  have hp : p ∉ O := fun m => by obtain ⟨_, e⟩ := o p m; rw [n] at e; cases e
  exact .imm (.tup ⟨w, by rw [msk_out hp, upd_same], hw⟩ (DpAll.mono (msk_same (same_upd n)) h)) (fun _ e => nomatch e)
end
end Mt

set_option Elab.async false
set_option linter.all false
set_option maxRecDepth 100000
set_option maxHeartbeats 4000000
/-! Operations over data: what they give, and that the machine gives it. -/
namespace Mt
open PySem PySem.Spec PyProof.Rows L2
inductive Er where
  | stuck
  | exc (c : Str)
abbrev R (α : Type) := Except Er α
def bd {α β : Type} (x : R α) (f : α → R β) : R β := match x with
  | .ok a => f a
  | .error e => .error e
theorem bd_ok {α β : Type} (a : α) (f : α → R β) : bd (.ok a) f = f a := rfl
theorem bd_err {α β : Type} (e : Er) (f : α → R β) : bd (.error e) f = .error e := rfl
theorem bd_inv {α β : Type} {x : R α} {f : α → R β} {b : β} (h : bd x f = .ok b) : ∃ a, x = .ok a ∧ f a = .ok b := by
  cases x with
  | ok a => exact ⟨a, rfl, h⟩
  | error e => cases h
abbrev stk {α : Type} : R α := .error .stuck
def gd {α : Type} (c : Bool) (x : R α) : R α := if c = true then x else stk
theorem gd_inv {α : Type} {c : Bool} {x : R α} {b : α} (h : gd c x = .ok b) : c = true ∧ x = .ok b := by
  cases c with
  | true => exact ⟨rfl, h⟩
  | false => cases h
theorem gd_pos {α : Type} {c : Bool} {x : R α} (h : c = true) : gd c x = x := by subst h; rfl
/-! ### two operands -/
def binD (op : Operator) (x y : D) : R D := match op, x, y with
  | .Add, .int i, .int j => .ok (.int (i + j))
  | .Add, .str a, .str b => gd (decide (a.length + b.length ≤ 16777216)) (.ok (.str (a ++ b)))
  | .Add, .tuple a, .tuple b => gd (decide (a.length + b.length ≤ 16777216)) (.ok (.tuple (a ++ b)))
  | .Add, .list a, .list b => gd (decide (a.length + b.length ≤ 16777216)) (.ok (.list (a ++ b)))
  | .Sub, .int i, .int j => .ok (.int (i - j))
  | .Mult, .int i, .int j => gd ((decide (-(2 ^ 64) < i) && decide (i < 2 ^ 64)) || (decide (-(2 ^ 64) < j) && decide (j < 2 ^ 64))) (.ok (.int (i * j)))
  | .FloorDiv, .int i, .int j => gd (decide (0 < j) && decide (j < 1073741824)) (.ok (.int (i / j)))
  | .Mod, .int i, .int j => gd (decide (0 < j)) (.ok (.int (i % j)))
  | _, _, _ => stk
section
variable {X : Cx}
/-- list + list, whatever holds them -/
def rCatL (K : PySem.W.Frag) : R2 := fun x y H Q => ∃ a b xs ys, x = .ref a ∧ y = .ref b ∧ SqL K H a xs ∧ SqL K H b ys ∧ xs.length + ys.length ≤ sizeLine ∧ ∀ p, H p = none → Q (.ref p) (upd H p (.lst (xs ++ ys)))
theorem op_catL : OpR X (binaryOp .Add) (rCatL X.K) := by
  intro pins s σ H x y v u Q I rx ry h
  obtain ⟨a, b, xs, ys, rfl, rfl, ha, hb, hz, q⟩ := h
  cases rx
  cases ry
  obtain ⟨i1, r1, p1, _⟩ := I.list ha
  obtain ⟨i2, r2, p2, _⟩ := I.list hb
  obtain ⟨⟨c1, d1, t1, z1⟩, g1, e1, n1, f1⟩ := id p1.isList
  obtain ⟨⟨c2, d2, t2, z2⟩, g2, e2, n2, f2⟩ := id p2.isList
  simp only at e1 f1 e2 f2
  subst e1 f1 e2 f2
  have l1 := r1.length
  have l2 := r2.length
  refine concat_meets ⟨_, g1, rfl⟩ ⟨_, g2, rfl⟩ noFill_list_add seq_list_add PySem.F.slot_list_add PySem.F.entry_list_add (PySem.F.args_list_add_2 _ _) (list_addW a b i1.toArray i2.toArray n1 n2 d1 d2 z1 z2 (by simp only [List.size_toArray]; omega)) ⟨g1, g2, ?_⟩
  have ea : i1.toArray ++ i2.toArray = (i1 ++ i2).toArray := by simp
  rw [ea]
  exact ⟨.ref _, _, I.lnew (t' := s.toks) (r1.append r2) (by rw [List.length_append]; omega), rfl, q _ I.fresh⟩
/-- a tuple as it is made -/
abbrev tupO (us : List Value) : Obj := { cls := .type "tuple", data := .seq us.toArray }
theorem laidN {pins : List (Addr × Obj)} {σ : L2.St} {H : Hp} {s : Shared} {xs : List V} {us : List Value} {tk : Nat} (I : Inv X pins σ H s) (r : Vals xs us) (hz : xs.length ≤ sizeLine) : Inv X pins σ (upd H s.heap.objs.size (.frz (tupO us) (.tup xs))) { s with heap := s.heap.push (tupO us), toks := tk } :=
  I.laid (t' := tk) (fun b ob q => Heap.get?_push_of_some _ q) (Nat.le_refl _) ⟨Heap.get?_push_size _ rfl, hz, us, r, IsTup.new _ _⟩
def rCatN (K : PySem.W.Frag) : R2 := fun x y H Q => ∃ a b xs ys, x = .ref a ∧ y = .ref b ∧ SqT K H a xs ∧ SqT K H b ys ∧ xs.length + ys.length ≤ sizeLine ∧
  (xs = [] → Q (.ref b) H) ∧ (xs ≠ [] → ys = [] → Q (.ref a) H) ∧ (xs ≠ [] → ys ≠ [] → ∀ p w, H p = none → w.dict = none → Q (.ref p) (upd H p (.frz w (.tup (xs ++ ys)))))
theorem op_catN : OpR X (binaryOp .Add) (rCatN X.K) := by
  intro pins s σ H x y v u Q I rx ry h
  obtain ⟨a, b, xs, ys, rfl, rfl, ha, hb, hz, q0, q1, q2⟩ := h
  by_cases hn : xs = [] ∨ ys = []
  · exact op_catA pins s σ H _ _ v u Q I rx ry ⟨a, b, xs, ys, rfl, rfl, ha, hb, hz, q0, q1, fun n1 n2 => hn.elim (fun e => absurd e n1) (fun e => absurd e n2)⟩
  · obtain ⟨hx, hy⟩ := not_or.mp hn
    cases rx
    cases ry
    obtain ⟨its, r1, p1, _⟩ := I.tuple ha
    obtain ⟨its2, r2, p2, _⟩ := I.tuple hb
    refine HT.cat_tup p1 p2 (fun z => hx (r1.nil_iff.mp z)) (fun z => absurd (r2.nil_iff.mp z) hy) (fun z => ?_) (by rw [← r1.length, ← r2.length]; exact hz)
    exact ⟨.ref s.heap.objs.size, _, laidN (tk := s.toks) I (r1.append r2) (by rw [List.length_append]; exact hz), rfl, q2 hx hy _ _ (I.hok.fresh (Nat.le_refl _)) rfl⟩
/-- all that + does here -/
def rAddD (K : PySem.W.Frag) : R2 := fun x y H Q => rI0 (fun i j => V.int (i + j)) x y H Q ∨ (∃ i j, x = .str i ∧ y = .str j ∧ i.length + j.length ≤ sizeLine ∧ Q (.str (i ++ j)) H) ∨ rCatN K x y H Q ∨ rCatL K x y H Q
theorem op_addD : OpR X (binaryOp .Add) (rAddD X.K) := op_add.or (op_add_str.or (op_catN.or op_catL))
def rOp (K : PySem.W.Frag) (op : Operator) : R2 := match op with
  | .Add => rAddD K
  | .Sub => rI0 fun i j => .int (i - j)
  | .Mult => rI CMul fun i j => .int (i * j)
  | .FloorDiv => rI CDiv fun i j => .int (i / j)
  | .Mod => rI (fun _ j => 0 < j) fun i j => .int (i % j)
  | _ => fun _ _ _ _ => False
theorem op_bin (op : Operator) : OpR X (binaryOp op) (rOp X.K op) := by
  cases op with
  | Add => exact op_addD
  | Sub => exact op_sub
  | Mult => exact op_mul
  | FloorDiv => exact op_fdiv
  | Mod => exact op_mod
  | _ => intro _ _ _ _ _ _ _ _ _ _ _ _ h; exact h.elim
end
theorem rOp_of {K : PySem.W.Frag} {O : List Addr} {H : Hp} {op : Operator} {x y : V} {d e r : D} {Q : VK} (o : OL H O) (hx : Dr K O H x d) (hy : Dr K O H y e) (h : binD op d e = .ok r)
    (q : ∀ v H', Same H H' → New K O H H' v r → Q v H') : rOp K op x y H Q := by
  unfold binD at h
  split at h
  · cases h; cases hx.int; cases hy.int
    exact .inl ⟨_, _, rfl, rfl, q _ _ (Same.refl _) .int⟩
  · obtain ⟨g, e⟩ := gd_inv h
    cases e; cases hx.str; cases hy.str
    exact .inr (.inl ⟨_, _, rfl, rfl, by rw [sizeLine_eq]; exact of_decide_eq_true g, q _ _ (Same.refl _) .str⟩)
  · obtain ⟨g, e⟩ := gd_inv h
    cases e
    obtain ⟨a, xs, rfl, sa, da, ia⟩ := hx.tuple
    obtain ⟨b, ys, rfl, sb, db, ib⟩ := hy.tuple
    have la := DpAll.length da
    have lb := DpAll.length db
    have g := of_decide_eq_true g
    refine .inr (.inr (.inl ⟨a, b, xs, ys, rfl, rfl, sa, sb, by rw [sizeLine_eq]; omega, fun z => ?_, fun _ z => ?_, fun _ _ p w np hw => ?_⟩))
    · subst z; cases da
      exact q _ _ (Same.refl _) (.imm ib (fun _ e => nomatch e))
    · subst z; cases db
      rw [List.append_nil] at q
      exact q _ _ (Same.refl _) (.imm ia (fun _ e => nomatch e))
    · exact q _ _ (same_upd np) (.tup hw np o (DpAll.append da db))
  · obtain ⟨g, e⟩ := gd_inv h
    cases e
    obtain ⟨a, xs, rfl, sa, da⟩ := hx.list
    obtain ⟨b, ys, rfl, sb, db⟩ := hy.list
    have la := DpAll.length da
    have lb := DpAll.length db
    have g := of_decide_eq_true g
    exact .inr (.inr (.inr ⟨a, b, xs, ys, rfl, rfl, sa, sb, by rw [sizeLine_eq]; omega, fun p np => q _ _ (same_upd np) (.lst np o (DpAll.append da db))⟩))
  · cases h; cases hx.int; cases hy.int
    exact ⟨_, _, rfl, rfl, q _ _ (Same.refl _) .int⟩
  · obtain ⟨g, e⟩ := gd_inv h
    cases e; cases hx.int; cases hy.int
    refine ⟨_, _, rfl, rfl, ?_, q _ _ (Same.refl _) .int⟩
    rcases Bool.or_eq_true_iff.mp g with g | g
    · exact .inl ⟨of_decide_eq_true (Bool.and_eq_true_iff.mp g).1, of_decide_eq_true (Bool.and_eq_true_iff.mp g).2⟩
    · exact .inr ⟨of_decide_eq_true (Bool.and_eq_true_iff.mp g).1, of_decide_eq_true (Bool.and_eq_true_iff.mp g).2⟩
  · obtain ⟨g, e⟩ := gd_inv h
    cases e; cases hx.int; cases hy.int
    exact ⟨_, _, rfl, rfl, ⟨of_decide_eq_true (Bool.and_eq_true_iff.mp g).1, of_decide_eq_true (Bool.and_eq_true_iff.mp g).2⟩, q _ _ (Same.refl _) .int⟩
  · obtain ⟨g, e⟩ := gd_inv h
    cases e; cases hx.int; cases hy.int
    exact ⟨_, _, rfl, rfl, of_decide_eq_true g, q _ _ (Same.refl _) .int⟩
  · cases h
/-! ### comparisons -/
def isN : D → Bool
  | .none => true
  | _ => false
def cmpD (op : CmpOp) (x y : D) : R D := match op with
  | .Eq => gd (decide (min x.depth y.depth ≤ 60)) (.ok (.bool (PyData.eqv x y)))
  | .NotEq => gd (decide (min x.depth y.depth ≤ 60)) (.ok (.bool (!PyData.eqv x y)))
  | .Lt => match x, y with
    | .int i, .int j => .ok (.bool (decide (i < j)))
    | _, _ => stk
  | .LtE => match x, y with
    | .int i, .int j => .ok (.bool (decide (i ≤ j)))
    | _, _ => stk
  | .Gt => match x, y with
    | .int i, .int j => .ok (.bool (decide (j < i)))
    | _, _ => stk
  | .GtE => match x, y with
    | .int i, .int j => .ok (.bool (decide (j ≤ i)))
    | _, _ => stk
  | .In => match y with
    | .list ys => gd (decide (x.depth ≤ 60)) (.ok (.bool (ys.any fun z => PyData.eqv z x)))
    | .tuple ys => gd (decide (x.depth ≤ 60)) (.ok (.bool (ys.any fun z => PyData.eqv z x)))
    | _ => stk
  | .NotIn => match y with
    | .list ys => gd (decide (x.depth ≤ 60)) (.ok (.bool (!ys.any fun z => PyData.eqv z x)))
    | .tuple ys => gd (decide (x.depth ≤ 60)) (.ok (.bool (!ys.any fun z => PyData.eqv z x)))
    | _ => stk
  | .Is => match x, y with
    | .bool a, .bool b => .ok (.bool (a == b))
    | x, .none => .ok (.bool (isN x))
    | _, _ => stk
  | .IsNot => match x, y with
    | .bool a, .bool b => .ok (.bool (!(a == b)))
    | x, .none => .ok (.bool (!isN x))
    | _, _ => stk
mutual
theorem Dp.plain {K : PySem.W.Frag} {H : Hp} : ∀ {d : D} {v : V}, Dp K H v d → d.plain = true
  | .none, _, _ => rfl
  | .bool _, _, _ => rfl
  | .int _, _, _ => rfl
  | .str _, _, _ => rfl
  | .list ds, _, h => by
    cases h with
    | lst _ a => rw [PyData.plain]; exact DpAll.plain a
  | .tuple ds, _, h => by
    cases h with
    | tup _ a => rw [PyData.plain]; exact DpAll.plain a
  | .dict _, _, h => by cases h
theorem DpAll.plain {K : PySem.W.Frag} {H : Hp} : ∀ {ds : List D} {vs : List V}, DpAll K H vs ds → PyData.plainAll ds = true
  | [], _, _ => rfl
  | d :: ds, _, h => by
    cases h with
    | cons a b => rw [PyData.plainAll, Dp.plain a, DpAll.plain b]; rfl
end

/-- a comparison: data in, a bool out -/
def rCmp (K : PySem.W.Frag) (op : CmpOp) : R2 := fun x y H Q => ∃ d e b, Dp K H x d ∧ Dp K H y e ∧ cmpD op d e = .ok (.bool b) ∧ Q (.bl b) H
theorem isN_dp {K : PySem.W.Frag} {H : Hp} {x : V} {d : D} (h : Dp K H x d) : decide (x = .non) = isN d := by
  cases h <;> rfl
theorem op_cmp {X : Cx} (hu : X.A.units + 200 < cLine) (op : CmpOp) : OpR X (compareOp op) (rCmp X.K op) := by
  intro pins s σ H x y v u Q I rx ry h
  obtain ⟨d, e, b, hd, he, hc, q⟩ := h
  obtain ⟨as, r1⟩ := Dp.reads I d x v hd rx
  obtain ⟨bs, r2⟩ := Dp.reads I e y u he ry
  have p1 := Dp.plain hd
  have p2 := Dp.plain he
  cases op with
  | Eq =>
    obtain ⟨g, e⟩ := gd_inv hc
    cases e
    have g := of_decide_eq_true g
    exact SeqAt.eq_plain r1 r2 p1 p2 (by omega) ⟨.bl _, H, I, rfl, q⟩
  | NotEq =>
    obtain ⟨g, e⟩ := gd_inv hc
    cases e
    have g := of_decide_eq_true g
    exact SeqAt.ne_plain r1 r2 p1 p2 (by omega) ⟨.bl _, H, I, rfl, q⟩
  | Lt => 
    cases hd <;> first | (cases hc; done) | skip
    cases he <;> first | (cases hc; done) | skip
    cases hc
    exact op_lt pins s σ H _ _ v u Q I rx ry ⟨_, _, rfl, rfl, q⟩
  | LtE =>
    cases hd <;> first | (cases hc; done) | skip
    cases he <;> first | (cases hc; done) | skip
    cases hc
    exact op_le pins s σ H _ _ v u Q I rx ry ⟨_, _, rfl, rfl, q⟩
  | Gt =>
    cases hd <;> first | (cases hc; done) | skip
    cases he <;> first | (cases hc; done) | skip
    cases hc
    exact op_gt pins s σ H _ _ v u Q I rx ry ⟨_, _, rfl, rfl, q⟩
  | GtE =>
    cases hd <;> first | (cases hc; done) | skip
    cases he <;> first | (cases hc; done) | skip
    cases hc
    exact op_ge pins s σ H _ _ v u Q I rx ry ⟨_, _, rfl, rfl, q⟩
  | In =>
    unfold cmpD at hc
    dsimp only at hc
    split at hc
    · obtain ⟨g, e⟩ := gd_inv hc
      cases e
      have g := of_decide_eq_true g
      exact SeqAt.in_list_data r2 r1 (by simpa [PyData.plain] using p2) p1 (by omega) ⟨.bl _, H, I, rfl, q⟩
    · obtain ⟨g, e⟩ := gd_inv hc
      cases e
      have g := of_decide_eq_true g
      exact SeqAt.in_tuple_data r2 r1 (by simpa [PyData.plain] using p2) p1 (by omega) ⟨.bl _, H, I, rfl, q⟩
    · cases hc
  | NotIn =>
    unfold cmpD at hc
    dsimp only at hc
    split at hc
    · obtain ⟨g, e⟩ := gd_inv hc
      cases e
      have g := of_decide_eq_true g
      exact SeqAt.notIn_list_data r2 r1 (by simpa [PyData.plain] using p2) p1 (by omega) ⟨.bl _, H, I, rfl, q⟩
    · obtain ⟨g, e⟩ := gd_inv hc
      cases e
      have g := of_decide_eq_true g
      exact SeqAt.notIn_tuple_data r2 r1 (by simpa [PyData.plain] using p2) p1 (by omega) ⟨.bl _, H, I, rfl, q⟩
    · cases hc
  | Is =>
    unfold cmpD at hc
    dsimp only at hc
    split at hc
    · cases hc; cases hd; cases he
      refine op_isBl pins s σ H _ _ v u Q I rx ry ⟨_, _, rfl, rfl, ?_⟩
      rw [← Bool.beq_eq_decide_eq]; exact q
    · cases hc; cases he
      refine op_isN pins s σ H _ _ v u Q I rx ry ⟨rfl, ?_⟩
      rw [isN_dp hd]; exact q
    · cases hc
  | IsNot =>
    unfold cmpD at hc
    dsimp only at hc
    split at hc
    · cases hc; cases hd; cases he
      refine op_notBl pins s σ H _ _ v u Q I rx ry ⟨_, _, rfl, rfl, ?_⟩
      rw [← Bool.beq_eq_decide_eq]; exact q
    · cases hc; cases he
      refine op_notN pins s σ H _ _ v u Q I rx ry ⟨rfl, ?_⟩
      rw [isN_dp hd]; exact q
    · cases hc
theorem cmpD_bool {op : CmpOp} {d e r : D} (h : cmpD op d e = .ok r) : ∃ b, r = .bool b := by
  unfold cmpD at h
  split at h <;> first
    | (obtain ⟨_, e⟩ := gd_inv h; cases e; exact ⟨_, rfl⟩)
    | (split at h <;> first | (cases h; exact ⟨_, rfl⟩) | (obtain ⟨_, e⟩ := gd_inv h; cases e; exact ⟨_, rfl⟩) | (cases h; done))
/-! ### items, slices -/
def ixD (x i : D) : R D := match x, i with
  | .list ds, .int k => match atI ds k with
    | some d => .ok d
    | none => stk
  | .tuple ds, .int k => match atI ds k with
    | some d => .ok d
    | none => stk
  | .str z, .int k => match atI z.cps.toList k with
    | some c => gd (decide (z.length ≤ 16777216)) (.ok (.str ⟨#[c]⟩))
    | none => stk
  | _, _ => stk
theorem atI_all {K : PySem.W.Frag} {H : Hp} {xs : List V} {ds : List D} {k : Int} {d : D} (h : DpAll K H xs ds) (e : atI ds k = some d) : ∃ v, atI xs k = some v ∧ Dp K H v d := by
  unfold atI at e ⊢
  rw [DpAll.length h]
  cases q : ixN ds.length k with
  | none => rw [q] at e; cases e
  | some j =>
    rw [q] at e
    exact DpAll.get h e
theorem ix_of {K : PySem.W.Frag} {O : List Addr} {H : Hp} {x y : V} {d e r : D} {Q : VK} (hx : Dr K O H x d) (hy : Dr K O H y e) (h : ixD d e = .ok r) (q : ∀ v, Dp K (msk H O) v r → Q v H) : rIx K x y H Q := by
  unfold ixD at h
  split at h
  · cases hy.int
    obtain ⟨a, xs, rfl, sa, da⟩ := hx.list
    split at h
    · rename_i ee
      cases h
      obtain ⟨v, e1, e2⟩ := atI_all da ee
      exact .inl ⟨a, xs, _, v, rfl, rfl, sa, e1, q v e2⟩
    · cases h
  · cases hy.int
    obtain ⟨a, xs, rfl, sa, da, _⟩ := hx.tuple
    split at h
    · rename_i ee
      cases h
      obtain ⟨v, e1, e2⟩ := atI_all da ee
      exact .inr (.inl ⟨a, xs, _, v, rfl, rfl, sa, e1, q v e2⟩)
    · cases h
  · cases hy.int; cases hx.str
    split at h
    · rename_i ee
      obtain ⟨g, e⟩ := gd_inv h
      cases e
      exact .inr (.inr ⟨_, _, _, rfl, rfl, by rw [sizeLine_eq]; exact of_decide_eq_true g, ee, q _ (.str _)⟩)
    · cases h
  · cases h
def cutD (xs : List D) (lo hi : Option Int) : List D := (xs.drop (HT.sIx xs.length 0 lo)).take (HT.sIx xs.length xs.length hi - HT.sIx xs.length 0 lo)
def slD (x : D) (lo hi : Option Int) : R D := match x with
  | .list ds => .ok (.list (cutD ds lo hi))
  | .tuple ds => .ok (.tuple (cutD ds lo hi))
  | _ => stk
theorem cut_all {K : PySem.W.Frag} {H : Hp} {xs : List V} {ds : List D} (lo hi : Option Int) (h : DpAll K H xs ds) : DpAll K H (cutV xs lo hi) (cutD ds lo hi) := by
  unfold cutV cutD
  rw [DpAll.length h]
  exact DpAll.take _ (DpAll.drop _ h)
def rSlN (K : PySem.W.Frag) : V → Option Int → Option Int → Hp → VK → Prop := fun x lo hi H Q => ∃ a xs, x = .ref a ∧ SqT K H a xs ∧
  (HT.sIx xs.length 0 lo = 0 ∧ HT.sIx xs.length xs.length hi = xs.length → Q (.ref a) H) ∧ (¬ (HT.sIx xs.length 0 lo = 0 ∧ HT.sIx xs.length xs.length hi = xs.length) → ∀ p w, H p = none → w.dict = none → Q (.ref p) (upd H p (.frz w (.tup (cutV xs lo hi)))))
theorem sl_tupN {X : Cx} : SlR X (rSlN X.K) := by
  intro pins s σ H x v vl vu lo hi sl Q I rx hs pl pu h
  obtain ⟨a, xs, rfl, hx, q1, q2⟩ := h
  by_cases hw : HT.sIx xs.length 0 lo = 0 ∧ HT.sIx xs.length xs.length hi = xs.length
  · exact sl_tupA pins s σ H _ v vl vu lo hi sl Q I rx hs pl pu ⟨a, xs, rfl, hx, q1, fun n => absurd hw n⟩
  · cases rx
    obtain ⟨its, r, ht, hz⟩ := I.tuple hx
    have hlen : its.toArray.size = xs.length := by rw [List.size_toArray]; exact r.length.symm
    refine ⟨"tuple", _, PyProof.Rows.slot_tuple_getitem.lookup, ht.typeIs, ?_⟩
    refine HT.getItem_tuple_cut ht hs pl pu (by rw [hlen]; exact hw) ?_ (by rw [hlen]; exact hz)
    rw [hlen]
    exact ⟨.ref s.heap.objs.size, _, laidN (tk := s.toks) I ((r.drop (HT.sIx xs.length 0 lo)).take (HT.sIx xs.length xs.length hi - HT.sIx xs.length 0 lo)) (Nat.le_trans (cutV_length xs lo hi) hz), rfl, q2 hw _ _ (I.hok.fresh (Nat.le_refl _)) rfl⟩
def rSlD (K : PySem.W.Frag) : V → Option Int → Option Int → Hp → VK → Prop := fun x lo hi H Q => rSlL K x lo hi H Q ∨ rSlN K x lo hi H Q
theorem sl_D {X : Cx} : SlR X (rSlD X.K) := sl_list.or sl_tupN
theorem sl_of {K : PySem.W.Frag} {O : List Addr} {H : Hp} {x : V} {d r : D} {lo hi : Option Int} {Q : VK} (o : OL H O) (hx : Dr K O H x d) (h : slD d lo hi = .ok r) (q : ∀ v H', Same H H' → New K O H H' v r → Q v H') : rSlD K x lo hi H Q := by
  unfold slD at h
  split at h
  · cases h
    obtain ⟨a, xs, rfl, sa, da⟩ := hx.list
    exact .inl ⟨a, xs, rfl, sa, fun p np => q _ _ (same_upd np) (.lst np o (cut_all lo hi da))⟩
  · cases h
    obtain ⟨a, xs, rfl, sa, da, ia⟩ := hx.tuple
    have l := DpAll.length da
    refine .inr ⟨a, xs, rfl, sa, fun z => ?_, fun _ p w np hw => q _ _ (same_upd np) (.tup hw np o (cut_all lo hi da))⟩
    rw [l] at z
    unfold cutD at q
    rw [z.1, z.2, List.drop_zero, Nat.sub_zero, List.take_length] at q
    exact q _ _ (Same.refl _) (.imm ia (fun _ e => nomatch e))
  · cases h
end Mt

set_option Elab.async false
set_option linter.all false
set_option maxRecDepth 100000
set_option maxHeartbeats 4000000
/-! Sorting tuples that need be alike only as far as they are equal. -/
namespace Mt
open PySem PySem.Spec PySem.Calls PyProof.Rows PySem.W
def alkAll : List PyData → List PyData → Bool
  | x :: xs, y :: ys => alike x y && (!PyData.eqv x y || alkAll xs ys)
  | _, _ => true
def alk : PyData → PyData → Bool
  | .tuple xs, .tuple ys => alkAll xs ys
  | x, y => alike x y
theorem alkAll_cons {x y : PyData} {xs ys : List PyData} (h : alkAll (x :: xs) (y :: ys) = true) : alike x y = true ∧ (PyData.eqv x y = true → alkAll xs ys = true) := by
  rw [alkAll, Bool.and_eq_true] at h
  refine ⟨h.1, fun e => ?_⟩
  have q := h.2
  rw [e, Bool.not_true, Bool.false_or] at q
  exact q
theorem alkAll_unique {h : Heap} : ∀ (xs ys : List PyData) (vs : List Value) (as bs : List Addr), alkAll xs ys = true → ReadsAll h vs xs as → ReadsAll h vs ys bs → xs = ys
  | [], ys, _, _, _, _, ra, rb => by
    cases ra
    cases rb
    rfl
  | x :: xs, ys, _, _, _, q, ra, rb => by
    cases ra with
    | cons r1 r2 =>
      cases rb with
      | cons k1 k2 =>
        obtain ⟨q1, q2⟩ := alkAll_cons q
        have e := alike_unique _ _ _ _ _ q1 r1 k1
        subst e
        rw [alkAll_unique xs _ _ _ _ (q2 (eqv_refl_alike x q1)) r2 k2]
theorem alk_unique {h : Heap} {d d' : PyData} {v : Value} {as bs : List Addr} (q : alk d d' = true) (ra : Reads h v d as) (rb : Reads h v d' bs) : d = d' := by
  by_cases t : ∃ xs ys, d = .tuple xs ∧ d' = .tuple ys
  · obtain ⟨xs, ys, rfl, rfl⟩ := t
    cases ra with
    | @tuple l o vs n _ as₁ h1 h2 h3 h4 =>
      cases rb with
      | @tuple l' o' vs' n' _ bs₁ k1 k2 k3 k4 =>
        rw [h1] at k1
        cases k1
        rw [h3] at k3
        cases k3
        rw [alkAll_unique _ _ _ _ _ q h4 k4]
  · refine alike_unique _ _ _ _ _ ?_ ra rb
    cases d <;> cases d' <;> first | exact q | (exact absurd ⟨_, _, rfl, rfl⟩ t)
def AllAlk (ds : List PyData) : Prop := ∀ d, d ∈ ds → ∀ e, e ∈ ds → alk d e = true
theorem keyOf_alk {h : Heap} {ds : List PyData} (hal : AllAlk ds) {v : Value} {d : PyData} {as : List Addr} (hd : d ∈ ds) (r : Reads h v d as) : (dataKind h ds).keyOf v = some (keyToks d) := by
  have q : ∃ d, d ∈ ds ∧ ∃ as, Reads h v d as := ⟨d, hd, as, r⟩
  have e : (dataKind h ds).keyOf v = some (keyToks q.choose) := dif_pos q
  obtain ⟨h1, as', h2⟩ := q.choose_spec
  rw [e, alk_unique (hal _ h1 _ hd) h2 r]
theorem keys_alk {h : Heap} {ds : List PyData} (hal : AllAlk ds) {vs : List Value} (e : EachIs (fun v d => ∃ as, Reads h v d as) vs ds) : EachIs (fun v d => (dataKind h ds).keyOf v = some (keyToks d)) vs ds :=
  (each_mem e).mono fun _ _ q => let ⟨⟨_, r⟩, hd⟩ := q; keyOf_alk hal hd r
theorem vals_alk {h' : Heap} {R : Value → PyData → Prop} {vs : List Value} {bs : List PyData} (e : EachIs R vs bs) (er : EachIs (fun v b => ∃ as, Reads h' v b as) vs bs) (hal : AllAlk bs) : EachIs R (sortVals (dataKind h' bs) false vs vs) (bs.mergeSort (dataLe false id)) :=
  sortVals_each (κ := dataKind h' bs) (fun b => keyToks b) e (keys_alk hal er)
section
variable {prog : Program} {w : World} {A : Around} {s : Shared}
theorem lex_alk {b fin : Bool} {Q : Bool → Shared → Prop} : ∀ (xs ys : List PyData) (i : Nat) (vs ws : List Value) (as bs : List Addr), ReadsAll s.heap vs xs as → ReadsAll s.heap ws ys bs → alkAll xs ys = true →
    A.units + min (PyData.depthAll xs) (PyData.depthAll ys) < cLine → (b = true → i = 0 → ∀ x r t, xs = x :: r → x ≠ .tuple t) → fin = decide (xs.length < ys.length) → Q (PyProof.Rows.lexLt itemOrd (keyToksAll xs) (keyToksAll ys)) s → KatLex prog w A b fin Q (vs.zip ws) i s
  | [], ys, i, vs, ws, as, bs, ra, rb, _, hu, hb, hf, hq => katLex_alike [] ys i vs ws as bs ra rb (by rw [alikeAll]) hu hb hf hq
  | x :: xs, [], i, vs, ws, as, bs, ra, rb, _, hu, hb, hf, hq => katLex_alike (x :: xs) [] i vs ws as bs ra rb (by rw [alikeAll]) hu hb hf hq
  | x :: xs, y :: ys, i, _, _, _, _, ra, rb, h, hu, hb, hf, hq => by
    obtain ⟨h1, h2⟩ := alkAll_cons h
    have hf' : fin = decide (xs.length < ys.length) := by rw [hf]; simp
    cases ra with
    | cons r rs =>
      cases rb with
      | cons r' rs' =>
        rw [List.zip_cons_cons]
        refine kat_cons (eqAt_alike x y A s _ _ _ _ r r' h1 (SeqAt.room_head hu) prog w _ _ ?_)
        refine kat_go (fun hx => ?_) fun hx => ?_
        · rw [dataLt_all_yes h1 hx] at hq
          exact kat_yes (lex_alk xs ys (i + 1) _ _ _ _ rs rs' (h2 hx) (SeqAt.room_tail hu) (fun _ hi => absurd hi (Nat.succ_ne_zero i)) hf' hq)
        · rw [dataLt_all_no h1 hx] at hq
          refine kat_no (oneLt_alike (fun hbi t => ?_) r r' h1 (ne_none_of h1 hx) (SeqAt.room_head hu) hq)
          rw [Bool.and_eq_true] at hbi
          exact hb hbi.1 (by simpa using hbi.2) x xs t rfl
/-- such values can be sorted -/
theorem sorts_alk {vs : List Value} {ds : List PyData} (e : EachIs (fun v d => ∃ as, Reads s.heap v d as) vs ds) (hal : AllAlk ds) (hk : Sortable ds) (hu : ∀ d, d ∈ ds → A.units + d.depth < cLine) : SortsAt prog w A s (dataKind s.heap ds) vs := by
  rcases hk with ht | hn
  · refine ⟨fun v hv => ?_, ?_⟩
    · obtain ⟨d, hd, as, r⟩ := e.left v hv
      exact ⟨_, keyOf_alk hal hd r⟩
    · cases ds with
      | nil =>
        cases e
        refine ⟨general', fun E x y a b Q ha _ _ => ?_, fun h2 => absurd h2 (by simp)⟩
        obtain ⟨d, _, hd, _⟩ := dataKind_inv ha
        cases hd
      | cons d₀ ds₀ =>
        obtain ⟨x₀, r₀, e₀⟩ := ht d₀ (List.mem_cons_self ..)
        have first : ∀ x r, PyData.tuple (x :: r) ∈ d₀ :: ds₀ → alike x x₀ = true := fun x r hm => by
          have q := hal _ hm d₀ (List.mem_cons_self ..)
          rw [e₀] at q
          exact (alkAll_cons q).1
        refine ⟨tuples' (dataType x₀ != Value.type "tuple"), fun E x y a b Q ha hb hq => ?_, fun h2 E Q hq => ?_⟩
        · obtain ⟨d, as, hd, ra, rfl⟩ := dataKind_inv ha
          obtain ⟨d', as', hd', rb, rfl⟩ := dataKind_inv hb
          have hdd := hal d hd d' hd'
          have hroom : A.units + min d.depth d'.depth < cLine := Nat.lt_of_le_of_lt (Nat.add_le_add_left (Nat.min_le_left _ _) _) (hu d hd)
          obtain ⟨x1, r1, rfl⟩ := ht d hd
          obtain ⟨x2, r2, rfl⟩ := ht d' hd'
          have hq' : Q (dataLt (.tuple (x1 :: r1)) (.tuple (x2 :: r2))) s := hq
          rw [dataLt_tuple] at hq'
          cases ra with
          | @tuple l o xs n _ _ h1 h2 h3 h4 =>
            cases rb with
            | @tuple l' o' xs' n' _ _ k1 k2 k3 k4 =>
              have n1 := SeqAt.ReadsAll.length _ _ _ h4
              have n2 := SeqAt.ReadsAll.length _ _ _ k4
              rw [Array.length_toList] at n1 n2
              refine kat_lt h1 h3 k1 k3 (lex_alk (x1 :: r1) (x2 :: r2) 0 _ _ _ _ h4 k4 hdd (by have q := SeqAt.room_in hroom; omega) (fun hb _ x r t ex => ?_) (by rw [n1, n2]) hq')
              cases ex
              rw [← dataType_alike (first _ _ hd)] at hb
              exact dataType_tuple hb t
        · obtain ⟨fs, t1, t2, t3⟩ := each_katTups e ht
          refine kat_kind (T := dataType x₀) t1 (by omega) (fun f hf => ?_) (beq_self_eq_true _) hq
          obtain ⟨x, r, as, m1, m2⟩ := t3 f hf
          rw [← dataType_alike (first x r m1)]
          exact looks_reads m2
  · refine SortsAt.data e (fun d hd d' hd' => ?_) (.inr hn) hu
    have q := hal d hd d' hd'
    cases d with
    | tuple xs => exact absurd rfl ((hn _ hd).2 xs)
    | _ => exact q
end
end Mt

set_option Elab.async false
set_option linter.all false
set_option maxRecDepth 100000
set_option maxHeartbeats 4000000
/-! Built-in functions over data. -/
namespace Mt
open PySem PySem.Spec PyProof.Rows L2
/-! ### sorted, of a list or a tuple -/
/-- a list or a tuple in the heap -/
def IsSq (h : Heap) (l : Addr) (us : List Value) : Prop := h.IsList l us.toArray ∨ h.IsTuple l us.toArray
theorem IsSq.raw {h : Heap} {l : Addr} {us : List Value} (z : IsSq h l us) : ∃ (T : String) (o : Obj) (n : Nat), (T = "list" ∨ T = "tuple") ∧ h.get? l = some o ∧ o.cls = .type T ∧ o.data = .seq us.toArray n := by
  rcases z with ⟨o, e, c, n, d⟩ | ⟨o, e, c, n, d⟩
  · exact ⟨"list", o, n, .inl rfl, e, c, d⟩
  · exact ⟨"tuple", o, n, .inr rfl, e, c, d⟩
section
variable {prog : Program} {w : World} {A : Around} {E : Value → Shared → Prop} {s : Shared}
theorem gather {l : Addr} {us : List Value} {Q : List Value → Shared → Prop} (z : IsSq s.heap l us)
    (h : Q us { s with heap := (s.heap.push (seqObj "list" #[] 0)).update s.heap.objs.size (Obj.mapSeq (· ++ us.toArray)) }) (hz : us.length ≤ sizeLine) :
    wpAny (model prog w) A (collect (.ref l)) Q E s := by
  obtain ⟨T, o, n, hT, ho, hc, hd⟩ := z.raw
  unfold collect
  refine wpAny_bind (wpAny_runValue (codeAny_builtin entry_proto_collect' ?_))
  show wpAny _ _ (do again (.builtin "list.__iadd__" ⟨[← newList [], .ref l], []⟩)) _ _ s
  refine wpAny_bind (wpAny_newList (wpAny_pure ⟨Code.quiet_builtin _ (by decide +kernel), codeAny_builtin entry_list_iadd' ?_⟩))
  show wpAny _ _ (Builtin.List.listExtendWith (.ref s.heap.objs.size) (.ref l) (.ref s.heap.objs.size)) _ _ { s with heap := s.heap.push (seqObj "list" #[] 0) }
  unfold Builtin.List.listExtendWith
  have g : (s.heap.push (seqObj "list" #[] 0)).get? l = some o := Heap.get?_push_of_some _ ho
  refine wpAny_bind (wpAny_typeOf (T := T) ⟨o, g, hc⟩ ?_)
  have ht : (Value.type T == Value.type "list") = true ∨ (Value.type T == Value.type "tuple") = true := by
    rcases hT with rfl | rfl
    · exact .inl rfl
    · exact .inr rfl
  rw [if_pos (by rcases ht with e | e <;> rw [e] <;> simp)]
  refine wpAny_bind (listItems_at g hd ?_)
  refine wpAny_bind (listItems_at (xs := #[]) (n := 0) (Heap.get?_push_size _ rfl) rfl ?_)
  rw [if_neg (by simp)]
  refine wpAny_bind (listUpdate_at (xs := #[]) (n := 0) (Heap.get?_push_size _ rfl) rfl ?_ (Nat.zero_le _) (by show (#[] ++ us.toArray).size ≤ sizeLine + 1; simp only [Array.size_append, List.size_toArray, List.length_nil]; omega))
  refine wpAny_pure ?_
  show wpAny (model prog w) A (do
      let o ← load s.heap.objs.size
      match o.data with
      | .seq xs _ => pure xs.toList
      | _ => unsupported "internal:collect") Q E { s with heap := (s.heap.push (seqObj "list" #[] 0)).update s.heap.objs.size (Obj.mapSeq (· ++ us.toArray)) }
  refine wpAny_bind (wpAny_load (get?_update_seq (Heap.get?_push_size _ rfl) _) ?_)
  show wpAny _ _ (pure ((#[] : Array Value) ++ us.toArray).toList) Q E _
  rw [show ((#[] : Array Value) ++ us.toArray).toList = us by simp]
  exact wpAny_pure h
theorem sorted_gathered {l : Addr} {us : List Value} {Q : Value → Shared → Prop} (z : IsSq s.heap l us) (hL : us.length ≤ sizeLine)
    (body : ∀ E' : Value → Shared → Prop, wpAny (model prog w) A.in1.in1 (Builtin.«list.sort» ⟨[.ref (s.heap.objs.size + 1)], []⟩) (fun f s' => f = .done (.ret .none) ∧ Q (.ref (s.heap.objs.size + 1)) s') E' { s with heap := PySem.W.copyHeap s.heap us }) :
    wpAny (model prog w) A (call (.builtin "sorted") [.ref l] []) Q E s := by
  refine PyProof.Rows.call_function_entry_kw kind_sorted plain_sorted entry_sorted (args_sorted1 _) ?_
  unfold Builtin.«sorted»
  refine wpAny_bind (m := checkCount "sorted" 1 1 _) (wpAny_pure ?_)
  refine wpAny_bind (gather z ?_ hL)
  refine wpAny_bind (wpAny_newList ?_ hL)
  have e : ((s.heap.push (seqObj "list" #[] 0)).update s.heap.objs.size (Obj.mapSeq (· ++ us.toArray))).objs.size = s.heap.objs.size + 1 := by
    rw [Heap.size_update, size_push']
  show wpAny _ _ _ _ _ { s with heap := PySem.W.copyHeap s.heap us }
  rw [e]
  refine wpAny_bind (wpAny_holding (PyProof.Rows.wpAny_call_entry_kw slot_list_sort ⟨_, PySem.W.copyHeap_at s.heap us, rfl⟩ entry_list_sort ?bd (args_list_sort _)))
  case bd =>
    show wpAny (model prog w) A.in1.in1 (Builtin.«list.sort» ⟨[.ref (s.heap.objs.size + 1)], []⟩) _ _ _
    refine wpAny_mono (body _) (fun f s' hf => ?_) fun _ _ e => e
    obtain ⟨rfl, q⟩ := hf
    exact ⟨_, rfl, wpAny_pure ⟨_, rfl, q⟩⟩
end
/-- sorted data -/
def sortD (ds : List D) : List D := ds.mergeSort (PySem.W.dataLe false id)
section
variable {prog : Program} {w : World} {A : Around} {E : Value → Shared → Prop} {s : Shared}
theorem sorted_of_data {l : Addr} {us : List Value} {ds : List D} {G : Value → D → Prop} {Q : Value → Shared → Prop} (z : IsSq s.heap l us) (e : PySem.W.EachIs G us ds) (er : PySem.W.EachIs (fun v d => ∃ as, Reads s.heap v d as) us ds) (hal : AllAlk ds)
    (hk : PySem.W.Sortable ds) (hL : ds.length ≤ sizeLine) (hu : ∀ d, d ∈ ds → A.units + 2 + d.depth < cLine)
    (h : ∀ out, out.length = ds.length → PySem.W.EachIs G out (sortD ds) → Q (.ref (s.heap.objs.size + 1)) { s with heap := sortedAll s.heap us (List.toArray out) }) :
    wpAny (model prog w) A (call (.builtin "sorted") [.ref l] []) Q E s := by
  have er1 : PySem.W.EachIs (fun v b => ∃ as, Reads (PySem.W.sortingHeap (PySem.W.copyHeap s.heap us) (s.heap.objs.size + 1) us) v (id b) as) us ds := er.mono fun _ _ ⟨as, r⟩ => ⟨as, PyProof.Rows.Reads.keeps (fun _ _ => PySem.W.sorting_copy_old) r⟩
  have ul := e.length
  refine sorted_gathered z (by omega) fun _ => PySem.W.list_sort_vals (κ := PySem.W.dataKind (PySem.W.sortingHeap (PySem.W.copyHeap s.heap us) (s.heap.objs.size + 1) us) ds) (s := { s with heap := PySem.W.copyHeap s.heap us }) (PySem.W.copyHeap_at s.heap us) ?_ (by omega) ⟨rfl, ?_⟩
  · exact sorts_alk (s := { s with heap := PySem.W.sortingHeap (PySem.W.copyHeap s.heap us) (s.heap.objs.size + 1) us }) er1 hal hk fun d hd => hu d hd
  · exact h _ (by rw [PySem.W.sortVals_length false rfl]; exact ul) (vals_alk e er1 hal)
end
/-- values and data, one by one -/
theorem each_of {K : PySem.W.Frag} {H : Hp} : ∀ {xs : List V} {us : List Value} {ds : List D}, Vals xs us → DpAll K H xs ds → PySem.W.EachIs (fun u d => ∃ v, RelV v u ∧ Dp K H v d) us ds
  | _, _, _, .nil, .nil => .nil
  | _, _, _, .cons r t, .cons h q => .cons ⟨_, r, h⟩ (each_of t q)
theorem of_each {K : PySem.W.Frag} {H : Hp} : ∀ {us : List Value} {ds : List D}, PySem.W.EachIs (fun u d => ∃ v, RelV v u ∧ Dp K H v d) us ds → ∃ xs, Vals xs us ∧ DpAll K H xs ds
  | _, _, .nil => ⟨[], .nil, .nil⟩
  | _, _, .cons ⟨v, r, h⟩ t => by
    obtain ⟨xs, a, b⟩ := of_each t
    exact ⟨v :: xs, .cons r a, .cons h b⟩
theorem each_reads {X : Cx} {pins : List (Addr × Obj)} {σ : L2.St} {H : Hp} {s : Shared} (I : Inv X pins σ H s) : ∀ {xs : List V} {us : List Value} {ds : List D}, Vals xs us → DpAll X.K H xs ds → PySem.W.EachIs (fun u d => ∃ as, Reads s.heap u d as) us ds
  | _, _, _, .nil, .nil => .nil
  | _, _, _, .cons r t, .cons h q => .cons (Dp.reads I _ _ _ h r) (each_reads I t q)
def alikeB (ds : List D) : Bool := ds.all fun d => ds.all fun e => alk d e
def srtB (ds : List D) : Bool := (ds.all fun d => match d with | .tuple (_ :: _) => true | _ => false) || (ds.all fun d => match d with | .none => false | .tuple _ => false | _ => true)
theorem alikeB_ok {ds : List D} (h : alikeB ds = true) : AllAlk ds := fun d hd e he => List.all_eq_true.mp (List.all_eq_true.mp h d hd) e he
theorem srtB_ok {ds : List D} (h : srtB ds = true) : PySem.W.Sortable ds := by
  rcases Bool.or_eq_true_iff.mp h with h | h
  · refine .inl fun d hd => ?_
    have q := List.all_eq_true.mp h d hd
    split at q
    · exact ⟨_, _, rfl⟩
    · cases q
  · refine .inr fun d hd => ?_
    have q := List.all_eq_true.mp h d hd
    refine ⟨fun e => ?_, fun xs e => ?_⟩ <;> · subst e; cases q
def sortOk (ds : List D) : Bool := alikeB ds && srtB ds && ds.all fun d => decide (d.depth ≤ 60)
/-- sorted -/
def rSrt (K : PySem.W.Frag) : List V → Hp → VK → Prop := fun vs H Q => ∃ (a : Addr) (xs : List V) (ds : List D) (M : Hp), vs = [V.ref a] ∧ (SqL K H a xs ∨ SqT K H a xs) ∧ Same M H ∧ DpAll K M xs ds ∧ sortOk ds = true ∧
  ∀ (ys : List V) (p : Addr), H p = none → DpAll K M ys (sortD ds) → Q (.ref p) (upd H p (.lst ys))
theorem sq_is {X : Cx} {pins : List (Addr × Obj)} {σ : L2.St} {H : Hp} {s : Shared} {a : Addr} {xs : List V} (I : Inv X pins σ H s) (h : SqL X.K H a xs ∨ SqT X.K H a xs) : ∃ us, Vals xs us ∧ IsSq s.heap a us ∧ xs.length ≤ sizeLine := by
  rcases h with h | h
  · obtain ⟨us, r, p, z⟩ := I.list h
    exact ⟨us, r, .inl p.isList, z⟩
  · obtain ⟨us, r, p, z⟩ := I.tuple h
    exact ⟨us, r, .inr p, z⟩
theorem cr_srt {X : Cx} (hu : X.A.units + 200 < cLine) : CallR X (.builtin "sorted") (rSrt X.K) := by
  intro pins s σ H vs us Q I r h
  obtain ⟨a, xs, ds, M, rfl, hq, hM, hd, ok, q⟩ := h
  obtain ⟨u, rfl, ru⟩ := vals1 r
  cases ru
  obtain ⟨us, r', z, hz⟩ := sq_is I hq
  obtain ⟨ok1, ok3⟩ := Bool.and_eq_true_iff.mp ok
  obtain ⟨ok1, ok2⟩ := Bool.and_eq_true_iff.mp ok1
  have dl := DpAll.length hd
  refine sorted_of_data (G := fun u d => ∃ v, RelV v u ∧ Dp X.K M v d) z (each_of r' hd) (each_reads I r' (DpAll.mono hM hd)) (alikeB_ok ok1) (srtB_ok ok2) (by omega) (fun d h => ?_) fun out ho e => ?_
  · have := of_decide_eq_true (List.all_eq_true.mp ok3 d h)
    omega
  · obtain ⟨ys, rv, dv⟩ := of_each e
    obtain ⟨n, hn⟩ := sortedAll_at s.heap us out.toArray
    have hl : ys.length ≤ sizeLine := by rw [rv.length]; omega
    have I1 : Inv X pins σ (upd H (s.heap.objs.size + 1) (.lst ys)) { s with heap := sortedAll s.heap us out.toArray } :=
      I.laid (t' := s.toks) (fun _ _ => sortedAll_old) (Nat.le_succ _) ⟨hl, out, n, rv, hn⟩
    exact ⟨.ref _, _, I1, rfl, q ys _ (I.hok.fresh (Nat.le_succ _)) dv⟩
/-! ### sums, all, any -/
def intsD : List D → Option (List Int)
  | [] => some []
  | .int i :: r => (intsD r).map (i :: ·)
  | _ :: _ => none
def blsD : List D → Option (List Bool)
  | [] => some []
  | .bool i :: r => (blsD r).map (i :: ·)
  | _ :: _ => none
theorem intsD_eq : ∀ {ds : List D} {ns : List Int}, intsD ds = some ns → ds = ns.map .int
  | [], _, h => by cases h; rfl
  | .int i :: r, _, h => by
    cases q : intsD r with
    | none => rw [intsD, q] at h; cases h
    | some ms => rw [intsD, q] at h; cases h; rw [intsD_eq q]; rfl
  | .none :: _, _, h => by cases h
  | .bool _ :: _, _, h => by cases h
  | .str _ :: _, _, h => by cases h
  | .list _ :: _, _, h => by cases h
  | .tuple _ :: _, _, h => by cases h
  | .dict _ :: _, _, h => by cases h
theorem blsD_eq : ∀ {ds : List D} {ns : List Bool}, blsD ds = some ns → ds = ns.map .bool
  | [], _, h => by cases h; rfl
  | .bool i :: r, _, h => by
    cases q : blsD r with
    | none => rw [blsD, q] at h; cases h
    | some ms => rw [blsD, q] at h; cases h; rw [blsD_eq q]; rfl
  | .none :: _, _, h => by cases h
  | .int _ :: _, _, h => by cases h
  | .str _ :: _, _, h => by cases h
  | .list _ :: _, _, h => by cases h
  | .tuple _ :: _, _, h => by cases h
  | .dict _ :: _, _, h => by cases h
theorem intsD_map (ns : List Int) : intsD (ns.map .int) = some ns := by
  induction ns with
  | nil => rfl
  | cons n r ih => show (intsD (r.map .int)).map (n :: ·) = _; rw [ih]; rfl
theorem blsD_map (ns : List Bool) : blsD (ns.map .bool) = some ns := by
  induction ns with
  | nil => rfl
  | cons n r ih => show (blsD (r.map .bool)).map (n :: ·) = _; rw [ih]; rfl
theorem dp_ints {K : PySem.W.Frag} {H : Hp} : ∀ {ns : List Int} {xs : List V}, DpAll K H xs (ns.map .int) → xs = ns.map V.int
  | [], _, h => by cases h; rfl
  | n :: r, _, h => by
    cases h with
    | cons a b => cases a; rw [dp_ints b]; rfl
theorem dp_bls {K : PySem.W.Frag} {H : Hp} : ∀ {ns : List Bool} {xs : List V}, DpAll K H xs (ns.map .bool) → xs = ns.map V.bl
  | [], _, h => by cases h; rfl
  | n :: r, _, h => by
    cases h with
    | cons a b => cases a; rw [dp_bls b]; rfl
/-! ### the built-ins -/
inductive Bi where
  | len | tuple | list | sorted | sum | all | any | min2 | max2 | int1
def biD (b : Bi) (ds : List D) : R D := match b, ds with
  | .len, [.list xs] => .ok (.int xs.length)
  | .len, [.tuple xs] => .ok (.int xs.length)
  | .len, [.str x] => gd (decide (x.length ≤ 16777216)) (.ok (.int x.length))
  | .tuple, [.list xs] => .ok (.tuple xs)
  | .tuple, [.tuple xs] => .ok (.tuple xs)
  | .list, [.list xs] => .ok (.list xs)
  | .list, [.tuple xs] => .ok (.list xs)
  | .sorted, [.list xs] => gd (sortOk xs) (.ok (.list (sortD xs)))
  | .sorted, [.tuple xs] => gd (sortOk xs) (.ok (.list (sortD xs)))
  | .sum, [.list xs] => match intsD xs with
    | some ns => .ok (.int ns.sum)
    | none => stk
  | .all, [.list xs] => match blsD xs with
    | some bs => .ok (.bool (bs.all id))
    | none => stk
  | .any, [.list xs] => match blsD xs with
    | some bs => .ok (.bool (bs.any id))
    | none => stk
  | .min2, [.int i, .int j] => .ok (.int (if j < i then j else i))
  | .max2, [.int i, .int j] => .ok (.int (if j > i then j else i))
  | .int1, [.int i] => .ok (.int i)
  | .int1, [.bool k] => .ok (.int (if k then 1 else 0))
  | _, _ => stk
def biName : Bi → Str
  | .len => "len" | .tuple => "tuple" | .list => "list" | .sorted => "sorted" | .sum => "sum" | .all => "all" | .any => "any" | .min2 => "min" | .max2 => "max" | .int1 => "int"
def biVal : Bi → Value
  | .len => .builtin "len" | .tuple => .type "tuple" | .list => .type "list" | .sorted => .builtin "sorted" | .sum => .builtin "sum" | .all => .builtin "all" | .any => .builtin "any" | .min2 => .builtin "min" | .max2 => .builtin "max" | .int1 => .type "int"
def rBi (K : PySem.W.Frag) : Bi → List V → Hp → VK → Prop
  | .len => fun xs H Q => (∃ p ys, xs = [.ref p] ∧ (SqL K H p ys ∨ SqT K H p ys) ∧ Q (.int ys.length) H) ∨ (∃ z, xs = [.str z] ∧ z.length ≤ sizeLine ∧ Q (.int z.length) H)
  | .tuple => fun xs H Q => ∃ p ys, xs = [.ref p] ∧ ((SqL K H p ys ∧ ∀ l w, H l = none → w.dict = none → Q (.ref l) (upd H l (.frz w (.tup ys)))) ∨ (SqT K H p ys ∧ Q (.ref p) H))
  | .list => fun xs H Q => ∃ p ys, xs = [.ref p] ∧ (SqL K H p ys ∨ SqT K H p ys) ∧ ∀ l, H l = none → Q (.ref l) (upd H l (.lst ys))
  | .sorted => rSrt K
  | .sum => rSum K
  | .all => rAll K
  | .any => rAny K
  | .min2 => fun xs H Q => ∃ i j, xs = [.int i, .int j] ∧ Q (.int (if j < i then j else i)) H
  | .max2 => fun xs H Q => ∃ i j, xs = [.int i, .int j] ∧ Q (.int (if j > i then j else i)) H
  | .int1 => fun xs H Q => (∃ i, xs = [.int i] ∧ Q (.int i) H) ∨ ∃ k, xs = [.bl k] ∧ Q (.int (if k then 1 else 0)) H
theorem call_tupleN {X : Cx} : CallR X (.type "tuple") (rBi X.K .tuple) := by
  intro pins s σ H xs us Q I r h
  obtain ⟨p, ys, rfl, ⟨hs, q⟩ | ⟨hs, q⟩⟩ := h
  · rw [Vals.ref1 r]
    obtain ⟨its, rv, pl, hz⟩ := I.list hs
    refine call_tuple_list pl.isList (fun h' hk => ?_) (by rw [List.size_toArray, ← rv.length]; exact hz)
    have I1 : Inv X pins σ H { s with heap := h' } := I.kept (t' := s.toks) hk
    exact ⟨.ref h'.objs.size, _, laidN (tk := s.toks) I1 rv hz, rfl, q _ _ (I1.hok.fresh (Nat.le_refl _)) rfl⟩
  · exact call_tuple_of pins s σ H _ us Q I r ⟨p, ys, rfl, .inr ⟨hs, q⟩⟩
theorem cr_bi {X : Cx} (hc : X.calm = true) (hu : X.A.units + 200 < cLine) (b : Bi) : CallR X (biVal b) (rBi X.K b) := by
  cases b with
  | len => exact call_len_seq.or call_len_str
  | tuple => exact call_tupleN
  | list => exact call_list_of
  | sorted => exact cr_srt hu
  | sum => exact cr_sum hc
  | all => exact cr_all hc
  | any => exact cr_any hc
  | min2 => exact call_min2 hc
  | max2 => exact call_max2 hc
  | int1 => exact call_int1
theorem boot_bi (b : Bi) : bootBuiltins (biName b) = some (biVal b) := by
  cases b <;> decide +kernel
theorem DrAll.one {K : PySem.W.Frag} {O : List Addr} {H : Hp} {vs : List V} {d : D} (h : DrAll K O H vs [d]) : ∃ v, vs = [v] ∧ Dr K O H v d := by
  cases h with
  | cons a b => cases b; exact ⟨_, rfl, a⟩
theorem DrAll.two {K : PySem.W.Frag} {O : List Addr} {H : Hp} {vs : List V} {d e : D} (h : DrAll K O H vs [d, e]) : ∃ v w, vs = [v, w] ∧ Dr K O H v d ∧ Dr K O H w e := by
  cases h with
  | cons a b =>
    obtain ⟨w, rfl, q⟩ := DrAll.one b
    exact ⟨_, w, rfl, a, q⟩
theorem bi_of {K : PySem.W.Frag} {O : List Addr} {H : Hp} {b : Bi} {vs : List V} {ds : List D} {r : D} {Q : VK} (o : OL H O) (hx : DrAll K O H vs ds) (h : biD b ds = .ok r) (q : ∀ v H', Same H H' → New K O H H' v r → Q v H') : rBi K b vs H Q := by
  unfold biD at h
  split at h
  · cases h
    obtain ⟨v, rfl, a⟩ := hx.one
    obtain ⟨p, xs, rfl, sa, da⟩ := a.list
    refine .inl ⟨p, xs, rfl, .inl sa, ?_⟩
    rw [DpAll.length da]
    exact q _ _ (Same.refl _) .int
  · cases h
    obtain ⟨v, rfl, a⟩ := hx.one
    obtain ⟨p, xs, rfl, sa, da, _⟩ := a.tuple
    refine .inl ⟨p, xs, rfl, .inr sa, ?_⟩
    rw [DpAll.length da]
    exact q _ _ (Same.refl _) .int
  · obtain ⟨g, e⟩ := gd_inv h
    cases e
    obtain ⟨v, rfl, a⟩ := hx.one
    cases a.str
    exact .inr ⟨_, rfl, by rw [sizeLine_eq]; exact of_decide_eq_true g, q _ _ (Same.refl _) .int⟩
  · cases h
    obtain ⟨v, rfl, a⟩ := hx.one
    obtain ⟨p, xs, rfl, sa, da⟩ := a.list
    exact ⟨p, xs, rfl, .inl ⟨sa, fun l w nl hw => q _ _ (same_upd nl) (.tup hw nl o da)⟩⟩
  · cases h
    obtain ⟨v, rfl, a⟩ := hx.one
    obtain ⟨p, xs, rfl, sa, da, ia⟩ := a.tuple
    exact ⟨p, xs, rfl, .inr ⟨sa, q _ _ (Same.refl _) (.imm ia (fun _ e => nomatch e))⟩⟩
  · cases h
    obtain ⟨v, rfl, a⟩ := hx.one
    obtain ⟨p, xs, rfl, sa, da⟩ := a.list
    exact ⟨p, xs, rfl, .inl sa, fun l nl => q _ _ (same_upd nl) (.lst nl o da)⟩
  · cases h
    obtain ⟨v, rfl, a⟩ := hx.one
    obtain ⟨p, xs, rfl, sa, da, ia⟩ := a.tuple
    exact ⟨p, xs, rfl, .inr sa, fun l nl => q _ _ (same_upd nl) (.lst nl o da)⟩
  · obtain ⟨g, e⟩ := gd_inv h
    cases e
    obtain ⟨v, rfl, a⟩ := hx.one
    obtain ⟨p, xs, rfl, sa, da⟩ := a.list
    exact ⟨p, xs, _, msk H O, rfl, .inl sa, msk_le H O, da, g, fun ys l nl dy => q _ _ (same_upd nl) (.lst nl o dy)⟩
  · obtain ⟨g, e⟩ := gd_inv h
    cases e
    obtain ⟨v, rfl, a⟩ := hx.one
    obtain ⟨p, xs, rfl, sa, da, _⟩ := a.tuple
    exact ⟨p, xs, _, msk H O, rfl, .inr sa, msk_le H O, da, g, fun ys l nl dy => q _ _ (same_upd nl) (.lst nl o dy)⟩
  · obtain ⟨v, rfl, a⟩ := hx.one
    obtain ⟨p, xs, rfl, sa, da⟩ := a.list
    split at h
    · rename_i ns e
      cases h
      rw [intsD_eq e] at da
      rw [dp_ints da] at sa
      exact ⟨p, ns, rfl, sa, q _ _ (Same.refl _) .int⟩
    · cases h
  · obtain ⟨v, rfl, a⟩ := hx.one
    obtain ⟨p, xs, rfl, sa, da⟩ := a.list
    split at h
    · rename_i ns e
      cases h
      rw [blsD_eq e] at da
      rw [dp_bls da] at sa
      exact ⟨p, ns, rfl, sa, q _ _ (Same.refl _) .bool⟩
    · cases h
  · obtain ⟨v, rfl, a⟩ := hx.one
    obtain ⟨p, xs, rfl, sa, da⟩ := a.list
    split at h
    · rename_i ns e
      cases h
      rw [blsD_eq e] at da
      rw [dp_bls da] at sa
      exact ⟨p, ns, rfl, sa, q _ _ (Same.refl _) .bool⟩
    · cases h
  · cases h
    obtain ⟨v, w, rfl, a, b⟩ := hx.two
    cases a.int; cases b.int
    exact ⟨_, _, rfl, q _ _ (Same.refl _) .int⟩
  · cases h
    obtain ⟨v, w, rfl, a, b⟩ := hx.two
    cases a.int; cases b.int
    exact ⟨_, _, rfl, q _ _ (Same.refl _) .int⟩
  · cases h
    obtain ⟨v, rfl, a⟩ := hx.one
    cases a.int
    exact .inl ⟨_, rfl, q _ _ (Same.refl _) .int⟩
  · cases h
    obtain ⟨v, rfl, a⟩ := hx.one
    cases a.bool
    exact .inr ⟨_, rfl, q _ _ (Same.refl _) .int⟩
  · cases h
end Mt

set_option Elab.async false
set_option linter.all false
set_option maxRecDepth 100000
set_option maxHeartbeats 4000000
/-! Slices backwards. -/
namespace Mt
open PySem PySem.Spec PyProof.Rows L2
section
variable {prog : Program} {w : World} {A : Around} {E : Value → Shared → Prop} {s : Shared}
theorem pick_back (xs : Array Value) : ((List.range xs.size).filterMap fun (m : Nat) => xs[(((xs.size : Int) - 1) + (m : Int) * (-1)).toNat]?).toArray = xs.toList.reverse.toArray := by
  have e : (List.range xs.size).filterMap (fun (m : Nat) => xs[(((xs.size : Int) - 1) + (m : Int) * (-1)).toNat]?) = ((List.range xs.size).map fun k => xs.size - 1 - k).filterMap (xs[·]?) := by
    rw [List.filterMap_map]
    congr 1
    funext m
    have z : (((xs.size : Int) - 1) + (m : Int) * (-1)).toNat = xs.size - 1 - m := by omega
    simp only [Function.comp, z]
  rw [e, PySem.W.krv_range, List.filterMap_reverse, PySem.W.krv_all]
theorem places_back (n : Nat) : Builtin.Slice.slicePlaces ((n : Int) - 1) (-1) (-1) = n := by
  unfold Builtin.Slice.slicePlaces
  rw [if_neg (by omega)]
  by_cases h : n = 0
  · subst h; rfl
  · rw [if_pos (by omega)]
    have e1 : (- -1 : Int) = 1 := rfl
    rw [e1, Int.ediv_one]
    omega
theorem getItem_tuple_back {t sl : Addr} {items : Array Value} {vs : Value} {Q : Value → Shared → Prop} (ht : IsTup s.heap t items) (hs : s.heap.IsSliceOf sl .none .none vs) (ps : IsPart vs (some (-1)))
    (h : Q (.ref s.heap.objs.size) { s with heap := s.heap.push { cls := .type "tuple", data := .seq items.toList.reverse.toArray } }) (hz : items.size ≤ sizeLine) : wpAny (model prog w) A (getItem (.ref t) (.ref sl)) Q E s := by
  have fits : sizeOk (.seq items.toList.reverse.toArray) := by
    show items.toList.reverse.toArray.size ≤ sizeLine
    rw [List.size_toArray, List.length_reverse, Array.length_toList]
    exact hz
  obtain ⟨os, hos, hcs, hds⟩ := id hs
  have hTs : s.TypeIs (.ref sl) "slice" := ⟨os, hos, hcs⟩
  unfold getItem
  try with_reducible refine wpAny_holding ?_
  first | refine wpAny_bind (wpAny_pure ?_) | skip
  refine wpAny_bind (wpAny_sequenceKey ht.typeIs (by decide) ?_)
  refine wpAny_bind (wpAny_callSpecial?_slot (name := Str.ofString "__getitem__") ht.typeIs PyProof.Rows.slot_tuple_getitem
    (wpAny_call_entry PyProof.Rows.slot_tuple_getitem ht.typeIs entry_tuple_getitem ?_ (args_tuple_getitem _ _)))
  show wpAny _ _ (Builtin.Tuple.tupleItemsOf (.ref t) >>= _) _ _ s
  refine wpAny_bind (tupleItemsOf_ ht ?_)
  refine wpAny_bind (wpAny_typeOf hTs ?_)
  rw [if_pos (by decide)]
  have app : ∀ {Q2 : Int × Int × Nat → Shared → Prop}, Q2 ((items.size : Int) - 1, -1, items.size) s → wpAny (model prog w) A.in1 (Builtin.Slice.sliceApplied (.ref sl) (pure (items.size : Int))) Q2 E s := fun {Q2} q => by
    unfold Builtin.Slice.sliceApplied Builtin.Slice.sliceFields
    refine wpAny_bind (wpAny_bind (wpAny_field hos hds (x := .none) rfl (wpAny_bind (wpAny_field hos hds (x := .none) rfl (wpAny_bind (wpAny_field hos hds (x := vs) rfl (wpAny_pure ?_)))))))
    refine wpAny_bind (HT.slicePart_ ps ?_)
    show wpAny _ _ (if ((-1 : Int) == 0) = true then _ else _) _ _ s
    rw [if_neg (by decide)]
    refine wpAny_bind (slicePart_none (wpAny_bind (slicePart_none (wpAny_bind (wpAny_pure ?_)))))
    show wpAny _ _ (pure ((items.size : Int) - 1, (-1 : Int), Builtin.Slice.slicePlaces ((items.size : Int) - 1) (-1) (-1))) _ _ s
    rw [places_back]
    exact wpAny_pure q
  refine wpAny_bind (app ?_)
  show wpAny _ _ (if (((items.size : Int) - 1) == 0 && (-1 : Int) == 1 && items.size == items.size) = true then _ else _) _ _ s
  rw [if_neg (by simp), pick_back]
  first
    | exact wpAny_bind (m := Builtin.Tuple.tupleExact _) (wpAny_newObj_type (wpAny_pure ⟨_, rfl, wpAny_pure h⟩) fits)
    | exact wpAny_bind (m := Builtin.Tuple.tupleExact _) (wpAny_newObj_type (wpAny_bind (wpAny_pure (wpAny_pure ⟨_, rfl, wpAny_pure h⟩))) fits)
    | exact wpAny_bind (wpAny_bind (m := Builtin.Tuple.tupleExact _) (wpAny_newObj_type (wpAny_pure (wpAny_pure ⟨_, rfl, wpAny_pure h⟩)) fits))
    | exact wpAny_bind (wpAny_bind (m := Builtin.Tuple.tupleExact _) (wpAny_newObj_type (wpAny_pure ⟨_, rfl, wpAny_pure h⟩) fits))
end
section
variable {X : Cx}
/-- xs[::-1] of a list or a tuple -/
def tRevD (K : PySem.W.Frag) (te : TE) : TE := fun σ H Q => te σ H fun x H1 => ∃ a xs, x = .ref a ∧ ((SqL K H1 a xs ∧ ∀ p, H1 p = none → Q (.ref p) (upd H1 p (.lst xs.reverse))) ∨ (SqT K H1 a xs ∧ ∀ p w, H1 p = none → w.dict = none → Q (.ref p) (upd H1 p (.frz w (.tup xs.reverse)))))
theorem pe_revD {e : Expr} {te : TE} {k : Nat} {p1 p2 p3 pos : Pos} (he : PE X e te) : PE X (.Subscript e (.Slice none none (some (.UnaryOp .USub (.Constant (.int 1) k p1) p2)) p3) pos) (tRevD X.K te) := by
  refine ⟨fun pins s σ H Q I h => ?_⟩
  refine Subscript_ (thn (he.run pins s σ H _ I h) fun v s1 ⟨x, H1, I1, r1, q1⟩ => ?_)
  obtain ⟨a, xs, rfl, q⟩ := q1
  cases r1
  have hst : PO X (some (.UnaryOp .USub (.Constant (.int 1) k p1) p2)) (tPart (tUn (rU fun i => .int (-i)) (tC (.int 1)))) := po_some (pe_un un_neg pe_int)
  refine wpAny_Slice (thn (po_none.run pins s1 σ H1 (fun o A => o = none ∧ A = H1) I1 ⟨rfl, rfl⟩) fun vl s2 ⟨l, H2, I2, pl, el, e2⟩ => ?_)
  subst el e2
  refine thn (po_none.run pins s2 σ H2 (fun o A => o = none ∧ A = H2) I2 ⟨rfl, rfl⟩) fun vu s3 ⟨u, H3, I3, pu, eu, e3⟩ => ?_
  subst eu e3
  refine thn (hst.run pins s3 σ H3 (fun o A => o = some (-1) ∧ A = H3) I3 ⟨1, rfl, -1, rfl, rfl, rfl⟩) fun vs s4 ⟨o, H4, I4, ps, eo, e4⟩ => ?_
  subst eo e4
  have I5 : Inv X pins σ H4 { s4 with heap := s4.heap.push { cls := .type "slice", data := .fields #[vl, vu, vs] } } := I4.kept (t' := s4.toks) fun b ob q => Heap.get?_push_of_some _ q
  show wpAny (model X.prog X.w) X.A (subscriptTail e (.Slice none none (some (.UnaryOp .USub (.Constant (.int 1) k p1) p2)) p3) (.ref a) (.ref s4.heap.objs.size)) (EP X pins σ Q) X.xe { s4 with heap := s4.heap.push { cls := .type "slice", data := .fields #[vl, vu, vs] } }
  rcases q with ⟨hx, q⟩ | ⟨hx, q⟩
  · obtain ⟨its, r, ht, hz⟩ := I5.list hx
    have hlen := r.length
    refine tail_any (ops := [.ref a, .ref s4.heap.objs.size]) ht.isList.typeIs (PySem.slot_list_getitem.lookup) ?_ (by with_unfolding_all rfl)
    refine wpAny_getItem_list_slice ht.isList (Heap.IsSliceOf.new _ vl vu vs) pl pu ps (by decide) ?_ (by rw [List.size_toArray]; omega)
    rw [PySem.W.krv_pick]
    refine ⟨.ref _, _, I5.laid (t' := s4.toks) (o := .lst xs.reverse) (fun b ob q => Heap.get?_push_of_some _ q) (Nat.le_refl _) ?_, rfl, q _ (I5.hok.fresh (Nat.le_refl _))⟩
    exact ⟨by rw [List.length_reverse]; exact hz, _, 0, r.reverse, Heap.get?_push_size _ rfl⟩
  · obtain ⟨its, r, ht, hz⟩ := I5.tuple hx
    have hlen := r.length
    cases pl
    cases pu
    refine tail_any (ops := [.ref a, .ref s4.heap.objs.size]) ht.typeIs (PyProof.Rows.slot_tuple_getitem.lookup) ?_ (by with_unfolding_all rfl)
    refine getItem_tuple_back ht (Heap.IsSliceOf.new _ .none .none vs) ps ?_ (by rw [List.size_toArray]; omega)
    exact ⟨.ref _, _, laidN (tk := s4.toks) I5 r.reverse (by rw [List.length_reverse]; exact hz), rfl, q _ _ (I5.hok.fresh (Nat.le_refl _)) rfl⟩
/-- (a, b, ..) -/
def tTupN (t : TA) : TE := fun σ H Q => t σ H fun xs H1 => xs.length ≤ sizeLine ∧ ∀ p w, H1 p = none → w.dict = none → Q (.ref p) (upd H1 p (.frz w (.tup xs)))
theorem pe_tupN {es : List Expr} {t : TA} {x1 : Nat} {pos : Pos} (h : PA X es t) : PE X (.Tuple es x1 pos) (tTupN t) := by
  refine ⟨fun pins s σ H Q I hq => ?_⟩
  refine wpAny_Tuple_spliced (thn (h.run pos pins s σ H _ I hq) fun us s1 ⟨xs, H1, I1, r, z, q⟩ => ⟨by rw [← r.length]; exact z, ?_⟩)
  exact ⟨.ref s1.heap.objs.size, _, laidN (tk := s1.toks) I1 r z, rfl, q _ _ (I1.hok.fresh (Nat.le_refl _)) rfl⟩
end
end Mt

set_option Elab.async false
set_option linter.all false
set_option maxRecDepth 100000
set_option maxHeartbeats 4000000
/-! enumerate of a tuple. -/
namespace Mt
open PySem PySem.Spec PyProof.Rows L2
theorem enum_new {v : Value} {o : Obj} {H : Heap → Prop} (B : PySem.Begins v o H) : Meets (Builtin.«enumerate.__new__» ⟨[.type "enumerate", v], []⟩) (fun _ R s => H s.heap ∧ R (.ok (.ret (.ref (s.heap.push o).objs.size))) { s with heap := (s.heap.push o).push { cls := .type "enumerate", data := .fields #[.none, .bool false, .ref s.heap.objs.size, rawInt 0, .none, .none] } }) :=
  .of_wp fun prog w A R s h => by
    obtain ⟨hp, g, d, tk, os⟩ := s
    obtain ⟨h1, h⟩ := h
    have hsub := sub_enumerate
    have q1 : ∀ {A' : Around} {E : Value → Shared → Prop} {Q : Value → Shared → Prop}, Q (.ref hp.objs.size) ⟨hp.push o, g, d, tk, os⟩ → wpAny (model prog w) A' (pyIter v) Q E ⟨hp, g, d, tk, os⟩ := fun q => B.iter prog w _ _ ⟨hp, g, d, tk, os⟩ _ h1 q
    wp_walk
    refine wpAny_stack_any fun st => wpAny_pure ?_
    split
    · rename_i c _ _ _ _ _
      cases (c == Value.type "enumerate") <;> (wp_walk using q1; exact ⟨_, rfl, h⟩)
    · wp_walk using q1
      exact ⟨_, rfl, h⟩
section
variable {prog : Program} {w : World} {A : Around} {E : Value → Shared → Prop} {s : Shared}
theorem call_enum_tuple {t : Addr} {items : Array Value} {Q : Value → Shared → Prop} (ht : s.heap.IsTuple t items)
    (h : ∀ h', IsEnum h' (s.heap.objs.size + 1) s.heap.objs.size 0 .none → h'.IsTupleIter s.heap.objs.size t 0 → (∀ b o, s.heap.get? b = some o → h'.get? b = some o) → Q (.ref (s.heap.objs.size + 1)) { s with heap := h' }) :
    wpAny (model prog w) A (call (.type "enumerate") [.ref t]) Q E s := by
  refine callType_new PySem.F.called_enumerate (by decide) (PySem.F.typeCall_enumerate_1 _) (PySem.F.newCall_enumerate_1 _) (fun obj => PySem.F.args_object_init_2 obj _) PySem.F.entry_enumerate_new (enum_new (PySem.begins_tuple t items)) ⟨ht, ?_⟩
  generalize ho : ({ cls := .type "tuple_iterator", data := .fields #[.ref t, .int 0 0] } : Obj) = o
  have hfree : o.isFreed = false := by rw [← ho]; rfl
  have hz : (s.heap.push o).objs.size = s.heap.objs.size + 1 := Heap.size_push ..
  show _ ∧ _
  rw [hz]
  have he : IsEnum ((s.heap.push o).push { cls := .type "enumerate", data := .fields #[.none, .bool false, .ref s.heap.objs.size, rawInt 0, .none, .none] }) (s.heap.objs.size + 1) s.heap.objs.size 0 .none := by
    have q := Heap.get?_push_size (s.heap.push o) (o := { cls := .type "enumerate", data := .fields #[.none, .bool false, .ref s.heap.objs.size, rawInt 0, .none, .none] }) rfl
    rw [hz] at q
    exact q
  refine ⟨⟨_, he, rfl⟩, h _ he ⟨o, Heap.get?_push_of_some _ (Heap.get?_push_size _ hfree), by rw [← ho], by rw [← ho]; rfl⟩ fun b u x => Heap.get?_push_of_some _ (Heap.get?_push_of_some _ x)⟩
end
/-- an iterator at its end -/
theorem draws_end {prog : Program} {w : World} {A : Around} (hh : A.handled = none) (it t : Addr) (items : Array Value) (i : Nat) (hi : items[i]? = none) : Draws prog w A it [it, t] i (fun _ _ => False) (fun j h => j = i ∧ h.IsTupleIter it t i ∧ h.IsTuple t items) where
  live := fun _ _ st => let ⟨o, ho, _⟩ := st.2.1; ⟨o, ho⟩
  frame := fun _ _ _ st hk => ⟨st.1, st.2.1.at fun o e => hk it (by simp) o e, st.2.2.at fun o e => hk t (by simp) o e⟩
  item := fun j s Q E hj st _ => absurd st.1 (Nat.ne_of_lt hj)
  done := fun s Q E st hE => wpAny_nextOf_tuple_end hh st.2.1 st.2.2 hi hE
/-- the tuple at a, each item in a new pair -/
def IteT (K : PySem.W.Frag) (a : Addr) : It :=
  ⟨fun i H => ∃ (xs : List V) (x : V), SqT K H a xs ∧ xs[i]? = some x, fun i H v H' => ∃ T x, v = .ref T ∧ H T = none ∧ H' = upd H T (.tup [.int (i : Nat), x]) ∧ ∀ xs, SqT K H a xs → xs[i]? = some x, fun i H => ∃ xs : List V, SqT K H a xs ∧ xs.length ≤ i⟩
theorem turn_enumT {P : Program} {w : World} {K : PySem.W.Frag} {elts : List Expr} {kk : Nat} {tpos : Pos} (a e it : Addr) (hea : e ≠ a) (hia : a ≠ it) :
    Turn P w K (.Tuple elts kk tpos) (IteT K a) [e, it] e (fun i h => (∃ old, IsEnum h e it ((i : Nat) : Int) old) ∧ h.IsTupleIter it a i ∧ e ≠ it) where
  mem := List.mem_cons_self ..
  obj := fun i h st b hb => by
    obtain ⟨⟨old, he⟩, ⟨o, ho, hc, hd⟩, _⟩ := st
    rcases List.mem_cons.mp hb with z | z
    · rw [z]; exact ⟨_, he, fun v q => nomatch q⟩
    · rw [List.mem_singleton.mp z]; exact ⟨o, ho, fun v q => by rw [hd] at q; cases q⟩
  keep := fun i h h' st k => let ⟨⟨old, he⟩, hi, hne⟩ := st; ⟨⟨old, k e (by simp) _ he⟩, hi.at fun o q => k it (by simp) o q, hne⟩
  item := by
    intro X hP hw hK hc i pins s σ H E I hf st hg
    subst hP hw hK
    obtain ⟨⟨old, he⟩, hit, hne⟩ := st
    obtain ⟨xs, x, hq, hx⟩ := hg
    obtain ⟨its, rv, p, hz⟩ := I.tuple hq
    obtain ⟨u, hu, ru⟩ := rv.get hx
    have hel : e < s.heap.objs.size := Heap.lt_size he
    have hil : it < s.heap.objs.size := by obtain ⟨_, q, _⟩ := hit; exact Heap.lt_size q
    have hlt : i < its.toArray.size := by
      obtain ⟨z, _⟩ := List.getElem?_eq_some_iff.mp hu
      simpa using z
    refine wpAny_pyNext_enum_itemD (Draws.tuple (A := X.A.in1) (I.ok.hd hc) it a hia its.toArray) he ⟨hit, p⟩ hlt hne (by simp [hne, hea]) fun y h' tk hy ho st' hT hsz hk => ?_
    have ey : y = u := by
      have : its.toArray[i]? = some u := by simpa using hu
      rw [this] at hy
      exact (Option.some.inj hy).symm
    subst ey
    refine ⟨_, rfl, wpAny_letOwnedTupleGo_enum (s := { s with heap := h', toks := tk + 1 }) ho fun h'' he' sb => ?_⟩
    have hT2 : h''.get? s.heap.objs.size = some { cls := .type "tuple", data := .seq #[.int i tk, y] } := (sb.2 _ (Nat.ne_of_gt hel)).trans hT
    have new : ObjOk X.prog X.w (upd H s.heap.objs.size (.tup [.int (i : Nat), x])) h'' s.heap.objs.size (.tup [.int (i : Nat), x]) :=
      ⟨by show 2 ≤ sizeLine; decide, [.int i tk, y], .cons ⟨_, rfl⟩ (.cons ru .nil), ⟨_, hT2, rfl, _, rfl⟩⟩
    have I1 : Inv X pins σ (upd H s.heap.objs.size (.tup [.int (i : Nat), x])) { s with heap := h'', toks := tk + 1 } :=
      I.turnedNew (ch := [e, it]) (fun b ob hb q => (sb.2 b (fun z => hb (by simp [z]))).trans (hk b ob (fun z => hb (by simp [z])) (fun z => hb (by simp [z])) q)) hf (Nat.le_refl _) new
    refine ⟨.ref s.heap.objs.size, _, I1, rfl, ⟨_, x, rfl, I.hok.fresh (Nat.le_refl _), rfl, fun ys hy => ?_⟩, ⟨⟨y, ?_⟩, st'.1.at fun o q => (sb.2 it (Ne.symm hne)).trans q, hne⟩, fun b hb => ?_⟩
    · rw [I.tuple_inj hy hq]; exact hx
    · have e1 : ((i + 1 : Nat) : Int) = (i : Int) + 1 := by omega
      rw [e1]; exact he'
    · have hb' : b < s.heap.objs.size := by
        rcases List.mem_cons.mp hb with z | z
        · rw [z]; exact hel
        · rw [List.mem_singleton.mp z]; exact hil
      rw [upd_ne (Nat.ne_of_lt hb')]
      exact (hf b hb).1
  done := by
    intro X hP hw hK hc i pins s σ H E I hf st hg
    subst hP hw hK
    obtain ⟨⟨old, he⟩, hit, hne⟩ := st
    obtain ⟨xs, hq, hx⟩ := hg
    obtain ⟨its, rv, p, hz⟩ := I.tuple hq
    obtain ⟨f0, f1, f2, f3, f4, f5⟩ := hf it (by simp)
    have hl := rv.length
    refine wpAny_pyNext_enum_endD (draws_end (A := X.A.in1) (I.ok.hd hc) it a its.toArray i (by rw [Array.getElem?_eq_none]; simp; omega)) he ⟨rfl, hit, p⟩ fun h' eb => ⟨rfl, I.turned (t' := s.toks) (fun b o hb q => eb b o hb q) f0 f1 f3 f4 f5⟩
  self := fun A i s Q E st h => let ⟨⟨_, he⟩, _⟩ := st; wpAny_pyIter_enum he h
def iEnumA (K : PySem.W.Frag) (ta : TA) : TI := fun σ H R => ta σ H fun vs H1 => ∃ a xs, vs = [.ref a] ∧ ((SqL K H1 a xs ∧ R (Ite K a) H1) ∨ (SqT K H1 a xs ∧ R (IteT K a) H1))
theorem pi_enumA {X : Cx} {e : Expr} {ta : TA} {p pos tpos : Pos} {elts : List Expr} {kk : Nat} (hg : Gl X "enumerate") (hm : X.mg "enumerate" = none) (ha : PA X [e] ta) (hs : starEach [e] X.env = [(false, eval e X.env)]) : PI X (.Tuple elts kk tpos) (.Call (.Name "enumerate" p) [e] [] pos) (iEnumA X.K ta) := by
  refine ⟨fun pins s σ H R I h => ?_⟩
  refine Call_ (ld_blt I hg hm boot_enumerate (PyProof.Rows.callWith_type1 (thn (ha.run pos pins s σ H _ I h) fun us s1 ⟨vs, H1, I1, r1, q1⟩ => ?_) hs rfl))
  obtain ⟨a, xs, ex, q⟩ := q1
  subst ex
  obtain ⟨u, rfl, ru⟩ := r1.one
  obtain rfl : u = Value.ref a := ru
  have fp : ∀ b ∈ [s1.heap.objs.size + 1, s1.heap.objs.size], s1.heap.objs.size ≤ b := fun b hb => by
    rcases List.mem_cons.mp hb with z | z
    · rw [z]; exact Nat.le_add_right _ _
    · rw [List.mem_singleton.mp z]; exact Nat.le_refl _
  rcases q with ⟨hq, q⟩ | ⟨hq, q⟩
  · obtain ⟨its, rv, p', hz⟩ := I1.list hq
    refine call_enumerate_list p'.isList fun h' he hit hsz hk => wpAny_pyIter_enum he ?_
    have I2 : Inv X pins σ H1 { s1 with heap := h' } := I1.kept (t' := s1.toks) hk
    exact ⟨s1.heap.objs.size + 1, _, _, _, H1, rfl, I2, turn_enum a (s1.heap.objs.size + 1) s1.heap.objs.size, ⟨⟨.none, he⟩, hit, Nat.succ_ne_self _⟩, fun b hb => I1.fpOk (fp b hb) (I1.hok.fresh (fp b hb)), q⟩
  · obtain ⟨its, rv, p', hz⟩ := I1.tuple hq
    have hlt : a < s1.heap.objs.size := by obtain ⟨o, ho, _⟩ := p'; exact Heap.lt_size ho
    refine call_enum_tuple p' fun h' he hit hk => wpAny_pyIter_enum he ?_
    have I2 : Inv X pins σ H1 { s1 with heap := h' } := I1.kept (t' := s1.toks) hk
    exact ⟨s1.heap.objs.size + 1, _, _, _, H1, rfl, I2, turn_enumT a (s1.heap.objs.size + 1) s1.heap.objs.size (Nat.ne_of_gt (Nat.lt_succ_of_lt hlt)) (Nat.ne_of_lt hlt), ⟨⟨.none, he⟩, hit, Nat.succ_ne_self _⟩, fun b hb => I1.fpOk (fp b hb) (I1.hok.fresh (fp b hb)), q⟩
/-! ### set(t), t a tuple of tuples of ints -/
/-- a set that holds nothing -/
abbrev noSet (w : World) : Obj := { cls := .type "set", dict := none, data := .set #[] 0 (.fresh 0 0 (!w.params.followText "set-order")) }
section
variable {P : Program} {w : World} {A : Around} {E : Value → Shared → Prop} {s : Shared}
/-- what the set is made of has been walked -/
def SetDone (P : Program) (w : World) (h0 h' : Heap) (S : Addr) (ks : List (Addr × List Int)) : Prop := ∃ L es ep t, SetTR P w h' S L es ep t ∧ Got ks ks.length L ∧ ∀ b o, h0.get? b = some o → h'.get? b = some o
theorem loop_setT {l : Addr} {items : Array Value} (ks : List (Addr × List Int)) {R : Result → Shared → Prop} (hh : A.handled = none) (hl : s.heap.IsTuple l items) (hit : items.toList = ks.map fun p => Value.ref p.1) (hk : ∀ p ∈ ks, IsT P w s.heap p.2 p.1) (hfew : ks.length < 64) (hu : A.in1.units < cLine)
    (h : ∀ (h' : Heap) (tk : Nat), SetDone P w s.heap h' s.heap.objs.size ks → R (.ok (.ret .none)) { s with heap := h', toks := tk }) :
    codeAny (model P w) A (.builtin "set.update.loop" ⟨[.ref s.heap.objs.size, .ref (s.heap.push (noSet w)).objs.size], []⟩) R { s with heap := (s.heap.push (noSet w)).push { cls := .type "tuple_iterator", data := .fields #[.ref l, .int 0 0] } } := by
  have hn : items.size = ks.length := by rw [← Array.length_toList, hit, List.length_map]
  have hz : (s.heap.push (noSet w)).objs.size = s.heap.objs.size + 1 := Heap.size_push ..
  have hlS : l < s.heap.objs.size := by obtain ⟨o, ho, _⟩ := hl; exact Heap.lt_size ho
  have out : ∀ b, s.heap.objs.size ≤ b → s.heap.get? b = none := fun b hb => by
    cases q : s.heap.get? b with
    | none => rfl
    | some o => exact absurd (Heap.lt_size q) (Nat.not_lt.mpr hb)
  have hSf : s.heap.objs.size ∉ [(s.heap.push (noSet w)).objs.size, l] := by
    rw [hz]
    simp only [List.mem_cons, List.not_mem_nil, or_false, not_or]
    exact ⟨Nat.ne_of_lt (Nat.lt_succ_self _), Nat.ne_of_gt hlS⟩
  have hS : ((s.heap.push (noSet w)).push { cls := .type "tuple_iterator", data := .fields #[.ref l, .int 0 0] }).get? s.heap.objs.size = some (noSet w) := Heap.get?_push_of_some _ (Heap.get?_push_size _ rfl)
  refine set_update_tups ((Walks.tuple (A := A.in1) (by simp [hh]) _ l (by rw [hz]; exact Nat.ne_of_lt (Nat.lt_succ_of_lt hlS)) items).toS) s.heap.objs.size hSf ks hn hfew (fun i v hv => ?_) s.heap hk (out _ (Nat.le_refl _)) (fun b hb => out b ?_) hu items.size 0 _ (Nat.sub_zero _) (Nat.zero_le _) ⟨⟨_, Heap.get?_push_size _ rfl, rfl, rfl⟩, (hl.push _).push _⟩ (fun b o e => Heap.get?_push_of_some _ (Heap.get?_push_of_some _ e)) ⟨[], #[], 0, _, setTR_fresh hS, Got.zero ks⟩ ?_
  · have q : items.toList[i]? = some v := by rw [Array.getElem?_toList]; exact hv
    rw [hit, List.getElem?_map] at q
    cases hq : ks[i]? with
    | none => rw [hq] at q; cases q
    | some p => rw [hq] at q; exact ⟨p, rfl, (Option.some.inj q).symm⟩
  · rw [List.mem_singleton.mp hb, hz]; exact Nat.le_succ _
  · intro s' L es ep t hm R' g' hkp
    obtain ⟨h', g2, d', tk', os'⟩ := s'
    obtain rfl : g2 = s.gens := hm.gens
    obtain rfl : d' = s.drawn := hm.drawn
    obtain rfl : os' = s.os := hm.os
    rw [hn] at g'
    exact h h' tk' ⟨L, es, ep, t, R', g', hkp⟩
set_option maxHeartbeats 3200000 in
theorem call_set_T {l : Addr} {items : Array Value} (ks : List (Addr × List Int)) {Q : Value → Shared → Prop} (hh : A.handled = none) (hl : s.heap.IsTuple l items) (hit : items.toList = ks.map fun p => Value.ref p.1) (hk : ∀ p ∈ ks, IsT P w s.heap p.2 p.1) (hfew : ks.length < 64) (hu : A.units + 3 < cLine)
    (h : ∀ (h' : Heap) (tk : Nat), SetDone P w s.heap h' s.heap.objs.size ks → Q (.ref s.heap.objs.size) { s with heap := h', toks := tk }) : wpAny (model P w) A (call (.type "set") [.ref l]) Q E s := by
  obtain ⟨c, tl, hmro⟩ := F.called_set.mro
  have f1 := F.called_set.made
  have f2 := F.called_set.sub
  refine wpAny_call (codeAny_of_tree (wpAny_pure ⟨Code.quiet_builtin _ (by decide +kernel), codeAny_builtin F.entry_type_call ?_⟩))
  rw [Around.under_plain (weight_type_call_type "set" [.ref l] []) rfl]
  have f3 := F.called_set.notType
  have f4 := F.called_set.canCreate
  have f5 := F.typeCall_set_1 (.ref l)
  repeat (any_goals (first | assumption | wp_step))
  refine codeAny_mono (code_set_led1 (.ref l) (E := E) (Q₁ := fun obj s₁ => obj = .ref s.heap.objs.size ∧ s₁ = { s with heap := s.heap.push (noSet w) }) ⟨rfl, rfl⟩) fun r s₁ hr => ?_
  cases r with
  | error e => exact hr
  | ok fl =>
    cases fl with
    | ret obj =>
      obtain ⟨rfl, rfl⟩ := hr
      have hT : Shared.TypeIs { s with heap := s.heap.push (noSet w) } (.ref s.heap.objs.size) "set" := ⟨_, Heap.get?_push_size _ rfl, rfl⟩
      have f6 := F.called_set.init.lookup
      have f7 := F.called_set.init.bind (.ref s.heap.objs.size)
      repeat (any_goals (first | assumption | wp_step))
      refine codeAny_mono (codeAny_call_builtin (R := wants (fun r s₂ => r = .none ∧ ∃ h' tk, s₂ = { s with heap := h', toks := tk } ∧ SetDone P w s.heap h' s.heap.objs.size ks) E) F.called_set.init.plain F.entry_set_init (check_set_init_1 hT ?_)) fun r₂ s₂ hr₂ => ?_
      · have hl1 : (s.heap.push (noSet w)).IsTuple l items := hl.push _
        obtain ⟨ol, hol, hcl, nl, hdl⟩ := hl
        obtain ⟨ocls, odict, odata, oslots⟩ := ol
        simp only at hcl hdl
        subst hcl; subst hdl
        have g0 := hol
        have g1 : (s.heap.push (noSet w)).get? l = some { cls := .type "tuple", dict := odict, data := .seq items nl, slots := oslots } := Heap.get?_push_of_some _ hol
        have g2 := F.sub_tuple_set
        have g3 := F.sub_tuple_frozenset
        have g4 : (Value.type "tuple" == Value.type "dict") = false := by decide
        unfold Builtin.«set.__init__» noKeywords Builtin.Frozenset.updateFrom
        generalize hPI : pyIter = PI
        wp_walk
        subst hPI
        refine wpAny_pyIter_tuple hl1 (wpAny_bind (wpAny_runValue ?_))
        refine loop_setT ks (by simp [hh]) ⟨_, g0, rfl, nl, rfl⟩ hit hk hfew hu fun h' tk z => ?_
        exact wpAny_pure (wpAny_pure ⟨rfl, h', tk, rfl, z⟩)
      · cases r₂ with
        | error e => exact hr₂
        | ok fl₂ =>
          cases fl₂ with
          | ret r =>
            obtain ⟨rfl, h', tk, rfl, z⟩ := hr₂
            repeat (any_goals (first | assumption | wp_step))
            exact h _ _ z
          | _ => exact hr₂.elim
    | _ => exact hr.elim
end
/-- set(xs), xs a list or a tuple of tuples of ints -/
def rSetQ (K : PySem.W.Frag) (P : Program) (w : World) : List V → Hp → VK → Prop := fun xs H Q => ∃ (l : Addr) (ks : List (Addr × List Int)), xs = [V.ref l] ∧ (SqL K H l (ks.map fun p => V.ref p.1) ∨ SqT K H l (ks.map fun p => V.ref p.1)) ∧ (∀ p ∈ ks, SqT K H p.1 (p.2.map V.int)) ∧ ks.length < 64 ∧
  ∀ a L, H a = none → (∀ p ∈ L, p ∈ ks) → (∀ p ∈ ks, p.2 ∈ L.map (·.2)) → Q (.ref a) (upd H a (SetTO P w a L))
theorem cr_setQ {X : Cx} (hc : X.calm = true) (hu : X.A.units + 64 < cLine) : CallR X (.type "set") (rSetQ X.K X.prog X.w) := by
  intro pins s σ H xs us Q I r h
  obtain ⟨l, ks, rfl, hl | hl, hk, hf, q⟩ := h
  · exact cr_setOfT hc hu pins s σ H _ us Q I r ⟨l, ks, rfl, hl, hk, hf, q⟩
  · rw [Vals.ref1 r]
    obtain ⟨its, rv, pl, hz⟩ := I.tuple hl
    have hn : H s.heap.objs.size = none := I.hok.fresh (Nat.le_refl _)
    refine call_set_T (P := X.prog) (w := X.w) ks (I.ok.hd hc) pl (by simpa using refs_of_vals rv) (fun p hp => I.isT (hk p hp)) hf (by omega) fun h' tk ⟨L, es, ep, t, R, g, k⟩ => ?_
    refine ⟨.ref s.heap.objs.size, upd H s.heap.objs.size (SetTO X.prog X.w s.heap.objs.size L), I.laid (t' := tk) k (Nat.le_refl _) (setTO_new R.t0), rfl, q _ L hn (fun p hp => ?_) fun p hp => ?_⟩
    · exact List.mem_of_mem_take (g.sub p hp)
    · exact g.all p (by rw [List.take_length]; exact hp)
/-! ### t.index(x) of data -/
def rIndexT (K : PySem.W.Frag) : V → List V → Hp → VK → Prop := fun x xs H Q => ∃ (a : Addr) (y : V) (d : PyData) (ds : List PyData) (j : Nat) (z : PyData), x = V.ref a ∧ xs = [y] ∧ Dp K H (V.ref a) (.tuple ds) ∧ Dp K H y d ∧
  SeqAt.shaped (.list ds) = true ∧ SeqAt.shaped d = true ∧ ds[j]? = some z ∧ PyData.eqv z d = true ∧ (∀ (m : Nat) (z' : PyData), m < j → ds[m]? = some z' → PyData.eqv z' d = false) ∧ Q (.int (j : Nat)) H
theorem mt_indexT {X : Cx} (hu : X.A.units + 65 < cLine) : MtR X "tuple.index" (rIndexT X.K) := by
  intro pins s σ H x xs v us Q I rx rxs h
  obtain ⟨a, y, d, ds, j, z, rfl, rfl, hl, hy, sl, sd, hz, hzj, hno, q⟩ := h
  cases rx
  obtain ⟨uy, rfl, ry⟩ := rxs.one
  obtain ⟨bs, r1⟩ := Dp.reads I d y uy hy ry
  have hxs : PyData.canLayAll0 ds = true := SeqAt.canLay_of_shaped sl
  cases hl with
  | tup hs ha =>
    obtain ⟨its, rv, pl, hlen⟩ := I.tuple (hs.sq (K := X.K))
    obtain ⟨⟨cls, dd, data, sls⟩, ho, hc, n, hdt⟩ := pl
    simp only at hc hdt
    subst hc hdt
    obtain ⟨as, h4⟩ := DpAll.reads I ds _ its ha rv
    have hn : its.length = ds.length := SeqAt.ReadsAll.length ds its as h4
    have hmap : its.map (SeqAt.readOf s.heap) = ds := SeqAt.readsAll_map ds its as hxs h4
    have at_ : ∀ (m : Nat) (hm : m < its.toArray.size), ds[m]? = some (SeqAt.readOf s.heap its.toArray[m]) := by
      intro m hm
      have hm' : m < its.length := by simpa using hm
      rw [← hmap, List.getElem?_map, List.getElem?_eq_getElem hm']
      simp
    have hj : j < its.toArray.size := by
      have := (List.getElem?_eq_some_iff.mp hz).1
      simpa [hn] using this
    refine call_meets PySem.F.slot_tuple_index ⟨_, ho, rfl⟩ PySem.F.entry_tuple_index (PySem.F.args_tuple_index_2 _ _)
      (TI.tuple_indexAt a its.toArray n dd sls uy (fun u => PyData.eqv (SeqAt.readOf s.heap u) d) j hj ?_ ?_) ⟨ho, SeqAt.items_eqAt (vs := its.toArray) (show ReadsAll s.heap its.toArray.toList ds as from h4) r1 hxs (SeqAt.canLay_of_shaped sd) (room_in_shaped sd hu), ?_⟩
    · have e := at_ j hj
      rw [hz] at e
      rw [← Option.some.inj e]; exact hzj
    · intro m hm hmj
      exact hno m _ hmj (at_ m hm)
    · exact ⟨.int (j : Nat), H, I.tok _, ⟨_, rfl⟩, q⟩
/-- t.index(e), t a tuple as it was made -/
theorem pe_indexN {X : Cx} {o e : Expr} {to : TE} {t : TA} {apos cpos : Pos} (hu : X.A.units + 65 < cLine) (ho : PE X o to) (ha : PA X [e] t)
    (hbase : attributeBase o "index" X.env (eval o X.env) = eval o X.env) (hfew : ((backTo cpos (starEach [e] X.env)).all (fun x => !x.1) && (backToKw cpos (keywordEach [] X.env)).all (fun x => x.1.isSome)
      && decide ([e].length + ([] : List Keyword).length + (if ([] : List Keyword).isEmpty then 0 else 1) < 30)) = true)
    (hline : (apos.endLine == cpos.line) = true) (hs : starEach [e] X.env = (false, eval e X.env) :: starEach [] X.env) (hplain : (backTo cpos (starEach [] X.env)).any (·.1) = false) :
    PE X (.Call (.Attribute o "index" apos) [e] [] cpos) (fun σ H Q => to σ H fun x H1 => (∃ p xs, x = .ref p ∧ SqN H1 p xs) ∧ t σ H1 fun xs H2 => rIndexT X.K x xs H2 Q) := by
  refine ⟨fun pins s σ H Q I h => ?_⟩
  refine wpAny_Call_method_late hbase hfew hline rfl (thn (ho.run pins s σ H _ I h) fun v s1 ⟨x, H1, I1, r1, ty, q1⟩ => ?_)
  obtain ⟨p, xs, rfl, ob, e1, e2⟩ := ty
  cases r1
  obtain ⟨g1, g2, us, _, ⟨ob', g3, g4, _⟩⟩ := I1.hok p _ e1
  refine ⟨"tuple", "tuple.index", PySem.F.plainAttrs_tuple, PySem.F.slot_tuple_index, PySem.F.type_tuple_index, ⟨ob', g3, g4⟩, fun a z => ?_, ?_⟩
  · cases z
    exact ⟨ob, g1, e2⟩
  · have hA := ha.run cpos pins s1 σ H1 _ I1 q1
    rw [hs] at hA ⊢
    refine Calls.callWith_builtin (by show (false || (backTo cpos (starEach [] X.env)).any (·.1)) = false; rw [hplain] <;> rfl) (Calls.evalArgs_plain ?_)
    exact thn hA fun us s2 ⟨vs, H2, I2, r2, q2⟩ => mt_indexT hu pins s2 σ H2 (V.ref p) vs (Value.ref p) us Q I2 (show RelV (V.ref p) (Value.ref p) from rfl) r2 q2
end Mt

set_option Elab.async false
set_option linter.all false
set_option maxRecDepth 100000
set_option maxHeartbeats 4000000
/-! Tables of sets: the round i -> 5 i + 1 meets each slot, whatever power of two. -/
namespace Mt
open PySem PySem.Spec PyProof.Rows L2
/-- 1 + 5 + .. + 5 ^ (k - 1) -/
def fS : Nat → Nat
  | 0 => 0
  | k + 1 => fS k * 5 + 1
theorem fS_pow : ∀ k, 4 * fS k + 1 = 5 ^ k
  | 0 => rfl
  | k + 1 => by
    have := fS_pow k
    show 4 * (fS k * 5 + 1) + 1 = 5 ^ (k + 1)
    rw [Nat.pow_succ]; omega
theorem fS_add (a c : Nat) : fS (a + c) = fS a + 5 ^ a * fS c := by
  have h1 := fS_pow (a + c)
  have h2 := fS_pow a
  have h3 := fS_pow c
  rw [Nat.pow_add] at h1
  have h4 : 5 ^ a * 5 ^ c = 4 * (5 ^ a * fS c) + 5 ^ a := by rw [← h3, Nat.mul_add, Nat.mul_one]; congr 1; rw [← Nat.mul_assoc, Nat.mul_comm (5 ^ a) 4, Nat.mul_assoc]
  omega
theorem fS_dbl (d : Nat) : fS (2 * d) = fS d * (5 ^ d + 1) := by
  have := fS_add d d
  rw [Nat.mul_add, Nat.mul_one, Nat.mul_comm (fS d) (5 ^ d)]
  rw [show 2 * d = d + d by omega]; omega
theorem fS_odd : ∀ k, fS k % 2 = k % 2
  | 0 => rfl
  | k + 1 => by
    have := fS_odd k
    show (fS k * 5 + 1) % 2 = _
    omega
theorem five_odd (d : Nat) : ∃ q, 5 ^ d + 1 = 2 * (2 * q + 1) := ⟨fS d, by have := fS_pow d; omega⟩
theorem odd_dvd (n x q : Nat) (h : 2 ^ n ∣ x * (2 * q + 1)) : 2 ^ n ∣ x := by
  refine Nat.Coprime.dvd_of_dvd_mul_right ?_ h
  refine Nat.Coprime.pow_left n ?_
  show Nat.gcd 2 (2 * q + 1) = 1
  rw [Nat.gcd_rec]
  have : (2 * q + 1) % 2 = 1 := by omega
  rw [this]; rfl
theorem fS_dvd : ∀ (n c : Nat), 2 ^ n ∣ fS c → 2 ^ n ∣ c
  | 0, c, _ => by rw [Nat.pow_zero]; exact Nat.one_dvd c
  | n + 1, c, h => by
    have h2 : 2 ∣ fS c := Nat.dvd_trans ⟨2 ^ n, by rw [Nat.pow_succ, Nat.mul_comm]⟩ h
    have e := fS_odd c
    have hc : c % 2 = 0 := by omega
    obtain ⟨d, rfl⟩ : ∃ d, c = 2 * d := ⟨c / 2, by omega⟩
    rw [fS_dbl] at h
    obtain ⟨q, hq⟩ := five_odd d
    rw [hq, Nat.pow_succ, show fS d * (2 * (2 * q + 1)) = fS d * (2 * q + 1) * 2 by rw [Nat.mul_comm 2, Nat.mul_assoc]] at h
    have h3 := odd_dvd n _ q (Nat.dvd_of_mul_dvd_mul_right (by decide) h)
    have h4 := fS_dvd n d h3
    rw [Nat.pow_succ, Nat.mul_comm]
    exact Nat.mul_dvd_mul_left 2 h4
theorem fS_full : ∀ n, 2 ^ n ∣ fS (2 ^ n)
  | 0 => by rw [Nat.pow_zero]; exact Nat.one_dvd _
  | n + 1 => by
    rw [Nat.pow_succ, Nat.mul_comm, fS_dbl]
    obtain ⟨q, hq⟩ := five_odd (2 ^ n)
    rw [hq, Nat.mul_comm 2 (2 ^ n)]
    exact Nat.mul_dvd_mul (fS_full n) ⟨_, rfl⟩
/-- the masks -/
def MskOk (m : Nat) : Prop := ∃ n, m + 1 = 2 ^ n ∧ 3 ≤ n ∧ n ≤ 13
theorem lcg_fS (m : Nat) : ∀ k, lcgN m k = fS k % (m + 1)
  | 0 => by show 0 = 0 % (m + 1); rw [Nat.zero_mod]
  | k + 1 => by
    show (lcgN m k * 5 + 1) % (m + 1) = (fS k * 5 + 1) % (m + 1)
    rw [lcg_fS m k, Nat.add_mod, Nat.mul_mod, Nat.mod_mod, ← Nat.mul_mod, ← Nat.add_mod]
theorem lcg_inj {n m a b : Nat} (hm : m + 1 = 2 ^ n) (hab : a < b) (hb : b ≤ m) : lcgN m a ≠ lcgN m b := by
  intro e
  rw [lcg_fS, lcg_fS, hm] at e
  obtain ⟨c, rfl⟩ : ∃ c, b = a + c := ⟨b - a, by omega⟩
  rw [fS_add] at e
  have h : 2 ^ n ∣ 5 ^ a * fS c := by
    have h1 : (5 ^ a * fS c) % 2 ^ n = 0 := by
      have e2 := Nat.sub_mod_eq_zero_of_mod_eq e.symm
      rwa [Nat.add_sub_cancel_left] at e2
    exact Nat.dvd_of_mod_eq_zero h1
  have h2 : 2 ^ n ∣ fS c := by
    have e5 : 5 ^ a = 2 * (2 * fS a) + 1 := by have := fS_pow a; omega
    rw [e5, Nat.mul_comm] at h
    exact odd_dvd n _ _ h
  have h3 := Nat.le_of_dvd (by omega) (fS_dvd n c h2)
  omega
/-- a map of the first numbers into themselves that hits none twice hits all -/
theorem hit_all {f : Nat → Nat} {M : Nat} (hf : ∀ k, k < M → f k < M) (hi : ∀ a b, a < b → b < M → f a ≠ f b) {j : Nat} (hj : j < M) : ∃ k, k < M ∧ f k = j := by
  have nd : ((List.range M).map f).Nodup := by
    rw [List.Nodup, List.pairwise_map]
    refine List.Pairwise.imp_of_mem (fun {a b} ha hb h => ?_) (List.pairwise_lt_range (n := M))
    exact hi a b h (List.mem_range.mp hb)
  rcases Classical.em (j ∈ (List.range M).map f) with c | c
  · obtain ⟨k, hk, e⟩ := List.mem_map.mp c
    exact ⟨k, List.mem_range.mp hk, e⟩
  · exfalso
    have h1 := nat_nodup_len (j :: (List.range M).map f) (List.range M) (List.nodup_cons.mpr ⟨c, nd⟩) (fun x hx => by
      rcases List.mem_cons.mp hx with e | hx
      · rw [e]; exact List.mem_range.mpr hj
      · obtain ⟨k, hk, e⟩ := List.mem_map.mp hx
        rw [← e]; exact List.mem_range.mpr (hf k (List.mem_range.mp hk)))
    simp at h1
    omega
theorem lcg_hit {m : Nat} (hm : MskOk m) {j : Nat} (hj : j ≤ m) : ∃ b, b ≤ m ∧ lcgN m b = j := by
  obtain ⟨n, e, _⟩ := hm
  obtain ⟨k, hk, ek⟩ := hit_all (f := lcgN m) (M := m + 1) (fun k _ => by rw [lcg_fS]; exact Nat.mod_lt _ (Nat.succ_pos _)) (fun a b hab hb => lcg_inj e hab (by omega)) (j := j) (by omega)
  exact ⟨k, by omega, ek⟩
theorem lcg_turn {m : Nat} (hm : MskOk m) : ∀ k, lcgN m (m + 1 + k) = lcgN m k := by
  obtain ⟨n, e, _⟩ := hm
  intro k
  rw [lcg_fS, lcg_fS, Nat.add_comm, fS_add, Nat.add_mod, e]
  have h : (5 ^ k * fS (2 ^ n)) % 2 ^ n = 0 := Nat.mod_eq_zero_of_dvd (Nat.dvd_mul_left_of_dvd (fS_full n) _)
  rw [h, Nat.add_zero, Nat.mod_mod]
theorem lcgI_hit {m : Nat} (hm : MskOk m) {i j : Nat} (hi : i ≤ m) (hj : j ≤ m) : ∃ k, k ≤ m ∧ lcgI m i k = j := by
  obtain ⟨a, ha, ea⟩ := lcg_hit hm hi
  obtain ⟨b, hb, eb⟩ := lcg_hit hm hj
  subst ea
  by_cases c : a ≤ b
  · exact ⟨b - a, by omega, by rw [lcgN_add, show a + (b - a) = b by omega, eb]⟩
  · exact ⟨m + 1 + b - a, by omega, by rw [lcgN_add, show a + (m + 1 + b - a) = m + 1 + b by omega, lcg_turn hm, eb]⟩
theorem run_hit {m : Nat} (hm : MskOk m) (h : Int) {j : Nat} (hj : j ≤ m) : ∃ n, n ≤ m + 12 ∧ runI m (SetTable.bits h) n = j := by
  obtain ⟨k, hk, e⟩ := lcgI_hit hm (runI_le m (SetTable.bits h) 12) hj
  exact ⟨12 + k, by omega, by rw [runI_tail (bits_lt h)]; exact e⟩
theorem nth_hit {m : Nat} (hm : MskOk m) (h : Int) {j : Nat} (hj : j ≤ m) : ∃ k, k < 10 * SetTable.turns m ∧ way m h k = j := by
  obtain ⟨n, hn, e⟩ := run_hit hm h hj
  obtain ⟨k, hk, e2⟩ := run_nth m (SetTable.bits h) n
  refine ⟨k, by unfold SetTable.turns; omega, ?_⟩
  show (nth m (runAt m (SetTable.bits h % (m + 1)) (SetTable.bits h)) k).j = j
  rw [e2]; exact e
theorem way_in (m : Nat) (h : Int) (k : Nat) : way m h k ≤ m := by
  have hi : SetTable.bits h % (m + 1) ≤ m := Nat.le_of_lt_succ (Nat.mod_lt _ (Nat.succ_pos _))
  have r := runEnd_bd hi
  have q := nth_in (m := m) k (runAt m (SetTable.bits h % (m + 1)) (SetTable.bits h)) (by
    show SetTable.bits h % (m + 1) + (SetTable.runEnd m (SetTable.bits h % (m + 1)) - SetTable.bits h % (m + 1)) ≤ m
    omega)
  show (nth m (runAt m (SetTable.bits h % (m + 1)) (SetTable.bits h)) k).j ≤ m
  omega
theorem msk_cases {m : Nat} (h : MskOk m) : m % 2 = 1 ∧ 7 ≤ m ∧ m ≤ 8191 := by
  obtain ⟨n, e, h1, h2⟩ := h
  have h3 : 2 ^ 3 ≤ 2 ^ n := Nat.pow_le_pow_right (by decide) h1
  have h4 : 2 ^ n ≤ 2 ^ 13 := Nat.pow_le_pow_right (by decide) h2
  have h5 : 2 ^ n % 2 = 0 := by
    obtain ⟨k, rfl⟩ : ∃ k, n = k + 1 := ⟨n - 1, by omega⟩
    rw [Nat.pow_succ]; omega
  have h6 : (2 : Nat) ^ 3 = 8 := rfl
  have h7 : (2 : Nat) ^ 13 = 8192 := rfl
  omega
end Mt

set_option Elab.async false
set_option linter.all false
set_option maxRecDepth 100000
set_option maxHeartbeats 4000000
/-! Tables of sets: laid anew. -/
namespace Mt
open PySem PySem.Spec PyProof.Rows L2
/-- n have their seats -/
structure Seat (m n : Nat) (owner : Array (Option Nat)) : Prop where
  sz : owner.size = m + 1
  occ : ∃ js : List Nat, js.length = n ∧ ∀ j, j ≤ m → (oAt owner j ≠ none ↔ j ∈ js)
  all : ∀ k, k < n → ∃ j, j ≤ m ∧ oAt owner j = some k
theorem Seat.zero (m : Nat) : Seat m 0 (Array.replicate (m + 1) none) :=
  ⟨Array.size_replicate, ⟨[], rfl, fun j hj => ⟨fun h => absurd (oAt_init hj) h, fun h => nomatch h⟩⟩, fun k hk => absurd hk (Nat.not_lt_zero _)⟩
theorem Seat.step {m n : Nat} (hm : MskOk m) {owner : Array (Option Nat)} (W : Seat m n owner) (hn : n ≤ m) (h : Int) :
    ∃ j, SetTable.layClean.free m owner (SetTable.turns m) (SetTable.bits h % (m + 1)) (SetTable.bits h) = some j ∧ Seat m (n + 1) (owner.setIfInBounds j (some n)) := by
  obtain ⟨js, e1, e2⟩ := W.occ
  obtain ⟨j0, h0, n0⟩ := st_missing js (m + 1) (by omega)
  obtain ⟨r, hr, er⟩ := run_hit hm h (j := j0) (by omega)
  have hw : way m h (off m (SetTable.bits h % (m + 1)) (SetTable.bits h) r) = j0 := by
    show (nth m (runAt m (SetTable.bits h % (m + 1)) (SetTable.bits h)) _).j = j0
    rw [nth_off, itL_run]; exact er
  have free0 : oAt owner j0 = none := by
    rcases Classical.em (oAt owner j0 = none) with c | c
    · exact c
    · exact absurd ((e2 j0 (by omega)).mp c) n0
  obtain ⟨K, k1, k2, k3⟩ := st_least (p := fun k => oAt owner (way m h k) = none) _ (show oAt owner (way m h (off m (SetTable.bits h % (m + 1)) (SetTable.bits h) r)) = none by rw [hw]; exact free0)
  have hf : SetTable.layClean.free m owner (SetTable.turns m) (SetTable.bits h % (m + 1)) (SetTable.bits h) = some (way m h K) :=
    free_spec m owner (SetTable.turns m) r _ _ K (by unfold SetTable.turns; omega) k1 (fun k hk => by
      have q := k3 k hk
      show (oAt owner (way m h k)).isNone = false
      cases z : oAt owner (way m h k) with
      | none => exact absurd z q
      | some _ => rfl) (by
      show (oAt owner (way m h K)).isNone = true
      rw [k2]; rfl)
  have hj := way_in m h K
  refine ⟨way m h K, hf, ?_⟩
  generalize way m h K = j at k2 hj
  have hjs : j < owner.size := by rw [W.sz]; omega
  refine ⟨by rw [Array.size_setIfInBounds]; exact W.sz, ⟨j :: js, by rw [List.length_cons, e1], fun i hi => ?_⟩, fun k hk => ?_⟩
  · by_cases c : i = j
    · subst c
      rw [oAt_set_self _ hjs]; simp
    · rw [oAt_set_ne _ c, e2 i hi, List.mem_cons]
      exact ⟨.inr, fun z => z.resolve_left c⟩
  · by_cases c : k = n
    · exact ⟨j, hj, by rw [oAt_set_self _ hjs, c]⟩
    · obtain ⟨i, hi, e⟩ := W.all k (by omega)
      refine ⟨i, hi, ?_⟩
      rw [oAt_set_ne _ (fun z => by rw [z, k2] at e; cases e)]; exact e
theorem seat_all {m : Nat} (hm : MskOk m) : ∀ (hs : List Int) (n : Nat) (owner : Array (Option Nat)), Seat m n owner → n + hs.length ≤ m →
    ∃ owner', hs.foldl (stepF m) (some (owner, n)) = some (owner', n + hs.length) ∧ Seat m (n + hs.length) owner'
  | [], n, owner, W, _ => ⟨owner, rfl, W⟩
  | h :: hs, n, owner, W, hl => by
    rw [List.length_cons] at hl
    obtain ⟨j, e, W'⟩ := W.step hm (by omega) h
    obtain ⟨o', e', W''⟩ := seat_all hm hs (n + 1) _ W' (by omega)
    refine ⟨o', ?_, ?_⟩
    · rw [List.foldl_cons, stepF_some e, e', List.length_cons]; congr 2; omega
    · rw [List.length_cons, show n + (hs.length + 1) = n + 1 + hs.length by omega]; exact W''
/-- a table of n -/
structure TabN (t : SetTable) (n : Nat) : Prop where
  ris : Ris t.place.toList
  dm : t.dummies = #[]
  sz : t.place.size = n
  mok : MskOk t.mask
  bd : ∀ x ∈ t.place.toList, x ≤ t.mask
theorem relaidN (t : SetTable) {hs : Array Int} {wanted M : Nat} (hw : SetTable.sizeAbove wanted - 1 = M) (hM : MskOk M) (hn : hs.size ≤ M) :
    ∃ t' order, t.relaid hs wanted = some (t', order) ∧ order.toList.Perm (List.range hs.size) ∧ TabN t' hs.size ∧ t'.mask = M ∧ t'.led = t.led ∧ t'.plain = t.plain := by
  obtain ⟨owner, e, W⟩ := seat_all hM hs.toList 0 _ (Seat.zero M) (by rw [Nat.zero_add, Array.length_toList]; exact hn)
  rw [Nat.zero_add, Array.length_toList] at e W
  have hr : t.relaid hs wanted = some (tabOf t M owner, ((liveOf M owner).map (·.2)).toArray) := by
    rw [relaid_eq, hw, layClean_eq, e]; rfl
  obtain ⟨r1, r2⟩ := ris_live (fun j => owner.getD j none) (List.range (M + 1)) (by
    unfold Ris
    exact List.pairwise_lt_range)
  have r1 : Ris ((liveOf M owner).map (·.1)) := r1
  have nd : ((liveOf M owner).map (·.1)).Nodup := List.Pairwise.imp (fun h => Nat.ne_of_lt h) r1
  obtain ⟨js, q1, q2⟩ := W.occ
  have l1 := nat_nodup_len _ js nd (fun x hx => by
    obtain ⟨⟨y, k⟩, hq, rfl⟩ := List.mem_map.mp hx
    obtain ⟨b1, b2⟩ := (mem_live W.sz).mp hq
    exact (q2 y b1).mp (by rw [b2]; exact fun z => nomatch z))
  have got : ∀ k, k < hs.size → k ∈ (liveOf M owner).map (·.2) := fun k hk => by
    obtain ⟨j, b1, b2⟩ := W.all k hk
    exact List.mem_map.mpr ⟨(j, k), (mem_live W.sz).mpr ⟨b1, b2⟩, rfl⟩
  have l2 := nat_nodup_len (List.range hs.size) _ List.nodup_range (fun k hk => got k (List.mem_range.mp hk))
  rw [List.length_map, q1] at l1
  rw [List.length_map, List.length_range] at l2
  have hl : (liveOf M owner).length = hs.size := by omega
  refine ⟨_, _, hr, perm_range hs.size _ (by rw [List.length_map]; exact hl) got, ⟨r1, rfl, ?_, hM, fun x hx => ?_⟩, rfl, rfl, rfl⟩
  · show ((liveOf M owner).map (·.1)).toArray.size = hs.size
    rw [List.size_toArray, List.length_map, hl]
  · exact Nat.le_of_lt_succ (List.mem_range.mp (r2 x hx))
/-- the first empty slot on the way -/
theorem TabN.first {t : SetTable} {n : Nat} (T : TabN t n) (hl : n ≤ t.mask) (h : Int) : ∃ K, K < 10 * SetTable.turns t.mask ∧ way t.mask h K ∉ t.place.toList ∧ ∀ k, k < K → way t.mask h k ∈ t.place.toList := by
  obtain ⟨j, hj, nj⟩ := st_missing t.place.toList (t.mask + 1) (by rw [Array.length_toList, T.sz]; omega)
  obtain ⟨k, hk, e⟩ := nth_hit T.mok h (j := j) (by omega)
  obtain ⟨K, h1, h2, h3⟩ := st_least (p := fun k => way t.mask h k ∉ t.place.toList) k (by rw [e]; exact nj)
  refine ⟨K, by omega, h2, fun k' hk' => ?_⟩
  rcases Classical.em (way t.mask h k' ∈ t.place.toList) with c | c
  · exact c
  · exact absurd c (h3 k' hk')
theorem TabN.put {t : SetTable} {n : Nat} (T : TabN t n) {j : Nat} (hj : j ≤ t.mask) (nj : j ∉ t.place.toList) :
    TabN (t.put j).1 (n + 1) ∧ (t.put j).1.mask = t.mask ∧ (t.put j).1.led = t.led ∧ (t.put j).1.plain = t.plain ∧ (t.put j).1.fill = n + 1 ∧ (t.put j).2 ≤ n := by
  obtain ⟨c1, _, _⟩ := below_cut T.ris j
  have hpl : SetTable.below t.place j ≤ t.place.toList.length := by rw [Array.length_toList]; exact c1
  have hsize : (t.put j).1.place.size = n + 1 := by
    rw [← Array.length_toList, put_place t j, len_ins _ hpl, Array.length_toList, T.sz]
  refine ⟨⟨ris_insert T.ris fun e => nj (List.mem_of_getElem? (by rw [Array.getElem?_toList]; exact e)), put_dm T.dm j, hsize, T.mok, fun x hx => ?_⟩, rfl, rfl, rfl, ?_, ?_⟩
  · rw [put_place t j] at hx
    rcases mem_ins.mp hx with z | z
    · rw [z]; exact hj
    · exact T.bd x z
  · show (t.put j).1.place.size + (t.put j).1.dummies.size = n + 1
    rw [hsize, put_dm T.dm j]; rfl
  · show SetTable.below t.place j ≤ n
    rw [← T.sz]; exact c1
end Mt

set_option Elab.async false
set_option linter.all false
set_option maxRecDepth 100000
set_option maxHeartbeats 4000000
/-! Sets of nested tuples, all unlike: one more added. -/
namespace Mt
open PySem PySem.Spec PyProof.Rows L2
section
variable {P : Program} {w : World}
def ClsAt (P : Program) (w : World) (n : Nat) (s : Shared) (v : Value) : Prop := ∀ (A : Around) (E : Value → Shared → Prop) (Q : Bool → Shared → Prop), Q false s → wpAny (model P w) A (ofAClassStatement n v) Q E s
def HbyAt (P : Program) (w : World) (n : Nat) (s : Shared) (v : Value) : Prop := ∀ (A : Around) (E : Value → Shared → Prop) (Q : Bool → Shared → Prop), (∀ b, Q b s) → wpAny (model P w) A (hashByValue n v) Q E s
theorem ClsAt.tuple {n : Nat} {s : Shared} {a : Addr} {o : Obj} {vs : Array Value} {m : Nat} (ho : s.heap.get? a = some o) (hc : o.cls = .type "tuple") (hd : o.data = .seq vs m) (hq : ∀ v ∈ vs.toList, ClsAt P w n s v) : ClsAt P w (n + 1) s (.ref a) := fun A E Q h => by
  have hT : s.TypeIs (.ref a) "tuple" := ⟨o, ho, hc⟩
  unfold ofAClassStatement
  refine wpAny_bind (wpAny_typeOf hT ?_)
  dsimp only
  have e : (("tuple" : String) == "tuple") = true := by decide
  simp only [e, if_true, Bool.not_true, Bool.false_eq_true, if_false]
  try refine wpAny_bind (wpAny_pure ?_)
  try simp only [Bool.not_true, Bool.false_eq_true, if_false]
  show wpAny _ _ (seqItems? (.ref a) >>= _) _ _ s
  refine wpAny_bind (wpAny_seqItems ho hd ?_)
  dsimp only
  refine wpAny_bind ?_
  show wpAny _ _ (forIn vs _ _) _ _ s
  rw [← Array.forIn_toList]
  refine wpAny_forIn_list _ (fun rest r s' => r.1 = none ∧ s' = s ∧ ∀ v ∈ rest, ClsAt P w n s v) _ ?_ ?_ _ _ ⟨rfl, rfl, hq⟩
  · rintro v rest r s' ⟨hr, rfl, hall⟩
    refine wpAny_bind (hall v List.mem_cons_self _ _ _ ?_)
    simp only [Bool.false_eq_true, if_false]
    exact wpAny_pure ⟨rfl, rfl, fun u hu' => hall u (List.mem_cons_of_mem _ hu')⟩
  · rintro ⟨r1, r2⟩ s' ⟨hr, rfl, _⟩
    simp only at hr
    subst hr
    exact wpAny_pure h
theorem HbyAt.tuple {n : Nat} {s : Shared} {a : Addr} {o : Obj} {vs : Array Value} {m : Nat} (ho : s.heap.get? a = some o) (hc : o.cls = .type "tuple") (hd : o.data = .seq vs m) (hq : ∀ v ∈ vs.toList, HbyAt P w n s v) : HbyAt P w (n + 1) s (.ref a) := fun A E Q h => by
  have hT : s.TypeIs (.ref a) "tuple" := ⟨o, ho, hc⟩
  unfold hashByValue
  refine wpAny_bind (wpAny_specialOf hT F.slot_tuple_hash.lookup ?_)
  show wpAny _ _ (seqItems? (.ref a) >>= _) _ _ s
  refine wpAny_bind (wpAny_seqItems ho hd ?_)
  refine wpAny_bind ?_
  show wpAny _ _ (forIn vs _ _) _ _ s
  rw [← Array.forIn_toList]
  refine wpAny_forIn_list _ (fun rest r s' => r.1 = none ∧ s' = s ∧ ∀ v ∈ rest, HbyAt P w n s v) _ ?_ ?_ _ _ ⟨rfl, rfl, hq⟩
  · rintro v rest r s' ⟨hr, rfl, hall⟩
    refine wpAny_bind (hall v List.mem_cons_self _ _ _ fun b => ?_)
    cases b with
    | true =>
      simp only [Bool.not_true, Bool.false_eq_true, if_false]
      exact wpAny_pure ⟨rfl, rfl, fun u hu' => hall u (List.mem_cons_of_mem _ hu')⟩
    | false =>
      simp only [Bool.not_false, if_true]
      exact wpAny_pure (wpAny_pure (h false))
  · rintro ⟨r1, r2⟩ s' ⟨hr, rfl, _⟩
    simp only at hr
    subst hr
    exact wpAny_pure (h true)
mutual
theorem cls_key : ∀ (k : NestedKey) (v : Value) (n : Nat) (s : Shared), NestedIs s.heap k v → k.depth ≤ n → ClsAt P w n s v
  | .none, _, n, s, x, _ => by cases x; intro A E Q h; cases n <;> exact wpAny_pure h
  | .num i, _, n, s, x, _ => by cases x <;> (intro A E Q h; cases n <;> exact wpAny_pure h)
  | .text y, _, n, s, x, _ => by cases x; intro A E Q h; cases n <;> exact wpAny_pure h
  | .tup ks, _, n, s, x, hn => by
    cases x with
    | tup hg hc hd hk =>
      simp only [NestedKey.depth] at hn
      cases n with
      | zero => omega
      | succ n => exact .tuple hg hc hd (cls_keys ks _ n s hk (by omega))
theorem cls_keys : ∀ (ks : List NestedKey) (vs : List Value) (n : Nat) (s : Shared), NestedAll s.heap ks vs → NestedKey.depthAll ks ≤ n → ∀ v ∈ vs, ClsAt P w n s v
  | [], _, n, s, x, _, v, hv => by cases x; cases hv
  | k :: ks, _, n, s, x, hn, v, hv => by
    cases x with
    | cons x1 x2 =>
      simp only [NestedKey.depthAll] at hn
      rcases List.mem_cons.mp hv with e | hv
      · rw [e]; exact cls_key k _ n s x1 (by omega)
      · exact cls_keys ks _ n s x2 (by omega) v hv
end
mutual
theorem hby_key : ∀ (k : NestedKey) (v : Value) (n : Nat) (s : Shared), NestedIs s.heap k v → k.depth ≤ n → HbyAt P w n s v
  | .none, _, n, s, x, _ => by cases x; intro A E Q h; cases n <;> exact wpAny_pure (h _)
  | .num i, _, n, s, x, _ => by cases x <;> (intro A E Q h; cases n <;> exact wpAny_pure (h _))
  | .text y, _, n, s, x, _ => by cases x; intro A E Q h; cases n <;> exact wpAny_pure (h _)
  | .tup ks, _, n, s, x, hn => by
    cases x with
    | tup hg hc hd hk =>
      simp only [NestedKey.depth] at hn
      cases n with
      | zero => omega
      | succ n => exact .tuple hg hc hd (hby_keys ks _ n s hk (by omega))
theorem hby_keys : ∀ (ks : List NestedKey) (vs : List Value) (n : Nat) (s : Shared), NestedAll s.heap ks vs → NestedKey.depthAll ks ≤ n → ∀ v ∈ vs, HbyAt P w n s v
  | [], _, n, s, x, _, v, hv => by cases x; cases hv
  | k :: ks, _, n, s, x, hn, v, hv => by
    cases x with
    | cons x1 x2 =>
      simp only [NestedKey.depthAll] at hn
      rcases List.mem_cons.mp hv with e | hv
      · rw [e]; exact hby_key k _ n s x1 (by omega)
      · exact hby_keys ks _ n s x2 (by omega) v hv
end
abbrev IsN (P : Program) (w : World) (h : Heap) (k : NestedKey) (a : Addr) : Prop := (nestedKind P w).is h k a
abbrev NK := Addr × NestedKey
variable {A : Around} {E : Value → Shared → Prop} {s : Shared}
/-- a search among such shows nothing -/
theorem seenN {k : NestedKey} {b : Addr} {Q : Bool → Shared → Prop} (hk : IsN P w s.heap k b) {ys : List Value} (hy : ∀ y ∈ ys, ∃ k' c, y = Value.ref c ∧ IsN P w s.heap k' c) (h : Q false s) :
    wpAny (model P w) A (searchCouldBeSeen (.ref b) ys) Q E s := by
  unfold searchCouldBeSeen
  refine wpAny_bind ?_
  refine wpAny_forIn_list _ (fun rest r s' => r.1 = none ∧ s' = s ∧ ∀ y ∈ rest, ∃ k' c, y = Value.ref c ∧ IsN P w s.heap k' c) _ ?_ ?_ _ _ ⟨rfl, rfl, hy⟩
  · rintro v rest r s' ⟨hr, rfl, hall⟩
    obtain ⟨k', c, rfl, hc⟩ := hall v List.mem_cons_self
    have rest' : ∀ y ∈ rest, ∃ k' c, y = Value.ref c ∧ IsN P w s'.heap k' c := fun u hu' => hall u (List.mem_cons_of_mem _ hu')
    dsimp only
    by_cases hv : (b == c || (carriedByValue (.ref b) && carriedByValue (.ref c))) = true
    · exact wp_if_pos hv (wpAny_pure ⟨rfl, rfl, rest'⟩)
    · refine wp_if_neg hv ?_
      refine wpAny_bind ((nestedKind P w).quiet hk ?_)
      simp only [Bool.not_true, Bool.false_eq_true, if_false]
      refine wpAny_bind ((nestedKind P w).quiet hc ?_)
      simp only [Bool.not_true, Bool.false_eq_true, if_false]
      refine wpAny_bind (cls_key _ _ 8 _ hk.1 hk.2 _ _ _ ?_)
      simp only [Bool.false_eq_true, if_false]
      refine wpAny_bind (cls_key _ _ 8 _ hc.1 hc.2 _ _ _ ?_)
      simp only [Bool.false_eq_true, if_false]
      exact wpAny_pure ⟨rfl, rfl, rest'⟩
  · rintro ⟨r1, r2⟩ s' ⟨hr, rfl, _⟩
    simp only at hr
    subst hr
    exact wpAny_pure h
/-- the set of nested tuples -/
def rowsN (w : World) (L : List NK) : List (Int × Value) := L.map fun p => (p.2.hash w, Value.ref p.1)
structure SetN (P : Program) (w : World) (h : Heap) (a : Addr) (L : List NK) (es : Array (Int × Value)) (ep : Nat) (t : SetTable) : Prop where
  ob : ∃ o, h.get? a = some o ∧ o.ExactSet ∧ o.data = .set es ep t
  rows : es.toList = rowsN w L
  tab : TabN t L.length
  tup : ∀ p ∈ L, IsN P w h p.2 p.1
  room : L.length * 5 < t.mask * 3
  few : L.length < 4096
  ms : t.mask = 7 ∨ t.mask = 31 ∨ t.mask = 127 ∨ t.mask = 511 ∨ t.mask = 2047 ∨ t.mask = 8191
variable {a : Addr} {L : List NK} {es : Array (Int × Value)} {ep : Nat} {t : SetTable}
theorem SetN.size {h : Heap} (R : SetN P w h a L es ep t) : es.size = L.length := by
  have h := congrArg List.length R.rows
  rw [rowsN, Array.length_toList, List.length_map] at h
  exact h
theorem SetN.fits {h : Heap} (R : SetN P w h a L es ep t) : t.fits es.size = true := by
  have h1 := R.tab.sz
  have h2 := R.size
  have h3 := R.room
  unfold SetTable.fits SetTable.fill
  rw [R.tab.dm, Bool.and_eq_true, beq_iff_eq, decide_eq_true_eq]
  show t.place.size = es.size ∧ t.place.size + 0 ≤ t.mask
  omega
theorem SetN.gw {h : Heap} (R : SetN P w h a L es ep t) : ¬ t.gaveWay = true := by
  unfold SetTable.gaveWay
  rw [(msk_cases R.tab.mok).1]
  decide
theorem SetN.entry {h : Heap} (R : SetN P w h a L es ep t) {i : Nat} {p : NK} (e : L[i]? = some p) : es[i]? = some (p.2.hash w, Value.ref p.1) := by
  rw [← Array.getElem?_toList, R.rows, rowsN, List.getElem?_map, e]; rfl
theorem nth_dummy (m : Nat) : ∀ (n : Nat) (p : SetTable.Probe), p.dummy = none → (nth m p n).dummy = none
  | 0, _, h => h
  | n + 1, p, h => nth_dummy m n (adv m p) (by unfold adv; split <;> exact h)
/-- the search of what is not there -/
theorem searchN (R : SetN P w s.heap a L es ep t) {x : Addr} {k : NestedKey} (hx : IsN P w s.heap k x) (hu : A.units + 8 < cLine) (hnew : ∀ p ∈ L, p.2 ≠ k) {K : Nat} (hKf : K < 10 * SetTable.turns t.mask)
    (hK : way t.mask (k.hash w) K ∉ t.place.toList) (hKb : ∀ c, c < K → way t.mask (k.hash w) c ∈ t.place.toList) {Q : SetFound → Shared → Prop} (hout : Q (.free (way t.mask (k.hash w) K) false) s) :
    ∀ (f c : Nat) (stand : Option SetTable.Probe), stand.getD (t.probeStart (k.hash w)) = nth t.mask (runAt t.mask (SetTable.bits (k.hash w) % (t.mask + 1)) (SetTable.bits (k.hash w))) c → c ≤ K → K - c < f →
      wpAny (model P w) A (setSearchFrom a (.ref x) (k.hash w) true f stand) Q E s
  | 0, c, stand, _, _, hf => absurd hf (Nat.not_lt_zero _)
  | f + 1, c, stand, hst, hc, hf => by
    obtain ⟨o, ho, hex, hd⟩ := R.ob
    rw [setSearchFrom_succ]
    refine wpAny_bind (wpAny_setState_of ho hd R.fits ?_)
    dsimp only
    refine wp_if_neg R.gw ?_
    try refine wpAny_bind (wpAny_pure ?_)
    generalize hp0 : runAt t.mask (SetTable.bits (k.hash w) % (t.mask + 1)) (SetTable.bits (k.hash w)) = p0 at *
    have hway : ∀ q, way t.mask (k.hash w) q = (nth t.mask p0 q).j := fun q => by rw [← hp0]
    have e1 : ∀ q, (nth t.mask (nth t.mask p0 c) q).j = way t.mask (k.hash w) (c + q) := fun q => by rw [hway, ← nth_add]
    have spec := go_spec t R.tab.ris R.tab.dm (fun i => (es[i]?.map (·.1)).getD 0) (k.hash w) (10 * SetTable.turns t.mask) (K - c) (nth t.mask p0 c) (nth_dummy _ _ _ (by rw [← hp0]; rfl)) (by omega)
      (fun q hq => by rw [e1]; exact hKb (c + q) (by omega)) (by rw [e1, show c + (K - c) = K by omega]; exact hK)
    rcases spec with ⟨q, i, hq, hi, hh, hno, hpr⟩ | ⟨hno, hpr⟩
    · have hpr' : t.probe (fun i => (es[i]?.map (·.1)).getD 0) (k.hash w) (stand.getD (t.probeStart (k.hash w))) = some (.candidate (nth t.mask (nth t.mask p0 c) q).j i (nth t.mask (nth t.mask p0 c) (q + 1))) := by
        rw [hst]; exact hpr
      rw [hpr']
      dsimp only
      have hil : i < L.length := by
        have h1 : i < t.place.toList.length := (List.getElem?_eq_some_iff.mp hi).1
        have h2 := R.tab.sz
        rw [Array.length_toList] at h1
        omega
      obtain ⟨p, hp⟩ : ∃ p, L[i]? = some p := ⟨_, List.getElem?_eq_getElem hil⟩
      have hmem : p ∈ L := List.mem_of_getElem? hp
      have hpt := R.tup p hmem
      have hkk : p.2 ≠ k := hnew p hmem
      have hsl := slot_live R.tab.ris hi
      have rest : wpAny (model P w) A (searchRest a (.ref x) (k.hash w) true f es t (nth t.mask (nth t.mask p0 c) q).j i (nth t.mask (nth t.mask p0 c) (q + 1))) Q E s := by
        unfold searchRest
        rw [R.entry hp]
        dsimp only
        refine wpAny_bind (wpAny_holding ((nestedKind P w).eqBool hu hpt hx ?_))
        refine wpAny_bind (wpAny_setState_of ho hd R.fits ?_)
        dsimp only
        refine wp_if_neg (by simp [hkk]) ?_
        try refine wpAny_bind (wpAny_pure ?_)
        rw [sameMem]
        dsimp only
        simp only [if_true, hsl, R.entry hp]
        refine wpAny_bind (wpAny_isSame_ref_self (wpAny_bind (wpAny_pure ?_)))
        simp only [if_true]
        refine wp_if_neg (by simp [hkk]) ?_
        refine searchN R hx hu hnew hKf hK hKb hout f (c + (q + 1)) _ ?_ (by omega) (by omega)
        rw [hp0]
        exact (nth_add t.mask c p0 (q + 1)).symm
      by_cases hl : t.led = true
      · refine wp_if_neg (by simp [hl]) ?_
        try refine wpAny_bind (wpAny_pure ?_)
        exact rest
      · refine wp_if_pos (by simp [hl]) ?_
        refine wpAny_bind (seenN hx (fun y hy => ?_) ?_)
        · obtain ⟨e, he, ee⟩ := List.mem_map.mp hy
          have he1 : e ∈ es ∧ e.1 = k.hash w := by simpa using he
          have he2 : e ∈ es.toList := by simpa using he1.1
          rw [R.rows, rowsN] at he2
          obtain ⟨p2, hp2, e2⟩ := List.mem_map.mp he2
          refine ⟨p2.2, p2.1, ?_, R.tup p2 hp2⟩
          rw [← ee, ← e2]
        · refine wp_if_neg (by decide) ?_
          try refine wpAny_bind (wpAny_pure ?_)
          exact rest
    · have hpr' : t.probe (fun i => (es[i]?.map (·.1)).getD 0) (k.hash w) (stand.getD (t.probeStart (k.hash w))) = some (.empty (way t.mask (k.hash w) K) none) := by
        have e2 : way t.mask (k.hash w) K = (nth t.mask (nth t.mask p0 c) (K - c)).j := by rw [e1, show c + (K - c) = K by omega]
        rw [hst, e2]
        exact hpr
      rw [hpr']
      exact wpAny_pure hout
theorem searchN_at (R : SetN P w s.heap a L es ep t) {x : Addr} {k : NestedKey} (hx : IsN P w s.heap k x) (hu : A.units + 8 < cLine) (hnew : ∀ p ∈ L, p.2 ≠ k) {Q : SetFound → Shared → Prop}
    (hout : ∀ j, j ≤ t.mask → j ∉ t.place.toList → Q (.free j false) s) : wpAny (model P w) A (setSearch a (.ref x) (k.hash w) true) Q E s := by
  have hroom := R.room
  obtain ⟨m1, m2, m3⟩ := msk_cases R.tab.mok
  obtain ⟨K, hKf, hK, hKb⟩ := R.tab.first (by omega) (k.hash w)
  unfold setSearch
  refine searchN R hx hu hnew hKf hK hKb (hout _ (way_in _ _ _) hK) 100000 0 none rfl (Nat.zero_le _) ?_
  unfold SetTable.turns at hKf
  omega
end
end Mt

set_option Elab.async false
set_option linter.all false
set_option maxRecDepth 100000
set_option maxHeartbeats 4000000
/-! Sets of nested tuples, all unlike: made of a tuple, and how many they have. -/
namespace Mt
open PySem PySem.Spec PyProof.Rows L2
theorem isN_set {P : Program} {w : World} {h h' : Heap} {k : NestedKey} {a b : Addr} {o : Obj} {es : Array (Int × Value)} {ep : Nat} {t : SetTable} (hb : IsN P w h k b) (ho : h.get? a = some o) (hd : o.data = .set es ep t) (hs : Heap.SameBut a h h') : IsN P w h' k b := by
  refine nestedKind_stays.stays (fun c o' vs n hc hd' => ?_) hb
  refine (hs.2 c fun e => ?_).trans hc
  subst e
  rw [ho] at hc
  cases hc
  rw [hd] at hd'
  cases hd'
theorem isN_keep {P : Program} {w : World} {h h' : Heap} {k : NestedKey} {b : Addr} (x : IsN P w h k b) (hk : ∀ c o, h.get? c = some o → h'.get? c = some o) : IsN P w h' k b :=
  nestedKind_stays.stays (fun c o _ _ hc _ => hk c o hc) x
theorem msk_list {m : Nat} (h : m = 7 ∨ m = 31 ∨ m = 127 ∨ m = 511 ∨ m = 2047 ∨ m = 8191) : MskOk m := by
  rcases h with rfl | rfl | rfl | rfl | rfl | rfl
  · exact ⟨3, rfl, by omega, by omega⟩
  · exact ⟨5, rfl, by omega, by omega⟩
  · exact ⟨7, rfl, by omega, by omega⟩
  · exact ⟨9, rfl, by omega, by omega⟩
  · exact ⟨11, rfl, by omega, by omega⟩
  · exact ⟨13, rfl, by omega, by omega⟩
/-- how tables grow -/
theorem grow_to {m n : Nat} (h : m = 7 ∨ m = 31 ∨ m = 127 ∨ m = 511 ∨ m = 2047 ∨ m = 8191) (h1 : n * 5 < m * 3) (h2 : m * 3 ≤ (n + 1) * 5) (h3 : n + 1 < 4096) :
    ∃ M, SetTable.sizeAbove (SetTable.grown (n + 1)) = M + 1 ∧ (M = 7 ∨ M = 31 ∨ M = 127 ∨ M = 511 ∨ M = 2047 ∨ M = 8191) ∧ (n + 1) * 5 < M * 3 := by
  have c : (m = 7 ∧ n = 4) ∨ (m = 31 ∧ n = 18) ∨ (m = 127 ∧ n = 76) ∨ (m = 511 ∧ n = 306) ∨ (m = 2047 ∧ n = 1228) := by omega
  rcases c with ⟨_, rfl⟩ | ⟨_, rfl⟩ | ⟨_, rfl⟩ | ⟨_, rfl⟩ | ⟨_, rfl⟩
  · exact ⟨31, by decide +kernel, by omega, by omega⟩
  · exact ⟨127, by decide +kernel, by omega, by omega⟩
  · exact ⟨511, by decide +kernel, by omega, by omega⟩
  · exact ⟨2047, by decide +kernel, by omega, by omega⟩
  · exact ⟨8191, by decide +kernel, by omega, by omega⟩
theorem rows_order (w : World) (L : List NK) (es : Array (Int × Value)) (order : Array Nat) (hr : es.toList = rowsN w L) (hp : order.toList.Perm (List.range L.length)) :
    ∃ L2, (order.filterMap (es[·]?)).toList = rowsN w L2 ∧ L2.Perm L := by
  have key : ∀ l : List Nat, l.filterMap (fun i => es[i]?) = rowsN w (l.filterMap fun i => L[i]?) := by
    intro l
    induction l with
    | nil => rfl
    | cons i l ih =>
      have e : es[i]? = (L[i]?).map fun p => (p.2.hash w, Value.ref p.1) := by
        rw [← Array.getElem?_toList, hr, rowsN, List.getElem?_map]
      rw [List.filterMap_cons, List.filterMap_cons, e]
      cases L[i]? with
      | none => exact ih
      | some p => rw [Option.map_some, ih]; rfl
  have full : ∀ n, n ≤ L.length → (List.range n).filterMap (fun i => L[i]?) = L.take n := by
    intro n
    induction n with
    | zero => intro _; rfl
    | succ n ih =>
      intro hn
      rw [List.range_succ, List.filterMap_append, ih (by omega), List.take_succ, List.getElem?_eq_getElem hn]
      simp [List.getElem?_eq_getElem hn]
  refine ⟨order.toList.filterMap fun i => L[i]?, ?_, ?_⟩
  · rw [Array.toList_filterMap]; exact key _
  · have := hp.filterMap fun i => L[i]?
    rwa [full L.length (Nat.le_refl _), List.take_length] at this
section
variable {P : Program} {w : World} {A : Around} {E : Value → Shared → Prop} {s : Shared} {a : Addr} {L : List NK} {es : Array (Int × Value)} {ep : Nat} {t : SetTable}
theorem relayN {o : Obj} (ho : s.heap.get? a = some o) (hex : o.ExactSet) (hd : o.data = .set es ep t) (hrows : es.toList = rowsN w L) (T : TabN t L.length) (hfl : L.length ≤ t.mask)
    (tup : ∀ p ∈ L, IsN P w s.heap p.2 p.1) (few : L.length < 4096) {wanted M : Nat} (hw : SetTable.sizeAbove wanted = M + 1) (hM : M = 7 ∨ M = 31 ∨ M = 127 ∨ M = 511 ∨ M = 2047 ∨ M = 8191) (hn : L.length * 5 < M * 3) {Q : Unit → Shared → Prop}
    (hQ : ∀ h' L' es' ep' t', Heap.SameBut a s.heap h' → SetN P w h' a L' es' ep' t' → L'.Perm L → Q () { s with heap := h' }) : wpAny (model P w) A (setRelay a wanted) Q E s := by
  have hsl : es.size = L.length := by rw [← Array.length_toList, hrows, rowsN, List.length_map]
  have hfits : t.fits es.size = true := by
    unfold SetTable.fits SetTable.fill
    rw [T.dm, Bool.and_eq_true, beq_iff_eq, decide_eq_true_eq]
    have := T.sz
    show t.place.size = es.size ∧ t.place.size + 0 ≤ t.mask
    omega
  obtain ⟨t', order, e, hp, T', em, el, _⟩ := relaidN t (hs := es.map (·.1)) (wanted := wanted) (M := M) (by omega) (msk_list hM) (by rw [Array.size_map, hsl]; omega)
  rw [Array.size_map, hsl] at hp T'
  obtain ⟨L2, r1, r2⟩ := rows_order w L es order hrows hp
  have hs2 : (order.filterMap (es[·]?)).size = L.length := by rw [← Array.length_toList, r1, rowsN, List.length_map, r2.length_eq]
  rw [setRelay_eq]
  refine wpAny_bind (wpAny_setState_of ho hd hfits ?_)
  dsimp only
  refine wp_if_neg (by rw [sizeLine_eq]; omega) ?_
  try refine wpAny_bind (wpAny_pure ?_)
  rw [e]
  dsimp only
  refine wpAny_bind ?_
  refine wp_if_neg (by rw [hs2, hsl]; simp) ?_
  try refine wpAny_bind (wpAny_pure ?_)
  refine wpAny_pure ?_
  dsimp only
  refine wpAny_storeSet_of ho hd ?_ (by rw [hs2, sizeLine_eq]; omega)
  have sb : Heap.SameBut a s.heap (s.heap.update a (Obj.putSet (order.filterMap (es[·]?)) t')) := Heap.SameBut.update ..
  refine hQ _ L2 (order.filterMap (es[·]?)) (ep + 1) t' sb ?_ r2
  exact ⟨⟨_, store_at ho hd, ⟨hex.1, hex.2.1, hex.2.2⟩, rfl⟩, r1, by rw [r2.length_eq]; exact T', fun p hpm => isN_set (tup p (r2.mem_iff.mp hpm)) ho hd sb, by rw [r2.length_eq, em]; exact hn, by rw [r2.length_eq]; exact few, by rw [em]; exact hM⟩
/-- one more -/
theorem addN (R : SetN P w s.heap a L es ep t) {x : Addr} {k : NestedKey} (hx : IsN P w s.heap k x) (hu : A.units + 8 < cLine) (hnew : ∀ p ∈ L, p.2 ≠ k) (hfew : L.length + 1 < 4096) {Q : Bool → Shared → Prop}
    (hQ : ∀ b h' L' es' ep' t', Heap.SameBut a s.heap h' → SetN P w h' a L' es' ep' t' → L'.Perm ((x, k) :: L) → Q b { s with heap := h' }) :
    wpAny (model P w) A (setAddHashed a (.ref x) (k.hash w)) Q E s := by
  obtain ⟨o, ho, hex, hd⟩ := R.ob
  have hsl := R.size
  have hroom := R.room
  unfold setAddHashed
  refine wpAny_holding ?_
  rw [show (100000 : Nat) = 99999 + 1 from rfl, setAddHashedIn_succ]
  refine wpAny_bind (wpAny_setState_of ho hd R.fits ?_)
  dsimp only
  refine wp_if_neg (by simp [byScan, Value.scannable]) ?_
  try refine wpAny_bind (wpAny_pure ?_)
  refine wpAny_bind (searchN_at R hx hu hnew fun j hj nj => ?_)
  dsimp only
  refine wpAny_bind (wpAny_setState_of ho hd R.fits ?_)
  dsimp only
  obtain ⟨q1, q2, q3, q4, q5, q6⟩ := R.tab.put hj nj
  generalize t.put j = pt at q1 q2 q3 q4 q5 q6 ⊢
  obtain ⟨t1, p⟩ := pt
  dsimp only at q1 q2 q3 q4 q5 q6 ⊢
  have hin : (SetTable.insertAt es p (k.hash w, Value.ref x)).toList = rowsN w (L.take p ++ (x, k) :: L.drop p) := by
    rw [SetTable.toList_insertAt, R.rows, rowsN, rowsN, List.map_append, List.map_cons, List.map_take, List.map_drop]
  have pm := put_perm L p (x, k)
  have hlen : (L.take p ++ (x, k) :: L.drop p).length = L.length + 1 := pm.length_eq
  generalize L.take p ++ (x, k) :: L.drop p = L1 at pm hlen hin
  have hes : (SetTable.insertAt es p (k.hash w, Value.ref x)).size = L.length + 1 := by rw [← Array.length_toList, hin, rowsN, List.length_map, hlen]
  generalize SetTable.insertAt es p (k.hash w, Value.ref x) = es1 at hin hes ⊢
  have go : ∀ t2 : SetTable, TabN t2 (L.length + 1) → t2.mask = t.mask → t2.fill = L.length + 1 → wpAny (model P w) A (do
      storeSet a es1 t2
      if (!false && t2.tooFull) = true then setRelay a (SetTable.grown (es.size + 1))
      return true) Q E s := fun t2 T2 m2 f2 => by
    refine wpAny_bind (wpAny_storeSet_of ho hd ?_ (by rw [hes, sizeLine_eq]; omega))
    have sb : Heap.SameBut a s.heap (s.heap.update a (Obj.putSet es1 t2)) := Heap.SameBut.update ..
    have ho1 := store_at (es' := es1) (t' := t2) ho hd
    generalize s.heap.update a (Obj.putSet es1 t2) = h1 at sb ho1 ⊢
    have tup1 : ∀ p ∈ L1, IsN P w h1 p.2 p.1 := fun p hp => by
      rcases List.mem_cons.mp (pm.mem_iff.mp hp) with e | hp
      · rw [e]; exact isN_set hx ho hd sb
      · exact isN_set (R.tup p hp) ho hd sb
    by_cases hf : t2.tooFull = true
    · first
        | (refine wpAny_bind ?_; refine wp_if_pos (by simp [hf]) ?_)
        | (refine wp_if_pos (by simp [hf]) ?_; refine wpAny_bind ?_)
      have hfull : t.mask * 3 ≤ (L.length + 1) * 5 := by
        have h := hf
        unfold SetTable.tooFull at h
        rw [decide_eq_true_eq, f2, m2] at h
        exact h
      rw [hsl]
      obtain ⟨M, g1, g2, g3⟩ := grow_to R.ms hroom hfull hfew
      have := (msk_cases R.tab.mok).2.1
      refine relayN (s := { s with heap := h1 }) ho1 ⟨hex.1, hex.2.1, hex.2.2⟩ rfl hin (by rw [hlen]; exact T2) (by rw [hlen, m2]; omega) tup1 (by rw [hlen]; exact hfew) g1 g2 (by rw [hlen]; exact g3) ?_
      intro h2 L2 es2 ep2 t2 sb2 R2 pm2
      exact wpAny_pure (hQ true h2 L2 es2 ep2 t2 (sb.trans sb2) R2 (pm2.trans pm))
    · first
        | refine wp_if_neg (by simp [hf]) ?_
        | (refine wpAny_bind ?_; refine wp_if_neg (by simp [hf]) ?_; refine wpAny_pure ?_)
      refine wpAny_pure (hQ true h1 L1 es1 (ep + 1) t2 sb ⟨⟨_, ho1, ⟨hex.1, hex.2.1, hex.2.2⟩, rfl⟩, hin, by rw [hlen]; exact T2, tup1, ?_, by rw [hlen]; exact hfew, by rw [m2]; exact R.ms⟩ pm)
      have h := hf
      unfold SetTable.tooFull at h
      rw [decide_eq_true_eq, f2] at h
      rw [hlen]
      omega
  by_cases hp1 : t1.plain = true
  · first
      | (refine wpAny_bind ?_; refine wp_if_pos hp1 ?_; refine hby_key _ _ 8 _ hx.1 hx.2 _ _ _ fun b => ?_)
      | refine wp_if_pos hp1 (wpAny_bind (hby_key _ _ 8 _ hx.1 hx.2 _ _ _ fun b => ?_))
    cases b with
    | true => exact go t1 q1 q2 q5
    | false => exact go { t1 with plain := false } ⟨q1.ris, q1.dm, q1.sz, q1.mok, q1.bd⟩ q2 q5
  · first
      | (refine wpAny_bind ?_; refine wp_if_neg hp1 ?_; refine wpAny_pure ?_)
      | refine wp_if_neg hp1 (wpAny_bind (wpAny_pure ?_))
    exact go t1 q1 q2 q5
end
end Mt

set_option Elab.async false
set_option linter.all false
set_option maxRecDepth 100000
set_option maxHeartbeats 4000000
/-! len(set(t)), t a tuple of nested tuples, all unlike. -/
namespace Mt
open PySem PySem.Spec PyProof.Rows L2
theorem setN_fresh {P : Program} {w : World} {h : Heap} {a : Addr} (ho : h.get? a = some (noSet w)) : SetN P w h a [] #[] 0 (.fresh 0 0 (!w.params.followText "set-order")) where
  ob := ⟨_, ho, ⟨rfl, rfl, rfl⟩, rfl⟩
  rows := rfl
  tab := ⟨List.Pairwise.nil, rfl, rfl, msk_list (.inl rfl), fun x hx => (by cases hx)⟩
  tup := fun p hp => (by cases hp)
  room := by show 0 * 5 < 7 * 3; decide
  few := by show 0 < 4096; decide
  ms := .inl rfl
section
variable {P : Program} {w : World} {A : Around} {E : Value → Shared → Prop} {s : Shared}
theorem SetN.keep {h h' : Heap} {a : Addr} {L : List NK} {es : Array (Int × Value)} {ep : Nat} {t : SetTable} (R : SetN P w h a L es ep t) (ha : ∀ o, h.get? a = some o → h'.get? a = some o) (ht : ∀ p ∈ L, IsN P w h' p.2 p.1) : SetN P w h' a L es ep t := by
  obtain ⟨o, ho, r⟩ := R.ob
  exact ⟨⟨o, ha o ho, r⟩, R.rows, R.tab, ht, R.room, R.few, R.ms⟩
theorem updateN {I : Addr} {fp wr : List Addr} {G : Array GenState → Array GenState → Prop} {n : Nat} {Pv : Nat → Value → Prop} {St : Nat → Shared → Prop} {R : Result → Shared → Prop}
    (W : WalksS P w A.in1 I fp wr G n Pv St) (S : Addr) (hSf : S ∉ fp) (ks : List NK) (hn : n = ks.length) (hfew : ks.length < 4096) (hnd : (ks.map (·.2)).Nodup) (hval : ∀ i v, Pv i v → ∃ p, ks[i]? = some p ∧ v = .ref p.1)
    (h0 : Heap) (hk : ∀ p ∈ ks, IsN P w h0 p.2 p.1) (hS0 : h0.get? S = none) (hw0 : ∀ b ∈ wr, h0.get? b = none) (hu : A.in1.units + 8 < cLine) :
    ∀ (k i : Nat) (s : Shared), n - i = k → i ≤ n → St i s → (∀ b o, h0.get? b = some o → s.heap.get? b = some o) → (∃ L es ep t, SetN P w s.heap S L es ep t ∧ L.Perm (ks.take i)) →
      (∀ s' L es ep t, Moved (S :: wr) G s s' → SetN P w s'.heap S L es ep t → L.Perm ks → (∀ b o, h0.get? b = some o → s'.heap.get? b = some o) → R (.ok (.ret .none)) s') →
      codeAny (model P w) A (.builtin "set.update.loop" ⟨[.ref S, .ref I], []⟩) R s := by
  have hSw : S ∉ wr := fun h => hSf (W.sub _ h)
  have hsub : ∀ b ∈ wr, b ∈ S :: wr := fun b hb => List.mem_cons_of_mem _ hb
  have keepM : ∀ {s s' : Shared}, Moved wr G s s' → (∀ b o, h0.get? b = some o → s.heap.get? b = some o) → ∀ b o, h0.get? b = some o → s'.heap.get? b = some o := fun hm hkp b o e =>
    hm.heap b o (fun hb => by rw [hw0 b hb] at e; cases e) (hkp b o e)
  intro k
  induction k with
  | zero =>
    intro i s hk' hi hst hkp ⟨L, es, ep, t, hS, g⟩ hR
    obtain rfl : i = n := by omega
    refine codeAny_builtin F.entry_set_update_loop ?_
    rw [Around.under_plainId F.plain_set_update_loop _]
    show wpAny _ A.in1 (pyNext (.ref I) >>= _) _ _ s
    refine wpAny_bind (W.done s _ _ hst fun s' hm => ?_)
    show wpAny _ A.in1 (ret Value.none) _ _ s'
    have hkp' := keepM hm hkp
    rw [hn, List.take_length] at g
    exact wpAny_pure (hR s' L es ep t (hm.mono hsub) (hS.keep (fun o e => hm.heap S o hSw e) fun p hp => isN_keep (hk p (g.mem_iff.mp hp)) hkp') g hkp')
  | succ k ih =>
    intro i s hk' hi hst hkp ⟨L, es, ep, t, hS, g⟩ hR
    have hlt : i < n := by omega
    refine codeAny_builtin F.entry_set_update_loop ?_
    rw [Around.under_plainId F.plain_set_update_loop _]
    show wpAny _ A.in1 (pyNext (.ref I) >>= _) _ _ s
    refine wpAny_bind (W.item i s _ _ hlt hst fun v s' hP hst' hm => ?_)
    obtain ⟨p, hp, rfl⟩ := hval i v hP
    have hkp' := keepM hm hkp
    have sub : ∀ p ∈ L, p ∈ ks := fun p hp => List.mem_of_mem_take (g.mem_iff.mp hp)
    have hS' : SetN P w s'.heap S L es ep t := hS.keep (fun o e => hm.heap S o hSw e) fun q hq => isN_keep (hk q (sub q hq)) hkp'
    have hx : IsN P w s'.heap p.2 p.1 := isN_keep (hk p (List.mem_of_getElem? hp)) hkp'
    have hl : L.length = i := by rw [g.length_eq, List.length_take]; omega
    have hnew : ∀ q ∈ L, q.2 ≠ p.2 := fun q hq e => by
      have hq' := g.mem_iff.mp hq
      obtain ⟨j, hj, ej⟩ := List.getElem_of_mem hq'
      rw [List.length_take] at hj
      rw [List.getElem_take] at ej
      obtain ⟨hi', ei⟩ := List.getElem?_eq_some_iff.mp hp
      have := List.pairwise_iff_getElem.mp hnd j i (by rw [List.length_map]; omega) (by rw [List.length_map]; omega) (by omega)
      rw [List.getElem_map, List.getElem_map, ej, ei] at this
      exact this e
    show wpAny _ A.in1 (holding [Value.ref p.1] (setAdd S (.ref p.1)) >>= _) _ _ s'
    refine wpAny_bind (wpAny_holding ?_)
    unfold setAdd
    refine wpAny_holding ?_
    refine wpAny_bind ((nestedKind P w).pyHash hu hx ?_)
    refine addN (s := { s' with toks := s'.toks + (nestedKind P w).draws p.2 }) hS' hx hu hnew (by omega) fun b h' L' es' ep' t' hsb hS2 c2 => ?_
    have g' : L'.Perm (ks.take (i + 1)) := by
      rw [take_next hp]
      exact c2.trans ((g.cons p).trans (List.perm_append_singleton p _).symm)
    have hkp2 : ∀ b o, h0.get? b = some o → h'.get? b = some o := fun b o e => (hsb.2 b (fun z => by rw [z, hS0] at e; cases e)).trans (hkp' b o e)
    refine wpAny_pure ⟨plainId_quiet F.plain_set_update_loop _, ih (i + 1) _ (by omega) hlt (W.frame _ s' _ _ hst' (Nat.le_add_right _ _) fun b hb o e => ?_) hkp2 ⟨L', es', ep', t', hS2, g'⟩ fun s'' L2 es2 ep2 t2 hm'' hS'' g'' hkp'' => ?_⟩
    · rw [hsb.2 b (fun h : b = S => hSf (by rw [← h]; exact hb))]; exact e
    · refine hR s'' L2 es2 ep2 t2 (Moved.trans W.gtrans ((hm.mono hsub).then_heap (Nat.le_add_right _ _) fun b o hb e => ?_) hm'') hS'' g'' hkp''
      rw [hsb.2 b (fun h : b = S => hb (by rw [h]; exact List.mem_cons_self))]; exact e
/-- what the set is made of has been walked -/
def DoneN (P : Program) (w : World) (h0 h' : Heap) (S : Addr) (ks : List NK) : Prop := ∃ L es ep t, SetN P w h' S L es ep t ∧ L.Perm ks ∧ ∀ b o, h0.get? b = some o → h'.get? b = some o
theorem loop_setN {l : Addr} {items : Array Value} (ks : List NK) {R : Result → Shared → Prop} (hh : A.handled = none) (hl : s.heap.IsTuple l items) (hit : items.toList = ks.map fun p => Value.ref p.1) (hk : ∀ p ∈ ks, IsN P w s.heap p.2 p.1) (hfew : ks.length < 4096) (hnd : (ks.map (·.2)).Nodup) (hu : A.in1.units + 8 < cLine)
    (h : ∀ (h' : Heap) (tk : Nat), DoneN P w s.heap h' s.heap.objs.size ks → R (.ok (.ret .none)) { s with heap := h', toks := tk }) :
    codeAny (model P w) A (.builtin "set.update.loop" ⟨[.ref s.heap.objs.size, .ref (s.heap.push (noSet w)).objs.size], []⟩) R { s with heap := (s.heap.push (noSet w)).push { cls := .type "tuple_iterator", data := .fields #[.ref l, .int 0 0] } } := by
  have hn : items.size = ks.length := by rw [← Array.length_toList, hit, List.length_map]
  have hz : (s.heap.push (noSet w)).objs.size = s.heap.objs.size + 1 := Heap.size_push ..
  have hlS : l < s.heap.objs.size := by obtain ⟨o, ho, _⟩ := hl; exact Heap.lt_size ho
  have out : ∀ b, s.heap.objs.size ≤ b → s.heap.get? b = none := fun b hb => by
    cases q : s.heap.get? b with
    | none => rfl
    | some o => exact absurd (Heap.lt_size q) (Nat.not_lt.mpr hb)
  have hSf : s.heap.objs.size ∉ [(s.heap.push (noSet w)).objs.size, l] := by
    rw [hz]
    simp only [List.mem_cons, List.not_mem_nil, or_false, not_or]
    exact ⟨Nat.ne_of_lt (Nat.lt_succ_self _), Nat.ne_of_gt hlS⟩
  have hS : ((s.heap.push (noSet w)).push { cls := .type "tuple_iterator", data := .fields #[.ref l, .int 0 0] }).get? s.heap.objs.size = some (noSet w) := Heap.get?_push_of_some _ (Heap.get?_push_size _ rfl)
  refine updateN ((Walks.tuple (A := A.in1) (by simp [hh]) _ l (by rw [hz]; exact Nat.ne_of_lt (Nat.lt_succ_of_lt hlS)) items).toS) s.heap.objs.size hSf ks hn hfew hnd (fun i v hv => ?_) s.heap hk (out _ (Nat.le_refl _)) (fun b hb => out b ?_) hu items.size 0 _ (Nat.sub_zero _) (Nat.zero_le _) ⟨⟨_, Heap.get?_push_size _ rfl, rfl, rfl⟩, (hl.push _).push _⟩ (fun b o e => Heap.get?_push_of_some _ (Heap.get?_push_of_some _ e)) ⟨[], #[], 0, _, setN_fresh hS, List.Perm.nil⟩ ?_
  · have q : items.toList[i]? = some v := by rw [Array.getElem?_toList]; exact hv
    rw [hit, List.getElem?_map] at q
    cases hq : ks[i]? with
    | none => rw [hq] at q; cases q
    | some p => rw [hq] at q; exact ⟨p, rfl, (Option.some.inj q).symm⟩
  · rw [List.mem_singleton.mp hb, hz]; exact Nat.le_succ _
  · intro s' L es ep t hm R' g' hkp
    obtain ⟨h', g2, d', tk', os'⟩ := s'
    obtain rfl : g2 = s.gens := hm.gens
    obtain rfl : d' = s.drawn := hm.drawn
    obtain rfl : os' = s.os := hm.os
    exact h h' tk' ⟨L, es, ep, t, R', g', hkp⟩
set_option maxHeartbeats 3200000 in
theorem call_set_N {l : Addr} {items : Array Value} (ks : List NK) {Q : Value → Shared → Prop} (hh : A.handled = none) (hl : s.heap.IsTuple l items) (hit : items.toList = ks.map fun p => Value.ref p.1) (hk : ∀ p ∈ ks, IsN P w s.heap p.2 p.1) (hfew : ks.length < 4096) (hnd : (ks.map (·.2)).Nodup) (hu : A.units + 20 < cLine)
    (h : ∀ (h' : Heap) (tk : Nat), DoneN P w s.heap h' s.heap.objs.size ks → Q (.ref s.heap.objs.size) { s with heap := h', toks := tk }) : wpAny (model P w) A (call (.type "set") [.ref l]) Q E s := by
  obtain ⟨c, tl, hmro⟩ := F.called_set.mro
  have f1 := F.called_set.made
  have f2 := F.called_set.sub
  refine wpAny_call (codeAny_of_tree (wpAny_pure ⟨Code.quiet_builtin _ (by decide +kernel), codeAny_builtin F.entry_type_call ?_⟩))
  rw [Around.under_plain (weight_type_call_type "set" [.ref l] []) rfl]
  have f3 := F.called_set.notType
  have f4 := F.called_set.canCreate
  have f5 := F.typeCall_set_1 (.ref l)
  repeat (any_goals (first | assumption | wp_step))
  refine codeAny_mono (code_set_led1 (.ref l) (E := E) (Q₁ := fun obj s₁ => obj = .ref s.heap.objs.size ∧ s₁ = { s with heap := s.heap.push (noSet w) }) ⟨rfl, rfl⟩) fun r s₁ hr => ?_
  cases r with
  | error e => exact hr
  | ok fl =>
    cases fl with
    | ret obj =>
      obtain ⟨rfl, rfl⟩ := hr
      have hT : Shared.TypeIs { s with heap := s.heap.push (noSet w) } (.ref s.heap.objs.size) "set" := ⟨_, Heap.get?_push_size _ rfl, rfl⟩
      have f6 := F.called_set.init.lookup
      have f7 := F.called_set.init.bind (.ref s.heap.objs.size)
      repeat (any_goals (first | assumption | wp_step))
      refine codeAny_mono (codeAny_call_builtin (R := wants (fun r s₂ => r = .none ∧ ∃ h' tk, s₂ = { s with heap := h', toks := tk } ∧ DoneN P w s.heap h' s.heap.objs.size ks) E) F.called_set.init.plain F.entry_set_init (check_set_init_1 hT ?_)) fun r₂ s₂ hr₂ => ?_
      · have hl1 : (s.heap.push (noSet w)).IsTuple l items := hl.push _
        obtain ⟨ol, hol, hcl, nl, hdl⟩ := hl
        obtain ⟨ocls, odict, odata, oslots⟩ := ol
        simp only at hcl hdl
        subst hcl; subst hdl
        have g0 := hol
        have g1 : (s.heap.push (noSet w)).get? l = some { cls := .type "tuple", dict := odict, data := .seq items nl, slots := oslots } := Heap.get?_push_of_some _ hol
        have g2 := F.sub_tuple_set
        have g3 := F.sub_tuple_frozenset
        have g4 : (Value.type "tuple" == Value.type "dict") = false := by decide
        unfold Builtin.«set.__init__» noKeywords Builtin.Frozenset.updateFrom
        generalize hPI : pyIter = PI
        wp_walk
        subst hPI
        refine wpAny_pyIter_tuple hl1 (wpAny_bind (wpAny_runValue ?_))
        refine loop_setN ks (by simp [hh]) ⟨_, g0, rfl, nl, rfl⟩ hit hk hfew hnd (by simp only [Around.in1] at *; omega) fun h' tk z => ?_
        exact wpAny_pure (wpAny_pure ⟨rfl, h', tk, rfl, z⟩)
      · cases r₂ with
        | error e => exact hr₂
        | ok fl₂ =>
          cases fl₂ with
          | ret r =>
            obtain ⟨rfl, h', tk, rfl, z⟩ := hr₂
            repeat (any_goals (first | assumption | wp_step))
            exact h _ _ z
          | _ => exact hr₂.elim
    | _ => exact hr.elim
end
end Mt

set_option Elab.async false
set_option linter.all false
set_option maxRecDepth 100000
set_option maxHeartbeats 4000000
/-! len(set(t)): the data's side. -/
namespace Mt
open PySem PySem.Spec PyProof.Rows L2
mutual
/-- data as a key, up to == -/
def nkey : D → NestedKey
  | .none => .none
  | .bool b => .num (if b = true then 1 else 0)
  | .int i => .num i
  | .str x => .text x
  | .tuple ds => .tup (nkeys ds)
  | .list _ => .none
  | .dict _ => .none
def nkeys : List D → List NestedKey
  | [] => []
  | d :: ds => nkey d :: nkeys ds
end
theorem nkeys_map : ∀ ds : List D, nkeys ds = ds.map nkey
  | [] => rfl
  | d :: ds => by rw [nkeys, List.map_cons, nkeys_map ds]
mutual
theorem nk_is {h : Heap} : ∀ (d : D) (u : Value) (as : List Addr), flat d = true → Reads h u d as → NestedIs h (nkey d) u
  | .none, _, _, _, r => by cases r; exact .none
  | .bool b, _, _, _, r => by cases r; exact .bool rfl
  | .int i, _, _, _, r => by cases r; exact .int _ _
  | .str x, _, _, _, r => by cases r; exact .text _ _
  | .tuple ds, _, _, f, r => by
    cases r with
    | tuple h1 h2 h3 h4 => exact .tup h1 h2 h3 (nks_are ds _ _ (by simpa [flat] using f) h4)
  | .list _, _, _, f, _ => by simp [flat] at f
  | .dict _, _, _, f, _ => by simp [flat] at f
theorem nks_are {h : Heap} : ∀ (ds : List D) (us : List Value) (as : List Addr), flatAll ds = true → ReadsAll h us ds as → NestedAll h (nkeys ds) us
  | [], _, _, _, r => by cases r; exact .nil
  | d :: ds, _, _, f, r => by
    have f' : flat d = true ∧ flatAll ds = true := by simpa [flatAll] using f
    cases r with
    | cons a b => exact .cons (nk_is d _ _ f'.1 a) (nks_are ds _ _ f'.2 b)
end
/-- a row of unlike tuples, few enough -/
def unlike (ds : List D) : Bool := flatAll ds && ds.all PyData.isTuple && decide (ds.length < 4096) && ds.all (fun d => decide ((nkey d).depth ≤ 8)) && decide ((ds.map nkey).Nodup)
theorem nk_row {P : Program} {w : World} {h : Heap} : ∀ {ds : List D} {us : List Value} {as : List Addr}, flatAll ds = true → ds.all PyData.isTuple = true → ds.all (fun d => decide ((nkey d).depth ≤ 8)) = true → ReadsAll h us ds as →
    ∃ ks : List NK, us = ks.map (fun p => Value.ref p.1) ∧ ks.map (·.2) = ds.map nkey ∧ ∀ p ∈ ks, IsN P w h p.2 p.1
  | [], _, _, _, _, _, r => by cases r; exact ⟨[], rfl, rfl, fun p hp => nomatch hp⟩
  | d :: ds, _, _, f, t, q, r => by
    have f' : flat d = true ∧ flatAll ds = true := by simpa [flatAll] using f
    rw [List.all_cons, Bool.and_eq_true] at t q
    cases r with
    | cons a b =>
      obtain ⟨ks, e1, e2, e3⟩ := nk_row (P := P) (w := w) f'.2 t.2 q.2 b
      have hn := nk_is d _ _ f'.1 a
      cases d with
      | tuple xs =>
        cases a with
        | tuple h1 h2 h3 h4 =>
          refine ⟨(_, nkey (.tuple xs)) :: ks, by rw [List.map_cons, e1], by rw [List.map_cons, List.map_cons, e2], fun p hp => ?_⟩
          rcases List.mem_cons.mp hp with e | hp
          · rw [e]; exact ⟨hn, of_decide_eq_true q.1⟩
          · exact e3 p hp
      | _ => exact absurd t.1 (by simp [PyData.isTuple])
section
variable {X : Cx}
def tLenSetN (K : PySem.W.Frag) (ta : TE) : TE := fun σ H Q => ta σ H fun x H1 => ∃ (l : Addr) (ds : List D), x = V.ref l ∧ Dp K H1 (V.ref l) (.tuple ds) ∧ unlike ds = true ∧ Q (.int ds.length) H1
theorem pe_lenSetN {a : Expr} {ta : TE} {p p2 q pos : Pos} (hc : X.calm = true) (hu : X.A.units + 64 < cLine) (hg : Gl X "len") (hm : X.mg "len" = none) (hg2 : Gl X "set") (hm2 : X.mg "set" = none) (ha : PE X a ta)
    (na : starEach [a] X.env = (false, eval a X.env) :: starEach [] X.env := by rfl) : PE X (.Call (.Name "len" p) [.Call (.Name "set" p2) [a] [] q] [] pos) (tLenSetN X.K ta) := by
  refine ⟨fun pins s σ H Q I h => ?_⟩
  refine Call_ (ld_blt I hg hm PySem.boot_len ?_)
  refine PyProof.Rows.callWith_builtin1 (PyProof.Rows.args_cons ?_ rfl) rfl rfl
  refine Call_ (ld_blt I hg2 hm2 PyProof.Rows.boot_set ?_)
  refine PyProof.Rows.callWith_type1 (PyProof.Rows.args_cons (thn (ha.run pins s σ H _ I h) fun v s1 ⟨x, H1, I1, r1, q1⟩ => PyProof.Rows.args_nil ?_) na) na rfl
  obtain ⟨l, ds, rfl, hq, hun, q1⟩ := q1
  cases r1
  obtain ⟨as, rd⟩ := Dp.reads I1 _ _ (.ref l) hq rfl
  unfold unlike at hun
  simp only [Bool.and_eq_true, decide_eq_true_eq] at hun
  obtain ⟨⟨⟨⟨u1, u2⟩, u3⟩, u4⟩, u5⟩ := hun
  cases rd with
  | @tuple _ o vs n _ as h1 h2 h3 h4 =>
    obtain ⟨ks, e1, e2, e3⟩ := nk_row (P := X.prog) (w := X.w) u1 u2 u4 h4
    have hl : ks.length = ds.length := by have := congrArg List.length e2; simpa using this
    refine call_set_N (P := X.prog) (w := X.w) ks (I1.ok.hd hc) ⟨o, h1, h2, n, h3⟩ e1 e3 (by omega) (by rw [e2]; exact u5) (by omega) fun h' tk ⟨L, es, ep, t, R, g, hk⟩ => ?_
    refine PyProof.Rows.args_nil ?_
    obtain ⟨o', ho, hex, hd⟩ := R.ob
    have I2 : Inv X pins σ H1 { s1 with heap := h', toks := tk } := I1.kept fun b o e => hk b o e
    have hn : es.size = ds.length := by rw [R.size, g.length_eq, hl]
    refine call_len_set ho hex hd R.fits (by rw [hn]; omega) ⟨.int ds.length, H1, I2.tok _, ⟨_, by rw [hn]⟩, q1⟩
end
end Mt

set_option Elab.async false
set_option linter.all false
set_option maxRecDepth 100000
set_option maxHeartbeats 4000000
/-! The core: expressions over data, what they are worth, and when a piece of the text is one. -/
namespace Mt
open PySem PySem.Spec PyProof.Rows L2
inductive Sl where
  | imm (d : D) | own (ds : List D) | dead
abbrev Sg := List Sl
inductive Ty where
  | int | bool | str | tuple | list
/-- shapes of one part, of two parts -/
inductive X1 where
  | lrg | sset | str | lenSet
inductive X2 where
  | lrg2 | lidx | lcnt
/-- core expressions; nil and cons: lists of such -/
inductive C where
  | var (i : Nat) | cI (i : Int) | cB (b : Bool) | cN | cS (x : Str) | gI (x : Str) (i : Int) | gS (x y : Str)
  | tup (a : C) | lst (a : C) | bin (op : Operator) (a b : C) | neg (a : C)
  | cmp (op : CmpOp) (a b : C) | ch (op op2 : CmpOp) (a b c : C) | and (a : C) | or (a : C) | not (a : C)
  | ix (a b : C) | sl (a lo hi : C) | rv (a : C) | call (f : Nat) (a : C) | bi (b : Bi) (a : C) | isi (t : Ty) (a : C)
  | lc (e : C) (tg : List Nat) (one : Bool) (it cond : C)
  | x1 (k : X1) (a : C) | x2 (k : X2) (a b : C) | ch3 (op op2 op3 : CmpOp) (a b c d : C)
  | rng1 (a : C) | rng2 (a b : C) | enm (a : C) | zp (a b : C)
  | nil | cons (a b : C)
/-- a function of the text: how many arguments, its worth, whether what it gives is flat -/
structure FnS where
  ar : Nat
  m : List D → R D
  pure : Bool
def rdS (σ : Sg) (i : Nat) : R D := match σ[i]? with
  | some (.imm d) => .ok d
  | some (.own ds) => .ok (.list ds)
  | _ => stk
def rdI (σ : Sg) (i : Nat) : R D := match σ[i]? with
  | some (.imm d) => .ok d
  | _ => stk
def strict (c : C) (σ : Sg) (x : R D) : R D := match c with
  | .var i => rdI σ i
  | _ => x
def negD (d : D) : R D := match d with
  | .int i => .ok (.int (-i))
  | _ => stk
def asB (d : D) : R Bool := match d with
  | .bool b => .ok b
  | _ => stk
def partD (d : D) : R (Option Int) := match d with
  | .int i => .ok (some i)
  | _ => stk
def setAll : Sg → List Nat → List D → Sg
  | σ, i :: is, d :: ds => setAll (σ.set i (.imm d)) is ds
  | σ, _, _ => σ
def bindT (σ : Sg) (tg : List Nat) (one : Bool) (d : D) : R Sg := match one, tg, d with
  | true, [i], d => .ok (σ.set i (.imm d))
  | false, tg, .tuple ds => gd (decide (ds.length = tg.length)) (.ok (setAll σ tg ds))
  | _, _, _ => stk
def wipeS (σ : Sg) : List Nat → Sg
  | [] => σ
  | i :: is => (wipeS σ is).set i .dead
def lcGo (f : D → R (Option D)) : List D → R (List D)
  | [] => .ok []
  | d :: ds => bd (f d) fun o => bd (lcGo f ds) fun rs => .ok (match o with | some r => r :: rs | none => rs)
def isiD (t : Ty) (d : D) : Bool := match t with
  | .int => d.isInt
  | .bool => d.isBool
  | .str => d.isStr
  | .tuple => d.isTuple
  | .list => d.isList
def revD (d : D) : R D := match d with
  | .list ds => .ok (.list ds.reverse)
  | .tuple ds => .ok (.tuple ds.reverse)
  | _ => stk
def rngD (a b : Int) : List D := (List.range (b - a).toNat).map fun (i : Nat) => .int (a + i)
def seqD (d : D) : R (List D) := match d with
  | .list ds => .ok ds
  | .tuple ds => .ok ds
  | _ => stk
def rngOk (a b : D) : R (List D) := match a, b with
  | .int i, .int j => gd (decide (-1000000000 ≤ i) && decide (i ≤ 1000000000) && decide (-1000000000 ≤ j) && decide (j ≤ 1000000000) && decide (j - i ≤ 16777216)) (.ok (rngD i j))
  | _, _ => stk
def listOf (x : R (List D)) : R D := bd x fun ds => .ok (.list ds)
/-- pairs of whole numbers -/
def prsOfD : List D → R (List (Int × Int))
  | [] => .ok []
  | .tuple [.int a, .int b] :: ds => bd (prsOfD ds) fun ps => .ok ((a, b) :: ps)
  | _ :: _ => stk
def codeP (p : Int × Int) : Int := p.1 * 64 + p.2
def insP (p : Int × Int) : List (Int × Int) → List (Int × Int)
  | [] => [p]
  | q :: r => if codeP p < codeP q then p :: q :: r else if codeP p = codeP q then q :: r else q :: insP p r
def ssetP (ps : List (Int × Int)) : List (Int × Int) := ps.foldr insP []
def prD2 (p : Int × Int) : D := .tuple [.int p.1, .int p.2]
def smallP (p : Int × Int) : Bool := decide (0 ≤ p.1) && decide (p.1 < 64) && decide (0 ≤ p.2) && decide (p.2 < 64)
def ssetD (d : D) : R D := bd (seqD d) fun ds => bd (prsOfD ds) fun ps => gd (decide (ps.length < 64) && ps.all smallP) (.ok (.list ((ssetP ps).map prD2)))
def strD (d : D) : R D := match d with
  | .int i => gd (decide (i.natAbs.log2 < 1920)) (.ok (.str (toString i)))
  | _ => stk
def lenSetD (d : D) : R D := match d with
  | .tuple ds => gd (unlike ds) (.ok (.int (ds.length : Nat)))
  | _ => stk
def x1D : X1 → D → R D
  | .lenSet, d => lenSetD d
  | .lrg, d => listOf (rngOk (.int 0) d)
  | .sset, d => ssetD d
  | .str, d => strD d
def shD (d : D) : Bool := SeqAt.shaped d
def intsOfD : List D → R (List Int)
  | [] => .ok []
  | .int i :: ds => bd (intsOfD ds) fun is => .ok (i :: is)
  | _ :: _ => stk
def x2D : X2 → D → D → R D
  | .lrg2, d, e => listOf (rngOk d e)
  | .lidx, .tuple ds, d => gd (shD (.list ds) && shD d) (match ds.findIdx? fun z => PyData.eqv z d with | some j => .ok (.int (j : Nat)) | none => stk)
  | .lidx, .list ds, d => gd (shD (.list ds) && shD d) (match ds.findIdx? fun z => PyData.eqv z d with | some j => .ok (.int (j : Nat)) | none => stk)
  | .lcnt, .list ds, .int k => bd (intsOfD ds) fun is => .ok (.int (is.count k : Nat))
  | _, _, _ => stk
/-- (x0, y0), (x1, y1), .. -/
def zipD (x y : D) : R (List D) := match x, y with
  | .tuple xs, .tuple ys => gd (decide (xs.length = ys.length)) (.ok (List.zipWith (fun a b => .tuple [a, b]) xs ys))
  | _, _ => stk
/-- (0, x0), (1, x1), .. -/
def enumD (ds : List D) : List D := ds.mapIdx fun i d => .tuple [.int (i : Nat), d]
mutual
def ev (Φ : Nat → FnS) : C → Sg → R D
  | .var i, σ => rdS σ i
  | .cI i, _ => .ok (.int i)
  | .cB b, _ => .ok (.bool b)
  | .cN, _ => .ok .none
  | .cS x, _ => .ok (.str x)
  | .gI _ i, _ => .ok (.int i)
  | .gS _ x, _ => .ok (.str x)
  | .tup a, σ => bd (evs Φ a σ) fun ds => .ok (.tuple ds)
  | .lst a, σ => bd (evs Φ a σ) fun ds => .ok (.list ds)
  | .bin op a b, σ => bd (ev Φ a σ) fun x => bd (ev Φ b σ) fun y => binD op x y
  | .neg a, σ => bd (ev Φ a σ) negD
  | .cmp op a b, σ => bd (ev Φ a σ) fun x => bd (ev Φ b σ) fun y => cmpD op x y
  | .ch op op2 a b c, σ => bd (ev Φ a σ) fun x => bd (ev Φ b σ) fun y => bd (cmpD op x y) fun r => bd (asB r) fun k => if k = true then bd (ev Φ c σ) fun z => cmpD op2 y z else .ok (.bool false)
  | .and a, σ => bd (evAnd Φ a σ) fun b => .ok (.bool b)
  | .or a, σ => bd (evOr Φ a σ) fun b => .ok (.bool b)
  | .not a, σ => bd (ev Φ a σ) fun d => bd (asB d) fun b => .ok (.bool (!b))
  | .ix a b, σ => bd (ev Φ a σ) fun x => bd (ev Φ b σ) fun y => ixD x y
  | .sl a lo hi, σ => bd (ev Φ a σ) fun x => bd (evp Φ lo σ) fun l => bd (evp Φ hi σ) fun h => slD x l h
  | .rv a, σ => bd (ev Φ a σ) revD
  | .call f a, σ => bd (evr Φ a σ) fun ds => gd (Φ f).pure ((Φ f).m ds)
  | .bi b a, σ => bd (evr Φ a σ) fun ds => biD b ds
  | .isi t a, σ => bd (ev Φ a σ) fun d => .ok (.bool (isiD t d))
  | .lc e tg one it cond, σ => bd (evIt Φ it σ) fun ds => bd (lcGo (fun d => bd (bindT (wipeS σ tg) tg one d) fun τ => bd (evc Φ cond τ) fun b => if b = true then bd (strict e τ (ev Φ e τ)) fun r => .ok (some r) else .ok none) ds) fun rs => .ok (.list rs)
  | .x1 k a, σ => bd (ev Φ a σ) fun x => x1D k x
  | .x2 k a b, σ => bd (ev Φ a σ) fun x => bd (ev Φ b σ) fun y => x2D k x y
  | .ch3 op op2 op3 a b c e, σ => bd (ev Φ a σ) fun x => bd (ev Φ b σ) fun y => bd (cmpD op x y) fun r => bd (asB r) fun k => if k = true then bd (ev Φ c σ) fun z => bd (cmpD op2 y z) fun r2 => bd (asB r2) fun k2 => if k2 = true then bd (ev Φ e σ) fun w => cmpD op3 z w else .ok (.bool false) else .ok (.bool false)
  | .rng1 _, _ => stk
  | .rng2 _ _, _ => stk
  | .enm _, _ => stk
  | .zp _ _, _ => stk
  | .nil, _ => stk
  | .cons _ _, _ => stk
/-- what is stored -/
def evs (Φ : Nat → FnS) : C → Sg → R (List D)
  | .nil, _ => .ok []
  | .cons a b, σ => bd (strict a σ (ev Φ a σ)) fun d => bd (evs Φ b σ) fun ds => .ok (d :: ds)
  | _, _ => stk
/-- what is read -/
def evr (Φ : Nat → FnS) : C → Sg → R (List D)
  | .nil, _ => .ok []
  | .cons a b, σ => bd (ev Φ a σ) fun d => bd (evr Φ b σ) fun ds => .ok (d :: ds)
  | _, _ => stk
def evAnd (Φ : Nat → FnS) : C → Sg → R Bool
  | .nil, _ => .ok true
  | .cons a b, σ => bd (ev Φ a σ) fun d => bd (asB d) fun k => if k = true then evAnd Φ b σ else .ok false
  | _, _ => stk
def evOr (Φ : Nat → FnS) : C → Sg → R Bool
  | .nil, _ => .ok false
  | .cons a b, σ => bd (ev Φ a σ) fun d => bd (asB d) fun k => if k = true then .ok true else evOr Φ b σ
  | _, _ => stk
/-- a part of a slice -/
def evp (Φ : Nat → FnS) : C → Sg → R (Option Int)
  | .nil, _ => .ok none
  | .cons a _, σ => bd (ev Φ a σ) partD
  | _, _ => stk
/-- a comprehension's test -/
def evc (Φ : Nat → FnS) : C → Sg → R Bool
  | .nil, _ => .ok true
  | .cons a _, σ => bd (ev Φ a σ) asB
  | _, _ => stk
/-- what is walked -/
def evIt (Φ : Nat → FnS) : C → Sg → R (List D)
  | .rng1 a, σ => bd (ev Φ a σ) fun x => rngOk (.int 0) x
  | .rng2 a b, σ => bd (ev Φ a σ) fun x => bd (ev Φ b σ) fun y => rngOk x y
  | .enm a, σ => bd (ev Φ a σ) fun x => bd (seqD x) fun ds => .ok (enumD ds)
  | .zp a b, σ => bd (ev Φ a σ) fun x => bd (ev Φ b σ) fun y => zipD x y
  | .cons a _, σ => bd (ev Φ a σ) seqD
  | _, _ => stk
end
/-! ### the text is that core -/
structure GE where
  gb : List Str
  gi : List (Str × Int)
  gs : List (Str × Str)
  gf : List (Nat × Str)
def nmOk (x : Str) : Bool := !(x == ("__debug__" : Str)) && !(x == ("__classdict__" : Str)) && !(x == ("__name__" : Str))
def visB (sc : Scope) (x : Str) : Bool := match sc.names.lookup x with
  | some .local => true
  | some .cell => true
  | some .free => true
  | _ => false
def locB (sc : Scope) (x : Str) : Bool := match sc.names.lookup x with
  | some .local => true
  | some .cell => true
  | _ => false
def glB (sc : Scope) (x : Str) : Bool := match sc.names.lookup x with
  | some .globalImplicit => true
  | _ => false
def starred : Expr → Bool
  | .Starred _ _ => true
  | _ => false
def tyName : Ty → Str
  | .int => "int" | .bool => "bool" | .str => "str" | .tuple => "tuple" | .list => "list"
def bltOk (G : GE) (sc : Scope) (x : Str) : Bool := glB sc x && G.gb.contains x && nmOk x
def alen : C → Nat
  | .cons _ b => alen b + 1
  | _ => 0
def nmExpr : Expr → Option Str
  | .Name x _ => some x
  | _ => none
/-- the target's names are those in the slots, local in the scope -/
def chkTg (N : List Str) (sc : Scope) : List Nat → List Expr → Bool
  | [], [] => true
  | i :: is, .Name x _ :: es => decide (N[i]? = some x) && locB sc x && chkTg N sc is es
  | _, _ => false
def chkT (N : List Str) (sc : Scope) (tg : List Nat) (one : Bool) (e : Expr) : Bool := match one, e with
  | true, .Name x p => match tg with
    | [i] => chkTg N sc [i] [.Name x p]
    | _ => false
  | false, .Tuple es _ _ => chkTg N sc tg es
  | _, _ => false
def ownOf (N : List Str) (tg : List Nat) : List (Str × Nat) := tg.map fun i => ((N[i]?).getD "", i)
/-- pairs are taken apart -/
def tgOk : C → Expr → Bool
  | .enm _, .Tuple _ _ _ => true
  | .enm _, _ => false
  | .zp _ _, .Tuple _ _ _ => true
  | .zp _ _, _ => false
  | _, _ => true
def isPair : C → Bool
  | .enm _ => true
  | .zp _ _ => true
  | _ => false
theorem pair_one {N : List Str} {sc : Scope} {it : C} {tg : List Nat} {one : Bool} {t : Expr} (hk : tgOk it t = true) (ht : chkT N sc tg one t = true) (h : isPair it = true) : one = false := by
  cases one with
  | false => rfl
  | true =>
    cases it <;> first | (cases h; done) | skip
    · cases t <;> first | (cases hk; done) | (simp [chkT] at ht)
    · cases t <;> first | (cases hk; done) | (simp [chkT] at ht)
/-- an object of which a method is asked -/
def baseOk : Expr → Bool
  | .Name _ _ => true
  | .Subscript _ _ _ => true
  | .ListComp _ _ _ _ => true
  | _ => false
def shX1 (G : GE) (sc : Scope) : X1 → Expr → Option Expr
  | .sset, .Call (.Name x _) [.Call (.Name y _) [e] [] _] [] _ => if (decide (x = "sorted") && bltOk G sc x && decide (y = "set") && bltOk G sc y && !starred e) = true then some e else none
  | .lenSet, .Call (.Name x _) [.Call (.Name y _) [e] [] _] [] _ => if (decide (x = "len") && bltOk G sc x && decide (y = "set") && bltOk G sc y && !starred e) = true then some e else none
  | .str, .Call (.Name x _) [e] [] _ => if (decide (x = "str") && bltOk G sc x && !starred e) = true then some e else none
  | .lrg, .Call (.Name x _) [.Call (.Name y _) [e] [] _] [] _ => if (decide (x = "list") && bltOk G sc x && decide (y = "range") && bltOk G sc y && !starred e) = true then some e else none
  | _, _ => none
def shX2 (G : GE) (sc : Scope) : X2 → Expr → Option (Expr × Expr)
  | .lrg2, .Call (.Name x _) [.Call (.Name y _) [e, e2] [] _] [] _ => if (decide (x = "list") && bltOk G sc x && decide (y = "range") && bltOk G sc y && !starred e && !starred e2) = true then some (e, e2) else none
  | .lidx, .Call (.Attribute o m ap) [e] [] cp => if (decide (m = "index") && baseOk o && (ap.endLine == cp.line) && !starred e) = true then some (o, e) else none
  | .lcnt, .Call (.Attribute o m ap) [e] [] cp => if (decide (m = "count") && baseOk o && (ap.endLine == cp.line) && !starred e) = true then some (o, e) else none
  | _, _ => none
mutual
def chk (G : GE) (N : List Str) : C → Scope → Expr → Bool
  | .var i, sc, .Name x _ => decide (N[i]? = some x) && visB sc x && nmOk x
  | .cI i, _, .Constant (.int j) _ _ => decide (i = j)
  | .cB b, _, .Constant (.bool c) _ _ => b == c
  | .cN, _, .Constant .none _ _ => true
  | .cS x, _, .Constant (.str y) _ _ => decide (x = y)
  | .gI y i, sc, .Name x _ => decide (x = y) && glB sc x && G.gi.contains (x, i) && nmOk x
  | .gS y i, sc, .Name x _ => decide (x = y) && glB sc x && G.gs.contains (x, i) && nmOk x
  | .tup a, sc, .Tuple es _ _ => chkA G N a sc es && decide (es.length ≤ 1000)
  | .lst a, sc, .List es _ => chkA G N a sc es && decide (es.length ≤ 1000)
  | .bin op a b, sc, .BinOp l o r _ => decide (op = o) && chk G N a sc l && chk G N b sc r
  | .neg a, sc, .UnaryOp .USub e _ => chk G N a sc e
  | .cmp op a b, sc, .Compare l [o] [r] _ => decide (op = o) && chk G N a sc l && chk G N b sc r
  | .ch op op2 a b c, sc, .Compare l [o, o2] [m, r] _ => decide (op = o) && decide (op2 = o2) && chk G N a sc l && chk G N b sc m && chk G N c sc r && decide (o ≠ .In) && decide (o ≠ .NotIn) && decide (o2 ≠ .In) && decide (o2 ≠ .NotIn)
  | .and a, sc, .BoolOp .And (e :: es) _ => chkA G N a sc (e :: es)
  | .or a, sc, .BoolOp .Or (e :: es) _ => chkA G N a sc (e :: es)
  | .not a, sc, .UnaryOp .Not e _ => chk G N a sc e
  | .ix a b, sc, .Subscript o i _ => chk G N a sc o && chk G N b sc i
  | .sl a lo hi, sc, .Subscript o (.Slice l u none _) _ => chk G N a sc o && chkO G N lo sc l && chkO G N hi sc u
  | .rv a, sc, .Subscript o (.Slice none none (some (.UnaryOp .USub (.Constant (.int j) _ _) _)) _) _ => chk G N a sc o && decide (j = 1)
  | .call f a, sc, .Call (.Name x _) (e :: es) [] _ => glB sc x && nmOk x && G.gf.contains (f, x) && chkA G N a sc (e :: es)
  | .bi b a, sc, .Call (.Name x _) (e :: es) [] _ => decide (x = biName b) && bltOk G sc x && chkA G N a sc (e :: es)
  | .isi t a, sc, .Call (.Name x _) [e, .Name y _] [] _ => decide (x = "isinstance") && bltOk G sc x && decide (y = tyName t) && bltOk G sc y && chk G N a sc e && !starred e
  | .lc e tg one it cond, sc, .ListComp elt [⟨tgt, iter, ifs, k⟩] scope _ => decide (k = 0) && blkC N sc scope (ownOf N tg) && chkT N scope tg one tgt && chkI G N it sc iter && chkC G N cond (relS scope sc) ifs && chk G N e (relS scope sc) elt && tgOk it tgt
  | .x1 k a, sc, x => match shX1 G sc k x with
    | some e => chk G N a sc e
    | none => false
  | .x2 k a b, sc, x => match shX2 G sc k x with
    | some (e, e2) => chk G N a sc e && chk G N b sc e2
    | none => false
  | .ch3 op op2 op3 a b c d, sc, .Compare l [o, o2, o3] [m, r, t] _ => decide (op = o) && decide (op2 = o2) && decide (op3 = o3) && chk G N a sc l && chk G N b sc m && chk G N c sc r && chk G N d sc t && decide (o3 ≠ .In) && decide (o3 ≠ .NotIn)
  | _, _, _ => false
def chkA (G : GE) (N : List Str) : C → Scope → List Expr → Bool
  | .nil, _, [] => true
  | .cons a b, sc, e :: es => chk G N a sc e && !starred e && chkA G N b sc es
  | _, _, _ => false
def chkO (G : GE) (N : List Str) : C → Scope → Option Expr → Bool
  | .nil, _, none => true
  | .cons a _, sc, some e => chk G N a sc e
  | _, _, _ => false
def chkC (G : GE) (N : List Str) : C → Scope → List Expr → Bool
  | .nil, _, [] => true
  | .cons a _, sc, [e] => chk G N a sc e
  | _, _, _ => false
def chkI (G : GE) (N : List Str) : C → Scope → Expr → Bool
  | .rng1 a, sc, .Call (.Name x _) [e] [] _ => decide (x = "range") && bltOk G sc x && chk G N a sc e && !starred e
  | .rng2 a b, sc, .Call (.Name x _) [e, e2] [] _ => decide (x = "range") && bltOk G sc x && chk G N a sc e && !starred e && chk G N b sc e2 && !starred e2
  | .enm a, sc, .Call (.Name x _) [e] [] _ => decide (x = "enumerate") && bltOk G sc x && chk G N a sc e && !starred e
  | .zp a b, sc, .Call (.Name x _) [e, e2] [] _ => decide (x = "zip") && bltOk G sc x && chk G N a sc e && !starred e && chk G N b sc e2 && !starred e2
  | .cons a _, sc, e => chk G N a sc e
  | _, _, _ => false
end
theorem shX1_set {G : GE} {sc : Scope} (k : X1) (es : List Expr) (n : Nat) (p : Pos) : shX1 G sc k (.Set es n p) = none := by cases k <;> rfl
theorem shX2_set {G : GE} {sc : Scope} (k : X2) (es : List Expr) (n : Nat) (p : Pos) : shX2 G sc k (.Set es n p) = none := by cases k <;> rfl
theorem shX1_lc {G : GE} {sc : Scope} (k : X1) (e : Expr) (gs : List Comprehension) (s : Scope) (p : Pos) : shX1 G sc k (.ListComp e gs s p) = none := by cases k <;> rfl
theorem shX2_lc {G : GE} {sc : Scope} (k : X2) (e : Expr) (gs : List Comprehension) (s : Scope) (p : Pos) : shX2 G sc k (.ListComp e gs s p) = none := by cases k <;> rfl
theorem shX1_sc {G : GE} {sc : Scope} (k : X1) (e : Expr) (gs : List Comprehension) (s : Scope) (p : Pos) : shX1 G sc k (.SetComp e gs s p) = none := by cases k <;> rfl
theorem shX2_sc {G : GE} {sc : Scope} (k : X2) (e : Expr) (gs : List Comprehension) (s : Scope) (p : Pos) : shX2 G sc k (.SetComp e gs s p) = none := by cases k <;> rfl
theorem shX1_dc {G : GE} {sc : Scope} (k : X1) (e f : Expr) (gs : List Comprehension) (s : Scope) (p : Pos) : shX1 G sc k (.DictComp e f gs s p) = none := by cases k <;> rfl
theorem shX2_dc {G : GE} {sc : Scope} (k : X2) (e f : Expr) (gs : List Comprehension) (s : Scope) (p : Pos) : shX2 G sc k (.DictComp e f gs s p) = none := by cases k <;> rfl
end Mt

set_option Elab.async false
set_option linter.all false
set_option maxRecDepth 100000
set_option maxHeartbeats 400000
/-! Readings by meaning; slots; targets; what is walked. -/
namespace Mt
open PySem PySem.Spec PyProof.Rows L2
/-! ### readings by meaning -/
def SE (X : Cx) (e : Expr) : TE := fun σ H Q => ∀ (pins : List (Addr × Obj)) (s : Shared), Inv X pins σ H s → wpAny (model X.prog X.w) X.A (eval e X.env) (EP X pins σ Q) X.xe s
def ST (X : Cx) (e : Expr) : TT := fun σ H Q => ∀ (pins : List (Addr × Obj)) (s : Shared), Inv X pins σ H s → wpAny (model X.prog X.w) X.A (isTrue e X.env (eval e X.env)) (TP X pins σ Q) X.xe s
def SA (X : Cx) (es : List Expr) : TA := fun σ H Q => ∀ (pos : Pos) (pins : List (Addr × Obj)) (s : Shared), Inv X pins σ H s → wpAny (model X.prog X.w) X.A (spliced (backTo pos (starEach es X.env))) (AP X pins σ Q) X.xe s
def SS (X : Cx) (st : Stmt) : TS := fun D σ H => ∀ (pins : List (Addr × Obj)) (s : Shared), Inv X pins σ H s → wpAny (model X.prog X.w) X.A (exec st X.env) (SP X pins D) X.xe s
def SSs (X : Cx) (st : List Stmt) : TS := fun D σ H => ∀ (pins : List (Addr × Obj)) (s : Shared), Inv X pins σ H s → wpAny (model X.prog X.w) X.A (execs st X.env) (SP X pins D) X.xe s
section
variable {X : Cx}
theorem pe_s {e : Expr} : PE X e (SE X e) := ⟨fun pins s _ _ _ I h => h pins s I⟩
theorem pt_s {e : Expr} : PT X e (ST X e) := ⟨fun pins s _ _ _ I h => h pins s I⟩
theorem pa_s {es : List Expr} : PA X es (SA X es) := ⟨fun pos pins s _ _ _ I h => h pos pins s I⟩
theorem ps_s {st : Stmt} : PS X st (SS X st) := ⟨fun pins s _ _ _ I h => h pins s I⟩
theorem pss_s {st : List Stmt} : PSs X st (SSs X st) := ⟨fun pins s _ _ _ I h => h pins s I⟩
theorem SE.of {e : Expr} {t : TE} {σ : L2.St} {H : Hp} {Q : VK} (p : PE X e t) (h : t σ H Q) : SE X e σ H Q := fun pins s I => p.run pins s σ H Q I h
theorem ST.of {e : Expr} {t : TT} {σ : L2.St} {H : Hp} {Q : Bool → Hp → Prop} (p : PT X e t) (h : t σ H Q) : ST X e σ H Q := fun pins s I => p.run pins s σ H Q I h
theorem SA.of {e : List Expr} {t : TA} {σ : L2.St} {H : Hp} {Q : List V → Hp → Prop} (p : PA X e t) (h : t σ H Q) : SA X e σ H Q := fun pos pins s I => p.run pos pins s σ H Q I h
theorem SS.of {st : Stmt} {t : TS} {σ : L2.St} {H : Hp} {E : Ends} (p : PS X st t) (h : t E σ H) : SS X st E σ H := fun pins s I => p.run pins s σ H E I h
theorem SSs.of {st : List Stmt} {t : TS} {σ : L2.St} {H : Hp} {E : Ends} (p : PSs X st t) (h : t E σ H) : SSs X st E σ H := fun pins s I => p.run pins s σ H E I h
/-- lists and tuples are never too long -/
def Fits (K : PySem.W.Frag) (H : Hp) : Prop := ∀ a xs, (SqL K H a xs ∨ SqT K H a xs) → xs.length ≤ 16777216
theorem Inv.fits {pins : List (Addr × Obj)} {σ : L2.St} {H : Hp} {s : Shared} (I : Inv X pins σ H s) : Fits X.K H := fun a xs h => by
  rw [← sizeLine_eq]
  rcases h with h | h
  · exact (I.list h).choose_spec.2.2
  · exact (I.tuple h).choose_spec.2.2
theorem SE.fits {e : Expr} {σ : L2.St} {H : Hp} {Q : VK} (h : SE X e σ H fun v H1 => Fits X.K H1 → Q v H1) : SE X e σ H Q := fun pins s I =>
  thn (h pins s I) fun u s1 ⟨v, H1, I1, r, q⟩ => ⟨v, H1, I1, r, q (Inv.fits I1)⟩
theorem SE.mono {e : Expr} {σ : L2.St} {H : Hp} {Q Q' : VK} (h : SE X e σ H Q) (m : ∀ v H1, Q v H1 → Q' v H1) : SE X e σ H Q' := fun pins s I =>
  thn (h pins s I) fun u s1 ⟨v, H1, I1, r, q⟩ => ⟨v, H1, I1, r, m v H1 q⟩
end
/-! ### slots -/
def SlOk (K : PySem.W.Frag) (O : List Addr) (H : Hp) : Sl → Option V → Prop
  | .imm d, some v => Dp K (msk H O) v d
  | .own ds, some (.ref a) => a ∈ O ∧ ∃ xs, H a = some (.lst xs) ∧ DpAll K (msk H O) xs ds
  | .dead, _ => True
  | _, _ => False
structure RepE (K : PySem.W.Frag) (O : List Addr) (H : Hp) (σd : Sg) (σ : L2.St) : Prop where
  ol : OL H O
  len : σ.length = σd.length
  at_ : ∀ (i : Nat) (x : Sl), σd[i]? = some x → ∃ ov, σ[i]? = some ov ∧ SlOk K O H x ov
section
variable {K : PySem.W.Frag} {O : List Addr} {H H' : Hp} {σd : Sg} {σ : L2.St}
theorem SlOk.same (s : Same H H') : ∀ {x : Sl} {ov : Option V}, SlOk K O H x ov → SlOk K O H' x ov
  | .imm d, some v, h => Dp.mono (msk_same s) h
  | .own ds, some (.ref a), ⟨m, xs, e, h⟩ => ⟨m, xs, s _ _ e, DpAll.mono (msk_same s) h⟩
  | .dead, _, _ => trivial
  | .imm _, none, h => h.elim
  | .own _, none, h => h.elim
  | .own _, some .non, h => h.elim
  | .own _, some (.bl _), h => h.elim
  | .own _, some (.int _), h => h.elim
  | .own _, some (.str _), h => h.elim
  | .own _, some (.byt _), h => h.elim
  | .own _, some (.flt _), h => h.elim
  | .own _, some (.ty _), h => h.elim
theorem RepE.same (s : Same H H') (r : RepE K O H σd σ) : RepE K O H' σd σ := ⟨r.ol.same s, r.len, fun i x e => let ⟨ov, h1, h2⟩ := r.at_ i x e; ⟨ov, h1, h2.same s⟩⟩
theorem RepE.imm {i : Nat} {d : D} (r : RepE K O H σd σ) (e : σd[i]? = some (.imm d)) : ∃ v, σ[i]? = some (some v) ∧ Dp K (msk H O) v d := by
  obtain ⟨ov, h1, h2⟩ := r.at_ i _ e
  cases ov with
  | none => exact h2.elim
  | some v => exact ⟨v, h1, h2⟩
theorem RepE.own {i : Nat} {ds : List D} (r : RepE K O H σd σ) (e : σd[i]? = some (.own ds)) : ∃ a xs, σ[i]? = some (some (.ref a)) ∧ a ∈ O ∧ H a = some (.lst xs) ∧ DpAll K (msk H O) xs ds := by
  obtain ⟨ov, h1, h2⟩ := r.at_ i _ e
  match ov, h1, h2 with
  | some (.ref a), h1, ⟨m, xs, e, h⟩ => exact ⟨a, xs, h1, m, e, h⟩
theorem RepE.set {i : Nat} {x : Sl} {v : V} (r : RepE K O H σd σ) (h : SlOk K O H x (some v)) : RepE K O H (σd.set i x) (σ.set i (some v)) := by
  refine ⟨r.ol, by rw [List.length_set, List.length_set]; exact r.len, fun j y e => ?_⟩
  by_cases hj : i = j
  · subst hj
    by_cases hl : i < σd.length
    · rw [List.getElem?_set_self hl] at e
      cases e
      exact ⟨_, List.getElem?_set_self (by rw [r.len]; exact hl), h⟩
    · rw [List.getElem?_eq_none (by rw [List.length_set]; omega)] at e; cases e
  · rw [List.getElem?_set_ne hj] at e ⊢
    exact r.at_ j y e
theorem RepE.dead {i : Nat} (r : RepE K O H σd σ) : RepE K O H (σd.set i .dead) (σ.set i none) := by
  refine ⟨r.ol, by rw [List.length_set, List.length_set]; exact r.len, fun j y e => ?_⟩
  by_cases hj : i = j
  · subst hj
    by_cases hl : i < σd.length
    · rw [List.getElem?_set_self hl] at e
      cases e
      exact ⟨_, List.getElem?_set_self (by rw [r.len]; exact hl), trivial⟩
    · rw [List.getElem?_eq_none (by rw [List.length_set]; omega)] at e; cases e
  · rw [List.getElem?_set_ne hj] at e ⊢
    exact r.at_ j y e
theorem RepE.wipe (r : RepE K O H σd σ) : ∀ tg : List Nat, RepE K O H (wipeS σd tg) (L2.wipe σ tg)
  | [] => r
  | i :: is => by
    unfold wipeS L2.wipe
    exact (RepE.wipe r is).dead
end
theorem wipe_get {σ : L2.St} {i : Nat} : ∀ {vs : List Nat}, i ∈ vs → i < σ.length → (L2.wipe σ vs)[i]? = some none
  | v :: vs, m, hl => by
    unfold L2.wipe
    by_cases e : v = i
    · subst e
      exact List.getElem?_set_self (by rw [wipe_length]; exact hl)
    · rw [List.getElem?_set_ne e]
      rcases List.mem_cons.mp m with z | z
      · exact absurd z.symm e
      · exact wipe_get z hl
theorem wipe_ext {σ τ : L2.St} {vs : List Nat} (hl : σ.length = τ.length) (h : ∀ j, j ∉ vs → σ[j]? = τ[j]?) : L2.wipe σ vs = L2.wipe τ vs := by
  apply List.ext_getElem?
  intro j
  by_cases m : j ∈ vs
  · by_cases q : j < σ.length
    · rw [wipe_get m q, wipe_get m (by omega)]
    · rw [List.getElem?_eq_none (by rw [wipe_length]; omega), List.getElem?_eq_none (by rw [wipe_length]; omega)]
  · rw [wipe_out m, wipe_out m]
    exact h j m
theorem wipe_wipe {σ : L2.St} {vs : List Nat} : L2.wipe (L2.wipe σ vs) vs = L2.wipe σ vs := wipe_ext (wipe_length _ _) fun j m => wipe_out m
/-! ### targets -/
def gNs : List Nat → TGs
  | [] => gNil
  | i :: is => gCons (gName i) (gNs is)
def gT (K : PySem.W.Frag) (tg : List Nat) (one : Bool) : TG := match one, tg with
  | true, [i] => gName i
  | _, tg => gTup K tg.length (gNs tg)
/-- only the target's slots have changed -/
def Outs (σ τ : L2.St) (vs : List Nat) : Prop := τ.length = σ.length ∧ ∀ j, j ∉ vs → τ[j]? = σ[j]?
theorem Outs.set {σ τ : L2.St} {vs : List Nat} {i : Nat} {x : Option V} (h : Outs σ τ vs) (m : i ∈ vs) : Outs σ (τ.set i x) vs :=
  ⟨by rw [List.length_set]; exact h.1, fun j n => by rw [List.getElem?_set_ne (fun e => n (by rw [← e]; exact m))]; exact h.2 j n⟩
theorem gNs_of {K : PySem.W.Frag} {O : List Addr} {H : Hp} {σ0 : L2.St} {vs : List Nat} {Q : L2.St → Hp → Prop} : ∀ {tg : List Nat} {ds : List D} {xs : List V} {σd : Sg} {σ : L2.St}, (∀ i ∈ tg, i ∈ vs) → ds.length = tg.length → DpAll K (msk H O) xs ds → RepE K O H σd σ → Outs σ0 σ vs →
    (∀ τ, RepE K O H (setAll σd tg ds) τ → Outs σ0 τ vs → Q τ H) → gNs tg xs σ H Q
  | [], [], _, σd, σ, _, _, h, r, o, q => by
    cases h
    exact ⟨rfl, q σ r o⟩
  | i :: is, d :: ds, _, σd, σ, m, l, h, r, o, q => by
    cases h with
    | cons a b =>
      exact ⟨_, _, rfl, gNs_of (fun j z => m j (List.mem_cons_of_mem _ z)) (by simpa using l) b (r.set (x := .imm d) a) (o.set (m i (List.mem_cons_self ..))) q⟩
  | [], _ :: _, _, _, _, _, l, _, _, _, _ => by simp at l
  | _ :: _, [], _, _, _, _, l, _, _, _, _ => by simp at l
theorem gT_of {K : PySem.W.Frag} {O : List Addr} {H : Hp} {tg : List Nat} {one : Bool} {d : D} {x : V} {σd σd' : Sg} {σ : L2.St} {Q : L2.St → Hp → Prop} (r : RepE K O H σd σ) (hx : Dp K (msk H O) x d) (h : bindT σd tg one d = .ok σd')
    (q : ∀ τ, RepE K O H σd' τ → Outs σ τ tg → Q τ H) : gT K tg one x σ H Q := by
  unfold bindT at h
  split at h
  · cases h
    exact q _ (r.set (x := .imm _) hx) (Outs.set ⟨rfl, fun _ _ => rfl⟩ (List.mem_cons_self ..))
  · obtain ⟨g, e⟩ := gd_inv h
    cases e
    cases hx with
    | tup hs ha =>
      exact ⟨_, _, rfl, sqT_same (msk_le H O) hs.sq, (DpAll.length ha).trans (of_decide_eq_true g), gNs_of (fun _ z => z) (of_decide_eq_true g) ha r ⟨rfl, fun _ _ => rfl⟩ q⟩
  · cases h
/-- data, or a pair that is only taken apart -/
def Dw (K : PySem.W.Frag) (w : Bool) (H : Hp) (v : V) (d : D) : Prop := Dp K H v d ∨ (w = true ∧ ∃ a xs ds, v = .ref a ∧ d = .tuple ds ∧ SqT K H a xs ∧ DpAll K H xs ds)
theorem gT_ofW {K : PySem.W.Frag} {O : List Addr} {H : Hp} {tg : List Nat} {one w : Bool} {d : D} {x : V} {σd σd' : Sg} {σ : L2.St} {Q : L2.St → Hp → Prop} (hw : w = true → one = false) (r : RepE K O H σd σ) (hx : Dw K w (msk H O) x d) (h : bindT σd tg one d = .ok σd')
    (q : ∀ τ, RepE K O H σd' τ → Outs σ τ tg → Q τ H) : gT K tg one x σ H Q := by
  rcases hx with hx | ⟨z, a, xs, ds, rfl, rfl, hs, ha⟩
  · exact gT_of r hx h q
  · have ho := hw z
    subst ho
    obtain ⟨g, e⟩ := gd_inv (show gd (decide (ds.length = tg.length)) (.ok (setAll σd tg ds)) = .ok σd' from h)
    cases e
    exact ⟨_, _, rfl, sqT_same (msk_le H O) hs, (DpAll.length ha).trans (of_decide_eq_true g), gNs_of (fun _ z => z) (of_decide_eq_true g) ha r ⟨rfl, fun _ _ => rfl⟩ q⟩
section
variable {X : Cx}
theorem each_nil (env : Env) : assignEach [] env = [] := rfl
theorem each_name (x : Str) (p : Pos) (es : List Expr) (env : Env) : assignEach (.Name x p :: es) env = (false, assign (.Name x p) env) :: assignEach es env := rfl
theorem eachLen {N : List Str} {sc : Scope} (env : Env) : ∀ (tg : List Nat) (es : List Expr), chkTg N sc tg es = true → (assignEach es env).length = tg.length ∧ (assignEach es env).findIdx? (·.1) = none := by
  intro tg
  induction tg with
  | nil =>
    intro es h
    cases es with
    | nil => rw [each_nil]; exact ⟨rfl, rfl⟩
    | cons e r => simp [chkTg] at h
  | cons i is ih =>
    intro es h
    cases es with
    | nil => simp [chkTg] at h
    | cons e r =>
      cases e <;> first | (simp [chkTg] at h; done) | skip
      rename_i x p
      simp only [chkTg, Bool.and_eq_true] at h
      obtain ⟨h1, h2⟩ := ih r h.2
      rw [each_name, List.length_cons, List.length_cons, h1, List.findIdx?_cons, h2]
      exact ⟨rfl, rfl⟩
/-- names, where they may be stored -/
theorem pgs_names {N : List Str} {sc : Scope} (hN : X.N = N) (nd : N.Nodup) (hl : ∀ x, locB sc x = true → Loc X.env.scope x ∧ (X.fn x = true ∨ X.env.scope.names.lookup x = some .local)) : ∀ {tg : List Nat} {es : List Expr}, chkTg N sc tg es = true → PGs X es (gNs tg)
  | [], [], _ => pgs_nil
  | i :: is, .Name x p :: es, h => by
    simp only [chkTg, Bool.and_eq_true] at h
    obtain ⟨⟨h1, h2⟩, h3⟩ := h
    obtain ⟨l1, l2⟩ := hl x h2
    exact pgs_cons (pg_name (by rw [hN]; exact nd) (by rw [hN]; exact of_decide_eq_true h1) l1 l2) (pgs_names hN nd hl h3) rfl
theorem pg_target {N : List Str} {sc : Scope} {tg : List Nat} {one : Bool} {e : Expr} (hc : X.calm = true) (hN : X.N = N) (nd : N.Nodup) (hl : ∀ x, locB sc x = true → Loc X.env.scope x ∧ (X.fn x = true ∨ X.env.scope.names.lookup x = some .local))
    (h : chkT N sc tg one e = true) : PG X e (gT X.K tg one) := by
  unfold chkT at h
  split at h
  · split at h
    · simp only [chkTg, Bool.and_eq_true] at h
      obtain ⟨⟨h1, h2⟩, _⟩ := h
      obtain ⟨l1, l2⟩ := hl _ h2
      exact pg_name (by rw [hN]; exact nd) (by rw [hN]; exact of_decide_eq_true h1) l1 l2
    · cases h
  · obtain ⟨h1, h2⟩ := eachLen X.env _ _ h
    have p := pg_tup (pos := ‹Pos›) (k := ‹Nat›) hc (pgs_names hN nd hl h) h1 h2
    unfold gT
    exact p
  · cases h
end
/-! ### what is walked -/
structure IsIt (K : PySem.W.Frag) (w : Bool) (J : It) (ds : List D) (F : List Addr → Hp → Prop) : Prop where
  go : ∀ (i : Nat) (O : List Addr) (H : Hp), F O H → i < ds.length → J.go i H
  stop : ∀ (i : Nat) (O : List Addr) (H : Hp), F O H → ds.length ≤ i → J.stop i H
  yld : ∀ (i : Nat) (O : List Addr) (H : Hp) (x : V) (H' : Hp), F O H → OL H O → i < ds.length → J.yld i H x H' → Same H H' ∧ ∃ d, ds[i]? = some d ∧ Dw K w (msk H' O) x d
/-- a list or tuple that may be read, as it stands at v -/
theorem isIt_list {K : PySem.W.Frag} {a : Addr} {ds : List D} : IsIt K false (Itl K a) ds (fun O H => ∃ xs, SqL K H a xs ∧ DpAll K (msk H O) xs ds) where
  go := fun i O H ⟨xs, h, q⟩ hi => by
    have l := DpAll.length q
    exact ⟨xs, xs[i]'(by omega), h, List.getElem?_eq_getElem _⟩
  stop := fun i O H ⟨xs, h, q⟩ hi => ⟨xs, h, by rw [DpAll.length q]; exact hi⟩
  yld := fun i O H x H' ⟨xs, h, q⟩ _ _ y => by
    obtain ⟨e, y⟩ := y
    subst e
    obtain ⟨d, h1, h2⟩ := DpAll.get' q (y xs h)
    exact ⟨Same.refl _, d, h1, .inl h2⟩
theorem isIt_tup {K : PySem.W.Frag} {a : Addr} {ds : List D} : IsIt K false (Itt K a) ds (fun O H => ∃ xs, SqT K H a xs ∧ DpAll K (msk H O) xs ds) where
  go := fun i O H ⟨xs, h, q⟩ hi => by
    have l := DpAll.length q
    exact ⟨xs, xs[i]'(by omega), h, List.getElem?_eq_getElem _⟩
  stop := fun i O H ⟨xs, h, q⟩ hi => ⟨xs, h, by rw [DpAll.length q]; exact hi⟩
  yld := fun i O H x H' ⟨xs, h, q⟩ _ _ y => by
    obtain ⟨e, y⟩ := y
    subst e
    obtain ⟨d, h1, h2⟩ := DpAll.get' q (y xs h)
    exact ⟨Same.refl _, d, h1, .inl h2⟩
theorem isIt_rng {K : PySem.W.Frag} {a b : Int} : IsIt K false (Itr a (b - a).toNat) (rngD a b) (fun _ _ => True) where
  go := fun i O H _ hi => by rw [rngD, List.length_map, List.length_range] at hi; exact hi
  stop := fun i O H _ hi => by rw [rngD, List.length_map, List.length_range] at hi; exact hi
  yld := fun i O H x H' _ _ hi y => by
    obtain ⟨e, y⟩ := y
    subst e y
    refine ⟨Same.refl _, .int (a + i), ?_, .inl (.int _)⟩
    rw [rngD, List.length_map, List.length_range] at hi
    rw [rngD, List.getElem?_map, List.getElem?_range hi]
    rfl
end Mt

set_option Elab.async false
set_option linter.all false
set_option maxRecDepth 100000
set_option maxHeartbeats 1000000
/-! The core is what the text does: expressions. -/
namespace Mt
open PySem PySem.Spec PyProof.Rows L2
/-! ### calls -/
/-- what a def hands back: data; a list is a new one -/
structure Ret (K : PySem.W.Frag) (H H' : Hp) (v : V) (r : D) : Prop where
  dp : Dp K H' v r
  nw : ∀ ds, r = .list ds → ∃ a xs, v = .ref a ∧ H a = none ∧ H' a = some (.lst xs) ∧ DpAll K H' xs ds
def spF (K : PySem.W.Frag) (F : FnS) : Sp := fun vs H Q _ => ∃ ds r, vs.length = F.ar ∧ DpAll K H vs ds ∧ F.m ds = .ok r ∧ ∀ v H', Same H H' → Ret K H H' v r → Q v H'
structure FnGood (Φ : Nat → FnS) (X : Cx) (f : Nat) (x : Str) : Prop where
  ex : ∃ (fa : Addr) (fd : FuncData) (ps : List Str) (k : Nat), X.mg x = some (.ref fa) ∧ PySem.W.keepIn X.K (.ref fa) = true ∧ FnOk X.prog X.w X.K X.mg X.base CX0 k fa fd ps (spF X.K (Φ f)) ∧ Room k X.A ∧ Binds X.K fd ps []
  fl : (Φ f).pure = true → ∀ ds r, (Φ f).m ds = .ok r → flatTop r = true
  ln : ∀ ds r, (Φ f).m ds = .ok r → ds.length = (Φ f).ar
theorem Ret.new {K : PySem.W.Frag} {O : List Addr} {H H' : Hp} {v : V} {r : D} (h : Ret K H H' v r) (f : flatTop r = true) (o : OL H O) (s : Same H H') : New K O H H' v r := by
  have o' : OL H' O := o.same s
  by_cases hl : ∃ ds, r = .list ds
  · obtain ⟨ds, rfl⟩ := hl
    have fa : flatAll ds = true := f
    obtain ⟨a, xs, rfl, n, e, q⟩ := h.nw ds rfl
    have na : a ∉ O := fun m => by obtain ⟨_, z⟩ := o a m; rw [n] at z; cases z
    refine ⟨.lst (.of (by rw [msk_out na]; exact e)) (DpAll.flatMsk o' fa q), fun ds' z => ?_⟩
    cases z
    refine ⟨a, xs, rfl, n, e, DpAll.flatMsk (fun b m => ?_) fa q⟩
    rcases List.mem_cons.mp m with z | z
    · exact ⟨xs, by rw [z]; exact e⟩
    · exact o' b z
  · have fr : flat r = true := by
      cases r <;> first | exact f | (exact absurd ⟨_, rfl⟩ hl)
    exact .imm (Dp.flatMsk o' fr h.dp) fun ds z => hl ⟨ds, z⟩
/-! ### the context -/
structure Ctx (G : GE) (Φ : Nat → FnS) (X : Cx) (N : List Str) (sc : Scope) : Prop where
  hN : X.N = N
  hsc : X.env.scope = sc
  calm : X.calm = true
  nd : N.Nodup
  hu : X.A.units + 200 < cLine
  gb : ∀ x, G.gb.contains x = true → X.mg x = none
  gi : ∀ x i, G.gi.contains (x, i) = true → ∃ t, X.mg x = some (.int i t)
  gs : ∀ x i, G.gs.contains (x, i) = true → ∃ t, X.mg x = some (.str i t)
  gf : ∀ f x, G.gf.contains (f, x) = true → FnGood Φ X f x
section
variable {G : GE} {Φ : Nat → FnS} {X : Cx} {N : List Str} {sc : Scope}
theorem Ctx.blk (c : Ctx G Φ X N sc) (s : Shared) (H : Hp) (scope : Scope) (C : Addr) (cl : List (Str × Addr)) (fp : List Addr) : Ctx G Φ (X.blk s H scope (compEnvC scope cl C X.env) fp) N (relS scope sc) where
  hN := c.hN
  hsc := by rw [← c.hsc]; rfl
  calm := c.calm
  nd := c.nd
  hu := c.hu
  gb := c.gb
  gi := c.gi
  gs := c.gs
  gf := fun f x h => ⟨(c.gf f x h).ex, (c.gf f x h).fl, (c.gf f x h).ln⟩
theorem vis_of (c : Ctx G Φ X N sc) {x : Str} (h : visB sc x = true) : Vis X.env.scope x := by
  unfold visB at h
  rw [← c.hsc] at h
  split at h
  · exact .inl ‹_›
  · exact .inr (.inl ‹_›)
  · exact .inr (.inr ‹_›)
  · cases h
theorem gl_of (c : Ctx G Φ X N sc) {x : Str} (h : glB sc x = true) : Gl X x := by
  unfold glB at h
  rw [← c.hsc] at h
  split at h
  · assumption
  · cases h
theorem nm_of {x : Str} (h : nmOk x = true) : (x == ("__debug__" : Str)) = false ∧ (x == ("__classdict__" : Str)) = false ∧ x ≠ "__name__" := by
  unfold nmOk at h
  simp only [Bool.and_eq_true, Bool.not_eq_true'] at h
  exact ⟨h.1.1, h.1.2, fun e => by rw [e] at h; exact absurd h.2 (by decide)⟩
theorem blt_of (c : Ctx G Φ X N sc) {x : Str} (h : bltOk G sc x = true) : Gl X x ∧ X.mg x = none ∧ x ≠ "__name__" ∧ (x == ("__debug__" : Str)) = false := by
  unfold bltOk at h
  simp only [Bool.and_eq_true] at h
  obtain ⟨a, b, d⟩ := nm_of h.2
  exact ⟨gl_of c h.1.1, c.gb x h.1.2, d, a⟩
end
theorem star_cons {e : Expr} {es : List Expr} (env : Env) (h : (!starred e) = true) : starEach (e :: es) env = (false, eval e env) :: starEach es env := by
  cases e <;> first | rfl | (cases h)
theorem star_any {G : GE} {N : List Str} {sc : Scope} (pos : Pos) (env : Env) : ∀ (a : C) (es : List Expr), chkA G N a sc es = true → (backTo pos (starEach es env)).any (·.1) = false := by
  intro a
  induction a with
  | nil =>
    intro es h
    cases es with
    | nil => rfl
    | cons e r => simp [chkA] at h
  | cons a b _ ih =>
    intro es h
    cases es with
    | nil => simp [chkA] at h
    | cons e r =>
      simp only [chkA, Bool.and_eq_true] at h
      rw [star_cons env h.1.2]
      show (false || (backTo pos (starEach r env)).any (·.1)) = false
      rw [ih r h.2]
      rfl
  | _ =>
    intro es h
    cases es <;> simp [chkA] at h
/-! ### results -/
def tmpC (σ : Sg) (c : C) : Bool := match c with
  | .var i => match σ[i]? with
    | some (.own _) => true
    | _ => false
  | _ => false
def fresh : C → Bool
  | .var _ => false
  | .ix _ _ => false
  | _ => true
structure Res (K : PySem.W.Frag) (O : List Addr) (H H' : Hp) (σ : Sg) (c : C) (v : V) (d : D) : Prop where
  dr : Dr K O H' v d
  im : tmpC σ c = false → Dp K (msk H' O) v d
  nw : fresh c = true → New K O H H' v d
theorem Res.of_new {K : PySem.W.Frag} {O : List Addr} {H H' : Hp} {σ : Sg} {c : C} {v : V} {d : D} (h : New K O H H' v d) : Res K O H H' σ c v d := ⟨.im h.im, fun _ => h.im, fun _ => h⟩
theorem Res.of_dp {K : PySem.W.Frag} {O : List Addr} {H H' : Hp} {σ : Sg} {c : C} {v : V} {d : D} (h : Dp K (msk H' O) v d) (f : fresh c = false) : Res K O H H' σ c v d := ⟨.im h, fun _ => h, fun z => by rw [f] at z; cases z⟩
theorem strict_ok {Φ : Nat → FnS} {c : C} {σ : Sg} {d : D} (h : strict c σ (ev Φ c σ) = .ok d) : ev Φ c σ = .ok d ∧ tmpC σ c = false := by
  unfold strict at h
  split at h
  · unfold rdI at h
    split at h
    · rename_i e
      cases h
      refine ⟨?_, ?_⟩
      · rw [ev, rdS, e]
      · unfold tmpC; dsimp only; rw [e]
    · cases h
  · rename_i hn
    refine ⟨h, ?_⟩
    unfold tmpC
    split
    · exact absurd rfl (hn _)
    · rfl
def OkE (Φ : Nat → FnS) (X : Cx) (c : C) (e : Expr) : Prop := ∀ (O : List Addr) (H : Hp) (σd : Sg) (σ : L2.St) (d : D), RepE X.K O H σd σ → ev Φ c σd = .ok d → ∀ Q : VK, (∀ v H', Same H H' → Res X.K O H H' σd c v d → Fits X.K H' → Q v H') → SE X e σ H Q
def OkB (Φ : Nat → FnS) (X : Cx) (c : C) (e : Expr) : Prop := ∀ (O : List Addr) (H : Hp) (σd : Sg) (σ : L2.St) (b : Bool), RepE X.K O H σd σ → ev Φ c σd = .ok (.bool b) → ∀ Q : Bool → Hp → Prop, (∀ H', Same H H' → Q b H') → ST X e σ H Q
def OkS (Φ : Nat → FnS) (X : Cx) (c : C) (es : List Expr) : Prop := ∀ (O : List Addr) (H : Hp) (σd : Sg) (σ : L2.St) (ds : List D), RepE X.K O H σd σ → evs Φ c σd = .ok ds → ∀ Q : List V → Hp → Prop, (∀ vs H', Same H H' → DpAll X.K (msk H' O) vs ds → Q vs H') → SA X es σ H Q
def OkR (Φ : Nat → FnS) (X : Cx) (c : C) (es : List Expr) : Prop := ∀ (O : List Addr) (H : Hp) (σd : Sg) (σ : L2.St) (ds : List D), RepE X.K O H σd σ → evr Φ c σd = .ok ds → ∀ Q : List V → Hp → Prop, (∀ vs H', Same H H' → DrAll X.K O H' vs ds → Q vs H') → SA X es σ H Q
def SW (X : Cx) (e : Expr) : TT := fun σ H Q => ∀ (whole : Sem Value) (pins : List (Addr × Obj)) (s : Shared), Inv X pins σ H s → wpAny (model X.prog X.w) X.A (isTrue e X.env whole) (TP X pins σ Q) X.xe s
theorem pw_s {X : Cx} {e : Expr} : PW X e (SW X e) := ⟨fun wh pins s _ _ _ I h => h wh pins s I⟩
theorem SW.of {X : Cx} {e : Expr} {t : TT} {σ : L2.St} {H : Hp} {Q : Bool → Hp → Prop} (p : PW X e t) (h : t σ H Q) : SW X e σ H Q := fun wh pins s I => p.run wh pins s σ H Q I h
/-- and, or: as values and as tests -/
def OkAnd (Φ : Nat → FnS) (X : Cx) (c : C) (es : List Expr) : Prop := es ≠ [] → ∀ (pos : Pos) (O : List Addr) (H : Hp) (σd : Sg) (σ : L2.St) (b : Bool), RepE X.K O H σd σ → evAnd Φ c σd = .ok b →
  (∀ Q : VK, (∀ H', Same H H' → Q (.bl b) H') → SE X (.BoolOp .And es pos) σ H Q) ∧ ∀ Q : Bool → Hp → Prop, (∀ H', Same H H' → Q b H') → SW X (.BoolOp .And es pos) σ H Q
def OkOr (Φ : Nat → FnS) (X : Cx) (c : C) (es : List Expr) : Prop := es ≠ [] → ∀ (pos : Pos) (O : List Addr) (H : Hp) (σd : Sg) (σ : L2.St) (b : Bool), RepE X.K O H σd σ → evOr Φ c σd = .ok b →
  (∀ Q : VK, (∀ H', Same H H' → Q (.bl b) H') → SE X (.BoolOp .Or es pos) σ H Q) ∧ ∀ Q : Bool → Hp → Prop, (∀ H', Same H H' → Q b H') → SW X (.BoolOp .Or es pos) σ H Q
def OkP (Φ : Nat → FnS) (X : Cx) (c : C) (e : Option Expr) : Prop := ∃ t, PO X e t ∧ ∀ (O : List Addr) (H : Hp) (σd : Sg) (σ : L2.St) (l : Option Int), RepE X.K O H σd σ → evp Φ c σd = .ok l → ∀ Q : Option Int → Hp → Prop, (∀ H', Same H H' → Q l H') → t σ H Q
def tmpI (σ : Sg) (c : C) : Bool := match c with
  | .cons a _ => tmpC σ a
  | .enm a => tmpC σ a
  | _ => false
/-- what is walked: the walk J of ds; F tells that its source stands -/
def OkI (Φ : Nat → FnS) (X : Cx) (c : C) (e : Expr) : Prop := ∀ tg : Expr, tgOk c tg = true → ∃ wi, PI X tg e wi ∧ ∀ (O : List Addr) (H : Hp) (σd : Sg) (σ : L2.St) (ds : List D), RepE X.K O H σd σ → evIt Φ c σd = .ok ds → ∀ R : It → Hp → Prop,
  (∀ J H' (F : List Addr → Hp → Prop), Same H H' → IsIt X.K (isPair c) J ds F → F O H' → (∀ O1 O2 H1 H2, F O1 H1 → Same H1 H2 → Same (msk H1 O1) (msk H2 O2) → F O2 H2) → (tmpI σd c = false → ∀ O1 O2 H1 H2, F O1 H1 → Same (msk H1 O1) (msk H2 O2) → F O2 H2) → ds.length ≤ 16777216 → R J H') → wi σ H R
end Mt

set_option Elab.async false
set_option linter.all false
set_option maxRecDepth 100000
set_option maxHeartbeats 200000
/-! Expressions: each construct. -/
namespace Mt
open PySem PySem.Spec PyProof.Rows L2
section
variable {G : GE} {Φ : Nat → FnS} {X : Cx} {N : List Str} {sc : Scope}
theorem chk_marks {c : C} {e : Expr} (op : CmpOp) (h : chk G N c sc e = true) : behindInMarks op e = false := by
  cases e <;> first | rfl | (cases c <;> first | (simp [chk] at h; done) | (rename_i k _; cases k <;> simp [chk, shX1] at h; done) | (rename_i k _ _; cases k <;> simp [chk, shX2] at h))
theorem chk_plainIx {c : C} {e : Expr} (h : chk G N c sc e = true) : PlainIx e := by
  cases e <;> first | (exact fun _ _ => rfl) | (cases c <;> first | (simp [chk] at h; done) | (rename_i k _; cases k <;> simp [chk, shX1] at h; done) | (rename_i k _ _; cases k <;> simp [chk, shX2] at h))
/-- a test by its value -/
theorem okB_of {c : C} {e : Expr} (h : OkE Φ X c e) (he : ∀ whole, isTrue e X.env whole = (do let v ← whole; standAt e.pos; holding [v] (truthy v))) : OkB Φ X c e := by
  intro O H σd σ b r hv Q q
  refine ST.of (pt_val pe_s he) (h O H σd σ _ r hv _ fun v H' s res _ => ⟨b, res.dr.bool, q H' s⟩)
theorem ok_var (cx : Ctx G Φ X N sc) {i : Nat} {x : Str} {p : Pos} (h : chk G N (.var i) sc (.Name x p) = true) : OkE Φ X (.var i) (.Name x p) := by
  intro O H σd σ d r hv Q q
  simp only [chk, Bool.and_eq_true] at h
  obtain ⟨n1, n2, _⟩ := nm_of h.2
  refine SE.fits (SE.of (pe_var (i := i) (by rw [cx.hN]; exact of_decide_eq_true h.1.1) (vis_of cx h.1.2) n1 n2) ?_)
  rw [ev, rdS] at hv
  split at hv
  · rename_i e
    cases hv
    obtain ⟨v, e1, e2⟩ := r.imm e
    refine ⟨v, e1, fun F => q v H (Same.refl _) ⟨.im e2, fun _ => e2, fun z => nomatch z⟩ F⟩
  · rename_i e
    cases hv
    obtain ⟨a, xs, e1, m, e2, e3⟩ := r.own e
    refine ⟨_, e1, fun F => q _ H (Same.refl _) ⟨.ow e2 e3, fun z => ?_, fun z => nomatch z⟩ F⟩
    unfold tmpC at z
    dsimp only at z
    rw [e] at z
    cases z
  · cases hv
theorem ok_bin (cx : Ctx G Φ X N sc) {op : Operator} {a b : C} {l r : Expr} {p : Pos} (ha : OkE Φ X a l) (hb : OkE Φ X b r) : OkE Φ X (.bin op a b) (.BinOp l op r p) := by
  intro O H σd σ d rp hv Q q
  rw [ev] at hv
  obtain ⟨x, e1, hv⟩ := bd_inv hv
  obtain ⟨y, e2, hv⟩ := bd_inv hv
  refine SE.fits (SE.of (pe_op (op_bin op) pe_s pe_s) ?_)
  refine ha O H σd σ x rp e1 _ fun v H1 s1 r1 _ => hb O H1 σd σ y (rp.same s1) e2 _ fun w H2 s2 r2 _ => ?_
  exact rOp_of ((rp.ol.same s1).same s2) (r1.dr.same s2) r2.dr hv fun z H3 s3 n F => q z H3 (s1.trans (s2.trans s3)) (Res.of_new (n.old (s1.trans s2))) F
theorem ok_neg (cx : Ctx G Φ X N sc) {a : C} {l : Expr} {p : Pos} (ha : OkE Φ X a l) : OkE Φ X (.neg a) (.UnaryOp .USub l p) := by
  intro O H σd σ d rp hv Q q
  rw [ev] at hv
  obtain ⟨x, e1, hv⟩ := bd_inv hv
  refine SE.fits (SE.of (pe_un un_neg pe_s) ?_)
  refine ha O H σd σ x rp e1 _ fun v H1 s1 r1 _ => ?_
  unfold negD at hv
  split at hv
  · cases hv
    exact ⟨_, r1.dr.int, fun F => q _ H1 s1 (Res.of_new .int) F⟩
  · cases hv
theorem cmp_read {op : CmpOp} {O : List Addr} {H : Hp} {x y : V} {d e : D} {b : Bool} {Q : VK} (hx : Dr X.K O H x d) (hy : Dr X.K O H y e) (h : cmpD op d e = .ok (.bool b)) (q : Q (.bl b) H) : rCmp X.K op x y H Q := ⟨d, e, b, hx.dp, hy.dp, h, q⟩
theorem ok_cmp (cx : Ctx G Φ X N sc) {op : CmpOp} {a b : C} {l r : Expr} {p : Pos} (ha : OkE Φ X a l) (hb : OkE Φ X b r) (hm : behindInMarks op r = false) : OkE Φ X (.cmp op a b) (.Compare l [op] [r] p) := by
  intro O H σd σ d rp hv Q q
  rw [ev] at hv
  obtain ⟨x, e1, hv⟩ := bd_inv hv
  obtain ⟨y, e2, hv⟩ := bd_inv hv
  obtain ⟨k, rfl⟩ := cmpD_bool hv
  refine SE.fits (SE.of (pe_cmpR (op_cmp cx.hu op) pe_s pe_s hm) ?_)
  refine ha O H σd σ x rp e1 _ fun v H1 s1 r1 _ => hb O H1 σd σ y (rp.same s1) e2 _ fun w H2 s2 r2 _ => ?_
  exact cmp_read (r1.dr.same s2) r2.dr hv fun F => q _ H2 (s1.trans s2) (Res.of_new .bool) F
theorem okB_cmp (cx : Ctx G Φ X N sc) {op : CmpOp} {a b : C} {l r : Expr} {p : Pos} (ha : OkE Φ X a l) (hb : OkE Φ X b r) (hm : behindInMarks op r = false) : OkB Φ X (.cmp op a b) (.Compare l [op] [r] p) := by
  intro O H σd σ k rp hv Q q
  rw [ev] at hv
  obtain ⟨x, e1, hv⟩ := bd_inv hv
  obtain ⟨y, e2, hv⟩ := bd_inv hv
  refine ST.of (pt_cmpR (op_cmp cx.hu op) pe_s pe_s hm) ?_
  refine ha O H σd σ x rp e1 _ fun v H1 s1 r1 _ => hb O H1 σd σ y (rp.same s1) e2 _ fun w H2 s2 r2 _ => ?_
  exact cmp_read (r1.dr.same s2) r2.dr hv ⟨k, rfl, q H2 (s1.trans s2)⟩
theorem ch_inv {op op2 : CmpOp} {a b c : C} {σd : Sg} {d : D} (hv : ev Φ (.ch op op2 a b c) σd = .ok d) : ∃ x y k, ev Φ a σd = .ok x ∧ ev Φ b σd = .ok y ∧ cmpD op x y = .ok (.bool k) ∧ ((k = false ∧ d = .bool false) ∨ (k = true ∧ ∃ z k2, ev Φ c σd = .ok z ∧ cmpD op2 y z = .ok (.bool k2) ∧ d = .bool k2)) := by
  rw [ev] at hv
  obtain ⟨x, e1, hv⟩ := bd_inv hv
  obtain ⟨y, e2, hv⟩ := bd_inv hv
  obtain ⟨r, e3, hv⟩ := bd_inv hv
  obtain ⟨k, rfl⟩ := cmpD_bool e3
  rw [asB, bd_ok] at hv
  cases k with
  | false =>
    rw [if_neg Bool.false_ne_true] at hv
    cases hv
    exact ⟨x, y, false, e1, e2, e3, .inl ⟨rfl, rfl⟩⟩
  | true =>
    rw [if_pos rfl] at hv
    obtain ⟨z, e4, hv⟩ := bd_inv hv
    obtain ⟨k2, rfl⟩ := cmpD_bool hv
    exact ⟨x, y, true, e1, e2, e3, .inr ⟨rfl, z, k2, e4, hv, rfl⟩⟩
theorem ch_marks {op op2 : CmpOp} (b c : Expr) (h : op2 ≠ .In) (h2 : op2 ≠ .NotIn) : lastMarks [op, op2] [b, c] = false := by
  show behindInMarks op2 c = false
  exact nobehind c h h2
theorem ch_read (cx : Ctx G Φ X N sc) {op op2 : CmpOp} {a b c : C} {l m r : Expr} (ha : OkE Φ X a l) (hb : OkE Φ X b m) (hc : OkE Φ X c r) {O : List Addr} {H : Hp} {σd : Sg} {σ : L2.St} {d : D} (rp : RepE X.K O H σd σ) (hv : ev Φ (.ch op op2 a b c) σd = .ok d) {Q : VK}
    (q : ∀ k H', d = .bool k → Same H H' → Q (.bl k) H') : tChain (rCmp X.K op) (rCmp X.K op2) (SE X l) (SE X m) (SE X r) σ H Q := by
  obtain ⟨x, y, k, e1, e2, e3, e4⟩ := ch_inv hv
  refine ha O H σd σ x rp e1 _ fun v H1 s1 r1 _ => hb O H1 σd σ y (rp.same s1) e2 _ fun w H2 s2 r2 _ => ?_
  refine cmp_read (r1.dr.same s2) r2.dr e3 ⟨k, rfl, ?_⟩
  rcases e4 with ⟨rfl, rfl⟩ | ⟨rfl, z, k2, e4, e5, rfl⟩
  · exact iteF (q _ _ rfl (s1.trans s2))
  · refine iteT (hc O H2 σd σ z ((rp.same s1).same s2) e4 _ fun w2 H3 s3 r3 _ => ?_)
    exact cmp_read (r2.dr.same s3) r3.dr e5 (q _ _ rfl (s1.trans (s2.trans s3)))
theorem ok_ch (cx : Ctx G Φ X N sc) {op op2 : CmpOp} {a b c : C} {l m r : Expr} {p : Pos} (ha : OkE Φ X a l) (hb : OkE Φ X b m) (hc : OkE Φ X c r) (h : op2 ≠ .In) (h2 : op2 ≠ .NotIn) : OkE Φ X (.ch op op2 a b c) (.Compare l [op, op2] [m, r] p) := by
  intro O H σd σ d rp hv Q q
  refine SE.fits (SE.of (pe_chain (op_cmp cx.hu op) (op_cmp cx.hu op2) pe_s pe_s pe_s (ch_marks m r h h2)) ?_)
  exact ch_read cx ha hb hc rp hv fun k H' e s F => q _ H' s (by rw [e]; exact Res.of_new .bool) F
theorem okB_ch (cx : Ctx G Φ X N sc) {op op2 : CmpOp} {a b c : C} {l m r : Expr} {p : Pos} (ha : OkE Φ X a l) (hb : OkE Φ X b m) (hc : OkE Φ X c r) (h : op2 ≠ .In) (h2 : op2 ≠ .NotIn) : OkB Φ X (.ch op op2 a b c) (.Compare l [op, op2] [m, r] p) := by
  intro O H σd σ k rp hv Q q
  refine ST.of (pt_chain (op_cmp cx.hu op) (op_cmp cx.hu op2) pe_s pe_s pe_s (ch_marks m r h h2)) ?_
  exact ch_read cx ha hb hc rp hv fun k' H' e s => ⟨k', rfl, by cases e; exact q H' s⟩
theorem ok_not {a : C} {l : Expr} {p : Pos} (ha : OkE Φ X a l) : OkE Φ X (.not a) (.UnaryOp .Not l p) := by
  intro O H σd σ d rp hv Q q
  rw [ev] at hv
  obtain ⟨x, e1, hv⟩ := bd_inv hv
  obtain ⟨b, e2, hv⟩ := bd_inv hv
  cases hv
  unfold asB at e2
  split at e2
  · cases e2
    refine SE.fits (SE.of (pe_not pe_s) ?_)
    exact ha O H σd σ _ rp e1 _ fun v H1 s1 r1 _ => ⟨_, r1.dr.bool, fun F => q _ H1 s1 (Res.of_new .bool) F⟩
  · cases e2
theorem okB_not {a : C} {l : Expr} {p : Pos} (ha : OkB Φ X a l) : OkB Φ X (.not a) (.UnaryOp .Not l p) := by
  intro O H σd σ k rp hv Q q
  rw [ev] at hv
  obtain ⟨x, e1, hv⟩ := bd_inv hv
  obtain ⟨b, e2, hv⟩ := bd_inv hv
  cases hv
  unfold asB at e2
  split at e2
  · cases e2
    refine ST.of (pt_not pt_s) ?_
    exact ha O H σd σ _ rp e1 _ q
  · cases e2
theorem ok_ix (cx : Ctx G Φ X N sc) {a b : C} {l r : Expr} {p : Pos} (ha : OkE Φ X a l) (hb : OkE Φ X b r) (hp : PlainIx r) : OkE Φ X (.ix a b) (.Subscript l r p) := by
  intro O H σd σ d rp hv Q q
  rw [ev] at hv
  obtain ⟨x, e1, hv⟩ := bd_inv hv
  obtain ⟨y, e2, hv⟩ := bd_inv hv
  refine SE.fits (SE.of (pe_ix ix_seq pe_s pe_s hp) ?_)
  refine ha O H σd σ x rp e1 _ fun v H1 s1 r1 _ => hb O H1 σd σ y (rp.same s1) e2 _ fun w H2 s2 r2 _ => ?_
  exact ix_of (r1.dr.same s2) r2.dr hv fun z n F => q z H2 (s1.trans s2) (Res.of_dp n rfl) F
theorem ok_sl (cx : Ctx G Φ X N sc) {a lo hi : C} {l : Expr} {ol oh : Option Expr} {p p2 : Pos} (ha : OkE Φ X a l) (hl : OkP Φ X lo ol) (hh : OkP Φ X hi oh) : OkE Φ X (.sl a lo hi) (.Subscript l (.Slice ol oh none p2) p) := by
  intro O H σd σ d rp hv Q q
  rw [ev] at hv
  obtain ⟨x, e1, hv⟩ := bd_inv hv
  obtain ⟨i, e2, hv⟩ := bd_inv hv
  obtain ⟨j, e3, hv⟩ := bd_inv hv
  obtain ⟨tl, pl, ql⟩ := hl
  obtain ⟨th, ph, qh⟩ := hh
  refine SE.fits (SE.of (pe_slice sl_D pe_s pl ph) ?_)
  refine ha O H σd σ x rp e1 _ fun v H1 s1 r1 _ => ?_
  refine ql O H1 σd σ i (rp.same s1) e2 _ fun H2 s2 => qh O H2 σd σ j ((rp.same s1).same s2) e3 _ fun H3 s3 => ?_
  exact sl_of (((rp.ol.same s1).same s2).same s3) ((r1.dr.same s2).same s3) hv fun z H4 s4 n F => q z H4 (s1.trans (s2.trans (s3.trans s4))) (Res.of_new (n.old (s1.trans (s2.trans s3)))) F
theorem ok_rv (cx : Ctx G Φ X N sc) {a : C} {l : Expr} {k : Nat} {p1 p2 p3 p : Pos} (ha : OkE Φ X a l) : OkE Φ X (.rv a) (.Subscript l (.Slice none none (some (.UnaryOp .USub (.Constant (.int 1) k p1) p2)) p3) p) := by
  intro O H σd σ d rp hv Q q
  rw [ev] at hv
  obtain ⟨x, e1, hv⟩ := bd_inv hv
  refine SE.fits (SE.of (pe_revD pe_s) ?_)
  refine ha O H σd σ x rp e1 _ fun v H1 s1 r1 _ => ?_
  unfold revD at hv
  split at hv
  · cases hv
    obtain ⟨b, xs, rfl, sb, db⟩ := r1.dr.list
    exact ⟨b, xs, rfl, .inl ⟨sb, fun l nl F => q _ _ (s1.trans (same_upd nl)) (Res.of_new ((New.lst nl (rp.ol.same s1) (DpAll.reverse db)).old s1)) F⟩⟩
  · cases hv
    obtain ⟨b, xs, rfl, sb, db, _⟩ := r1.dr.tuple
    exact ⟨b, xs, rfl, .inr ⟨sb, fun l w nl hw F => q _ _ (s1.trans (same_upd nl)) (Res.of_new ((New.tup hw nl (rp.ol.same s1) (DpAll.reverse db)).old s1)) F⟩⟩
  · cases hv
theorem ok_tup {a : C} {es : List Expr} {k : Nat} {p : Pos} (ha : OkS Φ X a es) (hl : ∀ σd ds, evs Φ a σd = .ok ds → ds.length ≤ 1000) : OkE Φ X (.tup a) (.Tuple es k p) := by
  intro O H σd σ d rp hv Q q
  rw [ev] at hv
  obtain ⟨ds, e1, hv⟩ := bd_inv hv
  cases hv
  refine SE.fits (SE.of (pe_tupN pa_s) ?_)
  refine ha O H σd σ ds rp e1 _ fun vs H1 s1 dv => ⟨?_, fun l w nl hw F => ?_⟩
  · have := hl σd ds e1
    rw [DpAll.length dv, sizeLine_eq]; omega
  · exact q _ _ (s1.trans (same_upd nl)) (Res.of_new ((New.tup hw nl (rp.ol.same s1) dv).old s1)) F
theorem ok_lst {a : C} {es : List Expr} {p : Pos} (ha : OkS Φ X a es) (hl : ∀ σd ds, evs Φ a σd = .ok ds → ds.length ≤ 1000) : OkE Φ X (.lst a) (.List es p) := by
  intro O H σd σ d rp hv Q q
  rw [ev] at hv
  obtain ⟨ds, e1, hv⟩ := bd_inv hv
  cases hv
  refine SE.fits (SE.of (pe_lst pa_s) ?_)
  refine ha O H σd σ ds rp e1 _ fun vs H1 s1 dv => ⟨?_, fun l nl F => ?_⟩
  · have := hl σd ds e1
    rw [DpAll.length dv, sizeLine_eq]; omega
  · exact q _ _ (s1.trans (same_upd nl)) (Res.of_new ((New.lst nl (rp.ol.same s1) dv).old s1)) F
theorem ok_call (cx : Ctx G Φ X N sc) {f : Nat} {a : C} {x : Str} {e : Expr} {es : List Expr} {p p2 : Pos} (hg : glB sc x = true) (hn : nmOk x = true) (hf : G.gf.contains (f, x) = true) (hA : chkA G N a sc (e :: es) = true) (ha : OkR Φ X a (e :: es)) : OkE Φ X (.call f a) (.Call (.Name x p) (e :: es) [] p2) := by
  intro O H σd σ d rp hv Q q
  rw [ev] at hv
  obtain ⟨ds, e1, hv⟩ := bd_inv hv
  obtain ⟨g, hv⟩ := gd_inv hv
  have F := cx.gf f x hf
  obtain ⟨fa, fd, ps, k, m1, m2, ok, rm, bi⟩ := F.ex
  have hs : starEach (e :: es) X.env = (false, eval e X.env) :: starEach es X.env ∧ (backTo p2 (starEach es X.env)).any (·.1) = false := by
    cases a <;> first | (simp [chkA] at hA; done) | skip
    simp only [chkA, Bool.and_eq_true] at hA
    exact ⟨star_cons X.env hA.1.2, star_any p2 X.env _ _ hA.2⟩
  refine SE.fits (SE.of (pe_call ok rm (gl_of cx hg) m1 m2 bi .nil pass0 pa_s (nm_of hn).1 hs.1 hs.2) ?_)
  refine ha O H σd σ ds rp e1 _ fun vs H1 s1 dv => ?_
  refine ⟨ds, d, ?_, ?_, hv, fun v H2 s2 rt Fi => ?_⟩
  · rw [List.append_nil, dv.length]; exact F.ln ds d hv
  · rw [List.append_nil]; exact dv.dp
  · exact q v H2 (s1.trans s2) (Res.of_new ((rt.new (F.fl g ds d hv) (rp.ol.same s1) s2).old s1)) Fi
theorem ok_bi (cx : Ctx G Φ X N sc) {b : Bi} {a : C} {e : Expr} {es : List Expr} {p p2 : Pos} (hg : bltOk G sc (biName b) = true) (hA : chkA G N a sc (e :: es) = true) (ha : OkR Φ X a (e :: es)) : OkE Φ X (.bi b a) (.Call (.Name (biName b) p) (e :: es) [] p2) := by
  intro O H σd σ d rp hv Q q
  rw [ev] at hv
  obtain ⟨ds, e1, hv⟩ := bd_inv hv
  obtain ⟨g1, g2, g3, g4⟩ := blt_of cx hg
  have hs : starEach (e :: es) X.env = (false, eval e X.env) :: starEach es X.env ∧ (backTo p2 (starEach es X.env)).any (·.1) = false := by
    cases a <;> first | (simp [chkA] at hA; done) | skip
    simp only [chkA, Bool.and_eq_true] at hA
    exact ⟨star_cons X.env hA.1.2, star_any p2 X.env _ _ hA.2⟩
  have main : tCB (rBi X.K b) (SA X (e :: es)) σ H fun v H1 => Fits X.K H1 → Q v H1 :=
    ha O H σd σ ds rp e1 _ fun vs H1 s1 dv => bi_of (rp.ol.same s1) dv hv fun v H2 s2 n F => q v H2 (s1.trans s2) (Res.of_new (n.old s1)) F
  have cr := cr_bi (X := X) cx.calm cx.hu b
  have bt := boot_bi b
  refine SE.fits ?_
  cases b <;> first
    | exact SE.of (pe_callB cr g1 g2 bt pa_s g3 g4 hs.1 hs.2) main
    | exact SE.of (pe_callTy cr g1 g2 bt pa_s g3 g4 hs.1 hs.2) main
end
/-! ### isinstance -/
def tyStr : Ty → String
  | .int => "int" | .bool => "bool" | .str => "str" | .tuple => "tuple" | .list => "list"
def rIsD (K : PySem.W.Frag) (t : Ty) : List V → Hp → VK → Prop := fun vs H Q => ∃ x d, vs = [x, .ty (tyStr t)] ∧ Dp K H x d ∧ Q (.bl (isiD t d)) H
theorem cr_isD {X : Cx} (t : Ty) : CallR X (.builtin "isinstance") (rIsD X.K t) := by
  intro pins s σ H vs us Q I r h
  obtain ⟨x, d, rfl, hd, q⟩ := h
  obtain ⟨u, w, rfl, ru, rw'⟩ := vals2 r
  cases (show w = Value.type (tyStr t) from rw')
  obtain ⟨as, rd⟩ := Dp.reads I d x u hd ru
  cases t with
  | int => exact PySem.W.isinstance_int_data rd fun tk _ => ⟨.bl _, H, I.tok tk, rfl, q⟩
  | bool => exact PySem.W.isinstance_bool_data rd fun tk _ => ⟨.bl _, H, I.tok tk, rfl, q⟩
  | str => exact PySem.W.isinstance_str_data rd fun tk _ => ⟨.bl _, H, I.tok tk, rfl, q⟩
  | tuple => exact PySem.W.isinstance_tuple_data rd fun tk _ => ⟨.bl _, H, I.tok tk, rfl, q⟩
  | list => exact PySem.W.isinstance_list_data rd fun tk _ => ⟨.bl _, H, I.tok tk, rfl, q⟩
theorem boot_ty (t : Ty) : bootBuiltins (tyName t) = some (.type (tyStr t)) := by
  cases t <;> decide +kernel
theorem boot_isi : bootBuiltins "isinstance" = some (.builtin "isinstance") := by decide +kernel
section
variable {G : GE} {Φ : Nat → FnS} {X : Cx} {N : List Str} {sc : Scope}
theorem ok_isi (cx : Ctx G Φ X N sc) {t : Ty} {a : C} {e : Expr} {p p2 p3 : Pos} (hg : bltOk G sc "isinstance" = true) (hg2 : bltOk G sc (tyName t) = true) (hs : (!starred e) = true) (ha : OkE Φ X a e) : OkE Φ X (.isi t a) (.Call (.Name "isinstance" p) [e, .Name (tyName t) p3] [] p2) := by
  intro O H σd σ d rp hv Q q
  rw [ev] at hv
  obtain ⟨x, e1, hv⟩ := bd_inv hv
  cases hv
  obtain ⟨g1, g2, g3, g4⟩ := blt_of cx hg
  obtain ⟨k1, k2, k3, k4⟩ := blt_of cx hg2
  have p2' : PE X (.Name (tyName t) p3) (tC (.ty (tyStr t))) := pe_bltn k1 k2 (boot_ty t) rfl k3 k4
  have pa : PA X [e, .Name (tyName t) p3] (tCons (SE X e) (tCons (tC (.ty (tyStr t))) tNil)) := pa_cons pe_s (pa_cons p2' pa_nil rfl) (star_cons X.env hs)
  refine SE.fits (SE.of (pe_callB (cr_isD t) g1 g2 boot_isi pa g3 g4 (star_cons X.env hs) rfl) ?_)
  exact ha O H σd σ x rp e1 _ fun v H1 s1 r1 _ => ⟨v, x, rfl, r1.dr.dp, fun F => q _ H1 s1 (Res.of_new .bool) F⟩
end
end Mt

set_option Elab.async false
set_option linter.all false
set_option maxRecDepth 100000
set_option maxHeartbeats 400000
/-! Expressions: shapes of one and two parts, chains of three. -/
namespace Mt
open PySem PySem.Spec PyProof.Rows L2
theorem rng_inv' {a b : D} {ds : List D} (h : rngOk a b = .ok ds) : ∃ i j, a = .int i ∧ b = .int j ∧ -1000000000 ≤ i ∧ i ≤ 1000000000 ∧ -1000000000 ≤ j ∧ j ≤ 1000000000 ∧ j - i ≤ 16777216 ∧ ds = rngD i j := by
  unfold rngOk at h
  split at h
  · obtain ⟨g, e⟩ := gd_inv h
    cases e
    simp only [Bool.and_eq_true, decide_eq_true_eq] at g
    exact ⟨_, _, rfl, rfl, g.1.1.1.1, g.1.1.1.2, g.1.1.2, g.1.2, g.2, rfl⟩
  · cases h
theorem dp_rgV {K : PySem.W.Frag} {H : Hp} (a b : Int) : DpAll K H (rgV a b) (rngD a b) := by
  unfold rgV rngD
  induction List.range (b - a).toNat with
  | nil => exact .nil
  | cons n r ih => exact .cons (.int _) ih
theorem intsOfD_eq : ∀ {ds : List D} {is : List Int}, intsOfD ds = .ok is → ds = is.map .int
  | [], _, h => by cases h; rfl
  | .int i :: ds, is, h => by
    obtain ⟨js, e, h⟩ := bd_inv h
    cases h
    rw [intsOfD_eq e]; rfl
  | .none :: _, _, h => by cases h
  | .bool _ :: _, _, h => by cases h
  | .str _ :: _, _, h => by cases h
  | .list _ :: _, _, h => by cases h
  | .tuple _ :: _, _, h => by cases h
  | .dict _ :: _, _, h => by cases h
theorem dpa_ints {K : PySem.W.Frag} {H : Hp} : ∀ {is : List Int} {vs : List V}, DpAll K H vs (is.map .int) → vs = is.map V.int
  | [], _, .nil => rfl
  | i :: is, _, .cons h t => by
    cases h
    rw [List.map_cons, dpa_ints t]
theorem base_ok {X : Cx} {o : Expr} {m : Str} (h : baseOk o = true) : attributeBase o m X.env (eval o X.env) = eval o X.env := by
  cases o <;> first | rfl | (cases h)
/-! ### sorted(set(..)) of pairs -/
theorem eq_of_rise {α : Type} (f : α → Int) : ∀ (l m : List α), l.Pairwise (fun a b => f a < f b) → m.Pairwise (fun a b => f a < f b) → (∀ x, x ∈ l ↔ x ∈ m) → l = m
  | [], [], _, _, _ => rfl
  | [], b :: m, _, _, h => absurd ((h b).mpr (List.mem_cons_self ..)) (by simp)
  | a :: l, [], _, _, h => absurd ((h a).mp (List.mem_cons_self ..)) (by simp)
  | a :: l, b :: m, hl, hm, h => by
    obtain ⟨h1, h2⟩ := List.pairwise_cons.mp hl
    obtain ⟨k1, k2⟩ := List.pairwise_cons.mp hm
    have hab : a = b := by
      rcases List.mem_cons.mp ((h a).mp (List.mem_cons_self ..)) with e | e
      · exact e
      · rcases List.mem_cons.mp ((h b).mpr (List.mem_cons_self ..)) with e' | e'
        · exact e'.symm
        · have x := k1 a e; have y := h1 b e'; omega
    subst hab
    congr 1
    refine eq_of_rise f l m h2 k2 fun x => ⟨fun hx => ?_, fun hx => ?_⟩
    · rcases List.mem_cons.mp ((h x).mp (List.mem_cons_of_mem _ hx)) with e | e
      · subst e; have := h1 x hx; omega
      · exact e
    · rcases List.mem_cons.mp ((h x).mpr (List.mem_cons_of_mem _ hx)) with e | e
      · subst e; have := k1 x hx; omega
      · exact e
theorem codeP_inj {p q : Int × Int} (hp : smallP p = true) (hq : smallP q = true) (h : codeP p = codeP q) : p = q := by
  unfold smallP at hp hq
  unfold codeP at h
  simp only [Bool.and_eq_true, decide_eq_true_eq] at hp hq
  obtain ⟨a, b⟩ := p
  obtain ⟨c, d⟩ := q
  simp only at hp hq h
  have : a = c := by omega
  have : b = d := by omega
  simp [*]
theorem mem_insP {p q : Int × Int} : ∀ {l : List (Int × Int)}, smallP p = true → (∀ z ∈ l, smallP z = true) → (q ∈ insP p l ↔ q = p ∨ q ∈ l)
  | [], _, _ => by simp [insP]
  | z :: l, hp, hl => by
    unfold insP
    split
    · simp
    · split
      · rename_i e
        have := codeP_inj hp (hl z (List.mem_cons_self ..)) e
        subst this
        simp
      · simp only [List.mem_cons, mem_insP hp fun y hy => hl y (List.mem_cons_of_mem _ hy)]
        constructor
        · rintro (h | h | h)
          · exact .inr (.inl h)
          · exact .inl h
          · exact .inr (.inr h)
        · rintro (h | h | h)
          · exact .inr (.inl h)
          · exact .inl h
          · exact .inr (.inr h)
theorem ris_insP {p : Int × Int} : ∀ {l : List (Int × Int)}, smallP p = true → (∀ z ∈ l, smallP z = true) → l.Pairwise (fun a b => codeP a < codeP b) → (insP p l).Pairwise (fun a b => codeP a < codeP b)
  | [], _, _, _ => by simp [insP]
  | z :: l, hp, hl, h => by
    obtain ⟨h1, h2⟩ := List.pairwise_cons.mp h
    unfold insP
    split
    · rename_i c
      refine List.pairwise_cons.mpr ⟨fun y hy => ?_, h⟩
      rcases List.mem_cons.mp hy with e | e
      · rw [e]; exact c
      · have := h1 y e; omega
    · split
      · exact h
      · rename_i c1 c2
        refine List.pairwise_cons.mpr ⟨fun y hy => ?_, ris_insP hp (fun y hy => hl y (List.mem_cons_of_mem _ hy)) h2⟩
        rcases (mem_insP hp fun y hy => hl y (List.mem_cons_of_mem _ hy)).mp hy with e | e
        · rw [e]; omega
        · exact h1 y e
theorem ssetP_ok : ∀ {ps : List (Int × Int)}, (∀ z ∈ ps, smallP z = true) → (∀ q, q ∈ ssetP ps ↔ q ∈ ps) ∧ (ssetP ps).Pairwise (fun a b => codeP a < codeP b)
  | [], _ => by simp [ssetP]
  | p :: ps, h => by
    obtain ⟨h1, h2⟩ := ssetP_ok fun z hz => h z (List.mem_cons_of_mem _ hz)
    have hp := h p (List.mem_cons_self ..)
    have hs : ∀ z ∈ ssetP ps, smallP z = true := fun z hz => h z (List.mem_cons_of_mem _ ((h1 z).mp hz))
    show (∀ q, q ∈ insP p (ssetP ps) ↔ _) ∧ (insP p (ssetP ps)).Pairwise _
    exact ⟨fun q => by rw [mem_insP hp hs, List.mem_cons, h1], ris_insP hp hs h2⟩
/-- the addresses of pairs -/
theorem prs_addr {K : PySem.W.Frag} {M : Hp} : ∀ {ds : List D} {ps : List (Int × Int)} {vs : List V}, prsOfD ds = .ok ps → DpAll K M vs ds → ∃ ks : List (Addr × List Int), vs = ks.map (fun p => V.ref p.1) ∧ ks.map (·.2) = ps.map (fun p => [p.1, p.2]) ∧ ∀ p ∈ ks, SqN M p.1 (p.2.map V.int)
  | [], _, _, h, q => by
    cases h; cases q
    exact ⟨[], rfl, rfl, nofun⟩
  | d :: ds, ps, _, h, q => by
    cases q with
    | cons a b =>
      unfold prsOfD at h
      split at h
      · rename_i e; cases e
      · rename_i x y ds' e
        cases e
        obtain ⟨ps', e', h⟩ := bd_inv h
        cases h
        obtain ⟨ks, h1, h2, h3⟩ := prs_addr e' b
        cases a with
        | @tup p xs _ hs hd =>
          obtain rfl : xs = [V.int x, V.int y] := by
            cases hd with
            | cons u v => cases u; cases v with
              | cons u v => cases u; cases v; rfl
          refine ⟨(p, [x, y]) :: ks, by rw [h1]; rfl, by rw [List.map_cons, h2]; rfl, fun r hr => ?_⟩
          rcases List.mem_cons.mp hr with e | e
          · rw [e]; exact hs
          · exact h3 r e
      · cases h
theorem codeP_eq (p : Int × Int) : TS.code 64 [p.1, p.2] = codeP p := code_pair p.1 p.2
theorem sset_eq {ps : List (Int × Int)} {L : List (Addr × List Int)} (hs : ∀ z ∈ ps, smallP z = true) (h1 : ∀ q ∈ L, ∃ p ∈ ps, q.2 = [p.1, p.2]) (h2 : ∀ p ∈ ps, [p.1, p.2] ∈ L.map (·.2)) (nd : (L.map (·.2)).Nodup) (hw : L.Pairwise fun q r => TS.code 64 q.2 ≤ TS.code 64 r.2) : L.map (·.2) = (ssetP ps).map fun p => [p.1, p.2] := by
  obtain ⟨m1, m2⟩ := ssetP_ok hs
  refine eq_of_rise (TS.code 64) _ _ ?_ ?_ fun x => ?_
  · have hw' : (L.map (·.2)).Pairwise fun a b => TS.code 64 a ≤ TS.code 64 b := List.pairwise_map.mpr hw
    refine List.Pairwise.imp_of_mem (fun {a b} ha hb h => ?_) (hw'.and nd)
    obtain ⟨q, hq, rfl⟩ := List.mem_map.mp ha
    obtain ⟨r, hr, rfl⟩ := List.mem_map.mp hb
    obtain ⟨p, hp, e⟩ := h1 q hq
    obtain ⟨p', hp', e'⟩ := h1 r hr
    have ne := h.2
    have le := h.1
    rw [e, e'] at ne le ⊢
    rw [codeP_eq, codeP_eq] at *
    have : codeP p ≠ codeP p' := fun z => ne (by rw [codeP_inj (hs p hp) (hs p' hp') z])
    omega
  · refine List.pairwise_map.mpr (m2.imp fun {a b} h => ?_)
    rw [codeP_eq, codeP_eq]; exact h
  · constructor
    · intro hx
      obtain ⟨q, hq, rfl⟩ := List.mem_map.mp hx
      obtain ⟨p, hp, e⟩ := h1 q hq
      exact List.mem_map.mpr ⟨p, (m1 p).mpr hp, e.symm⟩
    · intro hx
      obtain ⟨p, hp, rfl⟩ := List.mem_map.mp hx
      exact h2 p ((m1 p).mp hp)
theorem dp_prs {K : PySem.W.Frag} {M : Hp} : ∀ {L : List (Addr × List Int)} {ps : List (Int × Int)}, L.map (·.2) = ps.map (fun p => [p.1, p.2]) → (∀ q ∈ L, SqN M q.1 (q.2.map V.int)) → DpAll K M (L.map fun q => V.ref q.1) (ps.map prD2)
  | [], [], _, _ => .nil
  | q :: L, p :: ps, e, h => by
    rw [List.map_cons, List.map_cons] at e
    injection e with e1 e2
    have hq := h q (List.mem_cons_self ..)
    rw [e1] at hq
    exact .cons (.tup hq (.cons (.int _) (.cons (.int _) .nil))) (dp_prs e2 fun r hr => h r (List.mem_cons_of_mem _ hr))
  | [], _ :: _, e, _ => by simp at e
  | _ :: _, [], e, _ => by simp at e
section
variable {G : GE} {Φ : Nat → FnS} {X : Cx} {N : List Str} {sc : Scope}
theorem seqD_inv {d : D} {ds : List D} (h : seqD d = .ok ds) : d = .list ds ∨ d = .tuple ds := by
  unfold seqD at h
  split at h
  · cases h; exact .inl rfl
  · cases h; exact .inr rfl
  · cases h
theorem boot_set : bootBuiltins "set" = some (.type "set") := by decide +kernel
theorem boot_sorted' : bootBuiltins "sorted" = some (.builtin "sorted") := by decide +kernel
theorem boot_str' : bootBuiltins "str" = some (.type "str") := by decide +kernel
theorem Dr.seq {K : PySem.W.Frag} {O : List Addr} {H : Hp} {v : V} {d : D} {ds : List D} (h : Dr K O H v d) (e : seqD d = .ok ds) : ∃ p xs, v = .ref p ∧ (SqL K H p xs ∨ SqT K H p xs) ∧ DpAll K (msk H O) xs ds := by
  rcases seqD_inv e with rfl | rfl
  · obtain ⟨p, xs, rfl, hs, hd⟩ := h.list
    exact ⟨p, xs, rfl, .inl hs, hd⟩
  · obtain ⟨p, xs, rfl, hs, hd, _⟩ := h.tuple
    exact ⟨p, xs, rfl, .inr hs, hd⟩
theorem ok_sset (cx : Ctx G Φ X N sc) {a : C} {e : Expr} {p1 p2 p3 p4 : Pos} (g1 : bltOk G sc "sorted" = true) (g2 : bltOk G sc "set" = true) (g3 : (!starred e) = true) (ha : OkE Φ X a e) : OkE Φ X (.x1 .sset a) (.Call (.Name "sorted" p1) [.Call (.Name "set" p2) [e] [] p3] [] p4) := by
  intro O H σd σ d rp hv Q q
  rw [ev] at hv
  obtain ⟨d1, e1, hv⟩ := bd_inv hv
  obtain ⟨a1, a2, _, _⟩ := blt_of cx g1
  obtain ⟨b1, b2, _, _⟩ := blt_of cx g2
  obtain ⟨ds, e2, hv⟩ := bd_inv (show bd (seqD d1) _ = .ok d from hv)
  obtain ⟨ps, e3, hv⟩ := bd_inv hv
  obtain ⟨gs, hv⟩ := gd_inv hv
  cases hv
  rw [Bool.and_eq_true, decide_eq_true_eq, List.all_eq_true] at gs
  have hu := cx.hu
  refine SE.fits (SE.of (pe_callB (cr_sortedT cx.calm) a1 a2 boot_sorted' (pa_cons (pe_callTy (cr_setQ cx.calm (by omega)) b1 b2 boot_set (pa_cons pe_s pa_nil (star_cons X.env g3)) (he := star_cons X.env g3)) pa_nil)) ?_)
  refine ha O H σd σ _ rp e1 _ fun v H1 s1 r1 F => ?_
  obtain ⟨p, xs, rfl, hq, hd⟩ := r1.dr.seq e2
  obtain ⟨ks, rfl, hk2, hk3⟩ := prs_addr e3 hd
  have hl : ks.length = ps.length := by have := congrArg List.length hk2; simpa using this
  have hk1 : ∀ z ∈ ks, ∃ r ∈ ps, z.2 = [r.1, r.2] := fun z hz => by
    have : z.2 ∈ ps.map (fun p => [p.1, p.2]) := by rw [← hk2]; exact List.mem_map.mpr ⟨z, hz, rfl⟩
    obtain ⟨r, hr, e⟩ := List.mem_map.mp this
    exact ⟨r, hr, e.symm⟩
  refine ⟨p, ks, rfl, hq, fun z hz => sqT_same (msk_le _ _) (hk3 z hz).sq, by omega, fun A L na hs1 hs2 => ?_⟩
  have sA : Same H1 (upd H1 A (SetTO X.prog X.w A L)) := same_upd na
  refine ⟨A, L, 2, 64, rfl, upd_same, fun z hz => sqT_same sA (sqT_same (msk_le _ _) (hk3 z (hs1 z hz)).sq), by omega, fun z hz => ?_, fun L' P pm nd _ hw np F => ?_⟩
  · obtain ⟨r, hr, e⟩ := hk1 z (hs1 z hz)
    have sm := gs.2 r hr
    unfold smallP at sm
    simp only [Bool.and_eq_true, decide_eq_true_eq] at sm
    rw [e]
    refine ⟨rfl, fun y hy => ?_⟩
    simp only [List.mem_cons, List.not_mem_nil, or_false] at hy
    rcases hy with rfl | rfl <;> omega
  · have hL' : ∀ z ∈ L', z ∈ ks := fun z hz => hs1 z (pm.mem_iff.mp hz)
    have eq := sset_eq gs.2 (fun z hz => hk1 z (hL' z hz)) (fun r hr => ?_) nd hw
    · have o1 := rp.ol.same s1
      have dl : DpAll X.K (msk (upd H1 A (SetTO X.prog X.w A L)) O) (L'.map fun q => V.ref q.1) ((ssetP ps).map prD2) := dp_prs eq fun z hz => (hk3 z (hL' z hz)).same (msk_same sA)
      exact q _ _ (s1.trans (sA.trans (same_upd np))) (Res.of_new ((New.lst np (o1.same sA) dl).old (s1.trans sA))) F
    · have : [r.1, r.2] ∈ ks.map (·.2) := by rw [hk2]; exact List.mem_map.mpr ⟨r, hr, rfl⟩
      obtain ⟨z, hz, e⟩ := List.mem_map.mp this
      rw [← e]
      exact (pm.map (·.2)).mem_iff.mpr (hs2 z hz)
theorem ok_str (cx : Ctx G Φ X N sc) {a : C} {e : Expr} {p1 p2 : Pos} (g1 : bltOk G sc "str" = true) (g3 : (!starred e) = true) (ha : OkE Φ X a e) : OkE Φ X (.x1 .str a) (.Call (.Name "str" p1) [e] [] p2) := by
  intro O H σd σ d rp hv Q q
  rw [ev] at hv
  obtain ⟨d1, e1, hv⟩ := bd_inv hv
  obtain ⟨a1, a2, _, _⟩ := blt_of cx g1
  unfold x1D strD at hv
  simp only at hv
  split at hv
  · obtain ⟨gs, hv⟩ := gd_inv hv
    cases hv
    refine SE.fits (SE.of (pe_callTy call_str_int a1 a2 boot_str' (pa_cons pe_s pa_nil (star_cons X.env g3)) (he := star_cons X.env g3)) ?_)
    exact ha O H σd σ _ rp e1 _ fun v H1 s1 r1 F => ⟨_, by rw [r1.dr.int], of_decide_eq_true gs, fun F => q _ H1 s1 (Res.of_new .str) F⟩
  · cases hv
theorem ok_lenSet (cx : Ctx G Φ X N sc) {a : C} {e : Expr} {p1 p2 p3 p4 : Pos} (g1 : bltOk G sc "len" = true) (g2 : bltOk G sc "set" = true) (g3 : (!starred e) = true) (ha : OkE Φ X a e) : OkE Φ X (.x1 .lenSet a) (.Call (.Name "len" p1) [.Call (.Name "set" p2) [e] [] p3] [] p4) := by
  intro O H σd σ d rp hv Q q
  rw [ev] at hv
  obtain ⟨d1, e1, hv⟩ := bd_inv hv
  obtain ⟨a1, a2, _, _⟩ := blt_of cx g1
  obtain ⟨b1, b2, _, _⟩ := blt_of cx g2
  unfold x1D lenSetD at hv
  simp only at hv
  split at hv
  · rename_i ds
    obtain ⟨gs, hv⟩ := gd_inv hv
    cases hv
    have hu := cx.hu
    refine SE.fits (SE.of (pe_lenSetN cx.calm (by omega) a1 a2 b1 b2 pe_s (star_cons X.env g3)) ?_)
    refine ha O H σd σ _ rp e1 _ fun v H1 s1 r1 F => ?_
    obtain ⟨p, xs, rfl, _⟩ := r1.dr.tupleN
    exact ⟨p, ds, rfl, r1.dr.dp, gs, fun F => q _ H1 s1 (Res.of_new .int) F⟩
  · cases hv
theorem ok_x1 (cx : Ctx G Φ X N sc) {k : X1} {a : C} {x e : Expr} (hs : shX1 G sc k x = some e) (ha : OkE Φ X a e) : OkE Φ X (.x1 k a) x := by
  unfold shX1 at hs
  split at hs
  · split at hs
    · rename_i g
      cases hs
      simp only [Bool.and_eq_true, decide_eq_true_eq] at g
      obtain ⟨⟨⟨⟨rfl, g1⟩, rfl⟩, g2⟩, g3⟩ := g
      exact ok_sset cx g1 g2 g3 ha
    · cases hs
  · split at hs
    · rename_i g
      cases hs
      simp only [Bool.and_eq_true, decide_eq_true_eq] at g
      obtain ⟨⟨⟨⟨rfl, g1⟩, rfl⟩, g2⟩, g3⟩ := g
      exact ok_lenSet cx g1 g2 g3 ha
    · cases hs
  · split at hs
    · rename_i g
      cases hs
      simp only [Bool.and_eq_true, decide_eq_true_eq] at g
      obtain ⟨⟨rfl, g1⟩, g3⟩ := g
      exact ok_str cx g1 g3 ha
    · cases hs
  · intro O H σd σ d rp hv Q q
    rw [ev] at hv
    obtain ⟨d1, e1, hv⟩ := bd_inv hv
    split at hs
    · rename_i g
      cases hs
      simp only [Bool.and_eq_true, decide_eq_true_eq] at g
      obtain ⟨⟨⟨⟨rfl, g1⟩, rfl⟩, g2⟩, g3⟩ := g
      obtain ⟨a1, a2, _, _⟩ := blt_of cx g1
      obtain ⟨b1, b2, _, _⟩ := blt_of cx g2
      obtain ⟨ds, e2, hv⟩ := bd_inv (show bd (rngOk (.int 0) d1) (fun ds => Except.ok (PyData.list ds)) = .ok d from hv)
      cases hv
      obtain ⟨i, j, hi, rfl, c1, c2, c3, c4, c5, rfl⟩ := rng_inv' e2
      cases hi
      refine SE.fits (SE.of (pe_listRg cx.calm a1 a2 (prg_1 b1 b2 pe_s (star_cons X.env g3)) rfl) ?_)
      refine ha O H σd σ _ rp e1 _ fun v H1 s1 r1 F => ⟨j, r1.dr.int, ⟨by omega, by omega, by omega, by omega, by omega⟩, fun l nl F => ?_⟩
      exact q _ _ (s1.trans (same_upd nl)) (Res.of_new ((New.lst nl (rp.ol.same s1) (dp_rgV 0 j)).old s1)) F
    · cases hs
  · cases hs
theorem ok_x2 (cx : Ctx G Φ X N sc) {k : X2} {a b : C} {x e f : Expr} (hs : shX2 G sc k x = some (e, f)) (ha : OkE Φ X a e) (hb : OkE Φ X b f) : OkE Φ X (.x2 k a b) x := by
  intro O H σd σ d rp hv Q q
  rw [ev] at hv
  obtain ⟨d1, e1, hv⟩ := bd_inv hv
  obtain ⟨d2, e2, hv⟩ := bd_inv hv
  unfold shX2 at hs
  split at hs
  · split at hs
    · rename_i g
      cases hs
      simp only [Bool.and_eq_true, decide_eq_true_eq] at g
      obtain ⟨⟨⟨⟨⟨rfl, g1⟩, rfl⟩, g2⟩, g3⟩, g4⟩ := g
      obtain ⟨a1, a2, _, _⟩ := blt_of cx g1
      obtain ⟨b1, b2, _, _⟩ := blt_of cx g2
      obtain ⟨ds, e3, hv⟩ := bd_inv (show bd (rngOk d1 d2) (fun ds => Except.ok (PyData.list ds)) = .ok d from hv)
      cases hv
      obtain ⟨i, j, rfl, rfl, c1, c2, c3, c4, c5, rfl⟩ := rng_inv' e3
      refine SE.fits (SE.of (pe_listRg cx.calm a1 a2 (prg_2 b1 b2 pe_s pe_s (star_cons X.env g3) (star_cons X.env g4) (hp := by rw [star_cons X.env g4]; rfl)) rfl) ?_)
      refine ha O H σd σ _ rp e1 _ fun v H1 s1 r1 F => hb O H1 σd σ _ (rp.same s1) e2 _ fun w H2 s2 r2 _ => ⟨i, j, r1.dr.int, r2.dr.int, ⟨by omega, by omega, by omega, by omega, by omega⟩, fun l nl F => ?_⟩
      exact q _ _ (s1.trans (s2.trans (same_upd nl))) (Res.of_new ((New.lst nl ((rp.ol.same s1).same s2) (dp_rgV i j)).old (s1.trans s2))) F
    · cases hs
  · split at hs
    · rename_i g
      cases hs
      simp only [Bool.and_eq_true, decide_eq_true_eq] at g
      obtain ⟨⟨⟨rfl, g1⟩, g2⟩, g3⟩ := g
      match d1, hv with
      | .tuple ds, hv =>
        obtain ⟨gs, hv⟩ := gd_inv (show gd (shD (.list ds) && shD d2) _ = .ok d from hv)
        rw [Bool.and_eq_true] at gs
        split at hv
        · rename_i j hj
          cases hv
          obtain ⟨hj1, hj2, hj3⟩ := List.findIdx?_eq_some_iff_getElem.mp hj
          have hu := cx.hu
          refine SE.fits (SE.of (pe_indexN (by omega) pe_s (pa_cons pe_s pa_nil (star_cons X.env g3)) (base_ok g1) ?_ g2 (star_cons X.env g3) rfl) ?_)
          · rw [star_cons X.env g3]; rfl
          · refine ha O H σd σ _ rp e1 _ fun v H1 s1 r1 _ => ?_
            obtain ⟨p, xs, rfl, sq⟩ := r1.dr.tupleN
            refine ⟨⟨p, xs, rfl, sq⟩, hb O H1 σd σ _ (rp.same s1) e2 _ fun w H2 s2 r2 _ => ?_⟩
            refine ⟨p, w, d2, ds, j, ds[j], rfl, rfl, (r1.dr.same s2).dp, r2.dr.dp, gs.1, gs.2, List.getElem?_eq_getElem hj1, hj2, fun m z' hm hz => ?_, fun F => q _ H2 (s1.trans s2) (Res.of_new .int) F⟩
            obtain ⟨hm1, rfl⟩ := List.getElem?_eq_some_iff.mp hz
            have := hj3 m hm
            simpa using this
        · cases hv
      | .list ds, hv =>
        obtain ⟨gs, hv⟩ := gd_inv (show gd (shD (.list ds) && shD d2) _ = .ok d from hv)
        rw [Bool.and_eq_true] at gs
        split at hv
        · rename_i j hj
          cases hv
          obtain ⟨hj1, hj2, hj3⟩ := List.findIdx?_eq_some_iff_getElem.mp hj
          have hu := cx.hu
          refine SE.fits (SE.of (pe_bm PySem.F.plainAttrs_list PySem.F.slot_list_index PySem.F.type_list_index (mt_indexD (by omega)) pe_s (pa_cons pe_s pa_nil (star_cons X.env g3)) (base_ok g1) ?_ g2 (star_cons X.env g3) rfl) ?_)
          · rw [star_cons X.env g3]; rfl
          · refine ha O H σd σ _ rp e1 _ fun v H1 s1 r1 _ => ?_
            obtain ⟨p, xs, rfl, sq, _⟩ := r1.dr.list
            refine ⟨.inl ⟨rfl, xs, sq⟩, hb O H1 σd σ _ (rp.same s1) e2 _ fun w H2 s2 r2 _ => ?_⟩
            refine ⟨p, w, d2, ds, j, ds[j], rfl, rfl, (r1.dr.same s2).dp.kit, r2.dr.dp.kit, gs.1, gs.2, List.getElem?_eq_getElem hj1, hj2, fun m z' hm hz => ?_, fun F => q _ H2 (s1.trans s2) (Res.of_new .int) F⟩
            obtain ⟨hm1, rfl⟩ := List.getElem?_eq_some_iff.mp hz
            have := hj3 m hm
            simpa using this
        · cases hv
    · cases hs
  · split at hs
    · rename_i g
      cases hs
      simp only [Bool.and_eq_true, decide_eq_true_eq] at g
      obtain ⟨⟨⟨rfl, g1⟩, g2⟩, g3⟩ := g
      match d1, d2, hv with
      | .list ds, .int i, hv =>
        obtain ⟨is, e3, hv⟩ := bd_inv (show bd (intsOfD ds) (fun is => Except.ok (PyData.int (is.count i : Nat))) = .ok d from hv)
        cases hv
        have hx := intsOfD_eq e3
        subst hx
        refine SE.fits (SE.of (pe_bm PySem.F.plainAttrs_list PySem.F.slot_list_count PySem.F.type_list_count mt_lcount pe_s (pa_cons pe_s pa_nil (star_cons X.env g3)) (base_ok g1) ?_ g2 (star_cons X.env g3) rfl) ?_)
        · rw [star_cons X.env g3]; rfl
        · refine ha O H σd σ _ rp e1 _ fun v H1 s1 r1 _ => ?_
          obtain ⟨p, xs, rfl, sq, _⟩ := r1.dr.list
          refine ⟨.inl ⟨rfl, xs, sq⟩, hb O H1 σd σ _ (rp.same s1) e2 _ fun w H2 s2 r2 _ => ?_⟩
          obtain ⟨p', xs', e', sq', dv⟩ := (r1.dr.same s2).list
          cases e'
          have hy := dpa_ints dv
          subst hy
          exact ⟨p, is, i, rfl, by rw [r2.dr.int], sq', fun F => q _ H2 (s1.trans s2) (Res.of_new .int) F⟩
    · cases hs
  · cases hs
/-! ### a op b op c op d -/
def tChain3 (r r' r'' : R2) (ta tb tc td : TE) : TE := fun σ H Q => ta σ H fun x H1 => tb σ H1 fun y H2 => r x y H2 fun z H3 => ∃ k, z = .bl k ∧
  (if k = true then tc σ H3 fun w' H4 => r' y w' H4 (fun z2 H5 => ∃ k2, z2 = .bl k2 ∧ (if k2 = true then td σ H5 fun w2 H6 => r'' w' w2 H6 Q else Q (.bl false) H5)) else Q (.bl false) H3)
theorem pe_chain3 {op op' op'' : CmpOp} {r r' r'' : R2} {a b c d : Expr} {ta tb tc td : TE} {pos : Pos} (ho : OpR X (compareOp op) r) (ho' : OpR X (compareOp op') r') (ho'' : OpR X (compareOp op'') r'') (ha : PE X a ta) (hb : PE X b tb) (hc : PE X c tc) (hd : PE X d td)
    (hm : lastMarks [op, op', op''] [b, c, d] = false) : PE X (.Compare a [op, op', op''] [b, c, d] pos) (tChain3 r r' r'' ta tb tc td) := by
  refine ⟨fun pins s σ H Q I h => ?_⟩
  refine Compare_chain (thn (ha.run pins s σ H _ I h) fun v s1 ⟨x, H1, I1, r1, q1⟩ => chain_link (thn (hb.run pins s1 σ H1 _ I1 q1) fun u s2 ⟨y, H2, I2, r2, q2⟩ =>
    thn (ho pins s2 σ H2 x y v u _ I2 r1 r2 q2) fun d s3 ⟨z, H3, I3, r3, k, e, q3⟩ => ?_)) hm
  subst e
  cases r3
  refine wpAny_truthy_bool ?_
  cases k with
  | false => exact ite_ff ⟨.bl false, H3, I3, rfl, q3⟩
  | true =>
    refine ite_tt (chain_link (thn (hc.run pins s3 σ H3 _ I3 q3) fun w' s4 ⟨z', H4, I4, r4, q4⟩ => thn (ho' pins s4 σ H4 y z' u w' _ I4 r2 r4 q4) fun d' s5 ⟨z2, H5, I5, r5, k2, e2, q5⟩ => ?_))
    subst e2
    cases r5
    refine wpAny_truthy_bool ?_
    cases k2 with
    | false => exact ite_ff ⟨.bl false, H5, I5, rfl, q5⟩
    | true => exact ite_tt (chain_last (thn (hd.run pins s5 σ H5 _ I5 q5) fun w2 s6 ⟨z3, H6, I6, r6, q6⟩ => ho'' pins s6 σ H6 z' z3 w' w2 Q I6 r4 r6 q6))
theorem pt_chain3 {op op' op'' : CmpOp} {r r' r'' : R2} {a b c d : Expr} {ta tb tc td : TE} {pos : Pos} (ho : OpR X (compareOp op) r) (ho' : OpR X (compareOp op') r') (ho'' : OpR X (compareOp op'') r'') (ha : PE X a ta) (hb : PE X b tb) (hc : PE X c tc) (hd : PE X d td)
    (hm : lastMarks [op, op', op''] [b, c, d] = false) : PT X (.Compare a [op, op', op''] [b, c, d] pos) (tTest (tChain3 r r' r'' ta tb tc td)) := by
  refine ⟨fun pins s σ H Q I h => ?_⟩
  refine isTrue_chain (thn (ha.run pins s σ H _ I h) fun v s1 ⟨x, H1, I1, r1, q1⟩ => test_link (thn (hb.run pins s1 σ H1 _ I1 q1) fun u s2 ⟨y, H2, I2, r2, q2⟩ =>
    thn (ho pins s2 σ H2 x y v u _ I2 r1 r2 q2) fun d s3 ⟨z, H3, I3, r3, k, e, q3⟩ => ?_)) hm
  subst e
  cases r3
  refine wpAny_truthy_bool ?_
  cases k with
  | false =>
    obtain ⟨k', e', q'⟩ := q3
    cases e'
    exact ite_ff ⟨H3, I3, q'⟩
  | true =>
    refine ite_tt (test_link (thn (hc.run pins s3 σ H3 _ I3 q3) fun w' s4 ⟨z', H4, I4, r4, q4⟩ => thn (ho' pins s4 σ H4 y z' u w' _ I4 r2 r4 q4) fun d' s5 ⟨z2, H5, I5, r5, k2, e2, q5⟩ => ?_))
    subst e2
    cases r5
    refine wpAny_truthy_bool ?_
    cases k2 with
    | false =>
      obtain ⟨k', e', q'⟩ := q5
      cases e'
      exact ite_ff ⟨H5, I5, q'⟩
    | true =>
      refine ite_tt (test_last (thn (hd.run pins s5 σ H5 _ I5 q5) fun w2 s6 ⟨z3, H6, I6, r6, q6⟩ => thn (ho'' pins s6 σ H6 z' z3 w' w2 _ I6 r4 r6 q6) fun d2 s7 ⟨z4, H7, I7, r7, k3, e3, q7⟩ => ?_))
      subst e3
      cases r7
      exact wpAny_truthy_bool ⟨H7, I7, q7⟩
theorem ch3_read (cx : Ctx G Φ X N sc) {op op2 op3 : CmpOp} {a b c t : C} {l m r u : Expr} (ha : OkE Φ X a l) (hb : OkE Φ X b m) (hc : OkE Φ X c r) (ht : OkE Φ X t u) {O : List Addr} {H : Hp} {σd : Sg} {σ : L2.St} {d : D} (rp : RepE X.K O H σd σ) (hv : ev Φ (.ch3 op op2 op3 a b c t) σd = .ok d) {Q : VK}
    (q : ∀ k H', d = .bool k → Same H H' → Q (.bl k) H') : tChain3 (rCmp X.K op) (rCmp X.K op2) (rCmp X.K op3) (SE X l) (SE X m) (SE X r) (SE X u) σ H Q := by
  rw [ev] at hv
  obtain ⟨x, e1, hv⟩ := bd_inv hv
  obtain ⟨y, e2, hv⟩ := bd_inv hv
  obtain ⟨r0, e3, hv⟩ := bd_inv hv
  obtain ⟨k, rfl⟩ := cmpD_bool e3
  rw [asB, bd_ok] at hv
  refine ha O H σd σ x rp e1 _ fun v H1 s1 r1 _ => hb O H1 σd σ y (rp.same s1) e2 _ fun w H2 s2 r2 _ => ?_
  refine cmp_read (r1.dr.same s2) r2.dr e3 ⟨k, rfl, ?_⟩
  cases k with
  | false =>
    rw [if_neg Bool.false_ne_true] at hv
    cases hv
    exact iteF (q _ _ rfl (s1.trans s2))
  | true =>
    rw [if_pos rfl] at hv
    obtain ⟨z, e4, hv⟩ := bd_inv hv
    obtain ⟨r5, e5, hv⟩ := bd_inv hv
    obtain ⟨k2, rfl⟩ := cmpD_bool e5
    rw [asB, bd_ok] at hv
    refine iteT (hc O H2 σd σ z ((rp.same s1).same s2) e4 _ fun w2 H3 s3 r3 _ => ?_)
    refine cmp_read (r2.dr.same s3) r3.dr e5 ⟨k2, rfl, ?_⟩
    cases k2 with
    | false =>
      rw [if_neg Bool.false_ne_true] at hv
      cases hv
      exact iteF (q _ _ rfl (s1.trans (s2.trans s3)))
    | true =>
      rw [if_pos rfl] at hv
      obtain ⟨z2, e6, hv⟩ := bd_inv hv
      obtain ⟨k3, rfl⟩ := cmpD_bool hv
      refine iteT (ht O H3 σd σ z2 (((rp.same s1).same s2).same s3) e6 _ fun w3 H4 s4 r4 _ => ?_)
      exact cmp_read (r3.dr.same s4) r4.dr hv (q _ _ rfl (s1.trans (s2.trans (s3.trans s4))))
theorem ch3_marks {op op2 op3 : CmpOp} (b c d : Expr) (h : op3 ≠ .In) (h2 : op3 ≠ .NotIn) : lastMarks [op, op2, op3] [b, c, d] = false := by
  show behindInMarks op3 d = false
  exact nobehind d h h2
theorem ok_ch3 (cx : Ctx G Φ X N sc) {op op2 op3 : CmpOp} {a b c t : C} {l m r u : Expr} {p : Pos} (ha : OkE Φ X a l) (hb : OkE Φ X b m) (hc : OkE Φ X c r) (ht : OkE Φ X t u) (h : op3 ≠ .In) (h2 : op3 ≠ .NotIn) : OkE Φ X (.ch3 op op2 op3 a b c t) (.Compare l [op, op2, op3] [m, r, u] p) := by
  intro O H σd σ d rp hv Q q
  refine SE.fits (SE.of (pe_chain3 (op_cmp cx.hu op) (op_cmp cx.hu op2) (op_cmp cx.hu op3) pe_s pe_s pe_s pe_s (ch3_marks m r u h h2)) ?_)
  exact ch3_read cx ha hb hc ht rp hv fun k H' e s F => q _ H' s (by rw [e]; exact Res.of_new .bool) F
theorem okB_ch3 (cx : Ctx G Φ X N sc) {op op2 op3 : CmpOp} {a b c t : C} {l m r u : Expr} {p : Pos} (ha : OkE Φ X a l) (hb : OkE Φ X b m) (hc : OkE Φ X c r) (ht : OkE Φ X t u) (h : op3 ≠ .In) (h2 : op3 ≠ .NotIn) : OkB Φ X (.ch3 op op2 op3 a b c t) (.Compare l [op, op2, op3] [m, r, u] p) := by
  intro O H σd σ k rp hv Q q
  refine ST.of (pt_chain3 (op_cmp cx.hu op) (op_cmp cx.hu op2) (op_cmp cx.hu op3) pe_s pe_s pe_s pe_s (ch3_marks m r u h h2)) ?_
  exact ch3_read cx ha hb hc ht rp hv fun k' H' e s => ⟨k', rfl, by cases e; exact q H' s⟩
end
end Mt

set_option Elab.async false
set_option linter.all false
set_option maxRecDepth 100000
set_option maxHeartbeats 400000
/-! Expressions: lists of them, walks, comprehensions; all together. -/
namespace Mt
open PySem PySem.Spec PyProof.Rows L2
section
variable {G : GE} {Φ : Nat → FnS} {X : Cx} {N : List Str} {sc : Scope}
theorem okS_nil : OkS Φ X .nil [] := by
  intro O H σd σ ds rp hv Q q
  rw [evs] at hv
  cases hv
  exact SA.of pa_nil (q [] H (Same.refl _) .nil)
theorem okS_cons {a b : C} {e : Expr} {es : List Expr} (hs : (!starred e) = true) (ha : OkE Φ X a e) (hb : OkS Φ X b es) : OkS Φ X (.cons a b) (e :: es) := by
  intro O H σd σ ds rp hv Q q
  rw [evs] at hv
  obtain ⟨d, e1, hv⟩ := bd_inv hv
  obtain ⟨r, e2, hv⟩ := bd_inv hv
  cases hv
  obtain ⟨e1, t1⟩ := strict_ok e1
  refine SA.of (pa_cons pe_s pa_s (star_cons X.env hs)) ?_
  refine ha O H σd σ d rp e1 _ fun v H1 s1 r1 _ => hb O H1 σd σ r (rp.same s1) e2 _ fun vs H2 s2 r2 => ?_
  exact q _ H2 (s1.trans s2) (.cons (Dp.mono (msk_same s2) (r1.im t1)) r2)
theorem okR_nil : OkR Φ X .nil [] := by
  intro O H σd σ ds rp hv Q q
  rw [evr] at hv
  cases hv
  exact SA.of pa_nil (q [] H (Same.refl _) .nil)
theorem okR_cons {a b : C} {e : Expr} {es : List Expr} (hs : (!starred e) = true) (ha : OkE Φ X a e) (hb : OkR Φ X b es) : OkR Φ X (.cons a b) (e :: es) := by
  intro O H σd σ ds rp hv Q q
  rw [evr] at hv
  obtain ⟨d, e1, hv⟩ := bd_inv hv
  obtain ⟨r, e2, hv⟩ := bd_inv hv
  cases hv
  refine SA.of (pa_cons pe_s pa_s (star_cons X.env hs)) ?_
  refine ha O H σd σ d rp e1 _ fun v H1 s1 r1 _ => hb O H1 σd σ r (rp.same s1) e2 _ fun vs H2 s2 r2 => ?_
  exact q _ H2 (s1.trans s2) (.cons (r1.dr.same s2) r2)
theorem asB_inv {d : D} {b : Bool} (h : asB d = .ok b) : d = .bool b := by
  unfold asB at h
  split at h
  · cases h; rfl
  · cases h
theorem evAnd_nil (σ : Sg) {b : Bool} (h : evAnd Φ .nil σ = .ok b) : b = true := by rw [evAnd] at h; cases h; rfl
theorem evOr_nil (σ : Sg) {b : Bool} (h : evOr Φ .nil σ = .ok b) : b = false := by rw [evOr] at h; cases h; rfl
theorem okAnd_cons {a b : C} {e : Expr} {es : List Expr} (hA : chkA G N b sc es = true) (ha : OkE Φ X a e) (ha2 : OkB Φ X a e) (hb : OkAnd Φ X b es) : OkAnd Φ X (.cons a b) (e :: es) := by
  intro _ pos O H σd σ k rp hv
  rw [evAnd] at hv
  obtain ⟨d, e1, hw⟩ := bd_inv hv
  obtain ⟨c, e2, hz⟩ := bd_inv hw
  have hd := asB_inv e2
  subst hd
  clear hv hw e2
  cases es with
  | nil =>
    have hbn : b = .nil := by cases b <;> first | rfl | (simp [chkA] at hA)
    subst hbn
    have hk : k = c := by
      cases c with
      | true => rw [if_pos rfl] at hz; exact evAnd_nil σd hz
      | false => rw [if_neg Bool.false_ne_true] at hz; cases hz; rfl
    subst hk
    refine ⟨fun Q q => SE.of (pe_one pe_s) (ha O H σd σ _ rp e1 _ fun v H1 s1 r1 _ => ?_), fun Q q => SW.of (pw_and1 pt_s) (ha2 O H σd σ _ rp e1 _ q)⟩
    rw [r1.dr.bool]; exact q H1 s1
  | cons e' r =>
    refine ⟨fun Q q => SE.of (pe_and pe_s pe_s) (ha O H σd σ _ rp e1 _ fun v H1 s1 r1 _ => ⟨c, r1.dr.bool, ?_⟩), fun Q q => SW.of (pw_and pt_s pw_s) (ha2 O H σd σ _ rp e1 _ fun H1 s1 => ?_)⟩
    · cases c with
      | true => rw [if_pos rfl] at hz; exact iteT ((hb (by simp) pos O H1 σd σ k (rp.same s1) hz).1 Q fun H2 s2 => q H2 (s1.trans s2))
      | false => rw [if_neg Bool.false_ne_true] at hz; cases hz; exact iteF (q H1 s1)
    · cases c with
      | true => rw [if_pos rfl] at hz; exact iteT ((hb (by simp) pos O H1 σd σ k (rp.same s1) hz).2 Q fun H2 s2 => q H2 (s1.trans s2))
      | false => rw [if_neg Bool.false_ne_true] at hz; cases hz; exact iteF (q H1 s1)
theorem okOr_cons {a b : C} {e : Expr} {es : List Expr} (hA : chkA G N b sc es = true) (ha : OkE Φ X a e) (ha2 : OkB Φ X a e) (hb : OkOr Φ X b es) : OkOr Φ X (.cons a b) (e :: es) := by
  intro _ pos O H σd σ k rp hv
  rw [evOr] at hv
  obtain ⟨d, e1, hw⟩ := bd_inv hv
  obtain ⟨c, e2, hz⟩ := bd_inv hw
  have hd := asB_inv e2
  subst hd
  clear hv hw e2
  cases es with
  | nil =>
    have hbn : b = .nil := by cases b <;> first | rfl | (simp [chkA] at hA)
    subst hbn
    have hk : k = c := by
      cases c with
      | false => rw [if_neg Bool.false_ne_true] at hz; exact evOr_nil σd hz
      | true => rw [if_pos rfl] at hz; cases hz; rfl
    subst hk
    refine ⟨fun Q q => SE.of (pe_one pe_s) (ha O H σd σ _ rp e1 _ fun v H1 s1 r1 _ => ?_), fun Q q => SW.of (pw_or1 pt_s) (ha2 O H σd σ _ rp e1 _ q)⟩
    rw [r1.dr.bool]; exact q H1 s1
  | cons e' r =>
    refine ⟨fun Q q => SE.of (pe_or pe_s pe_s) (ha O H σd σ _ rp e1 _ fun v H1 s1 r1 _ => ⟨c, r1.dr.bool, ?_⟩), fun Q q => SW.of (pw_or pt_s pw_s) (ha2 O H σd σ _ rp e1 _ fun H1 s1 => ?_)⟩
    · cases c with
      | false => rw [if_neg Bool.false_ne_true] at hz; exact iteF ((hb (by simp) pos O H1 σd σ k (rp.same s1) hz).1 Q fun H2 s2 => q H2 (s1.trans s2))
      | true => rw [if_pos rfl] at hz; cases hz; exact iteT (q H1 s1)
    · cases c with
      | false => rw [if_neg Bool.false_ne_true] at hz; exact iteF ((hb (by simp) pos O H1 σd σ k (rp.same s1) hz).2 Q fun H2 s2 => q H2 (s1.trans s2))
      | true => rw [if_pos rfl] at hz; cases hz; exact iteT (q H1 s1)
theorem ok_and {a : C} {e : Expr} {es : List Expr} {p : Pos} (h : OkAnd Φ X a (e :: es)) : OkE Φ X (.and a) (.BoolOp .And (e :: es) p) := by
  intro O H σd σ d rp hv Q q
  rw [ev] at hv
  obtain ⟨k, e1, hv⟩ := bd_inv hv
  cases hv
  exact SE.fits ((h (by simp) p O H σd σ k rp e1).1 _ fun H1 s1 F => q _ H1 s1 (Res.of_new .bool) F)
theorem okB_and {a : C} {e : Expr} {es : List Expr} {p : Pos} (h : OkAnd Φ X a (e :: es)) : OkB Φ X (.and a) (.BoolOp .And (e :: es) p) := by
  intro O H σd σ b rp hv Q q
  rw [ev] at hv
  obtain ⟨k, e1, hv⟩ := bd_inv hv
  cases hv
  exact ST.of (PW.pt pw_s) ((h (by simp) p O H σd σ _ rp e1).2 Q q)
theorem ok_or {a : C} {e : Expr} {es : List Expr} {p : Pos} (h : OkOr Φ X a (e :: es)) : OkE Φ X (.or a) (.BoolOp .Or (e :: es) p) := by
  intro O H σd σ d rp hv Q q
  rw [ev] at hv
  obtain ⟨k, e1, hv⟩ := bd_inv hv
  cases hv
  exact SE.fits ((h (by simp) p O H σd σ k rp e1).1 _ fun H1 s1 F => q _ H1 s1 (Res.of_new .bool) F)
theorem okB_or {a : C} {e : Expr} {es : List Expr} {p : Pos} (h : OkOr Φ X a (e :: es)) : OkB Φ X (.or a) (.BoolOp .Or (e :: es) p) := by
  intro O H σd σ b rp hv Q q
  rw [ev] at hv
  obtain ⟨k, e1, hv⟩ := bd_inv hv
  cases hv
  exact ST.of (PW.pt pw_s) ((h (by simp) p O H σd σ _ rp e1).2 Q q)
theorem okP_nil : OkP Φ X .nil none := ⟨tNoPart, po_none, fun O H σd σ l rp hv Q q => by rw [evp] at hv; cases hv; exact q H (Same.refl _)⟩
theorem okP_some {a b : C} {e : Expr} (ha : OkE Φ X a e) : OkP Φ X (.cons a b) (some e) := by
  refine ⟨_, po_some pe_s, fun O H σd σ l rp hv Q q => ?_⟩
  rw [evp] at hv
  obtain ⟨d, e1, hv⟩ := bd_inv hv
  unfold partD at hv
  split at hv
  · cases hv
    exact ha O H σd σ _ rp e1 _ fun v H1 s1 r1 _ => ⟨_, r1.dr.int, q H1 s1⟩
  · cases hv
/-! ### walks -/
theorem pi_or {tg e : Expr} {u w : TI} (h : PI X tg e u) (h' : PI X tg e w) : PI X tg e (fun σ H R => u σ H R ∨ w σ H R) := ⟨fun pins s σ H R I z => by
  rcases z with z | z
  · exact h.run pins s σ H R I z
  · exact h'.run pins s σ H R I z⟩
theorem okI_seq {a b : C} {e : Expr} (ha : OkE Φ X a e) : OkI Φ X (.cons a b) e := by
  intro tg _
  refine ⟨_, pi_or (pi_list pe_s) (pi_tup pe_s), fun O H σd σ ds rp hv R q => ?_⟩
  rw [evIt] at hv
  obtain ⟨d, e1, hv⟩ := bd_inv hv
  unfold seqD at hv
  split at hv
  · cases hv
    refine .inl (ha O H σd σ _ rp e1 _ fun v H1 s1 r1 F => ?_)
    by_cases ht : tmpC σd a = false
    · have z := r1.im ht
      cases z with
      | @lst p xs _ hs hd =>
        have hs1 : SqL X.K H1 p xs := sqL_same (msk_le H1 O) hs
        refine ⟨p, rfl, ⟨xs, hs1⟩, q _ H1 (fun O' H' => ∃ xs, SqL X.K (msk H' O') p xs ∧ DpAll X.K (msk H' O') xs ds) s1 ?_ ⟨xs, hs, hd⟩ ?_ ?_ ?_⟩
        · have b := isIt_list (K := X.K) (a := p) (ds := ds)
          exact ⟨fun i O' H' ⟨ys, h1, h2⟩ => b.go i O' H' ⟨ys, sqL_same (msk_le _ _) h1, h2⟩, fun i O' H' ⟨ys, h1, h2⟩ => b.stop i O' H' ⟨ys, sqL_same (msk_le _ _) h1, h2⟩, fun i O' H' x H2 ⟨ys, h1, h2⟩ => b.yld i O' H' x H2 ⟨ys, sqL_same (msk_le _ _) h1, h2⟩⟩
        · rintro O1 O2 A B ⟨ys, h1, h2⟩ _ sm
          exact ⟨ys, sqL_same sm h1, DpAll.mono sm h2⟩
        · rintro _ O1 O2 A B ⟨ys, h1, h2⟩ sm
          exact ⟨ys, sqL_same sm h1, DpAll.mono sm h2⟩
        · rw [← DpAll.length hd]; exact F p xs (.inl hs1)
    · obtain ⟨p, xs, rfl, hs, hd⟩ := r1.dr.list
      refine ⟨p, rfl, ⟨xs, hs⟩, q _ H1 (fun O' H' => ∃ xs, SqL X.K H' p xs ∧ DpAll X.K (msk H' O') xs ds) s1 isIt_list ⟨xs, hs, hd⟩ ?_ (fun z => absurd z ht) ?_⟩
      · rintro O1 O2 A B ⟨ys, h1, h2⟩ s2 sm
        exact ⟨ys, sqL_same s2 h1, DpAll.mono sm h2⟩
      · rw [← DpAll.length hd]; exact F p xs (.inl hs)
  · cases hv
    refine .inr (ha O H σd σ _ rp e1 _ fun v H1 s1 r1 F => ?_)
    obtain ⟨p, xs, rfl, hs, hd, ip⟩ := r1.dr.tuple
    cases ip with
    | @tup _ ys _ hs1 hd1 =>
      refine ⟨p, rfl, ⟨xs, hs⟩, q _ H1 (fun O' H' => ∃ xs, SqT X.K (msk H' O') p xs ∧ DpAll X.K (msk H' O') xs ds) s1 ?_ ⟨ys, hs1.sq, hd1⟩ ?_ ?_ ?_⟩
      · have b := isIt_tup (K := X.K) (a := p) (ds := ds)
        exact ⟨fun i O' H' ⟨ys, h1, h2⟩ => b.go i O' H' ⟨ys, sqT_same (msk_le _ _) h1, h2⟩, fun i O' H' ⟨ys, h1, h2⟩ => b.stop i O' H' ⟨ys, sqT_same (msk_le _ _) h1, h2⟩, fun i O' H' x H2 ⟨ys, h1, h2⟩ => b.yld i O' H' x H2 ⟨ys, sqT_same (msk_le _ _) h1, h2⟩⟩
      · rintro O1 O2 A B ⟨ys, h1, h2⟩ _ sm
        exact ⟨ys, sqT_same sm h1, DpAll.mono sm h2⟩
      · rintro _ O1 O2 A B ⟨ys, h1, h2⟩ sm
        exact ⟨ys, sqT_same sm h1, DpAll.mono sm h2⟩
      · rw [← DpAll.length hd]; exact F p xs (.inr hs)
  · cases hv
theorem rng_inv {x y : D} {ds : List D} (h : rngOk x y = .ok ds) : ∃ i j, x = .int i ∧ y = .int j ∧ -1000000000 ≤ i ∧ i ≤ 1000000000 ∧ -1000000000 ≤ j ∧ j ≤ 1000000000 ∧ j - i ≤ 16777216 ∧ ds = rngD i j := by
  unfold rngOk at h
  split at h
  · obtain ⟨g, e⟩ := gd_inv h
    cases e
    simp only [Bool.and_eq_true, decide_eq_true_eq] at g
    exact ⟨_, _, rfl, rfl, g.1.1.1.1, g.1.1.1.2, g.1.1.2, g.1.2, g.2, rfl⟩
  · cases h
theorem rngD_len (i j : Int) : (rngD i j).length = (j - i).toNat := by rw [rngD, List.length_map, List.length_range]
theorem okI_rng1 (cx : Ctx G Φ X N sc) {a : C} {e : Expr} {p p2 : Pos} (hg : bltOk G sc "range" = true) (hs : (!starred e) = true) (ha : OkE Φ X a e) : OkI Φ X (.rng1 a) (.Call (.Name "range" p) [e] [] p2) := by
  intro tg _
  obtain ⟨g1, g2, _, _⟩ := blt_of cx hg
  refine ⟨_, pi_range1 g1 g2 (pa_cons pe_s pa_nil (star_cons X.env hs)) (star_cons X.env hs), fun O H σd σ ds rp hv R q => ?_⟩
  rw [evIt] at hv
  obtain ⟨d, e1, hv⟩ := bd_inv hv
  obtain ⟨i, j, hi, rfl, b1, b2, b3, b4, b5, rfl⟩ := rng_inv hv
  cases hi
  refine ha O H σd σ _ rp e1 _ fun v H1 s1 r1 F => ⟨j, ?_, by omega, by omega, ?_⟩
  · rw [r1.dr.int]
  · refine q _ H1 (fun _ _ => True) s1 ?_ trivial (fun _ _ _ _ _ _ _ => trivial) (fun _ _ _ _ _ _ _ => trivial) (by rw [rngD_len]; omega)
    have b := isIt_rng (K := X.K) (a := 0) (b := j)
    rw [Int.sub_zero] at b
    exact b
theorem okI_rng2 (cx : Ctx G Φ X N sc) {a b : C} {e e2 : Expr} {p p2 : Pos} (hg : bltOk G sc "range" = true) (hs : (!starred e) = true) (hs2 : (!starred e2) = true) (ha : OkE Φ X a e) (hb : OkE Φ X b e2) : OkI Φ X (.rng2 a b) (.Call (.Name "range" p) [e, e2] [] p2) := by
  intro tg _
  obtain ⟨g1, g2, _, _⟩ := blt_of cx hg
  have st : starEach [e2] X.env = [(false, eval e2 X.env)] := star_cons X.env hs2
  refine ⟨_, pi_range2 g1 g2 (pa_cons pe_s (pa_cons pe_s pa_nil (star_cons X.env hs2)) (star_cons X.env hs)) (by rw [star_cons X.env hs, st]) st, fun O H σd σ ds rp hv R q => ?_⟩
  rw [evIt] at hv
  obtain ⟨x, e1, hv⟩ := bd_inv hv
  obtain ⟨y, e2, hv⟩ := bd_inv hv
  obtain ⟨i, j, rfl, rfl, b1, b2, b3, b4, b5, rfl⟩ := rng_inv hv
  refine ha O H σd σ _ rp e1 _ fun v H1 s1 r1 _ => hb O H1 σd σ _ (rp.same s1) e2 _ fun w H2 s2 r2 _ => ⟨i, j, ?_, ⟨by omega, by omega, by omega, by omega⟩, ?_⟩
  · rw [r1.dr.int, r2.dr.int]
  · exact q _ H2 (fun _ _ => True) (s1.trans s2) isIt_rng trivial (fun _ _ _ _ _ _ _ => trivial) (fun _ _ _ _ _ _ _ => trivial) (by rw [rngD_len]; omega)
/-! ### enumerate, zip -/
theorem enumD_get (ds : List D) (i : Nat) : (enumD ds)[i]? = ds[i]?.map fun d => .tuple [.int (i : Nat), d] := by
  unfold enumD
  rw [List.getElem?_mapIdx]
theorem enumD_len (ds : List D) : (enumD ds).length = ds.length := by unfold enumD; rw [List.length_mapIdx]
theorem new_pair {K : PySem.W.Frag} {O : List Addr} {H : Hp} {T : Addr} {x y : V} {d e : D} (o : OL H O) (n : H T = none) (hx : Dp K (msk H O) x d) (hy : Dp K (msk H O) y e) : Same H (upd H T (.tup [x, y])) ∧ Dw K true (msk (upd H T (.tup [x, y])) O) (.ref T) (.tuple [d, e]) := by
  have s : Same H (upd H T (.tup [x, y])) := same_upd n
  have nT : T ∉ O := fun m => by obtain ⟨_, z⟩ := o T m; rw [n] at z; cases z
  exact ⟨s, .inr ⟨rfl, T, _, _, rfl, rfl, .inl (.inl (by rw [msk_out nT]; exact upd_same)), .cons (Dp.mono (msk_same s) hx) (.cons (Dp.mono (msk_same s) hy) .nil)⟩⟩
theorem isIt_enumL {K : PySem.W.Frag} {a : Addr} {ds : List D} : IsIt K true (Ite K a) (enumD ds) (fun O H => ∃ xs, SqL K H a xs ∧ DpAll K (msk H O) xs ds) where
  go := fun i O H ⟨xs, h, q⟩ hi => by
    have l := DpAll.length q
    rw [enumD_len] at hi
    exact ⟨xs, xs[i]'(by omega), h, List.getElem?_eq_getElem _⟩
  stop := fun i O H ⟨xs, h, q⟩ hi => ⟨xs, h, by rw [enumD_len] at hi; rw [DpAll.length q]; exact hi⟩
  yld := fun i O H x H' ⟨xs, h, q⟩ o hi y => by
    obtain ⟨T, z, rfl, n, rfl, hz⟩ := y
    obtain ⟨d, hd, dp⟩ := DpAll.get' q (hz xs h)
    obtain ⟨s, r⟩ := new_pair o n (.int (i : Nat)) dp
    exact ⟨s, _, by rw [enumD_get, hd]; rfl, r⟩
theorem isIt_enumT {K : PySem.W.Frag} {a : Addr} {ds : List D} : IsIt K true (IteT K a) (enumD ds) (fun O H => ∃ xs, SqT K H a xs ∧ DpAll K (msk H O) xs ds) where
  go := fun i O H ⟨xs, h, q⟩ hi => by
    have l := DpAll.length q
    rw [enumD_len] at hi
    exact ⟨xs, xs[i]'(by omega), h, List.getElem?_eq_getElem _⟩
  stop := fun i O H ⟨xs, h, q⟩ hi => ⟨xs, h, by rw [enumD_len] at hi; rw [DpAll.length q]; exact hi⟩
  yld := fun i O H x H' ⟨xs, h, q⟩ o hi y => by
    obtain ⟨T, z, rfl, n, rfl, hz⟩ := y
    obtain ⟨d, hd, dp⟩ := DpAll.get' q (hz xs h)
    obtain ⟨s, r⟩ := new_pair o n (.int (i : Nat)) dp
    exact ⟨s, _, by rw [enumD_get, hd]; rfl, r⟩
theorem isIt_zipT {K : PySem.W.Frag} {a b : Addr} {ds es : List D} (hl : ds.length = es.length) : IsIt K true (RZ.ItzT K a b) (List.zipWith (fun x y => PyData.tuple [x, y]) ds es) (fun O H => ∃ xs ys, SqT K H a xs ∧ SqT K H b ys ∧ DpAll K (msk H O) xs ds ∧ DpAll K (msk H O) ys es) where
  go := fun i O H ⟨xs, ys, h, h', q, q'⟩ hi => by
    have l := DpAll.length q
    have l' := DpAll.length q'
    rw [List.length_zipWith] at hi
    exact ⟨xs, ys, xs[i]'(by omega), ys[i]'(by omega), h, h', List.getElem?_eq_getElem _, List.getElem?_eq_getElem _⟩
  stop := fun i O H ⟨xs, ys, h, h', q, q'⟩ hi => ⟨xs, ys, h, h', by rw [List.length_zipWith] at hi; left; rw [DpAll.length q]; omega⟩
  yld := fun i O H x H' ⟨xs, ys, h, h', q, q'⟩ o hi y => by
    obtain ⟨T, u, w, rfl, n, rfl, hz, hz'⟩ := y
    obtain ⟨d, hd, dp⟩ := DpAll.get' q (hz xs h)
    obtain ⟨e, he, ep⟩ := DpAll.get' q' (hz' ys h')
    obtain ⟨s, r⟩ := new_pair o n dp ep
    exact ⟨s, _, by rw [List.getElem?_zipWith, hd, he], r⟩
theorem okI_enm (cx : Ctx G Φ X N sc) {a : C} {e : Expr} {p p2 : Pos} (hg : bltOk G sc "enumerate" = true) (hs : (!starred e) = true) (ha : OkE Φ X a e) : OkI Φ X (.enm a) (.Call (.Name "enumerate" p) [e] [] p2) := by
  intro tg ht
  cases tg <;> first | (cases ht; done) | skip
  obtain ⟨g1, g2, _, _⟩ := blt_of cx hg
  refine ⟨_, pi_enumA g1 g2 (pa_cons pe_s pa_nil (star_cons X.env hs)) (star_cons X.env hs), fun O H σd σ ds rp hv R q => ?_⟩
  rw [evIt] at hv
  obtain ⟨d, e1, hv⟩ := bd_inv hv
  obtain ⟨ds, e2, hv⟩ := bd_inv hv
  cases hv
  rcases seqD_inv e2 with rfl | rfl
  · refine ha O H σd σ _ rp e1 _ fun v H1 s1 r1 F => ?_
    by_cases htm : tmpC σd a = false
    · have z := r1.im htm
      cases z with
      | @lst p xs _ hs' hd =>
        have hs1 : SqL X.K H1 p xs := sqL_same (msk_le H1 O) hs'
        refine ⟨p, xs, rfl, .inl ⟨hs1, q _ H1 (fun O' H' => ∃ xs, SqL X.K (msk H' O') p xs ∧ DpAll X.K (msk H' O') xs ds) s1 ?_ ⟨xs, hs', hd⟩ ?_ ?_ ?_⟩⟩
        · have b := isIt_enumL (K := X.K) (a := p) (ds := ds)
          exact ⟨fun i O' H' ⟨ys, h1, h2⟩ => b.go i O' H' ⟨ys, sqL_same (msk_le _ _) h1, h2⟩, fun i O' H' ⟨ys, h1, h2⟩ => b.stop i O' H' ⟨ys, sqL_same (msk_le _ _) h1, h2⟩, fun i O' H' x H2 ⟨ys, h1, h2⟩ => b.yld i O' H' x H2 ⟨ys, sqL_same (msk_le _ _) h1, h2⟩⟩
        · rintro O1 O2 A B ⟨ys, h1, h2⟩ _ sm
          exact ⟨ys, sqL_same sm h1, DpAll.mono sm h2⟩
        · rintro _ O1 O2 A B ⟨ys, h1, h2⟩ sm
          exact ⟨ys, sqL_same sm h1, DpAll.mono sm h2⟩
        · rw [enumD_len, ← DpAll.length hd]; exact F p xs (.inl hs1)
    · obtain ⟨p, xs, rfl, hs', hd⟩ := r1.dr.list
      refine ⟨p, xs, rfl, .inl ⟨hs', q _ H1 (fun O' H' => ∃ xs, SqL X.K H' p xs ∧ DpAll X.K (msk H' O') xs ds) s1 isIt_enumL ⟨xs, hs', hd⟩ ?_ (fun z => absurd z htm) ?_⟩⟩
      · rintro O1 O2 A B ⟨ys, h1, h2⟩ s2 sm
        exact ⟨ys, sqL_same s2 h1, DpAll.mono sm h2⟩
      · rw [enumD_len, ← DpAll.length hd]; exact F p xs (.inl hs')
  · refine ha O H σd σ _ rp e1 _ fun v H1 s1 r1 F => ?_
    obtain ⟨p, xs, rfl, hs', hd, ip⟩ := r1.dr.tuple
    cases ip with
    | @tup _ ys _ hs1 hd1 =>
      refine ⟨p, xs, rfl, .inr ⟨hs', q _ H1 (fun O' H' => ∃ xs, SqT X.K (msk H' O') p xs ∧ DpAll X.K (msk H' O') xs ds) s1 ?_ ⟨ys, hs1.sq, hd1⟩ ?_ ?_ ?_⟩⟩
      · have b := isIt_enumT (K := X.K) (a := p) (ds := ds)
        exact ⟨fun i O' H' ⟨ys, h1, h2⟩ => b.go i O' H' ⟨ys, sqT_same (msk_le _ _) h1, h2⟩, fun i O' H' ⟨ys, h1, h2⟩ => b.stop i O' H' ⟨ys, sqT_same (msk_le _ _) h1, h2⟩, fun i O' H' x H2 ⟨ys, h1, h2⟩ => b.yld i O' H' x H2 ⟨ys, sqT_same (msk_le _ _) h1, h2⟩⟩
      · rintro O1 O2 A B ⟨ys, h1, h2⟩ _ sm
        exact ⟨ys, sqT_same sm h1, DpAll.mono sm h2⟩
      · rintro _ O1 O2 A B ⟨ys, h1, h2⟩ sm
        exact ⟨ys, sqT_same sm h1, DpAll.mono sm h2⟩
      · rw [enumD_len, ← DpAll.length hd]; exact F p xs (.inr hs')
theorem okI_zip (cx : Ctx G Φ X N sc) {a b : C} {e e2 : Expr} {p p2 : Pos} (hg : bltOk G sc "zip" = true) (hs : (!starred e) = true) (hs2 : (!starred e2) = true) (ha : OkE Φ X a e) (hb : OkE Φ X b e2) : OkI Φ X (.zp a b) (.Call (.Name "zip" p) [e, e2] [] p2) := by
  intro tg ht
  cases tg <;> first | (cases ht; done) | skip
  obtain ⟨g1, g2, _, _⟩ := blt_of cx hg
  have st : starEach [e2] X.env = [(false, eval e2 X.env)] := star_cons X.env hs2
  refine ⟨_, RZ.pi_zipA g1 g2 (pa_cons pe_s (pa_cons pe_s pa_nil (star_cons X.env hs2)) (star_cons X.env hs)) (star_cons X.env hs) (by rw [st]; rfl), fun O H σd σ ds rp hv R q => ?_⟩
  rw [evIt] at hv
  obtain ⟨x, e1, hv⟩ := bd_inv hv
  obtain ⟨y, e2, hv⟩ := bd_inv hv
  match x, y, hv, e1, e2 with
  | .tuple xs, .tuple ys, hv, e1, e2 =>
    obtain ⟨gs, hv⟩ := gd_inv hv
    cases hv
    have hl := of_decide_eq_true gs
    refine ha O H σd σ _ rp e1 _ fun v H1 s1 r1 F1 => hb O H1 σd σ _ (rp.same s1) e2 _ fun w H2 s2 r2 F2 => ?_
    obtain ⟨u, us, rfl, hs1, hd1, ip1⟩ := (r1.dr.same s2).tuple
    obtain ⟨w, ws, rfl, hs3, hd2, ip2⟩ := r2.dr.tuple
    cases ip1 with
    | @tup _ us1 _ hq1 hr1 =>
      cases ip2 with
      | @tup _ ws1 _ hq2 hr2 =>
        refine ⟨u, w, us, ws, rfl, .inr ⟨hs1, hs3, q _ H2 (fun O' H' => ∃ xs' ys', SqT X.K (msk H' O') u xs' ∧ SqT X.K (msk H' O') w ys' ∧ DpAll X.K (msk H' O') xs' xs ∧ DpAll X.K (msk H' O') ys' ys) (s1.trans s2) ?_ ⟨us1, ws1, hq1.sq, hq2.sq, hr1, hr2⟩ ?_ ?_ ?_⟩⟩
        · have b := isIt_zipT (K := X.K) (a := u) (b := w) hl
          exact ⟨fun i O' H' ⟨as, bs, h1, h2, h3, h4⟩ => b.go i O' H' ⟨as, bs, sqT_same (msk_le _ _) h1, sqT_same (msk_le _ _) h2, h3, h4⟩, fun i O' H' ⟨as, bs, h1, h2, h3, h4⟩ => b.stop i O' H' ⟨as, bs, sqT_same (msk_le _ _) h1, sqT_same (msk_le _ _) h2, h3, h4⟩,
            fun i O' H' x H3 ⟨as, bs, h1, h2, h3, h4⟩ => b.yld i O' H' x H3 ⟨as, bs, sqT_same (msk_le _ _) h1, sqT_same (msk_le _ _) h2, h3, h4⟩⟩
        · rintro O1 O2 A B ⟨as, bs, h1, h2, h3, h4⟩ _ sm
          exact ⟨as, bs, sqT_same sm h1, sqT_same sm h2, DpAll.mono sm h3, DpAll.mono sm h4⟩
        · rintro _ O1 O2 A B ⟨as, bs, h1, h2, h3, h4⟩ sm
          exact ⟨as, bs, sqT_same sm h1, sqT_same sm h2, DpAll.mono sm h3, DpAll.mono sm h4⟩
        · rw [List.length_zipWith, ← DpAll.length hd1, ← DpAll.length hd2]
          exact Nat.le_trans (Nat.min_le_left _ _) (F2 u us (.inr hs1))
/-! ### comprehensions -/
theorem RepE.block {K : PySem.W.Frag} {O : List Addr} {H H' : Hp} {σd : Sg} {σ : L2.St} {p : Addr} {acc : List V} (r : RepE K O H σd σ) (s : Same H H') (n : H p = none) (e : H' p = some (.lst acc)) : RepE K (p :: O) H' σd σ := by
  refine ⟨fun a m => ?_, r.len, fun i x h => ?_⟩
  · rcases List.mem_cons.mp m with z | z
    · exact ⟨acc, by rw [z]; exact e⟩
    · exact (r.ol.same s) a z
  · obtain ⟨ov, h1, h2⟩ := r.at_ i x h
    refine ⟨ov, h1, ?_⟩
    match x, ov, h2 with
    | .imm d, some v, h2 => exact Dp.mono (msk_new s n) h2
    | .own ds, some (.ref a), ⟨m, xs, e, h⟩ => exact ⟨List.mem_cons_of_mem _ m, xs, s _ _ e, DpAll.mono (msk_new s n) h⟩
    | .dead, _, _ => exact trivial
theorem ownOf_snd (N : List Str) (tg : List Nat) : (ownOf N tg).map (·.2) = tg := by
  unfold ownOf
  rw [List.map_map]
  exact List.map_id' tg
theorem loc_blk (cx : Ctx G Φ X N sc) {scope : Scope} (s : Shared) (H : Hp) (C : Addr) (cl : List (Str × Addr)) (fp : List Addr) (x : Str) (h : locB scope x = true) :
    Loc (X.blk s H scope (compEnvC scope cl C X.env) fp).env.scope x ∧ ((X.blk s H scope (compEnvC scope cl C X.env) fp).fn x = true ∨ (X.blk s H scope (compEnvC scope cl C X.env) fp).env.scope.names.lookup x = some .local) := by
  unfold locB at h
  split at h
  · rename_i e
    have k : (relS scope X.env.scope).names.lookup x = some .local := lookup_relS_keep (by decide) e
    exact ⟨.inl k, .inr k⟩
  · rename_i e
    have k : (relS scope X.env.scope).names.lookup x = some .cell := lookup_relS_keep (by decide) e
    refine ⟨.inr k, .inl ?_⟩
    show (scope.names.lookup x == some .cell) = true
    rw [e]; rfl
  · cases h
theorem fold_plain {it : C} {e : Expr} (h : chkI G N it sc e = true) (env : Env) : ∀ x, foldedSetIterable e env x = pure x := by
  cases e <;> first
    | (exact fun _ => rfl)
    | (cases it <;> first | (simp [chkI] at h; done) | (simp only [chkI] at h; rename_i c _ ; cases c <;> simp [chk, shX1_set, shX2_set] at h))
theorem lc_parts (cx : Ctx G Φ X N sc) {e it cond : C} {tg : List Nat} {one : Bool} {elt tgt iter : Expr} {ifs : List Expr} {scope : Scope} {p : Pos} (hb : blkC N sc scope (ownOf N tg) = true) (ht : chkT N scope tg one tgt = true) (hI : chkI G N it sc iter = true)
    (hi : OkI Φ X it iter) (hk : tgOk it tgt = true) (hc : (cond = .nil ∧ ifs = []) ∨ ∃ a b c, cond = .cons a b ∧ ifs = [c] ∧ ∀ (s : Shared) (H : Hp) (C : Addr) (cl : List (Str × Addr)) (fp : List Addr), OkB Φ (X.blk s H scope (compEnvC scope cl C X.env) fp) a c)
    (he : ∀ (s : Shared) (H : Hp) (C : Addr) (cl : List (Str × Addr)) (fp : List Addr), OkE Φ (X.blk s H scope (compEnvC scope cl C X.env) fp) e elt) :
    ∃ (wi : TI) (tt : TT) (te : TE), PI X tgt iter wi ∧ BlkOk X.N X.env.scope scope (ownOf N tg) ∧ (∀ (s : Shared) (H : Hp) (C : Addr) (cl : List (Str × Addr)) (fp : List Addr), PG (X.blk s H scope (compEnvC scope cl C X.env) fp) tgt (gT X.K tg one)) ∧
      (∀ (s : Shared) (H : Hp) (C : Addr) (cl : List (Str × Addr)) (fp : List Addr), PTs (X.blk s H scope (compEnvC scope cl C X.env) fp) ifs tt) ∧ (∀ (s : Shared) (H : Hp) (C : Addr) (cl : List (Str × Addr)) (fp : List Addr), PE (X.blk s H scope (compEnvC scope cl C X.env) fp) elt te) ∧
      ∀ (O : List Addr) (H : Hp) (σd : Sg) (σ : L2.St) (d : D), RepE X.K O H σd σ → ev Φ (.lc e tg one it cond) σd = .ok d → ∀ Q : VK, (∀ v H', Same H H' → New X.K O H H' v d → Q v H') → tLc wi (gT X.K tg one) tt te ((ownOf N tg).map (·.2)) σ H Q := by
  obtain ⟨wi, pi, qi⟩ := hi tgt hk
  have bk : BlkOk X.N X.env.scope scope (ownOf N tg) := by rw [cx.hN, cx.hsc]; exact blkOk_by hb
  have pg : ∀ (s : Shared) (H : Hp) (C : Addr) (cl : List (Str × Addr)) (fp : List Addr), PG (X.blk s H scope (compEnvC scope cl C X.env) fp) tgt (gT X.K tg one) := fun s H C cl fp =>
    pg_target (X := X.blk s H scope (compEnvC scope cl C X.env) fp) cx.calm cx.hN cx.nd (fun x h => loc_blk cx s H C cl fp x h) ht
  have pte : ∀ (s : Shared) (H : Hp) (C : Addr) (cl : List (Str × Addr)) (fp : List Addr), PE (X.blk s H scope (compEnvC scope cl C X.env) fp) elt (fun σ H' Q => ∀ s0 H0 C0 cl0 fp0, SE (X.blk s0 H0 scope (compEnvC scope cl0 C0 X.env) fp0) elt σ H' Q) := fun s H C cl fp =>
    ⟨fun pins s1 σ1 H1 Q1 I h => h s H C cl fp pins s1 I⟩
  -- the test
  obtain ⟨tt, ptt, qtt⟩ : ∃ tt : TT, (∀ (s : Shared) (H : Hp) (C : Addr) (cl : List (Str × Addr)) (fp : List Addr), PTs (X.blk s H scope (compEnvC scope cl C X.env) fp) ifs tt) ∧
      ∀ (O : List Addr) (H : Hp) (τd : Sg) (τ : L2.St) (b : Bool), RepE X.K O H τd τ → evc Φ cond τd = .ok b → ∀ Q : Bool → Hp → Prop, (∀ H', Same H H' → Q b H') → tt τ H Q := by
    rcases hc with ⟨rfl, rfl⟩ | ⟨a, b, c, rfl, rfl, hc⟩
    · refine ⟨tYes, fun s H C cl fp => pts_nil, fun O H τd τ b r h Q q => ?_⟩
      rw [evc] at h
      cases h
      exact q H (Same.refl _)
    · refine ⟨fun σ H' Q => ∀ s0 H0 C0 cl0 fp0, ST (X.blk s0 H0 scope (compEnvC scope cl0 C0 X.env) fp0) c σ H' Q, fun s H C cl fp => pts_one ⟨fun pins s1 σ1 H1 Q1 I h => h s H C cl fp pins s1 I⟩, fun O H τd τ k r h Q q s0 H0 C0 cl0 fp0 => ?_⟩
      rw [evc] at h
      obtain ⟨x, h1, h2⟩ := bd_inv h
      cases asB_inv h2
      exact hc s0 H0 C0 cl0 fp0 O H τd τ k r h1 Q q
  refine ⟨wi, tt, _, pi, bk, pg, ptt, pte, fun O H σd σ d rp hv Q q => ?_⟩
  rw [ev] at hv
  obtain ⟨ds, e1, hv⟩ := bd_inv hv
  obtain ⟨rs, e2, hv⟩ := bd_inv hv
  cases hv
  refine qi O H σd σ ds rp e1 _ fun J H1 F s1 iJ f0 cl _ hlen Dd nD => ?_
  rw [ownOf_snd]
  have nO : Dd ∉ O := fun m => by obtain ⟨_, z⟩ := (rp.ol.same s1) Dd m; rw [nD] at z; cases z
  refine ⟨fun i m H' => m = ds.length - i ∧ i ≤ ds.length ∧ ∃ acc out rest, H' Dd = some (.lst acc) ∧ acc.length ≤ i ∧ Same H1 H' ∧ DpAll X.K (msk H' (Dd :: O)) acc out ∧ rs = out ++ rest ∧
      lcGo (fun d => bd (bindT (wipeS σd tg) tg one d) fun τ => bd (evc Φ cond τ) fun b => if b = true then bd (strict e τ (ev Φ e τ)) fun r => .ok (some r) else .ok none) (ds.drop i) = .ok rest,
    ⟨ds.length, by simp, Nat.zero_le _, [], [], rs, upd_same, Nat.zero_le _, same_upd nD, .nil, rfl, by simpa using e2⟩, ?_⟩
  rintro i m H' ⟨rfl, hi', acc, out, rest, eD, la, sm, da, rfl, eg⟩
  have fi : F (Dd :: O) H' := cl O (Dd :: O) H1 H' f0 sm (msk_new sm nD)
  have ol' : OL H' (Dd :: O) := ((rp.same s1).block sm nD eD).ol
  by_cases hlt : i < ds.length
  · refine .inr ⟨iJ.go i _ H' fi hlt, fun H2 => i + 1 ≤ ds.length ∧ ∃ acc out' rest', H2 Dd = some (.lst acc) ∧ acc.length ≤ i + 1 ∧ Same H1 H2 ∧ DpAll X.K (msk H2 (Dd :: O)) acc out' ∧ out ++ rest = out' ++ rest' ∧
      lcGo (fun d => bd (bindT (wipeS σd tg) tg one d) fun τ => bd (evc Φ cond τ) fun b => if b = true then bd (strict e τ (ev Φ e τ)) fun r => .ok (some r) else .ok none) (ds.drop (i + 1)) = .ok rest', fun H2 z => ⟨_, by omega, rfl, z⟩, fun x H2 y => ?_⟩
    obtain ⟨s2, dd, gd', hd⟩ := iJ.yld i _ H' x H2 fi ol' hlt y
    obtain ⟨hi2, rfl⟩ := List.getElem?_eq_some_iff.mp gd'
    rw [List.drop_eq_getElem_cons hi2, lcGo] at eg
    obtain ⟨o1, g1, eg⟩ := bd_inv eg
    obtain ⟨rest2, g2, eg⟩ := bd_inv eg
    obtain ⟨τd, g3, g1⟩ := bd_inv g1
    obtain ⟨kb, g4, g1⟩ := bd_inv g1
    have eD2 : H2 Dd = some (.lst acc) := s2 _ _ eD
    have rp2 : RepE X.K (Dd :: O) H2 (wipeS σd tg) (L2.wipe σ tg) := ((rp.same s1).block (sm.trans s2) nD eD2).wipe tg
    refine gT_ofW (pair_one hk ht) rp2 hd g3 fun τ rτ oτ => ⟨?_, ?_⟩
    · rw [← wipe_wipe (σ := σ)]
      exact wipe_ext oτ.1 oτ.2
    · refine qtt (Dd :: O) H2 τd τ kb rτ g4 _ fun H3 s3 => ?_
      cases kb with
      | true =>
        rw [if_pos rfl] at g1
        obtain ⟨r, g5, g1⟩ := bd_inv g1
        cases g1
        obtain ⟨g5, g6⟩ := strict_ok g5
        refine iteT fun s0 H0 C0 cl0 fp0 => he s0 H0 C0 cl0 fp0 (Dd :: O) H3 τd τ r (rτ.same s3) g5 _ fun v H4 s4 r4 _ => ?_
        cases eg
        have s24 : Same H' H4 := s2.trans (s3.trans s4)
        refine ⟨acc, s24 _ _ eD, by rw [sizeLine_eq]; omega, hlt, acc ++ [v], out ++ [r], rest2, upd_same, by rw [List.length_append, List.length_singleton]; omega, fun b u z => ?_, ?_, by rw [List.append_assoc]; rfl, g2⟩
        · have nb : b ≠ Dd := fun w => by rw [w, nD] at z; cases z
          rw [upd_ne nb]
          exact s24 _ _ (sm _ _ z)
        · rw [msk_upd (List.mem_cons_self ..)]
          exact DpAll.snoc (DpAll.mono (msk_same s24) da) (r4.im g6)
      | false =>
        rw [if_neg Bool.false_ne_true] at g1
        cases g1
        cases eg
        have s23 : Same H' H3 := s2.trans s3
        exact iteF ⟨hlt, acc, out, rest2, s23 _ _ eD, by omega, sm.trans s23, DpAll.mono (msk_same s23) da, rfl, g2⟩
  · have hid : i = ds.length := by omega
    rw [hid, List.drop_length, lcGo] at eg
    cases eg
    rw [List.append_nil] at q
    refine .inl ⟨iJ.stop i _ H' fi (by omega), q _ H' (s1.trans sm) ⟨?_, fun ds' z => ?_⟩⟩
    · exact .lst (.of (by rw [msk_out nO]; exact eD)) (DpAll.mono (msk_sub fun a m => List.mem_cons_of_mem _ m) da)
    · cases z
      exact ⟨Dd, acc, rfl, s1.free nD, eD, da⟩
theorem ok_lc (cx : Ctx G Φ X N sc) {e it cond : C} {tg : List Nat} {one : Bool} {elt tgt iter : Expr} {ifs : List Expr} {scope : Scope} {p : Pos} (hb : blkC N sc scope (ownOf N tg) = true) (ht : chkT N scope tg one tgt = true) (hI : chkI G N it sc iter = true)
    (hi : OkI Φ X it iter) (hk : tgOk it tgt = true) (hc : (cond = .nil ∧ ifs = []) ∨ ∃ a b c, cond = .cons a b ∧ ifs = [c] ∧ ∀ (s : Shared) (H : Hp) (C : Addr) (cl : List (Str × Addr)) (fp : List Addr), OkB Φ (X.blk s H scope (compEnvC scope cl C X.env) fp) a c)
    (he : ∀ (s : Shared) (H : Hp) (C : Addr) (cl : List (Str × Addr)) (fp : List Addr), OkE Φ (X.blk s H scope (compEnvC scope cl C X.env) fp) e elt) : OkE Φ X (.lc e tg one it cond) (.ListComp elt [⟨tgt, iter, ifs, 0⟩] scope p) := by
  intro O H σd σ d rp hv Q q
  obtain ⟨wi, tt, te, pi, bk, pg, ptt, pte, rd⟩ := lc_parts (p := p) cx hb ht hI hi hk hc he
  refine SE.fits (SE.of (pe_lc (own := ownOf N tg) cx.calm (by rw [cx.hN]; exact cx.nd) pi bk pg ptt pte (fold_plain hI X.env)) ?_)
  exact rd O H σd σ d rp hv _ fun v H' s n F => q v H' s (Res.of_new n) F
end
end Mt

set_option Elab.async false
set_option linter.all false
set_option maxRecDepth 100000
set_option maxHeartbeats 1000000
/-! Expressions: the whole. -/
namespace Mt
open PySem PySem.Spec PyProof.Rows L2
theorem ff {b : Bool} {P : Prop} (n : b = false) (h : b = true) : P := by rw [n] at h; cases h
structure AllOk (G : GE) (Φ : Nat → FnS) (N : List Str) (c : C) : Prop where
  e : ∀ {X : Cx} {sc : Scope} (e : Expr), Ctx G Φ X N sc → chk G N c sc e = true → OkE Φ X c e ∧ OkB Φ X c e
  a : ∀ {X : Cx} {sc : Scope} (es : List Expr), Ctx G Φ X N sc → chkA G N c sc es = true → OkS Φ X c es ∧ OkR Φ X c es ∧ OkAnd Φ X c es ∧ OkOr Φ X c es
  o : ∀ {X : Cx} {sc : Scope} (o : Option Expr), Ctx G Φ X N sc → chkO G N c sc o = true → OkP Φ X c o
  i : ∀ {X : Cx} {sc : Scope} (e : Expr), Ctx G Φ X N sc → chkI G N c sc e = true → OkI Φ X c e
  t : ∀ {X : Cx} {sc : Scope} (a b : C) (e : Expr), c = .cons a b → Ctx G Φ X N sc → chk G N a sc e = true → OkB Φ X a e
  l : ∀ {sc : Scope} (es : List Expr) (σd : Sg) (ds : List D), chkA G N c sc es = true → evs Φ c σd = .ok ds → ds.length = es.length
section
variable {G : GE} {Φ : Nat → FnS} {N : List Str}
/-- an expression that is no list of them -/
theorem AllOk.of {c : C} (e : ∀ {X : Cx} {sc : Scope} (e : Expr), Ctx G Φ X N sc → chk G N c sc e = true → OkE Φ X c e ∧ OkB Φ X c e) (n1 : ∀ sc es, chkA G N c sc es = false) (n2 : ∀ sc o, chkO G N c sc o = false) (n3 : ∀ sc e, chkI G N c sc e = false) (n4 : ∀ a b, c ≠ .cons a b := by nofun) : AllOk G Φ N c :=
  ⟨e, fun es _ h => ff (n1 _ _) h, fun o _ h => ff (n2 _ _) h, fun e _ h => ff (n3 _ _) h, fun a b e z => absurd z (n4 a b), fun es σd ds h => ff (n1 _ _) h⟩
theorem noA_of {c : C} {sc : Scope} {es : List Expr} (h : ∀ a b, c ≠ .cons a b) (h2 : c ≠ .nil) : chkA G N c sc es = false := by
  cases c <;> first | (cases es <;> rfl) | (exact absurd rfl (h _ _)) | (exact absurd rfl h2)
theorem noO_of {c : C} {sc : Scope} {o : Option Expr} (h : ∀ a b, c ≠ .cons a b) (h2 : c ≠ .nil) : chkO G N c sc o = false := by
  cases c <;> first | (cases o <;> rfl) | (exact absurd rfl (h _ _)) | (exact absurd rfl h2)
theorem noI_of {c : C} {sc : Scope} {e : Expr} (h : ∀ a b, c ≠ .cons a b) (h2 : ∀ a, c ≠ .rng1 a) (h3 : ∀ a b, c ≠ .rng2 a b) (h4 : ∀ a, c ≠ .enm a) (h5 : ∀ a b, c ≠ .zp a b) : chkI G N c sc e = false := by
  cases c <;> first | rfl | (exact absurd rfl (h _ _)) | (exact absurd rfl (h2 _)) | (exact absurd rfl (h3 _ _)) | (exact absurd rfl (h4 _)) | (exact absurd rfl (h5 _ _))
end
theorem all_ok (G : GE) (Φ : Nat → FnS) (N : List Str) : ∀ c : C, AllOk G Φ N c := by
  intro c
  induction c with
  | var i =>
    refine AllOk.of (fun {X sc} e cx h => ?_) (fun _ _ => noA_of nofun nofun) (fun _ _ => noO_of nofun nofun) (fun _ _ => noI_of nofun nofun nofun nofun nofun)
    cases e with
    | Name x p => exact ⟨ok_var cx h, okB_of (ok_var cx h) fun _ => rfl⟩
    | _ => simp [chk] at h
  | cI i =>
    refine AllOk.of (fun {X sc} e cx h => ?_) (fun _ _ => noA_of nofun nofun) (fun _ _ => noO_of nofun nofun) (fun _ _ => noI_of nofun nofun nofun nofun nofun)
    cases e with
    | Constant k n p =>
      cases k <;> first | (simp [chk] at h; done) | skip
      have hi := of_decide_eq_true h
      subst hi
      have z : OkE Φ X (.cI i) (.Constant (.int i) n p) := fun O H σd σ d r hv Q q => by
        rw [ev] at hv
        cases hv
        exact SE.fits (SE.of pe_int fun F => q _ H (Same.refl _) (Res.of_new .int) F)
      exact ⟨z, okB_of z fun _ => rfl⟩
    | _ => simp [chk] at h
  | cB b =>
    refine AllOk.of (fun {X sc} e cx h => ?_) (fun _ _ => noA_of nofun nofun) (fun _ _ => noO_of nofun nofun) (fun _ _ => noI_of nofun nofun nofun nofun nofun)
    cases e with
    | Constant k n p =>
      cases k <;> first | (simp [chk] at h; done) | skip
      have hi := eq_of_beq h
      subst hi
      have z : OkE Φ X (.cB b) (.Constant (.bool b) n p) := fun O H σd σ d r hv Q q => by
        rw [ev] at hv
        cases hv
        exact SE.fits (SE.of pe_bl fun F => q _ H (Same.refl _) (Res.of_new .bool) F)
      exact ⟨z, okB_of z fun _ => rfl⟩
    | _ => simp [chk] at h
  | cN =>
    refine AllOk.of (fun {X sc} e cx h => ?_) (fun _ _ => noA_of nofun nofun) (fun _ _ => noO_of nofun nofun) (fun _ _ => noI_of nofun nofun nofun nofun nofun)
    cases e with
    | Constant k n p =>
      cases k <;> first | (simp [chk] at h; done) | skip
      have z : OkE Φ X .cN (.Constant .none n p) := fun O H σd σ d r hv Q q => by
        rw [ev] at hv
        cases hv
        exact SE.fits (SE.of pe_non fun F => q _ H (Same.refl _) (Res.of_new .non) F)
      exact ⟨z, okB_of z fun _ => rfl⟩
    | _ => simp [chk] at h
  | cS x =>
    refine AllOk.of (fun {X sc} e cx h => ?_) (fun _ _ => noA_of nofun nofun) (fun _ _ => noO_of nofun nofun) (fun _ _ => noI_of nofun nofun nofun nofun nofun)
    cases e with
    | Constant k n p =>
      cases k <;> first | (simp [chk] at h; done) | skip
      have hi := of_decide_eq_true h
      subst hi
      have z : OkE Φ X (.cS x) (.Constant (.str x) n p) := fun O H σd σ d r hv Q q => by
        rw [ev] at hv
        cases hv
        exact SE.fits (SE.of pe_str fun F => q _ H (Same.refl _) (Res.of_new .str) F)
      exact ⟨z, okB_of z fun _ => rfl⟩
    | _ => simp [chk] at h
  | gI y i =>
    refine AllOk.of (fun {X sc} e cx h => ?_) (fun _ _ => noA_of nofun nofun) (fun _ _ => noO_of nofun nofun) (fun _ _ => noI_of nofun nofun nofun nofun nofun)
    cases e with
    | Name x p =>
      simp only [chk, Bool.and_eq_true] at h
      have z : OkE Φ X (.gI y i) (.Name x p) := fun O H σd σ d r hv Q q => by
        rw [ev] at hv
        cases hv
        obtain ⟨t, m⟩ := cx.gi x i h.1.2
        exact SE.fits (SE.of (pe_glob (v := .int i) (gl_of cx h.1.1.2) m ⟨t, rfl⟩ (nm_of h.2).1) fun F => q _ H (Same.refl _) (Res.of_new .int) F)
      exact ⟨z, okB_of z fun _ => rfl⟩
    | _ => simp [chk] at h
  | gS y i =>
    refine AllOk.of (fun {X sc} e cx h => ?_) (fun _ _ => noA_of nofun nofun) (fun _ _ => noO_of nofun nofun) (fun _ _ => noI_of nofun nofun nofun nofun nofun)
    cases e with
    | Name x p =>
      simp only [chk, Bool.and_eq_true] at h
      have z : OkE Φ X (.gS y i) (.Name x p) := fun O H σd σ d r hv Q q => by
        rw [ev] at hv
        cases hv
        obtain ⟨t, m⟩ := cx.gs x i h.1.2
        exact SE.fits (SE.of (pe_glob (v := .str i) (gl_of cx h.1.1.2) m ⟨t, rfl⟩ (nm_of h.2).1) fun F => q _ H (Same.refl _) (Res.of_new .str) F)
      exact ⟨z, okB_of z fun _ => rfl⟩
    | _ => simp [chk] at h
  | tup a ih =>
    refine AllOk.of (fun {X sc} e cx h => ?_) (fun _ _ => noA_of nofun nofun) (fun _ _ => noO_of nofun nofun) (fun _ _ => noI_of nofun nofun nofun nofun nofun)
    cases e with
    | Tuple es k p =>
      simp only [chk, Bool.and_eq_true] at h
      have z : OkE Φ X (.tup a) (.Tuple es k p) := ok_tup (ih.a es cx h.1).1 fun σd ds e => by rw [ih.l es σd ds h.1 e]; exact of_decide_eq_true h.2
      exact ⟨z, okB_of z fun _ => rfl⟩
    | _ => simp [chk] at h
  | lst a ih =>
    refine AllOk.of (fun {X sc} e cx h => ?_) (fun _ _ => noA_of nofun nofun) (fun _ _ => noO_of nofun nofun) (fun _ _ => noI_of nofun nofun nofun nofun nofun)
    cases e with
    | List es p =>
      simp only [chk, Bool.and_eq_true] at h
      have z : OkE Φ X (.lst a) (.List es p) := ok_lst (ih.a es cx h.1).1 fun σd ds e => by rw [ih.l es σd ds h.1 e]; exact of_decide_eq_true h.2
      exact ⟨z, okB_of z fun _ => rfl⟩
    | _ => simp [chk] at h
  | bin op a b ia ib =>
    refine AllOk.of (fun {X sc} e cx h => ?_) (fun _ _ => noA_of nofun nofun) (fun _ _ => noO_of nofun nofun) (fun _ _ => noI_of nofun nofun nofun nofun nofun)
    cases e with
    | BinOp l o r p =>
      simp only [chk, Bool.and_eq_true] at h
      have ho := of_decide_eq_true h.1.1
      subst ho
      have z : OkE Φ X (.bin op a b) (.BinOp l op r p) := ok_bin cx (ia.e l cx h.1.2).1 (ib.e r cx h.2).1
      exact ⟨z, okB_of z fun _ => rfl⟩
    | _ => simp [chk] at h
  | neg a ia =>
    refine AllOk.of (fun {X sc} e cx h => ?_) (fun _ _ => noA_of nofun nofun) (fun _ _ => noO_of nofun nofun) (fun _ _ => noI_of nofun nofun nofun nofun nofun)
    cases e with
    | UnaryOp o l p =>
      cases o <;> first | (simp [chk] at h; done) | skip
      have z : OkE Φ X (.neg a) (.UnaryOp .USub l p) := ok_neg cx (ia.e l cx h).1
      exact ⟨z, okB_of z fun _ => rfl⟩
    | _ => simp [chk] at h
  | cmp op a b ia ib =>
    refine AllOk.of (fun {X sc} e cx h => ?_) (fun _ _ => noA_of nofun nofun) (fun _ _ => noO_of nofun nofun) (fun _ _ => noI_of nofun nofun nofun nofun nofun)
    cases e with
    | Compare l os rs p =>
      match os, rs, h with
      | [o], [r], h =>
        simp only [chk, Bool.and_eq_true] at h
        have ho := of_decide_eq_true h.1.1
        subst ho
        exact ⟨ok_cmp cx (ia.e l cx h.1.2).1 (ib.e r cx h.2).1 (chk_marks op h.2), okB_cmp cx (ia.e l cx h.1.2).1 (ib.e r cx h.2).1 (chk_marks op h.2)⟩
    | _ => simp [chk] at h
  | ch op op2 a b c ia ib ic =>
    refine AllOk.of (fun {X sc} e cx h => ?_) (fun _ _ => noA_of nofun nofun) (fun _ _ => noO_of nofun nofun) (fun _ _ => noI_of nofun nofun nofun nofun nofun)
    cases e with
    | Compare l os rs p =>
      match os, rs, h with
      | [o, o2], [m, r], h =>
        simp only [chk, Bool.and_eq_true, decide_eq_true_eq] at h
        obtain ⟨⟨⟨⟨⟨⟨⟨⟨rfl, rfl⟩, h1⟩, h2⟩, h3⟩, _⟩, _⟩, h6⟩, h7⟩ := h
        exact ⟨ok_ch cx (ia.e l cx h1).1 (ib.e m cx h2).1 (ic.e r cx h3).1 h6 h7, okB_ch cx (ia.e l cx h1).1 (ib.e m cx h2).1 (ic.e r cx h3).1 h6 h7⟩
    | _ => simp [chk] at h
  | and a ia =>
    refine AllOk.of (fun {X sc} e cx h => ?_) (fun _ _ => noA_of nofun nofun) (fun _ _ => noO_of nofun nofun) (fun _ _ => noI_of nofun nofun nofun nofun nofun)
    cases e with
    | BoolOp o es p =>
      match o, es, h with
      | .And, e :: es, h => exact ⟨ok_and (ia.a (e :: es) cx h).2.2.1, okB_and (ia.a (e :: es) cx h).2.2.1⟩
    | _ => simp [chk] at h
  | or a ia =>
    refine AllOk.of (fun {X sc} e cx h => ?_) (fun _ _ => noA_of nofun nofun) (fun _ _ => noO_of nofun nofun) (fun _ _ => noI_of nofun nofun nofun nofun nofun)
    cases e with
    | BoolOp o es p =>
      match o, es, h with
      | .Or, e :: es, h => exact ⟨ok_or (ia.a (e :: es) cx h).2.2.2, okB_or (ia.a (e :: es) cx h).2.2.2⟩
    | _ => simp [chk] at h
  | not a ia =>
    refine AllOk.of (fun {X sc} e cx h => ?_) (fun _ _ => noA_of nofun nofun) (fun _ _ => noO_of nofun nofun) (fun _ _ => noI_of nofun nofun nofun nofun nofun)
    cases e with
    | UnaryOp o l p =>
      cases o <;> first | (simp [chk] at h; done) | skip
      exact ⟨ok_not (ia.e l cx h).1, okB_not (ia.e l cx h).2⟩
    | _ => simp [chk] at h
  | ix a b ia ib =>
    refine AllOk.of (fun {X sc} e cx h => ?_) (fun _ _ => noA_of nofun nofun) (fun _ _ => noO_of nofun nofun) (fun _ _ => noI_of nofun nofun nofun nofun nofun)
    cases e with
    | Subscript l r p =>
      simp only [chk, Bool.and_eq_true] at h
      have z : OkE Φ X (.ix a b) (.Subscript l r p) := ok_ix cx (ia.e l cx h.1).1 (ib.e r cx h.2).1 (chk_plainIx h.2)
      exact ⟨z, okB_of z fun _ => rfl⟩
    | _ => simp [chk] at h
  | sl a lo hi ia il ih =>
    refine AllOk.of (fun {X sc} e cx h => ?_) (fun _ _ => noA_of nofun nofun) (fun _ _ => noO_of nofun nofun) (fun _ _ => noI_of nofun nofun nofun nofun nofun)
    cases e with
    | Subscript l r p =>
      cases r with
      | Slice ol oh st p2 =>
        cases st with
        | some _ => simp [chk] at h
        | none =>
          simp only [chk, Bool.and_eq_true] at h
          have z : OkE Φ X (.sl a lo hi) (.Subscript l (.Slice ol oh none p2) p) := ok_sl cx (ia.e l cx h.1.1).1 (il.o ol cx h.1.2) (ih.o oh cx h.2)
          exact ⟨z, okB_of z fun _ => rfl⟩
      | _ => simp [chk] at h
    | _ => simp [chk] at h
  | rv a ia =>
    refine AllOk.of (fun {X sc} e cx h => ?_) (fun _ _ => noA_of nofun nofun) (fun _ _ => noO_of nofun nofun) (fun _ _ => noI_of nofun nofun nofun nofun nofun)
    cases e with
    | Subscript l r p =>
      match r, h with
      | .Slice none none (some (.UnaryOp .USub (.Constant (.int j) k p1) p2)) p3, h =>
        simp only [chk, Bool.and_eq_true, decide_eq_true_eq] at h
        obtain ⟨h1, rfl⟩ := h
        have z : OkE Φ X (.rv a) (.Subscript l (.Slice none none (some (.UnaryOp .USub (.Constant (.int 1) k p1) p2)) p3) p) := ok_rv cx (ia.e l cx h1).1
        exact ⟨z, okB_of z fun _ => rfl⟩
    | _ => simp [chk] at h
  | call f a ia =>
    refine AllOk.of (fun {X sc} e cx h => ?_) (fun _ _ => noA_of nofun nofun) (fun _ _ => noO_of nofun nofun) (fun _ _ => noI_of nofun nofun nofun nofun nofun)
    cases e with
    | Call g es ks p =>
      match g, es, ks, h with
      | .Name x q, e :: es, [], h =>
        simp only [chk, Bool.and_eq_true] at h
        have z : OkE Φ X (.call f a) (.Call (.Name x q) (e :: es) [] p) := ok_call cx h.1.1.1 h.1.1.2 h.1.2 h.2 (ia.a (e :: es) cx h.2).2.1
        exact ⟨z, okB_of z fun _ => rfl⟩
    | _ => simp [chk] at h
  | bi b a ia =>
    refine AllOk.of (fun {X sc} e cx h => ?_) (fun _ _ => noA_of nofun nofun) (fun _ _ => noO_of nofun nofun) (fun _ _ => noI_of nofun nofun nofun nofun nofun)
    cases e with
    | Call g es ks p =>
      match g, es, ks, h with
      | .Name x q, e :: es, [], h =>
        simp only [chk, Bool.and_eq_true, decide_eq_true_eq] at h
        obtain ⟨⟨rfl, h2⟩, h3⟩ := h
        have z : OkE Φ X (.bi b a) (.Call (.Name (biName b) q) (e :: es) [] p) := ok_bi cx h2 h3 (ia.a (e :: es) cx h3).2.1
        exact ⟨z, okB_of z fun _ => rfl⟩
    | _ => simp [chk] at h
  | isi t a ia =>
    refine AllOk.of (fun {X sc} e cx h => ?_) (fun _ _ => noA_of nofun nofun) (fun _ _ => noO_of nofun nofun) (fun _ _ => noI_of nofun nofun nofun nofun nofun)
    cases e with
    | Call g es ks p =>
      match g, es, ks, h with
      | .Name x q, [e, .Name y q2], [], h =>
        simp only [chk, Bool.and_eq_true, decide_eq_true_eq] at h
        obtain ⟨⟨⟨⟨⟨rfl, h1⟩, rfl⟩, h2⟩, h3⟩, h4⟩ := h
        have z : OkE Φ X (.isi t a) (.Call (.Name "isinstance" q) [e, .Name (tyName t) q2] [] p) := ok_isi cx h1 h2 h4 (ia.e e cx h3).1
        exact ⟨z, okB_of z fun _ => rfl⟩
    | _ => simp [chk] at h
  | lc e tg one it cond ie ii ic =>
    refine AllOk.of (fun {X sc} x cx h => ?_) (fun _ _ => noA_of nofun nofun) (fun _ _ => noO_of nofun nofun) (fun _ _ => noI_of nofun nofun nofun nofun nofun)
    cases x with
    | ListComp elt gs scope p =>
      match gs, h with
      | [⟨tgt, iter, ifs, k⟩], h =>
        simp only [chk, Bool.and_eq_true, decide_eq_true_eq] at h
        obtain ⟨⟨⟨⟨⟨⟨rfl, h1⟩, h2⟩, h3⟩, h4⟩, h5⟩, h6⟩ := h
        have z : OkE Φ X (.lc e tg one it cond) (.ListComp elt [⟨tgt, iter, ifs, 0⟩] scope p) := by
          refine ok_lc cx h1 h2 h3 (ii.i iter cx h3) h6 ?_ fun s H C cl fp => (ie.e elt (cx.blk s H scope C cl fp) h5).1
          cases cond with
          | nil =>
            cases ifs with
            | nil => exact .inl ⟨rfl, rfl⟩
            | cons _ _ => simp [chkC] at h4
          | cons a b =>
            match ifs, h4 with
            | [c], h4 =>
              simp only [chkC] at h4
              exact .inr ⟨a, b, c, rfl, rfl, fun s H C cl fp => ic.t a b c rfl (cx.blk s H scope C cl fp) h4⟩
          | _ => cases ifs <;> simp [chkC] at h4
        exact ⟨z, okB_of z fun _ => rfl⟩
    | _ => simp [chk] at h
  | x1 k a ia =>
    refine AllOk.of (fun {X sc} x cx h => ?_) (fun _ _ => noA_of nofun nofun) (fun _ _ => noO_of nofun nofun) (fun _ _ => noI_of nofun nofun nofun nofun nofun)
    unfold chk at h
    split at h
    · rename_i e hs
      have z : OkE Φ X (.x1 k a) x := ok_x1 cx hs (ia.e e cx h).1
      refine ⟨z, okB_of z fun _ => ?_⟩
      unfold shX1 at hs
      split at hs <;> first | rfl | cases hs
    · cases h
  | x2 k a b ia ib =>
    refine AllOk.of (fun {X sc} x cx h => ?_) (fun _ _ => noA_of nofun nofun) (fun _ _ => noO_of nofun nofun) (fun _ _ => noI_of nofun nofun nofun nofun nofun)
    unfold chk at h
    split at h
    · rename_i e e2 hs
      rw [Bool.and_eq_true] at h
      have z : OkE Φ X (.x2 k a b) x := ok_x2 cx hs (ia.e e cx h.1).1 (ib.e e2 cx h.2).1
      refine ⟨z, okB_of z fun _ => ?_⟩
      unfold shX2 at hs
      split at hs <;> first | rfl | cases hs
    · cases h
  | ch3 op op2 op3 a b c d ia ib ic id =>
    refine AllOk.of (fun {X sc} e cx h => ?_) (fun _ _ => noA_of nofun nofun) (fun _ _ => noO_of nofun nofun) (fun _ _ => noI_of nofun nofun nofun nofun nofun)
    cases e with
    | Compare l os rs p =>
      match os, rs, h with
      | [o, o2, o3], [m, r, t], h =>
        simp only [chk, Bool.and_eq_true, decide_eq_true_eq] at h
        obtain ⟨⟨⟨⟨⟨⟨⟨⟨rfl, rfl⟩, rfl⟩, h1⟩, h2⟩, h3⟩, h4⟩, h6⟩, h7⟩ := h
        exact ⟨ok_ch3 cx (ia.e l cx h1).1 (ib.e m cx h2).1 (ic.e r cx h3).1 (id.e t cx h4).1 h6 h7, okB_ch3 cx (ia.e l cx h1).1 (ib.e m cx h2).1 (ic.e r cx h3).1 (id.e t cx h4).1 h6 h7⟩
    | _ => simp [chk] at h
  | rng1 a ia =>
    refine ⟨fun {X sc} e cx h => (by cases e <;> simp [chk] at h), fun es _ h => ff (noA_of (c := .rng1 a) nofun nofun) h, fun o _ h => ff (noO_of (c := .rng1 a) nofun nofun) h, fun {X sc} e cx h => ?_, (fun a b e z => nomatch z), fun es σd ds h => ff (noA_of (c := .rng1 a) nofun nofun) h⟩
    cases e with
    | Call g es ks p =>
      match g, es, ks, h with
      | .Name x q, [e], [], h =>
        simp only [chkI, Bool.and_eq_true, decide_eq_true_eq] at h
        obtain ⟨⟨⟨rfl, h1⟩, h2⟩, h3⟩ := h
        exact okI_rng1 cx h1 h3 (ia.e e cx h2).1
    | _ => simp [chkI] at h
  | rng2 a b ia ib =>
    refine ⟨fun {X sc} e cx h => (by cases e <;> simp [chk] at h), fun es _ h => ff (noA_of (c := .rng2 a b) nofun nofun) h, fun o _ h => ff (noO_of (c := .rng2 a b) nofun nofun) h, fun {X sc} e cx h => ?_, (fun a b e z => nomatch z), fun es σd ds h => ff (noA_of (c := .rng2 a b) nofun nofun) h⟩
    cases e with
    | Call g es ks p =>
      match g, es, ks, h with
      | .Name x q, [e, e2], [], h =>
        simp only [chkI, Bool.and_eq_true, decide_eq_true_eq] at h
        obtain ⟨⟨⟨⟨⟨rfl, h1⟩, h2⟩, h3⟩, h4⟩, h5⟩ := h
        exact okI_rng2 cx h1 h3 h5 (ia.e e cx h2).1 (ib.e e2 cx h4).1
    | _ => simp [chkI] at h
  | enm a ia =>
    refine ⟨fun {X sc} e cx h => (by cases e <;> simp [chk] at h), fun es _ h => ff (noA_of (c := .enm a) nofun nofun) h, fun o _ h => ff (noO_of (c := .enm a) nofun nofun) h, fun {X sc} e cx h => ?_, (fun a b e z => nomatch z), fun es σd ds h => ff (noA_of (c := .enm a) nofun nofun) h⟩
    cases e with
    | Call g es ks p =>
      match g, es, ks, h with
      | .Name x q, [e], [], h =>
        simp only [chkI, Bool.and_eq_true, decide_eq_true_eq] at h
        obtain ⟨⟨⟨rfl, h1⟩, h2⟩, h3⟩ := h
        exact okI_enm cx h1 h3 (ia.e e cx h2).1
    | _ => simp [chkI] at h
  | zp a b ia ib =>
    refine ⟨fun {X sc} e cx h => (by cases e <;> simp [chk] at h), fun es _ h => ff (noA_of (c := .zp a b) nofun nofun) h, fun o _ h => ff (noO_of (c := .zp a b) nofun nofun) h, fun {X sc} e cx h => ?_, (fun a b e z => nomatch z), fun es σd ds h => ff (noA_of (c := .zp a b) nofun nofun) h⟩
    cases e with
    | Call g es ks p =>
      match g, es, ks, h with
      | .Name x q, [e, e2], [], h =>
        simp only [chkI, Bool.and_eq_true, decide_eq_true_eq] at h
        obtain ⟨⟨⟨⟨⟨rfl, h1⟩, h2⟩, h3⟩, h4⟩, h5⟩ := h
        exact okI_zip cx h1 h3 h5 (ia.e e cx h2).1 (ib.e e2 cx h4).1
    | _ => simp [chkI] at h
  | nil =>
    refine ⟨fun {X sc} e cx h => (by cases e <;> simp [chk] at h), fun {X sc} es cx h => ?_, fun {X sc} o cx h => ?_, fun {X sc} e cx h => (by simp [chkI] at h), (fun a b e z => nomatch z), fun es σd ds h e => ?_⟩
    · cases es with
      | nil => exact ⟨okS_nil, okR_nil, fun z => absurd rfl z, fun z => absurd rfl z⟩
      | cons _ _ => simp [chkA] at h
    · cases o with
      | none => exact okP_nil
      | some _ => simp [chkO] at h
    · cases es with
      | nil => rw [evs] at e; cases e; rfl
      | cons _ _ => simp [chkA] at h
  | cons a b ia ib =>
    refine ⟨fun {X sc} e cx h => (by cases e <;> simp [chk] at h), fun {X sc} es cx h => ?_, fun {X sc} o cx h => ?_, fun {X sc} e cx h => ?_, fun {X sc} a' b' e z cx h => (by cases z; exact (ia.e e cx h).2), fun es σd ds h e => ?_⟩
    · cases es with
      | nil => simp [chkA] at h
      | cons e es =>
        simp only [chkA, Bool.and_eq_true] at h
        obtain ⟨h1, h2⟩ := ia.e e cx h.1.1
        obtain ⟨k1, k2, k3, k4⟩ := ib.a es cx h.2
        exact ⟨okS_cons h.1.2 h1 k1, okR_cons h.1.2 h1 k2, okAnd_cons h.2 h1 h2 k3, okOr_cons h.2 h1 h2 k4⟩
    · cases o with
      | none => simp [chkO] at h
      | some e =>
        simp only [chkO] at h
        exact okP_some (ia.e e cx h).1
    · simp only [chkI] at h
      exact okI_seq (ia.e e cx h).1
    · cases es with
      | nil => simp [chkA] at h
      | cons e' es =>
        simp only [chkA, Bool.and_eq_true] at h
        rw [evs] at e
        obtain ⟨d, e1, e⟩ := bd_inv e
        obtain ⟨r, e2, e⟩ := bd_inv e
        cases e
        rw [List.length_cons, List.length_cons, ib.l es σd r h.2 e2]
end Mt

set_option Elab.async false
set_option linter.all false
set_option maxRecDepth 100000
set_option maxHeartbeats 1000000
/-! Statements: the core, what it is worth, when the text is one. -/
namespace Mt
open PySem PySem.Spec PyProof.Rows L2
inductive S where
  | skip | seq (a b : S) | asg (tg : List Nat) (one : Bool) (e : C)
  | app (i : Nat) (e : C) | ext (i : Nat) (e : C) | six (i : Nat) (k e : C) | apop (i j : Nat) (k : C)
  | ite (c : C) (a b : S) | loop (tg : List Nat) (one : Bool) (it : C) (b : S) | whl (c : C) (b : S)
  | ret (e : C) | brk | cnt | pass | frz (i : Nat) (s : S) | par (i j : Nat) (a b : C)
inductive Fl where
  | nx (σ : Sg) | bk (σ : Sg) | ct (σ : Sg) | rt (d : D)
def asgS (σ : Sg) (i : Nat) (c : C) (d : D) : R Sg := match d with
  | .list ds => if fresh c = true then .ok (σ.set i (.own ds)) else gd (!tmpC σ c) (.ok (σ.set i (.imm (.list ds))))
  | d => .ok (σ.set i (.imm d))
def ownAt (σ : Sg) (i : Nat) : R (List D) := match σ[i]? with
  | some (.own ds) => .ok ds
  | _ => stk
def retD (σ : Sg) (c : C) (d : D) : R D := match d with
  | .list ds => gd (fresh c || tmpC σ c) (.ok (.list ds))
  | d => .ok d
def frzS (σ : Sg) (i : Nat) : Sg := match σ[i]? with
  | some (.own ds) => σ.set i (.imm (.list ds))
  | _ => σ
def thenF (k : Sg → R Fl) (f : Fl) : R Fl := match f with
  | .nx σ => k σ
  | f => .ok f
def loopF (k : Sg → R Fl) (f : Fl) : R Fl := match f with
  | .nx σ => k σ
  | .ct σ => k σ
  | .bk σ => .ok (.nx σ)
  | .rt d => .ok (.rt d)
def forGo (f : D → Sg → R Fl) : List D → Sg → R Fl
  | [], σ => .ok (.nx σ)
  | d :: ds, σ => bd (f d σ) (loopF (forGo f ds))
def whGo (c : Sg → R Bool) (f : Sg → R Fl) : Nat → Sg → R Fl
  | 0, _ => stk
  | n + 1, σ => bd (c σ) fun b => if b = true then bd (f σ) (loopF (whGo c f n)) else .ok (.nx σ)
def setD (ds : List D) (k d : D) : R (List D) := match k with
  | .int k => match ixN ds.length k with
    | some j => .ok (ds.set j d)
    | none => stk
  | _ => stk
def popD (ds : List D) (k : D) : R (D × List D) := match k with
  | .int k => match ixN ds.length k with
    | some j => match ds[j]? with
      | some d => .ok (d, ds.eraseIdx j)
      | none => stk
    | none => stk
  | _ => stk
def evS (Φ : Nat → FnS) (n : Nat) : S → Sg → R Fl
  | .skip, σ => .ok (.nx σ)
  | .seq a b, σ => bd (evS Φ n a σ) (thenF (evS Φ n b))
  | .asg tg one e, σ => match one, tg with
    | true, [i] => bd (ev Φ e σ) fun d => bd (asgS σ i e d) fun σ => .ok (.nx σ)
    | true, _ => stk
    | false, tg => bd (ev Φ e σ) fun d => bd (bindT σ tg false d) fun σ => .ok (.nx σ)
  | .app i e, σ => bd (strict e σ (ev Φ e σ)) fun d => bd (ownAt σ i) fun ds => gd (decide (ds.length < 16777216)) (.ok (.nx (σ.set i (.own (ds ++ [d])))))
  | .ext i e, σ => bd (strict e σ (ev Φ e σ)) fun d => bd (seqD d) fun zs => bd (ownAt σ i) fun ds => gd (decide (ds.length + zs.length ≤ 16777216)) (.ok (.nx (σ.set i (.own (ds ++ zs)))))
  | .six i k e, σ => bd (strict e σ (ev Φ e σ)) fun d => bd (ev Φ k σ) fun k => bd (ownAt σ i) fun ds => bd (setD ds k d) fun r => .ok (.nx (σ.set i (.own r)))
  | .apop i j k, σ => bd (ev Φ k σ) fun k => bd (ownAt σ j) fun es => bd (popD es k) fun p => bd (ownAt (σ.set j (.own p.2)) i) fun ds => gd (decide (ds.length < 16777216)) (.ok (.nx ((σ.set j (.own p.2)).set i (.own (ds ++ [p.1])))))
  | .ite c a b, σ => bd (ev Φ c σ) fun d => bd (asB d) fun k => if k = true then evS Φ n a σ else evS Φ n b σ
  | .loop tg one it b, σ => gd (!tmpI σ it) (bd (evIt Φ it σ) fun ds => forGo (fun d σ => bd (bindT σ tg one d) (evS Φ n b)) ds σ)
  | .whl c b, σ => whGo (fun σ => bd (ev Φ c σ) asB) (evS Φ n b) n σ
  | .ret e, σ => bd (ev Φ e σ) fun d => bd (retD σ e d) fun d => .ok (.rt d)
  | .brk, σ => .ok (.bk σ)
  | .cnt, σ => .ok (.ct σ)
  | .pass, σ => .ok (.nx σ)
  | .frz i s, σ => evS Φ n s (frzS σ i)
  | .par i j a b, σ => bd (strict a σ (ev Φ a σ)) fun d1 => bd (strict b σ (ev Φ b σ)) fun d2 => bd (asgS (σ.set i (.imm d1)) j b d2) fun τ => .ok (.nx τ)
/-! ### the text -/
def isTupE : Expr → Bool
  | .Tuple _ _ _ => true
  | _ => false
def isCompE : Expr → Bool
  | .ListComp _ _ _ _ => true
  | .SetComp _ _ _ _ => true
  | .DictComp _ _ _ _ _ => true
  | _ => false
def lcScope : Expr → Option (Scope × Pos)
  | .ListComp _ _ s p => some (s, p)
  | _ => none
def lclB (sc : Scope) (x : Str) : Bool := match sc.names.lookup x with
  | some .local => true
  | _ => false
mutual
def chkS (G : GE) (N : List Str) (sc : Scope) : S → Stmt → Bool
  | .asg tg one e, .Assign [t] v _ => chkT N sc tg one t && chk G N e sc v && (match one with | true => true | false => !isTupE v && !isCompE v)
  | .app i e, .Expr (.Call (.Attribute (.Name x p) m ap) [v] [] cp) _ => decide (m = "append") && chk G N (.var i) sc (.Name x p) && chk G N e sc v && !starred v && (ap.endLine == cp.line)
  | .ext i e, .Expr (.Call (.Attribute (.Name x p) m ap) [v] [] cp) _ => decide (m = "extend") && chk G N (.var i) sc (.Name x p) && chk G N e sc v && !starred v && (ap.endLine == cp.line)
  | .six i k e, .Assign [.Subscript (.Name x p) s _] v _ => chk G N (.var i) sc (.Name x p) && chk G N k sc s && chk G N e sc v && !isCompE v
  | .apop i j k, .Expr (.Call (.Attribute (.Name x p) m ap) [.Call (.Attribute (.Name y q) m2 ap2) [v] [] cp2] [] cp) _ => decide (m = "append") && decide (m2 = "pop") && decide (i ≠ j) && chk G N (.var i) sc (.Name x p) && chk G N (.var j) sc (.Name y q) && chk G N k sc v && !starred v && (ap.endLine == cp.line) && (ap2.endLine == cp2.line)
  | .ite c a b, .If t u w _ => chk G N c sc t && chkB G N sc a u && chkB G N sc b w
  | .loop tg one it b, .For t iter body [] _ => chkT N sc tg one t && chkI G N it sc iter && chkB G N sc b body && tgOk it t
  | .whl c b, .While t body [] _ => chk G N c sc t && chkB G N sc b body
  | .ret e, .Return (some v) _ => chk G N e sc v
  | .brk, .Break _ => true
  | .cnt, .Continue _ => true
  | .pass, .Pass _ => true
  | .frz _ s, st => chkS G N sc s st
  | .par i j a b, .Assign [.Tuple [.Name x px, .Name y py] _ _] (.Tuple [v, w] _ _) _ => decide (N[i]? = some x) && decide (N[j]? = some y) && lclB sc x && lclB sc y && decide (i ≠ j) && decide (x ≠ y) && (py.line == px.line) && chk G N a sc v && chk G N b sc w && !starred v && !starred w && !([v, w].all (foldedForSure 8)) && !([v, w].all (constantsAlone 8))
  | _, _ => false
def chkB (G : GE) (N : List Str) (sc : Scope) : S → List Stmt → Bool
  | .skip, [] => true
  | .seq a b, st :: r => chkS G N sc a st && chkB G N sc b r
  | _, _ => false
end
/-! ### states -/
structure Rep (K : PySem.W.Frag) (H0 : Hp) (O : List Addr) (H : Hp) (σd : Sg) (σ : L2.St) : Prop where
  e : RepE K O H σd σ
  dis : ∀ (i j : Nat) (ds es : List D) (a : Addr), σd[i]? = some (.own ds) → σd[j]? = some (.own es) → σ[i]? = some (some (.ref a)) → σ[j]? = some (some (.ref a)) → i = j
  new : ∀ a, a ∈ O → H0 a = none
  old : Same H0 H
/-- what is wanted behind a statement -/
def Post (K : PySem.W.Frag) (H0 : Hp) (O : List Addr) (H : Hp) (E : Ends) : Fl → Prop
  | .nx σd => ∀ O' H' σ, Rep K H0 O' H' σd σ → Same (msk H O) (msk H' O') → E.nx σ H'
  | .bk σd => ∀ O' H' σ, Rep K H0 O' H' σd σ → Same (msk H O) (msk H' O') → E.bk σ H'
  | .ct σd => ∀ O' H' σ, Rep K H0 O' H' σd σ → Same (msk H O) (msk H' O') → E.ct σ H'
  | .rt d => ∀ v H', Same H0 H' → Ret K H0 H' v d → E.rt v H'
def OkSt (Φ : Nat → FnS) (n : Nat) (X : Cx) (H0 : Hp) (c : S) (st : Stmt) : Prop := ∀ (O : List Addr) (H : Hp) (σd : Sg) (σ : L2.St) (f : Fl), Rep X.K H0 O H σd σ → evS Φ n c σd = .ok f → ∀ E : Ends, Post X.K H0 O H E f → SS X st E σ H
def OkBl (Φ : Nat → FnS) (n : Nat) (X : Cx) (H0 : Hp) (c : S) (st : List Stmt) : Prop := ∀ (O : List Addr) (H : Hp) (σd : Sg) (σ : L2.St) (f : Fl), Rep X.K H0 O H σd σ → evS Φ n c σd = .ok f → ∀ E : Ends, Post X.K H0 O H E f → SSs X st E σ H
section
variable {K : PySem.W.Frag} {H0 : Hp} {O O' : List Addr} {H H' : Hp} {σd : Sg} {σ : L2.St}
theorem Rep.same (r : Rep K H0 O H σd σ) (s : Same H H') : Rep K H0 O H' σd σ := ⟨r.e.same s, r.dis, r.new, r.old.trans s⟩
theorem set_at {α : Type} {l : List α} {i j : Nat} {x y : α} (h : (l.set i x)[j]? = some y) : (i = j ∧ y = x) ∨ (i ≠ j ∧ l[j]? = some y) := by
  by_cases e : i = j
  · subst e
    by_cases q : i < l.length
    · rw [List.getElem?_set_self q] at h; exact .inl ⟨rfl, (Option.some.inj h).symm⟩
    · rw [List.getElem?_eq_none (by rw [List.length_set]; omega)] at h; cases h
  · rw [List.getElem?_set_ne e] at h
    exact .inr ⟨e, h⟩
/-- data stored in a slot -/
theorem Rep.imm {i : Nat} {d : D} {v : V} (r : Rep K H0 O H σd σ) (h : Dp K (msk H O) v d) : Rep K H0 O H (σd.set i (.imm d)) (σ.set i (some v)) := by
  refine ⟨r.e.set (x := .imm d) h, fun j k ds es a e1 e2 e3 e4 => ?_, r.new, r.old⟩
  rcases set_at e1 with ⟨_, z⟩ | ⟨n1, z1⟩
  · cases z
  · rcases set_at e2 with ⟨_, z⟩ | ⟨n2, z2⟩
    · cases z
    · rw [List.getElem?_set_ne n1] at e3
      rw [List.getElem?_set_ne n2] at e4
      exact r.dis j k ds es a z1 z2 e3 e4
/-- a new list stored in a slot, owned from here on -/
theorem Rep.own {i : Nat} {ds : List D} {a : Addr} {xs : List V} (r : Rep K H0 O H σd σ) (s : Same H H') (n : H a = none) (e : H' a = some (.lst xs)) (h : DpAll K (msk H' (a :: O)) xs ds) :
    Rep K H0 (a :: O) H' (σd.set i (.own ds)) (σ.set i (some (.ref a))) ∧ Same (msk H O) (msk H' (a :: O)) := by
  refine ⟨⟨(r.e.block s n e).set (x := .own ds) ⟨List.mem_cons_self .., xs, e, h⟩, fun j k es fs b e1 e2 e3 e4 => ?_, fun b m => ?_, r.old.trans s⟩, msk_new s n⟩
  · have fr : ∀ (j : Nat) (es : List D), σd[j]? = some (.own es) → σ[j]? ≠ some (some (.ref a)) := fun j es z w => by
      obtain ⟨b, ys, w1, m, w2, _⟩ := r.e.own z
      rw [w1] at w
      cases w
      rw [n] at w2; cases w2
    rcases set_at e1 with ⟨rfl, z⟩ | ⟨n1, z1⟩
    · rcases set_at e2 with ⟨rfl, z⟩ | ⟨n2, z2⟩
      · rfl
      · rcases set_at e3 with ⟨_, z3⟩ | ⟨nn, _⟩
        · cases z3
          rw [List.getElem?_set_ne n2] at e4
          exact absurd e4 (fr k fs z2)
        · exact absurd rfl nn
    · rcases set_at e2 with ⟨rfl, z⟩ | ⟨n2, z2⟩
      · rcases set_at e4 with ⟨_, z3⟩ | ⟨nn, _⟩
        · cases z3
          rw [List.getElem?_set_ne n1] at e3
          exact absurd e3 (fr j es z1)
        · exact absurd rfl nn
      · rw [List.getElem?_set_ne n1] at e3
        rw [List.getElem?_set_ne n2] at e4
        exact r.dis j k es fs b z1 z2 e3 e4
  · rcases List.mem_cons.mp m with z | z
    · rw [z]; exact r.old.free n
    · exact r.new b z
/-- an owned list turned -/
theorem Rep.turn {i : Nat} {ds es : List D} {a : Addr} {ys : List V} (r : Rep K H0 O H σd σ) (hi : σd[i]? = some (.own ds)) (ha : σ[i]? = some (some (.ref a))) (m : a ∈ O) (h : DpAll K (msk H O) ys es) : Rep K H0 O (upd H a (.lst ys)) (σd.set i (.own es)) σ := by
  have mk : msk (upd H a (.lst ys)) O = msk H O := msk_upd m
  refine ⟨⟨fun b z => ?_, by rw [List.length_set]; exact r.e.len, fun j x e => ?_⟩, fun j k ds' fs b e1 e2 e3 e4 => ?_, r.new, fun b u z => ?_⟩
  · by_cases q : b = a
    · exact ⟨ys, by rw [q, upd_same]⟩
    · obtain ⟨xs, w⟩ := r.e.ol b z
      exact ⟨xs, by rw [upd_ne q]; exact w⟩
  · rcases set_at e with ⟨rfl, rfl⟩ | ⟨n1, z1⟩
    · exact ⟨_, ha, m, ys, upd_same, by rw [mk]; exact h⟩
    · obtain ⟨ov, w1, w2⟩ := r.e.at_ j x z1
      refine ⟨ov, w1, ?_⟩
      match x, ov, w1, w2 with
      | .imm d, some v, _, w2 => show Dp K (msk (upd H a (.lst ys)) O) v d; rw [mk]; exact w2
      | .own fs, some (.ref b), w1, ⟨m2, xs, w3, w4⟩ =>
        have nb : b ≠ a := fun q => by
          rw [q] at w1
          exact n1 (r.dis i j ds fs a hi z1 ha w1)
        exact ⟨m2, xs, by rw [upd_ne nb]; exact w3, by rw [mk]; exact w4⟩
      | .dead, _, _, _ => exact trivial
  · have back : ∀ (j : Nat) (ds' : List D), (σd.set i (.own es))[j]? = some (.own ds') → ∃ ds2, σd[j]? = some (.own ds2) := fun j ds' w => by
      rcases set_at w with ⟨rfl, _⟩ | ⟨_, w⟩
      · exact ⟨ds, hi⟩
      · exact ⟨ds', w⟩
    obtain ⟨d1, w1⟩ := back j ds' e1
    obtain ⟨d2, w2⟩ := back k fs e2
    exact r.dis j k d1 d2 b w1 w2 e3 e4
  · have nb : b ≠ a := fun q => by rw [q, r.new a m] at z; cases z
    rw [upd_ne nb]; exact r.old b u z
/-- an owned list is given up -/
theorem Rep.frz {i : Nat} (r : Rep K H0 O H σd σ) : ∃ O', Rep K H0 O' H (frzS σd i) σ ∧ Same (msk H O) (msk H O') := by
  unfold frzS
  split
  · rename_i ds hi
    obtain ⟨a, xs, ha, m, e, h⟩ := r.e.own hi
    have sub : ∀ b, b ∈ O.filter (fun b => decide (b ≠ a)) → b ∈ O := fun b z => (List.mem_filter.mp z).1
    have na : a ∉ O.filter (fun b => decide (b ≠ a)) := fun z => by simpa using (List.mem_filter.mp z).2
    have sm : Same (msk H O) (msk H (O.filter fun b => decide (b ≠ a))) := msk_sub sub
    refine ⟨O.filter (fun b => decide (b ≠ a)), ⟨⟨fun b z => r.e.ol b (sub b z), by rw [List.length_set]; exact r.e.len, fun j x w => ?_⟩, fun j k ds' fs b e1 e2 e3 e4 => ?_, fun b z => r.new b (sub b z), r.old⟩, sm⟩
    · rcases set_at w with ⟨rfl, rfl⟩ | ⟨n1, z1⟩
      · exact ⟨_, ha, .lst (.of (by rw [msk_out na]; exact e)) (DpAll.mono sm h)⟩
      · obtain ⟨ov, w1, w2⟩ := r.e.at_ j x z1
        refine ⟨ov, w1, ?_⟩
        match x, ov, w1, w2 with
        | .imm d, some v, _, w2 => exact Dp.mono sm w2
        | .own fs, some (.ref b), w1, ⟨m2, ys, w3, w4⟩ =>
          have nb : b ≠ a := fun q => by
            rw [q] at w1
            exact n1 (r.dis i j ds fs a hi z1 ha w1)
          exact ⟨List.mem_filter.mpr ⟨m2, by simpa using nb⟩, ys, w3, DpAll.mono sm w4⟩
        | .dead, _, _, _ => exact trivial
    · rcases set_at e1 with ⟨_, z⟩ | ⟨n1, z1⟩
      · cases z
      · rcases set_at e2 with ⟨_, z⟩ | ⟨n2, z2⟩
        · cases z
        · exact r.dis j k ds' fs b z1 z2 e3 e4
  · exact ⟨O, r, Same.refl _⟩
end
end Mt

set_option Elab.async false
set_option linter.all false
set_option maxRecDepth 100000
set_option maxHeartbeats 400000
/-! Statements: the core is what the text does. -/
namespace Mt
open PySem PySem.Spec PyProof.Rows L2
structure CtxS (G : GE) (Φ : Nat → FnS) (X : Cx) (N : List Str) (sc : Scope) : Prop where
  c : Ctx G Φ X N sc
  fn : ∀ x, X.fn x = true
  kd : sc.kind = .function
  pw : PassesOwn (model X.prog X.w) X.A X.env X.xe
section
variable {G : GE} {Φ : Nat → FnS} {n : Nat} {X : Cx} {N : List Str} {sc : Scope} {H0 : Hp}
theorem loc_def (cx : CtxS G Φ X N sc) (x : Str) (h : locB sc x = true) : Loc X.env.scope x ∧ (X.fn x = true ∨ X.env.scope.names.lookup x = some .local) := by
  refine ⟨?_, .inl (cx.fn x)⟩
  unfold locB at h
  rw [← cx.c.hsc] at h
  split at h
  · exact .inl ‹_›
  · exact .inr ‹_›
  · cases h
theorem okBl_skip : OkBl Φ n X H0 .skip [] := by
  intro O H σd σ f r hv E p
  rw [evS] at hv
  cases hv
  exact SSs.of pss_nil (p O H σ r (Same.refl _))
theorem okBl_seq {a b : S} {st : Stmt} {rest : List Stmt} (ha : OkSt Φ n X H0 a st) (hb : OkBl Φ n X H0 b rest) : OkBl Φ n X H0 (.seq a b) (st :: rest) := by
  intro O H σd σ f r hv E p
  rw [evS] at hv
  obtain ⟨f1, e1, hv⟩ := bd_inv hv
  refine SSs.of (pss_cons ps_s pss_s) (ha O H σd σ f1 r e1 _ ?_)
  cases f1 with
  | nx τd =>
    intro O1 H1 τ r1 s1
    refine hb O1 H1 τd τ f r1 hv E ?_
    cases f with
    | nx _ => exact fun O2 H2 ρ r2 s2 => p O2 H2 ρ r2 (s1.trans s2)
    | bk _ => exact fun O2 H2 ρ r2 s2 => p O2 H2 ρ r2 (s1.trans s2)
    | ct _ => exact fun O2 H2 ρ r2 s2 => p O2 H2 ρ r2 (s1.trans s2)
    | rt _ => exact p
  | bk τd => cases hv; exact p
  | ct τd => cases hv; exact p
  | rt d => cases hv; exact p
theorem okSt_pass {p : Pos} : OkSt Φ n X H0 .pass (.Pass p) := by
  intro O H σd σ f r hv E q
  rw [evS] at hv
  cases hv
  exact SS.of ps_pass (q O H σ r (Same.refl _))
theorem okSt_brk {p : Pos} : OkSt Φ n X H0 .brk (.Break p) := by
  intro O H σd σ f r hv E q
  rw [evS] at hv
  cases hv
  exact SS.of ps_break (q O H σ r (Same.refl _))
theorem okSt_cnt {p : Pos} : OkSt Φ n X H0 .cnt (.Continue p) := by
  intro O H σd σ f r hv E q
  rw [evS] at hv
  cases hv
  exact SS.of ps_continue (q O H σ r (Same.refl _))
theorem post_same {K : PySem.W.Frag} {O : List Addr} {H H' : Hp} {E : Ends} {f : Fl} (s : Same H H') (p : Post K H0 O H E f) : Post K H0 O H' E f := by
  cases f with
  | nx _ => exact fun O2 H2 ρ r2 s2 => p O2 H2 ρ r2 ((msk_same s).trans s2)
  | bk _ => exact fun O2 H2 ρ r2 s2 => p O2 H2 ρ r2 ((msk_same s).trans s2)
  | ct _ => exact fun O2 H2 ρ r2 s2 => p O2 H2 ρ r2 ((msk_same s).trans s2)
  | rt _ => exact p
theorem okSt_frz {i : Nat} {s : S} {st : Stmt} (h : OkSt Φ n X H0 s st) : OkSt Φ n X H0 (.frz i s) st := by
  intro O H σd σ f r hv E p
  rw [evS] at hv
  obtain ⟨O1, r1, s1⟩ := r.frz (i := i)
  refine h O1 H _ σ f r1 hv E ?_
  cases f with
  | nx _ => exact fun O2 H2 ρ r2 s2 => p O2 H2 ρ r2 (s1.trans s2)
  | bk _ => exact fun O2 H2 ρ r2 s2 => p O2 H2 ρ r2 (s1.trans s2)
  | ct _ => exact fun O2 H2 ρ r2 s2 => p O2 H2 ρ r2 (s1.trans s2)
  | rt _ => exact p
theorem okSt_ite {c : C} {a b : S} {t : Expr} {u w : List Stmt} {p : Pos} (hc : OkB Φ X c t) (ha : OkBl Φ n X H0 a u) (hb : OkBl Φ n X H0 b w) : OkSt Φ n X H0 (.ite c a b) (.If t u w p) := by
  intro O H σd σ f r hv E q
  rw [evS] at hv
  obtain ⟨d, e1, hw⟩ := bd_inv hv
  obtain ⟨k, e2, hz⟩ := bd_inv hw
  have hd := asB_inv e2
  subst hd
  refine SS.of (ps_if pt_s pss_s pss_s) (hc O H σd σ k r.e e1 _ fun H1 s1 => ?_)
  cases k with
  | true => rw [if_pos rfl] at hz; exact iteT (ha O H1 σd σ f (r.same s1) hz E (post_same s1 q))
  | false => rw [if_neg Bool.false_ne_true] at hz; exact iteF (hb O H1 σd σ f (r.same s1) hz E (post_same s1 q))
/-! ### assignments -/
theorem Dr.notList {K : PySem.W.Frag} {O : List Addr} {H : Hp} {v : V} {d : D} (h : Dr K O H v d) (hn : ∀ ds, d ≠ .list ds) : Dp K (msk H O) v d := by
  cases h with
  | im h => exact h
  | ow _ _ => exact absurd rfl (hn _)
theorem asg_post {O : List Addr} {H H1 : Hp} {σd τd : Sg} {σ : L2.St} {c : C} {v : V} {d : D} {i : Nat} {E : Ends} (r : Rep X.K H0 O H σd σ) (s1 : Same H H1) (res : Res X.K O H H1 σd c v d) (h : asgS σd i c d = .ok τd) (p : Post X.K H0 O H E (.nx τd)) : E.nx (σ.set i (some v)) H1 := by
  unfold asgS at h
  split at h
  · rename_i ds
    by_cases hf : fresh c = true
    · rw [if_pos hf] at h
      cases h
      obtain ⟨a, xs, rfl, na, ea, da⟩ := (res.nw hf).nw ds rfl
      obtain ⟨r1, sm⟩ := r.own (i := i) s1 na ea da
      exact p _ _ _ r1 sm
    · rw [if_neg hf] at h
      obtain ⟨g, h⟩ := gd_inv h
      cases h
      have ht : tmpC σd c = false := by simpa using g
      exact p O H1 _ ((r.same s1).imm (res.im ht)) (msk_same s1)
  · rename_i hn
    cases h
    exact p O H1 _ ((r.same s1).imm (Dr.notList res.dr hn)) (msk_same s1)
theorem sw_plain {e : Expr} {t : Option Expr} {l : Nat} {env : Env} (h : isCompE e = false) : swapsWith e t l env = pure false := by
  cases e <;> first | rfl | (cases h)
theorem sw_list (elt : Expr) (gs : List Comprehension) (scope : Scope) (pos py : Pos) (y : Str) (l : Nat) (env : Env) : swapsWith (.ListComp elt gs scope pos) (some (.Name y py)) l env =
    pure (env.blockKind == .function && env.kindOf y == some .local && py.line == pos.line && !(scope.names.any fun (n, k) => n == y && (k == .local || k == .cell))) := rfl
theorem okSt_set (cx : CtxS G Φ X N sc) {i : Nat} {e : C} {x : Str} {p p2 : Pos} {v : Expr} (hi : N[i]? = some x) (hl : locB sc x = true) (hc : chk G N e sc v = true) : OkSt Φ n X H0 (.asg [i] true e) (.Assign [.Name x p] v p2) := by
  intro O H σd σ f r hv E q
  rw [evS] at hv
  obtain ⟨d, e1, hw⟩ := bd_inv hv
  obtain ⟨τd, e2, hz⟩ := bd_inv hw
  cases hz
  have ok := ((all_ok G Φ N e).e v cx.c hc).1
  have hi' : X.N[i]? = some x := by rw [cx.c.hN]; exact hi
  have nd' : X.N.Nodup := by rw [cx.c.hN]; exact cx.c.nd
  obtain ⟨l1, l2⟩ := loc_def cx x hl
  have usual : swapsWith v (some (.Name x p)) p2.line X.env = pure false → SS X (.Assign [.Name x p] v p2) E σ H := fun hs =>
    SS.of (ps_set nd' hi' l1 pe_s hs l2) (ok O H σd σ d r.e e1 _ fun w H1 s1 r1 _ => asg_post r s1 r1 e2 q)
  by_cases hcomp : isCompE v = false
  · exact usual (sw_plain hcomp)
  · cases v with
    | ListComp elt gs scope pos =>
      rw [sw_list] at usual
      cases hb : (X.env.blockKind == .function && X.env.kindOf x == some .local && p.line == pos.line && !(scope.names.any fun (n, k) => n == x && (k == .local || k == .cell))) with
      | false => exact usual (by rw [hb])
      | true =>
        cases e with
        | lc e tg one it cond =>
          match gs, hc with
          | [⟨tgt, iter, ifs, k⟩], hc =>
            simp only [chk, Bool.and_eq_true, decide_eq_true_eq] at hc
            obtain ⟨⟨⟨⟨⟨⟨rfl, h1⟩, h2⟩, h3⟩, h4⟩, h5⟩, h6⟩ := hc
            have hcond : (cond = .nil ∧ ifs = []) ∨ ∃ a b c, cond = .cons a b ∧ ifs = [c] ∧ ∀ (s : Shared) (H : Hp) (C : Addr) (cl : List (Str × Addr)) (fp : List Addr), OkB Φ (X.blk s H scope (compEnvC scope cl C X.env) fp) a c := by
              cases cond with
              | nil =>
                cases ifs with
                | nil => exact .inl ⟨rfl, rfl⟩
                | cons _ _ => simp [chkC] at h4
              | cons a b =>
                match ifs, h4 with
                | [c], h4 =>
                  simp only [chkC] at h4
                  exact .inr ⟨a, b, c, rfl, rfl, fun s H C cl fp => ((all_ok G Φ N a).e c (cx.c.blk s H scope C cl fp) h4).2⟩
              | _ => cases ifs <;> simp [chkC] at h4
            obtain ⟨wi, tt, te, pi, bk, pg, ptt, pte, rd⟩ := lc_parts (p := pos) cx.c h1 h2 h3 ((all_ok G Φ N it).i iter cx.c h3) h6 hcond fun s H C cl fp => ((all_ok G Φ N e).e elt (cx.c.blk s H scope C cl fp) h5).1
            have hloc : X.env.scope.names.lookup x = some .local := by
              simp only [Bool.and_eq_true] at hb
              exact eq_of_beq hb.1.1.2
            have hsw : swapsWith (.ListComp elt [⟨tgt, iter, ifs, 0⟩] scope pos) (some (.Name x p)) p2.line X.env = pure true := by rw [sw_list, hb]
            refine SS.of (ps_setLc (own := ownOf N tg) cx.c.calm nd' hi' hloc hsw pi bk pg ptt pte (fold_plain h3 X.env)) ?_
            exact rd O H σd σ d r.e e1 _ fun w H1 s1 nw => asg_post r s1 (Res.of_new nw) e2 q
        | _ => simp [chk, shX1_lc, shX2_lc, shX1_sc, shX2_sc, shX1_dc, shX2_dc] at hc
    | SetComp _ _ _ _ => cases e <;> simp [chk, shX1_lc, shX2_lc, shX1_sc, shX2_sc, shX1_dc, shX2_dc] at hc
    | DictComp _ _ _ _ _ => cases e <;> simp [chk, shX1_lc, shX2_lc, shX1_sc, shX2_sc, shX1_dc, shX2_dc] at hc
    | _ => exact absurd rfl hcomp
theorem gN_rep {K : PySem.W.Frag} {O : List Addr} {H : Hp} {Q : L2.St → Hp → Prop} : ∀ {tg : List Nat} {ds : List D} {xs : List V} {σd : Sg} {σ : L2.St}, ds.length = tg.length → DpAll K (msk H O) xs ds → Rep K H0 O H σd σ →
    (∀ τ, Rep K H0 O H (setAll σd tg ds) τ → Q τ H) → gNs tg xs σ H Q
  | [], [], _, σd, σ, _, h, r, q => by
    cases h
    exact ⟨rfl, q σ r⟩
  | i :: is, d :: ds, _, σd, σ, l, h, r, q => by
    cases h with
    | cons a b => exact ⟨_, _, rfl, gN_rep (by simpa using l) b (r.imm (i := i) a) q⟩
  | [], _ :: _, _, _, _, l, _, _, _ => by simp at l
  | _ :: _, [], _, _, _, l, _, _, _ => by simp at l
/-- a target, for a whole state -/
theorem gT_rep {K : PySem.W.Frag} {O : List Addr} {H : Hp} {tg : List Nat} {one : Bool} {d : D} {x : V} {σd τd : Sg} {σ : L2.St} {Q : L2.St → Hp → Prop} (r : Rep K H0 O H σd σ) (hx : Dp K (msk H O) x d) (h : bindT σd tg one d = .ok τd)
    (q : ∀ τ, Rep K H0 O H τd τ → Q τ H) : gT K tg one x σ H Q := by
  unfold bindT at h
  split at h
  · cases h
    exact q _ (r.imm hx)
  · obtain ⟨g, e⟩ := gd_inv h
    cases e
    cases hx with
    | tup hs ha => exact ⟨_, _, rfl, sqT_same (msk_le H O) hs.sq, (DpAll.length ha).trans (of_decide_eq_true g), gN_rep (of_decide_eq_true g) ha r q⟩
  · cases h
theorem gT_repW {K : PySem.W.Frag} {O : List Addr} {H : Hp} {tg : List Nat} {one w : Bool} {d : D} {x : V} {σd τd : Sg} {σ : L2.St} {Q : L2.St → Hp → Prop} (hw : w = true → one = false) (r : Rep K H0 O H σd σ) (hx : Dw K w (msk H O) x d) (h : bindT σd tg one d = .ok τd)
    (q : ∀ τ, Rep K H0 O H τd τ → Q τ H) : gT K tg one x σ H Q := by
  rcases hx with hx | ⟨z, a, xs, ds, rfl, rfl, hs, ha⟩
  · exact gT_rep r hx h q
  · have ho := hw z
    subst ho
    obtain ⟨g, e⟩ := gd_inv (show gd (decide (ds.length = tg.length)) (.ok (setAll σd tg ds)) = .ok τd from h)
    cases e
    exact ⟨_, _, rfl, sqT_same (msk_le H O) hs, (DpAll.length ha).trans (of_decide_eq_true g), gN_rep (of_decide_eq_true g) ha r q⟩
theorem okSt_unpack (cx : CtxS G Φ X N sc) {tg : List Nat} {e : C} {t v : Expr} {p : Pos} (ht : chkT N sc tg false t = true) (hc : chk G N e sc v = true) (h1 : isTupE v = false) (h2 : isCompE v = false) : OkSt Φ n X H0 (.asg tg false e) (.Assign [t] v p) := by
  intro O H σd σ f r hv E q
  rw [evS] at hv
  obtain ⟨d, e1, hw⟩ := bd_inv hv
  obtain ⟨τd, e2, hz⟩ := bd_inv hw
  cases hz
  have ok := ((all_ok G Φ N e).e v cx.c hc).1
  have pg := pg_target cx.c.calm cx.c.hN cx.c.nd (loc_def cx) ht
  have ht' : ∃ es k q, t = .Tuple es k q := by
    cases t <;> first | (exact ⟨_, _, _, rfl⟩) | (simp [chkT] at ht)
  obtain ⟨es, k, tp, rfl⟩ := ht'
  have hw : swappedStores [.Tuple es k tp] v X.env = pure none := by
    cases v <;> first | rfl | (cases h1)
  have hs1 : swapsWithSole [.Tuple es k tp] v p.line X.env = pure false := by
    have z := sw_plain (t := some (.Tuple es k tp)) (l := p.line) (env := X.env) h2
    exact z
  refine SS.of (ps_asg pe_s pg hs1 hw rfl) (ok O H σd σ d r.e e1 _ fun w H1 s1 r1 _ => ?_)
  have hd : ∀ ds, d ≠ .list ds := fun ds z => by
    subst z
    simp [bindT, stk] at e2
  exact gT_rep (r.same s1) (Dr.notList r1.dr hd) e2 fun τ r2 => q O H1 τ r2 (msk_same s1)
/-! ### a, b = x, y -/
theorem loc_lcl {x : Str} (h : lclB sc x = true) : sc.names.lookup x = some .local := by
  unfold lclB at h
  split at h
  · assumption
  · cases h
theorem swap_two {x y : Str} {px py pt pt2 : Pos} {k k2 : Nat} {v w : Expr} {env : Env} (hk : env.scope.kind = .function) (hx : env.scope.names.lookup x = some .local) (hy : env.scope.names.lookup y = some .local) (hxy : x ≠ y) (hl : (py.line == px.line) = true) (s1 : (!starred v) = true) (s2 : (!starred w) = true)
    (f1 : [v, w].all (foldedForSure 8) = false) (f2 : [v, w].all (constantsAlone 8) = false) : swappedStores [.Tuple [.Name x px, .Name y py] k pt] (.Tuple [v, w] k2 pt2) env = pure (some [x, y]) := by
  have hs : ∀ g : Expr → Bool, (∀ e, g e = starred e) → [v, w].any g = false := fun g hg => by
    rw [Bool.not_eq_true'] at s1 s2
    simp [hg, s1, s2]
  have nd : ([x, y] : List Str).eraseDups = [x, y] := by
    have : (y == x) = false := by simpa using fun e => hxy e.symm
    simp [List.eraseDups_cons, this]
  unfold swappedStores
  simp only [Env.blockKind, Env.kindOf, hk, f1, f2, List.filterMap_cons, List.filterMap_nil, hx, hy, List.head?_cons, Option.map_some, Option.getD_some, Expr.pos, hl, beq_self_eq_true, Bool.and_self, if_true, List.length_cons, List.length_nil, nd, Bool.and_true]
  rw [if_neg (by simp [ScopeKind.isAnnotationScope]), hs _ (fun e => by cases e <;> rfl)]
  rfl
theorem okSt_par (cx : CtxS G Φ X N sc) {i j : Nat} {a b : C} {x y : Str} {px py pt pt2 pos : Pos} {k k2 : Nat} {v w : Expr} (hi : N[i]? = some x) (hj : N[j]? = some y) (lx : lclB sc x = true) (ly : lclB sc y = true) (hij : i ≠ j) (hxy : x ≠ y) (hl : (py.line == px.line) = true)
    (ca : chk G N a sc v = true) (cb : chk G N b sc w = true) (s1 : (!starred v) = true) (s2 : (!starred w) = true) (f1 : [v, w].all (foldedForSure 8) = false) (f2 : [v, w].all (constantsAlone 8) = false) : OkSt Φ n X H0 (.par i j a b) (.Assign [.Tuple [.Name x px, .Name y py] k pt] (.Tuple [v, w] k2 pt2) pos) := by
  intro O H σd σ f r hv E q
  rw [evS] at hv
  obtain ⟨d1, e1, hv⟩ := bd_inv hv
  obtain ⟨d2, e2, hv⟩ := bd_inv hv
  obtain ⟨τd, e3, hv⟩ := bd_inv hv
  cases hv
  obtain ⟨e1, t1⟩ := strict_ok e1
  obtain ⟨e2, t2⟩ := strict_ok e2
  have hx : X.env.scope.names.lookup x = some .local := by rw [cx.c.hsc]; exact loc_lcl lx
  have hy : X.env.scope.names.lookup y = some .local := by rw [cx.c.hsc]; exact loc_lcl ly
  have oa := ((all_ok G Φ N a).e v cx.c ca).1
  have ob := ((all_ok G Φ N b).e w cx.c cb).1
  refine SS.of (ps_par cx.c.calm (by rw [cx.c.hN]; exact cx.c.nd) (by rw [cx.c.hN]; exact hi) (by rw [cx.c.hN]; exact hj) hij hx hy (pa_cons pe_s (pa_cons pe_s pa_nil (star_cons X.env s2)) (star_cons X.env s1)) (swap_two (by rw [cx.c.hsc]; exact cx.kd) hx hy hxy hl s1 s2 f1 f2)) ?_
  refine oa O H σd σ d1 r.e e1 _ fun u H1 h1 r1 _ => ob O H1 σd σ d2 (r.e.same h1) e2 _ fun z H2 h2 r2 _ => ⟨u, z, rfl, ?_⟩
  have rp : Rep X.K H0 O H1 (σd.set i (.imm d1)) (σ.set i (some u)) := (r.same h1).imm (r1.im t1)
  have rs : Res X.K O H1 H2 (σd.set i (.imm d1)) b z d2 := ⟨r2.dr, fun _ => r2.im t2, r2.nw⟩
  exact asg_post rp h2 rs e3 (post_same h1 q)
/-! ### lists that are owned -/
theorem own_inv {σd : Sg} {i : Nat} {ds : List D} (h : ownAt σd i = .ok ds) : σd[i]? = some (.own ds) := by
  unfold ownAt at h
  split at h
  · cases h; assumption
  · cases h
theorem few1 {v : Expr} {cp : Pos} (env : Env) (h : (!starred v) = true) : ((backTo cp (starEach [v] env)).all (fun x => !x.1) && (backToKw cp (keywordEach [] env)).all (fun x => x.1.isSome)
      && decide ([v].length + ([] : List Keyword).length + (if ([] : List Keyword).isEmpty then 0 else 1) < 30)) = true := by
  rw [star_cons env h]; rfl
theorem pe_slot (cx : CtxS G Φ X N sc) {i : Nat} {x : Str} {p : Pos} (h : chk G N (.var i) sc (.Name x p) = true) : PE X (.Name x p) (tVar i) := by
  simp only [chk, Bool.and_eq_true] at h
  obtain ⟨n1, n2, _⟩ := nm_of h.2
  exact pe_var (i := i) (by rw [cx.c.hN]; exact of_decide_eq_true h.1.1) (vis_of cx.c h.1.2) n1 n2
theorem okSt_app (cx : CtxS G Φ X N sc) {i : Nat} {e : C} {x : Str} {v : Expr} {p ap cp sp : Pos} (hx : chk G N (.var i) sc (.Name x p) = true) (hc : chk G N e sc v = true) (hs : (!starred v) = true) (hl : (ap.endLine == cp.line) = true) :
    OkSt Φ n X H0 (.app i e) (.Expr (.Call (.Attribute (.Name x p) "append" ap) [v] [] cp) sp) := by
  intro O H σd σ f r hv E q
  rw [evS] at hv
  obtain ⟨d, e1, hw⟩ := bd_inv hv
  obtain ⟨ds, e2, hz⟩ := bd_inv hw
  obtain ⟨g, hy⟩ := gd_inv hz
  cases hy
  obtain ⟨e1, t1⟩ := strict_ok e1
  have ok := ((all_ok G Φ N e).e v cx.c hc).1
  have oi := own_inv e2
  obtain ⟨a, xs, ha, m, ea, da⟩ := r.e.own oi
  refine SS.of (ps_expr (pe_bm PySem.F.plainAttrs_list PySem.F.slot_list_append PySem.F.type_list_append mt_append (pe_slot cx hx) (pa_cons pe_s pa_nil (star_cons X.env hs)) rfl (few1 X.env hs) hl (star_cons X.env hs) rfl) rfl) ?_
  refine ⟨_, ha, .inl ⟨rfl, _, SqL.of ea⟩, ok O H σd σ d r.e e1 _ fun w H1 s1 r1 _ => ?_⟩
  have r2 := r.same s1
  have g := of_decide_eq_true g
  have dl := DpAll.length da
  refine ⟨a, xs, w, rfl, rfl, s1 _ _ ea, by rw [sizeLine_eq]; omega, ?_⟩
  refine q O _ σ (r2.turn oi ha m (DpAll.snoc (DpAll.mono (msk_same s1) da) (r1.im t1))) ?_
  rw [msk_upd m]
  exact msk_same s1
end
end Mt

set_option Elab.async false
set_option linter.all false
set_option maxRecDepth 100000
set_option maxHeartbeats 400000
namespace Mt
open PySem PySem.Spec PyProof.Rows L2
theorem ext_meets (l b : Addr) (items items2 : Array Value) (n : Nat) (T : String) (n2 : Nat) (o : Obj) (hT : T = "list" ∨ T = "tuple") (hc : o.cls = .type T) (hd : o.data = .seq items2 n2) (hn : ¬ (!items.isEmpty && Builtin.List.listTooLong (items.size + items2.size)) = true) (h1 : items.size ≤ sizeLine) (h2 : items.size + items2.size ≤ sizeLine + 1) :
    Meets (Builtin.«list.extend» ⟨[.ref l, .ref b], []⟩) (fun _ R s => s.heap.get? l = some { cls := .type "list", dict := none, data := .seq items n, slots := #[] } ∧ s.heap.get? b = some o ∧ R (.ok (.ret Value.none)) { s with heap := s.heap.update l (Obj.mapSeq fun x => x ++ items2) }) :=
  .of_wp fun prog w A R s h => by
    obtain ⟨hl, hb, h⟩ := h
    show wpAny _ _ (Builtin.List.listExtendWith (.ref l) (.ref b) .none) _ _ s
    unfold Builtin.List.listExtendWith
    refine wpAny_bind (wpAny_typeOf (T := T) ⟨o, hb, hc⟩ ?_)
    have ht : (Value.type T == Value.type "list") = true ∨ (Value.type T == Value.type "tuple") = true := by
      rcases hT with rfl | rfl
      · exact .inl rfl
      · exact .inr rfl
    rw [if_pos (by rcases ht with e | e <;> rw [e] <;> simp)]
    refine wpAny_bind (listItems_at hb hd ?_)
    refine wpAny_bind (listItems_at hl rfl ?_)
    rw [if_neg hn]
    refine wpAny_bind (listUpdate_at hl rfl ?_ h1 (by rw [Array.size_append]; exact h2))
    exact wpAny_pure ⟨_, rfl, h⟩
section
variable {G : GE} {Φ : Nat → FnS} {n : Nat} {X : Cx} {N : List Str} {sc : Scope} {H0 : Hp}
/-- extend by a list or a tuple -/
def rExtD (K : PySem.W.Frag) : V → List V → Hp → VK → Prop := fun x vs H Q => ∃ l b xs zs, x = .ref l ∧ vs = [.ref b] ∧ H l = some (.lst xs) ∧ (SqL K H b zs ∨ SqT K H b zs) ∧ xs.length + zs.length ≤ sizeLine ∧ Q .non (upd H l (.lst (xs ++ zs)))
theorem mt_extD : MtM X "list.extend" (rExtD X.K) := by
  intro pins s σ H x vs v us Q I rx rv h
  obtain ⟨l, b, xs, zs, rfl, rfl, hH, hB, hz, q⟩ := h
  cases rx
  obtain ⟨u, rfl, ru⟩ := rv.one
  cases ru
  obtain ⟨z, its, n1, r1, hl1, e1⟩ := I.lstM hH
  obtain ⟨us, r2, sq, _⟩ := sq_is I hB
  obtain ⟨T, o, n2, hT, g2, c2, d2⟩ := sq.raw
  have w := r2.length
  have hn : ¬ (!its.toArray.isEmpty && Builtin.List.listTooLong (its.toArray.size + us.toArray.size)) = true := by
    rw [notLongL (by rw [List.size_toArray, List.size_toArray]; omega), Bool.and_false]
    exact Bool.false_ne_true
  refine call_meets F.slot_list_extend ⟨_, e1, rfl⟩ F.entry_list_extend (F.args_list_extend_2 _ _)
    (ext_meets l b its.toArray us.toArray n1 T n2 o hT c2 d2 hn (by rw [List.size_toArray]; omega) (by rw [List.size_toArray, List.size_toArray]; omega)) ⟨e1, g2, ?_⟩
  exact ⟨.non, _, I.lset (its' := its ++ us) (t' := s.toks) hH e1 (by simp) (r1.append r2) (by rw [List.length_append]; omega), rfl, q⟩
theorem okSt_ext (cx : CtxS G Φ X N sc) {i : Nat} {e : C} {x : Str} {v : Expr} {p ap cp sp : Pos} (hx : chk G N (.var i) sc (.Name x p) = true) (hc : chk G N e sc v = true) (hs : (!starred v) = true) (hl : (ap.endLine == cp.line) = true) :
    OkSt Φ n X H0 (.ext i e) (.Expr (.Call (.Attribute (.Name x p) "extend" ap) [v] [] cp) sp) := by
  intro O H σd σ f r hv E q
  rw [evS] at hv
  obtain ⟨d, e1, hw⟩ := bd_inv hv
  obtain ⟨zs, e3, hw⟩ := bd_inv hw
  obtain ⟨ds, e2, hz⟩ := bd_inv hw
  obtain ⟨g, hy⟩ := gd_inv hz
  cases hy
  obtain ⟨e1, t1⟩ := strict_ok e1
  have ok := ((all_ok G Φ N e).e v cx.c hc).1
  have oi := own_inv e2
  obtain ⟨a, xs, ha, m, ea, da⟩ := r.e.own oi
  refine SS.of (ps_expr (pe_bm PySem.F.plainAttrs_list PySem.F.slot_list_extend PySem.F.type_list_extend mt_extD (pe_slot cx hx) (pa_cons pe_s pa_nil (star_cons X.env hs)) rfl (few1 X.env hs) hl (star_cons X.env hs) rfl) rfl) ?_
  refine ⟨_, ha, .inl ⟨rfl, _, SqL.of ea⟩, ok O H σd σ d r.e e1 _ fun w H1 s1 r1 _ => ?_⟩
  have r2 := r.same s1
  have g := of_decide_eq_true g
  have dl := DpAll.length da
  obtain ⟨b, ys, rfl, hb, db⟩ : ∃ b ys, w = .ref b ∧ (SqL X.K H1 b ys ∨ SqT X.K H1 b ys) ∧ DpAll X.K (msk H1 O) ys zs := by
    unfold seqD at e3
    split at e3
    · cases e3
      obtain ⟨b, ys, rfl, h1, h2⟩ := r1.dr.list
      exact ⟨b, ys, rfl, .inl h1, h2⟩
    · cases e3
      obtain ⟨b, ys, rfl, h1, h2, _⟩ := r1.dr.tuple
      exact ⟨b, ys, rfl, .inr h1, h2⟩
    · cases e3
  have dl2 := DpAll.length db
  refine ⟨a, b, xs, ys, rfl, rfl, s1 _ _ ea, hb, by rw [sizeLine_eq]; omega, ?_⟩
  refine q O _ σ (r2.turn oi ha m (DpAll.append (DpAll.mono (msk_same s1) da) db)) ?_
  rw [msk_upd m]
  exact msk_same s1
theorem okSt_six (cx : CtxS G Φ X N sc) {i : Nat} {k e : C} {x : Str} {s v : Expr} {p p2 p3 : Pos} (hx : chk G N (.var i) sc (.Name x p) = true) (hk : chk G N k sc s = true) (hc : chk G N e sc v = true) (h2 : isCompE v = false) :
    OkSt Φ n X H0 (.six i k e) (.Assign [.Subscript (.Name x p) s p2] v p3) := by
  intro O H σd σ f r hv E q
  rw [evS] at hv
  obtain ⟨d, e1, hw⟩ := bd_inv hv
  obtain ⟨kd, e3, hw⟩ := bd_inv hw
  obtain ⟨ds, e2, hw⟩ := bd_inv hw
  obtain ⟨rs, e4, hz⟩ := bd_inv hw
  cases hz
  obtain ⟨e1, t1⟩ := strict_ok e1
  have ok := ((all_ok G Φ N e).e v cx.c hc).1
  have okk := ((all_ok G Φ N k).e s cx.c hk).1
  have oi := own_inv e2
  obtain ⟨a, xs, ha, m, ea, da⟩ := r.e.own oi
  have hs1 : swapsWithSole [.Subscript (.Name x p) s p2] v p3.line X.env = pure false := by
    have z := sw_plain (t := some (.Subscript (.Name x p) s p2)) (l := p3.line) (env := X.env) h2
    exact z
  refine SS.of (ps_asg pe_s (pg_sub (pe_slot cx hx) pe_s set_list (by
    intro _
    cases s <;> first | rfl | (cases k <;> first | (simp [chk] at hk; done) | (rename_i j _; cases j <;> simp [chk, shX1] at hk; done) | (rename_i j _ _; cases j <;> simp [chk, shX2] at hk)))) hs1 rfl rfl) ?_
  refine ok O H σd σ d r.e e1 _ fun w H1 s1 r1 _ => ⟨_, ha, okk O H1 σd σ kd (r.e.same s1) e3 _ fun y H2 s2 r2 _ => ?_⟩
  have r3 := (r.same s1).same s2
  unfold setD at e4
  split at e4
  · split at e4
    · rename_i j ej
      cases e4
      have s12 := s1.trans s2
      refine ⟨a, xs, _, j, rfl, r2.dr.int, s12 _ _ ea, by rw [DpAll.length da]; exact ej, ?_⟩
      refine q O _ σ (r3.turn oi ha m (DpAll.set j (DpAll.mono (msk_same s12) da) (Dp.mono (msk_same s2) (r1.im t1)))) ?_
      rw [msk_upd m]
      exact msk_same s12
    · cases e4
  · cases e4
theorem okSt_apop (cx : CtxS G Φ X N sc) {i j : Nat} {k : C} {x y : Str} {v : Expr} {p ap cp sp p2 ap2 cp2 : Pos} (hij : i ≠ j) (hx : chk G N (.var i) sc (.Name x p) = true) (hy : chk G N (.var j) sc (.Name y p2) = true) (hc : chk G N k sc v = true) (hs : (!starred v) = true) (hl : (ap.endLine == cp.line) = true) (hl2 : (ap2.endLine == cp2.line) = true) :
    OkSt Φ n X H0 (.apop i j k) (.Expr (.Call (.Attribute (.Name x p) "append" ap) [.Call (.Attribute (.Name y p2) "pop" ap2) [v] [] cp2] [] cp) sp) := by
  intro O H σd σ f r hv E q
  rw [evS] at hv
  obtain ⟨kd, e1, hw⟩ := bd_inv hv
  obtain ⟨es, e2, hw⟩ := bd_inv hw
  obtain ⟨pr, e3, hw⟩ := bd_inv hw
  obtain ⟨ds, e4, hz⟩ := bd_inv hw
  obtain ⟨g, hy'⟩ := gd_inv hz
  cases hy'
  have ok := ((all_ok G Φ N k).e v cx.c hc).1
  have oj := own_inv e2
  have oi' := own_inv e4
  have oi : σd[i]? = some (.own ds) := by
    rcases set_at oi' with ⟨z, _⟩ | ⟨_, z⟩
    · exact absurd z.symm hij
    · exact z
  obtain ⟨a, xs, ha, m, ea, da⟩ := r.e.own oi
  obtain ⟨b, ys, hb, mb, eb, db⟩ := r.e.own oj
  have nab : a ≠ b := fun z => by rw [z] at ha; exact hij (r.dis i j ds es b oi oj ha hb)
  have inner : PE X (.Call (.Attribute (.Name y p2) "pop" ap2) [v] [] cp2) (tBM X.K "list" rPopAt (tVar j) (tCons (SE X v) tNil)) :=
    pe_bm PySem.F.plainAttrs_list PySem.F.slot_list_pop PySem.F.type_list_pop mt_popAt (pe_slot cx hy) (pa_cons pe_s pa_nil (star_cons X.env hs)) rfl (few1 X.env hs) hl2 (star_cons X.env hs) rfl
  refine SS.of (ps_expr (pe_bm PySem.F.plainAttrs_list PySem.F.slot_list_append PySem.F.type_list_append mt_append (pe_slot cx hx) (pa_cons inner pa_nil rfl) rfl rfl hl rfl rfl) rfl) ?_
  refine ⟨_, ha, .inl ⟨rfl, _, SqL.of ea⟩, _, hb, .inl ⟨rfl, _, SqL.of eb⟩, ok O H σd σ kd r.e e1 _ fun w H1 s1 r1 F1 => ?_⟩
  have r2 := r.same s1
  unfold popD at e3
  split at e3
  · split at e3
    · rename_i jj ej
      split at e3
      · rename_i dd ed
        cases e3
        have db1 := DpAll.mono (msk_same s1) db
        have dl := DpAll.length db
        obtain ⟨z1, z2, z3, z4⟩ := ixN_seq ej
        obtain ⟨vy, gy, dy⟩ := DpAll.get db1 ed
        have fl := F1 b ys (.inl (.of (s1 _ _ eb)))
        refine ⟨b, ys, _, jj, vy, rfl, by rw [r1.dr.int], s1 _ _ eb, by omega, by omega, by rw [dl]; exact z1, gy, ?_⟩
        have r3 := r2.turn oj hb mb (DpAll.eraseIdx jj db1)
        have mk : msk (upd H1 b (.lst (ys.eraseIdx jj))) O = msk H1 O := msk_upd mb
        have g := of_decide_eq_true g
        have dl2 := DpAll.length da
        refine ⟨a, xs, vy, rfl, rfl, by rw [upd_ne nab]; exact s1 _ _ ea, by rw [sizeLine_eq]; omega, ?_⟩
        refine q O _ σ (r3.turn oi' ha m (by rw [mk]; exact DpAll.snoc (DpAll.mono (msk_same s1) da) dy)) ?_
        rw [msk_upd m, mk]
        exact msk_same s1
      · cases e3
    · cases e3
  · cases e3
theorem okSt_ret (cx : CtxS G Φ X N sc) {e : C} {v : Expr} {p : Pos} (hc : chk G N e sc v = true) : OkSt Φ n X H0 (.ret e) (.Return (some v) p) := by
  intro O H σd σ f r hv E q
  rw [evS] at hv
  obtain ⟨d, e1, hw⟩ := bd_inv hv
  obtain ⟨d', e2, hz⟩ := bd_inv hw
  cases hz
  refine SS.of (ps_ret pe_s) ?_
  by_cases ht : tmpC σd e = true
  · cases e with
    | var i =>
      unfold tmpC at ht
      dsimp only at ht
      split at ht
      · rename_i ds oi
        obtain ⟨a, xs, ha, m, ea, da⟩ := r.e.own oi
        rw [ev, rdS, oi] at e1
        cases e1
        cases v with
        | Name x vp =>
          refine SE.of (pe_slot cx hc) ⟨_, ha, ?_⟩
          simp only [retD] at e2
          obtain ⟨_, e2⟩ := gd_inv e2
          cases e2
          refine q _ H r.old ⟨.lst (.of ea) (DpAll.mono (msk_le H O) da), fun ds' z => ?_⟩
          cases z
          exact ⟨a, xs, rfl, r.new a m, ea, DpAll.mono (msk_le H O) da⟩
        | _ => simp [chk, shX1_lc, shX2_lc, shX1_sc, shX2_sc, shX1_dc, shX2_dc] at hc
      · cases ht
    | _ => cases ht
  · have ok := ((all_ok G Φ N e).e v cx.c hc).1
    refine ok O H σd σ d r.e e1 _ fun w H1 s1 r1 _ => ?_
    unfold retD at e2
    split at e2
    · rename_i ds
      obtain ⟨g, e2⟩ := gd_inv e2
      cases e2
      have hf : fresh e = true := by
        rcases Bool.or_eq_true_iff.mp g with g | g
        · exact g
        · exact absurd g ht
      refine q _ H1 (r.old.trans s1) ⟨r1.dr.dp, fun ds' z => ?_⟩
      obtain ⟨a, xs, w1, w2, w3, w4⟩ := (r1.nw hf).nw ds' z
      exact ⟨a, xs, w1, r.old.free w2, w3, DpAll.mono (msk_le H1 _) w4⟩
    · rename_i hn
      cases e2
      exact q _ H1 (r.old.trans s1) ⟨r1.dr.dp, fun ds' z => absurd z (hn ds')⟩
/-! ### loops -/
theorem loop_inv {k : Sg → R Fl} {f1 f : Fl} (h : loopF k f1 = .ok f) : (∃ τ, f1 = .nx τ ∧ k τ = .ok f) ∨ (∃ τ, f1 = .ct τ ∧ k τ = .ok f) ∨ (∃ τ, f1 = .bk τ ∧ f = .nx τ) ∨ ∃ d, f1 = .rt d ∧ f = .rt d := by
  unfold loopF at h
  split at h
  · exact .inl ⟨_, rfl, h⟩
  · exact .inr (.inl ⟨_, rfl, h⟩)
  · cases h; exact .inr (.inr (.inl ⟨_, rfl, rfl⟩))
  · cases h; exact .inr (.inr (.inr ⟨_, rfl, rfl⟩))
theorem post_trans {K : PySem.W.Frag} {O O1 : List Addr} {H H1 : Hp} {E : Ends} {f : Fl} (s : Same (msk H O) (msk H1 O1)) (p : Post K H0 O H E f) : Post K H0 O1 H1 E f := by
  cases f with
  | nx _ => exact fun O2 H2 ρ r2 s2 => p O2 H2 ρ r2 (s.trans s2)
  | bk _ => exact fun O2 H2 ρ r2 s2 => p O2 H2 ρ r2 (s.trans s2)
  | ct _ => exact fun O2 H2 ρ r2 s2 => p O2 H2 ρ r2 (s.trans s2)
  | rt _ => exact p
theorem okSt_loop (cx : CtxS G Φ X N sc) {tg : List Nat} {one : Bool} {it : C} {b : S} {t iter : Expr} {body : List Stmt} {p : Pos} (ht : chkT N sc tg one t = true) (hi : chkI G N it sc iter = true) (hk : tgOk it t = true) (hb : OkBl Φ n X H0 b body) : OkSt Φ n X H0 (.loop tg one it b) (.For t iter body [] p) := by
  intro O H σd σ f r hv E q
  rw [evS] at hv
  obtain ⟨g, hv⟩ := gd_inv hv
  obtain ⟨ds, e1, hv⟩ := bd_inv hv
  have tm : tmpI σd it = false := by simpa using g
  obtain ⟨wi, pi, qi⟩ := (all_ok G Φ N it).i iter cx.c hi t hk
  have pg := pg_target cx.c.calm cx.c.hN cx.c.nd (loc_def cx) ht
  refine SS.of (ps_for cx.pw cx.c.calm pi pg pss_s (fold_plain hi X.env)) ?_
  refine qi O H σd σ ds r.e e1 _ fun J H1 F s1 iJ f0 _ pers _ => ?_
  have pers := pers tm
  refine ⟨fun i m τ H' => m = ds.length - i ∧ i ≤ ds.length ∧ ∃ O' τd, Rep X.K H0 O' H' τd τ ∧ Same (msk H O) (msk H' O') ∧ F O' H' ∧ forGo (fun d σ => bd (bindT σ tg one d) (evS Φ n b)) (ds.drop i) τd = .ok f,
    ⟨ds.length, by simp, Nat.zero_le _, O, σd, r.same s1, msk_same s1, f0, by simpa using hv⟩, ?_⟩
  rintro i m τ H' ⟨rfl, hi', O', τd, r', sm, fi, eg⟩
  by_cases hlt : i < ds.length
  · refine .inr ⟨iJ.go i _ H' fi hlt, fun τ2 H2 => i + 1 ≤ ds.length ∧ ∃ O2 τd2, Rep X.K H0 O2 H2 τd2 τ2 ∧ Same (msk H O) (msk H2 O2) ∧ F O2 H2 ∧ forGo (fun d σ => bd (bindT σ tg one d) (evS Φ n b)) (ds.drop (i + 1)) τd2 = .ok f,
      fun τ2 H2 z => ⟨_, by omega, rfl, z⟩, fun x H2 y => ?_⟩
    obtain ⟨s2, dd, gd', hd⟩ := iJ.yld i _ H' x H2 fi r'.e.ol hlt y
    obtain ⟨hi2, rfl⟩ := List.getElem?_eq_some_iff.mp gd'
    rw [List.drop_eq_getElem_cons hi2, forGo] at eg
    obtain ⟨f1, g1, eg⟩ := bd_inv eg
    obtain ⟨τd1, g2, g1⟩ := bd_inv g1
    have s02 : Same (msk H O) (msk H2 O') := sm.trans (msk_same s2)
    refine gT_repW (pair_one hk ht) (r'.same s2) hd g2 fun τ1 rτ => hb O' H2 τd1 τ1 f1 rτ g1 _ ?_
    have pf : Post X.K H0 O' H2 E f := post_trans s02 q
    rcases loop_inv eg with ⟨τ3, rfl, eg⟩ | ⟨τ3, rfl, eg⟩ | ⟨τ3, rfl, rfl⟩ | ⟨d3, rfl, rfl⟩
    · exact fun O3 H3 ρ r3 s3 => ⟨hlt, O3, τ3, r3, s02.trans s3, pers _ _ _ _ fi ((msk_same s2).trans s3), eg⟩
    · exact fun O3 H3 ρ r3 s3 => ⟨hlt, O3, τ3, r3, s02.trans s3, pers _ _ _ _ fi ((msk_same s2).trans s3), eg⟩
    · exact pf
    · exact pf
  · have hid : i = ds.length := by omega
    rw [hid, List.drop_length, forGo] at eg
    cases eg
    exact .inl ⟨iJ.stop i _ H' fi (by omega), q O' H' τ r' sm⟩
theorem okSt_whl (cx : CtxS G Φ X N sc) {c : C} {b : S} {t : Expr} {body : List Stmt} {p : Pos} (hc : OkB Φ X c t) (hb : OkBl Φ n X H0 b body) : OkSt Φ n X H0 (.whl c b) (.While t body [] p) := by
  intro O H σd σ f r hv E q
  rw [evS] at hv
  refine SS.of (ps_while cx.pw pt_s pss_s) ?_
  refine ⟨fun m τ H' => ∃ O' τd, Rep X.K H0 O' H' τd τ ∧ Same (msk H O) (msk H' O') ∧ whGo (fun σ => bd (ev Φ c σ) asB) (evS Φ n b) m τd = .ok f, ⟨n, O, σd, r, Same.refl _, hv⟩, ?_⟩
  rintro m τ H' ⟨O', τd, r', sm, eg⟩
  cases m with
  | zero => cases eg
  | succ m =>
    rw [whGo] at eg
    obtain ⟨k, g1, eg⟩ := bd_inv eg
    obtain ⟨d, g2, g1⟩ := bd_inv g1
    have hd := asB_inv g1
    subst hd
    refine hc O' H' τd τ k r'.e g2 _ fun H2 s2 => ?_
    have s02 : Same (msk H O) (msk H2 O') := sm.trans (msk_same s2)
    cases k with
    | false =>
      rw [if_neg Bool.false_ne_true] at eg
      cases eg
      exact iteF (q O' H2 τ (r'.same s2) s02)
    | true =>
      rw [if_pos rfl] at eg
      obtain ⟨f1, g3, eg⟩ := bd_inv eg
      refine iteT ⟨fun τ2 H3 => ∃ O2 τd2, Rep X.K H0 O2 H3 τd2 τ2 ∧ Same (msk H O) (msk H3 O2) ∧ whGo (fun σ => bd (ev Φ c σ) asB) (evS Φ n b) m τd2 = .ok f, fun τ2 H3 z => ⟨m, Nat.lt_succ_self m, z⟩, ?_⟩
      refine hb O' H2 τd τ f1 (r'.same s2) g3 _ ?_
      have pf : Post X.K H0 O' H2 E f := post_trans s02 q
      rcases loop_inv eg with ⟨τ3, rfl, eg⟩ | ⟨τ3, rfl, eg⟩ | ⟨τ3, rfl, rfl⟩ | ⟨d3, rfl, rfl⟩
      · exact fun O3 H3 ρ r3 s3 => ⟨O3, τ3, r3, s02.trans s3, eg⟩
      · exact fun O3 H3 ρ r3 s3 => ⟨O3, τ3, r3, s02.trans s3, eg⟩
      · exact pf
      · exact pf
end
/-! ### all statements -/
theorem all_st (G : GE) (Φ : Nat → FnS) (n : Nat) (X : Cx) (N : List Str) (sc : Scope) (H0 : Hp) (cx : CtxS G Φ X N sc) : ∀ c : S, (∀ st, chkS G N sc c st = true → OkSt Φ n X H0 c st) ∧ (∀ sts, chkB G N sc c sts = true → OkBl Φ n X H0 c sts) := by
  intro c
  induction c with
  | skip =>
    refine ⟨fun st h => (by cases st <;> simp [chkS] at h), fun sts h => ?_⟩
    cases sts with
    | nil => exact okBl_skip
    | cons _ _ => simp [chkB] at h
  | seq a b ia ib =>
    refine ⟨fun st h => (by cases st <;> simp [chkS] at h), fun sts h => ?_⟩
    cases sts with
    | nil => simp [chkB] at h
    | cons st r =>
      simp only [chkB, Bool.and_eq_true] at h
      exact okBl_seq (ia.1 st h.1) (ib.2 r h.2)
  | asg tg one e =>
    refine ⟨fun st h => ?_, fun sts h => (by cases sts <;> simp [chkB] at h)⟩
    cases st with
    | Assign ts v p =>
      match ts, h with
      | [t], h =>
        simp only [chkS, Bool.and_eq_true] at h
        obtain ⟨⟨h1, h2⟩, h3⟩ := h
        cases one with
        | false =>
          have h3 : (!isTupE v && !isCompE v) = true := h3
          simp only [Bool.and_eq_true, Bool.not_eq_true'] at h3
          exact okSt_unpack cx h1 h2 h3.1 h3.2
        | true =>
          cases t with
          | Name x q =>
            match tg, h1 with
            | [i], h1 =>
              simp only [chkT, chkTg, Bool.and_eq_true, decide_eq_true_eq] at h1
              exact okSt_set cx h1.1.1 h1.1.2 h2
          | _ => simp [chkT] at h1
    | _ => simp [chkS] at h
  | app i e =>
    refine ⟨fun st h => ?_, fun sts h => (by cases sts <;> simp [chkB] at h)⟩
    cases st with
    | Expr v p =>
      match v, h with
      | .Call (.Attribute (.Name x q) m ap) [w] [] cp, h =>
        simp only [chkS, Bool.and_eq_true, decide_eq_true_eq] at h
        obtain ⟨⟨⟨⟨rfl, h1⟩, h2⟩, h3⟩, h4⟩ := h
        exact okSt_app cx h1 h2 h3 h4
    | _ => simp [chkS] at h
  | ext i e =>
    refine ⟨fun st h => ?_, fun sts h => (by cases sts <;> simp [chkB] at h)⟩
    cases st with
    | Expr v p =>
      match v, h with
      | .Call (.Attribute (.Name x q) m ap) [w] [] cp, h =>
        simp only [chkS, Bool.and_eq_true, decide_eq_true_eq] at h
        obtain ⟨⟨⟨⟨rfl, h1⟩, h2⟩, h3⟩, h4⟩ := h
        exact okSt_ext cx h1 h2 h3 h4
    | _ => simp [chkS] at h
  | six i k e =>
    refine ⟨fun st h => ?_, fun sts h => (by cases sts <;> simp [chkB] at h)⟩
    cases st with
    | Assign ts v p =>
      match ts, h with
      | [.Subscript (.Name x q) s q2], h =>
        simp only [chkS, Bool.and_eq_true, Bool.not_eq_true'] at h
        exact okSt_six cx h.1.1.1 h.1.1.2 h.1.2 h.2
    | _ => simp [chkS] at h
  | apop i j k =>
    refine ⟨fun st h => ?_, fun sts h => (by cases sts <;> simp [chkB] at h)⟩
    cases st with
    | Expr v p =>
      match v, h with
      | .Call (.Attribute (.Name x q) m ap) [.Call (.Attribute (.Name y q2) m2 ap2) [w] [] cp2] [] cp, h =>
        simp only [chkS, Bool.and_eq_true, decide_eq_true_eq] at h
        obtain ⟨⟨⟨⟨⟨⟨⟨⟨rfl, rfl⟩, h1⟩, h2⟩, h3⟩, h4⟩, h5⟩, h6⟩, h7⟩ := h
        exact okSt_apop cx h1 h2 h3 h4 h5 h6 h7
    | _ => simp [chkS] at h
  | ite c a b ia ib =>
    refine ⟨fun st h => ?_, fun sts h => (by cases sts <;> simp [chkB] at h)⟩
    cases st with
    | If t u w p =>
      simp only [chkS, Bool.and_eq_true] at h
      exact okSt_ite ((all_ok G Φ N c).e t cx.c h.1.1).2 (ia.2 u h.1.2) (ib.2 w h.2)
    | _ => simp [chkS] at h
  | loop tg one it b ib =>
    refine ⟨fun st h => ?_, fun sts h => (by cases sts <;> simp [chkB] at h)⟩
    cases st with
    | For t iter body els p =>
      match els, h with
      | [], h =>
        simp only [chkS, Bool.and_eq_true] at h
        exact okSt_loop cx h.1.1.1 h.1.1.2 h.2 (ib.2 body h.1.2)
    | _ => simp [chkS] at h
  | whl c b ib =>
    refine ⟨fun st h => ?_, fun sts h => (by cases sts <;> simp [chkB] at h)⟩
    cases st with
    | While t body els p =>
      match els, h with
      | [], h =>
        simp only [chkS, Bool.and_eq_true] at h
        exact okSt_whl cx ((all_ok G Φ N c).e t cx.c h.1).2 (ib.2 body h.2)
    | _ => simp [chkS] at h
  | ret e =>
    refine ⟨fun st h => ?_, fun sts h => (by cases sts <;> simp [chkB] at h)⟩
    cases st with
    | Return v p =>
      cases v with
      | none => simp [chkS] at h
      | some v => exact okSt_ret cx h
    | _ => simp [chkS] at h
  | brk =>
    refine ⟨fun st h => ?_, fun sts h => (by cases sts <;> simp [chkB] at h)⟩
    cases st with
    | Break p => exact okSt_brk
    | _ => simp [chkS] at h
  | cnt =>
    refine ⟨fun st h => ?_, fun sts h => (by cases sts <;> simp [chkB] at h)⟩
    cases st with
    | Continue p => exact okSt_cnt
    | _ => simp [chkS] at h
  | pass =>
    refine ⟨fun st h => ?_, fun sts h => (by cases sts <;> simp [chkB] at h)⟩
    cases st with
    | Pass p => exact okSt_pass
    | _ => simp [chkS] at h
  | frz i s ih =>
    refine ⟨fun st h => ?_, fun sts h => (by cases sts <;> simp [chkB] at h)⟩
    exact okSt_frz (ih.1 st (by simpa [chkS] using h))
  | par i j a b =>
    refine ⟨fun st h => ?_, fun sts h => (by cases sts <;> simp [chkB] at h)⟩
    cases st with
    | Assign ts v p =>
      match ts, v, h with
      | [.Tuple [.Name x px, .Name y py] k pt], .Tuple [v, w] k2 pt2, h =>
        simp only [chkS, Bool.and_eq_true, decide_eq_true_eq, Bool.not_eq_true'] at h
        obtain ⟨⟨⟨⟨⟨⟨⟨⟨⟨⟨⟨⟨h1, h2⟩, h3⟩, h4⟩, h5⟩, h6⟩, h7⟩, h8⟩, h9⟩, ha⟩, hb⟩, hc⟩, hd⟩ := h
        exact okSt_par cx h1 h2 h3 h4 h5 h6 h7 h8 h9 (by rw [ha]; rfl) (by rw [hb]; rfl) hc hd
    | _ => simp [chkS] at h
end Mt

set_option Elab.async false
set_option linter.all false
set_option maxRecDepth 100000
set_option maxHeartbeats 400000
/-! A def by its core. -/
namespace Mt
open PySem PySem.Spec PyProof.Rows L2
def startS (n : Nat) (ds : List D) : Sg := ds.map Sl.imm ++ List.replicate (n - ds.length) Sl.dead
/-- what a def of the core c is worth -/
def endR (f : R Fl) : R D := match f with
  | .ok (.rt d) => .ok d
  | .ok (.nx _) => .ok .none
  | .ok _ => stk
  | .error e => .error e
def runF (Φ : Nat → FnS) (n : Nat) (c : S) (k : Nat) (ds : List D) : R D := endR (evS Φ n c (startS k ds))
/-- a def that may be called at level k -/
structure FnIn (P : Program) (w : World) (K : PySem.W.Frag) (mg : Str → Option Value) (base : Heap) (k : Nat) (F : FnS) (x : Str) : Prop where
  ex : ∃ (fa : Addr) (fd : FuncData) (ps : List Str), mg x = some (.ref fa) ∧ PySem.W.keepIn K (.ref fa) = true ∧ FnOk P w K mg base CX0 k fa fd ps (spF K F) ∧ Binds K fd ps []
  fl : F.pure = true → ∀ ds r, F.m ds = .ok r → flatTop r = true
  ln : ∀ ds r, F.m ds = .ok r → ds.length = F.ar
theorem FnIn.mono {P : Program} {w : World} {K : PySem.W.Frag} {mg : Str → Option Value} {base : Heap} {j k : Nat} {F : FnS} {x : Str} (h : FnIn P w K mg base j F x) (l : j ≤ k) : FnIn P w K mg base k F x := by
  obtain ⟨fa, fd, ps, a, b, c, d⟩ := h.ex
  exact ⟨⟨fa, fd, ps, a, b, c.mono l, d⟩, h.fl, h.ln⟩
/-- the module's names -/
structure GOk (G : GE) (mg : Str → Option Value) : Prop where
  gb : ∀ x, G.gb.contains x = true → mg x = none
  gi : ∀ x i, G.gi.contains (x, i) = true → ∃ t, mg x = some (.int i t)
  gs : ∀ x i, G.gs.contains (x, i) = true → ∃ t, mg x = some (.str i t)
abbrev FnP (K : PySem.W.Frag) (x : Str) (st : Stmt) (f : Addr) (fd : FuncData) : Prop := FunD K x x (defArgs st) (defBody st) (defScope st) [] [] f fd
theorem msk_nil (H : Hp) : msk H [] = H := by funext a; exact msk_out (by simp)
theorem start_rep {K : PySem.W.Frag} {H : Hp} {vs : List V} {ds : List D} {N : List Str} (h : DpAll K H vs ds) : Rep K H [] H (startS N.length ds) (start N vs) := by
  have l := DpAll.length h
  refine ⟨⟨(fun a m => nomatch m), ?_, fun i x e => ?_⟩, fun i j es fs a e1 => ?_, (fun a m => nomatch m), Same.refl _⟩
  · unfold L2.start startS
    simp only [List.length_append, List.length_map, List.length_replicate, l]
  · unfold startS at e
    unfold L2.start
    by_cases hi : i < ds.length
    · rw [List.getElem?_append_left (by rw [List.length_map]; exact hi), List.getElem?_map, List.getElem?_eq_getElem hi] at e
      cases e
      obtain ⟨v, e1, e2⟩ := DpAll.get h (List.getElem?_eq_getElem hi)
      refine ⟨some v, ?_, ?_⟩
      · rw [List.getElem?_append_left (by rw [List.length_map]; omega), List.getElem?_map, e1]; rfl
      · show Dp K (msk H []) v _
        rw [msk_nil]; exact e2
    · rw [List.getElem?_append_right (by rw [List.length_map]; omega)] at e
      have hx : x = .dead := by
        have := List.mem_of_getElem? e
        exact List.eq_of_mem_replicate this
      subst hx
      have hlt : i < (vs.map some ++ List.replicate (N.length - vs.length) (none : Option V)).length := by
        have := (List.getElem?_eq_some_iff.mp e).1
        simp only [List.length_map, List.length_replicate] at this
        simp only [List.length_append, List.length_map, List.length_replicate]
        omega
      exact ⟨_, List.getElem?_eq_getElem hlt, trivial⟩
  · exfalso
    unfold startS at e1
    have m := List.mem_of_getElem? e1
    rcases List.mem_append.mp m with m | m
    · obtain ⟨_, _, z⟩ := List.mem_map.mp m; cases z
    · cases List.eq_of_mem_replicate m
theorem room_hu {k : Nat} {A : Around} (hr : Room k A) : A.units + 200 < cLine := by have := hr.un; omega
theorem fn_core {P : Program} {w : World} {K : PySem.W.Frag} {mg : Str → Option Value} {base : Heap} {x : Str} {st : Stmt} {f : Addr} {fd : FuncData} {N ps : List Str} {k n : Nat} {G : GE} {Φ : Nat → FnS} {c : S} {FS : FnS} (F : FnP K x st f fd)
    (S : FnScope N ps (defScope st)) (g : GOk G mg) (hf : ∀ i y, G.gf.contains (i, y) = true → FnIn P w K mg base k (Φ i) y) (hc : chkB G N (defScope st) c (defBody st) = true) (har : FS.ar = ps.length)
    (hm : ∀ ds r, FS.m ds = .ok r → runF Φ n c N.length ds = .ok r) : FnOk P w K mg base CX0 (k + 1) f fd ps (spF K FS) := by
  refine F.ok S (fun vs H Q E h => ?_) (fun cdv A outer s H vs Q E hr h => ?_)
  · obtain ⟨ds, r, e, _⟩ := h
    rw [e, har]
  · obtain ⟨ds, r, e, hd, hmr, q⟩ := h
    have cx : CtxS G Φ (cxOf CX0 P w K mg base N x (defScope st) f cdv A outer s H E).nox N (defScope st) := by
      refine ⟨⟨rfl, rfl, rfl, S.nd, room_hu hr, g.gb, g.gi, g.gs, fun i y hi => ?_⟩, fun _ => rfl, S.kind, PassesOwn.never⟩
      obtain ⟨fa, fd', ps', a, b, c', d⟩ := (hf i y hi).ex
      exact ⟨⟨fa, fd', ps', k, a, b, c', hr, d⟩, (hf i y hi).fl, (hf i y hi).ln⟩
    have ok := (all_st G Φ n _ N (defScope st) H cx c).2 _ hc
    refine ⟨_, PSs.nox pss_s, ?_⟩
    have hrun := hm ds r hmr
    unfold runF endR at hrun
    split at hrun
    · rename_i d ed
      cases hrun
      exact ok [] H _ _ _ (start_rep hd) ed _ fun v H' s' rt => q v H' s' rt
    · rename_i τ ed
      cases hrun
      refine ok [] H _ _ _ (start_rep hd) ed _ fun O' H' σ' r' _ => q .non H' r'.old ⟨.non, fun ds' z => nomatch z⟩
    · cases hrun
    · cases hrun
end Mt

set_option Elab.async false
set_option linter.all false
set_option maxRecDepth 100000
set_option maxHeartbeats 400000
/-! The join: defs as they stand behind the top. -/
namespace Mt
open PySem PySem.Spec PyProof.Rows L2
section
variable {P : Program} {w : World} {K : PySem.W.Frag} {mg : Str → Option Value} {base : Heap} {k : Nat} {Φ : Nat → FnS}
theorem gf_nil : ∀ (i : Nat) (y : Str), ([] : List (Nat × Str)).contains (i, y) = true → FnIn P w K mg base k (Φ i) y := fun _ _ h => by cases h
theorem gf_cons {a : Nat} {x : Str} {l : List (Nat × Str)} {j : Nat} (h : FnIn P w K mg base j (Φ a) x) (hj : j ≤ k) (t : ∀ (i : Nat) (y : Str), l.contains (i, y) = true → FnIn P w K mg base k (Φ i) y) :
    ∀ (i : Nat) (y : Str), ((a, x) :: l).contains (i, y) = true → FnIn P w K mg base k (Φ i) y := fun i y z => by
  rw [List.contains_cons, Bool.or_eq_true] at z
  rcases z with z | z
  · have e := eq_of_beq z
    cases e
    exact h.mono hj
  · exact t i y z
theorem FnIn.of {x : Str} {st : Stmt} {f : Addr} {fd : FuncData} {ps : List Str} {FS : FnS} (F : FnP K x st f fd) (hm : mg x = some (.ref f)) (hb : Binds K fd ps []) (ok : FnOk P w K mg base CX0 k f fd ps (spF K FS))
    (fl : FS.pure = true → ∀ ds r, FS.m ds = .ok r → flatTop r = true) (ln : ∀ ds r, FS.m ds = .ok r → ds.length = FS.ar) : FnIn P w K mg base k FS x := ⟨⟨f, fd, ps, hm, F.kp, ok, hb⟩, fl, ln⟩
end
theorem gb_nil {mg : Str → Option Value} : ∀ x, ([] : List Str).contains x = true → mg x = none := fun _ h => by cases h
theorem gb_cons {mg : Str → Option Value} {a : Str} {l : List Str} (h : mg a = none) (t : ∀ x, l.contains x = true → mg x = none) : ∀ x, (a :: l).contains x = true → mg x = none := fun x z => by
  rw [List.contains_cons, Bool.or_eq_true] at z
  rcases z with z | z
  · rw [eq_of_beq z]; exact h
  · exact t x z
theorem gi_nil {mg : Str → Option Value} : ∀ x i, ([] : List (Str × Int)).contains (x, i) = true → ∃ t, mg x = some (.int i t) := fun _ _ h => by cases h
theorem gi_cons {mg : Str → Option Value} {a : Str} {j : Int} {l : List (Str × Int)} (h : ∃ t, mg a = some (.int j t)) (t : ∀ x i, l.contains (x, i) = true → ∃ t, mg x = some (.int i t)) : ∀ x i, ((a, j) :: l).contains (x, i) = true → ∃ t, mg x = some (.int i t) := fun x i z => by
  rw [List.contains_cons, Bool.or_eq_true] at z
  rcases z with z | z
  · have e := eq_of_beq z
    cases e
    exact h
  · exact t x i z
theorem gs_nil {mg : Str → Option Value} : ∀ x i, ([] : List (Str × Str)).contains (x, i) = true → ∃ t, mg x = some (.str i t) := fun _ _ h => by cases h
theorem gs_cons {mg : Str → Option Value} {a j : Str} {l : List (Str × Str)} (h : ∃ t, mg a = some (.str j t)) (t : ∀ x i, l.contains (x, i) = true → ∃ t, mg x = some (.str i t)) : ∀ x i, ((a, j) :: l).contains (x, i) = true → ∃ t, mg x = some (.str i t) := fun x i z => by
  rw [List.contains_cons, Bool.or_eq_true] at z
  rcases z with z | z
  · have e := eq_of_beq z
    cases e
    exact h
  · exact t x i z
/-- the script as data -/
theorem dp_script {K : PySem.W.Frag} {H : Hp} {a : Addr} {ns : List Int} (h : SqL K H a (ns.map V.int)) : Dp K H (.ref a) (.list (ns.map .int)) := by
  refine .lst h ?_
  clear h
  induction ns with
  | nil => exact .nil
  | cons n r ih => exact .cons (.int n) ih
/-- a law that is worth True keeps its promise -/
theorem law_sp {K : PySem.W.Frag} {FS : FnS} (har : FS.ar = 1) {ns : List Int} (hm : FS.m [.list (ns.map .int)] = .ok (.bool true)) {H : Hp} {a : Addr} (hS : SqL K H a (ns.map V.int)) : spF K FS [.ref a] H (fun v _ => v = .bl true) fun _ _ _ => False :=
  ⟨_, _, har.symm, .cons (dp_script hS) .nil, hm, fun v H' _ rt => by cases rt.dp; rfl⟩
end Mt

set_option Elab.async false
set_option linter.all false
set_option maxRecDepth 100000
/-! The cores of the defs (printed by gen.py). -/
namespace Mt
open PySem
/-- is_wild: number 0 -/
def n_is_wild : List Str := ["card"]
def c_is_wild : S := (.seq (.ret (.cmp .Eq (.ix (.var 0) (.cI 0)) (.gI "WILD" 0))) .skip)
/-- card_points: number 1 -/
def n_card_points : List Str := ["card"]
def c_card_points : S := (.seq (.ite (.call 0 (.cons (.var 0) .nil)) (.seq (.ret (.gI "WILD_POINTS" 15)) .skip) .skip) (.seq (.ret (.bi .min2 (.cons (.ix (.var 0) (.cI 0)) (.cons (.gI "MOST_POINTS" 10) .nil)))) .skip))
/-- points: number 2 -/
def n_points : List Str := ["cards", "card"]
def c_points : S := (.seq (.ret (.bi .sum (.cons (.lc (.call 1 (.cons (.var 1) .nil)) [1] true (.cons (.var 0) .nil) .nil) .nil))) .skip)
/-- law_cell_at: number 3 -/
def n_law_cell_at : List Str := ["script", "k"]
def c_law_cell_at : S := (.seq (.ite (.cmp .Lt (.var 1) (.bi .len (.cons (.var 0) .nil))) (.seq (.ret (.ix (.var 0) (.var 1))) .skip) .skip) (.seq (.ret (.cI 0)) .skip))
/-- law_mixed: number 4 -/
def n_law_mixed : List Str := ["script", "k", "drawn"]
def c_law_mixed : S := (.seq (.asg [2] true (.bin .Mod (.bin .Mult (.bin .Add (.bin .Add (.call 3 (.cons (.var 0) (.cons (.var 1) .nil))) (.bin .Mult (.cI 7919) (.var 1))) (.cI 1)) (.cI 48271)) (.cI 2147483647))) (.seq (.ret (.bin .Mod (.bin .Add (.bin .Add (.bin .Mult (.var 2) (.var 2)) (.bin .Mult (.cI 7) (.var 2))) (.var 1)) (.cI 2147483629))) .skip))
/-- law_drawn: number 5 -/
def n_law_drawn : List Str := ["number", "k", "drawn"]
def c_law_drawn : S := (.seq (.asg [2] true (.bin .Mod (.bin .Mult (.bin .Add (.bin .Add (.var 0) (.bin .Mult (.cI 104729) (.var 1))) (.cI 17)) (.cI 69621)) (.cI 2147483647))) (.seq (.ret (.bin .Mod (.bin .Add (.bin .Add (.bin .Mult (.var 2) (.var 2)) (.bin .Mult (.cI 3) (.var 2))) (.var 1)) (.cI 2147483629))) .skip))
/-- law_deal: number 6 -/
def n_law_deal : List Str := ["number", "many", "found", "near", "k", "drawn", "card"]
def b1_law_deal : S := (.seq (.asg [5] true (.bin .FloorDiv (.call 5 (.cons (.var 0) (.cons (.var 4) .nil))) (.cI 4))) (.seq (.asg [6] true (.tup (.cons (.bin .Add (.cI 1) (.bin .Mod (.var 5) (.cI 13))) (.cons (.bin .Mod (.bin .FloorDiv (.var 5) (.cI 16)) (.cI 4)) .nil)))) (.seq (.ite (.cmp .Eq (.var 3) (.cI 1)) (.seq (.asg [6] true (.tup (.cons (.bin .Add (.cI 3) (.bin .Mod (.var 5) (.cI 4))) (.cons (.bin .Mod (.bin .FloorDiv (.var 5) (.cI 16)) (.cI 4)) .nil)))) .skip) .skip) (.seq (.ite (.cmp .Eq (.var 3) (.cI 2)) (.seq (.asg [6] true (.tup (.cons (.bin .Add (.cI 1) (.bin .Mod (.var 5) (.cI 13))) (.cons (.bin .Mod (.bin .FloorDiv (.var 5) (.cI 16)) (.cI 2)) .nil)))) .skip) .skip) (.seq (.ite (.cmp .Eq (.var 3) (.cI 3)) (.seq (.asg [6] true (.tup (.cons (.ix (.tup (.cons (.cI 11) (.cons (.cI 12) (.cons (.cI 13) (.cons (.cI 1) (.cons (.cI 2) .nil)))))) (.bin .Mod (.var 5) (.cI 5))) (.cons (.bin .Mod (.bin .FloorDiv (.var 5) (.cI 16)) (.cI 3)) .nil)))) .skip) .skip) (.seq (.ite (.cmp .Eq (.bin .Mod (.bin .FloorDiv (.var 5) (.cI 64)) (.ix (.tup (.cons (.cI 9) (.cons (.cI 14) (.cons (.cI 30) .nil)))) (.bin .Mod (.bin .FloorDiv (.var 0) (.cI 4)) (.cI 3)))) (.cI 0)) (.seq (.asg [6] true (.tup (.cons (.cI 0) (.cons (.bin .Mod (.bin .FloorDiv (.var 5) (.cI 4096)) (.cI 2)) .nil)))) .skip) .skip) (.seq (.asg [4] true (.bin .Add (.var 4) (.cI 1))) (.seq (.ite (.cmp .Gt (.var 4) (.cI 60)) (.seq (.asg [6] true (.tup (.cons (.bin .Add (.cI 1) (.bin .Mod (.var 4) (.cI 13))) (.cons (.bin .Mod (.bin .FloorDiv (.var 4) (.cI 13)) (.cI 4)) .nil)))) .skip) .skip) (.seq (.ite (.cmp .NotIn (.var 6) (.var 2)) (.seq (.app 2 (.var 6)) .skip) .skip) .skip)))))))))
def c_law_deal : S := (.seq (.asg [2] true (.lst .nil)) (.seq (.asg [3] true (.bin .Mod (.var 0) (.cI 4))) (.seq (.asg [4] true (.cI 0)) (.seq (.whl (.cmp .Lt (.bi .len (.cons (.var 2) .nil)) (.var 1)) b1_law_deal) (.seq (.ret (.bi .tuple (.cons (.var 2) .nil))) .skip)))))
/-- law_points: number 7 -/
def n_law_points : List Str := ["cards", "rank", "suit"]
def c_law_points : S := (.seq (.ret (.bi .sum (.cons (.lc (.ix (.lst (.cons (.bi .min2 (.cons (.var 1) (.cons (.cI 10) .nil))) (.cons (.cI 15) .nil))) (.bi .int1 (.cons (.cmp .Eq (.var 1) (.cI 0)) .nil))) [1, 2] false (.cons (.var 0) .nil) .nil) .nil))) .skip)
/-- law_k05: number 8 -/
def n_law_k05 : List Str := ["script", "number", "cards", "at", "found", "k", "card"]
def b1_law_k05 : S := (.seq (.ite (.or (.cons (.cmp .NotEq (.call 2 (.cons (.tup (.cons (.tup (.cons (.var 5) (.cons (.bin .Mod (.var 1) (.cI 4)) .nil))) .nil)) .nil)) (.bi .min2 (.cons (.var 5) (.cons (.cI 10) .nil)))) (.cons (.cmp .NotEq (.call 2 (.cons (.tup (.cons (.tup (.cons (.cI 0) (.cons (.bin .Mod (.var 1) (.cI 2)) .nil))) .nil)) .nil)) (.cI 15)) .nil))) (.seq (.ret (.cB false)) .skip) .skip) .skip)
def c_law_k05 : S := (.seq (.asg [1] true (.call 4 (.cons (.var 0) (.cons (.cI 0) .nil)))) (.seq (.asg [2] true (.call 6 (.cons (.call 4 (.cons (.var 0) (.cons (.cI 1) .nil))) (.cons (.bin .Mod (.var 1) (.cI 15)) .nil)))) (.seq (.asg [3] true (.bin .Mod (.bin .FloorDiv (.var 1) (.cI 16)) (.cI 16))) (.seq (.asg [4] true (.call 2 (.cons (.var 2) .nil))) (.seq (.ite (.or (.cons (.isi .bool (.var 4)) (.cons (.cmp .NotEq (.var 4) (.call 7 (.cons (.var 2) .nil))) (.cons (.cmp .NotEq (.call 2 (.cons (.tup .nil) .nil)) (.cI 0)) .nil)))) (.seq (.ret (.cB false)) .skip) .skip) (.seq (.ite (.or (.cons (.cmp .NotEq (.var 4) (.bi .sum (.cons (.lc (.call 2 (.cons (.tup (.cons (.var 6) .nil)) .nil)) [6] true (.cons (.var 2) .nil) .nil) .nil))) (.cons (.cmp .NotEq (.call 2 (.cons (.rv (.var 2)) .nil)) (.var 4)) .nil))) (.seq (.ret (.cB false)) .skip) .skip) (.seq (.loop [5] true (.rng2 (.cI 1) (.cI 14)) b1_law_k05) (.seq (.ret (.cmp .Eq (.bin .Add (.call 2 (.cons (.sl (.var 2) .nil (.cons (.var 3) .nil)) .nil)) (.call 2 (.cons (.sl (.var 2) (.cons (.var 3) .nil) .nil) .nil))) (.var 4))) .skip))))))))
/-- choices: number 9 -/
def n_choices : List Str := ["cards", "found", "card", "some"]
def b1_choices : S := (.seq (.asg [1] true (.bin .Add (.var 1) (.lc (.bin .Add (.var 3) (.tup (.cons (.var 2) .nil))) [3] true (.cons (.var 1) .nil) .nil))) .skip)
def c_choices : S := (.seq (.asg [1] true (.lst (.cons (.tup .nil) .nil))) (.seq (.loop [2] true (.cons (.bi .sorted (.cons (.var 0) .nil)) .nil) b1_choices) (.seq (.ret (.var 1)) .skip)))
/-- sets_of: number 10 -/
def n_sets_of : List Str := ["rank", "cards", "wilds", "found", "some", "card", "wild"]
def b1_sets_of : S := (.seq (.ite (.cmp .GtE (.bi .len (.cons (.var 4) .nil)) (.gI "LEAST_MELD" 3)) (.seq (.app 3 (.tup (.cons (.cS "set") (.cons (.var 0) (.cons (.var 4) .nil))))) .skip) .skip) (.seq (.ite (.cmp .In (.bi .len (.cons (.var 4) .nil)) (.tup (.cons (.bin .Sub (.gI "LEAST_MELD" 3) (.cI 1)) (.cons (.gI "LEAST_MELD" 3) .nil)))) (.seq (.ext 3 (.lc (.tup (.cons (.cS "set") (.cons (.var 0) (.cons (.bin .Add (.tup (.cons (.var 6) .nil)) (.var 4)) .nil)))) [6] true (.cons (.var 2) .nil) .nil)) .skip) .skip) .skip))
def c_sets_of : S := (.seq (.asg [3] true (.lst .nil)) (.seq (.loop [4] true (.cons (.call 9 (.cons (.lc (.var 5) [5] true (.cons (.var 1) .nil) (.cons (.cmp .Eq (.ix (.var 5) (.cI 0)) (.var 0)) .nil)) .nil)) .nil) b1_sets_of) (.seq (.ret (.var 3)) .skip)))
/-- fillings: number 11 -/
def n_fillings : List Str := ["wished", "gaps", "wilds", "found", "places", "at", "wild"]
def b1_fillings : S := (.seq (.ext 3 (.lc (.bi .tuple (.cons (.bin .Add (.bin .Add (.sl (.var 0) .nil (.cons (.var 5) .nil)) (.lst (.cons (.var 6) .nil))) (.sl (.var 0) (.cons (.bin .Add (.var 5) (.cI 1)) .nil) .nil)) .nil)) [6] true (.cons (.var 2) .nil) .nil)) .skip)
def c_fillings : S := (.seq (.asg [3] true (.lst .nil)) (.seq (.asg [4] true (.var 1)) (.seq (.ite (.cmp .Eq (.bi .len (.cons (.var 1) .nil)) (.cI 0)) (.seq (.app 3 (.bi .tuple (.cons (.var 0) .nil))) (.seq (.asg [4] true (.x1 .lrg (.bi .len (.cons (.var 0) .nil)))) .skip)) .skip) (.seq (.frz 4 (.loop [5] true (.cons (.var 4) .nil) b1_fillings)) (.seq (.ret (.var 3)) .skip)))))
/-- runs_from: number 12 -/
def n_runs_from : List Str := ["suit", "first", "cards", "wilds", "found", "wished", "gaps", "rank", "some"]
def b1_runs_from : S := (.seq (.ite (.cmp .NotIn (.tup (.cons (.var 7) (.cons (.var 0) .nil))) (.var 2)) (.seq (.app 6 (.bi .len (.cons (.var 5) .nil))) .skip) .skip) (.seq (.app 5 (.tup (.cons (.var 7) (.cons (.var 0) .nil)))) (.seq (.ite (.cmp .Gt (.bi .len (.cons (.var 6) .nil)) (.bi .min2 (.cons (.cI 1) (.cons (.bi .len (.cons (.var 3) .nil)) .nil)))) (.seq (.ret (.var 4)) .skip) .skip) (.seq (.ite (.cmp .GtE (.bi .len (.cons (.var 5) .nil)) (.gI "LEAST_MELD" 3)) (.seq (.ext 4 (.lc (.tup (.cons (.cS "run") (.cons (.var 0) (.cons (.var 1) (.cons (.var 8) .nil))))) [8] true (.cons (.call 11 (.cons (.var 5) (.cons (.var 6) (.cons (.var 3) .nil)))) .nil) .nil)) .skip) .skip) .skip))))
def c_runs_from : S := (.seq (.asg [4] true (.lst .nil)) (.seq (.asg [5] true (.lst .nil)) (.seq (.asg [6] true (.lst .nil)) (.seq (.loop [7] true (.rng2 (.var 1) (.bin .Add (.gI "MOST_RANK" 13) (.cI 1))) b1_runs_from) (.seq (.ret (.var 4)) .skip)))))
/-- runs_of: number 13 -/
def n_runs_of : List Str := ["suit", "cards", "wilds", "found", "first"]
def b1_runs_of : S := (.seq (.ext 3 (.call 12 (.cons (.var 0) (.cons (.var 4) (.cons (.var 1) (.cons (.var 2) .nil)))))) .skip)
def c_runs_of : S := (.seq (.asg [3] true (.lst .nil)) (.seq (.loop [4] true (.rng2 (.cI 1) (.bin .Sub (.bin .Add (.gI "MOST_RANK" 13) (.cI 2)) (.gI "LEAST_MELD" 3))) b1_runs_of) (.seq (.ret (.var 3)) .skip)))
/-- melds_of: number 14 -/
def n_melds_of : List Str := ["cards", "wilds", "plain", "found", "rank", "suit", "card"]
def b1_melds_of : S := (.seq (.ext 3 (.call 10 (.cons (.var 4) (.cons (.var 2) (.cons (.var 1) .nil))))) .skip)
def b2_melds_of : S := (.seq (.ext 3 (.call 13 (.cons (.var 5) (.cons (.var 2) (.cons (.var 1) .nil))))) .skip)
def c_melds_of : S := (.seq (.asg [1] true (.bi .sorted (.cons (.lc (.var 6) [6] true (.cons (.var 0) .nil) (.cons (.call 0 (.cons (.var 6) .nil)) .nil)) .nil))) (.seq (.asg [2] true (.lc (.var 6) [6] true (.cons (.var 0) .nil) (.cons (.not (.call 0 (.cons (.var 6) .nil))) .nil))) (.seq (.asg [3] true (.lst .nil)) (.seq (.loop [4] true (.rng2 (.cI 1) (.bin .Add (.gI "MOST_RANK" 13) (.cI 1))) b1_melds_of) (.seq (.loop [5] true (.rng1 (.bin .Add (.gI "MOST_SUIT" 3) (.cI 1))) b2_melds_of) (.seq (.ret (.bi .tuple (.cons (.bi .sorted (.cons (.var 3) .nil)) .nil))) .skip))))))
/-- holding: number 16 -/
def n_holding : List Str := ["cards", "card", "meld"]
def c_holding : S := (.seq (.ret (.bi .tuple (.cons (.lc (.var 2) [2] true (.cons (.call 14 (.cons (.var 0) .nil)) .nil) (.cons (.cmp .In (.var 1) (.ix (.var 2) (.neg (.cI 1)))) .nil)) .nil))) .skip)
/-- law_k13: number 17 -/
def n_law_k13 : List Str := ["script", "number", "cards", "every", "many", "card", "found", "meld"]
def b1_law_k13 : S := (.seq (.asg [6] true (.call 16 (.cons (.var 2) (.cons (.var 5) .nil)))) (.seq (.ite (.cmp .NotEq (.var 6) (.bi .tuple (.cons (.lc (.var 7) [7] true (.cons (.var 3) .nil) (.cons (.cmp .In (.var 5) (.ix (.var 7) (.neg (.cI 1)))) .nil)) .nil))) (.seq (.ret (.cB false)) .skip) .skip) (.seq (.ite (.cmp .NotEq (.call 16 (.cons (.rv (.var 2)) (.cons (.var 5) .nil))) (.var 6)) (.seq (.ret (.cB false)) .skip) .skip) (.seq (.asg [4] true (.bin .Add (.var 4) (.bi .len (.cons (.var 6) .nil)))) .skip))))
def c_law_k13 : S := (.seq (.asg [1] true (.call 4 (.cons (.var 0) (.cons (.cI 0) .nil)))) (.seq (.asg [2] true (.call 6 (.cons (.call 4 (.cons (.var 0) (.cons (.cI 1) .nil))) (.cons (.bin .Mod (.var 1) (.cI 12)) .nil)))) (.seq (.asg [3] true (.call 14 (.cons (.var 2) .nil))) (.seq (.asg [4] true (.cI 0)) (.seq (.loop [5] true (.cons (.var 2) .nil) b1_law_k13) (.seq (.ret (.cmp .Eq (.var 4) (.bi .sum (.cons (.lc (.bi .len (.cons (.ix (.var 7) (.neg (.cI 1))) .nil)) [7] true (.cons (.var 3) .nil) .nil) .nil)))) .skip))))))
/-- law_within: number 40 -/
def n_law_within : List Str := ["meld", "cards", "k"]
def c_law_within : S := (.seq (.asg [1] true (.ix (.var 0) (.neg (.cI 1)))) (.seq (.ite (.cmp .Eq (.bi .len (.cons (.var 1) .nil)) (.cI 3)) (.seq (.ret (.lst .nil)) .skip) .skip) (.seq (.ite (.cmp .Eq (.ix (.var 0) (.cI 0)) (.cS "set")) (.seq (.ret (.lc (.tup (.cons (.cS "set") (.cons (.ix (.var 0) (.cI 1)) (.cons (.bin .Add (.sl (.var 1) .nil (.cons (.var 2) .nil)) (.sl (.var 1) (.cons (.bin .Add (.var 2) (.cI 1)) .nil) .nil)) .nil)))) [2] true (.rng1 (.cI 4)) .nil)) .skip) .skip) (.seq (.ret (.lst (.cons (.tup (.cons (.cS "run") (.cons (.ix (.var 0) (.cI 1)) (.cons (.bin .Add (.ix (.var 0) (.cI 2)) (.cI 1)) (.cons (.sl (.var 1) (.cons (.cI 1) .nil) .nil) .nil))))) (.cons (.tup (.cons (.cS "run") (.cons (.ix (.var 0) (.cI 1)) (.cons (.ix (.var 0) (.cI 2)) (.cons (.sl (.var 1) .nil (.cons (.neg (.cI 1)) .nil)) .nil))))) .nil)))) .skip))))
/-- law_k17: number 41 -/
def n_law_k17 : List Str := ["script", "number", "cards", "every", "meld", "runs", "one", "other", "end", "card"]
def b1_law_k17 : S := (.seq (.ite (.cmp .NotEq (.lc (.var 6) [6] true (.cons (.call 40 (.cons (.var 4) .nil)) .nil) (.cons (.cmp .NotIn (.var 6) (.var 3)) .nil)) (.lst .nil)) (.seq (.ret (.cB false)) .skip) .skip) .skip)
def b2_law_k17 : S := (.seq (.asg [8] true (.bin .Add (.ix (.var 6) (.cI 2)) (.bi .len (.cons (.ix (.var 6) (.cI 3)) .nil)))) (.seq (.ite (.and (.cons (.cmp .Eq (.ix (.var 6) (.cI 1)) (.ix (.var 7) (.cI 1))) (.cons (.ch3 .LtE .LtE .Lt (.ix (.var 6) (.cI 2)) (.ix (.var 7) (.cI 2)) (.var 8) (.bin .Add (.ix (.var 7) (.cI 2)) (.bi .len (.cons (.ix (.var 7) (.cI 3)) .nil)))) .nil))) (.seq (.ite (.cmp .NotIn (.tup (.cons (.cS "run") (.cons (.ix (.var 6) (.cI 1)) (.cons (.ix (.var 6) (.cI 2)) (.cons (.bin .Add (.ix (.var 6) (.cI 3)) (.sl (.ix (.var 7) (.cI 3)) (.cons (.bin .Sub (.var 8) (.ix (.var 7) (.cI 2))) .nil) .nil)) .nil))))) (.var 3)) (.seq (.ret (.cB false)) .skip) .skip) .skip) .skip) .skip))
def b3_law_k17 : S := (.seq (.frz 5 (.loop [7] true (.cons (.var 5) .nil) b2_law_k17)) .skip)
def c_law_k17 : S := (.seq (.asg [1] true (.call 4 (.cons (.var 0) (.cons (.cI 0) .nil)))) (.seq (.asg [2] true (.call 6 (.cons (.call 4 (.cons (.var 0) (.cons (.cI 1) .nil))) (.cons (.bin .Mod (.var 1) (.cI 12)) .nil)))) (.seq (.asg [3] true (.call 14 (.cons (.var 2) .nil))) (.seq (.loop [4] true (.cons (.var 3) .nil) b1_law_k17) (.seq (.asg [5] true (.lc (.var 4) [4] true (.cons (.var 3) .nil) (.cons (.and (.cons (.cmp .Eq (.ix (.var 4) (.cI 0)) (.cS "run")) (.cons (.cmp .Eq (.lc (.var 9) [9] true (.cons (.ix (.var 4) (.neg (.cI 1))) .nil) (.cons (.cmp .Eq (.ix (.var 9) (.cI 0)) (.cI 0)) .nil)) (.lst .nil)) .nil))) .nil))) (.seq (.frz 5 (.loop [6] true (.cons (.var 5) .nil) b3_law_k17)) (.seq (.ret (.cB true)) .skip)))))))
/-- is_whole: number 19 -/
def n_is_whole : List Str := ["thing", "low", "high"]
def c_is_whole : S := (.seq (.ret (.and (.cons (.isi .int (.var 0)) (.cons (.not (.isi .bool (.var 0))) (.cons (.ch .LtE .LtE (.var 1) (.var 0) (.var 2)) .nil))))) .skip)
/-- is_card: number 20 -/
def n_is_card : List Str := ["thing"]
def c_is_card : S := (.seq (.ite (.or (.cons (.not (.isi .tuple (.var 0))) (.cons (.cmp .NotEq (.bi .len (.cons (.var 0) .nil)) (.cI 2)) (.cons (.not (.call 19 (.cons (.ix (.var 0) (.cI 0)) (.cons (.gI "WILD" 0) (.cons (.gI "MOST_RANK" 13) .nil))))) .nil)))) (.seq (.ret (.cB false)) .skip) .skip) (.seq (.ite (.call 0 (.cons (.var 0) .nil)) (.seq (.ret (.call 19 (.cons (.ix (.var 0) (.cI 1)) (.cons (.cI 0) (.cons (.cI 1) .nil))))) .skip) .skip) (.seq (.ret (.call 19 (.cons (.ix (.var 0) (.cI 1)) (.cons (.cI 0) (.cons (.gI "MOST_SUIT" 3) .nil))))) .skip)))
/-- are_cards: number 21 -/
def n_are_cards : List Str := ["thing", "card"]
def c_are_cards : S := (.seq (.ite (.or (.cons (.not (.isi .tuple (.var 0))) (.cons (.not (.bi .all (.cons (.lc (.call 20 (.cons (.var 1) .nil)) [1] true (.cons (.var 0) .nil) .nil) .nil))) .nil))) (.seq (.ret (.cB false)) .skip) .skip) (.seq (.ret (.cmp .LtE (.bi .len (.cons (.lc (.var 1) [1] true (.cons (.var 0) .nil) (.cons (.call 0 (.cons (.var 1) .nil)) .nil)) .nil)) (.cI 1))) .skip))
/-- is_set: number 22 -/
def n_is_set : List Str := ["rank", "cards", "card"]
def c_is_set : S := (.seq (.ite (.or (.cons (.not (.ch .LtE .LtE (.gI "LEAST_MELD" 3) (.bi .len (.cons (.var 1) .nil)) (.gI "MOST_SET" 4))) (.cons (.cmp .NotEq (.bi .list (.cons (.var 1) .nil)) (.x1 .sset (.var 1))) .nil))) (.seq (.ret (.cB false)) .skip) .skip) (.seq (.ret (.bi .all (.cons (.lc (.or (.cons (.call 0 (.cons (.var 2) .nil)) (.cons (.cmp .Eq (.ix (.var 2) (.cI 0)) (.var 0)) .nil))) [2] true (.cons (.var 1) .nil) .nil) .nil))) .skip))
/-- is_run: number 23 -/
def n_is_run : List Str := ["suit", "first", "cards", "at", "card"]
def c_is_run : S := (.seq (.ite (.or (.cons (.cmp .Lt (.bi .len (.cons (.var 2) .nil)) (.gI "LEAST_MELD" 3)) (.cons (.cmp .Gt (.bin .Sub (.bin .Add (.var 1) (.bi .len (.cons (.var 2) .nil))) (.cI 1)) (.gI "MOST_RANK" 13)) .nil))) (.seq (.ret (.cB false)) .skip) .skip) (.seq (.ret (.bi .all (.cons (.lc (.or (.cons (.call 0 (.cons (.var 4) .nil)) (.cons (.cmp .Eq (.var 4) (.tup (.cons (.bin .Add (.var 1) (.var 3)) (.cons (.var 0) .nil)))) .nil))) [3, 4] false (.enm (.var 2)) .nil) .nil))) .skip))
/-- is_meld: number 24 -/
def n_is_meld : List Str := ["thing"]
def c_is_meld : S := (.seq (.ite (.or (.cons (.not (.isi .tuple (.var 0))) (.cons (.cmp .NotIn (.bi .len (.cons (.var 0) .nil)) (.tup (.cons (.cI 3) (.cons (.cI 4) .nil)))) (.cons (.not (.isi .str (.ix (.var 0) (.cI 0)))) .nil)))) (.seq (.ret (.cB false)) .skip) .skip) (.seq (.ite (.not (.call 21 (.cons (.ix (.var 0) (.neg (.cI 1))) .nil))) (.seq (.ret (.cB false)) .skip) .skip) (.seq (.ite (.cmp .Eq (.ix (.var 0) (.cI 0)) (.cS "set")) (.seq (.ret (.and (.cons (.cmp .Eq (.bi .len (.cons (.var 0) .nil)) (.cI 3)) (.cons (.call 19 (.cons (.ix (.var 0) (.cI 1)) (.cons (.cI 1) (.cons (.gI "MOST_RANK" 13) .nil)))) (.cons (.call 22 (.cons (.ix (.var 0) (.cI 1)) (.cons (.ix (.var 0) (.cI 2)) .nil))) .nil))))) .skip) .skip) (.seq (.ite (.or (.cons (.cmp .NotEq (.ix (.var 0) (.cI 0)) (.cS "run")) (.cons (.cmp .NotEq (.bi .len (.cons (.var 0) .nil)) (.cI 4)) .nil))) (.seq (.ret (.cB false)) .skip) .skip) (.seq (.ite (.or (.cons (.not (.call 19 (.cons (.ix (.var 0) (.cI 1)) (.cons (.cI 0) (.cons (.gI "MOST_SUIT" 3) .nil))))) (.cons (.not (.call 19 (.cons (.ix (.var 0) (.cI 2)) (.cons (.cI 1) (.cons (.gI "MOST_RANK" 13) .nil))))) .nil))) (.seq (.ret (.cB false)) .skip) .skip) (.seq (.ret (.call 23 (.cons (.ix (.var 0) (.cI 1)) (.cons (.ix (.var 0) (.cI 2)) (.cons (.ix (.var 0) (.cI 3)) .nil))))) .skip))))))
/-- with_more: number 25 -/
def n_with_more : List Str := ["meld", "card", "cards", "some", "new"]
def c_with_more : S := (.seq (.asg [2] true (.ix (.var 0) (.neg (.cI 1)))) (.seq (.ite (.cmp .Eq (.ix (.var 0) (.cI 0)) (.cS "set")) (.seq (.asg [3] true (.lst (.cons (.tup (.cons (.cS "set") (.cons (.ix (.var 0) (.cI 1)) (.cons (.bi .tuple (.cons (.bi .sorted (.cons (.bin .Add (.var 2) (.tup (.cons (.var 1) .nil))) .nil)) .nil)) .nil)))) .nil))) .skip) (.seq (.asg [3] true (.lst (.cons (.tup (.cons (.cS "run") (.cons (.ix (.var 0) (.cI 1)) (.cons (.bin .Sub (.ix (.var 0) (.cI 2)) (.cI 1)) (.cons (.bin .Add (.tup (.cons (.var 1) .nil)) (.var 2)) .nil))))) (.cons (.tup (.cons (.cS "run") (.cons (.ix (.var 0) (.cI 1)) (.cons (.ix (.var 0) (.cI 2)) (.cons (.bin .Add (.var 2) (.tup (.cons (.var 1) .nil))) .nil))))) .nil)))) .skip)) (.seq (.ret (.bi .tuple (.cons (.bi .sorted (.cons (.lc (.var 4) [4] true (.cons (.var 3) .nil) (.cons (.call 24 (.cons (.var 4) .nil)) .nil)) .nil)) .nil))) .skip)))
/-- law_k33: number 26 -/
def n_law_k33 : List Str := ["script", "number", "first", "suit", "cards", "run", "k", "begin", "end", "ends", "rank", "found"]
def b1_law_k33 : S := (.seq (.asg [11] true (.call 25 (.cons (.var 5) (.cons (.tup (.cons (.var 10) (.cons (.bin .Mod (.bin .Add (.var 3) (.cI 1)) (.cI 4)) .nil))) .nil)))) (.seq (.ite (.cmp .NotEq (.var 11) (.tup .nil)) (.seq (.ret (.cB false)) .skip) .skip) (.seq (.ite (.cmp .In (.tup (.cons (.var 10) (.cons (.var 3) .nil))) (.ix (.var 5) (.cI 3))) (.seq .cnt .skip) .skip) (.seq (.asg [11] true (.call 25 (.cons (.var 5) (.cons (.tup (.cons (.var 10) (.cons (.var 3) .nil))) .nil)))) (.seq (.ite (.cmp .NotEq (.bi .len (.cons (.var 11) .nil)) (.bin .Add (.bi .int1 (.cons (.cmp .Eq (.var 10) (.bin .Sub (.var 7) (.cI 1))) .nil)) (.bi .int1 (.cons (.cmp .Eq (.var 10) (.var 8)) .nil)))) (.seq (.ret (.cB false)) .skip) .skip) (.seq (.asg [9] true (.bin .Add (.var 9) (.bi .list (.cons (.var 11) .nil)))) .skip))))))
def b2_law_k33 : S := (.seq (.par 7 8 (.ix (.var 5) (.cI 2)) (.bin .Add (.ix (.var 5) (.cI 2)) (.bi .len (.cons (.ix (.var 5) (.cI 3)) .nil)))) (.seq (.asg [9] true (.lst .nil)) (.seq (.loop [10] true (.rng2 (.cI 1) (.cI 14)) b1_law_k33) (.seq (.ite (.cmp .Eq (.var 9) (.lst .nil)) (.seq (.ret (.and (.cons (.cmp .Eq (.tup (.cons (.var 7) (.cons (.var 8) .nil))) (.tup (.cons (.cI 1) (.cons (.cI 14) .nil)))) (.cons (.cmp .Eq (.bi .len (.cons (.ix (.var 5) (.cI 3)) .nil)) (.cI 13)) .nil)))) .skip) .skip) (.seq (.asg [5] true (.ix (.var 9) (.bin .Mod (.bin .FloorDiv (.call 5 (.cons (.var 1) (.cons (.var 6) .nil))) (.cI 4)) (.bi .len (.cons (.var 9) .nil))))) .skip)))))
def c_law_k33 : S := (.seq (.asg [1] true (.call 4 (.cons (.var 0) (.cons (.cI 0) .nil)))) (.seq (.asg [2] true (.bin .Add (.cI 1) (.bin .Mod (.var 1) (.cI 11)))) (.seq (.asg [3] true (.bin .Mod (.bin .FloorDiv (.var 1) (.cI 16)) (.cI 4))) (.seq (.asg [4] true (.lc (.tup (.cons (.bin .Add (.var 2) (.var 6)) (.cons (.var 3) .nil))) [6] true (.rng1 (.cI 3)) .nil)) (.seq (.ite (.cmp .Eq (.bin .Mod (.bin .FloorDiv (.var 1) (.cI 64)) (.cI 2)) (.cI 1)) (.seq (.six 4 (.bin .Mod (.bin .FloorDiv (.var 1) (.cI 128)) (.cI 3)) (.tup (.cons (.cI 0) (.cons (.bin .Mod (.bin .FloorDiv (.var 1) (.cI 512)) (.cI 2)) .nil)))) .skip) .skip) (.seq (.asg [5] true (.tup (.cons (.cS "run") (.cons (.var 3) (.cons (.var 2) (.cons (.bi .tuple (.cons (.var 4) .nil)) .nil)))))) (.seq (.loop [6] true (.rng1 (.cI 14)) b2_law_k33) (.seq (.ret (.cB false)) .skip))))))))
/-- law_from: number 31 -/
def n_law_from : List Str := ["thing", "low", "high"]
def c_law_from : S := (.seq (.ret (.and (.cons (.isi .int (.var 0)) (.cons (.not (.isi .bool (.var 0))) (.cons (.ch .LtE .LtE (.var 1) (.var 0) (.var 2)) .nil))))) .skip)
/-- law_is_card: number 32 -/
def n_law_is_card : List Str := ["thing"]
def c_law_is_card : S := (.seq (.ite (.or (.cons (.not (.isi .tuple (.var 0))) (.cons (.cmp .NotEq (.bi .len (.cons (.var 0) .nil)) (.cI 2)) (.cons (.not (.call 31 (.cons (.ix (.var 0) (.cI 0)) (.cons (.cI 0) (.cons (.cI 13) .nil))))) .nil)))) (.seq (.ret (.cB false)) .skip) .skip) (.seq (.ret (.call 31 (.cons (.ix (.var 0) (.cI 1)) (.cons (.cI 0) (.cons (.ix (.lst (.cons (.cI 3) (.cons (.cI 1) .nil))) (.bi .int1 (.cons (.cmp .Eq (.ix (.var 0) (.cI 0)) (.cI 0)) .nil))) .nil))))) .skip))
/-- law_is_meld: number 33 -/
def n_law_is_meld : List Str := ["thing", "cards", "wished", "at", "card"]
def c_law_is_meld : S := (.seq (.ite (.or (.cons (.not (.isi .tuple (.var 0))) (.cons (.cmp .Lt (.bi .len (.cons (.var 0) .nil)) (.cI 3)) (.cons (.not (.isi .str (.ix (.var 0) (.cI 0)))) .nil)))) (.seq (.ret (.cB false)) .skip) .skip) (.seq (.asg [1] true (.ix (.var 0) (.neg (.cI 1)))) (.seq (.ite (.or (.cons (.not (.isi .tuple (.var 1))) (.cons (.cmp .Lt (.bi .len (.cons (.var 1) .nil)) (.cI 3)) (.cons (.cmp .NotEq (.lc (.var 4) [4] true (.cons (.var 1) .nil) (.cons (.not (.call 32 (.cons (.var 4) .nil))) .nil)) (.lst .nil)) .nil)))) (.seq (.ret (.cB false)) .skip) .skip) (.seq (.ite (.or (.cons (.cmp .Gt (.x2 .lcnt (.lc (.ix (.var 4) (.cI 0)) [4] true (.cons (.var 1) .nil) .nil) (.cI 0)) (.cI 1)) (.cons (.not (.call 31 (.cons (.ix (.var 0) (.cI 1)) (.cons (.cI 0) (.cons (.cI 13) .nil))))) .nil))) (.seq (.ret (.cB false)) .skip) .skip) (.seq (.ite (.and (.cons (.cmp .Eq (.ix (.var 0) (.cI 0)) (.cS "set")) (.cons (.cmp .Eq (.bi .len (.cons (.var 0) .nil)) (.cI 3)) .nil))) (.seq (.ite (.or (.cons (.cmp .Gt (.bi .len (.cons (.var 1) .nil)) (.cI 4)) (.cons (.cmp .Eq (.ix (.var 0) (.cI 1)) (.cI 0)) (.cons (.cmp .NotEq (.bi .list (.cons (.var 1) .nil)) (.x1 .sset (.var 1))) .nil)))) (.seq (.ret (.cB false)) .skip) .skip) (.seq (.ret (.cmp .Eq (.lc (.var 4) [4] true (.cons (.var 1) .nil) (.cons (.cmp .NotIn (.ix (.var 4) (.cI 0)) (.tup (.cons (.cI 0) (.cons (.ix (.var 0) (.cI 1)) .nil)))) .nil)) (.lst .nil))) .skip)) .skip) (.seq (.ite (.or (.cons (.cmp .NotEq (.ix (.var 0) (.cI 0)) (.cS "run")) (.cons (.cmp .NotEq (.bi .len (.cons (.var 0) .nil)) (.cI 4)) (.cons (.cmp .Gt (.ix (.var 0) (.cI 1)) (.cI 3)) (.cons (.not (.call 31 (.cons (.ix (.var 0) (.cI 2)) (.cons (.cI 1) (.cons (.bin .Sub (.cI 14) (.bi .len (.cons (.var 1) .nil))) .nil))))) .nil))))) (.seq (.ret (.cB false)) .skip) .skip) (.seq (.asg [2] true (.lc (.tup (.cons (.bin .Add (.ix (.var 0) (.cI 2)) (.var 3)) (.cons (.ix (.var 0) (.cI 1)) .nil))) [3] true (.rng1 (.bi .len (.cons (.var 1) .nil))) .nil)) (.seq (.ret (.cmp .Eq (.lc (.var 3) [3, 4] false (.enm (.var 1)) (.cons (.and (.cons (.cmp .NotEq (.ix (.var 4) (.cI 0)) (.cI 0)) (.cons (.cmp .NotEq (.var 4) (.ix (.var 2) (.var 3))) .nil))) .nil)) (.lst .nil))) .skip))))))))
/-- law_melds: number 34 -/
def n_law_melds : List Str := ["cards", "wilds", "found", "rank", "some", "card", "suit", "first", "rows", "longer", "row", "wild"]
def b1_law_melds : S := (.seq (.ite (.cmp .In (.ix (.var 5) (.cI 0)) (.tup (.cons (.cI 0) (.cons (.var 3) .nil)))) (.seq (.asg [4] true (.bin .Add (.var 4) (.lc (.bin .Add (.var 10) (.tup (.cons (.var 5) .nil))) [10] true (.cons (.var 4) .nil) .nil))) .skip) .skip) .skip)
def b2_law_melds : S := (.seq (.asg [4] true (.lst (.cons (.tup .nil) .nil))) (.seq (.loop [5] true (.cons (.bi .sorted (.cons (.var 0) .nil)) .nil) b1_law_melds) (.seq (.asg [2] true (.bin .Add (.var 2) (.lc (.tup (.cons (.cS "set") (.cons (.var 3) (.cons (.var 10) .nil)))) [10] true (.cons (.var 4) .nil) (.cons (.call 33 (.cons (.tup (.cons (.cS "set") (.cons (.var 3) (.cons (.var 10) .nil)))) .nil)) .nil)))) .skip)))
def b3_law_melds : S := (.seq (.ite (.cmp .In (.tup (.cons (.var 3) (.cons (.var 6) .nil))) (.var 0)) (.seq (.app 9 (.bin .Add (.var 10) (.tup (.cons (.tup (.cons (.var 3) (.cons (.var 6) .nil))) .nil)))) .skip) .skip) (.seq (.ite (.cmp .Eq (.lc (.var 5) [5] true (.cons (.var 10) .nil) (.cons (.cmp .Eq (.ix (.var 5) (.cI 0)) (.cI 0)) .nil)) (.lst .nil)) (.seq (.asg [9] true (.bin .Add (.var 9) (.lc (.bin .Add (.var 10) (.tup (.cons (.var 11) .nil))) [11] true (.cons (.var 1) .nil) .nil))) .skip) .skip) .skip))
def b4_law_melds : S := (.seq (.asg [9] true (.lst .nil)) (.seq (.frz 8 (.loop [10] true (.cons (.var 8) .nil) b3_law_melds)) (.seq (.frz 9 (.asg [8] true (.var 9))) (.seq (.ext 2 (.lc (.tup (.cons (.cS "run") (.cons (.var 6) (.cons (.var 7) (.cons (.var 10) .nil))))) [10] true (.cons (.var 8) .nil) (.cons (.cmp .GtE (.bi .len (.cons (.var 10) .nil)) (.cI 3)) .nil))) (.seq (.ite (.cmp .Eq (.var 8) (.lst .nil)) (.seq .brk .skip) .skip) .skip)))))
def b5_law_melds : S := (.seq (.asg [8] true (.lst (.cons (.tup .nil) .nil))) (.seq (.loop [3] true (.rng2 (.var 7) (.cI 14)) b4_law_melds) .skip))
def b6_law_melds : S := (.seq (.loop [7] true (.rng2 (.cI 1) (.cI 12)) b5_law_melds) .skip)
def c_law_melds : S := (.seq (.asg [1] true (.lc (.var 5) [5] true (.cons (.var 0) .nil) (.cons (.cmp .Eq (.ix (.var 5) (.cI 0)) (.cI 0)) .nil))) (.seq (.asg [2] true (.lst .nil)) (.seq (.loop [3] true (.rng2 (.cI 1) (.cI 14)) b2_law_melds) (.seq (.loop [6] true (.rng1 (.cI 4)) b6_law_melds) (.seq (.ret (.bi .sorted (.cons (.var 2) .nil))) .skip)))))
/-- law_k10: number 37 -/
def n_law_k10 : List Str := ["script", "number", "cards", "due", "card", "meld"]
def c_law_k10 : S := (.seq (.asg [1] true (.call 4 (.cons (.var 0) (.cons (.cI 0) .nil)))) (.seq (.asg [2] true (.call 6 (.cons (.call 4 (.cons (.var 0) (.cons (.cI 1) .nil))) (.cons (.bin .Mod (.var 1) (.cI 11)) .nil)))) (.seq (.asg [3] true (.call 34 (.cons (.var 2) .nil))) (.seq (.ite (.cmp .NotEq (.call 14 (.cons (.var 2) .nil)) (.bi .tuple (.cons (.var 3) .nil))) (.seq (.ret (.cB false)) .skip) .skip) (.seq (.asg [4] true (.ix (.bin .Add (.var 2) (.tup (.cons (.tup (.cons (.cI 5) (.cons (.cI 0) .nil))) .nil))) (.bin .Mod (.bin .FloorDiv (.var 1) (.cI 16)) (.bin .Add (.bi .len (.cons (.var 2) .nil)) (.cI 1))))) (.seq (.ret (.cmp .Eq (.call 16 (.cons (.var 2) (.cons (.var 4) .nil))) (.bi .tuple (.cons (.lc (.var 5) [5] true (.cons (.var 3) .nil) (.cons (.cmp .In (.var 4) (.ix (.var 5) (.neg (.cI 1)))) .nil)) .nil)))) .skip))))))
/-- exchanged: number 27 -/
def n_exchanged : List Str := ["meld", "suits", "cards", "card"]
def b1_exchanged : S := (.seq (.ite (.not (.call 0 (.cons (.var 3) .nil))) (.seq (.asg [3] true (.tup (.cons (.ix (.var 3) (.cI 0)) (.cons (.ix (.var 1) (.ix (.var 3) (.cI 1))) .nil)))) .skip) .skip) (.seq (.app 2 (.var 3)) .skip))
def c_exchanged : S := (.seq (.asg [2] true (.lst .nil)) (.seq (.loop [3] true (.cons (.ix (.var 0) (.neg (.cI 1))) .nil) b1_exchanged) (.seq (.ite (.cmp .Eq (.ix (.var 0) (.cI 0)) (.cS "set")) (.seq (.ret (.tup (.cons (.cS "set") (.cons (.ix (.var 0) (.cI 1)) (.cons (.bi .tuple (.cons (.bi .sorted (.cons (.var 2) .nil)) .nil)) .nil))))) .skip) .skip) (.seq (.ret (.tup (.cons (.cS "run") (.cons (.ix (.var 1) (.ix (.var 0) (.cI 1))) (.cons (.ix (.var 0) (.cI 2)) (.cons (.bi .tuple (.cons (.var 2) .nil)) .nil)))))) .skip))))
/-- law_some_meld: number 28 -/
def n_law_some_meld : List Str := ["number", "drawn", "rank", "suits", "cards", "many", "first", "suit", "k"]
def c_law_some_meld : S := (.seq (.asg [1] true (.bin .FloorDiv (.call 5 (.cons (.var 0) (.cons (.cI 50) .nil))) (.cI 4))) (.seq (.ite (.cmp .Eq (.bin .Mod (.var 0) (.cI 2)) (.cI 0)) (.seq (.asg [2] true (.bin .Add (.cI 1) (.bin .Mod (.bin .FloorDiv (.var 0) (.cI 2)) (.cI 13)))) (.seq (.asg [3] true (.lc (.var 8) [8] true (.rng1 (.cI 4)) (.cons (.cmp .NotEq (.var 8) (.bin .Mod (.var 1) (.ix (.tup (.cons (.cI 4) (.cons (.cI 5) .nil))) (.bin .Mod (.bin .FloorDiv (.var 1) (.cI 8)) (.cI 2))))) .nil))) (.seq (.asg [4] true (.lc (.tup (.cons (.var 2) (.cons (.var 7) .nil))) [7] true (.cons (.var 3) .nil) .nil)) (.seq (.ite (.cmp .Eq (.bin .Mod (.bin .FloorDiv (.var 1) (.cI 16)) (.cI 3)) (.cI 0)) (.seq (.asg [4] true (.bin .Add (.lst (.cons (.tup (.cons (.cI 0) (.cons (.bin .Mod (.bin .FloorDiv (.var 1) (.cI 64)) (.cI 2)) .nil))) .nil)) (.sl (.var 4) .nil (.cons (.bin .Add (.cI 2) (.bin .Mod (.bin .FloorDiv (.var 1) (.cI 128)) (.cI 2))) .nil)))) .skip) .skip) (.seq (.ret (.tup (.cons (.cS "set") (.cons (.var 2) (.cons (.bi .tuple (.cons (.var 4) .nil)) .nil))))) .skip))))) .skip) (.seq (.asg [5] true (.bin .Add (.cI 3) (.bin .Mod (.bin .FloorDiv (.var 0) (.cI 2)) (.ix (.tup (.cons (.cI 3) (.cons (.cI 5) (.cons (.cI 11) .nil)))) (.bin .Mod (.bin .FloorDiv (.var 0) (.cI 64)) (.cI 3)))))) (.seq (.asg [6] true (.bin .Add (.cI 1) (.bin .Mod (.var 1) (.bin .Sub (.cI 14) (.var 5))))) (.seq (.asg [7] true (.bin .Mod (.bin .FloorDiv (.var 1) (.cI 16)) (.cI 4))) (.seq (.asg [4] true (.lc (.tup (.cons (.bin .Add (.var 6) (.var 8)) (.cons (.var 7) .nil))) [8] true (.rng1 (.var 5)) .nil)) (.seq (.ite (.cmp .Eq (.bin .Mod (.bin .FloorDiv (.var 1) (.cI 64)) (.cI 2)) (.cI 0)) (.seq (.six 4 (.bin .Mod (.bin .FloorDiv (.var 1) (.cI 128)) (.var 5)) (.tup (.cons (.cI 0) (.cons (.bin .Mod (.bin .FloorDiv (.var 1) (.cI 4096)) (.cI 2)) .nil)))) .skip) .skip) (.seq (.ret (.tup (.cons (.cS "run") (.cons (.var 7) (.cons (.var 6) (.cons (.bi .tuple (.cons (.var 4) .nil)) .nil)))))) .skip))))))))
/-- law_turned: number 38 -/
def n_law_turned : List Str := ["card", "suits"]
def c_law_turned : S := (.seq (.ret (.ix (.lst (.cons (.var 0) (.cons (.tup (.cons (.ix (.var 0) (.cI 0)) (.cons (.ix (.var 1) (.bin .Mod (.ix (.var 0) (.cI 1)) (.cI 4))) .nil))) .nil))) (.bi .int1 (.cons (.cmp .Gt (.ix (.var 0) (.cI 0)) (.cI 0)) .nil)))) .skip)
/-- law_k11: number 39 -/
def n_law_k11 : List Str := ["script", "number", "cards", "suits", "meld", "some", "due", "melds", "turned", "less", "card", "one"]
def c_law_k11 : S := (.seq (.asg [1] true (.call 4 (.cons (.var 0) (.cons (.cI 0) .nil)))) (.seq (.asg [2] true (.call 6 (.cons (.call 4 (.cons (.var 0) (.cons (.cI 1) .nil))) (.cons (.bin .Mod (.var 1) (.cI 11)) .nil)))) (.seq (.asg [3] true (.ix (.lst (.cons (.tup (.cons (.cI 0) (.cons (.cI 1) (.cons (.cI 2) (.cons (.cI 3) .nil))))) (.cons (.tup (.cons (.cI 1) (.cons (.cI 0) (.cons (.cI 2) (.cons (.cI 3) .nil))))) (.cons (.tup (.cons (.cI 3) (.cons (.cI 2) (.cons (.cI 1) (.cons (.cI 0) .nil))))) (.cons (.tup (.cons (.cI 2) (.cons (.cI 3) (.cons (.cI 0) (.cons (.cI 1) .nil))))) (.cons (.tup (.cons (.cI 1) (.cons (.cI 2) (.cons (.cI 3) (.cons (.cI 0) .nil))))) (.cons (.tup (.cons (.cI 0) (.cons (.cI 3) (.cons (.cI 1) (.cons (.cI 2) .nil))))) .nil))))))) (.bin .Mod (.bin .FloorDiv (.var 1) (.cI 16)) (.cI 6)))) (.seq (.asg [4] true (.call 28 (.cons (.call 4 (.cons (.var 0) (.cons (.cI 2) .nil))) .nil))) (.seq (.asg [5] true (.lc (.call 38 (.cons (.var 10) (.cons (.var 3) .nil))) [10] true (.cons (.ix (.var 4) (.neg (.cI 1))) .nil) .nil)) (.seq (.asg [6] true (.tup (.cons (.cS "set") (.cons (.ix (.var 4) (.cI 1)) (.cons (.bi .tuple (.cons (.bi .sorted (.cons (.var 5) .nil)) .nil)) .nil))))) (.seq (.ite (.cmp .Eq (.ix (.var 4) (.cI 0)) (.cS "run")) (.seq (.asg [6] true (.tup (.cons (.cS "run") (.cons (.ix (.var 3) (.ix (.var 4) (.cI 1))) (.cons (.ix (.var 4) (.cI 2)) (.cons (.bi .tuple (.cons (.var 5) .nil)) .nil)))))) .skip) .skip) (.seq (.ite (.cmp .NotEq (.call 27 (.cons (.var 4) (.cons (.var 3) .nil))) (.var 6)) (.seq (.ret (.cB false)) .skip) .skip) (.seq (.asg [7] true (.call 14 (.cons (.var 2) .nil))) (.seq (.asg [8] true (.bi .tuple (.cons (.lc (.call 38 (.cons (.var 10) (.cons (.var 3) .nil))) [10] true (.cons (.var 2) .nil) .nil) .nil))) (.seq (.ite (.cmp .NotEq (.call 14 (.cons (.var 8) .nil)) (.bi .tuple (.cons (.bi .sorted (.cons (.lc (.call 27 (.cons (.var 11) (.cons (.var 3) .nil))) [11] true (.cons (.var 7) .nil) .nil) .nil)) .nil))) (.seq (.ret (.cB false)) .skip) .skip) (.seq (.ite (.or (.cons (.cmp .NotEq (.call 14 (.cons (.rv (.var 2)) .nil)) (.var 7)) (.cons (.cmp .NotEq (.lc (.var 11) [11] true (.cons (.var 7) .nil) (.cons (.not (.call 33 (.cons (.var 11) .nil))) .nil)) (.lst .nil)) .nil))) (.seq (.ret (.cB false)) .skip) .skip) (.seq (.asg [9] true (.sl (.var 2) (.cons (.cI 1) .nil) .nil)) (.seq (.ret (.cmp .Eq (.call 14 (.cons (.var 9) .nil)) (.bi .tuple (.cons (.lc (.var 11) [11] true (.cons (.var 7) .nil) (.cons (.cmp .NotIn (.ix (.var 2) (.cI 0)) (.ix (.var 11) (.neg (.cI 1)))) .nil)) .nil)))) .skip))))))))))))))
/-- freed: number 42 -/
def n_freed : List Str := ["meld", "card", "wilds", "cards", "new", "one"]
def c_freed : S := (.seq (.asg [2] true (.lc (.var 5) [5] true (.cons (.ix (.var 0) (.neg (.cI 1))) .nil) (.cons (.call 0 (.cons (.var 5) .nil)) .nil))) (.seq (.ite (.or (.cons (.cmp .Eq (.bi .len (.cons (.var 2) .nil)) (.cI 0)) (.cons (.call 0 (.cons (.var 1) .nil)) (.cons (.cmp .In (.var 1) (.ix (.var 0) (.neg (.cI 1)))) .nil)))) (.seq (.ret .cN) .skip) .skip) (.seq (.asg [3] true (.lc (.var 5) [5] true (.cons (.ix (.var 0) (.neg (.cI 1))) .nil) .nil)) (.seq (.six 3 (.x2 .lidx (.var 3) (.ix (.var 2) (.cI 0))) (.var 1)) (.seq (.ite (.cmp .Eq (.ix (.var 0) (.cI 0)) (.cS "set")) (.seq (.asg [3] true (.bi .sorted (.cons (.var 3) .nil))) .skip) .skip) (.seq (.asg [4] true (.bin .Add (.sl (.var 0) .nil (.cons (.neg (.cI 1)) .nil)) (.tup (.cons (.bi .tuple (.cons (.var 3) .nil)) .nil)))) (.seq (.ite (.not (.call 24 (.cons (.var 4) .nil))) (.seq (.ret .cN) .skip) .skip) (.seq (.ret (.tup (.cons (.var 4) (.cons (.ix (.var 2) (.cI 0)) .nil)))) .skip))))))))
/-- law_k18: number 43 -/
def n_law_k18 : List Str := ["script", "number", "cards", "every", "come", "meld", "card", "found"]
def b1_law_k18 : S := (.seq (.ite (.cmp .In (.var 6) (.ix (.var 5) (.neg (.cI 1)))) (.seq .cnt .skip) .skip) (.seq (.ext 4 (.call 25 (.cons (.var 5) (.cons (.var 6) .nil)))) (.seq (.asg [7] true (.call 42 (.cons (.var 5) (.cons (.var 6) .nil)))) (.seq (.ite (.and (.cons (.cmp .IsNot (.var 7) .cN) (.cons (.or (.cons (.cmp .NotIn (.ix (.var 7) (.cI 0)) (.var 3)) (.cons (.cmp .NotIn (.ix (.var 7) (.cI 1)) (.ix (.var 5) (.neg (.cI 1)))) .nil))) .nil))) (.seq (.ret (.cB false)) .skip) .skip) .skip))))
def b2_law_k18 : S := (.seq (.loop [6] true (.cons (.var 2) .nil) b1_law_k18) .skip)
def c_law_k18 : S := (.seq (.asg [1] true (.call 4 (.cons (.var 0) (.cons (.cI 0) .nil)))) (.seq (.asg [2] true (.call 6 (.cons (.call 4 (.cons (.var 0) (.cons (.cI 1) .nil))) (.cons (.bin .Mod (.var 1) (.cI 11)) .nil)))) (.seq (.asg [3] true (.call 14 (.cons (.var 2) .nil))) (.seq (.asg [4] true (.lst .nil)) (.seq (.loop [5] true (.cons (.var 3) .nil) b2_law_k18) (.seq (.ite (.cmp .NotEq (.lc (.var 5) [5] true (.cons (.var 4) .nil) (.cons (.cmp .NotIn (.var 5) (.var 3)) .nil)) (.lst .nil)) (.seq (.ret (.cB false)) .skip) .skip) (.seq (.ret (.cmp .Eq (.lc (.var 5) [5] true (.cons (.var 3) .nil) (.cons (.and (.cons (.cmp .Gt (.bi .len (.cons (.ix (.var 5) (.neg (.cI 1))) .nil)) (.cI 3)) (.cons (.cmp .NotIn (.var 5) (.var 4)) .nil))) .nil)) (.lst .nil))) .skip)))))))
/-- law_places: number 52 -/
def n_law_places : List Str := ["meld", "card", "at", "one"]
def c_law_places : S := (.seq (.ite (.cmp .Eq (.ix (.var 0) (.cI 0)) (.cS "set")) (.seq (.ret (.lst .nil)) .skip) .skip) (.seq (.ret (.lc (.bin .Add (.ix (.var 0) (.cI 2)) (.var 2)) [2, 3] false (.enm (.ix (.var 0) (.cI 3))) (.cons (.cmp .NotEq (.var 3) (.var 1)) .nil))) .skip))
/-- law_due: number 53 -/
def n_law_due : List Str := ["meld", "card", "found", "one", "rest", "its"]
def b1_law_due : S := (.seq (.asg [4] true (.bi .tuple (.cons (.lc (.var 5) [5] true (.cons (.ix (.var 3) (.neg (.cI 1))) .nil) (.cons (.cmp .NotEq (.var 5) (.var 1)) .nil)) .nil))) (.seq (.ite (.and (.cons (.cmp .In (.var 1) (.ix (.var 3) (.neg (.cI 1)))) (.cons (.cmp .Eq (.var 4) (.ix (.var 0) (.neg (.cI 1)))) (.cons (.cmp .Eq (.sl (.var 3) .nil (.cons (.cI 2) .nil)) (.sl (.var 0) .nil (.cons (.cI 2) .nil))) .nil)))) (.seq (.ite (.cmp .Eq (.call 52 (.cons (.var 3) (.cons (.var 1) .nil))) (.call 52 (.cons (.var 0) (.cons (.var 1) .nil)))) (.seq (.app 2 (.var 3)) .skip) .skip) .skip) .skip) .skip))
def c_law_due : S := (.seq (.asg [2] true (.lst .nil)) (.seq (.loop [3] true (.cons (.call 14 (.cons (.bin .Add (.ix (.var 0) (.neg (.cI 1))) (.tup (.cons (.var 1) .nil))) .nil)) .nil) b1_law_due) (.seq (.ret (.bi .tuple (.cons (.bi .sorted (.cons (.var 2) .nil)) .nil))) .skip)))
/-- law_is_freed: number 54 -/
def n_law_is_freed : List Str := ["meld", "card", "found", "new", "wild", "due", "one"]
def c_law_is_freed : S := (.seq (.asg [3, 4] false (.var 2)) (.seq (.ite (.or (.cons (.cmp .NotIn (.var 4) (.ix (.var 0) (.neg (.cI 1)))) (.cons (.cmp .NotEq (.ix (.var 4) (.cI 0)) (.cI 0)) (.cons (.not (.call 24 (.cons (.var 3) .nil))) (.cons (.cmp .In (.var 4) (.ix (.var 3) (.neg (.cI 1)))) .nil))))) (.seq (.ret (.cB false)) .skip) .skip) (.seq (.ite (.or (.cons (.cmp .In (.var 1) (.ix (.var 0) (.neg (.cI 1)))) (.cons (.cmp .NotEq (.sl (.var 3) .nil (.cons (.neg (.cI 1)) .nil)) (.sl (.var 0) .nil (.cons (.neg (.cI 1)) .nil))) .nil))) (.seq (.ret (.cB false)) .skip) .skip) (.seq (.asg [5] true (.bin .Add (.lc (.var 6) [6] true (.cons (.ix (.var 0) (.neg (.cI 1))) .nil) (.cons (.cmp .NotEq (.var 6) (.var 4)) .nil)) (.lst (.cons (.var 1) .nil)))) (.seq (.ret (.cmp .Eq (.bi .sorted (.cons (.ix (.var 3) (.neg (.cI 1))) .nil)) (.bi .sorted (.cons (.var 5) .nil)))) .skip)))))
/-- law_k31: number 55 -/
def n_law_k31 : List Str := ["script", "meld", "every", "rank", "card", "found", "suit"]
def b1_law_k31 : S := (.seq (.asg [2] true (.bin .Add (.var 2) (.lc (.tup (.cons (.var 3) (.cons (.var 6) .nil))) [6] true (.rng1 (.cI 4)) .nil))) .skip)
def b2_law_k31 : S := (.seq (.ite (.and (.cons (.cmp .NotIn (.var 4) (.ix (.var 1) (.neg (.cI 1)))) (.cons (.cmp .NotEq (.call 25 (.cons (.var 1) (.cons (.var 4) .nil))) (.call 53 (.cons (.var 1) (.cons (.var 4) .nil)))) .nil))) (.seq (.ret (.cB false)) .skip) .skip) (.seq (.asg [5] true (.call 42 (.cons (.var 1) (.cons (.var 4) .nil)))) (.seq (.ite (.and (.cons (.cmp .IsNot (.var 5) .cN) (.cons (.not (.call 54 (.cons (.var 1) (.cons (.var 4) (.cons (.var 5) .nil))))) .nil))) (.seq (.ret (.cB false)) .skip) .skip) .skip)))
def c_law_k31 : S := (.seq (.asg [1] true (.call 28 (.cons (.call 4 (.cons (.var 0) (.cons (.cI 0) .nil))) .nil))) (.seq (.asg [2] true (.lst (.cons (.tup (.cons (.cI 0) (.cons (.cI 0) .nil))) (.cons (.tup (.cons (.cI 0) (.cons (.cI 1) .nil))) .nil)))) (.seq (.loop [3] true (.rng2 (.cI 1) (.cI 14)) b1_law_k31) (.seq (.frz 2 (.loop [4] true (.cons (.var 2) .nil) b2_law_k31)) (.seq (.ret (.cB true)) .skip)))))
/-- law_spoilt: number 35 -/
def n_law_spoilt : List Str := ["thing", "number", "deep", "at", "part", "some"]
def c_law_spoilt : S := (.seq (.ite (.and (.cons (.cmp .Gt (.var 2) (.cI 0)) (.cons (.isi .tuple (.var 0)) (.cons (.cmp .Gt (.bi .len (.cons (.var 0) .nil)) (.cI 0)) (.cons (.cmp .Gt (.bin .Mod (.var 1) (.cI 6)) (.cI 0)) .nil))))) (.seq (.asg [3] true (.bin .Mod (.bin .FloorDiv (.var 1) (.cI 6)) (.bi .len (.cons (.var 0) .nil)))) (.seq (.asg [4] true (.call 35 (.cons (.ix (.var 0) (.var 3)) (.cons (.bin .FloorDiv (.call 5 (.cons (.var 1) (.cons (.var 2) .nil))) (.cI 4)) (.cons (.bin .Sub (.var 2) (.cI 1)) .nil))))) (.seq (.ret (.bin .Add (.bin .Add (.sl (.var 0) .nil (.cons (.var 3) .nil)) (.tup (.cons (.var 4) .nil))) (.sl (.var 0) (.cons (.bin .Add (.var 3) (.cI 1)) .nil) .nil))) .skip))) .skip) (.seq (.ite (.and (.cons (.isi .tuple (.var 0)) (.cons (.cmp .Gt (.bi .len (.cons (.var 0) .nil)) (.cI 0)) (.cons (.cmp .Eq (.bin .Mod (.bin .FloorDiv (.var 1) (.cI 6)) (.cI 2)) (.cI 0)) .nil)))) (.seq (.ret (.ix (.lst (.cons (.bi .list (.cons (.var 0) .nil)) (.cons (.sl (.var 0) .nil (.cons (.neg (.cI 1)) .nil)) (.cons (.bin .Add (.var 0) (.sl (.var 0) (.cons (.neg (.cI 1)) .nil) .nil)) (.cons (.sl (.var 0) (.cons (.cI 1) .nil) .nil) (.cons (.rv (.var 0)) (.cons (.tup .nil) .nil))))))) (.bin .Mod (.bin .FloorDiv (.var 1) (.cI 12)) (.cI 6)))) .skip) .skip) (.seq (.ite (.and (.cons (.isi .int (.var 0)) (.cons (.cmp .Eq (.bin .Mod (.bin .FloorDiv (.var 1) (.cI 6)) (.cI 2)) (.cI 0)) .nil))) (.seq (.ret (.ix (.lst (.cons (.x1 .str (.var 0)) (.cons (.neg (.var 0)) (.cons (.bin .Add (.var 0) (.cI 1)) (.cons (.cmp .Eq (.var 0) (.cI 1)) (.cons (.bin .Sub (.var 0) (.cI 1)) (.cons (.cI 0) .nil))))))) (.bin .Mod (.bin .FloorDiv (.var 1) (.cI 12)) (.cI 6)))) .skip) .skip) (.seq (.asg [5] true (.lst (.cons .cN (.cons (.tup (.cons (.cI 0) (.cons (.cI 0) .nil))) (.cons (.tup (.cons (.cI 0) (.cons (.cI 1) .nil))) (.cons (.tup (.cons (.cI 0) (.cons (.cI 2) .nil))) (.cons (.tup (.cons (.cI 14) (.cons (.cI 0) .nil))) (.cons (.tup (.cons (.cI 1) (.cons (.cI 4) .nil))) (.cons (.tup (.cons (.cI 13) (.cons (.cI 3) .nil))) (.cons (.cB true) (.cons (.cI 0) (.cons (.cI 1) (.cons (.cI 13) (.cons (.cI 14) (.cons (.cS "run") (.cons (.cS "set") (.cons (.cS "") (.cons (.tup .nil) (.cons (.tup (.cons (.cI 0) (.cons (.cB true) .nil))) .nil))))))))))))))))))) (.seq (.ret (.ix (.var 5) (.bin .Mod (.bin .FloorDiv (.var 1) (.cI 6)) (.cI 17)))) .skip)))))
/-- law_k01: number 36 -/
def n_law_k01 : List Str := ["script", "number", "thing", "some", "found", "cards", "card"]
def c_law_k01 : S := (.seq (.asg [1] true (.call 4 (.cons (.var 0) (.cons (.cI 0) .nil)))) (.seq (.asg [2] true (.call 28 (.cons (.call 4 (.cons (.var 0) (.cons (.cI 1) .nil))) .nil))) (.seq (.ite (.cmp .Eq (.bin .Mod (.var 1) (.cI 2)) (.cI 1)) (.seq (.asg [2] true (.call 35 (.cons (.var 2) (.cons (.call 4 (.cons (.var 0) (.cons (.cI 2) .nil))) (.cons (.bin .Mod (.bin .FloorDiv (.var 1) (.cI 2)) (.cI 4)) .nil))))) .skip) .skip) (.seq (.ite (.cmp .Eq (.bin .Mod (.bin .FloorDiv (.var 1) (.cI 1024)) (.cI 4)) (.cI 1)) (.seq (.asg [3] true (.lst (.cons (.tup (.cons (.cS "set") (.cons (.cI 5) (.cons (.tup (.cons (.tup (.cons (.cI 0) (.cons (.cI 0) .nil))) (.cons (.tup (.cons (.cI 5) (.cons (.cI 0) .nil))) (.cons (.tup (.cons (.cI 5) (.cons (.cI 1) .nil))) (.cons (.tup (.cons (.cI 5) (.cons (.cI 2) .nil))) (.cons (.tup (.cons (.cI 5) (.cons (.cI 3) .nil))) .nil)))))) .nil)))) (.cons (.tup (.cons (.cS "set") (.cons (.cI 5) (.cons (.tup (.cons (.tup (.cons (.cI 0) (.cons (.cI 0) .nil))) (.cons (.tup (.cons (.cI 0) (.cons (.cI 1) .nil))) (.cons (.tup (.cons (.cI 5) (.cons (.cI 1) .nil))) .nil)))) .nil)))) .nil)))) (.seq (.asg [3] true (.bin .Add (.var 3) (.lst (.cons (.tup (.cons (.cS "run") (.cons (.cI 1) (.cons (.cI 12) (.cons (.tup (.cons (.tup (.cons (.cI 12) (.cons (.cI 1) .nil))) (.cons (.tup (.cons (.cI 13) (.cons (.cI 1) .nil))) (.cons (.tup (.cons (.cI 0) (.cons (.cI 0) .nil))) .nil)))) .nil))))) (.cons (.tup (.cons (.cS "run") (.cons (.cI 1) (.cons (.cI 3) (.cons (.tup (.cons (.tup (.cons (.cI 0) (.cons (.cI 0) .nil))) (.cons (.tup (.cons (.cI 4) (.cons (.cI 1) .nil))) (.cons (.tup (.cons (.cI 0) (.cons (.cI 1) .nil))) (.cons (.tup (.cons (.cI 6) (.cons (.cI 1) .nil))) .nil))))) .nil))))) .nil))))) (.seq (.asg [3] true (.bin .Add (.var 3) (.lst (.cons (.tup (.cons (.cS "run") (.cons (.cI 1) (.cons (.cI 11) (.cons (.tup (.cons (.tup (.cons (.cI 11) (.cons (.cI 1) .nil))) (.cons (.tup (.cons (.cI 0) (.cons (.cI 0) .nil))) (.cons (.tup (.cons (.cI 13) (.cons (.cI 1) .nil))) .nil)))) .nil))))) (.cons (.tup (.cons (.cS "run") (.cons (.cI 1) (.cons (.cI 0) (.cons (.tup (.cons (.tup (.cons (.cI 0) (.cons (.cI 0) .nil))) (.cons (.tup (.cons (.cI 1) (.cons (.cI 1) .nil))) (.cons (.tup (.cons (.cI 2) (.cons (.cI 1) .nil))) .nil)))) .nil))))) .nil))))) (.seq (.asg [3] true (.bin .Add (.var 3) (.lst (.cons (.tup (.cons (.cS "set") (.cons (.cI 5) (.cons (.tup (.cons (.tup (.cons (.cI 5) (.cons (.cI 0) .nil))) (.cons (.tup (.cons (.cI 5) (.cons (.cI 1) .nil))) (.cons (.tup (.cons (.cI 5) (.cons (.cI 2) .nil))) (.cons (.tup (.cons (.cI 5) (.cons (.cI 3) .nil))) .nil))))) .nil)))) (.cons (.tup (.cons (.cS "set") (.cons (.cI 5) (.cons (.tup (.cons (.tup (.cons (.cI 5) (.cons (.cI 0) .nil))) (.cons (.tup (.cons (.cI 5) (.cons (.cI 2) .nil))) (.cons (.tup (.cons (.cI 5) (.cons (.cI 1) .nil))) .nil)))) .nil)))) .nil))))) (.seq (.asg [2] true (.ix (.bin .Add (.var 3) (.lst (.cons (.tup (.cons (.cS "set") (.cons (.cI 5) (.cons (.tup (.cons (.tup (.cons (.cI 5) (.cons (.cI 0) .nil))) (.cons (.tup (.cons (.cI 5) (.cons (.cI 1) .nil))) .nil))) .nil)))) (.cons (.tup (.cons (.cS "set") (.cons (.cI 5) (.cons (.tup (.cons (.tup (.cons (.cI 5) (.cons (.cI 0) .nil))) (.cons (.tup (.cons (.cI 5) (.cons (.cI 0) .nil))) (.cons (.tup (.cons (.cI 5) (.cons (.cI 1) .nil))) .nil)))) .nil)))) .nil)))) (.bin .Mod (.bin .FloorDiv (.var 1) (.cI 4096)) (.cI 10)))) .skip))))) .skip) (.seq (.asg [4] true (.call 24 (.cons (.var 2) .nil))) (.seq (.ite (.or (.cons (.not (.isi .bool (.var 4))) (.cons (.cmp .NotEq (.var 4) (.call 33 (.cons (.var 2) .nil))) .nil))) (.seq (.ret (.cB false)) .skip) .skip) (.seq (.asg [5] true (.call 6 (.cons (.call 4 (.cons (.var 0) (.cons (.cI 3) .nil))) (.cons (.bin .Mod (.bin .FloorDiv (.var 1) (.cI 8)) (.cI 12)) .nil)))) (.seq (.ite (.or (.cons (.cmp .NotEq (.call 2 (.cons (.var 5) .nil)) (.call 7 (.cons (.var 5) .nil))) (.cons (.cmp .NotEq (.lc (.var 6) [6] true (.cons (.var 5) .nil) (.cons (.cmp .IsNot (.call 20 (.cons (.var 6) .nil)) (.cB true)) .nil)) (.lst .nil)) .nil))) (.seq (.ret (.cB false)) .skip) .skip) (.seq (.asg [2] true (.call 35 (.cons (.ix (.bin .Add (.var 5) (.tup (.cons (.tup (.cons (.cI 0) (.cons (.cI 1) .nil))) .nil))) (.cI 0)) (.cons (.call 4 (.cons (.var 0) (.cons (.cI 4) .nil))) (.cons (.bin .Mod (.bin .FloorDiv (.var 1) (.cI 128)) (.cI 3)) .nil))))) (.seq (.asg [4] true (.call 20 (.cons (.var 2) .nil))) (.seq (.ret (.and (.cons (.isi .bool (.var 4)) (.cons (.cmp .Eq (.var 4) (.call 32 (.cons (.var 2) .nil))) .nil)))) .skip)))))))))))
/-- is_laying: number 44 -/
def n_is_laying : List Str := ["cards", "thing", "melds", "left", "every", "meld", "part", "card"]
def b1_is_laying : S := (.seq (.ext 4 (.ix (.var 5) (.neg (.cI 1)))) .skip)
def c_is_laying : S := (.seq (.ite (.or (.cons (.not (.isi .tuple (.var 1))) (.cons (.cmp .NotEq (.bi .len (.cons (.var 1) .nil)) (.cI 2)) (.cons (.not (.bi .all (.cons (.lc (.isi .tuple (.var 6)) [6] true (.cons (.var 1) .nil) .nil) .nil))) .nil)))) (.seq (.ret (.cB false)) .skip) .skip) (.seq (.asg [2, 3] false (.var 1)) (.seq (.ite (.or (.cons (.not (.bi .all (.cons (.lc (.call 24 (.cons (.var 5) .nil)) [5] true (.cons (.var 2) .nil) .nil) .nil))) (.cons (.not (.bi .all (.cons (.lc (.call 20 (.cons (.var 7) .nil)) [7] true (.cons (.var 3) .nil) .nil) .nil))) .nil))) (.seq (.ret (.cB false)) .skip) .skip) (.seq (.ite (.or (.cons (.cmp .NotEq (.bi .list (.cons (.var 2) .nil)) (.bi .sorted (.cons (.var 2) .nil))) (.cons (.cmp .NotEq (.bi .list (.cons (.var 3) .nil)) (.bi .sorted (.cons (.var 3) .nil))) .nil))) (.seq (.ret (.cB false)) .skip) .skip) (.seq (.asg [4] true (.bi .list (.cons (.var 3) .nil))) (.seq (.loop [5] true (.cons (.var 2) .nil) b1_is_laying) (.seq (.ret (.cmp .Eq (.bi .sorted (.cons (.var 4) .nil)) (.bi .sorted (.cons (.var 0) .nil)))) .skip)))))))
/-- law_gone: number 45 -/
def n_law_gone : List Str := ["cards", "some", "card"]
def c_law_gone : S := (.seq (.ret (.bi .tuple (.cons (.lc (.var 2) [2] true (.cons (.var 0) .nil) (.cons (.cmp .NotIn (.var 2) (.var 1)) .nil)) .nil))) .skip)
/-- law_is_laying: number 46 -/
def n_law_is_laying : List Str := ["cards", "thing", "every", "meld", "card"]
def b1_law_is_laying : S := (.seq (.asg [2] true (.bin .Add (.var 2) (.bi .list (.cons (.ix (.var 3) (.neg (.cI 1))) .nil)))) .skip)
def c_law_is_laying : S := (.seq (.ite (.or (.cons (.not (.isi .tuple (.var 1))) (.cons (.cmp .NotEq (.bi .len (.cons (.var 1) .nil)) (.cI 2)) .nil))) (.seq (.ret (.cB false)) .skip) .skip) (.seq (.ite (.or (.cons (.not (.isi .tuple (.ix (.var 1) (.cI 0)))) (.cons (.not (.isi .tuple (.ix (.var 1) (.cI 1)))) .nil))) (.seq (.ret (.cB false)) .skip) .skip) (.seq (.ite (.cmp .NotEq (.lc (.var 3) [3] true (.cons (.ix (.var 1) (.cI 0)) .nil) (.cons (.not (.call 33 (.cons (.var 3) .nil))) .nil)) (.lst .nil)) (.seq (.ret (.cB false)) .skip) .skip) (.seq (.ite (.cmp .NotEq (.lc (.var 4) [4] true (.cons (.ix (.var 1) (.cI 1)) .nil) (.cons (.not (.call 32 (.cons (.var 4) .nil))) .nil)) (.lst .nil)) (.seq (.ret (.cB false)) .skip) .skip) (.seq (.asg [2] true (.bi .list (.cons (.ix (.var 1) (.cI 1)) .nil))) (.seq (.loop [3] true (.cons (.ix (.var 1) (.cI 0)) .nil) b1_law_is_laying) (.seq (.ite (.cmp .NotEq (.bi .sorted (.cons (.var 2) .nil)) (.bi .sorted (.cons (.var 0) .nil))) (.seq (.ret (.cB false)) .skip) .skip) (.seq (.ret (.and (.cons (.cmp .Eq (.bi .list (.cons (.ix (.var 1) (.cI 0)) .nil)) (.bi .sorted (.cons (.ix (.var 1) (.cI 0)) .nil))) (.cons (.cmp .Eq (.bi .list (.cons (.ix (.var 1) (.cI 1)) .nil)) (.bi .sorted (.cons (.ix (.var 1) (.cI 1)) .nil))) .nil)))) .skip))))))))
/-- law_k20: number 47 -/
def n_law_k20 : List Str := ["script", "number", "cards", "left", "melds", "meld", "lacking", "thing", "some", "found", "one"]
def b1_law_k20 : S := (.seq (.asg [6] true (.lc (.var 10) [10] true (.cons (.ix (.var 5) (.neg (.cI 1))) .nil) (.cons (.cmp .NotIn (.var 10) (.var 3)) .nil))) (.seq (.ite (.and (.cons (.cmp .Gt (.bin .Mod (.bin .FloorDiv (.call 5 (.cons (.var 1) (.cons (.bin .Add (.bi .len (.cons (.ix (.var 5) (.neg (.cI 1))) .nil)) (.ix (.var 5) (.cI 1))) .nil))) (.cI 4)) (.cI 3)) (.cI 0)) (.cons (.cmp .Eq (.var 6) (.lst .nil)) .nil))) (.seq (.app 4 (.var 5)) (.seq (.asg [3] true (.call 45 (.cons (.var 3) (.cons (.ix (.var 5) (.neg (.cI 1))) .nil)))) .skip)) .skip) .skip))
def c_law_k20 : S := (.seq (.asg [1] true (.call 4 (.cons (.var 0) (.cons (.cI 0) .nil)))) (.seq (.asg [2] true (.call 6 (.cons (.call 4 (.cons (.var 0) (.cons (.cI 1) .nil))) (.cons (.bin .Mod (.var 1) (.cI 10)) .nil)))) (.seq (.asg [3] true (.bi .tuple (.cons (.bi .sorted (.cons (.var 2) .nil)) .nil))) (.seq (.asg [4] true (.lst .nil)) (.seq (.loop [5] true (.cons (.call 34 (.cons (.var 2) .nil)) .nil) b1_law_k20) (.seq (.asg [7] true (.tup (.cons (.bi .tuple (.cons (.var 4) .nil)) (.cons (.var 3) .nil)))) (.seq (.ite (.cmp .Eq (.bin .Mod (.bin .FloorDiv (.var 1) (.cI 16)) (.cI 2)) (.cI 1)) (.seq (.asg [8] true (.lst (.cons (.tup (.cons (.rv (.ix (.var 7) (.cI 0))) (.cons (.var 3) .nil))) (.cons (.tup (.cons (.ix (.var 7) (.cI 0)) (.cons (.rv (.var 3)) .nil))) (.cons (.tup (.cons (.sl (.ix (.var 7) (.cI 0)) (.cons (.cI 1) .nil) .nil) (.cons (.var 3) .nil))) (.cons (.tup (.cons (.ix (.var 7) (.cI 0)) (.cons (.sl (.var 3) (.cons (.cI 1) .nil) .nil) .nil))) .nil)))))) (.seq (.asg [8] true (.bin .Add (.var 8) (.lst (.cons (.bi .list (.cons (.var 7) .nil)) (.cons .cN .nil))))) (.seq (.asg [8] true (.bin .Add (.var 8) (.lst (.cons (.tup (.cons (.bin .Add (.ix (.var 7) (.cI 0)) (.sl (.ix (.var 7) (.cI 0)) .nil (.cons (.cI 1) .nil))) (.cons (.var 3) .nil))) (.cons (.tup (.cons (.ix (.var 7) (.cI 0)) (.cons (.bin .Add (.var 3) (.tup (.cons (.tup (.cons (.cI 5) (.cons (.cI 0) .nil))) .nil))) .nil))) (.cons (.tup (.cons (.bi .list (.cons (.var 4) .nil)) (.cons (.var 3) .nil))) (.cons (.bin .Add (.var 7) (.tup (.cons (.cI 0) .nil))) .nil))))))) (.seq (.asg [8] true (.bin .Add (.var 8) (.lst (.cons (.tup (.cons (.tup .nil) (.cons (.var 3) .nil))) (.cons (.tup (.cons (.ix (.var 7) (.cI 0)) (.cons (.bin .Add (.var 3) (.tup (.cons .cN .nil))) .nil))) (.cons (.tup (.cons (.bin .Add (.tup (.cons .cN .nil)) (.ix (.var 7) (.cI 0))) (.cons (.var 3) .nil))) (.cons (.tup (.cons (.tup .nil) (.cons (.bi .tuple (.cons (.bi .sorted (.cons (.var 2) .nil)) .nil)) .nil))) .nil))))))) (.seq (.asg [7] true (.ix (.var 8) (.bin .Mod (.bin .FloorDiv (.var 1) (.cI 32)) (.cI 14)))) .skip))))) .skip) (.seq (.asg [9] true (.call 44 (.cons (.var 2) (.cons (.var 7) .nil)))) (.seq (.ret (.and (.cons (.isi .bool (.var 9)) (.cons (.cmp .Eq (.var 9) (.call 46 (.cons (.var 2) (.cons (.var 7) .nil)))) .nil)))) .skip)))))))))
/-- law_suits: number 29 -/
def n_law_suits : List Str := ["number", "left", "found", "k"]
def b1_law_suits : S := (.seq (.apop 2 1 (.bin .Mod (.bin .FloorDiv (.var 0) (.ix (.tup (.cons (.cI 1) (.cons (.cI 4) (.cons (.cI 12) (.cons (.cI 24) .nil))))) (.var 3))) (.bin .Sub (.cI 4) (.var 3)))) .skip)
def c_law_suits : S := (.seq (.asg [1] true (.lst (.cons (.cI 0) (.cons (.cI 1) (.cons (.cI 2) (.cons (.cI 3) .nil)))))) (.seq (.asg [2] true (.lst .nil)) (.seq (.loop [3] true (.rng1 (.cI 4)) b1_law_suits) (.seq (.ret (.bi .tuple (.cons (.var 2) .nil))) .skip))))
/-- law_k15: number 30 -/
def n_law_k15 : List Str := ["script", "meld", "ones", "others", "both", "back", "new", "wilds", "card", "suit"]
def c_law_k15 : S := (.seq (.asg [1] true (.call 28 (.cons (.call 4 (.cons (.var 0) (.cons (.cI 0) .nil))) .nil))) (.seq (.asg [2] true (.call 29 (.cons (.call 4 (.cons (.var 0) (.cons (.cI 1) .nil))) .nil))) (.seq (.asg [3] true (.call 29 (.cons (.call 4 (.cons (.var 0) (.cons (.cI 2) .nil))) .nil))) (.seq (.asg [4] true (.bi .tuple (.cons (.lc (.ix (.var 3) (.var 9)) [9] true (.cons (.var 2) .nil) .nil) .nil))) (.seq (.asg [5] true (.bi .tuple (.cons (.lc (.x2 .lidx (.var 2) (.var 9)) [9] true (.rng1 (.cI 4)) .nil) .nil))) (.seq (.asg [6] true (.call 27 (.cons (.var 1) (.cons (.var 2) .nil)))) (.seq (.ite (.or (.cons (.cmp .NotEq (.call 27 (.cons (.var 6) (.cons (.var 3) .nil))) (.call 27 (.cons (.var 1) (.cons (.var 4) .nil)))) (.cons (.cmp .NotEq (.call 27 (.cons (.var 6) (.cons (.var 5) .nil))) (.var 1)) .nil))) (.seq (.ret (.cB false)) .skip) .skip) (.seq (.ite (.or (.cons (.cmp .NotEq (.call 27 (.cons (.var 1) (.cons (.tup (.cons (.cI 0) (.cons (.cI 1) (.cons (.cI 2) (.cons (.cI 3) .nil))))) .nil))) (.var 1)) (.cons (.cmp .IsNot (.call 24 (.cons (.var 6) .nil)) (.cB true)) .nil))) (.seq (.ret (.cB false)) .skip) .skip) (.seq (.asg [7] true (.lc (.var 8) [8] true (.cons (.ix (.var 1) (.neg (.cI 1))) .nil) (.cons (.cmp .Eq (.ix (.var 8) (.cI 0)) (.cI 0)) .nil))) (.seq (.ite (.cmp .NotEq (.lc (.var 8) [8] true (.cons (.ix (.var 6) (.neg (.cI 1))) .nil) (.cons (.cmp .Eq (.ix (.var 8) (.cI 0)) (.cI 0)) .nil)) (.var 7)) (.seq (.ret (.cB false)) .skip) .skip) (.seq (.ret (.cmp .Eq (.call 2 (.cons (.ix (.var 6) (.neg (.cI 1))) .nil)) (.call 2 (.cons (.ix (.var 1) (.neg (.cI 1))) .nil)))) .skip)))))))))))
/-- all_more: number 48 -/
def n_all_more : List Str := ["melds", "cards", "found", "card", "number", "meld", "new"]
def b1_all_more : S := (.seq (.ext 2 (.lc (.tup (.cons (.var 3) (.cons (.var 4) (.cons (.var 6) .nil)))) [6] true (.cons (.call 25 (.cons (.var 5) (.cons (.var 3) .nil))) .nil) .nil)) .skip)
def b2_all_more : S := (.seq (.loop [4, 5] false (.enm (.var 0)) b1_all_more) .skip)
def c_all_more : S := (.seq (.asg [2] true (.lst .nil)) (.seq (.loop [3] true (.cons (.var 1) .nil) b2_all_more) (.seq (.ret (.bi .tuple (.cons (.bi .sorted (.cons (.var 2) .nil)) .nil))) .skip)))
/-- law_more: number 49 -/
def n_law_more : List Str := ["meld", "card", "found", "at", "first", "one"]
def b1_law_more : S := (.seq (.app 2 (.tup (.cons (.cS "run") (.cons (.ix (.var 0) (.cI 1)) (.cons (.var 4) (.cons (.bin .Add (.bin .Add (.sl (.ix (.var 0) (.cI 3)) .nil (.cons (.var 3) .nil)) (.tup (.cons (.var 1) .nil))) (.sl (.ix (.var 0) (.cI 3)) (.cons (.var 3) .nil) .nil)) .nil)))))) .skip)
def c_law_more : S := (.seq (.asg [2] true (.lst .nil)) (.seq (.ite (.cmp .Eq (.ix (.var 0) (.cI 0)) (.cS "set")) (.seq (.app 2 (.tup (.cons (.cS "set") (.cons (.ix (.var 0) (.cI 1)) (.cons (.bi .tuple (.cons (.bi .sorted (.cons (.bin .Add (.ix (.var 0) (.cI 2)) (.tup (.cons (.var 1) .nil))) .nil)) .nil)) .nil))))) .skip) (.seq (.loop [3, 4] false (.cons (.tup (.cons (.tup (.cons (.cI 0) (.cons (.bin .Sub (.ix (.var 0) (.cI 2)) (.cI 1)) .nil))) (.cons (.tup (.cons (.bi .len (.cons (.ix (.var 0) (.cI 3)) .nil)) (.cons (.ix (.var 0) (.cI 2)) .nil))) .nil))) .nil) b1_law_more) .skip)) (.seq (.ret (.bi .sorted (.cons (.lc (.var 5) [5] true (.cons (.var 2) .nil) (.cons (.call 33 (.cons (.var 5) .nil)) .nil)) .nil))) .skip)))
/-- law_freed: number 50 -/
def n_law_freed : List Str := ["meld", "card", "wilds", "at", "new", "one"]
def c_law_freed : S := (.seq (.asg [2] true (.lc (.var 5) [5] true (.cons (.ix (.var 0) (.neg (.cI 1))) .nil) (.cons (.cmp .Eq (.ix (.var 5) (.cI 0)) (.cI 0)) .nil))) (.seq (.ite (.or (.cons (.cmp .Eq (.var 2) (.lst .nil)) (.cons (.cmp .Eq (.ix (.var 1) (.cI 0)) (.cI 0)) (.cons (.cmp .In (.var 1) (.ix (.var 0) (.neg (.cI 1)))) .nil)))) (.seq (.ret .cN) .skip) .skip) (.seq (.asg [3] true (.x2 .lidx (.ix (.var 0) (.neg (.cI 1))) (.ix (.var 2) (.cI 0)))) (.seq (.ite (.cmp .Eq (.ix (.var 0) (.cI 0)) (.cS "run")) (.seq (.asg [4] true (.bin .Add (.sl (.var 0) .nil (.cons (.cI 3) .nil)) (.tup (.cons (.bin .Add (.bin .Add (.sl (.ix (.var 0) (.cI 3)) .nil (.cons (.var 3) .nil)) (.tup (.cons (.var 1) .nil))) (.sl (.ix (.var 0) (.cI 3)) (.cons (.bin .Add (.var 3) (.cI 1)) .nil) .nil)) .nil)))) (.seq (.ret (.ix (.lst (.cons .cN (.cons (.tup (.cons (.var 4) (.cons (.ix (.var 2) (.cI 0)) .nil))) .nil))) (.bi .int1 (.cons (.cmp .Eq (.var 1) (.tup (.cons (.bin .Add (.ix (.var 0) (.cI 2)) (.var 3)) (.cons (.ix (.var 0) (.cI 1)) .nil)))) .nil)))) .skip)) .skip) (.seq (.ite (.cmp .NotEq (.ix (.var 1) (.cI 0)) (.ix (.var 0) (.cI 1))) (.seq (.ret .cN) .skip) .skip) (.seq (.ret (.tup (.cons (.tup (.cons (.cS "set") (.cons (.ix (.var 0) (.cI 1)) (.cons (.bi .tuple (.cons (.bi .sorted (.cons (.bin .Add (.sl (.ix (.var 0) (.cI 2)) (.cons (.cI 1) .nil) .nil) (.tup (.cons (.var 1) .nil))) .nil)) .nil)) .nil)))) (.cons (.ix (.var 2) (.cI 0)) .nil)))) .skip))))))
/-- law_k30: number 51 -/
def n_law_k30 : List Str := ["script", "number", "melds", "meld", "some", "card", "held", "one", "cards", "due", "at", "k", "suit", "rank", "new"]
def b1_law_k30 : S := (.seq (.ite (.cmp .NotEq (.call 42 (.cons (.var 3) (.cons (.var 5) .nil))) (.call 50 (.cons (.var 3) (.cons (.var 5) .nil)))) (.seq (.ret (.cB false)) .skip) .skip) (.seq (.ite (.and (.cons (.cmp .NotIn (.var 5) (.ix (.var 3) (.neg (.cI 1)))) (.cons (.cmp .NotEq (.call 25 (.cons (.var 3) (.cons (.var 5) .nil))) (.bi .tuple (.cons (.call 49 (.cons (.var 3) (.cons (.var 5) .nil))) .nil))) .nil))) (.seq (.ret (.cB false)) .skip) .skip) .skip))
def b2_law_k30 : S := (.seq (.asg [6] true (.bin .Add (.var 6) (.bi .list (.cons (.ix (.var 7) (.neg (.cI 1))) .nil)))) .skip)
def b3_law_k30 : S := (.seq (.asg [9] true (.bin .Add (.var 9) (.lc (.tup (.cons (.var 5) (.cons (.var 10) (.cons (.var 14) .nil)))) [14] true (.cons (.call 49 (.cons (.var 7) (.cons (.var 5) .nil))) .nil) .nil))) .skip)
def b4_law_k30 : S := (.seq (.loop [10, 7] false (.enm (.var 2)) b3_law_k30) .skip)
def c_law_k30 : S := (.seq (.asg [1] true (.call 4 (.cons (.var 0) (.cons (.cI 0) .nil)))) (.seq (.asg [2] true (.bi .tuple (.cons (.lc (.call 28 (.cons (.call 4 (.cons (.var 0) (.cons (.bin .Add (.cI 1) (.var 11)) .nil))) .nil)) [11] true (.rng1 (.bin .Add (.bin .Mod (.var 1) (.cI 3)) (.cI 1))) .nil) .nil))) (.seq (.asg [3] true (.ix (.var 2) (.cI 0))) (.seq (.asg [4] true (.bin .Add (.bi .list (.cons (.call 6 (.cons (.call 4 (.cons (.var 0) (.cons (.cI 4) .nil))) (.cons (.cI 4) .nil))) .nil)) (.lst (.cons (.tup (.cons (.cI 0) (.cons (.cI 0) .nil))) (.cons (.tup (.cons (.cI 0) (.cons (.cI 1) .nil))) .nil))))) (.seq (.ite (.cmp .Eq (.ix (.var 3) (.cI 0)) (.cS "set")) (.seq (.asg [4] true (.bin .Add (.var 4) (.lc (.tup (.cons (.ix (.var 3) (.cI 1)) (.cons (.var 12) .nil))) [12] true (.rng1 (.cI 4)) .nil))) .skip) (.seq (.asg [4] true (.bin .Add (.var 4) (.lc (.tup (.cons (.var 13) (.cons (.ix (.var 3) (.cI 1)) .nil))) [13] true (.rng2 (.bi .max2 (.cons (.cI 1) (.cons (.bin .Sub (.ix (.var 3) (.cI 2)) (.cI 1)) .nil))) (.bin .Add (.bi .min2 (.cons (.cI 13) (.cons (.bin .Add (.ix (.var 3) (.cI 2)) (.bi .len (.cons (.ix (.var 3) (.cI 3)) .nil))) .nil))) (.cI 1))) .nil))) .skip)) (.seq (.frz 4 (.loop [5] true (.cons (.var 4) .nil) b1_law_k30)) (.seq (.asg [6] true (.lst .nil)) (.seq (.loop [7] true (.cons (.var 2) .nil) b2_law_k30) (.seq (.asg [8] true (.lc (.var 5) [5] true (.cons (.x1 .sset (.var 4)) .nil) (.cons (.cmp .NotIn (.var 5) (.var 6)) .nil))) (.seq (.asg [9] true (.lst .nil)) (.seq (.frz 8 (.loop [5] true (.cons (.var 8) .nil) b4_law_k30)) (.seq (.ret (.cmp .Eq (.call 48 (.cons (.var 2) (.cons (.bi .tuple (.cons (.rv (.var 8)) .nil)) .nil))) (.bi .tuple (.cons (.bi .sorted (.cons (.var 9) .nil)) .nil)))) .skip))))))))))))
/-- law_k12: number 18 -/
def n_law_k12 : List Str := ["script", "number", "cards", "at", "card", "less", "new", "every", "meld"]
def c_law_k12 : S := (.seq (.asg [1] true (.call 4 (.cons (.var 0) (.cons (.cI 0) .nil)))) (.seq (.asg [2] true (.call 6 (.cons (.call 4 (.cons (.var 0) (.cons (.cI 1) .nil))) (.cons (.bin .Add (.cI 1) (.bin .Mod (.var 1) (.cI 11))) .nil)))) (.seq (.asg [3] true (.bin .Mod (.bin .FloorDiv (.var 1) (.cI 16)) (.bi .len (.cons (.var 2) .nil)))) (.seq (.asg [4] true (.ix (.var 2) (.var 3))) (.seq (.asg [5] true (.call 14 (.cons (.bin .Add (.sl (.var 2) .nil (.cons (.var 3) .nil)) (.sl (.var 2) (.cons (.bin .Add (.var 3) (.cI 1)) .nil) .nil)) .nil))) (.seq (.asg [6] true (.call 16 (.cons (.var 2) (.cons (.var 4) .nil)))) (.seq (.asg [7] true (.call 14 (.cons (.var 2) .nil))) (.seq (.ite (.or (.cons (.not (.isi .tuple (.var 7))) (.cons (.not (.isi .tuple (.var 6))) .nil))) (.seq (.ret (.cB false)) .skip) .skip) (.seq (.ite (.or (.cons (.cmp .NotEq (.bi .list (.cons (.var 7) .nil)) (.bi .sorted (.cons (.bin .Add (.var 5) (.var 6)) .nil))) (.cons (.cmp .NotEq (.x1 .lenSet (.var 7)) (.bi .len (.cons (.var 7) .nil))) .nil))) (.seq (.ret (.cB false)) .skip) .skip) (.seq (.ite (.or (.cons (.cmp .NotEq (.lc (.var 8) [8] true (.cons (.var 6) .nil) (.cons (.cmp .NotIn (.var 4) (.ix (.var 8) (.neg (.cI 1)))) .nil)) (.lst .nil)) (.cons (.cmp .NotEq (.lc (.var 8) [8] true (.cons (.var 5) .nil) (.cons (.cmp .In (.var 4) (.ix (.var 8) (.neg (.cI 1)))) .nil)) (.lst .nil)) .nil))) (.seq (.ret (.cB false)) .skip) .skip) (.seq (.ret (.and (.cons (.cmp .Eq (.call 14 (.cons (.tup .nil) .nil)) (.tup .nil)) (.cons (.cmp .Eq (.call 14 (.cons (.tup (.cons (.var 4) .nil)) .nil)) (.tup .nil)) .nil)))) .skip)))))))))))
/-- law_k14: number 15 -/
def n_law_k14 : List Str := ["script", "number", "first", "long", "suit", "cards", "rank", "suits", "others", "due", "every", "found", "runs", "k", "one", "meld"]
def c_law_k14 : S := (.seq (.asg [1] true (.call 4 (.cons (.var 0) (.cons (.cI 0) .nil)))) (.seq (.asg [2] true (.bin .Add (.cI 1) (.bin .Mod (.var 1) (.cI 6)))) (.seq (.asg [3] true (.bin .Mod (.bin .FloorDiv (.var 1) (.cI 8)) (.cI 7))) (.seq (.asg [4] true (.bin .Mod (.bin .FloorDiv (.var 1) (.cI 64)) (.cI 4))) (.seq (.asg [5] true (.lc (.tup (.cons (.bin .Add (.var 2) (.var 13)) (.cons (.var 4) .nil))) [13] true (.rng1 (.var 3)) .nil)) (.seq (.asg [6] true (.cI 13)) (.seq (.asg [7] true (.lc (.bin .Mod (.bin .Add (.var 4) (.var 13)) (.cI 4)) [13] true (.rng1 (.bin .Mod (.bin .FloorDiv (.var 1) (.cI 256)) (.cI 5))) .nil)) (.seq (.asg [8] true (.lc (.tup (.cons (.var 6) (.cons (.var 14) .nil))) [14] true (.cons (.var 7) .nil) .nil)) (.seq (.asg [9] true (.bin .Add (.ix (.lst (.cons (.cI 0) (.cons (.cI 0) (.cons (.cI 0) (.cons (.cI 1) (.cons (.cI 3) (.cons (.cI 6) (.cons (.cI 10) .nil)))))))) (.var 3)) (.ix (.lst (.cons (.cI 0) (.cons (.cI 0) (.cons (.cI 0) (.cons (.cI 1) (.cons (.cI 5) .nil)))))) (.bi .len (.cons (.var 8) .nil))))) (.seq (.asg [10] true (.bin .Add (.var 5) (.var 8))) (.seq (.ite (.cmp .Eq (.bin .Mod (.bin .FloorDiv (.var 1) (.cI 2048)) (.cI 2)) (.cI 1)) (.seq (.asg [10] true (.rv (.var 10))) .skip) .skip) (.seq (.asg [11] true (.call 14 (.cons (.bi .tuple (.cons (.var 10) .nil)) .nil))) (.seq (.asg [12] true (.lc (.var 15) [15] true (.cons (.var 11) .nil) (.cons (.cmp .Eq (.ix (.var 15) (.cI 0)) (.cS "run")) .nil))) (.seq (.ret (.and (.cons (.cmp .Eq (.bi .len (.cons (.var 11) .nil)) (.var 9)) (.cons (.cmp .Eq (.x1 .lenSet (.var 11)) (.var 9)) (.cons (.cmp .Eq (.bin .Sub (.bi .len (.cons (.var 11) .nil)) (.bi .len (.cons (.var 12) .nil))) (.ix (.lst (.cons (.cI 0) (.cons (.cI 0) (.cons (.cI 0) (.cons (.cI 1) (.cons (.cI 5) .nil)))))) (.bi .len (.cons (.var 8) .nil)))) .nil))))) .skip))))))))))))))
/-- law_k32: number 56 -/
def n_law_k32 : List Str := ["script", "number", "melds", "held", "k", "meld", "cards", "due", "card", "at", "found", "turned", "new"]
def b1_law_k32 : S := (.seq (.asg [5] true (.call 28 (.cons (.call 4 (.cons (.var 0) (.cons (.bin .Add (.cI 1) (.var 4)) .nil))) .nil))) (.seq (.ite (.cmp .Eq (.lc (.var 8) [8] true (.cons (.ix (.var 5) (.neg (.cI 1))) .nil) (.cons (.cmp .In (.var 8) (.var 3)) .nil)) (.lst .nil)) (.seq (.asg [2] true (.bin .Add (.var 2) (.tup (.cons (.var 5) .nil)))) (.seq (.asg [3] true (.bin .Add (.var 3) (.bi .list (.cons (.ix (.var 5) (.neg (.cI 1))) .nil)))) .skip)) .skip) .skip))
def b2_law_k32 : S := (.seq (.asg [7] true (.bin .Add (.var 7) (.lc (.tup (.cons (.var 8) (.cons (.var 9) (.cons (.var 12) .nil)))) [12] true (.cons (.call 25 (.cons (.var 5) (.cons (.var 8) .nil))) .nil) .nil))) .skip)
def b3_law_k32 : S := (.seq (.loop [9, 5] false (.enm (.var 2)) b2_law_k32) .skip)
def c_law_k32 : S := (.seq (.asg [1] true (.call 4 (.cons (.var 0) (.cons (.cI 0) .nil)))) (.seq (.par 2 3 (.tup .nil) (.lst .nil)) (.seq (.loop [4] true (.rng1 (.bin .Mod (.var 1) (.cI 5))) b1_law_k32) (.seq (.asg [6] true (.call 45 (.cons (.call 6 (.cons (.call 4 (.cons (.var 0) (.cons (.cI 7) .nil))) (.cons (.bin .Mod (.bin .FloorDiv (.var 1) (.cI 8)) (.cI 7)) .nil))) (.cons (.var 3) .nil)))) (.seq (.asg [7] true (.lst .nil)) (.seq (.loop [8] true (.cons (.var 6) .nil) b3_law_k32) (.seq (.asg [10] true (.call 48 (.cons (.var 2) (.cons (.var 6) .nil)))) (.seq (.ite (.or (.cons (.not (.isi .tuple (.var 10))) (.cons (.cmp .NotEq (.bi .list (.cons (.var 10) .nil)) (.bi .sorted (.cons (.var 7) .nil))) (.cons (.cmp .NotEq (.x1 .lenSet (.var 10)) (.bi .len (.cons (.var 10) .nil))) .nil)))) (.seq (.ret (.cB false)) .skip) .skip) (.seq (.asg [11] true (.lc (.tup (.cons (.var 8) (.cons (.bin .Sub (.bin .Sub (.bi .len (.cons (.var 2) .nil)) (.cI 1)) (.var 9)) (.cons (.var 12) .nil)))) [8, 9, 12] false (.cons (.var 10) .nil) .nil)) (.seq (.ite (.or (.cons (.cmp .NotEq (.call 48 (.cons (.rv (.var 2)) (.cons (.var 6) .nil))) (.bi .tuple (.cons (.bi .sorted (.cons (.var 11) .nil)) .nil))) (.cons (.cmp .NotEq (.call 48 (.cons (.var 2) (.cons (.rv (.var 6)) .nil))) (.var 10)) .nil))) (.seq (.ret (.cB false)) .skip) .skip) (.seq (.ret (.and (.cons (.cmp .Eq (.call 48 (.cons (.var 2) (.cons (.tup .nil) .nil))) (.tup .nil)) (.cons (.cmp .Eq (.call 48 (.cons (.tup .nil) (.cons (.var 6) .nil))) (.tup .nil)) .nil)))) .skip)))))))))))
end Mt

set_option Elab.async false
set_option linter.all false
set_option maxRecDepth 100000
set_option maxHeartbeats 400000
/-! The core's equations, for simp. -/
namespace Mt
open PySem PySem.Spec PyProof.Rows L2
section
variable {Φ : Nat → FnS} {n : Nat} {σ : Sg}
@[simp] theorem q_bd {α β : Type} (a : α) (f : α → R β) : bd (.ok a) f = f a := rfl
@[simp] theorem q_bde {α β : Type} (e : Er) (f : α → R β) : bd (.error e) f = .error e := rfl
@[simp] theorem q_gdt {α : Type} (x : R α) : gd true x = x := rfl
@[simp] theorem q_var (i : Nat) : ev Φ (.var i) σ = rdS σ i := rfl
@[simp] theorem q_cI (i : Int) : ev Φ (.cI i) σ = .ok (.int i) := rfl
@[simp] theorem q_cB (i : Bool) : ev Φ (.cB i) σ = .ok (.bool i) := rfl
@[simp] theorem q_cN : ev Φ .cN σ = .ok .none := rfl
@[simp] theorem q_cS (i : Str) : ev Φ (.cS i) σ = .ok (.str i) := rfl
@[simp] theorem q_gI (x : Str) (i : Int) : ev Φ (.gI x i) σ = .ok (.int i) := rfl
@[simp] theorem q_gS (x i : Str) : ev Φ (.gS x i) σ = .ok (.str i) := rfl
@[simp] theorem q_tup (a : C) : ev Φ (.tup a) σ = bd (evs Φ a σ) fun ds => .ok (.tuple ds) := rfl
@[simp] theorem q_lst (a : C) : ev Φ (.lst a) σ = bd (evs Φ a σ) fun ds => .ok (.list ds) := rfl
@[simp] theorem q_bin (op : Operator) (a b : C) : ev Φ (.bin op a b) σ = bd (ev Φ a σ) fun x => bd (ev Φ b σ) fun y => binD op x y := rfl
@[simp] theorem q_neg (a : C) : ev Φ (.neg a) σ = bd (ev Φ a σ) negD := rfl
@[simp] theorem q_cmp (op : CmpOp) (a b : C) : ev Φ (.cmp op a b) σ = bd (ev Φ a σ) fun x => bd (ev Φ b σ) fun y => cmpD op x y := rfl
@[simp] theorem q_ch (op op2 : CmpOp) (a b c : C) : ev Φ (.ch op op2 a b c) σ = bd (ev Φ a σ) fun x => bd (ev Φ b σ) fun y => bd (cmpD op x y) fun r => bd (asB r) fun k => if k = true then bd (ev Φ c σ) fun z => cmpD op2 y z else .ok (.bool false) := rfl
@[simp] theorem q_and (a : C) : ev Φ (.and a) σ = bd (evAnd Φ a σ) fun b => .ok (.bool b) := rfl
@[simp] theorem q_or (a : C) : ev Φ (.or a) σ = bd (evOr Φ a σ) fun b => .ok (.bool b) := rfl
@[simp] theorem q_not (a : C) : ev Φ (.not a) σ = bd (ev Φ a σ) fun d => bd (asB d) fun b => .ok (.bool (!b)) := rfl
@[simp] theorem q_ix (a b : C) : ev Φ (.ix a b) σ = bd (ev Φ a σ) fun x => bd (ev Φ b σ) fun y => ixD x y := rfl
@[simp] theorem q_sl (a lo hi : C) : ev Φ (.sl a lo hi) σ = bd (ev Φ a σ) fun x => bd (evp Φ lo σ) fun l => bd (evp Φ hi σ) fun h => slD x l h := rfl
@[simp] theorem q_rv (a : C) : ev Φ (.rv a) σ = bd (ev Φ a σ) revD := rfl
@[simp] theorem q_call (f : Nat) (a : C) : ev Φ (.call f a) σ = bd (evr Φ a σ) fun ds => gd (Φ f).pure ((Φ f).m ds) := rfl
@[simp] theorem q_bi (b : Bi) (a : C) : ev Φ (.bi b a) σ = bd (evr Φ a σ) fun ds => biD b ds := rfl
@[simp] theorem q_isi (t : Ty) (a : C) : ev Φ (.isi t a) σ = bd (ev Φ a σ) fun d => .ok (.bool (isiD t d)) := rfl
@[simp] theorem q_lc (e : C) (tg : List Nat) (one : Bool) (it cond : C) : ev Φ (.lc e tg one it cond) σ = bd (evIt Φ it σ) fun ds => bd (lcGo (fun d => bd (bindT (wipeS σ tg) tg one d) fun τ => bd (evc Φ cond τ) fun b => if b = true then bd (strict e τ (ev Φ e τ)) fun r => .ok (some r) else .ok none) ds) fun rs => .ok (.list rs) := rfl
@[simp] theorem q_snil : evs Φ .nil σ = .ok [] := rfl
@[simp] theorem q_scons (a b : C) : evs Φ (.cons a b) σ = bd (strict a σ (ev Φ a σ)) fun d => bd (evs Φ b σ) fun ds => .ok (d :: ds) := rfl
@[simp] theorem q_rnil : evr Φ .nil σ = .ok [] := rfl
@[simp] theorem q_rcons (a b : C) : evr Φ (.cons a b) σ = bd (ev Φ a σ) fun d => bd (evr Φ b σ) fun ds => .ok (d :: ds) := rfl
@[simp] theorem q_andnil : evAnd Φ .nil σ = .ok true := rfl
@[simp] theorem q_andcons (a b : C) : evAnd Φ (.cons a b) σ = bd (ev Φ a σ) fun d => bd (asB d) fun k => if k = true then evAnd Φ b σ else .ok false := rfl
@[simp] theorem q_ornil : evOr Φ .nil σ = .ok false := rfl
@[simp] theorem q_orcons (a b : C) : evOr Φ (.cons a b) σ = bd (ev Φ a σ) fun d => bd (asB d) fun k => if k = true then .ok true else evOr Φ b σ := rfl
@[simp] theorem q_pnil : evp Φ .nil σ = .ok none := rfl
@[simp] theorem q_pcons (a b : C) : evp Φ (.cons a b) σ = bd (ev Φ a σ) partD := rfl
@[simp] theorem q_cnil : evc Φ .nil σ = .ok true := rfl
@[simp] theorem q_ccons (a b : C) : evc Φ (.cons a b) σ = bd (ev Φ a σ) asB := rfl
@[simp] theorem q_rng1 (a : C) : evIt Φ (.rng1 a) σ = bd (ev Φ a σ) fun x => rngOk (.int 0) x := rfl
@[simp] theorem q_rng2 (a b : C) : evIt Φ (.rng2 a b) σ = bd (ev Φ a σ) fun x => bd (ev Φ b σ) fun y => rngOk x y := rfl
@[simp] theorem q_seqit (a b : C) : evIt Φ (.cons a b) σ = bd (ev Φ a σ) seqD := rfl
@[simp] theorem q_strict (i : Nat) (x : R D) : strict (.var i) σ x = rdI σ i := rfl
@[simp] theorem q_skip : evS Φ n .skip σ = .ok (.nx σ) := rfl
@[simp] theorem q_seq (a b : S) : evS Φ n (.seq a b) σ = bd (evS Φ n a σ) (thenF (evS Φ n b)) := rfl
@[simp] theorem q_asg (i : Nat) (e : C) : evS Φ n (.asg [i] true e) σ = bd (ev Φ e σ) fun d => bd (asgS σ i e d) fun σ => .ok (.nx σ) := rfl
@[simp] theorem q_asgs (tg : List Nat) (e : C) : evS Φ n (.asg tg false e) σ = bd (ev Φ e σ) fun d => bd (bindT σ tg false d) fun σ => .ok (.nx σ) := rfl
@[simp] theorem q_app (i : Nat) (e : C) : evS Φ n (.app i e) σ = bd (strict e σ (ev Φ e σ)) fun d => bd (ownAt σ i) fun ds => gd (decide (ds.length < 16777216)) (.ok (.nx (σ.set i (.own (ds ++ [d]))))) := rfl
@[simp] theorem q_ext (i : Nat) (e : C) : evS Φ n (.ext i e) σ = bd (strict e σ (ev Φ e σ)) fun d => bd (seqD d) fun zs => bd (ownAt σ i) fun ds => gd (decide (ds.length + zs.length ≤ 16777216)) (.ok (.nx (σ.set i (.own (ds ++ zs))))) := rfl
@[simp] theorem q_six (i : Nat) (k e : C) : evS Φ n (.six i k e) σ = bd (strict e σ (ev Φ e σ)) fun d => bd (ev Φ k σ) fun k => bd (ownAt σ i) fun ds => bd (setD ds k d) fun r => .ok (.nx (σ.set i (.own r))) := rfl
@[simp] theorem q_ite (c : C) (a b : S) : evS Φ n (.ite c a b) σ = bd (ev Φ c σ) fun d => bd (asB d) fun k => if k = true then evS Φ n a σ else evS Φ n b σ := rfl
@[simp] theorem q_loop (tg : List Nat) (one : Bool) (it : C) (b : S) : evS Φ n (.loop tg one it b) σ = gd (!tmpI σ it) (bd (evIt Φ it σ) fun ds => forGo (fun d σ => bd (bindT σ tg one d) (evS Φ n b)) ds σ) := rfl
@[simp] theorem q_whl (c : C) (b : S) : evS Φ n (.whl c b) σ = whGo (fun σ => bd (ev Φ c σ) asB) (evS Φ n b) n σ := rfl
@[simp] theorem q_ret (e : C) : evS Φ n (.ret e) σ = bd (ev Φ e σ) fun d => bd (retD σ e d) fun d => .ok (.rt d) := rfl
@[simp] theorem q_brk : evS Φ n .brk σ = .ok (.bk σ) := rfl
@[simp] theorem q_cnt : evS Φ n .cnt σ = .ok (.ct σ) := rfl
@[simp] theorem q_pass : evS Φ n .pass σ = .ok (.nx σ) := rfl
@[simp] theorem q_frz (i : Nat) (s : S) : evS Φ n (.frz i s) σ = evS Φ n s (frzS σ i) := rfl
@[simp] theorem q_then (k : Sg → R Fl) (τ : Sg) : thenF k (.nx τ) = k τ := rfl
@[simp] theorem q_thenr (k : Sg → R Fl) (d : D) : thenF k (.rt d) = .ok (.rt d) := rfl
@[simp] theorem q_thenb (k : Sg → R Fl) (τ : Sg) : thenF k (.bk τ) = .ok (.bk τ) := rfl
@[simp] theorem q_thenc (k : Sg → R Fl) (τ : Sg) : thenF k (.ct τ) = .ok (.ct τ) := rfl
@[simp] theorem q_asB (b : Bool) : asB (.bool b) = .ok b := rfl
@[simp] theorem q_part (i : Int) : partD (.int i) = .ok (some i) := rfl
@[simp] theorem q_negD (i : Int) : negD (.int i) = .ok (.int (-i)) := rfl
@[simp] theorem q_seqL (ds : List D) : seqD (.list ds) = .ok ds := rfl
@[simp] theorem q_seqT (ds : List D) : seqD (.tuple ds) = .ok ds := rfl
@[simp] theorem q_endr (d : D) : endR (.ok (.rt d)) = .ok d := rfl
@[simp] theorem q_endn (τ : Sg) : endR (.ok (.nx τ)) = .ok .none := rfl
@[simp] theorem q_rt (d : D) (σ : Sg) (c : C) (h : ∀ ds, d ≠ .list ds) : retD σ c d = .ok d := by
  unfold retD
  split
  · exact absurd rfl (h _)
  · rfl
@[simp] theorem q_as (d : D) (σ : Sg) (i : Nat) (c : C) (h : ∀ ds, d ≠ .list ds) : asgS σ i c d = .ok (σ.set i (.imm d)) := by
  unfold asgS
  split
  · exact absurd rfl (h _)
  · rfl
/-! data -/
@[simp] theorem q_add (i j : Int) : binD .Add (.int i) (.int j) = .ok (.int (i + j)) := rfl
@[simp] theorem q_sub (i j : Int) : binD .Sub (.int i) (.int j) = .ok (.int (i - j)) := rfl
theorem q_mulR (i j : Int) (h : -(2 ^ 64) < j ∧ j < 2 ^ 64) : binD .Mult (.int i) (.int j) = .ok (.int (i * j)) := by
  show gd _ _ = _
  rw [gd_pos]
  rw [Bool.or_eq_true]
  exact .inr (by simp only [Bool.and_eq_true, decide_eq_true_eq]; exact h)
theorem q_mulL (i j : Int) (h : -(2 ^ 64) < i ∧ i < 2 ^ 64) : binD .Mult (.int i) (.int j) = .ok (.int (i * j)) := by
  show gd _ _ = _
  rw [gd_pos]
  rw [Bool.or_eq_true]
  exact .inl (by simp only [Bool.and_eq_true, decide_eq_true_eq]; exact h)
theorem q_div (i j : Int) (h : 0 < j ∧ j < 1073741824) : binD .FloorDiv (.int i) (.int j) = .ok (.int (i / j)) := by
  show gd _ _ = _
  rw [gd_pos]
  simp only [Bool.and_eq_true, decide_eq_true_eq]; exact h
theorem q_mod (i j : Int) (h : 0 < j) : binD .Mod (.int i) (.int j) = .ok (.int (i % j)) := by
  show gd _ _ = _
  rw [gd_pos]
  exact decide_eq_true h
@[simp] theorem q_eqI (i j : Int) : cmpD .Eq (.int i) (.int j) = .ok (.bool (i == j)) := rfl
@[simp] theorem q_neI (i j : Int) : cmpD .NotEq (.int i) (.int j) = .ok (.bool (!(i == j))) := rfl
@[simp] theorem q_ltI (i j : Int) : cmpD .Lt (.int i) (.int j) = .ok (.bool (decide (i < j))) := rfl
@[simp] theorem q_leI (i j : Int) : cmpD .LtE (.int i) (.int j) = .ok (.bool (decide (i ≤ j))) := rfl
@[simp] theorem q_gtI (i j : Int) : cmpD .Gt (.int i) (.int j) = .ok (.bool (decide (j < i))) := rfl
@[simp] theorem q_geI (i j : Int) : cmpD .GtE (.int i) (.int j) = .ok (.bool (decide (j ≤ i))) := rfl
@[simp] theorem q_lenL (ds : List D) : biD .len [.list ds] = .ok (.int ds.length) := rfl
@[simp] theorem q_lenT (ds : List D) : biD .len [.tuple ds] = .ok (.int ds.length) := rfl
@[simp] theorem q_tupL (ds : List D) : biD .tuple [.list ds] = .ok (.tuple ds) := rfl
@[simp] theorem q_tupT (ds : List D) : biD .tuple [.tuple ds] = .ok (.tuple ds) := rfl
@[simp] theorem q_listL (ds : List D) : biD .list [.list ds] = .ok (.list ds) := rfl
@[simp] theorem q_listT (ds : List D) : biD .list [.tuple ds] = .ok (.list ds) := rfl
@[simp] theorem q_min (i j : Int) : biD .min2 [.int i, .int j] = .ok (.int (if j < i then j else i)) := rfl
@[simp] theorem q_max (i j : Int) : biD .max2 [.int i, .int j] = .ok (.int (if j > i then j else i)) := rfl
@[simp] theorem q_intI (i : Int) : biD .int1 [.int i] = .ok (.int i) := rfl
@[simp] theorem q_intB (b : Bool) : biD .int1 [.bool b] = .ok (.int (if b then 1 else 0)) := rfl
@[simp] theorem q_sum (ns : List Int) : biD .sum [.list (ns.map .int)] = .ok (.int ns.sum) := by
  show (match intsD (ns.map .int) with | some ns => _ | none => _) = _
  rw [intsD_map]
@[simp] theorem q_all (bs : List Bool) : biD .all [.list (bs.map .bool)] = .ok (.bool (bs.all id)) := by
  show (match blsD (bs.map .bool) with | some ns => _ | none => _) = _
  rw [blsD_map]
@[simp] theorem q_any (bs : List Bool) : biD .any [.list (bs.map .bool)] = .ok (.bool (bs.any id)) := by
  show (match blsD (bs.map .bool) with | some ns => _ | none => _) = _
  rw [blsD_map]
@[simp] theorem q_sumc {α : Type} (f : α → Int) (l : List α) : biD .sum [.list (l.map (PyData.int ∘ f))] = .ok (.int (l.map f).sum) := by
  rw [← List.map_map]; exact q_sum _
@[simp] theorem q_allc {α : Type} (f : α → Bool) (l : List α) : biD .all [.list (l.map (PyData.bool ∘ f))] = .ok (.bool (l.all f)) := by
  rw [← List.map_map, q_all, List.all_map]; rfl
@[simp] theorem q_anyc {α : Type} (f : α → Bool) (l : List α) : biD .any [.list (l.map (PyData.bool ∘ f))] = .ok (.bool (l.any f)) := by
  rw [← List.map_map, q_any, List.any_map]; rfl
@[simp] theorem q_revL (ds : List D) : revD (.list ds) = .ok (.list ds.reverse) := rfl
@[simp] theorem q_revT (ds : List D) : revD (.tuple ds) = .ok (.tuple ds.reverse) := rfl
@[simp] theorem q_slL (ds : List D) (l h : Option Int) : slD (.list ds) l h = .ok (.list (cutD ds l h)) := rfl
@[simp] theorem q_slT (ds : List D) (l h : Option Int) : slD (.tuple ds) l h = .ok (.tuple (cutD ds l h)) := rfl
end
/-! ### comprehensions -/
theorem lcGo_map {f : D → R (Option D)} {α : Type} (enc : α → D) (g : α → D) : ∀ (l : List α), (∀ a ∈ l, f (enc a) = .ok (some (g a))) → lcGo f (l.map enc) = .ok (l.map g)
  | [], _ => rfl
  | a :: l, h => by
    rw [List.map_cons, lcGo, h a (List.mem_cons_self ..), q_bd, lcGo_map enc g l fun b m => h b (List.mem_cons_of_mem _ m)]
    rfl
theorem lcGo_filter {f : D → R (Option D)} {α : Type} (enc : α → D) (p : α → Bool) (g : α → D) : ∀ (l : List α), (∀ a ∈ l, f (enc a) = .ok (if p a = true then some (g a) else none)) → lcGo f (l.map enc) = .ok ((l.filter p).map g)
  | [], _ => rfl
  | a :: l, h => by
    rw [List.map_cons, lcGo, h a (List.mem_cons_self ..), q_bd, lcGo_filter enc p g l fun b m => h b (List.mem_cons_of_mem _ m)]
    cases e : p a with
    | true => rw [List.filter_cons, e]; rfl
    | false => rw [List.filter_cons, e]; rfl
@[simp] theorem q_iteok {α : Type} (p : Prop) [Decidable p] (a b : α) : (if p then (Except.ok a : R α) else Except.ok b) = Except.ok (if p then a else b) := by split <;> rfl
@[simp] theorem q_x1 {Φ : Nat → FnS} {σ : Sg} (k : X1) (a : C) : ev Φ (.x1 k a) σ = bd (ev Φ a σ) fun x => x1D k x := rfl
@[simp] theorem q_x2 {Φ : Nat → FnS} {σ : Sg} (k : X2) (a b : C) : ev Φ (.x2 k a b) σ = bd (ev Φ a σ) fun x => bd (ev Φ b σ) fun y => x2D k x y := rfl
@[simp] theorem q_enm {Φ : Nat → FnS} {σ : Sg} (a : C) : evIt Φ (.enm a) σ = bd (ev Φ a σ) fun x => bd (seqD x) fun ds => .ok (enumD ds) := rfl
@[simp] theorem q_zp {Φ : Nat → FnS} {σ : Sg} (a b : C) : evIt Φ (.zp a b) σ = bd (ev Φ a σ) fun x => bd (ev Φ b σ) fun y => zipD x y := rfl
@[simp] theorem q_par {Φ : Nat → FnS} {n : Nat} {σ : Sg} (i j : Nat) (a b : C) : evS Φ n (.par i j a b) σ = bd (strict a σ (ev Φ a σ)) fun d1 => bd (strict b σ (ev Φ b σ)) fun d2 => bd (asgS (σ.set i (.imm d1)) j b d2) fun τ => .ok (.nx τ) := rfl
/-- one item of a comprehension -/
def lcOne (Φ : Nat → FnS) (e : C) (tg : List Nat) (one : Bool) (cond : C) (σ : Sg) (d : D) : R (Option D) := bd (bindT (wipeS σ tg) tg one d) fun τ => bd (evc Φ cond τ) fun b => if b = true then bd (strict e τ (ev Φ e τ)) fun r => .ok (some r) else .ok none
theorem lc_map {Φ : Nat → FnS} {σ : Sg} {e it cond : C} {tg : List Nat} {one : Bool} {α : Type} (enc : α → D) (g : α → D) (l : List α) (hi : evIt Φ it σ = .ok (l.map enc)) (h : ∀ a ∈ l, lcOne Φ e tg one cond σ (enc a) = .ok (some (g a))) : ev Φ (.lc e tg one it cond) σ = .ok (.list (l.map g)) := by
  rw [q_lc, hi, q_bd]
  exact (congrArg (fun z => bd z fun rs => Except.ok (PyData.list rs)) (lcGo_map enc g l h)).trans rfl
theorem lc_filter {Φ : Nat → FnS} {σ : Sg} {e it cond : C} {tg : List Nat} {one : Bool} {α : Type} (enc : α → D) (p : α → Bool) (g : α → D) (l : List α) (hi : evIt Φ it σ = .ok (l.map enc)) (h : ∀ a ∈ l, lcOne Φ e tg one cond σ (enc a) = .ok (if p a = true then some (g a) else none)) : ev Φ (.lc e tg one it cond) σ = .ok (.list ((l.filter p).map g)) := by
  rw [q_lc, hi, q_bd]
  exact (congrArg (fun z => bd z fun rs => Except.ok (PyData.list rs)) (lcGo_filter enc p g l h)).trans rfl
end Mt

set_option Elab.async false
set_option linter.all false
set_option maxRecDepth 100000
set_option maxHeartbeats 1000000
/-! Mirrors: draws, cards dealt, points. -/
namespace Mt
open PySem PySem.Spec PyProof.Rows L2
abbrev Card := Int × Int
def encC (c : Card) : D := .tuple [.int c.1, .int c.2]
def decC (d : D) : Option Card := match d with
  | .tuple [.int r, .int s] => some (r, s)
  | _ => none
theorem decC_eq {d : D} {c : Card} (h : decC d = some c) : d = encC c := by
  unfold decC at h
  split at h
  · cases h; rfl
  · cases h
@[simp] theorem decC_enc (c : Card) : decC (encC c) = some c := rfl
def decL {α : Type} (dec : D → Option α) : List D → Option (List α)
  | [] => some []
  | d :: ds => match dec d, decL dec ds with
    | some a, some as => some (a :: as)
    | _, _ => none
theorem decL_eq {α : Type} {dec : D → Option α} {enc : α → D} (he : ∀ d a, dec d = some a → d = enc a) : ∀ {ds : List D} {as : List α}, decL dec ds = some as → ds = as.map enc
  | [], _, h => by cases h; rfl
  | d :: ds, _, h => by
    unfold decL at h
    split at h
    · rename_i a as h1 h2
      cases h
      rw [he d a h1, decL_eq he h2]; rfl
    · cases h
theorem decL_enc {α : Type} {dec : D → Option α} {enc : α → D} (he : ∀ a, dec (enc a) = some a) : ∀ as : List α, decL dec (as.map enc) = some as
  | [] => rfl
  | a :: as => by
    rw [List.map_cons, decL, he, decL_enc he as]
def decT {α : Type} (dec : D → Option α) (d : D) : Option (List α) := match d with
  | .tuple ds => decL dec ds
  | _ => none
def encT (cs : List Card) : D := .tuple (cs.map encC)
theorem decT_eq {d : D} {cs : List Card} (h : decT decC d = some cs) : d = encT cs := by
  unfold decT at h
  split at h
  · rw [decL_eq (fun d a => decC_eq) h]; rfl
  · cases h
@[simp] theorem decT_enc (cs : List Card) : decT decC (encT cs) = some cs := decL_enc decC_enc cs
def decI (d : D) : Option Int := match d with
  | .int i => some i
  | _ => none
theorem decI_eq {d : D} {i : Int} (h : decI d = some i) : d = .int i := by
  unfold decI at h
  split at h
  · cases h; rfl
  · cases h
@[simp] theorem decI_int (i : Int) : decI (.int i) = some i := rfl
/-- functions of one, two arguments -/
def m1 {α : Type} (dec : D → Option α) (f : α → R D) (ds : List D) : R D := match ds with
  | [d] => match dec d with
    | some a => f a
    | none => stk
  | _ => stk
def m2 {α β : Type} (dec : D → Option α) (dec2 : D → Option β) (f : α → β → R D) (ds : List D) : R D := match ds with
  | [d, e] => match dec d, dec2 e with
    | some a, some b => f a b
    | _, _ => stk
  | _ => stk
theorem m1_inv {α : Type} {dec : D → Option α} {f : α → R D} {ds : List D} {r : D} (h : m1 dec f ds = .ok r) : ∃ d a, ds = [d] ∧ dec d = some a ∧ f a = .ok r := by
  unfold m1 at h
  split at h
  · split at h
    · exact ⟨_, _, rfl, ‹_›, h⟩
    · cases h
  · cases h
theorem m2_inv {α β : Type} {dec : D → Option α} {dec2 : D → Option β} {f : α → β → R D} {ds : List D} {r : D} (h : m2 dec dec2 f ds = .ok r) : ∃ d e a b, ds = [d, e] ∧ dec d = some a ∧ dec2 e = some b ∧ f a b = .ok r := by
  unfold m2 at h
  split at h
  · split at h
    · exact ⟨_, _, _, _, rfl, ‹_›, ‹_›, h⟩
    · cases h
  · cases h
@[simp] theorem m1_ok {α : Type} {dec : D → Option α} {f : α → R D} {d : D} {a : α} (h : dec d = some a) : m1 dec f [d] = f a := by
  unfold m1; dsimp only; rw [h]
theorem m2_ok {α β : Type} {dec : D → Option α} {dec2 : D → Option β} {f : α → β → R D} {d e : D} {a : α} {b : β} (h : dec d = some a) (h2 : dec2 e = some b) : m2 dec dec2 f [d, e] = f a b := by
  unfold m2; dsimp only; rw [h, h2]
theorem k_of {Φ : Nat → FnS} {f : Nat} {F : FnS} {ds : List D} {r : D} (h : Φ f = F) (hp : F.pure = true) (hm : F.m ds = .ok r) : gd (Φ f).pure ((Φ f).m ds) = .ok r := by rw [h, gd_pos hp, hm]
/-! ### cards and points -/
def decW (d : D) : Option Int := match d with
  | .tuple (.int r :: _) => some r
  | _ => none
theorem decW_eq {d : D} {i : Int} (h : decW d = some i) : ∃ ds, d = .tuple (.int i :: ds) := by
  unfold decW at h
  split at h
  · cases h; exact ⟨_, rfl⟩
  · cases h
def F_is_wild : FnS := ⟨1, m1 decW fun r => .ok (.bool (r == 0)), true⟩
theorem run_is_wild {Φ : Nat → FnS} {n : Nat} (ds : List D) (r : D) (h : F_is_wild.m ds = .ok r) : runF Φ n c_is_wild n_is_wild.length ds = .ok r := by
  obtain ⟨d, c, rfl, hd, h⟩ := m1_inv h
  obtain ⟨z, rfl⟩ := decW_eq hd
  cases h
  have i0 : ixD (.tuple (.int c :: z)) (.int 0) = .ok (.int c) := by simp [ixD, atI, ixN]
  have e : startS n_is_wild.length [.tuple (.int c :: z)] = [.imm (.tuple (.int c :: z))] := rfl
  rw [runF, e, c_is_wild]
  simp [rdS, i0]
def cpt (c : Card) : Int := if c.1 = 0 then 15 else if 10 < c.1 then 10 else c.1
def F_card_points : FnS := ⟨1, m1 decC fun c => .ok (.int (cpt c)), true⟩
theorem k_is_wild {Φ : Nat → FnS} (h : Φ 0 = F_is_wild) (c : Card) : gd (Φ 0).pure ((Φ 0).m [encC c]) = .ok (.bool (c.1 == 0)) := by rw [h]; rfl
theorem run_card_points {Φ : Nat → FnS} {n : Nat} (h0 : Φ 0 = F_is_wild) (ds : List D) (r : D) (h : F_card_points.m ds = .ok r) : runF Φ n c_card_points n_card_points.length ds = .ok r := by
  obtain ⟨d, c, rfl, hd, h⟩ := m1_inv h
  cases decC_eq hd
  cases h
  have e : startS n_card_points.length [encC c] = [.imm (encC c)] := rfl
  have e2 : rdS [.imm (encC c)] 0 = .ok (encC c) := rfl
  have e3 : ixD (encC c) (.int 0) = .ok (.int c.1) := rfl
  unfold cpt
  by_cases hz : c.1 = 0
  · simp [runF, c_card_points, e, e2, k_is_wild h0, hz]
  · simp [runF, c_card_points, e, e2, e3, k_is_wild h0, hz]
theorem k_card_points {Φ : Nat → FnS} (h : Φ 1 = F_card_points) (c : Card) : gd (Φ 1).pure ((Φ 1).m [encC c]) = .ok (.int (cpt c)) := by rw [h]; rfl
def pts (cs : List Card) : Int := (cs.map cpt).sum
def F_points : FnS := ⟨1, m1 (decT decC) fun cs => .ok (.int (pts cs)), true⟩
theorem run_points {Φ : Nat → FnS} {n : Nat} (h1 : Φ 1 = F_card_points) (ds : List D) (r : D) (h : F_points.m ds = .ok r) : runF Φ n c_points n_points.length ds = .ok r := by
  obtain ⟨d, cs, rfl, hd, hf⟩ := m1_inv h
  clear h
  have hx := decT_eq hd
  subst hx
  cases hf
  have e : startS n_points.length [encT cs] = [.imm (encT cs), .dead] := rfl
  have e2 : seqD (encT cs) = .ok (cs.map encC) := rfl
  simp only [runF, c_points, e, q_seq, q_ret, q_bi, q_rcons, q_lc, q_seqit, q_var]
  simp only [rdS, List.getElem?_cons_zero, q_bd, e2]
  rw [lcGo_map encC (PyData.int ∘ cpt) cs fun c _ => by simp [bindT, wipeS, rdS, strict, k_card_points h1]]
  simp [pts]
theorem k_points {Φ : Nat → FnS} (h : Φ 2 = F_points) (cs : List Card) : gd (Φ 2).pure ((Φ 2).m [encT cs]) = .ok (.int (pts cs)) := by
  exact k_of h rfl (m1_ok (decT_enc cs))
def F_law_points : FnS := ⟨1, m1 (decT decC) fun cs => .ok (.int (pts cs)), true⟩
theorem run_law_points {Φ : Nat → FnS} {n : Nat} (ds : List D) (r : D) (h : F_law_points.m ds = .ok r) : runF Φ n c_law_points n_law_points.length ds = .ok r := by
  obtain ⟨d, cs, rfl, hd, hf⟩ := m1_inv h
  clear h
  have hx := decT_eq hd
  subst hx
  cases hf
  have e : startS n_law_points.length [encT cs] = [.imm (encT cs), .dead, .dead] := rfl
  have e2 : seqD (encT cs) = .ok (cs.map encC) := rfl
  simp only [runF, c_law_points, e, q_seq, q_ret, q_bi, q_rcons, q_lc, q_seqit, q_var]
  simp only [rdS, List.getElem?_cons_zero, q_bd, e2]
  rw [lcGo_map encC (PyData.int ∘ cpt) cs fun c _ => by
    by_cases hz : c.1 = 0
    · have z : (c.1 == 0) = true := by rw [hz]; rfl
      simp [bindT, wipeS, rdS, strict, encC, setAll, gd, cpt, hz, z, ixD, atI, ixN]
    · have z : (c.1 == 0) = false := by simpa using hz
      simp [bindT, wipeS, rdS, strict, encC, setAll, gd, cpt, hz, z, ixD, atI, ixN]]
  simp [pts]
theorem k_law_points {Φ : Nat → FnS} (h : Φ 7 = F_law_points) (cs : List Card) : gd (Φ 7).pure ((Φ 7).m [encT cs]) = .ok (.int (pts cs)) := by
  exact k_of h rfl (m1_ok (decT_enc cs))
/-! ### draws -/
def decS (d : D) : Option (List Int) := match d with
  | .list ds => decL decI ds
  | _ => none
def encS (ns : List Int) : D := .list (ns.map .int)
theorem decS_eq {d : D} {ns : List Int} (h : decS d = some ns) : d = encS ns := by
  unfold decS at h
  split at h
  · rw [decL_eq (fun d a => decI_eq) h]; rfl
  · cases h
@[simp] theorem decS_enc (ns : List Int) : decS (encS ns) = some ns := decL_enc decI_int ns
def cell (ns : List Int) (k : Int) : Int := ns.getD k.toNat 0
def nn (b : Bool) (x : R D) : R D := gd b x
def F_law_cell_at : FnS := ⟨2, m2 decS decI fun ns k => gd (decide (0 ≤ k)) (.ok (.int (cell ns k))), true⟩
theorem atI_pos {α : Type} (xs : List α) (k : Int) (h : 0 ≤ k) : atI xs k = xs[k.toNat]? := by
  unfold atI ixN
  rw [if_pos h]
  by_cases q : k < xs.length
  · rw [if_pos q]; rfl
  · rw [if_neg q, List.getElem?_eq_none (by omega)]; rfl
theorem run_law_cell_at {Φ : Nat → FnS} {n : Nat} (ds : List D) (r : D) (h : F_law_cell_at.m ds = .ok r) : runF Φ n c_law_cell_at n_law_cell_at.length ds = .ok r := by
  obtain ⟨d, e, ns, k, rfl, hd, he, hf⟩ := m2_inv h
  clear h
  have hx := decS_eq hd
  have hy := decI_eq he
  subst hx hy
  obtain ⟨g, hg⟩ := gd_inv hf
  cases hg
  have g := of_decide_eq_true g
  have e : startS n_law_cell_at.length [encS ns, .int k] = [.imm (encS ns), .imm (.int k)] := rfl
  have e2 : biD .len [encS ns] = .ok (.int ns.length) := by
    show Except.ok _ = _
    rw [List.length_map]
  have e3 : ixD (encS ns) (.int k) = match ns[k.toNat]? with | some i => .ok (.int i) | none => stk := by
    show (match atI (ns.map PyData.int) k with | some d => Except.ok d | none => stk) = _
    rw [atI_pos _ _ g, List.getElem?_map]
    cases ns[k.toNat]? <;> rfl
  by_cases q : k < ns.length
  · have hq : k.toNat < ns.length := by omega
    have e4 : ns[k.toNat]? = some (cell ns k) := by
      rw [cell, List.getD_eq_getElem?_getD, List.getElem?_eq_getElem hq]; rfl
    rw [e4] at e3
    simp [runF, c_law_cell_at, e, rdS, e2, q, e3]
  · have e4 : cell ns k = 0 := by
      rw [cell, List.getD_eq_getElem?_getD, List.getElem?_eq_none (by omega)]; rfl
    simp [runF, c_law_cell_at, e, rdS, e2, q, e4]
theorem k_cell_at {Φ : Nat → FnS} (h : Φ 3 = F_law_cell_at) (ns : List Int) (k : Int) (hk : 0 ≤ k) : gd (Φ 3).pure ((Φ 3).m [encS ns, .int k]) = .ok (.int (cell ns k)) := by
  exact k_of h rfl ((m2_ok (decS_enc ns) (decI_int k)).trans (gd_pos (decide_eq_true hk)))
def mixed (ns : List Int) (k : Int) : Int :=
  let d := (cell ns k + 7919 * k + 1) * 48271 % 2147483647
  (d * d + 7 * d + k) % 2147483629
def F_law_mixed : FnS := ⟨2, m2 decS decI fun ns k => gd (decide (0 ≤ k)) (.ok (.int (mixed ns k))), true⟩
theorem sm1 (x : Int) : -18446744073709551616 < x % 2147483647 := by
  have h1 := Int.emod_nonneg x (b := 2147483647) (by decide)
  omega
theorem sm2 (x : Int) : x % 2147483647 < 18446744073709551616 := by
  have h2 := Int.emod_lt_of_pos x (b := 2147483647) (by decide)
  omega
theorem run_law_mixed {Φ : Nat → FnS} {n : Nat} (h3 : Φ 3 = F_law_cell_at) (ds : List D) (r : D) (h : F_law_mixed.m ds = .ok r) : runF Φ n c_law_mixed n_law_mixed.length ds = .ok r := by
  obtain ⟨d, e, ns, k, rfl, hd, he, hf⟩ := m2_inv h
  clear h
  have hx := decS_eq hd
  have hy := decI_eq he
  subst hx hy
  obtain ⟨g, hg⟩ := gd_inv hf
  cases hg
  have g := of_decide_eq_true g
  have e : startS n_law_mixed.length [encS ns, .int k] = [.imm (encS ns), .imm (.int k), .dead] := rfl
  simp [runF, c_law_mixed, e, rdS, k_cell_at h3 ns k g, q_mulL, q_mulR, q_mod, sm1, sm2, mixed]
theorem k_mixed {Φ : Nat → FnS} (h : Φ 4 = F_law_mixed) (ns : List Int) (k : Int) (hk : 0 ≤ k) : gd (Φ 4).pure ((Φ 4).m [encS ns, .int k]) = .ok (.int (mixed ns k)) := by
  exact k_of h rfl ((m2_ok (decS_enc ns) (decI_int k)).trans (gd_pos (decide_eq_true hk)))
def drawn (x k : Int) : Int :=
  let d := (x + 104729 * k + 17) * 69621 % 2147483647
  (d * d + 3 * d + k) % 2147483629
def F_law_drawn : FnS := ⟨2, m2 decI decI fun x k => .ok (.int (drawn x k)), true⟩
theorem run_law_drawn {Φ : Nat → FnS} {n : Nat} (ds : List D) (r : D) (h : F_law_drawn.m ds = .ok r) : runF Φ n c_law_drawn n_law_drawn.length ds = .ok r := by
  obtain ⟨d, e, x, k, rfl, hd, he, h⟩ := m2_inv h
  cases decI_eq hd
  cases decI_eq he
  cases h
  have e : startS n_law_drawn.length [.int x, .int k] = [.imm (.int x), .imm (.int k), .dead] := rfl
  simp [runF, c_law_drawn, e, rdS, q_mulL, q_mulR, q_mod, sm1, sm2, drawn]
theorem k_drawn {Φ : Nat → FnS} (h : Φ 5 = F_law_drawn) (x k : Int) : gd (Φ 5).pure ((Φ 5).m [.int x, .int k]) = .ok (.int (drawn x k)) := by rw [h]; rfl
/-! ### cards dealt -/
theorem eqv_enc (a b : Card) : PyData.eqv (encC a) (encC b) = decide (a = b) := by
  obtain ⟨a1, a2⟩ := a
  obtain ⟨b1, b2⟩ := b
  show (a1 == b1 && (a2 == b2 && true)) = _
  by_cases h1 : a1 = b1
  · by_cases h2 : a2 = b2
    · subst h1 h2; simp
    · have : (a2 == b2) = false := by simpa using h2
      rw [this, Bool.false_and, Bool.and_false]
      exact (decide_eq_false (fun e => h2 (Prod.mk.inj e).2)).symm
  · have : (a1 == b1) = false := by simpa using h1
    rw [this, Bool.false_and]
    exact (decide_eq_false (fun e => h1 (Prod.mk.inj e).1)).symm
theorem any_enc (c : Card) (cs : List Card) : ((cs.map encC).any fun z => PyData.eqv z (encC c)) = decide (c ∈ cs) := by
  induction cs with
  | nil => rfl
  | cons a r ih =>
    rw [List.map_cons, List.any_cons, ih, eqv_enc]
    by_cases h : a = c
    · subst h; simp
    · rw [decide_eq_false h, Bool.false_or]
      by_cases h2 : c ∈ r
      · rw [decide_eq_true h2, decide_eq_true (List.mem_cons_of_mem _ h2)]
      · rw [decide_eq_false h2, decide_eq_false]
        intro m
        rcases List.mem_cons.mp m with z | z
        · exact h z.symm
        · exact h2 z
theorem depth_enc (c : Card) : (encC c).depth = 1 := rfl
@[simp] theorem q_inL (c : Card) (cs : List Card) : cmpD .In (encC c) (.list (cs.map encC)) = .ok (.bool (decide (c ∈ cs))) := by
  show gd _ (.ok (PyData.bool _)) = _
  rw [any_enc]; rfl
@[simp] theorem q_ninL (c : Card) (cs : List Card) : cmpD .NotIn (encC c) (.list (cs.map encC)) = .ok (.bool (!decide (c ∈ cs))) := by
  show gd _ (.ok (PyData.bool _)) = _
  rw [any_enc]; rfl
@[simp] theorem q_inT (c : Card) (cs : List Card) : cmpD .In (encC c) (encT cs) = .ok (.bool (decide (c ∈ cs))) := by
  show gd _ (.ok (PyData.bool _)) = _
  rw [any_enc]; rfl
@[simp] theorem q_ninT (c : Card) (cs : List Card) : cmpD .NotIn (encC c) (encT cs) = .ok (.bool (!decide (c ∈ cs))) := by
  show gd _ (.ok (PyData.bool _)) = _
  rw [any_enc]; rfl
def tab5 (i : Int) : Int := if i = 0 then 11 else if i = 1 then 12 else if i = 2 then 13 else if i = 3 then 1 else 2
def tab3 (i : Int) : Int := if i = 0 then 9 else if i = 1 then 14 else 30
theorem ix_tab5 (x : Int) : ixD (.tuple [.int 11, .int 12, .int 13, .int 1, .int 2]) (.int (x % 5)) = .ok (.int (tab5 (x % 5))) := by
  have h1 := Int.emod_nonneg x (b := 5) (by decide)
  have h2 := Int.emod_lt_of_pos x (b := 5) (by decide)
  have : x % 5 = 0 ∨ x % 5 = 1 ∨ x % 5 = 2 ∨ x % 5 = 3 ∨ x % 5 = 4 := by omega
  rcases this with e | e | e | e | e <;> rw [e] <;> rfl
theorem ix_tab3 (x : Int) : ixD (.tuple [.int 9, .int 14, .int 30]) (.int (x % 3)) = .ok (.int (tab3 (x % 3))) := by
  have h1 := Int.emod_nonneg x (b := 3) (by decide)
  have h2 := Int.emod_lt_of_pos x (b := 3) (by decide)
  have : x % 3 = 0 ∨ x % 3 = 1 ∨ x % 3 = 2 := by omega
  rcases this with e | e | e <;> rw [e] <;> rfl
theorem tab3_pos (x : Int) : 0 < tab3 x := by
  unfold tab3
  split
  · decide
  · split <;> decide
/-- the card of a draw -/
def near (x d : Int) : Card := if x % 4 = 1 then (3 + d % 4, d / 16 % 4) else if x % 4 = 2 then (1 + d % 13, d / 16 % 2) else if x % 4 = 3 then (tab5 (d % 5), d / 16 % 3) else (1 + d % 13, d / 16 % 4)
def cardAt (x k : Int) : Card :=
  let d := drawn x k / 4
  if 60 < k + 1 then (1 + (k + 1) % 13, (k + 1) / 13 % 4) else if d / 64 % tab3 (x / 4 % 3) = 0 then (0, d / 4096 % 2) else near x d
def dealGo (x : Int) (many : Int) : Nat → Int → List Card → List Card
  | 0, _, cs => cs
  | n + 1, k, cs => if (cs.length : Int) < many then dealGo x many n (k + 1) (if cardAt x k ∈ cs then cs else cs ++ [cardAt x k]) else cs
def deal_b : S := match c_law_deal with
  | .seq _ (.seq _ (.seq _ (.seq (.whl _ b) _))) => b
  | _ => .skip
theorem deal_eq : c_law_deal = .seq (.asg [2] true (.lst .nil)) (.seq (.asg [3] true (.bin .Mod (.var 0) (.cI 4))) (.seq (.asg [4] true (.cI 0)) (.seq (.whl (.cmp .Lt (.bi .len (.cons (.var 2) .nil)) (.var 1)) deal_b) (.seq (.ret (.bi .tuple (.cons (.var 2) .nil))) .skip)))) := rfl
theorem ite_asg {Φ : Nat → FnS} {n : Nat} {σ : Sg} {c e : C} {i : Nat} {b : Bool} {v w : D} (hc : ev Φ c σ = .ok (.bool b)) (he : ev Φ e σ = .ok v) (hn : ∀ ds, v ≠ .list ds) (hi : σ[i]? = some (.imm w)) :
    evS Φ n (.ite c (.seq (.asg [i] true e) .skip) .skip) σ = .ok (.nx (σ.set i (.imm (if b = true then v else w)))) := by
  rw [q_ite, hc, q_bd, q_asB, q_bd]
  cases b with
  | true => rw [if_pos rfl, q_seq, q_asg, he, q_bd, q_as _ _ _ _ hn, q_bd, q_bd, q_then, q_skip]; rfl
  | false =>
    rw [if_neg Bool.false_ne_true, q_skip, if_neg Bool.false_ne_true]
    congr 2
    refine (List.ext_getElem? fun j => ?_)
    by_cases h : i = j
    · subst h
      rw [List.getElem?_set_self (List.getElem?_eq_some_iff.mp hi).1]; exact hi
    · rw [List.getElem?_set_ne h]
theorem encC_if (b : Bool) (c d : Card) : (if b = true then encC c else encC d) = encC (if b = true then c else d) := by cases b <;> rfl
theorem seq_nx {Φ : Nat → FnS} {n : Nat} {σ τ : Sg} {a b : S} (h : evS Φ n a σ = .ok (.nx τ)) : evS Φ n (.seq a b) σ = evS Φ n b τ := by rw [q_seq, h]; rfl
theorem asg_imm {Φ : Nat → FnS} {n : Nat} {σ : Sg} {e : C} {i : Nat} {v : D} (he : ev Φ e σ = .ok v) (hn : ∀ ds, v ≠ .list ds) : evS Φ n (.asg [i] true e) σ = .ok (.nx (σ.set i (.imm v))) := by
  rw [q_asg, he, q_bd, q_as _ _ _ _ hn]; rfl
theorem encC_nl (c : Card) : ∀ ds, encC c ≠ .list ds := fun _ h => nomatch h
theorem int_nl (i : Int) : ∀ ds, PyData.int i ≠ .list ds := fun _ h => nomatch h
theorem deal_step {Φ : Nat → FnS} {n : Nat} (h5 : Φ 5 = F_law_drawn) (x many k : Int) (cs : List Card) (s5 s6 : Sl) (hl : cs.length < 16777216) :
    evS Φ n deal_b [.imm (.int x), .imm (.int many), .own (cs.map encC), .imm (.int (x % 4)), .imm (.int k), s5, s6] =
      .ok (.nx [.imm (.int x), .imm (.int many), .own ((if cardAt x k ∈ cs then cs else cs ++ [cardAt x k]).map encC), .imm (.int (x % 4)), .imm (.int (k + 1)), .imm (.int (drawn x k / 4)), .imm (encC (cardAt x k))]) := by
  have hd := k_drawn h5 x k
  generalize hD : drawn x k / 4 = d
  simp only [deal_b, c_law_deal, b1_law_deal]
  rw [seq_nx (asg_imm (v := .int d) (by simp [rdS, hd, q_div, hD]) (int_nl _))]
  simp only [List.set]
  rw [seq_nx (asg_imm (v := encC (1 + d % 13, d / 16 % 4)) (by simp [rdS, strict, q_div, q_mod, encC]) (encC_nl _))]
  simp only [List.set]
  rw [seq_nx (ite_asg (b := x % 4 == 1) (v := encC (3 + d % 4, d / 16 % 4)) (w := encC (1 + d % 13, d / 16 % 4)) (by simp [rdS]) (by simp [rdS, strict, q_div, q_mod, encC]) (encC_nl _) rfl)]
  simp only [List.set, encC_if]
  rw [seq_nx (ite_asg (b := x % 4 == 2) (v := encC (1 + d % 13, d / 16 % 2)) (by simp [rdS]) (by simp [rdS, strict, q_div, q_mod, encC]) (encC_nl _) rfl)]
  simp only [List.set, encC_if]
  rw [seq_nx (ite_asg (b := x % 4 == 3) (v := encC (tab5 (d % 5), d / 16 % 3)) (by simp [rdS]) (by simp [rdS, strict, q_div, q_mod, encC, ix_tab5]) (encC_nl _) rfl)]
  simp only [List.set, encC_if]
  rw [seq_nx (ite_asg (b := d / 64 % tab3 (x / 4 % 3) == 0) (v := encC (0, d / 4096 % 2)) (by simp [rdS, strict, q_div, q_mod, ix_tab3, tab3_pos]) (by simp [rdS, strict, q_div, q_mod, encC]) (encC_nl _) rfl)]
  simp only [List.set, encC_if]
  rw [seq_nx (asg_imm (v := .int (k + 1)) (by simp [rdS]) (int_nl _))]
  simp only [List.set]
  rw [seq_nx (ite_asg (b := decide (60 < k + 1)) (v := encC (1 + (k + 1) % 13, (k + 1) / 13 % 4)) (by simp [rdS]) (by simp [rdS, strict, q_div, q_mod, encC]) (encC_nl _) rfl)]
  simp only [List.set, encC_if]
  have hc : (if decide (60 < k + 1) = true then (1 + (k + 1) % 13, (k + 1) / 13 % 4) else if (d / 64 % tab3 (x / 4 % 3) == 0) = true then (0, d / 4096 % 2) else if (x % 4 == 3) = true then (tab5 (d % 5), d / 16 % 3) else if (x % 4 == 2) = true then (1 + d % 13, d / 16 % 2) else if (x % 4 == 1) = true then (3 + d % 4, d / 16 % 4) else (1 + d % 13, d / 16 % 4)) = cardAt x k := by
    unfold cardAt near
    simp only [hD, beq_iff_eq, decide_eq_true_eq]
    by_cases h1 : x % 4 = 1
    · simp [h1]
    · by_cases h2 : x % 4 = 2
      · simp [h2]
      · by_cases h3 : x % 4 = 3
        · simp [h3]
        · simp [h1, h2, h3]
  rw [hc]
  by_cases hm : cardAt x k ∈ cs
  · simp [rdS, hm]
  · simp [rdS, rdI, ownAt, hm, hl, gd]
theorem len_subset : ∀ (l m : List Card), l.Nodup → (∀ a ∈ l, a ∈ m) → l.length ≤ m.length
  | [], _, _, _ => Nat.zero_le _
  | a :: l, m, hn, hs => by
    have ha : a ∈ m := hs a (List.mem_cons_self ..)
    have hn' := List.nodup_cons.mp hn
    have ih := len_subset l (m.erase a) hn'.2 fun b hb => by
      have nb : b ≠ a := fun e => hn'.1 (e ▸ hb)
      exact (List.mem_erase_of_ne nb).mpr (hs b (List.mem_cons_of_mem _ hb))
    have hl := List.length_erase_of_mem ha
    have : 0 < m.length := List.length_pos_of_mem ha
    rw [List.length_cons]
    omega
def late (j : Nat) : Card := (1 + ((j : Int) + 1) % 13, ((j : Int) + 1) / 13 % 4)
def all52 : List Card := (List.range 52).map fun i => late (60 + i)
theorem all52_nd : all52.Nodup := by decide
theorem cardAt_late (x : Int) (j : Nat) (h : 60 ≤ j) : cardAt x (j : Int) = late j := by
  unfold cardAt late
  dsimp only
  rw [if_pos (by omega)]
structure DealInv (k : Nat) (cs : List Card) : Prop where
  nd : cs.Nodup
  lt : ∀ j : Nat, 60 ≤ j → j < k → late j ∈ cs
  le : cs.length ≤ k
theorem DealInv.start : DealInv 0 [] := ⟨List.nodup_nil, fun j _ h => absurd h (Nat.not_lt_zero _), Nat.le_refl _⟩
theorem DealInv.next {x : Int} {k : Nat} {cs : List Card} (h : DealInv k cs) : DealInv (k + 1) (if cardAt x k ∈ cs then cs else cs ++ [cardAt x k]) := by
  by_cases m : cardAt x k ∈ cs
  · rw [if_pos m]
    refine ⟨h.nd, fun j h1 h2 => ?_, Nat.le_succ_of_le h.le⟩
    by_cases e : j = k
    · subst e; rw [← cardAt_late x j h1]; exact m
    · exact h.lt j h1 (by omega)
  · rw [if_neg m]
    refine ⟨?_, fun j h1 h2 => ?_, by rw [List.length_append, List.length_singleton]; have := h.le; omega⟩
    · refine List.nodup_append.mpr ⟨h.nd, List.nodup_cons.mpr ⟨List.not_mem_nil, List.nodup_nil⟩, fun a ha b hb e => ?_⟩
      rw [List.mem_singleton] at hb
      rw [← hb, ← e] at m
      exact m ha
    · by_cases e : j = k
      · subst e; rw [← cardAt_late x j h1]; exact List.mem_append_right _ (List.mem_cons_self ..)
      · exact List.mem_append_left _ (h.lt j h1 (by omega))
theorem DealInv.full {k : Nat} {cs : List Card} (h : DealInv k cs) (hk : 112 ≤ k) : 52 ≤ cs.length := by
  have z := len_subset all52 cs all52_nd fun a ha => by
    obtain ⟨i, hi, rfl⟩ := List.mem_map.mp ha
    exact h.lt _ (Nat.le_add_right _ _) (by have := List.mem_range.mp hi; omega)
  exact z
theorem deal_loop {Φ : Nat → FnS} {n : Nat} (h5 : Φ 5 = F_law_drawn) (x many : Int) (hm : many ≤ 52) : ∀ (f k : Nat) (cs : List Card) (s5 s6 : Sl), DealInv k cs → k ≤ 112 → 130 ≤ f + k →
    ∃ s4 t5 t6, whGo (fun σ => bd (ev Φ (.cmp .Lt (.bi .len (.cons (.var 2) .nil)) (.var 1)) σ) asB) (evS Φ n deal_b) f [.imm (.int x), .imm (.int many), .own (cs.map encC), .imm (.int (x % 4)), .imm (.int k), s5, s6] =
      .ok (.nx [.imm (.int x), .imm (.int many), .own ((dealGo x many f k cs).map encC), .imm (.int (x % 4)), s4, t5, t6])
  | 0, k, cs, s5, s6, _, h1, h2 => by omega
  | f + 1, k, cs, s5, s6, inv, h1, h2 => by
    have hl := inv.le
    have hcond : ev Φ (.cmp .Lt (.bi .len (.cons (.var 2) .nil)) (.var 1)) [.imm (.int x), .imm (.int many), .own (cs.map encC), .imm (.int (x % 4)), .imm (.int k), s5, s6] = .ok (.bool (decide ((cs.length : Int) < many))) := by
      simp [rdS]
    rw [whGo, hcond, q_bd, q_asB, q_bd, dealGo]
    by_cases hc : (cs.length : Int) < many
    · rw [decide_eq_true hc, if_pos rfl, if_pos hc, deal_step h5 x many k cs s5 s6 (by omega), q_bd]
      have hk : k < 112 := by
        by_cases e : 112 ≤ k
        · have := inv.full e; omega
        · omega
      obtain ⟨s4, t5, t6, e⟩ := deal_loop h5 x many hm f (k + 1) _ (.imm (.int (drawn x k / 4))) (.imm (encC (cardAt x k))) (inv.next (x := x)) (by omega) (by omega)
      exact ⟨s4, t5, t6, e⟩
    · rw [decide_eq_false hc, if_neg Bool.false_ne_true, if_neg hc]
      exact ⟨_, _, _, rfl⟩
def deal (x many : Int) : List Card := dealGo x many 200 0 []
def F_law_deal : FnS := ⟨2, m2 decI decI fun x m => gd (decide (m ≤ 52)) (.ok (encT (deal x m))), true⟩
theorem run_law_deal {Φ : Nat → FnS} (h5 : Φ 5 = F_law_drawn) (ds : List D) (r : D) (h : F_law_deal.m ds = .ok r) : runF Φ 200 c_law_deal n_law_deal.length ds = .ok r := by
  obtain ⟨d, e, x, m, rfl, hd, he, hf⟩ := m2_inv h
  clear h
  have hx := decI_eq hd
  have hy := decI_eq he
  subst hx hy
  obtain ⟨g, hg⟩ := gd_inv hf
  cases hg
  have g := of_decide_eq_true g
  have e : startS n_law_deal.length [.int x, .int m] = [.imm (.int x), .imm (.int m), .dead, .dead, .dead, .dead, .dead] := rfl
  obtain ⟨s4, t5, t6, hw⟩ := deal_loop (n := 200) h5 x m g 200 0 [] .dead .dead .start (by omega) (by omega)
  rw [runF, e, deal_eq]
  rw [seq_nx (τ := [.imm (.int x), .imm (.int m), .own [], .dead, .dead, .dead, .dead]) rfl]
  rw [seq_nx (asg_imm (v := .int (x % 4)) (by simp [rdS, q_mod]) (int_nl _))]
  simp only [List.set]
  rw [seq_nx (asg_imm (v := .int 0) rfl (int_nl _))]
  simp only [List.set]
  rw [seq_nx (by rw [q_whl]; exact hw)]
  simp [rdS, deal, encT]
theorem k_deal {Φ : Nat → FnS} (h : Φ 6 = F_law_deal) (x m : Int) (hm : m ≤ 52) : gd (Φ 6).pure ((Φ 6).m [.int x, .int m]) = .ok (encT (deal x m)) := by
  refine k_of h rfl ?_
  unfold F_law_deal
  dsimp only
  rw [m2_ok (decI_int x) (decI_int m), gd_pos (decide_eq_true hm)]
/-! ### parts of cards -/
theorem rev_encT (cs : List Card) : revD (encT cs) = .ok (encT cs.reverse) := by
  show Except.ok (PyData.tuple (cs.map encC).reverse) = _
  rw [← List.map_reverse]; rfl
theorem sIx_pos (n d : Nat) (k : Int) (h : 0 ≤ k) : HT.sIx n d (some k) = min k.toNat n := by
  have := HT.sIx_nat n d k.toNat
  rwa [Int.toNat_of_nonneg h] at this
theorem cut_to {ds : List D} {k : Int} (h : 0 ≤ k) : cutD ds none (some k) = ds.take k.toNat := by
  unfold cutD
  rw [HT.sIx_none, sIx_pos _ _ _ h, List.drop_zero, Nat.sub_zero]
  by_cases q : k.toNat ≤ ds.length
  · rw [Nat.min_eq_left q]
  · rw [Nat.min_eq_right (by omega), List.take_of_length_le (Nat.le_refl _), List.take_of_length_le (by omega)]
theorem cut_from {ds : List D} {k : Int} (h : 0 ≤ k) : cutD ds (some k) none = ds.drop k.toNat := by
  unfold cutD
  rw [HT.sIx_none, sIx_pos _ _ _ h]
  by_cases q : k.toNat ≤ ds.length
  · rw [Nat.min_eq_left q, List.take_of_length_le (by rw [List.length_drop]; omega)]
  · rw [Nat.min_eq_right (by omega), List.drop_of_length_le (Nat.le_refl _), List.drop_of_length_le (by omega)]; simp
theorem sl_to (cs : List Card) {k : Int} (h : 0 ≤ k) : slD (encT cs) none (some k) = .ok (encT (cs.take k.toNat)) := by
  show Except.ok (PyData.tuple (cutD (cs.map encC) none (some k))) = _
  rw [cut_to h, ← List.map_take]; rfl
theorem sl_from (cs : List Card) {k : Int} (h : 0 ≤ k) : slD (encT cs) (some k) none = .ok (encT (cs.drop k.toNat)) := by
  show Except.ok (PyData.tuple (cutD (cs.map encC) (some k) none)) = _
  rw [cut_from h, ← List.map_drop]; rfl
theorem pts_nil : pts [] = 0 := rfl
theorem pts_cons (c : Card) (cs : List Card) : pts (c :: cs) = cpt c + pts cs := by unfold pts; rw [List.map_cons, List.sum_cons]
theorem pts_append (a b : List Card) : pts (a ++ b) = pts a + pts b := by
  induction a with
  | nil => rw [List.nil_append, pts_nil, Int.zero_add]
  | cons c r ih => rw [List.cons_append, pts_cons, pts_cons, ih]; omega
theorem pts_reverse (a : List Card) : pts a.reverse = pts a := by
  induction a with
  | nil => rfl
  | cons c r ih => rw [List.reverse_cons, pts_append, ih, pts_cons, pts_cons, pts_nil]; omega
theorem pts_ones (cs : List Card) : (cs.map fun c => pts [c]).sum = pts cs := by
  induction cs with
  | nil => rfl
  | cons c r ih => rw [List.map_cons, List.sum_cons, ih, pts_cons, pts_cons, pts_nil]; omega
theorem pts_parts (cs : List Card) (k : Nat) : pts (cs.take k) + pts (cs.drop k) = pts cs := by rw [← pts_append, List.take_append_drop]
theorem forGo_all {f : D → Sg → R Fl} {σ : Sg} {P : Sg → Prop} : ∀ (ds : List D) (σ : Sg), P σ → (∀ d ∈ ds, ∀ τ, P τ → ∃ ρ, P ρ ∧ f d τ = .ok (.nx ρ)) → ∃ ρ, P ρ ∧ forGo f ds σ = .ok (.nx ρ)
  | [], σ, h, _ => ⟨σ, h, rfl⟩
  | d :: ds, σ, h, g => by
    obtain ⟨ρ, h1, e1⟩ := g d (List.mem_cons_self ..) σ h
    obtain ⟨ρ2, h2, e2⟩ := forGo_all (σ := σ) ds ρ h1 fun d' m => g d' (List.mem_cons_of_mem _ m)
    refine ⟨ρ2, h2, ?_⟩
    rw [forGo, e1]
    exact e2
theorem mem_rngD {a b : Int} {d : D} (h : d ∈ rngD a b) : ∃ i : Int, d = .int i ∧ a ≤ i ∧ i < b := by
  unfold rngD at h
  obtain ⟨i, hi, rfl⟩ := List.mem_map.mp h
  have := List.mem_range.mp hi
  exact ⟨a + i, rfl, by omega, by omega⟩
/-! ### what a call needs -/
theorem ln_m1 {α : Type} {dec : D → Option α} {f : α → R D} {ds : List D} {r : D} (h : m1 dec f ds = .ok r) : ds.length = 1 := by
  obtain ⟨d, a, rfl, _, _⟩ := m1_inv h; rfl
theorem ln_m2 {α β : Type} {dec : D → Option α} {dec2 : D → Option β} {f : α → β → R D} {ds : List D} {r : D} (h : m2 dec dec2 f ds = .ok r) : ds.length = 2 := by
  obtain ⟨d, e, a, b, rfl, _, _, _⟩ := m2_inv h; rfl
theorem fl_m1 {α : Type} {dec : D → Option α} {f : α → R D} (hf : ∀ a r, f a = .ok r → flatTop r = true) {ds : List D} {r : D} (h : m1 dec f ds = .ok r) : flatTop r = true := by
  obtain ⟨d, a, rfl, _, h⟩ := m1_inv h; exact hf _ _ h
theorem fl_m2 {α β : Type} {dec : D → Option α} {dec2 : D → Option β} {f : α → β → R D} (hf : ∀ a b r, f a b = .ok r → flatTop r = true) {ds : List D} {r : D} (h : m2 dec dec2 f ds = .ok r) : flatTop r = true := by
  obtain ⟨d, e, a, b, rfl, _, _, h⟩ := m2_inv h; exact hf _ _ _ h
theorem flt_gd {b : Bool} {x r : D} (hx : flatTop x = true) (h : gd b (.ok x) = .ok r) : flatTop r = true := by
  obtain ⟨_, h⟩ := gd_inv h; cases h; exact hx
theorem flt_ok {x r : D} (hx : flatTop x = true) (h : (Except.ok x : R D) = .ok r) : flatTop r = true := by cases h; exact hx
theorem ln_is_wild (ds : List D) (r : D) (h : F_is_wild.m ds = .ok r) : ds.length = F_is_wild.ar := ln_m1 h
theorem fl_is_wild (_ : F_is_wild.pure = true) (ds : List D) (r : D) (h : F_is_wild.m ds = .ok r) : flatTop r = true := fl_m1 (fun _ _ z => flt_ok rfl z) h
theorem ln_card_points (ds : List D) (r : D) (h : F_card_points.m ds = .ok r) : ds.length = F_card_points.ar := ln_m1 h
theorem fl_card_points (_ : F_card_points.pure = true) (ds : List D) (r : D) (h : F_card_points.m ds = .ok r) : flatTop r = true := fl_m1 (fun _ _ z => flt_ok rfl z) h
theorem ln_points (ds : List D) (r : D) (h : F_points.m ds = .ok r) : ds.length = F_points.ar := ln_m1 h
theorem fl_points (_ : F_points.pure = true) (ds : List D) (r : D) (h : F_points.m ds = .ok r) : flatTop r = true := fl_m1 (fun _ _ z => flt_ok rfl z) h
theorem ln_law_points (ds : List D) (r : D) (h : F_law_points.m ds = .ok r) : ds.length = F_law_points.ar := ln_m1 h
theorem fl_law_points (_ : F_law_points.pure = true) (ds : List D) (r : D) (h : F_law_points.m ds = .ok r) : flatTop r = true := fl_m1 (fun _ _ z => flt_ok rfl z) h
theorem ln_law_cell_at (ds : List D) (r : D) (h : F_law_cell_at.m ds = .ok r) : ds.length = F_law_cell_at.ar := ln_m2 h
theorem fl_law_cell_at (_ : F_law_cell_at.pure = true) (ds : List D) (r : D) (h : F_law_cell_at.m ds = .ok r) : flatTop r = true := fl_m2 (fun _ _ _ z => flt_gd rfl z) h
theorem ln_law_mixed (ds : List D) (r : D) (h : F_law_mixed.m ds = .ok r) : ds.length = F_law_mixed.ar := ln_m2 h
theorem fl_law_mixed (_ : F_law_mixed.pure = true) (ds : List D) (r : D) (h : F_law_mixed.m ds = .ok r) : flatTop r = true := fl_m2 (fun _ _ _ z => flt_gd rfl z) h
theorem ln_law_drawn (ds : List D) (r : D) (h : F_law_drawn.m ds = .ok r) : ds.length = F_law_drawn.ar := ln_m2 h
theorem fl_law_drawn (_ : F_law_drawn.pure = true) (ds : List D) (r : D) (h : F_law_drawn.m ds = .ok r) : flatTop r = true := fl_m2 (fun _ _ _ z => flt_ok rfl z) h
theorem flt_encT (cs : List Card) : flatTop (encT cs) = true := by
  unfold encT
  induction cs with
  | nil => rfl
  | cons c r ih => simpa [flatTop, flat, flatAll, encC] using ih
theorem ln_law_deal (ds : List D) (r : D) (h : F_law_deal.m ds = .ok r) : ds.length = F_law_deal.ar := ln_m2 h
theorem fl_law_deal (_ : F_law_deal.pure = true) (ds : List D) (r : D) (h : F_law_deal.m ds = .ok r) : flatTop r = true := fl_m2 (fun _ _ _ z => flt_gd (flt_encT _) z) h
end Mt

set_option Elab.async false
set_option linter.all false
set_option maxRecDepth 100000
set_option maxHeartbeats 1000000
/-! Mirrors: melds made of cards. -/
namespace Mt
open PySem PySem.Spec PyProof.Rows L2
/-! ### functions of three, four arguments -/
def m3 {α β γ : Type} (d1 : D → Option α) (d2 : D → Option β) (d3 : D → Option γ) (f : α → β → γ → R D) (ds : List D) : R D := match ds with
  | [a, b, c] => match d1 a, d2 b, d3 c with
    | some x, some y, some z => f x y z
    | _, _, _ => stk
  | _ => stk
def m4 {α β γ δ : Type} (d1 : D → Option α) (d2 : D → Option β) (d3 : D → Option γ) (d4 : D → Option δ) (f : α → β → γ → δ → R D) (ds : List D) : R D := match ds with
  | [a, b, c, d] => match d1 a, d2 b, d3 c, d4 d with
    | some x, some y, some z, some w => f x y z w
    | _, _, _, _ => stk
  | _ => stk
theorem m3_inv {α β γ : Type} {d1 : D → Option α} {d2 : D → Option β} {d3 : D → Option γ} {f : α → β → γ → R D} {ds : List D} {r : D} (h : m3 d1 d2 d3 f ds = .ok r) : ∃ a b c x y z, ds = [a, b, c] ∧ d1 a = some x ∧ d2 b = some y ∧ d3 c = some z ∧ f x y z = .ok r := by
  unfold m3 at h
  split at h
  · split at h
    · exact ⟨_, _, _, _, _, _, rfl, ‹_›, ‹_›, ‹_›, h⟩
    · cases h
  · cases h
theorem m4_inv {α β γ δ : Type} {d1 : D → Option α} {d2 : D → Option β} {d3 : D → Option γ} {d4 : D → Option δ} {f : α → β → γ → δ → R D} {ds : List D} {r : D} (h : m4 d1 d2 d3 d4 f ds = .ok r) : ∃ a b c d x y z w, ds = [a, b, c, d] ∧ d1 a = some x ∧ d2 b = some y ∧ d3 c = some z ∧ d4 d = some w ∧ f x y z w = .ok r := by
  unfold m4 at h
  split at h
  · split at h
    · exact ⟨_, _, _, _, _, _, _, _, rfl, ‹_›, ‹_›, ‹_›, ‹_›, h⟩
    · cases h
  · cases h
theorem m3_ok {α β γ : Type} {d1 : D → Option α} {d2 : D → Option β} {d3 : D → Option γ} {f : α → β → γ → R D} {a b c : D} {x : α} {y : β} {z : γ} (h1 : d1 a = some x) (h2 : d2 b = some y) (h3 : d3 c = some z) : m3 d1 d2 d3 f [a, b, c] = f x y z := by
  unfold m3; dsimp only; rw [h1, h2, h3]
theorem m4_ok {α β γ δ : Type} {d1 : D → Option α} {d2 : D → Option β} {d3 : D → Option γ} {d4 : D → Option δ} {f : α → β → γ → δ → R D} {a b c d : D} {x : α} {y : β} {z : γ} {w : δ} (h1 : d1 a = some x) (h2 : d2 b = some y) (h3 : d3 c = some z) (h4 : d4 d = some w) : m4 d1 d2 d3 d4 f [a, b, c, d] = f x y z w := by
  unfold m4; dsimp only; rw [h1, h2, h3, h4]
theorem ln_m3 {α β γ : Type} {d1 : D → Option α} {d2 : D → Option β} {d3 : D → Option γ} {f : α → β → γ → R D} {ds : List D} {r : D} (h : m3 d1 d2 d3 f ds = .ok r) : ds.length = 3 := by
  obtain ⟨_, _, _, _, _, _, rfl, _⟩ := m3_inv h; rfl
theorem ln_m4 {α β γ δ : Type} {d1 : D → Option α} {d2 : D → Option β} {d3 : D → Option γ} {d4 : D → Option δ} {f : α → β → γ → δ → R D} {ds : List D} {r : D} (h : m4 d1 d2 d3 d4 f ds = .ok r) : ds.length = 4 := by
  obtain ⟨_, _, _, _, _, _, _, _, rfl, _⟩ := m4_inv h; rfl
theorem fl_m3 {α β γ : Type} {d1 : D → Option α} {d2 : D → Option β} {d3 : D → Option γ} {f : α → β → γ → R D} (hf : ∀ x y z r, f x y z = .ok r → flatTop r = true) {ds : List D} {r : D} (h : m3 d1 d2 d3 f ds = .ok r) : flatTop r = true := by
  obtain ⟨_, _, _, _, _, _, rfl, _, _, _, h⟩ := m3_inv h; exact hf _ _ _ _ h
theorem fl_m4 {α β γ δ : Type} {d1 : D → Option α} {d2 : D → Option β} {d3 : D → Option γ} {d4 : D → Option δ} {f : α → β → γ → δ → R D} (hf : ∀ x y z w r, f x y z w = .ok r → flatTop r = true) {ds : List D} {r : D} (h : m4 d1 d2 d3 d4 f ds = .ok r) : flatTop r = true := by
  obtain ⟨_, _, _, _, _, _, _, _, rfl, _, _, _, _, h⟩ := m4_inv h; exact hf _ _ _ _ _ h
/-! ### lists of cards -/
def encL (cs : List Card) : D := .list (cs.map encC)
def decLC (d : D) : Option (List Card) := match d with
  | .list ds => decL decC ds
  | _ => none
theorem decLC_eq {d : D} {cs : List Card} (h : decLC d = some cs) : d = encL cs := by
  unfold decLC at h
  split at h
  · rw [decL_eq (fun d a => decC_eq) h]; rfl
  · cases h
@[simp] theorem decLC_enc (cs : List Card) : decLC (encL cs) = some cs := decL_enc decC_enc cs
theorem flatAll_map {α : Type} (f : α → D) (l : List α) (h : ∀ a, flat (f a) = true) : flatAll (l.map f) = true := by
  rw [flatAll_iff]
  intro x hx
  obtain ⟨a, _, rfl⟩ := List.mem_map.mp hx
  exact h a
theorem flat_encC (c : Card) : flat (encC c) = true := rfl
theorem flat_encT (cs : List Card) : flat (encT cs) = true := flatAll_map _ _ flat_encC
/-! ### melds -/
inductive Meld where
  | set (r : Int) (cs : List Card)
  | run (s f : Int) (cs : List Card)
  deriving DecidableEq
def encM : Meld → D
  | .set r cs => .tuple [.str "set", .int r, encT cs]
  | .run s f cs => .tuple [.str "run", .int s, .int f, encT cs]
def Meld.cards : Meld → List Card
  | .set _ cs => cs
  | .run _ _ cs => cs
theorem flat_encM (m : Meld) : flat (encM m) = true := by
  cases m with
  | set r cs => simp [encM, flat, flatAll, flat_encT]
  | run s f cs => simp [encM, flat, flatAll, flat_encT]
/-! ### loops that gather -/
theorem forGo_acc {α : Type} {enc : α → D} {f : D → Sg → R Fl} {St : List D → Sg → Prop} (g : α → List D) (N : Nat) : ∀ (l : List α) (b : List D) (σ : Sg), St b σ → b.length + (l.flatMap g).length ≤ N →
    (∀ a ∈ l, ∀ b σ, St b σ → b.length + (g a).length ≤ N → ∃ τ, St (b ++ g a) τ ∧ f (enc a) σ = .ok (.nx τ)) → ∃ τ, St (b ++ l.flatMap g) τ ∧ forGo f (l.map enc) σ = .ok (.nx τ)
  | [], b, σ, h, _, _ => ⟨σ, by rw [List.flatMap_nil, List.append_nil]; exact h, rfl⟩
  | a :: l, b, σ, h, hn, hs => by
    rw [List.flatMap_cons, List.length_append] at hn
    obtain ⟨τ, h1, e1⟩ := hs a (List.mem_cons_self ..) b σ h (by omega)
    obtain ⟨ρ, h2, e2⟩ := forGo_acc g N l (b ++ g a) τ h1 (by rw [List.length_append]; omega) fun a' m => hs a' (List.mem_cons_of_mem _ m)
    refine ⟨ρ, by rw [List.flatMap_cons, ← List.append_assoc]; exact h2, ?_⟩
    rw [List.map_cons, forGo, e1]
    exact e2
theorem loop_acc {Φ : Nat → FnS} {n : Nat} {tg : List Nat} {it : C} {body : S} {α : Type} {enc : α → D} {St : List D → Sg → Prop} (g : α → List D) (N : Nat) (l : List α) {b : List D} {σ : Sg} (hi : evIt Φ it σ = .ok (l.map enc)) (ht : tmpI σ it = false) (h0 : St b σ) (hN : b.length + (l.flatMap g).length ≤ N)
    (hs : ∀ a ∈ l, ∀ b σ, St b σ → b.length + (g a).length ≤ N → ∃ τ, St (b ++ g a) τ ∧ bd (bindT σ tg true (enc a)) (evS Φ n body) = .ok (.nx τ)) : ∃ τ, St (b ++ l.flatMap g) τ ∧ evS Φ n (.loop tg true it body) σ = .ok (.nx τ) := by
  obtain ⟨τ, h1, h2⟩ := forGo_acc (enc := enc) (f := fun d σ => bd (bindT σ tg true d) (evS Φ n body)) g N l b σ h0 hN hs
  refine ⟨τ, h1, ?_⟩
  rw [q_loop, ht, hi]
  exact h2
/-- a loop that goes through, keeping something -/
theorem loop_keep {Φ : Nat → FnS} {n : Nat} {tg : List Nat} {one : Bool} {it : C} {body : S} {St : Sg → Prop} {ds : List D} {σ : Sg} (hi : evIt Φ it σ = .ok ds) (ht : tmpI σ it = false) (h0 : St σ)
    (hs : ∀ d ∈ ds, ∀ σ, St σ → ∃ τ, St τ ∧ bd (bindT σ tg one d) (evS Φ n body) = .ok (.nx τ)) : ∃ τ, St τ ∧ evS Φ n (.loop tg one it body) σ = .ok (.nx τ) := by
  obtain ⟨τ, h1, h2⟩ := forGo_all (σ := σ) (f := fun d σ => bd (bindT σ tg one d) (evS Φ n body)) ds σ h0 hs
  refine ⟨τ, h1, ?_⟩
  rw [q_loop, ht, hi]
  exact h2
/-- a loop that folds -/
theorem forGo_fold {α β : Type} {enc : α → D} {f : D → Sg → R Fl} {St : β → Sg → Prop} (g : β → α → β) : ∀ (l : List α) (b : β) (σ : Sg), St b σ → (∀ a ∈ l, ∀ b σ, St b σ → ∃ τ, St (g b a) τ ∧ f (enc a) σ = .ok (.nx τ)) → ∃ τ, St (l.foldl g b) τ ∧ forGo f (l.map enc) σ = .ok (.nx τ)
  | [], b, σ, h, _ => ⟨σ, h, rfl⟩
  | a :: l, b, σ, h, hs => by
    obtain ⟨τ, h1, e1⟩ := hs a (List.mem_cons_self ..) b σ h
    obtain ⟨ρ, h2, e2⟩ := forGo_fold g l (g b a) τ h1 fun a' m => hs a' (List.mem_cons_of_mem _ m)
    refine ⟨ρ, h2, ?_⟩
    rw [List.map_cons, forGo, e1]
    exact e2
theorem loop_fold {Φ : Nat → FnS} {n : Nat} {tg : List Nat} {it : C} {body : S} {α β : Type} {enc : α → D} {St : β → Sg → Prop} (g : β → α → β) (l : List α) {b : β} {σ : Sg} (hi : evIt Φ it σ = .ok (l.map enc)) (ht : tmpI σ it = false) (h0 : St b σ)
    (hs : ∀ a ∈ l, ∀ b σ, St b σ → ∃ τ, St (g b a) τ ∧ bd (bindT σ tg true (enc a)) (evS Φ n body) = .ok (.nx τ)) : ∃ τ, St (l.foldl g b) τ ∧ evS Φ n (.loop tg true it body) σ = .ok (.nx τ) := by
  obtain ⟨τ, h1, h2⟩ := forGo_fold (enc := enc) (f := fun d σ => bd (bindT σ tg true d) (evS Φ n body)) g l b σ h0 hs
  refine ⟨τ, h1, ?_⟩
  rw [q_loop, ht, hi]
  exact h2
theorem flatMap_len {α β : Type} (g : α → List β) (B : Nat) : ∀ (l : List α), (∀ a ∈ l, (g a).length ≤ B) → (l.flatMap g).length ≤ l.length * B
  | [], _ => by simp
  | a :: l, h => by
    have h1 := h a (List.mem_cons_self ..)
    have h2 := flatMap_len g B l fun b m => h b (List.mem_cons_of_mem _ m)
    rw [List.flatMap_cons, List.length_append, List.length_cons, Nat.succ_mul]
    omega
theorem asg_own {Φ : Nat → FnS} {n : Nat} {i : Nat} {e : C} {σ : Sg} {ds : List D} (h : ev Φ e σ = .ok (.list ds)) (hf : fresh e = true) : evS Φ n (.asg [i] true e) σ = .ok (.nx (σ.set i (.own ds))) := by
  rw [q_asg, h, q_bd, asgS, if_pos hf]; rfl
/-! ### sorted cards -/
def leD (a b : D) : Bool := PySem.W.dataLe false id a b
def sortE {α : Type} (enc : α → D) (l : List α) : List α := l.mergeSort fun a b => leD (enc a) (enc b)
theorem sortD_map {α : Type} (enc : α → D) (l : List α) : sortD (l.map enc) = (sortE enc l).map enc := by
  unfold sortD sortE
  rw [List.map_mergeSort]
  intro a _ b _
  rfl
theorem sort_ok {α : Type} (enc : α → D) (l : List α) (h1 : ∀ a b, alk (enc a) (enc b) = true) (h2 : ∀ a, ∃ x r, enc a = .tuple (x :: r)) (h3 : ∀ a, (enc a).depth ≤ 60) : sortOk (l.map enc) = true := by
  unfold sortOk
  rw [Bool.and_eq_true, Bool.and_eq_true]
  refine ⟨⟨?_, ?_⟩, ?_⟩
  · unfold alikeB
    rw [List.all_eq_true]
    intro d hd
    rw [List.all_eq_true]
    intro e he
    obtain ⟨a, _, rfl⟩ := List.mem_map.mp hd
    obtain ⟨b, _, rfl⟩ := List.mem_map.mp he
    exact h1 a b
  · unfold srtB
    rw [Bool.or_eq_true]
    left
    rw [List.all_eq_true]
    intro d hd
    obtain ⟨a, _, rfl⟩ := List.mem_map.mp hd
    obtain ⟨x, r, e⟩ := h2 a
    rw [e]
  · rw [List.all_eq_true]
    intro d hd
    obtain ⟨a, _, rfl⟩ := List.mem_map.mp hd
    exact decide_eq_true (h3 a)
theorem srt_L {α : Type} (enc : α → D) (l : List α) (h1 : ∀ a b, alk (enc a) (enc b) = true) (h2 : ∀ a, ∃ x r, enc a = .tuple (x :: r)) (h3 : ∀ a, (enc a).depth ≤ 60) : biD .sorted [.list (l.map enc)] = .ok (.list ((sortE enc l).map enc)) := by
  show gd (sortOk (l.map enc)) (.ok (PyData.list (sortD (l.map enc)))) = _
  rw [gd_pos (sort_ok enc l h1 h2 h3), sortD_map]
theorem srt_T {α : Type} (enc : α → D) (l : List α) (h1 : ∀ a b, alk (enc a) (enc b) = true) (h2 : ∀ a, ∃ x r, enc a = .tuple (x :: r)) (h3 : ∀ a, (enc a).depth ≤ 60) : biD .sorted [.tuple (l.map enc)] = .ok (.list ((sortE enc l).map enc)) := by
  show gd (sortOk (l.map enc)) (.ok (PyData.list (sortD (l.map enc)))) = _
  rw [gd_pos (sort_ok enc l h1 h2 h3), sortD_map]
theorem alk_C (a b : Card) : alk (encC a) (encC b) = true := by
  show (true && (!_ || (true && (!_ || true)))) = true
  simp
theorem alike_C (a b : Card) : PySem.W.alike (encC a) (encC b) = true := rfl
theorem alike_T : ∀ (a b : List Card), PySem.W.alikeAll (a.map encC) (b.map encC) = true
  | [], b => by rw [List.map_nil, PySem.W.alikeAll]
  | _ :: _, [] => by rw [List.map_cons, List.map_nil, PySem.W.alikeAll]
  | a :: as, b :: bs => by
    rw [List.map_cons, List.map_cons, PySem.W.alikeAll, alike_T as bs, Bool.and_true]; rfl
theorem srtC (cs : List Card) : biD .sorted [encL cs] = .ok (.list ((sortE encC cs).map encC)) := srt_L encC cs alk_C (fun a => ⟨_, _, rfl⟩) (fun a => by rw [depth_enc]; decide)
theorem srtCT (cs : List Card) : biD .sorted [encT cs] = .ok (.list ((sortE encC cs).map encC)) := srt_T encC cs alk_C (fun a => ⟨_, _, rfl⟩) (fun a => by rw [depth_enc]; decide)
end Mt

set_option Elab.async false
set_option linter.all false
set_option maxRecDepth 100000
set_option maxHeartbeats 1000000
/-! Mirrors: choices, sets, fillings, runs, melds. -/
namespace Mt
open PySem PySem.Spec PyProof.Rows L2
/-! ### choices -/
def chGo (l : List Card) (found : List (List Card)) : List (List Card) := l.foldl (fun f c => f ++ f.map (· ++ [c])) found
def chs (cs : List Card) : List (List Card) := chGo (sortE encC cs) [[]]
def encLT (l : List (List Card)) : D := .list (l.map encT)
theorem add_TT (a b : List D) (h : a.length + b.length ≤ 16777216) : binD .Add (.tuple a) (.tuple b) = .ok (.tuple (a ++ b)) := by
  show gd _ _ = _
  rw [gd_pos (decide_eq_true h)]
theorem add_LL (a b : List D) (h : a.length + b.length ≤ 16777216) : binD .Add (.list a) (.list b) = .ok (.list (a ++ b)) := by
  show gd _ _ = _
  rw [gd_pos (decide_eq_true h)]
theorem chGo_len : ∀ (l : List Card) (found : List (List Card)), (chGo l found).length = found.length * 2 ^ l.length
  | [], found => by simp [chGo]
  | c :: l, found => by
    have ih := chGo_len l (found ++ found.map (· ++ [c]))
    show (chGo l (found ++ found.map (· ++ [c]))).length = _
    rw [ih, List.length_append, List.length_map, List.length_cons, Nat.pow_succ]
    rw [← Nat.two_mul, Nat.mul_assoc, Nat.mul_comm 2, Nat.mul_assoc]
theorem ch_loop {Φ : Nat → FnS} {n : Nat} (d0 : D) : ∀ (l : List Card) (found : List (List Card)) (s2 : Sl), found.length * 2 ^ l.length ≤ 4096 → (∀ s ∈ found, s.length + l.length ≤ 1000) →
    ∃ t2, forGo (fun d σ => bd (bindT σ [2] true d) (evS Φ n b1_choices)) (l.map encC) [.imm d0, .own (found.map encT), s2, .dead] = .ok (.nx [.imm d0, .own ((chGo l found).map encT), t2, .dead])
  | [], found, s2, _, _ => ⟨s2, rfl⟩
  | c :: l, found, s2, h1, h2 => by
    have hl : found.length ≤ 4096 := by
      have : 1 ≤ 2 ^ (c :: l).length := Nat.one_le_two_pow
      exact Nat.le_trans (Nat.le_mul_of_pos_right _ (by omega)) h1
    obtain ⟨t2, e⟩ := ch_loop (Φ := Φ) (n := n) d0 l (found ++ found.map (· ++ [c])) (.imm (encC c)) (by
      rw [List.length_append, List.length_map]
      rw [List.length_cons, Nat.pow_succ] at h1
      rw [← Nat.two_mul, Nat.mul_comm 2, Nat.mul_assoc, Nat.mul_comm 2]
      exact h1) (fun s hs => by
      rw [List.length_cons] at h2
      rcases List.mem_append.mp hs with m | m
      · have := h2 s m; omega
      · obtain ⟨z, hz, rfl⟩ := List.mem_map.mp m
        have := h2 z hz
        rw [List.length_append, List.length_singleton]; omega)
    refine ⟨t2, ?_⟩
    rw [List.map_cons, forGo]
    have step : bd (bindT [.imm d0, .own (found.map encT), s2, .dead] [2] true (encC c)) (evS Φ n b1_choices) = .ok (.nx [.imm d0, .own ((found ++ found.map (· ++ [c])).map encT), .imm (encC c), .dead]) := by
      have hv : ev Φ (.bin .Add (.var 1) (.lc (.bin .Add (.var 3) (.tup (.cons (.var 2) .nil))) [3] true (.cons (.var 1) .nil) .nil)) [.imm d0, .own (found.map encT), .imm (encC c), .dead] = .ok (.list ((found ++ found.map (· ++ [c])).map encT)) := by
        simp only [q_bin, q_var, rdS, List.getElem?_cons_zero, List.getElem?_cons_succ, q_bd, q_lc, q_seqit, q_seqL]
        rw [lcGo_map encT (fun s => encT (s ++ [c])) found fun s hs => by
          have hz := h2 s hs
          have hA : binD .Add (encT s) (.tuple [encC c]) = .ok (encT (s ++ [c])) := by
            unfold encT
            rw [add_TT _ _ (by rw [List.length_map]; simp only [List.length_singleton]; omega), List.map_append]; rfl
          simp [bindT, wipeS, rdS, strict, rdI, hA]]
        rw [q_bd, q_bd, add_LL _ _ (by simp only [List.length_map]; omega), List.map_append, List.map_map]
        rfl
      simp only [bindT, q_bd, List.set]
      rw [b1_choices, q_seq, asg_own hv rfl]
      rfl
    rw [step]
    exact e
def F_choices : FnS := ⟨1, m1 decLC fun cs => gd (decide (cs.length ≤ 12)) (.ok (encLT (chs cs))), true⟩
theorem sortE_len {α : Type} (enc : α → D) (l : List α) : (sortE enc l).length = l.length := List.length_mergeSort l
theorem run_choices {Φ : Nat → FnS} {n : Nat} (ds : List D) (r : D) (h : F_choices.m ds = .ok r) : runF Φ n c_choices n_choices.length ds = .ok r := by
  obtain ⟨d, cs, rfl, hd, hf⟩ := m1_inv h
  clear h
  have hx := decLC_eq hd
  subst hx
  obtain ⟨g, hg⟩ := gd_inv hf
  cases hg
  have g := of_decide_eq_true g
  have e : startS n_choices.length [encL cs] = [.imm (encL cs), .dead, .dead, .dead] := rfl
  obtain ⟨t2, hl⟩ := ch_loop (Φ := Φ) (n := n) (encL cs) (sortE encC cs) [[]] .dead (by
    rw [sortE_len, List.length_singleton, Nat.one_mul]
    calc 2 ^ cs.length ≤ 2 ^ 12 := Nat.pow_le_pow_right (by decide) g
      _ = 4096 := rfl) (fun s hs => by
    rw [List.mem_singleton] at hs
    subst hs
    rw [sortE_len, List.length_nil]; omega)
  rw [runF, e, c_choices]
  rw [seq_nx (asg_own (ds := [.tuple []]) rfl rfl)]
  simp only [List.set]
  rw [seq_nx (a := .loop _ _ _ _) (τ := [.imm (encL cs), .own ((chs cs).map encT), t2, .dead]) (by
    rw [q_loop, q_seqit, q_bi, q_rcons, q_var]
    simp only [rdS, List.getElem?_cons_zero, q_bd, q_rnil, srtC, q_seqL]
    exact hl)]
  rfl
theorem k_choices {Φ : Nat → FnS} (h : Φ 9 = F_choices) (cs : List Card) (hl : cs.length ≤ 12) : gd (Φ 9).pure ((Φ 9).m [encL cs]) = .ok (encLT (chs cs)) := by
  exact k_of h rfl ((m1_ok (decLC_enc cs)).trans (gd_pos (decide_eq_true hl)))
theorem ln_choices (ds : List D) (r : D) (h : F_choices.m ds = .ok r) : ds.length = F_choices.ar := ln_m1 h
theorem flt_encLT (l : List (List Card)) : flatTop (encLT l) = true := flatAll_map _ _ flat_encT
theorem fl_choices (_ : F_choices.pure = true) (ds : List D) (r : D) (h : F_choices.m ds = .ok r) : flatTop r = true := fl_m1 (fun _ _ z => flt_gd (flt_encLT _) z) h
end Mt

set_option Elab.async false
set_option linter.all false
set_option maxRecDepth 100000
set_option maxHeartbeats 1000000
/-! Mirrors: sets, fillings. -/
namespace Mt
open PySem PySem.Spec PyProof.Rows L2
/-! ### sets_of -/
def setsBy (r : Int) (ws : List Card) (some : List Card) : List Meld :=
  (if 3 ≤ some.length then [.set r some] else []) ++ (if some.length = 2 ∨ some.length = 3 then ws.map fun w => .set r (w :: some) else [])
def setsOf (r : Int) (cs ws : List Card) : List Meld := (chs (cs.filter fun c => c.1 == r)).flatMap (setsBy r ws)
def encLM (l : List Meld) : D := .list (l.map encM)
theorem flt_encLM (l : List Meld) : flatTop (encLM l) = true := flatAll_map _ _ flat_encM
theorem setsBy_len (r : Int) (ws some : List Card) : (setsBy r ws some).length ≤ 1 + ws.length := by
  unfold setsBy
  rw [List.length_append]
  split <;> split <;> simp <;> omega
theorem chs_len (cs : List Card) : (chs cs).length = 2 ^ cs.length := by
  unfold chs
  rw [chGo_len, sortE_len, List.length_singleton, Nat.one_mul]
theorem ev_flt {Φ : Nat → FnS} {σ : Sg} {i j : Nat} {r : Int} {cs : List Card} (h1 : rdS σ i = .ok (encL cs)) (h2 : ∀ c : Card, rdS ((wipeS σ [j]).set j (.imm (encC c))) j = .ok (encC c)) (h4 : ∀ c : Card, rdI ((wipeS σ [j]).set j (.imm (encC c))) j = .ok (encC c)) {k : Nat} (h3 : ∀ c : Card, rdS ((wipeS σ [j]).set j (.imm (encC c))) k = .ok (.int r)) :
    ev Φ (.lc (.var j) [j] true (.cons (.var i) .nil) (.cons (.cmp .Eq (.ix (.var j) (.cI 0)) (.var k)) .nil)) σ = .ok (encL (cs.filter fun c => c.1 == r)) := by
  have e2 : seqD (encL cs) = .ok (cs.map encC) := rfl
  rw [q_lc, q_seqit, q_var, h1, q_bd, e2, q_bd]
  rw [lcGo_filter encC (fun c => c.1 == r) encC cs fun c _ => by
    have e3 : ixD (encC c) (.int 0) = .ok (.int c.1) := rfl
    simp only [bindT, q_bd, q_ccons, q_cmp, q_ix, q_var, h2, q_cI, e3, h3, q_eqI, q_asB, q_strict, h4]
    cases (c.1 == r) <;> rfl]
  rfl
def F_sets_of : FnS := ⟨3, m3 decI decLC decLC fun r cs ws => gd (decide ((cs.filter fun c => c.1 == r).length ≤ 12) && decide (ws.length ≤ 100)) (.ok (encLM (setsOf r cs ws))), true⟩
theorem len_set (s : List Card) : biD .len [encT s] = .ok (.int s.length) := by
  show Except.ok (PyData.int ((s.map encC).length : Nat)) = _
  rw [List.length_map]
theorem q_in2 (k : Nat) : cmpD .In (.int k) (.tuple [.int 2, .int 3]) = .ok (.bool (decide (k = 2 ∨ k = 3))) := by
  show gd _ (.ok (PyData.bool ([PyData.int 2, PyData.int 3].any fun z => PyData.eqv z (.int k)))) = _
  have e : ([PyData.int 2, PyData.int 3].any fun z => PyData.eqv z (.int k)) = decide (k = 2 ∨ k = 3) := by
    show (((2 : Int) == (k : Int)) || (((3 : Int) == (k : Int)) || false)) = _
    by_cases h2 : k = 2
    · subst h2; rfl
    · by_cases h3 : k = 3
      · subst h3; rfl
      · have a : ((2 : Int) == (k : Int)) = false := by simp; omega
        have b : ((3 : Int) == (k : Int)) = false := by simp; omega
        rw [a, b]
        exact (decide_eq_false (by omega)).symm
  rw [e]
  exact gd_pos rfl
theorem run_sets_of {Φ : Nat → FnS} {n : Nat} (h9 : Φ 9 = F_choices) (ds : List D) (r : D) (h : F_sets_of.m ds = .ok r) : runF Φ n c_sets_of n_sets_of.length ds = .ok r := by
  obtain ⟨d1, d2, d3, rk, cs, ws, rfl, e1, e2, e3, hf⟩ := m3_inv h
  clear h
  have hx := decI_eq e1
  have hy := decLC_eq e2
  have hz := decLC_eq e3
  subst hx hy hz
  obtain ⟨g, hg⟩ := gd_inv hf
  cases hg
  rw [Bool.and_eq_true] at g
  have g1 := of_decide_eq_true g.1
  have g2 := of_decide_eq_true g.2
  have e : startS n_sets_of.length [.int rk, encL cs, encL ws] = [.imm (.int rk), .imm (encL cs), .imm (encL ws), .dead, .dead, .dead, .dead] := rfl
  have hb : ∀ s ∈ chs (cs.filter fun c => c.1 == rk), ((fun s => (setsBy rk ws s).map encM) s).length ≤ 101 := fun s _ => by
    have := setsBy_len rk ws s
    rw [List.length_map]; omega
  have hlen : ((chs (cs.filter fun c => c.1 == rk)).flatMap fun s => (setsBy rk ws s).map encM).length ≤ 4096 * 101 := by
    refine Nat.le_trans (flatMap_len _ 101 _ hb) (Nat.mul_le_mul_right _ ?_)
    rw [chs_len]
    calc 2 ^ (cs.filter fun c => c.1 == rk).length ≤ 2 ^ 12 := Nat.pow_le_pow_right (by decide) g1
      _ = 4096 := rfl
  have body : ∀ s ∈ chs (cs.filter fun c => c.1 == rk), ∀ b σ, (∃ s4, σ = [.imm (.int rk), .imm (encL cs), .imm (encL ws), .own b, s4, .dead, .dead]) → b.length + ((setsBy rk ws s).map encM).length ≤ 4096 * 101 →
      ∃ τ, (∃ s4, τ = [.imm (.int rk), .imm (encL cs), .imm (encL ws), .own (b ++ (setsBy rk ws s).map encM), s4, .dead, .dead]) ∧ bd (bindT σ [4] true (encT s)) (evS Φ n b1_sets_of) = .ok (.nx τ) := by
    rintro s hs b σ ⟨s4, rfl⟩ hn
    refine ⟨_, ⟨.imm (encT s), rfl⟩, ?_⟩
    simp only [bindT, q_bd, List.set]
    rw [List.length_map, setsBy, List.length_append] at hn
    rw [b1_sets_of]
    rw [seq_nx (a := .ite _ _ _) (τ := [.imm (.int rk), .imm (encL cs), .imm (encL ws), .own (b ++ (if 3 ≤ s.length then [Meld.set rk s] else []).map encM), .imm (encT s), .dead, .dead]) (by
      by_cases h3 : 3 ≤ s.length
      · rw [if_pos h3] at hn ⊢
        simp only [List.length_singleton] at hn
        have hd : decide ((3 : Int) ≤ (s.length : Int)) = true := decide_eq_true (by omega)
        have hb2 : decide (b.length < 16777216) = true := decide_eq_true (by omega)
        simp only [q_ite, q_cmp, q_bi, q_rcons, q_var, rdS, List.getElem?_cons_zero, List.getElem?_cons_succ, q_bd, q_rnil, len_set, q_gI, q_geI, hd, q_asB, if_true, q_seq, q_app, strict, q_tup, q_scons, q_cS, rdI, q_snil, ownAt, hb2, q_gdt]
        rfl
      · rw [if_neg h3]
        have hd : ¬ ((3 : Int) ≤ (s.length : Int)) := by omega
        simp [rdS, len_set, hd])]
    have st2 : ∀ b', b'.length + (if s.length = 2 ∨ s.length = 3 then ws.map fun w => Meld.set rk (w :: s) else []).length ≤ 4096 * 101 → evS Φ n (match b1_sets_of with | .seq _ (.seq a _) => a | _ => .skip) [.imm (.int rk), .imm (encL cs), .imm (encL ws), .own b', .imm (encT s), .dead, .dead] = .ok (.nx [.imm (.int rk), .imm (encL cs), .imm (encL ws), .own (b' ++ (if s.length = 2 ∨ s.length = 3 then ws.map fun w => Meld.set rk (w :: s) else []).map encM), .imm (encT s), .dead, .dead]) := by
      intro b' hb'
      by_cases h3 : s.length = 2 ∨ s.length = 3
      · rw [if_pos h3] at hb' ⊢
        rw [List.length_map] at hb'
        have hv : ev Φ (.lc (.tup (.cons (.cS "set") (.cons (.var 0) (.cons (.bin .Add (.tup (.cons (.var 6) .nil)) (.var 4)) .nil)))) [6] true (.cons (.var 2) .nil) .nil) [.imm (.int rk), .imm (encL cs), .imm (encL ws), .own b', .imm (encT s), .dead, .dead] = .ok (.list (ws.map fun w => encM (.set rk (w :: s)))) := by
          have e2 : seqD (encL ws) = .ok (ws.map encC) := rfl
          simp only [q_lc, q_seqit, q_var, rdS, List.getElem?_cons_zero, List.getElem?_cons_succ, q_bd, e2]
          rw [lcGo_map encC (fun w => encM (.set rk (w :: s))) ws fun w _ => by
            have hA : binD .Add (.tuple [encC w]) (encT s) = .ok (encT (w :: s)) := by
              unfold encT
              rw [add_TT _ _ (by rw [List.length_map]; simp only [List.length_singleton]; omega)]; rfl
            simp [bindT, wipeS, rdS, strict, rdI, hA, encM]]
          rfl
        have hI := q_in2 s.length
        rw [decide_eq_true h3] at hI
        show evS Φ n (.ite _ (.seq (.ext 3 _) .skip) .skip) _ = _
        simp only [q_ite, q_cmp, q_bi, q_rcons, q_var, rdS, List.getElem?_cons_zero, List.getElem?_cons_succ, q_bd, q_rnil, len_set, q_tup, q_scons, q_bin, strict, q_gI, q_cI, q_sub, q_snil]
        show bd (cmpD .In (.int s.length) (.tuple [.int 2, .int 3])) _ = _
        rw [hI]
        simp only [q_bd, q_asB, if_true, q_seq, q_ext, strict, hv, q_seqL, ownAt, List.getElem?_cons_zero, List.getElem?_cons_succ]
        rw [gd_pos (decide_eq_true (by rw [List.length_map]; omega)), List.map_map]
        rfl
      · rw [if_neg h3]
        have hI := q_in2 s.length
        rw [decide_eq_false h3] at hI
        show evS Φ n (.ite _ (.seq (.ext 3 _) .skip) .skip) _ = _
        simp only [q_ite, q_cmp, q_bi, q_rcons, q_var, rdS, List.getElem?_cons_zero, List.getElem?_cons_succ, q_bd, q_rnil, len_set, q_tup, q_scons, q_bin, strict, q_gI, q_cI, q_sub, q_snil]
        show bd (cmpD .In (.int s.length) (.tuple [.int 2, .int 3])) _ = _
        rw [hI]
        simp
    refine (seq_nx (st2 _ (by rw [List.length_append, List.length_map]; omega))).trans ?_
    rw [q_skip, setsBy, List.map_append, List.append_assoc]
  obtain ⟨τ, ⟨s4, rfl⟩, hl⟩ := forGo_acc (f := fun d σ => bd (bindT σ [4] true d) (evS Φ n b1_sets_of)) (St := fun b σ => ∃ s4, σ = [.imm (.int rk), .imm (encL cs), .imm (encL ws), .own b, s4, .dead, .dead]) (enc := encT) (fun s => (setsBy rk ws s).map encM) (4096 * 101) (chs (cs.filter fun c => c.1 == rk)) [] [.imm (.int rk), .imm (encL cs), .imm (encL ws), .own [], .dead, .dead, .dead] ⟨.dead, rfl⟩ (by rw [List.length_nil, Nat.zero_add]; exact hlen) body
  rw [runF, e, c_sets_of]
  rw [seq_nx (asg_own (ds := []) rfl rfl)]
  simp only [List.set]
  rw [seq_nx (a := .loop _ _ _ _) (τ := _) (by
    rw [q_loop, q_seqit, q_call, q_rcons, ev_flt (r := rk) (cs := cs) (k := 0) rfl (fun _ => rfl) (fun _ => rfl) (fun _ => rfl), q_bd, q_rnil, q_bd, q_bd, k_choices h9 _ g1]
    exact hl)]
  show endR (.ok (.rt (.list ([] ++ (chs (cs.filter fun c => c.1 == rk)).flatMap fun s => (setsBy rk ws s).map encM)))) = _
  rw [q_endr, List.nil_append, setsOf, encLM, List.map_flatMap]
theorem k_sets_of {Φ : Nat → FnS} (h : Φ 10 = F_sets_of) (r : Int) (cs ws : List Card) (h1 : (cs.filter fun c => c.1 == r).length ≤ 12) (h2 : ws.length ≤ 100) : gd (Φ 10).pure ((Φ 10).m [.int r, encL cs, encL ws]) = .ok (encLM (setsOf r cs ws)) := by
  exact k_of h rfl ((m3_ok (decI_int r) (decLC_enc cs) (decLC_enc ws)).trans (gd_pos (by rw [decide_eq_true h1, decide_eq_true h2]; rfl)))
theorem ln_sets_of (ds : List D) (r : D) (h : F_sets_of.m ds = .ok r) : ds.length = F_sets_of.ar := ln_m3 h
theorem fl_sets_of (_ : F_sets_of.pure = true) (ds : List D) (r : D) (h : F_sets_of.m ds = .ok r) : flatTop r = true := fl_m3 (fun _ _ _ _ z => flt_gd (flt_encLM _) z) h
end Mt

set_option Elab.async false
set_option linter.all false
set_option maxRecDepth 100000
set_option maxHeartbeats 1000000
/-! Mirrors: fillings, runs. -/
namespace Mt
open PySem PySem.Spec PyProof.Rows L2
section
variable {Φ : Nat → FnS} {n : Nat} {σ : Sg}
end
def upto (a b : Int) : List Int := (List.range (b - a).toNat).map fun (i : Nat) => a + i
theorem rngD_upto (a b : Int) : rngD a b = (upto a b).map .int := by
  unfold rngD upto
  rw [List.map_map]
  rfl
theorem upto_len (a b : Int) : (upto a b).length = (b - a).toNat := by rw [upto, List.length_map, List.length_range]
theorem mem_upto {a b i : Int} (h : i ∈ upto a b) : a ≤ i ∧ i < b := by
  obtain ⟨k, hk, rfl⟩ := List.mem_map.mp h
  have := List.mem_range.mp hk
  omega
theorem upto_mem {a b i : Int} (h1 : a ≤ i) (h2 : i < b) : i ∈ upto a b := List.mem_map.mpr ⟨(i - a).toNat, List.mem_range.mpr (by omega), by omega⟩
theorem rng_ok {a b : Int} (h1 : -1000000000 ≤ a) (h2 : a ≤ 1000000000) (h3 : -1000000000 ≤ b) (h4 : b ≤ 1000000000) (h5 : b - a ≤ 16777216) : rngOk (.int a) (.int b) = .ok ((upto a b).map .int) := by
  show gd _ _ = _
  rw [gd_pos, rngD_upto]
  simp only [Bool.and_eq_true, decide_eq_true_eq]
  exact ⟨⟨⟨⟨h1, h2⟩, h3⟩, h4⟩, h5⟩
/-! ### fillings -/
def fillAt (wished ws : List Card) (at_ : Int) : List (List Card) := ws.map fun w => wished.take at_.toNat ++ [w] ++ wished.drop (at_.toNat + 1)
def fills (wished : List Card) (gaps : List Int) (ws : List Card) : List (List Card) := (if gaps = [] then [wished] else []) ++ (if gaps = [] then upto 0 wished.length else gaps).flatMap (fillAt wished ws)
def F_fillings : FnS := ⟨3, m3 decLC decS decLC fun wi ga ws => gd (decide (wi.length ≤ 100) && decide (ga.length ≤ 100) && decide (ws.length ≤ 100) && ga.all fun g => decide (0 ≤ g)) (.ok (encLT (fills wi ga ws))), true⟩
theorem q_eqLen0 {α : Type} (l : List α) : cmpD .Eq (.int (l.length : Nat)) (.int 0) = .ok (.bool (decide (l = []))) := by
  rw [q_eqI]
  cases l with
  | nil => rfl
  | cons a r =>
    have : (((a :: r).length : Int) == 0) = false := by
      rw [List.length_cons]; simp; omega
    rw [this]
    rfl
theorem run_fillings {Φ : Nat → FnS} {n : Nat} (ds : List D) (r : D) (h : F_fillings.m ds = .ok r) : runF Φ n c_fillings n_fillings.length ds = .ok r := by
  obtain ⟨d1, d2, d3, wi, ga, ws, rfl, e1, e2, e3, hf⟩ := m3_inv h
  clear h
  have hx := decLC_eq e1
  have hy := decS_eq e2
  have hz := decLC_eq e3
  subst hx hy hz
  obtain ⟨g, hg⟩ := gd_inv hf
  cases hg
  simp only [Bool.and_eq_true, decide_eq_true_eq, List.all_eq_true] at g
  obtain ⟨⟨⟨g1, g2⟩, g3⟩, g4⟩ := g
  have e : startS n_fillings.length [encL wi, encS ga, encL ws] = [.imm (encL wi), .imm (encS ga), .imm (encL ws), .dead, .dead, .dead, .dead] := rfl
  have lenG : biD .len [encS ga] = .ok (.int (ga.length : Nat)) := by
    show Except.ok (PyData.int ((ga.map PyData.int).length : Nat)) = _
    rw [List.length_map]
  have lenW : biD .len [encL wi] = .ok (.int (wi.length : Nat)) := by
    show Except.ok (PyData.int ((wi.map encC).length : Nat)) = _
    rw [List.length_map]
  generalize hP : (if ga = [] then upto 0 wi.length else ga) = pl
  have hpl : pl.length ≤ 100 ∧ ∀ p ∈ pl, 0 ≤ p := by
    subst hP
    split
    · exact ⟨by rw [upto_len]; omega, fun p hp => (mem_upto hp).1⟩
    · exact ⟨g2, g4⟩
  rw [runF, e, c_fillings]
  rw [seq_nx (asg_own (ds := []) rfl rfl)]
  simp only [List.set]
  rw [seq_nx (a := .asg _ _ _) (τ := [.imm (encL wi), .imm (encS ga), .imm (encL ws), .own [], .imm (encS ga), .dead, .dead]) rfl]
  rw [seq_nx (a := .ite _ _ _) (τ := [.imm (encL wi), .imm (encS ga), .imm (encL ws), .own ((if ga = [] then [wi] else []).map encT), if ga = [] then .own (pl.map .int) else .imm (encS ga), .dead, .dead]) (by
    rw [q_ite, q_cmp, q_bi, q_rcons, q_var]
    simp only [rdS, List.getElem?_cons_zero, List.getElem?_cons_succ, q_bd, q_rnil, lenG, q_cI, q_eqLen0, q_asB]
    by_cases hga : ga = []
    · rw [if_pos hga] at hP
      rw [decide_eq_true hga, if_pos rfl, if_pos hga, if_pos hga]
      have hv : ev Φ (.x1 .lrg (.bi .len (.cons (.var 0) .nil))) [.imm (encL wi), .imm (encS ga), .imm (encL ws), .own [encT wi], .imm (encS ga), .dead, .dead] = .ok (.list (pl.map .int)) := by
        simp only [q_x1, q_bi, q_rcons, q_var, rdS, List.getElem?_cons_zero, q_bd, q_rnil, lenW]
        show bd (rngOk (.int 0) (.int wi.length)) (fun ds => Except.ok (PyData.list ds)) = _
        rw [rng_ok (by omega) (by omega) (by omega) (by omega) (by omega), hP]
        rfl
      have ht : biD .tuple [encL wi] = .ok (encT wi) := rfl
      rw [seq_nx (a := .app _ _) (τ := [.imm (encL wi), .imm (encS ga), .imm (encL ws), .own [encT wi], .imm (encS ga), .dead, .dead]) (by
        simp only [q_app, strict, q_bi, q_rcons, q_var, rdS, List.getElem?_cons_zero, q_bd, q_rnil, ht, ownAt, List.getElem?_cons_succ]
        rfl)]
      rw [seq_nx (asg_own hv rfl)]
      rfl
    · rw [decide_eq_false hga, if_neg Bool.false_ne_true, if_neg hga, if_neg hga, q_skip]
      rfl)]
  have hfz : frzS [.imm (encL wi), .imm (encS ga), .imm (encL ws), .own ((if ga = [] then [wi] else []).map encT), if ga = [] then .own (pl.map .int) else .imm (encS ga), .dead, .dead] 4 = [.imm (encL wi), .imm (encS ga), .imm (encL ws), .own ((if ga = [] then [wi] else []).map encT), .imm (encS pl), .dead, .dead] := by
    by_cases hga : ga = []
    · rw [if_pos hga, if_pos hga]; rfl
    · rw [if_neg hga] at hP
      rw [if_neg hga, if_neg hga, hP]; rfl
  have hlen : ((if ga = [] then [wi] else []).map encT).length + (pl.flatMap fun p => (fillAt wi ws p).map encT).length ≤ 10001 := by
    have a1 : ((if ga = [] then [wi] else []).map encT).length ≤ 1 := by split <;> simp
    have a2 := flatMap_len (fun p => (fillAt wi ws p).map encT) 100 pl fun p _ => by rw [List.length_map, fillAt, List.length_map]; exact g3
    have a3 : pl.length * 100 ≤ 100 * 100 := Nat.mul_le_mul_right _ hpl.1
    omega
  obtain ⟨τ, ⟨s5, rfl⟩, hl⟩ := loop_acc (Φ := Φ) (n := n) (tg := [5]) (it := .cons (.var 4) .nil) (body := b1_fillings) (enc := PyData.int) (St := fun b σ => ∃ s5, σ = [.imm (encL wi), .imm (encS ga), .imm (encL ws), .own b, .imm (encS pl), s5, .dead]) (fun p => (fillAt wi ws p).map encT) 10001 pl
    (b := (if ga = [] then [wi] else []).map encT) (σ := [.imm (encL wi), .imm (encS ga), .imm (encL ws), .own ((if ga = [] then [wi] else []).map encT), .imm (encS pl), .dead, .dead]) rfl rfl ⟨.dead, rfl⟩ hlen (by
    rintro p hp b σ ⟨s5, rfl⟩ hn
    refine ⟨_, ⟨.imm (.int p), rfl⟩, ?_⟩
    have hp0 := hpl.2 p hp
    simp only [bindT, q_bd, List.set, b1_fillings]
    have hv : ev Φ (.lc (.bi .tuple (.cons (.bin .Add (.bin .Add (.sl (.var 0) .nil (.cons (.var 5) .nil)) (.lst (.cons (.var 6) .nil))) (.sl (.var 0) (.cons (.bin .Add (.var 5) (.cI 1)) .nil) .nil)) .nil)) [6] true (.cons (.var 2) .nil) .nil) [.imm (encL wi), .imm (encS ga), .imm (encL ws), .own b, .imm (encS pl), .imm (.int p), .dead] = .ok (.list ((fillAt wi ws p).map encT)) := by
      have e2 : seqD (encL ws) = .ok (ws.map encC) := rfl
      simp only [q_lc, q_seqit, q_var, rdS, List.getElem?_cons_zero, List.getElem?_cons_succ, q_bd, e2]
      have s1 : slD (encL wi) none (some p) = .ok (encL (wi.take p.toNat)) := by
        show Except.ok (PyData.list (cutD (wi.map encC) none (some p))) = _
        rw [cut_to hp0, ← List.map_take]; rfl
      have s2 : slD (encL wi) (some (p + 1)) none = .ok (encL (wi.drop (p.toNat + 1))) := by
        show Except.ok (PyData.list (cutD (wi.map encC) (some (p + 1)) none)) = _
        have : (p + 1).toNat = p.toNat + 1 := by omega
        rw [cut_from (by omega), this, ← List.map_drop]; rfl
      rw [lcGo_map encC (fun w => encT (wi.take p.toNat ++ [w] ++ wi.drop (p.toNat + 1))) ws fun w _ => by
        have a1 : binD .Add (encL (wi.take p.toNat)) (.list [encC w]) = .ok (encL (wi.take p.toNat ++ [w])) := by
          unfold encL
          rw [add_LL _ _ (by rw [List.length_map, List.length_take, List.length_singleton]; omega), List.map_append]; rfl
        have a2 : binD .Add (encL (wi.take p.toNat ++ [w])) (encL (wi.drop (p.toNat + 1))) = .ok (encL (wi.take p.toNat ++ [w] ++ wi.drop (p.toNat + 1))) := by
          unfold encL
          rw [add_LL _ _ (by simp only [List.length_map, List.length_append, List.length_take, List.length_drop, List.length_singleton]; omega), ← List.map_append]
        have a3 : ∀ l, biD .tuple [encL l] = .ok (encT l) := fun _ => rfl
        simp only [bindT, wipeS, List.set, q_bd, q_cnil, if_true, strict, q_bi, q_rcons, q_bin, q_sl, q_var, rdS, List.getElem?_cons_zero, List.getElem?_cons_succ, q_pnil, q_pcons, q_part, s1, q_lst, q_scons, rdI, q_snil, a1, q_cI, q_add, s2, a2, q_rnil, a3]]
      rw [q_bd, fillAt, List.map_map]
      rfl
    simp only [q_seq, q_ext, strict, hv, q_bd, q_seqL, ownAt, List.getElem?_cons_zero, List.getElem?_cons_succ]
    rw [gd_pos (decide_eq_true (by omega))]
    rfl)
  rw [seq_nx (a := .frz _ _) (by rw [q_frz, hfz]; exact hl)]
  show endR (.ok (.rt (.list ((if ga = [] then [wi] else []).map encT ++ pl.flatMap fun p => (fillAt wi ws p).map encT)))) = _
  rw [q_endr, encLT, fills, hP, List.map_append, List.map_flatMap]
theorem k_fillings {Φ : Nat → FnS} (h : Φ 11 = F_fillings) (wi : List Card) (ga : List Int) (ws : List Card) (h1 : wi.length ≤ 100) (h2 : ga.length ≤ 100) (h3 : ws.length ≤ 100) (h4 : ∀ g ∈ ga, 0 ≤ g) : gd (Φ 11).pure ((Φ 11).m [encL wi, encS ga, encL ws]) = .ok (encLT (fills wi ga ws)) := by
  refine k_of h rfl ((m3_ok (decLC_enc wi) (decS_enc ga) (decLC_enc ws)).trans (gd_pos ?_))
  simp only [Bool.and_eq_true, decide_eq_true_eq, List.all_eq_true]
  exact ⟨⟨⟨h1, h2⟩, h3⟩, h4⟩
theorem ln_fillings (ds : List D) (r : D) (h : F_fillings.m ds = .ok r) : ds.length = F_fillings.ar := ln_m3 h
theorem fl_fillings (_ : F_fillings.pure = true) (ds : List D) (r : D) (h : F_fillings.m ds = .ok r) : flatTop r = true := fl_m3 (fun _ _ _ _ z => flt_gd (flt_encLT _) z) h
theorem fills_len (wi : List Card) (ga : List Int) (ws : List Card) (h1 : wi.length ≤ 100) (h2 : ga.length ≤ 100) (h3 : ws.length ≤ 100) : (fills wi ga ws).length ≤ 10001 := by
  unfold fills
  rw [List.length_append]
  have a2 := flatMap_len (fillAt wi ws) 100 (if ga = [] then upto 0 wi.length else ga) fun p _ => by rw [fillAt, List.length_map]; exact h3
  have a3 : (if ga = [] then upto 0 wi.length else ga).length ≤ 100 := by
    split
    · rw [upto_len]; omega
    · exact h2
  have a1 : (if ga = [] then [wi] else []).length ≤ 1 := by split <;> simp
  have a4 := Nat.mul_le_mul_right 100 a3
  omega
end Mt

set_option Elab.async false
set_option linter.all false
set_option maxRecDepth 100000
set_option maxHeartbeats 1000000
/-! Mirrors: runs, melds. -/
namespace Mt
open PySem PySem.Spec PyProof.Rows L2
/-! ### runs_from -/
def gapStep (cs : List Card) (s : Int) (wi : List Card) (ga : List Int) (r : Int) : List Int := if (r, s) ∈ cs then ga else ga ++ [(wi.length : Int)]
def runsGo (s f : Int) (cs ws : List Card) : List Int → List Card → List Int → List Meld → List Meld
  | [], _, _, fo => fo
  | r :: rs, wi, ga, fo =>
    if min 1 ws.length < (gapStep cs s wi ga r).length then fo
    else runsGo s f cs ws rs (wi ++ [(r, s)]) (gapStep cs s wi ga r) (if 3 ≤ wi.length + 1 then fo ++ (fills (wi ++ [(r, s)]) (gapStep cs s wi ga r) ws).map (.run s f) else fo)
def runsFrom (s f : Int) (cs ws : List Card) : List Meld := runsGo s f cs ws (upto f 14) [] [] []
theorem lenL (cs : List Card) : biD .len [.list (cs.map encC)] = .ok (.int (cs.length : Nat)) := by
  show Except.ok (PyData.int ((cs.map encC).length : Nat)) = _
  rw [List.length_map]
theorem lenS (ns : List Int) : biD .len [.list (ns.map .int)] = .ok (.int (ns.length : Nat)) := by
  show Except.ok (PyData.int ((ns.map PyData.int).length : Nat)) = _
  rw [List.length_map]
theorem runs_loop {Φ : Nat → FnS} {n : Nat} (h11 : Φ 11 = F_fillings) (s f : Int) (cs ws : List Card) (hw : ws.length ≤ 100) : ∀ (rs : List Int) (wi : List Card) (ga : List Int) (fo : List Meld) (s7 : Sl),
    wi.length + rs.length ≤ 14 → ga.length ≤ wi.length → (∀ g ∈ ga, 0 ≤ g) → fo.length ≤ 10001 * wi.length →
    ∃ fl, forGo (fun d σ => bd (bindT σ [7] true d) (evS Φ n b1_runs_from)) (rs.map .int) [.imm (.int s), .imm (.int f), .imm (encL cs), .imm (encL ws), .own (fo.map encM), .own (wi.map encC), .own (ga.map .int), s7, .dead] = .ok fl ∧
      (fl = .rt (encLM (runsGo s f cs ws rs wi ga fo)) ∨ ∃ s5 s6 t7, fl = .nx [.imm (.int s), .imm (.int f), .imm (encL cs), .imm (encL ws), .own ((runsGo s f cs ws rs wi ga fo).map encM), s5, s6, t7, .dead])
  | [], wi, ga, fo, s7, _, _, _, _ => ⟨_, rfl, .inr ⟨_, _, _, rfl⟩⟩
  | r :: rs, wi, ga, fo, s7, h1, h2, h3, h4 => by
    rw [List.length_cons] at h1
    rw [List.map_cons, forGo, runsGo]
    have hg2 : (gapStep cs s wi ga r).length ≤ (wi ++ [(r, s)]).length := by
      unfold gapStep
      rw [List.length_append, List.length_singleton]
      split
      · omega
      · rw [List.length_append, List.length_singleton]; omega
    have hg3 : ∀ g ∈ gapStep cs s wi ga r, 0 ≤ g := by
      unfold gapStep
      split
      · exact h3
      · intro g hg
        rcases List.mem_append.mp hg with z | z
        · exact h3 g z
        · rw [List.mem_singleton.mp z]; omega
    generalize hG : gapStep cs s wi ga r = ga' at hg2 hg3
    have hwl : (wi ++ [(r, s)]).length = wi.length + 1 := by rw [List.length_append, List.length_singleton]
    have p1 : evS Φ n (.ite (.cmp .NotIn (.tup (.cons (.var 7) (.cons (.var 0) .nil))) (.var 2)) (.seq (.app 6 (.bi .len (.cons (.var 5) .nil))) .skip) .skip) [.imm (.int s), .imm (.int f), .imm (encL cs), .imm (encL ws), .own (fo.map encM), .own (wi.map encC), .own (ga.map .int), .imm (.int r), .dead] = .ok (.nx [.imm (.int s), .imm (.int f), .imm (encL cs), .imm (encL ws), .own (fo.map encM), .own (wi.map encC), .own (ga'.map .int), .imm (.int r), .dead]) := by
      have hI : cmpD .NotIn (.tuple [.int r, .int s]) (encL cs) = .ok (.bool (!decide ((r, s) ∈ cs))) := q_ninL (r, s) cs
      simp only [q_ite, q_cmp, q_tup, q_scons, q_strict, rdI, q_snil, q_var, rdS, List.getElem?_cons_zero, List.getElem?_cons_succ, q_bd, hI, q_asB]
      subst hG
      unfold gapStep
      by_cases hm : (r, s) ∈ cs
      · rw [decide_eq_true hm, if_pos hm]; rfl
      · rw [decide_eq_false hm, if_neg hm]
        simp only [Bool.not_false, if_true, q_seq, q_app, strict, q_bi, q_rcons, q_var, rdS, List.getElem?_cons_zero, List.getElem?_cons_succ, q_bd, q_rnil, lenL, ownAt]
        rw [gd_pos (decide_eq_true (by rw [List.length_map]; omega)), List.map_append]
        rfl
    have p2 : evS Φ n (.app 5 (.tup (.cons (.var 7) (.cons (.var 0) .nil)))) [.imm (.int s), .imm (.int f), .imm (encL cs), .imm (encL ws), .own (fo.map encM), .own (wi.map encC), .own (ga'.map .int), .imm (.int r), .dead] = .ok (.nx [.imm (.int s), .imm (.int f), .imm (encL cs), .imm (encL ws), .own (fo.map encM), .own ((wi ++ [(r, s)]).map encC), .own (ga'.map .int), .imm (.int r), .dead]) := by
      simp only [q_app, strict, q_tup, q_scons, rdI, q_snil, List.getElem?_cons_zero, List.getElem?_cons_succ, q_bd, ownAt]
      rw [gd_pos (decide_eq_true (by rw [List.length_map]; omega)), List.map_append]
      rfl
    have hmin : (if (ws.length : Int) < 1 then (ws.length : Int) else 1) = (min 1 ws.length : Nat) := by
      by_cases q : ws.length < 1
      · rw [if_pos (by omega)]; omega
      · rw [if_neg (by omega)]; omega
    have hwL : biD .len [encL ws] = .ok (.int (ws.length : Nat)) := lenL ws
    have p3 : ev Φ (.cmp .Gt (.bi .len (.cons (.var 6) .nil)) (.bi .min2 (.cons (.cI 1) (.cons (.bi .len (.cons (.var 3) .nil)) .nil)))) [.imm (.int s), .imm (.int f), .imm (encL cs), .imm (encL ws), .own (fo.map encM), .own ((wi ++ [(r, s)]).map encC), .own (ga'.map .int), .imm (.int r), .dead] = .ok (.bool (decide (min 1 ws.length < ga'.length))) := by
      simp only [q_cmp, q_bi, q_rcons, q_var, rdS, List.getElem?_cons_zero, List.getElem?_cons_succ, q_bd, q_rnil, lenS, q_cI, hwL, q_min, q_gtI]
      rw [hmin]
      congr 3
      exact propext ⟨fun h => by omega, fun h => by omega⟩
    simp only [bindT, q_bd, List.set, b1_runs_from]
    rw [seq_nx p1, seq_nx p2, q_seq, q_ite, p3, q_bd, q_asB, q_bd]
    by_cases hc : min 1 ws.length < ga'.length
    · rw [decide_eq_true hc, if_pos rfl, if_pos hc]
      refine ⟨_, rfl, .inl rfl⟩
    · rw [decide_eq_false hc, if_neg Bool.false_ne_true, if_neg hc]
      simp only [q_skip, q_bd, q_then]
      have p4 : evS Φ n (.ite (.cmp .GtE (.bi .len (.cons (.var 5) .nil)) (.gI "LEAST_MELD" 3)) (.seq (.ext 4 (.lc (.tup (.cons (.cS "run") (.cons (.var 0) (.cons (.var 1) (.cons (.var 8) .nil))))) [8] true (.cons (.call 11 (.cons (.var 5) (.cons (.var 6) (.cons (.var 3) .nil)))) .nil) .nil)) .skip) .skip) [.imm (.int s), .imm (.int f), .imm (encL cs), .imm (encL ws), .own (fo.map encM), .own ((wi ++ [(r, s)]).map encC), .own (ga'.map .int), .imm (.int r), .dead] =
          .ok (.nx [.imm (.int s), .imm (.int f), .imm (encL cs), .imm (encL ws), .own ((if 3 ≤ wi.length + 1 then fo ++ (fills (wi ++ [(r, s)]) ga' ws).map (.run s f) else fo).map encM), .own ((wi ++ [(r, s)]).map encC), .own (ga'.map .int), .imm (.int r), .dead]) := by
        simp only [q_ite, q_cmp, q_bi, q_rcons, q_var, rdS, List.getElem?_cons_zero, List.getElem?_cons_succ, q_bd, q_rnil, lenL, q_gI, q_geI, q_asB, hwl]
        by_cases h3' : 3 ≤ wi.length + 1
        · rw [decide_eq_true (by omega), if_pos rfl, if_pos h3']
          have hfl := fills_len (wi ++ [(r, s)]) ga' ws (by rw [hwl]; omega) (by omega) hw
          have hk := k_fillings h11 (wi ++ [(r, s)]) ga' ws (by rw [hwl]; omega) (by omega) hw hg3
          have hv : ev Φ (.lc (.tup (.cons (.cS "run") (.cons (.var 0) (.cons (.var 1) (.cons (.var 8) .nil))))) [8] true (.cons (.call 11 (.cons (.var 5) (.cons (.var 6) (.cons (.var 3) .nil)))) .nil) .nil) [.imm (.int s), .imm (.int f), .imm (encL cs), .imm (encL ws), .own (fo.map encM), .own ((wi ++ [(r, s)]).map encC), .own (ga'.map .int), .imm (.int r), .dead] = .ok (.list ((fills (wi ++ [(r, s)]) ga' ws).map fun z => encM (.run s f z))) := by
            simp only [q_lc, q_seqit, q_call, q_rcons, q_var, rdS, List.getElem?_cons_zero, List.getElem?_cons_succ, q_bd, q_rnil]
            rw [show (PyData.list ((wi ++ [(r, s)]).map encC)) = encL (wi ++ [(r, s)]) from rfl, show (PyData.list (ga'.map PyData.int)) = encS ga' from rfl, hk, q_bd]
            rw [show seqD (encLT (fills (wi ++ [(r, s)]) ga' ws)) = .ok ((fills (wi ++ [(r, s)]) ga' ws).map encT) from rfl, q_bd]
            rw [lcGo_map encT (fun z => encM (.run s f z)) (fills (wi ++ [(r, s)]) ga' ws) fun z _ => by
              simp only [bindT, wipeS, List.set, q_bd, q_cnil, if_true, strict, q_tup, q_scons, q_cS, rdI, List.getElem?_cons_zero, List.getElem?_cons_succ, q_snil]
              rfl]
            rfl
          simp only [q_seq, q_ext, strict, hv, q_bd, q_seqL, ownAt, List.getElem?_cons_zero, List.getElem?_cons_succ]
          have hb : fo.length ≤ 10001 * 14 := Nat.le_trans h4 (Nat.mul_le_mul_left _ (by omega))
          rw [gd_pos (decide_eq_true (by rw [List.length_map, List.length_map]; omega)), List.map_append (f := encM), List.map_map]
          rfl
        · rw [decide_eq_false (by omega), if_neg Bool.false_ne_true, if_neg h3']
          rfl
      rw [seq_nx p4, q_skip, q_bd, loopF]
      refine runs_loop h11 s f cs ws hw rs (wi ++ [(r, s)]) ga' _ _ (by rw [hwl]; omega) hg2 hg3 ?_
      rw [hwl]
      have hfl := fills_len (wi ++ [(r, s)]) ga' ws (by rw [hwl]; omega) (by omega) hw
      split
      · rw [List.length_append, List.length_map]; omega
      · omega
def F_runs_from : FnS := ⟨4, m4 decI decI decLC decLC fun s f cs ws => gd (decide (1 ≤ f) && decide (f ≤ 14) && decide (ws.length ≤ 100)) (.ok (encLM (runsFrom s f cs ws))), true⟩
theorem run_runs_from {Φ : Nat → FnS} {n : Nat} (h11 : Φ 11 = F_fillings) (ds : List D) (r : D) (h : F_runs_from.m ds = .ok r) : runF Φ n c_runs_from n_runs_from.length ds = .ok r := by
  obtain ⟨d1, d2, d3, d4, s, f, cs, ws, rfl, e1, e2, e3, e4, hf⟩ := m4_inv h
  clear h
  have hx := decI_eq e1
  have hx2 := decI_eq e2
  have hy := decLC_eq e3
  have hz := decLC_eq e4
  subst hx hx2 hy hz
  obtain ⟨g, hg⟩ := gd_inv hf
  cases hg
  simp only [Bool.and_eq_true, decide_eq_true_eq] at g
  obtain ⟨⟨g1, g2⟩, g3⟩ := g
  have e : startS n_runs_from.length [.int s, .int f, encL cs, encL ws] = [.imm (.int s), .imm (.int f), .imm (encL cs), .imm (encL ws), .dead, .dead, .dead, .dead, .dead] := rfl
  obtain ⟨fl, hl, hfl⟩ := runs_loop (n := n) h11 s f cs ws g3 (upto f 14) [] [] [] .dead (by rw [upto_len, List.length_nil]; omega) (Nat.le_refl _) (fun _ h => nomatch h) (Nat.zero_le _)
  rw [runF, e, c_runs_from]
  rw [seq_nx (asg_own (ds := []) rfl rfl)]
  simp only [List.set]
  rw [seq_nx (asg_own (ds := []) rfl rfl)]
  simp only [List.set]
  rw [seq_nx (asg_own (ds := []) rfl rfl)]
  simp only [List.set]
  have hlp : evS Φ n (.loop [7] true (.rng2 (.var 1) (.bin .Add (.gI "MOST_RANK" 13) (.cI 1))) b1_runs_from) [.imm (.int s), .imm (.int f), .imm (encL cs), .imm (encL ws), .own [], .own [], .own [], .dead, .dead] = .ok fl := by
    rw [q_loop, q_rng2]
    simp only [q_var, rdS, List.getElem?_cons_zero, List.getElem?_cons_succ, q_bd, q_bin, q_gI, q_cI, q_add]
    rw [rng_ok (by omega) (by omega) (by omega) (by omega) (by omega)]
    exact hl
  rw [q_seq, hlp, q_bd]
  rcases hfl with rfl | ⟨s5, s6, t7, rfl⟩
  · rfl
  · rfl
theorem k_runs_from {Φ : Nat → FnS} (h : Φ 12 = F_runs_from) (s f : Int) (cs ws : List Card) (h1 : 1 ≤ f) (h2 : f ≤ 14) (h3 : ws.length ≤ 100) : gd (Φ 12).pure ((Φ 12).m [.int s, .int f, encL cs, encL ws]) = .ok (encLM (runsFrom s f cs ws)) := by
  refine k_of h rfl ((m4_ok (decI_int s) (decI_int f) (decLC_enc cs) (decLC_enc ws)).trans (gd_pos ?_))
  simp only [Bool.and_eq_true, decide_eq_true_eq]
  exact ⟨⟨h1, h2⟩, h3⟩
theorem ln_runs_from (ds : List D) (r : D) (h : F_runs_from.m ds = .ok r) : ds.length = F_runs_from.ar := ln_m4 h
theorem fl_runs_from (_ : F_runs_from.pure = true) (ds : List D) (r : D) (h : F_runs_from.m ds = .ok r) : flatTop r = true := fl_m4 (fun _ _ _ _ _ z => flt_gd (flt_encLM _) z) h
theorem runsGo_len (s f : Int) (cs ws : List Card) (hw : ws.length ≤ 100) : ∀ (rs : List Int) (wi : List Card) (ga : List Int) (fo : List Meld), wi.length + rs.length ≤ 14 → ga.length ≤ wi.length → fo.length ≤ 10001 * wi.length → (runsGo s f cs ws rs wi ga fo).length ≤ 10001 * 14
  | [], wi, ga, fo, h1, _, h3 => by
    rw [runsGo]; exact Nat.le_trans h3 (Nat.mul_le_mul_left _ (by rw [List.length_nil] at h1; omega))
  | r :: rs, wi, ga, fo, h1, h2, h3 => by
    rw [List.length_cons] at h1
    have hg2 : (gapStep cs s wi ga r).length ≤ (wi ++ [(r, s)]).length := by
      unfold gapStep
      rw [List.length_append, List.length_singleton]
      split
      · omega
      · rw [List.length_append, List.length_singleton]; omega
    have hwl : (wi ++ [(r, s)]).length = wi.length + 1 := by rw [List.length_append, List.length_singleton]
    rw [runsGo]
    split
    · exact Nat.le_trans h3 (Nat.mul_le_mul_left _ (by omega))
    · refine runsGo_len s f cs ws hw rs _ _ _ (by rw [hwl]; omega) hg2 ?_
      rw [hwl]
      have hfl := fills_len (wi ++ [(r, s)]) (gapStep cs s wi ga r) ws (by rw [hwl]; omega) (by omega) hw
      split
      · rw [List.length_append, List.length_map]; omega
      · omega
theorem runsFrom_len (s f : Int) (cs ws : List Card) (h1 : 1 ≤ f) (h3 : ws.length ≤ 100) : (runsFrom s f cs ws).length ≤ 10001 * 14 :=
  runsGo_len s f cs ws h3 _ _ _ _ (by rw [upto_len, List.length_nil]; omega) (Nat.le_refl _) (Nat.zero_le _)
end Mt

set_option Elab.async false
set_option linter.all false
set_option maxRecDepth 100000
set_option maxHeartbeats 1000000
/-! Mirrors: runs of a suit, melds of cards, holding. -/
namespace Mt
open PySem PySem.Spec PyProof.Rows L2
def runsOf (s : Int) (cs ws : List Card) : List Meld := (upto 1 12).flatMap fun f => runsFrom s f cs ws
theorem runsOf_len (s : Int) (cs ws : List Card) (h3 : ws.length ≤ 100) : (runsOf s cs ws).length ≤ 1540154 := by
  have := flatMap_len (fun f => runsFrom s f cs ws) (10001 * 14) (upto 1 12) fun f hf => runsFrom_len s f cs ws (mem_upto hf).1 h3
  rw [upto_len] at this
  exact this
def F_runs_of : FnS := ⟨3, m3 decI decLC decLC fun s cs ws => gd (decide (ws.length ≤ 100)) (.ok (encLM (runsOf s cs ws))), true⟩
theorem run_runs_of {Φ : Nat → FnS} {n : Nat} (h12 : Φ 12 = F_runs_from) (ds : List D) (r : D) (h : F_runs_of.m ds = .ok r) : runF Φ n c_runs_of n_runs_of.length ds = .ok r := by
  obtain ⟨d1, d2, d3, s, cs, ws, rfl, e1, e2, e3, hf⟩ := m3_inv h
  clear h
  have hx := decI_eq e1
  have hy := decLC_eq e2
  have hz := decLC_eq e3
  subst hx hy hz
  obtain ⟨g, hg⟩ := gd_inv hf
  cases hg
  have g := of_decide_eq_true g
  have e : startS n_runs_of.length [.int s, encL cs, encL ws] = [.imm (.int s), .imm (encL cs), .imm (encL ws), .dead, .dead] := rfl
  have hlen : ((upto 1 12).flatMap fun f => (runsFrom s f cs ws).map encM).length ≤ 1540154 := by
    have := runsOf_len s cs ws g
    rw [runsOf, List.length_flatMap] at this
    rw [List.length_flatMap]
    simp only [List.length_map]
    exact this
  obtain ⟨τ, ⟨s4, rfl⟩, hl⟩ := loop_acc (Φ := Φ) (n := n) (tg := [4]) (it := .rng2 (.cI 1) (.bin .Sub (.bin .Add (.gI "MOST_RANK" 13) (.cI 2)) (.gI "LEAST_MELD" 3))) (body := b1_runs_of) (enc := PyData.int) (St := fun b σ => ∃ s4, σ = [.imm (.int s), .imm (encL cs), .imm (encL ws), .own b, s4]) (fun f => (runsFrom s f cs ws).map encM) 1540154 (upto 1 12)
    (b := []) (σ := [.imm (.int s), .imm (encL cs), .imm (encL ws), .own [], .dead]) (by
      simp only [q_rng2, q_cI, q_bin, q_gI, q_bd, q_add, q_sub]
      exact rng_ok (by omega) (by omega) (by omega) (by omega) (by omega)) rfl ⟨.dead, rfl⟩ (by rw [List.length_nil, Nat.zero_add]; exact hlen) (by
    rintro f hf b σ ⟨s4, rfl⟩ hn
    refine ⟨_, ⟨.imm (.int f), rfl⟩, ?_⟩
    have hf2 := mem_upto hf
    rw [List.length_map] at hn
    simp only [bindT, q_bd, List.set, b1_runs_of, q_seq, q_ext, strict, q_call, q_rcons, q_var, rdS, List.getElem?_cons_zero, List.getElem?_cons_succ, q_rnil, k_runs_from h12 s f cs ws hf2.1 (by omega) g, encLM, q_seqL, ownAt]
    rw [gd_pos (decide_eq_true (by rw [List.length_map]; omega))]
    rfl)
  rw [runF, e, c_runs_of]
  rw [seq_nx (asg_own (ds := []) rfl rfl)]
  simp only [List.set]
  rw [seq_nx hl]
  show endR (.ok (.rt (.list ([] ++ (upto 1 12).flatMap fun f => (runsFrom s f cs ws).map encM)))) = _
  rw [q_endr, List.nil_append, encLM, runsOf, List.map_flatMap]
theorem k_runs_of {Φ : Nat → FnS} (h : Φ 13 = F_runs_of) (s : Int) (cs ws : List Card) (h3 : ws.length ≤ 100) : gd (Φ 13).pure ((Φ 13).m [.int s, encL cs, encL ws]) = .ok (encLM (runsOf s cs ws)) := by
  exact k_of h rfl ((m3_ok (decI_int s) (decLC_enc cs) (decLC_enc ws)).trans (gd_pos (decide_eq_true h3)))
theorem ln_runs_of (ds : List D) (r : D) (h : F_runs_of.m ds = .ok r) : ds.length = F_runs_of.ar := ln_m3 h
theorem fl_runs_of (_ : F_runs_of.pure = true) (ds : List D) (r : D) (h : F_runs_of.m ds = .ok r) : flatTop r = true := fl_m3 (fun _ _ _ _ z => flt_gd (flt_encLM _) z) h
/-! ### melds_of -/
def wildsOf (cs : List Card) : List Card := sortE encC (cs.filter fun c => c.1 == 0)
def plainOf (cs : List Card) : List Card := cs.filter fun c => !(c.1 == 0)
def allMelds (cs : List Card) : List Meld := ((upto 1 14).flatMap fun r => setsOf r (plainOf cs) (wildsOf cs)) ++ (upto 0 4).flatMap fun s => runsOf s (plainOf cs) (wildsOf cs)
def melds (cs : List Card) : List Meld := sortE encM (allMelds cs)
def encTM (ms : List Meld) : D := .tuple (ms.map encM)
def cardsOk (cs : List Card) : Bool := decide (cs.length ≤ 100) && (upto 1 14).all fun r => decide (((plainOf cs).filter fun c => c.1 == r).length ≤ 12)
def F_melds_of : FnS := ⟨1, m1 (decT decC) fun cs => gd (cardsOk cs) (.ok (encTM (melds cs))), true⟩
theorem alike_ET (a b : List Card) : PySem.W.alike (encT a) (encT b) = true := alike_T a b
theorem alk_M (a b : Meld) : alk (encM a) (encM b) = true := by
  cases a with
  | set r cs =>
    cases b with
    | set r' cs' =>
      simp [encM, alk, alkAll, PySem.W.alike, alike_ET]
    | run s f cs' =>
      have e : PyData.eqv (.str "set") (.str "run") = false := by decide
      simp [encM, alk, alkAll, PySem.W.alike, e]
  | run s f cs =>
    cases b with
    | set r cs' =>
      have e : PyData.eqv (.str "run") (.str "set") = false := by decide
      simp [encM, alk, alkAll, PySem.W.alike, e]
    | run s' f' cs' =>
      simp [encM, alk, alkAll, PySem.W.alike, alike_ET]
theorem depth_T (cs : List Card) : (encT cs).depth ≤ 2 := by
  have : PyData.depthAll (cs.map encC) ≤ 1 := by
    induction cs with
    | nil => decide
    | cons c r ih =>
      rw [List.map_cons, PyData.depthAll, depth_enc]
      omega
  show PyData.depthAll (cs.map encC) + 1 ≤ 2
  omega
theorem depth_M (m : Meld) : (encM m).depth ≤ 60 := by
  cases m with
  | set r cs =>
    have := depth_T cs
    show PyData.depthAll [.str "set", .int r, encT cs] + 1 ≤ 60
    simp only [PyData.depthAll, PyData.depth]
    omega
  | run s f cs =>
    have := depth_T cs
    show PyData.depthAll [.str "run", .int s, .int f, encT cs] + 1 ≤ 60
    simp only [PyData.depthAll, PyData.depth]
    omega
theorem tup_M (m : Meld) : ∃ x r, encM m = .tuple (x :: r) := by cases m <;> exact ⟨_, _, rfl⟩
theorem srtM (ms : List Meld) : biD .sorted [.list (ms.map encM)] = .ok (.list ((sortE encM ms).map encM)) := srt_L encM ms alk_M tup_M depth_M
theorem srtMT (ms : List Meld) : biD .sorted [.tuple (ms.map encM)] = .ok (.list ((sortE encM ms).map encM)) := srt_T encM ms alk_M tup_M depth_M
theorem setsOf_len (r : Int) (cs ws : List Card) (h1 : (cs.filter fun c => c.1 == r).length ≤ 12) (h2 : ws.length ≤ 100) : (setsOf r cs ws).length ≤ 413696 := by
  have a := flatMap_len (setsBy r ws) 101 (chs (cs.filter fun c => c.1 == r)) fun s _ => by have := setsBy_len r ws s; omega
  rw [chs_len] at a
  have b : 2 ^ (cs.filter fun c => c.1 == r).length ≤ 4096 := by
    calc 2 ^ (cs.filter fun c => c.1 == r).length ≤ 2 ^ 12 := Nat.pow_le_pow_right (by decide) h1
      _ = 4096 := rfl
  have c := Nat.mul_le_mul_right 101 b
  exact Nat.le_trans a c
theorem run_melds_of {Φ : Nat → FnS} {n : Nat} (h0 : Φ 0 = F_is_wild) (h10 : Φ 10 = F_sets_of) (h13 : Φ 13 = F_runs_of) (ds : List D) (r : D) (h : F_melds_of.m ds = .ok r) : runF Φ n c_melds_of n_melds_of.length ds = .ok r := by
  obtain ⟨d1, cs, rfl, e1, hf⟩ := m1_inv h
  clear h
  have hx := decT_eq e1
  subst hx
  obtain ⟨g, hg⟩ := gd_inv hf
  cases hg
  simp only [cardsOk, Bool.and_eq_true, decide_eq_true_eq, List.all_eq_true] at g
  obtain ⟨g1, g2⟩ := g
  have e : startS n_melds_of.length [encT cs] = [.imm (encT cs), .dead, .dead, .dead, .dead, .dead, .dead] := rfl
  have hws : (wildsOf cs).length ≤ 100 := by
    rw [wildsOf, sortE_len]
    exact Nat.le_trans (List.length_filter_le ..) g1
  have eT : seqD (encT cs) = .ok (cs.map encC) := rfl
  have v1 : ev Φ (.bi .sorted (.cons (.lc (.var 6) [6] true (.cons (.var 0) .nil) (.cons (.call 0 (.cons (.var 6) .nil)) .nil)) .nil)) [.imm (encT cs), .dead, .dead, .dead, .dead, .dead, .dead] = .ok (.list ((wildsOf cs).map encC)) := by
    simp only [q_bi, q_rcons, q_lc, q_seqit, q_var, rdS, List.getElem?_cons_zero, q_bd, eT]
    rw [lcGo_filter encC (fun c => c.1 == 0) encC cs fun c _ => by
      simp only [bindT, wipeS, List.set, q_bd, q_ccons, q_call, q_rcons, q_var, rdS, List.getElem?_cons_zero, List.getElem?_cons_succ, q_rnil, k_is_wild h0, q_asB, q_strict, rdI]
      cases (c.1 == 0) <;> rfl]
    simp only [q_bd, q_rnil]
    exact srtC _
  have v2 : ev Φ (.lc (.var 6) [6] true (.cons (.var 0) .nil) (.cons (.not (.call 0 (.cons (.var 6) .nil))) .nil)) [.imm (encT cs), .own ((wildsOf cs).map encC), .dead, .dead, .dead, .dead, .dead] = .ok (.list ((plainOf cs).map encC)) := by
    simp only [q_lc, q_seqit, q_var, rdS, List.getElem?_cons_zero, q_bd, eT]
    rw [lcGo_filter encC (fun c => !(c.1 == 0)) encC cs fun c _ => by
      simp only [bindT, wipeS, List.set, q_bd, q_ccons, q_not, q_call, q_rcons, q_var, rdS, List.getElem?_cons_zero, List.getElem?_cons_succ, q_rnil, k_is_wild h0, q_asB, q_strict, rdI]
      cases (c.1 == 0) <;> rfl]
    rfl
  have hlen1 : ((upto 1 14).flatMap fun r => (setsOf r (plainOf cs) (wildsOf cs)).map encM).length ≤ 5378048 := by
    have := flatMap_len (fun r => (setsOf r (plainOf cs) (wildsOf cs)).map encM) 413696 (upto 1 14) fun r hr => by rw [List.length_map]; exact setsOf_len r _ _ (g2 r hr) hws
    rw [upto_len] at this
    exact this
  have hlen2 : ((upto 0 4).flatMap fun s => (runsOf s (plainOf cs) (wildsOf cs)).map encM).length ≤ 6160616 := by
    have := flatMap_len (fun s => (runsOf s (plainOf cs) (wildsOf cs)).map encM) 1540154 (upto 0 4) fun s _ => by rw [List.length_map]; exact runsOf_len s _ _ hws
    rw [upto_len] at this
    exact this
  obtain ⟨τ, ⟨s4, rfl⟩, hl⟩ := loop_acc (Φ := Φ) (n := n) (tg := [4]) (it := .rng2 (.cI 1) (.bin .Add (.gI "MOST_RANK" 13) (.cI 1))) (body := b1_melds_of) (enc := PyData.int) (St := fun b σ => ∃ s4, σ = [.imm (encT cs), .own ((wildsOf cs).map encC), .own ((plainOf cs).map encC), .own b, s4, .dead, .dead]) (fun r => (setsOf r (plainOf cs) (wildsOf cs)).map encM) 5378048 (upto 1 14)
    (b := []) (σ := [.imm (encT cs), .own ((wildsOf cs).map encC), .own ((plainOf cs).map encC), .own [], .dead, .dead, .dead]) (by
      simp only [q_rng2, q_cI, q_bin, q_gI, q_bd, q_add]
      exact rng_ok (by omega) (by omega) (by omega) (by omega) (by omega)) rfl ⟨.dead, rfl⟩ (by rw [List.length_nil, Nat.zero_add]; exact hlen1) (by
    rintro r hr b σ ⟨s4, rfl⟩ hn
    refine ⟨_, ⟨.imm (.int r), rfl⟩, ?_⟩
    rw [List.length_map] at hn
    have hk := k_sets_of h10 r (plainOf cs) (wildsOf cs) (g2 r hr) hws
    unfold encL encLM at hk
    simp only [bindT, q_bd, List.set, b1_melds_of, q_seq, q_ext, strict, q_call, q_rcons, q_var, rdS, List.getElem?_cons_zero, List.getElem?_cons_succ, q_rnil, hk, q_seqL, ownAt]
    rw [gd_pos (decide_eq_true (by rw [List.length_map]; omega))]
    rfl)
  obtain ⟨τ, ⟨s5, rfl⟩, hl2⟩ := loop_acc (Φ := Φ) (n := n) (tg := [5]) (it := .rng1 (.bin .Add (.gI "MOST_SUIT" 3) (.cI 1))) (body := b2_melds_of) (enc := PyData.int) (St := fun b σ => ∃ s5, σ = [.imm (encT cs), .own ((wildsOf cs).map encC), .own ((plainOf cs).map encC), .own b, s4, s5, .dead]) (fun s => (runsOf s (plainOf cs) (wildsOf cs)).map encM) 11538664 (upto 0 4)
    (b := [] ++ (upto 1 14).flatMap fun r => (setsOf r (plainOf cs) (wildsOf cs)).map encM) (σ := [.imm (encT cs), .own ((wildsOf cs).map encC), .own ((plainOf cs).map encC), .own ([] ++ (upto 1 14).flatMap fun r => (setsOf r (plainOf cs) (wildsOf cs)).map encM), s4, .dead, .dead]) (by
      simp only [q_rng1, q_cI, q_bin, q_gI, q_bd, q_add]
      exact rng_ok (by omega) (by omega) (by omega) (by omega) (by omega)) rfl ⟨.dead, rfl⟩ (by rw [List.nil_append]; omega) (by
    rintro s hs b σ ⟨s5, rfl⟩ hn
    refine ⟨_, ⟨.imm (.int s), rfl⟩, ?_⟩
    rw [List.length_map] at hn
    have hk := k_runs_of h13 s (plainOf cs) (wildsOf cs) hws
    unfold encL encLM at hk
    simp only [bindT, q_bd, List.set, b2_melds_of, q_seq, q_ext, strict, q_call, q_rcons, q_var, rdS, List.getElem?_cons_zero, List.getElem?_cons_succ, q_rnil, hk, q_seqL, ownAt]
    rw [gd_pos (decide_eq_true (by rw [List.length_map]; omega))]
    rfl)
  rw [runF, e, c_melds_of]
  rw [seq_nx (asg_own v1 rfl)]
  simp only [List.set]
  rw [seq_nx (asg_own v2 rfl)]
  simp only [List.set]
  rw [seq_nx (asg_own (ds := []) rfl rfl)]
  simp only [List.set]
  rw [seq_nx hl, seq_nx hl2]
  have hA : ([] ++ (upto 1 14).flatMap fun r => (setsOf r (plainOf cs) (wildsOf cs)).map encM) ++ ((upto 0 4).flatMap fun s => (runsOf s (plainOf cs) (wildsOf cs)).map encM) = (allMelds cs).map encM := by
    rw [allMelds, List.map_append, List.map_flatMap, List.map_flatMap, List.nil_append]
  simp only [q_seq, q_ret, q_bi, q_rcons, q_var, rdS, List.getElem?_cons_zero, List.getElem?_cons_succ, q_bd, q_rnil, hA, srtM, q_tupL]
  rfl
theorem k_melds_of {Φ : Nat → FnS} (h : Φ 14 = F_melds_of) (cs : List Card) (h1 : cardsOk cs = true) : gd (Φ 14).pure ((Φ 14).m [encT cs]) = .ok (encTM (melds cs)) := by
  exact k_of h rfl ((m1_ok (decT_enc cs)).trans (gd_pos h1))
theorem flt_encTM (ms : List Meld) : flatTop (encTM ms) = true := flatAll_map _ _ flat_encM
theorem ln_melds_of (ds : List D) (r : D) (h : F_melds_of.m ds = .ok r) : ds.length = F_melds_of.ar := ln_m1 h
theorem fl_melds_of (_ : F_melds_of.pure = true) (ds : List D) (r : D) (h : F_melds_of.m ds = .ok r) : flatTop r = true := fl_m1 (fun _ _ z => flt_gd (flt_encTM _) z) h
/-! ### holding -/
def hold (cs : List Card) (c : Card) : List Meld := (melds cs).filter fun m => decide (c ∈ m.cards)
def F_holding : FnS := ⟨2, m2 (decT decC) decC fun cs c => gd (cardsOk cs) (.ok (encTM (hold cs c))), true⟩
theorem ix_last (m : Meld) : ixD (encM m) (.int (-1)) = .ok (encT m.cards) := by cases m <;> rfl
theorem run_holding {Φ : Nat → FnS} {n : Nat} (h14 : Φ 14 = F_melds_of) (ds : List D) (r : D) (h : F_holding.m ds = .ok r) : runF Φ n c_holding n_holding.length ds = .ok r := by
  obtain ⟨d1, d2, cs, c, rfl, e1, e2, hf⟩ := m2_inv h
  clear h
  have hx := decT_eq e1
  have hy := decC_eq e2
  subst hx hy
  obtain ⟨g, hg⟩ := gd_inv hf
  cases hg
  have e : startS n_holding.length [encT cs, encC c] = [.imm (encT cs), .imm (encC c), .dead] := rfl
  have eT : ∀ ms, seqD (encTM ms) = .ok (ms.map encM) := fun _ => rfl
  rw [runF, e, c_holding]
  simp only [q_seq, q_ret, q_bi, q_rcons, q_lc, q_seqit, q_call, q_var, rdS, List.getElem?_cons_zero, q_bd, q_rnil, k_melds_of h14 cs g, eT]
  rw [lcGo_filter encM (fun m => decide (c ∈ m.cards)) encM (melds cs) fun m _ => by
    simp only [bindT, wipeS, List.set, q_bd, q_ccons, q_cmp, q_ix, q_neg, q_cI, q_negD, q_var, rdS, List.getElem?_cons_zero, List.getElem?_cons_succ, ix_last, q_inT, q_asB, q_strict, rdI]
    cases decide (c ∈ m.cards) <;> rfl]
  rfl
theorem k_holding {Φ : Nat → FnS} (h : Φ 16 = F_holding) (cs : List Card) (c : Card) (h1 : cardsOk cs = true) : gd (Φ 16).pure ((Φ 16).m [encT cs, encC c]) = .ok (encTM (hold cs c)) := by
  exact k_of h rfl ((m2_ok (decT_enc cs) (decC_enc c)).trans (gd_pos h1))
theorem ln_holding (ds : List D) (r : D) (h : F_holding.m ds = .ok r) : ds.length = F_holding.ar := ln_m2 h
theorem fl_holding (_ : F_holding.pure = true) (ds : List D) (r : D) (h : F_holding.m ds = .ok r) : flatTop r = true := fl_m2 (fun _ _ _ z => flt_gd (flt_encTM _) z) h
end Mt

set_option Elab.async false
set_option linter.all false
set_option maxRecDepth 100000
set_option maxHeartbeats 1000000
/-! Plain facts: the order of data, hands of cards. -/
namespace Mt
open PySem PySem.Spec PyProof.Rows L2
/-! ### the order -/
theorem leD_eq (a b : D) : leD a b = !PySem.W.dataLt b a := rfl
theorem leD_anti {a b : D} (h1 : leD a b = true) (h2 : leD b a = true) : PySem.W.keyToks a = PySem.W.keyToks b := by
  rw [leD_eq, Bool.not_eq_true'] at h1 h2
  exact PyProof.Rows.lex_total _ _ h2 h1
theorem leD_total (a b : D) : (leD a b || leD b a) = true := by
  rw [leD_eq, leD_eq]
  cases h : PySem.W.dataLt b a with
  | false => rfl
  | true =>
    cases h2 : PySem.W.dataLt a b with
    | false => rfl
    | true =>
      have := PyProof.Rows.lex_trans _ _ _ h h2
      rw [PyProof.Rows.lex_irrefl] at this
      cases this
theorem leD_trans (a b c : D) (h1 : leD a b = true) (h2 : leD b c = true) : leD a c = true := by
  rw [leD_eq, Bool.not_eq_true'] at h1 h2 ⊢
  cases h : PySem.W.dataLt c a with
  | false => rfl
  | true =>
    rcases PyProof.Rows.lex_negTrans _ (PySem.W.keyToks b) _ h with z | z
    · exact absurd z (by rw [show PyProof.Rows.lexLt PyProof.Rows.itemOrd (PySem.W.keyToks c) (PySem.W.keyToks b) = false from h2]; exact Bool.false_ne_true)
    · exact absurd z (by rw [show PyProof.Rows.lexLt PyProof.Rows.itemOrd (PySem.W.keyToks b) (PySem.W.keyToks a) = false from h1]; exact Bool.false_ne_true)
section
variable {α : Type} {enc : α → D}
theorem sortE_perm (enc : α → D) (l : List α) : (sortE enc l).Perm l := List.mergeSort_perm l _
theorem mem_sortE {a : α} {l : List α} : a ∈ sortE enc l ↔ a ∈ l := List.mem_mergeSort
theorem sortE_pw (enc : α → D) (l : List α) : (sortE enc l).Pairwise fun a b => leD (enc a) (enc b) = true := by
  have := List.pairwise_mergeSort (le := fun a b => leD (enc a) (enc b)) (fun a b c => leD_trans _ _ _) (fun a b => leD_total _ _) l
  exact this
theorem sortE_eq (inj : ∀ a b, PySem.W.keyToks (enc a) = PySem.W.keyToks (enc b) → a = b) {l l' : List α} (h : l.Perm l') : sortE enc l = sortE enc l' :=
  List.Perm.eq_of_pairwise (fun a b _ _ h1 h2 => inj a b (leD_anti h1 h2)) (sortE_pw enc l) (sortE_pw enc l') (((sortE_perm enc l).trans h).trans (sortE_perm enc l').symm)
end
theorem toks_C (c : Card) : PySem.W.keyToks (encC c) = [.inl 1, .inl c.1, .inl 1, .inl c.2, .inl 0] := rfl
theorem inj_C (a b : Card) (h : PySem.W.keyToks (encC a) = PySem.W.keyToks (encC b)) : a = b := by
  rw [toks_C, toks_C] at h
  simp only [List.cons.injEq, Sum.inl.injEq, and_true, true_and] at h
  exact Prod.ext h.1 h.2
theorem inj_T : ∀ (a b : List Card), PySem.W.keyToksAll (a.map encC) = PySem.W.keyToksAll (b.map encC) → a = b
  | [], [], _ => rfl
  | [], b :: bs, h => by
    rw [List.map_nil, List.map_cons, PySem.W.toks_all_cons, PySem.W.keyToksAll] at h
    simp at h
  | a :: as, [], h => by
    rw [List.map_nil, List.map_cons, PySem.W.toks_all_cons, PySem.W.keyToksAll] at h
    simp at h
  | a :: as, b :: bs, h => by
    rw [List.map_cons, List.map_cons, PySem.W.toks_all_cons, PySem.W.toks_all_cons, toks_C, toks_C] at h
    simp only [List.cons_append, List.nil_append, List.cons.injEq, Sum.inl.injEq, true_and] at h
    rw [inj_T as bs h.2.2, Prod.ext h.1 h.2.1]
theorem leC_eq (a b : Card) : leD (encC a) (encC b) = decide (a.1 < b.1 ∨ (a.1 = b.1 ∧ a.2 ≤ b.2)) := by
  have := congrFun (congrFun (PySem.W.dataLe_ii (β := Card) (fun c => c.1) (fun c => c.2)) a) b
  exact this
/-! ### hands -/
def okC (c : Card) : Prop := (c.1 = 0 ∧ 0 ≤ c.2 ∧ c.2 ≤ 1) ∨ (1 ≤ c.1 ∧ c.1 ≤ 13 ∧ 0 ≤ c.2 ∧ c.2 ≤ 3)
structure Hand (cs : List Card) : Prop where
  nd : cs.Nodup
  ok : ∀ c ∈ cs, okC c
def allC : List Card := (upto 0 2).map (fun s => (0, s)) ++ (upto 1 14).flatMap fun r => (upto 0 4).map fun s => (r, s)
theorem okC_mem {c : Card} (h : okC c) : c ∈ allC := by
  obtain ⟨r, s⟩ := c
  rcases h with ⟨rfl, h2, h3⟩ | ⟨h1, h2, h3, h4⟩
  · exact List.mem_append_left _ (List.mem_map.mpr ⟨s, upto_mem h2 (by omega), rfl⟩)
  · exact List.mem_append_right _ (List.mem_flatMap.mpr ⟨r, upto_mem h1 (by omega), List.mem_map.mpr ⟨s, upto_mem h3 (by omega), rfl⟩⟩)
theorem allC_len : allC.length = 54 := by decide +kernel
theorem Hand.len {cs : List Card} (h : Hand cs) : cs.length ≤ 54 := by
  rw [← allC_len]
  exact len_subset cs allC h.nd fun c hc => okC_mem (h.ok c hc)
theorem Hand.filter {cs : List Card} (h : Hand cs) (p : Card → Bool) : Hand (cs.filter p) := ⟨h.nd.filter p, fun c hc => h.ok c (List.mem_filter.mp hc).1⟩
theorem Hand.perm {cs cs' : List Card} (h : Hand cs) (p : cs.Perm cs') : Hand cs' := ⟨p.nodup_iff.mp h.nd, fun c hc => h.ok c (p.mem_iff.mpr hc)⟩
theorem Hand.rank {cs : List Card} (h : Hand cs) {r : Int} (hr : 1 ≤ r) : (cs.filter fun c => c.1 == r).length ≤ 4 := by
  have := len_subset (cs.filter fun c => c.1 == r) ((upto 0 4).map fun s => (r, s)) (h.filter _).nd fun c hc => by
    obtain ⟨h1, h2⟩ := List.mem_filter.mp hc
    have e : c.1 = r := by simpa using h2
    rcases h.ok c h1 with ⟨z, _⟩ | ⟨_, _, z1, z2⟩
    · omega
    · exact List.mem_map.mpr ⟨c.2, upto_mem z1 (by omega), Prod.ext e.symm rfl⟩
  rw [List.length_map, upto_len] at this
  exact this
theorem Hand.cardsOk {cs : List Card} (h : Hand cs) : cardsOk cs = true := by
  unfold Mt.cardsOk
  rw [Bool.and_eq_true]
  refine ⟨decide_eq_true (by have := h.len; omega), List.all_eq_true.mpr fun r hr => decide_eq_true ?_⟩
  have := (h.filter fun c => !(c.1 == 0)).rank (mem_upto hr).1
  unfold plainOf
  omega
theorem near_ok (x d : Int) : okC (near x d) := by
  unfold near
  refine .inr ?_
  have t : ∀ i : Int, 1 ≤ tab5 i ∧ tab5 i ≤ 13 := fun i => by
    unfold tab5
    repeat (first | (split; · decide) | decide)
  split
  · refine ⟨?_, ?_, ?_, ?_⟩ <;> dsimp only <;> omega
  · split
    · refine ⟨?_, ?_, ?_, ?_⟩ <;> dsimp only <;> omega
    · split
      · refine ⟨(t _).1, (t _).2, ?_, ?_⟩ <;> dsimp only <;> omega
      · refine ⟨?_, ?_, ?_, ?_⟩ <;> dsimp only <;> omega
theorem cardAt_ok (x k : Int) : okC (cardAt x k) := by
  unfold cardAt
  dsimp only
  split
  · refine .inr ⟨?_, ?_, ?_, ?_⟩ <;> dsimp only <;> omega
  · split
    · refine .inl ⟨rfl, ?_, ?_⟩ <;> dsimp only <;> omega
    · exact near_ok _ _
theorem dealGo_hand (x many : Int) : ∀ (n : Nat) (k : Int) (cs : List Card), Hand cs → Hand (dealGo x many n k cs)
  | 0, _, _, h => h
  | n + 1, k, cs, h => by
    rw [dealGo]
    split
    · refine dealGo_hand x many n (k + 1) _ ?_
      split
      · exact h
      · rename_i hm
        refine ⟨?_, fun c hc => ?_⟩
        · rw [List.nodup_append]
          refine ⟨h.nd, List.nodup_cons.mpr ⟨List.not_mem_nil, List.nodup_nil⟩, fun a ha b hb e => ?_⟩
          rw [List.mem_singleton.mp hb] at e
          exact hm (e ▸ ha)
        · rcases List.mem_append.mp hc with z | z
          · exact h.ok c z
          · rw [List.mem_singleton.mp z]; exact cardAt_ok x k
    · exact h
theorem deal_hand (x many : Int) : Hand (deal x many) := dealGo_hand x many 200 0 [] ⟨List.nodup_nil, fun _ h => nomatch h⟩
/-! ### the melds of cards in another order -/
theorem allMelds_perm {cs cs' : List Card} (h : cs.Perm cs') : allMelds cs = allMelds cs' := by
  have hp : (plainOf cs).Perm (plainOf cs') := h.filter _
  have hw : wildsOf cs = wildsOf cs' := sortE_eq inj_C (h.filter _)
  have hs : ∀ r, setsOf r (plainOf cs) (wildsOf cs) = setsOf r (plainOf cs') (wildsOf cs') := fun r => by
    rw [hw]
    unfold setsOf chs
    rw [sortE_eq inj_C (hp.filter _)]
  have hg : ∀ s wi ga r, gapStep (plainOf cs) s wi ga r = gapStep (plainOf cs') s wi ga r := fun s wi ga r => by
    unfold gapStep
    by_cases m : (r, s) ∈ plainOf cs
    · rw [if_pos m, if_pos (hp.mem_iff.mp m)]
    · rw [if_neg m, if_neg fun z => m (hp.mem_iff.mpr z)]
  have hr : ∀ s f ws rs wi ga fo, runsGo s f (plainOf cs) ws rs wi ga fo = runsGo s f (plainOf cs') ws rs wi ga fo := fun s f ws rs => by
    induction rs with
    | nil => intros; rfl
    | cons r rs ih => intro wi ga fo; rw [runsGo, runsGo, hg, ih]
  unfold allMelds
  rw [show (fun r => setsOf r (plainOf cs) (wildsOf cs)) = (fun r => setsOf r (plainOf cs') (wildsOf cs')) from funext hs, hw]
  unfold runsOf runsFrom
  simp only [hr]
theorem melds_perm {cs cs' : List Card} (h : cs.Perm cs') : melds cs = melds cs' := by unfold melds; rw [allMelds_perm h]
end Mt

set_option Elab.async false
set_option linter.all false
set_option maxRecDepth 100000
set_option maxHeartbeats 1000000
/-! Plain facts: which melds are told. -/
namespace Mt
open PySem PySem.Spec PyProof.Rows L2
/-! ### choices -/
theorem mem_chGo : ∀ (l : List Card) (found : List (List Card)) (s : List Card), s ∈ chGo l found ↔ ∃ p ∈ found, ∃ t, t.Sublist l ∧ s = p ++ t
  | [], found, s => by
    constructor
    · intro h
      exact ⟨s, h, [], List.Sublist.refl _, (List.append_nil s).symm⟩
    · rintro ⟨p, hp, t, ht, rfl⟩
      have : t = [] := List.sublist_nil.mp ht
      subst this
      rw [List.append_nil]; exact hp
  | c :: l, found, s => by
    show s ∈ chGo l (found ++ found.map (· ++ [c])) ↔ _
    rw [mem_chGo l]
    constructor
    · rintro ⟨p, hp, t, ht, rfl⟩
      rcases List.mem_append.mp hp with m | m
      · exact ⟨p, m, t, ht.cons c, rfl⟩
      · obtain ⟨q, hq, rfl⟩ := List.mem_map.mp m
        exact ⟨q, hq, c :: t, ht.cons_cons c, by rw [List.append_assoc]; rfl⟩
    · rintro ⟨p, hp, t, ht, rfl⟩
      cases ht with
      | cons _ h => exact ⟨p, List.mem_append_left _ hp, t, h, rfl⟩
      | cons_cons _ h => exact ⟨p ++ [c], List.mem_append_right _ (List.mem_map.mpr ⟨p, hp, rfl⟩), _, h, by rw [List.append_assoc]; rfl⟩
theorem mem_chs {cs s : List Card} : s ∈ chs cs ↔ s.Sublist (sortE encC cs) := by
  unfold chs
  rw [mem_chGo]
  constructor
  · rintro ⟨p, hp, t, ht, rfl⟩
    rw [List.mem_singleton.mp hp]; exact ht
  · intro h
    exact ⟨[], List.mem_singleton.mpr rfl, s, h, rfl⟩
theorem mem_setsBy {r : Int} {ws t : List Card} {m : Meld} : m ∈ setsBy r ws t ↔ (3 ≤ t.length ∧ m = .set r t) ∨ ((t.length = 2 ∨ t.length = 3) ∧ ∃ w ∈ ws, m = .set r (w :: t)) := by
  unfold setsBy
  rw [List.mem_append]
  constructor
  · rintro (h | h)
    · split at h
      · exact .inl ⟨‹_›, List.mem_singleton.mp h⟩
      · cases h
    · split at h
      · obtain ⟨w, hw, e⟩ := List.mem_map.mp h
        exact .inr ⟨‹_›, w, hw, e.symm⟩
      · cases h
  · rintro (⟨h, rfl⟩ | ⟨h, w, hw, rfl⟩)
    · rw [if_pos h]; exact .inl (List.mem_singleton.mpr rfl)
    · rw [if_pos h]; exact .inr (List.mem_map.mpr ⟨w, hw, rfl⟩)
theorem mem_setsOf {r : Int} {P W : List Card} {m : Meld} : m ∈ setsOf r P W ↔ ∃ t, t.Sublist (sortE encC (P.filter fun c => c.1 == r)) ∧ ((3 ≤ t.length ∧ m = .set r t) ∨ ((t.length = 2 ∨ t.length = 3) ∧ ∃ w ∈ W, m = .set r (w :: t))) := by
  unfold setsOf
  rw [List.mem_flatMap]
  constructor
  · rintro ⟨t, h1, h2⟩
    exact ⟨t, mem_chs.mp h1, mem_setsBy.mp h2⟩
  · rintro ⟨t, h1, h2⟩
    exact ⟨t, mem_chs.mpr h1, mem_setsBy.mpr h2⟩
/-! ### runs -/
def wiK (s f : Int) (k : Nat) : List Card := (List.range k).map fun (i : Nat) => (f + i, s)
def gaK (P : List Card) (s f : Int) (k : Nat) : List Int := ((List.range k).filter fun (i : Nat) => !decide ((f + (i : Int), s) ∈ P)).map fun (i : Nat) => (i : Int)
theorem wiK_len (s f : Int) (k : Nat) : (wiK s f k).length = k := by rw [wiK, List.length_map, List.length_range]
theorem wiK_get (s f : Int) (k i : Nat) (h : i < (wiK s f k).length) : (wiK s f k)[i] = (f + i, s) := by
  simp [wiK]
theorem wiK_succ (s f : Int) (k : Nat) : wiK s f (k + 1) = wiK s f k ++ [(f + k, s)] := by
  unfold wiK
  rw [List.range_succ, List.map_append]; rfl
theorem gaK_succ (P : List Card) (s f : Int) (k : Nat) : gaK P s f (k + 1) = gapStep P s (wiK s f k) (gaK P s f k) (f + k) := by
  unfold gaK gapStep
  rw [List.range_succ, List.filter_append, List.map_append, wiK_len]
  by_cases h : (f + (k : Int), s) ∈ P
  · rw [if_pos h]
    simp [h]
  · rw [if_neg h]
    simp [h]
theorem gaK_mono (P : List Card) (s f : Int) {j k : Nat} (h : j ≤ k) : (gaK P s f j).length ≤ (gaK P s f k).length := by
  unfold gaK
  rw [List.length_map, List.length_map]
  obtain ⟨d, rfl⟩ := Nat.exists_eq_add_of_le h
  rw [List.range_add, List.filter_append, List.length_append]
  omega
theorem mem_runsGo (s f : Int) (P W : List Card) (m : Meld) : ∀ (n k : Nat) (fo : List Meld), m ∈ runsGo s f P W ((List.range' k n).map fun (i : Nat) => f + (i : Int)) (wiK s f k) (gaK P s f k) fo ↔
    m ∈ fo ∨ ∃ j, k < j ∧ j ≤ k + n ∧ 3 ≤ j ∧ (gaK P s f j).length ≤ min 1 W.length ∧ ∃ z ∈ fills (wiK s f j) (gaK P s f j) W, m = .run s f z
  | 0, k, fo => by
    constructor
    · intro h; exact .inl h
    · rintro (h | ⟨j, h1, h2, _⟩)
      · exact h
      · omega
  | n + 1, k, fo => by
    rw [List.range'_succ, List.map_cons, runsGo, ← gaK_succ, ← wiK_succ, wiK_len]
    by_cases hc : min 1 W.length < (gaK P s f (k + 1)).length
    · rw [if_pos hc]
      constructor
      · intro h; exact .inl h
      · rintro (h | ⟨j, h1, h2, h3, h4, _⟩)
        · exact h
        · have := gaK_mono P s f (show k + 1 ≤ j from h1)
          omega
    · rw [if_neg hc, mem_runsGo s f P W m n (k + 1)]
      constructor
      · rintro (h | ⟨j, h1, h2, h3, h4, z, hz, e⟩)
        · split at h
          · rcases List.mem_append.mp h with h | h
            · exact .inl h
            · obtain ⟨z, hz, e⟩ := List.mem_map.mp h
              exact .inr ⟨k + 1, by omega, by omega, by omega, by omega, z, hz, e.symm⟩
          · exact .inl h
        · exact .inr ⟨j, by omega, by omega, h3, h4, z, hz, e⟩
      · rintro (h | ⟨j, h1, h2, h3, h4, z, hz, e⟩)
        · left
          split
          · exact List.mem_append_left _ h
          · exact h
        · by_cases hj : j = k + 1
          · subst hj
            left
            rw [if_pos (by omega)]
            exact List.mem_append_right _ (List.mem_map.mpr ⟨z, hz, e.symm⟩)
          · exact .inr ⟨j, by omega, by omega, h3, h4, z, hz, e⟩
theorem mem_runsFrom {s f : Int} {P W : List Card} {m : Meld} (hf : f ≤ 14) : m ∈ runsFrom s f P W ↔ ∃ j : Nat, 3 ≤ j ∧ f + j ≤ 14 ∧ (gaK P s f j).length ≤ min 1 W.length ∧ ∃ z ∈ fills (wiK s f j) (gaK P s f j) W, m = .run s f z := by
  have e : upto f 14 = (List.range' 0 (14 - f).toNat).map fun (i : Nat) => f + (i : Int) := by
    unfold upto
    rw [List.range_eq_range']
  unfold runsFrom
  rw [e]
  have := mem_runsGo s f P W m (14 - f).toNat 0 []
  rw [show wiK s f 0 = [] from rfl, show gaK P s f 0 = [] from rfl] at this
  rw [this]
  constructor
  · rintro (h | ⟨j, h1, h2, h3, h4, h5⟩)
    · cases h
    · exact ⟨j, h3, by omega, h4, h5⟩
  · rintro ⟨j, h3, h2, h4, h5⟩
    exact .inr ⟨j, by omega, by omega, h3, h4, h5⟩
theorem mem_fills {wi : List Card} {ga : List Int} {W z : List Card} (hg : ∀ g ∈ ga, 0 ≤ g ∧ g < wi.length) : z ∈ fills wi ga W ↔ (ga = [] ∧ z = wi) ∨ ∃ (p : Nat), p < wi.length ∧ (ga = [] ∨ (p : Int) ∈ ga) ∧ ∃ w ∈ W, z = wi.set p w := by
  have hset : ∀ (p : Nat) (w : Card), p < wi.length → wi.take p ++ [w] ++ wi.drop (p + 1) = wi.set p w := fun p w h => by
    rw [List.set_eq_take_append_cons_drop, if_pos h, List.append_assoc]; rfl
  unfold fills
  rw [List.mem_append, List.mem_flatMap]
  constructor
  · rintro (h | ⟨p, hp, h⟩)
    · split at h
      · exact .inl ⟨‹_›, List.mem_singleton.mp h⟩
      · cases h
    · obtain ⟨w, hw, e⟩ := List.mem_map.mp h
      have hb : 0 ≤ p ∧ p < wi.length ∧ (ga = [] ∨ p ∈ ga) := by
        split at hp
        · exact ⟨(mem_upto hp).1, (mem_upto hp).2, .inl ‹_›⟩
        · exact ⟨(hg p hp).1, (hg p hp).2, .inr hp⟩
      refine .inr ⟨p.toNat, by omega, ?_, w, hw, ?_⟩
      · rw [Int.toNat_of_nonneg hb.1]; exact hb.2.2
      · rw [← e, hset _ _ (by omega)]
  · rintro (⟨h, rfl⟩ | ⟨p, hp, hq, w, hw, rfl⟩)
    · rw [if_pos h]; exact .inl (List.mem_singleton.mpr rfl)
    · refine .inr ⟨(p : Int), ?_, List.mem_map.mpr ⟨w, hw, ?_⟩⟩
      · split
        · exact upto_mem (by omega) (by omega)
        · rcases hq with hq | hq
          · exact absurd hq ‹_›
          · exact hq
      · rw [Int.toNat_natCast, hset p w hp]
theorem mem_gaK {P : List Card} {s f : Int} {k : Nat} {g : Int} : g ∈ gaK P s f k ↔ ∃ i : Nat, i < k ∧ (f + (i : Int), s) ∉ P ∧ g = i := by
  unfold gaK
  rw [List.mem_map]
  constructor
  · rintro ⟨i, hi, e⟩
    obtain ⟨h1, h2⟩ := List.mem_filter.mp hi
    exact ⟨i, List.mem_range.mp h1, by simpa using h2, e.symm⟩
  · rintro ⟨i, h1, h2, rfl⟩
    exact ⟨i, List.mem_filter.mpr ⟨List.mem_range.mpr h1, by simpa using h2⟩, rfl⟩
end Mt

set_option Elab.async false
set_option linter.all false
set_option maxRecDepth 100000
set_option maxHeartbeats 1000000
/-! Plain facts: the melds that are told are just the melds of the cards. -/
namespace Mt
open PySem PySem.Spec PyProof.Rows L2
def ltC (a b : Card) : Prop := a.1 < b.1 ∨ (a.1 = b.1 ∧ a.2 < b.2)
/-- at most one is wild -/
def ow (z : List Card) : Prop := z.Pairwise fun a b => ¬ (a.1 = 0 ∧ b.1 = 0)
def MeldOk : Meld → Prop
  | .set r z => 1 ≤ r ∧ r ≤ 13 ∧ 3 ≤ z.length ∧ z.length ≤ 4 ∧ z.Pairwise ltC ∧ (∀ c ∈ z, c.1 = 0 ∨ c.1 = r) ∧ ow z
  | .run s f z => 0 ≤ s ∧ s ≤ 3 ∧ 1 ≤ f ∧ 3 ≤ z.length ∧ f + z.length ≤ 14 ∧ (∀ (i : Nat) (h : i < z.length), z[i] = (f + (i : Int), s) ∨ z[i].1 = 0) ∧ ow z
theorem ltC_irrefl (a : Card) : ¬ ltC a a := by unfold ltC; omega
theorem ltC_trans {a b c : Card} (h1 : ltC a b) (h2 : ltC b c) : ltC a c := by unfold ltC at *; omega
theorem ltC_of {a b : Card} (h : leD (encC a) (encC b) = true) (hn : a ≠ b) : ltC a b := by
  rw [leC_eq] at h
  have h := of_decide_eq_true h
  unfold ltC
  rcases h with h | ⟨h1, h2⟩
  · exact .inl h
  · refine .inr ⟨h1, ?_⟩
    rcases Int.lt_or_eq_of_le h2 with z | z
    · exact z
    · exact absurd (Prod.ext h1 z) hn
theorem sortC_lt {l : List Card} (h : l.Nodup) : (sortE encC l).Pairwise ltC := by
  have hn : (sortE encC l).Nodup := (sortE_perm encC l).nodup_iff.mpr h
  exact (List.Pairwise.and (sortE_pw encC l) hn).imp fun h => ltC_of h.1 h.2
theorem sub_of_sorted : ∀ (b a : List Card), a.Pairwise ltC → b.Pairwise ltC → (∀ c ∈ a, c ∈ b) → a.Sublist b
  | [], a, _, _, h => by
    cases a with
    | nil => exact List.Sublist.refl _
    | cons x _ => exact absurd (h x (List.mem_cons_self ..)) List.not_mem_nil
  | y :: b, [], _, _, _ => List.nil_sublist _
  | y :: b, x :: a, ha, hb, h => by
    obtain ⟨a1, a2⟩ := List.pairwise_cons.mp ha
    obtain ⟨b1, b2⟩ := List.pairwise_cons.mp hb
    rcases List.mem_cons.mp (h x (List.mem_cons_self ..)) with e | e
    · subst e
      refine (sub_of_sorted b a a2 b2 fun c hc => ?_).cons_cons x
      rcases List.mem_cons.mp (h c (List.mem_cons_of_mem _ hc)) with z | z
      · exact absurd (z ▸ a1 c hc) (ltC_irrefl _)
      · exact z
    · refine (sub_of_sorted b (x :: a) ha b2 fun c hc => ?_).cons y
      have hy : ltC y x := b1 x e
      rcases List.mem_cons.mp (h c hc) with z | z
      · rcases List.mem_cons.mp hc with q | q
        · rw [← q, z] at hy; exact absurd hy (ltC_irrefl _)
        · exact absurd (ltC_trans hy (z ▸ a1 c q)) (ltC_irrefl _)
      · exact z
theorem mem_plain {cs : List Card} {c : Card} : c ∈ plainOf cs ↔ c ∈ cs ∧ c.1 ≠ 0 := by
  unfold plainOf
  rw [List.mem_filter]
  simp
theorem mem_wilds {cs : List Card} {c : Card} : c ∈ wildsOf cs ↔ c ∈ cs ∧ c.1 = 0 := by
  unfold wildsOf
  rw [mem_sortE, List.mem_filter]
  simp
theorem ow_of_plain {z : List Card} (h : ∀ c ∈ z, c.1 ≠ 0) : ow z := by
  unfold ow
  rw [List.pairwise_iff_getElem]
  intro i j hi hj _ q
  exact h _ (List.getElem_mem hi) q.1
theorem ow_cons {w : Card} {z : List Card} (h : ∀ c ∈ z, c.1 ≠ 0) : ow (w :: z) := List.pairwise_cons.mpr ⟨fun c hc q => h c hc q.2, ow_of_plain h⟩
theorem sets_ok {cs : List Card} (H : Hand cs) {r : Int} (hr : r ∈ upto 1 14) (m : Meld) : m ∈ setsOf r (plainOf cs) (wildsOf cs) ↔ ∃ z, m = .set r z ∧ MeldOk m ∧ ∀ c ∈ z, c ∈ cs := by
  have hr2 := mem_upto hr
  have HP : Hand (plainOf cs) := H.filter _
  have hs : (sortE encC ((plainOf cs).filter fun c => c.1 == r)).Pairwise ltC := sortC_lt (HP.filter _).nd
  have hmem : ∀ c, c ∈ sortE encC ((plainOf cs).filter fun c => c.1 == r) ↔ c ∈ cs ∧ c.1 = r := fun c => by
    rw [mem_sortE, List.mem_filter, mem_plain]
    constructor
    · rintro ⟨⟨h1, _⟩, h2⟩
      exact ⟨h1, by simpa using h2⟩
    · rintro ⟨h1, h2⟩
      exact ⟨⟨h1, by omega⟩, by simpa using h2⟩
  rw [mem_setsOf]
  constructor
  · rintro ⟨t, ht, h⟩
    have htm : ∀ c ∈ t, c ∈ cs ∧ c.1 = r := fun c hc => (hmem c).mp (ht.subset hc)
    have htp : t.Pairwise ltC := hs.sublist ht
    have htl : t.length ≤ 4 := by
      have a := ht.length_le
      rw [sortE_len] at a
      have b := HP.rank (r := r) hr2.1
      omega
    have htn : ∀ c ∈ t, c.1 ≠ 0 := fun c hc => by have := (htm c hc).2; omega
    rcases h with ⟨h3, rfl⟩ | ⟨h3, w, hw, rfl⟩
    · exact ⟨t, rfl, ⟨hr2.1, by omega, h3, htl, htp, fun c hc => .inr (htm c hc).2, ow_of_plain htn⟩, fun c hc => (htm c hc).1⟩
    · obtain ⟨w1, w2⟩ := mem_wilds.mp hw
      refine ⟨w :: t, rfl, ⟨hr2.1, by omega, by rw [List.length_cons]; omega, by rw [List.length_cons]; omega, List.pairwise_cons.mpr ⟨fun c hc => .inl (by rw [w2, (htm c hc).2]; omega), htp⟩, fun c hc => ?_, ow_cons htn⟩, fun c hc => ?_⟩
      · rcases List.mem_cons.mp hc with q | q
        · exact .inl (by rw [q]; exact w2)
        · exact .inr (htm c q).2
      · rcases List.mem_cons.mp hc with q | q
        · rw [q]; exact w1
        · exact (htm c q).1
  · rintro ⟨z, rfl, ⟨_, _, h3, h4, h5, h6, h7⟩, h8⟩
    cases z with
    | nil => simp at h3
    | cons x t =>
      obtain ⟨p1, p2⟩ := List.pairwise_cons.mp h5
      obtain ⟨o1, o2⟩ := List.pairwise_cons.mp h7
      have htr : ∀ c ∈ t, c.1 = r := fun c hc => by
        rcases h6 c (List.mem_cons_of_mem _ hc) with q | q
        · have := p1 c hc
          unfold ltC at this
          rcases h6 x (List.mem_cons_self ..) with q2 | q2
          · exact absurd ⟨q2, q⟩ (o1 c hc)
          · omega
        · exact q
      rw [List.length_cons] at h3 h4
      rcases h6 x (List.mem_cons_self ..) with q | q
      · refine ⟨t, sub_of_sorted _ _ p2 hs fun c hc => (hmem c).mpr ⟨h8 c (List.mem_cons_of_mem _ hc), htr c hc⟩, .inr ⟨by omega, x, mem_wilds.mpr ⟨h8 x (List.mem_cons_self ..), q⟩, rfl⟩⟩
      · refine ⟨x :: t, sub_of_sorted _ _ h5 hs fun c hc => (hmem c).mpr ⟨h8 c hc, ?_⟩, .inl ⟨by rw [List.length_cons]; omega, rfl⟩⟩
        rcases List.mem_cons.mp hc with z | z
        · rw [z]; exact q
        · exact htr c z
theorem gaK_lt {P : List Card} {s f : Int} {k : Nat} : ∀ g ∈ gaK P s f k, 0 ≤ g ∧ g < (wiK s f k).length := fun g hg => by
  obtain ⟨i, h1, _, rfl⟩ := mem_gaK.mp hg
  rw [wiK_len]; omega
theorem gaK_nd (P : List Card) (s f : Int) (k : Nat) : (gaK P s f k).Nodup := by
  unfold gaK
  refine List.Pairwise.map _ (fun a b h => ?_) ((List.nodup_range).filter _)
  intro e
  exact h (by omega)
theorem len_le_one {α : Type} {l : List α} (hn : l.Nodup) {x : α} (h : ∀ a ∈ l, a = x) : l.length ≤ 1 := by
  match l, hn, h with
  | [], _, _ => exact Nat.zero_le _
  | [_], _, _ => exact Nat.le_refl _
  | a :: b :: r, hn, h =>
    have e1 := h a (List.mem_cons_self ..)
    have e2 := h b (List.mem_cons_of_mem _ (List.mem_cons_self ..))
    have := (List.nodup_cons.mp hn).1
    rw [e1, ← e2] at this
    exact absurd (List.mem_cons_self ..) this
theorem set_get {l : List Card} {p i : Nat} {w : Card} (h : i < (l.set p w).length) : (l.set p w)[i] = if p = i then w else l[i]'(by rw [List.length_set] at h; exact h) := List.getElem_set h
theorem runs_ok {cs : List Card} (H : Hand cs) {s f : Int} (hs : s ∈ upto 0 4) (hf : f ∈ upto 1 12) (m : Meld) : m ∈ runsFrom s f (plainOf cs) (wildsOf cs) ↔ ∃ z, m = .run s f z ∧ MeldOk m ∧ ∀ c ∈ z, c ∈ cs := by
  have hs2 := mem_upto hs
  have hf2 := mem_upto hf
  rw [mem_runsFrom (by omega)]
  constructor
  · rintro ⟨j, h3, h4, h5, z, hz, rfl⟩
    refine ⟨z, rfl, ?_⟩
    rw [mem_fills gaK_lt] at hz
    have hin : ∀ i : Nat, i < j → (i : Int) ∉ gaK (plainOf cs) s f j → (f + (i : Int), s) ∈ cs := fun i hi hn => by
      by_cases q : (f + (i : Int), s) ∈ plainOf cs
      · exact (mem_plain.mp q).1
      · exact absurd (mem_gaK.mpr ⟨i, hi, q, rfl⟩) hn
    rcases hz with ⟨hg, rfl⟩ | ⟨p, hp, hg, w, hw, rfl⟩
    · refine ⟨⟨hs2.1, by omega, hf2.1, by rw [wiK_len]; exact h3, by rw [wiK_len]; exact h4, fun i hi => .inl (wiK_get s f j i hi), ow_of_plain fun c hc => ?_⟩, fun c hc => ?_⟩
      · obtain ⟨i, hi, rfl⟩ := List.mem_iff_getElem.mp hc
        rw [wiK_get]
        show f + (i : Int) ≠ 0
        omega
      · obtain ⟨i, hi, rfl⟩ := List.mem_iff_getElem.mp hc
        rw [wiK_get]
        rw [wiK_len] at hi
        exact hin i hi (by rw [hg]; exact List.not_mem_nil)
    · obtain ⟨w1, w2⟩ := mem_wilds.mp hw
      rw [wiK_len] at hp
      refine ⟨⟨hs2.1, by omega, hf2.1, by rw [List.length_set, wiK_len]; exact h3, by rw [List.length_set, wiK_len]; exact h4, fun i hi => ?_, ?_⟩, fun c hc => ?_⟩
      · rw [set_get]
        split
        · exact .inr w2
        · exact .inl (wiK_get s f j i _)
      · unfold ow
        rw [List.pairwise_iff_getElem]
        intro a b ha hb hab ⟨q1, q2⟩
        rw [set_get] at q1 q2
        by_cases e1 : p = a
        · rw [if_neg (by omega), wiK_get] at q2
          have : f + (b : Int) = 0 := q2
          omega
        · rw [if_neg e1, wiK_get] at q1
          have : f + (a : Int) = 0 := q1
          omega
      · obtain ⟨i, hi, rfl⟩ := List.mem_iff_getElem.mp hc
        rw [set_get]
        split
        · exact w1
        · rename_i hne
          rw [List.length_set, wiK_len] at hi
          rw [wiK_get]
          refine hin i hi fun hi2 => ?_
          rcases hg with hg | hg
          · rw [hg] at hi2; cases hi2
          · have hl : (gaK (plainOf cs) s f j).length ≤ 1 := Nat.le_trans h5 (Nat.min_le_left ..)
            match hG : gaK (plainOf cs) s f j, hl with
            | [], _ => rw [hG] at hg; cases hg
            | [g], _ =>
              rw [hG] at hg hi2
              have a := List.mem_singleton.mp hg
              have b := List.mem_singleton.mp hi2
              omega
  · rintro ⟨z, rfl, ⟨_, _, _, h4, h5, h6, h7⟩, h8⟩
    refine ⟨z.length, h4, h5, ?_⟩
    have hpl : ∀ (i : Nat) (hi : i < z.length), z[i].1 ≠ 0 → (f + (i : Int), s) ∈ plainOf cs := fun i hi hn => by
      rcases h6 i hi with q | q
      · rw [mem_plain, ← q]
        exact ⟨h8 _ (List.getElem_mem hi), hn⟩
      · exact absurd q hn
    by_cases hw : ∃ (p : Nat) (hp : p < z.length), z[p].1 = 0
    · obtain ⟨p, hp, hw⟩ := hw
      have hne : ∀ (i : Nat) (hi : i < z.length), i ≠ p → z[i].1 ≠ 0 := fun i hi hn q => by
        unfold ow at h7
        rw [List.pairwise_iff_getElem] at h7
        rcases Nat.lt_or_gt_of_ne hn with c | c
        · exact h7 i p hi hp c ⟨q, hw⟩
        · exact h7 p i hp hi c ⟨hw, q⟩
      have hgs : ∀ g ∈ gaK (plainOf cs) s f z.length, g = (p : Int) := fun g hg => by
        obtain ⟨i, h1, h2, rfl⟩ := mem_gaK.mp hg
        by_cases e : i = p
        · rw [e]
        · exact absurd (hpl i h1 (hne i h1 e)) h2
      have hwm : z[p] ∈ wildsOf cs := mem_wilds.mpr ⟨h8 _ (List.getElem_mem hp), hw⟩
      have hwl : 1 ≤ (wildsOf cs).length := List.length_pos_of_mem hwm
      have hgl := len_le_one (gaK_nd (plainOf cs) s f z.length) hgs
      refine ⟨by omega, z, ?_, rfl⟩
      rw [mem_fills gaK_lt]
      refine .inr ⟨p, by rw [wiK_len]; exact hp, ?_, z[p], hwm, ?_⟩
      · cases hG : gaK (plainOf cs) s f z.length with
        | nil => exact .inl rfl
        | cons g r =>
          refine .inr ?_
          rw [← hgs g (by rw [hG]; exact List.mem_cons_self ..)]
          exact List.mem_cons_self ..
      · refine List.ext_getElem (by rw [List.length_set, wiK_len]) fun i h1 h2 => ?_
        rw [set_get]
        split
        · rename_i e; subst e; rfl
        · rename_i e
          rw [wiK_get]
          rcases h6 i h1 with q | q
          · exact q
          · exact absurd q (hne i h1 fun z => e z.symm)
    · have hn : ∀ (i : Nat) (hi : i < z.length), z[i].1 ≠ 0 := fun i hi q => hw ⟨i, hi, q⟩
      have hG : gaK (plainOf cs) s f z.length = [] := by
        rw [List.eq_nil_iff_forall_not_mem]
        intro g hg
        obtain ⟨i, h1, h2, _⟩ := mem_gaK.mp hg
        exact h2 (hpl i h1 (hn i h1))
      refine ⟨by rw [hG]; exact Nat.zero_le _, z, ?_, rfl⟩
      rw [mem_fills gaK_lt]
      refine .inl ⟨hG, List.ext_getElem (by rw [wiK_len]) fun i h1 h2 => ?_⟩
      rw [wiK_get]
      rcases h6 i h1 with q | q
      · exact q
      · exact absurd q (hn i h1)
theorem mem_melds {cs : List Card} (H : Hand cs) {m : Meld} : m ∈ melds cs ↔ MeldOk m ∧ ∀ c ∈ m.cards, c ∈ cs := by
  unfold melds
  rw [mem_sortE, allMelds, List.mem_append, List.mem_flatMap, List.mem_flatMap]
  constructor
  · rintro (⟨r, hr, h⟩ | ⟨s, hs, h⟩)
    · obtain ⟨z, rfl, h1, h2⟩ := (sets_ok H hr m).mp h
      exact ⟨h1, h2⟩
    · obtain ⟨f, hf, h⟩ := List.mem_flatMap.mp h
      obtain ⟨z, rfl, h1, h2⟩ := (runs_ok H hs hf m).mp h
      exact ⟨h1, h2⟩
  · rintro ⟨h1, h2⟩
    cases m with
    | set r z => exact .inl ⟨r, upto_mem h1.1 (by have := h1.2.1; omega), (sets_ok H (upto_mem h1.1 (by have := h1.2.1; omega)) _).mpr ⟨z, rfl, h1, h2⟩⟩
    | run s f z =>
      have hs : s ∈ upto 0 4 := upto_mem h1.1 (by have := h1.2.1; omega)
      have hf : f ∈ upto 1 12 := upto_mem h1.2.2.1 (by have := h1.2.2.2.1; have := h1.2.2.2.2.1; omega)
      exact .inr ⟨s, hs, List.mem_flatMap.mpr ⟨f, hf, (runs_ok H hs hf _).mpr ⟨z, rfl, h1, h2⟩⟩⟩
end Mt

set_option Elab.async false
set_option linter.all false
set_option maxRecDepth 100000
set_option maxHeartbeats 1000000
/-! Plain facts: equal data, melds have each card once, counting. -/
namespace Mt
open PySem PySem.Spec PyProof.Rows L2
theorem eqvAll_map {α : Type} [DecidableEq α] {enc : α → D} (h : ∀ a b, PyData.eqv (enc a) (enc b) = decide (a = b)) : ∀ (a b : List α), PyData.eqvAll (a.map enc) (b.map enc) = decide (a = b)
  | [], [] => by simp [PyData.eqvAll]
  | [], b :: bs => by simp [PyData.eqvAll]
  | a :: as, [] => by simp [PyData.eqvAll]
  | a :: as, b :: bs => by
    rw [List.map_cons, List.map_cons, PyData.eqvAll, h, eqvAll_map h as bs, ← Bool.decide_and]
    exact decide_eq_decide.mpr (by rw [List.cons.injEq])
theorem eqv_T (a b : List Card) : PyData.eqv (encT a) (encT b) = decide (a = b) := by
  show PyData.eqv (.tuple _) (.tuple _) = _
  rw [PyData.eqv, eqvAll_map eqv_enc]
theorem eqv_L (a b : List Card) : PyData.eqv (encL a) (encL b) = decide (a = b) := by
  show PyData.eqv (.list _) (.list _) = _
  rw [PyData.eqv, eqvAll_map eqv_enc]
theorem eqv_M (a b : Meld) : PyData.eqv (encM a) (encM b) = decide (a = b) := by
  have e1 : PyData.eqv (.str "set") (.str "run") = false := by decide
  have e2 : PyData.eqv (.str "run") (.str "set") = false := by decide
  have e3 : PyData.eqv (.str "run") (.str "run") = true := by decide
  have e4 : PyData.eqv (.str "set") (.str "set") = true := by decide
  have ei : ∀ i j : Int, PyData.eqv (.int i) (.int j) = decide (i = j) := fun i j => by
    show (i == j) = _
    exact Bool.eq_iff_iff.mpr (by simp)
  cases a with
  | set r z =>
    cases b with
    | set r' z' =>
      show PyData.eqv (.tuple _) (.tuple _) = _
      rw [PyData.eqv, PyData.eqvAll, e4, PyData.eqvAll, ei, PyData.eqvAll, eqv_T]
      simp [PyData.eqvAll]
    | run s f z' =>
      show PyData.eqv (.tuple _) (.tuple _) = _
      rw [PyData.eqv, PyData.eqvAll, e1]
      simp
  | run s f z =>
    cases b with
    | set r' z' =>
      show PyData.eqv (.tuple _) (.tuple _) = _
      rw [PyData.eqv, PyData.eqvAll, e2]
      simp
    | run s' f' z' =>
      show PyData.eqv (.tuple _) (.tuple _) = _
      rw [PyData.eqv, PyData.eqvAll, e3, PyData.eqvAll, ei, PyData.eqvAll, ei, PyData.eqvAll, eqv_T]
      simp [PyData.eqvAll]
theorem eqv_TM (a b : List Meld) : PyData.eqv (encTM a) (encTM b) = decide (a = b) := by
  show PyData.eqv (.tuple _) (.tuple _) = _
  rw [PyData.eqv, eqvAll_map eqv_M]
theorem depthAll_le {α : Type} (enc : α → D) (n : Nat) (h : ∀ a, (enc a).depth ≤ n) : ∀ l : List α, PyData.depthAll (l.map enc) ≤ n
  | [] => by rw [List.map_nil, PyData.depthAll]; omega
  | a :: l => by
    rw [List.map_cons, PyData.depthAll]
    have := h a
    have := depthAll_le enc n h l
    omega
theorem depth_M4 (m : Meld) : (encM m).depth ≤ 4 := by
  cases m with
  | set r cs =>
    have := depth_T cs
    show PyData.depthAll [.str "set", .int r, encT cs] + 1 ≤ 4
    simp only [PyData.depthAll, PyData.depth]
    omega
  | run s f cs =>
    have := depth_T cs
    show PyData.depthAll [.str "run", .int s, .int f, encT cs] + 1 ≤ 4
    simp only [PyData.depthAll, PyData.depth]
    omega
theorem depth_TM (ms : List Meld) : (encTM ms).depth ≤ 60 := by
  have := depthAll_le encM 4 depth_M4 ms
  show PyData.depthAll (ms.map encM) + 1 ≤ 60
  omega
theorem cmp_eq {x y : D} {b : Bool} (hd : x.depth ≤ 60) (h : PyData.eqv x y = b) : cmpD .Eq x y = .ok (.bool b) := by
  show gd _ _ = _
  rw [gd_pos (decide_eq_true (Nat.le_trans (Nat.min_le_left ..) hd)), h]
theorem cmp_ne {x y : D} {b : Bool} (hd : x.depth ≤ 60) (h : PyData.eqv x y = b) : cmpD .NotEq x y = .ok (.bool !b) := by
  show gd _ _ = _
  rw [gd_pos (decide_eq_true (Nat.le_trans (Nat.min_le_left ..) hd)), h]
@[simp] theorem q_neTM (a b : List Meld) : cmpD .NotEq (encTM a) (encTM b) = .ok (.bool (!decide (a = b))) := cmp_ne (depth_TM a) (eqv_TM a b)
@[simp] theorem q_eqTM (a b : List Meld) : cmpD .Eq (encTM a) (encTM b) = .ok (.bool (decide (a = b))) := cmp_eq (depth_TM a) (eqv_TM a b)
/-! ### each card once -/
theorem MeldOk.nd {m : Meld} (h : MeldOk m) : m.cards.Nodup := by
  cases m with
  | set r z =>
    obtain ⟨_, _, _, _, h5, _, _⟩ := h
    exact h5.imp fun {a b} q e => by rw [e] at q; exact ltC_irrefl _ q
  | run s f z =>
    obtain ⟨_, _, h3, _, _, h6, h7⟩ := h
    show z.Nodup
    unfold ow at h7
    unfold List.Nodup
    rw [List.pairwise_iff_getElem] at h7 ⊢
    intro i j hi hj hij e
    have hw := h7 i j hi hj hij
    rcases h6 i hi with a | a
    · rcases h6 j hj with b | b
      · rw [a, b] at e
        have : f + (i : Int) = f + j := (Prod.mk.inj e).1
        omega
      · rw [← e, a] at b
        have : f + (i : Int) = 0 := b
        omega
    · exact hw ⟨a, by rw [← e]; exact a⟩
theorem filter_len {cs z : List Card} (h1 : cs.Nodup) (h2 : z.Nodup) (h : ∀ c ∈ z, c ∈ cs) : (cs.filter fun c => decide (c ∈ z)).length = z.length := by
  have a := len_subset (cs.filter fun c => decide (c ∈ z)) z (h1.filter _) fun c hc => by simpa using (List.mem_filter.mp hc).2
  have b := len_subset z (cs.filter fun c => decide (c ∈ z)) h2 fun c hc => List.mem_filter.mpr ⟨h c hc, by simpa using hc⟩
  omega
/-- counting pairs both ways -/
theorem count_both {α β : Type} (p : α → β → Bool) (bs : List β) : ∀ as : List α, (as.map fun a => (bs.filter fun b => p a b).length).sum = (bs.map fun b => (as.filter fun a => p a b).length).sum
  | [] => by
    induction bs with
    | nil => rfl
    | cons b bs ih => rw [List.map_cons, List.sum_cons, ← ih]; rfl
  | a :: as => by
    rw [List.map_cons, List.sum_cons, count_both p bs as]
    induction bs with
    | nil => rfl
    | cons b bs ih =>
      rw [List.filter_cons, List.map_cons, List.sum_cons, List.map_cons, List.sum_cons, List.filter_cons]
      split
      · rw [List.length_cons, List.length_cons]; omega
      · omega
theorem hold_sum {cs : List Card} (H : Hand cs) : (cs.map fun c => (hold cs c).length).sum = ((melds cs).map fun m => m.cards.length).sum := by
  unfold hold
  rw [count_both (fun c m => decide (c ∈ m.cards)) (melds cs) cs]
  congr 1
  refine List.map_congr_left fun m hm => ?_
  obtain ⟨h1, h2⟩ := (mem_melds H).mp hm
  exact filter_len H.nd h1.nd h2
end Mt

set_option Elab.async false
set_option linter.all false
set_option maxRecDepth 100000
set_option maxHeartbeats 1000000
/-! Melds read back; melds within melds. -/
namespace Mt
open PySem PySem.Spec PyProof.Rows L2
def decM (d : D) : Option Meld := match d with
  | .tuple [.str k, .int r, t] => if k = "set" then (decT decC t).map (.set r) else none
  | .tuple [.str k, .int s, .int f, t] => if k = "run" then (decT decC t).map (.run s f) else none
  | _ => none
theorem decM_eq {d : D} {m : Meld} (h : decM d = some m) : d = encM m := by
  unfold decM at h
  split at h
  · split at h
    · rename_i e
      obtain ⟨cs, h1, rfl⟩ := Option.map_eq_some_iff.mp h
      rw [e, decT_eq h1]; rfl
    · cases h
  · split at h
    · rename_i e
      obtain ⟨cs, h1, rfl⟩ := Option.map_eq_some_iff.mp h
      rw [e, decT_eq h1]; rfl
    · cases h
  · cases h
@[simp] theorem decM_enc (m : Meld) : decM (encM m) = some m := by
  cases m with
  | set r cs =>
    show (if ("set" : Str) = "set" then (decT decC (encT cs)).map (Meld.set r) else none) = _
    rw [if_pos rfl, decT_enc]; rfl
  | run s f cs =>
    show (if ("run" : Str) = "run" then (decT decC (encT cs)).map (Meld.run s f) else none) = _
    rw [if_pos rfl, decT_enc]; rfl
def within : Meld → List Meld
  | .set r z => if z.length = 3 then [] else (upto 0 4).map fun k => .set r (z.take k.toNat ++ z.drop (k.toNat + 1))
  | .run s f z => if z.length = 3 then [] else [.run s (f + 1) (z.drop 1), .run s f z.dropLast]
theorem sl_last (cs : List Card) : slD (encT cs) none (some (-1)) = .ok (encT cs.dropLast) := by
  show Except.ok (PyData.tuple (cutD (cs.map encC) none (some (-1)))) = _
  unfold cutD
  have e : HT.sIx (cs.map encC).length (cs.map encC).length (some (-1)) = (cs.map encC).length - 1 := by
    unfold HT.sIx
    dsimp only
    rw [if_pos (by decide)]; omega
  rw [e, HT.sIx_none, List.drop_zero, Nat.sub_zero, ← List.dropLast_eq_take, ← List.map_dropLast]
  rfl
def F_law_within : FnS := ⟨1, m1 decM fun m => gd (decide (m.cards.length ≤ 1000)) (.ok (encLM (within m))), true⟩
theorem q_isSet (m : Meld) : ixD (encM m) (.int 0) = .ok (.str (match m with | .set _ _ => "set" | .run _ _ _ => "run")) := by cases m <;> rfl
theorem run_law_within {Φ : Nat → FnS} {n : Nat} (ds : List D) (r : D) (h : F_law_within.m ds = .ok r) : runF Φ n c_law_within n_law_within.length ds = .ok r := by
  obtain ⟨d, m, rfl, hd, hf⟩ := m1_inv h
  clear h
  have hx := decM_eq hd
  subst hx
  obtain ⟨g, hg⟩ := gd_inv hf
  cases hg
  have g := of_decide_eq_true g
  have e : startS n_law_within.length [encM m] = [.imm (encM m), .dead, .dead] := rfl
  rw [runF, e, c_law_within]
  rw [seq_nx (asg_imm (v := encT m.cards) (by simp [rdS, ix_last]) (fun _ z => nomatch z))]
  simp only [List.set]
  by_cases h3 : m.cards.length = 3
  · have hw : within m = [] := by cases m <;> exact if_pos h3
    have hb : (((m.cards.length : Nat) : Int) == 3) = true := by rw [h3]; rfl
    rw [q_seq, q_ite, hw]
    simp only [q_cmp, q_bi, q_rcons, q_var, rdS, List.getElem?_cons_zero, List.getElem?_cons_succ, q_bd, q_rnil, len_set, q_cI, q_eqI, hb, q_asB, if_true]
    rfl
  · have hb : (((m.cards.length : Nat) : Int) == 3) = false := by
      rw [beq_eq_false_iff_ne]; omega
    rw [seq_nx (a := .ite _ _ _) (τ := [.imm (encM m), .imm (encT m.cards), .dead]) (by
      rw [q_ite]
      simp only [q_cmp, q_bi, q_rcons, q_var, rdS, List.getElem?_cons_zero, List.getElem?_cons_succ, q_bd, q_rnil, len_set, q_cI, q_eqI, hb, q_asB]
      rfl)]
    cases m with
    | set r z =>
      have hw : within (.set r z) = (upto 0 4).map fun k => .set r (z.take k.toNat ++ z.drop (k.toNat + 1)) := if_neg h3
      have e1 : cmpD .Eq (.str "set") (.str "set") = .ok (.bool true) := cmp_eq (by decide) (by decide)
      have e2 : ixD (encM (.set r z)) (.int 0) = .ok (.str "set") := rfl
      have e3 : ixD (encM (.set r z)) (.int 1) = .ok (.int r) := rfl
      rw [q_seq, q_ite]
      simp only [q_cmp, q_ix, q_var, rdS, List.getElem?_cons_zero, List.getElem?_cons_succ, q_bd, q_cI, e2, q_cS, e1, q_asB, if_true, q_seq, q_ret]
      simp only [q_lc, q_rng1, q_cI, q_bd]
      rw [rng_ok (by omega) (by omega) (by omega) (by omega) (by omega), q_bd]
      rw [lcGo_map PyData.int (fun k => encM (.set r (z.take k.toNat ++ z.drop (k.toNat + 1)))) (upto 0 4) fun k hk => by
        have hk2 := mem_upto hk
        have s1 : slD (encT z) none (some k) = .ok (encT (z.take k.toNat)) := sl_to z hk2.1
        have s2 : slD (encT z) (some (k + 1)) none = .ok (encT (z.drop (k.toNat + 1))) := by
          rw [sl_from z (by omega), show (k + 1).toNat = k.toNat + 1 by omega]
        have a1 : binD .Add (encT (z.take k.toNat)) (encT (z.drop (k.toNat + 1))) = .ok (encT (z.take k.toNat ++ z.drop (k.toNat + 1))) := by
          unfold encT
          have hz : z.length ≤ 1000 := g
          rw [add_TT _ _ (by simp only [List.length_map, List.length_take, List.length_drop]; omega), ← List.map_append]
        simp only [bindT, wipeS, List.set, q_bd, q_cnil, if_true, strict, q_tup, q_scons, q_cS, q_ix, q_var, rdS, List.getElem?_cons_zero, List.getElem?_cons_succ, q_cI, e3, q_bin, q_sl, q_pnil, q_pcons, q_part, Meld.cards, s1, q_add, s2, a1, q_snil]
        rfl]
      rw [hw, encLM, List.map_map]
      rfl
    | run s f z =>
      have hw : within (.run s f z) = [.run s (f + 1) (z.drop 1), .run s f z.dropLast] := if_neg h3
      have e1 : cmpD .Eq (.str "run") (.str "set") = .ok (.bool false) := cmp_eq (by decide) (by decide)
      have e2 : ixD (encM (.run s f z)) (.int 0) = .ok (.str "run") := rfl
      have e3 : ixD (encM (.run s f z)) (.int 1) = .ok (.int s) := rfl
      have e4 : ixD (encM (.run s f z)) (.int 2) = .ok (.int f) := rfl
      have s1 : slD (encT z) (some 1) none = .ok (encT (z.drop 1)) := sl_from z (by omega)
      rw [seq_nx (a := .ite _ _ _) (τ := [.imm (encM (.run s f z)), .imm (encT z), .dead]) (by
        rw [q_ite]
        simp only [q_cmp, q_ix, q_var, rdS, List.getElem?_cons_zero, List.getElem?_cons_succ, q_bd, q_cI, e2, q_cS, e1, q_asB]
        rfl)]
      rw [hw]
      simp only [q_seq, q_ret, q_lst, q_scons, strict, q_tup, q_cS, q_bd, q_ix, q_var, rdS, List.getElem?_cons_zero, List.getElem?_cons_succ, q_cI, e3, e4, q_bin, q_add, q_sl, q_pcons, q_pnil, q_part, q_neg, q_negD, s1, sl_last, q_snil]
      rfl
theorem k_within {Φ : Nat → FnS} (h : Φ 40 = F_law_within) (m : Meld) (hm : m.cards.length ≤ 1000) : gd (Φ 40).pure ((Φ 40).m [encM m]) = .ok (encLM (within m)) := by
  exact k_of h rfl ((m1_ok (decM_enc m)).trans (gd_pos (decide_eq_true hm)))
theorem ln_law_within (ds : List D) (r : D) (h : F_law_within.m ds = .ok r) : ds.length = F_law_within.ar := ln_m1 h
theorem fl_law_within (_ : F_law_within.pure = true) (ds : List D) (r : D) (h : F_law_within.m ds = .ok r) : flatTop r = true := fl_m1 (fun _ _ z => flt_gd (flt_encLM _) z) h
end Mt

set_option Elab.async false
set_option linter.all false
set_option maxRecDepth 100000
set_option maxHeartbeats 1000000
/-! Is it a card, a meld? Of any thing. -/
namespace Mt
open PySem PySem.Spec PyProof.Rows L2
def any1 (d : D) : Option D := some d
theorem any1_eq {d e : D} (h : any1 d = some e) : d = e := by cases h; rfl
def wholeD (d : D) (lo hi : Int) : Bool := match d with
  | .int i => decide (lo ≤ i) && decide (i ≤ hi)
  | _ => false
def F_is_whole : FnS := ⟨3, m3 any1 decI decI fun d lo hi => .ok (.bool (wholeD d lo hi)), true⟩
def F_law_from : FnS := ⟨3, m3 any1 decI decI fun d lo hi => .ok (.bool (wholeD d lo hi)), true⟩
theorem run_is_whole {Φ : Nat → FnS} {n : Nat} (ds : List D) (r : D) (h : F_is_whole.m ds = .ok r) : runF Φ n c_is_whole n_is_whole.length ds = .ok r := by
  obtain ⟨d, e, g, d', lo, hi, rfl, h1, h2, h3, hf⟩ := m3_inv h
  cases h1; cases decI_eq h2; cases decI_eq h3
  cases hf
  have e : startS n_is_whole.length [d, .int lo, .int hi] = [.imm d, .imm (.int lo), .imm (.int hi)] := rfl
  rw [runF, e, c_is_whole]
  cases d <;> simp [rdS, isiD, wholeD, PyData.isInt, PyData.isBool]
  rename_i i
  by_cases c : lo ≤ i <;> simp [c]
theorem run_law_from {Φ : Nat → FnS} {n : Nat} (ds : List D) (r : D) (h : F_law_from.m ds = .ok r) : runF Φ n c_law_from n_law_from.length ds = .ok r := run_is_whole ds r h
theorem k_is_whole {Φ : Nat → FnS} (h : Φ 19 = F_is_whole) (d : D) (lo hi : Int) : gd (Φ 19).pure ((Φ 19).m [d, .int lo, .int hi]) = .ok (.bool (wholeD d lo hi)) := by rw [h]; rfl
theorem k_law_from {Φ : Nat → FnS} (h : Φ 31 = F_law_from) (d : D) (lo hi : Int) : gd (Φ 31).pure ((Φ 31).m [d, .int lo, .int hi]) = .ok (.bool (wholeD d lo hi)) := by rw [h]; rfl
theorem ln_is_whole (ds : List D) (r : D) (h : F_is_whole.m ds = .ok r) : ds.length = F_is_whole.ar := ln_m3 h
theorem fl_is_whole (_ : F_is_whole.pure = true) (ds : List D) (r : D) (h : F_is_whole.m ds = .ok r) : flatTop r = true := fl_m3 (fun _ _ _ _ z => by cases z; rfl) h
theorem ln_law_from (ds : List D) (r : D) (h : F_law_from.m ds = .ok r) : ds.length = F_law_from.ar := ln_m3 h
theorem fl_law_from (_ : F_law_from.pure = true) (ds : List D) (r : D) (h : F_law_from.m ds = .ok r) : flatTop r = true := fl_m3 (fun _ _ _ _ z => by cases z; rfl) h
/-! ### cards -/
def okCb (c : Card) : Bool := decide ((c.1 = 0 ∧ 0 ≤ c.2 ∧ c.2 ≤ 1) ∨ (1 ≤ c.1 ∧ c.1 ≤ 13 ∧ 0 ≤ c.2 ∧ c.2 ≤ 3))
theorem okCb_iff {c : Card} : okCb c = true ↔ okC c := by unfold okCb okC; exact decide_eq_true_iff
def cardD (d : D) : Bool := match decC d with
  | some c => okCb c
  | none => false
def F_is_card : FnS := ⟨1, m1 any1 fun d => .ok (.bool (cardD d)), true⟩
def F_law_is_card : FnS := ⟨1, m1 any1 fun d => .ok (.bool (cardD d)), true⟩
theorem card_two (a b : D) : cardD (.tuple [a, b]) = match a, b with | .int r, .int s => okCb (r, s) | _, _ => false := by
  cases a <;> cases b <;> rfl
theorem wholeD_int (i lo hi : Int) : wholeD (.int i) lo hi = (decide (lo ≤ i) && decide (i ≤ hi)) := rfl
theorem card_split (r s : Int) : okCb (r, s) = (decide (0 ≤ r) && decide (r ≤ 13) && (if r = 0 then decide (0 ≤ s) && decide (s ≤ 1) else decide (0 ≤ s) && decide (s ≤ 3))) := by
  unfold okCb
  dsimp only
  by_cases h : r = 0
  · subst h
    simp
  · rw [if_neg h, Bool.eq_iff_iff]
    simp only [decide_eq_true_eq, Bool.and_eq_true]
    omega
theorem ix0 (a : D) (r : List D) : ixD (.tuple (a :: r)) (.int 0) = .ok a := by simp [ixD, atI, ixN]
theorem ix1 (a b : D) (r : List D) : ixD (.tuple (a :: b :: r)) (.int 1) = .ok b := by
  have h : ((1 : Int) < (r.length : Int) + 1 + 1) = True := by simp; omega
  simp [ixD, atI, ixN, h]
theorem wild_any {Φ : Nat → FnS} (h : Φ 0 = F_is_wild) (r : Int) (z : List D) : gd (Φ 0).pure ((Φ 0).m [.tuple (.int r :: z)]) = .ok (.bool (r == 0)) := by rw [h]; rfl
theorem card_not {a : D} (b : D) (h : wholeD a 0 13 = false) : cardD (.tuple [a, b]) = false := by
  rw [card_two]
  split
  · rename_i r s
    rw [card_split, ← wholeD_int, h]; rfl
  · rfl
theorem card_whole {r : Int} (b : D) (h : wholeD (.int r) 0 13 = true) : cardD (.tuple [.int r, b]) = wholeD b 0 (if r = 0 then 1 else 3) := by
  cases b with
  | int s =>
    rw [wholeD_int] at h
    show okCb (r, s) = _
    rw [card_split, h, wholeD_int]
    split <;> simp
  | _ => rfl
theorem card_long (a b c : D) (r : List D) : cardD (.tuple (a :: b :: c :: r)) = false := by cases a <;> cases b <;> rfl
theorem run_is_card {Φ : Nat → FnS} {n : Nat} (h0 : Φ 0 = F_is_wild) (h19 : Φ 19 = F_is_whole) (ds : List D) (r : D) (h : F_is_card.m ds = .ok r) : runF Φ n c_is_card n_is_card.length ds = .ok r := by
  obtain ⟨d, d', rfl, h1, hf⟩ := m1_inv (dec := any1) h
  cases h1
  cases hf
  have e : startS n_is_card.length [d] = [.imm d] := rfl
  rw [runF, e, c_is_card]
  match d with
  | .tuple [a, b] =>
    by_cases hw : wholeD a 0 13 = true
    · obtain ⟨r, rfl⟩ : ∃ r, a = .int r := by cases a <;> first | exact ⟨_, rfl⟩ | cases hw
      rw [card_whole b hw]
      by_cases hz : r = 0
      · subst hz
        simp [rdS, isiD, PyData.isTuple, ix0, ix1, k_is_whole h19, hw, wild_any h0]
      · simp [rdS, isiD, PyData.isTuple, ix0, ix1, k_is_whole h19, hw, wild_any h0, hz]
    · have hw' : wholeD a 0 13 = false := by simpa using hw
      simp [rdS, isiD, PyData.isTuple, ix0, k_is_whole h19, hw', card_not b hw']
  | .tuple [] => simp [rdS, isiD, PyData.isTuple, cardD, decC]
  | .tuple [a] => simp [rdS, isiD, PyData.isTuple, cardD, decC]
  | .tuple (a :: b :: c :: r) =>
    have hl : ¬ ((r.length : Int) + 1 + 1 + 1 = 2) := by omega
    simp [rdS, isiD, PyData.isTuple, card_long, hl]
  | .none => simp [rdS, isiD, PyData.isTuple, cardD, decC]
  | .bool _ => simp [rdS, isiD, PyData.isTuple, cardD, decC]
  | .int _ => simp [rdS, isiD, PyData.isTuple, cardD, decC]
  | .str _ => simp [rdS, isiD, PyData.isTuple, cardD, decC]
  | .list _ => simp [rdS, isiD, PyData.isTuple, cardD, decC]
  | .dict _ => simp [rdS, isiD, PyData.isTuple, cardD, decC]
theorem ix31 (p : Bool) : ixD (.list [.int 3, .int 1]) (.int (if p = true then 1 else 0)) = .ok (.int (if p = true then 1 else 3)) := by cases p <;> rfl
theorem run_law_is_card {Φ : Nat → FnS} {n : Nat} (h31 : Φ 31 = F_law_from) (ds : List D) (r : D) (h : F_law_is_card.m ds = .ok r) : runF Φ n c_law_is_card n_law_is_card.length ds = .ok r := by
  obtain ⟨d, d', rfl, h1, hf⟩ := m1_inv (dec := any1) h
  cases h1
  cases hf
  have e : startS n_law_is_card.length [d] = [.imm d] := rfl
  rw [runF, e, c_law_is_card]
  match d with
  | .tuple [a, b] =>
    by_cases hw : wholeD a 0 13 = true
    · obtain ⟨r, rfl⟩ : ∃ r, a = .int r := by cases a <;> first | exact ⟨_, rfl⟩ | cases hw
      rw [card_whole b hw]
      have j := ix31 (r == 0)
      by_cases hz : r = 0
      · subst hz
        simp [rdS, isiD, PyData.isTuple, ix0, ix1, k_law_from h31, hw]
        simp at j
        simp [strict, j, k_law_from h31]
      · simp [rdS, isiD, PyData.isTuple, ix0, ix1, k_law_from h31, hw, hz]
        simp [hz] at j
        simp [strict, j, k_law_from h31]
    · have hw' : wholeD a 0 13 = false := by simpa using hw
      simp [rdS, isiD, PyData.isTuple, ix0, k_law_from h31, hw', card_not b hw']
  | .tuple [] => simp [rdS, isiD, PyData.isTuple, cardD, decC]
  | .tuple [a] => simp [rdS, isiD, PyData.isTuple, cardD, decC]
  | .tuple (a :: b :: c :: r) =>
    have hl : ¬ ((r.length : Int) + 1 + 1 + 1 = 2) := by omega
    simp [rdS, isiD, PyData.isTuple, card_long, hl]
  | .none => simp [rdS, isiD, PyData.isTuple, cardD, decC]
  | .bool _ => simp [rdS, isiD, PyData.isTuple, cardD, decC]
  | .int _ => simp [rdS, isiD, PyData.isTuple, cardD, decC]
  | .str _ => simp [rdS, isiD, PyData.isTuple, cardD, decC]
  | .list _ => simp [rdS, isiD, PyData.isTuple, cardD, decC]
  | .dict _ => simp [rdS, isiD, PyData.isTuple, cardD, decC]
theorem k_is_card {Φ : Nat → FnS} (h : Φ 20 = F_is_card) (d : D) : gd (Φ 20).pure ((Φ 20).m [d]) = .ok (.bool (cardD d)) := by rw [h]; rfl
theorem k_law_is_card {Φ : Nat → FnS} (h : Φ 32 = F_law_is_card) (d : D) : gd (Φ 32).pure ((Φ 32).m [d]) = .ok (.bool (cardD d)) := by rw [h]; rfl
theorem ln_is_card (ds : List D) (r : D) (h : F_is_card.m ds = .ok r) : ds.length = F_is_card.ar := ln_m1 (dec := any1) h
theorem fl_is_card (_ : F_is_card.pure = true) (ds : List D) (r : D) (h : F_is_card.m ds = .ok r) : flatTop r = true := fl_m1 (dec := any1) (fun _ _ z => by cases z; rfl) h
theorem ln_law_is_card (ds : List D) (r : D) (h : F_law_is_card.m ds = .ok r) : ds.length = F_law_is_card.ar := ln_m1 (dec := any1) h
theorem fl_law_is_card (_ : F_law_is_card.pure = true) (ds : List D) (r : D) (h : F_law_is_card.m ds = .ok r) : flatTop r = true := fl_m1 (dec := any1) (fun _ _ z => by cases z; rfl) h
end Mt

set_option Elab.async false
set_option linter.all false
set_option maxRecDepth 100000
set_option maxHeartbeats 1000000
/-! Sets, runs, melds: of any thing. -/
namespace Mt
open PySem PySem.Spec PyProof.Rows L2
/-! ### are they cards? -/
def areC (cs : List Card) : Bool := cs.all okCb && decide ((cs.filter fun c => c.1 == 0).length ≤ 1)
def areD (d : D) : Bool := match decT decC d with
  | some cs => areC cs
  | none => false
theorem areD_enc (cs : List Card) : areD (encT cs) = areC cs := by unfold areD; rw [decT_enc]
theorem cards_of_all : ∀ {ds : List D}, ds.all cardD = true → ∃ cs : List Card, ds = cs.map encC ∧ cs.all okCb = true
  | [], _ => ⟨[], rfl, rfl⟩
  | d :: ds, h => by
    rw [List.all_cons, Bool.and_eq_true] at h
    obtain ⟨cs, rfl, h2⟩ := cards_of_all h.2
    have h1 := h.1
    unfold cardD at h1
    split at h1
    · rename_i c e
      refine ⟨c :: cs, by rw [decC_eq e]; rfl, by rw [List.all_cons, h1, h2]; rfl⟩
    · cases h1
theorem all_of_cards {cs : List Card} (h : cs.all okCb = true) : (cs.map encC).all cardD = true := by
  rw [List.all_map]; exact h
def F_are_cards : FnS := ⟨1, m1 any1 fun d => .ok (.bool (areD d)), true⟩
theorem run_are_cards {Φ : Nat → FnS} {n : Nat} (h20 : Φ 20 = F_is_card) (h0 : Φ 0 = F_is_wild) (ds : List D) (r : D) (h : F_are_cards.m ds = .ok r) : runF Φ n c_are_cards n_are_cards.length ds = .ok r := by
  obtain ⟨d, d', rfl, h1, hf⟩ := m1_inv (dec := any1) h
  cases h1
  cases hf
  have e : startS n_are_cards.length [d] = [.imm d, .dead] := rfl
  rw [runF, e, c_are_cards]
  cases d with
  | tuple ds =>
    have la : ∀ σ : Sg, σ = [.imm (.tuple ds), .dead] → ev Φ (.lc (.call 20 (.cons (.var 1) .nil)) [1] true (.cons (.var 0) .nil) .nil) σ = .ok (.list (ds.map (PyData.bool ∘ cardD))) := fun σ hσ => by
      subst hσ
      exact lc_map id _ ds (by rw [List.map_id]; rfl) fun d _ => by simp [lcOne, bindT, wipeS, rdS, strict, k_is_card h20]
    by_cases ha : ds.all cardD = true
    · obtain ⟨cs, rfl, hc⟩ := cards_of_all ha
      have hD : areD (.tuple (cs.map encC)) = areC cs := areD_enc cs
      have lb : ev Φ (.lc (.var 1) [1] true (.cons (.var 0) .nil) (.cons (.call 0 (.cons (.var 1) .nil)) .nil)) [.imm (.tuple (cs.map encC)), .dead] = .ok (.list ((cs.filter fun c => c.1 == 0).map encC)) :=
        lc_filter encC _ encC cs rfl fun c _ => by simp [lcOne, bindT, wipeS, rdS, strict, rdI, k_is_wild h0]
      rw [hD, areC, hc]
      simp only [q_seq, q_ite, q_or, q_orcons, q_not, q_isi, q_var, rdS, List.getElem?_cons_zero, q_bd, isiD, PyData.isTuple, q_asB, Bool.not_true, q_bi, q_rcons, q_rnil, la _ rfl, q_allc, ha]
      simp [lb, rdS]
      omega
    · have hD : areD (.tuple ds) = false := by
        unfold areD
        split
        · rename_i cs e
          have := decT_eq e
          cases this
          by_cases hc : cs.all okCb = true
          · exact absurd (all_of_cards hc) ha
          · unfold areC; simp [hc]
        · rfl
      have ha' : ds.all cardD = false := by simpa using ha
      rw [hD]
      simp only [q_seq, q_ite, q_or, q_orcons, q_not, q_isi, q_var, rdS, List.getElem?_cons_zero, q_bd, isiD, PyData.isTuple, q_asB, Bool.not_true, q_bi, q_rcons, q_rnil, la _ rfl, q_allc, ha']
      simp
  | _ => simp [rdS, isiD, PyData.isTuple, areD, decT]
theorem k_are_cards {Φ : Nat → FnS} (h : Φ 21 = F_are_cards) (d : D) : gd (Φ 21).pure ((Φ 21).m [d]) = .ok (.bool (areD d)) := by rw [h]; rfl
theorem ln_are_cards (ds : List D) (r : D) (h : F_are_cards.m ds = .ok r) : ds.length = F_are_cards.ar := ln_m1 (dec := any1) h
theorem fl_are_cards (_ : F_are_cards.pure = true) (ds : List D) (r : D) (h : F_are_cards.m ds = .ok r) : flatTop r = true := fl_m1 (dec := any1) (fun _ _ z => by cases z; rfl) h
/-! ### sets -/
def setB (r : Int) (cs : List Card) : Bool := decide (3 ≤ cs.length) && decide (cs.length ≤ 4) && decide (cs = ssetP cs) && cs.all fun c => c.1 == 0 || c.1 == r
theorem okCb_small {c : Card} (h : okCb c = true) : smallP c = true := by
  have := okCb_iff.mp h
  unfold okC at this
  unfold smallP
  simp only [Bool.and_eq_true, decide_eq_true_eq]
  omega
theorem prs_enc : ∀ cs : List Card, prsOfD (cs.map encC) = .ok cs
  | [] => rfl
  | c :: cs => by
    show bd (prsOfD (cs.map encC)) _ = _
    rw [prs_enc cs]; rfl
theorem sset_enc {cs : List Card} (h : cs.all okCb = true) (hl : cs.length < 64) : ssetD (encT cs) = .ok (encL (ssetP cs)) := by
  show bd (prsOfD (cs.map encC)) _ = _
  rw [prs_enc]
  have h2 : cs.all smallP = true := List.all_eq_true.mpr fun c hc => okCb_small (List.all_eq_true.mp h c hc)
  show gd (decide (cs.length < 64) && cs.all smallP) _ = _
  rw [h2, decide_eq_true hl]; rfl
theorem depth_L (cs : List Card) : (encL cs).depth ≤ 60 := Nat.le_trans (depth_T cs) (by decide)
def F_is_set : FnS := ⟨2, m2 decI (decT decC) fun r cs => gd (cs.all okCb) (.ok (.bool (setB r cs))), true⟩
theorem run_is_set {Φ : Nat → FnS} {n : Nat} (h0 : Φ 0 = F_is_wild) (ds : List D) (r : D) (h : F_is_set.m ds = .ok r) : runF Φ n c_is_set n_is_set.length ds = .ok r := by
  obtain ⟨d, e, r, cs, rfl, h1, h2, hf⟩ := m2_inv h
  obtain ⟨g, hf⟩ := gd_inv hf
  cases decI_eq h1
  cases decT_eq h2
  cases hf
  have e : startS n_is_set.length [.int r, encT cs] = [.imm (.int r), .imm (encT cs), .dead] := rfl
  rw [runF, e, c_is_set]
  have hl : biD .len [encT cs] = .ok (.int cs.length) := by show Except.ok (PyData.int ((cs.map encC).length : Nat)) = _; rw [List.length_map]
  have hls : biD .list [encT cs] = .ok (encL cs) := rfl
  by_cases c3 : 3 ≤ cs.length
  · by_cases c4 : cs.length ≤ 4
    · have hs : x1D .sset (encT cs) = .ok (encL (ssetP cs)) := sset_enc g (by omega)
      have hn : cmpD .NotEq (encL cs) (encL (ssetP cs)) = .ok (.bool !decide (cs = ssetP cs)) := cmp_ne (depth_L cs) (eqv_L _ _)
      have c3' : (3 : Int) ≤ cs.length := by omega
      have c4' : (cs.length : Int) ≤ 4 := by omega
      by_cases hc : cs = ssetP cs
      · have hq : setB r cs = cs.all fun c => c.1 == 0 || c.1 == r := by unfold setB; simp [c3, c4, hc.symm]
        have ds : decide (cs = ssetP cs) = true := decide_eq_true hc
        rw [hq]
        simp [-q_lc, rdS, hl, hls, hs, hn, c3', c4', ds]
        rw [lc_map encC (PyData.bool ∘ fun c => c.1 == 0 || c.1 == r) cs rfl fun c _ => by
          have i0 : ixD (encC c) (.int 0) = .ok (.int c.1) := rfl
          by_cases hz : c.1 = 0
          · simp [lcOne, bindT, wipeS, rdS, strict, k_is_wild h0, hz]
          · simp [lcOne, bindT, wipeS, rdS, strict, k_is_wild h0, hz, i0]]
        simp
      · have ds : decide (cs = ssetP cs) = false := decide_eq_false hc
        have hq : setB r cs = false := by unfold setB; rw [ds]; simp
        rw [hq]
        simp [rdS, hl, hls, hs, hn, c3', c4', ds]
    · have hq : setB r cs = false := by unfold setB; simp [c4]
      have c3' : (3 : Int) ≤ cs.length := by omega
      have c4' : ¬ (cs.length : Int) ≤ 4 := by omega
      rw [hq]
      simp [rdS, hl, c3', c4']
  · have hq : setB r cs = false := by unfold setB; simp [c3]
    have c3' : ¬ (3 : Int) ≤ cs.length := by omega
    rw [hq]
    simp [rdS, hl, c3']
theorem k_is_set {Φ : Nat → FnS} (h : Φ 22 = F_is_set) (r : Int) {cs : List Card} (hc : cs.all okCb = true) : gd (Φ 22).pure ((Φ 22).m [.int r, encT cs]) = .ok (.bool (setB r cs)) :=
  k_of h rfl ((m2_ok (decI_int r) (decT_enc cs)).trans (gd_pos hc))
theorem ln_is_set (ds : List D) (r : D) (h : F_is_set.m ds = .ok r) : ds.length = F_is_set.ar := ln_m2 h
theorem fl_is_set (_ : F_is_set.pure = true) (ds : List D) (r : D) (h : F_is_set.m ds = .ok r) : flatTop r = true := fl_m2 (fun _ _ _ z => by obtain ⟨_, z⟩ := gd_inv z; cases z; rfl) h
/-! ### runs -/
theorem enum_enc (cs : List Card) : enumD (cs.map encC) = cs.zipIdx.map fun p => .tuple [.int (p.2 : Nat), encC p.1] := by
  apply List.ext_getElem?
  intro i
  rw [enumD_get, List.getElem?_map, List.getElem?_map, List.getElem?_zipIdx]
  cases cs[i]? <;> simp
def runAll (s f : Int) (cs : List Card) : Bool := cs.zipIdx.all fun p => p.1.1 == 0 || decide (p.1 = (f + (p.2 : Nat), s))
def runB (s f : Int) (cs : List Card) : Bool := decide (3 ≤ cs.length) && decide (f + cs.length ≤ 14) && runAll s f cs
def F_is_run : FnS := ⟨3, m3 decI decI (decT decC) fun s f cs => .ok (.bool (runB s f cs)), true⟩
theorem run_is_run {Φ : Nat → FnS} {n : Nat} (h0 : Φ 0 = F_is_wild) (ds : List D) (r : D) (h : F_is_run.m ds = .ok r) : runF Φ n c_is_run n_is_run.length ds = .ok r := by
  obtain ⟨d, e, g, s, f, cs, rfl, h1, h2, h3, hf⟩ := m3_inv h
  cases decI_eq h1
  cases decI_eq h2
  cases decT_eq h3
  cases hf
  have e : startS n_is_run.length [.int s, .int f, encT cs] = [.imm (.int s), .imm (.int f), .imm (encT cs), .dead, .dead] := rfl
  rw [runF, e, c_is_run]
  have hl : biD .len [encT cs] = .ok (.int cs.length) := by show Except.ok (PyData.int ((cs.map encC).length : Nat)) = _; rw [List.length_map]
  by_cases c3 : 3 ≤ cs.length
  · have c3' : ¬ (cs.length : Int) < 3 := by omega
    by_cases c4 : f + cs.length ≤ 14
    · have c4' : ¬ 13 < f + (cs.length : Int) - 1 := by omega
      have hq : runB s f cs = runAll s f cs := by unfold runB; simp [c3, c4]
      rw [hq]
      simp [-q_lc, rdS, hl, c3', c4']
      rw [lc_map (fun p : Card × Nat => .tuple [.int (p.2 : Nat), encC p.1]) (PyData.bool ∘ fun p => p.1.1 == 0 || decide (p.1 = (f + (p.2 : Nat), s))) cs.zipIdx (by rw [← enum_enc]; rfl) fun p _ => by
        have hc : cmpD .Eq (encC p.1) (.tuple [.int (f + (p.2 : Nat)), .int s]) = .ok (.bool (decide (p.1 = (f + (p.2 : Nat), s)))) := cmp_eq (by rw [depth_enc]; decide) (eqv_enc p.1 (f + (p.2 : Nat), s))
        by_cases hz : p.1.1 = 0
        · simp [lcOne, bindT, wipeS, setAll, rdS, rdI, strict, k_is_wild h0, hz]
        · simp [lcOne, bindT, wipeS, setAll, rdS, rdI, strict, k_is_wild h0, hz, hc]]
      simp [runAll]
    · have c4' : 13 < f + (cs.length : Int) - 1 := by omega
      have hq : runB s f cs = false := by unfold runB; simp [c4]
      rw [hq]
      simp [rdS, hl, c3', c4']
  · have c3' : (cs.length : Int) < 3 := by omega
    have hq : runB s f cs = false := by unfold runB; simp [c3]
    rw [hq]
    simp [rdS, hl, c3']
theorem k_is_run {Φ : Nat → FnS} (h : Φ 23 = F_is_run) (s f : Int) (cs : List Card) : gd (Φ 23).pure ((Φ 23).m [.int s, .int f, encT cs]) = .ok (.bool (runB s f cs)) :=
  k_of h rfl (m3_ok (decI_int s) (decI_int f) (decT_enc cs))
theorem ln_is_run (ds : List D) (r : D) (h : F_is_run.m ds = .ok r) : ds.length = F_is_run.ar := ln_m3 h
theorem fl_is_run (_ : F_is_run.pure = true) (ds : List D) (r : D) (h : F_is_run.m ds = .ok r) : flatTop r = true := fl_m3 (fun _ _ _ _ z => by cases z; rfl) h
end Mt

set_option Elab.async false
set_option linter.all false
set_option maxRecDepth 100000
set_option maxHeartbeats 1000000
/-! Is it a meld? -/
namespace Mt
open PySem PySem.Spec PyProof.Rows L2
def meldB : Meld → Bool
  | .set r z => areC z && (decide (1 ≤ r) && decide (r ≤ 13)) && setB r z
  | .run s f z => areC z && (decide (0 ≤ s) && decide (s ≤ 3)) && (decide (1 ≤ f) && decide (f ≤ 13)) && runB s f z
def meldD (d : D) : Bool := match decM d with
  | some m => meldB m
  | none => false
theorem meldD_enc (m : Meld) : meldD (encM m) = meldB m := by unfold meldD; rw [decM_enc]
def setD' (b c : D) : Bool := match b, decT decC c with
  | .int r, some cs => setB r cs
  | _, _ => false
def runD' (b c e : D) : Bool := match b, c, decT decC e with
  | .int s, .int f, some cs => runB s f cs
  | _, _, _ => false
theorem meld3 (k : Str) (b c : D) : meldD (.tuple [.str k, b, c]) = (decide (k = "set") && areD c && wholeD b 1 13 && setD' b c) := by
  by_cases hk : k = "set"
  · subst hk
    cases b with
    | int r =>
      show (match (if ("set" : Str) = "set" then (decT decC c).map (Meld.set r) else none) with | some m => meldB m | none => false) = _
      rw [if_pos rfl]
      unfold areD setD'
      cases decT decC c with
      | none => simp
      | some cs => simp [meldB, wholeD_int]
    | _ => simp [meldD, decM, wholeD]
  · have : decM (.tuple [.str k, b, c]) = none := by
      cases b with
      | int r => show (if k = "set" then _ else _) = _; rw [if_neg hk]
      | _ => rfl
    unfold meldD
    rw [this]
    simp [hk]
theorem meld4 (k : Str) (b c e : D) : meldD (.tuple [.str k, b, c, e]) = (decide (k = "run") && areD e && wholeD b 0 3 && wholeD c 1 13 && runD' b c e) := by
  by_cases hk : k = "run"
  · subst hk
    cases b with
    | int s =>
      cases c with
      | int f =>
        show (match (if ("run" : Str) = "run" then (decT decC e).map (Meld.run s f) else none) with | some m => meldB m | none => false) = _
        rw [if_pos rfl]
        unfold areD runD'
        cases decT decC e with
        | none => simp
        | some cs => simp [meldB, wholeD_int]
      | _ => simp [meldD, decM, wholeD]
    | _ => simp [meldD, decM, wholeD]
  · have : decM (.tuple [.str k, b, c, e]) = none := by
      cases b with
      | int s =>
        cases c with
        | int f => show (if k = "run" then _ else _) = _; rw [if_neg hk]
        | _ => rfl
      | _ => rfl
    unfold meldD
    rw [this]
    simp [hk]
theorem meld_no (ds : List D) (h3 : ds.length ≠ 3) (h4 : ds.length ≠ 4) : meldD (.tuple ds) = false := by
  match ds, h3, h4 with
  | [], _, _ => rfl
  | [_], _, _ => simp [meldD, decM]
  | [_, _], _, _ => simp [meldD, decM]
  | [_, _, _], h, _ => simp at h
  | [_, _, _, _], _, h => simp at h
  | a :: b :: c :: d :: e :: r, _, _ => simp [meldD, decM]
theorem meld_nostr {a : D} (r : List D) (h : a.isStr = false) : meldD (.tuple (a :: r)) = false := by
  cases a <;> first | (cases h; done) | (simp [meldD, decM])
@[simp] theorem q_eqS (a b : Str) : cmpD .Eq (.str a) (.str b) = .ok (.bool (decide (a = b))) := cmp_eq (Nat.zero_le _) (by
  show (a == b) = _
  by_cases h : a = b
  · subst h; simp
  · simp [h])
@[simp] theorem q_neS (a b : Str) : cmpD .NotEq (.str a) (.str b) = .ok (.bool (!decide (a = b))) := cmp_ne (Nat.zero_le _) (by
  show (a == b) = _
  by_cases h : a = b
  · subst h; simp
  · simp [h])
theorem q_nin34 (k : Nat) : cmpD .NotIn (.int k) (.tuple [.int 3, .int 4]) = .ok (.bool (!decide (k = 3 ∨ k = 4))) := by
  show gd (decide ((PyData.int k).depth ≤ 60)) (Except.ok (PyData.bool (!([PyData.int 3, PyData.int 4].any fun z => PyData.eqv z (.int k))))) = _
  rw [show decide ((PyData.int (k : Int)).depth ≤ 60) = true from rfl, q_gdt]
  have e3 : PyData.eqv (.int 3) (.int (k : Nat)) = decide (k = 3) := by
    show ((3 : Int) == (k : Int)) = _
    by_cases h : k = 3
    · subst h; rfl
    · rw [decide_eq_false h, beq_eq_false_iff_ne]; omega
  have e4 : PyData.eqv (.int 4) (.int (k : Nat)) = decide (k = 4) := by
    show ((4 : Int) == (k : Int)) = _
    by_cases h : k = 4
    · subst h; rfl
    · rw [decide_eq_false h, beq_eq_false_iff_ne]; omega
  simp [e3, e4]
def F_is_meld : FnS := ⟨1, m1 any1 fun d => .ok (.bool (meldD d)), true⟩
theorem areD_of {d : D} (h : areD d = true) : ∃ cs : List Card, d = encT cs ∧ areC cs = true ∧ cs.all okCb = true := by
  unfold areD at h
  split at h
  · rename_i cs e
    refine ⟨cs, decT_eq e, h, ?_⟩
    unfold areC at h
    rw [Bool.and_eq_true] at h
    exact h.1
  · cases h
theorem whole_int {d : D} {lo hi : Int} (h : wholeD d lo hi = true) : ∃ i, d = .int i := by cases d <;> first | exact ⟨_, rfl⟩ | cases h
theorem run_is_meld {Φ : Nat → FnS} {n : Nat} (h21 : Φ 21 = F_are_cards) (h19 : Φ 19 = F_is_whole) (h22 : Φ 22 = F_is_set) (h23 : Φ 23 = F_is_run) (ds : List D) (r : D) (h : F_is_meld.m ds = .ok r) : runF Φ n c_is_meld n_is_meld.length ds = .ok r := by
  obtain ⟨d, d', rfl, h1, hf⟩ := m1_inv (dec := any1) h
  cases h1
  cases hf
  have e : startS n_is_meld.length [d] = [.imm d] := rfl
  rw [runF, e, c_is_meld]
  cases d with
  | tuple ds =>
    by_cases hlen : ds.length = 3 ∨ ds.length = 4
    · match ds, hlen with
      | [a, b, c], _ =>
        have il : ixD (.tuple [a, b, c]) (.int (-1)) = .ok c := rfl
        have i2 : ixD (.tuple [a, b, c]) (.int 2) = .ok c := rfl
        have n34 : cmpD .NotIn (.int 3) (.tuple [.int 3, .int 4]) = .ok (.bool false) := rfl
        by_cases hs : a.isStr = true
        · obtain ⟨k, rfl⟩ : ∃ k, a = .str k := by cases a <;> first | exact ⟨_, rfl⟩ | cases hs
          rw [meld3]
          by_cases ha : areD c = true
          · obtain ⟨cs, rfl, hc1, hc2⟩ := areD_of ha
            by_cases hk : k = "set"
            · subst hk
              by_cases hw : wholeD b 1 13 = true
              · obtain ⟨r, rfl⟩ := whole_int hw
                have hsd : setD' (.int r) (encT cs) = setB r cs := by unfold setD'; rw [decT_enc]
                simp [rdS, strict, isiD, PyData.isTuple, PyData.isStr, ix0, ix1, il, i2, n34, k_are_cards h21, ha, k_is_whole h19, hw, k_is_set h22 r hc2, hsd]
              · have hw' : wholeD b 1 13 = false := by simpa using hw
                simp [rdS, strict, isiD, PyData.isTuple, PyData.isStr, ix0, ix1, il, i2, n34, k_are_cards h21, ha, k_is_whole h19, hw']
            · simp [rdS, strict, isiD, PyData.isTuple, PyData.isStr, ix0, ix1, il, i2, n34, k_are_cards h21, ha, hk]
          · have ha' : areD c = false := by simpa using ha
            simp [rdS, strict, isiD, PyData.isTuple, PyData.isStr, ix0, il, n34, k_are_cards h21, ha']
        · have hs' : a.isStr = false := by simpa using hs
          rw [meld_nostr _ hs']
          simp [rdS, strict, isiD, PyData.isTuple, ix0, n34, hs']
      | [a, b, c, z], _ =>
        have il : ixD (.tuple [a, b, c, z]) (.int (-1)) = .ok z := rfl
        have i2 : ixD (.tuple [a, b, c, z]) (.int 2) = .ok c := rfl
        have i3 : ixD (.tuple [a, b, c, z]) (.int 3) = .ok z := rfl
        have n34 : cmpD .NotIn (.int 4) (.tuple [.int 3, .int 4]) = .ok (.bool false) := rfl
        by_cases hs : a.isStr = true
        · obtain ⟨k, rfl⟩ : ∃ k, a = .str k := by cases a <;> first | exact ⟨_, rfl⟩ | cases hs
          rw [meld4]
          by_cases ha : areD z = true
          · obtain ⟨cs, rfl, hc1, hc2⟩ := areD_of ha
            by_cases hk : k = "set"
            · subst hk
              have hr : ¬ (("set" : Str) = "run") := by decide
              simp [rdS, strict, isiD, PyData.isTuple, PyData.isStr, ix0, ix1, il, n34, k_are_cards h21, ha, hr]
            · by_cases hr : k = "run"
              · subst hr
                by_cases hw : wholeD b 0 3 = true
                · obtain ⟨s, rfl⟩ := whole_int hw
                  by_cases hw2 : wholeD c 1 13 = true
                  · obtain ⟨f, rfl⟩ := whole_int hw2
                    have hsd : runD' (.int s) (.int f) (encT cs) = runB s f cs := by unfold runD'; rw [decT_enc]
                    simp [rdS, strict, isiD, PyData.isTuple, PyData.isStr, ix0, ix1, il, i2, i3, n34, k_are_cards h21, ha, k_is_whole h19, hw, hw2, k_is_run h23, hsd, hk]
                  · have hw' : wholeD c 1 13 = false := by simpa using hw2
                    simp [rdS, strict, isiD, PyData.isTuple, PyData.isStr, ix0, ix1, il, i2, n34, k_are_cards h21, ha, k_is_whole h19, hw, hw', hk]
                · have hw' : wholeD b 0 3 = false := by simpa using hw
                  simp [rdS, strict, isiD, PyData.isTuple, PyData.isStr, ix0, ix1, il, i2, n34, k_are_cards h21, ha, k_is_whole h19, hw', hk]
              · simp [rdS, strict, isiD, PyData.isTuple, PyData.isStr, ix0, ix1, il, n34, k_are_cards h21, ha, hk, hr]
          · have ha' : areD z = false := by simpa using ha
            simp [rdS, strict, isiD, PyData.isTuple, PyData.isStr, ix0, il, n34, k_are_cards h21, ha']
        · have hs' : a.isStr = false := by simpa using hs
          rw [meld_nostr _ hs']
          simp [rdS, strict, isiD, PyData.isTuple, ix0, n34, hs']
    · rw [meld_no ds (fun h => hlen (.inl h)) (fun h => hlen (.inr h))]
      simp [rdS, strict, isiD, PyData.isTuple, q_nin34, hlen]
  | _ => simp [rdS, strict, isiD, PyData.isTuple, meldD, decM]
theorem k_is_meld {Φ : Nat → FnS} (h : Φ 24 = F_is_meld) (d : D) : gd (Φ 24).pure ((Φ 24).m [d]) = .ok (.bool (meldD d)) := by rw [h]; rfl
theorem ln_is_meld (ds : List D) (r : D) (h : F_is_meld.m ds = .ok r) : ds.length = F_is_meld.ar := ln_m1 (dec := any1) h
theorem fl_is_meld (_ : F_is_meld.pure = true) (ds : List D) (r : D) (h : F_is_meld.m ds = .ok r) : flatTop r = true := fl_m1 (dec := any1) (fun _ _ z => by cases z; rfl) h
end Mt

set_option Elab.async false
set_option linter.all false
set_option maxRecDepth 100000
set_option maxHeartbeats 1000000
/-! Is it a meld? The law's own way. -/
namespace Mt
open PySem PySem.Spec PyProof.Rows L2
theorem meld_need {ds : List D} (h : meldD (.tuple ds) = true) : (∃ r z, ds = [.str "set", .int r, encT z] ∧ meldB (.set r z) = true) ∨ ∃ s f z, ds = [.str "run", .int s, .int f, encT z] ∧ meldB (.run s f z) = true := by
  unfold meldD at h
  split at h
  · rename_i m e
    have e' := decM_eq e
    cases m with
    | set r z => cases e'; exact .inl ⟨r, z, rfl, h⟩
    | run s f z => cases e'; exact .inr ⟨s, f, z, rfl, h⟩
  · cases h
theorem ixLast (ds : List D) (h : ds ≠ []) : ixD (.tuple ds) (.int (-1)) = .ok (ds.getLast h) := by
  have hl : 0 < ds.length := List.length_pos_iff.mpr h
  have : atI ds (-1) = some (ds.getLast h) := by
    unfold atI ixN
    rw [if_neg (by omega), if_pos (by omega)]
    show ds[(ds.length + (-1) : Int).toNat]? = _
    rw [show ((ds.length : Int) + (-1)).toNat = ds.length - 1 by omega, List.getLast_eq_getElem, List.getElem?_eq_getElem (by omega)]
  show (match atI ds (-1) with | some d => _ | none => _) = _
  rw [this]
theorem ne_nil (xs : List D) : cmpD .NotEq (.list xs) (.list []) = .ok (.bool (!xs.isEmpty)) := by
  show gd (decide (min (PyData.list xs).depth (PyData.list []).depth ≤ 60)) (Except.ok (PyData.bool (!PyData.eqv (.list xs) (.list [])))) = _
  have e1 : (PyData.list []).depth ≤ 60 := by decide
  rw [gd_pos (decide_eq_true (by omega))]
  cases xs <;> rfl
theorem eq_nil (xs : List D) : cmpD .Eq (.list xs) (.list []) = .ok (.bool xs.isEmpty) := by
  show gd (decide (min (PyData.list xs).depth (PyData.list []).depth ≤ 60)) (Except.ok (PyData.bool (PyData.eqv (.list xs) (.list [])))) = _
  have e1 : (PyData.list []).depth ≤ 60 := by decide
  rw [gd_pos (decide_eq_true (by omega))]
  cases xs <;> rfl
theorem ints_map (ns : List Int) : intsOfD (ns.map .int) = .ok ns := by
  induction ns with
  | nil => rfl
  | cons n ns ih => show bd (intsOfD (ns.map .int)) _ = _; rw [ih]; rfl
theorem cnt0 (cs : List Card) : x2D .lcnt (.list (cs.map fun c => .int c.1)) (.int 0) = .ok (.int ((cs.filter fun c => c.1 == 0).length : Nat)) := by
  have e : (cs.map fun c : Card => PyData.int c.1) = (cs.map (·.1)).map .int := by rw [List.map_map]; rfl
  rw [e]
  show bd (intsOfD ((cs.map (·.1)).map .int)) _ = _
  rw [ints_map, q_bd]
  congr 3
  rw [List.count, List.countP_map, List.countP_eq_length_filter]
  rfl
theorem nin0 (i r : Int) : cmpD .NotIn (.int i) (.tuple [.int 0, .int r]) = .ok (.bool (!(i == 0 || i == r))) := by
  show gd true (Except.ok (PyData.bool (!((0 : Int) == i || ((r == i) || false))))) = _
  rw [q_gdt]
  have e1 : ((0 : Int) == i) = (i == 0) := Bool.beq_comm
  have e2 : (r == i) = (i == r) := Bool.beq_comm
  rw [e1, e2, Bool.or_false]
theorem not_all {α : Type} (p : α → Bool) (l : List α) : (l.filter fun a => !p a).isEmpty = l.all p := by
  induction l with
  | nil => rfl
  | cons a l ih =>
    rw [List.filter_cons, List.all_cons, ← ih]
    cases p a <;> simp
theorem isiT (ds : List D) : isiD .tuple (.tuple ds) = true := rfl
theorem isiS (k : Str) : isiD .str (.str k) = true := rfl
theorem as_lc (σ : Sg) (i : Nat) (e it cond : C) (tg : List Nat) (one : Bool) (ds : List D) : asgS σ i (.lc e tg one it cond) (.list ds) = .ok (σ.set i (.own ds)) := rfl
theorem upto_at {n : Nat} {i : Nat} (h : i < n) : (upto 0 n)[i]? = some (i : Int) := by
  unfold upto
  rw [List.getElem?_map, show (((n : Int)) - 0).toNat = n by omega, List.getElem?_range h]
  simp
theorem ixL_at {α : Type} (enc : α → D) (l : List α) {i : Nat} {a : α} (h : l[i]? = some a) : ixD (.list (l.map enc)) (.int (i : Nat)) = .ok (enc a) := by
  show (match atI (l.map enc) (i : Nat) with | some d => _ | none => _) = _
  rw [atI_pos _ _ (by omega), Int.toNat_natCast, List.getElem?_map, h]; rfl
theorem as_ix (σ : Sg) (i : Nat) (a b : C) (d : D) : asgS σ i (.ix a b) d = .ok (σ.set i (.imm d)) := by
  cases d <;> rfl
theorem cut0 (cs : List Card) : areC cs = true → (cs.filter fun c => c.1 == 0).length ≤ 1 := fun h => by
  unfold areC at h
  rw [Bool.and_eq_true, decide_eq_true_eq] at h
  exact h.2
theorem mul_all (cs : List Card) (s f : Int) : (cs.zipIdx.filter fun p => !(p.1.1 == 0) && !decide (p.1 = (f + (p.2 : Nat), s))).isEmpty = runAll s f cs := by
  unfold runAll
  rw [← not_all]
  congr 2
  funext p
  cases p.1.1 == 0 <;> simp
def F_law_is_meld : FnS := ⟨1, m1 any1 fun d => .ok (.bool (meldD d)), true⟩
theorem run_law_is_meld {Φ : Nat → FnS} {n : Nat} (h32 : Φ 32 = F_law_is_card) (h31 : Φ 31 = F_law_from) (ds : List D) (r : D) (h : F_law_is_meld.m ds = .ok r) : runF Φ n c_law_is_meld n_law_is_meld.length ds = .ok r := by
  obtain ⟨d, d', rfl, h1, hf⟩ := m1_inv (dec := any1) h
  cases h1
  cases hf
  clear h
  have e : startS n_law_is_meld.length [d] = [.imm d, .dead, .dead, .dead, .dead] := rfl
  rw [runF, e, c_law_is_meld]
  cases d with
  | tuple ds =>
    by_cases h3 : ds.length < 3
    · rw [meld_no ds (by omega) (by omega)]
      have h3' : (ds.length : Int) < 3 := by omega
      simp [rdS, isiD, PyData.isTuple, h3']
    · have h3' : ¬ (ds.length : Int) < 3 := by omega
      obtain ⟨a, b, t, rfl⟩ : ∃ a b t, ds = a :: b :: t := by
        match ds, h3 with
        | a :: b :: t, _ => exact ⟨a, b, t, rfl⟩
        | [], h => simp at h
        | [_], h => simp at h
      have hlen : ((t.length : Int) + 1 + 1 < 3) = False := by simp at h3'; simp; omega
      by_cases hs : a.isStr = true
      · obtain ⟨k, rfl⟩ : ∃ k, a = .str k := by cases a <;> first | exact ⟨_, rfl⟩ | cases hs
        have iL := ixLast (.str k :: b :: t) (by simp)
        generalize hL : (PyData.str k :: b :: t).getLast (by simp) = L at iL
        have fail : ∀ P : Prop, (¬ P) → (meldD (.tuple (.str k :: b :: t)) = true → P) → meldD (.tuple (.str k :: b :: t)) = false := fun P h1 h2 => Bool.eq_false_iff.mpr fun z => h1 (h2 z)
        have need : meldD (.tuple (.str k :: b :: t)) = true → ∃ z, L = encT z ∧ areC z = true ∧ 3 ≤ z.length ∧ wholeD b 0 13 = true := fun hz => by
          rcases meld_need hz with ⟨r, z, e, hm⟩ | ⟨s, f, z, e, hm⟩
          · cases e
            refine ⟨z, hL.symm, ?_⟩
            unfold meldB setB at hm
            simp only [Bool.and_eq_true, decide_eq_true_eq] at hm
            refine ⟨hm.1.1, hm.2.1.1.1, ?_⟩
            rw [wholeD_int]; simp; omega
          · cases e
            refine ⟨z, hL.symm, ?_⟩
            unfold meldB runB at hm
            simp only [Bool.and_eq_true, decide_eq_true_eq] at hm
            refine ⟨hm.1.1.1, hm.2.1.1, ?_⟩
            rw [wholeD_int]; simp; omega
        -- the cards
        by_cases hc : ∃ cs : List Card, L = encT cs ∧ cs.all okCb = true ∧ 3 ≤ cs.length
        · obtain ⟨cs, rfl, hok, hl3⟩ := hc
          have hll : biD .len [encT cs] = .ok (.int cs.length) := by show Except.ok (PyData.int ((cs.map encC).length : Nat)) = _; rw [List.length_map]
          have hl3' : ¬ (cs.length : Int) < 3 := by omega
          have lc0 : ∀ x : Sl, ev Φ (.lc (.var 4) [4] true (.cons (.var 1) .nil) (.cons (.not (.call 32 (.cons (.var 4) .nil))) .nil)) [.imm (.tuple (.str k :: b :: t)), .imm (encT cs), x, .dead, .dead] = .ok (.list []) := fun x => by
            rw [lc_filter encC (fun c => !okCb c) encC cs rfl fun c _ => by
              have : cardD (encC c) = okCb c := rfl
              simp [lcOne, bindT, wipeS, rdS, rdI, strict, k_law_is_card h32, this]]
            have : (cs.filter fun c => !okCb c).isEmpty = true := by rw [not_all]; exact hok
            rw [List.isEmpty_iff.mp this]; rfl
          have lc1 : ev Φ (.lc (.ix (.var 4) (.cI 0)) [4] true (.cons (.var 1) .nil) .nil) [.imm (.tuple (.str k :: b :: t)), .imm (encT cs), .dead, .dead, .dead] = .ok (.list (cs.map fun c => .int c.1)) :=
            lc_map encC _ cs rfl fun c _ => by
              have : ixD (encC c) (.int 0) = .ok (.int c.1) := rfl
              simp [lcOne, bindT, wipeS, rdS, rdI, strict, this]
          have it : isiD .tuple (encT cs) = true := rfl
          by_cases hw1 : (cs.filter fun c => c.1 == 0).length ≤ 1
          · have hw1' : ¬ (1 : Int) < ((cs.filter fun c => c.1 == 0).length : Nat) := by omega
            have hac : areC cs = true := by unfold areC; rw [hok, decide_eq_true hw1]; rfl
            by_cases hwb : wholeD b 0 13 = true
            · obtain ⟨r, rfl⟩ := whole_int hwb
              have hr := hwb
              rw [wholeD_int, Bool.and_eq_true, decide_eq_true_eq, decide_eq_true_eq] at hr
              -- so far
              have go : ∀ (c : S) (R : D), evS Φ n c [.imm (.tuple (.str k :: .int r :: t)), .imm (encT cs), .dead, .dead, .dead] = .ok (.rt R) → endR (evS Φ n (.seq (.ite (.or (.cons (.not (.isi .tuple (.var 0))) (.cons (.cmp .Lt (.bi .len (.cons (.var 0) .nil)) (.cI 3)) (.cons (.not (.isi .str (.ix (.var 0) (.cI 0)))) .nil)))) (.seq (.ret (.cB false)) .skip) .skip) (.seq (.asg [1] true (.ix (.var 0) (.neg (.cI 1)))) (.seq (.ite (.or (.cons (.not (.isi .tuple (.var 1))) (.cons (.cmp .Lt (.bi .len (.cons (.var 1) .nil)) (.cI 3)) (.cons (.cmp .NotEq (.lc (.var 4) [4] true (.cons (.var 1) .nil) (.cons (.not (.call 32 (.cons (.var 4) .nil))) .nil)) (.lst .nil)) .nil)))) (.seq (.ret (.cB false)) .skip) .skip) (.seq (.ite (.or (.cons (.cmp .Gt (.x2 .lcnt (.lc (.ix (.var 4) (.cI 0)) [4] true (.cons (.var 1) .nil) .nil) (.cI 0)) (.cI 1)) (.cons (.not (.call 31 (.cons (.ix (.var 0) (.cI 1)) (.cons (.cI 0) (.cons (.cI 13) .nil))))) .nil))) (.seq (.ret (.cB false)) .skip) .skip) c)))) [.imm (.tuple (.str k :: .int r :: t)), .dead, .dead, .dead, .dead]) = .ok R := fun c R hR => by
                simp [-q_lc, rdS, strict, as_ix, isiT, isiS, hlen, ix0, ix1, iL, it, hll, hl3', lc0, lc1, ne_nil, cnt0, hw1', k_law_from h31, hwb, hR]
              refine go _ _ ?_
              by_cases hset : k = "set" ∧ t.length = 1
              · obtain ⟨rfl, ht⟩ := hset
                obtain ⟨c, rfl⟩ : ∃ c, t = [c] := List.length_eq_one_iff.mp ht
                have hcs : c = encT cs := hL
                subst hcs
                rw [meld3, areD_enc, hac]
                have hsd : setD' (.int r) (encT cs) = setB r cs := by unfold setD'; rw [decT_enc]
                rw [hsd]
                by_cases h4 : cs.length ≤ 4
                · have h4' : ¬ (4 : Int) < cs.length := by omega
                  by_cases hz : r = 0
                  · subst hz
                    simp [rdS, strict, ix0, ix1, hll, h4', wholeD_int]
                  · have hwr : wholeD (.int r) 1 13 = true := by rw [wholeD_int]; simp; omega
                    have hse : x1D .sset (encT cs) = .ok (encL (ssetP cs)) := sset_enc hok (by omega)
                    have hn : cmpD .NotEq (encL cs) (encL (ssetP cs)) = .ok (.bool !decide (cs = ssetP cs)) := cmp_ne (depth_L cs) (eqv_L _ _)
                    have hls : biD .list [encT cs] = .ok (encL cs) := rfl
                    by_cases hq : cs = ssetP cs
                    · have hq' : decide (cs = ssetP cs) = true := decide_eq_true hq
                      have hb : setB r cs = cs.all fun c => c.1 == 0 || c.1 == r := by unfold setB; simp [hl3, h4, hq']
                      rw [hb]
                      simp [-q_lc, rdS, strict, ix0, ix1, hll, h4', hz, hse, hn, hls, hq', hwr]
                      rw [lc_filter encC (fun c => !(c.1 == 0 || c.1 == r)) encC cs rfl fun c _ => by
                        have i0 : ixD (encC c) (.int 0) = .ok (.int c.1) := rfl
                        simp [lcOne, bindT, wipeS, rdS, rdI, strict, i0, ix1, nin0]]
                      simp only [q_bd, eq_nil, List.isEmpty_map, not_all]
                      rfl
                    · have hq' : decide (cs = ssetP cs) = false := decide_eq_false hq
                      have hb : setB r cs = false := by unfold setB; simp [hq']
                      rw [hb]
                      simp [rdS, strict, ix0, ix1, hll, h4', hz, hse, hn, hls, hq', hwr]
                · have h4' : (4 : Int) < cs.length := by omega
                  have hb : setB r cs = false := by unfold setB; simp [h4]
                  rw [hb]
                  simp [rdS, strict, ix0, ix1, hll, h4']
              · have pass : ∀ (u v : S) (R : Fl), evS Φ n v [.imm (.tuple (.str k :: .int r :: t)), .imm (encT cs), .dead, .dead, .dead] = .ok R → evS Φ n (.seq (.ite (.and (.cons (.cmp .Eq (.ix (.var 0) (.cI 0)) (.cS "set")) (.cons (.cmp .Eq (.bi .len (.cons (.var 0) .nil)) (.cI 3)) .nil))) u .skip) v) [.imm (.tuple (.str k :: .int r :: t)), .imm (encT cs), .dead, .dead, .dead] = .ok R := fun u v R hR => by
                  by_cases hk : k = "set"
                  · have ht : ¬ ((t.length : Int) + 1 + 1 = 3) := fun z => hset ⟨hk, by omega⟩
                    simp [rdS, ix0, hk, ht, ← hR]
                  · simp [rdS, ix0, hk, hR]
                refine pass _ _ _ ?_
                by_cases hrun : k = "run" ∧ t.length = 2
                · obtain ⟨rfl, ht⟩ := hrun
                  obtain ⟨c, c2, rfl⟩ : ∃ c c2, t = [c, c2] := by
                    match t, ht with
                    | [c, c2], _ => exact ⟨c, c2, rfl⟩
                  have hcs : c2 = encT cs := hL
                  subst hcs
                  have i2 : ixD (.tuple [.str "run", .int r, c, encT cs]) (.int 2) = .ok c := rfl
                  rw [meld4, areD_enc, hac]
                  by_cases h3r : r ≤ 3
                  · have h3r' : ¬ 3 < r := by omega
                    have hw3 : wholeD (.int r) 0 3 = true := by rw [wholeD_int]; simp; omega
                    by_cases hwc : wholeD c 1 (14 - cs.length) = true
                    · obtain ⟨f, rfl⟩ := whole_int hwc
                      have hf := hwc
                      rw [wholeD_int, Bool.and_eq_true, decide_eq_true_eq, decide_eq_true_eq] at hf
                      have hw13 : wholeD (.int f) 1 13 = true := by rw [wholeD_int]; simp; omega
                      have hsd : runD' (.int r) (.int f) (encT cs) = runAll r f cs := by
                        unfold runD'; rw [decT_enc]
                        show runB r f cs = _
                        unfold runB
                        rw [decide_eq_true hl3, decide_eq_true (by omega)]; rfl
                      rw [hw3, hw13, hsd]
                      simp [-q_lc, rdS, strict, ix0, ix1, i2, hll, h3r', k_law_from h31, hwc]
                      have hn13 : (cs.length : Int) ≤ 13 := by omega
                      rw [lc_map PyData.int (fun k => encC (f + k, r)) (upto 0 cs.length) (by
                        simp [rdS, hll]
                        exact rng_ok (by omega) (by omega) (by omega) (by omega) (by omega)) fun k _ => by
                        simp [lcOne, bindT, wipeS, rdS, strict, i2, ix1, encC]]
                      rw [q_bd, as_lc, q_bd, q_bd, q_then]
                      have hw : ∀ p ∈ cs.zipIdx, ixD (.list ((upto 0 cs.length).map fun k => encC (f + k, r))) (.int (p.2 : Nat)) = .ok (encC (f + (p.2 : Nat), r)) := fun p hp => by
                        have := List.mem_zipIdx_iff_getElem?.mp hp
                        have hlt : p.2 < cs.length := by
                          rcases Nat.lt_or_ge p.2 cs.length with q | q
                          · exact q
                          · rw [List.getElem?_eq_none q] at this; cases this
                        exact ixL_at (fun k => encC (f + k, r)) (upto 0 cs.length) (upto_at hlt)
                      rw [q_seq, q_ret, q_cmp]
                      simp only [List.set]
                      rw [lc_filter (fun p : Card × Nat => .tuple [.int (p.2 : Nat), encC p.1]) (fun p => !(p.1.1 == 0) && !decide (p.1 = (f + (p.2 : Nat), r))) (fun p => .int (p.2 : Nat)) cs.zipIdx (by rw [← enum_enc]; rfl) fun p hp => by
                        have i0 : ixD (encC p.1) (.int 0) = .ok (.int p.1.1) := rfl
                        have hc : cmpD .NotEq (encC p.1) (encC (f + (p.2 : Nat), r)) = .ok (.bool (!decide (p.1 = (f + (p.2 : Nat), r)))) := cmp_ne (by rw [depth_enc]; decide) (eqv_enc p.1 (f + (p.2 : Nat), r))
                        by_cases hz : p.1.1 = 0
                        · simp [lcOne, bindT, wipeS, setAll, rdS, rdI, strict, hz, i0]
                        · simp [lcOne, bindT, wipeS, setAll, rdS, rdI, strict, hz, i0, hw p hp, hc]]
                      simp only [q_bd, q_lst, q_snil, eq_nil, List.isEmpty_map, mul_all]
                      rfl
                    · have hwc' : wholeD c 1 (14 - cs.length) = false := by simpa using hwc
                      have hb : (wholeD c 1 13 && runD' (.int r) c (encT cs)) = false := by
                        apply Bool.eq_false_iff.mpr
                        intro z
                        rw [Bool.and_eq_true] at z
                        obtain ⟨f, rfl⟩ := whole_int z.1
                        have z2 := z.2
                        unfold runD' at z2
                        rw [decT_enc] at z2
                        have z2 : runB r f cs = true := z2
                        unfold runB at z2
                        have z1 := z.1
                        rw [wholeD_int] at z1
                        simp only [Bool.and_eq_true, decide_eq_true_eq] at z1 z2
                        apply hwc
                        rw [wholeD_int]
                        simp only [Bool.and_eq_true, decide_eq_true_eq]
                        omega
                      rw [Bool.and_assoc, hb]
                      simp [rdS, strict, ix0, ix1, i2, hll, h3r', k_law_from h31, hwc']
                  · have h3r' : 3 < r := by omega
                    have hw3 : wholeD (.int r) 0 3 = false := by rw [wholeD_int]; simp; omega
                    rw [hw3]
                    simp [rdS, strict, ix0, ix1, h3r']
                · have hm : meldD (.tuple (.str k :: .int r :: t)) = false := fail _ (not_or.mpr ⟨hset, hrun⟩) fun z => by
                    rcases meld_need z with ⟨r, z, e, hm⟩ | ⟨s, f, z, e, hm⟩
                    · cases e; exact .inl ⟨rfl, rfl⟩
                    · cases e; exact .inr ⟨rfl, rfl⟩
                  rw [hm]
                  by_cases hk : k = "run"
                  · have ht : ¬ ((t.length : Int) + 1 + 1 = 4) := fun z => hrun ⟨hk, by omega⟩
                    simp [rdS, ix0, hk, ht]
                  · simp [rdS, ix0, hk]
            · have hm : meldD (.tuple (.str k :: b :: t)) = false := fail _ hwb fun z => by
                obtain ⟨z, e1, e2, e3, e4⟩ := need z
                exact e4
              have hwb' : wholeD b 0 13 = false := by simpa using hwb
              rw [hm]
              simp [-q_lc, rdS, strict, as_ix, isiT, isiS, hlen, ix0, ix1, iL, it, hll, hl3', lc0, lc1, ne_nil, cnt0, hw1', k_law_from h31, hwb']
              try simp [rdS, strict, it, hll, hl3', lc0, lc1, ne_nil, cnt0, hw1', k_law_from h31, hwb', ix1]
          · have hw1' : (1 : Int) < ((cs.filter fun c => c.1 == 0).length : Nat) := by omega
            have hm : meldD (.tuple (.str k :: b :: t)) = false := fail _ hw1 fun z => by
              obtain ⟨z, e1, e2, e3, _⟩ := need z
              have e1 : cs.map encC = z.map encC := by injection e1
              have : cs = z := by
                have q := decL_enc decC_enc cs
                rw [e1, decL_enc decC_enc z] at q
                exact (Option.some.inj q).symm
              subst this
              exact cut0 _ e2
            rw [hm]
            simp [-q_lc, rdS, strict, as_ix, isiT, isiS, hlen, ix0, iL, it, hll, hl3', lc0, lc1, ne_nil, cnt0, hw1']
        · have hm : meldD (.tuple (.str k :: b :: t)) = false := fail _ hc fun z => by
            obtain ⟨z, e1, e2, e3, _⟩ := need z
            unfold areC at e2
            rw [Bool.and_eq_true] at e2
            exact ⟨z, e1, e2.1, e3⟩
          rw [hm]
          cases L with
          | tuple es =>
            by_cases hes : es.length < 3
            · have : (es.length : Int) < 3 := by omega
              simp [rdS, strict, isiD, PyData.isTuple, PyData.isStr, hlen, ix0, iL, this]
            · have hes' : ¬ (es.length : Int) < 3 := by omega
              have hall : es.all cardD = false := by
                apply Bool.eq_false_iff.mpr
                intro z
                obtain ⟨cs, rfl, h2⟩ := cards_of_all z
                exact hc ⟨cs, rfl, h2, by rw [List.length_map] at hes; omega⟩
              simp [-q_lc, rdS, strict, isiD, PyData.isTuple, PyData.isStr, hlen, ix0, iL, hes']
              rw [lc_filter id (fun d => !cardD d) id es (by rw [List.map_id]; rfl) fun d _ => by simp [lcOne, bindT, wipeS, rdS, rdI, strict, k_law_is_card h32]]
              simp [ne_nil, not_all, hall]
          | _ => simp [rdS, strict, as_ix, isiD, PyData.isTuple, PyData.isStr, hlen, ix0, iL]
      · have hs' : a.isStr = false := by simpa using hs
        rw [meld_nostr _ hs']
        simp [rdS, isiD, PyData.isTuple, ix0, hs', hlen]
  | _ => simp [rdS, isiD, PyData.isTuple, meldD, decM]
theorem k_law_is_meld {Φ : Nat → FnS} (h : Φ 33 = F_law_is_meld) (d : D) : gd (Φ 33).pure ((Φ 33).m [d]) = .ok (.bool (meldD d)) := by rw [h]; rfl
theorem ln_law_is_meld (ds : List D) (r : D) (h : F_law_is_meld.m ds = .ok r) : ds.length = F_law_is_meld.ar := ln_m1 (dec := any1) h
theorem fl_law_is_meld (_ : F_law_is_meld.pure = true) (ds : List D) (r : D) (h : F_law_is_meld.m ds = .ok r) : flatTop r = true := fl_m1 (dec := any1) (fun _ _ z => by cases z; rfl) h
end Mt

set_option Elab.async false
set_option linter.all false
set_option maxRecDepth 100000
set_option maxHeartbeats 1000000
/-! What is told to be a meld is one. -/
namespace Mt
open PySem PySem.Spec PyProof.Rows L2
theorem ow_iff : ∀ {z : List Card}, (z.filter fun c => c.1 == 0).length ≤ 1 ↔ ow z
  | [] => by simp [ow]
  | c :: z => by
    have ih := ow_iff (z := z)
    unfold ow at *
    rw [List.pairwise_cons, List.filter_cons]
    by_cases h : c.1 = 0
    · have hb : (c.1 == 0) = true := by rw [h]; rfl
      rw [if_pos hb, List.length_cons]
      constructor
      · intro hl
        have h0 : (z.filter fun c => c.1 == 0) = [] := List.length_eq_zero_iff.mp (by omega)
        refine ⟨fun d hd q => ?_, ih.mp (by omega)⟩
        have : d ∈ z.filter fun c => c.1 == 0 := List.mem_filter.mpr ⟨hd, by rw [q.2]; rfl⟩
        rw [h0] at this; cases this
      · intro ⟨h1, h2⟩
        have h0 : (z.filter fun c => c.1 == 0) = [] := by
          rw [List.filter_eq_nil_iff]
          intro d hd q
          exact h1 d hd ⟨h, by simpa using q⟩
        rw [h0]; exact Nat.le_refl _
    · have hb : (c.1 == 0) = false := by simpa using h
      rw [if_neg (by rw [hb]; exact Bool.false_ne_true), ih]
      exact ⟨fun q => ⟨fun d _ z => h z.1, q⟩, fun q => q.2⟩
theorem areC_iff {z : List Card} : areC z = true ↔ (∀ c ∈ z, okC c) ∧ ow z := by
  unfold areC
  rw [Bool.and_eq_true, decide_eq_true_eq, ow_iff, List.all_eq_true]
  exact and_congr_left fun _ => forall_congr' fun c => forall_congr' fun _ => okCb_iff
theorem codeP_lt {a b : Card} (ha : okC a) (hb : okC b) : codeP a < codeP b ↔ ltC a b := by
  unfold okC at ha hb
  unfold codeP ltC
  omega
theorem sset_iff {z : List Card} (h : ∀ c ∈ z, okC c) : z = ssetP z ↔ z.Pairwise ltC := by
  have hs : ∀ c ∈ z, smallP c = true := fun c hc => okCb_small (okCb_iff.mpr (h c hc))
  obtain ⟨m1, m2⟩ := ssetP_ok hs
  constructor
  · intro e
    rw [← e] at m2
    exact List.Pairwise.imp_of_mem (fun {a b} ha hb q => (codeP_lt (h a ha) (h b hb)).mp q) m2
  · intro p
    refine eq_of_rise codeP _ _ (List.Pairwise.imp_of_mem (fun {a b} ha hb q => (codeP_lt (h a ha) (h b hb)).mpr q) p) m2 fun x => (m1 x).symm
theorem runAll_iff {s f : Int} {z : List Card} : runAll s f z = true ↔ ∀ (i : Nat) (h : i < z.length), z[i] = (f + (i : Int), s) ∨ z[i].1 = 0 := by
  unfold runAll
  rw [List.all_eq_true]
  constructor
  · intro h i hi
    have hp : (z[i], i) ∈ z.zipIdx := List.mem_zipIdx_iff_getElem?.mpr (List.getElem?_eq_getElem hi)
    have := h _ hp
    simp only [Bool.or_eq_true, beq_iff_eq, decide_eq_true_eq] at this
    exact this.symm
  · intro h p hp
    have e := List.mem_zipIdx_iff_getElem?.mp hp
    obtain ⟨hi, e⟩ := List.getElem?_eq_some_iff.mp e
    have := h p.2 hi
    rw [e] at this
    simp only [Bool.or_eq_true, beq_iff_eq, decide_eq_true_eq]
    exact this.symm
theorem meldB_iff {m : Meld} : meldB m = true ↔ MeldOk m ∧ ∀ c ∈ m.cards, okC c := by
  cases m with
  | set r z =>
    unfold meldB setB MeldOk Meld.cards
    simp only [Bool.and_eq_true, decide_eq_true_eq, areC_iff, List.all_eq_true, Bool.or_eq_true, beq_iff_eq]
    constructor
    · rintro ⟨⟨⟨h1, h2⟩, h3, h4⟩, ⟨⟨h5, h6⟩, h7⟩, h8⟩
      exact ⟨⟨h3, h4, h5, h6, (sset_iff h1).mp h7, h8, h2⟩, h1⟩
    · rintro ⟨⟨h3, h4, h5, h6, h7, h8, h2⟩, h1⟩
      exact ⟨⟨⟨h1, h2⟩, h3, h4⟩, ⟨⟨h5, h6⟩, (sset_iff h1).mpr h7⟩, h8⟩
  | run s f z =>
    unfold meldB runB MeldOk Meld.cards
    simp only [Bool.and_eq_true, decide_eq_true_eq, areC_iff, runAll_iff]
    constructor
    · rintro ⟨⟨⟨⟨h1, h2⟩, h3, h4⟩, h5, h6⟩, ⟨h7, h8⟩, h9⟩
      exact ⟨⟨h3, h4, h5, h7, h8, h9, h2⟩, h1⟩
    · rintro ⟨⟨h3, h4, h5, h7, h8, h9, h2⟩, h1⟩
      exact ⟨⟨⟨⟨h1, h2⟩, h3, h4⟩, h5, by omega⟩, ⟨h7, h8⟩, h9⟩
end Mt

set_option Elab.async false
set_option linter.all false
set_option maxRecDepth 100000
set_option maxHeartbeats 1000000
/-! Cards laid off. -/
namespace Mt
open PySem PySem.Spec PyProof.Rows L2
def moreRaw (m : Meld) (c : Card) : List Meld := match m with
  | .set r z => [.set r (sortE encC (z ++ [c]))]
  | .run s f z => [.run s (f - 1) (c :: z), .run s f (z ++ [c])]
def withMore (m : Meld) (c : Card) : List Meld := sortE encM ((moreRaw m c).filter meldB)
def F_with_more : FnS := ⟨2, m2 decM decC fun m c => gd (decide (m.cards.length ≤ 1000)) (.ok (encTM (withMore m c))), true⟩
theorem cat1 (z : List Card) (c : Card) (h : z.length ≤ 1000) : binD .Add (encT z) (.tuple [encC c]) = .ok (encT (z ++ [c])) := by
  unfold encT
  rw [add_TT _ _ (by rw [List.length_map]; simp only [List.length_singleton]; omega), List.map_append]; rfl
theorem cat2 (z : List Card) (c : Card) (h : z.length ≤ 1000) : binD .Add (.tuple [encC c]) (encT z) = .ok (encT (c :: z)) := by
  unfold encT
  rw [add_TT _ _ (by rw [List.length_map]; simp only [List.length_singleton]; omega)]; rfl
theorem as_lst (σ : Sg) (i : Nat) (a : C) (ds : List D) : asgS σ i (.lst a) (.list ds) = .ok (σ.set i (.own ds)) := rfl
theorem run_with_more {Φ : Nat → FnS} {n : Nat} (h24 : Φ 24 = F_is_meld) (ds : List D) (r : D) (h : F_with_more.m ds = .ok r) : runF Φ n c_with_more n_with_more.length ds = .ok r := by
  obtain ⟨d, e, m, c, rfl, h1, h2, hf⟩ := m2_inv h
  obtain ⟨g, hf⟩ := gd_inv hf
  cases decM_eq h1
  cases decC_eq h2
  cases hf
  have g := of_decide_eq_true g
  have e : startS n_with_more.length [encM m, encC c] = [.imm (encM m), .imm (encC c), .dead, .dead, .dead] := rfl
  rw [runF, e, c_with_more]
  have fin : ∀ ms : List Meld, endR (evS Φ n (.seq (.ret (.bi .tuple (.cons (.bi .sorted (.cons (.lc (.var 4) [4] true (.cons (.var 3) .nil) (.cons (.call 24 (.cons (.var 4) .nil)) .nil)) .nil)) .nil))) .skip) [.imm (encM m), .imm (encC c), .imm (encT m.cards), .own (ms.map encM), .dead]) = .ok (encTM (sortE encM (ms.filter meldB))) := fun ms => by
    simp only [q_seq, q_ret, q_bi, q_rcons, q_rnil, q_bd]
    rw [lc_filter encM meldB encM ms rfl fun m' _ => by
      simp [lcOne, bindT, wipeS, rdS, rdI, strict, k_is_meld h24, meldD_enc]]
    simp only [q_bd, srtM, q_tupL]
    rfl
  cases m with
  | set r z =>
    have e1 : ixD (encM (.set r z)) (.int (-1)) = .ok (encT z) := rfl
    have e2 : ixD (encM (.set r z)) (.int 0) = .ok (.str "set") := rfl
    have e3 : ixD (encM (.set r z)) (.int 1) = .ok (.int r) := rfl
    have := fin [.set r (sortE encC (z ++ [c]))]
    simp [-q_lc, rdS, rdI, strict, as_ix, as_lst, e1, e2, e3, cat1 z c g, srtCT, Meld.cards] at this ⊢
    exact this
  | run s f z =>
    have e1 : ixD (encM (.run s f z)) (.int (-1)) = .ok (encT z) := rfl
    have e2 : ixD (encM (.run s f z)) (.int 0) = .ok (.str "run") := rfl
    have e3 : ixD (encM (.run s f z)) (.int 1) = .ok (.int s) := rfl
    have e4 : ixD (encM (.run s f z)) (.int 2) = .ok (.int f) := rfl
    have nk : ¬ (("run" : Str) = "set") := by decide
    have := fin [.run s (f - 1) (c :: z), .run s f (z ++ [c])]
    simp [-q_lc, rdS, rdI, strict, as_ix, as_lst, e1, e2, e3, e4, nk, cat1 z c g, cat2 z c g, Meld.cards] at this ⊢
    exact this
theorem k_with_more {Φ : Nat → FnS} (h : Φ 25 = F_with_more) {m : Meld} {c : Card} (hm : m.cards.length ≤ 1000) : gd (Φ 25).pure ((Φ 25).m [encM m, encC c]) = .ok (encTM (withMore m c)) :=
  k_of h rfl ((m2_ok (decM_enc m) (decC_enc c)).trans (gd_pos (decide_eq_true hm)))
theorem ln_with_more (ds : List D) (r : D) (h : F_with_more.m ds = .ok r) : ds.length = F_with_more.ar := ln_m2 h
theorem fl_with_more (_ : F_with_more.pure = true) (ds : List D) (r : D) (h : F_with_more.m ds = .ok r) : flatTop r = true := fl_m2 (fun _ _ _ z => flt_gd (flt_encTM _) z) h
theorem mem_withMore {m m' : Meld} {c : Card} : m' ∈ withMore m c ↔ m' ∈ moreRaw m c ∧ meldB m' = true := by
  unfold withMore
  rw [mem_sortE, List.mem_filter]
/-! loops that may go on early -/
theorem forGo_foldC {α β : Type} {enc : α → D} {f : D → Sg → R Fl} {St : β → Sg → Prop} (g : β → α → β) : ∀ (l : List α) (b : β) (σ : Sg), St b σ → (∀ a ∈ l, ∀ b σ, St b σ → ∃ τ, St (g b a) τ ∧ (f (enc a) σ = .ok (.nx τ) ∨ f (enc a) σ = .ok (.ct τ))) → ∃ τ, St (l.foldl g b) τ ∧ forGo f (l.map enc) σ = .ok (.nx τ)
  | [], b, σ, h, _ => ⟨σ, h, rfl⟩
  | a :: l, b, σ, h, hs => by
    obtain ⟨τ, h1, e1⟩ := hs a (List.mem_cons_self ..) b σ h
    obtain ⟨ρ, h2, e2⟩ := forGo_foldC g l (g b a) τ h1 fun a' m => hs a' (List.mem_cons_of_mem _ m)
    refine ⟨ρ, h2, ?_⟩
    rw [List.map_cons, forGo]
    rcases e1 with e1 | e1 <;> rw [e1] <;> exact e2
theorem forGo_accC {α β : Type} {enc : α → D} {f : D → Sg → R Fl} {St : List β → Sg → Prop} (g : α → List β) (N : Nat) : ∀ (l : List α) (b : List β) (σ : Sg), St b σ → b.length + (l.flatMap g).length ≤ N →
    (∀ a ∈ l, ∀ b σ, St b σ → b.length + (g a).length ≤ N → ∃ τ, St (b ++ g a) τ ∧ (f (enc a) σ = .ok (.nx τ) ∨ f (enc a) σ = .ok (.ct τ))) → ∃ τ, St (b ++ l.flatMap g) τ ∧ forGo f (l.map enc) σ = .ok (.nx τ)
  | [], b, σ, h, _, _ => ⟨σ, by rw [List.flatMap_nil, List.append_nil]; exact h, rfl⟩
  | a :: l, b, σ, h, hn, hs => by
    rw [List.flatMap_cons, List.length_append] at hn
    obtain ⟨τ, h1, e1⟩ := hs a (List.mem_cons_self ..) b σ h (by omega)
    obtain ⟨ρ, h2, e2⟩ := forGo_accC g N l (b ++ g a) τ h1 (by rw [List.length_append]; omega) fun a' m => hs a' (List.mem_cons_of_mem _ m)
    refine ⟨ρ, by rw [List.flatMap_cons, ← List.append_assoc]; exact h2, ?_⟩
    rw [List.map_cons, forGo]
    rcases e1 with e1 | e1 <;> rw [e1] <;> exact e2
end Mt

set_option Elab.async false
set_option linter.all false
set_option maxRecDepth 100000
set_option maxHeartbeats 1000000
/-! The melds, the law's own way. -/
namespace Mt
open PySem PySem.Spec PyProof.Rows L2
theorem in0 (i r : Int) : cmpD .In (.int i) (.tuple [.int 0, .int r]) = .ok (.bool (i == 0 || i == r)) := by
  show gd true (Except.ok (PyData.bool ((0 : Int) == i || ((r == i) || false)))) = _
  rw [q_gdt]
  have e1 : ((0 : Int) == i) = (i == 0) := Bool.beq_comm
  have e2 : (r == i) = (i == r) := Bool.beq_comm
  rw [e1, e2, Bool.or_false]
def sLM (cs ws : List Card) (fo : List Meld) (a3 a4 a5 a6 a7 a8 a9 a10 a11 : Sl) : Sg := [.imm (encT cs), .own (ws.map encC), .own (fo.map encM), a3, a4, a5, a6, a7, a8, a9, a10, a11]
def ofR (r : Int) (c : Card) : Bool := c.1 == 0 || c.1 == r
theorem ls_loop {Φ : Nat → FnS} {n : Nat} {cs ws : List Card} {fo : List Meld} {r : Int} {a6 a7 a8 a9 a11 : Sl} : ∀ (l : List Card) (found : List (List Card)) (a5 a10 : Sl), found.length * 2 ^ (l.filter (ofR r)).length ≤ 4096 → (∀ s ∈ found, s.length + l.length ≤ 1000) →
    ∃ t5, forGo (fun d σ => bd (bindT σ [5] true d) (evS Φ n b1_law_melds)) (l.map encC) (sLM cs ws fo (.imm (.int r)) (.own (found.map encT)) a5 a6 a7 a8 a9 a10 a11) = .ok (.nx (sLM cs ws fo (.imm (.int r)) (.own ((chGo (l.filter (ofR r)) found).map encT)) t5 a6 a7 a8 a9 a10 a11))
  | [], found, a5, a10, _, _ => ⟨a5, rfl⟩
  | c :: l, found, a5, a10, h1, h2 => by
    have i0 : ixD (encC c) (.int 0) = .ok (.int c.1) := rfl
    have hc := in0 c.1 r
    by_cases hp : ofR r c = true
    · have hp' : (c.1 == 0 || c.1 == r) = true := hp
      rw [List.filter_cons, if_pos hp] at h1 ⊢
      rw [List.length_cons, Nat.pow_succ] at h1
      have hl : found.length ≤ 4096 := by
        have : 1 ≤ 2 ^ (l.filter (ofR r)).length := Nat.one_le_two_pow
        have h3 : found.length * 1 ≤ found.length * (2 ^ (l.filter (ofR r)).length * 2) := Nat.mul_le_mul_left _ (by omega)
        omega
      obtain ⟨t5, e⟩ := ls_loop (Φ := Φ) (n := n) (cs := cs) (ws := ws) (fo := fo) (r := r) (a6 := a6) (a7 := a7) (a8 := a8) (a9 := a9) (a11 := a11) l (found ++ found.map (· ++ [c])) (.imm (encC c)) a10 (by
        rw [List.length_append, List.length_map, ← Nat.two_mul, Nat.mul_comm 2, Nat.mul_assoc, Nat.mul_comm 2]
        exact h1) (fun s hs => by
        rw [List.length_cons] at h2
        rcases List.mem_append.mp hs with m | m
        · have := h2 s m; omega
        · obtain ⟨z, hz, rfl⟩ := List.mem_map.mp m
          have := h2 z hz
          rw [List.length_append, List.length_singleton]; omega)
      refine ⟨t5, ?_⟩
      rw [List.map_cons, forGo]
      have hv : ev Φ (.bin .Add (.var 4) (.lc (.bin .Add (.var 10) (.tup (.cons (.var 5) .nil))) [10] true (.cons (.var 4) .nil) .nil)) (sLM cs ws fo (.imm (.int r)) (.own (found.map encT)) (.imm (encC c)) a6 a7 a8 a9 a10 a11) = .ok (.list ((found ++ found.map (· ++ [c])).map encT)) := by
        rw [q_bin, lc_map encT (fun s => encT (s ++ [c])) found rfl fun s hs => by
          have hz := h2 s hs
          have := cat1 s c (by omega)
          simp [lcOne, sLM, bindT, wipeS, rdS, strict, rdI, this]]
        simp only [q_var, sLM, rdS, List.getElem?_cons_zero, List.getElem?_cons_succ, q_bd]
        rw [add_LL _ _ (by simp only [List.length_map]; omega), List.map_append, List.map_map]
        rfl
      have step : bd (bindT (sLM cs ws fo (.imm (.int r)) (.own (found.map encT)) a5 a6 a7 a8 a9 a10 a11) [5] true (encC c)) (evS Φ n b1_law_melds) = .ok (.nx (sLM cs ws fo (.imm (.int r)) (.own ((found ++ found.map (· ++ [c])).map encT)) (.imm (encC c)) a6 a7 a8 a9 a10 a11)) := by
        show evS Φ n b1_law_melds (sLM cs ws fo (.imm (.int r)) (.own (found.map encT)) (.imm (encC c)) a6 a7 a8 a9 a10 a11) = _
        rw [b1_law_melds, q_seq, q_ite]
        have hb : ev Φ (.cmp .In (.ix (.var 5) (.cI 0)) (.tup (.cons (.cI 0) (.cons (.var 3) .nil)))) (sLM cs ws fo (.imm (.int r)) (.own (found.map encT)) (.imm (encC c)) a6 a7 a8 a9 a10 a11) = .ok (.bool true) := by
          simp [sLM, rdS, rdI, strict, i0, hc]
          simpa using hp'
        rw [hb]
        simp only [q_bd, q_asB, if_true]
        rw [q_seq, asg_own hv rfl]
        rfl
      rw [step]
      exact e
    · have hp' : (c.1 == 0 || c.1 == r) = false := by simpa [ofR] using hp
      rw [List.filter_cons, if_neg hp] at h1 ⊢
      obtain ⟨t5, e⟩ := ls_loop (Φ := Φ) (n := n) (cs := cs) (ws := ws) (fo := fo) (r := r) (a6 := a6) (a7 := a7) (a8 := a8) (a9 := a9) (a11 := a11) l found (.imm (encC c)) a10 h1 (fun s hs => by
        have := h2 s hs
        rw [List.length_cons] at this; omega)
      refine ⟨t5, ?_⟩
      rw [List.map_cons, forGo]
      have step : bd (bindT (sLM cs ws fo (.imm (.int r)) (.own (found.map encT)) a5 a6 a7 a8 a9 a10 a11) [5] true (encC c)) (evS Φ n b1_law_melds) = .ok (.nx (sLM cs ws fo (.imm (.int r)) (.own (found.map encT)) (.imm (encC c)) a6 a7 a8 a9 a10 a11)) := by
        show evS Φ n b1_law_melds (sLM cs ws fo (.imm (.int r)) (.own (found.map encT)) (.imm (encC c)) a6 a7 a8 a9 a10 a11) = _
        rw [b1_law_melds, q_seq, q_ite]
        have hb : ev Φ (.cmp .In (.ix (.var 5) (.cI 0)) (.tup (.cons (.cI 0) (.cons (.var 3) .nil)))) (sLM cs ws fo (.imm (.int r)) (.own (found.map encT)) (.imm (encC c)) a6 a7 a8 a9 a10 a11) = .ok (.bool false) := by
          simp [sLM, rdS, rdI, strict, i0, hc]
          simpa using hp'
        rw [hb]
        rfl
      rw [step]
      exact e
def lawSome (cs : List Card) (r : Int) : List (List Card) := chGo ((sortE encC cs).filter (ofR r)) [[]]
def lawSets (cs : List Card) (r : Int) : List Meld := ((lawSome cs r).filter fun z => meldB (.set r z)).map (.set r)
def rankOk (cs : List Card) (r : Int) : Bool := decide ((cs.filter (ofR r)).length ≤ 12)
theorem lawSome_len {cs : List Card} {r : Int} (h : rankOk cs r = true) : (lawSome cs r).length ≤ 4096 := by
  unfold lawSome
  rw [chGo_len, List.length_singleton, Nat.one_mul]
  have e : ((sortE encC cs).filter (ofR r)).length = (cs.filter (ofR r)).length := ((sortE_perm encC cs).filter _).length_eq
  rw [e]
  exact Nat.pow_le_pow_right (by decide) (of_decide_eq_true h)
theorem lawSets_len {cs : List Card} {r : Int} (h : rankOk cs r = true) : (lawSets cs r).length ≤ 4096 := by
  unfold lawSets
  rw [List.length_map]
  exact Nat.le_trans (List.length_filter_le _ _) (lawSome_len h)
theorem b2_step {Φ : Nat → FnS} {n : Nat} (h33 : Φ 33 = F_law_is_meld) {cs ws : List Card} {fo : List Meld} {r : Int} {a3 a4 a5 a6 a7 a8 a9 a10 a11 : Sl} (hr : rankOk cs r = true) (hc : cs.length ≤ 1000) (hf : fo.length ≤ 10000000) :
    ∃ t4 t5, bd (bindT (sLM cs ws fo a3 a4 a5 a6 a7 a8 a9 a10 a11) [3] true (.int r)) (evS Φ n b2_law_melds) = .ok (.nx (sLM cs ws (fo ++ lawSets cs r) (.imm (.int r)) t4 t5 a6 a7 a8 a9 a10 a11)) := by
  have hl := lawSome_len hr
  obtain ⟨t5, e⟩ := ls_loop (Φ := Φ) (n := n) (cs := cs) (ws := ws) (fo := fo) (r := r) (a6 := a6) (a7 := a7) (a8 := a8) (a9 := a9) (a11 := a11) (sortE encC cs) [[]] a5 a10 (by
    unfold lawSome at hl
    rw [chGo_len] at hl
    exact hl) (fun s hs => by
      rw [List.mem_singleton.mp hs, sortE_len]
      simpa using hc)
  refine ⟨.own ((lawSome cs r).map encT), t5, ?_⟩
  show evS Φ n b2_law_melds (sLM cs ws fo (.imm (.int r)) a4 a5 a6 a7 a8 a9 a10 a11) = _
  rw [b2_law_melds]
  rw [seq_nx (asg_own (ds := [.tuple []]) rfl rfl)]
  rw [seq_nx (a := .loop _ _ _ _) (τ := sLM cs ws fo (.imm (.int r)) (.own ((lawSome cs r).map encT)) t5 a6 a7 a8 a9 a10 a11) (by
    rw [q_loop, q_seqit, q_bi, q_rcons, q_var]
    simp only [sLM, List.set, rdS, List.getElem?_cons_zero, q_bd, q_rnil, srtCT, q_seqL]
    exact e)]
  have hv : ev Φ (.bin .Add (.var 2) (.lc (.tup (.cons (.cS "set") (.cons (.var 3) (.cons (.var 10) .nil)))) [10] true (.cons (.var 4) .nil) (.cons (.call 33 (.cons (.tup (.cons (.cS "set") (.cons (.var 3) (.cons (.var 10) .nil)))) .nil)) .nil))) (sLM cs ws fo (.imm (.int r)) (.own ((lawSome cs r).map encT)) t5 a6 a7 a8 a9 a10 a11) = .ok (.list ((fo ++ lawSets cs r).map encM)) := by
    rw [q_bin, lc_filter encT (fun z => meldB (.set r z)) (fun z => encM (.set r z)) (lawSome cs r) rfl fun z _ => by
      have : meldD (.tuple [.str "set", .int r, encT z]) = meldB (.set r z) := meldD_enc (.set r z)
      simp [lcOne, sLM, bindT, wipeS, rdS, strict, rdI, k_law_is_meld h33, this]
      rfl]
    simp only [q_var, sLM, rdS, List.getElem?_cons_zero, List.getElem?_cons_succ, q_bd]
    have h2 := List.length_filter_le (fun z => meldB (.set r z)) (lawSome cs r)
    rw [add_LL _ _ (by simp only [List.length_map]; omega), List.map_append, lawSets, List.map_map]
    rfl
  rw [q_seq, asg_own hv rfl]
  rfl
end Mt

set_option Elab.async false
set_option linter.all false
set_option maxRecDepth 100000
set_option maxHeartbeats 1000000
/-! The melds, the law's own way: runs. -/
namespace Mt
open PySem PySem.Spec PyProof.Rows L2
theorem strict_lc (e it cond : C) (tg : List Nat) (one : Bool) (σ : Sg) (x : R D) : strict (.lc e tg one it cond) σ x = x := rfl
def noW (row : List Card) : Bool := (row.filter fun c => c.1 == 0).isEmpty
def rowStep (cs ws : List Card) (r s : Int) (row : List Card) : List (List Card) := (if (r, s) ∈ cs then [row ++ [(r, s)]] else []) ++ (if noW row = true then ws.map fun w => row ++ [w] else [])
def rowsNext (cs ws : List Card) (s r : Int) (rows : List (List Card)) : List (List Card) := rows.flatMap (rowStep cs ws r s)
def sRM (cs ws : List Card) (fo : List Meld) (r : Int) (a4 a5 : Sl) (s : Int) (a7 : Sl) (rows : List (List Card)) (a9 a10 a11 : Sl) : Sg := [.imm (encT cs), .own (ws.map encC), .own (fo.map encM), .imm (.int r), a4, a5, .imm (.int s), a7, .imm (encLT rows), a9, a10, a11]
theorem rowStep_len (cs ws : List Card) (r s : Int) (row : List Card) : (rowStep cs ws r s row).length ≤ 1 + ws.length := by
  unfold rowStep
  rw [List.length_append]
  have h1 : (if (r, s) ∈ cs then [row ++ [(r, s)]] else []).length ≤ 1 := by split <;> simp
  have h2 : (if noW row = true then ws.map fun w => row ++ [w] else []).length ≤ ws.length := by split <;> simp
  omega
theorem b3_step {Φ : Nat → FnS} {n : Nat} {cs ws : List Card} {fo : List Meld} {r s : Int} {a4 a5 a7 a10 a11 : Sl} {rows lo : List (List Card)} {row : List Card} (hw : ws.length ≤ 100) (hl : lo.length ≤ 10000000) (hr : row.length ≤ 1000) :
    bd (bindT (sRM cs ws fo r a4 a5 s a7 rows (.own (lo.map encT)) a10 a11) [10] true (encT row)) (evS Φ n b3_law_melds) = .ok (.nx (sRM cs ws fo r a4 a5 s a7 rows (.own ((lo ++ rowStep cs ws r s row).map encT)) (.imm (encT row)) a11)) := by
  show evS Φ n b3_law_melds (sRM cs ws fo r a4 a5 s a7 rows (.own (lo.map encT)) (.imm (encT row)) a11) = _
  rw [b3_law_melds]
  have hin : cmpD .In (.tuple [.int r, .int s]) (encT cs) = .ok (.bool (decide ((r, s) ∈ cs))) := q_inT (r, s) cs
  have hcat : binD .Add (encT row) (.tuple [.tuple [.int r, .int s]]) = .ok (encT (row ++ [(r, s)])) := cat1 row (r, s) hr
  -- the card itself
  rw [seq_nx (τ := sRM cs ws fo r a4 a5 s a7 rows (.own ((lo ++ (if (r, s) ∈ cs then [row ++ [(r, s)]] else [])).map encT)) (.imm (encT row)) a11) (by
    by_cases hm : (r, s) ∈ cs
    · have hl' : lo.length < 16777216 := by omega
      simp [sRM, rdS, rdI, strict, hin, hm, hcat, ownAt, hl']
    · simp [sRM, rdS, rdI, strict, hin, hm])]
  generalize hlo : lo ++ (if (r, s) ∈ cs then [row ++ [(r, s)]] else []) = lo'
  have hlo2 : lo'.length ≤ 10000001 := by
    rw [← hlo, List.length_append]
    split <;> simp <;> omega
  have hend : lo ++ rowStep cs ws r s row = lo' ++ (if noW row = true then ws.map fun w => row ++ [w] else []) := by
    unfold rowStep
    rw [← List.append_assoc, hlo]
  rw [hend]
  have hwl : ev Φ (.lc (.var 5) [5] true (.cons (.var 10) .nil) (.cons (.cmp .Eq (.ix (.var 5) (.cI 0)) (.cI 0)) .nil)) (sRM cs ws fo r a4 a5 s a7 rows (.own (lo'.map encT)) (.imm (encT row)) a11) = .ok (.list ((row.filter fun c => c.1 == 0).map encC)) :=
    lc_filter encC _ encC row rfl fun c _ => by
      have i0 : ixD (encC c) (.int 0) = .ok (.int c.1) := rfl
      simp [lcOne, sRM, bindT, wipeS, rdS, rdI, strict, i0]
  rw [q_seq, q_ite, q_cmp, hwl]
  simp only [q_bd, q_lst, q_snil, eq_nil, List.isEmpty_map, q_asB]
  by_cases hn : noW row = true
  · have hn' : (row.filter fun c => c.1 == 0).isEmpty = true := hn
    rw [if_pos hn, hn', if_pos rfl]
    have hv : ev Φ (.bin .Add (.var 9) (.lc (.bin .Add (.var 10) (.tup (.cons (.var 11) .nil))) [11] true (.cons (.var 1) .nil) .nil)) (sRM cs ws fo r a4 a5 s a7 rows (.own (lo'.map encT)) (.imm (encT row)) a11) = .ok (.list ((lo' ++ ws.map fun w => row ++ [w]).map encT)) := by
      rw [q_bin, lc_map encC (fun w => encT (row ++ [w])) ws rfl fun w _ => by
        have := cat1 row w hr
        simp [lcOne, sRM, bindT, wipeS, rdS, rdI, strict, this]]
      simp only [q_var, sRM, rdS, List.getElem?_cons_zero, List.getElem?_cons_succ, q_bd]
      rw [add_LL _ _ (by simp only [List.length_map]; omega), List.map_append, List.map_map]
      rfl
    rw [q_seq, asg_own hv rfl]
    rfl
  · have hn' : (row.filter fun c => c.1 == 0).isEmpty = false := by simpa [noW] using hn
    rw [if_neg hn, hn', List.append_nil]
    rfl
theorem b3_loop {Φ : Nat → FnS} {n : Nat} {cs ws : List Card} {fo : List Meld} {r s : Int} {a4 a5 a7 a11 : Sl} {rows : List (List Card)} (hw : ws.length ≤ 100) : ∀ (l lo : List (List Card)) (a10 : Sl), lo.length + l.length * 101 ≤ 1000000 → (∀ row ∈ l, row.length ≤ 1000) →
    ∃ t10, forGo (fun d σ => bd (bindT σ [10] true d) (evS Φ n b3_law_melds)) (l.map encT) (sRM cs ws fo r a4 a5 s a7 rows (.own (lo.map encT)) a10 a11) = .ok (.nx (sRM cs ws fo r a4 a5 s a7 rows (.own ((lo ++ rowsNext cs ws s r l).map encT)) t10 a11))
  | [], lo, a10, _, _ => ⟨a10, by rw [rowsNext, List.flatMap_nil, List.append_nil]; rfl⟩
  | row :: l, lo, a10, h1, h2 => by
    have hs := rowStep_len cs ws r s row
    rw [List.length_cons] at h1
    obtain ⟨t10, e⟩ := b3_loop (Φ := Φ) (n := n) (cs := cs) (ws := ws) (fo := fo) (r := r) (s := s) (a4 := a4) (a5 := a5) (a7 := a7) (a11 := a11) (rows := rows) hw l (lo ++ rowStep cs ws r s row) (.imm (encT row)) (by rw [List.length_append]; omega) fun z hz => h2 z (List.mem_cons_of_mem _ hz)
    refine ⟨t10, ?_⟩
    rw [List.map_cons, forGo, b3_step hw (by omega) (h2 row (List.mem_cons_self ..))]
    rw [rowsNext, List.flatMap_cons, ← List.append_assoc]
    exact e
/-! ### one rank more -/
def lawRuns1 (s f : Int) (rows : List (List Card)) : List Meld := (rows.filter fun z => decide (3 ≤ z.length)).map (.run s f)
theorem sLM_frz (cs ws : List Card) (fo : List Meld) (a3 a4 a5 a6 a7 : Sl) (rows : List (List Card)) (a9 a10 a11 : Sl) (x : Sl) (hx : x = .own (rows.map encT) ∨ x = .imm (encLT rows)) : frzS (sLM cs ws fo a3 a4 a5 a6 a7 x a9 a10 a11) 8 = sLM cs ws fo a3 a4 a5 a6 a7 (.imm (encLT rows)) a9 a10 a11 := by
  rcases hx with rfl | rfl <;> rfl
theorem b4_step {Φ : Nat → FnS} {n : Nat} {cs ws : List Card} {fo : List Meld} {r s f : Int} {a3 a4 a5 a9 a10 a11 x : Sl} {rows : List (List Card)} (hw : ws.length ≤ 100) (hr : rows.length ≤ 5000) (hrow : ∀ row ∈ rows, row.length ≤ 999) (hf : fo.length ≤ 10000000) (hx : x = .own (rows.map encT) ∨ x = .imm (encLT rows)) :
    ∃ a9' a10', bd (bindT (sLM cs ws fo a3 a4 a5 (.imm (.int s)) (.imm (.int f)) x a9 a10 a11) [3] true (.int r)) (evS Φ n b4_law_melds) =
      .ok (if rowsNext cs ws s r rows = [] then .bk (sLM cs ws (fo ++ lawRuns1 s f (rowsNext cs ws s r rows)) (.imm (.int r)) a4 a5 (.imm (.int s)) (.imm (.int f)) (.imm (encLT (rowsNext cs ws s r rows))) a9' a10' a11)
        else .nx (sLM cs ws (fo ++ lawRuns1 s f (rowsNext cs ws s r rows)) (.imm (.int r)) a4 a5 (.imm (.int s)) (.imm (.int f)) (.imm (encLT (rowsNext cs ws s r rows))) a9' a10' a11)) := by
  obtain ⟨t10, e⟩ := b3_loop (Φ := Φ) (n := n) (cs := cs) (ws := ws) (fo := fo) (r := r) (s := s) (a4 := a4) (a5 := a5) (a7 := .imm (.int f)) (a11 := a11) (rows := rows) hw rows [] a10 (by simp; omega) fun z hz => by have := hrow z hz; omega
  rw [List.nil_append] at e
  generalize hR : rowsNext cs ws s r rows = R at e ⊢
  have hRl : R.length ≤ 505000 := by
    rw [← hR]
    have := flatMap_len (rowStep cs ws r s) 101 rows fun row _ => by have := rowStep_len cs ws r s row; omega
    unfold rowsNext
    omega
  refine ⟨.imm (encLT R), t10, ?_⟩
  show evS Φ n b4_law_melds (sLM cs ws fo (.imm (.int r)) a4 a5 (.imm (.int s)) (.imm (.int f)) x a9 a10 a11) = _
  rw [b4_law_melds]
  rw [seq_nx (asg_own (ds := []) rfl rfl)]
  rw [seq_nx (a := .frz _ _) (τ := sLM cs ws fo (.imm (.int r)) a4 a5 (.imm (.int s)) (.imm (.int f)) (.imm (encLT rows)) (.own (R.map encT)) t10 a11) (by
    rw [q_frz]
    have : frzS ((sLM cs ws fo (.imm (.int r)) a4 a5 (.imm (.int s)) (.imm (.int f)) x a9 a10 a11).set 9 (.own [])) 8 = sLM cs ws fo (.imm (.int r)) a4 a5 (.imm (.int s)) (.imm (.int f)) (.imm (encLT rows)) (.own []) a10 a11 := sLM_frz cs ws fo (.imm (.int r)) a4 a5 (.imm (.int s)) (.imm (.int f)) rows (.own []) a10 a11 x hx
    rw [this, q_loop]
    exact e)]
  rw [seq_nx (a := .frz _ _) (τ := sLM cs ws fo (.imm (.int r)) a4 a5 (.imm (.int s)) (.imm (.int f)) (.imm (encLT R)) (.imm (encLT R)) t10 a11) (by rfl)]
  rw [seq_nx (τ := sLM cs ws (fo ++ lawRuns1 s f R) (.imm (.int r)) a4 a5 (.imm (.int s)) (.imm (.int f)) (.imm (encLT R)) (.imm (encLT R)) t10 a11) (by
    rw [q_ext]
    have hv : ev Φ (.lc (.tup (.cons (.cS "run") (.cons (.var 6) (.cons (.var 7) (.cons (.var 10) .nil))))) [10] true (.cons (.var 8) .nil) (.cons (.cmp .GtE (.bi .len (.cons (.var 10) .nil)) (.cI 3)) .nil)) (sLM cs ws fo (.imm (.int r)) a4 a5 (.imm (.int s)) (.imm (.int f)) (.imm (encLT R)) (.imm (encLT R)) t10 a11) = .ok (.list ((lawRuns1 s f R).map encM)) := by
      rw [lc_filter encT (fun z => decide (3 ≤ z.length)) (fun z => encM (.run s f z)) R rfl fun z _ => by
        have hl : biD .len [encT z] = .ok (.int z.length) := by show Except.ok (PyData.int ((z.map encC).length : Nat)) = _; rw [List.length_map]
        have hd : decide ((3 : Int) ≤ z.length) = decide (3 ≤ z.length) := by
          rw [Bool.eq_iff_iff]; simp only [decide_eq_true_eq]; omega
        simp [lcOne, sLM, bindT, wipeS, rdS, rdI, strict, hl, hd]
        rfl]
      rw [lawRuns1, List.map_map]; rfl
    have hl2 : (lawRuns1 s f R).length ≤ R.length := by
      unfold lawRuns1
      rw [List.length_map]; exact List.length_filter_le _ _
    rw [hv, strict_lc, q_bd, q_seqL, q_bd]
    have ho : ownAt (sLM cs ws fo (.imm (.int r)) a4 a5 (.imm (.int s)) (.imm (.int f)) (.imm (encLT R)) (.imm (encLT R)) t10 a11) 2 = .ok (fo.map encM) := rfl
    rw [ho, q_bd, gd_pos (by simp only [List.length_map, decide_eq_true_eq]; omega), ← List.map_append]
    rfl)]
  rw [q_seq, q_ite]
  have hE : ev Φ (.cmp .Eq (.var 8) (.lst .nil)) (sLM cs ws (fo ++ lawRuns1 s f R) (.imm (.int r)) a4 a5 (.imm (.int s)) (.imm (.int f)) (.imm (encLT R)) (.imm (encLT R)) t10 a11) = .ok (.bool R.isEmpty) := by
    show cmpD .Eq (.list (R.map encT)) (.list []) = _
    rw [eq_nil, List.isEmpty_map]
  rw [hE]
  simp only [q_bd, q_asB]
  cases R with
  | nil => rfl
  | cons a l => rfl
end Mt

set_option Elab.async false
set_option linter.all false
set_option maxRecDepth 100000
set_option maxHeartbeats 1000000
/-! The melds, the law's own way: together. -/
namespace Mt
open PySem PySem.Spec PyProof.Rows L2
def lawRunsGo (cs ws : List Card) (s f : Int) : List Int → List (List Card) → List Meld
  | [], _ => []
  | r :: rs, rows => lawRuns1 s f (rowsNext cs ws s r rows) ++ (if rowsNext cs ws s r rows = [] then [] else lawRunsGo cs ws s f rs (rowsNext cs ws s r rows))
theorem noW_snoc (row : List Card) (c : Card) : noW (row ++ [c]) = (noW row && !(c.1 == 0)) := by
  unfold noW
  rw [List.filter_append]
  by_cases h : c.1 = 0 <;> simp [h]
theorem rowStep_cnt {cs ws : List Card} {r s : Int} (hr : r ≠ 0) (hw : ∀ w ∈ ws, w.1 = 0) (row : List Card) : (rowStep cs ws r s row).countP noW ≤ (if noW row = true then 1 else 0) ∧ (rowStep cs ws r s row).length ≤ 1 + (if noW row = true then ws.length else 0) := by
  have h2 : (ws.map fun w => row ++ [w]).countP noW = 0 := by
    rw [List.countP_eq_zero]
    intro z hz
    obtain ⟨w, hw', rfl⟩ := List.mem_map.mp hz
    rw [noW_snoc, hw w hw']; simp
  unfold rowStep
  rw [List.countP_append, List.length_append]
  have hrb : (r == 0) = false := by simpa using hr
  by_cases hn : noW row = true
  · rw [if_pos hn, if_pos hn, if_pos hn, h2, List.length_map]
    split
    · simp [noW_snoc, hn, hrb]
    · simp
  · have hn' : noW row = false := by simpa using hn
    rw [if_neg hn, if_neg hn, if_neg hn]
    split
    · simp [noW_snoc, hn', hrb]
    · simp
theorem rowsNext_cnt {cs ws : List Card} {r s : Int} (hr : r ≠ 0) (hw : ∀ w ∈ ws, w.1 = 0) : ∀ rows : List (List Card), (rowsNext cs ws s r rows).countP noW ≤ rows.countP noW ∧ (rowsNext cs ws s r rows).length ≤ rows.length + rows.countP noW * ws.length
  | [] => by simp [rowsNext]
  | row :: rows => by
    have ih := rowsNext_cnt (cs := cs) (s := s) hr hw rows
    have h := rowStep_cnt (cs := cs) (s := s) hr hw row
    unfold rowsNext at *
    rw [List.flatMap_cons, List.countP_append, List.length_append, List.countP_cons, List.length_cons, Nat.add_mul]
    split at h
    · rename_i hn; simp only [hn, if_true]; omega
    · rename_i hn
      simp only [if_neg hn, Nat.zero_mul]
      omega
theorem rowsNext_rowlen {cs ws : List Card} {r s : Int} {rows : List (List Card)} {k : Nat} (h : ∀ row ∈ rows, row.length ≤ k) : ∀ row ∈ rowsNext cs ws s r rows, row.length ≤ k + 1 := by
  intro row hm
  obtain ⟨z, hz, hm⟩ := List.mem_flatMap.mp hm
  have := h z hz
  unfold rowStep at hm
  rcases List.mem_append.mp hm with q | q
  · split at q
    · rw [List.mem_singleton.mp q, List.length_append, List.length_singleton]; omega
    · cases q
  · split at q
    · obtain ⟨w, _, rfl⟩ := List.mem_map.mp q
      rw [List.length_append, List.length_singleton]; omega
    · cases q
theorem lawRuns1_len (s f : Int) (rows : List (List Card)) : (lawRuns1 s f rows).length ≤ rows.length := by
  unfold lawRuns1
  rw [List.length_map]; exact List.length_filter_le _ _
theorem b4_loop {Φ : Nat → FnS} {n : Nat} {cs ws : List Card} {s f : Int} {a4 a5 a11 : Sl} (hw : ws.length ≤ 100) (hw0 : ∀ w ∈ ws, w.1 = 0) : ∀ (rs : List Int) (rows : List (List Card)) (fo : List Meld) (a3 x a9 a10 : Sl) (k : Nat), (∀ r ∈ rs, r ≠ 0) → rows.countP noW ≤ 1 → rows.length + rs.length * 100 ≤ 5000 → (∀ row ∈ rows, row.length ≤ k) → k + rs.length ≤ 900 → fo.length + rs.length * 5000 ≤ 9000000 → (x = .own (rows.map encT) ∨ x = .imm (encLT rows)) →
    ∃ a3' x' a9' a10', forGo (fun d σ => bd (bindT σ [3] true d) (evS Φ n b4_law_melds)) (rs.map .int) (sLM cs ws fo a3 a4 a5 (.imm (.int s)) (.imm (.int f)) x a9 a10 a11) = .ok (.nx (sLM cs ws (fo ++ lawRunsGo cs ws s f rs rows) a3' a4 a5 (.imm (.int s)) (.imm (.int f)) x' a9' a10' a11)) ∧ (lawRunsGo cs ws s f rs rows).length ≤ rs.length * 5000
  | [], rows, fo, a3, x, a9, a10, k, _, _, _, _, _, _, _ => ⟨a3, x, a9, a10, by rw [lawRunsGo, List.append_nil]; rfl, by simp [lawRunsGo]⟩
  | r :: rs, rows, fo, a3, x, a9, a10, k, h1, h2, h3, h4, h5, h6, hx => by
    rw [List.length_cons] at h3 h5 h6
    have hr := h1 r (List.mem_cons_self ..)
    obtain ⟨c1, c2⟩ := rowsNext_cnt (cs := cs) (s := s) hr hw0 rows
    have c3 : rows.countP noW * ws.length ≤ 1 * 100 := Nat.mul_le_mul h2 hw
    obtain ⟨t9, t10, e⟩ := b4_step (Φ := Φ) (n := n) (cs := cs) (fo := fo) (r := r) (s := s) (f := f) (a3 := a3) (a4 := a4) (a5 := a5) (a9 := a9) (a10 := a10) (a11 := a11) hw (by omega) (fun row hm => by have := h4 row hm; omega) (by omega) hx
    have hl := lawRuns1_len s f (rowsNext cs ws s r rows)
    rw [List.map_cons, forGo, e, lawRunsGo]
    by_cases hR : rowsNext cs ws s r rows = []
    · rw [if_pos hR, if_pos hR, List.append_nil]
      exact ⟨_, _, _, _, rfl, by rw [hR]; simp [lawRuns1]⟩
    · rw [if_neg hR, if_neg hR]
      obtain ⟨u3, ux, u9, u10, e2, l2⟩ := b4_loop (Φ := Φ) (n := n) (cs := cs) (s := s) (f := f) (a4 := a4) (a5 := a5) (a11 := a11) hw hw0 rs (rowsNext cs ws s r rows) (fo ++ lawRuns1 s f (rowsNext cs ws s r rows)) (.imm (.int r)) (.imm (encLT (rowsNext cs ws s r rows))) t9 t10 (k + 1) (fun q hq => h1 q (List.mem_cons_of_mem _ hq)) (by omega) (by omega) (rowsNext_rowlen h4) (by omega) (by rw [List.length_append]; omega) (.inr rfl)
      refine ⟨u3, ux, u9, u10, ?_, by rw [List.length_append, List.length_cons]; omega⟩
      rw [← List.append_assoc]
      exact e2
def lawRunsOf (cs ws : List Card) (s f : Int) : List Meld := lawRunsGo cs ws s f (upto f 14) [[]]
theorem b5_step {Φ : Nat → FnS} {n : Nat} {cs ws : List Card} {fo : List Meld} {s f : Int} {a3 a4 a5 a7 a8 a9 a10 a11 : Sl} (hw : ws.length ≤ 100) (hw0 : ∀ w ∈ ws, w.1 = 0) (hf : 1 ≤ f ∧ f ≤ 11) (hfo : fo.length ≤ 8000000) :
    ∃ a3' x' a9' a10', bd (bindT (sLM cs ws fo a3 a4 a5 (.imm (.int s)) a7 a8 a9 a10 a11) [7] true (.int f)) (evS Φ n b5_law_melds) = .ok (.nx (sLM cs ws (fo ++ lawRunsOf cs ws s f) a3' a4 a5 (.imm (.int s)) (.imm (.int f)) x' a9' a10' a11)) ∧ (lawRunsOf cs ws s f).length ≤ 65000 := by
  have hl := upto_len f 14
  obtain ⟨u3, ux, u9, u10, e, l⟩ := b4_loop (Φ := Φ) (n := n) (cs := cs) (s := s) (f := f) (a4 := a4) (a5 := a5) (a11 := a11) hw hw0 (upto f 14) [[]] fo a3 (.own (([[]] : List (List Card)).map encT)) a9 a10 0 (fun r hr => by have := mem_upto hr; omega) (by decide) (by simp; omega) (fun row hm => by rw [List.mem_singleton.mp hm]; exact Nat.le_refl _) (by omega) (by omega) (.inl rfl)
  refine ⟨u3, ux, u9, u10, ?_, by unfold lawRunsOf; omega⟩
  show evS Φ n b5_law_melds (sLM cs ws fo a3 a4 a5 (.imm (.int s)) (.imm (.int f)) a8 a9 a10 a11) = _
  rw [b5_law_melds, seq_nx (asg_own (ds := [.tuple []]) rfl rfl)]
  have hit : evIt Φ (.rng2 (.var 7) (.cI 14)) (sLM cs ws fo a3 a4 a5 (.imm (.int s)) (.imm (.int f)) (.own [.tuple []]) a9 a10 a11) = .ok ((upto f 14).map .int) := by
    show rngOk (.int f) (.int 14) = _
    exact rng_ok (by omega) (by omega) (by omega) (by omega) (by omega)
  rw [q_seq, q_loop]
  have hs : (sLM cs ws fo a3 a4 a5 (.imm (.int s)) (.imm (.int f)) a8 a9 a10 a11).set 8 (.own [.tuple []]) = sLM cs ws fo a3 a4 a5 (.imm (.int s)) (.imm (.int f)) (.own [.tuple []]) a9 a10 a11 := rfl
  rw [hs, hit]
  exact (congrArg (fun z => bd z (thenF (evS Φ n .skip))) e).trans rfl
def lawSuit (cs ws : List Card) (s : Int) : List Meld := (upto 1 12).flatMap (lawRunsOf cs ws s)
theorem b6_step {Φ : Nat → FnS} {n : Nat} {cs ws : List Card} {fo : List Meld} {s : Int} {a3 a4 a5 a6 a7 a8 a9 a10 a11 : Sl} (hw : ws.length ≤ 100) (hw0 : ∀ w ∈ ws, w.1 = 0) (hfo : fo.length ≤ 7000000) :
    ∃ a3' a7' x' a9' a10', bd (bindT (sLM cs ws fo a3 a4 a5 a6 a7 a8 a9 a10 a11) [6] true (.int s)) (evS Φ n b6_law_melds) = .ok (.nx (sLM cs ws (fo ++ lawSuit cs ws s) a3' a4 a5 (.imm (.int s)) a7' x' a9' a10' a11)) ∧ (lawSuit cs ws s).length ≤ 715000 := by
  have ll : ∀ f ∈ upto 1 12, (lawRunsOf cs ws s f).length ≤ 65000 := fun f hf => by
    have hf := mem_upto hf
    obtain ⟨_, _, _, _, _, l⟩ := b5_step (Φ := Φ) (n := n) (cs := cs) (fo := []) (s := s) (f := f) (a3 := a3) (a4 := a4) (a5 := a5) (a7 := a7) (a8 := a8) (a9 := a9) (a10 := a10) (a11 := a11) hw hw0 ⟨hf.1, by omega⟩ (by simp)
    exact l
  have tot : (lawSuit cs ws s).length ≤ 715000 := flatMap_len (lawRunsOf cs ws s) 65000 (upto 1 12) ll
  have key := forGo_accC (enc := PyData.int) (f := fun d σ => bd (bindT σ [7] true d) (evS Φ n b5_law_melds)) (St := fun acc σ => ∃ b3 b7 b8 b9 b10, σ = sLM cs ws acc b3 a4 a5 (.imm (.int s)) b7 b8 b9 b10 a11) (lawRunsOf cs ws s) 8000000 (upto 1 12) fo (sLM cs ws fo a3 a4 a5 (.imm (.int s)) a7 a8 a9 a10 a11) ⟨a3, a7, a8, a9, a10, rfl⟩ (by
      unfold lawSuit at tot; omega) fun f hf acc σ ⟨b3, b7, b8, b9, b10, e⟩ hN => by
    subst e
    have hf := mem_upto hf
    obtain ⟨u3, ux, u9, u10, e, _⟩ := b5_step (Φ := Φ) (n := n) (cs := cs) (fo := acc) (s := s) (f := f) (a3 := b3) (a4 := a4) (a5 := a5) (a7 := b7) (a8 := b8) (a9 := b9) (a10 := b10) (a11 := a11) hw hw0 ⟨hf.1, by omega⟩ (by omega)
    exact ⟨_, ⟨u3, _, ux, u9, u10, rfl⟩, .inl e⟩
  obtain ⟨τ, ⟨b3, b7, b8, b9, b10, rfl⟩, e⟩ := key
  refine ⟨b3, b7, b8, b9, b10, ?_, tot⟩
  show evS Φ n b6_law_melds (sLM cs ws fo a3 a4 a5 (.imm (.int s)) a7 a8 a9 a10 a11) = _
  rw [b6_law_melds, q_seq, q_loop, q_rng2, q_cI, q_bd, q_cI, q_bd, rng_ok (by omega) (by omega) (by omega) (by omega) (by omega), q_bd]
  exact (congrArg (fun z => bd z (thenF (evS Φ n .skip))) e).trans rfl
def wildIn (cs : List Card) : List Card := cs.filter fun c => c.1 == 0
def lawAll (cs : List Card) : List Meld := (upto 1 14).flatMap (lawSets cs) ++ (upto 0 4).flatMap (lawSuit cs (wildIn cs))
def lawOk (cs : List Card) : Bool := decide (cs.length ≤ 100) && (upto 1 14).all (rankOk cs)
def F_law_melds : FnS := ⟨1, m1 (decT decC) fun cs => gd (lawOk cs) (.ok (encLM (sortE encM (lawAll cs)))), true⟩
theorem run_law_melds {Φ : Nat → FnS} {n : Nat} (h33 : Φ 33 = F_law_is_meld) (ds : List D) (r : D) (h : F_law_melds.m ds = .ok r) : runF Φ n c_law_melds n_law_melds.length ds = .ok r := by
  obtain ⟨d, cs, rfl, h1, hf⟩ := m1_inv h
  obtain ⟨g, hf⟩ := gd_inv hf
  cases decT_eq h1
  cases hf
  unfold lawOk at g
  rw [Bool.and_eq_true, decide_eq_true_eq, List.all_eq_true] at g
  have hw : (wildIn cs).length ≤ 100 := Nat.le_trans (List.length_filter_le _ _) g.1
  have hw0 : ∀ w ∈ wildIn cs, w.1 = 0 := fun w hw => by simpa using (List.mem_filter.mp hw).2
  have e : startS n_law_melds.length [encT cs] = [.imm (encT cs), .dead, .dead, .dead, .dead, .dead, .dead, .dead, .dead, .dead, .dead, .dead] := rfl
  rw [runF, e, c_law_melds]
  rw [seq_nx (asg_own (ds := (wildIn cs).map encC) (lc_filter encC _ encC cs rfl fun c _ => by
    have i0 : ixD (encC c) (.int 0) = .ok (.int c.1) := rfl
    simp [lcOne, bindT, wipeS, rdS, rdI, strict, i0]) rfl)]
  rw [seq_nx (asg_own (ds := []) rfl rfl)]
  have l1 : ∀ r ∈ upto 1 14, (lawSets cs r).length ≤ 4096 := fun r hr => lawSets_len (g.2 r hr)
  have t1 : ((upto 1 14).flatMap (lawSets cs)).length ≤ 53248 := flatMap_len _ 4096 (upto 1 14) l1
  have key := forGo_accC (enc := PyData.int) (f := fun d σ => bd (bindT σ [3] true d) (evS Φ n b2_law_melds)) (St := fun acc σ => ∃ b3 b4 b5, σ = sLM cs (wildIn cs) acc b3 b4 b5 .dead .dead .dead .dead .dead .dead) (lawSets cs) 100000 (upto 1 14) [] (sLM cs (wildIn cs) [] .dead .dead .dead .dead .dead .dead .dead .dead .dead) ⟨_, _, _, rfl⟩ (by rw [List.length_nil, Nat.zero_add]; exact Nat.le_trans t1 (by decide)) fun r hr acc σ ⟨b3, b4, b5, e⟩ hN => by
    subst e
    obtain ⟨t4, t5, e⟩ := b2_step (Φ := Φ) (n := n) h33 (cs := cs) (ws := wildIn cs) (fo := acc) (r := r) (a3 := b3) (a4 := b4) (a5 := b5) (a6 := .dead) (a7 := .dead) (a8 := .dead) (a9 := .dead) (a10 := .dead) (a11 := .dead) (g.2 r hr) (by omega) (by omega)
    exact ⟨_, ⟨_, _, _, rfl⟩, .inl e⟩
  obtain ⟨τ, ⟨b3, b4, b5, rfl⟩, e1⟩ := key
  rw [seq_nx (τ := sLM cs (wildIn cs) ([] ++ (upto 1 14).flatMap (lawSets cs)) b3 b4 b5 .dead .dead .dead .dead .dead .dead) (by
    rw [q_loop, q_rng2, q_cI, q_bd, q_cI, q_bd, rng_ok (by omega) (by omega) (by omega) (by omega) (by omega), q_bd]
    exact e1)]
  rw [List.nil_append]
  generalize hfo : (upto 1 14).flatMap (lawSets cs) = fo1 at t1
  have l2 : ∀ s ∈ upto 0 4, (lawSuit cs (wildIn cs) s).length ≤ 715000 := fun s hs => by
    obtain ⟨_, _, _, _, _, _, l⟩ := b6_step (Φ := Φ) (n := n) (cs := cs) (fo := []) (s := s) (a3 := .dead) (a4 := .dead) (a5 := .dead) (a6 := .dead) (a7 := .dead) (a8 := .dead) (a9 := .dead) (a10 := .dead) (a11 := .dead) hw hw0 (by simp)
    exact l
  have t2 : ((upto 0 4).flatMap (lawSuit cs (wildIn cs))).length ≤ 2860000 := flatMap_len _ 715000 (upto 0 4) l2
  have key := forGo_accC (enc := PyData.int) (f := fun d σ => bd (bindT σ [6] true d) (evS Φ n b6_law_melds)) (St := fun acc σ => ∃ c3 c6 c7 c8 c9 c10, σ = sLM cs (wildIn cs) acc c3 b4 b5 c6 c7 c8 c9 c10 .dead) (lawSuit cs (wildIn cs)) 7000000 (upto 0 4) fo1 (sLM cs (wildIn cs) fo1 b3 b4 b5 .dead .dead .dead .dead .dead .dead) ⟨_, _, _, _, _, _, rfl⟩ (by omega) fun s hs acc σ ⟨c3, c6, c7, c8, c9, c10, e⟩ hN => by
    subst e
    obtain ⟨u3, u7, ux, u9, u10, e, _⟩ := b6_step (Φ := Φ) (n := n) (cs := cs) (fo := acc) (s := s) (a3 := c3) (a4 := b4) (a5 := b5) (a6 := c6) (a7 := c7) (a8 := c8) (a9 := c9) (a10 := c10) (a11 := .dead) hw hw0 (by omega)
    exact ⟨_, ⟨_, _, _, _, _, _, rfl⟩, .inl e⟩
  obtain ⟨τ, ⟨c3, c6, c7, c8, c9, c10, rfl⟩, e2⟩ := key
  rw [seq_nx (τ := sLM cs (wildIn cs) (fo1 ++ (upto 0 4).flatMap (lawSuit cs (wildIn cs))) c3 b4 b5 c6 c7 c8 c9 c10 .dead) (by
    rw [q_loop, q_rng1, q_cI, q_bd, rng_ok (by omega) (by omega) (by omega) (by omega) (by omega), q_bd]
    exact e2)]
  rw [← hfo]
  show endR (evS Φ n _ (sLM cs (wildIn cs) (lawAll cs) c3 b4 b5 c6 c7 c8 c9 c10 .dead)) = _
  simp only [q_seq, q_ret, q_bi, q_rcons, q_rnil, q_var, sLM, rdS, List.getElem?_cons_zero, List.getElem?_cons_succ, q_bd, srtM]
  rfl
theorem k_law_melds {Φ : Nat → FnS} (h : Φ 34 = F_law_melds) {cs : List Card} (hc : lawOk cs = true) : gd (Φ 34).pure ((Φ 34).m [encT cs]) = .ok (encLM (sortE encM (lawAll cs))) :=
  k_of h rfl ((m1_ok (decT_enc cs)).trans (gd_pos hc))
theorem ln_law_melds (ds : List D) (r : D) (h : F_law_melds.m ds = .ok r) : ds.length = F_law_melds.ar := ln_m1 h
theorem fl_law_melds (_ : F_law_melds.pure = true) (ds : List D) (r : D) (h : F_law_melds.m ds = .ok r) : flatTop r = true := fl_m1 (fun _ _ z => flt_gd (flt_encLM _) z) h
end Mt

set_option Elab.async false
set_option linter.all false
set_option maxRecDepth 100000
set_option maxHeartbeats 1000000
/-! The law's melds are the melds. -/
namespace Mt
open PySem PySem.Spec PyProof.Rows L2
/-! ### members -/
theorem mem_ofR {cs : List Card} {r : Int} {c : Card} : c ∈ (sortE encC cs).filter (ofR r) ↔ c ∈ cs ∧ (c.1 = 0 ∨ c.1 = r) := by
  rw [List.mem_filter, mem_sortE]
  unfold ofR
  simp
theorem mem_lawSets {cs : List Card} (H : Hand cs) {r : Int} (hr : 1 ≤ r ∧ r ≤ 13) {m : Meld} : m ∈ lawSets cs r ↔ ∃ z, m = .set r z ∧ MeldOk m ∧ ∀ c ∈ z, c ∈ cs := by
  unfold lawSets lawSome
  constructor
  · intro h
    obtain ⟨z, hz, rfl⟩ := List.mem_map.mp h
    obtain ⟨h1, h2⟩ := List.mem_filter.mp hz
    obtain ⟨p, hp, t, ht, e⟩ := (mem_chGo _ _ _).mp h1
    rw [List.mem_singleton.mp hp, List.nil_append] at e
    subst e
    exact ⟨z, rfl, (meldB_iff.mp h2).1, fun c hc => (mem_ofR.mp (ht.subset hc)).1⟩
  · rintro ⟨z, rfl, h1, h2⟩
    refine List.mem_map.mpr ⟨z, List.mem_filter.mpr ⟨(mem_chGo _ _ _).mpr ⟨[], List.mem_singleton.mpr rfl, z, ?_, rfl⟩, meldB_iff.mpr ⟨h1, fun c hc => H.ok c (h2 c hc)⟩⟩, rfl⟩
    obtain ⟨_, _, _, _, hp, ho, _⟩ := h1
    exact sub_of_sorted _ _ hp (List.Pairwise.sublist List.filter_sublist (sortC_lt H.nd)) fun c hc => mem_ofR.mpr ⟨h2 c hc, ho c hc⟩
/-- the rows behind k ranks -/
def rowsJ (cs ws : List Card) (s f : Int) : Nat → List (List Card)
  | 0 => [[]]
  | k + 1 => rowsNext cs ws s (f + k) (rowsJ cs ws s f k)
def rowP (cs : List Card) (s f : Int) (z : List Card) : Prop := (∀ (i : Nat) (h : i < z.length), (z[i] = (f + (i : Int), s) ∨ z[i].1 = 0) ∧ z[i] ∈ cs) ∧ ow z
theorem noW_iff {z : List Card} : noW z = true ↔ ∀ c ∈ z, c.1 ≠ 0 := by
  unfold noW
  rw [List.isEmpty_iff, List.filter_eq_nil_iff]
  simp
theorem ow_snoc {z : List Card} {c : Card} : ow (z ++ [c]) ↔ ow z ∧ ∀ d ∈ z, ¬ (d.1 = 0 ∧ c.1 = 0) := by
  unfold ow
  rw [List.pairwise_append]
  constructor
  · rintro ⟨h1, _, h2⟩
    exact ⟨h1, fun d hd => h2 d hd c (List.mem_singleton.mpr rfl)⟩
  · rintro ⟨h1, h2⟩
    exact ⟨h1, List.pairwise_singleton _ _, fun d hd e he => by rw [List.mem_singleton.mp he]; exact h2 d hd⟩
theorem mem_rowsJ {cs : List Card} {s f : Int} (hf : 1 ≤ f) : ∀ (k : Nat) (z : List Card), z ∈ rowsJ cs (wildIn cs) s f k ↔ z.length = k ∧ rowP cs s f z
  | 0, z => by
    constructor
    · intro h
      rw [List.mem_singleton.mp h]
      exact ⟨rfl, fun i h => absurd h (Nat.not_lt_zero _), List.Pairwise.nil⟩
    · rintro ⟨h, _⟩
      rw [List.length_eq_zero_iff.mp h]
      exact List.mem_singleton.mpr rfl
  | k + 1, z => by
    have ih := mem_rowsJ (cs := cs) (s := s) hf k
    show z ∈ (rowsJ cs (wildIn cs) s f k).flatMap (rowStep cs (wildIn cs) (f + k) s) ↔ _
    rw [List.mem_flatMap]
    constructor
    · rintro ⟨row, hrow, hz⟩
      obtain ⟨hl, hp, ho⟩ := (ih row).mp hrow
      have snoc : ∀ c : Card, (c = (f + (k : Int), s) ∨ c.1 = 0) → c ∈ cs → (∀ d ∈ row, ¬ (d.1 = 0 ∧ c.1 = 0)) → (row ++ [c]).length = k + 1 ∧ rowP cs s f (row ++ [c]) := fun c h1 h2 h3 => by
        refine ⟨by rw [List.length_append, hl]; rfl, fun i hi => ?_, ow_snoc.mpr ⟨ho, h3⟩⟩
        rw [List.length_append, List.length_singleton] at hi
        by_cases q : i < row.length
        · rw [List.getElem_append_left q]; exact hp i q
        · have e : i = row.length := by omega
          subst e
          rw [List.getElem_append_right (Nat.le_refl _)]
          simp only [Nat.sub_self, List.getElem_cons_zero, hl]
          exact ⟨h1, h2⟩
      unfold rowStep at hz
      rcases List.mem_append.mp hz with q | q
      · split at q
        · rename_i hm
          rw [List.mem_singleton.mp q]
          refine snoc _ (.inl rfl) hm fun d _ x => ?_
          have := x.2
          simp only at this
          omega
        · cases q
      · split at q
        · rename_i hn
          obtain ⟨w, hw, rfl⟩ := List.mem_map.mp q
          have hw' := List.mem_filter.mp hw
          exact snoc w (.inr (by simpa using hw'.2)) hw'.1 fun d hd x => noW_iff.mp hn d hd x.1
        · cases q
    · rintro ⟨hl, hp, ho⟩
      have hne : z ≠ [] := by intro e; rw [e] at hl; cases hl
      obtain ⟨row, c, rfl⟩ : ∃ row c, z = row ++ [c] := ⟨z.dropLast, z.getLast hne, (List.dropLast_concat_getLast hne).symm⟩
      rw [List.length_append, List.length_singleton] at hl
      obtain ⟨ho1, ho2⟩ := ow_snoc.mp ho
      have hrl : row.length = k := by omega
      refine ⟨row, (ih row).mpr ⟨hrl, fun i hi => ?_, ho1⟩, ?_⟩
      · have := hp i (by rw [List.length_append]; omega)
        rw [List.getElem_append_left hi] at this
        exact this
      · have hc := hp row.length (by rw [List.length_append, List.length_singleton]; omega)
        rw [List.getElem_append_right (Nat.le_refl _)] at hc
        simp only [Nat.sub_self, List.getElem_cons_zero, hrl] at hc
        unfold rowStep
        rw [List.mem_append]
        by_cases q : c.1 = 0
        · right
          have hn : noW row = true := noW_iff.mpr fun d hd x => ho2 d hd ⟨x, q⟩
          rw [if_pos hn]
          exact List.mem_map.mpr ⟨c, List.mem_filter.mpr ⟨hc.2, by simpa using q⟩, rfl⟩
        · left
          have e : c = (f + (k : Int), s) := hc.1.resolve_right q
          rw [← e, if_pos hc.2]
          exact List.mem_singleton.mpr rfl
theorem rowsJ_nil {cs ws : List Card} {s f : Int} {k : Nat} (h : rowsJ cs ws s f k = []) : ∀ j, k ≤ j → rowsJ cs ws s f j = [] := by
  intro j hj
  induction j with
  | zero => have : k = 0 := by omega
            rw [← this]; exact h
  | succ j ih =>
    by_cases q : k = j + 1
    · rw [← q]; exact h
    · show rowsNext cs ws s (f + j) (rowsJ cs ws s f j) = []
      rw [ih (by omega)]; rfl
theorem mem_lawRunsGo {cs ws : List Card} {s f : Int} {m : Meld} : ∀ (n k : Nat), m ∈ lawRunsGo cs ws s f ((List.range' k n).map fun (i : Nat) => f + (i : Int)) (rowsJ cs ws s f k) ↔ ∃ j, k < j ∧ j ≤ k + n ∧ ∃ z ∈ rowsJ cs ws s f j, 3 ≤ z.length ∧ m = .run s f z
  | 0, k => by
    constructor
    · intro h; cases h
    · rintro ⟨j, h1, h2, _⟩; omega
  | n + 1, k => by
    have ih := mem_lawRunsGo (cs := cs) (ws := ws) (s := s) (f := f) (m := m) n (k + 1)
    rw [List.range'_succ, List.map_cons, lawRunsGo]
    have hk : rowsNext cs ws s (f + (k : Int)) (rowsJ cs ws s f k) = rowsJ cs ws s f (k + 1) := rfl
    rw [hk, List.mem_append]
    have h1 : m ∈ lawRuns1 s f (rowsJ cs ws s f (k + 1)) ↔ ∃ z ∈ rowsJ cs ws s f (k + 1), 3 ≤ z.length ∧ m = .run s f z := by
      unfold lawRuns1
      rw [List.mem_map]
      constructor
      · rintro ⟨z, hz, rfl⟩
        obtain ⟨a, b⟩ := List.mem_filter.mp hz
        exact ⟨z, a, of_decide_eq_true b, rfl⟩
      · rintro ⟨z, a, b, rfl⟩
        exact ⟨z, List.mem_filter.mpr ⟨a, decide_eq_true b⟩, rfl⟩
    have h2 : (m ∈ if rowsJ cs ws s f (k + 1) = [] then [] else lawRunsGo cs ws s f ((List.range' (k + 1) n).map fun (i : Nat) => f + (i : Int)) (rowsJ cs ws s f (k + 1))) ↔ ∃ j, k + 1 < j ∧ j ≤ k + 1 + n ∧ ∃ z ∈ rowsJ cs ws s f j, 3 ≤ z.length ∧ m = .run s f z := by
      split
      · rename_i e
        constructor
        · intro h; cases h
        · rintro ⟨j, a, _, z, hz, _⟩
          rw [rowsJ_nil e j (by omega)] at hz; cases hz
      · exact ih
    rw [h1, h2]
    constructor
    · rintro (h | ⟨j, a, b, c⟩)
      · exact ⟨k + 1, by omega, by omega, h⟩
      · exact ⟨j, by omega, by omega, c⟩
    · rintro ⟨j, a, b, c⟩
      by_cases q : j = k + 1
      · subst q; exact .inl c
      · exact .inr ⟨j, by omega, by omega, c⟩
theorem upto_range (f : Int) (hf : f ≤ 14) : upto f 14 = (List.range' 0 (14 - f).toNat).map fun (i : Nat) => f + (i : Int) := by
  unfold upto
  rw [List.range_eq_range']
theorem mem_lawRunsOf {cs : List Card} (H : Hand cs) {s f : Int} (hs : 0 ≤ s ∧ s ≤ 3) (hf : 1 ≤ f ∧ f ≤ 11) {m : Meld} : m ∈ lawRunsOf cs (wildIn cs) s f ↔ ∃ z, m = .run s f z ∧ MeldOk m ∧ ∀ c ∈ z, c ∈ cs := by
  unfold lawRunsOf
  rw [upto_range f (by omega)]
  have := mem_lawRunsGo (cs := cs) (ws := wildIn cs) (s := s) (f := f) (m := m) (14 - f).toNat 0
  rw [show rowsJ cs (wildIn cs) s f 0 = [[]] from rfl] at this
  rw [this]
  constructor
  · rintro ⟨j, h1, h2, z, hz, h3, rfl⟩
    obtain ⟨hl, hp, ho⟩ := (mem_rowsJ hf.1 j z).mp hz
    refine ⟨z, rfl, ⟨hs.1, hs.2, hf.1, h3, by omega, fun i hi => (hp i hi).1, ho⟩, fun c hc => ?_⟩
    obtain ⟨i, hi, rfl⟩ := List.getElem_of_mem hc
    exact (hp i hi).2
  · rintro ⟨z, rfl, ⟨_, _, _, h3, h4, h5, h6⟩, h7⟩
    exact ⟨z.length, by omega, by omega, z, (mem_rowsJ hf.1 _ z).mpr ⟨rfl, fun i hi => ⟨h5 i hi, h7 _ (List.getElem_mem hi)⟩, h6⟩, h3, rfl⟩
theorem mem_uptoI {a b x : Int} : x ∈ upto a b ↔ a ≤ x ∧ x < b := by
  constructor
  · exact mem_upto
  · rintro ⟨h1, h2⟩
    unfold upto
    exact List.mem_map.mpr ⟨(x - a).toNat, List.mem_range.mpr (by omega), by omega⟩
theorem mem_lawAll {cs : List Card} (H : Hand cs) {m : Meld} : m ∈ lawAll cs ↔ MeldOk m ∧ ∀ c ∈ m.cards, c ∈ cs := by
  unfold lawAll
  rw [List.mem_append, List.mem_flatMap, List.mem_flatMap]
  constructor
  · rintro (⟨r, hr, h⟩ | ⟨s, hs, h⟩)
    · have hr := mem_uptoI.mp hr
      obtain ⟨z, rfl, h1, h2⟩ := (mem_lawSets H ⟨hr.1, by omega⟩).mp h
      exact ⟨h1, h2⟩
    · have hs := mem_uptoI.mp hs
      obtain ⟨f, hf, h⟩ := List.mem_flatMap.mp h
      have hf := mem_uptoI.mp hf
      obtain ⟨z, rfl, h1, h2⟩ := (mem_lawRunsOf H ⟨hs.1, by omega⟩ ⟨hf.1, by omega⟩).mp h
      exact ⟨h1, h2⟩
  · rintro ⟨h1, h2⟩
    cases m with
    | set r z =>
      have hh := h1
      obtain ⟨a, b, _⟩ := hh
      exact .inl ⟨r, mem_uptoI.mpr ⟨a, by omega⟩, (mem_lawSets H ⟨a, b⟩).mpr ⟨z, rfl, h1, h2⟩⟩
    | run s f z =>
      have hh := h1
      obtain ⟨a, b, c, d, e, _⟩ := hh
      exact .inr ⟨s, mem_uptoI.mpr ⟨a, by omega⟩, List.mem_flatMap.mpr ⟨f, mem_uptoI.mpr ⟨c, by omega⟩, (mem_lawRunsOf H ⟨a, b⟩ ⟨c, by omega⟩).mpr ⟨z, rfl, h1, h2⟩⟩⟩
end Mt

set_option Elab.async false
set_option linter.all false
set_option maxRecDepth 100000
set_option maxHeartbeats 1000000
/-! No meld is told twice. -/
namespace Mt
open PySem PySem.Spec PyProof.Rows L2
theorem nodup_flat {α β : Type} {g : α → List β} {l : List α} (h1 : ∀ a ∈ l, (g a).Nodup) (h2 : l.Pairwise fun a b => ∀ x ∈ g a, ∀ y ∈ g b, x ≠ y) : (l.flatMap g).Nodup := List.pairwise_flatMap.mpr ⟨h1, h2⟩
theorem upto_nd (a b : Int) : (upto a b).Nodup := by
  unfold upto
  exact List.pairwise_map.mpr (List.Pairwise.imp (fun {x y} h e => h (by omega)) List.nodup_range)
theorem nodup_inj {α β : Type} {f : α → β} (hf : ∀ a b, f a = f b → a = b) {l : List α} (h : l.Nodup) : (l.map f).Nodup := List.pairwise_map.mpr (h.imp fun {a b} n e => n (hf a b e))
theorem chGo_nd : ∀ (l : List Card) (found : List (List Card)), l.Nodup → found.Nodup → (∀ s ∈ found, ∀ c ∈ l, c ∉ s) → (chGo l found).Nodup
  | [], found, _, h, _ => h
  | c :: l, found, hl, h, hd => by
    obtain ⟨h1, h2⟩ := List.nodup_cons.mp hl
    show (chGo l (found ++ found.map (· ++ [c]))).Nodup
    refine chGo_nd l _ h2 ?_ fun s hs d hd' => ?_
    · refine List.nodup_append.mpr ⟨h, nodup_inj (fun a b e => List.append_cancel_right e) h, fun a ha b hb e => ?_⟩
      obtain ⟨z, hz, rfl⟩ := List.mem_map.mp hb
      exact hd a ha c (List.mem_cons_self ..) (by rw [e]; simp)
    · rcases List.mem_append.mp hs with m | m
      · exact hd s m d (List.mem_cons_of_mem _ hd')
      · obtain ⟨z, hz, rfl⟩ := List.mem_map.mp m
        intro q
        rcases List.mem_append.mp q with q | q
        · exact hd z hz d (List.mem_cons_of_mem _ hd') q
        · rw [List.mem_singleton.mp q] at hd'; exact h1 hd'
theorem sort_nd {cs : List Card} (h : cs.Nodup) : (sortE encC cs).Nodup := (sortE_perm encC cs).nodup_iff.mpr h
theorem chGo1_nd {l : List Card} (h : l.Nodup) : (chGo l [[]]).Nodup := chGo_nd l _ h (by simp) fun s hs c _ => by rw [List.mem_singleton.mp hs]; simp
theorem lawSets_nd {cs : List Card} (h : cs.Nodup) (r : Int) : (lawSets cs r).Nodup := by
  unfold lawSets lawSome
  exact nodup_inj (fun a b e => by injection e) ((chGo1_nd ((sort_nd h).filter _)).filter _)
theorem snoc_inj {a b : List Card} {c d : Card} (h : a ++ [c] = b ++ [d]) : a = b ∧ c = d := by
  have := List.append_inj' h rfl
  exact ⟨this.1, by simpa using this.2⟩
theorem rowStep_ends {cs ws : List Card} {r s : Int} {row z : List Card} (h : z ∈ rowStep cs ws r s row) : ∃ c, z = row ++ [c] := by
  unfold rowStep at h
  rcases List.mem_append.mp h with q | q
  · split at q
    · exact ⟨_, List.mem_singleton.mp q⟩
    · cases q
  · split at q
    · obtain ⟨w, _, rfl⟩ := List.mem_map.mp q; exact ⟨w, rfl⟩
    · cases q
theorem rowStep_nd {cs ws : List Card} {r s : Int} {row : List Card} (hw : ws.Nodup) (hw0 : ∀ w ∈ ws, w.1 = 0) (hr : r ≠ 0) : (rowStep cs ws r s row).Nodup := by
  unfold rowStep
  refine List.nodup_append.mpr ⟨by split <;> simp, ?_, fun a ha b hb e => ?_⟩
  · split
    · exact nodup_inj (fun a b e => (snoc_inj e).2) hw
    · simp
  · split at ha
    · split at hb
      · rw [List.mem_singleton.mp ha] at e
        obtain ⟨w, hw', rfl⟩ := List.mem_map.mp hb
        have := (snoc_inj e).2
        have h0 := hw0 w hw'
        rw [← this] at h0
        exact hr h0
      · cases hb
    · cases ha
theorem rowsJ_nd {cs : List Card} (H : Hand cs) {s f : Int} (hf : 1 ≤ f) : ∀ k, (rowsJ cs (wildIn cs) s f k).Nodup
  | 0 => by simp [rowsJ]
  | k + 1 => by
    have ih := rowsJ_nd H (s := s) hf k
    refine nodup_flat (fun row _ => rowStep_nd (H.nd.filter _) (fun w hw => by simpa using (List.mem_filter.mp hw).2) (by omega)) (ih.imp fun {a b} n x hx y hy e => ?_)
    obtain ⟨c, rfl⟩ := rowStep_ends hx
    obtain ⟨d, rfl⟩ := rowStep_ends hy
    exact n (snoc_inj e).1
theorem lawRunsGo_nd {cs : List Card} (H : Hand cs) {s f : Int} (hf : 1 ≤ f) : ∀ (n k : Nat), (lawRunsGo cs (wildIn cs) s f ((List.range' k n).map fun (i : Nat) => f + (i : Int)) (rowsJ cs (wildIn cs) s f k)).Nodup
  | 0, k => by simp [lawRunsGo]
  | n + 1, k => by
    have ih := lawRunsGo_nd H (s := s) hf n (k + 1)
    rw [List.range'_succ, List.map_cons, lawRunsGo]
    have hk : rowsNext cs (wildIn cs) s (f + (k : Int)) (rowsJ cs (wildIn cs) s f k) = rowsJ cs (wildIn cs) s f (k + 1) := rfl
    rw [hk]
    refine List.nodup_append.mpr ⟨nodup_inj (fun a b e => by injection e) ((rowsJ_nd H hf _).filter _), ?_, fun a ha b hb e => ?_⟩
    · split
      · simp
      · exact ih
    subst e
    split at hb
    · cases hb
    · obtain ⟨j, h1, _, z, hz, _, rfl⟩ := (mem_lawRunsGo n (k + 1)).mp hb
      obtain ⟨z', hz', e⟩ := List.mem_map.mp ha
      injection e with _ _ e
      subst e
      have l1 := ((mem_rowsJ hf _ _).mp (List.mem_filter.mp hz').1).1
      have l2 := ((mem_rowsJ hf _ _).mp hz).1
      omega
theorem lawRunsOf_nd {cs : List Card} (H : Hand cs) {s f : Int} (hf : 1 ≤ f ∧ f ≤ 14) : (lawRunsOf cs (wildIn cs) s f).Nodup := by
  unfold lawRunsOf
  rw [upto_range f hf.2]
  exact lawRunsGo_nd H hf.1 _ 0
theorem lawRunsGo_run {cs ws : List Card} {s f : Int} : ∀ (rs : List Int) (rows : List (List Card)) (m : Meld), m ∈ lawRunsGo cs ws s f rs rows → ∃ z, m = .run s f z
  | [], _, m, h => by cases h
  | r :: rs, rows, m, h => by
    rw [lawRunsGo] at h
    rcases List.mem_append.mp h with q | q
    · obtain ⟨z, _, rfl⟩ := List.mem_map.mp q; exact ⟨z, rfl⟩
    · split at q
      · cases q
      · exact lawRunsGo_run rs _ m q
theorem lawAll_nd {cs : List Card} (H : Hand cs) : (lawAll cs).Nodup := by
  unfold lawAll
  refine List.nodup_append.mpr ⟨nodup_flat (fun r _ => lawSets_nd H.nd r) ((upto_nd _ _).imp fun {a b} n x hx y hy e => ?_), nodup_flat (fun s _ => ?_) ((upto_nd _ _).imp fun {a b} n x hx y hy e => ?_), fun a ha b hb e => ?_⟩
  · obtain ⟨z, _, rfl⟩ := List.mem_map.mp hx
    obtain ⟨z', _, rfl⟩ := List.mem_map.mp hy
    injection e with e _
    exact n e
  · refine nodup_flat (fun f hf => lawRunsOf_nd H (by have := mem_uptoI.mp hf; omega)) ((upto_nd _ _).imp fun {a b} n x hx y hy e => ?_)
    obtain ⟨z, rfl⟩ := lawRunsGo_run _ _ _ hx
    obtain ⟨z', rfl⟩ := lawRunsGo_run _ _ _ hy
    injection e with _ e _
    exact n e
  · obtain ⟨f, _, hx⟩ := List.mem_flatMap.mp hx
    obtain ⟨f', _, hy⟩ := List.mem_flatMap.mp hy
    obtain ⟨z, rfl⟩ := lawRunsGo_run _ _ _ hx
    obtain ⟨z', rfl⟩ := lawRunsGo_run _ _ _ hy
    injection e with e _ _
    exact n e
  · obtain ⟨r, _, ha⟩ := List.mem_flatMap.mp ha
    obtain ⟨z, _, rfl⟩ := List.mem_map.mp ha
    obtain ⟨s, _, hb⟩ := List.mem_flatMap.mp hb
    obtain ⟨f', _, hb⟩ := List.mem_flatMap.mp hb
    obtain ⟨z', rfl⟩ := lawRunsGo_run _ _ _ hb
    cases e
/-! ### the program's -/
theorem chs_nd {cs : List Card} (h : cs.Nodup) : (chs cs).Nodup := chGo1_nd (sort_nd h)
theorem setsOf_nd {cs : List Card} (H : Hand cs) {r : Int} (hr : 1 ≤ r) : (setsOf r (plainOf cs) (wildsOf cs)).Nodup := by
  have hw0 : ∀ w ∈ wildsOf cs, w.1 = 0 := fun w hw => (mem_wilds.mp hw).2
  have hwn : (wildsOf cs).Nodup := sort_nd (H.nd.filter _)
  have plain : ∀ t ∈ chs ((plainOf cs).filter fun c => c.1 == r), ∀ c ∈ t, c.1 ≠ 0 := fun t ht c hc => by
    have := (mem_chs.mp ht).subset hc
    rw [mem_sortE, List.mem_filter] at this
    have := this.2
    simp at this
    omega
  refine nodup_flat (fun t ht => ?_) (List.Pairwise.imp_of_mem (fun {a b} ha hb n x hx y hy e => ?_) (chs_nd ((H.nd.filter _).filter _)))
  · unfold setsBy
    refine List.nodup_append.mpr ⟨by split <;> simp, ?_, fun a ha b hb e => ?_⟩
    · split
      · exact nodup_inj (fun a b e => by injection e with _ e; injection e) hwn
      · simp
    · split at ha
      · split at hb
        · rw [List.mem_singleton.mp ha] at e
          obtain ⟨w, hw, rfl⟩ := List.mem_map.mp hb
          injection e with _ e
          exact plain t ht w (by rw [e]; exact List.mem_cons_self ..) (hw0 w hw)
        · cases hb
      · cases ha
  · subst e
    have ex : ∀ t, x ∈ setsBy r (wildsOf cs) t → x = .set r t ∨ ∃ w ∈ wildsOf cs, x = .set r (w :: t) := fun t h => by
      rcases mem_setsBy.mp h with ⟨_, e⟩ | ⟨_, w, hw, e⟩
      · exact .inl e
      · exact .inr ⟨w, hw, e⟩
    rcases ex a hx with e1 | ⟨w, hw, e1⟩ <;> rcases ex b hy with e2 | ⟨w', hw', e2⟩
    · rw [e1] at e2; injection e2 with _ e; exact n e
    · rw [e1] at e2; injection e2 with _ e
      exact plain a ha w' (by rw [e]; exact List.mem_cons_self ..) (hw0 w' hw')
    · rw [e1] at e2; injection e2 with _ e
      exact plain b hb w (by rw [← e]; exact List.mem_cons_self ..) (hw0 w hw)
    · rw [e1] at e2; injection e2 with _ e; injection e with _ e; exact n e
theorem fill_set {wi : List Card} {p : Nat} {w : Card} (h : p < wi.length) : wi.take p ++ [w] ++ wi.drop (p + 1) = wi.set p w := by
  rw [List.set_eq_take_append_cons_drop, if_pos h, List.append_assoc]; rfl
theorem fills_nd {wi W : List Card} {ga : List Int} (hg : ∀ g ∈ ga, 0 ≤ g ∧ g < wi.length) (hgn : ga.Nodup) (hp : ∀ c ∈ wi, c.1 ≠ 0) (hw : W.Nodup) (hw0 : ∀ w ∈ W, w.1 = 0) : (fills wi ga W).Nodup := by
  have pl : ∀ p ∈ (if ga = [] then upto 0 wi.length else ga), 0 ≤ p ∧ p < wi.length := fun p h => by
    split at h
    · exact mem_upto h
    · exact hg p h
  have pn : (if ga = [] then upto 0 wi.length else ga).Nodup := by
    split
    · exact upto_nd _ _
    · exact hgn
  have ex : ∀ p : Int, 0 ≤ p ∧ p < wi.length → ∀ z ∈ fillAt wi W p, ∃ w ∈ W, z = wi.set p.toNat w := fun p h z hz => by
    obtain ⟨w, hw, rfl⟩ := List.mem_map.mp hz
    exact ⟨w, hw, fill_set (by omega)⟩
  have at_ : ∀ (p : Nat) (w : Card) (h : p < wi.length), (wi.set p w)[p]? = some w := fun p w h => List.getElem?_set_self h
  unfold fills
  refine List.nodup_append.mpr ⟨by split <;> simp, nodup_flat (fun p hp' => ?_) (List.Pairwise.imp_of_mem (fun {a b} ha hb n x hx y hy e => ?_) pn), fun a ha b hb e => ?_⟩
  · have h := pl p hp'
    refine List.pairwise_map.mpr (hw.imp fun {u v} n e => n ?_)
    rw [fill_set (by omega), fill_set (by omega)] at e
    have := congrArg (fun z : List Card => z[p.toNat]?) e
    rw [at_ _ _ (by omega), at_ _ _ (by omega)] at this
    exact Option.some.inj this
  · have h1 := pl a ha
    have h2 := pl b hb
    obtain ⟨w, hw1, rfl⟩ := ex a h1 x hx
    obtain ⟨w', hw2, rfl⟩ := ex b h2 y hy
    have := congrArg (fun z : List Card => z[a.toNat]?) e
    rw [at_ _ _ (by omega), List.getElem?_set_ne (by omega)] at this
    have hm := List.mem_of_getElem? this.symm
    exact hp w hm (hw0 w hw1)
  · obtain ⟨p, hp', hb⟩ := List.mem_flatMap.mp hb
    have h := pl p hp'
    obtain ⟨w, hw1, rfl⟩ := ex p h b hb
    split at ha
    · rw [List.mem_singleton.mp ha] at e
      refine hp w ?_ (hw0 w hw1)
      have := at_ p.toNat w (by omega)
      rw [← e] at this
      exact List.mem_of_getElem? this
    · cases ha
theorem wiK_plain {s f : Int} (hf : 1 ≤ f) (k : Nat) : ∀ c ∈ wiK s f k, c.1 ≠ 0 := fun c hc => by
  obtain ⟨i, _, rfl⟩ := List.mem_map.mp hc
  simp only
  omega
theorem fills_ln {wi W : List Card} {ga : List Int} (hg : ∀ g ∈ ga, 0 ≤ g ∧ g < wi.length) : ∀ z ∈ fills wi ga W, z.length = wi.length := fun z hz => by
  rcases (mem_fills hg).mp hz with ⟨_, rfl⟩ | ⟨p, _, _, w, _, rfl⟩
  · rfl
  · rw [List.length_set]
theorem runsGo_nd {s f : Int} {P W : List Card} (hf : 1 ≤ f) (hw : W.Nodup) (hw0 : ∀ w ∈ W, w.1 = 0) : ∀ (n k : Nat) (fo : List Meld), fo.Nodup → (∀ m ∈ fo, m.cards.length ≤ k) → (runsGo s f P W ((List.range' k n).map fun (i : Nat) => f + (i : Int)) (wiK s f k) (gaK P s f k) fo).Nodup
  | 0, k, fo, h, _ => h
  | n + 1, k, fo, h, hl => by
    rw [List.range'_succ, List.map_cons, runsGo]
    split
    · exact h
    · have e1 : wiK s f k ++ [(f + (k : Int), s)] = wiK s f (k + 1) := (wiK_succ s f k).symm
      have e2 : gapStep P s (wiK s f k) (gaK P s f k) (f + (k : Int)) = gaK P s f (k + 1) := (gaK_succ P s f k).symm
      rw [e1, e2]
      have hfl := fills_ln (W := W) (fun g hg => gaK_lt (P := P) (s := s) (f := f) (k := k + 1) g hg)
      refine runsGo_nd hf hw hw0 n (k + 1) _ ?_ fun m hm => ?_
      · split
        · refine List.nodup_append.mpr ⟨h, nodup_inj (fun a b e => by injection e) (fills_nd (fun g hg => gaK_lt g hg) (gaK_nd _ _ _ _) (wiK_plain hf _) hw hw0), fun a ha b hb e => ?_⟩
          subst e
          obtain ⟨z, hz, rfl⟩ := List.mem_map.mp hb
          have l1 := hl _ ha
          have l2 := hfl z hz
          rw [wiK_len] at l2
          simp only [Meld.cards] at l1
          omega
        · exact h
      · split at hm
        · rcases List.mem_append.mp hm with q | q
          · have := hl m q; omega
          · obtain ⟨z, hz, rfl⟩ := List.mem_map.mp q
            have l2 := hfl z hz
            rw [wiK_len] at l2
            simp only [Meld.cards]
            omega
        · have := hl m hm; omega
theorem runsFrom_nd {cs : List Card} (H : Hand cs) {s f : Int} (hf : 1 ≤ f ∧ f ≤ 14) : (runsFrom s f (plainOf cs) (wildsOf cs)).Nodup := by
  unfold runsFrom
  rw [upto_range f hf.2]
  exact runsGo_nd hf.1 (sort_nd (H.nd.filter _)) (fun w hw => (mem_wilds.mp hw).2) _ 0 [] (by simp) (by simp)
theorem runsGo_run {s f : Int} {P W : List Card} : ∀ (rs : List Int) (wi : List Card) (ga : List Int) (fo : List Meld) (m : Meld), (∀ m ∈ fo, ∃ z, m = .run s f z) → m ∈ runsGo s f P W rs wi ga fo → ∃ z, m = .run s f z
  | [], wi, ga, fo, m, h, hm => h m hm
  | r :: rs, wi, ga, fo, m, h, hm => by
    rw [runsGo] at hm
    split at hm
    · exact h m hm
    · refine runsGo_run rs _ _ _ m (fun m' hm' => ?_) hm
      split at hm'
      · rcases List.mem_append.mp hm' with q | q
        · exact h m' q
        · obtain ⟨z, _, rfl⟩ := List.mem_map.mp q; exact ⟨z, rfl⟩
      · exact h m' hm'
theorem runsFrom_run {s f : Int} {P W : List Card} {m : Meld} (h : m ∈ runsFrom s f P W) : ∃ z, m = .run s f z := runsGo_run _ _ _ _ m (by simp) h
theorem setsOf_set {r : Int} {P W : List Card} {m : Meld} (h : m ∈ setsOf r P W) : ∃ z, m = .set r z := by
  obtain ⟨t, _, h⟩ := List.mem_flatMap.mp h
  rcases mem_setsBy.mp h with ⟨_, e⟩ | ⟨_, w, _, e⟩
  · exact ⟨_, e⟩
  · exact ⟨_, e⟩
theorem allMelds_nd {cs : List Card} (H : Hand cs) : (allMelds cs).Nodup := by
  unfold allMelds
  refine List.nodup_append.mpr ⟨nodup_flat (fun r hr => setsOf_nd H (mem_upto hr).1) ((upto_nd _ _).imp fun {a b} n x hx y hy e => ?_), nodup_flat (fun s _ => nodup_flat (fun f hf => runsFrom_nd H (by have := mem_upto hf; omega)) ((upto_nd _ _).imp fun {a b} n x hx y hy e => ?_)) ((upto_nd _ _).imp fun {a b} n x hx y hy e => ?_), fun a ha b hb e => ?_⟩
  · obtain ⟨z, rfl⟩ := setsOf_set hx
    obtain ⟨z', rfl⟩ := setsOf_set hy
    injection e with e _
    exact n e
  · obtain ⟨z, rfl⟩ := runsFrom_run hx
    obtain ⟨z', rfl⟩ := runsFrom_run hy
    injection e with _ e _
    exact n e
  · obtain ⟨f, _, hx⟩ := List.mem_flatMap.mp hx
    obtain ⟨f', _, hy⟩ := List.mem_flatMap.mp hy
    obtain ⟨z, rfl⟩ := runsFrom_run hx
    obtain ⟨z', rfl⟩ := runsFrom_run hy
    injection e with e _ _
    exact n e
  · obtain ⟨r, _, ha⟩ := List.mem_flatMap.mp ha
    obtain ⟨z, rfl⟩ := setsOf_set ha
    obtain ⟨s, _, hb⟩ := List.mem_flatMap.mp hb
    obtain ⟨f, _, hb⟩ := List.mem_flatMap.mp hb
    obtain ⟨z', rfl⟩ := runsFrom_run hb
    cases e
theorem melds_nd {cs : List Card} (H : Hand cs) : (melds cs).Nodup := (sortE_perm encM _).nodup_iff.mpr (allMelds_nd H)
/-! ### the same list -/
theorem inj_M (a b : Meld) (h : PySem.W.keyToks (encM a) = PySem.W.keyToks (encM b)) : a = b := by
  have ts : ∀ r z, PySem.W.keyToks (encM (.set r z)) = .inl 1 :: .inr ("set" : Str).cps.toList :: .inl 1 :: .inl r :: .inl 1 :: (PySem.W.keyToksAll (z.map encC) ++ [.inl 0]) := fun r z => rfl
  have tr : ∀ s f z, PySem.W.keyToks (encM (.run s f z)) = .inl 1 :: .inr ("run" : Str).cps.toList :: .inl 1 :: .inl s :: .inl 1 :: .inl f :: .inl 1 :: (PySem.W.keyToksAll (z.map encC) ++ [.inl 0]) := fun s f z => rfl
  have ne : ("set" : Str).cps.toList ≠ ("run" : Str).cps.toList := by decide
  cases a with
  | set r z =>
    cases b with
    | set r' z' =>
      rw [ts, ts] at h
      simp only [List.cons.injEq, Sum.inl.injEq, true_and] at h
      rw [h.1, inj_T z z' (List.append_cancel_right h.2)]
    | run s f z' =>
      rw [ts, tr] at h
      injection h with _ h
      injection h with h _
      injection h with h
      exact absurd h ne
  | run s f z =>
    cases b with
    | set r' z' =>
      rw [ts, tr] at h
      injection h with _ h
      injection h with h _
      injection h with h
      exact absurd h.symm ne
    | run s' f' z' =>
      rw [tr, tr] at h
      simp only [List.cons.injEq, Sum.inl.injEq, true_and] at h
      rw [h.1, h.2.1, inj_T z z' (List.append_cancel_right h.2.2)]
/-- a list of melds, each once, by its members -/
theorem sortM_eq {l l' : List Meld} (h : l.Nodup) (h' : l'.Nodup) (hm : ∀ m, m ∈ l ↔ m ∈ l') : sortE encM l = sortE encM l' := sortE_eq inj_M ((List.perm_ext_iff_of_nodup h h').mpr hm)
theorem mem_allMelds {cs : List Card} (H : Hand cs) {m : Meld} : m ∈ allMelds cs ↔ MeldOk m ∧ ∀ c ∈ m.cards, c ∈ cs := by
  rw [← mem_melds H, melds, mem_sortE]
theorem lawMelds_eq {cs : List Card} (H : Hand cs) : sortE encM (lawAll cs) = melds cs :=
  sortM_eq (lawAll_nd H) (allMelds_nd H) fun m => by rw [mem_lawAll H, mem_allMelds H]
theorem Hand.lawOk {cs : List Card} (H : Hand cs) : lawOk cs = true := by
  unfold Mt.lawOk
  rw [Bool.and_eq_true, decide_eq_true_eq, List.all_eq_true]
  refine ⟨Nat.le_trans H.len (by decide), fun r hr => decide_eq_true ?_⟩
  have hr := mem_upto hr
  have h1 := H.rank (r := r) hr.1
  have h2 : (cs.filter fun c => c.1 == 0).length ≤ 2 := by
    have sub : ∀ c ∈ cs.filter fun c => c.1 == 0, c ∈ [((0 : Int), (0 : Int)), (0, 1)] := fun c hc => by
      obtain ⟨a, b⟩ := List.mem_filter.mp hc
      have := H.ok c a
      unfold okC at this
      simp at b
      obtain ⟨x, y⟩ := c
      simp at b this ⊢
      omega
    exact len_subset _ _ (H.nd.filter _) sub
  have h3 : (cs.filter (ofR r)).length ≤ (cs.filter fun c => c.1 == 0).length + (cs.filter fun c => c.1 == r).length := by
    clear h1 h2
    induction cs with
    | nil => simp
    | cons c cs ih =>
      have ih := ih ⟨(List.nodup_cons.mp H.nd).2, fun d hd => H.ok d (List.mem_cons_of_mem _ hd)⟩
      rw [List.filter_cons, List.filter_cons, List.filter_cons, show ofR r c = (c.1 == 0 || c.1 == r) from rfl]
      generalize (c.1 == 0) = u
      generalize (c.1 == r) = v
      cases u <;> cases v <;> simp only [Bool.or_true, Bool.true_or, Bool.or_false, if_true, List.length_cons, Bool.false_eq_true, if_false] <;> omega
  omega
end Mt

set_option Elab.async false
set_option linter.all false
set_option maxRecDepth 100000
set_option maxHeartbeats 1000000
/-! law k33: runs grown. -/
namespace Mt
open PySem PySem.Spec PyProof.Rows L2
/-- a run that is told -/
structure GoodRun (s f : Int) (z : List Card) : Prop where
  m : MeldOk (.run s f z)
  c : ∀ c ∈ z, okC c
theorem GoodRun.b {s f : Int} {z : List Card} (h : GoodRun s f z) : meldB (.run s f z) = true := meldB_iff.mpr ⟨h.m, h.c⟩
theorem GoodRun.of {s f : Int} {z : List Card} (h : meldB (.run s f z) = true) : GoodRun s f z := ⟨(meldB_iff.mp h).1, (meldB_iff.mp h).2⟩
theorem good_len {s f : Int} {z : List Card} (h : GoodRun s f z) : 3 ≤ z.length ∧ f + z.length ≤ 14 ∧ 1 ≤ f ∧ 0 ≤ s ∧ s ≤ 3 := by
  obtain ⟨h1, h2, h3, h4, h5, _⟩ := h.m
  exact ⟨h4, h5, h3, h1, h2⟩
theorem pairwise_snoc {α : Type} {R : α → α → Prop} {l : List α} {a : α} (h : l.Pairwise R) (h2 : ∀ b ∈ l, R b a) : (l ++ [a]).Pairwise R := by
  rw [List.pairwise_append]
  exact ⟨h, List.pairwise_singleton _ _, fun b hb c hc => by rw [List.mem_singleton.mp hc]; exact h2 b hb⟩
/-- a plain card ahead of a run -/
theorem ahead_iff {s f : Int} {z : List Card} (h : GoodRun s f z) {r t : Int} (hr : 1 ≤ r ∧ r ≤ 13) (ht : 0 ≤ t ∧ t ≤ 3) : meldB (.run s (f - 1) ((r, t) :: z)) = true ↔ r = f - 1 ∧ t = s := by
  rw [meldB_iff]
  obtain ⟨h1, h2, h3, h4, h5, h6, h7⟩ := h.m
  constructor
  · rintro ⟨⟨_, _, g1, _, _, g2, _⟩, _⟩
    have := g2 0 (by simp)
    simp at this
    omega
  · rintro ⟨rfl, rfl⟩
    refine ⟨⟨h1, h2, hr.1, by simp; omega, by simp; omega, fun i hi => ?_, List.pairwise_cons.mpr ⟨fun c _ q => by have := q.1; simp at this; omega, h7⟩⟩, fun c hc => ?_⟩
    · cases i with
      | zero => left; simp
      | succ i =>
        have := h6 i (by simpa using hi)
        simp only [List.getElem_cons_succ]
        rcases this with q | q
        · left; rw [q]; congr 1; simp; omega
        · exact .inr q
    · rcases List.mem_cons.mp hc with e | e
      · rw [e]; exact .inr ⟨hr.1, hr.2, ht.1, ht.2⟩
      · exact h.c c e
/-- a plain card behind a run -/
theorem behind_iff {s f : Int} {z : List Card} (h : GoodRun s f z) {r t : Int} (hr : 1 ≤ r ∧ r ≤ 13) (ht : 0 ≤ t ∧ t ≤ 3) : meldB (.run s f (z ++ [(r, t)])) = true ↔ r = f + z.length ∧ t = s := by
  rw [meldB_iff]
  obtain ⟨h1, h2, h3, h4, h5, h6, h7⟩ := h.m
  constructor
  · rintro ⟨⟨_, _, g1, _, _, g2, _⟩, _⟩
    have := g2 z.length (by simp)
    simp at this
    omega
  · rintro ⟨rfl, rfl⟩
    refine ⟨⟨h1, h2, h3, by simp; omega, by simp; omega, fun i hi => ?_, pairwise_snoc h7 fun c _ q => by have := q.2; simp at this; omega⟩, fun c hc => ?_⟩
    · rw [List.length_append, List.length_singleton] at hi
      by_cases q : i < z.length
      · rw [List.getElem_append_left q]; exact h6 i q
      · have e : i = z.length := by omega
        subst e
        left
        simp
    · rcases List.mem_append.mp hc with e | e
      · exact h.c c e
      · rw [List.mem_singleton.mp e]; exact .inr ⟨hr.1, hr.2, ht.1, ht.2⟩
theorem sort1 {α : Type} (enc : α → D) (l : List α) (h : l.length ≤ 1) : sortE enc l = l := by
  match l, h with
  | [], _ => exact List.perm_nil.mp (sortE_perm enc [])
  | [a], _ => exact List.perm_singleton.mp (sortE_perm enc [a])
/-- what may come of a rank -/
def endsOf (s f : Int) (z : List Card) (r : Int) : List Meld := if r = f - 1 then [.run s (f - 1) ((r, s) :: z)] else if r = f + z.length then [.run s f (z ++ [(r, s)])] else []
theorem more_own {s f : Int} {z : List Card} (h : GoodRun s f z) {r : Int} (hr : 1 ≤ r ∧ r ≤ 13) : withMore (.run s f z) (r, s) = endsOf s f z r := by
  obtain ⟨g1, g2, g3, g4, g5⟩ := good_len h
  have a := ahead_iff h hr ⟨g4, g5⟩
  have b := behind_iff h hr ⟨g4, g5⟩
  have e : (moreRaw (.run s f z) (r, s)).filter meldB = endsOf s f z r := by
    unfold moreRaw endsOf
    by_cases q : r = f - 1
    · have a' := a.mpr ⟨q, rfl⟩
      have b' : meldB (.run s f (z ++ [(r, s)])) = false := Bool.eq_false_iff.mpr fun x => by have := (b.mp x).1; omega
      rw [if_pos q]
      simp [List.filter_cons, a', b']
    · have a' : meldB (.run s (f - 1) ((r, s) :: z)) = false := Bool.eq_false_iff.mpr fun x => q (a.mp x).1
      rw [if_neg q]
      by_cases q2 : r = f + z.length
      · have b' := b.mpr ⟨q2, rfl⟩
        rw [if_pos q2]
        simp [List.filter_cons, a', b']
      · have b' : meldB (.run s f (z ++ [(r, s)])) = false := Bool.eq_false_iff.mpr fun x => q2 (b.mp x).1
        rw [if_neg q2]
        simp [List.filter_cons, a', b']
  unfold withMore
  rw [e, sort1]
  unfold endsOf
  split
  · exact Nat.le_refl _
  · split
    · exact Nat.le_refl _
    · exact Nat.zero_le _
theorem more_other {s f : Int} {z : List Card} (h : GoodRun s f z) {r t : Int} (hr : 1 ≤ r ∧ r ≤ 13) (ht : 0 ≤ t ∧ t ≤ 3) (hn : t ≠ s) : withMore (.run s f z) (r, t) = [] := by
  have a' : meldB (.run s (f - 1) ((r, t) :: z)) = false := Bool.eq_false_iff.mpr fun x => hn ((ahead_iff h hr ht).mp x).2
  have b' : meldB (.run s f (z ++ [(r, t)])) = false := Bool.eq_false_iff.mpr fun x => hn ((behind_iff h hr ht).mp x).2
  unfold withMore moreRaw
  simp only [List.filter_cons, a', b', List.filter_nil]
  exact sort1 _ _ (Nat.zero_le _)
theorem in_run {s f : Int} {z : List Card} (h : GoodRun s f z) {r : Int} (hr : 1 ≤ r) (hm : (r, s) ∈ z) : f ≤ r ∧ r < f + z.length := by
  obtain ⟨i, hi, e⟩ := List.getElem_of_mem hm
  obtain ⟨_, _, _, _, _, h6, _⟩ := h.m
  have := h6 i hi
  rw [e] at this
  simp at this
  omega
/-! ### the inner loop -/
def st33 (a0 a1 a2 : Sl) (s : Int) (a4 : Sl) (m : Meld) (a6 : Sl) (f e : Int) (ends : List Meld) (a10 a11 : Sl) : Sg := [a0, a1, a2, .imm (.int s), a4, .imm (encM m), a6, .imm (.int f), .imm (.int e), .own (ends.map encM), a10, a11]
theorem flat_len (s f : Int) (z : List Card) (r : Int) : (endsOf s f z r).length ≤ 1 := by
  unfold endsOf
  split
  · exact Nat.le_refl _
  · split
    · exact Nat.le_refl _
    · exact Nat.zero_le _
theorem body1_k33 {Φ : Nat → FnS} {n : Nat} (h25 : Φ 25 = F_with_more) {s f : Int} {z : List Card} (h : GoodRun s f z) {r : Int} (hr : 1 ≤ r ∧ r ≤ 13) {a0 a1 a2 a4 a6 a10 a11 : Sl} {acc : List Meld} (ha : acc.length ≤ 100) :
    ∃ a10 a11', (bd (bindT (st33 a0 a1 a2 s a4 (.run s f z) a6 f (f + z.length) acc a10 a11) [10] true (.int r)) (evS Φ n b1_law_k33) = .ok (.nx (st33 a0 a1 a2 s a4 (.run s f z) a6 f (f + z.length) (acc ++ endsOf s f z r) a10 a11')) ∨
      bd (bindT (st33 a0 a1 a2 s a4 (.run s f z) a6 f (f + z.length) acc a10 a11) [10] true (.int r)) (evS Φ n b1_law_k33) = .ok (.ct (st33 a0 a1 a2 s a4 (.run s f z) a6 f (f + z.length) (acc ++ endsOf s f z r) a10 a11'))) := by
  obtain ⟨g1, g2, g3, g4, g5⟩ := good_len h
  have hl : (Meld.run s f z).cards.length ≤ 1000 := by show z.length ≤ 1000; omega
  have k1 : gd (Φ 25).pure ((Φ 25).m [encM (.run s f z), .tuple [.int r, .int ((s + 1) % 4)]]) = .ok (.tuple []) := by
    have := k_with_more h25 (c := (r, (s + 1) % 4)) hl
    rw [more_other h hr (by omega) (by omega)] at this
    exact this
  have k2 : gd (Φ 25).pure ((Φ 25).m [encM (.run s f z), .tuple [.int r, .int s]]) = .ok (encTM (endsOf s f z r)) := by
    have := k_with_more h25 (c := (r, s)) hl
    rw [more_own h hr] at this
    exact this
  have hin : cmpD .In (.tuple [.int r, .int s]) (encT z) = .ok (.bool (decide ((r, s) ∈ z))) := q_inT (r, s) z
  have i3 : ixD (encM (.run s f z)) (.int 3) = .ok (encT z) := rfl
  have n0 : cmpD .NotEq (.tuple []) (.tuple []) = .ok (.bool false) := rfl
  have hln : biD .len [encTM (endsOf s f z r)] = .ok (.int (endsOf s f z r).length) := by show Except.ok (PyData.int (((endsOf s f z r).map encM).length : Nat)) = _; rw [List.length_map]
  have hls : biD .list [encTM (endsOf s f z r)] = .ok (.list ((endsOf s f z r).map encM)) := rfl
  have hadd : binD .Add (.list (acc.map encM)) (.list ((endsOf s f z r).map encM)) = .ok (.list ((acc ++ endsOf s f z r).map encM)) := by
    have := flat_len s f z r
    rw [add_LL _ _ (by simp only [List.length_map]; omega), List.map_append]
  by_cases hm : (r, s) ∈ z
  · refine ⟨.imm (.int r), .imm (.tuple []), .inr ?_⟩
    have hz := in_run h hr.1 hm
    have he : endsOf s f z r = [] := by unfold endsOf; rw [if_neg (by omega), if_neg (by omega)]
    rw [he, List.append_nil]
    simp [st33, bindT, b1_law_k33, rdS, rdI, strict, q_mod _ 4 (by decide), k1, n0, i3, hin, hm]
  · refine ⟨.imm (.int r), .imm (encTM (endsOf s f z r)), .inl ?_⟩
    have hfl : ∀ ds, encTM (endsOf s f z r) ≠ .list ds := fun _ q => nomatch q
    have hcnt : ((endsOf s f z r).length : Int) = (if r = f - 1 then 1 else 0) + (if r = f + z.length then 1 else 0) := by
      unfold endsOf
      by_cases q : r = f - 1
      · have q2 : ¬ r = f + z.length := by omega
        rw [if_pos q, if_pos q, if_neg q2]; rfl
      · rw [if_neg q, if_neg q]
        split <;> rfl
    simp [st33, bindT, b1_law_k33, rdS, rdI, strict, q_mod _ 4 (by decide), k1, n0, i3, hin, hm, k2, hfl, hln, hls, hcnt]
    rw [hadd, List.map_append]
    rfl
def endsAll (s f : Int) (z : List Card) : List Meld := (upto 1 14).flatMap (endsOf s f z)
theorem endsAll_len (s f : Int) (z : List Card) : (endsAll s f z).length ≤ 13 := flatMap_len _ 1 (upto 1 14) fun r _ => flat_len s f z r
theorem mem_endsAll {s f : Int} {z : List Card} (h : GoodRun s f z) {m : Meld} (hm : m ∈ endsAll s f z) : ∃ f' z', m = .run s f' z' ∧ GoodRun s f' z' ∧ z'.length = z.length + 1 := by
  obtain ⟨r, hr, hm⟩ := List.mem_flatMap.mp hm
  have hr := mem_upto hr
  obtain ⟨g1, g2, g3, g4, g5⟩ := good_len h
  unfold endsOf at hm
  split at hm
  · rename_i q
    rw [List.mem_singleton.mp hm]
    exact ⟨_, _, rfl, .of ((ahead_iff h ⟨hr.1, by omega⟩ ⟨g4, g5⟩).mpr ⟨q, rfl⟩), rfl⟩
  · split at hm
    · rename_i q
      rw [List.mem_singleton.mp hm]
      exact ⟨_, _, rfl, .of ((behind_iff h ⟨hr.1, by omega⟩ ⟨g4, g5⟩).mpr ⟨q, rfl⟩), by simp⟩
    · cases hm
theorem endsAll_nil {s f : Int} {z : List Card} (h : GoodRun s f z) (he : endsAll s f z = []) : f = 1 ∧ z.length = 13 := by
  obtain ⟨g1, g2, g3, g4, g5⟩ := good_len h
  have no : ∀ r, 1 ≤ r → r ≤ 13 → endsOf s f z r = [] := fun r h1 h2 => by
    have := List.flatMap_eq_nil_iff.mp he r (by
      unfold upto
      refine List.mem_map.mpr ⟨(r - 1).toNat, List.mem_range.mpr (by omega), by omega⟩)
    exact this
  by_cases q : f = 1
  · refine ⟨q, ?_⟩
    by_cases q2 : f + z.length ≤ 13
    · have := no (f + z.length) (by omega) q2
      unfold endsOf at this
      rw [if_neg (by omega), if_pos rfl] at this
      cases this
    · omega
  · have := no (f - 1) (by omega) (by omega)
    unfold endsOf at this
    rw [if_pos rfl] at this
    cases this
theorem loop1_k33 {Φ : Nat → FnS} {n : Nat} (h25 : Φ 25 = F_with_more) {s f : Int} {z : List Card} (h : GoodRun s f z) {a0 a1 a2 a4 a6 a10 a11 : Sl} :
    ∃ a10' a11', evS Φ n (.loop [10] true (.rng2 (.cI 1) (.cI 14)) b1_law_k33) (st33 a0 a1 a2 s a4 (.run s f z) a6 f (f + z.length) [] a10 a11) = .ok (.nx (st33 a0 a1 a2 s a4 (.run s f z) a6 f (f + z.length) (endsAll s f z) a10' a11')) := by
  have key := forGo_accC (enc := PyData.int) (f := fun d σ => bd (bindT σ [10] true d) (evS Φ n b1_law_k33)) (St := fun acc σ => ∃ x y, σ = st33 a0 a1 a2 s a4 (.run s f z) a6 f (f + z.length) acc x y) (endsOf s f z) 100 (upto 1 14) [] _ ⟨a10, a11, rfl⟩ (by
      have := endsAll_len s f z
      unfold endsAll at this
      simp only [List.length_nil]; omega) fun r hr acc σ ⟨x, y, e⟩ hN => by
    subst e
    have hr := mem_upto hr
    obtain ⟨x', y', q⟩ := body1_k33 (n := n) h25 h ⟨hr.1, by omega⟩ (a0 := a0) (a1 := a1) (a2 := a2) (a4 := a4) (a6 := a6) (a10 := x) (a11 := y) (acc := acc) (by omega)
    exact ⟨_, ⟨x', y', rfl⟩, q⟩
  obtain ⟨τ, ⟨x, y, rfl⟩, e⟩ := key
  refine ⟨x, y, ?_⟩
  rw [q_loop, q_rng2, q_cI, q_bd, q_cI, q_bd, rng_ok (by omega) (by omega) (by omega) (by omega) (by omega), q_bd]
  exact e
theorem loop2_k33 {Φ : Nat → FnS} {n : Nat} (h25 : Φ 25 = F_with_more) (h5 : Φ 5 = F_law_drawn) (num s : Int) {a0 a2 a4 : Sl} : ∀ (ks : List Int) (f : Int) (z : List Card), GoodRun s f z → 14 ≤ ks.length + z.length → ∀ (a6 a7 a8 a9 a10 a11 : Sl),
    forGo (fun d σ => bd (bindT σ [6] true d) (evS Φ n b2_law_k33)) (ks.map .int) [a0, .imm (.int num), a2, .imm (.int s), a4, .imm (encM (.run s f z)), a6, a7, a8, a9, a10, a11] = .ok (.rt (.bool true))
  | [], f, z, h, hl, _, _, _, _, _, _ => by
    obtain ⟨g1, g2, g3, g4, g5⟩ := good_len h
    simp at hl
    omega
  | k :: ks, f, z, h, hl, a6, a7, a8, a9, a10, a11 => by
    obtain ⟨g1, g2, g3, g4, g5⟩ := good_len h
    have i2 : ixD (encM (.run s f z)) (.int 2) = .ok (.int f) := rfl
    have i3 : ixD (encM (.run s f z)) (.int 3) = .ok (encT z) := rfl
    have hll : biD .len [encT z] = .ok (.int z.length) := by show Except.ok (PyData.int ((z.map encC).length : Nat)) = _; rw [List.length_map]
    obtain ⟨x, y, e1⟩ := loop1_k33 (n := n) h25 h (a0 := a0) (a1 := .imm (.int num)) (a2 := a2) (a4 := a4) (a6 := .imm (.int k)) (a10 := a10) (a11 := a11)
    rw [List.map_cons, forGo]
    have hb : bd (bindT [a0, .imm (.int num), a2, .imm (.int s), a4, .imm (encM (.run s f z)), a6, a7, a8, a9, a10, a11] [6] true (.int k)) (evS Φ n b2_law_k33) = (evS Φ n (.seq (.ite (.cmp .Eq (.var 9) (.lst .nil)) (.seq (.ret (.and (.cons (.cmp .Eq (.tup (.cons (.var 7) (.cons (.var 8) .nil))) (.tup (.cons (.cI 1) (.cons (.cI 14) .nil)))) (.cons (.cmp .Eq (.bi .len (.cons (.ix (.var 5) (.cI 3)) .nil)) (.cI 13)) .nil)))) .skip) .skip) (.seq (.asg [5] true (.ix (.var 9) (.bin .Mod (.bin .FloorDiv (.call 5 (.cons (.var 1) (.cons (.var 6) .nil))) (.cI 4)) (.bi .len (.cons (.var 9) .nil))))) .skip)) (st33 a0 (.imm (.int num)) a2 s a4 (.run s f z) (.imm (.int k)) f (f + z.length) (endsAll s f z) x y)) := by
      rw [b2_law_k33]
      show evS Φ n _ _ = _
      simp only [List.set]
      rw [seq_nx (τ := [a0, .imm (.int num), a2, .imm (.int s), a4, .imm (encM (.run s f z)), .imm (.int k), .imm (.int f), .imm (.int (f + z.length)), a9, a10, a11]) (by simp [rdS, strict, i2, i3, hll])]
      rw [seq_nx (τ := st33 a0 (.imm (.int num)) a2 s a4 (.run s f z) (.imm (.int k)) f (f + z.length) [] a10 a11) (by rfl)]
      rw [seq_nx e1]
    rw [hb]
    by_cases he : endsAll s f z = []
    · obtain ⟨q1, q2⟩ := endsAll_nil h he
      have c1 : cmpD .Eq (.tuple [.int f, .int (f + 13)]) (.tuple [.int 1, .int 14]) = .ok (.bool true) := by rw [q1]; rfl
      have c2 : ((z.length : Nat) : Int) = 13 := by omega
      rw [he]
      simp [st33, rdS, rdI, strict, eq_nil, c1, i3, hll, c2]
      rfl
    · have hpos : 0 < (endsAll s f z).length := List.length_pos_iff.mpr he
      have hne : ((endsAll s f z).map encM).isEmpty = false := by
        cases hq : endsAll s f z with
        | nil => exact absurd hq he
        | cons a l => rfl
      have hm1 := Int.emod_nonneg (drawn num k / 4) (show ((endsAll s f z).length : Int) ≠ 0 by omega)
      have hm2 := Int.emod_lt_of_pos (drawn num k / 4) (show (0 : Int) < (endsAll s f z).length by omega)
      obtain ⟨i, hi⟩ : ∃ i : Nat, drawn num k / 4 % ((endsAll s f z).length : Int) = (i : Nat) := ⟨(drawn num k / 4 % ((endsAll s f z).length : Int)).toNat, by omega⟩
      have hlt : i < (endsAll s f z).length := by omega
      have hget : (endsAll s f z)[i]? = some (endsAll s f z)[i] := List.getElem?_eq_getElem hlt
      obtain ⟨f', z', em, hg, hz'⟩ := mem_endsAll h (List.getElem_mem hlt)
      have hix := ixL_at encM (endsAll s f z) hget
      rw [em] at hix
      have hq : (endsAll s f z).length = ((endsAll s f z).map encM).length := by rw [List.length_map]
      have hlen : biD .len [.list ((endsAll s f z).map encM)] = .ok (.int (endsAll s f z).length) := by rw [q_lenL, List.length_map]
      have hmd : binD .Mod (.int (drawn num k / 4)) (.int ((endsAll s f z).length : Int)) = .ok (.int (i : Nat)) := by rw [q_mod _ _ (by omega), hi]
      have e2 : evS Φ n (.seq (.ite (.cmp .Eq (.var 9) (.lst .nil)) (.seq (.ret (.and (.cons (.cmp .Eq (.tup (.cons (.var 7) (.cons (.var 8) .nil))) (.tup (.cons (.cI 1) (.cons (.cI 14) .nil)))) (.cons (.cmp .Eq (.bi .len (.cons (.ix (.var 5) (.cI 3)) .nil)) (.cI 13)) .nil)))) .skip) .skip) (.seq (.asg [5] true (.ix (.var 9) (.bin .Mod (.bin .FloorDiv (.call 5 (.cons (.var 1) (.cons (.var 6) .nil))) (.cI 4)) (.bi .len (.cons (.var 9) .nil))))) .skip)) (st33 a0 (.imm (.int num)) a2 s a4 (.run s f z) (.imm (.int k)) f (f + z.length) (endsAll s f z) x y) = .ok (.nx (st33 a0 (.imm (.int num)) a2 s a4 (.run s f' z') (.imm (.int k)) f (f + z.length) (endsAll s f z) x y)) := by
        simp only [st33]
        rw [seq_nx (τ := [a0, .imm (.int num), a2, .imm (.int s), a4, .imm (encM (.run s f z)), .imm (.int k), .imm (.int f), .imm (.int (f + z.length)), .own ((endsAll s f z).map encM), x, y]) (by
          rw [q_ite]
          simp only [q_cmp, q_var, rdS, List.getElem?_cons_zero, List.getElem?_cons_succ, q_bd, q_lst, q_snil, eq_nil, hne, q_asB]
          rfl)]
        simp only [q_seq, q_asg, q_ix, q_var, rdS, List.getElem?_cons_zero, List.getElem?_cons_succ, q_bd, q_bin, q_call, q_rcons, q_rnil, k_drawn h5, q_cI, q_div _ 4 (by decide), q_bi, hlen, hmd, hix, as_ix, q_then, q_skip]
        rfl
      rw [e2]
      exact loop2_k33 h25 h5 num s ks f' z' hg (by rw [hz']; simp at hl; omega) _ _ _ _ _ _
end Mt

set_option Elab.async false
set_option linter.all false
set_option maxRecDepth 100000
set_option maxHeartbeats 1000000
namespace Mt
open PySem PySem.Spec PyProof.Rows L2
def F_law_k33 : FnS := ⟨1, m1 decS fun _ => .ok (.bool true), true⟩
def cards3 (f s : Int) : List Card := [(f, s), (f + 1, s), (f + 2, s)]
theorem good3 {s f : Int} (hf : 1 ≤ f ∧ f ≤ 11) (hs : 0 ≤ s ∧ s ≤ 3) : GoodRun s f (cards3 f s) := by
  refine .of (meldB_iff.mpr ⟨⟨hs.1, hs.2, hf.1, by simp [cards3], by simp [cards3]; omega, fun i hi => ?_, ow_of_plain fun c hc => ?_⟩, fun c hc => ?_⟩)
  · match i, hi with
    | 0, _ => left; simp [cards3]
    | 1, _ => left; simp [cards3]
    | 2, _ => left; simp [cards3]
    | (n + 3), h => simp [cards3] at h; omega
  · simp [cards3] at hc
    rcases hc with rfl | rfl | rfl <;> simp <;> omega
  · simp [Meld.cards, cards3] at hc
    rcases hc with rfl | rfl | rfl <;> exact .inr (by simp; omega)
/-- a wild one in the place of a card -/
theorem good_wild {s f w : Int} {z : List Card} (h : GoodRun s f z) (hp : ∀ c ∈ z, c.1 ≠ 0) (hw : 0 ≤ w ∧ w ≤ 1) (i : Nat) : GoodRun s f (z.set i (0, w)) := by
  obtain ⟨h1, h2, h3, h4, h5, h6, h7⟩ := h.m
  refine .of (meldB_iff.mpr ⟨⟨h1, h2, h3, by rw [List.length_set]; exact h4, by rw [List.length_set]; exact h5, fun j hj => ?_, ?_⟩, fun c hc => ?_⟩)
  · rw [List.length_set] at hj
    rw [List.getElem_set]
    split
    · right; rfl
    · exact h6 j hj
  · unfold ow
    rw [List.pairwise_iff_getElem]
    intro a b ha hb hab ⟨q1, q2⟩
    rw [List.length_set] at ha hb
    rw [List.getElem_set] at q1 q2
    split at q1
    · split at q2
      · omega
      · exact hp _ (List.getElem_mem hb) q2
    · exact hp _ (List.getElem_mem ha) q1
  · rcases List.mem_or_eq_of_mem_set hc with q | q
    · exact h.c c q
    · rw [q]; exact .inl ⟨rfl, hw.1, hw.2⟩
theorem setD_enc (cs : List Card) (k : Int) (c : Card) (h0 : 0 ≤ k) (h1 : k < cs.length) : setD (cs.map encC) (.int k) (encC c) = .ok ((cs.set k.toNat c).map encC) := by
  show (match ixN (cs.map encC).length k with | some j => _ | none => _) = _
  have : ixN (cs.map encC).length k = some k.toNat := by
    unfold ixN
    rw [List.length_map, if_pos h0, if_pos h1]
  rw [this]
  show Except.ok ((cs.map encC).set k.toNat (encC c)) = _
  rw [List.map_set]
theorem run_law_k33 {Φ : Nat → FnS} {n : Nat} (h4 : Φ 4 = F_law_mixed) (h25 : Φ 25 = F_with_more) (h5 : Φ 5 = F_law_drawn) (ds : List D) (r : D) (h : F_law_k33.m ds = .ok r) : runF Φ n c_law_k33 n_law_k33.length ds = .ok r := by
  obtain ⟨d, ns, rfl, h1, hf⟩ := m1_inv h
  cases decS_eq h1
  cases hf
  have e : startS n_law_k33.length [encS ns] = [.imm (encS ns), .dead, .dead, .dead, .dead, .dead, .dead, .dead, .dead, .dead, .dead, .dead] := rfl
  rw [runF, e, c_law_k33]
  have hx : ∃ x, x = mixed ns 0 := ⟨_, rfl⟩
  obtain ⟨x, hx⟩ := hx
  have km := k_mixed h4 ns 0 (by decide)
  rw [← hx] at km
  have hf : 1 ≤ 1 + x % 11 ∧ 1 + x % 11 ≤ 11 := by omega
  have hs : 0 ≤ x / 16 % 4 ∧ x / 16 % 4 ≤ 3 := by omega
  have g3 := good3 hf hs
  rw [seq_nx (asg_imm (v := .int x) (by simp [rdS, km]) (fun _ q => nomatch q))]
  rw [seq_nx (asg_imm (v := .int (1 + x % 11)) (by simp [rdS, q_mod _ 11 (by decide)]) (fun _ q => nomatch q))]
  rw [seq_nx (asg_imm (v := .int (x / 16 % 4)) (by simp [rdS, q_mod _ 4 (by decide), q_div _ 16 (by decide)]) (fun _ q => nomatch q))]
  simp only [List.set]
  rw [seq_nx (τ := [.imm (encS ns), .imm (.int x), .imm (.int (1 + x % 11)), .imm (.int (x / 16 % 4)), .own ((cards3 (1 + x % 11) (x / 16 % 4)).map encC), .dead, .dead, .dead, .dead, .dead, .dead, .dead]) (by
    rw [q_asg]
    rw [lc_map PyData.int (fun k => encC (1 + x % 11 + k, x / 16 % 4)) (upto 0 3) (by
      show rngOk (.int 0) (.int 3) = _
      exact rng_ok (by omega) (by omega) (by omega) (by omega) (by omega)) fun k _ => by simp [lcOne, bindT, wipeS, rdS, rdI, strict, encC]]
    rw [q_bd, as_lc, q_bd]
    simp only [List.set]
    have : (upto 0 3).map (fun k => encC (1 + x % 11 + k, x / 16 % 4)) = (cards3 (1 + x % 11) (x / 16 % 4)).map encC := by
      show [encC (1 + x % 11 + (0 + 0), _), encC (1 + x % 11 + (0 + 1), _), encC (1 + x % 11 + (0 + 2), _)] = _
      simp [cards3]
    rw [this])]
  have fin : ∀ (z : List Card), GoodRun (x / 16 % 4) (1 + x % 11) z → z.length = 3 → endR (evS Φ n (.seq (.asg [5] true (.tup (.cons (.cS "run") (.cons (.var 3) (.cons (.var 2) (.cons (.bi .tuple (.cons (.var 4) .nil)) .nil)))))) (.seq (.loop [6] true (.rng1 (.cI 14)) b2_law_k33) (.seq (.ret (.cB false)) .skip))) [.imm (encS ns), .imm (.int x), .imm (.int (1 + x % 11)), .imm (.int (x / 16 % 4)), .own (z.map encC), .dead, .dead, .dead, .dead, .dead, .dead, .dead]) = .ok (.bool true) := fun z hg hz => by
    rw [seq_nx (asg_imm (v := encM (.run (x / 16 % 4) (1 + x % 11) z)) (by simp [rdS, rdI, strict]; rfl) (fun _ q => nomatch q))]
    simp only [List.set]
    have lp := loop2_k33 (n := n) h25 h5 x (x / 16 % 4) (a0 := .imm (encS ns)) (a2 := .imm (.int (1 + x % 11))) (a4 := .own (z.map encC)) (upto 0 14) (1 + x % 11) z hg (by rw [hz]; decide) .dead .dead .dead .dead .dead .dead
    rw [q_seq, q_loop, q_rng1, q_cI, q_bd, rng_ok (by omega) (by omega) (by omega) (by omega) (by omega), q_bd, lp]
    rfl
  by_cases hw : x / 64 % 2 = 1
  · rw [seq_nx (τ := [.imm (encS ns), .imm (.int x), .imm (.int (1 + x % 11)), .imm (.int (x / 16 % 4)), .own (((cards3 (1 + x % 11) (x / 16 % 4)).set (x / 128 % 3).toNat (0, x / 512 % 2)).map encC), .dead, .dead, .dead, .dead, .dead, .dead, .dead]) (by
      have hsd := setD_enc (cards3 (1 + x % 11) (x / 16 % 4)) (x / 128 % 3) (0, x / 512 % 2) (by omega) (by simp [cards3]; omega)
      unfold encC at hsd
      simp only at hsd
      simp [rdS, rdI, strict, q_mod _ 2 (by decide), q_mod _ 3 (by decide), q_div _ 64 (by decide), q_div _ 128 (by decide), q_div _ 512 (by decide), hw, ownAt]
      unfold encC at *
      rw [hsd, List.map_set]
      rfl)]
    refine fin _ (good_wild g3 (fun c hc => ?_) (by omega) _) (by simp [cards3])
    simp [cards3] at hc
    rcases hc with rfl | rfl | rfl <;> simp <;> omega
  · rw [seq_nx (τ := [.imm (encS ns), .imm (.int x), .imm (.int (1 + x % 11)), .imm (.int (x / 16 % 4)), .own ((cards3 (1 + x % 11) (x / 16 % 4)).map encC), .dead, .dead, .dead, .dead, .dead, .dead, .dead]) (by
      simp [rdS, rdI, strict, q_mod _ 2 (by decide), q_div _ 64 (by decide), hw])]
    exact fin _ g3 (by simp [cards3])
theorem m_law_k33 (ns : List Int) : F_law_k33.m [.list (ns.map .int)] = .ok (.bool true) := m1_ok (decS_enc ns)
end Mt

set_option Elab.async false
set_option linter.all false
set_option maxRecDepth 100000
set_option maxHeartbeats 1000000
/-! Wild ones freed; some meld; suits exchanged. -/
namespace Mt
open PySem PySem.Spec PyProof.Rows L2
def Meld.put (m : Meld) (z : List Card) : Meld := match m with
  | .set r _ => .set r (sortE encC z)
  | .run s f _ => .run s f z
def Meld.keep (m : Meld) (z : List Card) : Meld := match m with
  | .set r _ => .set r z
  | .run s f _ => .run s f z
def wildsIn (m : Meld) : List Card := m.cards.filter fun c => c.1 == 0
/-- the first wild one's place -/
def freeM (m : Meld) (c : Card) : Option (Meld × Card) := match wildsIn m with
  | [] => none
  | w :: _ => if c.1 = 0 ∨ c ∈ m.cards then none else
    let new := m.put (m.cards.set (m.cards.idxOf w) c)
    if meldB new = true then some (new, w) else none
def encF (o : Option (Meld × Card)) : D := match o with
  | some (m, w) => .tuple [encM m, encC w]
  | none => .none
def F_freed : FnS := ⟨2, m2 decM decC fun m c => gd (decide (m.cards.length ≤ 1000)) (.ok (encF (freeM m c))), true⟩
theorem shD_C (c : Card) : shD (encC c) = true := rfl
theorem idx_find {cs : List Card} {w : Card} (h : w ∈ cs) : (cs.map encC).findIdx? (fun z => PyData.eqv z (encC w)) = some (cs.idxOf w) := by
  rw [List.findIdx?_map]
  have e : ((fun z => PyData.eqv z (encC w)) ∘ encC) = fun c => decide (c = w) := by funext c; exact eqv_enc c w
  rw [e]
  rw [List.findIdx?_eq_some_iff_getElem]
  have hlt := List.idxOf_lt_length_of_mem h
  refine ⟨hlt, by simpa using List.getElem_idxOf hlt, fun j hj => ?_⟩
  have := List.not_of_lt_findIdx (p := (· == w)) hj
  simpa using this
theorem lay_C : ∀ cs : List Card, PyData.canLayAll0 (cs.map encC) = true
  | [] => by simp [PyData.canLayAll0]
  | c :: cs => by
    rw [List.map_cons, PyData.canLayAll0, lay_C cs]
    rfl
theorem shD_L (cs : List Card) : shD (.list (cs.map encC)) = true := by
  show (PyData.canLay0 (.list (cs.map encC)) && decide ((PyData.list (cs.map encC)).depth ≤ 64)) = true
  rw [Bool.and_eq_true, decide_eq_true_eq]
  exact ⟨lay_C cs, Nat.le_trans (depth_L cs) (by decide)⟩
theorem lidx_C {cs : List Card} {w : Card} (h : w ∈ cs) : x2D .lidx (.list (cs.map encC)) (encC w) = .ok (.int (cs.idxOf w : Nat)) := by
  show gd (shD (.list (cs.map encC)) && shD (encC w)) _ = _
  rw [shD_L, shD_C, idx_find h]; rfl
theorem sl_meld (m : Meld) : ∃ l, slD (encM m) none (some (-1)) = .ok (.tuple l) ∧ ∀ z, l ++ [encT z] = (match m with | .set r _ => [.str "set", .int r, encT z] | .run s f _ => [.str "run", .int s, .int f, encT z]) := by
  cases m with
  | set r z => exact ⟨[.str "set", .int r], rfl, fun _ => rfl⟩
  | run s f z => exact ⟨[.str "run", .int s, .int f], rfl, fun _ => rfl⟩
theorem run_freed {Φ : Nat → FnS} {n : Nat} (h0 : Φ 0 = F_is_wild) (h24 : Φ 24 = F_is_meld) (ds : List D) (r : D) (h : F_freed.m ds = .ok r) : runF Φ n c_freed n_freed.length ds = .ok r := by
  obtain ⟨d, e, m, c, rfl, h1, h2, hf⟩ := m2_inv h
  obtain ⟨g, hf⟩ := gd_inv hf
  cases decM_eq h1
  cases decC_eq h2
  cases hf
  have g := of_decide_eq_true g
  have e : startS n_freed.length [encM m, encC c] = [.imm (encM m), .imm (encC c), .dead, .dead, .dead, .dead] := rfl
  rw [runF, e, c_freed]
  have eT : seqD (encT m.cards) = .ok (m.cards.map encC) := rfl
  rw [seq_nx (asg_own (ds := (wildsIn m).map encC) (lc_filter encC (fun c => c.1 == 0) encC m.cards (by simp [rdS, ix_last, eT]) fun c _ => by simp [lcOne, bindT, wipeS, rdS, rdI, strict, k_is_wild h0]) rfl)]
  simp only [List.set]
  unfold freeM
  cases hw : wildsIn m with
  | nil => simp [rdS, encF]
  | cons w ws =>
    have hlen : ¬ ((ws.length : Int) + 1 = 0) := by omega
    have hwm : w ∈ m.cards ∧ w.1 = 0 := by
      have : w ∈ wildsIn m := by rw [hw]; exact List.mem_cons_self ..
      have := List.mem_filter.mp this
      exact ⟨this.1, by simpa using this.2⟩
    have iw : ixD (.list (encC w :: ws.map encC)) (.int 0) = .ok (encC w) := by simp [ixD, atI, ixN]
    by_cases hz : c.1 = 0
    · simp [rdS, hlen, k_is_wild h0, hz, encF]
    · by_cases hm : c ∈ m.cards
      · simp [rdS, hlen, k_is_wild h0, hz, ix_last, hm, encF]
      · have hor : ¬ (c.1 = 0 ∨ c ∈ m.cards) := fun q => q.elim hz hm
        rw [seq_nx (τ := [.imm (encM m), .imm (encC c), .own ((w :: ws).map encC), .dead, .dead, .dead]) (by simp [rdS, hlen, k_is_wild h0, hz, ix_last, hm])]
        rw [seq_nx (asg_own (ds := m.cards.map encC) (lc_map encC encC m.cards (by simp [rdS, ix_last, eT]) fun c _ => by simp [lcOne, bindT, wipeS, rdS, rdI, strict]) rfl)]
        simp only [List.set]
        have hlt := List.idxOf_lt_length_of_mem hwm.1
        have hsd := setD_enc m.cards (m.cards.idxOf w : Nat) c (by omega) (by omega)
        rw [Int.toNat_natCast] at hsd
        rw [seq_nx (τ := [.imm (encM m), .imm (encC c), .own ((w :: ws).map encC), .own ((m.cards.set (m.cards.idxOf w) c).map encC), .dead, .dead]) (by
          simp only [q_six, q_strict, rdI, rdS, List.getElem?_cons_zero, List.getElem?_cons_succ, q_bd, q_x2, q_var, q_ix, q_cI, List.map_cons, iw, lidx_C hwm.1, ownAt, hsd]
          rfl)]
        generalize hz' : m.cards.set (m.cards.idxOf w) c = z'
        have hzl : z'.length ≤ 1000 := by rw [← hz', List.length_set]; exact g
        obtain ⟨l, hl, hlz⟩ := sl_meld m
        rw [if_neg hor]
        have add : ∀ z : List Card, z.length ≤ 1000 → binD .Add (.tuple l) (.tuple [encT z]) = .ok (encM (m.keep z)) := fun z _ => by
          have hll : l.length ≤ 10 := by
            have := congrArg List.length (hlz [])
            cases m <;> simp at this <;> omega
          rw [add_TT _ _ (by simp; omega), hlz]
          cases m <;> rfl
        have fin : ∀ z : List Card, z.length ≤ 1000 → m.keep z = m.put z' →
            endR (evS Φ n (.seq (.asg [4] true (.bin .Add (.sl (.var 0) .nil (.cons (.neg (.cI 1)) .nil)) (.tup (.cons (.bi .tuple (.cons (.var 3) .nil)) .nil)))) (.seq (.ite (.not (.call 24 (.cons (.var 4) .nil))) (.seq (.ret .cN) .skip) .skip) (.seq (.ret (.tup (.cons (.var 4) (.cons (.ix (.var 2) (.cI 0)) .nil)))) .skip))) [.imm (encM m), .imm (encC c), .own ((w :: ws).map encC), .own (z.map encC), .dead, .dead]) = .ok (encF (if meldB (m.put z') = true then some (m.put z', w) else none)) := fun z hz e => by
          have ha := add z hz
          rw [e] at ha
          have hT : biD .tuple [.list (z.map encC)] = .ok (encT z) := rfl
          have hnl : ∀ ds, encM (m.put z') ≠ .list ds := fun ds q => by cases h : m.put z' <;> rw [h] at q <;> cases q
          by_cases hb : meldB (m.put z') = true
          · rw [if_pos hb]
            simp [rdS, rdI, strict, hl, hT, ha, hnl, k_is_meld h24, meldD_enc, hb, iw, encF]
          · have hb' : meldB (m.put z') = false := by simpa using hb
            rw [if_neg hb]
            simp [rdS, rdI, strict, hl, hT, ha, hnl, k_is_meld h24, meldD_enc, hb', encF]
        cases m with
        | set r z0 =>
          have e2 : ixD (encM (.set r z0)) (.int 0) = .ok (.str "set") := rfl
          rw [seq_nx (τ := [.imm (encM (.set r z0)), .imm (encC c), .own ((w :: ws).map encC), .own ((sortE encC z').map encC), .dead, .dead]) (by
            rw [q_ite]
            simp only [q_cmp, q_ix, q_var, rdS, List.getElem?_cons_zero, List.getElem?_cons_succ, q_bd, q_cI, e2, q_cS, q_eqS, decide_true, q_asB, if_true]
            rw [q_seq, asg_own (ds := (sortE encC z').map encC) (by
              simp only [q_bi, q_rcons, q_rnil, q_var, rdS, List.getElem?_cons_zero, List.getElem?_cons_succ, q_bd]
              exact srtC z') rfl]
            rfl)]
          exact fin (sortE encC z') (by rw [sortE_len]; exact hzl) rfl
        | run s f z0 =>
          have e2 : ixD (encM (.run s f z0)) (.int 0) = .ok (.str "run") := rfl
          have nk : ¬ (("run" : Str) = "set") := by decide
          rw [seq_nx (τ := [.imm (encM (.run s f z0)), .imm (encC c), .own ((w :: ws).map encC), .own (z'.map encC), .dead, .dead]) (by
            simp [rdS, e2, nk])]
          exact fin z' hzl rfl
theorem k_freed {Φ : Nat → FnS} (h : Φ 42 = F_freed) {m : Meld} {c : Card} (hm : m.cards.length ≤ 1000) : gd (Φ 42).pure ((Φ 42).m [encM m, encC c]) = .ok (encF (freeM m c)) :=
  k_of h rfl ((m2_ok (decM_enc m) (decC_enc c)).trans (gd_pos (decide_eq_true hm)))
theorem flat_encF (o : Option (Meld × Card)) : flatTop (encF o) = true := by
  match o with
  | none => rfl
  | some (m, w) =>
    show flatAll [encM m, encC w] = true
    have := flat_encM m
    simp only [flatAll, this]
    rfl
theorem ln_freed (ds : List D) (r : D) (h : F_freed.m ds = .ok r) : ds.length = F_freed.ar := ln_m2 h
theorem fl_freed (_ : F_freed.pure = true) (ds : List D) (r : D) (h : F_freed.m ds = .ok r) : flatTop r = true := fl_m2 (fun _ _ _ z => flt_gd (flat_encF _) z) h
end Mt

set_option Elab.async false
set_option linter.all false
set_option maxRecDepth 100000
set_option maxHeartbeats 1000000
/-! How many melds at most; melds of a card more. -/
namespace Mt
open PySem PySem.Spec PyProof.Rows L2
theorem lawRunsGo_len {cs ws : List Card} {s f : Int} (hw0 : ∀ w ∈ ws, w.1 = 0) : ∀ (rs : List Int) (rows : List (List Card)), (∀ r ∈ rs, r ≠ 0) → rows.countP noW ≤ 1 → (lawRunsGo cs ws s f rs rows).length ≤ rs.length * (rows.length + rs.length * ws.length)
  | [], _, _, _ => by simp [lawRunsGo]
  | r :: rs, rows, h1, h2 => by
    have hr := h1 r (List.mem_cons_self ..)
    obtain ⟨c1, c2⟩ := rowsNext_cnt (cs := cs) (s := s) hr hw0 rows
    have c3 : rows.countP noW * ws.length ≤ 1 * ws.length := Nat.mul_le_mul_right _ h2
    have ih := lawRunsGo_len (cs := cs) (s := s) (f := f) hw0 rs (rowsNext cs ws s r rows) (fun q hq => h1 q (List.mem_cons_of_mem _ hq)) (by omega)
    have hl := lawRuns1_len s f (rowsNext cs ws s r rows)
    rw [lawRunsGo, List.length_append, List.length_cons]
    have h3 : (if rowsNext cs ws s r rows = [] then [] else lawRunsGo cs ws s f rs (rowsNext cs ws s r rows)).length ≤ rs.length * ((rowsNext cs ws s r rows).length + rs.length * ws.length) := by
      split
      · simp
      · exact ih
    have h4 : rs.length * ((rowsNext cs ws s r rows).length + rs.length * ws.length) ≤ rs.length * (rows.length + (rs.length + 1) * ws.length) := by
      refine Nat.mul_le_mul_left _ ?_
      rw [Nat.succ_mul]; omega
    rw [Nat.succ_mul]
    have h5 : (rs.length + 1) * ws.length = rs.length * ws.length + ws.length := Nat.succ_mul _ _
    omega
theorem Hand.wilds {cs : List Card} (H : Hand cs) : (wildIn cs).length ≤ 2 := by
  have sub : ∀ c ∈ wildIn cs, c ∈ [((0 : Int), (0 : Int)), (0, 1)] := fun c hc => by
    obtain ⟨a, b⟩ := List.mem_filter.mp hc
    have := H.ok c a
    unfold okC at this
    simp at b
    obtain ⟨x, y⟩ := c
    simp at b this ⊢
    omega
  exact len_subset _ _ (H.nd.filter _) sub
theorem melds_len {cs : List Card} (H : Hand cs) : (melds cs).length ≤ 16500 := by
  rw [← lawMelds_eq H, sortE_len, lawAll, List.length_append]
  have hw := H.wilds
  have hw0 : ∀ w ∈ wildIn cs, w.1 = 0 := fun w hw => by simpa using (List.mem_filter.mp hw).2
  have h1 : ((upto 1 14).flatMap (lawSets cs)).length ≤ (upto 1 14).length * 64 := flatMap_len _ 64 _ fun r hr => by
    have hr := mem_upto hr
    unfold lawSets lawSome
    rw [List.length_map]
    refine Nat.le_trans (List.length_filter_le _ _) ?_
    rw [chGo_len, List.length_singleton, Nat.one_mul]
    have e : ((sortE encC cs).filter (ofR r)).length = (cs.filter (ofR r)).length := ((sortE_perm encC cs).filter _).length_eq
    rw [e]
    have h3 : (cs.filter (ofR r)).length ≤ 6 := by
      have a := H.rank (r := r) hr.1
      have b : (cs.filter (ofR r)).length ≤ (wildIn cs).length + (cs.filter fun c => c.1 == r).length := by
        unfold wildIn
        clear a hw hw0 e
        induction cs with
        | nil => simp
        | cons c cs ih =>
          have ih := ih ⟨(List.nodup_cons.mp H.nd).2, fun d hd => H.ok d (List.mem_cons_of_mem _ hd)⟩
          rw [List.filter_cons, List.filter_cons, List.filter_cons, show ofR r c = (c.1 == 0 || c.1 == r) from rfl]
          generalize (c.1 == 0) = u
          generalize (c.1 == r) = v
          cases u <;> cases v <;> simp only [Bool.or_true, Bool.true_or, Bool.or_false, if_true, List.length_cons, Bool.false_eq_true, if_false] <;> omega
      omega
    calc 2 ^ (cs.filter (ofR r)).length ≤ 2 ^ 6 := Nat.pow_le_pow_right (by decide) h3
      _ = 64 := rfl
  have h2 : ((upto 0 4).flatMap (lawSuit cs (wildIn cs))).length ≤ (upto 0 4).length * 3900 := flatMap_len _ 3900 _ fun s _ => by
    have : (lawSuit cs (wildIn cs) s).length ≤ (upto 1 12).length * 351 := flatMap_len _ 351 _ fun f hf => by
      have hf := mem_upto hf
      have := lawRunsGo_len (cs := cs) (s := s) (f := f) hw0 (upto f 14) [[]] (fun r hr => by have := mem_upto hr; omega) (by decide)
      unfold lawRunsOf
      have hl : (upto f 14).length ≤ 13 := by rw [upto_len]; omega
      refine Nat.le_trans this ?_
      calc (upto f 14).length * ([([] : List Card)].length + (upto f 14).length * (wildIn cs).length) ≤ 13 * (1 + 13 * 2) := Nat.mul_le_mul hl (Nat.add_le_add_left (Nat.mul_le_mul hl hw) _)
        _ = 351 := rfl
    refine Nat.le_trans this ?_
    decide
  have e1 : (upto 1 14).length = 13 := by decide
  have e2 : (upto 0 4).length = 4 := by decide
  omega
/-! ### a card more -/
theorem cards_moreRaw {m m' : Meld} {c : Card} (h : m' ∈ moreRaw m c) : ∀ d ∈ m'.cards, d = c ∨ d ∈ m.cards := by
  intro d hd
  unfold moreRaw at h
  cases m with
  | set r z =>
    simp only [List.mem_singleton] at h
    subst h
    simp only [Meld.cards] at hd ⊢
    rw [mem_sortE, List.mem_append, List.mem_singleton] at hd
    exact hd.symm
  | run s f z =>
    simp only [List.mem_cons, List.not_mem_nil, or_false] at h
    rcases h with rfl | rfl
    · simp only [Meld.cards] at hd ⊢
      exact List.mem_cons.mp hd
    · simp only [Meld.cards] at hd ⊢
      rw [List.mem_append, List.mem_singleton] at hd
      exact hd.symm
theorem more_in {cs : List Card} (H : Hand cs) {m m' : Meld} {c : Card} (hm : m ∈ melds cs) (hc : c ∈ cs) (h : m' ∈ withMore m c) : m' ∈ melds cs := by
  obtain ⟨h1, h2⟩ := mem_withMore.mp h
  rw [mem_melds H] at hm ⊢
  refine ⟨(meldB_iff.mp h2).1, fun d hd => ?_⟩
  rcases cards_moreRaw h1 d hd with rfl | q
  · exact hc
  · exact hm.2 d q
theorem free_in {cs : List Card} (H : Hand cs) {m m' : Meld} {c w : Card} (hm : m ∈ melds cs) (hc : c ∈ cs) (h : freeM m c = some (m', w)) : m' ∈ melds cs ∧ w ∈ m.cards := by
  unfold freeM at h
  split at h
  · cases h
  · rename_i w' ws hw
    split at h
    · cases h
    · simp only at h
      split at h
      · rename_i hb
        injection h with h
        injection h with e1 e2
        subst e1 e2
        have hwm : w' ∈ m.cards := by
          have : w' ∈ wildsIn m := by rw [hw]; exact List.mem_cons_self ..
          exact (List.mem_filter.mp this).1
        refine ⟨?_, hwm⟩
        rw [mem_melds H] at hm ⊢
        refine ⟨(meldB_iff.mp hb).1, fun d hd => ?_⟩
        have : d ∈ m.cards.set (m.cards.idxOf w') c := by
          cases m with
          | set r z => simp only [Meld.put, Meld.cards] at hd ⊢; exact mem_sortE.mp hd
          | run s f z => exact hd
        rcases List.mem_or_eq_of_mem_set this with q | q
        · exact hm.2 d q
        · rw [q]; exact hc
      · cases h
theorem sort_id {z : List Card} (h : z.Pairwise ltC) : sortE encC z = z := by
  refine List.Perm.eq_of_pairwise (fun a b _ _ h1 h2 => inj_C a b (leD_anti h1 h2)) (sortE_pw encC z) (h.imp fun {a b} q => ?_) (sortE_perm encC z)
  rw [leC_eq, decide_eq_true_eq]
  unfold ltC at q
  omega
/-- a meld of four cards or more comes of one with a card less -/
theorem less_one {m : Meld} (h : meldB m = true) (hl : 3 < m.cards.length) : ∃ m' c, meldB m' = true ∧ c ∉ m'.cards ∧ c ∈ m.cards ∧ (∀ d ∈ m'.cards, d ∈ m.cards) ∧ m ∈ withMore m' c := by
  have hok := meldB_iff.mp h
  have hnd := hok.1.nd
  cases m with
  | set r z =>
    have hne : z ≠ [] := by intro e; rw [e] at hl; cases hl
    obtain ⟨t, c, rfl⟩ : ∃ t c, z = t ++ [c] := ⟨z.dropLast, z.getLast hne, (List.dropLast_concat_getLast hne).symm⟩
    obtain ⟨a1, a2, a3, a4, a5, a6, a7⟩ := hok.1
    simp only [Meld.cards] at hl hnd hok ⊢
    have hl' : t.length + 1 ≤ 4 ∧ 3 < t.length + 1 := by
      rw [List.length_append, List.length_singleton] at hl a4; omega
    have sub : t.Sublist (t ++ [c]) := List.sublist_append_left t [c]
    refine ⟨.set r t, c, meldB_iff.mpr ⟨⟨a1, a2, by omega, by omega, a5.sublist sub, fun d hd => a6 d (sub.subset hd), List.Pairwise.sublist sub a7⟩, fun d hd => hok.2 d (sub.subset hd)⟩, ?_, by simp, fun d hd => sub.subset hd, mem_withMore.mpr ⟨?_, h⟩⟩
    · intro q
      exact (List.nodup_append.mp hnd).2.2 c q c (List.mem_singleton.mpr rfl) rfl
    · show _ ∈ [Meld.set r (sortE encC (t ++ [c]))]
      rw [sort_id a5]
      exact List.mem_singleton.mpr rfl
  | run s f z =>
    have hne : z ≠ [] := by intro e; rw [e] at hl; cases hl
    obtain ⟨t, c, rfl⟩ : ∃ t c, z = t ++ [c] := ⟨z.dropLast, z.getLast hne, (List.dropLast_concat_getLast hne).symm⟩
    obtain ⟨a1, a2, a3, a4, a5, a6, a7⟩ := hok.1
    simp only [Meld.cards] at hl hnd hok ⊢
    rw [List.length_append, List.length_singleton] at hl a5
    have sub : t.Sublist (t ++ [c]) := List.sublist_append_left t [c]
    refine ⟨.run s f t, c, meldB_iff.mpr ⟨⟨a1, a2, a3, by omega, by omega, fun i hi => ?_, List.Pairwise.sublist sub a7⟩, fun d hd => hok.2 d (sub.subset hd)⟩, ?_, by simp, fun d hd => sub.subset hd, mem_withMore.mpr ⟨?_, h⟩⟩
    · have := a6 i (by rw [List.length_append]; omega)
      rw [List.getElem_append_left hi] at this
      exact this
    · intro q
      exact (List.nodup_append.mp hnd).2.2 c q c (List.mem_singleton.mpr rfl) rfl
    · show _ ∈ [Meld.run s (f - 1) (c :: t), Meld.run s f (t ++ [c])]
      simp
end Mt

set_option Elab.async false
set_option linter.all false
set_option maxRecDepth 100000
set_option maxHeartbeats 1000000
/-! All melds that there are, few enough for a set; melds as keys. -/
namespace Mt
open PySem PySem.Spec PyProof.Rows L2
def runZ (s f : Int) (n : Nat) : List Card := (List.range n).map fun (i : Nat) => (f + (i : Int), s)
def runsZ (s f : Int) (n : Nat) : List Meld := .run s f (runZ s f n) :: (List.range n).flatMap fun i => [.run s f ((runZ s f n).set i (0, 0)), .run s f ((runZ s f n).set i (0, 1))]
def everyRun : List Meld := (upto 0 4).flatMap fun s => (upto 1 12).flatMap fun f => (List.range 14).flatMap fun (n : Nat) => if 3 ≤ n ∧ f + (n : Int) ≤ 14 then runsZ s f n else []
def rankL (r : Int) : List Card := [(0, 0), (0, 1), (r, 0), (r, 1), (r, 2), (r, 3)]
def everySet : List Meld := (upto 1 14).flatMap fun r => ((chGo (rankL r) [[]]).filter fun z => decide (3 ≤ z.length) && decide (z.length ≤ 4)).map (.set r)
theorem every_len : (everySet ++ everyRun).length = 4063 := by decide +kernel
theorem rankL_lt {r : Int} (h : 1 ≤ r) : (rankL r).Pairwise ltC := by
  unfold rankL
  simp only [List.pairwise_cons, List.mem_cons, List.not_mem_nil, or_false, forall_eq_or_imp, forall_eq, ltC]
  simp
  omega
theorem runZ_len (s f : Int) (n : Nat) : (runZ s f n).length = n := by simp [runZ]
theorem runZ_get (s f : Int) (n i : Nat) (h : i < (runZ s f n).length) : (runZ s f n)[i] = (f + (i : Int), s) := by simp [runZ]
theorem mem_every {m : Meld} (h : MeldOk m) (ho : ∀ c ∈ m.cards, okC c) : m ∈ everySet ++ everyRun := by
  cases m with
  | set r z =>
    obtain ⟨a1, a2, a3, a4, a5, a6, a7⟩ := h
    refine List.mem_append_left _ (List.mem_flatMap.mpr ⟨r, upto_mem a1 (by omega), List.mem_map.mpr ⟨z, List.mem_filter.mpr ⟨(mem_chGo _ _ _).mpr ⟨[], by simp, z, sub_of_sorted _ _ a5 (rankL_lt a1) fun c hc => ?_, rfl⟩, by simp [a3, a4]⟩, rfl⟩⟩)
    have h1 := a6 c hc
    have h2 : okC c := ho c hc
    unfold okC at h2
    unfold rankL
    obtain ⟨x, y⟩ := c
    simp only at h1 h2
    simp only [List.mem_cons, List.not_mem_nil, or_false, Prod.mk.injEq]
    omega
  | run s f z =>
    obtain ⟨a1, a2, a3, a4, a5, a6, a7⟩ := h
    refine List.mem_append_right _ (List.mem_flatMap.mpr ⟨s, upto_mem a1 (by omega), List.mem_flatMap.mpr ⟨f, upto_mem a3 (by omega), List.mem_flatMap.mpr ⟨z.length, List.mem_range.mpr (by omega), ?_⟩⟩⟩)
    rw [if_pos ⟨a4, a5⟩]
    unfold runsZ
    rcases Classical.em (∃ i, ∃ h : i < z.length, z[i].1 = 0) with ⟨i, hi, h0⟩ | hn
    · refine List.mem_cons_of_mem _ (List.mem_flatMap.mpr ⟨i, List.mem_range.mpr hi, ?_⟩)
      have hok : okC z[i] := ho _ (List.getElem_mem hi)
      have hz : z = (runZ s f z.length).set i z[i] := by
        refine List.ext_getElem (by simp [runZ_len]) fun j h1 h2 => ?_
        rw [List.getElem_set]
        split
        · rename_i e; subst e; rfl
        · rename_i e
          rw [runZ_get]
          rcases a6 j h1 with c | c
          · exact c
          · exfalso
            rcases Nat.lt_or_gt_of_ne e with l | l
            · exact List.pairwise_iff_getElem.mp a7 i j hi h1 l ⟨h0, c⟩
            · exact List.pairwise_iff_getElem.mp a7 j i h1 hi l ⟨c, h0⟩
      have : z[i] = (0, 0) ∨ z[i] = (0, 1) := by
        unfold okC at hok
        generalize z[i] = c at hok h0
        obtain ⟨x, y⟩ := c
        simp only at hok h0
        simp only [Prod.mk.injEq]
        omega
      rcases this with e | e
      · rw [e] at hz
        simp only [List.mem_cons, List.not_mem_nil, or_false]
        exact .inl (by rw [← hz])
      · rw [e] at hz
        simp only [List.mem_cons, List.not_mem_nil, or_false]
        exact .inr (by rw [← hz])
    · refine List.mem_cons.mpr (.inl ?_)
      have hz : z = runZ s f z.length := List.ext_getElem (by simp [runZ_len]) fun j h1 h2 => by
        rw [runZ_get]
        exact (a6 j h1).resolve_right fun c => hn ⟨j, h1, c⟩
      rw [← hz]
theorem len_sub {α : Type} [DecidableEq α] : ∀ (l m : List α), l.Nodup → (∀ a ∈ l, a ∈ m) → l.length ≤ m.length
  | [], _, _, _ => Nat.zero_le _
  | a :: l, m, hn, hs => by
    have ha : a ∈ m := hs a (List.mem_cons_self ..)
    have hn' := List.nodup_cons.mp hn
    have ih := len_sub l (m.erase a) hn'.2 fun b hb => (List.mem_erase_of_ne (show b ≠ a from fun e => hn'.1 (e ▸ hb))).mpr (hs b (List.mem_cons_of_mem _ hb))
    have hl := List.length_erase_of_mem ha
    have : 0 < m.length := List.length_pos_of_mem ha
    rw [List.length_cons]
    omega
theorem melds_few {cs : List Card} (H : Hand cs) : (melds cs).length < 4096 := by
  have := len_sub (melds cs) (everySet ++ everyRun) (melds_nd H) fun m hm => by
    obtain ⟨h1, h2⟩ := (mem_melds H).mp hm
    exact mem_every h1 fun c hc => H.ok c (h2 c hc)
  rw [every_len] at this
  omega
/-! ### as keys -/
def kC (c : Card) : NestedKey := .tup [.num c.1, .num c.2]
def kM : Meld → NestedKey
  | .set r z => .tup [.text "set", .num r, .tup (z.map kC)]
  | .run s f z => .tup [.text "run", .num s, .num f, .tup (z.map kC)]
theorem nk_C (c : Card) : nkey (encC c) = kC c := rfl
theorem nk_T (z : List Card) : nkey (encT z) = .tup (z.map kC) := by
  show NestedKey.tup (nkeys (z.map encC)) = _
  rw [nkeys_map, List.map_map]; rfl
theorem nk_M (m : Meld) : nkey (encM m) = kM m := by
  cases m with
  | set r z => show NestedKey.tup [.text "set", .num r, nkey (encT z)] = _; rw [nk_T]; rfl
  | run s f z => show NestedKey.tup [.text "run", .num s, .num f, nkey (encT z)] = _; rw [nk_T]; rfl
theorem kC_inj {a b : Card} (h : kC a = kC b) : a = b := by
  unfold kC at h
  simp at h
  exact Prod.ext h.1 h.2
theorem kCs_inj : ∀ {a b : List Card}, a.map kC = b.map kC → a = b
  | [], [], _ => rfl
  | [], _ :: _, h => by simp at h
  | _ :: _, [], h => by simp at h
  | x :: a, y :: b, h => by
    rw [List.map_cons, List.map_cons] at h
    injection h with h1 h2
    rw [kC_inj h1, kCs_inj h2]
theorem kM_inj {a b : Meld} (h : kM a = kM b) : a = b := by
  cases a <;> cases b <;> simp [kM] at h
  · rw [h.1, kCs_inj h.2]
  · rw [h.1, h.2.1, kCs_inj h.2.2]
theorem dC_all : ∀ z : List Card, NestedKey.depthAll (z.map kC) ≤ 1
  | [] => by simp [NestedKey.depthAll]
  | c :: z => by
    have := dC_all z
    simp only [List.map_cons, NestedKey.depthAll, kC, NestedKey.depth]
    omega
theorem kM_depth (m : Meld) : (kM m).depth ≤ 3 := by
  cases m with
  | set r z => have := dC_all z; simp only [kM, NestedKey.depth, NestedKey.depthAll]; omega
  | run s f z => have := dC_all z; simp only [kM, NestedKey.depth, NestedKey.depthAll]; omega
theorem nd_map {α β : Type} {f : α → β} (hf : ∀ a b, f a = f b → a = b) {l : List α} (h : l.Nodup) : (l.map f).Nodup := List.pairwise_map.mpr (h.imp fun n e => n (hf _ _ e))
theorem flat_C (c : Card) : flat (encC c) = true := rfl
theorem flat_Cs (z : List Card) : flatAll (z.map encC) = true := flatAll_iff.mpr fun x hx => by obtain ⟨c, _, rfl⟩ := List.mem_map.mp hx; exact flat_C c
theorem flat_Me (m : Meld) : flat (encM m) = true := by
  cases m with
  | set r z => show (true && (true && (flatAll (z.map encC) && true))) = true; rw [flat_Cs]; rfl
  | run s f z => show (true && (true && (true && (flatAll (z.map encC) && true)))) = true; rw [flat_Cs]; rfl
theorem unlike_M {ms : List Meld} (h : ms.Nodup) (hl : ms.length < 4096) : unlike (ms.map encM) = true := by
  unfold unlike
  simp only [Bool.and_eq_true, decide_eq_true_eq]
  refine ⟨⟨⟨⟨flatAll_iff.mpr fun x hx => ?_, List.all_eq_true.mpr fun x hx => ?_⟩, by rw [List.length_map]; exact hl⟩, List.all_eq_true.mpr fun x hx => ?_⟩, ?_⟩
  · obtain ⟨m, _, rfl⟩ := List.mem_map.mp hx; exact flat_Me m
  · obtain ⟨m, _, rfl⟩ := List.mem_map.mp hx; cases m <;> rfl
  · obtain ⟨m, _, rfl⟩ := List.mem_map.mp hx
    rw [nk_M]
    have := kM_depth m
    exact decide_eq_true (by omega)
  · rw [List.map_map]
    exact nd_map (fun a b e => kM_inj (by simpa [nk_M] using e)) h
theorem lenSet_M {ms : List Meld} (h : ms.Nodup) (hl : ms.length < 4096) : x1D .lenSet (encTM ms) = .ok (.int (ms.length : Nat)) := by
  show gd (unlike (ms.map encM)) (.ok (PyData.int ((ms.map encM).length : Nat))) = _
  rw [unlike_M h hl, List.length_map]; rfl
end Mt

set_option Elab.async false
set_option linter.all false
set_option maxRecDepth 100000
set_option maxHeartbeats 1000000
/-! Melds without wild ones, counted. -/
namespace Mt
open PySem PySem.Spec PyProof.Rows L2
def plainSets : List Meld := (upto 1 14).flatMap fun r => [[0, 1, 2], [0, 1, 3], [0, 2, 3], [1, 2, 3], [0, 1, 2, 3]].map fun (l : List Int) => .set r (l.map fun s => (r, s))
def plainRuns : List Meld := (upto 0 4).flatMap fun s => (upto 1 12).flatMap fun f => (List.range 14).flatMap fun (n : Nat) => if 3 ≤ n ∧ f + (n : Int) ≤ 14 then [.run s f (runZ s f n)] else []
def inside (cs : List Card) (m : Meld) : Bool := m.cards.all fun c => decide (c ∈ cs)
def hand14 (first suit : Int) (long cnt : Nat) : List Card := ((List.range long).map fun (k : Nat) => (first + (k : Int), suit)) ++ ((List.range cnt).map fun (k : Nat) => ((13 : Int), (suit + (k : Int)) % 4))
def due1 (n : Nat) : Nat := [0, 0, 0, 1, 3, 6, 10].getD n 0
def due2 (n : Nat) : Nat := [0, 0, 0, 1, 5].getD n 0
def cnt14 (f s : Nat) : Bool := (List.range 7).all fun l => (List.range 5).all fun c => ((plainSets.filter (inside (hand14 (1 + (f : Int)) (s : Int) l c))).length == due2 c) && ((plainRuns.filter (inside (hand14 (1 + (f : Int)) (s : Int) l c))).length == due1 l)
theorem c14_0_0 : cnt14 0 0 = true := by decide +kernel
theorem c14_0_1 : cnt14 0 1 = true := by decide +kernel
theorem c14_0_2 : cnt14 0 2 = true := by decide +kernel
theorem c14_0_3 : cnt14 0 3 = true := by decide +kernel
theorem c14_1_0 : cnt14 1 0 = true := by decide +kernel
theorem c14_1_1 : cnt14 1 1 = true := by decide +kernel
theorem c14_1_2 : cnt14 1 2 = true := by decide +kernel
theorem c14_1_3 : cnt14 1 3 = true := by decide +kernel
theorem c14_2_0 : cnt14 2 0 = true := by decide +kernel
theorem c14_2_1 : cnt14 2 1 = true := by decide +kernel
theorem c14_2_2 : cnt14 2 2 = true := by decide +kernel
theorem c14_2_3 : cnt14 2 3 = true := by decide +kernel
theorem c14_3_0 : cnt14 3 0 = true := by decide +kernel
theorem c14_3_1 : cnt14 3 1 = true := by decide +kernel
theorem c14_3_2 : cnt14 3 2 = true := by decide +kernel
theorem c14_3_3 : cnt14 3 3 = true := by decide +kernel
theorem c14_4_0 : cnt14 4 0 = true := by decide +kernel
theorem c14_4_1 : cnt14 4 1 = true := by decide +kernel
theorem c14_4_2 : cnt14 4 2 = true := by decide +kernel
theorem c14_4_3 : cnt14 4 3 = true := by decide +kernel
theorem c14_5_0 : cnt14 5 0 = true := by decide +kernel
theorem c14_5_1 : cnt14 5 1 = true := by decide +kernel
theorem c14_5_2 : cnt14 5 2 = true := by decide +kernel
theorem c14_5_3 : cnt14 5 3 = true := by decide +kernel
theorem count14 : ∀ f s : Nat, f < 6 → s < 4 → cnt14 f s = true
  | 0, 0, _, _ => c14_0_0
  | 0, 1, _, _ => c14_0_1
  | 0, 2, _, _ => c14_0_2
  | 0, 3, _, _ => c14_0_3
  | 0, _ + 4, _, h => absurd h (by omega)
  | 1, 0, _, _ => c14_1_0
  | 1, 1, _, _ => c14_1_1
  | 1, 2, _, _ => c14_1_2
  | 1, 3, _, _ => c14_1_3
  | 1, _ + 4, _, h => absurd h (by omega)
  | 2, 0, _, _ => c14_2_0
  | 2, 1, _, _ => c14_2_1
  | 2, 2, _, _ => c14_2_2
  | 2, 3, _, _ => c14_2_3
  | 2, _ + 4, _, h => absurd h (by omega)
  | 3, 0, _, _ => c14_3_0
  | 3, 1, _, _ => c14_3_1
  | 3, 2, _, _ => c14_3_2
  | 3, 3, _, _ => c14_3_3
  | 3, _ + 4, _, h => absurd h (by omega)
  | 4, 0, _, _ => c14_4_0
  | 4, 1, _, _ => c14_4_1
  | 4, 2, _, _ => c14_4_2
  | 4, 3, _, _ => c14_4_3
  | 4, _ + 4, _, h => absurd h (by omega)
  | 5, 0, _, _ => c14_5_0
  | 5, 1, _, _ => c14_5_1
  | 5, 2, _, _ => c14_5_2
  | 5, 3, _, _ => c14_5_3
  | 5, _ + 4, _, h => absurd h (by omega)
  | _ + 6, _, h, _ => absurd h (by omega)
theorem plain_nd : (plainSets ++ plainRuns).Nodup := by decide +kernel
end Mt

set_option Elab.async false
set_option linter.all false
set_option maxRecDepth 100000
set_option maxHeartbeats 1000000
/-! Melds of a hand without wild ones. -/
namespace Mt
open PySem PySem.Spec PyProof.Rows L2
theorem plain_ok : (plainSets ++ plainRuns).all meldB = true := by decide +kernel
theorem sub4 {r : Int} {z : List Card} (h : z.Sublist [(r, 0), (r, 1), (r, 2), (r, 3)]) (h3 : 3 ≤ z.length) : z ∈ [[0, 1, 2], [0, 1, 3], [0, 2, 3], [1, 2, 3], [0, 1, 2, 3]].map fun (l : List Int) => l.map fun s => (r, s) := by
  have hm := (mem_chGo [(r, 0), (r, 1), (r, 2), (r, 3)] [[]] z).mpr ⟨[], by simp, z, h, rfl⟩
  simp only [chGo, List.foldl_cons, List.foldl_nil, List.map_append, List.mem_append, List.map_cons, List.map_nil, List.cons_append, List.nil_append, List.append_nil, List.mem_cons, List.not_mem_nil, or_false, List.singleton_append, List.append_assoc] at hm
  rcases hm with e | e | e | e | e | e | e | e | e | e | e | e | e | e | e | e <;> subst e <;> first | (simp at h3; done) | simp
theorem plain_mem {m : Meld} (h : MeldOk m) (ho : ∀ c ∈ m.cards, okC c) (hw : ∀ c ∈ m.cards, c.1 ≠ 0) : m ∈ plainSets ++ plainRuns := by
  cases m with
  | set r z =>
    obtain ⟨a1, a2, a3, a4, a5, a6, a7⟩ := h
    refine List.mem_append_left _ (List.mem_flatMap.mpr ⟨r, upto_mem a1 (by omega), ?_⟩)
    have hs : z.Sublist [(r, 0), (r, 1), (r, 2), (r, 3)] := sub_of_sorted _ _ a5 (by simp [ltC]) fun c hc => by
      have h1 := (a6 c hc).resolve_left (hw c hc)
      have h2 : okC c := ho c hc
      unfold okC at h2
      obtain ⟨x, y⟩ := c
      simp only at h1 h2
      simp only [List.mem_cons, List.not_mem_nil, or_false, Prod.mk.injEq]
      omega
    obtain ⟨l, hl, e⟩ := List.mem_map.mp (sub4 hs a3)
    exact List.mem_map.mpr ⟨l, hl, by rw [e]⟩
  | run s f z =>
    obtain ⟨a1, a2, a3, a4, a5, a6, a7⟩ := h
    refine List.mem_append_right _ (List.mem_flatMap.mpr ⟨s, upto_mem a1 (by omega), List.mem_flatMap.mpr ⟨f, upto_mem a3 (by omega), List.mem_flatMap.mpr ⟨z.length, List.mem_range.mpr (by omega), ?_⟩⟩⟩)
    rw [if_pos ⟨a4, a5⟩, List.mem_singleton]
    have hz : z = runZ s f z.length := List.ext_getElem (by simp [runZ_len]) fun j h1 h2 => by
      rw [runZ_get]
      exact (a6 j h1).resolve_right fun c => hw _ (List.getElem_mem h1) c
    rw [← hz]
theorem melds_plain {cs : List Card} (H : Hand cs) (hw : ∀ c ∈ cs, c.1 ≠ 0) : (melds cs).Perm ((plainSets ++ plainRuns).filter (inside cs)) := by
  refine (List.perm_ext_iff_of_nodup (melds_nd H) (plain_nd.filter _)).mpr fun m => ?_
  rw [mem_melds H, List.mem_filter]
  have hi : inside cs m = true ↔ ∀ c ∈ m.cards, c ∈ cs := by
    unfold inside
    simp [List.all_eq_true]
  rw [hi]
  constructor
  · rintro ⟨h1, h2⟩
    exact ⟨plain_mem h1 (fun c hc => H.ok c (h2 c hc)) fun c hc => hw c (h2 c hc), h2⟩
  · rintro ⟨h1, h2⟩
    exact ⟨(meldB_iff.mp (List.all_eq_true.mp plain_ok m h1)).1, h2⟩
def isRunM : Meld → Bool
  | .run _ _ _ => true
  | _ => false
theorem sets_not : ∀ m ∈ plainSets, isRunM m = false := by
  intro m hm
  obtain ⟨r, _, h⟩ := List.mem_flatMap.mp hm
  obtain ⟨l, _, rfl⟩ := List.mem_map.mp h
  rfl
theorem runs_are : ∀ m ∈ plainRuns, isRunM m = true := by
  intro m hm
  obtain ⟨s, _, h⟩ := List.mem_flatMap.mp hm
  obtain ⟨f, _, h⟩ := List.mem_flatMap.mp h
  obtain ⟨n, _, h⟩ := List.mem_flatMap.mp h
  split at h
  · rw [List.mem_singleton.mp h]; rfl
  · cases h
theorem melds_count {cs : List Card} (H : Hand cs) (hw : ∀ c ∈ cs, c.1 ≠ 0) : (melds cs).length = (plainSets.filter (inside cs)).length + (plainRuns.filter (inside cs)).length ∧ ((melds cs).filter isRunM).length = (plainRuns.filter (inside cs)).length := by
  have hp := melds_plain H hw
  rw [List.filter_append] at hp
  refine ⟨by rw [hp.length_eq, List.length_append], ?_⟩
  rw [(hp.filter isRunM).length_eq, List.filter_append, List.length_append]
  have e1 : (plainSets.filter (inside cs)).filter isRunM = [] := by
    rw [List.filter_eq_nil_iff]
    intro m hm
    rw [sets_not m (List.mem_filter.mp hm).1]; simp
  have e2 : (plainRuns.filter (inside cs)).filter isRunM = plainRuns.filter (inside cs) := by
    rw [List.filter_eq_self]
    intro m hm
    exact runs_are m (List.mem_filter.mp hm).1
  rw [e1, e2]; simp
theorem hand14_ok {first suit : Int} {long cnt : Nat} (h1 : 1 ≤ first) (h2 : first + long ≤ 12) (h3 : 0 ≤ suit) (h4 : suit ≤ 3) (h5 : cnt ≤ 4) : Hand (hand14 first suit long cnt) ∧ ∀ c ∈ hand14 first suit long cnt, c.1 ≠ 0 := by
  have hc : ∀ c ∈ hand14 first suit long cnt, 1 ≤ c.1 ∧ c.1 ≤ 13 ∧ 0 ≤ c.2 ∧ c.2 ≤ 3 := fun c hc => by
    rcases List.mem_append.mp hc with h | h
    · obtain ⟨k, hk, rfl⟩ := List.mem_map.mp h
      have := List.mem_range.mp hk
      simp only
      omega
    · obtain ⟨k, hk, rfl⟩ := List.mem_map.mp h
      simp only
      omega
  refine ⟨⟨?_, fun c h => .inr (hc c h)⟩, fun c h => by have := hc c h; omega⟩
  unfold hand14
  rw [List.nodup_append]
  refine ⟨?_, ?_, fun a ha b hb e => ?_⟩
  · refine List.pairwise_map.mpr (List.Pairwise.imp (fun {a b} hab e => ?_) (List.pairwise_lt_range (n := long)))
    injection e with e _
    omega
  · refine List.pairwise_map.mpr (List.Pairwise.imp_of_mem (fun {a b} ha hb hab e => ?_) (List.pairwise_lt_range (n := cnt)))
    have := List.mem_range.mp ha
    have := List.mem_range.mp hb
    injection e with _ e
    omega
  · subst e
    obtain ⟨k, hk, rfl⟩ := List.mem_map.mp ha
    obtain ⟨j, hj, e⟩ := List.mem_map.mp hb
    have := List.mem_range.mp hk
    injection e with e _
    omega
theorem count_of {first suit : Int} {long cnt : Nat} (h1 : 1 ≤ first) (h2 : first ≤ 6) (h3 : 0 ≤ suit) (h4 : suit ≤ 3) (h5 : cnt ≤ 4) (h6 : long ≤ 6) :
    (melds (hand14 first suit long cnt)).length = due2 cnt + due1 long ∧ ((melds (hand14 first suit long cnt)).filter isRunM).length = due1 long := by
  obtain ⟨H, hw⟩ := hand14_ok (first := first) (suit := suit) (long := long) (cnt := cnt) h1 (by omega) h3 h4 h5
  obtain ⟨c1, c2⟩ := melds_count H hw
  obtain ⟨f, rfl⟩ : ∃ f : Nat, first = 1 + (f : Int) := ⟨(first - 1).toNat, by omega⟩
  obtain ⟨s, rfl⟩ : ∃ s : Nat, suit = (s : Int) := ⟨suit.toNat, by omega⟩
  have hh := List.all_eq_true.mp (count14 f s (by omega) (by omega)) long (List.mem_range.mpr (by omega))
  have hh := List.all_eq_true.mp hh cnt (List.mem_range.mpr (by omega))
  rw [Bool.and_eq_true, beq_iff_eq, beq_iff_eq] at hh
  rw [c1, c2, hh.1, hh.2]
  exact ⟨rfl, rfl⟩
end Mt

set_option Elab.async false
set_option linter.all false
set_option maxRecDepth 100000
set_option maxHeartbeats 1000000
/-! law k14: how many melds. -/
namespace Mt
open PySem PySem.Spec PyProof.Rows L2
def F_law_k14 : FnS := ⟨1, m1 decS fun _ => .ok (.bool true), true⟩
theorem upto_rg (n : Nat) : upto 0 (n : Int) = (List.range n).map fun (k : Nat) => (k : Int) := by
  unfold upto
  simp
theorem due1_at {n : Nat} (h : n ≤ 6) : ixD (.list [.int 0, .int 0, .int 0, .int 1, .int 3, .int 6, .int 10]) (.int (n : Nat)) = .ok (.int (due1 n : Nat)) := by
  have : n = 0 ∨ n = 1 ∨ n = 2 ∨ n = 3 ∨ n = 4 ∨ n = 5 ∨ n = 6 := by omega
  rcases this with rfl | rfl | rfl | rfl | rfl | rfl | rfl <;> rfl
theorem due2_at {n : Nat} (h : n ≤ 4) : ixD (.list [.int 0, .int 0, .int 0, .int 1, .int 5]) (.int (n : Nat)) = .ok (.int (due2 n : Nat)) := by
  have : n = 0 ∨ n = 1 ∨ n = 2 ∨ n = 3 ∨ n = 4 := by omega
  rcases this with rfl | rfl | rfl | rfl | rfl <;> rfl
theorem run_law_k14 {Φ : Nat → FnS} {n : Nat} (h4 : Φ 4 = F_law_mixed) (h14 : Φ 14 = F_melds_of) (ds : List D) (r : D) (h : F_law_k14.m ds = .ok r) : runF Φ n c_law_k14 n_law_k14.length ds = .ok r := by
  obtain ⟨d, ns, rfl, h1, hf⟩ := m1_inv h
  cases decS_eq h1
  cases hf
  have e : startS n_law_k14.length [encS ns] = [.imm (encS ns), .dead, .dead, .dead, .dead, .dead, .dead, .dead, .dead, .dead, .dead, .dead, .dead, .dead, .dead, .dead] := rfl
  rw [runF, e, c_law_k14]
  obtain ⟨x, hx⟩ : ∃ x, x = mixed ns 0 := ⟨_, rfl⟩
  have km := k_mixed h4 ns 0 (by decide)
  rw [← hx] at km
  obtain ⟨l, hl⟩ : ∃ l : Nat, x / 8 % 7 = (l : Int) := ⟨(x / 8 % 7).toNat, by omega⟩
  obtain ⟨c, hc⟩ : ∃ c : Nat, x / 256 % 5 = (c : Int) := ⟨(x / 256 % 5).toNat, by omega⟩
  have hl6 : l ≤ 6 := by omega
  have hc4 : c ≤ 4 := by omega
  rw [seq_nx (asg_imm (v := .int x) (by simp [rdS, km]) (fun _ q => nomatch q))]
  rw [seq_nx (asg_imm (v := .int (1 + x % 6)) (by simp [rdS, q_mod _ 6 (by decide)]) (fun _ q => nomatch q))]
  rw [seq_nx (asg_imm (v := .int (l : Nat)) (by simp [rdS, q_div _ 8 (by decide), q_mod _ 7 (by decide), hl]) (fun _ q => nomatch q))]
  rw [seq_nx (asg_imm (v := .int (x / 64 % 4)) (by simp [rdS, q_div _ 64 (by decide), q_mod _ 4 (by decide)]) (fun _ q => nomatch q))]
  simp only [List.set]
  obtain ⟨f, hf⟩ : ∃ f, f = 1 + x % 6 := ⟨_, rfl⟩
  obtain ⟨s, hs⟩ : ∃ s, s = x / 64 % 4 := ⟨_, rfl⟩
  rw [← hf, ← hs]
  have z1 : 1 ≤ f ∧ f ≤ 6 := by omega
  have z2 : 0 ≤ s ∧ s ≤ 3 := by omega
  let A : List Card := (List.range l).map fun (k : Nat) => (f + (k : Int), s)
  let B : List Card := (List.range c).map fun (k : Nat) => ((13 : Int), (s + (k : Int)) % 4)
  rw [seq_nx (asg_own (ds := A.map encC) (by
    rw [lc_map PyData.int (fun k => encC (f + k, s)) (upto 0 (l : Int)) (by
      simp [rdS]
      exact rng_ok (by omega) (by omega) (by omega) (by omega) (by omega)) fun k hk => by
      simp [lcOne, bindT, wipeS, rdS, rdI, strict]; rfl]
    rw [upto_rg, List.map_map, List.map_map]; rfl) rfl)]
  rw [seq_nx (asg_imm (v := .int 13) (by simp) (fun _ q => nomatch q))]
  simp only [List.set]
  rw [seq_nx (asg_own (ds := (List.range c).map fun (k : Nat) => PyData.int ((s + (k : Int)) % 4)) (by
    rw [lc_map PyData.int (fun k => PyData.int ((s + k) % 4)) (upto 0 (c : Int)) (by
      simp [rdS, q_div _ 256 (by decide), q_mod _ 5 (by decide), hc]
      exact rng_ok (by omega) (by omega) (by omega) (by omega) (by omega)) fun k hk => by
      simp [lcOne, bindT, wipeS, rdS, rdI, strict, q_mod _ 4 (by decide)]]
    rw [upto_rg, List.map_map]; rfl) rfl)]
  simp only [List.set]
  rw [seq_nx (asg_own (ds := B.map encC) (by
    rw [lc_map (fun k : Nat => PyData.int ((s + (k : Int)) % 4)) (fun k : Nat => encC (13, (s + (k : Int)) % 4)) (List.range c) (by
      simp [rdS, seqD]) fun k hk => by
      simp [lcOne, bindT, wipeS, rdS, rdI, strict]; rfl]
    rw [List.map_map]; rfl) rfl)]
  simp only [List.set]
  have lB : biD .len [.list (B.map encC)] = .ok (.int (c : Nat)) := by
    show Except.ok (PyData.int ((B.map encC).length : Nat)) = _
    simp [B]
  rw [seq_nx (asg_imm (v := .int ((due1 l : Int) + (due2 c : Int))) (by simp [rdS, strict, lB, due1_at hl6, due2_at hc4]) (fun _ q => nomatch q))]
  simp only [List.set]
  have hAB : A ++ B = hand14 f s l c := rfl
  have lAB : (A ++ B).length ≤ 10 := by simp [A, B]; omega
  have cat : binD .Add (.list (A.map encC)) (.list (B.map encC)) = .ok (.list ((A ++ B).map encC)) := by
    rw [List.map_append]
    exact add_LL _ _ (by simp only [List.length_map]; rw [← List.length_append]; omega)
  rw [seq_nx (asg_own (ds := (A ++ B).map encC) (by simp [rdS, cat, -List.map_append]) rfl)]
  simp only [List.set]
  obtain ⟨H, hw⟩ := hand14_ok (first := f) (suit := s) (long := l) (cnt := c) z1.1 (by omega) z2.1 z2.2 hc4
  obtain ⟨c1, c2⟩ := count_of (first := f) (suit := s) (long := l) (cnt := c) z1.1 z1.2 z2.1 z2.2 hc4 hl6
  rw [← hAB] at H hw c1 c2
  have Hr : Hand (A ++ B).reverse := H.perm (List.reverse_perm _).symm
  have er := melds_perm (List.reverse_perm (A ++ B))
  obtain ⟨cs, ecs, Hcs, mcs⟩ : ∃ cs, (if (decide (x / 2048 % 2 = 1)) = true then (A ++ B).reverse else A ++ B) = cs ∧ Hand cs ∧ melds cs = melds (A ++ B) := by
    refine ⟨_, rfl, ?_, ?_⟩ <;> split
    · exact Hr
    · exact H
    · exact er
    · rfl
  have rvL : revD (.list ((A ++ B).map encC)) = .ok (.list ((A ++ B).reverse.map encC)) := by
    show Except.ok (PyData.list ((A ++ B).map encC).reverse) = _
    rw [← List.map_reverse]
  rw [seq_nx (τ := [.imm (encS ns), .imm (.int x), .imm (.int f), .imm (.int (l : Nat)), .imm (.int s), .own (A.map encC), .imm (.int 13), .own ((List.range c).map fun (k : Nat) => PyData.int ((s + (k : Int)) % 4)), .own (B.map encC), .imm (.int ((due1 l : Int) + (due2 c : Int))), .own (cs.map encC), .dead, .dead, .dead, .dead, .dead]) (by
    rw [← ecs]
    by_cases q : x / 2048 % 2 = 1
    · rw [if_pos (decide_eq_true q)]
      rw [q_ite]
      simp only [q_cmp, q_bin, q_var, rdS, List.getElem?_cons_zero, List.getElem?_cons_succ, q_bd, q_cI, q_div _ 2048 (by decide), q_mod _ 2 (by decide), q, q_eqI, decide_true, q_asB, if_true]
      rw [q_seq, asg_own (ds := (A ++ B).reverse.map encC) (by simp [rdS, rvL, -List.map_append, -List.map_reverse, -List.reverse_append]) rfl]
      rfl
    · rw [if_neg (by simp [q])]
      simp [rdS, q_div _ 2048 (by decide), q_mod _ 2 (by decide), q])]
  have few := melds_few Hcs
  have kk := k_melds_of h14 cs Hcs.cardsOk
  have tp : biD .tuple [.list (cs.map encC)] = .ok (encT cs) := rfl
  rw [seq_nx (asg_imm (v := encTM (melds cs)) (by simp [rdS, tp, kk]) (fun _ q => nomatch q))]
  simp only [List.set]
  have i0 : ∀ m : Meld, ∃ y, ixD (encM m) (.int 0) = .ok (.str y) ∧ (decide (y = "run") = isRunM m) := fun m => by
    cases m with
    | set r z => exact ⟨_, rfl, show decide (("set" : Str) = "run") = false by decide⟩
    | run s f z => exact ⟨_, rfl, show decide (("run" : Str) = "run") = true by decide⟩
  rw [seq_nx (asg_own (ds := ((melds cs).filter isRunM).map encM) (by
    rw [lc_filter encM isRunM encM (melds cs) rfl fun m _ => by
      obtain ⟨y, y1, y2⟩ := i0 m
      simp [lcOne, bindT, wipeS, rdS, rdI, strict, y1, y2]]) rfl)]
  simp only [List.set]
  have lM : biD .len [encTM (melds cs)] = .ok (.int ((melds cs).length : Nat)) := by
    show Except.ok (PyData.int (((melds cs).map encM).length : Nat)) = _
    rw [List.length_map]
  have lR : biD .len [.list (((melds cs).filter isRunM).map encM)] = .ok (.int (((melds cs).filter isRunM).length : Nat)) := by
    show Except.ok (PyData.int ((((melds cs).filter isRunM).map encM).length : Nat)) = _
    rw [List.length_map]
  have hset := lenSet_M (melds_nd Hcs) few
  rw [mcs] at lM lR hset ⊢
  rw [c1] at lM hset
  rw [c2] at lR
  have a1 : (((due2 c + due1 l : Nat) : Int) = (due1 l : Int) + (due2 c : Int)) := by omega
  have a2 : (((due2 c + due1 l : Nat) : Int) - (due1 l : Int) = (due2 c : Int)) := by omega
  simp [rdS, strict, lM, lR, hset, lB, due2_at hc4, a1]
  try omega
theorem m_law_k14 (ns : List Int) : F_law_k14.m [.list (ns.map .int)] = .ok (.bool true) := m1_ok (decS_enc ns)
end Mt

set_option maxHeartbeats 0
namespace J
open PySem PySem.Spec PyProof.Rows L2 Mt
def top (i : Nat) : Stmt := PySem.Challenge.pw_meldtable_k14_whole_how_many_melds.main.body.getD i (.Pass ⟨0, 0, 0, 0⟩)
abbrev s_is_wild : Stmt := top 5
abbrev s_choices : Stmt := top 7
abbrev s_sets_of : Stmt := top 8
abbrev s_fillings : Stmt := top 9
abbrev s_runs_from : Stmt := top 10
abbrev s_runs_of : Stmt := top 11
abbrev s_melds_of : Stmt := top 12
abbrev s_law_cell_at : Stmt := top 14
abbrev s_law_mixed : Stmt := top 15
abbrev s_law_k14 : Stmt := top 16
def gB : List Str := ["sorted", "len", "tuple", "list", "range", "min", "set"]
def gI : List (Str × Int) := [("MOST_RANK", 13), ("MOST_SUIT", 3), ("WILD", 0), ("LEAST_MELD", 3)]
def gS : List (Str × Str) := []
def Φ : Nat → FnS
  | 0 => F_is_wild
  | 3 => F_law_cell_at
  | 4 => F_law_mixed
  | 9 => F_choices
  | 10 => F_sets_of
  | 11 => F_fillings
  | 12 => F_runs_from
  | 13 => F_runs_of
  | 14 => F_melds_of
  | 15 => F_law_k14
  | _ => ⟨0, fun _ => stk, false⟩
def g_is_wild : GE := ⟨gB, gI, gS, []⟩
theorem sc_is_wild : FnScope n_is_wild ["card"] (defScope s_is_wild) := ⟨rfl, rfl, rfl, by decide +kernel, rfl, by decide +kernel, by decide +kernel⟩
theorem ck_is_wild : chkB g_is_wild n_is_wild (defScope s_is_wild) c_is_wild (defBody s_is_wild) = true := by decide +kernel
def g_choices : GE := ⟨gB, gI, gS, []⟩
theorem sc_choices : FnScope n_choices ["cards"] (defScope s_choices) := ⟨rfl, rfl, rfl, by decide +kernel, rfl, by decide +kernel, by decide +kernel⟩
theorem ck_choices : chkB g_choices n_choices (defScope s_choices) c_choices (defBody s_choices) = true := by decide +kernel
def g_sets_of : GE := ⟨gB, gI, gS, [(9, "choices")]⟩
theorem sc_sets_of : FnScope n_sets_of ["rank", "cards", "wilds"] (defScope s_sets_of) := ⟨rfl, rfl, rfl, by decide +kernel, rfl, by decide +kernel, by decide +kernel⟩
theorem ck_sets_of : chkB g_sets_of n_sets_of (defScope s_sets_of) c_sets_of (defBody s_sets_of) = true := by decide +kernel
def g_fillings : GE := ⟨gB, gI, gS, []⟩
theorem sc_fillings : FnScope n_fillings ["wished", "gaps", "wilds"] (defScope s_fillings) := ⟨rfl, rfl, rfl, by decide +kernel, rfl, by decide +kernel, by decide +kernel⟩
theorem ck_fillings : chkB g_fillings n_fillings (defScope s_fillings) c_fillings (defBody s_fillings) = true := by decide +kernel
def g_runs_from : GE := ⟨gB, gI, gS, [(11, "fillings")]⟩
theorem sc_runs_from : FnScope n_runs_from ["suit", "first", "cards", "wilds"] (defScope s_runs_from) := ⟨rfl, rfl, rfl, by decide +kernel, rfl, by decide +kernel, by decide +kernel⟩
theorem ck_runs_from : chkB g_runs_from n_runs_from (defScope s_runs_from) c_runs_from (defBody s_runs_from) = true := by decide +kernel
def g_runs_of : GE := ⟨gB, gI, gS, [(12, "runs_from")]⟩
theorem sc_runs_of : FnScope n_runs_of ["suit", "cards", "wilds"] (defScope s_runs_of) := ⟨rfl, rfl, rfl, by decide +kernel, rfl, by decide +kernel, by decide +kernel⟩
theorem ck_runs_of : chkB g_runs_of n_runs_of (defScope s_runs_of) c_runs_of (defBody s_runs_of) = true := by decide +kernel
def g_melds_of : GE := ⟨gB, gI, gS, [(0, "is_wild"), (10, "sets_of"), (13, "runs_of")]⟩
theorem sc_melds_of : FnScope n_melds_of ["cards"] (defScope s_melds_of) := ⟨rfl, rfl, rfl, by decide +kernel, rfl, by decide +kernel, by decide +kernel⟩
theorem ck_melds_of : chkB g_melds_of n_melds_of (defScope s_melds_of) c_melds_of (defBody s_melds_of) = true := by decide +kernel
def g_law_cell_at : GE := ⟨gB, gI, gS, []⟩
theorem sc_law_cell_at : FnScope n_law_cell_at ["script", "k"] (defScope s_law_cell_at) := ⟨rfl, rfl, rfl, by decide +kernel, rfl, by decide +kernel, by decide +kernel⟩
theorem ck_law_cell_at : chkB g_law_cell_at n_law_cell_at (defScope s_law_cell_at) c_law_cell_at (defBody s_law_cell_at) = true := by decide +kernel
def g_law_mixed : GE := ⟨gB, gI, gS, [(3, "_law_cell_at")]⟩
theorem sc_law_mixed : FnScope n_law_mixed ["script", "k"] (defScope s_law_mixed) := ⟨rfl, rfl, rfl, by decide +kernel, rfl, by decide +kernel, by decide +kernel⟩
theorem ck_law_mixed : chkB g_law_mixed n_law_mixed (defScope s_law_mixed) c_law_mixed (defBody s_law_mixed) = true := by decide +kernel
def g_law_k14 : GE := ⟨gB, gI, gS, [(4, "_law_mixed"), (14, "melds_of")]⟩
theorem sc_law_k14 : FnScope n_law_k14 ["script"] (defScope s_law_k14) := ⟨rfl, rfl, rfl, by decide +kernel, rfl, by decide +kernel, by decide +kernel⟩
theorem ck_law_k14 : chkB g_law_k14 n_law_k14 (defScope s_law_k14) c_law_k14 (defBody s_law_k14) = true := by decide +kernel
def d_is_wild : He.DefD := ⟨("is_wild", none), "is_wild", "is_wild", defArgs s_is_wild, defBody s_is_wild, defScope s_is_wild, [], []⟩
def d_choices : He.DefD := ⟨("choices", none), "choices", "choices", defArgs s_choices, defBody s_choices, defScope s_choices, [], []⟩
def d_sets_of : He.DefD := ⟨("sets_of", none), "sets_of", "sets_of", defArgs s_sets_of, defBody s_sets_of, defScope s_sets_of, [], []⟩
def d_fillings : He.DefD := ⟨("fillings", none), "fillings", "fillings", defArgs s_fillings, defBody s_fillings, defScope s_fillings, [], []⟩
def d_runs_from : He.DefD := ⟨("runs_from", none), "runs_from", "runs_from", defArgs s_runs_from, defBody s_runs_from, defScope s_runs_from, [], []⟩
def d_runs_of : He.DefD := ⟨("runs_of", none), "runs_of", "runs_of", defArgs s_runs_of, defBody s_runs_of, defScope s_runs_of, [], []⟩
def d_melds_of : He.DefD := ⟨("melds_of", none), "melds_of", "melds_of", defArgs s_melds_of, defBody s_melds_of, defScope s_melds_of, [], []⟩
def d_law_cell_at : He.DefD := ⟨("_law_cell_at", none), "_law_cell_at", "_law_cell_at", defArgs s_law_cell_at, defBody s_law_cell_at, defScope s_law_cell_at, [], []⟩
def d_law_mixed : He.DefD := ⟨("_law_mixed", none), "_law_mixed", "_law_mixed", defArgs s_law_mixed, defBody s_law_mixed, defScope s_law_mixed, [], []⟩
def d_law_k14 : He.DefD := ⟨("law", none), "law", "law", defArgs s_law_k14, defBody s_law_k14, defScope s_law_k14, [], []⟩
def fn : List He.DefD := [d_is_wild, d_choices, d_sets_of, d_fillings, d_runs_from, d_runs_of, d_melds_of, d_law_cell_at, d_law_mixed, d_law_k14]
def fa : List He.Fa := [.glo "is_wild", .glo "choices", .glo "sets_of", .glo "fillings", .glo "runs_from", .glo "runs_of", .glo "melds_of", .glo "_law_cell_at", .glo "_law_mixed", .glo "law", .free "sorted", .free "len", .free "tuple", .free "list", .free "range", .free "min", .free "set", .int "MOST_RANK" 13, .int "MOST_SUIT" 3, .int "WILD" 0, .int "LEAST_MELD" 3]
abbrev hk : PySem.W.Hook := He.hookD 4 fa fn
def ob (s : PySem.W.SharedT) : He.AlD := He.obsDG 4 fa fn (HandSHeadRun.getT s)
theorem ob_eq (s : PySem.W.SharedT) : ob s = hk.obs s.abs := He.obsDG_eq (HandSHeadRun.getT_eq s)
def loose : List PySem.Str := ["is_wild", "choices", "sets_of", "fillings", "runs_from", "runs_of", "melds_of", "_law_cell_at", "_law_mixed", "MOST_RANK", "MOST_SUIT", "WILD", "LEAST_MELD"]
theorem run (w : World) : HandSHeadRun.RunEq (PySem.W.OpenLaw.row PySem.Challenge.rw_meldtable_k14_whole_how_many_melds) (PySem.W.view (PySem.W.OpenLaw.row PySem.Challenge.rw_meldtable_k14_whole_how_many_melds).prog [16]) hk ob 2000 loose w := by
  intro os
  kernel_rfl
theorem facts {P : Program} {w : World} {K : PySem.W.Frag} {h : Heap} {mg : Str → Option Value} {f : Addr} (X : K.In h) (G : h.Ns mainGlobals mg) (hfa : mg ("law" : Str) = some (.ref f)) (c : He.SaysD fa fn K) :
    ∃ fd : FuncData, (∀ (s : Shared) (v : Value), BindsTo s fd ⟨[v], []⟩ [("script", v)]) ∧ ∀ base : Heap, K.In base → base.Ns mainGlobals mg → FnOk P w K mg base CX0 5 f fd ["script"] (spF K F_law_k14) := by
  obtain ⟨fd_is_wild, E_is_wild⟩ := c.def_ 0 (d := d_is_wild) rfl
  have D_is_wild : FnP K "is_wild" s_is_wild (He.ga K "is_wild") fd_is_wild := E_is_wild
  have m_is_wild := He.glo_ok X G (c.fact 0 (f := .glo "is_wild") rfl)
  obtain ⟨fd_choices, E_choices⟩ := c.def_ 1 (d := d_choices) rfl
  have D_choices : FnP K "choices" s_choices (He.ga K "choices") fd_choices := E_choices
  have m_choices := He.glo_ok X G (c.fact 1 (f := .glo "choices") rfl)
  obtain ⟨fd_sets_of, E_sets_of⟩ := c.def_ 2 (d := d_sets_of) rfl
  have D_sets_of : FnP K "sets_of" s_sets_of (He.ga K "sets_of") fd_sets_of := E_sets_of
  have m_sets_of := He.glo_ok X G (c.fact 2 (f := .glo "sets_of") rfl)
  obtain ⟨fd_fillings, E_fillings⟩ := c.def_ 3 (d := d_fillings) rfl
  have D_fillings : FnP K "fillings" s_fillings (He.ga K "fillings") fd_fillings := E_fillings
  have m_fillings := He.glo_ok X G (c.fact 3 (f := .glo "fillings") rfl)
  obtain ⟨fd_runs_from, E_runs_from⟩ := c.def_ 4 (d := d_runs_from) rfl
  have D_runs_from : FnP K "runs_from" s_runs_from (He.ga K "runs_from") fd_runs_from := E_runs_from
  have m_runs_from := He.glo_ok X G (c.fact 4 (f := .glo "runs_from") rfl)
  obtain ⟨fd_runs_of, E_runs_of⟩ := c.def_ 5 (d := d_runs_of) rfl
  have D_runs_of : FnP K "runs_of" s_runs_of (He.ga K "runs_of") fd_runs_of := E_runs_of
  have m_runs_of := He.glo_ok X G (c.fact 5 (f := .glo "runs_of") rfl)
  obtain ⟨fd_melds_of, E_melds_of⟩ := c.def_ 6 (d := d_melds_of) rfl
  have D_melds_of : FnP K "melds_of" s_melds_of (He.ga K "melds_of") fd_melds_of := E_melds_of
  have m_melds_of := He.glo_ok X G (c.fact 6 (f := .glo "melds_of") rfl)
  obtain ⟨fd_law_cell_at, E_law_cell_at⟩ := c.def_ 7 (d := d_law_cell_at) rfl
  have D_law_cell_at : FnP K "_law_cell_at" s_law_cell_at (He.ga K "_law_cell_at") fd_law_cell_at := E_law_cell_at
  have m_law_cell_at := He.glo_ok X G (c.fact 7 (f := .glo "_law_cell_at") rfl)
  obtain ⟨fd_law_mixed, E_law_mixed⟩ := c.def_ 8 (d := d_law_mixed) rfl
  have D_law_mixed : FnP K "_law_mixed" s_law_mixed (He.ga K "_law_mixed") fd_law_mixed := E_law_mixed
  have m_law_mixed := He.glo_ok X G (c.fact 8 (f := .glo "_law_mixed") rfl)
  obtain ⟨fd_law_k14, E_law_k14⟩ := c.def_ 9 (d := d_law_k14) rfl
  have D_law_k14 : FnP K "law" s_law_k14 (He.ga K "law") fd_law_k14 := E_law_k14
  have m_law_k14 := He.glo_ok X G (c.fact 9 (f := .glo "law") rfl)
  have gb : ∀ x, gB.contains x = true → mg x = none := gb_cons (He.free_ok X G (c.fact 10 (f := .free "sorted") rfl)) (gb_cons (He.free_ok X G (c.fact 11 (f := .free "len") rfl)) (gb_cons (He.free_ok X G (c.fact 12 (f := .free "tuple") rfl)) (gb_cons (He.free_ok X G (c.fact 13 (f := .free "list") rfl)) (gb_cons (He.free_ok X G (c.fact 14 (f := .free "range") rfl)) (gb_cons (He.free_ok X G (c.fact 15 (f := .free "min") rfl)) (gb_cons (He.free_ok X G (c.fact 16 (f := .free "set") rfl)) (gb_nil)))))))
  have gi : ∀ x i, gI.contains (x, i) = true → ∃ t, mg x = some (.int i t) := gi_cons (He.int_ok X G (c.fact 17 (f := .int "MOST_RANK" 13) rfl)) (gi_cons (He.int_ok X G (c.fact 18 (f := .int "MOST_SUIT" 3) rfl)) (gi_cons (He.int_ok X G (c.fact 19 (f := .int "WILD" 0) rfl)) (gi_cons (He.int_ok X G (c.fact 20 (f := .int "LEAST_MELD" 3) rfl)) (gi_nil))))
  have gs : ∀ x i, gS.contains (x, i) = true → ∃ t, mg x = some (.str i t) := gs_nil
  have e := hfa.symm.trans m_law_k14
  cases e
  have bl := FunD.bindsA (ps := ["script"]) D_law_k14 fun _ _ _ _ _ _ us hl => match us, hl with | [_], _ => rfl
  refine ⟨fd_law_k14, fun s v => bl s [v] rfl, fun base _ _ => ?_⟩
  have O_is_wild : FnOk P w K mg base CX0 1 _ fd_is_wild _ (spF K F_is_wild) := fn_core (k := 0) (n := 200) (G := g_is_wild) (Φ := Φ) D_is_wild sc_is_wild ⟨gb, gi, gs⟩ (gf_nil) ck_is_wild rfl (run_is_wild)
  have I_is_wild : FnIn P w K mg base 1 (Φ 0) "is_wild" := .of D_is_wild m_is_wild (FunD.bindsN D_is_wild fun _ _ _ _ _ _ us hl => match us, hl with | [_], _ => rfl) O_is_wild fl_is_wild ln_is_wild
  have O_choices : FnOk P w K mg base CX0 1 _ fd_choices _ (spF K F_choices) := fn_core (k := 0) (n := 200) (G := g_choices) (Φ := Φ) D_choices sc_choices ⟨gb, gi, gs⟩ (gf_nil) ck_choices rfl (run_choices)
  have I_choices : FnIn P w K mg base 1 (Φ 9) "choices" := .of D_choices m_choices (FunD.bindsN D_choices fun _ _ _ _ _ _ us hl => match us, hl with | [_], _ => rfl) O_choices fl_choices ln_choices
  have O_sets_of : FnOk P w K mg base CX0 2 _ fd_sets_of _ (spF K F_sets_of) := fn_core (k := 1) (n := 200) (G := g_sets_of) (Φ := Φ) D_sets_of sc_sets_of ⟨gb, gi, gs⟩ (gf_cons I_choices (by decide) (gf_nil)) ck_sets_of rfl (run_sets_of (h9 := rfl))
  have I_sets_of : FnIn P w K mg base 2 (Φ 10) "sets_of" := .of D_sets_of m_sets_of (FunD.bindsN D_sets_of fun _ _ _ _ _ _ us hl => match us, hl with | [_, _, _], _ => rfl) O_sets_of fl_sets_of ln_sets_of
  have O_fillings : FnOk P w K mg base CX0 1 _ fd_fillings _ (spF K F_fillings) := fn_core (k := 0) (n := 200) (G := g_fillings) (Φ := Φ) D_fillings sc_fillings ⟨gb, gi, gs⟩ (gf_nil) ck_fillings rfl (run_fillings)
  have I_fillings : FnIn P w K mg base 1 (Φ 11) "fillings" := .of D_fillings m_fillings (FunD.bindsN D_fillings fun _ _ _ _ _ _ us hl => match us, hl with | [_, _, _], _ => rfl) O_fillings fl_fillings ln_fillings
  have O_runs_from : FnOk P w K mg base CX0 2 _ fd_runs_from _ (spF K F_runs_from) := fn_core (k := 1) (n := 200) (G := g_runs_from) (Φ := Φ) D_runs_from sc_runs_from ⟨gb, gi, gs⟩ (gf_cons I_fillings (by decide) (gf_nil)) ck_runs_from rfl (run_runs_from (h11 := rfl))
  have I_runs_from : FnIn P w K mg base 2 (Φ 12) "runs_from" := .of D_runs_from m_runs_from (FunD.bindsN D_runs_from fun _ _ _ _ _ _ us hl => match us, hl with | [_, _, _, _], _ => rfl) O_runs_from fl_runs_from ln_runs_from
  have O_runs_of : FnOk P w K mg base CX0 3 _ fd_runs_of _ (spF K F_runs_of) := fn_core (k := 2) (n := 200) (G := g_runs_of) (Φ := Φ) D_runs_of sc_runs_of ⟨gb, gi, gs⟩ (gf_cons I_runs_from (by decide) (gf_nil)) ck_runs_of rfl (run_runs_of (h12 := rfl))
  have I_runs_of : FnIn P w K mg base 3 (Φ 13) "runs_of" := .of D_runs_of m_runs_of (FunD.bindsN D_runs_of fun _ _ _ _ _ _ us hl => match us, hl with | [_, _, _], _ => rfl) O_runs_of fl_runs_of ln_runs_of
  have O_melds_of : FnOk P w K mg base CX0 4 _ fd_melds_of _ (spF K F_melds_of) := fn_core (k := 3) (n := 200) (G := g_melds_of) (Φ := Φ) D_melds_of sc_melds_of ⟨gb, gi, gs⟩ (gf_cons I_is_wild (by decide) (gf_cons I_sets_of (by decide) (gf_cons I_runs_of (by decide) (gf_nil)))) ck_melds_of rfl (run_melds_of (h0 := rfl) (h10 := rfl) (h13 := rfl))
  have I_melds_of : FnIn P w K mg base 4 (Φ 14) "melds_of" := .of D_melds_of m_melds_of (FunD.bindsN D_melds_of fun _ _ _ _ _ _ us hl => match us, hl with | [_], _ => rfl) O_melds_of fl_melds_of ln_melds_of
  have O_law_cell_at : FnOk P w K mg base CX0 1 _ fd_law_cell_at _ (spF K F_law_cell_at) := fn_core (k := 0) (n := 200) (G := g_law_cell_at) (Φ := Φ) D_law_cell_at sc_law_cell_at ⟨gb, gi, gs⟩ (gf_nil) ck_law_cell_at rfl (run_law_cell_at)
  have I_law_cell_at : FnIn P w K mg base 1 (Φ 3) "_law_cell_at" := .of D_law_cell_at m_law_cell_at (FunD.bindsN D_law_cell_at fun _ _ _ _ _ _ us hl => match us, hl with | [_, _], _ => rfl) O_law_cell_at fl_law_cell_at ln_law_cell_at
  have O_law_mixed : FnOk P w K mg base CX0 2 _ fd_law_mixed _ (spF K F_law_mixed) := fn_core (k := 1) (n := 200) (G := g_law_mixed) (Φ := Φ) D_law_mixed sc_law_mixed ⟨gb, gi, gs⟩ (gf_cons I_law_cell_at (by decide) (gf_nil)) ck_law_mixed rfl (run_law_mixed (h3 := rfl))
  have I_law_mixed : FnIn P w K mg base 2 (Φ 4) "_law_mixed" := .of D_law_mixed m_law_mixed (FunD.bindsN D_law_mixed fun _ _ _ _ _ _ us hl => match us, hl with | [_, _], _ => rfl) O_law_mixed fl_law_mixed ln_law_mixed
  have O_law_k14 : FnOk P w K mg base CX0 5 _ fd_law_k14 _ (spF K F_law_k14) := fn_core (k := 4) (n := 200) (G := g_law_k14) (Φ := Φ) D_law_k14 sc_law_k14 ⟨gb, gi, gs⟩ (gf_cons I_law_mixed (by decide) (gf_cons I_melds_of (by decide) (gf_nil))) ck_law_k14 rfl (run_law_k14 (h4 := rfl) (h14 := rfl))
  exact O_law_k14
end J
open PySem PySem.W PySem.Calls PyProof.Rows
set_option maxHeartbeats 0 in
theorem PySem.Challenge.cw_meldtable_k14_whole_how_many_melds_holds : PySem.Challenge.rw_meldtable_k14_whole_how_many_melds.Holds := by
  w_on; o_law
  refine HandSHeadRun.head_any (r := OpenLaw.row PySem.Challenge.rw_meldtable_k14_whole_how_many_melds) (q := view (OpenLaw.row PySem.Challenge.rw_meldtable_k14_whole_how_many_melds).prog [16]) (H := J.hk) (ob := J.ob) (M := 2000) (loose := J.loose) (d := HandSHeadRun.topDef (OpenLaw.row PySem.Challenge.rw_meldtable_k14_whole_how_many_melds).prog 16) (kwd := []) J.ob_eq
    (by kernel_rfl) (fun s => by kernel_rfl) J.run (by kernel_rfl) (by kernel_rfl) (by kernel_rfl) (by rfl) (by first | assumption | decide +kernel) (by decide +kernel) ⟨rfl, rfl, rfl, rfl, rfl, by decide +kernel⟩ ?hw ?hc
  case hw => w_witness2
  case hc =>
    refine L2.walk_ofE (l := PySem.Challenge.rw_meldtable_k14_whole_how_many_melds) (n := 63) (k := 5) (x := "script") (CX := L2.CX0) rfl (by decide) (by kernel_rfl) ⟨rfl, by decide, by decide⟩ ?F (fun _ _ _ _ z => z)
    intro w mg fa h Y G hmg0
    obtain ⟨K, KX, c⟩ := Y
    have hmg : mg ("law" : PySem.Str) = some (.ref fa) := by
      have e : (HandSHeadRun.topDef (OpenLaw.row PySem.Challenge.rw_meldtable_k14_whole_how_many_melds).prog 16).name = ("law" : PySem.Str) := by kernel_rfl
      rw [← e]
      exact hmg0
    obtain ⟨fd, hb, hF⟩ := J.facts (P := (PySem.Challenge.rw_meldtable_k14_whole_how_many_melds).prog) (w := w) KX G hmg c
    exact ⟨K, fd, Mt.spF K Mt.F_law_k14, KX, hb, fun H a ns hl _ hS => Mt.law_sp rfl (Mt.m_law_k14 ns) hS, hF⟩
